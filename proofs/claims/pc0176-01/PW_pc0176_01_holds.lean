import PyProof.Rows.All
import Wide.All
import OpenK.AllK
import Wide.FinOn
import KE.LcTurns
import Lean
import PySem.Challenge.RW_pc0176_01
set_option Elab.async false
set_option maxRecDepth 100000
set_option linter.all false
local macro_rules | `(tactic| k_all) => `(tactic| k_extra "k_all")
local macro_rules | `(tactic| k_handed) => `(tactic| k_extra "k_handed")
local macro_rules | `(tactic| k_mem) => `(tactic| k_extra "k_mem")
local macro_rules | `(tactic| k_room) => `(tactic| k_extra "k_room")
local macro_rules | `(tactic| k_units) => `(tactic| k_extra "k_units")
local macro_rules | `(tactic| k_upd) => `(tactic| k_extra "k_upd")
local macro_rules | `(tactic| ke_room) => `(tactic| k_extra "ke_room")
local macro_rules | `(tactic| omega) => `(tactic| (k_whole; first | decide | lia))
local macro_rules | `(tactic| size_fits) => `(tactic| k_extra "size_fits")
local macro_rules | `(tactic| walk_at "WhileStep2") => `(tactic| k_extra "WhileStep2")
local macro_rules | `(tactic| walk_at "binaryOp Mod int int") => `(tactic| k_extra "binaryOp Mod int int")
local macro_rules | `(tactic| walk_at "call builtin:len") => `(tactic| k_extra "call builtin:len")
local macro_rules | `(tactic| walk_at "call builtin:sorted") => `(tactic| k_extra "call builtin:sorted")
local macro_rules | `(tactic| walk_at "call ref") => `(tactic| k_extra "call ref")
local macro_rules | `(tactic| walk_at "call type:list") => `(tactic| k_extra "call type:list")
local macro_rules | `(tactic| walk_at "call type:reversed") => `(tactic| k_extra "call type:reversed")
local macro_rules | `(tactic| walk_at "compareOp Is none") => `(tactic| k_extra "compareOp Is none")
local macro_rules | `(tactic| walk_at "compareOp IsNot none") => `(tactic| k_extra "compareOp IsNot none")
local macro_rules | `(tactic| walk_at "getItem ref int") => `(tactic| k_extra "getItem ref int")
local macro_rules | `(tactic| walk_at "getMethod bytes") => `(tactic| k_extra "getMethod bytes")
local macro_rules | `(tactic| walk_at "getMethod ref") => `(tactic| k_extra "getMethod ref")
local macro_rules | `(tactic| walk_at "setAttr ref") => `(tactic| k_extra "setAttr ref")
local macro_rules | `(tactic| walk_at "setItem ref int") => `(tactic| k_extra "setItem ref int")
local macro_rules | `(tactic| walk_at "subscriptTail Attribute") => `(tactic| k_extra "subscriptTail")
local macro_rules | `(tactic| walk_at "subscriptTail Name Slice ref ref") => `(tactic| k_extra "subscriptTail Name Slice ref ref")
local macro_rules | `(tactic| walk_at "subscriptTail Name") => `(tactic| k_extra "subscriptTail")
local macro_rules | `(tactic| walk_at "subscriptTail") => `(tactic| k_extra "subscriptTail")
section
open PySem PySem.W PySem.Spec PySem.Calls PyProof.Rows
namespace Mine
abbrev P0 : Program := PySem.Challenge.pw_pc0176_01
noncomputable def nth : List Stmt → Nat → Stmt
  | [], _ => .Pass ⟨0, 0, 0, 0⟩
  | s :: _, 0 => s
  | _ :: r, n + 1 => nth r n
noncomputable def clsB : Stmt → List Stmt
  | .ClassDef _ _ _ b _ _ _ _ _ _ _ => b
  | _ => []
noncomputable def fnB : Stmt → List Stmt
  | .FunctionDef _ _ b _ _ _ _ _ _ _ => b
  | _ => []
noncomputable def fnA : Stmt → Arguments
  | .FunctionDef _ a _ _ _ _ _ _ _ _ => a
  | _ => ⟨[], [], none, [], [], none, []⟩
noncomputable def fnS : Stmt → Scope
  | .FunctionDef _ _ _ _ _ _ s _ _ _ => s
  | _ => default
noncomputable def tp (i : Nat) : Stmt := nth P0.main.body i
noncomputable def cm (i j : Nat) : Stmt := nth (clsB (tp i)) j
abbrev en (P : Params) (n : String) (t : Tok) (v : Value) : DictEntry := ⟨PyData.keyHash P (Str.ofString n), .str (Str.ofString n) t, v⟩
abbrev F_HeapObject___init__ : Addr := 55
noncomputable def A_HeapObject___init__ : Arguments := fnA (cm 11 1)
noncomputable def B_HeapObject___init__ : List Stmt := fnB (cm 11 1)
noncomputable def S_HeapObject___init__ : Scope := fnS (cm 11 1)
abbrev C_HeapObject : Addr := 58
abbrev C_LightValue : Addr := 79
abbrev F_is_number : Addr := 90
noncomputable def A_is_number : Arguments := fnA (tp 13)
noncomputable def B_is_number : List Stmt := fnB (tp 13)
noncomputable def S_is_number : Scope := fnS (tp 13)
abbrev F_type_of : Addr := 97
noncomputable def A_type_of : Arguments := fnA (tp 14)
noncomputable def B_type_of : List Stmt := fnB (tp 14)
noncomputable def S_type_of : Scope := fnS (tp 14)
abbrev F_raw_equal : Addr := 111
noncomputable def A_raw_equal : Arguments := fnA (tp 16)
noncomputable def B_raw_equal : List Stmt := fnB (tp 16)
noncomputable def S_raw_equal : Scope := fnS (tp 16)
abbrev F_string_hash : Addr := 118
noncomputable def A_string_hash : Arguments := fnA (tp 17)
noncomputable def B_string_hash : List Stmt := fnB (tp 17)
noncomputable def S_string_hash : Scope := fnS (tp 17)
abbrev F_log2 : Addr := 125
noncomputable def A_log2 : Arguments := fnA (tp 18)
noncomputable def B_log2 : List Stmt := fnB (tp 18)
noncomputable def S_log2 : Scope := fnS (tp 18)
abbrev F_ceil_log2 : Addr := 132
noncomputable def A_ceil_log2 : Arguments := fnA (tp 19)
noncomputable def B_ceil_log2 : List Stmt := fnB (tp 19)
noncomputable def S_ceil_log2 : Scope := fnS (tp 19)
abbrev F_Node___init__ : Addr := 167
noncomputable def A_Node___init__ : Arguments := fnA (cm 28 0)
noncomputable def B_Node___init__ : List Stmt := fnB (cm 28 0)
noncomputable def S_Node___init__ : Scope := fnS (cm 28 0)
abbrev F_Node_moved_to : Addr := 174
noncomputable def A_Node_moved_to : Arguments := fnA (cm 28 1)
noncomputable def B_Node_moved_to : List Stmt := fnB (cm 28 1)
noncomputable def S_Node_moved_to : Scope := fnS (cm 28 1)
abbrev C_Node : Addr := 177
abbrev F_array_index : Addr := 188
noncomputable def A_array_index : Arguments := fnA (tp 29)
noncomputable def B_array_index : List Stmt := fnB (tp 29)
noncomputable def S_array_index : Scope := fnS (tp 29)
abbrev F_compute_sizes : Addr := 195
noncomputable def A_compute_sizes : Arguments := fnA (tp 30)
noncomputable def B_compute_sizes : List Stmt := fnB (tp 30)
noncomputable def S_compute_sizes : Scope := fnS (tp 30)
abbrev F_count_key : Addr := 202
noncomputable def A_count_key : Arguments := fnA (tp 31)
noncomputable def B_count_key : List Stmt := fnB (tp 31)
noncomputable def S_count_key : Scope := fnS (tp 31)
abbrev F_Table___init__ : Addr := 217
noncomputable def A_Table___init__ : Arguments := fnA (cm 32 1)
noncomputable def B_Table___init__ : List Stmt := fnB (cm 32 1)
noncomputable def S_Table___init__ : Scope := fnS (cm 32 1)
abbrev F_Table_main_position : Addr := 224
noncomputable def A_Table_main_position : Arguments := fnA (cm 32 2)
noncomputable def B_Table_main_position : List Stmt := fnB (cm 32 2)
noncomputable def S_Table_main_position : Scope := fnS (cm 32 2)
abbrev F_Table_find_node : Addr := 231
noncomputable def A_Table_find_node : Arguments := fnA (cm 32 3)
noncomputable def B_Table_find_node : List Stmt := fnB (cm 32 3)
noncomputable def S_Table_find_node : Scope := fnS (cm 32 3)
abbrev F_Table_free_position : Addr := 238
noncomputable def A_Table_free_position : Arguments := fnA (cm 32 4)
noncomputable def B_Table_free_position : List Stmt := fnB (cm 32 4)
noncomputable def S_Table_free_position : Scope := fnS (cm 32 4)
abbrev F_Table_get_int : Addr := 245
noncomputable def A_Table_get_int : Arguments := fnA (cm 32 5)
noncomputable def B_Table_get_int : List Stmt := fnB (cm 32 5)
noncomputable def S_Table_get_int : Scope := fnS (cm 32 5)
abbrev F_Table_get : Addr := 259
noncomputable def A_Table_get : Arguments := fnA (cm 32 7)
noncomputable def B_Table_get : List Stmt := fnB (cm 32 7)
noncomputable def S_Table_get : Scope := fnS (cm 32 7)
abbrev F_Table_set : Addr := 266
noncomputable def A_Table_set : Arguments := fnA (cm 32 8)
noncomputable def B_Table_set : List Stmt := fnB (cm 32 8)
noncomputable def S_Table_set : Scope := fnS (cm 32 8)
abbrev F_Table_put : Addr := 287
noncomputable def A_Table_put : Arguments := fnA (cm 32 11)
noncomputable def B_Table_put : List Stmt := fnB (cm 32 11)
noncomputable def S_Table_put : Scope := fnS (cm 32 11)
abbrev F_Table_new_key : Addr := 294
noncomputable def A_Table_new_key : Arguments := fnA (cm 32 12)
noncomputable def B_Table_new_key : List Stmt := fnB (cm 32 12)
noncomputable def S_Table_new_key : Scope := fnS (cm 32 12)
abbrev F_Table_put_again : Addr := 301
noncomputable def A_Table_put_again : Arguments := fnA (cm 32 13)
noncomputable def B_Table_put_again : List Stmt := fnB (cm 32 13)
noncomputable def S_Table_put_again : Scope := fnS (cm 32 13)
abbrev F_Table_count_array : Addr := 308
noncomputable def A_Table_count_array : Arguments := fnA (cm 32 14)
noncomputable def B_Table_count_array : List Stmt := fnB (cm 32 14)
noncomputable def S_Table_count_array : Scope := fnS (cm 32 14)
abbrev F_Table_count_nodes : Addr := 315
noncomputable def A_Table_count_nodes : Arguments := fnA (cm 32 15)
noncomputable def B_Table_count_nodes : List Stmt := fnB (cm 32 15)
noncomputable def S_Table_count_nodes : Scope := fnS (cm 32 15)
abbrev F_Table_rehash : Addr := 322
noncomputable def A_Table_rehash : Arguments := fnA (cm 32 16)
noncomputable def B_Table_rehash : List Stmt := fnB (cm 32 16)
noncomputable def S_Table_rehash : Scope := fnS (cm 32 16)
abbrev F_Table_resize : Addr := 330
noncomputable def A_Table_resize : Arguments := fnA (cm 32 17)
noncomputable def B_Table_resize : List Stmt := fnB (cm 32 17)
noncomputable def S_Table_resize : Scope := fnS (cm 32 17)
abbrev F_Table_put_back : Addr := 337
noncomputable def A_Table_put_back : Arguments := fnA (cm 32 18)
noncomputable def B_Table_put_back : List Stmt := fnB (cm 32 18)
noncomputable def S_Table_put_back : Scope := fnS (cm 32 18)
abbrev F_Table_make_nodes : Addr := 342
noncomputable def A_Table_make_nodes : Arguments := fnA (cm 32 19)
noncomputable def B_Table_make_nodes : List Stmt := fnB (cm 32 19)
noncomputable def S_Table_make_nodes : Scope := fnS (cm 32 19)
abbrev F_Table_weigh : Addr := 356
noncomputable def A_Table_weigh : Arguments := fnA (cm 32 21)
noncomputable def B_Table_weigh : List Stmt := fnB (cm 32 21)
noncomputable def S_Table_weigh : Scope := fnS (cm 32 21)
abbrev F_Table_length : Addr := 377
noncomputable def A_Table_length : Arguments := fnA (cm 32 24)
noncomputable def B_Table_length : List Stmt := fnB (cm 32 24)
noncomputable def S_Table_length : Scope := fnS (cm 32 24)
abbrev F_Table_unbound_search : Addr := 384
noncomputable def A_Table_unbound_search : Arguments := fnA (cm 32 25)
noncomputable def B_Table_unbound_search : List Stmt := fnB (cm 32 25)
noncomputable def S_Table_unbound_search : Scope := fnS (cm 32 25)
abbrev C_Table : Addr := 408
abbrev F_free_number : Addr := 417
noncomputable def A_free_number : Arguments := fnA (tp 35)
noncomputable def B_free_number : List Stmt := fnB (tp 35)
noncomputable def S_free_number : Scope := fnS (tp 35)
abbrev F_keep_value : Addr := 424
noncomputable def A_keep_value : Arguments := fnA (tp 36)
noncomputable def B_keep_value : List Stmt := fnB (tp 36)
noncomputable def S_keep_value : Scope := fnS (tp 36)
abbrev F_drop_value : Addr := 431
noncomputable def A_drop_value : Arguments := fnA (tp 37)
noncomputable def B_drop_value : List Stmt := fnB (tp 37)
noncomputable def S_drop_value : Scope := fnS (tp 37)
abbrev F_dotted_table : Addr := 438
noncomputable def A_dotted_table : Arguments := fnA (tp 38)
noncomputable def B_dotted_table : List Stmt := fnB (tp 38)
noncomputable def S_dotted_table : Scope := fnS (tp 38)
abbrev F_PlainHeap___init__ : Addr := 452
noncomputable def A_PlainHeap___init__ : Arguments := fnA (cm 40 0)
noncomputable def B_PlainHeap___init__ : List Stmt := fnB (cm 40 0)
noncomputable def S_PlainHeap___init__ : Scope := fnS (cm 40 0)
abbrev F_PlainHeap_link : Addr := 459
noncomputable def A_PlainHeap_link : Arguments := fnA (cm 40 1)
noncomputable def B_PlainHeap_link : List Stmt := fnB (cm 40 1)
noncomputable def S_PlainHeap_link : Scope := fnS (cm 40 1)
abbrev F_PlainHeap_new_table : Addr := 466
noncomputable def A_PlainHeap_new_table : Arguments := fnA (cm 40 2)
noncomputable def B_PlainHeap_new_table : List Stmt := fnB (cm 40 2)
noncomputable def S_PlainHeap_new_table : Scope := fnS (cm 40 2)
abbrev F_PlainHeap_resized : Addr := 508
noncomputable def A_PlainHeap_resized : Arguments := fnA (cm 40 8)
noncomputable def B_PlainHeap_resized : List Stmt := fnB (cm 40 8)
noncomputable def S_PlainHeap_resized : Scope := fnS (cm 40 8)
abbrev F_PlainHeap_barrier_table : Addr := 529
noncomputable def A_PlainHeap_barrier_table : Arguments := fnA (cm 40 11)
noncomputable def B_PlainHeap_barrier_table : List Stmt := fnB (cm 40 11)
noncomputable def S_PlainHeap_barrier_table : Scope := fnS (cm 40 11)
abbrev C_PlainHeap : Addr := 539
abbrev F_ulaw_take : Addr := 550
noncomputable def A_ulaw_take : Arguments := fnA (tp 42)
noncomputable def B_ulaw_take : List Stmt := fnB (tp 42)
noncomputable def S_ulaw_take : Scope := fnS (tp 42)
abbrev F_ulaw_draws : Addr := 555
noncomputable def A_ulaw_draws : Arguments := fnA (tp 43)
noncomputable def B_ulaw_draws : List Stmt := fnB (tp 43)
noncomputable def S_ulaw_draws : Scope := fnS (tp 43)
abbrev F_ulaw_value : Addr := 562
noncomputable def A_ulaw_value : Arguments := fnA (tp 44)
noncomputable def B_ulaw_value : List Stmt := fnB (tp 44)
noncomputable def S_ulaw_value : Scope := fnS (tp 44)
abbrev F_ulaw_is : Addr := 569
noncomputable def A_ulaw_is : Arguments := fnA (tp 45)
noncomputable def B_ulaw_is : List Stmt := fnB (tp 45)
noncomputable def S_ulaw_is : Scope := fnS (tp 45)
abbrev F_ulaw_kept_right : Addr := 574
noncomputable def A_ulaw_kept_right : Arguments := fnA (tp 46)
noncomputable def B_ulaw_kept_right : List Stmt := fnB (tp 46)
noncomputable def S_ulaw_kept_right : Scope := fnS (tp 46)
abbrev F_ulaw_names_right : Addr := 579
noncomputable def A_ulaw_names_right : Arguments := fnA (tp 47)
noncomputable def B_ulaw_names_right : List Stmt := fnB (tp 47)
noncomputable def S_ulaw_names_right : Scope := fnS (tp 47)
abbrev F_law : Addr := 586
noncomputable def A_law : Arguments := fnA (tp 48)
noncomputable def B_law : List Stmt := fnB (tp 48)
noncomputable def S_law : Scope := fnS (tp 48)
noncomputable def KK : Params → Frag := fun P =>
  (nat_lit 2, ⟨.none, none, .dict #[en P "type.__subclasses__.Exception.0" 239 (.int (38) 0), en P "type.__subclasses__.Exception.n" 240 (.int (1) 0)] 2, #[]⟩) ::
  (nat_lit 3, ⟨(.type "dict"), none, .dict #[en P "__name__" 165 (.str "law_pc0176_01" 966), en P "__doc__" 166 .none, en P "__package__" 167 .none, en P "__loader__" 168 (.builtin "__main__.__loader__#opaque"), en P "__spec__" 169 .none, en P "__annotations__" 170 (.ref 6), en P "__builtins__" 171 (.ref 4), en P "__file__" 173 (.str "/claim/cut.py" 172), en P "__cached__" 174 .none, en P "_wall" 193 (.ref 21), en P "T_NONE" 198 (.int (-1) 197), en P "T_NIL" 200 (.int (0) 199), en P "T_BOOLEAN" 202 (.int (1) 201), en P "T_LIGHT" 204 (.int (2) 203), en P "T_NUMBER" 206 (.int (3) 205), en P "T_STRING" 208 (.int (4) 207), en P "T_TABLE" 210 (.int (5) 209), en P "HASH_MASK" 212 (.int (4294967295) 211), en P "LuaError" 242 (.ref 38), en P "HeapObject" 275 (.ref 58), en P "LightValue" 304 (.ref 79), en P "is_number" 311 (.ref 90), en P "type_of" 318 (.ref 97), en P "is_collectable" 325 (.ref 104), en P "raw_equal" 334 (.ref 111), en P "string_hash" 344 (.ref 118), en P "log2" 352 (.ref 125), en P "ceil_log2" 359 (.ref 132), en P "MAX_BITS" 363 (.int (26) 362), en P "MAX_ARRAY" 366 (.int (67108864) 365), en P "MAX_INT" 372 (.int (2147483645) 371), en P "BASE_SIZE" 374 (.int (56) 373), en P "SLOT_SIZE" 376 (.int (16) 375), en P "NODE_SIZE" 378 (.int (32) 377), en P "DeadKey" 407 (.ref 149), en P "Node" 445 (.ref 177), en P "array_index" 452 (.ref 188), en P "compute_sizes" 465 (.ref 195), en P "count_key" 474 (.ref 202), en P "Table" 785 (.ref 408), en P "FREE_LIST" 789 (.int (0) 788), en P "free_number" 797 (.ref 417), en P "keep_value" 807 (.ref 424), en P "drop_value" 816 (.ref 431), en P "dotted_table" 830 (.ref 438), en P "PlainHeap" 965 (.ref 539), en P "_law_take" 976 (.ref 550), en P "_law_draws" 982 (.ref 555), en P "_law_value" 991 (.ref 562), en P "_law_is" 999 (.ref 569), en P "_law_kept_right" 1005 (.ref 574), en P "_law_names_right" 1011 (.ref 579), en P "law" 1019 (.ref 586)] 53, #[]⟩) ::
  (nat_lit 54, ⟨(.type "code"), none, .fields #[(.str "__init__" 256), (.str "HeapObject.__init__" 257), (.str "/claim/cut.py" 258), (.int (21) 0), (.int (3) 0), (.int (0) 0), (.int (0) 0), (.int (3) 0), (.ref 49), (.bool true), (.int (181) 0), (.ref 50), .none, (.ref 51), (.ref 52), (.ref 53), (.int (262) 0), (.int (21) 0), (.str "/claim/cut.py" 263)], #[]⟩) ::
  (nat_lit 55, ⟨(.type "function"), none, .func { name := "__init__", qualname := "HeapObject.__init__", params := A_HeapObject___init__, body := .stmts B_HeapObject___init__, scope := S_HeapObject___init__, globals := mainGlobals, closure := [], defaults := .none, kwdefaults := .none, doc := .none, pyModule := (.str "lua.values" 194), annotations := none, code := (.ref 54), closureTuple := .none, builtins := builtinsNs }, #[]⟩) ::
  (nat_lit 57, ⟨(.type "dict"), none, .dict #[en P "__module__" 250 (.str "lua.values" 194), en P "__firstlineno__" 254 (.int (18) 253), en P "kind" 255 (.int (-1) 197), en P "__init__" 264 (.ref 55), en P "__static_attributes__" 268 (.ref 56), en P "__dict__" 270 (.ref 59), en P "__weakref__" 272 (.ref 60), en P "__doc__" 273 .none] 4, #[]⟩) ::
  (nat_lit 58, ⟨(.type "type"), none, .cls { name := "HeapObject", bases := [(.type "object")], mro := [(.ref 58), (.type "object")], ns := 57, qualname := "HeapObject", hasDict := true, slotNames := [], subclasses := [(.ref 408)], abstract := false, collection := none, hasDel := false }, #[none, none, some (.str "HeapObject" 243), some (.str "HeapObject" 251), some (.builtin "object.__new__"), some (.bool true)]⟩) ::
  (nat_lit 78, ⟨(.type "dict"), none, .dict #[en P "__module__" 283 (.str "lua.values" 194), en P "__firstlineno__" 287 (.int (25) 286), en P "__init__" 295 (.ref 76), en P "__static_attributes__" 297 (.ref 77), en P "__dict__" 299 (.ref 80), en P "__weakref__" 301 (.ref 81), en P "__doc__" 302 .none] 4, #[]⟩) ::
  (nat_lit 79, ⟨(.type "type"), none, .cls { name := "LightValue", bases := [(.type "object")], mro := [(.ref 79), (.type "object")], ns := 78, qualname := "LightValue", hasDict := true, slotNames := [], subclasses := [], abstract := false, collection := none, hasDel := false }, #[none, none, some (.str "LightValue" 276), some (.str "LightValue" 284), some (.builtin "object.__new__"), some (.bool true)]⟩) ::
  (nat_lit 89, ⟨(.type "code"), none, .fields #[(.str "is_number" 305), (.str "is_number" 306), (.str "/claim/cut.py" 307), (.int (29) 0), (.int (1) 0), (.int (0) 0), (.int (0) 0), (.int (3) 0), (.ref 84), (.bool true), (.int (181) 0), (.ref 85), .none, (.ref 86), (.ref 87), (.ref 88), (.int (309) 0), (.int (29) 0), (.str "/claim/cut.py" 310)], #[]⟩) ::
  (nat_lit 90, ⟨(.type "function"), none, .func { name := "is_number", qualname := "is_number", params := A_is_number, body := .stmts B_is_number, scope := S_is_number, globals := mainGlobals, closure := [], defaults := .none, kwdefaults := .none, doc := .none, pyModule := (.str "lua.values" 194), annotations := none, code := (.ref 89), closureTuple := .none, builtins := builtinsNs }, #[]⟩) ::
  (nat_lit 96, ⟨(.type "code"), none, .fields #[(.str "type_of" 312), (.str "type_of" 313), (.str "/claim/cut.py" 314), (.int (31) 0), (.int (1) 0), (.int (0) 0), (.int (0) 0), (.int (3) 0), (.ref 91), (.bool true), (.int (181) 0), (.ref 92), .none, (.ref 93), (.ref 94), (.ref 95), (.int (316) 0), (.int (31) 0), (.str "/claim/cut.py" 317)], #[]⟩) ::
  (nat_lit 97, ⟨(.type "function"), none, .func { name := "type_of", qualname := "type_of", params := A_type_of, body := .stmts B_type_of, scope := S_type_of, globals := mainGlobals, closure := [], defaults := .none, kwdefaults := .none, doc := .none, pyModule := (.str "lua.values" 194), annotations := none, code := (.ref 96), closureTuple := .none, builtins := builtinsNs }, #[]⟩) ::
  (nat_lit 110, ⟨(.type "code"), none, .fields #[(.str "raw_equal" 326), (.str "raw_equal" 327), (.str "/claim/cut.py" 328), (.int (47) 0), (.int (2) 0), (.int (0) 0), (.int (0) 0), (.int (3) 0), (.ref 105), (.bool true), (.int (181) 0), (.ref 106), .none, (.ref 107), (.ref 108), (.ref 109), (.int (332) 0), (.int (47) 0), (.str "/claim/cut.py" 333)], #[]⟩) ::
  (nat_lit 111, ⟨(.type "function"), none, .func { name := "raw_equal", qualname := "raw_equal", params := A_raw_equal, body := .stmts B_raw_equal, scope := S_raw_equal, globals := mainGlobals, closure := [], defaults := .none, kwdefaults := .none, doc := .none, pyModule := (.str "lua.values" 194), annotations := none, code := (.ref 110), closureTuple := .none, builtins := builtinsNs }, #[]⟩) ::
  (nat_lit 117, ⟨(.type "code"), none, .fields #[(.str "string_hash" 335), (.str "string_hash" 336), (.str "/claim/cut.py" 337), (.int (56) 0), (.int (1) 0), (.int (0) 0), (.int (0) 0), (.int (3) 0), (.ref 112), (.bool true), (.int (181) 0), (.ref 113), .none, (.ref 114), (.ref 115), (.ref 116), (.int (342) 0), (.int (56) 0), (.str "/claim/cut.py" 343)], #[]⟩) ::
  (nat_lit 118, ⟨(.type "function"), none, .func { name := "string_hash", qualname := "string_hash", params := A_string_hash, body := .stmts B_string_hash, scope := S_string_hash, globals := mainGlobals, closure := [], defaults := .none, kwdefaults := .none, doc := .none, pyModule := (.str "lua.values" 194), annotations := none, code := (.ref 117), closureTuple := .none, builtins := builtinsNs }, #[]⟩) ::
  (nat_lit 124, ⟨(.type "code"), none, .fields #[(.str "log2" 345), (.str "log2" 346), (.str "/claim/cut.py" 347), (.int (63) 0), (.int (1) 0), (.int (0) 0), (.int (0) 0), (.int (3) 0), (.ref 119), (.bool true), (.int (181) 0), (.ref 120), .none, (.ref 121), (.ref 122), (.ref 123), (.int (350) 0), (.int (63) 0), (.str "/claim/cut.py" 351)], #[]⟩) ::
  (nat_lit 125, ⟨(.type "function"), none, .func { name := "log2", qualname := "log2", params := A_log2, body := .stmts B_log2, scope := S_log2, globals := mainGlobals, closure := [], defaults := .none, kwdefaults := .none, doc := .none, pyModule := (.str "lua.values" 194), annotations := none, code := (.ref 124), closureTuple := .none, builtins := builtinsNs }, #[]⟩) ::
  (nat_lit 131, ⟨(.type "code"), none, .fields #[(.str "ceil_log2" 353), (.str "ceil_log2" 354), (.str "/claim/cut.py" 355), (.int (69) 0), (.int (1) 0), (.int (0) 0), (.int (0) 0), (.int (3) 0), (.ref 126), (.bool true), (.int (181) 0), (.ref 127), .none, (.ref 128), (.ref 129), (.ref 130), (.int (357) 0), (.int (69) 0), (.str "/claim/cut.py" 358)], #[]⟩) ::
  (nat_lit 132, ⟨(.type "function"), none, .func { name := "ceil_log2", qualname := "ceil_log2", params := A_ceil_log2, body := .stmts B_ceil_log2, scope := S_ceil_log2, globals := mainGlobals, closure := [], defaults := .none, kwdefaults := .none, doc := .none, pyModule := (.str "lua.values" 194), annotations := none, code := (.ref 131), closureTuple := .none, builtins := builtinsNs }, #[]⟩) ::
  (nat_lit 166, ⟨(.type "code"), none, .fields #[(.str "__init__" 420), (.str "Node.__init__" 421), (.str "/claim/cut.py" 422), (.int (84) 0), (.int (1) 0), (.int (0) 0), (.int (0) 0), (.int (3) 0), (.ref 161), (.bool true), (.int (181) 0), (.ref 162), .none, (.ref 163), (.ref 164), (.ref 165), (.int (424) 0), (.int (84) 0), (.str "/claim/cut.py" 425)], #[]⟩) ::
  (nat_lit 167, ⟨(.type "function"), none, .func { name := "__init__", qualname := "Node.__init__", params := A_Node___init__, body := .stmts B_Node___init__, scope := S_Node___init__, globals := mainGlobals, closure := [], defaults := .none, kwdefaults := .none, doc := .none, pyModule := (.str "lua.tables" 360), annotations := none, code := (.ref 166), closureTuple := .none, builtins := builtinsNs }, #[]⟩) ::
  (nat_lit 173, ⟨(.type "code"), none, .fields #[(.str "moved_to" 427), (.str "Node.moved_to" 428), (.str "/claim/cut.py" 429), (.int (89) 0), (.int (2) 0), (.int (0) 0), (.int (0) 0), (.int (3) 0), (.ref 168), (.bool true), (.int (181) 0), (.ref 169), .none, (.ref 170), (.ref 171), (.ref 172), (.int (432) 0), (.int (89) 0), (.str "/claim/cut.py" 433)], #[]⟩) ::
  (nat_lit 174, ⟨(.type "function"), none, .func { name := "moved_to", qualname := "Node.moved_to", params := A_Node_moved_to, body := .stmts B_Node_moved_to, scope := S_Node_moved_to, globals := mainGlobals, closure := [], defaults := .none, kwdefaults := .none, doc := .none, pyModule := (.str "lua.tables" 360), annotations := none, code := (.ref 173), closureTuple := .none, builtins := builtinsNs }, #[]⟩) ::
  (nat_lit 176, ⟨(.type "dict"), none, .dict #[en P "__module__" 415 (.str "lua.tables" 360), en P "__firstlineno__" 419 (.int (82) 418), en P "__init__" 426 (.ref 167), en P "moved_to" 434 (.ref 174), en P "__static_attributes__" 438 (.ref 175), en P "__dict__" 440 (.ref 178), en P "__weakref__" 442 (.ref 179), en P "__doc__" 443 .none] 4, #[]⟩) ::
  (nat_lit 177, ⟨(.type "type"), none, .cls { name := "Node", bases := [(.type "object")], mro := [(.ref 177), (.type "object")], ns := 176, qualname := "Node", hasDict := true, slotNames := [], subclasses := [], abstract := false, collection := none, hasDel := false }, #[none, none, some (.str "Node" 408), some (.str "Node" 416), some (.builtin "object.__new__"), some (.bool true)]⟩) ::
  (nat_lit 187, ⟨(.type "code"), none, .fields #[(.str "array_index" 446), (.str "array_index" 447), (.str "/claim/cut.py" 448), (.int (93) 0), (.int (1) 0), (.int (0) 0), (.int (0) 0), (.int (3) 0), (.ref 182), (.bool true), (.int (181) 0), (.ref 183), .none, (.ref 184), (.ref 185), (.ref 186), (.int (450) 0), (.int (93) 0), (.str "/claim/cut.py" 451)], #[]⟩) ::
  (nat_lit 188, ⟨(.type "function"), none, .func { name := "array_index", qualname := "array_index", params := A_array_index, body := .stmts B_array_index, scope := S_array_index, globals := mainGlobals, closure := [], defaults := .none, kwdefaults := .none, doc := .none, pyModule := (.str "lua.tables" 360), annotations := none, code := (.ref 187), closureTuple := .none, builtins := builtinsNs }, #[]⟩) ::
  (nat_lit 194, ⟨(.type "code"), none, .fields #[(.str "compute_sizes" 453), (.str "compute_sizes" 454), (.str "/claim/cut.py" 455), (.int (95) 0), (.int (2) 0), (.int (0) 0), (.int (0) 0), (.int (3) 0), (.ref 189), (.bool true), (.int (181) 0), (.ref 190), .none, (.ref 191), (.ref 192), (.ref 193), (.int (463) 0), (.int (95) 0), (.str "/claim/cut.py" 464)], #[]⟩) ::
  (nat_lit 195, ⟨(.type "function"), none, .func { name := "compute_sizes", qualname := "compute_sizes", params := A_compute_sizes, body := .stmts B_compute_sizes, scope := S_compute_sizes, globals := mainGlobals, closure := [], defaults := .none, kwdefaults := .none, doc := .none, pyModule := (.str "lua.tables" 360), annotations := none, code := (.ref 194), closureTuple := .none, builtins := builtinsNs }, #[]⟩) ::
  (nat_lit 201, ⟨(.type "code"), none, .fields #[(.str "count_key" 466), (.str "count_key" 467), (.str "/claim/cut.py" 468), (.int (112) 0), (.int (2) 0), (.int (0) 0), (.int (0) 0), (.int (3) 0), (.ref 196), (.bool true), (.int (181) 0), (.ref 197), .none, (.ref 198), (.ref 199), (.ref 200), (.int (472) 0), (.int (112) 0), (.str "/claim/cut.py" 473)], #[]⟩) ::
  (nat_lit 202, ⟨(.type "function"), none, .func { name := "count_key", qualname := "count_key", params := A_count_key, body := .stmts B_count_key, scope := S_count_key, globals := mainGlobals, closure := [], defaults := .none, kwdefaults := .none, doc := .none, pyModule := (.str "lua.tables" 360), annotations := none, code := (.ref 201), closureTuple := .none, builtins := builtinsNs }, #[]⟩) ::
  (nat_lit 203, ⟨(.type "tuple"), none, .seq #[(.ref 58)] 0, #[]⟩) ::
  (nat_lit 210, ⟨(.type "tuple"), none, .seq #[(.int (0) 488), (.int (0) 489), (.int (0) 490)] 0, #[]⟩) ::
  (nat_lit 216, ⟨(.type "code"), none, .fields #[(.str "__init__" 491), (.str "Table.__init__" 492), (.str "/claim/cut.py" 493), (.int (121) 0), (.int (4) 0), (.int (0) 0), (.int (0) 0), (.int (3) 0), (.ref 211), (.bool true), (.int (181) 0), (.ref 212), .none, (.ref 213), (.ref 214), (.ref 215), (.int (498) 0), (.int (121) 0), (.str "/claim/cut.py" 499)], #[]⟩) ::
  (nat_lit 217, ⟨(.type "function"), none, .func { name := "__init__", qualname := "Table.__init__", params := A_Table___init__, body := .stmts B_Table___init__, scope := S_Table___init__, globals := mainGlobals, closure := [], defaults := (.ref 210), kwdefaults := .none, doc := .none, pyModule := (.str "lua.tables" 360), annotations := none, code := (.ref 216), closureTuple := .none, builtins := builtinsNs }, #[]⟩) ::
  (nat_lit 223, ⟨(.type "code"), none, .fields #[(.str "main_position" 501), (.str "Table.main_position" 502), (.str "/claim/cut.py" 503), (.int (133) 0), (.int (2) 0), (.int (0) 0), (.int (0) 0), (.int (3) 0), (.ref 218), (.bool true), (.int (181) 0), (.ref 219), .none, (.ref 220), (.ref 221), (.ref 222), (.int (507) 0), (.int (133) 0), (.str "/claim/cut.py" 508)], #[]⟩) ::
  (nat_lit 224, ⟨(.type "function"), none, .func { name := "main_position", qualname := "Table.main_position", params := A_Table_main_position, body := .stmts B_Table_main_position, scope := S_Table_main_position, globals := mainGlobals, closure := [], defaults := .none, kwdefaults := .none, doc := .none, pyModule := (.str "lua.tables" 360), annotations := none, code := (.ref 223), closureTuple := .none, builtins := builtinsNs }, #[]⟩) ::
  (nat_lit 230, ⟨(.type "code"), none, .fields #[(.str "find_node" 510), (.str "Table.find_node" 511), (.str "/claim/cut.py" 512), (.int (143) 0), (.int (2) 0), (.int (0) 0), (.int (0) 0), (.int (3) 0), (.ref 225), (.bool true), (.int (181) 0), (.ref 226), .none, (.ref 227), (.ref 228), (.ref 229), (.int (516) 0), (.int (143) 0), (.str "/claim/cut.py" 517)], #[]⟩) ::
  (nat_lit 231, ⟨(.type "function"), none, .func { name := "find_node", qualname := "Table.find_node", params := A_Table_find_node, body := .stmts B_Table_find_node, scope := S_Table_find_node, globals := mainGlobals, closure := [], defaults := .none, kwdefaults := .none, doc := .none, pyModule := (.str "lua.tables" 360), annotations := none, code := (.ref 230), closureTuple := .none, builtins := builtinsNs }, #[]⟩) ::
  (nat_lit 237, ⟨(.type "code"), none, .fields #[(.str "free_position" 519), (.str "Table.free_position" 520), (.str "/claim/cut.py" 521), (.int (153) 0), (.int (1) 0), (.int (0) 0), (.int (0) 0), (.int (3) 0), (.ref 232), (.bool true), (.int (181) 0), (.ref 233), .none, (.ref 234), (.ref 235), (.ref 236), (.int (523) 0), (.int (153) 0), (.str "/claim/cut.py" 524)], #[]⟩) ::
  (nat_lit 238, ⟨(.type "function"), none, .func { name := "free_position", qualname := "Table.free_position", params := A_Table_free_position, body := .stmts B_Table_free_position, scope := S_Table_free_position, globals := mainGlobals, closure := [], defaults := .none, kwdefaults := .none, doc := .none, pyModule := (.str "lua.tables" 360), annotations := none, code := (.ref 237), closureTuple := .none, builtins := builtinsNs }, #[]⟩) ::
  (nat_lit 244, ⟨(.type "code"), none, .fields #[(.str "get_int" 526), (.str "Table.get_int" 527), (.str "/claim/cut.py" 528), (.int (160) 0), (.int (2) 0), (.int (0) 0), (.int (0) 0), (.int (3) 0), (.ref 239), (.bool true), (.int (181) 0), (.ref 240), .none, (.ref 241), (.ref 242), (.ref 243), (.int (532) 0), (.int (160) 0), (.str "/claim/cut.py" 533)], #[]⟩) ::
  (nat_lit 245, ⟨(.type "function"), none, .func { name := "get_int", qualname := "Table.get_int", params := A_Table_get_int, body := .stmts B_Table_get_int, scope := S_Table_get_int, globals := mainGlobals, closure := [], defaults := .none, kwdefaults := .none, doc := .none, pyModule := (.str "lua.tables" 360), annotations := none, code := (.ref 244), closureTuple := .none, builtins := builtinsNs }, #[]⟩) ::
  (nat_lit 258, ⟨(.type "code"), none, .fields #[(.str "get" 543), (.str "Table.get" 544), (.str "/claim/cut.py" 545), (.int (169) 0), (.int (2) 0), (.int (0) 0), (.int (0) 0), (.int (3) 0), (.ref 253), (.bool true), (.int (181) 0), (.ref 254), .none, (.ref 255), (.ref 256), (.ref 257), (.int (549) 0), (.int (169) 0), (.str "/claim/cut.py" 550)], #[]⟩) ::
  (nat_lit 259, ⟨(.type "function"), none, .func { name := "get", qualname := "Table.get", params := A_Table_get, body := .stmts B_Table_get, scope := S_Table_get, globals := mainGlobals, closure := [], defaults := .none, kwdefaults := .none, doc := .none, pyModule := (.str "lua.tables" 360), annotations := none, code := (.ref 258), closureTuple := .none, builtins := builtinsNs }, #[]⟩) ::
  (nat_lit 265, ⟨(.type "code"), none, .fields #[(.str "set" 552), (.str "Table.set" 553), (.str "/claim/cut.py" 554), (.int (177) 0), (.int (4) 0), (.int (0) 0), (.int (0) 0), (.int (3) 0), (.ref 260), (.bool true), (.int (181) 0), (.ref 261), .none, (.ref 262), (.ref 263), (.ref 264), (.int (559) 0), (.int (177) 0), (.str "/claim/cut.py" 560)], #[]⟩) ::
  (nat_lit 266, ⟨(.type "function"), none, .func { name := "set", qualname := "Table.set", params := A_Table_set, body := .stmts B_Table_set, scope := S_Table_set, globals := mainGlobals, closure := [], defaults := .none, kwdefaults := .none, doc := .none, pyModule := (.str "lua.tables" 360), annotations := none, code := (.ref 265), closureTuple := .none, builtins := builtinsNs }, #[]⟩) ::
  (nat_lit 286, ⟨(.type "code"), none, .fields #[(.str "put" 582), (.str "Table.put" 583), (.str "/claim/cut.py" 584), (.int (189) 0), (.int (4) 0), (.int (0) 0), (.int (0) 0), (.int (3) 0), (.ref 281), (.bool true), (.int (181) 0), (.ref 282), .none, (.ref 283), (.ref 284), (.ref 285), (.int (591) 0), (.int (189) 0), (.str "/claim/cut.py" 592)], #[]⟩) ::
  (nat_lit 287, ⟨(.type "function"), none, .func { name := "put", qualname := "Table.put", params := A_Table_put, body := .stmts B_Table_put, scope := S_Table_put, globals := mainGlobals, closure := [], defaults := .none, kwdefaults := .none, doc := .none, pyModule := (.str "lua.tables" 360), annotations := none, code := (.ref 286), closureTuple := .none, builtins := builtinsNs }, #[]⟩) ::
  (nat_lit 293, ⟨(.type "code"), none, .fields #[(.str "new_key" 594), (.str "Table.new_key" 595), (.str "/claim/cut.py" 596), (.int (202) 0), (.int (4) 0), (.int (0) 0), (.int (0) 0), (.int (3) 0), (.ref 288), (.bool true), (.int (181) 0), (.ref 289), .none, (.ref 290), (.ref 291), (.ref 292), (.int (605) 0), (.int (202) 0), (.str "/claim/cut.py" 606)], #[]⟩) ::
  (nat_lit 294, ⟨(.type "function"), none, .func { name := "new_key", qualname := "Table.new_key", params := A_Table_new_key, body := .stmts B_Table_new_key, scope := S_Table_new_key, globals := mainGlobals, closure := [], defaults := .none, kwdefaults := .none, doc := .none, pyModule := (.str "lua.tables" 360), annotations := none, code := (.ref 293), closureTuple := .none, builtins := builtinsNs }, #[]⟩) ::
  (nat_lit 300, ⟨(.type "code"), none, .fields #[(.str "put_again" 608), (.str "Table.put_again" 609), (.str "/claim/cut.py" 610), (.int (232) 0), (.int (4) 0), (.int (0) 0), (.int (0) 0), (.int (3) 0), (.ref 295), (.bool true), (.int (181) 0), (.ref 296), .none, (.ref 297), (.ref 298), (.ref 299), (.int (616) 0), (.int (232) 0), (.str "/claim/cut.py" 617)], #[]⟩) ::
  (nat_lit 301, ⟨(.type "function"), none, .func { name := "put_again", qualname := "Table.put_again", params := A_Table_put_again, body := .stmts B_Table_put_again, scope := S_Table_put_again, globals := mainGlobals, closure := [], defaults := .none, kwdefaults := .none, doc := .none, pyModule := (.str "lua.tables" 360), annotations := none, code := (.ref 300), closureTuple := .none, builtins := builtinsNs }, #[]⟩) ::
  (nat_lit 307, ⟨(.type "code"), none, .fields #[(.str "count_array" 619), (.str "Table.count_array" 620), (.str "/claim/cut.py" 621), (.int (239) 0), (.int (2) 0), (.int (0) 0), (.int (0) 0), (.int (3) 0), (.ref 302), (.bool true), (.int (181) 0), (.ref 303), .none, (.ref 304), (.ref 305), (.ref 306), (.int (630) 0), (.int (239) 0), (.str "/claim/cut.py" 631)], #[]⟩) ::
  (nat_lit 308, ⟨(.type "function"), none, .func { name := "count_array", qualname := "Table.count_array", params := A_Table_count_array, body := .stmts B_Table_count_array, scope := S_Table_count_array, globals := mainGlobals, closure := [], defaults := .none, kwdefaults := .none, doc := .none, pyModule := (.str "lua.tables" 360), annotations := none, code := (.ref 307), closureTuple := .none, builtins := builtinsNs }, #[]⟩) ::
  (nat_lit 314, ⟨(.type "code"), none, .fields #[(.str "count_nodes" 633), (.str "Table.count_nodes" 634), (.str "/claim/cut.py" 635), (.int (257) 0), (.int (2) 0), (.int (0) 0), (.int (0) 0), (.int (3) 0), (.ref 309), (.bool true), (.int (181) 0), (.ref 310), .none, (.ref 311), (.ref 312), (.ref 313), (.int (641) 0), (.int (257) 0), (.str "/claim/cut.py" 642)], #[]⟩) ::
  (nat_lit 315, ⟨(.type "function"), none, .func { name := "count_nodes", qualname := "Table.count_nodes", params := A_Table_count_nodes, body := .stmts B_Table_count_nodes, scope := S_Table_count_nodes, globals := mainGlobals, closure := [], defaults := .none, kwdefaults := .none, doc := .none, pyModule := (.str "lua.tables" 360), annotations := none, code := (.ref 314), closureTuple := .none, builtins := builtinsNs }, #[]⟩) ::
  (nat_lit 321, ⟨(.type "code"), none, .fields #[(.str "rehash" 644), (.str "Table.rehash" 645), (.str "/claim/cut.py" 646), (.int (266) 0), (.int (3) 0), (.int (0) 0), (.int (0) 0), (.int (3) 0), (.ref 316), (.bool true), (.int (181) 0), (.ref 317), .none, (.ref 318), (.ref 319), (.ref 320), (.int (657) 0), (.int (266) 0), (.str "/claim/cut.py" 658)], #[]⟩) ::
  (nat_lit 322, ⟨(.type "function"), none, .func { name := "rehash", qualname := "Table.rehash", params := A_Table_rehash, body := .stmts B_Table_rehash, scope := S_Table_rehash, globals := mainGlobals, closure := [], defaults := .none, kwdefaults := .none, doc := .none, pyModule := (.str "lua.tables" 360), annotations := none, code := (.ref 321), closureTuple := .none, builtins := builtinsNs }, #[]⟩) ::
  (nat_lit 323, ⟨(.type "tuple"), none, .seq #[.none] 0, #[]⟩) ::
  (nat_lit 329, ⟨(.type "code"), none, .fields #[(.str "resize" 660), (.str "Table.resize" 661), (.str "/claim/cut.py" 662), (.int (276) 0), (.int (4) 0), (.int (0) 0), (.int (0) 0), (.int (3) 0), (.ref 324), (.bool true), (.int (181) 0), (.ref 325), .none, (.ref 326), (.ref 327), (.ref 328), (.int (672) 0), (.int (276) 0), (.str "/claim/cut.py" 673)], #[]⟩) ::
  (nat_lit 330, ⟨(.type "function"), none, .func { name := "resize", qualname := "Table.resize", params := A_Table_resize, body := .stmts B_Table_resize, scope := S_Table_resize, globals := mainGlobals, closure := [], defaults := (.ref 323), kwdefaults := .none, doc := .none, pyModule := (.str "lua.tables" 360), annotations := none, code := (.ref 329), closureTuple := .none, builtins := builtinsNs }, #[]⟩) ::
  (nat_lit 336, ⟨(.type "code"), none, .fields #[(.str "put_back" 675), (.str "Table.put_back" 676), (.str "/claim/cut.py" 677), (.int (291) 0), (.int (4) 0), (.int (0) 0), (.int (0) 0), (.int (3) 0), (.ref 331), (.bool true), (.int (181) 0), (.ref 332), .none, (.ref 333), (.ref 334), (.ref 335), (.int (683) 0), (.int (291) 0), (.str "/claim/cut.py" 684)], #[]⟩) ::
  (nat_lit 337, ⟨(.type "function"), none, .func { name := "put_back", qualname := "Table.put_back", params := A_Table_put_back, body := .stmts B_Table_put_back, scope := S_Table_put_back, globals := mainGlobals, closure := [], defaults := .none, kwdefaults := .none, doc := .none, pyModule := (.str "lua.tables" 360), annotations := none, code := (.ref 336), closureTuple := .none, builtins := builtinsNs }, #[]⟩) ::
  (nat_lit 341, ⟨(.type "code"), none, .fields #[(.str "make_nodes" 686), (.str "Table.make_nodes" 687), (.str "/claim/cut.py" 688), (.int (298) 0), (.int (2) 0), (.int (0) 0), (.int (0) 0), (.int (3) 0), (.ref 338), (.bool true), (.int (181) 0), (.ref 339), .none, .none, .none, (.ref 340), (.int (689) 0), (.int (298) 0), (.str "/claim/cut.py" 690)], #[]⟩) ::
  (nat_lit 342, ⟨(.type "function"), none, .func { name := "make_nodes", qualname := "Table.make_nodes", params := A_Table_make_nodes, body := .stmts B_Table_make_nodes, scope := S_Table_make_nodes, globals := mainGlobals, closure := [], defaults := .none, kwdefaults := .none, doc := .none, pyModule := (.str "lua.tables" 360), annotations := none, code := (.ref 341), closureTuple := .none, builtins := builtinsNs }, #[]⟩) ::
  (nat_lit 355, ⟨(.type "code"), none, .fields #[(.str "weigh" 701), (.str "Table.weigh" 702), (.str "/claim/cut.py" 703), (.int (311) 0), (.int (2) 0), (.int (0) 0), (.int (0) 0), (.int (3) 0), (.ref 350), (.bool true), (.int (181) 0), (.ref 351), .none, (.ref 352), (.ref 353), (.ref 354), (.int (706) 0), (.int (311) 0), (.str "/claim/cut.py" 707)], #[]⟩) ::
  (nat_lit 356, ⟨(.type "function"), none, .func { name := "weigh", qualname := "Table.weigh", params := A_Table_weigh, body := .stmts B_Table_weigh, scope := S_Table_weigh, globals := mainGlobals, closure := [], defaults := .none, kwdefaults := .none, doc := .none, pyModule := (.str "lua.tables" 360), annotations := none, code := (.ref 355), closureTuple := .none, builtins := builtinsNs }, #[]⟩) ::
  (nat_lit 376, ⟨(.type "code"), none, .fields #[(.str "length" 731), (.str "Table.length" 732), (.str "/claim/cut.py" 733), (.int (347) 0), (.int (1) 0), (.int (0) 0), (.int (0) 0), (.int (3) 0), (.ref 371), (.bool true), (.int (181) 0), (.ref 372), .none, (.ref 373), (.ref 374), (.ref 375), (.int (738) 0), (.int (347) 0), (.str "/claim/cut.py" 739)], #[]⟩) ::
  (nat_lit 377, ⟨(.type "function"), none, .func { name := "length", qualname := "Table.length", params := A_Table_length, body := .stmts B_Table_length, scope := S_Table_length, globals := mainGlobals, closure := [], defaults := .none, kwdefaults := .none, doc := .none, pyModule := (.str "lua.tables" 360), annotations := none, code := (.ref 376), closureTuple := .none, builtins := builtinsNs }, #[]⟩) ::
  (nat_lit 383, ⟨(.type "code"), none, .fields #[(.str "unbound_search" 741), (.str "Table.unbound_search" 742), (.str "/claim/cut.py" 743), (.int (362) 0), (.int (2) 0), (.int (0) 0), (.int (0) 0), (.int (3) 0), (.ref 378), (.bool true), (.int (181) 0), (.ref 379), .none, (.ref 380), (.ref 381), (.ref 382), (.int (749) 0), (.int (362) 0), (.str "/claim/cut.py" 750)], #[]⟩) ::
  (nat_lit 384, ⟨(.type "function"), none, .func { name := "unbound_search", qualname := "Table.unbound_search", params := A_Table_unbound_search, body := .stmts B_Table_unbound_search, scope := S_Table_unbound_search, globals := mainGlobals, closure := [], defaults := .none, kwdefaults := .none, doc := .none, pyModule := (.str "lua.tables" 360), annotations := none, code := (.ref 383), closureTuple := .none, builtins := builtinsNs }, #[]⟩) ::
  (nat_lit 407, ⟨(.type "dict"), none, .dict #[en P "__module__" 482 (.str "lua.tables" 360), en P "__firstlineno__" 486 (.int (118) 485), en P "kind" 487 (.int (5) 209), en P "__init__" 500 (.ref 217), en P "main_position" 509 (.ref 224), en P "find_node" 518 (.ref 231), en P "free_position" 525 (.ref 238), en P "get_int" 534 (.ref 245), en P "get_text" 542 (.ref 252), en P "get" 551 (.ref 259), en P "set" 561 (.ref 266), en P "set_int" 571 (.ref 273), en P "set_text" 581 (.ref 280), en P "put" 593 (.ref 287), en P "new_key" 607 (.ref 294), en P "put_again" 618 (.ref 301), en P "count_array" 632 (.ref 308), en P "count_nodes" 643 (.ref 315), en P "rehash" 659 (.ref 322), en P "resize" 674 (.ref 330), en P "put_back" 685 (.ref 337), en P "make_nodes" 691 (.ref 342), en P "resize_array" 700 (.ref 349), en P "weigh" 708 (.ref 356), en P "find_index" 719 (.ref 363), en P "next" 730 (.ref 370), en P "length" 740 (.ref 377), en P "unbound_search" 751 (.ref 384), en P "bury" 759 (.ref 391), en P "bury_empty" 766 (.ref 398), en P "entries" 773 (.ref 405), en P "__static_attributes__" 782 (.ref 406), en P "__doc__" 783 .none] 2, #[]⟩) ::
  (nat_lit 408, ⟨(.type "type"), none, .cls { name := "Table", bases := [(.ref 58)], mro := [(.ref 408), (.ref 58), (.type "object")], ns := 407, qualname := "Table", hasDict := true, slotNames := [], subclasses := [], abstract := false, collection := none, hasDel := false }, #[some (.ref 203), none, some (.str "Table" 475), some (.str "Table" 483), some (.builtin "object.__new__"), some (.bool true)]⟩) ::
  (nat_lit 416, ⟨(.type "code"), none, .fields #[(.str "free_number" 790), (.str "free_number" 791), (.str "/claim/cut.py" 792), (.int (391) 0), (.int (1) 0), (.int (0) 0), (.int (0) 0), (.int (3) 0), (.ref 411), (.bool true), (.int (181) 0), (.ref 412), .none, (.ref 413), (.ref 414), (.ref 415), (.int (795) 0), (.int (391) 0), (.str "/claim/cut.py" 796)], #[]⟩) ::
  (nat_lit 417, ⟨(.type "function"), none, .func { name := "free_number", qualname := "free_number", params := A_free_number, body := .stmts B_free_number, scope := S_free_number, globals := mainGlobals, closure := [], defaults := .none, kwdefaults := .none, doc := .none, pyModule := (.str "lua.refs" 786), annotations := none, code := (.ref 416), closureTuple := .none, builtins := builtinsNs }, #[]⟩) ::
  (nat_lit 423, ⟨(.type "code"), none, .fields #[(.str "keep_value" 798), (.str "keep_value" 799), (.str "/claim/cut.py" 800), (.int (394) 0), (.int (3) 0), (.int (0) 0), (.int (0) 0), (.int (3) 0), (.ref 418), (.bool true), (.int (181) 0), (.ref 419), .none, (.ref 420), (.ref 421), (.ref 422), (.int (805) 0), (.int (394) 0), (.str "/claim/cut.py" 806)], #[]⟩) ::
  (nat_lit 424, ⟨(.type "function"), none, .func { name := "keep_value", qualname := "keep_value", params := A_keep_value, body := .stmts B_keep_value, scope := S_keep_value, globals := mainGlobals, closure := [], defaults := .none, kwdefaults := .none, doc := .none, pyModule := (.str "lua.refs" 786), annotations := none, code := (.ref 423), closureTuple := .none, builtins := builtinsNs }, #[]⟩) ::
  (nat_lit 430, ⟨(.type "code"), none, .fields #[(.str "drop_value" 808), (.str "drop_value" 809), (.str "/claim/cut.py" 810), (.int (402) 0), (.int (3) 0), (.int (0) 0), (.int (0) 0), (.int (3) 0), (.ref 425), (.bool true), (.int (181) 0), (.ref 426), .none, (.ref 427), (.ref 428), (.ref 429), (.int (814) 0), (.int (402) 0), (.str "/claim/cut.py" 815)], #[]⟩) ::
  (nat_lit 431, ⟨(.type "function"), none, .func { name := "drop_value", qualname := "drop_value", params := A_drop_value, body := .stmts B_drop_value, scope := S_drop_value, globals := mainGlobals, closure := [], defaults := .none, kwdefaults := .none, doc := .none, pyModule := (.str "lua.refs" 786), annotations := none, code := (.ref 430), closureTuple := .none, builtins := builtinsNs }, #[]⟩) ::
  (nat_lit 437, ⟨(.type "code"), none, .fields #[(.str "dotted_table" 817), (.str "dotted_table" 818), (.str "/claim/cut.py" 819), (.int (406) 0), (.int (4) 0), (.int (0) 0), (.int (0) 0), (.int (3) 0), (.ref 432), (.bool true), (.int (181) 0), (.ref 433), .none, (.ref 434), (.ref 435), (.ref 436), (.int (828) 0), (.int (406) 0), (.str "/claim/cut.py" 829)], #[]⟩) ::
  (nat_lit 438, ⟨(.type "function"), none, .func { name := "dotted_table", qualname := "dotted_table", params := A_dotted_table, body := .stmts B_dotted_table, scope := S_dotted_table, globals := mainGlobals, closure := [], defaults := .none, kwdefaults := .none, doc := .none, pyModule := (.str "lua.refs" 786), annotations := none, code := (.ref 437), closureTuple := .none, builtins := builtinsNs }, #[]⟩) ::
  (nat_lit 451, ⟨(.type "code"), none, .fields #[(.str "__init__" 845), (.str "PlainHeap.__init__" 846), (.str "/claim/cut.py" 847), (.int (420) 0), (.int (1) 0), (.int (0) 0), (.int (0) 0), (.int (3) 0), (.ref 446), (.bool true), (.int (181) 0), (.ref 447), .none, (.ref 448), (.ref 449), (.ref 450), (.int (849) 0), (.int (420) 0), (.str "/claim/cut.py" 850)], #[]⟩) ::
  (nat_lit 452, ⟨(.type "function"), none, .func { name := "__init__", qualname := "PlainHeap.__init__", params := A_PlainHeap___init__, body := .stmts B_PlainHeap___init__, scope := S_PlainHeap___init__, globals := mainGlobals, closure := [], defaults := .none, kwdefaults := .none, doc := .none, pyModule := (.str "lua.plainheap" 831), annotations := none, code := (.ref 451), closureTuple := .none, builtins := builtinsNs }, #[]⟩) ::
  (nat_lit 458, ⟨(.type "code"), none, .fields #[(.str "link" 852), (.str "PlainHeap.link" 853), (.str "/claim/cut.py" 854), (.int (424) 0), (.int (3) 0), (.int (0) 0), (.int (0) 0), (.int (3) 0), (.ref 453), (.bool true), (.int (181) 0), (.ref 454), .none, (.ref 455), (.ref 456), (.ref 457), (.int (858) 0), (.int (424) 0), (.str "/claim/cut.py" 859)], #[]⟩) ::
  (nat_lit 459, ⟨(.type "function"), none, .func { name := "link", qualname := "PlainHeap.link", params := A_PlainHeap_link, body := .stmts B_PlainHeap_link, scope := S_PlainHeap_link, globals := mainGlobals, closure := [], defaults := .none, kwdefaults := .none, doc := .none, pyModule := (.str "lua.plainheap" 831), annotations := none, code := (.ref 458), closureTuple := .none, builtins := builtinsNs }, #[]⟩) ::
  (nat_lit 465, ⟨(.type "code"), none, .fields #[(.str "new_table" 861), (.str "PlainHeap.new_table" 862), (.str "/claim/cut.py" 863), (.int (430) 0), (.int (3) 0), (.int (0) 0), (.int (0) 0), (.int (3) 0), (.ref 460), (.bool true), (.int (181) 0), (.ref 461), .none, (.ref 462), (.ref 463), (.ref 464), (.int (868) 0), (.int (430) 0), (.str "/claim/cut.py" 869)], #[]⟩) ::
  (nat_lit 466, ⟨(.type "function"), none, .func { name := "new_table", qualname := "PlainHeap.new_table", params := A_PlainHeap_new_table, body := .stmts B_PlainHeap_new_table, scope := S_PlainHeap_new_table, globals := mainGlobals, closure := [], defaults := .none, kwdefaults := .none, doc := .none, pyModule := (.str "lua.plainheap" 831), annotations := none, code := (.ref 465), closureTuple := .none, builtins := builtinsNs }, #[]⟩) ::
  (nat_lit 507, ⟨(.type "code"), none, .fields #[(.str "resized" 914), (.str "PlainHeap.resized" 915), (.str "/claim/cut.py" 916), (.int (452) 0), (.int (2) 0), (.int (0) 0), (.int (0) 0), (.int (3) 0), (.ref 502), (.bool true), (.int (181) 0), (.ref 503), .none, (.ref 504), (.ref 505), (.ref 506), (.int (919) 0), (.int (452) 0), (.str "/claim/cut.py" 920)], #[]⟩) ::
  (nat_lit 508, ⟨(.type "function"), none, .func { name := "resized", qualname := "PlainHeap.resized", params := A_PlainHeap_resized, body := .stmts B_PlainHeap_resized, scope := S_PlainHeap_resized, globals := mainGlobals, closure := [], defaults := .none, kwdefaults := .none, doc := .none, pyModule := (.str "lua.plainheap" 831), annotations := none, code := (.ref 507), closureTuple := .none, builtins := builtinsNs }, #[]⟩) ::
  (nat_lit 528, ⟨(.type "code"), none, .fields #[(.str "barrier_table" 939), (.str "PlainHeap.barrier_table" 940), (.str "/claim/cut.py" 941), (.int (461) 0), (.int (3) 0), (.int (0) 0), (.int (0) 0), (.int (3) 0), (.ref 523), (.bool true), (.int (181) 0), (.ref 524), .none, (.ref 525), (.ref 526), (.ref 527), (.int (945) 0), (.int (461) 0), (.str "/claim/cut.py" 946)], #[]⟩) ::
  (nat_lit 529, ⟨(.type "function"), none, .func { name := "barrier_table", qualname := "PlainHeap.barrier_table", params := A_PlainHeap_barrier_table, body := .stmts B_PlainHeap_barrier_table, scope := S_PlainHeap_barrier_table, globals := mainGlobals, closure := [], defaults := .none, kwdefaults := .none, doc := .none, pyModule := (.str "lua.plainheap" 831), annotations := none, code := (.ref 528), closureTuple := .none, builtins := builtinsNs }, #[]⟩) ::
  (nat_lit 538, ⟨(.type "dict"), none, .dict #[en P "__module__" 840 (.str "lua.plainheap" 831), en P "__firstlineno__" 844 (.int (418) 843), en P "__init__" 851 (.ref 452), en P "link" 860 (.ref 459), en P "new_table" 870 (.ref 466), en P "new_lua_closure" 880 (.ref 473), en P "new_upval" 889 (.ref 480), en P "is_dead" 897 (.ref 487), en P "revive" 905 (.ref 494), en P "closed_upval" 913 (.ref 501), en P "resized" 921 (.ref 508), en P "barrier" 930 (.ref 515), en P "barrier_back" 938 (.ref 522), en P "barrier_table" 947 (.ref 529), en P "check" 955 (.ref 536), en P "__static_attributes__" 958 (.ref 537), en P "__dict__" 960 (.ref 540), en P "__weakref__" 962 (.ref 541), en P "__doc__" 963 .none] 4, #[]⟩) ::
  (nat_lit 539, ⟨(.type "type"), none, .cls { name := "PlainHeap", bases := [(.type "object")], mro := [(.ref 539), (.type "object")], ns := 538, qualname := "PlainHeap", hasDict := true, slotNames := [], subclasses := [], abstract := false, collection := none, hasDel := false }, #[none, none, some (.str "PlainHeap" 833), some (.str "PlainHeap" 841), some (.builtin "object.__new__"), some (.bool true)]⟩) ::
  (nat_lit 549, ⟨(.type "code"), none, .fields #[(.str "_law_take" 968), (.str "_law_take" 969), (.str "/claim/cut.py" 970), (.int (467) 0), (.int (2) 0), (.int (0) 0), (.int (0) 0), (.int (3) 0), (.ref 544), (.bool true), (.int (181) 0), (.ref 545), .none, (.ref 546), (.ref 547), (.ref 548), (.int (974) 0), (.int (467) 0), (.str "/claim/cut.py" 975)], #[]⟩) ::
  (nat_lit 550, ⟨(.type "function"), none, .func { name := "_law_take", qualname := "_law_take", params := A_ulaw_take, body := .stmts B_ulaw_take, scope := S_ulaw_take, globals := mainGlobals, closure := [], defaults := .none, kwdefaults := .none, doc := .none, pyModule := (.str "law_pc0176_01" 966), annotations := none, code := (.ref 549), closureTuple := .none, builtins := builtinsNs }, #[]⟩) ::
  (nat_lit 554, ⟨(.type "code"), none, .fields #[(.str "_law_draws" 977), (.str "_law_draws" 978), (.str "/claim/cut.py" 979), (.int (473) 0), (.int (1) 0), (.int (0) 0), (.int (0) 0), (.int (3) 0), (.ref 551), (.bool true), (.int (181) 0), (.ref 552), .none, .none, .none, (.ref 553), (.int (980) 0), (.int (473) 0), (.str "/claim/cut.py" 981)], #[]⟩) ::
  (nat_lit 555, ⟨(.type "function"), none, .func { name := "_law_draws", qualname := "_law_draws", params := A_ulaw_draws, body := .stmts B_ulaw_draws, scope := S_ulaw_draws, globals := mainGlobals, closure := [], defaults := .none, kwdefaults := .none, doc := .none, pyModule := (.str "law_pc0176_01" 966), annotations := none, code := (.ref 554), closureTuple := .none, builtins := builtinsNs }, #[]⟩) ::
  (nat_lit 561, ⟨(.type "code"), none, .fields #[(.str "_law_value" 983), (.str "_law_value" 984), (.str "/claim/cut.py" 985), (.int (478) 0), (.int (3) 0), (.int (0) 0), (.int (0) 0), (.int (3) 0), (.ref 556), (.bool true), (.int (181) 0), (.ref 557), .none, (.ref 558), (.ref 559), (.ref 560), (.int (989) 0), (.int (478) 0), (.str "/claim/cut.py" 990)], #[]⟩) ::
  (nat_lit 562, ⟨(.type "function"), none, .func { name := "_law_value", qualname := "_law_value", params := A_ulaw_value, body := .stmts B_ulaw_value, scope := S_ulaw_value, globals := mainGlobals, closure := [], defaults := .none, kwdefaults := .none, doc := .none, pyModule := (.str "law_pc0176_01" 966), annotations := none, code := (.ref 561), closureTuple := .none, builtins := builtinsNs }, #[]⟩) ::
  (nat_lit 568, ⟨(.type "code"), none, .fields #[(.str "_law_is" 992), (.str "_law_is" 993), (.str "/claim/cut.py" 994), (.int (480) 0), (.int (2) 0), (.int (0) 0), (.int (0) 0), (.int (3) 0), (.ref 563), (.bool true), (.int (181) 0), (.ref 564), .none, (.ref 565), (.ref 566), (.ref 567), (.int (997) 0), (.int (480) 0), (.str "/claim/cut.py" 998)], #[]⟩) ::
  (nat_lit 569, ⟨(.type "function"), none, .func { name := "_law_is", qualname := "_law_is", params := A_ulaw_is, body := .stmts B_ulaw_is, scope := S_ulaw_is, globals := mainGlobals, closure := [], defaults := .none, kwdefaults := .none, doc := .none, pyModule := (.str "law_pc0176_01" 966), annotations := none, code := (.ref 568), closureTuple := .none, builtins := builtinsNs }, #[]⟩) ::
  (nat_lit 573, ⟨(.type "code"), none, .fields #[(.str "_law_kept_right" 1000), (.str "_law_kept_right" 1001), (.str "/claim/cut.py" 1002), (.int (484) 0), (.int (1) 0), (.int (0) 0), (.int (0) 0), (.int (3) 0), (.ref 570), (.bool true), (.int (181) 0), (.ref 571), .none, .none, .none, (.ref 572), (.int (1003) 0), (.int (484) 0), (.str "/claim/cut.py" 1004)], #[]⟩) ::
  (nat_lit 574, ⟨(.type "function"), none, .func { name := "_law_kept_right", qualname := "_law_kept_right", params := A_ulaw_kept_right, body := .stmts B_ulaw_kept_right, scope := S_ulaw_kept_right, globals := mainGlobals, closure := [], defaults := .none, kwdefaults := .none, doc := .none, pyModule := (.str "law_pc0176_01" 966), annotations := none, code := (.ref 573), closureTuple := .none, builtins := builtinsNs }, #[]⟩) ::
  (nat_lit 578, ⟨(.type "code"), none, .fields #[(.str "_law_names_right" 1006), (.str "_law_names_right" 1007), (.str "/claim/cut.py" 1008), (.int (507) 0), (.int (1) 0), (.int (0) 0), (.int (0) 0), (.int (3) 0), (.ref 575), (.bool true), (.int (181) 0), (.ref 576), .none, .none, .none, (.ref 577), (.int (1009) 0), (.int (507) 0), (.str "/claim/cut.py" 1010)], #[]⟩) ::
  (nat_lit 579, ⟨(.type "function"), none, .func { name := "_law_names_right", qualname := "_law_names_right", params := A_ulaw_names_right, body := .stmts B_ulaw_names_right, scope := S_ulaw_names_right, globals := mainGlobals, closure := [], defaults := .none, kwdefaults := .none, doc := .none, pyModule := (.str "law_pc0176_01" 966), annotations := none, code := (.ref 578), closureTuple := .none, builtins := builtinsNs }, #[]⟩) ::
  (nat_lit 585, ⟨(.type "code"), none, .fields #[(.str "law" 1012), (.str "law" 1013), (.str "/claim/cut.py" 1014), (.int (539) 0), (.int (1) 0), (.int (0) 0), (.int (0) 0), (.int (3) 0), (.ref 580), (.bool true), (.int (181) 0), (.ref 581), .none, (.ref 582), (.ref 583), (.ref 584), (.int (1017) 0), (.int (539) 0), (.str "/claim/cut.py" 1018)], #[]⟩) ::
  (nat_lit 586, ⟨(.type "function"), none, .func { name := "law", qualname := "law", params := A_law, body := .stmts B_law, scope := S_law, globals := mainGlobals, closure := [], defaults := .none, kwdefaults := .none, doc := .none, pyModule := (.str "law_pc0176_01" 966), annotations := none, code := (.ref 585), closureTuple := .none, builtins := builtinsNs }, #[]⟩) :: []
noncomputable def as0 : List Addr := [2, 3, 54, 55, 57, 58, 78, 79, 89, 90, 96, 97, 110, 111, 117, 118, 124, 125, 131, 132, 166, 167, 173, 174, 176, 177, 187, 188, 194, 195, 201, 202, 203, 210, 216, 217, 223, 224, 230, 231, 237, 238, 244, 245, 258, 259, 265, 266, 286, 287, 293, 294, 300, 301, 307, 308, 314, 315, 321, 322, 323, 329, 330, 336, 337, 341, 342, 355, 356, 376, 377, 383, 384, 407, 408, 416, 417, 423, 424, 430, 431, 437, 438, 451, 452, 458, 459, 465, 466, 507, 508, 528, 529, 538, 539, 549, 550, 554, 555, 561, 562, 568, 569, 573, 574, 578, 579, 585, 586]
noncomputable def q0 : Program := { P0 with main := { P0.main with body := (behindTheImports P0).drop 48 } }
noncomputable def nm (s : String) : PySem.Str := PySem.Str.ofString s
noncomputable def loose0 : List PySem.Str := List.map PySem.Str.ofString ["_wall","T_NONE","T_NIL","T_BOOLEAN","T_LIGHT","T_NUMBER","T_STRING","T_TABLE","HASH_MASK","LuaError","HeapObject","LightValue","is_number","type_of","is_collectable","raw_equal","string_hash","log2","ceil_log2","MAX_BITS","MAX_ARRAY","MAX_INT","BASE_SIZE","SLOT_SIZE","NODE_SIZE","DeadKey","Node","array_index","compute_sizes","count_key","Table","FREE_LIST","free_number","keep_value","drop_value","dotted_table","PlainHeap","_law_take","_law_draws","_law_value","_law_is","_law_kept_right","_law_names_right"]
noncomputable def E0 : Env := { scope := P0.main.scope, locals := mainNs, globals := mainNs, cells := [], code := .ref 13, frame := some 14 }
noncomputable def c0 : Code := Code.body (behindTheImports P0) E0
noncomputable def z0 : Pos := ⟨0, 0, 0, 0⟩
noncomputable def o11 : Obj := { cls := .type "tuple", data := .seq #[] }
noncomputable def o12 : Obj := { cls := .none, data := .fields #[] }
noncomputable def o13 : Obj := { cls := .type "code", data := .fields #[.str "<module>" 182, .str "<module>" 183, .str "/claim/cut.py" 184, .int 1 0, .int 0 0, .int 0 0, .int 0 0, .int 0 0, .ref 11, .bool false, .int 181 0, .ref 12, .none, .none, .none, .none, .int 185 0, .int 1 0, .str "/claim/cut.py" 186] }
noncomputable def o14 : Obj := { cls := .type "frame", slots := #[some (.ref 13), some (.ref 3), some (.ref 3), none, some (.str "__main__" 164), none, some (.ref 0)] }
noncomputable def h1 (P : Params) : Heap := { objs := ⟨[boot_o_0 P, boot_o_1 P, boot_o_2 P, boot_o_3 P, boot_o_4 P, boot_o_5 P, boot_o_6 P, boot_o_7 P, boot_o_8 P, boot_o_9 P, boot_o_10 P, o11, o12, o13, o14]⟩ }
noncomputable def t1 (P : Params) : BT :=
  .node (boot_o_0 P)
    (.node (boot_o_1 P) (.node (boot_o_3 P) (.node (boot_o_7 P) .nil .nil) (.node o11 .nil .nil)) (.node (boot_o_5 P) (.node (boot_o_9 P) .nil .nil) (.node o13 .nil .nil)))
    (.node (boot_o_2 P) (.node (boot_o_4 P) (.node (boot_o_8 P) .nil .nil) (.node o12 .nil .nil)) (.node (boot_o_6 P) (.node (boot_o_10 P) .nil .nil) (.node o14 .nil .nil)))
noncomputable def s1 (w : World) (os : OsState) : SharedT := ⟨t1 w.params, 15, {}, #[], {}, 187, os⟩
noncomputable def B0 : List Frame := [topFrame z0]
noncomputable def ann0 : Option Value := some (.ref 6)
noncomputable def mods0 : List PySem.Str := importedModules P0.main.body
noncomputable def looks (H : Hook) (w : World) (s : Shared) := ((staticsOk mods0 (boot_heap w.params) s.heap && namesBound P0 s.heap && gensDone s && laidKept (boot_heap w.params) s.heap), openSeen q0 loose0 mods0 (fun s => xlAt q0 [] s && recOk [] s) true s, H.obs s)
noncomputable def obsv (H : Hook) (w : World) (r : Flow × SharedT × Code × Pos) := ((r.1, r.2.2.1, r.2.2.2), (r.2.1.n, r.2.1.life, r.2.1.gens, r.2.1.drawn, r.2.1.toks, r.2.1.os), looks H w r.2.1.abs)
theorem pre0 : ∀ w os, topGo treeTable P0 w 11 ann0 12 ⟨boot_heap w.params, #[], boot_drawn, boot_toks, os⟩ (topStub P0) = some (⟨h1 w.params, #[], {}, 187, os⟩, ⟨denote treeTable c0, c0, z0, B0⟩) := by
  intro w os; kernel_rfl
theorem h1t1 : ∀ w os, (s1 w os).abs = ⟨h1 w.params, #[], {}, 187, os⟩ := by
  intro w os; kernel_rfl
theorem blk0 : ∀ w os, segRun treeTable P0 w 11 ann0 1 1 ⟨h1 w.params, #[], {}, 187, os⟩ (blockOf (behindTheImports P0) E0 c0 z0 B0) = some (.next, (s1 w os).abs, c0, z0) := by
  intro w os; kernel_rfl
theorem size0 : ∀ w : World, ((boot_heap w.params).isNs mainGlobals && (#[] : Array GenState).size == 0, (boot_heap w.params).objs.size, (boot_heap w.params).nsMap mainGlobals "__annotations__") = (true, 11, ann0) := by
  intro w; kernel_rfl
theorem fin0 : ∀ w s pos, topRun treeTable P0 w 11 ann0 2 s (restOf [] E0 c0 pos B0) = some s := by
  intro w s pos; kernel_rfl
theorem open0 : opening P0 = plainProg P0.main.scope.names := by kernel_rfl
theorem fence0 : ∀ s, fenceModules? P0 s = some s := by intro s; kernel_rfl
theorem left_of {p q : Program} {loose : List Str} {Xt : Shared → Bool} {α : Type} {Yf : Shared → α} {Ya : World → α} {N : Nat} {g0 : Bool} {H₀ : Params → Heap} {gs₀ : Array GenState} {d₀ : Drawn} {k₀ m₀ : Nat} {ann : Option Value} {M : Nat}
    (o1 : ∀ w : World, (fencedOpening treeTable p w N).map (fun s => (s.heap, s.gens, s.drawn, s.toks)) = some (H₀ w.params, gs₀, d₀, k₀))
    (z : ∀ w : World, ((H₀ w.params).isNs mainGlobals && gs₀.size == 0, (H₀ w.params).objs.size, (H₀ w.params).nsMap mainGlobals "__annotations__") = (true, m₀, ann))
    (run : ∀ (w : World) (os : OsState), ∃ s₁, topRun treeTable p w m₀ ann M ⟨H₀ w.params, gs₀, d₀, k₀, os⟩ (topStub p) = some s₁ ∧
      (staticsOk (importedModules p.main.body) (H₀ w.params) s₁.heap && namesBound p s₁.heap && gensDone s₁ && laidKept (H₀ w.params) s₁.heap) = true ∧
      openSeen q loose (importedModules p.main.body) Xt g0 s₁ = openGood q loose ∧ Yf s₁ = Ya w) (le : M ≤ N) : LeftO p q loose Xt Yf Ya N g0 := by
  intro w
  obtain ⟨⟨h, gs, d, k, os⟩, e, e'⟩ := Option.map_eq_some_iff.mp (o1 w)
  simp only [Prod.mk.injEq] at e'
  obtain ⟨rfl, rfl, rfl, rfl⟩ := e'
  obtain ⟨s₁, r, l1, l2, l3⟩ := run w os
  have zz := z w
  simp only [Prod.mk.injEq] at zz
  obtain ⟨z1, z2, z3⟩ := zz
  have r' := topRun_mono (N - M) _ _ _ _ r
  rw [Nat.add_sub_cancel' le] at r'
  have t : topFrom treeTable p w N ⟨H₀ w.params, gs, d, k, os⟩ = some s₁ := by
    unfold topFrom
    dsimp only
    rw [z1, z2, z3, r']
    show (match staticsOk (importedModules p.main.body) (H₀ w.params) s₁.heap && namesBound p s₁.heap && gensDone s₁ && laidKept (H₀ w.params) s₁.heap with | true => _ | false => _) = _
    rw [l1]
  unfold openEnds
  rw [e]
  show (topFrom treeTable p w N _).map _ = _
  rw [t]
  exact congrArg some (Prod.ext l2 l3)
theorem top0 (w : World) (os : OsState) (H : Hook)
    (h : (segRunT treeTable P0 w 11 ann0 1 4000 (s1 w os) (piecesOf (behindTheImports P0) E0 c0 z0 B0)).map (obsv H w) =
      some ((.next, c0, ⟨539, 0, 541, 61⟩), (587, {}, #[], {}, 1020, os), (true, openGood q0 loose0, H.val w))) :
    ∃ s₁, topRun treeTable P0 w 11 ann0 4015 ⟨boot_heap w.params, #[], boot_drawn, boot_toks, os⟩ (topStub P0) = some s₁ ∧
      (staticsOk (importedModules P0.main.body) (boot_heap w.params) s₁.heap && namesBound P0 s₁.heap && gensDone s₁ && laidKept (boot_heap w.params) s₁.heap) = true ∧
      openSeen q0 loose0 (importedModules P0.main.body) (fun s => xlAt q0 [] s && recOk [] s) true s₁ = openGood q0 loose0 ∧ H.obs s₁ = H.val w := by
  obtain ⟨⟨f, sT, c, pos⟩, e, e'⟩ := Option.map_eq_some_iff.mp h
  unfold obsv looks at e'
  dsimp only at e'
  simp only [Prod.mk.injEq] at e'
  obtain ⟨⟨rfl, rfl, rfl⟩, -, l1, l2, l3⟩ := e'
  refine ⟨sT.abs, ?_, l1, l2, l3⟩
  have e2 := segRun_of e
  have e3 := piece_app (rest := []) e2 (fin0 w sT.abs _)
  have e4 := piece_block (blk0 w os) (by rw [List.append_nil] at e3; exact e3)
  exact go_top (pre0 w os) e4
theorem as0_eq : ∀ P, as0 = (KK P).map (·.1) := by intro P; kernel_rfl
noncomputable def H0 : Hook := kmHook KK as0 as0_eq [576]
noncomputable def looksT (H : Hook) (w : World) (s : Shared) := ((staticsOk mods0 (boot_heap w.params) s.heap && namesBound P0 s.heap && gensDone s && laidKept (boot_heap w.params) s.heap), PySem.W.Fast.tw4187177175401517315 q0 loose0 mods0 (fun s => xlAt q0 [] s && recOk [] s) true s, H.obs s)
noncomputable def obsvT (H : Hook) (w : World) (r : Flow × SharedT × Code × Pos) := ((r.1, r.2.2.1, r.2.2.2), (r.2.1.n, r.2.1.life, r.2.1.gens, r.2.1.drawn, r.2.1.toks, r.2.1.os), looksT H w r.2.1.abs)
theorem run0 : ∀ w os, (PySem.W.Fast.tw10110043849684766642 PySem.W.Fast.tw14364793385576792824 P0 w 11 ann0 1 4000 (s1 w os) (piecesOf (behindTheImports P0) E0 c0 z0 B0)).map (obsvT H0 w) =
   some ((.next, c0, ⟨539, 0, 541, 61⟩), (587, {}, #[], {}, 1020, os), (true, openGood q0 loose0, H0.val w)) := by
  intro w os; kernel_rfl
theorem obsv_eq (H : Hook) (w : World) : obsv H w = obsvT H w := by
  unfold obsv obsvT looks looksT
  rw [PySem.W.Fast.te4187177175401517315]
theorem run1 (w : World) (os : OsState) : (segRunT treeTable P0 w 11 ann0 1 4000 (s1 w os) (piecesOf (behindTheImports P0) E0 c0 z0 B0)).map (obsv H0 w) =
   some ((.next, c0, ⟨539, 0, 541, 61⟩), (587, {}, #[], {}, 1020, os), (true, openGood q0 loose0, H0.val w)) := by
  rw [obsv_eq, PySem.W.Fast.te10110043849684766642, PySem.W.Fast.te14364793385576792824]
  exact run0 w os
theorem left0 : LeftO P0 q0 loose0 (fun s => xlAt q0 [] s && recOk [] s) (Hook.obs H0) (Hook.val H0) 7800 true :=
  left_of (boot_open open0 (by decide) fence0) size0 (fun w os => top0 w os H0 (run1 w os)) (by decide)
theorem and_t {a b : Bool} (x : a = true) (y : b = true) : (a && b) = true := by rw [x, y]; rfl
theorem ls_names : namesResolve PySem.Challenge.rw_pc0176_01.row.prog = true := by kernel_rfl
theorem ls_meet : (namesMeet PySem.Challenge.rw_pc0176_01.row.prog PySem.Challenge.rw_pc0176_01.row.prog.main.body fun _ n => attrL n) = true := by kernel_rfl
theorem ls_looks : looksOpen PySem.Challenge.rw_pc0176_01.row.prog = true := by
  unfold looksOpen
  refine and_t (and_t (and_t (and_t (and_t ?_ ?_) ls_names) ?_) ?_) ls_meet <;> kernel_rfl
theorem law_said : OpenLaw.wellSaid PySem.Challenge.rw_pc0176_01 = true := by
  unfold OpenLaw.wellSaid OpenRow.wellSaid OpenRow.partSaid
  repeat' (with_reducible refine and_t ?_ ?_)
  all_goals (first | with_reducible exact ls_looks | kernel_rfl)
end Mine
end
section
open PySem PySem.W PySem.Spec PySem.Calls PyProof.Rows
namespace Mine
theorem news_tl0 {h₀ h : Heap} {L : Addr} {q : Addr × Obj} {r : List (Addr × Obj)} (N : News h₀ L h (q :: r)) : News h₀ L h r := fun p hp => N p (.tail _ hp)
theorem foldS {α : Type} {M : Model} {A : Around} {t : Sem α} {Q : α → Shared → Prop} {E : Value → Shared → Prop} {s : Shared} (h : let s' := s; wpAny M A t Q E s') : wpAny M A t Q E s := h
theorem foldA {α : Type} {M : Model} {A : Around} {t : Sem α} {Q : α → Shared → Prop} {E : Value → Shared → Prop} {s : Shared} (h : let A' := A; wpAny M A' t Q E s) : wpAny M A t Q E s := h
theorem foldM {P : Prop} {h₀ h : Heap} {L : Addr} {m : Str → Option Value} (F : Fr h₀ L h m) (k : let m' := m; Fr h₀ L h m' → P) : P := k F
theorem room0 {a b R : Nat} (h : a + b < R) : a < R := Nat.lt_of_le_of_lt (Nat.le_add_right a b) h
theorem room1 {a b c R : Nat} (h : a + b < R) (hc : c ≤ b) : a + c < R := Nat.lt_of_le_of_lt (Nat.add_le_add_left hc a) h
theorem room2 {a b c d R : Nat} (h : a + b < R) (hc : c + d ≤ b) : a + c + d < R := by rw [Nat.add_assoc]; exact room1 h hc
theorem room3 {a b c d e R : Nat} (h : a + b < R) (hc : c + d + e ≤ b) : a + c + d + e < R := by rw [Nat.add_assoc, Nat.add_assoc]; exact room1 h (by rw [← Nat.add_assoc]; exact hc)
/-! the table, as the ledger bears it -/
structure Nd where
  x : Addr
  dx : Addr
  kt : Nat → Tok
  key : Value
  val : Value
  nxt : Int
  tn : Tok
structure Tab where
  t : Addr
  td : Addr
  la : Addr
  ln : Addr
  kt : Nat → Tok
  num : Value
  mark : Value
  size : Value
  mta : Value
  flags : Value
  weak : Value
  log : Value
  free : Int
  tf : Tok
  arr : List Value
  ea : Nat
  nds : List Nd
  el : Nat
abbrev ndE (P : Params) (n : Nd) : List DictEntry := [en P "key" (n.kt 0) n.key, en P "value" (n.kt 1) n.val, en P "next" (n.kt 2) (.int n.nxt n.tn)]
abbrev tdE (P : Params) (T : Tab) : List DictEntry :=
  [en P "number" (T.kt 0) T.num, en P "mark" (T.kt 1) T.mark, en P "size" (T.kt 2) T.size, en P "meta" (T.kt 3) T.mta, en P "flags" (T.kt 4) T.flags, en P "weak" (T.kt 5) T.weak,
   en P "array" (T.kt 6) (.ref T.la), en P "nodes" (T.kt 7) (.ref T.ln), en P "log_nodes" (T.kt 8) T.log, en P "free" (T.kt 9) (.int T.free T.tf)]
noncomputable def nl (P : Params) : List Nd → List (Addr × Obj)
  | [] => []
  | n :: r => (n.x, instObj C_Node n.dx) :: (n.dx, dictOf (ndE P n) 3) :: nl P r
noncomputable def refsN (l : List Nd) : List Value := l.map fun n => .ref n.x
noncomputable def tl (P : Params) (T : Tab) : List (Addr × Obj) :=
  (T.t, instObj C_Table T.td) :: (T.td, dictOf (tdE P T) 10) :: (T.la, listOf T.arr.toArray T.ea) :: (T.ln, listOf (refsN T.nds).toArray T.el) :: nl P T.nds
noncomputable def nAd : List Nd → List Addr
  | [] => []
  | n :: r => n.x :: n.dx :: nAd r
noncomputable def tAd (T : Tab) : List Addr := T.t :: T.td :: T.la :: T.ln :: nAd T.nds
theorem nl_ad (P : Params) : ∀ l : List Nd, (nl P l).map (·.1) = nAd l
  | [] => rfl
  | n :: r => by simp [nl, nAd, nl_ad P r]
theorem tl_ad (P : Params) (T : Tab) : (tl P T).map (·.1) = tAd T := by simp [tl, tAd, nl_ad]
theorem mem_t {P : Params} {T : Tab} : (T.t, instObj C_Table T.td) ∈ tl P T := .head _
theorem mem_td {P : Params} {T : Tab} : (T.td, dictOf (tdE P T) 10) ∈ tl P T := .tail _ (.head _)
theorem mem_la {P : Params} {T : Tab} : (T.la, listOf T.arr.toArray T.ea) ∈ tl P T := .tail _ (.tail _ (.head _))
theorem mem_ln {P : Params} {T : Tab} : (T.ln, listOf (refsN T.nds).toArray T.el) ∈ tl P T := .tail _ (.tail _ (.tail _ (.head _)))
theorem nl_x {P : Params} {n : Nd} : ∀ {l : List Nd}, n ∈ l → (n.x, instObj C_Node n.dx) ∈ nl P l ∧ (n.dx, dictOf (ndE P n) 3) ∈ nl P l
  | _ :: _, .head _ => ⟨.head _, .tail _ (.head _)⟩
  | _ :: _, .tail _ h => ⟨.tail _ (.tail _ (nl_x h).1), .tail _ (.tail _ (nl_x h).2)⟩
theorem mem_nx {P : Params} {T : Tab} {i : Nat} {n : Nd} (h : T.nds[i]? = some n) : (n.x, instObj C_Node n.dx) ∈ tl P T :=
  .tail _ (.tail _ (.tail _ (.tail _ (nl_x (List.mem_of_getElem? h)).1)))
theorem mem_nd {P : Params} {T : Tab} {i : Nat} {n : Nd} (h : T.nds[i]? = some n) : (n.dx, dictOf (ndE P n) 3) ∈ tl P T :=
  .tail _ (.tail _ (.tail _ (.tail _ (nl_x (List.mem_of_getElem? h)).2)))
/-! keys -/
inductive Ky where
  | i (n : Int)
  | b (x : Array UInt8)
  deriving DecidableEq
noncomputable def kyOf : Value → Option Ky
  | .int n _ => some (.i n)
  | .bytes x _ => some (.b x)
  | _ => none
end Mine
namespace Mine
noncomputable def Has (P : Params) (T : Tab) (news : List (Addr × Obj)) : Prop := ∀ p ∈ tl P T, p ∈ news
theorem has_all {P : Params} {T : Tab} {news : List (Addr × Obj)} (H : Has P T news) :
    (T.t, instObj C_Table T.td) ∈ news ∧ (T.td, dictOf (tdE P T) 10) ∈ news ∧ (T.la, listOf T.arr.toArray T.ea) ∈ news ∧ (T.ln, listOf (refsN T.nds).toArray T.el) ∈ news :=
  ⟨H _ mem_t, H _ mem_td, H _ mem_la, H _ mem_ln⟩
theorem has_nd {P : Params} {T : Tab} {news : List (Addr × Obj)} (H : Has P T news) {i : Nat} {n : Nd} (h : T.nds[i]? = some n) :
    (n.x, instObj C_Node n.dx) ∈ news ∧ (n.dx, dictOf (ndE P n) 3) ∈ news := ⟨H _ (mem_nx h), H _ (mem_nd h)⟩
theorem has_tl {P : Params} {T : Tab} {q : Addr × Obj} {news : List (Addr × Obj)} (H : Has P T news) : Has P T (q :: news) := fun p hp => .tail _ (H p hp)
end Mine
end
section
open PySem PySem.W PySem.Spec PySem.Calls PyProof.Rows
namespace Mine
theorem wdTC_0 : True := by
  k_with "k_room" => ((try dsimp only [Ax]); ktr_room)
  k_with "k_units" => ((try dsimp only [Ax]); ktr_units)
  trivial
theorem fill0 : (PySem.Challenge.rw_pc0176_01, KK) = (PySem.Challenge.rw_pc0176_01, KK) := by
  k_fill
  rfl
abbrev Bdy (prog : Program) (w : World) (p : Program) (loose : List Str) (mean : ExcName → Option Value) (mg mb : Str → Option Value) (dp un : Nat) (gd : Option (List Code)) (cn : Str) (cs : Scope) (a : Addr) (ccd : Value) (cl : List (Str × Addr)) (outer : List Env)
    (base h₀ : Heap) (L : Addr) (m : Str → Option Value) (news : List (Addr × Obj)) (s : Shared) (E Q : Value → Shared → Prop) (q : Str) (S : Scope) (f c : Addr) (b : List Stmt) (bs : List (Str × Value)) (n : Nat) : Prop :=
  ∀ g L' h₁, Fr h₀ L g m → Fr g L' h₁ (fun y => List.lookup y bs) → News g L' h₁ news → Below (ktrTop dp un gd cn cs L a ccd cl outer) base (envX cn cs L a ccd cl :: outer) g → (KK w.params).In g → Top p loose mean mg mb g →
    wpAny (model prog w) ((ktrTop dp un gd cn cs L a ccd cl outer).deeper (envOf q S L' f (.ref c))) (execs b (envOf q S L' f (.ref c)))
      (fun fl s' => LeaveK h₀ L m g (fun (r : Result) s' => match r with | .ok (.ret v) => Q v s' | .ok _ => False | .error e => E e s') (match fl with | .ret v => v | _ => .none) s')
      (fun e s' => wpAny (model prog w) ((ktrTop dp un gd cn cs L a ccd cl outer).deeper (envOf q S L' f (.ref c))) (leaving (envOf q S L' f (.ref c)) e) (fun _ s'' => (fun (r : Result) s' => match r with | .ok (.ret v) => Q v s' | .ok _ => False | .error e => E e s') (.error e) s'') (fun e' s'' => (fun (r : Result) s' => match r with | .ok (.ret v) => Q v s' | .ok _ => False | .error e => E e s') (.error e') s'') s')
      { s with heap := h₁, toks := s.toks + n }
section
variable {prog : Program} {w : World} {p : Program} {loose : List Str} {mean : ExcName → Option Value} {mg mb : Str → Option Value}
  {dp un : Nat} {gd : Option (List Code)} {cn : Str} {cs : Scope} {a : Addr} {ccd : Value} {cl : List (Str × Addr)} {outer : List Env} {A₀ : Around} {base h₀ : Heap} {L : Addr} {m : Str → Option Value} {news : List (Addr × Obj)} {s : Shared} {E : Value → Shared → Prop} {Q : Value → Shared → Prop}
  (B : Below A₀ base outer h₀) (F : Fr h₀ L s.heap m) (X : (KK w.params).In h₀) (N : News h₀ L s.heap news) (T : Top p loose mean mg mb h₀) (hk : cs.kind = .function)
include B F X N T hk
theorem en_HeapObject___init__ {v0 v1 v2 : Value} (hd : dp < recursionLimit) (h : Bdy prog w p loose mean mg mb dp un gd cn cs a ccd cl outer base h₀ L m news s E Q "HeapObject.__init__" S_HeapObject___init__ F_HeapObject___init__ 54 B_HeapObject___init__ [(Str.ofString "size", v2), (Str.ofString "number", v1), (Str.ofString "self", v0)] 3) : wpAny (model prog w) (ktrTop dp un gd cn cs L a ccd cl outer) (call (.ref F_HeapObject___init__) [v0, v1, v2]) Q E s :=
  wpAny_call (code_def (binds := [(Str.ofString "self", v0), (Str.ofString "number", v1), (Str.ofString "size", v2)]) B F X N T rfl rfl hk (by k_is) (by k_is) hd (BindsTo.of_eq rfl) (locs rfl) h rfl rfl rfl (by decide))
theorem en_is_number {v0 : Value} (hd : dp < recursionLimit) (h : Bdy prog w p loose mean mg mb dp un gd cn cs a ccd cl outer base h₀ L m news s E Q "is_number" S_is_number F_is_number 89 B_is_number [(Str.ofString "value", v0)] 1) : wpAny (model prog w) (ktrTop dp un gd cn cs L a ccd cl outer) (call (.ref F_is_number) [v0]) Q E s :=
  wpAny_call (code_def (binds := [(Str.ofString "value", v0)]) B F X N T rfl rfl hk (by k_is) (by k_is) hd (BindsTo.of_eq rfl) (locs rfl) h rfl rfl rfl (by decide))
theorem en_type_of {v0 : Value} (hd : dp < recursionLimit) (h : Bdy prog w p loose mean mg mb dp un gd cn cs a ccd cl outer base h₀ L m news s E Q "type_of" S_type_of F_type_of 96 B_type_of [(Str.ofString "value", v0)] 1) : wpAny (model prog w) (ktrTop dp un gd cn cs L a ccd cl outer) (call (.ref F_type_of) [v0]) Q E s :=
  wpAny_call (code_def (binds := [(Str.ofString "value", v0)]) B F X N T rfl rfl hk (by k_is) (by k_is) hd (BindsTo.of_eq rfl) (locs rfl) h rfl rfl rfl (by decide))
theorem en_raw_equal {v0 v1 : Value} (hd : dp < recursionLimit) (h : Bdy prog w p loose mean mg mb dp un gd cn cs a ccd cl outer base h₀ L m news s E Q "raw_equal" S_raw_equal F_raw_equal 110 B_raw_equal [(Str.ofString "b", v1), (Str.ofString "a", v0)] 2) : wpAny (model prog w) (ktrTop dp un gd cn cs L a ccd cl outer) (call (.ref F_raw_equal) [v0, v1]) Q E s :=
  wpAny_call (code_def (binds := [(Str.ofString "a", v0), (Str.ofString "b", v1)]) B F X N T rfl rfl hk (by k_is) (by k_is) hd (BindsTo.of_eq rfl) (locs rfl) h rfl rfl rfl (by decide))
theorem en_string_hash {v0 : Value} (hd : dp < recursionLimit) (h : Bdy prog w p loose mean mg mb dp un gd cn cs a ccd cl outer base h₀ L m news s E Q "string_hash" S_string_hash F_string_hash 117 B_string_hash [(Str.ofString "text", v0)] 1) : wpAny (model prog w) (ktrTop dp un gd cn cs L a ccd cl outer) (call (.ref F_string_hash) [v0]) Q E s :=
  wpAny_call (code_def (binds := [(Str.ofString "text", v0)]) B F X N T rfl rfl hk (by k_is) (by k_is) hd (BindsTo.of_eq rfl) (locs rfl) h rfl rfl rfl (by decide))
theorem en_log2 {v0 : Value} (hd : dp < recursionLimit) (h : Bdy prog w p loose mean mg mb dp un gd cn cs a ccd cl outer base h₀ L m news s E Q "log2" S_log2 F_log2 124 B_log2 [(Str.ofString "n", v0)] 1) : wpAny (model prog w) (ktrTop dp un gd cn cs L a ccd cl outer) (call (.ref F_log2) [v0]) Q E s :=
  wpAny_call (code_def (binds := [(Str.ofString "n", v0)]) B F X N T rfl rfl hk (by k_is) (by k_is) hd (BindsTo.of_eq rfl) (locs rfl) h rfl rfl rfl (by decide))
theorem en_ceil_log2 {v0 : Value} (hd : dp < recursionLimit) (h : Bdy prog w p loose mean mg mb dp un gd cn cs a ccd cl outer base h₀ L m news s E Q "ceil_log2" S_ceil_log2 F_ceil_log2 131 B_ceil_log2 [(Str.ofString "n", v0)] 1) : wpAny (model prog w) (ktrTop dp un gd cn cs L a ccd cl outer) (call (.ref F_ceil_log2) [v0]) Q E s :=
  wpAny_call (code_def (binds := [(Str.ofString "n", v0)]) B F X N T rfl rfl hk (by k_is) (by k_is) hd (BindsTo.of_eq rfl) (locs rfl) h rfl rfl rfl (by decide))
theorem en_Node___init__ {v0 : Value} (hd : dp < recursionLimit) (h : Bdy prog w p loose mean mg mb dp un gd cn cs a ccd cl outer base h₀ L m news s E Q "Node.__init__" S_Node___init__ F_Node___init__ 166 B_Node___init__ [(Str.ofString "self", v0)] 1) : wpAny (model prog w) (ktrTop dp un gd cn cs L a ccd cl outer) (call (.ref F_Node___init__) [v0]) Q E s :=
  wpAny_call (code_def (binds := [(Str.ofString "self", v0)]) B F X N T rfl rfl hk (by k_is) (by k_is) hd (BindsTo.of_eq rfl) (locs rfl) h rfl rfl rfl (by decide))
theorem en_Node_moved_to {v0 v1 : Value} (hd : dp < recursionLimit) (h : Bdy prog w p loose mean mg mb dp un gd cn cs a ccd cl outer base h₀ L m news s E Q "Node.moved_to" S_Node_moved_to F_Node_moved_to 173 B_Node_moved_to [(Str.ofString "other", v1), (Str.ofString "self", v0)] 2) : wpAny (model prog w) (ktrTop dp un gd cn cs L a ccd cl outer) (call (.ref F_Node_moved_to) [v0, v1]) Q E s :=
  wpAny_call (code_def (binds := [(Str.ofString "self", v0), (Str.ofString "other", v1)]) B F X N T rfl rfl hk (by k_is) (by k_is) hd (BindsTo.of_eq rfl) (locs rfl) h rfl rfl rfl (by decide))
theorem en_array_index {v0 : Value} (hd : dp < recursionLimit) (h : Bdy prog w p loose mean mg mb dp un gd cn cs a ccd cl outer base h₀ L m news s E Q "array_index" S_array_index F_array_index 187 B_array_index [(Str.ofString "key", v0)] 1) : wpAny (model prog w) (ktrTop dp un gd cn cs L a ccd cl outer) (call (.ref F_array_index) [v0]) Q E s :=
  wpAny_call (code_def (binds := [(Str.ofString "key", v0)]) B F X N T rfl rfl hk (by k_is) (by k_is) hd (BindsTo.of_eq rfl) (locs rfl) h rfl rfl rfl (by decide))
theorem en_compute_sizes {v0 v1 : Value} (hd : dp < recursionLimit) (h : Bdy prog w p loose mean mg mb dp un gd cn cs a ccd cl outer base h₀ L m news s E Q "compute_sizes" S_compute_sizes F_compute_sizes 194 B_compute_sizes [(Str.ofString "wanted", v1), (Str.ofString "counts", v0)] 2) : wpAny (model prog w) (ktrTop dp un gd cn cs L a ccd cl outer) (call (.ref F_compute_sizes) [v0, v1]) Q E s :=
  wpAny_call (code_def (binds := [(Str.ofString "counts", v0), (Str.ofString "wanted", v1)]) B F X N T rfl rfl hk (by k_is) (by k_is) hd (BindsTo.of_eq rfl) (locs rfl) h rfl rfl rfl (by decide))
theorem en_count_key {v0 v1 : Value} (hd : dp < recursionLimit) (h : Bdy prog w p loose mean mg mb dp un gd cn cs a ccd cl outer base h₀ L m news s E Q "count_key" S_count_key F_count_key 201 B_count_key [(Str.ofString "counts", v1), (Str.ofString "key", v0)] 2) : wpAny (model prog w) (ktrTop dp un gd cn cs L a ccd cl outer) (call (.ref F_count_key) [v0, v1]) Q E s :=
  wpAny_call (code_def (binds := [(Str.ofString "key", v0), (Str.ofString "counts", v1)]) B F X N T rfl rfl hk (by k_is) (by k_is) hd (BindsTo.of_eq rfl) (locs rfl) h rfl rfl rfl (by decide))
theorem en_Table_main_position {v0 v1 : Value} (hd : dp < recursionLimit) (h : Bdy prog w p loose mean mg mb dp un gd cn cs a ccd cl outer base h₀ L m news s E Q "Table.main_position" S_Table_main_position F_Table_main_position 223 B_Table_main_position [(Str.ofString "key", v1), (Str.ofString "self", v0)] 2) : wpAny (model prog w) (ktrTop dp un gd cn cs L a ccd cl outer) (call (.ref F_Table_main_position) [v0, v1]) Q E s :=
  wpAny_call (code_def (binds := [(Str.ofString "self", v0), (Str.ofString "key", v1)]) B F X N T rfl rfl hk (by k_is) (by k_is) hd (BindsTo.of_eq rfl) (locs rfl) h rfl rfl rfl (by decide))
theorem en_Table_find_node {v0 v1 : Value} (hd : dp < recursionLimit) (h : Bdy prog w p loose mean mg mb dp un gd cn cs a ccd cl outer base h₀ L m news s E Q "Table.find_node" S_Table_find_node F_Table_find_node 230 B_Table_find_node [(Str.ofString "key", v1), (Str.ofString "self", v0)] 2) : wpAny (model prog w) (ktrTop dp un gd cn cs L a ccd cl outer) (call (.ref F_Table_find_node) [v0, v1]) Q E s :=
  wpAny_call (code_def (binds := [(Str.ofString "self", v0), (Str.ofString "key", v1)]) B F X N T rfl rfl hk (by k_is) (by k_is) hd (BindsTo.of_eq rfl) (locs rfl) h rfl rfl rfl (by decide))
theorem en_Table_free_position {v0 : Value} (hd : dp < recursionLimit) (h : Bdy prog w p loose mean mg mb dp un gd cn cs a ccd cl outer base h₀ L m news s E Q "Table.free_position" S_Table_free_position F_Table_free_position 237 B_Table_free_position [(Str.ofString "self", v0)] 1) : wpAny (model prog w) (ktrTop dp un gd cn cs L a ccd cl outer) (call (.ref F_Table_free_position) [v0]) Q E s :=
  wpAny_call (code_def (binds := [(Str.ofString "self", v0)]) B F X N T rfl rfl hk (by k_is) (by k_is) hd (BindsTo.of_eq rfl) (locs rfl) h rfl rfl rfl (by decide))
theorem en_Table_get_int {v0 v1 : Value} (hd : dp < recursionLimit) (h : Bdy prog w p loose mean mg mb dp un gd cn cs a ccd cl outer base h₀ L m news s E Q "Table.get_int" S_Table_get_int F_Table_get_int 244 B_Table_get_int [(Str.ofString "n", v1), (Str.ofString "self", v0)] 2) : wpAny (model prog w) (ktrTop dp un gd cn cs L a ccd cl outer) (call (.ref F_Table_get_int) [v0, v1]) Q E s :=
  wpAny_call (code_def (binds := [(Str.ofString "self", v0), (Str.ofString "n", v1)]) B F X N T rfl rfl hk (by k_is) (by k_is) hd (BindsTo.of_eq rfl) (locs rfl) h rfl rfl rfl (by decide))
theorem en_Table_get {v0 v1 : Value} (hd : dp < recursionLimit) (h : Bdy prog w p loose mean mg mb dp un gd cn cs a ccd cl outer base h₀ L m news s E Q "Table.get" S_Table_get F_Table_get 258 B_Table_get [(Str.ofString "key", v1), (Str.ofString "self", v0)] 2) : wpAny (model prog w) (ktrTop dp un gd cn cs L a ccd cl outer) (call (.ref F_Table_get) [v0, v1]) Q E s :=
  wpAny_call (code_def (binds := [(Str.ofString "self", v0), (Str.ofString "key", v1)]) B F X N T rfl rfl hk (by k_is) (by k_is) hd (BindsTo.of_eq rfl) (locs rfl) h rfl rfl rfl (by decide))
theorem en_Table_set {v0 v1 v2 v3 : Value} (hd : dp < recursionLimit) (h : Bdy prog w p loose mean mg mb dp un gd cn cs a ccd cl outer base h₀ L m news s E Q "Table.set" S_Table_set F_Table_set 265 B_Table_set [(Str.ofString "heap", v3), (Str.ofString "value", v2), (Str.ofString "key", v1), (Str.ofString "self", v0)] 4) : wpAny (model prog w) (ktrTop dp un gd cn cs L a ccd cl outer) (call (.ref F_Table_set) [v0, v1, v2, v3]) Q E s :=
  wpAny_call (code_def (binds := [(Str.ofString "self", v0), (Str.ofString "key", v1), (Str.ofString "value", v2), (Str.ofString "heap", v3)]) B F X N T rfl rfl hk (by k_is) (by k_is) hd (BindsTo.of_eq rfl) (locs rfl) h rfl rfl rfl (by decide))
theorem en_Table_put {v0 v1 v2 v3 : Value} (hd : dp < recursionLimit) (h : Bdy prog w p loose mean mg mb dp un gd cn cs a ccd cl outer base h₀ L m news s E Q "Table.put" S_Table_put F_Table_put 286 B_Table_put [(Str.ofString "heap", v3), (Str.ofString "value", v2), (Str.ofString "key", v1), (Str.ofString "self", v0)] 4) : wpAny (model prog w) (ktrTop dp un gd cn cs L a ccd cl outer) (call (.ref F_Table_put) [v0, v1, v2, v3]) Q E s :=
  wpAny_call (code_def (binds := [(Str.ofString "self", v0), (Str.ofString "key", v1), (Str.ofString "value", v2), (Str.ofString "heap", v3)]) B F X N T rfl rfl hk (by k_is) (by k_is) hd (BindsTo.of_eq rfl) (locs rfl) h rfl rfl rfl (by decide))
theorem en_Table_new_key {v0 v1 v2 v3 : Value} (hd : dp < recursionLimit) (h : Bdy prog w p loose mean mg mb dp un gd cn cs a ccd cl outer base h₀ L m news s E Q "Table.new_key" S_Table_new_key F_Table_new_key 293 B_Table_new_key [(Str.ofString "heap", v3), (Str.ofString "value", v2), (Str.ofString "key", v1), (Str.ofString "self", v0)] 4) : wpAny (model prog w) (ktrTop dp un gd cn cs L a ccd cl outer) (call (.ref F_Table_new_key) [v0, v1, v2, v3]) Q E s :=
  wpAny_call (code_def (binds := [(Str.ofString "self", v0), (Str.ofString "key", v1), (Str.ofString "value", v2), (Str.ofString "heap", v3)]) B F X N T rfl rfl hk (by k_is) (by k_is) hd (BindsTo.of_eq rfl) (locs rfl) h rfl rfl rfl (by decide))
theorem en_Table_put_again {v0 v1 v2 v3 : Value} (hd : dp < recursionLimit) (h : Bdy prog w p loose mean mg mb dp un gd cn cs a ccd cl outer base h₀ L m news s E Q "Table.put_again" S_Table_put_again F_Table_put_again 300 B_Table_put_again [(Str.ofString "heap", v3), (Str.ofString "value", v2), (Str.ofString "key", v1), (Str.ofString "self", v0)] 4) : wpAny (model prog w) (ktrTop dp un gd cn cs L a ccd cl outer) (call (.ref F_Table_put_again) [v0, v1, v2, v3]) Q E s :=
  wpAny_call (code_def (binds := [(Str.ofString "self", v0), (Str.ofString "key", v1), (Str.ofString "value", v2), (Str.ofString "heap", v3)]) B F X N T rfl rfl hk (by k_is) (by k_is) hd (BindsTo.of_eq rfl) (locs rfl) h rfl rfl rfl (by decide))
theorem en_Table_count_array {v0 v1 : Value} (hd : dp < recursionLimit) (h : Bdy prog w p loose mean mg mb dp un gd cn cs a ccd cl outer base h₀ L m news s E Q "Table.count_array" S_Table_count_array F_Table_count_array 307 B_Table_count_array [(Str.ofString "counts", v1), (Str.ofString "self", v0)] 2) : wpAny (model prog w) (ktrTop dp un gd cn cs L a ccd cl outer) (call (.ref F_Table_count_array) [v0, v1]) Q E s :=
  wpAny_call (code_def (binds := [(Str.ofString "self", v0), (Str.ofString "counts", v1)]) B F X N T rfl rfl hk (by k_is) (by k_is) hd (BindsTo.of_eq rfl) (locs rfl) h rfl rfl rfl (by decide))
theorem en_Table_count_nodes {v0 v1 : Value} (hd : dp < recursionLimit) (h : Bdy prog w p loose mean mg mb dp un gd cn cs a ccd cl outer base h₀ L m news s E Q "Table.count_nodes" S_Table_count_nodes F_Table_count_nodes 314 B_Table_count_nodes [(Str.ofString "counts", v1), (Str.ofString "self", v0)] 2) : wpAny (model prog w) (ktrTop dp un gd cn cs L a ccd cl outer) (call (.ref F_Table_count_nodes) [v0, v1]) Q E s :=
  wpAny_call (code_def (binds := [(Str.ofString "self", v0), (Str.ofString "counts", v1)]) B F X N T rfl rfl hk (by k_is) (by k_is) hd (BindsTo.of_eq rfl) (locs rfl) h rfl rfl rfl (by decide))
theorem en_Table_rehash {v0 v1 v2 : Value} (hd : dp < recursionLimit) (h : Bdy prog w p loose mean mg mb dp un gd cn cs a ccd cl outer base h₀ L m news s E Q "Table.rehash" S_Table_rehash F_Table_rehash 321 B_Table_rehash [(Str.ofString "heap", v2), (Str.ofString "extra", v1), (Str.ofString "self", v0)] 3) : wpAny (model prog w) (ktrTop dp un gd cn cs L a ccd cl outer) (call (.ref F_Table_rehash) [v0, v1, v2]) Q E s :=
  wpAny_call (code_def (binds := [(Str.ofString "self", v0), (Str.ofString "extra", v1), (Str.ofString "heap", v2)]) B F X N T rfl rfl hk (by k_is) (by k_is) hd (BindsTo.of_eq rfl) (locs rfl) h rfl rfl rfl (by decide))
theorem en_Table_put_back {v0 v1 v2 v3 : Value} (hd : dp < recursionLimit) (h : Bdy prog w p loose mean mg mb dp un gd cn cs a ccd cl outer base h₀ L m news s E Q "Table.put_back" S_Table_put_back F_Table_put_back 336 B_Table_put_back [(Str.ofString "heap", v3), (Str.ofString "value", v2), (Str.ofString "key", v1), (Str.ofString "self", v0)] 4) : wpAny (model prog w) (ktrTop dp un gd cn cs L a ccd cl outer) (call (.ref F_Table_put_back) [v0, v1, v2, v3]) Q E s :=
  wpAny_call (code_def (binds := [(Str.ofString "self", v0), (Str.ofString "key", v1), (Str.ofString "value", v2), (Str.ofString "heap", v3)]) B F X N T rfl rfl hk (by k_is) (by k_is) hd (BindsTo.of_eq rfl) (locs rfl) h rfl rfl rfl (by decide))
theorem en_Table_make_nodes {v0 v1 : Value} (hd : dp < recursionLimit) (h : Bdy prog w p loose mean mg mb dp un gd cn cs a ccd cl outer base h₀ L m news s E Q "Table.make_nodes" S_Table_make_nodes F_Table_make_nodes 341 B_Table_make_nodes [(Str.ofString "hash_size", v1), (Str.ofString "self", v0)] 2) : wpAny (model prog w) (ktrTop dp un gd cn cs L a ccd cl outer) (call (.ref F_Table_make_nodes) [v0, v1]) Q E s :=
  wpAny_call (code_def (binds := [(Str.ofString "self", v0), (Str.ofString "hash_size", v1)]) B F X N T rfl rfl hk (by k_is) (by k_is) hd (BindsTo.of_eq rfl) (locs rfl) h rfl rfl rfl (by decide))
theorem en_Table_weigh {v0 v1 : Value} (hd : dp < recursionLimit) (h : Bdy prog w p loose mean mg mb dp un gd cn cs a ccd cl outer base h₀ L m news s E Q "Table.weigh" S_Table_weigh F_Table_weigh 355 B_Table_weigh [(Str.ofString "heap", v1), (Str.ofString "self", v0)] 2) : wpAny (model prog w) (ktrTop dp un gd cn cs L a ccd cl outer) (call (.ref F_Table_weigh) [v0, v1]) Q E s :=
  wpAny_call (code_def (binds := [(Str.ofString "self", v0), (Str.ofString "heap", v1)]) B F X N T rfl rfl hk (by k_is) (by k_is) hd (BindsTo.of_eq rfl) (locs rfl) h rfl rfl rfl (by decide))
theorem en_Table_length {v0 : Value} (hd : dp < recursionLimit) (h : Bdy prog w p loose mean mg mb dp un gd cn cs a ccd cl outer base h₀ L m news s E Q "Table.length" S_Table_length F_Table_length 376 B_Table_length [(Str.ofString "self", v0)] 1) : wpAny (model prog w) (ktrTop dp un gd cn cs L a ccd cl outer) (call (.ref F_Table_length) [v0]) Q E s :=
  wpAny_call (code_def (binds := [(Str.ofString "self", v0)]) B F X N T rfl rfl hk (by k_is) (by k_is) hd (BindsTo.of_eq rfl) (locs rfl) h rfl rfl rfl (by decide))
theorem en_Table_unbound_search {v0 v1 : Value} (hd : dp < recursionLimit) (h : Bdy prog w p loose mean mg mb dp un gd cn cs a ccd cl outer base h₀ L m news s E Q "Table.unbound_search" S_Table_unbound_search F_Table_unbound_search 383 B_Table_unbound_search [(Str.ofString "first", v1), (Str.ofString "self", v0)] 2) : wpAny (model prog w) (ktrTop dp un gd cn cs L a ccd cl outer) (call (.ref F_Table_unbound_search) [v0, v1]) Q E s :=
  wpAny_call (code_def (binds := [(Str.ofString "self", v0), (Str.ofString "first", v1)]) B F X N T rfl rfl hk (by k_is) (by k_is) hd (BindsTo.of_eq rfl) (locs rfl) h rfl rfl rfl (by decide))
theorem en_free_number {v0 : Value} (hd : dp < recursionLimit) (h : Bdy prog w p loose mean mg mb dp un gd cn cs a ccd cl outer base h₀ L m news s E Q "free_number" S_free_number F_free_number 416 B_free_number [(Str.ofString "table", v0)] 1) : wpAny (model prog w) (ktrTop dp un gd cn cs L a ccd cl outer) (call (.ref F_free_number) [v0]) Q E s :=
  wpAny_call (code_def (binds := [(Str.ofString "table", v0)]) B F X N T rfl rfl hk (by k_is) (by k_is) hd (BindsTo.of_eq rfl) (locs rfl) h rfl rfl rfl (by decide))
theorem en_keep_value {v0 v1 v2 : Value} (hd : dp < recursionLimit) (h : Bdy prog w p loose mean mg mb dp un gd cn cs a ccd cl outer base h₀ L m news s E Q "keep_value" S_keep_value F_keep_value 423 B_keep_value [(Str.ofString "heap", v2), (Str.ofString "value", v1), (Str.ofString "table", v0)] 3) : wpAny (model prog w) (ktrTop dp un gd cn cs L a ccd cl outer) (call (.ref F_keep_value) [v0, v1, v2]) Q E s :=
  wpAny_call (code_def (binds := [(Str.ofString "table", v0), (Str.ofString "value", v1), (Str.ofString "heap", v2)]) B F X N T rfl rfl hk (by k_is) (by k_is) hd (BindsTo.of_eq rfl) (locs rfl) h rfl rfl rfl (by decide))
theorem en_drop_value {v0 v1 v2 : Value} (hd : dp < recursionLimit) (h : Bdy prog w p loose mean mg mb dp un gd cn cs a ccd cl outer base h₀ L m news s E Q "drop_value" S_drop_value F_drop_value 430 B_drop_value [(Str.ofString "heap", v2), (Str.ofString "number", v1), (Str.ofString "table", v0)] 3) : wpAny (model prog w) (ktrTop dp un gd cn cs L a ccd cl outer) (call (.ref F_drop_value) [v0, v1, v2]) Q E s :=
  wpAny_call (code_def (binds := [(Str.ofString "table", v0), (Str.ofString "number", v1), (Str.ofString "heap", v2)]) B F X N T rfl rfl hk (by k_is) (by k_is) hd (BindsTo.of_eq rfl) (locs rfl) h rfl rfl rfl (by decide))
theorem en_dotted_table {v0 v1 v2 v3 : Value} (hd : dp < recursionLimit) (h : Bdy prog w p loose mean mg mb dp un gd cn cs a ccd cl outer base h₀ L m news s E Q "dotted_table" S_dotted_table F_dotted_table 437 B_dotted_table [(Str.ofString "put", v3), (Str.ofString "make", v2), (Str.ofString "name", v1), (Str.ofString "table", v0)] 4) : wpAny (model prog w) (ktrTop dp un gd cn cs L a ccd cl outer) (call (.ref F_dotted_table) [v0, v1, v2, v3]) Q E s :=
  wpAny_call (code_def (binds := [(Str.ofString "table", v0), (Str.ofString "name", v1), (Str.ofString "make", v2), (Str.ofString "put", v3)]) B F X N T rfl rfl hk (by k_is) (by k_is) hd (BindsTo.of_eq rfl) (locs rfl) h rfl rfl rfl (by decide))
theorem en_PlainHeap___init__ {v0 : Value} (hd : dp < recursionLimit) (h : Bdy prog w p loose mean mg mb dp un gd cn cs a ccd cl outer base h₀ L m news s E Q "PlainHeap.__init__" S_PlainHeap___init__ F_PlainHeap___init__ 451 B_PlainHeap___init__ [(Str.ofString "self", v0)] 1) : wpAny (model prog w) (ktrTop dp un gd cn cs L a ccd cl outer) (call (.ref F_PlainHeap___init__) [v0]) Q E s :=
  wpAny_call (code_def (binds := [(Str.ofString "self", v0)]) B F X N T rfl rfl hk (by k_is) (by k_is) hd (BindsTo.of_eq rfl) (locs rfl) h rfl rfl rfl (by decide))
theorem en_PlainHeap_link {v0 v1 v2 : Value} (hd : dp < recursionLimit) (h : Bdy prog w p loose mean mg mb dp un gd cn cs a ccd cl outer base h₀ L m news s E Q "PlainHeap.link" S_PlainHeap_link F_PlainHeap_link 458 B_PlainHeap_link [(Str.ofString "size", v2), (Str.ofString "obj", v1), (Str.ofString "self", v0)] 3) : wpAny (model prog w) (ktrTop dp un gd cn cs L a ccd cl outer) (call (.ref F_PlainHeap_link) [v0, v1, v2]) Q E s :=
  wpAny_call (code_def (binds := [(Str.ofString "self", v0), (Str.ofString "obj", v1), (Str.ofString "size", v2)]) B F X N T rfl rfl hk (by k_is) (by k_is) hd (BindsTo.of_eq rfl) (locs rfl) h rfl rfl rfl (by decide))
theorem en_PlainHeap_new_table {v0 v1 v2 : Value} (hd : dp < recursionLimit) (h : Bdy prog w p loose mean mg mb dp un gd cn cs a ccd cl outer base h₀ L m news s E Q "PlainHeap.new_table" S_PlainHeap_new_table F_PlainHeap_new_table 465 B_PlainHeap_new_table [(Str.ofString "hash_size", v2), (Str.ofString "array_size", v1), (Str.ofString "self", v0)] 3) : wpAny (model prog w) (ktrTop dp un gd cn cs L a ccd cl outer) (call (.ref F_PlainHeap_new_table) [v0, v1, v2]) Q E s :=
  wpAny_call (code_def (binds := [(Str.ofString "self", v0), (Str.ofString "array_size", v1), (Str.ofString "hash_size", v2)]) B F X N T rfl rfl hk (by k_is) (by k_is) hd (BindsTo.of_eq rfl) (locs rfl) h rfl rfl rfl (by decide))
theorem en_PlainHeap_resized {v0 v1 : Value} (hd : dp < recursionLimit) (h : Bdy prog w p loose mean mg mb dp un gd cn cs a ccd cl outer base h₀ L m news s E Q "PlainHeap.resized" S_PlainHeap_resized F_PlainHeap_resized 507 B_PlainHeap_resized [(Str.ofString "table", v1), (Str.ofString "self", v0)] 2) : wpAny (model prog w) (ktrTop dp un gd cn cs L a ccd cl outer) (call (.ref F_PlainHeap_resized) [v0, v1]) Q E s :=
  wpAny_call (code_def (binds := [(Str.ofString "self", v0), (Str.ofString "table", v1)]) B F X N T rfl rfl hk (by k_is) (by k_is) hd (BindsTo.of_eq rfl) (locs rfl) h rfl rfl rfl (by decide))
theorem en_PlainHeap_barrier_table {v0 v1 v2 : Value} (hd : dp < recursionLimit) (h : Bdy prog w p loose mean mg mb dp un gd cn cs a ccd cl outer base h₀ L m news s E Q "PlainHeap.barrier_table" S_PlainHeap_barrier_table F_PlainHeap_barrier_table 528 B_PlainHeap_barrier_table [(Str.ofString "value", v2), (Str.ofString "table", v1), (Str.ofString "self", v0)] 3) : wpAny (model prog w) (ktrTop dp un gd cn cs L a ccd cl outer) (call (.ref F_PlainHeap_barrier_table) [v0, v1, v2]) Q E s :=
  wpAny_call (code_def (binds := [(Str.ofString "self", v0), (Str.ofString "table", v1), (Str.ofString "value", v2)]) B F X N T rfl rfl hk (by k_is) (by k_is) hd (BindsTo.of_eq rfl) (locs rfl) h rfl rfl rfl (by decide))
theorem en_ulaw_take {v0 v1 : Value} (hd : dp < recursionLimit) (h : Bdy prog w p loose mean mg mb dp un gd cn cs a ccd cl outer base h₀ L m news s E Q "_law_take" S_ulaw_take F_ulaw_take 549 B_ulaw_take [(Str.ofString "many", v1), (Str.ofString "draws", v0)] 2) : wpAny (model prog w) (ktrTop dp un gd cn cs L a ccd cl outer) (call (.ref F_ulaw_take) [v0, v1]) Q E s :=
  wpAny_call (code_def (binds := [(Str.ofString "draws", v0), (Str.ofString "many", v1)]) B F X N T rfl rfl hk (by k_is) (by k_is) hd (BindsTo.of_eq rfl) (locs rfl) h rfl rfl rfl (by decide))
theorem en_ulaw_draws {v0 : Value} (hd : dp < recursionLimit) (h : Bdy prog w p loose mean mg mb dp un gd cn cs a ccd cl outer base h₀ L m news s E Q "_law_draws" S_ulaw_draws F_ulaw_draws 554 B_ulaw_draws [(Str.ofString "script", v0)] 1) : wpAny (model prog w) (ktrTop dp un gd cn cs L a ccd cl outer) (call (.ref F_ulaw_draws) [v0]) Q E s :=
  wpAny_call (code_def (binds := [(Str.ofString "script", v0)]) B F X N T rfl rfl hk (by k_is) (by k_is) hd (BindsTo.of_eq rfl) (locs rfl) h rfl rfl rfl (by decide))
theorem en_ulaw_value {v0 v1 v2 : Value} (hd : dp < recursionLimit) (h : Bdy prog w p loose mean mg mb dp un gd cn cs a ccd cl outer base h₀ L m news s E Q "_law_value" S_ulaw_value F_ulaw_value 561 B_ulaw_value [(Str.ofString "turn", v2), (Str.ofString "form", v1), (Str.ofString "heap", v0)] 3) : wpAny (model prog w) (ktrTop dp un gd cn cs L a ccd cl outer) (call (.ref F_ulaw_value) [v0, v1, v2]) Q E s :=
  wpAny_call (code_def (binds := [(Str.ofString "heap", v0), (Str.ofString "form", v1), (Str.ofString "turn", v2)]) B F X N T rfl rfl hk (by k_is) (by k_is) hd (BindsTo.of_eq rfl) (locs rfl) h rfl rfl rfl (by decide))
theorem en_ulaw_is {v0 v1 : Value} (hd : dp < recursionLimit) (h : Bdy prog w p loose mean mg mb dp un gd cn cs a ccd cl outer base h₀ L m news s E Q "_law_is" S_ulaw_is F_ulaw_is 568 B_ulaw_is [(Str.ofString "other", v1), (Str.ofString "value", v0)] 2) : wpAny (model prog w) (ktrTop dp un gd cn cs L a ccd cl outer) (call (.ref F_ulaw_is) [v0, v1]) Q E s :=
  wpAny_call (code_def (binds := [(Str.ofString "value", v0), (Str.ofString "other", v1)]) B F X N T rfl rfl hk (by k_is) (by k_is) hd (BindsTo.of_eq rfl) (locs rfl) h rfl rfl rfl (by decide))
theorem en_law {v0 : Value} (hd : dp < recursionLimit) (h : Bdy prog w p loose mean mg mb dp un gd cn cs a ccd cl outer base h₀ L m news s E Q "law" S_law F_law 585 B_law [(Str.ofString "script", v0)] 1) : wpAny (model prog w) (ktrTop dp un gd cn cs L a ccd cl outer) (call (.ref F_law) [v0]) Q E s :=
  wpAny_call (code_def (binds := [(Str.ofString "script", v0)]) B F X N T rfl rfl hk (by k_is) (by k_is) hd (BindsTo.of_eq rfl) (locs rfl) h rfl rfl rfl (by decide))
end
end Mine
end
section
open PySem PySem.W PySem.Spec PySem.Calls PyProof.Rows
namespace Mine
theorem or_one (x : Nat) : (x ||| 1) = if x % 2 = 0 then x + 1 else x := by
  apply Nat.eq_of_testBit_eq
  intro i
  rw [Nat.testBit_or]
  by_cases h : x % 2 = 0
  · rw [if_pos h]
    cases i with
    | zero => simp [Nat.testBit_zero]; omega
    | succ i =>
      rw [Nat.testBit_succ, Nat.testBit_succ, Nat.testBit_succ]
      have e : (x + 1) / 2 = x / 2 := by omega
      simp [e]
  · rw [if_neg h]
    cases i with
    | zero => simp [Nat.testBit_zero]; omega
    | succ i => simp [Nat.testBit_succ]
theorem bor_one {n : Nat} (h : 0 < n) : ∃ d : Nat, Builtin.bitOr ((n : Int) - 1) 1 = (d : Int) ∧ 1 ≤ d ∧ d ≤ n := by
  refine ⟨(n - 1) ||| 1, ?_, ?_, ?_⟩
  · have h1 : ¬ (0 ≤ Builtin.bitNot ((n : Int) - 1)) := by unfold Builtin.bitNot; omega
    have h2 : ¬ (0 ≤ Builtin.bitNot 1) := by unfold Builtin.bitNot; omega
    unfold Builtin.bitOr Builtin.bitAnd
    rw [decide_eq_false h1, decide_eq_false h2]
    have e1 : (Builtin.bitNot (Builtin.bitNot ((n : Int) - 1))).toNat = n - 1 := by unfold Builtin.bitNot; omega
    have e2 : (Builtin.bitNot (Builtin.bitNot 1)).toNat = 1 := by unfold Builtin.bitNot; omega
    dsimp only
    rw [e1, e2]
    unfold Builtin.bitNot
    omega
  · rw [or_one]; split <;> omega
  · rw [or_one]; split <;> omega
noncomputable def hstep (f c : Int) : Int := Builtin.bitAnd (Builtin.bitXor f (f * 2 ^ (5 : Int).toNat + f.fdiv (2 ^ (2 : Int).toNat) + c)) 4294967295
noncomputable def SHf (x : Array UInt8) : Nat → Int → Int
  | 0, f => f
  | n + 1, f => SHf x n (hstep f ((KBw.bInts x).getD n 0))
noncomputable def SH (x : Array UInt8) : Int := SHf x x.size (Builtin.bitAnd (x.size : Int) 4294967295)
theorem mask_range (y : Int) : 0 ≤ Builtin.bitAnd y 4294967295 ∧ Builtin.bitAnd y 4294967295 < 4294967296 := by
  have e := kbt_mask y 32
  have e2 : (2 : Int) ^ 32 - 1 = 4294967295 := by decide
  have e3 : (2 : Int) ^ 32 = 4294967296 := by decide
  rw [e2, e3] at e
  rw [e]
  omega
theorem SHf_range (x : Array UInt8) : ∀ (n : Nat) (f : Int), 0 ≤ f ∧ f < 4294967296 → 0 ≤ SHf x n f ∧ SHf x n f < 4294967296
  | 0, _, h => h
  | n + 1, _, _ => SHf_range x n _ (mask_range _)
theorem SH_range (x : Array UInt8) : 0 ≤ SH x ∧ SH x < 4294967296 := SHf_range _ _ _ (mask_range _)
noncomputable def MP (n : Nat) : Ky → Int
  | .i k => k.fmod (Builtin.bitOr ((n : Int) - 1) 1)
  | .b x => Builtin.bitAnd (SH x) ((n : Int) - 1)
theorem MP_range {n : Nat} (h : 0 < n) (k : Ky) : 0 ≤ MP n k ∧ MP n k < n := by
  cases k with
  | i k =>
    obtain ⟨d, e, h1, h2⟩ := bor_one h
    unfold MP
    rw [e]
    have h3 : (0 : Int) < (d : Int) := by omega
    have h4 := Int.fmod_nonneg_of_pos k h3
    have h5 := Int.fmod_lt_of_pos k h3
    dsimp only
    omega
  | b x =>
    have hs := SH_range x
    have h1 : 0 ≤ (n : Int) - 1 := by omega
    show 0 ≤ Builtin.bitAnd (SH x) ((n : Int) - 1) ∧ Builtin.bitAnd (SH x) ((n : Int) - 1) < n
    unfold Builtin.bitAnd
    rw [decide_eq_true hs.1, decide_eq_true h1]
    dsimp only
    have h2 : ((n : Int) - 1).toNat = n - 1 := by omega
    rw [h2]
    have h3 := Nat.and_le_right (n := (SH x).toNat) (m := n - 1)
    omega
noncomputable def bits (n : Nat) : Nat := if n = 0 then 0 else n.log2 + 1
theorem bits_le_iff {n j : Nat} : bits n ≤ j ↔ n < 2 ^ j := by
  unfold bits
  by_cases h : n = 0
  · subst h; simp [Nat.two_pow_pos]
  · rw [if_neg h, ← Nat.log2_lt h]; omega
theorem bits_half {n : Nat} (h : 0 < n) : bits n = bits (n / 2) + 1 := by
  have e : ∀ j, bits n ≤ j ↔ bits (n / 2) + 1 ≤ j := by
    intro j
    cases j with
    | zero => rw [bits_le_iff]; simp; omega
    | succ j => rw [bits_le_iff, Nat.add_le_add_iff_right, bits_le_iff, Nat.pow_succ]; omega
  have h1 := (e _).mp (Nat.le_refl _)
  have h2 := (e _).mpr (Nat.le_refl _)
  omega
noncomputable def clog (a : Nat) : Nat := bits (a - 1)
theorem clog_le_iff {a j : Nat} (h : 1 ≤ a) : clog a ≤ j ↔ a ≤ 2 ^ j := by
  unfold clog; rw [bits_le_iff]; omega
theorem le_pow_clog (a : Nat) : a ≤ 2 ^ clog a := by
  by_cases h : 1 ≤ a
  · exact (clog_le_iff h).mp (Nat.le_refl _)
  · have : a = 0 := by omega
    subst this; exact Nat.zero_le _
/-! counts -/
noncomputable def IsCnt (cs : List Value) (f : Nat → Int) : Prop := cs.length = 27 ∧ ∀ i, i < 27 → ∃ t, cs[i]? = some (.int (f i) t)
noncomputable def bump (f : Nat → Int) (j : Nat) : Nat → Int := fun i => if i = j then f i + 1 else f i
theorem IsCnt.bump {cs : List Value} {f : Nat → Int} {j : Nat} {c : Int} {t : Tok} (h : IsCnt cs f) (hj : j < 27) (hc : c = f j + 1) : IsCnt (cs.set j (.int c t)) (bump f j) := by
  refine ⟨by rw [List.length_set]; exact h.1, fun i hi => ?_⟩
  unfold Mine.bump
  by_cases e : i = j
  · subst e
    exact ⟨t, by rw [List.getElem?_set_self (by rw [h.1]; exact hi), if_pos rfl, hc]⟩
  · rw [List.getElem?_set_ne (Ne.symm e), if_neg e]
    exact h.2 i hi
noncomputable def kOne : Ky → Int
  | .i n => if 0 < n then 1 else 0
  | .b _ => 0
noncomputable def KyB : Ky → Prop
  | .i n => n ≤ 67108864
  | .b _ => True
noncomputable def kIn : Ky → Bool
  | .i n => decide (0 < n)
  | .b _ => false
noncomputable def kBump (f : Nat → Int) : Ky → Nat → Int
  | .i n => if 0 < n then Mine.bump f (clog n.toNat) else f
  | .b _ => f
/-! chains -/
inductive Fnd (nds : List Nd) (k : Ky) : Nat → Int → Int → Prop
  | out {at_ : Int} : at_ < 0 → Fnd nds k 0 at_ (-1)
  | hit {at_ : Int} {nd : Nd} : 0 ≤ at_ → nds[at_.toNat]? = some nd → kyOf nd.key = some k → Fnd nds k 0 at_ at_
  | step {n : Nat} {at_ r : Int} {nd : Nd} : 0 ≤ at_ → nds[at_.toNat]? = some nd → kyOf nd.key ≠ some k → Fnd nds k n nd.nxt r → Fnd nds k (n + 1) at_ r
noncomputable def KeysOk (nds : List Nd) : Prop := ∀ nd ∈ nds, nd.key = .none ∨ (kyOf nd.key).isSome = true
theorem KeysOk.at {nds : List Nd} (h : KeysOk nds) {i : Nat} {nd : Nd} (e : nds[i]? = some nd) : nd.key = .none ∨ (kyOf nd.key).isSome = true := h nd (List.mem_of_getElem? e)
theorem refsN_get {nds : List Nd} {i : Nat} {nd : Nd} (e : nds[i]? = some nd) : (refsN nds)[i]? = some (.ref nd.x) := by simp [refsN, e]
theorem lt_of_get {α : Type} {l : List α} {i : Nat} {x : α} (e : l[i]? = some x) : i < l.length := by
  rcases Nat.lt_or_ge i l.length with h | h
  · exact h
  · rw [List.getElem?_eq_none h] at e; cases e
noncomputable def KyOk : Ky → Prop
  | .i _ => True
  | .b x => x.size < 32
theorem handed_key {v : Value} (h : v = .none ∨ (kyOf v).isSome = true) : handedIn v = true := by
  cases v <;> simp_all [kyOf, handedIn]
end Mine
end
section
open PySem PySem.W PySem.Spec PySem.Calls PyProof.Rows
namespace Mine
theorem some_int {a b : Int} {t : Tok} (h : a = b) : some (Value.int a t) = some (Value.int b t) := by rw [h]
theorem shr1 (k : Nat) : ((k : Int)).fdiv (2 ^ Int.toNat 1) = ((k / 2 : Nat) : Int) := by
  have e : (2 : Int) ^ Int.toNat 1 = 2 := by decide
  rw [e, Int.fdiv_eq_ediv_of_nonneg _ (by decide)]; omega
theorem refsN_len (l : List Nd) : (refsN l).length = l.length := by simp [refsN]
theorem map1 {m : Str → Option Value} {a0 : Str} {v0 : Option Value} (h0 : m a0 = v0) : m = fun y => if y = a0 then v0 else m y := by
  funext y
  by_cases g0 : y = a0
  · rw [if_pos g0, g0, h0]
  rw [if_neg g0]
theorem map2 {m : Str → Option Value} {a0 a1 : Str} {v0 v1 : Option Value} (h0 : m a0 = v0) (h1 : m a1 = v1) : m = fun y => if y = a0 then v0 else if y = a1 then v1 else m y := by
  funext y
  by_cases g0 : y = a0
  · rw [if_pos g0, g0, h0]
  by_cases g1 : y = a1
  · rw [if_neg g0, if_pos g1, g1, h1]
  rw [if_neg g0, if_neg g1]
theorem map3 {m : Str → Option Value} {a0 a1 a2 : Str} {v0 v1 v2 : Option Value} (h0 : m a0 = v0) (h1 : m a1 = v1) (h2 : m a2 = v2) : m = fun y => if y = a0 then v0 else if y = a1 then v1 else if y = a2 then v2 else m y := by
  funext y
  by_cases g0 : y = a0
  · rw [if_pos g0, g0, h0]
  by_cases g1 : y = a1
  · rw [if_neg g0, if_pos g1, g1, h1]
  by_cases g2 : y = a2
  · rw [if_neg g0, if_neg g1, if_pos g2, g2, h2]
  rw [if_neg g0, if_neg g1, if_neg g2]
theorem map4 {m : Str → Option Value} {a0 a1 a2 a3 : Str} {v0 v1 v2 v3 : Option Value} (h0 : m a0 = v0) (h1 : m a1 = v1) (h2 : m a2 = v2) (h3 : m a3 = v3) : m = fun y => if y = a0 then v0 else if y = a1 then v1 else if y = a2 then v2 else if y = a3 then v3 else m y := by
  funext y
  by_cases g0 : y = a0
  · rw [if_pos g0, g0, h0]
  by_cases g1 : y = a1
  · rw [if_neg g0, if_pos g1, g1, h1]
  by_cases g2 : y = a2
  · rw [if_neg g0, if_neg g1, if_pos g2, g2, h2]
  by_cases g3 : y = a3
  · rw [if_neg g0, if_neg g1, if_neg g2, if_pos g3, g3, h3]
  rw [if_neg g0, if_neg g1, if_neg g2, if_neg g3]
theorem map5 {m : Str → Option Value} {a0 a1 a2 a3 a4 : Str} {v0 v1 v2 v3 v4 : Option Value} (h0 : m a0 = v0) (h1 : m a1 = v1) (h2 : m a2 = v2) (h3 : m a3 = v3) (h4 : m a4 = v4) : m = fun y => if y = a0 then v0 else if y = a1 then v1 else if y = a2 then v2 else if y = a3 then v3 else if y = a4 then v4 else m y := by
  funext y
  by_cases g0 : y = a0
  · rw [if_pos g0, g0, h0]
  by_cases g1 : y = a1
  · rw [if_neg g0, if_pos g1, g1, h1]
  by_cases g2 : y = a2
  · rw [if_neg g0, if_neg g1, if_pos g2, g2, h2]
  by_cases g3 : y = a3
  · rw [if_neg g0, if_neg g1, if_neg g2, if_pos g3, g3, h3]
  by_cases g4 : y = a4
  · rw [if_neg g0, if_neg g1, if_neg g2, if_neg g3, if_pos g4, g4, h4]
  rw [if_neg g0, if_neg g1, if_neg g2, if_neg g3, if_neg g4]
theorem map6 {m : Str → Option Value} {a0 a1 a2 a3 a4 a5 : Str} {v0 v1 v2 v3 v4 v5 : Option Value} (h0 : m a0 = v0) (h1 : m a1 = v1) (h2 : m a2 = v2) (h3 : m a3 = v3) (h4 : m a4 = v4) (h5 : m a5 = v5) : m = fun y => if y = a0 then v0 else if y = a1 then v1 else if y = a2 then v2 else if y = a3 then v3 else if y = a4 then v4 else if y = a5 then v5 else m y := by
  funext y
  by_cases g0 : y = a0
  · rw [if_pos g0, g0, h0]
  by_cases g1 : y = a1
  · rw [if_neg g0, if_pos g1, g1, h1]
  by_cases g2 : y = a2
  · rw [if_neg g0, if_neg g1, if_pos g2, g2, h2]
  by_cases g3 : y = a3
  · rw [if_neg g0, if_neg g1, if_neg g2, if_pos g3, g3, h3]
  by_cases g4 : y = a4
  · rw [if_neg g0, if_neg g1, if_neg g2, if_neg g3, if_pos g4, g4, h4]
  by_cases g5 : y = a5
  · rw [if_neg g0, if_neg g1, if_neg g2, if_neg g3, if_neg g4, if_pos g5, g5, h5]
  rw [if_neg g0, if_neg g1, if_neg g2, if_neg g3, if_neg g4, if_neg g5]
theorem map8 {m : Str → Option Value} {a0 a1 a2 a3 a4 a5 a6 a7 : Str} {v0 v1 v2 v3 v4 v5 v6 v7 : Option Value} (h0 : m a0 = v0) (h1 : m a1 = v1) (h2 : m a2 = v2) (h3 : m a3 = v3) (h4 : m a4 = v4) (h5 : m a5 = v5) (h6 : m a6 = v6) (h7 : m a7 = v7) : m = fun y => if y = a0 then v0 else if y = a1 then v1 else if y = a2 then v2 else if y = a3 then v3 else if y = a4 then v4 else if y = a5 then v5 else if y = a6 then v6 else if y = a7 then v7 else m y := by
  funext y
  by_cases g0 : y = a0
  · rw [if_pos g0, g0, h0]
  by_cases g1 : y = a1
  · rw [if_neg g0, if_pos g1, g1, h1]
  by_cases g2 : y = a2
  · rw [if_neg g0, if_neg g1, if_pos g2, g2, h2]
  by_cases g3 : y = a3
  · rw [if_neg g0, if_neg g1, if_neg g2, if_pos g3, g3, h3]
  by_cases g4 : y = a4
  · rw [if_neg g0, if_neg g1, if_neg g2, if_neg g3, if_pos g4, g4, h4]
  by_cases g5 : y = a5
  · rw [if_neg g0, if_neg g1, if_neg g2, if_neg g3, if_neg g4, if_pos g5, g5, h5]
  by_cases g6 : y = a6
  · rw [if_neg g0, if_neg g1, if_neg g2, if_neg g3, if_neg g4, if_neg g5, if_pos g6, g6, h6]
  by_cases g7 : y = a7
  · rw [if_neg g0, if_neg g1, if_neg g2, if_neg g3, if_neg g4, if_neg g5, if_neg g6, if_pos g7, g7, h7]
  rw [if_neg g0, if_neg g1, if_neg g2, if_neg g3, if_neg g4, if_neg g5, if_neg g6, if_neg g7]
section
variable {prog : Program} {w : World} {A : Around} {h₀ : Heap} {L : Addr} {m : Str → Option Value} {news news' : List (Addr × Obj)} {s : Shared} {E : Value → Shared → Prop}
theorem isList_led {h : Heap} {l : Addr} {vs : Array Value} {n : Nat} (N : News h₀ L h news) (hm : (l, listOf vs n) ∈ news) : h.IsList l vs := ⟨_, (N _ hm).1, rfl, n, rfl⟩
theorem len_led {Q : Value → Shared → Prop} {l : Addr} {vs : List Value} {n k : Nat} (N : News h₀ L s.heap news) (hm : (l, listOf vs.toArray n) ∈ news) (hk : vs.length = k) (hf : k ≤ 1000000)
    (h : ∀ t tk, Q (.int (k : Int) t) { s with toks := tk }) : wpAny (model prog w) A (call (.builtin "len") [.ref l]) Q E s := by
  subst hk
  refine len_list (isList_led N hm) ?_ ?_
  · have e : (2 : Int) ^ 63 = 9223372036854775808 := by decide
    rw [e, List.size_toArray]; omega
  · rw [List.size_toArray]; exact h _ _
theorem item_led {value slice : PySem.Expr} {l : Addr} {vs : List Value} {n : Nat} {k : Int} {u : Tok} {v : Value} {Q : Value → Shared → Prop} (N : News h₀ L s.heap news) (hm : (l, listOf vs.toArray n) ∈ news) (h0 : 0 ≤ k) (hhi : k ≤ 1000000)
    (hx : vs[k.toNat]? = some v) (h : Q v s)
    (hs : subscripted slice false (.ref l) (.int k u) = operate [.ref l, .int k u] (getItem (.ref l) (.int k u)) := by with_unfolding_all rfl) :
    wpAny (model prog w) A (subscriptTail value slice (.ref l) (.int k u)) Q E s :=
  item_litK (isList_led N hm) h0 (by have e : (2 : Int) ^ 63 = 9223372036854775808 := by decide
                                     rw [e]; omega) hx h hs
theorem item_by {value slice : PySem.Expr} {x : Array UInt8} {t u : Tok} {k : Int} {Q : Value → Shared → Prop} (hx : x.size ≤ 1000000) (h0 : 0 ≤ k) (h1 : k < (x.size : Int))
    (h : ∀ t' tk, Q (.int ((KBw.bInts x).getD k.toNat 0) t') { s with toks := tk })
    (hs : subscripted slice false (.bytes x t) (.int k u) = operate [.bytes x t, .int k u] (getItem (.bytes x t) (.int k u)) := by with_unfolding_all rfl)
    (ht : ∀ r, letTemporaryGo value (.bytes x t) r = pure () := by intro _; with_unfolding_all rfl) :
    wpAny (model prog w) A (subscriptTail value slice (.bytes x t) (.int k u)) Q E s := by
  have e : (KBw.bInts x).length = x.size := by simp [KBw.bInts]
  exact KBw.item_K rfl (by rw [e]; omega) h0 (by rw [e]; exact h1) (fun t' k _ _ => h t' k) hs ht
theorem get_led {l : Addr} {vs : List Value} {n : Nat} {k : Int} {u : Tok} {v : Value} {Q : Value → Shared → Prop} (N : News h₀ L s.heap news) (hm : (l, listOf vs.toArray n) ∈ news) (h0 : 0 ≤ k) (hhi : k ≤ 1000000)
    (hx : vs[k.toNat]? = some v) (h : Q v s) : wpAny (model prog w) A (getItem (.ref l) (.int k u)) Q E s :=
  wpAny_getItem_list (isList_led N hm) h0 (by have e : (2 : Int) ^ 63 = 9223372036854775808 := by decide
                                              rw [e]; omega) (by simpa using hx) h
theorem set_led {l : Addr} {vs : List Value} {n : Nat} {k : Int} {u : Tok} {v : Value} {Q : Unit → Shared → Prop} (F : Fr h₀ L s.heap m) (N : News h₀ L s.heap news) (U : Upd l (listOf vs.toArray n) (listOf (vs.set k.toNat v).toArray n) news news')
    (h0 : 0 ≤ k) (hhi : k ≤ 1000000) (h1 : k < vs.length) (h : ∀ h', Fr h₀ L h' m → News h₀ L h' news' → Q () { s with heap := h' }) : wpAny (model prog w) A (setItem (.ref l) (.int k u) v) Q E s := by
  obtain ⟨pre, post, rfl, rfl, a, b⟩ := U.split
  have z := N (l, listOf vs.toArray n) (List.mem_append.mpr (.inr (.head _)))
  refine ki_setAt z.1 h0 (by have e : (2 : Int) ^ 63 = 9223372036854775808 := by decide
                             rw [e]; omega) (by rw [List.size_toArray]; exact h1) (h _ (F.change (Heap.SameBut.update ..) z.2.1 z.2.2) (ki_turn _ N a b ?_ ?_))
  · show vs.toArray.setIfInBounds k.toNat v = (vs.set k.toNat v).toArray
    apply Array.toList_inj.mp
    simp
  · simp
end
end Mine
end
section
open PySem PySem.W PySem.Spec PySem.Calls PyProof.Rows
namespace Mine
/-! the ledger: updates -/
noncomputable def Tab.wFree (V : Tab) (f : Int) (t : Tok) : Tab := { V with free := f, tf := t }
noncomputable def Tab.wFlags (V : Tab) (f : Value) : Tab := { V with flags := f }
noncomputable def Tab.wLog (V : Tab) (f : Value) : Tab := { V with log := f }
noncomputable def Tab.wSize (V : Tab) (f : Value) : Tab := { V with size := f }
noncomputable def Tab.wNum (V : Tab) (f : Value) : Tab := { V with num := f }
noncomputable def Nd.w (n : Nd) (k v : Value) (x : Int) (t : Tok) : Nd := ⟨n.x, n.dx, n.kt, k, v, x, t⟩
noncomputable def Apart (l : List (Addr × Obj)) : Prop := (l.map (·.1)).Nodup
/-- a ledger put together from blocks -/
inductive LT where
  | nil
  | b (i : Nat)
  | a (x y : LT)
noncomputable def LT.den {α : Type} (bs : List (List α)) : LT → List α
  | .nil => []
  | .b i => bs.getD i []
  | .a x y => x.den bs ++ y.den bs
noncomputable def LT.flat : LT → List Nat
  | .nil => []
  | .b i => [i]
  | .a x y => x.flat ++ y.flat
theorem LT.den_eq {α : Type} (bs : List (List α)) : ∀ t : LT, t.den bs = t.flat.flatMap (fun i => bs.getD i [])
  | .nil => rfl
  | .b i => by show _ = bs.getD i [] ++ []; rw [List.append_nil]; rfl
  | .a x y => by
    show x.den bs ++ y.den bs = (x.flat ++ y.flat).flatMap _
    rw [List.flatMap_append, LT.den_eq bs x, LT.den_eq bs y]
theorem LT.perm {α : Type} {bs : List (List α)} (s t : LT) (d : List Nat) (p : s.flat.isPerm (d ++ t.flat) = true) : List.Perm (s.den bs) (d.flatMap (fun i => bs.getD i []) ++ t.den bs) := by
  rw [LT.den_eq, LT.den_eq, ← List.flatMap_append]
  exact List.Perm.flatMap_right _ (List.isPerm_iff.mp p)
theorem LT.ap {bs : List (List (Addr × Obj))} (s t : LT) (d : List Nat) (h : Apart (s.den bs)) (p : s.flat.isPerm (d ++ t.flat) = true) : Apart (t.den bs) := by
  have h1 := (List.Perm.nodup_iff (List.Perm.map _ (LT.perm s t d p))).mp h
  rw [List.map_append] at h1
  exact (List.nodup_append.mp h1).2.1
theorem LT.nw {h₀ h : Heap} {L : Addr} {bs : List (List (Addr × Obj))} (s t : LT) (d : List Nat) (N : News h₀ L h (s.den bs)) (p : s.flat.isPerm (d ++ t.flat) = true) : News h₀ L h (t.den bs) :=
  fun q hq => N q ((LT.perm s t d p).mem_iff.mpr (List.mem_append_right _ hq))
theorem Apart.ne {p : Addr × Obj} {l : List (Addr × Obj)} (h : Apart (p :: l)) : ∀ q ∈ l, q.1 ≠ p.1 := by
  intro q hq e
  have h1 : ¬ p.1 ∈ l.map (·.1) := (List.nodup_cons.mp h).1
  rw [← e] at h1
  exact h1 (List.mem_map_of_mem hq)
theorem Apart.tl {p : Addr × Obj} {l : List (Addr × Obj)} (h : Apart (p :: l)) : Apart l := (List.nodup_cons.mp h).2
theorem Apart.of_ad {l l' : List (Addr × Obj)} (h : Apart l) (e : l'.map (·.1) = l.map (·.1)) : Apart l' := by unfold Apart; rw [e]; exact h
theorem upd_td {P : Params} {V W : Tab} {R : List (Addr × Obj)} (h : Apart (tl P V ++ R)) (e1 : W.t = V.t) (e2 : W.td = V.td) (e3 : W.la = V.la) (e4 : W.ln = V.ln) (e5 : W.arr = V.arr) (e6 : W.ea = V.ea) (e7 : W.nds = V.nds) (e8 : W.el = V.el) :
    Upd V.td (dictOf (tdE P V) 10) (dictOf (tdE P W) 10) (tl P V ++ R) (tl P W ++ R) := by
  have a1 := h.ne
  have a2 := h.tl.ne
  have e9 : tl P W ++ R = (V.t, instObj C_Table V.td) :: (V.td, dictOf (tdE P W) 10) :: (V.la, listOf V.arr.toArray V.ea) :: (V.ln, listOf (refsN V.nds).toArray V.el) :: (nl P V.nds ++ R) := by
    unfold tl; rw [e1, e2, e3, e4, e5, e6, e7, e8]; rfl
  rw [e9]
  refine Upd.tail (fun q => ?_) (Upd.head a2)
  exact a1 (V.td, dictOf (tdE P V) 10) (.head _) q.symm
theorem has_app {P : Params} {V : Tab} {R : List (Addr × Obj)} : Has P V (tl P V ++ R) := fun _ hp => List.mem_append_left _ hp
theorem apart_same {P : Params} {V W : Tab} {R : List (Addr × Obj)} (h : Apart (tl P V ++ R)) (e : tAd W = tAd V) : Apart (tl P W ++ R) :=
  h.of_ad (by rw [List.map_append, List.map_append, tl_ad, tl_ad, e])
inductive FreeP (nds : List Nd) : Nat → Nat → Int → Prop
  | out : FreeP nds 0 0 (-1)
  | hit {n : Nat} {nd : Nd} : nds[n]? = some nd → nd.key = .none → FreeP nds (n + 1) n n
  | step {n f : Nat} {r : Int} {nd : Nd} : nds[n]? = some nd → nd.key ≠ .none → FreeP nds n f r → FreeP nds (n + 1) f r
noncomputable def Tab.setNd (V : Tab) (i : Nat) (n : Nd) : Tab := { V with nds := V.nds.set i n }
theorem refsN_set {n' : Nd} : ∀ {l : List Nd} {i : Nat} {n : Nd}, l[i]? = some n → n'.x = n.x → refsN (l.set i n') = refsN l
  | [], _, _, e, _ => by simp at e
  | a :: r, 0, n, e, h => by
    simp at e; subst e
    simp [refsN, h]
  | a :: r, i + 1, n, e, h => by
    have := refsN_set (l := r) (i := i) (n := n) (n' := n') (by simpa using e) h
    simp only [refsN, List.set_cons_succ, List.map_cons] at this ⊢
    rw [this]
theorem nAd_set {n' : Nd} : ∀ {l : List Nd} {i : Nat} {n : Nd}, l[i]? = some n → n'.x = n.x → n'.dx = n.dx → nAd (l.set i n') = nAd l
  | [], _, _, e, _, _ => by simp at e
  | a :: r, 0, n, e, h, h2 => by
    simp at e; subst e
    simp [nAd, h, h2]
  | a :: r, i + 1, n, e, h, h2 => by
    have := nAd_set (l := r) (i := i) (n := n) (n' := n') (by simpa using e) h h2
    simp only [nAd, List.set_cons_succ]
    rw [this]
theorem upd_nl {P : Params} {R : List (Addr × Obj)} {n n' : Nd} (h1 : n'.x = n.x) (h2 : n'.dx = n.dx) : ∀ {l : List Nd} {i : Nat}, l[i]? = some n → Apart (nl P l ++ R) →
    Upd n.dx (dictOf (ndE P n) 3) (dictOf (ndE P n') 3) (nl P l ++ R) (nl P (l.set i n') ++ R)
  | [], _, e, _ => by simp at e
  | a :: r, 0, e, ap => by
    simp at e; subst e
    show Upd _ _ _ ((a.x, instObj C_Node a.dx) :: (a.dx, dictOf (ndE P a) 3) :: (nl P r ++ R)) ((n'.x, instObj C_Node n'.dx) :: (n'.dx, dictOf (ndE P n') 3) :: (nl P r ++ R))
    rw [h1, h2]
    refine Upd.tail (fun q => ?_) (Upd.head (Apart.ne (Apart.tl ap)))
    exact Apart.ne ap (a.dx, dictOf (ndE P a) 3) (.head _) q.symm
  | a :: r, i + 1, e, ap => by
    have e' : r[i]? = some n := by simpa using e
    have ih := upd_nl (P := P) (R := R) h1 h2 e' (Apart.tl (Apart.tl ap))
    have hm : (n.dx, dictOf (ndE P n) 3) ∈ nl P r ++ R := List.mem_append_left _ (nl_x (List.mem_of_getElem? e')).2
    show Upd _ _ _ ((a.x, instObj C_Node a.dx) :: (a.dx, dictOf (ndE P a) 3) :: (nl P r ++ R)) ((a.x, instObj C_Node a.dx) :: (a.dx, dictOf (ndE P a) 3) :: (nl P (r.set i n') ++ R))
    refine Upd.tail (fun q => ?_) (Upd.tail (fun q => ?_) ih)
    · exact Apart.ne ap (n.dx, dictOf (ndE P n) 3) (.tail _ hm) q.symm
    · exact Apart.ne (Apart.tl ap) (n.dx, dictOf (ndE P n) 3) hm q.symm
theorem upd_nd {P : Params} {V : Tab} {R : List (Addr × Obj)} {i : Nat} {n n' : Nd} (ap : Apart (tl P V ++ R)) (e : V.nds[i]? = some n) (h1 : n'.x = n.x) (h2 : n'.dx = n.dx) :
    Upd n.dx (dictOf (ndE P n) 3) (dictOf (ndE P n') 3) (tl P V ++ R) (tl P (V.setNd i n') ++ R) := by
  have hm : (n.dx, dictOf (ndE P n) 3) ∈ nl P V.nds ++ R := List.mem_append_left _ (nl_x (List.mem_of_getElem? e)).2
  have er := refsN_set (n' := n') e h1
  show Upd _ _ _ ((V.t, instObj C_Table V.td) :: (V.td, dictOf (tdE P V) 10) :: (V.la, listOf V.arr.toArray V.ea) :: (V.ln, listOf (refsN V.nds).toArray V.el) :: (nl P V.nds ++ R))
    ((V.t, instObj C_Table V.td) :: (V.td, dictOf (tdE P V) 10) :: (V.la, listOf V.arr.toArray V.ea) :: (V.ln, listOf (refsN (V.nds.set i n')).toArray V.el) :: (nl P (V.nds.set i n') ++ R))
  rw [er]
  refine Upd.tail (fun q => ?_) (Upd.tail (fun q => ?_) (Upd.tail (fun q => ?_) (Upd.tail (fun q => ?_) (upd_nl h1 h2 e ap.tl.tl.tl.tl))))
  · exact ap.ne (n.dx, dictOf (ndE P n) 3) (.tail _ (.tail _ (.tail _ hm))) q.symm
  · exact ap.tl.ne (n.dx, dictOf (ndE P n) 3) (.tail _ (.tail _ hm)) q.symm
  · exact ap.tl.tl.ne (n.dx, dictOf (ndE P n) 3) (.tail _ hm) q.symm
  · exact ap.tl.tl.tl.ne (n.dx, dictOf (ndE P n) 3) hm q.symm
theorem apart_nd {P : Params} {V : Tab} {R : List (Addr × Obj)} {i : Nat} {n n' : Nd} (ap : Apart (tl P V ++ R)) (e : V.nds[i]? = some n) (h1 : n'.x = n.x) (h2 : n'.dx = n.dx) : Apart (tl P (V.setNd i n') ++ R) :=
  apart_same ap (by show V.t :: V.td :: V.la :: V.ln :: nAd (V.nds.set i n') = _; rw [nAd_set e h1 h2]; rfl)
theorem is_none_eq {M : Model} {A : Around} {E : Value → Shared → Prop} {Q : Value → Shared → Prop} {s : Shared} {v : Value} (hv : v = .none) (h : Q (.bool true) s) : wpAny M A (compareOp .Is v .none) Q E s := by
  subst hv; exact is_none_none h
theorem isnot_none_eq {M : Model} {A : Around} {E : Value → Shared → Prop} {Q : Value → Shared → Prop} {s : Shared} {v : Value} (hv : v = .none) (h : Q (.bool false) s) : wpAny M A (compareOp .IsNot v .none) Q E s := by
  subst hv; exact isnot_none_none h
theorem setNd_self {V : Tab} {i : Nat} {a b : Nd} (e : V.nds[i]? = some a) : (V.setNd i b).nds[i]? = some b := by
  show (V.nds.set i b)[i]? = some b
  rw [List.getElem?_set_self (lt_of_get e)]
theorem setNd_ne {V : Tab} {i j : Nat} {a b : Nd} (e : V.nds[j]? = some a) (h : j ≠ i) : (V.setNd i b).nds[j]? = some a := by
  show (V.nds.set i b)[j]? = some a
  rw [List.getElem?_set_ne (Ne.symm h), e]
theorem setNd_len {V : Tab} {i : Nat} {b : Nd} : (V.setNd i b).nds.length = V.nds.length := by
  show (V.nds.set i b).length = _
  rw [List.length_set]
theorem setNd_two {V : Tab} {i : Nat} (a b : Nd) : (V.setNd i a).setNd i b = V.setNd i b := by
  show ({ V with nds := (V.nds.set i a).set i b } : Tab) = { V with nds := V.nds.set i b }
  rw [List.set_set]
end Mine
end
section
open PySem PySem.W PySem.Spec PySem.Calls PyProof.Rows
namespace Mine
structure Wf (V : Tab) : Prop where
  hn : V.nds.length ≤ 1000000
  ha : V.arr.length ≤ 1000000
  hko : KeysOk V.nds
  hvo : ∀ nd ∈ V.nds, handedIn nd.val = true
noncomputable def InArr (V : Tab) : Ky → Prop
  | .i n => 1 ≤ n ∧ n ≤ (V.arr.length : Int)
  | .b _ => False
noncomputable def NLook (V : Tab) (k : Ky) (r : Int) : Prop := (V.nds.length = 0 → r = -1) ∧ (0 < V.nds.length → ∃ n, Fnd V.nds k n (MP V.nds.length k) r)
inductive Look (V : Tab) : Ky → Value → Prop
  | arr {n : Int} {v : Value} : 1 ≤ n → n ≤ (V.arr.length : Int) → V.arr[(n - 1).toNat]? = some v → Look V (.i n) v
  | miss {k : Ky} : ¬ InArr V k → NLook V k (-1) → Look V k .none
  | hit {k : Ky} {r : Int} {nd : Nd} : ¬ InArr V k → NLook V k r → 0 ≤ r → V.nds[r.toNat]? = some nd → Look V k nd.val
end Mine
namespace Mine
noncomputable def AllLook (V : Tab) (C : Int → Value) : Prop := ∀ i, Look V (.i i) (C i)
theorem AllLook.at {V : Tab} {C : Int → Value} (h : AllLook V C) (i : Int) : Look V (.i i) (C i) := h i
theorem Look.arr_of {V : Tab} {i : Int} {v : Value} (h : Look V (.i i) v) (h1 : 1 ≤ i) (h2 : i ≤ (V.arr.length : Int)) : V.arr[(i - 1).toNat]? = some v := by
  cases h with
  | arr _ _ a => exact a
  | miss a _ => exact absurd (show InArr V (.i i) from ⟨h1, h2⟩) a
  | hit a _ _ _ => exact absurd (show InArr V (.i i) from ⟨h1, h2⟩) a
theorem Look.none_of {V : Tab} {i : Int} {v : Value} (h : Look V (.i i) v) (h2 : (V.arr.length : Int) < i) (h3 : V.nds.length = 0) : v = .none := by
  cases h with
  | arr _ a _ => omega
  | miss _ _ => rfl
  | hit _ _ _ a => have := lt_of_get a; omega
/-- the border -/
structure Border (C : Int → Value) (n : Nat) : Prop where
  le : ∀ i : Int, 1 ≤ i → i ≤ (n : Int) → C i ≠ .none
  gt : ∀ i : Int, (n : Int) < i → C i = .none
theorem Border.of_none {C : Int → Value} {n : Nat} (b : Border C n) {i : Int} (h1 : 1 ≤ i) (h : C i = .none) : (n : Int) < i := by
  false_or_by_contra
  exact b.le i h1 (by omega) h
theorem Border.of_ne {C : Int → Value} {n : Nat} (b : Border C n) {i : Int} (h : C i ≠ .none) : i ≤ (n : Int) := by
  false_or_by_contra
  exact h (b.gt i (by omega))
theorem is_none_cases {M : Model} {A : Around} {E : Value → Shared → Prop} {Q : Value → Shared → Prop} {s : Shared} {v : Value} (h : v = .none → Q (.bool true) s) (h2 : v ≠ .none → Q (.bool false) s) : wpAny M A (compareOp .Is v .none) Q E s := by
  by_cases e : v = .none
  · exact is_none_eq e (h e)
  · exact is_none_ne e (h2 e)
theorem isnot_none_cases {M : Model} {A : Around} {E : Value → Shared → Prop} {Q : Value → Shared → Prop} {s : Shared} {v : Value} (h : v = .none → Q (.bool false) s) (h2 : v ≠ .none → Q (.bool true) s) : wpAny M A (compareOp .IsNot v .none) Q E s := by
  by_cases e : v = .none
  · exact isnot_none_eq e (h e)
  · exact isnot_none_ne e (h2 e)
theorem half (a : Int) (h : 0 ≤ a) : a.fdiv 2 = a / 2 := Int.fdiv_eq_ediv_of_nonneg _ (by decide)
end Mine
end
section
open PySem PySem.W PySem.Spec PySem.Calls PyProof.Rows
namespace Mine
theorem nd_mem {P : Params} {V : Tab} (R : List (Addr × Obj)) {i : Nat} {n : Nd} {k v : Value} {x : Int} {t : Tok} (e : V.nds[i]? = some (n.w k v x t)) :
    (n.x, instObj C_Node n.dx) ∈ tl P V ++ R ∧ (n.dx, dictOf [en P "key" (n.kt 0) k, en P "value" (n.kt 1) v, en P "next" (n.kt 2) (.int x t)] 3) ∈ tl P V ++ R :=
  ⟨List.mem_append_left _ (mem_nx (n := n.w k v x t) e), List.mem_append_left _ (mem_nd (n := n.w k v x t) e)⟩
inductive Prv (nds : List Nd) (main : Int) : Nat → Int → Nat → Prop
  | here {o : Nat} {n : Nd} : nds[o]? = some n → n.nxt = main → Prv nds main 0 o o
  | step {k o p : Nat} {n : Nd} : nds[o]? = some n → n.nxt ≠ main → Prv nds main k n.nxt p → Prv nds main (k + 1) o p
/-- new_key without a rehash -/
inductive InsR (V : Tab) (k : Ky) (key v : Value) : Tab → Prop
  | free {i : Nat} {nd : Nd} : MP V.nds.length k = (i : Int) → V.nds[i]? = some nd → nd.val = .none → InsR V k key v ((V.setNd i (nd.w key nd.val nd.nxt nd.tn)).setNd i (nd.w key v nd.nxt nd.tn))
  | same {i f n : Nat} {nd sp : Nd} {k' : Ky} {tf tr : Tok} : MP V.nds.length k = (i : Int) → V.nds[i]? = some nd → nd.val ≠ .none → V.free = (n : Int) → FreeP V.nds n f (f : Int) → V.nds[f]? = some sp → f ≠ i → kyOf nd.key = some k' → KyOk k' → MP V.nds.length k' = (i : Int) →
      InsR V k key v (((((V.wFree (f : Int) tf).setNd f (sp.w sp.key sp.val nd.nxt nd.tn)).setNd i (nd.w nd.key nd.val (f : Int) tr)).setNd f (sp.w key sp.val nd.nxt nd.tn)).setNd f (sp.w key v nd.nxt nd.tn))
  | moved {i f n p q o : Nat} {nd sp pn : Nd} {k' : Ky} {tf tr t1 : Tok} : MP V.nds.length k = (i : Int) → V.nds[i]? = some nd → nd.val ≠ .none → V.free = (n : Int) → FreeP V.nds n f (f : Int) → V.nds[f]? = some sp → f ≠ i → kyOf nd.key = some k' → KyOk k' → MP V.nds.length k' = (o : Int) → o ≠ i →
      Prv V.nds (i : Int) q (o : Int) p → V.nds[p]? = some pn → p ≠ f → p ≠ i →
      InsR V k key v (((((((V.wFree (f : Int) tf).setNd p (pn.w pn.key pn.val (f : Int) tr)).setNd f (sp.w nd.key nd.val nd.nxt nd.tn)).setNd i (nd.w nd.key nd.val (-1) t1)).setNd i (nd.w nd.key .none (-1) t1)).setNd i (nd.w key .none (-1) t1)).setNd i (nd.w key v (-1) t1))
noncomputable def HeapIn (P : Params) (hp : Addr) (R : List (Addr × Obj)) : Prop :=
  ∃ hq k0 k1 v0 v1, (hp, instObj C_PlainHeap hq) ∈ R ∧ (hq, dictOf [en P "last_number" k0 v0, en P "total" k1 v1] 2) ∈ R
end Mine
end
section
open PySem PySem.W PySem.Spec PySem.Calls PyProof.Rows
namespace Mine
inductive InsPre (V : Tab) (k : Ky) : Prop
  | free {i : Nat} {nd : Nd} : MP V.nds.length k = (i : Int) → V.nds[i]? = some nd → nd.val = .none → InsPre V k
  | same {i f n : Nat} {nd sp : Nd} {k' : Ky} : MP V.nds.length k = (i : Int) → V.nds[i]? = some nd → nd.val ≠ .none → V.free = (n : Int) → FreeP V.nds n f (f : Int) → V.nds[f]? = some sp → f ≠ i → kyOf nd.key = some k' → KyOk k' → MP V.nds.length k' = (i : Int) → InsPre V k
  | moved {i f n p q o : Nat} {nd sp pn : Nd} {k' : Ky} : MP V.nds.length k = (i : Int) → V.nds[i]? = some nd → nd.val ≠ .none → V.free = (n : Int) → FreeP V.nds n f (f : Int) → V.nds[f]? = some sp → f ≠ i → kyOf nd.key = some k' → KyOk k' → MP V.nds.length k' = (o : Int) → o ≠ i →
      Prv V.nds (i : Int) q (o : Int) p → V.nds[p]? = some pn → p ≠ f → p ≠ i → InsPre V k
noncomputable def Tab.setArr (V : Tab) (i : Nat) (v : Value) : Tab := { V with arr := V.arr.set i v }
inductive PutR (V : Tab) (k : Ky) (key v : Value) : Tab → Prop
  | arr {n : Int} : k = .i n → 1 ≤ n → n ≤ (V.arr.length : Int) → PutR V k key v (V.setArr (n - 1).toNat v)
  | node {V' : Tab} : ¬ InArr V k → InsR V k key v V' → PutR V k key v V'
theorem upd_la {P : Params} {V : Tab} {R : List (Addr × Obj)} {i : Nat} {v : Value} (h : Apart (tl P V ++ R)) :
    Upd V.la (listOf V.arr.toArray V.ea) (listOf (V.arr.set i v).toArray V.ea) (tl P V ++ R) (tl P (V.setArr i v) ++ R) := by
  show Upd _ _ _ ((V.t, instObj C_Table V.td) :: (V.td, dictOf (tdE P V) 10) :: (V.la, listOf V.arr.toArray V.ea) :: (V.ln, listOf (refsN V.nds).toArray V.el) :: (nl P V.nds ++ R))
    ((V.t, instObj C_Table V.td) :: (V.td, dictOf (tdE P V) 10) :: (V.la, listOf (V.arr.set i v).toArray V.ea) :: (V.ln, listOf (refsN V.nds).toArray V.el) :: (nl P V.nds ++ R))
  refine Upd.tail (fun q => ?_) (Upd.tail (fun q => ?_) (Upd.head h.tl.tl.ne))
  · exact h.ne (V.la, listOf V.arr.toArray V.ea) (.tail _ (.head _)) q.symm
  · exact h.tl.ne (V.la, listOf V.arr.toArray V.ea) (.head _) q.symm
theorem apart_arr {P : Params} {V : Tab} {R : List (Addr × Obj)} {i : Nat} {v : Value} (h : Apart (tl P V ++ R)) : Apart (tl P (V.setArr i v) ++ R) := apart_same h rfl
end Mine
end
section
open PySem PySem.W PySem.Spec PySem.Calls PyProof.Rows
namespace Mine
section
variable {prog : Program} {w : World} {A : Around} {E : Value → Shared → Prop} {s : Shared} {env : Env} {h₀ : Heap} {x : Str} {body : List Stmt} {Q : Flow → Shared → Prop}
theorem listRest_J {I : Addr} {lp : Addr × Obj} (J : Nat → (Str → Option Value) → List (Addr × Obj) → Prop) {vs : List Value}
    (turn : ∀ i v m₁ nx it h tk, vs[i]? = some v → J i m₁ nx → (∀ p ∈ nx, p.1 ≠ I) → it.cls = .type "list_iterator" → Fr h₀ env.locals h (fun y => if y = x then some v else m₁ y) → News h₀ env.locals h ((I, it) :: nx) →
      wpAny (model prog w) A (execs body env) (UnrPost h₀ env.locals { s with heap := h, toks := tk } I it (fun m' n' => (lp ∈ n' ∧ ∀ p ∈ n', p.1 ≠ I) ∧ J (i + 1) m' n') Q) E { s with heap := h, toks := tk })
    (done : ∀ h tk m nx, J vs.length m nx → Fr h₀ env.locals h m → News h₀ env.locals h nx → Q .next { s with heap := h, toks := tk }) :
    ∀ (r : List Value) (i : Nat) (m : Str → Option Value) (nx : List (Addr × Obj)), vs.drop i = r → J i m nx → (∀ p ∈ nx, p.1 ≠ I) → i ≤ vs.length → ListRest prog w A E h₀ env x body Q s I lp r m nx := by
  intro r
  induction r with
  | nil =>
    intro i m nx e hJ ho hi
    refine ListRest.zero fun h tk F N => done h tk m nx ?_ F N
    have : i = vs.length := by
      have := congrArg List.length e
      simp at this; omega
    rw [← this]; exact hJ
  | cons v r ih =>
    intro i m nx e hJ ho hi
    have hv : vs[i]? = some v := by
      have := congrArg (fun l => l[0]?) e
      simpa using this
    have hlt := lt_of_get hv
    have e' : vs.drop (i + 1) = r := by
      rw [List.drop_eq_getElem_cons hlt] at e
      exact (List.cons.inj e).2
    refine ListRest.succ fun it h tk hc F N => ?_
    refine wpAny_mono (turn i v m nx it h tk hv hJ ho hc F N) (fun f s₂ q => ?_) fun _ _ e => e
    cases f with
    | ret v => exact q
    | brk => exact q
    | next =>
      obtain ⟨h', tk', m', n', e1, F', N', o', ⟨g1, g2⟩, j⟩ := q
      exact ⟨h', tk', m', n', e1, F', N', o', g1, ih (i + 1) m' n' e' j o' (by omega)⟩
    | cont =>
      obtain ⟨h', tk', m', n', e1, F', N', o', ⟨g1, g2⟩, j⟩ := q
      exact ⟨h', tk', m', n', e1, F', N', o', g1, ih (i + 1) m' n' e' j o' (by omega)⟩
theorem iter_listJ (J : Nat → (Str → Option Value) → List (Addr × Obj) → Prop) {ax : Addr} {lo : Obj} {vs : List Value} {n : Nat} {m₀ : Str → Option Value} {news : List (Addr × Obj)}
    (hh : A.handled = none) (F : Fr h₀ env.locals s.heap m₀) (N : News h₀ env.locals s.heap news) (hm : (ax, lo) ∈ news) (hc : lo.cls = .type "list") (hd : lo.data = .seq vs.toArray n) (hJ : J 0 m₀ news)
    (turn : ∀ I i v m₁ nx it h tk, vs[i]? = some v → J i m₁ nx → (∀ p ∈ nx, p.1 ≠ I) → it.cls = .type "list_iterator" → Fr h₀ env.locals h (fun y => if y = x then some v else m₁ y) → News h₀ env.locals h ((I, it) :: nx) →
      wpAny (model prog w) A (execs body env) (UnrPost h₀ env.locals { s with heap := h, toks := tk } I it (fun m' n' => ((ax, lo) ∈ n' ∧ ∀ p ∈ n', p.1 ≠ I) ∧ J (i + 1) m' n') Q) E { s with heap := h, toks := tk })
    (done : ∀ h tk m nx, J vs.length m nx → Fr h₀ env.locals h m → News h₀ env.locals h nx → Q .next { s with heap := h, toks := tk }) :
    wpAny (model prog w) A (pyIter (.ref ax)) (fun it s₂ => LoopAtV prog w A h₀ env x body Q E it s₂) E s :=
  iter_listUnr hh F N hm hc hd fun I hI => listRest_J J (turn I) done vs 0 m₀ news (by simp) hJ (fun p hp => Nat.ne_of_lt (hI p hp)) (Nat.zero_le _)
theorem revRest_J {I : Addr} {lp : Addr × Obj} (J : Nat → (Str → Option Value) → List (Addr × Obj) → Prop) {vs : List Value}
    (turn : ∀ i v m₁ nx it h tk, vs[i]? = some v → J (i + 1) m₁ nx → (∀ p ∈ nx, p.1 ≠ I) → it.cls = .type "list_reverseiterator" → Fr h₀ env.locals h (fun y => if y = x then some v else m₁ y) → News h₀ env.locals h ((I, it) :: nx) →
      wpAny (model prog w) A (execs body env) (UnrPost h₀ env.locals { s with heap := h, toks := tk } I it (fun m' n' => (lp ∈ n' ∧ ∀ p ∈ n', p.1 ≠ I) ∧ J i m' n') Q) E { s with heap := h, toks := tk })
    (done : ∀ h tk m nx, J 0 m nx → Fr h₀ env.locals h m → News h₀ env.locals h nx → Q .next { s with heap := h, toks := tk }) :
    ∀ (i : Nat) (m : Str → Option Value) (nx : List (Addr × Obj)), J i m nx → (∀ p ∈ nx, p.1 ≠ I) → i ≤ vs.length → RevRest prog w A E h₀ env x body Q s I lp (vs.take i).reverse m nx := by
  intro i
  induction i with
  | zero =>
    intro m nx hJ ho hi
    rw [List.take_zero]
    exact RevRest.zero fun h tk F N => done h tk m nx hJ F N
  | succ i ih =>
    intro m nx hJ ho hi
    have hlt : i < vs.length := by omega
    have hv : vs[i]? = some vs[i] := List.getElem?_eq_getElem hlt
    rw [List.take_succ_eq_append_getElem hlt, List.reverse_append]
    refine RevRest.succ fun it h tk hc F N => ?_
    refine wpAny_mono (turn i _ m nx it h tk hv hJ ho hc F N) (fun f s₂ q => ?_) fun _ _ e => e
    cases f with
    | ret v => exact q
    | brk => exact q
    | next =>
      obtain ⟨h', tk', m', n', e1, F', N', o', ⟨g1, g2⟩, j⟩ := q
      exact ⟨h', tk', m', n', e1, F', N', o', g1, ih m' n' j o' (by omega)⟩
    | cont =>
      obtain ⟨h', tk', m', n', e1, F', N', o', ⟨g1, g2⟩, j⟩ := q
      exact ⟨h', tk', m', n', e1, F', N', o', g1, ih m' n' j o' (by omega)⟩
/-- for x in reversed(list): J i = the turns for i-1, .., 0 are still to come -/
theorem iter_revJ (J : Nat → (Str → Option Value) → List (Addr × Obj) → Prop) {ax I : Addr} {lo : Obj} {vs : List Value} {n : Nat} {m₀ : Str → Option Value} {news : List (Addr × Obj)}
    (hh : A.handled = none) (F : Fr h₀ env.locals s.heap m₀) (N : News h₀ env.locals s.heap ((I, revObj ax ((vs.length : Int) - 1)) :: news)) (hof : ∀ p ∈ news, p.1 ≠ I) (hm : (ax, lo) ∈ news) (hc : lo.cls = .type "list") (hd : lo.data = .seq vs.toArray n) (hJ : J vs.length m₀ news)
    (turn : ∀ i v m₁ nx it h tk, vs[i]? = some v → J (i + 1) m₁ nx → (∀ p ∈ nx, p.1 ≠ I) → it.cls = .type "list_reverseiterator" → Fr h₀ env.locals h (fun y => if y = x then some v else m₁ y) → News h₀ env.locals h ((I, it) :: nx) →
      wpAny (model prog w) A (execs body env) (UnrPost h₀ env.locals { s with heap := h, toks := tk } I it (fun m' n' => ((ax, lo) ∈ n' ∧ ∀ p ∈ n', p.1 ≠ I) ∧ J i m' n') Q) E { s with heap := h, toks := tk })
    (done : ∀ h tk m nx, J 0 m nx → Fr h₀ env.locals h m → News h₀ env.locals h nx → Q .next { s with heap := h, toks := tk }) :
    wpAny (model prog w) A (pyIter (.ref I)) (fun it s₂ => LoopAtV prog w A h₀ env x body Q E it s₂) E s := by
  have ho : OffI I (revObj ax ((vs.length : Int) - 1)) news := by
    clear N hm hJ
    induction news with
    | nil => trivial
    | cons p r ih => exact ⟨.inl (hof p (.head _)), ih fun q hq => hof q (.tail _ hq)⟩
  have := revRest_J (lp := (ax, lo)) J turn done vs.length m₀ news hJ hof (Nat.le_refl _)
  rw [List.take_length] at this
  exact iter_revUnr hh F N ho hm hc hd this
theorem rangeRest_J {I : Addr} {a : Int} {n : Nat} (J : Nat → (Str → Option Value) → List (Addr × Obj) → Prop)
    (turn : ∀ i m₁ nx it t h tk, i < n → J i m₁ nx → (∀ p ∈ nx, p.1 ≠ I) → Fr h₀ env.locals h (fun y => if y = x then some (.int (a + (i : Int)) t) else m₁ y) → News h₀ env.locals h ((I, it) :: nx) →
      wpAny (model prog w) A (execs body env) (UnrPost h₀ env.locals { s with heap := h, toks := tk } I it (fun m' n' => (∀ p ∈ n', p.1 ≠ I) ∧ J (i + 1) m' n') Q) E { s with heap := h, toks := tk })
    (done : ∀ h tk m nx, J n m nx → Fr h₀ env.locals h m → News h₀ env.locals h nx → Q .next { s with heap := h, toks := tk }) :
    ∀ (k i : Nat) (m : Str → Option Value) (nx : List (Addr × Obj)), k + i = n → J i m nx → (∀ p ∈ nx, p.1 ≠ I) → RangeRest prog w A E h₀ env x body Q s I a n k i m nx := by
  intro k
  induction k with
  | zero =>
    intro i m nx e hJ ho
    have e' : i = n := by omega
    exact RangeRest.zero fun h tk F N => done h tk m nx (e' ▸ hJ) F N
  | succ k ih =>
    intro i m nx e hJ ho
    refine RangeRest.succ fun t h tk F N => ?_
    refine wpAny_mono (turn i m nx _ t h tk (by omega) hJ ho F N) (fun f s₂ q => ?_) fun _ _ e => e
    cases f with
    | ret v => exact q
    | brk => exact q
    | next =>
      obtain ⟨h', tk', m', n', e1, F', N', o', g2, j⟩ := q
      exact ⟨h', tk', m', n', e1, F', N', o', ih (i + 1) m' n' (by omega) j o'⟩
    | cont =>
      obtain ⟨h', tk', m', n', e1, F', N', o', g2, j⟩ := q
      exact ⟨h', tk', m', n', e1, F', N', o', ih (i + 1) m' n' (by omega) j o'⟩
theorem iter_rangeJ (J : Nat → (Str → Option Value) → List (Addr × Obj) → Prop) {r : Addr} {a₀ b₀ : Int} {t₀ u₀ v₀ : Tok} {n : Nat} {m₀ : Str → Option Value} {news : List (Addr × Obj)}
    (hh : A.handled = none) (hr : IsRange s.heap r a₀ b₀ 1 t₀ u₀ v₀) (hsmall : Builtin.Range.small a₀ b₀ 1 = true) (hn : Builtin.Range.rangeSize a₀ b₀ 1 = (n : Int)) (F : Fr h₀ env.locals s.heap m₀) (N : News h₀ env.locals s.heap news) (hJ : J 0 m₀ news)
    (turn : ∀ I i m₁ nx it t h tk, i < n → J i m₁ nx → (∀ p ∈ nx, p.1 ≠ I) → Fr h₀ env.locals h (fun y => if y = x then some (.int (a₀ + (i : Int)) t) else m₁ y) → News h₀ env.locals h ((I, it) :: nx) →
      wpAny (model prog w) A (execs body env) (UnrPost h₀ env.locals { s with heap := h, toks := tk } I it (fun m' n' => (∀ p ∈ n', p.1 ≠ I) ∧ J (i + 1) m' n') Q) E { s with heap := h, toks := tk })
    (done : ∀ h tk m nx, J n m nx → Fr h₀ env.locals h m → News h₀ env.locals h nx → Q .next { s with heap := h, toks := tk }) :
    wpAny (model prog w) A (pyIter (.ref r)) (fun it s₂ => LoopAtV prog w A h₀ env x body Q E it s₂) E s :=
  iter_rangeUnr hh hr hsmall hn F N fun I hI => rangeRest_J J (turn I) done n 0 m₀ news (by omega) hJ fun p hp => Nat.ne_of_lt (hI p hp)
theorem compRest_J {A : Around} {L : Addr} {m : Str → Option Value} {elt : Expr} {scope : Scope} {cl : List (Str × Addr)} {S : List (Addr × Obj) → Prop} {P : Nat → Value → Prop} {Fin : List Value → List (Addr × Obj) → Prop} {n : Nat} (J : Nat → List Value → List (Addr × Obj) → Prop)
    (turn : ∀ i v I oI C oC D ys nx m₂ h tk (E' : Value → Shared → Prop), i < n → P i v → PyProof.Rows.LCg.NsObj oC m₂ → m₂ x = some v → J i ys nx → Fr h₀ L h m → News h₀ L h ((I, oI) :: (C, oC) :: (D, PyProof.Rows.LCg.lst ys) :: nx) → PyProof.Rows.LCg.Off3 I C D nx → ((@Ne Nat I C) ∧ (@Ne Nat I D) ∧ (@Ne Nat C D)) →
      wpAny (model prog w) A (eval elt (compEnvC scope cl C env)) (PyProof.Rows.LCg.CompEnd h₀ L m { s with heap := h, toks := tk } I oI C oC D (PyProof.Rows.LCg.lst ys) S (fun y nx' => J (i + 1) (ys ++ [y]) nx')) E' { s with heap := h, toks := tk })
    (fin : ∀ ys nx, J n ys nx → Fin ys nx) :
    ∀ (k i : Nat) (ys : List Value) (nx : List (Addr × Obj)), k + i = n → J i ys nx → PyProof.Rows.LCg.CompRest prog w A h₀ L m env elt x scope cl s S P Fin k i ys nx := by
  intro k
  induction k with
  | zero =>
    intro i ys nx e hJ
    have e' : i = n := by omega
    exact PyProof.Rows.LCg.CompRest.zero (fin ys nx (e' ▸ hJ))
  | succ k ih =>
    intro i ys nx e hJ
    refine PyProof.Rows.LCg.CompRest.succ fun v I oI C oC D m₂ h tk E' hP hC hx F N o d => ?_
    refine wpAny_mono (turn i v I oI C oC D ys nx m₂ h tk E' (by omega) hP hC hx hJ F N o d) (fun y s₂ q => ?_) fun _ _ e => e
    obtain ⟨h', tk', n', e1, F', N', o', hS, j⟩ := q
    exact ⟨h', tk', n', e1, F', N', o', hS, ih (i + 1) _ n' (by omega) j⟩
end
theorem range_n (n : Nat) : Builtin.Range.rangeSize 0 (n : Int) 1 = (n : Int) := by
  unfold Builtin.Range.rangeSize
  rw [if_pos (by decide)]
  split <;> omega
end Mine
end
section
open PySem PySem.W PySem.Spec PySem.Calls PyProof.Rows
namespace Mine
section
variable {prog : Program} {w : World} {A : Around} {h₀ : Heap} {L : Addr} {m : Str → Option Value} {env : Env} {ct elt : Expr} {x : Str} {scope : Scope} {cl : List (Str × Addr)} {s : Shared} {S : List (Addr × Obj) → Prop} {P : Nat → Value → Prop} {Fin : List Value → List (Addr × Obj) → Prop}
/-- the turns of a comprehension with a test, by an invariant -/
theorem compRestT_J {n : Nat} (J : Nat → List Value → List (Addr × Obj) → Prop)
    (turn : ∀ i v I oI C oC D ys nx m₂ h tk (E' : Value → Shared → Prop), i < n → P i v → LCg.NsObj oC m₂ → m₂ x = some v → J i ys nx → Fr h₀ L h m → News h₀ L h ((I, oI) :: (C, oC) :: (D, LCg.lst ys) :: nx) → LCg.Off3 I C D nx → ((@Ne Nat I C) ∧ (@Ne Nat I D) ∧ (@Ne Nat C D)) →
      wpAny (model prog w) A (isTrue ct (compEnvC scope cl C env) (eval ct (compEnvC scope cl C env))) (fun b s' => if b = true then wpAny (model prog w) A (eval elt (compEnvC scope cl C env)) (LCg.CompEnd h₀ L m { s with heap := h, toks := tk } I oI C oC D (LCg.lst ys) S (fun y nx' => J (i + 1) (ys ++ [y]) nx')) E' s'
        else LCg.CompEnd h₀ L m { s with heap := h, toks := tk } I oI C oC D (LCg.lst ys) S (fun _ nx' => J (i + 1) ys nx') Value.none s') E' { s with heap := h, toks := tk })
    (fin : ∀ ys nx, J n ys nx → Fin ys nx) : ∀ (k i : Nat) (ys : List Value) (nx : List (Addr × Obj)), k + i = n → J i ys nx → LCt.CompRestT prog w A h₀ L m env ct elt x scope cl s S P Fin k i ys nx := by
  intro k
  induction k with
  | zero =>
    intro i ys nx e hJ
    have e' : i = n := by omega
    exact LCt.CompRestT.zero (fin ys nx (e' ▸ hJ))
  | succ k ih =>
    intro i ys nx e hJ
    refine LCt.CompRestT.succ fun v I oI C oC D m₂ h tk E' hP hC hx F N o d => ?_
    refine wpAny_mono (turn i v I oI C oC D ys nx m₂ h tk E' (by omega) hP hC hx hJ F N o d) (fun b s₂ q => ?_) fun _ _ e => e
    cases b with
    | true =>
      simp only [if_true] at q ⊢
      refine wpAny_mono q (fun y s₃ q => ?_) fun _ _ e => e
      obtain ⟨h', tk', n', e1, F', N', o', hS, j⟩ := q
      exact ⟨h', tk', n', e1, F', N', o', hS, ih (i + 1) _ n' (by omega) j⟩
    | false =>
      simp only [Bool.false_eq_true, if_false] at q ⊢
      obtain ⟨h', tk', n', e1, F', N', o', hS, j⟩ := q
      exact ⟨h', tk', n', e1, F', N', o', hS, ih (i + 1) _ n' (by omega) j⟩
end
end Mine
end
section
open PySem PySem.W PySem.Spec PySem.Calls PyProof.Rows
open PyProof.Rows
namespace Mine
theorem wdDR_0 : True := by
  k_with "ent" => (intro _ _ _ _ _ _ _ _ _; (try k_fold); (refine foldA ?_; intro Ax); (conv in execs _ _ => arg 1; whnf))
  k_with "dep" => ((try dsimp only [ktrTop, Around.deeper, Around.in1, Around.under]); (first | (refine' room2 ?zqhR ?zqcR; (case zqhR => assumption); (case zqcR => exact Nat.le_of_ble_eq_true rfl)) | (refine' room0 ?zqhR; (case zqhR => assumption)) | (refine' room1 ?zqhR ?zqcR; (case zqhR => assumption); (case zqcR => exact Nat.le_of_ble_eq_true rfl)) | (refine' room3 ?zqhR ?zqcR; (case zqhR => assumption); (case zqcR => exact Nat.le_of_ble_eq_true rfl)) | omega))
  k_with "news" => first | assumption | exact news_tl0 (by assumption) | exact news_tl0 (news_tl0 (by assumption)) | exact news_tl0 (news_tl0 (news_tl0 (by assumption)))
  k_with "dec" => first | ((try simp only [beq_iff_eq, bne_iff_ne, decide_eq_true_eq, decide_eq_false_iff_not, Bool.and_eq_true, Bool.not_eq_true', Bool.not_eq_true, beq_eq_false_iff_ne, ne_eq]) <;> omega) | (simp; done)
  k_with "ite" => (k_here; k_openite; (first | refine ite_pos (by walk_at "dec") ?_ | refine ite_neg (by walk_at "dec") ?_))
  k_with "go" => repeat' ((fail_if_success (with_reducible show wpAny _ _ (exec (Stmt.While _ _ _ _) _) _ _ _)); (fail_if_success (with_reducible show wpAny _ _ (exec (Stmt.For _ _ _ _ _) _) _ _ _)); (fail_if_success (with_reducible show WhileStep2 _ _ _ _ _ _ Flow.next _)); (fail_if_success (with_reducible show WhileStep2 _ _ _ _ _ _ Flow.cont _)); (first | (k_unfold; (try dsimp only)) | (k_end; wrow_close) | ((first | (with_reducible show wpAny _ _ (exec _ _) _ _ _) | (with_reducible show wpAny _ _ (execs _ _) _ _ _)); k_fold; (try (refine foldS ?_; intro Sx))) | walk1 | (dsimp only; walk1) | (leave1; walk_say "STEP leave1"; try dsimp only)))
  k_with "subscriptTail" => (k_here; (with_reducible show wpAny _ _ (subscriptTail _ _ (Value.bytes _ _) (Value.int _ _)) _ _ _); k_dflt (refine' item_by ?zqf ?zqa ?zqb ?_ ?zqhs ?zqht; (case zqf => first | assumption | omega); (case zqa => first | assumption | omega); (case zqb => first | assumption | omega); (case zqhs => with_unfolding_all rfl); (case zqht => (intro _; with_unfolding_all rfl)); k_whole); intro _ _)
  k_with "subscriptTail" => (k_here; (with_reducible show wpAny _ _ (subscriptTail _ _ (Value.ref _) (Value.int _ _)) _ _ _); k_dflt (refine' item_led ?zqN ?zqm ?zqa ?zqb ?zqx ?_ ?zqhs; (case zqN => k_asm); (case zqm => k_mem); (case zqa => first | assumption | omega); (case zqb => first | assumption | omega); (case zqx => first | assumption | walk_at "item"); (case zqhs => with_unfolding_all rfl); k_whole))
  k_with "WhileStep2" => (dsimp only [WhileStep2])
  k_with "lenk" => first | assumption | exact refsN_len _ | exact rfl
  k_with "call builtin:len" => (k_here; (with_reducible show wpAny _ _ (call (Value.builtin "len") [Value.ref _]) _ _ _); k_dflt (refine' len_led ?zqN ?zqm ?zqk ?zqf ?_; (case zqN => k_asm); (case zqm => k_mem); (case zqk => walk_at "lenk"); (case zqf => first | assumption | omega); k_whole); intro _ _)
  k_with "binaryOp Mod int int" => (k_here; k_dflt (refine' mod_int' (by assumption) ?_; k_whole))
  k_with "item" => exact refsN_get (by assumption)
  k_with "k_handed" => assumption
  k_with "compareOp Is none" => (k_here; first | refine is_none_ne (by assumption) ?_ | refine is_none_eq (by assumption) ?_)
  k_with "compareOp IsNot none" => (k_here; first | refine isnot_none_ne (by assumption) ?_ | refine isnot_none_eq (by assumption) ?_)
  k_with "k_all" => assumption
  k_with "setItem ref int" => (k_here; (with_reducible show wpAny _ _ (setItem (Value.ref _) (Value.int _ _) _) _ _ _); k_dflt (refine' set_led ?zqF ?zqN ?zqU ?zqa ?zqb ?zqc ?_; (case zqF => k_asm); (case zqN => k_asm); (case zqU => k_upd); (case zqa => first | assumption | omega); (case zqb => first | assumption | omega); (case zqc => first | assumption | omega); k_whole); intro _ _ _; (try k_sweep))
  k_with "getItem ref int" => (k_here; (with_reducible show wpAny _ _ (getItem (Value.ref _) (Value.int _ _)) _ _ _); k_dflt (refine' get_led ?zqN ?zqm ?zqa ?zqb ?zqx ?_; (case zqN => k_asm); (case zqm => k_mem); (case zqa => first | assumption | omega); (case zqb => first | assumption | omega); (case zqx => first | assumption | walk_at "item"); k_whole))
  trivial
theorem wdDR_1 : True := by
  k_with "one" => (first | (k_unfold; (try dsimp only)) | (k_end; wrow_close) | ((first | (with_reducible show wpAny _ _ (exec _ _) _ _ _) | (with_reducible show wpAny _ _ (execs _ _) _ _ _)); k_fold; (try (refine foldS ?_; intro Sx))) | walk1 | (dsimp only; walk1) | (leave1; walk_say "STEP leave1"; try dsimp only))
  k_with "gon" => repeat' ((fail_if_success (with_reducible show wpAny _ _ (exec (Stmt.For _ _ _ _ _) _) _ _ _)); (fail_if_success (with_reducible show wpAny _ _ (eval (Expr.ListComp _ _ _ _) _) _ _ _)); (fail_if_success (with_reducible show wpAny _ _ (pyIter (Value.ref _)) _ _ _)); (fail_if_success (with_reducible show wpAny _ _ (exec (Stmt.If _ _ _ _) _) _ _ _)); (fail_if_success (with_reducible show WhileStep2 _ _ _ _ _ _ Flow.next _)); (fail_if_success (with_reducible show WhileStep2 _ _ _ _ _ _ Flow.cont _)); (first | (k_unfold; (try dsimp only)) | (k_end; wrow_close) | ((first | (with_reducible show wpAny _ _ (exec _ _) _ _ _) | (with_reducible show wpAny _ _ (execs _ _) _ _ _)); k_fold; (try (refine foldS ?_; intro Sx))) | walk1 | (dsimp only; walk1) | (leave1; walk_say "STEP leave1"; try dsimp only)))
  trivial
theorem allLt_memD {d : Nat} : ∀ {l : List (Addr × Obj)}, AllLt d l → ∀ p ∈ l, p.1 < d
  | [], _, _, h => nomatch h
  | _ :: _, x, p, h => by
    rcases List.mem_cons.mp h with rfl | h
    · exact x.1
    · exact allLt_memD x.2 p h
theorem sum_nonneg : ∀ {l : List Int}, (∀ z ∈ l, (0 : Int) ≤ z) → 0 ≤ l.sum
  | [], _ => by decide
  | a :: r, h => by
    have h1 := h a (.head _)
    have h2 := sum_nonneg (l := r) fun z hz => h z (.tail _ hz)
    rw [List.sum_cons]; omega
section
variable {prog : Program} {w : World} {p : Program} {loose : List Str} {mean : ExcName → Option Value} {mg mb : Str → Option Value}
  {dp un : Nat} {gd : Option (List Code)} {cn : Str} {cs : Scope} {a : Addr} {ccd : Value} {cl : List (Str × Addr)} {outer : List Env} {A₀ : Around} {base h₀ : Heap} {L : Addr} {m : Str → Option Value} {news : List (Addr × Obj)} {s : Shared} {E : Value → Shared → Prop} {Q : Value → Shared → Prop}
  (B : Below A₀ base outer h₀) (F : Fr h₀ L s.heap m) (X : (KK w.params).In h₀) (N : News h₀ L s.heap news) (T : Top p loose mean mg mb h₀) (hk : cs.kind = .function)
include B F X N T hk
set_option maxHeartbeats 4000000
theorem draws_C {l : Addr} {vs : List Value} {ns : List Int} (hd : dp + 20 < recursionLimit) (hu : un + 200 < cLine) (hl : h₀.IsList l vs.toArray) (hI : IntsAre vs ns) (hz : ns.length ≤ 63)
    (hret : ∀ h' tk' d od g tg x tx, (0 : Int) ≤ g → (0 : Int) ≤ x ∧ x < 2147483647 → od.IsDictOf (PySem.strKind prog w) [(Str.ofString "great", .int g tg), (Str.ofString "mixed", .int x tx)] → Fr h₀ L h' m → News h₀ L h' ((d, od) :: news) → (∀ p ∈ news, p.1 ≠ d) → Q (.ref d) { s with heap := h', toks := tk' }) :
    wpAny (model prog w) (ktrTop dp un gd cn cs L a ccd cl outer) (call (.ref F_ulaw_draws) [.ref l]) Q E s := by
  refine en_ulaw_draws B F X N T hk (by first | exact room0 hd | omega) ?_
  walk_at "ent"
  rename_i g1 L1 h1 FG1 F1 N1 B1 X1 T1
  have hl2 : g1.IsList l vs.toArray := hl.at fun o e => FG1.keep _ o e
  walk_at "gon"
  refine For_invVF (by assumption) rfl rfl ?_
  walk_at "gon"
  rename_i D2 wv2 h2 FX NX lx hIx hCx hLx
  have hwl := hIx.length
  refine iter_listJ (vs := wv2) (n := 0) (fun i m₁ nx => nx = (D2, W.listOf wv2.toArray 0) :: news ∧ ∃ x t, (0 : Int) ≤ x ∧ x < 2147483647 ∧ m₁ "mixed_here" = some (.int x t) ∧ m₁ "script" = some (.ref l)) rfl (by assumption) (by assumption) (.head _) rfl rfl ?_ ?_ ?_
  · exact ⟨rfl, 7, _, by decide, by decide, rfl, rfl⟩
  · rintro I i v m₁ nx it h tk hv hJJ ho hit F₁ N₁
    (try k_fold)
    obtain ⟨rfl, x, t, hx0, hx1, e1, e2⟩ := hJJ
    obtain ⟨k, tk2, rfl, -⟩ := IntsAre.at hIx i v hv
    rw [map2 e1 e2] at F₁
    refine foldM F₁ ?_; clear F₁; intro Mx1 F₁
    walk_at "gon"
    rename Fr _ _ _ _ => FZ
    rename News _ _ _ _ => NZ
    exact UnrEnd.intro FZ NZ _ (fun p hp => hp) ho ⟨⟨.head _, ho⟩, rfl, _, _, Int.fmod_nonneg_of_pos _ (by decide), Int.fmod_lt_of_pos _ (by decide), rfl, rfl⟩
  · rintro h tk m₁ nx hJJ F₁ N₁
    (try k_fold)
    obtain ⟨rfl, x, t, hx0, hx1, e1, e2⟩ := hJJ
    rw [map2 e1 e2] at F₁
    refine foldM F₁ ?_; clear F₁; intro Mx2 F₁
    walk_at "gon"
    rename_i Dd h3 oD F3 N3 lo3 hd3 l3
    k_dflt (refine LCt.ListComp_T (F₀ := by k_asm) (by with_unfolding_all rfl) (by decide) (by rfl) (by decide) (by rfl) ?_)
    walk_at "gon"
    rename_i D5 wv5 h4 F4 N4 hI5 hC5 hL5 l4
    refine LCt.CompSrcT.ledger (its := wv5.toArray) rfl (by assumption) (by assumption) (.head _) (by rw [List.size_toArray, sizeLine_eq, hI5.length]; omega) (fun gg => ?_)
    refine compRestT_J (fun i ys nx => nx = (D5, W.listOf wv5.toArray 0) :: (Dd, oD) :: (D2, W.listOf wv2.toArray 0) :: news ∧ ∃ ls, IntsAre ys ls ∧ ∀ z ∈ ls, (0 : Int) ≤ z) ?_ ?_ wv5.toArray.size 0 [] _ (Nat.add_zero _) ⟨rfl, [], .nil, fun z hz => nomatch hz⟩
    · rintro i v I2 oI C2 oC D6 ys nx m₂ h tk E' hi hv hC hx hJJ F6 N6 off ne
      (try k_fold)
      obtain ⟨rfl, ls, hls, hlz⟩ := hJJ
      obtain ⟨k, tk2, rfl, -⟩ := IntsAre.at hI5 i v (by simpa using hv)
      walk_at "gon"
      · exact ⟨_, _, _, rfl, F6, N6, off, .inr ⟨_, .head _, rfl, _, rfl⟩, rfl, ls ++ [_], hls.append (.cons _ _ .nil), fun z hz => by
          rcases List.mem_append.mp hz with hz | hz
          · exact hlz z hz
          · rw [List.mem_singleton.mp hz]; split <;> omega⟩
      · exact ⟨_, _, _, rfl, F6, N6, off, .inr ⟨_, .head _, rfl, _, rfl⟩, rfl, ls, hls, hlz⟩
    · rintro ys nx ⟨rfl, ls, hls, hlz⟩
      intro D7 h7 tk7 F7 N7 o7
      walk_at "gon"
      rename Fr _ _ _ _ => F8
      rename News _ _ _ _ => N8
      have z1 : (D7, LCg.lst ys).1 ≠ Dd := fun e => o7.2.1 e.symm
      have z2 : (D5, W.listOf wv5.toArray 0).1 ≠ Dd := Nat.ne_of_gt l4.1
      have z3 : ∀ p ∈ (D2, W.listOf wv2.toArray 0) :: news, p.1 ≠ Dd := fun p hp => by
        rcases List.mem_cons.mp hp with rfl | hp
        · exact Nat.ne_of_lt l3.1
        · exact Nat.ne_of_lt (allLt_memD l3.2 p hp)
      refine kdn_made_str F8 N8 (UpdF.tail (fun q => z1 q) (UpdF.tail (fun q => z2 q) (UpdF.head z3))) hd3 rfl (of_decide_eq_true (by rfl)) ?_
      intro h9 o9 F9 N9 hd9
      walk_at "gon"
      rename Fr _ _ _ _ => FZ
      rename News _ _ _ _ => NZ
      exact hret _ _ Dd o9 _ _ x t (sum_nonneg hlz) ⟨hx0, hx1⟩ hd9 FZ (fun p hp => NZ p (by
        rcases List.mem_cons.mp hp with rfl | hp
        · exact .tail _ (.tail _ (.head _))
        · exact .tail _ (.tail _ (.tail _ (.tail _ hp))))) (fun p hp => z3 p (.tail _ hp))
end
end Mine
end
section
open PySem PySem.W PySem.Spec PySem.Calls PyProof.Rows
namespace Mine
theorem wdC1_0 : True := by
  k_with_none
  k_with "k_room" => ((try dsimp only [Ax]); ktr_room)
  k_with "k_units" => ((try dsimp only [Ax]); ktr_units)
  k_with "ent" => (intro _ _ _ _ _ _ _ _ _; (try k_fold); (refine foldA ?_; intro Ax); (conv in execs _ _ => arg 1; whnf))
  k_with "dep" => ((try dsimp only [ktrTop, Around.deeper, Around.in1, Around.under]); (first | (refine' room2 ?zqhR ?zqcR; (case zqhR => assumption); (case zqcR => exact Nat.le_of_ble_eq_true rfl)) | (refine' room0 ?zqhR; (case zqhR => assumption)) | (refine' room1 ?zqhR ?zqcR; (case zqhR => assumption); (case zqcR => exact Nat.le_of_ble_eq_true rfl)) | (refine' room3 ?zqhR ?zqcR; (case zqhR => assumption); (case zqcR => exact Nat.le_of_ble_eq_true rfl)) | omega))
  k_with "news" => first | assumption | exact news_tl0 (by assumption) | exact news_tl0 (news_tl0 (by assumption)) | exact news_tl0 (news_tl0 (news_tl0 (by assumption)))
  trivial
theorem beq_ki (i j : Int) (t u : Tok) : (i == j) = decide (kyOf (.int i t) = kyOf (.int j u)) := by
  by_cases h : i = j <;> simp [kyOf, h]
theorem beq_kb (x y : Array UInt8) (t u : Tok) : (x.toList == y.toList) = decide (kyOf (.bytes x t) = kyOf (.bytes y u)) := by
  by_cases h : x = y
  · simp [kyOf, h]
  · have : x.toList ≠ y.toList := fun e => h (Array.toList_inj.mp e)
    simp [kyOf, h, this]
section
variable {prog : Program} {w : World} {p : Program} {loose : List Str} {mean : ExcName → Option Value} {mg mb : Str → Option Value}
  {dp un : Nat} {gd : Option (List Code)} {cn : Str} {cs : Scope} {a : Addr} {ccd : Value} {cl : List (Str × Addr)} {outer : List Env} {A₀ : Around} {base h₀ : Heap} {L : Addr} {m : Str → Option Value} {news : List (Addr × Obj)} {s : Shared} {E : Value → Shared → Prop} {Q : Value → Shared → Prop}
  (B : Below A₀ base outer h₀) (F : Fr h₀ L s.heap m) (X : (KK w.params).In h₀) (N : News h₀ L s.heap news) (T : Top p loose mean mg mb h₀) (hk : cs.kind = .function)
include B F X N T hk
set_option maxHeartbeats 4000000
theorem type_of_none (hd : dp + 3 < recursionLimit) (_hu : un + 20 < cLine)
    (hret : ∀ h' tk' t, Fr h₀ L h' m → News h₀ L h' news → Q (.int 0 t) { s with heap := h', toks := tk' }) :
    wpAny (model prog w) (ktrTop dp un gd cn cs L a ccd cl outer) (call (.ref F_type_of) [.none]) Q E s := by
  refine en_type_of B F X N T hk (by first | exact room0 hd | omega) ?_
  walk_at "ent"
  k_steps
  all_goals exact hret _ _ _ (by assumption) (by assumption)
theorem type_of_int {i : Int} {t : Tok} (hd : dp + 3 < recursionLimit) (_hu : un + 20 < cLine)
    (hret : ∀ h' tk' t, Fr h₀ L h' m → News h₀ L h' news → Q (.int 3 t) { s with heap := h', toks := tk' }) :
    wpAny (model prog w) (ktrTop dp un gd cn cs L a ccd cl outer) (call (.ref F_type_of) [(.int i t)]) Q E s := by
  refine en_type_of B F X N T hk (by first | exact room0 hd | omega) ?_
  walk_at "ent"
  k_steps
  all_goals exact hret _ _ _ (by assumption) (by assumption)
theorem type_of_bytes {x : Array UInt8} {t : Tok} (hd : dp + 3 < recursionLimit) (_hu : un + 20 < cLine)
    (hret : ∀ h' tk' t, Fr h₀ L h' m → News h₀ L h' news → Q (.int 4 t) { s with heap := h', toks := tk' }) :
    wpAny (model prog w) (ktrTop dp un gd cn cs L a ccd cl outer) (call (.ref F_type_of) [(.bytes x t)]) Q E s := by
  refine en_type_of B F X N T hk (by first | exact room0 hd | omega) ?_
  walk_at "ent"
  k_steps
  all_goals exact hret _ _ _ (by assumption) (by assumption)
end
theorem wdC1_1 : True := by
  k_with "call ref" => (k_here; k_dflt (refine' type_of_none ?zqB ?zqF ?zqX ?zqN ?zqT ?zqhk ?zqd ?zqu  ?_; (case zqB => k_asm); (case zqF => k_asm); (case zqX => k_asm); (case zqN => k_asm); (case zqT => k_asm); (case zqhk => first | assumption | exact rfl); (case zqd => walk_at "dep"); (case zqu => walk_at "dep");  k_whole); intro _ _ _ _ _;  (try k_sweep))
  k_with "call ref" => (k_here; k_dflt (refine' type_of_int ?zqB ?zqF ?zqX ?zqN ?zqT ?zqhk ?zqd ?zqu  ?_; (case zqB => k_asm); (case zqF => k_asm); (case zqX => k_asm); (case zqN => k_asm); (case zqT => k_asm); (case zqhk => first | assumption | exact rfl); (case zqd => walk_at "dep"); (case zqu => walk_at "dep");  k_whole); intro _ _ _ _ _;  (try k_sweep))
  k_with "call ref" => (k_here; k_dflt (refine' type_of_bytes ?zqB ?zqF ?zqX ?zqN ?zqT ?zqhk ?zqd ?zqu  ?_; (case zqB => k_asm); (case zqF => k_asm); (case zqX => k_asm); (case zqN => k_asm); (case zqT => k_asm); (case zqhk => first | assumption | exact rfl); (case zqd => walk_at "dep"); (case zqu => walk_at "dep");  k_whole); intro _ _ _ _ _;  (try k_sweep))
  trivial
section
variable {prog : Program} {w : World} {p : Program} {loose : List Str} {mean : ExcName → Option Value} {mg mb : Str → Option Value}
  {dp un : Nat} {gd : Option (List Code)} {cn : Str} {cs : Scope} {a : Addr} {ccd : Value} {cl : List (Str × Addr)} {outer : List Env} {A₀ : Around} {base h₀ : Heap} {L : Addr} {m : Str → Option Value} {news : List (Addr × Obj)} {s : Shared} {E : Value → Shared → Prop} {Q : Value → Shared → Prop}
  (B : Below A₀ base outer h₀) (F : Fr h₀ L s.heap m) (X : (KK w.params).In h₀) (N : News h₀ L s.heap news) (T : Top p loose mean mg mb h₀) (hk : cs.kind = .function)
include B F X N T hk
set_option maxHeartbeats 4000000
theorem raw_equal_none_int {i1 : Int} {t1 : Tok} (hd : dp + 5 < recursionLimit) (_hu : un + 40 < cLine)
    (hret : ∀ h' tk', Fr h₀ L h' m → News h₀ L h' news → Q (.bool (decide (kyOf .none = kyOf (.int i1 t1)))) { s with heap := h', toks := tk' }) :
    wpAny (model prog w) (ktrTop dp un gd cn cs L a ccd cl outer) (call (.ref F_raw_equal) [.none, (.int i1 t1)]) Q E s := by
  refine en_raw_equal B F X N T hk (by first | exact room0 hd | omega) ?_
  walk_at "ent"
  k_steps
  all_goals (exact hret _ _ (by assumption) (by walk_at "news"))
theorem raw_equal_none_bytes {x1 : Array UInt8} {t1 : Tok} (hd : dp + 5 < recursionLimit) (_hu : un + 40 < cLine)
    (hret : ∀ h' tk', Fr h₀ L h' m → News h₀ L h' news → Q (.bool (decide (kyOf .none = kyOf (.bytes x1 t1)))) { s with heap := h', toks := tk' }) :
    wpAny (model prog w) (ktrTop dp un gd cn cs L a ccd cl outer) (call (.ref F_raw_equal) [.none, (.bytes x1 t1)]) Q E s := by
  refine en_raw_equal B F X N T hk (by first | exact room0 hd | omega) ?_
  walk_at "ent"
  k_steps
  all_goals (exact hret _ _ (by assumption) (by walk_at "news"))
theorem raw_equal_int_int {i0 : Int} {t0 : Tok} {i1 : Int} {t1 : Tok} (hd : dp + 5 < recursionLimit) (_hu : un + 40 < cLine)
    (hret : ∀ h' tk', Fr h₀ L h' m → News h₀ L h' news → Q (.bool (decide (kyOf (.int i0 t0) = kyOf (.int i1 t1)))) { s with heap := h', toks := tk' }) :
    wpAny (model prog w) (ktrTop dp un gd cn cs L a ccd cl outer) (call (.ref F_raw_equal) [(.int i0 t0), (.int i1 t1)]) Q E s := by
  refine en_raw_equal B F X N T hk (by first | exact room0 hd | omega) ?_
  walk_at "ent"
  k_steps
  all_goals (rw [beq_ki _ _ t0 t1]; exact hret _ _ (by assumption) (by walk_at "news"))
theorem raw_equal_int_bytes {i0 : Int} {t0 : Tok} {x1 : Array UInt8} {t1 : Tok} (hd : dp + 5 < recursionLimit) (_hu : un + 40 < cLine)
    (hret : ∀ h' tk', Fr h₀ L h' m → News h₀ L h' news → Q (.bool (decide (kyOf (.int i0 t0) = kyOf (.bytes x1 t1)))) { s with heap := h', toks := tk' }) :
    wpAny (model prog w) (ktrTop dp un gd cn cs L a ccd cl outer) (call (.ref F_raw_equal) [(.int i0 t0), (.bytes x1 t1)]) Q E s := by
  refine en_raw_equal B F X N T hk (by first | exact room0 hd | omega) ?_
  walk_at "ent"
  k_steps
  all_goals (exact hret _ _ (by assumption) (by walk_at "news"))
theorem raw_equal_bytes_int {x0 : Array UInt8} {t0 : Tok} {i1 : Int} {t1 : Tok} (hd : dp + 5 < recursionLimit) (_hu : un + 40 < cLine)
    (hret : ∀ h' tk', Fr h₀ L h' m → News h₀ L h' news → Q (.bool (decide (kyOf (.bytes x0 t0) = kyOf (.int i1 t1)))) { s with heap := h', toks := tk' }) :
    wpAny (model prog w) (ktrTop dp un gd cn cs L a ccd cl outer) (call (.ref F_raw_equal) [(.bytes x0 t0), (.int i1 t1)]) Q E s := by
  refine en_raw_equal B F X N T hk (by first | exact room0 hd | omega) ?_
  walk_at "ent"
  k_steps
  all_goals (exact hret _ _ (by assumption) (by walk_at "news"))
theorem raw_equal_bytes_bytes {x0 : Array UInt8} {t0 : Tok} {x1 : Array UInt8} {t1 : Tok} (hd : dp + 5 < recursionLimit) (_hu : un + 40 < cLine)
    (hret : ∀ h' tk', Fr h₀ L h' m → News h₀ L h' news → Q (.bool (decide (kyOf (.bytes x0 t0) = kyOf (.bytes x1 t1)))) { s with heap := h', toks := tk' }) :
    wpAny (model prog w) (ktrTop dp un gd cn cs L a ccd cl outer) (call (.ref F_raw_equal) [(.bytes x0 t0), (.bytes x1 t1)]) Q E s := by
  refine en_raw_equal B F X N T hk (by first | exact room0 hd | omega) ?_
  walk_at "ent"
  k_steps
  all_goals (rw [beq_kb _ _ t0 t1]; exact hret _ _ (by assumption) (by walk_at "news"))
end
theorem ky_cases {v : Value} (h : (kyOf v).isSome = true) : (∃ i t, v = .int i t) ∨ ∃ x t, v = .bytes x t := by
  cases v <;> simp [kyOf] at h ⊢
section
variable {prog : Program} {w : World} {p : Program} {loose : List Str} {mean : ExcName → Option Value} {mg mb : Str → Option Value}
  {dp un : Nat} {gd : Option (List Code)} {cn : Str} {cs : Scope} {a : Addr} {ccd : Value} {cl : List (Str × Addr)} {outer : List Env} {A₀ : Around} {base h₀ : Heap} {L : Addr} {m : Str → Option Value} {news : List (Addr × Obj)} {s : Shared} {E : Value → Shared → Prop} {Q : Value → Shared → Prop}
  (B : Below A₀ base outer h₀) (F : Fr h₀ L s.heap m) (X : (KK w.params).In h₀) (N : News h₀ L s.heap news) (T : Top p loose mean mg mb h₀) (hk : cs.kind = .function)
include B F X N T hk
set_option maxHeartbeats 4000000
theorem raw_equal_C {v key : Value} (hd : dp + 5 < recursionLimit) (hu : un + 40 < cLine) (hv : v = .none ∨ (kyOf v).isSome = true) (hkey : (kyOf key).isSome = true)
    (hret : ∀ h' tk', Fr h₀ L h' m → News h₀ L h' news → Q (.bool (decide (kyOf v = kyOf key))) { s with heap := h', toks := tk' }) :
    wpAny (model prog w) (ktrTop dp un gd cn cs L a ccd cl outer) (call (.ref F_raw_equal) [v, key]) Q E s := by
  rcases ky_cases hkey with ⟨j, u, rfl⟩ | ⟨y, u, rfl⟩
  · rcases hv with rfl | hv
    · exact raw_equal_none_int B F X N T hk hd hu hret
    · rcases ky_cases hv with ⟨i, t, rfl⟩ | ⟨x, t, rfl⟩
      · exact raw_equal_int_int B F X N T hk hd hu hret
      · exact raw_equal_bytes_int B F X N T hk hd hu hret
  · rcases hv with rfl | hv
    · exact raw_equal_none_bytes B F X N T hk hd hu hret
    · rcases ky_cases hv with ⟨i, t, rfl⟩ | ⟨x, t, rfl⟩
      · exact raw_equal_int_bytes B F X N T hk hd hu hret
      · exact raw_equal_bytes_bytes B F X N T hk hd hu hret
end
end Mine
end
section
open PySem PySem.W PySem.Spec PySem.Calls PyProof.Rows
namespace Mine
theorem news_tm {h₀ h : Heap} {L : Addr} {q : Addr × Obj} {r : List (Addr × Obj)} (N : News h₀ L h (q :: r)) : News h₀ L h r := fun p hp => N p (.tail _ hp)
theorem wdC2_0 : True := by
  k_with "news" => first | assumption | exact news_tm (by assumption) | exact news_tm (news_tm (by assumption)) | exact news_tm (news_tm (news_tm (by assumption)))
  k_with "go" => repeat' ((fail_if_success (with_reducible show wpAny _ _ (exec (Stmt.While _ _ _ _) _) _ _ _)); (fail_if_success (with_reducible show wpAny _ _ (exec (Stmt.For _ _ _ _ _) _) _ _ _)); (fail_if_success (with_reducible show WhileStep2 _ _ _ _ _ _ Flow.next _)); (fail_if_success (with_reducible show WhileStep2 _ _ _ _ _ _ Flow.cont _)); (first | (k_unfold; (try dsimp only)) | (k_end; wrow_close) | ((first | (with_reducible show wpAny _ _ (exec _ _) _ _ _) | (with_reducible show wpAny _ _ (execs _ _) _ _ _)); k_fold; (try (refine foldS ?_; intro Sx))) | walk1 | (dsimp only; walk1) | (leave1; walk_say "STEP leave1"; try dsimp only)))
  k_with "subscriptTail" => (k_here; (with_reducible show wpAny _ _ (subscriptTail _ _ (Value.bytes _ _) (Value.int _ _)) _ _ _); k_dflt (refine' item_by ?zqf ?zqa ?zqb ?_ ?zqhs ?zqht; (case zqf => first | assumption | omega); (case zqa => first | assumption | omega); (case zqb => first | assumption | omega); (case zqhs => with_unfolding_all rfl); (case zqht => (intro _; with_unfolding_all rfl)); k_whole); intro _ _)
  k_with "WhileStep2" => (dsimp only [WhileStep2])
  k_with "lenk" => first | assumption | exact refsN_len _ | exact rfl
  k_with "call builtin:len" => (k_here; (with_reducible show wpAny _ _ (call (Value.builtin "len") [Value.ref _]) _ _ _); k_dflt (refine' len_led ?zqN ?zqm ?zqk ?zqf ?_; (case zqN => k_asm); (case zqm => k_mem); (case zqk => walk_at "lenk"); (case zqf => first | assumption | omega); k_whole); intro _ _)
  k_with "binaryOp Mod int int" => (k_here; k_dflt (refine' mod_int' (by assumption) ?_; k_whole))
  trivial
theorem wdC2_1 : True := by
  k_with "call ref" => (k_here; k_dflt (refine' raw_equal_C ?zqB ?zqF ?zqX ?zqN ?zqT ?zqhk ?zqd ?zqu ?zqe0 ?zqe1 ?_; (case zqB => k_asm); (case zqF => k_asm); (case zqX => k_asm); (case zqN => k_asm); (case zqT => k_asm); (case zqhk => first | assumption | exact rfl); (case zqd => walk_at "dep"); (case zqu => walk_at "dep"); (case zqe0 => first | assumption | exact .inl rfl | exact .inr rfl); (case zqe1 => first | assumption | rfl); k_whole); intro _ _ _ _;  (try k_sweep))
  trivial
section
variable {prog : Program} {w : World} {p : Program} {loose : List Str} {mean : ExcName → Option Value} {mg mb : Str → Option Value}
  {dp un : Nat} {gd : Option (List Code)} {cn : Str} {cs : Scope} {a : Addr} {ccd : Value} {cl : List (Str × Addr)} {outer : List Env} {A₀ : Around} {base h₀ : Heap} {L : Addr} {m : Str → Option Value} {news : List (Addr × Obj)} {s : Shared} {E : Value → Shared → Prop} {Q : Value → Shared → Prop}
  (B : Below A₀ base outer h₀) (F : Fr h₀ L s.heap m) (X : (KK w.params).In h₀) (N : News h₀ L s.heap news) (T : Top p loose mean mg mb h₀) (hk : cs.kind = .function)
include B F X N T hk
set_option maxHeartbeats 4000000
theorem is_number_int {i : Int} {t : Tok} (hd : dp + 3 < recursionLimit) (_hu : un + 20 < cLine)
    (hret : ∀ h' tk', Fr h₀ L h' m → News h₀ L h' news → Q (.bool true) { s with heap := h', toks := tk' }) :
    wpAny (model prog w) (ktrTop dp un gd cn cs L a ccd cl outer) (call (.ref F_is_number) [.int i t]) Q E s := by
  refine en_is_number B F X N T hk (by first | exact room0 hd | omega) ?_
  walk_at "ent"
  k_steps
  all_goals exact hret _ _ (by assumption) (by assumption)
theorem is_number_bytes {i : Array UInt8} {t : Tok} (hd : dp + 3 < recursionLimit) (_hu : un + 20 < cLine)
    (hret : ∀ h' tk', Fr h₀ L h' m → News h₀ L h' news → Q (.bool false) { s with heap := h', toks := tk' }) :
    wpAny (model prog w) (ktrTop dp un gd cn cs L a ccd cl outer) (call (.ref F_is_number) [.bytes i t]) Q E s := by
  refine en_is_number B F X N T hk (by first | exact room0 hd | omega) ?_
  walk_at "ent"
  k_steps
  all_goals exact hret _ _ (by assumption) (by assumption)
end
theorem wdC2_2 : True := by
  k_with "call ref" => (k_here; k_dflt (refine' is_number_int ?zqB ?zqF ?zqX ?zqN ?zqT ?zqhk ?zqd ?zqu  ?_; (case zqB => k_asm); (case zqF => k_asm); (case zqX => k_asm); (case zqN => k_asm); (case zqT => k_asm); (case zqhk => first | assumption | exact rfl); (case zqd => walk_at "dep"); (case zqu => walk_at "dep");  k_whole); intro _ _ _ _;  (try k_sweep))
  k_with "call ref" => (k_here; k_dflt (refine' is_number_bytes ?zqB ?zqF ?zqX ?zqN ?zqT ?zqhk ?zqd ?zqu  ?_; (case zqB => k_asm); (case zqF => k_asm); (case zqX => k_asm); (case zqN => k_asm); (case zqT => k_asm); (case zqhk => first | assumption | exact rfl); (case zqd => walk_at "dep"); (case zqu => walk_at "dep");  k_whole); intro _ _ _ _;  (try k_sweep))
  trivial
inductive ShJ (news : List (Addr × Obj)) (x : Array UInt8) (t : Tok) (n : Nat) (m₁ : Str → Option Value) (nx : List (Addr × Obj)) : Prop
  | mk (zq0 : nx = news) (f : _) (t1 : _) (t2 : _) (t3 : _) (zq1 : m₁ "found" = some (.int f t1)) (zq2 : m₁ "at" = some (.int (n : Int) t2)) (zq3 : m₁ "step" = some (.int 1 t3)) (zq4 : m₁ "text" = some (.bytes x t)) (zq5 : 0 ≤ f) (zq6 : f < 4294967296) (zq7 : SHf x n f = SH x) (zq8 : n ≤ x.size) : ShJ news x t n m₁ nx
section
variable {prog : Program} {w : World} {p : Program} {loose : List Str} {mean : ExcName → Option Value} {mg mb : Str → Option Value}
  {dp un : Nat} {gd : Option (List Code)} {cn : Str} {cs : Scope} {a : Addr} {ccd : Value} {cl : List (Str × Addr)} {outer : List Env} {A₀ : Around} {base h₀ : Heap} {L : Addr} {m : Str → Option Value} {news : List (Addr × Obj)} {s : Shared} {E : Value → Shared → Prop} {Q : Value → Shared → Prop}
  (B : Below A₀ base outer h₀) (F : Fr h₀ L s.heap m) (X : (KK w.params).In h₀) (N : News h₀ L s.heap news) (T : Top p loose mean mg mb h₀) (hk : cs.kind = .function)
include B F X N T hk
set_option maxHeartbeats 4000000
theorem array_index_int {i : Int} {t : Tok} (hd : dp + 5 < recursionLimit) (_hu : un + 40 < cLine)
    (hret : ∀ h' tk', Fr h₀ L h' m → News h₀ L h' news → Q (.int i t) { s with heap := h', toks := tk' }) :
    wpAny (model prog w) (ktrTop dp un gd cn cs L a ccd cl outer) (call (.ref F_array_index) [.int i t]) Q E s := by
  refine en_array_index B F X N T hk (by first | exact room0 hd | omega) ?_
  walk_at "ent"
  k_steps
  all_goals exact hret _ _ (by assumption) (by assumption)
theorem array_index_bytes {i : Array UInt8} {t : Tok} (hd : dp + 5 < recursionLimit) (_hu : un + 40 < cLine)
    (hret : ∀ h' tk' t', Fr h₀ L h' m → News h₀ L h' news → Q (.int (-1) t') { s with heap := h', toks := tk' }) :
    wpAny (model prog w) (ktrTop dp un gd cn cs L a ccd cl outer) (call (.ref F_array_index) [.bytes i t]) Q E s := by
  refine en_array_index B F X N T hk (by first | exact room0 hd | omega) ?_
  walk_at "ent"
  k_steps
  all_goals exact hret _ _ _ (by assumption) (by assumption)
theorem main_position_int {V : Tab} {i : Int} {t : Tok} (hd : dp + 5 < recursionLimit) (_hu : un + 40 < cLine) (H : Has w.params V news) (hn : 0 < V.nds.length) (hn2 : V.nds.length ≤ 1000000)
    (hret : ∀ h' tk' t', Fr h₀ L h' m → News h₀ L h' news → Q (.int (MP V.nds.length (.i i)) t') { s with heap := h', toks := tk' }) :
    wpAny (model prog w) (ktrTop dp un gd cn cs L a ccd cl outer) (call (.ref F_Table_main_position) [.ref V.t, .int i t]) Q E s := by
  obtain ⟨m1, m2, m3, m4⟩ := has_all H
  have hz : Builtin.bitOr ((V.nds.length : Int) - 1) 1 ≠ 0 := by
    obtain ⟨d, e, h1, h2⟩ := bor_one hn
    rw [e]; omega
  refine en_Table_main_position B F X N T hk (by first | exact room0 hd | omega) ?_
  walk_at "ent"
  k_steps
  all_goals exact hret _ _ _ (by assumption) (by assumption)
theorem string_hash_C {x : Array UInt8} {t : Tok} (hd : dp + 5 < recursionLimit) (_hu : un + 40 < cLine) (hx : x.size < 32)
    (hret : ∀ h' tk' t', Fr h₀ L h' m → News h₀ L h' news → Q (.int (SH x) t') { s with heap := h', toks := tk' }) :
    wpAny (model prog w) (ktrTop dp un gd cn cs L a ccd cl outer) (call (.ref F_string_hash) [.bytes x t]) Q E s := by
  refine en_string_hash B F X N T hk (by first | exact room0 hd | omega) ?_
  walk_at "ent"
  walk_at "go"
  have hst : ((x.size : Int)).fdiv (2 ^ Int.toNat 5) + 1 = 1 := by
    have e : (2 : Int) ^ Int.toNat 5 = 32 := by decide
    rw [e, Int.fdiv_eq_ediv_of_nonneg _ (by decide)]; omega
  refine While_inv2 (news := news) (ShJ news x t) (n₀ := x.size) (by assumption) (by walk_at "news") ?_ ?_
  · exact ⟨rfl, _, _, _, _, rfl, rfl, some_int hst, rfl, (mask_range _).1, (mask_range _).2, rfl, Nat.le_refl _⟩
  · rintro n m₁ nx h₁ tk₁ F₁ N₁ hJJ 
    (try k_fold)
    obtain ⟨rfl, f, t1, t2, t3, e1, e2, e3, e4, b1, b2, b3, b4⟩ := hJJ
    rw [map4 e1 e2 e3 e4] at F₁
    refine foldM F₁ ?_; clear F₁; intro Mx1 F₁
    walk_at "go"
    · obtain ⟨k, rfl⟩ : ∃ k, n = k + 1 := ⟨n - 1, by omega⟩
      have e9 : ((↑(k + 1) : Int) - 1).toNat = k := by omega
      exact ⟨_, _, _, _, k, rfl, by assumption, by assumption, Nat.lt_succ_self _, rfl, _, _, _, _, rfl, some_int (show ((↑(k + 1) : Int) - 1) = (k : Int) by omega), rfl, rfl, (mask_range _).1, (mask_range _).2, by rw [e9]; exact b3, by omega⟩
    · obtain rfl : n = 0 := by omega
      obtain rfl : f = SH x := b3
      exact hret _ _ _ (by assumption) (by assumption)
end
theorem wdC2_3 : True := by
  k_with "call ref" => (k_here; k_dflt (refine' string_hash_C ?zqB ?zqF ?zqX ?zqN ?zqT ?zqhk ?zqd ?zqu ?zqe0 ?_; (case zqB => k_asm); (case zqF => k_asm); (case zqX => k_asm); (case zqN => k_asm); (case zqT => k_asm); (case zqhk => first | assumption | exact rfl); (case zqd => walk_at "dep"); (case zqu => walk_at "dep"); (case zqe0 => first | assumption | omega); k_whole); intro _ _ _ _ _;  (try k_sweep))
  trivial
section
variable {prog : Program} {w : World} {p : Program} {loose : List Str} {mean : ExcName → Option Value} {mg mb : Str → Option Value}
  {dp un : Nat} {gd : Option (List Code)} {cn : Str} {cs : Scope} {a : Addr} {ccd : Value} {cl : List (Str × Addr)} {outer : List Env} {A₀ : Around} {base h₀ : Heap} {L : Addr} {m : Str → Option Value} {news : List (Addr × Obj)} {s : Shared} {E : Value → Shared → Prop} {Q : Value → Shared → Prop}
  (B : Below A₀ base outer h₀) (F : Fr h₀ L s.heap m) (X : (KK w.params).In h₀) (N : News h₀ L s.heap news) (T : Top p loose mean mg mb h₀) (hk : cs.kind = .function)
include B F X N T hk
set_option maxHeartbeats 4000000
theorem main_position_bytes {V : Tab} {x : Array UInt8} {t : Tok} (hd : dp + 8 < recursionLimit) (_hu : un + 60 < cLine) (H : Has w.params V news) (hn2 : V.nds.length ≤ 1000000) (hx : x.size < 32)
    (hret : ∀ h' tk' t', Fr h₀ L h' m → News h₀ L h' news → Q (.int (MP V.nds.length (.b x)) t') { s with heap := h', toks := tk' }) :
    wpAny (model prog w) (ktrTop dp un gd cn cs L a ccd cl outer) (call (.ref F_Table_main_position) [.ref V.t, .bytes x t]) Q E s := by
  obtain ⟨m1, m2, m3, m4⟩ := has_all H
  refine en_Table_main_position B F X N T hk (by first | exact room0 hd | omega) ?_
  walk_at "ent"
  walk_at "go"
  all_goals exact hret _ _ _ (by assumption) (by assumption)
theorem main_position_C {V : Tab} {key : Value} {k : Ky} (hd : dp + 8 < recursionLimit) (hu : un + 60 < cLine) (H : Has w.params V news) (hn : 0 < V.nds.length) (hn2 : V.nds.length ≤ 1000000) (hkey : kyOf key = some k) (hok : KyOk k)
    (hret : ∀ h' tk' t', Fr h₀ L h' m → News h₀ L h' news → Q (.int (MP V.nds.length k) t') { s with heap := h', toks := tk' }) :
    wpAny (model prog w) (ktrTop dp un gd cn cs L a ccd cl outer) (call (.ref F_Table_main_position) [.ref V.t, key]) Q E s := by
  rcases ky_cases (v := key) (by rw [hkey]; rfl) with ⟨i, t, rfl⟩ | ⟨x, t, rfl⟩
  · cases hkey
    exact main_position_int B F X N T hk (by omega) (by omega) H hn hn2 hret
  · cases hkey
    exact main_position_bytes B F X N T hk hd hu H hn2 hok hret
end
end Mine
end
section
open PySem PySem.W PySem.Spec PySem.Calls PyProof.Rows
namespace Mine
theorem wdC3_0 : True := by
  k_with "news" => first | assumption | exact news_tl0 (by assumption) | exact news_tl0 (news_tl0 (by assumption)) | exact news_tl0 (news_tl0 (news_tl0 (by assumption)))
  trivial
theorem wdC3_1 : True := by
  k_with "call ref" => (k_here; k_dflt (refine' array_index_int ?zqB ?zqF ?zqX ?zqN ?zqT ?zqhk ?zqd ?zqu  ?_; (case zqB => k_asm); (case zqF => k_asm); (case zqX => k_asm); (case zqN => k_asm); (case zqT => k_asm); (case zqhk => first | assumption | exact rfl); (case zqd => walk_at "dep"); (case zqu => walk_at "dep");  k_whole); intro _ _ _ _;  (try k_sweep))
  k_with "call ref" => (k_here; k_dflt (refine' array_index_bytes ?zqB ?zqF ?zqX ?zqN ?zqT ?zqhk ?zqd ?zqu  ?_; (case zqB => k_asm); (case zqF => k_asm); (case zqX => k_asm); (case zqN => k_asm); (case zqT => k_asm); (case zqhk => first | assumption | exact rfl); (case zqd => walk_at "dep"); (case zqu => walk_at "dep");  k_whole); intro _ _ _ _ _;  (try k_sweep))
  trivial
section
variable {prog : Program} {w : World} {p : Program} {loose : List Str} {mean : ExcName → Option Value} {mg mb : Str → Option Value}
  {dp un : Nat} {gd : Option (List Code)} {cn : Str} {cs : Scope} {a : Addr} {ccd : Value} {cl : List (Str × Addr)} {outer : List Env} {A₀ : Around} {base h₀ : Heap} {L : Addr} {m : Str → Option Value} {news : List (Addr × Obj)} {s : Shared} {E : Value → Shared → Prop} {Q : Value → Shared → Prop}
  (B : Below A₀ base outer h₀) (F : Fr h₀ L s.heap m) (X : (KK w.params).In h₀) (N : News h₀ L s.heap news) (T : Top p loose mean mg mb h₀) (hk : cs.kind = .function)
include B F X N T hk
set_option maxHeartbeats 4000000
theorem log2_C {n : Nat} {t : Tok} (hd : dp + 3 < recursionLimit) (_hu : un + 20 < cLine) (hn : n < 1000000000)
    (hret : ∀ h' tk' t', Fr h₀ L h' m → News h₀ L h' news → Q (.int ((bits n : Int) - 1) t') { s with heap := h', toks := tk' }) :
    wpAny (model prog w) (ktrTop dp un gd cn cs L a ccd cl outer) (call (.ref F_log2) [.int (n : Int) t]) Q E s := by
  refine en_log2 B F X N T hk (by first | exact room0 hd | omega) ?_
  walk_at "ent"
  walk_at "go"
  refine While_inv2 (news := news) (fun k m₁ nx => nx = news ∧ ∃ f t1 t2, m₁ "found" = some (.int f t1) ∧ m₁ "n" = some (.int (k : Int) t2) ∧ f + bits k = (bits n : Int) - 1 ∧ k < 1000000000) (n₀ := n) (by assumption) (by walk_at "news") ?_ ?_
  · exact ⟨rfl, _, _, _, rfl, rfl, by omega, hn⟩
  · rintro k m₁ nx h₁ tk₁ F₁ N₁ hJJ 
    (try k_fold)
    obtain ⟨rfl, f, t1, t2, e1, e2, b1, b2⟩ := hJJ
    rw [map2 e1 e2] at F₁
    refine foldM F₁ ?_; clear F₁; intro Mx1 F₁
    walk_at "go"
    · have hb := bits_half (n := k) (by omega)
      exact ⟨_, _, _, _, k / 2, rfl, by assumption, by assumption, by omega, rfl, _, _, _, rfl, some_int (shr1 k), by omega, by omega⟩
    · obtain rfl : k = 0 := by omega
      have e : bits 0 = 0 := rfl
      obtain rfl : f = (bits n : Int) - 1 := by omega
      exact hret _ _ _ (by assumption) (by assumption)
end
section
variable {prog : Program} {w : World} {p : Program} {loose : List Str} {mean : ExcName → Option Value} {mg mb : Str → Option Value}
  {dp un : Nat} {gd : Option (List Code)} {cn : Str} {cs : Scope} {a : Addr} {ccd : Value} {cl : List (Str × Addr)} {outer : List Env} {A₀ : Around} {base h₀ : Heap} {L : Addr} {m : Str → Option Value} {news : List (Addr × Obj)} {s : Shared} {E : Value → Shared → Prop} {Q : Value → Shared → Prop}
  (B : Below A₀ base outer h₀) (F : Fr h₀ L s.heap m) (X : (KK w.params).In h₀) (N : News h₀ L s.heap news) (T : Top p loose mean mg mb h₀) (hk : cs.kind = .function)
include B F X N T hk
set_option maxHeartbeats 4000000
theorem log2_I {i : Int} {t : Tok} (hd : dp + 3 < recursionLimit) (hu : un + 20 < cLine) (h0 : 0 ≤ i) (hn : i < 1000000000)
    (hret : ∀ h' tk' t', Fr h₀ L h' m → News h₀ L h' news → Q (.int ((bits i.toNat : Int) - 1) t') { s with heap := h', toks := tk' }) :
    wpAny (model prog w) (ktrTop dp un gd cn cs L a ccd cl outer) (call (.ref F_log2) [.int i t]) Q E s := by
  obtain ⟨n, rfl⟩ := Int.eq_ofNat_of_zero_le h0
  exact log2_C B F X N T hk hd hu (by omega) hret
end
theorem wdC3_2 : True := by
  k_with "call ref" => (k_here; k_dflt (refine' log2_I ?zqB ?zqF ?zqX ?zqN ?zqT ?zqhk ?zqd ?zqu ?zqe0 ?zqe1 ?_; (case zqB => k_asm); (case zqF => k_asm); (case zqX => k_asm); (case zqN => k_asm); (case zqT => k_asm); (case zqhk => first | assumption | exact rfl); (case zqd => walk_at "dep"); (case zqu => walk_at "dep"); (case zqe0 => first | assumption | omega); (case zqe1 => first | assumption | omega); k_whole); intro _ _ _ _ _;  (try k_sweep))
  trivial
section
variable {prog : Program} {w : World} {p : Program} {loose : List Str} {mean : ExcName → Option Value} {mg mb : Str → Option Value}
  {dp un : Nat} {gd : Option (List Code)} {cn : Str} {cs : Scope} {a : Addr} {ccd : Value} {cl : List (Str × Addr)} {outer : List Env} {A₀ : Around} {base h₀ : Heap} {L : Addr} {m : Str → Option Value} {news : List (Addr × Obj)} {s : Shared} {E : Value → Shared → Prop} {Q : Value → Shared → Prop}
  (B : Below A₀ base outer h₀) (F : Fr h₀ L s.heap m) (X : (KK w.params).In h₀) (N : News h₀ L s.heap news) (T : Top p loose mean mg mb h₀) (hk : cs.kind = .function)
include B F X N T hk
set_option maxHeartbeats 4000000
theorem ceil_log2_C {i : Int} {t : Tok} (hd : dp + 5 < recursionLimit) (_hu : un + 40 < cLine) (h1 : 1 ≤ i) (hn : i < 1000000000)
    (hret : ∀ h' tk' t', Fr h₀ L h' m → News h₀ L h' news → Q (.int (clog i.toNat : Int) t') { s with heap := h', toks := tk' }) :
    wpAny (model prog w) (ktrTop dp un gd cn cs L a ccd cl outer) (call (.ref F_ceil_log2) [.int i t]) Q E s := by
  refine en_ceil_log2 B F X N T hk (by first | exact room0 hd | omega) ?_
  walk_at "ent"
  walk_at "go"
  have e : ((bits (i - 1).toNat : Int) - 1 + 1) = (clog i.toNat : Int) := by
    have e2 : (i - 1).toNat = i.toNat - 1 := Int.pred_toNat i
    rw [e2]; unfold clog; omega
  rw [e]
  exact hret _ _ _ (by assumption) (by assumption)
theorem ceil_log2_q {i : Int} {t : Tok} {q : Nat} (hq : clog i.toNat = q) (hd : dp + 5 < recursionLimit) (hu : un + 40 < cLine) (h1 : 1 ≤ i) (hn : i < 1000000000)
    (hret : ∀ h' tk' t', Fr h₀ L h' m → News h₀ L h' news → Q (.int (q : Int) t') { s with heap := h', toks := tk' }) :
    wpAny (model prog w) (ktrTop dp un gd cn cs L a ccd cl outer) (call (.ref F_ceil_log2) [.int i t]) Q E s := by
  subst hq
  exact ceil_log2_C B F X N T hk hd hu h1 hn hret
end
theorem wdC3_3 : True := by
  k_with "call ref" => (k_here; k_dflt (refine' ceil_log2_C ?zqB ?zqF ?zqX ?zqN ?zqT ?zqhk ?zqd ?zqu ?zqe0 ?zqe1 ?_; (case zqB => k_asm); (case zqF => k_asm); (case zqX => k_asm); (case zqN => k_asm); (case zqT => k_asm); (case zqhk => first | assumption | exact rfl); (case zqd => walk_at "dep"); (case zqu => walk_at "dep"); (case zqe0 => first | assumption | omega); (case zqe1 => first | assumption | omega); k_whole); intro _ _ _ _ _;  (try k_sweep))
  k_with "k_all" => assumption
  k_with "setItem ref int" => (k_here; (with_reducible show wpAny _ _ (setItem (Value.ref _) (Value.int _ _) _) _ _ _); k_dflt (refine' set_led ?zqF ?zqN ?zqU ?zqa ?zqb ?zqc ?_; (case zqF => k_asm); (case zqN => k_asm); (case zqU => k_upd); (case zqa => first | assumption | omega); (case zqb => first | assumption | omega); (case zqc => first | assumption | omega); k_whole); intro _ _ _; (try k_sweep))
  k_with "getItem ref int" => (k_here; (with_reducible show wpAny _ _ (getItem (Value.ref _) (Value.int _ _)) _ _ _); k_dflt (refine' get_led ?zqN ?zqm ?zqa ?zqb ?zqx ?_; (case zqN => k_asm); (case zqm => k_mem); (case zqa => first | assumption | omega); (case zqb => first | assumption | omega); (case zqx => first | assumption | walk_at "item"); k_whole))
  k_with "subscriptTail" => (k_here; (with_reducible show wpAny _ _ (subscriptTail _ _ (Value.ref _) (Value.int _ _)) _ _ _); k_dflt (refine' item_led ?zqN ?zqm ?zqa ?zqb ?zqx ?_ ?zqhs; (case zqN => k_asm); (case zqm => k_mem); (case zqa => first | assumption | omega); (case zqb => first | assumption | omega); (case zqx => first | assumption | walk_at "item"); (case zqhs => with_unfolding_all rfl); k_whole))
  trivial
section
variable {prog : Program} {w : World} {p : Program} {loose : List Str} {mean : ExcName → Option Value} {mg mb : Str → Option Value}
  {dp un : Nat} {gd : Option (List Code)} {cn : Str} {cs : Scope} {a : Addr} {ccd : Value} {cl : List (Str × Addr)} {outer : List Env} {A₀ : Around} {base h₀ : Heap} {L : Addr} {m : Str → Option Value} {news : List (Addr × Obj)} {s : Shared} {E : Value → Shared → Prop} {Q : Value → Shared → Prop}
  (B : Below A₀ base outer h₀) (F : Fr h₀ L s.heap m) (X : (KK w.params).In h₀) {lc : Addr} {cv : List Value} {ev : Nat} {f : Nat → Int} (N : News h₀ L s.heap ((lc, listOf cv.toArray ev) :: news)) (hfr : ∀ p ∈ news, p.1 ≠ lc) (hc : IsCnt cv f) (T : Top p loose mean mg mb h₀) (hk : cs.kind = .function)
include B F X N hfr hc T hk
set_option maxHeartbeats 4000000
theorem count_key_pos {i : Int} {t : Tok} (hd : dp + 8 < recursionLimit) (_hu : un + 60 < cLine) (h0 : 0 < i) (h1 : i ≤ 67108864)
    (hret : ∀ h' tk' t' cv', IsCnt cv' (bump f (clog i.toNat)) → Fr h₀ L h' m → News h₀ L h' ((lc, listOf cv'.toArray ev) :: news) → Q (.int 1 t') { s with heap := h', toks := tk' }) :
    wpAny (model prog w) (ktrTop dp un gd cn cs L a ccd cl outer) (call (.ref F_count_key) [.int i t, .ref lc]) Q E s := by
  have hj : clog i.toNat < 27 := by
    have : clog i.toNat ≤ 26 := (clog_le_iff (by omega)).mpr (by omega)
    omega
  have hl := hc.1
  obtain ⟨t0, ht0⟩ := hc.2 _ hj
  have ht1 : cv[((clog i.toNat : Nat) : Int).toNat]? = some (Value.int (f (clog i.toNat)) t0) := ht0
  refine en_count_key B F X N T hk (by first | exact room0 hd | omega) ?_
  walk_at "ent"
  walk_at "go"
  all_goals exact hret _ _ _ _ (IsCnt.bump hc hj rfl) (by assumption) (by assumption)
omit hc in
theorem count_key_npos {i : Int} {t : Tok} (hd : dp + 8 < recursionLimit) (_hu : un + 60 < cLine) (h0 : i ≤ 0)
    (hret : ∀ h' tk' t', Fr h₀ L h' m → News h₀ L h' ((lc, listOf cv.toArray ev) :: news) → Q (.int 0 t') { s with heap := h', toks := tk' }) :
    wpAny (model prog w) (ktrTop dp un gd cn cs L a ccd cl outer) (call (.ref F_count_key) [.int i t, .ref lc]) Q E s := by
  refine en_count_key B F X N T hk (by first | exact room0 hd | omega) ?_
  walk_at "ent"
  walk_at "go"
  all_goals exact hret _ _ _ (by assumption) (by assumption)
omit hc in
theorem count_key_bytes {x : Array UInt8} {t : Tok} (hd : dp + 8 < recursionLimit) (_hu : un + 60 < cLine)
    (hret : ∀ h' tk' t', Fr h₀ L h' m → News h₀ L h' ((lc, listOf cv.toArray ev) :: news) → Q (.int 0 t') { s with heap := h', toks := tk' }) :
    wpAny (model prog w) (ktrTop dp un gd cn cs L a ccd cl outer) (call (.ref F_count_key) [.bytes x t, .ref lc]) Q E s := by
  refine en_count_key B F X N T hk (by first | exact room0 hd | omega) ?_
  walk_at "ent"
  walk_at "go"
  all_goals exact hret _ _ _ (by assumption) (by assumption)
theorem count_key_C {key : Value} {k : Ky} (hd : dp + 8 < recursionLimit) (hu : un + 60 < cLine) (hkey : kyOf key = some k) (hb : KyB k)
    (hret : ∀ h' tk' t' cv', IsCnt cv' (kBump f k) → Fr h₀ L h' m → News h₀ L h' ((lc, listOf cv'.toArray ev) :: news) → Q (.int (kOne k) t') { s with heap := h', toks := tk' }) :
    wpAny (model prog w) (ktrTop dp un gd cn cs L a ccd cl outer) (call (.ref F_count_key) [key, .ref lc]) Q E s := by
  rcases ky_cases (v := key) (by rw [hkey]; rfl) with ⟨i, t, rfl⟩ | ⟨x, t, rfl⟩
  · cases hkey
    by_cases h0 : 0 < i
    · have e1 : kBump f (.i i) = bump f (clog i.toNat) := if_pos h0
      have e2 : kOne (.i i) = 1 := if_pos h0
      rw [e1, e2] at hret
      exact count_key_pos B F X N hfr hc T hk hd hu h0 hb hret
    · have e1 : kBump f (.i i) = f := if_neg h0
      have e2 : kOne (.i i) = 0 := if_neg h0
      rw [e1, e2] at hret
      exact count_key_npos B F X N hfr T hk hd hu (by omega) (fun h' tk' t' F' N' => hret h' tk' t' cv hc F' N')
  · cases hkey
    exact count_key_bytes B F X N hfr T hk hd hu (fun h' tk' t' F' N' => hret h' tk' t' cv hc F' N')
end
end Mine
end
section
open PySem PySem.W PySem.Spec PySem.Calls PyProof.Rows
namespace Mine
theorem wdC4_0 : True := by
  k_with "k_handed" => assumption
  k_with "compareOp Is none" => (k_here; refine is_none_ne (by assumption) ?_)
  k_with "compareOp IsNot none" => (k_here; refine isnot_none_ne (by assumption) ?_)
  trivial
section
variable {prog : Program} {w : World} {p : Program} {loose : List Str} {mean : ExcName → Option Value} {mg mb : Str → Option Value}
  {dp un : Nat} {gd : Option (List Code)} {cn : Str} {cs : Scope} {a : Addr} {ccd : Value} {cl : List (Str × Addr)} {outer : List Env} {A₀ : Around} {base h₀ : Heap} {L : Addr} {m : Str → Option Value} {news : List (Addr × Obj)} {s : Shared} {E : Value → Shared → Prop} {Q : Value → Shared → Prop}
  (B : Below A₀ base outer h₀) (F : Fr h₀ L s.heap m) (X : (KK w.params).In h₀) (N : News h₀ L s.heap news) (T : Top p loose mean mg mb h₀) (hk : cs.kind = .function)
include B F X N T hk
set_option maxHeartbeats 4000000
theorem raw_equal_T {v key : Value} (hd : dp + 5 < recursionLimit) (hu : un + 40 < cLine) (hv : v = .none ∨ (kyOf v).isSome = true) (hkey : (kyOf key).isSome = true) (e : kyOf v = kyOf key)
    (hret : ∀ h' tk', Fr h₀ L h' m → News h₀ L h' news → Q (.bool true) { s with heap := h', toks := tk' }) :
    wpAny (model prog w) (ktrTop dp un gd cn cs L a ccd cl outer) (call (.ref F_raw_equal) [v, key]) Q E s := raw_equal_C B F X N T hk hd hu hv hkey (by rw [decide_eq_true e]; exact hret)
theorem raw_equal_F {v key : Value} (hd : dp + 5 < recursionLimit) (hu : un + 40 < cLine) (hv : v = .none ∨ (kyOf v).isSome = true) (hkey : (kyOf key).isSome = true) (e : kyOf v ≠ kyOf key)
    (hret : ∀ h' tk', Fr h₀ L h' m → News h₀ L h' news → Q (.bool false) { s with heap := h', toks := tk' }) :
    wpAny (model prog w) (ktrTop dp un gd cn cs L a ccd cl outer) (call (.ref F_raw_equal) [v, key]) Q E s := raw_equal_C B F X N T hk hd hu hv hkey (by rw [decide_eq_false e]; exact hret)
end
theorem wdC4_1 : True := by
  k_with "has" => first | assumption | exact has_tl (by assumption) | exact has_tl (has_tl (by assumption))
  k_with "call ref" => (k_here; k_dflt (refine' main_position_C ?zqB ?zqF ?zqX ?zqN ?zqT ?zqhk ?zqd ?zqu ?zqe0 ?zqe1 ?zqe2 ?zqe3 ?zqe4 ?_; (case zqB => k_asm); (case zqF => k_asm); (case zqX => k_asm); (case zqN => k_asm); (case zqT => k_asm); (case zqhk => first | assumption | exact rfl); (case zqd => walk_at "dep"); (case zqu => walk_at "dep"); (case zqe0 => walk_at "has"); (case zqe1 => first | assumption | omega); (case zqe2 => first | assumption | omega); (case zqe3 => first | assumption | rfl); (case zqe4 => first | assumption | exact trivial); k_whole); intro _ _ _ _ _;  (try k_sweep))
  k_with "call ref" => (k_here; k_dflt (refine' raw_equal_F ?zqB ?zqF ?zqX ?zqN ?zqT ?zqhk ?zqd ?zqu ?zqe0 ?zqe1 ?zqe2 ?_; (case zqB => k_asm); (case zqF => k_asm); (case zqX => k_asm); (case zqN => k_asm); (case zqT => k_asm); (case zqhk => first | assumption | exact rfl); (case zqd => walk_at "dep"); (case zqu => walk_at "dep"); (case zqe0 => first | assumption | exact .inl rfl | exact .inr rfl); (case zqe1 => first | assumption | rfl); (case zqe2 => assumption); k_whole); intro _ _ _ _;  (try k_sweep))
  k_with "call ref" => (k_here; k_dflt (refine' raw_equal_T ?zqB ?zqF ?zqX ?zqN ?zqT ?zqhk ?zqd ?zqu ?zqe0 ?zqe1 ?zqe2 ?_; (case zqB => k_asm); (case zqF => k_asm); (case zqX => k_asm); (case zqN => k_asm); (case zqT => k_asm); (case zqhk => first | assumption | exact rfl); (case zqd => walk_at "dep"); (case zqu => walk_at "dep"); (case zqe0 => first | assumption | exact .inl rfl | exact .inr rfl); (case zqe1 => first | assumption | rfl); (case zqe2 => assumption); k_whole); intro _ _ _ _;  (try k_sweep))
  trivial
section
variable {prog : Program} {w : World} {p : Program} {loose : List Str} {mean : ExcName → Option Value} {mg mb : Str → Option Value}
  {dp un : Nat} {gd : Option (List Code)} {cn : Str} {cs : Scope} {a : Addr} {ccd : Value} {cl : List (Str × Addr)} {outer : List Env} {A₀ : Around} {base h₀ : Heap} {L : Addr} {m : Str → Option Value} {news : List (Addr × Obj)} {s : Shared} {E : Value → Shared → Prop} {Q : Value → Shared → Prop}
  (B : Below A₀ base outer h₀) (F : Fr h₀ L s.heap m) (X : (KK w.params).In h₀) (N : News h₀ L s.heap news) (T : Top p loose mean mg mb h₀) (hk : cs.kind = .function)
include B F X N T hk
set_option maxHeartbeats 4000000
theorem find_node_C {V : Tab} {key : Value} {k : Ky} {n : Nat} {r : Int} (hd : dp + 12 < recursionLimit) (_hu : un + 80 < cLine) (H : Has w.params V news) (hn2 : V.nds.length ≤ 1000000) (hkey : kyOf key = some k) (hok : KyOk k) (hko : KeysOk V.nds)
    (h0 : V.nds.length = 0 → r = -1) (hf : 0 < V.nds.length → Fnd V.nds k n (MP V.nds.length k) r)
    (hret : ∀ h' tk' t', Fr h₀ L h' m → News h₀ L h' news → Q (.int r t') { s with heap := h', toks := tk' }) :
    wpAny (model prog w) (ktrTop dp un gd cn cs L a ccd cl outer) (call (.ref F_Table_find_node) [.ref V.t, key]) Q E s := by
  obtain ⟨m1, m2, m3, m4⟩ := has_all H
  have hks : (kyOf key).isSome = true := by rw [hkey]; rfl
  have hkn : key ≠ .none := fun e => by rw [e] at hkey; cases hkey
  refine en_Table_find_node B F X N T hk (by first | exact room0 hd | omega) ?_
  walk_at "ent"
  walk_at "go"
  · obtain rfl := h0 (by omega)
    exact hret _ _ _ (by assumption) (by assumption)
  · have hf := hf (by omega)
    refine While_inv2 (news := news) (fun n m₁ nx => nx = news ∧ ∃ i t1, m₁ "at" = some (.int i t1) ∧ m₁ "self" = some (.ref V.t) ∧ m₁ "key" = some key ∧ Fnd V.nds k n i r) (n₀ := n) (by assumption) (by walk_at "news") ?_ ?_
    · exact ⟨rfl, _, _, rfl, rfl, rfl, hf⟩
    · rintro n m₁ nx h₁ tk₁ F₁ N₁ hJJ 
      (try k_fold)
      obtain ⟨rfl, i, t1, e1, e2, e3, b1⟩ := hJJ
      rw [map3 e1 e2 e3] at F₁
      refine foldM F₁ ?_; clear F₁; intro Mx1 F₁
      cases b1 with
      | out h =>
        walk_at "go"
        all_goals exact hret _ _ _ (by assumption) (by assumption)
      | hit h hx hy =>
        rename_i nd
        have hi : r ≤ 1000000 := by have := lt_of_get hx; omega
        obtain ⟨q1, q2⟩ := has_nd H hx
        have q3 := refsN_get hx
        have q4 := hko.at hx
        have q6 := handed_key q4
        have q5 : kyOf nd.key = kyOf key := by rw [hy, hkey]
        walk_at "go"
        all_goals exact hret _ _ _ (by assumption) (by assumption)
      | step h hx hy hz =>
        rename_i n nd
        have hi : i ≤ 1000000 := by have := lt_of_get hx; omega
        obtain ⟨q1, q2⟩ := has_nd H hx
        have q3 := refsN_get hx
        have q4 := hko.at hx
        have q6 := handed_key q4
        have q5 : kyOf nd.key ≠ kyOf key := by rw [hkey]; exact hy
        walk_at "go"
        all_goals exact ⟨_, _, _, _, n, rfl, by assumption, by assumption, Nat.lt_succ_self _, rfl, _, _, rfl, rfl, rfl, hz⟩
end
end Mine
end
section
open PySem PySem.W PySem.Spec PySem.Calls PyProof.Rows
namespace Mine
section
variable {prog : Program} {w : World} {A : Around} {h₀ : Heap} {L x : Addr} {m : Str → Option Value} {s : Shared} {E : Value → Shared → Prop} {V : Tab} {R : List (Addr × Obj)}
theorem set_free {f : Int} {t : Tok} {Q : Unit → Shared → Prop} (F : Fr h₀ L s.heap m) (X : (KK w.params).In h₀) (N : News h₀ L s.heap (tl w.params V ++ R)) (ap : Apart (tl w.params V ++ R)) (hx : x = V.t)
    (h : ∀ h', Fr h₀ L h' m → News h₀ L h' (tl w.params { V with free := f, tf := t } ++ R) → Apart (tl w.params { V with free := f, tf := t } ++ R) → Q () { s with heap := h', toks := s.toks + 2 }) :
    wpAny (model prog w) A (setAttr (.ref x) "free" (.int f t)) Q E s := by
  subst hx
  refine set_dict F X N (InstAt.of_news N (List.mem_append_left _ mem_t) (List.mem_append_left _ mem_td)) rfl (by k_is) (by k_is) (by k_is) (by k_is) rfl (es' := tdE w.params { V with free := f, tf := t }) (n' := 10) rfl (upd_td (W := { V with free := f, tf := t }) ap rfl rfl rfl rfl rfl rfl rfl rfl) (Nat.le_of_ble_eq_true rfl) fun h' F' N' => h h' F' N' (apart_same ap rfl)
theorem set_flags {v : Value} {Q : Unit → Shared → Prop} (F : Fr h₀ L s.heap m) (X : (KK w.params).In h₀) (N : News h₀ L s.heap (tl w.params V ++ R)) (ap : Apart (tl w.params V ++ R)) (hx : x = V.t)
    (h : ∀ h', Fr h₀ L h' m → News h₀ L h' (tl w.params (V.wFlags v) ++ R) → Apart (tl w.params (V.wFlags v) ++ R) → Q () { s with heap := h', toks := s.toks + 2 }) :
    wpAny (model prog w) A (setAttr (.ref x) "flags" v) Q E s := by
  subst hx
  refine set_dict F X N (InstAt.of_news N (List.mem_append_left _ mem_t) (List.mem_append_left _ mem_td)) rfl (by k_is) (by k_is) (by k_is) (by k_is) rfl (es' := tdE w.params (V.wFlags v)) (n' := 10) rfl (upd_td (W := (V.wFlags v)) ap rfl rfl rfl rfl rfl rfl rfl rfl) (Nat.le_of_ble_eq_true rfl) fun h' F' N' => h h' F' N' (apart_same ap rfl)
theorem set_log_nodes {v : Value} {Q : Unit → Shared → Prop} (F : Fr h₀ L s.heap m) (X : (KK w.params).In h₀) (N : News h₀ L s.heap (tl w.params V ++ R)) (ap : Apart (tl w.params V ++ R)) (hx : x = V.t)
    (h : ∀ h', Fr h₀ L h' m → News h₀ L h' (tl w.params (V.wLog v) ++ R) → Apart (tl w.params (V.wLog v) ++ R) → Q () { s with heap := h', toks := s.toks + 2 }) :
    wpAny (model prog w) A (setAttr (.ref x) "log_nodes" v) Q E s := by
  subst hx
  refine set_dict F X N (InstAt.of_news N (List.mem_append_left _ mem_t) (List.mem_append_left _ mem_td)) rfl (by k_is) (by k_is) (by k_is) (by k_is) rfl (es' := tdE w.params (V.wLog v)) (n' := 10) rfl (upd_td (W := (V.wLog v)) ap rfl rfl rfl rfl rfl rfl rfl rfl) (Nat.le_of_ble_eq_true rfl) fun h' F' N' => h h' F' N' (apart_same ap rfl)
theorem set_size {v : Value} {Q : Unit → Shared → Prop} (F : Fr h₀ L s.heap m) (X : (KK w.params).In h₀) (N : News h₀ L s.heap (tl w.params V ++ R)) (ap : Apart (tl w.params V ++ R)) (hx : x = V.t)
    (h : ∀ h', Fr h₀ L h' m → News h₀ L h' (tl w.params (V.wSize v) ++ R) → Apart (tl w.params (V.wSize v) ++ R) → Q () { s with heap := h', toks := s.toks + 2 }) :
    wpAny (model prog w) A (setAttr (.ref x) "size" v) Q E s := by
  subst hx
  refine set_dict F X N (InstAt.of_news N (List.mem_append_left _ mem_t) (List.mem_append_left _ mem_td)) rfl (by k_is) (by k_is) (by k_is) (by k_is) rfl (es' := tdE w.params (V.wSize v)) (n' := 10) rfl (upd_td (W := (V.wSize v)) ap rfl rfl rfl rfl rfl rfl rfl rfl) (Nat.le_of_ble_eq_true rfl) fun h' F' N' => h h' F' N' (apart_same ap rfl)
theorem set_number {v : Value} {Q : Unit → Shared → Prop} (F : Fr h₀ L s.heap m) (X : (KK w.params).In h₀) (N : News h₀ L s.heap (tl w.params V ++ R)) (ap : Apart (tl w.params V ++ R)) (hx : x = V.t)
    (h : ∀ h', Fr h₀ L h' m → News h₀ L h' (tl w.params (V.wNum v) ++ R) → Apart (tl w.params (V.wNum v) ++ R) → Q () { s with heap := h', toks := s.toks + 2 }) :
    wpAny (model prog w) A (setAttr (.ref x) "number" v) Q E s := by
  subst hx
  refine set_dict F X N (InstAt.of_news N (List.mem_append_left _ mem_t) (List.mem_append_left _ mem_td)) rfl (by k_is) (by k_is) (by k_is) (by k_is) rfl (es' := tdE w.params (V.wNum v)) (n' := 10) rfl (upd_td (W := (V.wNum v)) ap rfl rfl rfl rfl rfl rfl rfl rfl) (Nat.le_of_ble_eq_true rfl) fun h' F' N' => h h' F' N' (apart_same ap rfl)
theorem set_key {v : Value} {i : Nat} {nd : Nd} {k0 v0 : Value} {x0 : Int} {t0 : Tok} {Q : Unit → Shared → Prop} (F : Fr h₀ L s.heap m) (X : (KK w.params).In h₀) (N : News h₀ L s.heap (tl w.params V ++ R)) (ap : Apart (tl w.params V ++ R)) (e : V.nds[i]? = some (nd.w k0 v0 x0 t0)) (hx : x = nd.x)
    (h : ∀ h', Fr h₀ L h' m → News h₀ L h' (tl w.params (V.setNd i (nd.w v v0 x0 t0)) ++ R) → Apart (tl w.params (V.setNd i (nd.w v v0 x0 t0)) ++ R) → (V.setNd i (nd.w v v0 x0 t0)).nds[i]? = some (nd.w v v0 x0 t0) → (∀ j a, j ≠ i → V.nds[j]? = some a → (V.setNd i (nd.w v v0 x0 t0)).nds[j]? = some a) → Q () { s with heap := h', toks := s.toks + 2 }) :
    wpAny (model prog w) A (setAttr (.ref x) "key" v) Q E s := by
  subst hx
  refine set_dict F X N (es := ndE w.params (nd.w k0 v0 x0 t0)) (n := 3) (x := nd.x) (dx := nd.dx) (InstAt.of_news N (List.mem_append_left _ (mem_nx (n := nd.w k0 v0 x0 t0) e)) (List.mem_append_left _ (mem_nd (n := nd.w k0 v0 x0 t0) e))) rfl (by k_is) (by k_is) (by k_is) (by k_is) rfl (es' := ndE w.params (nd.w v v0 x0 t0)) (n' := 3) rfl (upd_nd (n := nd.w k0 v0 x0 t0) (n' := (nd.w v v0 x0 t0)) ap e rfl rfl) (Nat.le_of_ble_eq_true rfl) fun h' F' N' => h h' F' N' (apart_nd (n := nd.w k0 v0 x0 t0) (n' := (nd.w v v0 x0 t0)) ap e rfl rfl) (setNd_self e) (fun j a hj ha => setNd_ne ha hj)
theorem set_value {v : Value} {i : Nat} {nd : Nd} {k0 v0 : Value} {x0 : Int} {t0 : Tok} {Q : Unit → Shared → Prop} (F : Fr h₀ L s.heap m) (X : (KK w.params).In h₀) (N : News h₀ L s.heap (tl w.params V ++ R)) (ap : Apart (tl w.params V ++ R)) (e : V.nds[i]? = some (nd.w k0 v0 x0 t0)) (hx : x = nd.x)
    (h : ∀ h', Fr h₀ L h' m → News h₀ L h' (tl w.params (V.setNd i (nd.w k0 v x0 t0)) ++ R) → Apart (tl w.params (V.setNd i (nd.w k0 v x0 t0)) ++ R) → (V.setNd i (nd.w k0 v x0 t0)).nds[i]? = some (nd.w k0 v x0 t0) → (∀ j a, j ≠ i → V.nds[j]? = some a → (V.setNd i (nd.w k0 v x0 t0)).nds[j]? = some a) → Q () { s with heap := h', toks := s.toks + 2 }) :
    wpAny (model prog w) A (setAttr (.ref x) "value" v) Q E s := by
  subst hx
  refine set_dict F X N (es := ndE w.params (nd.w k0 v0 x0 t0)) (n := 3) (x := nd.x) (dx := nd.dx) (InstAt.of_news N (List.mem_append_left _ (mem_nx (n := nd.w k0 v0 x0 t0) e)) (List.mem_append_left _ (mem_nd (n := nd.w k0 v0 x0 t0) e))) rfl (by k_is) (by k_is) (by k_is) (by k_is) rfl (es' := ndE w.params (nd.w k0 v x0 t0)) (n' := 3) rfl (upd_nd (n := nd.w k0 v0 x0 t0) (n' := (nd.w k0 v x0 t0)) ap e rfl rfl) (Nat.le_of_ble_eq_true rfl) fun h' F' N' => h h' F' N' (apart_nd (n := nd.w k0 v0 x0 t0) (n' := (nd.w k0 v x0 t0)) ap e rfl rfl) (setNd_self e) (fun j a hj ha => setNd_ne ha hj)
theorem set_next {v : Int} {t : Tok} {i : Nat} {nd : Nd} {k0 v0 : Value} {x0 : Int} {t0 : Tok} {Q : Unit → Shared → Prop} (F : Fr h₀ L s.heap m) (X : (KK w.params).In h₀) (N : News h₀ L s.heap (tl w.params V ++ R)) (ap : Apart (tl w.params V ++ R)) (e : V.nds[i]? = some (nd.w k0 v0 x0 t0)) (hx : x = nd.x)
    (h : ∀ h', Fr h₀ L h' m → News h₀ L h' (tl w.params (V.setNd i (nd.w k0 v0 v t)) ++ R) → Apart (tl w.params (V.setNd i (nd.w k0 v0 v t)) ++ R) → (V.setNd i (nd.w k0 v0 v t)).nds[i]? = some (nd.w k0 v0 v t) → (∀ j a, j ≠ i → V.nds[j]? = some a → (V.setNd i (nd.w k0 v0 v t)).nds[j]? = some a) → Q () { s with heap := h', toks := s.toks + 2 }) :
    wpAny (model prog w) A (setAttr (.ref x) "next" (.int v t)) Q E s := by
  subst hx
  refine set_dict F X N (es := ndE w.params (nd.w k0 v0 x0 t0)) (n := 3) (x := nd.x) (dx := nd.dx) (InstAt.of_news N (List.mem_append_left _ (mem_nx (n := nd.w k0 v0 x0 t0) e)) (List.mem_append_left _ (mem_nd (n := nd.w k0 v0 x0 t0) e))) rfl (by k_is) (by k_is) (by k_is) (by k_is) rfl (es' := ndE w.params (nd.w k0 v0 v t)) (n' := 3) rfl (upd_nd (n := nd.w k0 v0 x0 t0) (n' := (nd.w k0 v0 v t)) ap e rfl rfl) (Nat.le_of_ble_eq_true rfl) fun h' F' N' => h h' F' N' (apart_nd (n := nd.w k0 v0 x0 t0) (n' := (nd.w k0 v0 v t)) ap e rfl rfl) (setNd_self e) (fun j a hj ha => setNd_ne ha hj)
end
end Mine
end
section
open PySem PySem.W PySem.Spec PySem.Calls PyProof.Rows
namespace Mine
theorem wdC5_0 : True := by
  k_with "dec" => first | ((try simp only [beq_iff_eq, bne_iff_ne, decide_eq_true_eq, decide_eq_false_iff_not, Bool.and_eq_true, Bool.not_eq_true', Bool.not_eq_true, beq_eq_false_iff_ne, ne_eq]) <;> omega) | (simp; done)
  k_with "ite" => (k_here; k_openite; (first | refine ite_pos (by walk_at "dec") ?_ | refine ite_neg (by walk_at "dec") ?_))
  k_with "item" => exact refsN_get (by assumption)
  k_with "compareOp Is none" => (k_here; first | refine is_none_ne (by assumption) ?_ | refine is_none_eq (by assumption) ?_)
  k_with "compareOp IsNot none" => (k_here; first | refine isnot_none_ne (by assumption) ?_ | refine isnot_none_eq (by assumption) ?_)
  k_with "has" => first | assumption | exact has_tl (by assumption) | exact has_tl (has_tl (by assumption))
  k_with "has" => exact has_app
  k_with "k_mem" => first | exact List.mem_append_left _ mem_t | exact List.mem_append_left _ mem_td | exact List.mem_append_left _ mem_la | exact List.mem_append_left _ mem_ln | exact List.mem_append_left _ (mem_nx (by assumption)) | exact List.mem_append_left _ (mem_nd (by assumption)) | exact List.mem_append_right _ (by assumption)
  k_with "apart" => first | assumption | exact apart_same (by assumption) rfl
  k_with "setAttr ref" => (k_here; k_dflt (first | (refine' set_free ?zqF ?zqX ?zqN ?zqap ?zqhx ?_; (case zqF => k_asm); (case zqX => k_asm); (case zqN => k_asm); (case zqap => walk_at "apart"); (case zqhx => exact rfl); k_whole; intro _ _ _ _) | (refine' set_flags ?zqF ?zqX ?zqN ?zqap ?zqhx ?_; (case zqF => k_asm); (case zqX => k_asm); (case zqN => k_asm); (case zqap => walk_at "apart"); (case zqhx => exact rfl); k_whole; intro _ _ _ _) | (refine' set_log_nodes ?zqF ?zqX ?zqN ?zqap ?zqhx ?_; (case zqF => k_asm); (case zqX => k_asm); (case zqN => k_asm); (case zqap => walk_at "apart"); (case zqhx => exact rfl); k_whole; intro _ _ _ _) | (refine' set_size ?zqF ?zqX ?zqN ?zqap ?zqhx ?_; (case zqF => k_asm); (case zqX => k_asm); (case zqN => k_asm); (case zqap => walk_at "apart"); (case zqhx => exact rfl); k_whole; intro _ _ _ _) | (refine' set_number ?zqF ?zqX ?zqN ?zqap ?zqhx ?_; (case zqF => k_asm); (case zqX => k_asm); (case zqN => k_asm); (case zqap => walk_at "apart"); (case zqhx => exact rfl); k_whole; intro _ _ _ _) | (refine' set_key ?zqF ?zqX ?zqN ?zqap ?zqe ?zqhx ?_; (case zqF => k_asm); (case zqX => k_asm); (case zqN => k_asm); (case zqap => walk_at "apart"); (case zqhx => exact rfl); (case zqe => assumption); k_whole; intro _ _ _ _ _ _) | (refine' set_value ?zqF ?zqX ?zqN ?zqap ?zqe ?zqhx ?_; (case zqF => k_asm); (case zqX => k_asm); (case zqN => k_asm); (case zqap => walk_at "apart"); (case zqhx => exact rfl); (case zqe => assumption); k_whole; intro _ _ _ _ _ _) | (refine' set_next ?zqF ?zqX ?zqN ?zqap ?zqe ?zqhx ?_; (case zqF => k_asm); (case zqX => k_asm); (case zqN => k_asm); (case zqap => walk_at "apart"); (case zqhx => exact rfl); (case zqe => assumption); k_whole; intro _ _ _ _ _ _)); (try k_sweep))
  trivial
section
variable {prog : Program} {w : World} {p : Program} {loose : List Str} {mean : ExcName → Option Value} {mg mb : Str → Option Value}
  {dp un : Nat} {gd : Option (List Code)} {cn : Str} {cs : Scope} {a : Addr} {ccd : Value} {cl : List (Str × Addr)} {outer : List Env} {A₀ : Around} {base h₀ : Heap} {L : Addr} {m : Str → Option Value} {s : Shared} {E : Value → Shared → Prop} {Q : Value → Shared → Prop}
  (B : Below A₀ base outer h₀) (F : Fr h₀ L s.heap m) (X : (KK w.params).In h₀) {V : Tab} {R : List (Addr × Obj)} (N : News h₀ L s.heap (tl w.params V ++ R)) (ap : Apart (tl w.params V ++ R)) (T : Top p loose mean mg mb h₀) (hk : cs.kind = .function)
include B F X N ap T hk
set_option maxHeartbeats 4000000
theorem free_position_C {n f : Nat} {r : Int} (hd : dp + 5 < recursionLimit) (_hu : un + 40 < cLine) (hn : V.free = (n : Int)) (hn2 : V.nds.length ≤ 1000000) (hf : FreeP V.nds n f r) (hko : KeysOk V.nds)
    (hret : ∀ h' tk' t' t'' r' fr, r' = r → fr = (f : Int) → Fr h₀ L h' m → News h₀ L h' (tl w.params { V with free := fr, tf := t'' } ++ R) → Q (.int r' t') { s with heap := h', toks := tk' }) :
    wpAny (model prog w) (ktrTop dp un gd cn cs L a ccd cl outer) (call (.ref F_Table_free_position) [.ref V.t]) Q E s := by
  refine en_Table_free_position B F X N T hk (by first | exact room0 hd | omega) ?_
  walk_at "ent"
  walk_at "go"
  refine While_inv2 (news := tl w.params V ++ R) (fun n m₁ nx => ∃ t fr, nx = tl w.params { V with free := fr, tf := t } ++ R ∧ m₁ "self" = some (.ref V.t) ∧ fr = (n : Int) ∧ FreeP V.nds n f r) (n₀ := n) (by assumption) (by assumption) ?_ ?_
  · exact ⟨V.tf, V.free, rfl, rfl, hn, hf⟩
  · rintro n m₁ nx h₁ tk₁ F₁ N₁ hJJ 
    (try k_fold)
    obtain ⟨t, fr, rfl, e1, e2, b1⟩ := hJJ
    rw [map1 e1] at F₁
    refine foldM F₁ ?_; clear F₁; intro Mx1 F₁
    cases b1 with
    | out =>
      walk_at "go"
      all_goals exact hret _ _ _ _ _ _ rfl e2 (by assumption) (by assumption)
    | hit hx hy =>
      rename_i nd
      have e9 : (fr - 1).toNat = f := by omega
      have q3 : (refsN V.nds)[(fr - 1).toNat]? = some (.ref nd.x) := by rw [e9]; exact refsN_get hx
      have q4 := lt_of_get hx
      have q5 := handed_key (hko.at hx)
      walk_at "go"
      all_goals (refine hret _ _ _ _ _ _ ?_ ?_ (by assumption) (by assumption) <;> (try dsimp only) <;> omega)
    | step hx hy hz =>
      rename_i n nd
      have e9 : (fr - 1).toNat = n := by omega
      have q3 : (refsN V.nds)[(fr - 1).toNat]? = some (.ref nd.x) := by rw [e9]; exact refsN_get hx
      have q4 := lt_of_get hx
      have q5 := handed_key (hko.at hx)
      walk_at "go"
      all_goals (refine ⟨_, _, _, _, n, rfl, by assumption, by assumption, Nat.lt_succ_self _, _, _, rfl, rfl, ?_, hz⟩; (try dsimp only); omega)
end
end Mine
end
section
open PySem PySem.W PySem.Spec PySem.Calls PyProof.Rows
namespace Mine
theorem wdC6_0 : True := by
  k_with "has" => first | assumption | exact has_tl (by assumption) | exact has_tl (has_tl (by assumption))
  trivial
section
variable {prog : Program} {w : World} {p : Program} {loose : List Str} {mean : ExcName → Option Value} {mg mb : Str → Option Value}
  {dp un : Nat} {gd : Option (List Code)} {cn : Str} {cs : Scope} {a : Addr} {ccd : Value} {cl : List (Str × Addr)} {outer : List Env} {A₀ : Around} {base h₀ : Heap} {L : Addr} {m : Str → Option Value} {news : List (Addr × Obj)} {s : Shared} {E : Value → Shared → Prop} {Q : Value → Shared → Prop}
  (B : Below A₀ base outer h₀) (F : Fr h₀ L s.heap m) (X : (KK w.params).In h₀) (N : News h₀ L s.heap news) (T : Top p loose mean mg mb h₀) (hk : cs.kind = .function)
include B F X N T hk
set_option maxHeartbeats 4000000
theorem find_node_L {V : Tab} {key : Value} {k : Ky} {r : Int} (hd : dp + 12 < recursionLimit) (hu : un + 80 < cLine) (H : Has w.params V news) (wf : Wf V) (hkey : kyOf key = some k) (hok : KyOk k) (hf : NLook V k r)
    (hret : ∀ h' tk' t', Fr h₀ L h' m → News h₀ L h' news → Q (.int r t') { s with heap := h', toks := tk' }) :
    wpAny (model prog w) (ktrTop dp un gd cn cs L a ccd cl outer) (call (.ref F_Table_find_node) [.ref V.t, key]) Q E s := by
  rcases Nat.eq_zero_or_pos V.nds.length with h | h
  · exact find_node_C (n := 0) B F X N T hk hd hu H wf.hn hkey hok wf.hko hf.1 (fun q => absurd h (by omega)) hret
  · obtain ⟨n, hn⟩ := hf.2 h
    exact find_node_C B F X N T hk hd hu H wf.hn hkey hok wf.hko hf.1 (fun _ => hn) hret
end
theorem wdC6_1 : True := by
  k_with "call ref" => (k_here; k_dflt (refine' find_node_L ?zqB ?zqF ?zqX ?zqN ?zqT ?zqhk ?zqd ?zqu ?zqe0 ?zqe1 ?zqe2 ?zqe3 ?zqe4 ?_; (case zqB => k_asm); (case zqF => k_asm); (case zqX => k_asm); (case zqN => k_asm); (case zqT => k_asm); (case zqhk => first | assumption | exact rfl); (case zqd => walk_at "dep"); (case zqu => walk_at "dep"); (case zqe0 => walk_at "has"); (case zqe1 => assumption); (case zqe2 => first | assumption | rfl); (case zqe3 => first | assumption | exact trivial); (case zqe4 => assumption); k_whole); intro _ _ _ _ _;  (try k_sweep))
  trivial
section
variable {prog : Program} {w : World} {p : Program} {loose : List Str} {mean : ExcName → Option Value} {mg mb : Str → Option Value}
  {dp un : Nat} {gd : Option (List Code)} {cn : Str} {cs : Scope} {a : Addr} {ccd : Value} {cl : List (Str × Addr)} {outer : List Env} {A₀ : Around} {base h₀ : Heap} {L : Addr} {m : Str → Option Value} {news : List (Addr × Obj)} {s : Shared} {E : Value → Shared → Prop} {Q : Value → Shared → Prop}
  (B : Below A₀ base outer h₀) (F : Fr h₀ L s.heap m) (X : (KK w.params).In h₀) (N : News h₀ L s.heap news) (T : Top p loose mean mg mb h₀) (hk : cs.kind = .function)
include B F X N T hk
set_option maxHeartbeats 4000000
theorem get_int_C {V : Tab} {i : Int} {t : Tok} {v : Value} (hd : dp + 14 < recursionLimit) (_hu : un + 100 < cLine) (H : Has w.params V news) (wf : Wf V) (hl : Look V (.i i) v)
    (hret : ∀ h' tk', Fr h₀ L h' m → News h₀ L h' news → Q v { s with heap := h', toks := tk' }) :
    wpAny (model prog w) (ktrTop dp un gd cn cs L a ccd cl outer) (call (.ref F_Table_get_int) [.ref V.t, .int i t]) Q E s := by
  obtain ⟨m1, m2, m3, m4⟩ := has_all H
  have w1 := wf.ha
  have w2 := wf.hn
  refine en_Table_get_int B F X N T hk (by first | exact room0 hd | omega) ?_
  walk_at "ent"
  cases hl with
  | arr a1 a2 a3 =>
    have q1 : i - 1 ≤ 1000000 := by omega
    have q2 : 0 ≤ i - 1 := by omega
    walk_at "go"
    all_goals exact hret _ _ (by assumption) (by assumption)
  | miss a1 a2 =>
    have q1 : ¬ (1 ≤ i ∧ i ≤ (V.arr.length : Int)) := a1
    walk_at "go"
    all_goals exact hret _ _ (by assumption) (by assumption)
  | hit a1 a2 a3 a4 =>
    rename_i r nd
    have q1 : ¬ (1 ≤ i ∧ i ≤ (V.arr.length : Int)) := a1
    have q2 := lt_of_get a4
    have q3 := refsN_get a4
    obtain ⟨q4, q5⟩ := has_nd H a4
    have q6 := wf.hvo _ (List.mem_of_getElem? a4)
    walk_at "go"
    all_goals exact hret _ _ (by assumption) (by assumption)
end
theorem wdC6_2 : True := by
  k_with "call ref" => (k_here; k_dflt (refine' get_int_C ?zqB ?zqF ?zqX ?zqN ?zqT ?zqhk ?zqd ?zqu ?zqe0 ?zqe1 ?zqe2 ?_; (case zqB => k_asm); (case zqF => k_asm); (case zqX => k_asm); (case zqN => k_asm); (case zqT => k_asm); (case zqhk => first | assumption | exact rfl); (case zqd => walk_at "dep"); (case zqu => walk_at "dep"); (case zqe0 => walk_at "has"); (case zqe1 => assumption); (case zqe2 => assumption); k_whole); intro _ _ _ _;  (try k_sweep))
  trivial
end Mine
end
section
open PySem PySem.W PySem.Spec PySem.Calls PyProof.Rows
namespace Mine
theorem wdC9_0 : True := by
  k_with "has" => first | assumption | exact has_tl (by assumption) | exact has_tl (has_tl (by assumption))
  k_with "has" => exact has_app
  k_with "gos" => repeat' ((fail_if_success (with_reducible show wpAny _ _ (exec (Stmt.While _ _ _ _) _) _ _ _)); (fail_if_success (with_reducible show wpAny _ _ (exec (Stmt.For _ _ _ _ _) _) _ _ _)); (fail_if_success (with_reducible show wpAny _ _ (setAttr (Value.ref _) _ _) _ _ _)); (fail_if_success (with_reducible show WhileStep2 _ _ _ _ _ _ Flow.next _)); (fail_if_success (with_reducible show WhileStep2 _ _ _ _ _ _ Flow.cont _)); (first | (k_unfold; (try dsimp only)) | (k_end; wrow_close) | ((first | (with_reducible show wpAny _ _ (exec _ _) _ _ _) | (with_reducible show wpAny _ _ (execs _ _) _ _ _)); k_fold; (try (refine foldS ?_; intro Sx))) | walk1 | (dsimp only; walk1) | (leave1; walk_say "STEP leave1"; try dsimp only)))
  k_with "gos2" => repeat' ((fail_if_success (with_reducible show wpAny _ _ (call (Value.ref 174) _) _ _ _)); (fail_if_success (with_reducible show wpAny _ _ (exec (Stmt.While _ _ _ _) _) _ _ _)); (fail_if_success (with_reducible show wpAny _ _ (exec (Stmt.For _ _ _ _ _) _) _ _ _)); (fail_if_success (with_reducible show wpAny _ _ (setAttr (Value.ref _) _ _) _ _ _)); (fail_if_success (with_reducible show WhileStep2 _ _ _ _ _ _ Flow.next _)); (fail_if_success (with_reducible show WhileStep2 _ _ _ _ _ _ Flow.cont _)); (first | (k_unfold; (try dsimp only)) | (k_end; wrow_close) | ((first | (with_reducible show wpAny _ _ (exec _ _) _ _ _) | (with_reducible show wpAny _ _ (execs _ _) _ _ _)); k_fold; (try (refine foldS ?_; intro Sx))) | walk1 | (dsimp only; walk1) | (leave1; walk_say "STEP leave1"; try dsimp only)))
  trivial
section
variable {prog : Program} {w : World} {p : Program} {loose : List Str} {mean : ExcName → Option Value} {mg mb : Str → Option Value}
  {dp un : Nat} {gd : Option (List Code)} {cn : Str} {cs : Scope} {a : Addr} {ccd : Value} {cl : List (Str × Addr)} {outer : List Env} {A₀ : Around} {base h₀ : Heap} {L : Addr} {m : Str → Option Value} {s : Shared} {E : Value → Shared → Prop} {Q : Value → Shared → Prop}
  (B : Below A₀ base outer h₀) (F : Fr h₀ L s.heap m) (X : (KK w.params).In h₀) {V : Tab} {R : List (Addr × Obj)} (N : News h₀ L s.heap (tl w.params V ++ R)) (ap : Apart (tl w.params V ++ R)) (T : Top p loose mean mg mb h₀) (hk : cs.kind = .function)
include B F X N ap T hk
set_option maxHeartbeats 4000000
theorem moved_to_C {i f : Nat} {nd sp : Nd} (hd : dp + 5 < recursionLimit) (_hu : un + 40 < cLine) {k1 v1 : Value} {x1 : Int} {t1 : Tok} (e1 : V.nds[i]? = some (nd.w k1 v1 x1 t1)) {k0 v0 : Value} {x0 : Int} {t0 : Tok} (e2 : V.nds[f]? = some (sp.w k0 v0 x0 t0)) (hne : f ≠ i) (hk1 : handedIn k1 = true) (hk2 : handedIn v1 = true)
    (hret : ∀ h' tk', Fr h₀ L h' m → News h₀ L h' (tl w.params (V.setNd f (sp.w k1 v1 x1 t1)) ++ R) → Apart (tl w.params (V.setNd f (sp.w k1 v1 x1 t1)) ++ R) → (V.setNd f (sp.w k1 v1 x1 t1)).nds[f]? = some (sp.w k1 v1 x1 t1) → (∀ j a, j ≠ f → V.nds[j]? = some a → (V.setNd f (sp.w k1 v1 x1 t1)).nds[j]? = some a) → Q .none { s with heap := h', toks := tk' }) :
    wpAny (model prog w) (ktrTop dp un gd cn cs L a ccd cl outer) (call (.ref F_Node_moved_to) [.ref nd.x, .ref sp.x]) Q E s := by
  refine en_Node_moved_to B F X N T hk (by first | exact room0 hd | omega) ?_
  walk_at "ent"
  have e3 : V.setNd f (sp.w k1 v1 x1 t1) = ((V.setNd f (sp.w k1 v0 x0 t0)).setNd f (sp.w k1 v1 x0 t0)).setNd f (sp.w k1 v1 x1 t1) := by rw [setNd_two, setNd_two]
  have hret := fun h' tk' F' N' ap' => hret h' tk' F' N' ap' (setNd_self e2) (fun j a hj ha => setNd_ne ha hj)
  rw [e3] at hret
  obtain ⟨q1, q2⟩ := nd_mem (P := w.params) R e1
  walk_at "gos"
  refine set_key (i := f) (nd := sp) (by k_asm) (by k_asm) (by k_asm) ap e2 rfl ?_
  intro h1 F1 N1 ap1 f1 o1
  have f0 := o1 _ _ hne.symm e1
  obtain ⟨q3, q4⟩ := nd_mem (P := w.params) R f0
  walk_at "gos"
  refine set_value (i := f) (nd := sp) (by k_asm) (by k_asm) (by k_asm) ap1 f1 rfl ?_
  intro h2 F2 N2 ap2 f2 o2
  have f3 := o2 _ _ hne.symm f0
  obtain ⟨q5, q6⟩ := nd_mem (P := w.params) R f3
  walk_at "gos"
  refine set_next (i := f) (nd := sp) (by k_asm) (by k_asm) (by k_asm) ap2 f2 rfl ?_
  intro h3 F3 N3 ap3 f4 o3
  walk_at "gos"
  all_goals exact hret _ _ (by assumption) (by assumption) ap3
end
section
variable {prog : Program} {w : World} {p : Program} {loose : List Str} {mean : ExcName → Option Value} {mg mb : Str → Option Value}
  {dp un : Nat} {gd : Option (List Code)} {cn : Str} {cs : Scope} {a : Addr} {ccd : Value} {cl : List (Str × Addr)} {outer : List Env} {A₀ : Around} {base h₀ : Heap} {L : Addr} {m : Str → Option Value} {news : List (Addr × Obj)} {s : Shared} {E : Value → Shared → Prop} {Q : Value → Shared → Prop}
  (B : Below A₀ base outer h₀) (F : Fr h₀ L s.heap m) (X : (KK w.params).In h₀) (N : News h₀ L s.heap news) (T : Top p loose mean mg mb h₀) (hk : cs.kind = .function)
include B F X N T hk
set_option maxHeartbeats 4000000
theorem barrier_table_C {v0 v1 v2 : Value} (hd : dp + 3 < recursionLimit) (_hu : un + 20 < cLine)
    (hret : ∀ h' tk', Fr h₀ L h' m → News h₀ L h' news → Q .none { s with heap := h', toks := tk' }) :
    wpAny (model prog w) (ktrTop dp un gd cn cs L a ccd cl outer) (call (.ref F_PlainHeap_barrier_table) [v0, v1, v2]) Q E s := by
  refine en_PlainHeap_barrier_table B F X N T hk (by first | exact room0 hd | omega) ?_
  walk_at "ent"
  k_steps
  all_goals exact hret _ _ (by assumption) (by assumption)
theorem main_position_N {V : Tab} {key : Value} {k : Ky} {i : Nat} (hd : dp + 8 < recursionLimit) (hu : un + 60 < cLine) {x : Addr} (H : Has w.params V news) (hn : 0 < V.nds.length) (hn2 : V.nds.length ≤ 1000000) (hkey : kyOf key = some k) (hok : KyOk k) (e : MP V.nds.length k = (i : Int)) (hx : x = V.t)
    (hret : ∀ h' tk' t', Fr h₀ L h' m → News h₀ L h' news → Q (.int (i : Int) t') { s with heap := h', toks := tk' }) :
    wpAny (model prog w) (ktrTop dp un gd cn cs L a ccd cl outer) (call (.ref F_Table_main_position) [.ref x, key]) Q E s := by
  subst hx
  rw [← e] at hret
  exact main_position_C B F X N T hk hd hu H hn hn2 hkey hok hret
end
theorem wdC9_1 : True := by
  k_with "has" => first | assumption | exact has_tl (by assumption) | exact has_tl (has_tl (by assumption))
  k_with "has" => exact has_app
  k_with "call ref" => (k_here; k_dflt (refine' main_position_N ?zqB ?zqF ?zqX ?zqN ?zqT ?zqhk ?zqd ?zqu ?zqe0 ?zqe1 ?zqe2 ?zqe3 ?zqe4 ?zqe5 ?zqe6 ?_; (case zqB => k_asm); (case zqF => k_asm); (case zqX => k_asm); (case zqN => k_asm); (case zqT => k_asm); (case zqhk => first | assumption | exact rfl); (case zqd => walk_at "dep"); (case zqu => walk_at "dep"); (case zqe0 => walk_at "has"); (case zqe1 => first | assumption | omega); (case zqe2 => first | assumption | omega); (case zqe3 => first | assumption | rfl); (case zqe4 => first | assumption | exact trivial); (case zqe5 => assumption); (case zqe6 => exact rfl); k_whole); intro _ _ _ _ _;  (try k_sweep))
  k_with "call ref" => (k_here; k_dflt (refine' barrier_table_C ?zqB ?zqF ?zqX ?zqN ?zqT ?zqhk ?zqd ?zqu  ?_; (case zqB => k_asm); (case zqF => k_asm); (case zqX => k_asm); (case zqN => k_asm); (case zqT => k_asm); (case zqhk => first | assumption | exact rfl); (case zqd => walk_at "dep"); (case zqu => walk_at "dep");  k_whole); intro _ _ _ _;  (try k_sweep))
  k_with "k_mem" => first | exact List.mem_append_left _ mem_t | exact List.mem_append_left _ mem_td | exact List.mem_append_left _ mem_la | exact List.mem_append_left _ mem_ln | exact List.mem_append_left _ (mem_nx (by assumption)) | exact List.mem_append_left _ (mem_nd (by assumption)) | exact List.mem_append_right _ (by assumption)
  k_with "apart" => first | assumption | exact apart_same (by assumption) rfl
  k_with "setAttr ref" => (k_here; k_dflt (first | (refine' set_free ?zqF ?zqX ?zqN ?zqap ?zqhx ?_; (case zqF => k_asm); (case zqX => k_asm); (case zqN => k_asm); (case zqap => walk_at "apart"); (case zqhx => exact rfl); k_whole; intro _ _ _ _) | (refine' set_flags ?zqF ?zqX ?zqN ?zqap ?zqhx ?_; (case zqF => k_asm); (case zqX => k_asm); (case zqN => k_asm); (case zqap => walk_at "apart"); (case zqhx => exact rfl); k_whole; intro _ _ _ _) | (refine' set_log_nodes ?zqF ?zqX ?zqN ?zqap ?zqhx ?_; (case zqF => k_asm); (case zqX => k_asm); (case zqN => k_asm); (case zqap => walk_at "apart"); (case zqhx => exact rfl); k_whole; intro _ _ _ _) | (refine' set_size ?zqF ?zqX ?zqN ?zqap ?zqhx ?_; (case zqF => k_asm); (case zqX => k_asm); (case zqN => k_asm); (case zqap => walk_at "apart"); (case zqhx => exact rfl); k_whole; intro _ _ _ _) | (refine' set_number ?zqF ?zqX ?zqN ?zqap ?zqhx ?_; (case zqF => k_asm); (case zqX => k_asm); (case zqN => k_asm); (case zqap => walk_at "apart"); (case zqhx => exact rfl); k_whole; intro _ _ _ _) | (refine' set_key ?zqF ?zqX ?zqN ?zqap ?zqe ?zqhx ?_; (case zqF => k_asm); (case zqX => k_asm); (case zqN => k_asm); (case zqap => walk_at "apart"); (case zqhx => exact rfl); (case zqe => assumption); k_whole; intro _ _ _ _ _ _) | (refine' set_value ?zqF ?zqX ?zqN ?zqap ?zqe ?zqhx ?_; (case zqF => k_asm); (case zqX => k_asm); (case zqN => k_asm); (case zqap => walk_at "apart"); (case zqhx => exact rfl); (case zqe => assumption); k_whole; intro _ _ _ _ _ _) | (refine' set_next ?zqF ?zqX ?zqN ?zqap ?zqe ?zqhx ?_; (case zqF => k_asm); (case zqX => k_asm); (case zqN => k_asm); (case zqap => walk_at "apart"); (case zqhx => exact rfl); (case zqe => assumption); k_whole; intro _ _ _ _ _ _)); (try k_sweep))
  trivial
section
variable {prog : Program} {w : World} {p : Program} {loose : List Str} {mean : ExcName → Option Value} {mg mb : Str → Option Value}
  {dp un : Nat} {gd : Option (List Code)} {cn : Str} {cs : Scope} {a : Addr} {ccd : Value} {cl : List (Str × Addr)} {outer : List Env} {A₀ : Around} {base h₀ : Heap} {L : Addr} {m : Str → Option Value} {s : Shared} {E : Value → Shared → Prop} {Q : Value → Shared → Prop}
  (B : Below A₀ base outer h₀) (F : Fr h₀ L s.heap m) (X : (KK w.params).In h₀) {V : Tab} {R : List (Addr × Obj)} (N : News h₀ L s.heap (tl w.params V ++ R)) (ap : Apart (tl w.params V ++ R)) (T : Top p loose mean mg mb h₀) (hk : cs.kind = .function)
include B F X N ap T hk
set_option maxHeartbeats 4000000
theorem new_key_free {key v : Value} {k : Ky} {hp : Addr} {i : Nat} {nd : Nd} (hd : dp + 20 < recursionLimit) (_hu : un + 160 < cLine) (wf : Wf V) (hh : HeapIn w.params hp R) (hkey : kyOf key = some k) (hok : KyOk k)
    (a1 : MP V.nds.length k = (i : Int)) (a2 : V.nds[i]? = some nd) (a3 : nd.val = .none)
    (hret : ∀ h' tk', Fr h₀ L h' m → News h₀ L h' (tl w.params ((V.setNd i (nd.w key nd.val nd.nxt nd.tn)).setNd i (nd.w key v nd.nxt nd.tn)) ++ R) → Apart (tl w.params ((V.setNd i (nd.w key nd.val nd.nxt nd.tn)).setNd i (nd.w key v nd.nxt nd.tn)) ++ R) → Q .none { s with heap := h', toks := tk' }) :
    wpAny (model prog w) (ktrTop dp un gd cn cs L a ccd cl outer) (call (.ref F_Table_new_key) [.ref V.t, key, v, .ref hp]) Q E s := by
  obtain ⟨hq, k0, k1, v0, v1, hh1, hh2⟩ := hh
  have w2 := wf.hn
  have b1 := lt_of_get a2
  have a2' : V.nds[i]? = some (nd.w nd.key nd.val nd.nxt nd.tn) := a2
  have b2 : (refsN V.nds)[((i : Nat) : Int).toNat]? = some (.ref nd.x) := refsN_get a2
  have b3 := wf.hvo _ (List.mem_of_getElem? a2)
  have b4 : 0 < V.nds.length := by omega
  refine en_Table_new_key B F X N T hk (by first | exact room0 hd | omega) ?_
  walk_at "ent"
  walk_at "gos"
  refine set_key (i := i) (nd := nd) (by k_asm) (by k_asm) (by k_asm) ap a2' rfl ?_
  intro h1 F1 N1 ap1 f1 o1
  walk_at "gos"
  refine set_value (i := i) (nd := nd) (by k_asm) (by k_asm) (by k_asm) ap1 f1 rfl ?_
  intro h2 F2 N2 ap2 f2 o2
  walk_at "gos"
  all_goals exact hret _ _ (by assumption) (by assumption) ap2
end
section
variable {prog : Program} {w : World} {p : Program} {loose : List Str} {mean : ExcName → Option Value} {mg mb : Str → Option Value}
  {dp un : Nat} {gd : Option (List Code)} {cn : Str} {cs : Scope} {a : Addr} {ccd : Value} {cl : List (Str × Addr)} {outer : List Env} {A₀ : Around} {base h₀ : Heap} {L : Addr} {m : Str → Option Value} {s : Shared} {E : Value → Shared → Prop} {Q : Value → Shared → Prop}
  (B : Below A₀ base outer h₀) (F : Fr h₀ L s.heap m) (X : (KK w.params).In h₀) {V : Tab} {R : List (Addr × Obj)} (N : News h₀ L s.heap (tl w.params V ++ R)) (ap : Apart (tl w.params V ++ R)) (T : Top p loose mean mg mb h₀) (hk : cs.kind = .function)
include B F X N ap T hk
set_option maxHeartbeats 4000000
theorem free_position_N {n f : Nat} (hd : dp + 5 < recursionLimit) (hu : un + 40 < cLine) (hn : V.free = (n : Int)) (hn2 : V.nds.length ≤ 1000000) (hf : FreeP V.nds n f (f : Int)) (hko : KeysOk V.nds) {x : Addr} (hx : x = V.t)
    (hret : ∀ h' tk' t' t'', Fr h₀ L h' m → News h₀ L h' (tl w.params (V.wFree (f : Int) t'') ++ R) → Apart (tl w.params (V.wFree (f : Int) t'') ++ R) → Q (.int (f : Int) t') { s with heap := h', toks := tk' }) :
    wpAny (model prog w) (ktrTop dp un gd cn cs L a ccd cl outer) (call (.ref F_Table_free_position) [.ref x]) Q E s := hx ▸
  free_position_C B F X N ap T hk hd hu hn hn2 hf hko (fun h' tk' t' t'' r' fr e1 e2 F' N' => by subst e1; subst e2; exact hret _ _ _ _ F' N' (apart_same ap rfl))
end
theorem wdC9_2 : True := by
  k_with "call ref" => (k_here; k_dflt (refine' free_position_N ?zqB ?zqF ?zqX ?zqN ?zqe0 ?zqT ?zqhk ?zqd ?zqu ?zqe1 ?zqe2 ?zqe3 ?zqe4 ?zqe5 ?_; (case zqB => k_asm); (case zqF => k_asm); (case zqX => k_asm); (case zqN => k_asm); (case zqT => k_asm); (case zqhk => first | assumption | exact rfl); (case zqd => walk_at "dep"); (case zqu => walk_at "dep"); (case zqe0 => walk_at "apart"); (case zqe1 => assumption); (case zqe2 => assumption); (case zqe3 => assumption); (case zqe4 => assumption); (case zqe5 => exact rfl); k_whole); intro _ _ _ _ _ _ _;  (try k_sweep))
  trivial
section
variable {prog : Program} {w : World} {p : Program} {loose : List Str} {mean : ExcName → Option Value} {mg mb : Str → Option Value}
  {dp un : Nat} {gd : Option (List Code)} {cn : Str} {cs : Scope} {a : Addr} {ccd : Value} {cl : List (Str × Addr)} {outer : List Env} {A₀ : Around} {base h₀ : Heap} {L : Addr} {m : Str → Option Value} {s : Shared} {E : Value → Shared → Prop} {Q : Value → Shared → Prop}
  (B : Below A₀ base outer h₀) (F : Fr h₀ L s.heap m) (X : (KK w.params).In h₀) {V : Tab} {R : List (Addr × Obj)} (N : News h₀ L s.heap (tl w.params V ++ R)) (ap : Apart (tl w.params V ++ R)) (T : Top p loose mean mg mb h₀) (hk : cs.kind = .function)
include B F X N ap T hk
set_option maxHeartbeats 4000000
theorem new_key_same {key v : Value} {k k' : Ky} {hp : Addr} {i f n : Nat} {nd sp : Nd} (hd : dp + 20 < recursionLimit) (_hu : un + 160 < cLine) (wf : Wf V) (hh : HeapIn w.params hp R) (hkey : kyOf key = some k) (hok : KyOk k)
    (a1 : MP V.nds.length k = (i : Int)) (a2 : V.nds[i]? = some nd) (a3 : nd.val ≠ .none) (a4 : V.free = (n : Int)) (a5 : FreeP V.nds n f (f : Int)) (a6 : V.nds[f]? = some sp) (a7 : f ≠ i) (a8 : kyOf nd.key = some k') (a9 : KyOk k') (a10 : MP V.nds.length k' = (i : Int))
    (hret : ∀ h' tk' V', InsR V k key v V' → Fr h₀ L h' m → News h₀ L h' (tl w.params V' ++ R) → Apart (tl w.params V' ++ R) → Q .none { s with heap := h', toks := tk' }) :
    wpAny (model prog w) (ktrTop dp un gd cn cs L a ccd cl outer) (call (.ref F_Table_new_key) [.ref V.t, key, v, .ref hp]) Q E s := by
  obtain ⟨hq, k0, k1, v0, v1, hh1, hh2⟩ := hh
  have w2 := wf.hn
  have w3 := wf.hko
  have b1 := lt_of_get a2
  have a2' : V.nds[i]? = some (nd.w nd.key nd.val nd.nxt nd.tn) := a2
  have b2 : (refsN V.nds)[((i : Nat) : Int).toNat]? = some (.ref nd.x) := refsN_get a2
  have b3 := wf.hvo _ (List.mem_of_getElem? a2)
  have b4 : 0 < V.nds.length := by omega
  have b5 := handed_key (wf.hko.at a2)
  have b6 : (refsN V.nds)[((f : Nat) : Int).toNat]? = some (.ref sp.x) := refsN_get a6
  have b7 := lt_of_get a6
  have a6' : V.nds[f]? = some (sp.w sp.key sp.val sp.nxt sp.tn) := a6
  refine en_Table_new_key B F X N T hk (by first | exact room0 hd | omega) ?_
  walk_at "ent"
  walk_at "gos"
  refine set_next (i := f) (nd := sp) (by k_asm) (by k_asm) (by k_asm) (by walk_at "apart") (by exact a6') rfl ?_
  intro h1 F1 N1 ap1 f2 o1
  have f1 := o1 _ _ a7.symm a2'
  walk_at "gos"
  refine set_next (i := i) (nd := nd) (by k_asm) (by k_asm) (by k_asm) ap1 (by exact f1) rfl ?_
  intro h2 F2 N2 ap2 f3 o2
  have f4 := o2 _ _ a7 f2
  walk_at "gos"
  refine set_key (i := f) (nd := sp) (by k_asm) (by k_asm) (by k_asm) ap2 (by exact f4) rfl ?_
  intro h3 F3 N3 ap3 f5 o3
  walk_at "gos"
  refine set_value (i := f) (nd := sp) (by k_asm) (by k_asm) (by k_asm) ap3 (by exact f5) rfl ?_
  intro h4 F4 N4 ap4 f6 o4
  walk_at "gos"
  all_goals exact hret _ _ _ (InsR.same a1 a2 a3 a4 a5 a6 a7 a8 a9 a10) (by assumption) (by assumption) ap4
end
end Mine
end
section
open PySem PySem.W PySem.Spec PySem.Calls PyProof.Rows
namespace Mine
inductive NkJ (w : World) (V : Tab) (R : List (Addr × Obj)) (f i p0 : Nat) (nd : Nd) (hp : Addr) (v key : Value) (n : Nat) (m₁ : Str → Option Value) (nx : List (Addr × Obj)) : Prop
  | mk (tx : _) (oo : _) (t1 : _) (t2 : _) (t3 : _) (zq0 : nx = tl w.params (V.wFree (f : Int) tx) ++ R) (zq1 : m₁ "other" = some (.int oo t1)) (zq2 : m₁ "spot" = some (.int (f : Int) t2)) (zq3 : m₁ "place" = some (.ref nd.x)) (zq4 : m₁ "main" = some (.int (i : Int) t3)) (zq5 : m₁ "heap" = some (.ref hp)) (zq6 : m₁ "value" = some v) (zq7 : m₁ "key" = some key) (zq8 : m₁ "self" = some (.ref V.t)) (zq9 : Prv V.nds (i : Int) n oo p0) : NkJ w V R f i p0 nd hp v key n m₁ nx
section
variable {prog : Program} {w : World} {p : Program} {loose : List Str} {mean : ExcName → Option Value} {mg mb : Str → Option Value}
  {dp un : Nat} {gd : Option (List Code)} {cn : Str} {cs : Scope} {a : Addr} {ccd : Value} {cl : List (Str × Addr)} {outer : List Env} {A₀ : Around} {base h₀ : Heap} {L : Addr} {m : Str → Option Value} {s : Shared} {E : Value → Shared → Prop} {Q : Value → Shared → Prop}
  (B : Below A₀ base outer h₀) (F : Fr h₀ L s.heap m) (X : (KK w.params).In h₀) {V : Tab} {R : List (Addr × Obj)} (N : News h₀ L s.heap (tl w.params V ++ R)) (ap : Apart (tl w.params V ++ R)) (T : Top p loose mean mg mb h₀) (hk : cs.kind = .function)
include B F X N ap T hk
set_option maxHeartbeats 4000000
theorem new_key_moved {key v : Value} {k k' : Ky} {hp : Addr} {i f n p0 q o : Nat} {nd sp pn : Nd} (hd : dp + 20 < recursionLimit) (_hu : un + 160 < cLine) (wf : Wf V) (hh : HeapIn w.params hp R) (hkey : kyOf key = some k) (hok : KyOk k)
    (a1 : MP V.nds.length k = (i : Int)) (a2 : V.nds[i]? = some nd) (a3 : nd.val ≠ .none) (a4 : V.free = (n : Int)) (a5 : FreeP V.nds n f (f : Int)) (a6 : V.nds[f]? = some sp) (a7 : f ≠ i) (a8 : kyOf nd.key = some k') (a9 : KyOk k') (a10 : MP V.nds.length k' = (o : Int))
    (a11 : o ≠ i) (a12 : Prv V.nds (i : Int) q (o : Int) p0) (a13 : V.nds[p0]? = some pn) (a14 : p0 ≠ f) (a15 : p0 ≠ i)
    (hret : ∀ h' tk' V', InsR V k key v V' → Fr h₀ L h' m → News h₀ L h' (tl w.params V' ++ R) → Apart (tl w.params V' ++ R) → Q .none { s with heap := h', toks := tk' }) :
    wpAny (model prog w) (ktrTop dp un gd cn cs L a ccd cl outer) (call (.ref F_Table_new_key) [.ref V.t, key, v, .ref hp]) Q E s := by
  obtain ⟨hq, k0, k1, v0, v1, hh1, hh2⟩ := hh
  have w2 := wf.hn
  have w3 := wf.hko
  have b1 := lt_of_get a2
  have b2 : (refsN V.nds)[((i : Nat) : Int).toNat]? = some (.ref nd.x) := refsN_get a2
  have b3 := wf.hvo _ (List.mem_of_getElem? a2)
  have b4 : 0 < V.nds.length := by omega
  have b5 := handed_key (wf.hko.at a2)
  have b6 : (refsN V.nds)[((f : Nat) : Int).toNat]? = some (.ref sp.x) := refsN_get a6
  have b7 := lt_of_get a6
  have a2' : V.nds[i]? = some (nd.w nd.key nd.val nd.nxt nd.tn) := a2
  have a6' : V.nds[f]? = some (sp.w sp.key sp.val sp.nxt sp.tn) := a6
  have a13' : V.nds[p0]? = some (pn.w pn.key pn.val pn.nxt pn.tn) := a13
  refine en_Table_new_key B F X N T hk (by first | exact room0 hd | omega) ?_
  walk_at "ent"
  walk_at "gos"
  refine While_inv2 (NkJ w V R f i p0 nd hp v key) (n₀ := q) (by assumption) (by assumption) ?_ ?_
  · exact ⟨_, _, _, _, _, rfl, rfl, rfl, rfl, rfl, rfl, rfl, rfl, rfl, a12⟩
  · rintro n2 m₁ nx h₁ tk₁ F₁ N₁ hJJ 
    (try k_fold)
    obtain ⟨tx, oo, t1, t2, t3, rfl, e1, e2, e3, e4, e5, e6, e7, e8, c1⟩ := hJJ
    have ap0 : Apart (tl w.params (V.wFree (f : Int) tx) ++ R) := apart_same ap rfl
    rw [map8 e1 e2 e3 e4 e5 e6 e7 e8] at F₁
    refine foldM F₁ ?_; clear F₁; intro Mx1 F₁
    cases c1 with
    | here hx hy =>
      rename_i pn'
      obtain rfl : pn = pn' := Option.some.inj (a13.symm.trans hx)
      have c2 : (refsN V.nds)[((p0 : Nat) : Int).toNat]? = some (.ref pn.x) := refsN_get a13
      have c3 := lt_of_get a13
      walk_at "gos2"
      refine set_next (i := p0) (nd := pn) (by k_asm) (by k_asm) (by k_asm) ap0 (by exact a13') rfl ?_
      intro h1 F1 N1 ap1 f1 o1
      have g1 := o1 _ _ a15.symm a2'
      have g2 := o1 _ _ a14.symm a6'
      walk_at "gos2"
      refine moved_to_C (i := i) (f := f) (nd := nd) (sp := sp) (by k_asm) (by k_asm) (by k_asm) (by k_asm) ap1 (by k_asm) rfl (by walk_at "dep") (by walk_at "dep") (by exact g1) (by exact g2) a7 b5 b3 ?_
      intro h2 tk2 F2 N2 ap2 f2 o2
      have g3 := o2 _ _ a7.symm g1
      walk_at "gos2"
      refine set_next (i := i) (nd := nd) (by k_asm) (by k_asm) (by k_asm) ap2 (by exact g3) rfl ?_
      intro h3 F3 N3 ap3 f3 o3
      walk_at "gos2"
      refine set_value (i := i) (nd := nd) (by k_asm) (by k_asm) (by k_asm) ap3 (by exact f3) rfl ?_
      intro h4 F4 N4 ap4 f4 o4
      walk_at "gos2"
      refine set_key (i := i) (nd := nd) (by k_asm) (by k_asm) (by k_asm) ap4 (by exact f4) rfl ?_
      intro h5 F5 N5 ap5 f5 o5
      walk_at "gos2"
      refine set_value (i := i) (nd := nd) (by k_asm) (by k_asm) (by k_asm) ap5 (by exact f5) rfl ?_
      intro h6 F6 N6 ap6 f6 o6
      walk_at "gos2"
      all_goals exact hret _ _ _ (InsR.moved a1 a2 a3 a4 a5 a6 a7 a8 a9 a10 a11 a12 a13 a14 a15) (by assumption) (by assumption) ap6
    | step hx hy hz =>
      rename_i n3 o2 nd2
      have c2 : (refsN V.nds)[((o2 : Nat) : Int).toNat]? = some (.ref nd2.x) := refsN_get hx
      have c3 := lt_of_get hx
      walk_at "gos2"
      all_goals exact ⟨_, _, _, _, n3, rfl, by assumption, by assumption, Nat.lt_succ_self _, _, _, _, _, _, rfl, rfl, rfl, rfl, rfl, rfl, rfl, rfl, rfl, hz⟩
end
end Mine
end
section
open PySem PySem.W PySem.Spec PySem.Calls PyProof.Rows
namespace Mine
theorem wdC11_1 : True := by
  k_with "call ref" => (k_here; k_dflt (refine' array_index_int ?zqB ?zqF ?zqX ?zqN ?zqT ?zqhk ?zqd ?zqu  ?_; (case zqB => k_asm); (case zqF => k_asm); (case zqX => k_asm); (case zqN => k_asm); (case zqT => k_asm); (case zqhk => first | assumption | exact rfl); (case zqd => walk_at "dep"); (case zqu => walk_at "dep");  k_whole); intro _ _ _ _;  (try k_sweep))
  k_with "call ref" => (k_here; k_dflt (refine' array_index_bytes ?zqB ?zqF ?zqX ?zqN ?zqT ?zqhk ?zqd ?zqu  ?_; (case zqB => k_asm); (case zqF => k_asm); (case zqX => k_asm); (case zqN => k_asm); (case zqT => k_asm); (case zqhk => first | assumption | exact rfl); (case zqd => walk_at "dep"); (case zqu => walk_at "dep");  k_whole); intro _ _ _ _ _;  (try k_sweep))
  trivial
section
variable {prog : Program} {w : World} {p : Program} {loose : List Str} {mean : ExcName → Option Value} {mg mb : Str → Option Value}
  {dp un : Nat} {gd : Option (List Code)} {cn : Str} {cs : Scope} {a : Addr} {ccd : Value} {cl : List (Str × Addr)} {outer : List Env} {A₀ : Around} {base h₀ : Heap} {L : Addr} {m : Str → Option Value} {s : Shared} {E : Value → Shared → Prop} {Q : Value → Shared → Prop}
  (B : Below A₀ base outer h₀) (F : Fr h₀ L s.heap m) (X : (KK w.params).In h₀) {V : Tab} {R : List (Addr × Obj)} (N : News h₀ L s.heap (tl w.params V ++ R)) (ap : Apart (tl w.params V ++ R)) (T : Top p loose mean mg mb h₀) (hk : cs.kind = .function)
include B F X N ap T hk
set_option maxHeartbeats 4000000
theorem new_key_I {key v : Value} {k : Ky} {hp : Addr} (hd : dp + 20 < recursionLimit) (hu : un + 160 < cLine) (wf : Wf V) (hh : HeapIn w.params hp R) (hkey : kyOf key = some k) (hok : KyOk k) (hi : InsPre V k) {x : Addr} (hx : x = V.t)
    (hret : ∀ h' tk' V', InsR V k key v V' → Fr h₀ L h' m → News h₀ L h' (tl w.params V' ++ R) → Apart (tl w.params V' ++ R) → Q .none { s with heap := h', toks := tk' }) :
    wpAny (model prog w) (ktrTop dp un gd cn cs L a ccd cl outer) (call (.ref F_Table_new_key) [.ref x, key, v, .ref hp]) Q E s := by
  subst hx
  cases hi with
  | free a1 a2 a3 => exact new_key_free B F X N ap T hk hd hu wf hh hkey hok a1 a2 a3 (fun h' tk' F' N' ap' => hret h' tk' _ (.free a1 a2 a3) F' N' ap')
  | same a1 a2 a3 a4 a5 a6 a7 a8 a9 a10 => exact new_key_same B F X N ap T hk hd hu wf hh hkey hok a1 a2 a3 a4 a5 a6 a7 a8 a9 a10 hret
  | moved a1 a2 a3 a4 a5 a6 a7 a8 a9 a10 a11 a12 a13 a14 a15 => exact new_key_moved B F X N ap T hk hd hu wf hh hkey hok a1 a2 a3 a4 a5 a6 a7 a8 a9 a10 a11 a12 a13 a14 a15 hret
end
theorem wdC11_2 : True := by
  k_with "k_upd" => exact upd_la (by walk_at "apart")
  k_with "call ref" => (k_here; k_dflt (refine' new_key_I ?zqB ?zqF ?zqX ?zqN ?zqe0 ?zqT ?zqhk ?zqd ?zqu ?zqe1 ?zqe2 ?zqe3 ?zqe4 ?zqe5 ?zqe6 ?_; (case zqB => k_asm); (case zqF => k_asm); (case zqX => k_asm); (case zqN => k_asm); (case zqT => k_asm); (case zqhk => first | assumption | exact rfl); (case zqd => walk_at "dep"); (case zqu => walk_at "dep"); (case zqe0 => walk_at "apart"); (case zqe1 => assumption); (case zqe2 => assumption); (case zqe3 => first | assumption | rfl); (case zqe4 => first | assumption | exact trivial); (case zqe5 => assumption); (case zqe6 => exact rfl); k_whole); intro _ _ _ _ _ _ _;  (try k_sweep))
  trivial
section
variable {prog : Program} {w : World} {p : Program} {loose : List Str} {mean : ExcName → Option Value} {mg mb : Str → Option Value}
  {dp un : Nat} {gd : Option (List Code)} {cn : Str} {cs : Scope} {a : Addr} {ccd : Value} {cl : List (Str × Addr)} {outer : List Env} {A₀ : Around} {base h₀ : Heap} {L : Addr} {m : Str → Option Value} {s : Shared} {E : Value → Shared → Prop} {Q : Value → Shared → Prop}
  (B : Below A₀ base outer h₀) (F : Fr h₀ L s.heap m) (X : (KK w.params).In h₀) {V : Tab} {R : List (Addr × Obj)} (N : News h₀ L s.heap (tl w.params V ++ R)) (ap : Apart (tl w.params V ++ R)) (T : Top p loose mean mg mb h₀) (hk : cs.kind = .function)
include B F X N ap T hk
set_option maxHeartbeats 4000000
theorem put_back_arr {i : Int} {t : Tok} {v hv : Value} (hd : dp + 22 < recursionLimit) (_hu : un + 180 < cLine) (wf : Wf V) (a1 : 1 ≤ i) (a2 : i ≤ (V.arr.length : Int))
    (hret : ∀ h' tk', Fr h₀ L h' m → News h₀ L h' (tl w.params (V.setArr (i - 1).toNat v) ++ R) → Apart (tl w.params (V.setArr (i - 1).toNat v) ++ R) → Q .none { s with heap := h', toks := tk' }) :
    wpAny (model prog w) (ktrTop dp un gd cn cs L a ccd cl outer) (call (.ref F_Table_put_back) [.ref V.t, .int i t, v, hv]) Q E s := by
  have w1 := wf.ha
  have q1 : i - 1 ≤ 1000000 := by omega
  have q2 : 0 ≤ i - 1 := by omega
  have q3 : i - 1 < (V.arr.length : Int) := by omega
  refine en_Table_put_back B F X N T hk (by first | exact room0 hd | omega) ?_
  walk_at "ent"
  walk_at "go"
  all_goals exact hret _ _ (by assumption) (by assumption) (apart_arr ap)
theorem put_back_int {i : Int} {t : Tok} {v : Value} {hp : Addr} (hd : dp + 22 < recursionLimit) (_hu : un + 180 < cLine) (wf : Wf V) (hh : HeapIn w.params hp R) (a1 : ¬ InArr V (.i i)) (a2 : InsPre V (.i i))
    (hret : ∀ h' tk' V', InsR V (.i i) (.int i t) v V' → Fr h₀ L h' m → News h₀ L h' (tl w.params V' ++ R) → Apart (tl w.params V' ++ R) → Q .none { s with heap := h', toks := tk' }) :
    wpAny (model prog w) (ktrTop dp un gd cn cs L a ccd cl outer) (call (.ref F_Table_put_back) [.ref V.t, .int i t, v, .ref hp]) Q E s := by
  have w1 := wf.ha
  have q1 : ¬ (1 ≤ i ∧ i ≤ (V.arr.length : Int)) := a1
  refine en_Table_put_back B F X N T hk (by first | exact room0 hd | omega) ?_
  walk_at "ent"
  walk_at "go"
  all_goals exact hret _ _ _ (by assumption) (by assumption) (by assumption) (by assumption)
theorem put_back_bytes {x : Array UInt8} {t : Tok} {v : Value} {hp : Addr} (hd : dp + 22 < recursionLimit) (_hu : un + 180 < cLine) (wf : Wf V) (hh : HeapIn w.params hp R) (hok : KyOk (.b x)) (a2 : InsPre V (.b x))
    (hret : ∀ h' tk' V', InsR V (.b x) (.bytes x t) v V' → Fr h₀ L h' m → News h₀ L h' (tl w.params V' ++ R) → Apart (tl w.params V' ++ R) → Q .none { s with heap := h', toks := tk' }) :
    wpAny (model prog w) (ktrTop dp un gd cn cs L a ccd cl outer) (call (.ref F_Table_put_back) [.ref V.t, .bytes x t, v, .ref hp]) Q E s := by
  refine en_Table_put_back B F X N T hk (by first | exact room0 hd | omega) ?_
  walk_at "ent"
  walk_at "go"
  all_goals exact hret _ _ _ (by assumption) (by assumption) (by assumption) (by assumption)
theorem put_back_C {key v : Value} {k : Ky} {hp : Addr} (hd : dp + 22 < recursionLimit) (hu : un + 180 < cLine) (wf : Wf V) (hh : HeapIn w.params hp R) (hkey : kyOf key = some k) (hok : KyOk k) (hi : InArr V k ∨ InsPre V k) {x : Addr} (hx : x = V.t)
    (hret : ∀ h' tk' V', PutR V k key v V' → Fr h₀ L h' m → News h₀ L h' (tl w.params V' ++ R) → Apart (tl w.params V' ++ R) → Q .none { s with heap := h', toks := tk' }) :
    wpAny (model prog w) (ktrTop dp un gd cn cs L a ccd cl outer) (call (.ref F_Table_put_back) [.ref x, key, v, .ref hp]) Q E s := by
  subst hx
  rcases ky_cases (v := key) (by rw [hkey]; rfl) with ⟨i, t, rfl⟩ | ⟨x, t, rfl⟩
  · cases hkey
    by_cases ha : InArr V (.i i)
    · exact put_back_arr B F X N ap T hk hd hu wf ha.1 ha.2 (fun h' tk' F' N' ap' => hret h' tk' _ (.arr rfl ha.1 ha.2) F' N' ap')
    · exact put_back_int B F X N ap T hk hd hu wf hh ha (hi.resolve_left ha) (fun h' tk' V' hV F' N' ap' => hret h' tk' V' (.node ha hV) F' N' ap')
  · cases hkey
    exact put_back_bytes B F X N ap T hk hd hu wf hh hok (hi.resolve_left (fun h => h)) (fun h' tk' V' hV F' N' ap' => hret h' tk' V' (.node (fun h => h) hV) F' N' ap')
end
section
variable {prog : Program} {w : World} {p : Program} {loose : List Str} {mean : ExcName → Option Value} {mg mb : Str → Option Value}
  {dp un : Nat} {gd : Option (List Code)} {cn : Str} {cs : Scope} {a : Addr} {ccd : Value} {cl : List (Str × Addr)} {outer : List Env} {A₀ : Around} {base h₀ : Heap} {L : Addr} {m : Str → Option Value} {s : Shared} {E : Value → Shared → Prop} {Q : Value → Shared → Prop}
  (B : Below A₀ base outer h₀) (F : Fr h₀ L s.heap m) (X : (KK w.params).In h₀) {V : Tab} {R : List (Addr × Obj)} (N : News h₀ L s.heap (tl w.params V ++ R)) (ap : Apart (tl w.params V ++ R)) (T : Top p loose mean mg mb h₀) (hk : cs.kind = .function)
include B F X N ap T hk
set_option maxHeartbeats 4000000
theorem put_again_arr {i : Int} {t : Tok} {v hv : Value} (hd : dp + 22 < recursionLimit) (_hu : un + 180 < cLine) (wf : Wf V) (a1 : 1 ≤ i) (a2 : i ≤ (V.arr.length : Int))
    (hret : ∀ h' tk', Fr h₀ L h' m → News h₀ L h' (tl w.params (V.setArr (i - 1).toNat v) ++ R) → Apart (tl w.params (V.setArr (i - 1).toNat v) ++ R) → Q .none { s with heap := h', toks := tk' }) :
    wpAny (model prog w) (ktrTop dp un gd cn cs L a ccd cl outer) (call (.ref F_Table_put_again) [.ref V.t, .int i t, v, hv]) Q E s := by
  have w1 := wf.ha
  have q1 : i - 1 ≤ 1000000 := by omega
  have q2 : 0 ≤ i - 1 := by omega
  have q3 : i - 1 < (V.arr.length : Int) := by omega
  refine en_Table_put_again B F X N T hk (by first | exact room0 hd | omega) ?_
  walk_at "ent"
  walk_at "go"
  all_goals exact hret _ _ (by assumption) (by assumption) (apart_arr ap)
theorem put_again_int {i : Int} {t : Tok} {v : Value} {hp : Addr} (hd : dp + 22 < recursionLimit) (_hu : un + 180 < cLine) (wf : Wf V) (hh : HeapIn w.params hp R) (a1 : ¬ InArr V (.i i)) (a2 : InsPre V (.i i))
    (hret : ∀ h' tk' V', InsR V (.i i) (.int i t) v V' → Fr h₀ L h' m → News h₀ L h' (tl w.params V' ++ R) → Apart (tl w.params V' ++ R) → Q .none { s with heap := h', toks := tk' }) :
    wpAny (model prog w) (ktrTop dp un gd cn cs L a ccd cl outer) (call (.ref F_Table_put_again) [.ref V.t, .int i t, v, .ref hp]) Q E s := by
  have w1 := wf.ha
  have q1 : ¬ (1 ≤ i ∧ i ≤ (V.arr.length : Int)) := a1
  refine en_Table_put_again B F X N T hk (by first | exact room0 hd | omega) ?_
  walk_at "ent"
  walk_at "go"
  all_goals exact hret _ _ _ (by assumption) (by assumption) (by assumption) (by assumption)
theorem put_again_bytes {x : Array UInt8} {t : Tok} {v : Value} {hp : Addr} (hd : dp + 22 < recursionLimit) (_hu : un + 180 < cLine) (wf : Wf V) (hh : HeapIn w.params hp R) (hok : KyOk (.b x)) (a2 : InsPre V (.b x))
    (hret : ∀ h' tk' V', InsR V (.b x) (.bytes x t) v V' → Fr h₀ L h' m → News h₀ L h' (tl w.params V' ++ R) → Apart (tl w.params V' ++ R) → Q .none { s with heap := h', toks := tk' }) :
    wpAny (model prog w) (ktrTop dp un gd cn cs L a ccd cl outer) (call (.ref F_Table_put_again) [.ref V.t, .bytes x t, v, .ref hp]) Q E s := by
  refine en_Table_put_again B F X N T hk (by first | exact room0 hd | omega) ?_
  walk_at "ent"
  walk_at "go"
  all_goals exact hret _ _ _ (by assumption) (by assumption) (by assumption) (by assumption)
theorem put_again_C {key v : Value} {k : Ky} {hp : Addr} (hd : dp + 22 < recursionLimit) (hu : un + 180 < cLine) (wf : Wf V) (hh : HeapIn w.params hp R) (hkey : kyOf key = some k) (hok : KyOk k) (hi : InArr V k ∨ InsPre V k) {x : Addr} (hx : x = V.t)
    (hret : ∀ h' tk' V', PutR V k key v V' → Fr h₀ L h' m → News h₀ L h' (tl w.params V' ++ R) → Apart (tl w.params V' ++ R) → Q .none { s with heap := h', toks := tk' }) :
    wpAny (model prog w) (ktrTop dp un gd cn cs L a ccd cl outer) (call (.ref F_Table_put_again) [.ref x, key, v, .ref hp]) Q E s := by
  subst hx
  rcases ky_cases (v := key) (by rw [hkey]; rfl) with ⟨i, t, rfl⟩ | ⟨x, t, rfl⟩
  · cases hkey
    by_cases ha : InArr V (.i i)
    · exact put_again_arr B F X N ap T hk hd hu wf ha.1 ha.2 (fun h' tk' F' N' ap' => hret h' tk' _ (.arr rfl ha.1 ha.2) F' N' ap')
    · exact put_again_int B F X N ap T hk hd hu wf hh ha (hi.resolve_left ha) (fun h' tk' V' hV F' N' ap' => hret h' tk' V' (.node ha hV) F' N' ap')
  · cases hkey
    exact put_again_bytes B F X N ap T hk hd hu wf hh hok (hi.resolve_left (fun h => h)) (fun h' tk' V' hV F' N' ap' => hret h' tk' V' (.node (fun h => h) hV) F' N' ap')
end
end Mine
end
section
open PySem PySem.W PySem.Spec PySem.Calls PyProof.Rows
namespace Mine
theorem wdD1_0 : True := by
  k_with_none
  k_with "k_room" => ((try dsimp only [Ax]); ktr_room)
  k_with "k_units" => ((try dsimp only [Ax]); ktr_units)
  k_with "ent" => (intro _ _ _ _ _ _ _ _ _; (try k_fold); (refine foldA ?_; intro Ax); (conv in execs _ _ => arg 1; whnf))
  k_with "dep" => ((try dsimp only [ktrTop, Around.deeper, Around.in1, Around.under]); (first | (refine' room2 ?zqhR ?zqcR; (case zqhR => assumption); (case zqcR => exact Nat.le_of_ble_eq_true rfl)) | (refine' room0 ?zqhR; (case zqhR => assumption)) | (refine' room1 ?zqhR ?zqcR; (case zqhR => assumption); (case zqcR => exact Nat.le_of_ble_eq_true rfl)) | (refine' room3 ?zqhR ?zqcR; (case zqhR => assumption); (case zqcR => exact Nat.le_of_ble_eq_true rfl)) | omega))
  k_with "news" => first | assumption | exact news_tl0 (by assumption) | exact news_tl0 (news_tl0 (by assumption)) | exact news_tl0 (news_tl0 (news_tl0 (by assumption)))
  k_with "dec" => first | ((try simp only [beq_iff_eq, bne_iff_ne, decide_eq_true_eq, decide_eq_false_iff_not, Bool.and_eq_true, Bool.not_eq_true', Bool.not_eq_true, beq_eq_false_iff_ne, ne_eq]) <;> omega) | (simp; done)
  k_with "ite" => (k_here; k_openite; (first | refine ite_pos (by walk_at "dec") ?_ | refine ite_neg (by walk_at "dec") ?_))
  k_with "go" => repeat' ((fail_if_success (with_reducible show wpAny _ _ (exec (Stmt.While _ _ _ _) _) _ _ _)); (fail_if_success (with_reducible show wpAny _ _ (exec (Stmt.For _ _ _ _ _) _) _ _ _)); (fail_if_success (with_reducible show WhileStep2 _ _ _ _ _ _ Flow.next _)); (fail_if_success (with_reducible show WhileStep2 _ _ _ _ _ _ Flow.cont _)); (first | (k_unfold; (try dsimp only)) | (k_end; wrow_close) | ((first | (with_reducible show wpAny _ _ (exec _ _) _ _ _) | (with_reducible show wpAny _ _ (execs _ _) _ _ _)); k_fold; (try (refine foldS ?_; intro Sx))) | walk1 | (dsimp only; walk1) | (leave1; walk_say "STEP leave1"; try dsimp only)))
  k_with "subscriptTail" => (k_here; (with_reducible show wpAny _ _ (subscriptTail _ _ (Value.bytes _ _) (Value.int _ _)) _ _ _); k_dflt (refine' item_by ?zqf ?zqa ?zqb ?_ ?zqhs ?zqht; (case zqf => first | assumption | omega); (case zqa => first | assumption | omega); (case zqb => first | assumption | omega); (case zqhs => with_unfolding_all rfl); (case zqht => (intro _; with_unfolding_all rfl)); k_whole); intro _ _)
  k_with "subscriptTail" => (k_here; (with_reducible show wpAny _ _ (subscriptTail _ _ (Value.ref _) (Value.int _ _)) _ _ _); k_dflt (refine' item_led ?zqN ?zqm ?zqa ?zqb ?zqx ?_ ?zqhs; (case zqN => k_asm); (case zqm => k_mem); (case zqa => first | assumption | omega); (case zqb => first | assumption | omega); (case zqx => first | assumption | walk_at "item"); (case zqhs => with_unfolding_all rfl); k_whole))
  k_with "WhileStep2" => (dsimp only [WhileStep2])
  k_with "lenk" => first | assumption | exact refsN_len _ | exact rfl
  k_with "call builtin:len" => (k_here; (with_reducible show wpAny _ _ (call (Value.builtin "len") [Value.ref _]) _ _ _); k_dflt (refine' len_led ?zqN ?zqm ?zqk ?zqf ?_; (case zqN => k_asm); (case zqm => k_mem); (case zqk => walk_at "lenk"); (case zqf => first | assumption | omega); k_whole); intro _ _)
  k_with "binaryOp Mod int int" => (k_here; k_dflt (refine' mod_int' (by assumption) ?_; k_whole))
  k_with "item" => exact refsN_get (by assumption)
  k_with "k_handed" => assumption
  k_with "compareOp Is none" => (k_here; first | refine is_none_ne (by assumption) ?_ | refine is_none_eq (by assumption) ?_)
  k_with "compareOp IsNot none" => (k_here; first | refine isnot_none_ne (by assumption) ?_ | refine isnot_none_eq (by assumption) ?_)
  k_with "k_all" => assumption
  k_with "setItem ref int" => (k_here; (with_reducible show wpAny _ _ (setItem (Value.ref _) (Value.int _ _) _) _ _ _); k_dflt (refine' set_led ?zqF ?zqN ?zqU ?zqa ?zqb ?zqc ?_; (case zqF => k_asm); (case zqN => k_asm); (case zqU => k_upd); (case zqa => first | assumption | omega); (case zqb => first | assumption | omega); (case zqc => first | assumption | omega); k_whole); intro _ _ _; (try k_sweep))
  k_with "getItem ref int" => (k_here; (with_reducible show wpAny _ _ (getItem (Value.ref _) (Value.int _ _)) _ _ _); k_dflt (refine' get_led ?zqN ?zqm ?zqa ?zqb ?zqx ?_; (case zqN => k_asm); (case zqm => k_mem); (case zqa => first | assumption | omega); (case zqb => first | assumption | omega); (case zqx => first | assumption | walk_at "item"); k_whole))
  k_with "has" => first | assumption | exact has_tl (by assumption) | exact has_tl (has_tl (by assumption))
  k_with "has" => exact has_app
  k_with "k_mem" => first | exact List.mem_append_left _ mem_t | exact List.mem_append_left _ mem_td | exact List.mem_append_left _ mem_la | exact List.mem_append_left _ mem_ln | exact List.mem_append_left _ (mem_nx (by assumption)) | exact List.mem_append_left _ (mem_nd (by assumption)) | exact List.mem_append_right _ (by assumption)
  k_with "apart" => first | assumption | exact apart_same (by assumption) rfl
  k_with "setAttr ref" => (k_here; k_dflt (first | (refine' set_free ?zqF ?zqX ?zqN ?zqap ?zqhx ?_; (case zqF => k_asm); (case zqX => k_asm); (case zqN => k_asm); (case zqap => walk_at "apart"); (case zqhx => exact rfl); k_whole; intro _ _ _ _) | (refine' set_flags ?zqF ?zqX ?zqN ?zqap ?zqhx ?_; (case zqF => k_asm); (case zqX => k_asm); (case zqN => k_asm); (case zqap => walk_at "apart"); (case zqhx => exact rfl); k_whole; intro _ _ _ _) | (refine' set_log_nodes ?zqF ?zqX ?zqN ?zqap ?zqhx ?_; (case zqF => k_asm); (case zqX => k_asm); (case zqN => k_asm); (case zqap => walk_at "apart"); (case zqhx => exact rfl); k_whole; intro _ _ _ _) | (refine' set_size ?zqF ?zqX ?zqN ?zqap ?zqhx ?_; (case zqF => k_asm); (case zqX => k_asm); (case zqN => k_asm); (case zqap => walk_at "apart"); (case zqhx => exact rfl); k_whole; intro _ _ _ _) | (refine' set_number ?zqF ?zqX ?zqN ?zqap ?zqhx ?_; (case zqF => k_asm); (case zqX => k_asm); (case zqN => k_asm); (case zqap => walk_at "apart"); (case zqhx => exact rfl); k_whole; intro _ _ _ _) | (refine' set_key ?zqF ?zqX ?zqN ?zqap ?zqe ?zqhx ?_; (case zqF => k_asm); (case zqX => k_asm); (case zqN => k_asm); (case zqap => walk_at "apart"); (case zqhx => exact rfl); (case zqe => assumption); k_whole; intro _ _ _ _ _ _) | (refine' set_value ?zqF ?zqX ?zqN ?zqap ?zqe ?zqhx ?_; (case zqF => k_asm); (case zqX => k_asm); (case zqN => k_asm); (case zqap => walk_at "apart"); (case zqhx => exact rfl); (case zqe => assumption); k_whole; intro _ _ _ _ _ _) | (refine' set_next ?zqF ?zqX ?zqN ?zqap ?zqe ?zqhx ?_; (case zqF => k_asm); (case zqX => k_asm); (case zqN => k_asm); (case zqap => walk_at "apart"); (case zqhx => exact rfl); (case zqe => assumption); k_whole; intro _ _ _ _ _ _)); (try k_sweep))
  k_with "gos" => repeat' ((fail_if_success (with_reducible show wpAny _ _ (exec (Stmt.While _ _ _ _) _) _ _ _)); (fail_if_success (with_reducible show wpAny _ _ (exec (Stmt.For _ _ _ _ _) _) _ _ _)); (fail_if_success (with_reducible show wpAny _ _ (setAttr (Value.ref _) _ _) _ _ _)); (fail_if_success (with_reducible show WhileStep2 _ _ _ _ _ _ Flow.next _)); (fail_if_success (with_reducible show WhileStep2 _ _ _ _ _ _ Flow.cont _)); (first | (k_unfold; (try dsimp only)) | (k_end; wrow_close) | ((first | (with_reducible show wpAny _ _ (exec _ _) _ _ _) | (with_reducible show wpAny _ _ (execs _ _) _ _ _)); k_fold; (try (refine foldS ?_; intro Sx))) | walk1 | (dsimp only; walk1) | (leave1; walk_say "STEP leave1"; try dsimp only)))
  k_with "gos2" => repeat' ((fail_if_success (with_reducible show wpAny _ _ (call (Value.ref 174) _) _ _ _)); (fail_if_success (with_reducible show wpAny _ _ (exec (Stmt.While _ _ _ _) _) _ _ _)); (fail_if_success (with_reducible show wpAny _ _ (exec (Stmt.For _ _ _ _ _) _) _ _ _)); (fail_if_success (with_reducible show wpAny _ _ (setAttr (Value.ref _) _ _) _ _ _)); (fail_if_success (with_reducible show WhileStep2 _ _ _ _ _ _ Flow.next _)); (fail_if_success (with_reducible show WhileStep2 _ _ _ _ _ _ Flow.cont _)); (first | (k_unfold; (try dsimp only)) | (k_end; wrow_close) | ((first | (with_reducible show wpAny _ _ (exec _ _) _ _ _) | (with_reducible show wpAny _ _ (execs _ _) _ _ _)); k_fold; (try (refine foldS ?_; intro Sx))) | walk1 | (dsimp only; walk1) | (leave1; walk_say "STEP leave1"; try dsimp only)))
  k_with "gof" => repeat' ((fail_if_success (with_reducible show wpAny _ _ (exec (Stmt.While _ _ _ _) _) _ _ _)); (fail_if_success (with_reducible show wpAny _ _ (exec (Stmt.For _ _ _ _ _) _) _ _ _)); (fail_if_success (with_reducible show wpAny _ _ (pyIter (Value.ref _)) _ _ _)); (fail_if_success (with_reducible show WhileStep2 _ _ _ _ _ _ Flow.next _)); (fail_if_success (with_reducible show WhileStep2 _ _ _ _ _ _ Flow.cont _)); (first | (k_unfold; (try dsimp only)) | (k_end; wrow_close) | ((first | (with_reducible show wpAny _ _ (exec _ _) _ _ _) | (with_reducible show wpAny _ _ (execs _ _) _ _ _)); k_fold; (try (refine foldS ?_; intro Sx))) | walk1 | (dsimp only; walk1) | (leave1; walk_say "STEP leave1"; try dsimp only)))
  k_with "unr" => ((try dsimp only [UnrPost]); refine UnrEnd.intro (by assumption) (by assumption) _ (fun p hp => hp) ?_ ?_)
  trivial
theorem news_mid {h₀ h : Heap} {L : Addr} {q q' : Addr × Obj} {r : List (Addr × Obj)} (N : News h₀ L h (q :: q' :: r)) : News h₀ L h (q :: r) := fun p hp => N p (by rcases List.mem_cons.mp hp with rfl | hp; exact .head _; exact .tail _ (.tail _ hp))
abbrev tupE (vs : List Value) : Obj := { cls := .type "tuple", data := .seq vs.toArray }
noncomputable def fsum (f : Nat → Int) : Nat → Int
  | 0 => 0
  | n + 1 => fsum f n + f n
/-- the answer of compute_sizes, after n counts -/
noncomputable def Siz (f : Nat → Int) (n : Nat) (size used : Int) : Prop := (size = 0 ∧ used = 0) ∨ ∃ j, j < n ∧ size = 2 ^ j ∧ used = fsum f (j + 1) ∧ size < 2 * used
theorem Siz.mono {f : Nat → Int} {n n' : Nat} {a b : Int} (h : Siz f n a b) (e : n ≤ n') : Siz f n' a b := by
  rcases h with h | ⟨j, h1, h2⟩
  · exact .inl h
  · exact .inr ⟨j, by omega, h2⟩
theorem two_pow (j : Nat) (h : j ≤ 27) : ∃ P : Nat, (2 : Int) ^ j = (P : Int) ∧ P ≤ 134217728 ∧ 0 < P :=
  ⟨2 ^ j, by simp, Nat.pow_le_pow_right (n := 2) (by decide) h, Nat.two_pow_pos j⟩
theorem Siz.bd {f : Nat → Int} (hf : ∀ i, 0 ≤ f i ∧ f i ≤ 10000) {n : Nat} {a b : Int} (h : Siz f n a b) (hn : n ≤ 27) : 0 ≤ a ∧ a ≤ 134217728 ∧ 0 ≤ b ∧ b ≤ 1000000 := by
  rcases h with h | ⟨j, h1, h2, h3, h4⟩
  · omega
  · obtain ⟨P, e1, e2, _⟩ := two_pow j (by omega)
    have e3 : ∀ n, 0 ≤ fsum f n ∧ fsum f n ≤ 10000 * n := by
      intro n
      induction n with
      | zero => exact ⟨by simp [fsum], by simp [fsum]⟩
      | succ n ih =>
        have := hf n
        show 0 ≤ fsum f n + f n ∧ fsum f n + f n ≤ _
        omega
    have := e3 (j + 1)
    omega
inductive CsJ (lc : Addr) (cv : List Value) (ev : Nat) (news : List (Addr × Obj)) (f : Nat → Int) (wanted : Int) (i : Nat) (m₁ : Str → Option Value) (nx : List (Addr × Obj)) : Prop
  | mk (zq0 : nx = (lc, listOf cv.toArray ev) :: news) (g : _) (p : _) (a : _) (b : _) (t1 : _) (t2 : _) (t3 : _) (t4 : _) (t5 : _) (zq1 : m₁ "gathered" = some (.int g t1)) (zq2 : m₁ "power" = some (.int p t2)) (zq3 : m₁ "size" = some (.int a t3)) (zq4 : m₁ "used" = some (.int b t4)) (zq5 : m₁ "wanted" = some (.int wanted t5)) (zq6 : g = fsum f i) (zq7 : p = 2 ^ i) (zq8 : 0 ≤ g) (zq9 : g ≤ 10000 * i) (zq10 : Siz f i a b) : CsJ lc cv ev news f wanted i m₁ nx
section
variable {prog : Program} {w : World} {p : Program} {loose : List Str} {mean : ExcName → Option Value} {mg mb : Str → Option Value}
  {dp un : Nat} {gd : Option (List Code)} {cn : Str} {cs : Scope} {a : Addr} {ccd : Value} {cl : List (Str × Addr)} {outer : List Env} {A₀ : Around} {base h₀ : Heap} {L : Addr} {m : Str → Option Value} {news : List (Addr × Obj)} {s : Shared} {E : Value → Shared → Prop} {Q : Value → Shared → Prop}
  (B : Below A₀ base outer h₀) (F : Fr h₀ L s.heap m) (X : (KK w.params).In h₀) {lc : Addr} {cv : List Value} {ev : Nat} {f : Nat → Int} (N : News h₀ L s.heap ((lc, listOf cv.toArray ev) :: news)) (hfr : ∀ p ∈ news, p.1 ≠ lc) (hc : IsCnt cv f) (T : Top p loose mean mg mb h₀) (hk : cs.kind = .function)
include B F X N hfr hc T hk
set_option maxHeartbeats 4000000
theorem compute_sizes_C {wanted : Int} {t : Tok} (hd : dp + 10 < recursionLimit) (_hu : un + 100 < cLine) (h0 : 0 ≤ wanted) (h1 : wanted ≤ 1000000) (h2 : ∀ i, 0 ≤ f i ∧ f i ≤ 10000)
    (hret : ∀ h' tk' T t1 t2 size used, Siz f 27 size used → Fr h₀ L h' m → News h₀ L h' ((T, tupE [.int size t1, .int used t2]) :: (lc, listOf cv.toArray ev) :: news) → Q (.ref T) { s with heap := h', toks := tk' }) :
    wpAny (model prog w) (ktrTop dp un gd cn cs L a ccd cl outer) (call (.ref F_compute_sizes) [.ref lc, .int wanted t]) Q E s := by
  have hlen := hc.1
  refine en_compute_sizes B F X N T hk (by first | exact room0 hd | omega) ?_
  walk_at "ent"
  walk_at "gof"
  refine For_invVF (by assumption) rfl rfl ?_
  walk_at "gof"
  refine iter_listJ (CsJ lc cv ev news f wanted) rfl (by assumption) (by assumption) (.head _) rfl rfl ?_ ?_ ?_
  · exact ⟨rfl, _, _, _, _, _, _, _, _, _, rfl, rfl, rfl, rfl, rfl, rfl, rfl, by omega, by omega, .inl ⟨rfl, rfl⟩⟩
  · rintro I i v m₁ nx it h tk hv hJJ ho hit F₁ N₁
    (try k_fold)
    obtain ⟨rfl, g, q, a, b, t1, t2, t3, t4, t5, e1, e2, e3, e4, e5, b1, b2, b3, b4, b5⟩ := hJJ
    rw [map5 e1 e2 e3 e4 e5] at F₁
    refine foldM F₁ ?_; clear F₁; intro Mx1 F₁
    have hlt := lt_of_get hv
    obtain ⟨tv, hv'⟩ := hc.2 i (by omega)
    obtain rfl : v = _ := Option.some.inj (hv.symm.trans hv')
    have hfi := h2 i
    obtain ⟨P, z1, z2, z3⟩ := two_pow i (by omega)
    have z4 : (2 : Int) ^ (i + 1) = q * 2 := by rw [b2]; exact Int.pow_succ ..
    have z5 : 1 ≤ q ∧ q ≤ 134217728 := by omega
    have z6 := half q (by omega)
    have z7 := b5.bd h2 (by omega)
    have z8 : fsum f (i + 1) = g + f i := by rw [b1]; rfl
    by_cases c1 : q.fdiv 2 ≥ wanted
    · walk_at "gof"
      all_goals exact hret _ _ _ _ _ _ _ (b5.mono (by omega)) (by assumption) (news_mid (by assumption))
    · have yA : Siz f (i + 1) a b := b5.mono (by omega)
      have yB : q.fdiv 2 < g + f i → Siz f (i + 1) q (g + f i) := fun c3 => .inr ⟨i, by omega, b2, by omega, by omega⟩
      walk_at "gof"
      all_goals first
        | exact hret _ _ _ _ _ _ _ (yA.mono (by omega)) (by assumption) (news_mid (by assumption))
        | exact hret _ _ _ _ _ _ _ ((yB (by assumption)).mono (by omega)) (by assumption) (news_mid (by assumption))
        | (walk_at "unr"; exact ho; exact ⟨⟨.head _, ho⟩, rfl, _, _, _, _, _, _, _, _, _, rfl, rfl, rfl, rfl, rfl, z8.symm, z4.symm, by omega, by omega, yA⟩)
        | (walk_at "unr"; exact ho; exact ⟨⟨.head _, ho⟩, rfl, _, _, _, _, _, _, _, _, _, rfl, rfl, rfl, rfl, rfl, z8.symm, z4.symm, by omega, by omega, yB (by assumption)⟩)
        | (walk_at "unr"; exact ho; exact ⟨⟨.head _, ho⟩, rfl, _, _, _, _, _, _, _, _, _, rfl, rfl, rfl, rfl, rfl, by omega, z4.symm, by omega, by omega, yA⟩)
  · rintro h tk m₁ nx hJJ F₁ N₁
    (try k_fold)
    obtain ⟨rfl, g, q, a, b, t1, t2, t3, t4, t5, e1, e2, e3, e4, e5, b1, b2, b3, b4, b5⟩ := hJJ
    rw [map5 e1 e2 e3 e4 e5] at F₁
    refine foldM F₁ ?_; clear F₁; intro Mx2 F₁
    rw [hlen] at b5
    walk_at "gof"
    all_goals exact hret _ _ _ _ _ _ _ b5 (by assumption) (by assumption)
end
end Mine
end
section
open PySem PySem.W PySem.Spec PySem.Calls PyProof.Rows
namespace Mine
theorem wdD2_0 : True := by
  k_with "has" => first | assumption | exact has_tl (by assumption) | exact has_tl (has_tl (by assumption))
  trivial
theorem news_swap {h₀ h : Heap} {L : Addr} {q q' : Addr × Obj} {r : List (Addr × Obj)} (N : News h₀ L h (q :: q' :: r)) : News h₀ L h (q' :: q :: r) := fun p hp => N p (by rcases List.mem_cons.mp hp with rfl | hp; exact .tail _ (.head _); rcases List.mem_cons.mp hp with rfl | hp; exact .head _; exact .tail _ (.tail _ hp))
/-- the number of values in a list of values -/
noncomputable def nn : List Value → Int
  | [] => 0
  | v :: r => (if v = .none then 0 else 1) + nn r
noncomputable def pre (l : List Value) (n : Nat) : Int := nn (l.take n)
theorem nn_append (a b : List Value) : nn (a ++ b) = nn a + nn b := by
  induction a with
  | nil => simp [nn]
  | cons v r ih => simp only [List.cons_append, nn, ih]; omega
theorem pre_zero (l : List Value) : pre l 0 = 0 := by simp [pre, nn]
theorem pre_succ {l : List Value} {n : Nat} {v : Value} (h : l[n]? = some v) : pre l (n + 1) = pre l n + (if v = .none then 0 else 1) := by
  have hlt := lt_of_get h
  have e : l[n] = v := by
    rw [List.getElem?_eq_getElem hlt] at h
    exact Option.some.inj h
  unfold pre
  rw [List.take_succ_eq_append_getElem hlt, nn_append, e]
  show _ + ((if v = .none then 0 else 1) + 0) = _
  omega
theorem pre_len {l : List Value} {n : Nat} (h : l.length ≤ n) : pre l n = nn l := by unfold pre; rw [List.take_of_length_le h]
theorem nn_bd (l : List Value) : 0 ≤ nn l ∧ nn l ≤ l.length := by
  induction l with
  | nil => simp [nn]
  | cons v r ih =>
    simp only [nn, List.length_cons]
    split <;> omega
theorem pre_bd (l : List Value) (n : Nat) : 0 ≤ pre l n ∧ pre l n ≤ n := by
  have := nn_bd (l.take n)
  have h2 : (l.take n).length ≤ n := by rw [List.length_take]; omega
  unfold pre
  omega
theorem IsCnt.set {cs : List Value} {f : Nat → Int} {j : Nat} {c : Int} {t : Tok} (h : IsCnt cs f) (hj : j < 27) : IsCnt (cs.set (j : Int).toNat (.int c t)) (fun i => if i = j then c else f i) := by
  rw [Int.toNat_natCast]
  refine ⟨by rw [List.length_set]; exact h.1, fun i hi => ?_⟩
  by_cases e : i = j
  · subst e
    refine ⟨t, ?_⟩
    rw [List.getElem?_set_self (by rw [h.1]; exact hi)]
    exact some_int (if_pos rfl).symm
  · rw [List.getElem?_set_ne (Ne.symm e)]
    obtain ⟨t', e'⟩ := h.2 i hi
    exact ⟨t', e'.trans (some_int (if_neg e).symm)⟩
theorem pre_mono (l : List Value) (a : Nat) : ∀ k, pre l a ≤ pre l (a + k)
  | 0 => Int.le_refl _
  | k + 1 => by
    have ih := pre_mono l a k
    rcases Nat.lt_or_ge (a + k) l.length with h | h
    · have := pre_succ (List.getElem?_eq_getElem h)
      rw [← Nat.add_assoc, this]
      split <;> omega
    · rw [pre_len (show l.length ≤ a + (k + 1) by omega), ← pre_len h]
      exact ih
/-- the counts after n turns of count_array -/
structure CntA (l : List Value) (n : Nat) (f : Nat → Int) : Prop where
  lo : ∀ j, j < n → fsum f (j + 1) = pre l (2 ^ j)
  hi : ∀ j, n ≤ j → f j = 0
  nz : ∀ j, 0 ≤ f j ∧ f j ≤ l.length
noncomputable def aP (l : List Value) : Nat → Nat
  | 0 => 0
  | i + 1 => min (2 ^ i) l.length
theorem fsum_set {f : Nat → Int} {i : Nat} {x : Int} : ∀ n, n ≤ i → fsum (fun j => if j = i then x else f j) n = fsum f n
  | 0, _ => rfl
  | n + 1, h => by
    show fsum _ n + (if n = i then x else f n) = fsum f n + f n
    rw [fsum_set n (by omega), if_neg (by omega)]
theorem CntA.fs {l : List Value} {n : Nat} {f : Nat → Int} (h : CntA l n f) : fsum f n = pre l (aP l n) := by
  cases n with
  | zero => rw [show aP l 0 = 0 from rfl, pre_zero]; rfl
  | succ n =>
    rw [h.lo n (by omega)]
    show pre l (2 ^ n) = pre l (min (2 ^ n) l.length)
    by_cases c : 2 ^ n ≤ l.length
    · rw [Nat.min_eq_left c]
    · rw [Nat.min_eq_right (by omega), pre_len (by omega), pre_len (Nat.le_refl _)]
theorem aP_mono (l : List Value) (i : Nat) : aP l i ≤ aP l (i + 1) := by
  cases i with
  | zero => exact Nat.zero_le _
  | succ i =>
    show min (2 ^ i) l.length ≤ min (2 ^ (i + 1)) l.length
    have : 2 ^ (i + 1) = 2 ^ i * 2 := Nat.pow_succ ..
    omega
theorem pre_aP (l : List Value) (i : Nat) : pre l (2 ^ i) = pre l (aP l (i + 1)) := by
  show _ = pre l (min (2 ^ i) l.length)
  by_cases c : 2 ^ i ≤ l.length
  · rw [Nat.min_eq_left c]
  · rw [Nat.min_eq_right (by omega), pre_len (by omega), pre_len (Nat.le_refl _)]
theorem CntA.next {l : List Value} {n : Nat} {f : Nat → Int} {x : Int} (h : CntA l n f) (e : x = f n + (pre l (aP l (n + 1)) - pre l (aP l n))) (h0 : 0 ≤ pre l (aP l (n + 1)) - pre l (aP l n)) : CntA l (n + 1) (fun j => if j = n then x else f j) := by
  have e0 := h.hi n (Nat.le_refl _)
  have b1 := pre_bd l (aP l (n + 1))
  have b2 := pre_bd l (aP l n)
  have b3 : aP l (n + 1) ≤ l.length := Nat.min_le_right ..
  refine ⟨fun j hj => ?_, fun j hj => ?_, fun j => ?_⟩
  · by_cases c : j = n
    · subst c
      show fsum _ j + (if j = j then x else f j) = _
      rw [fsum_set j (Nat.le_refl _), if_pos rfl, h.fs, pre_aP]
      omega
    · rw [fsum_set (j + 1) (by omega)]
      exact h.lo j (by omega)
  · show (if j = n then x else f j) = 0
    rw [if_neg (by omega)]
    exact h.hi j (by omega)
  · show 0 ≤ (if j = n then x else f j) ∧ (if j = n then x else f j) ≤ _
    split
    · omega
    · exact h.nz j
theorem fsum_hi {f : Nat → Int} {n : Nat} (h : ∀ j, n ≤ j → f j = 0) : ∀ k, fsum f (n + k) = fsum f n
  | 0 => rfl
  | k + 1 => by
    show fsum f (n + k) + f (n + k) = _
    rw [fsum_hi h k, h _ (by omega)]
    omega
theorem CntA.all {l : List Value} {n : Nat} {f : Nat → Int} (h : CntA l n f) (e : aP l n = l.length) (j : Nat) : fsum f (j + 1) = pre l (2 ^ j) := by
  by_cases c : j < n
  · exact h.lo j c
  · obtain ⟨k, hk⟩ : ∃ k, j + 1 = n + k := ⟨j + 1 - n, by omega⟩
    rw [hk, fsum_hi h.hi, h.fs, e, pre_len (Nat.le_refl _), pre_len]
    cases n with
    | zero =>
      have e' : 0 = l.length := e
      rw [← e']; exact Nat.zero_le _
    | succ i =>
      have e' : min (2 ^ i) l.length = l.length := e
      have : 2 ^ i ≤ 2 ^ j := Nat.pow_le_pow_right (by decide) (by omega)
      omega
theorem wdD2_1 : True := by
  k_with "k_mem" => first | assumption | exact .tail _ (by assumption) | exact .tail _ (.tail _ (by assumption)) | exact .head _ | exact .tail _ (.head _)
  k_with "k_upd" => exact Upd.head (by assumption)
  trivial
inductive CaJ2 (V : Tab) (lc I : Addr) (it : Obj) (cv' : List Value) (ev i : Nat) (t : Tok) (tot lim : Int) (news : List (Addr × Obj)) (k : Nat) (m₂ : Str → Option Value) (nx2 : List (Addr × Obj)) : Prop
  | mk (zq0 : nx2 = (I, it) :: (lc, listOf cv'.toArray ev) :: news) (k0 : Nat) (a2 : Int) (c : Int) (t1 : Tok) (t2 : Tok) (t3 : Tok) (t4 : Tok) (t5 : Tok) (zq1 : m₂ "self" = some (.ref V.t)) (zq2 : m₂ "counts" = some (.ref lc)) (zq3 : m₂ "at" = some (.int a2 t1)) (zq4 : m₂ "limit" = some (.int lim t2)) (zq5 : m₂ "total" = some (.int tot t3)) (zq6 : m₂ "step" = some (.int (i : Int) t)) (zq7 : m₂ "last" = some (.int (aP V.arr (i + 1) : Int) t4)) (zq8 : m₂ "here" = some (.int c t5)) (zq9 : a2 = (k0 : Int) + 1) (zq10 : aP V.arr i ≤ k0) (zq11 : k0 ≤ aP V.arr (i + 1)) (zq12 : c = pre V.arr k0 - pre V.arr (aP V.arr i)) (zq13 : k = aP V.arr (i + 1) - k0) : CaJ2 V lc I it cv' ev i t tot lim news k m₂ nx2
inductive CaJ1 (V : Tab) (lc : Addr) (ev : Nat) (news : List (Addr × Obj)) (i : Nat) (m₁ : Str → Option Value) (nx : List (Addr × Obj)) : Prop
  | mk (cv' : _) (g : _) (at_ : _) (lim : _) (tot : _) (t1 : _) (t2 : _) (t3 : _) (zq0 : nx = (lc, listOf cv'.toArray ev) :: news) (zq1 : m₁ "self" = some (.ref V.t)) (zq2 : m₁ "counts" = some (.ref lc)) (zq3 : m₁ "at" = some (.int at_ t1)) (zq4 : m₁ "limit" = some (.int lim t2)) (zq5 : m₁ "total" = some (.int tot t3)) (zq6 : IsCnt cv' g) (zq7 : CntA V.arr i g) (zq8 : at_ = aP V.arr i + 1) (zq9 : lim = 2 ^ i) (zq10 : tot = pre V.arr (aP V.arr i)) : CaJ1 V lc ev news i m₁ nx
section
variable {prog : Program} {w : World} {p : Program} {loose : List Str} {mean : ExcName → Option Value} {mg mb : Str → Option Value}
  {dp un : Nat} {gd : Option (List Code)} {cn : Str} {cs : Scope} {a : Addr} {ccd : Value} {cl : List (Str × Addr)} {outer : List Env} {A₀ : Around} {base h₀ : Heap} {L : Addr} {m : Str → Option Value} {news : List (Addr × Obj)} {s : Shared} {E : Value → Shared → Prop} {Q : Value → Shared → Prop}
  (B : Below A₀ base outer h₀) (F : Fr h₀ L s.heap m) (X : (KK w.params).In h₀) {lc : Addr} {cv : List Value} {ev : Nat} {f : Nat → Int} (N : News h₀ L s.heap ((lc, listOf cv.toArray ev) :: news)) (hfr : ∀ p ∈ news, p.1 ≠ lc) (hc : IsCnt cv f) (T : Top p loose mean mg mb h₀) (hk : cs.kind = .function)
include B F X N hfr hc T hk
set_option maxHeartbeats 4000000
theorem count_array_C {V : Tab} (hd : dp + 10 < recursionLimit) (_hu : un + 100 < cLine) (H : Has w.params V news) (wf : Wf V) (hl0 : V.arr.length ≤ 1000) (hz : ∀ j, f j = 0)
    (hret : ∀ h' tk' t' cv' g, IsCnt cv' g → (∀ j, fsum g (j + 1) = pre V.arr (2 ^ j)) → (∀ j, 0 ≤ g j ∧ g j ≤ V.arr.length) → Fr h₀ L h' m → News h₀ L h' ((lc, listOf cv'.toArray ev) :: news) → Q (.int (nn V.arr) t') { s with heap := h', toks := tk' }) :
    wpAny (model prog w) (ktrTop dp un gd cn cs L a ccd cl outer) (call (.ref F_Table_count_array) [.ref V.t, .ref lc]) Q E s := by
  have hc0 : CntA V.arr 0 f := ⟨fun j hj => absurd hj (Nat.not_lt_zero _), fun j _ => hz j, fun j => by rw [hz j]; omega⟩
  refine en_Table_count_array B F X N T hk (by first | exact room0 hd | omega) ?_
  walk_at "ent"
  walk_at "gof"
  refine For_invVF (by assumption) rfl rfl ?_
  walk_at "gof"
  refine iter_rangeJ (CaJ1 V lc ev news) rfl (by assumption) (by decide) (n := 27) (by decide) (by assumption) (by assumption) ?_ ?_ ?_
  · exact ⟨_, _, _, _, _, _, _, _, rfl, rfl, rfl, rfl, rfl, rfl, hc, hc0, rfl, rfl, (pre_zero _).symm⟩
  · rintro I i m₁ nx it t h tk hi hJJ ho F₁ N₁
    (try k_fold)
    obtain ⟨cv', g, at_, lim, tot, t1, t2, t3, rfl, e1, e2, e3, e4, e5, c1, c2, b1, b2, b3⟩ := hJJ
    rw [map5 e1 e2 e3 e4 e5] at F₁
    refine foldM F₁ ?_; clear F₁; intro Mx1 F₁
    obtain ⟨P, z1, z2, z3⟩ := two_pow i (by omega)
    have z4 : (2 : Int) ^ (i + 1) = lim * 2 := by rw [b2]; exact Int.pow_succ ..
    have z5 : aP V.arr (i + 1) = min P V.arr.length := by
      show min (2 ^ i) V.arr.length = _
      have : P = 2 ^ i := by have : ((2 ^ i : Nat) : Int) = (P : Int) := by rw [← z1]; simp
                             omega
      rw [this]
    have z6 := aP_mono V.arr i
    have z7 := pre_bd V.arr (aP V.arr i)
    have z8 : aP V.arr i ≤ V.arr.length := by
      cases i with
      | zero => exact Nat.zero_le _
      | succ i => exact Nat.min_le_right ..
    have z9 := c1.1
    obtain ⟨tv, hv⟩ := c1.2 i hi
    have hf' : ∀ p ∈ (I, it) :: news, p.1 ≠ lc := by
      intro p hp
      rcases List.mem_cons.mp hp with rfl | hp
      · exact fun e => ho _ (.head _) e.symm
      · exact hfr p hp
    obtain ⟨m1, m2, m3, m4⟩ := has_all H
    have w1 := wf.ha
    by_cases cM : at_ > min lim (V.arr.length : Int)
    · have y1 : aP V.arr i = V.arr.length := by
        have y2 : P ≤ aP V.arr i → aP V.arr i = V.arr.length := by
          cases i with
          | zero => intro y; have : aP V.arr 0 = 0 := rfl; omega
          | succ i =>
            intro y
            have y3 : aP V.arr (i + 1) = min (2 ^ i) V.arr.length := rfl
            have y4 : (2 : Int) ^ (i + 1) = 2 ^ i * 2 := Int.pow_succ ..
            have y5 : ((2 ^ i : Nat) : Int) = 2 ^ i := by simp
            have y6 : 0 < 2 ^ i := Nat.two_pow_pos i
            omega
        by_cases y7 : P ≤ aP V.arr i
        · exact y2 y7
        · omega
      have y3 : tot = nn V.arr := by rw [b3, y1]; exact pre_len (Nat.le_refl _)
      walk_at "gof"
      all_goals (rw [y3]; exact hret _ _ _ _ _ c1 (c2.all y1) c2.nz (by assumption) (news_tl0 (by assumption)))
    · have hla : (if (V.arr.length : Int) < lim then (V.arr.length : Int) else lim) = (aP V.arr (i + 1) : Int) := by split <;> omega
      walk_at "gof"
      rename_i hh FF NN
      rw [hla] at FF
      refine While_inv2 (news := (I, it) :: (lc, listOf cv'.toArray ev) :: news) (CaJ2 V lc I it cv' ev i t tot lim news) (n₀ := aP V.arr (i + 1) - aP V.arr i) (by assumption) (by walk_at "news") ?_ ?_
      · exact ⟨rfl, aP V.arr i, _, 0, _, _, _, _, _, rfl, rfl, rfl, rfl, rfl, some_int (by omega), rfl, rfl, b1, Nat.le_refl _, z6, by omega, rfl⟩
      · rintro k m₂ nx2 h₂ tk₂ F₂ N₂ hJJ 
        (try k_fold)
        obtain ⟨rfl, k0, a2, c, t1, t2, t3, t4, t5, e1, e2, e3, e4, e5, e6, e7, e8, d0, d1, d2, d3, d4⟩ := hJJ
        rw [map8 e1 e2 e3 e4 e5 e6 e7 e8] at F₂
        refine foldM F₂ ?_; clear F₂; intro Mx2 F₂
        have y9 : aP V.arr (i + 1) ≤ V.arr.length := Nat.min_le_right ..
        clear hla z5 z1 z2 z3 cM
        by_cases c : k0 < aP V.arr (i + 1)
        · have q1 : k0 < V.arr.length := by omega
          obtain ⟨v, q2⟩ : ∃ v, V.arr[k0]? = some v := ⟨_, List.getElem?_eq_getElem q1⟩
          have q3 : V.arr[(a2 - 1).toNat]? = some v := by rw [show (a2 - 1).toNat = k0 by omega]; exact q2
          have q4 := pre_succ q2
          have q5 := wf.hvo
          by_cases hv0 : v = .none
          · rw [if_pos hv0] at q4
            walk_at "gof"
            all_goals exact ⟨_, _, _, _, aP V.arr (i + 1) - (k0 + 1), rfl, by assumption, by assumption, by omega, rfl, k0 + 1, _, _, _, _, _, _, _, rfl, rfl, rfl, rfl, rfl, rfl, rfl, rfl, by omega, by omega, by omega, by omega, rfl⟩
          · rw [if_neg hv0] at q4
            walk_at "gof"
            all_goals exact ⟨_, _, _, _, aP V.arr (i + 1) - (k0 + 1), rfl, by assumption, by assumption, by omega, rfl, k0 + 1, _, _, _, _, _, _, _, rfl, rfl, rfl, rfl, rfl, rfl, rfl, rfl, by omega, by omega, by omega, by omega, rfl⟩
        · obtain rfl : k0 = aP V.arr (i + 1) := by omega
          have hv2 : cv'[((i : Nat) : Int).toNat]? = some (Value.int (g i) tv) := hv
          have y8 := pre_bd V.arr (aP V.arr (i + 1))
          have yA := c2.nz i
          have yB := pre_mono V.arr (aP V.arr i) (aP V.arr (i + 1) - aP V.arr i)
          rw [show aP V.arr i + (aP V.arr (i + 1) - aP V.arr i) = aP V.arr (i + 1) by omega] at yB
          have N3 := news_swap N₂
          clear N₂
          have hoz : ∀ x : Value, ∀ p ∈ (lc, listOf (cv'.set (i : Int).toNat x).toArray ev) :: news, p.1 ≠ I := by
            intro x p hp
            rcases List.mem_cons.mp hp with rfl | hp
            · exact ho (lc, listOf cv'.toArray ev) (.head _)
            · exact ho p (.tail _ hp)
          walk_at "gof"
          all_goals (refine UnrEnd.intro (by assumption) (news_swap (by assumption)) _ (fun p hp => hp) ?_ ?_; exact hoz _; exact ⟨hoz _, _, _, _, _, _, _, _, _, rfl, rfl, rfl, rfl, rfl, rfl, IsCnt.set c1 hi, c2.next (by omega) (by omega), d0, z4.symm, by omega⟩)
  · rintro h tk m₁ nx hJJ F₁ N₁
    (try k_fold)
    obtain ⟨cv', g, at_, lim, tot, t1, t2, t3, rfl, e1, e2, e3, e4, e5, c1, c2, b1, b2, b3⟩ := hJJ
    rw [map5 e1 e2 e3 e4 e5] at F₁
    refine foldM F₁ ?_; clear F₁; intro Mx3 F₁
    have y1 : aP V.arr 27 = V.arr.length := by
      show min (2 ^ 26) _ = _
      omega
    have y3 : tot = nn V.arr := by rw [b3, y1]; exact pre_len (Nat.le_refl _)
    walk_at "gof"
    all_goals (rw [y3]; exact hret _ _ _ _ _ c1 (c2.all y1) c2.nz (by assumption) (by assumption))
end
end Mine
end
section
open PySem PySem.W PySem.Spec PySem.Calls PyProof.Rows
namespace Mine
theorem wdD3_1 : True := by
  k_with "call ref" => (k_here; k_dflt (refine' count_key_C ?zqB ?zqF ?zqX ?zqN ?zqhfr ?zqhc ?zqT ?zqhk ?zqd ?zqu ?zqe0 ?zqe1 ?_; (case zqB => k_asm); (case zqF => k_asm); (case zqX => k_asm); (case zqN => k_asm); (case zqhfr => first | assumption); (case zqhc => assumption); (case zqT => k_asm); (case zqhk => first | assumption | exact rfl); (case zqd => walk_at "dep"); (case zqu => walk_at "dep"); (case zqe0 => assumption); (case zqe1 => assumption); k_whole); intro _ _ _ _ _ _ _;  (try k_sweep))
  trivial
noncomputable def nCnt : List Nd → (Nat → Int) → Nat → Int
  | [], g => g
  | nd :: r, g => nCnt r (if nd.val = .none then g else match kyOf nd.key with
    | some k => kBump g k
    | none => g)
noncomputable def nOne : List Nd → Int
  | [] => 0
  | nd :: r => (if nd.val = .none then 0 else match kyOf nd.key with
    | some k => kOne k
    | none => 0) + nOne r
noncomputable def nAll : List Nd → Int
  | [] => 0
  | nd :: r => (if nd.val = .none then 0 else 1) + nAll r
theorem nCnt_app (a b : List Nd) : ∀ g, nCnt (a ++ b) g = nCnt b (nCnt a g) := by
  induction a with
  | nil => exact fun _ => rfl
  | cons nd r ih => exact fun g => ih _
theorem nOne_app (a b : List Nd) : nOne (a ++ b) = nOne a + nOne b := by
  induction a with
  | nil => simp [nOne]
  | cons nd r ih => simp only [List.cons_append, nOne, ih]; omega
theorem nAll_app (a b : List Nd) : nAll (a ++ b) = nAll a + nAll b := by
  induction a with
  | nil => simp [nAll]
  | cons nd r ih => simp only [List.cons_append, nAll, ih]; omega
theorem kOne_bd (k : Ky) : 0 ≤ kOne k ∧ kOne k ≤ 1 := by
  cases k with
  | i n => unfold kOne; dsimp only; split <;> omega
  | b x => exact ⟨Int.le_refl _, by show (0 : Int) ≤ 1; decide⟩
theorem nOne_bd : ∀ l : List Nd, 0 ≤ nOne l ∧ nOne l ≤ l.length
  | [] => by simp [nOne]
  | nd :: r => by
    have ih := nOne_bd r
    have : 0 ≤ (if nd.val = .none then (0 : Int) else match kyOf nd.key with
      | some k => kOne k
      | none => 0) ∧ (if nd.val = .none then (0 : Int) else match kyOf nd.key with
      | some k => kOne k
      | none => 0) ≤ 1 := by
      split
      · omega
      · split
        · exact kOne_bd _
        · omega
    simp only [nOne, List.length_cons]
    omega
theorem nAll_bd : ∀ l : List Nd, 0 ≤ nAll l ∧ nAll l ≤ l.length
  | [] => by simp [nAll]
  | nd :: r => by
    have ih := nAll_bd r
    simp only [nAll, List.length_cons]
    split <;> omega
theorem nCnt_one0 {nd : Nd} {g : Nat → Int} (h : nd.val = .none) : nCnt [nd] g = g := by simp [nCnt, h]
theorem nAll_one0 {nd : Nd} (h : nd.val = .none) : nAll [nd] = 0 := by simp [nAll, h]
theorem nOne_one0 {nd : Nd} (h : nd.val = .none) : nOne [nd] = 0 := by simp [nOne, h]
theorem nCnt_one1 {nd : Nd} {g : Nat → Int} {k : Ky} (h : nd.val ≠ .none) (e : kyOf nd.key = some k) : nCnt [nd] g = kBump g k := by simp [nCnt, h, e]
theorem nAll_one1 {nd : Nd} (h : nd.val ≠ .none) : nAll [nd] = 1 := by simp [nAll, h]
theorem nOne_one1 {nd : Nd} {k : Ky} (h : nd.val ≠ .none) (e : kyOf nd.key = some k) : nOne [nd] = kOne k := by simp [nOne, h, e]
theorem take_one {α : Type} {l : List α} {i : Nat} {x : α} (h : l[i]? = some x) : l.take (i + 1) = l.take i ++ [x] := by
  have hlt := lt_of_get h
  rw [List.take_succ_eq_append_getElem hlt]
  rw [List.getElem?_eq_getElem hlt] at h
  rw [Option.some.inj h]
theorem refsN_inv {nds : List Nd} {i : Nat} {v : Value} (h : (refsN nds)[i]? = some v) : ∃ nd, nds[i]? = some nd ∧ v = .ref nd.x := by
  simp [refsN] at h
  obtain ⟨a, h1, h2⟩ := h
  exact ⟨a, h1, h2.symm⟩
theorem refsN_len' (nds : List Nd) : (refsN nds).length = nds.length := by simp [refsN]
inductive CnJ (V : Tab) (lc : Addr) (ev : Nat) (news : List (Addr × Obj)) (f : Nat → Int) (i : Nat) (m₁ : Str → Option Value) (nx : List (Addr × Obj)) : Prop
  | mk (cv' : _) (a : _) (b : _) (t1 : _) (t2 : _) (zq0 : nx = (lc, listOf cv'.toArray ev) :: news) (zq1 : m₁ "self" = some (.ref V.t)) (zq2 : m₁ "counts" = some (.ref lc)) (zq3 : m₁ "total" = some (.int a t1)) (zq4 : m₁ "whole" = some (.int b t2)) (zq5 : IsCnt cv' (nCnt (V.nds.take i) f)) (zq6 : a = nAll (V.nds.take i)) (zq7 : b = nOne (V.nds.take i)) : CnJ V lc ev news f i m₁ nx
section
variable {prog : Program} {w : World} {p : Program} {loose : List Str} {mean : ExcName → Option Value} {mg mb : Str → Option Value}
  {dp un : Nat} {gd : Option (List Code)} {cn : Str} {cs : Scope} {a : Addr} {ccd : Value} {cl : List (Str × Addr)} {outer : List Env} {A₀ : Around} {base h₀ : Heap} {L : Addr} {m : Str → Option Value} {news : List (Addr × Obj)} {s : Shared} {E : Value → Shared → Prop} {Q : Value → Shared → Prop}
  (B : Below A₀ base outer h₀) (F : Fr h₀ L s.heap m) (X : (KK w.params).In h₀) {lc : Addr} {cv : List Value} {ev : Nat} {f : Nat → Int} (N : News h₀ L s.heap ((lc, listOf cv.toArray ev) :: news)) (hfr : ∀ p ∈ news, p.1 ≠ lc) (hc : IsCnt cv f) (T : Top p loose mean mg mb h₀) (hk : cs.kind = .function)
include B F X N hfr hc T hk
set_option maxHeartbeats 4000000
theorem count_nodes_C {V : Tab} (hd : dp + 12 < recursionLimit) (_hu : un + 120 < cLine) (H : Has w.params V news) (wf : Wf V) (hl0 : V.nds.length ≤ 1000) (hkv : ∀ nd ∈ V.nds, nd.val ≠ .none → ∃ k, kyOf nd.key = some k ∧ KyB k)
    (hret : ∀ h' tk' T t1 t2 cv', IsCnt cv' (nCnt V.nds f) → Fr h₀ L h' m → News h₀ L h' ((T, tupE [.int (nAll V.nds) t1, .int (nOne V.nds) t2]) :: (lc, listOf cv'.toArray ev) :: news) → Q (.ref T) { s with heap := h', toks := tk' }) :
    wpAny (model prog w) (ktrTop dp un gd cn cs L a ccd cl outer) (call (.ref F_Table_count_nodes) [.ref V.t, .ref lc]) Q E s := by
  obtain ⟨m1, m2, m3, m4⟩ := has_all H
  have w1 := wf.hvo
  have w2 := wf.hko
  refine en_Table_count_nodes B F X N T hk (by first | exact room0 hd | omega) ?_
  walk_at "ent"
  walk_at "gof"
  refine For_invVF (by assumption) rfl rfl ?_
  walk_at "gof"
  refine iter_listJ (CnJ V lc ev news f) rfl (by assumption) (by assumption) (.tail _ m4) rfl rfl ?_ ?_ ?_
  · exact ⟨_, _, _, _, _, rfl, rfl, rfl, rfl, rfl, hc, rfl, rfl⟩
  · rintro I i v m₁ nx it h tk hv hJJ ho hit F₁ N₁
    (try k_fold)
    obtain ⟨cv', a, b, t1, t2, rfl, e1, e2, e3, e4, c1, b1, b2⟩ := hJJ
    rw [map4 e1 e2 e3 e4] at F₁
    refine foldM F₁ ?_; clear F₁; intro Mx1 F₁
    obtain ⟨nd, hn, rfl⟩ := refsN_inv hv
    have hlt := lt_of_get hn
    obtain ⟨n1, n2⟩ := has_nd H hn
    have hvo := w1 nd (List.mem_of_getElem? hn)
    have hko := handed_key (w2.at hn)
    have hf' : ∀ p ∈ (I, it) :: news, p.1 ≠ lc := by
      intro p hp
      rcases List.mem_cons.mp hp with rfl | hp
      · exact fun e => ho _ (.head _) e.symm
      · exact hfr p hp
    have N3 := news_swap N₁
    have bd1 := nAll_bd (V.nds.take i)
    have bd2 := nOne_bd (V.nds.take i)
    have bd3 : (V.nds.take i).length ≤ i := by rw [List.length_take]; omega
    have H' := has_tl (q := (I, it)) H
    clear N₁
    have hoz : ∀ x : List Value, ∀ p ∈ (lc, listOf x.toArray ev) :: news, p.1 ≠ I := by
      intro x p hp
      rcases List.mem_cons.mp hp with rfl | hp
      · exact ho (lc, listOf cv'.toArray ev) (.head _)
      · exact ho p (.tail _ hp)
    by_cases hv0 : nd.val = .none
    · have y1 : nCnt (V.nds.take (i + 1)) f = nCnt (V.nds.take i) f := by
        rw [take_one hn, nCnt_app, nCnt_one0 hv0]
      have y2 : nAll (V.nds.take (i + 1)) = a := by
        rw [take_one hn, nAll_app, b1, nAll_one0 hv0]; omega
      have y3 : nOne (V.nds.take (i + 1)) = b := by
        rw [take_one hn, nOne_app, b2, nOne_one0 hv0]; omega
      walk_at "gof"
      all_goals (refine UnrEnd.intro (by assumption) (news_swap (by assumption)) _ (fun p hp => hp) ?_ ?_; exact hoz _; exact ⟨⟨.tail _ m4, hoz _⟩, _, _, _, _, _, rfl, rfl, rfl, rfl, rfl, by rw [y1]; exact c1, y2.symm, y3.symm⟩)
    · obtain ⟨k, hk1, hk2⟩ := hkv nd (List.mem_of_getElem? hn) hv0
      have bd4 := kOne_bd k
      have y1 : nCnt (V.nds.take (i + 1)) f = kBump (nCnt (V.nds.take i) f) k := by
        rw [take_one hn, nCnt_app, nCnt_one1 hv0 hk1]
      have y2 : nAll (V.nds.take (i + 1)) = a + 1 := by
        rw [take_one hn, nAll_app, b1, nAll_one1 hv0]
      have y3 : nOne (V.nds.take (i + 1)) = b + kOne k := by
        rw [take_one hn, nOne_app, b2, nOne_one1 hv0 hk1]
      walk_at "gof"
      all_goals (refine UnrEnd.intro (by assumption) (news_swap (by assumption)) _ (fun p hp => hp) ?_ ?_; exact hoz _; exact ⟨⟨.tail _ m4, hoz _⟩, _, _, _, _, _, rfl, rfl, rfl, rfl, rfl, by rw [y1]; assumption, y2.symm, y3.symm⟩)
  · rintro h tk m₁ nx hJJ F₁ N₁
    (try k_fold)
    obtain ⟨cv', a, b, t1, t2, rfl, e1, e2, e3, e4, c1, b1, b2⟩ := hJJ
    rw [map4 e1 e2 e3 e4] at F₁
    refine foldM F₁ ?_; clear F₁; intro Mx2 F₁
    rw [refsN_len', List.take_length] at c1 b1 b2
    subst b1 b2
    walk_at "gof"
    all_goals exact hret _ _ _ _ _ _ c1 (by assumption) (by assumption)
end
end Mine
end
section
open PySem PySem.W PySem.Spec PySem.Calls PyProof.Rows
namespace Mine
noncomputable def Tab.wNodes (V : Tab) (D : Addr) (ns : List Nd) (e : Nat) : Tab := { V with ln := D, nds := ns, el := e }
noncomputable def Tab.wArr (V : Tab) (D : Addr) (a : List Value) (e : Nat) : Tab := { V with la := D, arr := a, ea := e }
/-- a list of nodes, as the ledger bears it -/
noncomputable def nlE (P : Params) (D : Addr) (ns : List Nd) (e : Nat) : List (Addr × Obj) := (D, listOf (refsN ns).toArray e) :: nl P ns
theorem nlE_ad (P : Params) (D : Addr) (ns : List Nd) (e : Nat) : (nlE P D ns e).map (·.1) = D :: nAd ns := by simp [nlE, nl_ad]
theorem perm_nodes {a b c l D : Addr} {o n r : List Addr} : List.Perm (a :: b :: c :: D :: n ++ (l :: o ++ r)) (a :: b :: c :: l :: o ++ (D :: n ++ r)) := by
  simp only [List.cons_append]
  refine .cons _ (.cons _ (.cons _ ?_))
  have h1 : List.Perm (D :: (n ++ (l :: (o ++ r)))) ((D :: n) ++ ((l :: o) ++ r)) := by simp
  have h2 : List.Perm (l :: (o ++ (D :: (n ++ r)))) ((l :: o) ++ ((D :: n) ++ r)) := by simp
  refine h1.trans (List.Perm.trans ?_ h2.symm)
  rw [← List.append_assoc, ← List.append_assoc]
  exact List.Perm.append_right _ List.perm_append_comm
theorem apart_nodes {P : Params} {V : Tab} {R : List (Addr × Obj)} {D : Addr} {ns : List Nd} {e : Nat} (h : Apart (tl P V ++ (nlE P D ns e ++ R))) :
    Apart (tl P (V.wNodes D ns e) ++ (nlE P V.ln V.nds V.el ++ R)) := by
  unfold Apart at h ⊢
  simp only [List.map_append, tl_ad, nlE_ad] at h ⊢
  refine (List.Perm.nodup_iff ?_).mp h
  exact perm_nodes.symm
theorem sub_nodes {P : Params} {V : Tab} {R : List (Addr × Obj)} {D : Addr} {ns : List Nd} {e : Nat} :
    ∀ p ∈ tl P (V.wNodes D ns e) ++ (nlE P V.ln V.nds V.el ++ R), p ∈ (V.t, instObj C_Table V.td) :: (V.td, dictOf (tdE P (V.wNodes D ns e)) 10) :: (V.la, listOf V.arr.toArray V.ea) :: (V.ln, listOf (refsN V.nds).toArray V.el) :: (nl P V.nds ++ (nlE P D ns e ++ R)) := by
  intro p hp
  show p ∈ [(V.t, instObj C_Table V.td), (V.td, dictOf (tdE P (V.wNodes D ns e)) 10), (V.la, listOf V.arr.toArray V.ea)] ++ (nlE P V.ln V.nds V.el ++ (nlE P D ns e ++ R))
  have hp' : p ∈ [(V.t, instObj C_Table V.td), (V.td, dictOf (tdE P (V.wNodes D ns e)) 10), (V.la, listOf V.arr.toArray V.ea)] ++ (nlE P D ns e ++ (nlE P V.ln V.nds V.el ++ R)) := hp
  simp only [List.mem_append] at hp' ⊢
  grind
section
variable {prog : Program} {w : World} {A : Around} {h₀ : Heap} {L x : Addr} {m : Str → Option Value} {s : Shared} {E : Value → Shared → Prop} {V : Tab} {R : List (Addr × Obj)}
theorem set_nodes {D : Addr} {ns : List Nd} {e : Nat} {Q : Unit → Shared → Prop} (F : Fr h₀ L s.heap m) (X : (KK w.params).In h₀) (N : News h₀ L s.heap (tl w.params V ++ (nlE w.params D ns e ++ R))) (ap : Apart (tl w.params V ++ (nlE w.params D ns e ++ R))) (hx : x = V.t)
    (h : ∀ h', Fr h₀ L h' m → News h₀ L h' (tl w.params (V.wNodes D ns e) ++ (nlE w.params V.ln V.nds V.el ++ R)) → Apart (tl w.params (V.wNodes D ns e) ++ (nlE w.params V.ln V.nds V.el ++ R)) → Q () { s with heap := h', toks := s.toks + 2 }) :
    wpAny (model prog w) A (setAttr (.ref x) "nodes" (.ref D)) Q E s := by
  subst hx
  refine set_dict F X N (InstAt.of_news N (List.mem_append_left _ mem_t) (List.mem_append_left _ mem_td)) rfl (by k_is) (by k_is) (by k_is) (by k_is) rfl (es' := tdE w.params (V.wNodes D ns e)) (n' := 10) rfl ?_ (Nat.le_of_ble_eq_true rfl) fun h' F' N' => h h' F' (fun p hp => N' p (sub_nodes p hp)) (apart_nodes ap)
  refine Upd.tail (fun q => ?_) (Upd.head ap.tl.ne)
  exact ap.ne (V.td, dictOf (tdE w.params V) 10) (.head _) q.symm
theorem set_log2 {v : Value} {Q : Unit → Shared → Prop} (F : Fr h₀ L s.heap m) (X : (KK w.params).In h₀) (N : News h₀ L s.heap (tl w.params V ++ R)) (ap : Apart (tl w.params V ++ R)) (hx : x = V.t)
    (h : ∀ h', Fr h₀ L h' m → News h₀ L h' (tl w.params { V with log := v } ++ R) → Apart (tl w.params { V with log := v } ++ R) → Q () { s with heap := h', toks := s.toks + 2 }) :
    wpAny (model prog w) A (setAttr (.ref x) "log_nodes" v) Q E s := by
  subst hx
  refine set_dict F X N (InstAt.of_news N (List.mem_append_left _ mem_t) (List.mem_append_left _ mem_td)) rfl (by k_is) (by k_is) (by k_is) (by k_is) rfl (es' := tdE w.params { V with log := v }) (n' := 10) rfl (upd_td (W := { V with log := v }) ap rfl rfl rfl rfl rfl rfl rfl rfl) (Nat.le_of_ble_eq_true rfl) fun h' F' N' => h h' F' N' (apart_same ap rfl)
theorem apart_array {P : Params} {V : Tab} {R : List (Addr × Obj)} {D : Addr} {a : List Value} {e : Nat} {o o' : Obj} (h : Apart (tl P V ++ ((D, o) :: R))) :
    Apart (tl P (V.wArr D a e) ++ ((V.la, o') :: R)) := by
  unfold Apart at h ⊢
  simp only [List.map_append, tl_ad, List.map_cons] at h ⊢
  refine (List.Perm.nodup_iff ?_).mp h
  show List.Perm (V.t :: V.td :: V.la :: V.ln :: nAd V.nds ++ (D :: R.map (·.1))) (V.t :: V.td :: D :: V.ln :: nAd V.nds ++ (V.la :: R.map (·.1)))
  simp only [List.cons_append]
  refine .cons _ (.cons _ ?_)
  have h1 : List.Perm (V.la :: V.ln :: (nAd V.nds ++ D :: R.map (·.1))) (V.la :: D :: (V.ln :: nAd V.nds ++ R.map (·.1))) := .cons _ (List.perm_middle (l₁ := V.ln :: nAd V.nds))
  have h2 : List.Perm (D :: V.ln :: (nAd V.nds ++ V.la :: R.map (·.1))) (D :: V.la :: (V.ln :: nAd V.nds ++ R.map (·.1))) := .cons _ (List.perm_middle (l₁ := V.ln :: nAd V.nds))
  exact h1.trans ((List.Perm.swap _ _ _).trans h2.symm)
theorem set_array {D : Addr} {a : List Value} {e : Nat} {Q : Unit → Shared → Prop} (F : Fr h₀ L s.heap m) (X : (KK w.params).In h₀) (N : News h₀ L s.heap (tl w.params V ++ ((D, listOf a.toArray e) :: R))) (ap : Apart (tl w.params V ++ ((D, listOf a.toArray e) :: R))) (hx : x = V.t)
    (h : ∀ h', Fr h₀ L h' m → News h₀ L h' (tl w.params (V.wArr D a e) ++ ((V.la, listOf V.arr.toArray V.ea) :: R)) → Apart (tl w.params (V.wArr D a e) ++ ((V.la, listOf V.arr.toArray V.ea) :: R)) → Q () { s with heap := h', toks := s.toks + 2 }) :
    wpAny (model prog w) A (setAttr (.ref x) "array" (.ref D)) Q E s := by
  subst hx
  refine set_dict F X N (InstAt.of_news N (List.mem_append_left _ mem_t) (List.mem_append_left _ mem_td)) rfl (by k_is) (by k_is) (by k_is) (by k_is) rfl (es' := tdE w.params (V.wArr D a e)) (n' := 10) rfl (news' := (V.t, instObj C_Table V.td) :: (V.td, dictOf (tdE w.params (V.wArr D a e)) 10) :: (V.la, listOf V.arr.toArray V.ea) :: (V.ln, listOf (refsN V.nds).toArray V.el) :: (nl w.params V.nds ++ ((D, listOf a.toArray e) :: R))) ?_ (Nat.le_of_ble_eq_true rfl) fun h' F' N' => h h' F' (fun p hp => N' p ?_) (apart_array ap)
  · refine Upd.tail (fun q => ?_) (Upd.head ap.tl.ne)
    exact ap.ne (V.td, dictOf (tdE w.params V) 10) (.head _) q.symm
  · have hp' : p ∈ [(V.t, instObj C_Table V.td), (V.td, dictOf (tdE w.params (V.wArr D a e)) 10), (D, listOf a.toArray e), (V.ln, listOf (refsN V.nds).toArray V.el)] ++ (nl w.params V.nds ++ ((V.la, listOf V.arr.toArray V.ea) :: R)) := hp
    show p ∈ [(V.t, instObj C_Table V.td), (V.td, dictOf (tdE w.params (V.wArr D a e)) 10), (V.la, listOf V.arr.toArray V.ea), (V.ln, listOf (refsN V.nds).toArray V.el)] ++ (nl w.params V.nds ++ ((D, listOf a.toArray e) :: R))
    simp only [List.mem_append, List.mem_cons] at hp' ⊢
    grind
end
end Mine
end
section
open PySem PySem.W PySem.Spec PySem.Calls PyProof.Rows
namespace Mine
inductive Rch (g : Nat → Option Nd) : Nat → Nat → Prop
  | refl (i : Nat) : Rch g i i
  | step {i j k : Nat} {nd : Nd} : g i = some nd → nd.nxt = (j : Int) → Rch g j k → Rch g i k
structure Inv0 (n : Nat) (g : Nat → Option Nd) (free : Int) : Prop where
  dm : ∀ i, (g i).isSome = true ↔ i < n
  rg : ∀ i nd, g i = some nd → nd.nxt = -1 ∨ ∃ j : Nat, nd.nxt = (j : Int) ∧ j < n
  rk : ∃ f : Nat → Nat, ∀ i nd (j : Nat), g i = some nd → nd.nxt = (j : Int) → f j < f i
  rc : ∀ i nd k, g i = some nd → kyOf nd.key = some k → ∃ s : Nat, MP n k = (s : Int) ∧ Rch g s i
  uq : ∀ i j ni nj k, g i = some ni → g j = some nj → kyOf ni.key = some k → kyOf nj.key = some k → i = j
  mp : ∀ i nd k (m : Nat), g i = some nd → kyOf nd.key = some k → MP n k = (m : Int) → ∃ nm k', g m = some nm ∧ kyOf nm.key = some k' ∧ MP n k' = (m : Int)
  np : ∀ i nd (j : Nat) nj, g i = some nd → nd.nxt = (j : Int) → g j = some nj → kyOf nj.key ≠ none
  ij : ∀ i j ni nj (m : Nat), g i = some ni → g j = some nj → ni.nxt = (m : Int) → nj.nxt = (m : Int) → i = j
  k0 : ∀ i nd, g i = some nd → kyOf nd.key = none → nd.nxt = -1 ∧ nd.val = .none
  fr : ∀ i nd, g i = some nd → free ≤ (i : Int) → kyOf nd.key ≠ none
theorem Inv0.free_ins {n : Nat} {g : Nat → Option Nd} {free : Int} (h : Inv0 n g free) {k : Ky} {i : Nat} {nd nw : Nd} (hk : ∀ j nj, g j = some nj → kyOf nj.key ≠ some k) (hm : MP n k = (i : Int)) (hi : g i = some nd) (h1 : kyOf nw.key = some k) (h2 : nw.nxt = nd.nxt) :
    Inv0 n (fun j => if j = i then some nw else g j) free := by
  have gi : (fun j => if j = i then some nw else g j) i = some nw := if_pos rfl
  have go : ∀ j, j ≠ i → (fun j => if j = i then some nw else g j) j = g j := fun j b => if_neg b
  generalize hg : (fun j => if j = i then some nw else g j) = g' at gi go ⊢
  clear hg
  have cs : ∀ j nj, g' j = some nj → (j = i ∧ nj = nw) ∨ (j ≠ i ∧ g j = some nj) := by
    intro j nj e
    by_cases b : j = i
    · subst b; rw [gi] at e; (first | obtain rfl := Option.some.inj e | cases e); exact .inl ⟨rfl, rfl⟩
    · rw [go j b] at e; exact .inr ⟨b, e⟩
  have mono : ∀ a b, Rch g a b → Rch g' a b := by
    intro a b r
    induction r with
    | refl a => exact .refl a
    | @step a j b nd' e1 e2 _ ih =>
      by_cases c : a = i
      · subst c
        rw [hi] at e1
        (first | obtain rfl := Option.some.inj e1 | cases e1)
        exact .step gi (h2.trans e2) ih
      · exact .step ((go a c).trans e1) e2 ih
  obtain ⟨r, hr⟩ := h.rk
  refine ⟨?_, ?_, ⟨r, ?_⟩, ?_, ?_, ?_, ?_, ?_, ?_, ?_⟩
  · intro j
    by_cases b : j = i
    · subst b; rw [gi]; have := (h.dm j).mp (by rw [hi]; rfl); simp [this]
    · rw [go j b]; exact h.dm j
  · intro j nj e
    rcases cs j nj e with ⟨a, rfl⟩ | ⟨_, e⟩
    · rw [h2]; exact h.rg i nd hi
    · exact h.rg j nj e
  · intro j nj j' e e2
    rcases cs j nj e with ⟨a, rfl⟩ | ⟨_, e⟩
    · rw [a]; exact hr i nd j' hi (h2.symm.trans e2)
    · exact hr j nj j' e e2
  · intro j nj k' e e2
    rcases cs j nj e with ⟨a, rfl⟩ | ⟨_, e⟩
    · rw [h1] at e2; (first | obtain rfl := Option.some.inj e2 | cases e2)
      exact ⟨i, hm, a ▸ .refl j⟩
    · obtain ⟨s, e3, e4⟩ := h.rc j nj k' e e2
      exact ⟨s, e3, mono _ _ e4⟩
  · intro a b na nb k' ea eb e1 e2
    rcases cs a na ea with ⟨qa, rfl⟩ | ⟨xa, qa⟩ <;> rcases cs b nb eb with ⟨qb, rfl⟩ | ⟨xb, qb⟩
    · omega
    · rw [h1] at e1; (first | obtain rfl := Option.some.inj e1 | cases e1); exact absurd e2 (hk b nb qb)
    · rw [h1] at e2; (first | obtain rfl := Option.some.inj e2 | cases e2); exact absurd e1 (hk a na qa)
    · exact h.uq a b na nb k' qa qb e1 e2
  · intro j nj k' m e e2 e3
    by_cases c : m = i
    · subst c
      exact ⟨nw, k, gi, h1, hm⟩
    · rw [go m c]
      rcases cs j nj e with ⟨a, rfl⟩ | ⟨_, e⟩
      · rw [h1] at e2; (first | obtain rfl := Option.some.inj e2 | cases e2)
        rw [hm] at e3
        exact absurd (Int.ofNat.inj e3).symm c
      · exact h.mp j nj k' m e e2 e3
  · intro a na j nj ea e2 ej
    rcases cs j nj ej with ⟨_, rfl⟩ | ⟨_, qj⟩
    · rw [h1]; exact nofun
    · rcases cs a na ea with ⟨_, rfl⟩ | ⟨_, qa⟩
      · exact h.np i nd j nj hi (h2.symm.trans e2) qj
      · exact h.np a na j nj qa e2 qj
  · intro a b na nb m ea eb e1 e2
    rcases cs a na ea with ⟨qa, rfl⟩ | ⟨xa, qa⟩ <;> rcases cs b nb eb with ⟨qb, rfl⟩ | ⟨xb, qb⟩
    · omega
    · exact absurd (h.ij i b nd nb m hi qb (h2.symm.trans e1) e2).symm xb
    · exact absurd (h.ij i a nd na m hi qa (h2.symm.trans e2) e1).symm xa
    · exact h.ij a b na nb m qa qb e1 e2
  · intro a na ea e1
    rcases cs a na ea with ⟨_, rfl⟩ | ⟨_, qa⟩
    · rw [h1] at e1; (first | obtain rfl := Option.some.inj e1 | cases e1)
    · exact h.k0 a na qa e1
  · intro a na ea e1
    rcases cs a na ea with ⟨_, rfl⟩ | ⟨_, qa⟩
    · rw [h1]; exact nofun
    · exact h.fr a na qa e1
theorem Inv0.same_ins {n : Nat} {g : Nat → Option Nd} {free : Int} (h : Inv0 n g free) {k k' : Ky} {i f : Nat} {nd sp ni nf : Nd} (hk : ∀ j nj, g j = some nj → kyOf nj.key ≠ some k) (hm : MP n k = (i : Int)) (hi : g i = some nd)
    (hk' : kyOf nd.key = some k') (_hm' : MP n k' = (i : Int)) (hf : g f = some sp) (hs : kyOf sp.key = none) (ha : ∀ j nj, g j = some nj → f < j → kyOf nj.key ≠ none)
    (h1 : kyOf ni.key = some k') (h2 : ni.nxt = (f : Int)) (h3 : kyOf nf.key = some k) (h4 : nf.nxt = nd.nxt) :
    Inv0 n (fun j => if j = f then some nf else if j = i then some ni else g j) (f : Int) := by
  have hfi : f ≠ i := by rintro rfl; rw [hi] at hf; (first | obtain rfl := Option.some.inj hf | cases hf); rw [hk'] at hs; (first | obtain rfl := Option.some.inj hs | cases hs)
  have sp0 := h.k0 f sp hf hs
  obtain ⟨r, hr⟩ := h.rk
  have gi : (fun j => if j = f then some nf else if j = i then some ni else g j) i = some ni := by dsimp only; rw [if_neg (Ne.symm hfi), if_pos rfl]
  have gf : (fun j => if j = f then some nf else if j = i then some ni else g j) f = some nf := if_pos rfl
  have go : ∀ j, j ≠ f → j ≠ i → (fun j => if j = f then some nf else if j = i then some ni else g j) j = g j := fun j a b => by dsimp only; rw [if_neg a, if_neg b]
  have toF : ∀ a na, g a = some na → na.nxt ≠ (f : Int) := fun a na ea e => h.np a na f sp ea e hf hs
  generalize hg : (fun j => if j = f then some nf else if j = i then some ni else g j) = g' at gi gf go ⊢
  clear hg
  have cs : ∀ j nj, g' j = some nj → (j = f ∧ nj = nf) ∨ (j = i ∧ nj = ni) ∨ (j ≠ f ∧ j ≠ i ∧ g j = some nj) := by
    intro j nj e
    by_cases a : j = f
    · subst a; rw [gf] at e; (first | obtain rfl := Option.some.inj e | cases e); exact .inl ⟨rfl, rfl⟩
    · by_cases b : j = i
      · subst b; rw [gi] at e; (first | obtain rfl := Option.some.inj e | cases e); exact .inr (.inl ⟨rfl, rfl⟩)
      · rw [go j a b] at e; exact .inr (.inr ⟨a, b, e⟩)
  have mono : ∀ a b, Rch g a b → Rch g' a b := by
    intro a b r
    induction r with
    | refl a => exact .refl a
    | @step a j b nd' e1 e2 _ ih =>
      by_cases c : a = i
      · subst c
        rw [hi] at e1
        (first | obtain rfl := Option.some.inj e1 | cases e1)
        exact .step gi h2 (.step gf (h4.trans e2) ih)
      · by_cases c2 : a = f
        · subst c2
          rw [hf] at e1
          (first | obtain rfl := Option.some.inj e1 | cases e1)
          rw [sp0.1] at e2; omega
        · exact .step ((go a c2 c).trans e1) e2 ih
  refine ⟨?_, ?_, ⟨fun x => if x = f then 2 * r i else 2 * r x + 1, ?_⟩, ?_, ?_, ?_, ?_, ?_, ?_, ?_⟩
  · intro j
    by_cases a : j = f
    · subst a; rw [gf]; have := (h.dm j).mp (by rw [hf]; rfl); simp [this]
    · by_cases b : j = i
      · subst b; rw [gi]; have := (h.dm j).mp (by rw [hi]; rfl); simp [this]
      · rw [go j a b]; exact h.dm j
  · intro j nj e
    rcases cs j nj e with ⟨a, rfl⟩ | ⟨a, rfl⟩ | ⟨_, _, e⟩
    · rw [h4]; exact h.rg i nd hi
    · exact .inr ⟨f, h2, (h.dm f).mp (by rw [hf]; rfl)⟩
    · exact h.rg j nj e
  · intro j nj j' e e2
    show (if j' = f then 2 * r i else 2 * r j' + 1) < (if j = f then 2 * r i else 2 * r j + 1)
    rcases cs j nj e with ⟨a, rfl⟩ | ⟨a, rfl⟩ | ⟨a, b, e⟩
    · rw [a]
      have := hr i nd j' hi (h4.symm.trans e2)
      have c : j' ≠ f := by rintro rfl; exact toF i nd hi (h4.symm.trans e2)
      rw [if_neg c, if_pos rfl]; omega
    · have : j' = f := Int.ofNat.inj (e2.symm.trans h2)
      rw [this, a, if_pos rfl, if_neg (Ne.symm hfi)]; omega
    · have := hr j nj j' e e2
      have c : j' ≠ f := by rintro rfl; exact toF j nj e e2
      rw [if_neg c, if_neg a]; omega
  · intro j nj k2 e e2
    rcases cs j nj e with ⟨a, rfl⟩ | ⟨a, rfl⟩ | ⟨_, _, e⟩
    · rw [h3] at e2; (first | obtain rfl := Option.some.inj e2 | cases e2)
      exact ⟨i, hm, a ▸ .step gi h2 (.refl f)⟩
    · rw [h1] at e2; (first | obtain rfl := Option.some.inj e2 | cases e2)
      obtain ⟨s, e3, e4⟩ := h.rc i nd k' hi hk'
      exact ⟨s, e3, a ▸ mono _ _ e4⟩
    · obtain ⟨s, e3, e4⟩ := h.rc j nj k2 e e2
      exact ⟨s, e3, mono _ _ e4⟩
  · intro a b na nb k2 ea eb e1 e2
    rcases cs a na ea with ⟨qa, rfl⟩ | ⟨qa, rfl⟩ | ⟨_, xa, qa⟩ <;> rcases cs b nb eb with ⟨qb, rfl⟩ | ⟨qb, rfl⟩ | ⟨_, xb, qb⟩
    · omega
    · rw [h3] at e1; (first | obtain rfl := Option.some.inj e1 | cases e1); rw [h1] at e2; (first | obtain rfl := Option.some.inj e2 | cases e2); exact absurd hk' (hk i nd hi)
    · rw [h3] at e1; (first | obtain rfl := Option.some.inj e1 | cases e1); exact absurd e2 (hk b nb qb)
    · rw [h3] at e2; (first | obtain rfl := Option.some.inj e2 | cases e2); rw [h1] at e1; (first | obtain rfl := Option.some.inj e1 | cases e1); exact absurd hk' (hk i nd hi)
    · omega
    · rw [h1] at e1; (first | obtain rfl := Option.some.inj e1 | cases e1); exact absurd (h.uq i b nd nb _ hi qb hk' e2).symm xb
    · rw [h3] at e2; (first | obtain rfl := Option.some.inj e2 | cases e2); exact absurd e1 (hk a na qa)
    · rw [h1] at e2; (first | obtain rfl := Option.some.inj e2 | cases e2); exact absurd (h.uq i a nd na _ hi qa hk' e1).symm xa
    · exact h.uq a b na nb k2 qa qb e1 e2
  · intro j nj k2 m e e2 e3
    have old : ∀ m : Nat, (∃ nm k'', g m = some nm ∧ kyOf nm.key = some k'' ∧ MP n k'' = (m : Int)) → ∃ nm k'', g' m = some nm ∧ kyOf nm.key = some k'' ∧ MP n k'' = (m : Int) := by
      rintro m ⟨nm, k'', q1, q2, q3⟩
      by_cases a : m = f
      · subst a; rw [hf] at q1; (first | obtain rfl := Option.some.inj q1 | cases q1); rw [hs] at q2; (first | obtain rfl := Option.some.inj q2 | cases q2)
      · by_cases b : m = i
        · subst b
          rw [hi] at q1; (first | obtain rfl := Option.some.inj q1 | cases q1)
          rw [hk'] at q2; (first | obtain rfl := Option.some.inj q2 | cases q2)
          exact ⟨ni, k', gi, h1, q3⟩
        · exact ⟨nm, k'', (go m a b).trans q1, q2, q3⟩
    rcases cs j nj e with ⟨a, rfl⟩ | ⟨a, rfl⟩ | ⟨_, _, e⟩
    · rw [h3] at e2; (first | obtain rfl := Option.some.inj e2 | cases e2)
      have : i = m := Int.ofNat.inj (hm.symm.trans e3)
      subst this
      exact ⟨ni, k', gi, h1, _hm'⟩
    · rw [h1] at e2; (first | obtain rfl := Option.some.inj e2 | cases e2)
      exact old m (h.mp i nd k' m hi hk' e3)
    · exact old m (h.mp j nj k2 m e e2 e3)
  · intro a na j nj ea e2 ej
    rcases cs j nj ej with ⟨_, rfl⟩ | ⟨_, rfl⟩ | ⟨xj, _, qj⟩
    · rw [h3]; exact nofun
    · rw [h1]; exact nofun
    · rcases cs a na ea with ⟨_, rfl⟩ | ⟨_, rfl⟩ | ⟨_, _, qa⟩
      · exact h.np i nd j nj hi (h4.symm.trans e2) qj
      · exact absurd (Int.ofNat.inj (e2.symm.trans h2)) xj
      · exact h.np a na j nj qa e2 qj
  · intro a b na nb m ea eb e1 e2
    rcases cs a na ea with ⟨qa, rfl⟩ | ⟨qa, rfl⟩ | ⟨_, xa, qa⟩ <;> rcases cs b nb eb with ⟨qb, rfl⟩ | ⟨qb, rfl⟩ | ⟨_, xb, qb⟩
    · omega
    · have : m = f := Int.ofNat.inj (e2.symm.trans h2)
      subst this; exact absurd (h4.symm.trans e1) (toF i nd hi)
    · exact absurd (h.ij i b nd nb m hi qb (h4.symm.trans e1) e2).symm xb
    · have : m = f := Int.ofNat.inj (e1.symm.trans h2)
      subst this; exact absurd (h4.symm.trans e2) (toF i nd hi)
    · omega
    · have : m = f := Int.ofNat.inj (e1.symm.trans h2)
      subst this; exact absurd e2 (toF b nb qb)
    · exact absurd (h.ij i a nd na m hi qa (h4.symm.trans e2) e1).symm xa
    · have : m = f := Int.ofNat.inj (e2.symm.trans h2)
      subst this; exact absurd e1 (toF a na qa)
    · exact h.ij a b na nb m qa qb e1 e2
  · intro a na ea e1
    rcases cs a na ea with ⟨_, rfl⟩ | ⟨_, rfl⟩ | ⟨_, _, qa⟩
    · rw [h3] at e1; (first | obtain rfl := Option.some.inj e1 | cases e1)
    · rw [h1] at e1; (first | obtain rfl := Option.some.inj e1 | cases e1)
    · exact h.k0 a na qa e1
  · intro a na ea e1
    rcases cs a na ea with ⟨_, rfl⟩ | ⟨_, rfl⟩ | ⟨xa, _, qa⟩
    · rw [h3]; exact nofun
    · rw [h1]; exact nofun
    · exact ha a na qa (by omega)
theorem Inv0.moved_ins {n : Nat} {g : Nat → Option Nd} {free : Int} (h : Inv0 n g free) {k k' : Ky} {i f p o : Nat} {nd sp pn ni nf np' : Nd} (hk : ∀ j nj, g j = some nj → kyOf nj.key ≠ some k) (hm : MP n k = (i : Int)) (hi : g i = some nd)
    (hk' : kyOf nd.key = some k') (hm' : MP n k' = (o : Int)) (hoi : o ≠ i) (hf : g f = some sp) (hs : kyOf sp.key = none) (ha : ∀ j nj, g j = some nj → f < j → kyOf nj.key ≠ none)
    (hp : g p = some pn) (hpn : pn.nxt = (i : Int)) (hpi : p ≠ i) (hpf : p ≠ f)
    (h1 : kyOf ni.key = some k) (h2 : ni.nxt = -1) (h3 : kyOf nf.key = some k') (h4 : nf.nxt = nd.nxt) (h5 : kyOf np'.key = kyOf pn.key) (h6 : np'.nxt = (f : Int)) (h7 : np'.val = pn.val) :
    Inv0 n (fun j => if j = f then some nf else if j = i then some ni else if j = p then some np' else g j) (f : Int) := by
  have hfi : f ≠ i := by rintro rfl; rw [hi] at hf; (first | obtain rfl := Option.some.inj hf | cases hf); rw [hk'] at hs; (first | obtain rfl := Option.some.inj hs | cases hs)
  have sp0 := h.k0 f sp hf hs
  obtain ⟨r, hr⟩ := h.rk
  have gi : (fun j => if j = f then some nf else if j = i then some ni else if j = p then some np' else g j) i = some ni := by dsimp only; rw [if_neg (Ne.symm hfi), if_pos rfl]
  have gf : (fun j => if j = f then some nf else if j = i then some ni else if j = p then some np' else g j) f = some nf := if_pos rfl
  have gp : (fun j => if j = f then some nf else if j = i then some ni else if j = p then some np' else g j) p = some np' := by dsimp only; rw [if_neg hpf, if_neg hpi, if_pos rfl]
  have go : ∀ j, j ≠ f → j ≠ i → j ≠ p → (fun j => if j = f then some nf else if j = i then some ni else if j = p then some np' else g j) j = g j := fun j a b c => by dsimp only; rw [if_neg a, if_neg b, if_neg c]
  have toF : ∀ a na, g a = some na → na.nxt ≠ (f : Int) := fun a na ea e => h.np a na f sp ea e hf hs
  generalize hg : (fun j => if j = f then some nf else if j = i then some ni else if j = p then some np' else g j) = g' at gi gf gp go ⊢
  clear hg
  have cs : ∀ j nj, g' j = some nj → (j = f ∧ nj = nf) ∨ (j = i ∧ nj = ni) ∨ (j = p ∧ nj = np') ∨ (j ≠ f ∧ j ≠ i ∧ j ≠ p ∧ g j = some nj) := by
    intro j nj e
    by_cases a : j = f
    · subst a; rw [gf] at e; (first | obtain rfl := Option.some.inj e | cases e); exact .inl ⟨rfl, rfl⟩
    · by_cases b : j = i
      · subst b; rw [gi] at e; (first | obtain rfl := Option.some.inj e | cases e); exact .inr (.inl ⟨rfl, rfl⟩)
      · by_cases c : j = p
        · subst c; rw [gp] at e; (first | obtain rfl := Option.some.inj e | cases e); exact .inr (.inr (.inl ⟨rfl, rfl⟩))
        · rw [go j a b c] at e; exact .inr (.inr (.inr ⟨a, b, c, e⟩))
  have ktog : ∀ j nj, g j = some nj → j ≠ f → j ≠ i → ∃ nj', g' j = some nj' ∧ kyOf nj'.key = kyOf nj.key := by
    intro j nj e a b
    by_cases c : j = p
    · subst c; rw [hp] at e; (first | obtain rfl := Option.some.inj e | cases e); exact ⟨np', gp, h5⟩
    · exact ⟨nj, (go j a b c).trans e, rfl⟩
  have path : ∀ s b, Rch g s b → b ≠ i → (s ≠ i → Rch g' s b) ∧ (s = i → Rch g' f b) := by
    intro s b r
    induction r with
    | refl a => exact fun hb => ⟨fun _ => .refl a, fun e => absurd e hb⟩
    | @step a j b nd' e1 e2 _ ih =>
      intro hb
      have ih := ih hb
      have hnf : a ≠ f := by rintro rfl; rw [hf] at e1; (first | obtain rfl := Option.some.inj e1 | cases e1); rw [sp0.1] at e2; omega
      refine ⟨fun hai => ?_, fun hai => ?_⟩
      · by_cases c : j = i
        · subst c
          have : a = p := h.ij a p nd' pn j e1 hp e2 hpn
          subst this
          exact .step gp h6 (ih.2 rfl)
        · have : a ≠ p := by
            rintro rfl
            rw [hp] at e1; (first | obtain rfl := Option.some.inj e1 | cases e1)
            exact c (Int.ofNat.inj (e2.symm.trans hpn))
          exact .step ((go a hnf hai this).trans e1) e2 (ih.1 c)
      · subst hai
        rw [hi] at e1; (first | obtain rfl := Option.some.inj e1 | cases e1)
        have c : j ≠ a := by rintro rfl; exact absurd (hr j nd j hi e2) (Nat.lt_irrefl _)
        exact .step gf (h4.trans e2) (ih.1 c)
  have pathi : ∀ s b, Rch g s b → b = i → s ≠ i → Rch g' s f := by
    intro s b r
    induction r with
    | refl a => exact fun e e2 => absurd e e2
    | @step a j b nd' e1 e2 _ ih =>
      intro hb hai
      have hnf : a ≠ f := by rintro rfl; rw [hf] at e1; (first | obtain rfl := Option.some.inj e1 | cases e1); rw [sp0.1] at e2; omega
      by_cases c : j = i
      · subst c
        have : a = p := h.ij a p nd' pn j e1 hp e2 hpn
        subst this
        exact .step gp h6 (.refl f)
      · have : a ≠ p := by
          rintro rfl
          rw [hp] at e1; (first | obtain rfl := Option.some.inj e1 | cases e1)
          exact c (Int.ofNat.inj (e2.symm.trans hpn))
        exact .step ((go a hnf hai this).trans e1) e2 (ih hb c)
  -- where a key of g has its main position
  have mpi : ∀ j nj k2 (m : Nat), g j = some nj → kyOf nj.key = some k2 → MP n k2 = (m : Int) → m ≠ i ∧ m ≠ f := by
    intro j nj k2 m e e2 e3
    obtain ⟨nm, k'', q1, q2, q3⟩ := h.mp j nj k2 m e e2 e3
    refine ⟨?_, ?_⟩
    · rintro rfl
      rw [hi] at q1; (first | obtain rfl := Option.some.inj q1 | cases q1); rw [hk'] at q2; (first | obtain rfl := Option.some.inj q2 | cases q2)
      exact hoi (Int.ofNat.inj (hm'.symm.trans q3))
    · rintro rfl
      rw [hf] at q1; (first | obtain rfl := Option.some.inj q1 | cases q1); rw [hs] at q2; (first | obtain rfl := Option.some.inj q2 | cases q2)
  have keys : ∀ j nj, g' j = some nj → (j = i ∧ nj = ni) ∨ (j = f ∧ nj = nf) ∨ (j ≠ i ∧ j ≠ f ∧ ∃ n0, g j = some n0 ∧ kyOf nj.key = kyOf n0.key ∧ nj.val = n0.val) := by
    intro j nj e
    rcases cs j nj e with ⟨a, b⟩ | ⟨a, b⟩ | ⟨a, rfl⟩ | ⟨a, b, _, e⟩
    · exact .inr (.inl ⟨a, b⟩)
    · exact .inl ⟨a, b⟩
    · subst a; exact .inr (.inr ⟨hpi, hpf, pn, hp, h5, h7⟩)
    · exact .inr (.inr ⟨b, a, nj, e, rfl, rfl⟩)
  -- edges of g'
  have edge : ∀ j nj (m : Nat), g' j = some nj → nj.nxt = (m : Int) → (j = p ∧ m = f) ∨ (j = f ∧ nd.nxt = (m : Int) ∧ m ≠ f ∧ m ≠ i) ∨ (j ≠ p ∧ j ≠ f ∧ j ≠ i ∧ g j = some nj ∧ m ≠ f ∧ m ≠ i) := by
    intro j nj m e e2
    rcases cs j nj e with ⟨a, rfl⟩ | ⟨a, rfl⟩ | ⟨a, rfl⟩ | ⟨a, b, c, e⟩
    · refine .inr (.inl ⟨a, h4.symm.trans e2, ?_, ?_⟩)
      · rintro rfl; exact toF i nd hi (h4.symm.trans e2)
      · rintro rfl; exact absurd (hr m nd m hi (h4.symm.trans e2)) (Nat.lt_irrefl _)
    · rw [h2] at e2; omega
    · exact .inl ⟨a, Int.ofNat.inj (e2.symm.trans h6)⟩
    · refine .inr (.inr ⟨c, a, b, e, ?_, ?_⟩)
      · rintro rfl; exact toF j nj e e2
      · rintro rfl; exact c (h.ij j p nj pn m e hp e2 hpn)
  refine ⟨?_, ?_, ⟨fun x => if x = f then r i else r x, ?_⟩, ?_, ?_, ?_, ?_, ?_, ?_, ?_⟩
  · intro j
    by_cases a : j = f
    · subst a; rw [gf]; have := (h.dm j).mp (by rw [hf]; rfl); simp [this]
    · by_cases b : j = i
      · subst b; rw [gi]; have := (h.dm j).mp (by rw [hi]; rfl); simp [this]
      · by_cases c : j = p
        · subst c; rw [gp]; have := (h.dm j).mp (by rw [hp]; rfl); simp [this]
        · rw [go j a b c]; exact h.dm j
  · intro j nj e
    rcases cs j nj e with ⟨a, rfl⟩ | ⟨a, rfl⟩ | ⟨a, rfl⟩ | ⟨_, _, _, e⟩
    · rw [h4]; exact h.rg i nd hi
    · exact .inl h2
    · exact .inr ⟨f, h6, (h.dm f).mp (by rw [hf]; rfl)⟩
    · exact h.rg j nj e
  · intro j nj j' e e2
    show (if j' = f then r i else r j') < (if j = f then r i else r j)
    rcases edge j nj j' e e2 with ⟨a, b⟩ | ⟨a, b, c, _⟩ | ⟨_, a, _, e, b, _⟩
    · rw [b, a, if_pos rfl, if_neg hpf]; exact hr p pn i hp hpn
    · rw [a, if_neg c, if_pos rfl]; exact hr i nd j' hi b
    · rw [if_neg b, if_neg a]; exact hr j nj j' e e2
  · intro j nj k2 e e2
    rcases keys j nj e with ⟨a, rfl⟩ | ⟨a, rfl⟩ | ⟨a, b, n0, q1, q2, _⟩
    · rw [h1] at e2; (first | obtain rfl := Option.some.inj e2 | cases e2)
      exact ⟨i, hm, by rw [a]; exact .refl i⟩
    · rw [h3] at e2; (first | obtain rfl := Option.some.inj e2 | cases e2)
      obtain ⟨s, e3, e4⟩ := h.rc i nd k' hi hk'
      refine ⟨s, e3, a ▸ pathi s i e4 rfl ?_⟩
      rintro rfl
      exact hoi (Int.ofNat.inj (hm'.symm.trans e3))
    · rw [q2] at e2
      obtain ⟨s, e3, e4⟩ := h.rc j n0 k2 q1 e2
      exact ⟨s, e3, (path s j e4 a).1 (mpi j n0 k2 s q1 e2 e3).1⟩
  · intro a b na nb k2 ea eb e1 e2
    rcases keys a na ea with ⟨qa, rfl⟩ | ⟨qa, rfl⟩ | ⟨xa, ya, n0, qa, za, _⟩ <;> rcases keys b nb eb with ⟨qb, rfl⟩ | ⟨qb, rfl⟩ | ⟨xb, yb, n1, qb, zb, _⟩
    · omega
    · rw [h1] at e1; (first | obtain rfl := Option.some.inj e1 | cases e1); rw [h3] at e2; (first | obtain rfl := Option.some.inj e2 | cases e2); exact absurd hk' (hk i nd hi)
    · rw [h1] at e1; (first | obtain rfl := Option.some.inj e1 | cases e1); rw [zb] at e2; exact absurd e2 (hk b n1 qb)
    · rw [h1] at e2; (first | obtain rfl := Option.some.inj e2 | cases e2); rw [h3] at e1; (first | obtain rfl := Option.some.inj e1 | cases e1); exact absurd hk' (hk i nd hi)
    · omega
    · rw [h3] at e1; (first | obtain rfl := Option.some.inj e1 | cases e1); rw [zb] at e2; exact absurd (h.uq i b nd n1 _ hi qb hk' e2).symm xb
    · rw [h1] at e2; (first | obtain rfl := Option.some.inj e2 | cases e2); rw [za] at e1; exact absurd e1 (hk a n0 qa)
    · rw [h3] at e2; (first | obtain rfl := Option.some.inj e2 | cases e2); rw [za] at e1; exact absurd (h.uq i a nd n0 _ hi qa hk' e1).symm xa
    · rw [za] at e1; rw [zb] at e2; exact h.uq a b n0 n1 k2 qa qb e1 e2
  · intro j nj k2 m e e2 e3
    have old : ∀ j nj k2 (m : Nat), g j = some nj → kyOf nj.key = some k2 → MP n k2 = (m : Int) → ∃ nm k'', g' m = some nm ∧ kyOf nm.key = some k'' ∧ MP n k'' = (m : Int) := by
      intro j nj k2 m e e2 e3
      obtain ⟨c1, c2⟩ := mpi j nj k2 m e e2 e3
      obtain ⟨nm, k'', q1, q2, q3⟩ := h.mp j nj k2 m e e2 e3
      obtain ⟨nm', q4, q5⟩ := ktog m nm q1 c2 c1
      exact ⟨nm', k'', q4, q5.trans q2, q3⟩
    rcases keys j nj e with ⟨a, rfl⟩ | ⟨a, rfl⟩ | ⟨a, b, n0, q1, q2, _⟩
    · rw [h1] at e2; (first | obtain rfl := Option.some.inj e2 | cases e2)
      have : i = m := Int.ofNat.inj (hm.symm.trans e3)
      subst this
      exact ⟨_, k, gi, h1, hm⟩
    · rw [h3] at e2; (first | obtain rfl := Option.some.inj e2 | cases e2)
      exact old i nd k' m hi hk' e3
    · exact old j n0 k2 m q1 (q2.symm.trans e2) e3
  · intro a na j nj ea e2 ej
    rcases keys j nj ej with ⟨_, rfl⟩ | ⟨_, rfl⟩ | ⟨xj, yj, n0, qj, zj, _⟩
    · rw [h1]; exact nofun
    · rw [h3]; exact nofun
    · rw [zj]
      rcases edge a na j ea e2 with ⟨_, b⟩ | ⟨_, b, _⟩ | ⟨_, _, _, e, _⟩
      · exact absurd b yj
      · exact h.np i nd j n0 hi b qj
      · exact h.np a na j n0 e e2 qj
  · intro a b na nb m ea eb e1 e2
    rcases edge a na m ea e1 with ⟨qa, wa⟩ | ⟨qa, wa, ua, va⟩ | ⟨xa, ya, za, qa, ua, va⟩ <;> rcases edge b nb m eb e2 with ⟨qb, wb⟩ | ⟨qb, wb, ub, vb⟩ | ⟨xb, yb, zb, qb, ub, vb⟩
    · omega
    · exact absurd wa ub
    · exact absurd wa ub
    · exact absurd wb ua
    · omega
    · exact absurd (h.ij i b nd nb m hi qb wa e2).symm zb
    · exact absurd wb ua
    · exact absurd (h.ij i a nd na m hi qa wb e1).symm za
    · exact h.ij a b na nb m qa qb e1 e2
  · intro a na ea e1
    rcases cs a na ea with ⟨_, rfl⟩ | ⟨_, rfl⟩ | ⟨_, rfl⟩ | ⟨_, _, _, qa⟩
    · rw [h3] at e1; (first | obtain rfl := Option.some.inj e1 | cases e1)
    · rw [h1] at e1; (first | obtain rfl := Option.some.inj e1 | cases e1)
    · rw [h5] at e1
      have := (h.k0 p pn hp e1).1
      rw [hpn] at this; omega
    · exact h.k0 a na qa e1
  · intro a na ea e1
    rcases keys a na ea with ⟨_, rfl⟩ | ⟨_, rfl⟩ | ⟨_, ya, n0, qa, za, _⟩
    · rw [h1]; exact nofun
    · rw [h3]; exact nofun
    · rw [za]; exact ha a n0 qa (by omega)
end Mine
end
section
open PySem PySem.W PySem.Spec PySem.Calls PyProof.Rows
namespace Mine
/-- content of the nodes -/
noncomputable def Cn (g : Nat → Option Nd) (k : Ky) (v : Value) : Prop := (∃ i nd, g i = some nd ∧ kyOf nd.key = some k ∧ nd.val = v) ∨ ((∀ i nd, g i = some nd → kyOf nd.key ≠ some k) ∧ v = .none)
/-! lookups -/
theorem fnd_of {nds : List Nd} {n : Nat} {g : Nat → Option Nd} {free : Int} (hg : ∀ i, g i = nds[i]?) (h : Inv0 n g free) {k : Ky} {i : Nat} {nd : Nd} (hi : g i = some nd) (hk : kyOf nd.key = some k) :
    ∀ s b, Rch g s b → b = i → ∃ m, Fnd nds k m (s : Int) (i : Int) := by
  intro s b r
  induction r with
  | refl a =>
    rintro rfl
    exact ⟨0, .hit (Int.natCast_nonneg _) (by rw [Int.toNat_natCast, ← hg]; exact hi) hk⟩
  | @step a j b nd' e1 e2 _ ih =>
    intro hb
    by_cases c : kyOf nd'.key = some k
    · have : a = i := h.uq a i nd' nd k e1 hi c hk
      subst this
      exact ⟨0, .hit (Int.natCast_nonneg _) (by rw [Int.toNat_natCast, ← hg]; exact e1) c⟩
    · obtain ⟨m, hm⟩ := ih hb
      refine ⟨m + 1, .step (Int.natCast_nonneg _) (by rw [Int.toNat_natCast, ← hg]; exact e1) c ?_⟩
      rw [e2]; exact hm
theorem fnd_none {nds : List Nd} {n : Nat} {g : Nat → Option Nd} {free : Int} (hg : ∀ i, g i = nds[i]?) (h : Inv0 n g free) {k : Ky} (hk : ∀ j nj, g j = some nj → kyOf nj.key ≠ some k) (s : Nat) (hs : s < n) : ∃ m, Fnd nds k m (s : Int) (-1) := by
  obtain ⟨r, hr⟩ := h.rk
  generalize hz : r s = z
  induction z using Nat.strongRecOn generalizing s with
  | _ z ih =>
    have hd := (h.dm s).mpr hs
    obtain ⟨nd, e⟩ := Option.isSome_iff_exists.mp hd
    rcases h.rg s nd e with e2 | ⟨j, e2, e3⟩
    · exact ⟨1, .step (Int.natCast_nonneg _) (by rw [Int.toNat_natCast, ← hg]; exact e) (hk s nd e) (by rw [e2]; exact .out (by decide))⟩
    · obtain ⟨m, hm⟩ := ih (r j) (hz ▸ hr s nd j e e2) j e3 rfl
      exact ⟨m + 1, .step (Int.natCast_nonneg _) (by rw [Int.toNat_natCast, ← hg]; exact e) (hk s nd e) (by rw [e2]; exact hm)⟩
theorem freeP_key {nds : List Nd} {m f : Nat} {r : Int} (h : FreeP nds m f r) (e : r = (f : Int)) : ∃ sp, nds[f]? = some sp ∧ sp.key = .none := by
  induction h with
  | out => omega
  | hit h1 h2 => exact ⟨_, h1, h2⟩
  | step _ _ _ ih => exact ih e
theorem freeP_above {nds : List Nd} {m f : Nat} {r : Int} (h : FreeP nds m f r) (e : r = (f : Int)) : f < m ∧ ∀ j nj, f < j → j < m → nds[j]? = some nj → nj.key ≠ .none := by
  induction h with
  | out => omega
  | hit h1 h2 => exact ⟨Nat.lt_succ_self _, fun j nj a b => by omega⟩
  | @step n f r nd h1 h2 _ ih =>
    obtain ⟨a, b⟩ := ih e
    refine ⟨by omega, fun j nj c d q => ?_⟩
    by_cases x : j = n
    · subst x; rw [h1] at q; (first | obtain rfl := Option.some.inj q | cases q); exact h2
    · exact b j nj c (by omega) q
theorem freeP_ex {nds : List Nd} : ∀ (m : Nat), m ≤ nds.length → (∃ i nd, i < m ∧ nds[i]? = some nd ∧ nd.key = .none) → ∃ f, FreeP nds m f (f : Int)
  | 0, _, ⟨_, _, h, _⟩ => by omega
  | m + 1, hm, ⟨i, nd, h1, h2, h3⟩ => by
    have e : nds[m]? = some nds[m] := List.getElem?_eq_getElem (by omega)
    by_cases c : nds[m].key = .none
    · exact ⟨m, .hit e c⟩
    · have : i ≠ m := by
        rintro rfl
        rw [e] at h2; (first | obtain rfl := Option.some.inj h2 | cases h2); exact c h3
      obtain ⟨f, hf⟩ := freeP_ex m (by omega) ⟨i, nd, by omega, h2, h3⟩
      exact ⟨f, .step e c hf⟩
theorem prv_nxt {nds : List Nd} {main oi : Int} {q p : Nat} (h : Prv nds main q oi p) : ∃ pn, nds[p]? = some pn ∧ pn.nxt = main := by
  induction h with
  | here h1 h2 => exact ⟨_, h1, h2⟩
  | step _ _ _ ih => exact ih
theorem prv_of {nds : List Nd} {g : Nat → Option Nd} (hg : ∀ i, g i = nds[i]?) {i : Nat} : ∀ s b, Rch g s b → b = i → s ≠ i → ∃ q p, Prv nds (i : Int) q (s : Int) p := by
  intro s b r
  induction r with
  | refl a => exact fun e e2 => absurd e e2
  | @step a j b nd' e1 e2 _ ih =>
    intro hb hai
    rw [hg] at e1
    by_cases c : j = i
    · exact ⟨0, a, .here e1 (by rw [e2, c])⟩
    · obtain ⟨q, p, h⟩ := ih hb c
      exact ⟨q + 1, p, .step e1 (by rw [e2]; omega) (by rw [e2]; exact h)⟩
structure Inv (V : Tab) : Prop where
  iv : Inv0 V.nds.length (fun i => V.nds[i]?) V.free
  wf : Wf V
  f0 : 0 ≤ V.free ∧ V.free ≤ V.nds.length
  na : ∀ nd ∈ V.nds, ∀ k, kyOf nd.key = some k → ¬ InArr V k ∧ KyOk k ∧ KyB k
theorem key_none {V : Tab} (h : Wf V) {i : Nat} {nd : Nd} (e : V.nds[i]? = some nd) : kyOf nd.key = none ↔ nd.key = .none := by
  constructor
  · intro q
    rcases h.hko nd (List.mem_of_getElem? e) with h | h
    · exact h
    · rw [q] at h; (first | obtain rfl := Option.some.inj h | cases h)
  · intro q; rw [q]; rfl
theorem Inv.pre {V : Tab} (h : Inv V) {k : Ky} (ho : ∃ (i : Nat) (nd : Nd), V.nds[i]? = some nd ∧ kyOf nd.key = none) : InsPre V k := by
  obtain ⟨j, nj, hj, hjn⟩ := ho
  have hlt := lt_of_get hj
  have hpos : 0 < V.nds.length := by omega
  have hr := MP_range hpos k
  obtain ⟨i, hi⟩ := Int.eq_ofNat_of_zero_le hr.1
  have hil : i < V.nds.length := by omega
  have ei : V.nds[i]? = some V.nds[i] := List.getElem?_eq_getElem hil
  generalize V.nds[i] = nd at ei
  by_cases hv : nd.val = .none
  · exact .free hi ei hv
  · have hkn : kyOf nd.key ≠ none := fun e => hv (h.iv.k0 i nd ei e).2
    obtain ⟨k', hk'⟩ := Option.ne_none_iff_exists'.mp hkn
    obtain ⟨n, hn⟩ := Int.eq_ofNat_of_zero_le h.f0.1
    have hjf : ¬ V.free ≤ (j : Int) := fun e => h.iv.fr j nj hj e hjn
    obtain ⟨f, hf⟩ := freeP_ex n (by have := h.f0.2; omega) ⟨j, nj, by omega, hj, (key_none h.wf hj).mp hjn⟩
    obtain ⟨sp, hs1, hs2⟩ := freeP_key hf rfl
    have hfi : f ≠ i := by rintro rfl; rw [ei] at hs1; (first | obtain rfl := Option.some.inj hs1 | cases hs1); rw [hs2] at hk'; (first | obtain rfl := Option.some.inj hk' | cases hk')
    have hok := (h.na nd (List.mem_of_getElem? ei) k' hk').2.1
    have hr' := MP_range hpos k'
    obtain ⟨o, ho⟩ := Int.eq_ofNat_of_zero_le hr'.1
    by_cases hoi : o = i
    · subst hoi
      exact .same hi ei hv hn hf hs1 hfi hk' hok ho
    · obtain ⟨s, e3, e4⟩ := h.iv.rc i nd k' ei hk'
      have hso : s = o := Int.ofNat.inj (e3.symm.trans ho)
      subst hso
      obtain ⟨q, p, hp⟩ := prv_of (fun _ => rfl) s i e4 rfl hoi
      obtain ⟨pn, hp1, hp2⟩ := prv_nxt hp
      refine .moved hi ei hv hn hf hs1 hfi hk' hok ho hoi hp hp1 ?_ ?_
      · rintro rfl
        rw [hs1] at hp1; (first | obtain rfl := Option.some.inj hp1 | cases hp1)
        have := (h.iv.k0 p sp hs1 (by rw [hs2]; rfl)).1
        rw [this] at hp2; omega
      · rintro rfl
        obtain ⟨r, hr⟩ := h.iv.rk
        exact absurd (hr p pn p hp1 hp2) (Nat.lt_irrefl _)
noncomputable def Cont (V : Tab) (k : Ky) (v : Value) : Prop :=
  (InArr V k ∧ ∃ n, k = .i n ∧ V.arr[(n - 1).toNat]? = some v) ∨ (¬ InArr V k ∧ Cn (fun i => V.nds[i]?) k v)
theorem Inv.look {V : Tab} (h : Inv V) {k : Ky} {v : Value} (c : Cont V k v) : Look V k v := by
  rcases c with ⟨a, n, rfl, e⟩ | ⟨a, ⟨i, nd, e1, e2, e3⟩ | ⟨e1, e2⟩⟩
  · exact .arr a.1 a.2 e
  · subst e3
    have hlt := lt_of_get e1
    obtain ⟨s, q1, q2⟩ := h.iv.rc i nd k e1 e2
    refine .hit (r := (i : Int)) a ⟨fun e => by omega, fun _ => ?_⟩ (Int.natCast_nonneg _) (by rw [Int.toNat_natCast]; exact e1)
    rw [q1]
    exact fnd_of (fun _ => rfl) h.iv e1 e2 s i q2 rfl
  · subst e2
    refine .miss a ⟨fun _ => rfl, fun hpos => ?_⟩
    have hr := MP_range hpos k
    obtain ⟨s, hs⟩ := Int.eq_ofNat_of_zero_le hr.1
    rw [hs]
    exact fnd_none (fun _ => rfl) h.iv e1 s (by omega)
end Mine
end
section
open PySem PySem.W PySem.Spec PySem.Calls PyProof.Rows
namespace Mine
theorem gset1 {l : List Nd} {i : Nat} {a b : Nd} (hi : i < l.length) : (fun j => ((l.set i a).set i b)[j]?) = fun j => if j = i then some b else l[j]? := by
  funext j
  rw [List.set_set, List.getElem?_set]
  by_cases c : i = j
  · subst c; rw [if_pos rfl, if_pos rfl, if_pos hi]
  · rw [if_neg c, if_neg (Ne.symm c)]
theorem lset2 {l : List Nd} {i f : Nat} {a b c d : Nd} (h : f ≠ i) : ((((l.set f a).set i b).set f c).set f d) = (l.set i b).set f d := by
  rw [List.set_set, List.set_comm _ _ h, List.set_set]
theorem lset3 {l : List Nd} {i f p : Nat} {a b c d e z : Nd} : (((((l.set p a).set f b).set i c).set i d).set i e).set i z = ((l.set p a).set f b).set i z := by
  rw [List.set_set, List.set_set, List.set_set]
theorem gset2 {l : List Nd} {i f : Nat} {b d : Nd} (hi : i < l.length) (hf : f < l.length) : (fun j => ((l.set i b).set f d)[j]?) = fun j => if j = f then some d else if j = i then some b else l[j]? := by
  funext j
  rw [List.getElem?_set, List.getElem?_set, List.length_set]
  by_cases c : f = j
  · subst c; rw [if_pos rfl, if_pos rfl, if_pos hf]
  · rw [if_neg c, if_neg (Ne.symm c)]
    by_cases c2 : i = j
    · subst c2; rw [if_pos rfl, if_pos rfl, if_pos hi]
    · rw [if_neg c2, if_neg (Ne.symm c2)]
theorem gset3 {l : List Nd} {i f p : Nat} {a b z : Nd} (hi : i < l.length) (hf : f < l.length) (hp : p < l.length) (hfi : f ≠ i) : (fun j => (((l.set p a).set f b).set i z)[j]?) = fun j => if j = f then some b else if j = i then some z else if j = p then some a else l[j]? := by
  funext j
  rw [List.getElem?_set, List.getElem?_set, List.getElem?_set, List.length_set, List.length_set]
  by_cases c : f = j
  · subst c; rw [if_pos rfl, if_pos rfl, if_pos hf, if_neg (Ne.symm hfi)]
  · rw [if_neg c, if_neg (Ne.symm c)]
    by_cases c2 : i = j
    · subst c2; rw [if_pos rfl, if_pos rfl, if_pos hi]
    · rw [if_neg c2, if_neg (Ne.symm c2)]
      by_cases c3 : p = j
      · subst c3; rw [if_pos rfl, if_pos rfl, if_pos hp]
      · rw [if_neg c3, if_neg (Ne.symm c3)]
/-! counting -/
noncomputable def occ : List Nd → Nat
  | [] => 0
  | nd :: r => (if kyOf nd.key = none then 0 else 1) + occ r
theorem occ_set {a nd : Nd} : ∀ {l : List Nd} {i : Nat}, l[i]? = some nd → occ (l.set i a) + (if kyOf nd.key = none then 0 else 1) = occ l + (if kyOf a.key = none then 0 else 1)
  | [], _, h => by simp at h
  | b :: r, 0, h => by
    have e : b = nd := by simpa using h
    subst e
    show (_ + occ r) + _ = (_ + occ r) + _
    omega
  | b :: r, i + 1, h => by
    have := occ_set (a := a) (nd := nd) (l := r) (i := i) (by simpa using h)
    show (_ + occ (r.set i a)) + _ = (_ + occ r) + _
    omega
theorem nAll_set {a nd : Nd} : ∀ {l : List Nd} {i : Nat}, l[i]? = some nd → nAll (l.set i a) + (if nd.val = .none then 0 else 1) = nAll l + (if a.val = .none then 0 else 1)
  | [], _, h => by simp at h
  | b :: r, 0, h => by
    have e : b = nd := by simpa using h
    subst e
    show (_ + nAll r) + _ = (_ + nAll r) + _
    omega
  | b :: r, i + 1, h => by
    have := nAll_set (a := a) (nd := nd) (l := r) (i := i) (by simpa using h)
    show (_ + nAll (r.set i a)) + _ = (_ + nAll r) + _
    omega
theorem occ_lt : ∀ {l : List Nd}, occ l < l.length → ∃ (i : Nat) (nd : Nd), l[i]? = some nd ∧ kyOf nd.key = none
  | [], h => by simp [occ] at h
  | nd :: r, h => by
    by_cases c : kyOf nd.key = none
    · exact ⟨0, nd, rfl, c⟩
    · have : occ r < r.length := by
        have h' : (if kyOf nd.key = none then 0 else 1) + occ r < r.length + 1 := h
        rw [if_neg c] at h'; omega
      obtain ⟨i, n, e1, e2⟩ := occ_lt this
      exact ⟨i + 1, n, e1, e2⟩
structure Ins (V : Tab) (k : Ky) (v : Value) (V' : Tab) : Prop where
  iv0 : Inv V' ∧ ∀ nj ∈ V'.nds, ∀ k2, kyOf nj.key = some k2 → k2 = k ∨ ∃ n0 ∈ V.nds, kyOf n0.key = some k2
  kk : Cont V' k v
  ot : ∀ k2 v2, k2 ≠ k → Cont V k2 v2 → Cont V' k2 v2
  oc : occ V'.nds ≤ occ V.nds + 1
  al : nAll V'.nds ≤ nAll V.nds + 1
  ar : V'.arr = V.arr
  ln : V'.nds.length = V.nds.length
  tt : V'.t = V.t
  nu : V'.num = V.num
theorem Ins.iv {V V' : Tab} {k : Ky} {v : Value} (h : Ins V k v V') : Inv V' := h.iv0.1
theorem Ins.sr {V V' : Tab} {k : Ky} {v : Value} (h : Ins V k v V') : ∀ nj ∈ V'.nds, ∀ k2, kyOf nj.key = some k2 → k2 = k ∨ ∃ n0 ∈ V.nds, kyOf n0.key = some k2 := h.iv0.2
theorem inArr_eq {V V' : Tab} (h : V'.arr = V.arr) (k : Ky) : InArr V' k ↔ InArr V k := by
  cases k with
  | i n => show (1 ≤ n ∧ n ≤ (V'.arr.length : Int)) ↔ _; rw [h]; exact Iff.rfl
  | b x => exact Iff.rfl
theorem mkInv {V V' : Tab} {k : Ky} {g' : Nat → Option Nd} (h : Inv V) (hg : (fun j => V'.nds[j]?) = g') (hlen : V'.nds.length = V.nds.length) (harr : V'.arr = V.arr) (iv : Inv0 V.nds.length g' V'.free) (hf0 : 0 ≤ V'.free ∧ V'.free ≤ V.nds.length)
    (hna : ¬ InArr V k) (ok : KyOk k) (kb : KyB k)
    (src : ∀ j nj, g' j = some nj → (nj.key = .none ∨ (kyOf nj.key).isSome = true) ∧ handedIn nj.val = true ∧ (∀ k2, kyOf nj.key = some k2 → k2 = k ∨ ∃ n0 ∈ V.nds, kyOf n0.key = some k2)) : Inv V' ∧ ∀ nj ∈ V'.nds, ∀ k2, kyOf nj.key = some k2 → k2 = k ∨ ∃ n0 ∈ V.nds, kyOf n0.key = some k2 := by
  have src' : ∀ nj ∈ V'.nds, (nj.key = .none ∨ (kyOf nj.key).isSome = true) ∧ handedIn nj.val = true ∧ (∀ k2, kyOf nj.key = some k2 → k2 = k ∨ ∃ n0 ∈ V.nds, kyOf n0.key = some k2) := by
    intro nj hm
    obtain ⟨j, e⟩ := List.getElem?_of_mem hm
    exact src j nj (by rw [← hg]; exact e)
  refine ⟨?_, fun nj hm => (src' nj hm).2.2⟩
  refine ⟨by rw [hg, hlen]; exact iv, ⟨by rw [hlen]; exact h.wf.hn, by rw [harr]; exact h.wf.ha, fun nj hm => (src' nj hm).1, fun nj hm => (src' nj hm).2.1⟩, by rw [hlen]; exact hf0, fun nj hm k2 e => ?_⟩
  rw [inArr_eq harr]
  rcases (src' nj hm).2.2 k2 e with rfl | ⟨n0, q1, q2⟩
  · exact ⟨hna, ok, kb⟩
  · exact h.na n0 q1 k2 q2
theorem cont_lift {V V' : Tab} {g' : Nat → Option Nd} {k2 : Ky} {v2 : Value} (hg : (fun j => V'.nds[j]?) = g') (harr : V'.arr = V.arr) (h : Cn (fun i => V.nds[i]?) k2 v2 → Cn g' k2 v2) (c : Cont V k2 v2) : Cont V' k2 v2 := by
  rcases c with ⟨a, n, e, q⟩ | ⟨a, c⟩
  · exact .inl ⟨(inArr_eq harr k2).mpr a, n, e, by rw [harr]; exact q⟩
  · exact .inr ⟨fun x => a ((inArr_eq harr k2).mp x), by rw [hg]; exact h c⟩
theorem setNd_nds (V : Tab) (i : Nat) (a : Nd) : (V.setNd i a).nds = V.nds.set i a := rfl
theorem setNd_arr (V : Tab) (i : Nat) (a : Nd) : (V.setNd i a).arr = V.arr := rfl
theorem setNd_free (V : Tab) (i : Nat) (a : Nd) : (V.setNd i a).free = V.free := rfl
theorem setNd_t (V : Tab) (i : Nat) (a : Nd) : (V.setNd i a).t = V.t := rfl
theorem setNd_num (V : Tab) (i : Nat) (a : Nd) : (V.setNd i a).num = V.num := rfl
theorem wFree_nds (V : Tab) (f : Int) (t : Tok) : (V.wFree f t).nds = V.nds := rfl
theorem wFree_arr (V : Tab) (f : Int) (t : Tok) : (V.wFree f t).arr = V.arr := rfl
theorem wFree_free (V : Tab) (f : Int) (t : Tok) : (V.wFree f t).free = f := rfl
theorem wFree_t (V : Tab) (f : Int) (t : Tok) : (V.wFree f t).t = V.t := rfl
theorem wFree_num (V : Tab) (f : Int) (t : Tok) : (V.wFree f t).num = V.num := rfl
theorem moved_W (V : Tab) (f p i : Nat) (tf : Tok) (a b c d e z : Nd) : ∃ W, ((((((V.wFree (f : Int) tf).setNd p a).setNd f b).setNd i c).setNd i d).setNd i e).setNd i z = W ∧
    W.nds = (((((V.nds.set p a).set f b).set i c).set i d).set i e).set i z ∧ W.arr = V.arr ∧ W.free = (f : Int) ∧ W.t = V.t ∧ W.num = V.num :=
  ⟨_, rfl, by rw [setNd_nds, setNd_nds, setNd_nds, setNd_nds, setNd_nds, setNd_nds, wFree_nds], by rw [setNd_arr, setNd_arr, setNd_arr, setNd_arr, setNd_arr, setNd_arr, wFree_arr], by rw [setNd_free, setNd_free, setNd_free, setNd_free, setNd_free, setNd_free, wFree_free], by rw [setNd_t, setNd_t, setNd_t, setNd_t, setNd_t, setNd_t, wFree_t], by rw [setNd_num, setNd_num, setNd_num, setNd_num, setNd_num, setNd_num, wFree_num]⟩
theorem same_W (V : Tab) (f i : Nat) (tf : Tok) (a b c d : Nd) : ∃ W, ((((V.wFree (f : Int) tf).setNd f a).setNd i b).setNd f c).setNd f d = W ∧
    W.nds = (((V.nds.set f a).set i b).set f c).set f d ∧ W.arr = V.arr ∧ W.free = (f : Int) ∧ W.t = V.t ∧ W.num = V.num :=
  ⟨_, rfl, by rw [setNd_nds, setNd_nds, setNd_nds, setNd_nds, wFree_nds], by rw [setNd_arr, setNd_arr, setNd_arr, setNd_arr, wFree_arr], by rw [setNd_free, setNd_free, setNd_free, setNd_free, wFree_free], by rw [setNd_t, setNd_t, setNd_t, setNd_t, wFree_t], by rw [setNd_num, setNd_num, setNd_num, setNd_num, wFree_num]⟩
set_option maxHeartbeats 4000000 in
theorem Inv.ins {V V' : Tab} {k : Ky} {key v : Value} (h : Inv V) (r : InsR V k key v V') (hkey : kyOf key = some k) (hv : handedIn v = true) (hk : ∀ nd ∈ V.nds, kyOf nd.key ≠ some k) (hna : ¬ InArr V k) (ok : KyOk k) (kb : KyB k) : Ins V k v V' := by
  have hk0 : ∀ (j : Nat) (nj : Nd), V.nds[j]? = some nj → kyOf nj.key ≠ some k := fun j nj e => hk nj (List.mem_of_getElem? e)
  have keyok : key = .none ∨ (kyOf key).isSome = true := .inr (by rw [hkey]; rfl)
  have old : ∀ nj ∈ V.nds, (nj.key = .none ∨ (kyOf nj.key).isSome = true) ∧ handedIn nj.val = true ∧ (∀ k2, kyOf nj.key = some k2 → k2 = k ∨ ∃ n0 ∈ V.nds, kyOf n0.key = some k2) :=
    fun nj hm => ⟨h.wf.hko nj hm, h.wf.hvo nj hm, fun k2 e => .inr ⟨nj, hm, e⟩⟩
  cases r with
  | @free i nd a1 a2 a3 =>
    have hil := lt_of_get a2
    have hg := gset1 (a := nd.w key nd.val nd.nxt nd.tn) (b := nd.w key v nd.nxt nd.tn) hil
    have hmem := List.mem_of_getElem? a2
    have iv := h.iv.free_ins (nw := nd.w key v nd.nxt nd.tn) hk0 a1 a2 hkey rfl
    have e1 : (V.nds.set i (nd.w key nd.val nd.nxt nd.tn)).set i (nd.w key v nd.nxt nd.tn) = V.nds.set i (nd.w key v nd.nxt nd.tn) := List.set_set ..
    refine ⟨mkInv h hg (by simp [Tab.setNd]) rfl iv h.f0 hna ok kb ?_, ?_, ?_, ?_, ?_, rfl, by simp [Tab.setNd], rfl, rfl⟩
    · intro j nj e
      by_cases c : j = i
      · subst c
        rw [if_pos rfl] at e; (first | obtain rfl := Option.some.inj e | cases e)
        exact ⟨keyok, hv, fun k2 e => .inl (by
          have e' : kyOf key = some k2 := e
          rw [hkey] at e'; exact (Option.some.inj e').symm)⟩
      · rw [if_neg c] at e
        exact old nj (List.mem_of_getElem? e)
    · exact .inr ⟨hna, by rw [show (fun j => ((V.setNd i (nd.w key nd.val nd.nxt nd.tn)).setNd i (nd.w key v nd.nxt nd.tn)).nds[j]?) = _ from hg]; exact .inl ⟨i, _, if_pos rfl, hkey, rfl⟩⟩
    · intro k2 v2 hne c
      refine cont_lift (V := V) hg rfl (fun c => ?_) c
      rcases c with ⟨j, nj, q1, q2, q3⟩ | ⟨q1, q2⟩
      · have q1 : V.nds[j]? = some nj := q1
        by_cases c : j = i
        · subst c
          rw [a2] at q1; (first | obtain rfl := Option.some.inj q1 | cases q1)
          refine .inr ⟨fun j2 n2 e2 e3 => ?_, by rw [← q3]; exact a3⟩
          dsimp only at e2
          by_cases c2 : j2 = j
          · subst c2
            rw [if_pos rfl] at e2; (first | obtain rfl := Option.some.inj e2 | cases e2)
            have e' : kyOf key = some k2 := e3
            rw [hkey] at e'; exact hne (Option.some.inj e').symm
          · rw [if_neg c2] at e2
            exact c2 (h.iv.uq j2 j n2 nd k2 e2 a2 e3 q2)
        · exact .inl ⟨j, nj, (if_neg c).trans q1, q2, q3⟩
      · refine .inr ⟨fun j2 n2 e2 e3 => ?_, q2⟩
        dsimp only at e2
        by_cases c2 : j2 = i
        · subst c2
          rw [if_pos rfl] at e2; (first | obtain rfl := Option.some.inj e2 | cases e2)
          have e' : kyOf key = some k2 := e3
          rw [hkey] at e'; exact hne (Option.some.inj e').symm
        · rw [if_neg c2] at e2
          exact q1 j2 n2 e2 e3
    · have := occ_set (a := nd.w key v nd.nxt nd.tn) a2
      show occ ((V.nds.set i (nd.w key nd.val nd.nxt nd.tn)).set i (nd.w key v nd.nxt nd.tn)) ≤ _
      rw [e1]
      have q : (if kyOf (nd.w key v nd.nxt nd.tn).key = none then 0 else 1) ≤ 1 := by split <;> omega
      omega
    · have := nAll_set (a := nd.w key v nd.nxt nd.tn) a2
      show nAll ((V.nds.set i (nd.w key nd.val nd.nxt nd.tn)).set i (nd.w key v nd.nxt nd.tn)) ≤ _
      rw [e1]
      have q : (if (nd.w key v nd.nxt nd.tn).val = .none then (0 : Int) else 1) ≤ 1 := by split <;> omega
      have q2 : 0 ≤ (if nd.val = .none then (0 : Int) else 1) := by split <;> omega
      omega
  | @same i f n nd sp k' tf tr a1 a2 a3 a4 a5 a6 a7 a8 a9 a10 =>
    have hil := lt_of_get a2
    have hfl := lt_of_get a6
    obtain ⟨sp', b1, b2⟩ := freeP_key a5 rfl
    rw [a6] at b1; (first | obtain rfl := Option.some.inj b1 | cases b1)
    obtain ⟨b3, b4⟩ := freeP_above a5 rfl
    have hs : kyOf sp.key = none := by rw [b2]; rfl
    have ha : ∀ (j : Nat) (nj : Nd), V.nds[j]? = some nj → f < j → kyOf nj.key ≠ none := by
      intro j nj e hj
      by_cases c : j < n
      · exact fun q => b4 j nj hj c e ((key_none h.wf e).mp q)
      · exact h.iv.fr j nj e (by rw [a4]; omega)
    have e1 := lset2 (l := V.nds) (a := sp.w sp.key sp.val nd.nxt nd.tn) (b := nd.w nd.key nd.val (f : Int) tr) (c := sp.w key sp.val nd.nxt nd.tn) (d := sp.w key v nd.nxt nd.tn) a7
    have hg := gset2 (l := V.nds) (b := nd.w nd.key nd.val (f : Int) tr) (d := sp.w key v nd.nxt nd.tn) hil hfl
    rw [← e1] at hg
    have iv := h.iv.same_ins (ni := nd.w nd.key nd.val (f : Int) tr) (nf := sp.w key v nd.nxt nd.tn) hk0 a1 a2 a8 a10 a6 hs ha a8 rfl hkey rfl
    have cs : ∀ (j : Nat) (nj : Nd), (if j = f then some (sp.w key v nd.nxt nd.tn) else if j = i then some (nd.w nd.key nd.val (f : Int) tr) else V.nds[j]?) = some nj → (j = f ∧ nj = sp.w key v nd.nxt nd.tn) ∨ (j = i ∧ nj = nd.w nd.key nd.val (f : Int) tr) ∨ (j ≠ f ∧ j ≠ i ∧ V.nds[j]? = some nj) := by
      intro j nj e
      by_cases c : j = f
      · rw [if_pos c] at e; (first | obtain rfl := Option.some.inj e | cases e); exact .inl ⟨c, rfl⟩
      · rw [if_neg c] at e
        by_cases c2 : j = i
        · rw [if_pos c2] at e; (first | obtain rfl := Option.some.inj e | cases e); exact .inr (.inl ⟨c2, rfl⟩)
        · rw [if_neg c2] at e; exact .inr (.inr ⟨c, c2, e⟩)
    obtain ⟨W, hW, f1, f2, f3, f4, f5⟩ := same_W V f i tf (sp.w sp.key sp.val nd.nxt nd.tn) (nd.w nd.key nd.val (f : Int) tr) (sp.w key sp.val nd.nxt nd.tn) (sp.w key v nd.nxt nd.tn)
    rw [hW]
    clear hW
    rw [← f1] at hg e1
    have hln : W.nds.length = V.nds.length := by rw [f1]; simp
    refine ⟨mkInv h hg hln f2 (by rw [f3]; exact iv) ⟨by rw [f3]; exact Int.natCast_nonneg _, by rw [f3]; omega⟩ hna ok kb ?_, ?_, ?_, ?_, ?_, f2, hln, f4, f5⟩
    · intro j nj e
      rcases cs j nj e with ⟨_, rfl⟩ | ⟨_, rfl⟩ | ⟨_, _, e⟩
      · exact ⟨keyok, hv, fun k2 e => .inl (by
          have e' : kyOf key = some k2 := e
          rw [hkey] at e'; exact (Option.some.inj e').symm)⟩
      · exact old nd (List.mem_of_getElem? a2)
      · exact old nj (List.mem_of_getElem? e)
    · exact .inr ⟨fun x => hna ((inArr_eq f2 k).mp x), .inl ⟨f, sp.w key v nd.nxt nd.tn, by
        have := congrFun hg f
        exact this.trans (if_pos rfl), hkey, rfl⟩⟩
    · intro k2 v2 hne c
      refine cont_lift (V := V) hg f2 (fun c => ?_) c
      rcases c with ⟨j, nj, q1, q2, q3⟩ | ⟨q1, q2⟩
      · have q1 : V.nds[j]? = some nj := q1
        have c1 : j ≠ f := by rintro rfl; rw [a6] at q1; (first | obtain rfl := Option.some.inj q1 | cases q1); rw [hs] at q2; (first | obtain rfl := Option.some.inj q2 | cases q2)
        by_cases c : j = i
        · subst c
          rw [a2] at q1; (first | obtain rfl := Option.some.inj q1 | cases q1)
          exact .inl ⟨j, nd.w nd.key nd.val (f : Int) tr, (if_neg c1).trans (if_pos rfl), q2, q3⟩
        · exact .inl ⟨j, nj, ((if_neg c1).trans (if_neg c)).trans q1, q2, q3⟩
      · refine .inr ⟨fun j2 n2 e2 e3 => ?_, q2⟩
        rcases cs j2 n2 e2 with ⟨_, rfl⟩ | ⟨_, rfl⟩ | ⟨_, _, e2⟩
        · have e' : kyOf key = some k2 := e3
          rw [hkey] at e'; exact hne (Option.some.inj e').symm
        · exact q1 i nd a2 e3
        · exact q1 j2 n2 e2 e3
    · rw [e1]
      have w1 := occ_set (a := nd.w nd.key nd.val (f : Int) tr) a2
      have w2 := occ_set (a := sp.w key v nd.nxt nd.tn) (l := V.nds.set i (nd.w nd.key nd.val (f : Int) tr)) (i := f) (nd := sp) (by rw [List.getElem?_set_ne (Ne.symm a7)]; exact a6)
      have q : (if kyOf (sp.w key v nd.nxt nd.tn).key = none then 0 else 1) ≤ 1 := by split <;> omega
      have q2 : (if kyOf (nd.w nd.key nd.val (f : Int) tr).key = none then 0 else 1) = (if kyOf nd.key = none then 0 else 1) := rfl
      omega
    · rw [e1]
      have w1 := nAll_set (a := nd.w nd.key nd.val (f : Int) tr) a2
      have w2 := nAll_set (a := sp.w key v nd.nxt nd.tn) (l := V.nds.set i (nd.w nd.key nd.val (f : Int) tr)) (i := f) (nd := sp) (by rw [List.getElem?_set_ne (Ne.symm a7)]; exact a6)
      have q : (if (sp.w key v nd.nxt nd.tn).val = .none then (0 : Int) else 1) ≤ 1 := by split <;> omega
      have q2 : (if (nd.w nd.key nd.val (f : Int) tr).val = .none then (0 : Int) else 1) = (if nd.val = .none then (0 : Int) else 1) := rfl
      have q3 : 0 ≤ (if sp.val = .none then (0 : Int) else 1) := by split <;> omega
      omega
  | @moved i f n p q o nd sp pn k' tf tr t1 a1 a2 a3 a4 a5 a6 a7 a8 a9 a10 a11 a12 a13 a14 a15 =>
    have hil := lt_of_get a2
    have hfl := lt_of_get a6
    have hpl := lt_of_get a13
    obtain ⟨sp', b1, b2⟩ := freeP_key a5 rfl
    rw [a6] at b1; (first | obtain rfl := Option.some.inj b1 | cases b1)
    obtain ⟨b3, b4⟩ := freeP_above a5 rfl
    have hs : kyOf sp.key = none := by rw [b2]; rfl
    have ha : ∀ (j : Nat) (nj : Nd), V.nds[j]? = some nj → f < j → kyOf nj.key ≠ none := by
      intro j nj e hj
      by_cases c : j < n
      · exact fun q => b4 j nj hj c e ((key_none h.wf e).mp q)
      · exact h.iv.fr j nj e (by rw [a4]; omega)
    obtain ⟨pn', b5, b6⟩ := prv_nxt a12
    rw [a13] at b5; (first | obtain rfl := Option.some.inj b5 | cases b5)
    have e1 := lset3 (l := V.nds) (i := i) (f := f) (p := p) (a := pn.w pn.key pn.val (f : Int) tr) (b := sp.w nd.key nd.val nd.nxt nd.tn) (c := nd.w nd.key nd.val (-1) t1) (d := nd.w nd.key .none (-1) t1) (e := nd.w key .none (-1) t1) (z := nd.w key v (-1) t1)
    have hg := gset3 (l := V.nds) (a := pn.w pn.key pn.val (f : Int) tr) (b := sp.w nd.key nd.val nd.nxt nd.tn) (z := nd.w key v (-1) t1) hil hfl hpl a7
    rw [← e1] at hg
    have iv := h.iv.moved_ins (ni := nd.w key v (-1) t1) (nf := sp.w nd.key nd.val nd.nxt nd.tn) (np' := pn.w pn.key pn.val (f : Int) tr) hk0 a1 a2 a8 a10 a11 a6 hs ha a13 b6 a15 a14 hkey rfl a8 rfl rfl rfl rfl
    have cs : ∀ (j : Nat) (nj : Nd), (if j = f then some (sp.w nd.key nd.val nd.nxt nd.tn) else if j = i then some (nd.w key v (-1) t1) else if j = p then some (pn.w pn.key pn.val (f : Int) tr) else V.nds[j]?) = some nj → (j = f ∧ nj = sp.w nd.key nd.val nd.nxt nd.tn) ∨ (j = i ∧ nj = nd.w key v (-1) t1) ∨ (j = p ∧ nj = pn.w pn.key pn.val (f : Int) tr) ∨ (j ≠ f ∧ j ≠ i ∧ j ≠ p ∧ V.nds[j]? = some nj) := by
      intro j nj e
      by_cases c : j = f
      · rw [if_pos c] at e; (first | obtain rfl := Option.some.inj e | cases e); exact .inl ⟨c, rfl⟩
      · rw [if_neg c] at e
        by_cases c2 : j = i
        · rw [if_pos c2] at e; (first | obtain rfl := Option.some.inj e | cases e); exact .inr (.inl ⟨c2, rfl⟩)
        · rw [if_neg c2] at e
          by_cases c3 : j = p
          · rw [if_pos c3] at e; (first | obtain rfl := Option.some.inj e | cases e); exact .inr (.inr (.inl ⟨c3, rfl⟩))
          · rw [if_neg c3] at e; exact .inr (.inr (.inr ⟨c, c2, c3, e⟩))
    obtain ⟨W, hW, f1, f2, f3, f4, f5⟩ := moved_W V f p i tf (pn.w pn.key pn.val (f : Int) tr) (sp.w nd.key nd.val nd.nxt nd.tn) (nd.w nd.key nd.val (-1) t1) (nd.w nd.key .none (-1) t1) (nd.w key .none (-1) t1) (nd.w key v (-1) t1)
    rw [hW]
    clear hW
    rw [← f1] at hg e1
    have hln : W.nds.length = V.nds.length := by rw [f1]; simp
    refine ⟨mkInv h hg hln f2 (by rw [f3]; exact iv) ⟨by rw [f3]; exact Int.natCast_nonneg _, by rw [f3]; omega⟩ hna ok kb ?_, ?_, ?_, ?_, ?_, f2, hln, f4, f5⟩
    · intro j nj e
      rcases cs j nj e with ⟨_, rfl⟩ | ⟨_, rfl⟩ | ⟨_, rfl⟩ | ⟨_, _, _, e⟩
      · exact old nd (List.mem_of_getElem? a2)
      · exact ⟨keyok, hv, fun k2 e => .inl (by
          have e' : kyOf key = some k2 := e
          rw [hkey] at e'; exact (Option.some.inj e').symm)⟩
      · exact old pn (List.mem_of_getElem? a13)
      · exact old nj (List.mem_of_getElem? e)
    · exact .inr ⟨fun x => hna ((inArr_eq f2 k).mp x), .inl ⟨i, nd.w key v (-1) t1, by
        have := congrFun hg i
        exact this.trans ((if_neg (Ne.symm a7)).trans (if_pos rfl)), hkey, rfl⟩⟩
    · intro k2 v2 hne c
      refine cont_lift (V := V) hg f2 (fun c => ?_) c
      rcases c with ⟨j, nj, q1, q2, q3⟩ | ⟨q1, q2⟩
      · have q1 : V.nds[j]? = some nj := q1
        have c1 : j ≠ f := by rintro rfl; rw [a6] at q1; (first | obtain rfl := Option.some.inj q1 | cases q1); rw [hs] at q2; (first | obtain rfl := Option.some.inj q2 | cases q2)
        by_cases c : j = i
        · subst c
          rw [a2] at q1; (first | obtain rfl := Option.some.inj q1 | cases q1)
          exact .inl ⟨f, sp.w nd.key nd.val nd.nxt nd.tn, if_pos rfl, q2, q3⟩
        · by_cases c3 : j = p
          · subst c3
            rw [a13] at q1; (first | obtain rfl := Option.some.inj q1 | cases q1)
            exact .inl ⟨j, pn.w pn.key pn.val (f : Int) tr, ((if_neg c1).trans (if_neg c)).trans (if_pos rfl), q2, q3⟩
          · exact .inl ⟨j, nj, (((if_neg c1).trans (if_neg c)).trans (if_neg c3)).trans q1, q2, q3⟩
      · refine .inr ⟨fun j2 n2 e2 e3 => ?_, q2⟩
        rcases cs j2 n2 e2 with ⟨_, rfl⟩ | ⟨_, rfl⟩ | ⟨_, rfl⟩ | ⟨_, _, _, e2⟩
        · exact q1 i nd a2 e3
        · have e' : kyOf key = some k2 := e3
          rw [hkey] at e'; exact hne (Option.some.inj e').symm
        · exact q1 p pn a13 e3
        · exact q1 j2 n2 e2 e3
    · rw [e1]
      have w1 := occ_set (a := pn.w pn.key pn.val (f : Int) tr) a13
      have w2 := occ_set (a := sp.w nd.key nd.val nd.nxt nd.tn) (l := V.nds.set p (pn.w pn.key pn.val (f : Int) tr)) (i := f) (nd := sp) (by rw [List.getElem?_set_ne a14]; exact a6)
      have w3 := occ_set (a := nd.w key v (-1) t1) (l := (V.nds.set p (pn.w pn.key pn.val (f : Int) tr)).set f (sp.w nd.key nd.val nd.nxt nd.tn)) (i := i) (nd := nd) (by rw [List.getElem?_set_ne a7, List.getElem?_set_ne a15]; exact a2)
      have q : (if kyOf (sp.w nd.key nd.val nd.nxt nd.tn).key = none then 0 else 1) = (if kyOf nd.key = none then 0 else 1) := rfl
      have q1 : (if kyOf (nd.w key v (-1) t1).key = none then 0 else 1) ≤ 1 := by split <;> omega
      have q2 : (if kyOf (pn.w pn.key pn.val (f : Int) tr).key = none then 0 else 1) = (if kyOf pn.key = none then 0 else 1) := rfl
      omega
    · rw [e1]
      have w1 := nAll_set (a := pn.w pn.key pn.val (f : Int) tr) a13
      have w2 := nAll_set (a := sp.w nd.key nd.val nd.nxt nd.tn) (l := V.nds.set p (pn.w pn.key pn.val (f : Int) tr)) (i := f) (nd := sp) (by rw [List.getElem?_set_ne a14]; exact a6)
      have w3 := nAll_set (a := nd.w key v (-1) t1) (l := (V.nds.set p (pn.w pn.key pn.val (f : Int) tr)).set f (sp.w nd.key nd.val nd.nxt nd.tn)) (i := i) (nd := nd) (by rw [List.getElem?_set_ne a7, List.getElem?_set_ne a15]; exact a2)
      have q : (if (sp.w nd.key nd.val nd.nxt nd.tn).val = .none then (0 : Int) else 1) = (if nd.val = .none then (0 : Int) else 1) := rfl
      have q1 : (if (nd.w key v (-1) t1).val = .none then (0 : Int) else 1) ≤ 1 := by split <;> omega
      have q2 : (if (pn.w pn.key pn.val (f : Int) tr).val = .none then (0 : Int) else 1) = (if pn.val = .none then (0 : Int) else 1) := rfl
      have q3 : 0 ≤ (if sp.val = .none then (0 : Int) else 1) := by split <;> omega
      omega
end Mine
end
section
open PySem PySem.W PySem.Spec PySem.Calls PyProof.Rows
namespace Mine
/-! content: total, single-valued -/
theorem Inv.ex {V : Tab} (h : Inv V) (k : Ky) : ∃ v, Cont V k v := by
  by_cases a : InArr V k
  · cases k with
    | i n =>
      have a' : 1 ≤ n ∧ n ≤ (V.arr.length : Int) := a
      have hl : (n - 1).toNat < V.arr.length := by omega
      exact ⟨_, .inl ⟨a, n, rfl, List.getElem?_eq_getElem hl⟩⟩
    | b x => exact a.elim
  · by_cases c : ∃ (i : Nat) (nd : Nd), V.nds[i]? = some nd ∧ kyOf nd.key = some k
    · obtain ⟨i, nd, e1, e2⟩ := c
      exact ⟨nd.val, .inr ⟨a, .inl ⟨i, nd, e1, e2, rfl⟩⟩⟩
    · exact ⟨.none, .inr ⟨a, .inr ⟨fun i nd e1 e2 => c ⟨i, nd, e1, e2⟩, rfl⟩⟩⟩
theorem Inv.fn {V : Tab} (h : Inv V) : ∃ C : Ky → Value, ∀ k, Cont V k (C k) := Classical.skolem.mp h.ex
theorem Inv.one {V : Tab} (h : Inv V) {k : Ky} {v v' : Value} (c : Cont V k v) (c' : Cont V k v') : v = v' := by
  rcases c with ⟨a, n, rfl, e⟩ | ⟨a, c⟩ <;> rcases c' with ⟨a', n', e1, e'⟩ | ⟨a', c'⟩
  · (first | obtain rfl := Option.some.inj e1 | cases e1); rw [e] at e'; exact Option.some.inj e'
  · exact absurd a a'
  · exact absurd a' a
  · rcases c with ⟨i, nd, q1, q2, q3⟩ | ⟨q1, q2⟩ <;> rcases c' with ⟨i', nd', q1', q2', q3'⟩ | ⟨q1', q2'⟩
    · have q1 : V.nds[i]? = some nd := q1
      have q1' : V.nds[i']? = some nd' := q1'
      have := h.iv.uq i i' nd nd' k q1 q1' q2 q2'
      subst this
      rw [q1] at q1'; (first | obtain rfl := Option.some.inj q1' | cases q1')
      rw [← q3, ← q3']
    · exact absurd q2 (q1' i nd q1)
    · exact absurd q2' (q1 i' nd' q1')
    · rw [q2, q2']
/-! a store in the array part -/
theorem setArr_len {V : Tab} {i : Nat} {v : Value} : (V.setArr i v).arr.length = V.arr.length := by
  show (V.arr.set i v).length = _
  rw [List.length_set]
theorem inArr_set {V : Tab} {i : Nat} {v : Value} (k : Ky) : InArr (V.setArr i v) k ↔ InArr V k := by
  cases k with
  | i n => show (1 ≤ n ∧ n ≤ ((V.setArr i v).arr.length : Int)) ↔ _; rw [setArr_len]; exact Iff.rfl
  | b x => exact Iff.rfl
theorem Inv.setArr {V : Tab} (h : Inv V) (i : Nat) (v : Value) : Inv (V.setArr i v) :=
  ⟨h.iv, ⟨h.wf.hn, by rw [setArr_len]; exact h.wf.ha, h.wf.hko, h.wf.hvo⟩, h.f0, fun nd hm k e => by rw [inArr_set]; exact h.na nd hm k e⟩
theorem Cont.setArr_ne {V : Tab} {n : Int} {k : Ky} {v v2 : Value} (h1 : 1 ≤ n) (hk : k ≠ .i n) (c : Cont V k v2) : Cont (V.setArr (n - 1).toNat v) k v2 := by
  rcases c with ⟨a, n', rfl, e⟩ | ⟨a, c⟩
  · have a' : 1 ≤ n' ∧ n' ≤ (V.arr.length : Int) := a
    refine .inl ⟨(inArr_set _).mpr a, n', rfl, ?_⟩
    show (V.arr.set (n - 1).toNat v)[(n' - 1).toNat]? = some v2
    rw [List.getElem?_set_ne, e]
    intro q
    exact hk (congrArg Ky.i (by omega))
  · exact .inr ⟨fun x => a ((inArr_set _).mp x), c⟩
theorem Cont.setArr_eq {V : Tab} {n : Int} {v : Value} (a : InArr V (.i n)) : Cont (V.setArr (n - 1).toNat v) (.i n) v := by
  have a' : 1 ≤ n ∧ n ≤ (V.arr.length : Int) := a
  refine .inl ⟨(inArr_set _).mpr a, n, rfl, ?_⟩
  show (V.arr.set (n - 1).toNat v)[(n - 1).toNat]? = some v
  rw [List.getElem?_set_self]
  omega
theorem nn_set (v : Value) : ∀ (l : List Value) (i : Nat), nn (l.set i v) ≤ nn l + 1
  | [], _ => by simp [nn]
  | a :: r, 0 => by
    show (if v = .none then (0 : Int) else 1) + nn r ≤ (if a = .none then (0 : Int) else 1) + nn r + 1
    split <;> split <;> omega
  | a :: r, i + 1 => by
    show (if a = .none then (0 : Int) else 1) + nn (r.set i v) ≤ (if a = .none then (0 : Int) else 1) + nn r + 1
    have := nn_set v r i
    omega
/-! the state of a refilling: what is told of C at D stands in W -/
structure Same (V W : Tab) : Prop where
  ar : W.arr.length = V.arr.length
  ln : W.nds.length = V.nds.length
  tt : W.t = V.t
  nu : W.num = V.num
theorem Same.trans {V W U : Tab} (h : Same V W) (g : Same W U) : Same V U := ⟨g.ar.trans h.ar, g.ln.trans h.ln, g.tt.trans h.tt, g.nu.trans h.nu⟩
structure St (C : Ky → Value) (D : Ky → Prop) (n l : Int) (W : Tab) : Prop where
  iv : Inv W
  ci : ∀ k, D k → Cont W k (C k)
  co : ∀ k, ¬ D k → Cont W k .none
  ky : ∀ nd ∈ W.nds, ∀ k, kyOf nd.key = some k → D k
  oc : (occ W.nds : Int) ≤ n
  lv : nn W.arr + nAll W.nds ≤ l
theorem St.iff {C : Ky → Value} {D D' : Ky → Prop} {n l n' l' : Int} {W : Tab} (h : St C D n l W) (e : ∀ k, D' k ↔ D k) (hn : n = n') (hl : l = l') : St C D' n' l' W :=
  ⟨h.iv, fun k q => h.ci k ((e k).mp q), fun k q => h.co k (fun x => q ((e k).mpr x)), fun nd hm k q => (e k).mpr (h.ky nd hm k q), hn ▸ h.oc, hl ▸ h.lv⟩
theorem St.skip {C : Ky → Value} {D : Ky → Prop} {n l : Int} {W : Tab} (h : St C D n l W) {k : Ky} (hk : ¬ D k) (hv : C k = .none) : St C (fun x => D x ∨ x = k) n l W :=
  ⟨h.iv, fun x q => q.elim (h.ci x) (fun e => by rw [e, hv]; exact h.co k hk), fun x q => h.co x (fun y => q (.inl y)), fun nd hm x q => .inl (h.ky nd hm x q), h.oc, h.lv⟩
theorem St.putA {C : Ky → Value} {D : Ky → Prop} {n l : Int} {W W' : Tab} (h : St C D n l W) {k : Ky} {key : Value} (r : PutR W k key (C k) W') (a : InArr W k) : St C (fun x => D x ∨ x = k) n (l + 1) W' ∧ Same W W' := by
  cases r with
  | node b => exact absurd a b
  | @arr i e h1 h2 =>
    subst e
    refine ⟨⟨h.iv.setArr _ _, fun x q => ?_, fun x q => (h.co x (fun y => q (.inl y))).setArr_ne h1 (fun y => q (.inr y)), fun nd hm x q => .inl (h.ky nd hm x q), h.oc, ?_⟩, ⟨setArr_len, rfl, rfl, rfl⟩⟩
    · by_cases c : x = .i i
      · subst c; exact Cont.setArr_eq a
      · exact (h.ci x (q.resolve_right c)).setArr_ne h1 c
    · have h1 := h.lv
      have h2 := nn_set (C (.i i)) W.arr (i - 1).toNat
      show nn (W.arr.set (i - 1).toNat (C (.i i))) + nAll W.nds ≤ l + 1
      omega
theorem St.putN {C : Ky → Value} {D : Ky → Prop} {n l : Int} {W W' : Tab} (h : St C D n l W) {k : Ky} {key : Value} (hk : ¬ D k) (r : PutR W k key (C k) W') (a : ¬ InArr W k) (hkey : kyOf key = some k) (hv : handedIn (C k) = true) (ok : KyOk k) (kb : KyB k) : St C (fun x => D x ∨ x = k) (n + 1) (l + 1) W' ∧ Same W W' := by
  cases r with
  | @arr i e h1 h2 => subst e; exact absurd ⟨h1, h2⟩ a
  | node b r =>
    have q := h.iv.ins r hkey hv (fun nd hm e => hk (h.ky nd hm k e)) a ok kb
    refine ⟨⟨q.iv, fun x y => ?_, fun x y => q.ot x _ (fun e => y (.inr e)) (h.co x (fun e => y (.inl e))), fun nd hm x e => ?_, ?_, ?_⟩, ⟨by rw [q.ar], q.ln, q.tt, q.nu⟩⟩
    · by_cases c : x = k
      · subst c; exact q.kk
      · exact q.ot x _ c (h.ci x (y.resolve_right c))
    · rcases q.sr nd hm x e with c | ⟨n0, c1, c2⟩
      · exact .inr c
      · exact .inl (h.ky n0 c1 x c2)
    · have := q.oc; have := h.oc; omega
    · have := q.al; have := h.lv; rw [q.ar]; omega
theorem St.ready {C : Ky → Value} {D : Ky → Prop} {n l : Int} {W : Tab} (h : St C D n l W) (e : n < W.nds.length) (k : Ky) : InArr W k ∨ InsPre W k := by
  refine .inr (h.iv.pre (occ_lt ?_))
  have := h.oc
  omega
/-! the start: fresh nodes -/
noncomputable def Fresh (n : Nat) (l : List Nd) : Prop := l.length = n ∧ ∀ nd ∈ l, nd.key = .none ∧ nd.val = .none ∧ nd.nxt = -1
theorem Fresh.at {n : Nat} {l : List Nd} (h : Fresh n l) {i : Nat} {nd : Nd} (e : l[i]? = some nd) : kyOf nd.key = none ∧ nd.val = .none ∧ nd.nxt = -1 := by
  obtain ⟨a, b, c⟩ := h.2 nd (List.mem_of_getElem? e)
  exact ⟨by rw [a]; rfl, b, c⟩
theorem Fresh.inv0 {n : Nat} {l : List Nd} (h : Fresh n l) : Inv0 l.length (fun i => l[i]?) l.length := by
  refine ⟨fun i => by simp, fun i nd e => .inl (h.at e).2.2, ⟨fun _ => 0, fun i nd j e e2 => ?_⟩, fun i nd k e e2 => ?_, fun i j ni nj k e _ e2 _ => ?_, fun i nd k m e e2 _ => ?_, fun i nd j nj e e2 _ => ?_, fun i j ni nj m e _ e2 _ => ?_, fun i nd e _ => ⟨(h.at e).2.2, (h.at e).2.1⟩, fun i nd e e2 => ?_⟩
  · rw [(h.at e).2.2] at e2; omega
  · rw [(h.at e).1] at e2; (first | obtain rfl := Option.some.inj e2 | cases e2)
  · rw [(h.at e).1] at e2; (first | obtain rfl := Option.some.inj e2 | cases e2)
  · rw [(h.at e).1] at e2; (first | obtain rfl := Option.some.inj e2 | cases e2)
  · rw [(h.at e).2.2] at e2; omega
  · rw [(h.at e).2.2] at e2; omega
  · have := lt_of_get e; omega
theorem Fresh.occ : ∀ {n : Nat} {l : List Nd}, Fresh n l → occ l = 0
  | _, [], _ => rfl
  | _, nd :: r, h => by
    have h1 := h.2 nd (.head _)
    have h2 : Fresh r.length r := ⟨rfl, fun a b => h.2 a (.tail _ b)⟩
    show (if kyOf nd.key = none then 0 else 1) + Mine.occ r = 0
    rw [h1.1, h2.occ]; rfl
theorem Fresh.nAll : ∀ {n : Nat} {l : List Nd}, Fresh n l → nAll l = 0
  | _, [], _ => rfl
  | _, nd :: r, h => by
    have h1 := h.2 nd (.head _)
    have h2 : Fresh r.length r := ⟨rfl, fun a b => h.2 a (.tail _ b)⟩
    show (if nd.val = .none then 0 else 1) + Mine.nAll r = 0
    rw [h1.2.1, h2.nAll]; rfl
theorem Fresh.wf {n : Nat} {l : List Nd} (h : Fresh n l) : KeysOk l ∧ ∀ nd ∈ l, handedIn nd.val = true :=
  ⟨fun nd hm => .inl (h.2 nd hm).1, fun nd hm => by rw [(h.2 nd hm).2.1]; rfl⟩
/-- the array part as resize leaves it -/
noncomputable def padA (l : List Value) (sz : Nat) : List Value := l.take sz ++ List.replicate (sz - l.length) .none
theorem padA_len (l : List Value) (sz : Nat) : (padA l sz).length = sz := by simp [padA]; omega
theorem padA_lt {l : List Value} {sz i : Nat} (h1 : i < sz) (h2 : i < l.length) : (padA l sz)[i]? = l[i]? := by
  unfold padA
  rw [List.getElem?_append_left (by simp; omega), List.getElem?_take_of_lt h1]
theorem padA_ge {l : List Value} {sz i : Nat} (h1 : i < sz) (h2 : l.length ≤ i) : (padA l sz)[i]? = some .none := by
  unfold padA
  rw [List.getElem?_append_right (by simp; omega), List.getElem?_replicate, if_pos]
  simp; omega
theorem nn_repl (k : Nat) : nn (List.replicate k Value.none) = 0 := by
  induction k with
  | zero => rfl
  | succ k ih => rw [List.replicate_succ]; show (if Value.none = .none then (0 : Int) else 1) + nn _ = 0; rw [ih]; rfl
theorem padA_nn (l : List Value) (sz : Nat) : nn (padA l sz) = pre l sz := by
  unfold padA pre
  rw [nn_append, nn_repl]; omega
theorem pre_drop (l : List Value) (n : Nat) : pre l n + nn (l.drop n) = nn l := by
  unfold pre
  rw [← nn_append, List.take_append_drop]
/-- D ahead of the nodes' turns: the first sz + i places of the elder array -/
noncomputable def D1 (V : Tab) (m : Nat) (k : Ky) : Prop := ∃ n : Int, k = .i n ∧ 1 ≤ n ∧ n ≤ (m : Int) ∧ n ≤ (V.arr.length : Int)
theorem St.start {V W : Tab} {C : Ky → Value} {sz N : Nat} (hC : ∀ k, Cont V k (C k)) (h1 : W.arr = padA V.arr sz) (h2 : Fresh N W.nds) (h3 : W.free = (W.nds.length : Int)) (hs : sz ≤ 1000000) (hN : N ≤ 1000000) :
    St C (D1 V sz) 0 (pre V.arr sz) W := by
  have hl : W.arr.length = sz := by rw [h1, padA_len]
  refine ⟨⟨by rw [h3]; exact h2.inv0, ⟨by rw [h2.1]; exact hN, by rw [hl]; exact hs, h2.wf.1, h2.wf.2⟩, by rw [h3]; omega, fun nd hm k e => ?_⟩, fun k q => ?_, fun k q => ?_, fun nd hm k e => ?_, by rw [h2.occ]; exact Int.le_refl _, by rw [h2.nAll, h1, padA_nn]; omega⟩
  · have : kyOf nd.key = none := by rw [(h2.2 nd hm).1]; rfl
    rw [this] at e; (first | obtain rfl := Option.some.inj e | cases e)
  · obtain ⟨n, rfl, q1, q2, q3⟩ := q
    refine .inl ⟨⟨q1, by rw [hl]; exact q2⟩, n, rfl, ?_⟩
    rw [h1, padA_lt (by omega) (by omega)]
    rcases hC (.i n) with ⟨_, n', e1, e2⟩ | ⟨a, _⟩
    · (first | obtain rfl := Option.some.inj e1 | cases e1); exact e2
    · exact absurd (show InArr V (.i n) from ⟨q1, q3⟩) a
  · by_cases a : InArr W k
    · cases k with
      | i n =>
        have a' : 1 ≤ n ∧ n ≤ (W.arr.length : Int) := a
        refine .inl ⟨a, n, rfl, ?_⟩
        rw [h1, padA_ge (by omega) ?_]
        false_or_by_contra
        exact q ⟨n, rfl, a'.1, by omega, by omega⟩
      | b x => exact a.elim
    · refine .inr ⟨a, .inr ⟨fun i nd e e2 => ?_, rfl⟩⟩
      rw [(h2.at (i := i) e).1] at e2; (first | obtain rfl := Option.some.inj e2 | cases e2)
  · have : kyOf nd.key = none := by rw [(h2.2 nd hm).1]; rfl
    rw [this] at e; (first | obtain rfl := Option.some.inj e | cases e)
theorem nn_take {l : List Value} {i : Nat} {v : Value} (h : l[i]? = some v) : nn (l.take (i + 1)) = nn (l.take i) + (if v = .none then 0 else 1) := pre_succ h
theorem D1.succ {V : Tab} {m : Nat} (hm : m < V.arr.length) (k : Ky) : D1 V (m + 1) k ↔ (D1 V m k ∨ k = .i ((m + 1 : Nat) : Int)) := by
  constructor
  · rintro ⟨n, rfl, h1, h2, h3⟩
    by_cases c : n ≤ (m : Int)
    · exact .inl ⟨n, rfl, h1, c, h3⟩
    · exact .inr (congrArg Ky.i (by omega))
  · rintro (⟨n, rfl, h1, h2, h3⟩ | rfl)
    · exact ⟨n, rfl, h1, by omega, h3⟩
    · exact ⟨_, rfl, by omega, Int.le_refl _, by omega⟩
theorem D1.not {V : Tab} {m : Nat} : ¬ D1 V m (.i ((m + 1 : Nat) : Int)) := by
  rintro ⟨n, e, h1, h2, h3⟩
  (first | obtain rfl := Option.some.inj e | cases e); omega
theorem cont_arr {V : Tab} {C : Ky → Value} (hC : ∀ k, Cont V k (C k)) {i : Nat} {v : Value} (e : V.arr[i]? = some v) : C (.i ((i + 1 : Nat) : Int)) = v := by
  have hl := lt_of_get e
  rcases hC (.i ((i + 1 : Nat) : Int)) with ⟨_, n', e1, e2⟩ | ⟨a, _⟩
  · (first | obtain rfl := Option.some.inj e1 | cases e1)
    have : (((i + 1 : Nat) : Int) - 1).toNat = i := by omega
    rw [this, e] at e2
    exact (Option.some.inj e2).symm
  · exact absurd (show InArr V (.i ((i + 1 : Nat) : Int)) from ⟨by omega, by omega⟩) a
/-! the nodes' turns -/
noncomputable def outK (sz : Int) : Ky → Int
  | .i n => if 1 ≤ n ∧ n ≤ sz then 0 else 1
  | .b _ => 1
noncomputable def cntOut (sz : Int) : List Nd → Int
  | [] => 0
  | nd :: r => (if nd.val = .none then 0 else match kyOf nd.key with
    | some k => outK sz k
    | none => 0) + cntOut sz r
theorem outK_bd (sz : Int) (k : Ky) : 0 ≤ outK sz k ∧ outK sz k ≤ 1 := by
  cases k with
  | i n => show 0 ≤ (if 1 ≤ n ∧ n ≤ sz then (0 : Int) else 1) ∧ _ ≤ (1 : Int); show _ ∧ (if 1 ≤ n ∧ n ≤ sz then (0 : Int) else 1) ≤ 1; split <;> omega
  | b x => show (0 : Int) ≤ 1 ∧ (1 : Int) ≤ 1; omega
theorem cntOut_app (sz : Int) (a b : List Nd) : cntOut sz (a ++ b) = cntOut sz a + cntOut sz b := by
  induction a with
  | nil => simp [cntOut]
  | cons n r ih => simp only [List.cons_append, cntOut, ih]; omega
theorem cntOut_nn (sz : Int) : ∀ l : List Nd, 0 ≤ cntOut sz l
  | [] => Int.le_refl _
  | nd :: r => by
    have := cntOut_nn sz r
    unfold cntOut
    split
    · omega
    · split
      · rename_i k _; have := outK_bd sz k; omega
      · omega
theorem cntOut_one0 {sz : Int} {nd : Nd} (h : nd.val = .none) : cntOut sz [nd] = 0 := by simp [cntOut, h]
theorem cntOut_one1 {sz : Int} {nd : Nd} {k : Ky} (h : nd.val ≠ .none) (e : kyOf nd.key = some k) : cntOut sz [nd] = outK sz k := by simp [cntOut, h, e]
theorem drop_one {α : Type} {l : List α} {i : Nat} {x : α} (h : l[i]? = some x) : l.drop i = [x] ++ l.drop (i + 1) := by
  have hl := lt_of_get h
  rw [List.drop_eq_getElem_cons hl]
  rw [List.getElem?_eq_getElem hl] at h
  (first | obtain rfl := Option.some.inj h | cases h); rfl
noncomputable def D2 (V : Tab) (j : Nat) (k : Ky) : Prop := InArr V k ∨ ∃ (i : Nat) (nd : Nd), j ≤ i ∧ V.nds[i]? = some nd ∧ kyOf nd.key = some k
theorem D2.of_all {V : Tab} {m : Nat} (h : V.arr.length ≤ m) (k : Ky) : D2 V V.nds.length k ↔ D1 V m k := by
  constructor
  · rintro (a | ⟨i, nd, q1, q2, _⟩)
    · cases k with
      | i n => exact ⟨n, rfl, a.1, by have := a.2; omega, a.2⟩
      | b x => exact a.elim
    · have := lt_of_get q2; omega
  · rintro ⟨n, rfl, h1, h2, h3⟩
    exact .inl ⟨h1, h3⟩
theorem D2.succ0 {V : Tab} {j : Nat} {nd : Nd} (e : V.nds[j]? = some nd) (h : kyOf nd.key = none) (k : Ky) : D2 V j k ↔ D2 V (j + 1) k := by
  constructor
  · rintro (a | ⟨i, n, q1, q2, q3⟩)
    · exact .inl a
    · refine .inr ⟨i, n, ?_, q2, q3⟩
      rcases Nat.lt_or_ge j i with c | c
      · exact c
      · have : i = j := by omega
        subst this
        rw [e] at q2; (first | obtain rfl := Option.some.inj q2 | cases q2); rw [h] at q3; (first | obtain rfl := Option.some.inj q3 | cases q3)
  · rintro (a | ⟨i, n, q1, q2, q3⟩)
    · exact .inl a
    · exact .inr ⟨i, n, by omega, q2, q3⟩
theorem D2.succ1 {V : Tab} {j : Nat} {nd : Nd} {k0 : Ky} (e : V.nds[j]? = some nd) (h : kyOf nd.key = some k0) (k : Ky) : D2 V j k ↔ (D2 V (j + 1) k ∨ k = k0) := by
  constructor
  · rintro (a | ⟨i, n, q1, q2, q3⟩)
    · exact .inl (.inl a)
    · rcases Nat.lt_or_ge j i with c | c
      · exact .inl (.inr ⟨i, n, c, q2, q3⟩)
      · have : i = j := by omega
        subst this
        rw [e] at q2; (first | obtain rfl := Option.some.inj q2 | cases q2); rw [h] at q3; (first | obtain rfl := Option.some.inj q3 | cases q3)
        exact .inr rfl
  · rintro ((a | ⟨i, n, q1, q2, q3⟩) | rfl)
    · exact .inl a
    · exact .inr ⟨i, n, by omega, q2, q3⟩
    · exact .inr ⟨j, nd, Nat.le_refl _, e, h⟩
theorem D2.not {V : Tab} (hV : Inv V) {j : Nat} {nd : Nd} {k0 : Ky} (e : V.nds[j]? = some nd) (h : kyOf nd.key = some k0) : ¬ D2 V (j + 1) k0 := by
  rintro (a | ⟨i, n, q1, q2, q3⟩)
  · exact (hV.na nd (List.mem_of_getElem? e) k0 h).1 a
  · have := hV.iv.uq i j n nd k0 q2 e q3 h
    omega
theorem cont_nd {V : Tab} (hV : Inv V) {C : Ky → Value} (hC : ∀ k, Cont V k (C k)) {j : Nat} {nd : Nd} {k0 : Ky} (e : V.nds[j]? = some nd) (h : kyOf nd.key = some k0) : C k0 = nd.val :=
  hV.one (hC k0) (.inr ⟨(hV.na nd (List.mem_of_getElem? e) k0 h).1, .inl ⟨j, nd, e, h, rfl⟩⟩)
/-- what resize leaves -/
structure RsR (V : Tab) (sz N : Nat) (n : Int) (W : Tab) : Prop where
  iv : Inv W
  ct : ∀ k v, Cont V k v → Cont W k v
  ky : ∀ nd ∈ W.nds, ∀ k, kyOf nd.key = some k → InArr V k ∨ ∃ n0 ∈ V.nds, kyOf n0.key = some k
  oc : (occ W.nds : Int) ≤ n
  lv : nn W.arr + nAll W.nds ≤ nn V.arr + nAll V.nds
  ar : W.arr.length = sz
  ln : W.nds.length = N
  tt : W.t = V.t
  nu : W.num = V.num
theorem St.done {V W : Tab} (hV : Inv V) {C : Ky → Value} (hC : ∀ k, Cont V k (C k)) {n : Int} (h : St C (D2 V 0) n (nn V.arr + nAll V.nds) W) {sz N : Nat} (h1 : W.arr.length = sz) (h2 : W.nds.length = N) (h3 : W.t = V.t) (h4 : W.num = V.num) : RsR V sz N n W := by
  refine ⟨h.iv, fun k v c => ?_, fun nd hm k e => ?_, h.oc, h.lv, h1, h2, h3, h4⟩
  · have e := hV.one c (hC k)
    subst e
    by_cases d : D2 V 0 k
    · exact h.ci k d
    · have : C k = .none := by
        refine hV.one (hC k) (.inr ⟨fun a => d (.inl a), .inr ⟨fun i nd e1 e2 => d (.inr ⟨i, nd, Nat.zero_le _, e1, e2⟩), rfl⟩⟩)
      rw [this]
      exact h.co k d
  · rcases h.ky nd hm k e with a | ⟨i, n0, _, q1, q2⟩
    · exact .inl a
    · exact .inr ⟨n0, List.mem_of_getElem? q1, q2⟩
/-! the counts of rehash -/
theorem fsum_bump (g : Nat → Int) (i : Nat) : ∀ m, fsum (bump g i) m = fsum g m + (if i < m then 1 else 0)
  | 0 => by simp [fsum]
  | m + 1 => by
    show fsum (bump g i) m + (if m = i then g m + 1 else g m) = fsum g m + g m + _
    rw [fsum_bump g i m]
    by_cases c : m = i
    · subst c; rw [if_pos rfl, if_neg (Nat.lt_irrefl _), if_pos (Nat.lt_succ_self _)]; omega
    · rw [if_neg c]
      by_cases d : i < m
      · rw [if_pos d, if_pos (by omega)]; omega
      · rw [if_neg d, if_neg (by omega)]; omega
theorem fsum_kBump (g : Nat → Int) (k : Ky) (j : Nat) : fsum (kBump g k) (j + 1) = fsum g (j + 1) + (1 - outK (2 ^ j) k) := by
  cases k with
  | i n =>
    have e2 : (2 : Int) ^ j = ((2 ^ j : Nat) : Int) := by simp
    show fsum (if 0 < n then bump g (clog n.toNat) else g) (j + 1) = fsum g (j + 1) + (1 - (if 1 ≤ n ∧ n ≤ (2 : Int) ^ j then 0 else 1))
    rw [e2]
    by_cases c : 0 < n
    · have q := clog_le_iff (a := n.toNat) (j := j) (by omega)
      rw [if_pos c, fsum_bump]
      by_cases d : clog n.toNat < j + 1
      · have := q.mp (by omega)
        rw [if_pos d, if_pos ⟨by omega, by omega⟩]; omega
      · have : ¬ n.toNat ≤ 2 ^ j := fun x => d (by have := q.mpr x; omega)
        rw [if_neg d, if_neg (by omega)]; omega
    · rw [if_neg c, if_neg (by omega)]; omega
  | b x => show fsum g (j + 1) = fsum g (j + 1) + (1 - 1); omega
theorem fsum_nCnt (j : Nat) : ∀ (l : List Nd) (g : Nat → Int), (∀ nd ∈ l, nd.val ≠ .none → ∃ k, kyOf nd.key = some k) → fsum (nCnt l g) (j + 1) = fsum g (j + 1) + (nAll l - cntOut (2 ^ j) l)
  | [], g, _ => by simp [nCnt, nAll, cntOut]
  | nd :: r, g, h => by
    have ih := fun g => fsum_nCnt j r g (fun a b => h a (.tail _ b))
    unfold nCnt nAll cntOut
    by_cases c : nd.val = .none
    · rw [if_pos c, if_pos c, if_pos c, ih]; omega
    · obtain ⟨k, e⟩ := h nd (.head _) c
      rw [if_neg c, if_neg c, if_neg c, ih, e]
      dsimp only
      rw [fsum_kBump]; omega
theorem kBump_bd {g : Nat → Int} (k : Ky) (i : Nat) : g i ≤ kBump g k i ∧ kBump g k i ≤ g i + 1 := by
  cases k with
  | i n =>
    show g i ≤ (if 0 < n then bump g (clog n.toNat) else g) i ∧ (if 0 < n then bump g (clog n.toNat) else g) i ≤ _
    split
    · show g i ≤ (if i = clog n.toNat then g i + 1 else g i) ∧ (if i = clog n.toNat then g i + 1 else g i) ≤ _
      split <;> omega
    · omega
  | b x => show g i ≤ g i ∧ g i ≤ g i + 1; omega
theorem nCnt_bd (i : Nat) : ∀ (l : List Nd) (g : Nat → Int), g i ≤ nCnt l g i ∧ nCnt l g i ≤ g i + l.length
  | [], g => by show g i ≤ g i ∧ g i ≤ g i + (0 : Nat); omega
  | nd :: r, g => by
    unfold nCnt
    have e : ((nd :: r).length : Int) = r.length + 1 := by simp
    split
    · have := nCnt_bd i r g; omega
    · split
      · rename_i k _
        have h1 := nCnt_bd i r (kBump g k)
        have h2 := kBump_bd (g := g) k i
        omega
      · have := nCnt_bd i r g; omega
theorem cntOut_zero : ∀ (l : List Nd), (∀ nd ∈ l, nd.val ≠ .none → ∃ k, kyOf nd.key = some k) → cntOut 0 l = nAll l
  | [], _ => rfl
  | nd :: r, h => by
    have ih := cntOut_zero r (fun a b => h a (.tail _ b))
    unfold nAll cntOut
    by_cases c : nd.val = .none
    · rw [if_pos c, if_pos c, ih]
    · obtain ⟨k, e⟩ := h nd (.head _) c
      rw [if_neg c, if_neg c, e, ih]
      dsimp only
      congr 1
      cases k with
      | i n => show (if 1 ≤ n ∧ n ≤ (0 : Int) then (0 : Int) else 1) = 1; rw [if_neg (by omega)]
      | b x => rfl
theorem cntOut_le (sz : Int) : ∀ l : List Nd, cntOut sz l ≤ nAll l
  | [] => Int.le_refl _
  | nd :: r => by
    have := cntOut_le sz r
    unfold cntOut nAll
    split
    · omega
    · split
      · rename_i k _; have := outK_bd sz k; omega
      · omega
theorem siz_used {arr : List Value} {nds : List Nd} {g : Nat → Int} {k : Ky} {size used : Int} (hg : ∀ j, fsum g (j + 1) = pre arr (2 ^ j)) (hkv : ∀ nd ∈ nds, nd.val ≠ .none → ∃ k, kyOf nd.key = some k) (h : Siz (kBump (nCnt nds g) k) 27 size used) :
    0 ≤ size ∧ used = pre arr size.toNat + (nAll nds - cntOut size nds) + (1 - outK size k) ∧ (size = 0 ∨ size < 2 * used) := by
  rcases h with ⟨rfl, rfl⟩ | ⟨j, h1, h2, h3, h4⟩
  · refine ⟨by omega, ?_, .inl rfl⟩
    rw [cntOut_zero nds hkv, show (0 : Int).toNat = 0 from rfl, pre_zero]
    have : outK 0 k = 1 := by
      cases k with
      | i n => show (if 1 ≤ n ∧ n ≤ (0 : Int) then (0 : Int) else 1) = 1; rw [if_neg (by omega)]
      | b x => rfl
    omega
  · have e : (2 : Int) ^ j = ((2 ^ j : Nat) : Int) := by simp
    refine ⟨by rw [h2, e]; exact Int.natCast_nonneg _, ?_, .inr h4⟩
    rw [h3, fsum_kBump, fsum_nCnt j nds g hkv, hg, h2]
    rw [show ((2 : Int) ^ j).toNat = 2 ^ j by rw [e]; rfl]
theorem pow_clog_lt {a : Nat} (h : 1 ≤ a) : 2 ^ clog a < 2 * a := by
  cases hc : clog a with
  | zero => show 1 < 2 * a; omega
  | succ j =>
    have : ¬ clog a ≤ j := by omega
    rw [clog_le_iff h] at this
    rw [Nat.pow_succ]; omega
end Mine
end
section
open PySem PySem.W PySem.Spec PySem.Calls PyProof.Rows
open PyProof.Rows
namespace Mine
theorem wdD4_0 : True := by
  k_with_none
  k_with "k_room" => ((try dsimp only [Ax]); ktr_room)
  k_with "k_units" => ((try dsimp only [Ax]); ktr_units)
  k_with "ent" => (intro _ _ _ _ _ _ _ _ _; (try k_fold); (refine foldA ?_; intro Ax); (conv in execs _ _ => arg 1; whnf))
  k_with "dep" => ((try dsimp only [ktrTop, Around.deeper, Around.in1, Around.under]); (first | (refine' room2 ?zqhR ?zqcR; (case zqhR => assumption); (case zqcR => exact Nat.le_of_ble_eq_true rfl)) | (refine' room0 ?zqhR; (case zqhR => assumption)) | (refine' room1 ?zqhR ?zqcR; (case zqhR => assumption); (case zqcR => exact Nat.le_of_ble_eq_true rfl)) | (refine' room3 ?zqhR ?zqcR; (case zqhR => assumption); (case zqcR => exact Nat.le_of_ble_eq_true rfl)) | omega))
  k_with "news" => first | assumption | exact news_tl0 (by assumption) | exact news_tl0 (news_tl0 (by assumption)) | exact news_tl0 (news_tl0 (news_tl0 (by assumption)))
  k_with "dec" => first | ((try simp only [beq_iff_eq, bne_iff_ne, decide_eq_true_eq, decide_eq_false_iff_not, Bool.and_eq_true, Bool.not_eq_true', Bool.not_eq_true, beq_eq_false_iff_ne, ne_eq]) <;> omega) | (simp; done)
  k_with "ite" => (k_here; k_openite; (first | refine ite_pos (by walk_at "dec") ?_ | refine ite_neg (by walk_at "dec") ?_))
  k_with "go" => repeat' ((fail_if_success (with_reducible show wpAny _ _ (exec (Stmt.While _ _ _ _) _) _ _ _)); (fail_if_success (with_reducible show wpAny _ _ (exec (Stmt.For _ _ _ _ _) _) _ _ _)); (fail_if_success (with_reducible show WhileStep2 _ _ _ _ _ _ Flow.next _)); (fail_if_success (with_reducible show WhileStep2 _ _ _ _ _ _ Flow.cont _)); (first | (k_unfold; (try dsimp only)) | (k_end; wrow_close) | ((first | (with_reducible show wpAny _ _ (exec _ _) _ _ _) | (with_reducible show wpAny _ _ (execs _ _) _ _ _)); k_fold; (try (refine foldS ?_; intro Sx))) | walk1 | (dsimp only; walk1) | (leave1; walk_say "STEP leave1"; try dsimp only)))
  k_with "subscriptTail" => (k_here; (with_reducible show wpAny _ _ (subscriptTail _ _ (Value.bytes _ _) (Value.int _ _)) _ _ _); k_dflt (refine' item_by ?zqf ?zqa ?zqb ?_ ?zqhs ?zqht; (case zqf => first | assumption | omega); (case zqa => first | assumption | omega); (case zqb => first | assumption | omega); (case zqhs => with_unfolding_all rfl); (case zqht => (intro _; with_unfolding_all rfl)); k_whole); intro _ _)
  k_with "subscriptTail" => (k_here; (with_reducible show wpAny _ _ (subscriptTail _ _ (Value.ref _) (Value.int _ _)) _ _ _); k_dflt (refine' item_led ?zqN ?zqm ?zqa ?zqb ?zqx ?_ ?zqhs; (case zqN => k_asm); (case zqm => k_mem); (case zqa => first | assumption | omega); (case zqb => first | assumption | omega); (case zqx => first | assumption | walk_at "item"); (case zqhs => with_unfolding_all rfl); k_whole))
  k_with "WhileStep2" => (dsimp only [WhileStep2])
  k_with "lenk" => first | assumption | exact refsN_len _ | exact rfl
  k_with "call builtin:len" => (k_here; (with_reducible show wpAny _ _ (call (Value.builtin "len") [Value.ref _]) _ _ _); k_dflt (refine' len_led ?zqN ?zqm ?zqk ?zqf ?_; (case zqN => k_asm); (case zqm => k_mem); (case zqk => walk_at "lenk"); (case zqf => first | assumption | omega); k_whole); intro _ _)
  k_with "binaryOp Mod int int" => (k_here; k_dflt (refine' mod_int' (by assumption) ?_; k_whole))
  k_with "item" => exact refsN_get (by assumption)
  k_with "k_handed" => assumption
  k_with "compareOp Is none" => (k_here; first | refine is_none_ne (by assumption) ?_ | refine is_none_eq (by assumption) ?_)
  k_with "compareOp IsNot none" => (k_here; first | refine isnot_none_ne (by assumption) ?_ | refine isnot_none_eq (by assumption) ?_)
  k_with "k_all" => assumption
  k_with "setItem ref int" => (k_here; (with_reducible show wpAny _ _ (setItem (Value.ref _) (Value.int _ _) _) _ _ _); k_dflt (refine' set_led ?zqF ?zqN ?zqU ?zqa ?zqb ?zqc ?_; (case zqF => k_asm); (case zqN => k_asm); (case zqU => k_upd); (case zqa => first | assumption | omega); (case zqb => first | assumption | omega); (case zqc => first | assumption | omega); k_whole); intro _ _ _; (try k_sweep))
  k_with "getItem ref int" => (k_here; (with_reducible show wpAny _ _ (getItem (Value.ref _) (Value.int _ _)) _ _ _); k_dflt (refine' get_led ?zqN ?zqm ?zqa ?zqb ?zqx ?_; (case zqN => k_asm); (case zqm => k_mem); (case zqa => first | assumption | omega); (case zqb => first | assumption | omega); (case zqx => first | assumption | walk_at "item"); k_whole))
  k_with "has" => first | assumption | exact has_tl (by assumption) | exact has_tl (has_tl (by assumption))
  k_with "has" => exact has_app
  k_with "k_mem" => first | exact List.mem_append_left _ mem_t | exact List.mem_append_left _ mem_td | exact List.mem_append_left _ mem_la | exact List.mem_append_left _ mem_ln | exact List.mem_append_left _ (mem_nx (by assumption)) | exact List.mem_append_left _ (mem_nd (by assumption)) | exact List.mem_append_right _ (by assumption)
  k_with "apart" => first | assumption | exact apart_same (by assumption) rfl
  k_with "setAttr ref" => (k_here; k_dflt (first | ((with_reducible show wpAny _ _ (setAttr (Value.ref _) (Str.ofString "free") _) _ _ _); refine' set_free ?zqF ?zqX ?zqN ?zqap ?zqhx ?_; (case zqF => k_asm); (case zqX => k_asm); (case zqN => k_asm); (case zqap => walk_at "apart"); (case zqhx => exact rfl); k_whole; intro _ _ _ _) | ((with_reducible show wpAny _ _ (setAttr (Value.ref _) (Str.ofString "flags") _) _ _ _); refine' set_flags ?zqF ?zqX ?zqN ?zqap ?zqhx ?_; (case zqF => k_asm); (case zqX => k_asm); (case zqN => k_asm); (case zqap => walk_at "apart"); (case zqhx => exact rfl); k_whole; intro _ _ _ _) | ((with_reducible show wpAny _ _ (setAttr (Value.ref _) (Str.ofString "log_nodes") _) _ _ _); refine' set_log_nodes ?zqF ?zqX ?zqN ?zqap ?zqhx ?_; (case zqF => k_asm); (case zqX => k_asm); (case zqN => k_asm); (case zqap => walk_at "apart"); (case zqhx => exact rfl); k_whole; intro _ _ _ _) | ((with_reducible show wpAny _ _ (setAttr (Value.ref _) (Str.ofString "size") _) _ _ _); refine' set_size ?zqF ?zqX ?zqN ?zqap ?zqhx ?_; (case zqF => k_asm); (case zqX => k_asm); (case zqN => k_asm); (case zqap => walk_at "apart"); (case zqhx => exact rfl); k_whole; intro _ _ _ _) | ((with_reducible show wpAny _ _ (setAttr (Value.ref _) (Str.ofString "number") _) _ _ _); refine' set_number ?zqF ?zqX ?zqN ?zqap ?zqhx ?_; (case zqF => k_asm); (case zqX => k_asm); (case zqN => k_asm); (case zqap => walk_at "apart"); (case zqhx => exact rfl); k_whole; intro _ _ _ _) | ((with_reducible show wpAny _ _ (setAttr (Value.ref _) (Str.ofString "key") _) _ _ _); refine' set_key ?zqF ?zqX ?zqN ?zqap ?zqe ?zqhx ?_; (case zqF => k_asm); (case zqX => k_asm); (case zqN => k_asm); (case zqap => walk_at "apart"); (case zqhx => exact rfl); (case zqe => assumption); k_whole; intro _ _ _ _ _ _) | ((with_reducible show wpAny _ _ (setAttr (Value.ref _) (Str.ofString "value") _) _ _ _); refine' set_value ?zqF ?zqX ?zqN ?zqap ?zqe ?zqhx ?_; (case zqF => k_asm); (case zqX => k_asm); (case zqN => k_asm); (case zqap => walk_at "apart"); (case zqhx => exact rfl); (case zqe => assumption); k_whole; intro _ _ _ _ _ _) | ((with_reducible show wpAny _ _ (setAttr (Value.ref _) (Str.ofString "next") _) _ _ _); refine' set_next ?zqF ?zqX ?zqN ?zqap ?zqe ?zqhx ?_; (case zqF => k_asm); (case zqX => k_asm); (case zqN => k_asm); (case zqap => walk_at "apart"); (case zqhx => exact rfl); (case zqe => assumption); k_whole; intro _ _ _ _ _ _)); (try k_sweep))
  trivial
theorem wdD4_1 : True := by
  k_with "gom" => repeat' ((fail_if_success (with_reducible show LCg.CompSrc _ _ _ _ _ _ _ _ _ _ _ _ _ _));(fail_if_success (with_reducible show wpAny _ _ (exec (Stmt.While _ _ _ _) _) _ _ _)); (fail_if_success (with_reducible show wpAny _ _ (exec (Stmt.For _ _ _ _ _) _) _ _ _)); (fail_if_success (with_reducible show wpAny _ _ (eval (Expr.ListComp _ _ _ _) _) _ _ _)); (fail_if_success (with_reducible show wpAny _ _ (setAttr (Value.ref _) (Str.ofString "nodes") _) _ _ _)); (fail_if_success (with_reducible show wpAny _ _ (setAttr (Value.ref _) (Str.ofString "array") _) _ _ _)); (fail_if_success (with_reducible show wpAny _ _ (pyIter (Value.ref _)) _ _ _)); (fail_if_success (with_reducible show WhileStep2 _ _ _ _ _ _ Flow.next _)); (fail_if_success (with_reducible show WhileStep2 _ _ _ _ _ _ Flow.cont _)); (first | (k_unfold; (try dsimp only)) | (k_end; wrow_close) | ((first | (with_reducible show wpAny _ _ (exec _ _) _ _ _) | (with_reducible show wpAny _ _ (execs _ _) _ _ _)); k_fold; (try (refine foldS ?_; intro Sx))) | walk1 | (dsimp only; walk1) | (leave1; walk_say "STEP leave1"; try dsimp only)))
  k_with "setAttr ref" => (k_here; k_dflt (((with_reducible show wpAny _ _ (setAttr (Value.ref _) (Str.ofString "log_nodes") _) _ _ _); refine' set_log2 ?zqF ?zqX ?zqN ?zqap ?zqhx ?_; (case zqF => k_asm); (case zqX => k_asm); (case zqN => k_asm); (case zqap => walk_at "apart"); (case zqhx => exact rfl); k_whole; intro _ _ _ _)); (try k_sweep))
  k_with "call ref" => (k_here; k_dflt (refine' ceil_log2_q ?zqB ?zqF ?zqX ?zqN ?zqT ?zqhk hq ?zqd ?zqu ?zqe0 ?zqe1 ?_; (case zqB => k_asm); (case zqF => k_asm); (case zqX => k_asm); (case zqN => k_asm); (case zqT => k_asm); (case zqhk => first | assumption | exact rfl); (case zqd => walk_at "dep"); (case zqu => walk_at "dep"); (case zqe0 => first | assumption | omega); (case zqe1 => first | assumption | omega); k_whole); intro _ _ _ _ _;  (try k_sweep))
  trivial
noncomputable def mkNd (x d : Addr) (a b c t : Tok) : Nd := ⟨x, d, fun | 0 => a | 1 => b | _ => c, .none, .none, -1, t⟩
theorem nl_app (P : Params) (a b : List Nd) : nl P (a ++ b) = nl P a ++ nl P b := by
  induction a with
  | nil => rfl
  | cons n r ih => show _ :: _ :: nl P (r ++ b) = _ :: _ :: (nl P r ++ nl P b); rw [ih]
theorem nAd_app (a b : List Nd) : nAd (a ++ b) = nAd a ++ nAd b := by
  induction a with
  | nil => rfl
  | cons n r ih => show _ :: _ :: nAd (r ++ b) = _ :: _ :: (nAd r ++ nAd b); rw [ih]
theorem allLt_mem {d : Nat} : ∀ {l : List (Addr × Obj)}, AllLt d l → ∀ p ∈ l, p.1 < d
  | [], _, _, h => nomatch h
  | _ :: _, x, p, h => by
    rcases List.mem_cons.mp h with rfl | h
    · exact x.1
    · exact allLt_mem x.2 p h
theorem comp_node {P : Params} {h₀ h' : Heap} {L I C D x d : Addr} {a b c t : Tok} {m : Str → Option Value} {s₁ : Shared} {oI oC : Obj} {ns : List Nd} {L2 : List (Addr × Obj)} {tk i : Nat} (F : Fr h₀ L h' m)
    (N : News h₀ L h' ((x, instObj C_Node d) :: (d, dictOf (ndE P (mkNd x d a b c t)) 3) :: (I, oI) :: (C, oC) :: (D, LCg.lst (refsN ns)) :: (nl P ns ++ L2)))
    (lt : I < d ∧ C < d ∧ D < d ∧ AllLt d (nl P ns ++ L2)) (lt2 : d < x) (ap : Apart (nl P ns ++ L2)) (o : LCg.Off3 I C D (nl P ns ++ L2)) (hf : Fresh i ns) :
    LCg.CompEnd h₀ L m s₁ I oI C oC D (LCg.lst (refsN ns)) (fun _ => True) (fun y nx' => ∃ ns1, Fresh (i + 1) ns1 ∧ refsN ns ++ [y] = refsN ns1 ∧ nx' = nl P ns1 ++ L2 ∧ Apart (nl P ns1 ++ L2)) (.ref x) { s₁ with heap := h', toks := tk } := by
  have hm := allLt_mem lt.2.2.2
  refine LCg.CompEnd.intro F N (nl P (ns ++ [mkNd x d a b c t]) ++ L2) (fun p hp => ?_) (.of fun p hp => ?_) trivial ⟨ns ++ [mkNd x d a b c t], ⟨?_, fun nd h => ?_⟩, ?_, rfl, ?_⟩
  · rw [nl_app] at hp
    show p ∈ [(x, instObj C_Node d), (d, dictOf (ndE P (mkNd x d a b c t)) 3), (I, oI), (C, oC), (D, LCg.lst (refsN ns))] ++ (nl P ns ++ L2)
    have hp' : p ∈ [(I, oI), (C, oC), (D, LCg.lst (refsN ns))] ++ ((nl P ns ++ [(x, instObj C_Node d), (d, dictOf (ndE P (mkNd x d a b c t)) 3)]) ++ L2) := hp
    simp only [List.mem_append, List.mem_cons] at hp' ⊢
    grind
  · rw [nl_app] at hp
    have hp' : p ∈ (nl P ns ++ [(x, instObj C_Node d), (d, dictOf (ndE P (mkNd x d a b c t)) 3)]) ++ L2 := hp
    have q : p ∈ nl P ns ++ L2 ∨ p = (x, instObj C_Node d) ∨ p = (d, dictOf (ndE P (mkNd x d a b c t)) 3) := by
      simp only [List.mem_append, List.mem_cons, List.not_mem_nil, or_false] at hp' ⊢
      grind
    have g1 : I < x ∧ C < x ∧ D < x := ⟨Nat.lt_trans lt.1 lt2, Nat.lt_trans lt.2.1 lt2, Nat.lt_trans lt.2.2.1 lt2⟩
    rcases q with q | rfl | rfl
    · exact o.mem p q
    · exact ⟨Nat.ne_of_gt g1.1, Nat.ne_of_gt g1.2.1, Nat.ne_of_gt g1.2.2⟩
    · exact ⟨Nat.ne_of_gt lt.1, Nat.ne_of_gt lt.2.1, Nat.ne_of_gt lt.2.2.1⟩
  · rw [List.length_append, hf.1]; rfl
  · rcases List.mem_append.mp h with h | h
    · exact hf.2 nd h
    · rw [List.mem_singleton.mp h]; exact ⟨rfl, rfl, rfl⟩
  · simp [refsN, mkNd]
  · unfold Apart at ap ⊢
    simp only [List.map_append, nl_ad, nAd_app] at ap ⊢
    have e : nAd [mkNd x d a b c t] = [x, d] := rfl
    rw [e, List.append_assoc]
    refine (List.Perm.nodup_iff (List.perm_middle (l₁ := nAd ns) (l₂ := d :: L2.map (·.1)))).mpr ?_
    refine List.nodup_cons.mpr ⟨fun h => ?_, (List.Perm.nodup_iff List.perm_middle).mpr (List.nodup_cons.mpr ⟨fun h => ?_, ap⟩)⟩
    · have h' : x ∈ nAd ns ++ L2.map (·.1) ∨ x = d := by
        simp only [List.mem_append, List.mem_cons] at h ⊢
        grind
      rcases h' with h' | h'
      · rw [← nl_ad P, ← List.map_append] at h'
        obtain ⟨p, hp, e⟩ := List.mem_map.mp h'
        exact Nat.ne_of_lt (Nat.lt_trans (hm p hp) lt2) e
      · exact Nat.ne_of_gt lt2 h'
    · rw [← nl_ad P, ← List.map_append] at h
      obtain ⟨p, hp, e⟩ := List.mem_map.mp h
      exact Nat.ne_of_lt (hm p hp) e
theorem lists_nil {P : Params} {h₀ h : Heap} {L D : Addr} {e : Nat} {V : Tab} {R : List (Addr × Obj)} (N : News h₀ L h ((D, listOf #[] e) :: (tl P V ++ R))) : News h₀ L h (tl P V ++ (nlE P D [] e ++ R)) := by
  intro p hp
  refine N p ?_
  rcases List.mem_append.mp hp with hp | hp
  · exact .tail _ (List.mem_append_left _ hp)
  · rcases List.mem_cons.mp hp with rfl | hp
    · exact .head _
    · exact .tail _ (List.mem_append_right _ hp)
theorem off1_mem {D : Addr} : ∀ {l : List (Addr × Obj)}, LCg.Off1 D l → ∀ p ∈ l, p.1 ≠ D
  | [], _, _, h => nomatch h
  | _ :: _, x, p, h => by
    rcases List.mem_cons.mp h with rfl | h
    · exact x.1
    · exact off1_mem x.2 p h
theorem lists_ns {P : Params} {h₀ h : Heap} {L D : Addr} {e : Nat} {V : Tab} {ns : List Nd} {R : List (Addr × Obj)} (N : News h₀ L h ((D, listOf (refsN ns).toArray e) :: (nl P ns ++ (tl P V ++ R)))) : News h₀ L h (tl P V ++ (nlE P D ns e ++ R)) := by
  intro p hp
  refine N p ?_
  have hp' : p ∈ tl P V ++ ((D, listOf (refsN ns).toArray e) :: (nl P ns ++ R)) := hp
  simp only [List.mem_append, List.mem_cons] at hp' ⊢
  grind
theorem apart_ns {P : Params} {D : Addr} {e : Nat} {V : Tab} {ns : List Nd} {R : List (Addr × Obj)} (ap : Apart (nl P ns ++ (tl P V ++ R))) (h : ∀ p ∈ nl P ns ++ (tl P V ++ R), p.1 ≠ D) : Apart (tl P V ++ (nlE P D ns e ++ R)) := by
  have h1 : Apart ((D, listOf (refsN ns).toArray e) :: (nl P ns ++ (tl P V ++ R))) := List.nodup_cons.mpr ⟨fun hm => by obtain ⟨p, hp, e⟩ := List.mem_map.mp hm; exact h p hp e, ap⟩
  unfold Apart at h1 ⊢
  refine (List.Perm.nodup_iff (List.Perm.map _ ?_)).mp h1
  show List.Perm (((D, listOf (refsN ns).toArray e) :: nl P ns) ++ (tl P V ++ R)) (tl P V ++ (((D, listOf (refsN ns).toArray e) :: nl P ns) ++ R))
  rw [← List.append_assoc, ← List.append_assoc]
  exact List.Perm.append_right _ List.perm_append_comm
theorem drop_news {P : Params} {h₀ h : Heap} {L x : Addr} {e : Nat} {V : Tab} {R : List (Addr × Obj)} (N : News h₀ L h (tl P V ++ (nlE P x [] e ++ R))) : News h₀ L h (tl P V ++ R) := fun p hp => N p (by
  rcases List.mem_append.mp hp with hp | hp
  · exact List.mem_append_left _ hp
  · exact List.mem_append_right _ (List.mem_append_right _ hp))
theorem drop_apart {P : Params} {x : Addr} {e : Nat} {V : Tab} {R : List (Addr × Obj)} (ap : Apart (tl P V ++ (nlE P x [] e ++ R))) : Apart (tl P V ++ R) :=
  List.Nodup.sublist (List.Sublist.map _ (List.Sublist.append_left (List.sublist_append_right _ _) _)) ap
theorem apart_new {P : Params} {V : Tab} {R : List (Addr × Obj)} {D : Addr} {e : Nat} (ap : Apart (tl P V ++ R)) (h : ∀ p ∈ tl P V ++ R, p.1 < D) : Apart (tl P V ++ (nlE P D [] e ++ R)) := by
  unfold Apart at ap ⊢
  have e1 : (tl P V ++ (nlE P D [] e ++ R)).map (·.1) = (tl P V).map (·.1) ++ D :: R.map (·.1) := by simp [nlE, nl]
  rw [e1]
  refine (List.Perm.nodup_iff List.perm_middle).mpr ?_
  rw [← List.map_append]
  refine List.nodup_cons.mpr ⟨fun hm => ?_, ap⟩
  obtain ⟨p, hp, e⟩ := List.mem_map.mp hm
  exact Nat.ne_of_lt (h p hp) e
section
variable {prog : Program} {w : World} {p : Program} {loose : List Str} {mean : ExcName → Option Value} {mg mb : Str → Option Value}
  {dp un : Nat} {gd : Option (List Code)} {cn : Str} {cs : Scope} {a : Addr} {ccd : Value} {cl : List (Str × Addr)} {outer : List Env} {A₀ : Around} {base h₀ : Heap} {L : Addr} {m : Str → Option Value} {s : Shared} {E : Value → Shared → Prop} {Q : Value → Shared → Prop}
  (B : Below A₀ base outer h₀) (F : Fr h₀ L s.heap m) (X : (KK w.params).In h₀) {V : Tab} {R : List (Addr × Obj)} (N : News h₀ L s.heap (tl w.params V ++ R)) (ap : Apart (tl w.params V ++ R)) (T : Top p loose mean mg mb h₀) (hk : cs.kind = .function)
include B F X N ap T hk
set_option maxHeartbeats 4000000
theorem make_nodes_C {hz : Int} {t : Tok} (hd : dp + 12 < recursionLimit) (_hu : un + 100 < cLine) (h1 : hz ≤ 1000) {x : Addr} (hx : x = V.t)
    (hret : ∀ h' tk' D ns e v t3, Fresh (if 0 < hz then 2 ^ clog hz.toNat else 0) ns → Fr h₀ L h' m → News h₀ L h' (tl w.params (((V.wNodes D ns e).wLog v).wFree ns.length t3) ++ (nlE w.params V.ln V.nds V.el ++ R)) → Apart (tl w.params (((V.wNodes D ns e).wLog v).wFree ns.length t3) ++ (nlE w.params V.ln V.nds V.el ++ R)) → Q .none { s with heap := h', toks := tk' }) :
    wpAny (model prog w) (ktrTop dp un gd cn cs L a ccd cl outer) (call (.ref F_Table_make_nodes) [.ref x, .int hz t]) Q E s := by
  subst hx
  refine en_Table_make_nodes B F X N T hk (by first | exact room0 hd | omega) ?_
  walk_at "ent"
  walk_at "gom"
  rename_i N0 l1
  have N1 := lists_nil N0
  have ap1 := apart_new (e := 0) ap l1
  clear N0
  refine set_nodes (by assumption) (by assumption) N1 ap1 rfl ?_
  clear N1
  intro h2 F2 N2 ap2
  by_cases c : 0 < hz
  · have e0 : (if 0 < hz then 2 ^ clog hz.toNat else 0) = 2 ^ clog hz.toNat := if_pos c
    rw [e0] at hret
    have hcl : clog hz.toNat ≤ 10 := (clog_le_iff (by omega)).mpr (by omega)
    obtain ⟨q, hq⟩ : ∃ q, clog hz.toNat = q := ⟨_, rfl⟩
    rw [hq] at hret hcl
    walk_at "gom"
    k_dflt (refine LCg.ListComp_U (F₀ := by k_asm) (by with_unfolding_all rfl) (by decide) (by rfl) (by decide) (by rfl) ?_)
    walk_at "gom"
    rename_i T1 T2 T3 hR F3 N3 _
    obtain ⟨n, hn⟩ : ∃ n : Nat, n = 2 ^ q := ⟨_, rfl⟩
    have hn2 : n ≤ 1024 := by rw [hn]; exact Nat.pow_le_pow_right (n := 2) (by decide) hcl
    have hn3 : 1 * (2 : Int) ^ ((q : Nat) : Int).toNat = (n : Int) := by rw [hn]; simp
    rw [hn3] at hR
    refine LCg.CompSrc.range (n := n) rfl F3 N3 hR (small_one (by omega) (by omega) (by omega) (by omega)) (range_n n) (by show n ≤ 16777216; omega) (fun g => ?_)
    generalize hL2 : tl w.params _ ++ (nlE w.params V.ln V.nds V.el ++ R) = L2 at N3
    refine compRest_J (fun i ys nx => ∃ ns, Fresh i ns ∧ ys = refsN ns ∧ nx = nl w.params ns ++ L2 ∧ Apart (nl w.params ns ++ L2)) ?_ ?_ n 0 [] L2 (by omega) ?_
    · rintro i v I oI C oC D ys nx m₂ h tk E' hi ⟨tv, rfl⟩ hC hx ⟨ns, hf, rfl, rfl, ap4⟩ F4 N4 o4 d4
      clear hret N3 F3
      walk_at "gom"
      rename_i kF kN _ _
      exact comp_node kF kN (by assumption) (by assumption) ap4 o4 hf
    · rintro ys nx ⟨ns, hf, rfl, rfl, ap4⟩ D h5 tk5 F5 N5 o5
      clear N3
      subst hL2
      walk_at "gom"
      have N6 := lists_ns N5
      have ap6 := apart_ns (e := (refsN ns).length) ap4 (off1_mem o5)
      clear N5
      refine set_nodes (by assumption) (by assumption) N6 ap6 rfl ?_
      clear N6
      intro h7 F7 N7 ap7
      have N8 := drop_news N7
      have ap8 := drop_apart ap7
      clear N7
      have hf0 : ns.length ≤ 1000000 := by have := hf.1; omega
      walk_at "gom"
      all_goals exact hret _ _ D ns _ _ _ (hn ▸ hf) (by assumption) (by assumption) (by assumption)
    · exact ⟨[], ⟨rfl, fun _ h => nomatch h⟩, rfl, rfl, hL2 ▸ (by assumption)⟩
  · have e0 : (if 0 < hz then 2 ^ clog hz.toNat else 0) = 0 := if_neg c
    rw [e0] at hret
    walk_at "gom"
    all_goals exact hret _ _ _ [] 0 _ _ ⟨rfl, fun _ h => nomatch h⟩ (by assumption) (by assumption) (by assumption)
end
end Mine
end
section
open PySem PySem.W PySem.Spec PySem.Calls PyProof.Rows
namespace Mine
section
variable {prog : Program} {w : World} {A : Around} {E : Value → Shared → Prop} {s : Shared} {env : Env} {h₀ : Heap} {target : Expr} {body : List Stmt} {Q : Flow → Shared → Prop}
theorem enumRest_J {I : Addr} {lp : Addr × Obj} (J : Nat → (Str → Option Value) → List (Addr × Obj) → Prop) {vs : List Value}
    (turn : ∀ i v m₁ nx iE iL T t h tk, vs[i]? = some v → J i m₁ nx → (∀ p ∈ nx, p.1 ≠ I ∧ p.1 ≠ I + 1) → iE.cls = .type "enumerate" → iL.cls = .type "list_iterator" → IsTup h T #[.int (i : Int) t, v] → Fr h₀ env.locals h m₁ → News h₀ env.locals h ((I + 1, iE) :: (I, iL) :: nx) →
      wpAny (model prog w) A (assign target env (.ref T)) (fun _ s₂ => wpAny (model prog w) A (execs body env) (UnrPostW h₀ env.locals { s with heap := h, toks := tk } [(I + 1, iE), (I, iL)] (fun m' n' => SubL [lp] n' ∧ J (i + 1) m' n') Q) E s₂) E { s with heap := h, toks := tk })
    (done : ∀ h tk m nx, J vs.length m nx → Fr h₀ env.locals h m → News h₀ env.locals h nx → Q .next { s with heap := h, toks := tk }) :
    ∀ (r : List Value) (i : Nat) (m : Str → Option Value) (nx : List (Addr × Obj)), vs.drop i = r → J i m nx → (∀ p ∈ nx, p.1 ≠ I ∧ p.1 ≠ I + 1) → i ≤ vs.length →
      ItemsRest prog w A E h₀ env target body Q s [(I + 1, "enumerate"), (I, "list_iterator")] [lp] (enumItems i r) m nx := by
  intro r
  induction r with
  | nil =>
    intro i m nx e hJ ho hi
    refine ItemsRest.zero fun h tk F N => done h tk m nx ?_ F N
    have : i = vs.length := by
      have := congrArg List.length e
      simp at this; omega
    rw [← this]; exact hJ
  | cons v r ih =>
    intro i m nx e hJ ho hi
    have hv : vs[i]? = some v := by
      have := congrArg (fun l => l[0]?) e
      simpa using this
    have hlt := lt_of_get hv
    have e' : vs.drop (i + 1) = r := by
      rw [List.drop_eq_getElem_cons hlt] at e
      exact (List.cons.inj e).2
    refine ItemsRest.pair fun T t h tk hT F => ?_
    intro oE hE oL hL N
    refine wpAny_mono (turn i v m nx oE oL T t h tk hv hJ ho hE hL hT F N) (fun _ s₂ q => wpAny_mono q (fun f s₃ q => ?_) fun _ _ e => e) fun _ _ e => e
    have fin : UnrEndW h₀ env.locals { s with heap := h, toks := tk } [(I + 1, oE), (I, oL)] (fun m' n' => SubL [lp] n' ∧ J (i + 1) m' n') s₃ →
        UnrEndW h₀ env.locals { s with heap := h, toks := tk } [(I + 1, oE), (I, oL)] (fun m' n' => SubL [lp] n' ∧ ItemsRest prog w A E h₀ env target body Q s [(I + 1, "enumerate"), (I, "list_iterator")] [lp] (enumItems (i + 1) r) m' n') s₃ := by
      rintro ⟨h', tk', m', n', e1, F', N', o', g1, j⟩
      refine ⟨h', tk', m', n', e1, F', N', o', g1, ih (i + 1) m' n' e' j (fun p hp => ⟨o' p hp (I, oL) (.tail _ (.head _)), o' p hp (I + 1, oE) (.head _)⟩) (by omega)⟩
    cases f with
    | ret v => exact q
    | brk => exact q
    | next => exact fin q
    | cont => exact fin q
theorem enum_J (J : Nat → (Str → Option Value) → List (Addr × Obj) → Prop) {elts : List Expr} {k : Nat} {pos : Pos} {l : Addr} {lo : Obj} {vs : List Value} {n : Nat} {m₀ : Str → Option Value} {news : List (Addr × Obj)}
    (hh : A.handled = none) (F : Fr h₀ env.locals s.heap m₀) (N : News h₀ env.locals s.heap news) (hm : (l, lo) ∈ news) (hc : lo.cls = .type "list") (hd : lo.data = .seq vs.toArray n) (hJ : J 0 m₀ news)
    (turn : ∀ I i v m₁ nx iE iL T t h tk, vs[i]? = some v → J i m₁ nx → (∀ p ∈ nx, p.1 ≠ I ∧ p.1 ≠ I + 1) → iE.cls = .type "enumerate" → iL.cls = .type "list_iterator" → IsTup h T #[.int (i : Int) t, v] → Fr h₀ env.locals h m₁ → News h₀ env.locals h ((I + 1, iE) :: (I, iL) :: nx) →
      wpAny (model prog w) A (assign (.Tuple elts k pos) env (.ref T)) (fun _ s₂ => wpAny (model prog w) A (execs body env) (UnrPostW h₀ env.locals { s with heap := h, toks := tk } [(I + 1, iE), (I, iL)] (fun m' n' => SubL [(l, lo)] n' ∧ J (i + 1) m' n') Q) E s₂) E { s with heap := h, toks := tk })
    (done : ∀ h tk m nx, J vs.length m nx → Fr h₀ env.locals h m → News h₀ env.locals h nx → Q .next { s with heap := h, toks := tk }) :
    wpAny (model prog w) A (call (.type "enumerate") [.ref l]) (fun xv s₁ => wpAny (model prog w) A (pyIter xv) (fun it s₂ => TurnsAt prog w A h₀ env (.Tuple elts k pos) body Q E it s₂) E s₁) E s :=
  ktu_enum hh F N hm hc hd rfl fun I hI => enumRest_J J (turn I) done vs 0 m₀ news (by simp) hJ (fun p hp => ⟨Nat.ne_of_lt (hI p hp), Nat.ne_of_lt (Nat.lt_succ_of_lt (hI p hp))⟩) (Nat.zero_le _)
end
end Mine
end
section
open PySem PySem.W PySem.Spec PySem.Calls PyProof.Rows
namespace Mine
section
variable {prog : Program} {w : World} {p : Program} {loose : List Str} {mean : ExcName → Option Value} {mg mb : Str → Option Value}
  {dp un : Nat} {gd : Option (List Code)} {cn : Str} {cs : Scope} {a : Addr} {ccd : Value} {cl : List (Str × Addr)} {outer : List Env} {A₀ : Around} {base h₀ : Heap} {L : Addr} {m : Str → Option Value} {news : List (Addr × Obj)} {s : Shared} {E : Value → Shared → Prop} {Q : Value → Shared → Prop}
  (B : Below A₀ base outer h₀) (F : Fr h₀ L s.heap m) (X : (KK w.params).In h₀) (N : News h₀ L s.heap news) (T : Top p loose mean mg mb h₀) (hk : cs.kind = .function)
include B F X N T hk
theorem en_Table_resize {v0 v1 v2 v3 : Value} (hd : dp < recursionLimit) (h : Bdy prog w p loose mean mg mb dp un gd cn cs a ccd cl outer base h₀ L m news s E Q "Table.resize" S_Table_resize F_Table_resize 329 B_Table_resize [(Str.ofString "heap", v3), (Str.ofString "hash_size", v2), (Str.ofString "array_size", v1), (Str.ofString "self", v0)] 4) : wpAny (model prog w) (ktrTop dp un gd cn cs L a ccd cl outer) (call (.ref F_Table_resize) [v0, v1, v2, v3]) Q E s :=
  have X := X.keeps F.keep
  wpAny_call (code_def (binds := [(Str.ofString "self", v0), (Str.ofString "array_size", v1), (Str.ofString "hash_size", v2), (Str.ofString "heap", v3)]) B F (by assumption) N T rfl rfl hk (by k_is) (by k_is) hd (by first | exact binds_K (by k_in) rfl (by k_is) rfl rfl rfl | exact BindsTo.of_eq rfl) (locs rfl) h rfl rfl rfl (by decide))
theorem en_Table_resize3 {v0 v1 v2 : Value} (hd : dp < recursionLimit) (h : Bdy prog w p loose mean mg mb dp un gd cn cs a ccd cl outer base h₀ L m news s E Q "Table.resize" S_Table_resize F_Table_resize 329 B_Table_resize [(Str.ofString "heap", .none), (Str.ofString "hash_size", v2), (Str.ofString "array_size", v1), (Str.ofString "self", v0)] 4) : wpAny (model prog w) (ktrTop dp un gd cn cs L a ccd cl outer) (call (.ref F_Table_resize) [v0, v1, v2]) Q E s :=
  wpAny_call (code_def (binds := [(Str.ofString "self", v0), (Str.ofString "array_size", v1), (Str.ofString "hash_size", v2), (Str.ofString "heap", .none)]) B F X N T rfl rfl hk (by k_is) (by k_is) hd (by first | exact binds_K (by k_in) rfl (by k_is) rfl rfl rfl) (locs rfl) h rfl rfl rfl (by decide))
theorem en_Table___init__ {v0 : Value} (hd : dp < recursionLimit) (h : Bdy prog w p loose mean mg mb dp un gd cn cs a ccd cl outer base h₀ L m news s E Q "Table.__init__" S_Table___init__ F_Table___init__ 216 B_Table___init__ [(Str.ofString "hash_size", .int 0 490), (Str.ofString "array_size", .int 0 489), (Str.ofString "number", .int 0 488), (Str.ofString "self", v0)] 4) : wpAny (model prog w) (ktrTop dp un gd cn cs L a ccd cl outer) (call (.ref F_Table___init__) [v0]) Q E s :=
  wpAny_call (code_def (binds := [(Str.ofString "self", v0), (Str.ofString "number", .int 0 488), (Str.ofString "array_size", .int 0 489), (Str.ofString "hash_size", .int 0 490)]) B F X N T rfl rfl hk (by k_is) (by k_is) hd (by first | exact binds_K (by k_in) rfl (by k_is) rfl rfl rfl) (locs rfl) h rfl rfl rfl (by decide))
end
end Mine
end
section
open PySem PySem.W PySem.Spec PySem.Calls PyProof.Rows
namespace Mine
/-! the ledger: a new object goes behind the table -/
theorem led_mid {h₀ h : Heap} {L : Addr} {q : Addr × Obj} {X R : List (Addr × Obj)} (N : News h₀ L h (q :: (X ++ R))) : News h₀ L h (X ++ (q :: R)) := fun p hp => N p (by
  rcases List.mem_append.mp hp with hp | hp
  · exact .tail _ (List.mem_append_left _ hp)
  · rcases List.mem_cons.mp hp with rfl | hp
    · exact .head _
    · exact .tail _ (List.mem_append_right _ hp))
theorem led_top {h₀ h : Heap} {L : Addr} {q : Addr × Obj} {X R : List (Addr × Obj)} (N : News h₀ L h (X ++ (q :: R))) : News h₀ L h (q :: (X ++ R)) := fun p hp => N p (by
  rcases List.mem_cons.mp hp with rfl | hp
  · exact List.mem_append_right _ (.head _)
  · rcases List.mem_append.mp hp with hp | hp
    · exact List.mem_append_left _ hp
    · exact List.mem_append_right _ (.tail _ hp))
theorem ap_mid {q : Addr × Obj} {X R : List (Addr × Obj)} (ap : Apart (X ++ R)) (h : ∀ p ∈ X ++ R, p.1 ≠ q.1) : Apart (X ++ (q :: R)) := by
  unfold Apart at ap ⊢
  have e : (X ++ q :: R).map (·.1) = X.map (·.1) ++ q.1 :: R.map (·.1) := by simp
  rw [e]
  refine (List.Perm.nodup_iff List.perm_middle).mpr ?_
  rw [← List.map_append]
  refine List.nodup_cons.mpr ⟨fun hm => ?_, ap⟩
  obtain ⟨p, hp, e⟩ := List.mem_map.mp hm
  exact h p hp e
theorem ap_lt {q : Addr × Obj} {X R : List (Addr × Obj)} (ap : Apart (X ++ R)) (h : ∀ p ∈ X ++ R, p.1 < q.1) : Apart (X ++ (q :: R)) := ap_mid ap fun p hp => Nat.ne_of_lt (h p hp)
theorem ap_drop {q : Addr × Obj} {X R : List (Addr × Obj)} (ap : Apart (X ++ (q :: R))) : Apart (X ++ R) :=
  List.Nodup.sublist (List.Sublist.map _ (List.Sublist.append_left (List.sublist_cons_self _ _) _)) ap
theorem ap_off {q : Addr × Obj} {X R : List (Addr × Obj)} (ap : Apart (X ++ (q :: R))) : ∀ p ∈ X ++ R, p.1 ≠ q.1 := by
  unfold Apart at ap
  have e : (X ++ q :: R).map (·.1) = X.map (·.1) ++ q.1 :: R.map (·.1) := by simp
  rw [e] at ap
  have := (List.nodup_cons.mp ((List.Perm.nodup_iff List.perm_middle).mp ap)).1
  intro p hp e
  apply this
  rw [← e, ← List.map_append]
  exact List.mem_map_of_mem hp
theorem lt_cons {q : Addr × Obj} {X R : List (Addr × Obj)} {D : Addr} (h : ∀ p ∈ q :: (X ++ R), p.1 < D) : ∀ p ∈ X ++ (q :: R), p.1 < D := fun p hp => h p (by
  rcases List.mem_append.mp hp with hp | hp
  · exact .tail _ (List.mem_append_left _ hp)
  · rcases List.mem_cons.mp hp with rfl | hp
    · exact .head _
    · exact .tail _ (List.mem_append_right _ hp))
/-! an append to the array part -/
theorem upd_push {P : Params} {V : Tab} {R : List (Addr × Obj)} {v : Value} (h : Apart (tl P V ++ R)) :
    Upd V.la (listOf V.arr.toArray V.ea) (listOf (V.arr.toArray.push v) (V.ea + 1)) (tl P V ++ R) (tl P (V.wArr V.la (V.arr ++ [v]) (V.ea + 1)) ++ R) := by
  rw [List.push_toArray]
  show Upd _ _ _ ((V.t, instObj C_Table V.td) :: (V.td, dictOf (tdE P V) 10) :: (V.la, listOf V.arr.toArray V.ea) :: (V.ln, listOf (refsN V.nds).toArray V.el) :: (nl P V.nds ++ R))
    ((V.t, instObj C_Table V.td) :: (V.td, dictOf (tdE P V) 10) :: (V.la, listOf (V.arr ++ [v]).toArray (V.ea + 1)) :: (V.ln, listOf (refsN V.nds).toArray V.el) :: (nl P V.nds ++ R))
  refine Upd.tail (fun q => ?_) (Upd.tail (fun q => ?_) (Upd.head h.tl.tl.ne))
  · exact h.ne (V.la, listOf V.arr.toArray V.ea) (.tail _ (.head _)) q.symm
  · exact h.tl.ne (V.la, listOf V.arr.toArray V.ea) (.head _) q.symm
theorem HeapIn.mono {P : Params} {hp : Addr} {R R' : List (Addr × Obj)} (h : HeapIn P hp R) (s : ∀ p ∈ R, p ∈ R') : HeapIn P hp R' := by
  obtain ⟨hq, k0, k1, v0, v1, h1, h2⟩ := h
  exact ⟨hq, k0, k1, v0, v1, s _ h1, s _ h2⟩
end Mine
end
section
open PySem PySem.W PySem.Spec PySem.Calls PyProof.Rows
open PyProof.Rows
namespace Mine
theorem wdD5_0 : True := by
  k_with_none
  k_with "k_room" => ((try dsimp only [Ax]); ktr_room)
  k_with "k_units" => ((try dsimp only [Ax]); ktr_units)
  k_with "ent" => (intro _ _ _ _ _ _ _ _ _; (try k_fold); (refine foldA ?_; intro Ax); (conv in execs _ _ => arg 1; whnf))
  k_with "dep" => ((try dsimp only [ktrTop, Around.deeper, Around.in1, Around.under]); (first | (refine' room2 ?zqhR ?zqcR; (case zqhR => assumption); (case zqcR => exact Nat.le_of_ble_eq_true rfl)) | (refine' room0 ?zqhR; (case zqhR => assumption)) | (refine' room1 ?zqhR ?zqcR; (case zqhR => assumption); (case zqcR => exact Nat.le_of_ble_eq_true rfl)) | (refine' room3 ?zqhR ?zqcR; (case zqhR => assumption); (case zqcR => exact Nat.le_of_ble_eq_true rfl)) | omega))
  k_with "news" => first | assumption | exact news_tl0 (by assumption) | exact news_tl0 (news_tl0 (by assumption)) | exact news_tl0 (news_tl0 (news_tl0 (by assumption)))
  k_with "dec" => first | ((try simp only [beq_iff_eq, bne_iff_ne, decide_eq_true_eq, decide_eq_false_iff_not, Bool.and_eq_true, Bool.not_eq_true', Bool.not_eq_true, beq_eq_false_iff_ne, ne_eq]) <;> omega) | (simp; done)
  k_with "ite" => (k_here; k_openite; (first | refine ite_pos (by walk_at "dec") ?_ | refine ite_neg (by walk_at "dec") ?_))
  k_with "go" => repeat' ((fail_if_success (with_reducible show wpAny _ _ (exec (Stmt.While _ _ _ _) _) _ _ _)); (fail_if_success (with_reducible show wpAny _ _ (exec (Stmt.For _ _ _ _ _) _) _ _ _)); (fail_if_success (with_reducible show WhileStep2 _ _ _ _ _ _ Flow.next _)); (fail_if_success (with_reducible show WhileStep2 _ _ _ _ _ _ Flow.cont _)); (first | (k_unfold; (try dsimp only)) | (k_end; wrow_close) | ((first | (with_reducible show wpAny _ _ (exec _ _) _ _ _) | (with_reducible show wpAny _ _ (execs _ _) _ _ _)); k_fold; (try (refine foldS ?_; intro Sx))) | walk1 | (dsimp only; walk1) | (leave1; walk_say "STEP leave1"; try dsimp only)))
  k_with "subscriptTail" => (k_here; (with_reducible show wpAny _ _ (subscriptTail _ _ (Value.bytes _ _) (Value.int _ _)) _ _ _); k_dflt (refine' item_by ?zqf ?zqa ?zqb ?_ ?zqhs ?zqht; (case zqf => first | assumption | omega); (case zqa => first | assumption | omega); (case zqb => first | assumption | omega); (case zqhs => with_unfolding_all rfl); (case zqht => (intro _; with_unfolding_all rfl)); k_whole); intro _ _)
  k_with "subscriptTail" => (k_here; (with_reducible show wpAny _ _ (subscriptTail _ _ (Value.ref _) (Value.int _ _)) _ _ _); k_dflt (refine' item_led ?zqN ?zqm ?zqa ?zqb ?zqx ?_ ?zqhs; (case zqN => k_asm); (case zqm => k_mem); (case zqa => first | assumption | omega); (case zqb => first | assumption | omega); (case zqx => first | assumption | walk_at "item"); (case zqhs => with_unfolding_all rfl); k_whole))
  k_with "WhileStep2" => (dsimp only [WhileStep2])
  k_with "lenk" => first | assumption | exact refsN_len _ | exact rfl
  k_with "call builtin:len" => (k_here; (with_reducible show wpAny _ _ (call (Value.builtin "len") [Value.ref _]) _ _ _); k_dflt (refine' len_led ?zqN ?zqm ?zqk ?zqf ?_; (case zqN => k_asm); (case zqm => k_mem); (case zqk => walk_at "lenk"); (case zqf => first | assumption | omega); k_whole); intro _ _)
  k_with "binaryOp Mod int int" => (k_here; k_dflt (refine' mod_int' (by assumption) ?_; k_whole))
  k_with "item" => exact refsN_get (by assumption)
  k_with "k_handed" => assumption
  k_with "compareOp Is none" => (k_here; first | refine is_none_ne (by assumption) ?_ | refine is_none_eq (by assumption) ?_)
  k_with "compareOp IsNot none" => (k_here; first | refine isnot_none_ne (by assumption) ?_ | refine isnot_none_eq (by assumption) ?_)
  k_with "k_all" => assumption
  k_with "setItem ref int" => (k_here; (with_reducible show wpAny _ _ (setItem (Value.ref _) (Value.int _ _) _) _ _ _); k_dflt (refine' set_led ?zqF ?zqN ?zqU ?zqa ?zqb ?zqc ?_; (case zqF => k_asm); (case zqN => k_asm); (case zqU => k_upd); (case zqa => first | assumption | omega); (case zqb => first | assumption | omega); (case zqc => first | assumption | omega); k_whole); intro _ _ _; (try k_sweep))
  k_with "getItem ref int" => (k_here; (with_reducible show wpAny _ _ (getItem (Value.ref _) (Value.int _ _)) _ _ _); k_dflt (refine' get_led ?zqN ?zqm ?zqa ?zqb ?zqx ?_; (case zqN => k_asm); (case zqm => k_mem); (case zqa => first | assumption | omega); (case zqb => first | assumption | omega); (case zqx => first | assumption | walk_at "item"); k_whole))
  k_with "has" => first | assumption | exact has_tl (by assumption) | exact has_tl (has_tl (by assumption))
  k_with "has" => exact has_app
  k_with "k_mem" => first | exact List.mem_append_left _ mem_t | exact List.mem_append_left _ mem_td | exact List.mem_append_left _ mem_la | exact List.mem_append_left _ mem_ln | exact List.mem_append_left _ (mem_nx (by assumption)) | exact List.mem_append_left _ (mem_nd (by assumption)) | exact List.mem_append_right _ (by assumption)
  k_with "apart" => first | assumption | exact apart_same (by assumption) rfl
  k_with "setAttr ref" => (k_here; k_dflt (first | ((with_reducible show wpAny _ _ (setAttr (Value.ref _) (Str.ofString "free") _) _ _ _); refine' set_free ?zqF ?zqX ?zqN ?zqap ?zqhx ?_; (case zqF => k_asm); (case zqX => k_asm); (case zqN => k_asm); (case zqap => walk_at "apart"); (case zqhx => exact rfl); k_whole; intro _ _ _ _) | ((with_reducible show wpAny _ _ (setAttr (Value.ref _) (Str.ofString "flags") _) _ _ _); refine' set_flags ?zqF ?zqX ?zqN ?zqap ?zqhx ?_; (case zqF => k_asm); (case zqX => k_asm); (case zqN => k_asm); (case zqap => walk_at "apart"); (case zqhx => exact rfl); k_whole; intro _ _ _ _) | ((with_reducible show wpAny _ _ (setAttr (Value.ref _) (Str.ofString "log_nodes") _) _ _ _); refine' set_log_nodes ?zqF ?zqX ?zqN ?zqap ?zqhx ?_; (case zqF => k_asm); (case zqX => k_asm); (case zqN => k_asm); (case zqap => walk_at "apart"); (case zqhx => exact rfl); k_whole; intro _ _ _ _) | ((with_reducible show wpAny _ _ (setAttr (Value.ref _) (Str.ofString "size") _) _ _ _); refine' set_size ?zqF ?zqX ?zqN ?zqap ?zqhx ?_; (case zqF => k_asm); (case zqX => k_asm); (case zqN => k_asm); (case zqap => walk_at "apart"); (case zqhx => exact rfl); k_whole; intro _ _ _ _) | ((with_reducible show wpAny _ _ (setAttr (Value.ref _) (Str.ofString "number") _) _ _ _); refine' set_number ?zqF ?zqX ?zqN ?zqap ?zqhx ?_; (case zqF => k_asm); (case zqX => k_asm); (case zqN => k_asm); (case zqap => walk_at "apart"); (case zqhx => exact rfl); k_whole; intro _ _ _ _) | ((with_reducible show wpAny _ _ (setAttr (Value.ref _) (Str.ofString "key") _) _ _ _); refine' set_key ?zqF ?zqX ?zqN ?zqap ?zqe ?zqhx ?_; (case zqF => k_asm); (case zqX => k_asm); (case zqN => k_asm); (case zqap => walk_at "apart"); (case zqhx => exact rfl); (case zqe => assumption); k_whole; intro _ _ _ _ _ _) | ((with_reducible show wpAny _ _ (setAttr (Value.ref _) (Str.ofString "value") _) _ _ _); refine' set_value ?zqF ?zqX ?zqN ?zqap ?zqe ?zqhx ?_; (case zqF => k_asm); (case zqX => k_asm); (case zqN => k_asm); (case zqap => walk_at "apart"); (case zqhx => exact rfl); (case zqe => assumption); k_whole; intro _ _ _ _ _ _) | ((with_reducible show wpAny _ _ (setAttr (Value.ref _) (Str.ofString "next") _) _ _ _); refine' set_next ?zqF ?zqX ?zqN ?zqap ?zqe ?zqhx ?_; (case zqF => k_asm); (case zqX => k_asm); (case zqN => k_asm); (case zqap => walk_at "apart"); (case zqhx => exact rfl); (case zqe => assumption); k_whole; intro _ _ _ _ _ _)); (try k_sweep))
  trivial
theorem wdD5_1 : True := by
  k_with "gor" => repeat' ((fail_if_success (with_reducible show wpAny _ _ (exec (Stmt.While _ _ _ _) _) _ _ _)); (fail_if_success (with_reducible show wpAny _ _ (exec (Stmt.For _ _ _ _ _) _) _ _ _)); (fail_if_success (with_reducible show wpAny _ _ (setAttr (Value.ref _) (Str.ofString "array") _) _ _ _)); (fail_if_success (with_reducible show wpAny _ _ (setAttr (Value.ref _) (Str.ofString "nodes") _) _ _ _)); (fail_if_success (with_reducible show wpAny _ _ (pyIter (Value.ref _)) _ _ _)); (fail_if_success (with_reducible show wpAny _ _ (call (Value.ref 337) _) _ _ _)); (fail_if_success (with_reducible show wpAny _ _ (call (Value.ref 342) _) _ _ _)); (fail_if_success (with_reducible show wpAny _ _ (call (Value.type "enumerate") _) _ _ _)); (fail_if_success (with_reducible show wpAny _ _ (call (Value.ref 356) _) _ _ _)); (fail_if_success (with_reducible show WhileStep2 _ _ _ _ _ _ Flow.next _)); (fail_if_success (with_reducible show WhileStep2 _ _ _ _ _ _ Flow.cont _)); (first | (k_unfold; (try dsimp only)) | (k_end; wrow_close) | ((first | (with_reducible show wpAny _ _ (exec _ _) _ _ _) | (with_reducible show wpAny _ _ (execs _ _) _ _ _)); k_fold; (try (refine foldS ?_; intro Sx))) | walk1 | (dsimp only; walk1) | (leave1; walk_say "STEP leave1"; try dsimp only)))
  k_with "k_mem" => first | assumption | exact List.mem_append_right _ (by assumption) | exact .tail _ (by assumption)
  trivial
section
variable {prog : Program} {w : World} {p : Program} {loose : List Str} {mean : ExcName → Option Value} {mg mb : Str → Option Value}
  {dp un : Nat} {gd : Option (List Code)} {cn : Str} {cs : Scope} {a : Addr} {ccd : Value} {cl : List (Str × Addr)} {outer : List Env} {A₀ : Around} {base h₀ : Heap} {L : Addr} {m : Str → Option Value} {news : List (Addr × Obj)} {s : Shared} {E : Value → Shared → Prop} {Q : Value → Shared → Prop}
  (B : Below A₀ base outer h₀) (F : Fr h₀ L s.heap m) (X : (KK w.params).In h₀) (N : News h₀ L s.heap news) (T : Top p loose mean mg mb h₀) (hk : cs.kind = .function)
include B F X N T hk
set_option maxHeartbeats 4000000
theorem resized_C {v0 v1 : Value} (hd : dp + 3 < recursionLimit) (_hu : un + 20 < cLine)
    (hret : ∀ h' tk', Fr h₀ L h' m → News h₀ L h' news → Q .none { s with heap := h', toks := tk' }) :
    wpAny (model prog w) (ktrTop dp un gd cn cs L a ccd cl outer) (call (.ref F_PlainHeap_resized) [v0, v1]) Q E s := by
  refine en_PlainHeap_resized B F X N T hk (by first | exact room0 hd | omega) ?_
  walk_at "ent"
  k_steps
  all_goals exact hret _ _ (by assumption) (by assumption)
end
theorem wdD5_2 : True := by
  k_with "call ref" => (k_here; k_dflt (refine' resized_C ?zqB ?zqF ?zqX ?zqN ?zqT ?zqhk ?zqd ?zqu  ?_; (case zqB => k_asm); (case zqF => k_asm); (case zqX => k_asm); (case zqN => k_asm); (case zqT => k_asm); (case zqhk => first | assumption | exact rfl); (case zqd => walk_at "dep"); (case zqu => walk_at "dep");  k_whole); intro _ _ _ _;  (try k_sweep))
  trivial
section
variable {prog : Program} {w : World} {p : Program} {loose : List Str} {mean : ExcName → Option Value} {mg mb : Str → Option Value}
  {dp un : Nat} {gd : Option (List Code)} {cn : Str} {cs : Scope} {a : Addr} {ccd : Value} {cl : List (Str × Addr)} {outer : List Env} {A₀ : Around} {base h₀ : Heap} {L : Addr} {m : Str → Option Value} {news : List (Addr × Obj)} {s : Shared} {E : Value → Shared → Prop} {Q : Value → Shared → Prop}
  (B : Below A₀ base outer h₀) (F : Fr h₀ L s.heap m) (X : (KK w.params).In h₀) (N : News h₀ L s.heap news) (T : Top p loose mean mg mb h₀) (hk : cs.kind = .function)
include B F X N T hk
set_option maxHeartbeats 4000000
theorem weigh_C {v0 : Value} {hp : Addr} (hd : dp + 6 < recursionLimit) (_hu : un + 50 < cLine) (hh : HeapIn w.params hp news)
    (hret : ∀ h' tk', Fr h₀ L h' m → News h₀ L h' news → Q .none { s with heap := h', toks := tk' }) :
    wpAny (model prog w) (ktrTop dp un gd cn cs L a ccd cl outer) (call (.ref F_Table_weigh) [v0, .ref hp]) Q E s := by
  obtain ⟨hq, k0, k1, q0, q1, hh1, hh2⟩ := hh
  refine en_Table_weigh B F X N T hk (by first | exact room0 hd | omega) ?_
  walk_at "ent"
  walk_at "go"
  all_goals exact hret _ _ (by assumption) (by assumption)
end
theorem pick_from (vs : List Value) {x : Int} (h : 0 ≤ x) : (slicePick vs.toArray (some x) none none).toList = vs.drop x.toNat := by
  have e : sliceBounds (some x) none none vs.toArray.size = (((min x.toNat vs.toArray.size : Nat) : Int), ((vs.toArray.size : Nat) : Int), 1) := by
    simp only [sliceBounds, Option.getD_none, show (1 : Int) > 0 by decide, if_true, if_neg (show ¬ (x < 0) by omega)]
    congr 1
    omega
  rw [kmk_pick_nat _ e]
  show ((vs.drop (min x.toNat vs.toArray.size)).take (vs.toArray.size - min x.toNat vs.toArray.size)) = _
  rw [List.size_toArray, kmk_drop_min, List.take_of_length_le (by rw [List.length_drop]; omega)]
theorem pick_upto (vs : List Value) {y : Int} (h : 0 ≤ y) : (slicePick vs.toArray none (some y) none).toList = vs.take y.toNat := by
  have e : sliceBounds none (some y) none vs.toArray.size = (((0 : Nat) : Int), ((min y.toNat vs.toArray.size : Nat) : Int), 1) := by
    simp only [sliceBounds, Option.getD_none, show (1 : Int) > 0 by decide, if_true, if_neg (show ¬ (y < 0) by omega)]
    congr 1
    congr 1
    omega
  rw [kmk_pick_nat _ e]
  show ((vs.drop 0).take (min y.toNat vs.toArray.size - 0)) = _
  rw [List.drop_zero, Nat.sub_zero, List.size_toArray, kmk_take_min]
theorem news_its {h₀ h : Heap} {L : Addr} {q q' : Addr × Obj} {X R : List (Addr × Obj)} (N : News h₀ L h (X ++ (q :: q' :: R))) : News h₀ L h ([q, q'] ++ (X ++ R)) := fun p hp => N p (by
  rcases List.mem_cons.mp hp with rfl | hp
  · exact List.mem_append_right _ (.head _)
  · rcases List.mem_cons.mp hp with rfl | hp
    · exact List.mem_append_right _ (.tail _ (.head _))
    · have hp : p ∈ X ++ R := hp
      rcases List.mem_append.mp hp with hp | hp
      · exact List.mem_append_left _ hp
      · exact List.mem_append_right _ (.tail _ (.tail _ hp)))
theorem off_its {q q' : Addr × Obj} {X R : List (Addr × Obj)} (ap : Apart (X ++ (q :: q' :: R))) : ∀ p ∈ X ++ R, ∀ r ∈ [q, q'], p.1 ≠ r.1 := by
  intro p hp r hr
  rcases List.mem_cons.mp hr with rfl | hr
  · refine ap_off ap p ?_
    rcases List.mem_append.mp hp with hp | hp
    · exact List.mem_append_left _ hp
    · exact List.mem_append_right _ (.tail _ hp)
  · rcases List.mem_cons.mp hr with rfl | hr
    · exact ap_off (ap_drop ap) p hp
    · exact nomatch hr
theorem outK_in {W : Tab} {sz : Nat} (h : W.arr.length = sz) {k : Ky} (a : InArr W k) : outK sz k = 0 := by
  cases k with
  | i n =>
    have a' : 1 ≤ n ∧ n ≤ (W.arr.length : Int) := a
    show (if 1 ≤ n ∧ n ≤ (sz : Int) then (0 : Int) else 1) = 0
    rw [if_pos (by omega)]
  | b x => exact a.elim
theorem outK_out {W : Tab} {sz : Nat} (h : W.arr.length = sz) {k : Ky} (a : ¬ InArr W k) : outK sz k = 1 := by
  cases k with
  | i n =>
    have a' : ¬ (1 ≤ n ∧ n ≤ (W.arr.length : Int)) := a
    show (if 1 ≤ n ∧ n ≤ (sz : Int) then (0 : Int) else 1) = 1
    rw [if_neg (by omega)]
  | b x => rfl
theorem pad_next {l : List Value} {sz j : Nat} (h : (l.take sz ++ List.replicate j Value.none).length < sz) : (l.take sz ++ List.replicate j Value.none) ++ [.none] = l.take sz ++ List.replicate (j + 1) .none := by
  rw [List.append_assoc, List.replicate_succ']
theorem pad_done {l : List Value} {sz j : Nat} (h : (l.take sz ++ List.replicate j Value.none).length = sz) : l.take sz ++ List.replicate j Value.none = padA l sz := by
  have e : (l.take sz ++ List.replicate j Value.none).length = min sz l.length + j := by simp
  unfold padA
  rw [show j = sz - l.length by omega]
theorem wdD5_3 : True := by
  k_with "subscriptTail Name Slice ref ref" => (k_here; (with_reducible show wpAny _ _ (subscriptTail _ (PySem.Expr.Slice _ _ none _) (Value.ref _) (Value.ref _)) _ _ _); k_dflt (refine' kmk_slice_lit ?zqF ?zqN ?zql ?zqp ?zqq ?zqe ?_ ?zqs ?zqt ?zqz; (case zqF => k_asm); (case zqN => k_asm); (case zql => exact isList_led (by k_asm) (by k_mem)); (case zqp => kmk_part); (case zqq => kmk_part); (case zqe => first | exact pick_from _ (by omega) | exact pick_upto _ (by omega)); (case zqs => with_unfolding_all rfl); (case zqt => kmk_pure); (case zqz => (rw [List.size_toArray, sizeLine_eq]; omega))); intro _ _ _ _ _; (try k_sweep))
  k_with "k_mem" => first | exact .tail _ (List.mem_append_left _ mem_la) | exact List.mem_append_left _ mem_la | exact .tail _ (List.mem_append_left _ mem_t) | exact .tail _ (List.mem_append_left _ mem_td) | exact List.mem_append_left _ mem_t | exact List.mem_append_left _ mem_td | assumption
  k_with "setAttr ref" => fail
  k_with "k_upd" => exact upd_push (by assumption)
  trivial
theorem wdD5_sf : True := by
  k_with "size_fits" => (rw [List.size_toArray, sizeLine_eq]; omega)
  trivial
theorem wdD5_4 : True := by
  k_with "call type:reversed" => (k_here; (with_reducible show wpAny _ _ (call (Value.type _) [Value.ref _]) _ _ _); k_dflt (refine' krv_reversed ?zqF ?zqN ?zql ?_; (case zqF => k_asm); (case zqN => k_asm); (case zql => exact isList_led (by k_asm) (by k_mem))); intro _ _ _ _ _; (try k_sweep))
  trivial
inductive RzJ3 (w : World) (V : Tab) (C : Ky → Value) (R2 : List (Addr × Obj)) (sz NN : Nat) (hp : Addr) (j : Nat) (m₁ : Str → Option Value) (nx : List (Addr × Obj)) : Prop
  | mk (W : _) (zq0 : St C (D2 V j) (nn (V.arr.drop sz) + cntOut sz (V.nds.drop j)) (nn V.arr + nAll (V.nds.drop j)) W) (zq1 : (W.arr.length = sz ∧ W.nds.length = NN ∧ W.t = V.t ∧ W.num = V.num)) (zq2 : Apart (tl w.params W ++ R2)) (zq3 : nx = tl w.params W ++ R2) (zq4 : m₁ "self" = some (.ref V.t)) (zq5 : m₁ "heap" = some (.ref hp)) : RzJ3 w V C R2 sz NN hp j m₁ nx
inductive RzJ2 (w : World) (V : Tab) (C : Ky → Value) (R2 : List (Addr × Obj)) (sz NN : Nat) (t1 : Tok) (hp : Addr) (i : Nat) (m₁ : Str → Option Value) (nx : List (Addr × Obj)) : Prop
  | mk (W : _) (zq0 : St C (D1 V (sz + i)) (nn ((V.arr.drop sz).take i)) (pre V.arr sz + nn ((V.arr.drop sz).take i)) W) (zq1 : (W.arr.length = sz ∧ W.nds.length = NN ∧ W.t = V.t ∧ W.num = V.num)) (zq2 : Apart (tl w.params W ++ R2)) (zq3 : nx = tl w.params W ++ R2) (zq4 : m₁ "self" = some (.ref V.t)) (zq5 : m₁ "array_size" = some (.int (sz : Int) t1)) (zq6 : m₁ "heap" = some (.ref hp)) (zq7 : m₁ "old_nodes" = some (.ref V.ln)) : RzJ2 w V C R2 sz NN t1 hp i m₁ nx
inductive RzJ1 (w : World) (V : Tab) (R : List (Addr × Obj)) (sz : Nat) (hs : Int) (t1 t2 : Tok) (hp Da Dv : Addr) (k : Nat) (m₁ : Str → Option Value) (nx : List (Addr × Obj)) : Prop
  | mk (j : _) (e : _) (zq0 : nx = tl w.params (V.wArr Da (V.arr.take sz ++ List.replicate j .none) e) ++ ((V.la, listOf V.arr.toArray V.ea) :: (Dv, listOf (V.arr.drop sz).toArray 0) :: R)) (zq1 : Apart nx) (zq2 : k = sz - (V.arr.take sz ++ List.replicate j Value.none).length) (zq3 : (V.arr.take sz ++ List.replicate j Value.none).length ≤ sz) (zq4 : m₁ "self" = some (.ref V.t)) (zq5 : m₁ "array_size" = some (.int (sz : Int) t1)) (zq6 : m₁ "hash_size" = some (.int hs t2)) (zq7 : m₁ "heap" = some (.ref hp)) (zq8 : m₁ "old_nodes" = some (.ref V.ln)) (zq9 : m₁ "vanishing" = some (.ref Dv)) : RzJ1 w V R sz hs t1 t2 hp Da Dv k m₁ nx
section
variable {prog : Program} {w : World} {p : Program} {loose : List Str} {mean : ExcName → Option Value} {mg mb : Str → Option Value}
  {dp un : Nat} {gd : Option (List Code)} {cn : Str} {cs : Scope} {a : Addr} {ccd : Value} {cl : List (Str × Addr)} {outer : List Env} {A₀ : Around} {base h₀ : Heap} {L : Addr} {m : Str → Option Value} {s : Shared} {E : Value → Shared → Prop} {Q : Value → Shared → Prop}
  (B : Below A₀ base outer h₀) (F : Fr h₀ L s.heap m) (X : (KK w.params).In h₀) {V : Tab} {R : List (Addr × Obj)} (N : News h₀ L s.heap (tl w.params V ++ R)) (ap : Apart (tl w.params V ++ R)) (T : Top p loose mean mg mb h₀) (hk : cs.kind = .function)
include B F X N ap T hk
set_option maxHeartbeats 4000000
theorem resize_C {sz : Nat} {hs : Int} {t1 t2 : Tok} {hp : Addr} (hd : dp + 30 < recursionLimit) (hu : un + 220 < cLine) (hV : Inv V) (hin : ∀ k v, Cont V k v → handedIn v = true) (hh : HeapIn w.params hp R) (h1 : sz ≤ 1000) (h2 : hs ≤ 1000) (h3 : V.arr.length ≤ 1000) (h4 : V.nds.length ≤ 1000) (hc : nn (V.arr.drop sz) + cntOut sz V.nds ≤ hs) {x : Addr} (hx : x = V.t)
    (hret : ∀ h' tk' W G, RsR V sz (if 0 < hs then 2 ^ clog hs.toNat else 0) (nn (V.arr.drop sz) + cntOut sz V.nds) W → Fr h₀ L h' m → News h₀ L h' (tl w.params W ++ (G ++ R)) → Apart (tl w.params W ++ (G ++ R)) → Q .none { s with heap := h', toks := tk' }) :
    wpAny (model prog w) (ktrTop dp un gd cn cs L a ccd cl outer) (call (.ref F_Table_resize) [.ref x, .int sz t1, .int hs t2, .ref hp]) Q E s := by
  subst hx
  obtain ⟨C, hC⟩ := hV.fn
  have e0 : ((sz : Nat) : Int).toNat = sz := Int.toNat_natCast sz
  refine en_Table_resize B F X N T hk (by first | exact room0 hd | omega) ?_
  walk_at "ent"
  walk_at "gor"
  rename_i Dv h6 l1 h7 Da h8 F5 N5 l2
  rw [e0] at N5 l2
  have N6 := led_mid (X := tl w.params V) (R := (Dv, listOf (V.arr.drop sz).toArray 0) :: R) (fun p hp => N5 p (by
    rcases List.mem_cons.mp hp with rfl | hp
    · exact .head _
    · refine .tail _ ?_
      rcases List.mem_append.mp hp with hp | hp
      · exact .tail _ (List.mem_append_left _ hp)
      · rcases List.mem_cons.mp hp with rfl | hp
        · exact .head _
        · exact .tail _ (List.mem_append_right _ hp)))
  have ap5 : Apart (tl w.params V ++ ((Dv, listOf (V.arr.drop sz).toArray 0) :: R)) := ap_lt ap l1
  have ap6 : Apart (tl w.params V ++ ((Da, listOf (V.arr.take sz).toArray 0) :: (Dv, listOf (V.arr.drop sz).toArray 0) :: R)) := ap_lt ap5 (lt_cons l2)
  clear N5 l2 l1
  refine set_array (by assumption) (by assumption) N6 ap6 rfl ?_
  clear N6 ap6
  intro h9 F9 N9 ap9
  walk_at "gor"
  refine While_inv2 (RzJ1 w V R sz hs t1 t2 hp Da Dv) (n₀ := sz - (V.arr.take sz ++ List.replicate 0 Value.none).length) (by assumption) (by assumption) ?_ ?_
  · exact ⟨0, 0, by rw [List.replicate_zero, List.append_nil], ap9, rfl, by simp; omega, rfl, rfl, rfl, rfl, rfl, rfl⟩
  rintro k m₁ nx h₁ tk₁ F₁ N₁ hJJ 
  (try k_fold)
  obtain ⟨j, e, rfl, ap1, hk1, hle, e1, e2, e3, e4, e5, e6⟩ := hJJ
  rw [map6 e1 e2 e3 e4 e5 e6] at F₁
  obtain ⟨A1, hA1⟩ : ∃ A1, A1 = V.arr.take sz ++ List.replicate j Value.none := ⟨_, rfl⟩
  rw [← hA1] at N₁ ap1 hk1 hle
  obtain ⟨U, hU⟩ : ∃ U, U = V.wArr Da A1 e := ⟨_, rfl⟩
  rw [← hU] at N₁ ap1
  have u1 : U.arr = A1 := by rw [hU]; rfl
  have u2 : V.t = U.t := by rw [hU]; rfl
  have u4 : V.nds = U.nds := by rw [hU]; rfl
  have u5 : V.ln = U.ln := by rw [hU]; rfl
  have u6 : V.el = U.el := by rw [hU]; rfl
  have u7 : V.num = U.num := by rw [hU]; rfl
  rw [← u1] at hk1 hle
  rw [u2] at F₁
  refine foldM F₁ ?_; clear F₁; intro Mx1 F₁
  have q1 : U.arr.length ≤ 1000000 := by omega
  rcases Nat.lt_or_ge U.arr.length sz with c | c
  · walk_at "gor"
    rename_i F2 N2
    have hA3 : A1 ++ [.none] = V.arr.take sz ++ List.replicate (j + 1) Value.none := by rw [hA1]; exact pad_next (by rw [← hA1, ← u1]; exact c)
    have hA4 : (V.arr.take sz ++ List.replicate (j + 1) Value.none).length = U.arr.length + 1 := by rw [← hA3, u1, List.length_append]; rfl
    have hA5 : U.wArr U.la (U.arr ++ [.none]) (U.ea + 1) = V.wArr Da (V.arr.take sz ++ List.replicate (j + 1) Value.none) (e + 1) := by rw [u1, hA3, hU]; rfl
    rw [hA5] at N2
    refine ⟨_, _, _, _, sz - (V.arr.take sz ++ List.replicate (j + 1) Value.none).length, rfl, F2, N2, ?_, j + 1, e + 1, rfl, ?_, rfl, ?_, ?_, rfl, rfl, rfl, rfl, rfl⟩
    · rw [hA4, hk1]; omega
    · rw [← hA5]; exact apart_same ap1 rfl
    · rw [hA4]; exact c
    · rw [u2]; rfl
  have hA2 : A1 = padA V.arr sz := by rw [hA1]; exact pad_done (by rw [← hA1, ← u1]; omega)
  obtain ⟨R1, hR1⟩ : ∃ R1, R1 = (V.la, listOf V.arr.toArray V.ea) :: (Dv, listOf (V.arr.drop sz).toArray 0) :: R := ⟨_, rfl⟩
  rw [← hR1] at N₁ ap1
  walk_at "gor"
  k_dflt (refine' make_nodes_C (V := U) (R := R1) ?B ?F ?X ?N ap1 ?T ?hk ?d ?u h2 rfl ?_; (case B => k_asm); (case F => k_asm); (case X => k_asm); (case N => k_asm); (case T => k_asm); (case hk => exact rfl); (case d => walk_at "dep"); (case u => walk_at "dep"))
  clear N₁
  intro h10 tk10 D ns e2' v t3 hf F10 N10 ap10
  obtain ⟨R2, hR2⟩ : ∃ R2, R2 = nlE w.params U.ln U.nds U.el ++ R1 := ⟨_, rfl⟩
  obtain ⟨W0, hW0⟩ : ∃ W0, W0 = ((U.wNodes D ns e2').wLog v).wFree ns.length t3 := ⟨_, rfl⟩
  rw [← hR2, ← hW0] at N10 ap10
  have w1 : W0.arr = padA V.arr sz := by rw [hW0, ← hA2, ← u1]; rfl
  have w2 : W0.nds = ns := by rw [hW0]; rfl
  have w3 : W0.free = (ns.length : Int) := by rw [hW0]; rfl
  have w4 : W0.t = V.t := by rw [hW0, u2]; rfl
  have w5 : W0.num = V.num := by rw [hW0, u7]; rfl
  obtain ⟨NN, hNN⟩ : ∃ NN, NN = (if 0 < hs then 2 ^ clog hs.toNat else 0) := ⟨_, rfl⟩
  rw [← hNN] at hf hret
  have hNb : NN ≤ 1024 ∧ hs ≤ NN := by
    rw [hNN]
    by_cases q : 0 < hs
    · rw [if_pos q]
      have hcl : clog hs.toNat ≤ 10 := (clog_le_iff (by omega)).mpr (by omega)
      have := le_pow_clog hs.toNat
      exact ⟨Nat.pow_le_pow_right (n := 2) (by decide) hcl, by omega⟩
    · rw [if_neg q]; omega
  have st0 := St.start (W := W0) (N := NN) hC w1 (by rw [w2]; exact hf) (by rw [w3, w2]) (by omega) (by omega)
  have sm0 : W0.arr.length = sz ∧ W0.nds.length = NN ∧ W0.t = V.t ∧ W0.num = V.num := ⟨by rw [w1, padA_len], by rw [w2]; exact hf.1, w4, w5⟩
  have hR : ∀ p ∈ R, p ∈ R2 := fun p hp => by rw [hR2, hR1]; exact List.mem_append_right _ (.tail _ (.tail _ hp))
  have hmv : (Dv, listOf (V.arr.drop sz).toArray 0) ∈ R2 := by rw [hR2, hR1]; exact List.mem_append_right _ (.tail _ (.head _))
  have hmo : (V.ln, listOf (refsN V.nds).toArray V.el) ∈ R2 := by rw [hR2, u4, u5, u6]; exact List.mem_append_left _ (.head _)
  have hmn : ∀ nd ∈ V.nds, (nd.x, instObj C_Node nd.dx) ∈ R2 ∧ (nd.dx, dictOf (ndE w.params nd) 3) ∈ R2 := fun nd hn => by
    rw [u4] at hn
    rw [hR2]
    exact ⟨List.mem_append_left _ (.tail _ (nl_x hn).1), List.mem_append_left _ (.tail _ (nl_x hn).2)⟩
  have hh2 : HeapIn w.params hp R2 := hh.mono hR
  have hG : ∃ G, R2 = G ++ R := ⟨nlE w.params U.ln U.nds U.el ++ [(V.la, listOf V.arr.toArray V.ea), (Dv, listOf (V.arr.drop sz).toArray 0)], by rw [hR2, hR1, List.append_assoc]; rfl⟩
  have dlen : (V.arr.drop sz).length = V.arr.length - sz := List.length_drop
  have tot : ∀ i, nn ((V.arr.drop sz).take i) + 0 ≤ nn (V.arr.drop sz) := fun i => by
    have := pre_drop (V.arr.drop sz) i
    have := nn_bd ((V.arr.drop sz).drop i)
    unfold pre at *
    omega
  have hhs0 := cntOut_nn sz V.nds
  clear hW0 w1 w2 w3 w4 w5 hf hU u1 u4 u5 u6 u7 hR2 hR1 hR hA2 hA1 hk1 hle
  walk_at "gor"
  refine For_turns (by assumption) ?_
  walk_at "gor"
  trace "ENUM"
  refine enum_J (vs := V.arr.drop sz) (n := 0) (RzJ2 w V C R2 sz NN t1 hp) rfl (by assumption) (by assumption) (List.mem_append_right _ hmv) rfl rfl ?_ ?_ ?_
  · exact ⟨W0, st0.iff (fun k => Iff.rfl) (by simp [nn]) (by simp [nn]), sm0, ap10, rfl, by rw [u2]; rfl, rfl, rfl, rfl⟩
  · rintro I i v m₁ nx iE iL T t h tk hv hJJ ho hiE hiL hT F₁ N₁
    (try k_fold)
    obtain ⟨W, st, sm, apW, rfl, e1, e2, e4, e5⟩ := hJJ
    rw [map4 e1 e2 e4 e5, ← sm.2.2.1] at F₁
    refine foldM F₁ ?_; clear F₁; intro Mx2 F₁
    have hlt := lt_of_get hv
    have hav : V.arr[sz + i]? = some v := by rw [List.getElem?_drop] at hv; exact hv
    have N2 : News _ _ _ (tl w.params W ++ ((I + 1, iE) :: (I, iL) :: R2)) := fun p hp => N₁ p (by
      rcases List.mem_append.mp hp with hp | hp
      · exact .tail _ (.tail _ (List.mem_append_left _ hp))
      · rcases List.mem_cons.mp hp with rfl | hp
        · exact .head _
        · rcases List.mem_cons.mp hp with rfl | hp
          · exact .tail _ (.head _)
          · exact .tail _ (.tail _ (List.mem_append_right _ hp)))
    have ap2 : Apart (tl w.params W ++ ((I, iL) :: R2)) := ap_mid apW fun p hp => (ho p hp).1
    have ap3 : Apart (tl w.params W ++ ((I + 1, iE) :: (I, iL) :: R2)) := ap_mid ap2 fun p hp => by
      rcases List.mem_append.mp hp with hp | hp
      · exact (ho p (List.mem_append_left _ hp)).2
      · rcases List.mem_cons.mp hp with rfl | hp
        · exact Nat.ne_of_lt (Nat.lt_succ_self _)
        · exact (ho p (List.mem_append_right _ hp)).2
    clear N₁
    have hcv := cont_arr hC hav
    have hsi : sz + i < V.arr.length := by omega
    have hnt := nn_take hv
    have hm9 : (Dv, listOf (V.arr.drop sz).toArray 0) ∈ tl w.params W ++ R2 := List.mem_append_right _ hmv
    by_cases hv0 : v = .none
    · walk_at "gor"
      rename_i F4 N4 _ _ _
      refine ⟨_, _, _, tl w.params W ++ R2, rfl, F4, news_its N4, off_its ap3, ⟨hm9, trivial⟩, W, (st.skip (k := .i ((sz + i + 1 : Nat) : Int)) D1.not (by rw [hcv]; exact hv0)).iff (D1.succ hsi) (by rw [hnt, if_pos hv0]; omega) (by rw [hnt, if_pos hv0]; omega), sm, apW, rfl, ?_, rfl, rfl, rfl⟩
      rw [← sm.2.2.1]; rfl
    · have hk9 : ∀ t, kyOf (.int ((sz : Int) + (i : Int) + 1) t) = some (.i ((sz + i + 1 : Nat) : Int)) := fun t => congrArg (fun x => some (Ky.i x)) (by omega)
      have hnot : ¬ InArr W (.i ((sz + i + 1 : Nat) : Int)) := by
        rintro ⟨_, z⟩
        rw [sm.1] at z
        omega
      have tot2 := tot (i + 1)
      rw [if_neg hv0] at hnt
      walk_at "gor"
      k_dflt (refine' put_back_C (V := W) (R := (I + 1, iE) :: (I, iL) :: R2) ?B ?F ?X ?N ap3 ?T ?hk ?d ?u st.iv.wf (hh2.mono fun p hp => .tail _ (.tail _ hp)) (hk9 _) trivial (st.ready (by rw [sm.2.1]; omega) _) rfl ?_; (case B => k_asm); (case F => k_asm); (case X => k_asm); (case N => k_asm); (case T => k_asm); (case hk => exact rfl); (case d => walk_at "dep"); (case u => walk_at "dep"))
      intro h11 tk11 W' hP F11 N11 ap11
      have hP' := hP
      rw [← hcv] at hP'
      obtain ⟨st', sa⟩ := st.putN D1.not hP' hnot (hk9 _) (hin _ _ (hC _)) trivial (show ((sz + i + 1 : Nat) : Int) ≤ 67108864 by omega)
      walk_at "gor"
      refine ⟨_, _, _, tl w.params W' ++ R2, rfl, by assumption, news_its N11, off_its ap11, ⟨List.mem_append_right _ hmv, trivial⟩, W', st'.iff (D1.succ hsi) (by rw [hnt]) (by rw [hnt]; omega), ⟨sa.ar.trans sm.1, sa.ln.trans sm.2.1, sa.tt.trans sm.2.2.1, sa.nu.trans sm.2.2.2⟩, ap_drop (ap_drop ap11), rfl, ?_, rfl, rfl, rfl⟩
      rw [← sm.2.2.1]; rfl
  · rintro h tk m₁ nx hJJ F₁ N₁
    (try k_fold)
    obtain ⟨W, st, sm, apW, rfl, e1, e2, e4, e5⟩ := hJJ
    rw [map4 e1 e2 e4 e5] at F₁
    refine foldM F₁ ?_; clear F₁; intro Mx3 F₁
    have hmo' : (V.ln, listOf (refsN V.nds).toArray V.el) ∈ tl w.params W ++ R2 := List.mem_append_right _ hmo
    walk_at "gor"
    refine For_invVF (by assumption) rfl rfl ?_
    walk_at "gor"
    rename_i D7 h7 F7 N7 l7
    refine iter_revJ (vs := refsN V.nds) (RzJ3 w V C R2 sz NN hp) rfl F7 N7 (fun p hp => Nat.ne_of_lt (l7 p hp)) hmo' rfl rfl ?_ ?_ ?_
    · refine ⟨W, st.iff (fun k => by rw [refsN_len']; exact D2.of_all (by omega) k) ?_ ?_, sm, apW, rfl, rfl, rfl⟩
      · rw [List.take_length, refsN_len', List.drop_length]; simp [cntOut]
      · rw [List.take_length, refsN_len', List.drop_length, pre_drop]; simp [nAll]
    · clear st sm apW F7 N7 l7
      rintro i v m₁ nx it h tk hv hJJ ho hit F₁ N₁
      (try k_fold)
      obtain ⟨W, st, sm, apW, rfl, e1, e4⟩ := hJJ
      rw [map2 e1 e4, ← sm.2.2.1] at F₁
      refine foldM F₁ ?_; clear F₁; intro Mx4 F₁
      obtain ⟨nd, hn, rfl⟩ := refsN_inv hv
      have N2 : News _ _ _ (tl w.params W ++ ((D7, it) :: R2)) := led_mid N₁
      have ap3 : Apart (tl w.params W ++ ((D7, it) :: R2)) := ap_mid apW ho
      clear N₁
      have n1 : (nd.x, instObj C_Node nd.dx) ∈ tl w.params W ++ ((D7, it) :: R2) := List.mem_append_right _ (.tail _ (hmn nd (List.mem_of_getElem? hn)).1)
      have n2 : (nd.dx, dictOf (ndE w.params nd) 3) ∈ tl w.params W ++ ((D7, it) :: R2) := List.mem_append_right _ (.tail _ (hmn nd (List.mem_of_getElem? hn)).2)
      have hvo := hV.wf.hvo nd (List.mem_of_getElem? hn)
      have hko := handed_key (hV.wf.hko.at hn)
      have hd1 := drop_one hn
      have hca : cntOut sz (V.nds.drop i) = cntOut sz [nd] + cntOut sz (V.nds.drop (i + 1)) := by rw [hd1, cntOut_app]
      have hcb : nAll (V.nds.drop i) = nAll [nd] + nAll (V.nds.drop (i + 1)) := by rw [hd1, nAll_app]
      have hct : cntOut sz V.nds = cntOut sz (V.nds.take i) + cntOut sz (V.nds.drop i) := by rw [← cntOut_app, List.take_append_drop]
      have hcn := cntOut_nn sz (V.nds.take i)
      by_cases hv0 : nd.val = .none
      · have st' : St C (D2 V i) (nn (V.arr.drop sz) + cntOut sz (V.nds.drop i)) (nn V.arr + nAll (V.nds.drop i)) W := by
          have z1 : cntOut sz (V.nds.drop i) = cntOut sz (V.nds.drop (i + 1)) := by rw [hca, cntOut_one0 hv0]; omega
          have z2 : nAll (V.nds.drop i) = nAll (V.nds.drop (i + 1)) := by rw [hcb, nAll_one0 hv0]; omega
          rw [z1, z2]
          by_cases hkn : kyOf nd.key = none
          · exact st.iff (D2.succ0 hn hkn) rfl rfl
          · obtain ⟨k0, hk0⟩ := Option.ne_none_iff_exists'.mp hkn
            exact (st.skip (D2.not hV hn hk0) (by rw [cont_nd hV hC hn hk0]; exact hv0)).iff (D2.succ1 hn hk0) rfl rfl
        walk_at "gor"
        refine UnrEnd.intro (by assumption) (led_top (by assumption)) _ (fun p hp => hp) ho ⟨⟨List.mem_append_right _ hmo, ho⟩, W, st', sm, apW, rfl, ?_, rfl⟩
        rw [← sm.2.2.1]; rfl
      · have hkn : kyOf nd.key ≠ none := fun e => hv0 (hV.iv.k0 i nd hn e).2
        obtain ⟨k0, hk0⟩ := Option.ne_none_iff_exists'.mp hkn
        have hcv := cont_nd hV hC hn hk0
        rw [cntOut_one1 hv0 hk0] at hca
        rw [nAll_one1 hv0] at hcb
        have hna := hV.na nd (List.mem_of_getElem? hn) k0 hk0
        have hi : InArr W k0 ∨ InsPre W k0 := by
          by_cases a : InArr W k0
          · exact .inl a
          · have := outK_out sm.1 a
            exact st.ready (by rw [sm.2.1]; omega) k0
        walk_at "gor"
        k_dflt (refine' put_back_C (V := W) (R := (D7, it) :: R2) ?B ?F ?X ?N ap3 ?T ?hk ?d ?u st.iv.wf (hh2.mono fun p hp => .tail _ hp) hk0 hna.2.1 hi rfl ?_; (case B => k_asm); (case F => k_asm); (case X => k_asm); (case N => k_asm); (case T => k_asm); (case hk => exact rfl); (case d => walk_at "dep"); (case u => walk_at "dep"))
        intro h11 tk11 W' hP F11 N11 ap11
        have hP' : PutR W k0 nd.key (C k0) W' := by rw [hcv]; exact hP
        obtain ⟨st', sa⟩ : St C (D2 V i) (nn (V.arr.drop sz) + cntOut sz (V.nds.drop i)) (nn V.arr + nAll (V.nds.drop i)) W' ∧ Same W W' := by
          by_cases a : InArr W k0
          · have := outK_in sm.1 a
            obtain ⟨q1, q2⟩ := st.putA hP' a
            exact ⟨q1.iff (D2.succ1 hn hk0) (by omega) (by omega), q2⟩
          · have := outK_out sm.1 a
            obtain ⟨q1, q2⟩ := st.putN (D2.not hV hn hk0) hP' a hk0 (hin _ _ (hC _)) hna.2.1 hna.2.2
            exact ⟨q1.iff (D2.succ1 hn hk0) (by omega) (by omega), q2⟩
        walk_at "gor"
        refine UnrEnd.intro (by assumption) (led_top N11) _ (fun p hp => hp) (ap_off ap11) ⟨⟨List.mem_append_right _ hmo, ap_off ap11⟩, W', st', ⟨sa.ar.trans sm.1, sa.ln.trans sm.2.1, sa.tt.trans sm.2.2.1, sa.nu.trans sm.2.2.2⟩, ap_drop ap11, rfl, ?_, rfl⟩
        rw [← sm.2.2.1]; rfl
    · rintro h tk m₁ nx hJJ F₁ N₁
      (try k_fold)
      obtain ⟨W, st, sm, apW, rfl, e1, e4⟩ := hJJ
      rw [map2 e1 e4, ← sm.2.2.1] at F₁
      refine foldM F₁ ?_; clear F₁; intro Mx5 F₁
      obtain ⟨G, hG⟩ := hG
      have hh3 : HeapIn w.params hp (tl w.params W ++ R2) := hh2.mono fun p hp => List.mem_append_right _ hp
      have hrs := st.done hV hC sm.1 sm.2.1 sm.2.2.1 sm.2.2.2
      rw [List.drop_zero] at hrs
      walk_at "gor"
      k_dflt (refine' weigh_C (news := tl w.params W ++ R2) ?B ?F ?X ?N ?T ?hk ?d ?u hh3 ?_; (case B => k_asm); (case F => k_asm); (case X => k_asm); (case N => k_asm); (case T => k_asm); (case hk => exact rfl); (case d => walk_at "dep"); (case u => walk_at "dep"))
      intro h12 tk12 F12 N12
      rw [hG] at N12 apW
      walk_at "gor"
      all_goals exact hret _ _ _ G hrs (by assumption) (by assumption) apW
end
end Mine
end
section
open PySem PySem.W PySem.Spec PySem.Calls PyProof.Rows
open PyProof.Rows
namespace Mine
theorem wdD6_0 : True := by
  k_with "k_mem" => first | exact List.mem_append_left _ mem_t | exact List.mem_append_left _ mem_td | exact List.mem_append_left _ mem_la | exact List.mem_append_left _ mem_ln | exact List.mem_append_left _ (mem_nx (by assumption)) | exact List.mem_append_left _ (mem_nd (by assumption)) | exact List.mem_append_right _ (by assumption)
  k_with "setAttr ref" => (k_here; k_dflt (first | ((with_reducible show wpAny _ _ (setAttr (Value.ref _) (Str.ofString "free") _) _ _ _); refine' set_free ?zqF ?zqX ?zqN ?zqap ?zqhx ?_; (case zqF => k_asm); (case zqX => k_asm); (case zqN => k_asm); (case zqap => walk_at "apart"); (case zqhx => exact rfl); k_whole; intro _ _ _ _) | ((with_reducible show wpAny _ _ (setAttr (Value.ref _) (Str.ofString "flags") _) _ _ _); refine' set_flags ?zqF ?zqX ?zqN ?zqap ?zqhx ?_; (case zqF => k_asm); (case zqX => k_asm); (case zqN => k_asm); (case zqap => walk_at "apart"); (case zqhx => exact rfl); k_whole; intro _ _ _ _) | ((with_reducible show wpAny _ _ (setAttr (Value.ref _) (Str.ofString "log_nodes") _) _ _ _); refine' set_log_nodes ?zqF ?zqX ?zqN ?zqap ?zqhx ?_; (case zqF => k_asm); (case zqX => k_asm); (case zqN => k_asm); (case zqap => walk_at "apart"); (case zqhx => exact rfl); k_whole; intro _ _ _ _) | ((with_reducible show wpAny _ _ (setAttr (Value.ref _) (Str.ofString "size") _) _ _ _); refine' set_size ?zqF ?zqX ?zqN ?zqap ?zqhx ?_; (case zqF => k_asm); (case zqX => k_asm); (case zqN => k_asm); (case zqap => walk_at "apart"); (case zqhx => exact rfl); k_whole; intro _ _ _ _) | ((with_reducible show wpAny _ _ (setAttr (Value.ref _) (Str.ofString "number") _) _ _ _); refine' set_number ?zqF ?zqX ?zqN ?zqap ?zqhx ?_; (case zqF => k_asm); (case zqX => k_asm); (case zqN => k_asm); (case zqap => walk_at "apart"); (case zqhx => exact rfl); k_whole; intro _ _ _ _) | ((with_reducible show wpAny _ _ (setAttr (Value.ref _) (Str.ofString "key") _) _ _ _); refine' set_key ?zqF ?zqX ?zqN ?zqap ?zqe ?zqhx ?_; (case zqF => k_asm); (case zqX => k_asm); (case zqN => k_asm); (case zqap => walk_at "apart"); (case zqhx => exact rfl); (case zqe => assumption); k_whole; intro _ _ _ _ _ _) | ((with_reducible show wpAny _ _ (setAttr (Value.ref _) (Str.ofString "value") _) _ _ _); refine' set_value ?zqF ?zqX ?zqN ?zqap ?zqe ?zqhx ?_; (case zqF => k_asm); (case zqX => k_asm); (case zqN => k_asm); (case zqap => walk_at "apart"); (case zqhx => exact rfl); (case zqe => assumption); k_whole; intro _ _ _ _ _ _) | ((with_reducible show wpAny _ _ (setAttr (Value.ref _) (Str.ofString "next") _) _ _ _); refine' set_next ?zqF ?zqX ?zqN ?zqap ?zqe ?zqhx ?_; (case zqF => k_asm); (case zqX => k_asm); (case zqN => k_asm); (case zqap => walk_at "apart"); (case zqhx => exact rfl); (case zqe => assumption); k_whole; intro _ _ _ _ _ _)); (try k_sweep))
  trivial
theorem wdD6_1 : True := by
  k_with "one" => (first | (k_unfold; (try dsimp only)) | (k_end; wrow_close) | ((first | (with_reducible show wpAny _ _ (exec _ _) _ _ _) | (with_reducible show wpAny _ _ (execs _ _) _ _ _)); k_fold; (try (refine foldS ?_; intro Sx))) | walk1 | (dsimp only; walk1) | (leave1; walk_say "STEP leave1"; try dsimp only))
  k_with "gor" => repeat' ((fail_if_success (with_reducible show wpAny _ _ (call (Value.ref 308) _) _ _ _)); (fail_if_success (with_reducible show wpAny _ _ (call (Value.ref 315) _) _ _ _)); (fail_if_success (with_reducible show wpAny _ _ (call (Value.ref 202) _) _ _ _)); (fail_if_success (with_reducible show wpAny _ _ (call (Value.ref 195) _) _ _ _)); (fail_if_success (with_reducible show wpAny _ _ (call (Value.ref 330) _) _ _ _)); (fail_if_success (with_reducible show WhileStep2 _ _ _ _ _ _ Flow.next _)); (fail_if_success (with_reducible show WhileStep2 _ _ _ _ _ _ Flow.cont _)); (first | (k_unfold; (try dsimp only)) | (k_end; wrow_close) | ((first | (with_reducible show wpAny _ _ (exec _ _) _ _ _) | (with_reducible show wpAny _ _ (execs _ _) _ _ _)); k_fold; (try (refine foldS ?_; intro Sx))) | walk1 | (dsimp only; walk1) | (leave1; walk_say "STEP leave1"; try dsimp only)))
  trivial
/-- what rehash leaves, told of the key that wants room -/
structure Reh (V : Tab) (k : Ky) (W : Tab) : Prop where
  iv : Inv W
  ct : ∀ k v, Cont V k v → Cont W k v
  ky : ∀ nd ∈ W.nds, ∀ k, kyOf nd.key = some k → InArr V k ∨ ∃ n0 ∈ V.nds, kyOf n0.key = some k
  lv : nn W.arr + nAll W.nds ≤ nn V.arr + nAll V.nds
  la : (W.arr.length : Int) ≤ 2 * (nn V.arr + nAll V.nds + 1)
  ln : (W.nds.length : Int) ≤ 2 * (nn V.arr + nAll V.nds + 1)
  tt : W.t = V.t
  nu : W.num = V.num
  rm : InArr W k ∨ occ W.nds < W.nds.length
theorem zeros_eq (t : Tok) : (List.replicate ((26 : Int) + 1).toNat [Value.int 0 t]).flatten = List.replicate 27 (Value.int 0 t) := by
  have e : ((26 : Int) + 1).toNat = 27 := rfl
  rw [e]
  simp [List.replicate]
theorem zeros_cnt (t : Tok) : IsCnt (List.replicate ((26 : Int) + 1).toNat [Value.int 0 t]).flatten (fun _ => 0) := by
  rw [zeros_eq]
  exact ⟨by simp, fun i hi => ⟨t, by rw [List.getElem?_replicate, if_pos hi]⟩⟩
theorem wdD6_2 : True := by
  k_with "k_mem" => first | exact .head _ | exact .tail _ (.head _) | exact List.mem_append_left _ mem_t | exact List.mem_append_left _ mem_td | exact .tail _ (List.mem_append_left _ mem_t) | exact .tail _ (List.mem_append_left _ mem_td) | exact .tail _ (.tail _ (List.mem_append_left _ mem_t)) | exact .tail _ (.tail _ (List.mem_append_left _ mem_td)) | assumption
  trivial
section
variable {prog : Program} {w : World} {p : Program} {loose : List Str} {mean : ExcName → Option Value} {mg mb : Str → Option Value}
  {dp un : Nat} {gd : Option (List Code)} {cn : Str} {cs : Scope} {a : Addr} {ccd : Value} {cl : List (Str × Addr)} {outer : List Env} {A₀ : Around} {base h₀ : Heap} {L : Addr} {m : Str → Option Value} {s : Shared} {E : Value → Shared → Prop} {Q : Value → Shared → Prop}
  (B : Below A₀ base outer h₀) (F : Fr h₀ L s.heap m) (X : (KK w.params).In h₀) {V : Tab} {R : List (Addr × Obj)} (N : News h₀ L s.heap (tl w.params V ++ R)) (ap : Apart (tl w.params V ++ R)) (T : Top p loose mean mg mb h₀) (hk : cs.kind = .function)
include B F X N ap T hk
set_option maxHeartbeats 4000000
theorem rehash_C {extra : Value} {k : Ky} {hp : Addr} (hd : dp + 40 < recursionLimit) (hu : un + 280 < cLine) (hV : Inv V) (hin : ∀ k v, Cont V k v → handedIn v = true) (hh : HeapIn w.params hp R) (hkey : kyOf extra = some k) (hb : KyB k) (h3 : V.arr.length ≤ 1000) (h4 : V.nds.length ≤ 1000) (h5 : nn V.arr + nAll V.nds ≤ 400) {x : Addr} (hx : x = V.t)
    (hret : ∀ h' tk' W G, Reh V k W → Fr h₀ L h' m → News h₀ L h' (tl w.params W ++ (G ++ R)) → Apart (tl w.params W ++ (G ++ R)) → Q .none { s with heap := h', toks := tk' }) :
    wpAny (model prog w) (ktrTop dp un gd cn cs L a ccd cl outer) (call (.ref F_Table_rehash) [.ref x, extra, .ref hp]) Q E s := by
  subst hx
  have hkv : ∀ nd ∈ V.nds, nd.val ≠ .none → ∃ k, kyOf nd.key = some k ∧ KyB k := fun nd hn hv => by
    obtain ⟨i, e⟩ := List.getElem?_of_mem hn
    have hkn : kyOf nd.key ≠ none := fun q => hv (hV.iv.k0 i nd e q).2
    obtain ⟨k0, hk0⟩ := Option.ne_none_iff_exists'.mp hkn
    exact ⟨k0, hk0, (hV.na nd hn k0 hk0).2.2⟩
  refine en_Table_rehash B F X N T hk (by first | exact room0 hd | omega) ?_
  walk_at "ent"
  walk_at "gor"
  rename News _ _ _ _ => N5
  rename _ < _ ∧ AllLt _ _ => l1
  have N6 := news_mid N5
  have hfr := fun p hp => Nat.ne_of_lt (allLt_mem l1.2 p hp)
  clear N5 l1
  have b1 := nn_bd V.arr
  have b2 := nAll_bd V.nds
  have b3 := nOne_bd V.nds
  have b4 := kOne_bd k
  k_dflt (refine' count_array_C (V := V) (ev := 0) (news := tl w.params V ++ R) ?B ?F ?X N6 hfr (zeros_cnt _) ?T ?hk ?d ?u has_app hV.wf h3 (fun _ => rfl) ?_; (case B => k_asm); (case F => k_asm); (case X => k_asm); (case T => k_asm); (case hk => exact rfl); (case d => walk_at "dep"); (case u => walk_at "dep"))
  intro h6 tk6 t6 cv6 g hc6 hg hgb F6 N7
  walk_at "gor"
  k_dflt (refine' count_nodes_C (V := V) (ev := 0) (news := tl w.params V ++ R) (f := g) (cv := cv6) ?B ?F ?X ?N hfr hc6 ?T ?hk ?d ?u has_app hV.wf h4 hkv ?_; (case N => k_asm); (case B => k_asm); (case F => k_asm); (case X => k_asm); (case T => k_asm); (case hk => exact rfl); (case d => walk_at "dep"); (case u => walk_at "dep"))
  intro h7 tk7 T7 t7 t8 cv7 hc7 F7 N8
  walk_at "gor"
  rename News _ _ _ _ => N9
  rename Fr _ _ _ _ => FA
  try dsimp only at FA
  k_dflt (refine' count_key_C (ev := 0) (news := tl w.params V ++ R) (f := nCnt V.nds g) (cv := cv7) ?B ?F ?X (fun p hp => N9 p (.tail _ hp)) hfr hc7 ?T ?hk ?d ?u hkey hb ?_; (case B => k_asm); (case F => k_asm); (case X => k_asm); (case T => k_asm); (case hk => exact rfl); (case d => walk_at "dep"); (case u => walk_at "dep"))
  intro h9 tk9 t9 cv9 hc9 F9 N10
  walk_at "gor"
  rename News _ _ _ _ => N11
  rename Fr _ _ _ _ => FB
  try dsimp only at FB
  have hfb : ∀ i, 0 ≤ kBump (nCnt V.nds g) k i ∧ kBump (nCnt V.nds g) k i ≤ 10000 := fun i => by
    have q1 := hgb i
    have q2 := nCnt_bd i V.nds g
    have q3 := kBump_bd (g := nCnt V.nds g) k i
    omega
  k_dflt (refine' compute_sizes_C (ev := 0) (news := tl w.params V ++ R) (f := kBump (nCnt V.nds g) k) (cv := cv9) ?B ?F ?X N11 hfr hc9 ?T ?hk ?d ?u ?h0 ?h1 hfb ?_; (case h0 => omega); (case h1 => omega); (case B => k_asm); (case F => k_asm); (case X => k_asm); (case T => k_asm); (case hk => exact rfl); (case d => walk_at "dep"); (case u => walk_at "dep"))
  intro h12 tk12 T12 t12 t13 size used hsz F12 N12
  obtain ⟨z1, z2, z3⟩ := siz_used hg (fun nd hn hv => (hkv nd hn hv).imp fun _ q => q.1) hsz
  obtain ⟨z, hz⟩ := Int.eq_ofNat_of_zero_le z1
  subst hz
  have z4 := pre_drop V.arr z
  have z5 := pre_bd V.arr z
  have z6 := cntOut_nn z V.nds
  have z7 := cntOut_le z V.nds
  have z8 := outK_bd z k
  have z9 := nn_bd (V.arr.drop z)
  rw [Int.toNat_natCast] at z2
  clear hsz hfb hc7 hc6 hc9
  walk_at "gor"
  rename News _ _ _ _ => N13
  rename Fr _ _ _ _ => FC
  try dsimp only at FC
  have N14 : News _ _ _ (tl w.params V ++ R) := fun p hp => N13 p (.tail _ (.tail _ hp))
  k_dflt (refine' resize_C (V := V) (R := R) (sz := z) ?B ?F ?X N14 ap ?T ?hk ?d ?u hV hin hh ?h1 ?h2 h3 h4 ?hc rfl ?_; (case h1 => omega); (case h2 => omega); (case hc => omega); (case B => k_asm); (case F => k_asm); (case X => k_asm); (case T => k_asm); (case hk => exact rfl); (case d => walk_at "dep"); (case u => walk_at "dep"))
  intro h15 tk15 W G hr F15 N15 ap15
  obtain ⟨mm, F16⟩ := Exists.intro (p := fun mm => Fr _ _ _ mm) _ F15
  clear F15
  have hR : Reh V k W := by
    obtain ⟨r1, r2, r3, r4, r5, r6, r7, r8, r9⟩ := hr
    have hN : (W.nds.length : Int) ≤ 2 * (nn V.arr + nAll V.nds + 1) ∧ nn V.arr + (nAll V.nds + 1) - used ≤ W.nds.length := by
      rw [r7]
      by_cases q : 0 < nn V.arr + (nAll V.nds + 1) - used
      · rw [if_pos q]
        have q1 := pow_clog_lt (a := (nn V.arr + (nAll V.nds + 1) - used).toNat) (by omega)
        have q2 := le_pow_clog (nn V.arr + (nAll V.nds + 1) - used).toNat
        omega
      · rw [if_neg q]; omega
    refine ⟨r1, r2, r3, r5, by rw [r6]; omega, hN.1, r8, r9, ?_⟩
    by_cases a : InArr W k
    · exact .inl a
    · have := outK_out r6 a
      exact .inr (by omega)
  clear z1 z2 z3 z4 z5 z6 z7 z8 z9 b1 b2 b3 b4 hg hgb hkv hr hin hV h3 h4 h5 hb
  walk_at "one"
  walk_at "one"
  walk_at "one"
  rename Fr _ _ _ _ => FZ
  rename News _ _ _ _ => NZ
  exact hret _ _ W G hR FZ NZ ap15
end
end Mine
end
section
open PySem PySem.W PySem.Spec PySem.Calls PyProof.Rows
namespace Mine
theorem Inv.nhit {V : Tab} (h : Inv V) {k : Ky} {i : Nat} {nd : Nd} (e1 : V.nds[i]? = some nd) (e2 : kyOf nd.key = some k) : NLook V k (i : Int) := by
  have hlt := lt_of_get e1
  obtain ⟨s, q1, q2⟩ := h.iv.rc i nd k e1 e2
  refine ⟨fun e => by omega, fun _ => ?_⟩
  rw [q1]
  exact fnd_of (fun _ => rfl) h.iv e1 e2 s i q2 rfl
theorem Inv.nmiss {V : Tab} (h : Inv V) {k : Ky} (e1 : ∀ nd ∈ V.nds, kyOf nd.key ≠ some k) : NLook V k (-1) := by
  refine ⟨fun _ => rfl, fun hpos => ?_⟩
  have hr := MP_range hpos k
  obtain ⟨s, hs⟩ := Int.eq_ofNat_of_zero_le hr.1
  rw [hs]
  exact fnd_none (fun _ => rfl) h.iv (fun j nj e => e1 nj (List.mem_of_getElem? e)) s (by omega)
theorem Inv0.val_ins {n : Nat} {g : Nat → Option Nd} {free : Int} (h : Inv0 n g free) {i : Nat} {nd nw : Nd} (hi : g i = some nd) (hk : kyOf nd.key ≠ none) (h1 : kyOf nw.key = kyOf nd.key) (h2 : nw.nxt = nd.nxt) :
    Inv0 n (fun j => if j = i then some nw else g j) free := by
  have gi : (fun j => if j = i then some nw else g j) i = some nw := if_pos rfl
  have go : ∀ j, j ≠ i → (fun j => if j = i then some nw else g j) j = g j := fun j b => if_neg b
  generalize hg : (fun j => if j = i then some nw else g j) = g' at gi go ⊢
  clear hg
  have back : ∀ j nj, g' j = some nj → ∃ n0, g j = some n0 ∧ kyOf nj.key = kyOf n0.key ∧ nj.nxt = n0.nxt ∧ (j ≠ i → nj = n0) := by
    intro j nj e
    by_cases b : j = i
    · subst b; rw [gi] at e; (first | obtain rfl := Option.some.inj e | cases e); exact ⟨nd, hi, h1, h2, fun x => absurd rfl x⟩
    · rw [go j b] at e; exact ⟨nj, e, rfl, rfl, fun _ => rfl⟩
  have forth : ∀ j n0, g j = some n0 → ∃ nj, g' j = some nj ∧ kyOf nj.key = kyOf n0.key ∧ nj.nxt = n0.nxt := by
    intro j n0 e
    by_cases b : j = i
    · subst b; rw [hi] at e; (first | obtain rfl := Option.some.inj e | cases e); exact ⟨nw, gi, h1, h2⟩
    · exact ⟨n0, (go j b).trans e, rfl, rfl⟩
  have mono : ∀ a b, Rch g a b → Rch g' a b := by
    intro a b r
    induction r with
    | refl a => exact .refl a
    | @step a j b nd' e1 e2 _ ih =>
      obtain ⟨nj, q1, _, q3⟩ := forth a nd' e1
      exact .step q1 (q3.trans e2) ih
  obtain ⟨r, hr⟩ := h.rk
  refine ⟨?_, ?_, ⟨r, ?_⟩, ?_, ?_, ?_, ?_, ?_, ?_, ?_⟩
  · intro j
    by_cases b : j = i
    · subst b; rw [gi]; have := (h.dm j).mp (by rw [hi]; rfl); simp [this]
    · rw [go j b]; exact h.dm j
  · intro j nj e
    obtain ⟨n0, q1, _, q3, _⟩ := back j nj e
    rw [q3]; exact h.rg j n0 q1
  · intro j nj j' e e2
    obtain ⟨n0, q1, _, q3, _⟩ := back j nj e
    exact hr j n0 j' q1 (q3.symm.trans e2)
  · intro j nj k' e e2
    obtain ⟨n0, q1, q2, _, _⟩ := back j nj e
    obtain ⟨s, e3, e4⟩ := h.rc j n0 k' q1 (q2.symm.trans e2)
    exact ⟨s, e3, mono _ _ e4⟩
  · intro a b na nb k' ea eb e1 e2
    obtain ⟨m0, q1, q2, _, _⟩ := back a na ea
    obtain ⟨m1, q4, q5, _, _⟩ := back b nb eb
    exact h.uq a b m0 m1 k' q1 q4 (q2.symm.trans e1) (q5.symm.trans e2)
  · intro j nj k' m e e2 e3
    obtain ⟨n0, q1, q2, _, _⟩ := back j nj e
    obtain ⟨nm, k'', z1, z2, z3⟩ := h.mp j n0 k' m q1 (q2.symm.trans e2) e3
    obtain ⟨nm', y1, y2, _⟩ := forth m nm z1
    exact ⟨nm', k'', y1, y2.trans z2, z3⟩
  · intro a na j nj ea e2 ej
    obtain ⟨m0, q1, _, q3, _⟩ := back a na ea
    obtain ⟨m1, q4, q5, _, _⟩ := back j nj ej
    rw [q5]
    exact h.np a m0 j m1 q1 (q3.symm.trans e2) q4
  · intro a b na nb m ea eb e1 e2
    obtain ⟨m0, q1, _, q3, _⟩ := back a na ea
    obtain ⟨m1, q4, _, q6, _⟩ := back b nb eb
    exact h.ij a b m0 m1 m q1 q4 (q3.symm.trans e1) (q6.symm.trans e2)
  · intro a na ea e1
    obtain ⟨m0, q1, q2, q3, q4⟩ := back a na ea
    by_cases b : a = i
    · subst b
      rw [hi] at q1; (first | obtain rfl := Option.some.inj q1 | cases q1)
      exact absurd (q2.symm.trans e1) hk
    · rw [q4 b]
      exact h.k0 a m0 q1 (q2.symm.trans e1)
  · intro a na ea e1
    obtain ⟨m0, q1, q2, _, _⟩ := back a na ea
    rw [q2]
    exact h.fr a m0 q1 e1
/-! the table as the law sees it -/
noncomputable def updC (C : Ky → Value) (k : Ky) (v : Value) : Ky → Value := fun x => if x = k then v else C x
theorem updC_eq {C : Ky → Value} {k : Ky} {v : Value} : updC C k v k = v := if_pos rfl
theorem updC_ne {C : Ky → Value} {k k' : Ky} {v : Value} (h : k' ≠ k) : updC C k v k' = C k' := if_neg h
structure TT (V : Tab) (C : Ky → Value) (c : Int) : Prop where
  iv : Inv V
  ct : ∀ k, Cont V k (C k)
  hi : ∀ k, handedIn (C k) = true
  lv : nn V.arr + nAll V.nds ≤ c
  la : (V.arr.length : Int) ≤ 2 * (c + 1)
  ln : (V.nds.length : Int) ≤ 2 * (c + 1)
theorem TT.look {V : Tab} {C : Ky → Value} {c : Int} (h : TT V C c) (k : Ky) : Look V k (C k) := h.iv.look (h.ct k)
theorem TT.hin {V : Tab} {C : Ky → Value} {c : Int} (h : TT V C c) : ∀ k v, Cont V k v → handedIn v = true := fun k v q => by
  rw [h.iv.one q (h.ct k)]; exact h.hi k
theorem TT.le {V : Tab} {C : Ky → Value} {c c' : Int} (h : TT V C c) (e : c ≤ c') : TT V C c' :=
  ⟨h.iv, h.ct, h.hi, by have := h.lv; omega, by have := h.la; omega, by have := h.ln; omega⟩
theorem TT.c0 {V : Tab} {C : Ky → Value} {c : Int} (h : TT V C c) : 0 ≤ c := by
  have h1 := h.lv
  have h2 := nn_bd V.arr
  have h3 := nAll_bd V.nds
  omega
theorem updC_hi {C : Ky → Value} {k : Ky} {v : Value} (h : ∀ k, handedIn (C k) = true) (hv : handedIn v = true) (x : Ky) : handedIn (updC C k v x) = true := by
  unfold updC
  split
  · exact hv
  · exact h x
theorem TT.put {W W' : Tab} {C : Ky → Value} {c : Int} {k : Ky} {key v : Value} (h : TT W C c) (r : PutR W k key v W') (hkey : kyOf key = some k) (hv : handedIn v = true) (hk : ¬ InArr W k → ∀ nd ∈ W.nds, kyOf nd.key ≠ some k) (ok : KyOk k) (kb : KyB k) :
    TT W' (updC C k v) (c + 1) ∧ W'.t = W.t ∧ W'.num = W.num := by
  have b1 := h.lv
  have b2 := h.la
  have b3 := h.ln
  cases r with
  | @arr i e h1 h2 =>
    subst e
    refine ⟨⟨h.iv.setArr _ _, fun x => ?_, updC_hi h.hi hv, ?_, by rw [setArr_len]; omega, by show (W.nds.length : Int) ≤ _; omega⟩, rfl, rfl⟩
    · by_cases q : x = .i i
      · subst q; rw [updC_eq]; exact Cont.setArr_eq ⟨h1, h2⟩
      · rw [updC_ne q]; exact (h.ct x).setArr_ne h1 q
    · have := nn_set v W.arr (i - 1).toNat
      show nn (W.arr.set (i - 1).toNat v) + nAll W.nds ≤ c + 1
      omega
  | node b r =>
    have q := h.iv.ins r hkey hv (hk b) b ok kb
    refine ⟨⟨q.iv, fun x => ?_, updC_hi h.hi hv, ?_, by rw [q.ar]; omega, by rw [q.ln]; omega⟩, q.tt, q.nu⟩
    · by_cases z : x = k
      · subst z; rw [updC_eq]; exact q.kk
      · rw [updC_ne z]; exact q.ot x _ z (h.ct x)
    · have := q.al; rw [q.ar]; omega
theorem TT.reh {V W : Tab} {C : Ky → Value} {c : Int} {k : Ky} (h : TT V C c) (r : Reh V k W) : TT W C c := by
  have b1 := h.lv
  have b2 := r.lv
  have b3 := r.la
  have b4 := r.ln
  exact ⟨r.iv, fun x => r.ct x _ (h.ct x), h.hi, by omega, by omega, by omega⟩
theorem TT.free0 {V : Tab} {C : Ky → Value} {c f : Int} {t : Tok} (h : TT V C c) (hf : f = 0) (ha : ∀ nd ∈ V.nds, kyOf nd.key ≠ none) : TT (V.wFree f t) C c := by
  subst hf
  obtain ⟨⟨⟨d1, d2, d3, d4, d5, d6, d7, d8, d9, d10⟩, wf, f0, na⟩, ct, hi, lv, la, ln⟩ := h
  exact ⟨⟨⟨d1, d2, d3, d4, d5, d6, d7, d8, d9, fun i nd e _ => ha nd (List.mem_of_getElem? e)⟩, ⟨wf.hn, wf.ha, wf.hko, wf.hvo⟩, ⟨Int.le_refl _, by show (0 : Int) ≤ _; omega⟩, na⟩, ct, hi, lv, la, ln⟩
theorem TT.same {V V' : Tab} {C : Ky → Value} {c : Int} (h : TT V C c) (e1 : V'.arr = V.arr) (e2 : V'.nds = V.nds) (e3 : V'.free = V.free) : TT V' C c := by
  obtain ⟨⟨iv, wf, f0, na⟩, ct, hi, lv, la, ln⟩ := h
  have ei : ∀ k, InArr V' k ↔ InArr V k := inArr_eq e1
  refine ⟨⟨by rw [e2, e3]; exact iv, ⟨by rw [e2]; exact wf.hn, by rw [e1]; exact wf.ha, by rw [e2]; exact wf.hko, by rw [e2]; exact wf.hvo⟩, by rw [e2, e3]; exact f0, fun nd hm k q => ?_⟩, fun k => ?_, hi, by rw [e1, e2]; exact lv, by rw [e1]; exact la, by rw [e2]; exact ln⟩
  · rw [e2] at hm
    rw [ei]
    exact na nd hm k q
  · exact cont_lift (V := V) (g' := fun i => V.nds[i]?) (by rw [e2]) e1 (fun x => x) (ct k)
theorem TT.setv {V : Tab} {C : Ky → Value} {c : Int} {k : Ky} {v : Value} {i : Nat} {nd : Nd} (h : TT V C c) (e1 : V.nds[i]? = some nd) (e2 : kyOf nd.key = some k) (hv : handedIn v = true) :
    TT (V.setNd i (nd.w nd.key v nd.nxt nd.tn)) (updC C k v) (c + 1) := by
  have hil := lt_of_get e1
  have hg : (fun j => (V.nds.set i (nd.w nd.key v nd.nxt nd.tn))[j]?) = fun j => if j = i then some (nd.w nd.key v nd.nxt nd.tn) else V.nds[j]? := by
    have := gset1 (l := V.nds) (i := i) (a := nd) (b := nd.w nd.key v nd.nxt nd.tn) hil
    rw [List.set_set] at this
    exact this
  have hm := List.mem_of_getElem? e1
  have iv := h.iv.iv.val_ins (nw := nd.w nd.key v nd.nxt nd.tn) e1 (by rw [e2]; exact nofun) rfl rfl
  obtain ⟨hna, ok, kb⟩ := h.iv.na nd hm k e2
  have hlen : (V.setNd i (nd.w nd.key v nd.nxt nd.tn)).nds.length = V.nds.length := setNd_len
  have hI := mkInv (V' := V.setNd i (nd.w nd.key v nd.nxt nd.tn)) (k := k) h.iv hg hlen rfl iv h.iv.f0 hna ok kb (by
    intro j nj e
    by_cases q : j = i
    · rw [if_pos q] at e; (first | obtain rfl := Option.some.inj e | cases e)
      exact ⟨h.iv.wf.hko nd hm, hv, fun k2 z => .inr ⟨nd, hm, z⟩⟩
    · rw [if_neg q] at e
      have hm' := List.mem_of_getElem? e
      exact ⟨h.iv.wf.hko nj hm', h.iv.wf.hvo nj hm', fun k2 z => .inr ⟨nj, hm', z⟩⟩)
  have b1 := h.lv
  have b2 := h.la
  have b3 := h.ln
  refine ⟨hI.1, fun x => ?_, updC_hi h.hi hv, ?_, by show (V.arr.length : Int) ≤ _; omega, by rw [hlen]; omega⟩
  · by_cases q : x = k
    · subst q
      rw [updC_eq]
      exact .inr ⟨hna, by rw [show (fun j => (V.setNd i (nd.w nd.key v nd.nxt nd.tn)).nds[j]?) = _ from hg]; exact .inl ⟨i, _, if_pos rfl, e2, rfl⟩⟩
    · rw [updC_ne q]
      refine cont_lift (V := V) hg rfl (fun z => ?_) (h.ct x)
      rcases z with ⟨j, nj, z1, z2, z3⟩ | ⟨z1, z2⟩
      · by_cases y : j = i
        · subst y
          have z1 : V.nds[j]? = some nj := z1
          rw [e1] at z1; (first | obtain rfl := Option.some.inj z1 | cases z1)
          rw [e2] at z2
          exact absurd (Option.some.inj z2).symm q
        · exact .inl ⟨j, nj, (if_neg y).trans z1, z2, z3⟩
      · refine .inr ⟨fun j nj y1 y2 => ?_, z2⟩
        dsimp only at y1
        by_cases y : j = i
        · rw [if_pos y] at y1; cases y1
          exact z1 i nd e1 y2
        · rw [if_neg y] at y1
          exact z1 j nj y1 y2
  · have := nAll_set (a := nd.w nd.key v nd.nxt nd.tn) e1
    have q : (if (nd.w nd.key v nd.nxt nd.tn).val = .none then (0 : Int) else 1) ≤ 1 := by split <;> omega
    have q2 : 0 ≤ (if nd.val = .none then (0 : Int) else 1) := by split <;> omega
    show nn V.arr + nAll (V.nds.set i (nd.w nd.key v nd.nxt nd.tn)) ≤ c + 1
    omega
theorem freeP_no {nds : List Nd} (h : ∀ nd ∈ nds, nd.key ≠ .none) : ∀ m, m ≤ nds.length → FreeP nds m 0 (-1)
  | 0, _ => .out
  | m + 1, hm => .step (List.getElem?_eq_getElem (show m < nds.length by omega)) (h _ (List.getElem_mem _)) (freeP_no h m (by omega))
/-- at a new key: room, or none -/
theorem Inv.cases {V : Tab} (h : Inv V) (k : Ky) : InsPre V k ∨ V.nds.length = 0 ∨ (0 < V.nds.length ∧ (∀ nd ∈ V.nds, kyOf nd.key ≠ none) ∧ ∃ (i : Nat) (nd : Nd), MP V.nds.length k = (i : Int) ∧ V.nds[i]? = some nd ∧ nd.val ≠ .none ∧ ∃ n : Nat, V.free = (n : Int) ∧ FreeP V.nds n 0 (-1)) := by
  by_cases a : InsPre V k
  · exact .inl a
  · rcases Nat.eq_zero_or_pos V.nds.length with c | c
    · exact .inr (.inl c)
    · have hn : ∀ nd ∈ V.nds, kyOf nd.key ≠ none := fun nd hm q => by
        obtain ⟨i, e⟩ := List.getElem?_of_mem hm
        exact a (h.pre ⟨i, nd, e, q⟩)
      have hr := MP_range c k
      obtain ⟨i, hi⟩ := Int.eq_ofNat_of_zero_le hr.1
      have ei : V.nds[i]? = some V.nds[i] := List.getElem?_eq_getElem (by omega)
      generalize V.nds[i] = nd at ei
      obtain ⟨n, hf⟩ := Int.eq_ofNat_of_zero_le h.f0.1
      exact .inr (.inr ⟨c, hn, i, nd, hi, ei, fun q => a (.free hi ei q), n, hf, freeP_no (fun nd hm q => hn nd hm (by rw [q]; rfl)) n (by have := h.f0.2; omega)⟩)
theorem arrInt {C : Ky → Value} {V : Tab} {c : Int} (h : TT V C c) : AllLook V (fun i => C (.i i)) := fun i => h.look (.i i)
end Mine
end
section
open PySem PySem.W PySem.Spec PySem.Calls PyProof.Rows
open PyProof.Rows
namespace Mine
theorem wdD7_0 : True := by
  k_with "k_mem" => first | exact List.mem_append_left _ mem_t | exact List.mem_append_left _ mem_td | exact List.mem_append_left _ mem_la | exact List.mem_append_left _ mem_ln | exact List.mem_append_left _ (mem_nx (by assumption)) | exact List.mem_append_left _ (mem_nd (by assumption)) | exact List.mem_append_right _ (by assumption)
  trivial
theorem wdD7_1 : True := by
  k_with "gor" => repeat' ((fail_if_success (with_reducible show wpAny _ _ (call (Value.ref 322) _) _ _ _)); (fail_if_success (with_reducible show wpAny _ _ (call (Value.ref 301) _) _ _ _)); (fail_if_success (with_reducible show wpAny _ _ (call (Value.ref 238) _) _ _ _)); (fail_if_success (with_reducible show wpAny _ _ (call (Value.ref 294) _) _ _ _)); (fail_if_success (with_reducible show WhileStep2 _ _ _ _ _ _ Flow.next _)); (fail_if_success (with_reducible show WhileStep2 _ _ _ _ _ _ Flow.cont _)); (first | (k_unfold; (try dsimp only)) | (k_end; wrow_close) | ((first | (with_reducible show wpAny _ _ (exec _ _) _ _ _) | (with_reducible show wpAny _ _ (execs _ _) _ _ _)); k_fold; (try (refine foldS ?_; intro Sx))) | walk1 | (dsimp only; walk1) | (leave1; walk_say "STEP leave1"; try dsimp only)))
  k_with "has" => first | assumption | exact has_tl (by assumption) | exact has_tl (has_tl (by assumption))
  k_with "has" => exact has_app
  k_with "call ref" => (k_here; k_dflt (refine' main_position_N ?zqB ?zqF ?zqX ?zqN ?zqT ?zqhk ?zqd ?zqu ?zqe0 ?zqe1 ?zqe2 ?zqe3 ?zqe4 ?zqe5 ?zqe6 ?_; (case zqB => k_asm); (case zqF => k_asm); (case zqX => k_asm); (case zqN => k_asm); (case zqT => k_asm); (case zqhk => first | assumption | exact rfl); (case zqd => walk_at "dep"); (case zqu => walk_at "dep"); (case zqe0 => walk_at "has"); (case zqe1 => first | assumption | omega); (case zqe2 => first | assumption | omega); (case zqe3 => first | assumption | rfl); (case zqe4 => first | assumption | exact trivial); (case zqe5 => assumption); (case zqe6 => exact rfl); k_whole); intro _ _ _ _ _;  (try k_sweep))
  k_with "k_mem" => first | exact List.mem_append_left _ mem_t | exact List.mem_append_left _ mem_td | exact List.mem_append_left _ mem_la | exact List.mem_append_left _ mem_ln | exact List.mem_append_left _ (mem_nx (by assumption)) | exact List.mem_append_left _ (mem_nd (by assumption)) | exact List.mem_append_right _ (by assumption)
  trivial
section
variable {prog : Program} {w : World} {p : Program} {loose : List Str} {mean : ExcName → Option Value} {mg mb : Str → Option Value}
  {dp un : Nat} {gd : Option (List Code)} {cn : Str} {cs : Scope} {a : Addr} {ccd : Value} {cl : List (Str × Addr)} {outer : List Env} {A₀ : Around} {base h₀ : Heap} {L : Addr} {m : Str → Option Value} {s : Shared} {E : Value → Shared → Prop} {Q : Value → Shared → Prop}
  (B : Below A₀ base outer h₀) (F : Fr h₀ L s.heap m) (X : (KK w.params).In h₀) {V : Tab} {R : List (Addr × Obj)} (N : News h₀ L s.heap (tl w.params V ++ R)) (ap : Apart (tl w.params V ++ R)) (T : Top p loose mean mg mb h₀) (hk : cs.kind = .function)
include B F X N ap T hk
set_option maxHeartbeats 4000000
theorem new_key_zero {key v : Value} {k : Ky} {hp : Addr} {C : Ky → Value} {c : Int} (hd : dp + 60 < recursionLimit) (hu : un + 400 < cLine) (tt : TT V C c) (hc : c ≤ 400) (hh : HeapIn w.params hp R) (hkey : kyOf key = some k) (ok : KyOk k) (kb : KyB k) (hv : handedIn v = true) (hna : ¬ InArr V k) (hnk : ∀ nd ∈ V.nds, kyOf nd.key ≠ some k) (hz : V.nds.length = 0)
    (hret : ∀ h' tk' V' G, TT V' (updC C k v) (c + 1) → V'.t = V.t → V'.num = V.num → Fr h₀ L h' m → News h₀ L h' (tl w.params V' ++ (G ++ R)) → Apart (tl w.params V' ++ (G ++ R)) → Q .none { s with heap := h', toks := tk' }) :
    wpAny (model prog w) (ktrTop dp un gd cn cs L a ccd cl outer) (call (.ref F_Table_new_key) [.ref V.t, key, v, .ref hp]) Q E s := by
  have w2 := tt.iv.wf.hn
  have b1 := tt.lv
  have b2 := tt.la
  have b3 := tt.ln
  refine en_Table_new_key B F X N T hk (by first | exact room0 hd | omega) ?_
  walk_at "ent"
  walk_at "gor"
  k_dflt (refine' rehash_C (V := V) (R := R) ?B ?F ?X ?N ap ?T ?hk ?d ?u tt.iv tt.hin hh hkey kb ?la ?ln ?lv rfl ?_; (case N => k_asm); (case la => first | exact la1 | omega); (case ln => first | exact ln1 | omega); (case lv => first | exact lv1 | omega); (case B => k_asm); (case F => k_asm); (case X => k_asm); (case T => k_asm); (case hk => exact rfl); (case d => walk_at "dep"); (case u => walk_at "dep"))
  intro h5 tk5 W G hr F5 N5 ap5
  have ttW := tt.reh hr
  have hkW : ¬ InArr W k → ∀ nd ∈ W.nds, kyOf nd.key ≠ some k := fun _ nd hm e => by
    rcases hr.ky nd hm k e with q | ⟨n0, q1, q2⟩
    · exact hna q
    · exact hnk n0 q1 q2
  have hi : InArr W k ∨ InsPre W k := hr.rm.imp id fun q => hr.iv.pre (occ_lt q)
  have ht : V.t = W.t := hr.tt.symm
  rw [ht] at F5
  walk_at "gor"
  k_dflt (refine' put_again_C (V := W) (R := G ++ R) ?B ?F ?X ?N ap5 ?T ?hk ?d ?u hr.iv.wf (hh.mono fun p hp => List.mem_append_right _ hp) hkey ok hi rfl ?_; (case N => k_asm); (case B => k_asm); (case F => k_asm); (case X => k_asm); (case T => k_asm); (case hk => exact rfl); (case d => walk_at "dep"); (case u => walk_at "dep"))
  intro h6 tk6 W' hP F6 N6 ap6
  obtain ⟨t1, t2, t3⟩ := ttW.put hP hkey hv hkW ok kb
  have t4 : W'.t = V.t := t2.trans hr.tt
  have t5 : W'.num = V.num := t3.trans hr.nu
  walk_at "gor"
  all_goals (rename Fr _ _ _ _ => FZ; rename News _ _ _ _ => NZ; exact hret _ _ W' G t1 t4 t5 FZ NZ ap6)
theorem new_key_full {key v : Value} {k : Ky} {hp : Addr} {C : Ky → Value} {c : Int} (hd : dp + 60 < recursionLimit) (hu : un + 400 < cLine) (tt : TT V C c) (hc : c ≤ 400) (hh : HeapIn w.params hp R) (hkey : kyOf key = some k) (ok : KyOk k) (kb : KyB k) (hv : handedIn v = true) (hna : ¬ InArr V k) (hnk : ∀ nd ∈ V.nds, kyOf nd.key ≠ some k) {i n : Nat} {nd : Nd} (a1 : MP V.nds.length k = (i : Int)) (a2 : V.nds[i]? = some nd) (a3 : nd.val ≠ .none) (a4 : V.free = (n : Int)) (a5 : FreeP V.nds n 0 (-1)) (a6 : ∀ nd ∈ V.nds, kyOf nd.key ≠ none)
    (hret : ∀ h' tk' V' G, TT V' (updC C k v) (c + 1) → V'.t = V.t → V'.num = V.num → Fr h₀ L h' m → News h₀ L h' (tl w.params V' ++ (G ++ R)) → Apart (tl w.params V' ++ (G ++ R)) → Q .none { s with heap := h', toks := tk' }) :
    wpAny (model prog w) (ktrTop dp un gd cn cs L a ccd cl outer) (call (.ref F_Table_new_key) [.ref V.t, key, v, .ref hp]) Q E s := by
  have w2 := tt.iv.wf.hn
  have w3 := tt.iv.wf.hko
  have l1 := tt.lv
  have l2 := tt.la
  have l3 := tt.ln
  have b1 := lt_of_get a2
  have b2 : (refsN V.nds)[((i : Nat) : Int).toNat]? = some (.ref nd.x) := refsN_get a2
  have b3 := tt.iv.wf.hvo _ (List.mem_of_getElem? a2)
  have b4 : 0 < V.nds.length := by omega
  have b5 := handed_key (tt.iv.wf.hko.at a2)
  have a2' : V.nds[i]? = some (nd.w nd.key nd.val nd.nxt nd.tn) := a2
  refine en_Table_new_key B F X N T hk (by first | exact room0 hd | omega) ?_
  walk_at "ent"
  walk_at "gor"
  k_dflt (refine' free_position_C (V := V) (R := R) (n := n) ?B ?F ?X ?N ap ?T ?hk ?d ?u a4 (by omega) a5 w3 ?_; (case N => k_asm); (case B => k_asm); (case F => k_asm); (case X => k_asm); (case T => k_asm); (case hk => exact rfl); (case d => walk_at "dep"); (case u => walk_at "dep"))
  intro h4 tk4 t4' t5' r' fr er ef F4 N4
  subst er
  have ttf : TT (V.wFree fr t5') C c := tt.free0 ef a6
  have apf : Apart (tl w.params (V.wFree fr t5') ++ R) := apart_same ap rfl
  have la1 : V.arr.length ≤ 1000 := by omega
  have ln1 : V.nds.length ≤ 1000 := by omega
  have lv1 : nn V.arr + nAll V.nds ≤ 400 := by omega
  have N5 : News _ _ _ (tl w.params (V.wFree fr t5') ++ R) := N4
  clear N4
  walk_at "gor"
  k_dflt (refine' rehash_C (V := (V.wFree fr t5')) (R := R) ?B ?F ?X ?N apf ?T ?hk ?d ?u ttf.iv ttf.hin hh hkey kb ?la ?ln ?lv rfl ?_; (case N => k_asm); (case la => first | exact la1 | omega); (case ln => first | exact ln1 | omega); (case lv => first | exact lv1 | omega); (case B => k_asm); (case F => k_asm); (case X => k_asm); (case T => k_asm); (case hk => exact rfl); (case d => walk_at "dep"); (case u => walk_at "dep"))
  intro h5 tk5 W G hr F5 N5 ap5
  have ttW := ttf.reh hr
  have hkW : ¬ InArr W k → ∀ nd ∈ W.nds, kyOf nd.key ≠ some k := fun _ nd hm e => by
    rcases hr.ky nd hm k e with q | ⟨n0, q1, q2⟩
    · exact hna q
    · exact hnk n0 q1 q2
  have hi : InArr W k ∨ InsPre W k := hr.rm.imp id fun q => hr.iv.pre (occ_lt q)
  have ht : V.t = W.t := hr.tt.symm
  rw [ht] at F5
  walk_at "gor"
  k_dflt (refine' put_again_C (V := W) (R := G ++ R) ?B ?F ?X ?N ap5 ?T ?hk ?d ?u hr.iv.wf (hh.mono fun p hp => List.mem_append_right _ hp) hkey ok hi rfl ?_; (case N => k_asm); (case B => k_asm); (case F => k_asm); (case X => k_asm); (case T => k_asm); (case hk => exact rfl); (case d => walk_at "dep"); (case u => walk_at "dep"))
  intro h6 tk6 W' hP F6 N6 ap6
  obtain ⟨t1, t2, t3⟩ := ttW.put hP hkey hv hkW ok kb
  have t4 : W'.t = V.t := t2.trans hr.tt
  have t5 : W'.num = V.num := t3.trans hr.nu
  walk_at "gor"
  all_goals (rename Fr _ _ _ _ => FZ; rename News _ _ _ _ => NZ; exact hret _ _ W' G t1 t4 t5 FZ NZ ap6)
theorem new_key_C {key v : Value} {k : Ky} {hp : Addr} {C : Ky → Value} {c : Int} (hd : dp + 60 < recursionLimit) (hu : un + 400 < cLine) (tt : TT V C c) (hc : c ≤ 400) (hh : HeapIn w.params hp R) (hkey : kyOf key = some k) (ok : KyOk k) (kb : KyB k) (hv : handedIn v = true) (hna : ¬ InArr V k) (hnk : ∀ nd ∈ V.nds, kyOf nd.key ≠ some k) {x : Addr} (hx : x = V.t)
    (hret : ∀ h' tk' V' G, TT V' (updC C k v) (c + 1) → V'.t = V.t → V'.num = V.num → Fr h₀ L h' m → News h₀ L h' (tl w.params V' ++ (G ++ R)) → Apart (tl w.params V' ++ (G ++ R)) → Q .none { s with heap := h', toks := tk' }) :
    wpAny (model prog w) (ktrTop dp un gd cn cs L a ccd cl outer) (call (.ref F_Table_new_key) [.ref x, key, v, .ref hp]) Q E s := by
  subst hx
  rcases tt.iv.cases k with hp | hz | ⟨hl, h1, i, nd, h2, h3, h4, n, h5, h6⟩
  · refine new_key_I B F X N ap T hk (by omega) (by omega) tt.iv.wf hh hkey ok hp rfl (fun h' tk' V' hI F' N' ap' => ?_)
    obtain ⟨t1, t2, t3⟩ := tt.put (.node hna hI) hkey hv (fun _ => hnk) ok kb
    exact hret h' tk' V' [] t1 t2 t3 F' N' ap'
  · exact new_key_zero B F X N ap T hk hd hu tt hc hh hkey ok kb hv hna hnk hz hret
  · exact new_key_full B F X N ap T hk hd hu tt hc hh hkey ok kb hv hna hnk h2 h3 h4 h5 h6 h1 hret
end
end Mine
end
section
open PySem PySem.W PySem.Spec PySem.Calls PyProof.Rows
open PyProof.Rows
namespace Mine
theorem wdD8_0 : True := by
  k_with_none
  k_with "k_room" => ((try dsimp only [Ax]); ktr_room)
  k_with "k_units" => ((try dsimp only [Ax]); ktr_units)
  k_with "ent" => (intro _ _ _ _ _ _ _ _ _; (try k_fold); (refine foldA ?_; intro Ax); (conv in execs _ _ => arg 1; whnf))
  k_with "dep" => ((try dsimp only [ktrTop, Around.deeper, Around.in1, Around.under]); (first | (refine' room2 ?zqhR ?zqcR; (case zqhR => assumption); (case zqcR => exact Nat.le_of_ble_eq_true rfl)) | (refine' room0 ?zqhR; (case zqhR => assumption)) | (refine' room1 ?zqhR ?zqcR; (case zqhR => assumption); (case zqcR => exact Nat.le_of_ble_eq_true rfl)) | (refine' room3 ?zqhR ?zqcR; (case zqhR => assumption); (case zqcR => exact Nat.le_of_ble_eq_true rfl)) | omega))
  k_with "news" => first | assumption | exact news_tl0 (by assumption) | exact news_tl0 (news_tl0 (by assumption)) | exact news_tl0 (news_tl0 (news_tl0 (by assumption)))
  k_with "dec" => first | ((try simp only [beq_iff_eq, bne_iff_ne, decide_eq_true_eq, decide_eq_false_iff_not, Bool.and_eq_true, Bool.not_eq_true', Bool.not_eq_true, beq_eq_false_iff_ne, ne_eq]) <;> omega) | (simp; done)
  k_with "ite" => (k_here; k_openite; (first | refine ite_pos (by walk_at "dec") ?_ | refine ite_neg (by walk_at "dec") ?_))
  k_with "go" => repeat' ((fail_if_success (with_reducible show wpAny _ _ (exec (Stmt.While _ _ _ _) _) _ _ _)); (fail_if_success (with_reducible show wpAny _ _ (exec (Stmt.For _ _ _ _ _) _) _ _ _)); (fail_if_success (with_reducible show WhileStep2 _ _ _ _ _ _ Flow.next _)); (fail_if_success (with_reducible show WhileStep2 _ _ _ _ _ _ Flow.cont _)); (first | (k_unfold; (try dsimp only)) | (k_end; wrow_close) | ((first | (with_reducible show wpAny _ _ (exec _ _) _ _ _) | (with_reducible show wpAny _ _ (execs _ _) _ _ _)); k_fold; (try (refine foldS ?_; intro Sx))) | walk1 | (dsimp only; walk1) | (leave1; walk_say "STEP leave1"; try dsimp only)))
  k_with "subscriptTail" => (k_here; (with_reducible show wpAny _ _ (subscriptTail _ _ (Value.bytes _ _) (Value.int _ _)) _ _ _); k_dflt (refine' item_by ?zqf ?zqa ?zqb ?_ ?zqhs ?zqht; (case zqf => first | assumption | omega); (case zqa => first | assumption | omega); (case zqb => first | assumption | omega); (case zqhs => with_unfolding_all rfl); (case zqht => (intro _; with_unfolding_all rfl)); k_whole); intro _ _)
  k_with "subscriptTail" => (k_here; (with_reducible show wpAny _ _ (subscriptTail _ _ (Value.ref _) (Value.int _ _)) _ _ _); k_dflt (refine' item_led ?zqN ?zqm ?zqa ?zqb ?zqx ?_ ?zqhs; (case zqN => k_asm); (case zqm => k_mem); (case zqa => first | assumption | omega); (case zqb => first | assumption | omega); (case zqx => first | assumption | walk_at "item"); (case zqhs => with_unfolding_all rfl); k_whole))
  k_with "WhileStep2" => (dsimp only [WhileStep2])
  k_with "lenk" => first | assumption | exact refsN_len _ | exact rfl
  k_with "call builtin:len" => (k_here; (with_reducible show wpAny _ _ (call (Value.builtin "len") [Value.ref _]) _ _ _); k_dflt (refine' len_led ?zqN ?zqm ?zqk ?zqf ?_; (case zqN => k_asm); (case zqm => k_mem); (case zqk => walk_at "lenk"); (case zqf => first | assumption | omega); k_whole); intro _ _)
  k_with "binaryOp Mod int int" => (k_here; k_dflt (refine' mod_int' (by assumption) ?_; k_whole))
  k_with "item" => exact refsN_get (by assumption)
  k_with "k_handed" => assumption
  k_with "compareOp Is none" => (k_here; first | refine is_none_ne (by assumption) ?_ | refine is_none_eq (by assumption) ?_)
  k_with "compareOp IsNot none" => (k_here; first | refine isnot_none_ne (by assumption) ?_ | refine isnot_none_eq (by assumption) ?_)
  k_with "k_all" => assumption
  k_with "setItem ref int" => (k_here; (with_reducible show wpAny _ _ (setItem (Value.ref _) (Value.int _ _) _) _ _ _); k_dflt (refine' set_led ?zqF ?zqN ?zqU ?zqa ?zqb ?zqc ?_; (case zqF => k_asm); (case zqN => k_asm); (case zqU => k_upd); (case zqa => first | assumption | omega); (case zqb => first | assumption | omega); (case zqc => first | assumption | omega); k_whole); intro _ _ _; (try k_sweep))
  k_with "getItem ref int" => (k_here; (with_reducible show wpAny _ _ (getItem (Value.ref _) (Value.int _ _)) _ _ _); k_dflt (refine' get_led ?zqN ?zqm ?zqa ?zqb ?zqx ?_; (case zqN => k_asm); (case zqm => k_mem); (case zqa => first | assumption | omega); (case zqb => first | assumption | omega); (case zqx => first | assumption | walk_at "item"); k_whole))
  k_with "has" => first | assumption | exact has_tl (by assumption) | exact has_tl (has_tl (by assumption))
  k_with "has" => exact has_app
  k_with "k_mem" => first | exact List.mem_append_left _ mem_t | exact List.mem_append_left _ mem_td | exact List.mem_append_left _ mem_la | exact List.mem_append_left _ mem_ln | exact List.mem_append_left _ (mem_nx (by assumption)) | exact List.mem_append_left _ (mem_nd (by assumption)) | exact List.mem_append_right _ (by assumption)
  k_with "apart" => first | assumption | exact apart_same (by assumption) rfl
  k_with "setAttr ref" => (k_here; k_dflt (first | ((with_reducible show wpAny _ _ (setAttr (Value.ref _) (Str.ofString "free") _) _ _ _); refine' set_free ?zqF ?zqX ?zqN ?zqap ?zqhx ?_; (case zqF => k_asm); (case zqX => k_asm); (case zqN => k_asm); (case zqap => walk_at "apart"); (case zqhx => exact rfl); k_whole; intro _ _ _ _) | ((with_reducible show wpAny _ _ (setAttr (Value.ref _) (Str.ofString "flags") _) _ _ _); refine' set_flags ?zqF ?zqX ?zqN ?zqap ?zqhx ?_; (case zqF => k_asm); (case zqX => k_asm); (case zqN => k_asm); (case zqap => walk_at "apart"); (case zqhx => exact rfl); k_whole; intro _ _ _ _) | ((with_reducible show wpAny _ _ (setAttr (Value.ref _) (Str.ofString "log_nodes") _) _ _ _); refine' set_log_nodes ?zqF ?zqX ?zqN ?zqap ?zqhx ?_; (case zqF => k_asm); (case zqX => k_asm); (case zqN => k_asm); (case zqap => walk_at "apart"); (case zqhx => exact rfl); k_whole; intro _ _ _ _) | ((with_reducible show wpAny _ _ (setAttr (Value.ref _) (Str.ofString "size") _) _ _ _); refine' set_size ?zqF ?zqX ?zqN ?zqap ?zqhx ?_; (case zqF => k_asm); (case zqX => k_asm); (case zqN => k_asm); (case zqap => walk_at "apart"); (case zqhx => exact rfl); k_whole; intro _ _ _ _) | ((with_reducible show wpAny _ _ (setAttr (Value.ref _) (Str.ofString "number") _) _ _ _); refine' set_number ?zqF ?zqX ?zqN ?zqap ?zqhx ?_; (case zqF => k_asm); (case zqX => k_asm); (case zqN => k_asm); (case zqap => walk_at "apart"); (case zqhx => exact rfl); k_whole; intro _ _ _ _) | ((with_reducible show wpAny _ _ (setAttr (Value.ref _) (Str.ofString "key") _) _ _ _); refine' set_key ?zqF ?zqX ?zqN ?zqap ?zqe ?zqhx ?_; (case zqF => k_asm); (case zqX => k_asm); (case zqN => k_asm); (case zqap => walk_at "apart"); (case zqhx => exact rfl); (case zqe => assumption); k_whole; intro _ _ _ _ _ _) | ((with_reducible show wpAny _ _ (setAttr (Value.ref _) (Str.ofString "value") _) _ _ _); refine' set_value ?zqF ?zqX ?zqN ?zqap ?zqe ?zqhx ?_; (case zqF => k_asm); (case zqX => k_asm); (case zqN => k_asm); (case zqap => walk_at "apart"); (case zqhx => exact rfl); (case zqe => assumption); k_whole; intro _ _ _ _ _ _) | ((with_reducible show wpAny _ _ (setAttr (Value.ref _) (Str.ofString "next") _) _ _ _); refine' set_next ?zqF ?zqX ?zqN ?zqap ?zqe ?zqhx ?_; (case zqF => k_asm); (case zqX => k_asm); (case zqN => k_asm); (case zqap => walk_at "apart"); (case zqhx => exact rfl); (case zqe => assumption); k_whole; intro _ _ _ _ _ _)); (try k_sweep))
  trivial
theorem wdD8_1 : True := by
  k_with "one" => (first | (k_unfold; (try dsimp only)) | (k_end; wrow_close) | ((first | (with_reducible show wpAny _ _ (exec _ _) _ _ _) | (with_reducible show wpAny _ _ (execs _ _) _ _ _)); k_fold; (try (refine foldS ?_; intro Sx))) | walk1 | (dsimp only; walk1) | (leave1; walk_say "STEP leave1"; try dsimp only))
  k_with "gor" => repeat' ((fail_if_success (with_reducible show wpAny _ _ (call (Value.ref 294) _) _ _ _)); (fail_if_success (with_reducible show wpAny _ _ (call (Value.ref 287) _) _ _ _)); (fail_if_success (with_reducible show WhileStep2 _ _ _ _ _ _ Flow.next _)); (fail_if_success (with_reducible show WhileStep2 _ _ _ _ _ _ Flow.cont _)); (first | (k_unfold; (try dsimp only)) | (k_end; wrow_close) | ((first | (with_reducible show wpAny _ _ (exec _ _) _ _ _) | (with_reducible show wpAny _ _ (execs _ _) _ _ _)); k_fold; (try (refine foldS ?_; intro Sx))) | walk1 | (dsimp only; walk1) | (leave1; walk_say "STEP leave1"; try dsimp only)))
  trivial
noncomputable def kI : Ky → Int
  | .i n => n
  | .b _ => -1
section
variable {prog : Program} {w : World} {p : Program} {loose : List Str} {mean : ExcName → Option Value} {mg mb : Str → Option Value}
  {dp un : Nat} {gd : Option (List Code)} {cn : Str} {cs : Scope} {a : Addr} {ccd : Value} {cl : List (Str × Addr)} {outer : List Env} {A₀ : Around} {base h₀ : Heap} {L : Addr} {m : Str → Option Value} {news : List (Addr × Obj)} {s : Shared} {E : Value → Shared → Prop} {Q : Value → Shared → Prop}
  (B : Below A₀ base outer h₀) (F : Fr h₀ L s.heap m) (X : (KK w.params).In h₀) (N : News h₀ L s.heap news) (T : Top p loose mean mg mb h₀) (hk : cs.kind = .function)
include B F X N T hk
set_option maxHeartbeats 4000000
theorem array_index_K {key : Value} {k : Ky} (hd : dp + 5 < recursionLimit) (hu : un + 40 < cLine) (hkey : kyOf key = some k)
    (hret : ∀ h' tk' t', Fr h₀ L h' m → News h₀ L h' news → Q (.int (kI k) t') { s with heap := h', toks := tk' }) :
    wpAny (model prog w) (ktrTop dp un gd cn cs L a ccd cl outer) (call (.ref F_array_index) [key]) Q E s := by
  rcases ky_cases (v := key) (by rw [hkey]; rfl) with ⟨i, t, rfl⟩ | ⟨x, t, rfl⟩
  · cases hkey
    exact array_index_int B F X N T hk hd hu (fun h' tk' => hret h' tk' t)
  · cases hkey
    exact array_index_bytes B F X N T hk hd hu hret
end
theorem wdD8_2 : True := by
  k_with "call ref" => (k_here; k_dflt (refine' array_index_K ?zqB ?zqF ?zqX ?zqN ?zqT ?zqhk ?zqd ?zqu ?zqe0 ?_; (case zqB => k_asm); (case zqF => k_asm); (case zqX => k_asm); (case zqN => k_asm); (case zqT => k_asm); (case zqhk => first | assumption | exact rfl); (case zqd => walk_at "dep"); (case zqu => walk_at "dep"); (case zqe0 => assumption); k_whole); intro _ _ _ _ _;  (try k_sweep))
  k_with "call ref" => (k_here; k_dflt (refine' find_node_L ?zqB ?zqF ?zqX ?zqN ?zqT ?zqhk ?zqd ?zqu ?zqe0 ?zqe1 ?zqe2 ?zqe3 ?zqe4 ?_; (case zqB => k_asm); (case zqF => k_asm); (case zqX => k_asm); (case zqN => k_asm); (case zqT => k_asm); (case zqhk => first | assumption | exact rfl); (case zqd => walk_at "dep"); (case zqu => walk_at "dep"); (case zqe0 => exact has_app); (case zqe1 => assumption); (case zqe2 => assumption); (case zqe3 => assumption); (case zqe4 => assumption); k_whole); intro _ _ _ _ _;  (try k_sweep))
  k_with "call ref" => (k_here; k_dflt (refine' barrier_table_C ?zqB ?zqF ?zqX ?zqN ?zqT ?zqhk ?zqd ?zqu  ?_; (case zqB => k_asm); (case zqF => k_asm); (case zqX => k_asm); (case zqN => k_asm); (case zqT => k_asm); (case zqhk => first | assumption | exact rfl); (case zqd => walk_at "dep"); (case zqu => walk_at "dep");  k_whole); intro _ _ _ _;  (try k_sweep))
  k_with "k_mem" => first | exact List.mem_append_left _ mem_t | exact List.mem_append_left _ mem_td | exact List.mem_append_left _ mem_la | exact List.mem_append_left _ mem_ln | exact List.mem_append_right _ (by assumption) | exact List.mem_append_left _ (mem_nx (by assumption)) | exact List.mem_append_left _ (mem_nd (by assumption)) | assumption
  k_with "k_upd" => exact upd_la (by assumption)
  trivial
section
variable {prog : Program} {w : World} {p : Program} {loose : List Str} {mean : ExcName → Option Value} {mg mb : Str → Option Value}
  {dp un : Nat} {gd : Option (List Code)} {cn : Str} {cs : Scope} {a : Addr} {ccd : Value} {cl : List (Str × Addr)} {outer : List Env} {A₀ : Around} {base h₀ : Heap} {L : Addr} {m : Str → Option Value} {s : Shared} {E : Value → Shared → Prop} {Q : Value → Shared → Prop}
  (B : Below A₀ base outer h₀) (F : Fr h₀ L s.heap m) (X : (KK w.params).In h₀) {V : Tab} {R : List (Addr × Obj)} (N : News h₀ L s.heap (tl w.params V ++ R)) (ap : Apart (tl w.params V ++ R)) (T : Top p loose mean mg mb h₀) (hk : cs.kind = .function)
include B F X N ap T hk
set_option maxHeartbeats 4000000
theorem put_A {key v : Value} {k : Ky} {hp : Addr} {C : Ky → Value} {c : Int} (hd : dp + 80 < recursionLimit) (hu : un + 500 < cLine) (tt : TT V C c) (hc : c ≤ 400) (hh : HeapIn w.params hp R) (hkey : kyOf key = some k) (ok : KyOk k) (kb : KyB k) (hv : handedIn v = true) {i : Int} (hki : k = .i i) (ha : InArr V k)
    (hret : ∀ h' tk' V' G, TT V' (updC C k v) (c + 1) → V'.t = V.t → V'.num = V.num → Fr h₀ L h' m → News h₀ L h' (tl w.params V' ++ (G ++ R)) → Apart (tl w.params V' ++ (G ++ R)) → Q .none { s with heap := h', toks := tk' }) :
    wpAny (model prog w) (ktrTop dp un gd cn cs L a ccd cl outer) (call (.ref F_Table_put) [.ref V.t, key, v, .ref hp]) Q E s := by
  obtain ⟨hq, k0, k1, v0, v1, hh1, hh2⟩ := hh
  have w1 := tt.iv.wf.ha
  have w5 : kI k = i := by rw [hki]; rfl
  have a0 : 1 ≤ kI k ∧ kI k ≤ (V.arr.length : Int) := by rw [w5]; rw [hki] at ha; exact ha
  have q1 := a0.1
  have q2 := a0.2
  have q3 : kI k - 1 ≤ 1000000 := by omega
  have q4 : 0 ≤ kI k - 1 := by omega
  have q5 : kI k - 1 < (V.arr.length : Int) := by omega
  obtain ⟨t1, t2, t3⟩ := tt.put (.arr (by rw [w5]; exact hki) q1 q2) hkey hv (fun x => absurd ha x) ok kb
  have ap1 := apart_arr (i := (kI k - 1).toNat) (v := v) ap
  refine en_Table_put B F X N T hk (by first | exact room0 hd | omega) ?_
  walk_at "ent"
  walk_at "gor"
  all_goals (rename Fr _ _ _ _ => FZ; rename News _ _ _ _ => NZ; exact hret _ _ _ [] t1 t2 t3 FZ NZ ap1)
theorem put_H {key v : Value} {k : Ky} {hp : Addr} {C : Ky → Value} {c : Int} (hd : dp + 80 < recursionLimit) (hu : un + 500 < cLine) (tt : TT V C c) (hc : c ≤ 400) (hh : HeapIn w.params hp R) (hkey : kyOf key = some k) (ok : KyOk k) (kb : KyB k) (hv : handedIn v = true) (hna : ¬ InArr V k) {i : Nat} {nd : Nd} (e1 : V.nds[i]? = some nd) (e2 : kyOf nd.key = some k)
    (hret : ∀ h' tk' V' G, TT V' (updC C k v) (c + 1) → V'.t = V.t → V'.num = V.num → Fr h₀ L h' m → News h₀ L h' (tl w.params V' ++ (G ++ R)) → Apart (tl w.params V' ++ (G ++ R)) → Q .none { s with heap := h', toks := tk' }) :
    wpAny (model prog w) (ktrTop dp un gd cn cs L a ccd cl outer) (call (.ref F_Table_put) [.ref V.t, key, v, .ref hp]) Q E s := by
  obtain ⟨hq, k0, k1, v0, v1, hh1, hh2⟩ := hh
  have w1 := tt.iv.wf.ha
  have w2 := tt.iv.wf.hn
  have wf := tt.iv.wf
  have q1 : ¬ (1 ≤ kI k ∧ kI k ≤ (V.arr.length : Int)) := by
    intro q
    cases k with
    | i n => exact hna q
    | b x => exact absurd (show (1 : Int) ≤ -1 from q.1) (by decide)
  have hnl := tt.iv.nhit e1 e2
  have b1 := lt_of_get e1
  have b2 : (refsN V.nds)[((i : Nat) : Int).toNat]? = some (.ref nd.x) := refsN_get e1
  have e1' : V.nds[i]? = some (nd.w nd.key nd.val nd.nxt nd.tn) := e1
  have tt' := tt.setv e1 e2 hv
  refine en_Table_put B F X N T hk (by first | exact room0 hd | omega) ?_
  walk_at "ent"
  walk_at "gor"
  all_goals (rename Fr _ _ _ _ => FZ; rename News _ _ _ _ => NZ; rename Apart _ => apZ; exact hret _ _ _ [] tt' rfl rfl FZ NZ apZ)
theorem put_N {key v : Value} {k : Ky} {hp : Addr} {C : Ky → Value} {c : Int} (hd : dp + 80 < recursionLimit) (hu : un + 500 < cLine) (tt : TT V C c) (hc : c ≤ 400) (hh : HeapIn w.params hp R) (hkey : kyOf key = some k) (ok : KyOk k) (kb : KyB k) (hv : handedIn v = true) (hna : ¬ InArr V k) (hnk : ∀ nd ∈ V.nds, kyOf nd.key ≠ some k)
    (hret : ∀ h' tk' V' G, TT V' (updC C k v) (c + 1) → V'.t = V.t → V'.num = V.num → Fr h₀ L h' m → News h₀ L h' (tl w.params V' ++ (G ++ R)) → Apart (tl w.params V' ++ (G ++ R)) → Q .none { s with heap := h', toks := tk' }) :
    wpAny (model prog w) (ktrTop dp un gd cn cs L a ccd cl outer) (call (.ref F_Table_put) [.ref V.t, key, v, .ref hp]) Q E s := by
  have hh0 := hh
  have w1 := tt.iv.wf.ha
  have w2 := tt.iv.wf.hn
  have wf := tt.iv.wf
  have q1 : ¬ (1 ≤ kI k ∧ kI k ≤ (V.arr.length : Int)) := by
    intro q
    cases k with
    | i n => exact hna q
    | b x => exact absurd (show (1 : Int) ≤ -1 from q.1) (by decide)
  have hnl := tt.iv.nmiss hnk
  obtain ⟨hq, k0, k1, v0, v1, hh1, hh2⟩ := hh
  refine en_Table_put B F X N T hk (by first | exact room0 hd | omega) ?_
  walk_at "ent"
  walk_at "gor"
  all_goals (k_dflt (refine' new_key_C (V := V) (R := R) ?B ?F ?X ?N ap ?T ?hk ?d ?u tt hc hh0 hkey ok kb hv hna hnk rfl ?_; (case N => k_asm); (case B => k_asm); (case F => k_asm); (case X => k_asm); (case T => k_asm); (case hk => exact rfl); (case d => walk_at "dep"); (case u => walk_at "dep")); intro h6 tk6 W' G t1 t2 t3 F6 N6 ap6; rw [← t2] at F6; have hh3 := List.mem_append_right G hh1; have hh4 := List.mem_append_right G hh2; walk_at "gor"; rename Fr _ _ _ _ => FZ; rename News _ _ _ _ => NZ; exact hret _ _ _ G t1 t2 t3 FZ NZ ap6)
theorem put_C {key v : Value} {k : Ky} {hp : Addr} {C : Ky → Value} {c : Int} (hd : dp + 80 < recursionLimit) (hu : un + 500 < cLine) (tt : TT V C c) (hc : c ≤ 400) (hh : HeapIn w.params hp R) (hkey : kyOf key = some k) (ok : KyOk k) (kb : KyB k) (hv : handedIn v = true) {x : Addr} (hx : x = V.t)
    (hret : ∀ h' tk' V' G, TT V' (updC C k v) (c + 1) → V'.t = V.t → V'.num = V.num → Fr h₀ L h' m → News h₀ L h' (tl w.params V' ++ (G ++ R)) → Apart (tl w.params V' ++ (G ++ R)) → Q .none { s with heap := h', toks := tk' }) :
    wpAny (model prog w) (ktrTop dp un gd cn cs L a ccd cl outer) (call (.ref F_Table_put) [.ref x, key, v, .ref hp]) Q E s := by
  subst hx
  by_cases ha : InArr V k
  · cases k with
    | i n => exact put_A B F X N ap T hk hd hu tt hc hh hkey ok kb hv rfl ha hret
    | b x => exact ha.elim
  · by_cases hq : ∃ (i : Nat) (nd : Nd), V.nds[i]? = some nd ∧ kyOf nd.key = some k
    · obtain ⟨i, nd, e1, e2⟩ := hq
      exact put_H B F X N ap T hk hd hu tt hc hh hkey ok kb hv ha e1 e2 hret
    · refine put_N B F X N ap T hk hd hu tt hc hh hkey ok kb hv ha (fun nd hm e => ?_) hret
      obtain ⟨i, ei⟩ := List.getElem?_of_mem hm
      exact hq ⟨i, nd, ei, e⟩
theorem set_C {key v : Value} {k : Ky} {hp : Addr} {C : Ky → Value} {c : Int} (hd : dp + 90 < recursionLimit) (hu : un + 560 < cLine) (tt : TT V C c) (hc : c ≤ 400) (hh : HeapIn w.params hp R) (hkey : kyOf key = some k) (ok : KyOk k) (kb : KyB k) (hv : handedIn v = true) {x : Addr} (hx : x = V.t)
    (hret : ∀ h' tk' V' G, TT V' (updC C k v) (c + 1) → V'.t = V.t → V'.num = V.num → Fr h₀ L h' m → News h₀ L h' (tl w.params V' ++ (G ++ R)) → Apart (tl w.params V' ++ (G ++ R)) → Q .none { s with heap := h', toks := tk' }) :
    wpAny (model prog w) (ktrTop dp un gd cn cs L a ccd cl outer) (call (.ref F_Table_set) [.ref x, key, v, .ref hp]) Q E s := by
  subst hx
  have hkn : key ≠ .none := by rintro rfl; cases hkey
  have hko : handedIn key = true := handed_key (.inr (by rw [hkey]; rfl))
  refine en_Table_set B F X N T hk (by first | exact room0 hd | omega) ?_
  walk_at "ent"
  walk_at "gor"
  rename Apart _ => ap1
  k_dflt (refine' put_C (R := R) ?B ?F ?X ?N ap1 ?T ?hk ?d ?u (tt.same rfl rfl rfl) hc hh hkey ok kb hv rfl ?_; (case N => k_asm); (case B => k_asm); (case F => k_asm); (case X => k_asm); (case T => k_asm); (case hk => exact rfl); (case d => walk_at "dep"); (case u => walk_at "dep"))
  intro h6 tk6 W' G t1 t2 t3 F6 N6 ap6
  walk_at "gor"
  all_goals (rename Fr _ _ _ _ => FZ; rename News _ _ _ _ => NZ; exact hret _ _ _ G t1 t2 t3 FZ NZ ap6)
end
end Mine
end
section
open PySem PySem.W PySem.Spec PySem.Calls PyProof.Rows
namespace Mine
theorem wdC7_0 : True := by
  k_with_none
  k_with "k_room" => ((try dsimp only [Ax]); ktr_room)
  k_with "k_units" => ((try dsimp only [Ax]); ktr_units)
  k_with "ent" => (intro _ _ _ _ _ _ _ _ _; (try k_fold); (refine foldA ?_; intro Ax); (conv in execs _ _ => arg 1; whnf))
  k_with "dep" => ((try dsimp only [ktrTop, Around.deeper, Around.in1, Around.under]); (first | (refine' room2 ?zqhR ?zqcR; (case zqhR => assumption); (case zqcR => exact Nat.le_of_ble_eq_true rfl)) | (refine' room0 ?zqhR; (case zqhR => assumption)) | (refine' room1 ?zqhR ?zqcR; (case zqhR => assumption); (case zqcR => exact Nat.le_of_ble_eq_true rfl)) | (refine' room3 ?zqhR ?zqcR; (case zqhR => assumption); (case zqcR => exact Nat.le_of_ble_eq_true rfl)) | omega))
  k_with "news" => first | assumption | exact news_tl0 (by assumption) | exact news_tl0 (news_tl0 (by assumption)) | exact news_tl0 (news_tl0 (news_tl0 (by assumption)))
  k_with "go" => repeat' ((fail_if_success (with_reducible show wpAny _ _ (exec (Stmt.While _ _ _ _) _) _ _ _)); (fail_if_success (with_reducible show wpAny _ _ (exec (Stmt.For _ _ _ _ _) _) _ _ _)); (fail_if_success (with_reducible show WhileStep2 _ _ _ _ _ _ Flow.next _)); (fail_if_success (with_reducible show WhileStep2 _ _ _ _ _ _ Flow.cont _)); (first | (k_unfold; (try dsimp only)) | (k_end; wrow_close) | ((first | (with_reducible show wpAny _ _ (exec _ _) _ _ _) | (with_reducible show wpAny _ _ (execs _ _) _ _ _)); k_fold; (try (refine foldS ?_; intro Sx))) | walk1 | (dsimp only; walk1) | (leave1; walk_say "STEP leave1"; try dsimp only)))
  k_with "subscriptTail" => (k_here; (with_reducible show wpAny _ _ (subscriptTail _ _ (Value.bytes _ _) (Value.int _ _)) _ _ _); k_dflt (refine' item_by ?zqf ?zqa ?zqb ?_ ?zqhs ?zqht; (case zqf => first | assumption | omega); (case zqa => first | assumption | omega); (case zqb => first | assumption | omega); (case zqhs => with_unfolding_all rfl); (case zqht => (intro _; with_unfolding_all rfl)); k_whole); intro _ _)
  k_with "subscriptTail" => (k_here; (with_reducible show wpAny _ _ (subscriptTail _ _ (Value.ref _) (Value.int _ _)) _ _ _); k_dflt (refine' item_led ?zqN ?zqm ?zqa ?zqb ?zqx ?_ ?zqhs; (case zqN => k_asm); (case zqm => k_mem); (case zqa => first | assumption | omega); (case zqb => first | assumption | omega); (case zqx => first | assumption | walk_at "item"); (case zqhs => with_unfolding_all rfl); k_whole))
  k_with "WhileStep2" => (dsimp only [WhileStep2])
  k_with "lenk" => first | assumption | exact refsN_len _ | exact rfl
  k_with "call builtin:len" => (k_here; (with_reducible show wpAny _ _ (call (Value.builtin "len") [Value.ref _]) _ _ _); k_dflt (refine' len_led ?zqN ?zqm ?zqk ?zqf ?_; (case zqN => k_asm); (case zqm => k_mem); (case zqk => walk_at "lenk"); (case zqf => first | assumption | omega); k_whole); intro _ _)
  k_with "binaryOp Mod int int" => (k_here; k_dflt (refine' mod_int' (by assumption) ?_; k_whole))
  k_with "k_handed" => assumption
  k_with "compareOp Is none" => (k_here; first | refine is_none_ne (by assumption) ?_ | refine is_none_eq (by assumption) ?_)
  k_with "compareOp IsNot none" => (k_here; first | refine isnot_none_ne (by assumption) ?_ | refine isnot_none_eq (by assumption) ?_)
  k_with "k_all" => assumption
  k_with "setItem ref int" => (k_here; (with_reducible show wpAny _ _ (setItem (Value.ref _) (Value.int _ _) _) _ _ _); k_dflt (refine' set_led ?zqF ?zqN ?zqU ?zqa ?zqb ?zqc ?_; (case zqF => k_asm); (case zqN => k_asm); (case zqU => k_upd); (case zqa => first | assumption | omega); (case zqb => first | assumption | omega); (case zqc => first | assumption | omega); k_whole); intro _ _ _; (try k_sweep))
  k_with "getItem ref int" => (k_here; (with_reducible show wpAny _ _ (getItem (Value.ref _) (Value.int _ _)) _ _ _); k_dflt (refine' get_led ?zqN ?zqm ?zqa ?zqb ?zqx ?_; (case zqN => k_asm); (case zqm => k_mem); (case zqa => first | assumption | omega); (case zqb => first | assumption | omega); (case zqx => first | assumption | walk_at "item"); k_whole))
  k_with "has" => first | assumption | exact has_tl (by assumption) | exact has_tl (has_tl (by assumption))
  trivial
theorem wdC7_1 : True := by
  k_with "call ref" => (k_here; k_dflt (refine' is_number_int ?zqB ?zqF ?zqX ?zqN ?zqT ?zqhk ?zqd ?zqu  ?_; (case zqB => k_asm); (case zqF => k_asm); (case zqX => k_asm); (case zqN => k_asm); (case zqT => k_asm); (case zqhk => first | assumption | exact rfl); (case zqd => walk_at "dep"); (case zqu => walk_at "dep");  k_whole); intro _ _ _ _;  (try k_sweep))
  k_with "call ref" => (k_here; k_dflt (refine' is_number_bytes ?zqB ?zqF ?zqX ?zqN ?zqT ?zqhk ?zqd ?zqu  ?_; (case zqB => k_asm); (case zqF => k_asm); (case zqX => k_asm); (case zqN => k_asm); (case zqT => k_asm); (case zqhk => first | assumption | exact rfl); (case zqd => walk_at "dep"); (case zqu => walk_at "dep");  k_whole); intro _ _ _ _;  (try k_sweep))
  k_with "call ref" => (k_here; k_dflt (refine' find_node_L ?zqB ?zqF ?zqX ?zqN ?zqT ?zqhk ?zqd ?zqu ?zqe0 ?zqe1 ?zqe2 ?zqe3 ?zqe4 ?_; (case zqB => k_asm); (case zqF => k_asm); (case zqX => k_asm); (case zqN => k_asm); (case zqT => k_asm); (case zqhk => first | assumption | exact rfl); (case zqd => walk_at "dep"); (case zqu => walk_at "dep"); (case zqe0 => walk_at "has"); (case zqe1 => assumption); (case zqe2 => first | assumption | rfl); (case zqe3 => first | assumption | exact trivial); (case zqe4 => assumption); k_whole); intro _ _ _ _ _;  (try k_sweep))
  k_with "call ref" => (k_here; k_dflt (refine' get_int_C ?zqB ?zqF ?zqX ?zqN ?zqT ?zqhk ?zqd ?zqu ?zqe0 ?zqe1 ?zqe2 ?_; (case zqB => k_asm); (case zqF => k_asm); (case zqX => k_asm); (case zqN => k_asm); (case zqT => k_asm); (case zqhk => first | assumption | exact rfl); (case zqd => walk_at "dep"); (case zqu => walk_at "dep"); (case zqe0 => walk_at "has"); (case zqe1 => assumption); (case zqe2 => first | assumption | exact AllLook.at (by assumption) _); k_whole); intro _ _ _ _;  (try k_sweep))
  k_with "compareOp Is none" => (k_here; first | refine is_none_ne (by assumption) ?_ | refine is_none_eq (by assumption) ?_ | (refine is_none_cases (fun hnone => ?_) (fun hnone => ?_)))
  k_with "compareOp IsNot none" => (k_here; first | refine isnot_none_ne (by assumption) ?_ | refine isnot_none_eq (by assumption) ?_ | (refine isnot_none_cases ?_ ?_ <;> intro _))
  trivial
theorem mid_bd {lo hi : Int} (h : 0 ≤ lo + hi) (c : 1 < hi - lo) : lo < (lo + hi).fdiv 2 ∧ (lo + hi).fdiv 2 < hi := by
  rw [half _ h]
  omega
inductive UbJ2 (V : Tab) (nx : List (Addr × Obj)) (n : Nat) (k : Nat) (m₂ : Str → Option Value) (nx2 : List (Addr × Obj)) : Prop
  | mk (zq0 : nx2 = nx) (lo : _) (hi : _) (t1 : _) (t2 : _) (zq1 : m₂ "low" = some (.int lo t1)) (zq2 : m₂ "high" = some (.int hi t2)) (zq3 : m₂ "self" = some (.ref V.t)) (zq4 : 0 ≤ lo) (zq5 : lo ≤ n) (zq6 : (n : Int) < hi) (zq7 : hi ≤ 2 * (n : Int) + 2) (zq8 : k = (hi - lo).toNat) : UbJ2 V nx n k m₂ nx2
inductive UbJ1 (V : Tab) (news : List (Addr × Obj)) (n : Nat) (k : Nat) (m₁ : Str → Option Value) (nx : List (Addr × Obj)) : Prop
  | mk (zq0 : nx = news) (lo : _) (hi : _) (t1 : _) (t2 : _) (zq1 : m₁ "low" = some (.int lo t1)) (zq2 : m₁ "high" = some (.int hi t2)) (zq3 : m₁ "self" = some (.ref V.t)) (zq4 : 0 ≤ lo) (zq5 : lo ≤ n) (zq6 : lo < hi) (zq7 : hi ≤ 2 * (n : Int) + 2) (zq8 : k = (n + 1 - lo).toNat) : UbJ1 V news n k m₁ nx
section
variable {prog : Program} {w : World} {p : Program} {loose : List Str} {mean : ExcName → Option Value} {mg mb : Str → Option Value}
  {dp un : Nat} {gd : Option (List Code)} {cn : Str} {cs : Scope} {a : Addr} {ccd : Value} {cl : List (Str × Addr)} {outer : List Env} {A₀ : Around} {base h₀ : Heap} {L : Addr} {m : Str → Option Value} {news : List (Addr × Obj)} {s : Shared} {E : Value → Shared → Prop} {Q : Value → Shared → Prop}
  (B : Below A₀ base outer h₀) (F : Fr h₀ L s.heap m) (X : (KK w.params).In h₀) (N : News h₀ L s.heap news) (T : Top p loose mean mg mb h₀) (hk : cs.kind = .function)
include B F X N T hk
set_option maxHeartbeats 4000000
theorem get_bytes_C {V : Tab} {x : Array UInt8} {t : Tok} {v : Value} (hd : dp + 14 < recursionLimit) (_hu : un + 100 < cLine) (H : Has w.params V news) (wf : Wf V) (hx : KyOk (.b x)) (hl : Look V (.b x) v)
    (hret : ∀ h' tk', Fr h₀ L h' m → News h₀ L h' news → Q v { s with heap := h', toks := tk' }) :
    wpAny (model prog w) (ktrTop dp un gd cn cs L a ccd cl outer) (call (.ref F_Table_get) [.ref V.t, .bytes x t]) Q E s := by
  obtain ⟨m1, m2, m3, m4⟩ := has_all H
  have w2 := wf.hn
  refine en_Table_get B F X N T hk (by first | exact room0 hd | omega) ?_
  walk_at "ent"
  cases hl with
  | miss a1 a2 =>
    walk_at "go"
    all_goals exact hret _ _ (by assumption) (by assumption)
  | hit a1 a2 a3 a4 =>
    rename_i r nd
    have q2 := lt_of_get a4
    have q3 := refsN_get a4
    obtain ⟨q4, q5⟩ := has_nd H a4
    have q6 := wf.hvo _ (List.mem_of_getElem? a4)
    walk_at "go"
    all_goals exact hret _ _ (by assumption) (by assumption)
theorem unbound_search_C {V : Tab} {C : Int → Value} {n : Nat} {i : Int} {t : Tok} (hd : dp + 18 < recursionLimit) (_hu : un + 140 < cLine) (H : Has w.params V news) (wf : Wf V) (hC : AllLook V C) (b : Border C n) (hn : n ≤ 1000000) (hi0 : 0 ≤ i) (hi : i ≤ n)
    (hret : ∀ h' tk' t' r, r = (n : Int) → Fr h₀ L h' m → News h₀ L h' news → Q (.int r t') { s with heap := h', toks := tk' }) :
    wpAny (model prog w) (ktrTop dp un gd cn cs L a ccd cl outer) (call (.ref F_Table_unbound_search) [.ref V.t, .int i t]) Q E s := by
  obtain ⟨m1, m2, m3, m4⟩ := has_all H
  refine en_Table_unbound_search B F X N T hk (by first | exact room0 hd | omega) ?_
  walk_at "ent"
  walk_at "go"
  refine While_inv2 (news := news) (UbJ1 V news n) (n₀ := (n + 1 - i).toNat) (by assumption) (by walk_at "news") ?_ ?_
  · exact ⟨rfl, _, _, _, _, rfl, rfl, rfl, hi0, hi, by omega, by omega, rfl⟩
  · rintro k m₁ nx h₁ tk₁ F₁ N₁ hJJ 
    (try k_fold)
    obtain ⟨rfl, lo, hi, t1, t2, e1, e2, e3, b1, b2, b3, b4, b5⟩ := hJJ
    rw [map3 e1 e2 e3] at F₁
    refine foldM F₁ ?_; clear F₁; intro Mx1 F₁
    walk_at "go"
    · have c1 := b.of_none (i := hi) (by omega) (by assumption)
      refine While_inv2 (news := nx) (UbJ2 V nx n) (n₀ := (hi - lo).toNat) (by assumption) (by walk_at "news") ?_ ?_
      · exact ⟨rfl, _, _, _, _, rfl, rfl, rfl, b1, b2, c1, b4, rfl⟩
      · clear b1 b2 b3 b4 b5 c1 e1 e2 e3
        rintro k m₂ nx2 h₂ tk₂ F₂ N₂ hJJ 
        (try k_fold)
        obtain ⟨rfl, lo, hi, t1, t2, e1, e2, e3, b1, b2, b3, b4, b5⟩ := hJJ
        rw [map3 e1 e2 e3] at F₂
        refine foldM F₂ ?_; clear F₂; intro Mx2 F₂
        have hh : 0 ≤ lo + hi := by omega
        walk_at "go"
        · obtain ⟨hm1, hm2⟩ := mid_bd hh (by omega)
          have c1 := b.of_none (i := (lo + hi).fdiv 2) (by omega) (by assumption)
          refine ⟨_, _, _, _, _, rfl, by assumption, by assumption, ?_, rfl, _, _, _, _, rfl, rfl, rfl, ?_, ?_, ?_, ?_, rfl⟩ <;> omega
        · obtain ⟨hm1, hm2⟩ := mid_bd hh (by omega)
          have c1 := b.of_ne (i := (lo + hi).fdiv 2) (by assumption)
          refine ⟨_, _, _, _, _, rfl, by assumption, by assumption, ?_, rfl, _, _, _, _, rfl, rfl, rfl, ?_, ?_, ?_, ?_, rfl⟩ <;> omega
        · exact hret _ _ _ _ (by omega) (by assumption) (by assumption)
    · have c1 := b.of_ne (i := hi) (by assumption)
      refine ⟨_, _, _, _, _, rfl, by assumption, by assumption, ?_, rfl, _, _, _, _, rfl, rfl, rfl, ?_, ?_, ?_, ?_, rfl⟩ <;> omega
end
end Mine
end
section
open PySem PySem.W PySem.Spec PySem.Calls PyProof.Rows
namespace Mine
theorem wdC8_0 : True := by
  k_with "compareOp Is none" => (k_here; first | refine is_none_ne (by assumption) ?_ | refine is_none_eq (by assumption) ?_)
  k_with "compareOp IsNot none" => (k_here; first | refine isnot_none_ne (by assumption) ?_ | refine isnot_none_eq (by assumption) ?_)
  trivial
theorem wdC8_1 : True := by
  k_with "compareOp Is none" => (k_here; first | refine is_none_ne (by assumption) ?_ | refine is_none_eq (by assumption) ?_ | (refine is_none_cases (fun hnone => ?_) (fun hnone => ?_)))
  k_with "call ref" => (k_here; k_dflt (refine' unbound_search_C ?zqB ?zqF ?zqX ?zqN ?zqT ?zqhk ?zqd ?zqu ?zqe0 ?zqe1 ?zqe2 ?zqe3 ?zqe4 ?zqe5 ?zqe6 ?_; (case zqB => k_asm); (case zqF => k_asm); (case zqX => k_asm); (case zqN => k_asm); (case zqT => k_asm); (case zqhk => first | assumption | exact rfl); (case zqd => walk_at "dep"); (case zqu => walk_at "dep"); (case zqe0 => walk_at "has"); (case zqe1 => assumption); (case zqe2 => assumption); (case zqe3 => assumption); (case zqe4 => assumption); (case zqe5 => omega); (case zqe6 => omega); k_whole); intro _ _ _ _ _ _ _;  (try k_sweep))
  trivial
inductive LnJ (V : Tab) (news : List (Addr × Obj)) (n : Nat) (k : Nat) (m₂ : Str → Option Value) (nx2 : List (Addr × Obj)) : Prop
  | mk (zq0 : nx2 = news) (lo : _) (hi : _) (t1 : _) (t2 : _) (zq1 : m₂ "low" = some (.int lo t1)) (zq2 : m₂ "last" = some (.int hi t2)) (zq3 : m₂ "self" = some (.ref V.t)) (zq4 : 0 ≤ lo) (zq5 : lo ≤ n) (zq6 : (n : Int) < hi) (zq7 : hi ≤ V.arr.length) (zq8 : k = (hi - lo).toNat) : LnJ V news n k m₂ nx2
section
variable {prog : Program} {w : World} {p : Program} {loose : List Str} {mean : ExcName → Option Value} {mg mb : Str → Option Value}
  {dp un : Nat} {gd : Option (List Code)} {cn : Str} {cs : Scope} {a : Addr} {ccd : Value} {cl : List (Str × Addr)} {outer : List Env} {A₀ : Around} {base h₀ : Heap} {L : Addr} {m : Str → Option Value} {news : List (Addr × Obj)} {s : Shared} {E : Value → Shared → Prop} {Q : Value → Shared → Prop}
  (B : Below A₀ base outer h₀) (F : Fr h₀ L s.heap m) (X : (KK w.params).In h₀) (N : News h₀ L s.heap news) (T : Top p loose mean mg mb h₀) (hk : cs.kind = .function)
include B F X N T hk
set_option maxHeartbeats 4000000
theorem length_C {V : Tab} {C : Int → Value} {n : Nat} (hd : dp + 20 < recursionLimit) (_hu : un + 160 < cLine) (H : Has w.params V news) (wf : Wf V) (hC : AllLook V C) (b : Border C n) (hn : n ≤ 1000000)
    (hret : ∀ h' tk' t' r, r = (n : Int) → Fr h₀ L h' m → News h₀ L h' news → Q (.int r t') { s with heap := h', toks := tk' }) :
    wpAny (model prog w) (ktrTop dp un gd cn cs L a ccd cl outer) (call (.ref F_Table_length) [.ref V.t]) Q E s := by
  obtain ⟨m1, m2, m3, m4⟩ := has_all H
  have w1 := wf.ha
  have w2 := wf.hn
  have q0 : V.arr.length ≠ 0 → V.arr[((V.arr.length : Int) - 1).toNat]? = some (C V.arr.length) := fun h => (hC _).arr_of (by omega) (by omega)
  refine en_Table_length B F X N T hk (by first | exact room0 hd | omega) ?_
  walk_at "ent"
  rcases Nat.eq_zero_or_pos V.arr.length with h0 | h0
  · have c1 : V.nds.length = 0 → (n : Int) = 0 := fun hz => by
      have := (hC (V.arr.length + 1)).none_of (by omega) hz
      have := b.of_none (by omega) this
      omega
    walk_at "go"
    all_goals first
      | exact hret _ _ _ _ (by omega) (by assumption) (by assumption)
      | (have c2 := c1 (by omega); exact hret _ _ _ _ (by omega) (by assumption) (by assumption))
  · have q1 := q0 (by omega)
    by_cases hl : C V.arr.length = .none
    · have c1 := b.of_none (by omega) hl
      walk_at "go"
      refine While_inv2 (news := news) (LnJ V news n) (n₀ := ((V.arr.length : Int) - 0).toNat) (by assumption) (by walk_at "news") ?_ ?_
      · exact ⟨rfl, _, _, _, _, rfl, rfl, rfl, by omega, by omega, c1, by omega, rfl⟩
      · rintro k m₂ nx2 h₂ tk₂ F₂ N₂ hJJ 
        (try k_fold)
        obtain ⟨rfl, lo, hi, t1, t2, e1, e2, e3, b1, b2, b3, b4, b5⟩ := hJJ
        rw [map3 e1 e2 e3] at F₂
        refine foldM F₂ ?_; clear F₂; intro Mx1 F₂
        have hh : 0 ≤ lo + hi := by omega
        by_cases hgo : 1 < hi - lo
        · obtain ⟨hm1, hm2⟩ := mid_bd hh hgo
          have q3 : V.arr[((lo + hi).fdiv 2 - 1).toNat]? = some (C ((lo + hi).fdiv 2)) := (hC _).arr_of (by omega) (by omega)
          walk_at "go"
          · have c1 := b.of_none (i := (lo + hi).fdiv 2) (by omega) (by assumption)
            refine ⟨_, _, _, _, _, rfl, by assumption, by assumption, ?_, rfl, _, _, _, _, rfl, rfl, rfl, ?_, ?_, ?_, ?_, rfl⟩ <;> omega
          · have c1 := b.of_ne (i := (lo + hi).fdiv 2) (by assumption)
            refine ⟨_, _, _, _, _, rfl, by assumption, by assumption, ?_, rfl, _, _, _, _, rfl, rfl, rfl, ?_, ?_, ?_, ?_, rfl⟩ <;> omega
        · walk_at "go"
          all_goals exact hret _ _ _ _ (by omega) (by assumption) (by assumption)
    · have c1 := b.of_ne hl
      have c3 : V.nds.length = 0 → (n : Int) < V.arr.length + 1 := fun hz => b.of_none (by omega) ((hC (V.arr.length + 1)).none_of (by omega) hz)
      walk_at "go"
      all_goals first
        | exact hret _ _ _ _ (by omega) (by assumption) (by assumption)
        | (have c4 := c3 (by omega); exact hret _ _ _ _ (by omega) (by assumption) (by assumption))
end
end Mine
end
section
open PySem PySem.W PySem.Spec PySem.Calls PyProof.Rows
open PyProof.Rows
namespace Mine
theorem wdD9_0 : True := by
  k_with "dec" => first | ((try simp only [beq_iff_eq, bne_iff_ne, decide_eq_true_eq, decide_eq_false_iff_not, Bool.and_eq_true, Bool.not_eq_true', Bool.not_eq_true, beq_eq_false_iff_ne, ne_eq]) <;> omega) | (simp; done)
  k_with "ite" => (k_here; k_openite; (first | refine ite_pos (by walk_at "dec") ?_ | refine ite_neg (by walk_at "dec") ?_))
  k_with "item" => exact refsN_get (by assumption)
  k_with "compareOp Is none" => (k_here; first | refine is_none_ne (by assumption) ?_ | refine is_none_eq (by assumption) ?_)
  k_with "has" => first | assumption | exact has_tl (by assumption) | exact has_tl (has_tl (by assumption))
  k_with "has" => exact has_app
  k_with "k_mem" => first | exact List.mem_append_left _ mem_t | exact List.mem_append_left _ mem_td | exact List.mem_append_left _ mem_la | exact List.mem_append_left _ mem_ln | exact List.mem_append_left _ (mem_nx (by assumption)) | exact List.mem_append_left _ (mem_nd (by assumption)) | exact List.mem_append_right _ (by assumption)
  k_with "apart" => first | assumption | exact apart_same (by assumption) rfl
  k_with "setAttr ref" => (k_here; k_dflt (first | ((with_reducible show wpAny _ _ (setAttr (Value.ref _) (Str.ofString "free") _) _ _ _); refine' set_free ?zqF ?zqX ?zqN ?zqap ?zqhx ?_; (case zqF => k_asm); (case zqX => k_asm); (case zqN => k_asm); (case zqap => walk_at "apart"); (case zqhx => exact rfl); k_whole; intro _ _ _ _) | ((with_reducible show wpAny _ _ (setAttr (Value.ref _) (Str.ofString "flags") _) _ _ _); refine' set_flags ?zqF ?zqX ?zqN ?zqap ?zqhx ?_; (case zqF => k_asm); (case zqX => k_asm); (case zqN => k_asm); (case zqap => walk_at "apart"); (case zqhx => exact rfl); k_whole; intro _ _ _ _) | ((with_reducible show wpAny _ _ (setAttr (Value.ref _) (Str.ofString "log_nodes") _) _ _ _); refine' set_log_nodes ?zqF ?zqX ?zqN ?zqap ?zqhx ?_; (case zqF => k_asm); (case zqX => k_asm); (case zqN => k_asm); (case zqap => walk_at "apart"); (case zqhx => exact rfl); k_whole; intro _ _ _ _) | ((with_reducible show wpAny _ _ (setAttr (Value.ref _) (Str.ofString "size") _) _ _ _); refine' set_size ?zqF ?zqX ?zqN ?zqap ?zqhx ?_; (case zqF => k_asm); (case zqX => k_asm); (case zqN => k_asm); (case zqap => walk_at "apart"); (case zqhx => exact rfl); k_whole; intro _ _ _ _) | ((with_reducible show wpAny _ _ (setAttr (Value.ref _) (Str.ofString "number") _) _ _ _); refine' set_number ?zqF ?zqX ?zqN ?zqap ?zqhx ?_; (case zqF => k_asm); (case zqX => k_asm); (case zqN => k_asm); (case zqap => walk_at "apart"); (case zqhx => exact rfl); k_whole; intro _ _ _ _) | ((with_reducible show wpAny _ _ (setAttr (Value.ref _) (Str.ofString "key") _) _ _ _); refine' set_key ?zqF ?zqX ?zqN ?zqap ?zqe ?zqhx ?_; (case zqF => k_asm); (case zqX => k_asm); (case zqN => k_asm); (case zqap => walk_at "apart"); (case zqhx => exact rfl); (case zqe => assumption); k_whole; intro _ _ _ _ _ _) | ((with_reducible show wpAny _ _ (setAttr (Value.ref _) (Str.ofString "value") _) _ _ _); refine' set_value ?zqF ?zqX ?zqN ?zqap ?zqe ?zqhx ?_; (case zqF => k_asm); (case zqX => k_asm); (case zqN => k_asm); (case zqap => walk_at "apart"); (case zqhx => exact rfl); (case zqe => assumption); k_whole; intro _ _ _ _ _ _) | ((with_reducible show wpAny _ _ (setAttr (Value.ref _) (Str.ofString "next") _) _ _ _); refine' set_next ?zqF ?zqX ?zqN ?zqap ?zqe ?zqhx ?_; (case zqF => k_asm); (case zqX => k_asm); (case zqN => k_asm); (case zqap => walk_at "apart"); (case zqhx => exact rfl); (case zqe => assumption); k_whole; intro _ _ _ _ _ _)); (try k_sweep))
  trivial
theorem wdD9_1 : True := by
  k_with "one" => (first | (k_unfold; (try dsimp only)) | (k_end; wrow_close) | ((first | (with_reducible show wpAny _ _ (exec _ _) _ _ _) | (with_reducible show wpAny _ _ (execs _ _) _ _ _)); k_fold; (try (refine foldS ?_; intro Sx))) | walk1 | (dsimp only; walk1) | (leave1; walk_say "STEP leave1"; try dsimp only))
  k_with "gor" => repeat' ((fail_if_success (with_reducible show wpAny _ _ (call (Value.ref 266) _) _ _ _)); (fail_if_success (with_reducible show wpAny _ _ (call (Value.ref 377) _) _ _ _)); (fail_if_success (with_reducible show WhileStep2 _ _ _ _ _ _ Flow.next _)); (fail_if_success (with_reducible show WhileStep2 _ _ _ _ _ _ Flow.cont _)); (first | (k_unfold; (try dsimp only)) | (k_end; wrow_close) | ((first | (with_reducible show wpAny _ _ (exec _ _) _ _ _) | (with_reducible show wpAny _ _ (execs _ _) _ _ _)); k_fold; (try (refine foldS ?_; intro Sx))) | walk1 | (dsimp only; walk1) | (leave1; walk_say "STEP leave1"; try dsimp only)))
  k_with "call ref" => (k_here; k_dflt (refine' get_int_C ?zqB ?zqF ?zqX ?zqN ?zqT ?zqhk ?zqd ?zqu ?zqe0 ?zqe1 ?zqe2 ?_; (case zqB => k_asm); (case zqF => k_asm); (case zqX => k_asm); (case zqN => k_asm); (case zqT => k_asm); (case zqhk => first | assumption | exact rfl); (case zqd => walk_at "dep"); (case zqu => walk_at "dep"); (case zqe0 => exact has_app); (case zqe1 => exact TT.iv (by assumption) |>.wf); (case zqe2 => first | assumption | exact TT.look (by assumption) _); k_whole); intro _ _ _ _;  (try k_sweep))
  trivial
theorem TT.tinst {P : Params} {V : Tab} {R : List (Addr × Obj)} : (V.t, instObj C_Table V.td) ∈ tl P V ++ R := List.mem_append_left _ mem_t
theorem wdD9_2 : True := by
  k_with "k_mem" => first | exact List.mem_append_left _ mem_t | exact List.mem_append_left _ mem_td | exact List.mem_append_right _ (by assumption) | assumption
  trivial
section
variable {prog : Program} {w : World} {p : Program} {loose : List Str} {mean : ExcName → Option Value} {mg mb : Str → Option Value}
  {dp un : Nat} {gd : Option (List Code)} {cn : Str} {cs : Scope} {a : Addr} {ccd : Value} {cl : List (Str × Addr)} {outer : List Env} {A₀ : Around} {base h₀ : Heap} {L : Addr} {m : Str → Option Value} {s : Shared} {E : Value → Shared → Prop} {Q : Value → Shared → Prop}
  (B : Below A₀ base outer h₀) (F : Fr h₀ L s.heap m) (X : (KK w.params).In h₀) {V : Tab} {R : List (Addr × Obj)} (N : News h₀ L s.heap (tl w.params V ++ R)) (ap : Apart (tl w.params V ++ R)) (T : Top p loose mean mg mb h₀) (hk : cs.kind = .function)
include B F X N ap T hk
set_option maxHeartbeats 4000000
theorem free_number_none {C : Ky → Value} {c : Int} (hd : dp + 30 < recursionLimit) (hu : un + 200 < cLine) (tt : TT V C c) (h0 : C (.i 0) = .none) {x : Addr} (hx : x = V.t)
    (hret : ∀ h' tk', Fr h₀ L h' m → News h₀ L h' (tl w.params V ++ R) → Q .none { s with heap := h', toks := tk' }) :
    wpAny (model prog w) (ktrTop dp un gd cn cs L a ccd cl outer) (call (.ref F_free_number) [.ref x]) Q E s := by
  subst hx
  refine en_free_number B F X N T hk (by first | exact room0 hd | omega) ?_
  walk_at "ent"
  walk_at "gor"
  all_goals (rename Fr _ _ _ _ => FZ; rename News _ _ _ _ => NZ; exact hret _ _ FZ NZ)
theorem free_number_int {C : Ky → Value} {c f : Int} {t : Tok} (hd : dp + 30 < recursionLimit) (hu : un + 200 < cLine) (tt : TT V C c) (h0 : C (.i 0) = .int f t) (hf : 1 ≤ f) {x : Addr} (hx : x = V.t)
    (hret : ∀ h' tk', Fr h₀ L h' m → News h₀ L h' (tl w.params V ++ R) → Q (.int f t) { s with heap := h', toks := tk' }) :
    wpAny (model prog w) (ktrTop dp un gd cn cs L a ccd cl outer) (call (.ref F_free_number) [.ref x]) Q E s := by
  subst hx
  have h1 := tt.look (.i 0)
  rw [h0] at h1
  have h2 : (Value.int f t) ≠ .none := nofun
  refine en_free_number B F X N T hk (by first | exact room0 hd | omega) ?_
  walk_at "ent"
  walk_at "gor"
  all_goals (rename Fr _ _ _ _ => FZ; rename News _ _ _ _ => NZ; exact hret _ _ FZ NZ)
end
theorem wdD9_3 : True := by
  k_with "call ref" => (k_here; k_dflt (refine' free_number_none ?zqB ?zqF ?zqX ?zqN (by assumption) ?zqT ?zqhk ?zqd ?zqu ?zqe0 ?zqe1 ?zqe2 ?_; (case zqB => k_asm); (case zqF => k_asm); (case zqX => k_asm); (case zqN => k_asm); (case zqT => k_asm); (case zqhk => first | assumption | exact rfl); (case zqd => walk_at "dep"); (case zqu => walk_at "dep"); (case zqe0 => assumption); (case zqe1 => assumption); (case zqe2 => exact rfl); k_whole); intro _ _ _ _;  (try k_sweep))
  k_with "call ref" => (k_here; k_dflt (refine' free_number_int ?zqB ?zqF ?zqX ?zqN (by assumption) ?zqT ?zqhk ?zqd ?zqu ?zqe0 ?zqe1 ?zqe2 ?zqe3 ?_; (case zqB => k_asm); (case zqF => k_asm); (case zqX => k_asm); (case zqN => k_asm); (case zqT => k_asm); (case zqhk => first | assumption | exact rfl); (case zqd => walk_at "dep"); (case zqu => walk_at "dep"); (case zqe0 => assumption); (case zqe1 => assumption); (case zqe2 => assumption); (case zqe3 => exact rfl); k_whole); intro _ _ _ _;  (try k_sweep))
  trivial
section
variable {prog : Program} {w : World} {p : Program} {loose : List Str} {mean : ExcName → Option Value} {mg mb : Str → Option Value}
  {dp un : Nat} {gd : Option (List Code)} {cn : Str} {cs : Scope} {a : Addr} {ccd : Value} {cl : List (Str × Addr)} {outer : List Env} {A₀ : Around} {base h₀ : Heap} {L : Addr} {m : Str → Option Value} {s : Shared} {E : Value → Shared → Prop} {Q : Value → Shared → Prop}
  (B : Below A₀ base outer h₀) (F : Fr h₀ L s.heap m) (X : (KK w.params).In h₀) {V : Tab} {R : List (Addr × Obj)} (N : News h₀ L s.heap (tl w.params V ++ R)) (ap : Apart (tl w.params V ++ R)) (T : Top p loose mean mg mb h₀) (hk : cs.kind = .function)
include B F X N ap T hk
set_option maxHeartbeats 4000000
theorem keep_value_new {C : Ky → Value} {c : Int} {v : Value} {hp : Addr} (hd : dp + 110 < recursionLimit) (hu : un + 700 < cLine) (tt : TT V C c) (hc : c ≤ 390) (hh : HeapIn w.params hp R) (hv : handedIn v = true) {n : Nat} (h0 : C (.i 0) = .none) (b : Border (fun i => C (.i i)) n) (hn : n ≤ 1000)
    (hret : ∀ h' tk' (t' : Tok) V' G, TT V' (updC C (.i ((n : Int) + 1)) v) (c + 1) → V'.t = V.t → V'.num = V.num → Fr h₀ L h' m → News h₀ L h' (tl w.params V' ++ (G ++ R)) → Apart (tl w.params V' ++ (G ++ R)) → Q (.int ((n : Int) + 1) t') { s with heap := h', toks := tk' }) :
    wpAny (model prog w) (ktrTop dp un gd cn cs L a ccd cl outer) (call (.ref F_keep_value) [.ref V.t, v, .ref hp]) Q E s := by
  refine en_keep_value B F X N T hk (by first | exact room0 hd | omega) ?_
  walk_at "ent"
  walk_at "gor"
  k_dflt (refine' length_C (V := V) (news := tl w.params V ++ R) (n := n) ?B ?F ?X ?N ?T ?hk ?d ?u has_app tt.iv.wf (arrInt tt) b (by omega) ?_; (case N => k_asm); (case B => k_asm); (case F => k_asm); (case X => k_asm); (case T => k_asm); (case hk => exact rfl); (case d => walk_at "dep"); (case u => walk_at "dep"))
  intro h4 tk4 t4 r4 e4 F4 N4
  subst e4
  walk_at "gor"
  k_dflt (refine' set_C (V := V) (R := R) (k := .i ((n : Int) + 1)) ?B ?F ?X ?N ap ?T ?hk ?d ?u tt (by omega) hh rfl trivial ?kb hv rfl ?_; (case N => k_asm); (case kb => (show _ ≤ (67108864 : Int); omega)); (case B => k_asm); (case F => k_asm); (case X => k_asm); (case T => k_asm); (case hk => exact rfl); (case d => walk_at "dep"); (case u => walk_at "dep"))
  intro h6 tk6 W' G t1 t2 t3 F6 N6 ap6
  walk_at "gor"
  all_goals (rename Fr _ _ _ _ => FZ; rename News _ _ _ _ => NZ; exact hret _ _ _ _ G t1 t2 t3 FZ NZ ap6)
theorem keep_value_old {C : Ky → Value} {c : Int} {v : Value} {hp : Addr} (hd : dp + 110 < recursionLimit) (hu : un + 700 < cLine) (tt : TT V C c) (hc : c ≤ 390) (hh : HeapIn w.params hp R) (hv : handedIn v = true) {f : Int} {t : Tok} (h0 : C (.i 0) = .int f t) (hf : 1 ≤ f) (hf2 : f ≤ 1000)
    (hret : ∀ h' tk' (t' : Tok) V' G, TT V' (updC (updC C (.i 0) (C (.i f))) (.i f) v) (c + 2) → V'.t = V.t → V'.num = V.num → Fr h₀ L h' m → News h₀ L h' (tl w.params V' ++ (G ++ R)) → Apart (tl w.params V' ++ (G ++ R)) → Q (.int f t) { s with heap := h', toks := tk' }) :
    wpAny (model prog w) (ktrTop dp un gd cn cs L a ccd cl outer) (call (.ref F_keep_value) [.ref V.t, v, .ref hp]) Q E s := by
  have hio : (Value.int f t) ≠ .none := nofun
  have hhi := tt.hi (.i f)
  refine en_keep_value B F X N T hk (by first | exact room0 hd | omega) ?_
  walk_at "ent"
  walk_at "gor"
  k_dflt (refine' set_C (V := V) (R := R) (k := .i 0) ?B ?F ?X ?N ap ?T ?hk ?d ?u tt (by omega) hh rfl trivial ?kb hhi rfl ?_; (case N => k_asm); (case kb => (show _ ≤ (67108864 : Int); omega)); (case B => k_asm); (case F => k_asm); (case X => k_asm); (case T => k_asm); (case hk => exact rfl); (case d => walk_at "dep"); (case u => walk_at "dep"))
  intro h6 tk6 W1 G1 t1 t2 t3 F6 N6 ap6
  rw [← t2] at F6
  walk_at "gor"
  k_dflt (refine' set_C (V := W1) (R := (G1 ++ R)) (k := .i f) ?B ?F ?X ?N ap6 ?T ?hk ?d ?u t1 (by omega) (hh.mono fun p hp => List.mem_append_right _ hp) rfl trivial ?kb hv rfl ?_; (case N => k_asm); (case kb => (show _ ≤ (67108864 : Int); omega)); (case B => k_asm); (case F => k_asm); (case X => k_asm); (case T => k_asm); (case hk => exact rfl); (case d => walk_at "dep"); (case u => walk_at "dep"))
  intro h7 tk7 W2 G2 u1 u2 u3 F7 N7 ap7
  rw [← List.append_assoc G2 G1 R] at N7 ap7
  have u1' := u1.le (c' := c + 2) (by omega)
  walk_at "gor"
  all_goals (rename Fr _ _ _ _ => FZ; rename News _ _ _ _ => NZ; exact hret _ _ t _ (G2 ++ G1) u1' (u2.trans t2) (u3.trans t3) FZ NZ ap7)
end
section
variable {prog : Program} {w : World} {p : Program} {loose : List Str} {mean : ExcName → Option Value} {mg mb : Str → Option Value}
  {dp un : Nat} {gd : Option (List Code)} {cn : Str} {cs : Scope} {a : Addr} {ccd : Value} {cl : List (Str × Addr)} {outer : List Env} {A₀ : Around} {base h₀ : Heap} {L : Addr} {m : Str → Option Value} {s : Shared} {E : Value → Shared → Prop} {Q : Value → Shared → Prop}
  (B : Below A₀ base outer h₀) (F : Fr h₀ L s.heap m) (X : (KK w.params).In h₀) {V : Tab} {R : List (Addr × Obj)} (N : News h₀ L s.heap (tl w.params V ++ R)) (ap : Apart (tl w.params V ++ R)) (T : Top p loose mean mg mb h₀) (hk : cs.kind = .function)
include B F X N ap T hk
set_option maxHeartbeats 4000000
theorem drop_value_neg {C : Ky → Value} {c n : Int} {t : Tok} {hp : Addr} (hd : dp + 110 < recursionLimit) (hu : un + 700 < cLine) (tt : TT V C c) (hc : c ≤ 390) (hh : HeapIn w.params hp R) (hn : n < 0)
    (hret : ∀ h' tk', Fr h₀ L h' m → News h₀ L h' (tl w.params V ++ R) → Q .none { s with heap := h', toks := tk' }) :
    wpAny (model prog w) (ktrTop dp un gd cn cs L a ccd cl outer) (call (.ref F_drop_value) [.ref V.t, .int n t, .ref hp]) Q E s := by
  refine en_drop_value B F X N T hk (by first | exact room0 hd | omega) ?_
  walk_at "ent"
  walk_at "gor"
  all_goals (rename Fr _ _ _ _ => FZ; rename News _ _ _ _ => NZ; exact hret _ _ FZ NZ)
theorem drop_value_pos {C : Ky → Value} {c n : Int} {t : Tok} {hp : Addr} (hd : dp + 110 < recursionLimit) (hu : un + 700 < cLine) (tt : TT V C c) (hc : c ≤ 390) (hh : HeapIn w.params hp R) (hn : 0 ≤ n) (hn2 : n ≤ 1000)
    (hret : ∀ h' tk' V' G, TT V' (updC (updC C (.i n) (C (.i 0))) (.i 0) (.int n t)) (c + 2) → V'.t = V.t → V'.num = V.num → Fr h₀ L h' m → News h₀ L h' (tl w.params V' ++ (G ++ R)) → Apart (tl w.params V' ++ (G ++ R)) → Q .none { s with heap := h', toks := tk' }) :
    wpAny (model prog w) (ktrTop dp un gd cn cs L a ccd cl outer) (call (.ref F_drop_value) [.ref V.t, .int n t, .ref hp]) Q E s := by
  have hhi := tt.hi (.i 0)
  refine en_drop_value B F X N T hk (by first | exact room0 hd | omega) ?_
  walk_at "ent"
  walk_at "gor"
  k_dflt (refine' set_C (V := V) (R := R) (k := .i n) ?B ?F ?X ?N ap ?T ?hk ?d ?u tt (by omega) hh rfl trivial ?kb hhi rfl ?_; (case N => k_asm); (case kb => (show _ ≤ (67108864 : Int); omega)); (case B => k_asm); (case F => k_asm); (case X => k_asm); (case T => k_asm); (case hk => exact rfl); (case d => walk_at "dep"); (case u => walk_at "dep"))
  intro h6 tk6 W1 G1 t1 t2 t3 F6 N6 ap6
  rw [← t2] at F6
  walk_at "gor"
  k_dflt (refine' set_C (V := W1) (R := (G1 ++ R)) (k := .i 0) ?B ?F ?X ?N ap6 ?T ?hk ?d ?u t1 (by omega) (hh.mono fun p hp => List.mem_append_right _ hp) rfl trivial ?kb rfl rfl ?_; (case N => k_asm); (case kb => (show _ ≤ (67108864 : Int); omega)); (case B => k_asm); (case F => k_asm); (case X => k_asm); (case T => k_asm); (case hk => exact rfl); (case d => walk_at "dep"); (case u => walk_at "dep"))
  intro h7 tk7 W2 G2 u1 u2 u3 F7 N7 ap7
  rw [← List.append_assoc G2 G1 R] at N7 ap7
  have u1' := u1.le (c' := c + 2) (by omega)
  walk_at "gor"
  all_goals (rename Fr _ _ _ _ => FZ; rename News _ _ _ _ => NZ; exact hret _ _ _ (G2 ++ G1) u1' (u2.trans t2) (u3.trans t3) FZ NZ ap7)
end
end Mine
end
section
open PySem PySem.W PySem.Spec PySem.Calls PyProof.Rows
open PyProof.Rows
namespace Mine
theorem wdE1_0 : True := by
  k_with_none
  k_with "k_room" => ((try dsimp only [Ax]); ktr_room)
  k_with "k_units" => ((try dsimp only [Ax]); ktr_units)
  k_with "ent" => (intro _ _ _ _ _ _ _ _ _; (try k_fold); (refine foldA ?_; intro Ax); (conv in execs _ _ => arg 1; whnf))
  k_with "dep" => ((try dsimp only [ktrTop, Around.deeper, Around.in1, Around.under]); (first | (refine' room2 ?zqhR ?zqcR; (case zqhR => assumption); (case zqcR => exact Nat.le_of_ble_eq_true rfl)) | (refine' room0 ?zqhR; (case zqhR => assumption)) | (refine' room1 ?zqhR ?zqcR; (case zqhR => assumption); (case zqcR => exact Nat.le_of_ble_eq_true rfl)) | (refine' room3 ?zqhR ?zqcR; (case zqhR => assumption); (case zqcR => exact Nat.le_of_ble_eq_true rfl)) | omega))
  k_with "news" => first | assumption | exact news_tl0 (by assumption) | exact news_tl0 (news_tl0 (by assumption)) | exact news_tl0 (news_tl0 (news_tl0 (by assumption)))
  k_with "dec" => first | ((try simp only [beq_iff_eq, bne_iff_ne, decide_eq_true_eq, decide_eq_false_iff_not, Bool.and_eq_true, Bool.not_eq_true', Bool.not_eq_true, beq_eq_false_iff_ne, ne_eq]) <;> omega) | (simp; done)
  k_with "ite" => (k_here; k_openite; (first | refine ite_pos (by walk_at "dec") ?_ | refine ite_neg (by walk_at "dec") ?_))
  k_with "go" => repeat' ((fail_if_success (with_reducible show wpAny _ _ (exec (Stmt.While _ _ _ _) _) _ _ _)); (fail_if_success (with_reducible show wpAny _ _ (exec (Stmt.For _ _ _ _ _) _) _ _ _)); (fail_if_success (with_reducible show WhileStep2 _ _ _ _ _ _ Flow.next _)); (fail_if_success (with_reducible show WhileStep2 _ _ _ _ _ _ Flow.cont _)); (first | (k_unfold; (try dsimp only)) | (k_end; wrow_close) | ((first | (with_reducible show wpAny _ _ (exec _ _) _ _ _) | (with_reducible show wpAny _ _ (execs _ _) _ _ _)); k_fold; (try (refine foldS ?_; intro Sx))) | walk1 | (dsimp only; walk1) | (leave1; walk_say "STEP leave1"; try dsimp only)))
  k_with "subscriptTail" => (k_here; (with_reducible show wpAny _ _ (subscriptTail _ _ (Value.bytes _ _) (Value.int _ _)) _ _ _); k_dflt (refine' item_by ?zqf ?zqa ?zqb ?_ ?zqhs ?zqht; (case zqf => first | assumption | omega); (case zqa => first | assumption | omega); (case zqb => first | assumption | omega); (case zqhs => with_unfolding_all rfl); (case zqht => (intro _; with_unfolding_all rfl)); k_whole); intro _ _)
  k_with "subscriptTail" => (k_here; (with_reducible show wpAny _ _ (subscriptTail _ _ (Value.ref _) (Value.int _ _)) _ _ _); k_dflt (refine' item_led ?zqN ?zqm ?zqa ?zqb ?zqx ?_ ?zqhs; (case zqN => k_asm); (case zqm => k_mem); (case zqa => first | assumption | omega); (case zqb => first | assumption | omega); (case zqx => first | assumption | walk_at "item"); (case zqhs => with_unfolding_all rfl); k_whole))
  k_with "WhileStep2" => (dsimp only [WhileStep2])
  k_with "lenk" => first | assumption | exact refsN_len _ | exact rfl
  k_with "call builtin:len" => (k_here; (with_reducible show wpAny _ _ (call (Value.builtin "len") [Value.ref _]) _ _ _); k_dflt (refine' len_led ?zqN ?zqm ?zqk ?zqf ?_; (case zqN => k_asm); (case zqm => k_mem); (case zqk => walk_at "lenk"); (case zqf => first | assumption | omega); k_whole); intro _ _)
  k_with "binaryOp Mod int int" => (k_here; k_dflt (refine' mod_int' (by assumption) ?_; k_whole))
  k_with "item" => exact refsN_get (by assumption)
  k_with "k_handed" => assumption
  k_with "compareOp Is none" => (k_here; first | refine is_none_ne (by assumption) ?_ | refine is_none_eq (by assumption) ?_)
  k_with "compareOp IsNot none" => (k_here; first | refine isnot_none_ne (by assumption) ?_ | refine isnot_none_eq (by assumption) ?_)
  k_with "k_all" => assumption
  k_with "setItem ref int" => (k_here; (with_reducible show wpAny _ _ (setItem (Value.ref _) (Value.int _ _) _) _ _ _); k_dflt (refine' set_led ?zqF ?zqN ?zqU ?zqa ?zqb ?zqc ?_; (case zqF => k_asm); (case zqN => k_asm); (case zqU => k_upd); (case zqa => first | assumption | omega); (case zqb => first | assumption | omega); (case zqc => first | assumption | omega); k_whole); intro _ _ _; (try k_sweep))
  k_with "getItem ref int" => (k_here; (with_reducible show wpAny _ _ (getItem (Value.ref _) (Value.int _ _)) _ _ _); k_dflt (refine' get_led ?zqN ?zqm ?zqa ?zqb ?zqx ?_; (case zqN => k_asm); (case zqm => k_mem); (case zqa => first | assumption | omega); (case zqb => first | assumption | omega); (case zqx => first | assumption | walk_at "item"); k_whole))
  trivial
theorem wdE1_1 : True := by
  k_with "one" => (first | (k_unfold; (try dsimp only)) | (k_end; wrow_close) | ((first | (with_reducible show wpAny _ _ (exec _ _) _ _ _) | (with_reducible show wpAny _ _ (execs _ _) _ _ _)); k_fold; (try (refine foldS ?_; intro Sx))) | walk1 | (dsimp only; walk1) | (leave1; walk_say "STEP leave1"; try dsimp only))
  k_with "gor" => repeat' ((fail_if_success (with_reducible show wpAny _ _ (call (Value.ref 459) _) _ _ _)); (fail_if_success (with_reducible show wpAny _ _ (call (Value.ref 330) _) _ _ _)); (fail_if_success (with_reducible show WhileStep2 _ _ _ _ _ _ Flow.next _)); (fail_if_success (with_reducible show WhileStep2 _ _ _ _ _ _ Flow.cont _)); (first | (k_unfold; (try dsimp only)) | (k_end; wrow_close) | ((first | (with_reducible show wpAny _ _ (exec _ _) _ _ _) | (with_reducible show wpAny _ _ (execs _ _) _ _ _)); k_fold; (try (refine foldS ?_; intro Sx))) | walk1 | (dsimp only; walk1) | (leave1; walk_say "STEP leave1"; try dsimp only)))
  trivial
section
variable {prog : Program} {w : World} {p : Program} {loose : List Str} {mean : ExcName → Option Value} {mg mb : Str → Option Value}
  {dp un : Nat} {gd : Option (List Code)} {cn : Str} {cs : Scope} {a : Addr} {ccd : Value} {cl : List (Str × Addr)} {outer : List Env} {A₀ : Around} {base h₀ : Heap} {L : Addr} {m : Str → Option Value} {news : List (Addr × Obj)} {s : Shared} {E : Value → Shared → Prop} {Q : Value → Shared → Prop}
  (B : Below A₀ base outer h₀) (F : Fr h₀ L s.heap m) (X : (KK w.params).In h₀) {x d : Addr} (N : News h₀ L s.heap ((x, instObj C_Table d) :: (d, dictOf [] 0) :: news)) (l1 : AllLt d news) (l2 : @LT.lt Nat _ d x) (T : Top p loose mean mg mb h₀) (hk : cs.kind = .function)
include B F X N l1 l2 T hk
set_option maxHeartbeats 4000000
theorem heapobj_init_C {v1 v2 : Value} (hd : dp + 10 < recursionLimit) (hu : un + 60 < cLine)
    (hret : ∀ h' tk' k0 k1 k2 tm, Fr h₀ L h' m → News h₀ L h' ((x, instObj C_Table d) :: (d, dictOf [en w.params "number" k0 v1, en w.params "mark" k1 (.int 0 tm), en w.params "size" k2 v2] 3) :: news) → Q .none { s with heap := h', toks := tk' }) :
    wpAny (model prog w) (ktrTop dp un gd cn cs L a ccd cl outer) (call (.ref F_HeapObject___init__) [.ref x, v1, v2]) Q E s := by
  refine en_HeapObject___init__ B F X N T hk (by first | exact room0 hd | omega) ?_
  walk_at "ent"
  walk_at "gor"
  all_goals (rename Fr _ _ _ _ => FZ; rename News _ _ _ _ => NZ; exact hret _ _ _ _ _ _ FZ NZ)
end
theorem wdE1_2 : True := by
  k_with "call ref" => (k_here; k_dflt (refine' heapobj_init_C ?zqB ?zqF ?zqX ?zqN ?zqe0 ?zqe1 ?zqT ?zqhk ?zqd ?zqu ?_; (case zqB => k_asm); (case zqF => k_asm); (case zqX => k_asm); (case zqN => k_asm); (case zqT => k_asm); (case zqhk => first | assumption | exact rfl); (case zqd => walk_at "dep"); (case zqu => walk_at "dep"); (case zqe0 => assumption); (case zqe1 => assumption); k_whole); intro _ _ _ _ _ _ _ _;  (try k_sweep))
  trivial
/-- a table as __init__ leaves it -/
structure Blank (V : Tab) : Prop where
  ar : V.arr = []
  nd : V.nds = []
  fr : V.free = 0
theorem mkTab {P : Params} {h₀ h : Heap} {L ln la x d : Addr} {el ea : Nat} {k0 k1 k2 k3 k4 k5 k6 k7 k8 k9 : Tok} {num mark size mta flags weak log : Value} {tf : Tok} {R : List (Addr × Obj)}
    (N : News h₀ L h ((ln, listOf #[] el) :: (la, listOf #[] ea) :: (x, instObj C_Table d) :: (d, dictOf [en P "number" k0 num, en P "mark" k1 mark, en P "size" k2 size, en P "meta" k3 mta, en P "flags" k4 flags, en P "weak" k5 weak, en P "array" k6 (.ref la), en P "nodes" k7 (.ref ln), en P "log_nodes" k8 log, en P "free" k9 (.int 0 tf)] 10) :: R))
    (h1 : AllLt d R) (h2 : d < x) (h3 : x < la) (h4 : la < ln) (ap : Apart R) :
    ∃ V, Blank V ∧ V.t = x ∧ News h₀ L h (tl P V ++ R) ∧ Apart (tl P V ++ R) := by
  refine ⟨⟨x, d, la, ln, fun | 0 => k0 | 1 => k1 | 2 => k2 | 3 => k3 | 4 => k4 | 5 => k5 | 6 => k6 | 7 => k7 | 8 => k8 | _ => k9, num, mark, size, mta, flags, weak, log, 0, tf, [], ea, [], el⟩, ⟨rfl, rfl, rfl⟩, rfl, fun p hp => N p ?_, ?_⟩
  · rcases List.mem_cons.mp hp with rfl | hp
    · exact .tail _ (.tail _ (.head _))
    rcases List.mem_cons.mp hp with rfl | hp
    · exact .tail _ (.tail _ (.tail _ (.head _)))
    rcases List.mem_cons.mp hp with rfl | hp
    · exact .tail _ (.head _)
    rcases List.mem_cons.mp hp with rfl | hp
    · exact .head _
    exact .tail _ (.tail _ (.tail _ (.tail _ hp)))
  · have m := allLt_mem h1
    refine List.nodup_cons.mpr ⟨fun hm => ?_, List.nodup_cons.mpr ⟨fun hm => ?_, List.nodup_cons.mpr ⟨fun hm => ?_, List.nodup_cons.mpr ⟨fun hm => ?_, ap⟩⟩⟩⟩
    · have hm : x ∈ d :: la :: ln :: R.map (·.1) := hm
      simp only [List.mem_cons, List.mem_map] at hm
      rcases hm with e | e | e | ⟨p, hp, e⟩
      · exact absurd h2 (by rw [e]; exact Nat.lt_irrefl _)
      · exact absurd h3 (by rw [e]; exact Nat.lt_irrefl _)
      · exact absurd (Nat.lt_trans h3 h4) (by rw [e]; exact Nat.lt_irrefl _)
      · exact absurd (Nat.lt_trans (m p hp) h2) (by rw [e]; exact Nat.lt_irrefl _)
    · have hm : d ∈ la :: ln :: R.map (·.1) := hm
      simp only [List.mem_cons, List.mem_map] at hm
      rcases hm with e | e | ⟨p, hp, e⟩
      · exact absurd (Nat.lt_trans h2 h3) (by rw [e]; exact Nat.lt_irrefl _)
      · exact absurd (Nat.lt_trans (Nat.lt_trans h2 h3) h4) (by rw [e]; exact Nat.lt_irrefl _)
      · exact absurd (m p hp) (by rw [e]; exact Nat.lt_irrefl _)
    · have hm : la ∈ ln :: R.map (·.1) := hm
      simp only [List.mem_cons, List.mem_map] at hm
      rcases hm with e | ⟨p, hp, e⟩
      · exact absurd h4 (by rw [e]; exact Nat.lt_irrefl _)
      · exact absurd (Nat.lt_trans (m p hp) (Nat.lt_trans h2 h3)) (by rw [e]; exact Nat.lt_irrefl _)
    · have hm : ln ∈ R.map (·.1) := hm
      simp only [List.mem_map] at hm
      obtain ⟨p, hp, e⟩ := hm
      exact absurd (Nat.lt_trans (m p hp) (Nat.lt_trans h2 (Nat.lt_trans h3 h4))) (by rw [e]; exact Nat.lt_irrefl _)
section
variable {prog : Program} {w : World} {p : Program} {loose : List Str} {mean : ExcName → Option Value} {mg mb : Str → Option Value}
  {dp un : Nat} {gd : Option (List Code)} {cn : Str} {cs : Scope} {a : Addr} {ccd : Value} {cl : List (Str × Addr)} {outer : List Env} {A₀ : Around} {base h₀ : Heap} {L : Addr} {m : Str → Option Value} {news : List (Addr × Obj)} {s : Shared} {E : Value → Shared → Prop} {Q : Value → Shared → Prop}
  (B : Below A₀ base outer h₀) (F : Fr h₀ L s.heap m) (X : (KK w.params).In h₀) (N : News h₀ L s.heap news) (T : Top p loose mean mg mb h₀) (hk : cs.kind = .function)
include B F X N T hk
set_option maxHeartbeats 4000000
theorem table_new_C (hd : dp + 30 < recursionLimit) (hu : un + 200 < cLine) (ap : Apart news)
    (hret : ∀ h' tk' V, Blank V → Fr h₀ L h' m → News h₀ L h' (tl w.params V ++ news) → Apart (tl w.params V ++ news) → Q (.ref V.t) { s with heap := h', toks := tk' }) :
    wpAny (model prog w) (ktrTop dp un gd cn cs L a ccd cl outer) (call (.ref C_Table) []) Q E s := by
  refine call_cls F X N (by k_is) (by k_is) (by k_is) ?_
  intro x d h1 F1 N1 l1 l2
  replace l1 := allLt_of l1
  k_lt2 l2
  refine code_def (binds := [(Str.ofString "self", .ref x), (Str.ofString "number", .int 0 488), (Str.ofString "array_size", .int 0 489), (Str.ofString "hash_size", .int 0 490)]) B F1 X N1 T rfl rfl hk (by k_is) (by k_is) ?_ (by exact binds_K (by k_in) rfl (by k_is) rfl rfl rfl) (locs rfl) ?_ rfl rfl rfl (by decide)
  · k_room
  walk_at "ent"
  walk_at "gor"
  rename News _ _ _ _ => NZ
  rename Fr _ _ _ _ => FZ
  rename @LT.lt Nat _ _ _ ∧ @LT.lt Nat _ _ _ ∧ @LT.lt Nat _ _ _ ∧ AllLt _ _ => z2
  rename @LT.lt Nat _ _ _ ∧ @LT.lt Nat _ _ _ ∧ AllLt _ _ => z1
  obtain ⟨V, v1, v2, v3, v4⟩ := mkTab NZ l1 l2 z1.1 z2.1 ap
  rw [← v2]
  exact hret _ _ V v1 FZ v3 v4
end
end Mine
end
section
open PySem PySem.W PySem.Spec PySem.Calls PyProof.Rows
open PyProof.Rows
namespace Mine
theorem wdE2_0 : True := by
  k_with "has" => first | assumption | exact has_tl (by assumption) | exact has_tl (has_tl (by assumption))
  k_with "has" => exact has_app
  k_with "k_mem" => first | exact List.mem_append_left _ mem_t | exact List.mem_append_left _ mem_td | exact List.mem_append_left _ mem_la | exact List.mem_append_left _ mem_ln | exact List.mem_append_left _ (mem_nx (by assumption)) | exact List.mem_append_left _ (mem_nd (by assumption)) | exact List.mem_append_right _ (by assumption)
  k_with "apart" => first | assumption | exact apart_same (by assumption) rfl
  k_with "setAttr ref" => (k_here; k_dflt (first | ((with_reducible show wpAny _ _ (setAttr (Value.ref _) (Str.ofString "free") _) _ _ _); refine' set_free ?zqF ?zqX ?zqN ?zqap ?zqhx ?_; (case zqF => k_asm); (case zqX => k_asm); (case zqN => k_asm); (case zqap => walk_at "apart"); (case zqhx => exact rfl); k_whole; intro _ _ _ _) | ((with_reducible show wpAny _ _ (setAttr (Value.ref _) (Str.ofString "flags") _) _ _ _); refine' set_flags ?zqF ?zqX ?zqN ?zqap ?zqhx ?_; (case zqF => k_asm); (case zqX => k_asm); (case zqN => k_asm); (case zqap => walk_at "apart"); (case zqhx => exact rfl); k_whole; intro _ _ _ _) | ((with_reducible show wpAny _ _ (setAttr (Value.ref _) (Str.ofString "log_nodes") _) _ _ _); refine' set_log_nodes ?zqF ?zqX ?zqN ?zqap ?zqhx ?_; (case zqF => k_asm); (case zqX => k_asm); (case zqN => k_asm); (case zqap => walk_at "apart"); (case zqhx => exact rfl); k_whole; intro _ _ _ _) | ((with_reducible show wpAny _ _ (setAttr (Value.ref _) (Str.ofString "size") _) _ _ _); refine' set_size ?zqF ?zqX ?zqN ?zqap ?zqhx ?_; (case zqF => k_asm); (case zqX => k_asm); (case zqN => k_asm); (case zqap => walk_at "apart"); (case zqhx => exact rfl); k_whole; intro _ _ _ _) | ((with_reducible show wpAny _ _ (setAttr (Value.ref _) (Str.ofString "number") _) _ _ _); refine' set_number ?zqF ?zqX ?zqN ?zqap ?zqhx ?_; (case zqF => k_asm); (case zqX => k_asm); (case zqN => k_asm); (case zqap => walk_at "apart"); (case zqhx => exact rfl); k_whole; intro _ _ _ _) | ((with_reducible show wpAny _ _ (setAttr (Value.ref _) (Str.ofString "key") _) _ _ _); refine' set_key ?zqF ?zqX ?zqN ?zqap ?zqe ?zqhx ?_; (case zqF => k_asm); (case zqX => k_asm); (case zqN => k_asm); (case zqap => walk_at "apart"); (case zqhx => exact rfl); (case zqe => assumption); k_whole; intro _ _ _ _ _ _) | ((with_reducible show wpAny _ _ (setAttr (Value.ref _) (Str.ofString "value") _) _ _ _); refine' set_value ?zqF ?zqX ?zqN ?zqap ?zqe ?zqhx ?_; (case zqF => k_asm); (case zqX => k_asm); (case zqN => k_asm); (case zqap => walk_at "apart"); (case zqhx => exact rfl); (case zqe => assumption); k_whole; intro _ _ _ _ _ _) | ((with_reducible show wpAny _ _ (setAttr (Value.ref _) (Str.ofString "next") _) _ _ _); refine' set_next ?zqF ?zqX ?zqN ?zqap ?zqe ?zqhx ?_; (case zqF => k_asm); (case zqX => k_asm); (case zqN => k_asm); (case zqap => walk_at "apart"); (case zqhx => exact rfl); (case zqe => assumption); k_whole; intro _ _ _ _ _ _)); (try k_sweep))
  trivial
theorem wdE2_1 : True := by
  k_with "gos9" => repeat' ((fail_if_success (with_reducible show wpAny _ _ (setAttr (Value.ref _) _ _) _ _ _)); (fail_if_success (with_reducible show WhileStep2 _ _ _ _ _ _ Flow.next _)); (fail_if_success (with_reducible show WhileStep2 _ _ _ _ _ _ Flow.cont _)); (first | (k_unfold; (try dsimp only)) | (k_end; wrow_close) | ((first | (with_reducible show wpAny _ _ (exec _ _) _ _ _) | (with_reducible show wpAny _ _ (execs _ _) _ _ _)); k_fold; (try (refine foldS ?_; intro Sx))) | walk1 | (dsimp only; walk1) | (leave1; walk_say "STEP leave1"; try dsimp only)))
  k_with "gor" => repeat' ((fail_if_success (with_reducible show wpAny _ _ (exec (Stmt.While _ _ _ _) _) _ _ _)); (fail_if_success (with_reducible show wpAny _ _ (exec (Stmt.For _ _ _ _ _) _) _ _ _)); (fail_if_success (with_reducible show wpAny _ _ (setAttr (Value.ref _) (Str.ofString "array") _) _ _ _)); (fail_if_success (with_reducible show wpAny _ _ (setAttr (Value.ref _) (Str.ofString "nodes") _) _ _ _)); (fail_if_success (with_reducible show wpAny _ _ (pyIter (Value.ref _)) _ _ _)); (fail_if_success (with_reducible show wpAny _ _ (call (Value.type "enumerate") _) _ _ _)); (fail_if_success (with_reducible show wpAny _ _ (call (Value.ref 342) _) _ _ _)); (fail_if_success (with_reducible show wpAny _ _ (call (Value.ref 356) _) _ _ _)); (fail_if_success (with_reducible show WhileStep2 _ _ _ _ _ _ Flow.next _)); (fail_if_success (with_reducible show WhileStep2 _ _ _ _ _ _ Flow.cont _)); (first | (k_unfold; (try dsimp only)) | (k_end; wrow_close) | ((first | (with_reducible show wpAny _ _ (exec _ _) _ _ _) | (with_reducible show wpAny _ _ (execs _ _) _ _ _)); k_fold; (try (refine foldS ?_; intro Sx))) | walk1 | (dsimp only; walk1) | (leave1; walk_say "STEP leave1"; try dsimp only)))
  k_with "gon" => repeat' ((fail_if_success (with_reducible show wpAny _ _ (call (Value.ref 408) _) _ _ _)); (fail_if_success (with_reducible show wpAny _ _ (call (Value.ref 459) _) _ _ _)); (fail_if_success (with_reducible show wpAny _ _ (call (Value.ref 330) _) _ _ _)); (fail_if_success (with_reducible show WhileStep2 _ _ _ _ _ _ Flow.next _)); (fail_if_success (with_reducible show WhileStep2 _ _ _ _ _ _ Flow.cont _)); (first | (k_unfold; (try dsimp only)) | (k_end; wrow_close) | ((first | (with_reducible show wpAny _ _ (exec _ _) _ _ _) | (with_reducible show wpAny _ _ (execs _ _) _ _ _)); k_fold; (try (refine foldS ?_; intro Sx))) | walk1 | (dsimp only; walk1) | (leave1; walk_say "STEP leave1"; try dsimp only)))
  trivial
/-- the plain heap, as the ledger bears it -/
structure Hp where
  hp : Addr
  hq : Addr
  kt : Nat → Tok
  n : Int
  tn : Tok
  tot : Int
  tt : Tok
noncomputable def hpD (P : Params) (H : Hp) : Obj := dictOf [en P "last_number" (H.kt 0) (.int H.n H.tn), en P "total" (H.kt 1) (.int H.tot H.tt)] 2
noncomputable def hpE (P : Params) (H : Hp) : List (Addr × Obj) := [(H.hp, instObj C_PlainHeap H.hq), (H.hq, hpD P H)]
noncomputable def Hp.wN (H : Hp) (n : Int) (t : Tok) : Hp := { H with n := n, tn := t }
noncomputable def Hp.wT (H : Hp) (n : Int) (t : Tok) : Hp := { H with tot := n, tt := t }
theorem Hp.heapIn {P : Params} {H : Hp} {R : List (Addr × Obj)} (h : ∀ p ∈ hpE P H, p ∈ R) : HeapIn P H.hp R :=
  ⟨H.hq, _, _, _, _, h _ (.head _), h _ (.tail _ (.head _))⟩
theorem upd_mid2 {a : Addr × Obj} {d : Addr} {o o' : Obj} {R : List (Addr × Obj)} : ∀ {X : List (Addr × Obj)}, Apart (X ++ (a :: (d, o) :: R)) → Upd d o o' (X ++ (a :: (d, o) :: R)) (X ++ (a :: (d, o') :: R))
  | [], h => Upd.tail (fun q => h.ne (d, o) (.head _) q.symm) (Upd.head h.tl.ne)
  | p :: X, h => Upd.tail (fun q => h.ne (d, o) (List.mem_append_right _ (.tail _ (.head _))) q.symm) (upd_mid2 h.tl)
theorem apart_hp {P : Params} {H H' : Hp} {X R : List (Addr × Obj)} (h : Apart (X ++ (hpE P H ++ R))) (e1 : H'.hp = H.hp) (e2 : H'.hq = H.hq) : Apart (X ++ (hpE P H' ++ R)) :=
  h.of_ad (by simp [hpE, e1, e2])
section
variable {prog : Program} {w : World} {A : Around} {h₀ : Heap} {L x : Addr} {m : Str → Option Value} {s : Shared} {E : Value → Shared → Prop} {V : Tab} {H : Hp} {R : List (Addr × Obj)}
theorem hp_mem {P : Params} {X : List (Addr × Obj)} : (H.hp, instObj C_PlainHeap H.hq) ∈ X ++ (hpE P H ++ R) ∧ (H.hq, dictOf [en P "last_number" (H.kt 0) (.int H.n H.tn), en P "total" (H.kt 1) (.int H.tot H.tt)] 2) ∈ X ++ (hpE P H ++ R) :=
  ⟨List.mem_append_right _ (.head _), List.mem_append_right _ (.tail _ (.head _))⟩
theorem set_last {X₁ : List (Addr × Obj)} {n : Int} {t : Tok} {Q : Unit → Shared → Prop} (F : Fr h₀ L s.heap m) (X : (KK w.params).In h₀) (N : News h₀ L s.heap (X₁ ++ (hpE w.params H ++ R))) (ap : Apart (X₁ ++ (hpE w.params H ++ R))) (hx : x = H.hp)
    (h : ∀ h', Fr h₀ L h' m → News h₀ L h' (X₁ ++ (hpE w.params (H.wN n t) ++ R)) → Apart (X₁ ++ (hpE w.params (H.wN n t) ++ R)) → Q () { s with heap := h', toks := s.toks + 2 }) :
    wpAny (model prog w) A (setAttr (.ref x) "last_number" (.int n t)) Q E s := by
  subst hx
  exact set_dict F X N (InstAt.of_news N hp_mem.1 hp_mem.2) rfl (by k_is) (by k_is) (by k_is) (by k_is) rfl (es' := [en w.params "last_number" (H.kt 0) (.int n t), en w.params "total" (H.kt 1) (.int H.tot H.tt)]) (n' := 2) rfl (upd_mid2 ap) (Nat.le_of_ble_eq_true rfl) fun h' F' N' => h h' F' N' (apart_hp ap rfl rfl)
theorem set_total {X₁ : List (Addr × Obj)} {n : Int} {t : Tok} {Q : Unit → Shared → Prop} (F : Fr h₀ L s.heap m) (X : (KK w.params).In h₀) (N : News h₀ L s.heap (X₁ ++ (hpE w.params H ++ R))) (ap : Apart (X₁ ++ (hpE w.params H ++ R))) (hx : x = H.hp)
    (h : ∀ h', Fr h₀ L h' m → News h₀ L h' (X₁ ++ (hpE w.params (H.wT n t) ++ R)) → Apart (X₁ ++ (hpE w.params (H.wT n t) ++ R)) → Q () { s with heap := h', toks := s.toks + 2 }) :
    wpAny (model prog w) A (setAttr (.ref x) "total" (.int n t)) Q E s := by
  subst hx
  exact set_dict F X N (InstAt.of_news N hp_mem.1 hp_mem.2) rfl (by k_is) (by k_is) (by k_is) (by k_is) rfl (es' := [en w.params "last_number" (H.kt 0) (.int H.n H.tn), en w.params "total" (H.kt 1) (.int n t)]) (n' := 2) rfl (upd_mid2 ap) (Nat.le_of_ble_eq_true rfl) fun h' F' N' => h h' F' N' (apart_hp ap rfl rfl)
end
theorem wdE2_2 : True := by
  k_with "k_mem" => first | exact List.mem_append_left _ mem_t | exact List.mem_append_left _ mem_td | exact hp_mem.1 | exact hp_mem.2 | exact (hp_mem (H := Hp.wN _ _ _)).1 | exact (hp_mem (H := Hp.wN _ _ _)).2 | exact List.mem_append_right _ (by assumption) | assumption
  k_with "k_mem" => first | exact .tail _ (List.mem_append_left _ mem_la) | exact List.mem_append_left _ mem_la | exact .tail _ (List.mem_append_left _ mem_t) | exact .tail _ (List.mem_append_left _ mem_td) | exact List.mem_append_left _ mem_t | exact List.mem_append_left _ mem_td | exact hp_mem.1 | exact hp_mem.2 | exact (hp_mem (H := Hp.wN _ _ _)).1 | exact (hp_mem (H := Hp.wN _ _ _)).2 | assumption
  k_with "subscriptTail Name Slice ref ref" => (k_here; (with_reducible show wpAny _ _ (subscriptTail _ (PySem.Expr.Slice _ _ none _) (Value.ref _) (Value.ref _)) _ _ _); k_dflt (refine' kmk_slice_lit ?zqF ?zqN ?zql ?zqp ?zqq ?zqe ?_ ?zqs ?zqt ?zqz; (case zqF => k_asm); (case zqN => k_asm); (case zql => exact isList_led (by k_asm) (by k_mem)); (case zqp => kmk_part); (case zqq => kmk_part); (case zqe => first | exact pick_from _ (by omega) | exact pick_upto _ (by omega)); (case zqs => with_unfolding_all rfl); (case zqt => kmk_pure); (case zqz => (rw [List.size_toArray, sizeLine_eq]; omega))); intro _ _ _ _ _; (try k_sweep))
  trivial
section
variable {prog : Program} {w : World} {p : Program} {loose : List Str} {mean : ExcName → Option Value} {mg mb : Str → Option Value}
  {dp un : Nat} {gd : Option (List Code)} {cn : Str} {cs : Scope} {a : Addr} {ccd : Value} {cl : List (Str × Addr)} {outer : List Env} {A₀ : Around} {base h₀ : Heap} {L : Addr} {m : Str → Option Value} {s : Shared} {E : Value → Shared → Prop} {Q : Value → Shared → Prop}
  (B : Below A₀ base outer h₀) (F : Fr h₀ L s.heap m) (X : (KK w.params).In h₀) {V : Tab} {H : Hp} {R : List (Addr × Obj)} (N : News h₀ L s.heap (tl w.params V ++ (hpE w.params H ++ R))) (ap : Apart (tl w.params V ++ (hpE w.params H ++ R))) (T : Top p loose mean mg mb h₀) (hk : cs.kind = .function)
include B F X N ap T hk
set_option maxHeartbeats 4000000
theorem link_C {t : Tok} (hd : dp + 10 < recursionLimit) (hu : un + 60 < cLine)
    (hret : ∀ h' tk' t1 t2 v2, Fr h₀ L h' m → News h₀ L h' (tl w.params ((V.wNum (.int (H.n + 1) t1)).wSize v2) ++ (hpE w.params ((H.wN (H.n + 1) t1).wT (H.tot + 1) t2) ++ R)) → Apart (tl w.params ((V.wNum (.int (H.n + 1) t1)).wSize v2) ++ (hpE w.params ((H.wN (H.n + 1) t1).wT (H.tot + 1) t2) ++ R)) → Q .none { s with heap := h', toks := tk' }) :
    wpAny (model prog w) (ktrTop dp un gd cn cs L a ccd cl outer) (call (.ref F_PlainHeap_link) [.ref H.hp, .ref V.t, .int 1 t]) Q E s := by
  refine en_PlainHeap_link B F X N T hk (by first | exact room0 hd | omega) ?_
  walk_at "ent"
  walk_at "gos9"
  refine set_last (X₁ := tl w.params V) (R := R) (by k_asm) (by k_asm) (by k_asm) ap rfl ?_
  intro h1 F1 N1 ap1
  walk_at "gos9"
  refine set_number (V := V) (by k_asm) (by k_asm) (by k_asm) ap1 rfl ?_
  intro h2 F2 N2 ap2
  walk_at "gos9"
  refine set_size (by k_asm) (by k_asm) N2 ap2 rfl ?_
  intro h3 F3 N3 ap3
  walk_at "gos9"
  refine set_total (R := R) (by k_asm) (by k_asm) N3 ap3 rfl ?_
  intro h4 F4 N4 ap4
  walk_at "gos9"
  rename Fr _ _ _ _ => FZ
  rename News _ _ _ _ => NZ
  exact hret _ _ _ _ _ FZ NZ ap4
end
theorem wdE2_3 : True := by
  k_with "call type:reversed" => (k_here; (with_reducible show wpAny _ _ (call (Value.type _) [Value.ref _]) _ _ _); k_dflt (refine' krv_reversed (vs := []) ?zqF ?zqN ?zql ?_; (case zqF => k_asm); (case zqN => k_asm); (case zql => exact isList_led (by k_asm) (by assumption))); intro _ _ _ _ _; (try k_sweep))
  k_with "k_mem" => first | exact .tail _ (List.mem_append_left _ mem_la) | exact List.mem_append_left _ mem_la | exact List.mem_append_left _ mem_ln | exact .tail _ (List.mem_append_left _ mem_t) | exact .tail _ (List.mem_append_left _ mem_td) | exact List.mem_append_left _ mem_t | exact List.mem_append_left _ mem_td | assumption
  trivial
section
variable {prog : Program} {w : World} {p : Program} {loose : List Str} {mean : ExcName → Option Value} {mg mb : Str → Option Value}
  {dp un : Nat} {gd : Option (List Code)} {cn : Str} {cs : Scope} {a : Addr} {ccd : Value} {cl : List (Str × Addr)} {outer : List Env} {A₀ : Around} {base h₀ : Heap} {L : Addr} {m : Str → Option Value} {s : Shared} {E : Value → Shared → Prop} {Q : Value → Shared → Prop}
  (B : Below A₀ base outer h₀) (F : Fr h₀ L s.heap m) (X : (KK w.params).In h₀) {V : Tab} {R : List (Addr × Obj)} (N : News h₀ L s.heap (tl w.params V ++ R)) (ap : Apart (tl w.params V ++ R)) (T : Top p loose mean mg mb h₀) (hk : cs.kind = .function)
include B F X N ap T hk
set_option maxHeartbeats 4000000
theorem weigh_none (hd : dp + 6 < recursionLimit) (hu : un + 50 < cLine) (h1 : V.arr.length = 0) (h2 : V.nds.length ≤ 1000000)
    (hret : ∀ h' tk' v, Fr h₀ L h' m → News h₀ L h' (tl w.params (V.wSize v) ++ R) → Apart (tl w.params (V.wSize v) ++ R) → Q .none { s with heap := h', toks := tk' }) :
    wpAny (model prog w) (ktrTop dp un gd cn cs L a ccd cl outer) (call (.ref F_Table_weigh) [.ref V.t, .none]) Q E s := by
  have h3 : V.arr.length ≤ 1000000 := by omega
  refine en_Table_weigh B F X N T hk (by first | exact room0 hd | omega) ?_
  walk_at "ent"
  walk_at "gor"
  rename Fr _ _ _ _ => FZ
  rename News _ _ _ _ => NZ
  rename Apart _ => AZ
  exact hret _ _ _ FZ NZ AZ
end
section
variable {prog : Program} {w : World} {p : Program} {loose : List Str} {mean : ExcName → Option Value} {mg mb : Str → Option Value}
  {dp un : Nat} {gd : Option (List Code)} {cn : Str} {cs : Scope} {a : Addr} {ccd : Value} {cl : List (Str × Addr)} {outer : List Env} {A₀ : Around} {base h₀ : Heap} {L : Addr} {m : Str → Option Value} {s : Shared} {E : Value → Shared → Prop} {Q : Value → Shared → Prop}
  (B : Below A₀ base outer h₀) (F : Fr h₀ L s.heap m) (X : (KK w.params).In h₀) {V : Tab} {R : List (Addr × Obj)} (N : News h₀ L s.heap (tl w.params V ++ R)) (ap : Apart (tl w.params V ++ R)) (T : Top p loose mean mg mb h₀) (hk : cs.kind = .function)
include B F X N ap T hk
set_option maxHeartbeats 4000000
theorem resize_blank {hs : Int} {t1 t2 : Tok} (hd : dp + 30 < recursionLimit) (hu : un + 220 < cLine) (hb : Blank V) (h0 : 0 < hs) (h2 : hs ≤ 1000)
    (hret : ∀ h' tk' W G, W.arr = [] → Fresh (2 ^ clog hs.toNat) W.nds → W.free = (W.nds.length : Int) → W.t = V.t → W.num = V.num → Fr h₀ L h' m → News h₀ L h' (tl w.params W ++ (G ++ R)) → Apart (tl w.params W ++ (G ++ R)) → Q .none { s with heap := h', toks := tk' }) :
    wpAny (model prog w) (ktrTop dp un gd cn cs L a ccd cl outer) (call (.ref F_Table_resize) [.ref V.t, .int 0 t1, .int hs t2]) Q E s := by
  have hba := hb.ar
  have hbn := hb.nd
  have hw : V.arr.length = 0 := by rw [hba]; rfl
  refine en_Table_resize3 B F X N T hk (by first | exact room0 hd | omega) ?_
  walk_at "ent"
  walk_at "gor"
  rename_i Dv h6 l1 h7 Da h8 F5 N5 l2
  have eT : List.take (0 : Int).toNat V.arr = [] := by rw [hba]; rfl
  have eD : List.drop (0 : Int).toNat V.arr = [] := by rw [hba]; rfl
  rw [eD] at l2
  rw [eT, eD] at N5
  have N6 : News _ _ _ (tl w.params V ++ ((Da, listOf ([] : List Value).toArray 0) :: (Dv, listOf ([] : List Value).toArray 0) :: R)) := fun p hp => N5 p (by
    rcases List.mem_append.mp hp with hp | hp
    · exact .tail _ (.tail _ (List.mem_append_left _ hp))
    · rcases List.mem_cons.mp hp with rfl | hp
      · exact .head _
      · rcases List.mem_cons.mp hp with rfl | hp
        · exact .tail _ (.head _)
        · exact .tail _ (.tail _ (List.mem_append_right _ hp)))
  have ap5 : Apart (tl w.params V ++ ((Dv, listOf ([] : List Value).toArray 0) :: R)) := ap_lt ap l1
  have ap6 : Apart (tl w.params V ++ ((Da, listOf ([] : List Value).toArray 0) :: (Dv, listOf ([] : List Value).toArray 0) :: R)) := ap_lt ap5 (lt_cons l2)
  clear N5 l2 l1
  refine set_array (by assumption) (by assumption) N6 ap6 rfl ?_
  clear N6 ap6
  intro h9 F9 N9 ap9
  obtain ⟨R1, hR1⟩ : ∃ R1, R1 = (V.la, listOf V.arr.toArray V.ea) :: (Dv, listOf ([] : List Value).toArray 0) :: R := ⟨_, rfl⟩
  obtain ⟨U, hU⟩ : ∃ U, U = V.wArr Da [] 0 := ⟨_, rfl⟩
  rw [← hR1, ← hU] at N9 ap9
  have u1 : U.arr = [] := by rw [hU]; rfl
  have u2 : V.t = U.t := by rw [hU]; rfl
  have u3 : U.arr.length = 0 := by rw [u1]; rfl
  have u4 : U.nds = [] := by rw [hU, ← hbn]; rfl
  have u5 : V.ln = U.ln := by rw [hU]; rfl
  have u6 : V.el = U.el := by rw [hU]; rfl
  have u7 : V.num = U.num := by rw [hU]; rfl
  rw [u2] at F9
  walk_at "gor"
  refine While_inv2 (fun k m₁ nx => nx = tl w.params U ++ R1 ∧ m₁ "self" = some (.ref U.t) ∧ m₁ "array_size" = some (.int 0 t1) ∧ m₁ "hash_size" = some (.int hs t2) ∧ m₁ "heap" = some .none ∧ m₁ "old_nodes" = some (.ref V.ln) ∧ m₁ "vanishing" = some (.ref Dv)) (n₀ := 0) (by assumption) (by assumption) ?_ ?_
  · exact ⟨rfl, rfl, rfl, rfl, rfl, rfl, rfl⟩
  rintro k m₁ nx h₁ tk₁ F₁ N₁ hJJ 
  (try k_fold)
  obtain ⟨rfl, e1, e2, e3, e4, e5, e6⟩ := hJJ
  rw [map6 e1 e2 e3 e4 e5 e6] at F₁
  walk_at "gor"
  k_dflt (refine' make_nodes_C (V := U) (R := R1) ?B ?F ?X ?N ap9 ?T ?hk ?d ?u h2 rfl ?_; (case N => k_asm); (case B => k_asm); (case F => k_asm); (case X => k_asm); (case T => k_asm); (case hk => exact rfl); (case d => walk_at "dep"); (case u => walk_at "dep"))
  intro h10 tk10 D ns e2' v t3 hf F10 N10 ap10
  rw [if_pos h0] at hf
  obtain ⟨R2, hR2⟩ : ∃ R2, R2 = nlE w.params U.ln U.nds U.el ++ R1 := ⟨_, rfl⟩
  obtain ⟨W0, hW0⟩ : ∃ W0, W0 = ((U.wNodes D ns e2').wLog v).wFree ns.length t3 := ⟨_, rfl⟩
  rw [← hR2, ← hW0] at N10 ap10
  have w1 : W0.arr = [] := by rw [hW0, ← u1]; rfl
  have w2 : W0.nds = ns := by rw [hW0]; rfl
  have w3 : W0.free = (ns.length : Int) := by rw [hW0]; rfl
  have w4 : U.t = W0.t := by rw [hW0]; rfl
  have w5 : W0.num = V.num := by rw [hW0, u7]; rfl
  have hmv : (Dv, listOf ([] : List Value).toArray 0) ∈ tl w.params W0 ++ R2 := by rw [hR2, hR1]; exact List.mem_append_right _ (List.mem_append_right _ (.tail _ (.head _)))
  have hmo : (V.ln, listOf ([] : List Value).toArray V.el) ∈ tl w.params W0 ++ R2 := by rw [hR2, u5, u6, u4]; exact List.mem_append_right _ (.head _)
  have hG : ∃ G, R2 = G ++ R := ⟨nlE w.params U.ln U.nds U.el ++ [(V.la, listOf V.arr.toArray V.ea), (Dv, listOf ([] : List Value).toArray 0)], by rw [hR2, hR1, List.append_assoc]; rfl⟩
  have hwn : W0.nds.length ≤ 1000000 := by
    rw [w2, hf.1]
    have hcl : clog hs.toNat ≤ 10 := (clog_le_iff (by omega)).mpr (by omega)
    have : 2 ^ clog hs.toNat ≤ 2 ^ 10 := Nat.pow_le_pow_right (n := 2) (by decide) hcl
    omega
  have hwa : W0.arr.length = 0 := by rw [w1]; rfl
  clear hW0 hU hR2 hR1
  rw [w4] at F10
  walk_at "gor"
  refine For_turns (by assumption) ?_
  walk_at "gor"
  refine enum_J (vs := []) (n := 0) (fun i m₁ nx => nx = tl w.params W0 ++ R2 ∧ m₁ "self" = some (.ref W0.t) ∧ m₁ "heap" = some .none ∧ m₁ "old_nodes" = some (.ref V.ln)) rfl (by assumption) (by assumption) hmv rfl rfl ?_ ?_ ?_
  · exact ⟨rfl, rfl, rfl, rfl⟩
  · rintro I i v m₁ nx iE iL T t h tk hv
    simp at hv
  rintro h tk m₁ nx hJJ F₁ N₁
  (try k_fold)
  obtain ⟨rfl, e1, e4, e5⟩ := hJJ
  rw [map3 e1 e4 e5] at F₁
  refine foldM F₁ ?_; clear F₁; intro Mx2 F₁
  walk_at "gor"
  refine For_invVF (by assumption) rfl rfl ?_
  walk_at "gor"
  rename_i D7 h7 F7 N7 l7
  refine iter_revJ (vs := []) (fun j m₁ nx => nx = tl w.params W0 ++ R2 ∧ m₁ "self" = some (.ref W0.t) ∧ m₁ "heap" = some .none) rfl F7 N7 (fun p hp => Nat.ne_of_lt (l7 p hp)) hmo rfl rfl ?_ ?_ ?_
  · exact ⟨rfl, rfl, rfl⟩
  · rintro i v m₁ nx it h tk hv
    simp at hv
  rintro h tk m₁ nx hJJ F₁ N₁
  (try k_fold)
  obtain ⟨rfl, e1, e4⟩ := hJJ
  rw [map2 e1 e4] at F₁
  refine foldM F₁ ?_; clear F₁; intro Mx3 F₁
  obtain ⟨G, hG⟩ := hG
  walk_at "gor"
  k_dflt (refine' weigh_none (V := W0) (R := R2) ?B ?F ?X ?N ap10 ?T ?hk ?d ?u hwa hwn ?_; (case N => k_asm); (case B => k_asm); (case F => k_asm); (case X => k_asm); (case T => k_asm); (case hk => exact rfl); (case d => walk_at "dep"); (case u => walk_at "dep"))
  intro h12 tk12 v12 F12 N12 ap12
  rw [hG] at N12 ap12
  walk_at "gor"
  rename Fr _ _ _ _ => FZ
  rename News _ _ _ _ => NZ
  exact hret _ _ (W0.wSize v12) G w1 (by show Fresh _ W0.nds; rw [w2]; exact hf) (by show W0.free = (W0.nds.length : Int); rw [w3, w2]) (w4.symm.trans u2.symm) w5 FZ NZ ap12
end
end Mine
end
section
open PySem PySem.W PySem.Spec PySem.Calls PyProof.Rows
open PyProof.Rows
namespace Mine
theorem wdE3_0 : True := by
  k_with "has" => first | assumption | exact has_tl (by assumption) | exact has_tl (has_tl (by assumption))
  trivial
theorem TT.fresh {W : Tab} {N : Nat} {c : Int} (h1 : W.arr = []) (h2 : Fresh N W.nds) (h3 : W.free = (W.nds.length : Int)) (h0 : 0 ≤ c) (hN : (N : Int) ≤ 2 * (c + 1)) (hN2 : N ≤ 1000000) : TT W (fun _ => .none) c := by
  have hl : W.arr.length = 0 := by rw [h1]; rfl
  refine ⟨⟨by rw [h3]; exact h2.inv0, ⟨by rw [h2.1]; exact hN2, by omega, h2.wf.1, h2.wf.2⟩, by rw [h3]; omega, fun nd hm k e => ?_⟩, fun k => ?_, fun _ => rfl, by rw [h2.nAll, h1]; show (0 : Int) + 0 ≤ c; omega, by rw [hl]; omega, by rw [h2.1]; exact hN⟩
  · have : kyOf nd.key = none := by rw [(h2.2 nd hm).1]; rfl
    rw [this] at e; cases e
  · refine .inr ⟨fun a => ?_, .inr ⟨fun i nd e e2 => ?_, rfl⟩⟩
    · cases k with
      | i n =>
        have a' : 1 ≤ n ∧ n ≤ (W.arr.length : Int) := a
        omega
      | b x => exact a.elim
    · rw [(h2.at (i := i) e).1] at e2; cases e2
theorem fresh_nil : Fresh 0 [] := ⟨rfl, fun _ h => nomatch h⟩
theorem wdE3_2 : True := by
  k_with "k_mem" => first | exact .head _ | exact .tail _ (.head _) | exact List.mem_append_left _ mem_t | exact List.mem_append_left _ mem_td | exact hp_mem.1 | exact hp_mem.2 | exact (hp_mem (X := [])).1 | exact (hp_mem (X := [])).2 | assumption
  trivial
section
variable {prog : Program} {w : World} {p : Program} {loose : List Str} {mean : ExcName → Option Value} {mg mb : Str → Option Value}
  {dp un : Nat} {gd : Option (List Code)} {cn : Str} {cs : Scope} {a : Addr} {ccd : Value} {cl : List (Str × Addr)} {outer : List Env} {A₀ : Around} {base h₀ : Heap} {L : Addr} {m : Str → Option Value} {s : Shared} {E : Value → Shared → Prop} {Q : Value → Shared → Prop}
  (B : Below A₀ base outer h₀) (F : Fr h₀ L s.heap m) (X : (KK w.params).In h₀) {H : Hp} {R : List (Addr × Obj)} (N : News h₀ L s.heap (hpE w.params H ++ R)) (ap : Apart (hpE w.params H ++ R)) (T : Top p loose mean mg mb h₀) (hk : cs.kind = .function)
include B F X N ap T hk
set_option maxHeartbeats 4000000
theorem new_table_0 {t1 t2 : Tok} (hd : dp + 60 < recursionLimit) (hu : un + 400 < cLine)
    (hret : ∀ h' tk' V H' G t, TT V (fun _ => .none) 0 → V.num = .int (H.n + 1) t → H'.hp = H.hp → H'.n = H.n + 1 → Fr h₀ L h' m → News h₀ L h' (tl w.params V ++ (G ++ (hpE w.params H' ++ R))) → Apart (tl w.params V ++ (G ++ (hpE w.params H' ++ R))) → Q (.ref V.t) { s with heap := h', toks := tk' }) :
    wpAny (model prog w) (ktrTop dp un gd cn cs L a ccd cl outer) (call (.ref F_PlainHeap_new_table) [.ref H.hp, .int 0 t1, .int 0 t2]) Q E s := by
  refine en_PlainHeap_new_table B F X N T hk (by first | exact room0 hd | omega) ?_
  walk_at "ent"
  walk_at "gon"
  k_dflt (refine' table_new_C (news := hpE w.params H ++ R) ?B ?F ?X ?N ?T ?hk ?d ?u ap ?_; (case N => k_asm); (case B => k_asm); (case F => k_asm); (case X => k_asm); (case T => k_asm); (case hk => exact rfl); (case d => walk_at "dep"); (case u => walk_at "dep"))
  intro h1 tk1 V hb F1 N1 ap1
  walk_at "gon"
  k_dflt (refine' link_C (V := V) (H := H) (R := R) ?B ?F ?X ?N ap1 ?T ?hk ?d ?u ?_; (case N => k_asm); (case B => k_asm); (case F => k_asm); (case X => k_asm); (case T => k_asm); (case hk => exact rfl); (case d => walk_at "dep"); (case u => walk_at "dep"))
  intro h2 tk2 t3 t4 v5 F2 N2 ap2
  obtain ⟨V2, hV2⟩ : ∃ V2, V2 = (V.wNum (.int (H.n + 1) t3)).wSize v5 := ⟨_, rfl⟩
  obtain ⟨H2, hH2⟩ : ∃ H2, H2 = (H.wN (H.n + 1) t3).wT (H.tot + 1) t4 := ⟨_, rfl⟩
  rw [← hV2, ← hH2] at N2 ap2
  have b2 : Blank V2 := ⟨by rw [hV2]; exact hb.ar, by rw [hV2]; exact hb.nd, by rw [hV2]; exact hb.fr⟩
  have b3 : V2.num = .int (H.n + 1) t3 := by rw [hV2]; rfl
  have b4 : V.t = V2.t := by rw [hV2]; rfl
  have b5 : H2.hp = H.hp := by rw [hH2]; rfl
  have b6 : H2.n = H.n + 1 := by rw [hH2]; rfl
  rw [b4] at F2
  clear hV2 hH2
  have tt := TT.fresh (W := V2) (c := 0) b2.ar (by rw [b2.nd]; exact fresh_nil) (by rw [b2.fr, b2.nd]; rfl) (by decide) (by decide) (by decide)
  walk_at "gon"
  rename Fr _ _ _ _ => FZ
  rename News _ _ _ _ => NZ
  exact hret _ _ V2 H2 [] t3 tt b3 b5 b6 FZ NZ ap2
theorem new_table_p {hs : Int} {t1 t2 : Tok} (hd : dp + 60 < recursionLimit) (hu : un + 400 < cLine) (hp0 : 0 < hs) (hp2 : hs ≤ 1000)
    (hret : ∀ h' tk' V H' G t, TT V (fun _ => .none) hs → V.num = .int (H.n + 1) t → H'.hp = H.hp → H'.n = H.n + 1 → Fr h₀ L h' m → News h₀ L h' (tl w.params V ++ (G ++ (hpE w.params H' ++ R))) → Apart (tl w.params V ++ (G ++ (hpE w.params H' ++ R))) → Q (.ref V.t) { s with heap := h', toks := tk' }) :
    wpAny (model prog w) (ktrTop dp un gd cn cs L a ccd cl outer) (call (.ref F_PlainHeap_new_table) [.ref H.hp, .int 0 t1, .int hs t2]) Q E s := by
  refine en_PlainHeap_new_table B F X N T hk (by first | exact room0 hd | omega) ?_
  walk_at "ent"
  walk_at "gon"
  k_dflt (refine' table_new_C (news := hpE w.params H ++ R) ?B ?F ?X ?N ?T ?hk ?d ?u ap ?_; (case N => k_asm); (case B => k_asm); (case F => k_asm); (case X => k_asm); (case T => k_asm); (case hk => exact rfl); (case d => walk_at "dep"); (case u => walk_at "dep"))
  intro h1 tk1 V hb F1 N1 ap1
  walk_at "gon"
  k_dflt (refine' link_C (V := V) (H := H) (R := R) ?B ?F ?X ?N ap1 ?T ?hk ?d ?u ?_; (case N => k_asm); (case B => k_asm); (case F => k_asm); (case X => k_asm); (case T => k_asm); (case hk => exact rfl); (case d => walk_at "dep"); (case u => walk_at "dep"))
  intro h2 tk2 t3 t4 v5 F2 N2 ap2
  obtain ⟨V2, hV2⟩ : ∃ V2, V2 = (V.wNum (.int (H.n + 1) t3)).wSize v5 := ⟨_, rfl⟩
  obtain ⟨H2, hH2⟩ : ∃ H2, H2 = (H.wN (H.n + 1) t3).wT (H.tot + 1) t4 := ⟨_, rfl⟩
  rw [← hV2, ← hH2] at N2 ap2
  have b2 : Blank V2 := ⟨by rw [hV2]; exact hb.ar, by rw [hV2]; exact hb.nd, by rw [hV2]; exact hb.fr⟩
  have b3 : V2.num = .int (H.n + 1) t3 := by rw [hV2]; rfl
  have b4 : V.t = V2.t := by rw [hV2]; rfl
  have b5 : H2.hp = H.hp := by rw [hH2]; rfl
  have b6 : H2.n = H.n + 1 := by rw [hH2]; rfl
  rw [b4] at F2
  clear hV2 hH2
  walk_at "gon"
  k_dflt (refine' resize_blank (V := V2) (R := hpE w.params H2 ++ R) ?B ?F ?X ?N ap2 ?T ?hk ?d ?u b2 hp0 hp2 ?_; (case N => k_asm); (case B => k_asm); (case F => k_asm); (case X => k_asm); (case T => k_asm); (case hk => exact rfl); (case d => walk_at "dep"); (case u => walk_at "dep"))
  intro h4 tk4 W G w1 w2 w3 w4 w5 F4 N4 ap4
  have q1 := pow_clog_lt (a := hs.toNat) (by omega)
  have tt := TT.fresh (c := hs) w1 w2 w3 (by omega) (by omega) (by omega)
  rw [← w4] at F4
  walk_at "gon"
  rename Fr _ _ _ _ => FZ
  rename News _ _ _ _ => NZ
  exact hret _ _ W H2 G t3 tt (w5.trans b3) b5 b6 FZ NZ ap4
end
end Mine
end
section
open PySem PySem.W PySem.Spec PySem.Calls PyProof.Rows
open PyProof.Rows
namespace Mine
theorem wdF1_0 : True := by
  k_with_none
  k_with "k_room" => ((try dsimp only [Ax]); ktr_room)
  k_with "k_units" => ((try dsimp only [Ax]); ktr_units)
  k_with "ent" => (intro _ _ _ _ _ _ _ _ _; (try k_fold); (refine foldA ?_; intro Ax); (conv in execs _ _ => arg 1; whnf))
  k_with "dep" => ((try dsimp only [ktrTop, Around.deeper, Around.in1, Around.under]); (first | (refine' room2 ?zqhR ?zqcR; (case zqhR => assumption); (case zqcR => exact Nat.le_of_ble_eq_true rfl)) | (refine' room0 ?zqhR; (case zqhR => assumption)) | (refine' room1 ?zqhR ?zqcR; (case zqhR => assumption); (case zqcR => exact Nat.le_of_ble_eq_true rfl)) | (refine' room3 ?zqhR ?zqcR; (case zqhR => assumption); (case zqcR => exact Nat.le_of_ble_eq_true rfl)) | omega))
  k_with "news" => first | assumption | exact news_tl0 (by assumption) | exact news_tl0 (news_tl0 (by assumption)) | exact news_tl0 (news_tl0 (news_tl0 (by assumption)))
  k_with "dec" => first | ((try simp only [beq_iff_eq, bne_iff_ne, decide_eq_true_eq, decide_eq_false_iff_not, Bool.and_eq_true, Bool.not_eq_true', Bool.not_eq_true, beq_eq_false_iff_ne, ne_eq]) <;> omega) | (simp; done)
  k_with "ite" => (k_here; k_openite; (first | refine ite_pos (by walk_at "dec") ?_ | refine ite_neg (by walk_at "dec") ?_))
  k_with "go" => repeat' ((fail_if_success (with_reducible show wpAny _ _ (exec (Stmt.While _ _ _ _) _) _ _ _)); (fail_if_success (with_reducible show wpAny _ _ (exec (Stmt.For _ _ _ _ _) _) _ _ _)); (fail_if_success (with_reducible show WhileStep2 _ _ _ _ _ _ Flow.next _)); (fail_if_success (with_reducible show WhileStep2 _ _ _ _ _ _ Flow.cont _)); (first | (k_unfold; (try dsimp only)) | (k_end; wrow_close) | ((first | (with_reducible show wpAny _ _ (exec _ _) _ _ _) | (with_reducible show wpAny _ _ (execs _ _) _ _ _)); k_fold; (try (refine foldS ?_; intro Sx))) | walk1 | (dsimp only; walk1) | (leave1; walk_say "STEP leave1"; try dsimp only)))
  k_with "subscriptTail" => (k_here; (with_reducible show wpAny _ _ (subscriptTail _ _ (Value.bytes _ _) (Value.int _ _)) _ _ _); k_dflt (refine' item_by ?zqf ?zqa ?zqb ?_ ?zqhs ?zqht; (case zqf => first | assumption | omega); (case zqa => first | assumption | omega); (case zqb => first | assumption | omega); (case zqhs => with_unfolding_all rfl); (case zqht => (intro _; with_unfolding_all rfl)); k_whole); intro _ _)
  k_with "subscriptTail" => (k_here; (with_reducible show wpAny _ _ (subscriptTail _ _ (Value.ref _) (Value.int _ _)) _ _ _); k_dflt (refine' item_led ?zqN ?zqm ?zqa ?zqb ?zqx ?_ ?zqhs; (case zqN => k_asm); (case zqm => k_mem); (case zqa => first | assumption | omega); (case zqb => first | assumption | omega); (case zqx => first | assumption | walk_at "item"); (case zqhs => with_unfolding_all rfl); k_whole))
  k_with "WhileStep2" => (dsimp only [WhileStep2])
  k_with "lenk" => first | assumption | exact refsN_len _ | exact rfl
  k_with "call builtin:len" => (k_here; (with_reducible show wpAny _ _ (call (Value.builtin "len") [Value.ref _]) _ _ _); k_dflt (refine' len_led ?zqN ?zqm ?zqk ?zqf ?_; (case zqN => k_asm); (case zqm => k_mem); (case zqk => walk_at "lenk"); (case zqf => first | assumption | omega); k_whole); intro _ _)
  k_with "binaryOp Mod int int" => (k_here; k_dflt (refine' mod_int' (by assumption) ?_; k_whole))
  k_with "item" => exact refsN_get (by assumption)
  k_with "k_handed" => assumption
  k_with "compareOp Is none" => (k_here; first | refine is_none_ne (by assumption) ?_ | refine is_none_eq (by assumption) ?_)
  k_with "compareOp IsNot none" => (k_here; first | refine isnot_none_ne (by assumption) ?_ | refine isnot_none_eq (by assumption) ?_)
  k_with "k_all" => assumption
  k_with "setItem ref int" => (k_here; (with_reducible show wpAny _ _ (setItem (Value.ref _) (Value.int _ _) _) _ _ _); k_dflt (refine' set_led ?zqF ?zqN ?zqU ?zqa ?zqb ?zqc ?_; (case zqF => k_asm); (case zqN => k_asm); (case zqU => k_upd); (case zqa => first | assumption | omega); (case zqb => first | assumption | omega); (case zqc => first | assumption | omega); k_whole); intro _ _ _; (try k_sweep))
  k_with "getItem ref int" => (k_here; (with_reducible show wpAny _ _ (getItem (Value.ref _) (Value.int _ _)) _ _ _); k_dflt (refine' get_led ?zqN ?zqm ?zqa ?zqb ?zqx ?_; (case zqN => k_asm); (case zqm => k_mem); (case zqa => first | assumption | omega); (case zqb => first | assumption | omega); (case zqx => first | assumption | walk_at "item"); k_whole))
  trivial
theorem wdF1_1 : True := by
  k_with "one" => (first | (k_unfold; (try dsimp only)) | (k_end; wrow_close) | ((first | (with_reducible show wpAny _ _ (exec _ _) _ _ _) | (with_reducible show wpAny _ _ (execs _ _) _ _ _)); k_fold; (try (refine foldS ?_; intro Sx))) | walk1 | (dsimp only; walk1) | (leave1; walk_say "STEP leave1"; try dsimp only))
  k_with "gon" => repeat' ((fail_if_success (with_reducible show wpAny _ _ (call (Value.ref 408) _) _ _ _)); (fail_if_success (with_reducible show wpAny _ _ (call (Value.ref 459) _) _ _ _)); (fail_if_success (with_reducible show wpAny _ _ (call (Value.ref 330) _) _ _ _)); (fail_if_success (with_reducible show WhileStep2 _ _ _ _ _ _ Flow.next _)); (fail_if_success (with_reducible show WhileStep2 _ _ _ _ _ _ Flow.cont _)); (first | (k_unfold; (try dsimp only)) | (k_end; wrow_close) | ((first | (with_reducible show wpAny _ _ (exec _ _) _ _ _) | (with_reducible show wpAny _ _ (execs _ _) _ _ _)); k_fold; (try (refine foldS ?_; intro Sx))) | walk1 | (dsimp only; walk1) | (leave1; walk_say "STEP leave1"; try dsimp only)))
  trivial
theorem news_drop2 {h₀ h : Heap} {L : Addr} {q : Addr × Obj} {r : List (Addr × Obj)} (N : News h₀ L h (q :: r)) : News h₀ L h r := fun p hp => N p (.tail _ hp)
abbrev drK (g : Int) (tg : Tok) (x : Int) (tx : Tok) : List (Str × Value) := [(Str.ofString "great", .int g tg), (Str.ofString "mixed", .int x tx)]
section
variable {prog : Program} {w : World} {p : Program} {loose : List Str} {mean : ExcName → Option Value} {mg mb : Str → Option Value}
  {dp un : Nat} {gd : Option (List Code)} {cn : Str} {cs : Scope} {a : Addr} {ccd : Value} {cl : List (Str × Addr)} {outer : List Env} {A₀ : Around} {base h₀ : Heap} {L : Addr} {m : Str → Option Value} {news : List (Addr × Obj)} {s : Shared} {E : Value → Shared → Prop} {Q : Value → Shared → Prop}
  (B : Below A₀ base outer h₀) (F : Fr h₀ L s.heap m) (X : (KK w.params).In h₀) {d : Addr} {od : Obj} {g x : Int} {tg tx : Tok} (N : News h₀ L s.heap ((d, od) :: news)) (hoff : ∀ p ∈ news, p.1 ≠ d) (hdd : od.IsDictOf (PySem.strKind prog w) (drK g tg x tx)) (T : Top p loose mean mg mb h₀) (hk : cs.kind = .function)
include B F X N hoff hdd T hk
set_option maxHeartbeats 4000000
theorem take_C {many : Int} {t : Tok} (hd : dp + 10 < recursionLimit) (hu : un + 60 < cLine) (hg : 0 ≤ g) (hx : 0 ≤ x ∧ x < 2147483647) (hm : 1 ≤ many) (hm2 : many ≤ 1000)
    (hret : ∀ h' tk' r t' od' g' tg' x' tx', 0 ≤ r → r < many → 0 ≤ g' → 0 ≤ x' ∧ x' < 2147483647 → od'.IsDictOf (PySem.strKind prog w) (drK g' tg' x' tx') → Fr h₀ L h' m → News h₀ L h' ((d, od') :: news) → Q (.int r t') { s with heap := h', toks := tk' }) :
    wpAny (model prog w) (ktrTop dp un gd cn cs L a ccd cl outer) (call (.ref F_ulaw_take) [.ref d, .int many t]) Q E s := by
  have hx1 := hx.1
  have hx2 := hx.2
  have hm0 : many ≠ 0 := by omega
  refine en_ulaw_take B F X N T hk (by first | exact room0 hd | omega) ?_
  walk_at "ent"
  rcases Int.lt_or_le 0 g with c | c
  · walk_at "gon"
    rename Fr _ _ _ _ => FZ
    rename News _ _ _ _ => NZ
    rename Obj.IsDictOf _ _ _ => hZ
    exact hret _ _ _ _ _ _ _ _ _ (Int.fmod_nonneg_of_pos _ (by omega)) (Int.fmod_lt_of_pos _ (by omega)) (by rw [Int.fdiv_eq_ediv_of_nonneg _ (by omega)]; exact Int.ediv_nonneg (by omega) (by omega)) hx hZ FZ (news_drop2 NZ)
  · walk_at "gon"
    rename Fr _ _ _ _ => FZ
    rename News _ _ _ _ => NZ
    rename Obj.IsDictOf _ _ _ => hZ
    exact hret _ _ _ _ _ _ _ _ _ (Int.fmod_nonneg_of_pos _ (by omega)) (Int.fmod_lt_of_pos _ (by omega)) hg ⟨Int.fmod_nonneg_of_pos _ (by decide), Int.fmod_lt_of_pos _ (by decide)⟩ hZ FZ NZ
end
end Mine
end
section
open PySem PySem.W PySem.Spec PySem.Calls PyProof.Rows
open PyProof.Rows
namespace Mine
/-- a value that the law keeps -/
inductive VOk (P : Params) (news : List (Addr × Obj)) : Value → Prop
  | int {i : Int} {t : Tok} : VOk P news (.int i t)
  | bytes {x : Array UInt8} {t : Tok} : x.size ≤ 100 → VOk P news (.bytes x t)
  | bool {b : Bool} : VOk P news (.bool b)
  | tab {V : Tab} {n : Int} {t : Tok} : (V.t, instObj C_Table V.td) ∈ news → (V.td, dictOf (tdE P V) 10) ∈ news → V.num = .int n t → VOk P news (.ref V.t)
theorem VOk.mono {P : Params} {news news' : List (Addr × Obj)} {v : Value} (h : VOk P news v) (s : ∀ p ∈ news, p ∈ news') : VOk P news' v := by
  cases h with
  | int => exact .int
  | bytes h => exact .bytes h
  | bool => exact .bool
  | tab h1 h2 h3 => exact .tab (s _ h1) (s _ h2) h3
theorem VOk.ne {P : Params} {news : List (Addr × Obj)} {v : Value} (h : VOk P news v) : v ≠ .none ∧ handedIn v = true := by
  cases h <;> exact ⟨nofun, rfl⟩
theorem wdF2_2 : True := by
  k_with "k_mem" => assumption
  trivial
section
variable {prog : Program} {w : World} {p : Program} {loose : List Str} {mean : ExcName → Option Value} {mg mb : Str → Option Value}
  {dp un : Nat} {gd : Option (List Code)} {cn : Str} {cs : Scope} {a : Addr} {ccd : Value} {cl : List (Str × Addr)} {outer : List Env} {A₀ : Around} {base h₀ : Heap} {L : Addr} {m : Str → Option Value} {news : List (Addr × Obj)} {s : Shared} {E : Value → Shared → Prop} {Q : Value → Shared → Prop}
  (B : Below A₀ base outer h₀) (F : Fr h₀ L s.heap m) (X : (KK w.params).In h₀) (N : News h₀ L s.heap news) (T : Top p loose mean mg mb h₀) (hk : cs.kind = .function)
include B F X N T hk
set_option maxHeartbeats 4000000
theorem law_is_C {v : Value} (hd : dp + 10 < recursionLimit) (hu : un + 60 < cLine) (hv : VOk w.params news v)
    (hret : ∀ h' tk', Fr h₀ L h' m → News h₀ L h' news → Q (.bool true) { s with heap := h', toks := tk' }) :
    wpAny (model prog w) (ktrTop dp un gd cn cs L a ccd cl outer) (call (.ref F_ulaw_is) [v, v]) Q E s := by
  refine en_ulaw_is B F X N T hk (by first | exact room0 hd | omega) ?_
  cases hv with
  | int =>
    walk_at "ent"
    walk_at "gon"
    rename Fr _ _ _ _ => FZ
    rename News _ _ _ _ => NZ
    rw [beq_self_eq_true]
    exact hret _ _ FZ NZ
  | bytes hb =>
    walk_at "ent"
    walk_at "gon"
    rename Fr _ _ _ _ => FZ
    rename News _ _ _ _ => NZ
    rw [beq_self_eq_true]
    exact hret _ _ FZ NZ
  | @bool b =>
    cases b <;>
    · walk_at "ent"
      walk_at "gon"
      rename Fr _ _ _ _ => FZ
      rename News _ _ _ _ => NZ
      exact hret _ _ FZ NZ
  | @tab V n t h1 h2 h3 =>
    obtain ⟨t0, td, la, ln, kt, num, mark, size, mta, flags, weak, log, free, tf, arr, ea, nds, el⟩ := V
    cases h3
    walk_at "ent"
    walk_at "gon"
    rename Fr _ _ _ _ => FZ
    rename News _ _ _ _ => NZ
    rw [beq_self_eq_true]
    exact hret _ _ FZ NZ
end
theorem wdF2_3 : True := by
  k_with "k_mem" => first | exact (hp_mem (X := [])).1 | exact (hp_mem (X := [])).2 | exact .head _ | exact .tail _ (.head _) | assumption
  k_with "gon2" => repeat' ((fail_if_success (with_reducible show wpAny _ _ (call (Value.ref 466) _) _ _ _)); (fail_if_success (with_reducible show WhileStep2 _ _ _ _ _ _ Flow.next _)); (fail_if_success (with_reducible show WhileStep2 _ _ _ _ _ _ Flow.cont _)); (first | (k_unfold; (try dsimp only)) | (k_end; wrow_close) | ((first | (with_reducible show wpAny _ _ (exec _ _) _ _ _) | (with_reducible show wpAny _ _ (execs _ _) _ _ _)); k_fold; (try (refine foldS ?_; intro Sx))) | walk1 | (dsimp only; walk1) | (leave1; walk_say "STEP leave1"; try dsimp only)))
  trivial
section
variable {prog : Program} {w : World} {p : Program} {loose : List Str} {mean : ExcName → Option Value} {mg mb : Str → Option Value}
  {dp un : Nat} {gd : Option (List Code)} {cn : Str} {cs : Scope} {a : Addr} {ccd : Value} {cl : List (Str × Addr)} {outer : List Env} {A₀ : Around} {base h₀ : Heap} {L : Addr} {m : Str → Option Value} {s : Shared} {E : Value → Shared → Prop} {Q : Value → Shared → Prop}
  (B : Below A₀ base outer h₀) (F : Fr h₀ L s.heap m) (X : (KK w.params).In h₀) {H : Hp} {R : List (Addr × Obj)} (N : News h₀ L s.heap (hpE w.params H ++ R)) (ap : Apart (hpE w.params H ++ R)) (T : Top p loose mean mg mb h₀) (hk : cs.kind = .function)
include B F X N ap T hk
set_option maxHeartbeats 4000000
theorem law_value_C {r i : Int} {t1 t2 : Tok} (hd : dp + 80 < recursionLimit) (hu : un + 500 < cLine) (hr : 0 ≤ r ∧ r < 5) (hi : 0 ≤ i ∧ i < 10)
    (hret : ∀ h' tk' v H' G, VOk w.params G v → H'.hp = H.hp → Fr h₀ L h' m → News h₀ L h' (G ++ (hpE w.params H' ++ R)) → Apart (G ++ (hpE w.params H' ++ R)) → Q v { s with heap := h', toks := tk' }) :
    wpAny (model prog w) (ktrTop dp un gd cn cs L a ccd cl outer) (call (.ref F_ulaw_value) [.ref H.hp, .int r t1, .int i t2]) Q E s := by
  refine en_ulaw_value B F X N T hk (by first | exact room0 hd | omega) ?_
  walk_at "ent"
  walk_at "gon2"
  k_dflt (refine' new_table_0 (H := H) (R := R) ?B ?F ?X (news_drop2 (by assumption)) ap ?T ?hk ?d ?u ?_; (case B => k_asm); (case F => k_asm); (case X => k_asm); (case T => k_asm); (case hk => exact rfl); (case d => walk_at "dep"); (case u => walk_at "dep"))
  intro h1 tk1 V H' G t tt hn e1 e2 F1 N1 ap1
  rw [← List.append_assoc] at N1 ap1
  have hv : VOk w.params (tl w.params V ++ G) (.ref V.t) := .tab (List.mem_append_left _ mem_t) (List.mem_append_left _ mem_td) hn
  have hr5 : r = 0 ∨ r = 1 ∨ r = 2 ∨ r = 3 ∨ r = 4 := by omega
  rcases hr5 with rfl | rfl | rfl | rfl | rfl <;>
  · walk_at "gon2"
    rename Fr _ _ _ _ => FZ
    rename News _ _ _ _ => NZ
    exact hret _ _ _ H' (tl w.params V ++ G) (by first | exact hv | exact .int | exact .bool | exact .bytes (Nat.le_of_ble_eq_true rfl)) e1 FZ (news_drop2 NZ) ap1
end
end Mine
end
section
open PySem PySem.W PySem.Spec PySem.Calls PyProof.Rows
namespace Mine
section
variable {prog : Program} {w : World} {A : Around} {E : Value → Shared → Prop} {s : Shared} {h₀ : Heap} {L d : Addr} {m : Str → Option Value} {env : Env} {news : List (Addr × Obj)} {o : Obj}
noncomputable def CompSrcD {K : Type} [DecidableEq K] (prog : Program) (w : World) (knd : KeyKind prog w K) (A : Around) (h₀ : Heap) (L : Addr) (m : Str → Option Value) (env : Env) (ct elt : Expr) (x : Str) (scope : Scope) (cl : List (Str × Addr)) (Fin : Shared → List Value → List (Addr × Obj) → Prop) (xv : Value) (s₁ : Shared) : Prop :=
  ∃ (d : Addr) (o : Obj) (kvs : List (K × Value)) (news : List (Addr × Obj)), xv = .ref d ∧ A.handled = none ∧ Fr h₀ L s₁.heap m ∧ News h₀ L s₁.heap news ∧ (d, o) ∈ news ∧ o.IsDictOf knd kvs ∧ (d == sysModules) = false ∧ kvs.length ≤ sizeLine ∧
      ∀ g, LCt.CompRestT prog w A h₀ L m env ct elt x scope cl { s₁ with heap := g } (fun nw => (d, o) ∈ nw) (fun i v => ∃ k y, kvs[i]? = some (k, y) ∧ knd.is k v = true) (Fin { s₁ with heap := g }) kvs.length 0 [] news
theorem CompSrcD.mk {K : Type} [DecidableEq K] {knd : KeyKind prog w K} {ct elt : Expr} {x : Str} {scope : Scope} {cl : List (Str × Addr)} {Fin : Shared → List Value → List (Addr × Obj) → Prop} {s₁ : Shared} {kvs : List (K × Value)} (hh : A.handled = none) (F : Fr h₀ L s₁.heap m) (N : News h₀ L s₁.heap news) (hm : (d, o) ∈ news) (hd : o.IsDictOf knd kvs) (lo : (d == sysModules) = false) (hz : kvs.length ≤ 1000)
    (h : ∀ g, LCt.CompRestT prog w A h₀ L m env ct elt x scope cl { s₁ with heap := g } (fun nw => (d, o) ∈ nw) (fun i v => ∃ k y, kvs[i]? = some (k, y) ∧ knd.is k v = true) (Fin { s₁ with heap := g }) kvs.length 0 [] news) :
    CompSrcD prog w knd A h₀ L m env ct elt x scope cl Fin (.ref d) s₁ := ⟨d, o, kvs, news, rfl, hh, F, N, hm, hd, lo, kdl_size (by omega), h⟩
noncomputable def CNo (h₀ : Heap) (L : Addr) (m : Str → Option Value) (l : List (Addr × Obj)) (s : Shared) (ok : Bool) (s' : Shared) : Prop := ok = false ∧ ∃ h' tk', s' = { s with heap := h', toks := tk' } ∧ Fr h₀ L h' m ∧ News h₀ L h' l
/-- the turns of such a comprehension, by an invariant; the test is always false -/
theorem compRest_none {K : Type} [DecidableEq K] {knd : KeyKind prog w K} {ct elt : Expr} {x : Str} {scope : Scope} {cl : List (Str × Addr)} {S : List (Addr × Obj) → Prop} {Fin : List Value → List (Addr × Obj) → Prop} {kvs : List (K × Value)} {nx : List (Addr × Obj)}
    (turn : ∀ (i : Nat) (k : K) (y v : Value) I oI C oC D m₂ h tk (E' : Value → Shared → Prop), kvs[i]? = some (k, y) → knd.is k v = true → PyProof.Rows.LCg.NsObj oC m₂ → m₂ x = some v → Fr h₀ L h m → News h₀ L h ((I, oI) :: (C, oC) :: (D, PyProof.Rows.LCg.lst []) :: nx) → PyProof.Rows.LCg.Off3 I C D nx → ((@Ne Nat I C) ∧ (@Ne Nat I D) ∧ (@Ne Nat C D)) →
      wpAny (model prog w) A (isTrue ct (compEnvC scope cl C env) (eval ct (compEnvC scope cl C env))) (CNo h₀ L m ((I, oI) :: (C, oC) :: (D, PyProof.Rows.LCg.lst []) :: nx) s) E' { s with heap := h, toks := tk })
    (hS : S nx) (fin : Fin [] nx) : ∀ (k i : Nat), k + i = kvs.length → LCt.CompRestT prog w A h₀ L m env ct elt x scope cl s S (fun i v => ∃ k y, kvs[i]? = some (k, y) ∧ knd.is k v = true) Fin k i [] nx := by
  intro k
  induction k with
  | zero => exact fun i e => LCt.CompRestT.zero fin
  | succ k ih =>
    intro i e
    refine LCt.CompRestT.succ fun v I oI C oC D m₂ h tk E' hP hC hx F N o d => ?_
    obtain ⟨kk, y, h1, h2⟩ := hP
    refine wpAny_mono (turn i kk y v I oI C oC D m₂ h tk E' h1 h2 hC hx F N o d) (fun ok s₂ q => ?_) fun _ _ e => e
    obtain ⟨rfl, h', tk', rfl, F', N'⟩ := q
    rw [if_neg (by decide)]
    exact ⟨h', tk', nx, rfl, F', N', o, hS, ih (i + 1) (by omega)⟩
/-- [elt for x in dict if ct] -/
theorem comp_dict {K : Type} [DecidableEq K] (knd : KeyKind prog w K) {ct elt iter : Expr} {x : Str} {px : Pos} {scope : Scope} {cl : List (Str × Addr)} {pos : Pos} {Q : Value → Shared → Prop} (F₀ : Fr h₀ L s.heap m)
    (hclos : closureFor scope env = pure cl) (hcell : ∀ y ∈ scope.names, y.2 ≠ .cell) (hkind : scope.kind = .function)
    (hnames : ∀ y ∈ scope.names, y.2 = .local → scope.names.lookup y.1 = some .local) (hx : scope.names.lookup x = some .local)
    (h : wpAny (model prog w) A (eval iter env) (CompSrcD prog w knd A h₀ L m env ct elt x scope cl (fun s₂ => LCg.FinE h₀ L m s₂ Q)) E s)
    (hs : ∀ x, foldedSetIterable iter env x = pure x := by intro _; rfl) :
    wpAny (model prog w) A (eval (.ListComp elt [⟨.Name x px, iter, [ct], 0⟩] scope pos) env) Q E s := by
  rw [eval_ListComp]
  refine wpAny_comprehension_free (use := none) rfl hs hclos hkind hnames (wpAny_mono h (fun xv s₁ h₁ => ?_) fun _ _ e => e)
  obtain ⟨d, o, kvs, news, rfl, hh, F, N, hm, hd, lo, hsz, R⟩ := h₁
  obtain ⟨ep, hat⟩ := (kda_dict N hm hd).dictAt
  have hlt : d < s₁.heap.objs.size := Heap.lt_size (N _ hm).1
  refine wpAny_pyIter_dict lo hat ?_
  obtain ⟨es, ep', hex, hdat, hk, hp, hn⟩ := id hd
  have up : ∀ b z, s₁.heap.get? b = some z → (s₁.heap.push { cls := .type "dict_keyiterator", data := .fields #[.ref d, .int 0 0, .int kvs.length 0, .int ep 0] }).get? b = some z := fun b z e => Heap.get?_push_of_some _ e
  refine LCt.block_T (Walks.dictKeys (knd := knd) hh s₁.heap.objs.size d (Nat.ne_of_lt hlt) kvs ep) hsz (fun i h st => by obtain ⟨z, e, _⟩ := st.1; exact ⟨z, e⟩) (fun i h h' z nw st e e' _ N' hS => ?_) hcell hkind hx ⟨⟨_, Heap.get?_push_size _ rfl, rfl, rfl⟩, hat.at' fun z e => up _ _ e⟩ (fun b hb => ?_)
    (F.keeps up) (N.grown up) (Nat.ne_of_lt F.ns.lt) (next_is_new F) (fun p hp => Nat.ne_of_lt (Heap.lt_size (N p hp).1)) hm (R _) ?_
  · refine ⟨st.1.at fun z2 e2 => ?_, ?_⟩
    · rw [e] at e2; (first | obtain rfl := Option.some.inj e2 | cases e2); exact e'
    · obtain ⟨o2, es2, g1, g2⟩ := st.2
      obtain ⟨o3, es3, g3, g4⟩ := hat
      have q1 : s₁.heap.get? d = some o := (N _ hm).1
      rw [q1] at g3; (first | obtain rfl := Option.some.inj g3 | cases g3)
      exact ⟨o, es3, (N' _ hS).1, g4⟩
  · show b < (s₁.heap.push _).objs.size
    rw [Heap.size_push]
    rcases List.mem_cons.mp hb with rfl | hb
    · exact Nat.lt_succ_self _
    · rw [List.mem_singleton.mp hb]; exact Nat.lt_succ_of_lt hlt
  · intro D C h tk m' ys news' F' N' o1 hn' hC₀ hD₀ hCL hDL hCD offC fin
    refine ⟨m', hn', fun h'' hs'' => fin D h'' tk (F'.change hs'' hCL hC₀) (fun p hp => ?_) o1⟩
    refine ⟨hs''.extBut _ _ ?_ (N' p hp).1, (N' p hp).2⟩
    rcases List.mem_cons.mp hp with rfl | hp
    · exact Ne.symm hCD
    · exact offC p hp
/-- list(d), the keys ints -/
theorem list_keysI {kvs : List (Int × Value)} {Q : Value → Shared → Prop} (hh : A.handled = none) (F : Fr h₀ L s.heap m) (N : News h₀ L s.heap news) (hp : (d, o) ∈ news) (hd : o.IsDictOf (PySem.intKind prog w) kvs) (lo : (d == sysModules) = false) (hn : kvs.length ≤ 1000)
    (h : ∀ (B : Addr) c h' tk vs, IntsAre vs (kvs.map (·.1)) → Fr h₀ L h' m → News h₀ L h' ((B, listOf vs.toArray c) :: news) → (∀ q ∈ news, q.1 < B) → Q (.ref B) { s with heap := h', toks := tk }) :
    wpAny (model prog w) A (call (.type "list") [.ref d]) Q E s := by
  obtain ⟨ep, hat⟩ := (kda_dict N hp hd).dictAt
  refine kdl_N (kdl_dict (knd := PySem.intKind prog w) (kvs := kvs) (ep := ep) lo) hh F N hat (kdl_size (by omega)) fun B c h' tk vs F' N' l1 hl hv => ?_
  refine h B c h' tk vs ?_ F' N' l1
  clear F' N' l1 hat hn h hd hp
  induction kvs generalizing vs with
  | nil =>
    have : vs = [] := List.length_eq_zero_iff.mp hl
    subst this; exact .nil
  | cons p r ih =>
    obtain ⟨k, y⟩ := p
    cases vs with
    | nil => simp at hl
    | cons v vs =>
      obtain ⟨k', x, hx, hk⟩ := hv 0 v rfl
      have hx' : (k, y) = (k', x) := by simpa using hx
      (first | obtain rfl := Option.some.inj hx' | cases hx')
      obtain ⟨t, rfl⟩ := Value.isInt_shape hk
      refine .cons k t (ih vs (by simpa using hl) fun j u hu => ?_)
      obtain ⟨k2, x2, h2, h3⟩ := hv (j + 1) u (by simpa using hu)
      exact ⟨k2, x2, by simpa using h2, h3⟩
/-- d.pop(k), k in d -/
theorem pop_I {kvs : List (Int × Value)} {g : Obj → List (Addr × Obj)} {k : Int} {t : Tok} {v : Value} {Q : Value → Shared → Prop} (F : Fr h₀ L s.heap m) (N : News h₀ L s.heap news) (U : UpdF d o news g) (hd : o.IsDictOf (PySem.intKind prog w) kvs) (hn : kvs.length ≤ 1000) (hv : valueAt kvs k = some v)
    (h : ∀ h' o', Fr h₀ L h' m → News h₀ L h' (g o') → o'.IsDictOf (PySem.intKind prog w) (without kvs k) → Q v { s with heap := h', toks := s.toks + 1 }) :
    wpAny (model prog w) A (call (.builtin "dict.pop") [.ref d, .int k t]) Q E s := by
  obtain ⟨pre, post, rfl, hg, a, b⟩ := U.split
  have hm := N (d, o) (List.mem_append_right _ (.head _))
  have hD : s.heap.DictOf (PySem.intKind prog w) d kvs := Heap.dictOf_iff.mpr ⟨o, hm.1, hd⟩
  refine call_meetsIn PySem.F.slot_dict_pop hD.typeIs PySem.F.entry_dict_pop (PySem.F.args_dict_pop_2 _ _) (meets_dict_pop_there (PySem.intKind prog w) d (intKind_is _ _ _ _) [] (.inl rfl) rfl) ⟨kvs, v, hD, kdl_size (by omega), hv, fun h' hmm hs => ?_⟩
  obtain ⟨o', ho', hd'⟩ := Heap.dictOf_iff.mp hmm
  exact h h' o' (F.change hs hm.2.1 hm.2.2) (hg o' ▸ N.setIn a b hs ho') hd'
end
end Mine
end
section
open PySem PySem.W PySem.Spec PySem.Calls PyProof.Rows
namespace Mine
theorem nodup_one (a : Int) : [a].Nodup := List.nodup_cons.mpr ⟨(fun h => nomatch h), List.nodup_nil⟩
noncomputable def Chn (C : Ky → Value) : List Int → Value → Prop
  | [], v => v = .none
  | f :: r, v => (∃ t, v = .int f t) ∧ Chn C r (C (.i f))
theorem Chn.congr {C C' : Ky → Value} : ∀ {l : List Int} {v : Value}, Chn C l v → (∀ f ∈ l, C' (.i f) = C (.i f)) → Chn C' l v
  | [], _, h, _ => h
  | f :: r, v, h, e => ⟨h.1, by rw [e f (.head _)]; exact Chn.congr h.2 fun x hx => e x (.tail _ hx)⟩
abbrev keysI (kvs : List (Int × Value)) : List Int := kvs.map (·.1)
abbrev NK (kvs : List (Int × Value)) (ns : List Int) : Int := (kvs.length : Int) + (ns.length : Int)
/-- what is kept: kvs, what is let go: ns, in the table's content C -/
structure KI (P : Params) (G : List (Addr × Obj)) (C : Ky → Value) (kvs : List (Int × Value)) (ns : List Int) : Prop where
  kn : (keysI kvs).Nodup
  nd : ns.Nodup
  kb : ∀ k ∈ keysI kvs, 1 ≤ k ∧ k ≤ NK kvs ns ∧ k ∉ ns
  nb : ∀ f ∈ ns, 1 ≤ f ∧ f ≤ NK kvs ns
  cv : ∀ k v, (k, v) ∈ kvs → C (.i k) = v ∧ VOk P G v
  ch : Chn C ns.reverse (C (.i 0))
  hi : ∀ i : Int, NK kvs ns < i → C (.i i) = .none
  lo : ∀ i : Int, i < 0 → C (.i i) = .none
  co : ∀ i : Int, 1 ≤ i → i ≤ NK kvs ns → i ∈ keysI kvs ∨ i ∈ ns
theorem KI.init {P : Params} {G : List (Addr × Obj)} : KI P G (fun _ => .none) [] [] :=
  ⟨List.nodup_nil, List.nodup_nil, fun _ h => (nomatch h), fun _ h => (nomatch h), fun _ _ h => (nomatch h), rfl, fun _ _ => rfl, fun _ _ => rfl, fun i h1 h2 => by
    have : NK [] [] = 0 := rfl
    omega⟩
theorem KI.mono {P : Params} {G G' : List (Addr × Obj)} {C : Ky → Value} {kvs : List (Int × Value)} {ns : List Int} (h : KI P G C kvs ns) (s : ∀ p ∈ G, p ∈ G') : KI P G' C kvs ns :=
  ⟨h.kn, h.nd, h.kb, h.nb, fun k v hm => ⟨(h.cv k v hm).1, (h.cv k v hm).2.mono s⟩, h.ch, h.hi, h.lo, h.co⟩
theorem valueAt_mem {kvs : List (Int × Value)} {k : Int} (h : k ∈ keysI kvs) : ∃ v, valueAt kvs k = some v ∧ (k, v) ∈ kvs := by
  induction kvs with
  | nil => exact nomatch h
  | cons p r ih =>
    obtain ⟨a, b⟩ := p
    by_cases e : a = k
    · subst e
      exact ⟨b, by simp [valueAt], .head _⟩
    · have h' : k ∈ keysI r := by
        rcases List.mem_cons.mp h with h | h
        · exact absurd h.symm e
        · exact h
      obtain ⟨v, h1, h2⟩ := ih h'
      refine ⟨v, ?_, .tail _ h2⟩
      unfold valueAt at h1 ⊢
      rw [List.find?_cons_of_neg (by simp [e])]
      exact h1
theorem without_len {kvs : List (Int × Value)} {k : Int} (hn : (keysI kvs).Nodup) (h : k ∈ keysI kvs) : (without kvs k).length + 1 = kvs.length := by
  induction kvs with
  | nil => exact nomatch h
  | cons p r ih =>
    obtain ⟨a, b⟩ := p
    have hn' := List.nodup_cons.mp hn
    by_cases e : a = k
    · subst e
      have hr : without r a = r := without_of_not_mem r a hn'.1
      unfold without at hr ⊢
      rw [List.filter_cons_of_neg (by simp), hr]
      rfl
    · have h' : k ∈ keysI r := by
        rcases List.mem_cons.mp h with h | h
        · exact absurd h.symm e
        · exact h
      have := ih hn'.2 h'
      unfold without at this ⊢
      rw [List.filter_cons_of_pos (by simp [e]), List.length_cons, this]
      rfl
theorem mem_without {kvs : List (Int × Value)} {k : Int} {p : Int × Value} : p ∈ without kvs k ↔ p ∈ kvs ∧ p.1 ≠ k := by
  unfold without
  rw [List.mem_filter]
  simp
theorem keys_without {kvs : List (Int × Value)} {k i : Int} : i ∈ keysI (without kvs k) ↔ i ∈ keysI kvs ∧ i ≠ k := by
  simp only [keysI, List.mem_map]
  constructor
  · rintro ⟨p, hp, rfl⟩
    exact ⟨⟨p, (mem_without.mp hp).1, rfl⟩, (mem_without.mp hp).2⟩
  · rintro ⟨⟨p, hp, rfl⟩, h⟩
    exact ⟨p, mem_without.mpr ⟨hp, h⟩, rfl⟩
theorem stored_new {kvs : List (Int × Value)} {k : Int} {v : Value} (h : k ∉ keysI kvs) : stored kvs k v = kvs ++ [(k, v)] := by
  unfold stored
  rw [if_neg]
  intro q
  obtain ⟨p, hp, e⟩ := List.any_eq_true.mp q
  exact h (by simp at e; exact e ▸ List.mem_map_of_mem hp)
theorem KI.drop {P : Params} {G : List (Addr × Obj)} {C : Ky → Value} {kvs : List (Int × Value)} {ns : List Int} (h : KI P G C kvs ns) {k : Int} {t : Tok} (hk : k ∈ keysI kvs) :
    KI P G (updC (updC C (.i k) (C (.i 0))) (.i 0) (.int k t)) (without kvs k) (ns ++ [k]) := by
  obtain ⟨k1, k2, k3⟩ := h.kb k hk
  have hl := without_len h.kn hk
  have hN : NK (without kvs k) (ns ++ [k]) = NK kvs ns := by
    show ((without kvs k).length : Int) + ((ns ++ [k]).length : Int) = (kvs.length : Int) + (ns.length : Int)
    rw [List.length_append, List.length_singleton]; omega
  have hk0 : k ≠ 0 := by omega
  have h0 : ∀ i : Int, i ≠ 0 → i ≠ k → (updC (updC C (.i k) (C (.i 0))) (.i 0) (.int k t)) (.i i) = C (.i i) := fun i a b => by
    rw [updC_ne (by simpa using a), updC_ne (by simpa using b)]
  refine ⟨?_, ?_, fun i hi => ?_, fun f hf => ?_, fun i v hm => ?_, ?_, fun i hi => ?_, fun i hi => ?_, fun i a b => ?_⟩
  · exact List.Nodup.sublist (List.Sublist.map _ List.filter_sublist) h.kn
  · refine List.nodup_append.mpr ⟨h.nd, (nodup_one k), fun a ha b hb e => ?_⟩
    rw [List.mem_singleton.mp hb] at e
    exact k3 (e ▸ ha)
  · obtain ⟨a, b⟩ := keys_without.mp hi
    obtain ⟨q1, q2, q3⟩ := h.kb i a
    refine ⟨q1, by rw [hN]; exact q2, fun q => ?_⟩
    rcases List.mem_append.mp q with q | q
    · exact q3 q
    · exact b (List.mem_singleton.mp q)
  · rw [hN]
    rcases List.mem_append.mp hf with q | q
    · exact h.nb f q
    · rw [List.mem_singleton.mp q]; exact ⟨k1, k2⟩
  · obtain ⟨a, b⟩ := mem_without.mp hm
    have := h.kb i (List.mem_map_of_mem a)
    rw [h0 i (by omega) b]
    exact h.cv i v a
  · rw [List.reverse_append, List.reverse_singleton, updC_eq]
    refine ⟨⟨t, rfl⟩, ?_⟩
    rw [updC_ne (by simpa using hk0), updC_eq]
    refine h.ch.congr fun f hf => h0 f ?_ ?_
    · have := h.nb f (List.mem_reverse.mp hf); omega
    · rintro rfl; exact k3 (List.mem_reverse.mp hf)
  · rw [hN] at hi
    rw [h0 i (by omega) (by omega)]
    exact h.hi i hi
  · rw [h0 i (by omega) (by omega)]
    exact h.lo i hi
  · rw [hN] at b
    by_cases e : i = k
    · exact .inr (List.mem_append_right _ (List.mem_singleton.mpr e))
    · rcases h.co i a b with q | q
      · exact .inl (keys_without.mpr ⟨q, e⟩)
      · exact .inr (List.mem_append_left _ q)
theorem KI.new {P : Params} {G : List (Addr × Obj)} {C : Ky → Value} {kvs : List (Int × Value)} (h : KI P G C kvs []) {v : Value} (hv : VOk P G v) :
    KI P G (updC C (.i ((kvs.length : Int) + 1)) v) (kvs ++ [((kvs.length : Int) + 1, v)]) [] ∧ ((kvs.length : Int) + 1) ∉ keysI kvs := by
  have hN : NK kvs [] = (kvs.length : Int) := by show (kvs.length : Int) + 0 = _; omega
  have hN' : NK (kvs ++ [((kvs.length : Int) + 1, v)]) [] = (kvs.length : Int) + 1 := by
    show ((kvs ++ [((kvs.length : Int) + 1, v)]).length : Int) + 0 = _
    rw [List.length_append, List.length_singleton]; omega
  have hnk : ((kvs.length : Int) + 1) ∉ keysI kvs := fun q => by
    have := (h.kb _ q).2.1
    rw [hN] at this; omega
  have h0 : ∀ i : Int, i ≠ (kvs.length : Int) + 1 → (updC C (.i ((kvs.length : Int) + 1)) v) (.i i) = C (.i i) := fun i a => updC_ne (by simpa using a)
  have hks : keysI (kvs ++ [((kvs.length : Int) + 1, v)]) = keysI kvs ++ [(kvs.length : Int) + 1] := by simp [keysI]
  refine ⟨⟨?_, List.nodup_nil, fun i hi => ?_, fun f hf => (nomatch hf), fun i u hm => ?_, ?_, fun i hi => ?_, fun i hi => ?_, fun i a b => ?_⟩, hnk⟩
  · rw [hks]
    refine List.nodup_append.mpr ⟨h.kn, (nodup_one _), fun a ha b hb e => ?_⟩
    rw [List.mem_singleton.mp hb] at e
    exact hnk (e ▸ ha)
  · rw [hN']
    rw [hks] at hi
    rcases List.mem_append.mp hi with q | q
    · have := h.kb i q
      rw [hN] at this
      exact ⟨this.1, by omega, fun z => (nomatch z)⟩
    · rw [List.mem_singleton.mp q]
      exact ⟨by omega, by omega, fun z => (nomatch z)⟩
  · rcases List.mem_append.mp hm with q | q
    · rw [h0 i (fun e => hnk (e ▸ List.mem_map_of_mem q))]
      exact h.cv i u q
    · cases List.mem_singleton.mp q
      rw [updC_eq]
      exact ⟨rfl, hv⟩
  · have := h.ch
    show updC C _ v (.i 0) = .none
    rw [h0 0 (by omega)]
    exact this
  · rw [hN'] at hi
    rw [h0 i (by omega)]
    exact h.hi i (by rw [hN]; omega)
  · rw [h0 i (by omega)]
    exact h.lo i hi
  · rw [hN'] at b
    rw [hks]
    by_cases e : i = (kvs.length : Int) + 1
    · exact .inl (List.mem_append_right _ (List.mem_singleton.mpr e))
    · rcases h.co i a (by rw [hN]; omega) with q | q
      · exact .inl (List.mem_append_left _ q)
      · exact nomatch q
theorem KI.old {P : Params} {G : List (Addr × Obj)} {C : Ky → Value} {kvs : List (Int × Value)} {ms : List Int} {f : Int} (h : KI P G C kvs (ms ++ [f])) {v : Value} (hv : VOk P G v) :
    KI P G (updC (updC C (.i 0) (C (.i f))) (.i f) v) (kvs ++ [(f, v)]) ms ∧ f ∉ keysI kvs := by
  have hfm : f ∈ ms ++ [f] := List.mem_append_right _ (List.mem_singleton.mpr rfl)
  obtain ⟨f1, f2⟩ := h.nb f hfm
  have hN : NK (kvs ++ [(f, v)]) ms = NK kvs (ms ++ [f]) := by
    show ((kvs ++ [(f, v)]).length : Int) + (ms.length : Int) = (kvs.length : Int) + ((ms ++ [f]).length : Int)
    rw [List.length_append, List.length_append, List.length_singleton, List.length_singleton]; omega
  have hnk : f ∉ keysI kvs := fun q => (h.kb _ q).2.2 hfm
  have hnd := List.nodup_append.mp h.nd
  have hfms : f ∉ ms := fun q => hnd.2.2 f q f (List.mem_singleton.mpr rfl) rfl
  have hf0 : f ≠ 0 := by omega
  have h0 : ∀ i : Int, i ≠ 0 → i ≠ f → (updC (updC C (.i 0) (C (.i f))) (.i f) v) (.i i) = C (.i i) := fun i a b => by
    rw [updC_ne (by simpa using b), updC_ne (by simpa using a)]
  have hks : keysI (kvs ++ [(f, v)]) = keysI kvs ++ [f] := by simp [keysI]
  have hch := h.ch
  rw [List.reverse_append, List.reverse_singleton] at hch
  refine ⟨⟨?_, hnd.1, fun i hi => ?_, fun g hg => ?_, fun i u hm => ?_, ?_, fun i hi => ?_, fun i hi => ?_, fun i a b => ?_⟩, hnk⟩
  · rw [hks]
    refine List.nodup_append.mpr ⟨h.kn, (nodup_one _), fun a ha b hb e => ?_⟩
    rw [List.mem_singleton.mp hb] at e
    exact hnk (e ▸ ha)
  · rw [hN]
    rw [hks] at hi
    rcases List.mem_append.mp hi with q | q
    · have := h.kb i q
      exact ⟨this.1, this.2.1, fun z => this.2.2 (List.mem_append_left _ z)⟩
    · rw [List.mem_singleton.mp q]
      exact ⟨f1, f2, hfms⟩
  · rw [hN]
    exact h.nb g (List.mem_append_left _ hg)
  · rcases List.mem_append.mp hm with q | q
    · have hkm : i ∈ keysI kvs := List.mem_map_of_mem q
      have := (h.kb i hkm).1
      rw [h0 i (by omega) (fun e => hnk (e ▸ hkm))]
      exact h.cv i u q
    · cases List.mem_singleton.mp q
      rw [updC_eq]
      exact ⟨rfl, hv⟩
  · rw [updC_ne (show Ky.i 0 ≠ Ky.i f by simpa using Ne.symm hf0), updC_eq]
    refine Chn.congr hch.2 fun g hg => h0 g ?_ ?_
    · have := h.nb g (List.mem_append_left _ (List.mem_reverse.mp hg)); omega
    · rintro rfl; exact hfms (List.mem_reverse.mp hg)
  · rw [hN] at hi
    rw [h0 i (by omega) (by omega)]
    exact h.hi i hi
  · rw [h0 i (by omega) (by omega)]
    exact h.lo i hi
  · rw [hN] at b
    rw [hks]
    by_cases e : i = f
    · exact .inl (List.mem_append_right _ (List.mem_singleton.mpr e))
    · rcases h.co i a b with q | q
      · exact .inl (List.mem_append_left _ q)
      · rcases List.mem_append.mp q with q | q
        · exact .inr q
        · exact absurd (List.mem_singleton.mp q) e
theorem KI.border {P : Params} {G : List (Addr × Obj)} {C : Ky → Value} {kvs : List (Int × Value)} (h : KI P G C kvs []) : Border (fun i => C (.i i)) kvs.length := by
  have hN : NK kvs [] = (kvs.length : Int) := by show (kvs.length : Int) + 0 = _; omega
  refine ⟨fun i a b => ?_, fun i a => h.hi i (by rw [hN]; exact a)⟩
  rcases h.co i a (by rw [hN]; exact b) with q | q
  · obtain ⟨v, _, hm⟩ := valueAt_mem q
    obtain ⟨e, hv⟩ := h.cv i v hm
    show C (.i i) ≠ .none
    rw [e]; exact hv.ne.1
  · exact nomatch q
theorem KI.head0 {P : Params} {G : List (Addr × Obj)} {C : Ky → Value} {kvs : List (Int × Value)} (h : KI P G C kvs []) : C (.i 0) = .none := h.ch
theorem KI.head1 {P : Params} {G : List (Addr × Obj)} {C : Ky → Value} {kvs : List (Int × Value)} {ms : List Int} {f : Int} (h : KI P G C kvs (ms ++ [f])) : ∃ t, C (.i 0) = .int f t := by
  have hch := h.ch
  rw [List.reverse_append, List.reverse_singleton] at hch
  exact hch.1
end Mine
end
section
open PySem PySem.W PySem.Spec PySem.Calls PyProof.Rows
open PyProof.Rows
namespace Mine
theorem wdE4_1 : True := by
  k_with "gon" => repeat' ((fail_if_success (with_reducible show wpAny _ _ (exec (Stmt.For _ _ _ _ _) _) _ _ _)); (fail_if_success (with_reducible show WhileStep2 _ _ _ _ _ _ Flow.next _)); (fail_if_success (with_reducible show WhileStep2 _ _ _ _ _ _ Flow.cont _)); (first | (k_unfold; (try dsimp only)) | (k_end; wrow_close) | ((first | (with_reducible show wpAny _ _ (exec _ _) _ _ _) | (with_reducible show wpAny _ _ (execs _ _) _ _ _)); k_fold; (try (refine foldS ?_; intro Sx))) | walk1 | (dsimp only; walk1) | (leave1; walk_say "STEP leave1"; try dsimp only)))
  trivial
theorem mkHp {P : Params} {h₀ h : Heap} {L x d : Addr} {k0 k1 : Tok} {t0 t1 : Tok} {R : List (Addr × Obj)}
    (N : News h₀ L h ((x, instObj C_PlainHeap d) :: (d, dictOf [en P "last_number" k0 (.int 0 t0), en P "total" k1 (.int 0 t1)] 2) :: R)) (h1 : AllLt d R) (h2 : d < x) (ap : Apart R) :
    ∃ H : Hp, H.hp = x ∧ News h₀ L h (hpE P H ++ R) ∧ Apart (hpE P H ++ R) := by
  refine ⟨⟨x, d, fun | 0 => k0 | _ => k1, 0, t0, 0, t1⟩, rfl, fun p hp => N p hp, ?_⟩
  have m := allLt_mem h1
  refine List.nodup_cons.mpr ⟨fun hm => ?_, List.nodup_cons.mpr ⟨fun hm => ?_, ap⟩⟩
  · have hm : x ∈ d :: R.map (·.1) := hm
    simp only [List.mem_cons, List.mem_map] at hm
    rcases hm with e | ⟨p, hp, e⟩
    · exact absurd h2 (by rw [e]; exact Nat.lt_irrefl _)
    · exact absurd (Nat.lt_trans (m p hp) h2) (by rw [e]; exact Nat.lt_irrefl _)
  · have hm : d ∈ R.map (·.1) := hm
    simp only [List.mem_map] at hm
    obtain ⟨p, hp, e⟩ := hm
    exact absurd (m p hp) (by rw [e]; exact Nat.lt_irrefl _)
section
variable {prog : Program} {w : World} {p : Program} {loose : List Str} {mean : ExcName → Option Value} {mg mb : Str → Option Value}
  {dp un : Nat} {gd : Option (List Code)} {cn : Str} {cs : Scope} {a : Addr} {ccd : Value} {cl : List (Str × Addr)} {outer : List Env} {A₀ : Around} {base h₀ : Heap} {L : Addr} {m : Str → Option Value} {news : List (Addr × Obj)} {s : Shared} {E : Value → Shared → Prop} {Q : Value → Shared → Prop}
  (B : Below A₀ base outer h₀) (F : Fr h₀ L s.heap m) (X : (KK w.params).In h₀) (N : News h₀ L s.heap news) (T : Top p loose mean mg mb h₀) (hk : cs.kind = .function)
include B F X N T hk
set_option maxHeartbeats 4000000
theorem heap_new_C (hd : dp + 30 < recursionLimit) (hu : un + 200 < cLine) (ap : Apart news)
    (hret : ∀ h' tk' H, Fr h₀ L h' m → News h₀ L h' (hpE w.params H ++ news) → Apart (hpE w.params H ++ news) → Q (.ref H.hp) { s with heap := h', toks := tk' }) :
    wpAny (model prog w) (ktrTop dp un gd cn cs L a ccd cl outer) (call (.ref C_PlainHeap) []) Q E s := by
  refine call_cls F X N (by k_is) (by k_is) (by k_is) ?_
  intro x d h1 F1 N1 l1 l2
  replace l1 := allLt_of l1
  k_lt2 l2
  refine code_def (binds := [(Str.ofString "self", .ref x)]) B F1 X N1 T rfl rfl hk (by k_is) (by k_is) ?_ (BindsTo.of_eq rfl) (locs rfl) ?_ rfl rfl rfl (by decide)
  · k_room
  walk_at "ent"
  walk_at "gon"
  rename News _ _ _ _ => NZ
  rename Fr _ _ _ _ => FZ
  obtain ⟨H, v2, v3, v4⟩ := mkHp NZ l1 l2 ap
  rw [← v2]
  exact hret _ _ H FZ v3 v4
end
/-! the law's ledger -/
theorem news_of {h₀ h : Heap} {L : Addr} {l l' : List (Addr × Obj)} (N : News h₀ L h l) (s : ∀ p ∈ l', p ∈ l) : News h₀ L h l' := fun p hp => N p (s p hp)
theorem ap_perm {l l' : List (Addr × Obj)} (ap : Apart l) (s : List.Perm l' l) : Apart l' := (List.Perm.nodup_iff (List.Perm.map _ s)).mpr ap
theorem pm_swap {X G B R : List (Addr × Obj)} : List.Perm (X ++ (B ++ (G ++ R))) (X ++ (G ++ (B ++ R))) := by
  refine List.Perm.append_left X ?_
  rw [← List.append_assoc, ← List.append_assoc]
  exact List.Perm.append_right R List.perm_append_comm
theorem pm_front {X B R : List (Addr × Obj)} : List.Perm (X ++ (B ++ R)) (B ++ (X ++ R)) := by
  rw [← List.append_assoc, ← List.append_assoc]
  exact List.Perm.append_right R List.perm_append_comm
end Mine
end
section
open PySem PySem.W PySem.Spec PySem.Calls PyProof.Rows
namespace Mine
section
variable {X B R : List (Addr × Obj)} {q1 q2 q3 q4 q5 : Addr × Obj}
theorem mq1 : q1 ∈ X ++ (B ++ (q1 :: q2 :: q3 :: q4 :: q5 :: R)) := List.mem_append_right _ (List.mem_append_right _ (.head _))
theorem mq2 : q2 ∈ X ++ (B ++ (q1 :: q2 :: q3 :: q4 :: q5 :: R)) := List.mem_append_right _ (List.mem_append_right _ (.tail _ (.head _)))
theorem mq3 : q3 ∈ X ++ (B ++ (q1 :: q2 :: q3 :: q4 :: q5 :: R)) := List.mem_append_right _ (List.mem_append_right _ (.tail _ (.tail _ (.head _))))
theorem mq4 : q4 ∈ X ++ (B ++ (q1 :: q2 :: q3 :: q4 :: q5 :: R)) := List.mem_append_right _ (List.mem_append_right _ (.tail _ (.tail _ (.tail _ (.head _)))))
theorem mq5 : q5 ∈ X ++ (B ++ (q1 :: q2 :: q3 :: q4 :: q5 :: R)) := List.mem_append_right _ (List.mem_append_right _ (.tail _ (.tail _ (.tail _ (.tail _ (.head _))))))
end
theorem updF_at {d : Addr} {o : Obj} {post : List (Addr × Obj)} : ∀ {pre : List (Addr × Obj)}, Apart (pre ++ (d, o) :: post) → UpdF d o (pre ++ (d, o) :: post) (fun o' => pre ++ (d, o') :: post)
  | [], h => .head h.ne
  | p :: pre, h => .tail (fun q => h.ne (d, o) (List.mem_append_right _ (.head _)) q.symm) (updF_at h.tl)
theorem upd_at {d : Addr} {o o' : Obj} {post : List (Addr × Obj)} : ∀ {pre : List (Addr × Obj)}, Apart (pre ++ (d, o) :: post) → Upd d o o' (pre ++ (d, o) :: post) (pre ++ (d, o') :: post)
  | [], h => .head h.ne
  | p :: pre, h => .tail (fun q => h.ne (d, o) (List.mem_append_right _ (.head _)) q.symm) (upd_at h.tl)
theorem updF_q2 {X B R : List (Addr × Obj)} {q1 q3 q4 q5 : Addr × Obj} {d : Addr} {o : Obj} (h : Apart (X ++ (B ++ (q1 :: (d, o) :: q3 :: q4 :: q5 :: R)))) :
    UpdF d o (X ++ (B ++ (q1 :: (d, o) :: q3 :: q4 :: q5 :: R))) (fun o' => X ++ (B ++ (q1 :: (d, o') :: q3 :: q4 :: q5 :: R))) := by
  have e : ∀ o', X ++ (B ++ (q1 :: (d, o') :: q3 :: q4 :: q5 :: R)) = (X ++ (B ++ [q1])) ++ (d, o') :: (q3 :: q4 :: q5 :: R) := fun o' => by simp
  have := updF_at (pre := X ++ (B ++ [q1])) (post := q3 :: q4 :: q5 :: R) (by rw [← e]; exact h)
  rw [e]
  simp only [← e] at this
  simpa using this
theorem upd_q3 {X B R : List (Addr × Obj)} {q1 q2 q4 q5 : Addr × Obj} {d : Addr} {o o' : Obj} (h : Apart (X ++ (B ++ (q1 :: q2 :: (d, o) :: q4 :: q5 :: R)))) :
    Upd d o o' (X ++ (B ++ (q1 :: q2 :: (d, o) :: q4 :: q5 :: R))) (X ++ (B ++ (q1 :: q2 :: (d, o') :: q4 :: q5 :: R))) := by
  have e : ∀ o', X ++ (B ++ (q1 :: q2 :: (d, o') :: q4 :: q5 :: R)) = (X ++ (B ++ [q1, q2])) ++ (d, o') :: (q4 :: q5 :: R) := fun o' => by simp
  rw [e, e]
  exact upd_at (by rw [← e]; exact h)
theorem ap_q {X B R : List (Addr × Obj)} {q1 q2 q3 q4 q5 r1 r2 r3 r4 r5 : Addr × Obj} (h : Apart (X ++ (B ++ (q1 :: q2 :: q3 :: q4 :: q5 :: R)))) (e1 : r1.1 = q1.1) (e2 : r2.1 = q2.1) (e3 : r3.1 = q3.1) (e4 : r4.1 = q4.1) (e5 : r5.1 = q5.1) :
    Apart (X ++ (B ++ (r1 :: r2 :: r3 :: r4 :: r5 :: R))) := h.of_ad (by simp [e1, e2, e3, e4, e5])
section
variable {prog : Program} {w : World} {A : Around} {E : Value → Shared → Prop} {s : Shared} {h₀ : Heap} {L d : Addr} {m : Str → Option Value} {news : List (Addr × Obj)} {o : Obj}
theorem popM {K : Type} [DecidableEq K] {knd : KeyKind prog w K} {kvs : List (K × Value)} {pl : Sem Bool} {Q : Value × List Value → Shared → Prop} (N : News h₀ L s.heap news) (hp : (d, o) ∈ news) (hd : o.IsDictOf knd kvs) (h : Q (.builtin "dict.pop", [.ref d]) s) :
    wpAny (model prog w) A (getMethod (.ref d) "pop" pl) Q E s :=
  have hD := kda_dict N hp hd
  getMethod_builtin hD.typeIs PySem.F.plainAttrs_dict PySem.F.slot_dict_pop PySem.F.type_dict_pop hD.mapOf.noDict h
noncomputable def AllBelow (news : List (Addr × Obj)) (D : Addr) : Prop := ∀ p ∈ news, p.1 < D
theorem sortedI {l : Addr} {vs : List Value} {n : Nat} {ns : List Int} {Q : Value → Shared → Prop} (F : Fr h₀ L s.heap m) (N : News h₀ L s.heap news) (hm : (l, listOf vs.toArray n) ∈ news) (hI : IntsAre vs ns) (h64 : ns.length ≤ 60)
    (h : ∀ (D : Addr) (h' : Heap) (vs' : List Value) (ns' : List Int) (e : Nat), Fr h₀ L h' m → News h₀ L h' ((D, listOf vs'.toArray e) :: news) → AllBelow news D → IntsAre vs' ns' → ns'.Perm ns → Q (.ref D) { s with heap := h' }) :
    wpAny (model prog w) A (call (.builtin "sorted") [.ref l]) Q E s :=
  sorted_N F N (isList_led N hm) hI (by rw [hI.length]; omega) fun h' vs' ns' e F' N' hI' hp' _ => h _ h' vs' ns' e F' N' (fun p hp => Nat.lt_succ_of_lt (Heap.lt_size (N p hp).1)) hI' hp'
end
theorem valueAt_of {kvs : List (Int × Value)} {k : Int} {v : Value} (hn : (keysI kvs).Nodup) (h : (k, v) ∈ kvs) : valueAt kvs k = some v := by
  induction kvs with
  | nil => exact nomatch h
  | cons p r ih =>
    obtain ⟨a, b⟩ := p
    have hn' := List.nodup_cons.mp hn
    rcases List.mem_cons.mp h with e | h
    · cases e; simp [valueAt]
    · have hne : a ≠ k := by
        rintro rfl
        exact hn'.1 (List.mem_map.mpr ⟨_, h, rfl⟩)
      have := ih hn'.2 h
      unfold valueAt at this ⊢
      rw [List.find?_cons_of_neg (by simp [hne])]
      exact this
theorem intsAre_at : ∀ {vs : List Value} {ns : List Int}, IntsAre vs ns → ∀ {i : Nat}, i < ns.length → ∃ k t, vs[i]? = some (.int k t) ∧ k ∈ ns
  | _, _, .cons n t h, 0, _ => ⟨n, t, rfl, .head _⟩
  | _, _, .cons n t h, i + 1, hi => by
    obtain ⟨k, t', e, hm⟩ := intsAre_at h (i := i) (by simpa using hi)
    exact ⟨k, t', by simpa using e, .tail _ hm⟩
theorem intsAre_snoc {vs : List Value} {ms : List Int} {f : Int} (h : IntsAre vs (ms ++ [f])) : ∃ us t, vs = us ++ [.int f t] ∧ IntsAre us ms := by
  induction ms generalizing vs with
  | nil =>
    cases h with
    | cons n t h2 => cases h2; exact ⟨[], t, rfl, .nil⟩
  | cons a r ih =>
    cases h with
    | cons n t h2 =>
      obtain ⟨us, t', rfl, h3⟩ := ih h2
      exact ⟨.int a t :: us, t', rfl, .cons a t h3⟩
end Mine
namespace Mine
section
variable {prog : Program} {w : World} {A : Around} {E : Value → Shared → Prop} {s : Shared} {h₀ : Heap} {L d : Addr} {m : Str → Option Value} {news news' : List (Addr × Obj)} {o : Obj}
theorem popL {us vs : List Value} {y : Value} {n : Nat} {Q : Value → Shared → Prop} (F : Fr h₀ L s.heap m) (N : News h₀ L s.heap news) (e : vs = us ++ [y]) (U : Upd d (listOf vs.toArray n) (listOf us.toArray (n + 1)) news news') (hz : vs.length ≤ 1000)
    (h : ∀ h', Fr h₀ L h' m → News h₀ L h' news' → Q y { s with heap := h' }) : wpAny (model prog w) A (call (.builtin "list.pop") [.ref d]) Q E s := by
  subst e
  refine kl_pop F N (p := us) (y := y) ?_ U (kdl_size (by have hz' : (us ++ [y]).length ≤ 1000 := hz; show ((us ++ [y]).toArray.toList).length ≤ 16777216; rw [show (us ++ [y]).toArray.toList = us ++ [y] from rfl]; omega)) h
  exact kpa_last y us
theorem lastL {value slice : PySem.Expr} {us vs : List Value} {y : Value} {n : Nat} {u : Tok} {Q : Value → Shared → Prop} (N : News h₀ L s.heap news) (hm : (d, listOf vs.toArray n) ∈ news) (e : vs = us ++ [y]) (h : Q y s)
    (hs : subscripted slice false (.ref d) (.int (-1) u) = operate [.ref d, .int (-1) u] (getItem (.ref d) (.int (-1) u)) := by with_unfolding_all rfl) :
    wpAny (model prog w) A (subscriptTail value slice (.ref d) (.int (-1) u)) Q E s := by
  subst e
  refine kde_neg (isList_led N hm) (by decide) (by decide) (j := us.length) ?_ (by simp) h hs
  unfold seqIndex?
  simp
  omega
end
end Mine
end
section
open PySem PySem.W PySem.Spec PySem.Calls PyProof.Rows
open PyProof.Rows
namespace Mine
theorem wdF3_0 : True := by
  k_with_none
  k_with "ke_room" => ((try dsimp only [Ax]); first | units_room | exact Nat.le_of_ble_eq_true rfl)
  k_with "k_room" => ((try dsimp only [Ax]); ktr_room)
  k_with "k_units" => ((try dsimp only [Ax]); ktr_units)
  k_with "ent" => (intro _ _ _ _ _ _ _ _ _; (try k_fold); (refine foldA ?_; intro Ax); (conv in execs _ _ => arg 1; whnf))
  k_with "dep" => ((try dsimp only [ktrTop, Around.deeper, Around.in1, Around.under]); (first | (refine' room2 ?zqhR ?zqcR; (case zqhR => assumption); (case zqcR => exact Nat.le_of_ble_eq_true rfl)) | (refine' room0 ?zqhR; (case zqhR => assumption)) | (refine' room1 ?zqhR ?zqcR; (case zqhR => assumption); (case zqcR => exact Nat.le_of_ble_eq_true rfl)) | (refine' room3 ?zqhR ?zqcR; (case zqhR => assumption); (case zqcR => exact Nat.le_of_ble_eq_true rfl)) | omega))
  k_with "news" => first | assumption | exact news_tl0 (by assumption) | exact news_tl0 (news_tl0 (by assumption)) | exact news_tl0 (news_tl0 (news_tl0 (by assumption)))
  k_with "dec" => first | ((try simp only [beq_iff_eq, bne_iff_ne, decide_eq_true_eq, decide_eq_false_iff_not, Bool.and_eq_true, Bool.not_eq_true', Bool.not_eq_true, beq_eq_false_iff_ne, ne_eq]) <;> omega) | (simp; done)
  k_with "ite" => (k_here; k_openite; (first | refine ite_pos (by walk_at "dec") ?_ | refine ite_neg (by walk_at "dec") ?_))
  k_with "go" => repeat' ((fail_if_success (with_reducible show wpAny _ _ (exec (Stmt.While _ _ _ _) _) _ _ _)); (fail_if_success (with_reducible show wpAny _ _ (exec (Stmt.For _ _ _ _ _) _) _ _ _)); (fail_if_success (with_reducible show WhileStep2 _ _ _ _ _ _ Flow.next _)); (fail_if_success (with_reducible show WhileStep2 _ _ _ _ _ _ Flow.cont _)); (first | (k_unfold; (try dsimp only)) | (k_end; wrow_close) | ((first | (with_reducible show wpAny _ _ (exec _ _) _ _ _) | (with_reducible show wpAny _ _ (execs _ _) _ _ _)); k_fold; (try (refine foldS ?_; intro Sx))) | walk1 | (dsimp only; walk1) | (leave1; walk_say "STEP leave1"; try dsimp only)))
  k_with "subscriptTail" => (k_here; (with_reducible show wpAny _ _ (subscriptTail _ _ (Value.bytes _ _) (Value.int _ _)) _ _ _); k_dflt (refine' item_by ?zqf ?zqa ?zqb ?_ ?zqhs ?zqht; (case zqf => first | assumption | omega); (case zqa => first | assumption | omega); (case zqb => first | assumption | omega); (case zqhs => with_unfolding_all rfl); (case zqht => (intro _; with_unfolding_all rfl)); k_whole); intro _ _)
  k_with "subscriptTail" => (k_here; (with_reducible show wpAny _ _ (subscriptTail _ _ (Value.ref _) (Value.int _ _)) _ _ _); k_dflt (refine' item_led ?zqN ?zqm ?zqa ?zqb ?zqx ?_ ?zqhs; (case zqN => k_asm); (case zqm => k_mem); (case zqa => first | assumption | omega); (case zqb => first | assumption | omega); (case zqx => first | assumption | walk_at "item"); (case zqhs => with_unfolding_all rfl); k_whole))
  k_with "WhileStep2" => (dsimp only [WhileStep2])
  k_with "lenk" => first | assumption | exact refsN_len _ | exact rfl
  k_with "call builtin:len" => (k_here; (with_reducible show wpAny _ _ (call (Value.builtin "len") [Value.ref _]) _ _ _); k_dflt (refine' len_led ?zqN ?zqm ?zqk ?zqf ?_; (case zqN => k_asm); (case zqm => k_mem); (case zqk => walk_at "lenk"); (case zqf => first | assumption | omega); k_whole); intro _ _)
  k_with "binaryOp Mod int int" => (k_here; k_dflt (refine' mod_int' (by assumption) ?_; k_whole))
  k_with "item" => exact refsN_get (by assumption)
  k_with "k_handed" => assumption
  k_with "compareOp Is none" => (k_here; first | refine is_none_ne (by assumption) ?_ | refine is_none_eq (by assumption) ?_)
  k_with "compareOp IsNot none" => (k_here; first | refine isnot_none_ne (by assumption) ?_ | refine isnot_none_eq (by assumption) ?_)
  k_with "k_all" => assumption
  k_with "setItem ref int" => (k_here; (with_reducible show wpAny _ _ (setItem (Value.ref _) (Value.int _ _) _) _ _ _); k_dflt (refine' set_led ?zqF ?zqN ?zqU ?zqa ?zqb ?zqc ?_; (case zqF => k_asm); (case zqN => k_asm); (case zqU => k_upd); (case zqa => first | assumption | omega); (case zqb => first | assumption | omega); (case zqc => first | assumption | omega); k_whole); intro _ _ _; (try k_sweep))
  k_with "getItem ref int" => (k_here; (with_reducible show wpAny _ _ (getItem (Value.ref _) (Value.int _ _)) _ _ _); k_dflt (refine' get_led ?zqN ?zqm ?zqa ?zqb ?zqx ?_; (case zqN => k_asm); (case zqm => k_mem); (case zqa => first | assumption | omega); (case zqb => first | assumption | omega); (case zqx => first | assumption | walk_at "item"); k_whole))
  trivial
theorem wdF3_1 : True := by
  k_with "one" => (first | (k_unfold; (try dsimp only)) | (k_end; wrow_close) | ((first | (with_reducible show wpAny _ _ (exec _ _) _ _ _) | (with_reducible show wpAny _ _ (execs _ _) _ _ _)); k_fold; (try (refine foldS ?_; intro Sx))) | walk1 | (dsimp only; walk1) | (leave1; walk_say "STEP leave1"; try dsimp only))
  k_with "gon" => repeat' ((fail_if_success (with_reducible show wpAny _ _ (exec (Stmt.For _ _ _ _ _) _) _ _ _)); (fail_if_success (with_reducible show wpAny _ _ (exec (Stmt.If _ _ _ _) _) _ _ _)); (fail_if_success (with_reducible show wpAny _ _ (eval (Expr.ListComp _ _ _ _) _) _ _ _)); (fail_if_success (with_reducible show wpAny _ _ (pyIter (Value.ref _)) _ _ _)); (fail_if_success (with_reducible show wpAny _ _ (call (Value.ref 539) _) _ _ _)); (fail_if_success (with_reducible show wpAny _ _ (call (Value.ref 466) _) _ _ _)); (fail_if_success (with_reducible show wpAny _ _ (call (Value.ref 550) _) _ _ _)); (fail_if_success (with_reducible show wpAny _ _ (call (Value.ref 562) _) _ _ _)); (fail_if_success (with_reducible show wpAny _ _ (call (Value.ref 424) _) _ _ _)); (fail_if_success (with_reducible show wpAny _ _ (call (Value.ref 431) _) _ _ _)); (fail_if_success (with_reducible show wpAny _ _ (call (Value.ref 417) _) _ _ _)); (fail_if_success (with_reducible show wpAny _ _ (call (Value.ref 245) _) _ _ _)); (fail_if_success (with_reducible show wpAny _ _ (call (Value.ref 569) _) _ _ _)); (fail_if_success (with_reducible show wpAny _ _ (call (Value.ref 377) _) _ _ _)); (fail_if_success (with_reducible show WhileStep2 _ _ _ _ _ _ Flow.next _)); (fail_if_success (with_reducible show WhileStep2 _ _ _ _ _ _ Flow.cont _)); (first | (k_unfold; (try dsimp only)) | (k_end; wrow_close) | ((first | (with_reducible show wpAny _ _ (exec _ _) _ _ _) | (with_reducible show wpAny _ _ (execs _ _) _ _ _)); k_fold; (try (refine foldS ?_; intro Sx))) | walk1 | (dsimp only; walk1) | (leave1; walk_say "STEP leave1"; try dsimp only)))
  k_with "gow" => repeat' ((fail_if_success (with_reducible show wpAny _ _ (exec (Stmt.For _ _ _ _ _) _) _ _ _)); (fail_if_success (with_reducible show wpAny _ _ (eval (Expr.ListComp _ _ _ _) _) _ _ _)); (fail_if_success (with_reducible show wpAny _ _ (pyIter (Value.ref _)) _ _ _)); (fail_if_success (with_reducible show wpAny _ _ (call (Value.builtin "dict.pop") _) _ _ _)); (fail_if_success (with_reducible show wpAny _ _ (call (Value.builtin "list.append") _) _ _ _)); (fail_if_success (with_reducible show wpAny _ _ (call (Value.builtin "list.pop") _) _ _ _)); (fail_if_success (with_reducible show wpAny _ _ (setItem _ _ _) _ _ _)); (fail_if_success (with_reducible show wpAny _ _ (call (Value.ref 539) _) _ _ _)); (fail_if_success (with_reducible show wpAny _ _ (call (Value.ref 466) _) _ _ _)); (fail_if_success (with_reducible show wpAny _ _ (call (Value.ref 550) _) _ _ _)); (fail_if_success (with_reducible show wpAny _ _ (call (Value.ref 562) _) _ _ _)); (fail_if_success (with_reducible show wpAny _ _ (call (Value.ref 424) _) _ _ _)); (fail_if_success (with_reducible show wpAny _ _ (call (Value.ref 431) _) _ _ _)); (fail_if_success (with_reducible show wpAny _ _ (call (Value.ref 417) _) _ _ _)); (fail_if_success (with_reducible show wpAny _ _ (call (Value.ref 245) _) _ _ _)); (fail_if_success (with_reducible show wpAny _ _ (call (Value.ref 569) _) _ _ _)); (fail_if_success (with_reducible show wpAny _ _ (call (Value.ref 377) _) _ _ _)); (fail_if_success (with_reducible show WhileStep2 _ _ _ _ _ _ Flow.next _)); (fail_if_success (with_reducible show WhileStep2 _ _ _ _ _ _ Flow.cont _)); (first | (k_unfold; (try dsimp only)) | (k_end; wrow_close) | ((first | (with_reducible show wpAny _ _ (exec _ _) _ _ _) | (with_reducible show wpAny _ _ (execs _ _) _ _ _)); k_fold; (try (refine foldS ?_; intro Sx))) | walk1 | (dsimp only; walk1) | (leave1; walk_say "STEP leave1"; try dsimp only)))
  k_with "gob" => repeat' ((fail_if_success (with_reducible show wpAny _ _ (isTrue (Expr.BoolOp _ _ _) _ _) _ _ _)); (fail_if_success (with_reducible show wpAny _ _ (exec (Stmt.For _ _ _ _ _) _) _ _ _)); (fail_if_success (with_reducible show wpAny _ _ (eval (Expr.ListComp _ _ _ _) _) _ _ _)); (fail_if_success (with_reducible show wpAny _ _ (pyIter (Value.ref _)) _ _ _)); (fail_if_success (with_reducible show wpAny _ _ (call (Value.builtin "dict.pop") _) _ _ _)); (fail_if_success (with_reducible show wpAny _ _ (call (Value.builtin "list.append") _) _ _ _)); (fail_if_success (with_reducible show wpAny _ _ (call (Value.builtin "list.pop") _) _ _ _)); (fail_if_success (with_reducible show wpAny _ _ (setItem _ _ _) _ _ _)); (fail_if_success (with_reducible show wpAny _ _ (call (Value.ref 539) _) _ _ _)); (fail_if_success (with_reducible show wpAny _ _ (call (Value.ref 466) _) _ _ _)); (fail_if_success (with_reducible show wpAny _ _ (call (Value.ref 550) _) _ _ _)); (fail_if_success (with_reducible show wpAny _ _ (call (Value.ref 562) _) _ _ _)); (fail_if_success (with_reducible show wpAny _ _ (call (Value.ref 424) _) _ _ _)); (fail_if_success (with_reducible show wpAny _ _ (call (Value.ref 431) _) _ _ _)); (fail_if_success (with_reducible show wpAny _ _ (call (Value.ref 417) _) _ _ _)); (fail_if_success (with_reducible show wpAny _ _ (call (Value.ref 245) _) _ _ _)); (fail_if_success (with_reducible show wpAny _ _ (call (Value.ref 569) _) _ _ _)); (fail_if_success (with_reducible show wpAny _ _ (call (Value.ref 377) _) _ _ _)); (fail_if_success (with_reducible show WhileStep2 _ _ _ _ _ _ Flow.next _)); (fail_if_success (with_reducible show WhileStep2 _ _ _ _ _ _ Flow.cont _)); (first | (k_unfold; (try dsimp only)) | (k_end; wrow_close) | ((first | (with_reducible show wpAny _ _ (exec _ _) _ _ _) | (with_reducible show wpAny _ _ (execs _ _) _ _ _)); k_fold; (try (refine foldS ?_; intro Sx))) | walk1 | (dsimp only; walk1) | (leave1; walk_say "STEP leave1"; try dsimp only)))
  k_with "k_mem" => first | exact mq1 | exact mq2 | exact mq3 | exact mq4 | exact mq5 | exact .head _ | exact .tail _ (.head _) | exact .tail _ mq1 | exact .tail _ mq2 | exact .tail _ mq3 | exact .tail _ mq4 | exact .tail _ mq5 | exact .tail _ (.tail _ (.tail _ mq2)) | exact .tail _ (.tail _ (.tail _ mq4)) | exact .tail _ (.tail _ (.tail _ mq5)) | exact .tail _ (.tail _ mq1) | exact .tail _ (.tail _ mq2) | exact .tail _ (.tail _ mq3) | exact .tail _ (.tail _ mq4) | exact .tail _ (.tail _ mq5) | exact List.mem_append_left _ mem_t | exact List.mem_append_left _ mem_td
  k_with "call builtin:len" => (k_here; (with_reducible show wpAny _ _ (call (Value.builtin "len") [Value.ref _]) _ _ _); k_dflt (refine' kda_len (knd := PySem.intKind _ _) ?zqN ?zqm ?zqd ?zqlo ?zqfit ?_; (case zqN => k_asm); (case zqm => k_mem); (case zqd => assumption); (case zqlo => assumption); (case zqfit => omega); k_whole))
  k_with "subscriptTail" => (k_here; (with_reducible show wpAny _ _ (subscriptTail _ _ (Value.ref _) (Value.int (-1) _)) _ _ _); k_dflt (refine' lastL ?zqN ?zqm ?zqe ?_ ?zqhs; (case zqN => k_asm); (case zqm => k_mem); (case zqe => exact rfl); (case zqhs => with_unfolding_all rfl); k_whole))
  k_with "subscriptTail" => (k_here; (with_reducible show wpAny _ _ (subscriptTail _ _ (Value.ref _) (Value.int _ _)) _ _ _); k_dflt (refine' kda_item (knd := PySem.intKind _ _) ?zqN ?zqm ?zqd ?zqk ?zql ?_ ?zqhs ?zqhg; (case zqN => k_asm); (case zqm => k_mem); (case zqd => assumption); (case zqk => exact intKind_is _ _ _ _); (case zql => assumption); (case zqhs => with_unfolding_all rfl); (case zqhg => (intro _; with_unfolding_all rfl)); k_whole))
  k_with "call type:list" => (k_here; (with_reducible show wpAny _ _ (call (Value.type _) [Value.ref _]) _ _ _); k_dflt (refine' list_keysI rfl ?zqF ?zqN ?zqm ?zqd ?zqlo ?zqn ?_; (case zqF => k_asm); (case zqN => k_asm); (case zqm => k_mem); (case zqd => assumption); (case zqlo => assumption); (case zqn => omega); k_whole); intro _ _ _ _ _ _ _ _ _)
  k_with "call builtin:sorted" => (k_here; (with_reducible show wpAny _ _ (call (Value.builtin _) [Value.ref _]) _ _ _); k_dflt (refine' sortedI ?zqF ?zqN ?zqm ?zqI ?zqn ?_; (case zqF => k_asm); (case zqN => k_asm); (case zqm => k_mem); (case zqI => assumption); (case zqn => (simp only [List.length_map]; omega)); k_whole); intro _ _ _ _ _ _ _ _ _ _)
  k_with "getMethod ref" => (k_here; (with_reducible show wpAny _ _ (getMethod (Value.ref _) (PySem.Str.ofString "pop") _) _ _ _); k_dflt (refine' popM (knd := PySem.intKind _ _) ?zqN ?zqm ?zqd ?_; (case zqN => k_asm); (case zqm => k_mem); (case zqd => assumption); k_whole))
  trivial
theorem ap_ini {X G B R : List (Addr × Obj)} {q1 q4 q5 : Addr × Obj} (h : Apart (X ++ (G ++ (B ++ (q5 :: q4 :: q1 :: R))))) : Apart (q5 :: q4 :: (X ++ (B ++ (q1 :: (G ++ R))))) := LT.ap (bs := [X, G, B, [q5], [q4], [q1], R]) (.a (.b 0) (.a (.b 1) (.a (.b 2) (.a (.b 3) (.a (.b 4) (.a (.b 5) (.b 6))))))) (.a (.b 3) (.a (.b 4) (.a (.b 0) (.a (.b 2) (.a (.b 5) (.a (.b 1) (.b 6))))))) [] h rfl
theorem nw_ini {h₀ h : Heap} {L : Addr} {X G B R : List (Addr × Obj)} {q1 q4 q5 : Addr × Obj} (N : News h₀ L h (X ++ (G ++ (B ++ (q5 :: q4 :: q1 :: R))))) : News h₀ L h (q5 :: q4 :: (X ++ (B ++ (q1 :: (G ++ R))))) := LT.nw (bs := [X, G, B, [q5], [q4], [q1], R]) (.a (.b 0) (.a (.b 1) (.a (.b 2) (.a (.b 3) (.a (.b 4) (.a (.b 5) (.b 6))))))) (.a (.b 3) (.a (.b 4) (.a (.b 0) (.a (.b 2) (.a (.b 5) (.a (.b 1) (.b 6))))))) [] N rfl
theorem ap_can {X B R : List (Addr × Obj)} {q1 q2 q3 q4 q5 : Addr × Obj} (h : Apart (q3 :: q2 :: q5 :: q4 :: (X ++ (B ++ (q1 :: R))))) : Apart (X ++ (B ++ (q1 :: q2 :: q3 :: q4 :: q5 :: R))) := LT.ap (bs := [[q3], [q2], [q5], [q4], X, B, [q1], R]) (.a (.b 0) (.a (.b 1) (.a (.b 2) (.a (.b 3) (.a (.b 4) (.a (.b 5) (.a (.b 6) (.b 7)))))))) (.a (.b 4) (.a (.b 5) (.a (.b 6) (.a (.b 1) (.a (.b 0) (.a (.b 3) (.a (.b 2) (.b 7)))))))) [] h rfl
theorem nw_can {h₀ h : Heap} {L : Addr} {X B R : List (Addr × Obj)} {q1 q2 q3 q4 q5 : Addr × Obj} (N : News h₀ L h (q3 :: q2 :: q5 :: q4 :: (X ++ (B ++ (q1 :: R))))) : News h₀ L h (X ++ (B ++ (q1 :: q2 :: q3 :: q4 :: q5 :: R))) := LT.nw (bs := [[q3], [q2], [q5], [q4], X, B, [q1], R]) (.a (.b 0) (.a (.b 1) (.a (.b 2) (.a (.b 3) (.a (.b 4) (.a (.b 5) (.a (.b 6) (.b 7)))))))) (.a (.b 4) (.a (.b 5) (.a (.b 6) (.a (.b 1) (.a (.b 0) (.a (.b 3) (.a (.b 2) (.b 7)))))))) [] N rfl
theorem ap_tk {X B R : List (Addr × Obj)} {q1 q2 q3 q4 q5 : Addr × Obj} (h : Apart (X ++ (B ++ (q1 :: q2 :: q3 :: q4 :: q5 :: R)))) : Apart (q1 :: (X ++ (B ++ (q2 :: q3 :: q4 :: q5 :: R)))) := LT.ap (bs := [X, B, [q1], [q2], [q3], [q4], [q5], R]) (.a (.b 0) (.a (.b 1) (.a (.b 2) (.a (.b 3) (.a (.b 4) (.a (.b 5) (.a (.b 6) (.b 7)))))))) (.a (.b 2) (.a (.b 0) (.a (.b 1) (.a (.b 3) (.a (.b 4) (.a (.b 5) (.a (.b 6) (.b 7)))))))) [] h rfl
theorem nw_tk {h₀ h : Heap} {L : Addr} {X B R : List (Addr × Obj)} {q1 q2 q3 q4 q5 : Addr × Obj} (N : News h₀ L h (X ++ (B ++ (q1 :: q2 :: q3 :: q4 :: q5 :: R)))) : News h₀ L h (q1 :: (X ++ (B ++ (q2 :: q3 :: q4 :: q5 :: R)))) := LT.nw (bs := [X, B, [q1], [q2], [q3], [q4], [q5], R]) (.a (.b 0) (.a (.b 1) (.a (.b 2) (.a (.b 3) (.a (.b 4) (.a (.b 5) (.a (.b 6) (.b 7)))))))) (.a (.b 2) (.a (.b 0) (.a (.b 1) (.a (.b 3) (.a (.b 4) (.a (.b 5) (.a (.b 6) (.b 7)))))))) [] N rfl
theorem ap_kt {X B R : List (Addr × Obj)} {q1 q2 q3 q4 q5 : Addr × Obj} (h : Apart (q1 :: (X ++ (B ++ (q2 :: q3 :: q4 :: q5 :: R))))) : Apart (X ++ (B ++ (q1 :: q2 :: q3 :: q4 :: q5 :: R))) := LT.ap (bs := [[q1], X, B, [q2], [q3], [q4], [q5], R]) (.a (.b 0) (.a (.b 1) (.a (.b 2) (.a (.b 3) (.a (.b 4) (.a (.b 5) (.a (.b 6) (.b 7)))))))) (.a (.b 1) (.a (.b 2) (.a (.b 0) (.a (.b 3) (.a (.b 4) (.a (.b 5) (.a (.b 6) (.b 7)))))))) [] h rfl
theorem nw_kt {h₀ h : Heap} {L : Addr} {X B R : List (Addr × Obj)} {q1 q2 q3 q4 q5 : Addr × Obj} (N : News h₀ L h (q1 :: (X ++ (B ++ (q2 :: q3 :: q4 :: q5 :: R))))) : News h₀ L h (X ++ (B ++ (q1 :: q2 :: q3 :: q4 :: q5 :: R))) := LT.nw (bs := [[q1], X, B, [q2], [q3], [q4], [q5], R]) (.a (.b 0) (.a (.b 1) (.a (.b 2) (.a (.b 3) (.a (.b 4) (.a (.b 5) (.a (.b 6) (.b 7)))))))) (.a (.b 1) (.a (.b 2) (.a (.b 0) (.a (.b 3) (.a (.b 4) (.a (.b 5) (.a (.b 6) (.b 7)))))))) [] N rfl
theorem ap_gr {X G B R : List (Addr × Obj)} {q1 q2 q3 q4 q5 : Addr × Obj} (h : Apart (X ++ (G ++ (B ++ (q1 :: q2 :: q3 :: q4 :: q5 :: R))))) : Apart (X ++ (B ++ (q1 :: q2 :: q3 :: q4 :: q5 :: (G ++ R)))) := LT.ap (bs := [X, G, B, [q1], [q2], [q3], [q4], [q5], R]) (.a (.b 0) (.a (.b 1) (.a (.b 2) (.a (.b 3) (.a (.b 4) (.a (.b 5) (.a (.b 6) (.a (.b 7) (.b 8))))))))) (.a (.b 0) (.a (.b 2) (.a (.b 3) (.a (.b 4) (.a (.b 5) (.a (.b 6) (.a (.b 7) (.a (.b 1) (.b 8))))))))) [] h rfl
theorem nw_gr {h₀ h : Heap} {L : Addr} {X G B R : List (Addr × Obj)} {q1 q2 q3 q4 q5 : Addr × Obj} (N : News h₀ L h (X ++ (G ++ (B ++ (q1 :: q2 :: q3 :: q4 :: q5 :: R))))) : News h₀ L h (X ++ (B ++ (q1 :: q2 :: q3 :: q4 :: q5 :: (G ++ R)))) := LT.nw (bs := [X, G, B, [q1], [q2], [q3], [q4], [q5], R]) (.a (.b 0) (.a (.b 1) (.a (.b 2) (.a (.b 3) (.a (.b 4) (.a (.b 5) (.a (.b 6) (.a (.b 7) (.b 8))))))))) (.a (.b 0) (.a (.b 2) (.a (.b 3) (.a (.b 4) (.a (.b 5) (.a (.b 6) (.a (.b 7) (.a (.b 1) (.b 8))))))))) [] N rfl
theorem ap_lv {X B R : List (Addr × Obj)} {q1 q2 q3 q4 q5 : Addr × Obj} (h : Apart (X ++ (B ++ (q1 :: q2 :: q3 :: q4 :: q5 :: R)))) : Apart (B ++ (X ++ (q1 :: q2 :: q3 :: q4 :: q5 :: R))) := LT.ap (bs := [X, B, [q1], [q2], [q3], [q4], [q5], R]) (.a (.b 0) (.a (.b 1) (.a (.b 2) (.a (.b 3) (.a (.b 4) (.a (.b 5) (.a (.b 6) (.b 7)))))))) (.a (.b 1) (.a (.b 0) (.a (.b 2) (.a (.b 3) (.a (.b 4) (.a (.b 5) (.a (.b 6) (.b 7)))))))) [] h rfl
theorem nw_lv {h₀ h : Heap} {L : Addr} {X B R : List (Addr × Obj)} {q1 q2 q3 q4 q5 : Addr × Obj} (N : News h₀ L h (X ++ (B ++ (q1 :: q2 :: q3 :: q4 :: q5 :: R)))) : News h₀ L h (B ++ (X ++ (q1 :: q2 :: q3 :: q4 :: q5 :: R))) := LT.nw (bs := [X, B, [q1], [q2], [q3], [q4], [q5], R]) (.a (.b 0) (.a (.b 1) (.a (.b 2) (.a (.b 3) (.a (.b 4) (.a (.b 5) (.a (.b 6) (.b 7)))))))) (.a (.b 1) (.a (.b 0) (.a (.b 2) (.a (.b 3) (.a (.b 4) (.a (.b 5) (.a (.b 6) (.b 7)))))))) [] N rfl
theorem ap_vl {X G B R : List (Addr × Obj)} {q1 q2 q3 q4 q5 : Addr × Obj} (h : Apart (G ++ (B ++ (X ++ (q1 :: q2 :: q3 :: q4 :: q5 :: R))))) : Apart (X ++ (B ++ (q1 :: q2 :: q3 :: q4 :: q5 :: (G ++ R)))) := LT.ap (bs := [G, B, X, [q1], [q2], [q3], [q4], [q5], R]) (.a (.b 0) (.a (.b 1) (.a (.b 2) (.a (.b 3) (.a (.b 4) (.a (.b 5) (.a (.b 6) (.a (.b 7) (.b 8))))))))) (.a (.b 2) (.a (.b 1) (.a (.b 3) (.a (.b 4) (.a (.b 5) (.a (.b 6) (.a (.b 7) (.a (.b 0) (.b 8))))))))) [] h rfl
theorem nw_vl {h₀ h : Heap} {L : Addr} {X G B R : List (Addr × Obj)} {q1 q2 q3 q4 q5 : Addr × Obj} (N : News h₀ L h (G ++ (B ++ (X ++ (q1 :: q2 :: q3 :: q4 :: q5 :: R))))) : News h₀ L h (X ++ (B ++ (q1 :: q2 :: q3 :: q4 :: q5 :: (G ++ R)))) := LT.nw (bs := [G, B, X, [q1], [q2], [q3], [q4], [q5], R]) (.a (.b 0) (.a (.b 1) (.a (.b 2) (.a (.b 3) (.a (.b 4) (.a (.b 5) (.a (.b 6) (.a (.b 7) (.b 8))))))))) (.a (.b 2) (.a (.b 1) (.a (.b 3) (.a (.b 4) (.a (.b 5) (.a (.b 6) (.a (.b 7) (.a (.b 0) (.b 8))))))))) [] N rfl
theorem ap_tk2 {X B R : List (Addr × Obj)} {q0 q1 q2 q3 q4 q5 q6 : Addr × Obj} (h : Apart (q0 :: q6 :: (X ++ (B ++ (q1 :: q2 :: q3 :: q4 :: q5 :: R))))) : Apart (q1 :: q0 :: (X ++ (B ++ (q2 :: q3 :: q4 :: q5 :: R)))) := LT.ap (bs := [[q0], [q6], X, B, [q1], [q2], [q3], [q4], [q5], R]) (.a (.b 0) (.a (.b 1) (.a (.b 2) (.a (.b 3) (.a (.b 4) (.a (.b 5) (.a (.b 6) (.a (.b 7) (.a (.b 8) (.b 9)))))))))) (.a (.b 4) (.a (.b 0) (.a (.b 2) (.a (.b 3) (.a (.b 5) (.a (.b 6) (.a (.b 7) (.a (.b 8) (.b 9))))))))) [1] h rfl
theorem nw_tk2 {h₀ h : Heap} {L : Addr} {X B R : List (Addr × Obj)} {q0 q1 q2 q3 q4 q5 q6 : Addr × Obj} (N : News h₀ L h (q0 :: q6 :: (X ++ (B ++ (q1 :: q2 :: q3 :: q4 :: q5 :: R))))) : News h₀ L h (q1 :: q0 :: (X ++ (B ++ (q2 :: q3 :: q4 :: q5 :: R)))) := LT.nw (bs := [[q0], [q6], X, B, [q1], [q2], [q3], [q4], [q5], R]) (.a (.b 0) (.a (.b 1) (.a (.b 2) (.a (.b 3) (.a (.b 4) (.a (.b 5) (.a (.b 6) (.a (.b 7) (.a (.b 8) (.b 9)))))))))) (.a (.b 4) (.a (.b 0) (.a (.b 2) (.a (.b 3) (.a (.b 5) (.a (.b 6) (.a (.b 7) (.a (.b 8) (.b 9))))))))) [1] N rfl
theorem ap_kt2 {X B R : List (Addr × Obj)} {q0 q1 q2 q3 q4 q5 : Addr × Obj} (h : Apart (q1 :: q0 :: (X ++ (B ++ (q2 :: q3 :: q4 :: q5 :: R))))) : Apart (q0 :: (X ++ (B ++ (q1 :: q2 :: q3 :: q4 :: q5 :: R)))) := LT.ap (bs := [[q1], [q0], X, B, [q2], [q3], [q4], [q5], R]) (.a (.b 0) (.a (.b 1) (.a (.b 2) (.a (.b 3) (.a (.b 4) (.a (.b 5) (.a (.b 6) (.a (.b 7) (.b 8))))))))) (.a (.b 1) (.a (.b 2) (.a (.b 3) (.a (.b 0) (.a (.b 4) (.a (.b 5) (.a (.b 6) (.a (.b 7) (.b 8))))))))) [] h rfl
theorem nw_kt2 {h₀ h : Heap} {L : Addr} {X B R : List (Addr × Obj)} {q0 q1 q2 q3 q4 q5 : Addr × Obj} (N : News h₀ L h (q1 :: q0 :: (X ++ (B ++ (q2 :: q3 :: q4 :: q5 :: R))))) : News h₀ L h (q0 :: (X ++ (B ++ (q1 :: q2 :: q3 :: q4 :: q5 :: R)))) := LT.nw (bs := [[q1], [q0], X, B, [q2], [q3], [q4], [q5], R]) (.a (.b 0) (.a (.b 1) (.a (.b 2) (.a (.b 3) (.a (.b 4) (.a (.b 5) (.a (.b 6) (.a (.b 7) (.b 8))))))))) (.a (.b 1) (.a (.b 2) (.a (.b 3) (.a (.b 0) (.a (.b 4) (.a (.b 5) (.a (.b 6) (.a (.b 7) (.b 8))))))))) [] N rfl
theorem ap_out {X G B R : List (Addr × Obj)} {q0 q1 q2 q3 q4 q5 : Addr × Obj} (h : Apart (X ++ (B ++ (q1 :: q2 :: q3 :: q4 :: q5 :: (G ++ (q0 :: R)))))) : Apart (q0 :: (X ++ (B ++ (q1 :: q2 :: q3 :: q4 :: q5 :: (G ++ R))))) := LT.ap (bs := [X, B, [q1], [q2], [q3], [q4], [q5], G, [q0], R]) (.a (.b 0) (.a (.b 1) (.a (.b 2) (.a (.b 3) (.a (.b 4) (.a (.b 5) (.a (.b 6) (.a (.b 7) (.a (.b 8) (.b 9)))))))))) (.a (.b 8) (.a (.b 0) (.a (.b 1) (.a (.b 2) (.a (.b 3) (.a (.b 4) (.a (.b 5) (.a (.b 6) (.a (.b 7) (.b 9)))))))))) [] h rfl
theorem nw_out {h₀ h : Heap} {L : Addr} {X G B R : List (Addr × Obj)} {q0 q1 q2 q3 q4 q5 : Addr × Obj} (N : News h₀ L h (X ++ (B ++ (q1 :: q2 :: q3 :: q4 :: q5 :: (G ++ (q0 :: R)))))) : News h₀ L h (q0 :: (X ++ (B ++ (q1 :: q2 :: q3 :: q4 :: q5 :: (G ++ R))))) := LT.nw (bs := [X, B, [q1], [q2], [q3], [q4], [q5], G, [q0], R]) (.a (.b 0) (.a (.b 1) (.a (.b 2) (.a (.b 3) (.a (.b 4) (.a (.b 5) (.a (.b 6) (.a (.b 7) (.a (.b 8) (.b 9)))))))))) (.a (.b 8) (.a (.b 0) (.a (.b 1) (.a (.b 2) (.a (.b 3) (.a (.b 4) (.a (.b 5) (.a (.b 6) (.a (.b 7) (.b 9)))))))))) [] N rfl
theorem ap_end {X G B R : List (Addr × Obj)} {q1 q2 q3 q4 q5 : Addr × Obj} (h : Apart (X ++ (B ++ (q1 :: q2 :: q3 :: q4 :: q5 :: (G ++ R))))) : Apart (q1 :: ((X ++ (B ++ (q2 :: q3 :: q4 :: q5 :: G))) ++ R)) := LT.ap (bs := [X, B, [q1], [q2], [q3], [q4], [q5], G, R]) (.a (.b 0) (.a (.b 1) (.a (.b 2) (.a (.b 3) (.a (.b 4) (.a (.b 5) (.a (.b 6) (.a (.b 7) (.b 8))))))))) (.a (.b 2) (.a (.a (.b 0) (.a (.b 1) (.a (.b 3) (.a (.b 4) (.a (.b 5) (.a (.b 6) (.b 7))))))) (.b 8))) [] h rfl
theorem nw_end {h₀ h : Heap} {L : Addr} {X G B R : List (Addr × Obj)} {q1 q2 q3 q4 q5 : Addr × Obj} (N : News h₀ L h (X ++ (B ++ (q1 :: q2 :: q3 :: q4 :: q5 :: (G ++ R))))) : News h₀ L h (q1 :: ((X ++ (B ++ (q2 :: q3 :: q4 :: q5 :: G))) ++ R)) := LT.nw (bs := [X, B, [q1], [q2], [q3], [q4], [q5], G, R]) (.a (.b 0) (.a (.b 1) (.a (.b 2) (.a (.b 3) (.a (.b 4) (.a (.b 5) (.a (.b 6) (.a (.b 7) (.b 8))))))))) (.a (.b 2) (.a (.a (.b 0) (.a (.b 1) (.a (.b 3) (.a (.b 4) (.a (.b 5) (.a (.b 6) (.b 7))))))) (.b 8))) [] N rfl
theorem ap_it {X B R : List (Addr × Obj)} {q0 q1 q2 q3 q4 q5 : Addr × Obj} (h : Apart (q0 :: (X ++ (B ++ (q1 :: q2 :: q3 :: q4 :: q5 :: R))))) : Apart (X ++ (B ++ (q1 :: q2 :: q3 :: q4 :: q5 :: (q0 :: R)))) := LT.ap (bs := [[q0], X, B, [q1], [q2], [q3], [q4], [q5], R]) (.a (.b 0) (.a (.b 1) (.a (.b 2) (.a (.b 3) (.a (.b 4) (.a (.b 5) (.a (.b 6) (.a (.b 7) (.b 8))))))))) (.a (.b 1) (.a (.b 2) (.a (.b 3) (.a (.b 4) (.a (.b 5) (.a (.b 6) (.a (.b 7) (.a (.b 0) (.b 8))))))))) [] h rfl
theorem nw_it {h₀ h : Heap} {L : Addr} {X B R : List (Addr × Obj)} {q0 q1 q2 q3 q4 q5 : Addr × Obj} (N : News h₀ L h (q0 :: (X ++ (B ++ (q1 :: q2 :: q3 :: q4 :: q5 :: R))))) : News h₀ L h (X ++ (B ++ (q1 :: q2 :: q3 :: q4 :: q5 :: (q0 :: R)))) := LT.nw (bs := [[q0], X, B, [q1], [q2], [q3], [q4], [q5], R]) (.a (.b 0) (.a (.b 1) (.a (.b 2) (.a (.b 3) (.a (.b 4) (.a (.b 5) (.a (.b 6) (.a (.b 7) (.b 8))))))))) (.a (.b 1) (.a (.b 2) (.a (.b 3) (.a (.b 4) (.a (.b 5) (.a (.b 6) (.a (.b 7) (.a (.b 0) (.b 8))))))))) [] N rfl
theorem ap_ti {X B R : List (Addr × Obj)} {q0 q1 q2 q3 q4 q5 : Addr × Obj} (h : Apart (X ++ (B ++ (q1 :: q2 :: q3 :: q4 :: q5 :: (q0 :: R))))) : Apart (q0 :: (X ++ (B ++ (q1 :: q2 :: q3 :: q4 :: q5 :: R)))) := LT.ap (bs := [X, B, [q1], [q2], [q3], [q4], [q5], [q0], R]) (.a (.b 0) (.a (.b 1) (.a (.b 2) (.a (.b 3) (.a (.b 4) (.a (.b 5) (.a (.b 6) (.a (.b 7) (.b 8))))))))) (.a (.b 7) (.a (.b 0) (.a (.b 1) (.a (.b 2) (.a (.b 3) (.a (.b 4) (.a (.b 5) (.a (.b 6) (.b 8))))))))) [] h rfl
theorem nw_ti {h₀ h : Heap} {L : Addr} {X B R : List (Addr × Obj)} {q0 q1 q2 q3 q4 q5 : Addr × Obj} (N : News h₀ L h (X ++ (B ++ (q1 :: q2 :: q3 :: q4 :: q5 :: (q0 :: R))))) : News h₀ L h (q0 :: (X ++ (B ++ (q1 :: q2 :: q3 :: q4 :: q5 :: R)))) := LT.nw (bs := [X, B, [q1], [q2], [q3], [q4], [q5], [q0], R]) (.a (.b 0) (.a (.b 1) (.a (.b 2) (.a (.b 3) (.a (.b 4) (.a (.b 5) (.a (.b 6) (.a (.b 7) (.b 8))))))))) (.a (.b 7) (.a (.b 0) (.a (.b 1) (.a (.b 2) (.a (.b 3) (.a (.b 4) (.a (.b 5) (.a (.b 6) (.b 8))))))))) [] N rfl
/-- the state of the keeping law's loop -/
noncomputable def KBo (s : Shared) (b : Bool) (s9 : Shared) : Prop := b = false ∧ ∃ tk9, s9 = { heap := s.heap, gens := s.gens, drawn := s.drawn, toks := tk9, os := s.os }
inductive KS (prog : Program) (w : World) (d hdA fl c1 c2 hp t0 : Addr) (news : List (Addr × Obj)) (i : Nat) (nx : List (Addr × Obj)) : Prop
  | mk (T : Tab) (C : Ky → Value) (c : Int) (H : Hp) (od : Obj) (oh : Obj) (oT : Obj) (oH : Obj) (g : Int) (x : Int) (tg : Tok) (tx : Tok) (kvs : List (Int × Value)) (e : Nat) (fs : List Value) (ns : List Int) (G : List (Addr × Obj)) (zq0 : nx = tl w.params T ++ (hpE w.params H ++ ((d, od) :: (hdA, oh) :: (fl, listOf fs.toArray e) :: (c1, oT) :: (c2, oH) :: (G ++ news)))) (zq1 : Apart nx) (zq2 : TT T C c) (zq3 : c ≤ 2 * (i : Int)) (zq4 : od.IsDictOf (PySem.strKind prog w) (drK g tg x tx)) (zq5 : 0 ≤ g) (zq6 : (0 ≤ x ∧ x < 2147483647)) (zq7 : oh.IsDictOf (PySem.intKind prog w) kvs) (zq8 : IntsAre fs ns) (zq9 : KI w.params (G ++ news) C kvs ns) (zq10 : NK kvs ns ≤ (i : Int)) (zq11 : H.hp = hp) (zq12 : T.t = t0) (zq13 : oT.data = .cell (some (.ref t0))) (zq14 : oH.data = .cell (some (.ref hdA))) : KS prog w d hdA fl c1 c2 hp t0 news i nx
inductive KMid (prog : Program) (w : World) (g' : Heap) (L' d hdA fl c1 c2 hp t0 : Addr) (news : List (Addr × Obj)) (I : Addr) (it : Obj) (i : Nat) (s : Shared) (f : Flow) (s9 : Shared) : Prop
  | mk (zq0 : f = .next) (h9 : _) (tk9 : _) (m9 : _) (nx9 : _) (zq1 : s9 = { heap := h9, gens := s.gens, drawn := s.drawn, toks := tk9, os := s.os }) (zq2 : Fr g' L' h9 m9) (zq3 : News g' L' h9 ((I, it) :: nx9)) (zq4 : (∀ p ∈ nx9, p.1 ≠ I)) (zq5 : KS prog w d hdA fl c1 c2 hp t0 news (i + 1) nx9) (zq6 : m9 (Str.ofString "free") = some (.ref fl)) (zq7 : m9 (Str.ofString "heap") = some (.ref hp)) (zq8 : m9 (Str.ofString "draws") = some (.ref d)) : KMid prog w g' L' d hdA fl c1 c2 hp t0 news I it i s f s9
inductive KTl (prog : Program) (w : World) (g' : Heap) (L' fl hp d : Addr) (I : Addr) (it : Obj) (nx : List (Addr × Obj)) (s : Shared) (f : Flow) (s9 : Shared) : Prop
  | mk (zq0 : f = .next) (h9 : _) (tk9 : _) (m9 : _) (zq1 : s9 = { heap := h9, gens := s.gens, drawn := s.drawn, toks := tk9, os := s.os }) (zq2 : Fr g' L' h9 m9) (zq3 : News g' L' h9 ((I, it) :: nx)) (zq4 : m9 (Str.ofString "free") = some (.ref fl)) (zq5 : m9 (Str.ofString "heap") = some (.ref hp)) (zq6 : m9 (Str.ofString "draws") = some (.ref d)) : KTl prog w g' L' fl hp d I it nx s f s9
theorem all_cons {D : Addr} {p : Addr × Obj} {r : List (Addr × Obj)} (h : p.1 ≠ D) (h2 : ∀ q ∈ r, q.1 ≠ D) : ∀ q ∈ p :: r, q.1 ≠ D := fun q hq => by
  rcases List.mem_cons.mp hq with rfl | hq
  · exact h
  · exact h2 q hq
theorem wdF3_2 : True := by
  k_with "k_all" => exact all_cons (by k_ne) (by assumption)
  trivial
section
variable {prog : Program} {w : World} {p : Program} {loose : List Str} {mean : ExcName → Option Value} {mg mb : Str → Option Value}
  {dp un : Nat} {gd : Option (List Code)} {cn : Str} {cs : Scope} {a : Addr} {ccd : Value} {cl : List (Str × Addr)} {outer : List Env} {A₀ : Around} {base h₀ : Heap} {L : Addr} {m : Str → Option Value} {news : List (Addr × Obj)} {s : Shared} {E : Value → Shared → Prop} {Q : Value → Shared → Prop}
  (B : Below A₀ base outer h₀) (F : Fr h₀ L s.heap m) (X : (KK w.params).In h₀) {d : Addr} {od : Obj} {g x : Int} {tg tx : Tok} (N : News h₀ L s.heap ((d, od) :: news)) (ap : Apart ((d, od) :: news)) (hdd : od.IsDictOf (PySem.strKind prog w) (drK g tg x tx)) (T : Top p loose mean mg mb h₀) (hk : cs.kind = .function)
include B F X N ap hdd T hk
set_option maxHeartbeats 4000000
theorem kept_C (hd : dp + 200 < recursionLimit) (hu : un + 1200 < cLine) (hg : 0 ≤ g) (hx : 0 ≤ x ∧ x < 2147483647)
    (hret : ∀ h' tk' od' g' tg' x' tx' G, 0 ≤ g' → 0 ≤ x' ∧ x' < 2147483647 → od'.IsDictOf (PySem.strKind prog w) (drK g' tg' x' tx') → Fr h₀ L h' m → News h₀ L h' ((d, od') :: (G ++ news)) → Apart ((d, od') :: (G ++ news)) → Q (.bool true) { s with heap := h', toks := tk' }) :
    wpAny (model prog w) (ktrTop dp un gd cn cs L a ccd cl outer) (call (.ref F_ulaw_kept_right) [.ref d]) Q E s := by
  refine wpAny_call ?_
  (refine' code_defC ?k1 ?k2 ?k3 ?k4 ?k5 ?kA ?kF ?kK ?k6 ?k7 ?k8 ?k9 ?kB ?kD ?_ ?c2 ?c3 ?c4; (case kA => exact rfl); (case kF => exact rfl); (case kK => first | assumption | exact rfl); (case k1 => k_asm); (case k2 => k_asm); (case k3 => k_asm); (case k4 => k_asm); (case k5 => k_asm); (case k6 => k_is); (case k7 => k_is); (case k8 => k_room); (case k9 => exact BindsTo.of_eq rfl); (case kB => exact rfl); (case kD => decide +kernel); (case c2 => exact rfl); (case c3 => exact rfl); (case c4 => exact rfl); k_whole; intro g' L' h' tk' cells' FG' F' N' Y' B' X' T' l1; k_cells Y'; (try simp only [List.cons_append, List.nil_append] at N'); (try dsimp only); (try k_fold))
  refine foldA ?_; intro Ax
  (conv in execs _ _ => arg 1; whnf)
  rename_i o2 o1 d2' d1'
  have d2 : o2.data = .cell none := d2'
  have d1 : o1.data = .cell none := d1'
  clear d2' d1'
  obtain ⟨m1, F0, hm1⟩ : ∃ m1, Fr g' L' h' m1 ∧ m1 (Str.ofString "draws") = some (.ref d) := ⟨_, F', rfl⟩
  clear F'
  rw [map1 hm1] at F0
  refine foldM F0 ?_; clear F0; intro Mx1 F0
  have apc : Apart ((L' + 1 + 1, o2) :: (L' + 1, o1) :: (d, od) :: news) := by
    refine List.nodup_cons.mpr ⟨fun hm => ?_, List.nodup_cons.mpr ⟨fun hm => ?_, ap⟩⟩
    · rcases List.mem_cons.mp hm with e | hm
      · exact absurd e (Nat.succ_ne_self _)
      · obtain ⟨p, hp, e⟩ := List.mem_map.mp hm
        exact absurd (Nat.lt_succ_of_lt (Nat.lt_succ_of_lt (l1 p hp))) (by rw [e]; exact Nat.lt_irrefl _)
    · obtain ⟨p, hp, e⟩ := List.mem_map.mp hm
      exact absurd (Nat.lt_succ_of_lt (l1 p hp)) (by rw [e]; exact Nat.lt_irrefl _)
  clear l1
  walk_at "gon"
  k_dflt (refine' heap_new_C ?B ?F ?X ?N ?T ?hk ?d ?u apc ?_; (case N => k_asm); (case B => k_asm); (case F => k_asm); (case X => k_asm); (case T => k_asm); (case hk => exact rfl); (case d => walk_at "dep"); (case u => walk_at "dep"))
  intro h1 tk1 H F1 N1 ap1
  walk_at "gon"
  k_dflt (refine' new_table_0 (H := H) ?B ?F ?X ?N ap1 ?T ?hk ?d ?u ?_; (case N => k_asm); (case B => k_asm); (case F => k_asm); (case X => k_asm); (case T => k_asm); (case hk => exact rfl); (case d => walk_at "dep"); (case u => walk_at "dep"))
  clear ap1 apc
  intro h2 tk2 T0 H1 G0 tt0 tT ht0 hH1 hH2 F2 N2 ap2
  replace N2 := nw_ini N2
  replace ap2 := ap_ini ap2
  obtain ⟨Z, hZ⟩ : ∃ Z, Z = tl w.params T0 ++ (hpE w.params H1 ++ ((d, od) :: (G0 ++ news))) := ⟨_, rfl⟩
  rw [← hZ] at N2 ap2
  have hc2 := ap2.ne
  have hc1 := ap2.tl.ne
  have hcZ2 : ∀ p ∈ Z, p.1 ≠ L' + 1 + 1 := fun p hp => hc2 p (.tail _ hp)
  walk_at "gon"
  rename_i hdA h6 oh hlo hs5 fs5 hheld fi5 l3 fl h5 l4 Dt h4 l5 h3 h2' oT dT h1' oH dH h0 F9 N9
  have apZ : Apart ((L' + 1 + 1, oH) :: (L' + 1, oT) :: Z) := ap2.of_ad rfl
  have ap3 : Apart ((hdA, oh) :: (L' + 1 + 1, oH) :: (L' + 1, oT) :: Z) := List.nodup_cons.mpr ⟨fun hm => by
    obtain ⟨p, hp, e⟩ := List.mem_map.mp hm
    have := allLt_mem (show AllLt hdA ((L' + 1 + 1, oH) :: (L' + 1, oT) :: Z) from l3) p hp
    exact absurd this (by rw [e]; exact Nat.lt_irrefl _), apZ⟩
  have ap4 : Apart ((fl, listOf ([] : List Value).toArray 0) :: (hdA, oh) :: (L' + 1 + 1, oH) :: (L' + 1, oT) :: Z) := List.nodup_cons.mpr ⟨fun hm => by
    obtain ⟨p, hp, e⟩ := List.mem_map.mp hm
    have := allLt_mem (show AllLt fl ((hdA, oh) :: (L' + 1 + 1, oH) :: (L' + 1, oT) :: Z) from l4) p hp
    exact absurd this (by rw [e]; exact Nat.lt_irrefl _), ap3⟩
  have N10 := news_drop2 N9
  have N11 : News g' L' h0 ((fl, listOf ([] : List Value).toArray 0) :: (hdA, oh) :: (L' + 1 + 1, oH) :: (L' + 1, oT) :: Z) := N10
  rw [hZ] at N11 ap4
  replace N11 := nw_can N11
  replace ap4 := ap_can ap4
  clear N9 N10 ap3 apZ ap2 hc1 hc2 hcZ2 l3 l4 l5 hs5 fs5 fi5 hZ
  refine For_invVF (by assumption) rfl rfl ?_
  walk_at "gon"
  have N12 := nw_tk N11
  k_dflt (refine' take_C (d := d) ?B ?F ?X N12 (ap_tk ap4).ne hdd ?T ?hk ?d ?u hg hx (by decide) (by decide) ?_; (case B => k_asm); (case F => k_asm); (case X => k_asm); (case T => k_asm); (case hk => exact rfl); (case d => walk_at "dep"); (case u => walk_at "dep"))
  intro h12 tk12 n0 tn0 od1 g1 tg1 x1 tx1 hn0 hn1 hg1 hx1 hdd1 F12 N13
  have N14 := nw_kt N13
  have ap5 := ap_kt ((ap_tk ap4).of_ad (l' := (d, od1) :: _) rfl)
  clear N12 N13 ap4 N11
  walk_at "gon"
  rename_i hR F15 N15 _
  obtain ⟨n, hn⟩ := Int.eq_ofNat_of_zero_le (show 0 ≤ 1 + n0 by omega)
  rw [hn] at hR
  have hn10 : n ≤ 10 := by omega
  refine iter_rangeJ (n := n) (fun i m₁ nx => KS prog w d hdA fl (L' + 1) (L' + 1 + 1) H.hp T0.t news i nx ∧ m₁ "free" = some (.ref fl) ∧ m₁ "heap" = some (.ref H.hp) ∧ m₁ "draws" = some (.ref d)) rfl hR (small_one (by omega) (by omega) (by omega) (by omega)) (range_n n) F15 N15 ?_ ?_ ?_
  · exact ⟨⟨T0, _, 0, H1, od1, oh, oT, oH, g1, x1, tg1, tx1, [], 0, [], [], G0, rfl, ap5, tT, by omega, hdd1, hg1, hx1, hheld, .nil, KI.init, by show (0 : Int) + 0 ≤ 0; omega, hH1, rfl, dT, dH⟩, rfl, rfl, rfl⟩
  · clear hR F15 N15 ap5 tT hheld dT dH hdd1 hdd hx1
    rintro I i m₁ nx it t h tk hi hJJ ho F₁ N₁
    (try k_fold)
    obtain ⟨⟨T1, C, c, H2, od, oh, oT, oH, g, x, tg, tx, kvs, e, fs, ns, G, rfl, ap1, tt, hc, hdd, hg, hx, hhe, hfs, hki, hnk, hH, hT, dT, dH⟩, e1, e2, e3⟩ := hJJ
    rw [← hH] at e2
    rw [map3 e1 e2 e3] at F₁
    refine foldM F₁ ?_; clear F₁; intro Mx2 F₁
    rw [← hT] at dT
    have N2 := nw_it N₁
    have ap2 := ap_it (List.nodup_cons.mpr ⟨fun hm => by
      obtain ⟨p, hp, e⟩ := List.mem_map.mp hm
      exact ho p hp e, ap1⟩ : Apart ((I, it) :: _))
    clear N₁
    walk_at "gon"
    k_dflt (refine' take_C (d := d) ?B ?F ?X (nw_tk N2) (ap_tk ap2).ne hdd ?T ?hk ?d ?u hg hx (by decide) (by decide) ?_; (case B => k_asm); (case F => k_asm); (case X => k_asm); (case T => k_asm); (case hk => exact rfl); (case d => walk_at "dep"); (case u => walk_at "dep"))
    intro h3 tk3 r tr od2 g2 tg2 x2 tx2 hr0 hr1 hg2 hx2 hdd2 F3 N3
    have N4 := nw_kt N3
    have ap3 := ap_kt ((ap_tk ap2).of_ad (l' := (d, od2) :: _) rfl)
    clear N3 ap2 N2 hdd
    walk_at "gon"
    refine wpAny_mono (Q := KMid prog w g' L' d hdA fl (L' + 1) (L' + 1 + 1) H.hp T0.t news I it i s) ?_ (fun fl9 s9 q9 => ?_) (fun _ _ e => e)
    · have hfsl := hfs.length
      have hnk' : (kvs.length : Int) + (ns.length : Int) ≤ (i : Int) := hnk
      have hk10 : kvs.length ≤ 10 := by omega
      have hn10' : ns.length ≤ 10 := by omega
      have hf10 : fs.length ≤ 10 := by omega
      by_cases cA : r = 3 ∧ 0 < kvs.length
      · obtain ⟨rfl, hkp⟩ := cA
        walk_at "gow"
        rename Fr _ _ _ _ => FA
        rename News _ _ _ _ => NA
        rename List.Perm _ _ => hPm
        rename IntsAre _ _ => hIs
        rename AllBelow _ _ => lsD
        have hdD := lsD (d, od2) (.tail _ mq1)
        have NT := nw_tk2 NA
        k_dflt (refine' take_C (d := d) ?B ?F ?X NT (all_cons (Nat.ne_of_gt (show @LT.lt Nat _ d _ from hdD)) (ap_tk ap3).ne) hdd2 ?T ?hk ?d ?u hg2 hx2 ?m1 ?m2 ?_; (case m1 => omega); (case m2 => omega); (case B => k_asm); (case F => k_asm); (case X => k_asm); (case T => k_asm); (case hk => exact rfl); (case d => walk_at "dep"); (case u => walk_at "dep"))
        intro h4 tk4 r4 tr4 od3 g3 tg3 x3 tx3 hr40 hr41 hg3 hx3 hdd3 F4 N4'
        have N5 := nw_kt2 N4'
        have ap5 := ap_q (r1 := (d, od3)) (r2 := (hdA, oh)) (r3 := (fl, listOf fs.toArray e)) (r4 := (L' + 1, oT)) (r5 := (L' + 1 + 1, oH)) ap3 rfl rfl rfl rfl rfl
        clear NT N4' NA hdd2 lsD
        have hpl := hPm.length_eq
        rw [List.length_map] at hpl
        obtain ⟨kk, tkk, hxk, hmem⟩ := intsAre_at hIs (i := r4.toNat) (by omega)
        have hkm : kk ∈ keysI kvs := hPm.mem_iff.mp hmem
        obtain ⟨kb1, kb2, _⟩ := hki.kb kk hkm
        have kb2' : kk ≤ (kvs.length : Int) + (ns.length : Int) := kb2
        obtain ⟨vv, hvv, _⟩ := valueAt_mem hkm
        have hr4' : r4 ≤ 1000000 := by omega
        walk_at "gow"
        k_dflt (refine' drop_value_pos (V := T1) (hp := H2.hp) ?B ?F ?X (news_drop2 (by assumption)) ap5 ?T ?hk ?d ?u tt ?hc (Hp.heapIn fun p hp => List.mem_append_left _ hp) ?h0 ?h1 ?_; (case hc => omega); (case h0 => omega); (case h1 => omega); (case B => k_asm); (case F => k_asm); (case X => k_asm); (case T => k_asm); (case hk => exact rfl); (case d => walk_at "dep"); (case u => walk_at "dep"))
        intro h5 tk5 V' G2 tV tV1 tV2 F5 N6 ap6
        replace N6 := nw_gr N6
        replace ap6 := ap_gr ap6
        clear ap5
        walk_at "gow"
        refine pop_I (by assumption) (by assumption) (updF_q2 ap6) hhe (by omega) hvv ?_
        intro h6 oh2 F6 N7 hhe2
        have ap7 := ap_q (r1 := (d, od3)) (r2 := (hdA, oh2)) (r3 := (fl, listOf fs.toArray e)) (r4 := (L' + 1, oT)) (r5 := (L' + 1 + 1, oH)) ap6 rfl rfl rfl rfl rfl
        clear hhe
        walk_at "gow"
        refine append_K (by assumption) (by assumption) (upd_q3 ap7) ?_ (by rw [List.size_toArray, sizeLine_eq]; omega)
        intro h7 F7 N8
        rw [List.push_toArray] at N8
        have ap8 := ap_q (r1 := (d, od3)) (r2 := (hdA, oh2)) (r3 := (fl, listOf (fs ++ [Value.int kk tkk]).toArray (e + 1))) (r4 := (L' + 1, oT)) (r5 := (L' + 1 + 1, oH)) ap7 rfl rfl rfl rfl rfl
        walk_at "gow"
        have hlw := without_len hki.kn hkm
        have N9 := nw_out N8
        have ap9 := ap_out ap8
        rw [← List.append_assoc G2 G news] at N9 ap9
        refine ⟨rfl, _, _, _, _, rfl, by assumption, N9, fun p hp => ap9.ne p hp, ⟨V', _, c + 2, H2, od3, oh2, oT, oH, g3, x3, tg3, tx3, without kvs kk, e + 1, fs ++ [Value.int kk tkk], ns ++ [kk], G2 ++ G, rfl, ap9.tl, tV, by omega, hdd3, hg3, hx3, hhe2, hfs.append (.cons _ _ .nil), (hki.drop hkm).mono fun p hp => by rw [List.append_assoc]; exact List.mem_append_right _ hp, ?_, hH, tV1.trans hT, by rw [dT, hT], dH⟩, rfl, by rw [← hH]; rfl, rfl⟩
        show ((without kvs kk).length : Int) + ((ns ++ [kk]).length : Int) ≤ ((i + 1 : Nat) : Int)
        rw [List.length_append, List.length_singleton]
        omega
      · by_cases cB : r = 2
        · subst cB
          walk_at "gow"
          k_dflt (refine' take_C (d := d) ?B ?F ?X (nw_tk (by assumption)) (ap_tk ap3).ne hdd2 ?T ?hk ?d ?u hg2 hx2 (by decide) (by decide) ?_; (case B => k_asm); (case F => k_asm); (case X => k_asm); (case T => k_asm); (case hk => exact rfl); (case d => walk_at "dep"); (case u => walk_at "dep"))
          intro h4 tk4 r4 tr4 od3 g3 tg3 x3 tx3 hr40 hr41 hg3 hx3 hdd3 F4 N4'
          have N5 := nw_kt N4'
          have ap5 := ap_q (r1 := (d, od3)) (r2 := (hdA, oh)) (r3 := (fl, listOf fs.toArray e)) (r4 := (L' + 1, oT)) (r5 := (L' + 1 + 1, oH)) ap3 rfl rfl rfl rfl rfl
          clear N4' hdd2
          walk_at "gow"
          k_dflt (refine' drop_value_neg (V := T1) (hp := H2.hp) ?B ?F ?X (by assumption) ap5 ?T ?hk ?d ?u tt ?hc (Hp.heapIn fun p hp => List.mem_append_left _ hp) ?h0 ?_; (case hc => omega); (case h0 => omega); (case B => k_asm); (case F => k_asm); (case X => k_asm); (case T => k_asm); (case hk => exact rfl); (case d => walk_at "dep"); (case u => walk_at "dep"))
          intro h5 tk5 F5 N6
          walk_at "gow"
          exact ⟨rfl, _, _, _, _, rfl, by assumption, nw_ti N6, fun p hp => (ap_ti ap5).ne p hp, ⟨T1, C, c, H2, od3, oh, oT, oH, g3, x3, tg3, tx3, kvs, e, fs, ns, G, rfl, (ap_ti ap5).tl, tt, by omega, hdd3, hg3, hx3, hhe, hfs, hki, by omega, hH, hT, by rw [dT, hT], dH⟩, rfl, by rw [← hH]; rfl, rfl⟩
        · have cC : r ≠ 3 ∨ (r = 3 ∧ kvs.length = 0) := by omega
          have mC : ∀ p ∈ G ++ news, p ∈ (I, it) :: (G ++ news) := fun p hp => .tail _ hp
          walk_at "gob"
          refine wpAny_mono (Q := KBo Sx) ?_ (fun b9 s9 q9 => ?_) (fun _ _ e => e)
          · rcases cC with c3 | ⟨rfl, c3⟩ <;>
            · walk_at "gow"
              exact ⟨rfl, _, rfl⟩
          · obtain ⟨rfl, tk9, rfl⟩ := q9
            walk_at "gow"
            k_dflt (refine' take_C (d := d) ?B ?F ?X (nw_tk (by assumption)) (ap_tk ap3).ne hdd2 ?T ?hk ?d ?u hg2 hx2 (by decide) (by decide) ?_; (case B => k_asm); (case F => k_asm); (case X => k_asm); (case T => k_asm); (case hk => exact rfl); (case d => walk_at "dep"); (case u => walk_at "dep"))
            intro h4 tk4 r4 tr4 od3 g3 tg3 x3 tx3 hr40 hr41 hg3 hx3 hdd3 F4 N4'
            have N5 := nw_kt N4'
            have ap5 := ap_q (r1 := (d, od3)) (r2 := (hdA, oh)) (r3 := (fl, listOf fs.toArray e)) (r4 := (L' + 1, oT)) (r5 := (L' + 1 + 1, oH)) ap3 rfl rfl rfl rfl rfl
            clear N4' hdd2
            walk_at "gow"
            k_dflt (refine' law_value_C (H := H2) ?B ?F ?X (nw_lv (by assumption)) (ap_lv ap5) ?T ?hk ?d ?u ⟨hr40, hr41⟩ ⟨by omega, by omega⟩ ?_; (case B => k_asm); (case F => k_asm); (case X => k_asm); (case T => k_asm); (case hk => exact rfl); (case d => walk_at "dep"); (case u => walk_at "dep"))
            intro h5 tk5 v H3 G2 hvk hH3 F5 N7 ap7
            have N8 := nw_vl N7
            have ap8 := ap_vl ap7
            dsimp only [Mx2] at F5
            rw [← hH3] at F5
            refine foldM F5 ?_; clear F5; intro Mx6 F5
            clear ap7 ap5
            rcases List.eq_nil_or_concat ns with rfl | ⟨ms, f, hms⟩
            · cases hfs
              walk_at "gow"
              k_dflt (refine' keep_value_new (V := T1) (hp := H3.hp) (n := kvs.length) ?B ?F ?X ?N ap8 ?T ?hk ?d ?u tt ?hc (Hp.heapIn fun p hp => List.mem_append_left _ hp) hvk.ne.2 hki.head0 hki.border (by omega) ?_; (case N => k_asm); (case hc => omega); (case B => k_asm); (case F => k_asm); (case X => k_asm); (case T => k_asm); (case hk => exact rfl); (case d => walk_at "dep"); (case u => walk_at "dep"))
              intro h6 tk6 t6 V' G3 tV tV1 tV2 F6 N9 ap9
              replace N9 := nw_gr N9
              replace ap9 := ap_gr ap9
              clear ap8
              walk_at "gow"
              refine kda_set (knd := PySem.intKind _ _) (by assumption) (by assumption) (updF_q2 ap9) hhe (intKind_is _ _ _ _) (kdl_size (by omega)) ?_
              intro h7 oh2 F7 N10 hhe2
              have ap10 := ap_q (r1 := (d, od3)) (r2 := (hdA, oh2)) (r3 := (fl, listOf ([] : List Value).toArray e)) (r4 := (L' + 1, oT)) (r5 := (L' + 1 + 1, oH)) ap9 rfl rfl rfl rfl rfl
              clear hhe
              obtain ⟨hki2, hnk2⟩ := KI.new (G := ((G3 ++ G2) ++ G) ++ news) (hki.mono fun p hp => by rw [List.append_assoc]; exact List.mem_append_right _ hp) (hvk.mono fun p hp => List.mem_append_left _ (List.mem_append_left _ (List.mem_append_right _ hp)))
              rw [stored_new hnk2] at hhe2
              walk_at "gow"
              rw [← List.append_assoc G3 G2] at N10 ap10
              have N11 := nw_out N10
              have ap11 := ap_out ap10
              rw [← List.append_assoc (G3 ++ G2) G news] at N11 ap11
              refine ⟨rfl, _, _, _, _, rfl, by assumption, N11, fun p hp => ap11.ne p hp, ⟨V', _, c + 2, H3, od3, oh2, oT, oH, g3, x3, tg3, tx3, _, e, [], [], (G3 ++ G2) ++ G, rfl, ap11.tl, tV.le (by omega), by omega, hdd3, hg3, hx3, hhe2, .nil, hki2, ?_, hH3.trans hH, tV1.trans hT, by rw [dT, hT], dH⟩, rfl, by rw [← hH, ← hH3]; rfl, rfl⟩
              show ((kvs ++ [_]).length : Int) + ((([] : List Int).length) : Int) ≤ ((i + 1 : Nat) : Int)
              rw [List.length_append, List.length_singleton]
              show _ + ((0 : Nat) : Int) ≤ _
              omega
            · rw [List.concat_eq_append] at hms
              subst hms
              obtain ⟨us, tf, rfl, hus⟩ := intsAre_snoc hfs
              have hfL : (us ++ [Value.int f tf]).length = us.length + 1 := by rw [List.length_append]; rfl
              obtain ⟨fb1, fb2⟩ := hki.nb f (List.mem_append_right _ (List.mem_singleton.mpr rfl))
              have fb2' : f ≤ (kvs.length : Int) + ((ms ++ [f]).length : Int) := fb2
              obtain ⟨t0', ht0'⟩ := hki.head1
              walk_at "gow"
              refine popL (by assumption) (by assumption) rfl (upd_q3 ap8) (by omega) ?_
              intro h5' F5' N8'
              have ap8' := ap_q (r1 := (d, od3)) (r2 := (hdA, oh)) (r3 := (fl, listOf us.toArray (e + 1))) (r4 := (L' + 1, oT)) (r5 := (L' + 1 + 1, oH)) ap8 rfl rfl rfl rfl rfl
              clear ap8
              walk_at "gow"
              k_dflt (refine' keep_value_old (V := T1) (hp := H3.hp) ?B ?F ?X ?N ap8' ?T ?hk ?d ?u tt ?hc (Hp.heapIn fun p hp => List.mem_append_left _ hp) hvk.ne.2 ht0' fb1 ?hf2 ?_; (case N => k_asm); (case hc => omega); (case hf2 => omega); (case B => k_asm); (case F => k_asm); (case X => k_asm); (case T => k_asm); (case hk => exact rfl); (case d => walk_at "dep"); (case u => walk_at "dep"))
              intro h6 tk6 t6 V' G3 tV tV1 tV2 F6 N9 ap9
              replace N9 := nw_gr N9
              replace ap9 := ap_gr ap9
              clear ap8'
              walk_at "gow"
              refine kda_set (knd := PySem.intKind _ _) (by assumption) (by assumption) (updF_q2 ap9) hhe (intKind_is _ _ _ _) (kdl_size (by omega)) ?_
              intro h7 oh2 F7 N10 hhe2
              have ap10 := ap_q (r1 := (d, od3)) (r2 := (hdA, oh2)) (r3 := (fl, listOf us.toArray (e + 1))) (r4 := (L' + 1, oT)) (r5 := (L' + 1 + 1, oH)) ap9 rfl rfl rfl rfl rfl
              clear hhe
              obtain ⟨hki2, hnk2⟩ := KI.old (G := ((G3 ++ G2) ++ G) ++ news) (hki.mono fun p hp => by rw [List.append_assoc]; exact List.mem_append_right _ hp) (hvk.mono fun p hp => List.mem_append_left _ (List.mem_append_left _ (List.mem_append_right _ hp)))
              rw [stored_new hnk2] at hhe2
              walk_at "gow"
              rw [← List.append_assoc G3 G2] at N10 ap10
              have N11 := nw_out N10
              have ap11 := ap_out ap10
              rw [← List.append_assoc (G3 ++ G2) G news] at N11 ap11
              refine ⟨rfl, _, _, _, _, rfl, by assumption, N11, fun p hp => ap11.ne p hp, ⟨V', _, c + 2, H3, od3, oh2, oT, oH, g3, x3, tg3, tx3, _, e + 1, us, ms, (G3 ++ G2) ++ G, rfl, ap11.tl, tV, by omega, hdd3, hg3, hx3, hhe2, hus, hki2, ?_, hH3.trans hH, tV1.trans hT, by rw [dT, hT], dH⟩, rfl, by rw [← hH, ← hH3]; rfl, rfl⟩
              show ((kvs ++ [_]).length : Int) + (ms.length : Int) ≤ ((i + 1 : Nat) : Int)
              rw [List.length_append, List.length_singleton]
              rw [List.length_append, List.length_singleton] at hnk'
              omega
    · obtain ⟨rfl, h9, tk9, m9, nx9, rfl, F9', N9', ho9, ⟨T2, C2, c2, H4, od4, oh4, oT4, oH4, g4, x4, tg4, tx4, kvs4, e4, fs4, ns4, G4, rfl, ap4, tt4, hc4, hdd4, hg4, hx4, hhe4, hfs4, hki4, hnk4, hH4, hT4, dT4, dH4⟩, f1, f2, f3⟩ := q9
      rw [map3 f1 f2 f3] at F9'
      refine foldM F9' ?_; clear F9'; intro Mx3 F9'
      have dT5 := dT4
      rw [← hT4] at dT5
      have N10 := nw_it N9'
      have hnk4' : (kvs4.length : Int) + (ns4.length : Int) ≤ ((i + 1 : Nat) : Int) := hnk4
      have hfsl4 := hfs4.length
      have hk410 : kvs4.length ≤ 12 := by omega
      have hf410 : fs4.length ≤ 12 := by omega
      have hn410 : ns4.length ≤ 12 := by omega
      clear ap3 tt hki hfs hhe hdd2 ap1 dT dH
      walk_at "gon"
      refine wpAny_mono (Q := KTl prog w g' L' fl H.hp d I it (tl w.params T2 ++ (hpE w.params H4 ++ ((d, od4) :: (hdA, oh4) :: (fl, listOf fs4.toArray e4) :: (L' + 1, oT4) :: (L' + 1 + 1, oH4) :: (G4 ++ news)))) s) ?_ (fun fl9 s9 q9 => ?_) (fun _ _ e => e)
      · rcases List.eq_nil_or_concat ns4 with rfl | ⟨ms, f, hms⟩
        · cases hfs4
          have hc0 := hki4.head0
          walk_at "gow"
          k_dflt (refine' free_number_none (V := T2) ?B ?F ?X ?N (ap_it (List.nodup_cons.mpr ⟨fun hm => by
            obtain ⟨p, hp, e⟩ := List.mem_map.mp hm
            exact ho9 p hp e, ap4⟩ : Apart ((I, it) :: _))) ?T ?hk ?d ?u tt4 hc0 rfl ?_; (case N => k_asm); (case B => k_asm); (case F => k_asm); (case X => k_asm); (case T => k_asm); (case hk => exact rfl); (case d => walk_at "dep"); (case u => walk_at "dep"))
          intro h10 tk10 F10 N11
          walk_at "gow"
          rename Fr _ _ _ _ => FZ
          rename News _ _ _ _ => NZ
          exact ⟨rfl, _, _, _, rfl, FZ, nw_ti NZ, rfl, rfl, rfl⟩
        · rw [List.concat_eq_append] at hms
          subst hms
          obtain ⟨us, tf, rfl, hus⟩ := intsAre_snoc hfs4
          obtain ⟨fb1, fb2⟩ := hki4.nb f (List.mem_append_right _ (List.mem_singleton.mpr rfl))
          obtain ⟨t0', ht0'⟩ := hki4.head1
          have hfL : (us ++ [Value.int f tf]).length = us.length + 1 := by rw [List.length_append]; rfl
          walk_at "gow"
          k_dflt (refine' free_number_int (V := T2) ?B ?F ?X ?N (ap_it (List.nodup_cons.mpr ⟨fun hm => by
            obtain ⟨p, hp, e⟩ := List.mem_map.mp hm
            exact ho9 p hp e, ap4⟩ : Apart ((I, it) :: _))) ?T ?hk ?d ?u tt4 ht0' fb1 rfl ?_; (case N => k_asm); (case B => k_asm); (case F => k_asm); (case X => k_asm); (case T => k_asm); (case hk => exact rfl); (case d => walk_at "dep"); (case u => walk_at "dep"))
          intro h10 tk10 F10 N11
          walk_at "gow"
          rename Fr _ _ _ _ => FZ
          rename News _ _ _ _ => NZ
          exact ⟨rfl, _, _, _, rfl, FZ, nw_ti NZ, rfl, rfl, rfl⟩
      · obtain ⟨rfl, h10, tk10, m10, rfl, F10, N11, f1', f2', f3'⟩ := q9
        rw [map3 f1' f2' f3'] at F10
        refine foldM F10 ?_; clear F10; intro Mx4 F10
        have N12 := nw_it N11
        walk_at "gow"
        k_dflt (refine comp_dict (PySem.intKind prog w) (F₀ := by k_asm) (by with_unfolding_all rfl) (by decide) (by rfl) (by decide) (by rfl) ?_)
        walk_at "gow"
        refine CompSrcD.mk rfl (by assumption) (by assumption) mq2 hhe4 hlo (by omega) (fun gg => ?_)
        refine compRest_none ?_ mq2 ?_ _ 0 (by omega)
        · rintro i k y v I2 oI C2' oC D2 m₂ h tk E' hik hkv hC hx F13 N13 off ne
          obtain ⟨tv, rfl⟩ := Value.isInt_shape hkv
          have hmem := List.mem_of_getElem? hik
          obtain ⟨hCk, hvk⟩ := hki4.cv k y hmem
          have hl := tt4.look (.i k)
          rw [hCk] at hl
          have hva := valueAt_of hki4.kn hmem
          walk_at "gow"
          k_dflt (refine' get_int_C (V := T2) ?B ?F ?X ?N ?T ?hk ?d ?u ?H tt4.iv.wf hl ?_; (case N => k_asm); (case H => exact fun p hp => .tail _ (.tail _ (.tail _ (List.mem_append_left _ hp)))); (case B => k_asm); (case F => k_asm); (case X => k_asm); (case T => k_asm); (case hk => exact rfl); (case d => walk_at "dep"); (case u => walk_at "dep"))
          intro h14 tk14 F14 N14
          walk_at "gow"
          k_dflt (refine' law_is_C ?B ?F ?X ?N ?T ?hk ?d ?u ?V ?_; (case N => k_asm); (case V => exact hvk.mono fun p hp => .tail _ (.tail _ (.tail _ (List.mem_append_right _ (List.mem_append_right _ (.tail _ (.tail _ (.tail _ (.tail _ (.tail _ (.tail _ hp))))))))))); (case B => k_asm); (case F => k_asm); (case X => k_asm); (case T => k_asm); (case hk => exact rfl); (case d => walk_at "dep"); (case u => walk_at "dep"))
          intro h15 tk15 F15 N15
          walk_at "gow"
          rename Fr _ _ _ _ => FZ
          rename News _ _ _ _ => NZ
          exact ⟨rfl, _, _, rfl, FZ, NZ⟩
        · intro D2 h13 tk13 F13 N13 o13
          walk_at "gow"
          rename Fr _ _ _ _ => FZ
          rename News _ _ _ _ => NZ
          exact UnrEnd.intro FZ (nw_ti (news_drop2 (news_drop2 NZ))) _ (fun p hp => hp) ho9 ⟨ho9, ⟨T2, C2, c2, H4, od4, oh4, oT4, oH4, g4, x4, tg4, tx4, kvs4, e4, fs4, ns4, G4, rfl, ap4, tt4, hc4, hdd4, hg4, hx4, hhe4, hfs4, hki4, hnk4, hH4, hT4, dT4, dH4⟩, rfl, rfl, rfl⟩
  · rintro h tk m₁ nx hJJ F₁ N₁
    (try k_fold)
    obtain ⟨⟨T1, C, c, H2, od, oh, oT, oH, g, x, tg, tx, kvs, e, fs, ns, G, rfl, ap1, tt, hc, hdd, hg, hx, hhe, hfs, hki, hnk, hH, hT, dT, dH⟩, e1, e2, e3⟩ := hJJ
    rw [map3 e1 e2 e3] at F₁
    refine foldM F₁ ?_; clear F₁; intro Mx5 F₁
    rw [← hT] at dT
    have hfsl := hfs.length
    have hnk' : (kvs.length : Int) + (ns.length : Int) ≤ (n : Int) := hnk
    have hk10 : kvs.length ≤ 12 := by omega
    have hf10 : fs.length ≤ 12 := by omega
    have hn10' : ns.length ≤ 12 := by omega
    have lk1 := tt.look (.i (-1))
    rw [hki.lo (-1) (by decide)] at lk1
    have lk2 := tt.look (.i ((kvs.length : Int) + (ns.length : Int) + 1))
    rw [hki.hi ((kvs.length : Int) + (ns.length : Int) + 1) (by show (kvs.length : Int) + (ns.length : Int) < _; omega)] at lk2
    walk_at "gow"
    k_dflt (refine' get_int_C (V := T1) ?B ?F ?X ?N ?T ?hk ?d ?u ?H tt.iv.wf lk1 ?_; (case N => k_asm); (case H => exact fun p hp => List.mem_append_left _ hp); (case B => k_asm); (case F => k_asm); (case X => k_asm); (case T => k_asm); (case hk => exact rfl); (case d => walk_at "dep"); (case u => walk_at "dep"))
    intro h14 tk14 F14 N14
    walk_at "gow"
    k_dflt (refine' get_int_C (V := T1) ?B ?F ?X ?N ?T ?hk ?d ?u ?H tt.iv.wf lk2 ?_; (case N => k_asm); (case H => exact fun p hp => List.mem_append_left _ hp); (case B => k_asm); (case F => k_asm); (case X => k_asm); (case T => k_asm); (case hk => exact rfl); (case d => walk_at "dep"); (case u => walk_at "dep"))
    intro h15 tk15 F15 N15
    walk_at "gow"
    rename Fr _ _ _ _ => FZ
    rename News _ _ _ _ => NZ
    exact hret _ _ od g tg x tx _ hg hx hdd FZ (nw_end NZ) (ap_end ap1)
end
end Mine
end
section
open PySem PySem.W PySem.Spec PySem.Calls PyProof.Rows
open PyProof.Rows
namespace Mine
theorem wdGA_0 : True := by
  k_with_none
  k_with "k_room" => ((try dsimp only [Ax]); ktr_room)
  k_with "k_units" => ((try dsimp only [Ax]); ktr_units)
  k_with "ent" => (intro _ _ _ _ _ _ _ _ _; (try k_fold); (refine foldA ?_; intro Ax); (conv in execs _ _ => arg 1; whnf))
  k_with "dep" => ((try dsimp only [ktrTop, Around.deeper, Around.in1, Around.under]); (first | (refine' room2 ?zqhR ?zqcR; (case zqhR => assumption); (case zqcR => exact Nat.le_of_ble_eq_true rfl)) | (refine' room0 ?zqhR; (case zqhR => assumption)) | (refine' room1 ?zqhR ?zqcR; (case zqhR => assumption); (case zqcR => exact Nat.le_of_ble_eq_true rfl)) | (refine' room3 ?zqhR ?zqcR; (case zqhR => assumption); (case zqcR => exact Nat.le_of_ble_eq_true rfl)) | omega))
  k_with "news" => first | assumption | exact news_tl0 (by assumption) | exact news_tl0 (news_tl0 (by assumption)) | exact news_tl0 (news_tl0 (news_tl0 (by assumption)))
  k_with "dec" => first | ((try simp only [beq_iff_eq, bne_iff_ne, decide_eq_true_eq, decide_eq_false_iff_not, Bool.and_eq_true, Bool.not_eq_true', Bool.not_eq_true, beq_eq_false_iff_ne, ne_eq]) <;> omega) | (simp; done)
  k_with "ite" => (k_here; k_openite; (first | refine ite_pos (by walk_at "dec") ?_ | refine ite_neg (by walk_at "dec") ?_))
  k_with "go" => repeat' ((fail_if_success (with_reducible show wpAny _ _ (exec (Stmt.While _ _ _ _) _) _ _ _)); (fail_if_success (with_reducible show wpAny _ _ (exec (Stmt.For _ _ _ _ _) _) _ _ _)); (fail_if_success (with_reducible show WhileStep2 _ _ _ _ _ _ Flow.next _)); (fail_if_success (with_reducible show WhileStep2 _ _ _ _ _ _ Flow.cont _)); (first | (k_unfold; (try dsimp only)) | (k_end; wrow_close) | ((first | (with_reducible show wpAny _ _ (exec _ _) _ _ _) | (with_reducible show wpAny _ _ (execs _ _) _ _ _)); k_fold; (try (refine foldS ?_; intro Sx))) | walk1 | (dsimp only; walk1) | (leave1; walk_say "STEP leave1"; try dsimp only)))
  k_with "subscriptTail" => (k_here; (with_reducible show wpAny _ _ (subscriptTail _ _ (Value.bytes _ _) (Value.int _ _)) _ _ _); k_dflt (refine' item_by ?zqf ?zqa ?zqb ?_ ?zqhs ?zqht; (case zqf => first | assumption | omega); (case zqa => first | assumption | omega); (case zqb => first | assumption | omega); (case zqhs => with_unfolding_all rfl); (case zqht => (intro _; with_unfolding_all rfl)); k_whole); intro _ _)
  k_with "subscriptTail" => (k_here; (with_reducible show wpAny _ _ (subscriptTail _ _ (Value.ref _) (Value.int _ _)) _ _ _); k_dflt (refine' item_led ?zqN ?zqm ?zqa ?zqb ?zqx ?_ ?zqhs; (case zqN => k_asm); (case zqm => k_mem); (case zqa => first | assumption | omega); (case zqb => first | assumption | omega); (case zqx => first | assumption | walk_at "item"); (case zqhs => with_unfolding_all rfl); k_whole))
  k_with "WhileStep2" => (dsimp only [WhileStep2])
  k_with "lenk" => first | assumption | exact refsN_len _ | exact rfl
  k_with "call builtin:len" => (k_here; (with_reducible show wpAny _ _ (call (Value.builtin "len") [Value.ref _]) _ _ _); k_dflt (refine' len_led ?zqN ?zqm ?zqk ?zqf ?_; (case zqN => k_asm); (case zqm => k_mem); (case zqk => walk_at "lenk"); (case zqf => first | assumption | omega); k_whole); intro _ _)
  k_with "binaryOp Mod int int" => (k_here; k_dflt (refine' mod_int' (by assumption) ?_; k_whole))
  k_with "item" => exact refsN_get (by assumption)
  k_with "k_handed" => assumption
  k_with "compareOp Is none" => (k_here; first | refine is_none_ne (by assumption) ?_ | refine is_none_eq (by assumption) ?_)
  k_with "compareOp IsNot none" => (k_here; first | refine isnot_none_ne (by assumption) ?_ | refine isnot_none_eq (by assumption) ?_)
  k_with "k_all" => assumption
  k_with "setItem ref int" => (k_here; (with_reducible show wpAny _ _ (setItem (Value.ref _) (Value.int _ _) _) _ _ _); k_dflt (refine' set_led ?zqF ?zqN ?zqU ?zqa ?zqb ?zqc ?_; (case zqF => k_asm); (case zqN => k_asm); (case zqU => k_upd); (case zqa => first | assumption | omega); (case zqb => first | assumption | omega); (case zqc => first | assumption | omega); k_whole); intro _ _ _; (try k_sweep))
  k_with "getItem ref int" => (k_here; (with_reducible show wpAny _ _ (getItem (Value.ref _) (Value.int _ _)) _ _ _); k_dflt (refine' get_led ?zqN ?zqm ?zqa ?zqb ?zqx ?_; (case zqN => k_asm); (case zqm => k_mem); (case zqa => first | assumption | omega); (case zqb => first | assumption | omega); (case zqx => first | assumption | walk_at "item"); k_whole))
  trivial
theorem wdGA_1 : True := by
  k_with "one" => (first | (k_unfold; (try dsimp only)) | (k_end; wrow_close) | ((first | (with_reducible show wpAny _ _ (exec _ _) _ _ _) | (with_reducible show wpAny _ _ (execs _ _) _ _ _)); k_fold; (try (refine foldS ?_; intro Sx))) | walk1 | (dsimp only; walk1) | (leave1; walk_say "STEP leave1"; try dsimp only))
  k_with "gon" => repeat' ((fail_if_success (with_reducible show wpAny _ _ (call (Value.builtin "list.append") _) _ _ _)); (fail_if_success (with_reducible show wpAny _ _ (call (Value.ref 466) _) _ _ _)); (fail_if_success (with_reducible show wpAny _ _ (call (Value.ref 266) _) _ _ _)); (fail_if_success (with_reducible show WhileStep2 _ _ _ _ _ _ Flow.next _)); (fail_if_success (with_reducible show WhileStep2 _ _ _ _ _ _ Flow.cont _)); (first | (k_unfold; (try dsimp only)) | (k_end; wrow_close) | ((first | (with_reducible show wpAny _ _ (exec _ _) _ _ _) | (with_reducible show wpAny _ _ (execs _ _) _ _ _)); k_fold; (try (refine foldS ?_; intro Sx))) | walk1 | (dsimp only; walk1) | (leave1; walk_say "STEP leave1"; try dsimp only)))
  trivial
/-! the two defs made in `_law_names_right` -/
noncomputable def defA : Option Stmt → Arguments
  | some (.FunctionDef _ a _ _ _ _ _ _ _ _) => a
  | _ => ⟨[], [], none, [], [], none, []⟩
noncomputable def defB : Option Stmt → List Stmt
  | some (.FunctionDef _ _ b _ _ _ _ _ _ _) => b
  | _ => []
noncomputable def defS : Option Stmt → Scope
  | some (.FunctionDef _ _ _ _ _ _ s _ _ _) => s
  | _ => S_ulaw_names_right
noncomputable def mkO (cM cH : Addr) (doc pm : Value) (c' : Addr) (ct : Value) : Obj :=
  fnMade (Str.ofString "make_one") (Str.ofString "_law_names_right.<locals>.make_one") (defA B_ulaw_names_right[2]?) (defB B_ulaw_names_right[2]?) (defS B_ulaw_names_right[2]?) [(Str.ofString "made", cM), (Str.ofString "heap", cH)] doc pm c' ct
noncomputable def ptO (cH : Addr) (doc pm : Value) (c' : Addr) (ct : Value) : Obj :=
  fnMade (Str.ofString "put_one") (Str.ofString "_law_names_right.<locals>.put_one") (defA B_ulaw_names_right[3]?) (defB B_ulaw_names_right[3]?) (defS B_ulaw_names_right[3]?) [(Str.ofString "heap", cH)] doc pm c' ct
/-- what make_one and put_one need in the ledger -/
structure Clo (mg : Str → Option Value) (cM cH mA hp : Addr) (fm fp : Addr) (R : List (Addr × Obj)) : Prop where
  m_ : ∃ doc ct c' oc vs t, (fm, mkO cM cH doc ((mg (Str.ofString "__name__")).getD .none) c' ct) ∈ R ∧ (c', oc) ∈ R ∧ oc.data = .fields vs ∧ vs[1]? = some (.str (Str.ofString "_law_names_right.<locals>.make_one") t)
  p_ : ∃ doc ct c' oc vs t, (fp, ptO cH doc ((mg (Str.ofString "__name__")).getD .none) c' ct) ∈ R ∧ (c', oc) ∈ R ∧ oc.data = .fields vs ∧ vs[1]? = some (.str (Str.ofString "_law_names_right.<locals>.put_one") t)
  cm : ∃ oM, (cM, oM) ∈ R ∧ oM.data = .cell (some (.ref mA))
  ch : ∃ oH, (cH, oH) ∈ R ∧ oH.data = .cell (some (.ref hp))
theorem Clo.mono {mg : Str → Option Value} {cM cH mA hp fm fp : Addr} {R R' : List (Addr × Obj)} (h : Clo mg cM cH mA hp fm fp R) (k : ∀ p ∈ R, p ∈ R') : Clo mg cM cH mA hp fm fp R' := by
  obtain ⟨⟨a1, a2, a3, a4, a5, a6, b1, b2, b3⟩, ⟨e1, e2, e3, e4, e5, e6, f1, f2, f3⟩, ⟨o1, g1, g2⟩, ⟨o2, g3, g4⟩⟩ := h
  exact ⟨⟨a1, a2, a3, a4, a5, a6, k _ b1, k _ b2, b3⟩, ⟨e1, e2, e3, e4, e5, e6, k _ f1, k _ f2, f3⟩, ⟨o1, k _ g1, g2⟩, ⟨o2, k _ g3, g4⟩⟩
theorem wdGA_2 : True := by
  k_with "k_mem" => first | exact .head _ | exact .tail _ (.head _) | exact .tail _ (.tail _ (.head _)) | assumption | exact .tail _ (.tail _ (.tail _ (by assumption))) | exact .tail _ (.tail _ (by assumption)) | exact .tail _ (by assumption) | exact List.mem_append_left _ mem_t | exact List.mem_append_left _ mem_td | exact List.mem_append_right _ (by assumption)
  k_with "ga_enter" => (refine' code_nest ?zqk1 ?zqk2 ?zqk3 ?zqk4 ?zqk5 ?zqkA ?zqkF ?zqkK ?zqk6 ?zqk7 ?zqk8 ?zqk9 ?zqkB ?_ ?zqc2 ?zqc3 ?zqc4 ?zqc5; (case zqkA => exact rfl); (case zqkF => exact rfl); (case zqkK => first | assumption | exact rfl); (case zqk1 => k_asm); (case zqk2 => k_asm); (case zqk3 => k_asm); (case zqk4 => k_asm); (case zqk5 => k_asm); (case zqk6 => k_mem); (case zqk7 => exact codeRec_news (by k_asm) (by k_mem) (by assumption) (by assumption)); (case zqk8 => k_room); (case zqk9 => exact BindsTo.of_eq rfl); (case zqc5 => decide +kernel); (case zqkB => exact locs rfl); (case zqc2 => exact rfl); (case zqc3 => exact rfl); (case zqc4 => exact rfl); k_whole; intro _ _ _ _ _ _ _ _ _)
  trivial
section
variable {prog : Program} {w : World} {p : Program} {loose : List Str} {mean : ExcName → Option Value} {mg mb : Str → Option Value}
  {dp un : Nat} {gd : Option (List Code)} {cn : Str} {cs : Scope} {a : Addr} {ccd : Value} {cl : List (Str × Addr)} {outer : List Env} {A₀ : Around} {base h₀ : Heap} {L : Addr} {m : Str → Option Value} {s : Shared} {E : Value → Shared → Prop} {Q : Value → Shared → Prop}
  (B : Below A₀ base outer h₀) (F : Fr h₀ L s.heap m) (X : (KK w.params).In h₀) {cM cH mA fm fp : Addr} {H : Hp} {vs : List Value} {e : Nat} {R : List (Addr × Obj)} (hC : CodeHd h₀ 578 576) (N : News h₀ L s.heap (hpE w.params H ++ ((mA, listOf vs.toArray e) :: R))) (ap : Apart (hpE w.params H ++ ((mA, listOf vs.toArray e) :: R))) (K : Clo mg cM cH mA H.hp fm fp R) (T : Top p loose mean mg mb h₀) (hk : cs.kind = .function)
include hC K B F X N ap T hk
set_option maxHeartbeats 4000000
theorem make_one_C {b : Bool} (hd : dp + 80 < recursionLimit) (hu : un + 500 < cLine) (hl : vs.length ≤ 100)
    (hret : ∀ h' tk' V H' G t, TT V (fun _ => .none) 1 → V.num = .int (H.n + 1) t → H'.hp = H.hp → Fr h₀ L h' m → News h₀ L h' (tl w.params V ++ (G ++ (hpE w.params H' ++ ((mA, listOf (vs ++ [Value.bool b]).toArray (e + 1)) :: R)))) → Apart (tl w.params V ++ (G ++ (hpE w.params H' ++ ((mA, listOf (vs ++ [Value.bool b]).toArray (e + 1)) :: R)))) → Q (.ref V.t) { s with heap := h', toks := tk' }) :
    wpAny (model prog w) (ktrTop dp un gd cn cs L a ccd cl outer) (call (.ref fm) [Value.bool b]) Q E s := by
  obtain ⟨⟨doc, ct, c', oc, vc, t, b1, b2, b3, b4⟩, -, ⟨oM, c1, c2⟩, ⟨oH, c3, c4⟩⟩ := K
  refine wpAny_call ?_
  walk_at "ga_enter"
  (try dsimp only)
  (try k_fold)
  (conv in execs _ _ => arg 1; whnf)
  walk_at "gon"
  refine append_K (by assumption) (by assumption) (upd_at (pre := hpE w.params H) ap) ?_ (by rw [List.size_toArray, sizeLine_eq]; omega)
  intro h7 F7 N8
  rw [List.push_toArray] at N8
  have ap8 : Apart (hpE w.params H ++ ((mA, listOf (vs ++ [Value.bool b]).toArray (e + 1)) :: R)) := ap.of_ad (by simp)
  walk_at "gon"
  k_dflt (refine' new_table_p (H := H) ?B ?F ?X ?N ap8 ?T ?hk ?d ?u ?p0 ?p2 ?_; (case N => k_asm); (case p0 => decide); (case p2 => decide); (case B => k_asm); (case F => k_asm); (case X => k_asm); (case T => k_asm); (case hk => exact rfl); (case d => walk_at "dep"); (case u => walk_at "dep"))
  intro h2 tk2 T0 H1 G0 tt0 tT ht0 hH1 hH2 F2 N2 ap6
  walk_at "gon"
  rename Fr _ _ _ _ => FZ
  rename News _ _ _ _ => NZ
  exact hret _ _ T0 H1 G0 tt0 tT ht0 hH1 FZ NZ ap6
end
section
variable {prog : Program} {w : World} {p : Program} {loose : List Str} {mean : ExcName → Option Value} {mg mb : Str → Option Value}
  {dp un : Nat} {gd : Option (List Code)} {cn : Str} {cs : Scope} {a : Addr} {ccd : Value} {cl : List (Str × Addr)} {outer : List Env} {A₀ : Around} {base h₀ : Heap} {L : Addr} {m : Str → Option Value} {s : Shared} {E : Value → Shared → Prop} {Q : Value → Shared → Prop}
  (B : Below A₀ base outer h₀) (F : Fr h₀ L s.heap m) (X : (KK w.params).In h₀) {cM cH mA fm fp hp : Addr} {V : Tab} {R : List (Addr × Obj)} (hC : CodeHd h₀ 578 576) (N : News h₀ L s.heap (tl w.params V ++ R)) (ap : Apart (tl w.params V ++ R)) (K : Clo mg cM cH mA hp fm fp R) (T : Top p loose mean mg mb h₀) (hk : cs.kind = .function)
include hC K B F X N ap T hk
set_option maxHeartbeats 4000000
theorem put_one_C {key v : Value} {k : Ky} {C : Ky → Value} {c : Int} (hd : dp + 120 < recursionLimit) (hu : un + 700 < cLine) (tt : TT V C c) (hc : c ≤ 400) (hh : HeapIn w.params hp R) (hkey : kyOf key = some k) (ok : KyOk k) (kb : KyB k) (hv : handedIn v = true)
    (hret : ∀ h' tk' V' G, TT V' (updC C k v) (c + 1) → V'.t = V.t → V'.num = V.num → Fr h₀ L h' m → News h₀ L h' (tl w.params V' ++ (G ++ R)) → Apart (tl w.params V' ++ (G ++ R)) → Q .none { s with heap := h', toks := tk' }) :
    wpAny (model prog w) (ktrTop dp un gd cn cs L a ccd cl outer) (call (.ref fp) [.ref V.t, key, v]) Q E s := by
  obtain ⟨-, ⟨doc, ct, c', oc, vc, t, b1, b2, b3, b4⟩, -, ⟨oH, c3, c4⟩⟩ := K
  refine wpAny_call ?_
  walk_at "ga_enter"
  (try dsimp only)
  (try k_fold)
  (conv in execs _ _ => arg 1; whnf)
  walk_at "gon"
  k_dflt (refine' set_C (R := R) ?B ?F ?X ?N ap ?T ?hk ?d ?u tt hc hh hkey ok kb hv rfl ?_; (case N => k_asm); (case B => k_asm); (case F => k_asm); (case X => k_asm); (case T => k_asm); (case hk => exact rfl); (case d => walk_at "dep"); (case u => walk_at "dep"))
  intro h2 tk2 V' G tV tV1 tV2 F2 N2 ap2
  walk_at "gon"
  rename Fr _ _ _ _ => FZ
  rename News _ _ _ _ => NZ
  exact hret _ _ V' G tV tV1 tV2 FZ NZ ap2
end
end Mine
end
section
open PySem PySem.W PySem.Spec PySem.Calls PyProof.Rows
namespace Mine
/-! bytes.split and bytes.join -/
theorem slot_bsplit : Slot "bytes" "split" "bytes.split" :=
  .of (owner := "bytes") (n := "split") (by rw [typeLookup_type, builtinLookup_eq_fast]; kernel_rfl) (by decide +kernel) (by decide +kernel) (by decide +kernel)
    (by first | exact .inl (by decide +kernel) | exact .inr (by decide +kernel)) (by rw [isSubtype_type]; kernel_rfl)
theorem type_bsplit : typeOf (.builtin "bytes.split") = pure (.type "method_descriptor") := by show builtinType _ = _; rw [builtinType_eq_fast]; kernel_rfl
theorem entry_bsplit : entryFor table "bytes.split" = some Builtin.«bytes.split» := entryFor_of_tree (by kernel_rfl)
theorem args_bsplit (a b : Value) : argsOk "bytes.split" ⟨[a, b], []⟩ := by
  unfold argsOk; rw [signature?_of (id := "bytes.split") (n := ['t', 'i', 'l', 'p', 's']) (o := ['s', 'e', 't', 'y', 'b']) (by kernel_rfl) FB.owner_bytes]; kernel_rfl
theorem slot_bjoin : Slot "bytes" "join" "bytes.join" :=
  .of (owner := "bytes") (n := "join") (by rw [typeLookup_type, builtinLookup_eq_fast]; kernel_rfl) (by decide +kernel) (by decide +kernel) (by decide +kernel)
    (by first | exact .inl (by decide +kernel) | exact .inr (by decide +kernel)) (by rw [isSubtype_type]; kernel_rfl)
theorem type_bjoin : typeOf (.builtin "bytes.join") = pure (.type "method_descriptor") := by show builtinType _ = _; rw [builtinType_eq_fast]; kernel_rfl
theorem entry_bjoin : entryFor table "bytes.join" = some Builtin.«bytes.join» := entryFor_of_tree (by kernel_rfl)
theorem args_bjoin (a b : Value) : argsOk "bytes.join" ⟨[a, b], []⟩ := by
  unfold argsOk; rw [signature?_of (id := "bytes.join") (n := ['n', 'i', 'o', 'j']) (o := ['s', 'e', 't', 'y', 'b']) (by kernel_rfl) FB.owner_bytes]; kernel_rfl
inductive BysAre : List Value → List (Array UInt8) → Prop
  | nil : BysAre [] []
  | cons {b : Array UInt8} (t : Tok) {vs : List Value} {bs : List (Array UInt8)} : BysAre vs bs → BysAre (.bytes b t :: vs) (b :: bs)
theorem BysAre.length {vs : List Value} {bs : List (Array UInt8)} (h : BysAre vs bs) : vs.length = bs.length := by
  induction h with
  | nil => rfl
  | cons _ _ ih => simp [ih]
open Builtin in
noncomputable def pieces (x : Array UInt8) : List (Array UInt8) := Bytes.between x 1 ((Bytes.occurrences x #[46] 0 x.size).take (x.size + 1))
theorem mapM_bys {M : Model} {A : Around} {E : Value → Shared → Prop} : ∀ (bs : List (Array UInt8)) (s : Shared) (Q : List Value → Shared → Prop), (∀ b ∈ bs, b.size ≤ sizeLine) →
    (∀ vs k, BysAre vs bs → Q vs { s with toks := k }) → wpAny M A (bs.mapM (Builtin.Bytes.Kind.new .bytes)) Q E s
  | [], s, Q, _, h => by rw [List.mapM_nil]; exact wpAny_pure (h [] _ .nil)
  | x :: r, s, Q, hx, h => by
    rw [List.mapM_cons]
    refine wpAny_bind (wpAny_mkBytes (wpAny_bind (mapM_bys r _ _ (fun y hy => hx y (List.mem_cons_of_mem _ hy)) (fun vs k hv => wpAny_pure ?_))) (hx x (List.mem_cons_self ..)))
    exact h _ k (.cons _ hv)
open Builtin in
theorem split_meets {x : Array UInt8} {t u : Tok} (hx : ∀ b ∈ pieces x, b.size ≤ sizeLine) (hl : (pieces x).length ≤ sizeLine) (hp : (Bytes.occurrences x #[46] 0 x.size).take (x.size + 1) = [] → pieces x = [x]) :
    Meets («bytes.split» ⟨[.bytes x t, .bytes #[46] u], []⟩) (fun _ R s => ∀ vs k, BysAre vs (pieces x) → R (.ok (.ret (.ref s.heap.objs.size))) { s with heap := s.heap.push { cls := .type "list", data := .seq vs.toArray }, toks := k }) := by
  refine .of_wp fun prog w A R s h => ?_
  show wpAny _ _ (Bytes.bytesLike _ (.bytes #[46] u) >>= fun r => _) _ _ s
  refine wpAny_bind (wpAny_of_eq KBd.like_eq ?_)
  show wpAny _ _ (if ((Bytes.occurrences x #[46] 0 x.size).take (x.size + 1)).isEmpty = true then _ else _) _ _ s
  by_cases he : (Bytes.occurrences x #[46] 0 x.size).take (x.size + 1) = []
  · rw [if_pos (by rw [he]; rfl)]
    refine wpAny_bind (wpAny_rule ?_)
    refine wpAny_bind ?_
    refine wpAny_bind (wpAny_typeOf (typeIs_bytes s x t) ?_)
    refine wpAny_pure ?_
    trace_state
    refine wpAny_bind (wpAny_newList (wpAny_pure ⟨_, rfl, h [.bytes x t] _ (by rw [hp he]; exact .cons _ .nil)⟩) (by show 1 ≤ sizeLine; rw [sizeLine_eq]; decide))
  · rw [if_neg (by simpa using he)]
    refine wpAny_bind (mapM_bys _ _ _ hx fun vs k hv => ?_)
    exact wpAny_bind (wpAny_newList (wpAny_pure ⟨_, rfl, h vs k hv⟩) (by rw [hv.length]; exact hl))
section
variable {prog : Program} {w : World} {A : Around} {E : Value → Shared → Prop} {s : Shared}
theorem split_call {x : Array UInt8} {t u : Tok} {Q : Value → Shared → Prop} (hx : ∀ b ∈ pieces x, b.size ≤ sizeLine) (hl : (pieces x).length ≤ sizeLine) (hp : (Builtin.Bytes.occurrences x #[46] 0 x.size).take (x.size + 1) = [] → pieces x = [x])
    (h : ∀ vs k, BysAre vs (pieces x) → Q (.ref s.heap.objs.size) { s with heap := s.heap.push { cls := .type "list", data := .seq vs.toArray }, toks := k }) :
    wpAny (model prog w) A (call (.builtin "bytes.split") [.bytes x t, .bytes #[46] u]) Q E s :=
  call_meets slot_bsplit (typeIs_bytes _ _ _) entry_bsplit (args_bsplit _ _) (split_meets hx hl hp) h
theorem split_method {M : Model} {b : Array UInt8} {t : Tok} {pl : Sem Bool} {Q : Value × List Value → Shared → Prop} (h : Q (.builtin "bytes.split", [.bytes b t]) s) : wpAny M A (getMethod (.bytes b t) "split" pl) Q E s := by
  with_reducible exact KBd.method_of (.bytes b t) (typeIs_bytes _ _ _) slot_bsplit type_bsplit KBd.noRef h
theorem join_method {M : Model} {b : Array UInt8} {t : Tok} {pl : Sem Bool} {Q : Value × List Value → Shared → Prop} (h : Q (.builtin "bytes.join", [.bytes b t]) s) : wpAny M A (getMethod (.bytes b t) "join" pl) Q E s := by
  with_reducible exact KBd.method_of (.bytes b t) (typeIs_bytes _ _ _) slot_bjoin type_bjoin KBd.noRef h
end
end Mine
end
section
open PySem PySem.W PySem.Spec PySem.Calls PyProof.Rows
namespace Mine
open Builtin
theorem take_eq {id : String} {b : Array UInt8} {t : Tok} : Bytes.takeBuffer? id (.bytes b t) 0 = pure (some (b, none)) := by
  unfold Bytes.takeBuffer?
  rw [KBy.special_eq KBy.look_buffer, KBy.own_buffer, show ((0 : Int) == Bytes.fullReadOnly) = false by decide +kernel]
  simp only [KBy.buffer_eq]
  kernel_rfl
theorem takeq_eq {id : String} {b : Array UInt8} {t : Tok} : Bytes.takeBufferQuiet? id (.bytes b t) 0 = pure (some (b, none)) := by
  unfold Bytes.takeBufferQuiet?
  rw [take_eq]
  rfl
theorem join_one {b : Array UInt8} {t u : Tok} {l : Addr} {sep : Array UInt8} :
    Meets («bytes.join» ⟨[.bytes sep u, .ref l], []⟩) (fun _ R s => ∃ o, s.heap.get? l = some o ∧ o.cls = .type "list" ∧ (∃ n, o.data = .seq #[.bytes b t] n) ∧ R (.ok (.ret (.bytes b t))) s) := by
  refine .of_wp fun prog w A R s hS => ?_
  obtain ⟨o, ho, hc, ⟨n, hd⟩, h⟩ := hS
  have hT : s.TypeIs (.ref l) "list" := ⟨o, ho, hc⟩
  show wpAny _ _ (Bytes.joinItems (.ref l) >>= fun seq => _) _ _ s
  refine wpAny_bind ?_
  unfold Bytes.joinItems
  refine wpAny_bind (wpAny_typeOf hT ?_)
  refine wpAny_pure ?_
  refine wpAny_bind (wpAny_seqItems ho hd ?_)
  refine wpAny_bind (wpAny_typeOf (typeIs_bytes s b t) ?_)
  refine wpAny_bind (wpAny_rule ?_)
  exact wpAny_bind (wpAny_pure (wpAny_pure ⟨_, rfl, h⟩))
/-- what has been taken holds no heap value -/
noncomputable def Plain2 (l : List (Value × Option Value)) : Prop := ∀ p ∈ l, p.1.onHeap = false ∧ p.2 = none
theorem forIn_inv {M : Model} {A : Around} {E : Value → Shared → Prop} {s : Shared} {bs : List (Array UInt8)} {Q : Array (Array UInt8) × List (Value × Option Value) → Shared → Prop}
    {f : Nat → Array (Array UInt8) × List (Value × Option Value) → Sem (ForInStep (Array (Array UInt8) × List (Value × Option Value)))}
    (hf : ∀ i parts taken b, bs[i]? = some b → Plain2 taken → ∀ (Q' : ForInStep (Array (Array UInt8) × List (Value × Option Value)) → Shared → Prop), (∀ taken', Plain2 taken' → Q' (.yield (parts.push b, taken')) s) → wpAny M A (f i (parts, taken)) Q' E s)
    (h : ∀ taken, Plain2 taken → Q (bs.toArray, taken) s) :
    ∀ (j i : Nat) (parts : Array (Array UInt8)) (taken : List (Value × Option Value)), i + j = bs.length → parts.toList = bs.take i → Plain2 taken → wpAny M A (forIn (List.range' i j) (parts, taken) f) Q E s
  | 0, i, parts, taken, hij, hp, ht => by
    rw [List.range'_zero, List.forIn_nil]
    have e : parts = bs.toArray := by
      apply Array.ext'
      rw [hp, List.take_of_length_le (by omega)]
    rw [e]
    exact wpAny_pure (h taken ht)
  | j + 1, i, parts, taken, hij, hp, ht => by
    rw [List.range'_succ, List.forIn_cons]
    obtain ⟨b, hb⟩ : ∃ b, bs[i]? = some b := ⟨_, List.getElem?_eq_getElem (by omega)⟩
    refine wpAny_bind (hf i parts taken b hb ht _ fun taken' ht' => ?_)
    refine forIn_inv hf h j (i + 1) _ _ (by omega) ?_ ht'
    rw [Array.toList_push, hp, List.take_add_one, hb]
    rfl
theorem BysAre.at {vs : List Value} {bs : List (Array UInt8)} (h : BysAre vs bs) : ∀ {i : Nat} {b : Array UInt8}, bs[i]? = some b → ∃ t, vs[i]? = some (.bytes b t) := by
  induction h with
  | nil => intro i b e; simp at e
  | cons t _ ih =>
    intro i b e
    cases i with
    | zero => simp at e; subst e; exact ⟨t, rfl⟩
    | succ i => exact ih (by simpa using e)
theorem letgo_plain {M : Model} {A : Around} {E : Value → Shared → Prop} {s : Shared} {Q : Unit → Shared → Prop} {keep : List Value} (h : Q () s) : ∀ (l : List (Value × Option Value)), Plain2 l → wpAny M A (Bytes.joinLetGo l keep) Q E s
  | [], _ => by unfold Bytes.joinLetGo; exact wpAny_pure h
  | (x, o) :: r, hl => by
    obtain ⟨_, e⟩ := hl _ (.head _)
    dsimp only at e
    subst e
    unfold Bytes.joinLetGo
    refine wpAny_bind (wpAny_letGo ?_)
    exact letgo_plain h r fun p hp => hl p (.tail _ hp)
theorem join_many {vs : List Value} {bs : List (Array UInt8)} {u : Tok} {l : Addr} {sep : Array UInt8} (hv : BysAre vs bs) (h2 : 2 ≤ vs.length) :
    Meets («bytes.join» ⟨[.bytes sep u, .ref l], []⟩) (fun _ R s => (Bytes.joined sep bs).size ≤ sizeLine ∧ bs.toArray.foldl (fun n b => n + b.size) (sep.size * (bs.toArray.size - 1)) ≤ sizeLine ∧ ∃ o, s.heap.get? l = some o ∧ o.cls = .type "list" ∧ (∃ n, o.data = .seq vs.toArray n) ∧ ∀ k, R (.ok (.ret (.bytes (Bytes.joined sep bs) k))) { s with toks := k + 1 }) := by
  refine .of_wp fun prog w A R s hS => ?_
  obtain ⟨hz, hz2, o, ho, hc, ⟨n, hd⟩, h⟩ := hS
  have hT : s.TypeIs (.ref l) "list" := ⟨o, ho, hc⟩
  show wpAny _ _ (Bytes.joinItems (.ref l) >>= fun seq => _) _ _ s
  refine wpAny_bind ?_
  unfold Bytes.joinItems
  refine wpAny_bind (wpAny_typeOf hT ?_)
  refine wpAny_pure ?_
  refine wpAny_bind (wpAny_seqItems ho hd ?_)
  obtain ⟨v1, v2, vr, rfl⟩ : ∃ v1 v2 vr, vs = v1 :: v2 :: vr := by
    match vs, h2 with
    | v1 :: v2 :: vr, _ => exact ⟨v1, v2, vr, rfl⟩
  refine wpAny_bind ?_
  have hl := hv.length
  have hsz : (v1 :: v2 :: vr).toArray.size = bs.length := by rw [List.size_toArray, hl]
  rw [Std.Legacy.Range.forIn_eq_forIn_range']
  refine forIn_inv (bs := bs) (fun i parts taken b hb ht Q' hq => ?_) (fun taken ht => ?_) _ 0 _ _ ?_ rfl (fun p hp => nomatch hp)
  · obtain ⟨tb, hb'⟩ := hv.at hb
    dsimp only
    refine wpAny_bind (wpAny_seqItems ho hd ?_)
    dsimp only
    have hx : (v1 :: v2 :: vr).toArray.getD i .none = .bytes b tb := by
      rw [Array.getD_eq_getD_getElem?, List.getElem?_toArray, hb']; rfl
    rw [hx]
    have hn : (Bytes.Kind.bytes == Bytes.Kind.bytearray || taken.any fun x => x.fst.onHeap) = false := by
      rw [Bool.or_eq_false_iff]
      refine ⟨rfl, ?_⟩
      rw [List.any_eq_false]
      intro p hp
      rw [(ht p hp).1]
      exact Bool.false_ne_true
    rw [if_neg (by rw [hn]; exact Bool.false_ne_true)]
    refine wpAny_bind (wpAny_holding ?_)
    refine wpAny_of_eq takeq_eq ?_
    dsimp only
    refine wpAny_bind (wpAny_seqItems ho hd ?_)
    dsimp only
    rw [if_neg (by simp)]
    refine wpAny_pure (hq _ fun p hp => ?_)
    rcases List.mem_append.mp hp with hp | hp
    · exact ht p hp
    · rw [List.mem_singleton.mp hp]
      exact ⟨rfl, rfl⟩
  · show wpAny _ _ (if Bytes.tooLong (Array.foldl (fun x1 x2 => x1 + x2.size) (sep.size * (bs.toArray.size - 1)) bs.toArray) = true then _ else _) _ _ s
    rw [if_neg (by unfold Bytes.tooLong; simp only [decide_eq_true_eq]; omega)]
    show wpAny _ _ (mkBytes (Bytes.joined sep bs) >>= fun result => _) _ _ s
    refine wpAny_bind (wpAny_mkBytes ?_ hz)
    refine wpAny_bind (wpAny_holding (wpAny_point ?_))
    refine wpAny_bind (letgo_plain ?_ taken ht)
    exact wpAny_pure ⟨_, rfl, h _⟩
  · rw [Nat.zero_add, ← hsz]
    simp [Std.Legacy.Range.size]
section
variable {prog : Program} {w : World} {A : Around} {E : Value → Shared → Prop} {s : Shared}
theorem join_call {vs : List Value} {bs : List (Array UInt8)} {u : Tok} {l : Addr} {sep : Array UInt8} {e : Nat} {o : Obj} {Q : Value → Shared → Prop} (ho : s.heap.get? l = some o) (hc : o.cls = .type "list") (hd : o.data = .seq vs.toArray e) (hv : BysAre vs bs) (h1 : 1 ≤ vs.length)
    (hz : (Bytes.joined sep bs).size ≤ sizeLine) (hz2 : bs.toArray.foldl (fun n b => n + b.size) (sep.size * (bs.toArray.size - 1)) ≤ sizeLine) (hj : ∀ b, bs = [b] → Bytes.joined sep bs = b)
    (h : ∀ t k, Q (.bytes (Bytes.joined sep bs) t) { s with toks := k }) :
    wpAny (model prog w) A (call (.builtin "bytes.join") [.bytes sep u, .ref l]) Q E s := by
  cases hv with
  | nil => exact absurd h1 (by decide)
  | @cons b t vs bs hv =>
    cases hv with
    | nil => 
      refine call_meets slot_bjoin (typeIs_bytes _ _ _) entry_bjoin (args_bjoin _ _) (join_one (b := b) (t := t)) ⟨o, ho, hc, ⟨e, hd⟩, ?_⟩
      have := h t s.toks
      rw [hj b rfl] at this
      exact this
    | cons t2 hv2 =>
      exact call_meets slot_bjoin (typeIs_bytes _ _ _) entry_bjoin (args_bjoin _ _) (join_many (.cons t (.cons t2 hv2)) (by simp)) ⟨hz, hz2, o, ho, hc, ⟨e, hd⟩, fun k => h k _⟩
end
end Mine
end
section
open PySem PySem.W PySem.Spec PySem.Calls PyProof.Rows
namespace Mine
open Builtin
/-! the words of the names law -/
noncomputable def oddB : Array UInt8 := #[111, 100, 100]
noncomputable def menuB : List (Array UInt8) := [#[97], #[98], oddB, #[], #[108, 111, 110, 103, 32, 119, 111, 114, 100]]
noncomputable def dotB : Array UInt8 := #[46]
/-- what the plain law needs of a list of words -/
abbrev GoodW (ws : List (Array UInt8)) : Prop :=
  pieces (Bytes.joined #[46] ws) = ws ∧ ((Bytes.occurrences (Bytes.joined #[46] ws) #[46] 0 (Bytes.joined #[46] ws).size).take ((Bytes.joined #[46] ws).size + 1) = [] → pieces (Bytes.joined #[46] ws) = [Bytes.joined #[46] ws]) ∧
    (Bytes.joined #[46] ws).size ≤ 100 ∧ ws.toArray.foldl (fun n b => n + b.size) ((#[46] : Array UInt8).size * (ws.toArray.size - 1)) ≤ 100 ∧ (ws.length = 1 → Bytes.joined #[46] ws = ws.headD #[])
theorem good1 : ∀ a ∈ menuB, GoodW [a] := by decide +kernel
theorem good2 : ∀ a ∈ menuB, ∀ b ∈ menuB, GoodW [a, b] := by decide +kernel
theorem good3 : ∀ a ∈ menuB, ∀ b ∈ menuB, ∀ c ∈ menuB, GoodW [a, b, c] := by decide +kernel
theorem goodW {ws : List (Array UInt8)} (h : ∀ b ∈ ws, b ∈ menuB) (h1 : 1 ≤ ws.length) (h3 : ws.length ≤ 3) : GoodW ws := by
  match ws, h1, h3 with
  | [a], _, _ => exact good1 a (h a (.head _))
  | [a, b], _, _ => exact good2 a (h a (.head _)) b (h b (.tail _ (.head _)))
  | [a, b, c], _, _ => exact good3 a (h a (.head _)) b (h b (.tail _ (.head _))) c (h c (.tail _ (.tail _ (.head _))))
end Mine
end
section
open PySem PySem.W PySem.Spec PySem.Calls PyProof.Rows
namespace Mine
/-! the tables of the names law, as a forest of paths -/
structure FN where
  p : List (Array UInt8)
  V : Tab
  C : Ky → Value
  c : Int
noncomputable def fE (P : Params) : List FN → List (Addr × Obj)
  | [] => []
  | n :: r => tl P n.V ++ fE P r
theorem fE_app {P : Params} : ∀ {a b : List FN}, fE P (a ++ b) = fE P a ++ fE P b
  | [], _ => rfl
  | n :: a, b => by simp [fE, fE_app (a := a)]
theorem fE_mem {P : Params} {Fo : List FN} {n : FN} (h : n ∈ Fo) : ∀ q ∈ tl P n.V, q ∈ fE P Fo := fun q hq => by
  induction Fo with
  | nil => cases h
  | cons m r ih =>
    rcases List.mem_cons.mp h with rfl | h
    · exact List.mem_append_left _ hq
    · exact List.mem_append_right _ (ih h)
structure FI (Fo : List FN) (B : Int) : Prop where
  b0 : 0 ≤ B
  root : ∃ n ∈ Fo, n.p = []
  nd : (Fo.map (·.p)).Nodup
  tt : ∀ n ∈ Fo, TT n.V n.C n.c
  cb : ∀ n ∈ Fo, n.c ≤ B
  num : ∀ n ∈ Fo, ∃ i t, n.V.num = .int i t
  odd : ∀ n ∈ Fo, n.p = [] → ∃ t, n.C (.b oddB) = .int 12 t
  noodd : ∀ n ∈ Fo, n.p ≠ [oddB]
  pre : ∀ m ∈ Fo, ∀ q b, m.p = q ++ [b] → ∃ k ∈ Fo, k.p = q
  ch : ∀ n ∈ Fo, ∀ b, ¬ (n.p = [] ∧ b = oddB) → (∃ m ∈ Fo, m.p = n.p ++ [b] ∧ n.C (.b b) = .ref m.V.t) ∨ (n.C (.b b) = .none ∧ ∀ m ∈ Fo, m.p ≠ n.p ++ [b])
theorem FI.uniq {Fo : List FN} {B : Int} (h : FI Fo B) {m n : FN} (hm : m ∈ Fo) (hn : n ∈ Fo) (e : m.p = n.p) : m = n := by
  have := h.nd
  clear h
  induction Fo with
  | nil => cases hm
  | cons k r ih =>
    rw [List.map_cons, List.nodup_cons] at this
    rcases List.mem_cons.mp hm with q1 | q1
    · rcases List.mem_cons.mp hn with q2 | q2
      · exact q1.trans q2.symm
      · exact (this.1 (List.mem_map.mpr ⟨n, q2, by rw [← q1, e]⟩)).elim
    · rcases List.mem_cons.mp hn with q2 | q2
      · exact (this.1 (List.mem_map.mpr ⟨m, q1, by rw [← q2, e]⟩)).elim
      · exact ih q1 q2 this.2
theorem split_at {Fo : List FN} {n : FN} (h : n ∈ Fo) : ∃ F1 F2, Fo = F1 ++ n :: F2 := List.append_of_mem h
/-- a child is added -/
theorem FI.add {F1 F2 : List FN} {n : FN} {B : Int} {b : Array UInt8} {V' W : Tab} {cn : Int} (h : FI (F1 ++ n :: F2) B) (hb : ¬ (n.p = [] ∧ b = oddB)) (hc : n.C (.b b) = .none)
    (tV : TT V' (updC n.C (.b b) (.ref W.t)) (n.c + 1)) (eV : V'.t = n.V.t) (eN : V'.num = n.V.num) (tW : TT W (fun _ => .none) 1) (wN : ∃ i t, W.num = .int i t) :
    FI (⟨n.p ++ [b], W, fun _ => .none, 1⟩ :: (F1 ++ ⟨n.p, V', updC n.C (.b b) (.ref W.t), n.c + 1⟩ :: F2)) (B + 1) := by
  have hn : n ∈ F1 ++ n :: F2 := List.mem_append_right _ (.head _)
  have hno : ∀ m ∈ F1 ++ n :: F2, m.p ≠ n.p ++ [b] := by
    rcases h.ch n hn b hb with ⟨m, _, _, e⟩ | ⟨_, e⟩
    · rw [hc] at e; cases e
    · exact e
  -- the members of the new forest
  have hmem : ∀ m, m ∈ F1 ++ (⟨n.p, V', updC n.C (.b b) (.ref W.t), n.c + 1⟩ : FN) :: F2 → m = ⟨n.p, V', updC n.C (.b b) (.ref W.t), n.c + 1⟩ ∨ (m ∈ F1 ++ n :: F2 ∧ m.p ≠ n.p) := fun m hm => by
    have hd := h.nd
    rw [List.map_append, List.map_cons, List.nodup_append, List.nodup_cons] at hd
    rcases List.mem_append.mp hm with hm | hm
    · refine .inr ⟨List.mem_append_left _ hm, fun e => ?_⟩
      exact hd.2.2 _ (List.mem_map.mpr ⟨m, hm, rfl⟩) _ (.head _) e
    · rcases List.mem_cons.mp hm with e | hm
      · exact .inl e
      · refine .inr ⟨List.mem_append_right _ (.tail _ hm), fun e => ?_⟩
        exact hd.2.1.1 (List.mem_map.mpr ⟨m, hm, e⟩)
  have hold : ∀ m, m ∈ F1 ++ n :: F2 → ∃ m', m' ∈ F1 ++ (⟨n.p, V', updC n.C (.b b) (.ref W.t), n.c + 1⟩ : FN) :: F2 ∧ m'.p = m.p ∧ m'.V.t = m.V.t := fun m hm => by
    rcases List.mem_append.mp hm with hm | hm
    · exact ⟨m, List.mem_append_left _ hm, rfl, rfl⟩
    · rcases List.mem_cons.mp hm with rfl | hm
      · exact ⟨_, List.mem_append_right _ (.head _), rfl, eV⟩
      · exact ⟨m, List.mem_append_right _ (.tail _ hm), rfl, rfl⟩
  have hp : (F1 ++ (⟨n.p, V', updC n.C (.b b) (.ref W.t), n.c + 1⟩ : FN) :: F2).map (·.p) = (F1 ++ n :: F2).map (·.p) := by simp
  have hno' : ∀ m, m ∈ F1 ++ (⟨n.p, V', updC n.C (.b b) (.ref W.t), n.c + 1⟩ : FN) :: F2 → m.p ≠ n.p ++ [b] := fun m hm => by
    rcases hmem m hm with rfl | ⟨hm, _⟩
    · intro e
      have := congrArg List.length e
      simp at this
    · exact hno m hm
  refine ⟨by have := h.b0; omega, ?_, ?_, ?_, ?_, ?_, ?_, ?_, ?_, ?_⟩
  · obtain ⟨m, hm, e⟩ := h.root
    obtain ⟨m', hm', e', _⟩ := hold m hm
    exact ⟨m', .tail _ hm', e'.trans e⟩
  · rw [List.map_cons, List.nodup_cons, hp]
    refine ⟨fun hm => ?_, h.nd⟩
    obtain ⟨m, hm, e⟩ := List.mem_map.mp hm
    exact hno m hm e
  · intro m hm
    rcases List.mem_cons.mp hm with rfl | hm
    · exact tW
    · rcases hmem m hm with rfl | ⟨hm, _⟩
      · exact tV
      · exact h.tt m hm
  · intro m hm
    rcases List.mem_cons.mp hm with rfl | hm
    · show (1 : Int) ≤ B + 1
      have := h.b0; omega
    · rcases hmem m hm with rfl | ⟨hm, _⟩
      · show n.c + 1 ≤ B + 1
        have := h.cb n hn; omega
      · have := h.cb m hm; omega
  · intro m hm
    rcases List.mem_cons.mp hm with rfl | hm
    · exact wN
    · rcases hmem m hm with rfl | ⟨hm, _⟩
      · show ∃ i t, V'.num = _
        rw [eN]; exact h.num n hn
      · exact h.num m hm
  · intro m hm e
    rcases List.mem_cons.mp hm with rfl | hm
    · simp at e
    · rcases hmem m hm with rfl | ⟨hm, _⟩
      · obtain ⟨t, ht⟩ := h.odd n hn e
        refine ⟨t, ?_⟩
        show updC n.C (.b b) (.ref W.t) (.b oddB) = _
        rw [updC_ne (fun q => hb ⟨e, by injection q with q; exact q.symm⟩)]
        exact ht
      · exact h.odd m hm e
  · intro m hm
    rcases List.mem_cons.mp hm with rfl | hm
    · intro e
      refine hb ?_
      cases hq : n.p with
      | nil => rw [hq] at e; simp at e; exact ⟨rfl, e⟩
      | cons x r => rw [hq] at e; simp at e
    · rcases hmem m hm with rfl | ⟨hm, _⟩
      · exact h.noodd n hn
      · exact h.noodd m hm
  · intro m hm q b' e
    have get : ∀ k, k ∈ F1 ++ n :: F2 → k.p = q → ∃ k ∈ (⟨n.p ++ [b], W, fun _ => .none, 1⟩ : FN) :: (F1 ++ ⟨n.p, V', updC n.C (.b b) (.ref W.t), n.c + 1⟩ :: F2), k.p = q := fun k hk e => by
      obtain ⟨k', hk', e', _⟩ := hold k hk
      exact ⟨k', .tail _ hk', e'.trans e⟩
    rcases List.mem_cons.mp hm with rfl | hm
    · have e2 : n.p = q := (List.append_inj' (show n.p ++ [b] = q ++ [b'] from e) rfl).1
      exact get n hn e2
    · rcases hmem m hm with rfl | ⟨hm, _⟩
      · obtain ⟨k, hk, ek⟩ := h.pre n hn q b' e
        exact get k hk ek
      · obtain ⟨k, hk, ek⟩ := h.pre m hm q b' e
        exact get k hk ek
  · intro m hm b' hb'
    rcases List.mem_cons.mp hm with rfl | hm
    · refine .inr ⟨rfl, fun k hk e => ?_⟩
      rcases List.mem_cons.mp hk with rfl | hk
      · have := congrArg List.length e
        simp at this
      · rcases hmem k hk with rfl | ⟨hk, _⟩
        · have := congrArg List.length e
          simp at this
        · obtain ⟨k', hk', ek⟩ := h.pre k hk _ _ e
          exact hno k' hk' ek
    · rcases hmem m hm with rfl | ⟨hm, hmp⟩
      · by_cases hbb : b' = b
        · subst hbb
          exact .inl ⟨_, .head _, rfl, updC_eq⟩
        · have hu : updC n.C (.b b) (.ref W.t) (.b b') = n.C (.b b') := updC_ne (fun q => hbb (by injection q))
          rcases h.ch n hn b' hb' with ⟨k, hk, e1, e2⟩ | ⟨e1, e2⟩
          · obtain ⟨k', hk', e3, e4⟩ := hold k hk
            exact .inl ⟨k', .tail _ hk', e3.trans e1, by rw [e4]; exact hu.trans e2⟩
          · refine .inr ⟨hu.trans e1, fun k hk e => ?_⟩
            rcases List.mem_cons.mp hk with rfl | hk
            · have e5 := (List.append_inj' (show n.p ++ [b] = n.p ++ [b'] from e) rfl).2
              simp at e5
              exact hbb e5.symm
            · rcases hmem k hk with rfl | ⟨hk, _⟩
              · exact e2 n hn e
              · exact e2 k hk e
      · rcases h.ch m hm b' hb' with ⟨k, hk, e1, e2⟩ | ⟨e1, e2⟩
        · obtain ⟨k', hk', e3, e4⟩ := hold k hk
          exact .inl ⟨k', .tail _ hk', e3.trans e1, by rw [e4]; exact e2⟩
        · refine .inr ⟨e1, fun k hk e => ?_⟩
          rcases List.mem_cons.mp hk with rfl | hk
          · exact hmp (List.append_inj' (show n.p ++ [b] = m.p ++ [b'] from e) rfl).1.symm
          · rcases hmem k hk with rfl | ⟨hk, _⟩
            · exact e2 n hn e
            · exact e2 k hk e
end Mine
end
section
open PySem PySem.W PySem.Spec PySem.Calls PyProof.Rows
namespace Mine
open Builtin
section
variable {prog : Program} {w : World} {A : Around} {E : Value → Shared → Prop} {s : Shared} {h₀ : Heap} {L : Addr} {m : Str → Option Value} {news : List (Addr × Obj)}
/-- the split of a dotted name, as the ledger bears it -/
theorem split_K {ws : List (Array UInt8)} {t u : Tok} {Q : Value → Shared → Prop} (F : Fr h₀ L s.heap m) (N : News h₀ L s.heap news) (hw : ∀ b ∈ ws, b ∈ menuB) (h1 : 1 ≤ ws.length) (h3 : ws.length ≤ 3)
    (h : ∀ (D : Addr) h' k vs, BysAre vs ws → Fr h₀ L h' m → News h₀ L h' ((D, listOf vs.toArray 0) :: news) → (∀ q ∈ news, q.1 < D) → Q (.ref D) { s with heap := h', toks := k }) :
    wpAny (model prog w) A (call (.builtin "bytes.split") [.bytes (Bytes.joined #[46] ws) t, .bytes #[46] u]) Q E s := by
  obtain ⟨g1, g2, g3, g4, g5⟩ := goodW hw h1 h3
  have hs : ∀ b ∈ menuB, b.size ≤ 100 := by decide
  refine split_call (fun b hb => ?_) ?_ g2 fun vs k hv => ?_
  · rw [g1] at hb
    rw [sizeLine_eq]
    exact Nat.le_trans (hs b (hw b hb)) (by decide)
  · rw [g1, sizeLine_eq]; omega
  · rw [g1] at hv
    have N2 := N.push F { cls := .type "list", data := .seq vs.toArray }
    exact h _ _ _ vs hv (F.push _) N2 fun q hq => Heap.lt_size (N q hq).1
/-- the join of a list of words -/
theorem join_K {ws : List (Array UInt8)} {vs : List Value} {u : Tok} {D : Addr} {e : Nat} {Q : Value → Shared → Prop} (N : News h₀ L s.heap news) (hm : (D, listOf vs.toArray e) ∈ news) (hv : BysAre vs ws) (hw : ∀ b ∈ ws, b ∈ menuB) (h1 : 1 ≤ ws.length) (h3 : ws.length ≤ 3)
    (h : ∀ t k, Q (.bytes (Bytes.joined #[46] ws) t) { s with toks := k }) :
    wpAny (model prog w) A (call (.builtin "bytes.join") [.bytes #[46] u, .ref D]) Q E s := by
  obtain ⟨g1, g2, g3, g4, g5⟩ := goodW hw h1 h3
  refine join_call (N.get hm) rfl rfl hv (by rw [hv.length]; exact h1) (by rw [sizeLine_eq]; omega) (by rw [sizeLine_eq]; exact Nat.le_trans g4 (by decide)) (fun b hb => ?_) h
  subst hb
  exact g5 rfl
end
end Mine
end
section
open PySem PySem.W PySem.Spec PySem.Calls PyProof.Rows
open PyProof.Rows
namespace Mine
theorem stripQ {Q : Flow → Shared → Prop} {f : Flow} {s : Shared} (h : Q f s) : Q f s := h
theorem wdGD_0 : True := by
  k_with "go" => repeat' ((fail_if_success (with_reducible show wpAny _ _ (exec (Stmt.While _ _ _ _) _) _ _ _)); (fail_if_success (with_reducible show wpAny _ _ (exec (Stmt.For _ _ _ _ _) _) _ _ _)); (fail_if_success (with_reducible show WhileStep2 _ _ _ _ _ _ Flow.next _)); (fail_if_success (with_reducible show WhileStep2 _ _ _ _ _ _ Flow.cont _)); (first | (k_unfold; (try dsimp only)) | (k_end; wrow_close) | ((first | (with_reducible show wpAny _ _ (exec _ _) _ _ _) | (with_reducible show wpAny _ _ (execs _ _) _ _ _)); k_fold; (try (refine foldS ?_; intro Sx))) | walk1 | (dsimp only; walk1) | (leave1; walk_say "STEP leave1"; try dsimp only) | (refine stripQ ?_; k_unfold; (try dsimp only))))
  trivial
theorem wdGD_1 : True := by
  k_with "gon" => repeat' ((fail_if_success (with_reducible show wpAny _ _ (exec (Stmt.For _ _ _ _ _) _) _ _ _)); (fail_if_success (with_reducible show wpAny _ _ (pyIter (Value.ref _)) _ _ _)); (fail_if_success (with_reducible show wpAny _ _ (call (Value.ref _) _) _ _ _)); (fail_if_success (with_reducible show wpAny _ _ (call (Value.builtin "bytes.split") _) _ _ _)); (fail_if_success (with_reducible show wpAny _ _ (call (Value.builtin "bytes.join") _) _ _ _)); (fail_if_success (with_reducible show WhileStep2 _ _ _ _ _ _ Flow.next _)); (fail_if_success (with_reducible show WhileStep2 _ _ _ _ _ _ Flow.cont _)); (first | (k_unfold; (try dsimp only)) | (k_end; wrow_close) | ((first | (with_reducible show wpAny _ _ (exec _ _) _ _ _) | (with_reducible show wpAny _ _ (execs _ _) _ _ _)); k_fold; (try (refine foldS ?_; intro Sx))) | walk1 | (dsimp only; walk1) | (leave1; walk_say "STEP leave1"; try dsimp only) | (refine stripQ ?_; k_unfold; (try dsimp only))))
  k_with "getMethod bytes" => (k_here; (with_reducible first | refine split_method ?_ | refine join_method ?_))
  trivial
/-- the bools of the paths that dotted_table makes, up to the i-th -/
noncomputable def newJ (Fo : List FN) (ws : List (Array UInt8)) (i : Nat) : List Nat := (List.range' 1 i).filter fun j => decide (∀ m ∈ Fo, m.p ≠ ws.take j)
noncomputable def madeV (Fo : List FN) (ws : List (Array UInt8)) (i : Nat) : List Value := (newJ Fo ws i).map fun j => .bool (decide (j = ws.length))
/-- the state of dotted_table's loop -/
inductive DSt (P : Params) (mA hp D : Addr) (ws : List (Array UInt8)) (wv : List Value) (Fo0 : List FN) (B0 : Int) (R : List (Addr × Obj)) (i : Nat) (x : Addr) (nx : List (Addr × Obj)) : Prop
  | mk (Fo : List FN) (H : Hp) (e : Nat) (G : List (Addr × Obj)) (n : FN) (zq0 : nx = fE P Fo ++ (hpE P H ++ ((mA, listOf (madeV Fo0 ws i).toArray e) :: ((D, listOf wv.toArray 0) :: (G ++ R))))) (zq1 : Apart nx) (zq2 : FI Fo (B0 + i)) (zq3 : H.hp = hp) (zq4 : n ∈ Fo) (zq5 : n.p = ws.take i) (zq6 : n.V.t = x) (zq7 : (∀ q, (∃ m ∈ Fo, m.p = q) ↔ (∃ m ∈ Fo0, m.p = q) ∨ ∃ j, 1 ≤ j ∧ j ≤ i ∧ q = ws.take j)) (zq8 : (∀ m ∈ Fo0, ∃ m' ∈ Fo, m'.p = m.p ∧ m'.V.t = m.V.t)) : DSt P mA hp D ws wv Fo0 B0 R i x nx
theorem BysAre.at2 {vs : List Value} {bs : List (Array UInt8)} (h : BysAre vs bs) : ∀ {i : Nat} {v : Value}, vs[i]? = some v → ∃ b t, bs[i]? = some b ∧ v = .bytes b t := by
  induction h with
  | nil => intro i v e; simp at e
  | @cons b t _ _ _ ih =>
    intro i v e
    cases i with
    | zero => simp at e; exact ⟨b, t, rfl, e.symm⟩
    | succ i => exact ih (by simpa using e)
theorem take_snoc {ws : List (Array UInt8)} {i : Nat} {b : Array UInt8} (h : ws[i]? = some b) : ws.take (i + 1) = ws.take i ++ [b] := by
  rw [List.take_add_one, h]; rfl
theorem menu_ok : ∀ b ∈ menuB, b.size < 32 := by decide
theorem newJ_succ {Fo : List FN} {ws : List (Array UInt8)} {i : Nat} : newJ Fo ws (i + 1) = newJ Fo ws i ++ if (∀ m ∈ Fo, m.p ≠ ws.take (i + 1)) then [i + 1] else [] := by
  unfold newJ
  rw [List.range'_concat, List.filter_append]
  congr 1
  simp only [List.filter_cons, List.filter_nil, Nat.one_mul, Nat.add_comm 1 i]
  split <;> split <;> simp_all
theorem ap_d1 {X G B R : List (Addr × Obj)} {q0 q1 q2 q3 : Addr × Obj} (h : Apart (q1 :: q0 :: (X ++ (B ++ (q2 :: (q3 :: (G ++ R))))))) : Apart (B ++ (q2 :: (q1 :: q0 :: (X ++ (q3 :: (G ++ R)))))) := LT.ap (bs := [[q1], [q0], X, B, [q2], [q3], G, R]) (.a (.b 0) (.a (.b 1) (.a (.b 2) (.a (.b 3) (.a (.b 4) (.a (.b 5) (.a (.b 6) (.b 7)))))))) (.a (.b 3) (.a (.b 4) (.a (.b 0) (.a (.b 1) (.a (.b 2) (.a (.b 5) (.a (.b 6) (.b 7)))))))) [] h rfl
theorem nw_d1 {h₀ h : Heap} {L : Addr} {X G B R : List (Addr × Obj)} {q0 q1 q2 q3 : Addr × Obj} (N : News h₀ L h (q1 :: q0 :: (X ++ (B ++ (q2 :: (q3 :: (G ++ R))))))) : News h₀ L h (B ++ (q2 :: (q1 :: q0 :: (X ++ (q3 :: (G ++ R)))))) := LT.nw (bs := [[q1], [q0], X, B, [q2], [q3], G, R]) (.a (.b 0) (.a (.b 1) (.a (.b 2) (.a (.b 3) (.a (.b 4) (.a (.b 5) (.a (.b 6) (.b 7)))))))) (.a (.b 3) (.a (.b 4) (.a (.b 0) (.a (.b 1) (.a (.b 2) (.a (.b 5) (.a (.b 6) (.b 7)))))))) [] N rfl
theorem ap_d2 {X G B R Y Z W K : List (Addr × Obj)} {q0 q1 q2 q3 : Addr × Obj} (h : Apart (Y ++ (W ++ (B ++ (q2 :: (q1 :: q0 :: ((X ++ (Z ++ K)) ++ (q3 :: (G ++ R))))))))) : Apart (Z ++ (q1 :: q0 :: (Y ++ (X ++ (K ++ (B ++ (q2 :: (q3 :: (W ++ (G ++ R)))))))))) := LT.ap (bs := [Y, W, B, [q2], [q1], [q0], X, Z, K, [q3], G, R]) (.a (.b 0) (.a (.b 1) (.a (.b 2) (.a (.b 3) (.a (.b 4) (.a (.b 5) (.a (.a (.b 6) (.a (.b 7) (.b 8))) (.a (.b 9) (.a (.b 10) (.b 11)))))))))) (.a (.b 7) (.a (.b 4) (.a (.b 5) (.a (.b 0) (.a (.b 6) (.a (.b 8) (.a (.b 2) (.a (.b 3) (.a (.b 9) (.a (.b 1) (.a (.b 10) (.b 11)))))))))))) [] h rfl
theorem nw_d2 {h₀ h : Heap} {L : Addr} {X G B R Y Z W K : List (Addr × Obj)} {q0 q1 q2 q3 : Addr × Obj} (N : News h₀ L h (Y ++ (W ++ (B ++ (q2 :: (q1 :: q0 :: ((X ++ (Z ++ K)) ++ (q3 :: (G ++ R))))))))) : News h₀ L h (Z ++ (q1 :: q0 :: (Y ++ (X ++ (K ++ (B ++ (q2 :: (q3 :: (W ++ (G ++ R)))))))))) := LT.nw (bs := [Y, W, B, [q2], [q1], [q0], X, Z, K, [q3], G, R]) (.a (.b 0) (.a (.b 1) (.a (.b 2) (.a (.b 3) (.a (.b 4) (.a (.b 5) (.a (.a (.b 6) (.a (.b 7) (.b 8))) (.a (.b 9) (.a (.b 10) (.b 11)))))))))) (.a (.b 7) (.a (.b 4) (.a (.b 5) (.a (.b 0) (.a (.b 6) (.a (.b 8) (.a (.b 2) (.a (.b 3) (.a (.b 9) (.a (.b 1) (.a (.b 10) (.b 11)))))))))))) [] N rfl
theorem ap_d3 {X G B R Y Z W K : List (Addr × Obj)} {q0 q1 q2 q3 : Addr × Obj} (h : Apart (Z ++ (W ++ (q1 :: q0 :: (Y ++ (X ++ (K ++ (B ++ (q2 :: (q3 :: (G ++ R))))))))))) : Apart (q1 :: q0 :: ((Y ++ (X ++ (Z ++ K))) ++ (B ++ (q2 :: (q3 :: (W ++ (G ++ R))))))) := LT.ap (bs := [Z, W, [q1], [q0], Y, X, K, B, [q2], [q3], G, R]) (.a (.b 0) (.a (.b 1) (.a (.b 2) (.a (.b 3) (.a (.b 4) (.a (.b 5) (.a (.b 6) (.a (.b 7) (.a (.b 8) (.a (.b 9) (.a (.b 10) (.b 11)))))))))))) (.a (.b 2) (.a (.b 3) (.a (.a (.b 4) (.a (.b 5) (.a (.b 0) (.b 6)))) (.a (.b 7) (.a (.b 8) (.a (.b 9) (.a (.b 1) (.a (.b 10) (.b 11))))))))) [] h rfl
theorem nw_d3 {h₀ h : Heap} {L : Addr} {X G B R Y Z W K : List (Addr × Obj)} {q0 q1 q2 q3 : Addr × Obj} (N : News h₀ L h (Z ++ (W ++ (q1 :: q0 :: (Y ++ (X ++ (K ++ (B ++ (q2 :: (q3 :: (G ++ R))))))))))) : News h₀ L h (q1 :: q0 :: ((Y ++ (X ++ (Z ++ K))) ++ (B ++ (q2 :: (q3 :: (W ++ (G ++ R))))))) := LT.nw (bs := [Z, W, [q1], [q0], Y, X, K, B, [q2], [q3], G, R]) (.a (.b 0) (.a (.b 1) (.a (.b 2) (.a (.b 3) (.a (.b 4) (.a (.b 5) (.a (.b 6) (.a (.b 7) (.a (.b 8) (.a (.b 9) (.a (.b 10) (.b 11)))))))))))) (.a (.b 2) (.a (.b 3) (.a (.a (.b 4) (.a (.b 5) (.a (.b 0) (.b 6)))) (.a (.b 7) (.a (.b 8) (.a (.b 9) (.a (.b 1) (.a (.b 10) (.b 11))))))))) [] N rfl
theorem ap_d0 {X B R : List (Addr × Obj)} {q2 q3 : Addr × Obj} (h : Apart (q3 :: (X ++ (B ++ (q2 :: R))))) : Apart (X ++ (B ++ (q2 :: (q3 :: ([] ++ R))))) := LT.ap (bs := [[q3], X, B, [q2], R]) (.a (.b 0) (.a (.b 1) (.a (.b 2) (.a (.b 3) (.b 4))))) (.a (.b 1) (.a (.b 2) (.a (.b 3) (.a (.b 0) (.a (.nil) (.b 4)))))) [] h rfl
theorem nw_d0 {h₀ h : Heap} {L : Addr} {X B R : List (Addr × Obj)} {q2 q3 : Addr × Obj} (N : News h₀ L h (q3 :: (X ++ (B ++ (q2 :: R))))) : News h₀ L h (X ++ (B ++ (q2 :: (q3 :: ([] ++ R))))) := LT.nw (bs := [[q3], X, B, [q2], R]) (.a (.b 0) (.a (.b 1) (.a (.b 2) (.a (.b 3) (.b 4))))) (.a (.b 1) (.a (.b 2) (.a (.b 3) (.a (.b 0) (.a (.nil) (.b 4)))))) [] N rfl
theorem wdGD_2 : True := by
  k_with "k_mem" => first | exact .head _ | exact .tail _ (.head _) | assumption
  k_with "subscriptTail Name Slice ref ref" => (k_here; (with_reducible show wpAny _ _ (subscriptTail _ (PySem.Expr.Slice _ _ none _) (Value.ref _) (Value.ref _)) _ _ _); k_dflt (refine' kmk_slice_lit ?zqF ?zqN ?zql ?zqp ?zqq ?zqe ?_ ?zqs ?zqt ?zqz; (case zqF => k_asm); (case zqN => k_asm); (case zql => exact isList_led (by k_asm) (by k_mem)); (case zqp => kmk_part); (case zqq => kmk_part); (case zqe => first | exact pick_from _ (by omega) | exact pick_upto _ (by omega)); (case zqs => with_unfolding_all rfl); (case zqt => kmk_pure); (case zqz => (rw [List.size_toArray, sizeLine_eq]; omega))); intro _ _ _ _ _; (try k_sweep))
  trivial
noncomputable def tupO (v r : Value) : Obj := { cls := .type "tuple", data := .seq #[v, r] }
/-- what dotted_table gives back -/
noncomputable def DRes (ws : List (Array UInt8)) (i : Nat) (x : Addr) (v r : Value) : Prop :=
  (ws.head? = some oddB ∧ i = 0 ∧ v = .none ∧ ∃ t, r = .bytes (Builtin.Bytes.joined #[46] ws) t) ∨ (ws.head? ≠ some oddB ∧ i = ws.length ∧ v = .ref x ∧ r = .none)
theorem FI.le {Fo : List FN} {B B' : Int} (h : FI Fo B) (l : B ≤ B') : FI Fo B' :=
  ⟨Int.le_trans h.b0 l, h.root, h.nd, h.tt, fun n hn => Int.le_trans (h.cb n hn) l, h.num, h.odd, h.noodd, h.pre, h.ch⟩
theorem head_of {ws : List (Array UInt8)} {b : Array UInt8} (h : ws[0]? = some b) : ws.head? = some b := by
  cases ws with
  | nil => simp at h
  | cons a r => simpa using h
theorem offI {I : Addr} {iE iL : Obj} {nx : List (Addr × Obj)} (ho : ∀ p ∈ nx, p.1 ≠ I ∧ p.1 ≠ I + 1) : ∀ p ∈ nx, ∀ q ∈ [((I + 1 : Nat), iE), (I, iL)], p.1 ≠ q.1 := fun p hp q hq => by
  rcases List.mem_cons.mp hq with rfl | hq
  · exact (ho p hp).2
  · rw [List.mem_singleton.mp hq]; exact (ho p hp).1
theorem noddS {ws p : List (Array UInt8)} {b : Array UInt8} {i : Nat} (h : ¬ (p = [] ∧ b = oddB)) (hp : p = ws.take i) (hb : ws[i]? = some b) (ho : i ≠ 0 → ws.head? ≠ some oddB) : i + 1 ≠ 0 → ws.head? ≠ some oddB := fun _ => by
  by_cases e : i = 0
  · subst e
    rw [head_of hb]
    intro e
    exact h ⟨hp, Option.some.inj e⟩
  · exact ho e
theorem ne_of_lts {nx : List (Addr × Obj)} {T : Addr} (h : ∀ p ∈ nx, p.1 < T) : ∀ p ∈ nx, p.1 ≠ T := fun p hp => Nat.ne_of_lt (h p hp)
theorem mem_Rq {X B G R : List (Addr × Obj)} {q q2 q3 : Addr × Obj} (h : q ∈ R) : q ∈ X ++ (B ++ (q2 :: (q3 :: (G ++ R)))) := List.mem_append_right _ (List.mem_append_right _ (.tail _ (.tail _ (List.mem_append_right _ h))))
theorem mem_Rp {X Y Z K B G W R : List (Addr × Obj)} {q q0 q1 q2 q3 : Addr × Obj} (h : q ∈ R) : q ∈ Z ++ (q1 :: q0 :: (Y ++ (X ++ (K ++ (B ++ (q2 :: (q3 :: (W ++ (G ++ R))))))))) := List.mem_append_right _ (.tail _ (.tail _ (List.mem_append_right _ (List.mem_append_right _ (List.mem_append_right _ (List.mem_append_right _ (.tail _ (.tail _ (List.mem_append_right _ (List.mem_append_right _ h))))))))))
theorem ap_it2 {I : Addr} {iE iL : Obj} {nx : List (Addr × Obj)} (ho : ∀ p ∈ nx, p.1 ≠ I ∧ p.1 ≠ I + 1) (ap : Apart nx) : Apart ((I + 1, iE) :: (I, iL) :: nx) := by
  refine List.nodup_cons.mpr ⟨fun hm => ?_, List.nodup_cons.mpr ⟨fun hm => ?_, ap⟩⟩
  · rcases List.mem_cons.mp hm with e | hm
    · exact absurd e (Nat.succ_ne_self _)
    · obtain ⟨p, hp, e⟩ := List.mem_map.mp hm
      exact (ho p hp).2 e
  · obtain ⟨p, hp, e⟩ := List.mem_map.mp hm
    exact (ho p hp).1 e
theorem mem_D {X B R : List (Addr × Obj)} {q2 q3 : Addr × Obj} : q3 ∈ X ++ (B ++ (q2 :: (q3 :: R))) := List.mem_append_right _ (List.mem_append_right _ (.tail _ (.head _)))
theorem len3 {ws : List (Array UInt8)} {i : Nat} {b : Array UInt8} (h : ws[i]? = some b) : i < ws.length := by
  rcases Nat.lt_or_ge i ws.length with h1 | h1
  · exact h1
  · rw [List.getElem?_eq_none h1] at h; cases h
theorem take_ne {ws : List (Array UInt8)} {i j : Nat} (h1 : i < ws.length) (h2 : j ≤ i) : ws.take (i + 1) ≠ ws.take j := fun e => by
  have := congrArg List.length e
  rw [List.length_take, List.length_take] at this
  omega
theorem wdGD_3 : True := by
  k_with "k_mem" => first | exact .head _ | exact .tail _ (.head _) | exact mem_D | exact .tail _ (.tail _ mem_D) | assumption | exact .tail _ (.tail _ (mem_Rq (by assumption))) | exact mem_Rp (by assumption)
  trivial
section
variable {prog : Program} {w : World} {p : Program} {loose : List Str} {mean : ExcName → Option Value} {mg mb : Str → Option Value}
  {dp un : Nat} {gd : Option (List Code)} {cn : Str} {cs : Scope} {a : Addr} {ccd : Value} {cl : List (Str × Addr)} {outer : List Env} {A₀ : Around} {base h₀ : Heap} {L : Addr} {m : Str → Option Value} {s : Shared} {E : Value → Shared → Prop} {Q : Value → Shared → Prop}
  (B : Below A₀ base outer h₀) (F : Fr h₀ L s.heap m) (X : (KK w.params).In h₀) {cM cH mA fm fp : Addr} {H : Hp} {e : Nat} {Fo : List FN} {BB : Int} {R : List (Addr × Obj)} (hC : CodeHd h₀ 578 576) (N : News h₀ L s.heap (fE w.params Fo ++ (hpE w.params H ++ ((mA, listOf ([] : List Value).toArray e) :: R)))) (ap : Apart (fE w.params Fo ++ (hpE w.params H ++ ((mA, listOf ([] : List Value).toArray e) :: R)))) (K : Clo mg cM cH mA H.hp fm fp R) (T : Top p loose mean mg mb h₀) (hk : cs.kind = .function)
include hC K B F X N ap T hk
set_option maxHeartbeats 4000000
theorem dotted_C {ws : List (Array UInt8)} {t : Tok} {rt : FN} (hd : dp + 140 < recursionLimit) (hu : un + 900 < cLine) (fi : FI Fo BB) (hB : BB ≤ 200) (hr : rt ∈ Fo) (hrp : rt.p = []) (hw : ∀ b ∈ ws, b ∈ menuB) (h1 : 1 ≤ ws.length) (h3 : ws.length ≤ 3)
    (hret : ∀ h' tk' T D wv i x nx v r, DSt w.params mA H.hp D ws wv Fo BB R i x nx → DRes ws i x v r → Fr h₀ L h' m → News h₀ L h' ((T, tupO v r) :: nx) → (∀ p ∈ nx, p.1 ≠ T) → Q (.ref T) { s with heap := h', toks := tk' })
    : wpAny (model prog w) (ktrTop dp un gd cn cs L a ccd cl outer) (call (.ref F_dotted_table) [.ref rt.V.t, .bytes (Builtin.Bytes.joined #[46] ws) t, .ref fm, .ref fp]) Q E s := by
  obtain ⟨oc1, od1, fd1, sl1, hfm⟩ : ∃ oc od fd sl, (fm, (⟨oc, od, .func fd, sl⟩ : Obj)) ∈ R := by
    obtain ⟨_, _, _, _, _, _, b1, _⟩ := K.m_
    exact ⟨_, _, _, _, b1⟩
  obtain ⟨oc2, od2, fd2, sl2, hfp⟩ : ∃ oc od fd sl, (fp, (⟨oc, od, .func fd, sl⟩ : Obj)) ∈ R := by
    obtain ⟨_, _, _, _, _, _, b1, _⟩ := K.p_
    exact ⟨_, _, _, _, b1⟩
  refine en_dotted_table B F X N T hk (by first | exact room0 hd | omega) ?_
  walk_at "ent"
  rename_i g1 L1 hE1 FG1 F1 N1 B1 X1 T1
  walk_at "gon"
  refine split_K (by assumption) (by assumption) hw h1 h3 ?_
  intro D h2 k2 wv hwv F2 N2 l2
  have apD : Apart (fE w.params Fo ++ (hpE w.params H ++ ((mA, listOf ([] : List Value).toArray e) :: ((D, listOf wv.toArray 0) :: ([] ++ R))))) := ap_d0 (List.nodup_cons.mpr ⟨fun hm => by
    obtain ⟨p, hp, e⟩ := List.mem_map.mp hm
    exact absurd (l2 p hp) (by rw [e]; exact Nat.lt_irrefl _), ap⟩)
  replace N2 : News g1 L1 h2 (fE w.params Fo ++ (hpE w.params H ++ ((mA, listOf ([] : List Value).toArray e) :: ((D, listOf wv.toArray 0) :: ([] ++ R))))) := nw_d0 N2
  walk_at "gon"
  rename Fr _ _ _ _ => FX
  rename News _ _ _ _ => NX
  have hwl : wv.length = ws.length := hwv.length
  refine For_turns (by assumption) ?_
  walk_at "gon"
  refine enum_J (vs := wv) (n := 0) (fun i m₁ nx => ∃ x, DSt w.params mA H.hp D ws wv Fo BB R i x nx ∧ (i ≠ 0 → ws.head? ≠ some oddB) ∧ m₁ "table" = some (.ref x) ∧ m₁ "make" = some (.ref fm) ∧ m₁ "put" = some (.ref fp) ∧ m₁ "parts" = some (.ref D)) rfl (by assumption) (by assumption) mem_D rfl rfl ?_ ?_ ?_
  · exact ⟨_, ⟨Fo, H, e, [], rt, rfl, apD, by simpa using fi, rfl, hr, hrp, rfl, fun q => ⟨fun h => .inl h, fun h => h.elim id fun ⟨j, j1, j2, _⟩ => by omega⟩, fun n hn => ⟨n, hn, rfl, rfl⟩⟩, fun h => absurd rfl h, rfl, rfl, rfl, rfl⟩
  · rintro I i v m₁ nx iE iL T9 t9 h9 tk9 hv hJJ ho hiE hiL hT F₁ N₁
    (try k_fold)
    obtain ⟨x, ⟨Fo1, H1, e1, G1, n1, rfl, ap1, fi1, hH1, hn1, hp1, hx1, hq1, hs1⟩, hodd, q1, q2, q3, q4⟩ := hJJ
    subst hx1
    rw [map4 q1 q2 q3 q4] at F₁
    refine foldM F₁ ?_; clear F₁; intro Mx1 F₁
    have hh : Has w.params n1.V ((I + 1, iE) :: (I, iL) :: (fE w.params Fo1 ++ (hpE w.params H1 ++ ((mA, listOf (madeV Fo ws i).toArray e1) :: ((D, listOf wv.toArray 0) :: (G1 ++ R)))))) := fun p hp => .tail _ (.tail _ (List.mem_append_left _ (fE_mem hn1 p hp)))
    obtain ⟨y1, y2, y3, y4⟩ := has_all hh
    obtain ⟨b, tb, hb, rfl⟩ := hwv.at2 hv
    have hbm := hw b (List.mem_of_getElem? hb)
    have hil := len3 hb
    walk_at "gon"
    k_dflt (refine' get_bytes_C (V := n1.V) (x := b) ?B ?F ?X ?N ?T ?hk ?d ?u hh (fi1.tt n1 hn1).iv.wf (menu_ok b hbm) ((fi1.tt n1 hn1).look (.b b)) ?_; (case N => k_asm); (case B => k_asm); (case F => k_asm); (case X => k_asm); (case T => k_asm); (case hk => exact rfl); (case d => walk_at "dep"); (case u => walk_at "dep"))
    intro h10 tk10 F10 N10
    by_cases ho1 : n1.p = [] ∧ b = oddB
    · obtain ⟨t12, ht12⟩ := fi1.odd n1 hn1 ho1.1
      rw [ho1.2, ht12]
      have hi0 : i = 0 := by
        have := congrArg List.length (hp1.symm.trans ho1.1)
        rw [List.length_take, List.length_nil] at this
        omega
      subst hi0
      walk_at "gon"
      refine join_K (vs := wv) (ws := ws) (by assumption) (.head _) hwv hw h1 h3 ?_
      intro tj kj
      walk_at "gon"
      rename Fr h₀ _ _ _ => FZ
      rename News h₀ _ _ _ => NZ
      rename _ ∧ _ ∧ _ ∧ AllLt _ _ => lZ
      exact hret _ _ _ D wv 0 n1.V.t _ .none _ ⟨Fo1, H1, e1, G1, n1, rfl, ap1, fi1, hH1, hn1, hp1, rfl, hq1, hs1⟩ (.inl ⟨by rw [head_of hb, ho1.2], rfl, rfl, tj, rfl⟩) FZ (fun p hp => NZ p (by
        rcases List.mem_cons.mp hp with rfl | hp
        · exact .head _
        · exact .tail _ (.tail _ (.tail _ (.tail _ hp))))) (fun p hp => Nat.ne_of_lt (allLt_mem lZ.2.2.2 p hp))
    · rcases fi1.ch n1 hn1 b ho1 with ⟨n2, hn2, hp2, hc2⟩ | ⟨hc2, hno2⟩
      · rw [hc2]
        obtain ⟨y5, y6, y7, y8⟩ := has_all (show Has w.params n2.V _ from fun p hp => .tail _ (.tail _ (List.mem_append_left _ (fE_mem hn2 p hp))) : Has w.params n2.V ((I + 1, iE) :: (I, iL) :: (fE w.params Fo1 ++ (hpE w.params H1 ++ ((mA, listOf (madeV Fo ws i).toArray e1) :: ((D, listOf wv.toArray 0) :: (G1 ++ R)))))))
        walk_at "gon"
        rename Fr _ _ _ _ => FZ
        rename News _ _ _ _ => NZ
        have hn2p : n2.p = ws.take (i + 1) := by rw [hp2, hp1, take_snoc hb]
        have hin : ∃ m ∈ Fo, m.p = ws.take (i + 1) := by
          rcases (hq1 (ws.take (i + 1))).mp ⟨n2, hn2, hn2p⟩ with h | ⟨j, j1, j2, e⟩
          · exact h
          · exact absurd e (take_ne hil j2)
        have hmv : madeV Fo ws (i + 1) = madeV Fo ws i := by
          unfold madeV
          rw [newJ_succ, if_neg (fun h => by obtain ⟨k, k1, k2⟩ := hin; exact h k k1 k2), List.append_nil]
        exact ⟨_, _, _, _, rfl, FZ, NZ, offI ho, ⟨mem_D, trivial⟩, n2.V.t, ⟨Fo1, H1, e1, G1, n2, (by rw [hmv]; rfl), ap1, fi1.le (by omega), hH1, hn2, hn2p, rfl, fun q => ⟨fun h => by
          rcases (hq1 q).mp h with h | ⟨j, j1, j2, e⟩
          · exact .inl h
          · exact .inr ⟨j, j1, by omega, e⟩, fun h => by
          rcases h with h | ⟨j, j1, j2, e⟩
          · exact (hq1 q).mpr (.inl h)
          · rcases Nat.lt_or_ge j (i + 1) with c | c
            · exact (hq1 q).mpr (.inr ⟨j, j1, by omega, e⟩)
            · have : j = i + 1 := by omega
              subst this
              exact ⟨n2, hn2, hn2p.trans e.symm⟩⟩, hs1⟩, noddS ho1 hp1 hb hodd, rfl, rfl, rfl, rfl⟩
      · rw [hc2]
        have hC1 : CodeHd g1 578 576 := hC.keeps FG1.keep
        walk_at "gon"
        have apI : Apart ((I + 1, iE) :: (I, iL) :: (fE w.params Fo1 ++ (hpE w.params H1 ++ ((mA, listOf (madeV Fo ws i).toArray e1) :: ((D, listOf wv.toArray 0) :: (G1 ++ R)))))) := ap_it2 ho ap1
        have hn2p : n1.p ++ [b] = ws.take (i + 1) := by rw [hp1, take_snoc hb]
        have hnew : ∀ m ∈ Fo, m.p ≠ ws.take (i + 1) := fun m hm e => by
          obtain ⟨m', hm', e'⟩ := (hq1 _).mpr (.inl ⟨m, hm, e⟩)
          exact hno2 m' hm' (e'.trans hn2p.symm)
        have hmv : madeV Fo ws (i + 1) = madeV Fo ws i ++ [Value.bool (decide (i + 1 = ws.length))] := by
          unfold madeV
          rw [newJ_succ, if_pos hnew, List.map_append]
          rfl
        have hml : (madeV Fo ws i).length ≤ i := by
          unfold madeV newJ
          rw [List.length_map]
          refine Nat.le_trans (List.length_filter_le _ _) ?_
          rw [List.length_range']
          exact Nat.le_refl _
        have hcc := fi1.cb n1 hn1
        have hbool : ((i : Int) == (ws.length : Int) - 1) = decide (i + 1 = ws.length) := by
          rw [Bool.eq_iff_iff, beq_iff_eq, decide_eq_true_eq]; omega
        k_dflt (refine' make_one_C (H := H1) (vs := madeV Fo ws i) ?B ?F ?X hC1 (nw_d1 (by assumption)) (ap_d1 apI) ?K ?T ?hk ?d ?u ?l ?_; (case K => exact (hH1 ▸ K).mono fun p hp => .tail _ (.tail _ (List.mem_append_right _ (.tail _ (List.mem_append_right _ hp))))); (case l => omega); (case B => k_asm); (case F => k_asm); (case X => k_asm); (case T => k_asm); (case hk => exact rfl); (case d => walk_at "dep"); (case u => walk_at "dep"))
        intro h12 tk12 V2 H2 G2 t2 tV2 vN2 hH2 F12 N12 ap12
        obtain ⟨X1, X2, rfl⟩ := split_at hn1
        have eX : fE w.params (X1 ++ n1 :: X2) = fE w.params X1 ++ (tl w.params n1.V ++ fE w.params X2) := fE_app
        rw [eX, hbool, ← hmv] at N12 ap12
        replace N12 := nw_d2 N12
        replace ap12 := ap_d2 ap12
        walk_at "gon"
        k_dflt (refine' put_one_C (V := n1.V) (key := .bytes b tb) (v := .ref V2.t) (k := .b b) (C := n1.C) (c := n1.c) (hp := H.hp) ?B ?F ?X hC1 ?N ap12 ?K ?T ?hk ?d ?u (fi1.tt n1 hn1) ?hc ?hh rfl (menu_ok b hbm) trivial rfl ?_; (case N => k_asm); (case K => exact K.mono fun p hp => .tail _ (.tail _ (List.mem_append_right _ (List.mem_append_right _ (List.mem_append_right _ (List.mem_append_right _ (.tail _ (.tail _ (List.mem_append_right _ (List.mem_append_right _ hp)))))))))); (case hc => omega); (case hh => (rw [← hH1, ← hH2]; exact Hp.heapIn fun p hp => .tail _ (.tail _ (List.mem_append_right _ (List.mem_append_right _ (List.mem_append_right _ (List.mem_append_left _ hp))))))); (case B => k_asm); (case F => k_asm); (case X => k_asm); (case T => k_asm); (case hk => exact rfl); (case d => walk_at "dep"); (case u => walk_at "dep"))
        intro h14 tk14 V4 G4 tV4 eV4 eN4 F14 N14 ap14
        replace N14 := nw_d3 N14
        replace ap14 := ap_d3 ap14
        have eG : G4 ++ (G2 ++ (G1 ++ R)) = (G4 ++ (G2 ++ G1)) ++ R := by simp only [List.append_assoc]
        have eY : tl w.params V2 ++ (fE w.params X1 ++ (tl w.params V4 ++ fE w.params X2)) = fE w.params ((⟨n1.p ++ [b], V2, fun _ => .none, 1⟩ : FN) :: (X1 ++ ⟨n1.p, V4, updC n1.C (.b b) (.ref V2.t), n1.c + 1⟩ :: X2)) := by
          show _ = tl w.params V2 ++ fE w.params (X1 ++ _)
          rw [fE_app]; rfl
        rw [eG, eY] at N14 ap14
        have fi2 := FI.add (cn := 0) fi1 ho1 hc2 tV4 eV4 eN4 tV2 ⟨_, _, vN2⟩
        obtain ⟨Fo2, hFo2⟩ : ∃ f, f = ((⟨n1.p ++ [b], V2, fun _ => .none, 1⟩ : FN) :: (X1 ++ ⟨n1.p, V4, updC n1.C (.b b) (.ref V2.t), n1.c + 1⟩ :: X2)) := ⟨_, rfl⟩
        rw [← hFo2] at N14 ap14 fi2
        walk_at "gon"
        rename Fr _ _ _ _ => FZ
        rename News _ _ _ _ => NZ
        have apZ := ap14.tl.tl
        have hpm : ∀ q, (∃ m ∈ Fo2, m.p = q) ↔ (∃ m ∈ X1 ++ n1 :: X2, m.p = q) ∨ q = n1.p ++ [b] := fun q => by
          simp only [hFo2]
          simp only [List.mem_cons, List.mem_append]
          constructor
          · rintro ⟨m, rfl | h | rfl | h, rfl⟩
            · exact .inr rfl
            · exact .inl ⟨m, .inl h, rfl⟩
            · exact .inl ⟨n1, .inr (.inl rfl), rfl⟩
            · exact .inl ⟨m, .inr (.inr h), rfl⟩
          · rintro (⟨m, h | rfl | h, rfl⟩ | rfl)
            · exact ⟨m, .inr (.inl h), rfl⟩
            · exact ⟨_, .inr (.inr (.inl rfl)), rfl⟩
            · exact ⟨m, .inr (.inr (.inr h)), rfl⟩
            · exact ⟨_, .inl rfl, rfl⟩
        refine ⟨_, _, _, _, rfl, FZ, NZ, fun p hp q hq e => ?_, ⟨mem_D, trivial⟩, V2.t, ⟨Fo2, H2, _, G4 ++ (G2 ++ G1), ⟨n1.p ++ [b], V2, fun _ => .none, 1⟩, rfl, apZ, fi2.le (by omega), hH2.trans hH1, hFo2 ▸ .head _, hn2p, rfl, fun q => ?_, fun m hm => ?_⟩, noddS ho1 hp1 hb hodd, rfl, rfl, rfl, rfl⟩
        · rcases List.mem_cons.mp hq with rfl | hq
          · exact ap14.ne p (.tail _ hp) e
          · rw [List.mem_singleton.mp hq] at e
            exact ap14.tl.ne p hp e
        · refine (hpm q).trans ⟨fun h => ?_, fun h => ?_⟩
          · rcases h with h | h
            · rcases (hq1 q).mp h with h | ⟨j, j1, j2, e⟩
              · exact .inl h
              · exact .inr ⟨j, j1, by omega, e⟩
            · exact .inr ⟨i + 1, by omega, Nat.le_refl _, h.trans hn2p⟩
          · rcases h with h | ⟨j, j1, j2, e⟩
            · exact .inl ((hq1 q).mpr (.inl h))
            · rcases Nat.lt_or_ge j (i + 1) with c | c
              · exact .inl ((hq1 q).mpr (.inr ⟨j, j1, by omega, e⟩))
              · have : j = i + 1 := by omega
                subst this
                exact .inr (e.trans hn2p.symm)
        · rw [hFo2]
          obtain ⟨m', hm', e1, e2⟩ := hs1 m hm
          rcases List.mem_append.mp hm' with h | h
          · exact ⟨m', .tail _ (List.mem_append_left _ h), e1, e2⟩
          · rcases List.mem_cons.mp h with rfl | h
            · exact ⟨_, .tail _ (List.mem_append_right _ (.head _)), e1, eV4.trans e2⟩
            · exact ⟨m', .tail _ (List.mem_append_right _ (.tail _ h)), e1, e2⟩
  · rintro h tk m₁ nx hJJ F₁ N₁
    (try k_fold)
    obtain ⟨x, ⟨Fo1, H1, e1, G1, n1, rfl, ap1, fi1, hH1, hn1, hp1, hx1, hq1, hs1⟩, hodd, q1, q2, q3, q4⟩ := hJJ
    rw [map4 q1 q2 q3 q4] at F₁
    refine foldM F₁ ?_; clear F₁; intro Mx2 F₁
    walk_at "gon"
    rename Fr h₀ _ _ _ => FZ
    rename News h₀ _ _ _ => NZ
    exact hret _ _ _ D wv wv.length x _ (.ref x) .none ⟨Fo1, H1, e1, G1, n1, rfl, ap1, fi1, hH1, hn1, hp1, hx1, hq1, hs1⟩ (.inr ⟨hodd (by omega), hwl, rfl, rfl⟩) FZ NZ (ne_of_lts (by assumption))
end
end Mine
end
section
open PySem PySem.W PySem.Spec PySem.Calls PyProof.Rows
namespace Mine
/-! the dict known of the names law -/
noncomputable def pk (p : List (Array UInt8)) : List (List UInt8) := p.map Array.toList
theorem pk_inj : ∀ {p q : List (Array UInt8)}, pk p = pk q → p = q
  | [], [], _ => rfl
  | [], _ :: _, h => nomatch h
  | _ :: _, [], h => nomatch h
  | a :: p, b :: q, h => by
    have h1 := List.cons.inj (show a.toList :: pk p = b.toList :: pk q from h)
    rw [pk_inj h1.2, Array.toList_inj.mp h1.1]
section
variable {prog : Program} {w : World}
theorem items_of {vs : List Value} {bs : List (Array UInt8)} (h : BysAre vs bs) : ItemsAre (bytesKind prog w) (pk bs) vs := by
  induction h with
  | nil => exact .nil
  | @cons b t _ _ _ ih => exact .cons (show isBytes b.toList (.bytes b t) = true by simp [isBytes]) ih
abbrev KXs := List (List (List UInt8) × Addr × Value)
structure KnO (prog : Program) (w : World) (o : Obj) (xs : KXs) (G : List (Addr × Obj)) : Prop where
  hc : o.ExactDict
  hd : ∃ es ep, o.data = .dict es ep ∧ es.toList = xs.map (entryOfKey (tupleKind (bytesKind prog w)))
  nd : (xs.map (·.1)).Nodup
  ks : ∀ x ∈ xs, ∃ ok, (x.2.1, ok) ∈ G ∧ TupKeyObj (bytesKind prog w) x.1 ok
theorem KnO.mono {o : Obj} {xs : KXs} {G G' : List (Addr × Obj)} (h : KnO prog w o xs G) (s : ∀ p ∈ G, p ∈ G') : KnO prog w o xs G' :=
  ⟨h.hc, h.hd, h.nd, fun x hx => let ⟨ok, a, b⟩ := h.ks x hx; ⟨ok, s _ a, b⟩⟩
theorem KnO.empty {K : Type} [DecidableEq K] {knd : KeyKind prog w K} {o : Obj} {G : List (Addr × Obj)} (hd : o.IsDictOf knd []) : KnO prog w o [] G := by
  obtain ⟨es, ep, hc, hdat, _, hp, _⟩ := hd
  exact ⟨hc, ⟨es, ep, hdat, List.length_eq_zero_iff.mp hp.length⟩, List.nodup_nil, fun _ hx => nomatch hx⟩
variable {A : Around} {E : Value → Shared → Prop} {s : Shared} {h₀ h : Heap} {L kA D : Addr} {m : Str → Option Value} {news : List (Addr × Obj)} {o ok : Obj} {xs : KXs} {G : List (Addr × Obj)} {ks : List (List UInt8)}
theorem KnO.dict (K : KnO prog w o xs G) (N : News h₀ L h news) (hm : (kA, o) ∈ news) (sub : ∀ p ∈ G, p ∈ news) : h.DictOfH (tupleKind (bytesKind prog w)) kA xs := by
  obtain ⟨es, ep, hd, he⟩ := K.hd
  exact ⟨o, es, ep, N.get hm, K.hc, hd, he, fun x hx => let ⟨_, hmk, t⟩ := K.ks x hx; t.key (N.get (sub _ hmk)), K.nd⟩
theorem kn_notin {Q : Value → Shared → Prop} (K : KnO prog w o xs G) (N : News h₀ L s.heap news) (hm : (kA, o) ∈ news) (sub : ∀ p ∈ G, p ∈ news) (lo : (kA == sysModules) = false) (hu : A.units + 1 < cLine) (hD : (D, ok) ∈ news) (tk : TupKeyObj (bytesKind prog w) ks ok)
    (h : ∀ k, Q (.bool (!(atKey xs ks).isSome)) { s with toks := k }) : wpAny (model prog w) A (compareOp .NotIn (.ref D) (.ref kA)) Q E s :=
  wpAny_notIn_heap (knd := tupleKind (bytesKind prog w)) (tupleKind_room_in1 hu) (tk.key (N.get hD)) lo (K.dict N hm sub) (h _)
theorem kn_get {Q : Value → Shared → Prop} {dflt : Value} (K : KnO prog w o xs G) (N : News h₀ L s.heap news) (hm : (kA, o) ∈ news) (sub : ∀ p ∈ G, p ∈ news) (lo : (kA == sysModules) = false) (hu : A.units + 1 < cLine) (hD : (D, ok) ∈ news) (tk : TupKeyObj (bytesKind prog w) ks ok)
    (h : ∀ k, Q (((atKey xs ks).map (·.2)).getD dflt) { s with toks := k }) : wpAny (model prog w) A (call (.builtin "dict.get") [.ref kA, .ref D, dflt]) Q E s :=
  call_meetsIn PySem.F.slot_dict_get (K.dict N hm sub).typeIs PySem.F.entry_dict_get (PySem.F.args_dict_get_3 _ _ _) (meetsH_dict_get_default (tupleKind (bytesKind prog w)) kA D lo dflt) ⟨tupleKind_room_in1 hu, ks, xs, tk.key (N.get hD), K.dict N hm sub, h _⟩
theorem kn_getM {pl : Sem Bool} {Q : Value × List Value → Shared → Prop} (K : KnO prog w o xs G) (N : News h₀ L s.heap news) (hm : (kA, o) ∈ news) (sub : ∀ p ∈ G, p ∈ news) (h : Q (.builtin "dict.get", [.ref kA]) s) : wpAny (model prog w) A (getMethod (.ref kA) "get" pl) Q E s :=
  getMethod_builtin (K.dict N hm sub).typeIs PySem.F.plainAttrs_dict PySem.F.slot_dict_get PySem.F.type_dict_get (dictOfH_noDict (K.dict N hm sub)) h
theorem kn_set {v : Value} {g : Obj → List (Addr × Obj)} {Q : Unit → Shared → Prop} (K : KnO prog w o xs G) (F : Fr h₀ L s.heap m) (N : News h₀ L s.heap news) (U : UpdF kA o news g) (sub : ∀ p ∈ G, p ∈ news) (hu : A.units + 1 < cLine) (hD : (D, ok) ∈ G) (tk : TupKeyObj (bytesKind prog w) ks ok) (hz : xs.length ≤ 1000)
    (h : ∀ h' o' k, Fr h₀ L h' m → News h₀ L h' (g o') → KnO prog w o' (storedH xs ks D v) G → Q () { s with heap := h', toks := k }) : wpAny (model prog w) A (setItem (.ref kA) (.ref D) v) Q E s := by
  obtain ⟨pre, post, rfl, hg, a, b⟩ := U.split
  have hmm : (kA, o) ∈ pre ++ (kA, o) :: post := List.mem_append_right _ (.head _)
  have hm := N (kA, o) hmm
  refine wpAny_setItem_heap (knd := tupleKind (bytesKind prog w)) (tupleKind_room_in1 hu) (tk.key (N.get (sub _ hD))) (K.dict N hmm sub) (fun h' hm' hs => ?_) (by rw [sizeLine_eq]; omega)
  obtain ⟨o', es', ep', ho', hc', hd', he', _, hn'⟩ := hm'
  refine h h' o' _ (F.change hs hm.2.1 hm.2.2) (hg o' ▸ N.setIn a b hs ho') ⟨hc', ⟨es', ep', hd', he'⟩, hn', fun x hx => ?_⟩
  rcases mem_storedH hx with ⟨y, hy, e1, e2⟩ | ⟨e1, e2⟩
  · obtain ⟨oky, hmk, t⟩ := K.ks y hy
    exact ⟨oky, by rw [e2]; exact hmk, by rw [e1]; exact t⟩
  · exact ⟨ok, by rw [e2]; exact hD, by rw [e1]; exact tk⟩
end
/-- what is known: the tables of the forest, under their paths -/
structure KnF (xs : KXs) (P : List (Array UInt8) → Prop) (R : List (Array UInt8) → Addr → Prop) : Prop where
  nd : (xs.map (·.1)).Nodup
  a : ∀ x ∈ xs, ∃ q r, x.1 = pk q ∧ P q ∧ R q r ∧ x.2.2 = .ref r
  b : ∀ q, P q → ∃ x ∈ xs, x.1 = pk q
theorem atKey_some {xs : KXs} {k : List (List UInt8)} {p : Addr × Value} (h : atKey xs k = some p) : (k, p) ∈ xs := by
  unfold atKey at h
  obtain ⟨x, h1, h2⟩ := Option.map_eq_some_iff.mp h
  have h3 := List.find?_some h1
  have h4 := List.mem_of_find?_eq_some h1
  rw [decide_eq_true_eq] at h3
  obtain ⟨a, b⟩ := x
  simp only at h2 h3
  subst h2 h3
  exact h4
theorem atKey_none {xs : KXs} {k : List (List UInt8)} (h : atKey xs k = none) : ∀ x ∈ xs, x.1 ≠ k := fun x hx e => by
  unfold atKey at h
  rw [Option.map_eq_none_iff] at h
  have := List.find?_eq_none.mp h x hx
  simp [e] at this
theorem KnF.is {xs : KXs} {P : List (Array UInt8) → Prop} {R : List (Array UInt8) → Addr → Prop} (K : KnF xs P R) {q : List (Array UInt8)} (h : P q) : (atKey xs (pk q)).isSome = true := by
  cases e : atKey xs (pk q) with
  | some p => rfl
  | none =>
    obtain ⟨x, hx, ex⟩ := K.b q h
    exact absurd ex (atKey_none e x hx)
theorem KnF.no {xs : KXs} {P : List (Array UInt8) → Prop} {R : List (Array UInt8) → Addr → Prop} (K : KnF xs P R) {q : List (Array UInt8)} (h : ¬ P q) : (atKey xs (pk q)).isSome = false := by
  cases e : atKey xs (pk q) with
  | none => rfl
  | some p =>
    obtain ⟨q', r, e1, e2, _, _⟩ := K.a _ (atKey_some e)
    rw [pk_inj (show pk q = pk q' from e1)] at h
    exact absurd e2 h
theorem KnF.get {xs : KXs} {P : List (Array UInt8) → Prop} {R : List (Array UInt8) → Addr → Prop} (K : KnF xs P R) {q : List (Array UInt8)} {r : Addr} (hr : R q r) (hu : ∀ r', R q r' → r' = r) : ((atKey xs (pk q)).map (·.2)).getD (.ref r) = .ref r := by
  cases e : atKey xs (pk q) with
  | none => rfl
  | some p =>
    obtain ⟨q', r', e1, e2, e3, e4⟩ := K.a _ (atKey_some e)
    rw [← pk_inj (show pk q = pk q' from e1)] at e3
    show p.2 = _
    rw [show p.2 = .ref r' from e4, hu r' e3]
theorem KnF.mono {xs : KXs} {P : List (Array UInt8) → Prop} {R R' : List (Array UInt8) → Addr → Prop} (K : KnF xs P R) (h : ∀ q r, P q → R q r → R' q r) : KnF xs P R' :=
  ⟨K.nd, fun x hx => let ⟨q, r, e1, e2, e3, e4⟩ := K.a x hx; ⟨q, r, e1, e2, h q r e2 e3, e4⟩, K.b⟩
theorem KnF.congr {xs : KXs} {P P' : List (Array UInt8) → Prop} {R : List (Array UInt8) → Addr → Prop} (K : KnF xs P R) (h : ∀ q, P q ↔ P' q) : KnF xs P' R :=
  ⟨K.nd, fun x hx => let ⟨q, r, e1, e2, e3, e4⟩ := K.a x hx; ⟨q, r, e1, (h q).mp e2, e3, e4⟩, fun q hq => K.b q ((h q).mpr hq)⟩
theorem KnF.put {xs : KXs} {P : List (Array UInt8) → Prop} {R : List (Array UInt8) → Addr → Prop} (K : KnF xs P R) {q : List (Array UInt8)} {r D : Addr} (hr : R q r) (hn : ((storedH xs (pk q) D (.ref r)).map (·.1)).Nodup) : KnF (storedH xs (pk q) D (.ref r)) (fun p => P p ∨ p = q) R := by
  refine ⟨hn, ?_, ?_⟩
  · intro x hx
    unfold storedH at hx
    split at hx
    · obtain ⟨y, hy, rfl⟩ := List.mem_map.mp hx
      obtain ⟨q', r', e1, e2, e3, e4⟩ := K.a y hy
      unfold putAt
      split
      · rename_i c
        exact ⟨q, r, c, .inr rfl, hr, rfl⟩
      · exact ⟨q', r', e1, .inl e2, e3, e4⟩
    · rcases List.mem_append.mp hx with hx | hx
      · obtain ⟨q', r', e1, e2, e3, e4⟩ := K.a x hx
        exact ⟨q', r', e1, .inl e2, e3, e4⟩
      · rw [List.mem_singleton.mp hx]
        exact ⟨q, r, rfl, .inr rfl, hr, rfl⟩
  · have old : ∀ p, (∃ x ∈ xs, x.1 = pk p) → ∃ x ∈ storedH xs (pk q) D (.ref r), x.1 = pk p := fun p ⟨x, hx, ex⟩ => by
      unfold storedH
      split
      · refine ⟨putAt (pk q) (.ref r) x, List.mem_map.mpr ⟨x, hx, rfl⟩, ?_⟩
        unfold putAt
        split
        · exact ex
        · exact ex
      · exact ⟨x, List.mem_append_left _ hx, ex⟩
    rintro p (h | rfl)
    · exact old p (K.b p h)
    · cases e : atKey xs (pk p) with
      | some v => exact old p ⟨_, atKey_some e, rfl⟩
      | none =>
        rw [storedH_new e]
        exact ⟨_, List.mem_append_right _ (.head _), rfl⟩
theorem storedH_len {xs : KXs} {k : List (List UInt8)} {a : Addr} {v : Value} : (storedH xs k a v).length ≤ xs.length + 1 := by
  unfold storedH
  split <;> simp
section
variable {prog : Program} {w : World} {A : Around} {E : Value → Shared → Prop} {s : Shared} {h₀ h : Heap} {L D : Addr} {m : Str → Option Value} {news : List (Addr × Obj)}
/-- list.clear of any list -/
theorem clearL {vs : List Value} {n : Nat} {news' : Nat → List (Addr × Obj)} {Q : Value → Shared → Prop} (F : Fr h₀ L s.heap m) (N : News h₀ L s.heap news) (U : ∀ k, Upd D (listOf vs.toArray n) (listOf ([] : List Value).toArray k) news (news' k)) (hz : vs.length ≤ 1000)
    (h : ∀ h' k, Fr h₀ L h' m → News h₀ L h' (news' k) → Q .none { s with heap := h' }) : wpAny (model prog w) A (call (.builtin "list.clear") [.ref D]) Q E s := by
  by_cases e : vs = []
  · subst e
    have U0 := U n
    obtain ⟨pre, post, e1, e2, a, c⟩ := U0.split
    subst e1
    have z := N (D, listOf ([] : List Value).toArray n) (List.mem_append.mpr (.inr (.head _)))
    refine call_meets PySem.F.slot_list_clear ⟨_, z.1, rfl⟩ PySem.F.entry_list_clear (PySem.F.args_list_clear_1 _) (PySem.AutoSeq1.list_clear_list_0 D _ n (by rw [sizeLine_eq]; decide)) ⟨z.1, h _ n (F.change (Heap.SameBut.update ..) z.2.1 z.2.2) ?_⟩
    rw [e2]
    exact kl_turn0 (fun _ => #[]) N a c rfl rfl
  · refine kl_clear F N (U (n + 1)) ?_ ?_ fun h' F' N' => h h' _ F' N'
    · intro q
      exact e (List.length_eq_zero_iff.mp q)
    · rw [sizeLine_eq]
      show vs.length ≤ _
      omega
end
end Mine
end
section
open PySem PySem.W PySem.Spec PySem.Calls PyProof.Rows
open PyProof.Rows
namespace Mine
theorem ap_gcel {B R : List (Addr × Obj)} {q0 q1 q2 q3 q4 q5 q6 q7 : Addr × Obj} (h : Apart (B ++ (q6 :: q5 :: q4 :: q3 :: q2 :: q1 :: q7 :: q0 :: R))) : Apart (q6 :: q5 :: q4 :: q3 :: q2 :: q1 :: q0 :: (B ++ (q7 :: R))) := LT.ap (bs := [B, [q6], [q5], [q4], [q3], [q2], [q1], [q7], [q0], R]) (.a (.b 0) (.a (.b 1) (.a (.b 2) (.a (.b 3) (.a (.b 4) (.a (.b 5) (.a (.b 6) (.a (.b 7) (.a (.b 8) (.b 9)))))))))) (.a (.b 1) (.a (.b 2) (.a (.b 3) (.a (.b 4) (.a (.b 5) (.a (.b 6) (.a (.b 8) (.a (.b 0) (.a (.b 7) (.b 9)))))))))) [] h rfl
theorem nw_gcel {h₀ h : Heap} {L : Addr} {B R : List (Addr × Obj)} {q0 q1 q2 q3 q4 q5 q6 q7 : Addr × Obj} (N : News h₀ L h (B ++ (q6 :: q5 :: q4 :: q3 :: q2 :: q1 :: q7 :: q0 :: R))) : News h₀ L h (q6 :: q5 :: q4 :: q3 :: q2 :: q1 :: q0 :: (B ++ (q7 :: R))) := LT.nw (bs := [B, [q6], [q5], [q4], [q3], [q2], [q1], [q7], [q0], R]) (.a (.b 0) (.a (.b 1) (.a (.b 2) (.a (.b 3) (.a (.b 4) (.a (.b 5) (.a (.b 6) (.a (.b 7) (.a (.b 8) (.b 9)))))))))) (.a (.b 1) (.a (.b 2) (.a (.b 3) (.a (.b 4) (.a (.b 5) (.a (.b 6) (.a (.b 8) (.a (.b 0) (.a (.b 7) (.b 9)))))))))) [] N rfl
theorem ap_gn2 {B R : List (Addr × Obj)} {q0 q1 q2 q3 q4 q5 q6 q7 q8 : Addr × Obj} (h : Apart (q8 :: q7 :: q6 :: q5 :: q4 :: q3 :: q2 :: q1 :: q0 :: (B ++ R))) : Apart (B ++ (q8 :: q7 :: q6 :: q5 :: q4 :: q3 :: q2 :: q1 :: q0 :: R)) := LT.ap (bs := [[q8], [q7], [q6], [q5], [q4], [q3], [q2], [q1], [q0], B, R]) (.a (.b 0) (.a (.b 1) (.a (.b 2) (.a (.b 3) (.a (.b 4) (.a (.b 5) (.a (.b 6) (.a (.b 7) (.a (.b 8) (.a (.b 9) (.b 10))))))))))) (.a (.b 9) (.a (.b 0) (.a (.b 1) (.a (.b 2) (.a (.b 3) (.a (.b 4) (.a (.b 5) (.a (.b 6) (.a (.b 7) (.a (.b 8) (.b 10))))))))))) [] h rfl
theorem nw_gn2 {h₀ h : Heap} {L : Addr} {B R : List (Addr × Obj)} {q0 q1 q2 q3 q4 q5 q6 q7 q8 : Addr × Obj} (N : News h₀ L h (q8 :: q7 :: q6 :: q5 :: q4 :: q3 :: q2 :: q1 :: q0 :: (B ++ R))) : News h₀ L h (B ++ (q8 :: q7 :: q6 :: q5 :: q4 :: q3 :: q2 :: q1 :: q0 :: R)) := LT.nw (bs := [[q8], [q7], [q6], [q5], [q4], [q3], [q2], [q1], [q0], B, R]) (.a (.b 0) (.a (.b 1) (.a (.b 2) (.a (.b 3) (.a (.b 4) (.a (.b 5) (.a (.b 6) (.a (.b 7) (.a (.b 8) (.a (.b 9) (.b 10))))))))))) (.a (.b 9) (.a (.b 0) (.a (.b 1) (.a (.b 2) (.a (.b 3) (.a (.b 4) (.a (.b 5) (.a (.b 6) (.a (.b 7) (.a (.b 8) (.b 10))))))))))) [] N rfl
theorem ap_gn3 {X G B R : List (Addr × Obj)} {q0 q1 q2 q3 q4 q5 q6 q7 q8 q9 : Addr × Obj} (h : Apart (X ++ (G ++ (B ++ (q8 :: q7 :: q6 :: q5 :: q4 :: q3 :: q2 :: q1 :: q0 :: (q9 :: R)))))) : Apart (q8 :: q7 :: q6 :: q5 :: q4 :: q3 :: q2 :: q1 :: q0 :: (X ++ (B ++ (q9 :: (G ++ R))))) := LT.ap (bs := [X, G, B, [q8], [q7], [q6], [q5], [q4], [q3], [q2], [q1], [q0], [q9], R]) (.a (.b 0) (.a (.b 1) (.a (.b 2) (.a (.b 3) (.a (.b 4) (.a (.b 5) (.a (.b 6) (.a (.b 7) (.a (.b 8) (.a (.b 9) (.a (.b 10) (.a (.b 11) (.a (.b 12) (.b 13)))))))))))))) (.a (.b 3) (.a (.b 4) (.a (.b 5) (.a (.b 6) (.a (.b 7) (.a (.b 8) (.a (.b 9) (.a (.b 10) (.a (.b 11) (.a (.b 0) (.a (.b 2) (.a (.b 12) (.a (.b 1) (.b 13)))))))))))))) [] h rfl
theorem nw_gn3 {h₀ h : Heap} {L : Addr} {X G B R : List (Addr × Obj)} {q0 q1 q2 q3 q4 q5 q6 q7 q8 q9 : Addr × Obj} (N : News h₀ L h (X ++ (G ++ (B ++ (q8 :: q7 :: q6 :: q5 :: q4 :: q3 :: q2 :: q1 :: q0 :: (q9 :: R)))))) : News h₀ L h (q8 :: q7 :: q6 :: q5 :: q4 :: q3 :: q2 :: q1 :: q0 :: (X ++ (B ++ (q9 :: (G ++ R))))) := LT.nw (bs := [X, G, B, [q8], [q7], [q6], [q5], [q4], [q3], [q2], [q1], [q0], [q9], R]) (.a (.b 0) (.a (.b 1) (.a (.b 2) (.a (.b 3) (.a (.b 4) (.a (.b 5) (.a (.b 6) (.a (.b 7) (.a (.b 8) (.a (.b 9) (.a (.b 10) (.a (.b 11) (.a (.b 12) (.b 13)))))))))))))) (.a (.b 3) (.a (.b 4) (.a (.b 5) (.a (.b 6) (.a (.b 7) (.a (.b 8) (.a (.b 9) (.a (.b 10) (.a (.b 11) (.a (.b 0) (.a (.b 2) (.a (.b 12) (.a (.b 1) (.b 13)))))))))))))) [] N rfl
theorem ap_gn4 {X G B R : List (Addr × Obj)} {q0 q1 q2 q3 q4 q5 q6 q7 q8 q9 q10 q11 q12 p0 : Addr × Obj} (h : Apart (q12 :: q11 :: q10 :: q9 :: q8 :: q7 :: q6 :: q5 :: q4 :: q3 :: q2 :: q1 :: q0 :: (X ++ (B ++ (p0 :: (G ++ R)))))) : Apart (X ++ (B ++ (q7 :: p0 :: q8 :: q3 :: q4 :: (q12 :: q11 :: q10 :: q9 :: q6 :: q5 :: q2 :: q1 :: q0 :: (G ++ R))))) := LT.ap (bs := [[q12], [q11], [q10], [q9], [q8], [q7], [q6], [q5], [q4], [q3], [q2], [q1], [q0], X, B, [p0], G, R]) (.a (.b 0) (.a (.b 1) (.a (.b 2) (.a (.b 3) (.a (.b 4) (.a (.b 5) (.a (.b 6) (.a (.b 7) (.a (.b 8) (.a (.b 9) (.a (.b 10) (.a (.b 11) (.a (.b 12) (.a (.b 13) (.a (.b 14) (.a (.b 15) (.a (.b 16) (.b 17)))))))))))))))))) (.a (.b 13) (.a (.b 14) (.a (.b 5) (.a (.b 15) (.a (.b 4) (.a (.b 9) (.a (.b 8) (.a (.b 0) (.a (.b 1) (.a (.b 2) (.a (.b 3) (.a (.b 6) (.a (.b 7) (.a (.b 10) (.a (.b 11) (.a (.b 12) (.a (.b 16) (.b 17)))))))))))))))))) [] h rfl
theorem nw_gn4 {h₀ h : Heap} {L : Addr} {X G B R : List (Addr × Obj)} {q0 q1 q2 q3 q4 q5 q6 q7 q8 q9 q10 q11 q12 p0 : Addr × Obj} (N : News h₀ L h (q12 :: q11 :: q10 :: q9 :: q8 :: q7 :: q6 :: q5 :: q4 :: q3 :: q2 :: q1 :: q0 :: (X ++ (B ++ (p0 :: (G ++ R)))))) : News h₀ L h (X ++ (B ++ (q7 :: p0 :: q8 :: q3 :: q4 :: (q12 :: q11 :: q10 :: q9 :: q6 :: q5 :: q2 :: q1 :: q0 :: (G ++ R))))) := LT.nw (bs := [[q12], [q11], [q10], [q9], [q8], [q7], [q6], [q5], [q4], [q3], [q2], [q1], [q0], X, B, [p0], G, R]) (.a (.b 0) (.a (.b 1) (.a (.b 2) (.a (.b 3) (.a (.b 4) (.a (.b 5) (.a (.b 6) (.a (.b 7) (.a (.b 8) (.a (.b 9) (.a (.b 10) (.a (.b 11) (.a (.b 12) (.a (.b 13) (.a (.b 14) (.a (.b 15) (.a (.b 16) (.b 17)))))))))))))))))) (.a (.b 13) (.a (.b 14) (.a (.b 5) (.a (.b 15) (.a (.b 4) (.a (.b 9) (.a (.b 8) (.a (.b 0) (.a (.b 1) (.a (.b 2) (.a (.b 3) (.a (.b 6) (.a (.b 7) (.a (.b 10) (.a (.b 11) (.a (.b 12) (.a (.b 16) (.b 17)))))))))))))))))) [] N rfl
theorem ap_gn5 {X G B R : List (Addr × Obj)} {q3 q4 q7 q8 p0 : Addr × Obj} (h : Apart (X ++ (G ++ (B ++ (q7 :: p0 :: q8 :: q3 :: q4 :: R))))) : Apart (X ++ (B ++ (q7 :: p0 :: q8 :: q3 :: q4 :: (G ++ R)))) := LT.ap (bs := [X, G, B, [q7], [p0], [q8], [q3], [q4], R]) (.a (.b 0) (.a (.b 1) (.a (.b 2) (.a (.b 3) (.a (.b 4) (.a (.b 5) (.a (.b 6) (.a (.b 7) (.b 8))))))))) (.a (.b 0) (.a (.b 2) (.a (.b 3) (.a (.b 4) (.a (.b 5) (.a (.b 6) (.a (.b 7) (.a (.b 1) (.b 8))))))))) [] h rfl
theorem nw_gn5 {h₀ h : Heap} {L : Addr} {X G B R : List (Addr × Obj)} {q3 q4 q7 q8 p0 : Addr × Obj} (N : News h₀ L h (X ++ (G ++ (B ++ (q7 :: p0 :: q8 :: q3 :: q4 :: R))))) : News h₀ L h (X ++ (B ++ (q7 :: p0 :: q8 :: q3 :: q4 :: (G ++ R)))) := LT.nw (bs := [X, G, B, [q7], [p0], [q8], [q3], [q4], R]) (.a (.b 0) (.a (.b 1) (.a (.b 2) (.a (.b 3) (.a (.b 4) (.a (.b 5) (.a (.b 6) (.a (.b 7) (.b 8))))))))) (.a (.b 0) (.a (.b 2) (.a (.b 3) (.a (.b 4) (.a (.b 5) (.a (.b 6) (.a (.b 7) (.a (.b 1) (.b 8))))))))) [] N rfl
theorem ap_gtk {X B R : List (Addr × Obj)} {q3 q4 q7 q8 p0 : Addr × Obj} (h : Apart (X ++ (B ++ (q7 :: p0 :: q8 :: q3 :: q4 :: R)))) : Apart (p0 :: (X ++ (B ++ (q7 :: q8 :: q3 :: q4 :: R)))) := LT.ap (bs := [X, B, [q7], [p0], [q8], [q3], [q4], R]) (.a (.b 0) (.a (.b 1) (.a (.b 2) (.a (.b 3) (.a (.b 4) (.a (.b 5) (.a (.b 6) (.b 7)))))))) (.a (.b 3) (.a (.b 0) (.a (.b 1) (.a (.b 2) (.a (.b 4) (.a (.b 5) (.a (.b 6) (.b 7)))))))) [] h rfl
theorem nw_gtk {h₀ h : Heap} {L : Addr} {X B R : List (Addr × Obj)} {q3 q4 q7 q8 p0 : Addr × Obj} (N : News h₀ L h (X ++ (B ++ (q7 :: p0 :: q8 :: q3 :: q4 :: R)))) : News h₀ L h (p0 :: (X ++ (B ++ (q7 :: q8 :: q3 :: q4 :: R)))) := LT.nw (bs := [X, B, [q7], [p0], [q8], [q3], [q4], R]) (.a (.b 0) (.a (.b 1) (.a (.b 2) (.a (.b 3) (.a (.b 4) (.a (.b 5) (.a (.b 6) (.b 7)))))))) (.a (.b 3) (.a (.b 0) (.a (.b 1) (.a (.b 2) (.a (.b 4) (.a (.b 5) (.a (.b 6) (.b 7)))))))) [] N rfl
theorem ap_gkt {X B R : List (Addr × Obj)} {q3 q4 q7 q8 p0 : Addr × Obj} (h : Apart (p0 :: (X ++ (B ++ (q7 :: q8 :: q3 :: q4 :: R))))) : Apart (X ++ (B ++ (q7 :: p0 :: q8 :: q3 :: q4 :: R))) := LT.ap (bs := [[p0], X, B, [q7], [q8], [q3], [q4], R]) (.a (.b 0) (.a (.b 1) (.a (.b 2) (.a (.b 3) (.a (.b 4) (.a (.b 5) (.a (.b 6) (.b 7)))))))) (.a (.b 1) (.a (.b 2) (.a (.b 3) (.a (.b 0) (.a (.b 4) (.a (.b 5) (.a (.b 6) (.b 7)))))))) [] h rfl
theorem nw_gkt {h₀ h : Heap} {L : Addr} {X B R : List (Addr × Obj)} {q3 q4 q7 q8 p0 : Addr × Obj} (N : News h₀ L h (p0 :: (X ++ (B ++ (q7 :: q8 :: q3 :: q4 :: R))))) : News h₀ L h (X ++ (B ++ (q7 :: p0 :: q8 :: q3 :: q4 :: R))) := LT.nw (bs := [[p0], X, B, [q7], [q8], [q3], [q4], R]) (.a (.b 0) (.a (.b 1) (.a (.b 2) (.a (.b 3) (.a (.b 4) (.a (.b 5) (.a (.b 6) (.b 7)))))))) (.a (.b 1) (.a (.b 2) (.a (.b 3) (.a (.b 0) (.a (.b 4) (.a (.b 5) (.a (.b 6) (.b 7)))))))) [] N rfl
theorem ap_git {X B R : List (Addr × Obj)} {q1 q3 q4 q7 q8 p0 : Addr × Obj} (h : Apart (q1 :: (X ++ (B ++ (q7 :: p0 :: q8 :: q3 :: q4 :: R))))) : Apart (X ++ (B ++ (q7 :: p0 :: q8 :: q3 :: q4 :: (q1 :: R)))) := LT.ap (bs := [[q1], X, B, [q7], [p0], [q8], [q3], [q4], R]) (.a (.b 0) (.a (.b 1) (.a (.b 2) (.a (.b 3) (.a (.b 4) (.a (.b 5) (.a (.b 6) (.a (.b 7) (.b 8))))))))) (.a (.b 1) (.a (.b 2) (.a (.b 3) (.a (.b 4) (.a (.b 5) (.a (.b 6) (.a (.b 7) (.a (.b 0) (.b 8))))))))) [] h rfl
theorem nw_git {h₀ h : Heap} {L : Addr} {X B R : List (Addr × Obj)} {q1 q3 q4 q7 q8 p0 : Addr × Obj} (N : News h₀ L h (q1 :: (X ++ (B ++ (q7 :: p0 :: q8 :: q3 :: q4 :: R))))) : News h₀ L h (X ++ (B ++ (q7 :: p0 :: q8 :: q3 :: q4 :: (q1 :: R)))) := LT.nw (bs := [[q1], X, B, [q7], [p0], [q8], [q3], [q4], R]) (.a (.b 0) (.a (.b 1) (.a (.b 2) (.a (.b 3) (.a (.b 4) (.a (.b 5) (.a (.b 6) (.a (.b 7) (.b 8))))))))) (.a (.b 1) (.a (.b 2) (.a (.b 3) (.a (.b 4) (.a (.b 5) (.a (.b 6) (.a (.b 7) (.a (.b 0) (.b 8))))))))) [] N rfl
theorem ap_gti {X B R : List (Addr × Obj)} {q1 q3 q4 q7 q8 p0 : Addr × Obj} (h : Apart (X ++ (B ++ (q7 :: p0 :: q8 :: q3 :: q4 :: (q1 :: R))))) : Apart (q1 :: (X ++ (B ++ (q7 :: p0 :: q8 :: q3 :: q4 :: R)))) := LT.ap (bs := [X, B, [q7], [p0], [q8], [q3], [q4], [q1], R]) (.a (.b 0) (.a (.b 1) (.a (.b 2) (.a (.b 3) (.a (.b 4) (.a (.b 5) (.a (.b 6) (.a (.b 7) (.b 8))))))))) (.a (.b 7) (.a (.b 0) (.a (.b 1) (.a (.b 2) (.a (.b 3) (.a (.b 4) (.a (.b 5) (.a (.b 6) (.b 8))))))))) [] h rfl
theorem nw_gti {h₀ h : Heap} {L : Addr} {X B R : List (Addr × Obj)} {q1 q3 q4 q7 q8 p0 : Addr × Obj} (N : News h₀ L h (X ++ (B ++ (q7 :: p0 :: q8 :: q3 :: q4 :: (q1 :: R))))) : News h₀ L h (q1 :: (X ++ (B ++ (q7 :: p0 :: q8 :: q3 :: q4 :: R)))) := LT.nw (bs := [X, B, [q7], [p0], [q8], [q3], [q4], [q1], R]) (.a (.b 0) (.a (.b 1) (.a (.b 2) (.a (.b 3) (.a (.b 4) (.a (.b 5) (.a (.b 6) (.a (.b 7) (.b 8))))))))) (.a (.b 7) (.a (.b 0) (.a (.b 1) (.a (.b 2) (.a (.b 3) (.a (.b 4) (.a (.b 5) (.a (.b 6) (.b 8))))))))) [] N rfl
noncomputable def DrO (prog : Program) (w : World) (od : Obj) (g : Int) (tg : Tok) (x : Int) (tx : Tok) : Prop := od.IsDictOf (PySem.strKind prog w) (drK g tg x tx)
/-- the state of the names law's loop -/
structure NG (prog : Program) (w : World) (mg : Str → Option Value) (d kA mA c1 c2 cM cH hp fm fp : Addr) (G : List (Addr × Obj)) : Prop where
  clo : Clo mg cM cH mA hp fm fp G
  cd : ∃ o, (c1, o) ∈ G ∧ o.data = .cell (some (.ref d))
  ck : ∃ o, (c2, o) ∈ G ∧ o.data = .cell (some (.ref kA))
  tab : ∃ ps, (576, tabObj ps) ∈ G
theorem NG.mono {prog : Program} {w : World} {mg : Str → Option Value} {d kA mA c1 c2 cM cH hp fm fp : Addr} {G G' : List (Addr × Obj)} (h : NG prog w mg d kA mA c1 c2 cM cH hp fm fp G) (s : ∀ p ∈ G, p ∈ G') : NG prog w mg d kA mA c1 c2 cM cH hp fm fp G' :=
  ⟨h.clo.mono s, let ⟨o, a, b⟩ := h.cd; ⟨o, s _ a, b⟩, let ⟨o, a, b⟩ := h.ck; ⟨o, s _ a, b⟩, let ⟨o, a⟩ := h.tab; ⟨o, s _ a⟩⟩
noncomputable def PthP (Fo : List FN) (q : List (Array UInt8)) : Prop := q ≠ [] ∧ ∃ m ∈ Fo, m.p = q
noncomputable def PthR (Fo : List FN) (q : List (Array UInt8)) (r : Addr) : Prop := ∃ m ∈ Fo, m.p = q ∧ m.V.t = r
inductive NS (prog : Program) (w : World) (mg : Str → Option Value) (d kA mA c1 c2 c3 c4 cM cH hp fm fp t0 : Addr) (i : Nat) (nx : List (Addr × Obj)) : Prop
  | mk (Fo : List FN) (rt : FN) (H : Hp) (od : Obj) (oK : Obj) (o3 : Obj) (o4 : Obj) (g : Int) (x : Int) (tg : Tok) (tx : Tok) (mv : List Value) (e : Nat) (xs : KXs) (v3 : Option Value) (v4 : Option Value) (G : List (Addr × Obj)) (zq0 : nx = fE w.params Fo ++ (hpE w.params H ++ ((mA, listOf mv.toArray e) :: (d, od) :: (kA, oK) :: (c3, o3) :: (c4, o4) :: G))) (zq1 : Apart nx) (zq2 : FI Fo (3 + 3 * (i : Int))) (zq3 : rt ∈ Fo) (zq4 : rt.p = []) (zq5 : rt.V.t = t0) (zq6 : DrO prog w od g tg x tx) (zq7 : 0 ≤ g) (zq8 : (0 ≤ x ∧ x < 2147483647)) (zq9 : KnO prog w oK xs G) (zq10 : KnF xs (PthP Fo) (PthR Fo)) (zq11 : xs.length ≤ 3 * i) (zq12 : o3.data = .cell v3) (zq13 : o4.data = .cell v4) (zq14 : H.hp = hp) (zq15 : NG prog w mg d kA mA c1 c2 cM cH hp fm fp G) (zq16 : mv.length ≤ 10) : NS prog w mg d kA mA c1 c2 c3 c4 cM cH hp fm fp t0 i nx
theorem FI.one {V : Tab} {t : Tok} (h : TT V (updC (fun _ => .none) (.b oddB) (.int 12 t)) 3) (hn : ∃ i t, V.num = .int i t) : FI [⟨[], V, updC (fun _ => .none) (.b oddB) (.int 12 t), 3⟩] (3 + 3 * ((0 : Nat) : Int)) := by
  have one : ∀ n ∈ [(⟨[], V, updC (fun _ => .none) (.b oddB) (.int 12 t), 3⟩ : FN)], n = ⟨[], V, updC (fun _ => .none) (.b oddB) (.int 12 t), 3⟩ := fun n hn => List.mem_singleton.mp hn
  refine ⟨by decide, ⟨_, .head _, rfl⟩, List.nodup_cons.mpr ⟨fun h => (nomatch h), List.nodup_nil⟩, ?_, ?_, ?_, ?_, ?_, ?_, ?_⟩
  · intro n h1; rw [one n h1]; exact h
  · intro n h1; rw [one n h1]; exact (by decide : (3 : Int) ≤ 3 + 3 * ((0 : Nat) : Int))
  · intro n h1; rw [one n h1]; exact hn
  · intro n h1 _; rw [one n h1]; exact ⟨t, (updC_eq : updC (fun _ => .none) (.b oddB) (.int 12 t) (.b oddB) = _)⟩
  · intro n h1; rw [one n h1]; exact fun e => nomatch e
  · intro m h1 q b e; rw [one m h1] at e
    exact absurd (congrArg List.length e) (by simp)
  · intro n h1 b hb; rw [one n h1] at hb ⊢
    refine .inr ⟨(updC_ne (C := fun _ => .none) (v := .int 12 t) (fun e => hb ⟨rfl, Ky.b.inj e⟩) : updC (fun _ => .none) (.b oddB) (.int 12 t) (.b b) = .none), fun m h2 e => ?_⟩
    rw [one m h2] at e
    exact nomatch e
theorem KnF.one {V : Tab} {C : Ky → Value} {c : Int} : KnF [] (PthP [⟨[], V, C, c⟩]) (PthR [⟨[], V, C, c⟩]) :=
  ⟨List.nodup_nil, fun x hx => (nomatch hx), fun q ⟨h1, m, h2, h3⟩ => absurd (by rw [← h3, List.mem_singleton.mp h2]) h1⟩
theorem ap_two {f c : Nat} {o1 o2 : Obj} {r : List (Addr × Obj)} (h : AllLt c r) (h2 : c < f) (ap : Apart r) : Apart ((f, o1) :: (c, o2) :: r) := by
  refine List.nodup_cons.mpr ⟨fun hm => ?_, List.nodup_cons.mpr ⟨fun hm => ?_, ap⟩⟩
  · rcases List.mem_cons.mp hm with e | hm
    · exact absurd h2 (by rw [show f = c from e]; exact Nat.lt_irrefl _)
    · obtain ⟨p, hp, e⟩ := List.mem_map.mp hm
      have h3 : (show Nat from p.1) < c := allLt_mem h p hp
      have h4 : (show Nat from p.1) = f := e
      omega
  · obtain ⟨p, hp, e⟩ := List.mem_map.mp hm
    have h3 : (show Nat from p.1) < c := allLt_mem h p hp
    have h4 : (show Nat from p.1) = c := e
    omega
theorem ap_newG {l : Addr} {o : Obj} {r : List (Addr × Obj)} (h : AllLt l r) (ap : Apart r) : Apart ((l, o) :: r) := List.nodup_cons.mpr ⟨fun hm => by
  obtain ⟨p, hp, e⟩ := List.mem_map.mp hm
  have := allLt_mem h p hp
  exact absurd this (by rw [e]; exact Nat.lt_irrefl _), ap⟩
theorem all_consG {D : Addr} {p : Addr × Obj} {r : List (Addr × Obj)} (h : p.1 ≠ D) (h2 : ∀ q ∈ r, q.1 ≠ D) : ∀ q ∈ p :: r, q.1 ≠ D := fun q hq => by
  rcases List.mem_cons.mp hq with rfl | hq
  · exact h
  · exact h2 q hq
theorem apC6 {d : Addr} {od : Obj} {news : List (Addr × Obj)} {L : Addr} {o1 o2 o3 o4 o5 o6 : Obj} (l : ∀ p ∈ (d, od) :: news, p.1 < L) (ap : Apart ((d, od) :: news)) :
    Apart ((L + 1 + 1 + 1 + 1 + 1 + 1, o1) :: (L + 1 + 1 + 1 + 1 + 1, o2) :: (L + 1 + 1 + 1 + 1, o3) :: (L + 1 + 1 + 1, o4) :: (L + 1 + 1, o5) :: (L + 1, o6) :: (d, od) :: news) := by
  have hl : ∀ k : Nat, ∀ p ∈ (d, od) :: news, p.1 ≠ (show Nat from L) + k := fun k p hp e => by
    have h1 : (show Nat from p.1) < (show Nat from L) := l p hp
    have h2 : (show Nat from p.1) = (show Nat from L) + k := e
    omega
  have hn : ∀ (k : Nat) {r : List (Addr × Obj)} {o : Obj}, (∀ p ∈ r, p.1 ≠ (show Nat from L) + k) → Apart r → Apart (((show Nat from L) + k, o) :: r) := fun k r o h ap => List.nodup_cons.mpr ⟨fun hm => by
    obtain ⟨p, hp, e⟩ := List.mem_map.mp hm
    exact h p hp e, ap⟩
  have hne : ∀ (j k : Nat), j ≠ k → (show Nat from L) + j ≠ (show Nat from L) + k := fun j k h e => h (by omega)
  refine hn 6 (all_consG (hne 5 6 (by omega)) (all_consG (hne 4 6 (by omega)) (all_consG (hne 3 6 (by omega)) (all_consG (hne 2 6 (by omega)) (all_consG (hne 1 6 (by omega)) (hl 6)))))) ?_
  refine hn 5 (all_consG (hne 4 5 (by omega)) (all_consG (hne 3 5 (by omega)) (all_consG (hne 2 5 (by omega)) (all_consG (hne 1 5 (by omega)) (hl 5))))) ?_
  refine hn 4 (all_consG (hne 3 4 (by omega)) (all_consG (hne 2 4 (by omega)) (all_consG (hne 1 4 (by omega)) (hl 4)))) ?_
  refine hn 3 (all_consG (hne 2 3 (by omega)) (all_consG (hne 1 3 (by omega)) (hl 3))) ?_
  refine hn 2 (all_consG (hne 1 2 (by omega)) (hl 2)) ?_
  exact hn 1 (hl 1) ap
section
variable {X B R : List (Addr × Obj)} {q p0 q3 q4 q7 q8 : Addr × Obj}
theorem mc7 : q7 ∈ X ++ (B ++ (q7 :: p0 :: q8 :: q3 :: q4 :: R)) := List.mem_append_right _ (List.mem_append_right _ (.head _))
theorem mc0 : p0 ∈ X ++ (B ++ (q7 :: p0 :: q8 :: q3 :: q4 :: R)) := List.mem_append_right _ (List.mem_append_right _ (.tail _ (.head _)))
theorem mc8 : q8 ∈ X ++ (B ++ (q7 :: p0 :: q8 :: q3 :: q4 :: R)) := List.mem_append_right _ (List.mem_append_right _ (.tail _ (.tail _ (.head _))))
theorem mc3 : q3 ∈ X ++ (B ++ (q7 :: p0 :: q8 :: q3 :: q4 :: R)) := List.mem_append_right _ (List.mem_append_right _ (.tail _ (.tail _ (.tail _ (.head _)))))
theorem mc4 : q4 ∈ X ++ (B ++ (q7 :: p0 :: q8 :: q3 :: q4 :: R)) := List.mem_append_right _ (List.mem_append_right _ (.tail _ (.tail _ (.tail _ (.tail _ (.head _))))))
theorem mcG (h : q ∈ R) : q ∈ X ++ (B ++ (q7 :: p0 :: q8 :: q3 :: q4 :: R)) := List.mem_append_right _ (List.mem_append_right _ (.tail _ (.tail _ (.tail _ (.tail _ (.tail _ h))))))
end
end Mine
end
section
open PySem PySem.W PySem.Spec PySem.Calls PyProof.Rows PyProof.V
namespace Mine
theorem kb_canLay : ∀ ns : List Bool, PyData.canLayAll0 (ns.map PyData.bool) = true
  | [] => rfl
  | _ :: r => by simp [PyData.canLayAll0, PyData.canLay0, kb_canLay r]
theorem kb_depth : ∀ ns : List Bool, PyData.depthAll (ns.map PyData.bool) = 0
  | [] => rfl
  | _ :: r => by simp [PyData.depthAll, PyData.depth, kb_depth r]
theorem kb_shaped (ns : List Bool) : SeqAt.shaped (.list (ns.map PyData.bool)) = true := by
  simp [SeqAt.shaped, PyData.canLay0, PyData.depth, kb_canLay, kb_depth]
theorem kb_sameAll : ∀ ns : List Bool, PySem.Spec.sameAll (ns.map PyData.bool) (ns.map PyData.bool) = true
  | [] => by simp [PySem.Spec.sameAll]
  | a :: r => by simp [List.map_cons, PySem.Spec.sameAll, PySem.Spec.same, kb_sameAll r]
theorem kb_carried : ∀ ns : List Bool, CarriedAll (ns.map Value.bool) (ns.map PyData.bool)
  | [] => .nil
  | b :: r => .cons (.bool b) (kb_carried r)
section
variable {prog : Program} {w : World} {A : Around} {E : Value → Shared → Prop} {s : Shared} {a b : Addr} {bs : List Bool} {Q : Value → Shared → Prop}
theorem ne_bools (ha : s.heap.IsList a (bs.map Value.bool).toArray) (hb : s.heap.IsList b (bs.map Value.bool).toArray) (hu : A.units + 64 < cLine) (h : Q (.bool false) s) :
    wpAny (model prog w) A (compareOp .NotEq (.ref a) (.ref b)) Q E s :=
  ne_dataH_same (reads_newData ha (kb_carried bs)) (reads_newData hb (kb_carried bs)) (kb_shaped _) (kb_shaped _) hu (SeqAt.noMix_of_shape (.list .bool) rfl _ _ (list_map_has fun _ => rfl) (list_map_has fun _ => rfl)) (by
    have e : PySem.Spec.same (.list (bs.map PyData.bool)) (.list (bs.map PyData.bool)) = true := by simp only [PySem.Spec.same]; exact kb_sameAll bs
    rw [e]; exact h)
theorem ne_boolL {h₀ : Heap} {L : Addr} {news : List (Addr × Obj)} {xs ys : List Value} {n k : Nat} (N : News h₀ L s.heap news) (ha : (a, listOf xs.toArray n) ∈ news) (hb : (b, listOf ys.toArray k) ∈ news) (ex : xs = bs.map Value.bool) (ey : ys = bs.map Value.bool) (hu : A.units + 64 < cLine) (h : Q (.bool false) s) :
    wpAny (model prog w) A (compareOp .NotEq (.ref a) (.ref b)) Q E s := by
  subst ex ey
  exact ne_bools ⟨_, N.get ha, rfl, _, rfl⟩ ⟨_, N.get hb, rfl, _, rfl⟩ hu h
end
end Mine
end
section
open PySem PySem.W PySem.Spec PySem.Calls PyProof.Rows
open PyProof.Rows
namespace Mine
noncomputable def HCd (g : Heap) : Prop := CodeHd g 578 576
noncomputable def forB : Option Stmt → List Stmt
  | some (.For _ _ b _ _) => b
  | _ => []
noncomputable abbrev ENVN (L' : Addr) : Env := envOfC (Str.ofString "_law_names_right") S_ulaw_names_right L' F_ulaw_names_right (Value.ref 578)
section
variable {X B R : List (Addr × Obj)} {q p0 q3 q4 q7 q8 : Addr × Obj} {c : Addr} {o o' : Obj}
theorem updF_c3 (h : Apart (X ++ (B ++ (q7 :: p0 :: q8 :: (c, o) :: q4 :: R)))) : UpdF c o (X ++ (B ++ (q7 :: p0 :: q8 :: (c, o) :: q4 :: R))) (fun o' => X ++ (B ++ (q7 :: p0 :: q8 :: (c, o') :: q4 :: R))) := by
  have e : ∀ o', X ++ (B ++ (q7 :: p0 :: q8 :: (c, o') :: q4 :: R)) = (X ++ (B ++ [q7, p0, q8])) ++ (c, o') :: (q4 :: R) := fun o' => by simp
  have := updF_at (pre := X ++ (B ++ [q7, p0, q8])) (post := q4 :: R) (by rw [← e]; exact h)
  rw [e]
  simp only [← e] at this
  simpa using this
theorem updF_c4 (h : Apart (X ++ (B ++ (q7 :: p0 :: q8 :: q3 :: (c, o) :: R)))) : UpdF c o (X ++ (B ++ (q7 :: p0 :: q8 :: q3 :: (c, o) :: R))) (fun o' => X ++ (B ++ (q7 :: p0 :: q8 :: q3 :: (c, o') :: R))) := by
  have e : ∀ o', X ++ (B ++ (q7 :: p0 :: q8 :: q3 :: (c, o') :: R)) = (X ++ (B ++ [q7, p0, q8, q3])) ++ (c, o') :: R := fun o' => by simp
  have := updF_at (pre := X ++ (B ++ [q7, p0, q8, q3])) (post := R) (by rw [← e]; exact h)
  rw [e]
  simp only [← e] at this
  simpa using this
theorem updF_c8 (h : Apart (X ++ (B ++ (q7 :: p0 :: (c, o) :: q3 :: q4 :: R)))) : UpdF c o (X ++ (B ++ (q7 :: p0 :: (c, o) :: q3 :: q4 :: R))) (fun o' => X ++ (B ++ (q7 :: p0 :: (c, o') :: q3 :: q4 :: R))) := by
  have e : ∀ o', X ++ (B ++ (q7 :: p0 :: (c, o') :: q3 :: q4 :: R)) = (X ++ (B ++ [q7, p0])) ++ (c, o') :: (q3 :: q4 :: R) := fun o' => by simp
  have := updF_at (pre := X ++ (B ++ [q7, p0])) (post := q3 :: q4 :: R) (by rw [← e]; exact h)
  rw [e]
  simp only [← e] at this
  simpa using this
theorem upd_c7 (h : Apart (X ++ (B ++ ((c, o) :: p0 :: q8 :: q3 :: q4 :: R)))) : Upd c o o' (X ++ (B ++ ((c, o) :: p0 :: q8 :: q3 :: q4 :: R))) (X ++ (B ++ ((c, o') :: p0 :: q8 :: q3 :: q4 :: R))) := by
  have e : ∀ o', X ++ (B ++ ((c, o') :: p0 :: q8 :: q3 :: q4 :: R)) = (X ++ B) ++ (c, o') :: (p0 :: q8 :: q3 :: q4 :: R) := fun o' => by simp
  rw [e, e]
  exact upd_at (by rw [← e]; exact h)
theorem ap_c {r0 r3 r4 r7 r8 : Addr × Obj} (h : Apart (X ++ (B ++ (q7 :: p0 :: q8 :: q3 :: q4 :: R)))) (e7 : r7.1 = q7.1) (e0 : r0.1 = p0.1) (e8 : r8.1 = q8.1) (e3 : r3.1 = q3.1) (e4 : r4.1 = q4.1) : Apart (X ++ (B ++ (r7 :: r0 :: r8 :: r3 :: r4 :: R))) :=
  h.of_ad (by simp [e0, e3, e4, e7, e8])
noncomputable def MenuV (vs : List Value) : Prop := ∀ r : Int, 0 ≤ r → r < 5 → ∃ b tb, vs[r.toNat]? = some (.bytes b tb) ∧ b ∈ menuB
theorem menuV {t1 t2 t3 t4 t5 : Tok} : MenuV [.bytes #[97] t1, .bytes #[98] t2, .bytes #[111, 100, 100] t3, .bytes #[] t4, .bytes #[108, 111, 110, 103, 32, 119, 111, 114, 100] t5] := fun r h0 h5 => by
  obtain ⟨k, rfl⟩ := Int.eq_ofNat_of_zero_le h0
  have hk : k < 5 := by omega
  match k, hk with
  | 0, _ => exact ⟨_, _, rfl, by decide⟩
  | 1, _ => exact ⟨_, _, rfl, by decide⟩
  | 2, _ => exact ⟨_, _, rfl, by decide⟩
  | 3, _ => exact ⟨_, _, rfl, by decide⟩
  | 4, _ => exact ⟨_, _, rfl, by decide⟩
theorem off3_ad {I C D : Addr} {l l' : List (Addr × Obj)} (h : LCg.Off3 I C D l) (e : l'.map (·.1) = l.map (·.1)) : LCg.Off3 I C D l' := LCg.Off3.of fun p hp => by
  have : p.1 ∈ l.map (·.1) := e ▸ List.mem_map_of_mem hp
  obtain ⟨q, hq, e2⟩ := List.mem_map.mp this
  rw [← e2]; exact h.mem q hq
theorem BysAre.snoc {vs : List Value} {bs : List (Array UInt8)} {b : Array UInt8} {t : Tok} (h : BysAre vs bs) : BysAre (vs ++ [.bytes b t]) (bs ++ [b]) := by
  induction h with
  | nil => exact .cons t .nil
  | cons t' _ ih => exact .cons t' ih
theorem BysAre.hd {vs : List Value} {bs : List (Array UInt8)} (h : BysAre vs bs) (h1 : 1 ≤ bs.length) : ∃ b t, vs[Int.toNat 0]? = some (.bytes b t) ∧ bs.head? = some b := by
  cases h with
  | nil => exact absurd h1 (by decide)
  | cons t _ => exact ⟨_, t, rfl, rfl⟩
theorem drop_I {I : Addr} {it : Obj} (ap : Apart (X ++ (B ++ (q7 :: p0 :: q8 :: q3 :: q4 :: R)))) (h : (I, it) ∈ R) : ∃ R', Apart (X ++ (B ++ (q7 :: p0 :: q8 :: q3 :: q4 :: R'))) ∧ (∀ p ∈ R', p ∈ R) ∧ (∀ p ∈ R, p.1 ≠ I → p ∈ R') ∧ ∀ p ∈ X ++ (B ++ (q7 :: p0 :: q8 :: q3 :: q4 :: R')), p.1 ≠ I := by
  obtain ⟨R1, R2, rfl⟩ := List.append_of_mem h
  have e : ∀ S, X ++ (B ++ (q7 :: p0 :: q8 :: q3 :: q4 :: S)) = (X ++ (B ++ [q7, p0, q8, q3, q4])) ++ S := fun S => by simp
  have ap2 : Apart ((I, it) :: (X ++ (B ++ (q7 :: p0 :: q8 :: q3 :: q4 :: (R1 ++ R2))))) := by
    refine ap_perm ap ?_
    rw [e (R1 ++ R2), e (R1 ++ (I, it) :: R2)]
    exact ((List.Perm.append_left _ List.perm_middle).trans List.perm_middle).symm
  refine ⟨R1 ++ R2, ap2.tl, fun p hp => ?_, fun p hp hne => ?_, ap2.ne⟩
  · rcases List.mem_append.mp hp with hp | hp
    · exact List.mem_append_left _ hp
    · exact List.mem_append_right _ (.tail _ hp)
  · rcases List.mem_append.mp hp with hp | hp
    · exact List.mem_append_left _ hp
    · rcases List.mem_cons.mp hp with rfl | hp
      · exact absurd rfl hne
      · exact List.mem_append_right _ hp
theorem ns_next {prog : Program} {w : World} {mg : Str → Option Value} {d kA mA c1 c2 c3 c4 cM cH hp fm fp t0 I : Addr} {it : Obj} {i : Nat} {Fo Fo' : List FN} {rt : FN} {H' : Hp} {od oK o3 o4 : Obj} {g x : Int} {tg tx : Tok} {mv : List Value} {e : Nat} {xs : KXs} {v3 v4 : Option Value} {G GB GK : List (Addr × Obj)}
    (ap : Apart (fE w.params Fo' ++ (hpE w.params H' ++ ((mA, listOf mv.toArray e) :: (d, od) :: (kA, oK) :: (c3, o3) :: (c4, o4) :: GB)))) (hI : (I, it) ∈ GB) (hGB : ∀ p ∈ G, p ∈ GB) (hoG : ∀ p ∈ G, p.1 ≠ I) (fi : FI Fo' (3 + 3 * ((i + 1 : Nat) : Int)))
    (hrt : rt ∈ Fo) (hrp : rt.p = []) (ht0 : rt.V.t = t0) (hs : ∀ m ∈ Fo, ∃ m' ∈ Fo', m'.p = m.p ∧ m'.V.t = m.V.t) (hdd : DrO prog w od g tg x tx) (hg : 0 ≤ g) (hx : 0 ≤ x ∧ x < 2147483647) (kno : KnO prog w oK xs GK) (hGK : ∀ p ∈ GK, p ∈ GB ∧ p.1 ≠ I)
    (knf : KnF xs (PthP Fo') (PthR Fo')) (hxl : xs.length ≤ 3 * (i + 1)) (d3 : o3.data = .cell v3) (d4 : o4.data = .cell v4) (hH : H'.hp = hp) (ng : NG prog w mg d kA mA c1 c2 cM cH hp fm fp G) (hmv : mv.length ≤ 10) :
    ∃ nx', (∀ p ∈ nx', p ∈ fE w.params Fo' ++ (hpE w.params H' ++ ((mA, listOf mv.toArray e) :: (d, od) :: (kA, oK) :: (c3, o3) :: (c4, o4) :: GB))) ∧ (∀ p ∈ nx', p.1 ≠ I) ∧ NS prog w mg d kA mA c1 c2 c3 c4 cM cH hp fm fp t0 (i + 1) nx' := by
  obtain ⟨R', r1, r2, r3, r4⟩ := drop_I ap hI
  obtain ⟨m', a1, a2, a3⟩ := hs rt hrt
  refine ⟨_, fun p hp => ?_, r4, ⟨Fo', m', H', od, oK, o3, o4, g, x, tg, tx, mv, e, xs, v3, v4, R', rfl, r1, fi, a1, a2.trans hrp, a3.trans ht0, hdd, hg, hx, kno.mono fun p hp => r3 p (hGK p hp).1 (hGK p hp).2, knf, hxl, d3, d4, hH, ng.mono fun p hp => r3 p (hGB p hp) (hoG p hp), hmv⟩⟩
  simp only [List.mem_append, List.mem_cons] at hp ⊢
  rcases hp with h | h | h | h | h | h | h | h
  · exact .inl h
  · exact .inr (.inl h)
  · exact .inr (.inr (.inl h))
  · exact .inr (.inr (.inr (.inl h)))
  · exact .inr (.inr (.inr (.inr (.inl h))))
  · exact .inr (.inr (.inr (.inr (.inr (.inl h)))))
  · exact .inr (.inr (.inr (.inr (.inr (.inr (.inl h))))))
  · exact .inr (.inr (.inr (.inr (.inr (.inr (.inr (r2 p h)))))))
theorem ap_lts {l : Addr} {r : List (Addr × Obj)} (h : ∀ p ∈ r, p.1 < l) (ap : Apart r) : Apart ((l, o) :: r) := List.nodup_cons.mpr ⟨fun hm => by
  obtain ⟨p, hp, e⟩ := List.mem_map.mp hm
  exact absurd (h p hp) (by rw [e]; exact Nat.lt_irrefl _), ap⟩
theorem ap_off1 {D : Addr} {r : List (Addr × Obj)} (h : LCg.Off1 D r) (ap : Apart r) : Apart ((D, o) :: r) := List.nodup_cons.mpr ⟨fun hm => by
  obtain ⟨p, hp, e⟩ := List.mem_map.mp hm
  clear ap hm
  induction r with
  | nil => cases hp
  | cons q r ih =>
    rcases List.mem_cons.mp hp with rfl | hp
    · exact h.1 e
    · exact ih h.2 hp, ap⟩
end
theorem ap_gc3 {X B R : List (Addr × Obj)} {q1 q2 q3 q4 q5 q7 q8 p0 : Addr × Obj} (h : Apart (q1 :: q2 :: q5 :: (X ++ (B ++ (q7 :: p0 :: q8 :: q3 :: q4 :: R))))) : Apart (p0 :: (q1 :: q2 :: q5 :: (X ++ (B ++ (q7 :: q8 :: q3 :: q4 :: R))))) := LT.ap (bs := [[q1], [q2], [q5], X, B, [q7], [p0], [q8], [q3], [q4], R]) (.a (.b 0) (.a (.b 1) (.a (.b 2) (.a (.b 3) (.a (.b 4) (.a (.b 5) (.a (.b 6) (.a (.b 7) (.a (.b 8) (.a (.b 9) (.b 10))))))))))) (.a (.b 6) (.a (.b 0) (.a (.b 1) (.a (.b 2) (.a (.b 3) (.a (.b 4) (.a (.b 5) (.a (.b 7) (.a (.b 8) (.a (.b 9) (.b 10))))))))))) [] h rfl
theorem nw_gc3 {h₀ h : Heap} {L : Addr} {X B R : List (Addr × Obj)} {q1 q2 q3 q4 q5 q7 q8 p0 : Addr × Obj} (N : News h₀ L h (q1 :: q2 :: q5 :: (X ++ (B ++ (q7 :: p0 :: q8 :: q3 :: q4 :: R))))) : News h₀ L h (p0 :: (q1 :: q2 :: q5 :: (X ++ (B ++ (q7 :: q8 :: q3 :: q4 :: R))))) := LT.nw (bs := [[q1], [q2], [q5], X, B, [q7], [p0], [q8], [q3], [q4], R]) (.a (.b 0) (.a (.b 1) (.a (.b 2) (.a (.b 3) (.a (.b 4) (.a (.b 5) (.a (.b 6) (.a (.b 7) (.a (.b 8) (.a (.b 9) (.b 10))))))))))) (.a (.b 6) (.a (.b 0) (.a (.b 1) (.a (.b 2) (.a (.b 3) (.a (.b 4) (.a (.b 5) (.a (.b 7) (.a (.b 8) (.a (.b 9) (.b 10))))))))))) [] N rfl
theorem ap_gk3 {X B R : List (Addr × Obj)} {q1 q2 q3 q4 q5 q7 q8 p0 : Addr × Obj} (h : Apart (p0 :: (q1 :: q2 :: q5 :: (X ++ (B ++ (q7 :: q8 :: q3 :: q4 :: R)))))) : Apart (q1 :: q2 :: q5 :: (X ++ (B ++ (q7 :: p0 :: q8 :: q3 :: q4 :: R)))) := LT.ap (bs := [[p0], [q1], [q2], [q5], X, B, [q7], [q8], [q3], [q4], R]) (.a (.b 0) (.a (.b 1) (.a (.b 2) (.a (.b 3) (.a (.b 4) (.a (.b 5) (.a (.b 6) (.a (.b 7) (.a (.b 8) (.a (.b 9) (.b 10))))))))))) (.a (.b 1) (.a (.b 2) (.a (.b 3) (.a (.b 4) (.a (.b 5) (.a (.b 6) (.a (.b 0) (.a (.b 7) (.a (.b 8) (.a (.b 9) (.b 10))))))))))) [] h rfl
theorem nw_gk3 {h₀ h : Heap} {L : Addr} {X B R : List (Addr × Obj)} {q1 q2 q3 q4 q5 q7 q8 p0 : Addr × Obj} (N : News h₀ L h (p0 :: (q1 :: q2 :: q5 :: (X ++ (B ++ (q7 :: q8 :: q3 :: q4 :: R)))))) : News h₀ L h (q1 :: q2 :: q5 :: (X ++ (B ++ (q7 :: p0 :: q8 :: q3 :: q4 :: R)))) := LT.nw (bs := [[p0], [q1], [q2], [q5], X, B, [q7], [q8], [q3], [q4], R]) (.a (.b 0) (.a (.b 1) (.a (.b 2) (.a (.b 3) (.a (.b 4) (.a (.b 5) (.a (.b 6) (.a (.b 7) (.a (.b 8) (.a (.b 9) (.b 10))))))))))) (.a (.b 1) (.a (.b 2) (.a (.b 3) (.a (.b 4) (.a (.b 5) (.a (.b 6) (.a (.b 0) (.a (.b 7) (.a (.b 8) (.a (.b 9) (.b 10))))))))))) [] N rfl
theorem ap_gdt {X G B R : List (Addr × Obj)} {q1 q2 q3 q4 q7 q8 p0 : Addr × Obj} (h : Apart (q1 :: (X ++ (B ++ (q7 :: (q2 :: (G ++ (p0 :: q8 :: q3 :: q4 :: R)))))))) : Apart (X ++ (B ++ (q7 :: p0 :: q8 :: q3 :: q4 :: (q1 :: q2 :: (G ++ R))))) := LT.ap (bs := [[q1], X, B, [q7], [q2], G, [p0], [q8], [q3], [q4], R]) (.a (.b 0) (.a (.b 1) (.a (.b 2) (.a (.b 3) (.a (.b 4) (.a (.b 5) (.a (.b 6) (.a (.b 7) (.a (.b 8) (.a (.b 9) (.b 10))))))))))) (.a (.b 1) (.a (.b 2) (.a (.b 3) (.a (.b 6) (.a (.b 7) (.a (.b 8) (.a (.b 9) (.a (.b 0) (.a (.b 4) (.a (.b 5) (.b 10))))))))))) [] h rfl
theorem nw_gdt {h₀ h : Heap} {L : Addr} {X G B R : List (Addr × Obj)} {q1 q2 q3 q4 q7 q8 p0 : Addr × Obj} (N : News h₀ L h (q1 :: (X ++ (B ++ (q7 :: (q2 :: (G ++ (p0 :: q8 :: q3 :: q4 :: R)))))))) : News h₀ L h (X ++ (B ++ (q7 :: p0 :: q8 :: q3 :: q4 :: (q1 :: q2 :: (G ++ R))))) := LT.nw (bs := [[q1], X, B, [q7], [q2], G, [p0], [q8], [q3], [q4], R]) (.a (.b 0) (.a (.b 1) (.a (.b 2) (.a (.b 3) (.a (.b 4) (.a (.b 5) (.a (.b 6) (.a (.b 7) (.a (.b 8) (.a (.b 9) (.b 10))))))))))) (.a (.b 1) (.a (.b 2) (.a (.b 3) (.a (.b 6) (.a (.b 7) (.a (.b 8) (.a (.b 9) (.a (.b 0) (.a (.b 4) (.a (.b 5) (.b 10))))))))))) [] N rfl
end Mine
end
section
open PySem PySem.W PySem.Spec PySem.Calls PyProof.Rows
open PyProof.Rows
namespace Mine
theorem wdG4_1 : True := by
  k_with "gon" => repeat' ((fail_if_success (with_reducible show wpAny _ _ (exec (Stmt.For _ _ _ _ _) _) _ _ _)); (fail_if_success (with_reducible show wpAny _ _ (eval (Expr.ListComp _ _ _ _) _) _ _ _)); (fail_if_success (with_reducible show wpAny _ _ (pyIter (Value.ref _)) _ _ _)); (fail_if_success (with_reducible show wpAny _ _ (call (Value.ref 539) _) _ _ _)); (fail_if_success (with_reducible show wpAny _ _ (call (Value.ref 466) _) _ _ _)); (fail_if_success (with_reducible show wpAny _ _ (call (Value.ref 550) _) _ _ _)); (fail_if_success (with_reducible show wpAny _ _ (call (Value.ref 266) _) _ _ _)); (fail_if_success (with_reducible show wpAny _ _ (call (Value.ref 259) _) _ _ _)); (fail_if_success (with_reducible show wpAny _ _ (call (Value.ref 438) _) _ _ _)); (fail_if_success (with_reducible show wpAny _ _ (call (Value.ref 569) _) _ _ _)); (fail_if_success (with_reducible show WhileStep2 _ _ _ _ _ _ Flow.next _)); (fail_if_success (with_reducible show WhileStep2 _ _ _ _ _ _ Flow.cont _)); (first | (k_unfold; (try dsimp only)) | (k_end; wrow_close) | ((first | (with_reducible show wpAny _ _ (exec _ _) _ _ _) | (with_reducible show wpAny _ _ (execs _ _) _ _ _)); k_fold; (try (refine foldS ?_; intro Sx))) | walk1 | (dsimp only; walk1) | (leave1; walk_say "STEP leave1"; try dsimp only) | (refine stripQ ?_; k_unfold; (try dsimp only))))
  k_with "gom" => repeat' ((fail_if_success (with_reducible show wpAny _ _ (exec (Stmt.For _ _ _ _ _) _) _ _ _)); (fail_if_success (with_reducible show wpAny _ _ (eval (Expr.ListComp _ _ _ _) _) _ _ _)); (fail_if_success (with_reducible show wpAny _ _ (pyIter (Value.ref _)) _ _ _)); (fail_if_success (with_reducible show wpAny _ _ (getMethod (Value.ref _) _ _) _ _ _)); (fail_if_success (with_reducible show wpAny _ _ (call (Value.ref 539) _) _ _ _)); (fail_if_success (with_reducible show wpAny _ _ (call (Value.ref 466) _) _ _ _)); (fail_if_success (with_reducible show wpAny _ _ (call (Value.ref 550) _) _ _ _)); (fail_if_success (with_reducible show wpAny _ _ (call (Value.ref 266) _) _ _ _)); (fail_if_success (with_reducible show wpAny _ _ (call (Value.ref 259) _) _ _ _)); (fail_if_success (with_reducible show wpAny _ _ (call (Value.ref 438) _) _ _ _)); (fail_if_success (with_reducible show wpAny _ _ (call (Value.ref 569) _) _ _ _)); (fail_if_success (with_reducible show WhileStep2 _ _ _ _ _ _ Flow.next _)); (fail_if_success (with_reducible show WhileStep2 _ _ _ _ _ _ Flow.cont _)); (first | (k_unfold; (try dsimp only)) | (k_end; wrow_close) | ((first | (with_reducible show wpAny _ _ (exec _ _) _ _ _) | (with_reducible show wpAny _ _ (execs _ _) _ _ _)); k_fold; (try (refine foldS ?_; intro Sx))) | walk1 | (dsimp only; walk1) | (leave1; walk_say "STEP leave1"; try dsimp only) | (refine stripQ ?_; k_unfold; (try dsimp only))))
  k_with "k_all" => exact all_consG (by k_ne) (by k_all)
  k_with "k_all" => assumption
  k_with "k_mem" => first | assumption | exact .head _ | exact .tail _ (.head _) | exact .tail _ (.tail _ (.head _)) | exact mc7 | exact mc8 | exact mc0 | exact mc3 | exact mc4 | exact mcG (by assumption) | exact mcG (.tail _ (by assumption)) | exact .tail _ (mcG (.tail _ (by assumption))) | exact .tail _ mc7 | exact .tail _ mc8 | exact .tail _ mc0 | exact .tail _ mc3 | exact .tail _ mc4
  k_with "k_mem" => first | assumption | exact .head _ | exact mcG (.head _) | exact mcG (.tail _ (.head _)) | exact mcG (by assumption) | exact mcG (.tail _ (by assumption)) | exact mcG (.tail _ (.tail _ (by assumption))) | exact mc7 | exact mc8 | exact mc0 | exact mc3 | exact mc4 | exact .tail _ (.tail _ (.tail _ (mcG (.head _)))) | exact .tail _ (.tail _ (.tail _ (mcG (.tail _ (by assumption))))) | exact .tail _ (.tail _ (.tail _ mc3))
  k_with "k_mem" => walk_at "km"
  k_with "gox" => repeat' ((fail_if_success (with_reducible show LCg.CompSrc _ _ _ _ _ _ _ _ _ _ _ _ _ _)); (fail_if_success (with_reducible show LCt.CompSrcT _ _ _ _ _ _ _ _ _ _ _ _ _ _ _)); (fail_if_success (with_reducible show wpAny _ _ (exec (Stmt.For _ _ _ _ _) _) _ _ _)); (fail_if_success (with_reducible show wpAny _ _ (eval (Expr.ListComp _ _ _ _) _) _ _ _)); (fail_if_success (with_reducible show wpAny _ _ (pyIter (Value.ref _)) _ _ _)); (fail_if_success (with_reducible show wpAny _ _ (exec (Stmt.Assign _ (Expr.ListComp _ _ _ _) _) _) _ _ _)); (fail_if_success (with_reducible show wpAny _ _ (getMethod (Value.ref _) (Str.ofString "get") _) _ _ _)); (fail_if_success (with_reducible show wpAny _ _ (storeName _ (Str.ofString "menu") _) _ _ _)); (fail_if_success (with_reducible show wpAny _ _ (storeName _ (Str.ofString "words") _) _ _ _)); (fail_if_success (with_reducible show wpAny _ _ (call (Value.builtin "list.clear") _) _ _ _)); (fail_if_success (with_reducible show wpAny _ _ (call (Value.builtin "bytes.join") _) _ _ _)); (fail_if_success (with_reducible show wpAny _ _ (compareOp CmpOp.NotEq (Value.ref _) (Value.ref _)) _ _ _)); (fail_if_success (with_reducible show wpAny _ _ (compareOp CmpOp.NotIn (Value.ref _) (Value.ref _)) _ _ _)); (fail_if_success (with_reducible show wpAny _ _ (call (Value.builtin "dict.get") _) _ _ _)); (fail_if_success (with_reducible show wpAny _ _ (setItem (Value.ref _) (Value.ref _) _) _ _ _)); (fail_if_success (with_reducible show wpAny _ _ (call (Value.type "tuple") _) _ _ _)); (fail_if_success (with_reducible show wpAny _ _ (call (Value.ref 539) _) _ _ _)); (fail_if_success (with_reducible show wpAny _ _ (call (Value.ref 466) _) _ _ _)); (fail_if_success (with_reducible show wpAny _ _ (call (Value.ref 550) _) _ _ _)); (fail_if_success (with_reducible show wpAny _ _ (call (Value.ref 266) _) _ _ _)); (fail_if_success (with_reducible show wpAny _ _ (call (Value.ref 259) _) _ _ _)); (fail_if_success (with_reducible show wpAny _ _ (call (Value.ref 438) _) _ _ _)); (fail_if_success (with_reducible show wpAny _ _ (call (Value.ref 569) _) _ _ _)); (fail_if_success (with_reducible show WhileStep2 _ _ _ _ _ _ Flow.next _)); (fail_if_success (with_reducible show WhileStep2 _ _ _ _ _ _ Flow.cont _)); (first | (k_unfold; (try dsimp only)) | (k_end; wrow_close) | ((first | (with_reducible show wpAny _ _ (exec _ _) _ _ _) | (with_reducible show wpAny _ _ (execs _ _) _ _ _)); k_fold; (try (refine foldS ?_; intro Sx))) | walk1 | (dsimp only; walk1) | (leave1; walk_say "STEP leave1"; try dsimp only) | (refine stripQ ?_; k_unfold; (try dsimp only))))
  k_with "km" => first | assumption | exact List.mem_cons_self | exact mc7 | exact mc8 | exact mc0 | exact mc3 | exact mc4 | exact mcG (by assumption) | exact mcG List.mem_cons_self | exact mcG (List.mem_cons_of_mem _ (by assumption)) | exact mcG (List.mem_cons_of_mem _ (List.mem_cons_of_mem _ (by assumption))) | (refine List.mem_cons_of_mem _ ?_; walk_at "km")
  k_with "dec" => assumption
  trivial
theorem range_n1 (n : Nat) : Builtin.Range.rangeSize 1 ((n : Int) + 1) 1 = (n : Int) := by
  unfold Builtin.Range.rangeSize
  rw [if_pos (by decide)]
  split <;> omega
theorem take_cons_ne {bs : List (Array UInt8)} {j : Nat} (h : j < bs.length) : bs.take (j + 1) ≠ [] := fun e => by
  have := congrArg List.length e
  rw [List.length_take, List.length_nil] at this
  omega
theorem BysAre.take {vs : List Value} {bs : List (Array UInt8)} (h : BysAre vs bs) : ∀ k, BysAre (vs.take k) (bs.take k) := by
  induction h with
  | nil => intro k; simp; exact .nil
  | cons t _ ih =>
    intro k
    cases k with
    | zero => exact .nil
    | succ k => exact .cons t (ih k)
theorem wdG4_2 : True := by
  k_with "gmi" => (k_here; k_dflt (refine' method_inst ?zqk1 ?zqk2 ?zqk3 ?zqk4 ?zqk5 ?zqk6 ?zqk7 ?_; (case zqk1 => k_asm); (case zqk2 => k_asm); (case zqk3 => k_inst); (case zqk4 => k_is); (case zqk5 => k_is); (case zqk6 => k_is); (case zqk7 => k_get); k_whole))
  trivial
theorem ap_gt2 {X B R : List (Addr × Obj)} {q1 q2 q3 q4 q7 q8 p0 : Addr × Obj} (h : Apart (X ++ (B ++ (q7 :: p0 :: q8 :: q3 :: q4 :: (q1 :: q2 :: R))))) : Apart (q2 :: (X ++ (B ++ (q7 :: p0 :: q8 :: q3 :: q4 :: (q1 :: R))))) := LT.ap (bs := [X, B, [q7], [p0], [q8], [q3], [q4], [q1], [q2], R]) (.a (.b 0) (.a (.b 1) (.a (.b 2) (.a (.b 3) (.a (.b 4) (.a (.b 5) (.a (.b 6) (.a (.b 7) (.a (.b 8) (.b 9)))))))))) (.a (.b 8) (.a (.b 0) (.a (.b 1) (.a (.b 2) (.a (.b 3) (.a (.b 4) (.a (.b 5) (.a (.b 6) (.a (.b 7) (.b 9)))))))))) [] h rfl
theorem nw_gt2 {h₀ h : Heap} {L : Addr} {X B R : List (Addr × Obj)} {q1 q2 q3 q4 q7 q8 p0 : Addr × Obj} (N : News h₀ L h (X ++ (B ++ (q7 :: p0 :: q8 :: q3 :: q4 :: (q1 :: q2 :: R))))) : News h₀ L h (q2 :: (X ++ (B ++ (q7 :: p0 :: q8 :: q3 :: q4 :: (q1 :: R))))) := LT.nw (bs := [X, B, [q7], [p0], [q8], [q3], [q4], [q1], [q2], R]) (.a (.b 0) (.a (.b 1) (.a (.b 2) (.a (.b 3) (.a (.b 4) (.a (.b 5) (.a (.b 6) (.a (.b 7) (.a (.b 8) (.b 9)))))))))) (.a (.b 8) (.a (.b 0) (.a (.b 1) (.a (.b 2) (.a (.b 3) (.a (.b 4) (.a (.b 5) (.a (.b 6) (.a (.b 7) (.b 9)))))))))) [] N rfl
theorem ap_gd2 {X B R : List (Addr × Obj)} {q1 q2 q3 q4 q7 q8 p0 : Addr × Obj} (h : Apart (q1 :: (X ++ (B ++ (q7 :: p0 :: q8 :: q3 :: q4 :: (q2 :: R)))))) : Apart (X ++ (B ++ (q7 :: p0 :: q8 :: q3 :: q4 :: (q1 :: q2 :: R)))) := LT.ap (bs := [[q1], X, B, [q7], [p0], [q8], [q3], [q4], [q2], R]) (.a (.b 0) (.a (.b 1) (.a (.b 2) (.a (.b 3) (.a (.b 4) (.a (.b 5) (.a (.b 6) (.a (.b 7) (.a (.b 8) (.b 9)))))))))) (.a (.b 1) (.a (.b 2) (.a (.b 3) (.a (.b 4) (.a (.b 5) (.a (.b 6) (.a (.b 7) (.a (.b 0) (.a (.b 8) (.b 9)))))))))) [] h rfl
theorem nw_gd2 {h₀ h : Heap} {L : Addr} {X B R : List (Addr × Obj)} {q1 q2 q3 q4 q7 q8 p0 : Addr × Obj} (N : News h₀ L h (q1 :: (X ++ (B ++ (q7 :: p0 :: q8 :: q3 :: q4 :: (q2 :: R)))))) : News h₀ L h (X ++ (B ++ (q7 :: p0 :: q8 :: q3 :: q4 :: (q1 :: q2 :: R)))) := LT.nw (bs := [[q1], X, B, [q7], [p0], [q8], [q3], [q4], [q2], R]) (.a (.b 0) (.a (.b 1) (.a (.b 2) (.a (.b 3) (.a (.b 4) (.a (.b 5) (.a (.b 6) (.a (.b 7) (.a (.b 8) (.b 9)))))))))) (.a (.b 1) (.a (.b 2) (.a (.b 3) (.a (.b 4) (.a (.b 5) (.a (.b 6) (.a (.b 7) (.a (.b 0) (.a (.b 8) (.b 9)))))))))) [] N rfl
inductive RJS (prog : Program) (w : World) (Fo Fo' : List FN) (H' : Hp) (mA d kA L' I : Addr) (e' i : Nat) (mvl : List Value) (od o3 o4 : Obj) (bs : List (Array UInt8)) (GB : List (Addr × Obj)) (j : Nat) (r : Addr) (nx : List (Addr × Obj)) : Prop
  | mk (oK : Obj) (xs : KXs) (GC : List (Addr × Obj)) (GKK : List (Addr × Obj)) (nd : FN) (zq0 : nx = fE w.params Fo' ++ (hpE w.params H' ++ ((mA, W.listOf mvl.toArray e') :: (d, od) :: (kA, oK) :: (L' + 1 + 1 + 1, o3) :: (L' + 1 + 1 + 1 + 1, o4) :: GC))) (zq1 : Apart nx) (zq2 : (∀ p ∈ GB, p ∈ GC)) (zq3 : KnO prog w oK xs GKK) (zq4 : (∀ p ∈ GKK, p ∈ GC ∧ p.1 ≠ I)) (zq5 : KnF xs (fun q => PthP Fo q ∨ ∃ j', 1 ≤ j' ∧ j' ≤ j ∧ q = bs.take j') (PthR Fo')) (zq6 : xs.length ≤ 3 * i + j) (zq7 : nd ∈ Fo') (zq8 : nd.p = bs.take j) (zq9 : nd.V.t = r) : RJS prog w Fo Fo' H' mA d kA L' I e' i mvl od o3 o4 bs GB j r nx
section
variable {prog : Program} {w : World} {p : Program} {loose : List Str} {mean : ExcName → Option Value} {mg mb : Str → Option Value}
  {dp un : Nat} {gd : Option (List Code)} {cn : Str} {cs : Scope} {a : Addr} {ccd : Value} {cl : List (Str × Addr)} {outer : List Env} {base g' h h0 : Heap} {L L' d kA mA hp fm fp t0 I D7 x11 : Addr} {m₁ : Str → Option Value} {it : Obj} {i tk tk0 e' : Nat} {t : Tok} {s : Shared} {E : Value → Shared → Prop} {Q : Flow → Shared → Prop}
  {Fo Fo' : List FN} {rt n' : FN} {H' : Hp} {od oK o3 o4 : Obj} {g x : Int} {tg tx : Tok} {xs : KXs} {bs : List (Array UInt8)} {ys : List Value} {v3 : Option Value} {mvl : List Value} {G GB : List (Addr × Obj)}
  (B' : Below (ktrTop dp un gd cn cs L a ccd cl outer) base (envX cn cs L a ccd cl :: outer) g') (X' : (KK w.params).In g') (T' : Top p loose mean mg mb g')
include B' X' T'
set_option maxHeartbeats 4000000
theorem loop_C (hE : PassesOwn (model prog w) ((ktrTop dp un gd cn cs L a ccd cl outer).deeper (ENVN L')) (ENVN L') E) (hd : dp + 300 < recursionLimit) (hu : un + 2000 < cLine) (loK : (kA == sysModules) = false) (hi : i < 4)
    (e1 : m₁ (Str.ofString "root") = some (.ref t0)) (e2 : m₁ (Str.ofString "make_one") = some (.ref fm)) (e3 : m₁ (Str.ofString "put_one") = some (.ref fp)) (e4 : m₁ (Str.ofString "found") = some (.ref x11)) (e5 : m₁ (Str.ofString "here") = some (.ref t0))
    (F : Fr g' L' h m₁) (N : News g' L' h (fE w.params Fo' ++ (hpE w.params H' ++ ((mA, W.listOf mvl.toArray e') :: (d, od) :: (kA, oK) :: (L' + 1 + 1 + 1, o3) :: (L' + 1 + 1 + 1 + 1, o4) :: GB))))
    (ap : Apart (fE w.params Fo' ++ (hpE w.params H' ++ ((mA, W.listOf mvl.toArray e') :: (d, od) :: (kA, oK) :: (L' + 1 + 1 + 1, o3) :: (L' + 1 + 1 + 1 + 1, o4) :: GB)))) (hmv : mvl.length ≤ 10)
    (fi : FI Fo' (3 + 3 * (i : Int) + (bs.length : Int))) (hn : n' ∈ Fo') (hp' : n'.p = bs.take bs.length) (hx' : n'.V.t = x11)
    (hq : ∀ q, (∃ m ∈ Fo', m.p = q) ↔ (∃ m ∈ Fo, m.p = q) ∨ ∃ j, 1 ≤ j ∧ j ≤ bs.length ∧ q = bs.take j) (hs : ∀ m ∈ Fo, ∃ m' ∈ Fo', m'.p = m.p ∧ m'.V.t = m.V.t)
    (hrt : rt ∈ Fo) (hrp : rt.p = []) (ht0 : rt.V.t = t0) (hdd : DrO prog w od g tg x tx) (hg : 0 ≤ g) (hx : 0 ≤ x ∧ x < 2147483647) (kno : KnO prog w oK xs G) (knf : KnF xs (PthP Fo) (PthR Fo)) (hxl : xs.length ≤ 3 * i)
    (d3 : o3.data = .cell v3) (d4 : o4.data = .cell (some (.ref D7))) (hH : H'.hp = hp) (ng : NG prog w mg d kA mA (L' + 1) (L' + 1 + 1) (L' + 1 + 1 + 1 + 1 + 1 + 1) (L' + 1 + 1 + 1 + 1 + 1) hp fm fp G) (hoG : ∀ p ∈ G, p.1 ≠ I) (sub : ∀ p ∈ G, p ∈ GB) (hIt : (I, it) ∈ GB)
    (hD7 : (D7, W.listOf ys.toArray ys.length) ∈ GB) (hbs : BysAre ys bs) (hbm : ∀ b ∈ bs, b ∈ menuB) (hb1 : 1 ≤ bs.length) (hb3 : bs.length ≤ 3) (hodd : bs.head? ≠ some oddB) :
    wpAny (model prog w) ((ktrTop dp un gd cn cs L a ccd cl outer).deeper (ENVN L')) (execs ((forB B_ulaw_names_right[5]?).drop 8) (ENVN L'))
      (UnrPost g' L' { heap := h0, gens := s.gens, drawn := s.drawn, toks := tk0, os := s.os } I it (fun m' n' => (∀ p ∈ n', p.1 ≠ I) ∧ (NS prog w mg d kA mA (L' + 1) (L' + 1 + 1) (L' + 1 + 1 + 1) (L' + 1 + 1 + 1 + 1) (L' + 1 + 1 + 1 + 1 + 1 + 1) (L' + 1 + 1 + 1 + 1 + 1) hp fm fp t0 (i + 1) n' ∧ m' (Str.ofString "root") = some (.ref t0) ∧ m' (Str.ofString "make_one") = some (.ref fm) ∧ m' (Str.ofString "put_one") = some (.ref fp))) Q) E
      { heap := h, gens := s.gens, drawn := s.drawn, toks := tk, os := s.os } := by
  k_fold
  refine foldA ?_; intro Ax
  rw [map5 e1 e2 e3 e4 e5] at F
  refine foldM F ?_; clear F; intro Mx1 F
  have hyl := hbs.length
  (conv in execs _ _ => arg 1; whnf)
  walk_at "gox"
  refine For_invVF (hE := hE) (by assumption) rfl rfl ?_
  walk_at "gox"
  rename_i hR FB NB _
  refine iter_rangeJ (a₀ := 1) (b₀ := (bs.length : Int) + 1) (n := bs.length) (fun j m nx => ∃ r, RJS prog w Fo Fo' H' mA d kA L' I e' i mvl od o3 o4 bs GB j r nx ∧ m "root" = some (.ref t0) ∧ m "make_one" = some (.ref fm) ∧ m "put_one" = some (.ref fp) ∧ m "found" = some (.ref x11) ∧ m "here" = some (.ref r)) rfl hR (small_one (by omega) (by omega) (by omega) (by omega)) (range_n1 _) FB NB ?_ ?_ ?_
  · obtain ⟨m', a1, a2, a3⟩ := hs rt hrt
    exact ⟨t0, ⟨oK, xs, GB, G, m', rfl, ap, fun p hp => hp, kno, fun p hp => ⟨sub p hp, hoG p hp⟩, (knf.congr fun q => ⟨fun h => .inl h, fun h => h.elim id fun ⟨j, j1, j2, _⟩ => by omega⟩).mono fun q r _ ⟨m, m1, m2, m3⟩ => let ⟨m', a1, a2, a3⟩ := hs m m1; ⟨m', a1, a2.trans m2, a3.trans m3⟩, by omega, a1, a2.trans (hrp.trans rfl), a3.trans ht0⟩, rfl, rfl, rfl, rfl, rfl⟩
  · clear hR FB NB
    rintro I3 j m₂ nx it3 t3 h3 tk3 hj hJJ ho3 F₁ N₁
    (try k_fold)
    obtain ⟨r3, ⟨oK3, xs3, GC, GKK, nd, rfl, ap3, subC, kno3, hGK, knf3, hxl3, hnd, hndp, rfl⟩, f1, f2, f3, f4, f5⟩ := hJJ
    rw [map5 f1 f2 f3 f4 f5] at F₁
    refine foldM F₁ ?_; clear F₁; intro Mx2 F₁
    have N3 := nw_git N₁
    have ap4 := ap_git (List.nodup_cons.mpr ⟨fun hm => by
      obtain ⟨p, hp, e⟩ := List.mem_map.mp hm
      exact ho3 p hp e, ap3⟩ : Apart ((I3, it3) :: _))
    clear N₁
    have hD7' := subC _ hD7
    obtain ⟨okc, hkc0, dkc⟩ := ng.ck
    have hkc := subC _ (sub _ hkc0)
    obtain ⟨b, tb, hbj, hyj⟩ : ∃ b tb, bs[j]? = some b ∧ ys[j]? = some (.bytes b tb) := by
      have hjy : j < ys.length := by omega
      obtain ⟨b, t, h1, h2⟩ := hbs.at2 (List.getElem?_eq_getElem hjy)
      exact ⟨b, t, h1, by rw [List.getElem?_eq_getElem hjy, h2]⟩
    have ei : (1 + (j : Int) - 1).toNat = j := by omega
    rw [← ei] at hyj
    have hbb := hbm b (List.mem_of_getElem? hbj)
    obtain ⟨nm, hnm, hnmp, hC⟩ : ∃ m ∈ Fo', m.p = bs.take (j + 1) ∧ nd.C (.b b) = .ref m.V.t := by
      have hts : nd.p ++ [b] = bs.take (j + 1) := by rw [hndp, take_snoc hbj]
      rcases fi.ch nd hnd b (fun h => by
        have h1 := congrArg List.length (hndp.symm.trans h.1)
        rw [List.length_take, List.length_nil] at h1
        have h2 : j = 0 := by omega
        subst h2
        exact hodd (by rw [head_of hbj, h.2])) with ⟨m, m1, m2, m3⟩ | ⟨-, m2⟩
      · exact ⟨m, m1, m2.trans hts, m3⟩
      · obtain ⟨m, m3, m4⟩ := (hq (bs.take (j + 1))).mpr (.inr ⟨j + 1, by omega, by omega, rfl⟩)
        exact absurd (m4.trans hts.symm) (m2 m m3)
    have hh : Has w.params nd.V (fE w.params Fo' ++ (hpE w.params H' ++ ((mA, W.listOf mvl.toArray e') :: (d, od) :: (kA, oK3) :: (L' + 1 + 1 + 1, o3) :: (L' + 1 + 1 + 1 + 1, o4) :: ((I3, it3) :: GC)))) := fun p hp => List.mem_append_left _ (fE_mem hnd p hp)
    obtain ⟨y1, y2, y3, y4⟩ := has_all hh
    obtain ⟨z1, z2, z3, z4⟩ := has_all (show Has w.params nm.V (fE w.params Fo' ++ (hpE w.params H' ++ ((mA, W.listOf mvl.toArray e') :: (d, od) :: (kA, oK3) :: (L' + 1 + 1 + 1, o3) :: (L' + 1 + 1 + 1 + 1, o4) :: ((I3, it3) :: GC)))) from fun p hp => List.mem_append_left _ (fE_mem hnm p hp))
    walk_at "gox"
    walk_at "gmi"
    walk_at "gox"
    k_dflt (refine' get_bytes_C (V := nd.V) (x := b) ?B ?F ?X ?N ?T ?hk ?d ?u hh (fi.tt nd hnd).iv.wf (menu_ok b hbb) ((fi.tt nd hnd).look (.b b)) ?_; (case N => k_asm); (case B => k_asm); (case F => k_asm); (case X => k_asm); (case T => k_asm); (case hk => exact rfl); (case d => walk_at "dep"); (case u => walk_at "dep"))
    intro h10 tk10 F10 N10
    rw [hC]
    walk_at "gox"
    refine kn_getM kno3 (by assumption) mc8 (fun p hp => mcG (.tail _ (hGK p hp).1)) ?_
    walk_at "gox"
    rename_i Ds hs7 F8 N8 ls8
    have ej : (1 + (j : Int)).toNat = j + 1 := by omega
    rw [ej] at N8
    refine kde_tupleOf (zs := ys.take (j + 1)) F8 N8 ⟨_, (N8 _ (.head _)).1, rfl, _, rfl⟩ (by rw [List.size_toArray, List.length_take]; omega) rfl ?_
    intro Dt ht Ft Nt lt
    have tkk : TupKeyObj (bytesKind prog w) (pk (bs.take (j + 1))) ({ cls := .type "tuple", data := .seq (ys.take (j + 1)).toArray } : Obj) := TupKeyObj.made (items_of (hbs.take (j + 1)))
    walk_at "gox"
    refine kn_get kno3 (by assumption) (.tail _ (.tail _ mc8)) (fun p hp => .tail _ (.tail _ (mcG (.tail _ (hGK p hp).1)))) loK (by walk_at "dep") (.head _) tkk ?_
    intro kk
    rw [knf3.get (r := nm.V.t) ⟨nm, hnm, hnmp, rfl⟩ (fun r' ⟨m, m1, m2, m3⟩ => by rw [← m3, fi.uniq m1 hnm (m2.trans hnmp.symm)])]
    walk_at "gox"
    obtain ⟨ni, nt, hnum⟩ := fi.num nm hnm
    k_dflt (refine' law_is_C ?B ?F ?X ?N ?T ?hk ?d ?u ?V ?_; (case N => k_asm); (case V => exact .tab (V := nm.V) (.tail _ (.tail _ z1)) (.tail _ (.tail _ z2)) hnum); (case B => k_asm); (case F => k_asm); (case X => k_asm); (case T => k_asm); (case hk => exact rfl); (case d => walk_at "dep"); (case u => walk_at "dep"))
    intro h15 tk15 F15 N15
    walk_at "gox"
    rename_i Ds2 hs8 F20 N20 ls9
    rw [ej] at N20
    refine kde_tupleOf (zs := ys.take (j + 1)) F20 N20 ⟨_, (N20 _ (.head _)).1, rfl, _, rfl⟩ (by rw [List.size_toArray, List.length_take]; omega) rfl ?_
    intro Dt2 ht2 Ft2 Nt2 lt2
    walk_at "gox"
    rename Fr _ _ _ _ => F21
    rename News _ _ _ _ => N21
    obtain ⟨otp, hotp⟩ : ∃ o : Obj, o = { cls := .type "tuple", data := .seq (ys.take (j + 1)).toArray } := ⟨_, rfl⟩
    rw [← hotp] at tkk N21
    have N22 : News g' L' _ ((Dt2, otp) :: (fE w.params Fo' ++ (hpE w.params H' ++ ((mA, W.listOf mvl.toArray e') :: (d, od) :: (kA, oK3) :: (L' + 1 + 1 + 1, o3) :: (L' + 1 + 1 + 1 + 1, o4) :: ((I3, it3) :: GC))))) := fun p hp => N21 p (by
      rcases List.mem_cons.mp hp with rfl | hp
      · exact .head _
      · exact .tail _ (.tail _ (.tail _ (.tail _ hp))))
    have l22 : ∀ p ∈ fE w.params Fo' ++ (hpE w.params H' ++ ((mA, W.listOf mvl.toArray e') :: (d, od) :: (kA, oK3) :: (L' + 1 + 1 + 1, o3) :: (L' + 1 + 1 + 1 + 1, o4) :: ((I3, it3) :: GC))), p.1 < Dt2 := fun p hp => lt2 p (.tail _ (.tail _ (.tail _ hp)))
    have ap22 := ap_lts (o := otp) l22 ap4
    have N23 := nw_gd2 N22
    have ap23 := ap_gd2 ap22
    have hDI : Dt2 ≠ I := fun e => absurd (l22 (I, it) (mcG (.tail _ (subC _ hIt)))) (by rw [e]; exact Nat.lt_irrefl _)
    clear N21 ap22
    refine kn_set (G := (Dt2, otp) :: GKK) (kno3.mono fun p hp => .tail _ hp) F21 N23 (updF_c8 ap23) (fun p hp => mcG (by
      rcases List.mem_cons.mp hp with rfl | hp
      · exact .head _
      · exact .tail _ (.tail _ (hGK p hp).1))) (by walk_at "dep") (.head _) tkk (by omega) ?_
    intro h24 oK4 k24 F24 N24 kno4
    have ap24 := ap_c (r7 := (mA, W.listOf mvl.toArray e')) (r0 := (d, od)) (r8 := (kA, oK4)) (r3 := (L' + 1 + 1 + 1, o3)) (r4 := (L' + 1 + 1 + 1 + 1, o4)) ap23 rfl rfl rfl rfl rfl
    clear N23 ap23
    walk_at "gox"
    rename Fr _ _ _ _ => FZ
    rename News _ _ _ _ => NZ
    have NZ2 := nw_gt2 NZ
    have ap25 := ap_gt2 ap24
    have hsl := storedH_len (xs := xs3) (k := pk (bs.take (j + 1))) (a := Dt2) (v := .ref nm.V.t)
    refine UnrEnd.intro FZ NZ2 _ (fun p hp => hp) ap25.ne ⟨ap25.ne, nm.V.t, ⟨oK4, _, (Dt2, otp) :: GC, (Dt2, otp) :: GKK, nm, rfl, ap25.tl, fun p hp => .tail _ (subC p hp), kno4, fun p hp => ?_, (knf3.put (D := Dt2) ⟨nm, hnm, hnmp, rfl⟩ kno4.nd).congr fun q => ?_, by omega, hnm, hnmp, rfl⟩, rfl, rfl, rfl, rfl, rfl⟩
    · rcases List.mem_cons.mp hp with rfl | hp
      · exact ⟨.head _, hDI⟩
      · exact ⟨.tail _ (hGK p hp).1, (hGK p hp).2⟩
    · constructor
      · rintro ((h | ⟨j', j1, j2, e⟩) | h)
        · exact .inl h
        · exact .inr ⟨j', j1, by omega, e⟩
        · exact .inr ⟨j + 1, by omega, Nat.le_refl _, h⟩
      · rintro (h | ⟨j', j1, j2, e⟩)
        · exact .inl (.inl h)
        · rcases Nat.lt_or_ge j' (j + 1) with c | c
          · exact .inl (.inr ⟨j', j1, by omega, e⟩)
          · exact .inr (by rw [e, show j' = j + 1 by omega])
  · rintro h tk m₂ nx hJJ F₁ N₁
    (try k_fold)
    obtain ⟨r3, ⟨oK3, xs3, GC, GKK, nd, rfl, ap3, subC, kno3, hGK, knf3, hxl3, hnd, hndp, rfl⟩, f1, f2, f3, f4, f5⟩ := hJJ
    obtain rfl : nd = n' := fi.uniq hnd hn (hndp.trans hp'.symm)
    subst hx'
    rw [map5 f1 f2 f3 f4 f5] at F₁
    refine foldM F₁ ?_; clear F₁; intro Mx3 F₁
    obtain ⟨z1, z2, z3, z4⟩ := has_all (show Has w.params nd.V (fE w.params Fo' ++ (hpE w.params H' ++ ((mA, W.listOf mvl.toArray e') :: (d, od) :: (kA, oK3) :: (L' + 1 + 1 + 1, o3) :: (L' + 1 + 1 + 1 + 1, o4) :: GC))) from fun p hp => List.mem_append_left _ (fE_mem hnd p hp))
    obtain ⟨ni, nt, hnum⟩ := fi.num nd hnd
    walk_at "gox"
    k_dflt (refine' law_is_C ?B ?F ?X ?N ?T ?hk ?d ?u ?V ?_; (case N => k_asm); (case V => exact .tab (V := nd.V) z1 z2 hnum); (case B => k_asm); (case F => k_asm); (case X => k_asm); (case T => k_asm); (case hk => exact rfl); (case d => walk_at "dep"); (case u => walk_at "dep"))
    intro h15 tk15 F15 N15
    walk_at "gox"
    rename Fr _ _ _ _ => FZ
    rename News _ _ _ _ => NZ
    have hPq : ∀ q, (PthP Fo q ∨ ∃ j', 1 ≤ j' ∧ j' ≤ bs.length ∧ q = bs.take j') ↔ PthP Fo' q := fun q => by
      constructor
      · rintro (⟨a, b⟩ | ⟨j', j1, j2, e⟩)
        · exact ⟨a, (hq q).mpr (.inl b)⟩
        · refine ⟨fun h => ?_, (hq q).mpr (.inr ⟨j', j1, j2, e⟩)⟩
          have := congrArg List.length (e.symm.trans h)
          rw [List.length_take, List.length_nil] at this
          omega
      · rintro ⟨a, b⟩
        rcases (hq q).mp b with h | h
        · exact .inl ⟨a, h⟩
        · exact .inr h
    obtain ⟨nx', s1, s2, s3⟩ := ns_next (i := i) (G := G) (GK := GKK) ap3 (subC _ hIt) (fun p hp => subC _ (sub p hp)) hoG (fi.le (by omega)) hrt hrp ht0 hs hdd hg hx kno3 hGK (knf3.congr hPq) (by omega) d3 d4 hH ng hmv
    have NF : News g' L' _ ((I, it) :: nx') := fun p hp => NZ p (by
      rcases List.mem_cons.mp hp with rfl | hp
      · exact mcG (subC _ hIt)
      · exact s1 p hp)
    exact UnrEnd.intro FZ NF nx' (fun p hp => hp) s2 ⟨s2, s3, rfl, rfl, rfl⟩
end
end Mine
end
section
open PySem PySem.W PySem.Spec PySem.Calls PyProof.Rows
open PyProof.Rows
namespace Mine
theorem wdG3_0 : True := by
  k_with "dec" => first | ((try simp only [beq_iff_eq, bne_iff_ne, decide_eq_true_eq, decide_eq_false_iff_not, Bool.and_eq_true, Bool.not_eq_true', Bool.not_eq_true, beq_eq_false_iff_ne, ne_eq]) <;> omega) | (simp; done)
  trivial
theorem wdG3_1 : True := by
  k_with "goy" => repeat' ((fail_if_success (with_reducible show LCg.CompSrc _ _ _ _ _ _ _ _ _ _ _ _ _ _)); (fail_if_success (with_reducible show LCt.CompSrcT _ _ _ _ _ _ _ _ _ _ _ _ _ _ _)); (fail_if_success (with_reducible show wpAny _ _ (exec (Stmt.For _ _ _ _ _) _) _ _ _)); (fail_if_success (with_reducible show wpAny _ _ (eval (Expr.ListComp _ _ _ _) _) _ _ _)); (fail_if_success (with_reducible show wpAny _ _ (pyIter (Value.ref _)) _ _ _)); (fail_if_success (with_reducible show wpAny _ _ (execs (Stmt.For _ _ _ _ _ :: _) _) _ _ _)); (fail_if_success (with_reducible show wpAny _ _ (getMethod (Value.ref _) (Str.ofString "get") _) _ _ _)); (fail_if_success (with_reducible show wpAny _ _ (storeName _ (Str.ofString "menu") _) _ _ _)); (fail_if_success (with_reducible show wpAny _ _ (storeName _ (Str.ofString "words") _) _ _ _)); (fail_if_success (with_reducible show wpAny _ _ (call (Value.builtin "list.clear") _) _ _ _)); (fail_if_success (with_reducible show wpAny _ _ (call (Value.builtin "bytes.join") _) _ _ _)); (fail_if_success (with_reducible show wpAny _ _ (compareOp CmpOp.NotEq (Value.ref _) (Value.ref _)) _ _ _)); (fail_if_success (with_reducible show wpAny _ _ (compareOp CmpOp.NotIn (Value.ref _) (Value.ref _)) _ _ _)); (fail_if_success (with_reducible show wpAny _ _ (call (Value.builtin "dict.get") _) _ _ _)); (fail_if_success (with_reducible show wpAny _ _ (setItem (Value.ref _) (Value.ref _) _) _ _ _)); (fail_if_success (with_reducible show wpAny _ _ (call (Value.type "tuple") _) _ _ _)); (fail_if_success (with_reducible show wpAny _ _ (call (Value.ref 539) _) _ _ _)); (fail_if_success (with_reducible show wpAny _ _ (call (Value.ref 466) _) _ _ _)); (fail_if_success (with_reducible show wpAny _ _ (call (Value.ref 550) _) _ _ _)); (fail_if_success (with_reducible show wpAny _ _ (call (Value.ref 266) _) _ _ _)); (fail_if_success (with_reducible show wpAny _ _ (call (Value.ref 259) _) _ _ _)); (fail_if_success (with_reducible show wpAny _ _ (call (Value.ref 438) _) _ _ _)); (fail_if_success (with_reducible show wpAny _ _ (call (Value.ref 569) _) _ _ _)); (fail_if_success (with_reducible show WhileStep2 _ _ _ _ _ _ Flow.next _)); (fail_if_success (with_reducible show WhileStep2 _ _ _ _ _ _ Flow.cont _)); (first | (k_unfold; (try dsimp only)) | (k_end; wrow_close) | ((first | (with_reducible show wpAny _ _ (exec _ _) _ _ _) | (with_reducible show wpAny _ _ (execs _ _) _ _ _)); k_fold; (try (refine foldS ?_; intro Sx))) | walk1 | (dsimp only; walk1) | (leave1; walk_say "STEP leave1"; try dsimp only) | (refine stripQ ?_; k_unfold; (try dsimp only))))
  k_with "dec" => assumption
  trivial
section
variable {prog : Program} {w : World} {p : Program} {loose : List Str} {mean : ExcName → Option Value} {mg mb : Str → Option Value}
  {dp un : Nat} {gd : Option (List Code)} {cn : Str} {cs : Scope} {a : Addr} {ccd : Value} {cl : List (Str × Addr)} {outer : List Env} {base g' h h0 : Heap} {L L' d kA mA hp fm fp t0 I D7 x11 : Addr} {m₁ : Str → Option Value} {it : Obj} {i tk tk0 e' : Nat} {t : Tok} {s : Shared} {E : Value → Shared → Prop} {Q : Flow → Shared → Prop}
  {Fo Fo' : List FN} {rt n' : FN} {H' : Hp} {od oK o3 o4 : Obj} {g x : Int} {tg tx : Tok} {xs : KXs} {bs : List (Array UInt8)} {ys : List Value} {v3 : Option Value} {G GB : List (Addr × Obj)}
  (B' : Below (ktrTop dp un gd cn cs L a ccd cl outer) base (envX cn cs L a ccd cl :: outer) g') (X' : (KK w.params).In g') (T' : Top p loose mean mg mb g')
include B' X' T'
set_option maxHeartbeats 4000000
/-- the rest of a turn whose first word is not odd -/
theorem reg_C (hE : PassesOwn (model prog w) ((ktrTop dp un gd cn cs L a ccd cl outer).deeper (ENVN L')) (ENVN L') E) (hd : dp + 300 < recursionLimit) (hu : un + 2000 < cLine) (loK : (kA == sysModules) = false) (hi : i < 4)
    (e1 : m₁ (Str.ofString "root") = some (.ref t0)) (e2 : m₁ (Str.ofString "make_one") = some (.ref fm)) (e3 : m₁ (Str.ofString "put_one") = some (.ref fp)) (e4 : m₁ (Str.ofString "found") = some (.ref x11)) (e5 : m₁ (Str.ofString "rest") = some .none)
    (F : Fr g' L' h m₁) (N : News g' L' h (fE w.params Fo' ++ (hpE w.params H' ++ ((mA, W.listOf (madeV Fo bs bs.length).toArray e') :: (d, od) :: (kA, oK) :: (L' + 1 + 1 + 1, o3) :: (L' + 1 + 1 + 1 + 1, o4) :: GB))))
    (ap : Apart (fE w.params Fo' ++ (hpE w.params H' ++ ((mA, W.listOf (madeV Fo bs bs.length).toArray e') :: (d, od) :: (kA, oK) :: (L' + 1 + 1 + 1, o3) :: (L' + 1 + 1 + 1 + 1, o4) :: GB))))
    (fi : FI Fo' (3 + 3 * (i : Int) + (bs.length : Int))) (hn : n' ∈ Fo') (hp' : n'.p = bs.take bs.length) (hx' : n'.V.t = x11)
    (hq : ∀ q, (∃ m ∈ Fo', m.p = q) ↔ (∃ m ∈ Fo, m.p = q) ∨ ∃ j, 1 ≤ j ∧ j ≤ bs.length ∧ q = bs.take j) (hs : ∀ m ∈ Fo, ∃ m' ∈ Fo', m'.p = m.p ∧ m'.V.t = m.V.t)
    (hrt : rt ∈ Fo) (hrp : rt.p = []) (ht0 : rt.V.t = t0) (hdd : DrO prog w od g tg x tx) (hg : 0 ≤ g) (hx : 0 ≤ x ∧ x < 2147483647) (kno : KnO prog w oK xs G) (knf : KnF xs (PthP Fo) (PthR Fo)) (hxl : xs.length ≤ 3 * i)
    (d3 : o3.data = .cell v3) (d4 : o4.data = .cell (some (.ref D7))) (hH : H'.hp = hp) (ng : NG prog w mg d kA mA (L' + 1) (L' + 1 + 1) (L' + 1 + 1 + 1 + 1 + 1 + 1) (L' + 1 + 1 + 1 + 1 + 1) hp fm fp G) (hoG : ∀ p ∈ G, p.1 ≠ I) (sub : ∀ p ∈ G, p ∈ GB) (hIt : (I, it) ∈ GB)
    (hD7 : (D7, W.listOf ys.toArray ys.length) ∈ GB) (hbs : BysAre ys bs) (hbm : ∀ b ∈ bs, b ∈ menuB) (hb1 : 1 ≤ bs.length) (hb3 : bs.length ≤ 3) (hodd : bs.head? ≠ some oddB) :
    wpAny (model prog w) ((ktrTop dp un gd cn cs L a ccd cl outer).deeper (ENVN L')) (execs ((forB B_ulaw_names_right[5]?).drop 5) (ENVN L'))
      (UnrPost g' L' { heap := h0, gens := s.gens, drawn := s.drawn, toks := tk0, os := s.os } I it (fun m' n' => (∀ p ∈ n', p.1 ≠ I) ∧ (NS prog w mg d kA mA (L' + 1) (L' + 1 + 1) (L' + 1 + 1 + 1) (L' + 1 + 1 + 1 + 1) (L' + 1 + 1 + 1 + 1 + 1 + 1) (L' + 1 + 1 + 1 + 1 + 1) hp fm fp t0 (i + 1) n' ∧ m' (Str.ofString "root") = some (.ref t0) ∧ m' (Str.ofString "make_one") = some (.ref fm) ∧ m' (Str.ofString "put_one") = some (.ref fp))) Q) E
      { heap := h, gens := s.gens, drawn := s.drawn, toks := tk, os := s.os } := by
  k_fold
  refine foldA ?_; intro Ax
  rw [map5 e1 e2 e3 e4 e5] at F
  refine foldM F ?_; clear F; intro Mx1 F
  have hyl := hbs.length
  obtain ⟨okc, hkc0, dkc⟩ := ng.ck
  have hkc := sub _ hkc0
  obtain ⟨oMc, hMc0, dMc⟩ := ng.clo.cm
  have hMc := sub _ hMc0
  (conv in execs _ _ => arg 1; whnf)
  walk_at "gox"
  k_dflt (refine LCt.Assign_ListComp_T (F₀ := by k_asm) rfl (by with_unfolding_all rfl) (by with_unfolding_all rfl) (by decide) (by rfl) (by decide) (by rfl) (by rfl) (by rfl) ?_)
  walk_at "gox"
  rename_i hR F6 N6 _
  refine LCt.CompSrcT.range (n := bs.length) rfl (by assumption) (by assumption) hR (small_one (by omega) (by omega) (by omega) (by omega)) (range_n1 _) (by rw [sizeLine_eq]; omega) (fun gg => ?_)
  refine compRestT_J (fun j zs nx => nx = fE w.params Fo' ++ (hpE w.params H' ++ ((mA, W.listOf (madeV Fo bs bs.length).toArray e') :: (d, od) :: (kA, oK) :: (L' + 1 + 1 + 1, o3) :: (L' + 1 + 1 + 1 + 1, o4) :: GB)) ∧ IntsAre zs ((newJ Fo bs j).map Int.ofNat)) ?_ ?_ bs.length 0 [] _ (Nat.add_zero _) ⟨rfl, .nil⟩
  · rintro j v I2 oI C2 oC D2 zs nx m₂ h tk E' hj ⟨t5, rfl⟩ hC2 hx2 ⟨rfl, hzs⟩ F7 N7 off ne
    walk_at "gox"
    rename_i Ds hs7 F8 N8 ls8
    have ej : (1 + (j : Int)).toNat = j + 1 := by omega
    rw [ej] at N8
    refine kde_tupleOf (zs := ys.take (j + 1)) F8 N8 ⟨_, (N8 _ (.head _)).1, rfl, _, rfl⟩ (by rw [List.size_toArray, List.length_take]; omega) rfl ?_
    intro Dt ht Ft Nt lt
    have tkk : TupKeyObj (bytesKind prog w) (pk (bs.take (j + 1))) ({ cls := .type "tuple", data := .seq (ys.take (j + 1)).toArray } : Obj) := TupKeyObj.made (items_of (hbs.take (j + 1)))
    walk_at "gox"
    refine kn_notin kno (by assumption) (.tail _ (.tail _ (.tail _ (.tail _ (.tail _ mc8))))) (fun p hp => .tail _ (.tail _ (.tail _ (.tail _ (.tail _ (mcG (sub p hp))))))) loK (by walk_at "dep") (.head _) tkk ?_
    intro kk
    by_cases hin : ∃ m ∈ Fo, m.p = bs.take (j + 1)
    · rw [knf.is ⟨take_cons_ne hj, hin⟩]
      walk_at "gox"
      rename Fr _ _ _ _ => FZ
      rename News _ _ _ _ => NZ
      exact ⟨_, _, _, rfl, FZ, fun p hp => NZ p (.tail _ (.tail _ hp)), off, trivial, rfl, by
        rw [newJ_succ, if_neg (fun h => by obtain ⟨m, m1, m2⟩ := hin; exact h m m1 m2), List.append_nil]; exact hzs⟩
    · rw [knf.no (fun h => hin h.2)]
      walk_at "gox"
      rename Fr _ _ _ _ => FZ
      rename News _ _ _ _ => NZ
      have ek : (1 + (j : Int)) = Int.ofNat (j + 1) := by
        show (1 + (j : Int)) = ((j + 1 : Nat) : Int)
        omega
      exact ⟨_, _, _, rfl, FZ, fun p hp => NZ p (.tail _ (.tail _ hp)), off, trivial, rfl, by
        rw [newJ_succ, if_pos (fun m m1 m2 => hin ⟨m, m1, m2⟩), List.map_append, ek]; exact hzs.append (.cons _ _ .nil)⟩
  · rintro zs nx ⟨rfl, hzs⟩
    intro D8 h8 tk8 F8 N8 o8
    have hzl := hzs.length
    have hnl : (newJ Fo bs bs.length).length ≤ 3 := by
      unfold newJ
      refine Nat.le_trans (List.length_filter_le _ _) ?_
      rw [List.length_range']; exact hb3
    rw [List.length_map] at hzl
    walk_at "gox"
    k_dflt (refine LCg.ListComp_U (F₀ := by k_asm) (by with_unfolding_all rfl) (by decide) (by rfl) (by decide) (by rfl) ?_)
    walk_at "gox"
    refine LCg.CompSrc.ledger (its := zs.toArray) (k := zs.length) rfl (by assumption) (by assumption) (.head _) (by rw [List.size_toArray, sizeLine_eq, hzl]; omega) (fun gg => ?_)
    refine compRest_J (fun j us nx => nx = (D8, LCg.lst zs) :: (fE w.params Fo' ++ (hpE w.params H' ++ ((mA, W.listOf (madeV Fo bs bs.length).toArray e') :: (d, od) :: (kA, oK) :: (L' + 1 + 1 + 1, o3) :: (L' + 1 + 1 + 1 + 1, o4) :: GB))) ∧ us = ((newJ Fo bs bs.length).take j).map (fun k => Value.bool (decide (k = bs.length)))) ?_ ?_ zs.toArray.size 0 [] _ (Nat.add_zero _) ⟨rfl, rfl⟩
    · rintro j v I2 oI C2 oC D2 us nx m₂ h tk E' hj hv hC2 hx2 ⟨rfl, rfl⟩ F9 N9 off ne
      obtain ⟨k, tk2, rfl, hk⟩ := IntsAre.at hzs j v (by simpa using hv)
      rw [List.getElem?_map] at hk
      obtain ⟨k', hk', rfl⟩ := Option.map_eq_some_iff.mp hk
      have hbq : (Int.ofNat k' == (bs.length : Int)) = decide (k' = bs.length) := by
        show ((k' : Int) == (bs.length : Int)) = _
        rw [Bool.eq_iff_iff, beq_iff_eq, decide_eq_true_eq]; omega
      walk_at "gox"
      rename Fr _ _ _ _ => FZ
      rename News _ _ _ _ => NZ
      exact ⟨_, _, _, rfl, FZ, NZ, off, .inr ⟨_, .head _, rfl, _, rfl⟩, rfl, by
        rw [List.take_add_one, hk', List.map_append, hbq]; rfl⟩
    · rintro us nx ⟨rfl, rfl⟩
      intro D9 h9 tk9 F9 N9 o9
      walk_at "gox"
      refine ne_boolL (bs := (newJ Fo bs bs.length).map fun j => decide (j = bs.length)) (n := e') (by assumption) (.tail _ (.tail _ mc7)) (.head _) (by unfold madeV; rw [List.map_map]; rfl) (by rw [List.size_toArray, hzl, List.take_length, List.map_map]; rfl) (by walk_at "dep") ?_
      walk_at "goy"
      rename Fr _ _ _ _ => FA
      rename News _ _ _ _ => NA
      have NA2 : News g' L' _ (fE w.params Fo' ++ (hpE w.params H' ++ ((mA, W.listOf (madeV Fo bs bs.length).toArray e') :: (d, od) :: (kA, oK) :: (L' + 1 + 1 + 1, o3) :: (L' + 1 + 1 + 1 + 1, o4) :: GB))) := fun p hp => NA p (.tail _ (.tail _ hp))
      exact loop_C B' X' T' hE hd hu loK hi rfl rfl rfl rfl rfl FA NA2 ap (by unfold madeV; rw [List.length_map]; omega) fi hn hp' hx' hq hs hrt hrp ht0 hdd hg hx kno knf hxl d3 d4 hH ng hoG sub hIt hD7 hbs hbm hb1 hb3 hodd
end
end Mine
end
section
open PySem PySem.W PySem.Spec PySem.Calls PyProof.Rows
open PyProof.Rows
namespace Mine
theorem wdG2_0 : True := by
  k_with_none
  k_with "k_room" => ((try dsimp only [Ax]); ktr_room)
  k_with "k_units" => ((try dsimp only [Ax]); ktr_units)
  k_with "ent" => (intro _ _ _ _ _ _ _ _ _; (try k_fold); (refine foldA ?_; intro Ax); (conv in execs _ _ => arg 1; whnf))
  k_with "dep" => ((try dsimp only [ktrTop, Around.deeper, Around.in1, Around.under]); (first | (refine' room2 ?zqhR ?zqcR; (case zqhR => assumption); (case zqcR => exact Nat.le_of_ble_eq_true rfl)) | (refine' room0 ?zqhR; (case zqhR => assumption)) | (refine' room1 ?zqhR ?zqcR; (case zqhR => assumption); (case zqcR => exact Nat.le_of_ble_eq_true rfl)) | (refine' room3 ?zqhR ?zqcR; (case zqhR => assumption); (case zqcR => exact Nat.le_of_ble_eq_true rfl)) | omega))
  k_with "news" => first | assumption | exact news_tl0 (by assumption) | exact news_tl0 (news_tl0 (by assumption)) | exact news_tl0 (news_tl0 (news_tl0 (by assumption)))
  k_with "dec" => first | ((try simp only [beq_iff_eq, bne_iff_ne, decide_eq_true_eq, decide_eq_false_iff_not, Bool.and_eq_true, Bool.not_eq_true', Bool.not_eq_true, beq_eq_false_iff_ne, ne_eq]) <;> omega) | (simp; done)
  k_with "ite" => (k_here; k_openite; (first | refine ite_pos (by walk_at "dec") ?_ | refine ite_neg (by walk_at "dec") ?_))
  k_with "go" => repeat' ((fail_if_success (with_reducible show wpAny _ _ (exec (Stmt.While _ _ _ _) _) _ _ _)); (fail_if_success (with_reducible show wpAny _ _ (exec (Stmt.For _ _ _ _ _) _) _ _ _)); (fail_if_success (with_reducible show WhileStep2 _ _ _ _ _ _ Flow.next _)); (fail_if_success (with_reducible show WhileStep2 _ _ _ _ _ _ Flow.cont _)); (first | (k_unfold; (try dsimp only)) | (k_end; wrow_close) | ((first | (with_reducible show wpAny _ _ (exec _ _) _ _ _) | (with_reducible show wpAny _ _ (execs _ _) _ _ _)); k_fold; (try (refine foldS ?_; intro Sx))) | walk1 | (dsimp only; walk1) | (leave1; walk_say "STEP leave1"; try dsimp only) | (refine stripQ ?_; k_unfold; (try dsimp only))))
  k_with "subscriptTail" => (k_here; (with_reducible show wpAny _ _ (subscriptTail _ _ (Value.bytes _ _) (Value.int _ _)) _ _ _); k_dflt (refine' item_by ?zqf ?zqa ?zqb ?_ ?zqhs ?zqht; (case zqf => first | assumption | omega); (case zqa => first | assumption | omega); (case zqb => first | assumption | omega); (case zqhs => with_unfolding_all rfl); (case zqht => (intro _; with_unfolding_all rfl)); k_whole); intro _ _)
  k_with "subscriptTail" => (k_here; (with_reducible show wpAny _ _ (subscriptTail _ _ (Value.ref _) (Value.int _ _)) _ _ _); k_dflt (refine' item_led ?zqN ?zqm ?zqa ?zqb ?zqx ?_ ?zqhs; (case zqN => k_asm); (case zqm => k_mem); (case zqa => first | assumption | omega); (case zqb => first | assumption | omega); (case zqx => first | assumption | walk_at "item"); (case zqhs => with_unfolding_all rfl); k_whole))
  k_with "WhileStep2" => (dsimp only [WhileStep2])
  k_with "lenk" => first | assumption | exact refsN_len _ | exact rfl
  k_with "call builtin:len" => (k_here; (with_reducible show wpAny _ _ (call (Value.builtin "len") [Value.ref _]) _ _ _); k_dflt (refine' len_led ?zqN ?zqm ?zqk ?zqf ?_; (case zqN => k_asm); (case zqm => k_mem); (case zqk => walk_at "lenk"); (case zqf => first | assumption | omega); k_whole); intro _ _)
  k_with "binaryOp Mod int int" => (k_here; k_dflt (refine' mod_int' (by assumption) ?_; k_whole))
  k_with "item" => exact refsN_get (by assumption)
  k_with "k_handed" => assumption
  k_with "compareOp Is none" => (k_here; first | refine is_none_ne (by assumption) ?_ | refine is_none_eq (by assumption) ?_)
  k_with "compareOp IsNot none" => (k_here; first | refine isnot_none_ne (by assumption) ?_ | refine isnot_none_eq (by assumption) ?_)
  k_with "k_all" => assumption
  k_with "setItem ref int" => (k_here; (with_reducible show wpAny _ _ (setItem (Value.ref _) (Value.int _ _) _) _ _ _); k_dflt (refine' set_led ?zqF ?zqN ?zqU ?zqa ?zqb ?zqc ?_; (case zqF => k_asm); (case zqN => k_asm); (case zqU => k_upd); (case zqa => first | assumption | omega); (case zqb => first | assumption | omega); (case zqc => first | assumption | omega); k_whole); intro _ _ _; (try k_sweep))
  k_with "getItem ref int" => (k_here; (with_reducible show wpAny _ _ (getItem (Value.ref _) (Value.int _ _)) _ _ _); k_dflt (refine' get_led ?zqN ?zqm ?zqa ?zqb ?zqx ?_; (case zqN => k_asm); (case zqm => k_mem); (case zqa => first | assumption | omega); (case zqb => first | assumption | omega); (case zqx => first | assumption | walk_at "item"); k_whole))
  trivial
theorem wdG2_1 : True := by
  k_with "one" => (first | (k_unfold; (try dsimp only)) | (k_end; wrow_close) | ((first | (with_reducible show wpAny _ _ (exec _ _) _ _ _) | (with_reducible show wpAny _ _ (execs _ _) _ _ _)); k_fold; (try (refine foldS ?_; intro Sx))) | walk1 | (dsimp only; walk1) | (leave1; walk_say "STEP leave1"; try dsimp only))
  k_with "gon" => repeat' ((fail_if_success (with_reducible show wpAny _ _ (exec (Stmt.For _ _ _ _ _) _) _ _ _)); (fail_if_success (with_reducible show wpAny _ _ (eval (Expr.ListComp _ _ _ _) _) _ _ _)); (fail_if_success (with_reducible show wpAny _ _ (pyIter (Value.ref _)) _ _ _)); (fail_if_success (with_reducible show wpAny _ _ (call (Value.ref 539) _) _ _ _)); (fail_if_success (with_reducible show wpAny _ _ (call (Value.ref 466) _) _ _ _)); (fail_if_success (with_reducible show wpAny _ _ (call (Value.ref 550) _) _ _ _)); (fail_if_success (with_reducible show wpAny _ _ (call (Value.ref 266) _) _ _ _)); (fail_if_success (with_reducible show wpAny _ _ (call (Value.ref 259) _) _ _ _)); (fail_if_success (with_reducible show wpAny _ _ (call (Value.ref 438) _) _ _ _)); (fail_if_success (with_reducible show wpAny _ _ (call (Value.ref 569) _) _ _ _)); (fail_if_success (with_reducible show WhileStep2 _ _ _ _ _ _ Flow.next _)); (fail_if_success (with_reducible show WhileStep2 _ _ _ _ _ _ Flow.cont _)); (first | (k_unfold; (try dsimp only)) | (k_end; wrow_close) | ((first | (with_reducible show wpAny _ _ (exec _ _) _ _ _) | (with_reducible show wpAny _ _ (execs _ _) _ _ _)); k_fold; (try (refine foldS ?_; intro Sx))) | walk1 | (dsimp only; walk1) | (leave1; walk_say "STEP leave1"; try dsimp only) | (refine stripQ ?_; k_unfold; (try dsimp only))))
  k_with "gom" => repeat' ((fail_if_success (with_reducible show wpAny _ _ (exec (Stmt.For _ _ _ _ _) _) _ _ _)); (fail_if_success (with_reducible show wpAny _ _ (eval (Expr.ListComp _ _ _ _) _) _ _ _)); (fail_if_success (with_reducible show wpAny _ _ (pyIter (Value.ref _)) _ _ _)); (fail_if_success (with_reducible show wpAny _ _ (getMethod (Value.ref _) _ _) _ _ _)); (fail_if_success (with_reducible show wpAny _ _ (call (Value.ref 539) _) _ _ _)); (fail_if_success (with_reducible show wpAny _ _ (call (Value.ref 466) _) _ _ _)); (fail_if_success (with_reducible show wpAny _ _ (call (Value.ref 550) _) _ _ _)); (fail_if_success (with_reducible show wpAny _ _ (call (Value.ref 266) _) _ _ _)); (fail_if_success (with_reducible show wpAny _ _ (call (Value.ref 259) _) _ _ _)); (fail_if_success (with_reducible show wpAny _ _ (call (Value.ref 438) _) _ _ _)); (fail_if_success (with_reducible show wpAny _ _ (call (Value.ref 569) _) _ _ _)); (fail_if_success (with_reducible show WhileStep2 _ _ _ _ _ _ Flow.next _)); (fail_if_success (with_reducible show WhileStep2 _ _ _ _ _ _ Flow.cont _)); (first | (k_unfold; (try dsimp only)) | (k_end; wrow_close) | ((first | (with_reducible show wpAny _ _ (exec _ _) _ _ _) | (with_reducible show wpAny _ _ (execs _ _) _ _ _)); k_fold; (try (refine foldS ?_; intro Sx))) | walk1 | (dsimp only; walk1) | (leave1; walk_say "STEP leave1"; try dsimp only) | (refine stripQ ?_; k_unfold; (try dsimp only))))
  k_with "k_all" => exact all_consG (by k_ne) (by k_all)
  k_with "k_all" => assumption
  k_with "k_mem" => first | assumption | exact .head _ | exact .tail _ (.head _) | exact .tail _ (.tail _ (.head _)) | exact mc7 | exact mc8 | exact mc0 | exact mc3 | exact mc4 | exact mcG (by assumption) | exact mcG (.tail _ (by assumption)) | exact .tail _ (mcG (.tail _ (by assumption))) | exact .tail _ mc7 | exact .tail _ mc8 | exact .tail _ mc0 | exact .tail _ mc3 | exact .tail _ mc4
  k_with "k_mem" => first | assumption | exact .head _ | exact mcG (.head _) | exact mcG (.tail _ (.head _)) | exact mcG (by assumption) | exact mcG (.tail _ (by assumption)) | exact mcG (.tail _ (.tail _ (by assumption))) | exact mc7 | exact mc8 | exact mc0 | exact mc3 | exact mc4 | exact .tail _ (.tail _ (.tail _ (mcG (.head _)))) | exact .tail _ (.tail _ (.tail _ (mcG (.tail _ (by assumption))))) | exact .tail _ (.tail _ (.tail _ mc3))
  k_with "gow" => repeat' ((fail_if_success (with_reducible show LCg.CompSrc _ _ _ _ _ _ _ _ _ _ _ _ _ _)); (fail_if_success (with_reducible show LCt.CompSrcT _ _ _ _ _ _ _ _ _ _ _ _ _ _ _)); (fail_if_success (with_reducible show wpAny _ _ (exec (Stmt.For _ _ _ _ _) _) _ _ _)); (fail_if_success (with_reducible show wpAny _ _ (eval (Expr.ListComp _ _ _ _) _) _ _ _)); (fail_if_success (with_reducible show wpAny _ _ (pyIter (Value.ref _)) _ _ _)); (fail_if_success (with_reducible show wpAny _ _ (storeName _ (Str.ofString "menu") _) _ _ _)); (fail_if_success (with_reducible show wpAny _ _ (storeName _ (Str.ofString "words") _) _ _ _)); (fail_if_success (with_reducible show wpAny _ _ (call (Value.builtin "list.clear") _) _ _ _)); (fail_if_success (with_reducible show wpAny _ _ (call (Value.builtin "bytes.join") _) _ _ _)); (fail_if_success (with_reducible show wpAny _ _ (compareOp CmpOp.NotEq (Value.ref _) (Value.ref _)) _ _ _)); (fail_if_success (with_reducible show wpAny _ _ (compareOp CmpOp.NotIn (Value.ref _) (Value.ref _)) _ _ _)); (fail_if_success (with_reducible show wpAny _ _ (call (Value.builtin "dict.get") _) _ _ _)); (fail_if_success (with_reducible show wpAny _ _ (setItem (Value.ref _) (Value.ref _) _) _ _ _)); (fail_if_success (with_reducible show wpAny _ _ (call (Value.type "tuple") _) _ _ _)); (fail_if_success (with_reducible show wpAny _ _ (call (Value.ref 539) _) _ _ _)); (fail_if_success (with_reducible show wpAny _ _ (call (Value.ref 466) _) _ _ _)); (fail_if_success (with_reducible show wpAny _ _ (call (Value.ref 550) _) _ _ _)); (fail_if_success (with_reducible show wpAny _ _ (call (Value.ref 266) _) _ _ _)); (fail_if_success (with_reducible show wpAny _ _ (call (Value.ref 259) _) _ _ _)); (fail_if_success (with_reducible show wpAny _ _ (call (Value.ref 438) _) _ _ _)); (fail_if_success (with_reducible show wpAny _ _ (call (Value.ref 569) _) _ _ _)); (fail_if_success (with_reducible show WhileStep2 _ _ _ _ _ _ Flow.next _)); (fail_if_success (with_reducible show WhileStep2 _ _ _ _ _ _ Flow.cont _)); (first | (k_unfold; (try dsimp only)) | (k_end; wrow_close) | ((first | (with_reducible show wpAny _ _ (exec _ _) _ _ _) | (with_reducible show wpAny _ _ (execs _ _) _ _ _)); k_fold; (try (refine foldS ?_; intro Sx))) | walk1 | (dsimp only; walk1) | (leave1; walk_say "STEP leave1"; try dsimp only) | (refine stripQ ?_; k_unfold; (try dsimp only))))
  k_with "gox" => repeat' ((fail_if_success (with_reducible show LCg.CompSrc _ _ _ _ _ _ _ _ _ _ _ _ _ _)); (fail_if_success (with_reducible show LCt.CompSrcT _ _ _ _ _ _ _ _ _ _ _ _ _ _ _)); (fail_if_success (with_reducible show wpAny _ _ (exec (Stmt.For _ _ _ _ _) _) _ _ _)); (fail_if_success (with_reducible show wpAny _ _ (eval (Expr.ListComp _ _ _ _) _) _ _ _)); (fail_if_success (with_reducible show wpAny _ _ (pyIter (Value.ref _)) _ _ _)); (fail_if_success (with_reducible show wpAny _ _ (exec (Stmt.Assign _ (Expr.ListComp _ _ _ _) _) _) _ _ _)); (fail_if_success (with_reducible show wpAny _ _ (storeName _ (Str.ofString "menu") _) _ _ _)); (fail_if_success (with_reducible show wpAny _ _ (storeName _ (Str.ofString "words") _) _ _ _)); (fail_if_success (with_reducible show wpAny _ _ (call (Value.builtin "list.clear") _) _ _ _)); (fail_if_success (with_reducible show wpAny _ _ (call (Value.builtin "bytes.join") _) _ _ _)); (fail_if_success (with_reducible show wpAny _ _ (compareOp CmpOp.NotEq (Value.ref _) (Value.ref _)) _ _ _)); (fail_if_success (with_reducible show wpAny _ _ (compareOp CmpOp.NotIn (Value.ref _) (Value.ref _)) _ _ _)); (fail_if_success (with_reducible show wpAny _ _ (call (Value.builtin "dict.get") _) _ _ _)); (fail_if_success (with_reducible show wpAny _ _ (setItem (Value.ref _) (Value.ref _) _) _ _ _)); (fail_if_success (with_reducible show wpAny _ _ (call (Value.type "tuple") _) _ _ _)); (fail_if_success (with_reducible show wpAny _ _ (call (Value.ref 539) _) _ _ _)); (fail_if_success (with_reducible show wpAny _ _ (call (Value.ref 466) _) _ _ _)); (fail_if_success (with_reducible show wpAny _ _ (call (Value.ref 550) _) _ _ _)); (fail_if_success (with_reducible show wpAny _ _ (call (Value.ref 266) _) _ _ _)); (fail_if_success (with_reducible show wpAny _ _ (call (Value.ref 259) _) _ _ _)); (fail_if_success (with_reducible show wpAny _ _ (call (Value.ref 438) _) _ _ _)); (fail_if_success (with_reducible show wpAny _ _ (call (Value.ref 569) _) _ _ _)); (fail_if_success (with_reducible show WhileStep2 _ _ _ _ _ _ Flow.next _)); (fail_if_success (with_reducible show WhileStep2 _ _ _ _ _ _ Flow.cont _)); (first | (k_unfold; (try dsimp only)) | (k_end; wrow_close) | ((first | (with_reducible show wpAny _ _ (exec _ _) _ _ _) | (with_reducible show wpAny _ _ (execs _ _) _ _ _)); k_fold; (try (refine foldS ?_; intro Sx))) | walk1 | (dsimp only; walk1) | (leave1; walk_say "STEP leave1"; try dsimp only) | (refine stripQ ?_; k_unfold; (try dsimp only))))
  k_with "goz" => repeat' ((fail_if_success (with_reducible show LCg.CompSrc _ _ _ _ _ _ _ _ _ _ _ _ _ _)); (fail_if_success (with_reducible show LCt.CompSrcT _ _ _ _ _ _ _ _ _ _ _ _ _ _ _)); (fail_if_success (with_reducible show wpAny _ _ (exec (Stmt.For _ _ _ _ _) _) _ _ _)); (fail_if_success (with_reducible show wpAny _ _ (eval (Expr.ListComp _ _ _ _) _) _ _ _)); (fail_if_success (with_reducible show wpAny _ _ (pyIter (Value.ref _)) _ _ _)); (fail_if_success (with_reducible show wpAny _ _ (execs (Stmt.Assign _ (Expr.ListComp _ _ _ _) _ :: _) _) _ _ _)); (fail_if_success (with_reducible show wpAny _ _ (storeName _ (Str.ofString "menu") _) _ _ _)); (fail_if_success (with_reducible show wpAny _ _ (storeName _ (Str.ofString "words") _) _ _ _)); (fail_if_success (with_reducible show wpAny _ _ (call (Value.builtin "list.clear") _) _ _ _)); (fail_if_success (with_reducible show wpAny _ _ (call (Value.builtin "bytes.join") _) _ _ _)); (fail_if_success (with_reducible show wpAny _ _ (compareOp CmpOp.NotEq (Value.ref _) (Value.ref _)) _ _ _)); (fail_if_success (with_reducible show wpAny _ _ (compareOp CmpOp.NotIn (Value.ref _) (Value.ref _)) _ _ _)); (fail_if_success (with_reducible show wpAny _ _ (call (Value.builtin "dict.get") _) _ _ _)); (fail_if_success (with_reducible show wpAny _ _ (setItem (Value.ref _) (Value.ref _) _) _ _ _)); (fail_if_success (with_reducible show wpAny _ _ (call (Value.type "tuple") _) _ _ _)); (fail_if_success (with_reducible show wpAny _ _ (call (Value.ref 539) _) _ _ _)); (fail_if_success (with_reducible show wpAny _ _ (call (Value.ref 466) _) _ _ _)); (fail_if_success (with_reducible show wpAny _ _ (call (Value.ref 550) _) _ _ _)); (fail_if_success (with_reducible show wpAny _ _ (call (Value.ref 266) _) _ _ _)); (fail_if_success (with_reducible show wpAny _ _ (call (Value.ref 259) _) _ _ _)); (fail_if_success (with_reducible show wpAny _ _ (call (Value.ref 438) _) _ _ _)); (fail_if_success (with_reducible show wpAny _ _ (call (Value.ref 569) _) _ _ _)); (fail_if_success (with_reducible show WhileStep2 _ _ _ _ _ _ Flow.next _)); (fail_if_success (with_reducible show WhileStep2 _ _ _ _ _ _ Flow.cont _)); (first | (k_unfold; (try dsimp only)) | (k_end; wrow_close) | ((first | (with_reducible show wpAny _ _ (exec _ _) _ _ _) | (with_reducible show wpAny _ _ (execs _ _) _ _ _)); k_fold; (try (refine foldS ?_; intro Sx))) | walk1 | (dsimp only; walk1) | (leave1; walk_say "STEP leave1"; try dsimp only) | (refine stripQ ?_; k_unfold; (try dsimp only))))
  k_with "dec" => assumption
  k_with "getMethod bytes" => (k_here; (with_reducible refine join_method ?_))
  trivial
section
variable {prog : Program} {w : World} {p : Program} {loose : List Str} {mean : ExcName → Option Value} {mg mb : Str → Option Value}
  {dp un : Nat} {gd : Option (List Code)} {cn : Str} {cs : Scope} {a : Addr} {ccd : Value} {cl : List (Str × Addr)} {outer : List Env} {base g' h : Heap} {L L' d kA mA hp fm fp t0 I : Addr} {m₁ : Str → Option Value} {nx : List (Addr × Obj)} {it : Obj} {i tk : Nat} {t : Tok} {s : Shared} {E : Value → Shared → Prop} {Q : Flow → Shared → Prop}
  (B' : Below (ktrTop dp un gd cn cs L a ccd cl outer) base (envX cn cs L a ccd cl :: outer) g') (X' : (KK w.params).In g') (T' : Top p loose mean mg mb g') (hC : HCd g')
include B' X' T' hC
set_option maxHeartbeats 4000000
/-- a turn of the names law -/
theorem turn_C (hE : PassesOwn (model prog w) ((ktrTop dp un gd cn cs L a ccd cl outer).deeper (ENVN L')) (ENVN L') E) (hd : dp + 300 < recursionLimit) (hu : un + 2000 < cLine) (loK : (kA == sysModules) = false) (hi : i < 4)
    (hS : NS prog w mg d kA mA (L' + 1) (L' + 1 + 1) (L' + 1 + 1 + 1) (L' + 1 + 1 + 1 + 1) (L' + 1 + 1 + 1 + 1 + 1 + 1) (L' + 1 + 1 + 1 + 1 + 1) hp fm fp t0 i nx)
    (e1 : m₁ (Str.ofString "root") = some (.ref t0)) (e2 : m₁ (Str.ofString "make_one") = some (.ref fm)) (e3 : m₁ (Str.ofString "put_one") = some (.ref fp)) (ho : ∀ p ∈ nx, p.1 ≠ I)
    (F₁ : Fr g' L' h (fun y => if y = Str.ofString "turn" then some (.int (0 + (i : Int)) t) else m₁ y)) (N₁ : News g' L' h ((I, it) :: nx)) :
    wpAny (model prog w) ((ktrTop dp un gd cn cs L a ccd cl outer).deeper (ENVN L')) (execs (forB B_ulaw_names_right[5]?) (ENVN L'))
      (UnrPost g' L' { heap := h, gens := s.gens, drawn := s.drawn, toks := tk, os := s.os } I it (fun m' n' => (∀ p ∈ n', p.1 ≠ I) ∧ (NS prog w mg d kA mA (L' + 1) (L' + 1 + 1) (L' + 1 + 1 + 1) (L' + 1 + 1 + 1 + 1) (L' + 1 + 1 + 1 + 1 + 1 + 1) (L' + 1 + 1 + 1 + 1 + 1) hp fm fp t0 (i + 1) n' ∧ m' (Str.ofString "root") = some (.ref t0) ∧ m' (Str.ofString "make_one") = some (.ref fm) ∧ m' (Str.ofString "put_one") = some (.ref fp))) Q) E
      { heap := h, gens := s.gens, drawn := s.drawn, toks := tk, os := s.os } := by
  k_fold
  refine foldA ?_; intro Ax
  obtain ⟨Fo, rt, H2, od, oK, o3, o4, g, x, tg, tx, mv, e, xs, v3, v4, G, rfl, ap1, fi, hrt, hrp, hrt0, hdd, hg, hx, kno, knf, hxl, d3, d4, hH, ng, hmv⟩ := hS
  subst hrt0 hH
  rw [map3 e1 e2 e3] at F₁
  refine foldM F₁ ?_; clear F₁; intro Mx1 F₁
  have N2 := nw_git N₁
  have ap2 := ap_git (List.nodup_cons.mpr ⟨fun hm => by
    obtain ⟨p, hp, e⟩ := List.mem_map.mp hm
    exact ho p hp e, ap1⟩ : Apart ((I, it) :: _))
  clear N₁
  have ng0 := ng
  have kno0 := kno
  have hoG : ∀ p ∈ G, p.1 ≠ I := fun p hp => ho p (mcG hp)
  replace ng := ng.mono (G' := (I, it) :: G) fun p hp => .tail _ hp
  replace kno := kno.mono (G' := (I, it) :: G) fun p hp => .tail _ hp
  obtain ⟨GA, hGA⟩ : ∃ GA, GA = (I, it) :: G := ⟨_, rfl⟩
  have hIt : (I, it) ∈ GA := hGA ▸ .head _
  rw [← hGA] at N2 ap2 ng kno
  obtain ⟨o1c, h1c, d1c⟩ := ng.cd
  (conv in execs _ _ => arg 1; whnf)
  walk_at "gow"
  rename Fr _ _ _ _ => F3
  rename News _ _ _ _ => N3
  rename_i ml hml lml
  obtain ⟨mvs, hmvs, N3m⟩ : ∃ mvs : List Value, MenuV mvs ∧ News g' L' hml ((ml, W.listOf mvs.toArray 0) :: (fE w.params Fo ++ (hpE w.params H2 ++ ((mA, W.listOf mv.toArray e) :: (d, od) :: (kA, oK) :: (L' + 1 + 1 + 1, o3) :: (L' + 1 + 1 + 1 + 1, o4) :: GA)))) := ⟨_, menuV, N3⟩
  clear N3
  have ap3 := ap_git (ap_lts (o := W.listOf mvs.toArray 0) lml ap2)
  have N3 := nw_git N3m
  clear N3m
  refine storeX_C F3 N3 rfl (updF_c3 ap3) d3 ?_ rfl rfl
  intro h4 o3' F4 N4 d3'
  have ap4 := ap_c (r7 := (mA, listOf mv.toArray e)) (r0 := (d, od)) (r8 := (kA, oK)) (r3 := (L' + 1 + 1 + 1, o3')) (r4 := (L' + 1 + 1 + 1 + 1, o4)) ap3 rfl rfl rfl rfl rfl
  clear ap3 lml ap2
  walk_at "gow"
  k_dflt (refine LCg.ListComp_U (F₀ := by k_asm) (by with_unfolding_all rfl) (by decide) (by rfl) (by decide) (by rfl) ?_)
  walk_at "gow"
  k_dflt (refine' take_C (d := d) ?B ?F ?X (nw_gtk (by assumption)) (ap_gtk ap4).ne hdd ?T ?hk ?d ?u hg hx (by decide) (by decide) ?_; (case B => k_asm); (case F => k_asm); (case X => k_asm); (case T => k_asm); (case hk => exact rfl); (case d => walk_at "dep"); (case u => walk_at "dep"))
  intro h5 tk5 n0 tn0 od1 g1 tg1 x1 tx1 hn0 hn1 hg1 hx1 hdd1' F5 N5'
  have hdd1 : DrO prog w od1 g1 tg1 x1 tx1 := hdd1'
  clear hdd1' hdd
  have N5 := nw_gkt N5'
  have ap5 := ap_c (r7 := (mA, listOf mv.toArray e)) (r0 := (d, od1)) (r8 := (kA, oK)) (r3 := (L' + 1 + 1 + 1, o3')) (r4 := (L' + 1 + 1 + 1 + 1, o4)) ap4 rfl rfl rfl rfl rfl
  clear N5'
  walk_at "gow"
  rename_i hR F6 N6 _
  obtain ⟨nw, hnw⟩ := Int.eq_ofNat_of_zero_le (show 0 ≤ 1 + n0 by omega)
  rw [hnw] at hR
  have hnw1 : 1 ≤ nw := by omega
  have hnw3 : nw ≤ 3 := by omega
  refine LCg.CompSrc.range rfl (by assumption) (by assumption) hR (small_one (by omega) (by omega) (by omega) (by omega)) (range_n nw) (by rw [sizeLine_eq]; omega) (fun gg => ?_)
  refine compRest_J (fun j ys nx => ∃ od g x tg tx bs, nx = fE w.params Fo ++ (hpE w.params H2 ++ ((mA, W.listOf mv.toArray e) :: (d, od) :: (kA, oK) :: (L' + 1 + 1 + 1, o3') :: (L' + 1 + 1 + 1 + 1, o4) :: ((ml, W.listOf mvs.toArray 0) :: GA))) ∧ Apart nx ∧ DrO prog w od g tg x tx ∧ 0 ≤ g ∧ (0 ≤ x ∧ x < 2147483647) ∧ BysAre ys bs ∧ (∀ b ∈ bs, b ∈ menuB) ∧ bs.length = j) ?_ ?_ nw 0 [] _ (Nat.add_zero _) ⟨od1, g1, x1, tg1, tx1, [], rfl, ap5, hdd1, hg1, hx1, .nil, fun _ h => (nomatch h), rfl⟩
  · rintro j v I2 oI C2 oC D2 ys nx m₂ h tk E' hj hP hC2 hx2 ⟨od, g, x, tg, tx, bs, rfl, apn, hdd, hg, hx, hbs, hbm, hbl⟩ F7 N7 off ne
    have hoff : ∀ p ∈ (I2, oI) :: (C2, oC) :: (D2, LCg.lst ys) :: (fE w.params Fo ++ (hpE w.params H2 ++ ((mA, W.listOf mv.toArray e) :: (kA, oK) :: (L' + 1 + 1 + 1, o3') :: (L' + 1 + 1 + 1 + 1, o4) :: ((ml, W.listOf mvs.toArray 0) :: GA)))), p.1 ≠ d := fun p hp => by
      have od2 := off.mem (d, od) mc0
      rcases List.mem_cons.mp hp with rfl | hp
      · exact fun e => od2.1 e.symm
      · rcases List.mem_cons.mp hp with rfl | hp
        · exact fun e => od2.2.1 e.symm
        · rcases List.mem_cons.mp hp with rfl | hp
          · exact fun e => od2.2.2 e.symm
          · exact (ap_gtk apn).ne p hp
    walk_at "gow"
    k_dflt (refine' take_C (d := d) ?B ?F ?X (nw_gc3 (by assumption)) hoff hdd ?T ?hk ?d ?u hg hx (by decide) (by decide) ?_; (case B => k_asm); (case F => k_asm); (case X => k_asm); (case T => k_asm); (case hk => exact rfl); (case d => walk_at "dep"); (case u => walk_at "dep"))
    intro h8 tk8 r8 tr8 od8 g8 tg8 x8 tx8 hr80 hr81 hg8 hx8 hdd8' F8 N8'
    have hdd8 : DrO prog w od8 g8 tg8 x8 tx8 := hdd8'
    clear hdd8' hdd
    have N8 := nw_gk3 N8'
    obtain ⟨b, tb, hb, hbm8⟩ := hmvs r8 hr80 hr81
    clear N8'
    walk_at "gow"
    rename Fr _ _ _ _ => FZ
    rename News _ _ _ _ => NZ
    exact ⟨_, _, _, rfl, FZ, NZ, off3_ad off (by simp), trivial, od8, g8, x8, tg8, tx8, bs ++ [b], rfl, ap_c apn rfl rfl rfl rfl rfl, hdd8, hg8, hx8, hbs.snoc, fun c hc => by
      rcases List.mem_append.mp hc with hc | hc
      · exact hbm c hc
      · rw [List.mem_singleton.mp hc]; exact hbm8, by rw [List.length_append, hbl]; rfl⟩
  · clear hdd1 ap5 ap4
    rintro ys nx ⟨od, g, x, tg, tx, bs, rfl, apn, hdd, hg, hx, hbs, hbm, hbl⟩
    intro D7 h7 tk7 F7 N7 o7
    have hyl := hbs.length
    walk_at "gow"
    have ap8 := ap_git (ap_off1 (o := LCg.lst ys) o7 apn)
    have N8 := nw_git N7
    refine storeX_C F7 N8 rfl (updF_c4 ap8) d4 ?_ rfl rfl
    intro h9 o4' F9 N9 d4'
    have ap9 := ap_c (r7 := (mA, listOf mv.toArray e)) (r0 := (d, od)) (r8 := (kA, oK)) (r3 := (L' + 1 + 1 + 1, o3')) (r4 := (L' + 1 + 1 + 1 + 1, o4')) ap8 rfl rfl rfl rfl rfl
    obtain ⟨oMc, hMc, dMc⟩ := ng.clo.cm
    clear ap8 apn o7
    walk_at "gow"
    refine clearL (vs := mv) (by assumption) (by assumption) (fun k => upd_c7 ap9) (by omega) ?_
    intro h10 ke F10 N10
    have ap10 := ap_c (r7 := (mA, W.listOf ([] : List Value).toArray ke)) (r0 := (d, od)) (r8 := (kA, oK)) (r3 := (L' + 1 + 1 + 1, o3')) (r4 := (L' + 1 + 1 + 1 + 1, o4')) ap9 rfl rfl rfl rfl rfl
    clear ap9
    walk_at "gow"
    refine join_K (vs := ys) (ws := bs) (D := D7) (e := ys.length) (by assumption) (mcG (.head _)) hbs hbm (by omega) (by omega) ?_
    intro tj kj
    walk_at "gow"
    k_dflt (refine' dotted_C (H := H2) (Fo := Fo) (rt := rt) (ws := bs) (mA := mA) (fm := fm) (fp := fp) (R := (d, od) :: (kA, oK) :: (L' + 1 + 1 + 1, o3') :: (L' + 1 + 1 + 1 + 1, o4') :: ((D7, LCg.lst ys) :: ((ml, W.listOf mvs.toArray 0) :: GA))) ?B ?F ?X hC ?N ap10 ?K ?T ?hk ?d ?u fi ?hB hrt hrp hbm ?h1 ?h3 ?_; (case N => k_asm); (case K => exact ng.clo.mono fun p hp => .tail _ (.tail _ (.tail _ (.tail _ (.tail _ (.tail _ hp)))))); (case hB => omega); (case h1 => omega); (case h3 => omega); (case B => k_asm); (case F => k_asm); (case X => k_asm); (case T => k_asm); (case hk => exact rfl); (case d => walk_at "dep"); (case u => walk_at "dep"))
    intro h11 tk11 T11 D11 wv i11 x11 nx11 v11 r11 dst dres F11 N11 hT11
    obtain ⟨Fo', H', e', G', n', rfl, ap', fi', hH', hn', hp', hx', hq', hs'⟩ := dst
    have tup : IsTup h11 T11 #[v11, r11] := ⟨_, (N11 _ (.head _)).1, rfl, _, rfl⟩
    have ap11 := ap_gdt (List.nodup_cons.mpr ⟨fun hm => by
      obtain ⟨p, hp, e⟩ := List.mem_map.mp hm
      exact hT11 p hp e, ap'⟩ : Apart ((T11, tupO v11 r11) :: _))
    have N12 := nw_gdt N11
    obtain ⟨GB, hGB⟩ : ∃ GB, GB = (T11, tupO v11 r11) :: (D11, W.listOf wv.toArray 0) :: (G' ++ ((D7, LCg.lst ys) :: ((ml, W.listOf mvs.toArray 0) :: GA))) := ⟨_, rfl⟩
    have sub : ∀ p ∈ GA, p ∈ GB := fun p hp => hGB ▸ .tail _ (.tail _ (List.mem_append_right _ (.tail _ (.tail _ hp))))
    have hD7 : (D7, W.listOf ys.toArray ys.length) ∈ GB := hGB ▸ .tail _ (.tail _ (List.mem_append_right _ (.head _)))
    have hT11' : (T11, tupO v11 r11) ∈ GB := hGB ▸ .head _
    rw [← hGB] at N12 ap11
    replace ng := ng.mono sub
    replace kno := kno.mono sub
    replace hIt := sub _ hIt
    clear ap' N11 ap10 hT11 hMc dMc oMc h1c d1c o1c hGB
    obtain ⟨oMc, hMc, dMc⟩ := ng.clo.cm
    obtain ⟨o1c, h1c, d1c⟩ := ng.cd
    obtain ⟨okc, hkc, dkc⟩ := ng.ck
    obtain ⟨b0, t0', hy0, hb0⟩ := hbs.hd (by omega)
    rcases dres with ⟨hodd, rfl, rfl, tr, rfl⟩ | ⟨hodd, hi11, rfl, rfl⟩
    · obtain rfl : b0 = oddB := Option.some.inj (hb0.symm.trans hodd)
      walk_at "gow"
      refine join_K (vs := ys) (ws := bs) (D := D7) (e := ys.length) (by assumption) (mcG hD7) hbs hbm (by omega) (by omega) ?_
      intro tj2 kj2
      walk_at "gow"
      refine ne_boolL (bs := []) (n := e') (k := 0) (by assumption) (.tail _ mc7) (.head _) (by unfold madeV newJ; rfl) rfl (by walk_at "dep") ?_
      walk_at "gow"
      rename Fr _ _ _ _ => FZ
      rename News _ _ _ _ => NZ
      obtain ⟨nx', s1, s2, s3⟩ := ns_next (i := i) (G := G) (GK := G) ap11 hIt (fun p hp => sub p (hGA ▸ .tail _ hp)) hoG (fi'.le (by omega)) hrt hrp rfl hs' hdd hg hx kno0 (fun p hp => ⟨sub p (hGA ▸ .tail _ hp), hoG p hp⟩) ((knf.congr (P' := PthP Fo') fun q => ⟨fun ⟨a, b⟩ => ⟨a, (hq' q).mpr (.inl b)⟩, fun ⟨a, b⟩ => ⟨a, ((hq' q).mp b).elim id fun ⟨j, j1, j2, _⟩ => absurd j1 (by omega)⟩⟩).mono fun q r _ ⟨m, m1, m2, m3⟩ => let ⟨m', a1, a2, a3⟩ := hs' m m1; ⟨m', a1, a2.trans m2, a3.trans m3⟩) (by omega) d3' d4' hH' ng0 (by unfold madeV newJ; exact Nat.zero_le _)
      have NF : News g' L' _ ((I, it) :: nx') := fun p hp => NZ p (by
        rcases List.mem_cons.mp hp with rfl | hp
        · exact .tail _ (mcG hIt)
        · exact .tail _ (s1 p hp))
      exact UnrEnd.intro FZ NF nx' (fun p hp => hp) s2 ⟨s2, s3, rfl, rfl, rfl⟩
    · have hb0n : ¬ ((b0.toList == (#[111, 100, 100] : Array UInt8).toList) = true) := fun e => hodd (by rw [hb0, show b0 = oddB from Array.toList_inj.mp (beq_iff_eq.mp e)])
      subst hi11
      walk_at "goz"
      rename Fr _ _ _ _ => FA
      rename News _ _ _ _ => NA
      exact reg_C B' X' T' hE hd hu loK hi rfl rfl rfl rfl rfl FA NA ap11 fi' hn' hp' hx' hq' hs' hrt hrp rfl hdd hg hx kno0 knf hxl d3' d4' hH' ng0 hoG (fun p hp => sub p (hGA ▸ .tail _ hp)) hIt hD7 hbs hbm (by omega) (by omega) hodd
end
end Mine
end
section
open PySem PySem.W PySem.Spec PySem.Calls PyProof.Rows
open PyProof.Rows
namespace Mine
theorem wdG1_0 : True := by
  k_with_none
  k_with "k_room" => ((try dsimp only [Ax]); ktr_room)
  k_with "k_units" => ((try dsimp only [Ax]); ktr_units)
  k_with "ent" => (intro _ _ _ _ _ _ _ _ _; (try k_fold); (refine foldA ?_; intro Ax); (conv in execs _ _ => arg 1; whnf))
  k_with "dep" => ((try dsimp only [ktrTop, Around.deeper, Around.in1, Around.under]); (first | (refine' room2 ?zqhR ?zqcR; (case zqhR => assumption); (case zqcR => exact Nat.le_of_ble_eq_true rfl)) | (refine' room0 ?zqhR; (case zqhR => assumption)) | (refine' room1 ?zqhR ?zqcR; (case zqhR => assumption); (case zqcR => exact Nat.le_of_ble_eq_true rfl)) | (refine' room3 ?zqhR ?zqcR; (case zqhR => assumption); (case zqcR => exact Nat.le_of_ble_eq_true rfl)) | omega))
  k_with "news" => first | assumption | exact news_tl0 (by assumption) | exact news_tl0 (news_tl0 (by assumption)) | exact news_tl0 (news_tl0 (news_tl0 (by assumption)))
  k_with "dec" => first | ((try simp only [beq_iff_eq, bne_iff_ne, decide_eq_true_eq, decide_eq_false_iff_not, Bool.and_eq_true, Bool.not_eq_true', Bool.not_eq_true, beq_eq_false_iff_ne, ne_eq]) <;> omega) | (simp; done)
  k_with "ite" => (k_here; k_openite; (first | refine ite_pos (by walk_at "dec") ?_ | refine ite_neg (by walk_at "dec") ?_))
  k_with "go" => repeat' ((fail_if_success (with_reducible show wpAny _ _ (exec (Stmt.While _ _ _ _) _) _ _ _)); (fail_if_success (with_reducible show wpAny _ _ (exec (Stmt.For _ _ _ _ _) _) _ _ _)); (fail_if_success (with_reducible show WhileStep2 _ _ _ _ _ _ Flow.next _)); (fail_if_success (with_reducible show WhileStep2 _ _ _ _ _ _ Flow.cont _)); (first | (k_unfold; (try dsimp only)) | (k_end; wrow_close) | ((first | (with_reducible show wpAny _ _ (exec _ _) _ _ _) | (with_reducible show wpAny _ _ (execs _ _) _ _ _)); k_fold; (try (refine foldS ?_; intro Sx))) | walk1 | (dsimp only; walk1) | (leave1; walk_say "STEP leave1"; try dsimp only) | (refine stripQ ?_; k_unfold; (try dsimp only))))
  k_with "subscriptTail" => (k_here; (with_reducible show wpAny _ _ (subscriptTail _ _ (Value.bytes _ _) (Value.int _ _)) _ _ _); k_dflt (refine' item_by ?zqf ?zqa ?zqb ?_ ?zqhs ?zqht; (case zqf => first | assumption | omega); (case zqa => first | assumption | omega); (case zqb => first | assumption | omega); (case zqhs => with_unfolding_all rfl); (case zqht => (intro _; with_unfolding_all rfl)); k_whole); intro _ _)
  k_with "subscriptTail" => (k_here; (with_reducible show wpAny _ _ (subscriptTail _ _ (Value.ref _) (Value.int _ _)) _ _ _); k_dflt (refine' item_led ?zqN ?zqm ?zqa ?zqb ?zqx ?_ ?zqhs; (case zqN => k_asm); (case zqm => k_mem); (case zqa => first | assumption | omega); (case zqb => first | assumption | omega); (case zqx => first | assumption | walk_at "item"); (case zqhs => with_unfolding_all rfl); k_whole))
  k_with "WhileStep2" => (dsimp only [WhileStep2])
  k_with "lenk" => first | assumption | exact refsN_len _ | exact rfl
  k_with "call builtin:len" => (k_here; (with_reducible show wpAny _ _ (call (Value.builtin "len") [Value.ref _]) _ _ _); k_dflt (refine' len_led ?zqN ?zqm ?zqk ?zqf ?_; (case zqN => k_asm); (case zqm => k_mem); (case zqk => walk_at "lenk"); (case zqf => first | assumption | omega); k_whole); intro _ _)
  k_with "binaryOp Mod int int" => (k_here; k_dflt (refine' mod_int' (by assumption) ?_; k_whole))
  k_with "item" => exact refsN_get (by assumption)
  k_with "k_handed" => assumption
  k_with "compareOp Is none" => (k_here; first | refine is_none_ne (by assumption) ?_ | refine is_none_eq (by assumption) ?_)
  k_with "compareOp IsNot none" => (k_here; first | refine isnot_none_ne (by assumption) ?_ | refine isnot_none_eq (by assumption) ?_)
  k_with "k_all" => assumption
  k_with "setItem ref int" => (k_here; (with_reducible show wpAny _ _ (setItem (Value.ref _) (Value.int _ _) _) _ _ _); k_dflt (refine' set_led ?zqF ?zqN ?zqU ?zqa ?zqb ?zqc ?_; (case zqF => k_asm); (case zqN => k_asm); (case zqU => k_upd); (case zqa => first | assumption | omega); (case zqb => first | assumption | omega); (case zqc => first | assumption | omega); k_whole); intro _ _ _; (try k_sweep))
  k_with "getItem ref int" => (k_here; (with_reducible show wpAny _ _ (getItem (Value.ref _) (Value.int _ _)) _ _ _); k_dflt (refine' get_led ?zqN ?zqm ?zqa ?zqb ?zqx ?_; (case zqN => k_asm); (case zqm => k_mem); (case zqa => first | assumption | omega); (case zqb => first | assumption | omega); (case zqx => first | assumption | walk_at "item"); k_whole))
  trivial
theorem wdG1_1 : True := by
  k_with "one" => (first | (k_unfold; (try dsimp only)) | (k_end; wrow_close) | ((first | (with_reducible show wpAny _ _ (exec _ _) _ _ _) | (with_reducible show wpAny _ _ (execs _ _) _ _ _)); k_fold; (try (refine foldS ?_; intro Sx))) | walk1 | (dsimp only; walk1) | (leave1; walk_say "STEP leave1"; try dsimp only))
  k_with "gon" => repeat' ((fail_if_success (with_reducible show wpAny _ _ (exec (Stmt.For _ _ _ _ _) _) _ _ _)); (fail_if_success (with_reducible show wpAny _ _ (eval (Expr.ListComp _ _ _ _) _) _ _ _)); (fail_if_success (with_reducible show wpAny _ _ (pyIter (Value.ref _)) _ _ _)); (fail_if_success (with_reducible show wpAny _ _ (call (Value.ref 539) _) _ _ _)); (fail_if_success (with_reducible show wpAny _ _ (call (Value.ref 466) _) _ _ _)); (fail_if_success (with_reducible show wpAny _ _ (call (Value.ref 550) _) _ _ _)); (fail_if_success (with_reducible show wpAny _ _ (call (Value.ref 266) _) _ _ _)); (fail_if_success (with_reducible show wpAny _ _ (call (Value.ref 259) _) _ _ _)); (fail_if_success (with_reducible show wpAny _ _ (call (Value.ref 438) _) _ _ _)); (fail_if_success (with_reducible show wpAny _ _ (call (Value.ref 569) _) _ _ _)); (fail_if_success (with_reducible show WhileStep2 _ _ _ _ _ _ Flow.next _)); (fail_if_success (with_reducible show WhileStep2 _ _ _ _ _ _ Flow.cont _)); (first | (k_unfold; (try dsimp only)) | (k_end; wrow_close) | ((first | (with_reducible show wpAny _ _ (exec _ _) _ _ _) | (with_reducible show wpAny _ _ (execs _ _) _ _ _)); k_fold; (try (refine foldS ?_; intro Sx))) | walk1 | (dsimp only; walk1) | (leave1; walk_say "STEP leave1"; try dsimp only) | (refine stripQ ?_; k_unfold; (try dsimp only))))
  k_with "gom" => repeat' ((fail_if_success (with_reducible show wpAny _ _ (exec (Stmt.For _ _ _ _ _) _) _ _ _)); (fail_if_success (with_reducible show wpAny _ _ (eval (Expr.ListComp _ _ _ _) _) _ _ _)); (fail_if_success (with_reducible show wpAny _ _ (pyIter (Value.ref _)) _ _ _)); (fail_if_success (with_reducible show wpAny _ _ (getMethod (Value.ref _) _ _) _ _ _)); (fail_if_success (with_reducible show wpAny _ _ (call (Value.ref 539) _) _ _ _)); (fail_if_success (with_reducible show wpAny _ _ (call (Value.ref 466) _) _ _ _)); (fail_if_success (with_reducible show wpAny _ _ (call (Value.ref 550) _) _ _ _)); (fail_if_success (with_reducible show wpAny _ _ (call (Value.ref 266) _) _ _ _)); (fail_if_success (with_reducible show wpAny _ _ (call (Value.ref 259) _) _ _ _)); (fail_if_success (with_reducible show wpAny _ _ (call (Value.ref 438) _) _ _ _)); (fail_if_success (with_reducible show wpAny _ _ (call (Value.ref 569) _) _ _ _)); (fail_if_success (with_reducible show WhileStep2 _ _ _ _ _ _ Flow.next _)); (fail_if_success (with_reducible show WhileStep2 _ _ _ _ _ _ Flow.cont _)); (first | (k_unfold; (try dsimp only)) | (k_end; wrow_close) | ((first | (with_reducible show wpAny _ _ (exec _ _) _ _ _) | (with_reducible show wpAny _ _ (execs _ _) _ _ _)); k_fold; (try (refine foldS ?_; intro Sx))) | walk1 | (dsimp only; walk1) | (leave1; walk_say "STEP leave1"; try dsimp only) | (refine stripQ ?_; k_unfold; (try dsimp only))))
  k_with "k_all" => exact all_consG (by k_ne) (by k_all)
  k_with "k_all" => assumption
  k_with "k_mem" => first | assumption | exact .head _ | exact .tail _ (.head _) | exact .tail _ (.tail _ (.head _)) | exact mc7 | exact mc8 | exact mc0 | exact mc3 | exact mc4 | exact mcG (by assumption) | exact mcG (.tail _ (by assumption)) | exact .tail _ (mcG (.tail _ (by assumption))) | exact .tail _ mc7 | exact .tail _ mc8 | exact .tail _ mc0 | exact .tail _ mc3 | exact .tail _ mc4
  trivial
section
variable {prog : Program} {w : World} {p : Program} {loose : List Str} {mean : ExcName → Option Value} {mg mb : Str → Option Value}
  {dp un : Nat} {gd : Option (List Code)} {cn : Str} {cs : Scope} {a : Addr} {ccd : Value} {cl : List (Str × Addr)} {outer : List Env} {A₀ : Around} {base h₀ : Heap} {L : Addr} {m : Str → Option Value} {news : List (Addr × Obj)} {s : Shared} {E : Value → Shared → Prop} {Q : Value → Shared → Prop}
  (B : Below A₀ base outer h₀) (F : Fr h₀ L s.heap m) (X : (KK w.params).In h₀) {d : Addr} {od : Obj} {g x : Int} {tg tx : Tok} (hC : CodeHd h₀ 578 576) (N : News h₀ L s.heap ((d, od) :: (576, tabObj #[]) :: news)) (ap : Apart ((d, od) :: (576, tabObj #[]) :: news)) (hdd : DrO prog w od g tg x tx) (T : Top p loose mean mg mb h₀) (hk : cs.kind = .function)
include hC B F X N ap hdd T hk
set_option maxHeartbeats 4000000
theorem names_C (hd : dp + 300 < recursionLimit) (hu : un + 2000 < cLine) (hg : 0 ≤ g) (hx : 0 ≤ x ∧ x < 2147483647)
    (hret : ∀ h' tk' ps G, Fr h₀ L h' m → News h₀ L h' ((576, tabObj ps) :: G) → Q (.bool true) { s with heap := h', toks := tk' }) :
    wpAny (model prog w) (ktrTop dp un gd cn cs L a ccd cl outer) (call (.ref F_ulaw_names_right) [.ref d]) Q E s := by
  refine wpAny_call ?_
  (refine' code_defC ?k1 ?k2 ?k3 ?k4 ?k5 ?kA ?kF ?kK ?k6 ?k7 ?k8 ?k9 ?kB ?kD ?_ ?c2 ?c3 ?c4; (case kA => exact rfl); (case kF => exact rfl); (case kK => first | assumption | exact rfl); (case k1 => k_asm); (case k2 => k_asm); (case k3 => k_asm); (case k4 => k_asm); (case k5 => k_asm); (case k6 => k_is); (case k7 => k_is); (case k8 => k_room); (case k9 => exact BindsTo.of_eq rfl); (case kB => exact rfl); (case kD => decide +kernel); (case c2 => exact rfl); (case c3 => exact rfl); (case c4 => exact rfl); k_whole; intro g' L' h' tk' cells' FG' F' N' Y' B' X' T' l1)
  obtain ⟨o1, o2, o3, o4, o5, o6, hE, e1, e2, e3, e4, e5, e6⟩ := kc_six Y'
  subst hE
  clear Y'
  (try simp only [List.cons_append, List.nil_append] at N')
  (try dsimp only)
  (try k_fold)
  refine foldA ?_; intro Ax
  (conv in execs _ _ => arg 1; whnf)
  have f1 : o1.data = .cell none := e1
  have f2 : o2.data = .cell none := e2
  have f3 : o3.data = .cell none := e3
  have f4 : o4.data = .cell none := e4
  have f5 : o5.data = .cell none := e5
  have f6 : o6.data = .cell (some (.ref d)) := e6
  clear e1 e2 e3 e4 e5 e6
  obtain ⟨m0, F0⟩ : ∃ m0, Fr g' L' h' m0 := ⟨_, F'⟩
  clear F'
  have hCz : HCd _ := hC
  clear hC
  walk_at "gon"
  k_dflt (refine' heap_new_C ?B ?F ?X ?N ?T ?hk ?d ?u ?ap ?_; (case N => k_asm); (case B => k_asm); (case F => k_asm); (case X => k_asm); (case T => k_asm); (case hk => exact rfl); (case d => walk_at "dep"); (case u => walk_at "dep"))
  case ap => exact apC6 l1 ap
  intro h1 tk1 H F1 N1 ap1
  replace N1 := nw_gcel N1
  replace ap1 := ap_gcel ap1
  have l0 : @LT.lt Nat _ 576 L' := l1 _ (.tail _ (.head _))
  replace hCz : HCd g' := CodeHd.keeps (show CodeHd _ 578 576 from hCz) FG'.keep
  clear l1
  obtain ⟨Z, hZ⟩ : ∃ Z, Z = hpE w.params H ++ ((d, od) :: news) := ⟨_, rfl⟩
  rw [← hZ] at N1 ap1
  have z6 : ∀ p ∈ Z, p.1 ≠ L' + 1 + 1 + 1 + 1 + 1 + 1 := fun p hp => ap1.ne p (.tail _ (.tail _ (.tail _ (.tail _ (.tail _ (.tail _ hp))))))
  have z5 : ∀ p ∈ Z, p.1 ≠ L' + 1 + 1 + 1 + 1 + 1 := fun p hp => ap1.tl.ne p (.tail _ (.tail _ (.tail _ (.tail _ (.tail _ hp)))))
  have z4 : ∀ p ∈ Z, p.1 ≠ L' + 1 + 1 + 1 + 1 := fun p hp => ap1.tl.tl.ne p (.tail _ (.tail _ (.tail _ (.tail _ hp))))
  have z3 : ∀ p ∈ Z, p.1 ≠ L' + 1 + 1 + 1 := fun p hp => ap1.tl.tl.tl.ne p (.tail _ (.tail _ (.tail _ hp)))
  have z2 : ∀ p ∈ Z, p.1 ≠ L' + 1 + 1 := fun p hp => ap1.tl.tl.tl.tl.ne p (.tail _ (.tail _ hp))
  have z1 : ∀ p ∈ Z, p.1 ≠ L' + 1 := fun p hp => ap1.tl.tl.tl.tl.tl.ne p (.tail _ hp)
  walk_at "gom"
  rename_i mA h2 l1 kA h3 oK loK hsK fsK hiK fiK l2 D h4 l3 h5 h6 oH dH h7 oM dM h8 oN F9 N9 dN
  have hKn : KnO prog w oK [] [] := KnO.empty hiK
  clear hiK
  replace N9 := news_tl0 N9
  have ap2 : Apart ((L' + 1 + 1 + 1 + 1 + 1 + 1, oM) :: (L' + 1 + 1 + 1 + 1 + 1, oH) :: (L' + 1 + 1 + 1 + 1, o3) :: (L' + 1 + 1 + 1, o4) :: (L' + 1 + 1, oN) :: (L' + 1, o6) :: (576, tabObj #[]) :: Z) := ap1.of_ad rfl
  have ap3 : Apart ((mA, W.listOf #[] 0) :: _) := ap_newG (show AllLt mA ((L' + 1 + 1 + 1 + 1 + 1 + 1, oM) :: (L' + 1 + 1 + 1 + 1 + 1, oH) :: (L' + 1 + 1 + 1 + 1, o3) :: (L' + 1 + 1 + 1, o4) :: (L' + 1 + 1, oN) :: (L' + 1, o6) :: (576, tabObj #[]) :: Z) from l1) ap2
  have ap5 : Apart ((kA, oK) :: _) := ap_newG (show AllLt kA ((mA, W.listOf #[] 0) :: (L' + 1 + 1 + 1 + 1 + 1 + 1, oM) :: (L' + 1 + 1 + 1 + 1 + 1, oH) :: (L' + 1 + 1 + 1 + 1, o3) :: (L' + 1 + 1 + 1, o4) :: (L' + 1 + 1, oN) :: (L' + 1, o6) :: (576, tabObj #[]) :: Z) from l2) ap3
  clear ap1 ap2 ap3 l3 z1 z2 z3 z4 z5 z6 f1 f2 f5
  rw [hZ] at N9 ap5
  clear hZ
  walk_at "gon"
  rename Fr _ _ _ _ => F9
  rename News _ _ _ _ => N9
  replace N9 := nw_gn2 N9
  replace ap5 := ap_gn2 ap5
  k_dflt (refine' new_table_p (H := H) ?B ?F ?X ?N ap5 ?T ?hk ?d ?u ?p0 ?p2 ?_; (case N => k_asm); (case p0 => decide); (case p2 => decide); (case B => k_asm); (case F => k_asm); (case X => k_asm); (case T => k_asm); (case hk => exact rfl); (case d => walk_at "dep"); (case u => walk_at "dep"))
  intro h2 tk2 T0 H1 G0 tt0 tT ht0 hH1 hH2 F2 N2 ap6
  replace N2 := nw_gn3 N2
  replace ap6 := ap_gn3 ap6
  clear ap5 N9
  obtain ⟨Z, hZ⟩ : ∃ Z, Z = tl w.params T0 ++ (hpE w.params H1 ++ ((d, od) :: (G0 ++ news))) := ⟨_, rfl⟩
  rw [← hZ] at N2 ap6
  have zK : ∀ p ∈ Z, p.1 ≠ kA := fun p hp => ap6.ne p (.tail _ (.tail _ (.tail _ (.tail _ (.tail _ (.tail _ (.tail _ (.tail _ hp))))))))
  have zM : ∀ p ∈ Z, p.1 ≠ mA := fun p hp => ap6.tl.ne p (.tail _ (.tail _ (.tail _ (.tail _ (.tail _ (.tail _ (.tail _ hp)))))))
  have z4 : ∀ p ∈ Z, p.1 ≠ L' + 1 + 1 + 1 + 1 := fun p hp => ap6.tl.tl.tl.tl.ne p (.tail _ (.tail _ (.tail _ (.tail _ hp))))
  have z3 : ∀ p ∈ Z, p.1 ≠ L' + 1 + 1 + 1 := fun p hp => ap6.tl.tl.tl.tl.tl.ne p (.tail _ (.tail _ (.tail _ hp)))
  have zP : ∀ p ∈ Z, p.1 ≠ 576 := fun p hp => ap6.tl.tl.tl.tl.tl.tl.tl.tl.ne p hp
  have l1n : @LT.lt Nat _ 576 mA := l1.2.2.2.2.2.2.1
  have l2n : @LT.lt Nat _ 576 kA := l2.2.2.2.2.2.2.2.1
  have l3n : @LT.lt Nat _ (show Nat from L') mA := by have := l1.2.2.2.2.2.1; exact Nat.lt_trans (Nat.lt_succ_self _) this
  have l4n : @LT.lt Nat _ mA kA := l2.1
  have hC : CodeHd g' 578 576 := hCz
  clear hCz
  walk_at "gom"
  rename_i fm cm ocm vsm tm ctm dcm hq1 tkq1 dm1 dm2 lm1 lm2 hq2 _ _ _ _ fp cp ocp vsp tpp ctp dcp hq3 tkq3 dp1 dp2 lp1 lp2 hq4 FY NY
  have apA := ap_two (o1 := mkO (L' + 1 + 1 + 1 + 1 + 1 + 1) (L' + 1 + 1 + 1 + 1 + 1) dcm ((mg (Str.ofString "__name__")).getD .none) cm ctm) (o2 := ocm) (show AllLt cm ((kA, oK) :: (mA, W.listOf #[] 0) :: (L' + 1 + 1 + 1 + 1 + 1 + 1, oM) :: (L' + 1 + 1 + 1 + 1 + 1, oH) :: (L' + 1 + 1 + 1 + 1, o3) :: (L' + 1 + 1 + 1, o4) :: (L' + 1 + 1, oN) :: (L' + 1, o6) :: (576, tabObj #[]) :: Z) from lm1) lm2 ap6
  have apB := ap_two (o1 := ptO (L' + 1 + 1 + 1 + 1 + 1) dcp ((mg (Str.ofString "__name__")).getD .none) cp ctp) (o2 := ocp) (show AllLt cp ((fm, mkO (L' + 1 + 1 + 1 + 1 + 1 + 1) (L' + 1 + 1 + 1 + 1 + 1) dcm ((mg (Str.ofString "__name__")).getD .none) cm ctm) :: (cm, ocm) :: (kA, oK) :: (mA, W.listOf #[] 0) :: (L' + 1 + 1 + 1 + 1 + 1 + 1, oM) :: (L' + 1 + 1 + 1 + 1 + 1, oH) :: (L' + 1 + 1 + 1 + 1, o3) :: (L' + 1 + 1 + 1, o4) :: (L' + 1 + 1, oN) :: (L' + 1, o6) :: (576, tabObj #[]) :: Z) from lp1) lp2 apA
  obtain ⟨ps, hps⟩ : ∃ ps : Array Value, ps = (#[] ++ #[rawInt 511, rawInt 4, Value.ref cm] ++ #[rawInt 515, rawInt 4, Value.ref cp]) := ⟨_, rfl⟩
  have NY2 : News g' L' hq4 ((fp, ptO (L' + 1 + 1 + 1 + 1 + 1) dcp ((mg (Str.ofString "__name__")).getD .none) cp ctp) :: (cp, ocp) :: (fm, mkO (L' + 1 + 1 + 1 + 1 + 1 + 1) (L' + 1 + 1 + 1 + 1 + 1) dcm ((mg (Str.ofString "__name__")).getD .none) cm ctm) :: (cm, ocm) :: (kA, oK) :: (mA, W.listOf #[] 0) :: (L' + 1 + 1 + 1 + 1 + 1 + 1, oM) :: (L' + 1 + 1 + 1 + 1 + 1, oH) :: (L' + 1 + 1 + 1 + 1, o3) :: (L' + 1 + 1 + 1, o4) :: (L' + 1 + 1, oN) :: (L' + 1, o6) :: (576, tabObj ps) :: Z) := by
    rw [hps]; exact NY
  rw [hZ] at NY2 apB
  have apC := ap_gn4 (q0 := (576, tabObj ps)) (apB.of_ad rfl)
  replace NY2 := nw_gn4 NY2
  obtain ⟨GG, hGG⟩ : ∃ GG, GG = ((fp, ptO (L' + 1 + 1 + 1 + 1 + 1) dcp ((mg (Str.ofString "__name__")).getD .none) cp ctp) :: (cp, ocp) :: (fm, mkO (L' + 1 + 1 + 1 + 1 + 1 + 1) (L' + 1 + 1 + 1 + 1 + 1) dcm ((mg (Str.ofString "__name__")).getD .none) cm ctm) :: (cm, ocm) :: (L' + 1 + 1 + 1 + 1 + 1 + 1, oM) :: (L' + 1 + 1 + 1 + 1 + 1, oH) :: (L' + 1 + 1, oN) :: (L' + 1, o6) :: (576, tabObj ps) :: (G0 ++ news)) := ⟨_, rfl⟩
  have ng : NG prog w mg d kA mA (L' + 1) (L' + 1 + 1) (L' + 1 + 1 + 1 + 1 + 1 + 1) (L' + 1 + 1 + 1 + 1 + 1) H.hp fm fp GG := by
    rw [hGG]
    refine ⟨⟨⟨dcm, ctm, cm, ocm, vsm, tm, .tail _ (.tail _ (.head _)), .tail _ (.tail _ (.tail _ (.head _))), dm1, dm2⟩, ⟨dcp, ctp, cp, ocp, vsp, tpp, .head _, .tail _ (.head _), dp1, dp2⟩, ⟨oM, .tail _ (.tail _ (.tail _ (.tail _ (.head _)))), dM⟩, ⟨oH, .tail _ (.tail _ (.tail _ (.tail _ (.tail _ (.head _))))), dH⟩⟩, ⟨o6, .tail _ (.tail _ (.tail _ (.tail _ (.tail _ (.tail _ (.tail _ (.head _))))))), f6⟩, ⟨oN, .tail _ (.tail _ (.tail _ (.tail _ (.tail _ (.tail _ (.head _)))))), dN⟩, ⟨ps, .tail _ (.tail _ (.tail _ (.tail _ (.tail _ (.tail _ (.tail _ (.tail _ (.head _)))))))) ⟩⟩
  rw [← hGG] at NY2 apC
  have hfmH : H1.hp = H.hp := hH1
  clear NY apA apB lm1 lm2 lp1 lp2 zK zM z4 z3 zP l1n l2n l3n l4n l1 l2 ap6 hZ hps hGG
  obtain ⟨oc1, od1, fd1, sl1, hfm⟩ : ∃ oc od fd sl, (fm, (⟨oc, od, .func fd, sl⟩ : Obj)) ∈ GG := by
    obtain ⟨_, _, _, _, _, _, b1, _⟩ := ng.clo.m_
    exact ⟨_, _, _, _, b1⟩
  obtain ⟨y1, y2, y3, y4⟩ := has_all (show Has w.params T0 _ from fun p hp => List.mem_append_left _ hp : Has w.params T0 (tl w.params T0 ++ (hpE w.params H1 ++ ((mA, W.listOf #[] 0) :: (d, od) :: (kA, oK) :: (L' + 1 + 1 + 1, o4) :: (L' + 1 + 1 + 1 + 1, o3) :: GG))))
  obtain ⟨oHc, hHc, dHc⟩ := ng.clo.ch
  have hCz : HCd g' := hC
  clear hC
  walk_at "gon"
  k_dflt (refine' set_C (V := T0) (R := hpE w.params H1 ++ ((mA, W.listOf #[] 0) :: (d, od) :: (kA, oK) :: (L' + 1 + 1 + 1, o4) :: (L' + 1 + 1 + 1 + 1, o3) :: GG)) (k := .b oddB) (hp := H.hp) ?B ?F ?X ?N apC ?T ?hk ?d ?u tT (by decide) ?hh rfl ?ok ?kb rfl rfl ?_; (case N => k_asm); (case hh => (rw [← hfmH]; exact Hp.heapIn fun p hp => List.mem_append_left _ hp)); (case ok => exact (by decide : (3 : Nat) < 32)); (case kb => trivial); (case B => k_asm); (case F => k_asm); (case X => k_asm); (case T => k_asm); (case hk => exact rfl); (case d => walk_at "dep"); (case u => walk_at "dep"))
  intro h3 tk3 V1 G1 tV1 eV1 eN1 F3 N3 ap3
  replace N3 := nw_gn5 N3
  replace ap3 := ap_gn5 ap3
  clear apC NY2 y1 y2 y3 y4
  replace ng := ng.mono (G' := G1 ++ GG) fun p hp => List.mem_append_right _ hp
  obtain ⟨GA, hGA⟩ : ∃ GA, GA = G1 ++ GG := ⟨_, rfl⟩
  rw [← hGA] at N3 ap3 ng
  clear hfm oc1 od1 fd1 sl1 hHc dHc oHc
  obtain ⟨o1c, h1c, d1c⟩ := ng.cd
  walk_at "gon"
  refine For_invVF (by assumption) rfl rfl ?_
  walk_at "gon"
  k_dflt (refine' take_C (d := d) ?B ?F ?X (nw_gtk (by assumption)) (ap_gtk ap3).ne hdd ?T ?hk ?d ?u hg hx (by decide) (by decide) ?_; (case B => k_asm); (case F => k_asm); (case X => k_asm); (case T => k_asm); (case hk => exact rfl); (case d => walk_at "dep"); (case u => walk_at "dep"))
  intro h12 tk12 n0 tn0 od1 g1 tg1 x1 tx1 hn0 hn1 hg1 hx1 hdd1' F12 N13
  have hdd1 : DrO prog w od1 g1 tg1 x1 tx1 := hdd1'
  clear hdd1'
  have N14 := nw_gkt N13
  have ap5 := ap_gkt ((ap_gtk ap3).of_ad (l' := (d, od1) :: _) rfl)
  clear N13 ap3 N3 hdd
  walk_at "gon"
  rename_i hR F15 N15 _
  obtain ⟨n, hn⟩ := Int.eq_ofNat_of_zero_le (show 0 ≤ 1 + n0 by omega)
  rw [hn] at hR
  have hn10 : n ≤ 4 := by omega
  have hC1 := hCz
  refine iter_rangeJ (n := n) (fun i m₁ nx => NS prog w mg d kA mA (L' + 1) (L' + 1 + 1) (L' + 1 + 1 + 1) (L' + 1 + 1 + 1 + 1) (L' + 1 + 1 + 1 + 1 + 1 + 1) (L' + 1 + 1 + 1 + 1 + 1) H.hp fm fp T0.t i nx ∧ m₁ "root" = some (.ref T0.t) ∧ m₁ "make_one" = some (.ref fm) ∧ m₁ "put_one" = some (.ref fp)) rfl hR (small_one (by omega) (by omega) (by omega) (by omega)) (range_n n) F15 N15 ?_ ?_ ?_
  · have hF : ∀ t9, fE w.params [⟨[], V1, updC (fun _ => .none) (.b oddB) (.int 12 t9), 3⟩] = tl w.params V1 := fun _ => List.append_nil _
    refine ⟨⟨[⟨[], V1, updC (fun _ => .none) (.b oddB) (.int 12 _), 3⟩], ⟨[], V1, updC (fun _ => .none) (.b oddB) (.int 12 _), 3⟩, H1, od1, oK, o4, o3, g1, x1, tg1, tx1, [], 0, [], none, none, GA, (by rw [hF]), ap5, FI.one tV1 ⟨_, _, eN1.trans ht0⟩, .head _, rfl, eV1, hdd1, hg1, hx1, hKn.mono (fun p hp => nomatch hp), KnF.one, by show 0 ≤ _; omega, f4, f3, hfmH, ng, by decide⟩, rfl, rfl, rfl⟩
  · clear hR F15 N15 ap5 hdd1 f3 f4
    rintro I i m₁ nx it t h tk hi hJJ ho F₁ N₁
    (try k_fold)
    obtain ⟨hS, e1, e2, e3⟩ := hJJ
    exact turn_C B' X' T' hC1 (by passes_own) hd hu loK (by omega) hS e1 e2 e3 ho F₁ N₁
  · rintro h tk m₁ nx hJJ F₁ N₁
    (try k_fold)
    obtain ⟨⟨Fo, rt, H2, od, oK, o3, o4, g, x, tg, tx, mv, e, xs, v3, v4, G, rfl, ap1, fi, hrt, hrp, hrt0, hdd, hg, hx, kno, knf, hxl, d3, d4, hH, ng, hmv⟩, e1, e2, e3⟩ := hJJ
    obtain ⟨ps2, hps2⟩ := ng.tab
    walk_at "gon"
    rename Fr h₀ _ _ _ => FZ
    rename News h₀ _ _ _ => NZ
    exact hret _ _ ps2 _ FZ (fun p hp => by
      rcases List.mem_cons.mp hp with rfl | hp
      · exact NZ _ (mcG hps2)
      · exact NZ p hp)
end
end Mine
end
open PySem PySem.W PySem.Spec PySem.Calls PyProof.Rows
open PyProof.Rows
namespace Mine
theorem zz_len {ns : List Int} (h : ¬ ((63 : Nat) : Int) < (ns.length : Int)) : ns.length ≤ 63 := by omega
theorem zz_ap {d : Addr} {od : Obj} {q : Addr × Obj} (h : ∀ p ∈ [q], p.1 ≠ d) : Apart [(d, od), q] := List.nodup_cons.mpr ⟨fun hm => by
  obtain ⟨p, hp, e⟩ := List.mem_map.mp hm
  exact h p hp e, List.nodup_cons.mpr ⟨(fun h => nomatch h), List.nodup_nil⟩⟩
theorem zz_nw {h₀ h : Heap} {L : Addr} {a b : Addr × Obj} {G : List (Addr × Obj)} (N : News h₀ L h (a :: (G ++ [b]))) : News h₀ L h (a :: b :: G) := fun p hp => N p (by
  simp only [List.mem_append, List.mem_cons] at *
  grind)
theorem zz_ap2 {a b : Addr × Obj} {G : List (Addr × Obj)} (h : Apart (a :: (G ++ [b]))) : Apart (a :: b :: G) := by
  unfold Apart at *
  refine (List.Perm.nodup_iff (List.perm_iff_count.mpr fun a => ?_)).mp h
  simp only [List.map_append, List.map_cons, List.count_append, List.count_cons, List.map_nil, List.count_nil]
  omega
end Mine
open Mine
namespace Mine
theorem wdZ2_0 : True := by
  k_with_none
  k_with "k_room" => ((try dsimp only [Ax]); ktr_room)
  k_with "k_units" => ((try dsimp only [Ax]); ktr_units)
  k_with "dep" => ((try dsimp only [ktrTop, Around.deeper, Around.in1, Around.under]); (first | (refine' room2 ?zqhR ?zqcR; (case zqhR => assumption); (case zqcR => exact Nat.le_of_ble_eq_true rfl)) | (refine' room0 ?zqhR; (case zqhR => assumption)) | (refine' room1 ?zqhR ?zqcR; (case zqhR => assumption); (case zqcR => exact Nat.le_of_ble_eq_true rfl)) | (refine' room3 ?zqhR ?zqcR; (case zqhR => assumption); (case zqcR => exact Nat.le_of_ble_eq_true rfl)) | omega))
  k_with "dec0" => first | exact Nat.le_of_ble_eq_true rfl | decide | walk_at "dep"
  k_with "k_mem" => first | exact .head _ | assumption
  k_with "gon" => repeat' ((fail_if_success (with_reducible show wpAny _ _ (call (Value.ref _) _) _ _ _)); (fail_if_success (with_reducible show WhileStep2 _ _ _ _ _ _ Flow.next _)); (fail_if_success (with_reducible show WhileStep2 _ _ _ _ _ _ Flow.cont _)); (first | (k_unfold; (try dsimp only)) | (k_end; wrow_close) | ((first | (with_reducible show wpAny _ _ (exec _ _) _ _ _) | (with_reducible show wpAny _ _ (execs _ _) _ _ _)); k_fold; (try (refine foldS ?_; intro Sx))) | walk1 | (dsimp only; walk1) | (leave1; walk_say "STEP leave1"; try dsimp only)))
  trivial
end Mine
set_option maxRecDepth 100000 in
set_option maxHeartbeats 8000000 in
theorem PySem.Challenge.cw_pc0176_01_holds : PySem.Challenge.rw_pc0176_01.Holds := by
  w_on
  refine holds_law Mine.law_said fun said => ?_
  refine holds_open (r := PySem.Challenge.rw_pc0176_01.row) (q := q0) (loose := loose0) (Xt := fun s => xlAt q0 [] s && recOk [] s) (XP := XL q0 []) (Yf := Hook.obs (kmHook KK as0 as0_eq [576])) (Ya := Hook.val (kmHook KK as0 as0_eq [576])) (YP := Hook.says (kmHook KK as0 as0_eq [576])) (N := 7800) left0 (Hook.of _) (Hook.keeps _) (fun s e => xl_of s (Bool.and_eq_true_iff.mp e).1) XL.keeps (by rfl) (by rfl) (by rfl) (fun s e => recFacts_of (Bool.and_eq_true_iff.mp e).2) (by rfl) (by assumption) (by decide +kernel) ⟨rfl, rfl, rfl, rfl, rfl, by decide +kernel⟩ ?hw ?hc
  case hw => w_witness2
  w_strict (k_go0; (all_goals try k_fold); (rename IntsAre _ _ => hI0; rename Heap.IsList _ _ _ => hL0; rename ¬ (_ < _) => hc0; rename CodeHd _ _ _ => hC0; have hC1 : HCd _ := hC0; clear hC0); (conv in execs _ _ => arg 1; whnf); walk_at "gon"; (k_dflt (refine' draws_C ?B ?F ?X ?N ?T ?hk ?d ?u hL0 hI0 (zz_len hc0) ?_; (case N => k_asm); (case B => k_asm); (case F => k_asm); (case X => k_asm); (case T => k_asm); (case hk => exact rfl); (case d => walk_at "dec0"); (case u => walk_at "dec0"))); (intro h1 tk1 d1 od1 g1 tg1 x1 tx1 hg1 hx1 hdd1 F1 N1 off1); (have hdd2 : DrO _ _ od1 g1 tg1 x1 tx1 := hdd1; clear hdd1); walk_at "gon"; (k_dflt (refine' kept_C ?B ?F ?X ?N (zz_ap off1) hdd2 ?T ?hk ?d ?u hg1 hx1 ?_; (case N => k_asm); (case B => k_asm); (case F => k_asm); (case X => k_asm); (case T => k_asm); (case hk => exact rfl); (case d => walk_at "dec0"); (case u => walk_at "dec0"))); (intro h2 tk2 od2 g2 tg2 x2 tx2 G2 hg2 hx2 hdd3' F2 N2 ap2); (have hdd3 : DrO _ _ od2 g2 tg2 x2 tx2 := hdd3'; clear hdd3' hdd2); (replace N2 := zz_nw N2; replace ap2 := zz_ap2 ap2); walk_at "gon"; (k_dflt (refine' names_C ?B ?F ?X hC1 ?N ap2 hdd3 ?T ?hk ?d ?u hg2 hx2 ?_; (case N => k_asm); (case B => k_asm); (case F => k_asm); (case X => k_asm); (case T => k_asm); (case hk => exact rfl); (case d => walk_at "dec0"); (case u => walk_at "dec0"))); (intro h3 tk3 ps3 G3 F3 N3); clear hdd3; walk_at "gon")
