import PyProof.Rows.All
import Wide.All
import OpenK.AllK
import Wide.FinOn
import KE.KStateDown
import HandS.ForMost
import HandS.Flow
import HandS.Style
import HandS.More
import HandS.Codes
import HandS.Conv
import HandS.NoneIn
import HandS.IsInst
import HandS.SetKeys
import HandS.DictComp
import HandS.Zip
import HandS.Wide
import HandS.TupAny
import HandS.Walk
import HandS.Defaults
import HandS.Head0
import HandS.Head1
import HandS.Head2
import HandS.HeadEnd
import HandS.HeadHook1
import HandS.HeadHook2
import HandS.HeadHook3
import HandS.HeadHook4
import PySem.Challenge.RW_juststeps_k47_whole_runs_of_the_machine
import KE.GoesEnum
set_option Elab.async false
set_option linter.all false
set_option maxRecDepth 100000
set_option maxHeartbeats 4000000
namespace K47
open PySem PySem.Spec PyProof.Rows L2
abbrev PW : Program := PySem.Challenge.pw_juststeps_k47_whole_runs_of_the_machine
def top (i : Nat) : Stmt := PW.main.body.getD i (.Pass ⟨0, 0, 0, 0⟩)
abbrev s_is_int : Stmt := top 16
abbrev s_within : Stmt := top 17
abbrev s_is_name : Stmt := top 18
abbrev s_is_low : Stmt := top 19
abbrev s_is_high : Stmt := top 20
abbrev s_is_kind_name : Stmt := top 21
abbrev s_is_tuple : Stmt := top 26
abbrev s_is_maker : Stmt := top 27
abbrev s_are_kinds : Stmt := top 28
abbrev s_kinds_fault : Stmt := top 29
abbrev s_maker_table : Stmt := top 36
abbrev s_makers_of : Stmt := top 37
abbrev s_end_fits : Stmt := top 39
abbrev s_rows_fit : Stmt := top 41
abbrev s_is_head : Stmt := top 42
abbrev s_is_core : Stmt := top 43
abbrev s_need_core : Stmt := top 44
abbrev s_place_of : Stmt := top 45
abbrev s_is_part : Stmt := top 51
abbrev s_is_instruction : Stmt := top 52
abbrev s_start_names : Stmt := top 54
abbrev s_is_image : Stmt := top 55
abbrev s_need_image : Stmt := top 56
abbrev s_same_names : Stmt := top 57
abbrev s_need_fit : Stmt := top 58
abbrev s_lay_words : Stmt := top 61
abbrev s_lay : Stmt := top 62
abbrev s_read_value : Stmt := top 63
abbrev s_take_words : Stmt := top 66
abbrev s_is_words : Stmt := top 67
abbrev s_need_args : Stmt := top 68
abbrev s_need_limit : Stmt := top 70
abbrev s_made_machine : Stmt := top 77
abbrev s_run_image : Stmt := top 78
abbrev s_trace_image : Stmt := top 79
abbrev s_law_well : Stmt := top 81
abbrev s_law_draw : Stmt := top 82
abbrev s_law_names : Stmt := top 83
abbrev s_law_highs : Stmt := top 84
abbrev s_law_kinds : Stmt := top 85
abbrev s_law_makers : Stmt := top 86
abbrev s_law_number : Stmt := top 87
abbrev s_law_value : Stmt := top 88
abbrev s_law_same : Stmt := top 89
abbrev s_law_straight : Stmt := top 90
abbrev s_law_frame : Stmt := top 91
abbrev s_law_turn : Stmt := top 92
abbrev s_law_run : Stmt := top 93
abbrev s_law_lay : Stmt := top 94
abbrev s_law_told : Stmt := top 95
abbrev s_law_near : Stmt := top 96
abbrev s_law_row : Stmt := top 97
abbrev s_law_mended : Stmt := top 98
abbrev s_law_due : Stmt := top 99
abbrev s_law_drawn : Stmt := top 100
abbrev s_law_right : Stmt := top 101
abbrev s_law_long_right : Stmt := top 102
abbrev s_law : Stmt := top 103
abbrev s_Reach_init : Stmt := inClass (top 35) 0
abbrev s_Reach_bind : Stmt := inClass (top 35) 1
abbrev s_Reach_has : Stmt := inClass (top 35) 3
abbrev s_Reach_has_all : Stmt := inClass (top 35) 4
abbrev s_Machine_init : Stmt := inClass (top 76) 0
abbrev s_Machine_raise_top : Stmt := inClass (top 76) 1
abbrev s_Machine_by_registers : Stmt := inClass (top 76) 2
abbrev s_Machine_by_heap : Stmt := inClass (top 76) 3
abbrev s_Machine_by_stack : Stmt := inClass (top 76) 4
abbrev s_Machine_by_way : Stmt := inClass (top 76) 5
abbrev s_Machine_done : Stmt := inClass (top 76) 6
abbrev s_Machine_run : Stmt := inClass (top 76) 7
/-- one def of the text -/
def dd (at_ : Str × Option Str) (x qual : Str) (s : Stmt) : He.DefD := ⟨at_, x, qual, defArgs s, defBody s, defScope s, [], []⟩
def ds_is_int : He.DefD := dd ("is_int", none) "is_int" "is_int" s_is_int
def ds_within : He.DefD := dd ("within", none) "within" "within" s_within
def ds_is_name : He.DefD := dd ("is_name", none) "is_name" "is_name" s_is_name
def ds_is_low : He.DefD := dd ("is_low", none) "is_low" "is_low" s_is_low
def ds_is_high : He.DefD := dd ("is_high", none) "is_high" "is_high" s_is_high
def ds_is_kind_name : He.DefD := dd ("is_kind_name", none) "is_kind_name" "is_kind_name" s_is_kind_name
def ds_is_tuple : He.DefD := dd ("is_tuple", none) "is_tuple" "is_tuple" s_is_tuple
def ds_is_maker : He.DefD := dd ("is_maker", none) "is_maker" "is_maker" s_is_maker
def ds_are_kinds : He.DefD := dd ("are_kinds", none) "are_kinds" "are_kinds" s_are_kinds
def ds_kinds_fault : He.DefD := dd ("kinds_fault", none) "kinds_fault" "kinds_fault" s_kinds_fault
def ds_maker_table : He.DefD := dd ("maker_table", none) "maker_table" "maker_table" s_maker_table
def ds_makers_of : He.DefD := dd ("makers_of", none) "makers_of" "makers_of" s_makers_of
def ds_end_fits : He.DefD := dd ("end_fits", none) "end_fits" "end_fits" s_end_fits
def ds_rows_fit : He.DefD := dd ("rows_fit", none) "rows_fit" "rows_fit" s_rows_fit
def ds_is_head : He.DefD := dd ("is_head", none) "is_head" "is_head" s_is_head
def ds_is_core : He.DefD := dd ("is_core", none) "is_core" "is_core" s_is_core
def ds_need_core : He.DefD := dd ("need_core", none) "need_core" "need_core" s_need_core
def ds_place_of : He.DefD := dd ("place_of", none) "place_of" "place_of" s_place_of
def ds_is_part : He.DefD := dd ("is_part", none) "is_part" "is_part" s_is_part
def ds_is_instruction : He.DefD := dd ("is_instruction", none) "is_instruction" "is_instruction" s_is_instruction
def ds_start_names : He.DefD := dd ("start_names", none) "start_names" "start_names" s_start_names
def ds_is_image : He.DefD := dd ("is_image", none) "is_image" "is_image" s_is_image
def ds_need_image : He.DefD := dd ("need_image", none) "need_image" "need_image" s_need_image
def ds_same_names : He.DefD := dd ("same_names", none) "same_names" "same_names" s_same_names
def ds_need_fit : He.DefD := dd ("need_fit", none) "need_fit" "need_fit" s_need_fit
def ds_lay_words : He.DefD := dd ("lay_words", none) "lay_words" "lay_words" s_lay_words
def ds_lay : He.DefD := dd ("lay", none) "lay" "lay" s_lay
def ds_read_value : He.DefD := dd ("read_value", none) "read_value" "read_value" s_read_value
def ds_take_words : He.DefD := dd ("take_words", none) "take_words" "take_words" s_take_words
def ds_is_words : He.DefD := dd ("is_words", none) "is_words" "is_words" s_is_words
def ds_need_args : He.DefD := dd ("need_args", none) "need_args" "need_args" s_need_args
def ds_need_limit : He.DefD := dd ("need_limit", none) "need_limit" "need_limit" s_need_limit
def ds_made_machine : He.DefD := dd ("made_machine", none) "made_machine" "made_machine" s_made_machine
def ds_run_image : He.DefD := dd ("run_image", none) "run_image" "run_image" s_run_image
def ds_trace_image : He.DefD := dd ("trace_image", none) "trace_image" "trace_image" s_trace_image
def ds_law_well : He.DefD := dd ("_law_well", none) "_law_well" "_law_well" s_law_well
def ds_law_draw : He.DefD := dd ("_law_draw", none) "_law_draw" "_law_draw" s_law_draw
def ds_law_names : He.DefD := dd ("_law_names", none) "_law_names" "_law_names" s_law_names
def ds_law_highs : He.DefD := dd ("_law_highs", none) "_law_highs" "_law_highs" s_law_highs
def ds_law_kinds : He.DefD := dd ("_law_kinds", none) "_law_kinds" "_law_kinds" s_law_kinds
def ds_law_makers : He.DefD := dd ("_law_makers", none) "_law_makers" "_law_makers" s_law_makers
def ds_law_number : He.DefD := dd ("_law_number", none) "_law_number" "_law_number" s_law_number
def ds_law_value : He.DefD := dd ("_law_value", none) "_law_value" "_law_value" s_law_value
def ds_law_same : He.DefD := dd ("_law_same", none) "_law_same" "_law_same" s_law_same
def ds_law_straight : He.DefD := dd ("_law_straight", none) "_law_straight" "_law_straight" s_law_straight
def ds_law_frame : He.DefD := dd ("_law_frame", none) "_law_frame" "_law_frame" s_law_frame
def ds_law_turn : He.DefD := dd ("_law_turn", none) "_law_turn" "_law_turn" s_law_turn
def ds_law_run : He.DefD := dd ("_law_run", none) "_law_run" "_law_run" s_law_run
def ds_law_lay : He.DefD := dd ("_law_lay", none) "_law_lay" "_law_lay" s_law_lay
def ds_law_told : He.DefD := dd ("_law_told", none) "_law_told" "_law_told" s_law_told
def ds_law_near : He.DefD := dd ("_law_near", none) "_law_near" "_law_near" s_law_near
def ds_law_row : He.DefD := dd ("_law_row", none) "_law_row" "_law_row" s_law_row
def ds_law_mended : He.DefD := dd ("_law_mended", none) "_law_mended" "_law_mended" s_law_mended
def ds_law_due : He.DefD := dd ("_law_due", none) "_law_due" "_law_due" s_law_due
def ds_law_drawn : He.DefD := dd ("_law_drawn", none) "_law_drawn" "_law_drawn" s_law_drawn
def ds_law_right : He.DefD := dd ("_law_right", none) "_law_right" "_law_right" s_law_right
def ds_law_long_right : He.DefD := dd ("_law_long_right", none) "_law_long_right" "_law_long_right" s_law_long_right
def ds_law : He.DefD := dd ("law", none) "law" "law" s_law
def ds_Reach_init : He.DefD := dd ("Reach", some "__init__") "__init__" "Reach.__init__" s_Reach_init
def ds_Reach_bind : He.DefD := dd ("Reach", some "bind") "bind" "Reach.bind" s_Reach_bind
def ds_Reach_has : He.DefD := dd ("Reach", some "has") "has" "Reach.has" s_Reach_has
def ds_Reach_has_all : He.DefD := dd ("Reach", some "has_all") "has_all" "Reach.has_all" s_Reach_has_all
def ds_Machine_init : He.DefD := dd ("Machine", some "__init__") "__init__" "Machine.__init__" s_Machine_init
def ds_Machine_raise_top : He.DefD := dd ("Machine", some "raise_top") "raise_top" "Machine.raise_top" s_Machine_raise_top
def ds_Machine_by_registers : He.DefD := dd ("Machine", some "by_registers") "by_registers" "Machine.by_registers" s_Machine_by_registers
def ds_Machine_by_heap : He.DefD := dd ("Machine", some "by_heap") "by_heap" "Machine.by_heap" s_Machine_by_heap
def ds_Machine_by_stack : He.DefD := dd ("Machine", some "by_stack") "by_stack" "Machine.by_stack" s_Machine_by_stack
def ds_Machine_by_way : He.DefD := dd ("Machine", some "by_way") "by_way" "Machine.by_way" s_Machine_by_way
def ds_Machine_done : He.DefD := dd ("Machine", some "done") "done" "Machine.done" s_Machine_done
def ds_Machine_run : He.DefD := dd ("Machine", some "run") "run" "Machine.run" s_Machine_run
def fn1 : List He.DefD := [ds_is_int, ds_within, ds_is_name, ds_is_low, ds_is_high, ds_is_kind_name, ds_is_tuple, ds_is_maker, ds_are_kinds, ds_kinds_fault, ds_maker_table, ds_makers_of, ds_end_fits, ds_rows_fit, ds_is_head, ds_is_core, ds_need_core, ds_place_of, ds_is_part, ds_is_instruction, ds_start_names, ds_is_image, ds_need_image, ds_same_names, ds_need_fit, ds_lay_words, ds_lay, ds_read_value, ds_take_words, ds_is_words, ds_need_args, ds_need_limit, ds_made_machine, ds_run_image, ds_trace_image]
def fn2 : List He.DefD := [ds_law_well, ds_law_draw, ds_law_names, ds_law_highs, ds_law_kinds, ds_law_makers, ds_law_number, ds_law_value, ds_law_same, ds_law_straight, ds_law_frame, ds_law_turn, ds_law_run, ds_law_lay, ds_law_told, ds_law_near, ds_law_row, ds_law_mended, ds_law_due, ds_law_drawn, ds_law_right, ds_law_long_right, ds_law, ds_Reach_init, ds_Reach_bind, ds_Reach_has, ds_Reach_has_all, ds_Machine_init, ds_Machine_raise_top, ds_Machine_by_registers, ds_Machine_by_heap, ds_Machine_by_stack, ds_Machine_by_way, ds_Machine_done, ds_Machine_run]
def fn : List He.DefD := fn1 ++ fn2
def fa1 : List He.Fa := [.glo "is_int", .glo "within", .glo "is_name", .glo "is_low", .glo "is_high", .glo "is_kind_name", .glo "is_tuple", .glo "is_maker", .glo "are_kinds", .glo "kinds_fault", .glo "maker_table", .glo "makers_of", .glo "end_fits", .glo "rows_fit", .glo "is_head", .glo "is_core", .glo "need_core", .glo "place_of", .glo "is_part", .glo "is_instruction", .glo "start_names", .glo "is_image", .glo "need_image", .glo "same_names", .glo "need_fit", .glo "lay_words", .glo "lay", .glo "read_value", .glo "take_words", .glo "is_words", .glo "need_args", .glo "need_limit", .glo "made_machine", .glo "run_image", .glo "trace_image"]
def fa2 : List He.Fa := [.glo "_law_well", .glo "_law_draw", .glo "_law_names", .glo "_law_highs", .glo "_law_kinds", .glo "_law_makers", .glo "_law_number", .glo "_law_value", .glo "_law_same", .glo "_law_straight", .glo "_law_frame", .glo "_law_turn", .glo "_law_run", .glo "_law_lay", .glo "_law_told", .glo "_law_near", .glo "_law_row", .glo "_law_mended", .glo "_law_due", .glo "_law_drawn", .glo "_law_right", .glo "_law_long_right", .glo "law"]
def fa3 : List He.Fa := [.free "len", .free "isinstance", .free "int", .free "bool", .free "str", .free "tuple", .free "list", .free "range", .free "enumerate", .free "zip", .free "all", .free "set", .free "abs", .free "sum", .free "max", .free "min", .int "LONGEST_NAME" 10, .int "GREATEST_NUMBER" 1000000000000, .int "GREATEST_FACTOR" 1000000, .int "MOST_KINDS" 8, .int "MOST_MAKERS" 8, .int "MOST_FIELDS" 5, .int "MOST_FUNCTIONS" 12, .int "MOST_PARAMS" 6, .int "MOST_ROWS" 240, .int "GREATEST_VARIABLE" 399, .int "MOST_CODE" 60000, .int "MOST_STARTS" 12, .int "MOST_WORDS" 4000, .int "MOST_GIVEN" 400, .int "MOST_STEPS" 1000000]
def fa4 : List He.Fa := [.str "LETTERS" "abcdefghijklmnopqrstuvwxyzABCDEFGHIJKLMNOPQRSTUVWXYZ", .str "SMALL" "abcdefghijklmnopqrstuvwxyz", .str "DIGITS" "0123456789", .glo "WORDS", .glo "WAYS", .glo "STACK_WORDS", .glo "HEAP_WORDS", .glo "FORMS", .glo "BOUNDS", .glo "Reach", .glo "Machine"]
def fa5 : List He.Fa := [.cls "Reach", .cls "Machine", .mkr "Reach", .mkr "Machine", .noat "Reach" "kinds", .noat "Reach" "line", .noat "Reach" "bound", .noat "Machine" "starts", .noat "Machine" "code", .noat "Machine" "registers", .noat "Machine" "heap", .noat "Machine" "stack", .noat "Machine" "passed", .noat "Machine" "over", .noat "Machine" "steps", .noat "Machine" "words", .noat "Machine" "top"]
def fa6 : List He.Fa := [.meth "Reach" "bind", .meth "Reach" "has", .meth "Reach" "has_all", .meth "Machine" "raise_top", .meth "Machine" "by_registers", .meth "Machine" "by_heap", .meth "Machine" "by_stack", .meth "Machine" "by_way", .meth "Machine" "done", .meth "Machine" "run"]
def fa : List He.Fa := fa1 ++ (fa2 ++ (fa3 ++ (fa4 ++ (fa5 ++ (fa6)))))
def ts : List He.Tab := [(fun K => He.ga K "FORMS", ["set", "copy", "add", "sub", "times", "new", "put", "take", "push", "drop", "save", "load", "less", "table", "jump", "call", "go", "return"]), (fun K => He.ga K "BOUNDS", ["r", "n", "m", "w", "c", "o", "i"])]
def forms : List (Str × He.Dv) := [("set", .str "rn"), ("copy", .str "rr"), ("add", .str "rrr"), ("sub", .str "rrr"), ("times", .str "rrm"), ("new", .str "rw"), ("put", .str "ror"), ("take", .str "rro"), ("push", .str "c"), ("drop", .str "c"), ("save", .str "ir"), ("load", .str "ri"), ("less", .str "rrj"), ("table", .str "rt"), ("jump", .str "j"), ("call", .str "f"), ("go", .str "f"), ("return", .str "")]
def bounds : List (Str × Int × Int) := [("r", 0, 7), ("n", -1000000000000, 1000000000000), ("m", -1000000, 1000000), ("w", 1, 64), ("c", 0, 400), ("o", 0, 63), ("i", 0, 399)]
def l_WORDS : List Str := ["def", "else", "give", "if", "kind", "let", "match", "whole"]
def l_WAYS : List Str := ["less", "table", "jump", "call", "go", "return"]
def l_STACK_WORDS : List Str := ["push", "drop", "save", "load"]
def l_HEAP_WORDS : List Str := ["new", "put", "take"]
def dstr (l : List Str) : List He.Dv := l.map He.Dv.str
/-- the pair at a key of BOUNDS -/
def bndB (K : PySem.W.Frag) (p : Str × Int × Int) : Bool := match PySem.W.nsIn K (He.ga K "BOUNDS") p.1 with
  | some (some (.ref a)) => (match K.lookup a with
    | some ⟨.type c, _, .seq its _, _⟩ => decide (c = "tuple") && (decide (its.size ≤ sizeLine) && He.relAll [.int p.2.1, .int p.2.2] its.toList)
    | _ => false)
  | _ => false
def ex (K : PySem.W.Frag) : Bool := He.tupB K "WORDS" (dstr l_WORDS) && (He.tupB K "WAYS" (dstr l_WAYS) && (He.tupB K "STACK_WORDS" (dstr l_STACK_WORDS) && (He.tupB K "HEAP_WORDS" (dstr l_HEAP_WORDS) && (He.valsB K (He.ga K "FORMS") forms && bounds.all (bndB K)))))
/-- all that the walks ask of the top: what stands in the written part K under which names -/
structure Txt (w : World) (K : PySem.W.Frag) (mg : Str → Option Value) : Prop where
  mk :: (more : ∃ h : Heap, K.In h ∧ h.Ns mainGlobals mg ∧ He.SaysT fa fn ts w K ∧ ex K = true)
section
variable {w : World} {K : PySem.W.Frag} {mg : Str → Option Value}
theorem Txt.fact (T : Txt w K mg) {f : He.Fa} (i : Nat) (h : fa[i]? = some f) : f.ok K = true := by
  obtain ⟨_, _, _, c, _⟩ := T.more
  exact c.d.fact i h
theorem Txt.gl (T : Txt w K mg) {x : Str} (i : Nat) (h : fa[i]? = some (.glo x)) : mg x = some (.ref (He.ga K x)) := by
  obtain ⟨_, X, G, c, _⟩ := T.more
  exact He.glo_ok X G (c.d.fact i h)
theorem Txt.fr (T : Txt w K mg) {x : Str} (i : Nat) (h : fa[i]? = some (.free x)) : mg x = none := by
  obtain ⟨_, X, G, c, _⟩ := T.more
  exact He.free_ok X G (c.d.fact i h)
theorem Txt.intc (T : Txt w K mg) {x : Str} {n : Int} (i : Nat) (h : fa[i]? = some (.int x n)) : ∃ u, mg x = some u ∧ RelV (.int n) u := by
  obtain ⟨_, X, G, c, _⟩ := T.more
  obtain ⟨t, e⟩ := He.int_ok X G (c.d.fact i h)
  exact ⟨_, e, t, rfl⟩
theorem Txt.strc (T : Txt w K mg) {x z : Str} (i : Nat) (h : fa[i]? = some (.str x z)) : ∃ u, mg x = some u ∧ RelV (.str z) u := by
  obtain ⟨_, X, G, c, _⟩ := T.more
  obtain ⟨t, e⟩ := He.str_ok X G (c.d.fact i h)
  exact ⟨_, e, t, rfl⟩
theorem Txt.objc (T : Txt w K mg) {x : Str} (i : Nat) (h : fa[i]? = some (.glo x)) : ∃ u, mg x = some u ∧ RelV (.ref (He.ga K x)) u := ⟨_, T.gl i h, rfl⟩
theorem Txt.def_ (T : Txt w K mg) {d : He.DefD} (i : Nat) (h : fn[i]? = some d) : ∃ fd, FunD K d.name d.qual d.params d.body d.scope (d.dvs K) (d.kws K) (He.fAd K d.at_) fd := by
  obtain ⟨_, _, _, c, _⟩ := T.more
  exact c.d.def_ i h
end
/-- a def of the text with no default -/
abbrev FnP (K : PySem.W.Frag) (x qual : Str) (s : Stmt) (f : Addr) (fd : FuncData) : Prop := FunD K x qual (defArgs s) (defBody s) (defScope s) [] [] f fd
section
variable {w : World} {K : PySem.W.Frag} {mg : Str → Option Value}
theorem Txt.m_is_int (T : Txt w K mg) : mg "is_int" = some (.ref (He.ga K "is_int")) := T.gl 0 rfl
theorem Txt.m_within (T : Txt w K mg) : mg "within" = some (.ref (He.ga K "within")) := T.gl 1 rfl
theorem Txt.m_is_name (T : Txt w K mg) : mg "is_name" = some (.ref (He.ga K "is_name")) := T.gl 2 rfl
theorem Txt.m_is_low (T : Txt w K mg) : mg "is_low" = some (.ref (He.ga K "is_low")) := T.gl 3 rfl
theorem Txt.m_is_high (T : Txt w K mg) : mg "is_high" = some (.ref (He.ga K "is_high")) := T.gl 4 rfl
theorem Txt.m_is_kind_name (T : Txt w K mg) : mg "is_kind_name" = some (.ref (He.ga K "is_kind_name")) := T.gl 5 rfl
theorem Txt.m_is_tuple (T : Txt w K mg) : mg "is_tuple" = some (.ref (He.ga K "is_tuple")) := T.gl 6 rfl
theorem Txt.m_is_maker (T : Txt w K mg) : mg "is_maker" = some (.ref (He.ga K "is_maker")) := T.gl 7 rfl
theorem Txt.m_are_kinds (T : Txt w K mg) : mg "are_kinds" = some (.ref (He.ga K "are_kinds")) := T.gl 8 rfl
theorem Txt.m_kinds_fault (T : Txt w K mg) : mg "kinds_fault" = some (.ref (He.ga K "kinds_fault")) := T.gl 9 rfl
theorem Txt.m_maker_table (T : Txt w K mg) : mg "maker_table" = some (.ref (He.ga K "maker_table")) := T.gl 10 rfl
theorem Txt.m_makers_of (T : Txt w K mg) : mg "makers_of" = some (.ref (He.ga K "makers_of")) := T.gl 11 rfl
theorem Txt.m_end_fits (T : Txt w K mg) : mg "end_fits" = some (.ref (He.ga K "end_fits")) := T.gl 12 rfl
theorem Txt.m_rows_fit (T : Txt w K mg) : mg "rows_fit" = some (.ref (He.ga K "rows_fit")) := T.gl 13 rfl
theorem Txt.m_is_head (T : Txt w K mg) : mg "is_head" = some (.ref (He.ga K "is_head")) := T.gl 14 rfl
theorem Txt.m_is_core (T : Txt w K mg) : mg "is_core" = some (.ref (He.ga K "is_core")) := T.gl 15 rfl
theorem Txt.m_need_core (T : Txt w K mg) : mg "need_core" = some (.ref (He.ga K "need_core")) := T.gl 16 rfl
theorem Txt.m_place_of (T : Txt w K mg) : mg "place_of" = some (.ref (He.ga K "place_of")) := T.gl 17 rfl
theorem Txt.m_is_part (T : Txt w K mg) : mg "is_part" = some (.ref (He.ga K "is_part")) := T.gl 18 rfl
theorem Txt.m_is_instruction (T : Txt w K mg) : mg "is_instruction" = some (.ref (He.ga K "is_instruction")) := T.gl 19 rfl
theorem Txt.m_start_names (T : Txt w K mg) : mg "start_names" = some (.ref (He.ga K "start_names")) := T.gl 20 rfl
theorem Txt.m_is_image (T : Txt w K mg) : mg "is_image" = some (.ref (He.ga K "is_image")) := T.gl 21 rfl
theorem Txt.m_need_image (T : Txt w K mg) : mg "need_image" = some (.ref (He.ga K "need_image")) := T.gl 22 rfl
theorem Txt.m_same_names (T : Txt w K mg) : mg "same_names" = some (.ref (He.ga K "same_names")) := T.gl 23 rfl
theorem Txt.m_need_fit (T : Txt w K mg) : mg "need_fit" = some (.ref (He.ga K "need_fit")) := T.gl 24 rfl
theorem Txt.m_lay_words (T : Txt w K mg) : mg "lay_words" = some (.ref (He.ga K "lay_words")) := T.gl 25 rfl
theorem Txt.m_lay (T : Txt w K mg) : mg "lay" = some (.ref (He.ga K "lay")) := T.gl 26 rfl
theorem Txt.m_read_value (T : Txt w K mg) : mg "read_value" = some (.ref (He.ga K "read_value")) := T.gl 27 rfl
theorem Txt.m_take_words (T : Txt w K mg) : mg "take_words" = some (.ref (He.ga K "take_words")) := T.gl 28 rfl
theorem Txt.m_is_words (T : Txt w K mg) : mg "is_words" = some (.ref (He.ga K "is_words")) := T.gl 29 rfl
theorem Txt.m_need_args (T : Txt w K mg) : mg "need_args" = some (.ref (He.ga K "need_args")) := T.gl 30 rfl
theorem Txt.m_need_limit (T : Txt w K mg) : mg "need_limit" = some (.ref (He.ga K "need_limit")) := T.gl 31 rfl
theorem Txt.m_made_machine (T : Txt w K mg) : mg "made_machine" = some (.ref (He.ga K "made_machine")) := T.gl 32 rfl
theorem Txt.m_run_image (T : Txt w K mg) : mg "run_image" = some (.ref (He.ga K "run_image")) := T.gl 33 rfl
theorem Txt.m_trace_image (T : Txt w K mg) : mg "trace_image" = some (.ref (He.ga K "trace_image")) := T.gl 34 rfl
theorem Txt.m_law_well (T : Txt w K mg) : mg "_law_well" = some (.ref (He.ga K "_law_well")) := T.gl 35 rfl
theorem Txt.m_law_draw (T : Txt w K mg) : mg "_law_draw" = some (.ref (He.ga K "_law_draw")) := T.gl 36 rfl
theorem Txt.m_law_names (T : Txt w K mg) : mg "_law_names" = some (.ref (He.ga K "_law_names")) := T.gl 37 rfl
theorem Txt.m_law_highs (T : Txt w K mg) : mg "_law_highs" = some (.ref (He.ga K "_law_highs")) := T.gl 38 rfl
theorem Txt.m_law_kinds (T : Txt w K mg) : mg "_law_kinds" = some (.ref (He.ga K "_law_kinds")) := T.gl 39 rfl
theorem Txt.m_law_makers (T : Txt w K mg) : mg "_law_makers" = some (.ref (He.ga K "_law_makers")) := T.gl 40 rfl
theorem Txt.m_law_number (T : Txt w K mg) : mg "_law_number" = some (.ref (He.ga K "_law_number")) := T.gl 41 rfl
theorem Txt.m_law_value (T : Txt w K mg) : mg "_law_value" = some (.ref (He.ga K "_law_value")) := T.gl 42 rfl
theorem Txt.m_law_same (T : Txt w K mg) : mg "_law_same" = some (.ref (He.ga K "_law_same")) := T.gl 43 rfl
theorem Txt.m_law_straight (T : Txt w K mg) : mg "_law_straight" = some (.ref (He.ga K "_law_straight")) := T.gl 44 rfl
theorem Txt.m_law_frame (T : Txt w K mg) : mg "_law_frame" = some (.ref (He.ga K "_law_frame")) := T.gl 45 rfl
theorem Txt.m_law_turn (T : Txt w K mg) : mg "_law_turn" = some (.ref (He.ga K "_law_turn")) := T.gl 46 rfl
theorem Txt.m_law_run (T : Txt w K mg) : mg "_law_run" = some (.ref (He.ga K "_law_run")) := T.gl 47 rfl
theorem Txt.m_law_lay (T : Txt w K mg) : mg "_law_lay" = some (.ref (He.ga K "_law_lay")) := T.gl 48 rfl
theorem Txt.m_law_told (T : Txt w K mg) : mg "_law_told" = some (.ref (He.ga K "_law_told")) := T.gl 49 rfl
theorem Txt.m_law_near (T : Txt w K mg) : mg "_law_near" = some (.ref (He.ga K "_law_near")) := T.gl 50 rfl
theorem Txt.m_law_row (T : Txt w K mg) : mg "_law_row" = some (.ref (He.ga K "_law_row")) := T.gl 51 rfl
theorem Txt.m_law_mended (T : Txt w K mg) : mg "_law_mended" = some (.ref (He.ga K "_law_mended")) := T.gl 52 rfl
theorem Txt.m_law_due (T : Txt w K mg) : mg "_law_due" = some (.ref (He.ga K "_law_due")) := T.gl 53 rfl
theorem Txt.m_law_drawn (T : Txt w K mg) : mg "_law_drawn" = some (.ref (He.ga K "_law_drawn")) := T.gl 54 rfl
theorem Txt.m_law_right (T : Txt w K mg) : mg "_law_right" = some (.ref (He.ga K "_law_right")) := T.gl 55 rfl
theorem Txt.m_law_long_right (T : Txt w K mg) : mg "_law_long_right" = some (.ref (He.ga K "_law_long_right")) := T.gl 56 rfl
theorem Txt.m_law (T : Txt w K mg) : mg "law" = some (.ref (He.ga K "law")) := T.gl 57 rfl
theorem Txt.b_len (T : Txt w K mg) : mg "len" = none := T.fr 58 rfl
theorem Txt.b_isinstance (T : Txt w K mg) : mg "isinstance" = none := T.fr 59 rfl
theorem Txt.b_int (T : Txt w K mg) : mg "int" = none := T.fr 60 rfl
theorem Txt.b_bool (T : Txt w K mg) : mg "bool" = none := T.fr 61 rfl
theorem Txt.b_str (T : Txt w K mg) : mg "str" = none := T.fr 62 rfl
theorem Txt.b_tuple (T : Txt w K mg) : mg "tuple" = none := T.fr 63 rfl
theorem Txt.b_list (T : Txt w K mg) : mg "list" = none := T.fr 64 rfl
theorem Txt.b_range (T : Txt w K mg) : mg "range" = none := T.fr 65 rfl
theorem Txt.b_enumerate (T : Txt w K mg) : mg "enumerate" = none := T.fr 66 rfl
theorem Txt.b_zip (T : Txt w K mg) : mg "zip" = none := T.fr 67 rfl
theorem Txt.b_all (T : Txt w K mg) : mg "all" = none := T.fr 68 rfl
theorem Txt.b_set (T : Txt w K mg) : mg "set" = none := T.fr 69 rfl
theorem Txt.b_abs (T : Txt w K mg) : mg "abs" = none := T.fr 70 rfl
theorem Txt.b_sum (T : Txt w K mg) : mg "sum" = none := T.fr 71 rfl
theorem Txt.b_max (T : Txt w K mg) : mg "max" = none := T.fr 72 rfl
theorem Txt.b_min (T : Txt w K mg) : mg "min" = none := T.fr 73 rfl
theorem Txt.g_LONGEST_NAME (T : Txt w K mg) : ∃ u, mg "LONGEST_NAME" = some u ∧ RelV (.int 10) u := T.intc 74 rfl
theorem Txt.g_GREATEST_NUMBER (T : Txt w K mg) : ∃ u, mg "GREATEST_NUMBER" = some u ∧ RelV (.int 1000000000000) u := T.intc 75 rfl
theorem Txt.g_GREATEST_FACTOR (T : Txt w K mg) : ∃ u, mg "GREATEST_FACTOR" = some u ∧ RelV (.int 1000000) u := T.intc 76 rfl
theorem Txt.g_MOST_KINDS (T : Txt w K mg) : ∃ u, mg "MOST_KINDS" = some u ∧ RelV (.int 8) u := T.intc 77 rfl
theorem Txt.g_MOST_MAKERS (T : Txt w K mg) : ∃ u, mg "MOST_MAKERS" = some u ∧ RelV (.int 8) u := T.intc 78 rfl
theorem Txt.g_MOST_FIELDS (T : Txt w K mg) : ∃ u, mg "MOST_FIELDS" = some u ∧ RelV (.int 5) u := T.intc 79 rfl
theorem Txt.g_MOST_FUNCTIONS (T : Txt w K mg) : ∃ u, mg "MOST_FUNCTIONS" = some u ∧ RelV (.int 12) u := T.intc 80 rfl
theorem Txt.g_MOST_PARAMS (T : Txt w K mg) : ∃ u, mg "MOST_PARAMS" = some u ∧ RelV (.int 6) u := T.intc 81 rfl
theorem Txt.g_MOST_ROWS (T : Txt w K mg) : ∃ u, mg "MOST_ROWS" = some u ∧ RelV (.int 240) u := T.intc 82 rfl
theorem Txt.g_GREATEST_VARIABLE (T : Txt w K mg) : ∃ u, mg "GREATEST_VARIABLE" = some u ∧ RelV (.int 399) u := T.intc 83 rfl
theorem Txt.g_MOST_CODE (T : Txt w K mg) : ∃ u, mg "MOST_CODE" = some u ∧ RelV (.int 60000) u := T.intc 84 rfl
theorem Txt.g_MOST_STARTS (T : Txt w K mg) : ∃ u, mg "MOST_STARTS" = some u ∧ RelV (.int 12) u := T.intc 85 rfl
theorem Txt.g_MOST_WORDS (T : Txt w K mg) : ∃ u, mg "MOST_WORDS" = some u ∧ RelV (.int 4000) u := T.intc 86 rfl
theorem Txt.g_MOST_GIVEN (T : Txt w K mg) : ∃ u, mg "MOST_GIVEN" = some u ∧ RelV (.int 400) u := T.intc 87 rfl
theorem Txt.g_MOST_STEPS (T : Txt w K mg) : ∃ u, mg "MOST_STEPS" = some u ∧ RelV (.int 1000000) u := T.intc 88 rfl
theorem Txt.g_LETTERS (T : Txt w K mg) : ∃ u, mg "LETTERS" = some u ∧ RelV (.str "abcdefghijklmnopqrstuvwxyzABCDEFGHIJKLMNOPQRSTUVWXYZ") u := T.strc 89 rfl
theorem Txt.g_SMALL (T : Txt w K mg) : ∃ u, mg "SMALL" = some u ∧ RelV (.str "abcdefghijklmnopqrstuvwxyz") u := T.strc 90 rfl
theorem Txt.g_DIGITS (T : Txt w K mg) : ∃ u, mg "DIGITS" = some u ∧ RelV (.str "0123456789") u := T.strc 91 rfl
theorem Txt.g_WORDS (T : Txt w K mg) : ∃ u, mg "WORDS" = some u ∧ RelV (.ref (He.ga K "WORDS")) u := T.objc 92 rfl
theorem Txt.g_WAYS (T : Txt w K mg) : ∃ u, mg "WAYS" = some u ∧ RelV (.ref (He.ga K "WAYS")) u := T.objc 93 rfl
theorem Txt.g_STACK_WORDS (T : Txt w K mg) : ∃ u, mg "STACK_WORDS" = some u ∧ RelV (.ref (He.ga K "STACK_WORDS")) u := T.objc 94 rfl
theorem Txt.g_HEAP_WORDS (T : Txt w K mg) : ∃ u, mg "HEAP_WORDS" = some u ∧ RelV (.ref (He.ga K "HEAP_WORDS")) u := T.objc 95 rfl
theorem Txt.g_FORMS (T : Txt w K mg) : ∃ u, mg "FORMS" = some u ∧ RelV (.ref (He.ga K "FORMS")) u := T.objc 96 rfl
theorem Txt.g_BOUNDS (T : Txt w K mg) : ∃ u, mg "BOUNDS" = some u ∧ RelV (.ref (He.ga K "BOUNDS")) u := T.objc 97 rfl
theorem Txt.m_Reach (T : Txt w K mg) : mg "Reach" = some (.ref (He.ga K "Reach")) := T.gl 98 rfl
theorem Txt.m_Machine (T : Txt w K mg) : mg "Machine" = some (.ref (He.ga K "Machine")) := T.gl 99 rfl
theorem Txt.c_Reach (T : Txt w K mg) : Cls K (He.ga K "Reach") := He.cls_ok (T.fact 100 rfl)
theorem Txt.c_Machine (T : Txt w K mg) : Cls K (He.ga K "Machine") := He.cls_ok (T.fact 101 rfl)
theorem Txt.k_Reach (T : Txt w K mg) : Mk K (He.ga K "Reach") (He.ma K (He.ga K "Reach") "__init__") := He.mkr_ok (T.fact 102 rfl)
theorem Txt.k_Machine (T : Txt w K mg) : Mk K (He.ga K "Machine") (He.ma K (He.ga K "Machine") "__init__") := He.mkr_ok (T.fact 103 rfl)
theorem Txt.n_Reach_kinds (T : Txt w K mg) : NoAttr K (He.ga K "Reach") "kinds" := He.noat_ok (T.fact 104 rfl)
theorem Txt.n_Reach_line (T : Txt w K mg) : NoAttr K (He.ga K "Reach") "line" := He.noat_ok (T.fact 105 rfl)
theorem Txt.n_Reach_bound (T : Txt w K mg) : NoAttr K (He.ga K "Reach") "bound" := He.noat_ok (T.fact 106 rfl)
theorem Txt.n_Machine_starts (T : Txt w K mg) : NoAttr K (He.ga K "Machine") "starts" := He.noat_ok (T.fact 107 rfl)
theorem Txt.n_Machine_code (T : Txt w K mg) : NoAttr K (He.ga K "Machine") "code" := He.noat_ok (T.fact 108 rfl)
theorem Txt.n_Machine_registers (T : Txt w K mg) : NoAttr K (He.ga K "Machine") "registers" := He.noat_ok (T.fact 109 rfl)
theorem Txt.n_Machine_heap (T : Txt w K mg) : NoAttr K (He.ga K "Machine") "heap" := He.noat_ok (T.fact 110 rfl)
theorem Txt.n_Machine_stack (T : Txt w K mg) : NoAttr K (He.ga K "Machine") "stack" := He.noat_ok (T.fact 111 rfl)
theorem Txt.n_Machine_passed (T : Txt w K mg) : NoAttr K (He.ga K "Machine") "passed" := He.noat_ok (T.fact 112 rfl)
theorem Txt.n_Machine_over (T : Txt w K mg) : NoAttr K (He.ga K "Machine") "over" := He.noat_ok (T.fact 113 rfl)
theorem Txt.n_Machine_steps (T : Txt w K mg) : NoAttr K (He.ga K "Machine") "steps" := He.noat_ok (T.fact 114 rfl)
theorem Txt.n_Machine_words (T : Txt w K mg) : NoAttr K (He.ga K "Machine") "words" := He.noat_ok (T.fact 115 rfl)
theorem Txt.n_Machine_top (T : Txt w K mg) : NoAttr K (He.ga K "Machine") "top" := He.noat_ok (T.fact 116 rfl)
theorem Txt.e_Reach_bind (T : Txt w K mg) : Meth K (He.ga K "Reach") "bind" (He.ma K (He.ga K "Reach") "bind") := He.meth_ok (T.fact 117 rfl)
theorem Txt.e_Reach_has (T : Txt w K mg) : Meth K (He.ga K "Reach") "has" (He.ma K (He.ga K "Reach") "has") := He.meth_ok (T.fact 118 rfl)
theorem Txt.e_Reach_has_all (T : Txt w K mg) : Meth K (He.ga K "Reach") "has_all" (He.ma K (He.ga K "Reach") "has_all") := He.meth_ok (T.fact 119 rfl)
theorem Txt.e_Machine_raise_top (T : Txt w K mg) : Meth K (He.ga K "Machine") "raise_top" (He.ma K (He.ga K "Machine") "raise_top") := He.meth_ok (T.fact 120 rfl)
theorem Txt.e_Machine_by_registers (T : Txt w K mg) : Meth K (He.ga K "Machine") "by_registers" (He.ma K (He.ga K "Machine") "by_registers") := He.meth_ok (T.fact 121 rfl)
theorem Txt.e_Machine_by_heap (T : Txt w K mg) : Meth K (He.ga K "Machine") "by_heap" (He.ma K (He.ga K "Machine") "by_heap") := He.meth_ok (T.fact 122 rfl)
theorem Txt.e_Machine_by_stack (T : Txt w K mg) : Meth K (He.ga K "Machine") "by_stack" (He.ma K (He.ga K "Machine") "by_stack") := He.meth_ok (T.fact 123 rfl)
theorem Txt.e_Machine_by_way (T : Txt w K mg) : Meth K (He.ga K "Machine") "by_way" (He.ma K (He.ga K "Machine") "by_way") := He.meth_ok (T.fact 124 rfl)
theorem Txt.e_Machine_done (T : Txt w K mg) : Meth K (He.ga K "Machine") "done" (He.ma K (He.ga K "Machine") "done") := He.meth_ok (T.fact 125 rfl)
theorem Txt.e_Machine_run (T : Txt w K mg) : Meth K (He.ga K "Machine") "run" (He.ma K (He.ga K "Machine") "run") := He.meth_ok (T.fact 126 rfl)
theorem Txt.f_is_int (T : Txt w K mg) : ∃ fd, FnP K "is_int" "is_int" s_is_int (He.ga K "is_int") fd := T.def_ 0 (d := ds_is_int) rfl
theorem Txt.f_within (T : Txt w K mg) : ∃ fd, FnP K "within" "within" s_within (He.ga K "within") fd := T.def_ 1 (d := ds_within) rfl
theorem Txt.f_is_name (T : Txt w K mg) : ∃ fd, FnP K "is_name" "is_name" s_is_name (He.ga K "is_name") fd := T.def_ 2 (d := ds_is_name) rfl
theorem Txt.f_is_low (T : Txt w K mg) : ∃ fd, FnP K "is_low" "is_low" s_is_low (He.ga K "is_low") fd := T.def_ 3 (d := ds_is_low) rfl
theorem Txt.f_is_high (T : Txt w K mg) : ∃ fd, FnP K "is_high" "is_high" s_is_high (He.ga K "is_high") fd := T.def_ 4 (d := ds_is_high) rfl
theorem Txt.f_is_kind_name (T : Txt w K mg) : ∃ fd, FnP K "is_kind_name" "is_kind_name" s_is_kind_name (He.ga K "is_kind_name") fd := T.def_ 5 (d := ds_is_kind_name) rfl
theorem Txt.f_is_tuple (T : Txt w K mg) : ∃ fd, FnP K "is_tuple" "is_tuple" s_is_tuple (He.ga K "is_tuple") fd := T.def_ 6 (d := ds_is_tuple) rfl
theorem Txt.f_is_maker (T : Txt w K mg) : ∃ fd, FnP K "is_maker" "is_maker" s_is_maker (He.ga K "is_maker") fd := T.def_ 7 (d := ds_is_maker) rfl
theorem Txt.f_are_kinds (T : Txt w K mg) : ∃ fd, FnP K "are_kinds" "are_kinds" s_are_kinds (He.ga K "are_kinds") fd := T.def_ 8 (d := ds_are_kinds) rfl
theorem Txt.f_kinds_fault (T : Txt w K mg) : ∃ fd, FnP K "kinds_fault" "kinds_fault" s_kinds_fault (He.ga K "kinds_fault") fd := T.def_ 9 (d := ds_kinds_fault) rfl
theorem Txt.f_maker_table (T : Txt w K mg) : ∃ fd, FnP K "maker_table" "maker_table" s_maker_table (He.ga K "maker_table") fd := T.def_ 10 (d := ds_maker_table) rfl
theorem Txt.f_makers_of (T : Txt w K mg) : ∃ fd, FnP K "makers_of" "makers_of" s_makers_of (He.ga K "makers_of") fd := T.def_ 11 (d := ds_makers_of) rfl
theorem Txt.f_end_fits (T : Txt w K mg) : ∃ fd, FnP K "end_fits" "end_fits" s_end_fits (He.ga K "end_fits") fd := T.def_ 12 (d := ds_end_fits) rfl
theorem Txt.f_rows_fit (T : Txt w K mg) : ∃ fd, FnP K "rows_fit" "rows_fit" s_rows_fit (He.ga K "rows_fit") fd := T.def_ 13 (d := ds_rows_fit) rfl
theorem Txt.f_is_head (T : Txt w K mg) : ∃ fd, FnP K "is_head" "is_head" s_is_head (He.ga K "is_head") fd := T.def_ 14 (d := ds_is_head) rfl
theorem Txt.f_is_core (T : Txt w K mg) : ∃ fd, FnP K "is_core" "is_core" s_is_core (He.ga K "is_core") fd := T.def_ 15 (d := ds_is_core) rfl
theorem Txt.f_need_core (T : Txt w K mg) : ∃ fd, FnP K "need_core" "need_core" s_need_core (He.ga K "need_core") fd := T.def_ 16 (d := ds_need_core) rfl
theorem Txt.f_place_of (T : Txt w K mg) : ∃ fd, FnP K "place_of" "place_of" s_place_of (He.ga K "place_of") fd := T.def_ 17 (d := ds_place_of) rfl
theorem Txt.f_is_part (T : Txt w K mg) : ∃ fd, FnP K "is_part" "is_part" s_is_part (He.ga K "is_part") fd := T.def_ 18 (d := ds_is_part) rfl
theorem Txt.f_is_instruction (T : Txt w K mg) : ∃ fd, FnP K "is_instruction" "is_instruction" s_is_instruction (He.ga K "is_instruction") fd := T.def_ 19 (d := ds_is_instruction) rfl
theorem Txt.f_start_names (T : Txt w K mg) : ∃ fd, FnP K "start_names" "start_names" s_start_names (He.ga K "start_names") fd := T.def_ 20 (d := ds_start_names) rfl
theorem Txt.f_is_image (T : Txt w K mg) : ∃ fd, FnP K "is_image" "is_image" s_is_image (He.ga K "is_image") fd := T.def_ 21 (d := ds_is_image) rfl
theorem Txt.f_need_image (T : Txt w K mg) : ∃ fd, FnP K "need_image" "need_image" s_need_image (He.ga K "need_image") fd := T.def_ 22 (d := ds_need_image) rfl
theorem Txt.f_same_names (T : Txt w K mg) : ∃ fd, FnP K "same_names" "same_names" s_same_names (He.ga K "same_names") fd := T.def_ 23 (d := ds_same_names) rfl
theorem Txt.f_need_fit (T : Txt w K mg) : ∃ fd, FnP K "need_fit" "need_fit" s_need_fit (He.ga K "need_fit") fd := T.def_ 24 (d := ds_need_fit) rfl
theorem Txt.f_lay_words (T : Txt w K mg) : ∃ fd, FnP K "lay_words" "lay_words" s_lay_words (He.ga K "lay_words") fd := T.def_ 25 (d := ds_lay_words) rfl
theorem Txt.f_lay (T : Txt w K mg) : ∃ fd, FnP K "lay" "lay" s_lay (He.ga K "lay") fd := T.def_ 26 (d := ds_lay) rfl
theorem Txt.f_read_value (T : Txt w K mg) : ∃ fd, FnP K "read_value" "read_value" s_read_value (He.ga K "read_value") fd := T.def_ 27 (d := ds_read_value) rfl
theorem Txt.f_take_words (T : Txt w K mg) : ∃ fd, FnP K "take_words" "take_words" s_take_words (He.ga K "take_words") fd := T.def_ 28 (d := ds_take_words) rfl
theorem Txt.f_is_words (T : Txt w K mg) : ∃ fd, FnP K "is_words" "is_words" s_is_words (He.ga K "is_words") fd := T.def_ 29 (d := ds_is_words) rfl
theorem Txt.f_need_args (T : Txt w K mg) : ∃ fd, FnP K "need_args" "need_args" s_need_args (He.ga K "need_args") fd := T.def_ 30 (d := ds_need_args) rfl
theorem Txt.f_need_limit (T : Txt w K mg) : ∃ fd, FnP K "need_limit" "need_limit" s_need_limit (He.ga K "need_limit") fd := T.def_ 31 (d := ds_need_limit) rfl
theorem Txt.f_made_machine (T : Txt w K mg) : ∃ fd, FnP K "made_machine" "made_machine" s_made_machine (He.ga K "made_machine") fd := T.def_ 32 (d := ds_made_machine) rfl
theorem Txt.f_run_image (T : Txt w K mg) : ∃ fd, FnP K "run_image" "run_image" s_run_image (He.ga K "run_image") fd := T.def_ 33 (d := ds_run_image) rfl
theorem Txt.f_trace_image (T : Txt w K mg) : ∃ fd, FnP K "trace_image" "trace_image" s_trace_image (He.ga K "trace_image") fd := T.def_ 34 (d := ds_trace_image) rfl
theorem Txt.f_law_well (T : Txt w K mg) : ∃ fd, FnP K "_law_well" "_law_well" s_law_well (He.ga K "_law_well") fd := T.def_ 35 (d := ds_law_well) rfl
theorem Txt.f_law_draw (T : Txt w K mg) : ∃ fd, FnP K "_law_draw" "_law_draw" s_law_draw (He.ga K "_law_draw") fd := T.def_ 36 (d := ds_law_draw) rfl
theorem Txt.f_law_names (T : Txt w K mg) : ∃ fd, FnP K "_law_names" "_law_names" s_law_names (He.ga K "_law_names") fd := T.def_ 37 (d := ds_law_names) rfl
theorem Txt.f_law_highs (T : Txt w K mg) : ∃ fd, FnP K "_law_highs" "_law_highs" s_law_highs (He.ga K "_law_highs") fd := T.def_ 38 (d := ds_law_highs) rfl
theorem Txt.f_law_kinds (T : Txt w K mg) : ∃ fd, FnP K "_law_kinds" "_law_kinds" s_law_kinds (He.ga K "_law_kinds") fd := T.def_ 39 (d := ds_law_kinds) rfl
theorem Txt.f_law_makers (T : Txt w K mg) : ∃ fd, FnP K "_law_makers" "_law_makers" s_law_makers (He.ga K "_law_makers") fd := T.def_ 40 (d := ds_law_makers) rfl
theorem Txt.f_law_number (T : Txt w K mg) : ∃ fd, FnP K "_law_number" "_law_number" s_law_number (He.ga K "_law_number") fd := T.def_ 41 (d := ds_law_number) rfl
theorem Txt.f_law_value (T : Txt w K mg) : ∃ fd, FnP K "_law_value" "_law_value" s_law_value (He.ga K "_law_value") fd := T.def_ 42 (d := ds_law_value) rfl
theorem Txt.f_law_same (T : Txt w K mg) : ∃ fd, FnP K "_law_same" "_law_same" s_law_same (He.ga K "_law_same") fd := T.def_ 43 (d := ds_law_same) rfl
theorem Txt.f_law_straight (T : Txt w K mg) : ∃ fd, FnP K "_law_straight" "_law_straight" s_law_straight (He.ga K "_law_straight") fd := T.def_ 44 (d := ds_law_straight) rfl
theorem Txt.f_law_frame (T : Txt w K mg) : ∃ fd, FnP K "_law_frame" "_law_frame" s_law_frame (He.ga K "_law_frame") fd := T.def_ 45 (d := ds_law_frame) rfl
theorem Txt.f_law_turn (T : Txt w K mg) : ∃ fd, FnP K "_law_turn" "_law_turn" s_law_turn (He.ga K "_law_turn") fd := T.def_ 46 (d := ds_law_turn) rfl
theorem Txt.f_law_run (T : Txt w K mg) : ∃ fd, FnP K "_law_run" "_law_run" s_law_run (He.ga K "_law_run") fd := T.def_ 47 (d := ds_law_run) rfl
theorem Txt.f_law_lay (T : Txt w K mg) : ∃ fd, FnP K "_law_lay" "_law_lay" s_law_lay (He.ga K "_law_lay") fd := T.def_ 48 (d := ds_law_lay) rfl
theorem Txt.f_law_told (T : Txt w K mg) : ∃ fd, FnP K "_law_told" "_law_told" s_law_told (He.ga K "_law_told") fd := T.def_ 49 (d := ds_law_told) rfl
theorem Txt.f_law_near (T : Txt w K mg) : ∃ fd, FnP K "_law_near" "_law_near" s_law_near (He.ga K "_law_near") fd := T.def_ 50 (d := ds_law_near) rfl
theorem Txt.f_law_row (T : Txt w K mg) : ∃ fd, FnP K "_law_row" "_law_row" s_law_row (He.ga K "_law_row") fd := T.def_ 51 (d := ds_law_row) rfl
theorem Txt.f_law_mended (T : Txt w K mg) : ∃ fd, FnP K "_law_mended" "_law_mended" s_law_mended (He.ga K "_law_mended") fd := T.def_ 52 (d := ds_law_mended) rfl
theorem Txt.f_law_due (T : Txt w K mg) : ∃ fd, FnP K "_law_due" "_law_due" s_law_due (He.ga K "_law_due") fd := T.def_ 53 (d := ds_law_due) rfl
theorem Txt.f_law_drawn (T : Txt w K mg) : ∃ fd, FnP K "_law_drawn" "_law_drawn" s_law_drawn (He.ga K "_law_drawn") fd := T.def_ 54 (d := ds_law_drawn) rfl
theorem Txt.f_law_right (T : Txt w K mg) : ∃ fd, FnP K "_law_right" "_law_right" s_law_right (He.ga K "_law_right") fd := T.def_ 55 (d := ds_law_right) rfl
theorem Txt.f_law_long_right (T : Txt w K mg) : ∃ fd, FnP K "_law_long_right" "_law_long_right" s_law_long_right (He.ga K "_law_long_right") fd := T.def_ 56 (d := ds_law_long_right) rfl
theorem Txt.f_law (T : Txt w K mg) : ∃ fd, FnP K "law" "law" s_law (He.ga K "law") fd := T.def_ 57 (d := ds_law) rfl
theorem Txt.f_Reach_init (T : Txt w K mg) : ∃ fd, FnP K "__init__" "Reach.__init__" s_Reach_init (He.ma K (He.ga K "Reach") "__init__") fd := T.def_ 58 (d := ds_Reach_init) rfl
theorem Txt.f_Reach_bind (T : Txt w K mg) : ∃ fd, FnP K "bind" "Reach.bind" s_Reach_bind (He.ma K (He.ga K "Reach") "bind") fd := T.def_ 59 (d := ds_Reach_bind) rfl
theorem Txt.f_Reach_has (T : Txt w K mg) : ∃ fd, FnP K "has" "Reach.has" s_Reach_has (He.ma K (He.ga K "Reach") "has") fd := T.def_ 60 (d := ds_Reach_has) rfl
theorem Txt.f_Reach_has_all (T : Txt w K mg) : ∃ fd, FnP K "has_all" "Reach.has_all" s_Reach_has_all (He.ma K (He.ga K "Reach") "has_all") fd := T.def_ 61 (d := ds_Reach_has_all) rfl
theorem Txt.f_Machine_init (T : Txt w K mg) : ∃ fd, FnP K "__init__" "Machine.__init__" s_Machine_init (He.ma K (He.ga K "Machine") "__init__") fd := T.def_ 62 (d := ds_Machine_init) rfl
theorem Txt.f_Machine_raise_top (T : Txt w K mg) : ∃ fd, FnP K "raise_top" "Machine.raise_top" s_Machine_raise_top (He.ma K (He.ga K "Machine") "raise_top") fd := T.def_ 63 (d := ds_Machine_raise_top) rfl
theorem Txt.f_Machine_by_registers (T : Txt w K mg) : ∃ fd, FnP K "by_registers" "Machine.by_registers" s_Machine_by_registers (He.ma K (He.ga K "Machine") "by_registers") fd := T.def_ 64 (d := ds_Machine_by_registers) rfl
theorem Txt.f_Machine_by_heap (T : Txt w K mg) : ∃ fd, FnP K "by_heap" "Machine.by_heap" s_Machine_by_heap (He.ma K (He.ga K "Machine") "by_heap") fd := T.def_ 65 (d := ds_Machine_by_heap) rfl
theorem Txt.f_Machine_by_stack (T : Txt w K mg) : ∃ fd, FnP K "by_stack" "Machine.by_stack" s_Machine_by_stack (He.ma K (He.ga K "Machine") "by_stack") fd := T.def_ 66 (d := ds_Machine_by_stack) rfl
theorem Txt.f_Machine_by_way (T : Txt w K mg) : ∃ fd, FnP K "by_way" "Machine.by_way" s_Machine_by_way (He.ma K (He.ga K "Machine") "by_way") fd := T.def_ 67 (d := ds_Machine_by_way) rfl
theorem Txt.f_Machine_done (T : Txt w K mg) : ∃ fd, FnP K "done" "Machine.done" s_Machine_done (He.ma K (He.ga K "Machine") "done") fd := T.def_ 68 (d := ds_Machine_done) rfl
theorem Txt.f_Machine_run (T : Txt w K mg) : ∃ fd, FnP K "run" "Machine.run" s_Machine_run (He.ma K (He.ga K "Machine") "run") fd := T.def_ 69 (d := ds_Machine_run) rfl
theorem Txt.ex (T : Txt w K mg) : ex K = true := by
  obtain ⟨_, _, _, _, e⟩ := T.more
  exact e
theorem vstr (l : List Str) : (dstr l).map (He.Dv.v K) = l.map V.str := by
  unfold dstr
  rw [List.map_map]
  rfl
theorem Txt.t_WORDS (T : Txt w K mg) (H : Hp) : SqT K H (He.ga K "WORDS") (l_WORDS.map V.str) := by
  rw [← vstr]
  exact He.tupB_ok (He.ba T.ex).1 H
theorem Txt.t_WAYS (T : Txt w K mg) (H : Hp) : SqT K H (He.ga K "WAYS") (l_WAYS.map V.str) := by
  rw [← vstr]
  exact He.tupB_ok (He.ba (He.ba T.ex).2).1 H
theorem Txt.t_STACK_WORDS (T : Txt w K mg) (H : Hp) : SqT K H (He.ga K "STACK_WORDS") (l_STACK_WORDS.map V.str) := by
  rw [← vstr]
  exact He.tupB_ok (He.ba (He.ba (He.ba T.ex).2).2).1 H
theorem Txt.t_HEAP_WORDS (T : Txt w K mg) (H : Hp) : SqT K H (He.ga K "HEAP_WORDS") (l_HEAP_WORDS.map V.str) := by
  rw [← vstr]
  exact He.tupB_ok (He.ba (He.ba (He.ba (He.ba T.ex).2).2).2).1 H
theorem Txt.d_FORMS (T : Txt w K mg) : ∃ es n, KDict K w (He.ga K "FORMS") es n := by
  obtain ⟨_, _, _, c, _⟩ := T.more
  exact c.tab 0
theorem Txt.d_BOUNDS (T : Txt w K mg) : ∃ es n, KDict K w (He.ga K "BOUNDS") es n := by
  obtain ⟨_, _, _, c, _⟩ := T.more
  exact c.tab 1
theorem Txt.v_FORMS (T : Txt w K mg) {k z : Str} (h : (k, He.Dv.str z) ∈ forms) : ∃ u, PySem.W.nsIn K (He.ga K "FORMS") k = some (some u) ∧ RelV (.str z) u :=
  He.valsB_ok (He.ba (He.ba (He.ba (He.ba (He.ba T.ex).2).2).2).2).1 h
theorem Txt.v_BOUNDS (T : Txt w K mg) {k : Str} {lo hi : Int} (h : (k, lo, hi) ∈ bounds) (H : Hp) : ∃ a, PySem.W.nsIn K (He.ga K "BOUNDS") k = some (some (.ref a)) ∧ SqT K H a [.int lo, .int hi] := by
  have e := List.all_eq_true.mp (He.ba (He.ba (He.ba (He.ba (He.ba T.ex).2).2).2).2).2 _ h
  unfold bndB at e
  split at e
  · rename_i a q
    refine ⟨a, q, ?_⟩
    split at e
    · rename_i c od its n sl q2
      obtain ⟨h1, h2⟩ := He.ba e
      obtain ⟨h3, h4⟩ := He.ba h2
      exact .inr ⟨_, its, n, q2, congrArg Value.type (of_decide_eq_true h1), rfl, of_decide_eq_true h3, He.relAll_ok h4⟩
    · cases e
  · cases e
end
end K47

set_option Elab.async false
set_option linter.all false
set_option maxRecDepth 100000
set_option maxHeartbeats 0
namespace K47
open PySem PySem.W PySem.Calls PyProof.Rows
def nm0 : List PySem.Str := [("__name__" : PySem.Str), ("StepError" : PySem.Str), ("BadCore" : PySem.Str), ("BadName" : PySem.Str), ("BadArgs" : PySem.Str), ("BadLimit" : PySem.Str), ("BadImage" : PySem.Str), ("Unfit" : PySem.Str), ("LETTERS" : PySem.Str), ("SMALL" : PySem.Str), ("DIGITS" : PySem.Str), ("WORDS" : PySem.Str), ("LONGEST_NAME" : PySem.Str), ("GREATEST_NUMBER" : PySem.Str), ("GREATEST_FACTOR" : PySem.Str), ("is_int" : PySem.Str), ("within" : PySem.Str), ("is_name" : PySem.Str), ("is_low" : PySem.Str), ("is_high" : PySem.Str), ("is_kind_name" : PySem.Str), ("MOST_KINDS" : PySem.Str), ("MOST_MAKERS" : PySem.Str), ("MOST_FIELDS" : PySem.Str), ("is_tuple" : PySem.Str), ("is_maker" : PySem.Str), ("are_kinds" : PySem.Str), ("kinds_fault" : PySem.Str), ("MOST_FUNCTIONS" : PySem.Str), ("MOST_PARAMS" : PySem.Str), ("MOST_ROWS" : PySem.Str), ("GREATEST_VARIABLE" : PySem.Str), ("Reach" : PySem.Str), ("maker_table" : PySem.Str), ("makers_of" : PySem.Str)]
def nm1 : List PySem.Str := [("silent_fits" : PySem.Str), ("end_fits" : PySem.Str), ("branches_of" : PySem.Str), ("rows_fit" : PySem.Str), ("is_head" : PySem.Str), ("is_core" : PySem.Str), ("need_core" : PySem.Str), ("place_of" : PySem.Str), ("MOST_CODE" : PySem.Str), ("MOST_STARTS" : PySem.Str), ("FORMS" : PySem.Str), ("BOUNDS" : PySem.Str), ("is_part" : PySem.Str), ("is_instruction" : PySem.Str), ("start_names" : PySem.Str), ("is_image" : PySem.Str), ("need_image" : PySem.Str), ("same_names" : PySem.Str), ("need_fit" : PySem.Str), ("MOST_WORDS" : PySem.Str), ("lay_words" : PySem.Str), ("lay" : PySem.Str), ("read_value" : PySem.Str), ("MOST_GIVEN" : PySem.Str), ("take_words" : PySem.Str), ("is_words" : PySem.Str), ("need_args" : PySem.Str), ("need_limit" : PySem.Str), ("MOST_STEPS" : PySem.Str), ("WAYS" : PySem.Str), ("STACK_WORDS" : PySem.Str), ("HEAP_WORDS" : PySem.Str), ("Machine" : PySem.Str), ("made_machine" : PySem.Str), ("run_image" : PySem.Str)]
def nm2 : List PySem.Str := [("trace_image" : PySem.Str), ("_law_well" : PySem.Str), ("_law_draw" : PySem.Str), ("_law_names" : PySem.Str), ("_law_highs" : PySem.Str), ("_law_kinds" : PySem.Str), ("_law_makers" : PySem.Str), ("_law_number" : PySem.Str), ("_law_value" : PySem.Str), ("_law_same" : PySem.Str), ("_law_straight" : PySem.Str), ("_law_frame" : PySem.Str), ("_law_turn" : PySem.Str), ("_law_run" : PySem.Str), ("_law_lay" : PySem.Str), ("_law_told" : PySem.Str), ("_law_near" : PySem.Str), ("_law_row" : PySem.Str), ("_law_mended" : PySem.Str), ("_law_due" : PySem.Str), ("_law_drawn" : PySem.Str), ("_law_right" : PySem.Str), ("_law_long_right" : PySem.Str)]
def loose : List PySem.Str := nm0 ++ (nm1 ++ (nm2))
abbrev R : OpenRow := OpenLaw.row PySem.Challenge.rw_juststeps_k47_whole_runs_of_the_machine
abbrev qv : Program := view R.prog [103]
/-- what objects name, each once more where named twice -/
def fr1 (g : Addr → Option Obj) (as : List Addr) : List Addr := as.flatMap fun a => match g a with
  | some o => He.refsD o
  | none => []
def asY (g : Addr → Option Obj) : List Addr := mainGlobals :: (fr1 g [mainGlobals] ++ (fr1 g (fr1 g [mainGlobals]) ++ (fr1 g (fr1 g (fr1 g [mainGlobals])) ++ fr1 g (fr1 g (fr1 g (fr1 g [mainGlobals]))))))
def obsY (g : Addr → Option Obj) : He.AlX := (He.obsT fa fn ts (He.frT g (asY g)), K47.ex (He.frT g (asY g)))
def hk : Hook where
  α := He.AlX
  obs := fun s => obsY s.heap.get?
  val := fun w => He.valX fn ts w
  says := fun w h => ∃ K : PySem.W.Frag, K.In h ∧ He.SaysX fa fn ts [] K47.ex w h K
  of := fun _ _ e => ⟨_, He.frT_in, ⟨congrArg (fun z : He.AlX => z.1) e, congrArg (fun z : He.AlX => z.2) e, fun _ hp => (nomatch hp), fun _ hp => (nomatch hp), fun _ hp => (nomatch hp)⟩⟩
  keeps := (He.hookX 4 fa fn ts [] K47.ex).keeps
def ob (s : SharedT) : hk.α := obsY (HandSHeadRun.getT s)
theorem ob_eq (s : SharedT) : ob s = hk.obs s.abs := congrArg obsY (funext (HandSHeadRun.getT_eq s))
noncomputable def eF (w : World) (os : OsState) : Option SharedT := HandSHeadRun.endF (HandSHeadRun.stepQ (HandSHeadRun.denQ HandSHeadRun.tabQ) R.prog w) 20000 R.prog w os
abbrev wb (w : World) (b : Bool) : World := w.withFollow "special-get-raises" b
noncomputable abbrev sees (s : SharedT) := HandSHeadRun.seenQ qv loose (importedModules R.prog.main.body) (fun s => xlAt qv [] s && recOk R.toRowW.records s) s.abs
theorem a0 (w : World) (os : OsState) : (eF (wb w false) os).map (fun s => ((HandSHeadRun.looksF R.prog (boot_heap (wb w false).params) s.abs, sees s), ob s)) = some ((true, openGood qv loose), hk.val (wb w false)) := by kernel_rfl
theorem a1 (w : World) (os : OsState) : (eF (wb w true) os).map (fun s => ((HandSHeadRun.looksF R.prog (boot_heap (wb w true).params) s.abs, sees s), ob s)) = some ((true, openGood qv loose), hk.val (wb w true)) := by kernel_rfl
theorem run1 {w : World} (a : ∀ os, (eF w os).map (fun s => ((HandSHeadRun.looksF R.prog (boot_heap w.params) s.abs, sees s), ob s)) = some ((true, openGood qv loose), hk.val w)) : HandSHeadRun.RunEq R qv hk ob 20000 loose w := by
  intro os
  cases e : eF w os with
  | none =>
    have z := a os
    rw [e] at z
    cases z
  | some s =>
    have z := a os
    rw [e] at z
    have y : ((HandSHeadRun.looksF R.prog (boot_heap w.params) s.abs, sees s), ob s) = ((true, openGood qv loose), hk.val w) := Option.some.inj z
    have e1 : HandSHeadRun.endF (HandSHeadRun.stepQ (HandSHeadRun.denQ HandSHeadRun.tabQ) R.prog w) 20000 R.prog w os = some s := e
    rw [e1]
    refine congrArg some ?_
    have y1 : (HandSHeadRun.looksF R.prog (boot_heap w.params) s.abs, sees s) = (true, openGood qv loose) := congrArg Prod.fst y
    have p3 : ob s = hk.val w := congrArg Prod.snd y
    have p1 := congrArg Prod.fst y1
    have p2 := congrArg Prod.snd y1
    exact Prod.ext p1 (Prod.ext p2 p3)
theorem run (w : World) : HandSHeadRun.RunEq R qv hk ob 20000 loose w :=
  byRow2 "special-get-raises" (P := fun w => HandSHeadRun.RunEq R qv hk ob 20000 loose w) (fun w => run1 (a0 w)) (fun w => run1 (a1 w)) w
end K47

set_option Elab.async false
set_option linter.all false
set_option maxRecDepth 100000
set_option maxHeartbeats 4000000
namespace K47
open PySem PySem.W PySem.Calls PyProof.Rows
/-- all that is asked of the law's text and of the top, ahead of the walks: the kernel's memory is given back before those begin -/
theorem by_top (hc : WalkO (view (OpenLaw.row PySem.Challenge.rw_juststeps_k47_whole_runs_of_the_machine).prog [103]) K47.loose (XL (view (OpenLaw.row PySem.Challenge.rw_juststeps_k47_whole_runs_of_the_machine).prog [103]) []) K47.hk.says (OpenLaw.row PySem.Challenge.rw_juststeps_k47_whole_runs_of_the_machine).toRowW (HandSHeadRun.topDef (OpenLaw.row PySem.Challenge.rw_juststeps_k47_whole_runs_of_the_machine).prog 103) [] fun f vs => PySem.call f vs) : PySem.Challenge.rw_juststeps_k47_whole_runs_of_the_machine.Holds := by
  w_on; o_law
  refine HandSHeadRun.head_any (r := OpenLaw.row PySem.Challenge.rw_juststeps_k47_whole_runs_of_the_machine) (q := view (OpenLaw.row PySem.Challenge.rw_juststeps_k47_whole_runs_of_the_machine).prog [103]) (H := K47.hk) (ob := K47.ob) (M := 20000) (loose := K47.loose) (d := HandSHeadRun.topDef (OpenLaw.row PySem.Challenge.rw_juststeps_k47_whole_runs_of_the_machine).prog 103) (kwd := []) K47.ob_eq
    (by kernel_rfl) (fun s => by kernel_rfl) K47.run (by kernel_rfl) (by kernel_rfl) (by kernel_rfl) (by rfl) (by first | assumption | decide +kernel) (by decide +kernel) ⟨rfl, rfl, rfl, rfl, rfl, by decide +kernel⟩ ?hw hc
  case hw => w_witness2
end K47

set_option Elab.async false
set_option linter.all false
set_option maxRecDepth 100000
set_option maxHeartbeats 4000000
/-! Rules of my own over the hand layer: xs == [], enumerate(tuple), del xs[a:], xs[i] += e, t[::-1], xs.extend(tuple). -/
namespace K47
open PySem PySem.Spec PyProof.Rows L2

/-! ### xs == [] -/
def rEqNil (K : PySem.W.Frag) : R2 := fun x y H Q => ∃ a b xs, x = .ref a ∧ y = .ref b ∧ SqL K H a xs ∧ SqL K H b [] ∧ Q (.bl xs.isEmpty) H
theorem op_eqNil {X : Cx} (hu : X.A.units < cLine) : OpR X (compareOp .Eq) (rEqNil X.K) := by
  intro pins s σ H x y v u Q I rx ry h
  obtain ⟨a, b, xs, rfl, rfl, ha, hb, q⟩ := h
  cases rx
  cases ry
  obtain ⟨its, r, p, _⟩ := I.list ha
  obtain ⟨its2, r2, p2, _⟩ := I.list hb
  cases r2
  cases xs with
  | nil =>
    cases r
    refine PySem.SeqAt.eq_listAt (e := fun _ => true) p.isList p2.isList rfl hu (fun j h1 _ => absurd h1 (by simp)) ?_
    exact ⟨.bl true, H, I, rfl, q⟩
  | cons z zs =>
    cases r with
    | cons r rr =>
      refine PySem.SeqAt.eq_list_lengthsAt p.isList p2.isList (by simp) hu ?_
      exact ⟨.bl false, H, I, rfl, q⟩

/-! ### xs[i] += e: the read -/
def gGetL (K : PySem.W.Frag) : V → V → Hp → VK → Prop := fun o i H Q => ∃ p xs k v, o = .ref p ∧ i = .int k ∧ SqL K H p xs ∧ atI xs k = some v ∧ 0 ≤ k ∧ k < 2 ^ 63 ∧ Q v H

/-! ### enumerate(tuple) -/
def IteT (K : PySem.W.Frag) (a : Addr) : It :=
  ⟨fun i H => ∃ (xs : List V) (x : V), SqT K H a xs ∧ xs[i]? = some x, fun i H v H' => ∃ T x, v = .ref T ∧ H T = none ∧ H' = upd H T (.tup [.int (i : Nat), x]) ∧ ∀ xs, SqT K H a xs → xs[i]? = some x, fun i H => ∃ xs : List V, SqT K H a xs ∧ xs.length ≤ i⟩
theorem turn_enumT {P : Program} {w : World} {K : PySem.W.Frag} {elts : List Expr} {kk : Nat} {tpos : Pos} (a e it : Addr) (hai : a ≠ it) (hae : a ≠ e) :
    Turn P w K (.Tuple elts kk tpos) (IteT K a) [e, it] e (fun i h => (∃ old, IsEnum h e it ((i : Nat) : Int) old) ∧ h.IsTupleIter it a i ∧ e ≠ it) where
  mem := by simp
  obj := fun i h st b hb => by
    obtain ⟨⟨old, he⟩, ⟨o, ho, hc, hd⟩, _⟩ := st
    have e' : b = e ∨ b = it := by simpa using hb
    rcases e' with z | z
    · rw [z]; exact ⟨_, he, fun v q => nomatch q⟩
    · rw [z]; exact ⟨o, ho, fun v q => by rw [hd] at q; cases q⟩
  keep := fun i h h' st k => let ⟨⟨old, he⟩, hi, hne⟩ := st; ⟨⟨old, k e (by simp) _ he⟩, hi.at fun o q => k it (by simp) o q, hne⟩
  item := by
    intro X hP hw hK hc i pins s σ H E I hf st hg
    subst hP hw hK
    obtain ⟨⟨old, he⟩, hit, hne⟩ := st
    obtain ⟨xs, x, hq, hx⟩ := hg
    obtain ⟨its, rv, p, hz⟩ := I.tuple hq
    obtain ⟨u, hu, ru⟩ := rv.get hx
    have hel : e < s.heap.objs.size := Heap.lt_size he
    have hil : it < s.heap.objs.size := by obtain ⟨_, q, _⟩ := hit; exact Heap.lt_size q
    have hlt : i < its.toArray.size := by
      rw [List.size_toArray]
      exact (List.getElem?_eq_some_iff.mp hu).1
    have D := Draws.tuple (prog := X.prog) (w := X.w) (A := X.A.in1) (I.ok.hd hc) it a hai its.toArray
    refine wpAny_pyNext_enum_itemC D he ⟨hit, p⟩ hlt hne (by
      intro q
      have q' : e = it ∨ e = a := by simpa using q
      rcases q' with q' | q'
      · exact hne q'
      · exact hae q'.symm) fun x' h' tk hP ho hit' hT hsz hk => ?_
    have ex : x' = u := by
      have hP' : its.toArray[i]? = some x' := hP
      have hu' : its.toArray[i]? = some u := by simpa using hu
      exact Option.some.inj (hP'.symm.trans hu')
    subst ex
    refine ⟨_, rfl, wpAny_letOwnedTupleGo_enum (s := { s with heap := h', toks := tk + 1 }) ho fun h'' he' sb => ?_⟩
    have hT2 : h''.get? s.heap.objs.size = some { cls := .type "tuple", data := .seq #[.int i tk, x'] } := (sb.2 _ (Nat.ne_of_gt hel)).trans hT
    have new : ObjOk X.prog X.w (upd H s.heap.objs.size (.tup [.int (i : Nat), x])) h'' s.heap.objs.size (.tup [.int (i : Nat), x]) :=
      ⟨by show 2 ≤ sizeLine; decide, [.int i tk, x'], .cons ⟨_, rfl⟩ (.cons ru .nil), ⟨_, hT2, rfl, _, rfl⟩⟩
    have I1 : Inv X pins σ (upd H s.heap.objs.size (.tup [.int (i : Nat), x])) { s with heap := h'', toks := tk + 1 } :=
      I.turnedNew (t' := tk + 1) (ch := [e, it]) (fun b ob hb q => (sb.2 b (fun z => hb (by simp [z]))).trans (hk b ob (fun z => hb (by simp [z])) (fun z => hb (by simp [z])) q)) hf (Nat.le_refl _) new
    refine ⟨.ref s.heap.objs.size, _, I1, rfl, ⟨_, x, rfl, I.hok.fresh (Nat.le_refl _), rfl, fun ys hy => by rw [I.tuple_inj hy hq]; exact hx⟩, ⟨⟨x', ?_⟩, hit'.1.at fun o q => (sb.2 it (Ne.symm hne)).trans q, hne⟩, fun b hb => ?_⟩
    · have e1 : ((i + 1 : Nat) : Int) = (i : Int) + 1 := by omega
      rw [e1]; exact he'
    · have hb' : b < s.heap.objs.size := by
        have e' : b = e ∨ b = it := by simpa using hb
        rcases e' with z | z
        · rw [z]; exact hel
        · rw [z]; exact hil
      rw [upd_ne (Nat.ne_of_lt hb')]
      exact (hf b hb).1
  done := by
    intro X hP hw hK hc i pins s σ H E I hf st hg
    subst hP hw hK
    obtain ⟨⟨old, he⟩, hit, hne⟩ := st
    obtain ⟨xs, hq, hx⟩ := hg
    obtain ⟨its, rv, p, hz⟩ := I.tuple hq
    obtain ⟨f0, f1, f2, f3, f4, f5⟩ := hf it (by simp)
    have hl := rv.length
    have hT : s.TypeIs (.ref e) "enumerate" := ⟨_, he, rfl⟩
    unfold pyNext
    refine wpAny_bind (wpAny_attempt (wpAny_callSpecial?_slot (name := Str.ofString "__next__") hT F.slot_enumerate_next
      (wpAny_call_entry F.slot_enumerate_next hT F.entry_enumerate_next ?_ (F.args_enumerate_next_1 _))))
    show wpAny _ _ (field (.ref e) 2 >>= _) _ _ _
    refine wpAny_bind (wpAny_field he rfl (x := .ref it) rfl ?_)
    refine wpAny_bind (wpAny_nextOf_tuple_end (I.ok.hd hc) hit p (by simp; omega) fun h' x he' hx' => ?_)
    obtain ⟨o, ho, hc'⟩ := hx'
    refine wpAny_bind (wpAny_isInstance (T := "StopIteration") (b := true) ⟨o, ho, hc'⟩ isSubtype_stop ?_)
    exact wpAny_pure ⟨rfl, I.turned (t' := s.toks) (fun b o hb q => he' b o hb q) f0 f1 f3 f4 f5⟩
  self := fun A i s Q E st h => let ⟨⟨_, he⟩, _⟩ := st; wpAny_pyIter_enum he h

set_option maxHeartbeats 4000000 in
theorem meets_enumerate_new1 {v : Value} {o : Obj} {H : Heap → Prop} (B : Begins v o H) :
    Meets (Builtin.«enumerate.__new__» ⟨[.type "enumerate", v], []⟩) (fun _ R s => H s.heap ∧
      R (.ok (.ret (.ref (s.heap.push o).objs.size))) { s with heap := (s.heap.push o).push { cls := .type "enumerate", data := .fields #[.none, .bool false, .ref s.heap.objs.size, rawInt 0, .none, .none] } }) :=
  .of_wp fun prog w A R s h => by
    obtain ⟨hp, g, d, tk, os⟩ := s; obtain ⟨h1, h⟩ := h
    have hsub := PySem.sub_enumerate
    have q1 : ∀ {A' : Around} {E : Value → Shared → Prop} {Q : Value → Shared → Prop}, Q (.ref hp.objs.size) ⟨hp.push o, g, d, tk, os⟩ → wpAny (model prog w) A' (pyIter v) Q E ⟨hp, g, d, tk, os⟩ :=
      fun q => B.iter prog w _ _ ⟨hp, g, d, tk, os⟩ _ h1 q
    wp_walk using q1
    refine wpAny_stack_any fun st => wpAny_pure ?_
    split
    · rename_i c _ _ _ _ _
      cases (c == Value.type "enumerate")
      · wp_walk using q1
        exact ⟨_, rfl, h⟩
      · wp_walk using q1
        exact ⟨_, rfl, h⟩
    · wp_walk using q1
      exact ⟨_, rfl, h⟩
theorem enum_begins1 {prog : Program} {w : World} {A : Around} {E : Value → Shared → Prop} {s : Shared} {v : Value} {o : Obj} {H : Heap → Prop} {Q : Value → Shared → Prop} (B : Begins v o H) (h1 : H s.heap)
    (h : ∀ h', IsEnum h' (s.heap.objs.size + 1) s.heap.objs.size 0 .none → h'.get? s.heap.objs.size = some o → h'.objs.size = s.heap.objs.size + 2 →
      (∀ b o, s.heap.get? b = some o → h'.get? b = some o) → Q (.ref (s.heap.objs.size + 1)) { s with heap := h' }) :
    wpAny (model prog w) A (call (.type "enumerate") [v]) Q E s := by
  refine callType_new F.called_enumerate (by decide) (F.typeCall_enumerate_1 _) (F.newCall_enumerate_1 _) (fun obj => F.args_object_init_2 obj _) F.entry_enumerate_new
    (meets_enumerate_new1 B) ⟨h1, ?_⟩
  have hz : (s.heap.push o).objs.size = s.heap.objs.size + 1 := Heap.size_push ..
  show _ ∧ _
  rw [hz]
  have he : IsEnum ((s.heap.push o).push { cls := .type "enumerate", data := .fields #[.none, .bool false, .ref s.heap.objs.size, rawInt 0, .none, .none] }) (s.heap.objs.size + 1) s.heap.objs.size 0 .none := by
    have := Heap.get?_push_size (s.heap.push o) (o := { cls := .type "enumerate", data := .fields #[.none, .bool false, .ref s.heap.objs.size, rawInt 0, .none, .none] }) rfl
    rw [hz] at this; exact this
  refine ⟨⟨_, he, rfl⟩, h _ he (Heap.get?_push_of_some _ (Heap.get?_push_size _ B.free)) (by rw [Heap.size_push, hz]) fun b o x => Heap.get?_push_of_some _ (Heap.get?_push_of_some _ x)⟩
def iEnumT (K : PySem.W.Frag) (ta : TA) : TI := fun σ H R => ta σ H fun vs H1 => ∃ a xs, vs = [.ref a] ∧ SqT K H1 a xs ∧ R (IteT K a) H1
theorem pi_enumT {X : Cx} {e : Expr} {ta : TA} {p pos tpos : Pos} {elts : List Expr} {kk : Nat} (hg : Gl X "enumerate") (hm : X.mg "enumerate" = none) (ha : PA X [e] ta) (hs : starEach [e] X.env = [(false, eval e X.env)] := by rfl) :
    PI X (.Tuple elts kk tpos) (.Call (.Name "enumerate" p) [e] [] pos) (iEnumT X.K ta) := by
  refine ⟨fun pins s σ H R I h => ?_⟩
  refine Call_ (ld_blt I hg hm PyProof.Rows.boot_enumerate (PyProof.Rows.callWith_type1 (thn (ha.run pos pins s σ H _ I h) fun us s1 ⟨vs, H1, I1, r1, q1⟩ => ?_) hs rfl))
  obtain ⟨a, xs, ex, hq, q⟩ := q1
  subst ex
  cases r1 with
  | cons r rr =>
    cases rr
    cases r
    obtain ⟨its, rv, p', hz⟩ := I1.tuple hq
    have hal : a < s1.heap.objs.size := by obtain ⟨_, q, _⟩ := p'; exact Heap.lt_size q
    refine enum_begins1 (begins_tuple a its.toArray) p' fun h' he hit hsz hk => wpAny_pyIter_enum he ?_
    have I2 : Inv X pins σ H1 { s1 with heap := h' } := I1.kept (t' := s1.toks) hk
    refine ⟨s1.heap.objs.size + 1, [s1.heap.objs.size + 1, s1.heap.objs.size], _, _, H1, rfl, I2, turn_enumT a (s1.heap.objs.size + 1) s1.heap.objs.size (Nat.ne_of_lt hal) (Nat.ne_of_lt (Nat.lt_succ_of_lt hal)), ⟨⟨.none, he⟩, ⟨_, hit, rfl, rfl⟩, Nat.succ_ne_self _⟩, fun b hb => ?_, q⟩
    have e' : b = s1.heap.objs.size + 1 ∨ b = s1.heap.objs.size := by simpa using hb
    have hle : s1.heap.objs.size ≤ b := by
      rcases e' with z | z
      · rw [z]; exact Nat.le_add_right _ _
      · rw [z]; exact Nat.le_refl _
    exact I1.fpOk hle (I1.hok.fresh hle)
/-- a loop over enumerate of a tuple -/
theorem for_enumT {K : PySem.W.Frag} {a : Addr} {xs : List V} {g : TG} {tb : TS} {D : Ends} {σ : L2.St} {H : Hp} (Pv : Nat → L2.St → Hp → Prop) (h0 : Pv 0 σ H) (hq : ∀ i σ H, Pv i σ H → SqT K H a xs)
    (hs : ∀ (i : Nat) (x : V) (T : Addr) (σ : L2.St) (H : Hp), xs[i]? = some x → Pv i σ H → H T = none → g (.ref T) σ (upd H T (.tup [.int (i : Nat), x])) fun σ2 H2 => tb { D with nx := Pv (i + 1), ct := Pv (i + 1), bk := D.nx } σ2 H2) (hd : ∀ σ H, Pv xs.length σ H → D.nx σ H) :
    ∃ W : Nat → Nat → L2.St → Hp → Prop, (∃ m, W 0 m σ H) ∧ ∀ i m σ H, W i m σ H →
      ((IteT K a).stop i H ∧ D.nx σ H) ∨ ((IteT K a).go i H ∧ ∃ N : L2.St → Hp → Prop, (∀ σ' H', N σ' H' → ∃ m', m' < m ∧ W (i + 1) m' σ' H') ∧ ∀ v H', (IteT K a).yld i H v H' → g v σ H' fun σ2 H2 => tb { D with nx := N, ct := N, bk := D.nx } σ2 H2) := by
  refine ⟨fun i m σ H => m = xs.length - i ∧ i ≤ xs.length ∧ Pv i σ H, ⟨xs.length, rfl, Nat.zero_le _, h0⟩, ?_⟩
  rintro i m σ H ⟨rfl, hi, p⟩
  have qx := hq i σ H p
  by_cases hlt : i < xs.length
  · have hx : xs[i]? = some xs[i] := List.getElem?_eq_getElem hlt
    refine .inr ⟨⟨xs, _, qx, hx⟩, Pv (i + 1), fun σ' H' p' => ⟨xs.length - (i + 1), by omega, rfl, hlt, p'⟩, fun v H' y => ?_⟩
    obtain ⟨T, x', rfl, hT, rfl, f1⟩ := y
    exact hs i x' T σ H (f1 xs qx) p hT
  · have e : i = xs.length := by omega
    subst e
    exact .inl ⟨⟨xs, qx, Nat.le_refl _⟩, hd σ H p⟩

/-! ### t[::-1] of a tuple -/
section
variable {prog : Program} {w : World} {A : Around} {E : Value → Shared → Prop} {s : Shared}
theorem pick_rev (xs : Array Value) : ((List.range xs.size).filterMap fun (m : Nat) => xs[(((xs.size : Int) - 1) + (m : Int) * (-1)).toNat]?).toArray = xs.toList.reverse.toArray := by
  congr 1
  apply List.ext_getElem?
  intro i
  have key : ∀ n, n ≤ xs.size → ((List.range n).filterMap fun (m : Nat) => xs[(((xs.size : Int) - 1) + (m : Int) * (-1)).toNat]?) = xs.toList.reverse.take n := by
    intro n
    induction n with
    | zero => intro _; simp
    | succ n ih =>
      intro hn
      rw [List.range_succ, List.filterMap_append, ih (by omega), List.take_succ]
      congr 1
      have e : (((xs.size : Int) - 1) + (n : Int) * (-1)).toNat = xs.size - 1 - n := by omega
      have hlt : xs.size - 1 - n < xs.size := by omega
      simp only [List.filterMap_cons, List.filterMap_nil, e]
      rw [List.getElem?_reverse (by rw [Array.length_toList]; omega)]
      simp only [Array.length_toList, Array.getElem?_toList]
      rw [Array.getElem?_eq_getElem hlt]
      rfl
  have := key xs.size (Nat.le_refl _)
  rw [this, List.take_of_length_le (by simp)]
theorem getItem_tuple_rev {t sl : Addr} {items : Array Value} {k : Tok} {Q : Value → Shared → Prop} (ht : IsTup s.heap t items) (hs : s.heap.IsSliceOf sl .none .none (.int (-1) k))
    (h : Q (.ref s.heap.objs.size) { s with heap := s.heap.push { cls := .type "tuple", data := .seq items.toList.reverse.toArray } })
    (hsz : items.size ≤ sizeLine) : wpAny (model prog w) A (getItem (.ref t) (.ref sl)) Q E s := by
  have htake : sizeOk (.seq items.toList.reverse.toArray) := by
    show items.toList.reverse.toArray.size ≤ sizeLine
    rw [List.size_toArray, List.length_reverse, Array.length_toList]
    exact hsz
  obtain ⟨os, hos, hcs, hds⟩ := id hs
  have hTs : s.TypeIs (.ref sl) "slice" := ⟨os, hos, hcs⟩
  have hadj : Builtin.Slice.sliceAdjust none none (-1) (items.size : Int) = ((items.size : Int) - 1, -1) := by
    unfold Builtin.Slice.sliceAdjust
    simp
  have hpl : Builtin.Slice.slicePlaces ((items.size : Int) - 1) (-1) (-1) = items.size := by
    unfold Builtin.Slice.slicePlaces
    simp only [show ¬ ((-1 : Int) > 0) by decide, if_false, Int.neg_neg, Int.ediv_one]
    split <;> omega
  unfold getItem
  try with_reducible refine wpAny_holding ?_
  first | refine wpAny_bind (wpAny_pure ?_) | skip
  refine wpAny_bind (wpAny_sequenceKey ht.typeIs (by decide) ?_)
  refine wpAny_bind (wpAny_callSpecial?_slot (name := Str.ofString "__getitem__") ht.typeIs PyProof.Rows.slot_tuple_getitem
    (wpAny_call_entry PyProof.Rows.slot_tuple_getitem ht.typeIs entry_tuple_getitem ?_ (args_tuple_getitem _ _)))
  show wpAny _ _ (Builtin.Tuple.tupleItemsOf (.ref t) >>= _) _ _ s
  refine wpAny_bind (tupleItemsOf_ ht ?_)
  refine wpAny_bind (wpAny_typeOf hTs ?_)
  rw [if_pos (by decide)]
  refine wpAny_bind (m := Builtin.Slice.sliceApplied (.ref sl) (pure (items.size : Int))) ?_
  unfold Builtin.Slice.sliceApplied Builtin.Slice.sliceFields
  refine wpAny_bind (wpAny_bind (wpAny_field hos hds (x := .none) rfl (wpAny_bind (wpAny_field hos hds (x := .none) rfl (wpAny_bind (wpAny_field hos hds (x := .int (-1) k) rfl (wpAny_pure ?_)))))))
  refine wpAny_bind (slicePart_int ?_)
  show wpAny _ _ (if ((-1 : Int) == 0) = true then _ else _) _ _ s
  rw [if_neg (by decide)]
  refine wpAny_bind (slicePart_none (wpAny_bind (slicePart_none (wpAny_bind (wpAny_pure ?_)))))
  show wpAny _ _ (match Builtin.Slice.sliceAdjust none none (-1) (items.size : Int) with | (lo, hi) => pure (lo, (-1 : Int), Builtin.Slice.slicePlaces lo hi (-1))) _ _ s
  rw [hadj]
  show wpAny _ _ (pure ((items.size : Int) - 1, (-1 : Int), Builtin.Slice.slicePlaces ((items.size : Int) - 1) (-1) (-1))) _ _ s
  rw [hpl]
  refine wpAny_pure ?_
  have hno : ¬ (((((items.size : Int) - 1) == 0 && (-1 : Int) == 1 && items.size == items.size)) = true) := by
    rw [Bool.and_eq_true, Bool.and_eq_true]
    rintro ⟨⟨_, q⟩, _⟩
    exact absurd q (by decide)
  show wpAny _ _ (if (((items.size : Int) - 1) == 0 && (-1 : Int) == 1 && items.size == items.size) = true then _ else _) _ _ s
  rw [if_neg hno, pick_rev]
  first
    | exact wpAny_bind (m := Builtin.Tuple.tupleExact _) (wpAny_newObj_type (wpAny_pure ⟨_, rfl, wpAny_pure h⟩) htake)
    | exact wpAny_bind (m := Builtin.Tuple.tupleExact _) (wpAny_newObj_type (wpAny_bind (wpAny_pure (wpAny_pure ⟨_, rfl, wpAny_pure h⟩))) htake)
    | exact wpAny_bind (wpAny_bind (m := Builtin.Tuple.tupleExact _) (wpAny_newObj_type (wpAny_pure (wpAny_pure ⟨_, rfl, wpAny_pure h⟩)) htake))
    | exact wpAny_bind (wpAny_bind (m := Builtin.Tuple.tupleExact _) (wpAny_newObj_type (wpAny_pure ⟨_, rfl, wpAny_pure h⟩) htake))
end
end K47

set_option Elab.async false
set_option linter.all false
set_option maxRecDepth 100000
set_option maxHeartbeats 4000000
namespace K47
open PySem PySem.Spec PyProof.Rows L2

theorem atI_at {xs : List V} {k : Int} {v : V} (h : atI xs k = some v) (h0 : 0 ≤ k) : xs[k.toNat]? = some v := by
  unfold atI ixN at h
  rw [if_pos h0] at h
  by_cases hk : k < xs.length
  · rw [if_pos hk] at h
    exact h
  · rw [if_neg hk] at h
    cases h
theorem pget_list {X : Cx} : PGet X (gGetL X.K) := by
  intro pins s σ H o i ov iv Q I ro ri h
  obtain ⟨p, xs, k, v, rfl, rfl, hx, hv, h0, h1, q⟩ := h
  cases ro
  obtain ⟨t, rfl⟩ := ri
  obtain ⟨its, r, pl, _⟩ := I.list hx
  obtain ⟨u, hu, ru⟩ := r.get (atI_at hv h0)
  refine wpAny_getItem_list pl.isList h0 h1 (x := u) (by simpa using hu) ?_
  exact ⟨v, H, I, ru, q⟩

/-! ### t[::-1] -/
def tRevT (K : PySem.W.Frag) (te : TE) : TE := fun σ H Q => te σ H fun x H1 => ∃ a xs, x = .ref a ∧ SqT K H1 a xs ∧ ∀ p, H1 p = none → Q (.ref p) (upd H1 p (.tup xs.reverse))
theorem pe_revT {X : Cx} {e : Expr} {te : TE} {k : Nat} {p1 p2 p3 pos : Pos} (he : PE X e te) : PE X (.Subscript e (.Slice none none (some (.UnaryOp .USub (.Constant (.int 1) k p1) p2)) p3) pos) (tRevT X.K te) := by
  refine ⟨fun pins s σ H Q I h => ?_⟩
  refine Subscript_ (thn (he.run pins s σ H _ I h) fun v s1 ⟨x, H1, I1, r1, q1⟩ => ?_)
  obtain ⟨a, xs, ex, hx, q⟩ := q1
  subst ex
  cases r1
  have hst : PO X (some (.UnaryOp .USub (.Constant (.int 1) k p1) p2)) (tPart (tUn (rU fun i => .int (-i)) (tC (.int 1)))) := po_some (pe_un un_neg pe_int)
  refine wpAny_Slice (thn (po_none.run pins s1 σ H1 (fun o H2 => o = none ∧ H2 = H1) I1 ⟨rfl, rfl⟩) fun vl s2 ⟨l, H2, I2, pl, el, e2⟩ => ?_)
  subst el e2
  refine thn (po_none.run pins s2 σ H2 (fun o H3 => o = none ∧ H3 = H2) I2 ⟨rfl, rfl⟩) fun vu s3 ⟨u, H3, I3, pu, eu, e3⟩ => ?_
  subst eu e3
  refine thn (hst.run pins s3 σ H3 (fun o H4 => o = some (-1) ∧ H4 = H3) I3 ⟨1, rfl, -1, rfl, rfl, rfl⟩) fun vs s4 ⟨o, H4, I4, ps, eo, e4⟩ => ?_
  subst eo e4
  cases pl
  cases pu
  cases ps with
  | int i tk =>
  have I5 : Inv X pins σ H4 { s4 with heap := s4.heap.push { cls := .type "slice", data := .fields #[.none, .none, .int (-1) tk] } } := I4.kept (t' := s4.toks) fun b ob q => Heap.get?_push_of_some _ q
  obtain ⟨its, r, ht, hz⟩ := I5.tuple hx
  have hlen := r.length
  show wpAny (model X.prog X.w) X.A (subscriptTail e (.Slice none none (some (.UnaryOp .USub (.Constant (.int 1) k p1) p2)) p3) (.ref a) (.ref s4.heap.objs.size)) (EP X pins σ Q) X.xe { s4 with heap := s4.heap.push { cls := .type "slice", data := .fields #[.none, .none, .int (-1) tk] } }
  refine tail_any (ops := [.ref a, .ref s4.heap.objs.size]) ht.typeIs PyProof.Rows.slot_tuple_getitem.lookup ?_ (by with_unfolding_all rfl)
  refine getItem_tuple_rev ht (Heap.IsSliceOf.new _ .none .none _) ?_ (by rw [List.size_toArray]; omega)
  refine ⟨.ref _, _, I5.laid (t' := s4.toks) (o := .tup xs.reverse) (fun b ob q => Heap.get?_push_of_some _ q) (Nat.le_refl _) ?_, rfl, q _ (I5.hok.fresh (Nat.le_refl _))⟩
  exact ⟨by rw [List.length_reverse]; exact hz, _, r.reverse, IsTup.new _ _⟩

/-! ### xs.extend(t) of a tuple -/
theorem meets_extend_tup (l : Addr) (items : Array Value) (n : Nat) (b : Addr) (items2 : Array Value) (n2 : Nat) (dd : Option Addr) (sl : Array (Option Value)) (hs0 : ¬(!items.isEmpty && Builtin.List.listTooLong (items.size + items2.size)) = true) (hs1 : items.size ≤ sizeLine) (hs2 : items.size + items2.size ≤ sizeLine + 1) :
    Meets (Builtin.«list.extend» ⟨[.ref l, .ref b], []⟩) (fun _ R s => s.heap.get? l = some { cls := .type "list", dict := none, data := .seq items n, slots := #[] } ∧ s.heap.get? b = some { cls := .type "tuple", dict := dd, data := .seq items2 n2, slots := sl } ∧ R (.ok (.ret Value.none)) { s with heap := s.heap.update l (Obj.mapSeq fun x => x ++ items2), toks := s.toks }) :=
  .of_wp fun prog w A R s h => by
    obtain ⟨hp, g, d, tk, os⟩ := s; obtain ⟨hl, hb, h⟩ := h; have f1 := AutoSeq1.idx_int; have f2 := AutoSeq1.sub_tuple_tuple; have f3 := AutoSeq1.sub_list_list; have f4 := AutoSeq1.sub_tuple_list; have f5 := AutoSeq1.sub_list_tuple
    have hz' : (items ++ items2).size ≤ sizeLine + 1 := by rw [Array.size_append]; exact hs2
    wp_walk using (wpAny_updateSeq hl rfl (hz := hs1) (_hz' := hz')), AutoSeq1.wpAny_loadPart' hl, AutoSeq1.wpAny_loadPart' hb; exact ⟨_, rfl, h⟩
def rExtendT (K : PySem.W.Frag) : V → List V → Hp → VK → Prop := fun x vs H Q => ∃ l b xs zs, x = .ref l ∧ vs = [.ref b] ∧ H l = some (.lst xs) ∧ SqT K H b zs ∧ xs.length + zs.length ≤ sizeLine ∧ Q .non (upd H l (.lst (xs ++ zs)))
theorem mt_extendT {X : Cx} : MtM X "list.extend" (rExtendT X.K) := by
  intro pins s σ H x vs v us Q I rx rv h
  obtain ⟨l, b, xs, zs, rfl, rfl, hH, hB, hz, q⟩ := h
  cases rx
  obtain ⟨u, rfl, ru⟩ := rv.one
  cases ru
  obtain ⟨z, its, n, r, hl, e⟩ := I.lstM hH
  obtain ⟨its2, r2, ⟨⟨oc, od, dt, sl⟩, ho, hc, n2, hd⟩, hz2⟩ := I.tuple hB
  have hl2 := r2.length
  replace hc : oc = .type "tuple" := hc
  replace hd : dt = .seq its2.toArray n2 := hd
  subst hc hd
  have hsz : its.toArray.size + its2.toArray.size ≤ sizeLine := by rw [List.size_toArray, List.size_toArray]; omega
  have hlong : ¬ (!its.toArray.isEmpty && Builtin.List.listTooLong (its.toArray.size + its2.toArray.size)) = true := by
    rw [notLongL hsz, Bool.and_false]
    exact Bool.false_ne_true
  refine call_meets F.slot_list_extend ⟨_, e, rfl⟩ F.entry_list_extend (F.args_list_extend_2 _ _)
    (meets_extend_tup l its.toArray n b its2.toArray n2 od sl hlong (by rw [List.size_toArray]; omega) (by omega)) ⟨e, ho, ?_⟩
  refine ⟨.non, _, I.lset (its' := its ++ its2) hH e (by simp) (r.append r2) ?_, rfl, q⟩
  rw [List.length_append]
  omega

/-! ### del xs[a:] -/
def selFrom (start stop step : Int) (i : Nat) : Bool :=
  if step > 0 then start ≤ i && i < stop && (i - start) % step == 0
  else stop < i && i ≤ start && (start - i) % (-step) == 0
theorem filt_from (a : Nat) : ∀ (its : List Value) (j n : Nat), j + its.length ≤ n → ((its.zipIdx j).filterMap fun (x, k) => if selFrom a n 1 k then none else some x) = its.take (a - j)
  | [], j, n, _ => by simp
  | x :: r, j, n, h => by
    have ih := filt_from a r (j + 1) n (by simp only [List.length_cons] at h; omega)
    rw [List.zipIdx_cons, List.filterMap_cons]
    simp only [List.length_cons] at h
    by_cases hj : a ≤ j
    · have e : selFrom (a : Int) (n : Int) 1 j = true := by
        unfold selFrom
        simp only [show (1 : Int) > 0 by decide, if_true, Int.emod_one, beq_self_eq_true, Bool.and_true, Bool.and_eq_true, decide_eq_true_eq]
        omega
      dsimp only
      rw [if_pos e]
      show ((r.zipIdx (j + 1)).filterMap fun (x, k) => if selFrom a n 1 k then none else some x) = _
      rw [ih, show a - (j + 1) = 0 by omega, show a - j = 0 by omega]
      rfl
    · have e : selFrom (a : Int) (n : Int) 1 j = false := by
        unfold selFrom
        simp only [show (1 : Int) > 0 by decide, if_true, Int.emod_one, beq_self_eq_true, Bool.and_true, Bool.and_eq_false_iff, decide_eq_false_iff_not]
        exact Or.inl (by omega)
      dsimp only
      rw [if_neg (by rw [e]; exact Bool.false_ne_true)]
      show x :: ((r.zipIdx (j + 1)).filterMap fun (x, k) => if selFrom a n 1 k then none else some x) = _
      rw [ih, show a - j = (a - (j + 1)) + 1 by omega]
      rfl
theorem bounds_from {a n : Nat} (h : a ≤ n) : sliceBounds (some (a : Int)) none none n = ((a : Int), (n : Int), 1) := by
  simp only [sliceBounds, Option.getD_none]
  have h1 : ¬ ((a : Int) < 0) := by omega
  simp only [h1, if_false, show (1 : Int) > 0 by decide, if_true]
  congr 1
  omega
section
variable {prog : Program} {w : World} {A : Around} {E : Value → Shared → Prop} {s : Shared}
set_option maxRecDepth 100000 in
theorem delItem_from {l sl : Addr} {items : Array Value} {n : Nat} {t : Tok} {a : Nat} {Q : Unit → Shared → Prop}
    (e : s.heap.get? l = some { cls := .type "list", data := .seq items n })
    (hs : s.heap.IsSliceOf sl (.int (a : Int) t) .none .none) (hac : a ≤ items.size)
    (hsz : items.size ≤ sizeLine) (h : Q () { s with heap := s.heap.update l (Obj.mapSeq fun xs => (xs.toList.zipIdx.filterMap fun (x, k) => if selFrom a items.size 1 k then none else some x).toArray) }) :
    wpAny (model prog w) A (delItem (.ref l) (.ref sl)) Q E s := by
  have hl : s.heap.IsList l items := PySem.IsL.isList e
  obtain ⟨os, hos, hcs, hds⟩ := id hs
  have hTs : s.TypeIs (.ref sl) "slice" := ⟨os, hos, hcs⟩
  have hstep : ¬ ((rawPart none == rawInt 0) = true) := Bool.false_ne_true
  have hz' : ((fun xs : Array Value => (xs.toList.zipIdx.filterMap fun (x, k) => if selFrom a items.size 1 k then none else some x).toArray) items).size ≤ sizeLine + 1 := by
    show ((items.toList.zipIdx.filterMap fun (x, k) => if selFrom a items.size 1 k then none else some x).toArray).size ≤ sizeLine + 1
    rw [filt_from a items.toList 0 items.size (by simp)]
    simp only [List.size_toArray, List.length_take, Array.length_toList]
    omega
  unfold delItem
  try with_reducible refine wpAny_holding ?_
  first | refine wpAny_bind (wpAny_pure ?_) | skip
  refine wpAny_bind (wpAny_sequenceKey hl.typeIs (by decide) ?_)
  refine wpAny_bind (wpAny_callSpecial?_slot (name := Str.ofString "__delitem__") hl.typeIs F.slot_list_delitem
    (wpAny_call_entry F.slot_list_delitem hl.typeIs F.entry_list_delitem ?_ (F.args_list_delitem_2 _ _)))
  show wpAny _ _ (Builtin.List.listSubscript? (.ref sl) >>= _) _ _ s
  refine wpAny_bind ?_
  unfold Builtin.List.listSubscript?
  refine wpAny_bind (wpAny_specialOf hTs slice_no_index ?_)
  simp only [Option.isNone_none, if_true]
  refine wpAny_pure ?_
  show wpAny _ _ (typeOf (.ref sl) >>= _) _ _ s
  refine wpAny_bind (wpAny_typeOf hTs ?_)
  first
    | rw [if_neg (by decide)]
    | refine PySem.W.KFB.if_not (by decide) ?_
  rw [listSliceParts_eq]
  refine wpAny_bind (wpAny_bind (wpAny_field hos hds (x := .none) rfl (wpAny_bind (wpAny_listPart .none ?_))))
  rw [if_neg hstep]
  refine wpAny_bind (wpAny_field hos hds (x := .int (a : Int) t) rfl (wpAny_bind (wpAny_listPart (.int _ _) ?_)))
  refine wpAny_bind (wpAny_field hos hds (x := .none) rfl (wpAny_bind (wpAny_listPart .none (wpAny_pure ?_))))
  refine wpAny_bind (m := Builtin.List.listItems (.ref l)) ?_
  unfold Builtin.List.listItems
  refine wpAny_bind (wpAny_seqItems e rfl (wpAny_pure ?_))
  refine wpAny_bind (wpAny_of_eq ((sliceIndices_raw (some (a : Int)) none none items.size (by simp)).trans (congrArg (pure : Int × Int × Int → Sem (Int × Int × Int)) (bounds_from hac))) ?_)
  refine wpAny_bind (wpAny_rule ?_)
  show wpAny _ _ (updateSeq l (fun xs => (xs.toList.zipIdx.filterMap fun (x, k) => if selFrom a items.size 1 k then none else some x).toArray) >>= _) _ _ s
  refine wpAny_bind (wpAny_updateSeq (hz := hsz) (_hz' := hz') e rfl ?_)
  refine wpAny_bind (wpAny_letGo ?_)
  first
    | exact wpAny_bind (wpAny_pure (wpAny_pure ⟨.none, rfl, wpAny_pure h⟩))
    | exact wpAny_pure ⟨.none, rfl, wpAny_pure h⟩
end
def tDelFrom (to ti : TE) : TS := fun D σ H => to σ H fun x H1 => ti σ H1 fun y H2 => ∃ (l : Addr) (xs : List V) (i : Nat), x = .ref l ∧ y = .int (i : Int) ∧ H2 l = some (.lst xs) ∧ i ≤ xs.length ∧ D.nx σ (upd H2 l (.lst (xs.take i)))
theorem ps_delFrom {X : Cx} {o i : Expr} {to ti : TE} {tpos pos spos : Pos} (ho : PE X o to) (hi : PE X i ti) : PS X (.Delete [.Subscript o (.Slice (some i) none none spos) tpos] pos) (tDelFrom to ti) := by
  refine ⟨fun pins s σ H D I h => ?_⟩
  refine wpAny_Delete (wpAny_deleteEach_cons (wpAny_delete_Subscript (thn (ho.run pins s σ H _ I h) fun u s1 ⟨x, H1, I1, rx, q1⟩ => ?_)))
  refine wpAny_Slice (thn (hi.run pins s1 σ H1 _ I1 q1) fun vl s2 ⟨y, H2, I2, ry, q2⟩ => ?_)
  obtain ⟨l, xs, i', ex, ey, hH, hle, q2⟩ := q2
  subst ex
  subst ey
  cases (show u = Value.ref l from rx)
  obtain ⟨t, rfl⟩ := (show ∃ t, vl = Value.int (i' : Int) t from ry)
  refine thn (po_none.run pins s2 σ H2 (fun o H3 => o = none ∧ H3 = H2) I2 ⟨rfl, rfl⟩) fun vu s3 ⟨u, H3, I3, pu, eu, e3⟩ => ?_
  subst eu e3
  refine thn (po_none.run pins s3 σ H3 (fun o H4 => o = none ∧ H4 = H3) I3 ⟨rfl, rfl⟩) fun vs s4 ⟨o, H4, I4, ps, eo, e4⟩ => ?_
  subst eo e4
  cases pu
  cases ps
  have I5 : Inv X pins σ H4 { s4 with heap := s4.heap.push { cls := .type "slice", data := .fields #[.int (i' : Int) t, .none, .none] } } := I4.kept (t' := s4.toks) fun b ob q => Heap.get?_push_of_some _ q
  obtain ⟨z, its, n, r, hl, e⟩ := I5.lstM hH
  refine delItem_from (a := i') e (Heap.IsSliceOf.new _ _ .none .none) (by rw [List.size_toArray]; omega) (by rw [List.size_toArray]; omega) ?_
  refine wpAny_deleteEach_nil ⟨σ, _, I5.lset (its' := its.take i') (t' := s4.toks) hH e ?_ (r.take i') ?_, q2⟩
  · show ((its.toArray).toList.zipIdx.filterMap fun (x, k) => if selFrom i' its.toArray.size 1 k then none else some x).toArray = (its.take i').toArray
    rw [filt_from i' _ 0 _ (by simp)]
    rfl
  · rw [List.length_take]
    omega
end K47

set_option Elab.async false
set_option linter.all false
set_option maxRecDepth 100000
set_option maxHeartbeats 4000000
/-! What all walks share: tuple data over the heap, frames, a def's promise from its body, isinstance, small lemmas. -/
namespace K47
open PySem PySem.Spec PyProof.Rows L2
open C8 hiding CX0 E0

/-! ### boot builtins -/
theorem bt_len : bootBuiltins "len" = some (.builtin "len") := PySem.boot_len
theorem bt_isinstance : bootBuiltins "isinstance" = some (.builtin "isinstance") := by decide +kernel
theorem bt_int : bootBuiltins "int" = some (.type "int") := by decide +kernel
theorem bt_bool : bootBuiltins "bool" = some (.type "bool") := by decide +kernel
theorem bt_str : bootBuiltins "str" = some (.type "str") := by decide +kernel
theorem bt_tuple : bootBuiltins "tuple" = some (.type "tuple") := by decide +kernel
theorem bt_list : bootBuiltins "list" = some (.type "list") := by decide +kernel
theorem bt_all : bootBuiltins "all" = some (.builtin "all") := by decide +kernel
theorem bt_set : bootBuiltins "set" = some (.type "set") := by decide +kernel
theorem bt_abs : bootBuiltins "abs" = some (.builtin "abs") := by decide +kernel
theorem bt_sum : bootBuiltins "sum" = some (.builtin "sum") := by decide +kernel
theorem bt_max : bootBuiltins "max" = some (.builtin "max") := by decide +kernel
theorem bt_min : bootBuiltins "min" = some (.builtin "min") := by decide +kernel

/-! ### a def's promise from its body -/
section
variable {P : Program} {w : World} {K : PySem.W.Frag} {mg : Str → Option Value} {base : Heap}
/-- how arguments bind, no defaults -/
abbrev BindsB (x qual : Str) (st : Stmt) (ps : List Str) : Prop := ∀ (kV doc pm : Value) (an : Option Addr) (cdv ct : Value) (us : List Value), us.length = ps.length → bindArgs (PySem.W.fnOf x qual (defArgs st) (defBody st) (defScope st) .none kV doc pm an cdv ct) ⟨us, []⟩ = pure (ps.zip us)
theorem cal_mk {x qual : Str} {st : Stmt} {f : Addr} {fd : FuncData} {N ps : List Str} {k : Nat} {sp : Sp} (F : FnP K x qual st f fd) (hm : mg x = some (.ref f)) (b : BindsB x qual st ps) (S : FnScope N ps (defScope st)) (len : ∀ vs H Q E, sp vs H Q E → vs.length = ps.length)
    (hbody : ∀ (cdv : Value) (A : Around) (outer : List Env) (s : Shared) (H : Hp) (vs : List V) (Q : VK) (E : XK), Room k (A.deeper (envOfC qual (defScope st) s.heap.objs.size f cdv)) → sp vs H Q E →
      ∃ t, PSs (cxOf CX0 P w K mg base N qual (defScope st) f cdv A outer s H E).nox (defBody st) t ∧ t { nx := fun _ H' => Q .non H', rt := Q } (start N vs) H) : Cal P w K mg base (k + 1) x sp [] :=
  ⟨f, fd, ps, [], F.ok S len fun cdv A outer s H vs Q E hr h => let ⟨t, h1, h2⟩ := hbody cdv A outer s H vs Q E hr h; ⟨t, h1.nox, h2⟩, hm, F.kp, F.bindsN b, .nil⟩
theorem met_mk {x qual : Str} {C : Addr} {st : Stmt} {f : Addr} {fd : FuncData} {N ps : List Str} {k : Nat} {sp : Sp} (F : FnP K x qual st f fd) (c : Cls K C) (me : Meth K C x f) (b : BindsB x qual st ps) (S : FnScope N ps (defScope st)) (len : ∀ vs H Q E, sp vs H Q E → vs.length = ps.length)
    (hbody : ∀ (cdv : Value) (A : Around) (outer : List Env) (s : Shared) (H : Hp) (vs : List V) (Q : VK) (E : XK), Room k (A.deeper (envOfC qual (defScope st) s.heap.objs.size f cdv)) → sp vs H Q E →
      ∃ t, PSs (cxOf CX0 P w K mg base N qual (defScope st) f cdv A outer s H E).nox (defBody st) t ∧ t { nx := fun _ H' => Q .non H', rt := Q } (start N vs) H) : Met P w K mg base (k + 1) C x sp [] :=
  ⟨f, fd, ps, [], c, me, F.ok S len fun cdv A outer s H vs Q E hr h => let ⟨t, h1, h2⟩ := hbody cdv A outer s H vs Q E hr h; ⟨t, h1.nox, h2⟩, F.bindsN b, .nil⟩
theorem mak_mk {x qual cn : Str} {C : Addr} {st : Stmt} {f : Addr} {fd : FuncData} {N ps : List Str} {k : Nat} {sp : Sp} (F : FnP K x qual st f fd) (M : Mk K C f) (hm : mg cn = some (.ref C)) (b : BindsB x qual st ps) (S : FnScope N ps (defScope st)) (len : ∀ vs H Q E, sp vs H Q E → vs.length = ps.length)
    (hbody : ∀ (cdv : Value) (A : Around) (outer : List Env) (s : Shared) (H : Hp) (vs : List V) (Q : VK) (E : XK), Room k (A.deeper (envOfC qual (defScope st) s.heap.objs.size f cdv)) → sp vs H Q E →
      ∃ t, PSs (cxOf CX0 P w K mg base N qual (defScope st) f cdv A outer s H E).nox (defBody st) t ∧ t { nx := fun _ H' => Q .non H', rt := Q } (start N vs) H) : Mak P w K mg base (k + 1) cn C sp [] :=
  ⟨f, fd, ps, [], M, F.ok S len fun cdv A outer s H vs Q E hr h => let ⟨t, h1, h2⟩ := hbody cdv A outer s H vs Q E hr h; ⟨t, h1.nox, h2⟩, hm, F.bindsN b, .nil⟩
end
theorem hul_of {A : Around} {k : Nat} (hr : Room k A) : A.units < cLine := Nat.lt_of_succ_lt (hu_of hr)

/-! ### isinstance -/
/-- what isinstance answers -/
def Isi (K : PySem.W.Frag) (H : Hp) (x : V) (n : String) (b : Bool) : Prop := ∃ t, TyX K H x t ∧ PySem.W.kitOne K t (.type n) = some b
def rIsi1 (K : PySem.W.Frag) : List V → Hp → VK → Prop := fun xs H Q => ∃ x n b, xs = [x, .ty n] ∧ Isi K H x n b ∧ Q (.bl b) H
theorem call_isi1 {X : Cx} : CallR X (.builtin "isinstance") (rIsi1 X.K) := by
  intro pins s σ H xs us Q I r h
  obtain ⟨x, n, b, rfl, ⟨t, ty, e⟩, q⟩ := h
  exact call_isi pins s σ H _ us Q I r ⟨x, .ty n, t, .type n, b, rfl, .ty n, ty, e, q⟩
section
variable {K : PySem.W.Frag} {H : Hp}
theorem isi_int {i : Int} {n : String} {b : Bool} (h : kitB "int" n = some b := by decide +kernel) : Isi K H (.int i) n b := ⟨_, .base (.int i), kit_ty h⟩
theorem isi_str {x : Str} {n : String} {b : Bool} (h : kitB "str" n = some b := by decide +kernel) : Isi K H (.str x) n b := ⟨_, .base (.str x), kit_ty h⟩
theorem isi_non {n : String} {b : Bool} (h : kitB "NoneType" n = some b := by decide +kernel) : Isi K H .non n b := ⟨_, .base .non, kit_ty h⟩
theorem tyT {a : Addr} {xs : List V} (h : SqT K H a xs) : TyX K H (.ref a) (.type "tuple") := by
  rcases h with (h | ⟨o, h⟩) | ⟨o, its, n, hk, hc, _⟩
  · exact .base (.tup h)
  · exact .fTuple h
  · exact .kTuple hk hc
theorem isi_tup {a : Addr} {xs : List V} {n : String} {b : Bool} (hs : SqT K H a xs) (h : kitB "tuple" n = some b := by decide +kernel) : Isi K H (.ref a) n b := ⟨_, tyT hs, kit_ty h⟩
end

/-! ### rules with the written part by name (within a comprehension) -/
theorem op_inK {X : Cx} {K : PySem.W.Frag} (h : X.K = K) : OpR X (compareOp .In) (rIn K false) := h ▸ op_in_seq
theorem op_notInK {X : Cx} {K : PySem.W.Frag} (h : X.K = K) : OpR X (compareOp .NotIn) (rIn K true) := h ▸ op_notIn_seq
theorem op_eqNilK {X : Cx} {K : PySem.W.Frag} (h : X.K = K) (hu : X.A.units < cLine) : OpR X (compareOp .Eq) (rEqNil K) := h ▸ op_eqNil hu

theorem ix_tupK {X : Cx} {K : PySem.W.Frag} (h : X.K = K) : IxR X (rIxT K) := h ▸ ix_tup
theorem ix_listK {X : Cx} {K : PySem.W.Frag} (h : X.K = K) : IxR X (rIxL K) := h ▸ ix_list
def rLenK (K : PySem.W.Frag) : List V → Hp → VK → Prop := fun xs H Q => ∃ p ys, xs = [.ref p] ∧ (SqL K H p ys ∨ SqT K H p ys) ∧ Q (.int ys.length) H
theorem call_lenK {X : Cx} {K : PySem.W.Frag} (h : X.K = K) : CallR X (.builtin "len") (rLenK K) := h ▸ call_len_seq
theorem pi_tupK {X : Cx} {K : PySem.W.Frag} {tg l : Expr} {tl : TE} (h : X.K = K) (hl : PE X l tl) : PI X tg l (iTup K tl) := h ▸ pi_tup hl
theorem pg_tupK {X : Cx} {K : PySem.W.Frag} {es : List Expr} {k : Nat} {pos : Pos} {t : TGs} {n : Nat} (h : X.K = K) (hc : X.calm = true) (hs : PGs X es t)
    (hn : (assignEach es X.env).length = n := by rfl) (hst : (assignEach es X.env).findIdx? (·.1) = none := by rfl) : PG X (.Tuple es k pos) (gTup K n t) := h ▸ pg_tup hc hs hn hst
theorem pe_fldK {X : Cx} {K : PySem.W.Frag} {e : Expr} {f : Str} {pos : Pos} {ta : TE} (h : X.K = K) (he : PE X e ta) (hb : attributeBase e f X.env (eval e X.env) = eval e X.env) : PE X (.Attribute e f pos) (tFld K ta f) := h ▸ pe_fld he hb

/-! ### data: ints, texts, None, truths, tuples of data -/
mutual
inductive TD (K : PySem.W.Frag) (H : Hp) : V → PyData → Prop
  | non : TD K H .non .none
  | bl (b : Bool) : TD K H (.bl b) (.bool b)
  | int (i : Int) : TD K H (.int i) (.int i)
  | str (x : Str) : TD K H (.str x) (.str x)
  | tup {a : Addr} {xs : List V} {ds : List PyData} : SqT K H a xs → TDs K H xs ds → TD K H (.ref a) (.tuple ds)
inductive TDs (K : PySem.W.Frag) (H : Hp) : List V → List PyData → Prop
  | nil : TDs K H [] []
  | cons {v : V} {vs : List V} {d : PyData} {ds : List PyData} : TD K H v d → TDs K H vs ds → TDs K H (v :: vs) (d :: ds)
end
/-- tuples stay -/
def KeepT (H H' : Hp) : Prop := ∀ a xs, Rd H a (.tup xs) → Rd H' a (.tup xs)
theorem KeepT.refl (H : Hp) : KeepT H H := fun _ _ h => h
theorem KeepT.trans {H H1 H2 : Hp} (a : KeepT H H1) (b : KeepT H1 H2) : KeepT H H2 := fun x xs h => b x xs (a x xs h)
theorem KeepT.sq {K : PySem.W.Frag} {H H' : Hp} {a : Addr} {xs : List V} (k : KeepT H H') (h : SqT K H a xs) : SqT K H' a xs := by
  rcases h with h | h
  · exact .inl (k _ _ h)
  · exact .inr h
/-- a new object, or one that is no tuple, is written -/
theorem KeepT.upd {H : Hp} {p : Addr} {o : HO} (h : ∀ xs, ¬ Rd H p (.tup xs)) : KeepT H (upd H p o) := fun a xs e => by
  have n : a ≠ p := fun q => h xs (q ▸ e)
  rcases e with e | ⟨u, e⟩
  · exact .inl (by rw [upd_ne n]; exact e)
  · exact .inr ⟨u, by rw [upd_ne n]; exact e⟩
theorem not_tup_none {H : Hp} {p : Addr} (h : H p = none) : ∀ xs, ¬ Rd H p (.tup xs) := fun xs e => by
  rcases e with e | ⟨u, e⟩ <;> (rw [h] at e; cases e)
theorem not_tup_lst {H : Hp} {p : Addr} {ys : List V} (h : H p = some (.lst ys)) : ∀ xs, ¬ Rd H p (.tup xs) := fun xs e => by
  rcases e with e | ⟨u, e⟩ <;> (rw [h] at e; cases e)
theorem not_tup_dK {H : Hp} {p : Addr} {ys : List (Key × V)} (h : H p = some (.dK ys)) : ∀ xs, ¬ Rd H p (.tup xs) := fun xs e => by
  rcases e with e | ⟨u, e⟩ <;> (rw [h] at e; cases e)
theorem not_tup_ins {H : Hp} {p C dx : Addr} {fs : List (Str × V)} (h : H p = some (.ins C dx fs)) : ∀ xs, ¬ Rd H p (.tup xs) := fun xs e => by
  rcases e with e | ⟨u, e⟩ <;> (rw [h] at e; cases e)
mutual
theorem TD.keep {K : PySem.W.Frag} {H H' : Hp} (k : KeepT H H') : ∀ {v : V} {d : PyData}, TD K H v d → TD K H' v d
  | _, _, .non => .non
  | _, _, .bl b => .bl b
  | _, _, .int i => .int i
  | _, _, .str x => .str x
  | _, _, .tup h t => .tup (k.sq h) (TDs.keep k t)
theorem TDs.keep {K : PySem.W.Frag} {H H' : Hp} (k : KeepT H H') : ∀ {v : List V} {d : List PyData}, TDs K H v d → TDs K H' v d
  | _, _, .nil => .nil
  | _, _, .cons h t => .cons (TD.keep k h) (TDs.keep k t)
end
section
variable {K : PySem.W.Frag} {H : Hp}
theorem TDs.length : ∀ {vs : List V} {ds : List PyData}, TDs K H vs ds → vs.length = ds.length
  | _, _, .nil => rfl
  | _, _, .cons _ t => congrArg (· + 1) (TDs.length t)
theorem TDs.get : ∀ {vs : List V} {ds : List PyData} {i : Nat} {d : PyData}, TDs K H vs ds → ds[i]? = some d → ∃ v, vs[i]? = some v ∧ TD K H v d
  | _, _, _, _, .nil, e => by simp at e
  | _, _, 0, _, .cons h _, e => by
    simp at e
    subst e
    exact ⟨_, rfl, h⟩
  | _, _, i + 1, d, .cons _ t, e => by
    obtain ⟨v, h1, h2⟩ := TDs.get (i := i) (d := d) t (by simpa using e)
    exact ⟨v, by simpa using h1, h2⟩
theorem TDs.getV : ∀ {vs : List V} {ds : List PyData} {i : Nat} {v : V}, TDs K H vs ds → vs[i]? = some v → ∃ d, ds[i]? = some d ∧ TD K H v d
  | _, _, _, _, .nil, e => by simp at e
  | _, _, 0, _, .cons h _, e => by
    simp at e
    subst e
    exact ⟨_, rfl, h⟩
  | _, _, i + 1, d, .cons _ t, e => by
    obtain ⟨v, h1, h2⟩ := TDs.getV (i := i) (v := d) t (by simpa using e)
    exact ⟨v, by simpa using h1, h2⟩
theorem TDs.append : ∀ {vs us : List V} {ds es : List PyData}, TDs K H vs ds → TDs K H us es → TDs K H (vs ++ us) (ds ++ es)
  | _, _, _, _, .nil, h => h
  | _, _, _, _, .cons a t, h => .cons a (TDs.append t h)
theorem TDs.of_ix : ∀ {vs : List V} {ds : List PyData}, vs.length = ds.length → (∀ (i : Nat) (v : V) (d : PyData), vs[i]? = some v → ds[i]? = some d → TD K H v d) → TDs K H vs ds
  | [], [], _, _ => .nil
  | [], _ :: _, h, _ => by cases h
  | _ :: _, [], h, _ => by cases h
  | v :: vs, d :: ds, h, f => .cons (f 0 v d rfl rfl) (TDs.of_ix (Nat.succ.inj h) fun i u e h1 h2 => f (i + 1) u e (by simpa using h1) (by simpa using h2))
/-- a tuple's data, opened -/
theorem TD.open_ {v : V} {ds : List PyData} (h : TD K H v (.tuple ds)) : ∃ a xs, v = .ref a ∧ SqT K H a xs ∧ TDs K H xs ds := by
  cases h with
  | tup h t => exact ⟨_, _, rfl, h, t⟩
theorem TD.int_ {v : V} {i : Int} (h : TD K H v (.int i)) : v = .int i := by cases h; rfl
theorem TD.str_ {v : V} {x : Str} (h : TD K H v (.str x)) : v = .str x := by cases h; rfl
theorem TD.non_ {v : V} (h : TD K H v .none) : v = .non := by cases h; rfl
theorem TDs.strs : ∀ {vs : List V} {l : List Str}, TDs K H vs (l.map PyData.str) → vs = l.map V.str
  | _, [], .nil => rfl
  | _, x :: l, .cons h t => by
    rw [h.str_, TDs.strs (l := l) t]
    rfl
theorem TDs.ints : ∀ {vs : List V} {l : List Int}, TDs K H vs (l.map PyData.int) → vs = l.map V.int
  | _, [], .nil => rfl
  | _, x :: l, .cons h t => by
    rw [h.int_, TDs.ints (l := l) t]
    rfl
theorem TDs.ofStrs : ∀ (l : List Str), TDs K H (l.map V.str) (l.map PyData.str)
  | [] => .nil
  | x :: l => .cons (.str x) (TDs.ofStrs l)
theorem TDs.ofInts : ∀ (l : List Int), TDs K H (l.map V.int) (l.map PyData.int)
  | [] => .nil
  | x :: l => .cons (.int x) (TDs.ofInts l)
mutual
theorem TD.dp : ∀ {v : V} {d : PyData}, TD K H v d → Dp K H v d
  | _, _, .non => .non
  | _, _, .bl b => .bl b
  | _, _, .int i => .int i
  | _, _, .str x => .str x
  | _, _, .tup h t => .tup h (TDs.dp t)
theorem TDs.dp : ∀ {v : List V} {d : List PyData}, TDs K H v d → DpAll K H v d
  | _, _, .nil => .nil
  | _, _, .cons h t => .cons (TD.dp h) (TDs.dp t)
end
end

/-! ### frames: all that was tracked is as it was, but for what stands in W -/
def Ext (W : List Addr) (H H' : Hp) : Prop := ∀ a o, H a = some o → a ∉ W → H' a = some o
theorem Ext.refl {W : List Addr} (H : Hp) : Ext W H H := fun _ _ h _ => h
theorem Ext.trans {W : List Addr} {H H1 H2 : Hp} (a : Ext W H H1) (b : Ext W H1 H2) : Ext W H H2 := fun x o h n => b x o (a x o h n) n
theorem Ext.mono {W W' : List Addr} {H H' : Hp} (e : Ext W H H') (h : ∀ a ∈ W, a ∈ W') : Ext W' H H' := fun x o hx n => e x o hx fun m => n (h x m)
theorem Ext.new {W : List Addr} {H : Hp} {p : Addr} {o : HO} (h : H p = none) : Ext W H (upd H p o) := fun a u e _ => by
  rw [upd_ne (ne_of_none e h)]
  exact e
theorem Ext.put {W : List Addr} {H : Hp} {p : Addr} {o : HO} (h : p ∈ W) : Ext W H (upd H p o) := fun a u e n => by
  rw [upd_ne (fun q => n (by rw [q]; exact h))]
  exact e
/-- an object that the first heap did not know is written -/
theorem Ext.mut {W : List Addr} {H H' : Hp} {p : Addr} {o : HO} (e : Ext W H H') (h : H p = none) : Ext W H (upd H' p o) := fun a u ha n => by
  rw [upd_ne (ne_of_none ha h)]
  exact e a u ha n
theorem Ext.at_ {W : List Addr} {H H' : Hp} {p : Addr} {o : HO} (e : Ext W H H') (h : H p = some o) (n : p ∉ W) : H' p = some o := e p o h n
theorem Ext.free {W : List Addr} {H H' : Hp} (e : Ext W H H') {l : Addr} (h : H' l = none) (n : l ∉ W) : H l = none := by
  cases q : H l with
  | none => rfl
  | some o =>
    rw [e l o q n] at h
    cases h
theorem Ext.keepT {W : List Addr} {H H' : Hp} (e : Ext W H H') (h : ∀ a ∈ W, ∀ xs, ¬ Rd H a (.tup xs)) : KeepT H H' := fun a xs r => by
  have n : a ∉ W := fun m => h a m xs r
  rcases r with r | ⟨o, r⟩
  · exact .inl (e a _ r n)
  · exact .inr ⟨o, e a _ r n⟩
theorem Ext.keep0 {H H' : Hp} (e : Ext [] H H') : KeepT H H' := e.keepT fun _ m => nomatch m
theorem Ext.same {H H' : Hp} (e : Ext [] H H') : Same H H' := fun b o h => e b o h (fun m => nomatch m)
theorem Ext.ofSame {W : List Addr} {H H' : Hp} (e : Same H H') : Ext W H H' := fun b o h _ => e b o h
theorem Ext.sql {K : PySem.W.Frag} {W : List Addr} {H H' : Hp} {a : Addr} {xs : List V} (e : Ext W H H') (h : SqL K H a xs) (n : a ∉ W) : SqL K H' a xs := by
  rcases h with (h | ⟨o, h⟩) | h
  · exact .inl (.inl (e _ _ h n))
  · exact .inl (.inr ⟨o, e _ _ h n⟩)
  · exact .inr h
theorem Ext.sqt {K : PySem.W.Frag} {H H' : Hp} {a : Addr} {xs : List V} (e : Ext [] H H') (h : SqT K H a xs) : SqT K H' a xs := e.keep0.sq h

/-! ### places -/
theorem ix_nat {α : Type} {xs : List α} {i : Nat} {x : α} (h : xs[i]? = some x) : atI xs (i : Int) = some x := by
  have hl := (List.getElem?_eq_some_iff.mp h).1
  unfold atI ixN
  rw [if_pos (Int.natCast_nonneg i), if_pos (by omega)]
  exact h
theorem ix_int {α : Type} {xs : List α} {i : Int} {x : α} (h0 : 0 ≤ i) (h : xs[i.toNat]? = some x) : atI xs i = some x := by
  obtain ⟨n, rfl⟩ := Int.eq_ofNat_of_zero_le h0
  exact ix_nat h
theorem ixN_int {n : Nat} {i : Int} (h0 : 0 ≤ i) (h : i < n) : ixN n i = some i.toNat := by
  unfold ixN
  rw [if_pos h0, if_pos h]
theorem sz {n : Nat} (h : n ≤ 1000000) : n ≤ sizeLine := Nat.le_trans h (by decide)
theorem szl {n : Nat} (h : n < 1000000) : n < sizeLine := Nat.lt_of_lt_of_le h (by decide)
end K47

set_option Elab.async false
set_option linter.all false
set_option maxRecDepth 100000
set_option maxHeartbeats 4000000
namespace K47
open PySem PySem.Spec PyProof.Rows L2
open C8 hiding CX0 E0
/-- a promise: n arguments, what is asked of them -/
def spN (n : Nat) (R : List V → Hp → VK → Prop) : Sp := fun vs H Q _ => vs.length = n ∧ R vs H Q
def s_letters : Str := "abcdefghijklmnopqrstuvwxyzABCDEFGHIJKLMNOPQRSTUVWXYZ"
def s_small : Str := "abcdefghijklmnopqrstuvwxyz"
def s_digits : Str := "0123456789"
def isLet (c : Nat) : Bool := decide (c ∈ s_letters.cps.toList)
def isSma (c : Nat) : Bool := decide (c ∈ s_small.cps.toList)
def isDig (c : Nat) : Bool := decide (c ∈ s_digits.cps.toList)
/-- a name, as the text's is_name judges it -/
def nameB (x : Str) : Bool := (decide (1 ≤ x.length) && (decide (x.length ≤ 10) && !inV (.str x) (l_WORDS.map V.str))) && (x.cps.toList.head?.any isLet && x.cps.toList.all fun c => isLet c || isDig c)
def lowB (x : Str) : Bool := nameB x && x.cps.toList.head?.any isSma
def highB (x : Str) : Bool := nameB x && x.cps.toList.head?.any (fun c => !isSma c)
def kindB (x : Str) : Bool := highB x || decide (x = "whole")
def r_is_int : List V → Hp → VK → Prop := fun vs H Q => ∃ i, vs = [.int i] ∧ Q (.bl true) H
def r_within : List V → Hp → VK → Prop := fun vs H Q => ∃ i l h, vs = [.int i, .int l, .int h] ∧ Q (.bl (decide (l ≤ i) && decide (i ≤ h))) H
def r_strB (f : Str → Bool) : List V → Hp → VK → Prop := fun vs H Q => ∃ x, vs = [.str x] ∧ x.length ≤ 1000 ∧ ∀ H', Ext [] H H' → Q (.bl (f x)) H'
def r_is_tuple (K : PySem.W.Frag) : List V → Hp → VK → Prop := fun vs H Q => ∃ a xs l h, vs = [.ref a, .int l, .int h] ∧ SqT K H a xs ∧ Q (.bl (decide (l ≤ (xs.length : Int)) && decide ((xs.length : Int) ≤ h))) H
section
variable {P : Program} {w : World} {K : PySem.W.Frag} {mg : Str → Option Value} {base : Heap}
abbrev N_is_int : List Str := ["x"]
theorem sc_is_int : FnScope ["x"] ["x"] (defScope s_is_int) := ⟨rfl, rfl, rfl, by decide +kernel, rfl, by decide +kernel, by decide +kernel⟩
theorem c_is_int (T : Txt w K mg) : Cal P w K mg base 1 "is_int" (spN 1 r_is_int) [] := by
  obtain ⟨fd, F⟩ := T.f_is_int
  refine cal_mk F T.m_is_int (fun _ _ _ _ _ _ us hl => match us, hl with | [_], _ => rfl) sc_is_int (fun _ _ _ _ h => h.1) (fun cdv A outer s H vs Q E hr h => ?_)
  have hu := hu_of hr
  have hul := hul_of hr
  obtain ⟨_, i, rfl, k⟩ := h
  refine ⟨_, (pss_one (ps_ret (pe_and (pe_callB call_isi1 (by rfl) T.b_isinstance bt_isinstance (pa_cons (pv 0) (pa_cons (pe_bltn (v := .ty "int") (by rfl) T.b_int bt_int rfl) pa_nil))) (pe_one (pe_not (pe_callB call_isi1 (by rfl) T.b_isinstance bt_isinstance (pa_cons (pv 0) (pa_cons (pe_bltn (v := .ty "bool") (by rfl) T.b_bool bt_bool rfl) pa_nil)))))))), ?_⟩
  refine ⟨_, rfl, _, _, _, rfl, isi_int (b := true), true, rfl, ?_⟩
  refine iteT ?_
  exact ⟨_, rfl, _, _, _, rfl, isi_int (b := false), false, rfl, k⟩
abbrev N_within : List Str := ["x", "low", "high"]
theorem sc_within : FnScope ["x", "low", "high"] ["x", "low", "high"] (defScope s_within) := ⟨rfl, rfl, rfl, by decide +kernel, rfl, by decide +kernel, by decide +kernel⟩
theorem c_within (T : Txt w K mg) : Cal P w K mg base 2 "within" (spN 3 r_within) [] := by
  obtain ⟨fd, F⟩ := T.f_within
  refine cal_mk F T.m_within (fun _ _ _ _ _ _ us hl => match us, hl with | [_, _, _], _ => rfl) sc_within (fun _ _ _ _ h => h.1) (fun cdv A outer s H vs Q E hr h => ?_)
  have hu := hu_of hr
  have hul := hul_of hr
  obtain ⟨_, i, l, h, rfl, k⟩ := h
  refine ⟨_, (pss_one (ps_ret (pe_and (pe_c (c_is_int T) hr (by decide) (by rfl) (pa_cons (pv 0) pa_nil)) (pe_one (pe_chain op_le op_le (pv 1) (pv 0) (pv 2)))))), ?_⟩
  refine ⟨_, rfl, rfl, _, rfl, true, rfl, ?_⟩
  refine iteT ?_
  refine ⟨_, rfl, _, rfl, _, _, rfl, rfl, _, rfl, ?_⟩
  by_cases h1 : l ≤ i
  · refine ite2 (fun _ => ?_) (fun n => absurd (decide_eq_true h1) n)
    refine ⟨_, rfl, _, _, rfl, rfl, ?_⟩
    rw [decide_eq_true h1, Bool.true_and] at k
    exact k
  · refine ite2 (fun n => absurd (of_decide_eq_true n) h1) (fun _ => ?_)
    rw [decide_eq_false h1, Bool.false_and] at k
    exact k
abbrev N_is_tuple : List Str := ["thing", "least", "most"]
theorem sc_is_tuple : FnScope ["thing", "least", "most"] ["thing", "least", "most"] (defScope s_is_tuple) := ⟨rfl, rfl, rfl, by decide +kernel, rfl, by decide +kernel, by decide +kernel⟩
theorem c_is_tuple (T : Txt w K mg) : Cal P w K mg base 1 "is_tuple" (spN 3 (r_is_tuple K)) [] := by
  obtain ⟨fd, F⟩ := T.f_is_tuple
  refine cal_mk F T.m_is_tuple (fun _ _ _ _ _ _ us hl => match us, hl with | [_, _, _], _ => rfl) sc_is_tuple (fun _ _ _ _ h => h.1) (fun cdv A outer s H vs Q E hr h => ?_)
  have hu := hu_of hr
  have hul := hul_of hr
  obtain ⟨_, a, xs, l, h, rfl, hs, k⟩ := h
  refine ⟨_, (pss_one (ps_ret (pe_and (pe_callB call_isi1 (by rfl) T.b_isinstance bt_isinstance (pa_cons (pv 0) (pa_cons (pe_bltn (v := .ty "tuple") (by rfl) T.b_tuple bt_tuple rfl) pa_nil))) (pe_one (pe_chain op_le op_le (pv 1) (pe_callB (call_lenK (K := K) rfl) (by rfl) T.b_len bt_len (pa_cons (pv 0) pa_nil)) (pv 2)))))), ?_⟩
  refine ⟨_, rfl, _, _, _, rfl, isi_tup hs (b := true), true, rfl, ?_⟩
  refine iteT ?_
  refine ⟨_, rfl, _, rfl, _, _, rfl, .inr hs, _, _, rfl, rfl, _, rfl, ?_⟩
  by_cases h1 : l ≤ (xs.length : Int)
  · refine ite2 (fun _ => ?_) (fun n => absurd (decide_eq_true h1) n)
    refine ⟨_, rfl, _, _, rfl, rfl, ?_⟩
    rw [decide_eq_true h1, Bool.true_and] at k
    exact k
  · refine ite2 (fun n => absurd (of_decide_eq_true n) h1) (fun _ => ?_)
    rw [decide_eq_false h1, Bool.false_and] at k
    exact k
theorem tYes_ {σ : L2.St} {H : Hp} {Q : Bool → Hp → Prop} (h : Q true H) : tYes σ H Q := h
theorem head_ix {x : Str} {c : Nat} (h : x.cps.toList.head? = some c) : atI x.cps.toList 0 = some c := ix_nat (i := 0) (by rw [← List.head?_eq_getElem?]; exact h)
theorem len_eq (x : Str) : x.length = x.cps.toList.length := by simp [Str.length]
theorem name_len {x : Str} (h : nameB x = true) : 1 ≤ x.length ∧ x.length ≤ 10 := by
  unfold nameB at h
  simp only [Bool.and_eq_true, decide_eq_true_eq] at h
  exact ⟨h.1.1, h.1.2.1⟩
theorem name_head {x : Str} (h : nameB x = true) : ∃ c, x.cps.toList.head? = some c := by
  have hl := (name_len h).1
  rw [len_eq] at hl
  cases e : x.cps.toList with
  | nil => rw [e] at hl; simp at hl
  | cons c r => exact ⟨c, rfl⟩
theorem high_name {x : Str} (h : highB x = true) : nameB x = true := (Bool.and_eq_true_iff.mp h).1
theorem low_name {x : Str} (h : lowB x = true) : nameB x = true := (Bool.and_eq_true_iff.mp h).1
theorem kind_len {x : Str} (h : kindB x = true) : x.length ≤ 10 := by
  rcases Bool.or_eq_true_iff.mp h with h | h
  · exact (name_len (high_name h)).2
  · rw [of_decide_eq_true h]
    decide +kernel
theorem take_succ_of {α β : Type} {l : List α} {i : Nat} {x : α} (f : α → β) (h : l[i]? = some x) : (l.take (i + 1)).map f = (l.take i).map f ++ [f x] := by
  rw [List.take_succ, h, List.map_append]
  rfl
abbrev N_is_name : List Str := ["x", "sign"]
theorem sc_is_name : FnScope ["x", "sign"] ["x"] (defScope s_is_name) := ⟨rfl, rfl, rfl, by decide +kernel, rfl, by decide +kernel, by decide +kernel⟩
theorem c_is_name (T : Txt w K mg) : Cal P w K mg base 1 "is_name" (spN 1 (r_strB nameB)) [] := by
  obtain ⟨fd, F⟩ := T.f_is_name
  refine cal_mk F T.m_is_name (fun _ _ _ _ _ _ us hl => match us, hl with | [_], _ => rfl) sc_is_name (fun _ _ _ _ h => h.1) (fun cdv A outer s H vs Q E hr h => ?_)
  have hu := hu_of hr
  have hul := hul_of hr
  obtain ⟨_, x, rfl, hx, k⟩ := h
  refine ⟨_, (pss_cons (ps_if (PW.pt (pw_or (pt_not (pt_val (pe_callB call_isi1 (by rfl) T.b_isinstance bt_isinstance (pa_cons (pv 0) (pa_cons (pe_bltn (v := .ty "str") (by rfl) T.b_str bt_str rfl) pa_nil))))) (pw_or (pt_not (pt_chain op_le op_le (pe_int) (pe_callB call_len_str (by rfl) T.b_len bt_len (pa_cons (pv 0) pa_nil)) (pe_gc (by rfl) T.g_LONGEST_NAME))) (pw_or1 (pt_cmpR (op_inK (K := K) rfl) (pv 0) (pe_gc (by rfl) T.g_WORDS) (by rfl)))))) (pss_one (ps_ret (pe_bl))) (pss_nil))
      (pss_cons (ps_if (pt_cmpR op_notIn_sign (pe_ix ix_str (pv 0) (pe_int) (fun _ _ => rfl)) (pe_gc (by rfl) T.g_LETTERS) (by rfl)) (pss_one (ps_ret (pe_bl))) (pss_nil))
      (pss_one (ps_ret (pe_callB (cr_all rfl) (by rfl) T.b_all bt_all (pa_cons (pe_lc (own := [("sign", 1)]) rfl sc_is_name.nd (pi_str (pv 0)) (blkOk_by (N := N_is_name) (sc := defScope s_is_name) (by decide +kernel)) (fun _ _ _ _ _ => pg_name (i := 1) sc_is_name.nd rfl (by first | exact Or.inl rfl | exact Or.inr rfl)) (fun _ _ _ _ _ => pts_nil) (fun _ _ _ _ _ => pe_or (pe_cmpR op_in_sign (pv 1) (pe_gc (by rfl) T.g_LETTERS) (by rfl)) (pe_one (pe_cmpR op_in_sign (pv 1) (pe_gc (by rfl) T.g_DIGITS) (by rfl))))) pa_nil)))))), ?_⟩
  have k0 : nameB x = false → Q (.bl false) H := fun e => by
    have := k H (Ext.refl H)
    rw [e] at this
    exact this
  refine ⟨_, rfl, _, _, _, rfl, isi_str (b := true), true, rfl, ?_⟩
  refine iteF ?_
  refine ⟨_, rfl, _, rfl, sz (by omega), _, _, rfl, rfl, _, rfl, ?_⟩
  have hl : (1 : Int) ≤ (x.length : Int) ↔ 1 ≤ x.length := by omega
  by_cases h1 : 1 ≤ x.length
  · refine ite2 (fun _ => ?_) (fun n => absurd (decide_eq_true (hl.mpr h1)) n)
    refine ⟨_, _, rfl, rfl, _, rfl, ?_⟩
    by_cases h2 : x.length ≤ 10
    · refine ite2 (fun n => absurd n (by rw [decide_eq_true (show (x.length : Int) ≤ 10 by omega)]; exact Bool.false_ne_true)) (fun _ => ?_)
      refine ⟨_, rfl, _, _, rfl, .inr (T.t_WORDS H), rfl, by decide +kernel, _, rfl, ?_⟩
      show (if (if false = true then !inV (V.str x) (l_WORDS.map V.str) else inV (V.str x) (l_WORDS.map V.str)) = true then _ else _)
      rw [if_neg Bool.false_ne_true]
      cases h3 : inV (V.str x) (l_WORDS.map V.str) with
      | true =>
        refine iteT ?_
        refine k0 ?_
        unfold nameB
        rw [h3]
        simp
      | false =>
      refine iteF ?_
      cases h4 : x.cps.toList.head? with
      | none =>
        exfalso
        have e : x.cps.toList = [] := List.head?_eq_none_iff.mp h4
        have : x.cps.toList.length = 0 := by rw [e]; rfl
        have e2 : x.length = x.cps.toList.length := by simp [Str.length]
        omega
      | some c =>
      refine ⟨_, rfl, _, _, _, rfl, rfl, sz (by omega), head_ix h4, _, _, rfl, rfl, _, rfl, ?_⟩
      cases h5 : isLet c with
      | false =>
        have h5' : decide (c ∈ (PySem.Str.ofString "abcdefghijklmnopqrstuvwxyzABCDEFGHIJKLMNOPQRSTUVWXYZ").cps.toList) = false := h5
        refine ite2 (fun _ => ?_) (fun n => absurd (by rw [h5']; rfl) n)
        refine k0 ?_
        unfold nameB
        rw [h4]
        show (_ && (isLet c && _)) = false
        rw [h5, Bool.false_and, Bool.and_false]
      | true =>
      have h5' : decide (c ∈ (PySem.Str.ofString "abcdefghijklmnopqrstuvwxyzABCDEFGHIJKLMNOPQRSTUVWXYZ").cps.toList) = true := h5
      refine ite2 (fun n => absurd n (by rw [h5']; exact Bool.false_ne_true)) (fun _ => ?_)
      refine ⟨_, rfl, _, rfl, fun D hD => ?_⟩
      refine lc_it (walk_str (z := x)) (fun i H' => Ext [] H H' ∧ H' D = some (.lst ((x.cps.toList.take i).map fun c => V.bl (isLet c || isDig c)))) ⟨Ext.new hD, upd_same⟩ (fun _ _ _ _ => trivial) ?_ ?_
      · rintro i v H1 H2 hi ⟨e1, hl1⟩ ⟨rfl, c', hc, rfl⟩
        refine ⟨rfl, tYes_ (iteT ?_)⟩
        have hc' : x.cps.toList[i]? = some c' := by simpa using hc
        have step : ∀ b : Bool, b = (isLet c' || isDig c') → ∃ acc, H2 D = some (.lst acc) ∧ acc.length < sizeLine ∧ (Ext [] H (upd H2 D (.lst (acc ++ [V.bl b]))) ∧ (upd H2 D (.lst (acc ++ [V.bl b]))) D = some (.lst ((x.cps.toList.take (i + 1)).map fun c => V.bl (isLet c || isDig c)))) := fun b eb => by
          refine ⟨_, hl1, ?_, e1.mut hD, ?_⟩
          · rw [List.length_map, List.length_take]
            have e2 : x.length = x.cps.toList.length := by simp [Str.length]
            exact szl (by omega)
          · rw [upd_same, take_succ_of _ hc', eb]
        refine ⟨_, rfl, _, _, rfl, rfl, _, rfl, ?_⟩
        cases h6 : isLet c' with
        | true =>
          have h6' : decide (c' ∈ (PySem.Str.ofString "abcdefghijklmnopqrstuvwxyzABCDEFGHIJKLMNOPQRSTUVWXYZ").cps.toList) = true := h6
          refine ite2 (fun _ => ?_) (fun n => absurd h6' n)
          exact step true (by rw [h6]; rfl)
        | false =>
          have h6' : decide (c' ∈ (PySem.Str.ofString "abcdefghijklmnopqrstuvwxyzABCDEFGHIJKLMNOPQRSTUVWXYZ").cps.toList) = false := h6
          refine ite2 (fun n => absurd (h6'.symm.trans n) Bool.false_ne_true) (fun _ => ?_)
          refine ⟨_, rfl, _, _, rfl, rfl, ?_⟩
          exact step (isDig c') (by rw [h6]; rfl)
      · rintro H1 ⟨e1, hl1⟩
        refine ⟨D, x.cps.toList.map fun c => isLet c || isDig c, rfl, SqL.of ?_, ?_⟩
        · rw [hl1, List.take_of_length_le (by simp), List.map_map]
          rfl
        · have e : ((x.cps.toList.map fun c => isLet c || isDig c).all id) = nameB x := by
            unfold nameB
            rw [h3, h4, decide_eq_true h1, decide_eq_true h2]
            show _ = (true && (isLet c && _))
            rw [h5, List.all_map]
            rfl
          rw [e]
          exact k H1 e1
    · refine ite2 (fun _ => ?_) (fun n => absurd (by rw [decide_eq_false (show ¬ (x.length : Int) ≤ 10 by omega)]; rfl) n)
      refine k0 ?_
      unfold nameB
      rw [decide_eq_false h2]
      simp
  · refine ite2 (fun n => absurd (hl.mp (of_decide_eq_true n)) h1) (fun _ => ?_)
    refine ⟨_, rfl, iteT ?_⟩
    refine k0 ?_
    unfold nameB
    rw [decide_eq_false h1]
    simp
abbrev N_is_low : List Str := ["x"]
theorem sc_is_low : FnScope ["x"] ["x"] (defScope s_is_low) := ⟨rfl, rfl, rfl, by decide +kernel, rfl, by decide +kernel, by decide +kernel⟩
theorem c_is_low (T : Txt w K mg) : Cal P w K mg base 2 "is_low" (spN 1 (r_strB lowB)) [] := by
  obtain ⟨fd, F⟩ := T.f_is_low
  refine cal_mk F T.m_is_low (fun _ _ _ _ _ _ us hl => match us, hl with | [_], _ => rfl) sc_is_low (fun _ _ _ _ h => h.1) (fun cdv A outer s H vs Q E hr h => ?_)
  have hu := hu_of hr
  have hul := hul_of hr
  obtain ⟨_, x, rfl, hx, k⟩ := h
  refine ⟨_, (pss_one (ps_ret (pe_and (pe_c (c_is_name T) hr (by decide) (by rfl) (pa_cons (pv 0) pa_nil)) (pe_one (pe_cmpR op_in_sign (pe_ix ix_str (pv 0) (pe_int) (fun _ _ => rfl)) (pe_gc (by rfl) T.g_SMALL) (by rfl)))))), ?_⟩
  refine ⟨_, rfl, rfl, x, rfl, hx, fun H1 e1 => ⟨_, rfl, ?_⟩⟩
  have k1 := k H1 e1
  cases hn : nameB x with
  | false =>
    refine iteF ?_
    have e : lowB x = false := by
      unfold lowB
      rw [hn, Bool.false_and]
    rw [e] at k1
    exact k1
  | true =>
    refine iteT ?_
    obtain ⟨c, hc⟩ := name_head hn
    refine ⟨_, rfl, _, _, _, rfl, rfl, sz (by omega), head_ix hc, _, _, rfl, rfl, ?_⟩
    have e : lowB x = isSma c := by
      unfold lowB
      rw [hn, hc, Bool.true_and]
      rfl
    rw [e] at k1
    exact k1
abbrev N_is_high : List Str := ["x"]
theorem sc_is_high : FnScope ["x"] ["x"] (defScope s_is_high) := ⟨rfl, rfl, rfl, by decide +kernel, rfl, by decide +kernel, by decide +kernel⟩
theorem c_is_high (T : Txt w K mg) : Cal P w K mg base 2 "is_high" (spN 1 (r_strB highB)) [] := by
  obtain ⟨fd, F⟩ := T.f_is_high
  refine cal_mk F T.m_is_high (fun _ _ _ _ _ _ us hl => match us, hl with | [_], _ => rfl) sc_is_high (fun _ _ _ _ h => h.1) (fun cdv A outer s H vs Q E hr h => ?_)
  have hu := hu_of hr
  have hul := hul_of hr
  obtain ⟨_, x, rfl, hx, k⟩ := h
  refine ⟨_, (pss_one (ps_ret (pe_and (pe_c (c_is_name T) hr (by decide) (by rfl) (pa_cons (pv 0) pa_nil)) (pe_one (pe_cmpR op_notIn_sign (pe_ix ix_str (pv 0) (pe_int) (fun _ _ => rfl)) (pe_gc (by rfl) T.g_SMALL) (by rfl)))))), ?_⟩
  refine ⟨_, rfl, rfl, x, rfl, hx, fun H1 e1 => ⟨_, rfl, ?_⟩⟩
  have k1 := k H1 e1
  cases hn : nameB x with
  | false =>
    refine iteF ?_
    have e : highB x = false := by
      unfold highB
      rw [hn, Bool.false_and]
    rw [e] at k1
    exact k1
  | true =>
    refine iteT ?_
    obtain ⟨c, hc⟩ := name_head hn
    refine ⟨_, rfl, _, _, _, rfl, rfl, sz (by omega), head_ix hc, _, _, rfl, rfl, ?_⟩
    have e : highB x = !isSma c := by
      unfold highB
      rw [hn, hc, Bool.true_and]
      rfl
    rw [e] at k1
    exact k1
abbrev N_is_kind_name : List Str := ["x"]
theorem sc_is_kind_name : FnScope ["x"] ["x"] (defScope s_is_kind_name) := ⟨rfl, rfl, rfl, by decide +kernel, rfl, by decide +kernel, by decide +kernel⟩
theorem c_is_kind_name (T : Txt w K mg) : Cal P w K mg base 3 "is_kind_name" (spN 1 (r_strB kindB)) [] := by
  obtain ⟨fd, F⟩ := T.f_is_kind_name
  refine cal_mk F T.m_is_kind_name (fun _ _ _ _ _ _ us hl => match us, hl with | [_], _ => rfl) sc_is_kind_name (fun _ _ _ _ h => h.1) (fun cdv A outer s H vs Q E hr h => ?_)
  have hu := hu_of hr
  have hul := hul_of hr
  obtain ⟨_, x, rfl, hx, k⟩ := h
  refine ⟨_, (pss_one (ps_ret (pe_or (pe_c (c_is_high T) hr (by decide) (by rfl) (pa_cons (pv 0) pa_nil)) (pe_one (pe_and (pe_callB call_isi1 (by rfl) T.b_isinstance bt_isinstance (pa_cons (pv 0) (pa_cons (pe_bltn (v := .ty "str") (by rfl) T.b_str bt_str rfl) pa_nil))) (pe_one (pe_cmpR op_eq (pv 0) (pe_str) (nomark _)))))))), ?_⟩
  refine ⟨_, rfl, rfl, x, rfl, hx, fun H1 e1 => ⟨_, rfl, ?_⟩⟩
  have k1 := k H1 e1
  unfold kindB at k1
  cases hn : highB x with
  | true =>
    refine iteT ?_
    rw [hn] at k1
    exact k1
  | false =>
    refine iteF ?_
    rw [hn, Bool.false_or] at k1
    refine ⟨_, rfl, _, _, _, rfl, isi_str (b := true), true, rfl, iteT ?_⟩
    refine ⟨_, rfl, rfl, ?_⟩
    have e : decide (V.str x = V.str (PySem.Str.ofString "whole")) = decide (x = "whole") := by
      by_cases hw : x = ("whole" : Str)
      · rw [decide_eq_true hw, decide_eq_true (congrArg V.str hw)]
      · rw [decide_eq_false hw, decide_eq_false (fun q => hw (V.str.inj q))]
    show Q (V.bl (decide (V.str x = V.str (PySem.Str.ofString "whole")))) H1
    rw [e]
    exact k1
end
end K47

set_option Elab.async false
set_option linter.all false
set_option maxRecDepth 100000
set_option maxHeartbeats 4000000
namespace K47
open PySem PySem.Spec PyProof.Rows L2
open C8 hiding CX0 E0
/-! tuples of known width, comprehensions that map, kinds as data -/
section
variable {K : PySem.W.Frag} {H : Hp}
theorem TDs.nil_ {vs : List V} (h : TDs K H vs []) : vs = [] := by cases h; rfl
theorem TDs.cons_ {vs : List V} {d : PyData} {ds : List PyData} (h : TDs K H vs (d :: ds)) : ∃ v us, vs = v :: us ∧ TD K H v d ∧ TDs K H us ds := by
  cases h with
  | cons a t => exact ⟨_, _, rfl, a, t⟩
theorem TD.nil0 {v : V} (h : TD K H v (.tuple [])) : ∃ a, v = .ref a ∧ SqT K H a [] := by
  obtain ⟨a, xs, rfl, hs, t⟩ := h.open_
  rw [t.nil_] at hs
  exact ⟨a, rfl, hs⟩
theorem TD.one {v : V} {d1 : PyData} (h : TD K H v (.tuple [d1])) : ∃ a v1, v = .ref a ∧ SqT K H a [v1] ∧ TD K H v1 d1 := by
  obtain ⟨a, xs, rfl, hs, t⟩ := h.open_
  obtain ⟨v1, us, rfl, h1, t⟩ := t.cons_
  rw [t.nil_] at hs
  exact ⟨a, v1, rfl, hs, h1⟩
theorem TD.two {v : V} {d1 d2 : PyData} (h : TD K H v (.tuple [d1, d2])) : ∃ a v1 v2, v = .ref a ∧ SqT K H a [v1, v2] ∧ TD K H v1 d1 ∧ TD K H v2 d2 := by
  obtain ⟨a, xs, rfl, hs, t⟩ := h.open_
  obtain ⟨v1, us, rfl, h1, t⟩ := t.cons_
  obtain ⟨v2, us, rfl, h2, t⟩ := t.cons_
  rw [t.nil_] at hs
  exact ⟨a, v1, v2, rfl, hs, h1, h2⟩
theorem TD.three {v : V} {d1 d2 d3 : PyData} (h : TD K H v (.tuple [d1, d2, d3])) : ∃ a v1 v2 v3, v = .ref a ∧ SqT K H a [v1, v2, v3] ∧ TD K H v1 d1 ∧ TD K H v2 d2 ∧ TD K H v3 d3 := by
  obtain ⟨a, xs, rfl, hs, t⟩ := h.open_
  obtain ⟨v1, us, rfl, h1, t⟩ := t.cons_
  obtain ⟨v2, us, rfl, h2, t⟩ := t.cons_
  obtain ⟨v3, us, rfl, h3, t⟩ := t.cons_
  rw [t.nil_] at hs
  exact ⟨a, v1, v2, v3, rfl, hs, h1, h2, h3⟩
theorem TD.four {v : V} {d1 d2 d3 d4 : PyData} (h : TD K H v (.tuple [d1, d2, d3, d4])) : ∃ a v1 v2 v3 v4, v = .ref a ∧ SqT K H a [v1, v2, v3, v4] ∧ TD K H v1 d1 ∧ TD K H v2 d2 ∧ TD K H v3 d3 ∧ TD K H v4 d4 := by
  obtain ⟨a, xs, rfl, hs, t⟩ := h.open_
  obtain ⟨v1, us, rfl, h1, t⟩ := t.cons_
  obtain ⟨v2, us, rfl, h2, t⟩ := t.cons_
  obtain ⟨v3, us, rfl, h3, t⟩ := t.cons_
  obtain ⟨v4, us, rfl, h4, t⟩ := t.cons_
  rw [t.nil_] at hs
  exact ⟨a, v1, v2, v3, v4, rfl, hs, h1, h2, h3, h4⟩
/-- a tuple of strs -/
theorem TD.strs {v : V} {l : List Str} (h : TD K H v (.tuple (l.map .str))) : ∃ a, v = .ref a ∧ SqT K H a (l.map V.str) := by
  obtain ⟨a, xs, rfl, hs, t⟩ := h.open_
  rw [t.strs] at hs
  exact ⟨a, rfl, hs⟩
theorem TD.ints {v : V} {l : List Int} (h : TD K H v (.tuple (l.map .int))) : ∃ a, v = .ref a ∧ SqT K H a (l.map V.int) := by
  obtain ⟨a, xs, rfl, hs, t⟩ := h.open_
  rw [t.ints] at hs
  exact ⟨a, rfl, hs⟩
/-- the i-th of a tuple of data -/
theorem TD.at_ {α : Type} {a : Addr} {xs : List V} {l : List α} {f : α → PyData} {i : Nat} {x : α} (h : TDs K H xs (l.map f)) (e : l[i]? = some x) : ∃ v, xs[i]? = some v ∧ TD K H v (f x) :=
  h.get (by rw [List.getElem?_map, e]; rfl)
theorem TD.atV {α : Type} {xs : List V} {l : List α} {f : α → PyData} {i : Nat} {v : V} (h : TDs K H xs (l.map f)) (e : xs[i]? = some v) : ∃ x, l[i]? = some x ∧ TD K H v (f x) := by
  obtain ⟨d, h1, h2⟩ := h.getV e
  rw [List.getElem?_map] at h1
  cases q : l[i]? with
  | none => rw [q] at h1; cases h1
  | some x =>
    rw [q] at h1
    cases h1
    exact ⟨x, rfl, h2⟩
end
/-- a comprehension over a tuple, no test, whose element reads what stands: a new list of the elements' values -/
theorem lcT {K : PySem.W.Frag} {a : Addr} {xs ys : List V} {g : TG} {te : TE} {vs : List Nat} {σ : L2.St} {H1 : Hp} {D : Addr} {Qd : Hp → Prop} (hx : SqT K H1 a xs) (hD : H1 D = none) (hlen : ys.length = xs.length) (hz : xs.length < 1000000)
    (step : ∀ (i : Nat) (x y : V) (H : Hp) (Q : VK), xs[i]? = some x → ys[i]? = some y → Ext [] H1 H → (∀ H4, Ext [] H H4 → Q y H4) → g x (wipe σ vs) H fun σ2 H2 => wipe σ2 vs = wipe σ vs ∧ te σ2 H2 Q)
    (hd : ∀ H, Ext [] H1 H → H D = some (.lst ys) → Qd H) :
    ∃ W : Nat → Nat → Hp → Prop, (∃ m, W 0 m (upd H1 D (.lst []))) ∧ ∀ i m H, W i m H →
      ((Itt K a).stop i H ∧ Qd H) ∨ ((Itt K a).go i H ∧ ∃ Nx : Hp → Prop, (∀ H', Nx H' → ∃ m', m' < m ∧ W (i + 1) m' H') ∧ ∀ x H', (Itt K a).yld i H x H' → g x (wipe σ vs) H' fun σ2 H2 => wipe σ2 vs = wipe σ vs ∧ tYes σ2 H2 fun b H3 =>
        if b = true then te σ2 H3 fun y H4 => ∃ acc, H4 D = some (.lst acc) ∧ acc.length < sizeLine ∧ Nx (upd H4 D (.lst (acc ++ [y]))) else Nx H3) := by
  refine lc_tup (xs := xs) (fun i H => Ext [] H1 H ∧ H D = some (.lst (ys.take i))) ⟨Ext.new hD, upd_same⟩ (fun i H _ p => p.1.sqt hx) ?_ ?_
  · rintro i x H hi ⟨e1, hl⟩
    have hlt := (List.getElem?_eq_some_iff.mp hi).1
    have hy : ys[i]? = some ys[i] := List.getElem?_eq_getElem (by omega)
    refine step i x ys[i] H _ hi hy e1 fun H4 e4 => ?_
    refine ⟨_, e4 D _ hl (fun m => nomatch m), ?_, (e1.trans e4).mut hD, ?_⟩
    · rw [List.length_take]
      exact szl (by omega)
    · rw [upd_same, List.take_succ, hy]
      rfl
  · rintro H ⟨e1, hl⟩
    refine hd H e1 ?_
    rw [hl, List.take_of_length_le (by omega)]
/-- the same over a list that stands -/
theorem lcL {K : PySem.W.Frag} {a : Addr} {xs ys : List V} {g : TG} {te : TE} {vs : List Nat} {σ : L2.St} {H1 : Hp} {D : Addr} {Qd : Hp → Prop} (hx : SqL K H1 a xs) (hD : H1 D = none) (hlen : ys.length = xs.length) (hz : xs.length < 1000000)
    (step : ∀ (i : Nat) (x y : V) (H : Hp) (Q : VK), xs[i]? = some x → ys[i]? = some y → Ext [] H1 H → (∀ H4, Ext [] H H4 → Q y H4) → g x (wipe σ vs) H fun σ2 H2 => wipe σ2 vs = wipe σ vs ∧ te σ2 H2 Q)
    (hd : ∀ H, Ext [] H1 H → H D = some (.lst ys) → Qd H) :
    ∃ W : Nat → Nat → Hp → Prop, (∃ m, W 0 m (upd H1 D (.lst []))) ∧ ∀ i m H, W i m H →
      ((Itl K a).stop i H ∧ Qd H) ∨ ((Itl K a).go i H ∧ ∃ Nx : Hp → Prop, (∀ H', Nx H' → ∃ m', m' < m ∧ W (i + 1) m' H') ∧ ∀ x H', (Itl K a).yld i H x H' → g x (wipe σ vs) H' fun σ2 H2 => wipe σ2 vs = wipe σ vs ∧ tYes σ2 H2 fun b H3 =>
        if b = true then te σ2 H3 fun y H4 => ∃ acc, H4 D = some (.lst acc) ∧ acc.length < sizeLine ∧ Nx (upd H4 D (.lst (acc ++ [y]))) else Nx H3) := by
  refine lc_list (xs := xs) (fun i H => Ext [] H1 H ∧ H D = some (.lst (ys.take i))) ⟨Ext.new hD, upd_same⟩ (fun i H _ p => p.1.sql hx (fun m => nomatch m)) ?_ ?_
  · rintro i x H hi ⟨e1, hl⟩
    have hlt := (List.getElem?_eq_some_iff.mp hi).1
    have hy : ys[i]? = some ys[i] := List.getElem?_eq_getElem (by omega)
    refine step i x ys[i] H _ hi hy e1 fun H4 e4 => ?_
    refine ⟨_, e4 D _ hl (fun m => nomatch m), ?_, (e1.trans e4).mut hD, ?_⟩
    · rw [List.length_take]
      exact szl (by omega)
    · rw [upd_same, List.take_succ, hy]
      rfl
  · rintro H ⟨e1, hl⟩
    refine hd H e1 ?_
    rw [hl, List.take_of_length_le (by omega)]
/-- the same over what Walk walks (ranges) -/
theorem lcW {J : It} {n : Nat} {ws ys : List V} {g : TG} {te : TE} {vs : List Nat} {σ : L2.St} {H1 : Hp} {D : Addr} {Qd : Hp → Prop} (w : Walk J n (fun _ => True) (YFn fun i => ws.getD i .non)) (hD : H1 D = none) (hlen : ys.length = n) (hw : ws.length = n) (hz : n < 1000000)
    (step : ∀ (i : Nat) (x y : V) (H : Hp) (Q : VK), ws[i]? = some x → ys[i]? = some y → Ext [] H1 H → (∀ H4, Ext [] H H4 → Q y H4) → g x (wipe σ vs) H fun σ2 H2 => wipe σ2 vs = wipe σ vs ∧ te σ2 H2 Q)
    (hd : ∀ H, Ext [] H1 H → H D = some (.lst ys) → Qd H) :
    ∃ W : Nat → Nat → Hp → Prop, (∃ m, W 0 m (upd H1 D (.lst []))) ∧ ∀ i m H, W i m H →
      (J.stop i H ∧ Qd H) ∨ (J.go i H ∧ ∃ Nx : Hp → Prop, (∀ H', Nx H' → ∃ m', m' < m ∧ W (i + 1) m' H') ∧ ∀ x H', J.yld i H x H' → g x (wipe σ vs) H' fun σ2 H2 => wipe σ2 vs = wipe σ vs ∧ tYes σ2 H2 fun b H3 =>
        if b = true then te σ2 H3 fun y H4 => ∃ acc, H4 D = some (.lst acc) ∧ acc.length < sizeLine ∧ Nx (upd H4 D (.lst (acc ++ [y]))) else Nx H3) := by
  refine lc_it w (fun i H => Ext [] H1 H ∧ H D = some (.lst (ys.take i))) ⟨Ext.new hD, upd_same⟩ (fun i H _ p => trivial) ?_ ?_
  · rintro i x H H' hlt ⟨e1, hl⟩ hy
    obtain ⟨rfl, rfl⟩ := hy
    have hx : ws[i]? = some (ws.getD i .non) := by
      rw [List.getD_eq_getElem?_getD, List.getElem?_eq_getElem (by omega)]
      rfl
    have hy : ys[i]? = some ys[i] := List.getElem?_eq_getElem (by omega)
    refine step i _ ys[i] _ _ hx hy e1 fun H4 e4 => ?_
    refine ⟨_, e4 D _ hl (fun m => nomatch m), ?_, (e1.trans e4).mut hD, ?_⟩
    · rw [List.length_take]
      exact szl (by omega)
    · rw [upd_same, List.take_succ, hy]
      rfl
  · rintro H ⟨e1, hl⟩
    refine hd H e1 ?_
    rw [hl, List.take_of_length_le (by omega)]

/-! ### kinds -/
abbrev Mkr := Str × List Str
abbrev Kd := Str × List Mkr
abbrev Ks := List Kd
def eMk (m : Mkr) : PyData := .tuple [.str m.1, .tuple (m.2.map .str)]
def eMks (l : List Mkr) : PyData := .tuple (l.map eMk)
def eKd (k : Kd) : PyData := .tuple [.str k.1, eMks k.2]
def eKs (ks : Ks) : PyData := .tuple (ks.map eKd)
/-- all makers, in order, with kind, index, fields -/
def tabK (k : Kd) : List (Str × Str × Nat × List Str) := k.2.zipIdx.map fun m => (m.1.1, k.1, m.2, m.1.2)
def tabKs (ks : Ks) : List (Str × Str × Nat × List Str) := ks.flatMap tabK
def kNames (ks : Ks) : List Str := ks.map (·.1)
def mNames (ks : Ks) : List Str := ks.flatMap fun k => k.2.map (·.1)
structure KsOk (ks : Ks) : Prop where
  n : ks.length ≤ 8
  hi : ∀ k ∈ ks, highB k.1 = true
  mks : ∀ k ∈ ks, 1 ≤ k.2.length ∧ k.2.length ≤ 8
  mhi : ∀ k ∈ ks, ∀ m ∈ k.2, highB m.1 = true ∧ m.2.length ≤ 5 ∧ ∀ f ∈ m.2, f = "whole" ∨ f ∈ kNames ks
  nd : (kNames ks).Nodup
  mnd : (mNames ks).Nodup
theorem kind_of {ks : Ks} (o : KsOk ks) {f : Str} (h : f = "whole" ∨ f ∈ kNames ks) : kindB f = true := by
  unfold kindB
  rcases h with h | h
  · rw [decide_eq_true h, Bool.or_true]
  · obtain ⟨k, hk, rfl⟩ := List.mem_map.mp h
    rw [o.hi k hk, Bool.true_or]
theorem lookup_kind {ks : Ks} (o : KsOk ks) {k : Kd} (h : k ∈ ks) {i : Nat} {k' : Kd} (hi : ks[i]? = some k') (e : k'.1 = k.1) : k' = k := by
  obtain ⟨j, hj⟩ := List.mem_iff_getElem?.mp h
  have h1 : (kNames ks)[i]? = some k'.1 := by unfold kNames; rw [List.getElem?_map, hi]; rfl
  have h2 : (kNames ks)[j]? = some k.1 := by unfold kNames; rw [List.getElem?_map, hj]; rfl
  have hij : i = j := by
    have hl := (List.getElem?_eq_some_iff.mp h1).1
    exact (List.getElem?_inj hl o.nd).mp (h1.trans (by rw [e, h2]))
  subst hij
  rw [hi] at hj
  exact Option.some.inj hj
end K47

set_option Elab.async false
set_option linter.all false
set_option maxRecDepth 100000
set_option maxHeartbeats 4000000
namespace K47
open PySem PySem.Spec PyProof.Rows L2
open C8 hiding CX0 E0
def MkOk (m : Mkr) : Prop := highB m.1 = true ∧ m.2.length ≤ 5 ∧ ∀ f ∈ m.2, kindB f = true
def r_is_maker (K : PySem.W.Frag) : List V → Hp → VK → Prop := fun vs H Q => ∃ v m, vs = [v] ∧ TD K H v (eMk m) ∧ MkOk m ∧ ∀ H', Ext [] H H' → Q (.bl true) H'
def r_are_kinds (K : PySem.W.Frag) : List V → Hp → VK → Prop := fun vs H Q => ∃ v ks, vs = [v] ∧ TD K H v (eKs ks) ∧ KsOk ks ∧ ∀ H', Ext [] H H' → Q (.bl true) H'
def r_kinds_fault (K : PySem.W.Frag) : List V → Hp → VK → Prop := fun vs H Q => ∃ v ks, vs = [v] ∧ TD K H v (eKs ks) ∧ KsOk ks ∧ ∀ H', Ext [] H H' → Q .non H'
/-- a dict of makers: at each maker's name a tuple of kind, index, fields -/
def MTab (K : PySem.W.Frag) (H : Hp) (p : Addr) (es : List (Str × Str × Nat × List Str)) : Prop :=
  ∃ kvs : List (Key × V), H p = some (.dK kvs) ∧ kvs.length ≤ es.length ∧ (∀ m : Str, m ∉ es.map (·.1) → valV kvs (.inr m) = none) ∧
    ∀ e ∈ es, ∃ t f : Addr, valV kvs (.inr e.1) = some (.ref t) ∧ SqT K H t [.str e.2.1, .int e.2.2.1, .ref f] ∧ SqT K H f (e.2.2.2.map V.str)
def r_maker_table (K : PySem.W.Frag) : List V → Hp → VK → Prop := fun vs H Q => ∃ v ks, vs = [v] ∧ TD K H v (eKs ks) ∧ KsOk ks ∧ ∀ H' p, Ext [] H H' → H p = none → MTab K H' p (tabKs ks) → Q (.ref p) H'
def r_makers_of (K : PySem.W.Frag) : List V → Hp → VK → Prop := fun vs H Q => ∃ v ks k, vs = [v, .str k.1] ∧ TD K H v (eKs ks) ∧ KsOk ks ∧ k ∈ ks ∧ ∀ u H', Ext [] H H' → TD K H u (eMks k.2) → Q u H'
section
variable {P : Program} {w : World} {K : PySem.W.Frag} {mg : Str → Option Value} {base : Heap}
theorem all_true {n : Nat} : (List.replicate n true).all id = true := by
  induction n with
  | zero => rfl
  | succ n ih => rw [List.replicate_succ, List.all_cons, ih]; rfl
theorem map_rep (n : Nat) : (List.replicate n true).map V.bl = List.replicate n (V.bl true) := by rw [List.map_replicate]
theorem inV_strs (x : Str) (l : List Str) : inV (.str x) (l.map V.str) = decide (x ∈ l) := by
  unfold inV
  rw [List.any_map]
  induction l with
  | nil => rfl
  | cons y l ih =>
    rw [List.any_cons, ih]
    have e : ((fun y => eqV y (V.str x)) ∘ V.str) y = decide (x = y) := by
      show (decide (y = x)) = _
      by_cases h : y = x
      · rw [decide_eq_true h, decide_eq_true h.symm]
      · rw [decide_eq_false h, decide_eq_false (fun q => h q.symm)]
    rw [e, Bool.eq_iff_iff]
    simp
theorem flat_strs (l : List Str) : (l.map V.str).all flatV = true := by
  induction l with
  | nil => rfl
  | cons y l ih => rw [List.map_cons, List.all_cons, ih]; rfl
theorem notin_take {α : Type} {l : List α} (nd : l.Nodup) {i : Nat} {x : α} (h : l[i]? = some x) : x ∉ l.take i := by
  intro hm
  obtain ⟨j, hj⟩ := List.mem_iff_getElem?.mp hm
  rw [List.getElem?_take] at hj
  by_cases q : j < i
  · rw [if_pos q] at hj
    have hl := (List.getElem?_eq_some_iff.mp hj).1
    have := (List.getElem?_inj hl nd).mp (hj.trans h.symm)
    omega
  · rw [if_neg q] at hj
    cases hj
theorem mNames_take {ks : Ks} {i : Nat} {kd : Kd} (h : ks[i]? = some kd) : mNames (ks.take (i + 1)) = mNames (ks.take i) ++ kd.2.map (·.1) := by
  unfold mNames
  rw [List.take_succ, h, List.flatMap_append]
  simp
theorem mNames_notin {ks : Ks} (nd : (mNames ks).Nodup) {i l : Nat} {kd : Kd} {m : Mkr} (h : ks[i]? = some kd) (hm : kd.2[l]? = some m) : m.1 ∉ mNames (ks.take i) ++ (kd.2.take l).map (·.1) := by
  have hsub : (mNames (ks.take (i + 1))).Nodup := by
    have e : mNames ks = mNames (ks.take (i + 1)) ++ mNames (ks.drop (i + 1)) := by
      unfold mNames
      rw [← List.flatMap_append, List.take_append_drop]
    rw [e] at nd
    exact (List.nodup_append.mp nd).1
  rw [mNames_take h] at hsub
  have e2 : (mNames (ks.take i) ++ kd.2.map (·.1))[(mNames (ks.take i)).length + l]? = some m.1 := by
    rw [List.getElem?_append_right (by omega), Nat.add_sub_cancel_left, List.getElem?_map, hm]
    rfl
  have := notin_take hsub e2
  rw [List.take_length_add_append, ← List.map_take] at this
  exact this
abbrev N_is_maker : List Str := ["thing", "field"]
theorem sc_is_maker : FnScope ["thing", "field"] ["thing"] (defScope s_is_maker) := ⟨rfl, rfl, rfl, by decide +kernel, rfl, by decide +kernel, by decide +kernel⟩
theorem c_is_maker (T : Txt w K mg) : Cal P w K mg base 4 "is_maker" (spN 1 (r_is_maker K)) [] := by
  obtain ⟨fd, F⟩ := T.f_is_maker
  refine cal_mk F T.m_is_maker (fun _ _ _ _ _ _ us hl => match us, hl with | [_], _ => rfl) sc_is_maker (fun _ _ _ _ h => h.1) (fun cdv A outer s H vs Q E hr h => ?_)
  have hu := hu_of hr
  have hul := hul_of hr
  obtain ⟨_, v, m, rfl, hv, ⟨h1, h2, h3⟩, k⟩ := h
  obtain ⟨a, v1, v2, rfl, hs, t1, t2⟩ := hv.two
  cases t1.str_
  obtain ⟨f, rfl, hf⟩ := t2.strs
  refine ⟨_, (pss_cons (ps_if (PW.pt (pw_or (pt_not (pt_val (pe_c (c_is_tuple T) hr (by decide) (by rfl) (pa_cons (pv 0) (pa_cons (pe_int) (pa_cons (pe_int) pa_nil)))))) (pw_or1 (pt_not (pt_val (pe_c (c_is_high T) hr (by decide) (by rfl) (pa_cons (pe_ix (ix_tupK (K := K) rfl) (pv 0) (pe_int) (fun _ _ => rfl)) pa_nil))))))) (pss_one (ps_ret (pe_bl))) (pss_nil))
      (pss_cons (ps_if (pt_not (pt_val (pe_c (c_is_tuple T) hr (by decide) (by rfl) (pa_cons (pe_ix (ix_tupK (K := K) rfl) (pv 0) (pe_int) (fun _ _ => rfl)) (pa_cons (pe_int) (pa_cons (pe_gc (by rfl) T.g_MOST_FIELDS) pa_nil)))))) (pss_one (ps_ret (pe_bl))) (pss_nil))
      (pss_one (ps_ret (pe_callB (cr_all rfl) (by rfl) T.b_all bt_all (pa_cons (pe_lc (own := [("field", 1)]) rfl sc_is_maker.nd (pi_tupK (K := K) rfl (pe_ix (ix_tupK (K := K) rfl) (pv 0) (pe_int) (fun _ _ => rfl))) (blkOk_by (N := N_is_maker) (sc := defScope s_is_maker) (by decide +kernel)) (fun _ _ _ _ _ => pg_name (i := 1) sc_is_maker.nd rfl (by first | exact Or.inl rfl | exact Or.inr rfl)) (fun _ _ _ _ _ => pts_nil) (fun _ _ _ _ _ => pe_c (c_is_kind_name T) hr (by decide) (by rfl) (pa_cons (pv 1) pa_nil))) pa_nil)))))), ?_⟩
  refine ⟨_, rfl, rfl, a, _, _, _, rfl, hs, true, rfl, ?_⟩
  refine iteF ?_
  refine ⟨_, rfl, _, _, _, _, rfl, rfl, hs, rfl, rfl, m.1, rfl, by have := name_len (high_name h1); omega, fun H1 e1 => ?_⟩
  refine ⟨_, rfl, ?_⟩
  rw [h1]
  refine iteF ?_
  refine ⟨_, rfl, _, _, _, _, rfl, rfl, e1.sqt hs, rfl, rfl, f, _, _, _, rfl, e1.sqt hf, _, rfl, ?_⟩
  rw [List.length_map, decide_eq_true (show (0 : Int) ≤ (m.2.length : Int) by omega), decide_eq_true (show (m.2.length : Int) ≤ 5 by omega)]
  refine iteF ?_
  refine ⟨_, rfl, _, _, _, _, rfl, rfl, e1.sqt hs, rfl, f, rfl, ⟨_, e1.sqt hf⟩, fun D hD => ?_⟩
  refine lcT (ys := List.replicate m.2.length (.bl true)) (e1.sqt hf) hD (by simp) (by simp; omega) ?_ ?_
  · intro i x y H2 Q' hx hy e2 k'
    obtain ⟨z, hz, rfl⟩ : ∃ z, m.2[i]? = some z ∧ x = .str z := by
      rw [List.getElem?_map] at hx
      cases q : m.2[i]? with
      | none => rw [q] at hx; cases hx
      | some z => rw [q] at hx; exact ⟨z, rfl, (Option.some.inj hx).symm⟩
    have hzm : z ∈ m.2 := List.mem_of_getElem? hz
    have ey : y = .bl true := (List.mem_replicate.mp (List.mem_of_getElem? hy)).2
    refine ⟨rfl, _, rfl, rfl, z, rfl, by have := kind_len (h3 z hzm); omega, fun H4 e4 => ?_⟩
    rw [h3 z hzm]
    have := k' H4 e4
    rw [ey] at this
    exact this
  · intro H2 e2 hl
    refine ⟨D, List.replicate m.2.length true, rfl, SqL.of (by rw [hl, map_rep]), ?_⟩
    rw [all_true]
    exact k H2 (e1.trans e2)
abbrev N_are_kinds : List Str := ["thing", "entry", "maker"]
theorem sc_are_kinds : FnScope ["thing", "entry", "maker"] ["thing"] (defScope s_are_kinds) := ⟨rfl, rfl, rfl, by decide +kernel, rfl, by decide +kernel, by decide +kernel⟩
theorem c_are_kinds (T : Txt w K mg) : Cal P w K mg base 5 "are_kinds" (spN 1 (r_are_kinds K)) [] := by
  obtain ⟨fd, F⟩ := T.f_are_kinds
  refine cal_mk F T.m_are_kinds (fun _ _ _ _ _ _ us hl => match us, hl with | [_], _ => rfl) sc_are_kinds (fun _ _ _ _ h => h.1) (fun cdv A outer s H vs Q E hr h => ?_)
  have hu := hu_of hr
  have hul := hul_of hr
  obtain ⟨_, v, ks, rfl, hv, o, k⟩ := h
  obtain ⟨a, xs, rfl, hs, ts⟩ := hv.open_
  have hlen : xs.length = ks.length := by rw [ts.length, List.length_map]
  have on := o.n
  refine ⟨_, (pss_cons (ps_if (pt_not (pt_val (pe_c (c_is_tuple T) hr (by decide) (by rfl) (pa_cons (pv 0) (pa_cons (pe_int) (pa_cons (pe_gc (by rfl) T.g_MOST_KINDS) pa_nil)))))) (pss_one (ps_ret (pe_bl))) (pss_nil))
      (pss_cons (ps_for PassesOwn.never rfl (pi_tupK (K := K) rfl (pv 0)) (pg_name (i := 1) sc_are_kinds.nd rfl (by first | exact Or.inl rfl | exact Or.inr rfl))
        (pss_cons (ps_if (PW.pt (pw_or (pt_not (pt_val (pe_c (c_is_tuple T) hr (by decide) (by rfl) (pa_cons (pv 1) (pa_cons (pe_int) (pa_cons (pe_int) pa_nil)))))) (pw_or1 (pt_not (pt_val (pe_c (c_is_high T) hr (by decide) (by rfl) (pa_cons (pe_ix (ix_tupK (K := K) rfl) (pv 1) (pe_int) (fun _ _ => rfl)) pa_nil))))))) (pss_one (ps_ret (pe_bl))) (pss_nil))
      (pss_cons (ps_if (pt_not (pt_val (pe_c (c_is_tuple T) hr (by decide) (by rfl) (pa_cons (pe_ix (ix_tupK (K := K) rfl) (pv 1) (pe_int) (fun _ _ => rfl)) (pa_cons (pe_int) (pa_cons (pe_gc (by rfl) T.g_MOST_MAKERS) pa_nil)))))) (pss_one (ps_ret (pe_bl))) (pss_nil))
      (pss_one (ps_if (pt_not (pt_val (pe_callB (cr_all rfl) (by rfl) T.b_all bt_all (pa_cons (pe_lc (own := [("maker", 2)]) rfl sc_are_kinds.nd (pi_tupK (K := K) rfl (pe_ix (ix_tupK (K := K) rfl) (pv 1) (pe_int) (fun _ _ => rfl))) (blkOk_by (N := N_are_kinds) (sc := defScope s_are_kinds) (by decide +kernel)) (fun _ _ _ _ _ => pg_name (i := 2) sc_are_kinds.nd rfl (by first | exact Or.inl rfl | exact Or.inr rfl)) (fun _ _ _ _ _ => pts_nil) (fun _ _ _ _ _ => pe_c (c_is_maker T) hr (by decide) (by rfl) (pa_cons (pv 2) pa_nil))) pa_nil)))) (pss_one (ps_ret (pe_bl))) (pss_nil))))))
      (pss_one (ps_ret (pe_bl))))), ?_⟩
  refine ⟨_, rfl, rfl, a, _, _, _, rfl, hs, _, rfl, ?_⟩
  rw [hlen, decide_eq_true (show (0 : Int) ≤ (ks.length : Int) by omega), decide_eq_true (show (ks.length : Int) ≤ 8 by omega)]
  refine iteF ?_
  refine ⟨_, rfl, a, rfl, ⟨_, hs⟩, ?_⟩
  refine for_tup (xs := xs) (fun i σ H' => Ext [] H H' ∧ ∃ y z, σ = [some (.ref a), y, z]) ⟨Ext.refl H, _, _, rfl⟩ (fun i σ H' _ p => p.1.sqt hs) ?_ ?_
  · rintro i x σ H1 hi ⟨e1, y, z, rfl⟩
    obtain ⟨kd, hk, td⟩ := TD.atV ts hi
    have hkm : kd ∈ ks := List.mem_of_getElem? hk
    obtain ⟨b, u1, u2, rfl, hb, t1, t2⟩ := (td.keep e1.keep0).two
    cases t1.str_
    obtain ⟨c, ms, rfl, hc, tm⟩ := t2.open_
    have hlm : ms.length = kd.2.length := by rw [tm.length, List.length_map]
    obtain ⟨m1, m2⟩ := o.mks kd hkm
    have hh := o.hi kd hkm
    refine ⟨_, rfl, rfl, b, _, _, _, rfl, hb, true, rfl, ?_⟩
    refine iteF ?_
    refine ⟨_, rfl, _, _, _, _, rfl, rfl, hb, rfl, rfl, kd.1, rfl, by have := name_len (high_name hh); omega, fun H2 e2 => ?_⟩
    refine ⟨_, rfl, ?_⟩
    rw [hh]
    refine iteF ?_
    have hb2 := e2.sqt hb
    have hc2 := e2.sqt hc
    refine ⟨_, rfl, _, _, _, _, rfl, rfl, hb2, rfl, rfl, c, _, _, _, rfl, hc2, _, rfl, ?_⟩
    rw [hlm, decide_eq_true (show (1 : Int) ≤ (kd.2.length : Int) by omega), decide_eq_true (show (kd.2.length : Int) ≤ 8 by omega)]
    refine iteF ?_
    refine ⟨_, rfl, _, _, _, _, rfl, rfl, hb2, rfl, c, rfl, ⟨_, hc2⟩, fun D hD => ?_⟩
    refine lcT (ys := List.replicate kd.2.length (.bl true)) hc2 hD (by simp; omega) (by omega) ?_ ?_
    · intro j x y H3 Q' hx hy e3 k'
      obtain ⟨mk, hmk, tmk⟩ := TD.atV tm hx
      have hmm : mk ∈ kd.2 := List.mem_of_getElem? hmk
      obtain ⟨g1, g2, g3⟩ := o.mhi kd hkm mk hmm
      have ey : y = .bl true := (List.mem_replicate.mp (List.mem_of_getElem? hy)).2
      refine ⟨rfl, _, rfl, rfl, x, mk, rfl, tmk.keep (e2.trans e3).keep0, ⟨g1, g2, fun f hf => kind_of o (g3 f hf)⟩, fun H4 e4 => ?_⟩
      have := k' H4 e4
      rw [ey] at this
      exact this
    · intro H3 e3 hl
      refine ⟨D, List.replicate kd.2.length true, rfl, SqL.of (by rw [hl, map_rep]), ?_⟩
      rw [all_true]
      refine ⟨true, rfl, iteF ?_⟩
      exact ⟨(e1.trans e2).trans e3, _, _, rfl⟩
  · rintro σ H1 ⟨e1, y, z, rfl⟩
    exact k H1 e1
abbrev N_makers_of : List Str := ["kinds", "kind", "name", "makers"]
theorem sc_makers_of : FnScope ["kinds", "kind", "name", "makers"] ["kinds", "kind"] (defScope s_makers_of) := ⟨rfl, rfl, rfl, by decide +kernel, rfl, by decide +kernel, by decide +kernel⟩
theorem c_makers_of (T : Txt w K mg) : Cal P w K mg base 1 "makers_of" (spN 2 (r_makers_of K)) [] := by
  obtain ⟨fd, F⟩ := T.f_makers_of
  refine cal_mk F T.m_makers_of (fun _ _ _ _ _ _ us hl => match us, hl with | [_, _], _ => rfl) sc_makers_of (fun _ _ _ _ h => h.1) (fun cdv A outer s H vs Q E hr h => ?_)
  have hu := hu_of hr
  have hul := hul_of hr
  obtain ⟨_, v, ks, kd, rfl, hv, o, hk, k⟩ := h
  obtain ⟨a, xs, rfl, hs, ts⟩ := hv.open_
  refine ⟨_, (pss_cons (ps_for PassesOwn.never rfl (pi_tupK (K := K) rfl (pv 0)) (pg_tupK (K := K) (n := 2) rfl rfl (pgs_cons (pg_name (i := 2) sc_makers_of.nd rfl (by first | exact Or.inl rfl | exact Or.inr rfl)) (pgs_cons (pg_name (i := 3) sc_makers_of.nd rfl (by first | exact Or.inl rfl | exact Or.inr rfl)) pgs_nil)))
        (pss_one (ps_if (pt_cmpR op_eq (pv 2) (pv 1) (nomark _)) (pss_one (ps_ret (pv 3))) (pss_nil))))
      (pss_one (ps_ret (pe_tup (pa_nil))))), ?_⟩
  refine ⟨_, rfl, a, rfl, ⟨_, hs⟩, ?_⟩
  refine for_tup (xs := xs) (fun i σ H' => H' = H ∧ (∃ y z, σ = [some (.ref a), some (.str kd.1), y, z]) ∧ ∀ j < i, ∀ k', ks[j]? = some k' → k'.1 ≠ kd.1) ⟨rfl, ⟨_, _, rfl⟩, fun j hj => absurd hj (Nat.not_lt_zero j)⟩ (fun i σ H' _ p => by rw [p.1]; exact hs) ?_ ?_
  · rintro i x σ H1 hi ⟨rfl, ⟨y, z, rfl⟩, hp⟩
    obtain ⟨kd', hk', td⟩ := TD.atV ts hi
    obtain ⟨b, u1, u2, rfl, hb, t1, t2⟩ := td.two
    cases t1.str_
    refine ⟨b, _, rfl, hb, rfl, _, _, rfl, _, _, rfl, rfl, ?_⟩
    refine ⟨_, rfl, _, rfl, rfl, _, rfl, ?_⟩
    by_cases hn : kd'.1 = kd.1
    · refine ite2 (fun _ => ?_) (fun n => absurd (decide_eq_true (congrArg V.str hn)) n)
      have e := lookup_kind o hk hk' hn
      subst e
      exact ⟨_, rfl, k _ _ (Ext.refl _) t2⟩
    · refine ite2 (fun n => absurd (V.str.inj (of_decide_eq_true n)) hn) (fun _ => ?_)
      refine ⟨rfl, ⟨_, _, rfl⟩, fun j hj k' hkj => ?_⟩
      rcases Nat.lt_succ_iff_lt_or_eq.mp hj with q | q
      · exact hp j q k' hkj
      · subst q
        rw [hk'] at hkj
        cases hkj
        exact hn
  · rintro σ H1 ⟨rfl, ⟨y, z, rfl⟩, hp⟩
    obtain ⟨j, hj⟩ := List.mem_iff_getElem?.mp hk
    have hl := (List.getElem?_eq_some_iff.mp hj).1
    exact absurd rfl (hp j (by rw [ts.length, List.length_map]; exact hl) kd hj)
abbrev N_kinds_fault : List Str := ["kinds", "names", "entry", "seen_kinds", "seen_makers", "name", "makers", "maker", "fields", "field"]
theorem sc_kinds_fault : FnScope ["kinds", "names", "entry", "seen_kinds", "seen_makers", "name", "makers", "maker", "fields", "field"] ["kinds"] (defScope s_kinds_fault) := ⟨rfl, rfl, rfl, by decide +kernel, rfl, by decide +kernel, by decide +kernel⟩
theorem c_kinds_fault (T : Txt w K mg) : Cal P w K mg base 1 "kinds_fault" (spN 1 (r_kinds_fault K)) [] := by
  obtain ⟨fd, F⟩ := T.f_kinds_fault
  refine cal_mk F T.m_kinds_fault (fun _ _ _ _ _ _ us hl => match us, hl with | [_], _ => rfl) sc_kinds_fault (fun _ _ _ _ h => h.1) (fun cdv A outer s H vs Q E hr h => ?_)
  have hu := hu_of hr
  have hul := hul_of hr
  obtain ⟨_, v, ks, rfl, hv, o, k⟩ := h
  obtain ⟨a, xs, rfl, hs, ts⟩ := hv.open_
  have hlen : xs.length = ks.length := by rw [ts.length, List.length_map]
  have on := o.n
  refine ⟨_, (pss_cons (ps_set (i := 1) sc_kinds_fault.nd rfl (by first | exact Or.inl rfl | exact Or.inr rfl) (pe_op op_cat (pe_lc (own := [("entry", 2)]) rfl sc_kinds_fault.nd (pi_tupK (K := K) rfl (pv 0)) (blkOk_by (N := N_kinds_fault) (sc := defScope s_kinds_fault) (by decide +kernel)) (fun _ _ _ _ _ => pg_name (i := 2) sc_kinds_fault.nd rfl (by first | exact Or.inl rfl | exact Or.inr rfl)) (fun _ _ _ _ _ => pts_nil) (fun _ _ _ _ _ => pe_ix (ix_tupK (K := K) rfl) (pv 2) (pe_int) (fun _ _ => rfl))) (pe_lst (pa_cons (pe_str) pa_nil))))
      (pss_cons (ps_set (i := 3) sc_kinds_fault.nd rfl (by first | exact Or.inl rfl | exact Or.inr rfl) (pe_callTy0 cr_set0K (by rfl) T.b_set bt_set))
      (pss_cons (ps_set (i := 4) sc_kinds_fault.nd rfl (by first | exact Or.inl rfl | exact Or.inr rfl) (pe_callTy0 cr_set0K (by rfl) T.b_set bt_set))
      (pss_cons (ps_for PassesOwn.never rfl (pi_tupK (K := K) rfl (pv 0)) (pg_tupK (K := K) (n := 2) rfl rfl (pgs_cons (pg_name (i := 5) sc_kinds_fault.nd rfl (by first | exact Or.inl rfl | exact Or.inr rfl)) (pgs_cons (pg_name (i := 6) sc_kinds_fault.nd rfl (by first | exact Or.inl rfl | exact Or.inr rfl)) pgs_nil)))
        (pss_cons (ps_if (pt_cmpR or_sinK (pv 5) (pv 3) (by rfl)) (pss_one (ps_ret (pe_str))) (pss_nil))
      (pss_cons (ps_expr (pe_saddK (pv 3) (pa_cons (pv 5) pa_nil)))
      (pss_one (ps_for PassesOwn.never rfl (pi_tupK (K := K) rfl (pv 6)) (pg_tupK (K := K) (n := 2) rfl rfl (pgs_cons (pg_name (i := 7) sc_kinds_fault.nd rfl (by first | exact Or.inl rfl | exact Or.inr rfl)) (pgs_cons (pg_name (i := 8) sc_kinds_fault.nd rfl (by first | exact Or.inl rfl | exact Or.inr rfl)) pgs_nil)))
        (pss_cons (ps_if (pt_cmpR or_sinK (pv 7) (pv 4) (by rfl)) (pss_one (ps_ret (pe_str))) (pss_nil))
      (pss_cons (ps_expr (pe_saddK (pv 4) (pa_cons (pv 7) pa_nil)))
      (pss_one (ps_if (pt_not (pt_val (pe_callB (cr_all rfl) (by rfl) T.b_all bt_all (pa_cons (pe_lc (own := [("field", 9)]) rfl sc_kinds_fault.nd (pi_tupK (K := K) rfl (pv 8)) (blkOk_by (N := N_kinds_fault) (sc := defScope s_kinds_fault) (by decide +kernel)) (fun _ _ _ _ _ => pg_name (i := 9) sc_kinds_fault.nd rfl (by first | exact Or.inl rfl | exact Or.inr rfl)) (fun _ _ _ _ _ => pts_nil) (fun _ _ _ _ _ => pe_cmpR (op_inK (K := K) rfl) (pv 9) (pv 1) (by rfl))) pa_nil)))) (pss_one (ps_ret (pe_str))) (pss_nil))))))))))
      (pss_one (ps_ret (pe_non))))))), ?_⟩
  refine ⟨_, rfl, a, rfl, ⟨_, hs⟩, fun D hD => ?_⟩
  refine lcT (ys := (kNames ks).map V.str) hs hD (by simp [kNames, hlen]) (by omega) ?_ ?_
  · intro i x y H2 Q' hx hy e2 k'
    obtain ⟨kd, hk, td⟩ := TD.atV ts hx
    obtain ⟨b, u1, u2, rfl, hb, t1, t2⟩ := (td.keep e2.keep0).two
    cases t1.str_
    refine ⟨rfl, _, rfl, _, _, _, _, rfl, rfl, hb, rfl, ?_⟩
    have ey : y = .str kd.1 := by
      unfold kNames at hy
      rw [List.map_map, List.getElem?_map, hk] at hy
      exact (Option.some.inj hy).symm
    rw [← ey]
    exact k' H2 (Ext.refl H2)
  intro H2 e2 hD2
  refine ⟨by show 1 ≤ sizeLine; decide, fun p hp => ?_⟩
  have nDp : D ≠ p := ne_of_none hD2 hp
  refine ⟨D, p, _, _, rfl, rfl, by rw [upd_ne nDp]; exact hD2, upd_same, by rw [List.length_map]; unfold kNames; rw [List.length_map]; exact sz (by simp; omega), fun nm hnm => ?_⟩
  -- the two sets
  refine ⟨rfl, fun sk hsk => ?_⟩
  refine ⟨rfl, fun sm hsm => ?_⟩
  have e3 : Ext [] H (upd (upd H2 p (.lst [.str "whole"])) nm (.lst ((kNames ks).map V.str ++ [.str "whole"]))) := (e2.trans (Ext.new hp)).trans (Ext.new hnm)
  have e4 := e3.trans (Ext.new (o := SetK P w sk (fun _ => false) 0) hsk)
  have e5 := e4.trans (Ext.new (o := SetK P w sm (fun _ => false) 0) hsm)
  have n1 : nm ≠ sk := ne_of_none upd_same hsk
  have n2 : nm ≠ sm := ne_of_none (by rw [upd_ne n1]; exact upd_same) hsm
  have n3 : sk ≠ sm := ne_of_none upd_same hsm
  have fk : H sk = none := e3.free hsk (fun m => nomatch m)
  have fm : H sm = none := e4.free hsm (fun m => nomatch m)
  refine ⟨_, rfl, a, rfl, ⟨_, e5.sqt hs⟩, ?_⟩
  refine for_tup (xs := xs) (fun i σ H' => Ext [] H H' ∧ (∃ y2 y5 y6 y7 y8 y9, σ = [some (.ref a), some (.ref nm), y2, some (.ref sk), some (.ref sm), y5, y6, y7, y8, y9]) ∧
      H' nm = some (.lst ((kNames ks).map V.str ++ [.str "whole"])) ∧ (∃ S1 c1, H' sk = some (SetK P w sk S1 c1) ∧ c1 ≤ i ∧ ∀ key, S1 key = true → key ∈ ((kNames ks).take i).map (fun z : Str => (Sum.inr z : Key))) ∧
      ∃ S2 c2, H' sm = some (SetK P w sm S2 c2) ∧ c2 ≤ 8 * i ∧ ∀ key, S2 key = true → key ∈ (mNames (ks.take i)).map (fun z : Str => (Sum.inr z : Key)))
    ⟨e5, ⟨_, _, _, _, _, _, rfl⟩, by rw [upd_ne n2, upd_ne n1, upd_same], ⟨_, 0, (upd_ne n3).trans upd_same, Nat.le_refl _, fun _ q => absurd q Bool.false_ne_true⟩, _, 0, upd_same, Nat.zero_le _, fun _ q => absurd q Bool.false_ne_true⟩ (fun i σ H' _ p => p.1.sqt hs) ?_ ?_
  · rintro i x σ H1 hi ⟨f1, ⟨y2, y5, y6, y7, y8, y9, rfl⟩, h1, ⟨S1, c1, h2, l1, g1⟩, S2, c2, h3, l2, g2⟩
    obtain ⟨kd, hk, td⟩ := TD.atV ts hi
    have hkm : kd ∈ ks := List.mem_of_getElem? hk
    have hil : i < ks.length := (List.getElem?_eq_some_iff.mp hk).1
    obtain ⟨b, u1, u2, rfl, hb, t1, t2⟩ := (td.keep f1.keep0).two
    cases t1.str_
    obtain ⟨c, ms, rfl, hc, tm⟩ := t2.open_
    obtain ⟨m1, m2⟩ := o.mks kd hkm
    refine ⟨b, _, rfl, hb, rfl, _, _, rfl, _, _, rfl, rfl, ?_⟩
    refine ⟨_, rfl, _, rfl, .inr kd.1, sk, S1, c1, rfl, rfl, h2, _, rfl, ?_⟩
    have hN : (kNames ks)[i]? = some kd.1 := by unfold kNames; rw [List.getElem?_map, hk]; rfl
    have no1 : S1 (.inr kd.1) = false := by
      cases q : S1 (.inr kd.1) with
      | false => rfl
      | true =>
        obtain ⟨z, hz, ez⟩ := List.mem_map.mp (g1 _ q)
        cases ez
        exact absurd hz (notin_take o.nd hN)
    show (if (if false = true then !S1 (.inr kd.1) else S1 (.inr kd.1)) = true then _ else _)
    rw [if_neg Bool.false_ne_true, no1]
    refine iteF ?_
    refine ⟨_, rfl, ⟨_, _, _, rfl, h2⟩, _, rfl, sk, .inr kd.1, S1, c1, rfl, rfl, h2, by rw [show scanBound = 4096 from rfl]; omega, ?_⟩
    have hmut : ∀ {p : Addr} {o' : HO}, H p = none → Ext [] H (upd H1 p o') := fun q => f1.mut q
    have k1 : KeepT H1 (upd H1 sk (SetK P w sk (fun j => S1 j || decide (j = .inr kd.1)) (if S1 (.inr kd.1) = true then c1 else c1 + 1))) := KeepT.upd fun zs r => by
      rcases r with r | ⟨_, r⟩ <;> (rw [h2] at r; cases r)
    refine ⟨_, rfl, c, rfl, ⟨_, k1.sq hc⟩, ?_⟩
    refine for_tup (xs := ms) (fun l σ H' => Ext [] H H' ∧ (∃ y2 y7 y8 y9, σ = [some (.ref a), some (.ref nm), y2, some (.ref sk), some (.ref sm), some (.str kd.1), some (.ref c), y7, y8, y9]) ∧ SqT K H' c ms ∧ TDs K H' ms (kd.2.map eMk) ∧
        H' nm = some (.lst ((kNames ks).map V.str ++ [.str "whole"])) ∧ (∃ S1 c1, H' sk = some (SetK P w sk S1 c1) ∧ c1 ≤ i + 1 ∧ ∀ key, S1 key = true → key ∈ ((kNames ks).take (i + 1)).map (fun z : Str => (Sum.inr z : Key))) ∧
        ∃ S2 c2, H' sm = some (SetK P w sm S2 c2) ∧ c2 ≤ 8 * i + l ∧ ∀ key, S2 key = true → key ∈ (mNames (ks.take i) ++ (kd.2.take l).map (·.1)).map (fun z : Str => (Sum.inr z : Key)))
      ⟨hmut fk, ⟨_, _, _, _, rfl⟩, k1.sq hc, tm.keep k1, by rw [upd_ne n1]; exact h1, ⟨_, _, upd_same, by rw [no1]; simp; omega, ?_⟩, S2, c2, by rw [upd_ne n3.symm]; exact h3, by omega, ?_⟩ (fun l σ H' _ p => p.2.2.1) ?_ ?_
    · intro key q
      rw [List.take_succ, hN, List.map_append, List.mem_append]
      rcases Bool.or_eq_true_iff.mp q with q | q
      · exact .inl (g1 _ q)
      · exact .inr (by rw [of_decide_eq_true q]; simp)
    · intro key q
      rw [List.take_zero]
      simpa using g2 _ q
    · rintro l x σ H3 hx ⟨f3, ⟨z2, z7, z8, z9, rfl⟩, hc3, tm3, q1, ⟨S1', c1', q2, l1', g1'⟩, S2', c2', q3, l2', g2'⟩
      obtain ⟨mk, hmk, tmk⟩ := TD.atV tm3 hx
      have hmm : mk ∈ kd.2 := List.mem_of_getElem? hmk
      have hll : l < kd.2.length := (List.getElem?_eq_some_iff.mp hmk).1
      obtain ⟨w1, w2, w3⟩ := o.mhi kd hkm mk hmm
      obtain ⟨d, v1, v2, rfl, hd, r1, r2⟩ := tmk.two
      cases r1.str_
      obtain ⟨f, rfl, hf⟩ := r2.strs
      refine ⟨d, _, rfl, hd, rfl, _, _, rfl, _, _, rfl, rfl, ?_⟩
      refine ⟨_, rfl, _, rfl, .inr mk.1, sm, S2', c2', rfl, rfl, q3, _, rfl, ?_⟩
      have no2 : S2' (.inr mk.1) = false := by
        cases q : S2' (.inr mk.1) with
        | false => rfl
        | true =>
          obtain ⟨z, hz, ez⟩ := List.mem_map.mp (g2' _ q)
          cases ez
          exact absurd hz (mNames_notin o.mnd hk hmk)
      show (if (if false = true then !S2' (.inr mk.1) else S2' (.inr mk.1)) = true then _ else _)
      rw [if_neg Bool.false_ne_true, no2]
      refine iteF ?_
      refine ⟨_, rfl, ⟨_, _, _, rfl, q3⟩, _, rfl, sm, .inr mk.1, S2', c2', rfl, rfl, q3, by rw [show scanBound = 4096 from rfl]; omega, ?_⟩
      have k3 : KeepT H3 (upd H3 sm (SetK P w sm (fun j => S2' j || decide (j = .inr mk.1)) (if S2' (.inr mk.1) = true then c2' else c2' + 1))) := KeepT.upd fun zs r => by
        rcases r with r | ⟨_, r⟩ <;> (rw [q3] at r; cases r)
      have nm3 : (upd H3 sm (SetK P w sm (fun j => S2' j || decide (j = .inr mk.1)) (if S2' (.inr mk.1) = true then c2' else c2' + 1))) nm = some (.lst ((kNames ks).map V.str ++ [.str "whole"])) := by rw [upd_ne n2]; exact q1
      refine ⟨_, rfl, f, rfl, ⟨_, k3.sq hf⟩, fun D' hD' => ?_⟩
      refine lcT (ys := List.replicate mk.2.length (.bl true)) (k3.sq hf) hD' (by simp) (by simp; omega) ?_ ?_
      · intro j x y H4 Q' hx' hy e4 k'
        obtain ⟨z, hz, rfl⟩ : ∃ z, mk.2[j]? = some z ∧ x = .str z := by
          rw [List.getElem?_map] at hx'
          cases q : mk.2[j]? with
          | none => rw [q] at hx'; cases hx'
          | some z => rw [q] at hx'; exact ⟨z, rfl, (Option.some.inj hx').symm⟩
        have hzm : z ∈ mk.2 := List.mem_of_getElem? hz
        have ey : y = .bl true := (List.mem_replicate.mp (List.mem_of_getElem? hy)).2
        have ens : ((kNames ks).map V.str ++ [V.str "whole"]) = (kNames ks ++ [("whole" : Str)]).map V.str := by simp
        refine ⟨rfl, _, rfl, _, rfl, nm, _, rfl, .inl (SqL.of (e4 _ _ nm3 (fun m => nomatch m))), rfl, by rw [ens]; exact flat_strs _, ?_⟩
        rw [if_neg Bool.false_ne_true, ens, inV_strs, decide_eq_true (by rcases w3 z hzm with q | q <;> simp [q])]
        have := k' H4 (Ext.refl H4)
        rw [ey] at this
        exact this
      · intro H4 e4 hl4
        refine ⟨D', List.replicate mk.2.length true, rfl, SqL.of (by rw [hl4, map_rep]), ?_⟩
        rw [all_true]
        refine ⟨true, rfl, iteF ?_⟩
        have ks4 := k3.trans e4.keep0
        refine ⟨(f3.mut fm).trans e4, ⟨_, _, _, _, rfl⟩, ks4.sq hc3, tm3.keep ks4, e4 _ _ nm3 (fun m => nomatch m), ⟨S1', c1', e4 _ _ (by rw [upd_ne n3]; exact q2) (fun m => nomatch m), l1', g1'⟩, _, _, e4 _ _ upd_same (fun m => nomatch m), by rw [no2]; simp; omega, ?_⟩
        intro key q
        rw [List.take_succ, hmk]
        simp only [List.map_append, List.mem_append]
        rcases Bool.or_eq_true_iff.mp q with q | q
        · have := g2' _ q
          simp only [List.map_append, List.mem_append] at this
          rcases this with h | h
          · exact .inl h
          · exact .inr (.inl h)
        · exact .inr (.inr (by rw [of_decide_eq_true q]; simp))
    · rintro σ H3 ⟨f3, ⟨z2, z7, z8, z9, rfl⟩, hc3, tm3, q1, ⟨S1', c1', q2, l1', g1'⟩, S2', c2', q3, l2', g2'⟩
      have hlm : ms.length = kd.2.length := by rw [tm.length, List.length_map]
      refine ⟨f3, ⟨_, _, _, _, _, _, rfl⟩, q1, ⟨S1', c1', q2, l1', g1'⟩, S2', c2', q3, by omega, fun key q => ?_⟩
      have := g2' key q
      rw [hlm, List.take_length] at this
      rw [mNames_take hk]
      exact this
  · rintro σ H1 ⟨f1, _, _⟩
    exact k H1 f1
end
end K47

set_option Elab.async false
set_option linter.all false
set_option maxRecDepth 100000
set_option maxHeartbeats 4000000
namespace K47
open PySem PySem.Spec PyProof.Rows L2
open C8 hiding CX0 E0
section
variable {P : Program} {w : World} {K : PySem.W.Frag} {mg : Str → Option Value} {base : Heap}
theorem MTab.keep {H H' : Hp} {p : Addr} {es : List (Str × Str × Nat × List Str)} (M : MTab K H p es) (k : KeepT H H') (hp : ∀ o, H p = some o → H' p = some o) : MTab K H' p es := by
  obtain ⟨kvs, h1, h2, h3, h4⟩ := M
  refine ⟨kvs, hp _ h1, h2, h3, fun e he => ?_⟩
  obtain ⟨t, f, a, b, c⟩ := h4 e he
  exact ⟨t, f, a, k.sq b, k.sq c⟩
theorem putK_len' {κ : Type} [DecidableEq κ] (c : List (κ × V)) (k : κ) (x : V) : (putK c k x).length ≤ c.length + 1 := by
  unfold putK
  split
  · rw [List.length_map]
    omega
  · rw [List.length_append]
    exact Nat.le_refl _
theorem MTab.put {H : Hp} {p : Addr} {es : List (Str × Str × Nat × List Str)} {e : Str × Str × Nat × List Str} {t f : Addr} (M : MTab K H p es) (hn : e.1 ∉ es.map (·.1)) (ht : SqT K H t [.str e.2.1, .int e.2.2.1, .ref f]) (hf : SqT K H f (e.2.2.2.map V.str)) :
    ∃ kvs, H p = some (.dK kvs) ∧ kvs.length ≤ es.length ∧ MTab K (upd H p (.dK (putK kvs (.inr e.1) (.ref t)))) p (es ++ [e]) := by
  obtain ⟨kvs, h1, h2, h3, h4⟩ := M
  have k : KeepT H (upd H p (.dK (putK kvs (.inr e.1) (.ref t)))) := KeepT.upd (not_tup_dK h1)
  refine ⟨kvs, h1, h2, _, upd_same, ?_, fun m hm => ?_, fun e' he => ?_⟩
  · rw [List.length_append, List.length_singleton]
    have := putK_len' kvs (.inr e.1) (.ref t)
    omega
  · rw [List.map_append, List.mem_append] at hm
    have n1 : ¬ (Sum.inr m : Key) = Sum.inr e.1 := fun q => hm (.inr (by simp [Sum.inr.inj q]))
    rw [valV_put, if_neg n1]
    exact h3 m fun q => hm (.inl q)
  · rcases List.mem_append.mp he with q | q
    · obtain ⟨t', f', a, b, c⟩ := h4 e' q
      refine ⟨t', f', ?_, k.sq b, k.sq c⟩
      have n1 : ¬ (Sum.inr e'.1 : Key) = Sum.inr e.1 := fun z => hn (by rw [← Sum.inr.inj z]; exact List.mem_map_of_mem q)
      rw [valV_put, if_neg n1]
      exact a
    · have e2 : e' = e := by simpa using q
      subst e2
      exact ⟨t, f, by rw [valV_put, if_pos rfl], k.sq ht, k.sq hf⟩
theorem tabKs_take {ks : Ks} {i : Nat} {kd : Kd} (h : ks[i]? = some kd) : tabKs (ks.take (i + 1)) = tabKs (ks.take i) ++ tabK kd := by
  unfold tabKs
  rw [List.take_succ, h, List.flatMap_append]
  simp
theorem tabK_at {kd : Kd} {l : Nat} {m : Mkr} (h : kd.2[l]? = some m) : (tabK kd)[l]? = some (m.1, kd.1, l, m.2) := by
  unfold tabK
  rw [List.getElem?_map, List.getElem?_zipIdx, h]
  simp
theorem tabK_names (kd : Kd) : (tabK kd).map (·.1) = kd.2.map (·.1) := by
  unfold tabK
  rw [List.map_map]
  have : ((fun x : Str × Str × Nat × List Str => x.1) ∘ fun m : Mkr × Nat => (m.1.1, kd.1, m.2, m.1.2)) = (fun m : Mkr => m.1) ∘ Prod.fst := rfl
  rw [this, ← List.map_map, List.zipIdx_map_fst]
theorem tabKs_names (ks : Ks) : (tabKs ks).map (·.1) = mNames ks := by
  unfold tabKs mNames
  rw [List.map_flatMap]
  congr 1
  funext k
  exact tabK_names k
theorem tabK_len (kd : Kd) : (tabK kd).length = kd.2.length := by
  unfold tabK
  simp
theorem flat_len (m : Nat) : ∀ l : Ks, (∀ k ∈ l, k.2.length ≤ m) → (tabKs l).length ≤ m * l.length
  | [], _ => Nat.le_refl _
  | k :: l, h => by
    have ih := flat_len m l fun k hk => h k (List.mem_cons_of_mem _ hk)
    have h1 := h k List.mem_cons_self
    have e : (tabKs (k :: l)).length = (tabK k).length + (tabKs l).length := by
      unfold tabKs
      rw [List.flatMap_cons, List.length_append]
    rw [e, tabK_len, List.length_cons, Nat.mul_succ]
    omega
theorem tabKs_len {ks : Ks} (o : KsOk ks) (i : Nat) : (tabKs (ks.take i)).length ≤ 64 := by
  have h1 := flat_len 8 (ks.take i) fun k hk => (o.mks k (List.mem_of_mem_take hk)).2
  have h2 : (ks.take i).length ≤ 8 := by
    rw [List.length_take]
    have := o.n
    omega
  omega
abbrev N_maker_table : List Str := ["kinds", "table", "name", "makers", "index", "maker", "fields"]
theorem sc_maker_table : FnScope ["kinds", "table", "name", "makers", "index", "maker", "fields"] ["kinds"] (defScope s_maker_table) := ⟨rfl, rfl, rfl, by decide +kernel, rfl, by decide +kernel, by decide +kernel⟩
theorem c_maker_table (T : Txt w K mg) : Cal P w K mg base 1 "maker_table" (spN 1 (r_maker_table K)) [] := by
  obtain ⟨fd, F⟩ := T.f_maker_table
  refine cal_mk F T.m_maker_table (fun _ _ _ _ _ _ us hl => match us, hl with | [_], _ => rfl) sc_maker_table (fun _ _ _ _ h => h.1) (fun cdv A outer s H vs Q E hr h => ?_)
  have hu := hu_of hr
  have hul := hul_of hr
  obtain ⟨_, v, ks, rfl, hv, o, k⟩ := h
  obtain ⟨a, xs, rfl, hs, ts⟩ := hv.open_
  have hlen : xs.length = ks.length := by rw [ts.length, List.length_map]
  have on := o.n
  refine ⟨_, (pss_cons (ps_set (i := 1) sc_maker_table.nd rfl (by first | exact Or.inl rfl | exact Or.inr rfl) (pe_dnewK))
      (pss_cons (ps_for PassesOwn.never rfl (pi_tupK (K := K) rfl (pv 0)) (pg_tupK (K := K) (n := 2) rfl rfl (pgs_cons (pg_name (i := 2) sc_maker_table.nd rfl (by first | exact Or.inl rfl | exact Or.inr rfl)) (pgs_cons (pg_name (i := 3) sc_maker_table.nd rfl (by first | exact Or.inl rfl | exact Or.inr rfl)) pgs_nil)))
        (pss_one (ps_for PassesOwn.never rfl (pi_enumT (by rfl) T.b_enumerate (pa_cons (pv 3) pa_nil)) (pg_tupK (K := K) (n := 2) rfl rfl (pgs_cons (pg_name (i := 4) sc_maker_table.nd rfl (by first | exact Or.inl rfl | exact Or.inr rfl)) (pgs_cons (pg_tupK (K := K) (n := 2) rfl rfl (pgs_cons (pg_name (i := 5) sc_maker_table.nd rfl (by first | exact Or.inl rfl | exact Or.inr rfl)) (pgs_cons (pg_name (i := 6) sc_maker_table.nd rfl (by first | exact Or.inl rfl | exact Or.inr rfl)) pgs_nil))) pgs_nil)))
        (pss_one (ps_dput hu (pv 1) (pv 5) (pe_tup (pa_cons (pv 2) (pa_cons (pv 4) (pa_cons (pv 6) pa_nil)))) rfl)))))
      (pss_one (ps_ret (pv 1))))), ?_⟩
  intro p hp
  have e1 : Ext [] H (upd H p (.dK [])) := Ext.new hp
  refine ⟨_, rfl, a, rfl, ⟨_, e1.sqt hs⟩, ?_⟩
  refine for_tup (xs := xs) (fun i σ H' => Ext [] H H' ∧ (∃ y2 y3 y4 y5 y6, σ = [some (.ref a), some (.ref p), y2, y3, y4, y5, y6]) ∧ MTab K H' p (tabKs (ks.take i)))
    ⟨e1, ⟨_, _, _, _, _, rfl⟩, [], upd_same, Nat.le_refl _, fun _ _ => rfl, fun e he => by cases he⟩ (fun i σ H' _ p => p.1.sqt hs) ?_ ?_
  · rintro i x σ H1 hi ⟨f1, ⟨y2, y3, y4, y5, y6, rfl⟩, M⟩
    obtain ⟨kd, hk, td⟩ := TD.atV ts hi
    have hkm : kd ∈ ks := List.mem_of_getElem? hk
    obtain ⟨b, u1, u2, rfl, hb, t1, t2⟩ := (td.keep f1.keep0).two
    cases t1.str_
    obtain ⟨c, ms, rfl, hc, tm⟩ := t2.open_
    have hlm : ms.length = kd.2.length := by rw [tm.length, List.length_map]
    obtain ⟨m1, m2⟩ := o.mks kd hkm
    refine ⟨b, _, rfl, hb, rfl, _, _, rfl, _, _, rfl, rfl, ?_⟩
    refine ⟨_, rfl, c, _, rfl, hc, ?_⟩
    refine for_enumT (xs := ms) (fun l σ H' => Ext [] H H' ∧ (∃ y4 y5 y6, σ = [some (.ref a), some (.ref p), some (.str kd.1), some (.ref c), y4, y5, y6]) ∧ SqT K H' c ms ∧ TDs K H' ms (kd.2.map eMk) ∧ MTab K H' p (tabKs (ks.take i) ++ (tabK kd).take l))
      ⟨f1, ⟨_, _, _, rfl⟩, hc, tm, by rw [List.take_zero, List.append_nil]; exact M⟩ (fun l σ H' p => p.2.2.1) ?_ ?_
    · rintro l x T0 σ H3 hx ⟨f3, ⟨z4, z5, z6, rfl⟩, hc3, tm3, M3⟩ hT0
      obtain ⟨mk, hmk, tmk⟩ := TD.atV tm3 hx
      obtain ⟨d, v1, v2, rfl, hd, r1, r2⟩ := tmk.two
      cases r1.str_
      obtain ⟨f, rfl, hf⟩ := r2.strs
      have kT : KeepT H3 (upd H3 T0 (.tup [.int (l : Nat), .ref d])) := KeepT.upd (not_tup_none hT0)
      refine ⟨T0, _, rfl, SqT.of upd_same, rfl, _, _, rfl, _, _, rfl, ⟨d, _, rfl, kT.sq hd, rfl, _, _, rfl, _, _, rfl, rfl, ?_⟩⟩
      refine ⟨rfl, ?_⟩
      refine ⟨_, rfl, _, rfl, _, rfl, by show 3 ≤ sizeLine; decide, fun t ht => ?_⟩
      have kt : KeepT (upd H3 T0 (.tup [.int (l : Nat), .ref d])) (upd (upd H3 T0 (.tup [.int (l : Nat), .ref d])) t (.tup [.str kd.1, .int (l : Nat), .ref f])) := KeepT.upd (not_tup_none ht)
      have M4 : MTab K (upd (upd H3 T0 (.tup [.int (l : Nat), .ref d])) t (.tup [.str kd.1, .int (l : Nat), .ref f])) p (tabKs (ks.take i) ++ (tabK kd).take l) :=
        (M3.keep kT fun o q => by rw [upd_ne (ne_of_none q hT0)]; exact q).keep kt fun o q => by rw [upd_ne (ne_of_none q ht)]; exact q
      have hnn : mk.1 ∉ (tabKs (ks.take i) ++ (tabK kd).take l).map (·.1) := by
        rw [List.map_append, tabKs_names, List.map_take, tabK_names, ← List.map_take]
        exact mNames_notin o.mnd hk hmk
      obtain ⟨kvs, g1, g2, g3⟩ := M4.put (e := (mk.1, kd.1, l, mk.2)) (t := t) (f := f) hnn (SqT.of upd_same) ((kT.trans kt).sq hf)
      have sz1 : kvs.length ≤ 128 := by
        have h1 := tabKs_len o i
        have h2 := tabK_len kd
        rw [List.length_append, List.length_take] at g2
        omega
      refine ⟨_, rfl, _, rfl, p, _, rfl, DPut.k (k := .inr mk.1) g1 (szl (by omega)), ?_⟩
      refine ⟨((f3.trans (Ext.new hT0)).trans (Ext.new ht)).mut hp, ⟨_, _, _, rfl⟩, ?_, ?_, ?_⟩
      · exact ((kT.trans kt).trans (KeepT.upd (not_tup_dK g1))).sq hc3
      · exact tm3.keep ((kT.trans kt).trans (KeepT.upd (not_tup_dK g1)))
      · rw [List.take_succ, tabK_at hmk, ← List.append_assoc]
        exact g3
    · rintro σ H3 ⟨f3, ⟨z4, z5, z6, rfl⟩, hc3, tm3, M3⟩
      rw [hlm, ← tabK_len, List.take_length] at M3
      refine ⟨f3, ⟨_, _, _, _, _, rfl⟩, ?_⟩
      rw [tabKs_take hk]
      exact M3
  · rintro σ H1 ⟨f1, ⟨y2, y3, y4, y5, y6, rfl⟩, M⟩
    rw [hlen, List.take_length] at M
    exact ⟨_, rfl, k H1 p f1 hp M⟩
end
end K47

set_option Elab.async false
set_option linter.all false
set_option maxRecDepth 100000
set_option maxHeartbeats 4000000
namespace K47
open PySem PySem.Spec PyProof.Rows L2
open C8 hiding CX0 E0
/-! Reach: the variables in reach -/
def rfs (a b c : Addr) : List (Str × V) := [("kinds", .ref a), ("line", .ref b), ("bound", .ref c)]
abbrev CR (K : PySem.W.Frag) : Addr := He.ga K "Reach"
def upto (n : Nat) : List V := (List.range n).map fun i => V.int (i : Nat)
structure RAt (C : Addr) (H0 H : Hp) (p : Addr) (l : List Str) : Prop where
  e : Ext [] H0 H
  p0 : H0 p = none
  more : ∃ (dx dk dl db : Addr) (kvs bvs : List (Key × V)), H0 dk = none ∧ H0 dl = none ∧ H0 db = none ∧ H p = some (.ins C dx (rfs dk dl db)) ∧ H dk = some (.dK kvs) ∧ H dl = some (.lst (upto l.length)) ∧ H db = some (.dK bvs) ∧ dk ≠ db ∧
    kvs.length ≤ l.length ∧ bvs.length ≤ l.length ∧ (∀ i : Nat, valV kvs (.inl (i : Int)) = (l[i]?).map V.str) ∧ ∀ i : Nat, l.length ≤ i → valV bvs (.inl (i : Int)) = none
def r_bind (K : PySem.W.Frag) : List V → Hp → VK → Prop := fun vs H Q => ∃ H0 p l z, vs = [.ref p, .int ((l.length : Nat) : Int), .str z] ∧ RAt (CR K) H0 H p l ∧ l.length < 100 ∧ ∀ H', RAt (CR K) H0 H' p (l ++ [z]) → Q (.bl true) H'
def r_has (K : PySem.W.Frag) : List V → Hp → VK → Prop := fun vs H Q => ∃ H0 p l i z, vs = [.ref p, .int ((i : Nat) : Int), .str z] ∧ RAt (CR K) H0 H p l ∧ l.length < 100 ∧ l[i]? = some z ∧ Q (.bl true) H
def r_has_all (K : PySem.W.Frag) : List V → Hp → VK → Prop := fun vs H Q => ∃ H0 p l a b, vs = [.ref p, .ref a, .ref b] ∧ RAt (CR K) H0 H p l ∧ l.length < 100 ∧ SqT K H a (upto l.length) ∧ SqT K H b (l.map V.str) ∧ ∀ H', Ext [] H H' → Q (.bl true) H'
def r_RInit (K : PySem.W.Frag) : List V → Hp → VK → Prop := fun vs H Q => ∃ H0 p dx a l, vs = [.ref p, .ref a] ∧ H p = some (.ins (CR K) dx []) ∧ Ext [] H0 H ∧ H0 p = none ∧ SqT K H0 a (l.map V.str) ∧ l.length ≤ 6 ∧ ∀ H', RAt (CR K) H0 H' p l → Q .non H'
theorem upto_succ (n : Nat) : upto (n + 1) = upto n ++ [.int (n : Nat)] := by
  unfold upto
  rw [List.range_succ, List.map_append]
  rfl
theorem upto_len (n : Nat) : (upto n).length = n := by simp [upto]
theorem upto_at {n i : Nat} (h : i < n) : (upto n)[i]? = some (.int (i : Nat)) := by
  unfold upto
  rw [List.getElem?_map, List.getElem?_range h]
  rfl
section
variable {P : Program} {w : World} {K : PySem.W.Frag} {mg : Str → Option Value} {base : Heap}
abbrev N_Reach_bind : List Str := ["self", "x", "kind"]
theorem sc_Reach_bind : FnScope ["self", "x", "kind"] ["self", "x", "kind"] (defScope s_Reach_bind) := ⟨rfl, rfl, rfl, by decide +kernel, rfl, by decide +kernel, by decide +kernel⟩
theorem m_Reach_bind (T : Txt w K mg) : Met P w K mg base 3 (He.ga K "Reach") "bind" (spN 3 (r_bind K)) [] := by
  obtain ⟨fd, F⟩ := T.f_Reach_bind
  refine met_mk F T.c_Reach T.e_Reach_bind (fun _ _ _ _ _ _ us hl => match us, hl with | [_, _, _], _ => rfl) sc_Reach_bind (fun _ _ _ _ h => h.1) (fun cdv A outer s H vs Q E hr h => ?_)
  have hu := hu_of hr
  have hul := hul_of hr
  obtain ⟨_, H0, p, l, z, rfl, ⟨e, p0, dx, dk, dl, db, kvs, bvs, f1, f2, f3, hp, hk, hl, hb, nkb, z1, z2, g1, g2⟩, hlen, k⟩ := h
  refine ⟨_, (pss_cons (ps_if (PW.pt (pw_or (pt_not (pt_val (pe_c (c_within T) hr (by decide) (by rfl) (pa_cons (pv 1) (pa_cons (pe_int) (pa_cons (pe_gc (by rfl) T.g_GREATEST_VARIABLE) pa_nil)))))) (pw_or1 (pt_cmp (pc_din hu (pv 1) (pe_fldK (K := K) rfl (pv 0) rfl)))))) (pss_one (ps_ret (pe_bl))) (pss_nil))
      (pss_cons (ps_dput hu (pe_fldK (K := K) rfl (pv 0) rfl) (pv 1) (pe_bl) rfl)
      (pss_cons (ps_dput hu (pe_fldK (K := K) rfl (pv 0) rfl) (pv 1) (pv 2) rfl)
      (pss_cons (ps_expr (pe_bm PySem.F.plainAttrs_list PySem.F.slot_list_append PySem.F.type_list_append mt_append (pe_fldK (K := K) rfl (pv 0) rfl) (pa_cons (pv 1) pa_nil)))
      (pss_one (ps_ret (pe_bl))))))), ?_⟩
  have npk : p ≠ dk := ne_of hp hk (by intro q; cases q)
  have npl : p ≠ dl := ne_of hp hl (by intro q; cases q)
  have npb : p ≠ db := ne_of hp hb (by intro q; cases q)
  have nlk : dl ≠ dk := ne_of hl hk (by intro q; cases q)
  have nlb : dl ≠ db := ne_of hl hb (by intro q; cases q)
  refine ⟨_, rfl, rfl, _, _, _, rfl, _, rfl, ?_⟩
  rw [decide_eq_true (show (0 : Int) ≤ (l.length : Int) by omega), decide_eq_true (show (l.length : Int) ≤ 399 by omega)]
  refine iteF ?_
  refine ⟨_, rfl, _, rfl, p, _, dx, _, _, rfl, hp, T.c_Reach, T.n_Reach_bound, rfl, db, _, rfl, DGet.k (k := .inl (l.length : Int)) hb, _, rfl, ?_⟩
  rw [g2 _ (Nat.le_refl _)]
  refine iteF ?_
  refine ⟨_, rfl, p, _, dx, _, _, rfl, hp, T.c_Reach, T.n_Reach_bound, rfl, _, rfl, db, _, rfl, DPut.k (k := .inl (l.length : Int)) hb (szl (by omega)), ?_⟩
  refine ⟨_, rfl, _, rfl, p, _, dx, _, _, rfl, (upd_ne npb).trans hp, T.c_Reach, T.n_Reach_kinds, rfl, _, rfl, dk, _, rfl, DPut.k (k := .inl (l.length : Int)) ((upd_ne nkb).trans hk) (szl (by omega)), ?_⟩
  refine ⟨_, rfl, p, _, dx, _, _, rfl, (upd_ne npk).trans ((upd_ne npb).trans hp), T.c_Reach, T.n_Reach_line, rfl, .inl ⟨rfl, _, SqL.of ((upd_ne nlk).trans ((upd_ne nlb).trans hl))⟩, _, rfl, dl, _, _, rfl, rfl, (upd_ne nlk).trans ((upd_ne nlb).trans hl), by rw [upto_len]; exact szl (by omega), ?_⟩
  refine k _ ⟨((e.mut f3).mut f1).mut f2, p0, dx, dk, dl, db, _, _, f1, f2, f3, (upd_ne npl).trans ((upd_ne npk).trans ((upd_ne npb).trans hp)), (upd_ne nlk.symm).trans upd_same, ?_, (upd_ne nlb.symm).trans ((upd_ne nkb.symm).trans upd_same), nkb, ?_, ?_, fun i => ?_, fun i hi => ?_⟩
  · rw [upd_same, List.length_append, List.length_singleton, upto_succ]
  · rw [List.length_append, List.length_singleton]
    have := putK_len' kvs (.inl (l.length : Int)) (.str z)
    omega
  · rw [List.length_append, List.length_singleton]
    have := putK_len' bvs (.inl (l.length : Int)) (.bl true)
    omega
  · rw [valV_put]
    by_cases h1 : i = l.length
    · subst h1
      rw [if_pos rfl, List.getElem?_append_right (Nat.le_refl _), Nat.sub_self]
      rfl
    · rw [if_neg (fun q => h1 (by have := Sum.inl.inj q; omega)), g1]
      by_cases h2 : i < l.length
      · rw [List.getElem?_append_left h2]
      · rw [List.getElem?_eq_none (by omega), List.getElem?_eq_none (by rw [List.length_append, List.length_singleton]; omega)]
  · rw [List.length_append, List.length_singleton] at hi
    rw [valV_put, if_neg (fun q => by have := Sum.inl.inj q; omega), g2 i (by omega)]
abbrev N_Reach_init : List Str := ["self", "params", "param"]
theorem sc_Reach_init : FnScope ["self", "params", "param"] ["self", "params"] (defScope s_Reach_init) := ⟨rfl, rfl, rfl, by decide +kernel, rfl, by decide +kernel, by decide +kernel⟩
theorem k_Reach (T : Txt w K mg) : Mak P w K mg base 4 "Reach" (He.ga K "Reach") (spN 2 (r_RInit K)) [] := by
  obtain ⟨fd, F⟩ := T.f_Reach_init
  refine mak_mk F T.k_Reach T.m_Reach (fun _ _ _ _ _ _ us hl => match us, hl with | [_, _], _ => rfl) sc_Reach_init (fun _ _ _ _ h => h.1) (fun cdv A outer s H vs Q E hr h => ?_)
  have hu := hu_of hr
  have hul := hul_of hr
  obtain ⟨_, H0, p, dx, a, l, rfl, hp, e, p0, ha, hlen, k⟩ := h
  refine ⟨_, (pss_cons (ps_fld (pv 0) (pe_dnewK) rfl)
      (pss_cons (ps_fld (pv 0) (pe_lst (pa_nil)) rfl)
      (pss_cons (ps_fld (pv 0) (pe_dnewK) rfl)
      (pss_one (ps_for PassesOwn.never rfl (pi_tupK (K := K) rfl (pv 1)) (pg_name (i := 2) sc_Reach_init.nd rfl (by first | exact Or.inl rfl | exact Or.inr rfl))
        (pss_one (ps_expr (pe_mt (m_Reach_bind T) hr (by decide) (pv 0) (pa_cons (pe_callB (call_lenK (K := K) rfl) (by rfl) T.b_len bt_len (pa_cons (pe_fldK (K := K) rfl (pv 0) rfl) pa_nil)) (pa_cons (pv 2) pa_nil)))))))))), ?_⟩
  intro dk hdk
  have npk : p ≠ dk := ne_of_none hp hdk
  refine ⟨_, rfl, p, _, dx, [], rfl, (upd_ne npk).trans hp, T.c_Reach, T.n_Reach_kinds, (by show 0 < 1000; decide), ?_⟩
  refine ⟨Nat.zero_le _, fun dl hdl => ?_⟩
  have npl : p ≠ dl := ne_of_none upd_same hdl
  have hdl' : (upd H dk (.dK [])) dl = none := by rw [upd_ne npl.symm] at hdl; exact hdl
  have nkl : dk ≠ dl := ne_of_none upd_same hdl'
  refine ⟨_, rfl, p, _, dx, _, rfl, (upd_ne npl).trans upd_same, T.c_Reach, T.n_Reach_line, (by show 1 < 1000; decide), ?_⟩
  intro db hdb
  have npb : p ≠ db := ne_of_none upd_same hdb
  rw [upd_ne npb.symm] at hdb
  have nlb : dl ≠ db := ne_of_none upd_same hdb
  rw [upd_ne nlb.symm, upd_ne npb.symm] at hdb
  have nkb : dk ≠ db := ne_of_none upd_same hdb
  refine ⟨_, rfl, p, _, dx, _, rfl, (upd_ne npb).trans upd_same, T.c_Reach, T.n_Reach_bound, (by show 2 < 1000; decide), ?_⟩
  rw [upd_ne nkb.symm] at hdb
  rw [upd_ne nkl.symm] at hdl'
  have f1 : H0 dk = none := e.free hdk (fun m => nomatch m)
  have f2 : H0 dl = none := e.free hdl' (fun m => nomatch m)
  have f3 : H0 db = none := e.free hdb (fun m => nomatch m)
  have e' := (((((e.mut (o := .dK []) f1).mut (p := p) (o := .ins (He.ga K "Reach") dx (putF "kinds" (.ref dk) [])) p0).mut (o := .lst []) f2).mut (p := p) (o := .ins (He.ga K "Reach") dx (putF "line" (.ref dl) (putF "kinds" (.ref dk) []))) p0).mut (o := .dK []) f3).mut (p := p) (o := .ins (He.ga K "Reach") dx (putF "bound" (.ref db) (putF "line" (.ref dl) (putF "kinds" (.ref dk) [])))) p0
  refine ⟨_, rfl, a, rfl, ⟨_, e'.sqt ha⟩, ?_⟩
  refine for_tup (xs := l.map V.str) (fun i σ H' => (∃ y, σ = [some (.ref p), some (.ref a), y]) ∧ RAt (CR K) H0 H' p (l.take i)) ⟨⟨_, rfl⟩, e', p0, dx, dk, dl, db, [], [], f1, f2, f3, upd_same, ?_, ?_, ?_, nkb, Nat.zero_le _, Nat.zero_le _, fun i => ?_, fun _ _ => rfl⟩ (fun i σ H' _ q => q.2.e.sqt ha) ?_ ?_
  · rw [upd_ne npk.symm, upd_ne nkb, upd_ne npk.symm, upd_ne nkl, upd_ne npk.symm, upd_same]
  · rw [upd_ne npl.symm, upd_ne nlb, upd_ne npl.symm, upd_same]
    rfl
  · rw [upd_ne npb.symm, upd_same]
  · rw [List.take_zero]
    rfl
  · rintro i x σ H1 hi ⟨⟨y, rfl⟩, R⟩
    obtain ⟨z, hz, rfl⟩ : ∃ z, l[i]? = some z ∧ x = .str z := by
      rw [List.getElem?_map] at hi
      cases q : l[i]? with
      | none => rw [q] at hi; cases hi
      | some z => rw [q] at hi; exact ⟨z, rfl, (Option.some.inj hi).symm⟩
    have hil := (List.getElem?_eq_some_iff.mp hz).1
    obtain ⟨dx', dk', dl', db', kvs, bvs, _, _, _, hp', _, hl', _⟩ := R.more
    refine ⟨_, rfl, p, dx', _, rfl, hp', rfl, _, rfl, p, _, dx', _, _, rfl, hp', T.c_Reach, T.n_Reach_line, rfl, dl', _, rfl, .inl (SqL.of hl'), _, rfl, ?_⟩
    refine ⟨rfl, H0, p, l.take i, z, by rw [upto_len]; rfl, R, by rw [List.length_take]; omega, fun H2 R2 => ⟨⟨_, rfl⟩, ?_⟩⟩
    rw [List.take_succ, hz]
    exact R2
  · rintro σ H1 ⟨⟨y, rfl⟩, R⟩
    rw [List.length_map, List.take_length] at R
    exact k H1 R
abbrev N_Reach_has : List Str := ["self", "x", "kind"]
theorem sc_Reach_has : FnScope ["self", "x", "kind"] ["self", "x", "kind"] (defScope s_Reach_has) := ⟨rfl, rfl, rfl, by decide +kernel, rfl, by decide +kernel, by decide +kernel⟩
theorem m_Reach_has (T : Txt w K mg) : Met P w K mg base 3 (He.ga K "Reach") "has" (spN 3 (r_has K)) [] := by
  obtain ⟨fd, F⟩ := T.f_Reach_has
  refine met_mk F T.c_Reach T.e_Reach_has (fun _ _ _ _ _ _ us hl => match us, hl with | [_, _, _], _ => rfl) sc_Reach_has (fun _ _ _ _ h => h.1) (fun cdv A outer s H vs Q E hr h => ?_)
  have hu := hu_of hr
  have hul := hul_of hr
  obtain ⟨_, H0, p, l, i, z, rfl, R, hlen, hi, k⟩ := h
  obtain ⟨dx, dk, dl, db, kvs, bvs, f1, f2, f3, hp, hk, hl, hb, nkb, z1, z2, g1, g2⟩ := R.more
  have hil := (List.getElem?_eq_some_iff.mp hi).1
  refine ⟨_, (pss_one (ps_ret (pe_and (pe_c (c_within T) hr (by decide) (by rfl) (pa_cons (pv 1) (pa_cons (pe_int) (pa_cons (pe_gc (by rfl) T.g_GREATEST_VARIABLE) pa_nil)))) (pe_and (pe_cmp (pc_din hu (pv 1) (pe_fldK (K := K) rfl (pv 0) rfl)) rfl) (pe_one (pe_cmpR op_eq (pe_dget hu (pe_fldK (K := K) rfl (pv 0) rfl) (pv 1) (fun _ _ => rfl)) (pv 2) (nomark _))))))), ?_⟩
  refine ⟨_, rfl, rfl, _, _, _, rfl, _, rfl, ?_⟩
  rw [decide_eq_true (show (0 : Int) ≤ (i : Int) by omega), decide_eq_true (show (i : Int) ≤ 399 by omega)]
  refine iteT ?_
  refine ⟨_, rfl, _, rfl, p, _, dx, _, _, rfl, hp, T.c_Reach, T.n_Reach_kinds, rfl, dk, _, rfl, DGet.k (k := .inl (i : Int)) hk, _, rfl, ?_⟩
  rw [g1 i, hi]
  refine iteT ?_
  refine ⟨_, rfl, p, _, dx, _, _, rfl, hp, T.c_Reach, T.n_Reach_kinds, rfl, _, rfl, dk, .str z, rfl, ?_, _, rfl, rfl, ?_⟩
  · have := DGet.k (k := .inl (i : Int)) hk
    rw [g1 i, hi] at this
    exact this
  · rw [decide_eq_true rfl]
    exact k
abbrev N_Reach_has_all : List Str := ["self", "args", "kinds", "x", "kind"]
theorem sc_Reach_has_all : FnScope ["self", "args", "kinds", "x", "kind"] ["self", "args", "kinds"] (defScope s_Reach_has_all) := ⟨rfl, rfl, rfl, by decide +kernel, rfl, by decide +kernel, by decide +kernel⟩
theorem m_Reach_has_all (T : Txt w K mg) : Met P w K mg base 4 (He.ga K "Reach") "has_all" (spN 3 (r_has_all K)) [] := by
  obtain ⟨fd, F⟩ := T.f_Reach_has_all
  refine met_mk F T.c_Reach T.e_Reach_has_all (fun _ _ _ _ _ _ us hl => match us, hl with | [_, _, _], _ => rfl) sc_Reach_has_all (fun _ _ _ _ h => h.1) (fun cdv A outer s H vs Q E hr h => ?_)
  have hu := hu_of hr
  have hul := hul_of hr
  obtain ⟨_, H0, p, l, a, b, rfl, R, hlen, ha, hb, k⟩ := h
  refine ⟨_, (pss_cons (ps_if (pt_not (pt_val (pe_c (c_is_tuple T) hr (by decide) (by rfl) (pa_cons (pv 1) (pa_cons (pe_callB (call_lenK (K := K) rfl) (by rfl) T.b_len bt_len (pa_cons (pv 2) pa_nil)) (pa_cons (pe_callB (call_lenK (K := K) rfl) (by rfl) T.b_len bt_len (pa_cons (pv 2) pa_nil)) pa_nil)))))) (pss_one (ps_ret (pe_bl))) (pss_nil))
      (pss_one (ps_ret (pe_callB (cr_all rfl) (by rfl) T.b_all bt_all (pa_cons (pe_lc (own := [("x", 3), ("kind", 4)]) rfl sc_Reach_has_all.nd (RZ.pi_zipA (by rfl) T.b_zip (pa_cons (pv 1) (pa_cons (pv 2) pa_nil))) (blkOk_by (N := N_Reach_has_all) (sc := defScope s_Reach_has_all) (by decide +kernel)) (fun _ _ _ _ _ => pg_tupK (K := K) (n := 2) rfl rfl (pgs_cons (pg_name (i := 3) sc_Reach_has_all.nd rfl (by first | exact Or.inl rfl | exact Or.inr rfl)) (pgs_cons (pg_name (i := 4) sc_Reach_has_all.nd rfl (by first | exact Or.inl rfl | exact Or.inr rfl)) pgs_nil))) (fun _ _ _ _ _ => pts_nil) (fun _ _ _ _ _ => pe_mt (m_Reach_has T) hr (by decide) (pv 0) (pa_cons (pv 3) (pa_cons (pv 4) pa_nil)))) pa_nil))))), ?_⟩
  refine ⟨_, rfl, _, rfl, b, _, rfl, .inr hb, _, rfl, b, _, rfl, .inr hb, rfl, a, _, _, _, rfl, ha, _, rfl, ?_⟩
  rw [upto_len, List.length_map, decide_eq_true (Int.le_refl _)]
  refine iteF ?_
  refine ⟨_, rfl, _, rfl, a, b, _, _, rfl, .inr ⟨ha, hb, fun D hD => ?_⟩⟩
  have hx : (upto l.length).length = l.length := upto_len _
  refine ⟨fun i m H' => m + i = l.length ∧ Ext [] H H' ∧ H' D = some (.lst (List.replicate i (.bl true))), ⟨l.length, rfl, Ext.new hD, upd_same⟩, ?_⟩
  rintro i m H1 ⟨hm, e1, hl⟩
  obtain ⟨dx, dk, dl, db, kvs, bvs, f1, f2, f3, hp, hk, hl', hb', nkb, z1, z2, g1, g2⟩ := R.more
  by_cases hi : i < l.length
  · refine .inr ⟨⟨_, _, _, _, e1.sqt ha, e1.sqt hb, upto_at hi, by rw [List.getElem?_map, List.getElem?_eq_getElem hi]; rfl⟩, fun H' => Ext [] H H' ∧ H' D = some (.lst (List.replicate (i + 1) (.bl true))), fun H' q => ⟨m - 1, by omega, by omega, q.1, q.2⟩, ?_⟩
    rintro v H2 ⟨T0, x, y, rfl, hT, rfl, q1, q2⟩
    have ex : x = .int (i : Nat) := Option.some.inj ((q1 _ (e1.sqt ha)).symm.trans (upto_at hi))
    have ey : y = .str l[i] := Option.some.inj ((q2 _ (e1.sqt hb)).symm.trans (by rw [List.getElem?_map, List.getElem?_eq_getElem hi]; rfl))
    subst ex ey
    have eT : Ext [] H1 (upd H1 T0 (.tup [.int (i : Nat), .str l[i]])) := Ext.new hT
    refine ⟨T0, _, rfl, SqT.of upd_same, rfl, _, _, rfl, _, _, rfl, rfl, ?_⟩
    refine ⟨rfl, tYes_ (iteT ?_)⟩
    have e2 := e1.trans eT
    refine ⟨_, rfl, p, dx, _, rfl, e2 _ _ hp (fun m => nomatch m), rfl, _, rfl, _, rfl, rfl, H0, p, l, i, l[i], rfl, ⟨R.e.trans e2, R.p0, dx, dk, dl, db, kvs, bvs, f1, f2, f3, e2 _ _ hp (fun m => nomatch m), e2 _ _ hk (fun m => nomatch m), e2 _ _ hl' (fun m => nomatch m), e2 _ _ hb' (fun m => nomatch m), nkb, z1, z2, g1, g2⟩, hlen, List.getElem?_eq_getElem hi, ?_⟩
    refine ⟨_, eT _ _ hl (fun m => nomatch m), by rw [List.length_replicate]; exact szl (by omega), e2.mut hD, ?_⟩
    rw [upd_same, List.replicate_succ']
  · have hil : i = l.length := by omega
    subst hil
    refine .inl ⟨⟨_, _, e1.sqt ha, e1.sqt hb, .inl (by rw [hx]; exact Nat.le_refl _)⟩, ?_⟩
    refine ⟨D, List.replicate l.length true, rfl, SqL.of (by rw [hl, map_rep]), ?_⟩
    rw [all_true]
    exact k H1 e1
end
end K47

set_option Elab.async false
set_option linter.all false
set_option maxRecDepth 100000
set_option maxHeartbeats 4000000
namespace K47
open PySem PySem.Spec PyProof.Rows L2
open C8 hiding CX0 E0
/-! cores -/
structure Fdef where
  name : Str
  params : List Str
  result : Str
  give : Bool
def uptoD (n : Nat) : PyData := .tuple ((List.range n).map fun i : Nat => .int (i : Int))
def eRow (f : Fdef) : PyData := match f.give with
  | true => .tuple [.str "give", .int 0]
  | false => .tuple [.str "go", .str f.name, uptoD f.params.length]
def eFn (f : Fdef) : PyData := .tuple [.str f.name, .tuple (f.params.map .str), .str f.result, .tuple [eRow f]]
structure FnV (ks : Ks) (f : Fdef) : Prop where
  low : lowB f.name = true
  np : f.params.length ≤ 6
  kp : ∀ p ∈ f.params, p = "whole" ∨ p ∈ kNames ks
  kr : f.result = "whole" ∨ f.result ∈ kNames ks
  gv : f.give = true → f.params[0]? = some f.result
structure Core where
  ks : Ks
  fs : List Fdef
def eCore (c : Core) : PyData := .tuple [eKs c.ks, .tuple (c.fs.map eFn)]
structure CoreOk (c : Core) : Prop where
  ks : KsOk c.ks
  n : c.fs.length ≤ 12
  fn : ∀ f ∈ c.fs, FnV c.ks f
  nd : (c.fs.map (·.name)).Nodup
def HAt (K : PySem.W.Frag) (H : Hp) (h : Addr) (f : Fdef) : Prop := ∃ kvs : List (Key × V), H h = some (.dK kvs) ∧ ∃ t a : Addr, valV kvs (.inr f.name) = some (.ref t) ∧ SqT K H t [.ref a, .str f.result] ∧ SqT K H a (f.params.map V.str)
theorem HAt.keep {K : PySem.W.Frag} {H H' : Hp} {h : Addr} {f : Fdef} (x : HAt K H h f) (k : KeepT H H') (hp : ∀ o, H h = some o → H' h = some o) : HAt K H' h f := by
  obtain ⟨kvs, h1, t, a, h2, h3, h4⟩ := x
  exact ⟨kvs, hp _ h1, t, a, h2, k.sq h3, k.sq h4⟩
theorem RAt.ext {C : Addr} {H0 H H' : Hp} {p : Addr} {l : List Str} (R : RAt C H0 H p l) (e : Ext [] H H') : RAt C H0 H' p l := by
  obtain ⟨e0, p0, dx, dk, dl, db, kvs, bvs, f1, f2, f3, hp, hk, hl, hb, nkb, z1, z2, g1, g2⟩ := R
  exact ⟨e0.trans e, p0, dx, dk, dl, db, kvs, bvs, f1, f2, f3, e _ _ hp (fun m => nomatch m), e _ _ hk (fun m => nomatch m), e _ _ hl (fun m => nomatch m), e _ _ hb (fun m => nomatch m), nkb, z1, z2, g1, g2⟩
theorem TD.upto {K : PySem.W.Frag} {H : Hp} {v : V} {n : Nat} (h : TD K H v (uptoD n)) : ∃ a, v = .ref a ∧ SqT K H a (upto n) := by
  obtain ⟨a, xs, rfl, hs, ts⟩ := h.open_
  refine ⟨a, rfl, ?_⟩
  have e : ((List.range n).map fun i : Nat => PyData.int (i : Int)) = ((List.range n).map fun i : Nat => (i : Int)).map PyData.int := by rw [List.map_map]; rfl
  rw [e] at ts
  rw [ts.ints, List.map_map] at hs
  exact hs
def r_end_fits (K : PySem.W.Frag) : List V → Hp → VK → Prop := fun vs H Q => ∃ f ks H0 p h v, vs = [v, .ref p, .ref h, .str f.result] ∧ TD K H v (eRow f) ∧ RAt (CR K) H0 H p f.params ∧ FnV ks f ∧ HAt K H h f ∧ ∀ H', Ext [] H H' → Q (.bl true) H'
def r_rows_fit (K : PySem.W.Frag) : List V → Hp → VK → Prop := fun vs H Q => ∃ f ks v kv mv h, vs = [v, kv, mv, .ref h] ∧ TD K H v (eFn f) ∧ FnV ks f ∧ HAt K H h f ∧ ∀ H', Ext [] H H' → Q (.bl true) H'
def r_is_head (K : PySem.W.Frag) : List V → Hp → VK → Prop := fun vs H Q => ∃ f ks v nm, vs = [v, .ref nm] ∧ TD K H v (eFn f) ∧ KsOk ks ∧ FnV ks f ∧ SqL K H nm ((kNames ks ++ [("whole" : Str)]).map V.str) ∧ ∀ H', Ext [] H H' → Q (.bl true) H'
def r_is_core (K : PySem.W.Frag) : List V → Hp → VK → Prop := fun vs H Q => ∃ c v, vs = [v] ∧ TD K H v (eCore c) ∧ CoreOk c ∧ ∀ H', Ext [] H H' → Q (.bl true) H'
def r_need_core (K : PySem.W.Frag) : List V → Hp → VK → Prop := fun vs H Q => ∃ c v, vs = [v] ∧ TD K H v (eCore c) ∧ CoreOk c ∧ ∀ H', Ext [] H H' → Q .non H'
def r_place_of (K : PySem.W.Frag) : List V → Hp → VK → Prop := fun vs H Q => ∃ c v f i, vs = [v, .str f.name] ∧ TD K H v (eCore c) ∧ CoreOk c ∧ c.fs[i]? = some f ∧ ∀ H', Ext [] H H' → Q (.int (i : Nat)) H'
section
variable {P : Program} {w : World} {K : PySem.W.Frag} {mg : Str → Option Value} {base : Heap}
abbrev N_end_fits : List Str := ["row", "reach", "heads", "result", "params", "given"]
theorem sc_end_fits : FnScope ["row", "reach", "heads", "result", "params", "given"] ["row", "reach", "heads", "result"] (defScope s_end_fits) := ⟨rfl, rfl, rfl, by decide +kernel, rfl, by decide +kernel, by decide +kernel⟩
theorem c_end_fits (T : Txt w K mg) : Cal P w K mg base 5 "end_fits" (spN 4 (r_end_fits K)) [] := by
  obtain ⟨fd, F⟩ := T.f_end_fits
  refine cal_mk F T.m_end_fits (fun _ _ _ _ _ _ us hl => match us, hl with | [_, _, _, _], _ => rfl) sc_end_fits (fun _ _ _ _ h => h.1) (fun cdv A outer s H vs Q E hr h => ?_)
  have hu := hu_of hr
  have hul := hul_of hr
  obtain ⟨_, f, ks, H0, p, h, v, rfl, hv, R, fv, hA, k⟩ := h
  have np := fv.np
  obtain ⟨kvs, hh, t, b, hval, ht, hb⟩ := id hA
  obtain ⟨dx, dk, dl, db, kv2, bvs, f1, f2, f3, hp, hk, hl, hbb, nkb, z1, z2, g1, g2⟩ := R.more
  refine ⟨_, (pss_cons (ps_if (pt_cmpR op_eq (pe_ix (ix_tupK (K := K) rfl) (pv 0) (pe_int) (fun _ _ => rfl)) (pe_str) (nomark _)) (pss_one (ps_ret (pe_and (pe_cmpR op_eq (pe_callB (call_lenK (K := K) rfl) (by rfl) T.b_len bt_len (pa_cons (pv 0) pa_nil)) (pe_int) (nomark _)) (pe_one (pe_mt (m_Reach_has T) hr (by decide) (pv 1) (pa_cons (pe_ix (ix_tupK (K := K) rfl) (pv 0) (pe_int) (fun _ _ => rfl)) (pa_cons (pv 3) pa_nil))))))) (pss_nil))
      (pss_cons (ps_if (PW.pt (pw_or (pt_cmpR op_ne (pe_callB (call_lenK (K := K) rfl) (by rfl) T.b_len bt_len (pa_cons (pv 0) pa_nil)) (pe_int) (nomark _)) (pw_or (pt_not (pt_val (pe_c (c_is_low T) hr (by decide) (by rfl) (pa_cons (pe_ix (ix_tupK (K := K) rfl) (pv 0) (pe_int) (fun _ _ => rfl)) pa_nil)))) (pw_or1 (pt_cmp (pc_dnotin hu (pe_ix (ix_tupK (K := K) rfl) (pv 0) (pe_int) (fun _ _ => rfl)) (pv 2))))))) (pss_one (ps_ret (pe_bl))) (pss_nil))
      (pss_cons (ps_asg (pe_dget hu (pv 2) (pe_ix (ix_tupK (K := K) rfl) (pv 0) (pe_int) (fun _ _ => rfl)) (fun _ _ => rfl)) (pg_tupK (K := K) (n := 2) rfl rfl (pgs_cons (pg_name (i := 4) sc_end_fits.nd rfl (by first | exact Or.inl rfl | exact Or.inr rfl)) (pgs_cons (pg_name (i := 5) sc_end_fits.nd rfl (by first | exact Or.inl rfl | exact Or.inr rfl)) pgs_nil))))
      (pss_one (ps_ret (pe_and (pe_cmpR op_eq (pv 5) (pv 3) (nomark _)) (pe_one (pe_mt (m_Reach_has_all T) hr (by decide) (pv 1) (pa_cons (pe_ix (ix_tupK (K := K) rfl) (pv 0) (pe_int) (fun _ _ => rfl)) (pa_cons (pv 4) pa_nil)))))))))), ?_⟩
  cases hg : f.give with
  | true =>
    unfold eRow at hv
    rw [hg] at hv
    obtain ⟨a, v1, v2, rfl, hs, t1, t2⟩ := hv.two
    cases t1.str_
    cases t2.int_
    refine ⟨_, rfl, a, _, _, _, rfl, rfl, hs, rfl, rfl, _, rfl, ?_⟩
    refine iteT ?_
    refine ⟨_, rfl, a, _, rfl, .inr hs, rfl, _, rfl, iteT ?_⟩
    refine ⟨_, rfl, p, dx, _, rfl, hp, rfl, _, rfl, a, _, _, _, rfl, rfl, hs, rfl, _, rfl, rfl, H0, p, f.params, 0, f.result, rfl, R, by omega, fv.gv hg, ?_⟩
    exact k H (Ext.refl H)
  | false =>
    unfold eRow at hv
    rw [hg] at hv
    obtain ⟨a, v1, v2, v3, rfl, hs, t1, t2, t3⟩ := hv.three
    cases t1.str_
    cases t2.str_
    obtain ⟨c, rfl, hc⟩ := t3.upto
    refine ⟨_, rfl, a, _, _, _, rfl, rfl, hs, rfl, rfl, _, rfl, ?_⟩
    refine iteF ?_
    refine ⟨_, rfl, a, _, rfl, .inr hs, rfl, _, rfl, iteF ?_⟩
    refine ⟨_, rfl, a, _, _, _, rfl, rfl, hs, rfl, rfl, f.name, rfl, by have := name_len (low_name fv.low); omega, fun H1 e1 => ?_⟩
    refine ⟨_, rfl, ?_⟩
    rw [fv.low]
    refine iteF ?_
    have hs1 := e1.sqt hs
    have hh1 := e1 _ _ hh (fun m => nomatch m)
    refine ⟨_, rfl, a, _, _, _, rfl, rfl, hs1, rfl, _, rfl, h, _, rfl, DGet.k (k := .inr f.name) hh1, _, rfl, ?_⟩
    rw [hval]
    refine iteF ?_
    refine ⟨_, rfl, _, rfl, a, _, _, _, rfl, rfl, hs1, rfl, h, .ref t, rfl, ?_, ?_⟩
    · have := DGet.k (k := .inr f.name) hh1
      rw [hval] at this
      exact this
    refine ⟨t, _, rfl, e1.sqt ht, rfl, _, _, rfl, _, _, rfl, rfl, ?_⟩
    refine ⟨_, rfl, _, rfl, rfl, _, rfl, ?_⟩
    rw [decide_eq_true rfl]
    refine iteT ?_
    refine ⟨_, rfl, p, dx, _, rfl, e1 _ _ hp (fun m => nomatch m), rfl, _, rfl, a, _, _, _, rfl, rfl, hs1, rfl, _, rfl, rfl, H0, p, f.params, c, b, rfl, R.ext e1, by omega, e1.sqt hc, e1.sqt hb, fun H2 e2 => ?_⟩
    exact k H2 (e1.trans e2)
abbrev N_rows_fit : List Str := ["function", "kinds", "makers", "heads", "rows", "reach", "ahead", "at", "row", "branches", "branch", "start", "names", "fields", "length"]
theorem sc_rows_fit : FnScope ["function", "kinds", "makers", "heads", "rows", "reach", "ahead", "at", "row", "branches", "branch", "start", "names", "fields", "length"] ["function", "kinds", "makers", "heads"] (defScope s_rows_fit) := ⟨rfl, rfl, rfl, by decide +kernel, rfl, by decide +kernel, by decide +kernel⟩
theorem c_rows_fit (T : Txt w K mg) : Cal P w K mg base 6 "rows_fit" (spN 4 (r_rows_fit K)) [] := by
  obtain ⟨fd, F⟩ := T.f_rows_fit
  refine cal_mk F T.m_rows_fit (fun _ _ _ _ _ _ us hl => match us, hl with | [_, _, _, _], _ => rfl) sc_rows_fit (fun _ _ _ _ h => h.1) (fun cdv A outer s H vs Q E hr h => ?_)
  have hu := hu_of hr
  have hul := hul_of hr
  obtain ⟨_, f, ks, v, kv, mv, h, rfl, hv, fv, hA, k⟩ := h
  have np := fv.np
  obtain ⟨a, v1, v2, v3, v4, rfl, hs, t1, t2, t3, t4⟩ := hv.four
  cases t1.str_
  cases t3.str_
  obtain ⟨pa, rfl, hpa⟩ := t2.strs
  obtain ⟨r, rv, rfl, hr4, tr⟩ := t4.one
  refine ⟨_, (pss_cons (ps_set (i := 4) sc_rows_fit.nd rfl (by first | exact Or.inl rfl | exact Or.inr rfl) (pe_ix (ix_tupK (K := K) rfl) (pv 0) (pe_int) (fun _ _ => rfl)))
      (pss_cons (ps_set (i := 5) sc_rows_fit.nd rfl (by first | exact Or.inl rfl | exact Or.inr rfl) (pe_mk (k_Reach T) hr (by decide) (by rfl) (pa_cons (pe_ix (ix_tupK (K := K) rfl) (pv 0) (pe_int) (fun _ _ => rfl)) pa_nil)))
      (pss_cons (ps_set (i := 6) sc_rows_fit.nd rfl (by first | exact Or.inl rfl | exact Or.inr rfl) (pe_lst (pa_nil)))
      (pss_cons (ps_for PassesOwn.never rfl (pi_enumT (by rfl) T.b_enumerate (pa_cons (pv 4) pa_nil)) (pg_tupK (K := K) (n := 2) rfl rfl (pgs_cons (pg_name (i := 7) sc_rows_fit.nd rfl (by first | exact Or.inl rfl | exact Or.inr rfl)) (pgs_cons (pg_name (i := 8) sc_rows_fit.nd rfl (by first | exact Or.inl rfl | exact Or.inr rfl)) pgs_nil)))
        (pss_cons (ps_if (pt_not (pt_val (pe_c (c_is_tuple T) hr (by decide) (by rfl) (pa_cons (pv 8) (pa_cons (pe_int) (pa_cons (pe_int) pa_nil)))))) (pss_one (ps_ret (pe_bl))) (pss_nil))
      (pss_cons (ps_if (PW.pt (pw_or (pt_cmpR op_eq (pe_ix (ix_tupK (K := K) rfl) (pv 8) (pe_int) (fun _ _ => rfl)) (pe_str) (nomark _)) (pw_or1 (pt_cmpR op_eq (pe_ix (ix_tupK (K := K) rfl) (pv 8) (pe_int) (fun _ _ => rfl)) (pe_str) (nomark _))))) (pss_cons (ps_never)
      (pss_cons (ps_never)
      (pss_cons (ps_never)
      (pss_one (ps_never))))) (pss_one (ps_if (PW.pt (pw_or (pt_cmpR op_eq (pe_ix (ix_tupK (K := K) rfl) (pv 8) (pe_int) (fun _ _ => rfl)) (pe_str) (nomark _)) (pw_or1 (pt_cmpR op_eq (pe_ix (ix_tupK (K := K) rfl) (pv 8) (pe_int) (fun _ _ => rfl)) (pe_str) (nomark _))))) (pss_cons (ps_if (pt_not (pt_val (pe_c (c_end_fits T) hr (by decide) (by rfl) (pa_cons (pv 8) (pa_cons (pv 5) (pa_cons (pv 3) (pa_cons (pe_ix (ix_tupK (K := K) rfl) (pv 0) (pe_int) (fun _ _ => rfl)) pa_nil))))))) (pss_one (ps_ret (pe_bl))) (pss_nil))
      (pss_one (ps_if (pt_cmpR (op_eqNilK (K := K) rfl hul) (pv 6) (pe_lst (pa_nil)) (nomark _)) (pss_one (ps_ret (pe_cmpR op_eq (pv 7) (pe_op op_sub (pe_callB (call_lenK (K := K) rfl) (by rfl) T.b_len bt_len (pa_cons (pv 4) pa_nil)) (pe_int)) (nomark _)))) (pss_nil)))) (pss_cons (ps_never)
      (pss_one (ps_never))))))
      (pss_cons (ps_never)
      (pss_cons (ps_never)
      (pss_one (ps_never)))))))
      (pss_one (ps_ret (pe_bl))))))), ?_⟩
  refine ⟨_, rfl, a, _, _, _, rfl, rfl, hs, rfl, ?_⟩
  refine ⟨_, rfl, a, _, _, _, rfl, rfl, hs, rfl, ?_⟩
  intro x dx hx hdx hne
  have e0 : Ext [] H (upd (upd H dx (.own x)) x (.ins (CR K) dx [])) := (Ext.new hdx).trans (Ext.new (by rw [upd_ne hne.symm]; exact hx))
  refine ⟨rfl, H, x, dx, pa, f.params, rfl, upd_same, e0, hx, hpa, np, fun H1 R => ⟨rfl, ?_⟩⟩
  have e1 := R.e
  refine ⟨Nat.zero_le _, fun l hl => ?_⟩
  have e2 : Ext [] H1 (upd H1 l (.lst [])) := Ext.new hl
  have R2 := R.ext e2
  have e12 := e1.trans e2
  refine ⟨_, rfl, r, _, rfl, e12.sqt hr4, ?_⟩
  refine for_enumT (xs := [rv]) (fun i σ H' => i = 0 ∧ H' = upd H1 l (.lst []) ∧ ∃ y7 y8 y9 y10 y11 y12 y13 y14, σ = [some (.ref a), some kv, some mv, some (.ref h), some (.ref r), some (.ref x), some (.ref l), y7, y8, y9, y10, y11, y12, y13, y14]) ⟨rfl, rfl, _, _, _, _, _, _, _, _, rfl⟩ (fun i σ H' q => by rw [q.2.1]; exact e12.sqt hr4) ?_ ?_
  · rintro i y T0 σ H3 hi ⟨rfl, rfl, y7, y8, y9, y10, y11, y12, y13, y14, rfl⟩ hT
    have ey : rv = y := Option.some.inj hi
    subst ey
    have eT : Ext [] (upd H1 l (.lst [])) (upd (upd H1 l (.lst [])) T0 (.tup [.int (0 : Nat), rv])) := Ext.new hT
    have e13 := e12.trans eT
    refine ⟨T0, _, rfl, SqT.of upd_same, rfl, _, _, rfl, _, _, rfl, rfl, ?_⟩
    have trr := tr.keep e13.keep0
    have hrow : ∃ ra rw1 rest, rv = .ref ra ∧ SqT K (upd (upd H1 l (.lst [])) T0 (.tup [.int (0 : Nat), rv])) ra (.str rw1 :: rest) ∧ ((.str rw1 :: rest : List V).length = 2 ∨ (.str rw1 :: rest : List V).length = 3) ∧ (rw1 = "give" ∨ rw1 = "go") := by
      unfold eRow at trr
      cases hg : f.give with
      | true =>
        rw [hg] at trr
        obtain ⟨ra, w1, w2, h1, h2, h3, h4⟩ := trr.two
        cases h3.str_
        exact ⟨ra, _, _, h1, h2, .inl rfl, .inl rfl⟩
      | false =>
        rw [hg] at trr
        obtain ⟨ra, w1, w2, w3, h1, h2, h3, h4, _⟩ := trr.three
        cases h3.str_
        exact ⟨ra, _, _, h1, h2, .inr rfl, .inr rfl⟩
    obtain ⟨ra, rw1, rest, rfl, hra, hlen, hw⟩ := hrow
    refine ⟨_, rfl, rfl, ra, _, _, _, rfl, hra, _, rfl, ?_⟩
    have hd : (decide ((2 : Int) ≤ (((.str rw1 :: rest : List V).length : Nat) : Int)) && decide ((((.str rw1 :: rest : List V).length : Nat) : Int) ≤ 4)) = true := by
      rcases hlen with q | q <;> rw [q] <;> rfl
    rw [hd]
    refine iteF ?_
    have d1 : decide (V.str rw1 = V.str (PySem.Str.ofString "less")) = false := by rcases hw with rfl | rfl <;> decide +kernel
    have d2 : decide (V.str rw1 = V.str (PySem.Str.ofString "match")) = false := by rcases hw with rfl | rfl <;> decide +kernel
    refine ⟨_, rfl, ra, _, _, _, rfl, rfl, hra, ix_nat (i := 0) rfl, rfl, _, rfl, ?_⟩
    rw [d1]
    refine iteF ?_
    refine ⟨_, rfl, ra, _, _, _, rfl, rfl, hra, ix_nat (i := 0) rfl, rfl, _, rfl, ?_⟩
    rw [d2]
    refine iteF ?_
    refine ⟨_, rfl, ra, _, _, _, rfl, rfl, hra, ix_nat (i := 0) rfl, rfl, _, rfl, ?_⟩
    rcases hw with hw1 | hw1
    · subst hw1
      refine iteT ?_
      refine iteT ?_
      refine ⟨_, rfl, _, rfl, _, rfl, _, rfl, a, _, _, _, rfl, rfl, e13.sqt hs, rfl, rfl, f, ks, H, x, h, _, rfl, trr, R2.ext eT, fv, hA.keep e13.keep0 fun o q => e13 _ _ q (fun m => nomatch m), fun H4 e4 => ?_⟩
      refine ⟨true, rfl, iteF ?_⟩
      have hl4 : H4 l = some (.lst []) := e4 _ _ (eT _ _ upd_same (fun m => nomatch m)) (fun m => nomatch m)
      refine ⟨_, rfl, Nat.zero_le _, fun q hq => ?_⟩
      have e5 : Ext [] H4 (upd H4 q (.lst [])) := Ext.new hq
      refine ⟨l, q, [], rfl, rfl, SqL.of (e5 _ _ hl4 (fun m => nomatch m)), SqL.of upd_same, _, rfl, iteT ?_⟩
      have e15 := (e13.trans e4).trans e5
      refine ⟨_, rfl, _, rfl, r, _, rfl, .inr (e15.sqt hr4), _, _, rfl, rfl, rfl, ?_⟩
      exact k _ e15
    · subst hw1
      refine iteF ?_
      refine ⟨_, rfl, ra, _, _, _, rfl, rfl, hra, ix_nat (i := 0) rfl, rfl, _, rfl, ?_⟩
      refine iteT ?_
      refine ⟨_, rfl, _, rfl, _, rfl, _, rfl, a, _, _, _, rfl, rfl, e13.sqt hs, rfl, rfl, f, ks, H, x, h, _, rfl, trr, R2.ext eT, fv, hA.keep e13.keep0 fun o q => e13 _ _ q (fun m => nomatch m), fun H4 e4 => ?_⟩
      refine ⟨true, rfl, iteF ?_⟩
      have hl4 : H4 l = some (.lst []) := e4 _ _ (eT _ _ upd_same (fun m => nomatch m)) (fun m => nomatch m)
      refine ⟨_, rfl, Nat.zero_le _, fun q hq => ?_⟩
      have e5 : Ext [] H4 (upd H4 q (.lst [])) := Ext.new hq
      refine ⟨l, q, [], rfl, rfl, SqL.of (e5 _ _ hl4 (fun m => nomatch m)), SqL.of upd_same, _, rfl, iteT ?_⟩
      have e15 := (e13.trans e4).trans e5
      refine ⟨_, rfl, _, rfl, r, _, rfl, .inr (e15.sqt hr4), _, _, rfl, rfl, rfl, ?_⟩
      exact k _ e15
  · rintro σ H3 ⟨h0, _⟩
    cases h0
end
end K47

set_option Elab.async false
set_option linter.all false
set_option maxRecDepth 100000
set_option maxHeartbeats 4000000
namespace K47
open PySem PySem.Spec PyProof.Rows L2
open C8 hiding CX0 E0
section
variable {P : Program} {w : World} {K : PySem.W.Frag} {mg : Str → Option Value} {base : Heap}
abbrev N_is_head : List Str := ["function", "names", "kind"]
theorem sc_is_head : FnScope ["function", "names", "kind"] ["function", "names"] (defScope s_is_head) := ⟨rfl, rfl, rfl, by decide +kernel, rfl, by decide +kernel, by decide +kernel⟩
theorem c_is_head (T : Txt w K mg) : Cal P w K mg base 4 "is_head" (spN 2 (r_is_head K)) [] := by
  obtain ⟨fd, F⟩ := T.f_is_head
  refine cal_mk F T.m_is_head (fun _ _ _ _ _ _ us hl => match us, hl with | [_, _], _ => rfl) sc_is_head (fun _ _ _ _ h => h.1) (fun cdv A outer s H vs Q E hr h => ?_)
  have hu := hu_of hr
  have hul := hul_of hr
  obtain ⟨_, f, ks, v, nm, rfl, hv, o, fv, hnm, k⟩ := h
  have np := fv.np
  obtain ⟨a, v1, v2, v3, v4, rfl, hs, t1, t2, t3, t4⟩ := hv.four
  cases t1.str_
  cases t3.str_
  obtain ⟨pa, rfl, hpa⟩ := t2.strs
  obtain ⟨r, rv, rfl, hr4, tr⟩ := t4.one
  refine ⟨_, (pss_cons (ps_if (PW.pt (pw_or (pt_not (pt_val (pe_c (c_is_tuple T) hr (by decide) (by rfl) (pa_cons (pv 0) (pa_cons (pe_int) (pa_cons (pe_int) pa_nil)))))) (pw_or1 (pt_not (pt_val (pe_c (c_is_low T) hr (by decide) (by rfl) (pa_cons (pe_ix (ix_tupK (K := K) rfl) (pv 0) (pe_int) (fun _ _ => rfl)) pa_nil))))))) (pss_one (ps_ret (pe_bl))) (pss_nil))
      (pss_cons (ps_if (PW.pt (pw_or (pt_not (pt_val (pe_c (c_is_tuple T) hr (by decide) (by rfl) (pa_cons (pe_ix (ix_tupK (K := K) rfl) (pv 0) (pe_int) (fun _ _ => rfl)) (pa_cons (pe_int) (pa_cons (pe_gc (by rfl) T.g_MOST_PARAMS) pa_nil)))))) (pw_or1 (pt_not (pt_val (pe_c (c_is_tuple T) hr (by decide) (by rfl) (pa_cons (pe_ix (ix_tupK (K := K) rfl) (pv 0) (pe_int) (fun _ _ => rfl)) (pa_cons (pe_int) (pa_cons (pe_gc (by rfl) T.g_MOST_ROWS) pa_nil))))))))) (pss_one (ps_ret (pe_bl))) (pss_nil))
      (pss_one (ps_ret (pe_callB (cr_all rfl) (by rfl) T.b_all bt_all (pa_cons (pe_lc (own := [("kind", 2)]) rfl sc_is_head.nd (pi_tupK (K := K) rfl (pe_op op_catA (pe_ix (ix_tupK (K := K) rfl) (pv 0) (pe_int) (fun _ _ => rfl)) (pe_tup (pa_cons (pe_ix (ix_tupK (K := K) rfl) (pv 0) (pe_int) (fun _ _ => rfl)) pa_nil)))) (blkOk_by (N := N_is_head) (sc := defScope s_is_head) (by decide +kernel)) (fun _ _ _ _ _ => pg_name (i := 2) sc_is_head.nd rfl (by first | exact Or.inl rfl | exact Or.inr rfl)) (fun _ _ _ _ _ => pts_nil) (fun _ _ _ _ _ => pe_and (pe_c (c_is_kind_name T) hr (by decide) (by rfl) (pa_cons (pv 2) pa_nil)) (pe_one (pe_cmpR (op_inK (K := K) rfl) (pv 2) (pv 1) (by rfl))))) pa_nil)))))), ?_⟩
  refine ⟨_, rfl, rfl, a, _, _, _, rfl, hs, true, rfl, iteF ?_⟩
  refine ⟨_, rfl, a, _, _, _, rfl, rfl, hs, rfl, rfl, f.name, rfl, by have := name_len (low_name fv.low); omega, fun H0 e0 => ?_⟩
  refine ⟨_, rfl, ?_⟩
  rw [fv.low]
  refine iteF ?_
  have hs0 := e0.sqt hs
  have hpa0 := e0.sqt hpa
  refine ⟨_, rfl, a, _, _, _, rfl, rfl, hs0, rfl, rfl, pa, _, _, _, rfl, hpa0, _, rfl, ?_⟩
  rw [List.length_map, decide_eq_true (show (0 : Int) ≤ (f.params.length : Int) by omega), decide_eq_true (show (f.params.length : Int) ≤ 6 by omega)]
  refine iteF ?_
  refine ⟨_, rfl, a, _, _, _, rfl, rfl, hs0, rfl, rfl, r, _, _, _, rfl, e0.sqt hr4, true, rfl, iteF ?_⟩
  refine ⟨_, rfl, a, _, _, _, rfl, rfl, hs0, rfl, _, rfl, a, _, _, _, rfl, rfl, hs0, rfl, by show 1 ≤ sizeLine; decide, fun t ht => ?_⟩
  have eT : Ext [] H0 (upd H0 t (.tup [.str f.result])) := Ext.new ht
  refine ⟨pa, t, _, _, rfl, rfl, eT.sqt hpa0, SqT.of upd_same, by rw [List.length_map]; exact sz (by simp; omega), fun h0 => ?_, fun _ q => ?_, fun _ _ p hp => ?_⟩
  · have e1 := e0.trans eT
    have hq : SqT K (upd H0 t (.tup [.str f.result])) t ((f.params ++ [f.result]).map V.str) := by
      rw [List.map_append, h0]
      exact SqT.of upd_same
    refine ⟨t, rfl, ⟨_, hq⟩, fun D hD => ?_⟩
    refine lcT (ys := List.replicate (f.params.length + 1) (.bl true)) hq hD (by simp) (by simp; omega) ?_ ?_
    · intro i x y H3 Q' hx hy e3 k'
      obtain ⟨z, hz, rfl⟩ : ∃ z, (f.params ++ [f.result])[i]? = some z ∧ x = .str z := by
        rw [List.getElem?_map] at hx
        cases q : (f.params ++ [f.result])[i]? with
        | none => rw [q] at hx; cases hx
        | some z => rw [q] at hx; exact ⟨z, rfl, (Option.some.inj hx).symm⟩
      have hzm : z = "whole" ∨ z ∈ kNames ks := by
        rcases List.mem_append.mp (List.mem_of_getElem? hz) with q | q
        · exact fv.kp z q
        · rw [show z = f.result by simpa using q]
          exact fv.kr
      have hkb := kind_of o hzm
      have ey : y = .bl true := (List.mem_replicate.mp (List.mem_of_getElem? hy)).2
      refine ⟨rfl, _, rfl, rfl, z, rfl, by have := kind_len hkb; omega, fun H4 e4 => ⟨_, rfl, ?_⟩⟩
      rw [hkb]
      refine iteT ?_
      refine ⟨_, rfl, _, rfl, nm, _, rfl, .inl ((e1.trans (e3.trans e4)).sql hnm (fun m => nomatch m)), rfl, flat_strs _, ?_⟩
      rw [if_neg Bool.false_ne_true, inV_strs, decide_eq_true (by rcases hzm with q | q <;> simp [q])]
      have := k' H4 e4
      rw [ey] at this
      exact this
    · intro H3 e3 hl
      refine ⟨D, List.replicate (f.params.length + 1) true, rfl, SqL.of (by rw [hl, map_rep]), ?_⟩
      rw [all_true]
      exact k H3 (e1.trans e3)
  · cases q
  · have e1 := (e0.trans eT).trans (Ext.new (o := .tup (f.params.map V.str ++ [.str f.result])) hp)
    have hq : SqT K (upd (upd H0 t (.tup [.str f.result])) p (.tup (f.params.map V.str ++ [.str f.result]))) p ((f.params ++ [f.result]).map V.str) := by
      rw [List.map_append]
      exact SqT.of upd_same
    refine ⟨p, rfl, ⟨_, hq⟩, fun D hD => ?_⟩
    refine lcT (ys := List.replicate (f.params.length + 1) (.bl true)) hq hD (by simp) (by simp; omega) ?_ ?_
    · intro i x y H3 Q' hx hy e3 k'
      obtain ⟨z, hz, rfl⟩ : ∃ z, (f.params ++ [f.result])[i]? = some z ∧ x = .str z := by
        rw [List.getElem?_map] at hx
        cases q : (f.params ++ [f.result])[i]? with
        | none => rw [q] at hx; cases hx
        | some z => rw [q] at hx; exact ⟨z, rfl, (Option.some.inj hx).symm⟩
      have hzm : z = "whole" ∨ z ∈ kNames ks := by
        rcases List.mem_append.mp (List.mem_of_getElem? hz) with q | q
        · exact fv.kp z q
        · rw [show z = f.result by simpa using q]
          exact fv.kr
      have hkb := kind_of o hzm
      have ey : y = .bl true := (List.mem_replicate.mp (List.mem_of_getElem? hy)).2
      refine ⟨rfl, _, rfl, rfl, z, rfl, by have := kind_len hkb; omega, fun H4 e4 => ⟨_, rfl, ?_⟩⟩
      rw [hkb]
      refine iteT ?_
      refine ⟨_, rfl, _, rfl, nm, _, rfl, .inl ((e1.trans (e3.trans e4)).sql hnm (fun m => nomatch m)), rfl, flat_strs _, ?_⟩
      rw [if_neg Bool.false_ne_true, inV_strs, decide_eq_true (by rcases hzm with q | q <;> simp [q])]
      have := k' H4 e4
      rw [ey] at this
      exact this
    · intro H3 e3 hl
      refine ⟨D, List.replicate (f.params.length + 1) true, rfl, SqL.of (by rw [hl, map_rep]), ?_⟩
      rw [all_true]
      exact k H3 (e1.trans e3)
theorem fn_name_at {c : Core} {i : Nat} {f : Fdef} (h : c.fs[i]? = some f) : (c.fs.map (·.name))[i]? = some f.name := by rw [List.getElem?_map, h]; rfl
abbrev N_is_core : List Str := ["thing", "kinds", "functions", "names", "entry", "heads", "function", "makers"]
theorem sc_is_core : FnScope ["thing", "kinds", "functions", "names", "entry", "heads", "function", "makers"] ["thing"] (defScope s_is_core) := ⟨rfl, rfl, rfl, by decide +kernel, rfl, by decide +kernel, by decide +kernel⟩
theorem c_is_core (T : Txt w K mg) : Cal P w K mg base 7 "is_core" (spN 1 (r_is_core K)) [] := by
  obtain ⟨fd, F⟩ := T.f_is_core
  refine cal_mk F T.m_is_core (fun _ _ _ _ _ _ us hl => match us, hl with | [_], _ => rfl) sc_is_core (fun _ _ _ _ h => h.1) (fun cdv A outer s H vs Q E hr h => ?_)
  have hu := hu_of hr
  have hul := hul_of hr
  obtain ⟨_, c, v, rfl, hv, o, k⟩ := h
  have on := o.n
  have okn := o.ks.n
  obtain ⟨a, v1, v2, rfl, hs, t1, t2⟩ := hv.two
  obtain ⟨b, xs, rfl, hb, ts⟩ := t2.open_
  obtain ⟨ka, kxs, rfl, hka, tk⟩ := TD.open_ (ds := c.ks.map eKd) t1
  have hlen : xs.length = c.fs.length := by rw [ts.length, List.length_map]
  have hklen : kxs.length = c.ks.length := by rw [tk.length, List.length_map]
  refine ⟨_, (pss_cons (ps_if (PW.pt (pw_or (pt_not (pt_val (pe_c (c_is_tuple T) hr (by decide) (by rfl) (pa_cons (pv 0) (pa_cons (pe_int) (pa_cons (pe_int) pa_nil)))))) (pw_or (pt_not (pt_val (pe_c (c_are_kinds T) hr (by decide) (by rfl) (pa_cons (pe_ix (ix_tupK (K := K) rfl) (pv 0) (pe_int) (fun _ _ => rfl)) pa_nil)))) (pw_or1 (pt_cmpR op_notN (pe_c (c_kinds_fault T) hr (by decide) (by rfl) (pa_cons (pe_ix (ix_tupK (K := K) rfl) (pv 0) (pe_int) (fun _ _ => rfl)) pa_nil)) (pe_non) (nomark _)))))) (pss_one (ps_ret (pe_bl))) (pss_nil))
      (pss_cons (ps_asg (pv 0) (pg_tupK (K := K) (n := 2) rfl rfl (pgs_cons (pg_name (i := 1) sc_is_core.nd rfl (by first | exact Or.inl rfl | exact Or.inr rfl)) (pgs_cons (pg_name (i := 2) sc_is_core.nd rfl (by first | exact Or.inl rfl | exact Or.inr rfl)) pgs_nil))))
      (pss_cons (ps_if (pt_not (pt_val (pe_c (c_is_tuple T) hr (by decide) (by rfl) (pa_cons (pv 2) (pa_cons (pe_int) (pa_cons (pe_gc (by rfl) T.g_MOST_FUNCTIONS) pa_nil)))))) (pss_one (ps_ret (pe_bl))) (pss_nil))
      (pss_cons (ps_set (i := 3) sc_is_core.nd rfl (by first | exact Or.inl rfl | exact Or.inr rfl) (pe_op op_cat (pe_lc (own := [("entry", 4)]) rfl sc_is_core.nd (pi_tupK (K := K) rfl (pv 1)) (blkOk_by (N := N_is_core) (sc := defScope s_is_core) (by decide +kernel)) (fun _ _ _ _ _ => pg_name (i := 4) sc_is_core.nd rfl (by first | exact Or.inl rfl | exact Or.inr rfl)) (fun _ _ _ _ _ => pts_nil) (fun _ _ _ _ _ => pe_ix (ix_tupK (K := K) rfl) (pv 4) (pe_int) (fun _ _ => rfl))) (pe_lst (pa_cons (pe_str) pa_nil))))
      (pss_cons (ps_set (i := 5) sc_is_core.nd rfl (by first | exact Or.inl rfl | exact Or.inr rfl) (pe_dnewK))
      (pss_cons (ps_for PassesOwn.never rfl (pi_tupK (K := K) rfl (pv 2)) (pg_name (i := 6) sc_is_core.nd rfl (by first | exact Or.inl rfl | exact Or.inr rfl))
        (pss_cons (ps_if (PW.pt (pw_or (pt_not (pt_val (pe_c (c_is_head T) hr (by decide) (by rfl) (pa_cons (pv 6) (pa_cons (pv 3) pa_nil))))) (pw_or1 (pt_cmp (pc_din hu (pe_ix (ix_tupK (K := K) rfl) (pv 6) (pe_int) (fun _ _ => rfl)) (pv 5)))))) (pss_one (ps_ret (pe_bl))) (pss_nil))
      (pss_one (ps_dput hu (pv 5) (pe_ix (ix_tupK (K := K) rfl) (pv 6) (pe_int) (fun _ _ => rfl)) (pe_tup (pa_cons (pe_ix (ix_tupK (K := K) rfl) (pv 6) (pe_int) (fun _ _ => rfl)) (pa_cons (pe_ix (ix_tupK (K := K) rfl) (pv 6) (pe_int) (fun _ _ => rfl)) pa_nil))) rfl))))
      (pss_cons (ps_set (i := 7) sc_is_core.nd rfl (by first | exact Or.inl rfl | exact Or.inr rfl) (pe_c (c_maker_table T) hr (by decide) (by rfl) (pa_cons (pv 1) pa_nil)))
      (pss_one (ps_ret (pe_callB (cr_all rfl) (by rfl) T.b_all bt_all (pa_cons (pe_lc (own := [("function", 6)]) rfl sc_is_core.nd (pi_tupK (K := K) rfl (pv 2)) (blkOk_by (N := N_is_core) (sc := defScope s_is_core) (by decide +kernel)) (fun _ _ _ _ _ => pg_name (i := 6) sc_is_core.nd rfl (by first | exact Or.inl rfl | exact Or.inr rfl)) (fun _ _ _ _ _ => pts_nil) (fun _ _ _ _ _ => pe_c (c_rows_fit T) hr (by decide) (by rfl) (pa_cons (pv 6) (pa_cons (pv 1) (pa_cons (pv 7) (pa_cons (pv 5) pa_nil)))))) pa_nil))))))))))), ?_⟩
  refine ⟨_, rfl, rfl, a, _, _, _, rfl, hs, true, rfl, iteF ?_⟩
  refine ⟨_, rfl, a, _, _, _, rfl, rfl, hs, rfl, rfl, _, c.ks, rfl, t1, o.ks, fun H1 e1 => ⟨true, rfl, iteF ?_⟩⟩
  refine ⟨_, rfl, a, _, _, _, rfl, rfl, e1.sqt hs, rfl, rfl, _, c.ks, rfl, t1.keep e1.keep0, o.ks, fun H2 e2 => ?_⟩
  refine ⟨rfl, _, rfl, iteF ?_⟩
  have e02 := e1.trans e2
  refine ⟨_, rfl, a, _, rfl, e02.sqt hs, rfl, _, _, rfl, _, _, rfl, rfl, ?_⟩
  refine ⟨_, rfl, rfl, b, _, _, _, rfl, e02.sqt hb, _, rfl, ?_⟩
  rw [hlen, decide_eq_true (show (0 : Int) ≤ (c.fs.length : Int) by omega), decide_eq_true (show (c.fs.length : Int) ≤ 12 by omega)]
  refine iteF ?_
  refine ⟨_, rfl, ka, rfl, ⟨_, e02.sqt hka⟩, fun D hD => ?_⟩
  refine lcT (ys := (kNames c.ks).map V.str) (e02.sqt hka) hD (by simp [kNames, hklen]) (by omega) ?_ ?_
  · intro i x y H3 Q' hx hy e3 k'
    obtain ⟨kd, hk, td⟩ := TD.atV tk hx
    obtain ⟨d, u1, u2, rfl, hd, w1, w2⟩ := (td.keep (e02.trans e3).keep0).two
    cases w1.str_
    refine ⟨rfl, _, rfl, _, _, _, _, rfl, rfl, hd, rfl, ?_⟩
    have ey : y = .str kd.1 := by
      unfold kNames at hy
      rw [List.map_map, List.getElem?_map, hk] at hy
      exact (Option.some.inj hy).symm
    rw [← ey]
    exact k' H3 (Ext.refl H3)
  intro H3 e3 hD3
  refine ⟨by show 1 ≤ sizeLine; decide, fun p hp => ?_⟩
  have nDp : D ≠ p := ne_of_none hD3 hp
  refine ⟨D, p, _, _, rfl, rfl, by rw [upd_ne nDp]; exact hD3, upd_same, by rw [List.length_map]; unfold kNames; rw [List.length_map]; exact sz (by simp; omega), fun nm hnm => ?_⟩
  have e4 : Ext [] H (upd (upd H3 p (.lst [.str "whole"])) nm (.lst ((kNames c.ks).map V.str ++ [.str "whole"]))) := ((e02.trans e3).trans (Ext.new hp)).trans (Ext.new hnm)
  intro h hh
  have hn : nm ≠ h := ne_of_none upd_same hh
  have fh : H h = none := e4.free hh (fun m => nomatch m)
  have e5 := e4.trans (Ext.new (o := .dK []) hh)
  refine ⟨_, rfl, b, rfl, ⟨_, e5.sqt hb⟩, ?_⟩
  refine for_tup (xs := xs) (fun i σ H' => Ext [] H H' ∧ (∃ y4 y6 y7, σ = [some (.ref a), some (.ref ka), some (.ref b), some (.ref nm), y4, some (.ref h), y6, y7]) ∧ H' nm = some (.lst ((kNames c.ks).map V.str ++ [.str "whole"])) ∧
      ∃ kvs : List (Key × V), H' h = some (.dK kvs) ∧ kvs.length ≤ i ∧ (∀ z : Str, z ∉ (c.fs.map (·.name)).take i → valV kvs (.inr z) = none) ∧ ∀ j < i, ∀ f, c.fs[j]? = some f → HAt K H' h f)
    ⟨e5, ⟨_, _, _, rfl⟩, (upd_ne hn).trans upd_same, [], upd_same, Nat.le_refl _, fun _ _ => rfl, fun j hj => absurd hj (Nat.not_lt_zero j)⟩ (fun i σ H' _ p => p.1.sqt hb) ?_ ?_
  · rintro i x σ H6 hi ⟨f1, ⟨y4, y6, y7, rfl⟩, q1, kvs, q2, q3, q4, q5⟩
    obtain ⟨f, hf, tf⟩ := TD.atV ts hi
    have hil : i < c.fs.length := (List.getElem?_eq_some_iff.mp hf).1
    have fv := o.fn f (List.mem_of_getElem? hf)
    have tf6 := tf.keep f1.keep0
    obtain ⟨fa, g1, g2, g3, g4, rfl, hfa, s1, s2, s3, s4⟩ := tf6.four
    cases s1.str_
    cases s3.str_
    obtain ⟨pa, rfl, hpa⟩ := s2.strs
    have ens : ((kNames c.ks).map V.str ++ [V.str "whole"]) = (kNames c.ks ++ [("whole" : Str)]).map V.str := by simp
    refine ⟨_, rfl, _, rfl, rfl, f, c.ks, _, nm, rfl, tf6, o.ks, fv, by rw [← ens]; exact SqL.of q1, fun H7 e7 => ⟨true, rfl, iteF ?_⟩⟩
    have hfa7 := e7.sqt hfa
    have q27 := e7 _ _ q2 (fun m => nomatch m)
    have hN := fn_name_at hf
    have hno : valV kvs (.inr f.name) = none := q4 f.name (notin_take o.nd hN)
    refine ⟨_, rfl, fa, _, _, _, rfl, rfl, hfa7, rfl, _, rfl, h, _, rfl, DGet.k (k := .inr f.name) q27, _, rfl, ?_⟩
    rw [hno]
    refine iteF ?_
    refine ⟨_, rfl, fa, _, _, _, rfl, rfl, hfa7, rfl, _, rfl, fa, _, _, _, rfl, rfl, hfa7, rfl, by show 2 ≤ sizeLine; decide, fun t ht => ?_⟩
    have eT : Ext [] H7 (upd H7 t (.tup [.ref pa, .str f.result])) := Ext.new ht
    have nth : h ≠ t := ne_of_none q27 ht
    have q28 : (upd H7 t (.tup [.ref pa, .str f.result])) h = some (.dK kvs) := (upd_ne nth).trans q27
    refine ⟨_, rfl, _, rfl, fa, _, _, _, rfl, rfl, eT.sqt hfa7, rfl, h, _, rfl, DPut.k (k := .inr f.name) q28 (szl (by omega)), ?_⟩
    have kd : KeepT (upd H7 t (.tup [.ref pa, .str f.result])) (upd (upd H7 t (.tup [.ref pa, .str f.result])) h (.dK (putK kvs (.inr f.name) (.ref t)))) := KeepT.upd (not_tup_dK q28)
    refine ⟨((f1.trans e7).trans eT).mut fh, ⟨_, _, _, rfl⟩, ?_, _, upd_same, ?_, fun z hz => ?_, fun j hj f' hf' => ?_⟩
    · rw [upd_ne hn]
      exact eT _ _ (e7 _ _ q1 (fun m => nomatch m)) (fun m => nomatch m)
    · have := putK_len' kvs (.inr f.name) (.ref t)
      omega
    · rw [List.take_succ, hN] at hz
      simp only [List.mem_append, not_or] at hz
      rw [valV_put, if_neg (fun q => hz.2 (by rw [Sum.inr.inj q]; simp))]
      exact q4 z hz.1
    · rcases Nat.lt_succ_iff_lt_or_eq.mp hj with hj' | rfl
      · obtain ⟨kvs', r1, t', a', r2, r3, r4⟩ := q5 j hj' f' hf'
        rw [q2] at r1
        cases r1
        have kk := (e7.keep0.trans eT.keep0).trans kd
        refine ⟨_, upd_same, t', a', ?_, kk.sq r3, kk.sq r4⟩
        have hN' := fn_name_at hf'
        rw [valV_put, if_neg (fun q => ?_)]
        · exact r2
        · have e := Sum.inr.inj q
          have := notin_take o.nd hN
          refine this ?_
          rw [← e]
          exact List.mem_of_getElem? (i := j) (by rw [List.getElem?_take, if_pos hj']; exact hN')
      · rw [hf] at hf'
        cases hf'
        refine ⟨_, upd_same, t, pa, by rw [valV_put, if_pos rfl], kd.sq (SqT.of upd_same), kd.sq (eT.sqt (e7.sqt hpa))⟩
  · rintro σ H6 ⟨f1, ⟨y4, y6, y7, rfl⟩, q1, kvs, q2, q3, q4, q5⟩
    rw [hlen] at q5
    refine ⟨_, rfl, rfl, _, c.ks, rfl, t1.keep f1.keep0, o.ks, fun H7 mt e7 hmt M => ?_⟩
    have f7 := f1.trans e7
    refine ⟨_, rfl, b, rfl, ⟨_, f7.sqt hb⟩, fun D' hD' => ?_⟩
    refine lcT (ys := List.replicate c.fs.length (.bl true)) (f7.sqt hb) hD' (by simp [hlen]) (by omega) ?_ ?_
    · intro i x y H8 Q' hx hy e8 k'
      obtain ⟨f, hf, tf⟩ := TD.atV ts hx
      have hil : i < c.fs.length := (List.getElem?_eq_some_iff.mp hf).1
      have fv := o.fn f (List.mem_of_getElem? hf)
      have ey : y = .bl true := (List.mem_replicate.mp (List.mem_of_getElem? hy)).2
      have e78 := e7.trans e8
      refine ⟨rfl, _, rfl, _, rfl, _, rfl, _, rfl, rfl, f, c.ks, _, _, _, h, rfl, tf.keep (f7.trans e8).keep0, fv, (q5 i hil f hf).keep e78.keep0 fun o q => e78 _ _ q (fun m => nomatch m), fun H9 e9 => ?_⟩
      have := k' H9 e9
      rw [ey] at this
      exact this
    · intro H8 e8 hl8
      refine ⟨D', List.replicate c.fs.length true, rfl, SqL.of (by rw [hl8, map_rep]), ?_⟩
      rw [all_true]
      exact k H8 (f7.trans e8)
abbrev N_need_core : List Str := ["thing"]
theorem sc_need_core : FnScope ["thing"] ["thing"] (defScope s_need_core) := ⟨rfl, rfl, rfl, by decide +kernel, rfl, by decide +kernel, by decide +kernel⟩
theorem c_need_core (T : Txt w K mg) : Cal P w K mg base 8 "need_core" (spN 1 (r_need_core K)) [] := by
  obtain ⟨fd, F⟩ := T.f_need_core
  refine cal_mk F T.m_need_core (fun _ _ _ _ _ _ us hl => match us, hl with | [_], _ => rfl) sc_need_core (fun _ _ _ _ h => h.1) (fun cdv A outer s H vs Q E hr h => ?_)
  have hu := hu_of hr
  have hul := hul_of hr
  obtain ⟨_, c, v, rfl, hv, o, k⟩ := h
  refine ⟨_, (pss_one (ps_if (pt_not (pt_val (pe_c (c_is_core T) hr (by decide) (by rfl) (pa_cons (pv 0) pa_nil)))) (pss_one (ps_never)) (pss_nil))), ?_⟩
  refine ⟨_, rfl, rfl, c, _, rfl, hv, o, fun H1 e1 => ⟨true, rfl, iteF ?_⟩⟩
  exact k H1 e1
abbrev N_place_of : List Str := ["core", "name", "index", "function"]
theorem sc_place_of : FnScope ["core", "name", "index", "function"] ["core", "name"] (defScope s_place_of) := ⟨rfl, rfl, rfl, by decide +kernel, rfl, by decide +kernel, by decide +kernel⟩
theorem c_place_of (T : Txt w K mg) : Cal P w K mg base 1 "place_of" (spN 2 (r_place_of K)) [] := by
  obtain ⟨fd, F⟩ := T.f_place_of
  refine cal_mk F T.m_place_of (fun _ _ _ _ _ _ us hl => match us, hl with | [_, _], _ => rfl) sc_place_of (fun _ _ _ _ h => h.1) (fun cdv A outer s H vs Q E hr h => ?_)
  have hu := hu_of hr
  have hul := hul_of hr
  obtain ⟨_, c, v, f, n, rfl, hv, o, hf, k⟩ := h
  obtain ⟨a, v1, v2, rfl, hs, t1, t2⟩ := hv.two
  obtain ⟨b, xs, rfl, hb, ts⟩ := t2.open_
  have hlen : xs.length = c.fs.length := by rw [ts.length, List.length_map]
  have hnl : n < c.fs.length := (List.getElem?_eq_some_iff.mp hf).1
  refine ⟨_, (pss_cons (ps_for PassesOwn.never rfl (pi_enumT (by rfl) T.b_enumerate (pa_cons (pe_ix (ix_tupK (K := K) rfl) (pv 0) (pe_int) (fun _ _ => rfl)) pa_nil)) (pg_tupK (K := K) (n := 2) rfl rfl (pgs_cons (pg_name (i := 2) sc_place_of.nd rfl (by first | exact Or.inl rfl | exact Or.inr rfl)) (pgs_cons (pg_name (i := 3) sc_place_of.nd rfl (by first | exact Or.inl rfl | exact Or.inr rfl)) pgs_nil)))
        (pss_one (ps_if (PW.pt (pw_and (pt_val (pe_callB call_isi1 (by rfl) T.b_isinstance bt_isinstance (pa_cons (pv 1) (pa_cons (pe_bltn (v := .ty "str") (by rfl) T.b_str bt_str rfl) pa_nil)))) (pw_and1 (pt_cmpR op_eq (pe_ix (ix_tupK (K := K) rfl) (pv 3) (pe_int) (fun _ _ => rfl)) (pv 1) (nomark _))))) (pss_one (ps_ret (pv 2))) (pss_nil))))
      (pss_one (ps_never))), ?_⟩
  refine ⟨_, rfl, a, _, _, _, rfl, rfl, hs, rfl, b, _, rfl, hb, ?_⟩
  refine for_enumT (xs := xs) (fun i σ H' => Ext [] H H' ∧ i ≤ n ∧ ∃ y2 y3, σ = [some (.ref a), some (.str f.name), y2, y3]) ⟨Ext.refl H, Nat.zero_le _, _, _, rfl⟩ (fun i σ H' q => q.1.sqt hb) ?_ ?_
  · rintro i x T0 σ H1 hi ⟨e1, hin, y2, y3, rfl⟩ hT
    obtain ⟨f', hf', tf⟩ := TD.atV ts hi
    have eT : Ext [] H1 (upd H1 T0 (.tup [.int (i : Nat), x])) := Ext.new hT
    have e2 := e1.trans eT
    obtain ⟨fa, g1, g2, g3, g4, rfl, hfa, s1, s2, s3, s4⟩ := (tf.keep e2.keep0).four
    cases s1.str_
    refine ⟨T0, _, rfl, SqT.of upd_same, rfl, _, _, rfl, _, _, rfl, rfl, ?_⟩
    refine ⟨_, rfl, _, _, _, rfl, isi_str (b := true), true, rfl, iteT ?_⟩
    refine ⟨_, rfl, fa, _, _, _, rfl, rfl, hfa, rfl, _, rfl, rfl, _, rfl, ?_⟩
    by_cases hn : f'.name = f.name
    · refine ite2 (fun _ => ?_) (fun q => absurd (decide_eq_true (congrArg V.str hn)) q)
      have hin' : i = n := by
        have h1 := fn_name_at hf'
        have h2 := fn_name_at hf
        rw [← hn] at h2
        have hl := (List.getElem?_eq_some_iff.mp h1).1
        exact (List.getElem?_inj hl o.nd).mp (h1.trans h2.symm)
      subst hin'
      exact ⟨_, rfl, k _ e2⟩
    · refine ite2 (fun q => absurd (V.str.inj (of_decide_eq_true q)) hn) (fun _ => ?_)
      refine ⟨e2, ?_, _, _, rfl⟩
      by_cases h1 : i = n
      · subst h1
        rw [hf] at hf'
        cases hf'
        exact absurd rfl hn
      · omega
  · rintro σ H1 ⟨e1, hin, _⟩
    omega
end
end K47

set_option Elab.async false
set_option linter.all false
set_option maxRecDepth 100000
set_option maxHeartbeats 4000000
namespace K47
open PySem PySem.Spec PyProof.Rows L2
open C8 hiding CX0 E0
/-! instructions -/
inductive Ins
  | set (r : Nat) (n : Int)
  | copy (r s : Nat)
  | add (r s t : Nat)
  | sub (r s t : Nat)
  | times (r s : Nat) (m : Int)
  | new (r n : Nat)
  | put (r o s : Nat)
  | take (r s o : Nat)
  | push (c : Nat)
  | drop (c : Nat)
  | save (i r : Nat)
  | load (r i : Nat)
  | less (r s j : Nat)
  | table (r : Nat) (js : List Nat)
  | jump (j : Nat)
  | call (f : Str)
  | go (f : Str)
  | ret
  deriving DecidableEq
def insWord : Ins → Str
  | .set .. => "set"
  | .copy .. => "copy"
  | .add .. => "add"
  | .sub .. => "sub"
  | .times .. => "times"
  | .new .. => "new"
  | .put .. => "put"
  | .take .. => "take"
  | .push .. => "push"
  | .drop .. => "drop"
  | .save .. => "save"
  | .load .. => "load"
  | .less .. => "less"
  | .table .. => "table"
  | .jump .. => "jump"
  | .call .. => "call"
  | .go .. => "go"
  | .ret => "return"
abbrev dN (n : Nat) : PyData := .int (n : Int)
def insParts : Ins → List (Nat × PyData)
  | .set r n => [(114, dN r), (110, .int n)]
  | .copy r s => [(114, dN r), (114, dN s)]
  | .add r s t => [(114, dN r), (114, dN s), (114, dN t)]
  | .sub r s t => [(114, dN r), (114, dN s), (114, dN t)]
  | .times r s m => [(114, dN r), (114, dN s), (109, .int m)]
  | .new r n => [(114, dN r), (119, dN n)]
  | .put r o s => [(114, dN r), (111, dN o), (114, dN s)]
  | .take r s o => [(114, dN r), (114, dN s), (111, dN o)]
  | .push c => [(99, dN c)]
  | .drop c => [(99, dN c)]
  | .save i r => [(105, dN i), (114, dN r)]
  | .load r i => [(114, dN r), (105, dN i)]
  | .less r s j => [(114, dN r), (114, dN s), (106, dN j)]
  | .table r js => [(114, dN r), (116, .tuple ((js.map fun j : Nat => (j : Int)).map .int))]
  | .jump j => [(106, dN j)]
  | .call f => [(102, .str f)]
  | .go f => [(102, .str f)]
  | .ret => []
def eIns (i : Ins) : PyData := .tuple (.str (insWord i) :: (insParts i).map (·.2))
def insForm (i : Ins) : Str := ⟨((insParts i).map (·.1)).toArray⟩
theorem form_mem (i : Ins) : (insWord i, He.Dv.str (insForm i)) ∈ forms := by
  cases i <;> (unfold forms insWord insForm insParts; simp only [List.map_cons, List.map_nil, List.mem_cons]; simp; decide)
def InsOk (size : Nat) (names : List Str) : Ins → Prop
  | .set r n => r ≤ 7 ∧ -1000000000000 ≤ n ∧ n ≤ 1000000000000
  | .copy r s => r ≤ 7 ∧ s ≤ 7
  | .add r s t => r ≤ 7 ∧ s ≤ 7 ∧ t ≤ 7
  | .sub r s t => r ≤ 7 ∧ s ≤ 7 ∧ t ≤ 7
  | .times r s m => r ≤ 7 ∧ s ≤ 7 ∧ -1000000 ≤ m ∧ m ≤ 1000000
  | .new r n => r ≤ 7 ∧ 1 ≤ n ∧ n ≤ 64
  | .put r o s => r ≤ 7 ∧ o ≤ 63 ∧ s ≤ 7
  | .take r s o => r ≤ 7 ∧ s ≤ 7 ∧ o ≤ 63
  | .push c => c ≤ 400
  | .drop c => c ≤ 400
  | .save i r => i ≤ 399 ∧ r ≤ 7
  | .load r i => r ≤ 7 ∧ i ≤ 399
  | .less r s j => r ≤ 7 ∧ s ≤ 7 ∧ j < size
  | .table r js => r ≤ 7 ∧ 1 ≤ js.length ∧ js.length ≤ 8 ∧ ∀ j ∈ js, j < size
  | .jump j => j < size
  | .call f => f ∈ names
  | .go f => f ∈ names
  | .ret => True
inductive PartOk (size : Nat) (names : List Str) : Nat → PyData → Prop
  | f {x : Str} (h : x ∈ names) : PartOk size names 102 (.str x)
  | j {n : Nat} (h : n < size) : PartOk size names 106 (dN n)
  | t {js : List Nat} (h1 : 1 ≤ js.length) (h2 : js.length ≤ 8) (h : ∀ j ∈ js, j < size) : PartOk size names 116 (.tuple ((js.map fun j : Nat => (j : Int)).map .int))
  | b {c : Nat} {lo hi i : Int} (h : ((⟨#[c]⟩ : Str), lo, hi) ∈ bounds) (h1 : lo ≤ i) (h2 : i ≤ hi) : PartOk size names c (.int i)
section
variable {size : Nat} {names : List Str}
theorem PartOk.r {r : Nat} (h : r ≤ 7) : PartOk size names 114 (dN r) := .b (lo := 0) (hi := 7) (by decide) (by omega) (by omega)
theorem PartOk.n {n : Int} (h : -1000000000000 ≤ n) (h2 : n ≤ 1000000000000) : PartOk size names 110 (.int n) := .b (lo := -1000000000000) (hi := 1000000000000) (by decide) h h2
theorem PartOk.m {n : Int} (h : -1000000 ≤ n) (h2 : n ≤ 1000000) : PartOk size names 109 (.int n) := .b (lo := -1000000) (hi := 1000000) (by decide) h h2
theorem PartOk.w {n : Nat} (h : 1 ≤ n) (h2 : n ≤ 64) : PartOk size names 119 (dN n) := .b (lo := 1) (hi := 64) (by decide) (by omega) (by omega)
theorem PartOk.c_ {n : Nat} (h2 : n ≤ 400) : PartOk size names 99 (dN n) := .b (lo := 0) (hi := 400) (by decide) (by omega) (by omega)
theorem PartOk.o {n : Nat} (h2 : n ≤ 63) : PartOk size names 111 (dN n) := .b (lo := 0) (hi := 63) (by decide) (by omega) (by omega)
theorem PartOk.i {n : Nat} (h2 : n ≤ 399) : PartOk size names 105 (dN n) := .b (lo := 0) (hi := 399) (by decide) (by omega) (by omega)
def AllP (size : Nat) (names : List Str) (l : List (Nat × PyData)) : Prop := ∀ p ∈ l, PartOk size names p.1 p.2
theorem AllP.nil : AllP size names [] := fun _ h => nomatch h
theorem AllP.cons {c : Nat} {d : PyData} {l : List (Nat × PyData)} (h : PartOk size names c d) (t : AllP size names l) : AllP size names ((c, d) :: l) := fun p hp => by
  rcases List.mem_cons.mp hp with rfl | q
  · exact h
  · exact t p q
theorem InsOk.parts {i : Ins} (h : InsOk size names i) : AllP size names (insParts i) := by
  cases i with
  | set r n => exact .cons (.r h.1) (.cons (.n h.2.1 h.2.2) .nil)
  | copy r s => exact .cons (.r h.1) (.cons (.r h.2) .nil)
  | add r s t => exact .cons (.r h.1) (.cons (.r h.2.1) (.cons (.r h.2.2) .nil))
  | sub r s t => exact .cons (.r h.1) (.cons (.r h.2.1) (.cons (.r h.2.2) .nil))
  | times r s m => exact .cons (.r h.1) (.cons (.r h.2.1) (.cons (.m h.2.2.1 h.2.2.2) .nil))
  | new r n => exact .cons (.r h.1) (.cons (.w h.2.1 h.2.2) .nil)
  | put r o s => exact .cons (.r h.1) (.cons (.o h.2.1) (.cons (.r h.2.2) .nil))
  | take r s o => exact .cons (.r h.1) (.cons (.r h.2.1) (.cons (.o h.2.2) .nil))
  | push c => exact .cons (.c_ h) .nil
  | drop c => exact .cons (.c_ h) .nil
  | save i r => exact .cons (.i h.1) (.cons (.r h.2) .nil)
  | load r i => exact .cons (.r h.1) (.cons (.i h.2) .nil)
  | less r s j => exact .cons (.r h.1) (.cons (.r h.2.1) (.cons (.j h.2.2) .nil))
  | table r js => exact .cons (.r h.1) (.cons (.t h.2.1 h.2.2.1 h.2.2.2) .nil)
  | jump j => exact .cons (.j h) .nil
  | call f => exact .cons (.f h) .nil
  | go f => exact .cons (.f h) .nil
  | ret => exact .nil
end
theorem bound_c {c : Nat} {lo hi : Int} (h : ((⟨#[c]⟩ : Str), lo, hi) ∈ bounds) : decide (V.str ⟨#[c]⟩ = V.str "f") = false ∧ decide (V.str ⟨#[c]⟩ = V.str "j") = false ∧ decide (V.str ⟨#[c]⟩ = V.str "t") = false := by
  have hall : ∀ p ∈ bounds, decide (V.str p.1 = V.str "f") = false ∧ decide (V.str p.1 = V.str "j") = false ∧ decide (V.str p.1 = V.str "t") = false := by decide +kernel
  exact hall _ h
/-- the names that a dict of names knows -/
def NmAt (H : Hp) (h : Addr) (names : List Str) : Prop := ∃ kvs : List (Key × V), H h = some (.dK kvs) ∧ ∀ x ∈ names, ∃ v, valV kvs (.inr x) = some v
theorem NmAt.ext {H H' : Hp} {h : Addr} {names : List Str} (n : NmAt H h names) (e : Ext [] H H') : NmAt H' h names := by
  obtain ⟨kvs, a, b⟩ := n
  exact ⟨kvs, e _ _ a (fun m => nomatch m), b⟩
def r_is_part (K : PySem.W.Frag) : List V → Hp → VK → Prop := fun vs H Q => ∃ size names c d v h, vs = [.str ⟨#[c]⟩, v, .int ((size : Nat) : Int), .ref h] ∧ PartOk size names c d ∧ TD K H v d ∧ NmAt H h names ∧ ∀ H', Ext [] H H' → Q (.bl true) H'
def r_is_instruction (K : PySem.W.Frag) : List V → Hp → VK → Prop := fun vs H Q => ∃ size names i v h, vs = [v, .int ((size : Nat) : Int), .ref h] ∧ InsOk size names i ∧ TD K H v (eIns i) ∧ NmAt H h names ∧ ∀ H', Ext [] H H' → Q (.bl true) H'
section
variable {P : Program} {w : World} {K : PySem.W.Frag} {mg : Str → Option Value} {base : Heap}
theorem dneq {i j : Int} (h : i ≠ j) : decide (V.int i = V.int j) = false := decide_eq_false fun q => h (V.int.inj q)
theorem deqq {i j : Int} (h : i = j) : (!decide (V.int i = V.int j)) = false := by rw [h, decide_eq_true rfl]; rfl
theorem ltsz {n size : Nat} (h : n < size) : (decide ((0 : Int) ≤ ((n : Nat) : Int)) && decide (((n : Nat) : Int) ≤ ((size : Nat) : Int) - 1)) = true := by
  rw [decide_eq_true (show (0 : Int) ≤ ((n : Nat) : Int) by omega), decide_eq_true (show ((n : Nat) : Int) ≤ ((size : Nat) : Int) - 1 by omega)]
  rfl
abbrev N_is_part : List Str := ["letter", "thing", "size", "names", "x", "low", "high"]
theorem sc_is_part : FnScope ["letter", "thing", "size", "names", "x", "low", "high"] ["letter", "thing", "size", "names"] (defScope s_is_part) := ⟨rfl, rfl, rfl, by decide +kernel, rfl, by decide +kernel, by decide +kernel⟩
theorem c_is_part (T : Txt w K mg) : Cal P w K mg base 3 "is_part" (spN 4 (r_is_part K)) [] := by
  obtain ⟨fd, F⟩ := T.f_is_part
  refine cal_mk F T.m_is_part (fun _ _ _ _ _ _ us hl => match us, hl with | [_, _, _, _], _ => rfl) sc_is_part (fun _ _ _ _ h => h.1) (fun cdv A outer s H vs Q E hr h => ?_)
  have hu := hu_of hr
  have hul := hul_of hr
  obtain ⟨_, size, names, c, d, v, h, rfl, hp, tv, hn, k⟩ := h
  obtain ⟨es, n, hkBOUNDS⟩ := T.d_BOUNDS
  refine ⟨_, (pss_cons (ps_if (pt_cmpR op_eq (pv 0) (pe_str) (nomark _)) (pss_one (ps_ret (pe_and (pe_callB call_isi1 (by rfl) T.b_isinstance bt_isinstance (pa_cons (pv 1) (pa_cons (pe_bltn (v := .ty "str") (by rfl) T.b_str bt_str rfl) pa_nil))) (pe_one (pe_cmp (pc_din hu (pv 1) (pv 3)) rfl))))) (pss_nil))
      (pss_cons (ps_if (pt_cmpR op_eq (pv 0) (pe_str) (nomark _)) (pss_one (ps_ret (pe_c (c_within T) hr (by decide) (by rfl) (pa_cons (pv 1) (pa_cons (pe_int) (pa_cons (pe_op op_sub (pv 2) (pe_int)) pa_nil)))))) (pss_nil))
      (pss_cons (ps_if (pt_cmpR op_eq (pv 0) (pe_str) (nomark _)) (pss_cons (ps_if (PW.pt (pw_or (pt_not (pt_val (pe_callB call_isi1 (by rfl) T.b_isinstance bt_isinstance (pa_cons (pv 1) (pa_cons (pe_bltn (v := .ty "tuple") (by rfl) T.b_tuple bt_tuple rfl) pa_nil))))) (pw_or1 (pt_not (pt_chain op_le op_le (pe_int) (pe_callB (call_lenK (K := K) rfl) (by rfl) T.b_len bt_len (pa_cons (pv 1) pa_nil)) (pe_int)))))) (pss_one (ps_ret (pe_bl))) (pss_nil))
      (pss_one (ps_ret (pe_callB (cr_all rfl) (by rfl) T.b_all bt_all (pa_cons (pe_lc (own := [("x", 4)]) rfl sc_is_part.nd (pi_tupK (K := K) rfl (pv 1)) (blkOk_by (N := N_is_part) (sc := defScope s_is_part) (by decide +kernel)) (fun _ _ _ _ _ => pg_name (i := 4) sc_is_part.nd rfl (by first | exact Or.inl rfl | exact Or.inr rfl)) (fun _ _ _ _ _ => pts_nil) (fun _ _ _ _ _ => pe_c (c_within T) hr (by decide) (by rfl) (pa_cons (pv 4) (pa_cons (pe_int) (pa_cons (pe_op op_sub (pv 2) (pe_int)) pa_nil))))) pa_nil))))) (pss_nil))
      (pss_cons (ps_asg (pe_ix ix_kdict (pe_gc (by rfl) T.g_BOUNDS) (pv 0) (fun _ _ => rfl)) (pg_tupK (K := K) (n := 2) rfl rfl (pgs_cons (pg_name (i := 5) sc_is_part.nd rfl (by first | exact Or.inl rfl | exact Or.inr rfl)) (pgs_cons (pg_name (i := 6) sc_is_part.nd rfl (by first | exact Or.inl rfl | exact Or.inr rfl)) pgs_nil))))
      (pss_one (ps_ret (pe_c (c_within T) hr (by decide) (by rfl) (pa_cons (pv 1) (pa_cons (pv 5) (pa_cons (pv 6) pa_nil)))))))))), ?_⟩
  refine ⟨_, rfl, rfl, _, rfl, ?_⟩
  cases hp with
  | f hx =>
    cases tv.str_
    obtain ⟨kvs, hh, hk⟩ := hn
    obtain ⟨u, hu1⟩ := hk _ hx
    refine iteT ?_
    refine ⟨_, rfl, _, _, _, rfl, isi_str (b := true), true, rfl, iteT ?_⟩
    refine ⟨_, rfl, _, rfl, h, _, rfl, DGet.k (k := .inr _) hh, ?_⟩
    rw [hu1]
    exact k H (Ext.refl H)
  | @j n hx =>
    cases tv.int_
    rw [decide_eq_false (by decide)]
    refine iteF ?_
    refine ⟨_, rfl, rfl, _, rfl, iteT ?_⟩
    refine ⟨_, rfl, _, rfl, _, _, rfl, rfl, rfl, _, _, _, rfl, ?_⟩
    rw [ltsz hx]
    exact k H (Ext.refl H)
  | @t js h1 h2 hx =>
    obtain ⟨a, rfl, ha⟩ := tv.ints
    rw [decide_eq_false (by decide)]
    refine iteF ?_
    refine ⟨_, rfl, rfl, _, rfl, ?_⟩
    rw [decide_eq_false (by decide)]
    refine iteF ?_
    refine ⟨_, rfl, rfl, _, rfl, iteT ?_⟩
    refine ⟨_, rfl, _, _, _, rfl, isi_tup ha (b := true), true, rfl, iteF ?_⟩
    refine ⟨_, rfl, a, _, rfl, .inr ha, _, _, rfl, rfl, _, rfl, ?_⟩
    rw [List.length_map, List.length_map, decide_eq_true (show (1 : Int) ≤ (js.length : Int) by omega)]
    refine iteT ⟨_, _, rfl, rfl, _, rfl, ?_⟩
    rw [decide_eq_true (show (js.length : Int) ≤ 8 by omega)]
    refine iteF ?_
    refine ⟨_, rfl, a, rfl, ⟨_, ha⟩, fun D hD => ?_⟩
    refine lcT (ys := List.replicate js.length (.bl true)) ha hD (by simp) (by simp; omega) ?_ ?_
    · intro i x y H3 Q' hx' hy e3 k'
      obtain ⟨z, hz, rfl⟩ : ∃ z ∈ js, x = .int ((z : Nat) : Int) := by
        rw [List.map_map, List.getElem?_map] at hx'
        cases q : js[i]? with
        | none => rw [q] at hx'; cases hx'
        | some z => rw [q] at hx'; exact ⟨z, List.mem_of_getElem? q, (Option.some.inj hx').symm⟩
      have ey : y = .bl true := (List.mem_replicate.mp (List.mem_of_getElem? hy)).2
      refine ⟨rfl, _, rfl, _, rfl, _, _, rfl, rfl, rfl, _, _, _, rfl, ?_⟩
      rw [ltsz (hx z hz)]
      have := k' H3 (Ext.refl H3)
      rw [ey] at this
      exact this
    · intro H3 e3 hl
      refine ⟨D, List.replicate js.length true, rfl, SqL.of (by rw [hl, map_rep]), ?_⟩
      rw [all_true]
      exact k H3 e3
  | @b c lo hi i hb h1 h2 =>
    obtain ⟨b1, b2, b3⟩ := bound_c hb
    cases tv.int_
    rw [b1]
    refine iteF ?_
    refine ⟨_, rfl, rfl, _, rfl, ?_⟩
    rw [b2]
    refine iteF ?_
    refine ⟨_, rfl, rfl, _, rfl, ?_⟩
    rw [b3]
    refine iteF ?_
    obtain ⟨ba, hb1, hb2⟩ := T.v_BOUNDS hb H
    refine ⟨_, rfl, _, _, .ref ba, rfl, rfl, ⟨es, n, _, hkBOUNDS.at_, hkBOUNDS.lit, hb1, rfl⟩, ba, _, rfl, hb2, rfl, _, _, rfl, _, _, rfl, rfl, ?_⟩
    refine ⟨_, rfl, _, rfl, _, rfl, rfl, _, _, _, rfl, ?_⟩
    rw [decide_eq_true h1, decide_eq_true h2]
    exact k H (Ext.refl H)
abbrev N_is_instruction : List Str := ["thing", "size", "names", "word", "form", "k"]
theorem sc_is_instruction : FnScope ["thing", "size", "names", "word", "form", "k"] ["thing", "size", "names"] (defScope s_is_instruction) := ⟨rfl, rfl, rfl, by decide +kernel, rfl, by decide +kernel, by decide +kernel⟩
theorem c_is_instruction (T : Txt w K mg) : Cal P w K mg base 4 "is_instruction" (spN 3 (r_is_instruction K)) [] := by
  obtain ⟨fd, F⟩ := T.f_is_instruction
  refine cal_mk F T.m_is_instruction (fun _ _ _ _ _ _ us hl => match us, hl with | [_, _, _], _ => rfl) sc_is_instruction (fun _ _ _ _ h => h.1) (fun cdv A outer s H vs Q E hr h => ?_)
  have hu := hu_of hr
  have hul := hul_of hr
  obtain ⟨_, size, names, i, v, h, rfl, ho, tv, hn, k⟩ := h
  obtain ⟨es, n, hkFORMS⟩ := T.d_FORMS
  obtain ⟨u, hu1, hu2⟩ := T.v_FORMS (form_mem i)
  obtain ⟨a, xs, rfl, ha, ts⟩ := tv.open_
  obtain ⟨w0, ps, rfl, tw, tp⟩ := ts.cons_
  cases tw.str_
  have hpl : ps.length = (insParts i).length := by rw [tp.length, List.length_map]
  refine ⟨_, (pss_cons (ps_if (PW.pt (pw_or (pt_not (pt_val (pe_callB call_isi1 (by rfl) T.b_isinstance bt_isinstance (pa_cons (pv 0) (pa_cons (pe_bltn (v := .ty "tuple") (by rfl) T.b_tuple bt_tuple rfl) pa_nil))))) (pw_or1 (pt_cmpR op_eq (pe_callB (call_lenK (K := K) rfl) (by rfl) T.b_len bt_len (pa_cons (pv 0) pa_nil)) (pe_int) (nomark _))))) (pss_one (ps_ret (pe_bl))) (pss_nil))
      (pss_cons (ps_set (i := 3) sc_is_instruction.nd rfl (by first | exact Or.inl rfl | exact Or.inr rfl) (pe_ix (ix_tupK (K := K) rfl) (pv 0) (pe_int) (fun _ _ => rfl)))
      (pss_cons (ps_if (PW.pt (pw_or (pt_not (pt_val (pe_callB call_isi1 (by rfl) T.b_isinstance bt_isinstance (pa_cons (pv 3) (pa_cons (pe_bltn (v := .ty "str") (by rfl) T.b_str bt_str rfl) pa_nil))))) (pw_or1 (pt_cmpR (op_notIn_kd hkFORMS) (pv 3) (pe_gc (by rfl) T.g_FORMS) (by rfl))))) (pss_one (ps_ret (pe_bl))) (pss_nil))
      (pss_cons (ps_set (i := 4) sc_is_instruction.nd rfl (by first | exact Or.inl rfl | exact Or.inr rfl) (pe_ix ix_kdict (pe_gc (by rfl) T.g_FORMS) (pv 3) (fun _ _ => rfl)))
      (pss_cons (ps_if (pt_cmpR op_ne (pe_callB (call_lenK (K := K) rfl) (by rfl) T.b_len bt_len (pa_cons (pv 0) pa_nil)) (pe_op op_add (pe_callB call_len_str (by rfl) T.b_len bt_len (pa_cons (pv 4) pa_nil)) (pe_int)) (nomark _)) (pss_one (ps_ret (pe_bl))) (pss_nil))
      (pss_cons (ps_for PassesOwn.never rfl (pi_range1 (by rfl) T.b_range (pa_cons (pe_callB call_len_str (by rfl) T.b_len bt_len (pa_cons (pv 4) pa_nil)) pa_nil)) (pg_name (i := 5) sc_is_instruction.nd rfl (by first | exact Or.inl rfl | exact Or.inr rfl))
        (pss_one (ps_if (pt_not (pt_val (pe_c (c_is_part T) hr (by decide) (by rfl) (pa_cons (pe_ix ix_str (pv 4) (pv 5) (fun _ _ => rfl)) (pa_cons (pe_ix (ix_tupK (K := K) rfl) (pv 0) (pe_op op_add (pv 5) (pe_int)) (fun _ _ => rfl)) (pa_cons (pv 1) (pa_cons (pv 2) pa_nil))))))) (pss_one (ps_ret (pe_bl))) (pss_nil))))
      (pss_one (ps_ret (pe_bl))))))))), ?_⟩
  refine ⟨_, rfl, _, _, _, rfl, isi_tup ha (b := true), true, rfl, iteF ?_⟩
  have pl3 : (insParts i).length ≤ 3 := by cases i <;> (unfold insParts; simp)
  have hform : (insForm i).length = (insParts i).length := by simp [insForm, Str.length]
  refine ⟨_, rfl, a, _, rfl, .inr ha, rfl, _, rfl, ?_⟩
  rw [dneq (show ((((V.str (insWord i) :: ps : List V).length : Nat) : Int)) ≠ 0 by rw [List.length_cons]; omega)]
  refine iteF ⟨_, rfl, a, _, _, _, rfl, rfl, ha, ix_nat (i := 0) rfl, ?_⟩
  refine ⟨_, rfl, _, _, _, rfl, isi_str (b := true), true, rfl, iteF ?_⟩
  refine ⟨_, rfl, _, _, rfl, rfl, hu1, _, rfl, iteF ?_⟩
  refine ⟨_, rfl, _, _, .str (insForm i), rfl, rfl, ⟨es, n, u, hkFORMS.at_, hkFORMS.lit, hu1, hu2⟩, ?_⟩
  refine ⟨_, rfl, a, _, rfl, .inr ha, _, rfl, _, rfl, sz (by omega), _, _, rfl, rfl, rfl, _, rfl, ?_⟩
  rw [hform, List.length_cons, hpl, deqq (by omega)]
  refine iteF ?_
  refine ⟨_, rfl, _, rfl, sz (by omega), _, rfl, by omega, by omega, ?_⟩
  rw [hform]
  refine for_range (fun j σ H' => Ext [] H H' ∧ ∃ y5, σ = [some (.ref a), some (.int ((size : Nat) : Int)), some (.ref h), some (.str (insWord i)), some (.str (insForm i)), y5]) ⟨Ext.refl H, _, rfl⟩ ?_ ?_
  · rintro j σ H1 hj ⟨e1, y5, rfl⟩
    obtain ⟨pp, hp⟩ : ∃ pp, (insParts i)[j]? = some pp := ⟨_, List.getElem?_eq_getElem (by simpa using hj)⟩
    obtain ⟨v, hv, tv⟩ := tp.get (i := j) (d := pp.2) (by rw [List.getElem?_map, hp]; rfl)
    rw [Int.zero_add]
    refine ⟨_, rfl, _, rfl, _, _, pp.1, rfl, rfl, sz (by omega), ?_, _, rfl, _, rfl, _, _, rfl, rfl, a, _, _, _, rfl, rfl, e1.sqt ha, ?_, _, rfl, _, rfl, rfl, size, names, pp.1, pp.2, v, h, rfl, ho.parts pp (List.mem_of_getElem? hp), tv.keep e1.keep0, hn.ext e1, fun H2 e2 => ⟨true, rfl, iteF ?_⟩⟩
    · refine ix_nat ?_
      show (((insParts i).map (·.1)).toArray.toList)[j]? = _
      rw [List.getElem?_map, hp]
      rfl
    · rw [show ((j : Nat) : Int) + 1 = ((j + 1 : Nat) : Int) by omega]
      exact ix_nat (by rw [List.getElem?_cons_succ]; exact hv)
    · exact ⟨e1.trans e2, _, rfl⟩
  · rintro σ H1 ⟨e1, y5, rfl⟩
    exact k H1 e1
end
end K47

set_option Elab.async false
set_option linter.all false
set_option maxRecDepth 100000
set_option maxHeartbeats 4000000
namespace K47
open PySem PySem.Spec PyProof.Rows L2
open C8 hiding CX0 E0
/-! images -/
structure Img where
  starts : List (Str × Nat)
  code : List Ins
def eSt (s : Str × Nat) : PyData := .tuple [.str s.1, dN s.2]
def eImg (g : Img) : PyData := .tuple [.tuple (g.starts.map eSt), .tuple (g.code.map eIns)]
def Img.names (g : Img) : List Str := g.starts.map (·.1)
structure ImgOk (g : Img) : Prop where
  n : g.starts.length ≤ 12
  m : g.code.length ≤ 60000
  st : ∀ s ∈ g.starts, lowB s.1 = true ∧ s.2 < g.code.length
  nd : g.names.Nodup
  ins : ∀ i ∈ g.code, InsOk g.code.length g.names i
theorem op_eqDK {X : Cx} {K : PySem.W.Frag} (h : X.K = K) (hu : X.A.units + 64 < cLine) : OpR X (compareOp .Eq) (rEqD K) := h ▸ op_eqD hu
theorem let_small {c : Nat} (h : isLet c = true ∨ isDig c = true) : c < 1114112 := by
  have h1 : ∀ d ∈ s_letters.cps.toList, d < 1114112 := by decide +kernel
  have h2 : ∀ d ∈ s_digits.cps.toList, d < 1114112 := by decide +kernel
  rcases h with h | h
  · exact h1 c (of_decide_eq_true h)
  · exact h2 c (of_decide_eq_true h)
theorem name_strOk {x : Str} (h : nameB x = true) : PyData.strOk x = true := by
  unfold nameB at h
  simp only [Bool.and_eq_true, List.all_eq_true, Bool.or_eq_true] at h
  unfold PyData.strOk
  rw [Array.all_eq_true']
  intro c hc
  exact decide_eq_true (let_small (h.2.2 c (by simpa using hc)))
theorem strs_shaped : ∀ {l : List Str}, (∀ x ∈ l, PyData.strOk x = true) → PyData.canLayAll0 (l.map .str) = true ∧ PyData.depthAll (l.map .str) = 0
  | [], _ => ⟨rfl, rfl⟩
  | x :: l, h => by
    obtain ⟨a, b⟩ := strs_shaped (l := l) fun y hy => h y (List.mem_cons_of_mem _ hy)
    refine ⟨?_, ?_⟩
    · rw [List.map_cons, PyData.canLayAll0, a, PyData.canLay0, h x List.mem_cons_self]
      rfl
    · rw [List.map_cons, PyData.depthAll, b, PyData.depth]
      rfl
theorem lstr_shaped {l : List Str} (h : ∀ x ∈ l, PyData.strOk x = true) : SeqAt.shaped (.list (l.map .str)) = true := by
  obtain ⟨a, b⟩ := strs_shaped h
  unfold SeqAt.shaped
  rw [PyData.canLay0, a, PyData.depth, b]
  rfl
theorem lstr_eqv {l : List Str} (h : ∀ x ∈ l, PyData.strOk x = true) : PyData.eqv (.list (l.map .str)) (.list (l.map .str)) = true :=
  SeqAt.eqv_refl _ (by rw [PyData.canLay0]; exact (strs_shaped h).1)
def r_start_names (K : PySem.W.Frag) : List V → Hp → VK → Prop := fun vs H Q => ∃ (g : Img) (v : V), vs = [v, .int ((g.code.length : Nat) : Int)] ∧ TD K H v (.tuple (g.starts.map eSt)) ∧ ImgOk g ∧ ∀ H' p, Ext [] H H' → H p = none → NmAt H' p g.names → Q (.ref p) H'
def r_is_image (K : PySem.W.Frag) : List V → Hp → VK → Prop := fun vs H Q => ∃ (g : Img) (v : V), vs = [v] ∧ TD K H v (eImg g) ∧ ImgOk g ∧ ∀ H', Ext [] H H' → Q (.bl true) H'
def r_need_image (K : PySem.W.Frag) : List V → Hp → VK → Prop := fun vs H Q => ∃ (g : Img) (v : V), vs = [v] ∧ TD K H v (eImg g) ∧ ImgOk g ∧ ∀ H', Ext [] H H' → Q .non H'
def r_same_names (K : PySem.W.Frag) : List V → Hp → VK → Prop := fun vs H Q => ∃ (c : Core) (g : Img) (v u : V), vs = [v, u] ∧ TD K H v (eCore c) ∧ TD K H u (eImg g) ∧ CoreOk c ∧ ImgOk g ∧ c.fs.map (·.name) = g.names ∧ ∀ H', Ext [] H H' → Q (.bl true) H'
def r_need_fit (K : PySem.W.Frag) : List V → Hp → VK → Prop := fun vs H Q => ∃ (c : Core) (g : Img) (v u : V), vs = [v, u] ∧ TD K H v (eCore c) ∧ TD K H u (eImg g) ∧ CoreOk c ∧ ImgOk g ∧ c.fs.map (·.name) = g.names ∧ ∀ H', Ext [] H H' → Q .non H'
section
variable {P : Program} {w : World} {K : PySem.W.Frag} {mg : Str → Option Value} {base : Heap}
abbrev N_start_names : List Str := ["starts", "size", "names", "start", "name"]
theorem sc_start_names : FnScope ["starts", "size", "names", "start", "name"] ["starts", "size"] (defScope s_start_names) := ⟨rfl, rfl, rfl, by decide +kernel, rfl, by decide +kernel, by decide +kernel⟩
theorem c_start_names (T : Txt w K mg) : Cal P w K mg base 3 "start_names" (spN 2 (r_start_names K)) [] := by
  obtain ⟨fd, F⟩ := T.f_start_names
  refine cal_mk F T.m_start_names (fun _ _ _ _ _ _ us hl => match us, hl with | [_, _], _ => rfl) sc_start_names (fun _ _ _ _ h => h.1) (fun cdv A outer s H vs Q E hr h => ?_)
  have hu := hu_of hr
  have hul := hul_of hr
  obtain ⟨_, g, v, rfl, hv, o, k⟩ := h
  have on := o.n
  obtain ⟨a, xs, rfl, ha, ts⟩ := hv.open_
  have hlen : xs.length = g.starts.length := by rw [ts.length, List.length_map]
  refine ⟨_, (pss_cons (ps_set (i := 2) sc_start_names.nd rfl (by first | exact Or.inl rfl | exact Or.inr rfl) (pe_dnewK))
      (pss_cons (ps_for PassesOwn.never rfl (pi_tupK (K := K) rfl (pv 0)) (pg_name (i := 3) sc_start_names.nd rfl (by first | exact Or.inl rfl | exact Or.inr rfl))
        (pss_cons (ps_if (PW.pt (pw_or (pt_not (pt_val (pe_callB call_isi1 (by rfl) T.b_isinstance bt_isinstance (pa_cons (pv 3) (pa_cons (pe_bltn (v := .ty "tuple") (by rfl) T.b_tuple bt_tuple rfl) pa_nil))))) (pw_or1 (pt_cmpR op_ne (pe_callB (call_lenK (K := K) rfl) (by rfl) T.b_len bt_len (pa_cons (pv 3) pa_nil)) (pe_int) (nomark _))))) (pss_one (ps_ret (pe_non))) (pss_nil))
      (pss_cons (ps_set (i := 4) sc_start_names.nd rfl (by first | exact Or.inl rfl | exact Or.inr rfl) (pe_ix (ix_tupK (K := K) rfl) (pv 3) (pe_int) (fun _ _ => rfl)))
      (pss_cons (ps_if (PW.pt (pw_or (pt_not (pt_val (pe_c (c_is_low T) hr (by decide) (by rfl) (pa_cons (pv 4) pa_nil)))) (pw_or (pt_cmp (pc_din hu (pv 4) (pv 2))) (pw_or1 (pt_not (pt_val (pe_c (c_within T) hr (by decide) (by rfl) (pa_cons (pe_ix (ix_tupK (K := K) rfl) (pv 3) (pe_int) (fun _ _ => rfl)) (pa_cons (pe_int) (pa_cons (pe_op op_sub (pv 1) (pe_int)) pa_nil)))))))))) (pss_one (ps_ret (pe_non))) (pss_nil))
      (pss_one (ps_dput hu (pv 2) (pv 4) (pe_bl) rfl))))))
      (pss_one (ps_ret (pv 2))))), ?_⟩
  intro p hp
  have e1 : Ext [] H (upd H p (.dK [])) := Ext.new hp
  refine ⟨_, rfl, a, rfl, ⟨_, e1.sqt ha⟩, ?_⟩
  refine for_tup (xs := xs) (fun i σ H' => Ext [] H H' ∧ (∃ y3 y4, σ = [some (.ref a), some (.int ((g.code.length : Nat) : Int)), some (.ref p), y3, y4]) ∧
      ∃ kvs : List (Key × V), H' p = some (.dK kvs) ∧ kvs.length ≤ i ∧ (∀ z : Str, z ∉ g.names.take i → valV kvs (.inr z) = none) ∧ ∀ x ∈ g.names.take i, ∃ v, valV kvs (.inr x) = some v)
    ⟨e1, ⟨_, _, rfl⟩, [], upd_same, Nat.le_refl _, fun _ _ => rfl, fun x hx => by simp at hx⟩ (fun i σ H' _ q => q.1.sqt ha) ?_ ?_
  · rintro i x σ H1 hi ⟨f1, ⟨y3, y4, rfl⟩, kvs, q1, q2, q3, q4⟩
    obtain ⟨st, hst, td⟩ := TD.atV ts hi
    have hil : i < g.starts.length := (List.getElem?_eq_some_iff.mp hst).1
    obtain ⟨b, u1, u2, rfl, hb, t1, t2⟩ := (td.keep f1.keep0).two
    cases t1.str_
    cases t2.int_
    obtain ⟨ol, oj⟩ := o.st st (List.mem_of_getElem? hst)
    have hN : g.names[i]? = some st.1 := by unfold Img.names; rw [List.getElem?_map, hst]; rfl
    have hno : valV kvs (.inr st.1) = none := q3 st.1 (notin_take o.nd hN)
    refine ⟨_, rfl, _, _, _, rfl, isi_tup hb (b := true), true, rfl, iteF ?_⟩
    refine ⟨_, rfl, b, _, rfl, .inr hb, rfl, _, rfl, iteF ?_⟩
    refine ⟨_, rfl, b, _, _, _, rfl, rfl, hb, rfl, ?_⟩
    refine ⟨_, rfl, rfl, st.1, rfl, by have := name_len (low_name ol); omega, fun H2 e2 => ⟨true, ?_, iteF ?_⟩⟩
    · rw [ol]
    have q12 := e2 _ _ q1 (fun m => nomatch m)
    refine ⟨_, rfl, _, rfl, p, _, rfl, DGet.k (k := .inr st.1) q12, _, rfl, ?_⟩
    rw [hno]
    refine iteF ?_
    have hb2 := e2.sqt hb
    refine ⟨_, rfl, b, _, _, _, rfl, rfl, hb2, rfl, _, rfl, _, _, rfl, rfl, rfl, _, _, _, rfl, _, rfl, ?_⟩
    rw [ltsz oj]
    refine iteF ?_
    refine ⟨_, rfl, _, rfl, p, _, rfl, DPut.k (k := .inr st.1) q12 (szl (by omega)), ?_⟩
    have fp : H p = none := hp
    refine ⟨(f1.trans e2).mut fp, ⟨_, _, rfl⟩, _, upd_same, ?_, fun z hz => ?_, fun z hz => ?_⟩
    · have := putK_len' kvs (.inr st.1) (.bl true)
      omega
    · rw [List.take_succ, hN] at hz
      simp only [List.mem_append, not_or] at hz
      rw [valV_put, if_neg (fun q => hz.2 (by rw [Sum.inr.inj q]; simp))]
      exact q3 z hz.1
    · rw [List.take_succ, hN] at hz
      rw [valV_put]
      split
      · exact ⟨_, rfl⟩
      · rename_i hne
        rcases List.mem_append.mp hz with q | q
        · exact q4 z q
        · exact absurd (congrArg Sum.inr (by simpa using q)) hne
  · rintro σ H1 ⟨f1, ⟨y3, y4, rfl⟩, kvs, q1, q2, q3, q4⟩
    rw [hlen, show g.starts.length = g.names.length by simp [Img.names], List.take_length] at q4
    exact ⟨_, rfl, k _ _ f1 hp ⟨kvs, q1, q4⟩⟩
abbrev N_is_image : List Str := ["thing", "starts", "code", "names", "instruction"]
theorem sc_is_image : FnScope ["thing", "starts", "code", "names", "instruction"] ["thing"] (defScope s_is_image) := ⟨rfl, rfl, rfl, by decide +kernel, rfl, by decide +kernel, by decide +kernel⟩
theorem c_is_image (T : Txt w K mg) : Cal P w K mg base 5 "is_image" (spN 1 (r_is_image K)) [] := by
  obtain ⟨fd, F⟩ := T.f_is_image
  refine cal_mk F T.m_is_image (fun _ _ _ _ _ _ us hl => match us, hl with | [_], _ => rfl) sc_is_image (fun _ _ _ _ h => h.1) (fun cdv A outer s H vs Q E hr h => ?_)
  have hu := hu_of hr
  have hul := hul_of hr
  obtain ⟨_, g, v, rfl, hv, o, k⟩ := h
  have on := o.n
  have om := o.m
  obtain ⟨a, v1, v2, rfl, hs, t1, t2⟩ := hv.two
  obtain ⟨b, xs, rfl, hb, ts⟩ := t1.open_
  obtain ⟨c, ys, rfl, hc, tc⟩ := t2.open_
  have hlen : xs.length = g.starts.length := by rw [ts.length, List.length_map]
  have hlc : ys.length = g.code.length := by rw [tc.length, List.length_map]
  refine ⟨_, (pss_cons (ps_if (PW.pt (pw_or (pt_not (pt_val (pe_callB call_isi1 (by rfl) T.b_isinstance bt_isinstance (pa_cons (pv 0) (pa_cons (pe_bltn (v := .ty "tuple") (by rfl) T.b_tuple bt_tuple rfl) pa_nil))))) (pw_or1 (pt_cmpR op_ne (pe_callB (call_lenK (K := K) rfl) (by rfl) T.b_len bt_len (pa_cons (pv 0) pa_nil)) (pe_int) (nomark _))))) (pss_one (ps_ret (pe_bl))) (pss_nil))
      (pss_cons (ps_asg (pv 0) (pg_tupK (K := K) (n := 2) rfl rfl (pgs_cons (pg_name (i := 1) sc_is_image.nd rfl (by first | exact Or.inl rfl | exact Or.inr rfl)) (pgs_cons (pg_name (i := 2) sc_is_image.nd rfl (by first | exact Or.inl rfl | exact Or.inr rfl)) pgs_nil))))
      (pss_cons (ps_if (PW.pt (pw_or (pt_not (pt_val (pe_callB call_isi1 (by rfl) T.b_isinstance bt_isinstance (pa_cons (pv 1) (pa_cons (pe_bltn (v := .ty "tuple") (by rfl) T.b_tuple bt_tuple rfl) pa_nil))))) (pw_or1 (pt_cmpR op_gt (pe_callB (call_lenK (K := K) rfl) (by rfl) T.b_len bt_len (pa_cons (pv 1) pa_nil)) (pe_gc (by rfl) T.g_MOST_STARTS) (nomark _))))) (pss_one (ps_ret (pe_bl))) (pss_nil))
      (pss_cons (ps_if (PW.pt (pw_or (pt_not (pt_val (pe_callB call_isi1 (by rfl) T.b_isinstance bt_isinstance (pa_cons (pv 2) (pa_cons (pe_bltn (v := .ty "tuple") (by rfl) T.b_tuple bt_tuple rfl) pa_nil))))) (pw_or1 (pt_cmpR op_gt (pe_callB (call_lenK (K := K) rfl) (by rfl) T.b_len bt_len (pa_cons (pv 2) pa_nil)) (pe_gc (by rfl) T.g_MOST_CODE) (nomark _))))) (pss_one (ps_ret (pe_bl))) (pss_nil))
      (pss_cons (ps_set (i := 3) sc_is_image.nd rfl (by first | exact Or.inl rfl | exact Or.inr rfl) (pe_c (c_start_names T) hr (by decide) (by rfl) (pa_cons (pv 1) (pa_cons (pe_callB (call_lenK (K := K) rfl) (by rfl) T.b_len bt_len (pa_cons (pv 2) pa_nil)) pa_nil))))
      (pss_cons (ps_if (pt_cmpR op_isN (pv 3) (pe_non) (nomark _)) (pss_one (ps_ret (pe_bl))) (pss_nil))
      (pss_cons (ps_for PassesOwn.never rfl (pi_tupK (K := K) rfl (pv 2)) (pg_name (i := 4) sc_is_image.nd rfl (by first | exact Or.inl rfl | exact Or.inr rfl))
        (pss_one (ps_if (pt_not (pt_val (pe_c (c_is_instruction T) hr (by decide) (by rfl) (pa_cons (pv 4) (pa_cons (pe_callB (call_lenK (K := K) rfl) (by rfl) T.b_len bt_len (pa_cons (pv 2) pa_nil)) (pa_cons (pv 3) pa_nil)))))) (pss_one (ps_ret (pe_bl))) (pss_nil))))
      (pss_one (ps_ret (pe_bl)))))))))), ?_⟩
  refine ⟨_, rfl, _, _, _, rfl, isi_tup hs (b := true), true, rfl, iteF ?_⟩
  refine ⟨_, rfl, a, _, rfl, .inr hs, rfl, _, rfl, iteF ?_⟩
  refine ⟨_, rfl, a, _, rfl, hs, rfl, _, _, rfl, _, _, rfl, rfl, ?_⟩
  refine ⟨_, rfl, _, _, _, rfl, isi_tup hb (b := true), true, rfl, iteF ?_⟩
  refine ⟨_, rfl, b, _, rfl, .inr hb, _, _, rfl, rfl, _, rfl, ?_⟩
  rw [hlen, decide_eq_false (show ¬ ((12 : Int) < (g.starts.length : Int)) by omega)]
  refine iteF ?_
  refine ⟨_, rfl, _, _, _, rfl, isi_tup hc (b := true), true, rfl, iteF ?_⟩
  refine ⟨_, rfl, c, _, rfl, .inr hc, _, _, rfl, rfl, _, rfl, ?_⟩
  rw [hlc, decide_eq_false (show ¬ ((60000 : Int) < (g.code.length : Int)) by omega)]
  refine iteF ?_
  refine ⟨_, rfl, _, rfl, c, _, rfl, .inr hc, rfl, g, _, ?_, t1, o, fun H1 p e1 hp hn => ?_⟩
  · rw [hlc]; rfl
  refine ⟨_, rfl, rfl, _, rfl, ?_⟩
  rw [decide_eq_false (by intro q; cases q)]
  refine iteF ?_
  refine ⟨_, rfl, c, rfl, ⟨_, e1.sqt hc⟩, ?_⟩
  refine for_tup (xs := ys) (fun i σ H' => Ext [] H1 H' ∧ ∃ y4, σ = [some (.ref a), some (.ref b), some (.ref c), some (.ref p), y4]) ⟨Ext.refl H1, _, rfl⟩ (fun i σ H' _ q => (e1.trans q.1).sqt hc) ?_ ?_
  · rintro i x σ H2 hi ⟨f1, y4, rfl⟩
    obtain ⟨ins, hins, td⟩ := TD.atV tc hi
    have e2 := e1.trans f1
    refine ⟨_, rfl, _, rfl, c, _, rfl, .inr (e2.sqt hc), _, rfl, rfl, g.code.length, g.names, ins, x, p, ?_, o.ins ins (List.mem_of_getElem? hins), td.keep e2.keep0, hn.ext f1, fun H3 e3 => ⟨true, rfl, iteF ?_⟩⟩
    · rw [hlc]; rfl
    exact ⟨f1.trans e3, _, rfl⟩
  · rintro σ H2 ⟨f1, y4, rfl⟩
    exact k H2 (e1.trans f1)
abbrev N_need_image : List Str := ["thing"]
theorem sc_need_image : FnScope ["thing"] ["thing"] (defScope s_need_image) := ⟨rfl, rfl, rfl, by decide +kernel, rfl, by decide +kernel, by decide +kernel⟩
theorem c_need_image (T : Txt w K mg) : Cal P w K mg base 6 "need_image" (spN 1 (r_need_image K)) [] := by
  obtain ⟨fd, F⟩ := T.f_need_image
  refine cal_mk F T.m_need_image (fun _ _ _ _ _ _ us hl => match us, hl with | [_], _ => rfl) sc_need_image (fun _ _ _ _ h => h.1) (fun cdv A outer s H vs Q E hr h => ?_)
  have hu := hu_of hr
  have hul := hul_of hr
  obtain ⟨_, g, v, rfl, hv, o, k⟩ := h
  refine ⟨_, (pss_one (ps_if (pt_not (pt_val (pe_c (c_is_image T) hr (by decide) (by rfl) (pa_cons (pv 0) pa_nil)))) (pss_one (ps_never)) (pss_nil))), ?_⟩
  exact ⟨_, rfl, rfl, g, _, rfl, hv, o, fun H1 e1 => ⟨true, rfl, iteF (k H1 e1)⟩⟩
abbrev N_same_names : List Str := ["core", "image", "start", "function"]
theorem sc_same_names : FnScope ["core", "image", "start", "function"] ["core", "image"] (defScope s_same_names) := ⟨rfl, rfl, rfl, by decide +kernel, rfl, by decide +kernel, by decide +kernel⟩
theorem c_same_names (T : Txt w K mg) : Cal P w K mg base 1 "same_names" (spN 2 (r_same_names K)) [] := by
  obtain ⟨fd, F⟩ := T.f_same_names
  refine cal_mk F T.m_same_names (fun _ _ _ _ _ _ us hl => match us, hl with | [_, _], _ => rfl) sc_same_names (fun _ _ _ _ h => h.1) (fun cdv A outer s H vs Q E hr h => ?_)
  have hu := hu_of hr
  have hul := hul_of hr
  obtain ⟨_, c, g, v, u, rfl, hv, hu', oc, og, he, k⟩ := h
  obtain ⟨a, v1, v2, rfl, hs, t1, t2⟩ := hv.two
  obtain ⟨b, xs, rfl, hb, ts⟩ := t2.open_
  obtain ⟨d, u1, u2, rfl, hd, r1, r2⟩ := hu'.two
  obtain ⟨f, ys, rfl, hf, tf⟩ := r1.open_
  have hlen : xs.length = c.fs.length := by rw [ts.length, List.length_map]
  have hlg : ys.length = g.starts.length := by rw [tf.length, List.length_map]
  have oc1 := oc.n
  have og1 := og.n
  refine ⟨_, (pss_one (ps_ret (pe_cmpR (op_eqDK (K := K) rfl hr.units) (pe_lc (own := [("start", 2)]) rfl sc_same_names.nd (pi_tupK (K := K) rfl (pe_ix (ix_tupK (K := K) rfl) (pv 1) (pe_int) (fun _ _ => rfl))) (blkOk_by (N := N_same_names) (sc := defScope s_same_names) (by decide +kernel)) (fun _ _ _ _ _ => pg_name (i := 2) sc_same_names.nd rfl (by first | exact Or.inl rfl | exact Or.inr rfl)) (fun _ _ _ _ _ => pts_nil) (fun _ _ _ _ _ => pe_ix (ix_tupK (K := K) rfl) (pv 2) (pe_int) (fun _ _ => rfl))) (pe_lc (own := [("function", 3)]) rfl sc_same_names.nd (pi_tupK (K := K) rfl (pe_ix (ix_tupK (K := K) rfl) (pv 0) (pe_int) (fun _ _ => rfl))) (blkOk_by (N := N_same_names) (sc := defScope s_same_names) (by decide +kernel)) (fun _ _ _ _ _ => pg_name (i := 3) sc_same_names.nd rfl (by first | exact Or.inl rfl | exact Or.inr rfl)) (fun _ _ _ _ _ => pts_nil) (fun _ _ _ _ _ => pe_ix (ix_tupK (K := K) rfl) (pv 3) (pe_int) (fun _ _ => rfl))) (nomark _)))), ?_⟩
  refine ⟨_, rfl, d, _, _, _, rfl, rfl, hd, rfl, f, rfl, ⟨_, hf⟩, fun D hD => ?_⟩
  refine lcT (ys := g.names.map V.str) hf hD (by simp [Img.names, hlg]) (by omega) ?_ ?_
  · intro i x y H3 Q' hx hy e3 k'
    obtain ⟨st, hst, td⟩ := TD.atV tf hx
    obtain ⟨b', w1, w2, rfl, hb', s1, s2⟩ := (td.keep e3.keep0).two
    cases s1.str_
    have ey : y = .str st.1 := by
      unfold Img.names at hy
      rw [List.map_map, List.getElem?_map, hst] at hy
      exact (Option.some.inj hy).symm
    refine ⟨rfl, _, rfl, b', _, _, _, rfl, rfl, hb', rfl, ?_⟩
    rw [← ey]
    exact k' H3 (Ext.refl H3)
  intro H3 e3 hl
  refine ⟨_, rfl, a, _, _, _, rfl, rfl, e3.sqt hs, rfl, b, rfl, ⟨_, e3.sqt hb⟩, fun D2 hD2 => ?_⟩
  refine lcT (ys := (c.fs.map (·.name)).map V.str) (e3.sqt hb) hD2 (by simp [hlen]) (by omega) ?_ ?_
  · intro i x y H4 Q' hx hy e4 k'
    obtain ⟨fd, hfd, td⟩ := TD.atV ts hx
    obtain ⟨b', w1, w2, w3, w4, rfl, hb', s1, s2, s3, s4⟩ := (td.keep (e3.trans e4).keep0).four
    cases s1.str_
    have ey : y = .str fd.name := by
      rw [List.map_map, List.getElem?_map, hfd] at hy
      exact (Option.some.inj hy).symm
    refine ⟨rfl, _, rfl, b', _, _, _, rfl, rfl, hb', rfl, ?_⟩
    rw [← ey]
    exact k' H4 (Ext.refl H4)
  intro H4 e4 hl2
  have hok : ∀ x ∈ g.names, PyData.strOk x = true := fun x hx => by
    obtain ⟨s, hs, rfl⟩ := List.mem_map.mp hx
    exact name_strOk (low_name (og.st s hs).1)
  refine ⟨.list (g.names.map .str), .list (g.names.map .str), .lst (SqL.of (e4 _ _ hl (fun m => nomatch m))) (TDs.dp (TDs.ofStrs _)), ?_, lstr_shaped hok, lstr_shaped hok, ?_⟩
  · rw [he] at hl2
    exact .lst (SqL.of hl2) (TDs.dp (TDs.ofStrs _))
  · rw [lstr_eqv hok]
    exact k H4 (e3.trans e4)
abbrev N_need_fit : List Str := ["core", "image"]
theorem sc_need_fit : FnScope ["core", "image"] ["core", "image"] (defScope s_need_fit) := ⟨rfl, rfl, rfl, by decide +kernel, rfl, by decide +kernel, by decide +kernel⟩
theorem c_need_fit (T : Txt w K mg) : Cal P w K mg base 9 "need_fit" (spN 2 (r_need_fit K)) [] := by
  obtain ⟨fd, F⟩ := T.f_need_fit
  refine cal_mk F T.m_need_fit (fun _ _ _ _ _ _ us hl => match us, hl with | [_, _], _ => rfl) sc_need_fit (fun _ _ _ _ h => h.1) (fun cdv A outer s H vs Q E hr h => ?_)
  have hu := hu_of hr
  have hul := hul_of hr
  obtain ⟨_, c, g, v, u, rfl, hv, hu', oc, og, he, k⟩ := h
  refine ⟨_, (pss_cons (ps_expr (pe_c (c_need_core T) hr (by decide) (by rfl) (pa_cons (pv 0) pa_nil)))
      (pss_cons (ps_expr (pe_c (c_need_image T) hr (by decide) (by rfl) (pa_cons (pv 1) pa_nil)))
      (pss_one (ps_if (pt_not (pt_val (pe_c (c_same_names T) hr (by decide) (by rfl) (pa_cons (pv 0) (pa_cons (pv 1) pa_nil))))) (pss_one (ps_never)) (pss_nil))))), ?_⟩
  refine ⟨_, rfl, rfl, c, v, rfl, hv, oc, fun H1 e1 => ?_⟩
  refine ⟨_, rfl, rfl, g, u, rfl, hu'.keep e1.keep0, og, fun H2 e2 => ?_⟩
  have e12 := e1.trans e2
  refine ⟨_, rfl, _, rfl, rfl, c, g, v, u, rfl, hv.keep e12.keep0, hu'.keep e12.keep0, oc, og, he, fun H3 e3 => ⟨true, rfl, iteF ?_⟩⟩
  exact k H3 (e12.trans e3)
end
end K47

set_option Elab.async false
set_option linter.all false
set_option maxRecDepth 100000
set_option maxHeartbeats 4000000
namespace K47
open PySem PySem.Spec PyProof.Rows L2
open C8 hiding CX0 E0
/-! the plain machine, values, their laying: no program in sight -/
structure MS where
  regs : List Int
  heap : List Int
  stack : List Int
  words : Nat
  top : Nat
inductive Out
  | fault
  | over
  | next (pc : Int) (m : MS)
def MS.reg (m : MS) (r : Nat) : Int := m.regs.getD r 0
def MS.setr (m : MS) (r : Nat) (v : Int) : MS := { m with regs := m.regs.set r v }
def addrOf (g : Img) (f : Str) : Nat := match g.starts.find? (fun s => decide (s.1 = f)) with
  | some s => s.2
  | none => 0
/-- what an instruction does; none: the fault -/
def workOf (m : MS) : Ins → Option MS
  | .set r n => some (m.setr r n)
  | .copy r s => some (m.setr r (m.reg s))
  | .add r s t => some (m.setr r (m.reg s + m.reg t))
  | .sub r s t => some (m.setr r (m.reg s - m.reg t))
  | .times r s k => some (m.setr r (m.reg s * k))
  | .new r n => some { m.setr r (m.heap.length : Nat) with heap := m.heap ++ List.replicate n 0, words := m.words + n }
  | .put r o s => if 0 ≤ m.reg r + (o : Nat) ∧ m.reg r + (o : Nat) < (m.heap.length : Nat) then some { m with heap := m.heap.set (m.reg r + (o : Nat)).toNat (m.reg s) } else none
  | .take r s o => if 0 ≤ m.reg s + (o : Nat) ∧ m.reg s + (o : Nat) < (m.heap.length : Nat) then some (m.setr r (m.heap.getD (m.reg s + (o : Nat)).toNat 0)) else none
  | .push c => some { m with stack := m.stack ++ List.replicate c 0, top := max m.top (m.stack.length + c) }
  | .drop c => if m.stack.length < c then none else some { m with stack := m.stack.take (m.stack.length - c) }
  | .save i r => if i < m.stack.length then some { m with stack := m.stack.set (m.stack.length - 1 - i) (m.reg r) } else none
  | .load r i => if i < m.stack.length then some (m.setr r (m.stack.getD (m.stack.length - 1 - i) 0)) else none
  | _ => some m
def isWay : Ins → Bool
  | .less .. | .table .. | .jump .. | .call .. | .go .. | .ret => true
  | _ => false
def stepOf (g : Img) (pc : Nat) (m : MS) (i : Ins) : Out := match i with
  | .less r s j => .next (if m.reg r < m.reg s then ((pc + 1 : Nat) : Int) else (j : Nat)) m
  | .table r js => if 0 ≤ m.reg r ∧ m.reg r < (js.length : Nat) then .next ((js.getD (m.reg r).toNat 0 : Nat) : Int) m else .fault
  | .jump j => .next (j : Nat) m
  | .call f => .next (addrOf g f : Nat) { m with stack := m.stack ++ [((pc + 1 : Nat) : Int)], top := max m.top (m.stack.length + 1) }
  | .go f => .next (addrOf g f : Nat) m
  | .ret => match m.stack.getLast? with
    | none => .over
    | some v => .next v { m with stack := m.stack.dropLast }
  | i => match workOf m i with
    | none => .fault
    | some m' => .next ((pc + 1 : Nat) : Int) m'
def step (g : Img) (pc : Int) (m : MS) : Out := if 0 ≤ pc then
    match g.code[pc.toNat]? with
    | some i => stepOf g pc.toNat m i
    | none => .fault
  else .fault
inductive End
  | ended | fault | spent
  deriving DecidableEq
structure Res where
  e : End
  m : MS
  t : List Nat
  at_ : Int
def runN (g : Img) : Nat → Int → MS → Res
  | 0, pc, m => ⟨.spent, m, [], pc⟩
  | n + 1, pc, m => match step g pc m with
    | .fault => ⟨.fault, m, [], pc⟩
    | .over => ⟨.ended, m, [pc.toNat], pc⟩
    | .next pc' m' => let r := runN g n pc' m'; ⟨r.e, r.m, pc.toNat :: r.t, r.at_⟩
theorem step_pc {g : Img} {pc : Int} {m : MS} (h : step g pc m ≠ .fault) : 0 ≤ pc ∧ ∃ i, g.code[pc.toNat]? = some i ∧ step g pc m = stepOf g pc.toNat m i := by
  unfold step at h ⊢
  by_cases h0 : 0 ≤ pc
  · rw [if_pos h0] at h ⊢
    refine ⟨h0, ?_⟩
    cases q : g.code[pc.toNat]? with
    | none => rw [q] at h; exact absurd rfl h
    | some i => exact ⟨i, rfl, rfl⟩
  · rw [if_neg h0] at h
    exact absurd rfl h
theorem run_more {g : Img} : ∀ (n : Nat) (pc : Int) (m : MS) (k : Nat), (runN g n pc m).e ≠ .spent → runN g (n + k) pc m = runN g n pc m
  | 0, pc, m, k, h => absurd rfl h
  | n + 1, pc, m, k, h => by
    rw [show n + 1 + k = (n + k) + 1 by omega]
    unfold runN at h ⊢
    cases q : step g pc m with
    | fault => rfl
    | over => rfl
    | next pc' m' =>
      rw [q] at h
      have := run_more n pc' m' k h
      simp only [this]
theorem run_len {g : Img} : ∀ (n : Nat) (pc : Int) (m : MS), (runN g n pc m).t.length ≤ n
  | 0, pc, m => Nat.le_refl _
  | n + 1, pc, m => by
    unfold runN
    cases q : step g pc m with
    | fault => exact Nat.zero_le _
    | over => simp
    | next pc' m' =>
      have := run_len (g := g) n pc' m'
      simp only [List.length_cons]
      omega
theorem run_spent_len {g : Img} : ∀ (n : Nat) (pc : Int) (m : MS), (runN g n pc m).e = .spent → (runN g n pc m).t.length = n
  | 0, pc, m, _ => rfl
  | n + 1, pc, m, h => by
    unfold runN at h ⊢
    cases q : step g pc m with
    | fault => rw [q] at h; cases h
    | over => rw [q] at h; cases h
    | next pc' m' =>
      rw [q] at h
      have := run_spent_len n pc' m' h
      simp only [List.length_cons]
      omega
/-- a run's limit above the end is no limit -/
theorem run_min {g : Img} {n k : Nat} {pc : Int} {m : MS} (h : (runN g n pc m).e ≠ .spent) (hk : n ≤ k) : runN g k pc m = runN g n pc m := by
  have := run_more n pc m (k - n) h
  rw [show n + (k - n) = k by omega] at this
  exact this

/-! sizes -/
def growI : Ins → Nat
  | .new _ n => n
  | .push c => c
  | .call _ => 1
  | _ => 0
def MS.size (m : MS) : Nat := m.heap.length + m.stack.length
theorem work_size {m m' : MS} {i : Ins} (h : workOf m i = some m') : m'.size ≤ m.size + growI i ∧ m'.regs.length = m.regs.length := by
  unfold MS.size
  cases i <;> simp only [workOf, MS.setr, growI] at h ⊢
  case put => split at h <;> cases h; simp
  case take => split at h <;> cases h; simp
  case drop => split at h <;> cases h; simp
  case save => split at h <;> cases h; simp
  case load => split at h <;> cases h; simp
  all_goals (cases h; simp)
  all_goals omega
theorem step_size {g : Img} {pc : Nat} {m m' : MS} {i : Ins} {pc' : Int} (h : stepOf g pc m i = .next pc' m') : m'.size ≤ m.size + growI i ∧ m'.regs.length = m.regs.length := by
  have hw : ∀ (o : Option MS), o = workOf m i → (match o with | none => Out.fault | some m' => .next ((pc + 1 : Nat) : Int) m') = .next pc' m' → m'.size ≤ m.size + growI i ∧ m'.regs.length = m.regs.length := fun o ho q => by
    cases o with
    | none => cases q
    | some m2 =>
      cases q
      exact work_size ho.symm
  cases i with
  | less r s j => cases h; exact ⟨by simp [growI], rfl⟩
  | table r js =>
    simp only [stepOf] at h
    split at h <;> cases h
    exact ⟨by simp [growI], rfl⟩
  | jump j => cases h; exact ⟨by simp [growI], rfl⟩
  | call f => cases h; exact ⟨by simp [growI, MS.size]; omega, rfl⟩
  | go f => cases h; exact ⟨by simp [growI], rfl⟩
  | ret =>
    simp only [stepOf] at h
    split at h <;> cases h
    exact ⟨by simp [growI, MS.size], rfl⟩
  | _ => exact hw _ rfl h
/-- never much in the lists -/
def Fine (g : Img) : Nat → Int → MS → Prop
  | 0, _, _ => True
  | n + 1, pc, m => m.size ≤ 4000000 ∧ ∀ pc' m', step g pc m = .next pc' m' → Fine g n pc' m'
theorem fine_of {g : Img} {c : Nat} (hc : ∀ i ∈ g.code, growI i ≤ c) : ∀ (n : Nat) (pc : Int) (m : MS), (runN g n pc m).t.length * c + m.size ≤ 4000000 → Fine g n pc m
  | 0, _, _, _ => trivial
  | n + 1, pc, m, h => by
    unfold Fine
    refine ⟨by omega, fun pc' m' hs => ?_⟩
    unfold runN at h
    rw [hs] at h
    obtain ⟨h0, i, hi, e⟩ := step_pc (g := g) (pc := pc) (m := m) (by rw [hs]; intro q; cases q)
    rw [hs] at e
    have h1 := (step_size e.symm).1
    have h2 := hc i (List.mem_of_getElem? hi)
    refine fine_of hc n pc' m' ?_
    simp only [List.length_cons, Nat.succ_mul] at h
    omega
end K47

set_option Elab.async false
set_option linter.all false
set_option maxRecDepth 100000
set_option maxHeartbeats 4000000
namespace K47
open PySem PySem.Spec PyProof.Rows L2
open C8 hiding CX0 E0
/-! words of values, plain -/
inductive Wd
  | num (i : Int)
  | mk (x : Str)
def eWd : Wd → PyData
  | .num i => .int i
  | .mk x => .str x
def vWd : Wd → V
  | .num i => .int i
  | .mk x => .str x
def eWds (ws : List Wd) : PyData := .tuple (ws.map eWd)
abbrev Tab := List (Str × Str × Nat × List Str)
/-- the words are values of the kinds that are due (the first due first) -/
inductive Fits (es : Tab) : List Str → List Wd → Prop
  | nil : Fits es [] []
  | num {i : Int} {due : List Str} {ws : List Wd} : Fits es due ws → Fits es ("whole" :: due) (.num i :: ws)
  | mk {x k : Str} {n : Nat} {fs due : List Str} {ws : List Wd} : (x, k, n, fs) ∈ es → Fits es (fs ++ due) ws → Fits es (k :: due) (.mk x :: ws)
def newCells (h : List Int) (n : Nat) (fs : List Str) : List Int := h ++ ((n : Int) :: List.replicate fs.length 0)
def newDue (h : List Int) (fs : List Str) : List Nat := (List.range fs.length).map fun k => h.length + 1 + k
/-- words laid into the places that are due (the first due first) -/
inductive LayR (es : Tab) : List Int → List Nat → List Wd → List Int → Prop
  | nil {h : List Int} : LayR es h [] [] h
  | num {h h' : List Int} {a : Nat} {d : List Nat} {i : Int} {ws : List Wd} : a < h.length → LayR es (h.set a i) d ws h' → LayR es h (a :: d) (.num i :: ws) h'
  | mk {h h' : List Int} {a : Nat} {d : List Nat} {x k : Str} {n : Nat} {fs : List Str} {ws : List Wd} : (x, k, n, fs) ∈ es → a < h.length → LayR es ((newCells h n fs).set a (h.length : Nat)) (newDue h fs ++ d) ws h' → LayR es h (a :: d) (.mk x :: ws) h'
inductive LayV (es : Tab) : List Int → List Wd → Int → List Int → Prop
  | num {h : List Int} {i : Int} : LayV es h [.num i] i h
  | mk {h h' : List Int} {x k : Str} {n : Nat} {fs : List Str} {ws : List Wd} : (x, k, n, fs) ∈ es → LayR es (newCells h n fs) (newDue h fs) ws h' → LayV es h (.mk x :: ws) (h.length : Nat) h'
inductive LayA (es : Tab) : List Int → List (List Wd) → List Int → List Int → Prop
  | nil {h : List Int} : LayA es h [] [] h
  | cons {h h1 h2 : List Int} {ws : List Wd} {v : Int} {wss : List (List Wd)} {vs : List Int} : LayV es h ws v h1 → LayA es h1 wss vs h2 → LayA es h (ws :: wss) (v :: vs) h2
theorem newCells_len (h : List Int) (n : Nat) (fs : List Str) : (newCells h n fs).length = h.length + 1 + fs.length := by simp [newCells]; omega
theorem newDue_len (h : List Int) (fs : List Str) : (newDue h fs).length = fs.length := by simp [newDue]
theorem lay_ex {es : Tab} (h5 : ∀ e ∈ es, e.2.2.2.length ≤ 5) {due : List Str} {ws : List Wd} (f : Fits es due ws) : ∀ (h : List Int) (d : List Nat), d.length = due.length → (∀ a ∈ d, a < h.length) → ∃ h', LayR es h d ws h' ∧ h'.length ≤ h.length + 6 * ws.length := by
  induction f with
  | nil =>
    intro h d hd _
    have : d = [] := List.length_eq_zero_iff.mp hd
    subst this
    exact ⟨h, .nil, by simp⟩
  | @num i due ws _ ih =>
    intro h d hd hl
    cases d with
    | nil => cases hd
    | cons a d =>
      obtain ⟨h', q1, q2⟩ := ih (h.set a i) d (Nat.succ.inj hd) (fun b hb => by rw [List.length_set]; exact hl b (List.mem_cons_of_mem _ hb))
      rw [List.length_set] at q2
      exact ⟨h', .num (hl a List.mem_cons_self) q1, by simp only [List.length_cons]; omega⟩
  | @mk x k n fs due ws he _ ih =>
    intro h d hd hl
    cases d with
    | nil => cases hd
    | cons a d =>
      have h5' := h5 _ he
      obtain ⟨h', q1, q2⟩ := ih ((newCells h n fs).set a (h.length : Nat)) (newDue h fs ++ d) (by rw [List.length_append, newDue_len, List.length_append]; have := Nat.succ.inj hd; omega) (fun b hb => by
        rw [List.length_set, newCells_len]
        rcases List.mem_append.mp hb with q | q
        · unfold newDue at q
          obtain ⟨j, hj, rfl⟩ := List.mem_map.mp q
          have := List.mem_range.mp hj
          omega
        · have := hl b (List.mem_cons_of_mem _ q)
          omega)
      rw [List.length_set, newCells_len] at q2
      have h5'' : fs.length ≤ 5 := h5'
      exact ⟨h', .mk he (hl a List.mem_cons_self) q1, by simp only [List.length_cons]; omega⟩
theorem layV_ex {es : Tab} (h5 : ∀ e ∈ es, e.2.2.2.length ≤ 5) {k : Str} {ws : List Wd} (f : Fits es [k] ws) (h : List Int) : ∃ v h', LayV es h ws v h' ∧ h'.length ≤ h.length + 6 * ws.length := by
  cases f with
  | num f =>
    cases f
    exact ⟨_, h, .num, by omega⟩
  | @mk x _ n fs _ ws he f =>
    rw [List.append_nil] at f
    have h5' : fs.length ≤ 5 := h5 _ he
    obtain ⟨h', q1, q2⟩ := lay_ex h5 f (newCells h n fs) (newDue h fs) (newDue_len h fs) (fun b hb => by
      rw [newCells_len]
      unfold newDue at hb
      obtain ⟨j, hj, rfl⟩ := List.mem_map.mp hb
      have := List.mem_range.mp hj
      omega)
    rw [newCells_len] at q2
    exact ⟨_, h', .mk he q1, by simp only [List.length_cons]; omega⟩
/-- the params' values -/
inductive Args (es : Tab) : List Str → List (List Wd) → Prop
  | nil : Args es [] []
  | cons {k : Str} {ks : List Str} {ws : List Wd} {wss : List (List Wd)} : Fits es [k] ws → ws.length ≤ 400 → Args es ks wss → Args es (k :: ks) (ws :: wss)
theorem Args.len {es : Tab} {ks : List Str} {wss : List (List Wd)} (a : Args es ks wss) : wss.length = ks.length := by
  induction a with
  | nil => rfl
  | cons _ _ _ ih => simp [ih]
theorem layA_ex {es : Tab} (h5 : ∀ e ∈ es, e.2.2.2.length ≤ 5) {ks : List Str} {wss : List (List Wd)} (a : Args es ks wss) : ∀ h : List Int, ∃ vs h', LayA es h wss vs h' ∧ vs.length = ks.length ∧ h'.length ≤ h.length + 2400 * ks.length := by
  induction a with
  | nil => exact fun h => ⟨[], h, .nil, rfl, by simp⟩
  | cons f hl _ ih =>
    intro h
    obtain ⟨v, h1, q1, q2⟩ := layV_ex h5 f h
    obtain ⟨vs, h2, q3, q4, q5⟩ := ih h1
    exact ⟨v :: vs, h2, .cons q1 q3, by simp [q4], by simp only [List.length_cons]; omega⟩

/-! what stands in the heap is read -/
inductive TEnd
  | ended (v : Option (List Wd))
  | wild
def kMakers (ks : Ks) (k : Str) : List Mkr := match ks.find? (fun kd => decide (kd.1 = k)) with
  | some kd => kd.2
  | none => []
def toldOf (ks : Ks) (heap : List Int) (word : Int) : Nat → List (Int × Str) → List Wd → TEnd
  | _, [], found => .ended (some found)
  | 0, _ :: _, _ => .ended none
  | n + 1, (at_, k) :: due, found =>
    if (heap.length : Nat) ≤ at_ then .wild else
    let here := if 0 ≤ at_ then heap.getD at_.toNat 0 else word
    if k = "whole" then toldOf ks heap word n due (found ++ [.num here])
    else if 0 ≤ here ∧ here < (heap.length : Nat) ∧ 0 ≤ heap.getD here.toNat 0 ∧ heap.getD here.toNat 0 < ((kMakers ks k).length : Nat) then
      match (kMakers ks k)[(heap.getD here.toNat 0).toNat]? with
      | some m => toldOf ks heap word n ((m.2.zipIdx.map fun f => (here + 1 + (f.2 : Nat), f.1)) ++ due) (found ++ [.mk m.1])
      | none => .wild
    else .wild
end K47

set_option Elab.async false
set_option linter.all false
set_option maxRecDepth 100000
set_option maxHeartbeats 4000000
namespace K47
open PySem PySem.Spec PyProof.Rows L2
open C8 hiding CX0 E0
/-! laying -/
def vI (l : List Int) : List V := l.map V.int
/-- what a value's laying has still to do -/
inductive LaySt (es : Tab) (h' : List Int) (v : Int) : List Int → List Int → Int → List Wd → Prop
  | root {h : List Int} {t : Int} {ws : List Wd} : LayV es h ws v h' → LaySt es h' v h [-1] t ws
  | rest {h : List Int} {d : List Nat} {ws : List Wd} : LayR es h d ws h' → LaySt es h' v h (d.map fun a : Nat => (a : Int)) v ws
theorem LaySt.done {es : Tab} {h' h due : List Int} {v t : Int} (s : LaySt es h' v h due t []) : h = h' ∧ t = v := by
  cases s with
  | root s => cases s
  | rest s => cases s; exact ⟨rfl, rfl⟩
theorem LaySt.num {es : Tab} {h' h due : List Int} {v t i : Int} {ws : List Wd} (s : LaySt es h' v h due t (.num i :: ws)) :
    ∃ at_ due', due = at_ :: due' ∧ ((at_ < 0 ∧ (due' = [] ∧ i = v) ∧ LaySt es h' v h due' i ws) ∨ (0 ≤ at_ ∧ at_ < (h.length : Nat) ∧ LaySt es h' v (h.set at_.toNat i) due' t ws)) := by
  cases s with
  | root s =>
    cases s
    exact ⟨-1, [], rfl, .inl ⟨by decide, ⟨rfl, rfl⟩, .rest .nil⟩⟩
  | rest s =>
    generalize hd : List.map _ _ = l at *
    cases s with
    | num ha s =>
      subst hd
      exact ⟨_, _, rfl, .inr ⟨Int.natCast_nonneg _, Int.ofNat_lt.mpr ha, .rest s⟩⟩
def dueI (h : List Int) (fs : List Str) : List Int := (newDue h fs).map fun a : Nat => (a : Int)
theorem LaySt.mk {es : Tab} {h' h due : List Int} {v t : Int} {x : Str} {ws : List Wd} (s : LaySt es h' v h due t (.mk x :: ws)) :
    ∃ at_ due' k n fs, due = at_ :: due' ∧ (x, k, n, fs) ∈ es ∧ ((at_ < 0 ∧ (due' = [] ∧ ((h.length : Nat) : Int) = v) ∧ LaySt es h' v (newCells h n fs) (dueI h fs ++ due') (h.length : Nat) ws) ∨ (0 ≤ at_ ∧ at_ < (h.length : Nat) ∧ LaySt es h' v ((newCells h n fs).set at_.toNat (h.length : Nat)) (dueI h fs ++ due') t ws)) := by
  cases s with
  | root s =>
    cases s with
    | mk he s => exact ⟨-1, [], _, _, _, rfl, he, .inl ⟨by decide, ⟨rfl, rfl⟩, by rw [List.append_nil]; exact .rest s⟩⟩
  | rest s =>
    generalize hd : List.map _ _ = l at *
    cases s with
    | mk he ha s =>
      subst hd
      refine ⟨_, _, _, _, _, rfl, he, .inr ⟨Int.natCast_nonneg _, Int.ofNat_lt.mpr ha, ?_⟩⟩
      have := LaySt.rest (v := v) s
      rw [List.map_append] at this
      exact this
def stk (l : List Int) : List V := vI l.reverse
theorem vI_len (l : List Int) : (vI l).length = l.length := by simp [vI]
theorem stk_len (l : List Int) : (stk l).length = l.length := by simp [stk, vI]
theorem vI_app (l m : List Int) : vI (l ++ m) = vI l ++ vI m := by simp [vI]
theorem vI_set (l : List Int) (i : Nat) (v : Int) : (vI l).set i (.int v) = vI (l.set i v) := by simp [vI, List.map_set]
theorem vI_at {l : List Int} {i : Nat} {v : Int} (h : l[i]? = some v) : (vI l)[i]? = some (.int v) := by simp [vI, h]
theorem stk_pop (a : Int) (d : List Int) : (stk (a :: d))[(stk (a :: d)).length - 1]? = some (.int a) := by simp [stk, vI]
theorem stk_drop (a : Int) (d : List Int) : (stk (a :: d)).dropLast = stk d := by simp [stk, vI]
theorem stk_app (l d : List Int) : stk d ++ vI l.reverse = stk (l ++ d) := by simp [stk, vI]
theorem rep0 (n : Nat) : (List.replicate (((n : Nat) : Int)).toNat [V.int 0]).flatten = vI (List.replicate n 0) := by
  have : ∀ n : Nat, (List.replicate n [V.int 0]).flatten = vI (List.replicate n 0) := by
    intro n
    induction n with
    | zero => rfl
    | succ n ih => rw [List.replicate_succ, List.flatten_cons, ih]; rfl
  exact this n
theorem due_rev (h : List Int) (fs : List Str) {i : Nat} {y : V} (hy : (vI (dueI h fs).reverse)[i]? = some y) : y = .int ((h.length : Nat) + ((fs.length : Nat) + (i : Nat) * (-1 : Int))) ∧ i < fs.length := by
  unfold vI dueI newDue at hy
  rw [List.getElem?_map, List.map_map] at hy
  cases q : (List.map ((fun a : Nat => (a : Int)) ∘ fun k => h.length + 1 + k) (List.range fs.length)).reverse[i]? with
  | none => rw [q] at hy; cases hy
  | some z =>
    rw [q] at hy
    have hl := (List.getElem?_eq_some_iff.mp q).1
    rw [List.length_reverse, List.length_map, List.length_range] at hl
    rw [List.getElem?_reverse (by simpa using hl)] at q
    simp only [List.length_map, List.length_range, List.getElem?_map, List.getElem?_range (show fs.length - 1 - i < fs.length by omega)] at q
    have := Option.some.inj q
    simp only [Function.comp] at this
    refine ⟨?_, hl⟩
    rw [← Option.some.inj hy]
    congr 1
    omega
/-- a comprehension over what Walk walks by a function of the place -/
theorem lcF {J : It} {n : Nat} {f : Nat → V} {ys : List V} {g : TG} {te : TE} {vs : List Nat} {σ : L2.St} {H1 : Hp} {D : Addr} {Qd : Hp → Prop} (w : Walk J n (fun _ => True) (YFn f)) (hD : H1 D = none) (hlen : ys.length = n) (hz : n < 1000000)
    (step : ∀ (i : Nat) (y : V) (H : Hp) (Q : VK), i < n → ys[i]? = some y → Ext [] H1 H → (∀ H4, Ext [] H H4 → Q y H4) → g (f i) (wipe σ vs) H fun σ2 H2 => wipe σ2 vs = wipe σ vs ∧ te σ2 H2 Q)
    (hd : ∀ H, Ext [] H1 H → H D = some (.lst ys) → Qd H) :
    ∃ W : Nat → Nat → Hp → Prop, (∃ m, W 0 m (upd H1 D (.lst []))) ∧ ∀ i m H, W i m H →
      (J.stop i H ∧ Qd H) ∨ (J.go i H ∧ ∃ Nx : Hp → Prop, (∀ H', Nx H' → ∃ m', m' < m ∧ W (i + 1) m' H') ∧ ∀ x H', J.yld i H x H' → g x (wipe σ vs) H' fun σ2 H2 => wipe σ2 vs = wipe σ vs ∧ tYes σ2 H2 fun b H3 =>
        if b = true then te σ2 H3 fun y H4 => ∃ acc, H4 D = some (.lst acc) ∧ acc.length < sizeLine ∧ Nx (upd H4 D (.lst (acc ++ [y]))) else Nx H3) := by
  refine lc_it w (fun i H => Ext [] H1 H ∧ H D = some (.lst (ys.take i))) ⟨Ext.new hD, upd_same⟩ (fun i H _ p => trivial) ?_ ?_
  · rintro i x H H' hlt ⟨e1, hl⟩ hy
    obtain ⟨rfl, rfl⟩ := hy
    have hy : ys[i]? = some ys[i] := List.getElem?_eq_getElem (by omega)
    refine step i ys[i] _ _ hlt hy e1 fun H4 e4 => ?_
    refine ⟨_, e4 D _ hl (fun m => nomatch m), ?_, (e1.trans e4).mut hD, ?_⟩
    · rw [List.length_take]
      exact szl (by omega)
    · rw [upd_same, List.take_succ, hy]
      rfl
  · rintro H ⟨e1, hl⟩
    refine hd H e1 ?_
    rw [hl, List.take_of_length_le (by omega)]
/-- never more cells than in the end -/
theorem LayR.le {es : Tab} {h h' : List Int} {d : List Nat} {ws : List Wd} (s : LayR es h d ws h') : h.length ≤ h'.length ∧ d.length ≤ ws.length := by
  induction s with
  | nil => exact ⟨Nat.le_refl _, Nat.le_refl _⟩
  | num _ _ ih => rw [List.length_set] at ih; exact ⟨ih.1, by simp only [List.length_cons]; omega⟩
  | mk _ _ _ ih =>
    rw [List.length_set, newCells_len, List.length_append] at ih
    exact ⟨by omega, by simp only [List.length_cons]; omega⟩
theorem LaySt.le {es : Tab} {h' h due : List Int} {v t : Int} {ws : List Wd} (s : LaySt es h' v h due t ws) : h.length ≤ h'.length ∧ due.length ≤ ws.length := by
  cases s with
  | root s =>
    cases s with
    | num => exact ⟨Nat.le_refl _, by simp⟩
    | mk _ s => have := s.le; rw [newCells_len] at this; exact ⟨by omega, by simp⟩
  | rest s => have := s.le; exact ⟨this.1, by simpa using this.2⟩
theorem sqt_vI {K : PySem.W.Frag} {H : Hp} {v : V} {ws : List Wd} (h : TD K H v (eWds ws)) : ∃ a, v = .ref a ∧ SqT K H a (ws.map vWd) := by
  obtain ⟨a, xs, rfl, hs, ts⟩ := h.open_
  refine ⟨a, rfl, ?_⟩
  have : ∀ (ws : List Wd) (xs : List V), TDs K H xs (ws.map eWd) → xs = ws.map vWd := by
    intro ws
    induction ws with
    | nil => intro xs t; exact t.nil_
    | cons w ws ih =>
      intro xs t
      obtain ⟨v, us, rfl, h1, h2⟩ := t.cons_
      rw [ih us h2]
      cases w with
      | num i => cases h1.int_; rfl
      | mk x => cases h1.str_; rfl
  rw [← this ws xs ts]
  exact hs
def r_lay_words (K : PySem.W.Frag) : List V → Hp → VK → Prop := fun vs H Q => ∃ (es : Tab) (mt a hp : Addr) (ws : List Wd) (h h' : List Int) (v : Int), vs = [.ref mt, .ref a, .ref hp] ∧ MTab K H mt es ∧ (∀ e ∈ es, e.2.2.2.length ≤ 5) ∧ SqT K H a (ws.map vWd) ∧ H hp = some (.lst (vI h)) ∧ LayV es h ws v h' ∧ h'.length ≤ 100000 ∧ ws.length ≤ 400 ∧
  ∀ H', Ext [hp] H H' → H' hp = some (.lst (vI h')) → Q (.int v) H'
section
variable {P : Program} {w : World} {K : PySem.W.Frag} {mg : Str → Option Value} {base : Heap}
abbrev N_lay_words : List Str := ["makers", "words", "heap", "due", "top", "word", "at", "value", "kind", "index", "fields", "k"]
theorem sc_lay_words : FnScope ["makers", "words", "heap", "due", "top", "word", "at", "value", "kind", "index", "fields", "k"] ["makers", "words", "heap"] (defScope s_lay_words) := ⟨rfl, rfl, rfl, by decide +kernel, rfl, by decide +kernel, by decide +kernel⟩
theorem c_lay_words (T : Txt w K mg) : Cal P w K mg base 1 "lay_words" (spN 3 (r_lay_words K)) [] := by
  obtain ⟨fd, F⟩ := T.f_lay_words
  refine cal_mk F T.m_lay_words (fun _ _ _ _ _ _ us hl => match us, hl with | [_, _, _], _ => rfl) sc_lay_words (fun _ _ _ _ h => h.1) (fun cdv A outer s H vs Q E hr h => ?_)
  have hu := hu_of hr
  have hul := hul_of hr
  obtain ⟨_, es, mt, a, hp, ws, h, h', v, rfl, M, h5, hs, hh, L, hl, hw, k⟩ := h
  obtain ⟨kvs, hm, m2, m3, m4⟩ := id M
  have nmh : mt ≠ hp := fun q => by rw [q, hh] at hm; cases hm
  refine ⟨_, (pss_cons (ps_set (i := 3) sc_lay_words.nd rfl (by first | exact Or.inl rfl | exact Or.inr rfl) (pe_lst (pa_cons (pe_un un_neg (pe_int)) pa_nil)))
      (pss_cons (ps_set (i := 4) sc_lay_words.nd rfl (by first | exact Or.inl rfl | exact Or.inr rfl) (pe_int))
      (pss_cons (ps_for PassesOwn.never rfl (pi_tupK (K := K) rfl (pv 1)) (pg_name (i := 5) sc_lay_words.nd rfl (by first | exact Or.inl rfl | exact Or.inr rfl))
        (pss_cons (ps_set (i := 6) sc_lay_words.nd rfl (by first | exact Or.inl rfl | exact Or.inr rfl) (pe_bm0 PySem.F.plainAttrs_list PySem.F.slot_list_pop PySem.F.type_list_pop mt_pop (pv 3)))
      (pss_cons (ps_set (i := 7) sc_lay_words.nd rfl (by first | exact Or.inl rfl | exact Or.inr rfl) (pv 5))
      (pss_cons (ps_if (pt_val (pe_callB call_isi1 (by rfl) T.b_isinstance bt_isinstance (pa_cons (pv 5) (pa_cons (pe_bltn (v := .ty "str") (by rfl) T.b_str bt_str rfl) pa_nil)))) (pss_cons (ps_asg (pe_dget hu (pv 0) (pv 5) (fun _ _ => rfl)) (pg_tupK (K := K) (n := 3) rfl rfl (pgs_cons (pg_name (i := 8) sc_lay_words.nd rfl (by first | exact Or.inl rfl | exact Or.inr rfl)) (pgs_cons (pg_name (i := 9) sc_lay_words.nd rfl (by first | exact Or.inl rfl | exact Or.inr rfl)) (pgs_cons (pg_name (i := 10) sc_lay_words.nd rfl (by first | exact Or.inl rfl | exact Or.inr rfl)) pgs_nil)))))
      (pss_cons (ps_set (i := 7) sc_lay_words.nd rfl (by first | exact Or.inl rfl | exact Or.inr rfl) (pe_callB (call_lenK (K := K) rfl) (by rfl) T.b_len bt_len (pa_cons (pv 2) pa_nil)))
      (pss_cons (ps_expr (pe_bm PySem.F.plainAttrs_list PySem.F.slot_list_append PySem.F.type_list_append mt_append (pv 2) (pa_cons (pv 9) pa_nil)))
      (pss_cons (ps_expr (pe_bm PySem.F.plainAttrs_list PySem.F.slot_list_extend PySem.F.type_list_extend mt_extend (pv 2) (pa_cons (pe_op op_rep (pe_lst (pa_cons (pe_int) pa_nil)) (pe_callB (call_lenK (K := K) rfl) (by rfl) T.b_len bt_len (pa_cons (pv 10) pa_nil))) pa_nil)))
      (pss_one (ps_expr (pe_bm PySem.F.plainAttrs_list PySem.F.slot_list_extend PySem.F.type_list_extend mt_extend (pv 3) (pa_cons (pe_lc (own := [("k", 11)]) rfl sc_lay_words.nd (pi_range3 rfl T.b_range (pa_cons (pe_callB (call_lenK (K := K) rfl) (by rfl) T.b_len bt_len (pa_cons (pv 10) pa_nil)) (pa_cons (pe_int) (pa_cons (pe_un un_neg (pe_int)) pa_nil)))) (blkOk_by (N := N_lay_words) (sc := defScope s_lay_words) (by decide +kernel)) (fun _ _ _ _ _ => pg_name (i := 11) sc_lay_words.nd rfl (by first | exact Or.inl rfl | exact Or.inr rfl)) (fun _ _ _ _ _ => pts_nil) (fun _ _ _ _ _ => pe_op op_add (pv 7) (pv 11))) pa_nil)))))))) (pss_nil))
      (pss_one (ps_if (pt_cmpR op_lt (pv 6) (pe_int) (nomark _)) (pss_one (ps_set (i := 4) sc_lay_words.nd rfl (by first | exact Or.inl rfl | exact Or.inr rfl) (pv 7))) (pss_one (ps_asg (pv 7) (pg_sub (pv 2) (pv 6) set_list)))))))))
      (pss_one (ps_ret (pv 4)))))), ?_⟩
  refine ⟨_, rfl, by show 1 ≤ sizeLine; decide, fun du hdu => ?_⟩
  have ndh : du ≠ hp := (ne_of_none hh hdu).symm
  refine ⟨_, rfl, a, rfl, ⟨_, (Ext.new hdu).sqt hs⟩, ?_⟩
  refine for_tup (xs := ws.map vWd) (fun i σ H' => Ext [hp] H H' ∧ ∃ t y5 y6 y7 y8 y9 y10 y11 hc due, σ = [some (.ref mt), some (.ref a), some (.ref hp), some (.ref du), some (.int t), y5, y6, y7, y8, y9, y10, y11] ∧ H' hp = some (.lst (vI hc)) ∧ H' du = some (.lst (stk due)) ∧ LaySt es h' v hc due t (ws.drop i))
    ⟨Ext.new hdu, 0, _, _, _, _, _, _, _, h, [-1], rfl, by rw [upd_ne ndh.symm]; exact hh, upd_same, .root L⟩ (fun i σ H' _ q => (q.1.keepT (fun a m => by cases List.mem_singleton.mp m; exact not_tup_lst hh)).sq hs) ?_ ?_
  · rintro i x σ H1 hi ⟨e1, t, y5, y6, y7, y8, y9, y10, y11, hc, due, rfl, g1, g2, S⟩
    obtain ⟨wd, hwd, rfl⟩ : ∃ wd, ws[i]? = some wd ∧ x = vWd wd := by
      rw [List.getElem?_map] at hi
      cases q : ws[i]? with
      | none => rw [q] at hi; cases hi
      | some z => rw [q] at hi; exact ⟨z, rfl, (Option.some.inj hi).symm⟩
    have hdr : ws.drop i = wd :: ws.drop (i + 1) := by
      have hlt := (List.getElem?_eq_some_iff.mp hwd).1
      rw [List.drop_eq_getElem_cons hlt]
      congr 1
      exact (List.getElem?_eq_some_iff.mp hwd).2
    rw [hdr] at S
    cases wd with
    | num j =>
      show gName 5 (V.int j) _ _ _
      obtain ⟨at_, due', rfl, hS⟩ := S.num
      refine ⟨_, rfl, .inl ⟨rfl, _, SqL.of g2⟩, du, _, .int at_, rfl, rfl, g2, stk_pop _ _, ?_⟩
      rw [stk_drop]
      have e2 := (e1.mut hdu (o := .lst (stk due')))
      have g3 : (upd H1 du (.lst (stk due'))) hp = some (.lst (vI hc)) := (upd_ne ndh.symm).trans g1
      refine ⟨_, rfl, ?_⟩
      refine ⟨_, rfl, _, _, _, rfl, isi_int (b := false), false, rfl, ?_⟩
      refine iteF ⟨_, rfl, _, _, rfl, rfl, _, rfl, ?_⟩
      rcases hS with ⟨hneg, _, S'⟩ | ⟨hpos, hlt, S'⟩
      · rw [decide_eq_true hneg]
        refine iteT ⟨_, rfl, ?_⟩
        exact ⟨e2, _, _, _, _, _, _, _, _, _, _, rfl, g3, upd_same, S'⟩
      · rw [decide_eq_false (by omega)]
        refine iteF ⟨_, rfl, _, rfl, _, rfl, hp, _, _, at_.toNat, rfl, rfl, g3, ?_, ?_⟩
        · rw [vI_len]
          exact ixN_int hpos hlt
        rw [vI_set]
        dsimp only [List.set_cons_succ, List.set_cons_zero]
        exact ⟨e2.trans (Ext.put (List.mem_singleton.mpr rfl)), _, _, _, _, _, _, _, _, _, _, rfl, upd_same, (upd_ne ndh).trans upd_same, S'⟩
    | mk z =>
      show gName 5 (V.str z) _ _ _
      have hle := S.le
      have hwl : (Wd.mk z :: List.drop (i + 1) ws).length ≤ 400 := by rw [← hdr, List.length_drop]; omega
      obtain ⟨at_, due', kk, n, fs, rfl, he, hS⟩ := S.mk
      obtain ⟨tt, ff, hv, ht, hf⟩ := m4 _ he
      have hfs : fs.length ≤ 5 := h5 _ he
      have hdl : due'.length ≤ 400 := by have := hle.2; simp only [List.length_cons] at this hwl; omega
      refine ⟨_, rfl, .inl ⟨rfl, _, SqL.of g2⟩, du, _, .int at_, rfl, rfl, g2, stk_pop _ _, ?_⟩
      rw [stk_drop]
      have nt : ∀ a ∈ [hp], ∀ xs, ¬ Rd H a (.tup xs) := fun a m => by cases List.mem_singleton.mp m; exact not_tup_lst hh
      have e2 := (e1.mut hdu (o := .lst (stk due')))
      generalize hH2 : upd H1 du (.lst (stk due')) = H2 at *
      have g3 : H2 hp = some (.lst (vI hc)) := by rw [← hH2]; exact (upd_ne ndh.symm).trans g1
      have g3d : H2 du = some (.lst (stk due')) := by rw [← hH2]; exact upd_same
      have g4 : H2 mt = some (.dK kvs) := e2 _ _ hm (fun m => nmh (List.mem_singleton.mp m))
      refine ⟨_, rfl, ?_⟩
      refine ⟨_, rfl, _, _, _, rfl, isi_str (b := true), true, rfl, iteT ?_⟩
      refine ⟨_, rfl, _, rfl, mt, .ref tt, rfl, ?_, tt, _, rfl, (e2.keepT nt).sq ht, rfl, _, _, rfl, _, _, rfl, _, _, rfl, rfl, ?_⟩
      · have := DGet.k (k := .inr z) g4
        rw [hv] at this
        exact this
      refine ⟨_, rfl, hp, _, rfl, .inl (SqL.of g3), ?_⟩
      rw [vI_len]
      refine ⟨_, rfl, .inl ⟨rfl, _, SqL.of g3⟩, _, rfl, hp, _, _, rfl, rfl, g3, by rw [vI_len]; exact szl (by omega), ?_⟩
      have e3 : Ext [hp] H (upd H2 hp (.lst (vI hc ++ [V.int ((n : Nat) : Int)]))) := e2.trans (Ext.put (List.mem_singleton.mpr rfl))
      have g5d : (upd H2 hp (.lst (vI hc ++ [V.int ((n : Nat) : Int)]))) du = some (.lst (stk due')) := (upd_ne ndh).trans g3d
      have g5 : (upd H2 hp (.lst (vI hc ++ [V.int ((n : Nat) : Int)]))) hp = some (.lst (vI hc ++ [V.int ((n : Nat) : Int)])) := upd_same
      generalize hH3 : upd H2 hp (.lst (vI hc ++ [V.int ((n : Nat) : Int)])) = H3 at *
      refine ⟨_, rfl, .inl ⟨rfl, _, SqL.of g5⟩, by show 1 ≤ sizeLine; decide, fun p hpn => ?_⟩
      have e4 : Ext [] H3 (upd H3 p (.lst [V.int 0])) := Ext.new hpn
      have g6 : (upd H3 p (.lst [V.int 0])) p = some (.lst [V.int 0]) := upd_same
      generalize hH4 : upd H3 p (.lst [V.int 0]) = H4 at *
      have e34 : Ext [hp] H H4 := e3.trans (e4.mono (fun a m => nomatch m))
      refine ⟨_, rfl, ff, _, rfl, .inr ((e34.keepT nt).sq hf), p, _, _, rfl, rfl, g6, by rw [List.length_map]; show _ ≤ ((fs.length : Nat) : Int); omega, by rw [List.length_map]; show ((fs.length : Nat) : Int) < _; omega, by rw [List.length_map]; simp; exact sz (by omega), fun q hqn => ?_⟩
      rw [List.length_map, rep0]
      have e5 : Ext [] H4 (upd H4 q (.lst (vI (List.replicate fs.length 0)))) := Ext.new hqn
      have g7 : (upd H4 q (.lst (vI (List.replicate fs.length 0)))) q = some (.lst (vI (List.replicate fs.length 0))) := upd_same
      generalize hH5 : upd H4 q (.lst (vI (List.replicate fs.length 0))) = H5 at *
      have e35 : Ext [hp] H H5 := e34.trans (e5.mono (fun a m => nomatch m))
      have g8 := e5 _ _ (e4 _ _ g5 (fun m => nomatch m)) (fun m => nomatch m)
      have g8d := e5 _ _ (e4 _ _ g5d (fun m => nomatch m)) (fun m => nomatch m)
      refine ⟨hp, q, _, _, rfl, rfl, g8, g7, by rw [List.length_append, vI_len, vI_len, List.length_replicate]; exact sz (by simp; omega), ?_⟩
      rw [show vI hc ++ [V.int ((n : Nat) : Int)] ++ vI (List.replicate fs.length 0) = vI (newCells hc n fs) by simp [vI, newCells]]
      have e6 : Ext [hp] H (upd H5 hp (.lst (vI (newCells hc n fs)))) := e35.trans (Ext.put (List.mem_singleton.mpr rfl))
      have g9 : (upd H5 hp (.lst (vI (newCells hc n fs)))) hp = some (.lst (vI (newCells hc n fs))) := upd_same
      have g9d : (upd H5 hp (.lst (vI (newCells hc n fs)))) du = some (.lst (stk due')) := (upd_ne ndh).trans g8d
      generalize hH6 : upd H5 hp (.lst (vI (newCells hc n fs))) = H6 at *
      refine ⟨_, rfl, .inl ⟨rfl, _, SqL.of g9d⟩, _, rfl, ff, _, rfl, .inr ((e6.keepT nt).sq hf), _, rfl, _, _, _, fs.length, rfl, ?_, fun D hD => ?_⟩
      · rw [List.length_map]
        exact RgC.neg (i := ((fs.length : Nat) : Int)) (j := 0) (by omega) (by omega) (by omega) (by omega)
      refine lcF (ys := vI (dueI hc fs).reverse) walk_rangeC hD (by simp [vI, dueI, newDue]) (by omega) ?_ ?_
      · intro j y H7 Q' hj hy e7 k'
        obtain ⟨rfl, _⟩ := due_rev hc fs hy
        rw [List.length_map]
        exact ⟨rfl, _, rfl, _, rfl, _, _, rfl, rfl, k' H7 (Ext.refl H7)⟩
      intro H7 e7 hl7
      have g10d := e7 _ _ g9d (fun m => nomatch m)
      have g10 := e7 _ _ g9 (fun m => nomatch m)
      refine ⟨du, D, _, _, rfl, rfl, g10d, hl7, by rw [stk_len, vI_len, List.length_reverse]; unfold dueI; rw [List.length_map, newDue_len]; exact sz (by omega), ?_⟩
      rw [stk_app]
      have e8 : Ext [hp] H (upd H7 du (.lst (stk (dueI hc fs ++ due')))) := (e6.trans (e7.mono (fun a m => nomatch m))).mut hdu
      have g11 : (upd H7 du (.lst (stk (dueI hc fs ++ due')))) hp = some (.lst (vI (newCells hc n fs))) := (upd_ne ndh.symm).trans g10
      refine ⟨_, rfl, _, _, rfl, rfl, _, rfl, ?_⟩
      rcases hS with ⟨hneg, _, S'⟩ | ⟨hpos, hlt, S'⟩
      · rw [decide_eq_true hneg]
        refine iteT ⟨_, rfl, ?_⟩
        exact ⟨e8, _, _, _, _, _, _, _, _, _, _, rfl, g11, upd_same, S'⟩
      · rw [decide_eq_false (by omega)]
        refine iteF ⟨_, rfl, _, rfl, _, rfl, hp, _, _, at_.toNat, rfl, rfl, g11, ?_, ?_⟩
        · rw [vI_len, newCells_len]
          exact ixN_int hpos (by omega)
        rw [vI_set]
        dsimp only [List.set_cons_succ, List.set_cons_zero]
        exact ⟨e8.trans (Ext.put (List.mem_singleton.mpr rfl)), _, _, _, _, _, _, _, _, _, _, rfl, upd_same, (upd_ne ndh).trans upd_same, S'⟩
  · rintro σ H1 ⟨e1, t, y5, y6, y7, y8, y9, y10, y11, hc, due, rfl, g1, g2, S⟩
    rw [List.length_map, List.drop_length] at S
    obtain ⟨rfl, rfl⟩ := S.done
    exact ⟨_, rfl, k H1 e1 g1⟩
end
end K47

set_option Elab.async false
set_option linter.all false
set_option maxRecDepth 100000
set_option maxHeartbeats 4000000
namespace K47
open PySem PySem.Spec PyProof.Rows L2
open C8 hiding CX0 E0
/-! lay -/
def regsOf (vs : List Int) : List Int := vs ++ List.replicate (8 - vs.length) 0
theorem LayA.len {es : Tab} {h h' : List Int} {wss : List (List Wd)} {vs : List Int} (s : LayA es h wss vs h') : vs.length = wss.length ∧ h.length ≤ h'.length := by
  induction s with
  | nil => exact ⟨rfl, Nat.le_refl _⟩
  | cons v _ ih =>
    refine ⟨by simp [ih.1], ?_⟩
    cases v with
    | num => exact ih.2
    | mk _ s => have := s.le; rw [newCells_len] at this; omega
theorem LayA.nil_ {es : Tab} {h h' : List Int} {vs : List Int} (s : LayA es h [] vs h') : vs = [] ∧ h = h' := by cases s; exact ⟨rfl, rfl⟩
theorem LayA.cons_ {es : Tab} {h h' : List Int} {vs : List Int} {ws : List Wd} {wss : List (List Wd)} (s : LayA es h (ws :: wss) vs h') : ∃ v us h1, vs = v :: us ∧ LayV es h ws v h1 ∧ LayA es h1 wss us h' := by
  cases s with
  | cons a b => exact ⟨_, _, _, rfl, a, b⟩
theorem flds5 {ks : Ks} (o : KsOk ks) : ∀ e ∈ tabKs ks, e.2.2.2.length ≤ 5 := by
  intro e he
  unfold tabKs at he
  obtain ⟨kd, hk, h2⟩ := List.mem_flatMap.mp he
  unfold tabK at h2
  obtain ⟨m, hm, rfl⟩ := List.mem_map.mp h2
  have h3 : m.1 ∈ kd.2 := by
    have := List.mem_map_of_mem (f := Prod.fst) hm
    rwa [List.zipIdx_map_fst] at this
  exact (o.mhi kd hk m.1 h3).2.1
def r_lay (K : PySem.W.Frag) : List V → Hp → VK → Prop := fun vs H Q => ∃ (c : Core) (v : V) (a : Addr) (xs : List V) (wss : List (List Wd)) (us h' : List Int), vs = [v, .ref a] ∧ TD K H v (eCore c) ∧ KsOk c.ks ∧ SqT K H a xs ∧ TDs K H xs (wss.map eWds) ∧ LayA (tabKs c.ks) [] wss us h' ∧ h'.length ≤ 100000 ∧ wss.length ≤ 6 ∧ (∀ ws ∈ wss, ws.length ≤ 400) ∧
  ∀ H' t r p, Ext [] H H' → SqT K H' t [.ref r, .ref p] → r ≠ p → H r = none → H p = none → H' r = some (.lst (vI (regsOf us))) → H' p = some (.lst (vI h')) → Q (.ref t) H'
theorem rep8 : (List.replicate ((8 : Int)).toNat [V.int 0]).flatten = vI (List.replicate 8 0) := rfl
section
variable {P : Program} {w : World} {K : PySem.W.Frag} {mg : Str → Option Value} {base : Heap}
abbrev N_lay : List Str := ["core", "args", "makers", "heap", "registers", "p"]
theorem sc_lay : FnScope ["core", "args", "makers", "heap", "registers", "p"] ["core", "args"] (defScope s_lay) := ⟨rfl, rfl, rfl, by decide +kernel, rfl, by decide +kernel, by decide +kernel⟩
theorem c_lay (T : Txt w K mg) : Cal P w K mg base 2 "lay" (spN 2 (r_lay K)) [] := by
  obtain ⟨fd, F⟩ := T.f_lay
  refine cal_mk F T.m_lay (fun _ _ _ _ _ _ us hl => match us, hl with | [_, _], _ => rfl) sc_lay (fun _ _ _ _ h => h.1) (fun cdv A outer s H vs Q E hr h => ?_)
  have hu := hu_of hr
  have hul := hul_of hr
  obtain ⟨_, c, v, a, xs, wss, us, h', rfl, hv, o, hs, ts, L, hl, hw, hw4, k⟩ := h
  obtain ⟨ca, v1, v2, rfl, hca, t1, t2⟩ := hv.two
  have hlen : xs.length = wss.length := by rw [ts.length, List.length_map]
  have hul : us.length = wss.length := L.len.1
  refine ⟨_, (pss_cons (ps_set (i := 2) sc_lay.nd rfl (by first | exact Or.inl rfl | exact Or.inr rfl) (pe_c (c_maker_table T) hr (by decide) (by rfl) (pa_cons (pe_ix (ix_tupK (K := K) rfl) (pv 0) (pe_int) (fun _ _ => rfl)) pa_nil)))
      (pss_cons (ps_set (i := 3) sc_lay.nd rfl (by first | exact Or.inl rfl | exact Or.inr rfl) (pe_lst (pa_nil)))
      (pss_cons (ps_set (i := 4) sc_lay.nd rfl (by first | exact Or.inl rfl | exact Or.inr rfl) (pe_op op_rep (pe_lst (pa_cons (pe_int) pa_nil)) (pe_int)))
      (pss_cons (ps_for PassesOwn.never rfl (pi_range1 (by rfl) T.b_range (pa_cons (pe_callB (call_lenK (K := K) rfl) (by rfl) T.b_len bt_len (pa_cons (pv 1) pa_nil)) pa_nil)) (pg_name (i := 5) sc_lay.nd rfl (by first | exact Or.inl rfl | exact Or.inr rfl))
        (pss_one (ps_asg (pe_c (c_lay_words T) hr (by decide) (by rfl) (pa_cons (pv 2) (pa_cons (pe_ix (ix_tupK (K := K) rfl) (pv 1) (pv 5) (fun _ _ => rfl)) (pa_cons (pv 3) pa_nil)))) (pg_sub (pv 4) (pv 5) set_list))))
      (pss_one (ps_ret (pe_tup (pa_cons (pv 4) (pa_cons (pv 3) pa_nil))))))))), ?_⟩
  refine ⟨_, rfl, ca, _, _, _, rfl, rfl, hca, rfl, rfl, v1, c.ks, rfl, t1, o, fun H1 mt e1 hmt M => ?_⟩
  refine ⟨Nat.zero_le _, fun hp hhp => ?_⟩
  have e2 : Ext [] H1 (upd H1 hp (.lst [])) := Ext.new hhp
  have g2 : (upd H1 hp (.lst [])) hp = some (.lst []) := upd_same
  generalize hH2 : upd H1 hp (.lst []) = H2 at *
  refine ⟨by show 1 ≤ sizeLine; decide, fun p hpn => ?_⟩
  have e3 : Ext [] H2 (upd H2 p (.lst [V.int 0])) := Ext.new hpn
  have g3 : (upd H2 p (.lst [V.int 0])) p = some (.lst [V.int 0]) := upd_same
  generalize hH3 : upd H2 p (.lst [V.int 0]) = H3 at *
  refine ⟨p, 8, _, rfl, rfl, g3, by decide, by decide, by decide, fun r hr' => ?_⟩
  rw [rep8]
  have e4 : Ext [] H3 (upd H3 r (.lst (vI (List.replicate 8 0)))) := Ext.new hr'
  have g4 : (upd H3 r (.lst (vI (List.replicate 8 0)))) r = some (.lst (vI (List.replicate 8 0))) := upd_same
  generalize hH4 : upd H3 r (.lst (vI (List.replicate 8 0))) = H4 at *
  have e14 := (e2.trans e3).trans e4
  have e04 := e1.trans e14
  have g2' := (e3.trans e4) _ _ g2 (fun m => nomatch m)
  have nrp : r ≠ hp := (ne_of_none (e3 _ _ g2 (fun m => nomatch m)) hr').symm
  have f1 : H r = none := (e1.trans (e2.trans e3)).free hr' (fun m => nomatch m)
  have f2 : H hp = none := e1.free hhp (fun m => nomatch m)
  have nmh : mt ≠ hp := by
    obtain ⟨kvs, q, _⟩ := M
    exact ne_of_none q hhp
  have nmr : mt ≠ r := by
    obtain ⟨kvs, q, _⟩ := M
    exact ne_of_none ((e2.trans e3) _ _ q (fun m => nomatch m)) hr'
  have M4 : MTab K H4 mt (tabKs c.ks) := M.keep e14.keep0 fun o q => e14 _ _ q (fun m => nomatch m)
  refine ⟨_, rfl, a, _, rfl, .inr (e04.sqt hs), _, rfl, by omega, by omega, ?_⟩
  refine for_range (fun i σ H' => i ≤ wss.length ∧ Ext [] H H' ∧ MTab K H' mt (tabKs c.ks) ∧ (∃ y5, σ = [some (.ref ca), some (.ref a), some (.ref mt), some (.ref hp), some (.ref r), y5]) ∧ ∃ hc, H' hp = some (.lst (vI hc)) ∧ LayA (tabKs c.ks) hc (wss.drop i) (us.drop i) h' ∧ H' r = some (.lst (vI (us.take i ++ List.replicate (8 - i) 0))))
    ⟨Nat.zero_le _, e04, M4, ⟨_, rfl⟩, [], g2', L, g4⟩ ?_ ?_
  · rintro i σ H5 hi ⟨_, f5, M5, ⟨y5, rfl⟩, hc, q1, q2, q3⟩
    have hi' : i < wss.length := by have : ((xs.length : Nat) : Int).toNat = xs.length := by omega
                                    omega
    rw [List.drop_eq_getElem_cons hi'] at q2
    obtain ⟨u, us', h1, q4, q5, q6⟩ := q2.cons_
    obtain ⟨x, hx, tx⟩ := TD.at_ (a := a) (i := i) (x := wss[i]) ts (List.getElem?_eq_getElem hi')
    obtain ⟨wa, rfl, hwa⟩ := sqt_vI (tx.keep f5.keep0)
    have hle := q6.len.2
    rw [Int.zero_add]
    refine ⟨_, rfl, _, rfl, _, rfl, a, _, _, _, rfl, rfl, f5.sqt hs, ix_nat hx, _, rfl, rfl, tabKs c.ks, mt, wa, hp, wss[i], hc, h1, u, rfl, M5, flds5 o, hwa, q1, q5, by omega, hw4 _ (List.getElem_mem _), fun H6 e6 g6 => ?_⟩
    have hui : us[i]? = some u := by
      have := congrArg List.head? q4
      rwa [List.head?_drop] at this
    have hud : us' = us.drop (i + 1) := by
      have := congrArg List.tail q4
      rw [List.tail_drop] at this
      exact this.symm
    have g6r := e6 _ _ q3 (fun m => nrp (List.mem_singleton.mp m))
    have f6 : Ext [] H H6 := fun b ob hb hn => e6 b ob (f5 b ob hb hn) (fun m => by rw [List.mem_singleton.mp m, f2] at hb; cases hb)
    have kt : KeepT H5 H6 := e6.keepT (fun a m => by cases List.mem_singleton.mp m; exact not_tup_lst q1)
    have M6 : MTab K H6 mt (tabKs c.ks) := M5.keep kt fun o q => e6 _ _ q (fun m => nmh (List.mem_singleton.mp m))
    refine ⟨_, rfl, _, rfl, r, _, _, i, rfl, rfl, g6r, ?_, ?_⟩
    · refine ixN_int (by omega) ?_
      rw [vI_len, List.length_append, List.length_take, List.length_replicate]
      omega
    have kr : KeepT H6 (upd H6 r (.lst ((vI (us.take i ++ List.replicate (8 - i) 0)).set i (.int u)))) := KeepT.upd (not_tup_lst g6r)
    refine ⟨hi', f6.mut f1, M6.keep kr (fun o q => (upd_ne nmr).trans q), ⟨_, rfl⟩, h1, (upd_ne nrp.symm).trans g6, by rw [← hud]; exact q6, ?_⟩
    rw [upd_same, vI_set]
    congr 3
    have hl : (us.take i).length = i := by rw [List.length_take]; omega
    rw [List.set_append_right _ _ (by omega), hl, Nat.sub_self, List.take_succ, hui, show 8 - i = (8 - (i + 1)) + 1 by omega, List.replicate_succ, List.set_cons_zero]
    simp
  · rintro σ H5 ⟨_, f5, M5, ⟨y5, rfl⟩, hc, q1, q2, q3⟩
    have e : ((xs.length : Nat) : Int).toNat = wss.length := by omega
    rw [e] at q2 q3
    rw [List.drop_length] at q2
    obtain ⟨_, rfl⟩ := q2.nil_
    rw [← hul, List.take_length] at q3
    refine ⟨_, rfl, _, rfl, by show 2 ≤ sizeLine; decide, fun t ht => ?_⟩
    have eT : Ext [] H5 (upd H5 t (.tup [.ref r, .ref hp])) := Ext.new ht
    exact k _ t r hp (f5.trans eT) (SqT.of upd_same) nrp f1 f2 (eT _ _ q3 (fun m => nomatch m)) (eT _ _ q1 (fun m => nomatch m))
end
end K47

set_option Elab.async false
set_option linter.all false
set_option maxRecDepth 100000
set_option maxHeartbeats 4000000
namespace K47
open PySem PySem.Spec PyProof.Rows L2
open C8 hiding CX0 E0
/-! the law's lay -/
def MkT (K : PySem.W.Frag) (H : Hp) (p : Addr) (es : Tab) : Prop :=
  ∃ kvs : List (Key × V), H p = some (.dK kvs) ∧ kvs.length ≤ es.length ∧ ∀ e ∈ es, ∃ t, valV kvs (.inr e.1) = some (.ref t) ∧ SqT K H t [.int ((e.2.2.1 : Nat) : Int), .int ((e.2.2.2.length : Nat) : Int)]
theorem MkT.keep {K : PySem.W.Frag} {H H' : Hp} {p : Addr} {es : Tab} (M : MkT K H p es) (k : KeepT H H') (hp : ∀ o, H p = some o → H' p = some o) : MkT K H' p es := by
  obtain ⟨kvs, h1, h2, h4⟩ := M
  refine ⟨kvs, hp _ h1, h2, fun e he => ?_⟩
  obtain ⟨t, a, b⟩ := h4 e he
  exact ⟨t, a, k.sq b⟩
theorem MkT.put {K : PySem.W.Frag} {H : Hp} {p : Addr} {es : Tab} {e : Str × Str × Nat × List Str} {t : Addr} (M : MkT K H p es) (hn : e.1 ∉ es.map (·.1)) (ht : SqT K H t [.int ((e.2.2.1 : Nat) : Int), .int ((e.2.2.2.length : Nat) : Int)]) :
    ∃ kvs, H p = some (.dK kvs) ∧ kvs.length ≤ es.length ∧ MkT K (upd H p (.dK (putK kvs (.inr e.1) (.ref t)))) p (es ++ [e]) := by
  obtain ⟨kvs, h1, h2, h4⟩ := M
  have k : KeepT H (upd H p (.dK (putK kvs (.inr e.1) (.ref t)))) := KeepT.upd (not_tup_dK h1)
  refine ⟨kvs, h1, h2, _, upd_same, ?_, fun e' he => ?_⟩
  · rw [List.length_append, List.length_singleton]
    have := putK_len' kvs (.inr e.1) (.ref t)
    omega
  · rcases List.mem_append.mp he with q | q
    · obtain ⟨t', a, b⟩ := h4 e' q
      refine ⟨t', ?_, k.sq b⟩
      have n1 : ¬ (Sum.inr e'.1 : Key) = Sum.inr e.1 := fun z => hn (by rw [← Sum.inr.inj z]; exact List.mem_map_of_mem q)
      rw [valV_put, if_neg n1]
      exact a
    · have e2 : e' = e := by simpa using q
      subst e2
      exact ⟨t, by rw [valV_put, if_pos rfl], k.sq ht⟩
def r_law_lay (K : PySem.W.Frag) : List V → Hp → VK → Prop := fun vs H Q => ∃ (ks : Ks) (v : V) (a : Addr) (xs : List V) (wss : List (List Wd)) (us h' : List Int), vs = [v, .ref a] ∧ TD K H v (eKs ks) ∧ KsOk ks ∧ SqT K H a xs ∧ TDs K H xs (wss.map eWds) ∧ LayA (tabKs ks) [] wss us h' ∧ h'.length ≤ 100000 ∧ wss.length ≤ 6 ∧ (∀ ws ∈ wss, ws.length ≤ 400) ∧
  ∀ H' t r p, Ext [] H H' → SqT K H' t [.ref r, .ref p] → r ≠ p → H r = none → H p = none → H' r = some (.lst (vI (regsOf us))) → H' p = some (.lst (vI h')) → Q (.ref t) H'
def slotsOf (due : List Int) : List Int := due.filter (fun a => decide (0 ≤ a))
theorem slotsOf_pos {l : List Int} (h : ∀ a ∈ l, 0 ≤ a) : slotsOf l = l := by
  unfold slotsOf
  rw [List.filter_eq_self]
  exact fun a ha => decide_eq_true (h a ha)
theorem slotsOf_app (l m : List Int) : slotsOf (l ++ m) = slotsOf l ++ slotsOf m := List.filter_append ..
theorem dueI_pos (h : List Int) (fs : List Str) : ∀ a ∈ dueI h fs, 0 ≤ a := by
  intro a ha
  unfold dueI at ha
  obtain ⟨b, _, rfl⟩ := List.mem_map.mp ha
  exact Int.natCast_nonneg b
theorem slotsOf_cons {a : Int} (l : List Int) (h : 0 ≤ a) : slotsOf (a :: l) = a :: slotsOf l := by
  unfold slotsOf
  rw [List.filter_cons, if_pos (decide_eq_true h)]
theorem slotsOf_neg {a : Int} (l : List Int) (h : a < 0) : slotsOf (a :: l) = slotsOf l := by
  unfold slotsOf
  rw [List.filter_cons, if_neg (by simp; omega)]
theorem LaySt.no {es : Tab} {h' h : List Int} {v t : Int} (s : LaySt es h' v h [-1] t []) : False := by
  generalize hd : [-1] = d at s
  cases s with
  | root s => cases s
  | rest s =>
    cases s
    cases hd
theorem stk_ne (a : Int) (l : List Int) : (stk (a :: l)).isEmpty = false := by simp [stk, vI]
theorem slotsOf_len (l : List Int) : (slotsOf l).length ≤ l.length := List.length_filter_le ..
section
variable {P : Program} {w : World} {K : PySem.W.Frag} {mg : Str → Option Value} {base : Heap}
abbrev N_law_lay : List Str := ["_law_kinds_here", "_law_args", "_law_marks", "_law_kind", "_law_makers_here", "_law_k", "_law_regs", "_law_heap", "_law_p", "_law_slots", "_law_word", "_law_value_here", "_law_more", "_law_index", "_law_many", "_law_at"]
theorem sc_law_lay : FnScope ["_law_kinds_here", "_law_args", "_law_marks", "_law_kind", "_law_makers_here", "_law_k", "_law_regs", "_law_heap", "_law_p", "_law_slots", "_law_word", "_law_value_here", "_law_more", "_law_index", "_law_many", "_law_at"] ["_law_kinds_here", "_law_args"] (defScope s_law_lay) := ⟨rfl, rfl, rfl, by decide +kernel, rfl, by decide +kernel, by decide +kernel⟩
theorem c_law_lay (T : Txt w K mg) : Cal P w K mg base 1 "_law_lay" (spN 2 (r_law_lay K)) [] := by
  obtain ⟨fd, F⟩ := T.f_law_lay
  refine cal_mk F T.m_law_lay (fun _ _ _ _ _ _ us hl => match us, hl with | [_, _], _ => rfl) sc_law_lay (fun _ _ _ _ h => h.1) (fun cdv A outer s H vs Q E hr h => ?_)
  have hu := hu_of hr
  have hul := hul_of hr
  obtain ⟨_, ks, v, a, xs, wss, us, h', rfl, hv, o, hs, ts, L, hl, hw, hw4, k⟩ := h
  obtain ⟨ka, kxs, rfl, hka, tk⟩ := hv.open_
  have hlen : xs.length = wss.length := by rw [ts.length, List.length_map]
  have hklen : kxs.length = ks.length := by rw [tk.length, List.length_map]
  have on := o.n
  have hul' : us.length = wss.length := L.len.1
  refine ⟨_, (pss_cons (ps_set (i := 2) sc_law_lay.nd rfl (by first | exact Or.inl rfl | exact Or.inr rfl) (pe_dnewK))
      (pss_cons (ps_for PassesOwn.never rfl (pi_tupK (K := K) rfl (pv 0)) (pg_tupK (K := K) (n := 2) rfl rfl (pgs_cons (pg_name (i := 3) sc_law_lay.nd rfl (by first | exact Or.inl rfl | exact Or.inr rfl)) (pgs_cons (pg_name (i := 4) sc_law_lay.nd rfl (by first | exact Or.inl rfl | exact Or.inr rfl)) pgs_nil)))
        (pss_one (ps_for PassesOwn.never rfl (pi_range1 (by rfl) T.b_range (pa_cons (pe_callB (call_lenK (K := K) rfl) (by rfl) T.b_len bt_len (pa_cons (pv 4) pa_nil)) pa_nil)) (pg_name (i := 5) sc_law_lay.nd rfl (by first | exact Or.inl rfl | exact Or.inr rfl))
        (pss_one (ps_dput hu (pv 2) (pe_ix (ix_tupK (K := K) rfl) (pe_ix (ix_tupK (K := K) rfl) (pv 4) (pv 5) (fun _ _ => rfl)) (pe_int) (fun _ _ => rfl)) (pe_tup (pa_cons (pv 5) (pa_cons (pe_callB (call_lenK (K := K) rfl) (by rfl) T.b_len bt_len (pa_cons (pe_ix (ix_tupK (K := K) rfl) (pe_ix (ix_tupK (K := K) rfl) (pv 4) (pv 5) (fun _ _ => rfl)) (pe_int) (fun _ _ => rfl)) pa_nil)) pa_nil))) rfl)))))
      (pss_cons (ps_set (i := 6) sc_law_lay.nd rfl (by first | exact Or.inl rfl | exact Or.inr rfl) (pe_op op_rep (pe_lst (pa_cons (pe_int) pa_nil)) (pe_int)))
      (pss_cons (ps_set (i := 7) sc_law_lay.nd rfl (by first | exact Or.inl rfl | exact Or.inr rfl) (pe_lst (pa_nil)))
      (pss_cons (ps_for PassesOwn.never rfl (pi_range1 (by rfl) T.b_range (pa_cons (pe_callB (call_lenK (K := K) rfl) (by rfl) T.b_len bt_len (pa_cons (pv 1) pa_nil)) pa_nil)) (pg_name (i := 8) sc_law_lay.nd rfl (by first | exact Or.inl rfl | exact Or.inr rfl))
        (pss_cons (ps_set (i := 9) sc_law_lay.nd rfl (by first | exact Or.inl rfl | exact Or.inr rfl) (pe_lst (pa_nil)))
      (pss_one (ps_for PassesOwn.never rfl (pi_tupK (K := K) rfl (pe_ix (ix_tupK (K := K) rfl) (pv 1) (pv 8) (fun _ _ => rfl))) (pg_name (i := 10) sc_law_lay.nd rfl (by first | exact Or.inl rfl | exact Or.inr rfl))
        (pss_cons (ps_set (i := 11) sc_law_lay.nd rfl (by first | exact Or.inl rfl | exact Or.inr rfl) (pv 10))
      (pss_cons (ps_set (i := 12) sc_law_lay.nd rfl (by first | exact Or.inl rfl | exact Or.inr rfl) (pe_lst (pa_nil)))
      (pss_cons (ps_if (pt_val (pe_callB call_isi1 (by rfl) T.b_isinstance bt_isinstance (pa_cons (pv 10) (pa_cons (pe_bltn (v := .ty "str") (by rfl) T.b_str bt_str rfl) pa_nil)))) (pss_cons (ps_asg (pe_dget hu (pv 2) (pv 10) (fun _ _ => rfl)) (pg_tupK (K := K) (n := 2) rfl rfl (pgs_cons (pg_name (i := 13) sc_law_lay.nd rfl (by first | exact Or.inl rfl | exact Or.inr rfl)) (pgs_cons (pg_name (i := 14) sc_law_lay.nd rfl (by first | exact Or.inl rfl | exact Or.inr rfl)) pgs_nil))))
      (pss_cons (ps_set (i := 11) sc_law_lay.nd rfl (by first | exact Or.inl rfl | exact Or.inr rfl) (pe_callB (call_lenK (K := K) rfl) (by rfl) T.b_len bt_len (pa_cons (pv 7) pa_nil)))
      (pss_cons (ps_expr (pe_bm PySem.F.plainAttrs_list PySem.F.slot_list_append PySem.F.type_list_append mt_append (pv 7) (pa_cons (pv 13) pa_nil)))
      (pss_cons (ps_expr (pe_bm PySem.F.plainAttrs_list PySem.F.slot_list_extend PySem.F.type_list_extend mt_extend (pv 7) (pa_cons (pe_op op_rep (pe_lst (pa_cons (pe_int) pa_nil)) (pv 14)) pa_nil)))
      (pss_one (ps_setLc (i := 12) (own := [("_law_k", 5)]) rfl sc_law_lay.nd rfl rfl (sw_true rfl rfl rfl (by decide +kernel)) (pi_range1 (by rfl) T.b_range (pa_cons (pv 14) pa_nil)) (blkOk_by (N := N_law_lay) (sc := defScope s_law_lay) (by decide +kernel)) (fun _ _ _ _ _ => pg_name (i := 5) sc_law_lay.nd rfl (by first | exact Or.inl rfl | exact Or.inr rfl)) (fun _ _ _ _ _ => pts_nil) (fun _ _ _ _ _ => pe_op op_sub (pe_op op_add (pv 11) (pv 14)) (pv 5)))))))) (pss_nil))
      (pss_cons (ps_if (pt_cmpR (op_eqNilK (K := K) rfl hul) (pv 9) (pe_lst (pa_nil)) (nomark _)) (pss_one (ps_asg (pv 11) (pg_sub (pv 6) (pv 8) set_list))) (pss_cons (ps_set (i := 15) sc_law_lay.nd rfl (by first | exact Or.inl rfl | exact Or.inr rfl) (pe_bm0 PySem.F.plainAttrs_list PySem.F.slot_list_pop PySem.F.type_list_pop mt_pop (pv 9)))
      (pss_one (ps_asg (pv 11) (pg_sub (pv 7) (pv 15) set_list)))))
      (pss_one (ps_expr (pe_bm PySem.F.plainAttrs_list PySem.F.slot_list_extend PySem.F.type_list_extend mt_extend (pv 9) (pa_cons (pv 12) pa_nil))))))))))))
      (pss_one (ps_ret (pe_tup (pa_cons (pv 6) (pa_cons (pv 7) pa_nil)))))))))), ?_⟩
  intro p hp
  have e1 : Ext [] H (upd H p (.dK [])) := Ext.new hp
  refine ⟨_, rfl, ka, rfl, ⟨_, e1.sqt hka⟩, ?_⟩
  refine for_tup (xs := kxs) (fun i σ H' => Ext [] H H' ∧ (∃ y3 y4 y5 y6 y7 y8 y9 y10 y11 y12 y13 y14 y15, σ = [some (.ref ka), some (.ref a), some (.ref p), y3, y4, y5, y6, y7, y8, y9, y10, y11, y12, y13, y14, y15]) ∧ MkT K H' p (tabKs (ks.take i)))
    ⟨e1, ⟨_, _, _, _, _, _, _, _, _, _, _, _, _, rfl⟩, [], upd_same, Nat.le_refl _, fun e he => by cases he⟩ (fun i σ H' _ p => p.1.sqt hka) ?_ ?_
  · rintro i x σ H1 hi ⟨f1, ⟨y3, y4, y5, y6, y7, y8, y9, y10, y11, y12, y13, y14, y15, rfl⟩, M⟩
    obtain ⟨kd, hk, td⟩ := TD.atV tk hi
    have hkm : kd ∈ ks := List.mem_of_getElem? hk
    obtain ⟨b, u1, u2, rfl, hb, t1, t2⟩ := (td.keep f1.keep0).two
    cases t1.str_
    obtain ⟨c, ms, rfl, hc, tm⟩ := t2.open_
    have hlm : ms.length = kd.2.length := by rw [tm.length, List.length_map]
    obtain ⟨m1, m2⟩ := o.mks kd hkm
    refine ⟨b, _, rfl, hb, rfl, _, _, rfl, _, _, rfl, rfl, ?_⟩
    refine ⟨_, rfl, c, _, rfl, .inr hc, _, rfl, by omega, by omega, ?_⟩
    refine for_range (fun l σ H' => Ext [] H H' ∧ (∃ y5 y6 y7 y8 y9 y10 y11 y12 y13 y14 y15, σ = [some (.ref ka), some (.ref a), some (.ref p), some (.str kd.1), some (.ref c), y5, y6, y7, y8, y9, y10, y11, y12, y13, y14, y15]) ∧ SqT K H' c ms ∧ TDs K H' ms (kd.2.map eMk) ∧ MkT K H' p (tabKs (ks.take i) ++ (tabK kd).take l))
      ⟨f1, ⟨_, _, _, _, _, _, _, _, _, _, _, rfl⟩, hc, tm, by rw [List.take_zero, List.append_nil]; exact M⟩ ?_ ?_
    · rintro l σ H3 hlt ⟨f3, ⟨z5, z6, z7, z8, z9, z10, z11, z12, z13, z14, z15, rfl⟩, hc3, tm3, M3⟩
      rw [Int.zero_add]
      have hlt' : l < ms.length := by omega
      have hx : ms[l]? = some ms[l] := List.getElem?_eq_getElem hlt'
      obtain ⟨mk, hmk, tmk⟩ := TD.atV tm3 hx
      obtain ⟨d, v1, v2, ed, hd, r1, r2⟩ := tmk.two
      rw [ed] at hx
      cases r1.str_
      obtain ⟨f, rfl, hf⟩ := r2.strs
      refine ⟨_, rfl, _, rfl, _, rfl, c, _, _, _, rfl, rfl, hc3, ix_nat hx, d, _, _, _, rfl, rfl, hd, rfl, f, _, rfl, .inr hf, by show 2 ≤ sizeLine; decide, fun t ht => ?_⟩
      have kt : KeepT H3 (upd H3 t (.tup [.int (l : Nat), .int ((mk.2.map V.str).length : Nat)])) := KeepT.upd (not_tup_none ht)
      have M4 : MkT K (upd H3 t (.tup [.int (l : Nat), .int ((mk.2.map V.str).length : Nat)])) p (tabKs (ks.take i) ++ (tabK kd).take l) :=
        M3.keep kt fun o q => by rw [upd_ne (ne_of_none q ht)]; exact q
      have hnn : mk.1 ∉ (tabKs (ks.take i) ++ (tabK kd).take l).map (·.1) := by
        rw [List.map_append, tabKs_names, List.map_take, tabK_names, ← List.map_take]
        exact mNames_notin o.mnd hk hmk
      obtain ⟨kvs, g1, g2, g3⟩ := M4.put (e := (mk.1, kd.1, l, mk.2)) (t := t) hnn (by
        have := SqT.of (K := K) (a := t) (xs := [.int ((l : Nat) : Int), .int ((mk.2.map V.str).length : Nat)]) (H := upd H3 t (.tup [.int (l : Nat), .int ((mk.2.map V.str).length : Nat)])) upd_same
        rw [List.length_map] at this ⊢
        exact this)
      have sz1 : kvs.length ≤ 128 := by
        have h1 := tabKs_len o i
        have h2 := tabK_len kd
        rw [List.length_append, List.length_take] at g2
        omega
      refine ⟨_, rfl, _, rfl, _, rfl, c, _, _, _, rfl, rfl, kt.sq hc3, ix_nat hx, d, _, _, _, rfl, rfl, kt.sq hd, rfl, p, _, rfl, DPut.k (k := .inr mk.1) g1 (szl (by omega)), ?_⟩
      refine ⟨(f3.trans (Ext.new ht)).mut hp, ⟨_, _, _, _, _, _, _, _, _, _, _, rfl⟩, ?_, ?_, ?_⟩
      · exact (kt.trans (KeepT.upd (not_tup_dK g1))).sq hc3
      · exact tm3.keep (kt.trans (KeepT.upd (not_tup_dK g1)))
      · rw [List.take_succ, tabK_at hmk, ← List.append_assoc]
        exact g3
    · rintro σ H3 ⟨f3, ⟨z5, z6, z7, z8, z9, z10, z11, z12, z13, z14, z15, rfl⟩, hc3, tm3, M3⟩
      have ee : ((ms.length : Nat) : Int).toNat = (tabK kd).length := by rw [tabK_len]; omega
      rw [ee, List.take_length] at M3
      refine ⟨f3, ⟨_, _, _, _, _, _, _, _, _, _, _, _, _, rfl⟩, ?_⟩
      rw [tabKs_take hk]
      exact M3
  · rintro σ H1 ⟨f1, ⟨y3, y4, y5, y6, y7, y8, y9, y10, y11, y12, y13, y14, y15, rfl⟩, M⟩
    rw [hklen, List.take_length] at M
    refine ⟨by show 1 ≤ sizeLine; decide, fun p3 hp3 => ?_⟩
    have e3 : Ext [] H1 (upd H1 p3 (.lst [V.int 0])) := Ext.new hp3
    have g3 : (upd H1 p3 (.lst [V.int 0])) p3 = some (.lst [V.int 0]) := upd_same
    generalize hH3 : upd H1 p3 (.lst [V.int 0]) = H3 at *
    refine ⟨p3, 8, _, rfl, rfl, g3, by decide, by decide, by decide, fun r hr' => ?_⟩
    rw [rep8]
    have e4 : Ext [] H3 (upd H3 r (.lst (vI (List.replicate 8 0)))) := Ext.new hr'
    have g4 : (upd H3 r (.lst (vI (List.replicate 8 0)))) r = some (.lst (vI (List.replicate 8 0))) := upd_same
    generalize hH4 : upd H3 r (.lst (vI (List.replicate 8 0))) = H4 at *
    have e14 := f1.trans e3
    have fr : H r = none := e14.free hr' (fun m => nomatch m)
    refine ⟨Nat.zero_le _, fun hp' hhp => ?_⟩
    have e5 : Ext [] H4 (upd H4 hp' (.lst [])) := Ext.new hhp
    have g5 : (upd H4 hp' (.lst [])) hp' = some (.lst []) := upd_same
    have nrp : r ≠ hp' := ne_of_none g4 hhp
    have g4' := e5 _ _ g4 (fun m => nomatch m)
    generalize hH5 : upd H4 hp' (.lst []) = H5 at *
    have e24 := (e3.trans e4).trans e5
    have f5 := f1.trans e24
    have fh : H hp' = none := (e14.trans e4).free hhp (fun m => nomatch m)
    have M5 : MkT K H5 p (tabKs ks) := M.keep e24.keep0 fun o q => e24 _ _ q (fun m => nomatch m)
    have npr : p ≠ r := by
      obtain ⟨_, q, _⟩ := M
      exact ne_of_none (e3 _ _ q (fun m => nomatch m)) hr'
    have nph : p ≠ hp' := by
      obtain ⟨_, q, _⟩ := M
      exact ne_of_none ((e3.trans e4) _ _ q (fun m => nomatch m)) hhp
    refine ⟨_, rfl, a, _, rfl, .inr (f5.sqt hs), _, rfl, by omega, by omega, ?_⟩
    refine for_range (fun i σ H' => i ≤ wss.length ∧ Ext [] H H' ∧ MkT K H' p (tabKs ks) ∧ (∃ y3 y4 y5 y8 y9 y10 y11 y12 y13 y14 y15, σ = [some (.ref ka), some (.ref a), some (.ref p), y3, y4, y5, some (.ref r), some (.ref hp'), y8, y9, y10, y11, y12, y13, y14, y15]) ∧ ∃ hc, H' hp' = some (.lst (vI hc)) ∧ LayA (tabKs ks) hc (wss.drop i) (us.drop i) h' ∧ H' r = some (.lst (vI (us.take i ++ List.replicate (8 - i) 0))))
      ⟨Nat.zero_le _, f5, M5, ⟨_, _, _, _, _, _, _, _, _, _, _, rfl⟩, [], g5, L, g4'⟩ ?_ ?_
    · rintro i σ H6 hi ⟨_, f6, M6, ⟨y3, y4, y5, y8, y9, y10, y11, y12, y13, y14, y15, rfl⟩, hc, q1, q2, q3⟩
      have hi' : i < wss.length := by have : ((xs.length : Nat) : Int).toNat = xs.length := by omega
                                      omega
      rw [List.drop_eq_getElem_cons hi'] at q2
      obtain ⟨u, us', h1, q4, q5, q6⟩ := q2.cons_
      obtain ⟨x, hx, tx⟩ := TD.at_ (a := a) (i := i) (x := wss[i]) ts (List.getElem?_eq_getElem hi')
      have hwl := hw4 _ (List.getElem_mem (h := hi'))
      generalize hws : wss[i] = ws at *
      have hle := q6.len.2
      have hui : us[i]? = some u := by
        have := congrArg List.head? q4
        rwa [List.head?_drop] at this
      have hud : us' = us.drop (i + 1) := by
        have := congrArg List.tail q4
        rw [List.tail_drop] at this
        exact this.symm
      generalize hR : us.take i ++ List.replicate (8 - i) 0 = R at *
      have hRl : R.length = 8 := by rw [← hR, List.length_append, List.length_take, List.length_replicate]; omega
      rw [Int.zero_add]
      refine ⟨Nat.zero_le _, fun sl hsl => ?_⟩
      have e7 : Ext [] H6 (upd H6 sl (.lst [])) := Ext.new hsl
      have g7 : (upd H6 sl (.lst [])) sl = some (.lst []) := upd_same
      have nsr : r ≠ sl := ne_of_none q3 hsl
      have nsh : hp' ≠ sl := ne_of_none q1 hsl
      have fs_ : H sl = none := f6.free hsl (fun m => nomatch m)
      have nps : p ≠ sl := by
        obtain ⟨_, q, _⟩ := M6
        exact ne_of_none q hsl
      have g7h := e7 _ _ q1 (fun m => nomatch m)
      have g7r := e7 _ _ q3 (fun m => nomatch m)
      generalize hH7 : upd H6 sl (.lst []) = H7 at *
      have f7 := f6.trans e7
      have M7 : MkT K H7 p (tabKs ks) := M6.keep e7.keep0 fun o q => e7 _ _ q (fun m => nomatch m)
      obtain ⟨wa, rfl, hwa⟩ := sqt_vI (tx.keep f6.keep0)
      refine ⟨_, rfl, _, rfl, a, _, _, _, rfl, rfl, f7.sqt hs, ix_nat hx, wa, rfl, ⟨_, e7.sqt hwa⟩, ?_⟩
      refine for_tup (xs := ws.map vWd) (fun j σ H' => Ext [] H H' ∧ KeepT H7 H' ∧ MkT K H' p (tabKs ks) ∧ ∃ y3 y4 y5 y10 y11 y12 y13 y14 y15 hc due t rr, σ = [some (.ref ka), some (.ref a), some (.ref p), y3, y4, y5, some (.ref r), some (.ref hp'), some (.int ((i : Nat) : Int)), some (.ref sl), y10, y11, y12, y13, y14, y15] ∧
          H' hp' = some (.lst (vI hc)) ∧ H' sl = some (.lst (stk (slotsOf due))) ∧ H' r = some (.lst (vI rr)) ∧ LaySt (tabKs ks) h1 u hc due t (ws.drop j) ∧ ((rr = R ∧ due = [-1]) ∨ rr = R.set i u))
        ⟨f7, KeepT.refl _, M7, _, _, _, _, _, _, _, _, _, hc, [-1], 0, R, rfl, g7h, by rw [g7]; rfl, g7r, .root q5, .inl ⟨rfl, rfl⟩⟩ (fun j σ H' _ q => q.2.1.sq (e7.sqt hwa)) ?_ ?_
      · rintro j x σ H8 hj ⟨f8, kt8, M8, y3, y4, y5, y10, y11, y12, y13, y14, y15, hc, due, t, rr, rfl, g8h, g8s, g8r, S, hrr⟩
        obtain ⟨wd, hwd, rfl⟩ : ∃ wd, ws[j]? = some wd ∧ x = vWd wd := by
          rw [List.getElem?_map] at hj
          cases q : ws[j]? with
          | none => rw [q] at hj; cases hj
          | some z => rw [q] at hj; exact ⟨z, rfl, (Option.some.inj hj).symm⟩
        have hdr : ws.drop j = wd :: ws.drop (j + 1) := by
          have hlt := (List.getElem?_eq_some_iff.mp hwd).1
          rw [List.drop_eq_getElem_cons hlt]
          congr 1
          exact (List.getElem?_eq_some_iff.mp hwd).2
        rw [hdr] at S
        have hle2 := S.le
        have hwl2 : (wd :: List.drop (j + 1) ws).length ≤ 400 := by rw [← hdr, List.length_drop]; omega
        simp only [List.length_cons] at hle2 hwl2
        cases wd with
        | num z =>
          show gName 10 (V.int z) _ _ _
          obtain ⟨at_, due', rfl, hS⟩ := S.num
          simp only [List.length_cons] at hle2
          refine ⟨_, rfl, ?_⟩
          refine ⟨Nat.zero_le _, fun mA hmA => ?_⟩
          have eM : Ext [] H8 (upd H8 mA (.lst [])) := Ext.new hmA
          have gmE : (upd H8 mA (.lst [])) mA = some (.lst (vI ([] : List Int).reverse)) := upd_same
          have nmr : mA ≠ r := (ne_of_none g8r hmA).symm
          have nmh : mA ≠ hp' := (ne_of_none g8h hmA).symm
          have nms : mA ≠ sl := (ne_of_none g8s hmA).symm
          have ghE := eM _ _ g8h (fun m => nomatch m)
          have gsE := eM _ _ g8s (fun m => nomatch m)
          have grE := eM _ _ g8r (fun m => nomatch m)
          have fE := f8.trans eM
          have ktE := kt8.trans eM.keep0
          have ME : MkT K (upd H8 mA (.lst [])) p (tabKs ks) := M8.keep eM.keep0 fun o q => eM _ _ q (fun m => nomatch m)
          have hmv : ∀ a ∈ ([] : List Int), 0 ≤ a := fun a m => nomatch m
          have hml : ([] : List Int).length = 0 := rfl
          generalize hHE : upd H8 mA (.lst []) = HE at *
          refine ⟨_, rfl, _, _, _, rfl, isi_int (b := false), false, rfl, ?_⟩
          refine iteF ?_
          refine ⟨_, rfl, Nat.zero_le _, fun qq hqq => ?_⟩
          have eQ : Ext [] HE (upd HE qq (.lst [])) := Ext.new hqq
          have gQ : (upd HE qq (.lst [])) qq = some (.lst []) := upd_same
          have ghQ := eQ _ _ ghE (fun m => nomatch m)
          have gsQ := eQ _ _ gsE (fun m => nomatch m)
          have grQ := eQ _ _ grE (fun m => nomatch m)
          have gmQ := eQ _ _ gmE (fun m => nomatch m)
          have fQ := fE.trans eQ
          have ktQ := ktE.trans eQ.keep0
          have MQ : MkT K (upd HE qq (.lst [])) p (tabKs ks) := ME.keep eQ.keep0 fun o q => eQ _ _ q (fun m => nomatch m)
          generalize hHQ : upd HE qq (.lst []) = HQ at *
          refine ⟨sl, qq, _, rfl, rfl, SqL.of gsQ, SqL.of gQ, _, rfl, ?_⟩
          rcases hS with ⟨hneg, ⟨hd0, hval⟩, S'⟩ | ⟨hpos, hlt, S'⟩
          · subst hd0
            rw [slotsOf_neg _ hneg]
            refine iteT ?_
            rw [slotsOf_neg _ hneg] at gsQ
            refine ⟨_, rfl, _, rfl, _, rfl, r, _, _, i, rfl, rfl, grQ, ?_, ?_⟩
            · rw [vI_len]
              refine ixN_int (by omega) ?_
              have : rr.length = 8 := by
                rcases hrr with ⟨q, _⟩ | q
                · rw [q, hRl]
                · rw [q, List.length_set, hRl]
              omega
            rw [vI_set]
            have kr : KeepT HQ (upd HQ r (.lst (vI (rr.set i z)))) := KeepT.upd (not_tup_lst grQ)
            have gsR : (upd HQ r (.lst (vI (rr.set i z)))) sl = some (.lst (stk (slotsOf []))) := (upd_ne nsr.symm).trans gsQ
            refine ⟨_, rfl, .inl ⟨rfl, _, SqL.of gsR⟩, _, rfl, sl, mA, _, _, rfl, rfl, gsR, (upd_ne nmr).trans gmQ, by rw [stk_len, vI_len, List.length_reverse]; exact sz (by have : (slotsOf []).length = 0 := rfl; omega), ?_⟩
            have kr2 : KeepT (upd HQ r (.lst (vI (rr.set i z)))) (upd (upd HQ r (.lst (vI (rr.set i z)))) sl (.lst (stk (slotsOf []) ++ vI ([] : List Int).reverse))) := KeepT.upd (not_tup_lst gsR)
            refine ⟨(fQ.mut fr).mut fs_, (ktQ.trans kr).trans kr2, (MQ.keep kr fun o q => (upd_ne npr).trans q).keep kr2 (fun o q => (upd_ne nps).trans q), _, _, _, _, _, _, _, _, _, _, _, _, rr.set i z, rfl, (upd_ne nsh).trans ((upd_ne nrp.symm).trans ghQ), ?_, (upd_ne nsr).trans upd_same, S', .inr ?_⟩
            · first | (rw [upd_same, stk_app]; rfl) | rw [upd_same, stk_app, slotsOf_app, slotsOf_pos hmv]
            · rw [hval]
              rcases hrr with ⟨q, _⟩ | q
              · rw [q]
              · rw [q, List.set_set]
          · rw [slotsOf_cons _ hpos] at gsQ ⊢
            rw [stk_ne]
            refine iteF ?_
            refine ⟨_, rfl, .inl ⟨rfl, _, SqL.of gsQ⟩, sl, _, .int at_, rfl, rfl, gsQ, stk_pop _ _, ?_⟩
            rw [stk_drop]
            have kr : KeepT HQ (upd HQ sl (.lst (stk (slotsOf due')))) := KeepT.upd (not_tup_lst gsQ)
            have ghR : (upd HQ sl (.lst (stk (slotsOf due')))) hp' = some (.lst (vI hc)) := (upd_ne nsh).trans ghQ
            have gsR : (upd HQ sl (.lst (stk (slotsOf due')))) sl = some (.lst (stk (slotsOf due'))) := upd_same
            have grR : (upd HQ sl (.lst (stk (slotsOf due')))) r = some (.lst (vI rr)) := (upd_ne nsr).trans grQ
            have gmR : (upd HQ sl (.lst (stk (slotsOf due')))) mA = some (.lst (vI ([] : List Int).reverse)) := (upd_ne nms).trans gmQ
            have MR := MQ.keep kr fun o q => (upd_ne nps).trans q
            have fR := fQ.mut (o := .lst (stk (slotsOf due'))) fs_
            generalize hHR : upd HQ sl (.lst (stk (slotsOf due'))) = HR at *
            refine ⟨_, rfl, _, rfl, _, rfl, hp', _, _, at_.toNat, rfl, rfl, ghR, ?_, ?_⟩
            · rw [vI_len]
              exact ixN_int hpos (by first | exact hlt | (rw [newCells_len]; omega))
            rw [vI_set]
            have kr2 : KeepT HR (upd HR hp' (.lst (vI (hc.set at_.toNat z)))) := KeepT.upd (not_tup_lst ghR)
            have gsT : (upd HR hp' (.lst (vI (hc.set at_.toNat z)))) sl = some (.lst (stk (slotsOf due'))) := (upd_ne nsh.symm).trans gsR
            have grT : (upd HR hp' (.lst (vI (hc.set at_.toNat z)))) r = some (.lst (vI rr)) := (upd_ne nrp).trans grR
            have gmT : (upd HR hp' (.lst (vI (hc.set at_.toNat z)))) mA = some (.lst (vI ([] : List Int).reverse)) := (upd_ne nmh).trans gmR
            refine ⟨_, rfl, .inl ⟨rfl, _, SqL.of gsT⟩, _, rfl, sl, mA, _, _, rfl, rfl, gsT, gmT, by have := slotsOf_len due'; rw [stk_len, vI_len]; simp; exact sz (by omega), ?_⟩
            have kr3 : KeepT (upd HR hp' (.lst (vI (hc.set at_.toNat z)))) (upd (upd HR hp' (.lst (vI (hc.set at_.toNat z)))) sl (.lst (stk (slotsOf due') ++ vI ([] : List Int).reverse))) := KeepT.upd (not_tup_lst gsT)
            refine ⟨(fR.mut fh).mut fs_, ((ktQ.trans kr).trans kr2).trans kr3, (MR.keep kr2 fun o q => (upd_ne nph).trans q).keep kr3 (fun o q => (upd_ne nps).trans q), _, _, _, _, _, _, _, _, _, _, _, _, rr, rfl, (upd_ne nsh).trans upd_same, ?_, (upd_ne nsr).trans grT, S', ?_⟩
            · first | (rw [upd_same, stk_app]; rfl) | rw [upd_same, stk_app, slotsOf_app, slotsOf_pos hmv]
            · rcases hrr with ⟨_, q⟩ | q
              · have := (List.cons.inj q).1
                omega
              · exact .inr q
        | mk z =>
          show gName 10 (V.str z) _ _ _
          obtain ⟨at_, due', kk, n, fs, rfl, he, hS⟩ := S.mk
          simp only [List.length_cons] at hle2
          have hfs : fs.length ≤ 5 := flds5 o _ he
          refine ⟨_, rfl, ?_⟩
          refine ⟨Nat.zero_le _, fun m0 hm0 => ?_⟩
          have eM : Ext [] H8 (upd H8 m0 (.lst [])) := Ext.new hm0
          have gh9 := eM _ _ g8h (fun m => nomatch m)
          have gs9 := eM _ _ g8s (fun m => nomatch m)
          have gr9 := eM _ _ g8r (fun m => nomatch m)
          have f9 := f8.trans eM
          have kt9 := kt8.trans eM.keep0
          have M9 : MkT K (upd H8 m0 (.lst [])) p (tabKs ks) := M8.keep eM.keep0 fun o q => eM _ _ q (fun m => nomatch m)
          generalize hH9 : upd H8 m0 (.lst []) = H9 at *
          obtain ⟨kvs, hm, m2, m4⟩ := id M9
          obtain ⟨tt, hv, ht⟩ := m4 _ he
          replace ht : SqT K H9 tt [.int ((n : Nat) : Int), .int ((fs.length : Nat) : Int)] := ht
          refine ⟨_, rfl, _, _, _, rfl, isi_str (b := true), true, rfl, iteT ?_⟩
          refine ⟨_, rfl, _, rfl, p, .ref tt, rfl, ?_, tt, _, rfl, ht, rfl, _, _, rfl, _, _, rfl, rfl, ?_⟩
          · have := DGet.k (k := .inr z) hm
            rw [hv] at this
            exact this
          refine ⟨_, rfl, hp', _, rfl, .inl (SqL.of gh9), ?_⟩
          rw [vI_len]
          refine ⟨_, rfl, .inl ⟨rfl, _, SqL.of gh9⟩, _, rfl, hp', _, _, rfl, rfl, gh9, by rw [vI_len]; exact szl (by omega), ?_⟩
          have k3 : KeepT H9 (upd H9 hp' (.lst (vI hc ++ [V.int ((n : Nat) : Int)]))) := KeepT.upd (not_tup_lst gh9)
          have f10 := f9.mut (o := .lst (vI hc ++ [V.int ((n : Nat) : Int)])) fh
          have M10 := M9.keep k3 fun o q => (upd_ne nph).trans q
          have gs10 : (upd H9 hp' (.lst (vI hc ++ [V.int ((n : Nat) : Int)]))) sl = _ := (upd_ne nsh.symm).trans gs9
          have gr10 : (upd H9 hp' (.lst (vI hc ++ [V.int ((n : Nat) : Int)]))) r = _ := (upd_ne nrp).trans gr9
          have gh10 : (upd H9 hp' (.lst (vI hc ++ [V.int ((n : Nat) : Int)]))) hp' = some (.lst (vI hc ++ [V.int ((n : Nat) : Int)])) := upd_same
          have kt10 := kt9.trans k3
          generalize hH10 : upd H9 hp' (.lst (vI hc ++ [V.int ((n : Nat) : Int)])) = H10 at *
          refine ⟨_, rfl, .inl ⟨rfl, _, SqL.of gh10⟩, by show 1 ≤ sizeLine; decide, fun pz hpz => ?_⟩
          have e11 : Ext [] H10 (upd H10 pz (.lst [V.int 0])) := Ext.new hpz
          have g11 : (upd H10 pz (.lst [V.int 0])) pz = some (.lst [V.int 0]) := upd_same
          generalize hH11 : upd H10 pz (.lst [V.int 0]) = H11 at *
          refine ⟨_, rfl, pz, ((fs.length : Nat) : Int), _, rfl, rfl, g11, by omega, by omega, by simp; exact sz (by omega), fun qz hqz => ?_⟩
          rw [rep0]
          have e12 : Ext [] H11 (upd H11 qz (.lst (vI (List.replicate fs.length 0)))) := Ext.new hqz
          have g12 : (upd H11 qz (.lst (vI (List.replicate fs.length 0)))) qz = some (.lst (vI (List.replicate fs.length 0))) := upd_same
          generalize hH12 : upd H11 qz (.lst (vI (List.replicate fs.length 0))) = H12 at *
          have e1012 := e11.trans e12
          have gh12 := e1012 _ _ gh10 (fun m => nomatch m)
          have gs12 := e1012 _ _ gs10 (fun m => nomatch m)
          have gr12 := e1012 _ _ gr10 (fun m => nomatch m)
          have M12 := M10.keep e1012.keep0 fun o q => e1012 _ _ q (fun m => nomatch m)
          refine ⟨hp', qz, _, _, rfl, rfl, gh12, g12, by rw [List.length_append, vI_len, vI_len, List.length_replicate]; exact sz (by simp; omega), ?_⟩
          rw [show vI hc ++ [V.int ((n : Nat) : Int)] ++ vI (List.replicate fs.length 0) = vI (newCells hc n fs) by simp [vI, newCells]]
          have k13 : KeepT H12 (upd H12 hp' (.lst (vI (newCells hc n fs)))) := KeepT.upd (not_tup_lst gh12)
          have f13 := (f10.trans e1012).mut (o := .lst (vI (newCells hc n fs))) fh
          have M13 := M12.keep k13 fun o q => (upd_ne nph).trans q
          have gs13 : (upd H12 hp' (.lst (vI (newCells hc n fs)))) sl = _ := (upd_ne nsh.symm).trans gs12
          have gr13 : (upd H12 hp' (.lst (vI (newCells hc n fs)))) r = _ := (upd_ne nrp).trans gr12
          have gh13 : (upd H12 hp' (.lst (vI (newCells hc n fs)))) hp' = some (.lst (vI (newCells hc n fs))) := upd_same
          have kt13 := (kt10.trans e1012.keep0).trans k13
          generalize hH13 : upd H12 hp' (.lst (vI (newCells hc n fs))) = H13 at *
          refine ⟨_, rfl, _, rfl, by omega, by omega, fun mA hmA => ?_⟩
          refine lcF (ys := vI (dueI hc fs).reverse) walk_range hmA (by simp [vI, dueI, newDue]) (by omega) ?_ ?_
          · intro jj y HH Q' hj hy e7 k'
            obtain ⟨rfl, _⟩ := due_rev hc fs hy
            refine ⟨rfl, _, rfl, _, rfl, _, _, rfl, rfl, _, rfl, _, _, rfl, rfl, ?_⟩
            have := k' HH (Ext.refl HH)
            rw [← show ((hc.length : Nat) : Int) + ((fs.length : Nat) : Int) - (0 + (jj : Nat)) = (hc.length : Nat) + ((fs.length : Nat) + (jj : Nat) * (-1 : Int)) by omega] at this
            exact this
          intro HE eE gmE
          have nmr : mA ≠ r := (ne_of_none gr13 hmA).symm
          have nmh : mA ≠ hp' := (ne_of_none gh13 hmA).symm
          have nms : mA ≠ sl := (ne_of_none gs13 hmA).symm
          have ghE := eE _ _ gh13 (fun m => nomatch m)
          have gsE := eE _ _ gs13 (fun m => nomatch m)
          have grE := eE _ _ gr13 (fun m => nomatch m)
          have fE := f13.trans eE
          have ktE := kt13.trans eE.keep0
          have ME := M13.keep eE.keep0 fun o q => eE _ _ q (fun m => nomatch m)
          have hmv := dueI_pos hc fs
          have hml : (dueI hc fs).length = fs.length := by simp [dueI, newDue]
          refine ⟨_, rfl, Nat.zero_le _, fun qq hqq => ?_⟩
          have eQ : Ext [] HE (upd HE qq (.lst [])) := Ext.new hqq
          have gQ : (upd HE qq (.lst [])) qq = some (.lst []) := upd_same
          have ghQ := eQ _ _ ghE (fun m => nomatch m)
          have gsQ := eQ _ _ gsE (fun m => nomatch m)
          have grQ := eQ _ _ grE (fun m => nomatch m)
          have gmQ := eQ _ _ gmE (fun m => nomatch m)
          have fQ := fE.trans eQ
          have ktQ := ktE.trans eQ.keep0
          have MQ : MkT K (upd HE qq (.lst [])) p (tabKs ks) := ME.keep eQ.keep0 fun o q => eQ _ _ q (fun m => nomatch m)
          generalize hHQ : upd HE qq (.lst []) = HQ at *
          refine ⟨sl, qq, _, rfl, rfl, SqL.of gsQ, SqL.of gQ, _, rfl, ?_⟩
          rcases hS with ⟨hneg, ⟨hd0, hval⟩, S'⟩ | ⟨hpos, hlt, S'⟩
          · subst hd0
            rw [slotsOf_neg _ hneg]
            refine iteT ?_
            rw [slotsOf_neg _ hneg] at gsQ
            refine ⟨_, rfl, _, rfl, _, rfl, r, _, _, i, rfl, rfl, grQ, ?_, ?_⟩
            · rw [vI_len]
              refine ixN_int (by omega) ?_
              have : rr.length = 8 := by
                rcases hrr with ⟨q, _⟩ | q
                · rw [q, hRl]
                · rw [q, List.length_set, hRl]
              omega
            rw [vI_set]
            have kr : KeepT HQ (upd HQ r (.lst (vI (rr.set i ((hc.length : Nat) : Int))))) := KeepT.upd (not_tup_lst grQ)
            have gsR : (upd HQ r (.lst (vI (rr.set i ((hc.length : Nat) : Int))))) sl = some (.lst (stk (slotsOf []))) := (upd_ne nsr.symm).trans gsQ
            refine ⟨_, rfl, .inl ⟨rfl, _, SqL.of gsR⟩, _, rfl, sl, mA, _, _, rfl, rfl, gsR, (upd_ne nmr).trans gmQ, by rw [stk_len, vI_len, List.length_reverse]; exact sz (by have : (slotsOf []).length = 0 := rfl; omega), ?_⟩
            have kr2 : KeepT (upd HQ r (.lst (vI (rr.set i ((hc.length : Nat) : Int))))) (upd (upd HQ r (.lst (vI (rr.set i ((hc.length : Nat) : Int))))) sl (.lst (stk (slotsOf []) ++ vI (dueI hc fs).reverse))) := KeepT.upd (not_tup_lst gsR)
            refine ⟨(fQ.mut fr).mut fs_, (ktQ.trans kr).trans kr2, (MQ.keep kr fun o q => (upd_ne npr).trans q).keep kr2 (fun o q => (upd_ne nps).trans q), _, _, _, _, _, _, _, _, _, _, _, _, rr.set i ((hc.length : Nat) : Int), rfl, (upd_ne nsh).trans ((upd_ne nrp.symm).trans ghQ), ?_, (upd_ne nsr).trans upd_same, S', .inr ?_⟩
            · first | (rw [upd_same, stk_app]; rfl) | rw [upd_same, stk_app, slotsOf_app, slotsOf_pos hmv]
            · rw [hval]
              rcases hrr with ⟨q, _⟩ | q
              · rw [q]
              · rw [q, List.set_set]
          · rw [slotsOf_cons _ hpos] at gsQ ⊢
            rw [stk_ne]
            refine iteF ?_
            refine ⟨_, rfl, .inl ⟨rfl, _, SqL.of gsQ⟩, sl, _, .int at_, rfl, rfl, gsQ, stk_pop _ _, ?_⟩
            rw [stk_drop]
            have kr : KeepT HQ (upd HQ sl (.lst (stk (slotsOf due')))) := KeepT.upd (not_tup_lst gsQ)
            have ghR : (upd HQ sl (.lst (stk (slotsOf due')))) hp' = some (.lst (vI (newCells hc n fs))) := (upd_ne nsh).trans ghQ
            have gsR : (upd HQ sl (.lst (stk (slotsOf due')))) sl = some (.lst (stk (slotsOf due'))) := upd_same
            have grR : (upd HQ sl (.lst (stk (slotsOf due')))) r = some (.lst (vI rr)) := (upd_ne nsr).trans grQ
            have gmR : (upd HQ sl (.lst (stk (slotsOf due')))) mA = some (.lst (vI (dueI hc fs).reverse)) := (upd_ne nms).trans gmQ
            have MR := MQ.keep kr fun o q => (upd_ne nps).trans q
            have fR := fQ.mut (o := .lst (stk (slotsOf due'))) fs_
            generalize hHR : upd HQ sl (.lst (stk (slotsOf due'))) = HR at *
            refine ⟨_, rfl, _, rfl, _, rfl, hp', _, _, at_.toNat, rfl, rfl, ghR, ?_, ?_⟩
            · rw [vI_len]
              exact ixN_int hpos (by first | exact hlt | (rw [newCells_len]; omega))
            rw [vI_set]
            have kr2 : KeepT HR (upd HR hp' (.lst (vI ((newCells hc n fs).set at_.toNat ((hc.length : Nat) : Int))))) := KeepT.upd (not_tup_lst ghR)
            have gsT : (upd HR hp' (.lst (vI ((newCells hc n fs).set at_.toNat ((hc.length : Nat) : Int))))) sl = some (.lst (stk (slotsOf due'))) := (upd_ne nsh.symm).trans gsR
            have grT : (upd HR hp' (.lst (vI ((newCells hc n fs).set at_.toNat ((hc.length : Nat) : Int))))) r = some (.lst (vI rr)) := (upd_ne nrp).trans grR
            have gmT : (upd HR hp' (.lst (vI ((newCells hc n fs).set at_.toNat ((hc.length : Nat) : Int))))) mA = some (.lst (vI (dueI hc fs).reverse)) := (upd_ne nmh).trans gmR
            refine ⟨_, rfl, .inl ⟨rfl, _, SqL.of gsT⟩, _, rfl, sl, mA, _, _, rfl, rfl, gsT, gmT, by have := slotsOf_len due'; rw [stk_len, vI_len]; simp; exact sz (by omega), ?_⟩
            have kr3 : KeepT (upd HR hp' (.lst (vI ((newCells hc n fs).set at_.toNat ((hc.length : Nat) : Int))))) (upd (upd HR hp' (.lst (vI ((newCells hc n fs).set at_.toNat ((hc.length : Nat) : Int))))) sl (.lst (stk (slotsOf due') ++ vI (dueI hc fs).reverse))) := KeepT.upd (not_tup_lst gsT)
            refine ⟨(fR.mut fh).mut fs_, ((ktQ.trans kr).trans kr2).trans kr3, (MR.keep kr2 fun o q => (upd_ne nph).trans q).keep kr3 (fun o q => (upd_ne nps).trans q), _, _, _, _, _, _, _, _, _, _, _, _, rr, rfl, (upd_ne nsh).trans upd_same, ?_, (upd_ne nsr).trans grT, S', ?_⟩
            · first | (rw [upd_same, stk_app]; rfl) | rw [upd_same, stk_app, slotsOf_app, slotsOf_pos hmv]
            · rcases hrr with ⟨_, q⟩ | q
              · have := (List.cons.inj q).1
                omega
              · exact .inr q
      · rintro σ H8 ⟨f8, kt8, M8, y3, y4, y5, y10, y11, y12, y13, y14, y15, hc, due, t, rr, rfl, g8h, g8s, g8r, S, hrr⟩
        rw [List.length_map, List.drop_length] at S
        have hrr' : rr = R.set i u := by
          rcases hrr with ⟨_, rfl⟩ | q
          · exact S.no.elim
          · exact q
        obtain ⟨rfl, _⟩ := S.done
        refine ⟨hi', f8, M8, ⟨_, _, _, _, _, _, _, _, _, _, _, rfl⟩, hc, g8h, by rw [← hud]; exact q6, ?_⟩
        rw [g8r, hrr', ← hR]
        congr 3
        have hl : (us.take i).length = i := by rw [List.length_take]; omega
        rw [List.set_append_right _ _ (by omega), hl, Nat.sub_self, List.take_succ, hui, show 8 - i = (8 - (i + 1)) + 1 by omega, List.replicate_succ, List.set_cons_zero]
        simp
    · rintro σ H6 ⟨_, f6, M6, ⟨y3, y4, y5, y8, y9, y10, y11, y12, y13, y14, y15, rfl⟩, hc, q1, q2, q3⟩
      have e : ((xs.length : Nat) : Int).toNat = wss.length := by omega
      rw [e] at q2 q3
      rw [List.drop_length] at q2
      obtain ⟨_, rfl⟩ := q2.nil_
      rw [← hul', List.take_length] at q3
      refine ⟨_, rfl, _, rfl, by show 2 ≤ sizeLine; decide, fun t ht => ?_⟩
      have eT : Ext [] H6 (upd H6 t (.tup [.ref r, .ref hp'])) := Ext.new ht
      exact k _ t r hp' (f6.trans eT) (SqT.of upd_same) nrp fr fh (eT _ _ q3 (fun m => nomatch m)) (eT _ _ q1 (fun m => nomatch m))
end
end K47

set_option Elab.async false
set_option linter.all false
set_option maxRecDepth 100000
set_option maxHeartbeats 4000000
namespace K47
open PySem PySem.Spec PyProof.Rows L2
open C8 hiding CX0 E0
/-! reading values back -/
theorem TDs.reverse {K : PySem.W.Frag} {H : Hp} : ∀ {vs : List V} {ds : List PyData}, TDs K H vs ds → TDs K H vs.reverse ds.reverse
  | _, _, .nil => .nil
  | _, _, .cons a t => by
    rw [List.reverse_cons, List.reverse_cons]
    exact (TDs.reverse t).append (.cons a .nil)
theorem TDs.take {K : PySem.W.Frag} {H : Hp} {vs : List V} {ds : List PyData} (h : TDs K H vs ds) : vs.length = ds.length := h.length
/-- a comprehension whose elements are data -/
theorem lcD {K : PySem.W.Frag} {J : It} {n : Nat} {f : Nat → V} {ds : List PyData} {g : TG} {te : TE} {vs : List Nat} {σ : L2.St} {H1 : Hp} {D : Addr} {Qd : Hp → Prop} (w : Walk J n (fun _ => True) (YFn f)) (hD : H1 D = none) (hlen : ds.length = n) (hz : n < 1000000)
    (step : ∀ (i : Nat) (d : PyData) (H : Hp) (Q : VK), i < n → ds[i]? = some d → Ext [] H1 H → (∀ H4 y, Ext [] H H4 → TD K H4 y d → Q y H4) → g (f i) (wipe σ vs) H fun σ2 H2 => wipe σ2 vs = wipe σ vs ∧ te σ2 H2 Q)
    (hd : ∀ H acc, Ext [] H1 H → H D = some (.lst acc) → TDs K H acc ds → Qd H) :
    ∃ W : Nat → Nat → Hp → Prop, (∃ m, W 0 m (upd H1 D (.lst []))) ∧ ∀ i m H, W i m H →
      (J.stop i H ∧ Qd H) ∨ (J.go i H ∧ ∃ Nx : Hp → Prop, (∀ H', Nx H' → ∃ m', m' < m ∧ W (i + 1) m' H') ∧ ∀ x H', J.yld i H x H' → g x (wipe σ vs) H' fun σ2 H2 => wipe σ2 vs = wipe σ vs ∧ tYes σ2 H2 fun b H3 =>
        if b = true then te σ2 H3 fun y H4 => ∃ acc, H4 D = some (.lst acc) ∧ acc.length < sizeLine ∧ Nx (upd H4 D (.lst (acc ++ [y]))) else Nx H3) := by
  refine lc_it w (fun i H => Ext [] H1 H ∧ ∃ acc, H D = some (.lst acc) ∧ TDs K H acc (ds.take i)) ⟨Ext.new hD, [], upd_same, .nil⟩ (fun i H _ p => trivial) ?_ ?_
  · rintro i x H H' hlt ⟨e1, acc, hl, ht⟩ hy
    obtain ⟨rfl, rfl⟩ := hy
    have hd : ds[i]? = some ds[i] := List.getElem?_eq_getElem (by omega)
    refine step i ds[i] _ _ hlt hd e1 fun H4 y e4 ty => ?_
    have hl4 := e4 D _ hl (fun m => nomatch m)
    have kt : KeepT H4 (upd H4 D (.lst (acc ++ [y]))) := KeepT.upd (not_tup_lst hl4)
    refine ⟨acc, hl4, ?_, (e1.trans e4).mut hD, acc ++ [y], upd_same, ?_⟩
    · rw [ht.length, List.length_take]
      exact szl (by omega)
    · rw [List.take_succ, hd]
      exact ((ht.keep e4.keep0).append (.cons ty .nil)).keep kt
  · rintro H ⟨e1, acc, hl, ht⟩
    refine hd H acc e1 hl ?_
    rwa [List.take_of_length_le (by omega)] at ht
def eDu (e : Int × Str) : PyData := .tuple [.int e.1, .str e.2]
def eTEnd : TEnd → PyData
  | .ended none => .tuple [.str "ended", .none]
  | .ended (some ws) => .tuple [.str "ended", eWds ws]
  | .wild => .tuple [.str "wild", .none]
theorem kMakers_eq {ks : Ks} (o : KsOk ks) {kd : Kd} (h : kd ∈ ks) : kMakers ks kd.1 = kd.2 := by
  unfold kMakers
  cases q : ks.find? (fun k => decide (k.1 = kd.1)) with
  | none =>
    have := List.find?_eq_none.mp q kd h
    simp at this
  | some k' =>
    have h1 := List.mem_of_find?_eq_some q
    have h2 := List.find?_some q
    obtain ⟨i, hi⟩ := List.mem_iff_getElem?.mp h1
    rw [lookup_kind o h hi (of_decide_eq_true h2)]
theorem TDs.vWd {K : PySem.W.Frag} {H : Hp} : ∀ (ws : List Wd), TDs K H (ws.map vWd) (ws.map eWd)
  | [] => .nil
  | .num i :: ws => .cons (.int i) (TDs.vWd ws)
  | .mk x :: ws => .cons (.str x) (TDs.vWd ws)
theorem isWhole {ks : Ks} (o : KsOk ks) {kd : Kd} (h : kd ∈ ks) : kd.1 ≠ "whole" := by
  intro q
  have h1 := o.hi kd h
  rw [q] at h1
  exact absurd h1 (by decide +kernel)
def nxDue (here : Int) (fs : List Str) : List (Int × Str) := fs.zipIdx.map fun f => (here + 1 + (f.2 : Nat), f.1)
theorem nxDue_at {here : Int} {fs : List Str} {i : Nat} {d : PyData} (h : ((nxDue here fs).map eDu).reverse[i]? = some d) : ∃ f, fs[fs.length - 1 - i]? = some f ∧ i < fs.length ∧ d = .tuple [.int (here + 1 + ((fs.length - 1 - i : Nat) : Int)), .str f] := by
  have hl := (List.getElem?_eq_some_iff.mp h).1
  simp [nxDue] at hl
  rw [List.getElem?_reverse (by simpa [nxDue] using hl)] at h
  simp only [nxDue, List.length_map, List.length_zipIdx, List.getElem?_map, List.getElem?_zipIdx] at h
  cases q : fs[fs.length - 1 - i]? with
  | none => rw [q] at h; cases h
  | some f =>
    rw [q] at h
    simp at h
    exact ⟨f, rfl, hl, by rw [← h]; simp [eDu]⟩
def r_read_value (K : PySem.W.Frag) : List V → Hp → VK → Prop := fun vs H Q => ∃ (c : Core) (v : V) (hp : Addr) (heap : List Int) (k : Str) (word : Int), vs = [v, .ref hp, .str k, .int word] ∧ TD K H v (eCore c) ∧ KsOk c.ks ∧ (k = "whole" ∨ k ∈ kNames c.ks) ∧ H hp = some (.lst (vI heap)) ∧
  ∀ H' u, Ext [] H H' → TD K H' u (eTEnd (toldOf c.ks heap word 4000 [(-1, k)] [])) → Q u H'
section
variable {P : Program} {w : World} {K : PySem.W.Frag} {mg : Str → Option Value} {base : Heap}
abbrev N_read_value : List Str := ["core", "heap", "kind", "word", "due", "found", "at", "kind_here", "here", "makers", "name", "fields", "k"]
theorem sc_read_value : FnScope ["core", "heap", "kind", "word", "due", "found", "at", "kind_here", "here", "makers", "name", "fields", "k"] ["core", "heap", "kind", "word"] (defScope s_read_value) := ⟨rfl, rfl, rfl, by decide +kernel, rfl, by decide +kernel, by decide +kernel⟩
theorem c_read_value (T : Txt w K mg) : Cal P w K mg base 2 "read_value" (spN 4 (r_read_value K)) [] := by
  obtain ⟨fd, F⟩ := T.f_read_value
  refine cal_mk F T.m_read_value (fun _ _ _ _ _ _ us hl => match us, hl with | [_, _, _, _], _ => rfl) sc_read_value (fun _ _ _ _ h => h.1) (fun cdv A outer s H vs Q E hr h => ?_)
  have hu := hu_of hr
  have hul := hul_of hr
  obtain ⟨_, c, v, hp, heap, kind, word, rfl, hv, o, hk, hh, k⟩ := h
  obtain ⟨ca, v1, v2, rfl, hca, t1, t2⟩ := hv.two
  refine ⟨_, (pss_cons (ps_set (i := 4) sc_read_value.nd rfl (by first | exact Or.inl rfl | exact Or.inr rfl) (pe_lst (pa_cons (pe_tup (pa_cons (pe_un un_neg (pe_int)) (pa_cons (pv 2) pa_nil))) pa_nil)))
      (pss_cons (ps_set (i := 5) sc_read_value.nd rfl (by first | exact Or.inl rfl | exact Or.inr rfl) (pe_lst (pa_nil)))
      (pss_cons (ps_while PassesOwn.never (pt_cmpR op_gt (pe_callB (call_lenK (K := K) rfl) (by rfl) T.b_len bt_len (pa_cons (pv 4) pa_nil)) (pe_int) (nomark _)) (pss_cons (ps_if (pt_cmpR op_eq (pe_callB (call_lenK (K := K) rfl) (by rfl) T.b_len bt_len (pa_cons (pv 5) pa_nil)) (pe_gc (by rfl) T.g_MOST_WORDS) (nomark _)) (pss_one (ps_ret (pe_tup (pa_cons (pe_str) (pa_cons (pe_non) pa_nil))))) (pss_nil))
      (pss_cons (ps_asg (pe_bm0 PySem.F.plainAttrs_list PySem.F.slot_list_pop PySem.F.type_list_pop mt_pop (pv 4)) (pg_tupK (K := K) (n := 2) rfl rfl (pgs_cons (pg_name (i := 6) sc_read_value.nd rfl (by first | exact Or.inl rfl | exact Or.inr rfl)) (pgs_cons (pg_name (i := 7) sc_read_value.nd rfl (by first | exact Or.inl rfl | exact Or.inr rfl)) pgs_nil))))
      (pss_cons (ps_if (pt_cmpR op_ge (pv 6) (pe_callB (call_lenK (K := K) rfl) (by rfl) T.b_len bt_len (pa_cons (pv 1) pa_nil)) (nomark _)) (pss_one (ps_ret (pe_tup (pa_cons (pe_str) (pa_cons (pe_non) pa_nil))))) (pss_nil))
      (pss_cons (ps_set (i := 8) sc_read_value.nd rfl (by first | exact Or.inl rfl | exact Or.inr rfl) (pv 3))
      (pss_cons (ps_if (pt_cmpR op_ge (pv 6) (pe_int) (nomark _)) (pss_one (ps_set (i := 8) sc_read_value.nd rfl (by first | exact Or.inl rfl | exact Or.inr rfl) (pe_ix (ix_listK (K := K) rfl) (pv 1) (pv 6) (fun _ _ => rfl)))) (pss_nil))
      (pss_cons (ps_if (pt_cmpR op_eq (pv 7) (pe_str) (nomark _)) (pss_cons (ps_expr (pe_bm PySem.F.plainAttrs_list PySem.F.slot_list_append PySem.F.type_list_append mt_append (pv 5) (pa_cons (pv 8) pa_nil)))
      (pss_one (ps_continue))) (pss_nil))
      (pss_cons (ps_set (i := 9) sc_read_value.nd rfl (by first | exact Or.inl rfl | exact Or.inr rfl) (pe_c (c_makers_of T) hr (by decide) (by rfl) (pa_cons (pe_ix (ix_tupK (K := K) rfl) (pv 0) (pe_int) (fun _ _ => rfl)) (pa_cons (pv 7) pa_nil))))
      (pss_cons (ps_if (PW.pt (pw_or (pt_not (pt_chain op_le op_lt (pe_int) (pv 8) (pe_callB (call_lenK (K := K) rfl) (by rfl) T.b_len bt_len (pa_cons (pv 1) pa_nil)))) (pw_or1 (pt_not (pt_chain op_le op_lt (pe_int) (pe_ix (ix_listK (K := K) rfl) (pv 1) (pv 8) (fun _ _ => rfl)) (pe_callB (call_lenK (K := K) rfl) (by rfl) T.b_len bt_len (pa_cons (pv 9) pa_nil))))))) (pss_one (ps_ret (pe_tup (pa_cons (pe_str) (pa_cons (pe_non) pa_nil))))) (pss_nil))
      (pss_cons (ps_asg (pe_ix (ix_tupK (K := K) rfl) (pv 9) (pe_ix (ix_listK (K := K) rfl) (pv 1) (pv 8) (fun _ _ => rfl)) (fun _ _ => rfl)) (pg_tupK (K := K) (n := 2) rfl rfl (pgs_cons (pg_name (i := 10) sc_read_value.nd rfl (by first | exact Or.inl rfl | exact Or.inr rfl)) (pgs_cons (pg_name (i := 11) sc_read_value.nd rfl (by first | exact Or.inl rfl | exact Or.inr rfl)) pgs_nil))))
      (pss_cons (ps_expr (pe_bm PySem.F.plainAttrs_list PySem.F.slot_list_append PySem.F.type_list_append mt_append (pv 5) (pa_cons (pv 10) pa_nil)))
      (pss_one (ps_expr (pe_bm PySem.F.plainAttrs_list PySem.F.slot_list_extend PySem.F.type_list_extend mt_extend (pv 4) (pa_cons (pe_lc (own := [("k", 12)]) rfl sc_read_value.nd (pi_range3 rfl T.b_range (pa_cons (pe_callB (call_lenK (K := K) rfl) (by rfl) T.b_len bt_len (pa_cons (pv 11) pa_nil)) (pa_cons (pe_int) (pa_cons (pe_un un_neg (pe_int)) pa_nil)))) (blkOk_by (N := N_read_value) (sc := defScope s_read_value) (by decide +kernel)) (fun _ _ _ _ _ => pg_name (i := 12) sc_read_value.nd rfl (by first | exact Or.inl rfl | exact Or.inr rfl)) (fun _ _ _ _ _ => pts_nil) (fun _ _ _ _ _ => pe_tup (pa_cons (pe_op op_add (pv 8) (pv 12)) (pa_cons (pe_ix (ix_tupK (K := K) rfl) (pv 11) (pe_op op_sub (pv 12) (pe_int)) (fun _ _ => rfl)) pa_nil)))) pa_nil)))))))))))))))
      (pss_one (ps_ret (pe_tup (pa_cons (pe_str) (pa_cons (pe_callTy call_tuple_of (by rfl) T.b_tuple bt_tuple (pa_cons (pv 5) pa_nil)) pa_nil)))))))), ?_⟩
  generalize hR : eTEnd (toldOf c.ks heap word 4000 [(-1, kind)] []) = R at *
  refine ⟨_, rfl, _, rfl, by show 2 ≤ sizeLine; decide, fun t0 ht0 => ⟨by show 1 ≤ sizeLine; decide, fun du hdu => ?_⟩⟩
  have e1 : Ext [] H (upd H t0 (.tup [.int (-1), .str kind])) := Ext.new ht0
  have g1 : (upd H t0 (.tup [.int (-1), .str kind])) t0 = some (.tup [.int (-1), .str kind]) := upd_same
  generalize hH1 : upd H t0 (.tup [.int (-1), .str kind]) = H1 at *
  have e2 : Ext [] H1 (upd H1 du (.lst [.ref t0])) := Ext.new hdu
  have g2 : (upd H1 du (.lst [.ref t0])) du = some (.lst [.ref t0]) := upd_same
  have g2t := e2 _ _ g1 (fun m => nomatch m)
  have fd_ : H du = none := e1.free hdu (fun m => nomatch m)
  generalize hH2 : upd H1 du (.lst [.ref t0]) = H2 at *
  refine ⟨Nat.zero_le _, fun fo hfo => ?_⟩
  have e3 : Ext [] H2 (upd H2 fo (.lst [])) := Ext.new hfo
  have g3 : (upd H2 fo (.lst [])) fo = some (.lst []) := upd_same
  have g3d := e3 _ _ g2 (fun m => nomatch m)
  have g3t := e3 _ _ g2t (fun m => nomatch m)
  have ff_ : H fo = none := (e1.trans e2).free hfo (fun m => nomatch m)
  have ndf : du ≠ fo := ne_of_none g2 hfo
  generalize hH3 : upd H2 fo (.lst []) = H3 at *
  have f3 := (e1.trans e2).trans e3
  refine ⟨fun m σ H' => Ext [] H H' ∧ (∃ y6 y7 y8 y9 y10 y11 y12, σ = [some (.ref ca), some (.ref hp), some (.str kind), some (.int word), some (.ref du), some (.ref fo), y6, y7, y8, y9, y10, y11, y12]) ∧
      ∃ (l : List V) (due : List (Int × Str)) (found : List Wd), H' du = some (.lst l) ∧ TDs K H' l.reverse (due.map eDu) ∧ H' fo = some (.lst (found.map vWd)) ∧ found.length ≤ 4000 ∧ m = 4000 - found.length ∧ due.length ≤ 1 + 5 * found.length ∧
        (∀ e ∈ due, e.2 = "whole" ∨ e.2 ∈ kNames c.ks) ∧ eTEnd (toldOf c.ks heap word (4000 - found.length) due found) = R,
    ⟨4000, f3, ⟨_, _, _, _, _, _, _, rfl⟩, [.ref t0], [(-1, kind)], [], g3d, .cons (.tup (SqT.of g3t) (.cons (.int _) (.cons (.str _) .nil))) .nil, g3, Nat.zero_le _, rfl, by simp, fun e he => by cases List.mem_singleton.mp he; exact hk, hR⟩, ?_⟩
  rintro m σ H4 ⟨f4, ⟨y6, y7, y8, y9, y10, y11, y12, rfl⟩, l, due, found, gd, td, gf, hfl, hm, hdl, hkk, hR'⟩
  have hll : l.length = due.length := by have := td.length; rwa [List.length_reverse, List.length_map] at this
  refine ⟨_, rfl, du, _, rfl, .inl (SqL.of gd), _, _, rfl, rfl, _, rfl, ?_⟩
  cases due with
  | nil =>
    have hl0 : l = [] := List.length_eq_zero_iff.mp hll
    subst hl0
    rw [decide_eq_false (by decide)]
    refine iteF ?_
    refine ⟨_, rfl, fo, _, rfl, .inl ⟨SqL.of gf, fun t ht => ⟨by show 2 ≤ sizeLine; decide, fun u hu5 => ?_⟩⟩⟩
    have eT : Ext [] H4 (upd H4 t (.tup (found.map vWd))) := Ext.new ht
    have gT : (upd H4 t (.tup (found.map vWd))) t = some (.tup (found.map vWd)) := upd_same
    have eU : Ext [] (upd H4 t (.tup (found.map vWd))) (upd (upd H4 t (.tup (found.map vWd))) u (.tup [.str "ended", .ref t])) := Ext.new hu5
    refine k _ _ ((f4.trans eT).trans eU) ?_
    rw [← hR']
    unfold toldOf
    exact .tup (SqT.of upd_same) (.cons (.str _) (.cons (.tup (SqT.of (eU _ _ gT (fun m => nomatch m))) (TDs.vWd found)) .nil))
  | cons e due =>
    obtain ⟨at_, kh⟩ := e
    obtain ⟨v0, us, hus, tv, tus⟩ := td.cons_
    have hl : l = us.reverse ++ [v0] := by rw [← List.reverse_reverse l, hus, List.reverse_cons]
    obtain ⟨tp, p1, p2, rfl, htp, s1, s2⟩ := tv.two
    cases s1.int_
    cases s2.str_
    have hkh : kh = "whole" ∨ kh ∈ kNames c.ks := hkk _ List.mem_cons_self
    rw [decide_eq_true (by rw [hll, List.length_cons]; omega)]
    refine iteT ⟨fun σ' H' => ∃ m', m' < m ∧ _, fun _ _ h => h, ?_⟩
    refine ⟨_, rfl, fo, _, rfl, .inl (SqL.of gf), rfl, _, rfl, ?_⟩
    rw [List.length_map]
    by_cases h4 : found.length = 4000
    · rw [decide_eq_true (by rw [h4]; rfl)]
      refine iteT ⟨by show 2 ≤ sizeLine; decide, fun u hu5 => ?_⟩
      have eU : Ext [] H4 (upd H4 u (.tup [.str "ended", .non])) := Ext.new hu5
      refine k _ _ (f4.trans eU) ?_
      rw [← hR', h4]
      unfold toldOf
      exact .tup (SqT.of upd_same) (.cons (.str _) (.cons .non .nil))
    rw [dneq (show ((found.length : Nat) : Int) ≠ 4000 by omega)]
    refine iteF ?_
    subst hl
    refine ⟨_, rfl, .inl ⟨rfl, _, SqL.of gd⟩, du, _, .ref tp, rfl, rfl, gd, by simp, tp, [.int at_, .str kh], rfl, ?_⟩
    rw [List.dropLast_concat]
    have k5 : KeepT H4 (upd H4 du (.lst us.reverse)) := KeepT.upd (not_tup_lst gd)
    have f5 := f4.mut (o := .lst us.reverse) fd_
    have gd5 : (upd H4 du (.lst us.reverse)) du = some (.lst us.reverse) := upd_same
    have gf5 : (upd H4 du (.lst us.reverse)) fo = some (.lst (found.map vWd)) := (upd_ne ndf.symm).trans gf
    have tus5 := tus.keep k5
    have htp5 := k5.sq htp
    generalize hH5 : upd H4 du (.lst us.reverse) = H5 at *
    have gh5 := f5 _ _ hh (fun m => nomatch m)
    refine ⟨htp5, rfl, _, _, rfl, _, _, rfl, rfl, ?_⟩
    refine ⟨_, rfl, _, rfl, hp, _, rfl, .inl (SqL.of gh5), _, _, rfl, rfl, _, rfl, ?_⟩
    rw [vI_len]
    rw [show 4000 - found.length = (3999 - found.length) + 1 by omega] at hR'
    unfold toldOf at hR'
    dsimp only at hR'
    by_cases hge : ((heap.length : Nat) : Int) ≤ at_
    · rw [if_pos hge] at hR'
      rw [decide_eq_true hge]
      refine iteT ⟨by show 2 ≤ sizeLine; decide, fun u hu5 => ?_⟩
      have eU : Ext [] H5 (upd H5 u (.tup [.str "wild", .non])) := Ext.new hu5
      refine k _ _ (f5.trans eU) ?_
      rw [← hR']
      exact .tup (SqT.of upd_same) (.cons (.str _) (.cons .non .nil))
    rw [if_neg hge] at hR'
    rw [decide_eq_false hge]
    refine iteF ?_
    refine ⟨_, rfl, ?_⟩
    refine ⟨_, rfl, _, _, rfl, rfl, _, rfl, ?_⟩
    by_cases h0 : 0 ≤ at_
    rw [if_pos h0] at hR'
    rw [decide_eq_true h0]
    have hx : heap[at_.toNat]? = some (heap.getD at_.toNat 0) := by
      rw [List.getD_eq_getElem?_getD, List.getElem?_eq_getElem (by omega)]
      rfl
    generalize heap.getD at_.toNat 0 = here at *
    refine iteT ⟨_, rfl, _, rfl, hp, _, _, _, rfl, rfl, SqL.of gh5, ix_int h0 (vI_at hx), ?_⟩
    rotate_left
    rw [if_neg h0] at hR'
    rw [decide_eq_false h0]
    obtain ⟨here, rfl⟩ : ∃ here, here = word := ⟨word, rfl⟩
    refine iteF ?_
    all_goals
      refine ⟨_, rfl, rfl, _, rfl, ?_⟩
      by_cases hw : kh = "whole"
      · rw [if_pos hw] at hR'
        subst hw
        rw [decide_eq_true rfl]
        refine iteT ⟨_, rfl, .inl ⟨rfl, _, SqL.of gf5⟩, _, rfl, fo, _, _, rfl, rfl, gf5, by rw [List.length_map]; exact szl (by omega), ?_⟩
        have k6 : KeepT H5 (upd H5 fo (.lst (found.map vWd ++ [.int here]))) := KeepT.upd (not_tup_lst gf5)
        refine ⟨3999 - found.length, by omega, f5.mut ff_, ⟨_, _, _, _, _, _, _, rfl⟩, us.reverse, due, found ++ [.num here], (upd_ne ndf).trans gd5, by rw [List.reverse_reverse]; exact tus5.keep k6, by rw [upd_same, List.map_append]; rfl, by simp only [List.length_append, List.length_cons, List.length_nil]; omega, by simp only [List.length_append, List.length_cons, List.length_nil]; omega, ?_, fun e he => hkk e (List.mem_cons_of_mem _ he), ?_⟩
        · rw [List.length_append]
          simp only [List.length_cons, List.length_nil] at hdl ⊢
          omega
        · rw [List.length_append, show 4000 - (found.length + [Wd.num here].length) = 3999 - found.length by simp only [List.length_cons, List.length_nil]; omega]
          exact hR'
      rw [if_neg hw] at hR'
      rw [decide_eq_false (fun q => hw (V.str.inj q))]
      refine iteF ?_
      obtain ⟨kd, hkd, rfl⟩ := List.mem_map.mp (hkh.resolve_left hw)
      rw [kMakers_eq o hkd] at hR'
      refine ⟨_, rfl, ca, _, _, _, rfl, rfl, f5.sqt hca, rfl, _, rfl, rfl, v1, c.ks, kd, rfl, t1.keep f5.keep0, o, hkd, fun u H6 e6 tu => ?_⟩
      obtain ⟨ma, mxs, rfl, hma, tm⟩ := (tu.keep e6.keep0).open_
      have hml : mxs.length = kd.2.length := by rw [tm.length, List.length_map]
      have f6 := f5.trans e6
      have gh6 := e6 _ _ gh5 (fun m => nomatch m)
      have gd6 := e6 _ _ gd5 (fun m => nomatch m)
      have gf6 := e6 _ _ gf5 (fun m => nomatch m)
      have tus6 := tus5.keep e6.keep0
      have wild : eTEnd TEnd.wild = R → ∀ H', Ext [] H H' → ∀ u, H' u = none → Q (.ref u) (upd H' u (.tup [.str "wild", .non])) := fun hr H' e u hu => by
        have eU : Ext [] H' (upd H' u (.tup [.str "wild", .non])) := Ext.new hu
        refine k _ _ (e.trans eU) ?_
        rw [← hr]
        exact .tup (SqT.of upd_same) (.cons (.str _) (.cons .non .nil))
      refine ⟨_, rfl, _, _, rfl, rfl, _, rfl, ?_⟩
      by_cases c1 : 0 ≤ here
      rotate_left
      · rw [decide_eq_false c1]
        rw [if_neg (fun q => c1 q.1)] at hR'
        exact iteF ⟨_, rfl, iteT (iteT ⟨by show 2 ≤ sizeLine; decide, fun u hu5 => wild hR' _ f6 u hu5⟩)⟩
      rw [decide_eq_true c1]
      refine iteT ⟨_, rfl, hp, _, rfl, .inl (SqL.of gh6), _, _, rfl, rfl, _, rfl, ?_⟩
      rw [vI_len]
      by_cases c2 : here < ((heap.length : Nat) : Int)
      rotate_left
      · rw [decide_eq_false c2]
        rw [if_neg (fun q => c2 q.2.1)] at hR'
        exact iteT (iteT ⟨by show 2 ≤ sizeLine; decide, fun u hu5 => wild hR' _ f6 u hu5⟩)
      rw [decide_eq_true c2]
      refine iteF ?_
      have hx2 : heap[here.toNat]? = some (heap.getD here.toNat 0) := by
        rw [List.getD_eq_getElem?_getD, List.getElem?_eq_getElem (by omega)]
        rfl
      generalize heap.getD here.toNat 0 = tag at *
      refine ⟨_, rfl, _, rfl, hp, _, _, _, rfl, rfl, SqL.of gh6, ix_int c1 (vI_at hx2), _, _, rfl, rfl, _, rfl, ?_⟩
      by_cases c3 : 0 ≤ tag
      rotate_left
      · rw [decide_eq_false c3]
        rw [if_neg (fun q => c3 q.2.2.1)] at hR'
        exact iteF ⟨_, rfl, iteT ⟨by show 2 ≤ sizeLine; decide, fun u hu5 => wild hR' _ f6 u hu5⟩⟩
      rw [decide_eq_true c3]
      refine iteT ⟨_, rfl, ma, _, rfl, .inr hma, _, _, rfl, rfl, _, rfl, ?_⟩
      rw [hml]
      by_cases c4 : tag < ((kd.2.length : Nat) : Int)
      rotate_left
      · rw [decide_eq_false c4]
        rw [if_neg (fun q => c4 q.2.2.2)] at hR'
        exact iteT ⟨by show 2 ≤ sizeLine; decide, fun u hu5 => wild hR' _ f6 u hu5⟩
      rw [decide_eq_true c4]
      refine iteF ?_
      rw [if_pos ⟨c1, c2, c3, c4⟩] at hR'
      obtain ⟨mk, hmk⟩ : ∃ mk, kd.2[tag.toNat]? = some mk := ⟨_, List.getElem?_eq_getElem (by omega)⟩
      rw [hmk] at hR'
      dsimp only at hR'
      obtain ⟨mv, hmv, tmv⟩ := TD.at_ (a := ma) tm hmk
      obtain ⟨mt, m1, m2, rfl, hmt, n1, n2⟩ := tmv.two
      cases n1.str_
      obtain ⟨fa, rfl, hfa⟩ := n2.strs
      have hmk5 := (o.mhi kd hkd mk (List.mem_of_getElem? hmk)).2
      refine ⟨_, rfl, _, rfl, _, rfl, hp, _, _, _, rfl, rfl, SqL.of gh6, ix_int c1 (vI_at hx2), ma, _, _, _, rfl, rfl, hma, ix_int c3 hmv, mt, _, rfl, hmt, rfl, _, _, rfl, _, _, rfl, rfl, ?_⟩
      refine ⟨_, rfl, .inl ⟨rfl, _, SqL.of gf6⟩, _, rfl, fo, _, _, rfl, rfl, gf6, by rw [List.length_map]; exact szl (by omega), ?_⟩
      have k7 : KeepT H6 (upd H6 fo (.lst (found.map vWd ++ [.str mk.1]))) := KeepT.upd (not_tup_lst gf6)
      have f7 := f6.mut (o := .lst (found.map vWd ++ [.str mk.1])) ff_
      have gd7 : (upd H6 fo (.lst (found.map vWd ++ [.str mk.1]))) du = some (.lst us.reverse) := (upd_ne ndf).trans gd6
      have gf7 : (upd H6 fo (.lst (found.map vWd ++ [.str mk.1]))) fo = some (.lst (found.map vWd ++ [.str mk.1])) := upd_same
      have tus7 := tus6.keep k7
      have hfa7 := k7.sq hfa
      generalize hH7 : upd H6 fo (.lst (found.map vWd ++ [.str mk.1])) = H7 at *
      refine ⟨_, rfl, .inl ⟨rfl, _, SqL.of gd7⟩, _, rfl, fa, _, rfl, .inr hfa7, _, rfl, _, _, _, mk.2.length, rfl, ?_, fun D hD => ?_⟩
      · rw [List.length_map]
        exact RgC.neg (i := ((mk.2.length : Nat) : Int)) (j := 0) (by omega) (by omega) (by omega) (by omega)
      dsimp only [List.set_cons_succ, List.set_cons_zero]
      refine lcD (K := K) (ds := ((nxDue here mk.2).map eDu).reverse) walk_rangeC hD (by simp [nxDue]) (by omega) ?_ ?_
      · intro j d H8 Q' hj hd e8 k'
        obtain ⟨f, q1, q2, rfl⟩ := nxDue_at hd
        rw [List.length_map]
        refine ⟨rfl, _, rfl, _, rfl, _, _, rfl, rfl, _, rfl, _, rfl, _, _, rfl, rfl, fa, _, _, _, rfl, rfl, e8.sqt hfa7, ix_int (x := .str f) (by omega) ?_, by show 2 ≤ sizeLine; decide, fun t ht => ?_⟩
        · rw [List.getElem?_map, show (((mk.2.length : Nat) : Int) + ((j : Nat) : Int) * -1 - 1).toNat = mk.2.length - 1 - j by omega, q1]
          rfl
        refine k' _ _ (Ext.new ht) (.tup (SqT.of upd_same) (.cons ?_ (.cons (.str f) .nil)))
        rw [show here + 1 + ((mk.2.length - 1 - j : Nat) : Int) = here + (((mk.2.length : Nat) : Int) + ((j : Nat) : Int) * -1) by omega]
        exact .int _
      intro H8 acc e8 hl8 t8
      have gd8 := e8 _ _ gd7 (fun m => nomatch m)
      have gf8 := e8 _ _ gf7 (fun m => nomatch m)
      have f8 := f7.trans e8
      have tus8 := tus7.keep e8.keep0
      have hal : acc.length = mk.2.length := by rw [t8.length]; simp [nxDue]
      refine ⟨du, D, _, _, rfl, rfl, gd8, hl8, by have := tus8.length; rw [List.length_map] at this; rw [List.length_reverse]; simp only [List.length_cons] at hdl; exact sz (by omega), ?_⟩
      have k9 : KeepT H8 (upd H8 du (.lst (us.reverse ++ acc))) := KeepT.upd (not_tup_lst gd8)
      refine ⟨3999 - found.length, by omega, f8.mut fd_, ⟨_, _, _, _, _, _, _, rfl⟩, us.reverse ++ acc, nxDue here mk.2 ++ due, found ++ [.mk mk.1], upd_same, ?_, by rw [List.map_append]; exact (upd_ne ndf.symm).trans gf8, by simp only [List.length_append, List.length_cons, List.length_nil]; omega, by simp only [List.length_append, List.length_cons, List.length_nil]; omega, ?_, ?_, ?_⟩
      · rw [List.reverse_append, List.reverse_reverse, List.map_append]
        have := t8.reverse
        rw [List.reverse_reverse] at this
        exact (this.append tus8).keep k9
      · simp only [List.length_append, List.length_cons, List.length_nil, nxDue, List.length_map, List.length_zipIdx] at hdl ⊢
        omega
      · intro e he
        rcases List.mem_append.mp he with q | q
        · unfold nxDue at q
          obtain ⟨f, hf, rfl⟩ := List.mem_map.mp q
          have h3 : f.1 ∈ mk.2 := by
            have := List.mem_map_of_mem (f := Prod.fst) hf
            rwa [List.zipIdx_map_fst] at this
          exact hmk5.2 _ h3
        · exact hkk e (List.mem_cons_of_mem _ q)
      · rw [show 4000 - (found ++ [Wd.mk mk.1]).length = 3999 - found.length by simp only [List.length_append, List.length_cons, List.length_nil]; omega]
        exact hR'
end
end K47

set_option Elab.async false
set_option linter.all false
set_option maxRecDepth 100000
set_option maxHeartbeats 4000000
namespace K47
open PySem PySem.Spec PyProof.Rows L2
open C8 hiding CX0 E0
/-! the law's reading -/
def r_law_told (K : PySem.W.Frag) : List V → Hp → VK → Prop := fun vs H Q => ∃ (ks : Ks) (v : V) (hp : Addr) (heap : List Int) (k : Str) (word : Int), vs = [v, .str k, .int word, .ref hp] ∧ TD K H v (eKs ks) ∧ KsOk ks ∧ (k = "whole" ∨ k ∈ kNames ks) ∧ H hp = some (.lst (vI heap)) ∧
  ∀ H' u, Ext [] H H' → TD K H' u (eTEnd (toldOf ks heap word 4000 [(-1, k)] [])) → Q u H'
section
variable {P : Program} {w : World} {K : PySem.W.Frag} {mg : Str → Option Value} {base : Heap}
abbrev N_law_makers : List Str := ["_law_kinds_here", "_law_kind", "_law_name", "_law_makers_here"]
theorem sc_law_makers : FnScope ["_law_kinds_here", "_law_kind", "_law_name", "_law_makers_here"] ["_law_kinds_here", "_law_kind"] (defScope s_law_makers) := ⟨rfl, rfl, rfl, by decide +kernel, rfl, by decide +kernel, by decide +kernel⟩
theorem c_law_makers (T : Txt w K mg) : Cal P w K mg base 1 "_law_makers" (spN 2 (r_makers_of K)) [] := by
  obtain ⟨fd, F⟩ := T.f_law_makers
  refine cal_mk F T.m_law_makers (fun _ _ _ _ _ _ us hl => match us, hl with | [_, _], _ => rfl) sc_law_makers (fun _ _ _ _ h => h.1) (fun cdv A outer s H vs Q E hr h => ?_)
  have hu := hu_of hr
  have hul := hul_of hr
  obtain ⟨_, v, ks, kd, rfl, hv, o, hk, k⟩ := h
  obtain ⟨a, xs, rfl, hs, ts⟩ := hv.open_
  refine ⟨_, (pss_cons (ps_for PassesOwn.never rfl (pi_tupK (K := K) rfl (pv 0)) (pg_tupK (K := K) (n := 2) rfl rfl (pgs_cons (pg_name (i := 2) sc_law_makers.nd rfl (by first | exact Or.inl rfl | exact Or.inr rfl)) (pgs_cons (pg_name (i := 3) sc_law_makers.nd rfl (by first | exact Or.inl rfl | exact Or.inr rfl)) pgs_nil)))
        (pss_one (ps_if (pt_cmpR op_eq (pv 2) (pv 1) (nomark _)) (pss_one (ps_ret (pv 3))) (pss_nil))))
      (pss_one (ps_ret (pe_tup (pa_nil))))), ?_⟩
  refine ⟨_, rfl, a, rfl, ⟨_, hs⟩, ?_⟩
  refine for_tup (xs := xs) (fun i σ H' => H' = H ∧ (∃ y z, σ = [some (.ref a), some (.str kd.1), y, z]) ∧ ∀ j < i, ∀ k', ks[j]? = some k' → k'.1 ≠ kd.1) ⟨rfl, ⟨_, _, rfl⟩, fun j hj => absurd hj (Nat.not_lt_zero j)⟩ (fun i σ H' _ p => by rw [p.1]; exact hs) ?_ ?_
  · rintro i x σ H1 hi ⟨rfl, ⟨y, z, rfl⟩, hp⟩
    obtain ⟨kd', hk', td⟩ := TD.atV ts hi
    obtain ⟨b, u1, u2, rfl, hb, t1, t2⟩ := td.two
    cases t1.str_
    refine ⟨b, _, rfl, hb, rfl, _, _, rfl, _, _, rfl, rfl, ?_⟩
    refine ⟨_, rfl, _, rfl, rfl, _, rfl, ?_⟩
    by_cases hn : kd'.1 = kd.1
    · refine ite2 (fun _ => ?_) (fun n => absurd (decide_eq_true (congrArg V.str hn)) n)
      have e := lookup_kind o hk hk' hn
      subst e
      exact ⟨_, rfl, k _ _ (Ext.refl _) t2⟩
    · refine ite2 (fun n => absurd (V.str.inj (of_decide_eq_true n)) hn) (fun _ => ?_)
      refine ⟨rfl, ⟨_, _, rfl⟩, fun j hj k' hkj => ?_⟩
      rcases Nat.lt_succ_iff_lt_or_eq.mp hj with q | q
      · exact hp j q k' hkj
      · subst q
        rw [hk'] at hkj
        cases hkj
        exact hn
  · rintro σ H1 ⟨rfl, ⟨y, z, rfl⟩, hp⟩
    obtain ⟨j, hj⟩ := List.mem_iff_getElem?.mp hk
    have hl := (List.getElem?_eq_some_iff.mp hj).1
    exact absurd rfl (hp j (by rw [ts.length, List.length_map]; exact hl) kd hj)
abbrev N_law_told : List Str := ["_law_kinds_here", "_law_kind", "_law_word", "_law_heap", "_law_due_here", "_law_found", "_law_turn_here", "_law_at", "_law_here", "_law_value_here", "_law_makers_here", "_law_maker", "_law_fields", "_law_k"]
theorem sc_law_told : FnScope ["_law_kinds_here", "_law_kind", "_law_word", "_law_heap", "_law_due_here", "_law_found", "_law_turn_here", "_law_at", "_law_here", "_law_value_here", "_law_makers_here", "_law_maker", "_law_fields", "_law_k"] ["_law_kinds_here", "_law_kind", "_law_word", "_law_heap"] (defScope s_law_told) := ⟨rfl, rfl, rfl, by decide +kernel, rfl, by decide +kernel, by decide +kernel⟩
theorem c_law_told (T : Txt w K mg) : Cal P w K mg base 2 "_law_told" (spN 4 (r_law_told K)) [] := by
  obtain ⟨fd, F⟩ := T.f_law_told
  refine cal_mk F T.m_law_told (fun _ _ _ _ _ _ us hl => match us, hl with | [_, _, _, _], _ => rfl) sc_law_told (fun _ _ _ _ h => h.1) (fun cdv A outer s H vs Q E hr h => ?_)
  have hu := hu_of hr
  have hul := hul_of hr
  obtain ⟨_, ks, v1, hp, heap, kind, word, rfl, t1, o, hk, hh, k⟩ := h
  refine ⟨_, (pss_cons (ps_set (i := 4) sc_law_told.nd rfl (by first | exact Or.inl rfl | exact Or.inr rfl) (pe_lst (pa_cons (pe_tup (pa_cons (pe_un un_neg (pe_int)) (pa_cons (pv 1) pa_nil))) pa_nil)))
      (pss_cons (ps_set (i := 5) sc_law_told.nd rfl (by first | exact Or.inl rfl | exact Or.inr rfl) (pe_lst (pa_nil)))
      (pss_cons (ps_for PassesOwn.never rfl (pi_range1 (by rfl) T.b_range (pa_cons (pe_int) pa_nil)) (pg_name (i := 6) sc_law_told.nd rfl (by first | exact Or.inl rfl | exact Or.inr rfl))
        (pss_cons (ps_if (pt_cmpR (op_eqNilK (K := K) rfl hul) (pv 4) (pe_lst (pa_nil)) (nomark _)) (pss_one (ps_ret (pe_tup (pa_cons (pe_str) (pa_cons (pe_callTy call_tuple_of (by rfl) T.b_tuple bt_tuple (pa_cons (pv 5) pa_nil)) pa_nil))))) (pss_nil))
      (pss_cons (ps_if (pt_cmpR op_eq (pe_callB (call_lenK (K := K) rfl) (by rfl) T.b_len bt_len (pa_cons (pv 5) pa_nil)) (pe_int) (nomark _)) (pss_one (ps_ret (pe_tup (pa_cons (pe_str) (pa_cons (pe_non) pa_nil))))) (pss_nil))
      (pss_cons (ps_asg (pe_bm0 PySem.F.plainAttrs_list PySem.F.slot_list_pop PySem.F.type_list_pop mt_pop (pv 4)) (pg_tupK (K := K) (n := 2) rfl rfl (pgs_cons (pg_name (i := 7) sc_law_told.nd rfl (by first | exact Or.inl rfl | exact Or.inr rfl)) (pgs_cons (pg_name (i := 8) sc_law_told.nd rfl (by first | exact Or.inl rfl | exact Or.inr rfl)) pgs_nil))))
      (pss_cons (ps_if (pt_cmpR op_ge (pv 7) (pe_callB (call_lenK (K := K) rfl) (by rfl) T.b_len bt_len (pa_cons (pv 3) pa_nil)) (nomark _)) (pss_one (ps_ret (pe_tup (pa_cons (pe_str) (pa_cons (pe_non) pa_nil))))) (pss_nil))
      (pss_cons (ps_set (i := 9) sc_law_told.nd rfl (by first | exact Or.inl rfl | exact Or.inr rfl) (pv 2))
      (pss_cons (ps_if (pt_cmpR op_ge (pv 7) (pe_int) (nomark _)) (pss_one (ps_set (i := 9) sc_law_told.nd rfl (by first | exact Or.inl rfl | exact Or.inr rfl) (pe_ix (ix_listK (K := K) rfl) (pv 3) (pv 7) (fun _ _ => rfl)))) (pss_nil))
      (pss_cons (ps_if (pt_cmpR op_eq (pv 8) (pe_str) (nomark _)) (pss_cons (ps_expr (pe_bm PySem.F.plainAttrs_list PySem.F.slot_list_append PySem.F.type_list_append mt_append (pv 5) (pa_cons (pv 9) pa_nil)))
      (pss_one (ps_continue))) (pss_nil))
      (pss_cons (ps_set (i := 10) sc_law_told.nd rfl (by first | exact Or.inl rfl | exact Or.inr rfl) (pe_c (c_law_makers T) hr (by decide) (by rfl) (pa_cons (pv 0) (pa_cons (pv 8) pa_nil))))
      (pss_cons (ps_if (PW.pt (pw_or (pt_cmpR op_lt (pv 9) (pe_int) (nomark _)) (pw_or (pt_cmpR op_ge (pv 9) (pe_callB (call_lenK (K := K) rfl) (by rfl) T.b_len bt_len (pa_cons (pv 3) pa_nil)) (nomark _)) (pw_or (pt_cmpR op_lt (pe_ix (ix_listK (K := K) rfl) (pv 3) (pv 9) (fun _ _ => rfl)) (pe_int) (nomark _)) (pw_or1 (pt_cmpR op_ge (pe_ix (ix_listK (K := K) rfl) (pv 3) (pv 9) (fun _ _ => rfl)) (pe_callB (call_lenK (K := K) rfl) (by rfl) T.b_len bt_len (pa_cons (pv 10) pa_nil)) (nomark _))))))) (pss_one (ps_ret (pe_tup (pa_cons (pe_str) (pa_cons (pe_non) pa_nil))))) (pss_nil))
      (pss_cons (ps_asg (pe_ix (ix_tupK (K := K) rfl) (pv 10) (pe_ix (ix_listK (K := K) rfl) (pv 3) (pv 9) (fun _ _ => rfl)) (fun _ _ => rfl)) (pg_tupK (K := K) (n := 2) rfl rfl (pgs_cons (pg_name (i := 11) sc_law_told.nd rfl (by first | exact Or.inl rfl | exact Or.inr rfl)) (pgs_cons (pg_name (i := 12) sc_law_told.nd rfl (by first | exact Or.inl rfl | exact Or.inr rfl)) pgs_nil))))
      (pss_cons (ps_expr (pe_bm PySem.F.plainAttrs_list PySem.F.slot_list_append PySem.F.type_list_append mt_append (pv 5) (pa_cons (pv 11) pa_nil)))
      (pss_one (ps_expr (pe_bm PySem.F.plainAttrs_list PySem.F.slot_list_extend PySem.F.type_list_extend mt_extend (pv 4) (pa_cons (pe_lc (own := [("_law_k", 13)]) rfl sc_law_told.nd (pi_range1 (by rfl) T.b_range (pa_cons (pe_callB (call_lenK (K := K) rfl) (by rfl) T.b_len bt_len (pa_cons (pv 12) pa_nil)) pa_nil)) (blkOk_by (N := N_law_told) (sc := defScope s_law_told) (by decide +kernel)) (fun _ _ _ _ _ => pg_name (i := 13) sc_law_told.nd rfl (by first | exact Or.inl rfl | exact Or.inr rfl)) (fun _ _ _ _ _ => pts_nil) (fun _ _ _ _ _ => pe_tup (pa_cons (pe_op op_sub (pe_op op_add (pv 9) (pe_callB (call_lenK (K := K) rfl) (by rfl) T.b_len bt_len (pa_cons (pv 12) pa_nil))) (pv 13)) (pa_cons (pe_ix (ix_tupK (K := K) rfl) (pv 12) (pe_op op_sub (pe_op op_sub (pe_callB (call_lenK (K := K) rfl) (by rfl) T.b_len bt_len (pa_cons (pv 12) pa_nil)) (pe_int)) (pv 13)) (fun _ _ => rfl)) pa_nil)))) pa_nil))))))))))))))))
      (pss_one (ps_ret (pe_tup (pa_cons (pe_str) (pa_cons (pe_non) pa_nil)))))))), ?_⟩
  generalize hR : eTEnd (toldOf ks heap word 4000 [(-1, kind)] []) = R at *
  refine ⟨_, rfl, _, rfl, by show 2 ≤ sizeLine; decide, fun t0 ht0 => ⟨by show 1 ≤ sizeLine; decide, fun du hdu => ?_⟩⟩
  have e1 : Ext [] H (upd H t0 (.tup [.int (-1), .str kind])) := Ext.new ht0
  have g1 : (upd H t0 (.tup [.int (-1), .str kind])) t0 = some (.tup [.int (-1), .str kind]) := upd_same
  generalize hH1 : upd H t0 (.tup [.int (-1), .str kind]) = H1 at *
  have e2 : Ext [] H1 (upd H1 du (.lst [.ref t0])) := Ext.new hdu
  have g2 : (upd H1 du (.lst [.ref t0])) du = some (.lst [.ref t0]) := upd_same
  have g2t := e2 _ _ g1 (fun m => nomatch m)
  have fd_ : H du = none := e1.free hdu (fun m => nomatch m)
  generalize hH2 : upd H1 du (.lst [.ref t0]) = H2 at *
  refine ⟨Nat.zero_le _, fun fo hfo => ?_⟩
  have e3 : Ext [] H2 (upd H2 fo (.lst [])) := Ext.new hfo
  have g3 : (upd H2 fo (.lst [])) fo = some (.lst []) := upd_same
  have g3d := e3 _ _ g2 (fun m => nomatch m)
  have g3t := e3 _ _ g2t (fun m => nomatch m)
  have ff_ : H fo = none := (e1.trans e2).free hfo (fun m => nomatch m)
  have ndf : du ≠ fo := ne_of_none g2 hfo
  generalize hH3 : upd H2 fo (.lst []) = H3 at *
  have f3 := (e1.trans e2).trans e3
  refine ⟨_, rfl, by decide, by decide, ?_⟩
  refine for_range (fun i σ H' => Ext [] H H' ∧ (∃ y6 y7 y8 y9 y10 y11 y12 y13, σ = [some v1, some (.str kind), some (.int word), some (.ref hp), some (.ref du), some (.ref fo), y6, y7, y8, y9, y10, y11, y12, y13]) ∧
      ∃ (l : List V) (due : List (Int × Str)) (found : List Wd), H' du = some (.lst l) ∧ TDs K H' l.reverse (due.map eDu) ∧ H' fo = some (.lst (found.map vWd)) ∧ found.length ≤ 4000 ∧ i = found.length ∧ due.length ≤ 1 + 5 * found.length ∧
        (∀ e ∈ due, e.2 = "whole" ∨ e.2 ∈ kNames ks) ∧ eTEnd (toldOf ks heap word (4000 - found.length) due found) = R)
    ⟨f3, ⟨_, _, _, _, _, _, _, _, rfl⟩, [.ref t0], [(-1, kind)], [], g3d, .cons (.tup (SqT.of g3t) (.cons (.int _) (.cons (.str _) .nil))) .nil, g3, Nat.zero_le _, rfl, by simp, fun e he => by cases List.mem_singleton.mp he; exact hk, hR⟩ ?_ (fun σ H' q => by
      obtain ⟨_, _, l, due, found, _, _, _, q1, q2, _⟩ := q
      have : ((4001 : Int)).toNat = 4001 := rfl
      omega)
  rintro i σ H3' hi ⟨f4', ⟨y6, y7, y8, y9, y10, y11, y12, y13, rfl⟩, l, due, found, gd', td', gf', hfl, hm, hdl, hkk, hR'⟩
  have hll : l.length = due.length := by have := td'.length; rwa [List.length_reverse, List.length_map] at this
  refine ⟨_, rfl, Nat.zero_le _, fun q0 hq0 => ?_⟩
  have eq0 : Ext [] H3' (upd H3' q0 (.lst [])) := Ext.new hq0
  have gq0 : (upd H3' q0 (.lst [])) q0 = some (.lst []) := upd_same
  have f4 := f4'.trans eq0
  have gd := eq0 _ _ gd' (fun m => nomatch m)
  have gf := eq0 _ _ gf' (fun m => nomatch m)
  have td := td'.keep eq0.keep0
  generalize hH4 : upd H3' q0 (.lst []) = H4 at *
  refine ⟨du, q0, l, rfl, rfl, SqL.of gd, SqL.of gq0, _, rfl, ?_⟩
  cases due with
  | nil =>
    have hl0 : l = [] := List.length_eq_zero_iff.mp hll
    subst hl0
    refine iteT ?_
    refine ⟨_, rfl, fo, _, rfl, .inl ⟨SqL.of gf, fun t ht => ⟨by show 2 ≤ sizeLine; decide, fun u hu5 => ?_⟩⟩⟩
    have eT : Ext [] H4 (upd H4 t (.tup (found.map vWd))) := Ext.new ht
    have gT : (upd H4 t (.tup (found.map vWd))) t = some (.tup (found.map vWd)) := upd_same
    have eU : Ext [] (upd H4 t (.tup (found.map vWd))) (upd (upd H4 t (.tup (found.map vWd))) u (.tup [.str "ended", .ref t])) := Ext.new hu5
    refine k _ _ ((f4.trans eT).trans eU) ?_
    rw [← hR']
    unfold toldOf
    exact .tup (SqT.of upd_same) (.cons (.str _) (.cons (.tup (SqT.of (eU _ _ gT (fun m => nomatch m))) (TDs.vWd found)) .nil))
  | cons e due =>
    obtain ⟨at_, kh⟩ := e
    obtain ⟨v0, us, hus, tv, tus⟩ := td.cons_
    have hl : l = us.reverse ++ [v0] := by rw [← List.reverse_reverse l, hus, List.reverse_cons]
    obtain ⟨tp, p1, p2, rfl, htp, s1, s2⟩ := tv.two
    cases s1.int_
    cases s2.str_
    have hkh : kh = "whole" ∨ kh ∈ kNames ks := hkk _ List.mem_cons_self
    rw [show l.isEmpty = false by rw [hl]; simp]
    refine iteF ?_
    refine ⟨_, rfl, fo, _, rfl, .inl (SqL.of gf), rfl, _, rfl, ?_⟩
    rw [List.length_map]
    by_cases h4 : found.length = 4000
    · rw [decide_eq_true (by rw [h4]; rfl)]
      refine iteT ⟨by show 2 ≤ sizeLine; decide, fun u hu5 => ?_⟩
      have eU : Ext [] H4 (upd H4 u (.tup [.str "ended", .non])) := Ext.new hu5
      refine k _ _ (f4.trans eU) ?_
      rw [← hR', h4]
      unfold toldOf
      exact .tup (SqT.of upd_same) (.cons (.str _) (.cons .non .nil))
    rw [dneq (show ((found.length : Nat) : Int) ≠ 4000 by omega)]
    refine iteF ?_
    subst hl
    refine ⟨_, rfl, .inl ⟨rfl, _, SqL.of gd⟩, du, _, .ref tp, rfl, rfl, gd, by simp, tp, [.int at_, .str kh], rfl, ?_⟩
    rw [List.dropLast_concat]
    have k5 : KeepT H4 (upd H4 du (.lst us.reverse)) := KeepT.upd (not_tup_lst gd)
    have f5 := f4.mut (o := .lst us.reverse) fd_
    have gd5 : (upd H4 du (.lst us.reverse)) du = some (.lst us.reverse) := upd_same
    have gf5 : (upd H4 du (.lst us.reverse)) fo = some (.lst (found.map vWd)) := (upd_ne ndf.symm).trans gf
    have tus5 := tus.keep k5
    have htp5 := k5.sq htp
    generalize hH5 : upd H4 du (.lst us.reverse) = H5 at *
    have gh5 := f5 _ _ hh (fun m => nomatch m)
    refine ⟨htp5, rfl, _, _, rfl, _, _, rfl, rfl, ?_⟩
    refine ⟨_, rfl, _, rfl, hp, _, rfl, .inl (SqL.of gh5), _, _, rfl, rfl, _, rfl, ?_⟩
    rw [vI_len]
    rw [show 4000 - found.length = (3999 - found.length) + 1 by omega] at hR'
    unfold toldOf at hR'
    dsimp only at hR'
    by_cases hge : ((heap.length : Nat) : Int) ≤ at_
    · rw [if_pos hge] at hR'
      rw [decide_eq_true hge]
      refine iteT ⟨by show 2 ≤ sizeLine; decide, fun u hu5 => ?_⟩
      have eU : Ext [] H5 (upd H5 u (.tup [.str "wild", .non])) := Ext.new hu5
      refine k _ _ (f5.trans eU) ?_
      rw [← hR']
      exact .tup (SqT.of upd_same) (.cons (.str _) (.cons .non .nil))
    rw [if_neg hge] at hR'
    rw [decide_eq_false hge]
    refine iteF ?_
    refine ⟨_, rfl, ?_⟩
    refine ⟨_, rfl, _, _, rfl, rfl, _, rfl, ?_⟩
    by_cases h0 : 0 ≤ at_
    rw [if_pos h0] at hR'
    rw [decide_eq_true h0]
    have hx : heap[at_.toNat]? = some (heap.getD at_.toNat 0) := by
      rw [List.getD_eq_getElem?_getD, List.getElem?_eq_getElem (by omega)]
      rfl
    generalize heap.getD at_.toNat 0 = here at *
    refine iteT ⟨_, rfl, _, rfl, hp, _, _, _, rfl, rfl, SqL.of gh5, ix_int h0 (vI_at hx), ?_⟩
    rotate_left
    rw [if_neg h0] at hR'
    rw [decide_eq_false h0]
    obtain ⟨here, rfl⟩ : ∃ here, here = word := ⟨word, rfl⟩
    refine iteF ?_
    all_goals
      refine ⟨_, rfl, rfl, _, rfl, ?_⟩
      by_cases hw : kh = "whole"
      · rw [if_pos hw] at hR'
        subst hw
        rw [decide_eq_true rfl]
        refine iteT ⟨_, rfl, .inl ⟨rfl, _, SqL.of gf5⟩, _, rfl, fo, _, _, rfl, rfl, gf5, by rw [List.length_map]; exact szl (by omega), ?_⟩
        have k6 : KeepT H5 (upd H5 fo (.lst (found.map vWd ++ [.int here]))) := KeepT.upd (not_tup_lst gf5)
        refine ⟨f5.mut ff_, ⟨_, _, _, _, _, _, _, _, rfl⟩, us.reverse, due, found ++ [.num here], (upd_ne ndf).trans gd5, by rw [List.reverse_reverse]; exact tus5.keep k6, by rw [upd_same, List.map_append]; rfl, by simp only [List.length_append, List.length_cons, List.length_nil]; omega, by simp only [List.length_append, List.length_cons, List.length_nil]; omega, ?_, fun e he => hkk e (List.mem_cons_of_mem _ he), ?_⟩
        · rw [List.length_append]
          simp only [List.length_cons, List.length_nil] at hdl ⊢
          omega
        · rw [List.length_append, show 4000 - (found.length + [Wd.num here].length) = 3999 - found.length by simp only [List.length_cons, List.length_nil]; omega]
          exact hR'
      rw [if_neg hw] at hR'
      rw [decide_eq_false (fun q => hw (V.str.inj q))]
      refine iteF ?_
      obtain ⟨kd, hkd, rfl⟩ := List.mem_map.mp (hkh.resolve_left hw)
      rw [kMakers_eq o hkd] at hR'
      refine ⟨_, rfl, _, rfl, rfl, v1, ks, kd, rfl, t1.keep f5.keep0, o, hkd, fun u H6 e6 tu => ?_⟩
      obtain ⟨ma, mxs, rfl, hma, tm⟩ := (tu.keep e6.keep0).open_
      have hml : mxs.length = kd.2.length := by rw [tm.length, List.length_map]
      have f6 := f5.trans e6
      have gh6 := e6 _ _ gh5 (fun m => nomatch m)
      have gd6 := e6 _ _ gd5 (fun m => nomatch m)
      have gf6 := e6 _ _ gf5 (fun m => nomatch m)
      have tus6 := tus5.keep e6.keep0
      have wild : eTEnd TEnd.wild = R → ∀ H', Ext [] H H' → ∀ u, H' u = none → Q (.ref u) (upd H' u (.tup [.str "wild", .non])) := fun hr H' e u hu => by
        have eU : Ext [] H' (upd H' u (.tup [.str "wild", .non])) := Ext.new hu
        refine k _ _ (e.trans eU) ?_
        rw [← hr]
        exact .tup (SqT.of upd_same) (.cons (.str _) (.cons .non .nil))
      refine ⟨_, rfl, _, _, rfl, rfl, _, rfl, ?_⟩
      by_cases c1 : 0 ≤ here
      rotate_left
      · rw [decide_eq_true (by omega)]
        rw [if_neg (fun q => c1 q.1)] at hR'
        exact iteT (iteT ⟨by show 2 ≤ sizeLine; decide, fun u hu5 => wild hR' _ f6 u hu5⟩)
      rw [decide_eq_false (by omega)]
      refine iteF ⟨_, rfl, _, rfl, hp, _, rfl, .inl (SqL.of gh6), _, _, rfl, rfl, _, rfl, ?_⟩
      rw [vI_len]
      by_cases c2 : here < ((heap.length : Nat) : Int)
      rotate_left
      · rw [decide_eq_true (by omega)]
        rw [if_neg (fun q => c2 q.2.1)] at hR'
        exact iteT (iteT ⟨by show 2 ≤ sizeLine; decide, fun u hu5 => wild hR' _ f6 u hu5⟩)
      rw [decide_eq_false (by omega)]
      refine iteF ?_
      have hx2 : heap[here.toNat]? = some (heap.getD here.toNat 0) := by
        rw [List.getD_eq_getElem?_getD, List.getElem?_eq_getElem (by omega)]
        rfl
      generalize heap.getD here.toNat 0 = tag at *
      refine ⟨_, rfl, _, rfl, hp, _, _, _, rfl, rfl, SqL.of gh6, ix_int c1 (vI_at hx2), _, _, rfl, rfl, _, rfl, ?_⟩
      by_cases c3 : 0 ≤ tag
      rotate_left
      · rw [decide_eq_true (by omega)]
        rw [if_neg (fun q => c3 q.2.2.1)] at hR'
        exact iteT (iteT ⟨by show 2 ≤ sizeLine; decide, fun u hu5 => wild hR' _ f6 u hu5⟩)
      rw [decide_eq_false (by omega)]
      refine iteF ⟨_, rfl, _, rfl, hp, _, _, _, rfl, rfl, SqL.of gh6, ix_int c1 (vI_at hx2), _, rfl, ma, _, rfl, .inr hma, _, _, rfl, rfl, _, rfl, ?_⟩
      rw [hml]
      by_cases c4 : tag < ((kd.2.length : Nat) : Int)
      rotate_left
      · rw [decide_eq_true (by omega)]
        rw [if_neg (fun q => c4 q.2.2.2)] at hR'
        exact iteT ⟨by show 2 ≤ sizeLine; decide, fun u hu5 => wild hR' _ f6 u hu5⟩
      rw [decide_eq_false (by omega)]
      refine iteF ?_
      rw [if_pos ⟨c1, c2, c3, c4⟩] at hR'
      obtain ⟨mk, hmk⟩ : ∃ mk, kd.2[tag.toNat]? = some mk := ⟨_, List.getElem?_eq_getElem (by omega)⟩
      rw [hmk] at hR'
      dsimp only at hR'
      obtain ⟨mv, hmv, tmv⟩ := TD.at_ (a := ma) tm hmk
      obtain ⟨mt, m1, m2, rfl, hmt, n1, n2⟩ := tmv.two
      cases n1.str_
      obtain ⟨fa, rfl, hfa⟩ := n2.strs
      have hmk5 := (o.mhi kd hkd mk (List.mem_of_getElem? hmk)).2
      refine ⟨_, rfl, _, rfl, _, rfl, hp, _, _, _, rfl, rfl, SqL.of gh6, ix_int c1 (vI_at hx2), ma, _, _, _, rfl, rfl, hma, ix_int c3 hmv, mt, _, rfl, hmt, rfl, _, _, rfl, _, _, rfl, rfl, ?_⟩
      refine ⟨_, rfl, .inl ⟨rfl, _, SqL.of gf6⟩, _, rfl, fo, _, _, rfl, rfl, gf6, by rw [List.length_map]; exact szl (by omega), ?_⟩
      have k7 : KeepT H6 (upd H6 fo (.lst (found.map vWd ++ [.str mk.1]))) := KeepT.upd (not_tup_lst gf6)
      have f7 := f6.mut (o := .lst (found.map vWd ++ [.str mk.1])) ff_
      have gd7 : (upd H6 fo (.lst (found.map vWd ++ [.str mk.1]))) du = some (.lst us.reverse) := (upd_ne ndf).trans gd6
      have gf7 : (upd H6 fo (.lst (found.map vWd ++ [.str mk.1]))) fo = some (.lst (found.map vWd ++ [.str mk.1])) := upd_same
      have tus7 := tus6.keep k7
      have hfa7 := k7.sq hfa
      generalize hH7 : upd H6 fo (.lst (found.map vWd ++ [.str mk.1])) = H7 at *
      refine ⟨_, rfl, .inl ⟨rfl, _, SqL.of gd7⟩, _, rfl, fa, _, rfl, .inr hfa7, _, rfl, by rw [List.length_map]; omega, by rw [List.length_map]; omega, fun D hD => ?_⟩
      rw [List.length_map]
      dsimp only [List.set_cons_succ, List.set_cons_zero]
      refine lcD (K := K) (ds := ((nxDue here mk.2).map eDu).reverse) walk_range hD (by simp [nxDue]) (by omega) ?_ ?_
      · intro j d H8 Q' hj hd e8 k'
        obtain ⟨f, q1, q2, rfl⟩ := nxDue_at hd
        refine ⟨rfl, _, rfl, _, rfl, fa, _, rfl, .inr (e8.sqt hfa7), _, _, rfl, rfl, _, rfl, _, _, rfl, rfl, _, rfl, _, rfl, fa, _, rfl, .inr (e8.sqt hfa7), _, _, rfl, rfl, _, rfl, _, _, rfl, rfl, fa, _, _, _, rfl, rfl, e8.sqt hfa7, ix_int (x := .str f) (by rw [List.length_map]; omega) ?_, by show 2 ≤ sizeLine; decide, fun t ht => ?_⟩
        · rw [List.length_map, List.getElem?_map, show (((mk.2.length : Nat) : Int) - 1 - (0 + ((j : Nat) : Int))).toNat = mk.2.length - 1 - j by omega, q1]
          rfl
        rw [List.length_map]
        refine k' _ _ (Ext.new ht) (.tup (SqT.of upd_same) (.cons ?_ (.cons (.str f) .nil)))
        rw [show here + 1 + ((mk.2.length - 1 - j : Nat) : Int) = here + ((mk.2.length : Nat) : Int) - (0 + ((j : Nat) : Int)) by omega]
        exact .int _
      intro H8 acc e8 hl8 t8
      have gd8 := e8 _ _ gd7 (fun m => nomatch m)
      have gf8 := e8 _ _ gf7 (fun m => nomatch m)
      have f8 := f7.trans e8
      have tus8 := tus7.keep e8.keep0
      have hal : acc.length = mk.2.length := by rw [t8.length]; simp [nxDue]
      refine ⟨du, D, _, _, rfl, rfl, gd8, hl8, by have := tus8.length; rw [List.length_map] at this; rw [List.length_reverse]; simp only [List.length_cons] at hdl; exact sz (by omega), ?_⟩
      have k9 : KeepT H8 (upd H8 du (.lst (us.reverse ++ acc))) := KeepT.upd (not_tup_lst gd8)
      refine ⟨f8.mut fd_, ⟨_, _, _, _, _, _, _, _, rfl⟩, us.reverse ++ acc, nxDue here mk.2 ++ due, found ++ [.mk mk.1], upd_same, ?_, by rw [List.map_append]; exact (upd_ne ndf.symm).trans gf8, by simp only [List.length_append, List.length_cons, List.length_nil]; omega, by simp only [List.length_append, List.length_cons, List.length_nil]; omega, ?_, ?_, ?_⟩
      · rw [List.reverse_append, List.reverse_reverse, List.map_append]
        have := t8.reverse
        rw [List.reverse_reverse] at this
        exact (this.append tus8).keep k9
      · simp only [List.length_append, List.length_cons, List.length_nil, nxDue, List.length_map, List.length_zipIdx] at hdl ⊢
        omega
      · intro e he
        rcases List.mem_append.mp he with q | q
        · unfold nxDue at q
          obtain ⟨f, hf, rfl⟩ := List.mem_map.mp q
          have h3 : f.1 ∈ mk.2 := by
            have := List.mem_map_of_mem (f := Prod.fst) hf
            rwa [List.zipIdx_map_fst] at this
          exact hmk5.2 _ h3
        · exact hkk e (List.mem_cons_of_mem _ q)
      · rw [show 4000 - (found ++ [Wd.mk mk.1]).length = 3999 - found.length by simp only [List.length_append, List.length_cons, List.length_nil]; omega]
        exact hR'
end
end K47

set_option Elab.async false
set_option linter.all false
set_option maxRecDepth 100000
set_option maxHeartbeats 4000000
namespace K47
open PySem PySem.Spec PyProof.Rows L2
open C8 hiding CX0 E0
/-! values are values of their kinds -/
def stkS (l : List Str) : List V := l.reverse.map V.str
theorem stkS_pop (a : Str) (d : List Str) : (stkS (a :: d))[(stkS (a :: d)).length - 1]? = some (.str a) := by simp [stkS]
theorem stkS_drop (a : Str) (d : List Str) : (stkS (a :: d)).dropLast = stkS d := by simp [stkS]
theorem stkS_app (l d : List Str) : stkS d ++ (l.map V.str).reverse = stkS (l ++ d) := by simp [stkS]
theorem stkS_len (l : List Str) : (stkS l).length = l.length := by simp [stkS]
theorem Fits.le {es : Tab} {due : List Str} {ws : List Wd} (f : Fits es due ws) : due.length ≤ ws.length := by
  induction f with
  | nil => exact Nat.le_refl _
  | num _ ih => simp; exact ih
  | mk _ _ ih => simp at ih ⊢; omega
theorem tabKs_kind {ks : Ks} {e : Str × Str × Nat × List Str} (h : e ∈ tabKs ks) : e.2.1 ∈ kNames ks := by
  unfold tabKs at h
  obtain ⟨kd, hk, h2⟩ := List.mem_flatMap.mp h
  unfold tabK at h2
  obtain ⟨m, hm, rfl⟩ := List.mem_map.mp h2
  exact List.mem_map_of_mem hk
theorem whole_no {ks : Ks} (o : KsOk ks) : ("whole" : Str) ∉ kNames ks := fun h => by
  obtain ⟨kd, hk, e⟩ := List.mem_map.mp h
  exact isWhole o hk e
def r_take_words (K : PySem.W.Frag) : List V → Hp → VK → Prop := fun vs H Q => ∃ (c : Core) (v : V) (k : Str) (a : Addr) (ws : List Wd), vs = [v, .str k, .ref a, .int 0] ∧ TD K H v (eCore c) ∧ KsOk c.ks ∧ SqT K H a (ws.map vWd) ∧ Fits (tabKs c.ks) [k] ws ∧ ws.length ≤ 400 ∧ ∀ H', Ext [] H H' → Q (.int ((ws.length : Nat) : Int)) H'
def r_is_words (K : PySem.W.Frag) : List V → Hp → VK → Prop := fun vs H Q => ∃ (c : Core) (v u : V) (k : Str) (ws : List Wd), vs = [v, .str k, u, .int 400] ∧ TD K H v (eCore c) ∧ KsOk c.ks ∧ TD K H u (eWds ws) ∧ Fits (tabKs c.ks) [k] ws ∧ ws.length ≤ 400 ∧ ∀ H', Ext [] H H' → Q (.bl true) H'
def r_need_args (K : PySem.W.Frag) : List V → Hp → VK → Prop := fun vs H Q => ∃ (c : Core) (v fv : V) (f : Fdef) (a : Addr) (xs : List V) (wss : List (List Wd)), vs = [v, fv, .ref a] ∧ TD K H v (eCore c) ∧ KsOk c.ks ∧ TD K H fv (eFn f) ∧ SqT K H a xs ∧ TDs K H xs (wss.map eWds) ∧ Args (tabKs c.ks) f.params wss ∧ wss.length ≤ 6 ∧ ∀ H', Ext [] H H' → Q .non H'
def r_need_limit : List V → Hp → VK → Prop := fun vs H Q => ∃ (n : Nat), vs = [.int ((n : Nat) : Int), .int 1000000] ∧ n ≤ 1000000 ∧ Q .non H
theorem Args.at_ {es : Tab} {ks : List Str} {wss : List (List Wd)} (a : Args es ks wss) : ∀ {i : Nat} {k : Str}, ks[i]? = some k → ∃ ws, wss[i]? = some ws ∧ Fits es [k] ws ∧ ws.length ≤ 400 := by
  induction a with
  | nil => intro i k h; cases h
  | cons f hl _ ih =>
    intro i k h
    cases i with
    | zero => cases h; exact ⟨_, rfl, f, hl⟩
    | succ i => exact ih (by simpa using h)
section
variable {P : Program} {w : World} {K : PySem.W.Frag} {mg : Str → Option Value} {base : Heap}
abbrev N_take_words : List Str := ["core", "kind", "words", "at", "makers", "due", "wanted", "word", "of_kind", "index", "fields"]
theorem sc_take_words : FnScope ["core", "kind", "words", "at", "makers", "due", "wanted", "word", "of_kind", "index", "fields"] ["core", "kind", "words", "at"] (defScope s_take_words) := ⟨rfl, rfl, rfl, by decide +kernel, rfl, by decide +kernel, by decide +kernel⟩
theorem c_take_words (T : Txt w K mg) : Cal P w K mg base 2 "take_words" (spN 4 (r_take_words K)) [] := by
  obtain ⟨fd, F⟩ := T.f_take_words
  refine cal_mk F T.m_take_words (fun _ _ _ _ _ _ us hl => match us, hl with | [_, _, _, _], _ => rfl) sc_take_words (fun _ _ _ _ h => h.1) (fun cdv A outer s H vs Q E hr h => ?_)
  have hu := hu_of hr
  have hul := hul_of hr
  obtain ⟨_, c, v, kind, a, ws, rfl, hv, o, hs, hF, hl, k⟩ := h
  obtain ⟨ca, v1, v2, rfl, hca, t1, t2⟩ := hv.two
  refine ⟨_, (pss_cons (ps_set (i := 4) sc_take_words.nd rfl (by first | exact Or.inl rfl | exact Or.inr rfl) (pe_c (c_maker_table T) hr (by decide) (by rfl) (pa_cons (pe_ix (ix_tupK (K := K) rfl) (pv 0) (pe_int) (fun _ _ => rfl)) pa_nil)))
      (pss_cons (ps_set (i := 5) sc_take_words.nd rfl (by first | exact Or.inl rfl | exact Or.inr rfl) (pe_lst (pa_cons (pv 1) pa_nil)))
      (pss_cons (ps_while PassesOwn.never (pt_cmpR op_gt (pe_callB (call_lenK (K := K) rfl) (by rfl) T.b_len bt_len (pa_cons (pv 5) pa_nil)) (pe_int) (nomark _)) (pss_cons (ps_if (pt_cmpR op_ge (pv 3) (pe_callB (call_lenK (K := K) rfl) (by rfl) T.b_len bt_len (pa_cons (pv 2) pa_nil)) (nomark _)) (pss_one (ps_ret (pe_un un_neg (pe_int)))) (pss_nil))
      (pss_cons (ps_set (i := 6) sc_take_words.nd rfl (by first | exact Or.inl rfl | exact Or.inr rfl) (pe_bm0 PySem.F.plainAttrs_list PySem.F.slot_list_pop PySem.F.type_list_pop mt_pop (pv 5)))
      (pss_cons (ps_set (i := 7) sc_take_words.nd rfl (by first | exact Or.inl rfl | exact Or.inr rfl) (pe_ix (ix_tupK (K := K) rfl) (pv 2) (pv 3) (fun _ _ => rfl)))
      (pss_cons (ps_aug (i := 3) sc_take_words.nd rfl (by first | exact Or.inl rfl | exact Or.inr rfl) (pe_int) ip_add)
      (pss_cons (ps_if (pt_cmpR op_eq (pv 6) (pe_str) (nomark _)) (pss_cons (ps_if (pt_not (pt_val (pe_c (c_is_int T) hr (by decide) (by rfl) (pa_cons (pv 7) pa_nil)))) (pss_one (ps_ret (pe_un un_neg (pe_int)))) (pss_nil))
      (pss_one (ps_continue))) (pss_nil))
      (pss_cons (ps_if (PW.pt (pw_or (pt_not (pt_val (pe_callB call_isi1 (by rfl) T.b_isinstance bt_isinstance (pa_cons (pv 7) (pa_cons (pe_bltn (v := .ty "str") (by rfl) T.b_str bt_str rfl) pa_nil))))) (pw_or1 (pt_cmp (pc_dnotin hu (pv 7) (pv 4)))))) (pss_one (ps_ret (pe_un un_neg (pe_int)))) (pss_nil))
      (pss_cons (ps_asg (pe_dget hu (pv 4) (pv 7) (fun _ _ => rfl)) (pg_tupK (K := K) (n := 3) rfl rfl (pgs_cons (pg_name (i := 8) sc_take_words.nd rfl (by first | exact Or.inl rfl | exact Or.inr rfl)) (pgs_cons (pg_name (i := 9) sc_take_words.nd rfl (by first | exact Or.inl rfl | exact Or.inr rfl)) (pgs_cons (pg_name (i := 10) sc_take_words.nd rfl (by first | exact Or.inl rfl | exact Or.inr rfl)) pgs_nil)))))
      (pss_cons (ps_if (pt_cmpR op_ne (pv 8) (pv 6) (nomark _)) (pss_one (ps_ret (pe_un un_neg (pe_int)))) (pss_nil))
      (pss_one (ps_expr (pe_bm PySem.F.plainAttrs_list PySem.F.slot_list_extend PySem.F.type_list_extend mt_extendT (pv 5) (pa_cons (pe_revT (pv 10)) pa_nil)))))))))))))
      (pss_one (ps_ret (pv 3)))))), ?_⟩
  refine ⟨_, rfl, ca, _, _, _, rfl, rfl, hca, rfl, rfl, v1, c.ks, rfl, t1, o, fun H1 mt e1 hmt M => ?_⟩
  obtain ⟨kvs, hm, m2, m3, m4⟩ := id M
  refine ⟨_, rfl, by show 1 ≤ sizeLine; decide, fun du hdu => ?_⟩
  have e2 : Ext [] H1 (upd H1 du (.lst [.str kind])) := Ext.new hdu
  have g2 : (upd H1 du (.lst [.str kind])) du = some (.lst (stkS [kind])) := upd_same
  have fd_ : H1 du = none := hdu
  generalize hH2 : upd H1 du (.lst [.str kind]) = H2 at *
  refine ⟨fun m σ H' => Ext [] H1 H' ∧ ∃ (i : Nat) (y6 y7 y8 y9 y10 : Option V) (due : List Str), i ≤ ws.length ∧ m = ws.length - i ∧ σ = [some (.ref ca), some (.str kind), some (.ref a), some (.int ((i : Nat) : Int)), some (.ref mt), some (.ref du), y6, y7, y8, y9, y10] ∧ H' du = some (.lst (stkS due)) ∧ Fits (tabKs c.ks) due (ws.drop i),
    ⟨ws.length, e2, 0, _, _, _, _, _, [kind], Nat.zero_le _, rfl, rfl, g2, hF⟩, ?_⟩
  rintro m σ H3 ⟨e3, i, y6, y7, y8, y9, y10, due, hi, hm', rfl, gd, hf⟩
  have f3 := e1.trans e3
  have hs3 := f3.sqt hs
  refine ⟨_, rfl, du, _, rfl, .inl (SqL.of gd), _, _, rfl, rfl, _, rfl, ?_⟩
  rw [stkS_len]
  cases due with
  | nil =>
    have hie : i = ws.length := by
      cases hd : ws.drop i with
      | nil => have := congrArg List.length hd; rw [List.length_drop] at this; simp at this; omega
      | cons x r => rw [hd] at hf; cases hf
    subst hie
    rw [decide_eq_false (by decide)]
    refine iteF ⟨_, rfl, ?_⟩
    exact k H3 f3
  | cons wk due =>
    have hle := hf.le
    have hlt : i < ws.length := by rw [List.length_drop, List.length_cons] at hle; omega
    obtain ⟨wd, hwd⟩ : ∃ wd, ws[i]? = some wd := ⟨_, List.getElem?_eq_getElem hlt⟩
    have hdr : ws.drop i = wd :: ws.drop (i + 1) := by
      rw [List.drop_eq_getElem_cons hlt]
      congr 1
      exact (List.getElem?_eq_some_iff.mp hwd).2
    have hx : (ws.map vWd)[i]? = some (vWd wd) := by rw [List.getElem?_map, hwd]; rfl
    rw [hdr] at hf
    rw [decide_eq_true (by rw [List.length_cons]; omega)]
    refine iteT ⟨fun σ' H' => ∃ m', m' < m ∧ _, fun _ _ h => h, ?_⟩
    refine ⟨_, rfl, _, rfl, a, _, rfl, .inr hs3, _, _, rfl, rfl, _, rfl, ?_⟩
    rw [List.length_map, decide_eq_false (show ¬ ((ws.length : Nat) : Int) ≤ ((i : Nat) : Int) by omega)]
    refine iteF ?_
    refine ⟨_, rfl, .inl ⟨rfl, _, SqL.of gd⟩, du, _, .str wk, rfl, rfl, gd, stkS_pop _ _, ?_⟩
    rw [stkS_drop]
    have k4 : KeepT H3 (upd H3 du (.lst (stkS due))) := KeepT.upd (not_tup_lst gd)
    have e4 := e3.mut (o := .lst (stkS due)) fd_
    have gd4 : (upd H3 du (.lst (stkS due))) du = some (.lst (stkS due)) := upd_same
    generalize hH4 : upd H3 du (.lst (stkS due)) = H4 at *
    have f4 := e1.trans e4
    refine ⟨_, rfl, _, rfl, a, _, _, _, rfl, rfl, f4.sqt hs, ix_nat hx, ?_⟩
    have S4 : ∀ (σ : L2.St) (H : Hp), True := fun _ _ => trivial
    have hi1 : ((i : Nat) : Int) + 1 = ((i + 1 : Nat) : Int) := by omega
    cases wd with
    | num j =>
      show gName 7 (V.int j) _ _ _
      cases hf with
      | num hf =>
        refine ⟨_, rfl, _, _, rfl, rfl, ?_⟩
        refine ⟨_, rfl, rfl, _, rfl, ?_⟩
        rw [decide_eq_true rfl]
        refine iteT ⟨_, rfl, rfl, j, rfl, true, rfl, iteF ?_⟩
        exact ⟨ws.length - (i + 1), by omega, e4, i + 1, _, _, _, _, _, due, by omega, rfl, rfl, gd4, hf⟩
    | mk z =>
      show gName 7 (V.str z) _ _ _
      cases hf with
      | mk he hf =>
        rename_i n fs
        have hkn := tabKs_kind he
        have hnw : wk ≠ "whole" := fun q => whole_no o (by rw [← q]; exact hkn)
        obtain ⟨tt, ff, hv', ht, hff⟩ := m4 _ he
        have gm4 := e4 _ _ hm (fun m => nomatch m)
        refine ⟨_, rfl, _, _, rfl, rfl, ?_⟩
        refine ⟨_, rfl, rfl, _, rfl, ?_⟩
        rw [decide_eq_false (fun q => hnw (V.str.inj q))]
        refine iteF ?_
        refine ⟨_, rfl, _, _, _, rfl, isi_str (b := true), true, rfl, iteF ?_⟩
        refine ⟨_, rfl, _, rfl, mt, _, rfl, DGet.k (k := .inr z) gm4, _, rfl, ?_⟩
        rw [hv']
        refine iteF ?_
        refine ⟨_, rfl, _, rfl, mt, .ref tt, rfl, ?_, tt, _, rfl, e4.sqt ht, rfl, _, _, rfl, _, _, rfl, _, _, rfl, rfl, ?_⟩
        · have := DGet.k (k := .inr z) gm4
          rw [hv'] at this
          exact this
        refine ⟨_, rfl, _, rfl, rfl, _, rfl, ?_⟩
        rw [decide_eq_true rfl]
        refine iteF ?_
        have hsq := e4.sqt hff
        have hfl : fs.length ≤ 5 := flds5 o _ he
        refine ⟨_, rfl, .inl ⟨rfl, _, SqL.of gd4⟩, _, rfl, ff, _, rfl, hsq, fun tr htr => ?_⟩
        have eR : Ext [] H4 (upd H4 tr (.tup (fs.map V.str).reverse)) := Ext.new htr
        have gR : (upd H4 tr (.tup (fs.map V.str).reverse)) tr = some (.tup (fs.map V.str).reverse) := upd_same
        have gd5 := eR _ _ gd4 (fun m => nomatch m)
        refine ⟨du, tr, _, _, rfl, rfl, gd5, SqT.of gR, by rw [stkS_len, List.length_reverse, List.length_map]; rw [List.length_drop, List.length_cons] at hle; exact sz (by omega), ?_⟩
        rw [stkS_app]
        exact ⟨ws.length - (i + 1), by omega, (e4.trans eR).mut fd_, i + 1, _, _, _, _, _, fs ++ due, by omega, rfl, rfl, upd_same, hf⟩
abbrev N_is_words : List Str := ["core", "kind", "thing", "most"]
theorem sc_is_words : FnScope ["core", "kind", "thing", "most"] ["core", "kind", "thing", "most"] (defScope s_is_words) := ⟨rfl, rfl, rfl, by decide +kernel, rfl, by decide +kernel, by decide +kernel⟩
theorem c_is_words (T : Txt w K mg) : Cal P w K mg base 3 "is_words" (spN 4 (r_is_words K)) [] := by
  obtain ⟨fd, F⟩ := T.f_is_words
  refine cal_mk F T.m_is_words (fun _ _ _ _ _ _ us hl => match us, hl with | [_, _, _, _], _ => rfl) sc_is_words (fun _ _ _ _ h => h.1) (fun cdv A outer s H vs Q E hr h => ?_)
  have hu := hu_of hr
  have hul := hul_of hr
  obtain ⟨_, c, v, u, kind, ws, rfl, hv, o, tu, hF, hl, k⟩ := h
  obtain ⟨a, rfl, ha⟩ := sqt_vI tu
  refine ⟨_, (pss_cons (ps_if (PW.pt (pw_or (pt_not (pt_val (pe_callB call_isi1 (by rfl) T.b_isinstance bt_isinstance (pa_cons (pv 2) (pa_cons (pe_bltn (v := .ty "tuple") (by rfl) T.b_tuple bt_tuple rfl) pa_nil))))) (pw_or1 (pt_cmpR op_gt (pe_callB (call_lenK (K := K) rfl) (by rfl) T.b_len bt_len (pa_cons (pv 2) pa_nil)) (pv 3) (nomark _))))) (pss_one (ps_ret (pe_bl))) (pss_nil))
      (pss_one (ps_ret (pe_cmpR op_eq (pe_c (c_take_words T) hr (by decide) (by rfl) (pa_cons (pv 0) (pa_cons (pv 1) (pa_cons (pv 2) (pa_cons (pe_int) pa_nil))))) (pe_callB (call_lenK (K := K) rfl) (by rfl) T.b_len bt_len (pa_cons (pv 2) pa_nil)) (nomark _))))), ?_⟩
  refine ⟨_, rfl, _, _, _, rfl, isi_tup ha (b := true), true, rfl, iteF ?_⟩
  refine ⟨_, rfl, a, _, rfl, .inr ha, _, rfl, _, _, rfl, rfl, _, rfl, ?_⟩
  rw [List.length_map, decide_eq_false (show ¬ (400 : Int) < ((ws.length : Nat) : Int) by omega)]
  refine iteF ?_
  refine ⟨_, rfl, _, rfl, _, rfl, rfl, c, v, kind, a, ws, rfl, hv, o, ha, hF, hl, fun H1 e1 => ?_⟩
  refine ⟨_, rfl, a, _, rfl, .inr (e1.sqt ha), rfl, ?_⟩
  rw [List.length_map, decide_eq_true rfl]
  exact k H1 e1
abbrev N_need_args : List Str := ["core", "function", "args", "params", "kind", "one"]
theorem sc_need_args : FnScope ["core", "function", "args", "params", "kind", "one"] ["core", "function", "args"] (defScope s_need_args) := ⟨rfl, rfl, rfl, by decide +kernel, rfl, by decide +kernel, by decide +kernel⟩
theorem c_need_args (T : Txt w K mg) : Cal P w K mg base 4 "need_args" (spN 3 (r_need_args K)) [] := by
  obtain ⟨fd, F⟩ := T.f_need_args
  refine cal_mk F T.m_need_args (fun _ _ _ _ _ _ us hl => match us, hl with | [_, _, _], _ => rfl) sc_need_args (fun _ _ _ _ h => h.1) (fun cdv A outer s H vs Q E hr h => ?_)
  have hu := hu_of hr
  have hul := hul_of hr
  obtain ⟨_, c, v, fv, f, a, xs, wss, rfl, hv, o, hf, ha, ts, A_, hw6, k⟩ := h
  obtain ⟨b, v1, v2, v3, v4, rfl, hb, t1, t2, t3, t4⟩ := hf.four
  obtain ⟨pa, rfl, hpa⟩ := t2.strs
  have hlw := A_.len
  have hlen : xs.length = f.params.length := by rw [ts.length, List.length_map, hlw]
  refine ⟨_, (pss_cons (ps_set (i := 3) sc_need_args.nd rfl (by first | exact Or.inl rfl | exact Or.inr rfl) (pe_ix (ix_tupK (K := K) rfl) (pv 1) (pe_int) (fun _ _ => rfl)))
      (pss_cons (ps_if (PW.pt (pw_or (pt_not (pt_val (pe_callB call_isi1 (by rfl) T.b_isinstance bt_isinstance (pa_cons (pv 2) (pa_cons (pe_bltn (v := .ty "tuple") (by rfl) T.b_tuple bt_tuple rfl) pa_nil))))) (pw_or1 (pt_cmpR op_ne (pe_callB (call_lenK (K := K) rfl) (by rfl) T.b_len bt_len (pa_cons (pv 2) pa_nil)) (pe_callB (call_lenK (K := K) rfl) (by rfl) T.b_len bt_len (pa_cons (pv 3) pa_nil)) (nomark _))))) (pss_one (ps_never)) (pss_nil))
      (pss_one (ps_for PassesOwn.never rfl (RZ.pi_zipA (by rfl) T.b_zip (pa_cons (pv 3) (pa_cons (pv 2) pa_nil))) (pg_tupK (K := K) (n := 2) rfl rfl (pgs_cons (pg_name (i := 4) sc_need_args.nd rfl (by first | exact Or.inl rfl | exact Or.inr rfl)) (pgs_cons (pg_name (i := 5) sc_need_args.nd rfl (by first | exact Or.inl rfl | exact Or.inr rfl)) pgs_nil)))
        (pss_one (ps_if (pt_not (pt_val (pe_c (c_is_words T) hr (by decide) (by rfl) (pa_cons (pv 0) (pa_cons (pv 4) (pa_cons (pv 5) (pa_cons (pe_gc (by rfl) T.g_MOST_GIVEN) pa_nil))))))) (pss_one (ps_never)) (pss_nil))))))), ?_⟩
  refine ⟨_, rfl, b, _, _, _, rfl, rfl, hb, rfl, ?_⟩
  refine ⟨_, rfl, _, _, _, rfl, isi_tup ha (b := true), true, rfl, iteF ?_⟩
  refine ⟨_, rfl, a, _, rfl, .inr ha, _, rfl, pa, _, rfl, .inr hpa, rfl, _, rfl, ?_⟩
  rw [List.length_map, hlen, deqq rfl]
  refine iteF ?_
  refine ⟨_, rfl, _, rfl, pa, a, _, _, rfl, .inr ⟨hpa, ha, ?_⟩⟩
  refine RZ.for_zipT (xs := f.params.map V.str) (ys := xs) (by rw [List.length_map, hlen]) (fun i σ H' => Ext [] H H' ∧ ∃ y4 y5, σ = [some v, some (.ref b), some (.ref a), some (.ref pa), y4, y5]) ⟨Ext.refl H, _, _, rfl⟩ (fun i σ H' q => ⟨q.1.sqt hpa, q.1.sqt ha⟩) ?_ ?_
  · rintro i x y T0 σ H1 hx hy ⟨e1, y4, y5, rfl⟩ hT
    obtain ⟨z, hz, rfl⟩ : ∃ z, f.params[i]? = some z ∧ x = .str z := by
      rw [List.getElem?_map] at hx
      cases q : f.params[i]? with
      | none => rw [q] at hx; cases hx
      | some z => rw [q] at hx; exact ⟨z, rfl, (Option.some.inj hx).symm⟩
    obtain ⟨ws, hws, hF, hl⟩ := A_.at_ hz
    obtain ⟨y', hy', ty⟩ := TD.at_ (a := a) ts hws
    have : y = y' := Option.some.inj (hy.symm.trans hy')
    subst this
    have eT : Ext [] H1 (upd H1 T0 (.tup [.str z, y])) := Ext.new hT
    have e2 := e1.trans eT
    refine ⟨T0, _, rfl, SqT.of upd_same, rfl, _, _, rfl, _, _, rfl, rfl, ?_⟩
    refine ⟨_, rfl, _, rfl, _, rfl, rfl, c, v, y, z, ws, rfl, hv.keep e2.keep0, o, ty.keep e2.keep0, hF, hl, fun H2 e3 => ⟨true, rfl, iteF ?_⟩⟩
    exact ⟨e2.trans e3, _, _, rfl⟩
  · rintro σ H1 ⟨e1, y4, y5, rfl⟩
    exact k H1 e1
abbrev N_need_limit : List Str := ["limit", "most"]
theorem sc_need_limit : FnScope ["limit", "most"] ["limit", "most"] (defScope s_need_limit) := ⟨rfl, rfl, rfl, by decide +kernel, rfl, by decide +kernel, by decide +kernel⟩
theorem c_need_limit (T : Txt w K mg) : Cal P w K mg base 3 "need_limit" (spN 2 (r_need_limit)) [] := by
  obtain ⟨fd, F⟩ := T.f_need_limit
  refine cal_mk F T.m_need_limit (fun _ _ _ _ _ _ us hl => match us, hl with | [_, _], _ => rfl) sc_need_limit (fun _ _ _ _ h => h.1) (fun cdv A outer s H vs Q E hr h => ?_)
  have hu := hu_of hr
  have hul := hul_of hr
  obtain ⟨_, n, rfl, hn, k⟩ := h
  refine ⟨_, (pss_one (ps_if (pt_not (pt_val (pe_c (c_within T) hr (by decide) (by rfl) (pa_cons (pv 0) (pa_cons (pe_int) (pa_cons (pv 1) pa_nil)))))) (pss_one (ps_never)) (pss_nil))), ?_⟩
  refine ⟨_, rfl, _, rfl, rfl, _, _, _, rfl, _, rfl, ?_⟩
  rw [decide_eq_true (show (0 : Int) ≤ ((n : Nat) : Int) by omega), decide_eq_true (show ((n : Nat) : Int) ≤ 1000000 by omega)]
  refine iteF ?_
  exact k
end
end K47

set_option Elab.async false
set_option linter.all false
set_option maxRecDepth 100000
set_option maxHeartbeats 4000000
namespace K47
open PySem PySem.Spec PyProof.Rows L2
open C8 hiding CX0 E0
/-! the machine object -/
structure MFx where
  dx : Addr
  st : Addr
  cv : Addr
  rg : Addr
  hp : Addr
  sk : Addr
  pa : Addr
abbrev CM (K : PySem.W.Frag) : Addr := He.ga K "Machine"
def mfs (F : MFx) (ov : Bool) (n w t : Nat) : List (Str × V) :=
  [("starts", .ref F.st), ("code", .ref F.cv), ("registers", .ref F.rg), ("heap", .ref F.hp), ("stack", .ref F.sk), ("passed", .ref F.pa), ("over", .bl ov), ("steps", .int (n : Nat)), ("words", .int (w : Nat)), ("top", .int (t : Nat))]
def vN (l : List Nat) : List V := l.map fun n : Nat => V.int (n : Nat)
structure MAt (K : PySem.W.Frag) (H0 H : Hp) (p : Addr) (g : Img) (F : MFx) (m : MS) (n : Nat) (ps : List Nat) (ov : Bool) : Prop where
  e : Ext [] H0 H
  p0 : H0 p = none
  r0 : H0 F.rg = none
  h0 : H0 F.hp = none
  s0 : H0 F.sk = none
  a0 : H0 F.pa = none
  ob : H p = some (.ins (CM K) F.dx (mfs F ov n m.words m.top))
  cd : ∃ xs, SqT K H F.cv xs ∧ TDs K H xs (g.code.map eIns)
  st : ∃ kvs : List (Key × V), H F.st = some (.dK kvs) ∧ ∀ f ∈ g.names, valV kvs (.inr f) = some (.int ((addrOf g f : Nat) : Int))
  rg : H F.rg = some (.lst (vI m.regs))
  r8 : m.regs.length = 8
  hp : H F.hp = some (.lst (vI m.heap))
  sk : H F.sk = some (.lst (vI m.stack))
  pa : H F.pa = some (.lst (vN ps))
  n1 : F.rg ≠ F.hp
  n2 : F.rg ≠ F.sk
  n3 : F.rg ≠ F.pa
  n4 : F.hp ≠ F.sk
  n5 : F.hp ≠ F.pa
  n6 : F.sk ≠ F.pa
section
variable {K : PySem.W.Frag} {H0 H : Hp} {p : Addr} {g : Img} {F : MFx} {m : MS} {n : Nat} {ps : List Nat} {ov : Bool}
theorem MAt.ext {H' : Hp} (M : MAt K H0 H p g F m n ps ov) (e : Ext [] H H') : MAt K H0 H' p g F m n ps ov := by
  obtain ⟨a1, a2, a3, a4, a5, a6, a7, ⟨xs, a8, a9⟩, ⟨kvs, b1, b2⟩, c1, c2, c3, c4, c5, d1, d2, d3, d4, d5, d6⟩ := M
  exact ⟨a1.trans e, a2, a3, a4, a5, a6, e _ _ a7 (fun m => nomatch m), ⟨xs, e.sqt a8, a9.keep e.keep0⟩, ⟨kvs, e _ _ b1 (fun m => nomatch m), b2⟩, e _ _ c1 (fun m => nomatch m), c2, e _ _ c3 (fun m => nomatch m), e _ _ c4 (fun m => nomatch m), e _ _ c5 (fun m => nomatch m), d1, d2, d3, d4, d5, d6⟩
theorem MAt.regs (M : MAt K H0 H p g F m n ps ov) (l : List Int) (h8 : l.length = 8) : MAt K H0 (upd H F.rg (.lst (vI l))) p g F { m with regs := l } n ps ov := by
  obtain ⟨a1, a2, a3, a4, a5, a6, a7, ⟨xs, a8, a9⟩, ⟨kvs, b1, b2⟩, c1, c2, c3, c4, c5, d1, d2, d3, d4, d5, d6⟩ := M
  have k : KeepT H (upd H F.rg (.lst (vI l))) := KeepT.upd (not_tup_lst c1)
  refine ⟨a1.mut a3, a2, a3, a4, a5, a6, (upd_ne fun q => ?_).trans a7, ⟨xs, k.sq a8, a9.keep k⟩, ⟨kvs, (upd_ne fun q => ?_).trans b1, b2⟩, upd_same, h8, (upd_ne d1.symm).trans c3, (upd_ne d2.symm).trans c4, (upd_ne d3.symm).trans c5, d1, d2, d3, d4, d5, d6⟩
  · rw [q, c1] at a7
    cases a7
  · rw [q, c1] at b1
    cases b1
theorem MAt.heap (M : MAt K H0 H p g F m n ps ov) (l : List Int) : MAt K H0 (upd H F.hp (.lst (vI l))) p g F { m with heap := l } n ps ov := by
  obtain ⟨a1, a2, a3, a4, a5, a6, a7, ⟨xs, a8, a9⟩, ⟨kvs, b1, b2⟩, c1, c2, c3, c4, c5, d1, d2, d3, d4, d5, d6⟩ := M
  have k : KeepT H (upd H F.hp (.lst (vI l))) := KeepT.upd (not_tup_lst c3)
  refine ⟨a1.mut a4, a2, a3, a4, a5, a6, (upd_ne fun q => ?_).trans a7, ⟨xs, k.sq a8, a9.keep k⟩, ⟨kvs, (upd_ne fun q => ?_).trans b1, b2⟩, (upd_ne d1).trans c1, c2, upd_same, (upd_ne d4.symm).trans c4, (upd_ne d5.symm).trans c5, d1, d2, d3, d4, d5, d6⟩
  · rw [q, c3] at a7
    cases a7
  · rw [q, c3] at b1
    cases b1
theorem MAt.stack (M : MAt K H0 H p g F m n ps ov) (l : List Int) : MAt K H0 (upd H F.sk (.lst (vI l))) p g F { m with stack := l } n ps ov := by
  obtain ⟨a1, a2, a3, a4, a5, a6, a7, ⟨xs, a8, a9⟩, ⟨kvs, b1, b2⟩, c1, c2, c3, c4, c5, d1, d2, d3, d4, d5, d6⟩ := M
  have k : KeepT H (upd H F.sk (.lst (vI l))) := KeepT.upd (not_tup_lst c4)
  refine ⟨a1.mut a5, a2, a3, a4, a5, a6, (upd_ne fun q => ?_).trans a7, ⟨xs, k.sq a8, a9.keep k⟩, ⟨kvs, (upd_ne fun q => ?_).trans b1, b2⟩, (upd_ne d2).trans c1, c2, (upd_ne d4).trans c3, upd_same, (upd_ne d6.symm).trans c5, d1, d2, d3, d4, d5, d6⟩
  · rw [q, c4] at a7
    cases a7
  · rw [q, c4] at b1
    cases b1
theorem MAt.pass (M : MAt K H0 H p g F m n ps ov) (l : List Nat) : MAt K H0 (upd H F.pa (.lst (vN l))) p g F m n l ov := by
  obtain ⟨a1, a2, a3, a4, a5, a6, a7, ⟨xs, a8, a9⟩, ⟨kvs, b1, b2⟩, c1, c2, c3, c4, c5, d1, d2, d3, d4, d5, d6⟩ := M
  have k : KeepT H (upd H F.pa (.lst (vN l))) := KeepT.upd (not_tup_lst c5)
  refine ⟨a1.mut a6, a2, a3, a4, a5, a6, (upd_ne fun q => ?_).trans a7, ⟨xs, k.sq a8, a9.keep k⟩, ⟨kvs, (upd_ne fun q => ?_).trans b1, b2⟩, (upd_ne d3).trans c1, c2, (upd_ne d5).trans c3, (upd_ne d6).trans c4, upd_same, d1, d2, d3, d4, d5, d6⟩
  · rw [q, c5] at a7
    cases a7
  · rw [q, c5] at b1
    cases b1
theorem MAt.obj (M : MAt K H0 H p g F m n ps ov) (ov' : Bool) (n' w' t' : Nat) : MAt K H0 (upd H p (.ins (CM K) F.dx (mfs F ov' n' w' t'))) p g F { m with words := w', top := t' } n' ps ov' := by
  obtain ⟨a1, a2, a3, a4, a5, a6, a7, ⟨xs, a8, a9⟩, ⟨kvs, b1, b2⟩, c1, c2, c3, c4, c5, d1, d2, d3, d4, d5, d6⟩ := M
  have k : KeepT H (upd H p (.ins (CM K) F.dx (mfs F ov' n' w' t'))) := KeepT.upd (not_tup_ins a7)
  refine ⟨a1.mut a2, a2, a3, a4, a5, a6, upd_same, ⟨xs, k.sq a8, a9.keep k⟩, ⟨kvs, (upd_ne fun q => ?_).trans b1, b2⟩, (upd_ne fun q => ?_).trans c1, c2, (upd_ne fun q => ?_).trans c3, (upd_ne fun q => ?_).trans c4, (upd_ne fun q => ?_).trans c5, d1, d2, d3, d4, d5, d6⟩
  · rw [q, a7] at b1
    cases b1
  · rw [q, a7] at c1
    cases c1
  · rw [q, a7] at c3
    cases c3
  · rw [q, a7] at c4
    cases c4
  · rw [q, a7] at c5
    cases c5
theorem MAt.kR (M : MAt K H0 H p g F m n ps ov) {o : HO} : KeepT H (upd H F.rg o) := KeepT.upd (not_tup_lst M.rg)
theorem MAt.kH (M : MAt K H0 H p g F m n ps ov) {o : HO} : KeepT H (upd H F.hp o) := KeepT.upd (not_tup_lst M.hp)
theorem MAt.kS (M : MAt K H0 H p g F m n ps ov) {o : HO} : KeepT H (upd H F.sk o) := KeepT.upd (not_tup_lst M.sk)
theorem MAt.kP (M : MAt K H0 H p g F m n ps ov) {o : HO} : KeepT H (upd H F.pa o) := KeepT.upd (not_tup_lst M.pa)
theorem MAt.kO (M : MAt K H0 H p g F m n ps ov) {o : HO} : KeepT H (upd H p o) := KeepT.upd (not_tup_ins M.ob)
end
theorem addrOf_eq {g : Img} (nd : g.names.Nodup) {s : Str × Nat} (h : s ∈ g.starts) : addrOf g s.1 = s.2 := by
  unfold addrOf
  cases q : g.starts.find? (fun x => decide (x.1 = s.1)) with
  | none =>
    have := List.find?_eq_none.mp q s h
    simp at this
  | some s' =>
    have h1 := List.mem_of_find?_eq_some q
    have h2 := List.find?_some q
    replace h2 : s'.1 = s.1 := of_decide_eq_true h2
    obtain ⟨i, hi⟩ := List.mem_iff_getElem?.mp h1
    obtain ⟨j, hj⟩ := List.mem_iff_getElem?.mp h
    have e1 : g.names[i]? = some s'.1 := by unfold Img.names; rw [List.getElem?_map, hi]; rfl
    have e2 : g.names[j]? = some s.1 := by unfold Img.names; rw [List.getElem?_map, hj]; rfl
    have hl := (List.getElem?_eq_some_iff.mp e1).1
    have hij : i = j := (List.getElem?_inj hl nd).mp (e1.trans (by rw [h2, e2]))
    subst hij
    rw [hi] at hj
    rw [Option.some.inj hj]
def r_MInit (K : PySem.W.Frag) : List V → Hp → VK → Prop := fun vs H Q => ∃ (H0 : Hp) (p dx ra ha : Addr) (v : V) (g : Img) (rg hp : List Int), vs = [.ref p, v, .ref ra, .ref ha] ∧ H p = some (.ins (CM K) dx []) ∧ Ext [] H0 H ∧ H0 p = none ∧ TD K H v (eImg g) ∧ ImgOk g ∧ H ra = some (.lst (vI rg)) ∧ H ha = some (.lst (vI hp)) ∧ rg.length = 8 ∧
  ∀ H' F, MAt K H0 H' p g F ⟨rg, hp, [], 0, 0⟩ 0 [] false → Q .non H'
section
variable {P : Program} {w : World} {K : PySem.W.Frag} {mg : Str → Option Value} {base : Heap}
abbrev N_Machine_init : List Str := ["self", "image", "registers", "heap", "name", "address"]
theorem sc_Machine_init : FnScope ["self", "image", "registers", "heap", "name", "address"] ["self", "image", "registers", "heap"] (defScope s_Machine_init) := ⟨rfl, rfl, rfl, by decide +kernel, rfl, by decide +kernel, by decide +kernel⟩
theorem k_Machine (T : Txt w K mg) : Mak P w K mg base 1 "Machine" (He.ga K "Machine") (spN 4 (r_MInit K)) [] := by
  obtain ⟨fd, F⟩ := T.f_Machine_init
  refine mak_mk F T.k_Machine T.m_Machine (fun _ _ _ _ _ _ us hl => match us, hl with | [_, _, _, _], _ => rfl) sc_Machine_init (fun _ _ _ _ h => h.1) (fun cdv A outer s H vs Q E hr h => ?_)
  have hu := hu_of hr
  have hul := hul_of hr
  obtain ⟨_, H0, p, dx, ra, ha, v, g, rg, hp, rfl, hob, e, p0, tv, o, hra, hha, h8, k⟩ := h
  have on := o.n
  obtain ⟨ia, v1, v2, rfl, hia, t1, t2⟩ := tv.two
  obtain ⟨sa, xs, rfl, hsa, ts⟩ := t1.open_
  obtain ⟨cv, ys, rfl, hcv, tc⟩ := t2.open_
  have hlen : xs.length = g.starts.length := by rw [ts.length, List.length_map]
  refine ⟨_, (pss_cons (ps_fld (pv 0) (pe_dc (own := [("name", 4), ("address", 5)]) rfl sc_Machine_init.nd (pi_tupK (K := K) rfl (pe_ix (ix_tupK (K := K) rfl) (pv 1) (pe_int) (fun _ _ => rfl))) (blkOk_by (N := N_Machine_init) (sc := defScope s_Machine_init) (by decide +kernel)) (fun _ _ _ _ _ => pg_tupK (K := K) (n := 2) rfl rfl (pgs_cons (pg_name (i := 4) sc_Machine_init.nd rfl (by first | exact Or.inl rfl | exact Or.inr rfl)) (pgs_cons (pg_name (i := 5) sc_Machine_init.nd rfl (by first | exact Or.inl rfl | exact Or.inr rfl)) pgs_nil))) (fun _ _ _ _ _ => pts_nil) (fun _ _ _ _ _ => pv 4) (fun _ _ _ _ _ => pv 5)) rfl)
      (pss_cons (ps_fld (pv 0) (pe_ix (ix_tupK (K := K) rfl) (pv 1) (pe_int) (fun _ _ => rfl)) rfl)
      (pss_cons (ps_fld (pv 0) (pe_callTy call_list_of (by rfl) T.b_list bt_list (pa_cons (pv 2) pa_nil)) rfl)
      (pss_cons (ps_fld (pv 0) (pe_callTy call_list_of (by rfl) T.b_list bt_list (pa_cons (pv 3) pa_nil)) rfl)
      (pss_cons (ps_fld (pv 0) (pe_lst (pa_nil)) rfl)
      (pss_cons (ps_fld (pv 0) (pe_lst (pa_nil)) rfl)
      (pss_cons (ps_fld (pv 0) (pe_bl) rfl)
      (pss_cons (ps_fld (pv 0) (pe_int) rfl)
      (pss_cons (ps_fld (pv 0) (pe_int) rfl)
      (pss_one (ps_fld (pv 0) (pe_int) rfl))))))))))), ?_⟩
  refine ⟨_, rfl, ia, _, _, _, rfl, rfl, hia, rfl, sa, rfl, ⟨_, hsa⟩, fun D hD => ?_⟩
  refine dc_tup (xs := xs) (fun i H' => Ext [] H H' ∧ ∃ kvs : List (Key × V), H' D = some (.dK kvs) ∧ kvs.length ≤ i ∧ ∀ f ∈ g.names.take i, valV kvs (.inr f) = some (.int ((addrOf g f : Nat) : Int)))
    ⟨Ext.new hD, [], upd_same, Nat.le_refl _, fun x hx => by simp at hx⟩ (fun i H' _ q => q.1.sqt hsa) ?_ ?_
  · rintro i x H1 hi ⟨f1, kvs, q1, q2, q3⟩
    obtain ⟨st, hst, td⟩ := TD.atV ts hi
    have hil : i < g.starts.length := (List.getElem?_eq_some_iff.mp hst).1
    obtain ⟨b, u1, u2, rfl, hb, s1, s2⟩ := (td.keep f1.keep0).two
    cases s1.str_
    cases s2.int_
    have hN : g.names[i]? = some st.1 := by unfold Img.names; rw [List.getElem?_map, hst]; rfl
    refine ⟨b, _, rfl, hb, rfl, _, _, rfl, _, _, rfl, rfl, ?_⟩
    refine ⟨rfl, tYes_ (iteT ?_)⟩
    refine ⟨_, rfl, _, rfl, kvs, .inr st.1, rfl, q1, szl (by omega), f1.mut hD, _, upd_same, ?_, fun f hf => ?_⟩
    · have := putK_len' kvs (.inr st.1) (.int ((st.2 : Nat) : Int))
      omega
    · rw [List.take_succ, hN] at hf
      rw [valV_put]
      split
      · rename_i q
        rw [Sum.inr.inj q, addrOf_eq o.nd (List.mem_of_getElem? hst)]
      · rename_i hne
        rcases List.mem_append.mp hf with q | q
        · exact q3 f q
        · exact absurd (congrArg Sum.inr (by simpa using q)) hne
  rintro H1 ⟨f1, kvs, q1, q2, q3⟩
  rw [hlen, show g.starts.length = g.names.length by simp [Img.names], List.take_length] at q3
  have e1 := e.trans f1
  have ob1 := f1 _ _ hob (fun m => nomatch m)
  refine ⟨_, rfl, p, _, dx, [], rfl, ob1, T.c_Machine, T.n_Machine_starts, (by show 0 < 1000; decide), ?_⟩
  have gstH1 := q1
  have xH1 := f1.sqt hcv
  have tcH1 := tc.keep f1.keep0
  have graH1 := f1 _ _ hra (fun m => nomatch m)
  have ghaH1 := f1 _ _ hha (fun m => nomatch m)
  have iaH1 := f1.sqt hia
  have obH1 := ob1
  have eH1 := e1
  have obH2 : (upd H1 p (.ins (CM K) dx (putF "starts" (.ref D) []))) p = some (.ins (CM K) dx [("starts", .ref D)]) := upd_same
  have eH2 := eH1.mut (o := .ins (CM K) dx (putF "starts" (.ref D) [])) p0
  have kH2 : KeepT H1 (upd H1 p (.ins (CM K) dx (putF "starts" (.ref D) []))) := KeepT.upd (not_tup_ins obH1)
  have gstH2 : (upd H1 p (.ins (CM K) dx (putF "starts" (.ref D) []))) D = some (.dK kvs) := (upd_ne fun q => by rw [q, obH1] at gstH1; cases gstH1).trans gstH1
  have graH2 : (upd H1 p (.ins (CM K) dx (putF "starts" (.ref D) []))) ra = some (.lst (vI rg)) := (upd_ne fun q => by rw [q, obH1] at graH1; cases graH1).trans graH1
  have ghaH2 : (upd H1 p (.ins (CM K) dx (putF "starts" (.ref D) []))) ha = some (.lst (vI hp)) := (upd_ne fun q => by rw [q, obH1] at ghaH1; cases ghaH1).trans ghaH1
  have xH2 := kH2.sq xH1
  have tcH2 := tcH1.keep kH2
  generalize hhH2 : upd H1 p (.ins (CM K) dx (putF "starts" (.ref D) [])) = H2 at *
  have iaH2 := kH2.sq iaH1
  refine ⟨_, rfl, ia, _, _, _, rfl, rfl, iaH2, rfl, _, rfl, p, _, dx, _, rfl, obH2, T.c_Machine, T.n_Machine_code, (by show 1 < 1000; decide), ?_⟩
  have obH3 : (upd H2 p (.ins (CM K) dx (putF "code" (.ref cv) [("starts", .ref D)]))) p = some (.ins (CM K) dx [("starts", .ref D), ("code", .ref cv)]) := upd_same
  have eH3 := eH2.mut (o := .ins (CM K) dx (putF "code" (.ref cv) [("starts", .ref D)])) p0
  have kH3 : KeepT H2 (upd H2 p (.ins (CM K) dx (putF "code" (.ref cv) [("starts", .ref D)]))) := KeepT.upd (not_tup_ins obH2)
  have gstH3 : (upd H2 p (.ins (CM K) dx (putF "code" (.ref cv) [("starts", .ref D)]))) D = some (.dK kvs) := (upd_ne fun q => by rw [q, obH2] at gstH2; cases gstH2).trans gstH2
  have graH3 : (upd H2 p (.ins (CM K) dx (putF "code" (.ref cv) [("starts", .ref D)]))) ra = some (.lst (vI rg)) := (upd_ne fun q => by rw [q, obH2] at graH2; cases graH2).trans graH2
  have ghaH3 : (upd H2 p (.ins (CM K) dx (putF "code" (.ref cv) [("starts", .ref D)]))) ha = some (.lst (vI hp)) := (upd_ne fun q => by rw [q, obH2] at ghaH2; cases ghaH2).trans ghaH2
  have xH3 := kH3.sq xH2
  have tcH3 := tcH2.keep kH3
  generalize hhH3 : upd H2 p (.ins (CM K) dx (putF "code" (.ref cv) [("starts", .ref D)])) = H3 at *
  refine ⟨_, rfl, ra, _, rfl, .inl (SqL.of graH3), fun r hr0 => ?_⟩
  have yH4 : Ext [] H3 (upd H3 r (.lst (vI rg))) := Ext.new hr0
  have grH4 : (upd H3 r (.lst (vI rg))) r = some (.lst (vI rg)) := upd_same
  have zr : H0 r = none := eH3.free hr0 (fun m => nomatch m)
  have obH4 := yH4 _ _ obH3 (fun m => nomatch m)
  have eH4 := eH3.trans yH4
  have gstH4 := yH4 _ _ gstH3 (fun m => nomatch m)
  have n_D_r : D ≠ r := ne_of_none gstH3 hr0
  have graH4 := yH4 _ _ graH3 (fun m => nomatch m)
  have n_ra_r : ra ≠ r := ne_of_none graH3 hr0
  have ghaH4 := yH4 _ _ ghaH3 (fun m => nomatch m)
  have n_ha_r : ha ≠ r := ne_of_none ghaH3 hr0
  have xH4 := yH4.sqt xH3
  have tcH4 := tcH3.keep yH4.keep0
  generalize hhH4 : upd H3 r (.lst (vI rg)) = H4 at *
  refine ⟨_, rfl, p, _, dx, _, rfl, obH4, T.c_Machine, T.n_Machine_registers, (by show 2 < 1000; decide), ?_⟩
  have obH5 : (upd H4 p (.ins (CM K) dx (putF "registers" (.ref r) [("starts", .ref D), ("code", .ref cv)]))) p = some (.ins (CM K) dx [("starts", .ref D), ("code", .ref cv), ("registers", .ref r)]) := upd_same
  have eH5 := eH4.mut (o := .ins (CM K) dx (putF "registers" (.ref r) [("starts", .ref D), ("code", .ref cv)])) p0
  have kH5 : KeepT H4 (upd H4 p (.ins (CM K) dx (putF "registers" (.ref r) [("starts", .ref D), ("code", .ref cv)]))) := KeepT.upd (not_tup_ins obH4)
  have gstH5 : (upd H4 p (.ins (CM K) dx (putF "registers" (.ref r) [("starts", .ref D), ("code", .ref cv)]))) D = some (.dK kvs) := (upd_ne fun q => by rw [q, obH4] at gstH4; cases gstH4).trans gstH4
  have graH5 : (upd H4 p (.ins (CM K) dx (putF "registers" (.ref r) [("starts", .ref D), ("code", .ref cv)]))) ra = some (.lst (vI rg)) := (upd_ne fun q => by rw [q, obH4] at graH4; cases graH4).trans graH4
  have ghaH5 : (upd H4 p (.ins (CM K) dx (putF "registers" (.ref r) [("starts", .ref D), ("code", .ref cv)]))) ha = some (.lst (vI hp)) := (upd_ne fun q => by rw [q, obH4] at ghaH4; cases ghaH4).trans ghaH4
  have grH5 : (upd H4 p (.ins (CM K) dx (putF "registers" (.ref r) [("starts", .ref D), ("code", .ref cv)]))) r = some (.lst (vI rg)) := (upd_ne fun q => by rw [q, obH4] at grH4; cases grH4).trans grH4
  have xH5 := kH5.sq xH4
  have tcH5 := tcH4.keep kH5
  generalize hhH5 : upd H4 p (.ins (CM K) dx (putF "registers" (.ref r) [("starts", .ref D), ("code", .ref cv)])) = H5 at *
  refine ⟨_, rfl, ha, _, rfl, .inl (SqL.of ghaH5), fun hq hq0 => ?_⟩
  have yH6 : Ext [] H5 (upd H5 hq (.lst (vI hp))) := Ext.new hq0
  have ghH6 : (upd H5 hq (.lst (vI hp))) hq = some (.lst (vI hp)) := upd_same
  have zhq : H0 hq = none := eH5.free hq0 (fun m => nomatch m)
  have obH6 := yH6 _ _ obH5 (fun m => nomatch m)
  have eH6 := eH5.trans yH6
  have gstH6 := yH6 _ _ gstH5 (fun m => nomatch m)
  have n_D_hq : D ≠ hq := ne_of_none gstH5 hq0
  have graH6 := yH6 _ _ graH5 (fun m => nomatch m)
  have n_ra_hq : ra ≠ hq := ne_of_none graH5 hq0
  have ghaH6 := yH6 _ _ ghaH5 (fun m => nomatch m)
  have n_ha_hq : ha ≠ hq := ne_of_none ghaH5 hq0
  have grH6 := yH6 _ _ grH5 (fun m => nomatch m)
  have n_r_hq : r ≠ hq := ne_of_none grH5 hq0
  have xH6 := yH6.sqt xH5
  have tcH6 := tcH5.keep yH6.keep0
  generalize hhH6 : upd H5 hq (.lst (vI hp)) = H6 at *
  refine ⟨_, rfl, p, _, dx, _, rfl, obH6, T.c_Machine, T.n_Machine_heap, (by show 3 < 1000; decide), ?_⟩
  have obH7 : (upd H6 p (.ins (CM K) dx (putF "heap" (.ref hq) [("starts", .ref D), ("code", .ref cv), ("registers", .ref r)]))) p = some (.ins (CM K) dx [("starts", .ref D), ("code", .ref cv), ("registers", .ref r), ("heap", .ref hq)]) := upd_same
  have eH7 := eH6.mut (o := .ins (CM K) dx (putF "heap" (.ref hq) [("starts", .ref D), ("code", .ref cv), ("registers", .ref r)])) p0
  have kH7 : KeepT H6 (upd H6 p (.ins (CM K) dx (putF "heap" (.ref hq) [("starts", .ref D), ("code", .ref cv), ("registers", .ref r)]))) := KeepT.upd (not_tup_ins obH6)
  have gstH7 : (upd H6 p (.ins (CM K) dx (putF "heap" (.ref hq) [("starts", .ref D), ("code", .ref cv), ("registers", .ref r)]))) D = some (.dK kvs) := (upd_ne fun q => by rw [q, obH6] at gstH6; cases gstH6).trans gstH6
  have graH7 : (upd H6 p (.ins (CM K) dx (putF "heap" (.ref hq) [("starts", .ref D), ("code", .ref cv), ("registers", .ref r)]))) ra = some (.lst (vI rg)) := (upd_ne fun q => by rw [q, obH6] at graH6; cases graH6).trans graH6
  have ghaH7 : (upd H6 p (.ins (CM K) dx (putF "heap" (.ref hq) [("starts", .ref D), ("code", .ref cv), ("registers", .ref r)]))) ha = some (.lst (vI hp)) := (upd_ne fun q => by rw [q, obH6] at ghaH6; cases ghaH6).trans ghaH6
  have grH7 : (upd H6 p (.ins (CM K) dx (putF "heap" (.ref hq) [("starts", .ref D), ("code", .ref cv), ("registers", .ref r)]))) r = some (.lst (vI rg)) := (upd_ne fun q => by rw [q, obH6] at grH6; cases grH6).trans grH6
  have ghH7 : (upd H6 p (.ins (CM K) dx (putF "heap" (.ref hq) [("starts", .ref D), ("code", .ref cv), ("registers", .ref r)]))) hq = some (.lst (vI hp)) := (upd_ne fun q => by rw [q, obH6] at ghH6; cases ghH6).trans ghH6
  have xH7 := kH7.sq xH6
  have tcH7 := tcH6.keep kH7
  generalize hhH7 : upd H6 p (.ins (CM K) dx (putF "heap" (.ref hq) [("starts", .ref D), ("code", .ref cv), ("registers", .ref r)])) = H7 at *
  refine ⟨Nat.zero_le _, fun sk hsk0 => ?_⟩
  have yH8 : Ext [] H7 (upd H7 sk (.lst [])) := Ext.new hsk0
  have gsH8 : (upd H7 sk (.lst [])) sk = some (.lst []) := upd_same
  have zsk : H0 sk = none := eH7.free hsk0 (fun m => nomatch m)
  have obH8 := yH8 _ _ obH7 (fun m => nomatch m)
  have eH8 := eH7.trans yH8
  have gstH8 := yH8 _ _ gstH7 (fun m => nomatch m)
  have n_D_sk : D ≠ sk := ne_of_none gstH7 hsk0
  have graH8 := yH8 _ _ graH7 (fun m => nomatch m)
  have n_ra_sk : ra ≠ sk := ne_of_none graH7 hsk0
  have ghaH8 := yH8 _ _ ghaH7 (fun m => nomatch m)
  have n_ha_sk : ha ≠ sk := ne_of_none ghaH7 hsk0
  have grH8 := yH8 _ _ grH7 (fun m => nomatch m)
  have n_r_sk : r ≠ sk := ne_of_none grH7 hsk0
  have ghH8 := yH8 _ _ ghH7 (fun m => nomatch m)
  have n_hq_sk : hq ≠ sk := ne_of_none ghH7 hsk0
  have xH8 := yH8.sqt xH7
  have tcH8 := tcH7.keep yH8.keep0
  generalize hhH8 : upd H7 sk (.lst []) = H8 at *
  refine ⟨_, rfl, p, _, dx, _, rfl, obH8, T.c_Machine, T.n_Machine_stack, (by show 4 < 1000; decide), ?_⟩
  have obH9 : (upd H8 p (.ins (CM K) dx (putF "stack" (.ref sk) [("starts", .ref D), ("code", .ref cv), ("registers", .ref r), ("heap", .ref hq)]))) p = some (.ins (CM K) dx [("starts", .ref D), ("code", .ref cv), ("registers", .ref r), ("heap", .ref hq), ("stack", .ref sk)]) := upd_same
  have eH9 := eH8.mut (o := .ins (CM K) dx (putF "stack" (.ref sk) [("starts", .ref D), ("code", .ref cv), ("registers", .ref r), ("heap", .ref hq)])) p0
  have kH9 : KeepT H8 (upd H8 p (.ins (CM K) dx (putF "stack" (.ref sk) [("starts", .ref D), ("code", .ref cv), ("registers", .ref r), ("heap", .ref hq)]))) := KeepT.upd (not_tup_ins obH8)
  have gstH9 : (upd H8 p (.ins (CM K) dx (putF "stack" (.ref sk) [("starts", .ref D), ("code", .ref cv), ("registers", .ref r), ("heap", .ref hq)]))) D = some (.dK kvs) := (upd_ne fun q => by rw [q, obH8] at gstH8; cases gstH8).trans gstH8
  have graH9 : (upd H8 p (.ins (CM K) dx (putF "stack" (.ref sk) [("starts", .ref D), ("code", .ref cv), ("registers", .ref r), ("heap", .ref hq)]))) ra = some (.lst (vI rg)) := (upd_ne fun q => by rw [q, obH8] at graH8; cases graH8).trans graH8
  have ghaH9 : (upd H8 p (.ins (CM K) dx (putF "stack" (.ref sk) [("starts", .ref D), ("code", .ref cv), ("registers", .ref r), ("heap", .ref hq)]))) ha = some (.lst (vI hp)) := (upd_ne fun q => by rw [q, obH8] at ghaH8; cases ghaH8).trans ghaH8
  have grH9 : (upd H8 p (.ins (CM K) dx (putF "stack" (.ref sk) [("starts", .ref D), ("code", .ref cv), ("registers", .ref r), ("heap", .ref hq)]))) r = some (.lst (vI rg)) := (upd_ne fun q => by rw [q, obH8] at grH8; cases grH8).trans grH8
  have ghH9 : (upd H8 p (.ins (CM K) dx (putF "stack" (.ref sk) [("starts", .ref D), ("code", .ref cv), ("registers", .ref r), ("heap", .ref hq)]))) hq = some (.lst (vI hp)) := (upd_ne fun q => by rw [q, obH8] at ghH8; cases ghH8).trans ghH8
  have gsH9 : (upd H8 p (.ins (CM K) dx (putF "stack" (.ref sk) [("starts", .ref D), ("code", .ref cv), ("registers", .ref r), ("heap", .ref hq)]))) sk = some (.lst []) := (upd_ne fun q => by rw [q, obH8] at gsH8; cases gsH8).trans gsH8
  have xH9 := kH9.sq xH8
  have tcH9 := tcH8.keep kH9
  generalize hhH9 : upd H8 p (.ins (CM K) dx (putF "stack" (.ref sk) [("starts", .ref D), ("code", .ref cv), ("registers", .ref r), ("heap", .ref hq)])) = H9 at *
  refine ⟨Nat.zero_le _, fun pa hpa0 => ?_⟩
  have yH10 : Ext [] H9 (upd H9 pa (.lst [])) := Ext.new hpa0
  have gpH10 : (upd H9 pa (.lst [])) pa = some (.lst []) := upd_same
  have zpa : H0 pa = none := eH9.free hpa0 (fun m => nomatch m)
  have obH10 := yH10 _ _ obH9 (fun m => nomatch m)
  have eH10 := eH9.trans yH10
  have gstH10 := yH10 _ _ gstH9 (fun m => nomatch m)
  have n_D_pa : D ≠ pa := ne_of_none gstH9 hpa0
  have graH10 := yH10 _ _ graH9 (fun m => nomatch m)
  have n_ra_pa : ra ≠ pa := ne_of_none graH9 hpa0
  have ghaH10 := yH10 _ _ ghaH9 (fun m => nomatch m)
  have n_ha_pa : ha ≠ pa := ne_of_none ghaH9 hpa0
  have grH10 := yH10 _ _ grH9 (fun m => nomatch m)
  have n_r_pa : r ≠ pa := ne_of_none grH9 hpa0
  have ghH10 := yH10 _ _ ghH9 (fun m => nomatch m)
  have n_hq_pa : hq ≠ pa := ne_of_none ghH9 hpa0
  have gsH10 := yH10 _ _ gsH9 (fun m => nomatch m)
  have n_sk_pa : sk ≠ pa := ne_of_none gsH9 hpa0
  have xH10 := yH10.sqt xH9
  have tcH10 := tcH9.keep yH10.keep0
  generalize hhH10 : upd H9 pa (.lst []) = H10 at *
  refine ⟨_, rfl, p, _, dx, _, rfl, obH10, T.c_Machine, T.n_Machine_passed, (by show 5 < 1000; decide), ?_⟩
  have obH11 : (upd H10 p (.ins (CM K) dx (putF "passed" (.ref pa) [("starts", .ref D), ("code", .ref cv), ("registers", .ref r), ("heap", .ref hq), ("stack", .ref sk)]))) p = some (.ins (CM K) dx [("starts", .ref D), ("code", .ref cv), ("registers", .ref r), ("heap", .ref hq), ("stack", .ref sk), ("passed", .ref pa)]) := upd_same
  have eH11 := eH10.mut (o := .ins (CM K) dx (putF "passed" (.ref pa) [("starts", .ref D), ("code", .ref cv), ("registers", .ref r), ("heap", .ref hq), ("stack", .ref sk)])) p0
  have kH11 : KeepT H10 (upd H10 p (.ins (CM K) dx (putF "passed" (.ref pa) [("starts", .ref D), ("code", .ref cv), ("registers", .ref r), ("heap", .ref hq), ("stack", .ref sk)]))) := KeepT.upd (not_tup_ins obH10)
  have gstH11 : (upd H10 p (.ins (CM K) dx (putF "passed" (.ref pa) [("starts", .ref D), ("code", .ref cv), ("registers", .ref r), ("heap", .ref hq), ("stack", .ref sk)]))) D = some (.dK kvs) := (upd_ne fun q => by rw [q, obH10] at gstH10; cases gstH10).trans gstH10
  have graH11 : (upd H10 p (.ins (CM K) dx (putF "passed" (.ref pa) [("starts", .ref D), ("code", .ref cv), ("registers", .ref r), ("heap", .ref hq), ("stack", .ref sk)]))) ra = some (.lst (vI rg)) := (upd_ne fun q => by rw [q, obH10] at graH10; cases graH10).trans graH10
  have ghaH11 : (upd H10 p (.ins (CM K) dx (putF "passed" (.ref pa) [("starts", .ref D), ("code", .ref cv), ("registers", .ref r), ("heap", .ref hq), ("stack", .ref sk)]))) ha = some (.lst (vI hp)) := (upd_ne fun q => by rw [q, obH10] at ghaH10; cases ghaH10).trans ghaH10
  have grH11 : (upd H10 p (.ins (CM K) dx (putF "passed" (.ref pa) [("starts", .ref D), ("code", .ref cv), ("registers", .ref r), ("heap", .ref hq), ("stack", .ref sk)]))) r = some (.lst (vI rg)) := (upd_ne fun q => by rw [q, obH10] at grH10; cases grH10).trans grH10
  have ghH11 : (upd H10 p (.ins (CM K) dx (putF "passed" (.ref pa) [("starts", .ref D), ("code", .ref cv), ("registers", .ref r), ("heap", .ref hq), ("stack", .ref sk)]))) hq = some (.lst (vI hp)) := (upd_ne fun q => by rw [q, obH10] at ghH10; cases ghH10).trans ghH10
  have gsH11 : (upd H10 p (.ins (CM K) dx (putF "passed" (.ref pa) [("starts", .ref D), ("code", .ref cv), ("registers", .ref r), ("heap", .ref hq), ("stack", .ref sk)]))) sk = some (.lst []) := (upd_ne fun q => by rw [q, obH10] at gsH10; cases gsH10).trans gsH10
  have gpH11 : (upd H10 p (.ins (CM K) dx (putF "passed" (.ref pa) [("starts", .ref D), ("code", .ref cv), ("registers", .ref r), ("heap", .ref hq), ("stack", .ref sk)]))) pa = some (.lst []) := (upd_ne fun q => by rw [q, obH10] at gpH10; cases gpH10).trans gpH10
  have xH11 := kH11.sq xH10
  have tcH11 := tcH10.keep kH11
  generalize hhH11 : upd H10 p (.ins (CM K) dx (putF "passed" (.ref pa) [("starts", .ref D), ("code", .ref cv), ("registers", .ref r), ("heap", .ref hq), ("stack", .ref sk)])) = H11 at *
  refine ⟨_, rfl, p, _, dx, _, rfl, obH11, T.c_Machine, T.n_Machine_over, (by show 6 < 1000; decide), ?_⟩
  have obH12 : (upd H11 p (.ins (CM K) dx (putF "over" (.bl false) [("starts", .ref D), ("code", .ref cv), ("registers", .ref r), ("heap", .ref hq), ("stack", .ref sk), ("passed", .ref pa)]))) p = some (.ins (CM K) dx [("starts", .ref D), ("code", .ref cv), ("registers", .ref r), ("heap", .ref hq), ("stack", .ref sk), ("passed", .ref pa), ("over", .bl false)]) := upd_same
  have eH12 := eH11.mut (o := .ins (CM K) dx (putF "over" (.bl false) [("starts", .ref D), ("code", .ref cv), ("registers", .ref r), ("heap", .ref hq), ("stack", .ref sk), ("passed", .ref pa)])) p0
  have kH12 : KeepT H11 (upd H11 p (.ins (CM K) dx (putF "over" (.bl false) [("starts", .ref D), ("code", .ref cv), ("registers", .ref r), ("heap", .ref hq), ("stack", .ref sk), ("passed", .ref pa)]))) := KeepT.upd (not_tup_ins obH11)
  have gstH12 : (upd H11 p (.ins (CM K) dx (putF "over" (.bl false) [("starts", .ref D), ("code", .ref cv), ("registers", .ref r), ("heap", .ref hq), ("stack", .ref sk), ("passed", .ref pa)]))) D = some (.dK kvs) := (upd_ne fun q => by rw [q, obH11] at gstH11; cases gstH11).trans gstH11
  have graH12 : (upd H11 p (.ins (CM K) dx (putF "over" (.bl false) [("starts", .ref D), ("code", .ref cv), ("registers", .ref r), ("heap", .ref hq), ("stack", .ref sk), ("passed", .ref pa)]))) ra = some (.lst (vI rg)) := (upd_ne fun q => by rw [q, obH11] at graH11; cases graH11).trans graH11
  have ghaH12 : (upd H11 p (.ins (CM K) dx (putF "over" (.bl false) [("starts", .ref D), ("code", .ref cv), ("registers", .ref r), ("heap", .ref hq), ("stack", .ref sk), ("passed", .ref pa)]))) ha = some (.lst (vI hp)) := (upd_ne fun q => by rw [q, obH11] at ghaH11; cases ghaH11).trans ghaH11
  have grH12 : (upd H11 p (.ins (CM K) dx (putF "over" (.bl false) [("starts", .ref D), ("code", .ref cv), ("registers", .ref r), ("heap", .ref hq), ("stack", .ref sk), ("passed", .ref pa)]))) r = some (.lst (vI rg)) := (upd_ne fun q => by rw [q, obH11] at grH11; cases grH11).trans grH11
  have ghH12 : (upd H11 p (.ins (CM K) dx (putF "over" (.bl false) [("starts", .ref D), ("code", .ref cv), ("registers", .ref r), ("heap", .ref hq), ("stack", .ref sk), ("passed", .ref pa)]))) hq = some (.lst (vI hp)) := (upd_ne fun q => by rw [q, obH11] at ghH11; cases ghH11).trans ghH11
  have gsH12 : (upd H11 p (.ins (CM K) dx (putF "over" (.bl false) [("starts", .ref D), ("code", .ref cv), ("registers", .ref r), ("heap", .ref hq), ("stack", .ref sk), ("passed", .ref pa)]))) sk = some (.lst []) := (upd_ne fun q => by rw [q, obH11] at gsH11; cases gsH11).trans gsH11
  have gpH12 : (upd H11 p (.ins (CM K) dx (putF "over" (.bl false) [("starts", .ref D), ("code", .ref cv), ("registers", .ref r), ("heap", .ref hq), ("stack", .ref sk), ("passed", .ref pa)]))) pa = some (.lst []) := (upd_ne fun q => by rw [q, obH11] at gpH11; cases gpH11).trans gpH11
  have xH12 := kH12.sq xH11
  have tcH12 := tcH11.keep kH12
  generalize hhH12 : upd H11 p (.ins (CM K) dx (putF "over" (.bl false) [("starts", .ref D), ("code", .ref cv), ("registers", .ref r), ("heap", .ref hq), ("stack", .ref sk), ("passed", .ref pa)])) = H12 at *
  refine ⟨_, rfl, p, _, dx, _, rfl, obH12, T.c_Machine, T.n_Machine_steps, (by show 7 < 1000; decide), ?_⟩
  have obH13 : (upd H12 p (.ins (CM K) dx (putF "steps" (.int 0) [("starts", .ref D), ("code", .ref cv), ("registers", .ref r), ("heap", .ref hq), ("stack", .ref sk), ("passed", .ref pa), ("over", .bl false)]))) p = some (.ins (CM K) dx [("starts", .ref D), ("code", .ref cv), ("registers", .ref r), ("heap", .ref hq), ("stack", .ref sk), ("passed", .ref pa), ("over", .bl false), ("steps", .int 0)]) := upd_same
  have eH13 := eH12.mut (o := .ins (CM K) dx (putF "steps" (.int 0) [("starts", .ref D), ("code", .ref cv), ("registers", .ref r), ("heap", .ref hq), ("stack", .ref sk), ("passed", .ref pa), ("over", .bl false)])) p0
  have kH13 : KeepT H12 (upd H12 p (.ins (CM K) dx (putF "steps" (.int 0) [("starts", .ref D), ("code", .ref cv), ("registers", .ref r), ("heap", .ref hq), ("stack", .ref sk), ("passed", .ref pa), ("over", .bl false)]))) := KeepT.upd (not_tup_ins obH12)
  have gstH13 : (upd H12 p (.ins (CM K) dx (putF "steps" (.int 0) [("starts", .ref D), ("code", .ref cv), ("registers", .ref r), ("heap", .ref hq), ("stack", .ref sk), ("passed", .ref pa), ("over", .bl false)]))) D = some (.dK kvs) := (upd_ne fun q => by rw [q, obH12] at gstH12; cases gstH12).trans gstH12
  have graH13 : (upd H12 p (.ins (CM K) dx (putF "steps" (.int 0) [("starts", .ref D), ("code", .ref cv), ("registers", .ref r), ("heap", .ref hq), ("stack", .ref sk), ("passed", .ref pa), ("over", .bl false)]))) ra = some (.lst (vI rg)) := (upd_ne fun q => by rw [q, obH12] at graH12; cases graH12).trans graH12
  have ghaH13 : (upd H12 p (.ins (CM K) dx (putF "steps" (.int 0) [("starts", .ref D), ("code", .ref cv), ("registers", .ref r), ("heap", .ref hq), ("stack", .ref sk), ("passed", .ref pa), ("over", .bl false)]))) ha = some (.lst (vI hp)) := (upd_ne fun q => by rw [q, obH12] at ghaH12; cases ghaH12).trans ghaH12
  have grH13 : (upd H12 p (.ins (CM K) dx (putF "steps" (.int 0) [("starts", .ref D), ("code", .ref cv), ("registers", .ref r), ("heap", .ref hq), ("stack", .ref sk), ("passed", .ref pa), ("over", .bl false)]))) r = some (.lst (vI rg)) := (upd_ne fun q => by rw [q, obH12] at grH12; cases grH12).trans grH12
  have ghH13 : (upd H12 p (.ins (CM K) dx (putF "steps" (.int 0) [("starts", .ref D), ("code", .ref cv), ("registers", .ref r), ("heap", .ref hq), ("stack", .ref sk), ("passed", .ref pa), ("over", .bl false)]))) hq = some (.lst (vI hp)) := (upd_ne fun q => by rw [q, obH12] at ghH12; cases ghH12).trans ghH12
  have gsH13 : (upd H12 p (.ins (CM K) dx (putF "steps" (.int 0) [("starts", .ref D), ("code", .ref cv), ("registers", .ref r), ("heap", .ref hq), ("stack", .ref sk), ("passed", .ref pa), ("over", .bl false)]))) sk = some (.lst []) := (upd_ne fun q => by rw [q, obH12] at gsH12; cases gsH12).trans gsH12
  have gpH13 : (upd H12 p (.ins (CM K) dx (putF "steps" (.int 0) [("starts", .ref D), ("code", .ref cv), ("registers", .ref r), ("heap", .ref hq), ("stack", .ref sk), ("passed", .ref pa), ("over", .bl false)]))) pa = some (.lst []) := (upd_ne fun q => by rw [q, obH12] at gpH12; cases gpH12).trans gpH12
  have xH13 := kH13.sq xH12
  have tcH13 := tcH12.keep kH13
  generalize hhH13 : upd H12 p (.ins (CM K) dx (putF "steps" (.int 0) [("starts", .ref D), ("code", .ref cv), ("registers", .ref r), ("heap", .ref hq), ("stack", .ref sk), ("passed", .ref pa), ("over", .bl false)])) = H13 at *
  refine ⟨_, rfl, p, _, dx, _, rfl, obH13, T.c_Machine, T.n_Machine_words, (by show 8 < 1000; decide), ?_⟩
  have obH14 : (upd H13 p (.ins (CM K) dx (putF "words" (.int 0) [("starts", .ref D), ("code", .ref cv), ("registers", .ref r), ("heap", .ref hq), ("stack", .ref sk), ("passed", .ref pa), ("over", .bl false), ("steps", .int 0)]))) p = some (.ins (CM K) dx [("starts", .ref D), ("code", .ref cv), ("registers", .ref r), ("heap", .ref hq), ("stack", .ref sk), ("passed", .ref pa), ("over", .bl false), ("steps", .int 0), ("words", .int 0)]) := upd_same
  have eH14 := eH13.mut (o := .ins (CM K) dx (putF "words" (.int 0) [("starts", .ref D), ("code", .ref cv), ("registers", .ref r), ("heap", .ref hq), ("stack", .ref sk), ("passed", .ref pa), ("over", .bl false), ("steps", .int 0)])) p0
  have kH14 : KeepT H13 (upd H13 p (.ins (CM K) dx (putF "words" (.int 0) [("starts", .ref D), ("code", .ref cv), ("registers", .ref r), ("heap", .ref hq), ("stack", .ref sk), ("passed", .ref pa), ("over", .bl false), ("steps", .int 0)]))) := KeepT.upd (not_tup_ins obH13)
  have gstH14 : (upd H13 p (.ins (CM K) dx (putF "words" (.int 0) [("starts", .ref D), ("code", .ref cv), ("registers", .ref r), ("heap", .ref hq), ("stack", .ref sk), ("passed", .ref pa), ("over", .bl false), ("steps", .int 0)]))) D = some (.dK kvs) := (upd_ne fun q => by rw [q, obH13] at gstH13; cases gstH13).trans gstH13
  have graH14 : (upd H13 p (.ins (CM K) dx (putF "words" (.int 0) [("starts", .ref D), ("code", .ref cv), ("registers", .ref r), ("heap", .ref hq), ("stack", .ref sk), ("passed", .ref pa), ("over", .bl false), ("steps", .int 0)]))) ra = some (.lst (vI rg)) := (upd_ne fun q => by rw [q, obH13] at graH13; cases graH13).trans graH13
  have ghaH14 : (upd H13 p (.ins (CM K) dx (putF "words" (.int 0) [("starts", .ref D), ("code", .ref cv), ("registers", .ref r), ("heap", .ref hq), ("stack", .ref sk), ("passed", .ref pa), ("over", .bl false), ("steps", .int 0)]))) ha = some (.lst (vI hp)) := (upd_ne fun q => by rw [q, obH13] at ghaH13; cases ghaH13).trans ghaH13
  have grH14 : (upd H13 p (.ins (CM K) dx (putF "words" (.int 0) [("starts", .ref D), ("code", .ref cv), ("registers", .ref r), ("heap", .ref hq), ("stack", .ref sk), ("passed", .ref pa), ("over", .bl false), ("steps", .int 0)]))) r = some (.lst (vI rg)) := (upd_ne fun q => by rw [q, obH13] at grH13; cases grH13).trans grH13
  have ghH14 : (upd H13 p (.ins (CM K) dx (putF "words" (.int 0) [("starts", .ref D), ("code", .ref cv), ("registers", .ref r), ("heap", .ref hq), ("stack", .ref sk), ("passed", .ref pa), ("over", .bl false), ("steps", .int 0)]))) hq = some (.lst (vI hp)) := (upd_ne fun q => by rw [q, obH13] at ghH13; cases ghH13).trans ghH13
  have gsH14 : (upd H13 p (.ins (CM K) dx (putF "words" (.int 0) [("starts", .ref D), ("code", .ref cv), ("registers", .ref r), ("heap", .ref hq), ("stack", .ref sk), ("passed", .ref pa), ("over", .bl false), ("steps", .int 0)]))) sk = some (.lst []) := (upd_ne fun q => by rw [q, obH13] at gsH13; cases gsH13).trans gsH13
  have gpH14 : (upd H13 p (.ins (CM K) dx (putF "words" (.int 0) [("starts", .ref D), ("code", .ref cv), ("registers", .ref r), ("heap", .ref hq), ("stack", .ref sk), ("passed", .ref pa), ("over", .bl false), ("steps", .int 0)]))) pa = some (.lst []) := (upd_ne fun q => by rw [q, obH13] at gpH13; cases gpH13).trans gpH13
  have xH14 := kH14.sq xH13
  have tcH14 := tcH13.keep kH14
  generalize hhH14 : upd H13 p (.ins (CM K) dx (putF "words" (.int 0) [("starts", .ref D), ("code", .ref cv), ("registers", .ref r), ("heap", .ref hq), ("stack", .ref sk), ("passed", .ref pa), ("over", .bl false), ("steps", .int 0)])) = H14 at *
  refine ⟨_, rfl, p, _, dx, _, rfl, obH14, T.c_Machine, T.n_Machine_top, (by show 9 < 1000; decide), ?_⟩
  have obH15 : (upd H14 p (.ins (CM K) dx (putF "top" (.int 0) [("starts", .ref D), ("code", .ref cv), ("registers", .ref r), ("heap", .ref hq), ("stack", .ref sk), ("passed", .ref pa), ("over", .bl false), ("steps", .int 0), ("words", .int 0)]))) p = some (.ins (CM K) dx [("starts", .ref D), ("code", .ref cv), ("registers", .ref r), ("heap", .ref hq), ("stack", .ref sk), ("passed", .ref pa), ("over", .bl false), ("steps", .int 0), ("words", .int 0), ("top", .int 0)]) := upd_same
  have eH15 := eH14.mut (o := .ins (CM K) dx (putF "top" (.int 0) [("starts", .ref D), ("code", .ref cv), ("registers", .ref r), ("heap", .ref hq), ("stack", .ref sk), ("passed", .ref pa), ("over", .bl false), ("steps", .int 0), ("words", .int 0)])) p0
  have kH15 : KeepT H14 (upd H14 p (.ins (CM K) dx (putF "top" (.int 0) [("starts", .ref D), ("code", .ref cv), ("registers", .ref r), ("heap", .ref hq), ("stack", .ref sk), ("passed", .ref pa), ("over", .bl false), ("steps", .int 0), ("words", .int 0)]))) := KeepT.upd (not_tup_ins obH14)
  have gstH15 : (upd H14 p (.ins (CM K) dx (putF "top" (.int 0) [("starts", .ref D), ("code", .ref cv), ("registers", .ref r), ("heap", .ref hq), ("stack", .ref sk), ("passed", .ref pa), ("over", .bl false), ("steps", .int 0), ("words", .int 0)]))) D = some (.dK kvs) := (upd_ne fun q => by rw [q, obH14] at gstH14; cases gstH14).trans gstH14
  have graH15 : (upd H14 p (.ins (CM K) dx (putF "top" (.int 0) [("starts", .ref D), ("code", .ref cv), ("registers", .ref r), ("heap", .ref hq), ("stack", .ref sk), ("passed", .ref pa), ("over", .bl false), ("steps", .int 0), ("words", .int 0)]))) ra = some (.lst (vI rg)) := (upd_ne fun q => by rw [q, obH14] at graH14; cases graH14).trans graH14
  have ghaH15 : (upd H14 p (.ins (CM K) dx (putF "top" (.int 0) [("starts", .ref D), ("code", .ref cv), ("registers", .ref r), ("heap", .ref hq), ("stack", .ref sk), ("passed", .ref pa), ("over", .bl false), ("steps", .int 0), ("words", .int 0)]))) ha = some (.lst (vI hp)) := (upd_ne fun q => by rw [q, obH14] at ghaH14; cases ghaH14).trans ghaH14
  have grH15 : (upd H14 p (.ins (CM K) dx (putF "top" (.int 0) [("starts", .ref D), ("code", .ref cv), ("registers", .ref r), ("heap", .ref hq), ("stack", .ref sk), ("passed", .ref pa), ("over", .bl false), ("steps", .int 0), ("words", .int 0)]))) r = some (.lst (vI rg)) := (upd_ne fun q => by rw [q, obH14] at grH14; cases grH14).trans grH14
  have ghH15 : (upd H14 p (.ins (CM K) dx (putF "top" (.int 0) [("starts", .ref D), ("code", .ref cv), ("registers", .ref r), ("heap", .ref hq), ("stack", .ref sk), ("passed", .ref pa), ("over", .bl false), ("steps", .int 0), ("words", .int 0)]))) hq = some (.lst (vI hp)) := (upd_ne fun q => by rw [q, obH14] at ghH14; cases ghH14).trans ghH14
  have gsH15 : (upd H14 p (.ins (CM K) dx (putF "top" (.int 0) [("starts", .ref D), ("code", .ref cv), ("registers", .ref r), ("heap", .ref hq), ("stack", .ref sk), ("passed", .ref pa), ("over", .bl false), ("steps", .int 0), ("words", .int 0)]))) sk = some (.lst []) := (upd_ne fun q => by rw [q, obH14] at gsH14; cases gsH14).trans gsH14
  have gpH15 : (upd H14 p (.ins (CM K) dx (putF "top" (.int 0) [("starts", .ref D), ("code", .ref cv), ("registers", .ref r), ("heap", .ref hq), ("stack", .ref sk), ("passed", .ref pa), ("over", .bl false), ("steps", .int 0), ("words", .int 0)]))) pa = some (.lst []) := (upd_ne fun q => by rw [q, obH14] at gpH14; cases gpH14).trans gpH14
  have xH15 := kH15.sq xH14
  have tcH15 := tcH14.keep kH15
  generalize hhH15 : upd H14 p (.ins (CM K) dx (putF "top" (.int 0) [("starts", .ref D), ("code", .ref cv), ("registers", .ref r), ("heap", .ref hq), ("stack", .ref sk), ("passed", .ref pa), ("over", .bl false), ("steps", .int 0), ("words", .int 0)])) = H15 at *
  exact k H15 ⟨dx, D, cv, r, hq, sk, pa⟩ ⟨eH15, p0, zr, zhq, zsk, zpa, obH15, ⟨_, xH15, tcH15⟩, ⟨kvs, gstH15, q3⟩, grH15, h8, ghH15, gsH15, gpH15, n_r_hq, n_r_sk, n_r_pa, n_hq_sk, n_hq_pa, n_sk_pa⟩
end
end K47

set_option Elab.async false
set_option linter.all false
set_option maxRecDepth 100000
set_option maxHeartbeats 4000000
namespace K47
open PySem PySem.Spec PyProof.Rows L2
open C8 hiding CX0 E0
/-! the machine's methods -/
def isReg : Ins → Bool
  | .set .. | .copy .. | .add .. | .sub .. | .times .. => true
  | _ => false
def isHeap : Ins → Bool
  | .new .. | .put .. | .take .. => true
  | _ => false
def isStack : Ins → Bool
  | .push .. | .drop .. | .save .. | .load .. => true
  | _ => false
def r_raise_top (K : PySem.W.Frag) : List V → Hp → VK → Prop := fun vs H Q => ∃ (H0 : Hp) (p : Addr) (g : Img) (F : MFx) (m : MS) (n : Nat) (ps : List Nat) (ov : Bool), vs = [.ref p] ∧ MAt K H0 H p g F m n ps ov ∧
  ∀ H', MAt K H0 H' p g F { m with top := max m.top m.stack.length } n ps ov → KeepT H H' → Q .non H'
def r_by_registers (K : PySem.W.Frag) : List V → Hp → VK → Prop := fun vs H Q => ∃ (H0 : Hp) (p : Addr) (g : Img) (F : MFx) (m m' : MS) (n : Nat) (ps : List Nat) (ov : Bool) (v : V) (i : Ins) (size : Nat) (names : List Str), vs = [.ref p, v] ∧ MAt K H0 H p g F m n ps ov ∧ TD K H v (eIns i) ∧ InsOk size names i ∧ isReg i = true ∧ workOf m i = some m' ∧
  ∀ H', MAt K H0 H' p g F m' n ps ov → Q .non H'
def r_by_heap (K : PySem.W.Frag) : List V → Hp → VK → Prop := fun vs H Q => ∃ (H0 : Hp) (p : Addr) (g : Img) (F : MFx) (m : MS) (n : Nat) (ps : List Nat) (ov : Bool) (v : V) (i : Ins) (size : Nat) (names : List Str), vs = [.ref p, v] ∧ MAt K H0 H p g F m n ps ov ∧ TD K H v (eIns i) ∧ InsOk size names i ∧ isHeap i = true ∧ m.size ≤ 4000000 ∧
  (∀ m', workOf m i = some m' → ∀ H', MAt K H0 H' p g F m' n ps ov → Q (.bl true) H') ∧ (workOf m i = none → ∀ H', MAt K H0 H' p g F m n ps ov → Q (.bl false) H')
def r_by_stack (K : PySem.W.Frag) : List V → Hp → VK → Prop := fun vs H Q => ∃ (H0 : Hp) (p : Addr) (g : Img) (F : MFx) (m : MS) (n : Nat) (ps : List Nat) (ov : Bool) (v : V) (i : Ins) (size : Nat) (names : List Str), vs = [.ref p, v] ∧ MAt K H0 H p g F m n ps ov ∧ TD K H v (eIns i) ∧ InsOk size names i ∧ isStack i = true ∧ m.size ≤ 4000000 ∧
  (∀ m', workOf m i = some m' → ∀ H', MAt K H0 H' p g F m' n ps ov → Q (.bl true) H') ∧ (workOf m i = none → ∀ H', MAt K H0 H' p g F m n ps ov → Q (.bl false) H')
theorem reg_at {m : MS} {r : Nat} (h8 : m.regs.length = 8) (h : r ≤ 7) : (vI m.regs)[r]? = some (.int (m.reg r)) := by
  refine vI_at ?_
  unfold MS.reg
  rw [List.getD_eq_getElem?_getD, List.getElem?_eq_getElem (by omega)]
  rfl
theorem reg_ix {m : MS} {r : Nat} (h8 : m.regs.length = 8) (h : r ≤ 7) : atI (vI m.regs) ((r : Nat) : Int) = some (.int (m.reg r)) := ix_nat (reg_at h8 h)
theorem reg_ixN {m : MS} {r : Nat} (h8 : m.regs.length = 8) (h : r ≤ 7) : ixN (vI m.regs).length ((r : Nat) : Int) = some r := by
  rw [vI_len, h8]
  exact ixN_int (by omega) (by omega)
section
variable {P : Program} {w : World} {K : PySem.W.Frag} {mg : Str → Option Value} {base : Heap}
abbrev N_Machine_raise_top : List Str := ["self"]
theorem sc_Machine_raise_top : FnScope ["self"] ["self"] (defScope s_Machine_raise_top) := ⟨rfl, rfl, rfl, by decide +kernel, rfl, by decide +kernel, by decide +kernel⟩
theorem m_Machine_raise_top (T : Txt w K mg) : Met P w K mg base 1 (He.ga K "Machine") "raise_top" (spN 1 (r_raise_top K)) [] := by
  obtain ⟨fd, F⟩ := T.f_Machine_raise_top
  refine met_mk F T.c_Machine T.e_Machine_raise_top (fun _ _ _ _ _ _ us hl => match us, hl with | [_], _ => rfl) sc_Machine_raise_top (fun _ _ _ _ h => h.1) (fun cdv A outer s H vs Q E hr h => ?_)
  have hu := hu_of hr
  have hul := hul_of hr
  obtain ⟨_, H0, p, g, F, m, n, ps, ov, rfl, M, k⟩ := h
  refine ⟨_, (pss_one (ps_if (pt_cmpR op_gt (pe_callB (call_lenK (K := K) rfl) (by rfl) T.b_len bt_len (pa_cons (pe_fldK (K := K) rfl (pv 0) rfl) pa_nil)) (pe_fldK (K := K) rfl (pv 0) rfl) (nomark _)) (pss_one (ps_fld (pv 0) (pe_callB (call_lenK (K := K) rfl) (by rfl) T.b_len bt_len (pa_cons (pe_fldK (K := K) rfl (pv 0) rfl) pa_nil)) rfl)) (pss_nil))), ?_⟩
  refine ⟨_, rfl, p, _, F.dx, _, _, rfl, M.ob, T.c_Machine, T.n_Machine_stack, rfl, F.sk, _, rfl, .inl (SqL.of M.sk), _, rfl, p, _, F.dx, _, _, rfl, M.ob, T.c_Machine, T.n_Machine_top, rfl, _, _, rfl, rfl, _, rfl, ?_⟩
  rw [vI_len]
  by_cases h1 : ((m.top : Nat) : Int) < ((m.stack.length : Nat) : Int)
  · rw [decide_eq_true h1]
    refine iteT ?_
    refine ⟨_, rfl, p, _, F.dx, _, _, rfl, M.ob, T.c_Machine, T.n_Machine_stack, rfl, F.sk, _, rfl, .inl (SqL.of M.sk), _, rfl, p, _, F.dx, _, rfl, M.ob, T.c_Machine, T.n_Machine_top, (by show 10 < 1000; decide), ?_⟩
    rw [vI_len]
    have := M.obj ov n m.words m.stack.length
    refine k _ ?_ M.kO
    have e : max m.top m.stack.length = m.stack.length := by omega
    rw [e]
    exact this
  · rw [decide_eq_false h1]
    refine iteF ?_
    refine k H ?_ (KeepT.refl H)
    have e : max m.top m.stack.length = m.top := by omega
    rw [e]
    exact M
abbrev N_Machine_by_registers : List Str := ["self", "instruction", "word", "r", "one"]
theorem sc_Machine_by_registers : FnScope ["self", "instruction", "word", "r", "one"] ["self", "instruction"] (defScope s_Machine_by_registers) := ⟨rfl, rfl, rfl, by decide +kernel, rfl, by decide +kernel, by decide +kernel⟩
theorem m_Machine_by_registers (T : Txt w K mg) : Met P w K mg base 1 (He.ga K "Machine") "by_registers" (spN 2 (r_by_registers K)) [] := by
  obtain ⟨fd, F⟩ := T.f_Machine_by_registers
  refine met_mk F T.c_Machine T.e_Machine_by_registers (fun _ _ _ _ _ _ us hl => match us, hl with | [_, _], _ => rfl) sc_Machine_by_registers (fun _ _ _ _ h => h.1) (fun cdv A outer s H vs Q E hr h => ?_)
  have hu := hu_of hr
  have hul := hul_of hr
  obtain ⟨_, H0, p, g, F, m, m', n, ps, ov, v, i, size, names, rfl, M, tv, io, hi, hw, k⟩ := h
  refine ⟨_, (pss_cons (ps_set (i := 2) sc_Machine_by_registers.nd rfl (by first | exact Or.inl rfl | exact Or.inr rfl) (pe_ix (ix_tupK (K := K) rfl) (pv 1) (pe_int) (fun _ _ => rfl)))
      (pss_cons (ps_set (i := 3) sc_Machine_by_registers.nd rfl (by first | exact Or.inl rfl | exact Or.inr rfl) (pe_ix (ix_tupK (K := K) rfl) (pv 1) (pe_int) (fun _ _ => rfl)))
      (pss_cons (ps_if (pt_cmpR op_eq (pv 2) (pe_str) (nomark _)) (pss_cons (ps_asg (pe_ix (ix_tupK (K := K) rfl) (pv 1) (pe_int) (fun _ _ => rfl)) (pg_sub (pe_fldK (K := K) rfl (pv 0) rfl) (pv 3) set_list))
      (pss_one (ps_retN))) (pss_nil))
      (pss_cons (ps_set (i := 4) sc_Machine_by_registers.nd rfl (by first | exact Or.inl rfl | exact Or.inr rfl) (pe_ix (ix_listK (K := K) rfl) (pe_fldK (K := K) rfl (pv 0) rfl) (pe_ix (ix_tupK (K := K) rfl) (pv 1) (pe_int) (fun _ _ => rfl)) (fun _ _ => rfl)))
      (pss_one (ps_if (pt_cmpR op_eq (pv 2) (pe_str) (nomark _)) (pss_one (ps_asg (pv 4) (pg_sub (pe_fldK (K := K) rfl (pv 0) rfl) (pv 3) set_list))) (pss_one (ps_if (pt_cmpR op_eq (pv 2) (pe_str) (nomark _)) (pss_one (ps_asg (pe_op op_mul (pv 4) (pe_ix (ix_tupK (K := K) rfl) (pv 1) (pe_int) (fun _ _ => rfl))) (pg_sub (pe_fldK (K := K) rfl (pv 0) rfl) (pv 3) set_list))) (pss_one (ps_if (pt_cmpR op_eq (pv 2) (pe_str) (nomark _)) (pss_one (ps_asg (pe_op op_add (pv 4) (pe_ix (ix_listK (K := K) rfl) (pe_fldK (K := K) rfl (pv 0) rfl) (pe_ix (ix_tupK (K := K) rfl) (pv 1) (pe_int) (fun _ _ => rfl)) (fun _ _ => rfl))) (pg_sub (pe_fldK (K := K) rfl (pv 0) rfl) (pv 3) set_list))) (pss_one (ps_asg (pe_op op_sub (pv 4) (pe_ix (ix_listK (K := K) rfl) (pe_fldK (K := K) rfl (pv 0) rfl) (pe_ix (ix_tupK (K := K) rfl) (pv 1) (pe_int) (fun _ _ => rfl)) (fun _ _ => rfl))) (pg_sub (pe_fldK (K := K) rfl (pv 0) rfl) (pv 3) set_list))))))))))))), ?_⟩
  cases i with
  | set r x =>
    obtain ⟨a, v1, v2, v3, rfl, hs, t1, t2, t3⟩ := TD.three (d1 := .str "set") (d2 := dN r) (d3 := .int x) tv
    cases t1.str_
    cases t2.int_
    cases t3.int_
    refine ⟨_, rfl, a, _, _, _, rfl, rfl, hs, rfl, ?_⟩
    refine ⟨_, rfl, a, _, _, _, rfl, rfl, hs, rfl, ?_⟩
    refine ⟨_, rfl, rfl, _, rfl, ?_⟩
    rw [decide_eq_true rfl]
    refine iteT ?_
    refine ⟨_, rfl, a, _, _, _, rfl, rfl, hs, rfl, _, rfl, p, _, F.dx, _, _, rfl, M.ob, T.c_Machine, T.n_Machine_registers, rfl, _, rfl, F.rg, _, _, r, rfl, rfl, M.rg, reg_ixN M.r8 io.1, ?_⟩
    rw [vI_set]
    cases hw
    exact k _ (M.regs _ (by rw [List.length_set]; exact M.r8))
  | copy r s =>
    obtain ⟨a, v1, v2, v3, rfl, hs, t1, t2, t3⟩ := TD.three (d1 := .str "copy") (d2 := dN r) (d3 := dN s) tv
    cases t1.str_
    cases t2.int_
    cases t3.int_
    refine ⟨_, rfl, a, _, _, _, rfl, rfl, hs, rfl, ?_⟩
    refine ⟨_, rfl, a, _, _, _, rfl, rfl, hs, rfl, ?_⟩
    refine ⟨_, rfl, rfl, _, rfl, ?_⟩
    rw [decide_eq_false (by decide)]
    refine iteF ?_
    refine ⟨_, rfl, p, _, F.dx, _, _, rfl, M.ob, T.c_Machine, T.n_Machine_registers, rfl, _, rfl, a, _, _, _, rfl, rfl, hs, rfl, F.rg, _, _, _, rfl, rfl, SqL.of M.rg, reg_ix M.r8 io.2, ?_⟩
    refine ⟨_, rfl, rfl, _, rfl, ?_⟩
    rw [decide_eq_true rfl]
    refine iteT ?_
    refine ⟨_, rfl, _, rfl, p, _, F.dx, _, _, rfl, M.ob, T.c_Machine, T.n_Machine_registers, rfl, _, rfl, F.rg, _, _, r, rfl, rfl, M.rg, reg_ixN M.r8 io.1, ?_⟩
    rw [vI_set]
    cases hw
    exact k _ (M.regs _ (by rw [List.length_set]; exact M.r8))
  | times r s x =>
    obtain ⟨a, v1, v2, v3, v4, rfl, hs, t1, t2, t3, t4⟩ := TD.four (d1 := .str "times") (d2 := dN r) (d3 := dN s) (d4 := .int x) tv
    cases t1.str_
    cases t2.int_
    cases t3.int_
    cases t4.int_
    refine ⟨_, rfl, a, _, _, _, rfl, rfl, hs, rfl, ?_⟩
    refine ⟨_, rfl, a, _, _, _, rfl, rfl, hs, rfl, ?_⟩
    refine ⟨_, rfl, rfl, _, rfl, ?_⟩
    rw [decide_eq_false (by decide)]
    refine iteF ?_
    refine ⟨_, rfl, p, _, F.dx, _, _, rfl, M.ob, T.c_Machine, T.n_Machine_registers, rfl, _, rfl, a, _, _, _, rfl, rfl, hs, rfl, F.rg, _, _, _, rfl, rfl, SqL.of M.rg, reg_ix M.r8 io.2.1, ?_⟩
    refine ⟨_, rfl, rfl, _, rfl, ?_⟩
    rw [decide_eq_false (by decide)]
    refine iteF ?_
    refine ⟨_, rfl, rfl, _, rfl, ?_⟩
    rw [decide_eq_true rfl]
    refine iteT ?_
    refine ⟨_, rfl, _, rfl, a, _, _, _, rfl, rfl, hs, rfl, _, _, rfl, rfl, .inr ⟨by have := io.2.2.1; omega, by have := io.2.2.2; omega⟩, _, rfl, p, _, F.dx, _, _, rfl, M.ob, T.c_Machine, T.n_Machine_registers, rfl, _, rfl, F.rg, _, _, r, rfl, rfl, M.rg, reg_ixN M.r8 io.1, ?_⟩
    rw [vI_set]
    cases hw
    exact k _ (M.regs _ (by rw [List.length_set]; exact M.r8))
  | add r s t =>
    obtain ⟨a, v1, v2, v3, v4, rfl, hs, t1, t2, t3, t4⟩ := TD.four (d1 := .str "add") (d2 := dN r) (d3 := dN s) (d4 := dN t) tv
    cases t1.str_
    cases t2.int_
    cases t3.int_
    cases t4.int_
    refine ⟨_, rfl, a, _, _, _, rfl, rfl, hs, rfl, ?_⟩
    refine ⟨_, rfl, a, _, _, _, rfl, rfl, hs, rfl, ?_⟩
    refine ⟨_, rfl, rfl, _, rfl, ?_⟩
    rw [decide_eq_false (by decide)]
    refine iteF ?_
    refine ⟨_, rfl, p, _, F.dx, _, _, rfl, M.ob, T.c_Machine, T.n_Machine_registers, rfl, _, rfl, a, _, _, _, rfl, rfl, hs, rfl, F.rg, _, _, _, rfl, rfl, SqL.of M.rg, reg_ix M.r8 io.2.1, ?_⟩
    refine ⟨_, rfl, rfl, _, rfl, ?_⟩
    rw [decide_eq_false (by decide)]
    refine iteF ?_
    refine ⟨_, rfl, rfl, _, rfl, ?_⟩
    rw [decide_eq_false (by decide)]
    refine iteF ?_
    refine ⟨_, rfl, rfl, _, rfl, ?_⟩
    rw [decide_eq_true rfl]
    refine iteT ?_
    refine ⟨_, rfl, _, rfl, p, _, F.dx, _, _, rfl, M.ob, T.c_Machine, T.n_Machine_registers, rfl, _, rfl, a, _, _, _, rfl, rfl, hs, rfl, F.rg, _, _, _, rfl, rfl, SqL.of M.rg, reg_ix M.r8 io.2.2, _, _, rfl, rfl, _, rfl, p, _, F.dx, _, _, rfl, M.ob, T.c_Machine, T.n_Machine_registers, rfl, _, rfl, F.rg, _, _, r, rfl, rfl, M.rg, reg_ixN M.r8 io.1, ?_⟩
    rw [vI_set]
    cases hw
    exact k _ (M.regs _ (by rw [List.length_set]; exact M.r8))
  | sub r s t =>
    obtain ⟨a, v1, v2, v3, v4, rfl, hs, t1, t2, t3, t4⟩ := TD.four (d1 := .str "sub") (d2 := dN r) (d3 := dN s) (d4 := dN t) tv
    cases t1.str_
    cases t2.int_
    cases t3.int_
    cases t4.int_
    refine ⟨_, rfl, a, _, _, _, rfl, rfl, hs, rfl, ?_⟩
    refine ⟨_, rfl, a, _, _, _, rfl, rfl, hs, rfl, ?_⟩
    refine ⟨_, rfl, rfl, _, rfl, ?_⟩
    rw [decide_eq_false (by decide)]
    refine iteF ?_
    refine ⟨_, rfl, p, _, F.dx, _, _, rfl, M.ob, T.c_Machine, T.n_Machine_registers, rfl, _, rfl, a, _, _, _, rfl, rfl, hs, rfl, F.rg, _, _, _, rfl, rfl, SqL.of M.rg, reg_ix M.r8 io.2.1, ?_⟩
    refine ⟨_, rfl, rfl, _, rfl, ?_⟩
    rw [decide_eq_false (by decide)]
    refine iteF ?_
    refine ⟨_, rfl, rfl, _, rfl, ?_⟩
    rw [decide_eq_false (by decide)]
    refine iteF ?_
    refine ⟨_, rfl, rfl, _, rfl, ?_⟩
    rw [decide_eq_false (by decide)]
    refine iteF ?_
    refine ⟨_, rfl, _, rfl, p, _, F.dx, _, _, rfl, M.ob, T.c_Machine, T.n_Machine_registers, rfl, _, rfl, a, _, _, _, rfl, rfl, hs, rfl, F.rg, _, _, _, rfl, rfl, SqL.of M.rg, reg_ix M.r8 io.2.2, _, _, rfl, rfl, _, rfl, p, _, F.dx, _, _, rfl, M.ob, T.c_Machine, T.n_Machine_registers, rfl, _, rfl, F.rg, _, _, r, rfl, rfl, M.rg, reg_ixN M.r8 io.1, ?_⟩
    rw [vI_set]
    cases hw
    exact k _ (M.regs _ (by rw [List.length_set]; exact M.r8))
  | _ => cases hi
end
end K47

set_option Elab.async false
set_option linter.all false
set_option maxRecDepth 100000
set_option maxHeartbeats 4000000
namespace K47
open PySem PySem.Spec PyProof.Rows L2
open C8 hiding CX0 E0
section
variable {P : Program} {w : World} {K : PySem.W.Frag} {mg : Str → Option Value} {base : Heap}
abbrev N_Machine_by_heap : List Str := ["self", "instruction", "word", "at"]
theorem sc_Machine_by_heap : FnScope ["self", "instruction", "word", "at"] ["self", "instruction"] (defScope s_Machine_by_heap) := ⟨rfl, rfl, rfl, by decide +kernel, rfl, by decide +kernel, by decide +kernel⟩
theorem m_Machine_by_heap (T : Txt w K mg) : Met P w K mg base 1 (He.ga K "Machine") "by_heap" (spN 2 (r_by_heap K)) [] := by
  obtain ⟨fd, F⟩ := T.f_Machine_by_heap
  refine met_mk F T.c_Machine T.e_Machine_by_heap (fun _ _ _ _ _ _ us hl => match us, hl with | [_, _], _ => rfl) sc_Machine_by_heap (fun _ _ _ _ h => h.1) (fun cdv A outer s H vs Q E hr h => ?_)
  have hu := hu_of hr
  have hul := hul_of hr
  obtain ⟨_, H0, p, g, F, m, n, ps, ov, v, i, size, names, rfl, M, tv, io, hi, hz, k1, k2⟩ := h
  have hz1 : m.heap.length ≤ 4000000 := by unfold MS.size at hz; omega
  refine ⟨_, (pss_cons (ps_set (i := 2) sc_Machine_by_heap.nd rfl (by first | exact Or.inl rfl | exact Or.inr rfl) (pe_ix (ix_tupK (K := K) rfl) (pv 1) (pe_int) (fun _ _ => rfl)))
      (pss_cons (ps_if (pt_cmpR op_eq (pv 2) (pe_str) (nomark _)) (pss_cons (ps_asg (pe_callB (call_lenK (K := K) rfl) (by rfl) T.b_len bt_len (pa_cons (pe_fldK (K := K) rfl (pv 0) rfl) pa_nil)) (pg_sub (pe_fldK (K := K) rfl (pv 0) rfl) (pe_ix (ix_tupK (K := K) rfl) (pv 1) (pe_int) (fun _ _ => rfl)) set_list))
      (pss_cons (ps_expr (pe_bm PySem.F.plainAttrs_list PySem.F.slot_list_extend PySem.F.type_list_extend mt_extend (pe_fldK (K := K) rfl (pv 0) rfl) (pa_cons (pe_op op_rep (pe_lst (pa_cons (pe_int) pa_nil)) (pe_ix (ix_tupK (K := K) rfl) (pv 1) (pe_int) (fun _ _ => rfl))) pa_nil)))
      (pss_cons (ps_fldaug (pv 0) (pe_ix (ix_tupK (K := K) rfl) (pv 1) (pe_int) (fun _ _ => rfl)) in_add)
      (pss_one (ps_ret (pe_bl)))))) (pss_nil))
      (pss_cons (ps_if (pt_cmpR op_eq (pv 2) (pe_str) (nomark _)) (pss_cons (ps_set (i := 3) sc_Machine_by_heap.nd rfl (by first | exact Or.inl rfl | exact Or.inr rfl) (pe_op op_add (pe_ix (ix_listK (K := K) rfl) (pe_fldK (K := K) rfl (pv 0) rfl) (pe_ix (ix_tupK (K := K) rfl) (pv 1) (pe_int) (fun _ _ => rfl)) (fun _ _ => rfl)) (pe_ix (ix_tupK (K := K) rfl) (pv 1) (pe_int) (fun _ _ => rfl))))
      (pss_cons (ps_if (pt_not (pt_chain op_le op_lt (pe_int) (pv 3) (pe_callB (call_lenK (K := K) rfl) (by rfl) T.b_len bt_len (pa_cons (pe_fldK (K := K) rfl (pv 0) rfl) pa_nil)))) (pss_one (ps_ret (pe_bl))) (pss_nil))
      (pss_cons (ps_asg (pe_ix (ix_listK (K := K) rfl) (pe_fldK (K := K) rfl (pv 0) rfl) (pe_ix (ix_tupK (K := K) rfl) (pv 1) (pe_int) (fun _ _ => rfl)) (fun _ _ => rfl)) (pg_sub (pe_fldK (K := K) rfl (pv 0) rfl) (pv 3) set_list))
      (pss_one (ps_ret (pe_bl)))))) (pss_nil))
      (pss_cons (ps_set (i := 3) sc_Machine_by_heap.nd rfl (by first | exact Or.inl rfl | exact Or.inr rfl) (pe_op op_add (pe_ix (ix_listK (K := K) rfl) (pe_fldK (K := K) rfl (pv 0) rfl) (pe_ix (ix_tupK (K := K) rfl) (pv 1) (pe_int) (fun _ _ => rfl)) (fun _ _ => rfl)) (pe_ix (ix_tupK (K := K) rfl) (pv 1) (pe_int) (fun _ _ => rfl))))
      (pss_cons (ps_if (pt_not (pt_chain op_le op_lt (pe_int) (pv 3) (pe_callB (call_lenK (K := K) rfl) (by rfl) T.b_len bt_len (pa_cons (pe_fldK (K := K) rfl (pv 0) rfl) pa_nil)))) (pss_one (ps_ret (pe_bl))) (pss_nil))
      (pss_cons (ps_asg (pe_ix (ix_listK (K := K) rfl) (pe_fldK (K := K) rfl (pv 0) rfl) (pv 3) (fun _ _ => rfl)) (pg_sub (pe_fldK (K := K) rfl (pv 0) rfl) (pe_ix (ix_tupK (K := K) rfl) (pv 1) (pe_int) (fun _ _ => rfl)) set_list))
      (pss_one (ps_ret (pe_bl))))))))), ?_⟩
  cases i with
  | new r x =>
    obtain ⟨a, v1, v2, v3, rfl, hs, t1, t2, t3⟩ := TD.three (d1 := .str "new") (d2 := dN r) (d3 := dN x) tv
    cases t1.str_
    cases t2.int_
    cases t3.int_
    refine ⟨_, rfl, a, _, _, _, rfl, rfl, hs, rfl, ?_⟩
    refine ⟨_, rfl, rfl, _, rfl, ?_⟩
    rw [decide_eq_true rfl]
    refine iteT ?_
    refine ⟨_, rfl, p, _, F.dx, _, _, rfl, M.ob, T.c_Machine, T.n_Machine_heap, rfl, F.hp, _, rfl, .inl (SqL.of M.hp), _, rfl, p, _, F.dx, _, _, rfl, M.ob, T.c_Machine, T.n_Machine_registers, rfl, _, rfl, a, _, _, _, rfl, rfl, hs, rfl, F.rg, _, _, r, rfl, rfl, M.rg, reg_ixN M.r8 io.1, ?_⟩
    rw [vI_len, vI_set]
    have M2 := M.regs (m.regs.set r (m.heap.length : Nat)) (by rw [List.length_set]; exact M.r8)
    have hs2 := (M.kR (o := .lst (vI (m.regs.set r (m.heap.length : Nat))))).sq hs
    generalize upd H F.rg (.lst (vI (m.regs.set r (m.heap.length : Nat)))) = H2 at *
    refine ⟨_, rfl, p, _, F.dx, _, _, rfl, M2.ob, T.c_Machine, T.n_Machine_heap, rfl, .inl ⟨rfl, _, SqL.of M2.hp⟩, by show 1 ≤ sizeLine; decide, fun pz hpz => ?_⟩
    have M3 := M2.ext (Ext.new (o := .lst [V.int 0]) hpz)
    have hs3 := (Ext.new (o := .lst [V.int 0]) hpz).sqt hs2
    have g3 : (upd H2 pz (.lst [V.int 0])) pz = some (.lst [V.int 0]) := upd_same
    generalize upd H2 pz (.lst [V.int 0]) = H3 at *
    refine ⟨_, rfl, a, _, _, _, rfl, rfl, hs3, rfl, pz, _, _, rfl, rfl, g3, by omega, by have := io.2.2; omega, by simp; exact sz (by have := io.2.2; omega), fun qz hqz => ?_⟩
    rw [rep0]
    have M4 := M3.ext (Ext.new (o := .lst (vI (List.replicate x 0))) hqz)
    have hs4 := (Ext.new (o := .lst (vI (List.replicate x 0))) hqz).sqt hs3
    have g4 : (upd H3 qz (.lst (vI (List.replicate x 0)))) qz = some (.lst (vI (List.replicate x 0))) := upd_same
    generalize upd H3 qz (.lst (vI (List.replicate x 0))) = H4 at *
    refine ⟨F.hp, qz, _, _, rfl, rfl, M4.hp, g4, by rw [vI_len, vI_len, List.length_replicate]; show _ ≤ 2 ^ 24; have := io.2.2; simp only; omega, ?_⟩
    rw [← vI_app]
    have M5 := M4.heap (m.heap ++ List.replicate x 0)
    have hs5 := (M4.kH (o := .lst (vI (m.heap ++ List.replicate x 0)))).sq hs4
    simp only at M5
    generalize upd H4 F.hp (.lst (vI (m.heap ++ List.replicate x 0))) = H5 at *
    refine ⟨_, rfl, p, _, F.dx, _, _, rfl, M5.ob, T.c_Machine, T.n_Machine_words, rfl, _, rfl, a, _, _, _, rfl, rfl, hs5, rfl, _, _, rfl, rfl, F.dx, _, M5.ob, (by show 10 < 1000; decide), ?_⟩
    exact k1 _ rfl _ (M5.obj ov n (m.words + x) m.top)
  | put r o s =>
    obtain ⟨a, v1, v2, v3, v4, rfl, hs, t1, t2, t3, t4⟩ := TD.four (d1 := .str "put") (d2 := dN r) (d3 := dN o) (d4 := dN s) tv
    cases t1.str_
    cases t2.int_
    cases t3.int_
    cases t4.int_
    refine ⟨_, rfl, a, _, _, _, rfl, rfl, hs, rfl, ?_⟩
    refine ⟨_, rfl, rfl, _, rfl, ?_⟩
    rw [decide_eq_false (by decide)]
    refine iteF ?_
    refine ⟨_, rfl, rfl, _, rfl, ?_⟩
    rw [decide_eq_true rfl]
    refine iteT ?_
    refine ⟨_, rfl, p, _, F.dx, _, _, rfl, M.ob, T.c_Machine, T.n_Machine_registers, rfl, _, rfl, a, _, _, _, rfl, rfl, hs, rfl, F.rg, _, _, _, rfl, rfl, SqL.of M.rg, reg_ix M.r8 io.1, _, rfl, a, _, _, _, rfl, rfl, hs, rfl, _, _, rfl, rfl, ?_⟩
    refine ⟨_, rfl, _, _, rfl, rfl, _, rfl, ?_⟩
    by_cases c1 : 0 ≤ m.reg r + ((o : Nat) : Int)
    rotate_left
    · rw [decide_eq_false c1]
      refine iteF ⟨_, rfl, iteT ?_⟩
      exact k2 (by simp only [workOf]; rw [if_neg (fun q => c1 q.1)]) H M
    rw [decide_eq_true c1]
    refine iteT ⟨_, rfl, p, _, F.dx, _, _, rfl, M.ob, T.c_Machine, T.n_Machine_heap, rfl, F.hp, _, rfl, .inl (SqL.of M.hp), _, _, rfl, rfl, _, rfl, ?_⟩
    rw [vI_len]
    by_cases c2 : m.reg r + ((o : Nat) : Int) < ((m.heap.length : Nat) : Int)
    rotate_left
    · rw [decide_eq_false c2]
      refine iteT ?_
      exact k2 (by simp only [workOf]; rw [if_neg (fun q => c2 q.2)]) H M
    rw [decide_eq_true c2]
    refine iteF ?_
    refine ⟨_, rfl, p, _, F.dx, _, _, rfl, M.ob, T.c_Machine, T.n_Machine_registers, rfl, _, rfl, a, _, _, _, rfl, rfl, hs, rfl, F.rg, _, _, _, rfl, rfl, SqL.of M.rg, reg_ix M.r8 io.2.2, _, rfl, p, _, F.dx, _, _, rfl, M.ob, T.c_Machine, T.n_Machine_heap, rfl, _, rfl, F.hp, _, _, (m.reg r + ((o : Nat) : Int)).toNat, rfl, rfl, M.hp, by rw [vI_len]; exact ixN_int c1 c2, ?_⟩
    rw [vI_set]
    exact k1 _ (by simp only [workOf]; rw [if_pos ⟨c1, c2⟩]) _ (M.heap _)
  | take r s o =>
    obtain ⟨a, v1, v2, v3, v4, rfl, hs, t1, t2, t3, t4⟩ := TD.four (d1 := .str "take") (d2 := dN r) (d3 := dN s) (d4 := dN o) tv
    cases t1.str_
    cases t2.int_
    cases t3.int_
    cases t4.int_
    refine ⟨_, rfl, a, _, _, _, rfl, rfl, hs, rfl, ?_⟩
    refine ⟨_, rfl, rfl, _, rfl, ?_⟩
    rw [decide_eq_false (by decide)]
    refine iteF ?_
    refine ⟨_, rfl, rfl, _, rfl, ?_⟩
    rw [decide_eq_false (by decide)]
    refine iteF ?_
    refine ⟨_, rfl, p, _, F.dx, _, _, rfl, M.ob, T.c_Machine, T.n_Machine_registers, rfl, _, rfl, a, _, _, _, rfl, rfl, hs, rfl, F.rg, _, _, _, rfl, rfl, SqL.of M.rg, reg_ix M.r8 io.2.1, _, rfl, a, _, _, _, rfl, rfl, hs, rfl, _, _, rfl, rfl, ?_⟩
    refine ⟨_, rfl, _, _, rfl, rfl, _, rfl, ?_⟩
    by_cases c1 : 0 ≤ m.reg s + ((o : Nat) : Int)
    rotate_left
    · rw [decide_eq_false c1]
      refine iteF ⟨_, rfl, iteT ?_⟩
      exact k2 (by simp only [workOf]; rw [if_neg (fun q => c1 q.1)]) H M
    rw [decide_eq_true c1]
    refine iteT ⟨_, rfl, p, _, F.dx, _, _, rfl, M.ob, T.c_Machine, T.n_Machine_heap, rfl, F.hp, _, rfl, .inl (SqL.of M.hp), _, _, rfl, rfl, _, rfl, ?_⟩
    rw [vI_len]
    by_cases c2 : m.reg s + ((o : Nat) : Int) < ((m.heap.length : Nat) : Int)
    rotate_left
    · rw [decide_eq_false c2]
      refine iteT ?_
      exact k2 (by simp only [workOf]; rw [if_neg (fun q => c2 q.2)]) H M
    rw [decide_eq_true c2]
    refine iteF ?_
    have hx : m.heap[(m.reg s + ((o : Nat) : Int)).toNat]? = some (m.heap.getD (m.reg s + ((o : Nat) : Int)).toNat 0) := by
      rw [List.getD_eq_getElem?_getD, List.getElem?_eq_getElem (by omega)]
      rfl
    refine ⟨_, rfl, p, _, F.dx, _, _, rfl, M.ob, T.c_Machine, T.n_Machine_heap, rfl, _, rfl, F.hp, _, _, _, rfl, rfl, SqL.of M.hp, ix_int c1 (vI_at hx), _, rfl, p, _, F.dx, _, _, rfl, M.ob, T.c_Machine, T.n_Machine_registers, rfl, _, rfl, a, _, _, _, rfl, rfl, hs, rfl, F.rg, _, _, r, rfl, rfl, M.rg, reg_ixN M.r8 io.1, ?_⟩
    rw [vI_set]
    exact k1 _ (by simp only [workOf]; rw [if_pos ⟨c1, c2⟩]; rfl) _ (M.regs _ (by rw [List.length_set]; exact M.r8))
  | _ => cases hi
abbrev N_Machine_by_stack : List Str := ["self", "instruction", "word", "many", "stack", "at"]
theorem sc_Machine_by_stack : FnScope ["self", "instruction", "word", "many", "stack", "at"] ["self", "instruction"] (defScope s_Machine_by_stack) := ⟨rfl, rfl, rfl, by decide +kernel, rfl, by decide +kernel, by decide +kernel⟩
theorem m_Machine_by_stack (T : Txt w K mg) : Met P w K mg base 2 (He.ga K "Machine") "by_stack" (spN 2 (r_by_stack K)) [] := by
  obtain ⟨fd, F⟩ := T.f_Machine_by_stack
  refine met_mk F T.c_Machine T.e_Machine_by_stack (fun _ _ _ _ _ _ us hl => match us, hl with | [_, _], _ => rfl) sc_Machine_by_stack (fun _ _ _ _ h => h.1) (fun cdv A outer s H vs Q E hr h => ?_)
  have hu := hu_of hr
  have hul := hul_of hr
  obtain ⟨_, H0, p, g, F, m, n, ps, ov, v, i, size, names, rfl, M, tv, io, hi, hz, k1, k2⟩ := h
  have hz1 : m.stack.length ≤ 4000000 := by unfold MS.size at hz; omega
  refine ⟨_, (pss_cons (ps_set (i := 2) sc_Machine_by_stack.nd rfl (by first | exact Or.inl rfl | exact Or.inr rfl) (pe_ix (ix_tupK (K := K) rfl) (pv 1) (pe_int) (fun _ _ => rfl)))
      (pss_cons (ps_set (i := 3) sc_Machine_by_stack.nd rfl (by first | exact Or.inl rfl | exact Or.inr rfl) (pe_callB (call_lenK (K := K) rfl) (by rfl) T.b_len bt_len (pa_cons (pe_fldK (K := K) rfl (pv 0) rfl) pa_nil)))
      (pss_cons (ps_if (pt_cmpR op_eq (pv 2) (pe_str) (nomark _)) (pss_cons (ps_expr (pe_bm PySem.F.plainAttrs_list PySem.F.slot_list_extend PySem.F.type_list_extend mt_extend (pe_fldK (K := K) rfl (pv 0) rfl) (pa_cons (pe_op op_rep (pe_lst (pa_cons (pe_int) pa_nil)) (pe_ix (ix_tupK (K := K) rfl) (pv 1) (pe_int) (fun _ _ => rfl))) pa_nil)))
      (pss_cons (ps_expr (pe_mt0 (m_Machine_raise_top T) hr (by decide) (pv 0)))
      (pss_one (ps_ret (pe_bl))))) (pss_nil))
      (pss_cons (ps_if (pt_cmpR op_eq (pv 2) (pe_str) (nomark _)) (pss_cons (ps_if (pt_cmpR op_gt (pe_ix (ix_tupK (K := K) rfl) (pv 1) (pe_int) (fun _ _ => rfl)) (pv 3) (nomark _)) (pss_one (ps_ret (pe_bl))) (pss_nil))
      (pss_cons (ps_set (i := 4) sc_Machine_by_stack.nd rfl (by first | exact Or.inl rfl | exact Or.inr rfl) (pe_fldK (K := K) rfl (pv 0) rfl))
      (pss_cons (ps_delFrom (pv 4) (pe_op op_sub (pv 3) (pe_ix (ix_tupK (K := K) rfl) (pv 1) (pe_int) (fun _ _ => rfl))))
      (pss_one (ps_ret (pe_bl)))))) (pss_nil))
      (pss_cons (ps_set (i := 5) sc_Machine_by_stack.nd rfl (by first | exact Or.inl rfl | exact Or.inr rfl) (pe_op op_sub (pe_op op_sub (pv 3) (pe_int)) (pe_ix (ix_tupK (K := K) rfl) (pv 1) (pe_int) (fun _ _ => rfl))))
      (pss_cons (ps_if (pt_cmpR op_eq (pv 2) (pe_str) (nomark _)) (pss_one (ps_set (i := 5) sc_Machine_by_stack.nd rfl (by first | exact Or.inl rfl | exact Or.inr rfl) (pe_op op_sub (pe_op op_sub (pv 3) (pe_int)) (pe_ix (ix_tupK (K := K) rfl) (pv 1) (pe_int) (fun _ _ => rfl))))) (pss_nil))
      (pss_cons (ps_if (pt_cmpR op_lt (pv 5) (pe_int) (nomark _)) (pss_one (ps_ret (pe_bl))) (pss_nil))
      (pss_cons (ps_if (pt_cmpR op_eq (pv 2) (pe_str) (nomark _)) (pss_one (ps_asg (pe_ix (ix_listK (K := K) rfl) (pe_fldK (K := K) rfl (pv 0) rfl) (pe_ix (ix_tupK (K := K) rfl) (pv 1) (pe_int) (fun _ _ => rfl)) (fun _ _ => rfl)) (pg_sub (pe_fldK (K := K) rfl (pv 0) rfl) (pv 5) set_list))) (pss_one (ps_asg (pe_ix (ix_listK (K := K) rfl) (pe_fldK (K := K) rfl (pv 0) rfl) (pv 5) (fun _ _ => rfl)) (pg_sub (pe_fldK (K := K) rfl (pv 0) rfl) (pe_ix (ix_tupK (K := K) rfl) (pv 1) (pe_int) (fun _ _ => rfl)) set_list))))
      (pss_one (ps_ret (pe_bl))))))))))), ?_⟩
  cases i with
  | push x =>
    obtain ⟨a, v1, v2, rfl, hs, t1, t2⟩ := TD.two (d1 := .str "push") (d2 := dN x) tv
    cases t1.str_
    cases t2.int_
    refine ⟨_, rfl, a, _, _, _, rfl, rfl, hs, rfl, ?_⟩
    refine ⟨_, rfl, p, _, F.dx, _, _, rfl, M.ob, T.c_Machine, T.n_Machine_stack, rfl, F.sk, _, rfl, .inl (SqL.of M.sk), ?_⟩
    rw [vI_len]
    refine ⟨_, rfl, rfl, _, rfl, ?_⟩
    rw [decide_eq_true rfl]
    refine iteT ?_
    refine ⟨_, rfl, p, _, F.dx, _, _, rfl, M.ob, T.c_Machine, T.n_Machine_stack, rfl, .inl ⟨rfl, _, SqL.of M.sk⟩, by show 1 ≤ sizeLine; decide, fun pz hpz => ?_⟩
    have M3 := M.ext (Ext.new (o := .lst [V.int 0]) hpz)
    have hs3 := (Ext.new (o := .lst [V.int 0]) hpz).sqt hs
    have g3 : (upd H pz (.lst [V.int 0])) pz = some (.lst [V.int 0]) := upd_same
    generalize upd H pz (.lst [V.int 0]) = H3 at *
    have io' : x ≤ 400 := io
    refine ⟨_, rfl, a, _, _, _, rfl, rfl, hs3, rfl, pz, _, _, rfl, rfl, g3, by omega, by omega, by simp; exact sz (by omega), fun qz hqz => ?_⟩
    rw [rep0]
    have M4 := M3.ext (Ext.new (o := .lst (vI (List.replicate x 0))) hqz)
    have g4 : (upd H3 qz (.lst (vI (List.replicate x 0)))) qz = some (.lst (vI (List.replicate x 0))) := upd_same
    generalize upd H3 qz (.lst (vI (List.replicate x 0))) = H4 at *
    refine ⟨F.sk, qz, _, _, rfl, rfl, M4.sk, g4, by rw [vI_len, vI_len, List.length_replicate]; show _ ≤ 2 ^ 24; omega, ?_⟩
    rw [← vI_app]
    have M5 := M4.stack (m.stack ++ List.replicate x 0)
    generalize upd H4 F.sk (.lst (vI (m.stack ++ List.replicate x 0))) = H5 at *
    refine ⟨_, rfl, p, F.dx, _, rfl, M5.ob, rfl, rfl, H0, p, g, F, _, n, ps, ov, rfl, M5, fun H6 M6 _ => ?_⟩
    refine k1 _ rfl _ ?_
    have e : (m.stack ++ List.replicate x 0).length = m.stack.length + x := by simp
    simp only [e] at M6
    exact M6
  | drop x =>
    obtain ⟨a, v1, v2, rfl, hs, t1, t2⟩ := TD.two (d1 := .str "drop") (d2 := dN x) tv
    cases t1.str_
    cases t2.int_
    refine ⟨_, rfl, a, _, _, _, rfl, rfl, hs, rfl, ?_⟩
    refine ⟨_, rfl, p, _, F.dx, _, _, rfl, M.ob, T.c_Machine, T.n_Machine_stack, rfl, F.sk, _, rfl, .inl (SqL.of M.sk), ?_⟩
    rw [vI_len]
    refine ⟨_, rfl, rfl, _, rfl, ?_⟩
    rw [decide_eq_false (by decide)]
    refine iteF ?_
    refine ⟨_, rfl, rfl, _, rfl, ?_⟩
    rw [decide_eq_true rfl]
    refine iteT ?_
    refine ⟨_, rfl, a, _, _, _, rfl, rfl, hs, rfl, _, rfl, _, _, rfl, rfl, _, rfl, ?_⟩
    by_cases c1 : ((m.stack.length : Nat) : Int) < ((x : Nat) : Int)
    · rw [decide_eq_true c1]
      refine iteT ?_
      exact k2 (by simp only [workOf]; rw [if_pos (by omega)]) H M
    rw [decide_eq_false c1]
    refine iteF ?_
    refine ⟨_, rfl, p, _, F.dx, _, _, rfl, M.ob, T.c_Machine, T.n_Machine_stack, rfl, ?_⟩
    refine ⟨_, rfl, _, rfl, _, rfl, a, _, _, _, rfl, rfl, hs, rfl, _, _, rfl, rfl, F.sk, _, m.stack.length - x, rfl, ?_, M.sk, by rw [vI_len]; omega, ?_⟩
    · show V.int (((m.stack.length : Nat) : Int) - ((x : Nat) : Int)) = V.int ((m.stack.length - x : Nat) : Int)
      congr 1
      omega
    have e : (vI m.stack).take (m.stack.length - x) = vI (m.stack.take (m.stack.length - x)) := by simp [vI, List.map_take]
    rw [e]
    exact k1 _ (by simp only [workOf]; rw [if_neg (by omega)]) _ (M.stack _)
  | save x r =>
    obtain ⟨a, v1, v2, v3, rfl, hs, t1, t2, t3⟩ := TD.three (d1 := .str "save") (d2 := dN x) (d3 := dN r) tv
    cases t1.str_
    cases t2.int_
    cases t3.int_
    refine ⟨_, rfl, a, _, _, _, rfl, rfl, hs, rfl, ?_⟩
    refine ⟨_, rfl, p, _, F.dx, _, _, rfl, M.ob, T.c_Machine, T.n_Machine_stack, rfl, F.sk, _, rfl, .inl (SqL.of M.sk), ?_⟩
    rw [vI_len]
    refine ⟨_, rfl, rfl, _, rfl, ?_⟩
    rw [decide_eq_false (by decide)]
    refine iteF ?_
    refine ⟨_, rfl, rfl, _, rfl, ?_⟩
    rw [decide_eq_false (by decide)]
    refine iteF ?_
    refine ⟨_, rfl, _, _, rfl, rfl, _, rfl, a, _, _, _, rfl, rfl, hs, rfl, _, _, rfl, rfl, ?_⟩
    refine ⟨_, rfl, rfl, _, rfl, ?_⟩
    rw [decide_eq_false (by decide)]
    refine iteF ?_
    refine ⟨_, rfl, _, _, rfl, rfl, _, rfl, ?_⟩
    by_cases c1 : x < m.stack.length
    rotate_left
    · rw [decide_eq_true (show ((m.stack.length : Nat) : Int) - 1 - ((x : Nat) : Int) < 0 by omega)]
      refine iteT ?_
      exact k2 (by simp only [workOf]; rw [if_neg c1]) H M
    rw [decide_eq_false (show ¬ ((m.stack.length : Nat) : Int) - 1 - ((x : Nat) : Int) < 0 by omega)]
    refine iteF ?_
    refine ⟨_, rfl, rfl, _, rfl, ?_⟩
    rw [decide_eq_true rfl]
    refine iteT ?_
    refine ⟨_, rfl, p, _, F.dx, _, _, rfl, M.ob, T.c_Machine, T.n_Machine_registers, rfl, _, rfl, a, _, _, _, rfl, rfl, hs, rfl, F.rg, _, _, _, rfl, rfl, SqL.of M.rg, reg_ix M.r8 io.2, _, rfl, p, _, F.dx, _, _, rfl, M.ob, T.c_Machine, T.n_Machine_stack, rfl, _, rfl, F.sk, _, _, m.stack.length - 1 - x, rfl, rfl, M.sk, ?_, ?_⟩
    · rw [vI_len, show ((m.stack.length : Nat) : Int) - 1 - ((x : Nat) : Int) = ((m.stack.length - 1 - x : Nat) : Int) by omega]
      exact ixN_int (by omega) (by omega)
    rw [vI_set]
    exact k1 _ (by simp only [workOf]; rw [if_pos c1]) _ (M.stack _)
  | load r x =>
    obtain ⟨a, v1, v2, v3, rfl, hs, t1, t2, t3⟩ := TD.three (d1 := .str "load") (d2 := dN r) (d3 := dN x) tv
    cases t1.str_
    cases t2.int_
    cases t3.int_
    refine ⟨_, rfl, a, _, _, _, rfl, rfl, hs, rfl, ?_⟩
    refine ⟨_, rfl, p, _, F.dx, _, _, rfl, M.ob, T.c_Machine, T.n_Machine_stack, rfl, F.sk, _, rfl, .inl (SqL.of M.sk), ?_⟩
    rw [vI_len]
    refine ⟨_, rfl, rfl, _, rfl, ?_⟩
    rw [decide_eq_false (by decide)]
    refine iteF ?_
    refine ⟨_, rfl, rfl, _, rfl, ?_⟩
    rw [decide_eq_false (by decide)]
    refine iteF ?_
    refine ⟨_, rfl, _, _, rfl, rfl, _, rfl, a, _, _, _, rfl, rfl, hs, rfl, _, _, rfl, rfl, ?_⟩
    refine ⟨_, rfl, rfl, _, rfl, ?_⟩
    rw [decide_eq_true rfl]
    refine iteT ?_
    refine ⟨_, rfl, _, _, rfl, rfl, _, rfl, a, _, _, _, rfl, rfl, hs, rfl, _, _, rfl, rfl, ?_⟩
    refine ⟨_, rfl, _, _, rfl, rfl, _, rfl, ?_⟩
    by_cases c1 : x < m.stack.length
    rotate_left
    · rw [decide_eq_true (show ((m.stack.length : Nat) : Int) - 1 - ((x : Nat) : Int) < 0 by omega)]
      refine iteT ?_
      exact k2 (by simp only [workOf]; rw [if_neg c1]) H M
    rw [decide_eq_false (show ¬ ((m.stack.length : Nat) : Int) - 1 - ((x : Nat) : Int) < 0 by omega)]
    refine iteF ?_
    refine ⟨_, rfl, rfl, _, rfl, ?_⟩
    rw [decide_eq_false (by decide)]
    refine iteF ?_
    have hx : m.stack[m.stack.length - 1 - x]? = some (m.stack.getD (m.stack.length - 1 - x) 0) := by
      rw [List.getD_eq_getElem?_getD, List.getElem?_eq_getElem (by omega)]
      rfl
    refine ⟨_, rfl, p, _, F.dx, _, _, rfl, M.ob, T.c_Machine, T.n_Machine_stack, rfl, _, rfl, F.sk, _, _, _, rfl, rfl, SqL.of M.sk, ix_int (x := .int (m.stack.getD (m.stack.length - 1 - x) 0)) (by omega) ?_, _, rfl, p, _, F.dx, _, _, rfl, M.ob, T.c_Machine, T.n_Machine_registers, rfl, _, rfl, a, _, _, _, rfl, rfl, hs, rfl, F.rg, _, _, r, rfl, rfl, M.rg, reg_ixN M.r8 io.1, ?_⟩
    · rw [show (((m.stack.length : Nat) : Int) - 1 - ((x : Nat) : Int)).toNat = m.stack.length - 1 - x by omega]
      exact vI_at hx
    rw [vI_set]
    exact k1 _ (by simp only [workOf]; rw [if_pos c1]; rfl) _ (M.regs _ (by rw [List.length_set]; exact M.r8))
  | _ => cases hi
end
end K47

set_option Elab.async false
set_option linter.all false
set_option maxRecDepth 100000
set_option maxHeartbeats 4000000
namespace K47
open PySem PySem.Spec PyProof.Rows L2
open C8 hiding CX0 E0
def r_by_way (K : PySem.W.Frag) : List V → Hp → VK → Prop := fun vs H Q => ∃ (H0 : Hp) (p : Addr) (g : Img) (F : MFx) (m : MS) (n : Nat) (ps : List Nat) (ov : Bool) (v : V) (i : Ins) (pc size : Nat), vs = [.ref p, v, .int ((pc : Nat) : Int)] ∧ MAt K H0 H p g F m n ps ov ∧ TD K H v (eIns i) ∧ InsOk size g.names i ∧ isWay i = true ∧ m.size ≤ 4000000 ∧
  (stepOf g pc m i = .fault → ∀ H', MAt K H0 H' p g F m n ps ov → Q .non H') ∧ (stepOf g pc m i = .over → ∀ H', MAt K H0 H' p g F m n ps true → Q (.int ((pc : Nat) : Int)) H') ∧ (∀ pc' m', stepOf g pc m i = .next pc' m' → ∀ H', MAt K H0 H' p g F m' n ps ov → Q (.int pc') H')
def r_done (K : PySem.W.Frag) : List V → Hp → VK → Prop := fun vs H Q => ∃ (H0 : Hp) (p : Addr) (g : Img) (F : MFx) (m : MS) (n : Nat) (ps : List Nat) (ov : Bool) (v : V) (i : Ins) (pc size : Nat), vs = [.ref p, v, .int ((pc : Nat) : Int)] ∧ MAt K H0 H p g F m n ps ov ∧ TD K H v (eIns i) ∧ InsOk size g.names i ∧ m.size ≤ 4000000 ∧
  (stepOf g pc m i = .fault → ∀ H', MAt K H0 H' p g F m n ps ov → Q .non H') ∧ (stepOf g pc m i = .over → ∀ H', MAt K H0 H' p g F m n ps true → Q (.int ((pc : Nat) : Int)) H') ∧ (∀ pc' m', stepOf g pc m i = .next pc' m' → ∀ H', MAt K H0 H' p g F m' n ps ov → Q (.int pc') H')
section
variable {P : Program} {w : World} {K : PySem.W.Frag} {mg : Str → Option Value} {base : Heap}
abbrev N_Machine_by_way : List Str := ["self", "instruction", "address", "word", "entry"]
theorem sc_Machine_by_way : FnScope ["self", "instruction", "address", "word", "entry"] ["self", "instruction", "address"] (defScope s_Machine_by_way) := ⟨rfl, rfl, rfl, by decide +kernel, rfl, by decide +kernel, by decide +kernel⟩
theorem m_Machine_by_way (T : Txt w K mg) : Met P w K mg base 2 (He.ga K "Machine") "by_way" (spN 3 (r_by_way K)) [] := by
  obtain ⟨fd, F⟩ := T.f_Machine_by_way
  refine met_mk F T.c_Machine T.e_Machine_by_way (fun _ _ _ _ _ _ us hl => match us, hl with | [_, _, _], _ => rfl) sc_Machine_by_way (fun _ _ _ _ h => h.1) (fun cdv A outer s H vs Q E hr h => ?_)
  have hu := hu_of hr
  have hul := hul_of hr
  obtain ⟨_, H0, p, g, F, m, n, ps, ov, v, i, pc, size, rfl, M, tv, io, hi, hz, k1, k2, k3⟩ := h
  have hz1 : m.stack.length ≤ 4000000 := by unfold MS.size at hz; omega
  refine ⟨_, (pss_cons (ps_set (i := 3) sc_Machine_by_way.nd rfl (by first | exact Or.inl rfl | exact Or.inr rfl) (pe_ix (ix_tupK (K := K) rfl) (pv 1) (pe_int) (fun _ _ => rfl)))
      (pss_cons (ps_if (pt_cmpR op_eq (pv 3) (pe_str) (nomark _)) (pss_one (ps_ret (pe_ix (ix_tupK (K := K) rfl) (pv 1) (pe_int) (fun _ _ => rfl)))) (pss_nil))
      (pss_cons (ps_if (pt_cmpR op_eq (pv 3) (pe_str) (nomark _)) (pss_cons (ps_if (pt_cmpR op_lt (pe_ix (ix_listK (K := K) rfl) (pe_fldK (K := K) rfl (pv 0) rfl) (pe_ix (ix_tupK (K := K) rfl) (pv 1) (pe_int) (fun _ _ => rfl)) (fun _ _ => rfl)) (pe_ix (ix_listK (K := K) rfl) (pe_fldK (K := K) rfl (pv 0) rfl) (pe_ix (ix_tupK (K := K) rfl) (pv 1) (pe_int) (fun _ _ => rfl)) (fun _ _ => rfl)) (nomark _)) (pss_one (ps_ret (pe_op op_add (pv 2) (pe_int)))) (pss_nil))
      (pss_one (ps_ret (pe_ix (ix_tupK (K := K) rfl) (pv 1) (pe_int) (fun _ _ => rfl))))) (pss_nil))
      (pss_cons (ps_if (pt_cmpR op_eq (pv 3) (pe_str) (nomark _)) (pss_cons (ps_set (i := 4) sc_Machine_by_way.nd rfl (by first | exact Or.inl rfl | exact Or.inr rfl) (pe_ix (ix_listK (K := K) rfl) (pe_fldK (K := K) rfl (pv 0) rfl) (pe_ix (ix_tupK (K := K) rfl) (pv 1) (pe_int) (fun _ _ => rfl)) (fun _ _ => rfl)))
      (pss_cons (ps_if (pt_not (pt_chain op_le op_lt (pe_int) (pv 4) (pe_callB (call_lenK (K := K) rfl) (by rfl) T.b_len bt_len (pa_cons (pe_ix (ix_tupK (K := K) rfl) (pv 1) (pe_int) (fun _ _ => rfl)) pa_nil)))) (pss_one (ps_ret (pe_non))) (pss_nil))
      (pss_one (ps_ret (pe_ix (ix_tupK (K := K) rfl) (pe_ix (ix_tupK (K := K) rfl) (pv 1) (pe_int) (fun _ _ => rfl)) (pv 4) (fun _ _ => rfl)))))) (pss_nil))
      (pss_cons (ps_if (pt_cmpR op_eq (pv 3) (pe_str) (nomark _)) (pss_cons (ps_if (pt_cmpR op_eq (pe_callB (call_lenK (K := K) rfl) (by rfl) T.b_len bt_len (pa_cons (pe_fldK (K := K) rfl (pv 0) rfl) pa_nil)) (pe_int) (nomark _)) (pss_cons (ps_fld (pv 0) (pe_bl) rfl)
      (pss_one (ps_ret (pv 2)))) (pss_nil))
      (pss_one (ps_ret (pe_bm0 PySem.F.plainAttrs_list PySem.F.slot_list_pop PySem.F.type_list_pop mt_pop (pe_fldK (K := K) rfl (pv 0) rfl))))) (pss_nil))
      (pss_cons (ps_if (pt_cmpR op_eq (pv 3) (pe_str) (nomark _)) (pss_cons (ps_expr (pe_bm PySem.F.plainAttrs_list PySem.F.slot_list_append PySem.F.type_list_append mt_append (pe_fldK (K := K) rfl (pv 0) rfl) (pa_cons (pe_op op_add (pv 2) (pe_int)) pa_nil)))
      (pss_one (ps_expr (pe_mt0 (m_Machine_raise_top T) hr (by decide) (pv 0))))) (pss_nil))
      (pss_one (ps_ret (pe_dget hu (pe_fldK (K := K) rfl (pv 0) rfl) (pe_ix (ix_tupK (K := K) rfl) (pv 1) (pe_int) (fun _ _ => rfl)) (fun _ _ => rfl)))))))))), ?_⟩
  cases i with
  | jump j =>
    obtain ⟨a, v1, v2, rfl, hs, t1, t2⟩ := TD.two (d1 := .str "jump") (d2 := dN j) tv
    cases t1.str_
    cases t2.int_
    refine ⟨_, rfl, a, _, _, _, rfl, rfl, hs, rfl, ?_⟩
    refine ⟨_, rfl, rfl, _, rfl, ?_⟩
    rw [decide_eq_true rfl]
    refine iteT ?_
    refine ⟨_, rfl, a, _, _, _, rfl, rfl, hs, rfl, ?_⟩
    exact k3 _ _ rfl H M
  | less r s j =>
    obtain ⟨a, v1, v2, v3, v4, rfl, hs, t1, t2, t3, t4⟩ := TD.four (d1 := .str "less") (d2 := dN r) (d3 := dN s) (d4 := dN j) tv
    cases t1.str_
    cases t2.int_
    cases t3.int_
    cases t4.int_
    refine ⟨_, rfl, a, _, _, _, rfl, rfl, hs, rfl, ?_⟩
    refine ⟨_, rfl, rfl, _, rfl, ?_⟩
    rw [decide_eq_false (by decide)]
    refine iteF ?_
    refine ⟨_, rfl, rfl, _, rfl, ?_⟩
    rw [decide_eq_true rfl]
    refine iteT ?_
    refine ⟨_, rfl, p, _, F.dx, _, _, rfl, M.ob, T.c_Machine, T.n_Machine_registers, rfl, _, rfl, a, _, _, _, rfl, rfl, hs, rfl, F.rg, _, _, _, rfl, rfl, SqL.of M.rg, reg_ix M.r8 io.1, _, rfl, p, _, F.dx, _, _, rfl, M.ob, T.c_Machine, T.n_Machine_registers, rfl, _, rfl, a, _, _, _, rfl, rfl, hs, rfl, F.rg, _, _, _, rfl, rfl, SqL.of M.rg, reg_ix M.r8 io.2.1, _, _, rfl, rfl, _, rfl, ?_⟩
    by_cases c1 : m.reg r < m.reg s
    · rw [decide_eq_true c1]
      refine iteT ⟨_, rfl, _, _, rfl, rfl, ?_⟩
      exact k3 ((pc + 1 : Nat) : Int) m (by simp only [stepOf]; rw [if_pos c1]) H M
    · rw [decide_eq_false c1]
      refine iteF ⟨_, rfl, a, _, _, _, rfl, rfl, hs, rfl, ?_⟩
      exact k3 ((j : Nat) : Int) m (by simp only [stepOf]; rw [if_neg c1]) H M
  | table r js =>
    obtain ⟨a, v1, v2, v3, rfl, hs, t1, t2, t3⟩ := TD.three (d1 := .str "table") (d2 := dN r) (d3 := .tuple ((js.map fun j : Nat => (j : Int)).map .int)) tv
    cases t1.str_
    cases t2.int_
    obtain ⟨ja, rfl, hja⟩ := t3.ints
    refine ⟨_, rfl, a, _, _, _, rfl, rfl, hs, rfl, ?_⟩
    refine ⟨_, rfl, rfl, _, rfl, ?_⟩
    rw [decide_eq_false (by decide)]
    refine iteF ?_
    refine ⟨_, rfl, rfl, _, rfl, ?_⟩
    rw [decide_eq_false (by decide)]
    refine iteF ?_
    refine ⟨_, rfl, rfl, _, rfl, ?_⟩
    rw [decide_eq_true rfl]
    refine iteT ?_
    refine ⟨_, rfl, p, _, F.dx, _, _, rfl, M.ob, T.c_Machine, T.n_Machine_registers, rfl, _, rfl, a, _, _, _, rfl, rfl, hs, rfl, F.rg, _, _, _, rfl, rfl, SqL.of M.rg, reg_ix M.r8 io.1, ?_⟩
    refine ⟨_, rfl, _, _, rfl, rfl, _, rfl, ?_⟩
    by_cases c1 : 0 ≤ m.reg r
    rotate_left
    · rw [decide_eq_false c1]
      refine iteF ⟨_, rfl, iteT ?_⟩
      exact k1 (by simp only [stepOf]; rw [if_neg (fun q => c1 q.1)]) H M
    rw [decide_eq_true c1]
    refine iteT ⟨_, rfl, a, _, _, _, rfl, rfl, hs, rfl, ja, _, rfl, .inr hja, _, _, rfl, rfl, _, rfl, ?_⟩
    rw [List.length_map, List.length_map]
    by_cases c2 : m.reg r < ((js.length : Nat) : Int)
    rotate_left
    · rw [decide_eq_false c2]
      refine iteT ?_
      exact k1 (by simp only [stepOf]; rw [if_neg (fun q => c2 q.2)]) H M
    rw [decide_eq_true c2]
    refine iteF ?_
    have hx : (((js.map fun j : Nat => (j : Int)).map V.int))[(m.reg r).toNat]? = some (.int ((js.getD (m.reg r).toNat 0 : Nat) : Int)) := by
      rw [List.getElem?_map, List.getElem?_map, List.getD_eq_getElem?_getD, List.getElem?_eq_getElem (by omega)]
      rfl
    refine ⟨_, rfl, a, _, _, _, rfl, rfl, hs, rfl, _, rfl, ja, _, _, _, rfl, rfl, hja, ix_int c1 hx, ?_⟩
    exact k3 _ m (by simp only [stepOf]; rw [if_pos ⟨c1, c2⟩]) H M
  | ret =>
    obtain ⟨a, v1, rfl, hs, t1⟩ := TD.one (d1 := .str "return") tv
    cases t1.str_
    refine ⟨_, rfl, a, _, _, _, rfl, rfl, hs, rfl, ?_⟩
    refine ⟨_, rfl, rfl, _, rfl, ?_⟩
    rw [decide_eq_false (by decide)]
    refine iteF ?_
    refine ⟨_, rfl, rfl, _, rfl, ?_⟩
    rw [decide_eq_false (by decide)]
    refine iteF ?_
    refine ⟨_, rfl, rfl, _, rfl, ?_⟩
    rw [decide_eq_false (by decide)]
    refine iteF ?_
    refine ⟨_, rfl, rfl, _, rfl, ?_⟩
    rw [decide_eq_true rfl]
    refine iteT ?_
    refine ⟨_, rfl, p, _, F.dx, _, _, rfl, M.ob, T.c_Machine, T.n_Machine_stack, rfl, F.sk, _, rfl, .inl (SqL.of M.sk), rfl, _, rfl, ?_⟩
    rw [vI_len]
    cases hsk : m.stack.getLast? with
    | none =>
      have h0 : m.stack = [] := List.getLast?_eq_none_iff.mp hsk
      rw [h0]
      refine iteT ?_
      refine ⟨_, rfl, p, _, F.dx, _, rfl, M.ob, T.c_Machine, T.n_Machine_over, (by show 10 < 1000; decide), ?_⟩
      refine ⟨_, rfl, ?_⟩
      exact k2 (by simp only [stepOf, hsk]) _ (M.obj true n m.words m.top)
    | some y =>
      have hne : m.stack ≠ [] := fun q => by rw [q] at hsk; cases hsk
      have hl0 : 0 < m.stack.length := List.length_pos_iff.mpr hne
      rw [dneq (by omega)]
      refine iteF ?_
      refine ⟨_, rfl, p, _, F.dx, _, _, rfl, M.ob, T.c_Machine, T.n_Machine_stack, rfl, .inl ⟨rfl, _, SqL.of M.sk⟩, F.sk, _, .int y, rfl, rfl, M.sk, ?_, ?_⟩
      · rw [vI_len]
        refine vI_at ?_
        rw [← List.getLast?_eq_getElem?]
        exact hsk
      have e : (vI m.stack).dropLast = vI m.stack.dropLast := by simp [vI, List.map_dropLast]
      rw [e]
      exact k3 y _ (by simp only [stepOf, hsk]) _ (M.stack _)
  | call f =>
    obtain ⟨a, v1, v2, rfl, hs, t1, t2⟩ := TD.two (d1 := .str "call") (d2 := .str f) tv
    cases t1.str_
    cases t2.str_
    refine ⟨_, rfl, a, _, _, _, rfl, rfl, hs, rfl, ?_⟩
    refine ⟨_, rfl, rfl, _, rfl, ?_⟩
    rw [decide_eq_false (by decide)]
    refine iteF ?_
    refine ⟨_, rfl, rfl, _, rfl, ?_⟩
    rw [decide_eq_false (by decide)]
    refine iteF ?_
    refine ⟨_, rfl, rfl, _, rfl, ?_⟩
    rw [decide_eq_false (by decide)]
    refine iteF ?_
    refine ⟨_, rfl, rfl, _, rfl, ?_⟩
    rw [decide_eq_false (by decide)]
    refine iteF ?_
    refine ⟨_, rfl, rfl, _, rfl, ?_⟩
    rw [decide_eq_true rfl]
    refine iteT ?_
    refine ⟨_, rfl, p, _, F.dx, _, _, rfl, M.ob, T.c_Machine, T.n_Machine_stack, rfl, .inl ⟨rfl, _, SqL.of M.sk⟩, _, rfl, _, _, rfl, rfl, F.sk, _, _, rfl, rfl, M.sk, by rw [vI_len]; exact Nat.lt_of_le_of_lt hz1 (by decide), ?_⟩
    have e : vI m.stack ++ [V.int (((pc : Nat) : Int) + 1)] = vI (m.stack ++ [((pc + 1 : Nat) : Int)]) := by rw [vI_app]; rfl
    have M2 := M.stack (m.stack ++ [((pc + 1 : Nat) : Int)])
    rw [← e] at M2
    have hs2 := (M.kS (o := .lst (vI m.stack ++ [V.int (((pc : Nat) : Int) + 1)]))).sq hs
    generalize upd H F.sk (.lst (vI m.stack ++ [V.int (((pc : Nat) : Int) + 1)])) = H2 at *
    refine ⟨_, rfl, p, F.dx, _, rfl, M2.ob, rfl, rfl, H0, p, g, F, _, n, ps, ov, rfl, M2, fun H3 M3 k3' => ?_⟩
    have hs3 := k3'.sq hs2
    obtain ⟨kvs, hst, hkv⟩ := M3.st
    refine ⟨_, rfl, p, _, F.dx, _, _, rfl, M3.ob, T.c_Machine, T.n_Machine_starts, rfl, _, rfl, a, _, _, _, rfl, rfl, hs3, rfl, F.st, .int ((addrOf g f : Nat) : Int), rfl, ?_, ?_⟩
    · have := DGet.k (k := .inr f) hst
      rw [hkv f io] at this
      exact this
    refine k3 ((addrOf g f : Nat) : Int) _ rfl H3 ?_
    have e2 : (m.stack ++ [((pc + 1 : Nat) : Int)]).length = m.stack.length + 1 := by simp
    simp only [e2] at M3
    exact M3
  | go f =>
    obtain ⟨a, v1, v2, rfl, hs, t1, t2⟩ := TD.two (d1 := .str "go") (d2 := .str f) tv
    cases t1.str_
    cases t2.str_
    refine ⟨_, rfl, a, _, _, _, rfl, rfl, hs, rfl, ?_⟩
    refine ⟨_, rfl, rfl, _, rfl, ?_⟩
    rw [decide_eq_false (by decide)]
    refine iteF ?_
    refine ⟨_, rfl, rfl, _, rfl, ?_⟩
    rw [decide_eq_false (by decide)]
    refine iteF ?_
    refine ⟨_, rfl, rfl, _, rfl, ?_⟩
    rw [decide_eq_false (by decide)]
    refine iteF ?_
    refine ⟨_, rfl, rfl, _, rfl, ?_⟩
    rw [decide_eq_false (by decide)]
    refine iteF ?_
    refine ⟨_, rfl, rfl, _, rfl, ?_⟩
    rw [decide_eq_false (by decide)]
    refine iteF ?_
    obtain ⟨kvs, hst, hkv⟩ := M.st
    refine ⟨_, rfl, p, _, F.dx, _, _, rfl, M.ob, T.c_Machine, T.n_Machine_starts, rfl, _, rfl, a, _, _, _, rfl, rfl, hs, rfl, F.st, .int ((addrOf g f : Nat) : Int), rfl, ?_, ?_⟩
    · have := DGet.k (k := .inr f) hst
      rw [hkv f io] at this
      exact this
    exact k3 ((addrOf g f : Nat) : Int) _ rfl H M
  | _ => cases hi
theorem wd_at {K : PySem.W.Frag} {H : Hp} {v : V} {i : Ins} (tv : TD K H v (eIns i)) : ∃ a xs, v = .ref a ∧ SqT K H a (.str (insWord i) :: xs) := by
  obtain ⟨a, xs, rfl, ha, ts⟩ := tv.open_
  obtain ⟨w0, ps, rfl, tw, tp⟩ := ts.cons_
  cases tw.str_
  exact ⟨a, ps, rfl, ha⟩
theorem way_word (i : Ins) : inV (.str (insWord i)) (l_WAYS.map V.str) = isWay i := by cases i <;> simp only [insWord, isWay] <;> decide +kernel
theorem stack_word (i : Ins) : inV (.str (insWord i)) (l_STACK_WORDS.map V.str) = isStack i := by cases i <;> simp only [insWord, isStack] <;> decide +kernel
theorem heap_word (i : Ins) : inV (.str (insWord i)) (l_HEAP_WORDS.map V.str) = isHeap i := by cases i <;> simp only [insWord, isHeap] <;> decide +kernel
theorem kinds_of (i : Ins) : (isWay i = true ∧ isStack i = false ∧ isHeap i = false ∧ isReg i = false) ∨ (isWay i = false ∧ isStack i = true) ∨ (isWay i = false ∧ isStack i = false ∧ isHeap i = true) ∨ (isWay i = false ∧ isStack i = false ∧ isHeap i = false ∧ isReg i = true) := by cases i <;> simp [isWay, isStack, isHeap, isReg]
theorem step_work {g : Img} {pc : Nat} {m : MS} {i : Ins} (h : isWay i = false) : stepOf g pc m i = match workOf m i with | none => .fault | some m' => .next ((pc + 1 : Nat) : Int) m' := by cases i <;> first | rfl | cases h
theorem reg_work {m : MS} {i : Ins} (h : isReg i = true) : ∃ m', workOf m i = some m' := by cases i <;> first | exact ⟨_, rfl⟩ | cases h
abbrev N_Machine_done : List Str := ["self", "instruction", "address", "word", "good"]
theorem sc_Machine_done : FnScope ["self", "instruction", "address", "word", "good"] ["self", "instruction", "address"] (defScope s_Machine_done) := ⟨rfl, rfl, rfl, by decide +kernel, rfl, by decide +kernel, by decide +kernel⟩
theorem m_Machine_done (T : Txt w K mg) : Met P w K mg base 3 (He.ga K "Machine") "done" (spN 3 (r_done K)) [] := by
  obtain ⟨fd, F⟩ := T.f_Machine_done
  refine met_mk F T.c_Machine T.e_Machine_done (fun _ _ _ _ _ _ us hl => match us, hl with | [_, _, _], _ => rfl) sc_Machine_done (fun _ _ _ _ h => h.1) (fun cdv A outer s H vs Q E hr h => ?_)
  have hu := hu_of hr
  have hul := hul_of hr
  obtain ⟨_, H0, p, g, F, m, n, ps, ov, v, i, pc, size, rfl, M, tv, io, hz, k1, k2, k3⟩ := h
  obtain ⟨a, xs, rfl, hs⟩ := wd_at tv
  refine ⟨_, (pss_cons (ps_set (i := 3) sc_Machine_done.nd rfl (by first | exact Or.inl rfl | exact Or.inr rfl) (pe_ix (ix_tupK (K := K) rfl) (pv 1) (pe_int) (fun _ _ => rfl)))
      (pss_cons (ps_if (pt_cmpR (op_inK (K := K) rfl) (pv 3) (pe_gc (by rfl) T.g_WAYS) (by rfl)) (pss_one (ps_ret (pe_mt (m_Machine_by_way T) hr (by decide) (pv 0) (pa_cons (pv 1) (pa_cons (pv 2) pa_nil))))) (pss_nil))
      (pss_cons (ps_set (i := 4) sc_Machine_done.nd rfl (by first | exact Or.inl rfl | exact Or.inr rfl) (pe_bl))
      (pss_cons (ps_if (pt_cmpR (op_inK (K := K) rfl) (pv 3) (pe_gc (by rfl) T.g_STACK_WORDS) (by rfl)) (pss_one (ps_set (i := 4) sc_Machine_done.nd rfl (by first | exact Or.inl rfl | exact Or.inr rfl) (pe_mt (m_Machine_by_stack T) hr (by decide) (pv 0) (pa_cons (pv 1) pa_nil)))) (pss_one (ps_if (pt_cmpR (op_inK (K := K) rfl) (pv 3) (pe_gc (by rfl) T.g_HEAP_WORDS) (by rfl)) (pss_one (ps_set (i := 4) sc_Machine_done.nd rfl (by first | exact Or.inl rfl | exact Or.inr rfl) (pe_mt (m_Machine_by_heap T) hr (by decide) (pv 0) (pa_cons (pv 1) pa_nil)))) (pss_one (ps_expr (pe_mt (m_Machine_by_registers T) hr (by decide) (pv 0) (pa_cons (pv 1) pa_nil)))))))
      (pss_cons (ps_if (pt_val (pv 4)) (pss_one (ps_ret (pe_op op_add (pv 2) (pe_int)))) (pss_nil))
      (pss_one (ps_ret (pe_non)))))))), ?_⟩
  refine ⟨_, rfl, a, _, _, _, rfl, rfl, hs, ix_nat (i := 0) rfl, ?_⟩
  refine ⟨_, rfl, He.ga K "WAYS", _, rfl, .inr (T.t_WAYS H), rfl, flat_strs _, _, rfl, ?_⟩
  rw [if_neg Bool.false_ne_true, way_word]
  rcases kinds_of i with ⟨b1, b2, b3, b4⟩ | ⟨b1, b2⟩ | ⟨b1, b2, b3⟩ | ⟨b1, b2, b3, b4⟩
  · rw [b1]
    refine iteT ⟨_, rfl, p, F.dx, _, rfl, M.ob, rfl, _, rfl, _, rfl, rfl, H0, p, g, F, m, n, ps, ov, _, i, pc, size, rfl, M, tv, io, b1, hz, k1, k2, k3⟩
  · rw [b1]
    refine iteF ?_
    refine ⟨_, rfl, He.ga K "STACK_WORDS", _, rfl, .inr (T.t_STACK_WORDS H), rfl, flat_strs _, _, rfl, ?_⟩
    rw [if_neg Bool.false_ne_true, stack_word, b2]
    refine iteT ⟨_, rfl, p, F.dx, _, rfl, M.ob, rfl, _, rfl, rfl, H0, p, g, F, m, n, ps, ov, _, i, size, g.names, rfl, M, tv, io, b2, hz, fun m' hw H1 M1 => ?_, fun hw H1 M1 => ?_⟩
    · refine ⟨_, rfl, true, rfl, iteT ⟨_, rfl, _, _, rfl, rfl, ?_⟩⟩
      exact k3 ((pc + 1 : Nat) : Int) m' (by rw [step_work b1, hw]) H1 M1
    · refine ⟨_, rfl, false, rfl, iteF ?_⟩
      exact k1 (by rw [step_work b1, hw]) H1 M1
  · rw [b1]
    refine iteF ?_
    refine ⟨_, rfl, He.ga K "STACK_WORDS", _, rfl, .inr (T.t_STACK_WORDS H), rfl, flat_strs _, _, rfl, ?_⟩
    rw [if_neg Bool.false_ne_true, stack_word, b2]
    refine iteF ?_
    refine ⟨_, rfl, He.ga K "HEAP_WORDS", _, rfl, .inr (T.t_HEAP_WORDS H), rfl, flat_strs _, _, rfl, ?_⟩
    rw [if_neg Bool.false_ne_true, heap_word, b3]
    refine iteT ⟨_, rfl, p, F.dx, _, rfl, M.ob, rfl, _, rfl, rfl, H0, p, g, F, m, n, ps, ov, _, i, size, g.names, rfl, M, tv, io, b3, hz, fun m' hw H1 M1 => ?_, fun hw H1 M1 => ?_⟩
    · refine ⟨_, rfl, true, rfl, iteT ⟨_, rfl, _, _, rfl, rfl, ?_⟩⟩
      exact k3 ((pc + 1 : Nat) : Int) m' (by rw [step_work b1, hw]) H1 M1
    · refine ⟨_, rfl, false, rfl, iteF ?_⟩
      exact k1 (by rw [step_work b1, hw]) H1 M1
  · rw [b1]
    refine iteF ?_
    refine ⟨_, rfl, He.ga K "STACK_WORDS", _, rfl, .inr (T.t_STACK_WORDS H), rfl, flat_strs _, _, rfl, ?_⟩
    rw [if_neg Bool.false_ne_true, stack_word, b2]
    refine iteF ?_
    refine ⟨_, rfl, He.ga K "HEAP_WORDS", _, rfl, .inr (T.t_HEAP_WORDS H), rfl, flat_strs _, _, rfl, ?_⟩
    rw [if_neg Bool.false_ne_true, heap_word, b3]
    refine iteF ?_
    obtain ⟨m', hw⟩ := reg_work (m := m) b4
    refine ⟨_, rfl, p, F.dx, _, rfl, M.ob, rfl, _, rfl, rfl, H0, p, g, F, m, m', n, ps, ov, _, i, size, g.names, rfl, M, tv, io, b4, hw, fun H1 M1 => ?_⟩
    refine ⟨_, rfl, true, rfl, iteT ⟨_, rfl, _, _, rfl, rfl, ?_⟩⟩
    exact k3 ((pc + 1 : Nat) : Int) m' (by rw [step_work b1, hw]) H1 M1
end
end K47

set_option Elab.async false
set_option linter.all false
set_option maxRecDepth 100000
set_option maxHeartbeats 4000000
namespace K47
open PySem PySem.Spec PyProof.Rows L2
open C8 hiding CX0 E0
def endW : End → Str
  | .ended => "ended"
  | .fault => "fault"
  | .spent => "spent"
def r_run (K : PySem.W.Frag) : List V → Hp → VK → Prop := fun vs H Q => ∃ (H0 : Hp) (p : Addr) (g : Img) (F : MFx) (m : MS) (pc : Int) (limit : Nat) (keeps : Bool), vs = [.ref p, .int pc, .int ((limit : Nat) : Int), .bl keeps] ∧ MAt K H0 H p g F m 0 [] false ∧ ImgOk g ∧ Fine g limit pc m ∧ limit ≤ 1000000 ∧
  ∀ H' ov, MAt K H0 H' p g F (runN g limit pc m).m (runN g limit pc m).t.length (if keeps = true then (runN g limit pc m).t else []) ov → Q (.str (endW (runN g limit pc m).e)) H'
theorem run_step {g : Img} {k : Nat} {pc : Int} {m : MS} : runN g (k + 1) pc m = match step g pc m with
    | .fault => ⟨.fault, m, [], pc⟩
    | .over => ⟨.ended, m, [pc.toNat], pc⟩
    | .next pc' m' => ⟨(runN g k pc' m').e, (runN g k pc' m').m, pc.toNat :: (runN g k pc' m').t, (runN g k pc' m').at_⟩ := rfl
section
variable {P : Program} {w : World} {K : PySem.W.Frag} {mg : Str → Option Value} {base : Heap}
abbrev N_Machine_run : List Str := ["self", "address", "limit", "keeps", "then"]
theorem sc_Machine_run : FnScope ["self", "address", "limit", "keeps", "then"] ["self", "address", "limit", "keeps"] (defScope s_Machine_run) := ⟨rfl, rfl, rfl, by decide +kernel, rfl, by decide +kernel, by decide +kernel⟩
theorem m_Machine_run (T : Txt w K mg) : Met P w K mg base 4 (He.ga K "Machine") "run" (spN 4 (r_run K)) [] := by
  obtain ⟨fd, F⟩ := T.f_Machine_run
  refine met_mk F T.c_Machine T.e_Machine_run (fun _ _ _ _ _ _ us hl => match us, hl with | [_, _, _, _], _ => rfl) sc_Machine_run (fun _ _ _ _ h => h.1) (fun cdv A outer s H vs Q E hr h => ?_)
  have hu := hu_of hr
  have hul := hul_of hr
  obtain ⟨_, H0, p, g, F, m, pc, limit, keeps, rfl, M, o, hF, hl, k⟩ := h
  refine ⟨_, (pss_cons (ps_while PassesOwn.never (pt_cmpR op_lt (pe_fldK (K := K) rfl (pv 0) rfl) (pv 2) (nomark _)) (pss_cons (ps_if (pt_not (pt_chain op_le op_lt (pe_int) (pv 1) (pe_callB (call_lenK (K := K) rfl) (by rfl) T.b_len bt_len (pa_cons (pe_fldK (K := K) rfl (pv 0) rfl) pa_nil)))) (pss_one (ps_ret (pe_str))) (pss_nil))
      (pss_cons (ps_set (i := 4) sc_Machine_run.nd rfl (by first | exact Or.inl rfl | exact Or.inr rfl) (pe_mt (m_Machine_done T) hr (by decide) (pv 0) (pa_cons (pe_ix (ix_tupK (K := K) rfl) (pe_fldK (K := K) rfl (pv 0) rfl) (pv 1) (fun _ _ => rfl)) (pa_cons (pv 1) pa_nil))))
      (pss_cons (ps_if (pt_cmpR op_isN (pv 4) (pe_non) (nomark _)) (pss_one (ps_ret (pe_str))) (pss_nil))
      (pss_cons (ps_fldaug (pv 0) (pe_int) in_add)
      (pss_cons (ps_if (pt_val (pv 3)) (pss_one (ps_expr (pe_bm PySem.F.plainAttrs_list PySem.F.slot_list_append PySem.F.type_list_append mt_append (pe_fldK (K := K) rfl (pv 0) rfl) (pa_cons (pv 1) pa_nil)))) (pss_nil))
      (pss_cons (ps_if (pt_val (pe_fldK (K := K) rfl (pv 0) rfl)) (pss_one (ps_ret (pe_str))) (pss_nil))
      (pss_one (ps_set (i := 1) sc_Machine_run.nd rfl (by first | exact Or.inl rfl | exact Or.inr rfl) (pv 4))))))))))
      (pss_one (ps_ret (pe_str)))), ?_⟩
  generalize hR : runN g limit pc m = R at *
  refine ⟨fun j σ H' => ∃ (y4 : Option V) (pc' : Int) (mc : MS) (n : Nat) (ps : List Nat), σ = [some (.ref p), some (.int pc'), some (.int ((limit : Nat) : Int)), some (.bl keeps), y4] ∧ n + j = limit ∧ MAt K H0 H' p g F mc n (if keeps = true then ps else []) false ∧ ps.length = n ∧ Fine g j pc' mc ∧
      R.e = (runN g j pc' mc).e ∧ R.m = (runN g j pc' mc).m ∧ R.t = ps ++ (runN g j pc' mc).t,
    ⟨limit, _, pc, m, 0, [], rfl, Nat.zero_add _, by cases keeps <;> exact M, rfl, hF, by rw [hR], by rw [hR], by rw [hR]; rfl⟩, ?_⟩
  rintro j σ H1 ⟨y4, pc, mc, n, ps, rfl, hj, M1, hps, hF1, r1, r2, r3⟩
  refine ⟨_, rfl, p, _, F.dx, _, _, rfl, M1.ob, T.c_Machine, T.n_Machine_steps, rfl, _, rfl, _, _, rfl, rfl, _, rfl, ?_⟩
  cases j with
  | zero =>
    have hn : n = limit := hj
    subst hn
    rw [decide_eq_false (Int.lt_irrefl _)]
    refine iteF ?_
    have h1 : R.t = ps := by rw [r3]; exact List.append_nil ps
    have := k H1 false (by rw [r2, h1, hps]; exact M1)
    rw [r1] at this
    exact this
  | succ j =>
    rw [decide_eq_true (show ((n : Nat) : Int) < ((limit : Nat) : Int) by omega)]
    refine iteT ⟨fun σ' H' => ∃ m', m' < j + 1 ∧ _, fun _ _ h => h, ?_⟩
    obtain ⟨xs, hcv, tc⟩ := id M1.cd
    have hlen : xs.length = g.code.length := by rw [tc.length, List.length_map]
    rw [run_step] at r1 r2 r3
    have hF2 : mc.size ≤ 4000000 ∧ ∀ pc' m', step g pc mc = .next pc' m' → Fine g j pc' m' := hF1
    have faulty : ∀ H', step g pc mc = .fault → MAt K H0 H' p g F mc n (if keeps = true then ps else []) false → Q (.str "fault") H' := fun H' hs M' => by
      rw [hs] at r1 r2 r3
      have h1 : R.t = ps := by rw [r3]; exact List.append_nil ps
      have := k H' false (by rw [r2, h1, hps]; exact M')
      rw [r1] at this
      exact this
    refine ⟨_, rfl, _, _, rfl, rfl, _, rfl, ?_⟩
    by_cases c1 : 0 ≤ pc
    rotate_left
    · rw [decide_eq_false c1]
      refine iteF ⟨_, rfl, iteT ?_⟩
      exact faulty H1 (by unfold step; rw [if_neg c1]) M1
    rw [decide_eq_true c1]
    refine iteT ⟨_, rfl, p, _, F.dx, _, _, rfl, M1.ob, T.c_Machine, T.n_Machine_code, rfl, F.cv, _, rfl, .inr hcv, _, _, rfl, rfl, _, rfl, ?_⟩
    rw [hlen]
    obtain ⟨pn, rfl⟩ := Int.eq_ofNat_of_zero_le c1
    by_cases c2 : ((pn : Nat) : Int) < ((g.code.length : Nat) : Int)
    rotate_left
    · rw [decide_eq_false c2]
      refine iteT ?_
      exact faulty H1 (by unfold step; rw [if_pos c1, List.getElem?_eq_none (by omega)]) M1
    rw [decide_eq_true c2]
    refine iteF ?_
    obtain ⟨ins, hins⟩ : ∃ ins, g.code[pn]? = some ins := ⟨_, List.getElem?_eq_getElem (by omega)⟩
    have hst : step g ((pn : Nat) : Int) mc = stepOf g pn mc ins := by
      unfold step
      rw [if_pos c1]
      show (match g.code[pn]? with | some i => _ | none => _) = _
      rw [hins]
      rfl
    obtain ⟨iv, hiv, tiv⟩ := TD.at_ (a := p) tc hins
    refine ⟨_, rfl, p, F.dx, _, rfl, M1.ob, rfl, _, rfl, p, _, F.dx, _, _, rfl, M1.ob, T.c_Machine, T.n_Machine_code, rfl, _, rfl, F.cv, _, _, _, rfl, rfl, hcv, ix_nat hiv, _, rfl, rfl, H0, p, g, F, mc, n, _, false, iv, ins, pn, g.code.length, rfl, M1, tiv, o.ins ins (List.mem_of_getElem? hins), hF2.1, ?_, ?_, ?_⟩
    · intro hs H2 M2
      refine ⟨_, rfl, rfl, _, rfl, iteT ?_⟩
      exact faulty H2 (by rw [hst, hs]) M2
    · intro hs H2 M2
      refine ⟨_, rfl, rfl, _, rfl, ?_⟩
      rw [decide_eq_false (by intro q; cases q)]
      refine iteF ?_
      refine ⟨_, rfl, p, _, F.dx, _, _, rfl, M2.ob, T.c_Machine, T.n_Machine_steps, rfl, _, _, rfl, rfl, F.dx, _, M2.ob, (by show 10 < 1000; decide), ?_⟩
      have M3 : MAt K H0 (upd H2 p (.ins (CM K) F.dx (mfs F true (n + 1) mc.words mc.top))) p g F mc (n + 1) (if keeps = true then ps else []) true := M2.obj true (n + 1) mc.words mc.top
      cases keeps with
      | true =>
        refine ⟨_, rfl, true, rfl, iteT ⟨_, rfl, p, _, F.dx, _, _, rfl, M3.ob, T.c_Machine, T.n_Machine_passed, rfl, .inl ⟨rfl, _, SqL.of M3.pa⟩, _, rfl, F.pa, _, _, rfl, rfl, M3.pa, by show (vN ps).length < _; unfold vN; rw [List.length_map]; exact szl (by omega), ?_⟩⟩
        have M4 := M3.pass (ps ++ [pn])
        have e4 : vN (ps ++ [pn]) = vN ps ++ [V.int ((pn : Nat) : Int)] := by unfold vN; rw [List.map_append]; rfl
        rw [e4] at M4
        refine ⟨_, rfl, p, _, F.dx, _, _, rfl, M4.ob, T.c_Machine, T.n_Machine_over, rfl, true, rfl, ?_⟩
        refine iteT ?_
        rw [hst, hs] at r1 r2 r3
        have h1 : R.t.length = n + 1 := by rw [r3, List.length_append, hps]; rfl
        have := k _ true (by rw [r2, h1, r3]; exact M4)
        rw [r1] at this
        exact this
      | false =>
        refine ⟨_, rfl, false, rfl, iteF ?_⟩
        refine ⟨_, rfl, p, _, F.dx, _, _, rfl, M3.ob, T.c_Machine, T.n_Machine_over, rfl, true, rfl, ?_⟩
        refine iteT ?_
        rw [hst, hs] at r1 r2 r3
        have h1 : R.t.length = n + 1 := by rw [r3, List.length_append, hps]; rfl
        have := k _ true (by rw [r2, h1, r3]; exact M3)
        rw [r1] at this
        exact this
    · intro pc' m' hs H2 M2
      refine ⟨_, rfl, rfl, _, rfl, ?_⟩
      rw [decide_eq_false (by intro q; cases q)]
      refine iteF ?_
      refine ⟨_, rfl, p, _, F.dx, _, _, rfl, M2.ob, T.c_Machine, T.n_Machine_steps, rfl, _, _, rfl, rfl, F.dx, _, M2.ob, (by show 10 < 1000; decide), ?_⟩
      have M3 : MAt K H0 (upd H2 p (.ins (CM K) F.dx (mfs F false (n + 1) m'.words m'.top))) p g F m' (n + 1) (if keeps = true then ps else []) false := M2.obj false (n + 1) m'.words m'.top
      cases keeps with
      | true =>
        refine ⟨_, rfl, true, rfl, iteT ⟨_, rfl, p, _, F.dx, _, _, rfl, M3.ob, T.c_Machine, T.n_Machine_passed, rfl, .inl ⟨rfl, _, SqL.of M3.pa⟩, _, rfl, F.pa, _, _, rfl, rfl, M3.pa, by show (vN ps).length < _; unfold vN; rw [List.length_map]; exact szl (by omega), ?_⟩⟩
        have M4 := M3.pass (ps ++ [pn])
        have e4 : vN (ps ++ [pn]) = vN ps ++ [V.int ((pn : Nat) : Int)] := by unfold vN; rw [List.map_append]; rfl
        rw [e4] at M4
        refine ⟨_, rfl, p, _, F.dx, _, _, rfl, M4.ob, T.c_Machine, T.n_Machine_over, rfl, false, rfl, ?_⟩
        refine iteF ⟨_, rfl, ?_⟩
        rw [hst, hs] at r1 r2 r3
        exact ⟨j, Nat.lt_succ_self j, _, pc', m', n + 1, ps ++ [pn], rfl, by omega, M4, by rw [List.length_append, hps]; rfl, hF2.2 pc' m' (by rw [hst, hs]), r1, r2, by rw [r3, List.append_assoc]; rfl⟩
      | false =>
        refine ⟨_, rfl, false, rfl, iteF ?_⟩
        refine ⟨_, rfl, p, _, F.dx, _, _, rfl, M3.ob, T.c_Machine, T.n_Machine_over, rfl, false, rfl, ?_⟩
        refine iteF ⟨_, rfl, ?_⟩
        rw [hst, hs] at r1 r2 r3
        exact ⟨j, Nat.lt_succ_self j, _, pc', m', n + 1, ps ++ [pn], rfl, by omega, M3, by rw [List.length_append, hps]; rfl, hF2.2 pc' m' (by rw [hst, hs]), r1, r2, by rw [r3, List.append_assoc]; rfl⟩
end
end K47

set_option Elab.async false
set_option linter.all false
set_option maxRecDepth 100000
set_option maxHeartbeats 4000000
namespace K47
open PySem PySem.Spec PyProof.Rows L2
open C8 hiding CX0 E0
/-! run_image and trace_image -/
def tW : TEnd → Str
  | .ended _ => "ended"
  | .wild => "wild"
def tV : TEnd → PyData
  | .ended none => .none
  | .ended (some ws) => eWds ws
  | .wild => .none
theorem eTEnd_eq (t : TEnd) : eTEnd t = .tuple [.str (tW t), tV t] := by
  cases t with
  | ended v => cases v <;> rfl
  | wild => rfl
def told0 (ks : Ks) (k : Str) (R : Res) : TEnd := toldOf ks R.m.heap (R.m.reg 0) 4000 [(-1, k)] []
def resW (ks : Ks) (k : Str) (R : Res) : Str := match R.e with
  | .ended => tW (told0 ks k R)
  | e => endW e
def resV (ks : Ks) (k : Str) (R : Res) : PyData := match R.e with
  | .ended => tV (told0 ks k R)
  | _ => .none
def resD (ks : Ks) (k : Str) (R : Res) : PyData := .tuple [.str (resW ks k R), resV ks k R, dN R.t.length, dN R.m.words, dN R.m.top]
def traceD (R : Res) : PyData := .tuple (R.t.map dN)
/-- a made start: the machine's first state -/
def ms0 (us h : List Int) : MS := ⟨regsOf us, h, [], 0, 0⟩
structure Case (c : Core) (g : Img) (f : Fdef) (wss : List (List Wd)) (us h : List Int) : Prop where
  co : CoreOk c
  go : ImgOk g
  nm : c.fs.map (·.name) = g.names
  fm : f ∈ c.fs
  ar : Args (tabKs c.ks) f.params wss
  ly : LayA (tabKs c.ks) [] wss us h
  hl : h.length ≤ 100000
theorem Case.w6 {c : Core} {g : Img} {f : Fdef} {wss : List (List Wd)} {us h : List Int} (C : Case c g f wss us h) : wss.length ≤ 6 := by
  have := (C.co.fn f C.fm).np
  have := C.ar.len
  omega
theorem Args.mem {es : Tab} {ks : List Str} {wss : List (List Wd)} (a : Args es ks wss) : ∀ ws ∈ wss, ws.length ≤ 400 := by
  induction a with
  | nil => intro ws h; cases h
  | cons f hl _ ih =>
    intro ws h
    rcases List.mem_cons.mp h with rfl | q
    · exact hl
    · exact ih ws q
theorem regsOf_len {us : List Int} (h : us.length ≤ 8) : (regsOf us).length = 8 := by
  unfold regsOf
  rw [List.length_append, List.length_replicate]
  omega
theorem Case.r8 {c : Core} {g : Img} {f : Fdef} {wss : List (List Wd)} {us h : List Int} (C : Case c g f wss us h) : (regsOf us).length = 8 := by
  refine regsOf_len ?_
  have := C.ly.len.1
  have := C.w6
  omega
theorem Case.nmem {c : Core} {g : Img} {f : Fdef} {wss : List (List Wd)} {us h : List Int} (C : Case c g f wss us h) : f.name ∈ g.names := by
  rw [← C.nm]
  exact List.mem_map_of_mem C.fm
def r_made (K : PySem.W.Frag) : List V → Hp → VK → Prop := fun vs H Q => ∃ (c : Core) (g : Img) (f : Fdef) (wss : List (List Wd)) (us h : List Int) (cv gv : V) (a : Addr) (xs : List V) (limit : Nat), vs = [cv, gv, .str f.name, .ref a, .int ((limit : Nat) : Int)] ∧ TD K H cv (eCore c) ∧ TD K H gv (eImg g) ∧ SqT K H a xs ∧ TDs K H xs (wss.map eWds) ∧ Case c g f wss us h ∧ limit ≤ 1000000 ∧
  ∀ H0 H' p F, Ext [] H H0 → MAt K H0 H' p g F (ms0 us h) 0 [] false → Q (.ref p) H'
def r_run_image (K : PySem.W.Frag) : List V → Hp → VK → Prop := fun vs H Q => ∃ (c : Core) (g : Img) (f : Fdef) (wss : List (List Wd)) (us h : List Int) (cv gv : V) (a : Addr) (xs : List V) (limit : Nat), vs = [cv, gv, .str f.name, .ref a, .int ((limit : Nat) : Int)] ∧ TD K H cv (eCore c) ∧ TD K H gv (eImg g) ∧ SqT K H a xs ∧ TDs K H xs (wss.map eWds) ∧ Case c g f wss us h ∧ limit ≤ 1000000 ∧
  Fine g limit ((addrOf g f.name : Nat) : Int) (ms0 us h) ∧ ∀ H' u, Ext [] H H' → TD K H' u (resD c.ks f.result (runN g limit ((addrOf g f.name : Nat) : Int) (ms0 us h))) → Q u H'
def r_trace_image (K : PySem.W.Frag) : List V → Hp → VK → Prop := fun vs H Q => ∃ (c : Core) (g : Img) (f : Fdef) (wss : List (List Wd)) (us h : List Int) (cv gv : V) (a : Addr) (xs : List V) (limit : Nat), vs = [cv, gv, .str f.name, .ref a, .int ((limit : Nat) : Int)] ∧ TD K H cv (eCore c) ∧ TD K H gv (eImg g) ∧ SqT K H a xs ∧ TDs K H xs (wss.map eWds) ∧ Case c g f wss us h ∧ limit ≤ 1000000 ∧
  Fine g limit ((addrOf g f.name : Nat) : Int) (ms0 us h) ∧ ∀ H' u, Ext [] H H' → TD K H' u (traceD (runN g limit ((addrOf g f.name : Nat) : Int) (ms0 us h))) → Q u H'
theorem TDs.vN {K : PySem.W.Frag} {H : Hp} : ∀ l : List Nat, TDs K H (vN l) (l.map dN)
  | [] => .nil
  | n :: l => .cons (.int _) (TDs.vN l)
section
variable {P : Program} {w : World} {K : PySem.W.Frag} {mg : Str → Option Value} {base : Heap}
abbrev N_made_machine : List Str := ["core", "image", "name", "args", "limit", "place", "registers", "heap"]
theorem sc_made_machine : FnScope ["core", "image", "name", "args", "limit", "place", "registers", "heap"] ["core", "image", "name", "args", "limit"] (defScope s_made_machine) := ⟨rfl, rfl, rfl, by decide +kernel, rfl, by decide +kernel, by decide +kernel⟩
theorem c_made_machine (T : Txt w K mg) : Cal P w K mg base 10 "made_machine" (spN 5 (r_made K)) [] := by
  obtain ⟨fd, F⟩ := T.f_made_machine
  refine cal_mk F T.m_made_machine (fun _ _ _ _ _ _ us hl => match us, hl with | [_, _, _, _, _], _ => rfl) sc_made_machine (fun _ _ _ _ h => h.1) (fun cdv A outer s H vs Q E hr h => ?_)
  have hu := hu_of hr
  have hul := hul_of hr
  obtain ⟨_, c, g, f, wss, us, h', cv, gv, a, xs, limit, rfl, tc, tg, hs, ts, C, hl, k⟩ := h
  obtain ⟨fi, hfi⟩ := List.mem_iff_getElem?.mp C.fm
  refine ⟨_, (pss_cons (ps_expr (pe_c (c_need_fit T) hr (by decide) (by rfl) (pa_cons (pv 0) (pa_cons (pv 1) pa_nil))))
      (pss_cons (ps_set (i := 5) sc_made_machine.nd rfl (by first | exact Or.inl rfl | exact Or.inr rfl) (pe_c (c_place_of T) hr (by decide) (by rfl) (pa_cons (pv 0) (pa_cons (pv 2) pa_nil))))
      (pss_cons (ps_expr (pe_c (c_need_args T) hr (by decide) (by rfl) (pa_cons (pv 0) (pa_cons (pe_ix (ix_tupK (K := K) rfl) (pe_ix (ix_tupK (K := K) rfl) (pv 0) (pe_int) (fun _ _ => rfl)) (pv 5) (fun _ _ => rfl)) (pa_cons (pv 3) pa_nil)))))
      (pss_cons (ps_expr (pe_c (c_need_limit T) hr (by decide) (by rfl) (pa_cons (pv 4) (pa_cons (pe_gc (by rfl) T.g_MOST_STEPS) pa_nil))))
      (pss_cons (ps_asg (pe_c (c_lay T) hr (by decide) (by rfl) (pa_cons (pv 0) (pa_cons (pv 3) pa_nil))) (pg_tupK (K := K) (n := 2) rfl rfl (pgs_cons (pg_name (i := 6) sc_made_machine.nd rfl (by first | exact Or.inl rfl | exact Or.inr rfl)) (pgs_cons (pg_name (i := 7) sc_made_machine.nd rfl (by first | exact Or.inl rfl | exact Or.inr rfl)) pgs_nil))))
      (pss_one (ps_ret (pe_mk (k_Machine T) hr (by decide) (by rfl) (pa_cons (pv 1) (pa_cons (pv 6) (pa_cons (pv 7) pa_nil))))))))))), ?_⟩
  refine ⟨_, rfl, _, rfl, rfl, c, g, cv, gv, rfl, tc, tg, C.co, C.go, C.nm, fun H1 e1 => ?_⟩
  refine ⟨_, rfl, _, rfl, rfl, c, cv, f, fi, rfl, tc.keep e1.keep0, C.co, hfi, fun H2 e2 => ?_⟩
  have e02 := e1.trans e2
  obtain ⟨ca, v1, v2, rfl, hca, t1, t2⟩ := (tc.keep e02.keep0).two
  obtain ⟨fa, fxs, rfl, hfa, tf⟩ := t2.open_
  obtain ⟨fv, hfv, tfv⟩ := TD.at_ (a := a) tf hfi
  have tc2 : TD K H2 (.ref ca) (eCore c) := tc.keep e02.keep0
  refine ⟨_, rfl, _, rfl, ca, _, _, _, rfl, rfl, hca, rfl, _, rfl, fa, _, _, _, rfl, rfl, hfa, ix_nat hfv, _, rfl, rfl, c, _, fv, f, a, xs, wss, rfl, tc2, C.co.ks, tfv, e02.sqt hs, ts.keep e02.keep0, C.ar, C.w6, fun H3 e3 => ?_⟩
  refine ⟨_, rfl, rfl, limit, rfl, hl, ?_⟩
  have e03 := e02.trans e3
  refine ⟨_, rfl, _, rfl, rfl, c, _, a, xs, wss, us, h', rfl, tc.keep e03.keep0, C.co.ks, e03.sqt hs, ts.keep e03.keep0, C.ly, C.hl, C.w6, C.ar.mem, fun H4 t r p e4 ht nrp _ _ gr gp => ?_⟩
  have e04 := e03.trans e4
  refine ⟨t, _, rfl, ht, rfl, _, _, rfl, _, _, rfl, rfl, ?_⟩
  refine ⟨_, rfl, _, rfl, _, rfl, ?_⟩
  intro x dx hx hdx hne
  have e5 : Ext [] H4 (upd (upd H4 dx (.own x)) x (.ins (CM K) dx [])) := (Ext.new hdx).trans (Ext.new (by rw [upd_ne hne.symm]; exact hx))
  refine ⟨rfl, H4, x, dx, r, p, gv, g, regsOf us, h', rfl, upd_same, e5, hx, tg.keep (e04.trans e5).keep0, C.go, e5 _ _ gr (fun m => nomatch m), e5 _ _ gp (fun m => nomatch m), C.r8, fun H6 F M => ⟨rfl, ?_⟩⟩
  exact k H4 H6 x F e04 M
abbrev N_run_image : List Str := ["core", "image", "name", "args", "limit", "machine", "end", "value", "result"]
theorem sc_run_image : FnScope ["core", "image", "name", "args", "limit", "machine", "end", "value", "result"] ["core", "image", "name", "args", "limit"] (defScope s_run_image) := ⟨rfl, rfl, rfl, by decide +kernel, rfl, by decide +kernel, by decide +kernel⟩
theorem c_run_image (T : Txt w K mg) : Cal P w K mg base 11 "run_image" (spN 5 (r_run_image K)) [] := by
  obtain ⟨fd, F⟩ := T.f_run_image
  refine cal_mk F T.m_run_image (fun _ _ _ _ _ _ us hl => match us, hl with | [_, _, _, _, _], _ => rfl) sc_run_image (fun _ _ _ _ h => h.1) (fun cdv A outer s H vs Q E hr h => ?_)
  have hu := hu_of hr
  have hul := hul_of hr
  obtain ⟨_, c, g, f, wss, us, h', cv, gv, a, xs, limit, rfl, tc, tg, hs, ts, C, hl, hF, k⟩ := h
  obtain ⟨fi, hfi⟩ := List.mem_iff_getElem?.mp C.fm
  refine ⟨_, (pss_cons (ps_set (i := 5) sc_run_image.nd rfl (by first | exact Or.inl rfl | exact Or.inr rfl) (pe_c (c_made_machine T) hr (by decide) (by rfl) (pa_cons (pv 0) (pa_cons (pv 1) (pa_cons (pv 2) (pa_cons (pv 3) (pa_cons (pv 4) pa_nil)))))))
      (pss_cons (ps_set (i := 6) sc_run_image.nd rfl (by first | exact Or.inl rfl | exact Or.inr rfl) (pe_mt (m_Machine_run T) hr (by decide) (pv 5) (pa_cons (pe_dget hu (pe_fldK (K := K) rfl (pv 5) rfl) (pv 2) (fun _ _ => rfl)) (pa_cons (pv 4) (pa_cons (pe_bl) pa_nil)))))
      (pss_cons (ps_set (i := 7) sc_run_image.nd rfl (by first | exact Or.inl rfl | exact Or.inr rfl) (pe_non))
      (pss_cons (ps_if (pt_cmpR op_eq (pv 6) (pe_str) (nomark _)) (pss_cons (ps_set (i := 8) sc_run_image.nd rfl (by first | exact Or.inl rfl | exact Or.inr rfl) (pe_ix (ix_tupK (K := K) rfl) (pe_ix (ix_tupK (K := K) rfl) (pe_ix (ix_tupK (K := K) rfl) (pv 0) (pe_int) (fun _ _ => rfl)) (pe_c (c_place_of T) hr (by decide) (by rfl) (pa_cons (pv 0) (pa_cons (pv 2) pa_nil))) (fun _ _ => rfl)) (pe_int) (fun _ _ => rfl)))
      (pss_one (ps_asg (pe_c (c_read_value T) hr (by decide) (by rfl) (pa_cons (pv 0) (pa_cons (pe_fldK (K := K) rfl (pv 5) rfl) (pa_cons (pv 8) (pa_cons (pe_ix (ix_listK (K := K) rfl) (pe_fldK (K := K) rfl (pv 5) rfl) (pe_int) (fun _ _ => rfl)) pa_nil))))) (pg_tupK (K := K) (n := 2) rfl rfl (pgs_cons (pg_name (i := 6) sc_run_image.nd rfl (by first | exact Or.inl rfl | exact Or.inr rfl)) (pgs_cons (pg_name (i := 7) sc_run_image.nd rfl (by first | exact Or.inl rfl | exact Or.inr rfl)) pgs_nil)))))) (pss_nil))
      (pss_one (ps_ret (pe_tup (pa_cons (pv 6) (pa_cons (pv 7) (pa_cons (pe_fldK (K := K) rfl (pv 5) rfl) (pa_cons (pe_fldK (K := K) rfl (pv 5) rfl) (pa_cons (pe_fldK (K := K) rfl (pv 5) rfl) pa_nil)))))))))))), ?_⟩
  refine ⟨_, rfl, _, rfl, _, rfl, _, rfl, _, rfl, rfl, c, g, f, wss, us, h', cv, gv, a, xs, limit, rfl, tc, tg, hs, ts, C, hl, fun H0 H1 p F e0 M => ?_⟩
  obtain ⟨kvs, hst, hkv⟩ := M.st
  have e1 := e0.trans M.e
  refine ⟨_, rfl, p, F.dx, _, rfl, M.ob, rfl, _, rfl, p, _, F.dx, _, _, rfl, M.ob, T.c_Machine, T.n_Machine_starts, rfl, _, rfl, F.st, .int ((addrOf g f.name : Nat) : Int), rfl, ?_, _, rfl, rfl, H0, p, g, F, ms0 us h', ((addrOf g f.name : Nat) : Int), limit, false, rfl, M, C.go, hF, hl, fun H2 ov M2 => ?_⟩
  · have := DGet.k (k := .inr f.name) hst
    rw [hkv f.name C.nmem] at this
    exact this
  generalize hR : runN g limit ((addrOf g f.name : Nat) : Int) (ms0 us h') = R at *
  have e2 := e0.trans M2.e
  refine ⟨_, rfl, rfl, _, rfl, ?_⟩
  have out : ∀ (H3 : Hp) (x : PyData) (xv : V) (wd : Str), Ext [] H2 H3 → wd = resW c.ks f.result R → x = resV c.ks f.result R → TD K H3 xv x → ∀ t, H3 t = none → Q (.ref t) (upd H3 t (.tup [.str wd, xv, .int ((R.t.length : Nat) : Int), .int ((R.m.words : Nat) : Int), .int ((R.m.top : Nat) : Int)])) := by
    intro H3 x xv wd e3 h1 h2 tx t ht
    have eT : Ext [] H3 (upd H3 t (.tup [.str wd, xv, .int ((R.t.length : Nat) : Int), .int ((R.m.words : Nat) : Int), .int ((R.m.top : Nat) : Int)])) := Ext.new ht
    refine k _ _ ((e2.trans e3).trans eT) ?_
    unfold resD
    rw [← h1, ← h2]
    exact .tup (SqT.of upd_same) (.cons (.str _) (.cons (tx.keep eT.keep0) (.cons (.int _) (.cons (.int _) (.cons (.int _) .nil)))))
  have flds : ∀ (H3 : Hp), Ext [] H2 H3 → MAt K H0 H3 p g F R.m R.t.length [] ov := fun H3 e3 => M2.ext e3
  cases he : R.e with
  | ended =>
    refine iteT ?_
    obtain ⟨ca, v1, v2, rfl, hca, t1, t2⟩ := (tc.keep e2.keep0).two
    have tc2 : TD K H2 (.ref ca) (eCore c) := tc.keep e2.keep0
    refine ⟨_, rfl, ca, _, _, _, rfl, rfl, hca, rfl, _, rfl, _, rfl, rfl, c, _, f, fi, rfl, tc2, C.co, hfi, fun H3 e3 => ?_⟩
    obtain ⟨fa, fxs, rfl, hfa, tf⟩ := (t2.keep e3.keep0).open_
    obtain ⟨fv, hfv, tfv⟩ := TD.at_ (a := a) tf hfi
    obtain ⟨b, w1, w2, w3, w4, rfl, hb, s1, s2, s3, s4⟩ := tfv.four
    cases s3.str_
    have M3 := flds H3 e3
    have hr0 := reg_ix (r := 0) M3.r8 (by omega)
    refine ⟨fa, _, _, _, rfl, rfl, hfa, ix_nat hfv, b, _, _, _, rfl, rfl, hb, rfl, ?_⟩
    refine ⟨_, rfl, _, rfl, p, _, F.dx, _, _, rfl, M3.ob, T.c_Machine, T.n_Machine_heap, rfl, _, rfl, _, rfl, p, _, F.dx, _, _, rfl, M3.ob, T.c_Machine, T.n_Machine_registers, rfl, F.rg, _, _, _, rfl, rfl, SqL.of M3.rg, hr0, rfl, c, _, F.hp, R.m.heap, f.result, R.m.reg 0, rfl, tc2.keep e3.keep0, C.co.ks, (C.co.fn f C.fm).kr, M3.hp, fun H4 u e4 tu => ?_⟩
    have tu' : TD K H4 u (.tuple [.str (tW (told0 c.ks f.result R)), tV (told0 c.ks f.result R)]) := by
      rw [← eTEnd_eq]
      exact tu
    obtain ⟨ua, u1, u2, rfl, hua, n1, n2⟩ := tu'.two
    cases n1.str_
    have M4 := flds H4 (e3.trans e4)
    refine ⟨ua, _, rfl, hua, rfl, _, _, rfl, _, _, rfl, rfl, ?_⟩
    refine ⟨_, rfl, _, rfl, _, rfl, p, _, F.dx, _, _, rfl, M4.ob, T.c_Machine, T.n_Machine_steps, rfl, _, rfl, p, _, F.dx, _, _, rfl, M4.ob, T.c_Machine, T.n_Machine_words, rfl, _, rfl, p, _, F.dx, _, _, rfl, M4.ob, T.c_Machine, T.n_Machine_top, rfl, by show 5 ≤ sizeLine; decide, fun t ht => ?_⟩
    exact out H4 _ _ _ (e3.trans e4) (by unfold resW; rw [he]) (by unfold resV; rw [he]) n2 t ht
  | fault =>
    refine iteF ?_
    refine ⟨_, rfl, _, rfl, _, rfl, p, _, F.dx, _, _, rfl, M2.ob, T.c_Machine, T.n_Machine_steps, rfl, _, rfl, p, _, F.dx, _, _, rfl, M2.ob, T.c_Machine, T.n_Machine_words, rfl, _, rfl, p, _, F.dx, _, _, rfl, M2.ob, T.c_Machine, T.n_Machine_top, rfl, by show 5 ≤ sizeLine; decide, fun t ht => ?_⟩
    exact out H2 .none .non "fault" (Ext.refl H2) (by unfold resW; rw [he]; rfl) (by unfold resV; rw [he]) .non t ht
  | spent =>
    refine iteF ?_
    refine ⟨_, rfl, _, rfl, _, rfl, p, _, F.dx, _, _, rfl, M2.ob, T.c_Machine, T.n_Machine_steps, rfl, _, rfl, p, _, F.dx, _, _, rfl, M2.ob, T.c_Machine, T.n_Machine_words, rfl, _, rfl, p, _, F.dx, _, _, rfl, M2.ob, T.c_Machine, T.n_Machine_top, rfl, by show 5 ≤ sizeLine; decide, fun t ht => ?_⟩
    exact out H2 .none .non "spent" (Ext.refl H2) (by unfold resW; rw [he]; rfl) (by unfold resV; rw [he]) .non t ht
abbrev N_trace_image : List Str := ["core", "image", "name", "args", "limit", "machine"]
theorem sc_trace_image : FnScope ["core", "image", "name", "args", "limit", "machine"] ["core", "image", "name", "args", "limit"] (defScope s_trace_image) := ⟨rfl, rfl, rfl, by decide +kernel, rfl, by decide +kernel, by decide +kernel⟩
theorem c_trace_image (T : Txt w K mg) : Cal P w K mg base 11 "trace_image" (spN 5 (r_trace_image K)) [] := by
  obtain ⟨fd, F⟩ := T.f_trace_image
  refine cal_mk F T.m_trace_image (fun _ _ _ _ _ _ us hl => match us, hl with | [_, _, _, _, _], _ => rfl) sc_trace_image (fun _ _ _ _ h => h.1) (fun cdv A outer s H vs Q E hr h => ?_)
  have hu := hu_of hr
  have hul := hul_of hr
  obtain ⟨_, c, g, f, wss, us, h', cv, gv, a, xs, limit, rfl, tc, tg, hs, ts, C, hl, hF, k⟩ := h
  refine ⟨_, (pss_cons (ps_set (i := 5) sc_trace_image.nd rfl (by first | exact Or.inl rfl | exact Or.inr rfl) (pe_c (c_made_machine T) hr (by decide) (by rfl) (pa_cons (pv 0) (pa_cons (pv 1) (pa_cons (pv 2) (pa_cons (pv 3) (pa_cons (pv 4) pa_nil)))))))
      (pss_cons (ps_expr (pe_mt (m_Machine_run T) hr (by decide) (pv 5) (pa_cons (pe_dget hu (pe_fldK (K := K) rfl (pv 5) rfl) (pv 2) (fun _ _ => rfl)) (pa_cons (pv 4) (pa_cons (pe_bl) pa_nil)))))
      (pss_one (ps_ret (pe_callTy call_tuple_of (by rfl) T.b_tuple bt_tuple (pa_cons (pe_fldK (K := K) rfl (pv 5) rfl) pa_nil)))))), ?_⟩
  refine ⟨_, rfl, _, rfl, _, rfl, _, rfl, _, rfl, rfl, c, g, f, wss, us, h', cv, gv, a, xs, limit, rfl, tc, tg, hs, ts, C, hl, fun H0 H1 p F e0 M => ?_⟩
  obtain ⟨kvs, hst, hkv⟩ := M.st
  refine ⟨_, rfl, p, F.dx, _, rfl, M.ob, rfl, _, rfl, p, _, F.dx, _, _, rfl, M.ob, T.c_Machine, T.n_Machine_starts, rfl, _, rfl, F.st, .int ((addrOf g f.name : Nat) : Int), rfl, ?_, _, rfl, rfl, H0, p, g, F, ms0 us h', ((addrOf g f.name : Nat) : Int), limit, true, rfl, M, C.go, hF, hl, fun H2 ov M2 => ?_⟩
  · have := DGet.k (k := .inr f.name) hst
    rw [hkv f.name C.nmem] at this
    exact this
  generalize hR : runN g limit ((addrOf g f.name : Nat) : Int) (ms0 us h') = R at *
  have e2 := e0.trans M2.e
  refine ⟨_, rfl, p, _, F.dx, _, _, rfl, M2.ob, T.c_Machine, T.n_Machine_passed, rfl, F.pa, _, rfl, .inl ⟨SqL.of M2.pa, fun t ht => ?_⟩⟩
  have eT : Ext [] H2 (upd H2 t (.tup (vN R.t))) := Ext.new ht
  exact k _ _ (e2.trans eT) (.tup (SqT.of upd_same) (TDs.vN R.t))
end
end K47

set_option Elab.async false
set_option linter.all false
set_option maxRecDepth 100000
set_option maxHeartbeats 4000000
namespace K47
open PySem PySem.Spec PyProof.Rows L2
open C8 hiding CX0 E0
/-! the law's own machine -/
structure LAt (H : Hp) (a b c : Addr) (m : MS) : Prop where
  rg : H a = some (.lst (vI m.regs))
  r8 : m.regs.length = 8
  hp : H b = some (.lst (vI m.heap))
  sk : H c = some (.lst (vI m.stack))
  n1 : a ≠ b
  n2 : a ≠ c
  n3 : b ≠ c
section
variable {H : Hp} {rg hp sk : Addr} {m : MS}
theorem LAt.ext {H' : Hp} (M : LAt H rg hp sk m) (e : Ext [] H H') : LAt H' rg hp sk m :=
  ⟨e _ _ M.rg (fun m => nomatch m), M.r8, e _ _ M.hp (fun m => nomatch m), e _ _ M.sk (fun m => nomatch m), M.n1, M.n2, M.n3⟩
theorem LAt.of {m' : MS} (M : LAt H rg hp sk m) (h1 : m.regs = m'.regs) (h2 : m.heap = m'.heap) (h3 : m.stack = m'.stack) : LAt H rg hp sk m' :=
  ⟨h1 ▸ M.rg, h1 ▸ M.r8, h2 ▸ M.hp, h3 ▸ M.sk, M.n1, M.n2, M.n3⟩
theorem LAt.regs (M : LAt H rg hp sk m) (l : List Int) (h8 : l.length = 8) : LAt (upd H rg (.lst (vI l))) rg hp sk { m with regs := l } :=
  ⟨upd_same, h8, (upd_ne M.n1.symm).trans M.hp, (upd_ne M.n2.symm).trans M.sk, M.n1, M.n2, M.n3⟩
theorem LAt.heap (M : LAt H rg hp sk m) (l : List Int) : LAt (upd H hp (.lst (vI l))) rg hp sk { m with heap := l } :=
  ⟨(upd_ne M.n1).trans M.rg, M.r8, upd_same, (upd_ne M.n3.symm).trans M.sk, M.n1, M.n2, M.n3⟩
theorem LAt.stack (M : LAt H rg hp sk m) (l : List Int) : LAt (upd H sk (.lst (vI l))) rg hp sk { m with stack := l } :=
  ⟨(upd_ne M.n2).trans M.rg, M.r8, (upd_ne M.n3).trans M.hp, upd_same, M.n1, M.n2, M.n3⟩
theorem LAt.ntup (M : LAt H rg hp sk m) : ∀ b ∈ [rg, hp, sk], ∀ xs, ¬ Rd H b (.tup xs) := by
  intro b hb
  simp only [List.mem_cons, List.not_mem_nil, or_false] at hb
  rcases hb with rfl | rfl | rfl
  · exact not_tup_lst M.rg
  · exact not_tup_lst M.hp
  · exact not_tup_lst M.sk
end
/-- a comprehension with a test, over a tuple of data -/
theorem lcS {α : Type} {K : PySem.W.Frag} {a : Addr} {xs : List V} {l : List α} {ed : α → PyData} {pick : α → Option V} {g : TG} {tt : TT} {te : TE} {vs : List Nat} {σ : L2.St} {H1 : Hp} {D : Addr} {Qd : Hp → Prop} (ts : TDs K H1 xs (l.map ed)) (hx : SqT K H1 a xs) (hD : H1 D = none) (hz : l.length < 1000000)
    (step : ∀ (i : Nat) (x : V) (s : α) (H : Hp) (Q1 : VK) (Q2 : Hp → Prop), xs[i]? = some x → l[i]? = some s → Ext [] H1 H → (∀ v, pick s = some v → ∀ H4, Ext [] H H4 → Q1 v H4) → (pick s = none → ∀ H4, Ext [] H H4 → Q2 H4) → g x (wipe σ vs) H fun σ2 H2 => wipe σ2 vs = wipe σ vs ∧ tt σ2 H2 fun b H3 => if b = true then te σ2 H3 Q1 else Q2 H3)
    (hd : ∀ H, Ext [] H1 H → H D = some (.lst (l.filterMap pick)) → Qd H) :
    ∃ W : Nat → Nat → Hp → Prop, (∃ m, W 0 m (upd H1 D (.lst []))) ∧ ∀ i m H, W i m H →
      ((Itt K a).stop i H ∧ Qd H) ∨ ((Itt K a).go i H ∧ ∃ Nx : Hp → Prop, (∀ H', Nx H' → ∃ m', m' < m ∧ W (i + 1) m' H') ∧ ∀ x H', (Itt K a).yld i H x H' → g x (wipe σ vs) H' fun σ2 H2 => wipe σ2 vs = wipe σ vs ∧ tt σ2 H2 fun b H3 =>
        if b = true then te σ2 H3 fun y H4 => ∃ acc, H4 D = some (.lst acc) ∧ acc.length < sizeLine ∧ Nx (upd H4 D (.lst (acc ++ [y]))) else Nx H3) := by
  have hlen : xs.length = l.length := by rw [ts.length, List.length_map]
  refine lc_tup (xs := xs) (fun i H => Ext [] H1 H ∧ H D = some (.lst ((l.take i).filterMap pick))) ⟨Ext.new hD, upd_same⟩ (fun i H _ p => p.1.sqt hx) ?_ ?_
  · rintro i x H hi ⟨e1, hl⟩
    have hlt := (List.getElem?_eq_some_iff.mp hi).1
    obtain ⟨s, hs⟩ : ∃ s, l[i]? = some s := ⟨_, List.getElem?_eq_getElem (by omega)⟩
    refine step i x s H _ _ hi hs e1 ?_ ?_
    · intro v hv H4 e4
      refine ⟨_, e4 D _ hl (fun m => nomatch m), ?_, (e1.trans e4).mut hD, ?_⟩
      · have h1 : ((l.take i).filterMap pick).length ≤ (l.take i).length := List.length_filterMap_le ..
        rw [List.length_take] at h1
        exact szl (by omega)
      · rw [upd_same, List.take_succ, hs, List.filterMap_append]
        show _ = some (HO.lst (_ ++ List.filterMap pick [s]))
        rw [List.filterMap_cons, hv]
        rfl
    · intro hv H4 e4
      refine ⟨e1.trans e4, ?_⟩
      rw [e4 D _ hl (fun m => nomatch m), List.take_succ, hs, List.filterMap_append]
      show _ = some (HO.lst (_ ++ List.filterMap pick [s]))
      rw [List.filterMap_cons, hv]
      simp
  · rintro H ⟨e1, hl⟩
    refine hd H e1 ?_
    rw [hl, hlen, List.take_length]
def pickS (f : Str) (s : Str × Nat) : Option V := if s.1 = f then some (.int ((s.2 : Nat) : Int)) else none
theorem pick_find (f : Str) : ∀ l : List (Str × Nat), (l.filterMap (pickS f))[0]? = (l.find? (fun s => decide (s.1 = f))).map fun s => V.int ((s.2 : Nat) : Int)
  | [] => rfl
  | s :: l => by
    rw [List.filterMap_cons, List.find?_cons]
    by_cases h : s.1 = f
    · rw [show pickS f s = some (.int ((s.2 : Nat) : Int)) by unfold pickS; rw [if_pos h], decide_eq_true h]
      rfl
    · rw [show pickS f s = none by unfold pickS; rw [if_neg h], decide_eq_false h]
      exact pick_find f l
theorem pick_addr {g : Img} {f : Str} (h : f ∈ g.names) : (g.starts.filterMap (pickS f))[0]? = some (.int ((addrOf g f : Nat) : Int)) := by
  rw [pick_find]
  unfold addrOf
  cases q : g.starts.find? (fun s => decide (s.1 = f)) with
  | none =>
    obtain ⟨s, hs, rfl⟩ := List.mem_map.mp h
    have := List.find?_eq_none.mp q s hs
    simp at this
  | some s => rfl
def r_law_frame (K : PySem.W.Frag) : List V → Hp → VK → Prop := fun vs H Q => ∃ (rg hp sk : Addr) (m : MS) (v : V) (i : Ins) (size : Nat) (names : List Str), vs = [v, .ref rg, .ref sk] ∧ LAt H rg hp sk m ∧ TD K H v (eIns i) ∧ InsOk size names i ∧ (match i with | .drop .. => true | .save .. => true | .load .. => true | _ => false) = true ∧ m.size ≤ 4000000 ∧
  (∀ m', workOf m i = some m' → ∀ H', Ext [rg, hp, sk] H H' → LAt H' rg hp sk m' → Q (.bl true) H') ∧ (workOf m i = none → ∀ H', Ext [rg, hp, sk] H H' → LAt H' rg hp sk m → Q (.bl false) H')
def r_law_straight (K : PySem.W.Frag) : List V → Hp → VK → Prop := fun vs H Q => ∃ (rg hp sk : Addr) (m : MS) (v : V) (i : Ins) (size : Nat) (names : List Str), vs = [v, .ref rg, .ref hp, .ref sk] ∧ LAt H rg hp sk m ∧ TD K H v (eIns i) ∧ InsOk size names i ∧ isWay i = false ∧ m.size ≤ 4000000 ∧
  (∀ m', workOf m i = some m' → ∀ H', Ext [rg, hp, sk] H H' → LAt H' rg hp sk m' → Q (.bl true) H') ∧ (workOf m i = none → ∀ H', Ext [rg, hp, sk] H H' → LAt H' rg hp sk m → Q (.bl false) H')
def r_law_turn (K : PySem.W.Frag) : List V → Hp → VK → Prop := fun vs H Q => ∃ (rg hp sk : Addr) (m : MS) (v gv : V) (g : Img) (i : Ins) (pc : Nat), vs = [gv, v, .int ((pc : Nat) : Int), .ref rg, .ref sk] ∧ LAt H rg hp sk m ∧ TD K H v (eIns i) ∧ TD K H gv (eImg g) ∧ ImgOk g ∧ InsOk g.code.length g.names i ∧ isWay i = true ∧ m.size ≤ 4000000 ∧ (i = .ret → m.stack ≠ []) ∧
  (stepOf g pc m i = .fault → ∀ H', Ext [rg, hp, sk] H H' → LAt H' rg hp sk m → Q .non H') ∧ (∀ pc' m', stepOf g pc m i = .next pc' m' → ∀ H', Ext [rg, hp, sk] H H' → LAt H' rg hp sk m' → Q (.int pc') H')
section
variable {P : Program} {w : World} {K : PySem.W.Frag} {mg : Str → Option Value} {base : Heap}

abbrev N_law_frame : List Str := ["_law_row_here", "_law_regs", "_law_stack", "_law_many", "_law_k"]
theorem sc_law_frame : FnScope ["_law_row_here", "_law_regs", "_law_stack", "_law_many", "_law_k"] ["_law_row_here", "_law_regs", "_law_stack"] (defScope s_law_frame) := ⟨rfl, rfl, rfl, by decide +kernel, rfl, by decide +kernel, by decide +kernel⟩
theorem c_law_frame (T : Txt w K mg) : Cal P w K mg base 1 "_law_frame" (spN 3 (r_law_frame K)) [] := by
  obtain ⟨fd, F⟩ := T.f_law_frame
  refine cal_mk F T.m_law_frame (fun _ _ _ _ _ _ us hl => match us, hl with | [_, _, _], _ => rfl) sc_law_frame (fun _ _ _ _ h => h.1) (fun cdv A outer s H vs Q E hr h => ?_)
  have hu := hu_of hr
  have hul := hul_of hr
  obtain ⟨_, rg, hp, sk, m, v, i, size, names, rfl, M, tv, io, hi, hz, k1, k2⟩ := h
  have hz1 : m.stack.length ≤ 4000000 := by unfold MS.size at hz; omega
  refine ⟨_, (pss_cons (ps_set (i := 3) sc_law_frame.nd rfl (by first | exact Or.inl rfl | exact Or.inr rfl) (pe_callB (call_lenK (K := K) rfl) (by rfl) T.b_len bt_len (pa_cons (pv 2) pa_nil)))
      (pss_cons (ps_if (pt_cmpR op_eq (pe_ix (ix_tupK (K := K) rfl) (pv 0) (pe_int) (fun _ _ => rfl)) (pe_str) (nomark _)) (pss_cons (ps_if (pt_cmpR op_gt (pe_ix (ix_tupK (K := K) rfl) (pv 0) (pe_int) (fun _ _ => rfl)) (pv 3) (nomark _)) (pss_one (ps_ret (pe_bl))) (pss_nil))
      (pss_one (ps_for PassesOwn.never rfl (pi_range1 (by rfl) T.b_range (pa_cons (pe_ix (ix_tupK (K := K) rfl) (pv 0) (pe_int) (fun _ _ => rfl)) pa_nil)) (pg_name (i := 4) sc_law_frame.nd rfl (by first | exact Or.inl rfl | exact Or.inr rfl))
        (pss_one (ps_expr (pe_bm0 PySem.F.plainAttrs_list PySem.F.slot_list_pop PySem.F.type_list_pop mt_pop (pv 2))))))) (pss_one (ps_if (pt_cmpR op_eq (pe_ix (ix_tupK (K := K) rfl) (pv 0) (pe_int) (fun _ _ => rfl)) (pe_str) (nomark _)) (pss_cons (ps_if (pt_cmpR op_ge (pe_ix (ix_tupK (K := K) rfl) (pv 0) (pe_int) (fun _ _ => rfl)) (pv 3) (nomark _)) (pss_one (ps_ret (pe_bl))) (pss_nil))
      (pss_one (ps_asg (pe_ix (ix_listK (K := K) rfl) (pv 1) (pe_ix (ix_tupK (K := K) rfl) (pv 0) (pe_int) (fun _ _ => rfl)) (fun _ _ => rfl)) (pg_sub (pv 2) (pe_op op_sub (pe_op op_sub (pv 3) (pe_int)) (pe_ix (ix_tupK (K := K) rfl) (pv 0) (pe_int) (fun _ _ => rfl))) set_list)))) (pss_cons (ps_if (pt_cmpR op_ge (pe_ix (ix_tupK (K := K) rfl) (pv 0) (pe_int) (fun _ _ => rfl)) (pv 3) (nomark _)) (pss_one (ps_ret (pe_bl))) (pss_nil))
      (pss_one (ps_asg (pe_ix (ix_listK (K := K) rfl) (pv 2) (pe_op op_sub (pe_op op_sub (pv 3) (pe_int)) (pe_ix (ix_tupK (K := K) rfl) (pv 0) (pe_int) (fun _ _ => rfl))) (fun _ _ => rfl)) (pg_sub (pv 1) (pe_ix (ix_tupK (K := K) rfl) (pv 0) (pe_int) (fun _ _ => rfl)) set_list)))))))
      (pss_one (ps_ret (pe_bl))))), ?_⟩
  refine ⟨_, rfl, sk, _, rfl, .inl (SqL.of M.sk), ?_⟩
  rw [vI_len]
  cases i with
  | drop x =>
    obtain ⟨a, v1, v2, rfl, hs, t1, t2⟩ := TD.two (d1 := .str "drop") (d2 := dN x) tv
    cases t1.str_
    cases t2.int_
    refine ⟨_, rfl, a, _, _, _, rfl, rfl, hs, rfl, rfl, _, rfl, ?_⟩
    rw [decide_eq_true rfl]
    refine iteT ?_
    have io' : x ≤ 400 := io
    refine ⟨_, rfl, a, _, _, _, rfl, rfl, hs, rfl, _, rfl, _, _, rfl, rfl, _, rfl, ?_⟩
    by_cases c1 : ((m.stack.length : Nat) : Int) < ((x : Nat) : Int)
    · rw [decide_eq_true c1]
      refine iteT ?_
      exact k2 (by simp only [workOf]; rw [if_pos (by omega)]) H (Ext.refl H) M
    rw [decide_eq_false c1]
    refine iteF ?_
    refine ⟨_, rfl, a, _, _, _, rfl, rfl, hs, rfl, _, rfl, by omega, by omega, ?_⟩
    refine for_range (fun j σ H' => j ≤ x ∧ Ext [rg, hp, sk] H H' ∧ (∃ y4, σ = [some (.ref a), some (.ref rg), some (.ref sk), some (.int ((m.stack.length : Nat) : Int)), y4]) ∧ LAt H' rg hp sk { m with stack := m.stack.take (m.stack.length - j) })
      ⟨Nat.zero_le _, Ext.refl H, ⟨_, rfl⟩, by rw [Nat.sub_zero, List.take_length]; exact M⟩ ?_ ?_
    · rintro j σ H1 hj ⟨_, e1, ⟨y4, rfl⟩, M1⟩
      have hj' : j < x := by have : ((x : Nat) : Int).toNat = x := by omega
                             omega
      have hl1 : (m.stack.take (m.stack.length - j)).length = m.stack.length - j := by rw [List.length_take]; omega
      obtain ⟨y, hy⟩ : ∃ y, (m.stack.take (m.stack.length - j))[m.stack.length - j - 1]? = some y := ⟨_, List.getElem?_eq_getElem (by omega)⟩
      refine ⟨_, rfl, .inl ⟨rfl, _, SqL.of M1.sk⟩, sk, _, .int y, rfl, rfl, M1.sk, ?_, ?_⟩
      · rw [vI_len, hl1]
        exact vI_at hy
      have e : (vI (m.stack.take (m.stack.length - j))).dropLast = vI (m.stack.take (m.stack.length - (j + 1))) := by
        unfold vI
        rw [← List.map_dropLast, List.dropLast_eq_take, hl1, List.take_take, show min (m.stack.length - j - 1) (m.stack.length - j) = m.stack.length - (j + 1) by omega]
      rw [e]
      exact ⟨hj', e1.trans (Ext.put (by simp)), ⟨_, rfl⟩, M1.stack _⟩
    · rintro σ H1 ⟨_, e1, ⟨y4, rfl⟩, M1⟩
      rw [show ((x : Nat) : Int).toNat = x by omega] at M1
      exact k1 _ (by simp only [workOf]; rw [if_neg (by omega)]) H1 e1 M1
  | save x r =>
    obtain ⟨a, v1, v2, v3, rfl, hs, t1, t2, t3⟩ := TD.three (d1 := .str "save") (d2 := dN x) (d3 := dN r) tv
    cases t1.str_
    cases t2.int_
    cases t3.int_
    refine ⟨_, rfl, a, _, _, _, rfl, rfl, hs, rfl, rfl, _, rfl, ?_⟩
    rw [decide_eq_false (by decide)]
    refine iteF ?_
    refine ⟨_, rfl, a, _, _, _, rfl, rfl, hs, rfl, rfl, _, rfl, ?_⟩
    rw [decide_eq_true rfl]
    refine iteT ?_
    refine ⟨_, rfl, a, _, _, _, rfl, rfl, hs, rfl, _, rfl, _, _, rfl, rfl, _, rfl, ?_⟩
    by_cases c1 : x < m.stack.length
    rotate_left
    · rw [decide_eq_true (show ((m.stack.length : Nat) : Int) ≤ ((x : Nat) : Int) by omega)]
      refine iteT ?_
      exact k2 (by simp only [workOf]; rw [if_neg c1]) H (Ext.refl H) M
    rw [decide_eq_false (show ¬ ((m.stack.length : Nat) : Int) ≤ ((x : Nat) : Int) by omega)]
    refine iteF ?_
    refine ⟨_, rfl, _, rfl, a, _, _, _, rfl, rfl, hs, rfl, rg, _, _, _, rfl, rfl, SqL.of M.rg, reg_ix (m := m) M.r8 io.2, _, rfl, _, rfl, _, _, rfl, rfl, _, rfl, a, _, _, _, rfl, rfl, hs, rfl, _, _, rfl, rfl, sk, _, _, m.stack.length - 1 - x, rfl, rfl, M.sk, ?_, ?_⟩
    · rw [vI_len, show ((m.stack.length : Nat) : Int) - 1 - ((x : Nat) : Int) = ((m.stack.length - 1 - x : Nat) : Int) by omega]
      exact ixN_int (by omega) (by omega)
    rw [vI_set]
    exact k1 _ (by simp only [workOf]; rw [if_pos c1]) _ (Ext.put (by simp)) (M.stack _)
  | load r x =>
    obtain ⟨a, v1, v2, v3, rfl, hs, t1, t2, t3⟩ := TD.three (d1 := .str "load") (d2 := dN r) (d3 := dN x) tv
    cases t1.str_
    cases t2.int_
    cases t3.int_
    refine ⟨_, rfl, a, _, _, _, rfl, rfl, hs, rfl, rfl, _, rfl, ?_⟩
    rw [decide_eq_false (by decide)]
    refine iteF ?_
    refine ⟨_, rfl, a, _, _, _, rfl, rfl, hs, rfl, rfl, _, rfl, ?_⟩
    rw [decide_eq_false (by decide)]
    refine iteF ?_
    refine ⟨_, rfl, a, _, _, _, rfl, rfl, hs, rfl, _, rfl, _, _, rfl, rfl, _, rfl, ?_⟩
    by_cases c1 : x < m.stack.length
    rotate_left
    · rw [decide_eq_true (show ((m.stack.length : Nat) : Int) ≤ ((x : Nat) : Int) by omega)]
      refine iteT ?_
      exact k2 (by simp only [workOf]; rw [if_neg c1]) H (Ext.refl H) M
    rw [decide_eq_false (show ¬ ((m.stack.length : Nat) : Int) ≤ ((x : Nat) : Int) by omega)]
    refine iteF ?_
    have hx : m.stack[m.stack.length - 1 - x]? = some (m.stack.getD (m.stack.length - 1 - x) 0) := by
      rw [List.getD_eq_getElem?_getD, List.getElem?_eq_getElem (by omega)]
      rfl
    refine ⟨_, rfl, _, rfl, _, _, rfl, rfl, _, rfl, a, _, _, _, rfl, rfl, hs, rfl, _, _, rfl, rfl, sk, _, _, _, rfl, rfl, SqL.of M.sk, ix_int (x := .int (m.stack.getD (m.stack.length - 1 - x) 0)) (by omega) ?_, _, rfl, _, rfl, a, _, _, _, rfl, rfl, hs, rfl, rg, _, _, r, rfl, rfl, M.rg, reg_ixN M.r8 io.1, ?_⟩
    · rw [show (((m.stack.length : Nat) : Int) - 1 - ((x : Nat) : Int)).toNat = m.stack.length - 1 - x by omega]
      exact vI_at hx
    rw [vI_set]
    exact k1 _ (by simp only [workOf]; rw [if_pos c1]; rfl) _ (Ext.put (by simp)) (M.regs _ (by rw [List.length_set]; exact M.r8))
  | _ => cases hi
abbrev N_law_straight : List Str := ["_law_row_here", "_law_regs", "_law_heap", "_law_stack", "_law_word", "_law_at"]
theorem sc_law_straight : FnScope ["_law_row_here", "_law_regs", "_law_heap", "_law_stack", "_law_word", "_law_at"] ["_law_row_here", "_law_regs", "_law_heap", "_law_stack"] (defScope s_law_straight) := ⟨rfl, rfl, rfl, by decide +kernel, rfl, by decide +kernel, by decide +kernel⟩
theorem c_law_straight (T : Txt w K mg) : Cal P w K mg base 2 "_law_straight" (spN 4 (r_law_straight K)) [] := by
  obtain ⟨fd, F⟩ := T.f_law_straight
  refine cal_mk F T.m_law_straight (fun _ _ _ _ _ _ us hl => match us, hl with | [_, _, _, _], _ => rfl) sc_law_straight (fun _ _ _ _ h => h.1) (fun cdv A outer s H vs Q E hr h => ?_)
  have hu := hu_of hr
  have hul := hul_of hr
  obtain ⟨_, rg, hp, sk, m, v, i, size, names, rfl, M, tv, io, hi, hz, k1, k2⟩ := h
  have hz1 : m.stack.length ≤ 4000000 := by unfold MS.size at hz; omega
  have hz2 : m.heap.length ≤ 4000000 := by unfold MS.size at hz; omega
  refine ⟨_, (pss_cons (ps_set (i := 4) sc_law_straight.nd rfl (by first | exact Or.inl rfl | exact Or.inr rfl) (pe_ix (ix_tupK (K := K) rfl) (pv 0) (pe_int) (fun _ _ => rfl)))
      (pss_cons (ps_if (pt_cmpR op_eq (pv 4) (pe_str) (nomark _)) (pss_one (ps_asg (pe_ix (ix_tupK (K := K) rfl) (pv 0) (pe_int) (fun _ _ => rfl)) (pg_sub (pv 1) (pe_ix (ix_tupK (K := K) rfl) (pv 0) (pe_int) (fun _ _ => rfl)) set_list))) (pss_one (ps_if (pt_cmpR op_eq (pv 4) (pe_str) (nomark _)) (pss_one (ps_asg (pe_ix (ix_listK (K := K) rfl) (pv 1) (pe_ix (ix_tupK (K := K) rfl) (pv 0) (pe_int) (fun _ _ => rfl)) (fun _ _ => rfl)) (pg_sub (pv 1) (pe_ix (ix_tupK (K := K) rfl) (pv 0) (pe_int) (fun _ _ => rfl)) set_list))) (pss_one (ps_if (pt_cmpR op_eq (pv 4) (pe_str) (nomark _)) (pss_one (ps_asg (pe_op op_add (pe_ix (ix_listK (K := K) rfl) (pv 1) (pe_ix (ix_tupK (K := K) rfl) (pv 0) (pe_int) (fun _ _ => rfl)) (fun _ _ => rfl)) (pe_ix (ix_listK (K := K) rfl) (pv 1) (pe_ix (ix_tupK (K := K) rfl) (pv 0) (pe_int) (fun _ _ => rfl)) (fun _ _ => rfl))) (pg_sub (pv 1) (pe_ix (ix_tupK (K := K) rfl) (pv 0) (pe_int) (fun _ _ => rfl)) set_list))) (pss_one (ps_if (pt_cmpR op_eq (pv 4) (pe_str) (nomark _)) (pss_one (ps_asg (pe_op op_sub (pe_ix (ix_listK (K := K) rfl) (pv 1) (pe_ix (ix_tupK (K := K) rfl) (pv 0) (pe_int) (fun _ _ => rfl)) (fun _ _ => rfl)) (pe_ix (ix_listK (K := K) rfl) (pv 1) (pe_ix (ix_tupK (K := K) rfl) (pv 0) (pe_int) (fun _ _ => rfl)) (fun _ _ => rfl))) (pg_sub (pv 1) (pe_ix (ix_tupK (K := K) rfl) (pv 0) (pe_int) (fun _ _ => rfl)) set_list))) (pss_one (ps_if (pt_cmpR op_eq (pv 4) (pe_str) (nomark _)) (pss_one (ps_asg (pe_op op_mul (pe_ix (ix_listK (K := K) rfl) (pv 1) (pe_ix (ix_tupK (K := K) rfl) (pv 0) (pe_int) (fun _ _ => rfl)) (fun _ _ => rfl)) (pe_ix (ix_tupK (K := K) rfl) (pv 0) (pe_int) (fun _ _ => rfl))) (pg_sub (pv 1) (pe_ix (ix_tupK (K := K) rfl) (pv 0) (pe_int) (fun _ _ => rfl)) set_list))) (pss_one (ps_if (pt_cmpR op_eq (pv 4) (pe_str) (nomark _)) (pss_cons (ps_asg (pe_callB (call_lenK (K := K) rfl) (by rfl) T.b_len bt_len (pa_cons (pv 2) pa_nil)) (pg_sub (pv 1) (pe_ix (ix_tupK (K := K) rfl) (pv 0) (pe_int) (fun _ _ => rfl)) set_list))
      (pss_one (ps_expr (pe_bm PySem.F.plainAttrs_list PySem.F.slot_list_extend PySem.F.type_list_extend mt_extend (pv 2) (pa_cons (pe_op op_rep (pe_lst (pa_cons (pe_int) pa_nil)) (pe_ix (ix_tupK (K := K) rfl) (pv 0) (pe_int) (fun _ _ => rfl))) pa_nil))))) (pss_one (ps_if (pt_cmpR op_eq (pv 4) (pe_str) (nomark _)) (pss_one (ps_expr (pe_bm PySem.F.plainAttrs_list PySem.F.slot_list_extend PySem.F.type_list_extend mt_extend (pv 3) (pa_cons (pe_op op_rep (pe_lst (pa_cons (pe_int) pa_nil)) (pe_ix (ix_tupK (K := K) rfl) (pv 0) (pe_int) (fun _ _ => rfl))) pa_nil)))) (pss_one (ps_if (pt_cmpR op_eq (pv 4) (pe_str) (nomark _)) (pss_cons (ps_set (i := 5) sc_law_straight.nd rfl (by first | exact Or.inl rfl | exact Or.inr rfl) (pe_op op_add (pe_ix (ix_listK (K := K) rfl) (pv 1) (pe_ix (ix_tupK (K := K) rfl) (pv 0) (pe_int) (fun _ _ => rfl)) (fun _ _ => rfl)) (pe_ix (ix_tupK (K := K) rfl) (pv 0) (pe_int) (fun _ _ => rfl))))
      (pss_cons (ps_if (PW.pt (pw_or (pt_cmpR op_lt (pv 5) (pe_int) (nomark _)) (pw_or1 (pt_cmpR op_ge (pv 5) (pe_callB (call_lenK (K := K) rfl) (by rfl) T.b_len bt_len (pa_cons (pv 2) pa_nil)) (nomark _))))) (pss_one (ps_ret (pe_bl))) (pss_nil))
      (pss_one (ps_asg (pe_ix (ix_listK (K := K) rfl) (pv 1) (pe_ix (ix_tupK (K := K) rfl) (pv 0) (pe_int) (fun _ _ => rfl)) (fun _ _ => rfl)) (pg_sub (pv 2) (pv 5) set_list))))) (pss_one (ps_if (pt_cmpR op_eq (pv 4) (pe_str) (nomark _)) (pss_cons (ps_set (i := 5) sc_law_straight.nd rfl (by first | exact Or.inl rfl | exact Or.inr rfl) (pe_op op_add (pe_ix (ix_listK (K := K) rfl) (pv 1) (pe_ix (ix_tupK (K := K) rfl) (pv 0) (pe_int) (fun _ _ => rfl)) (fun _ _ => rfl)) (pe_ix (ix_tupK (K := K) rfl) (pv 0) (pe_int) (fun _ _ => rfl))))
      (pss_cons (ps_if (PW.pt (pw_or (pt_cmpR op_lt (pv 5) (pe_int) (nomark _)) (pw_or1 (pt_cmpR op_ge (pv 5) (pe_callB (call_lenK (K := K) rfl) (by rfl) T.b_len bt_len (pa_cons (pv 2) pa_nil)) (nomark _))))) (pss_one (ps_ret (pe_bl))) (pss_nil))
      (pss_one (ps_asg (pe_ix (ix_listK (K := K) rfl) (pv 2) (pv 5) (fun _ _ => rfl)) (pg_sub (pv 1) (pe_ix (ix_tupK (K := K) rfl) (pv 0) (pe_int) (fun _ _ => rfl)) set_list))))) (pss_one (ps_ret (pe_c (c_law_frame T) hr (by decide) (by rfl) (pa_cons (pv 0) (pa_cons (pv 1) (pa_cons (pv 3) pa_nil)))))))))))))))))))))))
      (pss_one (ps_ret (pe_bl))))), ?_⟩
  cases i with
  | set r x =>
    obtain ⟨a, v1, v2, v3, rfl, hs, t1, t2, t3⟩ := TD.three (d1 := .str "set") (d2 := dN r) (d3 := .int x) tv
    cases t1.str_
    cases t2.int_
    cases t3.int_
    refine ⟨_, rfl, a, _, _, _, rfl, rfl, hs, rfl, ?_⟩
    refine ⟨_, rfl, rfl, _, rfl, ?_⟩
    rw [decide_eq_true rfl]
    refine iteT ?_
    refine ⟨_, rfl, a, _, _, _, rfl, rfl, hs, rfl, _, rfl, _, rfl, a, _, _, _, rfl, rfl, hs, rfl, rg, _, _, r, rfl, rfl, M.rg, reg_ixN M.r8 io.1, ?_⟩
    rw [vI_set]
    exact k1 _ rfl _ (Ext.put (by simp)) (M.regs _ (by rw [List.length_set]; exact M.r8))
  | copy r s =>
    obtain ⟨a, v1, v2, v3, rfl, hs, t1, t2, t3⟩ := TD.three (d1 := .str "copy") (d2 := dN r) (d3 := dN s) tv
    cases t1.str_
    cases t2.int_
    cases t3.int_
    refine ⟨_, rfl, a, _, _, _, rfl, rfl, hs, rfl, ?_⟩
    refine ⟨_, rfl, rfl, _, rfl, ?_⟩
    rw [decide_eq_false (by decide)]
    refine iteF ?_
    refine ⟨_, rfl, rfl, _, rfl, ?_⟩
    rw [decide_eq_true rfl]
    refine iteT ?_
    refine ⟨_, rfl, _, rfl, a, _, _, _, rfl, rfl, hs, rfl, rg, _, _, _, rfl, rfl, SqL.of M.rg, reg_ix (m := m) M.r8 io.2, _, rfl, _, rfl, a, _, _, _, rfl, rfl, hs, rfl, rg, _, _, r, rfl, rfl, M.rg, reg_ixN M.r8 io.1, ?_⟩
    rw [vI_set]
    exact k1 _ rfl _ (Ext.put (by simp)) (M.regs _ (by rw [List.length_set]; exact M.r8))
  | add r s t =>
    obtain ⟨a, v1, v2, v3, v4, rfl, hs, t1, t2, t3, t4⟩ := TD.four (d1 := .str "add") (d2 := dN r) (d3 := dN s) (d4 := dN t) tv
    cases t1.str_
    cases t2.int_
    cases t3.int_
    cases t4.int_
    refine ⟨_, rfl, a, _, _, _, rfl, rfl, hs, rfl, ?_⟩
    refine ⟨_, rfl, rfl, _, rfl, ?_⟩
    rw [decide_eq_false (by decide)]
    refine iteF ?_
    refine ⟨_, rfl, rfl, _, rfl, ?_⟩
    rw [decide_eq_false (by decide)]
    refine iteF ?_
    refine ⟨_, rfl, rfl, _, rfl, ?_⟩
    rw [decide_eq_true rfl]
    refine iteT ?_
    refine ⟨_, rfl, _, rfl, a, _, _, _, rfl, rfl, hs, rfl, rg, _, _, _, rfl, rfl, SqL.of M.rg, reg_ix (m := m) M.r8 io.2.1, _, rfl, _, rfl, a, _, _, _, rfl, rfl, hs, rfl, rg, _, _, _, rfl, rfl, SqL.of M.rg, reg_ix (m := m) M.r8 io.2.2, _, _, rfl, rfl, _, rfl, _, rfl, a, _, _, _, rfl, rfl, hs, rfl, rg, _, _, r, rfl, rfl, M.rg, reg_ixN M.r8 io.1, ?_⟩
    rw [vI_set]
    exact k1 _ rfl _ (Ext.put (by simp)) (M.regs _ (by rw [List.length_set]; exact M.r8))
  | sub r s t =>
    obtain ⟨a, v1, v2, v3, v4, rfl, hs, t1, t2, t3, t4⟩ := TD.four (d1 := .str "sub") (d2 := dN r) (d3 := dN s) (d4 := dN t) tv
    cases t1.str_
    cases t2.int_
    cases t3.int_
    cases t4.int_
    refine ⟨_, rfl, a, _, _, _, rfl, rfl, hs, rfl, ?_⟩
    refine ⟨_, rfl, rfl, _, rfl, ?_⟩
    rw [decide_eq_false (by decide)]
    refine iteF ?_
    refine ⟨_, rfl, rfl, _, rfl, ?_⟩
    rw [decide_eq_false (by decide)]
    refine iteF ?_
    refine ⟨_, rfl, rfl, _, rfl, ?_⟩
    rw [decide_eq_false (by decide)]
    refine iteF ?_
    refine ⟨_, rfl, rfl, _, rfl, ?_⟩
    rw [decide_eq_true rfl]
    refine iteT ?_
    refine ⟨_, rfl, _, rfl, a, _, _, _, rfl, rfl, hs, rfl, rg, _, _, _, rfl, rfl, SqL.of M.rg, reg_ix (m := m) M.r8 io.2.1, _, rfl, _, rfl, a, _, _, _, rfl, rfl, hs, rfl, rg, _, _, _, rfl, rfl, SqL.of M.rg, reg_ix (m := m) M.r8 io.2.2, _, _, rfl, rfl, _, rfl, _, rfl, a, _, _, _, rfl, rfl, hs, rfl, rg, _, _, r, rfl, rfl, M.rg, reg_ixN M.r8 io.1, ?_⟩
    rw [vI_set]
    exact k1 _ rfl _ (Ext.put (by simp)) (M.regs _ (by rw [List.length_set]; exact M.r8))
  | times r s x =>
    obtain ⟨a, v1, v2, v3, v4, rfl, hs, t1, t2, t3, t4⟩ := TD.four (d1 := .str "times") (d2 := dN r) (d3 := dN s) (d4 := .int x) tv
    cases t1.str_
    cases t2.int_
    cases t3.int_
    cases t4.int_
    refine ⟨_, rfl, a, _, _, _, rfl, rfl, hs, rfl, ?_⟩
    refine ⟨_, rfl, rfl, _, rfl, ?_⟩
    rw [decide_eq_false (by decide)]
    refine iteF ?_
    refine ⟨_, rfl, rfl, _, rfl, ?_⟩
    rw [decide_eq_false (by decide)]
    refine iteF ?_
    refine ⟨_, rfl, rfl, _, rfl, ?_⟩
    rw [decide_eq_false (by decide)]
    refine iteF ?_
    refine ⟨_, rfl, rfl, _, rfl, ?_⟩
    rw [decide_eq_false (by decide)]
    refine iteF ?_
    refine ⟨_, rfl, rfl, _, rfl, ?_⟩
    rw [decide_eq_true rfl]
    refine iteT ?_
    refine ⟨_, rfl, _, rfl, a, _, _, _, rfl, rfl, hs, rfl, rg, _, _, _, rfl, rfl, SqL.of M.rg, reg_ix (m := m) M.r8 io.2.1, _, rfl, a, _, _, _, rfl, rfl, hs, rfl, _, _, rfl, rfl, .inr ⟨by have := io.2.2.1; omega, by have := io.2.2.2; omega⟩, _, rfl, _, rfl, a, _, _, _, rfl, rfl, hs, rfl, rg, _, _, r, rfl, rfl, M.rg, reg_ixN M.r8 io.1, ?_⟩
    rw [vI_set]
    exact k1 _ rfl _ (Ext.put (by simp)) (M.regs _ (by rw [List.length_set]; exact M.r8))
  | new r x =>
    obtain ⟨a, v1, v2, v3, rfl, hs, t1, t2, t3⟩ := TD.three (d1 := .str "new") (d2 := dN r) (d3 := dN x) tv
    cases t1.str_
    cases t2.int_
    cases t3.int_
    refine ⟨_, rfl, a, _, _, _, rfl, rfl, hs, rfl, ?_⟩
    refine ⟨_, rfl, rfl, _, rfl, ?_⟩
    rw [decide_eq_false (by decide)]
    refine iteF ?_
    refine ⟨_, rfl, rfl, _, rfl, ?_⟩
    rw [decide_eq_false (by decide)]
    refine iteF ?_
    refine ⟨_, rfl, rfl, _, rfl, ?_⟩
    rw [decide_eq_false (by decide)]
    refine iteF ?_
    refine ⟨_, rfl, rfl, _, rfl, ?_⟩
    rw [decide_eq_false (by decide)]
    refine iteF ?_
    refine ⟨_, rfl, rfl, _, rfl, ?_⟩
    rw [decide_eq_false (by decide)]
    refine iteF ?_
    refine ⟨_, rfl, rfl, _, rfl, ?_⟩
    rw [decide_eq_true rfl]
    refine iteT ?_
    refine ⟨_, rfl, hp, _, rfl, .inl (SqL.of M.hp), _, rfl, _, rfl, a, _, _, _, rfl, rfl, hs, rfl, rg, _, _, r, rfl, rfl, M.rg, reg_ixN M.r8 io.1, ?_⟩
    rw [vI_len, vI_set]
    have M2 := M.regs (m.regs.set r (m.heap.length : Nat)) (by rw [List.length_set]; exact M.r8)
    have e2 : Ext [rg, hp, sk] H (upd H rg (.lst (vI (m.regs.set r (m.heap.length : Nat))))) := Ext.put (by simp)
    have hs2 := (KeepT.upd (o := .lst (vI (m.regs.set r (m.heap.length : Nat)))) (not_tup_lst M.rg)).sq hs
    generalize upd H rg (.lst (vI (m.regs.set r (m.heap.length : Nat)))) = H2 at *
    refine ⟨_, rfl, .inl ⟨rfl, _, SqL.of M2.hp⟩, by show 1 ≤ sizeLine; decide, fun pz hpz => ?_⟩
    have M3 := M2.ext (Ext.new (o := .lst [V.int 0]) hpz)
    have hs3 := (Ext.new (o := .lst [V.int 0]) hpz).sqt hs2
    have e3 := e2.trans (Ext.new (o := .lst [V.int 0]) hpz)
    have g3 : (upd H2 pz (.lst [V.int 0])) pz = some (.lst [V.int 0]) := upd_same
    generalize upd H2 pz (.lst [V.int 0]) = H3 at *
    refine ⟨_, rfl, a, _, _, _, rfl, rfl, hs3, rfl, pz, _, _, rfl, rfl, g3, by omega, by have := io.2.2; omega, by simp; exact sz (by have := io.2.2; omega), fun qz hqz => ?_⟩
    rw [rep0]
    have M4 := M3.ext (Ext.new (o := .lst (vI (List.replicate x 0))) hqz)
    have e4 := e3.trans (Ext.new (o := .lst (vI (List.replicate x 0))) hqz)
    have g4 : (upd H3 qz (.lst (vI (List.replicate x 0)))) qz = some (.lst (vI (List.replicate x 0))) := upd_same
    generalize upd H3 qz (.lst (vI (List.replicate x 0))) = H4 at *
    refine ⟨hp, qz, _, _, rfl, rfl, M4.hp, g4, by rw [vI_len, vI_len, List.length_replicate]; show _ ≤ 2 ^ 24; have := io.2.2; simp only; omega, ?_⟩
    rw [← vI_app]
    exact k1 _ rfl _ (e4.trans (Ext.put (by simp))) ((M4.heap (m.heap ++ List.replicate x 0)).of rfl rfl rfl)
  | push x =>
    obtain ⟨a, v1, v2, rfl, hs, t1, t2⟩ := TD.two (d1 := .str "push") (d2 := dN x) tv
    cases t1.str_
    cases t2.int_
    refine ⟨_, rfl, a, _, _, _, rfl, rfl, hs, rfl, ?_⟩
    refine ⟨_, rfl, rfl, _, rfl, ?_⟩
    rw [decide_eq_false (by decide)]
    refine iteF ?_
    refine ⟨_, rfl, rfl, _, rfl, ?_⟩
    rw [decide_eq_false (by decide)]
    refine iteF ?_
    refine ⟨_, rfl, rfl, _, rfl, ?_⟩
    rw [decide_eq_false (by decide)]
    refine iteF ?_
    refine ⟨_, rfl, rfl, _, rfl, ?_⟩
    rw [decide_eq_false (by decide)]
    refine iteF ?_
    refine ⟨_, rfl, rfl, _, rfl, ?_⟩
    rw [decide_eq_false (by decide)]
    refine iteF ?_
    refine ⟨_, rfl, rfl, _, rfl, ?_⟩
    rw [decide_eq_false (by decide)]
    refine iteF ?_
    refine ⟨_, rfl, rfl, _, rfl, ?_⟩
    rw [decide_eq_true rfl]
    refine iteT ?_
    have io' : x ≤ 400 := io
    refine ⟨_, rfl, .inl ⟨rfl, _, SqL.of M.sk⟩, by show 1 ≤ sizeLine; decide, fun pz hpz => ?_⟩
    have M3 := M.ext (Ext.new (o := .lst [V.int 0]) hpz)
    have hs3 := (Ext.new (o := .lst [V.int 0]) hpz).sqt hs
    have e3 : Ext [rg, hp, sk] H _ := Ext.new (o := .lst [V.int 0]) hpz
    have g3 : (upd H pz (.lst [V.int 0])) pz = some (.lst [V.int 0]) := upd_same
    generalize upd H pz (.lst [V.int 0]) = H3 at *
    refine ⟨_, rfl, a, _, _, _, rfl, rfl, hs3, rfl, pz, _, _, rfl, rfl, g3, by omega, by omega, by simp; exact sz (by omega), fun qz hqz => ?_⟩
    rw [rep0]
    have M4 := M3.ext (Ext.new (o := .lst (vI (List.replicate x 0))) hqz)
    have e4 := e3.trans (Ext.new (o := .lst (vI (List.replicate x 0))) hqz)
    have g4 : (upd H3 qz (.lst (vI (List.replicate x 0)))) qz = some (.lst (vI (List.replicate x 0))) := upd_same
    generalize upd H3 qz (.lst (vI (List.replicate x 0))) = H4 at *
    refine ⟨sk, qz, _, _, rfl, rfl, M4.sk, g4, by rw [vI_len, vI_len, List.length_replicate]; show _ ≤ 2 ^ 24; omega, ?_⟩
    rw [← vI_app]
    exact k1 _ rfl _ (e4.trans (Ext.put (by simp))) ((M4.stack (m.stack ++ List.replicate x 0)).of rfl rfl rfl)
  | put r o s =>
    obtain ⟨a, v1, v2, v3, v4, rfl, hs, t1, t2, t3, t4⟩ := TD.four (d1 := .str "put") (d2 := dN r) (d3 := dN o) (d4 := dN s) tv
    cases t1.str_
    cases t2.int_
    cases t3.int_
    cases t4.int_
    refine ⟨_, rfl, a, _, _, _, rfl, rfl, hs, rfl, ?_⟩
    refine ⟨_, rfl, rfl, _, rfl, ?_⟩
    rw [decide_eq_false (by decide)]
    refine iteF ?_
    refine ⟨_, rfl, rfl, _, rfl, ?_⟩
    rw [decide_eq_false (by decide)]
    refine iteF ?_
    refine ⟨_, rfl, rfl, _, rfl, ?_⟩
    rw [decide_eq_false (by decide)]
    refine iteF ?_
    refine ⟨_, rfl, rfl, _, rfl, ?_⟩
    rw [decide_eq_false (by decide)]
    refine iteF ?_
    refine ⟨_, rfl, rfl, _, rfl, ?_⟩
    rw [decide_eq_false (by decide)]
    refine iteF ?_
    refine ⟨_, rfl, rfl, _, rfl, ?_⟩
    rw [decide_eq_false (by decide)]
    refine iteF ?_
    refine ⟨_, rfl, rfl, _, rfl, ?_⟩
    rw [decide_eq_false (by decide)]
    refine iteF ?_
    refine ⟨_, rfl, rfl, _, rfl, ?_⟩
    rw [decide_eq_true rfl]
    refine iteT ?_
    refine ⟨_, rfl, _, rfl, a, _, _, _, rfl, rfl, hs, rfl, rg, _, _, _, rfl, rfl, SqL.of M.rg, reg_ix (m := m) M.r8 io.1, _, rfl, a, _, _, _, rfl, rfl, hs, rfl, _, _, rfl, rfl, ?_⟩
    refine ⟨_, rfl, _, _, rfl, rfl, _, rfl, ?_⟩
    by_cases c1 : 0 ≤ (m.reg r + ((o : Nat) : Int))
    rotate_left
    · rw [decide_eq_true (show (m.reg r + ((o : Nat) : Int)) < 0 by omega)]
      refine iteT (iteT ?_)
      exact k2 (by simp only [workOf]; rw [if_neg (fun q => c1 q.1)]) H (Ext.refl H) M
    rw [decide_eq_false (show ¬ (m.reg r + ((o : Nat) : Int)) < 0 by omega)]
    refine iteF ⟨_, rfl, _, rfl, hp, _, rfl, .inl (SqL.of M.hp), _, _, rfl, rfl, _, rfl, ?_⟩
    rw [vI_len]
    by_cases c2 : (m.reg r + ((o : Nat) : Int)) < ((m.heap.length : Nat) : Int)
    rotate_left
    · rw [decide_eq_true (show ((m.heap.length : Nat) : Int) ≤ (m.reg r + ((o : Nat) : Int)) by omega)]
      refine iteT ?_
      exact k2 (by simp only [workOf]; rw [if_neg (fun q => c2 q.2)]) H (Ext.refl H) M
    rw [decide_eq_false (show ¬ ((m.heap.length : Nat) : Int) ≤ (m.reg r + ((o : Nat) : Int)) by omega)]
    refine iteF ?_
    refine ⟨_, rfl, _, rfl, a, _, _, _, rfl, rfl, hs, rfl, rg, _, _, _, rfl, rfl, SqL.of M.rg, reg_ix (m := m) M.r8 io.2.2, _, rfl, _, rfl, hp, _, _, (m.reg r + ((o : Nat) : Int)).toNat, rfl, rfl, M.hp, by rw [vI_len]; exact ixN_int c1 c2, ?_⟩
    rw [vI_set]
    exact k1 _ (by simp only [workOf]; rw [if_pos ⟨c1, c2⟩]) _ (Ext.put (by simp)) (M.heap _)
  | take r s o =>
    obtain ⟨a, v1, v2, v3, v4, rfl, hs, t1, t2, t3, t4⟩ := TD.four (d1 := .str "take") (d2 := dN r) (d3 := dN s) (d4 := dN o) tv
    cases t1.str_
    cases t2.int_
    cases t3.int_
    cases t4.int_
    refine ⟨_, rfl, a, _, _, _, rfl, rfl, hs, rfl, ?_⟩
    refine ⟨_, rfl, rfl, _, rfl, ?_⟩
    rw [decide_eq_false (by decide)]
    refine iteF ?_
    refine ⟨_, rfl, rfl, _, rfl, ?_⟩
    rw [decide_eq_false (by decide)]
    refine iteF ?_
    refine ⟨_, rfl, rfl, _, rfl, ?_⟩
    rw [decide_eq_false (by decide)]
    refine iteF ?_
    refine ⟨_, rfl, rfl, _, rfl, ?_⟩
    rw [decide_eq_false (by decide)]
    refine iteF ?_
    refine ⟨_, rfl, rfl, _, rfl, ?_⟩
    rw [decide_eq_false (by decide)]
    refine iteF ?_
    refine ⟨_, rfl, rfl, _, rfl, ?_⟩
    rw [decide_eq_false (by decide)]
    refine iteF ?_
    refine ⟨_, rfl, rfl, _, rfl, ?_⟩
    rw [decide_eq_false (by decide)]
    refine iteF ?_
    refine ⟨_, rfl, rfl, _, rfl, ?_⟩
    rw [decide_eq_false (by decide)]
    refine iteF ?_
    refine ⟨_, rfl, rfl, _, rfl, ?_⟩
    rw [decide_eq_true rfl]
    refine iteT ?_
    refine ⟨_, rfl, _, rfl, a, _, _, _, rfl, rfl, hs, rfl, rg, _, _, _, rfl, rfl, SqL.of M.rg, reg_ix (m := m) M.r8 io.2.1, _, rfl, a, _, _, _, rfl, rfl, hs, rfl, _, _, rfl, rfl, ?_⟩
    refine ⟨_, rfl, _, _, rfl, rfl, _, rfl, ?_⟩
    by_cases c1 : 0 ≤ (m.reg s + ((o : Nat) : Int))
    rotate_left
    · rw [decide_eq_true (show (m.reg s + ((o : Nat) : Int)) < 0 by omega)]
      refine iteT (iteT ?_)
      exact k2 (by simp only [workOf]; rw [if_neg (fun q => c1 q.1)]) H (Ext.refl H) M
    rw [decide_eq_false (show ¬ (m.reg s + ((o : Nat) : Int)) < 0 by omega)]
    refine iteF ⟨_, rfl, _, rfl, hp, _, rfl, .inl (SqL.of M.hp), _, _, rfl, rfl, _, rfl, ?_⟩
    rw [vI_len]
    by_cases c2 : (m.reg s + ((o : Nat) : Int)) < ((m.heap.length : Nat) : Int)
    rotate_left
    · rw [decide_eq_true (show ((m.heap.length : Nat) : Int) ≤ (m.reg s + ((o : Nat) : Int)) by omega)]
      refine iteT ?_
      exact k2 (by simp only [workOf]; rw [if_neg (fun q => c2 q.2)]) H (Ext.refl H) M
    rw [decide_eq_false (show ¬ ((m.heap.length : Nat) : Int) ≤ (m.reg s + ((o : Nat) : Int)) by omega)]
    refine iteF ?_
    have hx : m.heap[(m.reg s + ((o : Nat) : Int)).toNat]? = some (m.heap.getD (m.reg s + ((o : Nat) : Int)).toNat 0) := by
      rw [List.getD_eq_getElem?_getD, List.getElem?_eq_getElem (by omega)]
      rfl
    refine ⟨_, rfl, _, rfl, hp, _, _, _, rfl, rfl, SqL.of M.hp, ix_int c1 (vI_at hx), _, rfl, _, rfl, a, _, _, _, rfl, rfl, hs, rfl, rg, _, _, r, rfl, rfl, M.rg, reg_ixN M.r8 io.1, ?_⟩
    rw [vI_set]
    exact k1 _ (by simp only [workOf]; rw [if_pos ⟨c1, c2⟩]; rfl) _ (Ext.put (by simp)) (M.regs _ (by rw [List.length_set]; exact M.r8))
  | drop x =>
    obtain ⟨a, v1, v2, rfl, hs, t1, t2⟩ := TD.two (d1 := .str "drop") (d2 := dN x) tv
    cases t1.str_
    cases t2.int_
    refine ⟨_, rfl, a, _, _, _, rfl, rfl, hs, rfl, ?_⟩
    refine ⟨_, rfl, rfl, _, rfl, ?_⟩
    rw [decide_eq_false (by decide)]
    refine iteF ?_
    refine ⟨_, rfl, rfl, _, rfl, ?_⟩
    rw [decide_eq_false (by decide)]
    refine iteF ?_
    refine ⟨_, rfl, rfl, _, rfl, ?_⟩
    rw [decide_eq_false (by decide)]
    refine iteF ?_
    refine ⟨_, rfl, rfl, _, rfl, ?_⟩
    rw [decide_eq_false (by decide)]
    refine iteF ?_
    refine ⟨_, rfl, rfl, _, rfl, ?_⟩
    rw [decide_eq_false (by decide)]
    refine iteF ?_
    refine ⟨_, rfl, rfl, _, rfl, ?_⟩
    rw [decide_eq_false (by decide)]
    refine iteF ?_
    refine ⟨_, rfl, rfl, _, rfl, ?_⟩
    rw [decide_eq_false (by decide)]
    refine iteF ?_
    refine ⟨_, rfl, rfl, _, rfl, ?_⟩
    rw [decide_eq_false (by decide)]
    refine iteF ?_
    refine ⟨_, rfl, rfl, _, rfl, ?_⟩
    rw [decide_eq_false (by decide)]
    refine iteF ?_
    exact ⟨_, rfl, _, rfl, _, rfl, rfl, rg, hp, sk, m, _, _, size, names, rfl, M, tv, io, rfl, hz, k1, k2⟩
  | save x r =>
    obtain ⟨a, v1, v2, v3, rfl, hs, t1, t2, t3⟩ := TD.three (d1 := .str "save") (d2 := dN x) (d3 := dN r) tv
    cases t1.str_
    cases t2.int_
    cases t3.int_
    refine ⟨_, rfl, a, _, _, _, rfl, rfl, hs, rfl, ?_⟩
    refine ⟨_, rfl, rfl, _, rfl, ?_⟩
    rw [decide_eq_false (by decide)]
    refine iteF ?_
    refine ⟨_, rfl, rfl, _, rfl, ?_⟩
    rw [decide_eq_false (by decide)]
    refine iteF ?_
    refine ⟨_, rfl, rfl, _, rfl, ?_⟩
    rw [decide_eq_false (by decide)]
    refine iteF ?_
    refine ⟨_, rfl, rfl, _, rfl, ?_⟩
    rw [decide_eq_false (by decide)]
    refine iteF ?_
    refine ⟨_, rfl, rfl, _, rfl, ?_⟩
    rw [decide_eq_false (by decide)]
    refine iteF ?_
    refine ⟨_, rfl, rfl, _, rfl, ?_⟩
    rw [decide_eq_false (by decide)]
    refine iteF ?_
    refine ⟨_, rfl, rfl, _, rfl, ?_⟩
    rw [decide_eq_false (by decide)]
    refine iteF ?_
    refine ⟨_, rfl, rfl, _, rfl, ?_⟩
    rw [decide_eq_false (by decide)]
    refine iteF ?_
    refine ⟨_, rfl, rfl, _, rfl, ?_⟩
    rw [decide_eq_false (by decide)]
    refine iteF ?_
    exact ⟨_, rfl, _, rfl, _, rfl, rfl, rg, hp, sk, m, _, _, size, names, rfl, M, tv, io, rfl, hz, k1, k2⟩
  | load r x =>
    obtain ⟨a, v1, v2, v3, rfl, hs, t1, t2, t3⟩ := TD.three (d1 := .str "load") (d2 := dN r) (d3 := dN x) tv
    cases t1.str_
    cases t2.int_
    cases t3.int_
    refine ⟨_, rfl, a, _, _, _, rfl, rfl, hs, rfl, ?_⟩
    refine ⟨_, rfl, rfl, _, rfl, ?_⟩
    rw [decide_eq_false (by decide)]
    refine iteF ?_
    refine ⟨_, rfl, rfl, _, rfl, ?_⟩
    rw [decide_eq_false (by decide)]
    refine iteF ?_
    refine ⟨_, rfl, rfl, _, rfl, ?_⟩
    rw [decide_eq_false (by decide)]
    refine iteF ?_
    refine ⟨_, rfl, rfl, _, rfl, ?_⟩
    rw [decide_eq_false (by decide)]
    refine iteF ?_
    refine ⟨_, rfl, rfl, _, rfl, ?_⟩
    rw [decide_eq_false (by decide)]
    refine iteF ?_
    refine ⟨_, rfl, rfl, _, rfl, ?_⟩
    rw [decide_eq_false (by decide)]
    refine iteF ?_
    refine ⟨_, rfl, rfl, _, rfl, ?_⟩
    rw [decide_eq_false (by decide)]
    refine iteF ?_
    refine ⟨_, rfl, rfl, _, rfl, ?_⟩
    rw [decide_eq_false (by decide)]
    refine iteF ?_
    refine ⟨_, rfl, rfl, _, rfl, ?_⟩
    rw [decide_eq_false (by decide)]
    refine iteF ?_
    exact ⟨_, rfl, _, rfl, _, rfl, rfl, rg, hp, sk, m, _, _, size, names, rfl, M, tv, io, rfl, hz, k1, k2⟩
  | _ => cases hi
abbrev N_law_turn : List Str := ["_law_image", "_law_row_here", "_law_at", "_law_regs", "_law_stack", "_law_word", "_law_name", "_law_address"]
theorem sc_law_turn : FnScope ["_law_image", "_law_row_here", "_law_at", "_law_regs", "_law_stack", "_law_word", "_law_name", "_law_address"] ["_law_image", "_law_row_here", "_law_at", "_law_regs", "_law_stack"] (defScope s_law_turn) := ⟨rfl, rfl, rfl, by decide +kernel, rfl, by decide +kernel, by decide +kernel⟩
theorem c_law_turn (T : Txt w K mg) : Cal P w K mg base 1 "_law_turn" (spN 5 (r_law_turn K)) [] := by
  obtain ⟨fd, F⟩ := T.f_law_turn
  refine cal_mk F T.m_law_turn (fun _ _ _ _ _ _ us hl => match us, hl with | [_, _, _, _, _], _ => rfl) sc_law_turn (fun _ _ _ _ h => h.1) (fun cdv A outer s H vs Q E hr h => ?_)
  have hu := hu_of hr
  have hul := hul_of hr
  obtain ⟨_, rg, hp, sk, m, v, gv, g, i, pc, rfl, M, tv, tg, go, io, hi, hz, hne, k1, k3⟩ := h
  have hz1 : m.stack.length ≤ 4000000 := by unfold MS.size at hz; omega
  obtain ⟨ga, gv1, gv2, rfl, hga, tg1, tg2⟩ := tg.two
  obtain ⟨sa, sxs, rfl, hsa, tss⟩ := tg1.open_
  refine ⟨_, (pss_cons (ps_set (i := 5) sc_law_turn.nd rfl (by first | exact Or.inl rfl | exact Or.inr rfl) (pe_ix (ix_tupK (K := K) rfl) (pv 1) (pe_int) (fun _ _ => rfl)))
      (pss_cons (ps_if (pt_cmpR op_eq (pv 5) (pe_str) (nomark _)) (pss_one (ps_ret (pe_ix (ix_tupK (K := K) rfl) (pv 1) (pe_int) (fun _ _ => rfl)))) (pss_nil))
      (pss_cons (ps_if (pt_cmpR op_eq (pv 5) (pe_str) (nomark _)) (pss_cons (ps_if (pt_cmpR op_lt (pe_ix (ix_listK (K := K) rfl) (pv 3) (pe_ix (ix_tupK (K := K) rfl) (pv 1) (pe_int) (fun _ _ => rfl)) (fun _ _ => rfl)) (pe_ix (ix_listK (K := K) rfl) (pv 3) (pe_ix (ix_tupK (K := K) rfl) (pv 1) (pe_int) (fun _ _ => rfl)) (fun _ _ => rfl)) (nomark _)) (pss_one (ps_ret (pe_op op_add (pv 2) (pe_int)))) (pss_nil))
      (pss_one (ps_ret (pe_ix (ix_tupK (K := K) rfl) (pv 1) (pe_int) (fun _ _ => rfl))))) (pss_nil))
      (pss_cons (ps_if (pt_cmpR op_eq (pv 5) (pe_str) (nomark _)) (pss_cons (ps_if (PW.pt (pw_or (pt_cmpR op_lt (pe_ix (ix_listK (K := K) rfl) (pv 3) (pe_ix (ix_tupK (K := K) rfl) (pv 1) (pe_int) (fun _ _ => rfl)) (fun _ _ => rfl)) (pe_int) (nomark _)) (pw_or1 (pt_cmpR op_ge (pe_ix (ix_listK (K := K) rfl) (pv 3) (pe_ix (ix_tupK (K := K) rfl) (pv 1) (pe_int) (fun _ _ => rfl)) (fun _ _ => rfl)) (pe_callB (call_lenK (K := K) rfl) (by rfl) T.b_len bt_len (pa_cons (pe_ix (ix_tupK (K := K) rfl) (pv 1) (pe_int) (fun _ _ => rfl)) pa_nil)) (nomark _))))) (pss_one (ps_ret (pe_non))) (pss_nil))
      (pss_one (ps_ret (pe_ix (ix_tupK (K := K) rfl) (pe_ix (ix_tupK (K := K) rfl) (pv 1) (pe_int) (fun _ _ => rfl)) (pe_ix (ix_listK (K := K) rfl) (pv 3) (pe_ix (ix_tupK (K := K) rfl) (pv 1) (pe_int) (fun _ _ => rfl)) (fun _ _ => rfl)) (fun _ _ => rfl))))) (pss_nil))
      (pss_cons (ps_if (pt_cmpR op_eq (pv 5) (pe_str) (nomark _)) (pss_one (ps_ret (pe_bm0 PySem.F.plainAttrs_list PySem.F.slot_list_pop PySem.F.type_list_pop mt_pop (pv 4)))) (pss_nil))
      (pss_cons (ps_if (pt_cmpR op_eq (pv 5) (pe_str) (nomark _)) (pss_one (ps_expr (pe_bm PySem.F.plainAttrs_list PySem.F.slot_list_append PySem.F.type_list_append mt_append (pv 4) (pa_cons (pe_op op_add (pv 2) (pe_int)) pa_nil)))) (pss_nil))
      (pss_one (ps_ret (pe_ix (ix_listK (K := K) rfl) (pe_lc (own := [("_law_name", 6), ("_law_address", 7)]) rfl sc_law_turn.nd (pi_tupK (K := K) rfl (pe_ix (ix_tupK (K := K) rfl) (pv 0) (pe_int) (fun _ _ => rfl))) (blkOk_by (N := N_law_turn) (sc := defScope s_law_turn) (by decide +kernel)) (fun _ _ _ _ _ => pg_tupK (K := K) (n := 2) rfl rfl (pgs_cons (pg_name (i := 6) sc_law_turn.nd rfl (by first | exact Or.inl rfl | exact Or.inr rfl)) (pgs_cons (pg_name (i := 7) sc_law_turn.nd rfl (by first | exact Or.inl rfl | exact Or.inr rfl)) pgs_nil))) (fun _ _ _ _ _ => pts_one (pt_cmpR op_eq (pv 6) (pe_ix (ix_tupK (K := K) rfl) (pv 1) (pe_int) (fun _ _ => rfl)) (nomark _))) (fun _ _ _ _ _ => pv 7)) (pe_int) (fun _ _ => rfl)))))))))), ?_⟩
  cases i with
  | jump j =>
    obtain ⟨a, v1, v2, rfl, hs, t1, t2⟩ := TD.two (d1 := .str "jump") (d2 := dN j) tv
    cases t1.str_
    cases t2.int_
    refine ⟨_, rfl, a, _, _, _, rfl, rfl, hs, rfl, ?_⟩
    refine ⟨_, rfl, rfl, _, rfl, ?_⟩
    rw [decide_eq_true rfl]
    refine iteT ?_
    refine ⟨_, rfl, a, _, _, _, rfl, rfl, hs, rfl, ?_⟩
    exact k3 _ _ rfl H (Ext.refl H) M
  | less r s j =>
    obtain ⟨a, v1, v2, v3, v4, rfl, hs, t1, t2, t3, t4⟩ := TD.four (d1 := .str "less") (d2 := dN r) (d3 := dN s) (d4 := dN j) tv
    cases t1.str_
    cases t2.int_
    cases t3.int_
    cases t4.int_
    refine ⟨_, rfl, a, _, _, _, rfl, rfl, hs, rfl, ?_⟩
    refine ⟨_, rfl, rfl, _, rfl, ?_⟩
    rw [decide_eq_false (by decide)]
    refine iteF ?_
    refine ⟨_, rfl, rfl, _, rfl, ?_⟩
    rw [decide_eq_true rfl]
    refine iteT ?_
    refine ⟨_, rfl, _, rfl, a, _, _, _, rfl, rfl, hs, rfl, rg, _, _, _, rfl, rfl, SqL.of M.rg, reg_ix (m := m) M.r8 io.1, _, rfl, _, rfl, a, _, _, _, rfl, rfl, hs, rfl, rg, _, _, _, rfl, rfl, SqL.of M.rg, reg_ix (m := m) M.r8 io.2.1, _, _, rfl, rfl, _, rfl, ?_⟩
    by_cases c1 : m.reg r < m.reg s
    · rw [decide_eq_true c1]
      refine iteT ⟨_, rfl, _, _, rfl, rfl, ?_⟩
      exact k3 ((pc + 1 : Nat) : Int) m (by simp only [stepOf]; rw [if_pos c1]) H (Ext.refl H) M
    · rw [decide_eq_false c1]
      refine iteF ⟨_, rfl, a, _, _, _, rfl, rfl, hs, rfl, ?_⟩
      exact k3 ((j : Nat) : Int) m (by simp only [stepOf]; rw [if_neg c1]) H (Ext.refl H) M
  | table r js =>
    obtain ⟨a, v1, v2, v3, rfl, hs, t1, t2, t3⟩ := TD.three (d1 := .str "table") (d2 := dN r) (d3 := .tuple ((js.map fun j : Nat => (j : Int)).map .int)) tv
    cases t1.str_
    cases t2.int_
    obtain ⟨ja, rfl, hja⟩ := t3.ints
    refine ⟨_, rfl, a, _, _, _, rfl, rfl, hs, rfl, ?_⟩
    refine ⟨_, rfl, rfl, _, rfl, ?_⟩
    rw [decide_eq_false (by decide)]
    refine iteF ?_
    refine ⟨_, rfl, rfl, _, rfl, ?_⟩
    rw [decide_eq_false (by decide)]
    refine iteF ?_
    refine ⟨_, rfl, rfl, _, rfl, ?_⟩
    rw [decide_eq_true rfl]
    refine iteT ?_
    refine ⟨_, rfl, _, rfl, a, _, _, _, rfl, rfl, hs, rfl, rg, _, _, _, rfl, rfl, SqL.of M.rg, reg_ix (m := m) M.r8 io.1, _, _, rfl, rfl, _, rfl, ?_⟩
    by_cases c1 : 0 ≤ m.reg r
    rotate_left
    · rw [decide_eq_true (show m.reg r < 0 by omega)]
      refine iteT (iteT ?_)
      exact k1 (by simp only [stepOf]; rw [if_neg (fun q => c1 q.1)]) H (Ext.refl H) M
    rw [decide_eq_false (show ¬ m.reg r < 0 by omega)]
    refine iteF ⟨_, rfl, _, rfl, a, _, _, _, rfl, rfl, hs, rfl, rg, _, _, _, rfl, rfl, SqL.of M.rg, reg_ix (m := m) M.r8 io.1, _, rfl, a, _, _, _, rfl, rfl, hs, rfl, ja, _, rfl, .inr hja, _, _, rfl, rfl, _, rfl, ?_⟩
    rw [List.length_map, List.length_map]
    by_cases c2 : m.reg r < ((js.length : Nat) : Int)
    rotate_left
    · rw [decide_eq_true (show ((js.length : Nat) : Int) ≤ m.reg r by omega)]
      refine iteT ?_
      exact k1 (by simp only [stepOf]; rw [if_neg (fun q => c2 q.2)]) H (Ext.refl H) M
    rw [decide_eq_false (show ¬ ((js.length : Nat) : Int) ≤ m.reg r by omega)]
    refine iteF ?_
    have hx : (((js.map fun j : Nat => (j : Int)).map V.int))[(m.reg r).toNat]? = some (.int ((js.getD (m.reg r).toNat 0 : Nat) : Int)) := by
      rw [List.getElem?_map, List.getElem?_map, List.getD_eq_getElem?_getD, List.getElem?_eq_getElem (by omega)]
      rfl
    refine ⟨_, rfl, a, _, _, _, rfl, rfl, hs, rfl, _, rfl, _, rfl, a, _, _, _, rfl, rfl, hs, rfl, rg, _, _, _, rfl, rfl, SqL.of M.rg, reg_ix (m := m) M.r8 io.1, ja, _, _, _, rfl, rfl, hja, ix_int c1 hx, ?_⟩
    exact k3 _ m (by simp only [stepOf]; rw [if_pos ⟨c1, c2⟩]) H (Ext.refl H) M
  | ret =>
    obtain ⟨a, v1, rfl, hs, t1⟩ := TD.one (d1 := .str "return") tv
    cases t1.str_
    refine ⟨_, rfl, a, _, _, _, rfl, rfl, hs, rfl, ?_⟩
    refine ⟨_, rfl, rfl, _, rfl, ?_⟩
    rw [decide_eq_false (by decide)]
    refine iteF ?_
    refine ⟨_, rfl, rfl, _, rfl, ?_⟩
    rw [decide_eq_false (by decide)]
    refine iteF ?_
    refine ⟨_, rfl, rfl, _, rfl, ?_⟩
    rw [decide_eq_false (by decide)]
    refine iteF ?_
    refine ⟨_, rfl, rfl, _, rfl, ?_⟩
    rw [decide_eq_true rfl]
    refine iteT ?_
    have hne' := hne rfl
    have hl0 : 0 < m.stack.length := List.length_pos_iff.mpr hne'
    obtain ⟨y, hsk⟩ : ∃ y, m.stack.getLast? = some y := ⟨_, List.getLast?_eq_getLast hne'⟩
    refine ⟨_, rfl, .inl ⟨rfl, _, SqL.of M.sk⟩, sk, _, .int y, rfl, rfl, M.sk, ?_, ?_⟩
    · rw [vI_len]
      refine vI_at ?_
      rw [← List.getLast?_eq_getElem?]
      exact hsk
    have e : (vI m.stack).dropLast = vI m.stack.dropLast := by simp [vI, List.map_dropLast]
    rw [e]
    exact k3 y _ (by simp only [stepOf, hsk]) _ (Ext.put (by simp)) (M.stack _)
  | call f =>
    obtain ⟨a, v1, v2, rfl, hs, t1, t2⟩ := TD.two (d1 := .str "call") (d2 := .str f) tv
    cases t1.str_
    cases t2.str_
    refine ⟨_, rfl, a, _, _, _, rfl, rfl, hs, rfl, ?_⟩
    refine ⟨_, rfl, rfl, _, rfl, ?_⟩
    rw [decide_eq_false (by decide)]
    refine iteF ?_
    refine ⟨_, rfl, rfl, _, rfl, ?_⟩
    rw [decide_eq_false (by decide)]
    refine iteF ?_
    refine ⟨_, rfl, rfl, _, rfl, ?_⟩
    rw [decide_eq_false (by decide)]
    refine iteF ?_
    refine ⟨_, rfl, rfl, _, rfl, ?_⟩
    rw [decide_eq_false (by decide)]
    refine iteF ?_
    refine ⟨_, rfl, rfl, _, rfl, ?_⟩
    rw [decide_eq_true rfl]
    refine iteT ?_
    refine ⟨_, rfl, .inl ⟨rfl, _, SqL.of M.sk⟩, _, rfl, _, _, rfl, rfl, sk, _, _, rfl, rfl, M.sk, by rw [vI_len]; exact Nat.lt_of_le_of_lt hz1 (by decide), ?_⟩
    have e : vI m.stack ++ [V.int (((pc : Nat) : Int) + 1)] = vI (m.stack ++ [((pc + 1 : Nat) : Int)]) := by rw [vI_app]; rfl
    have M2 := M.stack (m.stack ++ [((pc + 1 : Nat) : Int)])
    rw [← e] at M2
    have e2 : Ext [rg, hp, sk] H (upd H sk (.lst (vI m.stack ++ [V.int (((pc : Nat) : Int) + 1)]))) := Ext.put (by simp)
    have hs2 := (e2.keepT (fun b hb => M.ntup b hb)).sq hs
    have kt2 : KeepT H (upd H sk (.lst (vI m.stack ++ [V.int (((pc : Nat) : Int) + 1)]))) := e2.keepT (fun b hb => M.ntup b hb)
    generalize upd H sk (.lst (vI m.stack ++ [V.int (((pc : Nat) : Int) + 1)])) = H2 at *
    have hgaX := (kt2).sq hga
    have hsaX := (kt2).sq hsa
    refine ⟨_, rfl, ga, _, _, _, rfl, rfl, hgaX, rfl, sa, rfl, ⟨_, hsaX⟩, fun D hD => ?_⟩
    refine lcS (pick := pickS f) (tss.keep (kt2)) hsaX hD (by have := go.n; omega) ?_ ?_
    · intro i x st H5 Q1 Q2 hx hst e5 kq1 kq2
      obtain ⟨st', hst', tst⟩ := TD.atV (tss.keep (kt2)) hx
      have : st = st' := Option.some.inj (hst.symm.trans hst')
      subst this
      obtain ⟨b, u1, u2, rfl, hb, s1, s2⟩ := (tst.keep e5.keep0).two
      cases s1.str_
      cases s2.int_
      refine ⟨b, _, rfl, hb, rfl, _, _, rfl, _, _, rfl, rfl, ?_⟩
      refine ⟨rfl, _, rfl, _, rfl, a, _, _, _, rfl, rfl, (e5.keep0).sq hs2, rfl, rfl, _, rfl, ?_⟩
      by_cases hn : st.1 = f
      · rw [decide_eq_true (congrArg V.str hn)]
        refine iteT ?_
        exact ⟨_, rfl, kq1 _ (by unfold pickS; rw [if_pos hn]) H5 (Ext.refl H5)⟩
      · rw [decide_eq_false (fun q => hn (V.str.inj q))]
        refine iteF ?_
        exact kq2 (by unfold pickS; rw [if_neg hn]) H5 (Ext.refl H5)
    intro H6 e6 hl6
    refine ⟨D, _, _, .int ((addrOf g f : Nat) : Int), rfl, rfl, SqL.of hl6, ix_nat (i := 0) (pick_addr io), ?_⟩
    exact k3 ((addrOf g f : Nat) : Int) _ rfl H6 (e2.trans (e6.mono (fun b hb => nomatch hb))) ((M2.ext e6).of rfl rfl rfl)
  | go f =>
    obtain ⟨a, v1, v2, rfl, hs, t1, t2⟩ := TD.two (d1 := .str "go") (d2 := .str f) tv
    cases t1.str_
    cases t2.str_
    refine ⟨_, rfl, a, _, _, _, rfl, rfl, hs, rfl, ?_⟩
    refine ⟨_, rfl, rfl, _, rfl, ?_⟩
    rw [decide_eq_false (by decide)]
    refine iteF ?_
    refine ⟨_, rfl, rfl, _, rfl, ?_⟩
    rw [decide_eq_false (by decide)]
    refine iteF ?_
    refine ⟨_, rfl, rfl, _, rfl, ?_⟩
    rw [decide_eq_false (by decide)]
    refine iteF ?_
    refine ⟨_, rfl, rfl, _, rfl, ?_⟩
    rw [decide_eq_false (by decide)]
    refine iteF ?_
    refine ⟨_, rfl, rfl, _, rfl, ?_⟩
    rw [decide_eq_false (by decide)]
    refine iteF ?_
    have hgaX := (KeepT.refl H).sq hga
    have hsaX := (KeepT.refl H).sq hsa
    refine ⟨_, rfl, ga, _, _, _, rfl, rfl, hgaX, rfl, sa, rfl, ⟨_, hsaX⟩, fun D hD => ?_⟩
    refine lcS (pick := pickS f) (tss.keep (KeepT.refl H)) hsaX hD (by have := go.n; omega) ?_ ?_
    · intro i x st H5 Q1 Q2 hx hst e5 kq1 kq2
      obtain ⟨st', hst', tst⟩ := TD.atV (tss.keep (KeepT.refl H)) hx
      have : st = st' := Option.some.inj (hst.symm.trans hst')
      subst this
      obtain ⟨b, u1, u2, rfl, hb, s1, s2⟩ := (tst.keep e5.keep0).two
      cases s1.str_
      cases s2.int_
      refine ⟨b, _, rfl, hb, rfl, _, _, rfl, _, _, rfl, rfl, ?_⟩
      refine ⟨rfl, _, rfl, _, rfl, a, _, _, _, rfl, rfl, (e5.keep0).sq hs, rfl, rfl, _, rfl, ?_⟩
      by_cases hn : st.1 = f
      · rw [decide_eq_true (congrArg V.str hn)]
        refine iteT ?_
        exact ⟨_, rfl, kq1 _ (by unfold pickS; rw [if_pos hn]) H5 (Ext.refl H5)⟩
      · rw [decide_eq_false (fun q => hn (V.str.inj q))]
        refine iteF ?_
        exact kq2 (by unfold pickS; rw [if_neg hn]) H5 (Ext.refl H5)
    intro H6 e6 hl6
    refine ⟨D, _, _, .int ((addrOf g f : Nat) : Int), rfl, rfl, SqL.of hl6, ix_nat (i := 0) (pick_addr io), ?_⟩
    exact k3 ((addrOf g f : Nat) : Int) _ rfl H6 (e6.mono (fun b hb => nomatch hb)) ((M.ext e6).of rfl rfl rfl)
  | _ => cases hi
end
end K47

set_option Elab.async false
set_option linter.all false
set_option maxRecDepth 100000
set_option maxHeartbeats 4000000
namespace K47
open PySem PySem.Spec PyProof.Rows L2
open C8 hiding CX0 E0
def newW : Ins → Nat
  | .new _ n => n
  | _ => 0
theorem work_words {m m' : MS} {i : Ins} (h : workOf m i = some m') : m'.words = m.words + newW i ∧ (m.stack.length ≤ m.top → m'.stack.length ≤ m'.top ∧ m'.top = max m.top m'.stack.length) := by
  cases i <;> simp only [workOf, MS.setr, newW] at h ⊢
  case put => split at h <;> cases h; simp; omega
  case take => split at h <;> cases h; simp; omega
  case drop => split at h <;> cases h; simp; omega
  case save => split at h <;> cases h; simp; omega
  case load => split at h <;> cases h; simp; omega
  all_goals (cases h; simp)
  all_goals omega
theorem step_words {g : Img} {pc : Nat} {m m' : MS} {i : Ins} {pc' : Int} (h : stepOf g pc m i = .next pc' m') : m'.words = m.words + newW i ∧ (m.stack.length ≤ m.top → m'.stack.length ≤ m'.top ∧ m'.top = max m.top m'.stack.length) := by
  have hw : ∀ (o : Option MS), o = workOf m i → (match o with | none => Out.fault | some m' => .next ((pc + 1 : Nat) : Int) m') = .next pc' m' → m'.words = m.words + newW i ∧ (m.stack.length ≤ m.top → m'.stack.length ≤ m'.top ∧ m'.top = max m.top m'.stack.length) := fun o ho q => by
    cases o with
    | none => cases q
    | some m2 =>
      cases q
      exact work_words ho.symm
  cases i with
  | less r s j => cases h; exact ⟨rfl, fun q => ⟨q, by omega⟩⟩
  | table r js =>
    simp only [stepOf] at h
    split at h <;> cases h
    exact ⟨rfl, fun q => ⟨q, by omega⟩⟩
  | jump j => cases h; exact ⟨rfl, fun q => ⟨q, by omega⟩⟩
  | call f => cases h; exact ⟨rfl, fun q => by simp <;> omega⟩
  | go f => cases h; exact ⟨rfl, fun q => ⟨q, by omega⟩⟩
  | ret =>
    simp only [stepOf] at h
    split at h <;> cases h
    exact ⟨rfl, fun q => by simp; omega⟩
  | _ => exact hw _ rfl h
theorem Ext.cut {H H1 H2 : Hp} {a b c : Addr} (e : Ext [a, b] H H1) (e2 : Ext [a, b, c] H1 H2) (h : H c = none) : Ext [a, b] H H2 := fun x o hx n => by
  refine e2 x o (e x o hx n) ?_
  simp only [List.mem_cons, List.not_mem_nil, or_false, not_or] at n ⊢
  refine ⟨n.1, n.2, fun q => ?_⟩
  rw [q, h] at hx
  cases hx
theorem word_ret (i : Ins) : decide (V.str (insWord i) = V.str (PySem.Str.ofString "return")) = decide (i = .ret) := by cases i <;> first | rfl | (simp only [insWord]; rw [decide_eq_false (by decide), decide_eq_false (by intro q; cases q)])
def isNew : Ins → Bool
  | .new .. => true
  | _ => false
theorem word_new (i : Ins) : decide (V.str (insWord i) = V.str (PySem.Str.ofString "new")) = isNew i := by cases i <;> (simp only [insWord, isNew]; first | rfl | (rw [decide_eq_false (by decide)]))
theorem isNew_no {i : Ins} (h : isNew i = false) : newW i = 0 := by cases i <;> first | rfl | cases h
theorem isNew_yes {i : Ins} (h : isNew i = true) : ∃ r x, i = .new r x := by cases i <;> first | exact ⟨_, _, rfl⟩ | cases h
def r_law_run (K : PySem.W.Frag) : List V → Hp → VK → Prop := fun vs H Q => ∃ (g : Img) (gv : V) (f : Str) (rg hp : Addr) (us h : List Int) (limit : Nat), vs = [gv, .str f, .ref rg, .ref hp, .int ((limit : Nat) : Int)] ∧ TD K H gv (eImg g) ∧ ImgOk g ∧ f ∈ g.names ∧ H rg = some (.lst (vI us)) ∧ us.length = 8 ∧ H hp = some (.lst (vI h)) ∧ rg ≠ hp ∧ Fine g limit ((addrOf g f : Nat) : Int) ⟨us, h, [], 0, 0⟩ ∧ limit ≤ 1000 ∧
  ∀ H' l tr R, R = runN g limit ((addrOf g f : Nat) : Int) ⟨us, h, [], 0, 0⟩ → Ext [rg, hp] H H' → H' l = some (.lst [.str (endW R.e), .ref rg, .ref hp, .ref tr, .int ((R.m.words : Nat) : Int), .int ((R.m.top : Nat) : Int), .int R.at_]) → H' rg = some (.lst (vI R.m.regs)) → H' hp = some (.lst (vI R.m.heap)) → H' tr = some (.lst (vN R.t)) → R.m.regs.length = 8 → Q (.ref l) H'
section
variable {P : Program} {w : World} {K : PySem.W.Frag} {mg : Str → Option Value} {base : Heap}
abbrev N_law_run : List Str := ["_law_image", "_law_name", "_law_regs", "_law_heap", "_law_limit", "_law_at", "_law_other", "_law_address", "_law_code", "_law_stack", "_law_trace", "_law_words", "_law_top", "_law_step", "_law_row_here", "_law_then"]
theorem sc_law_run : FnScope ["_law_image", "_law_name", "_law_regs", "_law_heap", "_law_limit", "_law_at", "_law_other", "_law_address", "_law_code", "_law_stack", "_law_trace", "_law_words", "_law_top", "_law_step", "_law_row_here", "_law_then"] ["_law_image", "_law_name", "_law_regs", "_law_heap", "_law_limit"] (defScope s_law_run) := ⟨rfl, rfl, rfl, by decide +kernel, rfl, by decide +kernel, by decide +kernel⟩
theorem c_law_run (T : Txt w K mg) : Cal P w K mg base 3 "_law_run" (spN 5 (r_law_run K)) [] := by
  obtain ⟨fd, F⟩ := T.f_law_run
  refine cal_mk F T.m_law_run (fun _ _ _ _ _ _ us hl => match us, hl with | [_, _, _, _, _], _ => rfl) sc_law_run (fun _ _ _ _ h => h.1) (fun cdv A outer s H vs Q E hr h => ?_)
  have hu := hu_of hr
  have hul := hul_of hr
  obtain ⟨_, g, gv, f, rg, hp, us, h, limit, rfl, tg, go, hf, hrg, h8, hhp, nrh, hF, hl, k⟩ := h
  obtain ⟨ga, gv1, gv2, rfl, hga, tg1, tg2⟩ := id tg.two
  obtain ⟨sa, sxs, rfl, hsa, tss⟩ := tg1.open_
  obtain ⟨cv, cxs, rfl, hcv, tcs⟩ := tg2.open_
  have hclen : cxs.length = g.code.length := by rw [tcs.length, List.length_map]
  refine ⟨_, (pss_cons (ps_set (i := 5) sc_law_run.nd rfl (by first | exact Or.inl rfl | exact Or.inr rfl) (pe_ix (ix_listK (K := K) rfl) (pe_lc (own := [("_law_other", 6), ("_law_address", 7)]) rfl sc_law_run.nd (pi_tupK (K := K) rfl (pe_ix (ix_tupK (K := K) rfl) (pv 0) (pe_int) (fun _ _ => rfl))) (blkOk_by (N := N_law_run) (sc := defScope s_law_run) (by decide +kernel)) (fun _ _ _ _ _ => pg_tupK (K := K) (n := 2) rfl rfl (pgs_cons (pg_name (i := 6) sc_law_run.nd rfl (by first | exact Or.inl rfl | exact Or.inr rfl)) (pgs_cons (pg_name (i := 7) sc_law_run.nd rfl (by first | exact Or.inl rfl | exact Or.inr rfl)) pgs_nil))) (fun _ _ _ _ _ => pts_one (pt_cmpR op_eq (pv 6) (pv 1) (nomark _))) (fun _ _ _ _ _ => pv 7)) (pe_int) (fun _ _ => rfl)))
      (pss_cons (ps_set (i := 8) sc_law_run.nd rfl (by first | exact Or.inl rfl | exact Or.inr rfl) (pe_ix (ix_tupK (K := K) rfl) (pv 0) (pe_int) (fun _ _ => rfl)))
      (pss_cons (ps_set (i := 9) sc_law_run.nd rfl (by first | exact Or.inl rfl | exact Or.inr rfl) (pe_lst (pa_nil)))
      (pss_cons (ps_set (i := 10) sc_law_run.nd rfl (by first | exact Or.inl rfl | exact Or.inr rfl) (pe_lst (pa_nil)))
      (pss_cons (ps_set (i := 11) sc_law_run.nd rfl (by first | exact Or.inl rfl | exact Or.inr rfl) (pe_int))
      (pss_cons (ps_set (i := 12) sc_law_run.nd rfl (by first | exact Or.inl rfl | exact Or.inr rfl) (pe_int))
      (pss_cons (ps_for PassesOwn.never rfl (pi_range1 (by rfl) T.b_range (pa_cons (pe_op op_add (pv 4) (pe_int)) pa_nil)) (pg_name (i := 13) sc_law_run.nd rfl (by first | exact Or.inl rfl | exact Or.inr rfl))
        (pss_cons (ps_if (pt_cmpR op_eq (pv 13) (pv 4) (nomark _)) (pss_one (ps_ret (pe_lst (pa_cons (pe_str) (pa_cons (pv 2) (pa_cons (pv 3) (pa_cons (pv 10) (pa_cons (pv 11) (pa_cons (pv 12) (pa_cons (pv 5) pa_nil)))))))))) (pss_nil))
      (pss_cons (ps_if (PW.pt (pw_or (pt_cmpR op_lt (pv 5) (pe_int) (nomark _)) (pw_or1 (pt_cmpR op_ge (pv 5) (pe_callB (call_lenK (K := K) rfl) (by rfl) T.b_len bt_len (pa_cons (pv 8) pa_nil)) (nomark _))))) (pss_one (ps_ret (pe_lst (pa_cons (pe_str) (pa_cons (pv 2) (pa_cons (pv 3) (pa_cons (pv 10) (pa_cons (pv 11) (pa_cons (pv 12) (pa_cons (pv 5) pa_nil)))))))))) (pss_nil))
      (pss_cons (ps_set (i := 14) sc_law_run.nd rfl (by first | exact Or.inl rfl | exact Or.inr rfl) (pe_ix (ix_tupK (K := K) rfl) (pv 8) (pv 5) (fun _ _ => rfl)))
      (pss_cons (ps_set (i := 15) sc_law_run.nd rfl (by first | exact Or.inl rfl | exact Or.inr rfl) (pe_op op_add (pv 5) (pe_int)))
      (pss_cons (ps_if (PW.pt (pw_and (pt_cmpR op_eq (pe_ix (ix_tupK (K := K) rfl) (pv 14) (pe_int) (fun _ _ => rfl)) (pe_str) (nomark _)) (pw_and1 (pt_cmpR (op_eqNilK (K := K) rfl hul) (pv 9) (pe_lst (pa_nil)) (nomark _))))) (pss_cons (ps_expr (pe_bm PySem.F.plainAttrs_list PySem.F.slot_list_append PySem.F.type_list_append mt_append (pv 10) (pa_cons (pv 5) pa_nil)))
      (pss_one (ps_ret (pe_lst (pa_cons (pe_str) (pa_cons (pv 2) (pa_cons (pv 3) (pa_cons (pv 10) (pa_cons (pv 11) (pa_cons (pv 12) (pa_cons (pv 5) pa_nil))))))))))) (pss_nil))
      (pss_cons (ps_if (pt_cmpR (op_inK (K := K) rfl) (pe_ix (ix_tupK (K := K) rfl) (pv 14) (pe_int) (fun _ _ => rfl)) (pe_tup (pa_cons (pe_str) (pa_cons (pe_str) (pa_cons (pe_str) (pa_cons (pe_str) (pa_cons (pe_str) (pa_cons (pe_str) pa_nil))))))) (by rfl)) (pss_one (ps_set (i := 15) sc_law_run.nd rfl (by first | exact Or.inl rfl | exact Or.inr rfl) (pe_c (c_law_turn T) hr (by decide) (by rfl) (pa_cons (pv 0) (pa_cons (pv 14) (pa_cons (pv 5) (pa_cons (pv 2) (pa_cons (pv 9) pa_nil)))))))) (pss_one (ps_if (pt_not (pt_val (pe_c (c_law_straight T) hr (by decide) (by rfl) (pa_cons (pv 14) (pa_cons (pv 2) (pa_cons (pv 3) (pa_cons (pv 9) pa_nil))))))) (pss_one (ps_set (i := 15) sc_law_run.nd rfl (by first | exact Or.inl rfl | exact Or.inr rfl) (pe_non))) (pss_nil))))
      (pss_cons (ps_if (pt_cmpR op_isN (pv 15) (pe_non) (nomark _)) (pss_one (ps_ret (pe_lst (pa_cons (pe_str) (pa_cons (pv 2) (pa_cons (pv 3) (pa_cons (pv 10) (pa_cons (pv 11) (pa_cons (pv 12) (pa_cons (pv 5) pa_nil)))))))))) (pss_nil))
      (pss_cons (ps_if (pt_cmpR op_eq (pe_ix (ix_tupK (K := K) rfl) (pv 14) (pe_int) (fun _ _ => rfl)) (pe_str) (nomark _)) (pss_one (ps_set (i := 11) sc_law_run.nd rfl (by first | exact Or.inl rfl | exact Or.inr rfl) (pe_op op_add (pv 11) (pe_ix (ix_tupK (K := K) rfl) (pv 14) (pe_int) (fun _ _ => rfl))))) (pss_nil))
      (pss_cons (ps_expr (pe_bm PySem.F.plainAttrs_list PySem.F.slot_list_append PySem.F.type_list_append mt_append (pv 10) (pa_cons (pv 5) pa_nil)))
      (pss_cons (ps_set (i := 12) sc_law_run.nd rfl (by first | exact Or.inl rfl | exact Or.inr rfl) (pe_callB (call_max2 rfl) (by rfl) T.b_max bt_max (pa_cons (pv 12) (pa_cons (pe_callB (call_lenK (K := K) rfl) (by rfl) T.b_len bt_len (pa_cons (pv 9) pa_nil)) pa_nil))))
      (pss_one (ps_set (i := 5) sc_law_run.nd rfl (by first | exact Or.inl rfl | exact Or.inr rfl) (pv 15))))))))))))))
      (pss_one (ps_ret (pe_lst (pa_cons (pe_str) (pa_cons (pv 2) (pa_cons (pv 3) (pa_cons (pv 10) (pa_cons (pv 11) (pa_cons (pv 12) (pa_cons (pv 5) pa_nil))))))))))))))))), ?_⟩
  generalize hR : runN g limit ((addrOf g f : Nat) : Int) ⟨us, h, [], 0, 0⟩ = R at *
  refine ⟨_, rfl, ga, _, _, _, rfl, rfl, hga, rfl, sa, rfl, ⟨_, hsa⟩, fun D hD => ?_⟩
  refine lcS (pick := pickS f) tss hsa hD (by have := go.n; omega) ?_ ?_
  · intro i x st H5 Q1 Q2 hx hst e5 kq1 kq2
    obtain ⟨st', hst', tst⟩ := TD.atV tss hx
    have : st = st' := Option.some.inj (hst.symm.trans hst')
    subst this
    obtain ⟨b, u1, u2, rfl, hb, s1, s2⟩ := (tst.keep e5.keep0).two
    cases s1.str_
    cases s2.int_
    refine ⟨b, _, rfl, hb, rfl, _, _, rfl, _, _, rfl, rfl, ?_⟩
    refine ⟨rfl, _, rfl, _, rfl, rfl, _, rfl, ?_⟩
    by_cases hn : st.1 = f
    · rw [decide_eq_true (congrArg V.str hn)]
      refine iteT ?_
      exact ⟨_, rfl, kq1 _ (by unfold pickS; rw [if_pos hn]) H5 (Ext.refl H5)⟩
    · rw [decide_eq_false (fun q => hn (V.str.inj q))]
      refine iteF ?_
      exact kq2 (by unfold pickS; rw [if_neg hn]) H5 (Ext.refl H5)
  intro H1 e1 hl1
  refine ⟨D, _, _, .int ((addrOf g f : Nat) : Int), rfl, rfl, SqL.of hl1, ix_nat (i := 0) (pick_addr hf), ?_⟩
  refine ⟨_, rfl, ga, _, _, _, rfl, rfl, e1.sqt hga, rfl, ?_⟩
  refine ⟨Nat.zero_le _, fun sk hsk => ?_⟩
  have e2 : Ext [] H1 (upd H1 sk (.lst [])) := Ext.new hsk
  have gsk : (upd H1 sk (.lst [])) sk = some (.lst []) := upd_same
  have fsk : H sk = none := e1.free hsk (fun m => nomatch m)
  have nrs : rg ≠ sk := ne_of_none hrg fsk
  have nhs : hp ≠ sk := ne_of_none hhp fsk
  generalize upd H1 sk (.lst []) = H2 at *
  refine ⟨Nat.zero_le _, fun tr htr => ?_⟩
  have e3 : Ext [] H2 (upd H2 tr (.lst [])) := Ext.new htr
  have gtr : (upd H2 tr (.lst [])) tr = some (.lst []) := upd_same
  have ftr : H tr = none := (e1.trans e2).free htr (fun m => nomatch m)
  have nst : sk ≠ tr := ne_of_none gsk htr
  have nrt : rg ≠ tr := ne_of_none hrg ftr
  have nht : hp ≠ tr := ne_of_none hhp ftr
  have gsk3 := e3 _ _ gsk (fun m => nomatch m)
  have e03 := (e1.trans e2).trans e3
  generalize upd H2 tr (.lst []) = H3 at *
  have M3 : LAt H3 rg hp sk ⟨us, h, [], 0, 0⟩ := ⟨e03 _ _ hrg (fun m => nomatch m), h8, e03 _ _ hhp (fun m => nomatch m), gsk3, nrh, nrs, nhs⟩
  refine ⟨_, rfl, _, _, rfl, rfl, _, rfl, by omega, by omega, ?_⟩
  have nt : ∀ b ∈ [rg, hp], ∀ xs, ¬ Rd H b (.tup xs) := by
    intro b hb
    simp only [List.mem_cons, List.not_mem_nil, or_false] at hb
    rcases hb with rfl | rfl
    · exact not_tup_lst hrg
    · exact not_tup_lst hhp
  refine for_range (fun i σ H' => Ext [rg, hp] H H' ∧ ∃ (y6 y7 y13 y14 y15 : Option V) (pc : Int) (mc : MS) (ts : List Nat), σ = [some (.ref ga), some (.str f), some (.ref rg), some (.ref hp), some (.int ((limit : Nat) : Int)), some (.int pc), y6, y7, some (.ref cv), some (.ref sk), some (.ref tr), some (.int ((mc.words : Nat) : Int)), some (.int ((mc.top : Nat) : Int)), y13, y14, y15] ∧
      i ≤ limit ∧ LAt H' rg hp sk mc ∧ H' tr = some (.lst (vN ts)) ∧ ts.length = i ∧ mc.stack.length ≤ mc.top ∧ Fine g (limit - i) pc mc ∧ R.e = (runN g (limit - i) pc mc).e ∧ R.m = (runN g (limit - i) pc mc).m ∧ R.at_ = (runN g (limit - i) pc mc).at_ ∧ R.t = ts ++ (runN g (limit - i) pc mc).t)
    ⟨e03.mono (fun a m => nomatch m), _, _, _, _, _, _, ⟨us, h, [], 0, 0⟩, [], rfl, Nat.zero_le _, M3, gtr, rfl, Nat.le_refl _, hF, by rw [Nat.sub_zero, hR], by rw [Nat.sub_zero, hR], by rw [Nat.sub_zero, hR], by rw [Nat.sub_zero, hR]; rfl⟩ ?_ ?_
  · rintro i σ H4 hi ⟨e4, y6, y7, y13, y14, y15, pc, mc, ts, rfl, hil, M4, g4, hts, htop, hF4, r1, r2, r3, r4⟩
    rw [Int.zero_add]
    have kt4 : KeepT H H4 := e4.keepT nt
    refine ⟨_, rfl, _, rfl, rfl, _, rfl, ?_⟩
    have fin : ∀ (H5 : Hp) (ee : End) (l : Addr), Ext [rg, hp] H H5 → H5 rg = some (.lst (vI R.m.regs)) → H5 hp = some (.lst (vI R.m.heap)) → H5 tr = some (.lst (vN R.t)) → R.m.regs.length = 8 → R.e = ee → ∀ (ew : Str), ew = endW ee → R.at_ = pc → H5 l = none → Q (.ref l) (upd H5 l (.lst [.str ew, .ref rg, .ref hp, .ref tr, .int ((R.m.words : Nat) : Int), .int ((R.m.top : Nat) : Int), .int pc])) := by
      intro H5 ee l e5 a1 a2 a3 a4 a5 ew a7 a6 hl5
      have eL : Ext [] H5 (upd H5 l (.lst [.str ew, .ref rg, .ref hp, .ref tr, .int ((R.m.words : Nat) : Int), .int ((R.m.top : Nat) : Int), .int pc])) := Ext.new hl5
      refine k _ l tr R rfl (e5.trans (eL.mono (fun a m => nomatch m))) ?_ (eL _ _ a1 (fun m => nomatch m)) (eL _ _ a2 (fun m => nomatch m)) (eL _ _ a3 (fun m => nomatch m)) a4
      rw [upd_same, a7, ← a5, a6]
    by_cases hil2 : i = limit
    · subst hil2
      rw [decide_eq_true rfl]
      refine iteT ?_
      rw [Nat.sub_self] at r1 r2 r3 r4
      have r4' : R.t = ts := by rw [r4]; exact List.append_nil ts
      refine ⟨_, rfl, _, rfl, _, rfl, _, rfl, _, rfl, _, rfl, by show 7 ≤ sizeLine; decide, fun l hl5 => ?_⟩
      have := fin H4 .spent l e4 (by rw [r2]; exact M4.rg) (by rw [r2]; exact M4.hp) (by rw [r4']; exact g4) (by rw [r2]; exact M4.r8) r1 "spent" rfl r3 hl5
      rw [r2] at this
      exact this
    rw [dneq (show ((i : Nat) : Int) ≠ ((limit : Nat) : Int) by omega)]
    refine iteF ?_
    obtain ⟨j, hj⟩ : ∃ j, limit - i = j + 1 := ⟨limit - i - 1, by omega⟩
    rw [hj] at r1 r2 r3 r4 hF4
    rw [run_step] at r1 r2 r3 r4
    have hF5 : mc.size ≤ 4000000 ∧ ∀ pc' m', step g pc mc = .next pc' m' → Fine g j pc' m' := hF4
    have faulty : step g pc mc = .fault → ∀ H5, Ext [rg, hp] H H5 → LAt H5 rg hp sk mc → H5 tr = some (.lst (vN ts)) → ∀ l, H5 l = none → Q (.ref l) (upd H5 l (.lst [.str "fault", .ref rg, .ref hp, .ref tr, .int ((mc.words : Nat) : Int), .int ((mc.top : Nat) : Int), .int pc])) := fun hs H5 e5 M5 g5 l hl5 => by
      rw [hs] at r1 r2 r3 r4
      have r4' : R.t = ts := by rw [r4]; exact List.append_nil ts
      have r2' : R.m = mc := r2
      have := fin H5 .fault l e5 (by rw [r2']; exact M5.rg) (by rw [r2']; exact M5.hp) (by rw [r4']; exact g5) (by rw [r2']; exact M5.r8) r1 "fault" rfl r3 hl5
      rw [r2'] at this
      exact this
    refine ⟨_, rfl, _, _, rfl, rfl, _, rfl, ?_⟩
    by_cases c1 : 0 ≤ pc
    rotate_left
    · rw [decide_eq_true (show pc < 0 by omega)]
      refine iteT (iteT ?_)
      refine ⟨_, rfl, _, rfl, _, rfl, _, rfl, _, rfl, _, rfl, by show 7 ≤ sizeLine; decide, fun l hl5 => ?_⟩
      exact faulty (by unfold step; rw [if_neg c1]) H4 e4 M4 g4 l hl5
    rw [decide_eq_false (show ¬ pc < 0 by omega)]
    refine iteF ⟨_, rfl, _, rfl, cv, _, rfl, .inr (kt4.sq hcv), _, _, rfl, rfl, _, rfl, ?_⟩
    rw [hclen]
    obtain ⟨pn, rfl⟩ := Int.eq_ofNat_of_zero_le c1
    by_cases c2 : ((pn : Nat) : Int) < ((g.code.length : Nat) : Int)
    rotate_left
    · rw [decide_eq_true (show ((g.code.length : Nat) : Int) ≤ ((pn : Nat) : Int) by omega)]
      refine iteT ?_
      refine ⟨_, rfl, _, rfl, _, rfl, _, rfl, _, rfl, _, rfl, by show 7 ≤ sizeLine; decide, fun l hl5 => ?_⟩
      exact faulty (by unfold step; rw [if_pos c1, List.getElem?_eq_none (by omega)]) H4 e4 M4 g4 l hl5
    rw [decide_eq_false (show ¬ ((g.code.length : Nat) : Int) ≤ ((pn : Nat) : Int) by omega)]
    refine iteF ?_
    obtain ⟨ins, hins⟩ : ∃ ins, g.code[pn]? = some ins := ⟨_, List.getElem?_eq_getElem (by omega)⟩
    have hst : step g ((pn : Nat) : Int) mc = stepOf g pn mc ins := by
      unfold step
      rw [if_pos c1]
      show (match g.code[pn]? with | some i => _ | none => _) = _
      rw [hins]
      rfl
    have hio := go.ins ins (List.mem_of_getElem? hins)
    obtain ⟨iv, hiv, tiv0⟩ := TD.at_ (a := tr) tcs hins
    have tiv := tiv0.keep kt4
    obtain ⟨ia, ixs, rfl, hia⟩ := wd_at tiv
    refine ⟨_, rfl, _, rfl, cv, _, _, _, rfl, rfl, kt4.sq hcv, ix_nat hiv, ?_⟩
    refine ⟨_, rfl, _, _, rfl, rfl, ?_⟩
    refine ⟨_, rfl, ia, _, _, _, rfl, rfl, hia, ix_nat (i := 0) rfl, rfl, _, rfl, ?_⟩
    rw [word_ret]
    by_cases hret : ins = .ret
    rw [decide_eq_true hret]
    refine iteT ⟨_, rfl, Nat.zero_le _, fun qq hqq => ?_⟩
    have eQ : Ext [] H4 (upd H4 qq (.lst [])) := Ext.new hqq
    have gQ : (upd H4 qq (.lst [])) qq = some (.lst []) := upd_same
    have M5 := M4.ext eQ
    have e5 := e4.trans (eQ.mono (W' := [rg, hp]) (fun a m => nomatch m))
    have g5 := eQ _ _ g4 (fun m => nomatch m)
    generalize upd H4 qq (.lst []) = H5 at *
    refine ⟨sk, qq, _, rfl, rfl, SqL.of M5.sk, SqL.of gQ, _, rfl, ?_⟩
    by_cases hs0 : mc.stack = []
    · rw [hs0]
      refine iteT ?_
      refine ⟨_, rfl, .inl ⟨rfl, _, SqL.of g5⟩, _, rfl, tr, _, _, rfl, rfl, g5, by unfold vN; rw [List.length_map]; exact szl (by omega), ?_⟩
      have eq4 : vN ts ++ [V.int ((pn : Nat) : Int)] = vN (ts ++ [pn]) := by unfold vN; rw [List.map_append]; rfl
      rw [eq4]
      have hov : step g ((pn : Nat) : Int) mc = .over := by rw [hst, hret]; simp [stepOf, hs0]
      rw [hov] at r1 r2 r3 r4
      have e6 : Ext [rg, hp] H (upd H5 tr (.lst (vN (ts ++ [pn])))) := e5.mut ftr
      refine ⟨_, rfl, _, rfl, _, rfl, _, rfl, _, rfl, _, rfl, by show 7 ≤ sizeLine; decide, fun l hl5 => ?_⟩
      have := fin (upd H5 tr (.lst (vN (ts ++ [pn])))) .ended l e6 (by rw [r2]; exact (upd_ne nrt).trans M5.rg) (by rw [r2]; exact (upd_ne nht).trans M5.hp) (by rw [r4]; exact upd_same) (by rw [r2]; exact M5.r8) r1 "ended" rfl r3 hl5
      rw [r2] at this
      exact this
    have hse : (vI mc.stack).isEmpty = false := by
      cases q : mc.stack with
      | nil => exact absurd q hs0
      | cons a b => rfl
    rw [hse]
    refine iteF ?_
    have hne : ins = .ret → mc.stack ≠ [] := fun _ => hs0
    rotate_left
    rw [decide_eq_false hret]
    refine iteF ?_
    have hne : ins = .ret → mc.stack ≠ [] := fun q => absurd q hret
    obtain ⟨H5, rfl⟩ : ∃ H5, H5 = H4 := ⟨H4, rfl⟩
    have M5 := M4
    have e5 := e4
    have g5 := g4
    all_goals
      have kt5 : KeepT H H5 := e5.keepT nt
      have tiv5 := tiv0.keep kt5
      obtain ⟨ia', ixs5, h1, hia5⟩ := wd_at tiv5
      cases h1
      refine ⟨_, rfl, ia, _, _, _, rfl, rfl, hia5, ix_nat (i := 0) rfl, by show 6 ≤ sizeLine; decide, fun dp hdp => ?_⟩
      have eP : Ext [] H5 (upd H5 dp (.tup [V.str (PySem.Str.ofString "less"), V.str (PySem.Str.ofString "table"), V.str (PySem.Str.ofString "jump"), V.str (PySem.Str.ofString "call"), V.str (PySem.Str.ofString "go"), V.str (PySem.Str.ofString "return")])) := Ext.new hdp
      refine ⟨dp, l_WAYS.map V.str, rfl, .inr (SqT.of upd_same), rfl, flat_strs l_WAYS, _, rfl, ?_⟩
      rw [if_neg Bool.false_ne_true, way_word]
      have M6 := M5.ext eP
      have e6 := e5.trans (eP.mono (W' := [rg, hp]) (fun a m => nomatch m))
      have g6 := eP _ _ g5 (fun m => nomatch m)
      have tiv6 := tiv5.keep eP.keep0
      have kt6 := kt5.trans eP.keep0
      replace M6 : LAt (upd H5 dp (.tup [V.str (PySem.Str.ofString "less"), V.str (PySem.Str.ofString "table"), V.str (PySem.Str.ofString "jump"), V.str (PySem.Str.ofString "call"), V.str (PySem.Str.ofString "go"), V.str (PySem.Str.ofString "return")])) rg hp sk mc := M6
      generalize hh6 : upd H5 dp (.tup [V.str (PySem.Str.ofString "less"), V.str (PySem.Str.ofString "table"), V.str (PySem.Str.ofString "jump"), V.str (PySem.Str.ofString "call"), V.str (PySem.Str.ofString "go"), V.str (PySem.Str.ofString "return")]) = H6 at *
      have ntr : ∀ {H7 : Hp}, Ext [rg, hp, sk] H6 H7 → H7 tr = some (.lst (vN ts)) := fun e7 => e7 _ _ g6 (by simp; exact ⟨nrt.symm, nht.symm, nst.symm⟩)
      cases hw : isWay ins with
      | true =>
        refine iteT ?_
        refine ⟨_, rfl, _, rfl, _, rfl, _, rfl, _, rfl, rfl, rg, hp, sk, mc, .ref ia, .ref ga, g, ins, pn, rfl, M6, tiv6, tg.keep kt6, go, hio, hw, hF5.1, hne, ?_, ?_⟩
        · intro hs H7 e7 M7
          refine ⟨_, rfl, rfl, _, rfl, iteT ?_⟩
          refine ⟨_, rfl, _, rfl, _, rfl, _, rfl, _, rfl, _, rfl, by show 7 ≤ sizeLine; decide, fun l hl5 => ?_⟩
          exact faulty (by rw [hst, hs]) H7 (e6.cut e7 fsk) M7 (ntr e7) l hl5
        · intro pc' m' hs H7 e7 M7
          have e07 := e6.cut e7 fsk
          have g7 := ntr e7
          have tiv7 := tiv6.keep (e7.keepT (fun b hb => M6.ntup b hb))
          obtain ⟨ia', ixs7, h1, hia7⟩ := wd_at tiv7
          cases h1
          obtain ⟨w1, w2⟩ := step_words hs
          obtain ⟨w3, w4⟩ := w2 htop
          refine ⟨_, rfl, rfl, _, rfl, ?_⟩
          rw [decide_eq_false (by intro q; cases q)]
          refine iteF ?_
          refine ⟨_, rfl, ia, _, _, _, rfl, rfl, hia7, ix_nat (i := 0) rfl, rfl, _, rfl, ?_⟩
          rw [word_new]
          rw [hst, hs] at r1 r2 r3 r4
          have etop : (if ((m'.stack.length : Nat) : Int) > ((mc.top : Nat) : Int) then ((m'.stack.length : Nat) : Int) else ((mc.top : Nat) : Int)) = ((m'.top : Nat) : Int) := by rw [w4]; split <;> omega
          have eq4 : vN ts ++ [V.int ((pn : Nat) : Int)] = vN (ts ++ [pn]) := by unfold vN; rw [List.map_append]; rfl
          cases hn : isNew ins with
          | true =>
            obtain ⟨nr, nx, rfl⟩ := isNew_yes hn
            refine iteT ?_
            obtain ⟨na, q1, q2, q3, hq0, hs3, p1, p2, p3⟩ := TD.three (d1 := .str "new") (d2 := dN nr) (d3 := dN nx) tiv7
            cases hq0
            cases p1.str_
            cases p2.int_
            cases p3.int_
            refine ⟨_, rfl, _, rfl, ia, _, _, _, rfl, rfl, hs3, rfl, _, _, rfl, rfl, ?_⟩
            refine ⟨_, rfl, .inl ⟨rfl, _, SqL.of g7⟩, _, rfl, tr, _, _, rfl, rfl, g7, by unfold vN; rw [List.length_map]; exact szl (by omega), ?_⟩
            rw [eq4]
            have e8 : Ext [rg, hp] H (upd _ tr (.lst (vN (ts ++ [pn])))) := e07.mut ftr
            have M8 : LAt (upd _ tr (.lst (vN (ts ++ [pn])))) rg hp sk m' := ⟨(upd_ne nrt).trans M7.rg, M7.r8, (upd_ne nht).trans M7.hp, (upd_ne nst).trans M7.sk, M7.n1, M7.n2, M7.n3⟩
            refine ⟨_, rfl, _, rfl, sk, _, rfl, .inl (SqL.of M8.sk), _, _, rfl, ?_⟩
            rw [vI_len, etop]
            refine ⟨_, rfl, ?_⟩
            exact ⟨e8, _, _, _, _, _, pc', m', ts ++ [pn], by rw [w1]; rfl, by omega, M8, upd_same, by rw [List.length_append, hts]; rfl, w3, by rw [show limit - (i + 1) = j by omega]; exact hF5.2 pc' m' (by rw [hst, hs]), by rw [show limit - (i + 1) = j by omega]; exact r1, by rw [show limit - (i + 1) = j by omega]; exact r2, by rw [show limit - (i + 1) = j by omega]; exact r3, by rw [show limit - (i + 1) = j by omega, r4, List.append_assoc]; rfl⟩
          | false =>
            refine iteF ?_
            rw [isNew_no hn, Nat.add_zero] at w1
            refine ⟨_, rfl, .inl ⟨rfl, _, SqL.of g7⟩, _, rfl, tr, _, _, rfl, rfl, g7, by unfold vN; rw [List.length_map]; exact szl (by omega), ?_⟩
            rw [eq4]
            have e8 : Ext [rg, hp] H (upd _ tr (.lst (vN (ts ++ [pn])))) := e07.mut ftr
            have M8 : LAt (upd _ tr (.lst (vN (ts ++ [pn])))) rg hp sk m' := ⟨(upd_ne nrt).trans M7.rg, M7.r8, (upd_ne nht).trans M7.hp, (upd_ne nst).trans M7.sk, M7.n1, M7.n2, M7.n3⟩
            refine ⟨_, rfl, _, rfl, sk, _, rfl, .inl (SqL.of M8.sk), _, _, rfl, ?_⟩
            rw [vI_len, etop]
            refine ⟨_, rfl, ?_⟩
            exact ⟨e8, _, _, _, _, _, pc', m', ts ++ [pn], by rw [w1]; rfl, by omega, M8, upd_same, by rw [List.length_append, hts]; rfl, w3, by rw [show limit - (i + 1) = j by omega]; exact hF5.2 pc' m' (by rw [hst, hs]), by rw [show limit - (i + 1) = j by omega]; exact r1, by rw [show limit - (i + 1) = j by omega]; exact r2, by rw [show limit - (i + 1) = j by omega]; exact r3, by rw [show limit - (i + 1) = j by omega, r4, List.append_assoc]; rfl⟩
      | false =>
        refine iteF ?_
        refine ⟨_, rfl, _, rfl, _, rfl, _, rfl, rfl, rg, hp, sk, mc, .ref ia, ins, g.code.length, g.names, rfl, M6, tiv6, hio, hw, hF5.1, ?_, ?_⟩
        · intro m' hwk H7 e7 M7
          refine ⟨true, rfl, iteF ?_⟩
          have hs : stepOf g pn mc ins = .next ((pn + 1 : Nat) : Int) m' := by rw [step_work hw, hwk]
          have e07 := e6.cut e7 fsk
          have g7 := ntr e7
          have tiv7 := tiv6.keep (e7.keepT (fun b hb => M6.ntup b hb))
          obtain ⟨ia', ixs7, h1, hia7⟩ := wd_at tiv7
          cases h1
          obtain ⟨w1, w2⟩ := step_words hs
          obtain ⟨w3, w4⟩ := w2 htop
          refine ⟨_, rfl, rfl, _, rfl, ?_⟩
          rw [decide_eq_false (by intro q; cases q)]
          refine iteF ?_
          refine ⟨_, rfl, ia, _, _, _, rfl, rfl, hia7, ix_nat (i := 0) rfl, rfl, _, rfl, ?_⟩
          rw [word_new]
          rw [hst, hs] at r1 r2 r3 r4
          have etop : (if ((m'.stack.length : Nat) : Int) > ((mc.top : Nat) : Int) then ((m'.stack.length : Nat) : Int) else ((mc.top : Nat) : Int)) = ((m'.top : Nat) : Int) := by rw [w4]; split <;> omega
          have eq4 : vN ts ++ [V.int ((pn : Nat) : Int)] = vN (ts ++ [pn]) := by unfold vN; rw [List.map_append]; rfl
          cases hn : isNew ins with
          | true =>
            obtain ⟨nr, nx, rfl⟩ := isNew_yes hn
            refine iteT ?_
            obtain ⟨na, q1, q2, q3, hq0, hs3, p1, p2, p3⟩ := TD.three (d1 := .str "new") (d2 := dN nr) (d3 := dN nx) tiv7
            cases hq0
            cases p1.str_
            cases p2.int_
            cases p3.int_
            refine ⟨_, rfl, _, rfl, ia, _, _, _, rfl, rfl, hs3, rfl, _, _, rfl, rfl, ?_⟩
            refine ⟨_, rfl, .inl ⟨rfl, _, SqL.of g7⟩, _, rfl, tr, _, _, rfl, rfl, g7, by unfold vN; rw [List.length_map]; exact szl (by omega), ?_⟩
            rw [eq4]
            have e8 : Ext [rg, hp] H (upd _ tr (.lst (vN (ts ++ [pn])))) := e07.mut ftr
            have M8 : LAt (upd _ tr (.lst (vN (ts ++ [pn])))) rg hp sk m' := ⟨(upd_ne nrt).trans M7.rg, M7.r8, (upd_ne nht).trans M7.hp, (upd_ne nst).trans M7.sk, M7.n1, M7.n2, M7.n3⟩
            refine ⟨_, rfl, _, rfl, sk, _, rfl, .inl (SqL.of M8.sk), _, _, rfl, ?_⟩
            rw [vI_len, etop]
            refine ⟨_, rfl, ?_⟩
            exact ⟨e8, _, _, _, _, _, ((pn + 1 : Nat) : Int), m', ts ++ [pn], by rw [w1]; rfl, by omega, M8, upd_same, by rw [List.length_append, hts]; rfl, w3, by rw [show limit - (i + 1) = j by omega]; exact hF5.2 _ m' (by rw [hst, hs]), by rw [show limit - (i + 1) = j by omega]; exact r1, by rw [show limit - (i + 1) = j by omega]; exact r2, by rw [show limit - (i + 1) = j by omega]; exact r3, by rw [show limit - (i + 1) = j by omega, r4, List.append_assoc]; rfl⟩
          | false =>
            refine iteF ?_
            rw [isNew_no hn, Nat.add_zero] at w1
            refine ⟨_, rfl, .inl ⟨rfl, _, SqL.of g7⟩, _, rfl, tr, _, _, rfl, rfl, g7, by unfold vN; rw [List.length_map]; exact szl (by omega), ?_⟩
            rw [eq4]
            have e8 : Ext [rg, hp] H (upd _ tr (.lst (vN (ts ++ [pn])))) := e07.mut ftr
            have M8 : LAt (upd _ tr (.lst (vN (ts ++ [pn])))) rg hp sk m' := ⟨(upd_ne nrt).trans M7.rg, M7.r8, (upd_ne nht).trans M7.hp, (upd_ne nst).trans M7.sk, M7.n1, M7.n2, M7.n3⟩
            refine ⟨_, rfl, _, rfl, sk, _, rfl, .inl (SqL.of M8.sk), _, _, rfl, ?_⟩
            rw [vI_len, etop]
            refine ⟨_, rfl, ?_⟩
            exact ⟨e8, _, _, _, _, _, ((pn + 1 : Nat) : Int), m', ts ++ [pn], by rw [w1]; rfl, by omega, M8, upd_same, by rw [List.length_append, hts]; rfl, w3, by rw [show limit - (i + 1) = j by omega]; exact hF5.2 _ m' (by rw [hst, hs]), by rw [show limit - (i + 1) = j by omega]; exact r1, by rw [show limit - (i + 1) = j by omega]; exact r2, by rw [show limit - (i + 1) = j by omega]; exact r3, by rw [show limit - (i + 1) = j by omega, r4, List.append_assoc]; rfl⟩
        · intro hwk H7 e7 M7
          refine ⟨false, rfl, iteT ?_⟩
          have hs : stepOf g pn mc ins = .fault := by rw [step_work hw, hwk]
          refine ⟨_, rfl, rfl, _, rfl, iteT ?_⟩
          refine ⟨_, rfl, _, rfl, _, rfl, _, rfl, _, rfl, _, rfl, by show 7 ≤ sizeLine; decide, fun l hl5 => ?_⟩
          exact faulty (by rw [hst, hs]) H7 (e6.cut e7 fsk) M7 (ntr e7) l hl5
  · rintro σ H4 ⟨e4, y6, y7, y13, y14, y15, pc, mc, ts, rfl, hil, _⟩
    omega
end
end K47

set_option Elab.async false
set_option linter.all false
set_option maxRecDepth 100000
set_option maxHeartbeats 4000000
namespace K47
open PySem PySem.Spec PyProof.Rows L2
open C8 hiding CX0 E0
/-! same -/
def scaD : PyData → Bool
  | .none => true
  | .int _ => true
  | .str _ => true
  | _ => false
def okD : Nat → PyData → Bool
  | 0, d => scaD d
  | n + 1, .tuple ds => ds.all (okD n) && decide (ds.length ≤ 100000)
  | _ + 1, d => scaD d
def r_law_same (K : PySem.W.Frag) (n : Nat) : List V → Hp → VK → Prop := fun vs H Q => ∃ (x y : V) (d : PyData), vs = [x, y] ∧ TD K H x d ∧ TD K H y d ∧ okD n d = true ∧ ∀ H', Ext [] H H' → Q (.bl true) H'
theorem scaD_of {n : Nat} {d : PyData} (h : okD n d = true) : scaD d = true ∨ ∃ m ds, n = m + 1 ∧ d = .tuple ds ∧ (∀ e ∈ ds, okD m e = true) ∧ ds.length ≤ 100000 := by
  cases n with
  | zero => exact .inl h
  | succ n =>
    cases d with
    | tuple ds =>
      unfold okD at h
      rw [Bool.and_eq_true] at h
      exact .inr ⟨n, ds, rfl, rfl, fun e he => List.all_eq_true.mp h.1 e he, of_decide_eq_true h.2⟩
    | _ => exact .inl h
section
variable {P : Program} {w : World} {K : PySem.W.Frag} {mg : Str → Option Value} {base : Heap}
abbrev N_law_same : List Str := ["_law_found", "_law_due_here", "_law_k"]
theorem sc_law_same : FnScope ["_law_found", "_law_due_here", "_law_k"] ["_law_found", "_law_due_here"] (defScope s_law_same) := ⟨rfl, rfl, rfl, by decide +kernel, rfl, by decide +kernel, by decide +kernel⟩
theorem c_law_same0 (T : Txt w K mg) : Cal P w K mg base 1 "_law_same" (spN 2 (r_law_same K 0)) [] := by
  obtain ⟨fd, F⟩ := T.f_law_same
  refine cal_mk F T.m_law_same (fun _ _ _ _ _ _ us hl => match us, hl with | [_, _], _ => rfl) sc_law_same (fun _ _ _ _ h => h.1) (fun cdv A outer s H vs Q E hr h => ?_)
  have hu := hu_of hr
  have hul := hul_of hr
  obtain ⟨_, x, y, d, rfl, tx, ty, ho, k⟩ := h
  refine ⟨_, (pss_cons (ps_if (pt_val (pe_callB call_isi1 (by rfl) T.b_isinstance bt_isinstance (pa_cons (pv 1) (pa_cons (pe_bltn (v := .ty "tuple") (by rfl) T.b_tuple bt_tuple rfl) pa_nil)))) (pss_cons (ps_if (PW.pt (pw_or (pt_not (pt_val (pe_callB call_isi1 (by rfl) T.b_isinstance bt_isinstance (pa_cons (pv 0) (pa_cons (pe_bltn (v := .ty "tuple") (by rfl) T.b_tuple bt_tuple rfl) pa_nil))))) (pw_or1 (pt_cmpR op_ne (pe_callB (call_lenK (K := K) rfl) (by rfl) T.b_len bt_len (pa_cons (pv 0) pa_nil)) (pe_callB (call_lenK (K := K) rfl) (by rfl) T.b_len bt_len (pa_cons (pv 1) pa_nil)) (nomark _))))) (pss_one (ps_ret (pe_bl))) (pss_nil))
      (pss_one (ps_never))) (pss_nil))
      (pss_cons (ps_if (pt_cmpR op_isN (pv 1) (pe_non) (nomark _)) (pss_one (ps_ret (pe_cmpR op_isN (pv 0) (pe_non) (nomark _)))) (pss_nil))
      (pss_cons (ps_if (PW.pt (pw_or (pt_cmpR op_ne (pe_callB call_isi1 (by rfl) T.b_isinstance bt_isinstance (pa_cons (pv 1) (pa_cons (pe_bltn (v := .ty "bool") (by rfl) T.b_bool bt_bool rfl) pa_nil))) (pe_callB call_isi1 (by rfl) T.b_isinstance bt_isinstance (pa_cons (pv 0) (pa_cons (pe_bltn (v := .ty "bool") (by rfl) T.b_bool bt_bool rfl) pa_nil))) (nomark _)) (pw_or1 (pt_cmpR op_ne (pe_callB call_isi1 (by rfl) T.b_isinstance bt_isinstance (pa_cons (pv 1) (pa_cons (pe_bltn (v := .ty "str") (by rfl) T.b_str bt_str rfl) pa_nil))) (pe_callB call_isi1 (by rfl) T.b_isinstance bt_isinstance (pa_cons (pv 0) (pa_cons (pe_bltn (v := .ty "str") (by rfl) T.b_str bt_str rfl) pa_nil))) (nomark _))))) (pss_one (ps_ret (pe_bl))) (pss_nil))
      (pss_one (ps_ret (pe_and (pe_callB call_isiT (by rfl) T.b_isinstance bt_isinstance (pa_cons (pv 0) (pa_cons (pe_tup (pa_cons (pe_bltn (v := .ty "int") (by rfl) T.b_int bt_int rfl) (pa_cons (pe_bltn (v := .ty "str") (by rfl) T.b_str bt_str rfl) pa_nil))) pa_nil))) (pe_one (pe_cmpR op_eq (pv 0) (pv 1) (nomark _))))))))), ?_⟩
  cases d with
  | none =>
    cases tx.non_
    cases ty.non_
    refine ⟨_, rfl, _, _, _, rfl, isi_non (b := false), false, rfl, iteF ?_⟩
    refine ⟨_, rfl, rfl, _, rfl, iteT ?_⟩
    refine ⟨_, rfl, rfl, ?_⟩
    exact k H (Ext.refl H)
  | int i =>
    cases tx.int_
    cases ty.int_
    refine ⟨_, rfl, _, _, _, rfl, isi_int (b := false), false, rfl, iteF ?_⟩
    refine ⟨_, rfl, rfl, _, rfl, ?_⟩
    rw [decide_eq_false (by intro q; cases q)]
    refine iteF ?_
    refine ⟨_, rfl, _, _, _, rfl, isi_int (b := false), _, rfl, _, _, _, rfl, isi_int (b := false), rfl, _, rfl, iteF ?_⟩
    refine ⟨_, rfl, _, _, _, rfl, isi_int (b := false), _, rfl, _, _, _, rfl, isi_int (b := false), rfl, _, rfl, iteF ?_⟩
    refine ⟨_, rfl, by show 2 ≤ sizeLine; decide, fun tp htp => ⟨.int i, tp, _, .type "int", [.type "int", .type "str"], true, rfl, upd_same, .cons (.ty "int") (.cons (.ty "str") .nil), .base (.int i), kitAny_cons (b := true) (kit_ty (by decide +kernel)) (fun q => nomatch q) (fun _ => rfl), ?_⟩⟩
    have e1 : Ext [] H (upd H tp (.tup [.ty "int", .ty "str"])) := Ext.new htp
    refine ⟨true, rfl, iteT ⟨_, rfl, _, rfl, rfl, ?_⟩⟩
    rw [decide_eq_true rfl]
    exact k _ e1
  | str z =>
    cases tx.str_
    cases ty.str_
    refine ⟨_, rfl, _, _, _, rfl, isi_str (b := false), false, rfl, iteF ?_⟩
    refine ⟨_, rfl, rfl, _, rfl, ?_⟩
    rw [decide_eq_false (by intro q; cases q)]
    refine iteF ?_
    refine ⟨_, rfl, _, _, _, rfl, isi_str (b := false), _, rfl, _, _, _, rfl, isi_str (b := false), rfl, _, rfl, iteF ?_⟩
    refine ⟨_, rfl, _, _, _, rfl, isi_str (b := true), _, rfl, _, _, _, rfl, isi_str (b := true), rfl, _, rfl, iteF ?_⟩
    refine ⟨_, rfl, by show 2 ≤ sizeLine; decide, fun tp htp => ⟨.str z, tp, _, .type "str", [.type "int", .type "str"], true, rfl, upd_same, .cons (.ty "int") (.cons (.ty "str") .nil), .base (.str z), kitAny_cons (b := false) (kit_ty (by decide +kernel)) (fun _ => kitAny_cons (b := true) (kit_ty (by decide +kernel)) (fun q => nomatch q) (fun _ => rfl)) (fun q => nomatch q), ?_⟩⟩
    have e1 : Ext [] H (upd H tp (.tup [.ty "int", .ty "str"])) := Ext.new htp
    refine ⟨true, rfl, iteT ⟨_, rfl, _, rfl, rfl, ?_⟩⟩
    rw [decide_eq_true rfl]
    exact k _ e1
  | _ => cases ho
theorem c_law_same1 (T : Txt w K mg) : Cal P w K mg base 2 "_law_same" (spN 2 (r_law_same K 1)) [] := by
  obtain ⟨fd, F⟩ := T.f_law_same
  refine cal_mk F T.m_law_same (fun _ _ _ _ _ _ us hl => match us, hl with | [_, _], _ => rfl) sc_law_same (fun _ _ _ _ h => h.1) (fun cdv A outer s H vs Q E hr h => ?_)
  have hu := hu_of hr
  have hul := hul_of hr
  obtain ⟨_, x, y, d, rfl, tx, ty, ho, k⟩ := h
  refine ⟨_, (pss_cons (ps_if (pt_val (pe_callB call_isi1 (by rfl) T.b_isinstance bt_isinstance (pa_cons (pv 1) (pa_cons (pe_bltn (v := .ty "tuple") (by rfl) T.b_tuple bt_tuple rfl) pa_nil)))) (pss_cons (ps_if (PW.pt (pw_or (pt_not (pt_val (pe_callB call_isi1 (by rfl) T.b_isinstance bt_isinstance (pa_cons (pv 0) (pa_cons (pe_bltn (v := .ty "tuple") (by rfl) T.b_tuple bt_tuple rfl) pa_nil))))) (pw_or1 (pt_cmpR op_ne (pe_callB (call_lenK (K := K) rfl) (by rfl) T.b_len bt_len (pa_cons (pv 0) pa_nil)) (pe_callB (call_lenK (K := K) rfl) (by rfl) T.b_len bt_len (pa_cons (pv 1) pa_nil)) (nomark _))))) (pss_one (ps_ret (pe_bl))) (pss_nil))
      (pss_one (ps_ret (pe_cmpR (op_eqNilK (K := K) rfl hul) (pe_lc (own := [("_law_k", 2)]) rfl sc_law_same.nd (pi_range1 (by rfl) T.b_range (pa_cons (pe_callB (call_lenK (K := K) rfl) (by rfl) T.b_len bt_len (pa_cons (pv 1) pa_nil)) pa_nil)) (blkOk_by (N := N_law_same) (sc := defScope s_law_same) (by decide +kernel)) (fun _ _ _ _ _ => pg_name (i := 2) sc_law_same.nd rfl (by first | exact Or.inl rfl | exact Or.inr rfl)) (fun _ _ _ _ _ => pts_one (pt_not (pt_val (pe_c (c_law_same0 T) hr (by decide) (by rfl) (pa_cons (pe_ix (ix_tupK (K := K) rfl) (pv 0) (pv 2) (fun _ _ => rfl)) (pa_cons (pe_ix (ix_tupK (K := K) rfl) (pv 1) (pv 2) (fun _ _ => rfl)) pa_nil)))))) (fun _ _ _ _ _ => pe_int)) (pe_lst (pa_nil)) (nomark _))))) (pss_nil))
      (pss_cons (ps_if (pt_cmpR op_isN (pv 1) (pe_non) (nomark _)) (pss_one (ps_ret (pe_cmpR op_isN (pv 0) (pe_non) (nomark _)))) (pss_nil))
      (pss_cons (ps_if (PW.pt (pw_or (pt_cmpR op_ne (pe_callB call_isi1 (by rfl) T.b_isinstance bt_isinstance (pa_cons (pv 1) (pa_cons (pe_bltn (v := .ty "bool") (by rfl) T.b_bool bt_bool rfl) pa_nil))) (pe_callB call_isi1 (by rfl) T.b_isinstance bt_isinstance (pa_cons (pv 0) (pa_cons (pe_bltn (v := .ty "bool") (by rfl) T.b_bool bt_bool rfl) pa_nil))) (nomark _)) (pw_or1 (pt_cmpR op_ne (pe_callB call_isi1 (by rfl) T.b_isinstance bt_isinstance (pa_cons (pv 1) (pa_cons (pe_bltn (v := .ty "str") (by rfl) T.b_str bt_str rfl) pa_nil))) (pe_callB call_isi1 (by rfl) T.b_isinstance bt_isinstance (pa_cons (pv 0) (pa_cons (pe_bltn (v := .ty "str") (by rfl) T.b_str bt_str rfl) pa_nil))) (nomark _))))) (pss_one (ps_ret (pe_bl))) (pss_nil))
      (pss_one (ps_ret (pe_and (pe_callB call_isiT (by rfl) T.b_isinstance bt_isinstance (pa_cons (pv 0) (pa_cons (pe_tup (pa_cons (pe_bltn (v := .ty "int") (by rfl) T.b_int bt_int rfl) (pa_cons (pe_bltn (v := .ty "str") (by rfl) T.b_str bt_str rfl) pa_nil))) pa_nil))) (pe_one (pe_cmpR op_eq (pv 0) (pv 1) (nomark _))))))))), ?_⟩
  cases d with
  | none =>
    cases tx.non_
    cases ty.non_
    refine ⟨_, rfl, _, _, _, rfl, isi_non (b := false), false, rfl, iteF ?_⟩
    refine ⟨_, rfl, rfl, _, rfl, iteT ?_⟩
    refine ⟨_, rfl, rfl, ?_⟩
    exact k H (Ext.refl H)
  | int i =>
    cases tx.int_
    cases ty.int_
    refine ⟨_, rfl, _, _, _, rfl, isi_int (b := false), false, rfl, iteF ?_⟩
    refine ⟨_, rfl, rfl, _, rfl, ?_⟩
    rw [decide_eq_false (by intro q; cases q)]
    refine iteF ?_
    refine ⟨_, rfl, _, _, _, rfl, isi_int (b := false), _, rfl, _, _, _, rfl, isi_int (b := false), rfl, _, rfl, iteF ?_⟩
    refine ⟨_, rfl, _, _, _, rfl, isi_int (b := false), _, rfl, _, _, _, rfl, isi_int (b := false), rfl, _, rfl, iteF ?_⟩
    refine ⟨_, rfl, by show 2 ≤ sizeLine; decide, fun tp htp => ⟨.int i, tp, _, .type "int", [.type "int", .type "str"], true, rfl, upd_same, .cons (.ty "int") (.cons (.ty "str") .nil), .base (.int i), kitAny_cons (b := true) (kit_ty (by decide +kernel)) (fun q => nomatch q) (fun _ => rfl), ?_⟩⟩
    have e1 : Ext [] H (upd H tp (.tup [.ty "int", .ty "str"])) := Ext.new htp
    refine ⟨true, rfl, iteT ⟨_, rfl, _, rfl, rfl, ?_⟩⟩
    rw [decide_eq_true rfl]
    exact k _ e1
  | str z =>
    cases tx.str_
    cases ty.str_
    refine ⟨_, rfl, _, _, _, rfl, isi_str (b := false), false, rfl, iteF ?_⟩
    refine ⟨_, rfl, rfl, _, rfl, ?_⟩
    rw [decide_eq_false (by intro q; cases q)]
    refine iteF ?_
    refine ⟨_, rfl, _, _, _, rfl, isi_str (b := false), _, rfl, _, _, _, rfl, isi_str (b := false), rfl, _, rfl, iteF ?_⟩
    refine ⟨_, rfl, _, _, _, rfl, isi_str (b := true), _, rfl, _, _, _, rfl, isi_str (b := true), rfl, _, rfl, iteF ?_⟩
    refine ⟨_, rfl, by show 2 ≤ sizeLine; decide, fun tp htp => ⟨.str z, tp, _, .type "str", [.type "int", .type "str"], true, rfl, upd_same, .cons (.ty "int") (.cons (.ty "str") .nil), .base (.str z), kitAny_cons (b := false) (kit_ty (by decide +kernel)) (fun _ => kitAny_cons (b := true) (kit_ty (by decide +kernel)) (fun q => nomatch q) (fun _ => rfl)) (fun q => nomatch q), ?_⟩⟩
    have e1 : Ext [] H (upd H tp (.tup [.ty "int", .ty "str"])) := Ext.new htp
    refine ⟨true, rfl, iteT ⟨_, rfl, _, rfl, rfl, ?_⟩⟩
    rw [decide_eq_true rfl]
    exact k _ e1
  | tuple ds =>
    rcases scaD_of ho with q | ⟨m, ds', hm, hd, hall, hlen⟩
    · cases q
    cases hm
    cases hd
    obtain ⟨a, xs, rfl, ha, tsx⟩ := tx.open_
    obtain ⟨b, ys, rfl, hb, tsy⟩ := ty.open_
    have hxl : xs.length = ds.length := tsx.length
    have hyl : ys.length = ds.length := tsy.length
    refine ⟨_, rfl, _, _, _, rfl, isi_tup hb (b := true), true, rfl, iteT ?_⟩
    refine ⟨_, rfl, _, _, _, rfl, isi_tup ha (b := true), true, rfl, iteF ?_⟩
    refine ⟨_, rfl, a, _, rfl, .inr ha, _, rfl, b, _, rfl, .inr hb, rfl, _, rfl, ?_⟩
    rw [hxl, hyl, deqq rfl]
    refine iteF ?_
    refine ⟨_, rfl, b, _, rfl, .inr hb, _, rfl, by rw [hyl]; omega, by rw [hyl]; omega, fun D hD => ?_⟩
    refine lc_it (w := walk_range) (fun i H' => Ext [] H H' ∧ H' D = some (.lst [])) ⟨Ext.new hD, upd_same⟩ (fun i H' _ q => trivial) ?_ ?_
    · rintro i x H1 H1' hi ⟨e1, h1⟩ hy
      obtain ⟨rfl, rfl⟩ := hy
      have hi' : i < ds.length := by have : ((ys.length : Nat) : Int).toNat = ys.length := by omega
                                     omega
      obtain ⟨d, hd⟩ : ∃ d, ds[i]? = some d := ⟨_, List.getElem?_eq_getElem hi'⟩
      obtain ⟨xv, hxv, txv⟩ := tsx.get hd
      obtain ⟨yv, hyv, tyv⟩ := tsy.get hd
      show gName 2 (V.int (0 + ((i : Nat) : Int))) _ _ _
      rw [Int.zero_add]
      refine ⟨rfl, _, rfl, _, rfl, a, _, _, _, rfl, rfl, e1.sqt ha, ix_nat hxv, _, rfl, _, rfl, b, _, _, _, rfl, rfl, e1.sqt hb, ix_nat hyv, rfl, xv, yv, d, rfl, txv.keep e1.keep0, tyv.keep e1.keep0, hall d (List.mem_of_getElem? hd), fun H2 e2 => ⟨true, rfl, iteF ?_⟩⟩
      exact ⟨e1.trans e2, e2 _ _ h1 (fun m => nomatch m)⟩
    · rintro H1 ⟨e1, h1⟩
      refine ⟨Nat.zero_le _, fun q hq => ⟨D, q, [], rfl, rfl, SqL.of ((Ext.new (W := []) hq) _ _ h1 (fun m => nomatch m)), SqL.of upd_same, ?_⟩⟩
      exact k _ (e1.trans (Ext.new hq))
  | _ => cases ho
theorem c_law_same2 (T : Txt w K mg) : Cal P w K mg base 3 "_law_same" (spN 2 (r_law_same K 2)) [] := by
  obtain ⟨fd, F⟩ := T.f_law_same
  refine cal_mk F T.m_law_same (fun _ _ _ _ _ _ us hl => match us, hl with | [_, _], _ => rfl) sc_law_same (fun _ _ _ _ h => h.1) (fun cdv A outer s H vs Q E hr h => ?_)
  have hu := hu_of hr
  have hul := hul_of hr
  obtain ⟨_, x, y, d, rfl, tx, ty, ho, k⟩ := h
  refine ⟨_, (pss_cons (ps_if (pt_val (pe_callB call_isi1 (by rfl) T.b_isinstance bt_isinstance (pa_cons (pv 1) (pa_cons (pe_bltn (v := .ty "tuple") (by rfl) T.b_tuple bt_tuple rfl) pa_nil)))) (pss_cons (ps_if (PW.pt (pw_or (pt_not (pt_val (pe_callB call_isi1 (by rfl) T.b_isinstance bt_isinstance (pa_cons (pv 0) (pa_cons (pe_bltn (v := .ty "tuple") (by rfl) T.b_tuple bt_tuple rfl) pa_nil))))) (pw_or1 (pt_cmpR op_ne (pe_callB (call_lenK (K := K) rfl) (by rfl) T.b_len bt_len (pa_cons (pv 0) pa_nil)) (pe_callB (call_lenK (K := K) rfl) (by rfl) T.b_len bt_len (pa_cons (pv 1) pa_nil)) (nomark _))))) (pss_one (ps_ret (pe_bl))) (pss_nil))
      (pss_one (ps_ret (pe_cmpR (op_eqNilK (K := K) rfl hul) (pe_lc (own := [("_law_k", 2)]) rfl sc_law_same.nd (pi_range1 (by rfl) T.b_range (pa_cons (pe_callB (call_lenK (K := K) rfl) (by rfl) T.b_len bt_len (pa_cons (pv 1) pa_nil)) pa_nil)) (blkOk_by (N := N_law_same) (sc := defScope s_law_same) (by decide +kernel)) (fun _ _ _ _ _ => pg_name (i := 2) sc_law_same.nd rfl (by first | exact Or.inl rfl | exact Or.inr rfl)) (fun _ _ _ _ _ => pts_one (pt_not (pt_val (pe_c (c_law_same1 T) hr (by decide) (by rfl) (pa_cons (pe_ix (ix_tupK (K := K) rfl) (pv 0) (pv 2) (fun _ _ => rfl)) (pa_cons (pe_ix (ix_tupK (K := K) rfl) (pv 1) (pv 2) (fun _ _ => rfl)) pa_nil)))))) (fun _ _ _ _ _ => pe_int)) (pe_lst (pa_nil)) (nomark _))))) (pss_nil))
      (pss_cons (ps_if (pt_cmpR op_isN (pv 1) (pe_non) (nomark _)) (pss_one (ps_ret (pe_cmpR op_isN (pv 0) (pe_non) (nomark _)))) (pss_nil))
      (pss_cons (ps_if (PW.pt (pw_or (pt_cmpR op_ne (pe_callB call_isi1 (by rfl) T.b_isinstance bt_isinstance (pa_cons (pv 1) (pa_cons (pe_bltn (v := .ty "bool") (by rfl) T.b_bool bt_bool rfl) pa_nil))) (pe_callB call_isi1 (by rfl) T.b_isinstance bt_isinstance (pa_cons (pv 0) (pa_cons (pe_bltn (v := .ty "bool") (by rfl) T.b_bool bt_bool rfl) pa_nil))) (nomark _)) (pw_or1 (pt_cmpR op_ne (pe_callB call_isi1 (by rfl) T.b_isinstance bt_isinstance (pa_cons (pv 1) (pa_cons (pe_bltn (v := .ty "str") (by rfl) T.b_str bt_str rfl) pa_nil))) (pe_callB call_isi1 (by rfl) T.b_isinstance bt_isinstance (pa_cons (pv 0) (pa_cons (pe_bltn (v := .ty "str") (by rfl) T.b_str bt_str rfl) pa_nil))) (nomark _))))) (pss_one (ps_ret (pe_bl))) (pss_nil))
      (pss_one (ps_ret (pe_and (pe_callB call_isiT (by rfl) T.b_isinstance bt_isinstance (pa_cons (pv 0) (pa_cons (pe_tup (pa_cons (pe_bltn (v := .ty "int") (by rfl) T.b_int bt_int rfl) (pa_cons (pe_bltn (v := .ty "str") (by rfl) T.b_str bt_str rfl) pa_nil))) pa_nil))) (pe_one (pe_cmpR op_eq (pv 0) (pv 1) (nomark _))))))))), ?_⟩
  cases d with
  | none =>
    cases tx.non_
    cases ty.non_
    refine ⟨_, rfl, _, _, _, rfl, isi_non (b := false), false, rfl, iteF ?_⟩
    refine ⟨_, rfl, rfl, _, rfl, iteT ?_⟩
    refine ⟨_, rfl, rfl, ?_⟩
    exact k H (Ext.refl H)
  | int i =>
    cases tx.int_
    cases ty.int_
    refine ⟨_, rfl, _, _, _, rfl, isi_int (b := false), false, rfl, iteF ?_⟩
    refine ⟨_, rfl, rfl, _, rfl, ?_⟩
    rw [decide_eq_false (by intro q; cases q)]
    refine iteF ?_
    refine ⟨_, rfl, _, _, _, rfl, isi_int (b := false), _, rfl, _, _, _, rfl, isi_int (b := false), rfl, _, rfl, iteF ?_⟩
    refine ⟨_, rfl, _, _, _, rfl, isi_int (b := false), _, rfl, _, _, _, rfl, isi_int (b := false), rfl, _, rfl, iteF ?_⟩
    refine ⟨_, rfl, by show 2 ≤ sizeLine; decide, fun tp htp => ⟨.int i, tp, _, .type "int", [.type "int", .type "str"], true, rfl, upd_same, .cons (.ty "int") (.cons (.ty "str") .nil), .base (.int i), kitAny_cons (b := true) (kit_ty (by decide +kernel)) (fun q => nomatch q) (fun _ => rfl), ?_⟩⟩
    have e1 : Ext [] H (upd H tp (.tup [.ty "int", .ty "str"])) := Ext.new htp
    refine ⟨true, rfl, iteT ⟨_, rfl, _, rfl, rfl, ?_⟩⟩
    rw [decide_eq_true rfl]
    exact k _ e1
  | str z =>
    cases tx.str_
    cases ty.str_
    refine ⟨_, rfl, _, _, _, rfl, isi_str (b := false), false, rfl, iteF ?_⟩
    refine ⟨_, rfl, rfl, _, rfl, ?_⟩
    rw [decide_eq_false (by intro q; cases q)]
    refine iteF ?_
    refine ⟨_, rfl, _, _, _, rfl, isi_str (b := false), _, rfl, _, _, _, rfl, isi_str (b := false), rfl, _, rfl, iteF ?_⟩
    refine ⟨_, rfl, _, _, _, rfl, isi_str (b := true), _, rfl, _, _, _, rfl, isi_str (b := true), rfl, _, rfl, iteF ?_⟩
    refine ⟨_, rfl, by show 2 ≤ sizeLine; decide, fun tp htp => ⟨.str z, tp, _, .type "str", [.type "int", .type "str"], true, rfl, upd_same, .cons (.ty "int") (.cons (.ty "str") .nil), .base (.str z), kitAny_cons (b := false) (kit_ty (by decide +kernel)) (fun _ => kitAny_cons (b := true) (kit_ty (by decide +kernel)) (fun q => nomatch q) (fun _ => rfl)) (fun q => nomatch q), ?_⟩⟩
    have e1 : Ext [] H (upd H tp (.tup [.ty "int", .ty "str"])) := Ext.new htp
    refine ⟨true, rfl, iteT ⟨_, rfl, _, rfl, rfl, ?_⟩⟩
    rw [decide_eq_true rfl]
    exact k _ e1
  | tuple ds =>
    rcases scaD_of ho with q | ⟨m, ds', hm, hd, hall, hlen⟩
    · cases q
    cases hm
    cases hd
    obtain ⟨a, xs, rfl, ha, tsx⟩ := tx.open_
    obtain ⟨b, ys, rfl, hb, tsy⟩ := ty.open_
    have hxl : xs.length = ds.length := tsx.length
    have hyl : ys.length = ds.length := tsy.length
    refine ⟨_, rfl, _, _, _, rfl, isi_tup hb (b := true), true, rfl, iteT ?_⟩
    refine ⟨_, rfl, _, _, _, rfl, isi_tup ha (b := true), true, rfl, iteF ?_⟩
    refine ⟨_, rfl, a, _, rfl, .inr ha, _, rfl, b, _, rfl, .inr hb, rfl, _, rfl, ?_⟩
    rw [hxl, hyl, deqq rfl]
    refine iteF ?_
    refine ⟨_, rfl, b, _, rfl, .inr hb, _, rfl, by rw [hyl]; omega, by rw [hyl]; omega, fun D hD => ?_⟩
    refine lc_it (w := walk_range) (fun i H' => Ext [] H H' ∧ H' D = some (.lst [])) ⟨Ext.new hD, upd_same⟩ (fun i H' _ q => trivial) ?_ ?_
    · rintro i x H1 H1' hi ⟨e1, h1⟩ hy
      obtain ⟨rfl, rfl⟩ := hy
      have hi' : i < ds.length := by have : ((ys.length : Nat) : Int).toNat = ys.length := by omega
                                     omega
      obtain ⟨d, hd⟩ : ∃ d, ds[i]? = some d := ⟨_, List.getElem?_eq_getElem hi'⟩
      obtain ⟨xv, hxv, txv⟩ := tsx.get hd
      obtain ⟨yv, hyv, tyv⟩ := tsy.get hd
      show gName 2 (V.int (0 + ((i : Nat) : Int))) _ _ _
      rw [Int.zero_add]
      refine ⟨rfl, _, rfl, _, rfl, a, _, _, _, rfl, rfl, e1.sqt ha, ix_nat hxv, _, rfl, _, rfl, b, _, _, _, rfl, rfl, e1.sqt hb, ix_nat hyv, rfl, xv, yv, d, rfl, txv.keep e1.keep0, tyv.keep e1.keep0, hall d (List.mem_of_getElem? hd), fun H2 e2 => ⟨true, rfl, iteF ?_⟩⟩
      exact ⟨e1.trans e2, e2 _ _ h1 (fun m => nomatch m)⟩
    · rintro H1 ⟨e1, h1⟩
      refine ⟨Nat.zero_le _, fun q hq => ⟨D, q, [], rfl, rfl, SqL.of ((Ext.new (W := []) hq) _ _ h1 (fun m => nomatch m)), SqL.of upd_same, ?_⟩⟩
      exact k _ (e1.trans (Ext.new hq))
  | _ => cases ho
end
end K47

set_option Elab.async false
set_option linter.all false
set_option maxRecDepth 100000
set_option maxHeartbeats 4000000
namespace K47
open PySem PySem.Spec PyProof.Rows L2
open C8 hiding CX0 E0
/-! due -/
def pickF (n : Str) (f : Fdef) : Option V := if f.name = n then some (.str f.result) else none
theorem pickF_at {c : Core} (o : CoreOk c) {f : Fdef} (h : f ∈ c.fs) : (c.fs.filterMap (pickF f.name))[0]? = some (.str f.result) := by
  have gen : ∀ l : List Fdef, (l.map (·.name)).Nodup → f ∈ l → (l.filterMap (pickF f.name))[0]? = some (.str f.result) := by
    intro l
    induction l with
    | nil => intro _ q; cases q
    | cons x l ih =>
      intro nd q
      rw [List.filterMap_cons]
      rw [List.map_cons, List.nodup_cons] at nd
      rcases List.mem_cons.mp q with rfl | q
      · rw [show pickF f.name f = some (.str f.result) by unfold pickF; rw [if_pos rfl]]
        rfl
      · have hn : x.name ≠ f.name := fun e => nd.1 (by rw [e]; exact List.mem_map_of_mem q)
        rw [show pickF f.name x = none by unfold pickF; rw [if_neg hn]]
        exact ih nd.2 q
  exact gen c.fs o.nd h
def dueD (ks : Ks) (k : Str) (R : Res) : PyData := .tuple [resD ks k R, traceD R]
def r_law_due (K : PySem.W.Frag) : List V → Hp → VK → Prop := fun vs H Q => ∃ (c : Core) (g : Img) (f : Fdef) (wss : List (List Wd)) (us h : List Int) (cv gv : V) (a : Addr) (xs : List V) (limit : Nat), vs = [cv, gv, .str f.name, .ref a, .int ((limit : Nat) : Int)] ∧ TD K H cv (eCore c) ∧ TD K H gv (eImg g) ∧ SqT K H a xs ∧ TDs K H xs (wss.map eWds) ∧ Case c g f wss us h ∧ limit ≤ 1000 ∧
  Fine g limit ((addrOf g f.name : Nat) : Int) (ms0 us h) ∧ ∀ H' u, Ext [] H H' → TD K H' u (dueD c.ks f.result (runN g limit ((addrOf g f.name : Nat) : Int) (ms0 us h))) → Q u H'
section
variable {P : Program} {w : World} {K : PySem.W.Frag} {mg : Str → Option Value} {base : Heap}
abbrev N_law_due : List Str := ["_law_core", "_law_image", "_law_name", "_law_args", "_law_limit", "_law_kinds_here", "_law_regs", "_law_heap", "_law_end", "_law_trace", "_law_words", "_law_top", "_law_at", "_law_value_here", "_law_result", "_law_function"]
theorem sc_law_due : FnScope ["_law_core", "_law_image", "_law_name", "_law_args", "_law_limit", "_law_kinds_here", "_law_regs", "_law_heap", "_law_end", "_law_trace", "_law_words", "_law_top", "_law_at", "_law_value_here", "_law_result", "_law_function"] ["_law_core", "_law_image", "_law_name", "_law_args", "_law_limit"] (defScope s_law_due) := ⟨rfl, rfl, rfl, by decide +kernel, rfl, by decide +kernel, by decide +kernel⟩
theorem c_law_due (T : Txt w K mg) : Cal P w K mg base 4 "_law_due" (spN 5 (r_law_due K)) [] := by
  obtain ⟨fd, F⟩ := T.f_law_due
  refine cal_mk F T.m_law_due (fun _ _ _ _ _ _ us hl => match us, hl with | [_, _, _, _, _], _ => rfl) sc_law_due (fun _ _ _ _ h => h.1) (fun cdv A outer s H vs Q E hr h => ?_)
  have hu := hu_of hr
  have hul := hul_of hr
  obtain ⟨_, c, g, f, wss, us, h', cv, gv, a, xs, limit, rfl, tc, tg, hs, ts, C, hl, hF, k⟩ := h
  obtain ⟨ca, v1, v2, rfl, hca, t1, t2⟩ := id tc.two
  refine ⟨_, (pss_cons (ps_set (i := 5) sc_law_due.nd rfl (by first | exact Or.inl rfl | exact Or.inr rfl) (pe_ix (ix_tupK (K := K) rfl) (pv 0) (pe_int) (fun _ _ => rfl)))
      (pss_cons (ps_asg (pe_c (c_law_lay T) hr (by decide) (by rfl) (pa_cons (pv 5) (pa_cons (pv 3) pa_nil))) (pg_tupK (K := K) (n := 2) rfl rfl (pgs_cons (pg_name (i := 6) sc_law_due.nd rfl (by first | exact Or.inl rfl | exact Or.inr rfl)) (pgs_cons (pg_name (i := 7) sc_law_due.nd rfl (by first | exact Or.inl rfl | exact Or.inr rfl)) pgs_nil))))
      (pss_cut (ps_asg (pe_c (c_law_run T) hr (by decide) (by rfl) (pa_cons (pv 1) (pa_cons (pv 2) (pa_cons (pv 6) (pa_cons (pv 7) (pa_cons (pv 4) pa_nil)))))) (pg_unl (n := 7) rfl (pgs_cons (pg_name (i := 8) sc_law_due.nd rfl (by first | exact Or.inl rfl | exact Or.inr rfl)) (pgs_cons (pg_name (i := 6) sc_law_due.nd rfl (by first | exact Or.inl rfl | exact Or.inr rfl)) (pgs_cons (pg_name (i := 7) sc_law_due.nd rfl (by first | exact Or.inl rfl | exact Or.inr rfl)) (pgs_cons (pg_name (i := 9) sc_law_due.nd rfl (by first | exact Or.inl rfl | exact Or.inr rfl)) (pgs_cons (pg_name (i := 10) sc_law_due.nd rfl (by first | exact Or.inl rfl | exact Or.inr rfl)) (pgs_cons (pg_name (i := 11) sc_law_due.nd rfl (by first | exact Or.inl rfl | exact Or.inr rfl)) (pgs_cons (pg_name (i := 12) sc_law_due.nd rfl (by first | exact Or.inl rfl | exact Or.inr rfl)) pgs_nil)))))))))
      (pss_cons (ps_set (i := 13) sc_law_due.nd rfl (by first | exact Or.inl rfl | exact Or.inr rfl) (pe_non))
      (pss_cons (ps_if (pt_cmpR op_eq (pv 8) (pe_str) (nomark _)) (pss_cons (ps_set (i := 14) sc_law_due.nd rfl (by first | exact Or.inl rfl | exact Or.inr rfl) (pe_ix (ix_listK (K := K) rfl) (pe_lc (own := [("_law_function", 15)]) rfl sc_law_due.nd (pi_tupK (K := K) rfl (pe_ix (ix_tupK (K := K) rfl) (pv 0) (pe_int) (fun _ _ => rfl))) (blkOk_by (N := N_law_due) (sc := defScope s_law_due) (by decide +kernel)) (fun _ _ _ _ _ => pg_name (i := 15) sc_law_due.nd rfl (by first | exact Or.inl rfl | exact Or.inr rfl)) (fun _ _ _ _ _ => pts_one (pt_cmpR op_eq (pe_ix (ix_tupK (K := K) rfl) (pv 15) (pe_int) (fun _ _ => rfl)) (pv 2) (nomark _))) (fun _ _ _ _ _ => pe_ix (ix_tupK (K := K) rfl) (pv 15) (pe_int) (fun _ _ => rfl))) (pe_int) (fun _ _ => rfl)))
      (pss_one (ps_asg (pe_c (c_law_told T) hr (by decide) (by rfl) (pa_cons (pv 5) (pa_cons (pv 14) (pa_cons (pe_ix (ix_listK (K := K) rfl) (pv 6) (pe_int) (fun _ _ => rfl)) (pa_cons (pv 7) pa_nil))))) (pg_tupK (K := K) (n := 2) rfl rfl (pgs_cons (pg_name (i := 8) sc_law_due.nd rfl (by first | exact Or.inl rfl | exact Or.inr rfl)) (pgs_cons (pg_name (i := 13) sc_law_due.nd rfl (by first | exact Or.inl rfl | exact Or.inr rfl)) pgs_nil)))))) (pss_nil))
      (pss_one (ps_ret (pe_tup (pa_cons (pe_tup (pa_cons (pv 8) (pa_cons (pv 13) (pa_cons (pe_callB (call_lenK (K := K) rfl) (by rfl) T.b_len bt_len (pa_cons (pv 9) pa_nil)) (pa_cons (pv 10) (pa_cons (pv 11) pa_nil)))))) (pa_cons (pe_callTy call_tuple_of (by rfl) T.b_tuple bt_tuple (pa_cons (pv 9) pa_nil)) pa_nil)))))))))), ?_⟩
  refine ⟨_, rfl, ca, _, _, _, rfl, rfl, hca, rfl, ?_⟩
  refine ⟨_, rfl, _, rfl, rfl, c.ks, v1, a, xs, wss, us, h', rfl, t1, C.co.ks, hs, ts, C.ly, C.hl, C.w6, C.ar.mem, fun H1 t r p e1 ht nrp fr fp gr gp => ?_⟩
  refine ⟨t, _, rfl, ht, rfl, _, _, rfl, _, _, rfl, rfl, ?_⟩
  refine ⟨fun σ' H2 => ∃ (R : Res) (tr : Addr) (y12 y13 y14 y15 : Option V), σ' = [some (.ref ca), some gv, some (.str f.name), some (.ref a), some (.int ((limit : Nat) : Int)), some v1, some (.ref r), some (.ref p), some (.str (endW R.e)), some (.ref tr), some (.int ((R.m.words : Nat) : Int)), some (.int ((R.m.top : Nat) : Int)), y12, y13, y14, y15] ∧ R = runN g limit ((addrOf g f.name : Nat) : Int) (ms0 us h') ∧ Ext [] H H2 ∧ H2 r = some (.lst (vI R.m.regs)) ∧ H2 p = some (.lst (vI R.m.heap)) ∧ H2 tr = some (.lst (vN R.t)) ∧ R.m.regs.length = 8, ?_, ?_⟩
  · refine ⟨_, rfl, _, rfl, _, rfl, _, rfl, _, rfl, rfl, g, gv, f.name, r, p, regsOf us, h', limit, rfl, tg.keep e1.keep0, C.go, C.nmem, gr, C.r8, gp, nrp, hF, hl, fun H2 l tr R hR e2 gl grr gpp gt h8 => ?_⟩
    have e12 : Ext [] H H2 := fun b o hb hn => e2 b o (e1 b o hb hn) (fun m => by
      simp only [List.mem_cons, List.not_mem_nil, or_false] at m
      rcases m with rfl | rfl
      · rw [fr] at hb; cases hb
      · rw [fp] at hb; cases hb)
    refine ⟨l, _, rfl, SqL.of gl, rfl, _, _, rfl, _, _, rfl, _, _, rfl, _, _, rfl, _, _, rfl, _, _, rfl, _, _, rfl, rfl, ?_⟩
    exact ⟨R, tr, _, _, _, _, rfl, hR, e12, grr, gpp, gt, h8⟩
  rintro σ' H2 ⟨R, tr, y12, y13, y14, y15, rfl, hR, e12, grr, gpp, gt, h8⟩
  rw [← hR] at k
  refine ⟨_, rfl, rfl, _, rfl, ?_⟩
  have out : ∀ (H3 : Hp) (x : PyData) (xv : V) (wd : Str), Ext [] H2 H3 → wd = resW c.ks f.result R → x = resV c.ks f.result R → TD K H3 xv x → ∀ t1, H3 t1 = none → ∀ t2, (upd H3 t1 (.tup [.str wd, xv, .int ((R.t.length : Nat) : Int), .int ((R.m.words : Nat) : Int), .int ((R.m.top : Nat) : Int)])) t2 = none →
      ∀ t3, (upd (upd H3 t1 (.tup [.str wd, xv, .int ((R.t.length : Nat) : Int), .int ((R.m.words : Nat) : Int), .int ((R.m.top : Nat) : Int)])) t2 (.tup (vN R.t))) t3 = none → Q (.ref t3) (upd (upd (upd H3 t1 (.tup [.str wd, xv, .int ((R.t.length : Nat) : Int), .int ((R.m.words : Nat) : Int), .int ((R.m.top : Nat) : Int)])) t2 (.tup (vN R.t))) t3 (.tup [.ref t1, .ref t2])) := by
    intro H3 x xv wd e3 h1 h2 tx q1 hq1 q2 hq2 q3 hq3
    have eA := Ext.new (W := []) (o := .tup [.str wd, xv, .int ((R.t.length : Nat) : Int), .int ((R.m.words : Nat) : Int), .int ((R.m.top : Nat) : Int)]) hq1
    have eB := Ext.new (W := []) (o := .tup (vN R.t)) hq2
    have eC := Ext.new (W := []) (o := .tup [.ref q1, .ref q2]) hq3
    have eABC := (eA.trans eB).trans eC
    refine k _ _ ((e12.trans e3).trans eABC) ?_
    refine .tup (SqT.of upd_same) (.cons ?_ (.cons ?_ .nil))
    · unfold resD
      rw [← h1, ← h2]
      exact .tup ((eB.trans eC).sqt (SqT.of upd_same)) (.cons (.str _) (.cons (tx.keep eABC.keep0) (.cons (.int _) (.cons (.int _) (.cons (.int _) .nil)))))
    · exact .tup (eC.sqt (SqT.of upd_same)) (TDs.vN R.t)
  cases he : R.e with
  | ended =>
    refine iteT ?_
    obtain ⟨fi, hfi⟩ := List.mem_iff_getElem?.mp C.fm
    obtain ⟨fa, fxs, rfl, hfa, tf⟩ := (t2.keep e12.keep0).open_
    refine ⟨_, rfl, ca, _, _, _, rfl, rfl, e12.sqt hca, rfl, fa, rfl, ⟨_, hfa⟩, fun D hD => ?_⟩
    refine lcS (pick := pickF f.name) tf hfa hD (by have := C.co.n; omega) ?_ ?_
    · intro i x st H5 Q1 Q2 hx hst e5 kq1 kq2
      obtain ⟨st', hst', tst⟩ := TD.atV tf hx
      have : st = st' := Option.some.inj (hst.symm.trans hst')
      subst this
      obtain ⟨b, w1, w2, w3, w4, rfl, hb, s1, s2, s3, s4⟩ := (tst.keep e5.keep0).four
      cases s1.str_
      cases s3.str_
      refine ⟨rfl, _, rfl, b, _, _, _, rfl, rfl, hb, rfl, _, rfl, rfl, _, rfl, ?_⟩
      by_cases hn : st.name = f.name
      · rw [decide_eq_true (congrArg V.str hn)]
        refine iteT ?_
        exact ⟨_, rfl, b, _, _, _, rfl, rfl, hb, rfl, kq1 _ (by unfold pickF; rw [if_pos hn]) H5 (Ext.refl H5)⟩
      · rw [decide_eq_false (fun q => hn (V.str.inj q))]
        refine iteF ?_
        exact kq2 (by unfold pickF; rw [if_neg hn]) H5 (Ext.refl H5)
    intro H3 e3 hl3
    refine ⟨D, _, _, .str f.result, rfl, rfl, SqL.of hl3, ix_nat (i := 0) (pickF_at C.co C.fm), ?_⟩
    have hr0 := reg_ix (m := R.m) (r := 0) h8 (by omega)
    refine ⟨_, rfl, _, rfl, _, rfl, r, _, _, _, rfl, rfl, SqL.of (e3 _ _ grr (fun m => nomatch m)), hr0, _, rfl, rfl, c.ks, v1, p, R.m.heap, f.result, R.m.reg 0, rfl, t1.keep (e12.trans e3).keep0, C.co.ks, (C.co.fn f C.fm).kr, e3 _ _ gpp (fun m => nomatch m), fun H4 u e4 tu => ?_⟩
    have tu' : TD K H4 u (.tuple [.str (tW (told0 c.ks f.result R)), tV (told0 c.ks f.result R)]) := by
      rw [← eTEnd_eq]
      exact tu
    obtain ⟨ua, u1, u2, rfl, hua, n1, n2⟩ := tu'.two
    cases n1.str_
    have e34 := e3.trans e4
    have gt4 := e34 _ _ gt (fun m => nomatch m)
    refine ⟨ua, _, rfl, hua, rfl, _, _, rfl, _, _, rfl, rfl, ?_⟩
    refine ⟨_, rfl, _, rfl, _, rfl, tr, _, rfl, .inl (SqL.of gt4), ?_⟩
    rw [show (vN R.t).length = R.t.length by simp [vN]]
    refine ⟨_, rfl, _, rfl, by show 5 ≤ sizeLine; decide, fun q1 hq1 => ?_⟩
    refine ⟨_, rfl, tr, _, rfl, .inl ⟨SqL.of ((Ext.new (W := []) hq1) _ _ gt4 (fun m => nomatch m)), fun q2 hq2 => ⟨by show 2 ≤ sizeLine; decide, fun q3 hq3 => ?_⟩⟩⟩
    exact out H4 _ _ _ e34 (by unfold resW; rw [he]) (by unfold resV; rw [he]) n2 q1 hq1 q2 hq2 q3 hq3
  | fault =>
    refine iteF ?_
    refine ⟨_, rfl, _, rfl, _, rfl, tr, _, rfl, .inl (SqL.of gt), ?_⟩
    rw [show (vN R.t).length = R.t.length by simp [vN]]
    refine ⟨_, rfl, _, rfl, by show 5 ≤ sizeLine; decide, fun q1 hq1 => ?_⟩
    refine ⟨_, rfl, tr, _, rfl, .inl ⟨SqL.of ((Ext.new (W := []) hq1) _ _ gt (fun m => nomatch m)), fun q2 hq2 => ⟨by show 2 ≤ sizeLine; decide, fun q3 hq3 => ?_⟩⟩⟩
    exact out H2 .none .non "fault" (Ext.refl H2) (by unfold resW; rw [he]; rfl) (by unfold resV; rw [he]) .non q1 hq1 q2 hq2 q3 hq3
  | spent =>
    refine iteF ?_
    refine ⟨_, rfl, _, rfl, _, rfl, tr, _, rfl, .inl (SqL.of gt), ?_⟩
    rw [show (vN R.t).length = R.t.length by simp [vN]]
    refine ⟨_, rfl, _, rfl, by show 5 ≤ sizeLine; decide, fun q1 hq1 => ?_⟩
    refine ⟨_, rfl, tr, _, rfl, .inl ⟨SqL.of ((Ext.new (W := []) hq1) _ _ gt (fun m => nomatch m)), fun q2 hq2 => ⟨by show 2 ≤ sizeLine; decide, fun q3 hq3 => ?_⟩⟩⟩
    exact out H2 .none .non "spent" (Ext.refl H2) (by unfold resW; rw [he]; rfl) (by unfold resV; rw [he]) .non q1 hq1 q2 hq2 q3 hq3
end
end K47

set_option Elab.async false
set_option linter.all false
set_option maxRecDepth 100000
set_option maxHeartbeats 4000000
namespace K47
open PySem PySem.Spec PyProof.Rows L2
open C8 hiding CX0 E0
/-! the well -/
structure WAt (H : Hp) (w cl : Addr) (cs : List Int) (c i k : Nat) : Prop where
  w : H w = some (.lst [.int ((c : Nat) : Int), .int ((i : Nat) : Int), .ref cl, .int ((k : Nat) : Int)])
  cl : H cl = some (.lst (vI cs))
  n : cs.length ≤ 100
def Well (H : Hp) (w cl : Addr) (m : Nat) : Prop := ∃ cs c i k, WAt H w cl cs c i k ∧ i ≤ m ∧ k ≤ m
theorem WAt.ne {H : Hp} {w cl : Addr} {cs : List Int} {c i k : Nat} (a : WAt H w cl cs c i k) : cl ≠ w := fun q => by
  have h1 := a.cl
  rw [q, a.w] at h1
  have := HO.lst.inj (Option.some.inj h1)
  unfold vI at this
  have h2 := congrArg (fun l => l[2]?) this
  rw [List.getElem?_map] at h2
  cases q : cs[2]? with
  | none => rw [q] at h2; cases h2
  | some x => rw [q] at h2; cases h2
theorem Well.ext {H H' : Hp} {w cl : Addr} {m : Nat} (a : Well H w cl m) (e : Ext [] H H') : Well H' w cl m := by
  obtain ⟨cs, c, i, k, ⟨h1, h2, h3⟩, h4⟩ := a
  exact ⟨cs, c, i, k, ⟨e _ _ h1 (fun m => nomatch m), e _ _ h2 (fun m => nomatch m), h3⟩, h4⟩
theorem Well.mono {H : Hp} {w cl : Addr} {m m' : Nat} (a : Well H w cl m) (h : m ≤ m') : Well H w cl m' := by
  obtain ⟨cs, c, i, k, h1, h2, h3⟩ := a
  exact ⟨cs, c, i, k, h1, by omega, by omega⟩
theorem Well.ntup {H : Hp} {w cl : Addr} {m : Nat} (a : Well H w cl m) : ∀ b ∈ [w], ∀ xs, ¬ Rd H b (.tup xs) := by
  obtain ⟨cs, c, i, k, h1, h2, h3⟩ := a
  intro b hb
  cases List.mem_singleton.mp hb
  exact not_tup_lst h1.w
/-- an object that the well does not know is written -/
theorem Well.put {H : Hp} {w cl p : Addr} {m : Nat} {o : HO} (a : Well H w cl m) (h1 : p ≠ w) (h2 : p ≠ cl) : Well (upd H p o) w cl m := by
  obtain ⟨cs, c, i, k, ⟨g1, g2, g3⟩, h4⟩ := a
  exact ⟨cs, c, i, k, ⟨(upd_ne h1.symm).trans g1, (upd_ne h2.symm).trans g2, g3⟩, h4⟩
/-- what is new is none of the well's -/
theorem Well.new {H : Hp} {w cl p : Addr} {m : Nat} (a : Well H w cl m) (h : H p = none) : p ≠ w ∧ p ≠ cl := by
  obtain ⟨cs, c, i, k, ⟨g1, g2, g3⟩, h4⟩ := a
  exact ⟨(ne_of_none g1 h).symm, (ne_of_none g2 h).symm⟩
theorem Well.kt {H H' : Hp} {w cl : Addr} {m : Nat} (a : Well H w cl m) (e : Ext [w] H H') : KeepT H H' := e.keepT a.ntup
def r_well (K : PySem.W.Frag) : List V → Hp → VK → Prop := fun vs H Q => ∃ (a : Addr) (cs : List Int), vs = [.ref a] ∧ (SqL K H a (vI cs) ∨ SqT K H a (vI cs)) ∧ cs.length ≤ 100 ∧ ∀ H' w cl, Ext [] H H' → Well H' w cl 0 → H w = none → H cl = none → Q (.ref w) H'
/-- a draw's law -/
def r_draw : List V → Hp → VK → Prop := fun vs H Q => ∃ (w cl : Addr) (n m : Nat), vs = [.ref w, .int ((n : Nat) : Int)] ∧ Well H w cl m ∧ 1 ≤ n ∧ n ≤ 2000000000001 ∧ m ≤ 1000000000 ∧ ∀ H' (g : Nat), g < n → Ext [w] H H' → Well H' w cl (m + 1) → Q (.int ((g : Nat) : Int)) H'
section
variable {P : Program} {w : World} {K : PySem.W.Frag} {mg : Str → Option Value} {base : Heap}
abbrev N_law_well : List Str := ["_law_script"]
theorem sc_law_well : FnScope ["_law_script"] ["_law_script"] (defScope s_law_well) := ⟨rfl, rfl, rfl, by decide +kernel, rfl, by decide +kernel, by decide +kernel⟩
theorem c_law_well (T : Txt w K mg) : Cal P w K mg base 1 "_law_well" (spN 1 (r_well K)) [] := by
  obtain ⟨fd, F⟩ := T.f_law_well
  refine cal_mk F T.m_law_well (fun _ _ _ _ _ _ us hl => match us, hl with | [_], _ => rfl) sc_law_well (fun _ _ _ _ h => h.1) (fun cdv A outer s H vs Q E hr h => ?_)
  have hu := hu_of hr
  have hul := hul_of hr
  obtain ⟨_, a, cs, rfl, hs, hn, k⟩ := h
  refine ⟨_, (pss_one (ps_ret (pe_lst (pa_cons (pe_int) (pa_cons (pe_int) (pa_cons (pe_callTy call_list_of (by rfl) T.b_list bt_list (pa_cons (pv 0) pa_nil)) (pa_cons (pe_int) pa_nil))))))), ?_⟩
  refine ⟨_, rfl, a, _, rfl, hs, fun cl hcl => ⟨by show 4 ≤ sizeLine; decide, fun w0 hw0 => ?_⟩⟩
  have e1 : Ext [] H (upd H cl (.lst (vI cs))) := Ext.new hcl
  have e2 : Ext [] (upd H cl (.lst (vI cs))) (upd (upd H cl (.lst (vI cs))) w0 (.lst [.int 0, .int 0, .ref cl, .int 0])) := Ext.new hw0
  exact k _ w0 cl (e1.trans e2) ⟨cs, 0, 0, 0, ⟨upd_same, e2 _ _ upd_same (fun m => nomatch m), hn⟩, Nat.le_refl _, Nat.le_refl _⟩ (e1.free hw0 (fun m => nomatch m)) hcl
abbrev N_law_draw : List Str := ["_law_well_here", "_law_many", "_law_cells", "_law_cell", "_law_got"]
theorem sc_law_draw : FnScope ["_law_well_here", "_law_many", "_law_cells", "_law_cell", "_law_got"] ["_law_well_here", "_law_many"] (defScope s_law_draw) := ⟨rfl, rfl, rfl, by decide +kernel, rfl, by decide +kernel, by decide +kernel⟩
theorem c_law_draw (T : Txt w K mg) : Cal P w K mg base 1 "_law_draw" (spN 2 (r_draw)) [] := by
  obtain ⟨fd, F⟩ := T.f_law_draw
  refine cal_mk F T.m_law_draw (fun _ _ _ _ _ _ us hl => match us, hl with | [_, _], _ => rfl) sc_law_draw (fun _ _ _ _ h => h.1) (fun cdv A outer s H vs Q E hr h => ?_)
  have hu := hu_of hr
  have hul := hul_of hr
  obtain ⟨_, w0, cl, n, m, rfl, ⟨cs, c, i, j, W, him, hjm⟩, hn1, hn2, hm, k⟩ := h
  have ncw := W.ne
  refine ⟨_, (pss_cons (ps_set (i := 2) sc_law_draw.nd rfl (by first | exact Or.inl rfl | exact Or.inr rfl) (pe_ix (ix_listK (K := K) rfl) (pv 0) (pe_int) (fun _ _ => rfl)))
      (pss_cut (ps_if (pt_cmpR op_eq (pe_ix (ix_listK (K := K) rfl) (pv 0) (pe_int) (fun _ _ => rfl)) (pe_int) (nomark _)) (pss_cons (ps_set (i := 3) sc_law_draw.nd rfl (by first | exact Or.inl rfl | exact Or.inr rfl) (pe_int))
      (pss_cut (ps_if (pt_cmpR op_lt (pe_ix (ix_listK (K := K) rfl) (pv 0) (pe_int) (fun _ _ => rfl)) (pe_callB (call_lenK (K := K) rfl) (by rfl) T.b_len bt_len (pa_cons (pv 2) pa_nil)) (nomark _)) (pss_one (ps_set (i := 3) sc_law_draw.nd rfl (by first | exact Or.inl rfl | exact Or.inr rfl) (pe_callB call_abs (by rfl) T.b_abs bt_abs (pa_cons (pe_ix (ix_listK (K := K) rfl) (pv 2) (pe_ix (ix_listK (K := K) rfl) (pv 0) (pe_int) (fun _ _ => rfl)) (fun _ _ => rfl)) pa_nil)))) (pss_nil))
      (pss_cut (ps_if (pt_cmpR op_lt (pv 3) (pe_op op_pow (pe_int) (pe_int)) (nomark _)) (pss_cut (ps_set (i := 3) sc_law_draw.nd rfl (by first | exact Or.inl rfl | exact Or.inr rfl) (pe_op op_add (pe_op op_add (pe_op op_add (pe_op op_mul (pv 3) (pe_int)) (pe_op op_mul (pe_ix (ix_listK (K := K) rfl) (pv 0) (pe_int) (fun _ _ => rfl)) (pe_int))) (pe_int)) (pe_op op_mul (pe_ix (ix_listK (K := K) rfl) (pv 0) (pe_int) (fun _ _ => rfl)) (pe_int))))
      (pss_one (ps_set (i := 3) sc_law_draw.nd rfl (by first | exact Or.inl rfl | exact Or.inr rfl) (pe_op op_add (pe_op op_mul (pe_op op_fdiv (pe_op op_mulW (pv 3) (pv 3)) (pe_int)) (pe_int)) (pv 3))))) (pss_nil))
      (pss_cons (ps_asg (pv 3) (pg_sub (pv 0) (pe_int) set_list))
      (pss_cons (ps_augS (pv 0) (pe_int) pget_list (pe_int) ip_add set_list)
      (pss_one (ps_augS (pv 0) (pe_int) pget_list (pe_int) ip_add set_list))))))) (pss_nil))
      (pss_cons (ps_set (i := 4) sc_law_draw.nd rfl (by first | exact Or.inl rfl | exact Or.inr rfl) (pe_op op_mod (pe_callTy call_int1 (by rfl) T.b_int bt_int (pa_cons (pe_ix (ix_listK (K := K) rfl) (pv 0) (pe_int) (fun _ _ => rfl)) pa_nil)) (pv 1)))
      (pss_cons (ps_asg (pe_op op_fdivW (pe_ix (ix_listK (K := K) rfl) (pv 0) (pe_int) (fun _ _ => rfl)) (pv 1)) (pg_sub (pv 0) (pe_int) set_list))
      (pss_one (ps_ret (pv 4))))))), ?_⟩
  refine ⟨_, rfl, w0, _, _, _, rfl, rfl, SqL.of W.w, rfl, ?_⟩
  refine ⟨fun σ' H' => ∃ (y3 y4 : Option V) (c' i' j' : Nat), σ' = [some (.ref w0), some (.int ((n : Nat) : Int)), some (.ref cl), y3, y4] ∧ Ext [w0] H H' ∧ WAt H' w0 cl cs c' i' j' ∧ i' ≤ m + 1 ∧ j' ≤ m + 1, ?_, ?_⟩
  · refine ⟨_, rfl, w0, _, _, _, rfl, rfl, SqL.of W.w, rfl, rfl, _, rfl, ?_⟩
    by_cases hc : c = 0
    rotate_left
    · rw [dneq (by omega)]
      exact iteF ⟨_, _, c, i, j, rfl, Ext.refl H, W, by omega, by omega⟩
    rw [decide_eq_true (by rw [hc]; rfl)]
    refine iteT ⟨fun σ' H' => ∃ (y4 : Option V) (ce : Nat), σ' = [some (.ref w0), some (.int ((n : Nat) : Int)), some (.ref cl), some (.int ((ce : Nat) : Int)), y4] ∧ H = H', ?_, ?_⟩
    · refine ⟨_, rfl, w0, _, _, _, rfl, rfl, SqL.of W.w, rfl, _, rfl, cl, _, rfl, .inl (SqL.of W.cl), _, _, rfl, rfl, _, rfl, ?_⟩
      rw [vI_len]
      by_cases h1 : ((i : Nat) : Int) < ((cs.length : Nat) : Int)
      · rw [decide_eq_true h1]
        have hx : (vI cs)[i]? = some (.int (cs[i]'(by omega))) := vI_at (List.getElem?_eq_getElem _)
        refine iteT ⟨_, rfl, _, rfl, w0, _, _, _, rfl, rfl, SqL.of W.w, rfl, cl, _, _, _, rfl, rfl, SqL.of W.cl, ix_nat hx, _, rfl, ?_⟩
        refine ⟨none, (cs[i]'(by omega)).natAbs, ?_, rfl⟩
        generalize cs[i]'(by omega) = z
        have : (if z < 0 then -z else z) = ((z.natAbs : Nat) : Int) := by split <;> omega
        rw [this]
        rfl
      · rw [decide_eq_false h1]
        exact iteF ⟨_, 7, rfl, rfl⟩
    rintro σ' H' ⟨y4, ce, rfl, rfl⟩
    refine ⟨fun σ' H' => ∃ (y4 : Option V) (ce : Nat), σ' = [some (.ref w0), some (.int ((n : Nat) : Int)), some (.ref cl), some (.int ((ce : Nat) : Int)), y4] ∧ H = H', ?_, ?_⟩
    · refine ⟨_, rfl, 10, 18, rfl, rfl, ⟨by omega, by omega, by omega⟩, ?_⟩
      obtain ⟨B, hB, e18⟩ : ∃ B : Int, B ≤ 2 ^ 60 ∧ ((fun i j : Int => V.int (i ^ j.toNat)) 10 18) = V.int B := ⟨1000000000000000000, by decide +kernel, by decide +kernel⟩
      rw [e18]
      refine ⟨_, _, rfl, rfl, _, rfl, ?_⟩
      by_cases h1 : ((ce : Nat) : Int) < B
      rotate_left
      · rw [decide_eq_false h1]
        exact iteF ⟨_, ce, rfl, rfl⟩
      rw [decide_eq_true h1]
      refine iteT ⟨fun σ' H' => ∃ (y4 : Option V) (ce : Nat), σ' = [some (.ref w0), some (.int ((n : Nat) : Int)), some (.ref cl), some (.int ((ce : Nat) : Int)), y4] ∧ H = H' ∧ ce < 2 ^ 100, ?_, ?_⟩
      · refine ⟨_, rfl, _, _, rfl, rfl, .inr ⟨by decide, by decide⟩, _, rfl, w0, _, _, _, rfl, rfl, SqL.of W.w, rfl, _, _, rfl, rfl, .inr ⟨by decide, by decide⟩, _, _, rfl, rfl, _, _, rfl, rfl, _, rfl, w0, _, _, _, rfl, rfl, SqL.of W.w, rfl, _, _, rfl, rfl, .inr ⟨by decide, by decide⟩, _, _, rfl, rfl, ?_⟩
        refine ⟨y4, ce * 1000003 + i * 7919 + 12347 + j * 613, ?_, rfl, by omega⟩
        have e : ((ce * 1000003 + i * 7919 + 12347 + j * 613 : Nat) : Int) = ((ce : Nat) : Int) * 1000003 + ((i : Nat) : Int) * 7919 + 12347 + ((j : Nat) : Int) * 613 := by omega
        rw [e]
        rfl
      rintro σ' H' ⟨y4, ce, rfl, rfl, hce⟩
      refine ⟨_, rfl, _, rfl, _, _, rfl, rfl, wide_mul (a := 100) (b := 100) (by simpa using hce) (by simpa using hce) (by decide) (by decide) (by decide), _, _, rfl, rfl, ⟨by decide, by decide⟩, _, _, rfl, rfl, .inr ⟨by decide, by decide⟩, _, rfl, _, _, rfl, rfl, ?_⟩
      exact ⟨_, ce * ce / 97 * 48271 + ce, rfl, rfl⟩
    rintro σ' H' ⟨y4, ce, rfl, rfl⟩
    refine ⟨_, rfl, _, rfl, w0, _, _, 0, rfl, rfl, W.w, rfl, ?_⟩
    have W1 : WAt (upd H w0 (.lst [.int ((ce : Nat) : Int), .int ((i : Nat) : Int), .ref cl, .int ((j : Nat) : Int)])) w0 cl cs ce i j := ⟨upd_same, (upd_ne ncw).trans W.cl, W.n⟩
    have e1 : Ext [w0] H (upd H w0 (.lst [.int ((ce : Nat) : Int), .int ((i : Nat) : Int), .ref cl, .int ((j : Nat) : Int)])) := Ext.put (by simp)
    refine ⟨_, rfl, w0, _, 1, _, rfl, rfl, SqL.of upd_same, rfl, by decide, by decide, _, _, rfl, rfl, w0, _, _, 1, rfl, rfl, upd_same, rfl, ?_⟩
    refine ⟨_, rfl, w0, _, 3, _, rfl, rfl, SqL.of upd_same, rfl, by decide, by decide, _, _, rfl, rfl, w0, _, _, 3, rfl, rfl, upd_same, rfl, ?_⟩
    refine ⟨_, _, ce, i + 1, j + 1, rfl, (e1.trans (Ext.put (by simp))).trans (Ext.put (by simp)), ⟨upd_same, ?_, W.n⟩, by omega, by omega⟩
    rw [upd_ne ncw, upd_ne ncw, upd_ne ncw]
    exact W.cl
  · rintro σ' H1 ⟨y3, y4, c', i', j', rfl, e1, W1, hi1, hj1⟩
    refine ⟨_, rfl, w0, _, _, _, rfl, rfl, SqL.of W1.w, rfl, .inl ⟨_, rfl, _, rfl, _, _, rfl, rfl, by omega, ?_⟩⟩
    refine ⟨_, rfl, w0, _, _, _, rfl, rfl, SqL.of W1.w, rfl, _, rfl, _, _, rfl, rfl, ⟨by omega, ?_⟩, _, rfl, w0, _, _, 0, rfl, rfl, W1.w, rfl, ?_⟩
    · have h2 : ((n : Nat) : Int).natAbs < 2 ^ 60 := by
        have : (2 : Nat) ^ 60 = 1152921504606846976 := by decide
        omega
      have h3 := PySem.Flt.log2_lt_of (by decide) h2
      omega
    refine ⟨_, rfl, ?_⟩
    refine k _ (c' % n) (Nat.mod_lt _ hn1) (e1.trans (Ext.put (by simp))) ⟨cs, c' / n, i', j', ⟨upd_same, (upd_ne ncw).trans W1.cl, W1.n⟩, hi1, hj1⟩
end
end K47

set_option Elab.async false
set_option linter.all false
set_option maxRecDepth 100000
set_option maxHeartbeats 4000000
namespace K47
open PySem PySem.Spec PyProof.Rows L2
open C8 hiding CX0 E0
/-! drawn names -/
def s_signs : Str := "abcdefghijklmnopqrstuvwxyzABCDEFGHIJKLMNOPQRSTUVWXYZ0123456789"
def good (c : Nat) : Bool := isLet c || isDig c
structure NmP (n : Nat) (x : Str) : Prop where
  len : x.cps.toList.length ≤ n
  hd : ∃ c r, x.cps.toList = c :: r ∧ isSma c = true
  all : ∀ c ∈ x.cps.toList, good c = true
theorem sma_let {c : Nat} (h : isSma c = true) : isLet c = true := by
  have : ∀ c ∈ s_small.cps.toList, isLet c = true := by decide +kernel
  exact this c (of_decide_eq_true h)
theorem sign26 {g : Nat} (h : g < 26) : ∃ c, s_signs.cps.toList[g]? = some c ∧ isSma c = true := by
  have h1 : ∀ g, g < 26 → (s_signs.cps.toList[g]?).any isSma = true := by decide +kernel
  have h2 := h1 g h
  cases q : s_signs.cps.toList[g]? with
  | none => rw [q] at h2; cases h2
  | some c => rw [q] at h2; exact ⟨c, rfl, h2⟩
theorem sign62 {g : Nat} (h : g < 62) : ∃ c, s_signs.cps.toList[g]? = some c ∧ good c = true := by
  have h1 : ∀ g, g < 62 → (s_signs.cps.toList[g]?).any good = true := by decide +kernel
  have h2 := h1 g h
  cases q : s_signs.cps.toList[g]? with
  | none => rw [q] at h2; cases h2
  | some c => rw [q] at h2; exact ⟨c, rfl, h2⟩
theorem good_sma {c : Nat} (h : isSma c = true) : good c = true := by unfold good; rw [sma_let h]; rfl
theorem app_cps (a b : Str) : (a ++ b).cps.toList = a.cps.toList ++ b.cps.toList := by
  show (a.cps ++ b.cps).toList = _
  simp
theorem NmP.one {c : Nat} (h : isSma c = true) : NmP 1 ⟨#[c]⟩ := ⟨by simp, ⟨c, [], rfl, h⟩, fun d hd => by simp at hd; rw [hd]; exact good_sma h⟩
theorem NmP.app {n : Nat} {x : Str} {c : Nat} (a : NmP n x) (h : good c = true) : NmP (n + 1) (x ++ ⟨#[c]⟩) := by
  obtain ⟨a1, ⟨d, r, a2, a3⟩, a4⟩ := a
  refine ⟨?_, ⟨d, r ++ [c], ?_, a3⟩, ?_⟩
  · rw [app_cps, List.length_append]
    exact Nat.add_le_add_right a1 1
  · rw [app_cps, a2]
    rfl
  · rw [app_cps]
    intro e he
    rcases List.mem_append.mp he with q | q
    · exact a4 e q
    · simp at q
      rw [q]
      exact h
theorem NmP.mono {n k : Nat} {x : Str} (a : NmP n x) (h : n ≤ k) : NmP k x := ⟨Nat.le_trans a.len h, a.hd, a.all⟩
theorem NmP.pos {n : Nat} {x : Str} (a : NmP n x) : 1 ≤ x.cps.toList.length := by
  obtain ⟨c, r, h, _⟩ := a.hd
  rw [h]
  simp
theorem slen (x : Str) : x.length = x.cps.toList.length := len_eq x
theorem cut_to {x : Str} {p : Nat} (h : p ≤ x.cps.toList.length) : (cutS x none (some ((p : Nat) : Int))).cps.toList = x.cps.toList.take p := by
  unfold cutS
  rw [HT.sIx_none, HT.sIx_nat, slen, Nat.min_eq_left h]
  simp
theorem cut_from {x : Str} {p : Nat} (h : p ≤ x.cps.toList.length) : (cutS x (some ((p : Nat) : Int)) none).cps.toList = x.cps.toList.drop p := by
  unfold cutS
  rw [HT.sIx_none, HT.sIx_nat, slen, Nat.min_eq_left h]
  show List.take _ _ = _
  rw [List.take_of_length_le (by rw [List.length_drop]; omega)]
theorem cut_to' {x : Str} {p : Nat} (h : x.cps.toList.length ≤ p) : (cutS x none (some ((p : Nat) : Int))).cps.toList = x.cps.toList := by
  unfold cutS
  rw [HT.sIx_none, HT.sIx_nat, slen, Nat.min_eq_right h]
  show List.take _ (List.drop 0 _) = _
  rw [List.drop_zero, Nat.sub_zero, List.take_length]
theorem NmP.ins {x : Str} {c p : Nat} (a : NmP 9 x) (hc : isSma c = true) (hp : p ≤ x.cps.toList.length) : NmP 10 (cutS x none (some ((p : Nat) : Int)) ++ ⟨#[c]⟩ ++ cutS x (some ((p : Nat) : Int)) none) := by
  obtain ⟨a1, ⟨d, r, a2, a3⟩, a4⟩ := a
  have e : (cutS x none (some ((p : Nat) : Int)) ++ ⟨#[c]⟩ ++ cutS x (some ((p : Nat) : Int)) none).cps.toList = x.cps.toList.take p ++ [c] ++ x.cps.toList.drop p := by
    rw [app_cps, app_cps, cut_to hp, cut_from hp]
  refine ⟨?_, ?_, ?_⟩
  · rw [e, List.length_append, List.length_append, List.length_take, List.length_drop]
    simp only [List.length_cons, List.length_nil]
    omega
  · rw [e]
    cases p with
    | zero => exact ⟨c, _, rfl, hc⟩
    | succ p =>
      rw [a2]
      exact ⟨d, _, rfl, a3⟩
  · rw [e]
    intro z hz
    rcases List.mem_append.mp hz with q | q
    · rcases List.mem_append.mp q with q | q
      · exact a4 z (List.mem_of_mem_take q)
      · simp at q
        rw [q]
        exact good_sma hc
    · exact a4 z (List.mem_of_mem_drop q)
def dig (k : Nat) : Str := toString ((10 : Int) + ((k : Nat) : Int))
theorem dig_ok {k : Nat} (h : k < 40) : ∃ a b, (dig k).cps.toList = [a, b] ∧ isDig a = true ∧ isDig b = true ∧ k = (a - 48) * 10 + (b - 48) - 10 := by
  have h1 : ∀ k, k < 40 → (match (dig k).cps.toList with | [a, b] => isDig a && isDig b && decide (k = (a - 48) * 10 + (b - 48) - 10) | _ => false) = true := by decide +kernel
  have h2 := h1 k h
  split at h2
  · rename_i a b q
    simp only [Bool.and_eq_true, decide_eq_true_eq] at h2
    exact ⟨a, b, q, h2.1.1, h2.1.2, h2.2⟩
  · cases h2
def candS (x : Str) (k : Nat) : Str := cutS x none (some ((8 : Nat) : Int)) ++ dig k
theorem cut8 (x : Str) : (cutS x none (some ((8 : Nat) : Int))).cps.toList = x.cps.toList.take 8 := by
  rcases Nat.le_total 8 x.cps.toList.length with h | h
  · exact cut_to h
  · rw [cut_to' h, List.take_of_length_le h]
theorem candS_ok {x : Str} {k : Nat} (a : NmP 10 x) (h : k < 40) : NmP 10 (candS x k) ∧ candS x k ∉ l_WORDS := by
  obtain ⟨a1, ⟨d, r, a2, a3⟩, a4⟩ := a
  obtain ⟨u, v, q1, q2, q3, q4⟩ := dig_ok h
  have e : (candS x k).cps.toList = x.cps.toList.take 8 ++ [u, v] := by
    unfold candS
    rw [app_cps, cut8, q1]
  refine ⟨⟨?_, ?_, ?_⟩, ?_⟩
  · rw [e, List.length_append, List.length_take]
    simp only [List.length_cons, List.length_nil]
    omega
  · rw [e, a2]
    exact ⟨d, _, rfl, a3⟩
  · rw [e]
    intro z hz
    rcases List.mem_append.mp hz with q | q
    · exact a4 z (List.mem_of_mem_take q)
    · simp at q
      unfold good
      rcases q with rfl | rfl
      · rw [q2, Bool.or_true]
      · rw [q3, Bool.or_true]
  · intro hm
    have h1 : ∀ y ∈ l_WORDS, ∀ c ∈ y.cps.toList, isDig c = false := by decide +kernel
    have := h1 _ hm u (by rw [e]; simp)
    rw [q2] at this
    cases this
theorem candS_inj {x : Str} {j k : Nat} (hj : j < 40) (hk : k < 40) (h : candS x j = candS x k) : j = k := by
  obtain ⟨u, v, q1, _, _, q4⟩ := dig_ok hj
  obtain ⟨u', v', p1, _, _, p4⟩ := dig_ok hk
  have e := congrArg (fun s : Str => s.cps.toList) h
  simp only [candS, app_cps, q1, p1] at e
  have e2 := List.append_cancel_left e
  cases e2
  omega
def cands (x : Str) : List Str := (List.range 40).map (candS x)
theorem cands_nd (x : Str) : (cands x).Nodup := by
  unfold cands
  rw [List.nodup_iff_pairwise_ne, List.pairwise_map]
  refine List.Pairwise.imp_of_mem ?_ (List.nodup_iff_pairwise_ne.mp List.nodup_range)
  intro a b ha hb hne q
  exact hne (candS_inj (List.mem_range.mp ha) (List.mem_range.mp hb) q)
theorem nodup_sub {α : Type} [DecidableEq α] : ∀ {l m : List α}, l.Nodup → (∀ x ∈ l, x ∈ m) → l.length ≤ m.length
  | [], m, _, _ => Nat.zero_le _
  | a :: l, m, nd, h => by
    rw [List.nodup_cons] at nd
    have ha := h a List.mem_cons_self
    have ih := nodup_sub (m := m.erase a) nd.2 fun x hx => (List.mem_erase_of_ne (fun q => nd.1 (by rw [← q]; exact hx))).mpr (h x (List.mem_cons_of_mem _ hx))
    rw [List.length_erase_of_mem ha] at ih
    have : 0 < m.length := List.length_pos_of_mem ha
    simp only [List.length_cons]
    omega
/-- a free candidate -/
theorem cand_ex {x : Str} {ns : List Str} (h : ns.length < 40) : ∃ y r, (cands x).filter (fun z => !decide (z ∈ ns)) = y :: r ∧ y ∈ cands x ∧ y ∉ ns := by
  cases q : (cands x).filter (fun z => !decide (z ∈ ns)) with
  | nil =>
    have h1 : ∀ z ∈ cands x, z ∈ ns := fun z hz => by
      have := List.filter_eq_nil_iff.mp q z hz
      simpa using this
    have := nodup_sub (cands_nd x) h1
    simp [cands] at this
    omega
  | cons y r =>
    have hm : y ∈ (cands x).filter (fun z => !decide (z ∈ ns)) := by rw [q]; exact List.mem_cons_self
    rw [List.mem_filter] at hm
    exact ⟨y, r, rfl, hm.1, by simpa using hm.2⟩
theorem lowB_of {x : Str} (a : NmP 10 x) (h : x ∉ l_WORDS) : lowB x = true := by
  obtain ⟨a1, ⟨d, r, a2, a3⟩, a4⟩ := a
  have hn : nameB x = true := by
    unfold nameB
    rw [inV_strs, slen, decide_eq_true (show 1 ≤ x.cps.toList.length by rw [a2]; simp), decide_eq_true a1, decide_eq_false h, a2]
    rw [a2] at a4
    have e2 : (d :: r).all (fun c => isLet c || isDig c) = true := List.all_eq_true.mpr a4
    rw [e2]
    simp [sma_let a3]
  unfold lowB
  rw [hn, a2]
  simp [a3]
end K47

set_option Elab.async false
set_option linter.all false
set_option maxRecDepth 100000
set_option maxHeartbeats 4000000
namespace K47
open PySem PySem.Spec PyProof.Rows L2
open C8 hiding CX0 E0
def r_names (K : PySem.W.Frag) : List V → Hp → VK → Prop := fun vs H Q => ∃ (w cl : Addr) (n m : Nat), vs = [.ref w, .int ((n : Nat) : Int)] ∧ Well H w cl m ∧ n ≤ 30 ∧ m ≤ 900000000 ∧ ∀ H' l (ns : List Str), Ext [w] H H' → Well H' w cl (m + 400) → H l = none → H' l = some (.lst (ns.map V.str)) → ns.length = n → ns.Nodup → (∀ x ∈ ns, lowB x = true) → Q (.ref l) H'
section
variable {P : Program} {w : World} {K : PySem.W.Frag} {mg : Str → Option Value} {base : Heap}
/-- one sign more -/
theorem sz1000 {x : Str} {n : Nat} (a : NmP n x) (h : n ≤ 1000) : x.length ≤ 1000 := by
  rw [slen]
  exact Nat.le_trans a.len h
theorem cutS_len (z : Str) (lo hi : Option Int) : (cutS z lo hi).length ≤ z.length := by
  rw [slen, slen]
  unfold cutS
  show (List.take _ (List.drop _ _)).length ≤ _
  rw [List.length_take, List.length_drop]
  omega
theorem signs_len : s_signs.length ≤ sizeLine := by decide +kernel
abbrev N_law_names : List Str := ["_law_well_here", "_law_many", "_law_signs", "_law_stem", "_law_place", "_law_k", "_law_names_here", "_law_turn_here", "_law_name", "_law_other"]
theorem sc_law_names : FnScope ["_law_well_here", "_law_many", "_law_signs", "_law_stem", "_law_place", "_law_k", "_law_names_here", "_law_turn_here", "_law_name", "_law_other"] ["_law_well_here", "_law_many"] (defScope s_law_names) := ⟨rfl, rfl, rfl, by decide +kernel, rfl, by decide +kernel, by decide +kernel⟩
theorem c_law_names (T : Txt w K mg) : Cal P w K mg base 2 "_law_names" (spN 2 (r_names K)) [] := by
  obtain ⟨fd, F⟩ := T.f_law_names
  refine cal_mk F T.m_law_names (fun _ _ _ _ _ _ us hl => match us, hl with | [_, _], _ => rfl) sc_law_names (fun _ _ _ _ h => h.1) (fun cdv A outer s H vs Q E hr h => ?_)
  have hu := hu_of hr
  have hul := hul_of hr
  obtain ⟨_, w0, w1, n, m, rfl, W, hn, hm, k⟩ := h
  refine ⟨_, (pss_cons (ps_set (i := 2) sc_law_names.nd rfl (by first | exact Or.inl rfl | exact Or.inr rfl) (pe_str))
      (pss_cons (ps_set (i := 3) sc_law_names.nd rfl (by first | exact Or.inl rfl | exact Or.inr rfl) (pe_str))
      (pss_cons (ps_set (i := 4) sc_law_names.nd rfl (by first | exact Or.inl rfl | exact Or.inr rfl) (pe_un un_neg (pe_int)))
      (pss_cut (ps_if (pt_cmpR op_eq (pe_c (c_law_draw T) hr (by decide) (by rfl) (pa_cons (pv 0) (pa_cons (pe_int) pa_nil))) (pe_int) (nomark _)) (pss_cons (ps_set (i := 3) sc_law_names.nd rfl (by first | exact Or.inl rfl | exact Or.inr rfl) (pe_ix ix_str (pv 2) (pe_c (c_law_draw T) hr (by decide) (by rfl) (pa_cons (pv 0) (pa_cons (pe_int) pa_nil))) (fun _ _ => rfl)))
      (pss_cons (ps_for PassesOwn.never rfl (pi_range1 (by rfl) T.b_range (pa_cons (pe_c (c_law_draw T) hr (by decide) (by rfl) (pa_cons (pv 0) (pa_cons (pe_int) pa_nil))) pa_nil)) (pg_name (i := 5) sc_law_names.nd rfl (by first | exact Or.inl rfl | exact Or.inr rfl))
        (pss_one (ps_set (i := 3) sc_law_names.nd rfl (by first | exact Or.inl rfl | exact Or.inr rfl) (pe_op op_add_str (pv 3) (pe_ix ix_str (pv 2) (pe_c (c_law_draw T) hr (by decide) (by rfl) (pa_cons (pv 0) (pa_cons (pe_int) pa_nil))) (fun _ _ => rfl))))))
      (pss_one (ps_set (i := 4) sc_law_names.nd rfl (by first | exact Or.inl rfl | exact Or.inr rfl) (pe_c (c_law_draw T) hr (by decide) (by rfl) (pa_cons (pv 0) (pa_cons (pe_op op_add (pe_callB call_len_str (by rfl) T.b_len bt_len (pa_cons (pv 3) pa_nil)) (pe_int)) pa_nil))))))) (pss_nil))
      (pss_cons (ps_set (i := 6) sc_law_names.nd rfl (by first | exact Or.inl rfl | exact Or.inr rfl) (pe_lst (pa_nil)))
      (pss_cons (ps_for PassesOwn.never rfl (pi_range1 (by rfl) T.b_range (pa_cons (pv 1) pa_nil)) (pg_name (i := 7) sc_law_names.nd rfl (by first | exact Or.inl rfl | exact Or.inr rfl))
        (pss_cons (ps_set (i := 8) sc_law_names.nd rfl (by first | exact Or.inl rfl | exact Or.inr rfl) (pe_ix ix_str (pv 2) (pe_c (c_law_draw T) hr (by decide) (by rfl) (pa_cons (pv 0) (pa_cons (pe_int) pa_nil))) (fun _ _ => rfl)))
      (pss_cut (ps_if (pt_cmpR op_ge (pv 4) (pe_int) (nomark _)) (pss_one (ps_set (i := 8) sc_law_names.nd rfl (by first | exact Or.inl rfl | exact Or.inr rfl) (pe_op op_add_str (pe_op op_add_str (pe_slice sl_str (pv 3) po_none (po_some (pv 4))) (pv 8)) (pe_slice sl_str (pv 3) (po_some (pv 4)) po_none)))) (pss_one (ps_for PassesOwn.never rfl (pi_range1 (by rfl) T.b_range (pa_cons (pe_c (c_law_draw T) hr (by decide) (by rfl) (pa_cons (pv 0) (pa_cons (pe_int) pa_nil))) pa_nil)) (pg_name (i := 5) sc_law_names.nd rfl (by first | exact Or.inl rfl | exact Or.inr rfl))
        (pss_one (ps_set (i := 8) sc_law_names.nd rfl (by first | exact Or.inl rfl | exact Or.inr rfl) (pe_op op_add_str (pv 8) (pe_ix ix_str (pv 2) (pe_c (c_law_draw T) hr (by decide) (by rfl) (pa_cons (pv 0) (pa_cons (pe_int) pa_nil))) (fun _ _ => rfl))))))))
      (pss_cut (ps_if (PW.pt (pw_or (pt_cmpR (op_inK (K := K) rfl) (pv 8) (pv 6) (by rfl)) (pw_or1 (pt_cmpR (op_inK (K := K) rfl) (pv 8) (pe_tup (pa_cons (pe_str) (pa_cons (pe_str) (pa_cons (pe_str) (pa_cons (pe_str) (pa_cons (pe_str) (pa_cons (pe_str) (pa_cons (pe_str) (pa_cons (pe_str) pa_nil))))))))) (by rfl))))) (pss_one (ps_set (i := 8) sc_law_names.nd rfl (by first | exact Or.inl rfl | exact Or.inr rfl) (pe_ix (ix_listK (K := K) rfl) (pe_lc (own := [("_law_other", 9)]) rfl sc_law_names.nd (pi_list (pe_lc (own := [("_law_k", 5)]) rfl sc_law_names.nd (pi_range1 (by rfl) T.b_range (pa_cons (pe_int) pa_nil)) (blkOk_by (N := N_law_names) (sc := defScope s_law_names) (by decide +kernel)) (fun _ _ _ _ _ => pg_name (i := 5) sc_law_names.nd rfl (by first | exact Or.inl rfl | exact Or.inr rfl)) (fun _ _ _ _ _ => pts_nil) (fun _ _ _ _ _ => pe_op op_add_str (pe_slice sl_str (pv 8) po_none (po_some (pe_int))) (pe_callTy call_str_int (by rfl) T.b_str bt_str (pa_cons (pe_op op_add (pe_int) (pv 5)) pa_nil))))) (blkOk_by (N := N_law_names) (sc := defScope s_law_names) (by decide +kernel)) (fun _ _ _ _ _ => pg_name (i := 9) sc_law_names.nd rfl (by first | exact Or.inl rfl | exact Or.inr rfl)) (fun _ _ _ _ _ => pts_one (pt_cmpR (op_notInK (K := K) rfl) (pv 9) (pv 6) (by rfl))) (fun _ _ _ _ _ => pv 9)) (pe_int) (fun _ _ => rfl)))) (pss_nil))
      (pss_one (ps_expr (pe_bm PySem.F.plainAttrs_list PySem.F.slot_list_append PySem.F.type_list_append mt_append (pv 6) (pa_cons (pv 8) pa_nil))))))))
      (pss_one (ps_ret (pv 6))))))))), ?_⟩
  refine ⟨1, rfl, ?_⟩
  refine ⟨fun σ' H' => ∃ (stem : Str) (place : Int) (y5 y6 y7 y8 y9 : Option V), σ' = [some (.ref w0), some (.int ((n : Nat) : Int)), some (.str s_signs), some (.str stem), some (.int place), y5, y6, y7, y8, y9] ∧ Ext [w0] H H' ∧ Well H' w0 w1 (m + 12) ∧
      (place < 0 ∨ (NmP 9 stem ∧ ∃ p : Nat, place = ((p : Nat) : Int) ∧ p ≤ stem.cps.toList.length)), ?_, ?_⟩
  · refine ⟨_, rfl, rfl, w0, w1, 2, m, rfl, W, by omega, by omega, by omega, fun H1 g hg e1 W1 => ⟨rfl, _, rfl, ?_⟩⟩
    by_cases hg0 : g = 0
    rotate_left
    · rw [dneq (by omega)]
      exact iteF ⟨_, _, none, none, none, none, none, rfl, e1, W1.mono (by omega), .inl (by decide)⟩
    rw [decide_eq_true (by rw [hg0]; rfl)]
    refine iteT ⟨_, rfl, _, rfl, rfl, w0, w1, 26, m + 1, rfl, W1, by omega, by omega, by omega, fun H2 g2 hg2 e2 W2 => ?_⟩
    obtain ⟨c, hc, hs⟩ := sign26 hg2
    refine ⟨s_signs, ((g2 : Nat) : Int), c, rfl, rfl, signs_len, ix_nat hc, ?_⟩
    refine ⟨_, rfl, rfl, w0, w1, 9, m + 1 + 1, rfl, W2, by omega, by omega, by omega, fun H3 g3 hg3 e3 W3 => ⟨_, rfl, by omega, by omega, ?_⟩⟩
    rw [show ((g3 : Nat) : Int).toNat = g3 by omega]
    refine for_range (fun i σ H' => ∃ (stem : Str) (m' : Nat) (y5 : Option V), σ = [some (.ref w0), some (.int ((n : Nat) : Int)), some (.str s_signs), some (.str stem), some (.int (-1)), y5, none, none, none, none] ∧ Ext [w0] H H' ∧ Well H' w0 w1 m' ∧ m' ≤ m + 3 + i ∧ i ≤ g3 ∧ NmP (1 + i) stem)
      ⟨_, m + 3, none, rfl, (e1.trans e2).trans e3, W3, by omega, by omega, NmP.one hs⟩ ?_ ?_
    · rintro i σ H4 hi ⟨stem, m', y5, rfl, e4, W4, hm', hig, hnm⟩
      refine ⟨_, rfl, _, rfl, _, rfl, rfl, w0, w1, 62, m', rfl, W4, by omega, by omega, by omega, fun H5 g5 hg5 e5 W5 => ?_⟩
      obtain ⟨c5, hc5, hs5⟩ := sign62 hg5
      have hz := sz1000 hnm (by omega)
      refine ⟨s_signs, ((g5 : Nat) : Int), c5, rfl, rfl, signs_len, ix_nat hc5, _, _, rfl, rfl, sz (by show stem.length + 1 ≤ _; omega), ?_⟩
      exact ⟨_, m' + 1, _, rfl, e4.trans e5, W5, by omega, by omega, by have := hnm.app hs5; rwa [show 1 + i + 1 = 1 + (i + 1) by omega] at this⟩
    · rintro σ H4 ⟨stem, m', y5, rfl, e4, W4, hm', hig, hnm⟩
      have hz := sz1000 hnm (by omega)
      refine ⟨_, rfl, _, rfl, _, rfl, sz (by omega), _, _, rfl, rfl, rfl, w0, w1, stem.length + 1, m', rfl, W4, by omega, by omega, by omega, fun H5 g5 hg5 e5 W5 => ?_⟩
      exact ⟨stem, _, _, _, _, _, _, rfl, e4.trans e5, W5.mono (by omega), .inr ⟨hnm.mono (by omega), g5, rfl, by rw [← slen]; omega⟩⟩
  rintro σ' H1 ⟨stem, place, y5, y6, y7, y8, y9, rfl, e1, W1, hstem⟩
  refine ⟨Nat.zero_le _, fun nl hnl => ?_⟩
  have e2 : Ext [] H1 (upd H1 nl (.lst [])) := Ext.new hnl
  have g2 : (upd H1 nl (.lst [])) nl = some (.lst ((([] : List Str)).map V.str)) := upd_same
  have W2 := W1.ext e2
  obtain ⟨nlw, nlc⟩ := W1.new hnl
  have hnl0 : H nl = none := e1.free hnl (fun q => nlw (List.mem_singleton.mp q))
  have e12 : Ext [w0] H (upd H1 nl (.lst [])) := e1.trans (e2.mono (fun a m => nomatch m))
  generalize upd H1 nl (.lst []) = H2 at *
  refine ⟨_, rfl, _, rfl, by omega, by omega, ?_⟩
  refine for_range (fun i σ H' => ∃ (ns : List Str) (m' : Nat) (y5 y7 y8 y9 : Option V), σ = [some (.ref w0), some (.int ((n : Nat) : Int)), some (.str s_signs), some (.str stem), some (.int place), y5, some (.ref nl), y7, y8, y9] ∧ Ext [w0] H H' ∧ Well H' w0 w1 m' ∧ m' ≤ m + 12 + 11 * i ∧ H' nl = some (.lst (ns.map V.str)) ∧ ns.length = i ∧ ns.Nodup ∧ ∀ x ∈ ns, lowB x = true)
    ⟨[], m + 12, _, _, _, _, rfl, e12, W2, by omega, g2, rfl, List.nodup_nil, fun x hx => nomatch hx⟩ ?_ ?_
  · rintro i σ H3 hi ⟨ns, m', y5, y7, y8, y9, rfl, e3, W3, hm', g3, hl3, nd3, lo3⟩
    have hin : i < n := by have : ((n : Nat) : Int).toNat = n := by omega
                           omega
    refine ⟨_, rfl, _, rfl, rfl, w0, w1, 26, m', rfl, W3, by omega, by omega, by omega, fun H4 g4 hg4 e4 W4 => ?_⟩
    obtain ⟨c, hc, hs⟩ := sign26 hg4
    refine ⟨s_signs, ((g4 : Nat) : Int), c, rfl, rfl, signs_len, ix_nat hc, ?_⟩
    have f4 := e3.trans e4
    have g4n := e4 _ _ g3 (fun q => nlw (List.mem_singleton.mp q))
    refine ⟨fun σ' H' => ∃ (nm : Str) (m2 : Nat) (y5 : Option V), σ' = [some (.ref w0), some (.int ((n : Nat) : Int)), some (.str s_signs), some (.str stem), some (.int place), y5, some (.ref nl), some (.int ((i : Nat) : Int)), some (.str nm), y9] ∧ Ext [w0] H H' ∧ Well H' w0 w1 m2 ∧ m2 ≤ m' + 11 ∧ H' nl = some (.lst (ns.map V.str)) ∧ NmP 10 nm, ?_, ?_⟩
    · refine ⟨_, rfl, _, _, rfl, rfl, _, rfl, ?_⟩
      rcases hstem with hneg | ⟨hst, p, rfl, hp⟩
      · rw [decide_eq_false (by omega)]
        refine iteF ⟨_, rfl, rfl, w0, w1, 10, m' + 1, rfl, W4, by omega, by omega, by omega, fun H5 g5 hg5 e5 W5 => ⟨_, rfl, by omega, by omega, ?_⟩⟩
        rw [show ((g5 : Nat) : Int).toNat = g5 by omega]
        have g5n := e5 _ _ g4n (fun q => nlw (List.mem_singleton.mp q))
        refine for_range (fun j σ H' => ∃ (nm : Str) (m2 : Nat) (y5 : Option V), σ = [some (.ref w0), some (.int ((n : Nat) : Int)), some (.str s_signs), some (.str stem), some (.int place), y5, some (.ref nl), some (.int (0 + ((i : Nat) : Int))), some (.str nm), y9] ∧ Ext [w0] H H' ∧ Well H' w0 w1 m2 ∧ m2 ≤ m' + 2 + j ∧ j ≤ g5 ∧ H' nl = some (.lst (ns.map V.str)) ∧ NmP (1 + j) nm)
          ⟨_, m' + 1 + 1, _, rfl, f4.trans e5, W5, by omega, by omega, g5n, NmP.one hs⟩ ?_ ?_
        · rintro j σ H6 hj ⟨nm, m2, y5, rfl, e6, W6, hm2, hjg, g6, hnm⟩
          refine ⟨_, rfl, _, rfl, _, rfl, rfl, w0, w1, 62, m2, rfl, W6, by omega, by omega, by omega, fun H7 g7 hg7 e7 W7 => ?_⟩
          obtain ⟨c7, hc7, hs7⟩ := sign62 hg7
          have hz := sz1000 hnm (by omega)
          refine ⟨s_signs, ((g7 : Nat) : Int), c7, rfl, rfl, signs_len, ix_nat hc7, _, _, rfl, rfl, sz (by show nm.length + 1 ≤ _; omega), ?_⟩
          exact ⟨_, m2 + 1, _, rfl, e6.trans e7, W7, by omega, by omega, e7 _ _ g6 (fun q => nlw (List.mem_singleton.mp q)), by have := hnm.app hs7; rwa [show 1 + j + 1 = 1 + (j + 1) by omega] at this⟩
        · rintro σ H6 ⟨nm, m2, y5, rfl, e6, W6, hm2, hjg, g6, hnm⟩
          exact ⟨nm, m2, y5, by rw [Int.zero_add], e6, W6, by omega, g6, hnm.mono (by omega)⟩
      · rw [decide_eq_true (by omega)]
        have z1 := sz1000 hst (by omega)
        have z2 := cutS_len stem none (some ((p : Nat) : Int))
        have z3 := cutS_len stem (some ((p : Nat) : Int)) none
        have z4 : (cutS stem none (some ((p : Nat) : Int)) ++ ⟨#[c]⟩ : Str).length = (cutS stem none (some ((p : Nat) : Int))).length + 1 := by
          rw [slen, slen, app_cps, List.length_append]
          rfl
        refine iteT ⟨_, rfl, _, rfl, _, rfl, stem, rfl, sz (by omega), _, rfl, _, _, rfl, rfl, sz (by show _ + 1 ≤ _; omega), _, rfl, _, rfl, _, rfl, stem, rfl, sz (by omega), _, _, rfl, rfl, sz (by rw [z4]; omega), ?_⟩
        exact ⟨_, m' + 1, y5, by rw [Int.zero_add]; rfl, f4, W4, by omega, g4n, hst.ins hs hp⟩
    rintro σ' H5 ⟨nm, m2, y5, rfl, e5, W5, hm2, g5, hnm⟩
    have znm := sz1000 hnm (by omega)
    refine ⟨fun σ' H' => ∃ (nm' : Str) (y9 : Option V), σ' = [some (.ref w0), some (.int ((n : Nat) : Int)), some (.str s_signs), some (.str stem), some (.int place), y5, some (.ref nl), some (.int ((i : Nat) : Int)), some (.str nm'), y9] ∧ Ext [w0] H H' ∧ Well H' w0 w1 m2 ∧ H' nl = some (.lst (ns.map V.str)) ∧ lowB nm' = true ∧ nm' ∉ ns, ?_, ?_⟩
    · refine ⟨_, rfl, _, rfl, nl, _, rfl, .inl (SqL.of g5), rfl, flat_strs _, _, rfl, ?_⟩
      rw [if_neg Bool.false_ne_true, inV_strs]
      by_cases hin1 : nm ∈ ns
      rw [decide_eq_true hin1]
      refine iteT (iteT ?_)
      obtain ⟨H6, rfl⟩ : ∃ H6, H6 = H5 := ⟨H5, rfl⟩
      have e5' := e5
      have W5' := W5
      have g5' := g5
      rotate_left
      rw [decide_eq_false hin1]
      refine iteF ⟨_, rfl, by show 8 ≤ sizeLine; decide, fun dp hdp => ?_⟩
      have eP : Ext [] H5 (upd H5 dp (.tup [V.str (PySem.Str.ofString "def"), V.str (PySem.Str.ofString "else"), V.str (PySem.Str.ofString "give"), V.str (PySem.Str.ofString "if"), V.str (PySem.Str.ofString "kind"), V.str (PySem.Str.ofString "let"), V.str (PySem.Str.ofString "match"), V.str (PySem.Str.ofString "whole")])) := Ext.new hdp
      refine ⟨dp, l_WORDS.map V.str, rfl, .inr (SqT.of upd_same), rfl, flat_strs l_WORDS, _, rfl, ?_⟩
      rw [if_neg Bool.false_ne_true, inV_strs]
      have e5' := e5.trans (eP.mono (W' := [w0]) (fun a m => nomatch m))
      have W5' := W5.ext eP
      have g5' := eP _ _ g5 (fun m => nomatch m)
      clear e5 W5 g5
      generalize upd H5 dp (.tup [V.str (PySem.Str.ofString "def"), V.str (PySem.Str.ofString "else"), V.str (PySem.Str.ofString "give"), V.str (PySem.Str.ofString "if"), V.str (PySem.Str.ofString "kind"), V.str (PySem.Str.ofString "let"), V.str (PySem.Str.ofString "match"), V.str (PySem.Str.ofString "whole")]) = H6 at *
      by_cases hin2 : ¬ nm ∈ l_WORDS
      · rw [decide_eq_false hin2]
        exact iteF ⟨nm, _, rfl, e5', W5', g5', lowB_of hnm hin2, hin1⟩
      rw [decide_eq_true (Decidable.not_not.mp hin2)]
      refine iteT ?_
      all_goals
        obtain ⟨y, rr, hf1, hf2, hf3⟩ := cand_ex (x := nm) (ns := ns) (by omega)
        have hmem : ∀ z ∈ cands nm, NmP 10 z ∧ z ∉ l_WORDS := fun z hz => by
          unfold cands at hz
          obtain ⟨q, hq, rfl⟩ := List.mem_map.mp hz
          exact candS_ok hnm (List.mem_range.mp hq)
        have hcl : (cands nm).length = 40 := by simp [cands]
        refine ⟨_, rfl, by decide, by decide, fun D1 hD1 => ?_⟩
        refine lcF (ys := (cands nm).map V.str) walk_range hD1 (by rw [List.length_map, hcl]; rfl) (by decide) ?_ ?_
        · intro q z H7 Q' hq hz e7 k'
          have hq' : q < 40 := hq
          have hz' : z = .str (candS nm q) := by
            rw [List.getElem?_map] at hz
            unfold cands at hz
            rw [List.getElem?_map, List.getElem?_range hq'] at hz
            exact (Option.some.inj hz).symm
          subst hz'
          refine ⟨rfl, _, rfl, 8, rfl, nm, rfl, sz (by omega), ?_⟩
          rw [Int.zero_add]
          have hlg : ((10 : Int) + ((q : Nat) : Int)).natAbs.log2 < 1920 := Nat.lt_trans (PySem.Flt.log2_lt_of (k := 6) (by decide) (by omega)) (by decide)
          have hcs := cutS_len nm none (some 8)
          have hdl : (dig q).length = 2 := by
            obtain ⟨u, v, q1, _⟩ := dig_ok hq'
            rw [slen, q1]
            rfl
          refine ⟨_, rfl, _, _, rfl, rfl, _, rfl, hlg, _, _, rfl, rfl, sz (by show _ + (dig q).length ≤ _; omega), ?_⟩
          exact k' H7 (Ext.refl H7)
        intro H7 e7 hl7
        refine ⟨D1, rfl, ⟨_, SqL.of hl7⟩, fun D2 hD2 => ?_⟩
        have g7 := e7 _ _ g5' (fun m => nomatch m)
        refine lc_list (xs := (cands nm).map V.str) (fun q H => Ext [] H7 H ∧ H D2 = some (.lst ((((cands nm).take q).filter (fun z => !decide (z ∈ ns))).map V.str))) ⟨Ext.new hD2, upd_same⟩ (fun q H _ p => p.1.sql (SqL.of hl7) (fun m => nomatch m)) ?_ ?_
        · rintro q x H8 hx ⟨e8, hl8⟩
          obtain ⟨z, hz, rfl⟩ : ∃ z, (cands nm)[q]? = some z ∧ x = .str z := by
            rw [List.getElem?_map] at hx
            cases h : (cands nm)[q]? with
            | none => rw [h] at hx; cases hx
            | some z => rw [h] at hx; exact ⟨z, rfl, (Option.some.inj hx).symm⟩
          refine ⟨rfl, _, rfl, _, rfl, nl, _, rfl, .inl (SqL.of (e8 _ _ g7 (fun m => nomatch m))), rfl, flat_strs _, _, rfl, ?_⟩
          rw [if_pos rfl, inV_strs]
          by_cases hzn : z ∈ ns
          · rw [decide_eq_true hzn]
            refine iteF ⟨e8, ?_⟩
            rw [hl8, List.take_succ, hz, List.filter_append]
            simp [hzn]
          · rw [decide_eq_false hzn]
            refine iteT ⟨_, rfl, _, hl8, ?_, e8.mut hD2, ?_⟩
            · rw [List.length_map]
              have h1 : (((cands nm).take q).filter (fun z => !decide (z ∈ ns))).length ≤ ((cands nm).take q).length := List.length_filter_le ..
              rw [List.length_take] at h1
              exact szl (by omega)
            · rw [upd_same, List.take_succ, hz, List.filter_append]
              simp [hzn]
        · rintro H8 ⟨e8, hl8⟩
          rw [List.length_map, List.take_length, hf1] at hl8
          refine ⟨D2, _, _, .str y, rfl, rfl, SqL.of hl8, ix_nat (i := 0) rfl, ?_⟩
          have e78 := e7.trans e8
          exact ⟨y, _, rfl, e5'.trans (e78.mono (fun a m => nomatch m)), W5'.ext e78, e8 _ _ g7 (fun m => nomatch m), lowB_of (hmem y hf2).1 (hmem y hf2).2, hf3⟩
    rintro σ' H6 ⟨nm', y9, rfl, e6, W6, g6, hlow, hni⟩
    refine ⟨_, rfl, .inl ⟨rfl, _, SqL.of g6⟩, _, rfl, nl, _, _, rfl, rfl, g6, by rw [List.length_map]; exact szl (by omega), ?_⟩
    have W7 : Well (upd H6 nl (.lst (ns.map V.str ++ [V.str nm']))) w0 w1 m2 := W6.put nlw nlc
    exact ⟨ns ++ [nm'], m2, _, _, _, _, rfl, e6.mut hnl0, W7, by omega, by rw [upd_same, List.map_append]; rfl, by rw [List.length_append, hl3]; rfl, by rw [List.nodup_append]; exact ⟨nd3, by simp, fun a ha b hb => by simp at hb; rw [hb]; exact fun q => hni (by rw [← q]; exact ha)⟩, fun x hx => by
      rcases List.mem_append.mp hx with q | q
      · exact lo3 x q
      · simp at q
        rw [q]
        exact hlow⟩
  · rintro σ H3 ⟨ns, m', y5, y7, y8, y9, rfl, e3, W3, hm', g3, hl3, nd3, lo3⟩
    rw [show ((n : Nat) : Int).toNat = n by omega] at hl3 hm'
    exact ⟨_, rfl, k H3 nl ns e3 (W3.mono (by omega)) hnl0 g3 hl3 nd3 lo3⟩
theorem low_parts {x : Str} (h : lowB x = true) : NmP 10 x := by
  unfold lowB at h
  rw [Bool.and_eq_true] at h
  obtain ⟨h1, h2⟩ := h
  have hl := name_len h1
  unfold nameB at h1
  simp only [Bool.and_eq_true] at h1
  rw [slen] at hl
  refine ⟨hl.2, ?_, ?_⟩
  · cases q : x.cps.toList with
    | nil => rw [q] at hl; simp at hl
    | cons c r =>
      rw [q] at h2
      exact ⟨c, r, rfl, h2⟩
  · exact List.all_eq_true.mp h1.2.2
def hiS (x : Str) : Str := ⟨((x.cps.toList.headD 0 - 32) :: x.cps.toList.tail).toArray⟩
theorem up_one {c : Nat} (h : isSma c = true) : Txt.upper ⟨#[c]⟩ = ⟨#[c - 32]⟩ ∧ isLet (c - 32) = true ∧ isSma (c - 32) = false ∧ 32 < c := by
  have h1 : ∀ c ∈ s_small.cps.toList, Txt.upper ⟨#[c]⟩ = ⟨#[c - 32]⟩ ∧ isLet (c - 32) = true ∧ isSma (c - 32) = false ∧ 32 < c := by decide +kernel
  exact h1 c (of_decide_eq_true h)
theorem cps_ext {a b : Str} (h : a.cps.toList = b.cps.toList) : a = b := by
  cases a
  cases b
  congr 1
  exact Array.toList_inj.mp h
theorem hiS_eq {x : Str} {c : Nat} {r : List Nat} (h : x.cps.toList = c :: r) (hc : isSma c = true) : Txt.upper ⟨#[c]⟩ ++ cutS x (some ((1 : Nat) : Int)) none = hiS x := by
  refine cps_ext ?_
  rw [app_cps, (up_one hc).1, cut_from (by rw [h]; simp), h]
  unfold hiS
  rw [h]
  rfl
theorem hiS_high {x : Str} (h : lowB x = true) : highB (hiS x) = true := by
  obtain ⟨a1, ⟨c, r, a2, a3⟩, a4⟩ := low_parts h
  obtain ⟨u1, u2, u3, u4⟩ := up_one a3
  have e : (hiS x).cps.toList = (c - 32) :: r := by unfold hiS; rw [a2]; rfl
  have hw : hiS x ∉ l_WORDS := fun hm => by
    have h1 : ∀ y ∈ l_WORDS, y.cps.toList.head?.any isSma = true := by decide +kernel
    have := h1 _ hm
    rw [e] at this
    simp [u3] at this
  have hn : nameB (hiS x) = true := by
    unfold nameB
    rw [inV_strs, slen, decide_eq_false hw, e]
    have hl : ((c - 32) :: r).length ≤ 10 := by rw [a2] at a1; exact a1
    rw [decide_eq_true (show 1 ≤ ((c - 32) :: r).length by simp), decide_eq_true hl]
    have e2 : ((c - 32) :: r).all (fun c => isLet c || isDig c) = true := by
      rw [List.all_eq_true]
      intro z hz
      rcases List.mem_cons.mp hz with q | q
      · rw [q, u2]
        rfl
      · exact a4 z (by rw [a2]; exact List.mem_cons_of_mem _ q)
    rw [e2]
    simp [u2]
  unfold highB
  rw [hn, e]
  simp [u3]
theorem hiS_inj {x y : Str} (hx : lowB x = true) (hy : lowB y = true) (h : hiS x = hiS y) : x = y := by
  obtain ⟨_, ⟨c, r, a2, a3⟩, _⟩ := low_parts hx
  obtain ⟨_, ⟨c', r', b2, b3⟩, _⟩ := low_parts hy
  have h1 := congrArg (fun s : Str => s.cps.toList) h
  simp only [hiS, a2, b2, List.headD_cons, List.tail_cons] at h1
  obtain ⟨e1, e2⟩ := List.cons.inj h1
  have u := (up_one a3).2.2.2
  have v := (up_one b3).2.2.2
  refine cps_ext ?_
  rw [a2, b2, e2, show c = c' by omega]
theorem hiS_nd {ns : List Str} (h : ns.Nodup) (lo : ∀ x ∈ ns, lowB x = true) : (ns.map hiS).Nodup := by
  rw [List.nodup_iff_pairwise_ne, List.pairwise_map]
  refine List.Pairwise.imp_of_mem ?_ (List.nodup_iff_pairwise_ne.mp h)
  intro a b ha hb hne q
  exact hne (hiS_inj (lo a ha) (lo b hb) q)
def r_highs (K : PySem.W.Frag) : List V → Hp → VK → Prop := fun vs H Q => ∃ (w cl : Addr) (n m : Nat), vs = [.ref w, .int ((n : Nat) : Int)] ∧ Well H w cl m ∧ n ≤ 30 ∧ m ≤ 900000000 ∧ ∀ H' l (ns : List Str), Ext [w] H H' → Well H' w cl (m + 400) → H l = none → H' l = some (.lst (ns.map V.str)) → ns.length = n → ns.Nodup → (∀ x ∈ ns, highB x = true) → Q (.ref l) H'
abbrev N_law_highs : List Str := ["_law_well_here", "_law_many", "_law_name"]
theorem sc_law_highs : FnScope ["_law_well_here", "_law_many", "_law_name"] ["_law_well_here", "_law_many"] (defScope s_law_highs) := ⟨rfl, rfl, rfl, by decide +kernel, rfl, by decide +kernel, by decide +kernel⟩
theorem c_law_highs (T : Txt w K mg) : Cal P w K mg base 3 "_law_highs" (spN 2 (r_highs K)) [] := by
  obtain ⟨fd, F⟩ := T.f_law_highs
  refine cal_mk F T.m_law_highs (fun _ _ _ _ _ _ us hl => match us, hl with | [_, _], _ => rfl) sc_law_highs (fun _ _ _ _ h => h.1) (fun cdv A outer s H vs Q E hr h => ?_)
  have hu := hu_of hr
  have hul := hul_of hr
  obtain ⟨_, w0, w1, n, m, rfl, W, hn, hm, k⟩ := h
  refine ⟨_, (pss_one (ps_ret (pe_lc (own := [("_law_name", 2)]) rfl sc_law_highs.nd (pi_list (pe_c (c_law_names T) hr (by decide) (by rfl) (pa_cons (pv 0) (pa_cons (pv 1) pa_nil)))) (blkOk_by (N := N_law_highs) (sc := defScope s_law_highs) (by decide +kernel)) (fun _ _ _ _ _ => pg_name (i := 2) sc_law_highs.nd rfl (by first | exact Or.inl rfl | exact Or.inr rfl)) (fun _ _ _ _ _ => pts_nil) (fun _ _ _ _ _ => pe_op op_add_str (pe_upper (pe_ix ix_str (pv 2) (pe_int) (fun _ _ => rfl))) (pe_slice sl_str (pv 2) (po_some (pe_int)) po_none))))), ?_⟩
  refine ⟨_, rfl, _, rfl, rfl, w0, w1, n, m, rfl, W, hn, hm, fun H1 l ns e1 W1 hl0 gl hln hnd hlo => ⟨l, rfl, ⟨_, SqL.of gl⟩, fun D hD => ?_⟩⟩
  refine lcL (xs := ns.map V.str) (ys := (ns.map hiS).map V.str) (SqL.of gl) hD (by simp) (by rw [List.length_map]; omega) ?_ ?_
  · intro i x y H2 Q' hx hy e2 k'
    obtain ⟨z, hz, rfl⟩ : ∃ z, ns[i]? = some z ∧ x = .str z := by
      rw [List.getElem?_map] at hx
      cases q : ns[i]? with
      | none => rw [q] at hx; cases hx
      | some z => rw [q] at hx; exact ⟨z, rfl, (Option.some.inj hx).symm⟩
    have ey : y = .str (hiS z) := by
      rw [List.getElem?_map, List.getElem?_map, hz] at hy
      exact (Option.some.inj hy).symm
    subst ey
    have hlz := hlo z (List.mem_of_getElem? hz)
    obtain ⟨a1, ⟨c, r, a2, a3⟩, a4⟩ := low_parts hlz
    have hz1 : z.length ≤ 1000 := by rw [slen]; omega
    have hcs := cutS_len z (some ((1 : Nat) : Int)) none
    refine ⟨rfl, _, rfl, z, 0, c, rfl, rfl, sz (by omega), ix_nat (i := 0) (by rw [a2]; rfl), ⟨_, rfl⟩, (⟨#[c]⟩ : Str), rfl, rfl, by show 1 ≤ _; decide, _, rfl, 1, rfl, z, rfl, sz (by omega), _, _, rfl, rfl, ?_, ?_⟩
    · rw [(up_one a3).1]
      refine sz ?_
      show 1 + (cutS z (some ((1 : Nat) : Int)) none).length ≤ _
      omega
    · have := k' H2 (Ext.refl H2)
      rw [← hiS_eq a2 a3] at this
      exact this
  intro H2 e2 hl2
  exact k H2 D (ns.map hiS) (e1.trans (e2.mono (fun a m => nomatch m))) (W1.ext e2) (e1.free hD (fun q => (W1.new hD).1 (List.mem_singleton.mp q))) hl2 (by rw [List.length_map]; exact hln) (hiS_nd hnd hlo) (fun x hx => by
    obtain ⟨z, hz, rfl⟩ := List.mem_map.mp hx
    exact hiS_high (hlo z hz))
end
end K47

set_option Elab.async false
set_option linter.all false
set_option maxRecDepth 100000
set_option maxHeartbeats 4000000
namespace K47
open PySem PySem.Spec PyProof.Rows L2
open C8 hiding CX0 E0
def r_number (K : PySem.W.Frag) : List V → Hp → VK → Prop := fun vs H Q => ∃ (w cl : Addr) (m : Nat), vs = [.ref w] ∧ Well H w cl m ∧ m ≤ 900000000 ∧ ∀ H' (z : Int), Ext [w] H H' → Well H' w cl (m + 2) → Q (.int z) H'
def r_near (K : PySem.W.Frag) : List V → Hp → VK → Prop := fun vs H Q => ∃ (w cl : Addr) (n m : Nat), vs = [.ref w, .int ((n : Nat) : Int)] ∧ Well H w cl m ∧ n ≤ 100 ∧ m ≤ 800000000 ∧ ∀ H' (z : Int), Ext [w] H H' → Well H' w cl (m + 4) → -1000000000000 ≤ z → z ≤ 1000000000000 → Q (.int z) H'
theorem pow12 : ((fun i j : Int => V.int (i ^ j.toNat)) 10 12) = V.int 1000000000000 := by decide +kernel
section
variable {P : Program} {w : World} {K : PySem.W.Frag} {mg : Str → Option Value} {base : Heap}
abbrev N_law_number : List Str := ["_law_well_here", "_law_shape"]
theorem sc_law_number : FnScope ["_law_well_here", "_law_shape"] ["_law_well_here"] (defScope s_law_number) := ⟨rfl, rfl, rfl, by decide +kernel, rfl, by decide +kernel, by decide +kernel⟩
theorem c_law_number (T : Txt w K mg) : Cal P w K mg base 2 "_law_number" (spN 1 (r_number K)) [] := by
  obtain ⟨fd, F⟩ := T.f_law_number
  refine cal_mk F T.m_law_number (fun _ _ _ _ _ _ us hl => match us, hl with | [_], _ => rfl) sc_law_number (fun _ _ _ _ h => h.1) (fun cdv A outer s H vs Q E hr h => ?_)
  have hu := hu_of hr
  have hul := hul_of hr
  obtain ⟨_, w0, w1, m, rfl, W, hm, k⟩ := h
  refine ⟨_, (pss_cons (ps_set (i := 1) sc_law_number.nd rfl (by first | exact Or.inl rfl | exact Or.inr rfl) (pe_c (c_law_draw T) hr (by decide) (by rfl) (pa_cons (pv 0) (pa_cons (pe_int) pa_nil))))
      (pss_cons (ps_if (pt_cmpR op_eq (pv 1) (pe_int) (nomark _)) (pss_one (ps_ret (pe_ix (ix_listK (K := K) rfl) (pe_lst (pa_cons (pe_int) (pa_cons (pe_op op_pow (pe_int) (pe_int)) (pa_cons (pe_un un_neg (pe_op op_pow (pe_int) (pe_int))) (pa_cons (pe_op op_add (pe_op op_pow (pe_int) (pe_int)) (pe_int)) (pa_cons (pe_op op_sub (pe_int) (pe_op op_pow (pe_int) (pe_int))) pa_nil)))))) (pe_c (c_law_draw T) hr (by decide) (by rfl) (pa_cons (pv 0) (pa_cons (pe_int) pa_nil))) (fun _ _ => rfl)))) (pss_nil))
      (pss_cons (ps_if (pt_cmpR op_eq (pv 1) (pe_int) (nomark _)) (pss_one (ps_ret (pe_op op_sub (pe_c (c_law_draw T) hr (by decide) (by rfl) (pa_cons (pv 0) (pa_cons (pe_int) pa_nil))) (pe_op op_pow (pe_int) (pe_int))))) (pss_nil))
      (pss_one (ps_ret (pe_op op_sub (pe_c (c_law_draw T) hr (by decide) (by rfl) (pa_cons (pv 0) (pa_cons (pe_int) pa_nil))) (pe_int))))))), ?_⟩
  refine ⟨_, rfl, rfl, w0, w1, 8, m, rfl, W, by omega, by omega, by omega, fun H1 g hg e1 W1 => ?_⟩
  refine ⟨_, rfl, rfl, _, rfl, ?_⟩
  by_cases h0 : g = 0
  · rw [decide_eq_true (by rw [h0]; rfl)]
    refine iteT ⟨10, 12, rfl, rfl, ⟨by decide, by decide, by decide⟩, 10, 12, rfl, rfl, ⟨by decide, by decide, by decide⟩, _, rfl, 10, 60, rfl, rfl, ⟨by decide, by decide, by decide⟩, _, _, rfl, rfl, 10, 60, rfl, rfl, ⟨by decide, by decide, by decide⟩, _, _, rfl, rfl, by show 5 ≤ sizeLine; decide, fun L hL => ?_⟩
    have eL : Ext [] H1 (upd H1 L (.lst [V.int 0, (fun i j : Int => V.int (i ^ j.toNat)) 10 12, (fun i : Int => V.int (-i)) (10 ^ Int.toNat 12), (fun i j : Int => V.int (i + j)) (10 ^ Int.toNat 60) 7, (fun i j : Int => V.int (i - j)) 7 (10 ^ Int.toNat 60)])) := Ext.new hL
    have gL : (upd H1 L (.lst [V.int 0, (fun i j : Int => V.int (i ^ j.toNat)) 10 12, (fun i : Int => V.int (-i)) (10 ^ Int.toNat 12), (fun i j : Int => V.int (i + j)) (10 ^ Int.toNat 60) 7, (fun i j : Int => V.int (i - j)) 7 (10 ^ Int.toNat 60)])) L = some (.lst [V.int 0, (fun i j : Int => V.int (i ^ j.toNat)) 10 12, (fun i : Int => V.int (-i)) (10 ^ Int.toNat 12), (fun i j : Int => V.int (i + j)) (10 ^ Int.toNat 60) 7, (fun i j : Int => V.int (i - j)) 7 (10 ^ Int.toNat 60)]) := upd_same
    have hpick : ∀ g2, g2 < 5 → ∃ z : Int, [V.int 0, (fun i j : Int => V.int (i ^ j.toNat)) 10 12, (fun i : Int => V.int (-i)) (10 ^ Int.toNat 12), (fun i j : Int => V.int (i + j)) (10 ^ Int.toNat 60) 7, (fun i j : Int => V.int (i - j)) 7 (10 ^ Int.toNat 60)][g2]? = some (.int z) := fun g2 h => by
      match g2, h with
      | 0, _ => exact ⟨_, rfl⟩
      | 1, _ => exact ⟨_, rfl⟩
      | 2, _ => exact ⟨_, rfl⟩
      | 3, _ => exact ⟨_, rfl⟩
      | 4, _ => exact ⟨_, rfl⟩
    generalize [V.int 0, (fun i j : Int => V.int (i ^ j.toNat)) 10 12, (fun i : Int => V.int (-i)) (10 ^ Int.toNat 12), (fun i j : Int => V.int (i + j)) (10 ^ Int.toNat 60) 7, (fun i j : Int => V.int (i - j)) 7 (10 ^ Int.toNat 60)] = ll at *
    have W2 := W1.ext eL
    have nLw := (W1.new hL).1
    generalize upd H1 L (.lst ll) = H2 at *
    refine ⟨_, rfl, rfl, w0, w1, 5, m + 1, rfl, W2, by omega, by omega, by omega, fun H3 g3 hg3 e3 W3 => ?_⟩
    obtain ⟨z, hz⟩ := hpick g3 hg3
    refine ⟨L, _, _, _, rfl, rfl, SqL.of (e3 _ _ gL (fun q => nLw (List.mem_singleton.mp q))), ix_nat hz, ?_⟩
    exact k H3 z ((e1.trans (eL.mono (fun a m => nomatch m))).trans e3) W3
  rw [dneq (by omega)]
  refine iteF ⟨_, rfl, rfl, _, rfl, ?_⟩
  by_cases h1 : g = 1
  · rw [decide_eq_true (by rw [h1]; rfl)]
    refine iteT ⟨_, rfl, rfl, w0, w1, 2000000000001, m + 1, rfl, W1, by omega, by omega, by omega, fun H2 g2 hg2 e2 W2 => ?_⟩
    refine ⟨10, 12, rfl, rfl, ⟨by decide, by decide, by decide⟩, _, _, rfl, rfl, ?_⟩
    exact k H2 _ (e1.trans e2) W2
  rw [dneq (by omega)]
  refine iteF ⟨_, rfl, rfl, w0, w1, 19, m + 1, rfl, W1, by omega, by omega, by omega, fun H2 g2 hg2 e2 W2 => ?_⟩
  exact ⟨_, _, rfl, rfl, k H2 _ (e1.trans e2) W2⟩
abbrev N_law_near : List Str := ["_law_well_here", "_law_size", "_law_shape"]
theorem sc_law_near : FnScope ["_law_well_here", "_law_size", "_law_shape"] ["_law_well_here", "_law_size"] (defScope s_law_near) := ⟨rfl, rfl, rfl, by decide +kernel, rfl, by decide +kernel, by decide +kernel⟩
theorem c_law_near (T : Txt w K mg) : Cal P w K mg base 3 "_law_near" (spN 2 (r_near K)) [] := by
  obtain ⟨fd, F⟩ := T.f_law_near
  refine cal_mk F T.m_law_near (fun _ _ _ _ _ _ us hl => match us, hl with | [_, _], _ => rfl) sc_law_near (fun _ _ _ _ h => h.1) (fun cdv A outer s H vs Q E hr h => ?_)
  have hu := hu_of hr
  have hul := hul_of hr
  obtain ⟨_, w0, w1, n, m, rfl, W, hn, hm, k⟩ := h
  refine ⟨_, (pss_cons (ps_set (i := 2) sc_law_near.nd rfl (by first | exact Or.inl rfl | exact Or.inr rfl) (pe_c (c_law_draw T) hr (by decide) (by rfl) (pa_cons (pv 0) (pa_cons (pe_int) pa_nil))))
      (pss_cons (ps_if (pt_cmpR op_eq (pv 2) (pe_int) (nomark _)) (pss_one (ps_ret (pe_c (c_law_draw T) hr (by decide) (by rfl) (pa_cons (pv 0) (pa_cons (pe_op op_add (pv 1) (pe_int)) pa_nil))))) (pss_nil))
      (pss_cons (ps_if (pt_cmpR op_eq (pv 2) (pe_int) (nomark _)) (pss_one (ps_ret (pe_op op_mod (pe_callTy call_int1 (by rfl) T.b_int bt_int (pa_cons (pe_c (c_law_number T) hr (by decide) (by rfl) (pa_cons (pv 0) pa_nil)) pa_nil)) (pe_op op_pow (pe_int) (pe_int))))) (pss_nil))
      (pss_one (ps_ret (pe_op op_sub (pe_c (c_law_draw T) hr (by decide) (by rfl) (pa_cons (pv 0) (pa_cons (pe_int) pa_nil))) (pe_int))))))), ?_⟩
  refine ⟨_, rfl, rfl, w0, w1, 5, m, rfl, W, by omega, by omega, by omega, fun H1 g hg e1 W1 => ?_⟩
  refine ⟨_, rfl, rfl, _, rfl, ?_⟩
  by_cases h0 : g = 0
  · rw [decide_eq_true (by rw [h0]; rfl)]
    refine iteT ⟨_, rfl, _, rfl, _, _, rfl, rfl, rfl, w0, w1, n + 1, m + 1, rfl, W1, by omega, by omega, by omega, fun H2 g2 hg2 e2 W2 => ?_⟩
    exact k H2 _ (e1.trans e2) (W2.mono (by omega)) (by omega) (by omega)
  rw [dneq (by omega)]
  refine iteF ⟨_, rfl, rfl, _, rfl, ?_⟩
  by_cases h4 : g = 4
  · rw [decide_eq_true (by rw [h4]; rfl)]
    refine iteT ⟨_, rfl, rfl, w0, w1, m + 1, rfl, W1, by omega, fun H2 z e2 W2 => .inl ⟨_, rfl, 10, 12, rfl, rfl, ⟨by decide, by decide, by decide⟩, ?_⟩⟩
    rw [pow12]
    refine ⟨z, 1000000000000, rfl, rfl, (show (0 : Int) < 1000000000000 by decide), ?_⟩
    have b1 := Int.emod_nonneg z (show (1000000000000 : Int) ≠ 0 by decide)
    have b2 := Int.emod_lt_of_pos z (show (0 : Int) < 1000000000000 by decide)
    exact k H2 (z % 1000000000000) (e1.trans e2) (W2.mono (by omega)) (by omega) (by omega)
  rw [dneq (by omega)]
  refine iteF ⟨_, rfl, rfl, w0, w1, 6, m + 1, rfl, W1, by omega, by omega, by omega, fun H2 g2 hg2 e2 W2 => ?_⟩
  exact ⟨_, _, rfl, rfl, k H2 _ (e1.trans e2) (W2.mono (by omega)) (by omega) (by omega)⟩
end
end K47

set_option Elab.async false
set_option linter.all false
set_option maxRecDepth 100000
set_option maxHeartbeats 4000000
namespace K47
open PySem PySem.Spec PyProof.Rows L2
open C8 hiding CX0 E0
/-! own objects beside the well -/
structure OW (H0 : Hp) (w0 w1 : Addr) (l : List (Addr × HO)) (H : Hp) (m : Nat) : Prop where
  e : Ext [w0] H0 H
  nd : (l.map (·.1)).Nodup
  at_ : ∀ p ∈ l, H p.1 = some p.2
  fr : ∀ p ∈ l, H0 p.1 = none
  ne : ∀ p ∈ l, p.1 ≠ w0 ∧ p.1 ≠ w1
  w : Well H w0 w1 m
section
variable {H0 H H' : Hp} {w0 w1 x : Addr} {l : List (Addr × HO)} {o o' : HO} {m m' : Nat}
theorem OW.start (w : Well H w0 w1 m) : OW H w0 w1 [] H m := ⟨Ext.refl H, List.nodup_nil, (fun _ h => nomatch h), (fun _ h => nomatch h), (fun _ h => nomatch h), w⟩
theorem OW.new (a : OW H0 w0 w1 l H m) (h : H x = none) : OW H0 w0 w1 ((x, o) :: l) (upd H x o) m := by
  have hw := a.w.new h
  refine ⟨a.e.trans (Ext.new h), ?_, ?_, ?_, ?_, a.w.put hw.1 hw.2⟩
  · rw [List.map_cons, List.nodup_cons]
    refine ⟨fun q => ?_, a.nd⟩
    obtain ⟨p, hp, e⟩ := List.mem_map.mp q
    have := a.at_ p hp
    rw [e, h] at this
    cases this
  · intro p hp
    rcases List.mem_cons.mp hp with rfl | q
    · exact upd_same
    · have h1 := a.at_ p q
      exact (upd_ne (ne_of_none h1 h)).trans h1
  · intro p hp
    rcases List.mem_cons.mp hp with rfl | q
    · exact a.e.free h (fun z => hw.1 (List.mem_singleton.mp z))
    · exact a.fr p q
  · intro p hp
    rcases List.mem_cons.mp hp with rfl | q
    · exact hw
    · exact a.ne p q
theorem OW.draw (a : OW H0 w0 w1 l H m) (e : Ext [w0] H H') (w : Well H' w0 w1 m') : OW H0 w0 w1 l H' m' :=
  ⟨a.e.trans e, a.nd, fun p hp => e _ _ (a.at_ p hp) (fun z => (a.ne p hp).1 (List.mem_singleton.mp z)), a.fr, a.ne, w⟩
theorem OW.ext (a : OW H0 w0 w1 l H m) (e : Ext [] H H') : OW H0 w0 w1 l H' m := a.draw (e.mono (fun _ h => nomatch h)) (a.w.ext e)
theorem OW.mono (a : OW H0 w0 w1 l H m) (h : m ≤ m') : OW H0 w0 w1 l H m' := ⟨a.e, a.nd, a.at_, a.fr, a.ne, a.w.mono h⟩
theorem OW.get (a : OW H0 w0 w1 l H m) (i : Nat) (h : l[i]? = some (x, o)) : H x = some o := a.at_ _ (List.mem_of_getElem? h)
theorem OW.set (a : OW H0 w0 w1 l H m) (i : Nat) (h : l[i]? = some (x, o)) : OW H0 w0 w1 (l.set i (x, o')) (upd H x o') m := by
  have hm := List.mem_of_getElem? h
  have hne := a.ne _ hm
  have hl := (List.getElem?_eq_some_iff.mp h).1
  have hmap : (l.set i (x, o')).map (·.1) = l.map (·.1) := by
    rw [List.map_set]
    refine List.ext_getElem? fun j => ?_
    rw [List.getElem?_set]
    split
    · rename_i q
      subst q
      rw [List.getElem?_map, h]
      simp [hl]
    · rfl
  refine ⟨a.e.mut (a.fr _ hm), by rw [hmap]; exact a.nd, ?_, ?_, ?_, a.w.put hne.1 hne.2⟩
  · intro p hp
    obtain ⟨j, hj⟩ := List.mem_iff_getElem?.mp hp
    rw [List.getElem?_set] at hj
    split at hj
    · cases hj
      exact upd_same
    · rename_i hij
      have hp' := List.mem_of_getElem? hj
      have hx : p.1 ≠ x := fun q => by
        have e1 : (l.map (·.1))[i]? = some x := by rw [List.getElem?_map, h]; rfl
        have e2 : (l.map (·.1))[j]? = some x := by rw [List.getElem?_map, hj, ← q]; rfl
        exact hij ((List.getElem?_inj (by rw [List.length_map]; exact hl) a.nd).mp (e1.trans e2.symm))
      rw [upd_ne hx]
      exact a.at_ p hp'
  · intro p hp
    have : p.1 ∈ (l.set i (x, o')).map (·.1) := List.mem_map_of_mem hp
    rw [hmap] at this
    obtain ⟨q, hq, e⟩ := List.mem_map.mp this
    rw [← e]
    exact a.fr q hq
  · intro p hp
    have : p.1 ∈ (l.set i (x, o')).map (·.1) := List.mem_map_of_mem hp
    rw [hmap] at this
    obtain ⟨q, hq, e⟩ := List.mem_map.mp this
    rw [← e]
    exact a.ne q hq
theorem OW.tail {p : Addr × HO} (a : OW H0 w0 w1 (p :: l) H m) : OW H0 w0 w1 l H m :=
  ⟨a.e, (List.nodup_cons.mp a.nd).2, fun q hq => a.at_ q (List.mem_cons_of_mem _ hq), fun q hq => a.fr q (List.mem_cons_of_mem _ hq), fun q hq => a.ne q (List.mem_cons_of_mem _ hq), a.w⟩
end
def KsPlain (ks : Ks) : Prop := ∀ kd ∈ ks, ∃ m ∈ kd.2, ∀ f ∈ m.2, f = "whole"
def r_kinds (K : PySem.W.Frag) : List V → Hp → VK → Prop := fun vs H Q => ∃ (w cl : Addr) (m : Nat), vs = [.ref w] ∧ Well H w cl m ∧ m ≤ 800000000 ∧ ∀ H' u (ks : Ks), Ext [w] H H' → Well H' w cl (m + 3000) → TD K H' u (eKs ks) → KsOk ks → KsPlain ks → Q u H'
theorem sum_cast : ∀ l : List Nat, (l.map fun n : Nat => (n : Int)).sum = ((l.sum : Nat) : Int)
  | [] => rfl
  | n :: l => by rw [List.map_cons, List.sum_cons, List.sum_cons, sum_cast l]; omega
theorem sum_le {b : Nat} : ∀ l : List Nat, (∀ n ∈ l, n ≤ b) → l.sum ≤ l.length * b
  | [], _ => by simp
  | n :: l, h => by
    have h1 := h n List.mem_cons_self
    have h2 := sum_le l fun x hx => h x (List.mem_cons_of_mem _ hx)
    rw [List.sum_cons, List.length_cons, Nat.succ_mul]
    omega
theorem sum_take {sz : List Nat} {i s : Nat} (h : sz[i]? = some s) : (sz.take (i + 1)).sum = (sz.take i).sum + s := by
  rw [List.take_succ, h, List.sum_append]
  simp
theorem sum_take_le (sz : List Nat) (i : Nat) : (sz.take i).sum ≤ sz.sum := by
  have := List.take_append_drop i sz
  have h2 := congrArg List.sum this
  rw [List.sum_append] at h2
  omega
section
variable {P : Program} {w : World} {K : PySem.W.Frag} {mg : Str → Option Value} {base : Heap}
abbrev N_law_kinds : List Str := ["_law_well_here", "_law_names_here", "_law_most", "_law_sizes", "_law_name", "_law_marks", "_law_kinds_here", "_law_size", "_law_makers_here", "_law_base", "_law_m", "_law_fields", "_law_f", "_law_pick"]
theorem sc_law_kinds : FnScope ["_law_well_here", "_law_names_here", "_law_most", "_law_sizes", "_law_name", "_law_marks", "_law_kinds_here", "_law_size", "_law_makers_here", "_law_base", "_law_m", "_law_fields", "_law_f", "_law_pick"] ["_law_well_here"] (defScope s_law_kinds) := ⟨rfl, rfl, rfl, by decide +kernel, rfl, by decide +kernel, by decide +kernel⟩
theorem c_law_kinds (T : Txt w K mg) : Cal P w K mg base 4 "_law_kinds" (spN 1 (r_kinds K)) [] := by
  obtain ⟨fd, F⟩ := T.f_law_kinds
  refine cal_mk F T.m_law_kinds (fun _ _ _ _ _ _ us hl => match us, hl with | [_], _ => rfl) sc_law_kinds (fun _ _ _ _ h => h.1) (fun cdv A outer s H vs Q E hr h => ?_)
  have hu := hu_of hr
  have hul := hul_of hr
  obtain ⟨_, w0, w1, m, rfl, W, hm, k⟩ := h
  refine ⟨_, (pss_cut (ps_set (i := 1) sc_law_kinds.nd rfl (by first | exact Or.inl rfl | exact Or.inr rfl) (pe_c (c_law_highs T) hr (by decide) (by rfl) (pa_cons (pv 0) (pa_cons (pe_ix (ix_listK (K := K) rfl) (pe_lst (pa_cons (pe_op op_add (pe_int) (pe_c (c_law_draw T) hr (by decide) (by rfl) (pa_cons (pv 0) (pa_cons (pe_int) pa_nil)))) (pa_cons (pe_op op_add (pe_int) (pe_c (c_law_draw T) hr (by decide) (by rfl) (pa_cons (pv 0) (pa_cons (pe_int) pa_nil)))) pa_nil))) (pe_op op_fdiv (pe_c (c_law_draw T) hr (by decide) (by rfl) (pa_cons (pv 0) (pa_cons (pe_int) pa_nil))) (pe_int)) (fun _ _ => rfl)) pa_nil))))
      (pss_cut (ps_set (i := 2) sc_law_kinds.nd rfl (by first | exact Or.inl rfl | exact Or.inr rfl) (pe_ix (ix_listK (K := K) rfl) (pe_lst (pa_cons (pe_op op_add (pe_int) (pe_c (c_law_draw T) hr (by decide) (by rfl) (pa_cons (pv 0) (pa_cons (pe_int) pa_nil)))) (pa_cons (pe_int) pa_nil))) (pe_callTy call_int1 (by rfl) T.b_int bt_int (pa_cons (pe_cmpR op_gt (pe_callB (call_lenK (K := K) rfl) (by rfl) T.b_len bt_len (pa_cons (pv 1) pa_nil)) (pe_int) (nomark _)) pa_nil)) (fun _ _ => rfl)))
      (pss_cut (ps_setLc (i := 3) (own := [("_law_name", 4)]) rfl sc_law_kinds.nd rfl rfl (sw_true rfl rfl rfl (by decide +kernel)) (pi_list (pv 1)) (blkOk_by (N := N_law_kinds) (sc := defScope s_law_kinds) (by decide +kernel)) (fun _ _ _ _ _ => pg_name (i := 4) sc_law_kinds.nd rfl (by first | exact Or.inl rfl | exact Or.inr rfl)) (fun _ _ _ _ _ => pts_nil) (fun _ _ _ _ _ => pe_ix (ix_listK (K := K) rfl) (pe_lst (pa_cons (pe_op op_add (pe_int) (pe_c (c_law_draw T) hr (by decide) (by rfl) (pa_cons (pv 0) (pa_cons (pe_int) pa_nil)))) (pa_cons (pv 2) pa_nil))) (pe_op op_fdiv (pe_c (c_law_draw T) hr (by decide) (by rfl) (pa_cons (pv 0) (pa_cons (pe_int) pa_nil))) (pe_int)) (fun _ _ => rfl)))
      (pss_cut (ps_set (i := 5) sc_law_kinds.nd rfl (by first | exact Or.inl rfl | exact Or.inr rfl) (pe_c (c_law_highs T) hr (by decide) (by rfl) (pa_cons (pv 0) (pa_cons (pe_callB (cr_sum rfl) (by rfl) T.b_sum bt_sum (pa_cons (pv 3) pa_nil)) pa_nil))))
      (pss_cons (ps_set (i := 6) sc_law_kinds.nd rfl (by first | exact Or.inl rfl | exact Or.inr rfl) (pe_lst (pa_nil)))
      (pss_cons (ps_for PassesOwn.never rfl (RZ.pi_zipA (by rfl) T.b_zip (pa_cons (pv 1) (pa_cons (pv 3) pa_nil))) (pg_tupK (K := K) (n := 2) rfl rfl (pgs_cons (pg_name (i := 4) sc_law_kinds.nd rfl (by first | exact Or.inl rfl | exact Or.inr rfl)) (pgs_cons (pg_name (i := 7) sc_law_kinds.nd rfl (by first | exact Or.inl rfl | exact Or.inr rfl)) pgs_nil)))
        (pss_cons (ps_set (i := 8) sc_law_kinds.nd rfl (by first | exact Or.inl rfl | exact Or.inr rfl) (pe_lst (pa_nil)))
      (pss_cons (ps_set (i := 9) sc_law_kinds.nd rfl (by first | exact Or.inl rfl | exact Or.inr rfl) (pe_c (c_law_draw T) hr (by decide) (by rfl) (pa_cons (pv 0) (pa_cons (pv 7) pa_nil))))
      (pss_cons (ps_for PassesOwn.never rfl (pi_range1 (by rfl) T.b_range (pa_cons (pv 7) pa_nil)) (pg_name (i := 10) sc_law_kinds.nd rfl (by first | exact Or.inl rfl | exact Or.inr rfl))
        (pss_cons (ps_set (i := 11) sc_law_kinds.nd rfl (by first | exact Or.inl rfl | exact Or.inr rfl) (pe_lst (pa_nil)))
      (pss_cons (ps_for PassesOwn.never rfl (pi_range1 (by rfl) T.b_range (pa_cons (pe_c (c_law_draw T) hr (by decide) (by rfl) (pa_cons (pv 0) (pa_cons (pe_int) pa_nil))) pa_nil)) (pg_name (i := 12) sc_law_kinds.nd rfl (by first | exact Or.inl rfl | exact Or.inr rfl))
        (pss_cons (ps_set (i := 13) sc_law_kinds.nd rfl (by first | exact Or.inl rfl | exact Or.inr rfl) (pe_c (c_law_draw T) hr (by decide) (by rfl) (pa_cons (pv 0) (pa_cons (pe_op op_add (pe_callB (call_lenK (K := K) rfl) (by rfl) T.b_len bt_len (pa_cons (pv 1) pa_nil)) (pe_int)) pa_nil))))
      (pss_one (ps_if (PW.pt (pw_or (pt_cmpR op_eq (pv 10) (pv 9) (nomark _)) (pw_or1 (pt_cmpR op_ge (pv 13) (pe_callB (call_lenK (K := K) rfl) (by rfl) T.b_len bt_len (pa_cons (pv 1) pa_nil)) (nomark _))))) (pss_one (ps_expr (pe_bm PySem.F.plainAttrs_list PySem.F.slot_list_append PySem.F.type_list_append mt_append (pv 11) (pa_cons (pe_str) pa_nil)))) (pss_one (ps_expr (pe_bm PySem.F.plainAttrs_list PySem.F.slot_list_append PySem.F.type_list_append mt_append (pv 11) (pa_cons (pe_ix (ix_listK (K := K) rfl) (pv 1) (pv 13) (fun _ _ => rfl)) pa_nil))))))))
      (pss_one (ps_expr (pe_bm PySem.F.plainAttrs_list PySem.F.slot_list_append PySem.F.type_list_append mt_append (pv 8) (pa_cons (pe_tup (pa_cons (pe_bm0 PySem.F.plainAttrs_list PySem.F.slot_list_pop PySem.F.type_list_pop mt_pop (pv 5)) (pa_cons (pe_callTy call_tuple_of (by rfl) T.b_tuple bt_tuple (pa_cons (pv 11) pa_nil)) pa_nil))) pa_nil)))))))
      (pss_one (ps_expr (pe_bm PySem.F.plainAttrs_list PySem.F.slot_list_append PySem.F.type_list_append mt_append (pv 6) (pa_cons (pe_tup (pa_cons (pv 4) (pa_cons (pe_callTy call_tuple_of (by rfl) T.b_tuple bt_tuple (pa_cons (pv 8) pa_nil)) pa_nil))) pa_nil))))))))
      (pss_one (ps_ret (pe_callTy call_tuple_of (by rfl) T.b_tuple bt_tuple (pa_cons (pv 6) pa_nil)))))))))), ?_⟩
  -- names
  refine ⟨fun σ' H' => ∃ (nl : Addr) (ns : List Str), σ' = [some (.ref w0), some (.ref nl), none, none, none, none, none, none, none, none, none, none, none, none] ∧ OW H w0 w1 [(nl, .lst (ns.map V.str))] H' (m + 403) ∧ 1 ≤ ns.length ∧ ns.length ≤ 8 ∧ ns.Nodup ∧ ∀ x ∈ ns, highB x = true, ?_, ?_⟩
  · refine ⟨_, rfl, _, rfl, rfl, w0, w1, 3, m, rfl, W, by omega, by omega, by omega, fun H1 g1 hg1 e1 W1 => ⟨_, _, rfl, rfl, _, rfl, rfl, w0, w1, 5, m + 1, rfl, W1, by omega, by omega, by omega, fun H2 g2 hg2 e2 W2 => ⟨_, _, rfl, rfl, by show 2 ≤ sizeLine; decide, fun L hL => ?_⟩⟩⟩
    have O1 := (OW.start W).draw (e1.trans e2) W2
    have O2 := O1.new (o := .lst [V.int (((1 + g1 : Nat)) : Int), V.int (((4 + g2 : Nat)) : Int)]) hL
    have el : ([V.int (1 + ((g1 : Nat) : Int)), V.int (4 + ((g2 : Nat) : Int))] : List V) = [V.int (((1 + g1 : Nat)) : Int), V.int (((4 + g2 : Nat)) : Int)] := by
      rw [show (1 : Int) + ((g1 : Nat) : Int) = ((1 + g1 : Nat) : Int) by omega, show (4 : Int) + ((g2 : Nat) : Int) = ((4 + g2 : Nat) : Int) by omega]
    have O2' : OW H w0 w1 [(L, .lst [V.int (1 + ((g1 : Nat) : Int)), V.int (4 + ((g2 : Nat) : Int))])] (upd H2 L (.lst [V.int (1 + ((g1 : Nat) : Int)), V.int (4 + ((g2 : Nat) : Int))])) (m + 1 + 1) := O2
    generalize upd H2 L (.lst [V.int (1 + ((g1 : Nat) : Int)), V.int (4 + ((g2 : Nat) : Int))]) = H3 at *
    refine ⟨_, rfl, rfl, w0, w1, 8, m + 1 + 1, rfl, O2'.w, by omega, by omega, by omega, fun H4 g4 hg4 e4 W4 => ?_⟩
    have O4 := O2'.draw e4 W4
    obtain ⟨n, hn, hn1, hn8⟩ : ∃ n : Nat, ([V.int (1 + ((g1 : Nat) : Int)), V.int (4 + ((g2 : Nat) : Int))] : List V)[g4 / 7]? = some (.int ((n : Nat) : Int)) ∧ 1 ≤ n ∧ n ≤ 8 := by
      rcases Nat.lt_or_ge g4 7 with q | q
      · rw [Nat.div_eq_of_lt q]
        exact ⟨1 + g1, by rw [el]; rfl, by omega, by omega⟩
      · have : g4 / 7 = 1 := by omega
        rw [this]
        exact ⟨4 + g2, by rw [el]; rfl, by omega, by omega⟩
    refine ⟨_, _, rfl, rfl, ⟨by decide, by decide⟩, L, _, ((g4 / 7 : Nat) : Int), _, rfl, rfl, SqL.of (O4.get 0 rfl), ix_nat hn, rfl, w0, w1, n, m + 1 + 1 + 1, rfl, W4, by omega, by omega, fun H5 l5 ns5 e5 W5 hl0 gl hlen hnd hhi => ?_⟩
    have O5 := (O4.draw e5 W5).tail
    have hnw := W4.new hl0
    refine ⟨l5, ns5, rfl, ⟨O5.e, by simp, ?_, ?_, ?_, W5.mono (by omega)⟩, by omega, by omega, hnd, hhi⟩
    · intro p hp
      cases List.mem_singleton.mp hp
      exact gl
    · intro p hp
      cases List.mem_singleton.mp hp
      exact O4.e.free hl0 (fun z => hnw.1 (List.mem_singleton.mp z))
    · intro p hp
      cases List.mem_singleton.mp hp
      exact hnw
  rintro σ' H1 ⟨nl, ns, rfl, O1, hn1, hn8, hnd, hhi⟩
  -- most
  refine ⟨fun σ' H' => ∃ (mo : Nat), σ' = [some (.ref w0), some (.ref nl), some (.int ((mo : Nat) : Int)), none, none, none, none, none, none, none, none, none, none, none] ∧ OW H w0 w1 [(nl, .lst (ns.map V.str))] H' (m + 404) ∧ 1 ≤ mo ∧ mo ≤ 8 ∧ ns.length * max 3 mo ≤ 24, ?_, ?_⟩
  · refine ⟨_, rfl, rfl, w0, w1, 5, m + 403, rfl, O1.w, by omega, by omega, by omega, fun H2 g2 hg2 e2 W2 => ⟨_, _, rfl, rfl, by show 2 ≤ sizeLine; decide, fun L hL => ?_⟩⟩
    have O2 := (O1.draw e2 W2).new (o := .lst [V.int (4 + ((g2 : Nat) : Int)), V.int 3]) hL
    refine ⟨_, rfl, nl, _, rfl, .inl (SqL.of (O2.get 1 rfl)), _, _, rfl, rfl, .inr ⟨_, rfl, ?_⟩⟩
    rw [List.length_map]
    by_cases hb : (3 : Int) < ((ns.length : Nat) : Int)
    · rw [decide_eq_true hb]
      refine ⟨L, _, 1, .int ((3 : Nat) : Int), rfl, rfl, SqL.of (O2.get 0 rfl), rfl, ?_⟩
      exact ⟨3, rfl, O2.tail, by omega, by omega, by show ns.length * 3 ≤ 24; omega⟩
    · rw [decide_eq_false hb]
      refine ⟨L, _, 0, .int (((4 + g2 : Nat)) : Int), rfl, rfl, SqL.of (O2.get 0 rfl), ?_, ?_⟩
      · rw [show (((4 + g2 : Nat)) : Int) = 4 + ((g2 : Nat) : Int) by omega]
        rfl
      exact ⟨4 + g2, rfl, O2.tail, by omega, by omega, by
        have : ns.length ≤ 3 := by omega
        have h8 : max 3 (4 + g2) ≤ 8 := by omega
        calc ns.length * max 3 (4 + g2) ≤ 3 * 8 := Nat.mul_le_mul this h8
          _ = 24 := rfl⟩
  rintro σ' H2 ⟨mo, rfl, O2, hm1, hm8, hm24⟩
  -- sizes
  refine ⟨fun σ' H' => ∃ (sl : Addr) (sz : List Nat), σ' = [some (.ref w0), some (.ref nl), some (.int ((mo : Nat) : Int)), some (.ref sl), none, none, none, none, none, none, none, none, none, none] ∧ OW H w0 w1 [(sl, .lst (vN sz)), (nl, .lst (ns.map V.str))] H' (m + 404 + 2 * 8) ∧ sz.length = ns.length ∧ (∀ s ∈ sz, 1 ≤ s ∧ s ≤ max 3 mo), ?_, ?_⟩
  · refine ⟨_, rfl, nl, rfl, ⟨_, SqL.of (O2.get 0 rfl)⟩, fun D hD => ?_⟩
    refine lc_list (xs := ns.map V.str) (fun i H' => ∃ (sz : List Nat) (m' : Nat), OW H w0 w1 [(D, .lst (vN sz)), (nl, .lst (ns.map V.str))] H' m' ∧ m' ≤ m + 404 + 2 * i ∧ sz.length = i ∧ (∀ s ∈ sz, 1 ≤ s ∧ s ≤ max 3 mo))
      ⟨[], m + 404, O2.new hD, by omega, rfl, fun s hs => nomatch hs⟩ (fun i H' _ q => by
        obtain ⟨sz, m', O, _⟩ := q
        exact SqL.of (O.get 1 rfl)) ?_ ?_
    · rintro i x H3 hx ⟨sz, m', O3, hm', hl3, hsz⟩
      have hi : i < ns.length := by have := (List.getElem?_eq_some_iff.mp hx).1; rwa [List.length_map] at this
      refine ⟨rfl, tYes_ (iteT ?_)⟩
      refine ⟨_, rfl, rfl, w0, w1, 3, m', rfl, O3.w, by omega, by omega, by omega, fun H4 g4 hg4 e4 W4 => ⟨_, _, rfl, rfl, _, rfl, by show 2 ≤ sizeLine; decide, fun L hL => ?_⟩⟩
      have O4 := (O3.draw e4 W4).new (o := .lst [V.int (1 + ((g4 : Nat) : Int)), V.int ((mo : Nat) : Int)]) hL
      refine ⟨_, rfl, rfl, w0, w1, 9, m' + 1, rfl, O4.w, by omega, by omega, by omega, fun H5 g5 hg5 e5 W5 => ?_⟩
      have O5 := O4.draw e5 W5
      obtain ⟨n, hn, hn1, hn8⟩ : ∃ n : Nat, ([V.int (1 + ((g4 : Nat) : Int)), V.int ((mo : Nat) : Int)] : List V)[g5 / 8]? = some (.int ((n : Nat) : Int)) ∧ 1 ≤ n ∧ n ≤ max 3 mo := by
        rcases Nat.lt_or_ge g5 8 with q | q
        · rw [Nat.div_eq_of_lt q]
          exact ⟨1 + g4, by rw [show (1 : Int) + ((g4 : Nat) : Int) = ((1 + g4 : Nat) : Int) by omega]; rfl, by omega, by omega⟩
        · have : g5 / 8 = 1 := by omega
          rw [this]
          exact ⟨mo, rfl, by omega, by omega⟩
      refine ⟨_, _, rfl, rfl, ⟨by decide, by decide⟩, L, _, ((g5 / 8 : Nat) : Int), _, rfl, rfl, SqL.of (O5.get 0 rfl), ix_nat hn, ?_⟩
      refine ⟨_, O5.get 1 rfl, by unfold vN; rw [List.length_map]; exact szl (by omega), sz ++ [n], m' + 1 + 1, ?_, by omega, by rw [List.length_append, hl3]; rfl, ?_⟩
      · have := O5.tail.set (o' := .lst (vN sz ++ [V.int ((n : Nat) : Int)])) 0 rfl
        have e : vN (sz ++ [n]) = vN sz ++ [V.int ((n : Nat) : Int)] := by unfold vN; rw [List.map_append]; rfl
        rw [e]
        exact this
      · intro s hs
        rcases List.mem_append.mp hs with q | q
        · exact hsz s q
        · simp at q
          rw [q]
          exact ⟨hn1, hn8⟩
    · rintro H3 ⟨sz, m', O3, hm', hl3, hsz⟩
      rw [List.length_map] at hl3 hm'
      exact ⟨D, sz, rfl, O3.mono (by omega), hl3, hsz⟩
  rintro σ' H3 ⟨sl, sz, rfl, O3, hsl, hsz⟩
  have hsum : sz.sum ≤ 24 := by
    have h1 := sum_le (b := max 3 mo) sz fun s hs => (hsz s hs).2
    rw [hsl] at h1
    omega
  refine ⟨fun σ' H' => ∃ (mk : Addr) (ms : List Str), σ' = [some (.ref w0), some (.ref nl), some (.int ((mo : Nat) : Int)), some (.ref sl), none, some (.ref mk), none, none, none, none, none, none, none, none] ∧ OW H w0 w1 [(mk, .lst (ms.map V.str)), (sl, .lst (vN sz)), (nl, .lst (ns.map V.str))] H' (m + 820) ∧ ms.length = sz.sum ∧ ms.Nodup ∧ (∀ x ∈ ms, highB x = true), ?_, ?_⟩
  · have ev : vN sz = (sz.map fun n : Nat => (n : Int)).map V.int := by unfold vN; rw [List.map_map]; rfl
    refine ⟨_, rfl, _, rfl, sl, sz.map fun n : Nat => (n : Int), rfl, by rw [← ev]; exact SqL.of (O3.get 0 rfl), ?_⟩
    rw [sum_cast]
    refine ⟨rfl, w0, w1, sz.sum, m + 404 + 2 * 8, rfl, O3.w, by omega, by omega, fun H5 l5 ms5 e5 W5 hl0 gl hlen hnd hhi => ?_⟩
    have O5 := O3.draw e5 W5
    have hnw := O3.w.new hl0
    refine ⟨l5, ms5, rfl, ⟨O5.e, ?_, ?_, ?_, ?_, W5.mono (by omega)⟩, hlen, hnd, hhi⟩
    · rw [List.map_cons, List.nodup_cons]
      refine ⟨fun q => ?_, O5.nd⟩
      obtain ⟨p, hp, e⟩ := List.mem_map.mp q
      have := O3.at_ p hp
      rw [e, hl0] at this
      cases this
    · intro p hp
      rcases List.mem_cons.mp hp with rfl | q
      · exact gl
      · exact O5.at_ p q
    · intro p hp
      rcases List.mem_cons.mp hp with rfl | q
      · exact O3.e.free hl0 (fun z => hnw.1 (List.mem_singleton.mp z))
      · exact O5.fr p q
    · intro p hp
      rcases List.mem_cons.mp hp with rfl | q
      · exact hnw
      · exact O5.ne p q
  rintro σ' H4 ⟨mk, ms, rfl, O4, hml, hmnd, hmhi⟩
  refine ⟨Nat.zero_le _, fun kh hkh => ?_⟩
  have O5 := O4.new (o := .lst []) hkh
  generalize upd H4 kh (.lst []) = H5 at *
  refine ⟨_, rfl, _, rfl, nl, sl, _, _, rfl, .inl ⟨SqL.of (O5.get 3 rfl), SqL.of (O5.get 2 rfl), ?_⟩⟩
  have hmkl : ms.map V.str = stkS ms.reverse := by simp [stkS]
  rw [hmkl] at O5
  refine RZ.for_zipL (xs := ns.map V.str) (ys := vN sz) (by unfold vN; rw [List.length_map, List.length_map, hsl]) (fun i σ H' => ∃ (y4 y7 y8 y9 y10 y11 y12 y13 : Option V) (ks : Ks) (acc : List V) (m' : Nat), σ = [some (.ref w0), some (.ref nl), some (.int ((mo : Nat) : Int)), some (.ref sl), y4, some (.ref mk), some (.ref kh), y7, y8, y9, y10, y11, y12, y13] ∧
      OW H w0 w1 [(kh, .lst acc), (mk, .lst (stkS (ms.reverse.drop (sz.take i).sum))), (sl, .lst (vN sz)), (nl, .lst (ns.map V.str))] H' m' ∧ m' ≤ m + 820 + 80 * i ∧ TDs K H' acc (ks.map eKd) ∧ kNames ks = ns.take i ∧ mNames ks = ms.reverse.take (sz.take i).sum ∧
      (∀ kd ∈ ks, 1 ≤ kd.2.length ∧ kd.2.length ≤ 8 ∧ (∀ m ∈ kd.2, highB m.1 = true ∧ m.2.length ≤ 5 ∧ ∀ f ∈ m.2, f = "whole" ∨ f ∈ ns) ∧ ∃ m ∈ kd.2, ∀ f ∈ m.2, f = "whole"))
    ⟨none, none, none, none, none, none, none, none, [], [], m + 820, rfl, O5, by omega, .nil, rfl, rfl, fun kd hkd => nomatch hkd⟩ (fun i σ H' q => by
      obtain ⟨_, _, _, _, _, _, _, _, ks, acc, m', _, O, _⟩ := q
      exact ⟨SqL.of (O.get 3 rfl), SqL.of (O.get 2 rfl)⟩) ?_ ?_
  · rintro i x y T0 σ H6 hx hy ⟨y4, y7, y8, y9, y10, y11, y12, y13, ks, acc, m', rfl, O6, hm', td, hkn, hmn, hks⟩ hT
    obtain ⟨nm, hnm, rfl⟩ : ∃ nm, ns[i]? = some nm ∧ x = .str nm := by
      rw [List.getElem?_map] at hx
      cases q : ns[i]? with
      | none => rw [q] at hx; cases hx
      | some z => rw [q] at hx; exact ⟨z, rfl, (Option.some.inj hx).symm⟩
    obtain ⟨s, hs, rfl⟩ : ∃ s, sz[i]? = some s ∧ y = .int ((s : Nat) : Int) := by
      unfold vN at hy
      rw [List.getElem?_map] at hy
      cases q : sz[i]? with
      | none => rw [q] at hy; cases hy
      | some z => rw [q] at hy; exact ⟨z, rfl, (Option.some.inj hy).symm⟩
    have hin : i < ns.length := (List.getElem?_eq_some_iff.mp hnm).1
    obtain ⟨hs1, hs8⟩ := hsz s (List.mem_of_getElem? hs)
    have hst := sum_take hs
    have hsl2 := sum_take_le sz (i + 1)
    generalize hj : (sz.take i).sum = j at *
    have eT : Ext [] H6 (upd H6 T0 (.tup [.str nm, .int ((s : Nat) : Int)])) := Ext.new hT
    have O7 := O6.ext eT
    have td7 := td.keep eT.keep0
    have gT : (upd H6 T0 (.tup [.str nm, .int ((s : Nat) : Int)])) T0 = some (.tup [.str nm, .int ((s : Nat) : Int)]) := upd_same
    generalize upd H6 T0 (.tup [.str nm, .int ((s : Nat) : Int)]) = H7 at *
    refine ⟨T0, _, rfl, SqT.of gT, rfl, _, _, rfl, _, _, rfl, rfl, ?_⟩
    refine ⟨Nat.zero_le _, fun mh hmh => ?_⟩
    have O8 := O7.new (o := .lst []) hmh
    have td8 := td7.keep (Ext.new (W := []) (o := .lst []) hmh).keep0
    generalize upd H7 mh (.lst []) = H8 at *
    refine ⟨_, rfl, _, rfl, rfl, w0, w1, s, m', rfl, O8.w, by omega, by omega, by omega, fun H9 b hb e9 W9 => ?_⟩
    have O9 := O8.draw e9 W9
    have td9 := td8.keep (O8.w.kt e9)
    refine ⟨_, rfl, _, rfl, by omega, by omega, ?_⟩
    rw [show ((s : Nat) : Int).toNat = s by omega]
    refine for_range (fun l σ H' => ∃ (y10 y11 y12 y13 : Option V) (cur : List Mkr) (acc2 : List V) (m2 : Nat), σ = [some (.ref w0), some (.ref nl), some (.int ((mo : Nat) : Int)), some (.ref sl), some (.str nm), some (.ref mk), some (.ref kh), some (.int ((s : Nat) : Int)), some (.ref mh), some (.int ((b : Nat) : Int)), y10, y11, y12, y13] ∧
        OW H w0 w1 [(mh, .lst acc2), (kh, .lst acc), (mk, .lst (stkS (ms.reverse.drop (j + l)))), (sl, .lst (vN sz)), (nl, .lst (ns.map V.str))] H' m2 ∧ m2 ≤ m' + 1 + 7 * l ∧ TDs K H' acc (ks.map eKd) ∧ TDs K H' acc2 (cur.map eMk) ∧ cur.length = l ∧ l ≤ s ∧ mNames ks ++ cur.map (·.1) = ms.reverse.take (j + l) ∧
        (∀ m ∈ cur, highB m.1 = true ∧ m.2.length ≤ 5 ∧ ∀ f ∈ m.2, f = "whole" ∨ f ∈ ns) ∧ (b < l → ∃ m ∈ cur, ∀ f ∈ m.2, f = "whole"))
      ⟨_, _, _, _, [], [], m' + 1, rfl, O9, by omega, td9, .nil, rfl, Nat.zero_le _, by rw [hmn]; simp, (fun m hm => nomatch hm), fun q => absurd q (Nat.not_lt_zero _)⟩ ?_ ?_
    · rintro l σ H10 hl ⟨y10, y11, y12, y13, cur, acc2, m2, rfl, O10, hm2, tdk, tdm, hcl, hls, hnames, hcur, hbase⟩
      rw [Int.zero_add]
      refine ⟨Nat.zero_le _, fun fl hfl => ?_⟩
      have O11 := O10.new (o := .lst (([] : List Str).map V.str)) hfl
      have ef := (Ext.new (W := []) (o := .lst (([] : List Str).map V.str)) hfl).keep0
      have tdk11 := tdk.keep ef
      have tdm11 := tdm.keep ef
      replace O11 : OW H w0 w1 ((fl, .lst (([] : List Str).map V.str)) :: _) (upd H10 fl (.lst [])) m2 := O11
      replace tdk11 : TDs K (upd H10 fl (.lst [])) acc (ks.map eKd) := tdk11
      replace tdm11 : TDs K (upd H10 fl (.lst [])) acc2 (cur.map eMk) := tdm11
      generalize upd H10 fl (.lst []) = H11 at *
      refine ⟨_, rfl, rfl, w0, w1, 6, m2, rfl, O11.w, by omega, by omega, by omega, fun H12 g hg e12 W12 => ⟨_, rfl, by omega, by omega, ?_⟩⟩
      have O12 := O11.draw e12 W12
      have kt12 := O11.w.kt e12
      rw [show ((g : Nat) : Int).toNat = g by omega]
      refine for_range (fun q σ H' => ∃ (y12 y13 : Option V) (fs : List Str) (m3 : Nat), σ = [some (.ref w0), some (.ref nl), some (.int ((mo : Nat) : Int)), some (.ref sl), some (.str nm), some (.ref mk), some (.ref kh), some (.int ((s : Nat) : Int)), some (.ref mh), some (.int ((b : Nat) : Int)), some (.int ((l : Nat) : Int)), some (.ref fl), y12, y13] ∧
          OW H w0 w1 [(fl, .lst (fs.map V.str)), (mh, .lst acc2), (kh, .lst acc), (mk, .lst (stkS (ms.reverse.drop (j + l)))), (sl, .lst (vN sz)), (nl, .lst (ns.map V.str))] H' m3 ∧ m3 ≤ m2 + 1 + q ∧ fs.length = q ∧ q ≤ g ∧ TDs K H' acc (ks.map eKd) ∧ TDs K H' acc2 (cur.map eMk) ∧ (∀ f ∈ fs, f = "whole" ∨ f ∈ ns) ∧ (l = b → ∀ f ∈ fs, f = "whole"))
        ⟨_, _, [], m2 + 1, rfl, O12, by omega, rfl, Nat.zero_le _, tdk11.keep kt12, tdm11.keep kt12, (fun f hf => nomatch hf), (fun _ f hf => nomatch hf)⟩ ?_ ?_
      · rintro q σ H13 hq ⟨y12, y13, fs, m3, rfl, O13, hm3, hfl, hqg, tdk13, tdm13, hok, hwh⟩
        have hnl13 := O13.get 5 rfl
        refine ⟨_, rfl, _, rfl, nl, _, rfl, .inl (SqL.of hnl13), _, _, rfl, rfl, ?_⟩
        rw [List.length_map]
        refine ⟨rfl, w0, w1, ns.length + 2, m3, rfl, O13.w, by omega, by omega, by omega, fun H14 pk hpk e14 W14 => ?_⟩
        have O14 := O13.draw e14 W14
        have kt14 := O13.w.kt e14
        have put : ∀ (f : Str), (f = "whole" ∨ f ∈ ns) → (l = b → f = "whole") → (∃ (y12 y13 : Option V) (fs' : List Str) (m3' : Nat), [some (.ref w0), some (.ref nl), some (.int ((mo : Nat) : Int)), some (.ref sl), some (.str nm), some (.ref mk), some (.ref kh), some (.int ((s : Nat) : Int)), some (.ref mh), some (.int ((b : Nat) : Int)), some (.int ((l : Nat) : Int)), some (.ref fl), some (.int (0 + ((q : Nat) : Int))), some (.int ((pk : Nat) : Int))] = [some (.ref w0), some (.ref nl), some (.int ((mo : Nat) : Int)), some (.ref sl), some (.str nm), some (.ref mk), some (.ref kh), some (.int ((s : Nat) : Int)), some (.ref mh), some (.int ((b : Nat) : Int)), some (.int ((l : Nat) : Int)), some (.ref fl), y12, y13] ∧
            OW H w0 w1 [(fl, .lst (fs'.map V.str)), (mh, .lst acc2), (kh, .lst acc), (mk, .lst (stkS (ms.reverse.drop (j + l)))), (sl, .lst (vN sz)), (nl, .lst (ns.map V.str))] (upd H14 fl (.lst (fs.map V.str ++ [.str f]))) m3' ∧ m3' ≤ m2 + 1 + (q + 1) ∧ fs'.length = q + 1 ∧ q + 1 ≤ g ∧ TDs K (upd H14 fl (.lst (fs.map V.str ++ [.str f]))) acc (ks.map eKd) ∧ TDs K (upd H14 fl (.lst (fs.map V.str ++ [.str f]))) acc2 (cur.map eMk) ∧ (∀ f ∈ fs', f = "whole" ∨ f ∈ ns) ∧ (l = b → ∀ f ∈ fs', f = "whole")) := by
          intro f hf1 hf2
          have O15 := O14.set (o' := .lst (fs.map V.str ++ [.str f])) 0 rfl
          have kt15 : KeepT H14 (upd H14 fl (.lst (fs.map V.str ++ [.str f]))) := KeepT.upd (not_tup_lst (O14.get 0 rfl))
          refine ⟨_, _, fs ++ [f], m3 + 1, rfl, ?_, by omega, by rw [List.length_append, hfl]; rfl, by omega, (tdk13.keep kt14).keep kt15, (tdm13.keep kt14).keep kt15, ?_, ?_⟩
          · rw [List.map_append]
            exact O15
          · intro z hz
            rcases List.mem_append.mp hz with a | a
            · exact hok z a
            · simp at a
              rw [a]
              exact hf1
          · intro e z hz
            rcases List.mem_append.mp hz with a | a
            · exact hwh e z a
            · simp at a
              rw [a]
              exact hf2 e
        have hfl14 := O14.get 0 rfl
        have hnl14 := O14.get 5 rfl
        have hfz : (fs.map V.str).length < sizeLine := by rw [List.length_map]; exact szl (by omega)
        refine ⟨_, rfl, _, rfl, rfl, _, rfl, ?_⟩
        by_cases hlb : l = b
        · rw [decide_eq_true (by rw [hlb])]
          refine iteT (iteT ⟨_, rfl, .inl ⟨rfl, _, SqL.of hfl14⟩, fl, _, _, rfl, rfl, hfl14, hfz, ?_⟩)
          exact put "whole" (.inl rfl) (fun _ => rfl)
        rw [dneq (by omega)]
        refine iteF ⟨_, rfl, _, rfl, nl, _, rfl, .inl (SqL.of hnl14), _, _, rfl, rfl, _, rfl, ?_⟩
        rw [List.length_map]
        by_cases hpn : ((ns.length : Nat) : Int) ≤ ((pk : Nat) : Int)
        · rw [decide_eq_true hpn]
          refine iteT ⟨_, rfl, .inl ⟨rfl, _, SqL.of hfl14⟩, fl, _, _, rfl, rfl, hfl14, hfz, ?_⟩
          exact put "whole" (.inl rfl) (fun _ => rfl)
        rw [decide_eq_false hpn]
        have hpk' : ns[pk]? = some (ns[pk]'(by omega)) := List.getElem?_eq_getElem _
        refine iteF ⟨_, rfl, .inl ⟨rfl, _, SqL.of hfl14⟩, _, rfl, _, rfl, nl, _, _, .str (ns[pk]'(by omega)), rfl, rfl, SqL.of hnl14, ix_nat (by rw [List.getElem?_map, hpk']; rfl), fl, _, _, rfl, rfl, hfl14, hfz, ?_⟩
        exact put _ (.inr (List.getElem_mem _)) (fun e => absurd e hlb)
      · rintro σ H13 ⟨y12, y13, fs, m3, rfl, O13, hm3, hfl, hqg, tdk13, tdm13, hok, hwh⟩
        have hjl : j + l < ms.reverse.length := by rw [List.length_reverse, hml]; omega
        have hdrop : ms.reverse.drop (j + l) = ms.reverse[j + l] :: ms.reverse.drop (j + l + 1) := List.drop_eq_getElem_cons hjl
        have hmh13 := O13.get 1 rfl
        have hmk13 := O13.get 3 rfl
        rw [hdrop] at hmk13
        generalize hmn1 : ms.reverse[j + l] = mn at *
        refine ⟨_, rfl, .inl ⟨rfl, _, SqL.of hmh13⟩, _, rfl, .inl ⟨rfl, _, SqL.of hmk13⟩, mk, _, .str mn, rfl, rfl, hmk13, stkS_pop _ _, ?_⟩
        rw [stkS_drop]
        have O14 := O13.set (o' := .lst (stkS (ms.reverse.drop (j + l + 1)))) 3 rfl
        have kt14 : KeepT H13 (upd H13 mk (.lst (stkS (ms.reverse.drop (j + l + 1))))) := KeepT.upd (not_tup_lst hmk13)
        have hfl14 := O14.get 0 rfl
        refine ⟨_, rfl, fl, _, rfl, .inl ⟨SqL.of hfl14, fun t1 ht1 => ⟨by show 2 ≤ sizeLine; decide, fun t2 ht2 => ?_⟩⟩⟩
        have e1 := Ext.new (W := []) (o := .tup (fs.map V.str)) ht1
        have e2 := Ext.new (W := []) (o := .tup [.str mn, .ref t1]) ht2
        have O16 := (O14.ext e1).ext e2
        have hmh16 := O16.get 1 rfl
        have hal : acc2.length = l := by rw [tdm13.length, List.length_map, hcl]
        refine ⟨mh, _, _, rfl, rfl, hmh16, szl (by omega), ?_⟩
        have O17 := O16.tail.set (o' := .lst (acc2 ++ [.ref t2])) 0 rfl
        have kt17 := KeepT.upd (o := .lst (acc2 ++ [.ref t2])) (not_tup_lst hmh16)
        have ktA := (kt14.trans (e1.trans e2).keep0).trans kt17
        have tnew : TD K (upd (upd (upd (upd H13 mk (.lst (stkS (ms.reverse.drop (j + l + 1))))) t1 (.tup (fs.map V.str))) t2 (.tup [.str mn, .ref t1])) mh (.lst (acc2 ++ [.ref t2]))) (.ref t2) (eMk (mn, fs)) :=
          (TD.tup (SqT.of upd_same) (.cons (.str _) (.cons (.tup (SqT.of (e2 _ _ upd_same (fun m => nomatch m))) (TDs.ofStrs fs)) .nil))).keep kt17
        refine ⟨_, _, _, _, cur ++ [(mn, fs)], acc2 ++ [V.ref t2], m3, rfl, O17, by omega, tdk13.keep ktA, ?_, by rw [List.length_append, hcl]; rfl, by omega, ?_, ?_, ?_⟩
        · rw [List.map_append]
          exact (tdm13.keep ktA).append (.cons tnew .nil)
        · rw [List.map_append, ← List.append_assoc, hnames, show j + (l + 1) = (j + l) + 1 by omega, List.take_succ, List.getElem?_eq_getElem hjl, hmn1]
          rfl
        · intro z hz
          rcases List.mem_append.mp hz with a | a
          · exact hcur z a
          · simp at a
            rw [a]
            refine ⟨hmhi mn ?_, by show fs.length ≤ 5; omega, hok⟩
            rw [← hmn1]
            exact List.mem_reverse.mp (List.getElem_mem _)
        · intro hbl
          rcases Nat.lt_succ_iff_lt_or_eq.mp hbl with a | a
          · obtain ⟨z, hz1, hz2⟩ := hbase a
            exact ⟨z, List.mem_append_left _ hz1, hz2⟩
          · exact ⟨(mn, fs), by simp, hwh a.symm⟩
    · rintro σ H10 ⟨y10, y11, y12, y13, cur, acc2, m2, rfl, O10, hm2, tdk, tdm, hcl, hls, hnames, hcur, hbase⟩
      have hkh10 := O10.get 1 rfl
      have hmh10 := O10.get 0 rfl
      refine ⟨_, rfl, .inl ⟨rfl, _, SqL.of hkh10⟩, _, rfl, _, rfl, mh, _, rfl, .inl ⟨SqL.of hmh10, fun t1 ht1 => ⟨by show 2 ≤ sizeLine; decide, fun t2 ht2 => ?_⟩⟩⟩
      have e1 := Ext.new (W := []) (o := .tup acc2) ht1
      have e2 := Ext.new (W := []) (o := .tup [.str nm, .ref t1]) ht2
      have O16 := ((O10.ext e1).ext e2).tail
      have hkh16 := O16.get 0 rfl
      have hal : acc.length = i := by
        rw [tdk.length, List.length_map]
        have := congrArg List.length hkn
        unfold kNames at this
        rw [List.length_map, List.length_take] at this
        omega
      refine ⟨kh, _, _, rfl, rfl, hkh16, szl (by omega), ?_⟩
      have O17 := O16.set (o' := .lst (acc ++ [.ref t2])) 0 rfl
      have kt17 := KeepT.upd (o := .lst (acc ++ [.ref t2])) (not_tup_lst hkh16)
      have ktA := (e1.trans e2).keep0.trans kt17
      have tnew : TD K (upd (upd (upd H10 t1 (.tup acc2)) t2 (.tup [.str nm, .ref t1])) kh (.lst (acc ++ [.ref t2]))) (.ref t2) (eKd (nm, cur)) :=
        (TD.tup (SqT.of upd_same) (.cons (.str _) (.cons (.tup (SqT.of (e2 _ _ upd_same (fun m => nomatch m))) (tdm.keep (e1.trans e2).keep0)) .nil))).keep kt17
      refine ⟨_, _, _, _, _, _, _, _, ks ++ [(nm, cur)], acc ++ [V.ref t2], m2, rfl, by rw [hst]; exact O17, by omega, ?_, ?_, ?_, ?_⟩
      · rw [List.map_append]
        exact (tdk.keep ktA).append (.cons tnew .nil)
      · unfold kNames at hkn ⊢
        rw [List.map_append, hkn, List.take_succ, hnm]
        rfl
      · unfold mNames at hmn ⊢ hnames
        rw [List.flatMap_append, hst, ← hnames]
        simp
      · intro kd hkd
        rcases List.mem_append.mp hkd with a | a
        · exact hks kd a
        · simp at a
          rw [a]
          refine ⟨by show 1 ≤ cur.length; omega, by show cur.length ≤ 8; omega, hcur, hbase hb⟩
  · rintro σ H6 ⟨y4, y7, y8, y9, y10, y11, y12, y13, ks, acc, m', rfl, O6, hm', td, hkn, hmn, hks⟩
    rw [List.length_map] at hkn hmn hm'
    rw [List.take_length] at hkn
    rw [← hsl, List.take_length] at hmn
    refine ⟨_, rfl, kh, _, rfl, .inl ⟨SqL.of (O6.get 0 rfl), fun t ht => ?_⟩⟩
    have eT : Ext [] H6 (upd H6 t (.tup acc)) := Ext.new ht
    have hkl : ks.length = ns.length := by have := congrArg List.length hkn; unfold kNames at this; rwa [List.length_map] at this
    refine k _ _ ks (O6.e.trans (eT.mono (fun a m => nomatch m))) ((O6.w.ext eT).mono (by omega)) (.tup (SqT.of upd_same) (td.keep eT.keep0)) ⟨by omega, ?_, fun kd hkd => ⟨(hks kd hkd).1, (hks kd hkd).2.1⟩, ?_, by rw [hkn]; exact hnd, ?_⟩ (fun kd hkd => (hks kd hkd).2.2.2)
    · intro kd hkd
      refine hhi kd.1 ?_
      rw [← hkn]
      exact List.mem_map_of_mem hkd
    · intro kd hkd mk hmk
      rw [hkn]
      exact (hks kd hkd).2.2.1 mk hmk
    · rw [hmn]
      exact ((List.Perm.nodup_iff (List.reverse_perm ms)).mpr hmnd).sublist (List.take_sublist _ _)
end
end K47

set_option Elab.async false
set_option linter.all false
set_option maxRecDepth 100000
set_option maxHeartbeats 4000000
namespace K47
open PySem PySem.Spec PyProof.Rows L2
open C8 hiding CX0 E0
/-! drawn values -/
/-- a comprehension that reads no name of a def around it -/
theorem blkOk_any {N : List Str} {sc sc' scope : Scope} {own : List (Str × Nat)} (h : blkC N sc' scope own = true) (hf : (scope.names.all fun y => match y.2 with | .free => false | _ => true) = true) : BlkOk N sc scope own := by
  have b := blkOk_by h
  refine ⟨b.kind, b.uniq, b.ix, fun y hy e => ?_, b.own⟩
  have := List.all_eq_true.mp hf y hy
  rw [e] at this
  cases this
def plainB (m : Mkr) : Bool := m.2.all fun f => decide (f = "whole")
def wt (k : Str) : Nat := if k = "whole" then 1 else 6
def wts (l : List Str) : Nat := (l.map wt).sum
theorem wts_le6 : ∀ l : List Str, wts l ≤ 6 * l.length
  | [] => Nat.le_refl _
  | k :: l => by
    have ih := wts_le6 l
    have h : wt k ≤ 6 := by unfold wt; split <;> omega
    unfold wts at ih ⊢
    rw [List.map_cons, List.sum_cons, List.length_cons]
    omega
theorem wts_app (a b : List Str) : wts (a ++ b) = wts a + wts b := by unfold wts; rw [List.map_append, List.sum_append]
theorem wts_cons (a : Str) (b : List Str) : wts (a :: b) = wt a + wts b := by unfold wts; rw [List.map_cons, List.sum_cons]
theorem wts_plain : ∀ l : List Str, (∀ f ∈ l, f = "whole") → wts l = l.length
  | [], _ => rfl
  | k :: l, h => by
    rw [wts_cons, wts_plain l fun f hf => h f (List.mem_cons_of_mem _ hf), h k List.mem_cons_self]
    unfold wt
    rw [if_pos rfl, List.length_cons]
    omega
theorem plainB_iff {m : Mkr} : plainB m = true ↔ ∀ f ∈ m.2, f = "whole" := by
  unfold plainB
  rw [List.all_eq_true]
  exact ⟨fun h f hf => of_decide_eq_true (h f hf), fun h f hf => decide_eq_true (h f hf)⟩
theorem mem_tab {ks : Ks} {kd : Kd} {mk : Mkr} (h : kd ∈ ks) (hm : mk ∈ kd.2) : ∃ n, (mk.1, kd.1, n, mk.2) ∈ tabKs ks := by
  obtain ⟨n, hn⟩ := List.mem_iff_getElem?.mp hm
  refine ⟨n, ?_⟩
  unfold tabKs
  exact List.mem_flatMap.mpr ⟨kd, h, List.mem_of_getElem? (tabK_at hn)⟩
def pickW (f : Str) : Option V := if f = "whole" then none else some (.str f)
theorem pickW_nil (m : Mkr) : (m.2.filterMap pickW).isEmpty = plainB m := by
  unfold plainB
  induction m.2 with
  | nil => rfl
  | cons f l ih =>
    rw [List.filterMap_cons, List.all_cons]
    by_cases h : f = "whole"
    · rw [show pickW f = none by unfold pickW; rw [if_pos h], decide_eq_true h, Bool.true_and]
      exact ih
    · rw [show pickW f = some (.str f) by unfold pickW; rw [if_neg h], decide_eq_false h]
      rfl
def r_value (K : PySem.W.Frag) : List V → Hp → VK → Prop := fun vs H Q => ∃ (w cl : Addr) (m : Nat) (v : V) (ks : Ks) (kind : Str), vs = [.ref w, v, .str kind, .int 12] ∧ Well H w cl m ∧ m ≤ 800000000 ∧ TD K H v (eKs ks) ∧ KsOk ks ∧ KsPlain ks ∧ (kind = "whole" ∨ kind ∈ kNames ks) ∧
  ∀ H' u ws, Ext [w] H H' → Well H' w cl (m + 100) → TD K H' u (eWds ws) → Fits (tabKs ks) [kind] ws → ws.length ≤ 400 → Q u H'
section
variable {P : Program} {w : World} {K : PySem.W.Frag} {mg : Str → Option Value} {base : Heap}
abbrev N_law_value : List Str := ["_law_well_here", "_law_kinds_here", "_law_kind", "_law_most", "_law_words", "_law_due_here", "_law_turn_here", "_law_here", "_law_makers_here", "_law_plain", "_law_maker", "_law_field"]
theorem sc_law_value : FnScope ["_law_well_here", "_law_kinds_here", "_law_kind", "_law_most", "_law_words", "_law_due_here", "_law_turn_here", "_law_here", "_law_makers_here", "_law_plain", "_law_maker", "_law_field"] ["_law_well_here", "_law_kinds_here", "_law_kind", "_law_most"] (defScope s_law_value) := ⟨rfl, rfl, rfl, by decide +kernel, rfl, by decide +kernel, by decide +kernel⟩
theorem c_law_value (T : Txt w K mg) : Cal P w K mg base 3 "_law_value" (spN 4 (r_value K)) [] := by
  obtain ⟨fd, F⟩ := T.f_law_value
  refine cal_mk F T.m_law_value (fun _ _ _ _ _ _ us hl => match us, hl with | [_, _, _, _], _ => rfl) sc_law_value (fun _ _ _ _ h => h.1) (fun cdv A outer s H vs Q E hr h => ?_)
  have hu := hu_of hr
  have hul := hul_of hr
  obtain ⟨_, w0, w1, m, v, ks, kind, rfl, W, hm, tv, o, op, hk, k⟩ := h
  refine ⟨_, (pss_cons (ps_set (i := 4) sc_law_value.nd rfl (by first | exact Or.inl rfl | exact Or.inr rfl) (pe_lst (pa_nil)))
      (pss_cons (ps_set (i := 5) sc_law_value.nd rfl (by first | exact Or.inl rfl | exact Or.inr rfl) (pe_lst (pa_cons (pv 2) pa_nil)))
      (pss_cons (ps_for PassesOwn.never rfl (pi_range1 (by rfl) T.b_range (pa_cons (pe_int) pa_nil)) (pg_name (i := 6) sc_law_value.nd rfl (by first | exact Or.inl rfl | exact Or.inr rfl))
        (pss_cons (ps_if (pt_cmpR (op_eqNilK (K := K) rfl hul) (pv 5) (pe_lst (pa_nil)) (nomark _)) (pss_one (ps_ret (pe_callTy call_tuple_of (by rfl) T.b_tuple bt_tuple (pa_cons (pv 4) pa_nil)))) (pss_nil))
      (pss_cons (ps_set (i := 7) sc_law_value.nd rfl (by first | exact Or.inl rfl | exact Or.inr rfl) (pe_bm0 PySem.F.plainAttrs_list PySem.F.slot_list_pop PySem.F.type_list_pop mt_pop (pv 5)))
      (pss_cons (ps_if (pt_cmpR op_eq (pv 7) (pe_str) (nomark _)) (pss_cons (ps_expr (pe_bm PySem.F.plainAttrs_list PySem.F.slot_list_append PySem.F.type_list_append mt_append (pv 4) (pa_cons (pe_c (c_law_number T) hr (by decide) (by rfl) (pa_cons (pv 0) pa_nil)) pa_nil)))
      (pss_one (ps_continue))) (pss_nil))
      (pss_cons (ps_set (i := 8) sc_law_value.nd rfl (by first | exact Or.inl rfl | exact Or.inr rfl) (pe_c (c_law_makers T) hr (by decide) (by rfl) (pa_cons (pv 1) (pa_cons (pv 7) pa_nil))))
      (pss_cons (ps_setLc (i := 9) (own := [("_law_maker", 10)]) rfl sc_law_value.nd rfl rfl (sw_true rfl rfl rfl (by decide +kernel)) (pi_tupK (K := K) rfl (pv 8)) (blkOk_by (N := N_law_value) (sc := defScope s_law_value) (by decide +kernel)) (fun _ _ _ _ _ => pg_name (i := 10) sc_law_value.nd rfl (by first | exact Or.inl rfl | exact Or.inr rfl)) (fun _ _ _ _ _ => pts_one (pt_cmpR (op_eqNilK (K := K) rfl hul) (pe_lc (own := [("_law_field", 11)]) rfl sc_law_value.nd (pi_tupK (K := K) rfl (pe_ix (ix_tupK (K := K) rfl) (pv 10) (pe_int) (fun _ _ => rfl))) (blkOk_any (N := N_law_value) (sc' := defScope s_law_value) (by decide +kernel) (by decide +kernel)) (fun _ _ _ _ _ => pg_name (i := 11) sc_law_value.nd rfl (by first | exact Or.inl rfl | exact Or.inr rfl)) (fun _ _ _ _ _ => pts_one (pt_cmpR op_ne (pv 11) (pe_str) (nomark _))) (fun _ _ _ _ _ => pv 11)) (pe_lst (pa_nil)) (nomark _))) (fun _ _ _ _ _ => pv 10))
      (pss_cut (ps_set (i := 10) sc_law_value.nd rfl (by first | exact Or.inl rfl | exact Or.inr rfl) (pe_ix (ix_listK (K := K) rfl) (pv 9) (pe_c (c_law_draw T) hr (by decide) (by rfl) (pa_cons (pv 0) (pa_cons (pe_callB (call_lenK (K := K) rfl) (by rfl) T.b_len bt_len (pa_cons (pv 9) pa_nil)) pa_nil))) (fun _ _ => rfl)))
      (pss_cut (ps_if (pt_cmpR op_lt (pe_op op_add (pe_callB (call_lenK (K := K) rfl) (by rfl) T.b_len bt_len (pa_cons (pv 4) pa_nil)) (pe_op op_mul (pe_int) (pe_callB (call_lenK (K := K) rfl) (by rfl) T.b_len bt_len (pa_cons (pv 5) pa_nil)))) (pv 3) (nomark _)) (pss_one (ps_set (i := 10) sc_law_value.nd rfl (by first | exact Or.inl rfl | exact Or.inr rfl) (pe_ix (ix_tupK (K := K) rfl) (pv 8) (pe_c (c_law_draw T) hr (by decide) (by rfl) (pa_cons (pv 0) (pa_cons (pe_callB (call_lenK (K := K) rfl) (by rfl) T.b_len bt_len (pa_cons (pv 8) pa_nil)) pa_nil))) (fun _ _ => rfl)))) (pss_nil))
      (pss_cons (ps_expr (pe_bm PySem.F.plainAttrs_list PySem.F.slot_list_append PySem.F.type_list_append mt_append (pv 4) (pa_cons (pe_ix (ix_tupK (K := K) rfl) (pv 10) (pe_int) (fun _ _ => rfl)) pa_nil)))
      (pss_one (ps_expr (pe_bm PySem.F.plainAttrs_list PySem.F.slot_list_extend PySem.F.type_list_extend mt_extend (pv 5) (pa_cons (pe_revL (pe_callTy call_list_of (by rfl) T.b_list bt_list (pa_cons (pe_ix (ix_tupK (K := K) rfl) (pv 10) (pe_int) (fun _ _ => rfl)) pa_nil))) pa_nil)))))))))))))
      (pss_one (ps_ret (pe_callTy call_tuple_of (by rfl) T.b_tuple bt_tuple (pa_cons (pv 4) pa_nil))))))), ?_⟩
  refine ⟨Nat.zero_le _, fun wo hwo => ?_⟩
  have O1 := (OW.start W).new (o := .lst (([] : List Wd).map vWd)) hwo
  replace O1 : OW H w0 w1 [(wo, .lst (([] : List Wd).map vWd))] (upd H wo (.lst [])) m := O1
  have kt1 := (Ext.new (W := []) (o := .lst []) hwo).keep0
  generalize upd H wo (.lst []) = H1 at *
  refine ⟨_, rfl, by show 1 ≤ sizeLine; decide, fun du hdu => ?_⟩
  have O2 := O1.new (o := .lst (stkS [kind])) hdu
  replace O2 : OW H w0 w1 [(du, .lst (stkS [kind])), (wo, .lst (([] : List Wd).map vWd))] (upd H1 du (.lst [.str kind])) m := O2
  have kt2 := kt1.trans (Ext.new (W := []) (o := .lst [.str kind]) hdu).keep0
  generalize upd H1 du (.lst [.str kind]) = H2 at *
  refine ⟨_, rfl, by decide, by decide, ?_⟩
  refine for_range (fun i σ H' => ∃ (y6 y7 y8 y9 y10 y11 : Option V) (ws : List Wd) (due : List Str) (m' : Nat), σ = [some (.ref w0), some v, some (.str kind), some (.int 12), some (.ref wo), some (.ref du), y6, y7, y8, y9, y10, y11] ∧ OW H w0 w1 [(du, .lst (stkS due)), (wo, .lst (ws.map vWd))] H' m' ∧ KeepT H H' ∧ m' ≤ m + 2 * i ∧ ws.length = i ∧ i + wts due ≤ 48 ∧ (∀ f ∈ due, f = "whole" ∨ f ∈ kNames ks) ∧ ∀ rest, Fits (tabKs ks) due rest → Fits (tabKs ks) [kind] (ws ++ rest))
    ⟨_, _, _, _, _, _, [], [kind], m, rfl, O2, kt2, by omega, rfl, by have := wts_le6 [kind]; simp at this; omega, fun f hf => by cases List.mem_singleton.mp hf; exact hk, fun rest h => h⟩ ?_ ?_
  · rintro i σ H3 hi ⟨y6, y7, y8, y9, y10, y11, ws, due, m', rfl, O3, kt3, hm', hwl, hwt, hdk, hfit⟩
    have hdu3 := O3.get 0 rfl
    refine ⟨_, rfl, Nat.zero_le _, fun q hq => ?_⟩
    have eq := Ext.new (W := []) (o := .lst []) hq
    have O4 := O3.ext eq
    have kt4 := kt3.trans eq.keep0
    have gq : (upd H3 q (.lst [])) q = some (.lst []) := upd_same
    generalize upd H3 q (.lst []) = H4 at *
    refine ⟨du, q, _, rfl, rfl, SqL.of (O4.get 0 rfl), SqL.of gq, _, rfl, ?_⟩
    cases due with
    | nil =>
      refine iteT ⟨_, rfl, wo, _, rfl, .inl ⟨SqL.of (O4.get 1 rfl), fun t ht => ?_⟩⟩
      have eT := Ext.new (W := []) (o := .tup (ws.map vWd)) ht
      have O5 := O4.ext eT
      refine k _ _ ws O5.e (O5.w.mono (by omega)) (.tup (SqT.of upd_same) (TDs.vWd ws)) ?_ (by omega)
      have := hfit [] .nil
      rwa [List.append_nil] at this
    | cons kh due =>
      have hne : (stkS (kh :: due)).isEmpty = false := by simp [stkS]
      rw [hne]
      refine iteF ?_
      have hkh := hdk kh List.mem_cons_self
      rw [wts_cons] at hwt
      refine ⟨_, rfl, .inl ⟨rfl, _, SqL.of (O4.get 0 rfl)⟩, du, _, .str kh, rfl, rfl, O4.get 0 rfl, stkS_pop _ _, ?_⟩
      rw [stkS_drop]
      have O5 := O4.set (o' := .lst (stkS due)) 0 rfl
      have kt5 : KeepT H (upd H4 du (.lst (stkS due))) := kt4.trans (KeepT.upd (not_tup_lst (O4.get 0 rfl)))
      replace O5 : OW H w0 w1 [(du, .lst (stkS due)), (wo, .lst (ws.map vWd))] (upd H4 du (.lst (stkS due))) m' := O5
      generalize upd H4 du (.lst (stkS due)) = H5 at *
      refine ⟨_, rfl, rfl, _, rfl, ?_⟩
      by_cases hw : kh = "whole"
      · subst hw
        rw [decide_eq_true rfl]
        refine iteT ⟨_, rfl, .inl ⟨rfl, _, SqL.of (O5.get 1 rfl)⟩, _, rfl, rfl, w0, w1, m', rfl, O5.w, by omega, fun H6 z e6 W6 => ?_⟩
        have O6 := O5.draw e6 W6
        refine ⟨wo, _, _, rfl, rfl, O6.get 1 rfl, by rw [List.length_map]; exact szl (by omega), ?_⟩
        have O7 := O6.set (o' := .lst ((ws ++ [Wd.num z]).map vWd)) 1 rfl
        have e7 : (ws ++ [Wd.num z]).map vWd = ws.map vWd ++ [V.int z] := by rw [List.map_append]; rfl
        rw [e7] at O7
        have kt7 := (kt5.trans (O5.w.kt e6)).trans (KeepT.upd (o := .lst (ws.map vWd ++ [V.int z])) (not_tup_lst (O6.get 1 rfl)))
        refine ⟨_, _, _, _, _, _, ws ++ [Wd.num z], due, m' + 2, rfl, by rw [e7]; exact O7, kt7, by omega, by rw [List.length_append, hwl]; rfl, by have : wt "whole" = 1 := rfl; omega, fun f hf => hdk f (List.mem_cons_of_mem _ hf), fun rest hr => ?_⟩
        have := hfit (Wd.num z :: rest) (.num hr)
        rw [List.append_assoc]
        exact this
      rw [decide_eq_false (fun q => hw (V.str.inj q))]
      refine iteF ?_
      obtain ⟨kd, hkd, rfl⟩ := List.mem_map.mp (hkh.resolve_left hw)
      have hwk : wt kd.1 = 6 := by unfold wt; rw [if_neg hw]
      refine ⟨_, rfl, _, rfl, rfl, v, ks, kd, rfl, tv.keep kt5, o, hkd, fun u H6 e6 tu => ?_⟩
      have O6 := O5.ext e6
      have kt6 := kt5.trans e6.keep0
      obtain ⟨ma, mxs, rfl, hma, tm⟩ := (tu.keep e6.keep0).open_
      have hml : mxs.length = kd.2.length := by rw [tm.length, List.length_map]
      have hmks := o.mks kd hkd
      refine ⟨_, rfl, ma, rfl, ⟨_, hma⟩, fun D hD => ?_⟩
      refine lc_tup (xs := mxs) (fun j H' => Ext [] H6 H' ∧ ∃ acc, H' D = some (.lst acc) ∧ TDs K H' acc (((kd.2.take j).filter plainB).map eMk)) ⟨Ext.new hD, [], upd_same, .nil⟩ (fun j H' _ q => q.1.sqt hma) ?_ ?_
      · rintro j x H7 hx ⟨e7, acc, hl7, t7⟩
        obtain ⟨mk, hmk, tmk⟩ := TD.atV tm hx
        obtain ⟨xa, x1, x2, rfl, hxa, s1, s2⟩ := (tmk.keep e7.keep0).two
        obtain ⟨fa, rfl, hfa⟩ := s2.strs
        have hm5 := (o.mhi kd hkd mk (List.mem_of_getElem? hmk)).2.1
        refine ⟨rfl, _, rfl, xa, _, _, _, rfl, rfl, hxa, rfl, fa, rfl, ⟨_, hfa⟩, fun D2 hD2 => ?_⟩
        refine lcS (l := mk.2) (ed := PyData.str) (pick := pickW) (TDs.ofStrs mk.2) hfa hD2 (by omega) ?_ ?_
        · intro q y f H8 Q1 Q2 hy hf e8 kq1 kq2
          have ey : y = .str f := by
            rw [List.getElem?_map, hf] at hy
            exact (Option.some.inj hy).symm
          subst ey
          refine ⟨rfl, _, rfl, rfl, _, rfl, ?_⟩
          by_cases hfw : f = "whole"
          · rw [hfw, decide_eq_true rfl]
            refine iteF ?_
            exact kq2 (by unfold pickW; rw [if_pos hfw]) H8 (Ext.refl H8)
          · rw [decide_eq_false (fun q => hfw (V.str.inj q))]
            refine iteT ⟨_, rfl, kq1 _ (by unfold pickW; rw [if_neg hfw]) H8 (Ext.refl H8)⟩
        intro H8 e8 hl8
        refine ⟨Nat.zero_le _, fun q2 hq2 => ?_⟩
        have eq2 := Ext.new (W := []) (o := .lst []) hq2
        have e68 := e8.trans eq2
        have hl9 := e68 _ _ hl7 (fun m => nomatch m)
        refine ⟨D2, q2, _, rfl, rfl, SqL.of (eq2 _ _ hl8 (fun m => nomatch m)), SqL.of upd_same, _, rfl, ?_⟩
        rw [pickW_nil]
        cases hpb : plainB mk with
        | true =>
          refine iteT ⟨_, rfl, acc, hl9, ?_, (e7.trans e68).mut hD, acc ++ [V.ref xa], upd_same, ?_⟩
          · rw [t7.length, List.length_map]
            have h1 : ((kd.2.take j).filter plainB).length ≤ (kd.2.take j).length := List.length_filter_le ..
            rw [List.length_take] at h1
            exact szl (by omega)
          · rw [List.take_succ, hmk, List.filter_append, List.map_append]
            have e1 : (List.filter plainB (some mk).toList) = [mk] := by simp [hpb]
            rw [e1]
            have kk := e68.keep0.trans (KeepT.upd (o := .lst (acc ++ [V.ref xa])) (not_tup_lst hl9))
            exact (t7.keep kk).append (.cons (tmk.keep (e7.keep0.trans kk)) .nil)
        | false =>
          refine iteF ⟨e7.trans e68, acc, hl9, ?_⟩
          rw [List.take_succ, hmk, List.filter_append]
          have e1 : (List.filter plainB (some mk).toList) = [] := by simp [hpb]
          rw [e1, List.append_nil]
          exact t7.keep e68.keep0
      rintro H7 ⟨e7, pl, hl7, t7⟩
      rw [hml, List.take_length] at t7
      have hpl : pl.length = (kd.2.filter plainB).length := by rw [t7.length, List.length_map]
      have hpos : 1 ≤ (kd.2.filter plainB).length := by
        obtain ⟨mk, h1, h2⟩ := op kd hkd
        exact List.length_pos_of_mem (List.mem_filter.mpr ⟨h1, plainB_iff.mpr h2⟩)
      have hple : (kd.2.filter plainB).length ≤ kd.2.length := List.length_filter_le ..
      have O7 := O6.ext e7
      have kt7 := kt6.trans e7.keep0
      have hD7 := hl7
      refine ⟨fun σ' H' => ∃ (mk : Mkr) (x : V) (m2 : Nat), σ' = [some (.ref w0), some v, some (.str kind), some (.int 12), some (.ref wo), some (.ref du), some (.int (0 + ((i : Nat) : Int))), some (.str kd.1), some (.ref ma), some (.ref D), some x, y11] ∧ OW H w0 w1 [(du, .lst (stkS due)), (wo, .lst (ws.map vWd))] H' m2 ∧ m2 ≤ m' + 1 ∧ KeepT H H' ∧ SqT K H' ma mxs ∧ TDs K H' mxs (kd.2.map eMk) ∧ TD K H' x (eMk mk) ∧ mk ∈ kd.2 ∧ plainB mk = true, ?_, ?_⟩
      · refine ⟨_, rfl, _, rfl, _, rfl, D, _, rfl, .inl (SqL.of hD7), rfl, w0, w1, pl.length, m', rfl, O7.w, by omega, by omega, by omega, fun H8 g hg e8 W8 => ?_⟩
        have O8 := O7.draw e8 W8
        have kt8 := kt7.trans (O7.w.kt e8)
        have nDw : D ≠ w0 := (O6.w.new hD).1
        have hD8 := e8 _ _ hD7 (fun z => nDw (List.mem_singleton.mp z))
        obtain ⟨mk, hmk⟩ : ∃ mk, (kd.2.filter plainB)[g]? = some mk := ⟨_, List.getElem?_eq_getElem (by omega)⟩
        obtain ⟨x, hx, tx⟩ := TD.at_ (a := D) t7 hmk
        have hmm := List.mem_filter.mp (List.mem_of_getElem? hmk)
        have k68 : KeepT H6 H8 := e7.keep0.trans (O7.w.kt e8)
        refine ⟨D, _, _, x, rfl, rfl, SqL.of hD8, ix_nat hx, ?_⟩
        exact ⟨mk, x, m' + 1, rfl, O8, Nat.le_refl _, kt8, k68.sq hma, tm.keep k68, tx.keep (O7.w.kt e8), hmm.1, hmm.2⟩
      rintro σ' H8 ⟨mk, x, m2, rfl, O8, hm2, kt8, hma8, tm8, tx8, hmk, hpl8⟩
      refine ⟨fun σ' H' => ∃ (mk : Mkr) (x : V) (m2 : Nat), σ' = [some (.ref w0), some v, some (.str kind), some (.int 12), some (.ref wo), some (.ref du), some (.int (0 + ((i : Nat) : Int))), some (.str kd.1), some (.ref ma), some (.ref D), some x, y11] ∧ OW H w0 w1 [(du, .lst (stkS due)), (wo, .lst (ws.map vWd))] H' m2 ∧ m2 ≤ m' + 2 ∧ KeepT H H' ∧ TD K H' x (eMk mk) ∧ mk ∈ kd.2 ∧ (plainB mk = true ∨ ws.length + 6 * due.length < 12), ?_, ?_⟩
      · refine ⟨_, rfl, wo, _, rfl, .inl (SqL.of (O8.get 1 rfl)), _, rfl, du, _, rfl, .inl (SqL.of (O8.get 0 rfl)), _, _, rfl, rfl, .inl ⟨by decide, by decide⟩, _, _, rfl, rfl, _, rfl, _, _, rfl, rfl, _, rfl, ?_⟩
        rw [List.length_map, stkS_len]
        by_cases hb : ((ws.length : Nat) : Int) + 6 * ((due.length : Nat) : Int) < 12
        · rw [decide_eq_true hb]
          refine iteT ⟨_, rfl, _, rfl, _, rfl, ma, _, rfl, .inr hma8, rfl, w0, w1, mxs.length, m2, rfl, O8.w, by omega, by omega, by omega, fun H9 g hg e9 W9 => ?_⟩
          have kt9 := O8.w.kt e9
          obtain ⟨mk2, hmk2⟩ : ∃ mk2, kd.2[g]? = some mk2 := ⟨_, List.getElem?_eq_getElem (by omega)⟩
          obtain ⟨x2, hx2, tx2⟩ := TD.at_ (a := D) tm8 hmk2
          refine ⟨ma, _, _, x2, rfl, rfl, kt9.sq hma8, ix_nat hx2, ?_⟩
          exact ⟨mk2, x2, m2 + 1, rfl, O8.draw e9 W9, by omega, kt8.trans kt9, tx2.keep kt9, List.mem_of_getElem? hmk2, .inr (by omega)⟩
        · rw [decide_eq_false hb]
          exact iteF ⟨mk, x, m2, rfl, O8, by omega, kt8, tx8, hmk, .inl hpl8⟩
      rintro σ' H9 ⟨mk, x, m2, rfl, O9, hm2, kt9, tx9, hmk, hor⟩
      obtain ⟨xa, x1, x2, rfl, hxa, s1, s2⟩ := tx9.two
      cases s1.str_
      obtain ⟨fa, rfl, hfa⟩ := s2.strs
      have hm5 := (o.mhi kd hkd mk hmk).2.1
      refine ⟨_, rfl, .inl ⟨rfl, _, SqL.of (O9.get 1 rfl)⟩, _, rfl, xa, _, _, _, rfl, rfl, hxa, rfl, wo, _, _, rfl, rfl, O9.get 1 rfl, by rw [List.length_map]; exact szl (by omega), ?_⟩
      have e7 : (ws ++ [Wd.mk mk.1]).map vWd = ws.map vWd ++ [V.str mk.1] := by rw [List.map_append]; rfl
      have O10 := O9.set (o' := .lst ((ws ++ [Wd.mk mk.1]).map vWd)) 1 rfl
      rw [e7] at O10
      have kt10 := KeepT.upd (o := .lst (ws.map vWd ++ [V.str mk.1])) (not_tup_lst (O9.get 1 rfl))
      have hxa10 := kt10.sq hxa
      have hfa10 := kt10.sq hfa
      have ktH10 := kt9.trans kt10
      replace O10 : OW H w0 w1 [(du, .lst (stkS due)), (wo, .lst (ws.map vWd ++ [V.str mk.1]))] (upd H9 wo (.lst (ws.map vWd ++ [V.str mk.1]))) m2 := O10
      generalize upd H9 wo (.lst (ws.map vWd ++ [V.str mk.1])) = H10 at *
      refine ⟨_, rfl, .inl ⟨rfl, _, SqL.of (O10.get 0 rfl)⟩, _, rfl, xa, _, _, _, rfl, rfl, hxa10, rfl, fa, _, rfl, .inr hfa10, fun l1 hl1 => ?_⟩
      have e11 := Ext.new (W := []) (o := .lst (mk.2.map V.str)) hl1
      refine ⟨l1, _, rfl, SqL.of upd_same, fun l2 hl2 => ?_⟩
      have e12 := Ext.new (W := []) (o := .lst (mk.2.map V.str).reverse) hl2
      have O12 := (O10.ext e11).ext e12
      have hdl : due.length ≤ 48 := by
        have : ∀ l : List Str, l.length ≤ wts l := fun l => by
          induction l with
          | nil => exact Nat.le_refl _
          | cons a l ih => rw [wts_cons, List.length_cons]; have : 1 ≤ wt a := by unfold wt; split <;> omega
                           omega
        have := this due
        omega
      refine ⟨du, l2, _, _, rfl, rfl, O12.get 0 rfl, upd_same, by rw [stkS_len, List.length_reverse, List.length_map]; exact sz (by omega), ?_⟩
      rw [stkS_app]
      have O13 := O12.set (o' := .lst (stkS (mk.2 ++ due))) 0 rfl
      have kt13 := KeepT.upd (o := .lst (stkS (mk.2 ++ due))) (not_tup_lst (O12.get 0 rfl))
      refine ⟨_, _, _, _, _, _, ws ++ [Wd.mk mk.1], mk.2 ++ due, m2, rfl, by rw [e7]; exact O13, (ktH10.trans (e11.trans e12).keep0).trans kt13, by omega, by rw [List.length_append, hwl]; rfl, ?_, ?_, fun rest hr => ?_⟩
      · rw [wts_app]
        rcases hor with hp | hb
        · rw [wts_plain _ (plainB_iff.mp hp)]
          omega
        · have h1 := wts_le6 mk.2
          have h2 := wts_le6 due
          omega
      · intro f hf
        rcases List.mem_append.mp hf with a | a
        · exact (o.mhi kd hkd mk hmk).2.2 f a
        · exact hdk f (List.mem_cons_of_mem _ a)
      · obtain ⟨n, hn⟩ := mem_tab hkd hmk
        have := hfit (Wd.mk mk.1 :: rest) (.mk hn hr)
        rw [List.append_assoc]
        exact this
  · rintro σ H3 ⟨y6, y7, y8, y9, y10, y11, ws, due, m', rfl, O3, kt3, hm', hwl, hwt, hdk, hfit⟩
    have : ((400 : Int)).toNat = 400 := rfl
    omega
end
end K47

set_option Elab.async false
set_option linter.all false
set_option maxRecDepth 100000
set_option maxHeartbeats 4000000
namespace K47
open PySem PySem.Spec PyProof.Rows L2
open C8 hiding CX0 E0
/-! drawn instructions -/
def wl : List Str := ["set", "set", "copy", "add", "sub", "times", "new", "put", "take", "take", "push", "push", "drop", "save", "load", "less", "less", "table", "jump", "call", "call", "go", "return", "return"]
def r_row (K : PySem.W.Frag) : List V → Hp → VK → Prop := fun vs H Q => ∃ (w cl : Addr) (m : Nat) (size : Nat) (nl : Addr) (ns : List Str), vs = [.ref w, .int ((size : Nat) : Int), .ref nl] ∧ Well H w cl m ∧ m ≤ 700000000 ∧ 1 ≤ size ∧ size ≤ 100 ∧ H nl = some (.lst (ns.map V.str)) ∧ nl ≠ w ∧ 1 ≤ ns.length ∧ ns.length ≤ 100 ∧
  ∀ H' u ins, Ext [w] H H' → Well H' w cl (m + 40) → TD K H' u (eIns ins) → InsOk size ns ins → Q u H'
section
variable {P : Program} {w : World} {K : PySem.W.Frag} {mg : Str → Option Value} {base : Heap}
abbrev N_law_row : List Str := ["_law_well_here", "_law_size", "_law_names_here", "_law_words", "_law_word", "_law_r", "_law_s", "_law_t", "_law_o", "_law_k", "_law_some", "_law_more", "_law_last"]
theorem sc_law_row : FnScope ["_law_well_here", "_law_size", "_law_names_here", "_law_words", "_law_word", "_law_r", "_law_s", "_law_t", "_law_o", "_law_k", "_law_some", "_law_more", "_law_last"] ["_law_well_here", "_law_size", "_law_names_here"] (defScope s_law_row) := ⟨rfl, rfl, rfl, by decide +kernel, rfl, by decide +kernel, by decide +kernel⟩
theorem c_law_row (T : Txt w K mg) : Cal P w K mg base 4 "_law_row" (spN 3 (r_row K)) [] := by
  obtain ⟨fd, F⟩ := T.f_law_row
  refine cal_mk F T.m_law_row (fun _ _ _ _ _ _ us hl => match us, hl with | [_, _, _], _ => rfl) sc_law_row (fun _ _ _ _ h => h.1) (fun cdv A outer s H vs Q E hr h => ?_)
  have hu := hu_of hr
  have hul := hul_of hr
  obtain ⟨_, w0, w1, m, size, nl, ns, rfl, W, hm, hs1, hs2, hnl, nnw, hn1, hn2, k⟩ := h
  refine ⟨_, (pss_cons (ps_set (i := 3) sc_law_row.nd rfl (by first | exact Or.inl rfl | exact Or.inr rfl) (pe_lst (pa_cons (pe_str) (pa_cons (pe_str) (pa_cons (pe_str) (pa_cons (pe_str) (pa_cons (pe_str) (pa_cons (pe_str) (pa_cons (pe_str) (pa_cons (pe_str) (pa_cons (pe_str) (pa_cons (pe_str) (pa_cons (pe_str) (pa_cons (pe_str) (pa_cons (pe_str) (pa_cons (pe_str) pa_nil))))))))))))))))
      (pss_cons (ps_set (i := 3) sc_law_row.nd rfl (by first | exact Or.inl rfl | exact Or.inr rfl) (pe_op op_cat (pv 3) (pe_lst (pa_cons (pe_str) (pa_cons (pe_str) (pa_cons (pe_str) (pa_cons (pe_str) (pa_cons (pe_str) (pa_cons (pe_str) (pa_cons (pe_str) (pa_cons (pe_str) (pa_cons (pe_str) (pa_cons (pe_str) pa_nil)))))))))))))
      (pss_cut (ps_set (i := 4) sc_law_row.nd rfl (by first | exact Or.inl rfl | exact Or.inr rfl) (pe_ix (ix_listK (K := K) rfl) (pv 3) (pe_c (c_law_draw T) hr (by decide) (by rfl) (pa_cons (pv 0) (pa_cons (pe_callB (call_lenK (K := K) rfl) (by rfl) T.b_len bt_len (pa_cons (pv 3) pa_nil)) pa_nil))) (fun _ _ => rfl)))
      (pss_cons (ps_par3 (i := 5) (j := 6) (l := 7) rfl sc_law_row.nd rfl rfl rfl (by decide) (by decide) (by decide) rfl rfl rfl (pa_cons (pe_c (c_law_draw T) hr (by decide) (by rfl) (pa_cons (pv 0) (pa_cons (pe_int) pa_nil))) (pa_cons (pe_c (c_law_draw T) hr (by decide) (by rfl) (pa_cons (pv 0) (pa_cons (pe_int) pa_nil))) (pa_cons (pe_c (c_law_draw T) hr (by decide) (by rfl) (pa_cons (pv 0) (pa_cons (pe_int) pa_nil))) pa_nil))) (by rfl))
      (pss_cut (ps_set (i := 8) sc_law_row.nd rfl (by first | exact Or.inl rfl | exact Or.inr rfl) (pe_ix (ix_listK (K := K) rfl) (pe_lst (pa_cons (pe_c (c_law_draw T) hr (by decide) (by rfl) (pa_cons (pv 0) (pa_cons (pe_int) pa_nil))) (pa_cons (pe_c (c_law_draw T) hr (by decide) (by rfl) (pa_cons (pv 0) (pa_cons (pe_int) pa_nil))) pa_nil))) (pe_op op_fdiv (pe_c (c_law_draw T) hr (by decide) (by rfl) (pa_cons (pv 0) (pa_cons (pe_int) pa_nil))) (pe_int)) (fun _ _ => rfl)))
      (pss_cons (ps_if (pt_cmpR op_eq (pv 4) (pe_str) (nomark _)) (pss_one (ps_ret (pe_tup (pa_cons (pv 4) (pa_cons (pv 5) (pa_cons (pe_c (c_law_near T) hr (by decide) (by rfl) (pa_cons (pv 0) (pa_cons (pv 1) pa_nil))) pa_nil)))))) (pss_nil))
      (pss_cons (ps_if (pt_cmpR op_eq (pv 4) (pe_str) (nomark _)) (pss_one (ps_ret (pe_tup (pa_cons (pv 4) (pa_cons (pv 5) (pa_cons (pv 6) (pa_cons (pe_ix (ix_listK (K := K) rfl) (pe_lst (pa_cons (pe_op op_sub (pe_c (c_law_draw T) hr (by decide) (by rfl) (pa_cons (pv 0) (pa_cons (pe_int) pa_nil))) (pe_int)) (pa_cons (pe_op op_pow (pe_int) (pe_int)) (pa_cons (pe_un un_neg (pe_op op_pow (pe_int) (pe_int))) pa_nil)))) (pe_callB (call_max2 rfl) (by rfl) T.b_max bt_max (pa_cons (pe_int) (pa_cons (pe_op op_sub (pe_c (c_law_draw T) hr (by decide) (by rfl) (pa_cons (pv 0) (pa_cons (pe_int) pa_nil))) (pe_int)) pa_nil))) (fun _ _ => rfl)) pa_nil))))))) (pss_nil))
      (pss_cons (ps_if (pt_cmpR op_eq (pv 4) (pe_str) (nomark _)) (pss_one (ps_ret (pe_tup (pa_cons (pv 4) (pa_cons (pv 5) (pa_cons (pe_callTy call_tuple_of (by rfl) T.b_tuple bt_tuple (pa_cons (pe_lc (own := [("_law_k", 9)]) rfl sc_law_row.nd (pi_range1 (by rfl) T.b_range (pa_cons (pe_op op_add (pe_int) (pe_c (c_law_draw T) hr (by decide) (by rfl) (pa_cons (pv 0) (pa_cons (pe_int) pa_nil)))) pa_nil)) (blkOk_by (N := N_law_row) (sc := defScope s_law_row) (by decide +kernel)) (fun _ _ _ _ _ => pg_name (i := 9) sc_law_row.nd rfl (by first | exact Or.inl rfl | exact Or.inr rfl)) (fun _ _ _ _ _ => pts_nil) (fun _ _ _ _ _ => pe_c (c_law_draw T) hr (by decide) (by rfl) (pa_cons (pv 0) (pa_cons (pv 1) pa_nil)))) pa_nil)) pa_nil)))))) (pss_nil))
      (pss_cons (ps_if (pt_cmpR op_eq (pv 4) (pe_str) (nomark _)) (pss_one (ps_ret (pe_tup (pa_cons (pv 4) (pa_cons (pe_ix (ix_listK (K := K) rfl) (pe_lst (pa_cons (pe_c (c_law_draw T) hr (by decide) (by rfl) (pa_cons (pv 0) (pa_cons (pe_int) pa_nil))) (pa_cons (pe_int) pa_nil))) (pe_op op_fdiv (pe_c (c_law_draw T) hr (by decide) (by rfl) (pa_cons (pv 0) (pa_cons (pe_int) pa_nil))) (pe_int)) (fun _ _ => rfl)) pa_nil))))) (pss_nil))
      (pss_cons (ps_if (pt_cmpR op_eq (pv 4) (pe_str) (nomark _)) (pss_one (ps_ret (pe_tup (pa_cons (pv 4) (pa_cons (pv 5) (pa_cons (pe_op op_add (pe_int) (pe_ix (ix_listK (K := K) rfl) (pe_lst (pa_cons (pe_c (c_law_draw T) hr (by decide) (by rfl) (pa_cons (pv 0) (pa_cons (pe_int) pa_nil))) (pa_cons (pe_int) pa_nil))) (pe_op op_fdiv (pe_c (c_law_draw T) hr (by decide) (by rfl) (pa_cons (pv 0) (pa_cons (pe_int) pa_nil))) (pe_int)) (fun _ _ => rfl))) pa_nil)))))) (pss_nil))
      (pss_cons (ps_if (pt_cmpR (op_inK (K := K) rfl) (pv 4) (pe_tup (pa_cons (pe_str) (pa_cons (pe_str) pa_nil))) (by rfl)) (pss_one (ps_ret (pe_tup (pa_cons (pv 4) (pa_cons (pe_ix (ix_listK (K := K) rfl) (pv 2) (pe_c (c_law_draw T) hr (by decide) (by rfl) (pa_cons (pv 0) (pa_cons (pe_callB (call_lenK (K := K) rfl) (by rfl) T.b_len bt_len (pa_cons (pv 2) pa_nil)) pa_nil))) (fun _ _ => rfl)) pa_nil))))) (pss_nil))
      (pss_cons (ps_set (i := 10) sc_law_row.nd rfl (by first | exact Or.inl rfl | exact Or.inr rfl) (pe_disp (pps_cons (pe_str) (pe_tup (pa_cons (pe_str) (pa_cons (pv 5) (pa_cons (pv 6) pa_nil)))) (pps_cons (pe_str) (pe_tup (pa_cons (pe_str) (pa_cons (pv 5) (pa_cons (pv 8) (pa_cons (pv 6) pa_nil))))) (pps_cons (pe_str) (pe_tup (pa_cons (pe_str) (pa_cons (pv 5) (pa_cons (pv 6) (pa_cons (pv 8) pa_nil))))) (pps_cons (pe_str) (pe_tup (pa_cons (pe_str) (pa_cons (pv 8) pa_nil))) (pps_nil))))) (by rfl) (by rfl) (fun z => by cases z) (by decide)))
      (pss_cons (ps_set (i := 11) sc_law_row.nd rfl (by first | exact Or.inl rfl | exact Or.inr rfl) (pe_disp (pps_cons (pe_str) (pe_tup (pa_cons (pe_str) (pa_cons (pv 8) (pa_cons (pv 5) pa_nil)))) (pps_cons (pe_str) (pe_tup (pa_cons (pe_str) (pa_cons (pv 5) (pa_cons (pv 8) pa_nil)))) (pps_cons (pe_str) (pe_tup (pa_cons (pe_str) (pa_cons (pv 5) (pa_cons (pv 6) (pa_cons (pe_c (c_law_draw T) hr (by decide) (by rfl) (pa_cons (pv 0) (pa_cons (pv 1) pa_nil))) pa_nil))))) (pps_nil)))) (by rfl) (by rfl) (fun z => by cases z) (by decide)))
      (pss_cons (ps_set (i := 12) sc_law_row.nd rfl (by first | exact Or.inl rfl | exact Or.inr rfl) (pe_disp (pps_cons (pe_str) (pe_tup (pa_cons (pe_str) (pa_cons (pe_c (c_law_draw T) hr (by decide) (by rfl) (pa_cons (pv 0) (pa_cons (pv 1) pa_nil))) pa_nil))) (pps_cons (pe_str) (pe_tup (pa_cons (pe_str) pa_nil)) (pps_nil))) (by rfl) (by rfl) (fun z => by cases z) (by decide)))
      (pss_one (ps_ret (pe_dget2 hu (pv 10) (pv 4) (pe_dget2 hu (pv 11) (pv 4) (pe_dget2 hu (pv 12) (pv 4) (pe_tup (pa_cons (pv 4) (pa_cons (pv 5) (pa_cons (pv 6) (pa_cons (pv 7) pa_nil))))) ⟨rfl, rfl, rfl, rfl⟩) ⟨rfl, rfl, rfl, rfl⟩) ⟨rfl, rfl, rfl, rfl⟩))))))))))))))))), ?_⟩
  refine ⟨by show 14 ≤ sizeLine; decide, fun a1 h1 => ?_⟩
  have O1 := (OW.start W).new (o := .lst ((wl.take 14).map V.str)) h1
  replace O1 : OW H w0 w1 [(a1, .lst ((wl.take 14).map V.str))] (upd H a1 (.lst ((wl.take 14).map V.str))) m := O1
  refine ⟨_, rfl, by show 10 ≤ sizeLine; decide, fun a2 h2 => ?_⟩
  have O2 := O1.new (o := .lst ((wl.drop 14).map V.str)) h2
  refine ⟨a1, a2, (wl.take 14).map V.str, (wl.drop 14).map V.str, rfl, rfl, O2.get 1 rfl, O2.get 0 rfl, by show 24 ≤ sizeLine; decide, fun a3 h3 => ?_⟩
  have O3 := O2.new (o := .lst (wl.map V.str)) h3
  refine ⟨fun σ' H' => ∃ (y3 : Option V) (wd : Str), σ' = [some (.ref w0), some (.int ((size : Nat) : Int)), some (.ref nl), y3, some (.str wd), none, none, none, none, none, none, none, none] ∧ OW H w0 w1 [] H' (m + 1) ∧ wd ∈ wl, ?_, ?_⟩
  · refine ⟨_, rfl, _, rfl, _, rfl, a3, _, rfl, .inl (SqL.of (O3.get 0 rfl)), rfl, w0, w1, 24, m, rfl, O3.w, by omega, by omega, by omega, fun H4 g hg e4 W4 => ?_⟩
    have O4 := O3.draw e4 W4
    obtain ⟨wd, hwd⟩ : ∃ wd, wl[g]? = some wd := ⟨_, List.getElem?_eq_getElem hg⟩
    refine ⟨a3, _, _, .str wd, rfl, rfl, SqL.of (O4.get 0 rfl), ix_nat (by rw [List.getElem?_map, hwd]; rfl), ?_⟩
    exact ⟨_, wd, rfl, O4.tail.tail.tail, List.mem_of_getElem? hwd⟩
  rintro σ' H4 ⟨y3, wd, rfl, O4, hwd⟩
  clear O1 O2 O3 h1 h2 h3
  refine ⟨_, rfl, rfl, w0, w1, 8, m + 1, rfl, O4.w, by omega, by omega, by omega, fun H5 r hr5 e5 W5 => ⟨_, rfl, rfl, w0, w1, 8, m + 1 + 1, rfl, W5, by omega, by omega, by omega, fun H6 s hs6 e6 W6 => ⟨_, rfl, rfl, w0, w1, 8, m + 1 + 1 + 1, rfl, W6, by omega, by omega, by omega, fun H7 t ht7 e7 W7 => ⟨_, _, _, rfl, ?_⟩⟩⟩⟩
  have O7 := O4.draw ((e5.trans e6).trans e7) W7
  refine ⟨fun σ' H' => ∃ (o : Nat), σ' = [some (.ref w0), some (.int ((size : Nat) : Int)), some (.ref nl), y3, some (.str wd), some (.int ((r : Nat) : Int)), some (.int ((s : Nat) : Int)), some (.int ((t : Nat) : Int)), some (.int ((o : Nat) : Int)), none, none, none, none] ∧ OW H w0 w1 [] H' (m + 7) ∧ o < 64, ?_, ?_⟩
  · refine ⟨_, rfl, rfl, w0, w1, 3, _, rfl, O7.w, by omega, by omega, by omega, fun H8 g8 hg8 e8 W8 => ⟨_, rfl, rfl, w0, w1, 64, _, rfl, W8, by omega, by omega, by omega, fun H9 g9 hg9 e9 W9 => ⟨by show 2 ≤ sizeLine; decide, fun L hL => ?_⟩⟩⟩
    have O9 := (O7.draw (e8.trans e9) W9).new (o := .lst [V.int ((g8 : Nat) : Int), V.int ((g9 : Nat) : Int)]) hL
    refine ⟨_, rfl, rfl, w0, w1, 8, _, rfl, O9.w, by omega, by omega, by omega, fun H10 g10 hg10 e10 W10 => ?_⟩
    have O10 := O9.draw e10 W10
    obtain ⟨o, ho, ho2⟩ : ∃ o : Nat, ([V.int ((g8 : Nat) : Int), V.int ((g9 : Nat) : Int)] : List V)[g10 / 7]? = some (.int ((o : Nat) : Int)) ∧ o < 64 := by
      rcases Nat.lt_or_ge g10 7 with q | q
      · rw [Nat.div_eq_of_lt q]
        exact ⟨g8, rfl, by omega⟩
      · rw [show g10 / 7 = 1 by omega]
        exact ⟨g9, rfl, by omega⟩
    refine ⟨_, _, rfl, rfl, ⟨by decide, by decide⟩, L, _, ((g10 / 7 : Nat) : Int), _, rfl, rfl, SqL.of (O10.get 0 rfl), ix_nat ho, ?_⟩
    exact ⟨o, rfl, O10.tail.mono (by omega), ho2⟩
  rintro σ' H8 ⟨o, rfl, O8, ho⟩
  clear O4 O7 e5 e6 e7 W5 W6 W7
  have fin : ∀ (ins : Ins) (l : List (Addr × HO)) (H9 : Hp) (m' : Nat) (xs : List V), OW H w0 w1 l H9 m' → m' ≤ m + 40 → TDs K H9 xs (.str (insWord ins) :: (insParts ins).map (·.2)) → InsOk size ns ins → ∀ u, H9 u = none → Q (.ref u) (upd H9 u (.tup xs)) := by
    intro ins l H9 m' xs O9 hm9 ts io u hu9
    have eU := Ext.new (W := []) (o := .tup xs) hu9
    exact k _ _ ins (O9.ext eU).e ((O9.ext eU).w.mono hm9) (.tup (SqT.of upd_same) (ts.keep eU.keep0)) io
  refine ⟨_, rfl, rfl, _, rfl, ?_⟩
  by_cases b1 : wd = "set"
  · subst b1
    rw [decide_eq_true rfl]
    refine iteT ⟨_, rfl, _, rfl, _, rfl, _, rfl, rfl, w0, w1, size, m + 7, rfl, O8.w, by omega, by omega, fun H9 z e9 W9 z1 z2 => ⟨by show 3 ≤ sizeLine; decide, fun u hu9 => ?_⟩⟩
    have O9 := O8.draw e9 W9
    have eU := Ext.new (W := []) (o := .tup [.str "set", .int ((r : Nat) : Int), .int z]) hu9
    exact k _ _ (.set r z) (O9.ext eU).e ((O9.ext eU).w.mono (by omega)) (.tup (SqT.of upd_same) (.cons (.str _) (.cons (.int _) (.cons (.int _) .nil)))) ⟨by omega, z1, z2⟩
  rw [decide_eq_false (fun q => b1 (V.str.inj q))]
  refine iteF ⟨_, rfl, rfl, _, rfl, ?_⟩
  by_cases b2 : wd = "times"
  · subst b2
    rw [decide_eq_true rfl]
    refine iteT ⟨_, rfl, _, rfl, _, rfl, _, rfl, rfl, w0, w1, 7, _, rfl, O8.w, by omega, by omega, by omega, fun H9 g9 hg9 e9 W9 => ⟨_, _, rfl, rfl, 10, 6, rfl, rfl, ⟨by decide, by decide, by decide⟩, 10, 6, rfl, rfl, ⟨by decide, by decide, by decide⟩, _, rfl, by show 3 ≤ sizeLine; decide, fun L hL => ?_⟩⟩
    have O9 := (O8.draw e9 W9).new (o := .lst [V.int (((g9 : Nat) : Int) - 3), V.int 1000000, V.int (-1000000)]) hL
    replace O9 : OW H w0 w1 [(L, .lst [V.int (((g9 : Nat) : Int) - 3), V.int 1000000, V.int (-1000000)])] (upd H9 L (.lst [V.int (((g9 : Nat) : Int) - 3), (fun i j : Int => V.int (i ^ j.toNat)) 10 6, V.int (-(10 ^ Int.toNat 6))])) (m + 7 + 1) := O9
    generalize (upd H9 L (.lst [V.int (((g9 : Nat) : Int) - 3), (fun i j : Int => V.int (i ^ j.toNat)) 10 6, V.int (-(10 ^ Int.toNat 6))])) = H10 at *
    refine ⟨_, rfl, rfl, w0, w1, 9, _, rfl, O9.w, by omega, by omega, by omega, fun H11 g11 hg11 e11 W11 => ⟨_, _, rfl, rfl, _, _, rfl, ?_⟩⟩
    have O11 := O9.draw e11 W11
    rw [show (if (((g11 : Nat) : Int) - 6) > 0 then (((g11 : Nat) : Int) - 6) else 0) = ((g11 - 6 : Nat) : Int) by split <;> omega]
    obtain ⟨z, hz, hz1, hz2⟩ : ∃ z : Int, ([V.int (((g9 : Nat) : Int) - 3), V.int 1000000, V.int (-1000000)] : List V)[g11 - 6]? = some (.int z) ∧ -1000000 ≤ z ∧ z ≤ 1000000 := by
      have h3 : g11 - 6 < 3 := by omega
      generalize g11 - 6 = d at *
      match d, h3 with
      | 0, _ => exact ⟨_, rfl, by omega, by omega⟩
      | 1, _ => exact ⟨_, rfl, by omega, by omega⟩
      | 2, _ => exact ⟨_, rfl, by omega, by omega⟩
    refine ⟨L, _, _, .int z, rfl, rfl, SqL.of (O11.get 0 rfl), ix_nat hz, by show 4 ≤ sizeLine; decide, fun u hu9 => ?_⟩
    exact fin (.times r s z) _ _ _ _ O11 (by omega) (.cons (.str _) (.cons (.int _) (.cons (.int _) (.cons (.int _) .nil)))) ⟨by omega, by omega, hz1, hz2⟩ u hu9
  rw [decide_eq_false (fun q => b2 (V.str.inj q))]
  refine iteF ⟨_, rfl, rfl, _, rfl, ?_⟩
  by_cases b3 : wd = "table"
  · subst b3
    rw [decide_eq_true rfl]
    refine iteT ⟨_, rfl, _, rfl, _, rfl, rfl, w0, w1, 8, _, rfl, O8.w, by omega, by omega, by omega, fun H9 g9 hg9 e9 W9 => ⟨_, _, rfl, rfl, _, rfl, by omega, by omega, fun D hD => ?_⟩⟩
    have O9 := (O8.draw e9 W9)
    rw [show ((1 : Int) + ((g9 : Nat) : Int)).toNat = g9 + 1 by omega]
    refine lc_it walk_range (fun i H' => ∃ (js : List Nat) (m' : Nat), OW H w0 w1 [(D, .lst (vN js))] H' m' ∧ m' ≤ m + 8 + i ∧ js.length = i ∧ i ≤ g9 + 1 ∧ ∀ j ∈ js, j < size) ⟨[], m + 8, O9.new hD, by omega, rfl, by omega, fun j hj => nomatch hj⟩ (fun i H' _ q => trivial) ?_ ?_
    · rintro i x H10 H10' hi ⟨js, m', O10, hm', hjl, hig, hjs⟩ hy
      obtain ⟨rfl, rfl⟩ := hy
      refine ⟨rfl, tYes_ (iteT ?_)⟩
      refine ⟨_, rfl, _, rfl, rfl, w0, w1, size, m', rfl, O10.w, by omega, by omega, by omega, fun H11 g11 hg11 e11 W11 => ?_⟩
      have O11 := O10.draw e11 W11
      have O12 := O11.set (o' := .lst (vN (js ++ [g11]))) 0 rfl
      have e4 : vN (js ++ [g11]) = vN js ++ [V.int ((g11 : Nat) : Int)] := by unfold vN; rw [List.map_append]; rfl
      rw [e4] at O12
      refine ⟨_, O11.get 0 rfl, by unfold vN; rw [List.length_map]; exact szl (by omega), js ++ [g11], m' + 1, by rw [e4]; exact O12, by omega, by rw [List.length_append, hjl]; rfl, by omega, fun j hj => ?_⟩
      rcases List.mem_append.mp hj with q | q
      · exact hjs j q
      · simp at q
        omega
    · rintro H10 ⟨js, m', O10, hm', hjl, hig, hjs⟩
      refine ⟨D, _, rfl, .inl ⟨SqL.of (O10.get 0 rfl), fun t1 ht1 => ⟨by show 3 ≤ sizeLine; decide, fun u hu9 => ?_⟩⟩⟩
      have e1 := Ext.new (W := []) (o := .tup (vN js)) ht1
      have evn : (js.map fun j : Nat => (j : Int)).map V.int = vN js := by unfold vN; rw [List.map_map]; rfl
      refine fin (.table r js) _ _ _ _ (O10.ext e1) (by omega) (.cons (.str _) (.cons (.int _) (.cons (.tup (SqT.of (by rw [upd_same])) ?_) .nil))) ⟨by omega, by omega, by omega, hjs⟩ u hu9
      rw [← evn]
      exact TDs.ofInts _
  rw [decide_eq_false (fun q => b3 (V.str.inj q))]
  refine iteF ⟨_, rfl, rfl, _, rfl, ?_⟩
  by_cases b4 : wd = "push"
  · subst b4
    rw [decide_eq_true rfl]
    refine iteT ⟨_, rfl, _, rfl, rfl, w0, w1, 4, _, rfl, O8.w, by omega, by omega, by omega, fun H9 g9 hg9 e9 W9 => ⟨by show 2 ≤ sizeLine; decide, fun L hL => ?_⟩⟩
    have O9 := (O8.draw e9 W9).new (o := .lst [V.int ((g9 : Nat) : Int), V.int 400]) hL
    refine ⟨_, rfl, rfl, w0, w1, 12, _, rfl, O9.w, by omega, by omega, by omega, fun H10 g10 hg10 e10 W10 => ?_⟩
    have O10 := O9.draw e10 W10
    obtain ⟨z, hz, hz2⟩ : ∃ z : Nat, ([V.int ((g9 : Nat) : Int), V.int 400] : List V)[g10 / 11]? = some (.int ((z : Nat) : Int)) ∧ z ≤ 400 := by
      rcases Nat.lt_or_ge g10 11 with q | q
      · rw [Nat.div_eq_of_lt q]
        exact ⟨g9, rfl, by omega⟩
      · rw [show g10 / 11 = 1 by omega]
        exact ⟨400, rfl, by omega⟩
    refine ⟨_, _, rfl, rfl, ⟨by decide, by decide⟩, L, _, ((g10 / 11 : Nat) : Int), _, rfl, rfl, SqL.of (O10.get 0 rfl), ix_nat hz, by show 2 ≤ sizeLine; decide, fun u hu9 => ?_⟩
    exact fin (.push z) _ _ _ _ O10 (by omega) (.cons (.str _) (.cons (.int _) .nil)) hz2 u hu9
  rw [decide_eq_false (fun q => b4 (V.str.inj q))]
  refine iteF ⟨_, rfl, rfl, _, rfl, ?_⟩
  by_cases b5 : wd = "new"
  · subst b5
    rw [decide_eq_true rfl]
    refine iteT ⟨_, rfl, _, rfl, _, rfl, rfl, w0, w1, 4, _, rfl, O8.w, by omega, by omega, by omega, fun H9 g9 hg9 e9 W9 => ⟨by show 2 ≤ sizeLine; decide, fun L hL => ?_⟩⟩
    have O9 := (O8.draw e9 W9).new (o := .lst [V.int ((g9 : Nat) : Int), V.int 63]) hL
    refine ⟨_, rfl, rfl, w0, w1, 9, _, rfl, O9.w, by omega, by omega, by omega, fun H10 g10 hg10 e10 W10 => ?_⟩
    have O10 := O9.draw e10 W10
    obtain ⟨z, hz, hz2⟩ : ∃ z : Nat, ([V.int ((g9 : Nat) : Int), V.int 63] : List V)[g10 / 8]? = some (.int ((z : Nat) : Int)) ∧ z ≤ 63 := by
      rcases Nat.lt_or_ge g10 8 with q | q
      · rw [Nat.div_eq_of_lt q]
        exact ⟨g9, rfl, by omega⟩
      · rw [show g10 / 8 = 1 by omega]
        exact ⟨63, rfl, by omega⟩
    refine ⟨_, _, rfl, rfl, ⟨by decide, by decide⟩, L, _, ((g10 / 8 : Nat) : Int), _, rfl, rfl, SqL.of (O10.get 0 rfl), ix_nat hz, _, _, rfl, rfl, by show 3 ≤ sizeLine; decide, fun u hu9 => ?_⟩
    have e1 : (1 : Int) + ((z : Nat) : Int) = ((1 + z : Nat) : Int) := by omega
    refine fin (.new r (1 + z)) _ _ _ _ O10 (by omega) (.cons (.str _) (.cons (.int _) (.cons ?_ .nil))) ⟨by omega, by omega, by omega⟩ u hu9
    show TD K H10 (V.int ((1 : Int) + ((z : Nat) : Int))) (dN (1 + z))
    rw [e1]
    exact .int _
  rw [decide_eq_false (fun q => b5 (V.str.inj q))]
  refine iteF ⟨_, rfl, by show 2 ≤ sizeLine; decide, fun dp hdp => ?_⟩
  have eP := Ext.new (W := []) (o := .tup [V.str (PySem.Str.ofString "call"), V.str (PySem.Str.ofString "go")]) hdp
  have O9 := O8.ext eP
  refine ⟨dp, ([("call" : Str), ("go" : Str)]).map V.str, rfl, .inr (SqT.of upd_same), rfl, flat_strs _, _, rfl, ?_⟩
  rw [if_neg Bool.false_ne_true, inV_strs]
  generalize upd H8 dp (.tup [V.str (PySem.Str.ofString "call"), V.str (PySem.Str.ofString "go")]) = H9 at *
  by_cases b6 : wd ∈ [("call" : Str), ("go" : Str)]
  · rw [decide_eq_true b6]
    have hnl9 := O9.e _ _ hnl (fun q => nnw (List.mem_singleton.mp q))
    refine iteT ⟨_, rfl, _, rfl, _, rfl, _, rfl, nl, _, rfl, .inl (SqL.of hnl9), rfl, w0, w1, (ns.map V.str).length, _, rfl, O9.w, by rw [List.length_map]; omega, by rw [List.length_map]; omega, by omega, fun H10 g10 hg10 e10 W10 => ?_⟩
    rw [List.length_map] at hg10
    have O10 := O9.draw e10 W10
    obtain ⟨f, hf⟩ : ∃ f, ns[g10]? = some f := ⟨_, List.getElem?_eq_getElem hg10⟩
    refine ⟨nl, _, _, .str f, rfl, rfl, SqL.of (O10.e _ _ hnl (fun q => nnw (List.mem_singleton.mp q))), ix_nat (by rw [List.getElem?_map, hf]; rfl), by show 2 ≤ sizeLine; decide, fun u hu9 => ?_⟩
    have hfm := List.mem_of_getElem? hf
    simp only [List.mem_cons, List.not_mem_nil, or_false] at b6
    rcases b6 with rfl | rfl
    · exact fin (.call f) _ _ _ _ O10 (by omega) (.cons (.str _) (.cons (.str _) .nil)) hfm u hu9
    · exact fin (.go f) _ _ _ _ O10 (by omega) (.cons (.str _) (.cons (.str _) .nil)) hfm u hu9
  rw [decide_eq_false b6]
  refine iteF ?_
  intro p1 hp1
  have A0 := O9.new (o := .dK []) hp1
  refine ⟨_, rfl, _, rfl, by show 3 ≤ sizeLine; decide, fun u1 hu1 => ?_⟩
  have A1 := A0.new (o := .tup [.str "copy", .int ((r : Nat) : Int), .int ((s : Nat) : Int)]) hu1
  refine ⟨_, rfl, _, rfl, _, rfl, by show 4 ≤ sizeLine; decide, fun u2 hu2 => ?_⟩
  have A2 := A1.new (o := .tup [.str "put", .int ((r : Nat) : Int), .int ((o : Nat) : Int), .int ((s : Nat) : Int)]) hu2
  refine ⟨_, rfl, _, rfl, _, rfl, by show 4 ≤ sizeLine; decide, fun u3 hu3 => ?_⟩
  have A3 := A2.new (o := .tup [.str "take", .int ((r : Nat) : Int), .int ((s : Nat) : Int), .int ((o : Nat) : Int)]) hu3
  refine ⟨_, rfl, by show 2 ≤ sizeLine; decide, fun u4 hu4 => ?_⟩
  have A4 := A3.new (o := .tup [.str "drop", .int ((o : Nat) : Int)]) hu4
  refine ⟨A4.get 4 rfl, [(.inr "copy", .ref u1), (.inr "put", .ref u2), (.inr "take", .ref u3), (.inr "drop", .ref u4)], rfl, by show 4 ≤ 15; decide, ?_⟩
  have A5 := A4.set (o' := .dK (mergeK [] [(.inr "copy", .ref u1), (.inr "put", .ref u2), (.inr "take", .ref u3), (.inr "drop", .ref u4)])) 4 rfl
  replace A5 : OW H w0 w1 [(u4, .tup [.str "drop", .int ((o : Nat) : Int)]), (u3, .tup [.str "take", .int ((r : Nat) : Int), .int ((s : Nat) : Int), .int ((o : Nat) : Int)]), (u2, .tup [.str "put", .int ((r : Nat) : Int), .int ((o : Nat) : Int), .int ((s : Nat) : Int)]), (u1, .tup [.str "copy", .int ((r : Nat) : Int), .int ((s : Nat) : Int)]), (p1, .dK (mergeK [] [(.inr "copy", .ref u1), (.inr "put", .ref u2), (.inr "take", .ref u3), (.inr "drop", .ref u4)]))] _ (m + 7) := A5
  generalize upd _ p1 (.dK (mergeK [] [(.inr "copy", .ref u1), (.inr "put", .ref u2), (.inr "take", .ref u3), (.inr "drop", .ref u4)])) = H10 at *
  clear A0 A1 A2 A3 A4 hu1 hu2 hu3 hu4 hp1
  intro p2 hp2
  have B0 := A5.new (o := .dK []) hp2
  refine ⟨_, rfl, _, rfl, by show 3 ≤ sizeLine; decide, fun v1 hv1 => ?_⟩
  have B1 := B0.new (o := .tup [.str "save", .int ((o : Nat) : Int), .int ((r : Nat) : Int)]) hv1
  refine ⟨_, rfl, _, rfl, by show 3 ≤ sizeLine; decide, fun v2 hv2 => ?_⟩
  have B2 := B1.new (o := .tup [.str "load", .int ((r : Nat) : Int), .int ((o : Nat) : Int)]) hv2
  refine ⟨_, rfl, _, rfl, _, rfl, _, rfl, rfl, w0, w1, size, _, rfl, B2.w, by omega, by omega, by omega, fun H11 j1 hj1 e11 W11 => ⟨by show 4 ≤ sizeLine; decide, fun v3 hv3 => ?_⟩⟩
  have B3 := (B2.draw e11 W11).new (o := .tup [.str "less", .int ((r : Nat) : Int), .int ((s : Nat) : Int), .int ((j1 : Nat) : Int)]) hv3
  refine ⟨B3.get 3 rfl, [(.inr "save", .ref v1), (.inr "load", .ref v2), (.inr "less", .ref v3)], rfl, by show 3 ≤ 15; decide, ?_⟩
  have B4 := B3.set (o' := .dK (mergeK [] [(.inr "save", .ref v1), (.inr "load", .ref v2), (.inr "less", .ref v3)])) 3 rfl
  generalize upd _ p2 (.dK (mergeK [] [(.inr "save", .ref v1), (.inr "load", .ref v2), (.inr "less", .ref v3)])) = H12 at *
  intro p3 hp3
  have C0 := B4.new (o := .dK []) hp3
  refine ⟨_, rfl, _, rfl, rfl, w0, w1, size, _, rfl, C0.w, by omega, by omega, by omega, fun H13 j2 hj2 e13 W13 => ⟨by show 2 ≤ sizeLine; decide, fun x1 hx1 => ?_⟩⟩
  have C1 := (C0.draw e13 W13).new (o := .tup [.str "jump", .int ((j2 : Nat) : Int)]) hx1
  refine ⟨by show 1 ≤ sizeLine; decide, fun x2 hx2 => ?_⟩
  have C2 := C1.new (o := .tup [.str "return"]) hx2
  refine ⟨C2.get 2 rfl, [(.inr "jump", .ref x1), (.inr "return", .ref x2)], rfl, by show 2 ≤ 15; decide, ?_⟩
  have C3 := C2.set (o' := .dK (mergeK [] [(.inr "jump", .ref x1), (.inr "return", .ref x2)])) 2 rfl
  generalize upd _ p3 (.dK (mergeK [] [(.inr "jump", .ref x1), (.inr "return", .ref x2)])) = H14 at *
  replace C3 : OW H w0 w1 [(x2, .tup [.str "return"]), (x1, .tup [.str "jump", .int ((j2 : Nat) : Int)]), (p3, .dK (mergeK [] [(.inr "jump", .ref x1), (.inr "return", .ref x2)])),
    (v3, .tup [.str "less", .int ((r : Nat) : Int), .int ((s : Nat) : Int), .int ((j1 : Nat) : Int)]), (v2, .tup [.str "load", .int ((r : Nat) : Int), .int ((o : Nat) : Int)]), (v1, .tup [.str "save", .int ((o : Nat) : Int), .int ((r : Nat) : Int)]), (p2, .dK (mergeK [] [(.inr "save", .ref v1), (.inr "load", .ref v2), (.inr "less", .ref v3)])),
    (u4, .tup [.str "drop", .int ((o : Nat) : Int)]), (u3, .tup [.str "take", .int ((r : Nat) : Int), .int ((s : Nat) : Int), .int ((o : Nat) : Int)]), (u2, .tup [.str "put", .int ((r : Nat) : Int), .int ((o : Nat) : Int), .int ((s : Nat) : Int)]), (u1, .tup [.str "copy", .int ((r : Nat) : Int), .int ((s : Nat) : Int)]), (p1, .dK (mergeK [] [(.inr "copy", .ref u1), (.inr "put", .ref u2), (.inr "take", .ref u3), (.inr "drop", .ref u4)]))] H14 (m + 7 + 1 + 1) := C3
  refine ⟨_, rfl, p1, rfl, .inl ⟨_, .inl (C3.get 11 rfl)⟩, _, rfl, _, rfl, p2, rfl, .inl ⟨_, .inl (C3.get 6 rfl)⟩, _, rfl, _, rfl, p3, rfl, .inl ⟨_, .inl (C3.get 2 rfl)⟩, _, rfl, _, rfl, _, rfl, _, rfl, _, rfl, by show 4 ≤ sizeLine; decide, fun u hu9 => ?_⟩
  have D1 := C3.new (o := .tup [.str wd, .int ((r : Nat) : Int), .int ((s : Nat) : Int), .int ((t : Nat) : Int)]) hu9
  refine ⟨_, DGet.k (k := .inr wd) (D1.get 3 rfl), _, DGet.k (k := .inr wd) (D1.get 7 rfl), _, DGet.k (k := .inr wd) (D1.get 12 rfl), ?_⟩
  have out : ∀ (ins : Ins) (i : Nat) (a : Addr) (xs : List V), H14 a = some (.tup xs) ∨ True → (upd H14 u (.tup [.str wd, .int ((r : Nat) : Int), .int ((s : Nat) : Int), .int ((t : Nat) : Int)])) a = some (.tup xs) → TDs K (upd H14 u (.tup [.str wd, .int ((r : Nat) : Int), .int ((s : Nat) : Int), .int ((t : Nat) : Int)])) xs (.str (insWord ins) :: (insParts ins).map (·.2)) → InsOk size ns ins → Q (.ref a) (upd H14 u (.tup [.str wd, .int ((r : Nat) : Int), .int ((s : Nat) : Int), .int ((t : Nat) : Int)])) := by
    intro ins i a xs _ ha ts io
    exact k _ _ ins D1.e (D1.w.mono (by omega)) (.tup (SqT.of ha) ts) io
  simp only [wl, List.mem_cons, List.not_mem_nil, or_false] at hwd
  simp only [List.mem_cons, List.not_mem_nil, or_false, not_or] at b6
  have N2 : ∀ {H : Hp} {x : Str} {a b : Nat}, TDs K H [.str x, .int ((a : Nat) : Int), .int ((b : Nat) : Int)] [.str x, dN a, dN b] := .cons (.str _) (.cons (.int _) (.cons (.int _) .nil))
  have N3 : ∀ {H : Hp} {x : Str} {a b c : Nat}, TDs K H [.str x, .int ((a : Nat) : Int), .int ((b : Nat) : Int), .int ((c : Nat) : Int)] [.str x, dN a, dN b, dN c] := .cons (.str _) (.cons (.int _) (.cons (.int _) (.cons (.int _) .nil)))
  rcases hwd with rfl | rfl | rfl | rfl | rfl | rfl | rfl | rfl | rfl | rfl | rfl | rfl | rfl | rfl | rfl | rfl | rfl | rfl | rfl | rfl | rfl | rfl | rfl | rfl
  · exact absurd rfl b1
  · exact absurd rfl b1
  · exact out (.copy r s) 0 u1 _ (.inr trivial) (D1.get 11 rfl) N2 ⟨by omega, by omega⟩
  · exact out (.add r s t) 0 u _ (.inr trivial) (D1.get 0 rfl) N3 ⟨by omega, by omega, by omega⟩
  · exact out (.sub r s t) 0 u _ (.inr trivial) (D1.get 0 rfl) N3 ⟨by omega, by omega, by omega⟩
  · exact absurd rfl b2
  · exact absurd rfl b5
  · exact out (.put r o s) 0 u2 _ (.inr trivial) (D1.get 10 rfl) N3 ⟨by omega, by omega, by omega⟩
  · exact out (.take r s o) 0 u3 _ (.inr trivial) (D1.get 9 rfl) N3 ⟨by omega, by omega, by omega⟩
  · exact out (.take r s o) 0 u3 _ (.inr trivial) (D1.get 9 rfl) N3 ⟨by omega, by omega, by omega⟩
  · exact absurd rfl b4
  · exact absurd rfl b4
  · exact out (.drop o) 0 u4 _ (.inr trivial) (D1.get 8 rfl) (.cons (.str _) (.cons (.int _) .nil)) (show o ≤ 400 by omega)
  · exact out (.save o r) 0 v1 _ (.inr trivial) (D1.get 6 rfl) N2 ⟨by omega, by omega⟩
  · exact out (.load r o) 0 v2 _ (.inr trivial) (D1.get 5 rfl) N2 ⟨by omega, by omega⟩
  · exact out (.less r s j1) 0 v3 _ (.inr trivial) (D1.get 4 rfl) N3 ⟨by omega, by omega, hj1⟩
  · exact out (.less r s j1) 0 v3 _ (.inr trivial) (D1.get 4 rfl) N3 ⟨by omega, by omega, hj1⟩
  · exact absurd rfl b3
  · exact out (.jump j2) 0 x1 _ (.inr trivial) (D1.get 2 rfl) (.cons (.str _) (.cons (.int _) .nil)) hj2
  · exact absurd rfl b6.1
  · exact absurd rfl b6.1
  · exact absurd rfl b6.2
  · exact out .ret 0 x2 _ (.inr trivial) (D1.get 1 rfl) (.cons (.str _) .nil) trivial
  · exact out .ret 0 x2 _ (.inr trivial) (D1.get 1 rfl) (.cons (.str _) .nil) trivial
end
end K47

set_option Elab.async false
set_option linter.all false
set_option maxRecDepth 100000
set_option maxHeartbeats 4000000
namespace K47
open PySem PySem.Spec PyProof.Rows L2
open C8 hiding CX0 E0
/-! mended images -/
theorem TDs.set {K : PySem.W.Frag} {H : Hp} {v : V} {d : PyData} (h : TD K H v d) : ∀ {vs : List V} {ds : List PyData} {i : Nat}, TDs K H vs ds → TDs K H (vs.set i v) (ds.set i d)
  | _, _, _, .nil => .nil
  | _, _, 0, .cons _ t => .cons h t
  | _, _, i + 1, .cons a t => .cons a (TDs.set (i := i) h t)
theorem ImgOk.set {st : List (Str × Nat)} {code : List Ins} (o : ImgOk ⟨st, code⟩) {i : Nat} {ins : Ins} (h : InsOk code.length (st.map (·.1)) ins) : ImgOk ⟨st, code.set i ins⟩ := by
  refine ⟨o.n, by show (code.set i ins).length ≤ _; rw [List.length_set]; exact o.m, fun s hs => ?_, o.nd, fun j hj => ?_⟩
  · have := o.st s hs
    exact ⟨this.1, by show s.2 < (code.set i ins).length; rw [List.length_set]; exact this.2⟩
  · show InsOk (code.set i ins).length (st.map (·.1)) j
    rw [List.length_set]
    rcases List.mem_or_eq_of_mem_set hj with q | q
    · exact o.ins j q
    · rw [q]
      exact h
theorem grow_le {size : Nat} {names : List Str} {i : Ins} (h : InsOk size names i) : growI i ≤ 400 := by
  cases i with
  | new r n => exact Nat.le_trans h.2.2 (by decide)
  | push c => exact h
  | call f => show 1 ≤ 400; decide
  | _ => exact Nat.zero_le _
theorem fine61 {g : Img} (o : ImgOk g) {us h : List Int} (hl : h.length ≤ 100000) {n : Nat} (hn : n ≤ 1000) (pc : Int) : Fine g n pc (ms0 us h) := by
  refine fine_of (c := 400) (fun i hi => grow_le (o.ins i hi)) n pc (ms0 us h) ?_
  have h1 := run_len (g := g) n pc (ms0 us h)
  have h2 : (ms0 us h).size = h.length := by unfold MS.size ms0; simp
  rw [h2]
  have h3 : (runN g n pc (ms0 us h)).t.length * 400 ≤ 1000 * 400 := Nat.mul_le_mul_right _ (Nat.le_trans h1 hn)
  omega
def r_mended (K : PySem.W.Frag) : List V → Hp → VK → Prop := fun vs H Q => ∃ (w cl : Addr) (m : Nat) (g : Img) (gv : V) (f : Str) (ks : Ks) (kv : V) (a : Addr) (xs : List V) (wss : List (List Wd)) (us h : List Int), vs = [.ref w, gv, .str f, kv, .ref a] ∧ Well H w cl m ∧ m ≤ 600000000 ∧ TD K H gv (eImg g) ∧ ImgOk g ∧ f ∈ g.names ∧ TD K H kv (eKs ks) ∧ KsOk ks ∧ SqT K H a xs ∧ TDs K H xs (wss.map eWds) ∧ LayA (tabKs ks) [] wss us h ∧ h.length ≤ 100000 ∧ wss.length ≤ 6 ∧ (∀ ws ∈ wss, ws.length ≤ 400) ∧
  ∀ H' u g', Ext [w] H H' → Well H' w cl (m + 200) → TD K H' u (eImg g') → ImgOk g' → g'.names = g.names → Q u H'
section
variable {P : Program} {w : World} {K : PySem.W.Frag} {mg : Str → Option Value} {base : Heap}
abbrev N_law_mended : List Str := ["_law_well_here", "_law_image", "_law_name", "_law_kinds_here", "_law_args", "_law_code", "_law_turn_here", "_law_regs", "_law_heap", "_law_found", "_law_at", "_law_some"]
theorem sc_law_mended : FnScope ["_law_well_here", "_law_image", "_law_name", "_law_kinds_here", "_law_args", "_law_code", "_law_turn_here", "_law_regs", "_law_heap", "_law_found", "_law_at", "_law_some"] ["_law_well_here", "_law_image", "_law_name", "_law_kinds_here", "_law_args"] (defScope s_law_mended) := ⟨rfl, rfl, rfl, by decide +kernel, rfl, by decide +kernel, by decide +kernel⟩
theorem c_law_mended (T : Txt w K mg) : Cal P w K mg base 4 "_law_mended" (spN 5 (r_mended K)) [] := by
  obtain ⟨fd, F⟩ := T.f_law_mended
  refine cal_mk F T.m_law_mended (fun _ _ _ _ _ _ us hl => match us, hl with | [_, _, _, _, _], _ => rfl) sc_law_mended (fun _ _ _ _ h => h.1) (fun cdv A outer s H vs Q E hr h => ?_)
  have hu := hu_of hr
  have hul := hul_of hr
  obtain ⟨_, w0, w1, m, g, gv, f, ks, kv, a, xs, wss, us, h', rfl, W, hm, tg, go, hf, tk, ok, hs, ts, L, hl, hw6, hw4, k⟩ := h
  obtain ⟨ga, s0, c0, rfl, hga, tst, tcd⟩ := tg.two
  obtain ⟨ca, cxs, rfl, hca, tcs⟩ := tcd.open_
  have hul : us.length = wss.length := L.len.1
  have hr8 : (regsOf us).length = 8 := regsOf_len (by omega)
  refine ⟨_, (pss_cons (ps_set (i := 5) sc_law_mended.nd rfl (by first | exact Or.inl rfl | exact Or.inr rfl) (pe_callTy call_list_of (by rfl) T.b_list bt_list (pa_cons (pe_ix (ix_tupK (K := K) rfl) (pv 1) (pe_int) (fun _ _ => rfl)) pa_nil)))
      (pss_cons (ps_for PassesOwn.never rfl (pi_range1 (by rfl) T.b_range (pa_cons (pe_int) pa_nil)) (pg_name (i := 6) sc_law_mended.nd rfl (by first | exact Or.inl rfl | exact Or.inr rfl))
        (pss_cons (ps_asg (pe_c (c_law_lay T) hr (by decide) (by rfl) (pa_cons (pv 3) (pa_cons (pv 4) pa_nil))) (pg_tupK (K := K) (n := 2) rfl rfl (pgs_cons (pg_name (i := 7) sc_law_mended.nd rfl (by first | exact Or.inl rfl | exact Or.inr rfl)) (pgs_cons (pg_name (i := 8) sc_law_mended.nd rfl (by first | exact Or.inl rfl | exact Or.inr rfl)) pgs_nil))))
      (pss_cut (ps_set (i := 9) sc_law_mended.nd rfl (by first | exact Or.inl rfl | exact Or.inr rfl) (pe_c (c_law_run T) hr (by decide) (by rfl) (pa_cons (pe_tup (pa_cons (pe_ix (ix_tupK (K := K) rfl) (pv 1) (pe_int) (fun _ _ => rfl)) (pa_cons (pe_callTy call_tuple_of (by rfl) T.b_tuple bt_tuple (pa_cons (pv 5) pa_nil)) pa_nil))) (pa_cons (pv 2) (pa_cons (pv 7) (pa_cons (pv 8) (pa_cons (pe_int) pa_nil)))))))
      (pss_cons (ps_set (i := 10) sc_law_mended.nd rfl (by first | exact Or.inl rfl | exact Or.inr rfl) (pe_ix (ix_listK (K := K) rfl) (pv 9) (pe_int) (fun _ _ => rfl)))
      (pss_cut (ps_if (PW.pt (pw_or (pt_cmpR op_ne (pe_ix (ix_listK (K := K) rfl) (pv 9) (pe_int) (fun _ _ => rfl)) (pe_str) (nomark _)) (pw_or (pt_cmpR op_lt (pv 10) (pe_int) (nomark _)) (pw_or (pt_cmpR op_ge (pv 10) (pe_callB (call_lenK (K := K) rfl) (by rfl) T.b_len bt_len (pa_cons (pv 5) pa_nil)) (nomark _)) (pw_or1 (pt_cmpR op_eq (pe_c (c_law_draw T) hr (by decide) (by rfl) (pa_cons (pv 0) (pa_cons (pe_int) pa_nil))) (pe_int) (nomark _))))))) (pss_one (ps_ret (pe_tup (pa_cons (pe_ix (ix_tupK (K := K) rfl) (pv 1) (pe_int) (fun _ _ => rfl)) (pa_cons (pe_callTy call_tuple_of (by rfl) T.b_tuple bt_tuple (pa_cons (pv 5) pa_nil)) pa_nil))))) (pss_nil))
      (pss_cons (ps_set (i := 11) sc_law_mended.nd rfl (by first | exact Or.inl rfl | exact Or.inr rfl) (pe_lst (pa_cons (pe_tup (pa_cons (pe_str) (pa_cons (pe_c (c_law_draw T) hr (by decide) (by rfl) (pa_cons (pv 0) (pa_cons (pe_int) pa_nil))) (pa_cons (pe_c (c_law_draw T) hr (by decide) (by rfl) (pa_cons (pv 0) (pa_cons (pe_int) pa_nil))) pa_nil)))) (pa_cons (pe_tup (pa_cons (pe_str) (pa_cons (pe_op op_add (pe_int) (pe_c (c_law_draw T) hr (by decide) (by rfl) (pa_cons (pv 0) (pa_cons (pe_int) pa_nil)))) pa_nil))) pa_nil))))
      (pss_one (ps_asg (pe_ix (ix_listK (K := K) rfl) (pe_op op_cat (pv 11) (pe_lst (pa_cons (pe_tup (pa_cons (pe_str) (pa_cons (pe_c (c_law_draw T) hr (by decide) (by rfl) (pa_cons (pv 0) (pa_cons (pe_int) pa_nil))) (pa_cons (pe_c (c_law_draw T) hr (by decide) (by rfl) (pa_cons (pv 0) (pa_cons (pe_int) pa_nil))) pa_nil)))) (pa_cons (pe_tup (pa_cons (pe_str) (pa_cons (pe_c (c_law_draw T) hr (by decide) (by rfl) (pa_cons (pv 0) (pa_cons (pe_int) pa_nil))) (pa_cons (pe_int) pa_nil)))) pa_nil)))) (pe_c (c_law_draw T) hr (by decide) (by rfl) (pa_cons (pv 0) (pa_cons (pe_int) pa_nil))) (fun _ _ => rfl)) (pg_sub (pv 5) (pv 10) set_list)))))))))
      (pss_one (ps_ret (pe_tup (pa_cons (pe_ix (ix_tupK (K := K) rfl) (pv 1) (pe_int) (fun _ _ => rfl)) (pa_cons (pe_callTy call_tuple_of (by rfl) T.b_tuple bt_tuple (pa_cons (pv 5) pa_nil)) pa_nil))))))), ?_⟩
  refine ⟨_, rfl, ga, _, _, _, rfl, rfl, hga, rfl, ca, _, rfl, .inr hca, fun cd hcd => ?_⟩
  have O1 := (OW.start W).new (o := .lst cxs) hcd
  have k1 := (Ext.new (W := []) (o := .lst cxs) hcd).keep0
  generalize upd H cd (.lst cxs) = H1 at *
  have ret : ∀ (H' : Hp) (code : List Ins) (acc : List V) (m' : Nat), OW H w0 w1 [(cd, .lst acc)] H' m' → m' ≤ m + 200 → KeepT H H' → TDs K H' acc (code.map eIns) → ImgOk ⟨g.starts, code⟩ → ∀ t1, H' t1 = none → ∀ t2, (upd H' t1 (.tup acc)) t2 = none → Q (.ref t2) (upd (upd H' t1 (.tup acc)) t2 (.tup [s0, .ref t1])) := by
    intro H' code acc m' O' hm' kt td og t1 ht1 t2 ht2
    have e1 := Ext.new (W := []) (o := .tup acc) ht1
    have e2 := Ext.new (W := []) (o := .tup [s0, .ref t1]) ht2
    have O2 := (O'.ext e1).ext e2
    refine k _ _ ⟨g.starts, code⟩ O2.e (O2.w.mono hm') (.tup (SqT.of upd_same) (.cons (tst.keep (kt.trans (e1.trans e2).keep0)) (.cons (.tup (SqT.of (e2 _ _ upd_same (fun m => nomatch m))) (td.keep (e1.trans e2).keep0)) .nil))) og rfl
  refine ⟨_, rfl, by decide, by decide, ?_⟩
  refine for_range (fun i σ H' => ∃ (y6 y7 y8 y9 y10 y11 : Option V) (code : List Ins) (acc : List V) (m' : Nat), σ = [some (.ref w0), some (.ref ga), some (.str f), some kv, some (.ref a), some (.ref cd), y6, y7, y8, y9, y10, y11] ∧ OW H w0 w1 [(cd, .lst acc)] H' m' ∧ m' ≤ m + 10 * i ∧ KeepT H H' ∧ TDs K H' acc (code.map eIns) ∧ ImgOk ⟨g.starts, code⟩)
    ⟨_, _, _, _, _, _, g.code, cxs, m, rfl, O1, by omega, k1, tcs.keep k1, go⟩ ?_ ?_
  · rintro i σ H2 hi ⟨y6, y7, y8, y9, y10, y11, code, acc, m', rfl, O2, hm', kt2, td2, og⟩
    have hi' : i < 12 := hi
    have hlen : acc.length = code.length := by rw [td2.length, List.length_map]
    refine ⟨_, rfl, _, rfl, rfl, ks, kv, a, xs, wss, us, h', rfl, tk.keep kt2, ok, kt2.sq hs, ts.keep kt2, L, hl, hw6, hw4, fun H3 t r p e3 ht nrp fr fp gr gp => ?_⟩
    refine ⟨t, _, rfl, ht, rfl, _, _, rfl, _, _, rfl, rfl, ?_⟩
    have O3 := O2.ext e3
    have kt3 := kt2.trans e3.keep0
    refine ⟨fun σ' H' => ∃ (R : Res) (l tr : Addr), σ' = [some (.ref w0), some (.ref ga), some (.str f), some kv, some (.ref a), some (.ref cd), some (.int (0 + ((i : Nat) : Int))), some (.ref r), some (.ref p), some (.ref l), y10, y11] ∧ OW H w0 w1 [(cd, .lst acc)] H' m' ∧ KeepT H H' ∧ TDs K H' acc (code.map eIns) ∧ H' l = some (.lst [.str (endW R.e), .ref r, .ref p, .ref tr, .int ((R.m.words : Nat) : Int), .int ((R.m.top : Nat) : Int), .int R.at_]), ?_, ?_⟩
    · refine ⟨_, rfl, ga, _, _, _, rfl, rfl, kt3.sq hga, rfl, _, rfl, cd, _, rfl, .inl ⟨SqL.of (O3.get 0 rfl), fun t1 ht1 => ⟨by show 2 ≤ sizeLine; decide, fun t2 ht2 => ?_⟩⟩⟩
      have e1 := Ext.new (W := []) (o := .tup acc) ht1
      have e2 := Ext.new (W := []) (o := .tup [s0, .ref t1]) ht2
      have e12 := e1.trans e2
      have O4 := O3.ext e12
      have td4 := (td2.keep e3.keep0).keep e12.keep0
      have kt4 := kt3.trans e12.keep0
      refine ⟨_, rfl, _, rfl, _, rfl, rfl, ⟨g.starts, code⟩, .ref t2, f, r, p, regsOf us, h', 60, rfl, .tup (SqT.of upd_same) (.cons (tst.keep kt4) (.cons (.tup (SqT.of (e2 _ _ upd_same (fun m => nomatch m))) td4) .nil)), og, hf, e12 _ _ gr (fun m => nomatch m), hr8, e12 _ _ gp (fun m => nomatch m), nrp, fine61 og hl (by decide) _, by decide, fun H5 l tr R hR e5 gl _ _ _ _ => ?_⟩
      have e25 : Ext [] H2 H5 := fun b ob hb hn => e5 b ob (e12 b ob (e3 b ob hb hn) hn) (fun z => by
        simp only [List.mem_cons, List.not_mem_nil, or_false] at z
        rcases z with rfl | rfl
        · rw [fr] at hb; cases hb
        · rw [fp] at hb; cases hb)
      exact ⟨R, l, tr, rfl, O2.ext e25, kt2.trans e25.keep0, td2.keep e25.keep0, gl⟩
    rintro σ' H5 ⟨R, l, tr, rfl, O5, kt5, td5, gl⟩
    refine ⟨_, rfl, l, _, 6, .int R.at_, rfl, rfl, SqL.of gl, rfl, ?_⟩
    have hga5 := kt5.sq hga
    refine ⟨fun σ' H' => ∃ (n m2 : Nat), σ' = [some (.ref w0), some (.ref ga), some (.str f), some kv, some (.ref a), some (.ref cd), some (.int (0 + ((i : Nat) : Int))), some (.ref r), some (.ref p), some (.ref l), some (.int ((n : Nat) : Int)), y11] ∧ n < code.length ∧ OW H w0 w1 [(cd, .lst acc)] H' m2 ∧ m2 ≤ m' + 1 ∧ KeepT H H' ∧ TDs K H' acc (code.map eIns), ?_, ?_⟩
    · refine ⟨_, rfl, l, _, 0, _, rfl, rfl, SqL.of gl, rfl, rfl, _, rfl, ?_⟩
      by_cases hf0 : endW R.e = "fault"
      rotate_left
      · rw [decide_eq_false (fun q => hf0 (V.str.inj q))]
        refine iteT (iteT ⟨_, rfl, ga, _, _, _, rfl, rfl, hga5, rfl, _, rfl, cd, _, rfl, .inl ⟨SqL.of (O5.get 0 rfl), fun t1 ht1 => ⟨by show 2 ≤ sizeLine; decide, fun t2 ht2 => ?_⟩⟩⟩)
        exact ret H5 code acc m' O5 (by omega) kt5 td5 og t1 ht1 t2 ht2
      rw [decide_eq_true (by rw [hf0])]
      refine iteF ⟨_, rfl, _, _, rfl, rfl, _, rfl, ?_⟩
      by_cases c1 : R.at_ < 0
      · rw [decide_eq_true c1]
        refine iteT (iteT ⟨_, rfl, ga, _, _, _, rfl, rfl, hga5, rfl, _, rfl, cd, _, rfl, .inl ⟨SqL.of (O5.get 0 rfl), fun t1 ht1 => ⟨by show 2 ≤ sizeLine; decide, fun t2 ht2 => ?_⟩⟩⟩)
        exact ret H5 code acc m' O5 (by omega) kt5 td5 og t1 ht1 t2 ht2
      rw [decide_eq_false c1]
      refine iteF ⟨_, rfl, _, rfl, cd, _, rfl, .inl (SqL.of (O5.get 0 rfl)), _, _, rfl, rfl, _, rfl, ?_⟩
      rw [hlen]
      by_cases c2 : ((code.length : Nat) : Int) ≤ R.at_
      · rw [decide_eq_true c2]
        refine iteT (iteT ⟨_, rfl, ga, _, _, _, rfl, rfl, hga5, rfl, _, rfl, cd, _, rfl, .inl ⟨SqL.of (O5.get 0 rfl), fun t1 ht1 => ⟨by show 2 ≤ sizeLine; decide, fun t2 ht2 => ?_⟩⟩⟩)
        exact ret H5 code acc m' O5 (by omega) kt5 td5 og t1 ht1 t2 ht2
      rw [decide_eq_false c2]
      refine iteF ⟨_, rfl, rfl, w0, w1, 8, m', rfl, O5.w, by omega, by omega, by omega, fun H6 g6 hg6 e6 W6 => ⟨rfl, _, rfl, ?_⟩⟩
      have O6 := O5.draw e6 W6
      have kt6 := kt5.trans (O5.w.kt e6)
      have td6 := td5.keep (O5.w.kt e6)
      by_cases c3 : g6 = 0
      · rw [decide_eq_true (by rw [c3]; rfl)]
        refine iteT ⟨_, rfl, ga, _, _, _, rfl, rfl, kt6.sq hga, rfl, _, rfl, cd, _, rfl, .inl ⟨SqL.of (O6.get 0 rfl), fun t1 ht1 => ⟨by show 2 ≤ sizeLine; decide, fun t2 ht2 => ?_⟩⟩⟩
        exact ret H6 code acc (m' + 1) O6 (by omega) kt6 td6 og t1 ht1 t2 ht2
      rw [dneq (by omega)]
      refine iteF ⟨R.at_.toNat, m' + 1, ?_, by omega, O6, Nat.le_refl _, kt6, td6⟩
      rw [show ((R.at_.toNat : Nat) : Int) = R.at_ by omega]
      rfl
    rintro σ' H6 ⟨n, m2, rfl, hn, O6, hm2, kt6, td6⟩
    clear gl O5 kt5 td5
    refine ⟨_, rfl, rfl, w0, w1, 8, m2, rfl, O6.w, by omega, by omega, by omega, fun H7 g7 hg7 e7 W7 => ⟨_, rfl, rfl, w0, w1, 8, m2 + 1, rfl, W7, by omega, by omega, by omega, fun H8 g8 hg8 e8 W8 => ⟨by show 3 ≤ sizeLine; decide, fun u1 hu1 => ?_⟩⟩⟩
    have A1 := (O6.draw (e7.trans e8) W8).new (o := .tup [.str "copy", .int ((g7 : Nat) : Int), .int ((g8 : Nat) : Int)]) hu1
    have ka := (O6.w.kt (e7.trans e8)).trans (Ext.new (W := []) (o := .tup [.str "copy", .int ((g7 : Nat) : Int), .int ((g8 : Nat) : Int)]) hu1).keep0
    refine ⟨_, rfl, rfl, w0, w1, 3, m2 + 1 + 1, rfl, A1.w, by omega, by omega, by omega, fun H9 g9 hg9 e9 W9 => ⟨_, _, rfl, rfl, by show 2 ≤ sizeLine; decide, fun u2 hu2 => ⟨by show 2 ≤ sizeLine; decide, fun L hL => ?_⟩⟩⟩
    have A2 := ((A1.draw e9 W9).new (o := .tup [.str "push", .int (1 + ((g9 : Nat) : Int))]) hu2).new (o := .lst [.ref u1, .ref u2]) hL
    have kb := ((ka.trans (A1.w.kt e9)).trans (Ext.new (W := []) (o := .tup [.str "push", .int (1 + ((g9 : Nat) : Int))]) hu2).keep0).trans (Ext.new (W := []) (o := .lst [.ref u1, .ref u2]) hL).keep0
    generalize upd (upd H9 u2 (.tup [.str "push", .int (1 + ((g9 : Nat) : Int))])) L (.lst [.ref u1, .ref u2]) = H10 at *
    refine ⟨_, rfl, _, rfl, rfl, w0, w1, 8, m2 + 1 + 1 + 1, rfl, A2.w, by omega, by omega, by omega, fun H11 g11 hg11 e11 W11 => ⟨_, rfl, rfl, w0, w1, 4, m2 + 1 + 1 + 1 + 1, rfl, W11, by omega, by omega, by omega, fun H12 g12 hg12 e12 W12 => ⟨by show 3 ≤ sizeLine; decide, fun u3 hu3 => ?_⟩⟩⟩
    have A3 := (A2.draw (e11.trans e12) W12).new (o := .tup [.str "set", .int ((g11 : Nat) : Int), .int ((g12 : Nat) : Int)]) hu3
    have kc := (kb.trans (A2.w.kt (e11.trans e12))).trans (Ext.new (W := []) (o := .tup [.str "set", .int ((g11 : Nat) : Int), .int ((g12 : Nat) : Int)]) hu3).keep0
    refine ⟨_, rfl, rfl, w0, w1, 8, _, rfl, A3.w, by omega, by omega, by omega, fun H13 g13 hg13 e13 W13 => ⟨by show 3 ≤ sizeLine; decide, fun u4 hu4 => ⟨by show 2 ≤ sizeLine; decide, fun L2 hL2 => ?_⟩⟩⟩
    have A4 := ((A3.draw e13 W13).new (o := .tup [.str "new", .int ((g13 : Nat) : Int), .int 3]) hu4).new (o := .lst [.ref u3, .ref u4]) hL2
    have kd := ((kc.trans (A3.w.kt e13)).trans (Ext.new (W := []) (o := .tup [.str "new", .int ((g13 : Nat) : Int), .int 3]) hu4).keep0).trans (Ext.new (W := []) (o := .lst [.ref u3, .ref u4]) hL2).keep0
    generalize upd (upd H13 u4 (.tup [.str "new", .int ((g13 : Nat) : Int), .int 3])) L2 (.lst [.ref u3, .ref u4]) = H14 at *
    refine ⟨L, L2, [.ref u1, .ref u2], [.ref u3, .ref u4], rfl, rfl, A4.get 3 rfl, A4.get 0 rfl, by show 4 ≤ sizeLine; decide, fun L3 hL3 => ?_⟩
    have A5 := A4.new (o := .lst [.ref u1, .ref u2, .ref u3, .ref u4]) hL3
    have ke := kd.trans (Ext.new (W := []) (o := .lst [.ref u1, .ref u2, .ref u3, .ref u4]) hL3).keep0
    replace A5 : OW H w0 w1 [(L3, .lst [.ref u1, .ref u2, .ref u3, .ref u4]), (L2, .lst [.ref u3, .ref u4]), (u4, .tup [.str "new", .int ((g13 : Nat) : Int), .int 3]), (u3, .tup [.str "set", .int ((g11 : Nat) : Int), .int ((g12 : Nat) : Int)]), (L, .lst [.ref u1, .ref u2]), (u2, .tup [.str "push", .int (1 + ((g9 : Nat) : Int))]), (u1, .tup [.str "copy", .int ((g7 : Nat) : Int), .int ((g8 : Nat) : Int)]), (cd, .lst acc)] (upd H14 L3 (.lst ([.ref u1, .ref u2] ++ [.ref u3, .ref u4]))) _ := A5
    replace ke : KeepT H6 (upd H14 L3 (.lst ([.ref u1, .ref u2] ++ [.ref u3, .ref u4]))) := ke
    generalize upd H14 L3 (.lst ([.ref u1, .ref u2] ++ [.ref u3, .ref u4])) = H15 at *
    refine ⟨_, rfl, rfl, w0, w1, 4, _, rfl, A5.w, by omega, by omega, by omega, fun H16 g16 hg16 e16 W16 => ?_⟩
    have A6 := A5.draw e16 W16
    have kf := ke.trans (A5.w.kt e16)
    obtain ⟨x, ins, hx, tx, hio⟩ : ∃ (x : V) (ins : Ins), ([V.ref u1, V.ref u2, V.ref u3, V.ref u4] : List V)[g16]? = some x ∧ TD K H16 x (eIns ins) ∧ InsOk code.length (g.starts.map (·.1)) ins := by
      match g16, hg16 with
      | 0, _ => exact ⟨_, .copy g7 g8, rfl, .tup (SqT.of (A6.get 6 rfl)) (.cons (.str _) (.cons (.int _) (.cons (.int _) .nil))), by omega, by omega⟩
      | 1, _ =>
        refine ⟨_, .push (1 + g9), rfl, .tup (SqT.of (A6.get 5 rfl)) (.cons (.str _) (.cons ?_ .nil)), (show 1 + g9 ≤ 400 by omega)⟩
        rw [show (1 : Int) + ((g9 : Nat) : Int) = ((1 + g9 : Nat) : Int) by omega]
        exact .int _
      | 2, _ => exact ⟨_, .set g11 ((g12 : Nat) : Int), rfl, .tup (SqT.of (A6.get 3 rfl)) (.cons (.str _) (.cons (.int _) (.cons (.int _) .nil))), by omega, by omega, by omega⟩
      | 3, _ => exact ⟨_, .new g13 3, rfl, .tup (SqT.of (A6.get 2 rfl)) (.cons (.str _) (.cons (.int _) (.cons (.int _) .nil))), by omega, by omega, by omega⟩
    refine ⟨L3, _, _, x, rfl, rfl, SqL.of (A6.get 0 rfl), ix_nat hx, _, rfl, _, rfl, cd, _, _, n, rfl, rfl, A6.get 7 rfl, by rw [hlen]; exact ixN_int (by omega) (by omega), ?_⟩
    have A7 := A6.tail.tail.tail.tail.tail.tail.tail.set (o' := .lst (acc.set n x)) 0 rfl
    have kg := KeepT.upd (o := .lst (acc.set n x)) (not_tup_lst (A6.get 7 rfl))
    refine ⟨_, _, _, _, _, _, code.set n ins, acc.set n x, _, rfl, A7, by omega, (kt6.trans kf).trans kg, ?_, og.set hio⟩
    have : (code.set n ins).map eIns = (code.map eIns).set n (eIns ins) := List.map_set
    rw [this]
    exact ((td6.keep kf).set tx).keep kg
  · rintro σ H2 ⟨y6, y7, y8, y9, y10, y11, code, acc, m', rfl, O2, hm', kt2, td2, og⟩
    have : ((12 : Int)).toNat = 12 := rfl
    refine ⟨_, rfl, ga, _, _, _, rfl, rfl, kt2.sq hga, rfl, _, rfl, cd, _, rfl, .inl ⟨SqL.of (O2.get 0 rfl), fun t1 ht1 => ⟨by show 2 ≤ sizeLine; decide, fun t2 ht2 => ?_⟩⟩⟩
    exact ret H2 code acc m' O2 (by omega) kt2 td2 og t1 ht1 t2 ht2
end
end K47

set_option Elab.async false
set_option linter.all false
set_option maxRecDepth 100000
set_option maxHeartbeats 4000000
namespace K47
open PySem PySem.Spec PyProof.Rows L2
open C8 hiding CX0 E0
/-! drawn programs -/
/-- what a drawn case is in the heap -/
def CaseAt (K : PySem.W.Frag) (H : Hp) (u : V) (c : Core) (g : Img) (f : Fdef) (wss : List (List Wd)) : Prop := ∃ (ua a : Addr) (cv gv : V) (xs : List V), u = .ref ua ∧ SqT K H ua [cv, gv, .str f.name, .ref a] ∧ TD K H cv (eCore c) ∧ TD K H gv (eImg g) ∧ SqT K H a xs ∧ TDs K H xs (wss.map eWds)
theorem CaseAt.keep {K : PySem.W.Frag} {H H' : Hp} {u : V} {c : Core} {g : Img} {f : Fdef} {wss : List (List Wd)} (h : CaseAt K H u c g f wss) (k : KeepT H H') : CaseAt K H' u c g f wss := by
  obtain ⟨ua, a, cv, gv, xs, h1, h2, h3, h4, h5, h6⟩ := h
  exact ⟨ua, a, cv, gv, xs, h1, k.sq h2, h3.keep k, h4.keep k, k.sq h5, h6.keep k⟩
theorem Args.snoc {es : Tab} {ks : List Str} {wss : List (List Wd)} (a : Args es ks wss) {k : Str} {ws : List Wd} (f : Fits es [k] ws) (h : ws.length ≤ 400) : Args es (ks ++ [k]) (wss ++ [ws]) := by
  induction a with
  | nil => exact .cons f h .nil
  | cons f0 h0 _ ih => exact .cons f0 h0 ih
def r_drawn (K : PySem.W.Frag) : List V → Hp → VK → Prop := fun vs H Q => ∃ (w cl : Addr) (m : Nat), vs = [.ref w] ∧ Well H w cl m ∧ m ≤ 400000000 ∧
  ∀ H' u c g f wss us h, Ext [w] H H' → Well H' w cl (m + 20000) → CaseAt K H' u c g f wss → Case c g f wss us h → Q u H'
section
variable {P : Program} {w : World} {K : PySem.W.Frag} {mg : Str → Option Value} {base : Heap}
abbrev N_law_drawn : List Str := ["_law_well_here", "_law_kinds_here", "_law_some", "_law_kind", "_law_makers_here", "_law_names_here", "_law_functions", "_law_name", "_law_params", "_law_p", "_law_result", "_law_size", "_law_image", "_law_k", "_law_rows", "_law_args"]
theorem sc_law_drawn : FnScope ["_law_well_here", "_law_kinds_here", "_law_some", "_law_kind", "_law_makers_here", "_law_names_here", "_law_functions", "_law_name", "_law_params", "_law_p", "_law_result", "_law_size", "_law_image", "_law_k", "_law_rows", "_law_args"] ["_law_well_here"] (defScope s_law_drawn) := ⟨rfl, rfl, rfl, by decide +kernel, rfl, by decide +kernel, by decide +kernel⟩
theorem c_law_drawn (T : Txt w K mg) : Cal P w K mg base 5 "_law_drawn" (spN 1 (r_drawn K)) [] := by
  obtain ⟨fd, F⟩ := T.f_law_drawn
  refine cal_mk F T.m_law_drawn (fun _ _ _ _ _ _ us hl => match us, hl with | [_], _ => rfl) sc_law_drawn (fun _ _ _ _ h => h.1) (fun cdv A outer s H vs Q E hr h => ?_)
  have hu := hu_of hr
  have hul := hul_of hr
  obtain ⟨_, w0, w1, m, rfl, W, hm, k⟩ := h
  refine ⟨_, (pss_cons (ps_set (i := 1) sc_law_drawn.nd rfl (by first | exact Or.inl rfl | exact Or.inr rfl) (pe_c (c_law_kinds T) hr (by decide) (by rfl) (pa_cons (pv 0) pa_nil)))
      (pss_cut (ps_set (i := 2) sc_law_drawn.nd rfl (by first | exact Or.inl rfl | exact Or.inr rfl) (pe_op op_cat (pe_lc (own := [("_law_kind", 3), ("_law_makers_here", 4)]) rfl sc_law_drawn.nd (pi_tupK (K := K) rfl (pv 1)) (blkOk_by (N := N_law_drawn) (sc := defScope s_law_drawn) (by decide +kernel)) (fun _ _ _ _ _ => pg_tupK (K := K) (n := 2) rfl rfl (pgs_cons (pg_name (i := 3) sc_law_drawn.nd rfl (by first | exact Or.inl rfl | exact Or.inr rfl)) (pgs_cons (pg_name (i := 4) sc_law_drawn.nd rfl (by first | exact Or.inl rfl | exact Or.inr rfl)) pgs_nil))) (fun _ _ _ _ _ => pts_nil) (fun _ _ _ _ _ => pv 3)) (pe_lst (pa_cons (pe_str) pa_nil))))
      (pss_cut (ps_set (i := 5) sc_law_drawn.nd rfl (by first | exact Or.inl rfl | exact Or.inr rfl) (pe_c (c_law_names T) hr (by decide) (by rfl) (pa_cons (pv 0) (pa_cons (pe_ix (ix_listK (K := K) rfl) (pe_lst (pa_cons (pe_op op_add (pe_int) (pe_c (c_law_draw T) hr (by decide) (by rfl) (pa_cons (pv 0) (pa_cons (pe_int) pa_nil)))) (pa_cons (pe_op op_add (pe_int) (pe_c (c_law_draw T) hr (by decide) (by rfl) (pa_cons (pv 0) (pa_cons (pe_int) pa_nil)))) pa_nil))) (pe_op op_fdiv (pe_c (c_law_draw T) hr (by decide) (by rfl) (pa_cons (pv 0) (pa_cons (pe_int) pa_nil))) (pe_int)) (fun _ _ => rfl)) pa_nil))))
      (pss_cons (ps_set (i := 6) sc_law_drawn.nd rfl (by first | exact Or.inl rfl | exact Or.inr rfl) (pe_lst (pa_nil)))
      (pss_cut (ps_for PassesOwn.never rfl (pi_list (pv 5)) (pg_name (i := 7) sc_law_drawn.nd rfl (by first | exact Or.inl rfl | exact Or.inr rfl))
        (pss_cons (ps_set (i := 8) sc_law_drawn.nd rfl (by first | exact Or.inl rfl | exact Or.inr rfl) (pe_callTy call_tuple_of (by rfl) T.b_tuple bt_tuple (pa_cons (pe_lc (own := [("_law_p", 9)]) rfl sc_law_drawn.nd (pi_range1 (by rfl) T.b_range (pa_cons (pe_c (c_law_draw T) hr (by decide) (by rfl) (pa_cons (pv 0) (pa_cons (pe_int) pa_nil))) pa_nil)) (blkOk_by (N := N_law_drawn) (sc := defScope s_law_drawn) (by decide +kernel)) (fun _ _ _ _ _ => pg_name (i := 9) sc_law_drawn.nd rfl (by first | exact Or.inl rfl | exact Or.inr rfl)) (fun _ _ _ _ _ => pts_nil) (fun _ _ _ _ _ => pe_ix (ix_listK (K := K) rfl) (pv 2) (pe_c (c_law_draw T) hr (by decide) (by rfl) (pa_cons (pv 0) (pa_cons (pe_callB (call_lenK (K := K) rfl) (by rfl) T.b_len bt_len (pa_cons (pv 2) pa_nil)) pa_nil))) (fun _ _ => rfl))) pa_nil)))
      (pss_cut (ps_set (i := 10) sc_law_drawn.nd rfl (by first | exact Or.inl rfl | exact Or.inr rfl) (pe_ix (ix_listK (K := K) rfl) (pv 2) (pe_c (c_law_draw T) hr (by decide) (by rfl) (pa_cons (pv 0) (pa_cons (pe_callB (call_lenK (K := K) rfl) (by rfl) T.b_len bt_len (pa_cons (pv 2) pa_nil)) pa_nil))) (fun _ _ => rfl)))
      (pss_cut (ps_if (PW.pt (pw_and (pt_cmpR (op_neD hr.units) (pv 8) (pe_tup (pa_nil)) (nomark _)) (pw_and1 (pt_cmpR op_eq (pe_c (c_law_draw T) hr (by decide) (by rfl) (pa_cons (pv 0) (pa_cons (pe_int) pa_nil))) (pe_int) (nomark _))))) (pss_one (ps_set (i := 10) sc_law_drawn.nd rfl (by first | exact Or.inl rfl | exact Or.inr rfl) (pe_ix (ix_tupK (K := K) rfl) (pv 8) (pe_int) (fun _ _ => rfl)))) (pss_nil))
      (pss_one (ps_expr (pe_bm PySem.F.plainAttrs_list PySem.F.slot_list_append PySem.F.type_list_append mt_append (pv 6) (pa_cons (pe_tup (pa_cons (pv 7) (pa_cons (pv 8) (pa_cons (pv 10) (pa_cons (pe_tup (pa_cons (pe_tup (pa_cons (pe_str) (pa_cons (pv 7) (pa_cons (pe_tupRg rfl (by rfl) T.b_tuple (prg_1 (by rfl) T.b_range (pe_callB (call_lenK (K := K) rfl) (by rfl) T.b_len bt_len (pa_cons (pv 8) pa_nil)))) pa_nil)))) pa_nil)) pa_nil))))) pa_nil))))))))
      (pss_cut (ps_set (i := 11) sc_law_drawn.nd rfl (by first | exact Or.inl rfl | exact Or.inr rfl) (pe_op op_add (pe_int) (pe_c (c_law_draw T) hr (by decide) (by rfl) (pa_cons (pv 0) (pa_cons (pe_int) pa_nil)))))
      (pss_cut (ps_set (i := 12) sc_law_drawn.nd rfl (by first | exact Or.inl rfl | exact Or.inr rfl) (pe_tup (pa_cons (pe_callTy call_tuple_of (by rfl) T.b_tuple bt_tuple (pa_cons (pe_lc (own := [("_law_name", 7)]) rfl sc_law_drawn.nd (pi_list (pv 5)) (blkOk_by (N := N_law_drawn) (sc := defScope s_law_drawn) (by decide +kernel)) (fun _ _ _ _ _ => pg_name (i := 7) sc_law_drawn.nd rfl (by first | exact Or.inl rfl | exact Or.inr rfl)) (fun _ _ _ _ _ => pts_nil) (fun _ _ _ _ _ => pe_tup (pa_cons (pv 7) (pa_cons (pe_c (c_law_draw T) hr (by decide) (by rfl) (pa_cons (pv 0) (pa_cons (pv 11) pa_nil))) pa_nil)))) pa_nil)) (pa_cons (pe_callTy call_tuple_of (by rfl) T.b_tuple bt_tuple (pa_cons (pe_lc (own := [("_law_k", 13)]) rfl sc_law_drawn.nd (pi_range1 (by rfl) T.b_range (pa_cons (pv 11) pa_nil)) (blkOk_by (N := N_law_drawn) (sc := defScope s_law_drawn) (by decide +kernel)) (fun _ _ _ _ _ => pg_name (i := 13) sc_law_drawn.nd rfl (by first | exact Or.inl rfl | exact Or.inr rfl)) (fun _ _ _ _ _ => pts_nil) (fun _ _ _ _ _ => pe_c (c_law_row T) hr (by decide) (by rfl) (pa_cons (pv 0) (pa_cons (pv 11) (pa_cons (pv 5) pa_nil))))) pa_nil)) pa_nil))))
      (pss_cut (ps_asg (pe_ix (ix_listK (K := K) rfl) (pv 6) (pe_c (c_law_draw T) hr (by decide) (by rfl) (pa_cons (pv 0) (pa_cons (pe_callB (call_lenK (K := K) rfl) (by rfl) T.b_len bt_len (pa_cons (pv 6) pa_nil)) pa_nil))) (fun _ _ => rfl)) (pg_tupK (K := K) (n := 4) rfl rfl (pgs_cons (pg_name (i := 7) sc_law_drawn.nd rfl (by first | exact Or.inl rfl | exact Or.inr rfl)) (pgs_cons (pg_name (i := 8) sc_law_drawn.nd rfl (by first | exact Or.inl rfl | exact Or.inr rfl)) (pgs_cons (pg_name (i := 10) sc_law_drawn.nd rfl (by first | exact Or.inl rfl | exact Or.inr rfl)) (pgs_cons (pg_name (i := 14) sc_law_drawn.nd rfl (by first | exact Or.inl rfl | exact Or.inr rfl)) pgs_nil))))))
      (pss_cut (ps_set (i := 15) sc_law_drawn.nd rfl (by first | exact Or.inl rfl | exact Or.inr rfl) (pe_callTy call_tuple_of (by rfl) T.b_tuple bt_tuple (pa_cons (pe_lc (own := [("_law_kind", 3)]) rfl sc_law_drawn.nd (pi_tupK (K := K) rfl (pv 8)) (blkOk_by (N := N_law_drawn) (sc := defScope s_law_drawn) (by decide +kernel)) (fun _ _ _ _ _ => pg_name (i := 3) sc_law_drawn.nd rfl (by first | exact Or.inl rfl | exact Or.inr rfl)) (fun _ _ _ _ _ => pts_nil) (fun _ _ _ _ _ => pe_c (c_law_value T) hr (by decide) (by rfl) (pa_cons (pv 0) (pa_cons (pv 1) (pa_cons (pv 3) (pa_cons (pe_int) pa_nil)))))) pa_nil)))
      (pss_one (ps_ret (pe_tup (pa_cons (pe_tup (pa_cons (pv 1) (pa_cons (pe_callTy call_tuple_of (by rfl) T.b_tuple bt_tuple (pa_cons (pv 6) pa_nil)) pa_nil))) (pa_cons (pe_c (c_law_mended T) hr (by decide) (by rfl) (pa_cons (pv 0) (pa_cons (pv 12) (pa_cons (pv 7) (pa_cons (pv 1) (pa_cons (pv 15) pa_nil)))))) (pa_cons (pv 7) (pa_cons (pv 15) pa_nil)))))))))))))))), ?_⟩
  refine ⟨_, rfl, rfl, w0, w1, m, rfl, W, by omega, fun H1 kv ks e1 W1 tk ok op => ?_⟩
  have O1 := (OW.start W).draw e1 W1
  have hok8 := ok.n
  -- some
  refine ⟨fun σ' H' => ∃ (sm : Addr) (y3 y4 : Option V), σ' = [some (.ref w0), some kv, some (.ref sm), y3, y4, none, none, none, none, none, none, none, none, none, none, none] ∧ OW H w0 w1 [(sm, .lst ((kNames ks ++ [("whole" : Str)]).map V.str))] H' (m + 3000) ∧ TD K H' kv (eKs ks), ?_, ?_⟩
  · obtain ⟨ka, kxs, rfl, hka, tks⟩ := tk.open_
    have hkl : kxs.length = ks.length := by rw [tks.length, List.length_map]
    refine ⟨_, rfl, ka, rfl, ⟨_, hka⟩, fun D hD => ?_⟩
    refine lcT (ys := (kNames ks).map V.str) hka hD (by simp [kNames, hkl]) (by omega) ?_ ?_
    · intro i x y H2 Q' hx hy e2 k'
      obtain ⟨kd, hk, td⟩ := TD.atV tks hx
      obtain ⟨d, u1, u2, rfl, hd, q1, q2⟩ := (td.keep e2.keep0).two
      cases q1.str_
      have ey : y = .str kd.1 := by
        unfold kNames at hy
        rw [List.map_map, List.getElem?_map, hk] at hy
        exact (Option.some.inj hy).symm
      subst ey
      refine ⟨d, _, rfl, hd, rfl, _, _, rfl, _, _, rfl, rfl, ?_⟩
      exact ⟨rfl, _, rfl, k' H2 (Ext.refl H2)⟩
    intro H2 e2 hD2
    have O2 := O1.ext e2
    refine ⟨by show 1 ≤ sizeLine; decide, fun L hL => ?_⟩
    have e3 := Ext.new (W := []) (o := .lst [V.str "whole"]) hL
    have O3 := O2.ext e3
    refine ⟨D, L, _, _, rfl, rfl, e3 _ _ hD2 (fun m => nomatch m), upd_same, by rw [List.length_map]; unfold kNames; rw [List.length_map]; exact sz (by simp; omega), fun sm hsm => ?_⟩
    have O4 := O3.new (o := .lst ((kNames ks ++ [("whole" : Str)]).map V.str)) hsm
    have e4 := Ext.new (W := []) (o := .lst ((kNames ks ++ [("whole" : Str)]).map V.str)) hsm
    have es : (kNames ks).map V.str ++ [V.str "whole"] = (kNames ks ++ [("whole" : Str)]).map V.str := by simp
    rw [es]
    exact ⟨sm, _, _, rfl, O4, tk.keep ((e2.trans e3).trans e4).keep0⟩
  rintro σ' H2 ⟨sm, y3, y4, rfl, O2, tk2⟩
  -- names
  refine ⟨fun σ' H' => ∃ (nl : Addr) (ns : List Str), σ' = [some (.ref w0), some kv, some (.ref sm), y3, y4, some (.ref nl), none, none, none, none, none, none, none, none, none, none] ∧ OW H w0 w1 [(nl, .lst (ns.map V.str)), (sm, .lst ((kNames ks ++ [("whole" : Str)]).map V.str))] H' (m + 3500) ∧ TD K H' kv (eKs ks) ∧ 1 ≤ ns.length ∧ ns.length ≤ 12 ∧ ns.Nodup ∧ ∀ x ∈ ns, lowB x = true, ?_, ?_⟩
  · refine ⟨_, rfl, _, rfl, rfl, w0, w1, 4, _, rfl, O2.w, by omega, by omega, by omega, fun H3 g1 hg1 e1 W1 => ⟨_, _, rfl, rfl, _, rfl, rfl, w0, w1, 8, _, rfl, W1, by omega, by omega, by omega, fun H4 g2 hg2 e2 W2 => ⟨_, _, rfl, rfl, by show 2 ≤ sizeLine; decide, fun L hL => ?_⟩⟩⟩
    have O4 := O2.draw (e1.trans e2) W2
    have kt4 := O2.w.kt (e1.trans e2)
    have el : ([V.int (1 + ((g1 : Nat) : Int)), V.int (5 + ((g2 : Nat) : Int))] : List V) = [V.int (((1 + g1 : Nat)) : Int), V.int (((5 + g2 : Nat)) : Int)] := by
      rw [show (1 : Int) + ((g1 : Nat) : Int) = ((1 + g1 : Nat) : Int) by omega, show (5 : Int) + ((g2 : Nat) : Int) = ((5 + g2 : Nat) : Int) by omega]
    have O5 := O4.new (o := .lst [V.int (1 + ((g1 : Nat) : Int)), V.int (5 + ((g2 : Nat) : Int))]) hL
    have kt5 := kt4.trans (Ext.new (W := []) (o := .lst [V.int (1 + ((g1 : Nat) : Int)), V.int (5 + ((g2 : Nat) : Int))]) hL).keep0
    replace O5 : OW H w0 w1 [(L, .lst [V.int (1 + ((g1 : Nat) : Int)), V.int (5 + ((g2 : Nat) : Int))]), (sm, .lst ((kNames ks ++ [("whole" : Str)]).map V.str))] (upd H4 L (.lst [V.int (1 + ((g1 : Nat) : Int)), V.int (5 + ((g2 : Nat) : Int))])) (m + 3000 + 1 + 1) := O5
    generalize upd H4 L (.lst [V.int (1 + ((g1 : Nat) : Int)), V.int (5 + ((g2 : Nat) : Int))]) = H5 at *
    refine ⟨_, rfl, rfl, w0, w1, 8, _, rfl, O5.w, by omega, by omega, by omega, fun H6 g6 hg6 e6 W6 => ?_⟩
    have O6 := O5.draw e6 W6
    have kt6 := kt5.trans (O5.w.kt e6)
    obtain ⟨n, hn, hn1, hn12⟩ : ∃ n : Nat, ([V.int (1 + ((g1 : Nat) : Int)), V.int (5 + ((g2 : Nat) : Int))] : List V)[g6 / 7]? = some (.int ((n : Nat) : Int)) ∧ 1 ≤ n ∧ n ≤ 12 := by
      rcases Nat.lt_or_ge g6 7 with q | q
      · rw [Nat.div_eq_of_lt q]
        exact ⟨1 + g1, by rw [el]; rfl, by omega, by omega⟩
      · rw [show g6 / 7 = 1 by omega]
        exact ⟨5 + g2, by rw [el]; rfl, by omega, by omega⟩
    refine ⟨_, _, rfl, rfl, ⟨by decide, by decide⟩, L, _, ((g6 / 7 : Nat) : Int), _, rfl, rfl, SqL.of (O6.get 0 rfl), ix_nat hn, rfl, w0, w1, n, _, rfl, W6, by omega, by omega, fun H7 l7 ns7 e7 W7 hl0 gl hlen hnd hlo => ?_⟩
    have O7 := (O6.draw e7 W7).tail
    have hnw := W6.new hl0
    refine ⟨l7, ns7, rfl, ⟨O7.e, ?_, ?_, ?_, ?_, W7.mono (by omega)⟩, tk2.keep (kt6.trans (W6.kt e7)), by omega, by omega, hnd, hlo⟩
    · rw [List.map_cons, List.nodup_cons]
      refine ⟨fun q => ?_, O7.nd⟩
      obtain ⟨p, hp, e⟩ := List.mem_map.mp q
      have := O6.tail.at_ p hp
      rw [e, hl0] at this
      cases this
    · intro p hp
      rcases List.mem_cons.mp hp with rfl | q
      · exact gl
      · exact O7.at_ p q
    · intro p hp
      rcases List.mem_cons.mp hp with rfl | q
      · exact O6.e.free hl0 (fun z => hnw.1 (List.mem_singleton.mp z))
      · exact O7.fr p q
    · intro p hp
      rcases List.mem_cons.mp hp with rfl | q
      · exact hnw
      · exact O7.ne p q
  rintro σ' H3 ⟨nl, ns, rfl, O3, tk3, hn1, hn12, hnd, hlo⟩
  refine ⟨Nat.zero_le _, fun fn hfn => ?_⟩
  have O4 := O3.new (o := .lst []) hfn
  have tk4 := tk3.keep (Ext.new (W := []) (o := .lst []) hfn).keep0
  generalize upd H3 fn (.lst []) = H4 at *
  have hsmk : ∀ z ∈ kNames ks ++ [("whole" : Str)], z = "whole" ∨ z ∈ kNames ks := fun z hz => by
    rcases List.mem_append.mp hz with q | q
    · exact .inr q
    · exact .inl (by simpa using q)
  have hsml : (kNames ks ++ [("whole" : Str)]).length ≤ 9 := by unfold kNames; rw [List.length_append, List.length_map]; simp; omega
  have hsm1 : 1 ≤ (kNames ks ++ [("whole" : Str)]).length := by rw [List.length_append]; simp
  have hstr : ∀ z : Str, (z = "whole" ∨ z ∈ kNames ks) → PyData.strOk z = true := fun z hz => by
    rcases hz with rfl | hz
    · decide +kernel
    · obtain ⟨kd, hkd, rfl⟩ := List.mem_map.mp hz
      exact name_strOk (high_name (ok.hi kd hkd))
  generalize hsmg : kNames ks ++ [("whole" : Str)] = so at *
  refine ⟨fun σ' H' => ∃ (y7 y8 y9 y10 : Option V) (fs : List Fdef) (acc : List V) (m2 : Nat), σ' = [some (.ref w0), some kv, some (.ref sm), y3, y4, some (.ref nl), some (.ref fn), y7, y8, y9, y10, none, none, none, none, none] ∧ OW H w0 w1 [(fn, .lst acc), (nl, .lst (ns.map V.str)), (sm, .lst (so.map V.str))] H' m2 ∧ m2 ≤ m + 4000 ∧ TD K H' kv (eKs ks) ∧ TDs K H' acc (fs.map eFn) ∧ fs.map (·.name) = ns ∧ ∀ f ∈ fs, FnV ks f, ?_, ?_⟩
  · refine ⟨_, rfl, nl, rfl, ⟨_, SqL.of (O4.get 1 rfl)⟩, ?_⟩
    refine for_list (xs := ns.map V.str) (fun i σ H' => ∃ (y7 y8 y9 y10 : Option V) (fs : List Fdef) (acc : List V) (m2 : Nat), σ = [some (.ref w0), some kv, some (.ref sm), y3, y4, some (.ref nl), some (.ref fn), y7, y8, y9, y10, none, none, none, none, none] ∧ OW H w0 w1 [(fn, .lst acc), (nl, .lst (ns.map V.str)), (sm, .lst (so.map V.str))] H' m2 ∧ m2 ≤ m + 3500 + 12 * i ∧ TD K H' kv (eKs ks) ∧ TDs K H' acc (fs.map eFn) ∧ fs.map (·.name) = ns.take i ∧ ∀ f ∈ fs, FnV ks f)
      ⟨_, _, _, _, [], [], _, rfl, O4, Nat.le_refl _, tk4, .nil, rfl, (fun f hf => nomatch hf)⟩ (fun i σ H' _ q => by
        obtain ⟨_, _, _, _, fs, acc, m2, _, O, _⟩ := q
        exact SqL.of (O.get 1 rfl)) ?_ ?_
    · rintro i x σ H5 hx ⟨y7, y8, y9, y10, fs, acc, m2, rfl, O5, hm2, tk5, tf5, hfn5, hfv⟩
      obtain ⟨nm, hnm, rfl⟩ : ∃ nm, ns[i]? = some nm ∧ x = .str nm := by
        rw [List.getElem?_map] at hx
        cases q : ns[i]? with
        | none => rw [q] at hx; cases hx
        | some z => rw [q] at hx; exact ⟨z, rfl, (Option.some.inj hx).symm⟩
      have hin : i < ns.length := (List.getElem?_eq_some_iff.mp hnm).1
      -- params
      refine ⟨_, rfl, rfl, w0, w1, 7, _, rfl, O5.w, by omega, by omega, by omega, fun H6 g6 hg6 e6 W6 => ⟨_, rfl, by omega, by omega, fun D hD => ?_⟩⟩
      have O6 := O5.draw e6 W6
      have kt6 := O5.w.kt e6
      rw [show ((g6 : Nat) : Int).toNat = g6 by omega]
      refine lc_it walk_range (fun q H' => ∃ (ps : List Str) (m3 : Nat), OW H w0 w1 [(D, .lst (ps.map V.str)), (fn, .lst acc), (nl, .lst (ns.map V.str)), (sm, .lst (so.map V.str))] H' m3 ∧ m3 ≤ m2 + 1 + q ∧ KeepT H5 H' ∧ ps.length = q ∧ q ≤ g6 ∧ ∀ z ∈ ps, z ∈ so) ⟨[], _, O6.new hD, Nat.le_refl _, kt6.trans (Ext.new (W := []) hD).keep0, rfl, Nat.zero_le _, (fun z hz => nomatch hz)⟩ (fun i H' _ q => trivial) ?_ ?_
      · rintro q x H7 H7' hq ⟨ps, m3, O7, hm3, kt7, hpl, hqg, hps⟩ hy
        obtain ⟨rfl, rfl⟩ := hy
        refine ⟨rfl, tYes_ (iteT ?_)⟩
        refine ⟨_, rfl, _, rfl, _, rfl, sm, _, rfl, .inl (SqL.of (O7.get 3 rfl)), rfl, w0, w1, (so.map V.str).length, _, rfl, O7.w, by rw [List.length_map]; omega, by rw [List.length_map]; omega, by omega, fun H8 g8 hg8 e8 W8 => ?_⟩
        rw [List.length_map] at hg8
        have O8 := O7.draw e8 W8
        have hso : so[g8]? = some (so[g8]'hg8) := List.getElem?_eq_getElem _
        refine ⟨sm, _, _, .str (so[g8]'hg8), rfl, rfl, SqL.of (O8.get 3 rfl), ix_nat (by rw [List.getElem?_map, hso]; rfl), ?_⟩
        have O9 := O8.set (o' := .lst ((ps ++ [so[g8]'hg8]).map V.str)) 0 rfl
        have e9 : (ps ++ [so[g8]'hg8]).map V.str = ps.map V.str ++ [V.str (so[g8]'hg8)] := by rw [List.map_append]; rfl
        rw [e9] at O9
        refine ⟨_, O8.get 0 rfl, by rw [List.length_map]; exact szl (by omega), ps ++ [so[g8]'hg8], _, by rw [e9]; exact O9, by omega, (kt7.trans (O7.w.kt e8)).trans (KeepT.upd (not_tup_lst (O8.get 0 rfl))), by rw [List.length_append, hpl]; rfl, by omega, fun z hz => ?_⟩
        rcases List.mem_append.mp hz with a | a
        · exact hps z a
        · simp at a
          rw [a]
          exact List.getElem_mem _
      rintro H7 ⟨ps, m3, O7, hm3, kt7, hpl, hqg, hps⟩
      refine ⟨D, _, rfl, .inl ⟨SqL.of (O7.get 0 rfl), fun pt hpt => ?_⟩⟩
      have e8 := Ext.new (W := []) (o := .tup (ps.map V.str)) hpt
      have O8 := (O7.tail).ext e8
      have gpt : (upd H7 pt (.tup (ps.map V.str))) pt = some (.tup (ps.map V.str)) := upd_same
      have kt8 := kt7.trans e8.keep0
      generalize upd H7 pt (.tup (ps.map V.str)) = H8 at *
      refine ⟨fun σ' H' => ∃ (rs : Str) (m4 : Nat), σ' = [some (.ref w0), some kv, some (.ref sm), y3, y4, some (.ref nl), some (.ref fn), some (.str nm), some (.ref pt), y9, some (.str rs), none, none, none, none, none] ∧ OW H w0 w1 [(fn, .lst acc), (nl, .lst (ns.map V.str)), (sm, .lst (so.map V.str))] H' m4 ∧ m4 ≤ m2 + 9 ∧ KeepT H5 H' ∧ SqT K H' pt (ps.map V.str) ∧ rs ∈ so, ?_, ?_⟩
      · refine ⟨_, rfl, _, rfl, _, rfl, sm, _, rfl, .inl (SqL.of (O8.get 2 rfl)), rfl, w0, w1, (so.map V.str).length, _, rfl, O8.w, by rw [List.length_map]; omega, by rw [List.length_map]; omega, by omega, fun H9 g9 hg9 e9 W9 => ?_⟩
        rw [List.length_map] at hg9
        have O9 := O8.draw e9 W9
        have hso : so[g9]? = some (so[g9]'hg9) := List.getElem?_eq_getElem _
        refine ⟨sm, _, _, .str (so[g9]'hg9), rfl, rfl, SqL.of (O9.get 2 rfl), ix_nat (by rw [List.getElem?_map, hso]; rfl), ?_⟩
        exact ⟨so[g9]'hg9, _, rfl, O9, by omega, kt8.trans (O8.w.kt e9), (O8.w.kt e9).sq (SqT.of gpt), List.getElem_mem _⟩
      rintro σ' H9 ⟨rs, m4, rfl, O9, hm4, kt9, hpt9, hrs⟩
      refine ⟨fun σ' H' => ∃ (rs : Str) (m4 : Nat), σ' = [some (.ref w0), some kv, some (.ref sm), y3, y4, some (.ref nl), some (.ref fn), some (.str nm), some (.ref pt), y9, some (.str rs), none, none, none, none, none] ∧ OW H w0 w1 [(fn, .lst acc), (nl, .lst (ns.map V.str)), (sm, .lst (so.map V.str))] H' m4 ∧ m4 ≤ m2 + 10 ∧ KeepT H5 H' ∧ SqT K H' pt (ps.map V.str) ∧ rs ∈ so, ?_, ?_⟩
      · refine ⟨_, rfl, Nat.zero_le _, fun et het => ?_⟩
        have e10 := Ext.new (W := []) (o := .tup []) het
        have O10 := O9.ext e10
        have kt10 := kt9.trans e10.keep0
        have hpt10 := e10.sqt hpt9
        have hps' : ∀ z ∈ ps, PyData.strOk z = true := fun z hz => hstr z (hsmk z (hps z hz))
        have hsh : SeqAt.shaped (.tuple (ps.map PyData.str)) = true := by
          obtain ⟨q1, q2⟩ := strs_shaped hps'
          unfold SeqAt.shaped
          rw [PyData.canLay0, q1, PyData.depth, q2]
          rfl
        refine ⟨.tuple (ps.map PyData.str), .tuple [], .tup hpt10 (TDs.dp (TDs.ofStrs ps)), .tup (SqT.of upd_same) .nil, hsh, by decide, ?_⟩
        generalize upd H9 et (.tup []) = H10 at *
        cases ps with
        | nil =>
          have ee : PyData.eqv (.tuple (([] : List Str).map PyData.str)) (.tuple []) = true := by simp [PyData.eqv, PyData.eqvAll]
          rw [ee]
          exact ⟨_, rfl, iteF (iteF ⟨rs, m4, rfl, O10, by omega, kt10, hpt10, hrs⟩)⟩
        | cons z zs =>
          have ee : PyData.eqv (.tuple ((z :: zs).map PyData.str)) (.tuple []) = false := by simp [PyData.eqv, PyData.eqvAll]
          rw [ee]
          refine ⟨_, rfl, iteT ⟨_, rfl, rfl, w0, w1, 2, _, rfl, O10.w, by omega, by omega, by omega, fun H11 g11 hg11 e11 W11 => ⟨rfl, _, rfl, ?_⟩⟩⟩
          have O11 := O10.draw e11 W11
          have kt11 := O10.w.kt e11
          by_cases hg0 : g11 = 0
          · rw [decide_eq_true (by rw [hg0]; rfl)]
            refine iteT ⟨_, rfl, pt, _, _, .str z, rfl, rfl, kt11.sq hpt10, ix_nat (i := 0) rfl, ?_⟩
            exact ⟨z, _, rfl, O11, by omega, kt10.trans kt11, kt11.sq hpt10, hps z List.mem_cons_self⟩
          · rw [dneq (by omega)]
            exact iteF ⟨rs, _, rfl, O11, by omega, kt10.trans kt11, kt11.sq hpt10, hrs⟩
      rintro σ' H10 ⟨rs, m5, rfl, O10, hm5, kt10, hpt10, hrs'⟩
      refine ⟨_, rfl, .inl ⟨rfl, _, SqL.of (O10.get 0 rfl)⟩, _, rfl, _, rfl, _, rfl, _, rfl, _, rfl, pt, _, rfl, .inr hpt10, _, rfl, ?_⟩
      rw [List.length_map]
      refine ⟨.of_le (by omega) (by omega) (by omega) (by omega), fun tr htr => ⟨by show 3 ≤ sizeLine; decide, fun t2 ht2 => ⟨by show 1 ≤ sizeLine; decide, fun t3 ht3 => ⟨by show 4 ≤ sizeLine; decide, fun t4 ht4 => ?_⟩⟩⟩⟩
      have f1 := Ext.new (W := []) (o := .tup (rgV 0 ((ps.length : Nat) : Int))) htr
      have f2 := Ext.new (W := []) (o := .tup [.str "go", .str nm, .ref tr]) ht2
      have f3 := Ext.new (W := []) (o := .tup [.ref t2]) ht3
      have f4 := Ext.new (W := []) (o := .tup [.str nm, .ref pt, .str rs, .ref t3]) ht4
      have O14 := (((O10.ext f1).ext f2).ext f3).ext f4
      have kt14 := kt10.trans (((f1.trans f2).trans f3).trans f4).keep0
      have tf14 := tf5.keep kt14
      have hal : acc.length = i := by
        rw [tf5.length, List.length_map]
        have := congrArg List.length hfn5
        rw [List.length_map, List.length_take] at this
        omega
      refine ⟨fn, _, _, rfl, rfl, O14.get 0 rfl, szl (by omega), ?_⟩
      have O15 := O14.set (o' := .lst (acc ++ [V.ref t4])) 0 rfl
      have kt15 := KeepT.upd (o := .lst (acc ++ [V.ref t4])) (not_tup_lst (O14.get 0 rfl))
      have hrg : rgV 0 ((ps.length : Nat) : Int) = ((List.range ps.length).map fun i : Nat => ((i : Nat) : Int)).map V.int := by
        unfold rgV
        rw [List.map_map, show ((((ps.length : Nat) : Int)) - 0).toNat = ps.length by omega]
        refine List.map_congr_left fun z _ => ?_
        rw [Int.zero_add]
        rfl
      have tgo : TD K (upd (upd (upd H10 tr (.tup (rgV 0 ((ps.length : Nat) : Int)))) t2 (.tup [.str "go", .str nm, .ref tr])) t3 (.tup [.ref t2])) (.ref t3) (.tuple [.tuple [.str "go", .str nm, uptoD ps.length]]) := by
        refine .tup (SqT.of upd_same) (.cons (.tup (SqT.of (f3 _ _ upd_same (fun m => nomatch m))) (.cons (.str _) (.cons (.str _) (.cons (.tup (SqT.of ((f2.trans f3) _ _ upd_same (fun m => nomatch m))) ?_) .nil)))) .nil)
        rw [hrg]
        have e : ((List.range ps.length).map fun i : Nat => PyData.int (i : Int)) = ((List.range ps.length).map fun i : Nat => (i : Int)).map PyData.int := by rw [List.map_map]; rfl
        rw [e]
        exact TDs.ofInts _
      have tnew : TD K (upd (upd (upd (upd H10 tr (.tup (rgV 0 ((ps.length : Nat) : Int)))) t2 (.tup [.str "go", .str nm, .ref tr])) t3 (.tup [.ref t2])) t4 (.tup [.str nm, .ref pt, .str rs, .ref t3])) (.ref t4) (eFn ⟨nm, ps, rs, false⟩) :=
        .tup (SqT.of upd_same) (.cons (.str _) (.cons (.tup ((((f1.trans f2).trans f3).trans f4).sqt hpt10) (TDs.ofStrs ps)) (.cons (.str _) (.cons (tgo.keep f4.keep0) .nil))))
      refine ⟨_, _, _, _, fs ++ [⟨nm, ps, rs, false⟩], acc ++ [V.ref t4], _, rfl, O15, by omega, tk5.keep (kt14.trans kt15), ?_, ?_, ?_⟩
      · rw [List.map_append]
        exact (tf14.keep kt15).append (.cons (tnew.keep kt15) .nil)
      · rw [List.map_append, hfn5, List.take_succ, hnm]
        rfl
      · intro f hf
        rcases List.mem_append.mp hf with q | q
        · exact hfv f q
        · simp at q
          rw [q]
          exact ⟨hlo nm (List.mem_of_getElem? hnm), by show ps.length ≤ 6; omega, fun p hp => hsmk p (hps p hp), hsmk rs hrs', fun q => nomatch q⟩
    · rintro σ H5 ⟨y7, y8, y9, y10, fs, acc, m2, rfl, O5, hm2, tk5, tf5, hfn5, hfv⟩
      rw [List.length_map] at hfn5 hm2
      rw [List.take_length] at hfn5
      exact ⟨_, _, _, _, fs, acc, m2, rfl, O5, by omega, tk5, tf5, hfn5, hfv⟩
  rintro σ' H5 ⟨y7, y8, y9, y10, fs, acc, m2, rfl, O5, hm2, tk5, tf5, hfn5, hfv⟩
  have hfl : fs.length = ns.length := by rw [← hfn5, List.length_map]
  have hal : acc.length = fs.length := by rw [tf5.length, List.length_map]
  refine ⟨fun σ' H' => ∃ (size m3 : Nat), σ' = [some (.ref w0), some kv, some (.ref sm), y3, y4, some (.ref nl), some (.ref fn), y7, y8, y9, y10, some (.int ((size : Nat) : Int)), none, none, none, none] ∧ OW H w0 w1 [(fn, .lst acc), (nl, .lst (ns.map V.str)), (sm, .lst (so.map V.str))] H' m3 ∧ m3 ≤ m2 + 1 ∧ KeepT H5 H' ∧ 5 ≤ size ∧ size ≤ 30, ?_, ?_⟩
  · refine ⟨_, rfl, rfl, w0, w1, 26, _, rfl, O5.w, by omega, by omega, by omega, fun H6 g6 hg6 e6 W6 => ⟨_, _, rfl, rfl, ?_⟩⟩
    refine ⟨5 + g6, m2 + 1, ?_, O5.draw e6 W6, Nat.le_refl _, O5.w.kt e6, by omega, by omega⟩
    rw [show ((5 + g6 : Nat) : Int) = 5 + ((g6 : Nat) : Int) by omega]
    rfl
  rintro σ' H6 ⟨size, m3, rfl, O6, hm3, kt6, hsz5, hsz30⟩
  refine ⟨fun σ' H' => ∃ (y7 y13 : Option V) (gv : V) (g : Img) (m4 : Nat), σ' = [some (.ref w0), some kv, some (.ref sm), y3, y4, some (.ref nl), some (.ref fn), y7, y8, y9, y10, some (.int ((size : Nat) : Int)), some gv, y13, none, none] ∧ OW H w0 w1 [(fn, .lst acc), (nl, .lst (ns.map V.str)), (sm, .lst (so.map V.str))] H' m4 ∧ m4 ≤ m3 + 1400 ∧ KeepT H5 H' ∧ TD K H' gv (eImg g) ∧ ImgOk g ∧ g.names = ns, ?_, ?_⟩
  · refine ⟨_, rfl, nl, rfl, ⟨_, SqL.of (O6.get 1 rfl)⟩, fun D hD => ?_⟩
    refine lc_list (xs := ns.map V.str) (fun i H' => ∃ (sts : List (Str × Nat)) (ac : List V) (m4 : Nat), OW H w0 w1 [(D, .lst ac), (fn, .lst acc), (nl, .lst (ns.map V.str)), (sm, .lst (so.map V.str))] H' m4 ∧ m4 ≤ m3 + i ∧ KeepT H6 H' ∧ TDs K H' ac (sts.map eSt) ∧ sts.map (·.1) = ns.take i ∧ ∀ s ∈ sts, s.2 < size)
      ⟨[], [], _, O6.new hD, Nat.le_refl _, (Ext.new (W := []) hD).keep0, .nil, rfl, (fun s hs => nomatch hs)⟩ (fun i H' _ q => by
        obtain ⟨sts, ac, m4, O, _⟩ := q
        exact SqL.of (O.get 2 rfl)) ?_ ?_
    · rintro i x H7 hx ⟨sts, ac, m4, O7, hm4, kt7, td7, hst, hsz⟩
      obtain ⟨nm, hnm, rfl⟩ : ∃ nm, ns[i]? = some nm ∧ x = .str nm := by
        rw [List.getElem?_map] at hx
        cases q : ns[i]? with
        | none => rw [q] at hx; cases hx
        | some z => rw [q] at hx; exact ⟨z, rfl, (Option.some.inj hx).symm⟩
      have hin : i < ns.length := (List.getElem?_eq_some_iff.mp hnm).1
      refine ⟨rfl, tYes_ (iteT ?_)⟩
      refine ⟨_, rfl, _, rfl, _, rfl, rfl, w0, w1, size, _, rfl, O7.w, by omega, by omega, by omega, fun H8 g8 hg8 e8 W8 => ⟨by show 2 ≤ sizeLine; decide, fun t ht => ?_⟩⟩
      have O8 := O7.draw e8 W8
      have e9 := Ext.new (W := []) (o := .tup [.str nm, .int ((g8 : Nat) : Int)]) ht
      have O9 := O8.ext e9
      have kt9 := (O7.w.kt e8).trans e9.keep0
      have hacl : ac.length = i := by
        rw [td7.length, List.length_map]
        have := congrArg List.length hst
        rw [List.length_map, List.length_take] at this
        omega
      have ktA := kt9.trans (KeepT.upd (o := .lst (ac ++ [V.ref t])) (not_tup_lst (O9.get 0 rfl)))
      have tn : TD K (upd (upd H8 t (.tup [.str nm, .int ((g8 : Nat) : Int)])) D (.lst (ac ++ [V.ref t]))) (.ref t) (eSt (nm, g8)) := (TD.tup (SqT.of upd_same) (.cons (.str _) (.cons (.int _) .nil))).keep (KeepT.upd (not_tup_lst (O9.get 0 rfl)))
      refine ⟨_, O9.get 0 rfl, szl (by omega), sts ++ [(nm, g8)], ac ++ [V.ref t], _, O9.set (o' := .lst (ac ++ [V.ref t])) 0 rfl, by omega, kt7.trans ktA, ?_, ?_, ?_⟩
      · rw [List.map_append]
        exact (td7.keep ktA).append (.cons tn .nil)
      · rw [List.map_append, hst, List.take_succ, hnm]
        rfl
      · intro s hs
        rcases List.mem_append.mp hs with q | q
        · exact hsz s q
        · simp at q
          rw [q]
          exact hg8
    rintro H7 ⟨sts, ac, m4, O7, hm4, kt7, td7, hst, hsz⟩
    rw [List.length_map] at hst hm4
    rw [List.take_length] at hst
    refine ⟨D, _, rfl, .inl ⟨SqL.of (O7.get 0 rfl), fun t1 ht1 => ?_⟩⟩
    have e8 := Ext.new (W := []) (o := .tup ac) ht1
    have O8 := O7.tail.ext e8
    have t1d : TD K (upd H7 t1 (.tup ac)) (.ref t1) (.tuple (sts.map eSt)) := .tup (SqT.of upd_same) (td7.keep e8.keep0)
    have kt8 := kt7.trans e8.keep0
    generalize upd H7 t1 (.tup ac) = H8 at *
    refine ⟨_, rfl, _, rfl, by omega, by omega, fun D2 hD2 => ?_⟩
    rw [show ((size : Nat) : Int).toNat = size by omega]
    refine lc_it walk_range (fun i H' => ∃ (code : List Ins) (ac : List V) (m5 : Nat), OW H w0 w1 [(D2, .lst ac), (fn, .lst acc), (nl, .lst (ns.map V.str)), (sm, .lst (so.map V.str))] H' m5 ∧ m5 ≤ m4 + 40 * i ∧ KeepT H8 H' ∧ TDs K H' ac (code.map eIns) ∧ code.length = i ∧ i ≤ size ∧ ∀ j ∈ code, InsOk size ns j)
      ⟨[], [], _, O8.new hD2, Nat.le_refl _, (Ext.new (W := []) hD2).keep0, .nil, rfl, Nat.zero_le _, (fun s hs => nomatch hs)⟩ (fun i H' _ q => trivial) ?_ ?_
    · rintro i x H9 H9' hi ⟨code, ac2, m5, O9, hm5, kt9, td9, hcl, his, hio⟩ hy
      obtain ⟨rfl, rfl⟩ := hy
      refine ⟨rfl, tYes_ (iteT ?_)⟩
      have hnl9 := O9.get 2 rfl
      refine ⟨_, rfl, _, rfl, _, rfl, rfl, w0, w1, m5, size, nl, ns, rfl, O9.w, by omega, by omega, by omega, hnl9, (O9.ne (nl, .lst (ns.map V.str)) (by simp)).1, hn1, by omega, fun H10 u ins e10 W10 tu hiu => ?_⟩
      have O10 := O9.draw e10 W10
      have hacl : ac2.length = i := by rw [td9.length, List.length_map, hcl]
      have ktA := (O9.w.kt e10).trans (KeepT.upd (o := .lst (ac2 ++ [u])) (not_tup_lst (O10.get 0 rfl)))
      refine ⟨_, O10.get 0 rfl, szl (by omega), code ++ [ins], ac2 ++ [u], _, O10.set (o' := .lst (ac2 ++ [u])) 0 rfl, by omega, kt9.trans ktA, ?_, by rw [List.length_append, hcl]; rfl, by omega, fun j hj => ?_⟩
      · rw [List.map_append]
        exact (td9.keep ktA).append (.cons (tu.keep (KeepT.upd (not_tup_lst (O10.get 0 rfl)))) .nil)
      · rcases List.mem_append.mp hj with q | q
        · exact hio j q
        · simp at q
          rw [q]
          exact hiu
    rintro H9 ⟨code, ac2, m5, O9, hm5, kt9, td9, hcl, his, hio⟩
    refine ⟨D2, _, rfl, .inl ⟨SqL.of (O9.get 0 rfl), fun t2 ht2 => ⟨by show 2 ≤ sizeLine; decide, fun t3 ht3 => ?_⟩⟩⟩
    have e10 := Ext.new (W := []) (o := .tup ac2) ht2
    have e11 := Ext.new (W := []) (o := .tup [.ref t1, .ref t2]) ht3
    have O11 := (O9.tail.ext e10).ext e11
    refine ⟨_, _, .ref t3, ⟨sts, code⟩, m5, rfl, O11, by omega, ((kt6.trans kt8).trans kt9).trans (e10.trans e11).keep0, .tup (SqT.of upd_same) (.cons (t1d.keep (kt9.trans (e10.trans e11).keep0)) (.cons (.tup (SqT.of (e11 _ _ upd_same (fun m => nomatch m))) (td9.keep (e10.trans e11).keep0)) .nil)), ⟨?_, ?_, ?_, ?_, ?_⟩, hst⟩
    · show sts.length ≤ 12
      have := congrArg List.length hst
      rw [List.length_map] at this
      omega
    · show code.length ≤ 60000
      omega
    · intro s hs
      refine ⟨hlo s.1 ?_, ?_⟩
      · rw [← hst]
        exact List.mem_map_of_mem hs
      · show s.2 < code.length
        rw [hcl]
        exact hsz s hs
    · show (sts.map (·.1)).Nodup
      rw [hst]
      exact hnd
    · intro j hj
      show InsOk code.length (sts.map (·.1)) j
      rw [hcl, hst]
      exact hio j hj
  rintro σ' H7 ⟨y7, y13, gv, g, m4, rfl, O7, hm4, kt7, tg7, go, hgn⟩
  refine ⟨fun σ' H' => ∃ (y10 y14 : Option V) (f : Fdef) (pt : Addr) (m5 : Nat), σ' = [some (.ref w0), some kv, some (.ref sm), y3, y4, some (.ref nl), some (.ref fn), some (.str f.name), some (.ref pt), y9, y10, some (.int ((size : Nat) : Int)), some gv, y13, y14, none] ∧ OW H w0 w1 [(fn, .lst acc), (nl, .lst (ns.map V.str)), (sm, .lst (so.map V.str))] H' m5 ∧ m5 ≤ m4 + 1 ∧ KeepT H7 H' ∧ f ∈ fs ∧ SqT K H' pt (f.params.map V.str), ?_, ?_⟩
  · refine ⟨_, rfl, _, rfl, _, rfl, fn, _, rfl, .inl (SqL.of (O7.get 0 rfl)), rfl, w0, w1, acc.length, _, rfl, O7.w, by omega, by omega, by omega, fun H8 g8 hg8 e8 W8 => ?_⟩
    have O8 := O7.draw e8 W8
    have kt8 := O7.w.kt e8
    obtain ⟨f, hf⟩ : ∃ f, fs[g8]? = some f := ⟨_, List.getElem?_eq_getElem (by omega)⟩
    obtain ⟨x, hx, tx⟩ := TD.at_ (a := fn) (tf5.keep (kt7.trans kt8)) hf
    obtain ⟨fa, z1, z2, z3, z4, rfl, hfa, q1, q2, q3, q4⟩ := tx.four
    cases q1.str_
    obtain ⟨pt, rfl, hpt⟩ := q2.strs
    refine ⟨fn, _, _, _, rfl, rfl, SqL.of (O8.get 0 rfl), ix_nat hx, fa, _, rfl, hfa, rfl, _, _, rfl, _, _, rfl, _, _, rfl, _, _, rfl, rfl, ?_⟩
    exact ⟨_, _, f, pt, _, rfl, O8, by omega, kt8, List.mem_of_getElem? hf, hpt⟩
  rintro σ' H8 ⟨y10, y14, f, pt, m5, rfl, O8, hm5, kt8, hfm, hpt8⟩
  have hfv1 := hfv f hfm
  have kt58 := kt7.trans kt8
  refine ⟨fun σ' H' => ∃ (y3 : Option V) (a : Addr) (xs : List V) (wss : List (List Wd)) (m6 : Nat), σ' = [some (.ref w0), some kv, some (.ref sm), y3, y4, some (.ref nl), some (.ref fn), some (.str f.name), some (.ref pt), y9, y10, some (.int ((size : Nat) : Int)), some gv, y13, y14, some (.ref a)] ∧ OW H w0 w1 [(fn, .lst acc), (nl, .lst (ns.map V.str)), (sm, .lst (so.map V.str))] H' m6 ∧ m6 ≤ m5 + 600 ∧ KeepT H8 H' ∧ SqT K H' a xs ∧ TDs K H' xs (wss.map eWds) ∧ Args (tabKs ks) f.params wss, ?_, ?_⟩
  · refine ⟨_, rfl, pt, rfl, ⟨_, hpt8⟩, fun D hD => ?_⟩
    refine lc_tup (xs := f.params.map V.str) (fun i H' => ∃ (wss : List (List Wd)) (ac : List V) (m6 : Nat), OW H w0 w1 [(D, .lst ac), (fn, .lst acc), (nl, .lst (ns.map V.str)), (sm, .lst (so.map V.str))] H' m6 ∧ m6 ≤ m5 + 100 * i ∧ KeepT H8 H' ∧ TDs K H' ac (wss.map eWds) ∧ wss.length = i ∧ Args (tabKs ks) (f.params.take i) wss)
      ⟨[], [], _, O8.new hD, Nat.le_refl _, (Ext.new (W := []) hD).keep0, .nil, rfl, .nil⟩ (fun i H' _ q => by
        obtain ⟨wss, ac, m6, _, _, kt, _⟩ := q
        exact kt.sq hpt8) ?_ ?_
    · rintro i x H9 hx ⟨wss, ac, m6, O9, hm6, kt9, td9, hwl, ha9⟩
      obtain ⟨z, hz, rfl⟩ : ∃ z, f.params[i]? = some z ∧ x = .str z := by
        rw [List.getElem?_map] at hx
        cases q : f.params[i]? with
        | none => rw [q] at hx; cases hx
        | some z => rw [q] at hx; exact ⟨z, rfl, (Option.some.inj hx).symm⟩
      have hil : i < f.params.length := (List.getElem?_eq_some_iff.mp hz).1
      have hnp := hfv1.np
      refine ⟨rfl, tYes_ (iteT ?_)⟩
      refine ⟨_, rfl, _, rfl, _, rfl, rfl, w0, w1, m6, kv, ks, z, rfl, O9.w, by omega, tk5.keep (kt58.trans kt9), ok, op, hfv1.kp z (List.mem_of_getElem? hz), fun H10 u ws e10 W10 tu hF hl4 => ?_⟩
      have O10 := O9.draw e10 W10
      have hacl : ac.length = i := by rw [td9.length, List.length_map, hwl]
      have ktA := (O9.w.kt e10).trans (KeepT.upd (o := .lst (ac ++ [u])) (not_tup_lst (O10.get 0 rfl)))
      refine ⟨_, O10.get 0 rfl, szl (by omega), wss ++ [ws], ac ++ [u], _, O10.set (o' := .lst (ac ++ [u])) 0 rfl, by omega, kt9.trans ktA, ?_, by rw [List.length_append, hwl]; rfl, ?_⟩
      · rw [List.map_append]
        exact (td9.keep ktA).append (.cons (tu.keep (KeepT.upd (not_tup_lst (O10.get 0 rfl)))) .nil)
      · rw [List.take_succ, hz]
        exact ha9.snoc hF hl4
    rintro H9 ⟨wss, ac, m6, O9, hm6, kt9, td9, hwl, ha9⟩
    rw [List.length_map] at ha9 hm6
    rw [List.take_length] at ha9
    have hnp := hfv1.np
    refine ⟨D, _, rfl, .inl ⟨SqL.of (O9.get 0 rfl), fun t ht => ?_⟩⟩
    have e10 := Ext.new (W := []) (o := .tup ac) ht
    exact ⟨y3, t, ac, wss, m6, rfl, O9.tail.ext e10, by omega, kt9.trans e10.keep0, SqT.of upd_same, td9.keep e10.keep0, ha9⟩
  rintro σ' H9 ⟨y3, a, xs, wss, m6, rfl, O9, hm6, kt9, ha9, ta9, hargs⟩
  have ktF := kt58.trans kt9
  have hnp := hfv1.np
  have hwl := hargs.len
  obtain ⟨us, hh, hlay, hul, hhl⟩ := layA_ex (flds5 ok) hargs []
  have hh1 : hh.length ≤ 100000 := by
    have : ([] : List Int).length = 0 := rfl
    omega
  refine ⟨_, rfl, _, rfl, fn, _, rfl, .inl ⟨SqL.of (O9.get 0 rfl), fun t1 ht1 => ⟨by show 2 ≤ sizeLine; decide, fun t2 ht2 => ?_⟩⟩⟩
  have e10 := Ext.new (W := []) (o := .tup acc) ht1
  have e11 := Ext.new (W := []) (o := .tup [kv, .ref t1]) ht2
  have O11 := (O9.ext e10).ext e11
  have kt11 := (e10.trans e11).keep0
  have tcore : TD K (upd (upd H9 t1 (.tup acc)) t2 (.tup [kv, .ref t1])) (.ref t2) (eCore ⟨ks, fs⟩) :=
    .tup (SqT.of upd_same) (.cons (tk5.keep (ktF.trans kt11)) (.cons (.tup (SqT.of (e11 _ _ upd_same (fun m => nomatch m))) ((tf5.keep (ktF.trans kt11)))) .nil))
  generalize upd (upd H9 t1 (.tup acc)) t2 (.tup [kv, .ref t1]) = H11 at *
  refine ⟨_, rfl, _, rfl, _, rfl, _, rfl, _, rfl, rfl, w0, w1, m6, g, gv, f.name, ks, kv, a, xs, wss, us, hh, rfl, O11.w, by omega, tg7.keep ((kt8.trans kt9).trans kt11), go, ?_, tk5.keep (ktF.trans kt11), ok, kt11.sq ha9, ta9.keep kt11, hlay, hh1, by omega, hargs.mem, fun H12 gv2 g2 e12 W12 tg2 go2 hgn2 => ?_⟩
  · rw [hgn, ← hfn5]
    exact List.mem_map_of_mem hfm
  have O12 := O11.draw e12 W12
  have kt12 := O11.w.kt e12
  refine ⟨_, rfl, _, rfl, by show 4 ≤ sizeLine; decide, fun t ht => ?_⟩
  have e13 := Ext.new (W := []) (o := .tup [.ref t2, gv2, .str f.name, .ref a]) ht
  have O13 := O12.ext e13
  have kt13 := kt12.trans e13.keep0
  refine k _ (.ref t) ⟨ks, fs⟩ g2 f wss us hh O13.e (O13.w.mono (by omega)) ⟨t, a, _, _, xs, rfl, SqT.of upd_same, tcore.keep kt13, tg2.keep e13.keep0, (kt11.trans kt13).sq ha9, ta9.keep (kt11.trans kt13)⟩ ⟨⟨ok, by show fs.length ≤ 12; omega, hfv, by show (fs.map (·.name)).Nodup; rw [hfn5]; exact hnd⟩, go2, by show fs.map (·.name) = g2.names; rw [hfn5, hgn2, hgn], hfm, hargs, hlay, hh1⟩
end
end K47

set_option Elab.async false
set_option linter.all false
set_option maxRecDepth 100000
set_option maxHeartbeats 4000000
namespace K47
open PySem PySem.Spec PyProof.Rows L2
open C8 hiding CX0 E0
/-! right -/
theorem told_len {ks : Ks} {heap : List Int} {word : Int} : ∀ (n : Nat) (due : List (Int × Str)) (found : List Wd) (ws : List Wd), toldOf ks heap word n due found = .ended (some ws) → ws.length ≤ found.length + n
  | n, [], found, ws, h => by
    cases n <;> (unfold toldOf at h; cases h; omega)
  | 0, e :: due, found, ws, h => by
    unfold toldOf at h
    cases h
  | n + 1, (at_, k) :: due, found, ws, h => by
    unfold toldOf at h
    dsimp only at h
    split at h
    · cases h
    · generalize (if 0 ≤ at_ then heap.getD at_.toNat 0 else word) = here at h
      split at h
      · have := told_len n _ _ ws h
        rw [List.length_append] at this
        simp only [List.length_cons, List.length_nil] at this
        omega
      · split at h
        · split at h
          · have := told_len n _ _ ws h
            rw [List.length_append] at this
            simp only [List.length_cons, List.length_nil] at this
            omega
          · cases h
        · cases h
theorem okD_wds {ws : List Wd} (h : ws.length ≤ 100000) (n : Nat) : okD (n + 1) (eWds ws) = true := by
  unfold eWds okD
  rw [Bool.and_eq_true, List.all_eq_true]
  refine ⟨fun d hd => ?_, decide_eq_true (by rw [List.length_map]; exact h)⟩
  obtain ⟨w, _, rfl⟩ := List.mem_map.mp hd
  cases n <;> cases w <;> rfl
theorem okD_res (ks : Ks) (k : Str) (R : Res) : okD 2 (resD ks k R) = true := by
  have hv : okD 1 (resV ks k R) = true := by
    unfold resV
    split
    · generalize ht : told0 ks k R = t
      cases t with
      | wild => rfl
      | ended v =>
        cases v with
        | none => rfl
        | some ws =>
          have := told_len 4000 _ _ ws ht
          exact okD_wds (by simp at this; omega) 0
    · rfl
  unfold resD
  show ((okD 1 _ && (okD 1 (resV ks k R) && _)) && _) = true
  rw [hv]
  rfl
theorem okD_trace {R : Res} (h : R.t.length ≤ 100000) : okD 2 (traceD R) = true := by
  unfold traceD okD
  rw [Bool.and_eq_true, List.all_eq_true]
  refine ⟨fun d hd => ?_, decide_eq_true (by rw [List.length_map]; exact h)⟩
  obtain ⟨n, _, rfl⟩ := List.mem_map.mp hd
  rfl
/-- a limit that the law asks -/
def LimOk (R60 : Res) (L : Nat) : Prop := L ≤ 61 ∨ (R60.e ≠ .spent ∧ L = 1000000)
theorem lim_run {g : Img} {pc : Int} {m : MS} {L : Nat} (h : LimOk (runN g 60 pc m) L) : runN g L pc m = runN g (min L 61) pc m := by
  rcases h with h | ⟨h1, h2⟩
  · rw [Nat.min_eq_left h]
  · rw [h2, show min 1000000 61 = 61 from rfl, run_min h1 (show 60 ≤ 1000000 by decide), run_min h1 (show 60 ≤ 61 by decide)]
theorem lim_fine {g : Img} (o : ImgOk g) {us h : List Int} (hl : h.length ≤ 100000) {pc : Int} {L : Nat} (hL : LimOk (runN g 60 pc (ms0 us h)) L) : Fine g L pc (ms0 us h) := by
  refine fine_of (c := 400) (fun i hi => grow_le (o.ins i hi)) L pc (ms0 us h) ?_
  have h2 : (ms0 us h).size = h.length := by unfold MS.size ms0; simp
  rw [h2, lim_run hL]
  have h1 := run_len (g := g) (min L 61) pc (ms0 us h)
  have h3 : (runN g (min L 61) pc (ms0 us h)).t.length ≤ 61 := Nat.le_trans h1 (Nat.min_le_right _ _)
  have h4 := Nat.mul_le_mul_right 400 h3
  omega
theorem spent_word (ks : Ks) (k : Str) (R : Res) : decide (V.str (resW ks k R) = V.str (PySem.Str.ofString "spent")) = decide (R.e = .spent) := by
  unfold resW
  cases h : R.e with
  | ended =>
    dsimp only
    cases told0 ks k R with
    | ended v => rw [decide_eq_false (by intro q; exact absurd (V.str.inj q) (by show ¬ (PySem.Str.ofString "ended" = PySem.Str.ofString "spent"); decide)), decide_eq_false (by intro q; cases q)]
    | wild => rw [decide_eq_false (by intro q; exact absurd (V.str.inj q) (by show ¬ (PySem.Str.ofString "wild" = PySem.Str.ofString "spent"); decide)), decide_eq_false (by intro q; cases q)]
  | fault => rfl
  | spent => rfl
def r_right (K : PySem.W.Frag) : List V → Hp → VK → Prop := fun vs H Q => ∃ (w cl : Addr) (m : Nat) (u : V) (c : Core) (g : Img) (f : Fdef) (wss : List (List Wd)) (us h : List Int), vs = [.ref w, u] ∧ Well H w cl m ∧ m ≤ 300000000 ∧ CaseAt K H u c g f wss ∧ Case c g f wss us h ∧ ∀ H', Ext [w] H H' → Well H' w cl (m + 10) → Q (.bl true) H'
section
variable {P : Program} {w : World} {K : PySem.W.Frag} {mg : Str → Option Value} {base : Heap}
abbrev N_law_right : List Str := ["_law_well_here", "_law_some", "_law_core", "_law_image", "_law_name", "_law_args", "_law_whole", "_law_trace", "_law_steps", "_law_limits", "_law_turn_here", "_law_limit", "_law_due_here"]
theorem sc_law_right : FnScope ["_law_well_here", "_law_some", "_law_core", "_law_image", "_law_name", "_law_args", "_law_whole", "_law_trace", "_law_steps", "_law_limits", "_law_turn_here", "_law_limit", "_law_due_here"] ["_law_well_here", "_law_some"] (defScope s_law_right) := ⟨rfl, rfl, rfl, by decide +kernel, rfl, by decide +kernel, by decide +kernel⟩
theorem c_law_right (T : Txt w K mg) : Cal P w K mg base 12 "_law_right" (spN 2 (r_right K)) [] := by
  obtain ⟨fd, F⟩ := T.f_law_right
  refine cal_mk F T.m_law_right (fun _ _ _ _ _ _ us hl => match us, hl with | [_, _], _ => rfl) sc_law_right (fun _ _ _ _ h => h.1) (fun cdv A outer s H vs Q E hr h => ?_)
  have hu := hu_of hr
  have hul := hul_of hr
  obtain ⟨_, w0, w1, m, u, c, g, f, wss, us, hh, rfl, W, hm, ⟨ua, a, cv, gv, xs, rfl, hua, tc, tg, ha, ta⟩, C, k⟩ := h
  refine ⟨_, (pss_cut (ps_asg (pv 1) (pg_tupK (K := K) (n := 4) rfl rfl (pgs_cons (pg_name (i := 2) sc_law_right.nd rfl (by first | exact Or.inl rfl | exact Or.inr rfl)) (pgs_cons (pg_name (i := 3) sc_law_right.nd rfl (by first | exact Or.inl rfl | exact Or.inr rfl)) (pgs_cons (pg_name (i := 4) sc_law_right.nd rfl (by first | exact Or.inl rfl | exact Or.inr rfl)) (pgs_cons (pg_name (i := 5) sc_law_right.nd rfl (by first | exact Or.inl rfl | exact Or.inr rfl)) pgs_nil))))))
      (pss_cut (ps_asg (pe_c (c_law_due T) hr (by decide) (by rfl) (pa_cons (pv 2) (pa_cons (pv 3) (pa_cons (pv 4) (pa_cons (pv 5) (pa_cons (pe_int) pa_nil)))))) (pg_tupK (K := K) (n := 2) rfl rfl (pgs_cons (pg_name (i := 6) sc_law_right.nd rfl (by first | exact Or.inl rfl | exact Or.inr rfl)) (pgs_cons (pg_name (i := 7) sc_law_right.nd rfl (by first | exact Or.inl rfl | exact Or.inr rfl)) pgs_nil))))
      (pss_cons (ps_set (i := 8) sc_law_right.nd rfl (by first | exact Or.inl rfl | exact Or.inr rfl) (pe_callB (call_lenK (K := K) rfl) (by rfl) T.b_len bt_len (pa_cons (pv 7) pa_nil)))
      (pss_cut (ps_set (i := 9) sc_law_right.nd rfl (by first | exact Or.inl rfl | exact Or.inr rfl) (pe_lst (pa_cons (pe_int) (pa_cons (pv 8) (pa_cons (pe_callB (call_max2 rfl) (by rfl) T.b_max bt_max (pa_cons (pe_int) (pa_cons (pe_op op_sub (pv 8) (pe_int)) pa_nil))) (pa_cons (pe_c (c_law_draw T) hr (by decide) (by rfl) (pa_cons (pv 0) (pa_cons (pe_op op_add (pv 8) (pe_int)) pa_nil))) pa_nil))))))
      (pss_cut (ps_if (pt_cmpR op_ne (pe_ix (ix_tupK (K := K) rfl) (pv 6) (pe_int) (fun _ _ => rfl)) (pe_str) (nomark _)) (pss_one (ps_set (i := 9) sc_law_right.nd rfl (by first | exact Or.inl rfl | exact Or.inr rfl) (pe_op op_cat (pv 9) (pe_lst (pa_cons (pe_op op_add (pv 8) (pe_int)) (pa_cons (pe_int) pa_nil)))))) (pss_nil))
      (pss_cons (ps_for PassesOwn.never rfl (pi_range1 (by rfl) T.b_range (pa_cons (pe_int) pa_nil)) (pg_name (i := 10) sc_law_right.nd rfl (by first | exact Or.inl rfl | exact Or.inr rfl))
        (pss_cons (ps_set (i := 11) sc_law_right.nd rfl (by first | exact Or.inl rfl | exact Or.inr rfl) (pe_ix (ix_listK (K := K) rfl) (pv 9) (pe_c (c_law_draw T) hr (by decide) (by rfl) (pa_cons (pv 0) (pa_cons (pe_callB (call_lenK (K := K) rfl) (by rfl) T.b_len bt_len (pa_cons (pv 9) pa_nil)) pa_nil))) (fun _ _ => rfl)))
      (pss_cons (ps_asg (pe_c (c_law_due T) hr (by decide) (by rfl) (pa_cons (pv 2) (pa_cons (pv 3) (pa_cons (pv 4) (pa_cons (pv 5) (pa_cons (pe_callB (call_min2 rfl) (by rfl) T.b_min bt_min (pa_cons (pv 11) (pa_cons (pe_int) pa_nil))) pa_nil)))))) (pg_tupK (K := K) (n := 2) rfl rfl (pgs_cons (pg_name (i := 12) sc_law_right.nd rfl (by first | exact Or.inl rfl | exact Or.inr rfl)) (pgs_cons (pg_name (i := 7) sc_law_right.nd rfl (by first | exact Or.inl rfl | exact Or.inr rfl)) pgs_nil))))
      (pss_cons (ps_if (pt_not (pt_val (pe_c (c_law_same2 T) hr (by decide) (by rfl) (pa_cons (pe_c (c_run_image T) hr (by decide) (by rfl) (pa_cons (pv 2) (pa_cons (pv 3) (pa_cons (pv 4) (pa_cons (pv 5) (pa_cons (pv 11) pa_nil)))))) (pa_cons (pv 12) pa_nil))))) (pss_one (ps_ret (pe_bl))) (pss_nil))
      (pss_one (ps_if (pt_not (pt_val (pe_c (c_law_same2 T) hr (by decide) (by rfl) (pa_cons (pe_c (c_trace_image T) hr (by decide) (by rfl) (pa_cons (pv 2) (pa_cons (pv 3) (pa_cons (pv 4) (pa_cons (pv 5) (pa_cons (pv 11) pa_nil)))))) (pa_cons (pv 7) pa_nil))))) (pss_one (ps_ret (pe_bl))) (pss_nil)))))))
      (pss_one (ps_ret (pe_bl))))))))), ?_⟩
  generalize hpc : ((addrOf g f.name : Nat) : Int) = pc at *
  refine ⟨fun σ' H' => σ' = [some (.ref w0), some (.ref ua), some cv, some gv, some (.str f.name), some (.ref a), none, none, none, none, none, none, none] ∧ H = H', ?_, ?_⟩
  · exact ⟨_, rfl, ua, _, rfl, hua, rfl, _, _, rfl, _, _, rfl, _, _, rfl, _, _, rfl, rfl, rfl, rfl⟩
  rintro σ' H' ⟨rfl, rfl⟩
  refine ⟨fun σ' H' => ∃ (wa ta : Addr), σ' = [some (.ref w0), some (.ref ua), some cv, some gv, some (.str f.name), some (.ref a), some (.ref wa), some (.ref ta), none, none, none, none, none] ∧ Ext [] H H' ∧ TD K H' (.ref wa) (resD c.ks f.result (runN g 60 pc (ms0 us hh))) ∧ SqT K H' ta (vN (runN g 60 pc (ms0 us hh)).t), ?_, ?_⟩
  · refine ⟨_, rfl, _, rfl, _, rfl, _, rfl, rfl, c, g, f, wss, us, hh, cv, gv, a, xs, 60, rfl, tc, tg, ha, ta, C, by decide, fine61 C.go C.hl (by decide) _, fun H1 v e1 tv => ?_⟩
    rw [hpc] at tv
    obtain ⟨va, d1, d2, rfl, hva, t1, t2⟩ := TD.two (d1 := resD c.ks f.result (runN g 60 pc (ms0 us hh))) (d2 := traceD (runN g 60 pc (ms0 us hh))) tv
    obtain ⟨xa, xxs, rfl, hxa, txs⟩ := TD.open_ (ds := (runN g 60 pc (ms0 us hh)).t.map dN) t2
    obtain ⟨wa, wxs, rfl, hwa, twx⟩ := id (TD.open_ (ds := [.str (resW c.ks f.result (runN g 60 pc (ms0 us hh))), resV c.ks f.result (runN g 60 pc (ms0 us hh)), dN (runN g 60 pc (ms0 us hh)).t.length, dN (runN g 60 pc (ms0 us hh)).m.words, dN (runN g 60 pc (ms0 us hh)).m.top]) t1)
    refine ⟨va, _, rfl, hva, rfl, _, _, rfl, _, _, rfl, rfl, ?_⟩
    refine ⟨wa, xa, rfl, e1, t1, ?_⟩
    have : ∀ (l : List Nat) (ys : List V), TDs K H1 ys (l.map dN) → ys = vN l := by
      intro l
      induction l with
      | nil => intro ys t; exact t.nil_
      | cons n l ih =>
        intro ys t
        obtain ⟨v, vs, rfl, q1, q2⟩ := t.cons_
        cases q1.int_
        rw [ih vs q2]
        rfl
    rw [← this _ _ txs]
    exact hxa
  rintro σ' H1 ⟨wa, xa, rfl, e1, twa, hxa⟩
  generalize hR60 : runN g 60 pc (ms0 us hh) = R60 at *
  have hst : R60.t.length ≤ 60 := by rw [← hR60]; exact run_len 60 pc (ms0 us hh)
  refine ⟨_, rfl, xa, _, rfl, .inr hxa, ?_⟩
  rw [show (vN R60.t).length = R60.t.length by simp [vN]]
  have W1 := W.ext e1
  refine ⟨fun σ' H' => ∃ (ll : Addr) (ls : List Nat), σ' = [some (.ref w0), some (.ref ua), some cv, some gv, some (.str f.name), some (.ref a), some (.ref wa), some (.ref xa), some (.int ((R60.t.length : Nat) : Int)), some (.ref ll), none, none, none] ∧ OW H w0 w1 [(ll, .lst (vN ls))] H' (m + 1) ∧ KeepT H1 H' ∧ ls.length = 4 ∧ ∀ L ∈ ls, LimOk R60 L, ?_, ?_⟩
  · refine ⟨_, rfl, _, rfl, _, _, rfl, rfl, _, _, rfl, _, rfl, _, rfl, _, _, rfl, rfl, rfl, w0, w1, R60.t.length + 1, m, rfl, W1, by omega, by omega, by omega, fun H2 g2 hg2 e2 W2 => ⟨by show 4 ≤ sizeLine; decide, fun ll hll => ?_⟩⟩
    have O2 := ((OW.start W).ext e1).draw e2 W2
    have O3 := O2.new (o := .lst (vN [0, R60.t.length, R60.t.length - 1, g2])) hll
    have kt3 := (W1.kt e2).trans (Ext.new (W := []) (o := .lst (vN [0, R60.t.length, R60.t.length - 1, g2])) hll).keep0
    have e5 : (if (((R60.t.length : Nat) : Int) - 1) > 0 then (((R60.t.length : Nat) : Int) - 1) else 0) = ((R60.t.length - 1 : Nat) : Int) := by split <;> omega
    have el : ([V.int 0, V.int ((R60.t.length : Nat) : Int), V.int (if (((R60.t.length : Nat) : Int) - 1) > 0 then (((R60.t.length : Nat) : Int) - 1) else 0), V.int ((g2 : Nat) : Int)] : List V) = vN [0, R60.t.length, R60.t.length - 1, g2] := by rw [e5]; rfl
    rw [← el] at O3 kt3
    refine ⟨ll, [0, R60.t.length, R60.t.length - 1, g2], rfl, by rw [← el]; exact O3, kt3, rfl, fun L hL => .inl ?_⟩
    simp only [List.mem_cons, List.not_mem_nil, or_false] at hL
    rcases hL with rfl | rfl | rfl | rfl <;> omega
  rintro σ' H2 ⟨ll, ls, rfl, O2, kt2, hl4, hls⟩
  refine ⟨fun σ' H' => ∃ (ll : Addr) (ls : List Nat), σ' = [some (.ref w0), some (.ref ua), some cv, some gv, some (.str f.name), some (.ref a), some (.ref wa), some (.ref xa), some (.int ((R60.t.length : Nat) : Int)), some (.ref ll), none, none, none] ∧ OW H w0 w1 [(ll, .lst (vN ls))] H' (m + 1) ∧ KeepT H1 H' ∧ 1 ≤ ls.length ∧ ls.length ≤ 6 ∧ ∀ L ∈ ls, LimOk R60 L, ?_, ?_⟩
  · obtain ⟨wa', wxs, hq, hwa, twx⟩ := TD.open_ (ds := [.str (resW c.ks f.result R60), resV c.ks f.result R60, dN R60.t.length, dN R60.m.words, dN R60.m.top]) (twa.keep kt2)
    cases hq
    obtain ⟨v0, vs, rfl, t0, _⟩ := twx.cons_
    cases t0.str_
    refine ⟨_, rfl, wa, _, _, _, rfl, rfl, hwa, ix_nat (i := 0) rfl, rfl, _, rfl, ?_⟩
    rw [spent_word]
    by_cases hsp : R60.e = .spent
    · rw [decide_eq_true hsp]
      exact iteF ⟨ll, ls, rfl, O2, kt2, by omega, by omega, hls⟩
    rw [decide_eq_false hsp]
    refine iteT ⟨_, rfl, _, rfl, _, _, rfl, rfl, by show 2 ≤ sizeLine; decide, fun L2 hL2 => ?_⟩
    have O3 := O2.new (o := .lst (vN [R60.t.length + 1, 1000000])) hL2
    have e3 := Ext.new (W := []) (o := .lst (vN [R60.t.length + 1, 1000000])) hL2
    have e3' : Ext [] H2 (upd H2 L2 (.lst [V.int (((R60.t.length : Nat) : Int) + 1), V.int 1000000])) := e3
    replace O3 : OW H w0 w1 [(L2, .lst [V.int (((R60.t.length : Nat) : Int) + 1), V.int 1000000]), (ll, .lst (vN ls))] (upd H2 L2 (.lst [V.int (((R60.t.length : Nat) : Int) + 1), V.int 1000000])) (m + 1) := O3
    generalize upd H2 L2 (.lst [V.int (((R60.t.length : Nat) : Int) + 1), V.int 1000000]) = H3 at *
    refine ⟨ll, L2, _, _, rfl, rfl, O3.get 1 rfl, O3.get 0 rfl, by unfold vN; rw [List.length_map]; exact sz (by simp; omega), fun l3 hl3 => ?_⟩
    have O4 := O3.new (o := .lst (vN ls ++ [V.int (((R60.t.length : Nat) : Int) + 1), V.int 1000000])) hl3
    have e4 := Ext.new (W := []) (o := .lst (vN ls ++ [V.int (((R60.t.length : Nat) : Int) + 1), V.int 1000000])) hl3
    have el : vN (ls ++ [R60.t.length + 1, 1000000]) = vN ls ++ [V.int (((R60.t.length : Nat) : Int) + 1), V.int 1000000] := by unfold vN; rw [List.map_append]; rfl
    refine ⟨l3, ls ++ [R60.t.length + 1, 1000000], rfl, ?_, kt2.trans (e3'.trans e4).keep0, by rw [List.length_append]; simp, by rw [List.length_append]; simp; omega, fun L hL => ?_⟩
    · rw [el]
      have := O4
      exact ⟨this.e, by simp, fun p hp => by cases List.mem_singleton.mp hp; exact this.at_ _ List.mem_cons_self, fun p hp => by cases List.mem_singleton.mp hp; exact this.fr _ List.mem_cons_self, fun p hp => by cases List.mem_singleton.mp hp; exact this.ne _ List.mem_cons_self, this.w⟩
    · rcases List.mem_append.mp hL with q | q
      · exact hls L q
      · simp only [List.mem_cons, List.not_mem_nil, or_false] at q
        rcases q with rfl | rfl
        · exact .inl (by omega)
        · exact .inr ⟨hsp, rfl⟩
  rintro σ' H3 ⟨ll, ls, rfl, O3, kt3, hl1, hl6, hls⟩
  have kt13 := e1.keep0.trans kt3
  refine ⟨_, rfl, by decide, by decide, ?_⟩
  refine for_range (fun i σ H' => ∃ (y7 y10 y11 y12 : Option V), σ = [some (.ref w0), some (.ref ua), some cv, some gv, some (.str f.name), some (.ref a), some (.ref wa), y7, some (.int ((R60.t.length : Nat) : Int)), some (.ref ll), y10, y11, y12] ∧ OW H w0 w1 [(ll, .lst (vN ls))] H' (m + 1 + i) ∧ KeepT H H')
    ⟨_, _, _, _, rfl, O3, kt13⟩ ?_ ?_
  · rintro i σ H4 hi ⟨y7, y10, y11, y12, rfl, O4, kt4⟩
    have hi3 : i < 3 := hi
    refine ⟨_, rfl, _, rfl, _, rfl, ll, _, rfl, .inl (SqL.of (O4.get 0 rfl)), rfl, w0, w1, (vN ls).length, _, rfl, O4.w, by unfold vN; rw [List.length_map]; omega, by unfold vN; rw [List.length_map]; omega, by omega, fun H5 g5 hg5 e5 W5 => ?_⟩
    have hg5' : g5 < ls.length := by unfold vN at hg5; rwa [List.length_map] at hg5
    have O5 := O4.draw e5 W5
    have kt5 := kt4.trans (O4.w.kt e5)
    obtain ⟨L, hL⟩ : ∃ L, ls[g5]? = some L := ⟨_, List.getElem?_eq_getElem hg5'⟩
    have hLok := hls L (List.mem_of_getElem? hL)
    have hLm : L ≤ 1000000 := by rcases hLok with q | q <;> omega
    rw [← hR60] at hLok
    have hrun := lim_run hLok
    have hfin := lim_fine C.go C.hl hLok
    refine ⟨ll, _, _, .int ((L : Nat) : Int), rfl, rfl, SqL.of (O5.get 0 rfl), ix_nat (by unfold vN; rw [List.getElem?_map, hL]; rfl), ?_⟩
    refine ⟨_, rfl, _, rfl, _, rfl, _, rfl, _, rfl, _, _, rfl, ?_⟩
    rw [show (if (61 : Int) < ((L : Nat) : Int) then (61 : Int) else ((L : Nat) : Int)) = ((min L 61 : Nat) : Int) by split <;> omega]
    refine ⟨rfl, c, g, f, wss, us, hh, cv, gv, a, xs, min L 61, rfl, tc.keep kt5, tg.keep kt5, kt5.sq ha, ta.keep kt5, C, by omega, fine61 C.go C.hl (by omega) _, fun H6 v e6 tv => ?_⟩
    rw [hpc, ← hrun] at tv
    have O6 := O5.ext e6
    have kt6 := kt5.trans e6.keep0
    generalize hRL : runN g L pc (ms0 us hh) = RL at *
    have hlenRL : RL.t.length ≤ 100000 := by
      rw [hrun]
      have := run_len (g := g) (min L 61) pc (ms0 us hh)
      omega
    obtain ⟨va, d1, d2, rfl, hva, t1, t2⟩ := TD.two (d1 := resD c.ks f.result RL) (d2 := traceD RL) tv
    refine ⟨va, _, rfl, hva, rfl, _, _, rfl, _, _, rfl, rfl, ?_⟩
    refine ⟨_, rfl, _, rfl, _, rfl, _, rfl, _, rfl, rfl, c, g, f, wss, us, hh, cv, gv, a, xs, L, rfl, tc.keep kt6, tg.keep kt6, kt6.sq ha, ta.keep kt6, C, hLm, by rw [hpc]; exact hfin, fun H7 r1 e7 tr1 => ?_⟩
    rw [hpc, hRL] at tr1
    refine ⟨_, rfl, rfl, r1, d1, resD c.ks f.result RL, rfl, tr1, t1.keep e7.keep0, okD_res _ _ _, fun H8 e8 => ⟨true, rfl, iteF ?_⟩⟩
    have e68 := e7.trans e8
    have kt8 := kt6.trans e68.keep0
    refine ⟨_, rfl, _, rfl, _, rfl, _, rfl, _, rfl, rfl, c, g, f, wss, us, hh, cv, gv, a, xs, L, rfl, tc.keep kt8, tg.keep kt8, kt8.sq ha, ta.keep kt8, C, hLm, by rw [hpc]; exact hfin, fun H9 r2 e9 tr2 => ?_⟩
    rw [hpc, hRL] at tr2
    refine ⟨_, rfl, rfl, r2, d2, traceD RL, rfl, tr2, t2.keep (e68.trans e9).keep0, okD_trace hlenRL, fun H10 e10 => ⟨true, rfl, iteF ?_⟩⟩
    have e610 := (e68.trans e9).trans e10
    exact ⟨_, _, _, _, rfl, O6.ext e610, kt6.trans e610.keep0⟩
  · rintro σ H4 ⟨y7, y10, y11, y12, rfl, O4, kt4⟩
    exact k H4 O4.e (O4.w.mono (by show m + 1 + 3 ≤ m + 10; omega))
end
end K47

set_option Elab.async false
set_option linter.all false
set_option maxRecDepth 100000
set_option maxHeartbeats 4000000
namespace K47
open PySem PySem.Spec PyProof.Rows L2
open C8 hiding CX0 E0
/-! the loop, plain -/
def loopG : Img := ⟨[("count", 0)], [.set 1 1, .set 2 0, .less 2 0 5, .add 2 2 1, .jump 2, .copy 0 2, .ret]⟩
def loopF : Fdef := ⟨"count", ["whole"], "whole", true⟩
def loopC : Core := ⟨[], [loopF]⟩
def MM (n k : Nat) : MS := ⟨[(n : Int), 1, (k : Int), 0, 0, 0, 0, 0], [], [], 0, 0⟩
theorem st2 (n k : Nat) : step loopG 2 (MM n k) = .next (if ((k : Nat) : Int) < ((n : Nat) : Int) then 3 else 5) (MM n k) := rfl
theorem st3 (n k : Nat) : step loopG 3 (MM n k) = .next 4 (MM n (k + 1)) := rfl
theorem st4 (n k : Nat) : step loopG 4 (MM n k) = .next 2 (MM n k) := rfl
theorem st5 (n : Nat) : step loopG 5 (MM n n) = .next 6 (MM n n) := rfl
theorem st6 (n k : Nat) : step loopG 6 (MM n k) = .over := rfl
theorem loop_ended (n : Nat) : ∀ (j k x : Nat), k + j = n → (runN loopG (3 * j + 3 + x) 2 (MM n k)).e = .ended ∧ (runN loopG (3 * j + 3 + x) 2 (MM n k)).t.length = 3 * j + 3 ∧ (runN loopG (3 * j + 3 + x) 2 (MM n k)).m = MM n n
  | 0, k, x, h => by
    have hk : k = n := h
    subst hk
    rw [show 3 * 0 + 3 + x = ((x + 1 + 1) + 1) by omega, run_step, st2, if_neg (Int.lt_irrefl _)]
    simp only []
    rw [run_step, st5]
    simp only []
    rw [run_step, st6]
    exact ⟨rfl, rfl, rfl⟩
  | j + 1, k, x, h => by
    obtain ⟨a, b, c⟩ := loop_ended n j (k + 1) x (by omega)
    rw [show 3 * (j + 1) + 3 + x = ((3 * j + 3 + x + 1 + 1) + 1) by omega, run_step, st2, if_pos (by omega)]
    simp only []
    rw [run_step, st3]
    simp only []
    rw [run_step, st4]
    simp only [List.length_cons]
    exact ⟨a, by omega, c⟩
theorem loop_spent (n : Nat) : ∀ (j k : Nat), k + j = n → (runN loopG (3 * j + 2) 2 (MM n k)).e = .spent ∧ (runN loopG (3 * j + 2) 2 (MM n k)).t.length = 3 * j + 2 ∧ (runN loopG (3 * j + 2) 2 (MM n k)).m = MM n n
  | 0, k, h => by
    have hk : k = n := h
    subst hk
    rw [show 3 * 0 + 2 = (0 + 1) + 1 by omega, run_step, st2, if_neg (Int.lt_irrefl _)]
    simp only []
    rw [run_step, st5]
    exact ⟨rfl, rfl, rfl⟩
  | j + 1, k, h => by
    obtain ⟨a, b, c⟩ := loop_spent n j (k + 1) (by omega)
    rw [show 3 * (j + 1) + 2 = ((3 * j + 2 + 1 + 1) + 1) by omega, run_step, st2, if_pos (by omega)]
    simp only []
    rw [run_step, st3]
    simp only []
    rw [run_step, st4]
    simp only [List.length_cons]
    exact ⟨a, by omega, c⟩
theorem ms0_loop (n : Nat) : ms0 [(n : Int)] [] = ⟨[(n : Int), 0, 0, 0, 0, 0, 0, 0], [], [], 0, 0⟩ := rfl
theorem st0 (n : Nat) : step loopG 0 (ms0 [(n : Int)] []) = .next 1 ⟨[(n : Int), 1, 0, 0, 0, 0, 0, 0], [], [], 0, 0⟩ := rfl
theorem st1 (n : Nat) : step loopG 1 ⟨[(n : Int), 1, 0, 0, 0, 0, 0, 0], [], [], 0, 0⟩ = .next 2 (MM n 0) := rfl
theorem whole_ended (n x : Nat) : (runN loopG (3 * n + 5 + x) 0 (ms0 [(n : Int)] [])).e = .ended ∧ (runN loopG (3 * n + 5 + x) 0 (ms0 [(n : Int)] [])).t.length = 3 * n + 5 ∧ (runN loopG (3 * n + 5 + x) 0 (ms0 [(n : Int)] [])).m = MM n n := by
  obtain ⟨a, b, c⟩ := loop_ended n n 0 x (by omega)
  rw [show 3 * n + 5 + x = ((3 * n + 3 + x) + 1) + 1 by omega, run_step, st0]
  simp only []
  rw [run_step, st1]
  simp only [List.length_cons]
  exact ⟨a, by omega, c⟩
theorem whole_spent (n : Nat) : (runN loopG (3 * n + 4) 0 (ms0 [(n : Int)] [])).e = .spent ∧ (runN loopG (3 * n + 4) 0 (ms0 [(n : Int)] [])).t.length = 3 * n + 4 ∧ (runN loopG (3 * n + 4) 0 (ms0 [(n : Int)] [])).m = MM n n := by
  obtain ⟨a, b, c⟩ := loop_spent n n 0 (by omega)
  rw [show 3 * n + 4 = ((3 * n + 2) + 1) + 1 by omega, run_step, st0]
  simp only []
  rw [run_step, st1]
  simp only [List.length_cons]
  exact ⟨a, by omega, c⟩
theorem loop_fine (n L : Nat) : Fine loopG L 0 (ms0 [(n : Int)] []) := by
  refine fine_of (c := 0) (fun i hi => ?_) L 0 (ms0 [(n : Int)] []) ?_
  · simp only [loopG, List.mem_cons, List.not_mem_nil, or_false] at hi
    rcases hi with rfl | rfl | rfl | rfl | rfl | rfl | rfl <;> exact Nat.le_refl _
  · rw [Nat.mul_zero]
    show 0 + 0 ≤ 4000000
    decide
theorem loop_resE (n x : Nat) : resD [] "whole" (runN loopG (3 * n + 5 + x) 0 (ms0 [(n : Int)] [])) = .tuple [.str "ended", .tuple [dN n], dN (3 * n + 5), dN 0, dN 0] := by
  obtain ⟨a, b, c⟩ := whole_ended n x
  generalize runN loopG (3 * n + 5 + x) 0 (ms0 [(n : Int)] []) = R at *
  have ht : told0 [] "whole" R = .ended (some [.num (n : Int)]) := by
    unfold told0
    rw [c]
    rfl
  unfold resD resW resV
  rw [a]
  simp only []
  rw [ht, b, c]
  rfl
theorem loop_resS (n : Nat) : resD [] "whole" (runN loopG (3 * n + 4) 0 (ms0 [(n : Int)] [])) = .tuple [.str "spent", .none, dN (3 * n + 4), dN 0, dN 0] := by
  obtain ⟨a, b, c⟩ := whole_spent n
  generalize runN loopG (3 * n + 4) 0 (ms0 [(n : Int)] []) = R at *
  unfold resD resW resV
  rw [a]
  simp only []
  rw [b, c]
  rfl
theorem loop_img : ImgOk loopG := by
  refine ⟨by decide, by decide, fun s hs => ?_, by decide, fun i hi => ?_⟩
  · cases List.mem_singleton.mp hs
    exact ⟨by decide +kernel, by decide⟩
  · simp only [loopG, List.mem_cons, List.not_mem_nil, or_false] at hi
    rcases hi with rfl | rfl | rfl | rfl | rfl | rfl | rfl
    · exact ⟨by decide, by decide, by decide⟩
    · exact ⟨by decide, by decide, by decide⟩
    · exact ⟨by decide, by decide, by decide⟩
    · exact ⟨by decide, by decide, by decide⟩
    · show 2 < 7; decide
    · exact ⟨by decide, by decide⟩
    · trivial
theorem loop_case (n : Nat) : Case loopC loopG loopF [[.num (n : Int)]] [(n : Int)] [] := by
  refine ⟨⟨⟨by decide, (fun k hk => nomatch hk), (fun k hk => nomatch hk), (fun k hk => nomatch hk), List.nodup_nil, List.nodup_nil⟩, by decide, fun f hf => ?_, by decide⟩, loop_img, rfl, List.mem_singleton.mpr rfl, .cons (.num .nil) (show 1 ≤ 400 by decide) .nil, .cons .num .nil, by decide⟩
  cases List.mem_singleton.mp hf
  exact ⟨by decide +kernel, by decide, fun p hp => .inl (List.mem_singleton.mp hp), .inl rfl, fun _ => rfl⟩
end K47

set_option Elab.async false
set_option linter.all false
set_option maxRecDepth 100000
set_option maxHeartbeats 4000000
namespace K47
open PySem PySem.Spec PyProof.Rows L2
open C8 hiding CX0 E0
def r_long (K : PySem.W.Frag) : List V → Hp → VK → Prop := fun vs H Q => ∃ (w cl : Addr) (m : Nat), vs = [.ref w] ∧ Well H w cl m ∧ m ≤ 300000000 ∧ ∀ H', Ext [w] H H' → Well H' w cl (m + 10) → Q (.bl true) H'
def r_law (K : PySem.W.Frag) : List V → Hp → VK → Prop := fun vs H Q => ∃ (a : Addr) (cs : List Int), vs = [.ref a] ∧ (SqL K H a (vI cs) ∨ SqT K H a (vI cs)) ∧ cs.length ≤ 100 ∧ ∀ H', Q (.bl true) H'
section
variable {P : Program} {w : World} {K : PySem.W.Frag} {mg : Str → Option Value} {base : Heap}
abbrev N_law_long_right : List Str := ["_law_well_here", "_law_rows", "_law_n", "_law_image", "_law_core", "_law_due_here"]
theorem sc_law_long_right : FnScope ["_law_well_here", "_law_rows", "_law_n", "_law_image", "_law_core", "_law_due_here"] ["_law_well_here"] (defScope s_law_long_right) := ⟨rfl, rfl, rfl, by decide +kernel, rfl, by decide +kernel, by decide +kernel⟩
theorem c_law_long_right (T : Txt w K mg) : Cal P w K mg base 12 "_law_long_right" (spN 1 (r_long K)) [] := by
  obtain ⟨fd, F⟩ := T.f_law_long_right
  refine cal_mk F T.m_law_long_right (fun _ _ _ _ _ _ us hl => match us, hl with | [_], _ => rfl) sc_law_long_right (fun _ _ _ _ h => h.1) (fun cdv A outer s H vs Q E hr h => ?_)
  have hu := hu_of hr
  have hul := hul_of hr
  obtain ⟨_, w0, w1, m, rfl, W, hm, k⟩ := h
  refine ⟨_, (pss_cut (ps_set (i := 1) sc_law_long_right.nd rfl (by first | exact Or.inl rfl | exact Or.inr rfl) (pe_lst (pa_cons (pe_tup (pa_cons (pe_str) (pa_cons (pe_int) (pa_cons (pe_int) pa_nil)))) (pa_cons (pe_tup (pa_cons (pe_str) (pa_cons (pe_int) (pa_cons (pe_int) pa_nil)))) (pa_cons (pe_tup (pa_cons (pe_str) (pa_cons (pe_int) (pa_cons (pe_int) (pa_cons (pe_int) pa_nil))))) (pa_cons (pe_tup (pa_cons (pe_str) (pa_cons (pe_int) (pa_cons (pe_int) (pa_cons (pe_int) pa_nil))))) (pa_cons (pe_tup (pa_cons (pe_str) (pa_cons (pe_int) pa_nil))) (pa_cons (pe_tup (pa_cons (pe_str) (pa_cons (pe_int) (pa_cons (pe_int) pa_nil)))) (pa_cons (pe_tup (pa_cons (pe_str) pa_nil)) pa_nil)))))))))
      (pss_cut (ps_set (i := 2) sc_law_long_right.nd rfl (by first | exact Or.inl rfl | exact Or.inr rfl) (pe_ix (ix_listK (K := K) rfl) (pe_lst (pa_cons (pe_c (c_law_draw T) hr (by decide) (by rfl) (pa_cons (pv 0) (pa_cons (pe_int) pa_nil))) (pa_cons (pe_op op_add (pe_int) (pe_c (c_law_draw T) hr (by decide) (by rfl) (pa_cons (pv 0) (pa_cons (pe_int) pa_nil)))) pa_nil))) (pe_c (c_law_draw T) hr (by decide) (by rfl) (pa_cons (pv 0) (pa_cons (pe_int) pa_nil))) (fun _ _ => rfl)))
      (pss_cut (ps_set (i := 3) sc_law_long_right.nd rfl (by first | exact Or.inl rfl | exact Or.inr rfl) (pe_tup (pa_cons (pe_tup (pa_cons (pe_tup (pa_cons (pe_str) (pa_cons (pe_int) pa_nil))) pa_nil)) (pa_cons (pe_callTy call_tuple_of (by rfl) T.b_tuple bt_tuple (pa_cons (pv 1) pa_nil)) pa_nil))))
      (pss_cut (ps_set (i := 4) sc_law_long_right.nd rfl (by first | exact Or.inl rfl | exact Or.inr rfl) (pe_tup (pa_cons (pe_tup (pa_nil)) (pa_cons (pe_tup (pa_cons (pe_tup (pa_cons (pe_str) (pa_cons (pe_tup (pa_cons (pe_str) pa_nil)) (pa_cons (pe_str) (pa_cons (pe_tup (pa_cons (pe_tup (pa_cons (pe_str) (pa_cons (pe_int) pa_nil))) pa_nil)) pa_nil))))) pa_nil)) pa_nil))))
      (pss_cut (ps_set (i := 5) sc_law_long_right.nd rfl (by first | exact Or.inl rfl | exact Or.inr rfl) (pe_tup (pa_cons (pe_str) (pa_cons (pe_tup (pa_cons (pv 2) pa_nil)) (pa_cons (pe_op op_add (pe_op op_mul (pe_int) (pv 2)) (pe_int)) (pa_cons (pe_int) (pa_cons (pe_int) pa_nil)))))))
      (pss_cons (ps_if (pt_not (pt_val (pe_c (c_law_same2 T) hr (by decide) (by rfl) (pa_cons (pe_c (c_run_image T) hr (by decide) (by rfl) (pa_cons (pv 4) (pa_cons (pv 3) (pa_cons (pe_str) (pa_cons (pe_tup (pa_cons (pe_tup (pa_cons (pv 2) pa_nil)) pa_nil)) (pa_cons (pe_ix (ix_listK (K := K) rfl) (pe_lst (pa_cons (pe_op op_add (pe_op op_mul (pe_int) (pv 2)) (pe_int)) (pa_cons (pe_int) pa_nil))) (pe_c (c_law_draw T) hr (by decide) (by rfl) (pa_cons (pv 0) (pa_cons (pe_int) pa_nil))) (fun _ _ => rfl)) pa_nil)))))) (pa_cons (pv 5) pa_nil))))) (pss_one (ps_ret (pe_bl))) (pss_nil))
      (pss_one (ps_ret (pe_c (c_law_same2 T) hr (by decide) (by rfl) (pa_cons (pe_c (c_run_image T) hr (by decide) (by rfl) (pa_cons (pv 4) (pa_cons (pv 3) (pa_cons (pe_str) (pa_cons (pe_tup (pa_cons (pe_tup (pa_cons (pv 2) pa_nil)) pa_nil)) (pa_cons (pe_op op_add (pe_op op_mul (pe_int) (pv 2)) (pe_int)) pa_nil)))))) (pa_cons (pe_tup (pa_cons (pe_str) (pa_cons (pe_non) (pa_cons (pe_op op_add (pe_op op_mul (pe_int) (pv 2)) (pe_int)) (pa_cons (pe_int) (pa_cons (pe_int) pa_nil)))))) pa_nil))))))))))), ?_⟩
  refine ⟨fun σ' H' => ∃ (rl : Addr) (xs : List V), σ' = [some (.ref w0), some (.ref rl), none, none, none, none] ∧ OW H w0 w1 [(rl, .lst xs)] H' m ∧ TDs K H' xs (loopG.code.map eIns) ∧ xs.length = 7, ?_, ?_⟩
  · refine ⟨by show 3 ≤ sizeLine; decide, fun u1 h1 => ⟨by show 3 ≤ sizeLine; decide, fun u2 h2 => ⟨by show 4 ≤ sizeLine; decide, fun u3 h3 => ⟨by show 4 ≤ sizeLine; decide, fun u4 h4 => ⟨by show 2 ≤ sizeLine; decide, fun u5 h5 => ⟨by show 3 ≤ sizeLine; decide, fun u6 h6 => ⟨by show 1 ≤ sizeLine; decide, fun u7 h7 => ⟨by show 7 ≤ sizeLine; decide, fun rl hrl => ?_⟩⟩⟩⟩⟩⟩⟩⟩
    have O1 := (OW.start W).new (o := .tup [.str "set", .int 1, .int 1]) h1
    have O2 := O1.new (o := .tup [.str "set", .int 2, .int 0]) h2
    have O3 := O2.new (o := .tup [.str "less", .int 2, .int 0, .int 5]) h3
    have O4 := O3.new (o := .tup [.str "add", .int 2, .int 2, .int 1]) h4
    have O5 := O4.new (o := .tup [.str "jump", .int 2]) h5
    have O6 := O5.new (o := .tup [.str "copy", .int 0, .int 2]) h6
    have O7 := O6.new (o := .tup [.str "return"]) h7
    have O8 := O7.new (o := .lst [.ref u1, .ref u2, .ref u3, .ref u4, .ref u5, .ref u6, .ref u7]) hrl
    refine ⟨rl, [.ref u1, .ref u2, .ref u3, .ref u4, .ref u5, .ref u6, .ref u7], rfl, ⟨O8.e, by simp, fun p hp => by cases List.mem_singleton.mp hp; exact O8.at_ _ List.mem_cons_self, fun p hp => by cases List.mem_singleton.mp hp; exact O8.fr _ List.mem_cons_self, fun p hp => by cases List.mem_singleton.mp hp; exact O8.ne _ List.mem_cons_self, O8.w⟩, ?_, rfl⟩
    exact .cons (.tup (SqT.of (O8.get 7 rfl)) (.cons (.str _) (.cons (.int _) (.cons (.int _) .nil)))) (.cons (.tup (SqT.of (O8.get 6 rfl)) (.cons (.str _) (.cons (.int _) (.cons (.int _) .nil)))) (.cons (.tup (SqT.of (O8.get 5 rfl)) (.cons (.str _) (.cons (.int _) (.cons (.int _) (.cons (.int _) .nil))))) (.cons (.tup (SqT.of (O8.get 4 rfl)) (.cons (.str _) (.cons (.int _) (.cons (.int _) (.cons (.int _) .nil))))) (.cons (.tup (SqT.of (O8.get 3 rfl)) (.cons (.str _) (.cons (.int _) .nil))) (.cons (.tup (SqT.of (O8.get 2 rfl)) (.cons (.str _) (.cons (.int _) (.cons (.int _) .nil)))) (.cons (.tup (SqT.of (O8.get 1 rfl)) (.cons (.str _) .nil)) .nil))))))
  rintro σ' H1 ⟨rl, xs, rfl, O1, tx, hx7⟩
  refine ⟨fun σ' H' => ∃ (n m2 : Nat), σ' = [some (.ref w0), some (.ref rl), some (.int ((n : Nat) : Int)), none, none, none] ∧ OW H w0 w1 [(rl, .lst xs)] H' m2 ∧ m2 ≤ m + 3 ∧ TDs K H' xs (loopG.code.map eIns) ∧ n ≤ 40000, ?_, ?_⟩
  · refine ⟨_, rfl, rfl, w0, w1, 300, _, rfl, O1.w, by omega, by omega, by omega, fun H2 g2 hg2 e2 W2 => ⟨_, rfl, rfl, w0, w1, 1000, _, rfl, W2, by omega, by omega, by omega, fun H3 g3 hg3 e3 W3 => ⟨_, _, rfl, rfl, by show 2 ≤ sizeLine; decide, fun L hL => ?_⟩⟩⟩
    have O3 := (O1.draw (e2.trans e3) W3).new (o := .lst [V.int ((g2 : Nat) : Int), V.int (33000 + ((g3 : Nat) : Int))]) hL
    have k3 := (O1.w.kt (e2.trans e3)).trans (Ext.new (W := []) (o := .lst [V.int ((g2 : Nat) : Int), V.int (33000 + ((g3 : Nat) : Int))]) hL).keep0
    refine ⟨_, rfl, rfl, w0, w1, 2, _, rfl, O3.w, by omega, by omega, by omega, fun H4 g4 hg4 e4 W4 => ?_⟩
    have O4 := O3.draw e4 W4
    have k4 := k3.trans (O3.w.kt e4)
    obtain ⟨n, hn, hn2⟩ : ∃ n : Nat, ([V.int ((g2 : Nat) : Int), V.int (33000 + ((g3 : Nat) : Int))] : List V)[g4]? = some (.int ((n : Nat) : Int)) ∧ n ≤ 40000 := by
      match g4, hg4 with
      | 0, _ => exact ⟨g2, rfl, by omega⟩
      | 1, _ => exact ⟨33000 + g3, by rw [show (33000 : Int) + ((g3 : Nat) : Int) = ((33000 + g3 : Nat) : Int) by omega]; rfl, by omega⟩
    refine ⟨L, _, _, _, rfl, rfl, SqL.of (O4.get 0 rfl), ix_nat hn, ?_⟩
    exact ⟨n, _, rfl, O4.tail, by omega, tx.keep k4, hn2⟩
  rintro σ' H2 ⟨n, m2, rfl, O2, hm2, tx2, hn⟩
  refine ⟨fun σ' H' => ∃ (gv : V), σ' = [some (.ref w0), some (.ref rl), some (.int ((n : Nat) : Int)), some gv, none, none] ∧ OW H w0 w1 [(rl, .lst xs)] H' m2 ∧ TD K H' gv (eImg loopG), ?_, ?_⟩
  · refine ⟨by show 2 ≤ sizeLine; decide, fun q1 hq1 => ⟨by show 1 ≤ sizeLine; decide, fun q2 hq2 => ⟨_, rfl, rl, xs, rfl, .inl ⟨SqL.of ?_, fun q3 hq3 => ⟨by show 2 ≤ sizeLine; decide, fun q4 hq4 => ?_⟩⟩⟩⟩⟩
    · exact ((O2.new hq1).new hq2).get 2 rfl
    have f1 := Ext.new (W := []) (o := .tup [.str "count", .int 0]) hq1
    have f2 := Ext.new (W := []) (o := .tup [.ref q1]) hq2
    have f3 := Ext.new (W := []) (o := .tup xs) hq3
    have f4 := Ext.new (W := []) (o := .tup [.ref q2, .ref q3]) hq4
    refine ⟨.ref q4, rfl, (((O2.ext f1).ext f2).ext f3).ext f4, ?_⟩
    exact .tup (SqT.of upd_same) (.cons (.tup (SqT.of ((f3.trans f4) _ _ upd_same (fun m => nomatch m))) (.cons (.tup (SqT.of (((f2.trans f3).trans f4) _ _ upd_same (fun m => nomatch m))) (.cons (.str _) (.cons (.int _) .nil))) .nil)) (.cons (.tup (SqT.of (f4 _ _ upd_same (fun m => nomatch m))) (tx2.keep (((f1.trans f2).trans f3).trans f4).keep0)) .nil))
  rintro σ' H3 ⟨gv, rfl, O3, tg⟩
  refine ⟨fun σ' H' => ∃ (cv : V), σ' = [some (.ref w0), some (.ref rl), some (.int ((n : Nat) : Int)), some gv, some cv, none] ∧ OW H w0 w1 [(rl, .lst xs)] H' m2 ∧ TD K H' gv (eImg loopG) ∧ TD K H' cv (eCore loopC), ?_, ?_⟩
  · refine ⟨Nat.zero_le _, fun q0 hq0 => ⟨by show 1 ≤ sizeLine; decide, fun q1 hq1 => ⟨by show 2 ≤ sizeLine; decide, fun q2 hq2 => ⟨by show 1 ≤ sizeLine; decide, fun q3 hq3 => ⟨by show 4 ≤ sizeLine; decide, fun q4 hq4 => ⟨by show 1 ≤ sizeLine; decide, fun q5 hq5 => ⟨by show 2 ≤ sizeLine; decide, fun q6 hq6 => ?_⟩⟩⟩⟩⟩⟩⟩
    have f0 := Ext.new (W := []) (o := .tup []) hq0
    have f1 := Ext.new (W := []) (o := .tup [.str "whole"]) hq1
    have f2 := Ext.new (W := []) (o := .tup [.str "give", .int 0]) hq2
    have f3 := Ext.new (W := []) (o := .tup [.ref q2]) hq3
    have f4 := Ext.new (W := []) (o := .tup [.str "count", .ref q1, .str "whole", .ref q3]) hq4
    have f5 := Ext.new (W := []) (o := .tup [.ref q4]) hq5
    have f6 := Ext.new (W := []) (o := .tup [.ref q0, .ref q5]) hq6
    have f56 := f5.trans f6
    have f46 := f4.trans f56
    have f36 := f3.trans f46
    have f26 := f2.trans f36
    have f16 := f1.trans f26
    refine ⟨.ref q6, rfl, O3.ext (f0.trans f16), tg.keep (f0.trans f16).keep0, ?_⟩
    exact .tup (SqT.of upd_same) (.cons (.tup (SqT.of (f16 _ _ upd_same (fun m => nomatch m))) .nil) (.cons (.tup (SqT.of (f6 _ _ upd_same (fun m => nomatch m))) (.cons (.tup (SqT.of (f56 _ _ upd_same (fun m => nomatch m))) (.cons (.str _) (.cons (.tup (SqT.of (f26 _ _ upd_same (fun m => nomatch m))) (.cons (.str _) .nil)) (.cons (.str _) (.cons (.tup (SqT.of (f46 _ _ upd_same (fun m => nomatch m))) (.cons (.tup (SqT.of (f36 _ _ upd_same (fun m => nomatch m))) (.cons (.str _) (.cons (.int _) .nil))) .nil)) .nil))))) .nil)) .nil))
  rintro σ' H4 ⟨cv, rfl, O4, tg4, tc4⟩
  have e35 : (3 : Int) * ((n : Nat) : Int) + 5 = ((3 * n + 5 : Nat) : Int) := by omega
  have e34 : (3 : Int) * ((n : Nat) : Int) + 4 = ((3 * n + 4 : Nat) : Int) := by omega
  refine ⟨fun σ' H' => ∃ (dv : V), σ' = [some (.ref w0), some (.ref rl), some (.int ((n : Nat) : Int)), some gv, some cv, some dv] ∧ OW H w0 w1 [(rl, .lst xs)] H' m2 ∧ TD K H' gv (eImg loopG) ∧ TD K H' cv (eCore loopC) ∧ TD K H' dv (.tuple [.str "ended", .tuple [dN n], dN (3 * n + 5), dN 0, dN 0]), ?_, ?_⟩
  · refine ⟨_, rfl, by show 1 ≤ sizeLine; decide, fun q1 hq1 => ⟨_, rfl, _, _, rfl, rfl, .inl ⟨by decide, by decide⟩, _, _, rfl, rfl, by show 5 ≤ sizeLine; decide, fun q2 hq2 => ?_⟩⟩
    have f1 := Ext.new (W := []) (o := .tup [.int ((n : Nat) : Int)]) hq1
    have f2 := Ext.new (W := []) (o := .tup [.str "ended", .ref q1, .int (3 * ((n : Nat) : Int) + 5), .int 0, .int 0]) hq2
    refine ⟨.ref q2, rfl, (O4.ext f1).ext f2, tg4.keep (f1.trans f2).keep0, tc4.keep (f1.trans f2).keep0, ?_⟩
    refine .tup (SqT.of upd_same) (.cons (.str _) (.cons (.tup (SqT.of (f2 _ _ upd_same (fun m => nomatch m))) (.cons (.int _) .nil)) (.cons ?_ (.cons (.int _) (.cons (.int _) .nil)))))
    show TD K _ (V.int (3 * ((n : Nat) : Int) + 5)) _
    rw [e35]
    exact .int _
  rintro σ' H5 ⟨dv, rfl, O5, tg5, tc5, td5⟩
  have hzero : ((addrOf loopG loopF.name : Nat) : Int) = 0 := rfl
  refine ⟨_, rfl, _, rfl, _, rfl, by show 1 ≤ sizeLine; decide, fun q1 hq1 => ⟨by show 1 ≤ sizeLine; decide, fun q2 hq2 => ⟨_, rfl, _, _, rfl, rfl, .inl ⟨by decide, by decide⟩, _, _, rfl, rfl, by show 2 ≤ sizeLine; decide, fun L hL => ?_⟩⟩⟩
  have f1 := Ext.new (W := []) (o := .tup [.int ((n : Nat) : Int)]) hq1
  have f2 := Ext.new (W := []) (o := .tup [.ref q1]) hq2
  have O7 := (O5.ext f1).ext f2
  have g1 := f2 _ _ (show (upd H5 q1 (.tup [.int ((n : Nat) : Int)])) q1 = some (.tup [.int ((n : Nat) : Int)]) from upd_same) (fun m => nomatch m)
  have g2 : (upd (upd H5 q1 (.tup [.int ((n : Nat) : Int)])) q2 (.tup [.ref q1])) q2 = some (.tup [.ref q1]) := upd_same
  have k7 := (f1.trans f2).keep0
  generalize upd (upd H5 q1 (.tup [.int ((n : Nat) : Int)])) q2 (.tup [.ref q1]) = H7 at *
  have O8 := O7.new (o := .lst [V.int (3 * ((n : Nat) : Int) + 5), V.int 1000000]) hL
  have f8 := Ext.new (W := []) (o := .lst [V.int (3 * ((n : Nat) : Int) + 5), V.int 1000000]) hL
  refine ⟨_, rfl, rfl, w0, w1, 2, m2, rfl, O8.w, by omega, by omega, by omega, fun H9 g9 hg9 e9 W9 => ?_⟩
  have O9 := O8.draw e9 W9
  have k9 := f8.keep0.trans (O8.w.kt e9)
  obtain ⟨x, hx⟩ : ∃ x : Nat, ([V.int (3 * ((n : Nat) : Int) + 5), V.int 1000000] : List V)[g9]? = some (.int ((3 * n + 5 + x : Nat) : Int)) ∧ 3 * n + 5 + x ≤ 1000000 := by
    match g9, hg9 with
    | 0, _ => exact ⟨0, by rw [e35]; rfl, by omega⟩
    | 1, _ => exact ⟨1000000 - (3 * n + 5), by rw [show 3 * n + 5 + (1000000 - (3 * n + 5)) = 1000000 by omega]; rfl, by omega⟩
  have args : ∀ {H' : Hp}, KeepT H9 H' → SqT K H' q2 [.ref q1] ∧ TDs K H' [.ref q1] (([[.num ((n : Nat) : Int)]] : List (List Wd)).map eWds) := fun kk =>
    ⟨(k9.trans kk).sq (SqT.of g2), .cons (.tup ((k9.trans kk).sq (SqT.of g1)) (.cons (.int _) .nil)) .nil⟩
  obtain ⟨a1, a2⟩ := args (KeepT.refl H9)
  have k79 := k7.trans k9
  refine ⟨L, _, _, _, rfl, rfl, SqL.of (O9.get 0 rfl), ix_nat hx.1, rfl, loopC, loopG, loopF, [[.num ((n : Nat) : Int)]], [((n : Nat) : Int)], [], cv, gv, q2, [.ref q1], 3 * n + 5 + x, rfl, tc5.keep k79, tg5.keep k79, a1, a2, loop_case n, hx.2, loop_fine n _, fun H10 u e10 tu => ?_⟩
  rw [hzero] at tu
  have tu' : TD K H10 u (.tuple [.str "ended", .tuple [dN n], dN (3 * n + 5), dN 0, dN 0]) := by
    rw [← loop_resE n x]
    exact tu
  refine ⟨_, rfl, rfl, u, dv, _, rfl, tu', td5.keep (k79.trans e10.keep0), rfl, fun H11 e11 => ⟨true, rfl, iteF ?_⟩⟩
  have e911 := e10.trans e11
  have O11 := O9.ext e911
  have k11 := k79.trans e911.keep0
  refine ⟨_, rfl, _, rfl, _, rfl, by show 1 ≤ sizeLine; decide, fun p1 hp1 => ⟨by show 1 ≤ sizeLine; decide, fun p2 hp2 => ⟨_, rfl, _, _, rfl, rfl, .inl ⟨by decide, by decide⟩, _, _, rfl, rfl, ?_⟩⟩⟩
  have j1 := Ext.new (W := []) (o := .tup [.int ((n : Nat) : Int)]) hp1
  have j2 := Ext.new (W := []) (o := .tup [.ref p1]) hp2
  have O13 := (O11.ext j1).ext j2
  have k13 := k11.trans (j1.trans j2).keep0
  have c1 := j2 _ _ (show (upd H11 p1 (.tup [.int ((n : Nat) : Int)])) p1 = some (.tup [.int ((n : Nat) : Int)]) from upd_same) (fun m => nomatch m)
  refine ⟨rfl, loopC, loopG, loopF, [[.num ((n : Nat) : Int)]], [((n : Nat) : Int)], [], cv, gv, p2, [.ref p1], 3 * n + 4, ?_, tc5.keep k13, tg5.keep k13, SqT.of upd_same, .cons (.tup (SqT.of c1) (.cons (.int _) .nil)) .nil, loop_case n, by omega, loop_fine n _, fun H14 v e14 tv => ?_⟩
  · show [cv, gv, _, _, V.int (3 * ((n : Nat) : Int) + 4)] = _
    rw [e34]
    rfl
  rw [hzero] at tv
  have tv' : TD K H14 v (.tuple [.str "spent", .none, dN (3 * n + 4), dN 0, dN 0]) := by
    rw [← loop_resS n]
    exact tv
  have O14 := O13.ext e14
  refine ⟨_, rfl, _, _, rfl, rfl, .inl ⟨by decide, by decide⟩, _, _, rfl, rfl, by show 5 ≤ sizeLine; decide, fun z hz => ?_⟩
  have ez := Ext.new (W := []) (o := .tup [.str "spent", .non, .int (3 * ((n : Nat) : Int) + 4), .int 0, .int 0]) hz
  refine ⟨rfl, v, .ref z, _, rfl, tv'.keep ez.keep0, .tup (SqT.of upd_same) (.cons (.str _) (.cons .non (.cons ?_ (.cons (.int _) (.cons (.int _) .nil))))), rfl, fun H16 e16 => ?_⟩
  · show TD K _ (V.int (3 * ((n : Nat) : Int) + 4)) _
    rw [e34]
    exact .int _
  have O16 := (O14.ext ez).ext e16
  exact k H16 O16.e (O16.w.mono (by omega))
abbrev N_law : List Str := ["_law_script", "_law_well_here", "_law_ahead", "_law_turn_here", "_law_some"]
theorem sc_law : FnScope ["_law_script", "_law_well_here", "_law_ahead", "_law_turn_here", "_law_some"] ["_law_script"] (defScope s_law) := ⟨rfl, rfl, rfl, by decide +kernel, rfl, by decide +kernel, by decide +kernel⟩
theorem c_law (T : Txt w K mg) : Cal P w K mg base 13 "law" (spN 1 (r_law K)) [] := by
  obtain ⟨fd, F⟩ := T.f_law
  refine cal_mk F T.m_law (fun _ _ _ _ _ _ us hl => match us, hl with | [_], _ => rfl) sc_law (fun _ _ _ _ h => h.1) (fun cdv A outer s H vs Q E hr h => ?_)
  have hu := hu_of hr
  have hul := hul_of hr
  obtain ⟨_, a, cs, rfl, hs, hn, k⟩ := h
  refine ⟨_, (pss_cons (ps_set (i := 1) sc_law.nd rfl (by first | exact Or.inl rfl | exact Or.inr rfl) (pe_c (c_law_well T) hr (by decide) (by rfl) (pa_cons (pv 0) pa_nil)))
      (pss_cut (ps_if (PW.pt (pw_and (pt_cmpR op_eq (pe_c (c_law_draw T) hr (by decide) (by rfl) (pa_cons (pv 1) (pa_cons (pe_int) pa_nil))) (pe_int) (nomark _)) (pw_and1 (pt_not (pt_val (pe_c (c_law_long_right T) hr (by decide) (by rfl) (pa_cons (pv 1) pa_nil))))))) (pss_one (ps_ret (pe_bl))) (pss_nil))
      (pss_cons (ps_set (i := 2) sc_law.nd rfl (by first | exact Or.inl rfl | exact Or.inr rfl) (pe_c (c_law_drawn T) hr (by decide) (by rfl) (pa_cons (pv 1) pa_nil)))
      (pss_cons (ps_for PassesOwn.never rfl (pi_range1 (by rfl) T.b_range (pa_cons (pe_int) pa_nil)) (pg_name (i := 3) sc_law.nd rfl (by first | exact Or.inl rfl | exact Or.inr rfl))
        (pss_cons (ps_set (i := 4) sc_law.nd rfl (by first | exact Or.inl rfl | exact Or.inr rfl) (pe_c (c_law_drawn T) hr (by decide) (by rfl) (pa_cons (pv 1) pa_nil)))
      (pss_cons (ps_if (PW.pt (pw_or (pt_not (pt_val (pe_c (c_law_right T) hr (by decide) (by rfl) (pa_cons (pv 1) (pa_cons (pv 4) pa_nil))))) (pw_or1 (pt_not (pt_val (pe_c (c_law_right T) hr (by decide) (by rfl) (pa_cons (pv 1) (pa_cons (pv 2) pa_nil)))))))) (pss_one (ps_ret (pe_bl))) (pss_nil))
      (pss_one (ps_set (i := 2) sc_law.nd rfl (by first | exact Or.inl rfl | exact Or.inr rfl) (pv 4))))))
      (pss_one (ps_ret (pe_bl))))))), ?_⟩
  refine ⟨_, rfl, rfl, a, cs, rfl, hs, hn, fun H1 w0 w1 e1 W1 _ _ => ?_⟩
  refine ⟨fun σ' H' => ∃ m, σ' = [some (.ref a), some (.ref w0), none, none, none] ∧ m ≤ 11 ∧ Well H' w0 w1 m, ?_, ?_⟩
  · refine ⟨_, rfl, rfl, w0, w1, 20, 0, rfl, W1, by omega, by omega, by omega, fun H2 g2 hg2 e2 W2 => ⟨rfl, _, rfl, ?_⟩⟩
    by_cases hg : g2 = 0
    · rw [decide_eq_true (by rw [hg]; rfl)]
      refine iteT ⟨_, rfl, rfl, w0, w1, 1, rfl, W2, by omega, fun H3 e3 W3 => ⟨true, rfl, iteF ?_⟩⟩
      exact ⟨_, rfl, by omega, W3⟩
    · rw [dneq (by omega)]
      exact iteF (iteF ⟨_, rfl, by omega, W2⟩)
  rintro σ' H2 ⟨m, rfl, hm, W2⟩
  refine ⟨_, rfl, rfl, w0, w1, m, rfl, W2, by omega, fun H3 u c g f wss us h e3 W3 A3 C3 => ?_⟩
  refine ⟨_, rfl, by decide, by decide, ?_⟩
  refine for_range (fun i σ H' => ∃ (u : V) (y3 y4 : Option V) (m' : Nat) (c : Core) (g : Img) (f : Fdef) (wss : List (List Wd)) (us h : List Int), σ = [some (.ref a), some (.ref w0), some u, y3, y4] ∧ m' ≤ 20011 + 20020 * i ∧ Well H' w0 w1 m' ∧ CaseAt K H' u c g f wss ∧ Case c g f wss us h)
    ⟨u, _, _, m + 20000, c, g, f, wss, us, h, rfl, by omega, W3, A3, C3⟩ ?_ ?_
  · rintro i σ H4 hi ⟨u, y3, y4, m', c, g, f, wss, us, h, rfl, hm', W4, A4, C4⟩
    have hi3 : i < 3 := hi
    refine ⟨_, rfl, rfl, w0, w1, m', rfl, W4, by omega, fun H5 u2 c2 g2 f2 wss2 us2 h2 e5 W5 A5 C5 => ?_⟩
    have A45 := A4.keep (W4.kt e5)
    refine ⟨_, rfl, _, rfl, rfl, w0, w1, m' + 20000, u2, c2, g2, f2, wss2, us2, h2, rfl, W5, by omega, A5, C5, fun H6 e6 W6 => ⟨true, rfl, iteF ?_⟩⟩
    have k6 := W5.kt e6
    refine ⟨_, rfl, _, rfl, rfl, w0, w1, m' + 20000 + 10, u, c, g, f, wss, us, h, rfl, W6, by omega, A45.keep k6, C4, fun H7 e7 W7 => ⟨true, rfl, iteF ?_⟩⟩
    have k7 := k6.trans (W6.kt e7)
    refine ⟨_, rfl, ?_⟩
    exact ⟨u2, _, _, m' + 20000 + 10 + 10, c2, g2, f2, wss2, us2, h2, rfl, by omega, W7, A5.keep k7, C5⟩
  · rintro σ H4 ⟨u, y3, y4, m', c, g, f, wss, us, h, rfl, hm', W4, A4, C4⟩
    exact k H4
end
end K47

set_option Elab.async false
set_option linter.all false
set_option maxRecDepth 100000
set_option maxHeartbeats 4000000
namespace K47
open PySem PySem.Spec PyProof.Rows L2
open C8 hiding CX0 E0
section
variable {P : Program} {w : World} {K : PySem.W.Frag} {mg : Str → Option Value} {base : Heap}
theorem ok_mk {x qual : Str} {st : Stmt} {f : Addr} {fd : FuncData} {N ps : List Str} {k : Nat} {sp : Sp} (F : FnP K x qual st f fd) (S : FnScope N ps (defScope st)) (len : ∀ vs H Q E, sp vs H Q E → vs.length = ps.length)
    (hbody : ∀ (cdv : Value) (A : Around) (outer : List Env) (s : Shared) (H : Hp) (vs : List V) (Q : VK) (E : XK), Room k (A.deeper (envOfC qual (defScope st) s.heap.objs.size f cdv)) → sp vs H Q E →
      ∃ t, PSs (cxOf CX0 P w K mg base N qual (defScope st) f cdv A outer s H E).nox (defBody st) t ∧ t { nx := fun _ H' => Q .non H', rt := Q } (start N vs) H) : FnOk P w K mg base CX0 (k + 1) f fd ps sp :=
  F.ok S len fun cdv A outer s H vs Q E hr h => let ⟨t, h1, h2⟩ := hbody cdv A outer s H vs Q E hr h; ⟨t, h1.nox, h2⟩
theorem ok_law (T : Txt w K mg) {fd : FuncData} (F : FnP K "law" "law" s_law (He.ga K "law") fd) : FnOk P w K mg base CX0 13 (He.ga K "law") fd ["_law_script"] (spN 1 (r_law K)) := by
  refine ok_mk F sc_law (fun _ _ _ _ h => h.1) (fun cdv A outer s H vs Q E hr h => ?_)
  have hu := hu_of hr
  have hul := hul_of hr
  obtain ⟨_, a, cs, rfl, hs, hn, k⟩ := h
  refine ⟨_, (pss_cons (ps_set (i := 1) sc_law.nd rfl (by first | exact Or.inl rfl | exact Or.inr rfl) (pe_c (c_law_well T) hr (by decide) (by rfl) (pa_cons (pv 0) pa_nil)))
      (pss_cut (ps_if (PW.pt (pw_and (pt_cmpR op_eq (pe_c (c_law_draw T) hr (by decide) (by rfl) (pa_cons (pv 1) (pa_cons (pe_int) pa_nil))) (pe_int) (nomark _)) (pw_and1 (pt_not (pt_val (pe_c (c_law_long_right T) hr (by decide) (by rfl) (pa_cons (pv 1) pa_nil))))))) (pss_one (ps_ret (pe_bl))) (pss_nil))
      (pss_cons (ps_set (i := 2) sc_law.nd rfl (by first | exact Or.inl rfl | exact Or.inr rfl) (pe_c (c_law_drawn T) hr (by decide) (by rfl) (pa_cons (pv 1) pa_nil)))
      (pss_cons (ps_for PassesOwn.never rfl (pi_range1 (by rfl) T.b_range (pa_cons (pe_int) pa_nil)) (pg_name (i := 3) sc_law.nd rfl (by first | exact Or.inl rfl | exact Or.inr rfl))
        (pss_cons (ps_set (i := 4) sc_law.nd rfl (by first | exact Or.inl rfl | exact Or.inr rfl) (pe_c (c_law_drawn T) hr (by decide) (by rfl) (pa_cons (pv 1) pa_nil)))
      (pss_cons (ps_if (PW.pt (pw_or (pt_not (pt_val (pe_c (c_law_right T) hr (by decide) (by rfl) (pa_cons (pv 1) (pa_cons (pv 4) pa_nil))))) (pw_or1 (pt_not (pt_val (pe_c (c_law_right T) hr (by decide) (by rfl) (pa_cons (pv 1) (pa_cons (pv 2) pa_nil)))))))) (pss_one (ps_ret (pe_bl))) (pss_nil))
      (pss_one (ps_set (i := 2) sc_law.nd rfl (by first | exact Or.inl rfl | exact Or.inr rfl) (pv 4))))))
      (pss_one (ps_ret (pe_bl))))))), ?_⟩
  refine ⟨_, rfl, rfl, a, cs, rfl, hs, hn, fun H1 w0 w1 e1 W1 _ _ => ?_⟩
  refine ⟨fun σ' H' => ∃ m, σ' = [some (.ref a), some (.ref w0), none, none, none] ∧ m ≤ 11 ∧ Well H' w0 w1 m, ?_, ?_⟩
  · refine ⟨_, rfl, rfl, w0, w1, 20, 0, rfl, W1, by omega, by omega, by omega, fun H2 g2 hg2 e2 W2 => ⟨rfl, _, rfl, ?_⟩⟩
    by_cases hg : g2 = 0
    · rw [decide_eq_true (by rw [hg]; rfl)]
      refine iteT ⟨_, rfl, rfl, w0, w1, 1, rfl, W2, by omega, fun H3 e3 W3 => ⟨true, rfl, iteF ?_⟩⟩
      exact ⟨_, rfl, by omega, W3⟩
    · rw [dneq (by omega)]
      exact iteF (iteF ⟨_, rfl, by omega, W2⟩)
  rintro σ' H2 ⟨m, rfl, hm, W2⟩
  refine ⟨_, rfl, rfl, w0, w1, m, rfl, W2, by omega, fun H3 u c g f wss us h e3 W3 A3 C3 => ?_⟩
  refine ⟨_, rfl, by decide, by decide, ?_⟩
  refine for_range (fun i σ H' => ∃ (u : V) (y3 y4 : Option V) (m' : Nat) (c : Core) (g : Img) (f : Fdef) (wss : List (List Wd)) (us h : List Int), σ = [some (.ref a), some (.ref w0), some u, y3, y4] ∧ m' ≤ 20011 + 20020 * i ∧ Well H' w0 w1 m' ∧ CaseAt K H' u c g f wss ∧ Case c g f wss us h)
    ⟨u, _, _, m + 20000, c, g, f, wss, us, h, rfl, by omega, W3, A3, C3⟩ ?_ ?_
  · rintro i σ H4 hi ⟨u, y3, y4, m', c, g, f, wss, us, h, rfl, hm', W4, A4, C4⟩
    have hi3 : i < 3 := hi
    refine ⟨_, rfl, rfl, w0, w1, m', rfl, W4, by omega, fun H5 u2 c2 g2 f2 wss2 us2 h2 e5 W5 A5 C5 => ?_⟩
    have A45 := A4.keep (W4.kt e5)
    refine ⟨_, rfl, _, rfl, rfl, w0, w1, m' + 20000, u2, c2, g2, f2, wss2, us2, h2, rfl, W5, by omega, A5, C5, fun H6 e6 W6 => ⟨true, rfl, iteF ?_⟩⟩
    have k6 := W5.kt e6
    refine ⟨_, rfl, _, rfl, rfl, w0, w1, m' + 20000 + 10, u, c, g, f, wss, us, h, rfl, W6, by omega, A45.keep k6, C4, fun H7 e7 W7 => ⟨true, rfl, iteF ?_⟩⟩
    have k7 := k6.trans (W6.kt e7)
    refine ⟨_, rfl, ?_⟩
    exact ⟨u2, _, _, m' + 20000 + 10 + 10, c2, g2, f2, wss2, us2, h2, rfl, by omega, W7, A5.keep k7, C5⟩
  · rintro σ H4 ⟨u, y3, y4, m', c, g, f, wss, us, h, rfl, hm', W4, A4, C4⟩
    exact k H4
end
end K47
open PySem PySem.W PySem.Calls PyProof.Rows
theorem PySem.Challenge.cw_juststeps_k47_whole_runs_of_the_machine_holds : PySem.Challenge.rw_juststeps_k47_whole_runs_of_the_machine.Holds := by
  refine K47.by_top ?_
  refine L2.walk_ofE (l := PySem.Challenge.rw_juststeps_k47_whole_runs_of_the_machine) (n := 63) (k := 13) (x := "_law_script") (CX := L2.CX0) rfl (by decide) (by kernel_rfl) ⟨rfl, by decide, by decide⟩ ?F (fun _ _ _ _ z => z)
  intro w mg fa h Y G hmg0
  obtain ⟨K, KX, c⟩ := Y
  have hmg : mg ("law" : PySem.Str) = some (.ref fa) := by
    have e : (HandSHeadRun.topDef (OpenLaw.row PySem.Challenge.rw_juststeps_k47_whole_runs_of_the_machine).prog 103).name = ("law" : PySem.Str) := by kernel_rfl
    rw [← e]
    exact hmg0
  have T : K47.Txt w K mg := ⟨h, KX, G, c.t, c.more⟩
  obtain ⟨fd, F⟩ := T.f_law
  have e := hmg.symm.trans T.m_law
  cases e
  have b := L2.FunD.bindsA (ps := ["_law_script"]) F fun _ _ _ _ _ _ us hl => match us, hl with | [_], _ => rfl
  exact ⟨K, fd, K47.spN 1 (K47.r_law K), KX, fun s v => b s [v] rfl, fun H a ns hl _ hS => ⟨rfl, a, ns, rfl, .inl hS, Nat.le_trans hl (by decide), fun _ => rfl⟩, fun base _ _ => K47.ok_law T F⟩

