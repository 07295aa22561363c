import PyProof.Rows.All
import Wide.All
import OpenK.AllK
import Wide.FinOn
import HandS.ForMost
import HandS.Defaults
import HandS.MakeKwOnly
import HandS.IsInst
import HandS.HeadHook3
import PySem.Challenge.RW_haulring_k32_whole_clear_lists
import KE.KStateDown
import Lean
import HandS.Base
import HandS.Call
import HandS.Ends
import HandS.More
import HandS.Words
import HandS.WordsExc
import HandS.Head0
import HandS.Head1
import HandS.Head2
import HandS.HeadEnd
import HandS.HeadHook1
import HandS.HeadHook2
import KE.KUnpackStar
import KE.KDictOf
import KE.KDictItemsList
import KE.KDictZip
import KE.SortData
import HandS.Conv
import HandS.Zip
import HandS.ListItems
import HandS.Wide
import HandS.Zip0
import KE.GoesEnumKw
import KE.KDictPairs
import KE.GoesEnum
import HandS.DictTup
import HandS.Walk
import HandS.Codes
import HandS.Evl
import HandS.TupAny
section
set_option Elab.async false
set_option linter.all false
set_option maxRecDepth 100000
/-! The text by places; what the top leaves (Txt), as facts by names. Printed by gen_text.py. -/
namespace Hl
open PySem PySem.Spec PyProof.Rows L2
def top (i : Nat) : Stmt := PySem.Challenge.pw_haulring_k32_whole_clear_lists.main.body.getD i (.Pass ⟨0, 0, 0, 0⟩)
abbrev s_is_whole : Stmt := top 18
abbrev s_is_byte : Stmt := top 19
abbrev s_is_flag : Stmt := top 20
abbrev s_is_memory : Stmt := top 21
abbrev s_area_wrong : Stmt := top 25
abbrev s_own_cells : Stmt := top 26
abbrev s_own_size : Stmt := top 27
abbrev s_is_thing : Stmt := top 44
abbrev s_form_of : Stmt := top 45
abbrev s_things_wrong : Stmt := top 46
abbrev s_step_wrong : Stmt := top 47
abbrev s_list_wrong : Stmt := top 48
abbrev s_need_list : Stmt := top 49
abbrev s_all_touches : Stmt := top 50
abbrev s_need_store : Stmt := top 61
abbrev s_end_of : Stmt := top 63
abbrev s_law_begun : Stmt := top 65
abbrev s_law_draw : Stmt := top 66
abbrev s_law_pick : Stmt := top 67
abbrev s_law_area : Stmt := top 68
abbrev s_law_step : Stmt := top 69
abbrev s_law_bytes : Stmt := top 70
abbrev s_law_cells : Stmt := top 71
abbrev s_law_touched : Stmt := top 72
abbrev s_law_plain : Stmt := top 73
abbrev s_law_do_clash : Stmt := top 74
abbrev s_law_barred : Stmt := top 75
abbrev s_law_led : Stmt := top 76
abbrev s_law_right : Stmt := top 77
abbrev s_law : Stmt := top 78
abbrev s_Store_init : Stmt := inClass (top 55) 0
abbrev s_Store_need_cell : Stmt := inClass (top 55) 1
abbrev s_Store_read : Stmt := inClass (top 55) 2
abbrev s_Store_write : Stmt := inClass (top 55) 3
abbrev s_Store_need_flag : Stmt := inClass (top 55) 4
abbrev s_Store_raise_flag : Stmt := inClass (top 55) 6
abbrev s_Store_memory : Stmt := inClass (top 55) 7
abbrev s_Store_len : Stmt := inClass (top 55) 12
abbrev s_Helper_init : Stmt := inClass (top 62) 0
abbrev s_Helper_post : Stmt := inClass (top 62) 1
abbrev s_Helper_may_begin : Stmt := inClass (top 62) 2
abbrev s_Helper_begin : Stmt := inClass (top 62) 3
abbrev s_Helper_end_step : Stmt := inClass (top 62) 4
abbrev s_Helper_flying : Stmt := inClass (top 62) 5
abbrev s_Helper_may_touch : Stmt := inClass (top 62) 6
abbrev s_Helper_part_done : Stmt := inClass (top 62) 7
abbrev s_Helper_move : Stmt := inClass (top 62) 8
abbrev s_Helper_halted : Stmt := inClass (top 62) 9
abbrev s_Helper_is_idle : Stmt := inClass (top 62) 10
abbrev s_Helper_counts : Stmt := inClass (top 62) 14
abbrev FnP (K : PySem.W.Frag) (x q : Str) (st : Stmt) (kws : List (Str × V)) (f : Addr) (fd : FuncData) : Prop := FunD K x q (defArgs st) (defBody st) (defScope st) [] kws f fd
structure Txt (K : PySem.W.Frag) (mg : Str → Option Value) : Prop where
  f_is_whole : ∃ fd, FnP K "is_whole" "is_whole" s_is_whole [("least", V.int 0), ("most", V.int 1023)] (He.fAd K ("is_whole", none)) fd
  f_is_byte : ∃ fd, FnP K "is_byte" "is_byte" s_is_byte [] (He.fAd K ("is_byte", none)) fd
  f_is_flag : ∃ fd, FnP K "is_flag" "is_flag" s_is_flag [] (He.fAd K ("is_flag", none)) fd
  f_is_memory : ∃ fd, FnP K "is_memory" "is_memory" s_is_memory [] (He.fAd K ("is_memory", none)) fd
  f_area_wrong : ∃ fd, FnP K "area_wrong" "area_wrong" s_area_wrong [] (He.fAd K ("area_wrong", none)) fd
  f_own_cells : ∃ fd, FnP K "own_cells" "own_cells" s_own_cells [] (He.fAd K ("own_cells", none)) fd
  f_own_size : ∃ fd, FnP K "own_size" "own_size" s_own_size [] (He.fAd K ("own_size", none)) fd
  f_is_thing : ∃ fd, FnP K "is_thing" "is_thing" s_is_thing [] (He.fAd K ("is_thing", none)) fd
  f_form_of : ∃ fd, FnP K "form_of" "form_of" s_form_of [] (He.fAd K ("form_of", none)) fd
  f_things_wrong : ∃ fd, FnP K "things_wrong" "things_wrong" s_things_wrong [] (He.fAd K ("things_wrong", none)) fd
  f_step_wrong : ∃ fd, FnP K "step_wrong" "step_wrong" s_step_wrong [] (He.fAd K ("step_wrong", none)) fd
  f_list_wrong : ∃ fd, FnP K "list_wrong" "list_wrong" s_list_wrong [] (He.fAd K ("list_wrong", none)) fd
  f_need_list : ∃ fd, FnP K "need_list" "need_list" s_need_list [] (He.fAd K ("need_list", none)) fd
  f_all_touches : ∃ fd, FnP K "all_touches" "all_touches" s_all_touches [] (He.fAd K ("all_touches", none)) fd
  f_need_store : ∃ fd, FnP K "need_store" "need_store" s_need_store [] (He.fAd K ("need_store", none)) fd
  f_end_of : ∃ fd, FnP K "end_of" "end_of" s_end_of [] (He.fAd K ("end_of", none)) fd
  f_law_begun : ∃ fd, FnP K "_law_begun" "_law_begun" s_law_begun [] (He.fAd K ("_law_begun", none)) fd
  f_law_draw : ∃ fd, FnP K "_law_draw" "_law_draw" s_law_draw [] (He.fAd K ("_law_draw", none)) fd
  f_law_pick : ∃ fd, FnP K "_law_pick" "_law_pick" s_law_pick [] (He.fAd K ("_law_pick", none)) fd
  f_law_area : ∃ fd, FnP K "_law_area" "_law_area" s_law_area [] (He.fAd K ("_law_area", none)) fd
  f_law_step : ∃ fd, FnP K "_law_step" "_law_step" s_law_step [] (He.fAd K ("_law_step", none)) fd
  f_law_bytes : ∃ fd, FnP K "_law_bytes" "_law_bytes" s_law_bytes [] (He.fAd K ("_law_bytes", none)) fd
  f_law_cells : ∃ fd, FnP K "_law_cells" "_law_cells" s_law_cells [] (He.fAd K ("_law_cells", none)) fd
  f_law_touched : ∃ fd, FnP K "_law_touched" "_law_touched" s_law_touched [] (He.fAd K ("_law_touched", none)) fd
  f_law_plain : ∃ fd, FnP K "_law_plain" "_law_plain" s_law_plain [] (He.fAd K ("_law_plain", none)) fd
  f_law_do_clash : ∃ fd, FnP K "_law_do_clash" "_law_do_clash" s_law_do_clash [] (He.fAd K ("_law_do_clash", none)) fd
  f_law_barred : ∃ fd, FnP K "_law_barred" "_law_barred" s_law_barred [] (He.fAd K ("_law_barred", none)) fd
  f_law_led : ∃ fd, FnP K "_law_led" "_law_led" s_law_led [] (He.fAd K ("_law_led", none)) fd
  f_law_right : ∃ fd, FnP K "_law_right" "_law_right" s_law_right [] (He.fAd K ("_law_right", none)) fd
  f_law : ∃ fd, FnP K "law" "law" s_law [] (He.fAd K ("law", none)) fd
  f_Store_init : ∃ fd, FnP K "__init__" "Store.__init__" s_Store_init [] (He.fAd K ("Store", some "__init__")) fd
  f_Store_need_cell : ∃ fd, FnP K "need_cell" "Store.need_cell" s_Store_need_cell [] (He.fAd K ("Store", some "need_cell")) fd
  f_Store_read : ∃ fd, FnP K "read" "Store.read" s_Store_read [] (He.fAd K ("Store", some "read")) fd
  f_Store_write : ∃ fd, FnP K "write" "Store.write" s_Store_write [] (He.fAd K ("Store", some "write")) fd
  f_Store_need_flag : ∃ fd, FnP K "need_flag" "Store.need_flag" s_Store_need_flag [] (He.fAd K ("Store", some "need_flag")) fd
  f_Store_raise_flag : ∃ fd, FnP K "raise_flag" "Store.raise_flag" s_Store_raise_flag [] (He.fAd K ("Store", some "raise_flag")) fd
  f_Store_memory : ∃ fd, FnP K "memory" "Store.memory" s_Store_memory [] (He.fAd K ("Store", some "memory")) fd
  f_Store_len : ∃ fd, FnP K "__len__" "Store.__len__" s_Store_len [] (He.fAd K ("Store", some "__len__")) fd
  f_Helper_init : ∃ fd, FnP K "__init__" "Helper.__init__" s_Helper_init [("width", V.int 2), ("burst", V.int 1), ("room", V.non)] (He.fAd K ("Helper", some "__init__")) fd
  f_Helper_post : ∃ fd, FnP K "post" "Helper.post" s_Helper_post [] (He.fAd K ("Helper", some "post")) fd
  f_Helper_may_begin : ∃ fd, FnP K "may_begin" "Helper.may_begin" s_Helper_may_begin [] (He.fAd K ("Helper", some "may_begin")) fd
  f_Helper_begin : ∃ fd, FnP K "begin" "Helper.begin" s_Helper_begin [] (He.fAd K ("Helper", some "begin")) fd
  f_Helper_end_step : ∃ fd, FnP K "end_step" "Helper.end_step" s_Helper_end_step [] (He.fAd K ("Helper", some "end_step")) fd
  f_Helper_flying : ∃ fd, FnP K "flying" "Helper.flying" s_Helper_flying [] (He.fAd K ("Helper", some "flying")) fd
  f_Helper_may_touch : ∃ fd, FnP K "may_touch" "Helper.may_touch" s_Helper_may_touch [] (He.fAd K ("Helper", some "may_touch")) fd
  f_Helper_part_done : ∃ fd, FnP K "part_done" "Helper.part_done" s_Helper_part_done [] (He.fAd K ("Helper", some "part_done")) fd
  f_Helper_move : ∃ fd, FnP K "move" "Helper.move" s_Helper_move [] (He.fAd K ("Helper", some "move")) fd
  f_Helper_halted : ∃ fd, FnP K "halted" "Helper.halted" s_Helper_halted [] (He.fAd K ("Helper", some "halted")) fd
  f_Helper_is_idle : ∃ fd, FnP K "is_idle" "Helper.is_idle" s_Helper_is_idle [] (He.fAd K ("Helper", some "is_idle")) fd
  f_Helper_counts : ∃ fd, FnP K "counts" "Helper.counts" s_Helper_counts [] (He.fAd K ("Helper", some "counts")) fd
  g_is_whole : mg "is_whole" = some (.ref (He.ga K "is_whole"))
  g_is_byte : mg "is_byte" = some (.ref (He.ga K "is_byte"))
  g_is_flag : mg "is_flag" = some (.ref (He.ga K "is_flag"))
  g_is_memory : mg "is_memory" = some (.ref (He.ga K "is_memory"))
  g_area_wrong : mg "area_wrong" = some (.ref (He.ga K "area_wrong"))
  g_own_cells : mg "own_cells" = some (.ref (He.ga K "own_cells"))
  g_own_size : mg "own_size" = some (.ref (He.ga K "own_size"))
  g_is_thing : mg "is_thing" = some (.ref (He.ga K "is_thing"))
  g_form_of : mg "form_of" = some (.ref (He.ga K "form_of"))
  g_things_wrong : mg "things_wrong" = some (.ref (He.ga K "things_wrong"))
  g_step_wrong : mg "step_wrong" = some (.ref (He.ga K "step_wrong"))
  g_list_wrong : mg "list_wrong" = some (.ref (He.ga K "list_wrong"))
  g_need_list : mg "need_list" = some (.ref (He.ga K "need_list"))
  g_all_touches : mg "all_touches" = some (.ref (He.ga K "all_touches"))
  g_need_store : mg "need_store" = some (.ref (He.ga K "need_store"))
  g_end_of : mg "end_of" = some (.ref (He.ga K "end_of"))
  g_law_begun : mg "_law_begun" = some (.ref (He.ga K "_law_begun"))
  g_law_draw : mg "_law_draw" = some (.ref (He.ga K "_law_draw"))
  g_law_pick : mg "_law_pick" = some (.ref (He.ga K "_law_pick"))
  g_law_area : mg "_law_area" = some (.ref (He.ga K "_law_area"))
  g_law_step : mg "_law_step" = some (.ref (He.ga K "_law_step"))
  g_law_bytes : mg "_law_bytes" = some (.ref (He.ga K "_law_bytes"))
  g_law_cells : mg "_law_cells" = some (.ref (He.ga K "_law_cells"))
  g_law_touched : mg "_law_touched" = some (.ref (He.ga K "_law_touched"))
  g_law_plain : mg "_law_plain" = some (.ref (He.ga K "_law_plain"))
  g_law_do_clash : mg "_law_do_clash" = some (.ref (He.ga K "_law_do_clash"))
  g_law_barred : mg "_law_barred" = some (.ref (He.ga K "_law_barred"))
  g_law_led : mg "_law_led" = some (.ref (He.ga K "_law_led"))
  g_law_right : mg "_law_right" = some (.ref (He.ga K "_law_right"))
  g_law : mg "law" = some (.ref (He.ga K "law"))
  g_BARS : mg "BARS" = some (.ref (He.ga K "BARS"))
  g_AT_ONCE : mg "AT_ONCE" = some (.ref (He.ga K "AT_ONCE"))
  g_STEP_FORMS : mg "STEP_FORMS" = some (.ref (He.ga K "STEP_FORMS"))
  g_Store : mg "Store" = some (.ref (He.ga K "Store"))
  g_Helper : mg "Helper" = some (.ref (He.ga K "Helper"))
  r_isinstance : mg "isinstance" = none
  r_int : mg "int" = none
  r_bool : mg "bool" = none
  r_tuple : mg "tuple" = none
  r_len : mg "len" = none
  r_all : mg "all" = none
  r_str : mg "str" = none
  r_list : mg "list" = none
  r_enumerate : mg "enumerate" = none
  r_dict : mg "dict" = none
  r_range : mg "range" = none
  r_zip : mg "zip" = none
  r_sorted : mg "sorted" = none
  r_sum : mg "sum" = none
  r_max : mg "max" = none
  r_min : mg "min" = none
  i_MOST_CELLS : ∃ t, mg "MOST_CELLS" = some (.int 1024 t)
  i_FLAGS : ∃ t, mg "FLAGS" = some (.int 8 t)
  i_GREATEST_CELL : ∃ t, mg "GREATEST_CELL" = some (.int 1023 t)
  i_GREATEST_BYTE : ∃ t, mg "GREATEST_BYTE" = some (.int 255 t)
  i_MOST_AREA : ∃ t, mg "MOST_AREA" = some (.int 256 t)
  i_MOST_STEPS : ∃ t, mg "MOST_STEPS" = some (.int 64 t)
  i_MOST_WIDTH : ∃ t, mg "MOST_WIDTH" = some (.int 4 t)
  i_MOST_BURST : ∃ t, mg "MOST_BURST" = some (.int 16 t)
  s_COPY : ∃ t, mg "COPY" = some (.str "copy" t)
  s_FILL : ∃ t, mg "FILL" = some (.str "fill" t)
  s_ADD : ∃ t, mg "ADD" = some (.str "add" t)
  s_READ : ∃ t, mg "READ" = some (.str "r" t)
  s_WRITE : ∃ t, mg "WRITE" = some (.str "w" t)
  c_Store : Cls K (He.ga K "Store")
  k_Store : Mk K (He.ga K "Store") (He.fAd K ("Store", some "__init__"))
  m_Store_init : Meth K (He.ga K "Store") "__init__" (He.fAd K ("Store", some "__init__"))
  m_Store_need_cell : Meth K (He.ga K "Store") "need_cell" (He.fAd K ("Store", some "need_cell"))
  m_Store_read : Meth K (He.ga K "Store") "read" (He.fAd K ("Store", some "read"))
  m_Store_write : Meth K (He.ga K "Store") "write" (He.fAd K ("Store", some "write"))
  m_Store_need_flag : Meth K (He.ga K "Store") "need_flag" (He.fAd K ("Store", some "need_flag"))
  m_Store_raise_flag : Meth K (He.ga K "Store") "raise_flag" (He.fAd K ("Store", some "raise_flag"))
  m_Store_memory : Meth K (He.ga K "Store") "memory" (He.fAd K ("Store", some "memory"))
  m_Store_len : Meth K (He.ga K "Store") "__len__" (He.fAd K ("Store", some "__len__"))
  n_store_cells : NoAttr K (He.ga K "Store") "store_cells"
  n_store_flags : NoAttr K (He.ga K "Store") "store_flags"
  n_store_writes : NoAttr K (He.ga K "Store") "store_writes"
  c_Helper : Cls K (He.ga K "Helper")
  k_Helper : Mk K (He.ga K "Helper") (He.fAd K ("Helper", some "__init__"))
  m_Helper_init : Meth K (He.ga K "Helper") "__init__" (He.fAd K ("Helper", some "__init__"))
  m_Helper_post : Meth K (He.ga K "Helper") "post" (He.fAd K ("Helper", some "post"))
  m_Helper_may_begin : Meth K (He.ga K "Helper") "may_begin" (He.fAd K ("Helper", some "may_begin"))
  m_Helper_begin : Meth K (He.ga K "Helper") "begin" (He.fAd K ("Helper", some "begin"))
  m_Helper_end_step : Meth K (He.ga K "Helper") "end_step" (He.fAd K ("Helper", some "end_step"))
  m_Helper_flying : Meth K (He.ga K "Helper") "flying" (He.fAd K ("Helper", some "flying"))
  m_Helper_may_touch : Meth K (He.ga K "Helper") "may_touch" (He.fAd K ("Helper", some "may_touch"))
  m_Helper_part_done : Meth K (He.ga K "Helper") "part_done" (He.fAd K ("Helper", some "part_done"))
  m_Helper_move : Meth K (He.ga K "Helper") "move" (He.fAd K ("Helper", some "move"))
  m_Helper_halted : Meth K (He.ga K "Helper") "halted" (He.fAd K ("Helper", some "halted"))
  m_Helper_is_idle : Meth K (He.ga K "Helper") "is_idle" (He.fAd K ("Helper", some "is_idle"))
  m_Helper_counts : Meth K (He.ga K "Helper") "counts" (He.fAd K ("Helper", some "counts"))
  n_held_store : NoAttr K (He.ga K "Helper") "held_store"
  n_held_width : NoAttr K (He.ga K "Helper") "held_width"
  n_held_burst : NoAttr K (He.ga K "Helper") "held_burst"
  n_held_room : NoAttr K (He.ga K "Helper") "held_room"
  n_held_ring : NoAttr K (He.ga K "Helper") "held_ring"
  n_held_next : NoAttr K (He.ga K "Helper") "held_next"
  n_held_flying : NoAttr K (He.ga K "Helper") "held_flying"
  n_held_done : NoAttr K (He.ga K "Helper") "held_done"
  n_held_out : NoAttr K (He.ga K "Helper") "held_out"
  n_held_counts : NoAttr K (He.ga K "Helper") "held_counts"
  bars : ∀ H : Hp, SqT K H (He.ga K "BARS") [.str "fence", .str "note"]
  once : ∀ H : Hp, SqT K H (He.ga K "AT_ONCE") [.str "fence", .str "note", .str "wait"]
  is1 : PySem.W.findIn K (.ref (He.ga K "Store")) "__class__" = some (some (.builtin "object.__class__"))
  is2 : PySem.W.specialIn K (.builtin "object.__class__") "__get__" = some (some (.builtin "getset_descriptor.__get__"))
  is3 : PySem.W.takesIn K (.builtin "object.__class__") = some true
  is4 : PySem.W.mroIn K (He.ga K "Store") (.type "object") = some true
  is5 : PySem.W.kitOne K (.ref (He.ga K "Store")) (.ref (He.ga K "Store")) = some true
  hs : He.ga K "Store" ≠ He.ga K "Helper"
/-- the table of the steps' forms -/
def forms : List (Str × Str) := [("copy", "AAS"), ("fill", "ABS"), ("add", "AC"), ("note", "F"), ("wait", "FN"), ("fence", "")]
structure TxtW (K : PySem.W.Frag) (w : World) : Prop where
  es : ∃ (es : Array DictEntry) (n : Nat), KDict K w (He.ga K "STEP_FORMS") es n ∧ es.toList.map He.keyOf = He.keysIn w.params (forms.map (·.1)) ∧ Vals (forms.map fun p => V.str p.2) (es.toList.map (·.val))
end Hl
end

section
set_option Elab.async false
set_option linter.all false
set_option maxRecDepth 100000
set_option maxHeartbeats 0
namespace Hl
open PySem PySem.Spec PyProof.Rows L2
def d_is_whole : He.DefD := ⟨("is_whole", none), "is_whole", "is_whole", defArgs s_is_whole, defBody s_is_whole, defScope s_is_whole, [], [("least", .int 0), ("most", .int 1023)]⟩
def d_is_byte : He.DefD := ⟨("is_byte", none), "is_byte", "is_byte", defArgs s_is_byte, defBody s_is_byte, defScope s_is_byte, [], []⟩
def d_is_flag : He.DefD := ⟨("is_flag", none), "is_flag", "is_flag", defArgs s_is_flag, defBody s_is_flag, defScope s_is_flag, [], []⟩
def d_is_memory : He.DefD := ⟨("is_memory", none), "is_memory", "is_memory", defArgs s_is_memory, defBody s_is_memory, defScope s_is_memory, [], []⟩
def d_area_wrong : He.DefD := ⟨("area_wrong", none), "area_wrong", "area_wrong", defArgs s_area_wrong, defBody s_area_wrong, defScope s_area_wrong, [], []⟩
def d_own_cells : He.DefD := ⟨("own_cells", none), "own_cells", "own_cells", defArgs s_own_cells, defBody s_own_cells, defScope s_own_cells, [], []⟩
def d_own_size : He.DefD := ⟨("own_size", none), "own_size", "own_size", defArgs s_own_size, defBody s_own_size, defScope s_own_size, [], []⟩
def d_is_thing : He.DefD := ⟨("is_thing", none), "is_thing", "is_thing", defArgs s_is_thing, defBody s_is_thing, defScope s_is_thing, [], []⟩
def d_form_of : He.DefD := ⟨("form_of", none), "form_of", "form_of", defArgs s_form_of, defBody s_form_of, defScope s_form_of, [], []⟩
def d_things_wrong : He.DefD := ⟨("things_wrong", none), "things_wrong", "things_wrong", defArgs s_things_wrong, defBody s_things_wrong, defScope s_things_wrong, [], []⟩
def d_step_wrong : He.DefD := ⟨("step_wrong", none), "step_wrong", "step_wrong", defArgs s_step_wrong, defBody s_step_wrong, defScope s_step_wrong, [], []⟩
def d_list_wrong : He.DefD := ⟨("list_wrong", none), "list_wrong", "list_wrong", defArgs s_list_wrong, defBody s_list_wrong, defScope s_list_wrong, [], []⟩
def d_need_list : He.DefD := ⟨("need_list", none), "need_list", "need_list", defArgs s_need_list, defBody s_need_list, defScope s_need_list, [], []⟩
def d_all_touches : He.DefD := ⟨("all_touches", none), "all_touches", "all_touches", defArgs s_all_touches, defBody s_all_touches, defScope s_all_touches, [], []⟩
def d_need_store : He.DefD := ⟨("need_store", none), "need_store", "need_store", defArgs s_need_store, defBody s_need_store, defScope s_need_store, [], []⟩
def d_end_of : He.DefD := ⟨("end_of", none), "end_of", "end_of", defArgs s_end_of, defBody s_end_of, defScope s_end_of, [], []⟩
def d_law_begun : He.DefD := ⟨("_law_begun", none), "_law_begun", "_law_begun", defArgs s_law_begun, defBody s_law_begun, defScope s_law_begun, [], []⟩
def d_law_draw : He.DefD := ⟨("_law_draw", none), "_law_draw", "_law_draw", defArgs s_law_draw, defBody s_law_draw, defScope s_law_draw, [], []⟩
def d_law_pick : He.DefD := ⟨("_law_pick", none), "_law_pick", "_law_pick", defArgs s_law_pick, defBody s_law_pick, defScope s_law_pick, [], []⟩
def d_law_area : He.DefD := ⟨("_law_area", none), "_law_area", "_law_area", defArgs s_law_area, defBody s_law_area, defScope s_law_area, [], []⟩
def d_law_step : He.DefD := ⟨("_law_step", none), "_law_step", "_law_step", defArgs s_law_step, defBody s_law_step, defScope s_law_step, [], []⟩
def d_law_bytes : He.DefD := ⟨("_law_bytes", none), "_law_bytes", "_law_bytes", defArgs s_law_bytes, defBody s_law_bytes, defScope s_law_bytes, [], []⟩
def d_law_cells : He.DefD := ⟨("_law_cells", none), "_law_cells", "_law_cells", defArgs s_law_cells, defBody s_law_cells, defScope s_law_cells, [], []⟩
def d_law_touched : He.DefD := ⟨("_law_touched", none), "_law_touched", "_law_touched", defArgs s_law_touched, defBody s_law_touched, defScope s_law_touched, [], []⟩
def d_law_plain : He.DefD := ⟨("_law_plain", none), "_law_plain", "_law_plain", defArgs s_law_plain, defBody s_law_plain, defScope s_law_plain, [], []⟩
def d_law_do_clash : He.DefD := ⟨("_law_do_clash", none), "_law_do_clash", "_law_do_clash", defArgs s_law_do_clash, defBody s_law_do_clash, defScope s_law_do_clash, [], []⟩
def d_law_barred : He.DefD := ⟨("_law_barred", none), "_law_barred", "_law_barred", defArgs s_law_barred, defBody s_law_barred, defScope s_law_barred, [], []⟩
def d_law_led : He.DefD := ⟨("_law_led", none), "_law_led", "_law_led", defArgs s_law_led, defBody s_law_led, defScope s_law_led, [], []⟩
def d_law_right : He.DefD := ⟨("_law_right", none), "_law_right", "_law_right", defArgs s_law_right, defBody s_law_right, defScope s_law_right, [], []⟩
def d_law : He.DefD := ⟨("law", none), "law", "law", defArgs s_law, defBody s_law, defScope s_law, [], []⟩
def d_Store_init : He.DefD := ⟨("Store", some "__init__"), "__init__", "Store.__init__", defArgs s_Store_init, defBody s_Store_init, defScope s_Store_init, [], []⟩
def d_Store_need_cell : He.DefD := ⟨("Store", some "need_cell"), "need_cell", "Store.need_cell", defArgs s_Store_need_cell, defBody s_Store_need_cell, defScope s_Store_need_cell, [], []⟩
def d_Store_read : He.DefD := ⟨("Store", some "read"), "read", "Store.read", defArgs s_Store_read, defBody s_Store_read, defScope s_Store_read, [], []⟩
def d_Store_write : He.DefD := ⟨("Store", some "write"), "write", "Store.write", defArgs s_Store_write, defBody s_Store_write, defScope s_Store_write, [], []⟩
def d_Store_need_flag : He.DefD := ⟨("Store", some "need_flag"), "need_flag", "Store.need_flag", defArgs s_Store_need_flag, defBody s_Store_need_flag, defScope s_Store_need_flag, [], []⟩
def d_Store_raise_flag : He.DefD := ⟨("Store", some "raise_flag"), "raise_flag", "Store.raise_flag", defArgs s_Store_raise_flag, defBody s_Store_raise_flag, defScope s_Store_raise_flag, [], []⟩
def d_Store_memory : He.DefD := ⟨("Store", some "memory"), "memory", "Store.memory", defArgs s_Store_memory, defBody s_Store_memory, defScope s_Store_memory, [], []⟩
def d_Store_len : He.DefD := ⟨("Store", some "__len__"), "__len__", "Store.__len__", defArgs s_Store_len, defBody s_Store_len, defScope s_Store_len, [], []⟩
def d_Helper_init : He.DefD := ⟨("Helper", some "__init__"), "__init__", "Helper.__init__", defArgs s_Helper_init, defBody s_Helper_init, defScope s_Helper_init, [], [("width", .int 2), ("burst", .int 1), ("room", .non)]⟩
def d_Helper_post : He.DefD := ⟨("Helper", some "post"), "post", "Helper.post", defArgs s_Helper_post, defBody s_Helper_post, defScope s_Helper_post, [], []⟩
def d_Helper_may_begin : He.DefD := ⟨("Helper", some "may_begin"), "may_begin", "Helper.may_begin", defArgs s_Helper_may_begin, defBody s_Helper_may_begin, defScope s_Helper_may_begin, [], []⟩
def d_Helper_begin : He.DefD := ⟨("Helper", some "begin"), "begin", "Helper.begin", defArgs s_Helper_begin, defBody s_Helper_begin, defScope s_Helper_begin, [], []⟩
def d_Helper_end_step : He.DefD := ⟨("Helper", some "end_step"), "end_step", "Helper.end_step", defArgs s_Helper_end_step, defBody s_Helper_end_step, defScope s_Helper_end_step, [], []⟩
def d_Helper_flying : He.DefD := ⟨("Helper", some "flying"), "flying", "Helper.flying", defArgs s_Helper_flying, defBody s_Helper_flying, defScope s_Helper_flying, [], []⟩
def d_Helper_may_touch : He.DefD := ⟨("Helper", some "may_touch"), "may_touch", "Helper.may_touch", defArgs s_Helper_may_touch, defBody s_Helper_may_touch, defScope s_Helper_may_touch, [], []⟩
def d_Helper_part_done : He.DefD := ⟨("Helper", some "part_done"), "part_done", "Helper.part_done", defArgs s_Helper_part_done, defBody s_Helper_part_done, defScope s_Helper_part_done, [], []⟩
def d_Helper_move : He.DefD := ⟨("Helper", some "move"), "move", "Helper.move", defArgs s_Helper_move, defBody s_Helper_move, defScope s_Helper_move, [], []⟩
def d_Helper_halted : He.DefD := ⟨("Helper", some "halted"), "halted", "Helper.halted", defArgs s_Helper_halted, defBody s_Helper_halted, defScope s_Helper_halted, [], []⟩
def d_Helper_is_idle : He.DefD := ⟨("Helper", some "is_idle"), "is_idle", "Helper.is_idle", defArgs s_Helper_is_idle, defBody s_Helper_is_idle, defScope s_Helper_is_idle, [], []⟩
def d_Helper_counts : He.DefD := ⟨("Helper", some "counts"), "counts", "Helper.counts", defArgs s_Helper_counts, defBody s_Helper_counts, defScope s_Helper_counts, [], []⟩
def fn0 : List He.DefD := [d_is_whole, d_is_byte, d_is_flag, d_is_memory, d_area_wrong, d_own_cells, d_own_size, d_is_thing, d_form_of, d_things_wrong, d_step_wrong, d_list_wrong, d_need_list, d_all_touches, d_need_store, d_end_of, d_law_begun, d_law_draw]
def fn1 : List He.DefD := [d_law_pick, d_law_area, d_law_step, d_law_bytes, d_law_cells, d_law_touched, d_law_plain, d_law_do_clash, d_law_barred, d_law_led, d_law_right, d_law, d_Store_init, d_Store_need_cell, d_Store_read, d_Store_write, d_Store_need_flag, d_Store_raise_flag]
def fn2 : List He.DefD := [d_Store_memory, d_Store_len, d_Helper_init, d_Helper_post, d_Helper_may_begin, d_Helper_begin, d_Helper_end_step, d_Helper_flying, d_Helper_may_touch, d_Helper_part_done, d_Helper_move, d_Helper_halted, d_Helper_is_idle, d_Helper_counts]
def fn : List He.DefD := fn0 ++ fn1 ++ fn2
def fa0 : List He.Fa := [.glo "is_whole", .glo "is_byte", .glo "is_flag", .glo "is_memory", .glo "area_wrong", .glo "own_cells", .glo "own_size", .glo "is_thing", .glo "form_of", .glo "things_wrong", .glo "step_wrong", .glo "list_wrong", .glo "need_list", .glo "all_touches", .glo "need_store", .glo "end_of", .glo "_law_begun", .glo "_law_draw"]
def fa1 : List He.Fa := [.glo "_law_pick", .glo "_law_area", .glo "_law_step", .glo "_law_bytes", .glo "_law_cells", .glo "_law_touched", .glo "_law_plain", .glo "_law_do_clash", .glo "_law_barred", .glo "_law_led", .glo "_law_right", .glo "law", .glo "BARS", .glo "AT_ONCE", .glo "STEP_FORMS", .glo "Store", .glo "Helper", .free "isinstance"]
def fa2 : List He.Fa := [.free "int", .free "bool", .free "tuple", .free "len", .free "all", .free "str", .free "list", .free "enumerate", .free "dict", .free "range", .free "zip", .free "sorted", .free "sum", .free "max", .free "min", .int "MOST_CELLS" 1024, .int "FLAGS" 8, .int "GREATEST_CELL" 1023]
def fa3 : List He.Fa := [.int "GREATEST_BYTE" 255, .int "MOST_AREA" 256, .int "MOST_STEPS" 64, .int "MOST_WIDTH" 4, .int "MOST_BURST" 16, .str "COPY" "copy", .str "FILL" "fill", .str "ADD" "add", .str "READ" "r", .str "WRITE" "w", .cls "Store", .mkr "Store", .meth "Store" "__init__", .meth "Store" "need_cell", .meth "Store" "read", .meth "Store" "write", .meth "Store" "need_flag", .meth "Store" "raise_flag"]
def fa4 : List He.Fa := [.meth "Store" "memory", .meth "Store" "__len__", .noat "Store" "store_cells", .noat "Store" "store_flags", .noat "Store" "store_writes", .cls "Helper", .mkr "Helper", .meth "Helper" "__init__", .meth "Helper" "post", .meth "Helper" "may_begin", .meth "Helper" "begin", .meth "Helper" "end_step", .meth "Helper" "flying", .meth "Helper" "may_touch", .meth "Helper" "part_done", .meth "Helper" "move", .meth "Helper" "halted", .meth "Helper" "is_idle"]
def fa5 : List He.Fa := [.meth "Helper" "counts", .noat "Helper" "held_store", .noat "Helper" "held_width", .noat "Helper" "held_burst", .noat "Helper" "held_room", .noat "Helper" "held_ring", .noat "Helper" "held_next", .noat "Helper" "held_flying", .noat "Helper" "held_done", .noat "Helper" "held_out", .noat "Helper" "held_counts"]
def fa : List He.Fa := fa0 ++ fa1 ++ fa2 ++ fa3 ++ fa4 ++ fa5
def dvB (K : PySem.W.Frag) (a : Addr) (vs : List V) : Bool := match K.lookup a with
  | some ⟨_, _, .dict es _, _⟩ => He.relAll vs (es.toList.map (·.val))
  | _ => false
def exB (K : PySem.W.Frag) : Bool := He.tupB K "BARS" [.str "fence", .str "note"] && (He.tupB K "AT_ONCE" [.str "fence", .str "note", .str "wait"] && (He.eqO (PySem.W.findIn K (.ref (He.ga K "Store")) "__class__") (some (some (.builtin "object.__class__"))) &&
  (He.eqO (PySem.W.specialIn K (.builtin "object.__class__") "__get__") (some (some (.builtin "getset_descriptor.__get__"))) && (decide (PySem.W.takesIn K (.builtin "object.__class__") = some true) && (decide (PySem.W.mroIn K (He.ga K "Store") (.type "object") = some true) &&
  (decide (PySem.W.kitOne K (.ref (He.ga K "Store")) (.ref (He.ga K "Store")) = some true) && (!(He.ga K "Store" == He.ga K "Helper") && dvB K (He.ga K "STEP_FORMS") (forms.map fun p => V.str p.2))))))))
def ts : List He.Tab := [((fun K => He.ga K "STEP_FORMS"), forms.map (·.1))]
abbrev AlZ : Type := He.AlT × Bool
def obsZ (K : PySem.W.Frag) : AlZ := (He.obsT fa fn ts K, exB K)
def valZ (w : World) : AlZ := (He.valT fn ts w, true)
def obsZG (g : Addr → Option Obj) : AlZ := obsZ (He.frG g (He.asD g 4))
def hk : PySem.W.Hook where
  α := AlZ
  obs := fun s => obsZG s.heap.get?
  val := fun w => valZ w
  says := fun w h => ∃ K : PySem.W.Frag, K.In h ∧ obsZ K = valZ w
  of := fun _ _ e => ⟨_, He.frG_in, e⟩
  keeps := fun _ _ _ ⟨K, hK, c⟩ k => ⟨K, PySem.W.Frag.In.keeps hK k, c⟩
def ob (s : PySem.W.SharedT) : AlZ := obsZG (HandSHeadRun.getT s)
theorem ob_eq (s : PySem.W.SharedT) : ob s = hk.obs s.abs := by
  have e : HandSHeadRun.getT s = s.abs.heap.get? := funext (HandSHeadRun.getT_eq s)
  show obsZG (HandSHeadRun.getT s) = obsZG s.abs.heap.get?
  rw [e]
abbrev R : PySem.W.OpenRow := PySem.W.OpenLaw.row PySem.Challenge.rw_haulring_k32_whole_clear_lists
def nm0 : List Str := ["_wall", "HaulError", "BadMemory", "BadList", "BadRoom", "Lack", "NoSuch", "Gone", "Cant", "Out", "BadKind", "BadNumber", "MOST_CELLS", "FLAGS", "GREATEST_CELL", "GREATEST_BYTE", "is_whole", "is_byte"]
def nm1 : List Str := ["is_flag", "is_memory", "MOST_AREA", "END", "area_wrong", "own_cells", "own_size", "MOST_STEPS", "MOST_ROWS", "MOST_NOTED", "COPY", "FILL", "ADD", "NOTE", "WAIT", "FENCE", "READ", "WRITE"]
def nm2 : List Str := ["WAYS", "SIZE", "SKIP", "STEP_FORMS", "is_thing", "form_of", "things_wrong", "step_wrong", "list_wrong", "need_list", "all_touches", "is_row", "need_room", "own_lets", "Store", "MOST_WIDTH", "MOST_BURST", "BARS"]
def nm3 : List Str := ["AT_ONCE", "need_store", "Helper", "end_of", "_law_begun", "_law_draw", "_law_pick", "_law_area", "_law_step", "_law_bytes", "_law_cells", "_law_touched", "_law_plain", "_law_do_clash", "_law_barred", "_law_led", "_law_right"]
def names : List Str := nm0 ++ nm1 ++ nm2 ++ nm3
theorem runF (w : World) : HandSHeadRun.RunEq R (PySem.W.view R.prog [78]) hk ob 6000 names (w.withFollow "special-get-raises" false) := by
  intro os
  kernel_rfl
theorem runT (w : World) : HandSHeadRun.RunEq R (PySem.W.view R.prog [78]) hk ob 6000 names (w.withFollow "special-get-raises" true) := by
  intro os
  kernel_rfl
theorem run (w : World) : HandSHeadRun.RunEq R (PySem.W.view R.prog [78]) hk ob 6000 names w :=
  PySem.W.byRow2 "special-get-raises" (P := fun w => HandSHeadRun.RunEq R (PySem.W.view R.prog [78]) hk ob 6000 names w) runF runT w
theorem txt_of {K : PySem.W.Frag} {w : World} {h : Heap} {mg : Str → Option Value} (X : K.In h) (G : h.Ns mainGlobals mg) (c : obsZ K = valZ w) : Txt K mg ∧ TxtW K w := by
  have cT : He.SaysT fa fn ts w K := congrArg (fun z : AlZ => z.1) c
  have cB : exB K = true := congrArg (fun z : AlZ => z.2) c
  have cD := cT.d
  obtain ⟨b1, cB⟩ := He.ba cB
  obtain ⟨b2, cB⟩ := He.ba cB
  obtain ⟨b3, cB⟩ := He.ba cB
  obtain ⟨b4, cB⟩ := He.ba cB
  obtain ⟨b5, cB⟩ := He.ba cB
  obtain ⟨b6, cB⟩ := He.ba cB
  obtain ⟨b7, cB⟩ := He.ba cB
  obtain ⟨b8, b9⟩ := He.ba cB
  refine ⟨⟨cD.def_ 0 (d := d_is_whole) rfl,
    cD.def_ 1 (d := d_is_byte) rfl,
    cD.def_ 2 (d := d_is_flag) rfl,
    cD.def_ 3 (d := d_is_memory) rfl,
    cD.def_ 4 (d := d_area_wrong) rfl,
    cD.def_ 5 (d := d_own_cells) rfl,
    cD.def_ 6 (d := d_own_size) rfl,
    cD.def_ 7 (d := d_is_thing) rfl,
    cD.def_ 8 (d := d_form_of) rfl,
    cD.def_ 9 (d := d_things_wrong) rfl,
    cD.def_ 10 (d := d_step_wrong) rfl,
    cD.def_ 11 (d := d_list_wrong) rfl,
    cD.def_ 12 (d := d_need_list) rfl,
    cD.def_ 13 (d := d_all_touches) rfl,
    cD.def_ 14 (d := d_need_store) rfl,
    cD.def_ 15 (d := d_end_of) rfl,
    cD.def_ 16 (d := d_law_begun) rfl,
    cD.def_ 17 (d := d_law_draw) rfl,
    cD.def_ 18 (d := d_law_pick) rfl,
    cD.def_ 19 (d := d_law_area) rfl,
    cD.def_ 20 (d := d_law_step) rfl,
    cD.def_ 21 (d := d_law_bytes) rfl,
    cD.def_ 22 (d := d_law_cells) rfl,
    cD.def_ 23 (d := d_law_touched) rfl,
    cD.def_ 24 (d := d_law_plain) rfl,
    cD.def_ 25 (d := d_law_do_clash) rfl,
    cD.def_ 26 (d := d_law_barred) rfl,
    cD.def_ 27 (d := d_law_led) rfl,
    cD.def_ 28 (d := d_law_right) rfl,
    cD.def_ 29 (d := d_law) rfl,
    cD.def_ 30 (d := d_Store_init) rfl,
    cD.def_ 31 (d := d_Store_need_cell) rfl,
    cD.def_ 32 (d := d_Store_read) rfl,
    cD.def_ 33 (d := d_Store_write) rfl,
    cD.def_ 34 (d := d_Store_need_flag) rfl,
    cD.def_ 35 (d := d_Store_raise_flag) rfl,
    cD.def_ 36 (d := d_Store_memory) rfl,
    cD.def_ 37 (d := d_Store_len) rfl,
    cD.def_ 38 (d := d_Helper_init) rfl,
    cD.def_ 39 (d := d_Helper_post) rfl,
    cD.def_ 40 (d := d_Helper_may_begin) rfl,
    cD.def_ 41 (d := d_Helper_begin) rfl,
    cD.def_ 42 (d := d_Helper_end_step) rfl,
    cD.def_ 43 (d := d_Helper_flying) rfl,
    cD.def_ 44 (d := d_Helper_may_touch) rfl,
    cD.def_ 45 (d := d_Helper_part_done) rfl,
    cD.def_ 46 (d := d_Helper_move) rfl,
    cD.def_ 47 (d := d_Helper_halted) rfl,
    cD.def_ 48 (d := d_Helper_is_idle) rfl,
    cD.def_ 49 (d := d_Helper_counts) rfl,
    He.glo_ok X G (cD.fact 0 (f := .glo "is_whole") rfl),
    He.glo_ok X G (cD.fact 1 (f := .glo "is_byte") rfl),
    He.glo_ok X G (cD.fact 2 (f := .glo "is_flag") rfl),
    He.glo_ok X G (cD.fact 3 (f := .glo "is_memory") rfl),
    He.glo_ok X G (cD.fact 4 (f := .glo "area_wrong") rfl),
    He.glo_ok X G (cD.fact 5 (f := .glo "own_cells") rfl),
    He.glo_ok X G (cD.fact 6 (f := .glo "own_size") rfl),
    He.glo_ok X G (cD.fact 7 (f := .glo "is_thing") rfl),
    He.glo_ok X G (cD.fact 8 (f := .glo "form_of") rfl),
    He.glo_ok X G (cD.fact 9 (f := .glo "things_wrong") rfl),
    He.glo_ok X G (cD.fact 10 (f := .glo "step_wrong") rfl),
    He.glo_ok X G (cD.fact 11 (f := .glo "list_wrong") rfl),
    He.glo_ok X G (cD.fact 12 (f := .glo "need_list") rfl),
    He.glo_ok X G (cD.fact 13 (f := .glo "all_touches") rfl),
    He.glo_ok X G (cD.fact 14 (f := .glo "need_store") rfl),
    He.glo_ok X G (cD.fact 15 (f := .glo "end_of") rfl),
    He.glo_ok X G (cD.fact 16 (f := .glo "_law_begun") rfl),
    He.glo_ok X G (cD.fact 17 (f := .glo "_law_draw") rfl),
    He.glo_ok X G (cD.fact 18 (f := .glo "_law_pick") rfl),
    He.glo_ok X G (cD.fact 19 (f := .glo "_law_area") rfl),
    He.glo_ok X G (cD.fact 20 (f := .glo "_law_step") rfl),
    He.glo_ok X G (cD.fact 21 (f := .glo "_law_bytes") rfl),
    He.glo_ok X G (cD.fact 22 (f := .glo "_law_cells") rfl),
    He.glo_ok X G (cD.fact 23 (f := .glo "_law_touched") rfl),
    He.glo_ok X G (cD.fact 24 (f := .glo "_law_plain") rfl),
    He.glo_ok X G (cD.fact 25 (f := .glo "_law_do_clash") rfl),
    He.glo_ok X G (cD.fact 26 (f := .glo "_law_barred") rfl),
    He.glo_ok X G (cD.fact 27 (f := .glo "_law_led") rfl),
    He.glo_ok X G (cD.fact 28 (f := .glo "_law_right") rfl),
    He.glo_ok X G (cD.fact 29 (f := .glo "law") rfl),
    He.glo_ok X G (cD.fact 30 (f := .glo "BARS") rfl),
    He.glo_ok X G (cD.fact 31 (f := .glo "AT_ONCE") rfl),
    He.glo_ok X G (cD.fact 32 (f := .glo "STEP_FORMS") rfl),
    He.glo_ok X G (cD.fact 33 (f := .glo "Store") rfl),
    He.glo_ok X G (cD.fact 34 (f := .glo "Helper") rfl),
    He.free_ok X G (cD.fact 35 (f := .free "isinstance") rfl),
    He.free_ok X G (cD.fact 36 (f := .free "int") rfl),
    He.free_ok X G (cD.fact 37 (f := .free "bool") rfl),
    He.free_ok X G (cD.fact 38 (f := .free "tuple") rfl),
    He.free_ok X G (cD.fact 39 (f := .free "len") rfl),
    He.free_ok X G (cD.fact 40 (f := .free "all") rfl),
    He.free_ok X G (cD.fact 41 (f := .free "str") rfl),
    He.free_ok X G (cD.fact 42 (f := .free "list") rfl),
    He.free_ok X G (cD.fact 43 (f := .free "enumerate") rfl),
    He.free_ok X G (cD.fact 44 (f := .free "dict") rfl),
    He.free_ok X G (cD.fact 45 (f := .free "range") rfl),
    He.free_ok X G (cD.fact 46 (f := .free "zip") rfl),
    He.free_ok X G (cD.fact 47 (f := .free "sorted") rfl),
    He.free_ok X G (cD.fact 48 (f := .free "sum") rfl),
    He.free_ok X G (cD.fact 49 (f := .free "max") rfl),
    He.free_ok X G (cD.fact 50 (f := .free "min") rfl),
    He.int_ok X G (cD.fact 51 (f := .int "MOST_CELLS" 1024) rfl),
    He.int_ok X G (cD.fact 52 (f := .int "FLAGS" 8) rfl),
    He.int_ok X G (cD.fact 53 (f := .int "GREATEST_CELL" 1023) rfl),
    He.int_ok X G (cD.fact 54 (f := .int "GREATEST_BYTE" 255) rfl),
    He.int_ok X G (cD.fact 55 (f := .int "MOST_AREA" 256) rfl),
    He.int_ok X G (cD.fact 56 (f := .int "MOST_STEPS" 64) rfl),
    He.int_ok X G (cD.fact 57 (f := .int "MOST_WIDTH" 4) rfl),
    He.int_ok X G (cD.fact 58 (f := .int "MOST_BURST" 16) rfl),
    He.str_ok X G (cD.fact 59 (f := .str "COPY" "copy") rfl),
    He.str_ok X G (cD.fact 60 (f := .str "FILL" "fill") rfl),
    He.str_ok X G (cD.fact 61 (f := .str "ADD" "add") rfl),
    He.str_ok X G (cD.fact 62 (f := .str "READ" "r") rfl),
    He.str_ok X G (cD.fact 63 (f := .str "WRITE" "w") rfl),
    He.cls_ok (cD.fact 64 (f := .cls "Store") rfl),
    He.mkr_ok (cD.fact 65 (f := .mkr "Store") rfl),
    He.meth_ok (cD.fact 66 (f := .meth "Store" "__init__") rfl),
    He.meth_ok (cD.fact 67 (f := .meth "Store" "need_cell") rfl),
    He.meth_ok (cD.fact 68 (f := .meth "Store" "read") rfl),
    He.meth_ok (cD.fact 69 (f := .meth "Store" "write") rfl),
    He.meth_ok (cD.fact 70 (f := .meth "Store" "need_flag") rfl),
    He.meth_ok (cD.fact 71 (f := .meth "Store" "raise_flag") rfl),
    He.meth_ok (cD.fact 72 (f := .meth "Store" "memory") rfl),
    He.meth_ok (cD.fact 73 (f := .meth "Store" "__len__") rfl),
    He.noat_ok (cD.fact 74 (f := .noat "Store" "store_cells") rfl),
    He.noat_ok (cD.fact 75 (f := .noat "Store" "store_flags") rfl),
    He.noat_ok (cD.fact 76 (f := .noat "Store" "store_writes") rfl),
    He.cls_ok (cD.fact 77 (f := .cls "Helper") rfl),
    He.mkr_ok (cD.fact 78 (f := .mkr "Helper") rfl),
    He.meth_ok (cD.fact 79 (f := .meth "Helper" "__init__") rfl),
    He.meth_ok (cD.fact 80 (f := .meth "Helper" "post") rfl),
    He.meth_ok (cD.fact 81 (f := .meth "Helper" "may_begin") rfl),
    He.meth_ok (cD.fact 82 (f := .meth "Helper" "begin") rfl),
    He.meth_ok (cD.fact 83 (f := .meth "Helper" "end_step") rfl),
    He.meth_ok (cD.fact 84 (f := .meth "Helper" "flying") rfl),
    He.meth_ok (cD.fact 85 (f := .meth "Helper" "may_touch") rfl),
    He.meth_ok (cD.fact 86 (f := .meth "Helper" "part_done") rfl),
    He.meth_ok (cD.fact 87 (f := .meth "Helper" "move") rfl),
    He.meth_ok (cD.fact 88 (f := .meth "Helper" "halted") rfl),
    He.meth_ok (cD.fact 89 (f := .meth "Helper" "is_idle") rfl),
    He.meth_ok (cD.fact 90 (f := .meth "Helper" "counts") rfl),
    He.noat_ok (cD.fact 91 (f := .noat "Helper" "held_store") rfl),
    He.noat_ok (cD.fact 92 (f := .noat "Helper" "held_width") rfl),
    He.noat_ok (cD.fact 93 (f := .noat "Helper" "held_burst") rfl),
    He.noat_ok (cD.fact 94 (f := .noat "Helper" "held_room") rfl),
    He.noat_ok (cD.fact 95 (f := .noat "Helper" "held_ring") rfl),
    He.noat_ok (cD.fact 96 (f := .noat "Helper" "held_next") rfl),
    He.noat_ok (cD.fact 97 (f := .noat "Helper" "held_flying") rfl),
    He.noat_ok (cD.fact 98 (f := .noat "Helper" "held_done") rfl),
    He.noat_ok (cD.fact 99 (f := .noat "Helper" "held_out") rfl),
    He.noat_ok (cD.fact 100 (f := .noat "Helper" "held_counts") rfl),
    He.tupB_ok b1, He.tupB_ok b2, He.eqO_ok b3, He.eqO_ok b4, of_decide_eq_true b5, of_decide_eq_true b6, of_decide_eq_true b7, fun e => ?_⟩, ?_⟩
  · rw [e, beq_self_eq_true] at b8
    cases b8
  · obtain ⟨es, n, kd⟩ := cT.tab 0 (t := ((fun K => He.ga K "STEP_FORMS"), forms.map (·.1))) rfl
    refine ⟨es, n, kd, ?_, ?_⟩
    · have e : ts.map (fun t => He.dicW K (t.1 K)) = ts.map fun t => some (He.keysIn w.params t.2) := congrArg (fun z : He.AlT => z.2) cT
      have e1 : He.dicW K (He.ga K "STEP_FORMS") = some (He.keysIn w.params (forms.map (·.1))) := (List.cons.inj e).1
      unfold He.dicW at e1
      rw [kd.at_] at e1
      have lo : (He.ga K "STEP_FORMS" == sysModules) = false := kd.low
      simp only [lo] at e1
      exact Option.some.inj e1
    · have b9 : (match K.lookup (He.ga K "STEP_FORMS") with | some ⟨_, _, .dict es _, _⟩ => He.relAll (forms.map fun p => V.str p.2) (es.toList.map (·.val)) | _ => false) = true := b9
      rw [kd.at_] at b9
      exact He.relAll_ok b9
end Hl
end

section
/-! Plain mathematics of the helper: parts, runs, commuting, the order of turns. -/
namespace Hl
abbrev Mem := List Int
structure Area where
  start : Nat
  count : Nat
  rows : Nat
  pitch : Nat
inductive Step where
  | copy (a b : Area) (k : Nat)
  | fill (a : Area) (y : Int) (k : Nat)
  | add (a : Area) (c : Nat)
  | note (f : Nat)
  | fence
def Area.cells (a : Area) : List Nat := (List.range a.rows).flatMap fun r => (List.range a.count).map fun s => a.start + r * a.pitch + s
def Area.size (a : Area) : Nat := a.count * a.rows
theorem flatMap_len {α β : Type} (f : α → List β) (n : Nat) : ∀ l : List α, (∀ x, x ∈ l → (f x).length = n) → (l.flatMap f).length = l.length * n
  | [], _ => by simp
  | x :: r, h => by
    rw [List.flatMap_cons, List.length_append, h x List.mem_cons_self, flatMap_len f n r fun y hy => h y (List.mem_cons_of_mem _ hy), List.length_cons, Nat.succ_mul]
    omega
theorem Area.cells_len (a : Area) : a.cells.length = a.size := by
  unfold Area.cells Area.size
  rw [flatMap_len _ a.count _ fun x _ => by rw [List.length_map, List.length_range], List.length_range, Nat.mul_comm]
/-- an area within n cells, at most six of them -/
structure Area.Ok (n : Nat) (a : Area) : Prop where
  c1 : 1 ≤ a.count
  r1 : 1 ≤ a.rows
  pc : a.count ≤ a.pitch
  one : a.rows = 1 → a.pitch = a.count
  fit : a.start + (a.rows - 1) * a.pitch + a.count ≤ n
  six : a.rows * a.count ≤ 6
theorem Area.Ok.cell {n : Nat} {a : Area} (h : a.Ok n) {c : Nat} (hc : c ∈ a.cells) : c < n := by
  unfold Area.cells at hc
  obtain ⟨r, hr, hc⟩ := List.mem_flatMap.mp hc
  obtain ⟨s, hs, rfl⟩ := List.mem_map.mp hc
  have hr := List.mem_range.mp hr
  have hs := List.mem_range.mp hs
  have h1 : r * a.pitch ≤ (a.rows - 1) * a.pitch := Nat.mul_le_mul_right _ (by omega)
  have := h.fit
  omega
theorem Area.Ok.size_pos {n : Nat} {a : Area} (h : a.Ok n) : 1 ≤ a.size := Nat.mul_pos h.c1 h.r1
theorem Area.Ok.size_six {n : Nat} {a : Area} (h : a.Ok n) : a.size ≤ 6 := by
  have := h.six
  unfold Area.size
  rw [Nat.mul_comm]
  exact this

def Step.Ok (n : Nat) : Step → Prop
  | .copy a b k => a.Ok n ∧ b.Ok n ∧ a.size = b.size ∧ k < a.size
  | .fill a y k => a.Ok n ∧ 0 ≤ y ∧ y ≤ 255 ∧ k < a.size
  | .add a c => a.Ok n ∧ c < n
  | .note f => f < 8
  | .fence => True
def Step.bar : Step → Bool
  | .note _ => true
  | .fence => true
  | _ => false
def Step.reads : Step → List Nat
  | .copy a _ k => a.cells.drop k
  | .add a _ => a.cells
  | _ => []
def Step.writes : Step → List Nat
  | .copy _ b k => b.cells.drop k
  | .fill a _ k => a.cells.drop k
  | .add _ c => [c]
  | _ => []
def clash (s t : Step) : Bool := (s.writes.any fun c => (t.reads ++ t.writes).contains c) || (t.writes.any fun c => s.reads.contains c)
/-- a part: what it touches, true where it writes -/
abbrev Part := List (Bool × Nat)
def Step.parts : Step → List Part
  | .copy a b k => ((a.cells.zip b.cells).drop k).map fun p => [(false, p.1), (true, p.2)]
  | .fill a _ k => (a.cells.drop k).map fun c => [(true, c)]
  | .add a c => (a.cells.map fun x => [(false, x)]) ++ [[(true, c)]]
  | _ => [[]]
/-! ### the plain order, as the law says it -/
def plainStep (m : Mem) : Step → Mem
  | .copy a b k => ((a.cells.drop k).zip (b.cells.drop k)).foldl (fun m p => m.set p.2 (m.getD p.1 0)) m
  | .fill a y k => (a.cells.drop k).foldl (fun m c => m.set c y) m
  | .add a c => m.set c ((a.cells.map fun x => m.getD x 0).sum % 256)
  | _ => m
def plain (m : Mem) (l : List Step) : Mem := l.foldl plainStep m
/-! ### parts done -/
def tch (x : Mem × Int) (p : Bool × Nat) : Mem × Int := match p.1 with
  | true => (x.1.set p.2 x.2, x.2)
  | false => (x.1, x.1.getD p.2 0)
def Step.byte0 : Step → Int → Int
  | .fill _ y _, _ => y
  | _, t => t % 256
def part (s : Step) (x : Mem × Int) (p : Part) : Mem × Int := ((p.foldl tch (x.1, s.byte0 x.2)).1, x.2 + (p.foldl tch (x.1, s.byte0 x.2)).2)
def runP (s : Step) (ps : List Part) (x : Mem × Int) : Mem × Int := ps.foldl (part s) x
theorem runP_append (s : Step) (ps qs : List Part) (x : Mem × Int) : runP s (ps ++ qs) x = runP s qs (runP s ps x) := List.foldl_append
def cellsOf (ps : List Part) : List Nat := ps.flatten.map (·.2)
def writesOf (ps : List Part) : List Nat := (ps.flatten.filter (·.1)).map (·.2)
def readsOf (ps : List Part) : List Nat := (ps.flatten.filter (fun q => !q.1)).map (·.2)

theorem drop_zip {α β : Type} : ∀ (k : Nat) (l : List α) (r : List β), (l.zip r).drop k = (l.drop k).zip (r.drop k)
  | 0, _, _ => rfl
  | _ + 1, [], _ => by simp
  | _ + 1, _ :: _, [] => by simp
  | k + 1, a :: l, b :: r => by
    rw [List.zip_cons_cons, List.drop_succ_cons, List.drop_succ_cons, List.drop_succ_cons]
    exact drop_zip k l r
theorem runP_copy (s : Step) (a b : Area) (k : Nat) (hs : s = .copy a b k) : ∀ (l : List (Nat × Nat)) (m : Mem) (t : Int),
    (runP s (l.map fun p => [(false, p.1), (true, p.2)]) (m, t)).1 = l.foldl (fun m p => m.set p.2 (m.getD p.1 0)) m
  | [], _, _ => rfl
  | p :: r, m, t => by
    show (runP s (r.map fun p => [(false, p.1), (true, p.2)]) (part s (m, t) [(false, p.1), (true, p.2)])).1 = r.foldl (fun m p => m.set p.2 (m.getD p.1 0)) (m.set p.2 (m.getD p.1 0))
    rw [← runP_copy s a b k hs r _ (part s (m, t) [(false, p.1), (true, p.2)]).2]
    rfl
theorem runP_fill (a : Area) (y : Int) (k : Nat) : ∀ (l : List Nat) (m : Mem) (t : Int),
    (runP (.fill a y k) (l.map fun c => [(true, c)]) (m, t)).1 = l.foldl (fun m c => m.set c y) m
  | [], _, _ => rfl
  | c :: r, m, t => by
    show (runP (.fill a y k) (r.map fun c => [(true, c)]) (part (.fill a y k) (m, t) [(true, c)])).1 = r.foldl (fun m c => m.set c y) (m.set c y)
    rw [← runP_fill a y k r _ (part (.fill a y k) (m, t) [(true, c)]).2]
    rfl
theorem runP_adds (a : Area) (c : Nat) : ∀ (l : List Nat) (m : Mem) (t : Int),
    runP (.add a c) (l.map fun x => [(false, x)]) (m, t) = (m, t + (l.map fun x => m.getD x 0).sum)
  | [], m, t => by simp [runP]
  | x :: r, m, t => by
    show runP (.add a c) (r.map fun x => [(false, x)]) (m, t + m.getD x 0) = _
    rw [runP_adds a c r m, List.map_cons, List.sum_cons, Int.add_assoc]
/-- all parts of a step, from the start: the plain order's step -/
theorem runP_all (s : Step) (m : Mem) : (runP s s.parts (m, 0)).1 = plainStep m s := by
  cases s with
  | copy a b k =>
    show (runP (.copy a b k) (((a.cells.zip b.cells).drop k).map fun p => [(false, p.1), (true, p.2)]) (m, 0)).1 = _
    rw [runP_copy _ a b k rfl, drop_zip]
    rfl
  | fill a y k => exact runP_fill a y k _ m 0
  | add a c =>
    show (runP (.add a c) ((a.cells.map fun x => [(false, x)]) ++ [[(true, c)]]) (m, 0)).1 = _
    rw [runP_append, runP_adds]
    show m.set c ((0 + (a.cells.map fun x => m.getD x 0).sum) % 256) = _
    rw [Int.zero_add]
    rfl
  | note f => rfl
  | fence => rfl

/-! ### what does not touch one another commutes -/
theorem fold_set (c : Nat) (v : Int) : ∀ (p : Part) (m : Mem) (b : Int), c ∉ p.map (·.2) →
    p.foldl tch (m.set c v, b) = ((p.foldl tch (m, b)).1.set c v, (p.foldl tch (m, b)).2)
  | [], _, _, _ => rfl
  | (true, d) :: r, m, b, h => by
    have hd : c ≠ d := fun e => h (by rw [e]; exact List.mem_cons_self)
    have hr : c ∉ r.map (·.2) := fun e => h (List.mem_cons_of_mem _ e)
    show r.foldl tch ((m.set c v).set d b, b) = ((r.foldl tch (m.set d b, b)).1.set c v, (r.foldl tch (m.set d b, b)).2)
    rw [List.set_comm _ _ hd, fold_set c v r _ _ hr]
  | (false, d) :: r, m, b, h => by
    have hd : c ≠ d := fun e => h (by rw [e]; exact List.mem_cons_self)
    have hr : c ∉ r.map (·.2) := fun e => h (List.mem_cons_of_mem _ e)
    have e : (m.set c v).getD d 0 = m.getD d 0 := by
      rw [List.getD_eq_getElem?_getD, List.getD_eq_getElem?_getD, List.getElem?_set_ne hd]
    show r.foldl tch (m.set c v, (m.set c v).getD d 0) = ((r.foldl tch (m, m.getD d 0)).1.set c v, (r.foldl tch (m, m.getD d 0)).2)
    rw [e, fold_set c v r _ _ hr]
theorem fold_get (c : Nat) : ∀ (p : Part) (m : Mem) (b : Int), c ∉ (p.filter (·.1)).map (·.2) → (p.foldl tch (m, b)).1.getD c 0 = m.getD c 0
  | [], _, _, _ => rfl
  | (true, d) :: r, m, b, h => by
    have hd : d ≠ c := fun e => h (by rw [e]; exact List.mem_cons_self)
    have hr : c ∉ (r.filter (·.1)).map (·.2) := fun e => h (List.mem_cons_of_mem _ e)
    show (r.foldl tch (m.set d b, b)).1.getD c 0 = _
    rw [fold_get c r _ _ hr, List.getD_eq_getElem?_getD, List.getElem?_set_ne hd, List.getD_eq_getElem?_getD]
  | (false, d) :: r, m, b, h => by
    show (r.foldl tch (m, m.getD d 0)).1.getD c 0 = _
    exact fold_get c r _ _ h
theorem cellsOf_cons (p : Part) (ps : List Part) (c : Nat) : c ∉ cellsOf (p :: ps) ↔ c ∉ p.map (·.2) ∧ c ∉ cellsOf ps := by
  unfold cellsOf
  rw [List.flatten_cons, List.map_append, List.mem_append, not_or]
theorem writesOf_cons (p : Part) (ps : List Part) (c : Nat) : c ∉ writesOf (p :: ps) ↔ c ∉ (p.filter (·.1)).map (·.2) ∧ c ∉ writesOf ps := by
  unfold writesOf
  rw [List.flatten_cons, List.filter_append, List.map_append, List.mem_append, not_or]
theorem runP_set (s : Step) (c : Nat) (v : Int) : ∀ (ps : List Part) (m : Mem) (t : Int), c ∉ cellsOf ps →
    runP s ps (m.set c v, t) = ((runP s ps (m, t)).1.set c v, (runP s ps (m, t)).2)
  | [], _, _, _ => rfl
  | p :: r, m, t, h => by
    obtain ⟨h1, h2⟩ := (cellsOf_cons p r c).mp h
    have e : part s (m.set c v, t) p = ((part s (m, t) p).1.set c v, (part s (m, t) p).2) := by
      unfold part
      rw [fold_set c v p _ _ h1]
    show runP s r (part s (m.set c v, t) p) = ((runP s r (part s (m, t) p)).1.set c v, (runP s r (part s (m, t) p)).2)
    rw [e]
    exact runP_set s c v r _ _ h2
theorem runP_get (s : Step) (c : Nat) : ∀ (ps : List Part) (m : Mem) (t : Int), c ∉ writesOf ps → (runP s ps (m, t)).1.getD c 0 = m.getD c 0
  | [], _, _, _ => rfl
  | p :: r, m, t, h => by
    obtain ⟨h1, h2⟩ := (writesOf_cons p r c).mp h
    show (runP s r (part s (m, t) p)).1.getD c 0 = _
    rw [runP_get s c r (part s (m, t) p).1 (part s (m, t) p).2 h2]
    exact fold_get c p m _ h1
/-- a run that leaves cells alone, and looks at none of them -/
structure Apart (F : Mem → Mem × Int) (q : Part) : Prop where
  set : ∀ c, (true, c) ∈ q → ∀ v m, F (m.set c v) = ((F m).1.set c v, (F m).2)
  get : ∀ c, (false, c) ∈ q → ∀ m, (F m).1.getD c 0 = m.getD c 0
theorem fold_apart {F : Mem → Mem × Int} : ∀ (q : Part) (m : Mem) (b : Int), Apart F q →
    q.foldl tch ((F m).1, b) = ((F (q.foldl tch (m, b)).1).1, (q.foldl tch (m, b)).2) ∧ (F (q.foldl tch (m, b)).1).2 = (F m).2
  | [], _, _, _ => ⟨rfl, rfl⟩
  | (true, d) :: r, m, b, h => by
    have hr : Apart F r := ⟨fun c hc => h.set c (List.mem_cons_of_mem _ hc), fun c hc => h.get c (List.mem_cons_of_mem _ hc)⟩
    have e := h.set d List.mem_cons_self b m
    obtain ⟨i1, i2⟩ := fold_apart r (m.set d b) b hr
    rw [e] at i1 i2
    exact ⟨i1, i2⟩
  | (false, d) :: r, m, b, h => by
    have hr : Apart F r := ⟨fun c hc => h.set c (List.mem_cons_of_mem _ hc), fun c hc => h.get c (List.mem_cons_of_mem _ hc)⟩
    have e := h.get d List.mem_cons_self m
    show r.foldl tch ((F m).1, (F m).1.getD d 0) = _ ∧ _
    rw [e]
    exact fold_apart r m (m.getD d 0) hr
theorem run_apart {F : Mem → Mem × Int} (s : Step) : ∀ (qs : List Part) (m : Mem) (u : Int), (∀ q, q ∈ qs → Apart F q) →
    runP s qs ((F m).1, u) = ((F (runP s qs (m, u)).1).1, (runP s qs (m, u)).2) ∧ (F (runP s qs (m, u)).1).2 = (F m).2
  | [], _, _, _ => ⟨rfl, rfl⟩
  | q :: r, m, u, h => by
    obtain ⟨i1, i2⟩ := fold_apart q m (s.byte0 u) (h q List.mem_cons_self)
    have e : part s ((F m).1, u) q = ((F (part s (m, u) q).1).1, (part s (m, u) q).2) := by
      unfold part
      rw [i1]
    obtain ⟨j1, j2⟩ := run_apart s r (part s (m, u) q).1 (part s (m, u) q).2 fun p hp => h p (List.mem_cons_of_mem _ hp)
    refine ⟨?_, j2.trans i2⟩
    show runP s r (part s ((F m).1, u) q) = _
    rw [e]
    exact j1
/-- the touches of parts, by the step's own lists -/
theorem mem_copy {l : List (Nat × Nat)} {q : Bool × Nat} : q ∈ (l.map fun p => [(false, p.1), (true, p.2)]).flatten → (q.1 = false ∧ q.2 ∈ l.map (·.1)) ∨ (q.1 = true ∧ q.2 ∈ l.map (·.2)) := by
  intro h
  obtain ⟨p, hp, hq⟩ := List.mem_flatten.mp h
  obtain ⟨x, hx, rfl⟩ := List.mem_map.mp hp
  rcases List.mem_cons.mp hq with e | hq
  · subst e
    exact .inl ⟨rfl, List.mem_map.mpr ⟨x, hx, rfl⟩⟩
  · have e := List.mem_singleton.mp hq
    subst e
    exact .inr ⟨rfl, List.mem_map.mpr ⟨x, hx, rfl⟩⟩
theorem zip_fst {α β : Type} : ∀ (l : List α) (r : List β) (x : α), x ∈ (l.zip r).map (·.1) → x ∈ l
  | [], _, x, h => by simp at h
  | _ :: _, [], x, h => by simp at h
  | a :: l, b :: r, x, h => by
    rw [List.zip_cons_cons, List.map_cons] at h
    rcases List.mem_cons.mp h with e | h
    · exact e ▸ List.mem_cons_self
    · exact List.mem_cons_of_mem _ (zip_fst l r x h)
theorem zip_snd {α β : Type} : ∀ (l : List α) (r : List β) (x : β), x ∈ (l.zip r).map (·.2) → x ∈ r
  | [], _, x, h => by simp at h
  | _ :: _, [], x, h => by simp at h
  | a :: l, b :: r, x, h => by
    rw [List.zip_cons_cons, List.map_cons] at h
    rcases List.mem_cons.mp h with e | h
    · exact e ▸ List.mem_cons_self
    · exact List.mem_cons_of_mem _ (zip_snd l r x h)
theorem Step.touch (s : Step) {q : Bool × Nat} (h : q ∈ s.parts.flatten) : (q.1 = false ∧ q.2 ∈ s.reads) ∨ (q.1 = true ∧ q.2 ∈ s.writes) := by
  cases s with
  | copy a b k =>
    rcases mem_copy h with ⟨e, h⟩ | ⟨e, h⟩
    · rw [drop_zip] at h
      exact .inl ⟨e, zip_fst _ _ _ h⟩
    · rw [drop_zip] at h
      exact .inr ⟨e, zip_snd _ _ _ h⟩
  | fill a y k =>
    obtain ⟨p, hp, hq⟩ := List.mem_flatten.mp h
    obtain ⟨x, hx, rfl⟩ := List.mem_map.mp hp
    have e := List.mem_singleton.mp hq
    subst e
    exact .inr ⟨rfl, hx⟩
  | add a c =>
    obtain ⟨p, hp, hq⟩ := List.mem_flatten.mp h
    rcases List.mem_append.mp hp with hp | hp
    · obtain ⟨x, hx, rfl⟩ := List.mem_map.mp hp
      have e := List.mem_singleton.mp hq
      subst e
      exact .inl ⟨rfl, hx⟩
    · have e := List.mem_singleton.mp hp
      subst e
      have e := List.mem_singleton.mp hq
      subst e
      exact .inr ⟨rfl, List.mem_singleton.mpr rfl⟩
  | note f =>
    obtain ⟨p, hp, hq⟩ := List.mem_flatten.mp h
    have e := List.mem_singleton.mp hp
    subst e
    cases hq
  | fence =>
    obtain ⟨p, hp, hq⟩ := List.mem_flatten.mp h
    have e := List.mem_singleton.mp hp
    subst e
    cases hq
theorem sub_flat {ps qs : List Part} (h : ∀ p, p ∈ ps → p ∈ qs) {x : Bool × Nat} (hx : x ∈ ps.flatten) : x ∈ qs.flatten := by
  obtain ⟨p, hp, hq⟩ := List.mem_flatten.mp hx
  exact List.mem_flatten.mpr ⟨p, h p hp, hq⟩
theorem not_clash {s t : Step} (h : clash s t = false) : (∀ c, c ∈ s.writes → c ∉ t.reads ∧ c ∉ t.writes) ∧ ∀ c, c ∈ t.writes → c ∉ s.reads := by
  unfold clash at h
  obtain ⟨h1, h2⟩ := Bool.or_eq_false_iff.mp h
  constructor
  · intro c hc
    have := List.any_eq_false.mp h1 c hc
    rw [List.contains_iff_mem, List.mem_append, not_or] at this
    exact this
  · intro c hc
    have := List.any_eq_false.mp h2 c hc
    rw [List.contains_iff_mem] at this
    exact this
/-- parts of two steps that do not clash (s the one whose run is moved past) -/
theorem apart_of {s t : Step} (h : clash s t = false) {ps qs : List Part} (hp : ∀ p, p ∈ ps → p ∈ t.parts) (hq : ∀ p, p ∈ qs → p ∈ s.parts) (u : Int) (q : Part) (hm : q ∈ qs) : Apart (fun m => runP t ps (m, u)) q := by
  obtain ⟨h1, h2⟩ := not_clash h
  refine ⟨fun c hc v m => ?_, fun c hc m => ?_⟩
  · have hw : c ∈ s.writes := by
      rcases s.touch (q := (true, c)) (sub_flat hq (List.mem_flatten.mpr ⟨q, hm, hc⟩)) with ⟨e, _⟩ | ⟨_, e⟩
      · cases e
      · exact e
    refine runP_set t c v ps m u fun hx => ?_
    obtain ⟨x, hx, e⟩ := List.mem_map.mp hx
    rcases t.touch (sub_flat hp hx) with ⟨_, z⟩ | ⟨_, z⟩
    · rw [e] at z
      exact (h1 c hw).1 z
    · rw [e] at z
      exact (h1 c hw).2 z
  · have hr : c ∈ s.reads := by
      rcases s.touch (q := (false, c)) (sub_flat hq (List.mem_flatten.mpr ⟨q, hm, hc⟩)) with ⟨_, e⟩ | ⟨e, _⟩
      · exact e
      · cases e
    refine runP_get t c ps m u fun hx => ?_
    obtain ⟨x, hx, e⟩ := List.mem_map.mp hx
    obtain ⟨hx, k⟩ := List.mem_filter.mp hx
    rcases t.touch (sub_flat hp hx) with ⟨z, _⟩ | ⟨_, z⟩
    · rw [k] at z
      cases z
    · rw [e] at z
      exact h2 c z hr
end Hl
namespace Hl
/-! ### bytes stay bytes -/
def AllB (m : Mem) : Prop := ∀ x, x ∈ m → 0 ≤ x ∧ x ≤ 255
theorem AllB.get {m : Mem} (h : AllB m) (c : Nat) : 0 ≤ m.getD c 0 ∧ m.getD c 0 ≤ 255 := by
  rw [List.getD_eq_getElem?_getD]
  cases e : m[c]? with
  | none => exact ⟨Int.le_refl _, by decide⟩
  | some x => exact h x (List.mem_of_getElem? e)
theorem AllB.set {m : Mem} (h : AllB m) {v : Int} (h0 : 0 ≤ v) (h1 : v ≤ 255) (c : Nat) : AllB (m.set c v) := fun x hx => by
  rcases List.mem_or_eq_of_mem_set hx with q | q
  · exact h x q
  · subst q
    exact ⟨h0, h1⟩
theorem tch_len (x : Mem × Int) (p : Bool × Nat) : (tch x p).1.length = x.1.length := by
  obtain ⟨w, c⟩ := p
  cases w with
  | true => exact List.length_set
  | false => rfl
theorem fold_len : ∀ (p : Part) (x : Mem × Int), (p.foldl tch x).1.length = x.1.length
  | [], _ => rfl
  | q :: r, x => (fold_len r (tch x q)).trans (tch_len x q)
theorem tch_byte {x : Mem × Int} (h : AllB x.1) (h0 : 0 ≤ x.2) (h1 : x.2 ≤ 255) (p : Bool × Nat) : AllB (tch x p).1 ∧ 0 ≤ (tch x p).2 ∧ (tch x p).2 ≤ 255 := by
  obtain ⟨w, c⟩ := p
  cases w with
  | true => exact ⟨h.set h0 h1 c, h0, h1⟩
  | false => exact ⟨h, h.get c⟩
theorem fold_byte : ∀ (p : Part) (x : Mem × Int), AllB x.1 → 0 ≤ x.2 → x.2 ≤ 255 → AllB (p.foldl tch x).1 ∧ 0 ≤ (p.foldl tch x).2 ∧ (p.foldl tch x).2 ≤ 255
  | [], _, h, h0, h1 => ⟨h, h0, h1⟩
  | q :: r, x, h, h0, h1 => by
    obtain ⟨a, b, c⟩ := tch_byte h h0 h1 q
    exact fold_byte r (tch x q) a b c
theorem byte0_ok {n : Nat} {s : Step} (h : s.Ok n) {t : Int} : 0 ≤ s.byte0 t ∧ s.byte0 t ≤ 255 := by
  have e : 0 ≤ t % 256 ∧ t % 256 ≤ 255 := by omega
  cases s with
  | fill a y k => exact ⟨h.2.1, h.2.2.1⟩
  | _ => exact e
theorem part_byte {n : Nat} {s : Step} (h : s.Ok n) {m : Mem} (hm : AllB m) {t : Int} (ht : 0 ≤ t) (p : Part) : AllB (part s (m, t) p).1 ∧ 0 ≤ (part s (m, t) p).2 ∧ (part s (m, t) p).1.length = m.length := by
  obtain ⟨b0, b1⟩ := byte0_ok h (t := t)
  obtain ⟨a, b, c⟩ := fold_byte p (m, s.byte0 t) hm b0 b1
  refine ⟨a, ?_, fold_len p _⟩
  show 0 ≤ t + (p.foldl tch (m, s.byte0 t)).2
  omega
theorem runP_byte {n : Nat} {s : Step} (h : s.Ok n) : ∀ (ps : List Part) {m : Mem} {t : Int}, AllB m → 0 ≤ t → AllB (runP s ps (m, t)).1 ∧ 0 ≤ (runP s ps (m, t)).2 ∧ (runP s ps (m, t)).1.length = m.length
  | [], _, _, hm, ht => ⟨hm, ht, rfl⟩
  | p :: r, m, t, hm, ht => by
    obtain ⟨a, b, c⟩ := part_byte h hm ht p
    obtain ⟨a', b', c'⟩ := runP_byte h r (m := (part s (m, t) p).1) (t := (part s (m, t) p).2) a b
    exact ⟨a', b', c'.trans c⟩
theorem plain_len : ∀ (l : List Step) (m : Mem), (plain m l).length = m.length
  | [], _ => rfl
  | s :: r, m => by
    show (plain (plainStep m s) r).length = m.length
    rw [plain_len r, ← runP_all s m]
    generalize s.parts = ps
    have : ∀ (ps : List Part) (x : Mem × Int), (runP s ps x).1.length = x.1.length := by
      intro ps
      induction ps with
      | nil => intro x; rfl
      | cons p r ih => intro x; exact (ih (part s x p)).trans (fold_len p _)
    exact this ps (m, 0)

/-! ### a helper's state -/
/-- a step that flies: its number, how many parts were done, their sum -/
abbrev Fl := Nat × Nat × Int
def stepAt (ring : List Step) (i : Nat) : Step := ring.getD i .fence
def finish (ring : List Step) (m : Mem) (f : Fl) : Mem := (runP (stepAt ring f.1) ((stepAt ring f.1).parts.drop f.2.1) (m, f.2.2)).1
/-- all that flies done in its order, then the rest plainly -/
def final (ring : List Step) (nx : Nat) (fly : List Fl) (m : Mem) : Mem := plain (fly.foldl (finish ring) m) (ring.drop nx)
def Clear (ring : List Step) : Prop := ∀ (i j : Nat) (s t : Step), i < j → ring[i]? = some s → ring[j]? = some t → clash s t = true → ∃ (k : Nat) (u : Step), i < k ∧ k < j ∧ ring[k]? = some u ∧ u.bar = true
structure Good (ring : List Step) (W nx : Nat) (fly : List Fl) : Prop where
  nxle : nx ≤ ring.length
  lt : ∀ f, f ∈ fly → f.1 < nx
  inc : fly.Pairwise fun a b => a.1 < b.1
  nb : ∀ f, f ∈ fly → (stepAt ring f.1).bar = false
  dn : ∀ f, f ∈ fly → f.2.1 < (stepAt ring f.1).parts.length
  nn : ∀ f, f ∈ fly → 0 ≤ f.2.2
  nc : fly.Pairwise fun a b => clash (stepAt ring a.1) (stepAt ring b.1) = false
  bars : ∀ f, f ∈ fly → ∀ j, f.1 < j → j < nx → (stepAt ring j).bar = false
  wid : fly.length ≤ W
theorem stepAt_get {ring : List Step} {i : Nat} (h : i < ring.length) : ring[i]? = some (stepAt ring i) := by
  unfold stepAt
  rw [List.getD_eq_getElem?_getD, List.getElem?_eq_getElem h]
  rfl
theorem parts_pos (s : Step) {n : Nat} (h : s.Ok n) : 1 ≤ s.parts.length := by
  cases s with
  | copy a b k =>
    obtain ⟨h1, h2, h3, h4⟩ := h
    show 1 ≤ (((a.cells.zip b.cells).drop k).map fun p => [(false, p.1), (true, p.2)]).length
    rw [List.length_map, List.length_drop, List.length_zip, Area.cells_len, Area.cells_len, ← h3]
    omega
  | fill a y k =>
    obtain ⟨h1, h2, h3, h4⟩ := h
    show 1 ≤ ((a.cells.drop k).map fun c => [(true, c)]).length
    rw [List.length_map, List.length_drop, Area.cells_len]
    omega
  | add a c =>
    show 1 ≤ ((a.cells.map fun x => [(false, x)]) ++ [[(true, c)]]).length
    rw [List.length_append]
    exact Nat.le_add_left _ _
  | note f => exact Nat.le_refl _
  | fence => exact Nat.le_refl _
theorem Good.start (ring : List Step) (W : Nat) : Good ring W 0 [] :=
  ⟨Nat.zero_le _, (fun _ h => nomatch h), .nil, (fun _ h => nomatch h), (fun _ h => nomatch h), (fun _ h => nomatch h), .nil, (fun _ h => nomatch h), Nat.zero_le _⟩
/-- a bar is begun: nothing flies -/
theorem Good.bar {ring : List Step} {W nx : Nat} (g : Good ring W nx []) (h : nx < ring.length) : Good ring W (nx + 1) [] :=
  ⟨h, (fun _ h => nomatch h), .nil, (fun _ h => nomatch h), (fun _ h => nomatch h), (fun _ h => nomatch h), .nil, (fun _ h => nomatch h), Nat.zero_le _⟩
theorem pair_snoc {α : Type} {R : α → α → Prop} {l : List α} {x : α} (h : l.Pairwise R) (hx : ∀ a, a ∈ l → R a x) : (l ++ [x]).Pairwise R :=
  List.pairwise_append.mpr ⟨h, List.pairwise_singleton _ _, fun a ha b hb => by rw [List.mem_singleton.mp hb]; exact hx a ha⟩
/-- another step is begun -/
theorem Good.begin {ring : List Step} {W nx n : Nat} {fly : List Fl} (g : Good ring W nx fly) (h : nx < ring.length) (hb : (stepAt ring nx).bar = false) (ho : (stepAt ring nx).Ok n) (hw : fly.length < W)
    (hc : W = 1 ∨ Clear ring) : Good ring W (nx + 1) (fly ++ [(nx, 0, 0)]) where
  nxle := h
  lt := fun f hf => by
    rcases List.mem_append.mp hf with q | q
    · exact Nat.lt_succ_of_lt (g.lt f q)
    · rw [List.mem_singleton.mp q]; exact Nat.lt_succ_self _
  inc := pair_snoc g.inc fun a ha => g.lt a ha
  nb := fun f hf => by
    rcases List.mem_append.mp hf with q | q
    · exact g.nb f q
    · rw [List.mem_singleton.mp q]; exact hb
  dn := fun f hf => by
    rcases List.mem_append.mp hf with q | q
    · exact g.dn f q
    · rw [List.mem_singleton.mp q]; exact parts_pos _ ho
  nn := fun f hf => by
    rcases List.mem_append.mp hf with q | q
    · exact g.nn f q
    · rw [List.mem_singleton.mp q]; exact Int.le_refl _
  nc := pair_snoc g.nc fun a ha => by
    rcases hc with rfl | hc
    · exact absurd (List.length_pos_of_mem ha) (by omega)
    · have la := g.lt a ha
      cases e : clash (stepAt ring a.1) (stepAt ring nx) with
      | false => rfl
      | true =>
        obtain ⟨k, u, h1, h2, h3, h4⟩ := hc a.1 nx _ _ la (stepAt_get (Nat.lt_trans la h)) (stepAt_get h) e
        have q := g.bars a ha k h1 h2
        rw [stepAt_get (Nat.lt_trans h2 h)] at h3
        rw [Option.some.inj h3, h4] at q
        cases q
  bars := fun f hf j h1 h2 => by
    rcases List.mem_append.mp hf with q | q
    · by_cases e : j = nx
      · rw [e]; exact hb
      · exact g.bars f q j h1 (by omega)
    · rw [List.mem_singleton.mp q] at h1
      have h1 : nx < j := h1
      omega
  wid := by
    rw [List.length_append]
    exact hw
/-- what flies behind a move of the step k to d' parts, t' their sum; it is out where all are done -/
def moved (ring : List Step) (k d' : Nat) (t' : Int) (fly : List Fl) : List Fl :=
  if d' = (stepAt ring k).parts.length then fly.filter (fun f => decide (f.1 ≠ k)) else fly.map fun f => if f.1 = k then (k, d', t') else f
theorem split_at {fly : List Fl} {k d : Nat} {t : Int} (hm : (k, d, t) ∈ fly) (inc : fly.Pairwise fun a b => a.1 < b.1) :
    ∃ pre post, fly = pre ++ (k, d, t) :: post ∧ (∀ f, f ∈ pre → f.1 < k) ∧ ∀ f, f ∈ post → k < f.1 := by
  obtain ⟨pre, post, e⟩ := List.append_of_mem hm
  refine ⟨pre, post, e, fun f hf => ?_, fun f hf => ?_⟩
  · rw [e] at inc
    exact (List.pairwise_append.mp inc).2.2 f hf _ List.mem_cons_self
  · rw [e] at inc
    exact (List.pairwise_cons.mp (List.pairwise_append.mp inc).2.1).1 f hf
theorem map_other {k : Nat} (g : Fl → Fl) : ∀ l : List Fl, (∀ f, f ∈ l → f.1 ≠ k) → (l.map fun f => if f.1 = k then g f else f) = l
  | [], _ => rfl
  | f :: r, h => by
    rw [List.map_cons, if_neg (h f List.mem_cons_self), map_other g r fun x hx => h x (List.mem_cons_of_mem _ hx)]
theorem filter_other {k : Nat} : ∀ l : List Fl, (∀ f, f ∈ l → f.1 ≠ k) → l.filter (fun f => decide (f.1 ≠ k)) = l
  | [], _ => rfl
  | f :: r, h => by
    rw [List.filter_cons, if_pos (decide_eq_true (h f List.mem_cons_self)), filter_other r fun x hx => h x (List.mem_cons_of_mem _ hx)]
theorem moved_split {ring : List Step} {k d d' : Nat} {t t' : Int} {pre post : List Fl} (h1 : ∀ f, f ∈ pre → f.1 < k) (h2 : ∀ f, f ∈ post → k < f.1) :
    moved ring k d' t' (pre ++ (k, d, t) :: post) = pre ++ (if d' = (stepAt ring k).parts.length then [] else [(k, d', t')]) ++ post := by
  have n1 : ∀ f, f ∈ pre → f.1 ≠ k := fun f hf => Nat.ne_of_lt (h1 f hf)
  have n2 : ∀ f, f ∈ post → f.1 ≠ k := fun f hf => Nat.ne_of_gt (h2 f hf)
  unfold moved
  by_cases e : d' = (stepAt ring k).parts.length
  · rw [if_pos e, if_pos e, List.filter_append, List.filter_cons, filter_other pre n1, filter_other post n2]
    simp
  · rw [if_neg e, if_neg e, List.map_append, List.map_cons, map_other _ pre n1, map_other _ post n2]
    simp
/-- finishing what does not clash commutes with parts of another step -/
theorem finish_past {ring : List Step} {s : Step} {ps : List Part} (hp : ∀ p, p ∈ ps → p ∈ s.parts) (t : Int) : ∀ (pre : List Fl) (m : Mem), (∀ f, f ∈ pre → clash (stepAt ring f.1) s = false) →
    pre.foldl (finish ring) (runP s ps (m, t)).1 = (runP s ps (pre.foldl (finish ring) m, t)).1 ∧ (runP s ps (pre.foldl (finish ring) m, t)).2 = (runP s ps (m, t)).2
  | [], _, _ => ⟨rfl, rfl⟩
  | f :: r, m, h => by
    obtain ⟨i1, i2⟩ := run_apart (F := fun m => runP s ps (m, t)) (stepAt ring f.1) ((stepAt ring f.1).parts.drop f.2.1) m f.2.2
      (fun q hq => apart_of (h f List.mem_cons_self) hp (fun p hp => List.mem_of_mem_drop hp) t q hq)
    have e : finish ring (runP s ps (m, t)).1 f = (runP s ps (finish ring m f, t)).1 := congrArg (fun x => x.1) i1
    obtain ⟨j1, j2⟩ := finish_past hp t r (finish ring m f) fun x hx => h x (List.mem_cons_of_mem _ hx)
    refine ⟨?_, j2.trans i2⟩
    show r.foldl (finish ring) (finish ring (runP s ps (m, t)).1 f) = _
    rw [e]
    exact j1
/-- THE MOVE: what all comes to stays -/
theorem final_move {ring : List Step} {W nx : Nat} {fly : List Fl} (g : Good ring W nx fly) {k d : Nat} {t : Int} (hm : (k, d, t) ∈ fly) (m : Mem) (q : Nat) :
    final ring nx (moved ring k (d + (((stepAt ring k).parts.drop d).take q).length) (runP (stepAt ring k) (((stepAt ring k).parts.drop d).take q) (m, t)).2 fly) (runP (stepAt ring k) (((stepAt ring k).parts.drop d).take q) (m, t)).1
      = final ring nx fly m := by
  obtain ⟨pre, post, e, h1, h2⟩ := split_at hm g.inc
  have hc : ∀ f, f ∈ pre → clash (stepAt ring f.1) (stepAt ring k) = false := fun f hf => by
    have nc := g.nc
    rw [e] at nc
    exact (List.pairwise_append.mp nc).2.2 f hf _ List.mem_cons_self
  rw [e, moved_split h1 h2]
  unfold final
  congr 1
  rw [List.append_assoc, List.foldl_append, List.foldl_append, List.foldl_append, List.foldl_cons]
  congr 1
  have hp : ∀ p, p ∈ (((stepAt ring k).parts.drop d).take q) → p ∈ (stepAt ring k).parts := fun p hp => List.mem_of_mem_drop (List.mem_of_mem_take hp)
  obtain ⟨i1, i2⟩ := finish_past (ring := ring) hp t pre m hc
  rw [i1]
  generalize pre.foldl (finish ring) m = m1 at i1 i2 ⊢
  have all : finish ring m1 (k, d, t) = (runP (stepAt ring k) (((stepAt ring k).parts.drop d).drop q) (runP (stepAt ring k) (((stepAt ring k).parts.drop d).take q) (m1, t))).1 := by
    rw [← runP_append, List.take_append_drop]
    rfl
  rw [all]
  have hdn := g.dn _ hm
  have hdn : d < (stepAt ring k).parts.length := hdn
  by_cases c : d + (((stepAt ring k).parts.drop d).take q).length = (stepAt ring k).parts.length
  · rw [if_pos c]
    have z : ((stepAt ring k).parts.drop d).drop q = [] := by
      rw [List.length_take, List.length_drop] at c
      apply List.drop_of_length_le
      rw [List.length_drop]
      omega
    rw [z]
    rfl
  · rw [if_neg c, ← i2]
    show (runP (stepAt ring k) ((stepAt ring k).parts.drop (d + (((stepAt ring k).parts.drop d).take q).length)) _).1 = _
    have z : (stepAt ring k).parts.drop (d + (((stepAt ring k).parts.drop d).take q).length) = ((stepAt ring k).parts.drop d).drop q := by
      rw [List.length_take, List.length_drop] at c ⊢
      rw [List.drop_drop]
      congr 1
      omega
    rw [z]
theorem final_begin {ring : List Step} {nx : Nat} (fly : List Fl) (h : nx < ring.length) (m : Mem) : final ring (nx + 1) (fly ++ [(nx, 0, 0)]) m = final ring nx fly m := by
  unfold final
  rw [List.foldl_append]
  have e : ring.drop nx = stepAt ring nx :: ring.drop (nx + 1) := by
    rw [List.drop_eq_getElem_cons h]
    congr 1
    have := stepAt_get h
    rw [List.getElem?_eq_getElem h] at this
    exact Option.some.inj this
  rw [e]
  show plain (finish ring (fly.foldl (finish ring) m) (nx, 0, 0)) (ring.drop (nx + 1)) = plain (plainStep (fly.foldl (finish ring) m) (stepAt ring nx)) (ring.drop (nx + 1))
  rw [← runP_all]
  rfl
theorem final_bar {ring : List Step} {nx : Nat} (h : nx < ring.length) (hb : (stepAt ring nx).bar = true) (m : Mem) : final ring (nx + 1) [] m = final ring nx [] m := by
  unfold final
  have e : ring.drop nx = stepAt ring nx :: ring.drop (nx + 1) := by
    rw [List.drop_eq_getElem_cons h]
    congr 1
    have := stepAt_get h
    rw [List.getElem?_eq_getElem h] at this
    exact Option.some.inj this
  rw [e]
  show plain m (ring.drop (nx + 1)) = plain (plainStep m (stepAt ring nx)) (ring.drop (nx + 1))
  cases q : stepAt ring nx with
  | note f => rfl
  | fence => rfl
  | _ => rw [q] at hb; cases hb
/-- .. and the move keeps what is good -/
theorem Good.move {ring : List Step} {W nx : Nat} {fly : List Fl} (g : Good ring W nx fly) {k d d' : Nat} {t t' : Int} (hm : (k, d, t) ∈ fly) (hd : d' ≤ (stepAt ring k).parts.length) (ht : 0 ≤ t') : Good ring W nx (moved ring k d' t' fly) := by
  obtain ⟨pre, post, e, h1, h2⟩ := split_at hm g.inc
  have e2 := moved_split (ring := ring) (d := d) (d' := d') (t := t) (t' := t') h1 h2
  rw [← e] at e2
  have sub : ∀ f, f ∈ moved ring k d' t' fly → f ∈ fly ∨ (f = (k, d', t') ∧ d' ≠ (stepAt ring k).parts.length) := fun f hf => by
    rw [e2] at hf
    rcases List.mem_append.mp hf with q | q
    · rcases List.mem_append.mp q with q | q
      · left; rw [e]; exact List.mem_append.mpr (.inl q)
      · by_cases c : d' = (stepAt ring k).parts.length
        · rw [if_pos c] at q; cases q
        · rw [if_neg c] at q; exact .inr ⟨List.mem_singleton.mp q, c⟩
    · left; rw [e]; exact List.mem_append.mpr (.inr (List.mem_cons_of_mem _ q))
  have pw : ∀ R : Nat → Nat → Prop, fly.Pairwise (fun a b => R a.1 b.1) → (moved ring k d' t' fly).Pairwise (fun a b => R a.1 b.1) := fun R h => by
    rw [e] at h
    rw [e2]
    obtain ⟨p1, p2, p3⟩ := List.pairwise_append.mp h
    obtain ⟨p4, p5⟩ := List.pairwise_cons.mp p2
    by_cases c : d' = (stepAt ring k).parts.length
    · rw [if_pos c, List.append_nil]
      exact List.pairwise_append.mpr ⟨p1, p5, fun a ha b hb => p3 a ha b (List.mem_cons_of_mem _ hb)⟩
    · rw [if_neg c, List.append_assoc]
      exact List.pairwise_append.mpr ⟨p1, List.pairwise_cons.mpr ⟨fun b hb => p4 b hb, p5⟩, fun a ha b hb => by
        rcases List.mem_cons.mp hb with q | q
        · rw [q]
          exact (p3 a ha (k, d, t) List.mem_cons_self : R a.1 k)
        · exact p3 a ha b (List.mem_cons_of_mem _ q)⟩
  have ks : ∀ f, f ∈ moved ring k d' t' fly → ∃ f0, f0 ∈ fly ∧ f0.1 = f.1 := fun f hf => by
    rcases sub f hf with q | ⟨q, _⟩
    · exact ⟨f, q, rfl⟩
    · exact ⟨_, hm, by rw [q]⟩
  refine ⟨g.nxle, fun f hf => ?_, pw _ g.inc, fun f hf => ?_, fun f hf => ?_, fun f hf => ?_, pw (fun a b => clash (stepAt ring a) (stepAt ring b) = false) g.nc, fun f hf => ?_, ?_⟩
  · obtain ⟨f0, a, b⟩ := ks f hf
    rw [← b]; exact g.lt f0 a
  · obtain ⟨f0, a, b⟩ := ks f hf
    rw [← b]; exact g.nb f0 a
  · rcases sub f hf with q | ⟨q, c⟩
    · exact g.dn f q
    · rw [q]
      show d' < (stepAt ring k).parts.length
      omega
  · rcases sub f hf with q | ⟨q, c⟩
    · exact g.nn f q
    · rw [q]; exact ht
  · obtain ⟨f0, a, b⟩ := ks f hf
    rw [← b]; exact g.bars f0 a
  · have l : (moved ring k d' t' fly).length ≤ fly.length := by
      unfold moved
      split
      · exact List.length_filter_le _ _
      · rw [List.length_map]; exact Nat.le_refl _
    exact Nat.le_trans l g.wid

/-! ### how many turns are left -/
def mvs (B l : Nat) : Nat := (l + B - 1) / B
def turnsOf (B : Nat) (s : Step) : Nat := if s.bar then 1 else 1 + mvs B s.parts.length
def todo (ring : List Step) (B nx : Nat) (fly : List Fl) : Nat := (fly.map fun f => mvs B ((stepAt ring f.1).parts.length - f.2.1)).sum + ((ring.drop nx).map (turnsOf B)).sum
theorem drop_at {ring : List Step} {nx : Nat} (h : nx < ring.length) : ring.drop nx = stepAt ring nx :: ring.drop (nx + 1) := by
  rw [List.drop_eq_getElem_cons h]
  congr 1
  have := stepAt_get h
  rw [List.getElem?_eq_getElem h] at this
  exact Option.some.inj this
theorem todo_bar {ring : List Step} {B nx : Nat} (h : nx < ring.length) (hb : (stepAt ring nx).bar = true) : todo ring B nx [] = todo ring B (nx + 1) [] + 1 := by
  unfold todo
  rw [drop_at h, List.map_cons, List.sum_cons]
  unfold turnsOf
  rw [if_pos hb]
  omega
theorem todo_begin {ring : List Step} {B nx : Nat} (fly : List Fl) (h : nx < ring.length) (hb : (stepAt ring nx).bar = false) : todo ring B nx fly = todo ring B (nx + 1) (fly ++ [(nx, 0, 0)]) + 1 := by
  unfold todo
  rw [drop_at h, List.map_cons, List.sum_cons, List.map_append, List.sum_append]
  have e : turnsOf B (stepAt ring nx) = 1 + mvs B (stepAt ring nx).parts.length := by
    unfold turnsOf
    rw [hb]
    rfl
  rw [e]
  show _ = (_ + (mvs B ((stepAt ring nx).parts.length - 0) + 0)) + _ + 1
  rw [Nat.sub_zero]
  omega
theorem mvs_pos {B l : Nat} (hB : 1 ≤ B) (hl : 1 ≤ l) : 1 ≤ mvs B l := by
  unfold mvs
  exact (Nat.le_div_iff_mul_le hB).mpr (by omega)
theorem mvs_zero {B : Nat} (hB : 1 ≤ B) : mvs B 0 = 0 := by
  unfold mvs
  exact Nat.div_eq_of_lt (by omega)
theorem mvs_step {B l : Nat} (hB : 1 ≤ B) (hl : 1 ≤ l) : mvs B l = mvs B (l - B) + 1 := by
  unfold mvs
  by_cases h : l ≤ B
  · have e : l - B = 0 := by omega
    rw [e, Nat.div_eq_of_lt (show 0 + B - 1 < B by omega)]
    exact Nat.div_eq_of_lt_le (by omega) (by omega)
  · rw [show l + B - 1 = (l - B + B - 1) + B by omega, Nat.add_div_right _ hB]
theorem todo_move {ring : List Step} {W B nx : Nat} {fly : List Fl} (g : Good ring W nx fly) (hB : 1 ≤ B) {k d : Nat} {t t' : Int} (hm : (k, d, t) ∈ fly) :
    todo ring B nx fly = todo ring B nx (moved ring k (d + (((stepAt ring k).parts.drop d).take B).length) t' fly) + 1 := by
  obtain ⟨pre, post, e, h1, h2⟩ := split_at hm g.inc
  have hdn : d < (stepAt ring k).parts.length := g.dn _ hm
  rw [e, moved_split h1 h2]
  unfold todo
  rw [List.length_take, List.length_drop]
  have key : mvs B ((stepAt ring k).parts.length - d) = mvs B ((stepAt ring k).parts.length - (d + min B ((stepAt ring k).parts.length - d))) + 1 := by
    rw [mvs_step hB (show 1 ≤ (stepAt ring k).parts.length - d by omega)]
    congr 2
    omega
  rw [List.map_append, List.map_cons, List.sum_append, List.sum_cons, List.map_append, List.map_append, List.sum_append, List.sum_append]
  by_cases c : d + min B ((stepAt ring k).parts.length - d) = (stepAt ring k).parts.length
  · rw [if_pos c]
    rw [c, Nat.sub_self, mvs_zero hB] at key
    show _ + (mvs B ((stepAt ring k).parts.length - d) + _) + _ = _ + 0 + _ + _ + 1
    omega
  · rw [if_neg c]
    show _ + (mvs B ((stepAt ring k).parts.length - d) + _) + _ = _ + (mvs B ((stepAt ring k).parts.length - (d + min B ((stepAt ring k).parts.length - d))) + 0) + _ + _ + 1
    omega
theorem todo_done (ring : List Step) (B : Nat) : todo ring B ring.length [] = 0 := by
  unfold todo
  rw [List.drop_length]
  rfl
theorem final_done (ring : List Step) (m : Mem) : final ring ring.length [] m = m := by
  unfold final
  rw [List.drop_length]
  rfl
theorem final_start (ring : List Step) (m : Mem) : final ring 0 [] m = plain m ring := rfl
/-- bars leave the memory as it is -/
theorem plain_bars : ∀ (l : List Step) (m : Mem), plain m (l.filter fun s => !s.bar) = plain m l
  | [], _ => rfl
  | s :: r, m => by
    rw [List.filter_cons]
    cases q : s.bar with
    | true =>
      rw [if_neg (by simp)]
      have e : plainStep m s = m := by
        cases s with
        | note f => rfl
        | fence => rfl
        | _ => cases q
      show _ = plain (plainStep m s) r
      rw [e]
      exact plain_bars r m
    | false =>
      rw [if_pos (by simp)]
      exact plain_bars r (plainStep m s)
/-- a list grows: a bar, then a step that clashes with none behind the last bar -/
structure Barred (found since done : List Step) : Prop where
  cut : ∃ pre, found = pre ++ since ∧ (pre = [] ∨ ∃ b, pre.getLast? = some b ∧ b.bar = true)
  clear : Clear found
  same : found.filter (fun s => !s.bar) = done
theorem Barred.start : Barred [] [] [] := ⟨⟨[], rfl, .inl rfl⟩, fun i j s t _ h => by simp at h, rfl⟩
theorem clear_snoc {l : List Step} {x : Step} (h : Clear l) (hx : ∀ (i : Nat) (s : Step), l[i]? = some s → clash s x = true → ∃ (k : Nat) (u : Step), i < k ∧ k < l.length ∧ l[k]? = some u ∧ u.bar = true) : Clear (l ++ [x]) := fun i j s t hij hi hj hc => by
  by_cases hl : j < l.length
  · rw [List.getElem?_append_left hl] at hj
    rw [List.getElem?_append_left (Nat.lt_trans hij hl)] at hi
    obtain ⟨k, u, a, b, c, e⟩ := h i j s t hij hi hj hc
    exact ⟨k, u, a, b, by rw [List.getElem?_append_left (Nat.lt_trans b hl)]; exact c, e⟩
  · have hj2 : j < (l ++ [x]).length := (List.getElem?_eq_some_iff.mp hj).1
    rw [List.length_append, List.length_singleton] at hj2
    have ej : j = l.length := by omega
    subst ej
    rw [List.getElem?_append_left hij] at hi
    have et : x = t := by
      rw [List.getElem?_append_right (Nat.le_refl _), Nat.sub_self] at hj
      exact Option.some.inj hj
    subst et
    obtain ⟨k, u, a, b, c, e⟩ := hx i s hi hc
    exact ⟨k, u, a, b, by rw [List.getElem?_append_left b]; exact c, e⟩
theorem clash_bar_r {s b : Step} (h : b.bar = true) : clash s b = false := by
  have e1 : b.reads = [] := by cases b <;> first | rfl | cases h
  have e2 : b.writes = [] := by cases b <;> first | rfl | cases h
  unfold clash
  rw [e1, e2]
  simp
theorem clash_bar_l {s b : Step} (h : b.bar = true) : clash b s = false := by
  have e1 : b.reads = [] := by cases b <;> first | rfl | cases h
  have e2 : b.writes = [] := by cases b <;> first | rfl | cases h
  unfold clash
  rw [e1, e2]
  simp
theorem Barred.bar {found since done : List Step} (h : Barred found since done) {b : Step} (hb : b.bar = true) : Barred (found ++ [b]) [] done where
  cut := ⟨found ++ [b], by simp, .inr ⟨b, by simp, hb⟩⟩
  clear := clear_snoc h.clear fun i s _ hc => by rw [clash_bar_r hb] at hc; cases hc
  same := by
    rw [List.filter_append, h.same, List.filter_cons, hb]
    simp
theorem Barred.step {found since done : List Step} (h : Barred found since done) {s : Step} (hb : s.bar = false) (hc : ∀ x, x ∈ since → clash x s = false) : Barred (found ++ [s]) (since ++ [s]) (done ++ [s]) where
  cut := by
    obtain ⟨pre, e, q⟩ := h.cut
    exact ⟨pre, by rw [e, List.append_assoc], q⟩
  clear := by
    obtain ⟨pre, e, q⟩ := h.cut
    refine clear_snoc h.clear fun i x hi hx => ?_
    by_cases hp : i < pre.length
    · rcases q with q | ⟨b, q, hb2⟩
      · rw [q] at hp; cases hp
      · have hl : pre[pre.length - 1]? = some b := by rw [← List.getLast?_eq_getElem?]; exact q
        have h1 : found[pre.length - 1]? = some b := by
          rw [e, List.getElem?_append_left (by omega)]; exact hl
        refine ⟨pre.length - 1, b, ?_, ?_, h1, hb2⟩
        · have : i ≠ pre.length - 1 := fun z => by
            rw [z, h1] at hi
            rw [← Option.some.inj hi, clash_bar_l hb2] at hx
            cases hx
          omega
        · rw [e, List.length_append]
          omega
    · rw [e, List.getElem?_append_right (by omega)] at hi
      rw [hc x (List.mem_of_getElem? hi)] at hx
      cases hx
  same := by
    rw [List.filter_append, h.same, List.filter_cons, hb]
    simp
theorem Barred.plain {found since done : List Step} (h : Barred found since done) (m : Mem) : plain m found = Hl.plain m done := by
  rw [← plain_bars, h.same]
end Hl
end

section
set_option Elab.async false
set_option linter.all false
set_option maxRecDepth 100000
set_option maxHeartbeats 4000000
/-! Rules of this proof's own, over the hand layer: a star in a target, xs[i] += e, extend by a tuple, a dict of the top copied, .. -/
namespace Hl
open PySem PySem.Spec PyProof.Rows L2
section
variable {prog : Program} {w : World} {A : Around} {E : Value → Shared → Prop} {s : Shared}
/-- x, *xs = a tuple -/
theorem star_tuple {l : Addr} {items : Array Value} {x : Value} {xs : List Value} {Q : List Value → Shared → Prop} (hl : IsTup s.heap l items) (hh : A.handled = none) (hi : items.toList = x :: xs) (hz : items.size ≤ 16384)
    (h : ∀ (h' : Heap) (tk : Nat), (∀ b o, s.heap.get? b = some o → h'.get? b = some o) → Q [x, .ref h'.objs.size] { s with heap := h'.push { cls := .type "list", data := .seq xs.toArray }, toks := tk }) : wpAny (model prog w) A (unpackItems (.ref l) 2 (some 1)) Q E s := by
  have hlen : items.size = xs.length + 1 := by rw [← Array.length_toList, hi] <;> rfl
  have hlt : l ≠ s.heap.objs.size := by obtain ⟨o, ho, _⟩ := hl; exact Nat.ne_of_lt (Heap.lt_size ho)
  unfold unpackItems
  refine wpAny_bind ?_
  unfold notIterableAtAll
  refine wpAny_bind (wpAny_specialOf hl.typeIs PySem.F.slot_tuple_iter.lookup ?_)
  refine wpAny_pure ?_
  simp only [Bool.false_eq_true, if_false]
  refine wpAny_bind (wpAny_holding (iter_tuple hl ?_))
  refine wpAny_bind (wpAny_holding (draw_tuple hlt 1 0 _ _ ⟨_, Heap.get?_push_size _ rfl, rfl, rfl⟩ (hl.push _) (by omega) fun h₁ hit₁ hs₁ => ?_))
  have hl₁ : IsTup h₁ l items := (hl.push _).extBut hs₁.extBut hlt
  rw [Nat.zero_add] at hit₁
  obtain ⟨oi, hoi, _⟩ := id hit₁
  obtain ⟨ol, hol, _⟩ := id hl₁
  rw [List.drop_zero]
  have hfl : (items.toList.take 1).length = 1 := by rw [List.length_take, Array.length_toList]; omega
  rw [if_neg (show ¬ ((items.toList.take 1).length < 1) by rw [hfl]; omega)]
  refine wpAny_bind (wpAny_holding (PySem.W.kun_collect (s := { s with heap := h₁ }) (T := "tuple_iterator") (.inr (.inr (.inr rfl))) (Walks.tuple (A := A.in1) hh s.heap.objs.size l hlt items) (fun j u st => st.1.typeIs) (k := 1) (by omega) ⟨hit₁, hl₁⟩ (Heap.lt_size hoi) (Heap.lt_size hol) (fun h₂ tk hk => ?_) (by rw [sizeLine_eq]; omega)))
  have e1 : items.toList.drop 1 = xs := by rw [hi] <;> rfl
  have e2 : items.toList.take 1 = [x] := by rw [hi] <;> rfl
  rw [e1, e2]
  show wpAny _ _ (if xs.length < 2 - 1 - 1 then _ else _) _ _ _
  rw [if_neg (by omega)]
  show wpAny _ _ (newList (xs.take (xs.length - (2 - 1 - 1))) >>= fun d => pure ([x] ++ [d] ++ xs.drop (xs.length - (2 - 1 - 1)))) _ _ _
  have e3 : xs.take (xs.length - (2 - 1 - 1)) = xs := List.take_of_length_le (by omega)
  have e4 : xs.drop (xs.length - (2 - 1 - 1)) = [] := List.drop_of_length_le (by omega)
  rw [e3, e4]
  have hk' : ∀ b o, s.heap.get? b = some o → h₂.get? b = some o := fun b o e => hk b o (Nat.ne_of_lt (Heap.lt_size e)) (hs₁.extBut b o (Nat.ne_of_lt (Heap.lt_size e)) (Heap.get?_push_of_some _ e))
  refine wpAny_bind (wpAny_newObj_type (wpAny_pure ?_) (by show xs.toArray.size ≤ _; rw [List.size_toArray, sizeLine_eq]; omega))
  exact h h₂ tk hk'
end
section
variable {X : Cx}
def gStar (K : PySem.W.Frag) (t : TGs) : TG := fun v σ H Q => ∃ a x xs, v = .ref a ∧ SqT K H a (x :: xs) ∧ xs.length ≤ 1000 ∧ ∀ D, H D = none → t [x, .ref D] σ (upd H D (.lst xs)) Q
/-- x, *xs = a tuple -/
theorem pg_star {t1 t2 : Expr} {p1 pos : Pos} {k : Nat} {t : TGs} (hc : X.calm = true) (h : PGs X [t1, t2] t) (hn : (assignEach [t1, .Starred t2 p1] X.env).map (·.2) = (assignEach [t1, t2] X.env).map (·.2) := by rfl)
    (hl : (assignEach [t1, .Starred t2 p1] X.env).length = 2 := by rfl) (hst : (assignEach [t1, .Starred t2 p1] X.env).findIdx? (·.1) = some 1 := by rfl) : PG X (.Tuple [t1, .Starred t2 p1] k pos) (gStar X.K t) := by
  refine ⟨fun pins s σ H v u Q I r hw => ?_⟩
  obtain ⟨a, x, xs, e1, hq, hz, hw⟩ := hw
  subst e1
  cases r
  obtain ⟨its, rv, ht, _⟩ := I.tuple hq
  cases rv with
  | cons rx rr =>
    rename_i u us
    rw [PyProof.Rows.assign_Tuple]
    refine wpAny_bind (wpAny_standAt ?_)
    unfold unpack
    rw [hl, hst, hn]
    have hlen := rr.length
    refine wpAny_bind (wpAny_holding (star_tuple (x := u) (xs := us) ht (I.ok.hd hc) (by simp) (by simp; omega) fun h' tk hk => ?_))
    have I1 : Inv X pins σ H { s with heap := h', toks := tk } := I.kept hk
    have I2 := I1.lnew (t' := tk) rr (by rw [sizeLine_eq]; omega)
    exact h.run pins _ σ _ _ _ Q I2 (.cons rx (.cons (show RelV (V.ref h'.objs.size) (Value.ref h'.objs.size) from rfl) .nil)) (hw _ I1.fresh)

/-! ### xs[i] op= e on a list -/
def rGetL (K : PySem.W.Frag) : V → V → Hp → VK → Prop := fun x y H Q => ∃ (p : Addr) (xs : List V) (i : Nat) (v : V), x = .ref p ∧ y = .int i ∧ SqL K H p xs ∧ xs[i]? = some v ∧ Q v H
theorem get_list : PGet X (rGetL X.K) := by
  intro pins s σ H o i ov iv Q I ro ri h
  obtain ⟨p, xs, j, z, rfl, rfl, hq, he, q⟩ := h
  cases ro
  obtain ⟨t, rfl⟩ := ri
  obtain ⟨its, r, pl, hz⟩ := I.list hq
  obtain ⟨w, ew, rw'⟩ := r.get he
  have hn := line63
  have hl := r.length
  have hj := (List.getElem?_eq_some_iff.mp he).1
  have e0 : ((j : Nat) : Int).toNat = j := Int.toNat_natCast j
  exact wpAny_getItem_list pl.isList (by omega) (by omega) (by rw [e0]; simpa using ew) ⟨z, H, I, rw', q⟩
/-! ### xs.extend(a tuple) -/
theorem ext_tuple (l : Addr) (items : Array Value) (n : Nat) (b : Addr) (items2 : Array Value) (n2 : Nat) (od : Option Addr) (sl : Array (Option Value)) (hs0 : ¬(!items.isEmpty && Builtin.List.listTooLong (items.size + items2.size)) = true) (hs1 : items.size ≤ sizeLine) (hs2 : items.size + items2.size ≤ sizeLine + 1) :
    Meets (Builtin.«list.extend» ⟨[.ref l, .ref b], []⟩) (fun _ R s => s.heap.get? l = some { cls := .type "list", dict := none, data := .seq items n, slots := #[] } ∧ s.heap.get? b = some { cls := .type "tuple", dict := od, data := .seq items2 n2, slots := sl } ∧ R (.ok (.ret Value.none)) { s with heap := s.heap.update l (Obj.mapSeq fun x => x ++ items2), toks := s.toks }) :=
  .of_wp fun prog w A R s h => by
    obtain ⟨hp, g, d, tk, os⟩ := s; obtain ⟨hl, hb, h⟩ := h; have f1 := AutoSeq1.idx_int; have f2 := AutoSeq1.sub_tuple_tuple; have f3 := AutoSeq1.sub_list_list; have f4 := AutoSeq1.sub_tuple_list; have f5 := AutoSeq1.sub_list_tuple;
    have hz' : (items ++ items2).size ≤ sizeLine + 1 := by rw [Array.size_append]; exact hs2
    wp_walk using (wpAny_updateSeq hl rfl (hz := hs1) (_hz' := hz')), AutoSeq1.wpAny_loadPart' hl, AutoSeq1.wpAny_loadPart' hb; exact ⟨_, rfl, h⟩
def rExtendT (K : PySem.W.Frag) : V → List V → Hp → VK → Prop := fun x vs H Q => ∃ l b xs zs, x = .ref l ∧ vs = [.ref b] ∧ H l = some (.lst xs) ∧ H b = some (.tup zs) ∧ xs.length + zs.length ≤ sizeLine ∧ Q .non (upd H l (.lst (xs ++ zs)))
theorem mt_extendT : MtM X "list.extend" (rExtendT X.K) := by
  intro pins s σ H x vs v us Q I rx rv h
  obtain ⟨l, b, xs, zs, rfl, rfl, hH, hB, hz, q⟩ := h
  cases rx
  obtain ⟨u, rfl, ru⟩ := rv.one
  cases ru
  obtain ⟨z, its, n, r, hl, e⟩ := I.lstM hH
  obtain ⟨z2, its2, r2, o2, e2, c2, n2, d2⟩ := I.hok b _ hB
  have l2 := r2.length
  have hsz : its.toArray.size + its2.toArray.size ≤ sizeLine := by rw [List.size_toArray, List.size_toArray]; omega
  have hlong : ¬ (!its.toArray.isEmpty && Builtin.List.listTooLong (its.toArray.size + its2.toArray.size)) = true := by
    rw [notLongL hsz, Bool.and_false]
    exact Bool.false_ne_true
  obtain ⟨oc, od, dt, sl⟩ := o2
  simp only at c2 d2
  subst c2 d2
  refine call_meets F.slot_list_extend ⟨_, e, rfl⟩ F.entry_list_extend (F.args_list_extend_2 _ _)
    (ext_tuple l its.toArray n b its2.toArray n2 od sl hlong (by rw [List.size_toArray]; omega) (by omega)) ⟨e, e2, ?_⟩
  refine ⟨.non, _, I.lset (its' := its ++ its2) hH e (by simp) (r.append r2) ?_, rfl, q⟩
  rw [List.length_append]
  omega
end
end Hl
end

section
set_option Elab.async false
set_option linter.all false
set_option maxRecDepth 100000
set_option maxHeartbeats 4000000
namespace Hl
open PySem PySem.Spec PyProof.Rows L2
section
variable {X : Cx}
/-! ### a dict compared with an empty one -/
def rEqE : R2 := fun x y H Q => ∃ a b kvs, x = .ref a ∧ y = .ref b ∧ H a = some (.dK kvs) ∧ H b = some (.dK []) ∧ Q (.bl kvs.isEmpty) H
theorem op_eq_empty (hu : X.A.units < cLine) : OpR X (compareOp .Eq) rEqE := by
  intro pins s σ H x y v u Q I rx ry h
  obtain ⟨a, b, ks, rfl, rfl, ea, eb, q⟩ := h
  obtain rfl : v = Value.ref a := rx
  obtain rfl : u = Value.ref b := ry
  obtain ⟨_, ya, va, ra, da⟩ := (show ObjOk X.prog X.w H s.heap a (.dK ks) from I.hok a _ ea)
  obtain ⟨_, yb, vb, rb, db⟩ := (show ObjOk X.prog X.w H s.heap b (.dK []) from I.hok b _ eb)
  cases rb
  cases ra with
  | nil => exact PySem.W.keq_eq (knd := mixKind X.prog X.w) (r := true) ya yb da db hu (fun _ => .nil) (fin_bl I q rfl)
  | cons r t =>
    refine PySem.W.keq_eq (knd := mixKind X.prog X.w) (r := true) ya yb da db hu (fun e => ?_) (fin_bl I q ?_)
    · simp at e
    · simp
/-! ### len(o) by the class's own __len__ -/
theorem call_lenOwn {CX : CXT} {k : Nat} {f C : Addr} {fd : FuncData} {ps : List Str} {sp : Sp} {E : XK} (c : Cls X.K C) (m : Meth X.K C "__len__" f) (F : FnOk X.prog X.w X.K X.mg X.base CX k f fd ps sp) (hr : Room (k + 1) X.A) (hb : Binds X.K fd ps []) (hx : Passes CX X E) :
    CallR X (.builtin "len") (fun xs H Q => ∃ a dx fs, xs = [.ref a] ∧ H a = some (.ins C dx fs) ∧ sp [.ref a] H (fun v H' => ∃ n : Nat, v = .int n ∧ (n : Int) < 2 ^ 63 ∧ Q (.int n) H') E) := by
  intro pins s σ H xs us Q I r h
  obtain ⟨a, dx, fs, rfl, ha, q⟩ := h
  obtain ⟨u, rfl, ru⟩ := vals1 r
  cases ru
  obtain ⟨mA, O, _⟩ := ins_get I.hok ha
  obtain ⟨od, J, _⟩ := O.look
  obtain ⟨m0, F0⟩ := I.fr
  refine PySem.W.len_K F0 I.mod.kin J m.at_ m.fn ?_
  have r2 : Vals [V.ref a] [Value.ref a] := .cons rfl .nil
  have hl : ([Value.ref a] : List Value).length = ps.length := by rw [← r2.length]; exact F.len _ _ _ _ q
  refine wpAny_call (codeAny_mono (F.run X.A.in1 X.stack s H ⟨[Value.ref a], []⟩ [Value.ref a] [V.ref a] _ E hr.in1 I.env0.in1 ?_ r2 q) fun r s' hq => ?_)
  · have := hb s [Value.ref a] I.kIn (by simpa using hl)
    simpa using this
  · cases r with
    | error e => exact hx pins σ H s e s' I hq
    | ok fl =>
      cases fl with
      | ret u =>
        obtain ⟨v, H', I', rv, n, e1, e2, q2⟩ := I.after hq
        subst e1
        obtain ⟨t, rfl⟩ := rv
        exact ⟨⟨by omega, e2⟩, ⟨.int n, H', I'.tok _, ⟨_, rfl⟩, q2⟩⟩
      | next => exact False.elim hq
      | brk => exact False.elim hq
      | cont => exact False.elim hq
/-! ### f(k = v): keywords alone -/
theorem pe_callN0 {CX : CXT} {k : Nat} {f : Addr} {fd : FuncData} {ps ks : List Str} {sp : Sp} {E : XK} {x : Str} {p pos : Pos} {kws : List Keyword} {tk : TA} {g : List Value → List Value → List Value} {gV : List V → List V → List V}
    (F : FnOk X.prog X.w X.K X.mg X.base CX k f fd ps sp) (hr : Room k X.A) (hg : Gl X x) (hm : X.mg x = some (.ref f)) (hk : PySem.W.keepIn X.K (.ref f) = true) (hb : KBn X.K fd ps 0 ks g gV) (hx : Passes CX X E) (hkw : PK X kws tk)
    (hall : (backToKw pos (keywordEach kws X.env)).all (·.1.isSome) = true := by rfl) (hks : (backToKw pos (keywordEach kws X.env)).filterMap (·.1) = ks := by rfl) (hdb : (x == ("__debug__" : Str)) = false := by decide)
    (hpl : ((backTo pos (starEach [] X.env)).any (·.1) || (backToKw pos (keywordEach kws X.env)).any (·.1.isNone)) = false := by rfl) :
    PE X (.Call (.Name x p) [] kws pos) (tCallN 0 ks.length sp gV E tNil tk) := by
  refine ⟨fun pins s σ H Q I h => ?_⟩
  refine wpAny_Call_Name_kw (ld_glob I hg hm ?_ hdb)
  refine PySem.W.callWith_KW0 (h₀ := X.base) I.ok.mod.kin hk hall ?_ hpl
  refine thn (hkw.run pos pins s σ H _ I h) fun ws s2 ⟨zs, H2, I2, rz, l1, l2, q2⟩ => ⟨I2.kIn, ?_⟩
  rw [hks]
  exact run_fnN (us := []) (vs := []) F hr hb hx I2 .nil rz rfl l2 q2
/-! ### dict(a table of the top) -/
def KDictOf (K : PySem.W.Frag) (P : Program) (w : World) (a : Addr) (kvs : List (Key × V)) : Prop := kvs.length ≤ sizeLine ∧ (a == sysModules) = false ∧ ∃ vs, KV kvs vs ∧ ∀ h : Heap, K.In h → h.DictOf (mixKind P w) a vs
theorem call_dictK : CallR X (.type "dict") (fun xs H Q => ∃ a kvs, xs = [.ref a] ∧ KDictOf X.K X.prog X.w a kvs ∧ ∀ p, H p = none → Q (.ref p) (upd H p (.dK kvs))) := by
  intro pins s σ H xs us Q I r h
  obtain ⟨a, kvs, rfl, ⟨hz, lo, vs, kv, hd⟩, q⟩ := h
  obtain ⟨u, rfl, ru⟩ := vals1 r
  cases ru
  refine kt_call_dict lo (hd _ I.kIn) (by rw [← Paired.length kv]; exact hz) fun h' hm hs => ?_
  have k : ∀ b u, s.heap.get? b = some u → h'.get? b = some u := fun b u e => (hs.2 b (Nat.ne_of_lt (Heap.lt_size e))).trans (Heap.get?_push_of_some _ e)
  have lo2 : (s.heap.objs.size == sysModules) = false := by
    refine beq_eq_false_iff_ne.mpr fun e => ?_
    have h2 := PyProof.Rows.modules_low I.nolimit
    rw [← e] at h2
    exact Nat.lt_irrefl _ h2
  refine ⟨.ref s.heap.objs.size, _, I.laid (o := .dK kvs) (t' := s.toks) k (Nat.le_refl _) ⟨hz, lo2, vs, kv, hm⟩, rfl, q _ I.fresh⟩
end
end Hl
end

section
set_option Elab.async false
set_option linter.all false
set_option maxRecDepth 100000
set_option maxHeartbeats 4000000
/-! zip(t, u, strict=True) of two tuples, drawn into a list. -/
namespace Hl
open PySem PySem.Spec PyProof.Rows L2
abbrev IsZipS (h : Heap) (z TI TO : Addr) (own : Value) : Prop :=
  h.get? z = some { cls := .type "zip", dict := none, data := .fields #[own, .bool false, .bool true, .ref TI, .ref TO], slots := #[] }
abbrev IsZipSH (h : Heap) (z TI TO T : Addr) (f : Bool) : Prop :=
  h.get? z = some { cls := .type "zip", dict := none, data := .fields #[rawInt T, .bool f, .bool true, .ref TI, .ref TO], slots := #[] }
section
variable {prog : Program} {w : World} {A : Around} {E : Value → Shared → Prop} {s : Shared}
theorem noe_item {it l : Addr} {i : Nat} {items} {x : Value} {Q : Option Value → Shared → Prop} (hit : s.heap.IsTupleIter it l i) (hl : s.heap.IsTuple l items) (hx : items[i]? = some x)
    (hQ : ∀ h', h'.IsTupleIter it l (i + 1) → Heap.SameBut it s.heap h' → Q (some x) { s with heap := h' }) : wpAny (model prog w) A (Builtin.SmallTypes.nextOrEnd (.ref it)) Q E s := by
  unfold Builtin.SmallTypes.nextOrEnd
  exact wpAny_bind (wpAny_attempt (RZ.nextOf_tuple_item hit hl hx fun h' a b => wpAny_pure (hQ h' a b)))
theorem noe_end {it l : Addr} {i : Nat} {items} {Q : Option Value → Shared → Prop} (hh : A.handled = none) (hit : s.heap.IsTupleIter it l i) (hl : s.heap.IsTuple l items) (hx : items[i]? = none)
    (hQ : ∀ h', Heap.ExtBut it s.heap h' → Q none { s with heap := h' }) : wpAny (model prog w) A (Builtin.SmallTypes.nextOrEnd (.ref it)) Q E s := by
  unfold Builtin.SmallTypes.nextOrEnd
  refine wpAny_bind (wpAny_attempt (RZ.nextOf_tuple_end hh hit hl hx fun h' e a he => ?_))
  obtain ⟨o, ho, hc⟩ := he
  refine wpAny_bind (wpAny_isInstance (T := "StopIteration") (b := true) ⟨o, ho, hc⟩ isSubtype_stop ?_)
  exact wpAny_pure (hQ h' a)
theorem zipS_held {z TI TO T : Addr} {f : Bool} {oT : Obj} {Q : Bool → Shared → Prop} (hz : IsZipSH s.heap z TI TO T f) (hT : s.heap.get? T = some oT)
    (h : ∀ h', IsZipSH h' z TI TO T true → Heap.SameBut z s.heap h' → Q false { s with heap := h' }) : wpAny (model prog w) A (Builtin.SmallTypes.ownedTupleIsFree (.ref z)) Q E s := by
  unfold Builtin.SmallTypes.ownedTupleIsFree
  refine wpAny_bind (wpAny_field hz rfl (x := rawInt T) rfl ?_)
  show wpAny _ _ (loadIfAlive ((T : Int).toNat) >>= _) _ _ _
  rw [Int.toNat_natCast]
  refine wpAny_bind (PySem.W.kdx_alive hT ?_)
  simp only [Option.isNone_some, Bool.false_eq_true, if_false]
  refine wpAny_bind (wpAny_field hz rfl (x := .bool f) rfl ?_)
  cases f with
  | true =>
    rw [if_neg (show ¬ ((Value.bool true != Value.bool true) = true) from Bool.false_ne_true)]
    exact wpAny_pure (h s.heap hz (Heap.SameBut.refl _ _))
  | false =>
    rw [if_pos (show (Value.bool false != Value.bool true) = true from rfl)]
    exact wpAny_bind (wpAny_setField_rec hz (by simp) fun h₁ hz₁ hs₁ => wpAny_pure (h h₁ hz₁ hs₁))
theorem zipS_item {z TI TO i1 i2 l1 l2 : Addr} {k1 k2 : Nat} {xs ys : Array Value} {x y a b : Value} {Q : Value → Shared → Prop} (D : ZipApart z TI TO i1 i2 l1 l2)
    (hz : IsZipS s.heap z TI TO .none) (hTI : IsPair s.heap TI (.ref i1) (.ref i2)) (hTO : IsPair s.heap TO a b)
    (h1 : s.heap.IsTupleIter i1 l1 k1) (h2 : s.heap.IsTupleIter i2 l2 k2) (hl1 : s.heap.IsTuple l1 xs) (hl2 : s.heap.IsTuple l2 ys) (hx : xs[k1]? = some x) (hy : ys[k2]? = some y)
    (hQ : ∀ h', IsZipS h' z TI TO (rawInt s.heap.objs.size) → IsPair h' TO x y → h'.IsTupleIter i1 l1 (k1 + 1) → h'.IsTupleIter i2 l2 (k2 + 1) → IsPair h' s.heap.objs.size x y → h'.objs.size = s.heap.objs.size + 1 →
      (∀ c o, c ≠ z → c ≠ TO → c ≠ i1 → c ≠ i2 → s.heap.get? c = some o → h'.get? c = some o) → Q (.ref s.heap.objs.size) { s with heap := h' }) :
    wpAny (model prog w) A (Builtin.«zip.__next__» ⟨[.ref z], []⟩) (fun fin s' => ∃ v, fin = .done (.ret v) ∧ Q v s') E s := by
  show wpAny _ _ (field (.ref z) 2 >>= _) _ _ _
  refine wpAny_bind (wpAny_field hz rfl (x := .bool true) rfl ?_)
  show wpAny _ _ (field (.ref z) 3 >>= _) _ _ _
  refine wpAny_bind (wpAny_field hz rfl (x := .ref TI) rfl ?_)
  refine wpAny_bind (wpAny_seqItems hTI rfl ?_)
  show wpAny _ _ (Builtin.SmallTypes.ownedTupleIsFree (.ref z) >>= _) _ _ _
  refine wpAny_bind ?_
  unfold Builtin.SmallTypes.ownedTupleIsFree
  refine wpAny_bind (wpAny_field hz rfl (x := .none) rfl (wpAny_pure ?_))
  simp only [if_true]
  refine wpAny_bind (wpAny_rule ?_)
  refine wpAny_bind (wpAny_field hz rfl (x := .ref TO) rfl ?_)
  refine wpAny_bind (wpAny_setField_rec hz (by simp) fun h₁ hz₁ hs₁ => ?_)
  replace hz₁ : IsZipS h₁ z TI TO .ellipsis := hz₁
  refine wpAny_bind ?_
  simp only [List.zipIdx_cons, List.zipIdx_nil, List.forIn_cons, List.forIn_nil]

  refine wpAny_bind (wpAny_bind (wpAny_onRaise ?_))
  show wpAny _ _ (Builtin.SmallTypes.nextOrEnd (.ref i1)) _ _ _
  refine noe_item (h1.extBut hs₁.extBut D.i1z) (hl1.extBut hs₁.extBut D.l1z) hx fun h₂ h1₂ hs₂ => ?_
  have hTO₂ : IsPair h₂ TO a b := hs₂.extBut _ _ D.TOi1 (hs₁.extBut _ _ D.TOz hTO)
  refine wpAny_bind (wpAny_seqItems hTO₂ rfl ?_)
  refine wpAny_bind (wpAny_updateSeq_pair hTO₂ fun h₃ hTO₃ hs₃ => ?_)
  replace hTO₃ : IsPair h₃ TO x b := hTO₃
  refine wpAny_bind (wpAny_letGo (wpAny_pure ?_))

  refine wpAny_bind (wpAny_bind (wpAny_onRaise ?_))
  show wpAny _ _ (Builtin.SmallTypes.nextOrEnd (.ref i2)) _ _ _
  refine noe_item (((h2.extBut hs₁.extBut D.i2z).extBut hs₂.extBut D.i12.symm).extBut hs₃.extBut D.TOi2.symm)
    (((hl2.extBut hs₁.extBut D.l2z).extBut hs₂.extBut D.l2i1).extBut hs₃.extBut D.l2TO) hy fun h₄ h2₄ hs₄ => ?_
  have hTO₄ : IsPair h₄ TO x b := hs₄.extBut _ _ D.TOi2 hTO₃
  refine wpAny_bind (wpAny_seqItems hTO₄ rfl ?_)
  refine wpAny_bind (wpAny_updateSeq_pair hTO₄ fun h₅ hTO₅ hs₅ => ?_)
  replace hTO₅ : IsPair h₅ TO x y := hTO₅
  refine wpAny_bind (wpAny_letGo (wpAny_pure (wpAny_pure ?_)))

  refine wpAny_bind (wpAny_seqItems hTO₅ rfl ?_)
  refine wpAny_bind (wpAny_newTuple ?_)
  have hsz : h₅.objs.size = s.heap.objs.size := by rw [hs₅.1, hs₄.1, hs₃.1, hs₂.1, hs₁.1]
  have hz₅ : IsZipS h₅ z TI TO .ellipsis := hs₅.extBut _ _ D.TOz.symm (hs₄.extBut _ _ D.i2z.symm (hs₃.extBut _ _ D.TOz.symm (hs₂.extBut _ _ D.i1z.symm hz₁)))
  have hk₅ : ∀ c o, c ≠ z → c ≠ TO → c ≠ i1 → c ≠ i2 → s.heap.get? c = some o → h₅.get? c = some o := fun c o c1 c2 c3 c4 e =>
    hs₅.extBut _ _ c2 (hs₄.extBut _ _ c4 (hs₃.extBut _ _ c2 (hs₂.extBut _ _ c3 (hs₁.extBut _ _ c1 e))))
  have h1₅ : h₅.IsTupleIter i1 l1 (k1 + 1) := ((h1₂.extBut hs₃.extBut D.TOi1.symm).extBut hs₄.extBut D.i12).extBut hs₅.extBut D.TOi1.symm
  have h2₅ : h₅.IsTupleIter i2 l2 (k2 + 1) := h2₄.extBut hs₅.extBut D.TOi2.symm
  have hzlt : z < h₅.objs.size := Heap.lt_size hz₅
  have hTOlt : TO < h₅.objs.size := Heap.lt_size hTO₅
  have hi1lt : i1 < h₅.objs.size := by obtain ⟨_, e, _⟩ := h1₅; exact Heap.lt_size e
  have hi2lt : i2 < h₅.objs.size := by obtain ⟨_, e, _⟩ := h2₅; exact Heap.lt_size e
  show wpAny _ _ (Builtin.SmallTypes.ownedTupleHandOut (.ref z) (.ref h₅.objs.size) >>= _) _ _ _
  refine wpAny_bind ?_
  unfold Builtin.SmallTypes.ownedTupleHandOut
  have hz₆ : IsZipS (h₅.push { cls := .type "tuple", data := .seq #[x, y] }) z TI TO .ellipsis := Heap.get?_push_of_some _ hz₅
  refine wpAny_bind (wpAny_setField_rec hz₆ (by simp) fun h₇ hz₇ hs₇ => ?_)
  replace hz₇ : IsZipS h₇ z TI TO (rawInt h₅.objs.size) := hz₇
  refine wpAny_setField_rec hz₇ (by simp) fun h₈ hz₈ hs₈ => ?_
  replace hz₈ : IsZipS h₈ z TI TO (rawInt h₅.objs.size) := hz₈
  have up : ∀ c o, c ≠ z → h₅.get? c = some o → h₈.get? c = some o := fun c o c1 e => hs₈.extBut _ _ c1 (hs₇.extBut _ _ c1 (Heap.get?_push_of_some _ e))
  have hT₈ : IsPair h₈ h₅.objs.size x y := hs₈.extBut _ _ (Nat.ne_of_gt hzlt) (hs₇.extBut _ _ (Nat.ne_of_gt hzlt) (Heap.get?_push_size _ rfl))
  have hz8 : h₈.objs.size = h₅.objs.size + 1 := by rw [hs₈.1, hs₇.1, Heap.size_push]
  rw [hsz] at hz₈ hT₈ hz8
  refine wpAny_pure ⟨_, rfl, ?_⟩
  show Q (.ref h₅.objs.size) _
  rw [hsz]
  exact hQ h₈ hz₈ (up _ _ D.TOz hTO₅) (h1₅.at fun o e => up _ o D.i1z e) (h2₅.at fun o e => up _ o D.i2z e) hT₈ hz8 fun c o c1 c2 c3 c4 e => up c o c1 (hk₅ c o c1 c2 c3 c4 e)

theorem zipS_item_held {z TI TO T i1 i2 l1 l2 : Addr} {f : Bool} {oT : Obj} {k1 k2 : Nat} {xs ys : Array Value} {x y : Value} {Q : Value → Shared → Prop} (D : ZipApart z TI TO i1 i2 l1 l2)
    (hz : IsZipSH s.heap z TI TO T f) (hT : s.heap.get? T = some oT) (hTI : IsPair s.heap TI (.ref i1) (.ref i2))
    (h1 : s.heap.IsTupleIter i1 l1 k1) (h2 : s.heap.IsTupleIter i2 l2 k2) (hl1 : s.heap.IsTuple l1 xs) (hl2 : s.heap.IsTuple l2 ys) (hx : xs[k1]? = some x) (hy : ys[k2]? = some y)
    (hQ : ∀ h', IsZipSH h' z TI TO T true → h'.IsTupleIter i1 l1 (k1 + 1) → h'.IsTupleIter i2 l2 (k2 + 1) → IsPair h' s.heap.objs.size x y → h'.objs.size = s.heap.objs.size + 1 →
      (∀ c o, c ≠ z → c ≠ i1 → c ≠ i2 → s.heap.get? c = some o → h'.get? c = some o) → Q (.ref s.heap.objs.size) { s with heap := h' }) :
    wpAny (model prog w) A (Builtin.«zip.__next__» ⟨[.ref z], []⟩) (fun fin s' => ∃ v, fin = .done (.ret v) ∧ Q v s') E s := by
  show wpAny _ _ (field (.ref z) 2 >>= _) _ _ _
  refine wpAny_bind (wpAny_field hz rfl (x := .bool true) rfl ?_)
  show wpAny _ _ (field (.ref z) 3 >>= _) _ _ _
  refine wpAny_bind (wpAny_field hz rfl (x := .ref TI) rfl ?_)
  refine wpAny_bind (wpAny_seqItems hTI rfl ?_)
  show wpAny _ _ (Builtin.SmallTypes.ownedTupleIsFree (.ref z) >>= _) _ _ _
  refine wpAny_bind (zipS_held hz hT fun h₁ hz₁ hs₁ => ?_)
  simp only [Bool.false_eq_true, if_false]
  refine wpAny_bind ?_
  rw [← Array.forIn_toList]
  simp only [List.forIn_cons, List.forIn_nil]
  refine wpAny_bind (wpAny_bind (wpAny_holding ?_))
  show wpAny _ _ (Builtin.SmallTypes.nextOrEnd (.ref i1)) _ _ _
  refine noe_item (s := { s with heap := h₁ }) (h1.extBut hs₁.extBut D.i1z) (hl1.extBut hs₁.extBut D.l1z) hx fun h₂ h1₂ hs₂ => ?_
  refine wpAny_pure ?_
  refine wpAny_bind (wpAny_bind (wpAny_holding ?_))
  show wpAny _ _ (Builtin.SmallTypes.nextOrEnd (.ref i2)) _ _ _
  refine noe_item (s := { s with heap := h₂ }) ((h2.extBut hs₁.extBut D.i2z).extBut hs₂.extBut D.i12.symm) ((hl2.extBut hs₁.extBut D.l2z).extBut hs₂.extBut D.l2i1) hy fun h₃ h2₃ hs₃ => ?_
  refine wpAny_pure (wpAny_pure ?_)
  show wpAny _ _ (newTuple [x, y] >>= _) _ _ _
  refine wpAny_bind (wpAny_newTuple ?_)
  have hsz : h₃.objs.size = s.heap.objs.size := by rw [hs₃.1, hs₂.1, hs₁.1]
  have hz₃ : IsZipSH h₃ z TI TO T true := hs₃.extBut _ _ D.i2z.symm (hs₂.extBut _ _ D.i1z.symm hz₁)
  have hk : ∀ c o, c ≠ z → c ≠ i1 → c ≠ i2 → s.heap.get? c = some o → h₃.get? c = some o := fun c o c1 c2 c3 e => hs₃.extBut _ _ c3 (hs₂.extBut _ _ c2 (hs₁.extBut _ _ c1 e))
  have h1₃ : h₃.IsTupleIter i1 l1 (k1 + 1) := h1₂.extBut hs₃.extBut D.i12
  refine wpAny_pure ⟨_, rfl, ?_⟩
  show Q (.ref h₃.objs.size) _
  have hp : IsPair (h₃.push { cls := .type "tuple", data := .seq #[x, y] }) h₃.objs.size x y := Heap.get?_push_size _ rfl
  have hz4 : (h₃.push { cls := .type "tuple", data := .seq #[x, y] }).objs.size = h₃.objs.size + 1 := Heap.size_push ..
  rw [hsz] at hp hz4 ⊢
  exact hQ _ (Heap.get?_push_of_some _ hz₃) (h1₃.at fun o e => Heap.get?_push_of_some _ e) (h2₃.at fun o e => Heap.get?_push_of_some _ e) hp hz4 fun c o c1 c2 c3 e => Heap.get?_push_of_some _ (hk c o c1 c2 c3 e)
theorem zipS_end_held {z TI TO T i1 i2 l1 l2 : Addr} {f : Bool} {oT : Obj} {k1 k2 : Nat} {xs ys : Array Value} {Q : Fin → Shared → Prop} (hh : A.handled = none) (D : ZipApart z TI TO i1 i2 l1 l2)
    (hz : IsZipSH s.heap z TI TO T f) (hT : s.heap.get? T = some oT) (hTI : IsPair s.heap TI (.ref i1) (.ref i2))
    (h1 : s.heap.IsTupleIter i1 l1 k1) (h2 : s.heap.IsTupleIter i2 l2 k2) (hl1 : s.heap.IsTuple l1 xs) (hl2 : s.heap.IsTuple l2 ys) (hx : xs[k1]? = none) (hy : ys[k2]? = none)
    (hE : ∀ h' e, (∀ c o, c ≠ z → c ≠ i1 → c ≠ i2 → s.heap.get? c = some o → h'.get? c = some o) → (∃ o, h'.get? e = some o ∧ o.cls = .type "StopIteration") → E (.ref e) { s with heap := h' }) :
    wpAny (model prog w) A (Builtin.«zip.__next__» ⟨[.ref z], []⟩) Q E s := by
  show wpAny _ _ (field (.ref z) 2 >>= _) _ _ _
  refine wpAny_bind (wpAny_field hz rfl (x := .bool true) rfl ?_)
  show wpAny _ _ (field (.ref z) 3 >>= _) _ _ _
  refine wpAny_bind (wpAny_field hz rfl (x := .ref TI) rfl ?_)
  refine wpAny_bind (wpAny_seqItems hTI rfl ?_)
  show wpAny _ _ (Builtin.SmallTypes.ownedTupleIsFree (.ref z) >>= _) _ _ _
  refine wpAny_bind (zipS_held hz hT fun h₁ hz₁ hs₁ => ?_)
  simp only [Bool.false_eq_true, if_false]
  refine wpAny_bind ?_
  rw [← Array.forIn_toList]
  simp only [List.forIn_cons, List.forIn_nil]
  refine wpAny_bind (wpAny_bind (wpAny_holding ?_))
  show wpAny _ _ (Builtin.SmallTypes.nextOrEnd (.ref i1)) _ _ _
  refine noe_end (s := { s with heap := h₁ }) hh (h1.extBut hs₁.extBut D.i1z) (hl1.extBut hs₁.extBut D.l1z) hx fun h₂ hs₂ => ?_
  refine wpAny_bind ?_
  show wpAny _ _ ((((Builtin.SmallTypes.nextOrEnd (.ref i2) >>= _) >>= _) >>= _)) _ _ _
  refine wpAny_bind (wpAny_bind (wpAny_bind ?_))
  refine noe_end (s := { s with heap := h₂ }) hh ((h2.extBut hs₁.extBut D.i2z).extBut hs₂ D.i12.symm) ((hl2.extBut hs₁.extBut D.l2z).extBut hs₂ D.l2i1) hy fun h₃ hs₃ => ?_
  refine wpAny_pure (wpAny_pure ?_)
  refine wpAny_bind (wpAny_rule ?_)
  show wpAny _ _ (newExc (.type "StopIteration") [] >>= _) _ _ _
  refine wpAny_bind ?_
  simp only [newExc, newTuple]
  refine wpAny_bind (wpAny_newObj_type ?_ (by size_fits))
  refine wpAny_bind (m := firstArgMember _ _) (wpAny_of_eq (a := Value.none) (by first | rfl | (simp only [firstArgMember]; rfl)) ?_)
  refine wpAny_newObj_type ?_ (by size_fits)
  simp only [raiseNew]
  refine wpAny_bind (wpAny_handled ?_)
  rw [hh]
  refine wpAny_bind (wpAny_pure (wpAny_throw ?_))
  refine hE _ _ (fun c o c1 c2 c3 e => Heap.get?_push_of_some _ (Heap.get?_push_of_some _ (hs₃ _ _ c3 (hs₂ _ _ c2 (hs₁.extBut _ _ c1 e))))) ⟨_, Heap.get?_push_size _ rfl, rfl⟩
end
end Hl
end

section
set_option Elab.async false
set_option linter.all false
set_option maxRecDepth 100000
set_option maxHeartbeats 4000000
/-! list(an iterator of new pairs): zip(.., strict=True), enumerate. -/
namespace Hl
open PySem PySem.Spec PyProof.Rows L2
section
variable {prog : Program} {w : World} {A : Around} {E : Value → Shared → Prop} {s : Shared}
theorem pyNext_zipS_item {z TI TO i1 i2 l1 l2 : Addr} {k1 k2 : Nat} {xs ys : Array Value} {x y a b : Value} {Q : Option Value → Shared → Prop} (D : ZipApart z TI TO i1 i2 l1 l2)
    (hz : IsZipS s.heap z TI TO .none) (hTI : IsPair s.heap TI (.ref i1) (.ref i2)) (hTO : IsPair s.heap TO a b)
    (h1 : s.heap.IsTupleIter i1 l1 k1) (h2 : s.heap.IsTupleIter i2 l2 k2) (hl1 : s.heap.IsTuple l1 xs) (hl2 : s.heap.IsTuple l2 ys) (hx : xs[k1]? = some x) (hy : ys[k2]? = some y)
    (hQ : ∀ h', IsZipS h' z TI TO (rawInt s.heap.objs.size) → IsPair h' TO x y → h'.IsTupleIter i1 l1 (k1 + 1) → h'.IsTupleIter i2 l2 (k2 + 1) → IsPair h' s.heap.objs.size x y → h'.objs.size = s.heap.objs.size + 1 →
      (∀ c o, c ≠ z → c ≠ TO → c ≠ i1 → c ≠ i2 → s.heap.get? c = some o → h'.get? c = some o) → Q (some (.ref s.heap.objs.size)) { s with heap := h' }) :
    wpAny (model prog w) A (pyNext (.ref z)) Q E s := by
  have hT : s.TypeIs (.ref z) "zip" := ⟨_, hz, rfl⟩
  unfold pyNext
  exact wpAny_bind (wpAny_attempt (wpAny_callSpecial?_slot (name := Str.ofString "__next__") hT F.slot_zip_next
    (wpAny_call_entry F.slot_zip_next hT F.entry_zip_next
      (zipS_item D hz hTI hTO h1 h2 hl1 hl2 hx hy fun h' a1 a2 a3 a4 a5 a6 a7 => wpAny_pure (hQ h' a1 a2 a3 a4 a5 a6 a7)) (F.args_zip_next_1 _))))
theorem pyNext_zipS_item_held {z TI TO T i1 i2 l1 l2 : Addr} {f : Bool} {oT : Obj} {k1 k2 : Nat} {xs ys : Array Value} {x y : Value} {Q : Option Value → Shared → Prop} (D : ZipApart z TI TO i1 i2 l1 l2)
    (hz : IsZipSH s.heap z TI TO T f) (hT : s.heap.get? T = some oT) (hTI : IsPair s.heap TI (.ref i1) (.ref i2))
    (h1 : s.heap.IsTupleIter i1 l1 k1) (h2 : s.heap.IsTupleIter i2 l2 k2) (hl1 : s.heap.IsTuple l1 xs) (hl2 : s.heap.IsTuple l2 ys) (hx : xs[k1]? = some x) (hy : ys[k2]? = some y)
    (hQ : ∀ h', IsZipSH h' z TI TO T true → h'.IsTupleIter i1 l1 (k1 + 1) → h'.IsTupleIter i2 l2 (k2 + 1) → IsPair h' s.heap.objs.size x y → h'.objs.size = s.heap.objs.size + 1 →
      (∀ c o, c ≠ z → c ≠ i1 → c ≠ i2 → s.heap.get? c = some o → h'.get? c = some o) → Q (some (.ref s.heap.objs.size)) { s with heap := h' }) :
    wpAny (model prog w) A (pyNext (.ref z)) Q E s := by
  have hTy : s.TypeIs (.ref z) "zip" := ⟨_, hz, rfl⟩
  unfold pyNext
  exact wpAny_bind (wpAny_attempt (wpAny_callSpecial?_slot (name := Str.ofString "__next__") hTy F.slot_zip_next
    (wpAny_call_entry F.slot_zip_next hTy F.entry_zip_next
      (zipS_item_held D hz hT hTI h1 h2 hl1 hl2 hx hy fun h' a1 a3 a4 a5 a6 a7 => wpAny_pure (hQ h' a1 a3 a4 a5 a6 a7)) (F.args_zip_next_1 _))))
theorem pyNext_zipS_end_held {z TI TO T i1 i2 l1 l2 : Addr} {f : Bool} {oT : Obj} {k1 k2 : Nat} {xs ys : Array Value} {Q : Option Value → Shared → Prop} (hh : A.handled = none) (D : ZipApart z TI TO i1 i2 l1 l2)
    (hz : IsZipSH s.heap z TI TO T f) (hT : s.heap.get? T = some oT) (hTI : IsPair s.heap TI (.ref i1) (.ref i2))
    (h1 : s.heap.IsTupleIter i1 l1 k1) (h2 : s.heap.IsTupleIter i2 l2 k2) (hl1 : s.heap.IsTuple l1 xs) (hl2 : s.heap.IsTuple l2 ys) (hx : xs[k1]? = none) (hy : ys[k2]? = none)
    (hQ : ∀ h', (∀ c o, c ≠ z → c ≠ i1 → c ≠ i2 → s.heap.get? c = some o → h'.get? c = some o) → Q none { s with heap := h' }) : wpAny (model prog w) A (pyNext (.ref z)) Q E s := by
  have hTy : s.TypeIs (.ref z) "zip" := ⟨_, hz, rfl⟩
  unfold pyNext
  refine wpAny_bind (wpAny_attempt (wpAny_callSpecial?_slot (name := Str.ofString "__next__") hTy F.slot_zip_next
    (wpAny_call_entry F.slot_zip_next hTy F.entry_zip_next (zipS_end_held hh D hz hT hTI h1 h2 hl1 hl2 hx hy fun h' e hk he => ?_) (F.args_zip_next_1 _))))
  obtain ⟨o, ho, hc⟩ := he
  refine wpAny_bind (wpAny_isInstance (T := "StopIteration") (b := true) ⟨o, ho, hc⟩ isSubtype_stop ?_)
  exact wpAny_pure (hQ _ hk)
end
/-! ### zip(l1, l2, strict=True) -/
theorem typeCall_zipS (a b c : Value) : checkTypeCall "zip" ⟨[a, b], [(Str.ofString "strict", c)]⟩ = pure () := by kernel_rfl
theorem newCall_zipS (a b c : Value) : checkBuiltinCall "zip.__new__" ⟨[.type "zip", a, b], [(Str.ofString "strict", c)]⟩ = pure () := by kernel_rfl
theorem initArgs_zipS (obj a b c : Value) : argsOk "object.__init__" ⟨[obj, a, b], [(Str.ofString "strict", c)]⟩ := by unfold argsOk; kernel_rfl
abbrev zS1 (h : Heap) (l1 : Addr) : Heap := h.push { cls := .type "tuple_iterator", data := .fields #[.ref l1, .int 0 0] }
abbrev zS2 (h : Heap) (l1 l2 : Addr) : Heap := (zS1 h l1).push { cls := .type "tuple_iterator", data := .fields #[.ref l2, .int 0 0] }
abbrev zS3 (h : Heap) (l1 l2 : Addr) : Heap := (zS2 h l1 l2).push { cls := .type "tuple", data := .seq #[.ref h.objs.size, .ref (zS1 h l1).objs.size] }
abbrev zS4 (h : Heap) (l1 l2 : Addr) : Heap := (zS3 h l1 l2).push { cls := .type "tuple", data := .seq #[.none, .none] }
abbrev zS5 (h : Heap) (l1 l2 : Addr) : Heap := (zS4 h l1 l2).push { cls := .type "zip", data := .fields #[.none, .bool false, .bool true, .ref (zS2 h l1 l2).objs.size, .ref (zS3 h l1 l2).objs.size] }
theorem meets_zipS_new (l1 l2 : Addr) (xs ys : Array Value) :
    Meets (Builtin.«zip.__new__» ⟨[.type "zip", .ref l1, .ref l2], [(Str.ofString "strict", .bool true)]⟩) (fun _ R s => s.heap.IsTuple l1 xs ∧ s.heap.IsTuple l2 ys ∧
      R (.ok (.ret (.ref (zS4 s.heap l1 l2).objs.size))) { s with heap := zS5 s.heap l1 l2 }) :=
  .of_wp fun prog w A R s h => by
    obtain ⟨hp, g, d, tk, os⟩ := s; obtain ⟨hl1, hl2, h⟩ := h
    have hsub := sub_zip
    have hL1 : Heap.IsTuple (Shared.heap ⟨hp, g, d, tk, os⟩) l1 xs := hl1
    have hL2 : Heap.IsTuple (Shared.heap ⟨hp.push { cls := .type "tuple_iterator", data := .fields #[.ref l1, .int 0 0] }, g, d, tk, os⟩) l2 ys := Heap.IsTuple.push hl2 _
    have e1 : (Str.ofString "strict" == ("strict" : Str)) = true := by decide +kernel
    have e2 : (Str.ofString "strict" != ("strict" : Str)) = false := by decide +kernel
    wp_walk using wpAny_pyIter_tuple hL1, wpAny_pyIter_tuple hL2
    exact ⟨_, rfl, h⟩
section
variable {prog : Program} {w : World} {A : Around} {E : Value → Shared → Prop} {s : Shared}
theorem call_zipS {l1 l2 : Addr} {xs ys : Array Value} {Q : Value → Shared → Prop} (hl1 : s.heap.IsTuple l1 xs) (hl2 : s.heap.IsTuple l2 ys)
    (h : ∀ h', IsZipS h' (s.heap.objs.size + 4) (s.heap.objs.size + 2) (s.heap.objs.size + 3) .none → IsPair h' (s.heap.objs.size + 2) (.ref s.heap.objs.size) (.ref (s.heap.objs.size + 1)) →
      IsPair h' (s.heap.objs.size + 3) .none .none → h'.IsTupleIter s.heap.objs.size l1 0 → h'.IsTupleIter (s.heap.objs.size + 1) l2 0 → h'.objs.size = s.heap.objs.size + 5 →
      (∀ c o, s.heap.get? c = some o → h'.get? c = some o) → Q (.ref (s.heap.objs.size + 4)) { s with heap := h' }) :
    wpAny (model prog w) A (call (.type "zip") [.ref l1, .ref l2] [(Str.ofString "strict", .bool true)]) Q E s := by
  refine callType_newKw F.called_zip (by decide) (typeCall_zipS _ _ _) (newCall_zipS _ _ _) (fun obj => initArgs_zipS obj _ _ _) F.entry_zip_new
    (meets_zipS_new l1 l2 xs ys) ⟨hl1, hl2, ?_⟩
  have z1 : (zS1 s.heap l1).objs.size = s.heap.objs.size + 1 := Heap.size_push ..
  have z2 : (zS2 s.heap l1 l2).objs.size = s.heap.objs.size + 2 := by rw [Heap.size_push, z1]
  have z3 : (zS3 s.heap l1 l2).objs.size = s.heap.objs.size + 3 := by rw [Heap.size_push, z2]
  have z4 : (zS4 s.heap l1 l2).objs.size = s.heap.objs.size + 4 := by rw [Heap.size_push, z3]
  have z5 : (zS5 s.heap l1 l2).objs.size = s.heap.objs.size + 5 := by rw [Heap.size_push, z4]
  have g5 : (zS5 s.heap l1 l2).get? (zS4 s.heap l1 l2).objs.size = some _ := Heap.get?_push_size _ rfl
  have g4 : (zS5 s.heap l1 l2).get? (zS3 s.heap l1 l2).objs.size = some _ := Heap.get?_push_of_some _ (Heap.get?_push_size _ rfl)
  have g3 : (zS5 s.heap l1 l2).get? (zS2 s.heap l1 l2).objs.size = some _ := Heap.get?_push_of_some _ (Heap.get?_push_of_some _ (Heap.get?_push_size _ rfl))
  have g2 : (zS5 s.heap l1 l2).get? (zS1 s.heap l1).objs.size = some _ := Heap.get?_push_of_some _ (Heap.get?_push_of_some _ (Heap.get?_push_of_some _ (Heap.get?_push_size _ rfl)))
  have g1 : (zS5 s.heap l1 l2).get? s.heap.objs.size = some _ := Heap.get?_push_of_some _ (Heap.get?_push_of_some _ (Heap.get?_push_of_some _ (Heap.get?_push_of_some _ (Heap.get?_push_size _ rfl))))
  show _ ∧ _
  rw [z2, z3, z4] at g5
  rw [z1, z2] at g3
  rw [z3] at g4
  rw [z1] at g2
  rw [z4]
  exact ⟨⟨_, g5, rfl⟩, h _ g5 g3 g4 ⟨_, g1, rfl, rfl⟩ ⟨_, g2, rfl, rfl⟩ z5 fun c o x =>
    Heap.get?_push_of_some _ (Heap.get?_push_of_some _ (Heap.get?_push_of_some _ (Heap.get?_push_of_some _ (Heap.get?_push_of_some _ x))))⟩
end
/-! ### a list filled by an iterator of new pairs -/
structure PS (prog : Program) (w : World) (A : Around) (I S : Addr) (wr : List Addr) (n : Nat) (Rel : Nat → Value → Value → Prop) (St : Nat → Heap → Prop) : Prop where
  off : S ∉ wr
  frame : ∀ i h h', St i h → (∀ b o, b ≠ S → h.get? b = some o → h'.get? b = some o) → St i h'
  item : ∀ i (s : Shared) (Q : Option Value → Shared → Prop) (E : Value → Shared → Prop), i < n → St i s.heap → S < s.heap.objs.size →
    (∀ k v h' tk, Rel i k v → h'.get? s.heap.objs.size = some { cls := .type "tuple", data := .seq #[k, v] } → St (i + 1) h' → (∀ b o, b ∉ wr → s.heap.get? b = some o → h'.get? b = some o) → Q (some (.ref s.heap.objs.size)) { s with heap := h', toks := tk }) → wpAny (model prog w) A (pyNext (.ref I)) Q E s
  done : ∀ (s : Shared) (Q : Option Value → Shared → Prop) (E : Value → Shared → Prop), St n s.heap →
    (∀ h' tk, (∀ b o, b ∉ wr → s.heap.get? b = some o → h'.get? b = some o) → Q none { s with heap := h', toks := tk }) → wpAny (model prog w) A (pyNext (.ref I)) Q E s
structure PG (Rel : Nat → Value → Value → Prop) (lo : Addr) (h : Heap) (as : List Addr) : Prop where
  rise : as.Pairwise (· < ·)
  above : ∀ a ∈ as, lo ≤ a
  pairs : ∀ (j : Nat) (a : Addr), as[j]? = some a → ∃ k v, Rel j k v ∧ h.get? a = some { cls := .type "tuple", data := .seq #[k, v] }
theorem PG.there {Rel : Nat → Value → Value → Prop} {lo : Addr} {h : Heap} {as : List Addr} (g : PG Rel lo h as) {a : Addr} (ha : a ∈ as) : a < h.objs.size := by
  obtain ⟨j, hj⟩ := List.mem_iff_getElem?.mp ha
  obtain ⟨_, _, _, e⟩ := g.pairs j a hj
  exact Heap.lt_size e
section
variable {prog : Program} {w : World} {A : Around} {s : Shared} {R : Result → Shared → Prop} {I S : Addr} {wr : List Addr} {n : Nat} {Rel : Nat → Value → Value → Prop} {St : Nat → Heap → Prop} {lo : Addr}
theorem psl_loop (Src : PS prog w A.in1 I S wr n Rel St) (hn : n ≤ sizeLine) (hSlo : S < lo) (hw : ∀ b ∈ wr, b < lo) (res : Value) {h₁ : Heap}
    (hR : ∀ h' tk acc c as, (∀ b o, b ≠ S → b ∉ wr → h₁.get? b = some o → h'.get? b = some o) → h'.get? S = some { cls := .type "list", dict := none, data := .seq acc c, slots := #[] } → as.length = n → PG Rel lo h' as →
      acc.toList = as.map Value.ref → R (.ok (.ret res)) { s with heap := h', toks := tk }) :
    ∀ (k i : Nat) (h : Heap) (tk c : Nat) (acc : Array Value) (as : List Addr), n - i = k → i ≤ n → St i h → (∀ b o, b ≠ S → b ∉ wr → h₁.get? b = some o → h.get? b = some o) →
      h.get? S = some { cls := .type "list", dict := none, data := .seq acc c, slots := #[] } → acc.toList = as.map Value.ref → as.length = i → PG Rel lo h as → lo ≤ h.objs.size →
      codeAny (model prog w) A (.builtin "list.extend.loop" ⟨[.ref S, .ref I, res], []⟩) R { s with heap := h, toks := tk } := by
  intro k
  induction k with
  | zero =>
    intro i h tk c acc as hk hi hst hkeep hS hacc hal hG hlo
    have hin : i = n := by omega
    subst hin
    refine codeAny_builtin PySem.F.entry_extend_loop ?_
    rw [Around.under_plainId PySem.F.plain_extend_loop _]
    show wpAny _ A.in1 (pyNext (.ref I) >>= _) _ _ _
    refine wpAny_bind (Src.done { s with heap := h, toks := tk } _ _ hst fun h' tk' he => ?_)
    refine wpAny_pure (hR h' tk' acc c as (fun b o h1 h2 e => he b o h2 (hkeep b o h1 h2 e)) (he S _ Src.off hS) hal ⟨hG.rise, hG.above, fun j a hj => ?_⟩ hacc)
    obtain ⟨k, v, r, e3⟩ := hG.pairs j a hj
    exact ⟨k, v, r, he a _ (fun z => absurd (hw a z) (Nat.not_lt.mpr (hG.above a (List.mem_of_getElem? hj)))) e3⟩
  | succ k ih =>
    intro i h tk c acc as hk hi hst hkeep hS hacc hal hG hlo
    have hlt : i < n := by omega
    have hsz : acc.size = i := by rw [← Array.length_toList, hacc, List.length_map, hal]
    refine codeAny_builtin PySem.F.entry_extend_loop ?_
    rw [Around.under_plainId PySem.F.plain_extend_loop _]
    show wpAny _ A.in1 (pyNext (.ref I) >>= _) _ _ _
    refine wpAny_bind (Src.item i { s with heap := h, toks := tk } _ _ hlt hst (Heap.lt_size hS) fun key v h' tk' hrel ht hst' hkp => ?_)
    dsimp only at ht hkp ⊢
    have hS' := hkp S _ Src.off hS
    have up : ∀ b o, b ≠ S → h'.get? b = some o → (h'.update S (Obj.mapSeq (·.push (Value.ref h.objs.size)))).get? b = some o := fun b o hb e => (Heap.get?_update_other _ _ (Ne.symm hb)).trans e
    have hSl : S < h.objs.size := Heap.lt_size hS
    show wpAny _ A.in1 (updateSeq S (·.push (Value.ref h.objs.size)) >>= _) _ _ _
    refine wpAny_bind ?_
    have ofw : ∀ b ∈ as, b ≠ S ∧ b ∉ wr := fun b hb => ⟨fun z => absurd (hG.above b hb) (Nat.not_le.mpr (z ▸ hSlo)), fun z => absurd (hw b z) (Nat.not_lt.mpr (hG.above b hb))⟩
    have en : (h'.update S (Obj.mapSeq (·.push (Value.ref h.objs.size)))).get? h.objs.size = some { cls := .type "tuple", data := .seq #[key, v] } := up _ _ (Nat.ne_of_gt hSl) ht
    refine wpAny_updateSeq hS' rfl (wpAny_pure ⟨plainId_quiet PySem.F.plain_extend_loop _, ih (i + 1) _ tk' _ (acc.push (Value.ref h.objs.size)) (as ++ [h.objs.size]) (by omega) hlt (Src.frame _ _ _ hst' up)
      (fun b o h1 h2 e => up b o h1 (hkp b o h2 (hkeep b o h1 h2 e))) (Heap.get?_update_self _ hS' rfl) (by rw [Array.toList_push, hacc, List.map_append]; rfl) (by rw [List.length_append, hal]; rfl) ⟨?_, ?_, ?_⟩ (Nat.le_of_lt (Nat.lt_of_le_of_lt hlo (Heap.lt_size en)))⟩) (by rw [hsz]; omega) (by show (acc.push (Value.ref h.objs.size)).size ≤ sizeLine + 1; rw [Array.size_push, hsz]; omega)
    · refine List.pairwise_append.mpr ⟨hG.rise, List.pairwise_singleton _ _, fun a ha b hb => ?_⟩
      rw [List.mem_singleton.mp hb]
      exact hG.there ha
    · intro a ha
      rcases List.mem_append.mp ha with ha | ha
      · exact hG.above a ha
      · rw [List.mem_singleton.mp ha]; exact hlo
    · intro j b hj
      rcases Nat.lt_trichotomy j as.length with h1 | h1 | h1
      · rw [List.getElem?_append_left h1] at hj
        obtain ⟨k, v, r, e3⟩ := hG.pairs j b hj
        obtain ⟨n1, n2⟩ := ofw b (List.mem_of_getElem? hj)
        exact ⟨k, v, r, up b _ n1 (hkp b _ n2 e3)⟩
      · subst h1
        have hb : h.objs.size = b := by simpa using hj
        subst hb
        exact ⟨key, v, by rw [hal]; exact hrel, en⟩
      · have hnone : (as ++ [h.objs.size])[j]? = none := List.getElem?_eq_none (by rw [List.length_append, List.length_singleton]; omega)
        rw [hnone] at hj; cases hj
end
section
variable {prog : Program} {w : World} {A : Around} {E : Value → Shared → Prop} {s : Shared}
theorem nolen_zip : typeLookup (.type "zip") "__len__" = pure none := by rw [typeLookup_type, builtinLookup_eq_fast]; kernel_rfl
theorem nohint_zip : typeLookup (.type "zip") "__length_hint__" = pure none := by rw [typeLookup_type, builtinLookup_eq_fast]; kernel_rfl
theorem nolen_enum : typeLookup (.type "enumerate") "__len__" = pure none := by rw [typeLookup_type, builtinLookup_eq_fast]; kernel_rfl
theorem nohint_enum : typeLookup (.type "enumerate") "__length_hint__" = pure none := by rw [typeLookup_type, builtinLookup_eq_fast]; kernel_rfl
theorem hint_none {T : String} {v : Value} {Q : Bool → Shared → Prop} (hT : s.TypeIs v T) (h1 : typeLookup (.type T) "__len__" = pure none) (h2 : typeLookup (.type T) "__length_hint__" = pure none) (h : Q true s) : wpAny (model prog w) A (Builtin.List.listLengthHint v) Q E s := by
  unfold Builtin.List.listLengthHint
  refine wpAny_bind (wpAny_specialOf hT h1 ?_)
  refine wpAny_ite_split (fun hab => absurd hab (by decide)) (fun _ => ?_)
  refine wpAny_ite_split (fun hab => absurd hab (by decide)) (fun _ => ?_)
  refine wpAny_bind (wpAny_specialOf hT h2 ?_)
  exact wpAny_pure h
variable {r : Addr} {T : String} {wr : List Addr} {n : Nat} {Rel : Nat → Value → Value → Prop} {St : Nat → Heap → Prop}
/-- what list() needs of such an iterator -/
structure PA' (r : Addr) (T : String) (St : Nat → Heap → Prop) : Prop where
  type : ∀ (h : Heap) , St 0 h → ∃ o, h.get? r = some o ∧ o.cls = .type T
  iter : ∀ (prog : Program) (w : World) (A : Around) (s : Shared) (Q : Value → Shared → Prop) (E : Value → Shared → Prop), St 0 s.heap → Q (.ref r) s → wpAny (model prog w) A (pyIter (.ref r)) Q E s
  len : typeLookup (.type T) "__len__" = pure none
  hint : typeLookup (.type T) "__length_hint__" = pure none
  h2 : (Value.type T == Value.type "list") = false
  h3 : (Value.type T == Value.type "tuple") = false
theorem psl_extend {R : Result → Shared → Prop} (S : Addr) (Src : PS prog w A.in1 r S wr n Rel St) (P : PA' r T St) (hst : St 0 s.heap) (hn : n ≤ sizeLine) (hSr : S ≠ r) (hw : ∀ b ∈ wr, b < s.heap.objs.size) (res : Value) (c₀ : Nat) (hS : s.heap.get? S = some { cls := .type "list", data := .seq #[] c₀ })
    (hR : ∀ h' tk acc c as, (∀ b o, b ≠ S → b ∉ wr → s.heap.get? b = some o → h'.get? b = some o) → h'.get? S = some { cls := .type "list", dict := none, data := .seq acc c, slots := #[] } → as.length = n → PG Rel s.heap.objs.size h' as →
      acc.toList = as.map Value.ref → R (.ok (.ret res)) { s with heap := h', toks := tk }) :
    wpAny (model prog w) A.in1 (Builtin.List.listExtendWith (.ref S) (.ref r) res)
      (fun fin s' => match fin with | .done f => R (.ok f) s' | .again c' => c'.quiet = true ∧ codeAny (model prog w) A c' R s') (fun e s' => R (.error e) s') s := by
  have hTy : s.TypeIs (.ref r) T := P.type _ hst
  unfold Builtin.List.listExtendWith
  refine wpAny_bind (wpAny_typeOf hTy ?_)
  have h1 : Builtin.List.listSameRef (.ref S) (.ref r) = false := by simp [Builtin.List.listSameRef, hSr]
  simp only [h1, P.h2, P.h3, Bool.or_false, Bool.false_eq_true, if_false]
  refine wpAny_bind (P.iter prog w _ s _ _ hst ?_)
  refine wpAny_bind (wpAny_holding (hint_none hTy P.len P.hint ?_))
  refine wpAny_ite_split (fun _ => ?_) (fun hab => absurd (by rfl) hab)
  refine wpAny_bind (wpAny_rule ?_)
  refine wpAny_bind ?_
  show wpAny _ _ (updateSeq S (·.push .none) >>= fun _ => updateSeq S (·.pop)) _ _ _
  refine wpAny_bind (wpAny_updateSeq hS rfl ?_)
  have hS₂ := Heap.get?_update_self (Obj.mapSeq (·.push Value.none)) hS rfl
  refine wpAny_updateSeq (hz := by seq_fits) hS₂ rfl ?_
  have hS₃ := Heap.get?_update_self (Obj.mapSeq (·.pop)) hS₂ rfl
  have oth : ∀ b o, b ≠ S → s.heap.get? b = some o → ((s.heap.update S (Obj.mapSeq (·.push Value.none))).update S (Obj.mapSeq (·.pop))).get? b = some o := fun b o hb e => (Heap.get?_update_other _ _ (Ne.symm hb)).trans ((Heap.get?_update_other _ _ (Ne.symm hb)).trans e)
  refine wpAny_pure ⟨plainId_quiet PySem.F.plain_extend_loop _, ?_⟩
  exact psl_loop (s := s) (h₁ := s.heap) Src hn (Heap.lt_size hS) hw res hR n 0 _ s.toks _ #[] [] (Nat.sub_zero _) (Nat.zero_le _) (Src.frame _ _ _ hst oth) (fun b o h1 _ e => oth b o h1 e) hS₃ rfl rfl
    ⟨List.Pairwise.nil, (fun _ ha => nomatch ha), (fun j a hj => by simp at hj)⟩ (by rw [Heap.size_update, Heap.size_update]; exact Nat.le_refl _)
theorem psl_call {Q : Value → Shared → Prop} (Src : PS prog w A.in1.in1 r s.heap.objs.size wr n Rel St) (P : PA' r T St) (hst : St 0 s.heap) (hn : n ≤ sizeLine) (hw : ∀ b ∈ wr, b < s.heap.objs.size)
    (hQ : ∀ h' tk acc c as, (∀ b o, b ∉ wr → s.heap.get? b = some o → h'.get? b = some o) → h'.get? s.heap.objs.size = some { cls := .type "list", dict := none, data := .seq acc c, slots := #[] } → as.length = n → PG Rel (s.heap.objs.size + 1) h' as →
      acc.toList = as.map Value.ref → Q (.ref s.heap.objs.size) { s with heap := h', toks := tk }) :
    wpAny (model prog w) A (call (.type "list") [.ref r]) Q E s := by
  refine callType_codes (Q₁ := fun obj s₁ => obj = .ref s.heap.objs.size ∧ s₁ = { s with heap := s.heap.push { cls := .type "list", data := .seq #[] } }) PySem.F.called_list (PySem.F.typeCall_list_1 _) PySem.F.entry_list_init
    (code_list_new _ ⟨rfl, rfl⟩) fun obj s₁ h₁ => ?_
  obtain ⟨rfl, rfl⟩ := h₁
  have hS : (s.heap.push { cls := .type "list", data := .seq #[] }).get? s.heap.objs.size = some { cls := .type "list", data := .seq #[] } := Heap.get?_push_size _ rfl
  obtain ⟨oo, hro, _⟩ := P.type _ hst
  have hr : r < s.heap.objs.size := Heap.lt_size hro
  have hst1 : St 0 (s.heap.push { cls := .type "list", data := .seq #[] }) := Src.frame _ _ _ hst fun b o _ e => Heap.get?_push_of_some _ e
  refine ⟨⟨_, hS, rfl⟩, PySem.F.args_list_init_2 _ _, ?_⟩
  show wpAny _ _ (do let old ← Builtin.List.listItems (.ref s.heap.objs.size); Builtin.List.listUpdate (.ref s.heap.objs.size) (fun _ => #[]); letGo old.toList.reverse; Builtin.List.listExtendWith (.ref s.heap.objs.size) (.ref r) .none) _ _ _
  refine wpAny_bind ?_
  unfold Builtin.List.listItems
  refine wpAny_bind (wpAny_seqItems hS rfl (wpAny_pure ?_))
  show wpAny _ _ (updateSeq s.heap.objs.size (fun _ => #[]) >>= fun _ => letGo (#[] : Array Value).toList.reverse >>= fun _ => Builtin.List.listExtendWith (.ref s.heap.objs.size) (.ref r) .none) _ _ _
  refine wpAny_bind (wpAny_updateSeq hS rfl ?_)
  have hS₂ := Heap.get?_update_self (Obj.mapSeq (fun _ => (#[] : Array Value))) hS rfl
  have oth : ∀ b o, b ≠ s.heap.objs.size → (s.heap.push { cls := .type "list", data := .seq #[] }).get? b = some o → ((s.heap.push { cls := .type "list", data := .seq #[] }).update s.heap.objs.size (Obj.mapSeq (fun _ => (#[] : Array Value)))).get? b = some o :=
    fun b o hb e => (Heap.get?_update_other _ _ (Ne.symm hb)).trans e
  refine wpAny_bind (wpAny_letGo ?_)
  have sz : ((s.heap.push { cls := .type "list", data := .seq #[] }).update s.heap.objs.size (Obj.mapSeq (fun _ => (#[] : Array Value)))).objs.size = s.heap.objs.size + 1 := by rw [Heap.size_update, Heap.size_push]
  refine psl_extend (A := A.in1) s.heap.objs.size Src P (Src.frame _ _ _ hst1 oth) hn (Nat.ne_of_gt hr) (fun b hb => by show b < _; rw [sz]; exact Nat.lt_succ_of_lt (hw b hb)) .none _ hS₂ fun h' tk acc c as hk hS' hl hG hacc => ?_
  refine ⟨rfl, hQ h' tk acc c as (fun b o hb e => hk b o (Nat.ne_of_lt (Heap.lt_size e)) hb (oth b o (Nat.ne_of_lt (Heap.lt_size e)) (Heap.get?_push_of_some _ e))) hS' hl ?_ hacc⟩
  rw [← sz]
  exact hG
end
end Hl
end

section
set_option Elab.async false
set_option linter.all false
set_option maxRecDepth 100000
set_option maxHeartbeats 4000000
/-! The two sources of pairs, laid into H; enumerate of a tuple and of a text as loops. -/
namespace Hl
open PySem PySem.Spec PyProof.Rows L2
section
variable {prog : Program} {w : World} {A : Around}
def StEnum (e it l S : Addr) (items : Array Value) (i : Nat) (h : Heap) : Prop :=
  h.IsListIter it l i ∧ h.IsList l items ∧ ((∃ old, i = 0 ∧ IsEnum h e it ((i : Nat) : Int) old) ∨ ∃ old T f oT, IsEnumHeld h e it ((i : Nat) : Int) old T f ∧ h.get? T = some oT ∧ T ≠ e ∧ T ≠ it ∧ T ≠ S)
theorem ps_enum (hA : A.handled = none) {e it l S : Addr} (hei : e ≠ it) (hle : l ≠ e) (hli : l ≠ it) (de : S ≠ e) (di : S ≠ it) (dl : S ≠ l) (items : Array Value) (hn : 0 < items.size) :
    PS prog w A e S [e, it] items.size (fun i k v => (∃ t, k = .int i t) ∧ items[i]? = some v) (StEnum e it l S items) where
  off := fun hm => by
    simp only [List.mem_cons, List.not_mem_nil, or_false] at hm
    rcases hm with x | x
    · exact de x
    · exact di x
  frame := fun i h₁ h₂ st hk => by
    obtain ⟨hit, hl, he⟩ := st
    refine ⟨hit.at fun o x => hk _ o (Ne.symm di) x, hl.at fun o x => hk _ o (Ne.symm dl) x, ?_⟩
    rcases he with ⟨old, z, he⟩ | ⟨old, T, f, oT, he, hT, r1, r2, r3⟩
    · exact .inl ⟨old, z, hk _ _ (Ne.symm de) he⟩
    · exact .inr ⟨old, T, f, oT, hk _ _ (Ne.symm de) he, hk _ _ r3 hT, r1, r2, r3⟩
  item := fun i s₁ Q₁ E₁ hi st hds hQ => by
    obtain ⟨hit, hl, he⟩ := st
    have ex := Array.getElem?_eq_getElem hi
    have ec : ((i + 1 : Nat) : Int) = (i : Int) + 1 := by omega
    have nit : s₁.heap.objs.size ≠ it := let ⟨_, x, _⟩ := hit; Nat.ne_of_gt (Heap.lt_size x)
    rcases he with ⟨old, _, he⟩ | ⟨old, T, f, oT, he, hT, r1, r2, r3⟩
    · refine wpAny_pyNext_enum_item he hit hl ex hei fun h' ho hit' hT hsz hk => ?_
      exact hQ _ _ h' (s₁.toks + 1) ⟨⟨_, rfl⟩, ex⟩ hT
        ⟨hit', hl.at fun o x => hk l o hle hli x, .inr ⟨_, s₁.heap.objs.size, false, _, (by rw [ec]; exact ho), hT, Nat.ne_of_gt (Heap.lt_size he), nit, Nat.ne_of_gt hds⟩⟩
        fun b o hb x => hk b o (fun y => hb (by simp [y])) (fun y => hb (by simp [y])) x
    · refine wpAny_pyNext_enum_item_held he hT r1 r2 hit hl ex hei fun h' ho hit' hT' hsz hk => ?_
      exact hQ _ _ h' (s₁.toks + 1) ⟨⟨_, rfl⟩, ex⟩ hT'
        ⟨hit', hl.at fun o x => hk l o hle hli x, .inr ⟨old, T, true, oT, (by rw [ec]; exact ho), hk _ _ r1 r2 hT, r1, r2, r3⟩⟩
        fun b o hb x => hk b o (fun y => hb (by simp [y])) (fun y => hb (by simp [y])) x
  done := fun s₁ Q₁ E₁ st hQ => by
    obtain ⟨hit, hl, he⟩ := st
    have hx : items[items.size]? = none := Array.getElem?_eq_none (Nat.le_refl _)
    rcases he with ⟨old, z, he⟩ | ⟨old, T, f, oT, he, hT, r1, r2, r3⟩
    · omega
    · exact wpAny_pyNext_enum_end_held hA he hit hl hx fun h' hk => hQ h' s₁.toks fun b o hb x => hk b o (fun y => hb (by simp [y])) x
theorem pa_enum (e it l S : Addr) (items : Array Value) : PA' e "enumerate" (StEnum e it l S items) where
  type := fun h st => by
    obtain ⟨_, _, ⟨old, _, he⟩ | ⟨old, T, f, oT, he, _⟩⟩ := st
    · exact ⟨_, he, rfl⟩
    · exact ⟨_, he, rfl⟩
  iter := fun prog w A s Q E st h => by
    obtain ⟨_, _, ⟨old, _, he⟩ | ⟨old, T, f, oT, he, _⟩⟩ := st
    · exact wpAny_pyIter_enum he h
    · exact wpAny_pyIter_slot ⟨_, he, rfl⟩ F.slot_enumerate_iter (wpAny_call_entry F.slot_enumerate_iter ⟨_, he, rfl⟩ F.entry_enumerate_iter (by show wpAny _ _ (ret (.ref e)) _ _ s; exact wpAny_pure ⟨_, rfl, "enumerate", _, ⟨_, he, rfl⟩, F.slot_enumerate_next.lookup, h⟩) (F.args_enumerate_iter_1 _))
  len := nolen_enum
  hint := nohint_enum
  h2 := by decide
  h3 := by decide
def StZip (z TI TO i1 i2 l1 l2 S : Addr) (xs ys : Array Value) (i : Nat) (h : Heap) : Prop :=
  h.IsTupleIter i1 l1 i ∧ h.IsTupleIter i2 l2 i ∧ h.IsTuple l1 xs ∧ h.IsTuple l2 ys ∧ IsPair h TI (.ref i1) (.ref i2) ∧ ((i = 0 ∧ IsZipS h z TI TO .none ∧ ∃ a b, IsPair h TO a b) ∨ ∃ T f oT, IsZipSH h z TI TO T f ∧ h.get? T = some oT ∧ T ≠ z ∧ T ≠ i1 ∧ T ≠ i2 ∧ T ≠ S)
theorem ps_zip (hA : A.handled = none) {z TI TO i1 i2 l1 l2 S : Addr} (D : ZipApart z TI TO i1 i2 l1 l2) (hS : ∀ b ∈ [z, TI, TO, i1, i2, l1, l2], S ≠ b) (hlTO : l1 ≠ TO) {xs ys : Array Value} (hn : 0 < xs.size) (he : xs.size = ys.size) :
    PS prog w A z S [z, TO, i1, i2] xs.size (fun i k v => xs[i]? = some k ∧ ys[i]? = some v) (StZip z TI TO i1 i2 l1 l2 S xs ys) where
  off := fun hm => by
    simp only [List.mem_cons, List.not_mem_nil, or_false] at hm
    rcases hm with x | x | x | x
    · exact hS z (by simp) x
    · exact hS TO (by simp) x
    · exact hS i1 (by simp) x
    · exact hS i2 (by simp) x
  frame := fun i h₁ h₂ st hk => by
    obtain ⟨a1, a2, a3, a4, a5, he⟩ := st
    refine ⟨a1.at fun o x => hk _ o (Ne.symm (hS i1 (by simp))) x, a2.at fun o x => hk _ o (Ne.symm (hS i2 (by simp))) x, a3.at fun o x => hk _ o (Ne.symm (hS l1 (by simp))) x, a4.at fun o x => hk _ o (Ne.symm (hS l2 (by simp))) x, hk _ _ (Ne.symm (hS TI (by simp))) a5, ?_⟩
    rcases he with ⟨q, he, a, b, ht⟩ | ⟨T, f, oT, he, hT, r1, r2, r3, r4⟩
    · exact .inl ⟨q, hk _ _ (Ne.symm (hS z (by simp))) he, a, b, hk _ _ (Ne.symm (hS TO (by simp))) ht⟩
    · exact .inr ⟨T, f, oT, hk _ _ (Ne.symm (hS z (by simp))) he, hk _ _ r4 hT, r1, r2, r3, r4⟩
  item := fun i s₁ Q₁ E₁ hi st hds hQ => by
    obtain ⟨a1, a2, a3, a4, a5, st⟩ := st
    have ex := Array.getElem?_eq_getElem hi
    have ey := Array.getElem?_eq_getElem (show i < ys.size by omega)
    have n1 : s₁.heap.objs.size ≠ i1 := let ⟨_, x, _⟩ := a1; Nat.ne_of_gt (Heap.lt_size x)
    have n2 : s₁.heap.objs.size ≠ i2 := let ⟨_, x, _⟩ := a2; Nat.ne_of_gt (Heap.lt_size x)
    rcases st with ⟨_, hz, a, b, ht⟩ | ⟨T, f, oT, hz, hT, r1, r2, r3, r4⟩
    · refine pyNext_zipS_item D hz a5 ht a1 a2 a3 a4 ex ey fun h' z' t' b1 b2 hT hsz hk => ?_
      exact hQ _ _ h' s₁.toks ⟨ex, ey⟩ hT
        ⟨b1, b2, a3.at fun o x => hk l1 o D.l1z hlTO D.l1i1 D.l1i2 x, a4.at fun o x => hk l2 o D.l2z D.l2TO D.l2i1 D.l2i2 x, hk _ _ D.TIz D.TITO D.TIi1 D.TIi2 a5, .inr ⟨s₁.heap.objs.size, false, _, z', hT, Nat.ne_of_gt (Heap.lt_size hz), n1, n2, Nat.ne_of_gt hds⟩⟩
        fun b o hb x => hk b o (fun y => hb (by simp [y])) (fun y => hb (by simp [y])) (fun y => hb (by simp [y])) (fun y => hb (by simp [y])) x
    · refine pyNext_zipS_item_held D hz hT a5 a1 a2 a3 a4 ex ey fun h' z' b1 b2 hT' hsz hk => ?_
      exact hQ _ _ h' s₁.toks ⟨ex, ey⟩ hT'
        ⟨b1, b2, a3.at fun o x => hk l1 o D.l1z D.l1i1 D.l1i2 x, a4.at fun o x => hk l2 o D.l2z D.l2i1 D.l2i2 x, hk _ _ D.TIz D.TIi1 D.TIi2 a5, .inr ⟨T, true, oT, z', hk _ _ r1 r2 r3 hT, r1, r2, r3, r4⟩⟩
        fun b o hb x => hk b o (fun y => hb (by simp [y])) (fun y => hb (by simp [y])) (fun y => hb (by simp [y])) x
  done := fun s₁ Q₁ E₁ st hQ => by
    obtain ⟨a1, a2, a3, a4, a5, st⟩ := st
    have hx : xs[xs.size]? = none := Array.getElem?_eq_none (Nat.le_refl _)
    have hy : ys[xs.size]? = none := Array.getElem?_eq_none (by omega)
    rcases st with ⟨q, _⟩ | ⟨T, f, oT, hz, hT, r1, r2, r3, r4⟩
    · omega
    · exact pyNext_zipS_end_held hA D hz hT a5 a1 a2 a3 a4 hx hy fun h' hk => hQ h' s₁.toks fun b o hb x => hk b o (fun y => hb (by simp [y])) (fun y => hb (by simp [y])) (fun y => hb (by simp [y])) x
theorem iterZipS {prog : Program} {w : World} {A : Around} {s : Shared} {E : Value → Shared → Prop} {Q : Value → Shared → Prop} {z : Addr} (hT : s.TypeIs (.ref z) "zip") (h : Q (.ref z) s) : wpAny (model prog w) A (pyIter (.ref z)) Q E s :=
  wpAny_pyIter_slot hT F.slot_zip_iter (wpAny_call_entry F.slot_zip_iter hT F.entry_zip_iter (by show wpAny _ _ (ret (.ref z)) _ _ s; exact wpAny_pure ⟨_, rfl, "zip", _, hT, F.slot_zip_next.lookup, h⟩) (F.args_zip_iter_1 _))
theorem pa_zip (z TI TO i1 i2 l1 l2 S : Addr) (xs ys : Array Value) : PA' z "zip" (StZip z TI TO i1 i2 l1 l2 S xs ys) where
  type := fun h st => by
    obtain ⟨_, _, _, _, _, ⟨_, he, _⟩ | ⟨T, f, oT, he, _⟩⟩ := st
    · exact ⟨_, he, rfl⟩
    · exact ⟨_, he, rfl⟩
  iter := fun prog w A s Q E st h => by
    obtain ⟨_, _, _, _, _, ⟨_, he, _⟩ | ⟨T, f, oT, he, _⟩⟩ := st
    · exact iterZipS ⟨_, he, rfl⟩ h
    · exact iterZipS ⟨_, he, rfl⟩ h
  len := nolen_zip
  hint := nohint_zip
  h2 := by decide
  h3 := by decide
end
end Hl
end

section
set_option Elab.async false
set_option linter.all false
set_option maxRecDepth 100000
set_option maxHeartbeats 4000000
/-! list(enumerate(xs)), list(zip(xs, ys, strict=True)) as expressions; enumerate of a tuple, of a text as loops. -/
namespace Hl
open PySem PySem.Spec PyProof.Rows L2
def putP : Hp → List Addr → List (V × V) → Hp
  | H, a :: as, p :: ps => putP (upd H a (.tup [p.1, p.2])) as ps
  | H, _, _ => H
theorem putP_off {b : Addr} : ∀ (as : List Addr) (ps : List (V × V)) (H : Hp), b ∉ as → putP H as ps b = H b
  | [], _, _, _ => rfl
  | _ :: _, [], _, _ => rfl
  | a :: as, p :: ps, H, h => by
    show putP (upd H a (.tup [p.1, p.2])) as ps b = H b
    rw [putP_off as ps _ (fun z => h (List.mem_cons_of_mem _ z)), upd_ne (fun z => h (by rw [z]; exact List.mem_cons_self))]
theorem putP_at : ∀ (as : List Addr) (ps : List (V × V)) (H : Hp), as.length = ps.length → as.Nodup → Paired (fun (t : Addr) (p : V × V) => putP H as ps t = some (.tup [p.1, p.2])) as ps
  | [], [], _, _, _ => .nil
  | [], _ :: _, _, h, _ => by cases h
  | _ :: _, [], _, h, _ => by cases h
  | a :: as, p :: ps, H, h, hn => by
    have hn' := List.nodup_cons.mp hn
    have ih := putP_at as ps (upd H a (.tup [p.1, p.2])) (Nat.succ.inj h) hn'.2
    refine .cons ?_ ih
    show putP (upd H a (.tup [p.1, p.2])) as ps a = some (.tup [p.1, p.2])
    rw [putP_off as ps _ hn'.1, upd_same]
/-- a new list of new tuples -/
def NewPairs (H : Hp) (ps : List (V × V)) (Q : V → Hp → Prop) : Prop :=
  ∀ (H' : Hp) (p : Addr) (ts : List Addr), (∀ b o, H b = some o → H' b = some o) → H p = none → H' p = some (.lst (ts.map V.ref)) → p ∉ ts → Paired (fun (t : Addr) (q : V × V) => H' t = some (.tup [q.1, q.2])) ts ps → Q (.ref p) H'
section
variable {X : Cx}
theorem pairs_laid {pins : List (Addr × Obj)} {σ : L2.St} {H : Hp} {s : Shared} {h' : Heap} {tk : Nat} {ps : List (V × V)} {Rel : Nat → Value → Value → Prop} {acc : Array Value} {c : Nat} {as : List Addr} {S lo : Addr} (I : Inv X pins σ H s) (hS0 : s.heap.objs.size ≤ S) (hlo : s.heap.objs.size ≤ lo) (hSn : S ∉ as) (hz : ps.length ≤ sizeLine)
    (hk : ∀ b o, s.heap.get? b = some o → h'.get? b = some o) (hS : h'.get? S = some { cls := .type "list", dict := none, data := .seq acc c, slots := #[] }) (hl : as.length = ps.length) (hG : PG Rel lo h' as) (hrel : ∀ j k v, Rel j k v → ∃ p, ps[j]? = some p ∧ RelV p.1 k ∧ RelV p.2 v) (hacc : acc.toList = as.map Value.ref) :
    ∃ H' : Hp, (∀ b o, H b = some o → H' b = some o) ∧ H S = none ∧ H' S = some (.lst (as.map V.ref)) ∧ S ∉ as ∧ Paired (fun (t : Addr) (q : V × V) => H' t = some (.tup [q.1, q.2])) as ps ∧ Inv X pins σ H' { s with heap := h', toks := tk } := by
  have nd : as.Nodup := List.Pairwise.imp (fun {a b} (h : a < b) => Nat.ne_of_lt h) hG.rise
  have ge : ∀ t ∈ as, s.heap.objs.size ≤ t := fun t ht => Nat.le_trans hlo (hG.above t ht)
  have new : ∀ t ∈ as, H t = none := fun t ht => I.hok.fresh (ge t ht)
  have newS : H S = none := I.hok.fresh hS0
  have atP := putP_at as ps (upd H S (.lst (as.map V.ref))) hl nd
  have off : ∀ b, b ∉ as → b ≠ S → putP (upd H S (.lst (as.map V.ref))) as ps b = H b := fun b h1 h2 => by rw [putP_off as ps _ h1, upd_ne h2]
  have low : ∀ b o, s.heap.get? b = some o → b ∉ as ∧ b ≠ S := fun b o e => ⟨fun z => absurd (Heap.lt_size e) (Nat.not_lt.mpr (ge b z)), Nat.ne_of_lt (Nat.lt_of_lt_of_le (Heap.lt_size e) hS0)⟩
  have kp : ∀ b u, H b = some u → (putP (upd H S (.lst (as.map V.ref))) as ps) b = some u := fun b u e => by
    rw [off b (fun z => by rw [new b z] at e; cases e) (fun z => by rw [z, newS] at e; cases e)]
    exact e
  have eS : putP (upd H S (.lst (as.map V.ref))) as ps S = some (.lst (as.map V.ref)) := by rw [putP_off as ps _ hSn, upd_same]
  refine ⟨putP (upd H S (.lst (as.map V.ref))) as ps, kp, newS, eS, hSn, atP, ?_⟩
  refine I.call' (ch := []) rfl ⟨fun b o q _ _ _ => hk b o q, fun b o q _ _ _ => ⟨o.slots, hk b o q⟩, fun b o q n _ => ?_, fun b o q _ => ⟨o, hk b o q⟩, fun b xs q => kp b _ q, fun b o u q => kp b _ q, fun b ps q => ⟨#[], by rw [kp b _ q]; simp⟩⟩ (fun b u q => ?_) I.bare fun b z => by simp at z
  · obtain ⟨z1, z2⟩ := low b o q
    rw [off b z1 z2]
    exact n
  · by_cases hb : b ∈ as
    · obtain ⟨j, pk, e1, e2, e3⟩ := LiI.paired_ix atP hb
      rw [e3] at q
      cases q
      obtain ⟨key, x, f1, f3⟩ := hG.pairs j b e1
      obtain ⟨qv, g1, g2, g3⟩ := hrel _ _ _ f1
      rw [e2] at g1
      cases g1
      exact ⟨by show 2 ≤ sizeLine; decide, [key, x], .cons g2 (.cons g3 .nil), ⟨_, f3, rfl, _, rfl⟩⟩
    · by_cases hb2 : b = S
      · rw [hb2] at q ⊢
        rw [eS] at q
        cases q
        refine ⟨by rw [List.length_map]; omega, acc.toList, c, by rw [hacc]; exact LiI.vals_refs as, ?_⟩
        rw [Array.toArray_toList]
        exact hS
      · rw [off b hb hb2] at q
        exact (I.hok b u q).stay (fun d v _ y => hk d v y) (fun d y => kp d _ y) fun d xs y => kp d _ y
def enumPairs (xs : List V) : List (V × V) := xs.zipIdx.map fun p => (V.int (p.2 : Nat), p.1)
theorem enumPairs_len (xs : List V) : (enumPairs xs).length = xs.length := by unfold enumPairs; rw [List.length_map, List.length_zipIdx]
theorem enumPairs_get {xs : List V} {i : Nat} {x : V} (h : xs[i]? = some x) : (enumPairs xs)[i]? = some (.int (i : Nat), x) := by
  unfold enumPairs
  rw [List.getElem?_map, List.getElem?_zipIdx, h]
  simp
def tListEnum (K : PySem.W.Frag) (ta : TA) : TE := fun σ H Q => ta σ H fun vs H1 => ∃ a xs, vs = [.ref a] ∧ SqL K H1 a xs ∧ 0 < xs.length ∧ NewPairs H1 (enumPairs xs) Q
theorem pe_listEnum {e : Expr} {ta : TA} {p p2 pos pos2 : Pos} (hc : X.calm = true) (hg : Gl X "list") (hm : X.mg "list" = none) (hg2 : Gl X "enumerate") (hm2 : X.mg "enumerate" = none) (ha : PA X [e] ta)
    (hs : starEach [.Call (.Name "enumerate" p2) [e] [] pos2] X.env = (false, eval (.Call (.Name "enumerate" p2) [e] [] pos2) X.env) :: starEach [] X.env := by rfl) (hs2 : starEach [e] X.env = [(false, eval e X.env)] := by rfl) :
    PE X (.Call (.Name "list" p) [.Call (.Name "enumerate" p2) [e] [] pos2] [] pos) (tListEnum X.K ta) := by
  refine ⟨fun pins s σ H Q I hq => ?_⟩
  refine wpAny_Call_Name_kw (ld_blt I hg hm PyProof.Rows.boot_list ?_)
  refine PyProof.Rows.callWith_type1 ?_ hs rfl
  rw [hs]
  show wpAny _ _ (spliced ((false, eval (.Call (.Name "enumerate" p2) [e] [] pos2) X.env) :: backTo pos (starEach [] X.env))) _ _ s
  refine Calls.spliced_cons ?_
  refine Call_ (ld_blt I hg2 hm2 boot_enumerate (PyProof.Rows.callWith_type1 (thn (ha.run pos2 pins s σ H _ I hq) fun us s1 ⟨vs, H1, I1, r1, a, xs, ex, hl, hn, q⟩ => ?_) hs2 rfl))
  subst ex
  cases r1 with
  | cons r rr =>
    cases rr
    cases r
    obtain ⟨its, rv, p', hz⟩ := I1.list hl
    have hlen := rv.length
    obtain ⟨ol, hol, _⟩ := id p'.isList
    have hal : a < s1.heap.objs.size := Heap.lt_size hol
    refine call_enumerate_list p'.isList fun h' he hit hsz hk => ?_
    refine Calls.spliced_nil ?_
    have hS : ∀ b, b < s1.heap.objs.size + 2 → h'.objs.size ≠ b := fun b hb => by rw [hsz]; exact Nat.ne_of_gt hb
    refine psl_call (s := { s1 with heap := h' }) (ps_enum (A := X.A.in1.in1) (by exact I1.ok.hd hc) (Nat.succ_ne_self _) (Nat.ne_of_lt (Nat.lt_succ_of_lt hal)) (Nat.ne_of_lt hal) (hS _ (by omega)) (hS _ (by omega)) (hS a (Nat.lt_succ_of_lt (Nat.lt_succ_of_lt hal))) its.toArray (by rw [List.size_toArray]; omega)) (pa_enum _ _ _ _ _) ⟨hit, p'.isList.at fun o e => hk _ o e, .inl ⟨_, rfl, he⟩⟩ (by rw [List.size_toArray]; omega) (fun b hb => ?_) fun h'' tk acc c as hk2 hS2 hl2 hG hacc => ?_
    · show b < h'.objs.size
      rw [hsz]
      rcases List.mem_cons.mp hb with z | hb
      · rw [z]; exact Nat.lt_succ_self _
      · rw [List.mem_singleton.mp hb]; exact Nat.lt_succ_of_lt (Nat.lt_succ_self _)
    · obtain ⟨H', k1, k2, k3, k4, k5, J⟩ := pairs_laid (tk := tk) (ps := enumPairs xs) I1 (S := h'.objs.size) (by omega) (lo := h'.objs.size + 1) (by omega) (fun z => Nat.not_succ_le_self _ (hG.above _ z)) (by rw [enumPairs_len]; omega) (fun b o e => hk2 b o (fun z => by
        have e0 := Heap.lt_size e
        rcases List.mem_cons.mp z with z | z
        · exact absurd (z ▸ e0) (Nat.not_lt.mpr (Nat.le_succ _))
        · exact absurd ((List.mem_singleton.mp z) ▸ e0) (Nat.lt_irrefl _)) (hk b o e)) hS2 (by rw [hl2, enumPairs_len, List.size_toArray, hlen]) hG (fun j k v ⟨⟨t, ek⟩, ev⟩ => by
          have hj : j < xs.length := by
            have := (Array.getElem?_eq_some_iff.mp ev).1
            rw [List.size_toArray] at this
            omega
          obtain ⟨u, hu, ru⟩ := rv.get (List.getElem?_eq_getElem hj)
          have : its[j]? = some v := by simpa using ev
          rw [this] at hu
          cases hu
          exact ⟨_, enumPairs_get (List.getElem?_eq_getElem hj), ⟨t, ek⟩, ru⟩) hacc
      exact ⟨.ref _, H', J, rfl, q H' _ as k1 k2 k3 k4 k5⟩
end
end Hl
end

section
set_option Elab.async false
set_option linter.all false
set_option maxRecDepth 100000
set_option maxHeartbeats 4000000
namespace Hl
open PySem PySem.Spec PyProof.Rows L2
section
variable {M : Model} {A : Around} {E : Value → Shared → Prop} {s : Shared} {env : Env}
theorem callWith_typeKwB {pos : Pos} {T : String} {first : List Value} {args : List (Bool × Sem Value)} {keywords : List (Option Str × Sem Value)} {Q : Value → Shared → Prop}
    (hplain : args.any (·.1) = false) (hkw : keywords.any (·.1.isNone) = false)
    (h : wpAny M A (evalArgs (.type T) true args keywords) (fun a s₁ => wpAny M A (call (.type T) (first ++ a.pos) a.kw) Q E s₁) E s) :
    wpAny M A (callWith pos (.type T) first args keywords) Q E s := by
  unfold callWith
  refine wpAny_bind (wpAny_holding (wpAny_mono h (fun a s₁ h₁ => wpAny_bind (wpAny_standAt ?_)) fun _ _ x => x))
  simp only [hplain, hkw, Bool.or_false]
  refine wpAny_bind (wpAny_pure ?_)
  exact wpAny_bind (wpAny_mono h₁ (fun r s₂ hr => wpAny_bind (wpAny_holding (wpAny_point (wpAny_pure hr)))) fun _ _ x => x)
theorem callWith_typeKw {pos : Pos} {T : String} {e : Expr} {rest : List Expr} {kws : List Keyword} {Q : Value → Shared → Prop}
    (h : wpAny M A (spliced (backTo pos (starEach (e :: rest) env))) (fun vs s₁ => wpAny M A (evalAll ((backToKw pos (keywordEach kws env)).map (·.2)))
      (fun kvs s₂ => wpAny M A (call (.type T) vs (((backToKw pos (keywordEach kws env)).filterMap (·.1)).zip kvs)) Q E s₂) E s₁) E s)
    (he : backTo pos (starEach (e :: rest) env) = (false, eval e env) :: backTo pos (starEach rest env) := by rfl)
    (hplain : (backTo pos (starEach (e :: rest) env)).any (·.1) = false := by rfl)
    (hall : (backToKw pos (keywordEach kws env)).all (·.1.isSome) = true := by rfl)
    (hkw : (backToKw pos (keywordEach kws env)).any (·.1.isNone) = false := by rfl) :
    wpAny M A (callWith pos (.type T) [] (backTo pos (starEach (e :: rest) env)) (backToKw pos (keywordEach kws env))) Q E s := by
  refine callWith_typeKwB hplain hkw ?_
  rw [he] at h ⊢
  exact evalArgs_kwB hall h
end
section
variable {X : Cx}
def tListZipS (K : PySem.W.Frag) (ta : TA) (tk : TA) : TE := fun σ H Q => ta σ H fun vs H1 => tk σ H1 fun ws H2 => ∃ a b xs ys, vs = [.ref a, .ref b] ∧ ws = [.bl true] ∧ SqT K H2 a xs ∧ SqT K H2 b ys ∧ 0 < xs.length ∧ xs.length = ys.length ∧ NewPairs H2 (xs.zip ys) Q
theorem pe_listZipS {e e2 : Expr} {kws : List Keyword} {ta tk : TA} {p p2 pos pos2 : Pos} (hc : X.calm = true) (hg : Gl X "list") (hm : X.mg "list" = none) (hg2 : Gl X "zip") (hm2 : X.mg "zip" = none) (ha : PA X [e, e2] ta) (hk : PK X kws tk)
    (hs : starEach [.Call (.Name "zip" p2) [e, e2] kws pos2] X.env = (false, eval (.Call (.Name "zip" p2) [e, e2] kws pos2) X.env) :: starEach [] X.env := by rfl) (hs2 : backTo pos2 (starEach [e, e2] X.env) = (false, eval e X.env) :: backTo pos2 (starEach [e2] X.env) := by rfl)
    (hp2 : (backTo pos2 (starEach [e, e2] X.env)).any (·.1) = false := by rfl) (hall : (backToKw pos2 (keywordEach kws X.env)).all (·.1.isSome) = true := by rfl) (hkw : (backToKw pos2 (keywordEach kws X.env)).any (·.1.isNone) = false := by rfl)
    (hks : (backToKw pos2 (keywordEach kws X.env)).filterMap (·.1) = [Str.ofString "strict"] := by rfl) :
    PE X (.Call (.Name "list" p) [.Call (.Name "zip" p2) [e, e2] kws pos2] [] pos) (tListZipS X.K ta tk) := by
  refine ⟨fun pins s σ H Q I hq => ?_⟩
  refine wpAny_Call_Name_kw (ld_blt I hg hm PyProof.Rows.boot_list ?_)
  refine PyProof.Rows.callWith_type1 ?_ hs rfl
  rw [hs]
  show wpAny _ _ (spliced ((false, eval (.Call (.Name "zip" p2) [e, e2] kws pos2) X.env) :: backTo pos (starEach [] X.env))) _ _ s
  refine Calls.spliced_cons ?_
  refine wpAny_Call_Name_kw (ld_blt I hg2 hm2 boot_zip ?_)
  refine callWith_typeKw ?_ hs2 hp2 hall hkw
  rw [hks]
  refine thn (ha.run pos2 pins s σ H _ I hq) fun us s0 ⟨vs, H1, I0, r1, hq⟩ => ?_
  refine thn (hk.run pos2 pins s0 σ H1 _ I0 hq) fun ks s1 ⟨ws, H2, I1, r2, a, b, xs, ys, ex, ew, hl, hl2, hn, hlen, q⟩ => ?_
  subst ex ew
  cases r1 with
  | cons r rr =>
    cases rr with
    | cons r' rr =>
      cases rr
      cases r
      cases r'
      cases r2 with
      | cons rk rr =>
        cases rr
        cases rk
        obtain ⟨its, rv, p1, hz⟩ := I1.tuple hl
        obtain ⟨its2, rv2, p2, _⟩ := I1.tuple hl2
        have n1 := rv.length
        have n2 := rv2.length
        obtain ⟨o1, ho1, _⟩ := id p1
        obtain ⟨o2, ho2, _⟩ := id p2
        have al : a < s1.heap.objs.size := Heap.lt_size ho1
        have bl : b < s1.heap.objs.size := Heap.lt_size ho2
        show wpAny _ _ (call (.type "zip") [.ref a, .ref b] [(Str.ofString "strict", .bool true)]) _ _ s1
        refine call_zipS (show s1.heap.IsTuple a its.toArray from p1) (show s1.heap.IsTuple b its2.toArray from p2) fun h' hzz hTI hTO h1 h2 hsz hk => ?_
        refine Calls.spliced_nil ?_
        have D := PySem.W.ktu_apart s1.heap.objs.size a b al bl
        have hb5 : ∀ c, c ∈ [s1.heap.objs.size + 4, s1.heap.objs.size + 2, s1.heap.objs.size + 3, s1.heap.objs.size, s1.heap.objs.size + 1, a, b] → c < s1.heap.objs.size + 5 := fun c hc => by
          have e' : c = s1.heap.objs.size + 4 ∨ c = s1.heap.objs.size + 2 ∨ c = s1.heap.objs.size + 3 ∨ c = s1.heap.objs.size ∨ c = s1.heap.objs.size + 1 ∨ c = a ∨ c = b := by simpa using hc
          have al' : (a : Nat) < s1.heap.objs.size := al
          have bl' : (b : Nat) < s1.heap.objs.size := bl
          show (c : Nat) < _
          rcases e' with z | z | z | z | z | z | z <;> (rw [z]; first | omega | exact Nat.lt_of_lt_of_le al (Nat.le_add_right _ _) | exact Nat.lt_of_lt_of_le bl (Nat.le_add_right _ _))
        refine psl_call (s := { s1 with heap := h' }) (ps_zip (A := X.A.in1.in1) (by exact I1.ok.hd hc) D (fun c hc => by show h'.objs.size ≠ c; rw [hsz]; exact Nat.ne_of_gt (hb5 c hc)) D.l1TO (xs := its.toArray) (ys := its2.toArray) (by rw [List.size_toArray]; omega) (by rw [List.size_toArray, List.size_toArray]; omega)) (pa_zip _ _ _ _ _ _ _ _ _ _) ⟨h1, h2, Heap.IsTuple.at p1 fun o e => hk _ o e, Heap.IsTuple.at p2 fun o e => hk _ o e, hTI, .inl ⟨rfl, hzz, _, _, hTO⟩⟩ (by rw [List.size_toArray]; omega) (fun c hc => ?_) fun h'' tk acc c as hk2 hS2 hl3 hG hacc => ?_
        · show c < h'.objs.size
          rw [hsz]
          refine hb5 c ?_
          simp only [List.mem_cons, List.not_mem_nil, or_false] at hc ⊢
          rcases hc with z | z | z | z <;> simp [z]
        · obtain ⟨H', k1, k2, k3, k4, k5, J⟩ := pairs_laid (tk := tk) (ps := xs.zip ys) I1 (S := h'.objs.size) (by rw [hsz]; exact Nat.le_add_right _ _) (lo := h'.objs.size + 1) (by rw [hsz]; exact Nat.le_trans (Nat.le_add_right _ _) (Nat.le_succ _)) (fun z => Nat.not_succ_le_self _ (hG.above _ z)) (by rw [List.length_zip]; omega) (fun b o e => hk2 b o (fun z => by
            have e0 := Heap.lt_size e
            have e' : b = s1.heap.objs.size + 4 ∨ b = s1.heap.objs.size + 3 ∨ b = s1.heap.objs.size ∨ b = s1.heap.objs.size + 1 := by simpa using z
            rcases e' with z | z | z | z <;> exact absurd (z ▸ e0) (by first | exact Nat.lt_irrefl _ | exact Nat.not_lt.mpr (Nat.le_add_right _ _))) (hk b o e)) hS2 (by rw [hl3, List.length_zip, List.size_toArray]; omega) hG (fun j k v ⟨ek, ev⟩ => by
              have hj : j < its.length := by simpa using (Array.getElem?_eq_some_iff.mp ek).1
              obtain ⟨u, hu, ru⟩ := rv.get (List.getElem?_eq_getElem (show j < xs.length by omega))
              obtain ⟨u2, hu2, ru2⟩ := rv2.get (List.getElem?_eq_getElem (show j < ys.length by omega))
              have t1 : its[j]? = some k := by simpa using ek
              have t2 : its2[j]? = some v := by simpa using ev
              rw [t1] at hu
              rw [t2] at hu2
              cases hu
              cases hu2
              exact ⟨(xs[j]'(by omega), ys[j]'(by omega)), List.getElem?_zip_eq_some.mpr ⟨List.getElem?_eq_getElem (show j < xs.length by omega), List.getElem?_eq_getElem (show j < ys.length by omega)⟩, ru, ru2⟩) hacc
          exact ⟨.ref _, H', J, rfl, q H' _ as k1 k2 k3 k4 k5⟩
end
/-! ### enumerate, of one argument -/
theorem meets_enumerate_newB1 {v : Value} {o : Obj} {H : Heap → Prop} (B : Begins v o H) :
    Meets (Builtin.«enumerate.__new__» ⟨[.type "enumerate", v], []⟩) (fun _ R s => H s.heap ∧
      R (.ok (.ret (.ref (s.heap.push o).objs.size))) { s with heap := (s.heap.push o).push { cls := .type "enumerate", data := .fields #[.none, .bool false, .ref s.heap.objs.size, rawInt 0, .none, .none] } }) :=
  .of_wp fun prog w A R s h => by
    obtain ⟨hp, g, d, tk, os⟩ := s; obtain ⟨h1, h⟩ := h
    have hsub := sub_enumerate
    have q1 : ∀ {A' : Around} {E : Value → Shared → Prop} {Q : Value → Shared → Prop}, Q (.ref hp.objs.size) ⟨hp.push o, g, d, tk, os⟩ → wpAny (model prog w) A' (pyIter v) Q E ⟨hp, g, d, tk, os⟩ :=
      fun q => B.iter prog w _ _ ⟨hp, g, d, tk, os⟩ _ h1 q
    wp_walk using q1
    refine wpAny_stack_any fun st => wpAny_pure ?_
    split
    · rename_i c _ _ _ _ _
      cases (c == Value.type "enumerate")
      · wp_walk using q1
        exact ⟨_, rfl, h⟩
      · wp_walk using q1
        exact ⟨_, rfl, h⟩
    · wp_walk using q1
      exact ⟨_, rfl, h⟩
section
variable {prog : Program} {w : World} {A : Around} {E : Value → Shared → Prop} {s : Shared}
theorem enum_begins1 {v : Value} {o : Obj} {H : Heap → Prop} {Q : Value → Shared → Prop} (B : Begins v o H) (h1 : H s.heap)
    (h : ∀ h', IsEnum h' (s.heap.objs.size + 1) s.heap.objs.size 0 .none → h'.get? s.heap.objs.size = some o → h'.objs.size = s.heap.objs.size + 2 →
      (∀ b o, s.heap.get? b = some o → h'.get? b = some o) → Q (.ref (s.heap.objs.size + 1)) { s with heap := h' }) :
    wpAny (model prog w) A (call (.type "enumerate") [v]) Q E s := by
  refine callType_new F.called_enumerate (by decide) (F.typeCall_enumerate_1 _) (F.newCall_enumerate_1 _) (fun obj => F.args_object_init_2 obj _) F.entry_enumerate_new
    (meets_enumerate_newB1 B) ⟨h1, ?_⟩
  have hz : (s.heap.push o).objs.size = s.heap.objs.size + 1 := Heap.size_push ..
  show _ ∧ _
  rw [hz]
  have he : IsEnum ((s.heap.push o).push { cls := .type "enumerate", data := .fields #[.none, .bool false, .ref s.heap.objs.size, rawInt 0, .none, .none] }) (s.heap.objs.size + 1) s.heap.objs.size 0 .none := by
    have := Heap.get?_push_size (s.heap.push o) (o := { cls := .type "enumerate", data := .fields #[.none, .bool false, .ref s.heap.objs.size, rawInt 0, .none, .none] }) rfl
    rw [hz] at this; exact this
  refine ⟨⟨_, he, rfl⟩, h _ he (Heap.get?_push_of_some _ (Heap.get?_push_size _ B.free)) (by rw [Heap.size_push, hz]) fun b o x => Heap.get?_push_of_some _ (Heap.get?_push_of_some _ x)⟩
end
/-! ### for .. in enumerate(a tuple), enumerate(a text) -/
def IteT (K : PySem.W.Frag) (a : Addr) : It :=
  ⟨fun i H => ∃ (xs : List V) (x : V), SqT K H a xs ∧ xs[i]? = some x, fun i H v H' => ∃ T x, v = .ref T ∧ H T = none ∧ H' = upd H T (.tup [.int (i : Nat), x]) ∧ ∀ xs, SqT K H a xs → xs[i]? = some x, fun i H => ∃ xs : List V, SqT K H a xs ∧ xs.length = i⟩
theorem turn_enumT {P : Program} {w : World} {K : PySem.W.Frag} {elts : List Expr} {kk : Nat} {tpos : Pos} (a e it : Addr) :
    Turn P w K (.Tuple elts kk tpos) (IteT K a) [e, it] e (fun i h => (∃ old, IsEnum h e it ((i : Nat) : Int) old) ∧ h.IsTupleIter it a i ∧ e ≠ it) where
  mem := by simp
  obj := fun i h st b hb => by
    obtain ⟨⟨old, he⟩, ⟨o, ho, hc, hd⟩, _⟩ := st
    have e' : b = e ∨ b = it := by simpa using hb
    rcases e' with z | z
    · rw [z]; exact ⟨_, he, fun v q => nomatch q⟩
    · rw [z]; exact ⟨o, ho, fun v q => by rw [hd] at q; cases q⟩
  keep := fun i h h' st k => let ⟨⟨old, he⟩, hi, hne⟩ := st; ⟨⟨old, k e (by simp) _ he⟩, hi.at fun o q => k it (by simp) o q, hne⟩
  item := by
    intro X hP hw hK hc i pins s σ H E I hf st hg
    subst hP hw hK
    obtain ⟨⟨old, he⟩, hit, hne⟩ := st
    obtain ⟨xs, x, hq, hx⟩ := hg
    obtain ⟨its, rv, p, hz⟩ := I.tuple hq
    obtain ⟨u, hu, ru⟩ := rv.get hx
    have hel : e < s.heap.objs.size := Heap.lt_size he
    have hil : it < s.heap.objs.size := by obtain ⟨_, q, _⟩ := hit; exact Heap.lt_size q
    have hlen := rv.length
    have hi : i < its.toArray.size := by
      rw [List.size_toArray]
      exact (List.getElem?_eq_some_iff.mp hu).1
    have hae : a ≠ e := fun z => by
      obtain ⟨oa, ea, ca, _⟩ := id p
      rw [z, he] at ea
      have ea' := Option.some.inj ea
      rw [← ea'] at ca
      exact absurd (show Value.type "enumerate" = Value.type "tuple" from ca) (by decide)
    have hai : a ≠ it := fun z => by
      obtain ⟨oa, ea, ca, _⟩ := id p
      obtain ⟨oi, ei, ci, _⟩ := id hit
      rw [z, ei] at ea
      have ea' := Option.some.inj ea
      rw [← ea', ci] at ca
      exact absurd ca (by decide)
    refine wpAny_pyNext_enum_itemD (Draws.tuple (A := X.A.in1) (by exact I.ok.hd hc) it a hai its.toArray) he ⟨hit, p⟩ hi hne (by simp [hne, hae.symm]) fun x0 h' tk ex ho hit' hT hsz hk => ?_
    have ex0 : x0 = u := by
      have : its[i]? = some x0 := by simpa using ex
      rw [hu] at this
      exact (Option.some.inj this).symm
    subst ex0
    refine ⟨_, rfl, wpAny_letOwnedTupleGo_enum (s := { s with heap := h', toks := tk + 1 }) ho fun h'' he' sb => ?_⟩
    have hT2 : h''.get? s.heap.objs.size = some { cls := .type "tuple", data := .seq #[.int i tk, x0] } := (sb.2 _ (Nat.ne_of_gt hel)).trans hT
    have new : ObjOk X.prog X.w (upd H s.heap.objs.size (.tup [.int (i : Nat), x])) h'' s.heap.objs.size (.tup [.int (i : Nat), x]) :=
      ⟨by show 2 ≤ sizeLine; decide, [.int i tk, x0], .cons ⟨_, rfl⟩ (.cons ru .nil), ⟨_, hT2, rfl, _, rfl⟩⟩
    have I1 : Inv X pins σ (upd H s.heap.objs.size (.tup [.int (i : Nat), x])) { s with heap := h'', toks := tk + 1 } :=
      I.turnedNew (ch := [e, it]) (fun b ob hb q => (sb.2 b (fun z => hb (by simp [z]))).trans (hk b ob (fun z => hb (by simp [z])) (fun z => hb (by simp [z])) q)) hf (Nat.le_refl _) new
    refine ⟨.ref s.heap.objs.size, _, I1, rfl, ⟨_, x, rfl, I.hok.fresh (Nat.le_refl _), rfl, fun ys hy => by rw [I.tuple_inj hy hq]; exact hx⟩, ⟨⟨x0, ?_⟩, hit'.1.at fun o q => (sb.2 it (Ne.symm hne)).trans q, hne⟩, fun b hb => ?_⟩
    · have e1 : ((i + 1 : Nat) : Int) = (i : Int) + 1 := by omega
      rw [e1]; exact he'
    · have hb' : b < s.heap.objs.size := by
        have e' : b = e ∨ b = it := by simpa using hb
        rcases e' with z | z
        · rw [z]; exact hel
        · rw [z]; exact hil
      rw [upd_ne (Nat.ne_of_lt hb')]
      exact (hf b hb).1
  done := by
    intro X hP hw hK hc i pins s σ H E I hf st hg
    subst hP hw hK
    obtain ⟨⟨old, he⟩, hit, hne⟩ := st
    obtain ⟨xs, hq, hx⟩ := hg
    obtain ⟨its, rv, p, hz⟩ := I.tuple hq
    obtain ⟨f0, f1, f2, f3, f4, f5⟩ := hf it (by simp)
    have hl := rv.length
    have hai : a ≠ it := fun z => by
      obtain ⟨oa, ea, ca, _⟩ := id p
      obtain ⟨oi, ei, ci, _⟩ := id hit
      rw [z, ei] at ea
      have ea' := Option.some.inj ea
      rw [← ea', ci] at ca
      exact absurd ca (by decide)
    have hi : its.toArray.size = i := by rw [List.size_toArray]; omega
    subst hi
    exact wpAny_pyNext_enum_endD (Draws.tuple (A := X.A.in1) (by exact I.ok.hd hc) it a hai its.toArray) he ⟨hit, p⟩ fun h' eb => ⟨rfl, I.turned (t' := s.toks) (fun b o hb q => eb b o hb q) f0 f1 f3 f4 f5⟩
  self := fun A i s Q E st h => let ⟨⟨_, he⟩, _⟩ := st; wpAny_pyIter_enum he h
def iEnumT (K : PySem.W.Frag) (ta : TA) : TI := fun σ H R => ta σ H fun vs H1 => ∃ a xs, vs = [.ref a] ∧ SqT K H1 a xs ∧ R (IteT K a) H1
theorem pi_enumT {X : Cx} {e : Expr} {ta : TA} {p pos tpos : Pos} {elts : List Expr} {kk : Nat} (hg : Gl X "enumerate") (hm : X.mg "enumerate" = none) (ha : PA X [e] ta) (hs : starEach [e] X.env = [(false, eval e X.env)] := by rfl) :
    PI X (.Tuple elts kk tpos) (.Call (.Name "enumerate" p) [e] [] pos) (iEnumT X.K ta) := by
  refine ⟨fun pins s σ H R I h => ?_⟩
  refine Call_ (ld_blt I hg hm boot_enumerate (PyProof.Rows.callWith_type1 (thn (ha.run pos pins s σ H _ I h) fun us s1 ⟨vs, H1, I1, r1, q1⟩ => ?_) hs rfl))
  obtain ⟨a, xs, ex, hq, q⟩ := q1
  subst ex
  cases r1 with
  | cons r rr =>
    cases rr
    cases r
    obtain ⟨its, rv, p', hz⟩ := I1.tuple hq
    refine enum_begins1 (begins_tuple a its.toArray) p' fun h' he hit hsz hk => wpAny_pyIter_enum he ?_
    have I2 : Inv X pins σ H1 { s1 with heap := h' } := I1.kept (t' := s1.toks) hk
    refine ⟨s1.heap.objs.size + 1, [s1.heap.objs.size + 1, s1.heap.objs.size], _, _, H1, rfl, I2, turn_enumT a (s1.heap.objs.size + 1) s1.heap.objs.size, ⟨⟨.none, he⟩, ⟨_, hit, rfl, rfl⟩, Nat.succ_ne_self _⟩, fun b hb => ?_, q⟩
    have e' : b = s1.heap.objs.size + 1 ∨ b = s1.heap.objs.size := by simpa using hb
    have hle : s1.heap.objs.size ≤ b := by
      rcases e' with z | z
      · rw [z]; exact Nat.le_add_right _ _
      · rw [z]; exact Nat.le_refl _
    exact I1.fpOk hle (I1.hok.fresh hle)
def IteS (x : Str) : It :=
  ⟨fun i _ => i < x.cps.size, fun i H v H' => ∃ T c, v = .ref T ∧ H T = none ∧ x.cps[i]? = some c ∧ H' = upd H T (.tup [.int (i : Nat), .str ⟨#[c]⟩]), fun i _ => x.cps.size = i⟩
theorem turn_enumS {P : Program} {w : World} {K : PySem.W.Frag} {elts : List Expr} {kk : Nat} {tpos : Pos} (x : Str) (t : Tok) (e it : Addr) :
    Turn P w K (.Tuple elts kk tpos) (IteS x) [e, it] e (fun i h => (∃ old, IsEnum h e it ((i : Nat) : Int) old) ∧ h.IsStrIter it (strIterType x) x t i ∧ e ≠ it) where
  mem := by simp
  obj := fun i h st b hb => by
    obtain ⟨⟨old, he⟩, ⟨o, ho, hc, hd⟩, _⟩ := st
    have e' : b = e ∨ b = it := by simpa using hb
    rcases e' with z | z
    · rw [z]; exact ⟨_, he, fun v q => nomatch q⟩
    · rw [z]; exact ⟨o, ho, fun v q => by rw [hd] at q; cases q⟩
  keep := fun i h h' st k => let ⟨⟨old, he⟩, hi, hne⟩ := st; ⟨⟨old, k e (by simp) _ he⟩, let ⟨o, ho, r⟩ := hi; ⟨o, k it (by simp) o ho, r⟩, hne⟩
  item := by
    intro X hP hw hK hc i pins s σ H E I hf st hg
    subst hP hw hK
    obtain ⟨⟨old, he⟩, hit, hne⟩ := st
    have hel : e < s.heap.objs.size := Heap.lt_size he
    have hil : it < s.heap.objs.size := by obtain ⟨_, q, _⟩ := hit; exact Heap.lt_size q
    refine wpAny_pyNext_enum_itemD (Draws.text (A := X.A.in1) (by exact I.ok.hd hc) it x t) he hit hg hne (by simp [hne]) fun x0 h' tk ex ho hit' hT hsz hk => ?_
    obtain ⟨c, u, ec, ex0⟩ := ex
    subst ex0
    refine ⟨_, rfl, wpAny_letOwnedTupleGo_enum (s := { s with heap := h', toks := tk + 1 }) ho fun h'' he' sb => ?_⟩
    have hT2 : h''.get? s.heap.objs.size = some { cls := .type "tuple", data := .seq #[.int i tk, .str ⟨#[c]⟩ u] } := (sb.2 _ (Nat.ne_of_gt hel)).trans hT
    have new : ObjOk X.prog X.w (upd H s.heap.objs.size (.tup [.int (i : Nat), .str ⟨#[c]⟩])) h'' s.heap.objs.size (.tup [.int (i : Nat), .str ⟨#[c]⟩]) :=
      ⟨by show 2 ≤ sizeLine; decide, [.int i tk, .str ⟨#[c]⟩ u], .cons ⟨_, rfl⟩ (.cons ⟨_, rfl⟩ .nil), ⟨_, hT2, rfl, _, rfl⟩⟩
    have I1 : Inv X pins σ (upd H s.heap.objs.size (.tup [.int (i : Nat), .str ⟨#[c]⟩])) { s with heap := h'', toks := tk + 1 } :=
      I.turnedNew (ch := [e, it]) (fun b ob hb q => (sb.2 b (fun z => hb (by simp [z]))).trans (hk b ob (fun z => hb (by simp [z])) (fun z => hb (by simp [z])) q)) hf (Nat.le_refl _) new
    refine ⟨.ref s.heap.objs.size, _, I1, rfl, ⟨_, c, rfl, I.hok.fresh (Nat.le_refl _), ec, rfl⟩, ⟨⟨.str ⟨#[c]⟩ u, ?_⟩, (let ⟨o, ho2, r⟩ := hit'; ⟨o, (sb.2 it (Ne.symm hne)).trans ho2, r⟩), hne⟩, fun b hb => ?_⟩
    · have e1 : ((i + 1 : Nat) : Int) = (i : Int) + 1 := by omega
      rw [e1]; exact he'
    · have hb' : b < s.heap.objs.size := by
        have e' : b = e ∨ b = it := by simpa using hb
        rcases e' with z | z
        · rw [z]; exact hel
        · rw [z]; exact hil
      rw [upd_ne (Nat.ne_of_lt hb')]
      exact (hf b hb).1
  done := by
    intro X hP hw hK hc i pins s σ H E I hf st hg
    subst hP hw hK
    obtain ⟨⟨old, he⟩, hit, hne⟩ := st
    obtain ⟨f0, f1, f2, f3, f4, f5⟩ := hf it (by simp)
    have hi : x.cps.size = i := hg
    subst hi
    exact wpAny_pyNext_enum_endD (Draws.text (A := X.A.in1) (by exact I.ok.hd hc) it x t) he hit fun h' eb => ⟨rfl, I.turned (t' := s.toks) (fun b o hb q => eb b o hb q) f0 f1 f3 f4 f5⟩
  self := fun A i s Q E st h => let ⟨⟨_, he⟩, _⟩ := st; wpAny_pyIter_enum he h
def iEnumS (ta : TA) : TI := fun σ H R => ta σ H fun vs H1 => ∃ x, vs = [.str x] ∧ R (IteS x) H1
theorem pi_enumS {X : Cx} {e : Expr} {ta : TA} {p pos tpos : Pos} {elts : List Expr} {kk : Nat} (hg : Gl X "enumerate") (hm : X.mg "enumerate" = none) (ha : PA X [e] ta) (hs : starEach [e] X.env = [(false, eval e X.env)] := by rfl) :
    PI X (.Tuple elts kk tpos) (.Call (.Name "enumerate" p) [e] [] pos) (iEnumS ta) := by
  refine ⟨fun pins s σ H R I h => ?_⟩
  refine Call_ (ld_blt I hg hm boot_enumerate (PyProof.Rows.callWith_type1 (thn (ha.run pos pins s σ H _ I h) fun us s1 ⟨vs, H1, I1, r1, q1⟩ => ?_) hs rfl))
  obtain ⟨x, ex, q⟩ := q1
  subst ex
  cases r1 with
  | cons r rr =>
    cases rr
    obtain ⟨t, rfl⟩ := r
    refine call_enumerate_str fun h' he hit hsz hk => wpAny_pyIter_enum he ?_
    have I2 : Inv X pins σ H1 { s1 with heap := h' } := I1.kept (t' := s1.toks) hk
    refine ⟨s1.heap.objs.size + 1, [s1.heap.objs.size + 1, s1.heap.objs.size], _, _, H1, rfl, I2, turn_enumS x t (s1.heap.objs.size + 1) s1.heap.objs.size, ⟨⟨.none, he⟩, hit, Nat.succ_ne_self _⟩, fun b hb => ?_, q⟩
    have e' : b = s1.heap.objs.size + 1 ∨ b = s1.heap.objs.size := by simpa using hb
    have hle : s1.heap.objs.size ≤ b := by
      rcases e' with z | z
      · rw [z]; exact Nat.le_add_right _ _
      · rw [z]; exact Nat.le_refl _
    exact I1.fpOk hle (I1.hok.fresh hle)
end Hl
end

section
set_option Elab.async false
set_option linter.all false
set_option maxRecDepth 100000
set_option maxHeartbeats 4000000
/-! sorted(d.items()), the keys whole numbers that rise already, the values tuples of two whole numbers. -/
namespace Hl
open PySem PySem.Spec PyProof.Rows L2
abbrev flK (f : Int × Addr × Int × Int) : L2.Key × V := (Sum.inl f.1, V.ref f.2.1)
def FlAt (H : Hp) (fl : List (Int × Addr × Int × Int)) : Prop := ∀ f, f ∈ fl → H f.2.1 = some (.tup [.int f.2.2.1, .int f.2.2.2])
abbrev encF (b : Addr × Int × Int × Int) : PyData := .tuple [.int b.2.1, .tuple [.int b.2.2.1, .int b.2.2.2]]
def tSortedItems (te : TE) : TE := fun σ H Q => te σ H fun x H1 => ∃ d fl, x = .ref d ∧ H1 d = some (.dK (fl.map flK)) ∧ FlAt H1 fl ∧ fl.Pairwise (fun a b => a.1 < b.1) ∧ fl.length ≤ 1000 ∧ NewPairs H1 (fl.map fun f => (V.int f.1, V.ref f.2.1)) Q
theorem each_get {α β : Type} {R : α → β → Prop} : ∀ {xs : List α} {ys : List β}, xs.length = ys.length → (∀ (j : Nat) (x : α) (y : β), xs[j]? = some x → ys[j]? = some y → R x y) → PySem.W.EachIs R xs ys
  | [], [], _, _ => .nil
  | [], _ :: _, h, _ => by cases h
  | _ :: _, [], h, _ => by cases h
  | x :: xs, y :: ys, h, f => .cons (f 0 x y rfl rfl) (each_get (Nat.succ.inj h) fun j a b ea eb => f (j + 1) a b ea eb)
theorem each_ref {β : Type} : ∀ {out : List Value} {bs : List (Addr × β)}, PySem.W.EachIs (fun v b => v = Value.ref b.1) out bs → out = bs.map fun b => Value.ref b.1
  | _, _, .nil => rfl
  | _, _, .cons h t => by rw [h, each_ref t]; rfl
theorem pairs_get {K : Type} [DecidableEq K] {prog : Program} {w : World} {knd : PySem.KeyKind prog w K} : ∀ {es : List DictEntry} {vs : List (K × Value)}, PySem.Pairs knd es vs → ∀ {j : Nat} {en : DictEntry}, es[j]? = some en → ∃ v, vs[j]? = some v ∧ knd.is v.1 en.key = true ∧ en.val = v.2
  | _, _, .nil, j, en, h => by simp at h
  | _, _, .cons a b t, 0, en, h => by
    have e := Option.some.inj h
    subst e
    exact ⟨_, rfl, a, b⟩
  | _, _, .cons a b t, j + 1, en, h => pairs_get t h
theorem pairs_len {K : Type} [DecidableEq K] {prog : Program} {w : World} {knd : PySem.KeyKind prog w K} : ∀ {es : List DictEntry} {vs : List (K × Value)}, PySem.Pairs knd es vs → es.length = vs.length
  | _, _, .nil => rfl
  | _, _, .cons _ _ t => by rw [List.length_cons, List.length_cons, pairs_len t]
theorem kv_back {K : Type} : ∀ {xs : List (K × V)} {vs : List (K × Value)}, KV xs vs → ∀ {j : Nat} {v : K × Value}, vs[j]? = some v → ∃ x, xs[j]? = some x ∧ x.1 = v.1 ∧ RelV x.2 v.2
  | _, _, .nil, j, v, h => by simp at h
  | _, _, .cons a t, 0, v, h => by
    have e := Option.some.inj h
    subst e
    exact ⟨_, rfl, a.1, a.2⟩
  | _, _, .cons a t, j + 1, v, h => kv_back t h
theorem le_encF {p q : Addr × Int × Int × Int} (h : p.2.1 < q.2.1) : PySem.W.dataLe false encF p q = true := by
  show (!PySem.W.dataLt (encF q) (encF p)) = true
  rw [PySem.W.dataLt_pair (by simp [PySem.W.alike]) (by simp [PySem.W.alike, PySem.W.alikeAll]), PySem.W.dataLt_int]
  simp only [PyData.eqv, beq_iff_eq]
  rw [if_neg (by omega)]
  have : ¬ q.2.1 < p.2.1 := by omega
  simp [this]
section
variable {X : Cx} {e : Expr} {te : TE} {p apos cpos pos : Pos}
theorem pe_sortedItems (hc : X.calm = true) (hu : X.A.units + 64 < cLine) (he : PE X e te) (hg : Gl X "sorted") (hm : X.mg "sorted" = none) (hbase : attributeBase e "items" X.env (eval e X.env) = eval e X.env := by rfl) (hline : (apos.endLine == cpos.line) = true := by rfl)
    (hs : starEach [.Call (.Attribute e "items" apos) [] [] cpos] X.env = (false, eval (.Call (.Attribute e "items" apos) [] [] cpos) X.env) :: starEach [] X.env := by rfl) :
    PE X (.Call (.Name "sorted" p) [.Call (.Attribute e "items" apos) [] [] cpos] [] pos) (tSortedItems te) := by
  refine ⟨fun pins s σ H Q I hq => ?_⟩
  refine wpAny_Call_Name_kw (ld_blt I hg hm PyProof.Rows.boot_sorted ?_)
  refine PyProof.Rows.callWith_builtin1 ?_ hs rfl
  rw [hs]
  show wpAny _ _ (spliced ((false, eval (.Call (.Attribute e "items" apos) [] [] cpos) X.env) :: backTo pos (starEach [] X.env))) _ _ s
  refine Calls.spliced_cons ?_
  refine wpAny_Call_method (T := "dict") (id := "dict.items") hbase rfl hline F.plainAttrs_dict F.slot_dict_items F.type_dict_items (thn (he.run pins s σ H _ I hq) fun u s1 ⟨x, H1, I1, rx, d, fl, ex, hd, hfl, hpw, hlen, q⟩ => ?_)
  subst ex
  obtain rfl : u = Value.ref d := rx
  obtain ⟨hz, hs0, vs, kv, hdo⟩ := I1.hok d _ hd
  obtain ⟨o, es, ep, ho, hx, hdat, hkeys, hpairs, hnd⟩ := id hdo
  have lk : (fl.map flK).length = vs.length := Paired.length kv
  rw [List.length_map] at lk
  have I2 : Inv X pins σ H1 { s1 with heap := s1.heap.push { cls := .type "dict_items", data := .fields #[.ref d] } } := I1.kept (t' := s1.toks) fun b ob q => Heap.get?_push_of_some _ q
  refine ⟨hdo.typeIs, hdo.mapOf.noDict, ?_⟩
  show wpAny _ _ (callWith cpos (.builtin "dict.items") [.ref d] [] []) _ X.xe s1
  refine method_meetsIn F.slot_dict_items F.entry_dict_items rfl (PySem.evalArgs_none ⟨rfl, hdo.typeIs, F.args_dict_items_1 _, _, meets_dict_items (mixKind X.prog X.w) d hs0, ⟨vs, hdo⟩, ?_⟩)
  refine Calls.spliced_nil ?_
  have hh : X.A.handled = none := I1.ok.hd hc
  have hsz : es.size = fl.length := by
    rw [lk, ← Array.length_toList]
    exact pairs_len hpairs
  have ent : ∀ (j : Nat) (en : DictEntry), es[j]? = some en → ∃ f t, fl[j]? = some f ∧ en.key = .int f.1 t ∧ en.val = .ref f.2.1 := by
    intro j en hj
    obtain ⟨v, hv, hk, hval⟩ := pairs_get hpairs (by rw [Array.getElem?_toList]; exact hj)
    obtain ⟨x, hx, e1, r⟩ := kv_back kv hv
    rw [List.getElem?_map] at hx
    cases hf : fl[j]? with
    | none => rw [hf] at hx; cases hx
    | some f =>
      rw [hf] at hx
      have ex : flK f = x := Option.some.inj hx
      rw [← ex] at e1 r
      rw [← e1] at hk
      have r' : v.2 = Value.ref f.2.1 := r
      rcases keyIs_shape (show keyIs (Sum.inl f.1) en.key = true from hk) with ⟨i, t, e2, e3⟩ | ⟨y, t, e2, e3⟩
      · cases e2
        exact ⟨f, t, rfl, e3, hval.trans r'⟩
      · cases e2
  refine DT.sortedI (s := { s1 with heap := s1.heap.push { cls := .type "dict_items", data := .fields #[.ref d] } }) (es := es) (ep := ep) hh ⟨_, Heap.get?_push_size _ rfl, rfl, rfl⟩ ⟨o, Heap.get?_push_of_some _ ho, hx, hdat⟩ (by rw [hsz, sizeLine_eq]; omega) fun h' tk as hk hlt hl hG => ?_
  have lak : as.length = fl.length := by omega
  have hk1 : ∀ b o, s1.heap.get? b = some o → h'.get? b = some o := fun b o e => hk b o (Heap.get?_push_of_some _ e)
  have hob : (h'.push { cls := .type "list", data := .seq (as.map Value.ref).toArray }).get? h'.objs.size = some (seqObj "list" (as.map Value.ref).toArray 0) := Heap.get?_push_size _ rfl
  have ka : ∀ b o, h'.get? b = some o → (h'.push { cls := .type "list", data := .seq (as.map Value.ref).toArray }).get? b = some o := fun b o e => Heap.get?_push_of_some _ e
  have ne0 : ∀ b o, h'.get? b = some o → b ≠ h'.objs.size := fun b o e => Nat.ne_of_lt (Heap.lt_size e)
  have tup : ∀ (j : Nat) (a : Addr), as[j]? = some a → ∃ f t, fl[j]? = some f ∧ h'.get? a = some { cls := .type "tuple", data := .seq #[.int f.1 t, .ref f.2.1] } := by
    intro j a hj
    obtain ⟨en, he, hg⟩ := hG.pairs j a hj
    obtain ⟨f, t, hf, e1, e2⟩ := ent j en he
    rw [e1, e2] at hg
    exact ⟨f, t, hf, hg⟩
  generalize hh2 : h'.push { cls := .type "list", data := .seq (as.map Value.ref).toArray } = h2 at hob ka ⊢
  have bsl : ((as.zip fl).map fun z => (z.1, z.2.1, z.2.2.2.1, z.2.2.2.2)).length = as.length := by rw [List.length_map, List.length_zip]; omega
  have bsg : ∀ (j : Nat) (b : Addr × Int × Int × Int), ((as.zip fl).map fun z => (z.1, z.2.1, z.2.2.2.1, z.2.2.2.2))[j]? = some b → ∃ a f, as[j]? = some a ∧ fl[j]? = some f ∧ b = (a, f.1, f.2.2.1, f.2.2.2) := by
    intro j b hj
    rw [List.getElem?_map] at hj
    cases hz : (as.zip fl)[j]? with
    | none => rw [hz] at hj; cases hj
    | some z =>
      rw [hz] at hj
      obtain ⟨z1, z2⟩ := List.getElem?_zip_eq_some.mp hz
      exact ⟨z.1, z.2, z1, z2, (Option.some.inj hj).symm⟩
  generalize hbs : (as.zip fl).map (fun z => (z.1, z.2.1, z.2.2.2.1, z.2.2.2.2)) = bs at bsl bsg
  have bsf : bs.map (·.1) = as := by
    rw [← hbs, List.map_map]
    exact List.map_fst_zip (by omega)
  have srt : bs.mergeSort (PySem.W.dataLe false encF) = bs := by
    refine List.mergeSort_of_pairwise ?_
    refine List.pairwise_iff_getElem.mpr fun i j hi hj hij => ?_
    obtain ⟨a, f, _, ef, eb⟩ := bsg i _ (List.getElem?_eq_getElem hi)
    obtain ⟨a2, f2, _, ef2, eb2⟩ := bsg j _ (List.getElem?_eq_getElem hj)
    obtain ⟨g1, g2⟩ := List.getElem?_eq_some_iff.mp ef
    obtain ⟨g3, g4⟩ := List.getElem?_eq_some_iff.mp ef2
    have := List.pairwise_iff_getElem.mp hpw i j g1 g3 hij
    rw [g2, g4] at this
    refine le_encF ?_
    rw [eb, eb2]
    exact this
  refine PySem.W.list_sort_data (s := { s1 with heap := h2, toks := tk }) (vs := as.map Value.ref) (bs := bs) (enc := encF) (R := fun v b => v = Value.ref b.1) hob (each_get (by rw [List.length_map, bsl]) fun j x y ex ey => ?_) (each_get (by rw [List.length_map, bsl]) fun j x y ex ey => ?_) (PySem.W.AllAlike.of fun b b' => by simp [PySem.W.alike, PySem.W.alikeAll]) (PySem.W.Sortable.tuples fun b => ⟨_, _, rfl⟩) (by rw [bsl, sizeLine_eq]; omega) (fun b _ => ?_) fun out ho2 eo => ?_
  · obtain ⟨a, f, ea, _, eb⟩ := bsg j y ey
    rw [List.getElem?_map, ea] at ex
    rw [eb]
    exact (Option.some.inj ex).symm
  · obtain ⟨a, f, ea, ef, eb⟩ := bsg j y ey
    rw [List.getElem?_map, ea] at ex
    have ex2 : x = Value.ref a := (Option.some.inj ex).symm
    subst ex2 eb
    obtain ⟨f2, t, ef2, hg⟩ := tup j a ea
    rw [ef] at ef2
    cases ef2
    obtain ⟨_, its, rv, ot, hot, hct, nt, hdt⟩ := (show ObjOk X.prog X.w H1 s1.heap f.2.1 (.tup [.int f.2.2.1, .int f.2.2.2]) from I1.hok _ _ (hfl f (List.mem_of_getElem? ef)))
    cases rv with
    | cons r1 rr =>
      cases rr with
      | cons r2 rr =>
        cases rr
        obtain ⟨t1, rfl⟩ := r1
        obtain ⟨t2, rfl⟩ := r2
        refine ⟨[] ++ ((([] ++ ([] ++ []))) ++ []), .tuple (ka _ _ hg) rfl rfl (.cons (.int _ _) (.cons (.tuple (ka _ _ (hk1 _ _ hot)) hct hdt (.cons (.int _ _) (.cons (.int _ _) .nil))) .nil)), by simp⟩
  · show X.A.in1.units + 1 + PyData.depth (.tuple [.int b.2.1, .tuple [.int b.2.2.1, .int b.2.2.2]]) < cLine
    have e1 : X.A.in1.units = X.A.units + 1 := by first | rfl | simp
    rw [e1]
    simp [PyData.depth, PyData.depthAll]
    omega
  · rw [srt] at eo
    have eout : out = as.map Value.ref := by
      rw [each_ref eo, ← bsf, List.map_map]
      rfl
    obtain ⟨eF, heF⟩ := PyProof.Rows.sortedHeap_at (vs := as.map Value.ref) (out := out.toArray) hob
    have kF : ∀ b o, b ≠ h'.objs.size → h2.get? b = some o → (sortedHeap h2 h'.objs.size (as.map Value.ref) out.toArray).get? b = some o := fun b o hb e => (PyProof.Rows.sortedHeap_old hb (Heap.lt_size e)).trans e
    have kS : ∀ b o, s1.heap.get? b = some o → (sortedHeap h2 h'.objs.size (as.map Value.ref) out.toArray).get? b = some o := fun b o e => kF b o (ne0 _ _ (hk1 b o e)) (ka _ _ (hk1 b o e))
    have z1 : (s1.heap.push { cls := .type "dict_items", data := .fields #[.ref d] }).objs.size = s1.heap.objs.size + 1 := Heap.size_push ..
    have q1 : h'.objs.size ∉ as := fun z => by
      obtain ⟨j, hj⟩ := List.mem_iff_getElem?.mp z
      obtain ⟨f, t, _, hg⟩ := tup j _ hj
      exact Nat.lt_irrefl _ (Heap.lt_size hg)
    have q2 : ∀ a ∈ as, s1.heap.objs.size ≤ a := fun a ha => by
      have := hG.above a ha
      rw [show (Shared.heap { s1 with heap := s1.heap.push { cls := .type "dict_items", data := .fields #[.ref d] } }).objs.size = s1.heap.objs.size + 1 from z1] at this
      exact Nat.le_of_lt (Nat.lt_of_succ_lt this)
    have q3 : ∀ (j : Nat) (a : Addr), as[j]? = some a → ∃ k v, (∃ f t, fl[j]? = some f ∧ k = Value.int f.1 t ∧ v = Value.ref f.2.1) ∧ (sortedHeap h2 h'.objs.size (as.map Value.ref) out.toArray).get? a = some { cls := .type "tuple", data := .seq #[k, v] } := fun j a hj => by
      obtain ⟨f, t, hf, hg⟩ := tup j a hj
      exact ⟨_, _, ⟨f, t, hf, rfl, rfl⟩, kF _ _ (ne0 _ _ hg) (ka _ _ hg)⟩
    have q4 : s1.heap.objs.size ≤ h'.objs.size := by
      have : (s1.heap.push { cls := .type "dict_items", data := .fields #[.ref d] }).objs.size < h'.objs.size := hlt
      rw [z1] at this
      omega
    obtain ⟨H', k1, k2, k3, k4, k5, J⟩ := pairs_laid (tk := tk) (ps := fl.map fun f => (V.int f.1, V.ref f.2.1)) (Rel := fun j k v => ∃ f t, fl[j]? = some f ∧ k = Value.int f.1 t ∧ v = Value.ref f.2.1) I1 (S := h'.objs.size) (lo := s1.heap.objs.size) q4 (Nat.le_refl _) q1 (by rw [List.length_map, sizeLine_eq]; omega) kS heF (by rw [List.length_map]; exact lak) ⟨hG.rise, q2, q3⟩ (fun j k v ⟨f, t, ef, ek, ev⟩ => ⟨(V.int f.1, V.ref f.2.1), by rw [List.getElem?_map, ef]; rfl, ⟨t, ek⟩, ev⟩) (by rw [List.toList_toArray]; exact eout)
    exact ⟨.ref _, H', J, rfl, q H' _ as k1 k2 k3 k4 k5⟩
end
end Hl
end

section
set_option Elab.async false
set_option linter.all false
set_option maxRecDepth 100000
set_option maxHeartbeats 4000000
/-! Contracts of the defs; heaps; what the data looks like. -/
namespace Hl
open PySem PySem.Spec PyProof.Rows L2
/-- a def of the top keeps its promise -/
def DefAt (P : Program) (w : World) (K : PySem.W.Frag) (mg : Str → Option Value) (base : Heap) (x : Str) (k : Nat) (ps : List Str) (sp : Sp) : Prop :=
  ∃ f fd, mg x = some (.ref f) ∧ PySem.W.keepIn K (.ref f) = true ∧ Binds K fd ps [] ∧ FnOk P w K mg base CX0 k f fd ps sp
def MethAt (P : Program) (w : World) (K : PySem.W.Frag) (mg : Str → Option Value) (base : Heap) (C : Addr) (m : Str) (k : Nat) (ps : List Str) (sp : Sp) : Prop :=
  ∃ f fd, Meth K C m f ∧ Binds K fd ps [] ∧ FnOk P w K mg base CX0 k f fd ps sp
abbrev E0 : XK := fun _ _ _ => False
section
variable {X : Cx} {k j : Nat} {ps : List Str} {sp : Sp} {x m : Str} {C : Addr} {p pos apos : Pos} {e o : Expr} {es : List Expr} {t : TA} {ta : TE}
theorem pe_def (D : DefAt X.prog X.w X.K X.mg X.base x k ps sp) (hr : Room j X.A) (hg : Gl X x) (ha : PA X (e :: es) t) (hkj : k ≤ j := by decide)
    (hdb : (x == ("__debug__" : Str)) = false := by decide) (he : starEach (e :: es) X.env = (false, eval e X.env) :: starEach es X.env := by rfl) (hpl : (backTo pos (starEach es X.env)).any (·.1) = false := by rfl) :
    PE X (.Call (.Name x p) (e :: es) [] pos) (tCall sp [] E0 t) := by
  obtain ⟨f, fd, hm, hk, hb, F⟩ := D
  exact pe_call F (hr.mono hkj) hg hm hk hb .nil pass0 ha hdb he hpl
theorem pe_mth {pl : Sem Bool} (he : PE X o ta) (c : Cls X.K C) (M : MethAt X.prog X.w X.K X.mg X.base C m k ps sp) (hr : Room j X.A) (ha : PA X (e :: es) t) (hkj : k ≤ j := by decide)
    (hst : starEach (e :: es) X.env = (false, eval e X.env) :: starEach es X.env := by rfl) (hpl : (backTo pos (starEach es X.env)).any (·.1) = false := by rfl)
    (ht : eval (.Call (.Attribute o m apos) (e :: es) [] pos) X.env = (do
      let ov ← eval o X.env
      standAt apos.atName
      let (f, first) ← holding [ov] (getMethod ov m pl)
      callWith pos f first (backTo pos (starEach (e :: es) X.env)) []) := by rfl) :
    PE X (.Call (.Attribute o m apos) (e :: es) [] pos) (tMeth C m sp [] E0 ta t) := by
  obtain ⟨f, fd, hm, hb, F⟩ := M
  exact pe_meth he c hm F (hr.mono hkj) hb .nil pass0 ha hst hpl ht
theorem pe_mth0 {pl : Sem Bool} (he : PE X o ta) (c : Cls X.K C) (M : MethAt X.prog X.w X.K X.mg X.base C m k ps sp) (hr : Room j X.A) (hkj : k ≤ j := by decide)
    (ht : eval (.Call (.Attribute o m apos) [] [] pos) X.env = (do
      let ov ← eval o X.env
      standAt apos.atName
      let (f, first) ← holding [ov] (getMethod ov m pl)
      callWith pos f first (backTo pos (starEach [] X.env)) []) := by rfl) :
    PE X (.Call (.Attribute o m apos) [] [] pos) (tMeth C m sp [] E0 ta tNil) := by
  obtain ⟨f, fd, hm, hb, F⟩ := M
  exact pe_meth0 he c hm F (hr.mono hkj) hb .nil pass0 ht
end
section
variable {X : Cx} {K : PySem.W.Frag}
theorem ix_tupK (hK : X.K = K := by rfl) : IxR X (rIxT K) := by
  subst hK
  exact ix_tup
theorem ix_listK (hK : X.K = K := by rfl) : IxR X (rIxL K) := by
  subst hK
  exact ix_list
theorem op_in_seqK (hK : X.K = K := by rfl) : OpR X (compareOp .In) (rIn K false) := by
  subst hK
  exact op_in_seq
theorem pg_tupK {es : List Expr} {k : Nat} {pos : Pos} {t : TGs} {n : Nat} (hc : X.calm = true) (h : PGs X es t)
    (hn : (assignEach es X.env).length = n := by rfl) (hst : (assignEach es X.env).findIdx? (·.1) = none := by rfl) (hK : X.K = K := by rfl) : L2.PG X (.Tuple es k pos) (gTup K n t) := by
  subst hK
  exact pg_tup hc h hn hst
end
/-! ### walks -/
theorem walk_enumT {K : PySem.W.Frag} {a : Addr} {xs : List V} : Walk (IteT K a) xs.length (fun H => SqT K H a xs) (YPair (fun i => some (.int (i : Nat))) (fun i => xs[i]?)) :=
  ⟨fun i H hi h => ⟨xs, _, h, List.getElem?_eq_getElem hi⟩, fun H h => ⟨xs, h, rfl⟩, fun i H x H' hi h ⟨T, y, e1, e2, e3, e4⟩ => ⟨T, _, _, e1, e2, e3, rfl, e4 xs h⟩⟩
theorem walk_enumS {x : Str} : Walk (IteS x) x.cps.size (fun _ => True) (fun i H v H' => ∃ T c, v = .ref T ∧ H T = none ∧ x.cps[i]? = some c ∧ H' = upd H T (.tup [.int (i : Nat), .str ⟨#[c]⟩])) :=
  ⟨fun i H hi _ => hi, fun H _ => rfl, fun i H v H' hi _ y => y⟩
/-- a loop of heaps alone -/
theorem loop_it {J : It} {n : Nat} {G : Hp → Prop} {Y : Nat → Hp → V → Hp → Prop} (w : Walk J n G Y) {B : (Hp → Prop) → V → Hp → Prop} {S : Hp → Prop} {H0 : Hp} (Pv : Nat → Hp → Prop) (h0 : Pv 0 H0) (hG : ∀ i H, i ≤ n → Pv i H → G H)
    (hs : ∀ i x H H', i < n → Pv i H → Y i H x H' → B (Pv (i + 1)) x H') (hd : ∀ H, Pv n H → S H) :
    ∃ W : Nat → Nat → Hp → Prop, (∃ m, W 0 m H0) ∧ ∀ i m H, W i m H → (J.stop i H ∧ S H) ∨ (J.go i H ∧ ∃ Nx : Hp → Prop, (∀ H', Nx H' → ∃ m', m' < m ∧ W (i + 1) m' H') ∧ ∀ x H', J.yld i H x H' → B Nx x H') := by
  refine ⟨fun i m H => m = n - i ∧ i ≤ n ∧ Pv i H, ⟨n, by simp, Nat.zero_le _, h0⟩, ?_⟩
  rintro i m H ⟨rfl, hi, p⟩
  have q := hG i H hi p
  by_cases hlt : i < n
  · exact .inr ⟨w.goes i H hlt q, Pv (i + 1), fun H' p' => ⟨n - (i + 1), by omega, rfl, hlt, p'⟩, fun x H' y => hs i x H H' hlt p (w.yields i H x H' hlt q y)⟩
  · have e : i = n := by omega
    subst e
    exact .inl ⟨w.stops H q, hd H p⟩
/-! ### heaps -/
theorem same_new {H : Hp} {p : Addr} {o : HO} (h : H p = none) : Same H (upd H p o) := fun b u e => by
  rw [upd_ne (ne_of_none e h)]
  exact e
theorem _root_.L2.Same.new {H H' : Hp} (s : Same H H') {p : Addr} {o : HO} (h : H' p = none) : Same H (upd H' p o) := s.trans (same_new h)
/-- all but the objects at S stays -/
def KeepX (S : List Addr) (H H' : Hp) : Prop := ∀ b o, H b = some o → b ∉ S → H' b = some o
theorem KeepX.refl (S : List Addr) (H : Hp) : KeepX S H H := fun _ _ e _ => e
theorem KeepX.trans {S : List Addr} {H H1 H2 : Hp} (a : KeepX S H H1) (b : KeepX S H1 H2) : KeepX S H H2 := fun c o e n => b c o (a c o e n) n
theorem KeepX.same {S : List Addr} {H H1 H2 : Hp} (a : KeepX S H H1) (b : Same H1 H2) : KeepX S H H2 := fun c o e n => b c o (a c o e n)
theorem _root_.L2.Same.keep {S : List Addr} {H H1 : Hp} (a : Same H H1) : KeepX S H H1 := fun c o e _ => a c o e
theorem KeepX.upd {S : List Addr} {H H1 : Hp} (a : KeepX S H H1) {p : Addr} {o : HO} (h : p ∈ S) : KeepX S H (L2.upd H1 p o) := fun c u e n => by
  have hne : c ≠ p := fun z => n (z ▸ h)
  rw [upd_ne hne]
  exact a c u e n
theorem KeepX.new {S : List Addr} {H H1 : Hp} (a : KeepX S H H1) {p : Addr} {o : HO} (h : H1 p = none) : KeepX S H (L2.upd H1 p o) := a.same (same_new h)
theorem KeepX.mono {S S' : List Addr} {H H1 : Hp} (a : KeepX S H H1) (h : ∀ b, b ∈ S → b ∈ S') : KeepX S' H H1 := fun c u e n => a c u e fun z => n (h c z)
/-- what is free behind was free ahead -/
theorem _root_.L2.Same.free' {H H' : Hp} (s : Same H H') {p : Addr} (h : H' p = none) : H p = none := s.free h
/-- the tuples stay -/
def TK (H H' : Hp) : Prop := ∀ b xs, H b = some (.tup xs) → H' b = some (.tup xs)
theorem _root_.L2.Same.tk {H H' : Hp} (s : Same H H') : TK H H' := fun b xs e => s b _ e
theorem TK.trans {H H1 H2 : Hp} (a : TK H H1) (b : TK H1 H2) : TK H H2 := fun c xs e => b c xs (a c xs e)
/-! ### the data -/
def AreaAt (H : Hp) (a : Addr) (A : Area) : Prop := H a = some (.tup [.int (A.start : Nat), .int (A.count : Nat), .int (A.rows : Nat), .int (A.pitch : Nat)])
theorem AreaAt.tk {H H' : Hp} {a : Addr} {A : Area} (h : AreaAt H a A) (k : TK H H') : AreaAt H' a A := k _ _ h
def StepAt (H : Hp) (p : Addr) : Step → Prop
  | .copy a b k => ∃ pa pb, H p = some (.tup [.str "copy", .ref pa, .ref pb, .int (k : Nat)]) ∧ AreaAt H pa a ∧ AreaAt H pb b
  | .fill a y k => ∃ pa, H p = some (.tup [.str "fill", .ref pa, .int y, .int (k : Nat)]) ∧ AreaAt H pa a
  | .add a c => ∃ pa, H p = some (.tup [.str "add", .ref pa, .int (c : Nat)]) ∧ AreaAt H pa a
  | .note f => H p = some (.tup [.str "note", .int (f : Nat)])
  | .fence => H p = some (.tup [.str "fence"])
theorem StepAt.tk {H H' : Hp} {p : Addr} {s : Step} (h : StepAt H p s) (k : TK H H') : StepAt H' p s := by
  cases s with
  | copy a b n => obtain ⟨pa, pb, h1, h2, h3⟩ := h; exact ⟨pa, pb, k _ _ h1, h2.tk k, h3.tk k⟩
  | fill a y n => obtain ⟨pa, h1, h2⟩ := h; exact ⟨pa, k _ _ h1, h2.tk k⟩
  | add a c => obtain ⟨pa, h1, h2⟩ := h; exact ⟨pa, k _ _ h1, h2.tk k⟩
  | note f => exact k _ _ h
  | fence => exact k _ _ h
/-- steps at addresses, one behind the other -/
def StepsAt (H : Hp) (ps : List Addr) (ss : List Step) : Prop := ps.length = ss.length ∧ ∀ (i : Nat) (p : Addr) (s : Step), ps[i]? = some p → ss[i]? = some s → StepAt H p s
theorem StepsAt.tk {H H' : Hp} {ps : List Addr} {ss : List Step} (h : StepsAt H ps ss) (k : TK H H') : StepsAt H' ps ss := ⟨h.1, fun i p s e1 e2 => (h.2 i p s e1 e2).tk k⟩
theorem StepsAt.get {H : Hp} {ps : List Addr} {ss : List Step} (h : StepsAt H ps ss) {i : Nat} (hi : i < ps.length) : ∃ p s, ps[i]? = some p ∧ ss[i]? = some s ∧ StepAt H p s := by
  have h2 : i < ss.length := h.1 ▸ hi
  exact ⟨ps[i], ss[i], List.getElem?_eq_getElem hi, List.getElem?_eq_getElem h2, h.2 i _ _ (List.getElem?_eq_getElem hi) (List.getElem?_eq_getElem h2)⟩
theorem StepsAt.nil (H : Hp) : StepsAt H [] [] := ⟨rfl, fun i p s e => by simp at e⟩
theorem StepsAt.snoc {H : Hp} {ps : List Addr} {ss : List Step} (h : StepsAt H ps ss) {p : Addr} {s : Step} (hs : StepAt H p s) : StepsAt H (ps ++ [p]) (ss ++ [s]) := by
  refine ⟨by rw [List.length_append, List.length_append, h.1]; rfl, fun i q t e1 e2 => ?_⟩
  by_cases hi : i < ps.length
  · rw [List.getElem?_append_left hi] at e1
    rw [List.getElem?_append_left (h.1 ▸ hi)] at e2
    exact h.2 i q t e1 e2
  · have hi2 : i < (ps ++ [p]).length := (List.getElem?_eq_some_iff.mp e1).1
    rw [List.length_append, List.length_singleton] at hi2
    have e : i = ps.length := by omega
    subst e
    rw [List.getElem?_append_right (Nat.le_refl _), Nat.sub_self] at e1
    rw [h.1, List.getElem?_append_right (Nat.le_refl _), Nat.sub_self] at e2
    cases e1
    cases e2
    exact hs
abbrev refsV (ps : List Addr) : List V := ps.map V.ref
abbrev intsV (m : List Int) : List V := m.map V.int
theorem intsV_set (m : List Int) (n : Nat) (v : Int) : (intsV m).set n (.int v) = intsV (m.set n v) := List.map_set.symm
abbrev natsV (l : List Nat) : List V := l.map fun c => V.int (c : Nat)
end Hl
end

section
set_option Elab.async false
set_option linter.all false
set_option maxRecDepth 100000
set_option maxHeartbeats 4000000
/-! words.py, areas.py -/
namespace Hl
open PySem PySem.Spec PyProof.Rows L2
/-! ### isinstance, as this program asks it -/
inductive IsA (K : PySem.W.Frag) (H : Hp) : V → V → Bool → Prop where
  | int (n : Int) : IsA K H (.int n) (.ty "int") true
  | intB (n : Int) : IsA K H (.int n) (.ty "bool") false
  | str (x : Str) : IsA K H (.str x) (.ty "str") true
  | tup {a : Addr} {xs : List V} (h : H a = some (.tup xs)) : IsA K H (.ref a) (.ty "tuple") true
  | own {a C dx : Addr} {fs : List (Str × V)} (h : H a = some (.ins C dx fs)) (cl : Cls K C) (h1 : PySem.W.findIn K (.ref C) "__class__" = some (some (.builtin "object.__class__")))
      (h2 : PySem.W.specialIn K (.builtin "object.__class__") "__get__" = some (some (.builtin "getset_descriptor.__get__"))) (h3 : PySem.W.takesIn K (.builtin "object.__class__") = some true)
      (h4 : PySem.W.mroIn K C (.type "object") = some true) (h5 : PySem.W.kitOne K (.ref C) (.ref C) = some true) : IsA K H (.ref a) (.ref C) true
def rIsA (K : PySem.W.Frag) : List V → Hp → VK → Prop := fun vs H Q => ∃ x c b, vs = [x, c] ∧ IsA K H x c b ∧ Q (.bl b) H
section
variable {X : Cx} {pos : Pos} {e : Expr}
theorem call_isA : CallR X (.builtin "isinstance") (rIsA X.K) := by
  intro pins s σ H xs us Q I r h
  obtain ⟨x, c, b, rfl, ia, q⟩ := h
  refine call_isi pins s σ H _ us Q I r ?_
  cases ia with
  | int n => exact ⟨_, _, _, _, _, rfl, .ty _, .base (.int n), kit_ty (by decide +kernel), q⟩
  | intB n => exact ⟨_, _, _, _, _, rfl, .ty _, .base (.int n), kit_ty (by decide +kernel), q⟩
  | str n => exact ⟨_, _, _, _, _, rfl, .ty _, .base (.str n), kit_ty (by decide +kernel), q⟩
  | tup hh => exact ⟨_, _, _, _, _, rfl, .ty _, .base (.tup hh), kit_ty (by decide +kernel), q⟩
  | own hh cl h1 h2 h3 h4 h5 => exact ⟨_, _, _, _, _, rfl, .own _, .base (.ins hh cl h1 h2 h3 h4), h5, q⟩
theorem pe_nev : PE X e (fun _ _ _ => False) := ⟨fun _ _ _ _ _ _ h => h.elim⟩
end
/-! ### is_whole -/
def spIsw : Sp := fun vs H Q _ => ∃ n lo hi, vs = [.int n, .int lo, .int hi] ∧ Q (.bl (decide (lo ≤ n ∧ n ≤ hi))) H
def IswAt (P : Program) (w : World) (K : PySem.W.Frag) (mg : Str → Option Value) (base : Heap) (k : Nat) : Prop :=
  ∃ f fd, mg "is_whole" = some (.ref f) ∧ PySem.W.keepIn K (.ref f) = true ∧ FnOk P w K mg base CX0 k f fd ["thing", "least", "most"] spIsw ∧
    (∃ g, KBn K fd ["thing", "least", "most"] 1 ["most"] g (fun vs zs => vs ++ [V.int 0] ++ zs)) ∧ ∃ g, KBn K fd ["thing", "least", "most"] 1 ["least", "most"] g (fun vs zs => vs ++ zs)
def tIsw1 (ta tk : TA) : TE := fun σ H Q => ta σ H fun vs H1 => tk σ H1 fun zs H2 => ∃ n hi, vs = [.int n] ∧ zs = [.int hi] ∧ Q (.bl (decide (0 ≤ n ∧ n ≤ hi))) H2
def tIsw2 (ta tk : TA) : TE := fun σ H Q => ta σ H fun vs H1 => tk σ H1 fun zs H2 => ∃ n lo hi, vs = [.int n] ∧ zs = [.int lo, .int hi] ∧ Q (.bl (decide (lo ≤ n ∧ n ≤ hi))) H2
section
variable {X : Cx} {k j : Nat} {p pos : Pos} {e : Expr} {kws : List Keyword} {ta tk : TA}
theorem pe_isw1 (D : IswAt X.prog X.w X.K X.mg X.base k) (hr : Room j X.A) (hg : Gl X "is_whole") (ha : PA X [e] ta) (hkw : PK X kws tk) (hkj : k ≤ j := by decide) (hall : (backToKw pos (keywordEach kws X.env)).all (·.1.isSome) = true := by rfl) (hks : (backToKw pos (keywordEach kws X.env)).filterMap (·.1) = [("most" : Str)] := by rfl)
    (hdb : (("is_whole" : Str) == ("__debug__" : Str)) = false := by decide) (he : starEach [e] X.env = (false, eval e X.env) :: starEach [] X.env := by rfl)
    (hpl : ((backTo pos (starEach [e] X.env)).any (·.1) || (backToKw pos (keywordEach kws X.env)).any (·.1.isNone)) = false := by rfl) :
    PE X (.Call (.Name "is_whole" p) [e] kws pos) (tIsw1 ta tk) := by
  obtain ⟨f, fd, hm, hk, F, ⟨g, hb⟩, _⟩ := D
  refine ⟨fun pins s σ H Q I h => ?_⟩
  refine wpAny_Call_Name_kw (ld_glob I hg hm ?_ hdb)
  refine PySem.W.callWith_KW (h₀ := X.base) I.ok.mod.kin hk hall (thn (ha.run pos pins s σ H _ I h) fun us s1 ⟨vs, H1, I1, r, q⟩ => ?_) hpl he
  refine thn (hkw.run pos pins s1 σ H1 _ I1 q) fun ws s2 ⟨zs, H2, I2, rz, n, hi, e1, e2, q2⟩ => ⟨I2.kIn, ?_⟩
  rw [hks]
  subst e1 e2
  exact run_fnN (F.mono (Nat.le_refl k)) (hr.mono hkj) hb (show Passes CX0 X E0 from pass0) I2 r rz rfl rfl ⟨n, 0, hi, rfl, q2⟩
theorem pe_isw2 (D : IswAt X.prog X.w X.K X.mg X.base k) (hr : Room j X.A) (hg : Gl X "is_whole") (ha : PA X [e] ta) (hkw : PK X kws tk) (hkj : k ≤ j := by decide) (hall : (backToKw pos (keywordEach kws X.env)).all (·.1.isSome) = true := by rfl) (hks : (backToKw pos (keywordEach kws X.env)).filterMap (·.1) = [("least" : Str), "most"] := by rfl)
    (hdb : (("is_whole" : Str) == ("__debug__" : Str)) = false := by decide) (he : starEach [e] X.env = (false, eval e X.env) :: starEach [] X.env := by rfl)
    (hpl : ((backTo pos (starEach [e] X.env)).any (·.1) || (backToKw pos (keywordEach kws X.env)).any (·.1.isNone)) = false := by rfl) :
    PE X (.Call (.Name "is_whole" p) [e] kws pos) (tIsw2 ta tk) := by
  obtain ⟨f, fd, hm, hk, F, _, ⟨g, hb⟩⟩ := D
  refine ⟨fun pins s σ H Q I h => ?_⟩
  refine wpAny_Call_Name_kw (ld_glob I hg hm ?_ hdb)
  refine PySem.W.callWith_KW (h₀ := X.base) I.ok.mod.kin hk hall (thn (ha.run pos pins s σ H _ I h) fun us s1 ⟨vs, H1, I1, r, q⟩ => ?_) hpl he
  refine thn (hkw.run pos pins s1 σ H1 _ I1 q) fun ws s2 ⟨zs, H2, I2, rz, n, lo, hi, e1, e2, q2⟩ => ⟨I2.kIn, ?_⟩
  rw [hks]
  subst e1 e2
  exact run_fnN (F.mono (Nat.le_refl k)) (hr.mono hkj) hb (show Passes CX0 X E0 from pass0) I2 r rz rfl rfl ⟨n, lo, hi, rfl, q2⟩
end
section
variable {P : Program} {w : World} {K : PySem.W.Frag} {mg : Str → Option Value} {base : Heap}
abbrev N_is_whole : List Str := ["thing", "least", "most"]
theorem sc_is_whole : FnScope N_is_whole ["thing", "least", "most"] (defScope s_is_whole) := ⟨rfl, rfl, rfl, by decide +kernel, rfl, by decide +kernel, by decide +kernel⟩
theorem D_is_whole (T : Txt K mg) : IswAt P w K mg base 1 := by
  obtain ⟨fd, F⟩ := T.f_is_whole
  refine ⟨He.fAd K ("is_whole", none), fd, ?_, F.kp, ?_, ?_, ?_⟩
  · exact T.g_is_whole
  · refine F.ok sc_is_whole (fun vs H Q E h => ?_) (fun cdv A outer s H vs Q E hr h => ?_)
    · obtain ⟨n, lo, hi, rfl, _⟩ := h
      rfl
    · obtain ⟨n, lo, hi, rfl, q⟩ := h
      refine ⟨_, PSs.nox (pss_one (ps_ret (pe_and (pe_callB call_isA (by rfl) T.r_isinstance (by decide +kernel) (pa_cons (pv 0) (pa_cons (pe_bltn (v := .ty "int") (by rfl) T.r_int (by decide +kernel) rfl) pa_nil))) (pe_and (pe_not (pe_callB call_isA (by rfl) T.r_isinstance (by decide +kernel) (pa_cons (pv 0) (pa_cons (pe_bltn (v := .ty "bool") (by rfl) T.r_bool (by decide +kernel) rfl) pa_nil)))) (pe_one (pe_chain op_le op_le (pv 1) (pv 0) (pv 2))))))), ?_⟩
      refine ⟨_, rfl, _, _, _, rfl, .int n, true, rfl, iteT ?_⟩
      refine ⟨_, rfl, _, _, _, rfl, .intB n, false, rfl, true, rfl, iteT ?_⟩
      refine ⟨_, rfl, _, rfl, _, _, rfl, rfl, _, rfl, ?_⟩
      refine ite2 (fun h1 => ?_) fun h1 => ?_
      · refine ⟨_, rfl, _, _, rfl, rfl, ?_⟩
        have e1 : lo ≤ n := of_decide_eq_true h1
        show Q (.bl (decide (n ≤ hi))) H
        rw [show decide (n ≤ hi) = decide (lo ≤ n ∧ n ≤ hi) by simp [e1]]
        exact q
      · have e1 : ¬ lo ≤ n := fun z => h1 (decide_eq_true z)
        rw [show decide (lo ≤ n ∧ n ≤ hi) = false by simp [e1]] at q
        exact q
  · obtain ⟨mv, hb⟩ := F.kbinds0 (ps := ["thing", "least", "most"]) 1 ["most"] [("least", .int 0)] (fun us mv ws => us ++ mv ++ ws) (by decide) (by simp) (fun r1 r2 r3 => (r1.append r2).append r3)
      (fun D doc pm an cdv ct us mv ws l1 l2 l3 => by
        match us, mv, ws, l1, l2, l3 with
        | [u], [m], [z], _, _, _ => exact ⟨_, _, _, _, _, _, rfl, rfl, rfl⟩)
    exact ⟨_, hb⟩
  · obtain ⟨mv, hb⟩ := F.kbinds0 (ps := ["thing", "least", "most"]) 1 ["least", "most"] [] (fun us mv ws => us ++ ws) (by decide) (by simp) (fun r1 r2 r3 => r1.append r3)
      (fun D doc pm an cdv ct us mv ws l1 l2 l3 => by
        match us, ws, l1, l3 with
        | [u], [m, z], _, _ => exact rfl)
    exact ⟨_, hb⟩
end
end Hl
end

section
set_option Elab.async false
set_option linter.all false
set_option maxRecDepth 100000
set_option maxHeartbeats 4000000
namespace Hl
open PySem PySem.Spec PyProof.Rows L2
def sp_is_byte (K : PySem.W.Frag) : Sp := fun vs H Q _ => ∃ n, vs = [.int n] ∧ Q (.bl (decide (0 ≤ n ∧ n ≤ 255))) H
def sp_is_flag (K : PySem.W.Frag) : Sp := fun vs H Q _ => ∃ n, vs = [.int n] ∧ Q (.bl (decide (0 ≤ n ∧ n ≤ 7))) H
def sp_is_memory (K : PySem.W.Frag) : Sp := fun vs H Q _ => ∃ a m, vs = [.ref a] ∧ H a = some (.tup (intsV m)) ∧ AllB m ∧ 1 ≤ m.length ∧ m.length ≤ 30 ∧ ∀ H', Same H H' → Q (.bl true) H'
def sp_own_size (K : PySem.W.Frag) : Sp := fun vs H Q _ => ∃ a A, vs = [.ref a] ∧ AreaAt H a A ∧ A.Ok 30 ∧ Q (.int (A.size : Nat)) H
def sp_own_cells (K : PySem.W.Frag) : Sp := fun vs H Q _ => ∃ a A, vs = [.ref a] ∧ AreaAt H a A ∧ A.Ok 30 ∧ ∀ H' t, Same H H' → H t = none → H' t = some (.tup (natsV A.cells)) → Q (.ref t) H'
def sp_area_wrong (K : PySem.W.Frag) : Sp := fun vs H Q _ => ∃ a A, vs = [.ref a] ∧ AreaAt H a A ∧ A.Ok 30 ∧ ∀ H' l, Same H H' → H l = none → H' l = some (.lst []) → Q (.ref l) H'
section
variable {P : Program} {w : World} {K : PySem.W.Frag} {mg : Str → Option Value} {base : Heap}
abbrev N_is_byte : List Str := ["thing"]
theorem sc_is_byte : FnScope N_is_byte ["thing"] (defScope s_is_byte) := ⟨rfl, rfl, rfl, by decide +kernel, rfl, by decide +kernel, by decide +kernel⟩
theorem D_is_byte (T : Txt K mg) (TW : TxtW K w) : DefAt P w K mg base "is_byte" 2 ["thing"] (sp_is_byte K) := by
  obtain ⟨fd, F⟩ := T.f_is_byte
  have D_is_whole := D_is_whole (P := P) (w := w) (base := base) T
  obtain ⟨t_GREATEST_BYTE, g_GREATEST_BYTE⟩ := T.i_GREATEST_BYTE
  refine ⟨He.fAd K ("is_byte", none), fd, T.g_is_byte, F.kp, F.bindsN (fun _ _ _ _ _ _ us hl => match us, hl with | [_], _ => rfl), ?_⟩
  refine F.ok sc_is_byte (fun vs H Q E h => ?_) (fun cdv A outer s H vs Q E hr h => ?_)
  · obtain ⟨_, rfl, _⟩ := h
    rfl
  · obtain ⟨n, rfl, q⟩ := h
    refine ⟨_, PSs.nox (pss_one (ps_ret (pe_isw1 D_is_whole hr (by rfl) (pa_cons (pv 0) pa_nil) (pk_cons (pe_glob (v := .int 255) (by rfl) g_GREATEST_BYTE ⟨_, rfl⟩) pk_nil)))), ?_⟩
    exact ⟨_, rfl, n, 255, rfl, rfl, q⟩
abbrev N_is_flag : List Str := ["thing"]
theorem sc_is_flag : FnScope N_is_flag ["thing"] (defScope s_is_flag) := ⟨rfl, rfl, rfl, by decide +kernel, rfl, by decide +kernel, by decide +kernel⟩
theorem D_is_flag (T : Txt K mg) (TW : TxtW K w) : DefAt P w K mg base "is_flag" 2 ["thing"] (sp_is_flag K) := by
  obtain ⟨fd, F⟩ := T.f_is_flag
  have D_is_whole := D_is_whole (P := P) (w := w) (base := base) T
  obtain ⟨t_FLAGS, g_FLAGS⟩ := T.i_FLAGS
  refine ⟨He.fAd K ("is_flag", none), fd, T.g_is_flag, F.kp, F.bindsN (fun _ _ _ _ _ _ us hl => match us, hl with | [_], _ => rfl), ?_⟩
  refine F.ok sc_is_flag (fun vs H Q E h => ?_) (fun cdv A outer s H vs Q E hr h => ?_)
  · obtain ⟨_, rfl, _⟩ := h
    rfl
  · obtain ⟨n, rfl, q⟩ := h
    refine ⟨_, PSs.nox (pss_one (ps_ret (pe_isw1 D_is_whole hr (by rfl) (pa_cons (pv 0) pa_nil) (pk_cons (pe_op op_sub (pe_glob (v := .int 8) (by rfl) g_FLAGS ⟨_, rfl⟩) pe_int) pk_nil)))), ?_⟩
    exact ⟨_, rfl, _, _, rfl, rfl, n, _, rfl, rfl, q⟩
abbrev N_is_memory : List Str := ["thing", "one"]
theorem sc_is_memory : FnScope N_is_memory ["thing"] (defScope s_is_memory) := ⟨rfl, rfl, rfl, by decide +kernel, rfl, by decide +kernel, by decide +kernel⟩
theorem D_is_memory (T : Txt K mg) (TW : TxtW K w) : DefAt P w K mg base "is_memory" 3 ["thing"] (sp_is_memory K) := by
  obtain ⟨fd, F⟩ := T.f_is_memory
  have D_is_byte := D_is_byte (P := P) (w := w) (base := base) T TW
  obtain ⟨t_MOST_CELLS, g_MOST_CELLS⟩ := T.i_MOST_CELLS
  refine ⟨He.fAd K ("is_memory", none), fd, T.g_is_memory, F.kp, F.bindsN (fun _ _ _ _ _ _ us hl => match us, hl with | [_], _ => rfl), ?_⟩
  refine F.ok sc_is_memory (fun vs H Q E h => ?_) (fun cdv A outer s H vs Q E hr h => ?_)
  · obtain ⟨_, _, rfl, _⟩ := h
    rfl
  · obtain ⟨a, m, rfl, ha, hb, h1, h2, q⟩ := h
    refine ⟨_, PSs.nox (pss_cons (ps_if (PW.pt (pw_or (pt_not (pt_val (pe_callB call_isA (by rfl) T.r_isinstance (by decide +kernel) (pa_cons (pv 0) (pa_cons (pe_bltn (v := .ty "tuple") (by rfl) T.r_tuple (by decide +kernel) rfl) pa_nil))))) (pw_or1 (pt_not (pt_chain op_le op_le pe_int (pe_callB call_len_seq (by rfl) T.r_len (by decide +kernel) (pa_cons (pv 0) pa_nil)) (pe_glob (v := .int 1024) (by rfl) g_MOST_CELLS ⟨_, rfl⟩)))))) (pss_one (ps_ret pe_bl)) pss_nil)
      (pss_one (ps_ret (pe_callB (cr_all rfl) (by rfl) T.r_all (by decide +kernel) (pa_cons (pe_lc (own := [("one", 1)]) (g := (gName 1)) rfl sc_is_memory.nd (pi_tup (pv 0)) (blkOk_by (own := [("one", 1)]) (N := N_is_memory) (sc := defScope s_is_memory) (by decide +kernel)) (fun _ _ _ _ _ => (pg_name (i := 1) sc_is_memory.nd rfl (Or.inl rfl))) (fun _ _ _ _ _ => pts_nil) (fun _ _ _ _ _ => (pe_def D_is_byte hr (by rfl) (pa_cons (pv 1) pa_nil)))) pa_nil))))), ?_⟩
    refine ⟨_, rfl, _, _, _, rfl, .tup ha, true, rfl, iteF ?_⟩
    refine ⟨_, rfl, a, _, rfl, .inr (SqT.of ha), _, _, rfl, rfl, _, rfl, ite2 (fun _ => ?_) fun z => ?_⟩
    rotate_left
    · exact absurd (decide_eq_true (by rw [List.length_map]; omega)) z
    refine ⟨_, _, rfl, rfl, _, rfl, iteNS (by rw [List.length_map]; omega) ?_⟩
    refine ⟨_, rfl, a, rfl, ⟨_, SqT.of ha⟩, fun D nD => ?_⟩
    refine lc_it (walk_tup (xs := intsV m)) (fun i H1 => Same H H1 ∧ H1 D = some (.lst ((List.replicate i true).map V.bl))) ⟨same_new nD, upd_same⟩ (fun i H1 _ p => SqT.of (p.1 _ _ ha)) (fun i x H1 H2 hi p y => ?_) (fun H1 p => ?_)
    · obtain ⟨s1, hD⟩ := p
      obtain ⟨rfl, ex⟩ := y
      rw [List.getElem?_map] at ex
      obtain ⟨n, en, rfl⟩ := Option.map_eq_some_iff.mp ex
      obtain ⟨b0, b1⟩ := hb n (List.mem_of_getElem? en)
      refine ⟨rfl, _, rfl, n, rfl, _, hD, ?_, ?_, ?_⟩
      · rw [List.length_map, List.length_replicate, sizeLine_eq]
        rw [List.length_map] at hi
        omega
      · exact fun b o e => by
          have hne : b ≠ D := ne_of_none e nD
          rw [upd_ne hne]
          exact s1 b o e
      · rw [upd_same, decide_eq_true (show 0 ≤ n ∧ n ≤ 255 from ⟨b0, b1⟩), List.replicate_succ', List.map_append]
        rfl
    · obtain ⟨s1, hD⟩ := p
      refine ⟨D, List.replicate (intsV m).length true, rfl, SqL.of hD, ?_⟩
      rw [show (List.replicate (intsV m).length true).all id = true by simp]
      exact q H1 s1
abbrev N_own_size : List Str := ["area", "start", "count", "rows", "pitch"]
theorem sc_own_size : FnScope N_own_size ["area"] (defScope s_own_size) := ⟨rfl, rfl, rfl, by decide +kernel, rfl, by decide +kernel, by decide +kernel⟩
theorem D_own_size (T : Txt K mg) (TW : TxtW K w) : DefAt P w K mg base "own_size" 1 ["area"] (sp_own_size K) := by
  obtain ⟨fd, F⟩ := T.f_own_size
  refine ⟨He.fAd K ("own_size", none), fd, T.g_own_size, F.kp, F.bindsN (fun _ _ _ _ _ _ us hl => match us, hl with | [_], _ => rfl), ?_⟩
  refine F.ok sc_own_size (fun vs H Q E h => ?_) (fun cdv A outer s H vs Q E hr h => ?_)
  · obtain ⟨_, _, rfl, _⟩ := h
    rfl
  · obtain ⟨a, A, rfl, ha, ok, q⟩ := h
    refine ⟨_, PSs.nox (pss_cons (ps_asg (pv 0) (pg_tupK (K := K) (n := 4) rfl (pgs_cons (pg_name (i := 1) sc_own_size.nd rfl (Or.inl rfl)) (pgs_cons (pg_name (i := 2) sc_own_size.nd rfl (Or.inl rfl)) (pgs_cons (pg_name (i := 3) sc_own_size.nd rfl (Or.inl rfl)) (pgs_cons (pg_name (i := 4) sc_own_size.nd rfl (Or.inl rfl)) pgs_nil))))))
      (pss_one (ps_ret (pe_op op_mul (pv 2) (pv 3))))), ?_⟩
    refine ⟨_, rfl, a, _, rfl, SqT.of ha, rfl, _, _, rfl, _, _, rfl, _, _, rfl, _, _, rfl, rfl, _, rfl, _, rfl, _, _, rfl, rfl, .inl ⟨?_, ?_⟩, ?_⟩
    · have := ok.six
      have := Nat.le_mul_of_pos_left A.count ok.r1
      omega
    · have := ok.six
      have := Nat.le_mul_of_pos_left A.count ok.r1
      omega
    · have e : ((A.count : Nat) : Int) * ((A.rows : Nat) : Int) = ((A.size : Nat) : Int) := by unfold Area.size; rw [Int.natCast_mul]
      show Q (.int (((A.count : Nat) : Int) * ((A.rows : Nat) : Int))) H
      rw [e]
      exact q
abbrev N_own_cells : List Str := ["area", "start", "count", "rows", "pitch", "row", "spot"]
theorem sc_own_cells : FnScope N_own_cells ["area"] (defScope s_own_cells) := ⟨rfl, rfl, rfl, by decide +kernel, rfl, by decide +kernel, by decide +kernel⟩
theorem D_own_cells (T : Txt K mg) (TW : TxtW K w) : DefAt P w K mg base "own_cells" 1 ["area"] (sp_own_cells K) := by
  obtain ⟨fd, F⟩ := T.f_own_cells
  refine ⟨He.fAd K ("own_cells", none), fd, T.g_own_cells, F.kp, F.bindsN (fun _ _ _ _ _ _ us hl => match us, hl with | [_], _ => rfl), ?_⟩
  refine F.ok sc_own_cells (fun vs H Q E h => ?_) (fun cdv A outer s H vs Q E hr h => ?_)
  · obtain ⟨_, _, rfl, _⟩ := h
    rfl
  · obtain ⟨a, A, rfl, ha, ok, q⟩ := h
    have b1 : A.count ≤ 6 := by
      have := ok.six
      have := Nat.le_mul_of_pos_left A.count ok.r1
      omega
    have b2 : A.rows ≤ 6 := by
      have := ok.six
      have := Nat.le_mul_of_pos_right A.rows ok.c1
      omega
    have b3 : A.start < 30 := by
      have := ok.fit
      have := ok.c1
      omega
    have b4 : A.pitch ≤ 30 := by
      have := ok.fit
      by_cases z : A.rows = 1
      · rw [ok.one z]; omega
      · have : 1 * A.pitch ≤ (A.rows - 1) * A.pitch := Nat.mul_le_mul_right _ (by have := ok.r1; omega)
        omega
    refine ⟨_, PSs.nox (pss_cons (ps_asg (pv 0) (pg_tupK (K := K) (n := 4) rfl (pgs_cons (pg_name (i := 1) sc_own_cells.nd rfl (Or.inr rfl)) (pgs_cons (pg_name (i := 2) sc_own_cells.nd rfl (Or.inr rfl)) (pgs_cons (pg_name (i := 3) sc_own_cells.nd rfl (Or.inl rfl)) (pgs_cons (pg_name (i := 4) sc_own_cells.nd rfl (Or.inr rfl)) pgs_nil))))))
      (pss_one (ps_ret (pe_callTy call_tuple_of (by rfl) T.r_tuple (by decide +kernel) (pa_cons (pe_lc2 (own := [("row", 5), ("spot", 6)]) (vs1 := [6]) rfl sc_own_cells.nd (pi_range1 (by rfl) T.r_range (pa_cons (pv 3) pa_nil)) (blkOk_by (own := [("row", 5), ("spot", 6)]) (N := N_own_cells) (sc := defScope s_own_cells) (by decide +kernel)) (by decide) (fun _ _ _ _ _ => (pg_name (i := 5) sc_own_cells.nd rfl (Or.inl rfl))) (fun _ _ _ _ _ => pts_nil) (fun _ _ _ _ _ => (pi_range1 (by rfl) T.r_range (pa_cons (pv 2) pa_nil))) (fun _ _ _ _ _ => (pg_name (i := 6) sc_own_cells.nd rfl (Or.inl rfl))) (fun _ _ _ _ _ => pts_nil) (fun _ _ _ _ _ => (pe_op op_add (pe_op op_add (pv 1) (pe_op op_mul (pv 5) (pv 4))) (pv 6)))) pa_nil))))), ?_⟩
    refine ⟨_, rfl, a, _, rfl, SqT.of ha, rfl, _, _, rfl, _, _, rfl, _, _, rfl, _, _, rfl, rfl, _, rfl, _, rfl, by omega, by omega, fun D nD => ?_⟩
    let rowL : Nat → List V := fun r => (List.range A.count).map fun s => V.int ((A.start + r * A.pitch + s : Nat) : Int)
    let doneL : Nat → List V := fun r => (List.range r).flatMap rowL
    have dl : ∀ r, doneL (r + 1) = doneL r ++ rowL r := fun r => by
      show (List.range (r + 1)).flatMap rowL = _
      rw [List.range_succ, List.flatMap_append, List.flatMap_singleton]
    have ll : ∀ r, (doneL r).length = r * A.count := fun r => by
      show ((List.range r).flatMap rowL).length = _
      rw [flatMap_len rowL A.count _ fun x _ => by show ((List.range A.count).map _).length = _; rw [List.length_map, List.length_range], List.length_range]
    have fin : doneL A.rows = natsV A.cells := by
      show (List.range A.rows).flatMap rowL = (Area.cells A).map _
      unfold Area.cells
      rw [List.map_flatMap]
      congr 1
      funext r
      show (List.range A.count).map _ = ((List.range A.count).map _).map _
      rw [List.map_map]
      rfl
    refine loop_it (walk_range (lo := 0) (n := A.rows)) (fun i H1 => Same H H1 ∧ H1 D = some (.lst (doneL i))) ⟨same_new nD, upd_same⟩ (fun _ _ _ _ => trivial) (fun i x H1 H2 hi p y => ?_) (fun H1 p => ?_)
    · obtain ⟨rfl, rfl⟩ := y
      refine ⟨rfl, _, rfl, _, rfl, by omega, by omega, ?_⟩
      refine loop_it (walk_range (lo := 0) (n := A.count)) (fun j H1 => Same H H1 ∧ H1 D = some (.lst (doneL i ++ (rowL i).take j))) (by simpa using p) (fun _ _ _ _ => trivial) (fun j x H3 H4 hj p y => ?_) (fun H3 p => ?_)
      · obtain ⟨s1, hD⟩ := p
        obtain ⟨rfl, rfl⟩ := y
        refine ⟨rfl, _, rfl, _, rfl, _, rfl, _, _, rfl, rfl, .inl ⟨by omega, by omega⟩, _, _, rfl, rfl, _, rfl, _, _, rfl, rfl, _, hD, ?_, ?_, ?_⟩
        · have : i * A.count ≤ 6 * 6 := Nat.mul_le_mul (by omega) b1
          rw [List.length_append, ll, List.length_take, sizeLine_eq]
          omega
        · exact fun b o e => by
            have hne : b ≠ D := ne_of_none e nD
            rw [upd_ne hne]
            exact s1 b o e
        · have ej : (rowL i)[j]? = some (V.int ((A.start + i * A.pitch + j : Nat) : Int)) := by
            show ((List.range A.count).map _)[j]? = _
            rw [List.getElem?_map, List.getElem?_range hj]
            rfl
          rw [upd_same, List.take_add_one, ej, ← List.append_assoc]
          show some (HO.lst (_ ++ [V.int ((A.start : Int) + (0 + (i : Int)) * (A.pitch : Int) + (0 + (j : Int)))])) = _
          have e : (A.start : Int) + (0 + (i : Int)) * (A.pitch : Int) + (0 + (j : Int)) = ((A.start + i * A.pitch + j : Nat) : Int) := by
            rw [Int.zero_add, Int.zero_add, Int.natCast_add, Int.natCast_add, Int.natCast_mul]
          rw [e]
          rfl
      · obtain ⟨s1, hD⟩ := p
        refine ⟨s1, ?_⟩
        rw [hD, dl, List.take_of_length_le]
        show ((List.range A.count).map _).length ≤ _
        rw [List.length_map, List.length_range]
        exact Nat.le_refl _
    · obtain ⟨s1, hD⟩ := p
      rw [fin] at hD
      exact ⟨D, _, rfl, .inl ⟨SqL.of hD, fun t nt => q _ t (Same.new s1 nt) (Same.free s1 nt) upd_same⟩⟩
abbrev N_area_wrong : List Str := ["thing", "bounds", "number", "least", "most", "start", "count", "rows", "pitch", "is_beyond"]
theorem sc_area_wrong : FnScope N_area_wrong ["thing"] (defScope s_area_wrong) := ⟨rfl, rfl, rfl, by decide +kernel, rfl, by decide +kernel, by decide +kernel⟩
theorem D_area_wrong (T : Txt K mg) (TW : TxtW K w) : DefAt P w K mg base "area_wrong" 2 ["thing"] (sp_area_wrong K) := by
  obtain ⟨fd, F⟩ := T.f_area_wrong
  have D_is_whole := D_is_whole (P := P) (w := w) (base := base) T
  obtain ⟨t_GREATEST_CELL, g_GREATEST_CELL⟩ := T.i_GREATEST_CELL
  obtain ⟨t_MOST_AREA, g_MOST_AREA⟩ := T.i_MOST_AREA
  obtain ⟨t_MOST_CELLS, g_MOST_CELLS⟩ := T.i_MOST_CELLS
  refine ⟨He.fAd K ("area_wrong", none), fd, T.g_area_wrong, F.kp, F.bindsN (fun _ _ _ _ _ _ us hl => match us, hl with | [_], _ => rfl), ?_⟩
  refine F.ok sc_area_wrong (fun vs H Q E h => ?_) (fun cdv A outer s H vs Q E hr h => ?_)
  · obtain ⟨_, _, rfl, _⟩ := h
    rfl
  · obtain ⟨a, A, rfl, ha, ok, q⟩ := h
    have b1 : A.count ≤ 6 := by
      have := ok.six
      have := Nat.le_mul_of_pos_left A.count ok.r1
      omega
    have b2 : A.rows ≤ 6 := by
      have := ok.six
      have := Nat.le_mul_of_pos_right A.rows ok.c1
      omega
    have b3 : A.start < 30 := by
      have := ok.fit
      have := ok.c1
      omega
    have b4 : A.pitch ≤ 30 := by
      have := ok.fit
      by_cases z : A.rows = 1
      · rw [ok.one z]; omega
      · have : 1 * A.pitch ≤ (A.rows - 1) * A.pitch := Nat.mul_le_mul_right _ (by have := ok.r1; omega)
        omega
    refine ⟨_, PSs.nox (pss_cons (ps_if (PW.pt (pw_or (pt_not (pt_val (pe_callB call_isA (by rfl) T.r_isinstance (by decide +kernel) (pa_cons (pv 0) (pa_cons (pe_bltn (v := .ty "tuple") (by rfl) T.r_tuple (by decide +kernel) rfl) pa_nil))))) (pw_or1 (pt_cmpR op_ne (pe_callB call_len_seq (by rfl) T.r_len (by decide +kernel) (pa_cons (pv 0) pa_nil)) pe_int (nomark _))))) (pss_one (ps_ret (pe_lst (pa_cons pe_non pa_nil)))) pss_nil)
      (pss_cons (ps_set (i := 1) sc_area_wrong.nd rfl (Or.inl rfl) (pe_tup (pa_cons (pe_tup (pa_cons pe_int (pa_cons (pe_glob (v := .int 1023) (by rfl) g_GREATEST_CELL ⟨_, rfl⟩) pa_nil))) (pa_cons (pe_tup (pa_cons pe_int (pa_cons (pe_glob (v := .int 256) (by rfl) g_MOST_AREA ⟨_, rfl⟩) pa_nil))) (pa_cons (pe_tup (pa_cons pe_int (pa_cons (pe_glob (v := .int 256) (by rfl) g_MOST_AREA ⟨_, rfl⟩) pa_nil))) (pa_cons (pe_tup (pa_cons pe_int (pa_cons (pe_glob (v := .int 1023) (by rfl) g_GREATEST_CELL ⟨_, rfl⟩) pa_nil))) pa_nil))))))
      (pss_cons (ps_for PassesOwn.never rfl (pi_enumT (by rfl) T.r_enumerate (pa_cons (pv 1) pa_nil)) (pg_tupK (K := K) (n := 2) rfl (pgs_cons (pg_name (i := 2) sc_area_wrong.nd rfl (Or.inl rfl)) (pgs_cons (pg_tupK (K := K) (n := 2) rfl (pgs_cons (pg_name (i := 3) sc_area_wrong.nd rfl (Or.inl rfl)) (pgs_cons (pg_name (i := 4) sc_area_wrong.nd rfl (Or.inl rfl)) pgs_nil))) pgs_nil)))
        (pss_one (ps_if (pt_not (pt_val (pe_isw2 D_is_whole hr (by rfl) (pa_cons (pe_ix ix_tup (pv 0) (pv 2) (fun _ _ => rfl)) pa_nil) (pk_cons (pv 3) (pk_cons (pv 4) pk_nil))))) (pss_one (ps_ret (pe_lst (pa_cons (pv 2) pa_nil)))) pss_nil)))
      (pss_cons (ps_asg (pv 0) (pg_tupK (K := K) (n := 4) rfl (pgs_cons (pg_name (i := 5) sc_area_wrong.nd rfl (Or.inl rfl)) (pgs_cons (pg_name (i := 6) sc_area_wrong.nd rfl (Or.inl rfl)) (pgs_cons (pg_name (i := 7) sc_area_wrong.nd rfl (Or.inl rfl)) (pgs_cons (pg_name (i := 8) sc_area_wrong.nd rfl (Or.inl rfl)) pgs_nil))))))
      (pss_cons (ps_if (PW.pt (pw_or (pt_cmpR op_lt (pv 8) (pv 6) (nomark _)) (pw_or1 (PW.pt (pw_and (pt_cmpR op_eq (pv 7) pe_int (nomark _)) (pw_and1 (pt_cmpR op_ne (pv 8) (pv 6) (nomark _)))))))) (pss_one (ps_ret (pe_lst (pa_cons pe_int pa_nil)))) pss_nil)
      (pss_cons (ps_set (i := 9) sc_area_wrong.nd rfl (Or.inl rfl) (pe_cmpR op_gt (pe_op op_add (pe_op op_add (pv 5) (pe_op op_mul (pe_op op_sub (pv 7) pe_int) (pv 8))) (pv 6)) (pe_glob (v := .int 1024) (by rfl) g_MOST_CELLS ⟨_, rfl⟩) (nomark _)))
      (pss_one (ps_ret (pe_ifExp (PW.pt (pw_or (pt_val (pv 9)) (pw_or1 (pt_cmpR op_gt (pe_op op_mul (pv 7) (pv 6)) (pe_glob (v := .int 256) (by rfl) g_MOST_AREA ⟨_, rfl⟩) (nomark _))))) (pe_lst (pa_cons pe_nev pa_nil)) (pe_lst pa_nil)))))))))), ?_⟩
    refine ⟨_, rfl, _, _, _, rfl, .tup ha, true, rfl, iteF ?_⟩
    refine ⟨_, rfl, a, _, rfl, .inr (SqT.of ha), rfl, _, rfl, iteNS rfl ?_⟩
    refine ⟨by show 2 ≤ sizeLine; decide, fun t1 n1 => ?_⟩
    refine ⟨by show 2 ≤ sizeLine; decide, fun t2 n2 => ?_⟩
    refine ⟨by show 2 ≤ sizeLine; decide, fun t3 n3 => ?_⟩
    refine ⟨by show 2 ≤ sizeLine; decide, fun t4 n4 => ?_⟩
    refine ⟨by show 4 ≤ sizeLine; decide, fun t5 n5 => ?_⟩
    have s1 := same_new (o := .tup [.int 0, .int 1023]) n1
    have s2 := same_new (o := .tup [.int 1, .int 256]) n2
    have s3 := same_new (o := .tup [.int 1, .int 256]) n3
    have s4 := same_new (o := .tup [.int 1, .int 1023]) n4
    have s5 := same_new (o := .tup [.ref t1, .ref t2, .ref t3, .ref t4]) n5
    have e1 := ((s2.trans s3).trans s4).trans s5 t1 _ upd_same
    have e2 := (s3.trans s4).trans s5 t2 _ upd_same
    have e3 := (s4.trans s5) t3 _ upd_same
    have e4 := s5 t4 _ upd_same
    have e5 := upd_same (H := upd (upd (upd (upd H t1 (.tup [.int 0, .int 1023])) t2 (.tup [.int 1, .int 256])) t3 (.tup [.int 1, .int 256])) t4 (.tup [.int 1, .int 1023])) (a := t5) (o := .tup [.ref t1, .ref t2, .ref t3, .ref t4])
    have sH := (((s1.trans s2).trans s3).trans s4).trans s5
    generalize hH5 : upd (upd (upd (upd (upd H t1 (.tup [.int 0, .int 1023])) t2 (.tup [.int 1, .int 256])) t3 (.tup [.int 1, .int 256])) t4 (.tup [.int 1, .int 1023])) t5 (.tup [.ref t1, .ref t2, .ref t3, .ref t4]) = H5 at e1 e2 e3 e4 e5 sH ⊢
    have key : ∀ i, i < 4 → ∃ tt lo hi n, [V.ref t1, .ref t2, .ref t3, .ref t4][i]? = some (.ref tt) ∧ H5 tt = some (.tup [.int lo, .int hi]) ∧ [V.int (A.start : Nat), .int (A.count : Nat), .int (A.rows : Nat), .int (A.pitch : Nat)][i]? = some (.int n) ∧ lo ≤ n ∧ n ≤ hi := by
      intro i hi
      have c1 := ok.c1
      have r1 := ok.r1
      have pc := ok.pc
      match i, hi with
      | 0, _ => exact ⟨t1, 0, 1023, _, rfl, e1, rfl, by omega, by omega⟩
      | 1, _ => exact ⟨t2, 1, 256, _, rfl, e2, rfl, by omega, by omega⟩
      | 2, _ => exact ⟨t3, 1, 256, _, rfl, e3, rfl, by omega, by omega⟩
      | 3, _ => exact ⟨t4, 1, 1023, _, rfl, e4, rfl, by omega, by omega⟩
    refine ⟨_, rfl, t5, _, rfl, SqT.of e5, for_it walk_enumT (fun i σ H1 => ∃ x y z, σ = [some (.ref a), some (.ref t5), x, y, z, none, none, none, none, none] ∧ Same H5 H1) ⟨none, none, none, rfl, Same.refl _⟩ (fun i σ H1 _ p => by obtain ⟨x, y, z, _, s⟩ := p; exact SqT.of (s _ _ e5)) (fun i x σ H1 H2 hi p y => ?_) (fun σ H1 p => ?_)⟩
    · obtain ⟨x1, x2, x3, rfl, s⟩ := p
      obtain ⟨tt, lo, hiv, n, k1, k2, k3, k4, k5⟩ := key i hi
      obtain ⟨T1, u, v, rfl, nT, rfl, eu, ev⟩ := y
      cases eu
      have ev2 : [V.ref t1, .ref t2, .ref t3, .ref t4][i]? = some v := ev
      rw [k1] at ev2
      cases ev2
      have sT : Same H1 (upd H1 T1 (.tup [.int (i : Nat), .ref tt])) := same_new nT
      refine ⟨T1, _, rfl, SqT.of upd_same, rfl, _, _, rfl, _, _, rfl, tt, _, rfl, SqT.of (sT _ _ (s _ _ k2)), rfl, _, _, rfl, _, _, rfl, rfl, rfl, ?_⟩
      refine ⟨_, rfl, _, rfl, a, _, _, _, rfl, rfl, SqT.of (sT _ _ (s _ _ (sH _ _ ha))), atI_nat k3, _, rfl, _, rfl, n, lo, hiv, rfl, rfl, _, rfl, iteNS ⟨k4, k5⟩ ?_⟩
      exact ⟨_, _, _, rfl, s.trans sT⟩
    · obtain ⟨x1, x2, x3, rfl, s⟩ := p
      have ha1 : H1 a = _ := s _ _ (sH _ _ ha)
      have c1 := ok.c1
      have r1 := ok.r1
      have pc := ok.pc
      have six := ok.six
      have fit := ok.fit
      refine ⟨_, rfl, a, _, rfl, SqT.of ha1, rfl, _, _, rfl, _, _, rfl, _, _, rfl, _, _, rfl, rfl, ?_⟩
      refine ⟨_, rfl, _, rfl, _, _, rfl, rfl, _, rfl, ?_⟩
      refine ite2 (fun z => absurd (of_decide_eq_true z) (by omega)) fun _ => ?_
      refine ⟨_, rfl, rfl, _, rfl, ?_⟩
      have mul : ((A.rows : Nat) : Int) - 1 = ((A.rows - 1 : Nat) : Int) := by omega
      have fit2 : ((A.start : Nat) : Int) + ((A.rows : Int) - 1) * (A.pitch : Int) + (A.count : Int) ≤ 30 := by
        rw [mul, ← Int.natCast_mul]
        omega
      have six2 : ((A.rows : Nat) : Int) * (A.count : Int) ≤ 6 := by
        rw [← Int.natCast_mul]
        omega
      by_cases z : A.rows = 1
      · refine ite2 (fun _ => ?_) fun h => absurd (decide_eq_true (by rw [z]; rfl)) h
        refine ⟨_, rfl, _, rfl, rfl, _, rfl, iteNS (by rw [ok.one z]) ?_⟩
        refine ⟨_, rfl, _, rfl, _, _, rfl, rfl, _, rfl, _, _, rfl, rfl, .inl ⟨by omega, by omega⟩, _, _, rfl, rfl, _, rfl, _, _, rfl, rfl, _, _, rfl, rfl, ?_⟩
        refine ⟨_, rfl, _, rfl, ite2 (fun h => absurd (of_decide_eq_true h) (by omega)) fun _ => ?_⟩
        refine ⟨_, rfl, _, rfl, _, _, rfl, rfl, .inl ⟨by omega, by omega⟩, _, _, rfl, rfl, _, rfl, ite2 (fun h => absurd (of_decide_eq_true h) (by omega)) fun _ => ?_⟩
        exact ⟨by show 0 ≤ sizeLine; decide, fun l nl => q _ l ((sH.trans s).trans (same_new nl)) (Same.free (sH.trans s) nl) upd_same⟩
      · refine ite2 (fun h => absurd (of_decide_eq_true h) (by intro h; injection h with h; omega)) fun _ => iteF ?_
        refine ⟨_, rfl, _, rfl, _, _, rfl, rfl, _, rfl, _, _, rfl, rfl, .inl ⟨by omega, by omega⟩, _, _, rfl, rfl, _, rfl, _, _, rfl, rfl, _, _, rfl, rfl, ?_⟩
        refine ⟨_, rfl, _, rfl, ite2 (fun h => absurd (of_decide_eq_true h) (by omega)) fun _ => ?_⟩
        refine ⟨_, rfl, _, rfl, _, _, rfl, rfl, .inl ⟨by omega, by omega⟩, _, _, rfl, rfl, _, rfl, ite2 (fun h => absurd (of_decide_eq_true h) (by omega)) fun _ => ?_⟩
        exact ⟨by show 0 ≤ sizeLine; decide, fun l nl => q _ l ((sH.trans s).trans (same_new nl)) (Same.free (sH.trans s) nl) upd_same⟩
end
end Hl
end

section
set_option Elab.async false
set_option linter.all false
set_option maxRecDepth 100000
set_option maxHeartbeats 4000000
/-! lists and tuples compared with the empty one, tuples of whole numbers with each other -/
namespace Hl
open PySem PySem.Spec PyProof.Rows L2
theorem all_small : ∀ (ds : List PyData), (∀ d, d ∈ ds → d.canLay0 = true ∧ d.depth ≤ 5) → PyData.canLayAll0 ds = true ∧ PyData.depthAll ds ≤ 5
  | [], _ => by simp [PyData.canLayAll0, PyData.depthAll]
  | d :: ds, h => by
    obtain ⟨h1, h2⟩ := all_small ds fun x hx => h x (List.mem_cons_of_mem _ hx)
    obtain ⟨g1, g2⟩ := h d List.mem_cons_self
    refine ⟨by simp [PyData.canLayAll0, g1, h1], ?_⟩
    unfold PyData.depthAll
    omega
theorem shaped_list {ds : List PyData} (h : ∀ d, d ∈ ds → d.canLay0 = true ∧ d.depth ≤ 5) : SeqAt.shaped (.list ds) = true := by
  obtain ⟨h1, h2⟩ := all_small ds h
  unfold SeqAt.shaped
  simp [PyData.canLay0, h1, PyData.depth]
  omega
theorem shaped_tuple {ds : List PyData} (h : ∀ d, d ∈ ds → d.canLay0 = true ∧ d.depth ≤ 5) : SeqAt.shaped (.tuple ds) = true := by
  obtain ⟨h1, h2⟩ := all_small ds h
  unfold SeqAt.shaped
  simp [PyData.canLay0, h1, PyData.depth]
  omega
theorem small_int (i : Int) : (PyData.int i).canLay0 = true ∧ (PyData.int i).depth ≤ 5 := by simp [PyData.canLay0, PyData.depth]
theorem small_str (x : Str) (h : PyData.strOk x = true := by decide +kernel) : (PyData.str x).canLay0 = true ∧ (PyData.str x).depth ≤ 5 := by simp [PyData.canLay0, PyData.depth, h]
theorem small_tup {ds : List PyData} (h : ∀ d, d ∈ ds → d.canLay0 = true ∧ d.depth = 0) : (PyData.tuple ds).canLay0 = true ∧ (PyData.tuple ds).depth ≤ 5 := by
  have g : PyData.canLayAll0 ds = true ∧ PyData.depthAll ds = 0 := by
    induction ds with
    | nil => simp [PyData.canLayAll0, PyData.depthAll]
    | cons d ds ih =>
      obtain ⟨h1, h2⟩ := ih fun x hx => h x (List.mem_cons_of_mem _ hx)
      obtain ⟨g1, g2⟩ := h d List.mem_cons_self
      exact ⟨by simp [PyData.canLayAll0, g1, h1], by unfold PyData.depthAll; omega⟩
  simp [PyData.canLay0, PyData.depth, g.1, g.2]
theorem small_ints (ns : List Int) : ∀ d, d ∈ ns.map PyData.int → d.canLay0 = true ∧ d.depth ≤ 5 := fun d hd => by
  obtain ⟨n, _, rfl⟩ := List.mem_map.mp hd
  exact small_int n
theorem dpInts {K : PySem.W.Frag} {H : Hp} : ∀ ns : List Int, DpAll K H (intsV ns) (ns.map PyData.int)
  | [] => .nil
  | n :: ns => .cons (.int n) (dpInts ns)
def rEqL0 (neg : Bool) : R2 := fun x y H Q => ∃ a b ns, x = .ref a ∧ y = .ref b ∧ H a = some (.lst (intsV ns)) ∧ H b = some (.lst []) ∧ Q (.bl (neg != ns.isEmpty)) H
/-- data of a tuple's items, not deep -/
def Flat5 (K : PySem.W.Frag) (H : Hp) (xs : List V) : Prop := ∃ ds, DpAll K H xs ds ∧ ∀ d, d ∈ ds → d.canLay0 = true ∧ d.depth ≤ 5
def rEqT0 (K : PySem.W.Frag) (neg : Bool) : R2 := fun x y H Q => ∃ a b xs, x = .ref a ∧ y = .ref b ∧ H a = some (.tup xs) ∧ H b = some (.tup []) ∧ Flat5 K H xs ∧ Q (.bl (neg != xs.isEmpty)) H
def rNeTI : R2 := fun x y H Q => ∃ a b ns, x = .ref a ∧ y = .ref b ∧ H a = some (.tup (intsV ns)) ∧ H b = some (.tup (intsV ns)) ∧ Q (.bl false) H
section
variable {X : Cx}
theorem eqv_l0 (ns : List Int) : PyData.eqv (.list (ns.map .int)) (.list []) = ns.isEmpty := by cases ns <;> simp [PyData.eqv, PyData.eqvAll]
theorem op_eqL0 (hu : X.A.units + 64 < cLine) : OpR X (compareOp .Eq) (rEqL0 false) := by
  intro pins s σ H x y v u Q I rx ry h
  obtain ⟨a, b, ns, rfl, rfl, ha, hb, q⟩ := h
  refine op_eqD hu pins s σ H _ _ v u Q I rx ry ⟨_, _, .lst (SqL.of ha) (dpInts ns), .lst (SqL.of hb) .nil, shaped_list (small_ints ns), shaped_list (by simp), ?_⟩
  rw [eqv_l0]
  simpa using q
theorem op_neL0 (hu : X.A.units + 64 < cLine) : OpR X (compareOp .NotEq) (rEqL0 true) := by
  intro pins s σ H x y v u Q I rx ry h
  obtain ⟨a, b, ns, rfl, rfl, ha, hb, q⟩ := h
  refine op_neD hu pins s σ H _ _ v u Q I rx ry ⟨_, _, .lst (SqL.of ha) (dpInts ns), .lst (SqL.of hb) .nil, shaped_list (small_ints ns), shaped_list (by simp), ?_⟩
  rw [eqv_l0]
  simpa using q
theorem dpall_len {K : PySem.W.Frag} {H : Hp} : ∀ {xs : List V} {ds : List PyData}, DpAll K H xs ds → xs.isEmpty = ds.isEmpty
  | _, _, .nil => rfl
  | _, _, .cons _ _ => rfl
theorem eqv_t0 (ds : List PyData) : PyData.eqv (.tuple ds) (.tuple []) = ds.isEmpty := by cases ds <;> simp [PyData.eqv, PyData.eqvAll]
theorem op_eqT0 (hu : X.A.units + 64 < cLine) : OpR X (compareOp .Eq) (rEqT0 X.K false) := by
  intro pins s σ H x y v u Q I rx ry h
  obtain ⟨a, b, xs, rfl, rfl, ha, hb, ⟨ds, dp, sm⟩, q⟩ := h
  refine op_eqD hu pins s σ H _ _ v u Q I rx ry ⟨_, _, .tup (SqT.of ha) dp, .tup (SqT.of hb) .nil, shaped_tuple sm, shaped_tuple (by simp), ?_⟩
  rw [eqv_t0, ← dpall_len dp]
  simpa using q
theorem op_neT0 (hu : X.A.units + 64 < cLine) : OpR X (compareOp .NotEq) (rEqT0 X.K true) := by
  intro pins s σ H x y v u Q I rx ry h
  obtain ⟨a, b, xs, rfl, rfl, ha, hb, ⟨ds, dp, sm⟩, q⟩ := h
  refine op_neD hu pins s σ H _ _ v u Q I rx ry ⟨_, _, .tup (SqT.of ha) dp, .tup (SqT.of hb) .nil, shaped_tuple sm, shaped_tuple (by simp), ?_⟩
  rw [eqv_t0, ← dpall_len dp]
  simpa using q
theorem op_neTI (hu : X.A.units + 64 < cLine) : OpR X (compareOp .NotEq) rNeTI := by
  intro pins s σ H x y v u Q I rx ry h
  obtain ⟨a, b, ns, rfl, rfl, ha, hb, q⟩ := h
  refine op_neD hu pins s σ H _ _ v u Q I rx ry ⟨_, _, .tup (SqT.of ha) (dpInts ns), .tup (SqT.of hb) (dpInts ns), shaped_tuple (small_ints ns), shaped_tuple (small_ints ns), ?_⟩
  rw [SeqAt.eqv_refl _ (SeqAt.canLay_of_shaped (shaped_tuple (small_ints ns)))]
  exact q
end
end Hl
end

section
set_option Elab.async false
set_option linter.all false
set_option maxRecDepth 100000
set_option maxHeartbeats 4000000
/-! steps.py -/
namespace Hl
open PySem PySem.Spec PyProof.Rows L2
inductive ThingOk (H : Hp) : V → Str → Prop
  | area {a : Addr} {A : Area} (h : AreaAt H a A) (ok : A.Ok 30) : ThingOk H (.ref a) "A"
  | byte {n : Int} (h0 : 0 ≤ n) (h1 : n ≤ 255) : ThingOk H (.int n) "B"
  | cell {n : Int} (h0 : 0 ≤ n) (h1 : n ≤ 1023) : ThingOk H (.int n) "C"
  | flag {n : Int} (h0 : 0 ≤ n) (h1 : n ≤ 7) : ThingOk H (.int n) "F"
  | skip (n : Int) : ThingOk H (.int n) "S"
theorem ThingOk.tk {H H' : Hp} {x : V} {c : Str} (h : ThingOk H x c) (k : TK H H') : ThingOk H' x c := by
  cases h with
  | area h ok => exact .area (h.tk k) ok
  | byte a b => exact .byte a b
  | cell a b => exact .cell a b
  | flag a b => exact .flag a b
  | skip n => exact .skip n
def Step.form : Step → Str
  | .copy _ _ _ => "AAS"
  | .fill _ _ _ => "ABS"
  | .add _ _ => "AC"
  | .note _ => "F"
  | .fence => ""
def Step.word : Step → Str
  | .copy _ _ _ => "copy"
  | .fill _ _ _ => "fill"
  | .add _ _ => "add"
  | .note _ => "note"
  | .fence => "fence"
abbrev formsK : List (Key × V) := forms.map fun p => (Sum.inr p.1, V.str p.2)
def sp_is_thing (K : PySem.W.Frag) : Sp := fun vs H Q _ => ∃ x c, vs = [x, .str c] ∧ ThingOk H x c ∧ ∀ H', Same H H' → Q (.bl true) H'
def sp_form_of (K : PySem.W.Frag) : Sp := fun vs H Q _ => ∃ p d s, vs = [.ref p, .ref d] ∧ StepAt H p s ∧ H d = some (.dK formsK) ∧ ∀ H' l, Same H H' → H l = none → H' l = some (.lst [.str s.form]) → Q (.ref l) H'
def sp_things_wrong (K : PySem.W.Frag) : Sp := fun vs H Q _ => ∃ p s, vs = [.ref p, .str (Step.form s)] ∧ StepAt H p s ∧ s.Ok 30 ∧ ∀ H' l, Same H H' → H l = none → H' l = some (.lst []) → Q (.ref l) H'
def sp_step_wrong (K : PySem.W.Frag) : Sp := fun vs H Q _ => ∃ p s, vs = [.ref p] ∧ StepAt H p s ∧ s.Ok 30 ∧ ∀ H' l, Same H H' → H l = none → H' l = some (.lst []) → Q (.ref l) H'
def sp_list_wrong (K : PySem.W.Frag) : Sp := fun vs H Q _ => ∃ t ps ss, vs = [.ref t] ∧ H t = some (.tup (refsV ps)) ∧ StepsAt H ps ss ∧ (∀ s, s ∈ ss → s.Ok 30) ∧ 1 ≤ ps.length ∧ ps.length ≤ 40 ∧ ∀ H' l, Same H H' → H l = none → H' l = some (.lst []) → Q (.ref l) H'
def sp_need_list (K : PySem.W.Frag) : Sp := fun vs H Q _ => ∃ t ps ss, vs = [.ref t] ∧ H t = some (.tup (refsV ps)) ∧ StepsAt H ps ss ∧ (∀ s, s ∈ ss → s.Ok 30) ∧ 1 ≤ ps.length ∧ ps.length ≤ 40 ∧ ∀ H', Same H H' → Q .non H'
theorem dpI {K : PySem.W.Frag} {H : Hp} {a : Addr} {A : Area} (h : AreaAt H a A) : Dp K H (.ref a) (.tuple ([(A.start : Int), (A.count : Int), (A.rows : Int), (A.pitch : Int)].map .int)) := .tup (SqT.of h) (dpInts [(A.start : Int), (A.count : Int), (A.rows : Int), (A.pitch : Int)])
theorem smallA (A : Area) : (PyData.tuple ([(A.start : Int), (A.count : Int), (A.rows : Int), (A.pitch : Int)].map .int)).canLay0 = true ∧ (PyData.tuple ([(A.start : Int), (A.count : Int), (A.rows : Int), (A.pitch : Int)].map .int)).depth ≤ 5 := small_tup fun d hd => by
  obtain ⟨n, _, rfl⟩ := List.mem_map.mp hd
  simp [PyData.canLay0, PyData.depth]
theorem step_shape {K : PySem.W.Frag} {H : Hp} {p : Addr} {s : Step} (h : StepAt H p s) : ∃ xs, H p = some (.tup (V.str s.word :: xs)) ∧ Flat5 K H (V.str s.word :: xs) ∧ xs.length = s.form.length := by
  cases s with
  | copy a b k =>
    obtain ⟨pa, pb, h1, h2, h3⟩ := h
    refine ⟨_, h1, ⟨_, .cons (.str _) (.cons (dpI h2) (.cons (dpI h3) (.cons (.int _) .nil))), ?_⟩, rfl⟩
    simp only [List.mem_cons, List.not_mem_nil, or_false]
    rintro d (rfl | rfl | rfl | rfl)
    · exact small_str "copy"
    · exact smallA a
    · exact smallA b
    · exact small_int _
  | fill a y k =>
    obtain ⟨pa, h1, h2⟩ := h
    refine ⟨_, h1, ⟨_, .cons (.str _) (.cons (dpI h2) (.cons (.int _) (.cons (.int _) .nil))), ?_⟩, rfl⟩
    simp only [List.mem_cons, List.not_mem_nil, or_false]
    rintro d (rfl | rfl | rfl | rfl)
    · exact small_str "fill"
    · exact smallA a
    · exact small_int _
    · exact small_int _
  | add a c =>
    obtain ⟨pa, h1, h2⟩ := h
    refine ⟨_, h1, ⟨_, .cons (.str _) (.cons (dpI h2) (.cons (.int _) .nil)), ?_⟩, rfl⟩
    simp only [List.mem_cons, List.not_mem_nil, or_false]
    rintro d (rfl | rfl | rfl)
    · exact small_str "add"
    · exact smallA a
    · exact small_int _
  | note f =>
    refine ⟨_, h, ⟨_, .cons (.str _) (.cons (.int _) .nil), ?_⟩, rfl⟩
    simp only [List.mem_cons, List.not_mem_nil, or_false]
    rintro d (rfl | rfl)
    · exact small_str "note"
    · exact small_int _
  | fence =>
    refine ⟨_, h, ⟨_, .cons (.str _) .nil, ?_⟩, rfl⟩
    simp only [List.mem_cons, List.not_mem_nil, or_false]
    rintro d rfl
    exact small_str "fence"
theorem forms_at (s : Step) : valV formsK (Sum.inr s.word) = some (.str s.form) := by
  cases s with
  | copy a b k => exact (by decide +kernel : valV formsK (Sum.inr ("copy" : Str)) = some (V.str "AAS"))
  | fill a y k => exact (by decide +kernel : valV formsK (Sum.inr ("fill" : Str)) = some (V.str "ABS"))
  | add a c => exact (by decide +kernel : valV formsK (Sum.inr ("add" : Str)) = some (V.str "AC"))
  | note f => exact (by decide +kernel : valV formsK (Sum.inr ("note" : Str)) = some (V.str "F"))
  | fence => exact (by decide +kernel : valV formsK (Sum.inr ("fence" : Str)) = some (V.str ""))
theorem form_len (s : Step) : s.form.length ≤ sizeLine := by
  cases s with
  | copy a b k => exact (by decide +kernel : ("AAS" : Str).length ≤ sizeLine)
  | fill a y k => exact (by decide +kernel : ("ABS" : Str).length ≤ sizeLine)
  | add a c => exact (by decide +kernel : ("AC" : Str).length ≤ sizeLine)
  | note f => exact (by decide +kernel : ("F" : Str).length ≤ sizeLine)
  | fence => exact (by decide +kernel : ("" : Str).length ≤ sizeLine)
theorem key_of {P : Params} {e : DictEntry} {k : Str} (h : He.keyOf e = some (k, PyData.keyHash P k)) : ∃ t, e.key = .str k t ∧ e.hash = PyData.keyHash P k := by
  unfold He.keyOf at h
  split at h
  · rename_i x t ek
    injection h with h
    injection h with h1 h2
    subst h1
    exact ⟨t, ek, h2⟩
  · cases h
theorem mk_pairs (P : Program) (w : World) : ∀ (es : List DictEntry) (fs : List (Str × Str)), es.map He.keyOf = He.keysIn w.params (fs.map (·.1)) → Vals (fs.map fun p => V.str p.2) (es.map (·.val)) →
    ∃ vs : List (Key × Value), KV (fs.map fun p => ((Sum.inr p.1 : Key), V.str p.2)) vs ∧ PySem.Pairs (mixKind P w) es vs ∧ vs.map (·.1) = fs.map (fun p => (Sum.inr p.1 : Key)) ∧ ∀ e, e ∈ es → ∃ k, (mixKind P w).is k e.key = true ∧ e.hash = (mixKind P w).hash k
  | [], [], _, _ => ⟨[], .nil, .nil, rfl, fun e h => by cases h⟩
  | [], _ :: _, h, _ => by cases h
  | _ :: _, [], h, _ => by cases h
  | e :: es, f :: fs, h, hv => by
    injection h with h1 h2
    cases hv with
    | cons r rr =>
      obtain ⟨vs, a, b, c, d⟩ := mk_pairs P w es fs h2 rr
      obtain ⟨t, e1, e2⟩ := key_of h1
      have ki : (mixKind P w).is (Sum.inr f.1) e.key = true := by
        rw [e1]
        exact keyIs_str f.1 t
      refine ⟨(Sum.inr f.1, e.val) :: vs, .cons ⟨rfl, r⟩ a, .cons ki rfl b, by rw [List.map_cons, List.map_cons, c], fun x hx => ?_⟩
      rcases List.mem_cons.mp hx with rfl | hx
      · exact ⟨Sum.inr f.1, ki, e2⟩
      · exact d x hx
theorem forms_dict {P : Program} {w : World} {K : PySem.W.Frag} (TW : TxtW K w) : KDictOf K P w (He.ga K "STEP_FORMS") formsK := by
  obtain ⟨es, n, D, hk, hv⟩ := TW.es
  obtain ⟨vs, a, b, c, d⟩ := mk_pairs P w es.toList forms hk hv
  refine ⟨(by show 6 ≤ sizeLine; decide), D.low, vs, a, fun h X => ⟨_, es, n, X _ _ D.at_, ⟨rfl, rfl, rfl⟩, rfl, fun e he => d e (Array.mem_toList_iff.mpr he), b, ?_⟩⟩
  rw [c]
  exact (by decide +kernel : (forms.map (fun p => (Sum.inr p.1 : Key))).Nodup)
section
variable {P : Program} {w : World} {K : PySem.W.Frag} {mg : Str → Option Value} {base : Heap}
abbrev N_is_thing : List Str := ["thing", "kind"]
theorem sc_is_thing : FnScope N_is_thing ["thing", "kind"] (defScope s_is_thing) := ⟨rfl, rfl, rfl, by decide +kernel, rfl, by decide +kernel, by decide +kernel⟩
theorem D_is_thing (T : Txt K mg) (TW : TxtW K w) : DefAt P w K mg base "is_thing" 4 ["thing", "kind"] (sp_is_thing K) := by
  obtain ⟨fd, F⟩ := T.f_is_thing
  have D_is_whole := D_is_whole (P := P) (w := w) (base := base) T
  have D_is_byte := D_is_byte (P := P) (w := w) (base := base) T TW
  have D_is_flag := D_is_flag (P := P) (w := w) (base := base) T TW
  have D_area_wrong := D_area_wrong (P := P) (w := w) (base := base) T TW
  obtain ⟨t_GREATEST_CELL, g_GREATEST_CELL⟩ := T.i_GREATEST_CELL
  refine ⟨He.fAd K ("is_thing", none), fd, T.g_is_thing, F.kp, F.bindsN (fun _ _ _ _ _ _ us hl => match us, hl with | [_, _], _ => rfl), ?_⟩
  refine F.ok sc_is_thing (fun vs H Q E h => ?_) (fun cdv A outer s H vs Q E hr h => ?_)
  · obtain ⟨_, _, rfl, _⟩ := h
    rfl
  · obtain ⟨x, c, rfl, ok, q⟩ := h
    refine ⟨_, PSs.nox (pss_cons (ps_if (pt_cmpR op_eq (pv 1) pe_str (nomark _)) (pss_one (ps_ret (pe_cmpR (op_eqL0 hr.units) (pe_def D_area_wrong hr (by rfl) (pa_cons (pv 0) pa_nil)) (pe_lst pa_nil) (nomark _)))) pss_nil)
      (pss_cons (ps_if (pt_cmpR op_eq (pv 1) pe_str (nomark _)) (pss_one (ps_ret (pe_def D_is_byte hr (by rfl) (pa_cons (pv 0) pa_nil)))) pss_nil)
      (pss_cons (ps_if (pt_cmpR op_eq (pv 1) pe_str (nomark _)) (pss_one (ps_ret (pe_isw1 D_is_whole hr (by rfl) (pa_cons (pv 0) pa_nil) (pk_cons (pe_glob (v := .int 1023) (by rfl) g_GREATEST_CELL ⟨_, rfl⟩) pk_nil)))) pss_nil)
      (pss_cons (ps_if (pt_cmpR op_eq (pv 1) pe_str (nomark _)) (pss_one (ps_ret (pe_def D_is_flag hr (by rfl) (pa_cons (pv 0) pa_nil)))) pss_nil)
      (pss_cons (ps_if (pt_cmpR op_eq (pv 1) pe_str (nomark _)) (pss_one (ps_ret (pe_isw1 D_is_whole hr (by rfl) (pa_cons (pv 0) pa_nil) (pk_cons pe_int pk_nil)))) pss_nil)
      (pss_cons (ps_if (pt_cmpR op_eq (pv 1) pe_str (nomark _)) (pss_one (ps_ret (pe_isw2 D_is_whole hr (by rfl) (pa_cons (pv 0) pa_nil) (pk_cons pe_int (pk_cons pe_nev pk_nil))))) pss_nil)
      (pss_one (ps_ret (pe_or (pe_cmpR op_eq (pv 1) pe_str (nomark _)) (pe_one (pe_cmpR (op_eqL0 hr.units) pe_nev (pe_lst pa_nil) (nomark _)))))))))))), ?_⟩
    cases ok with
    | area h ok =>
      refine ⟨_, rfl, rfl, _, rfl, ite2 (fun _ => ?_) fun z => absurd (by decide +kernel) z⟩
      refine ⟨_, rfl, _, _, rfl, h, ok, fun H1 l s1 n1 h1 => ⟨by show 0 ≤ sizeLine; decide, fun b nb => ⟨l, b, [], rfl, rfl, same_new nb _ _ h1, upd_same, ?_⟩⟩⟩
      exact q _ (s1.trans (same_new nb))
    | byte h0 h1 =>
      refine ⟨_, rfl, rfl, _, rfl, ite2 (fun z => absurd z (by decide +kernel)) fun _ => ?_⟩
      refine ⟨_, rfl, rfl, _, rfl, ite2 (fun _ => ?_) fun z => absurd (by decide +kernel) z⟩
      refine ⟨_, rfl, _, rfl, ?_⟩
      rw [decide_eq_true (And.intro h0 h1)]
      exact q _ (Same.refl _)
    | cell h0 h1 =>
      refine ⟨_, rfl, rfl, _, rfl, ite2 (fun z => absurd z (by decide +kernel)) fun _ => ?_⟩
      refine ⟨_, rfl, rfl, _, rfl, ite2 (fun z => absurd z (by decide +kernel)) fun _ => ?_⟩
      refine ⟨_, rfl, rfl, _, rfl, ite2 (fun _ => ?_) fun z => absurd (by decide +kernel) z⟩
      refine ⟨_, rfl, _, _, rfl, rfl, ?_⟩
      rw [decide_eq_true (And.intro h0 h1)]
      exact q _ (Same.refl _)
    | flag h0 h1 =>
      refine ⟨_, rfl, rfl, _, rfl, ite2 (fun z => absurd z (by decide +kernel)) fun _ => ?_⟩
      refine ⟨_, rfl, rfl, _, rfl, ite2 (fun z => absurd z (by decide +kernel)) fun _ => ?_⟩
      refine ⟨_, rfl, rfl, _, rfl, ite2 (fun z => absurd z (by decide +kernel)) fun _ => ?_⟩
      refine ⟨_, rfl, rfl, _, rfl, ite2 (fun _ => ?_) fun z => absurd (by decide +kernel) z⟩
      refine ⟨_, rfl, _, rfl, ?_⟩
      rw [decide_eq_true (And.intro h0 h1)]
      exact q _ (Same.refl _)
    | skip n =>
      refine ⟨_, rfl, rfl, _, rfl, ite2 (fun z => absurd z (by decide +kernel)) fun _ => ?_⟩
      refine ⟨_, rfl, rfl, _, rfl, ite2 (fun z => absurd z (by decide +kernel)) fun _ => ?_⟩
      refine ⟨_, rfl, rfl, _, rfl, ite2 (fun z => absurd z (by decide +kernel)) fun _ => ?_⟩
      refine ⟨_, rfl, rfl, _, rfl, ite2 (fun z => absurd z (by decide +kernel)) fun _ => ?_⟩
      refine ⟨_, rfl, rfl, _, rfl, ite2 (fun z => absurd z (by decide +kernel)) fun _ => ?_⟩
      refine ⟨_, rfl, rfl, _, rfl, ite2 (fun z => absurd z (by decide +kernel)) fun _ => ?_⟩
      refine ⟨_, rfl, rfl, true, congrArg V.bl (by decide +kernel), ?_⟩
      exact q _ (Same.refl _)
abbrev N_form_of : List Str := ["thing", "forms", "kinds"]
theorem sc_form_of : FnScope N_form_of ["thing", "forms"] (defScope s_form_of) := ⟨rfl, rfl, rfl, by decide +kernel, rfl, by decide +kernel, by decide +kernel⟩
theorem D_form_of (T : Txt K mg) (TW : TxtW K w) : DefAt P w K mg base "form_of" 1 ["thing", "forms"] (sp_form_of K) := by
  obtain ⟨fd, F⟩ := T.f_form_of
  refine ⟨He.fAd K ("form_of", none), fd, T.g_form_of, F.kp, F.bindsN (fun _ _ _ _ _ _ us hl => match us, hl with | [_, _], _ => rfl), ?_⟩
  refine F.ok sc_form_of (fun vs H Q E h => ?_) (fun cdv A outer s H vs Q E hr h => ?_)
  · obtain ⟨_, _, _, rfl, _⟩ := h
    rfl
  · obtain ⟨p, d, st, rfl, hs, hd, q⟩ := h
    obtain ⟨xs, hp, _, eln⟩ := step_shape (K := K) hs
    have e63 : (("" : Str).length) = 0 := rfl
    refine ⟨_, PSs.nox (pss_cons (ps_if (PW.pt (pw_or (pt_not (pt_val (pe_callB call_isA (by rfl) T.r_isinstance (by decide +kernel) (pa_cons (pv 0) (pa_cons (pe_bltn (v := .ty "tuple") (by rfl) T.r_tuple (by decide +kernel) rfl) pa_nil))))) (pw_or (pt_cmpR (op_eqT0 hr.units) (pv 0) (pe_tup pa_nil) (nomark _)) (pw_or (pt_not (pt_val (pe_callB call_isA (by rfl) T.r_isinstance (by decide +kernel) (pa_cons (pe_ix ix_tup (pv 0) pe_int (fun _ _ => rfl)) (pa_cons (pe_bltn (v := .ty "str") (by rfl) T.r_str (by decide +kernel) rfl) pa_nil))))) (pw_or1 (pt_cmp (pc_dnotin (hu_of hr) (pe_ix ix_tup (pv 0) pe_int (fun _ _ => rfl)) (pv 1)))))))) (pss_one (ps_ret (pe_lst pa_nil))) pss_nil)
      (pss_cons (ps_set (i := 2) sc_form_of.nd rfl (Or.inl rfl) (pe_dget (hu_of hr) (pv 1) (pe_ix ix_tup (pv 0) pe_int (fun _ _ => rfl)) (fun _ _ => rfl)))
      (pss_one (ps_ret (pe_ifExp (pt_cmpR op_eq (pe_callB call_len_seq (by rfl) T.r_len (by decide +kernel) (pa_cons (pv 0) pa_nil)) (pe_op op_add (pe_callB call_len_str (by rfl) T.r_len (by decide +kernel) (pa_cons (pv 2) pa_nil)) pe_int) (nomark _)) (pe_lst (pa_cons (pv 2) pa_nil)) (pe_lst pa_nil)))))), ?_⟩
    refine ⟨_, rfl, _, _, _, rfl, .tup hp, true, rfl, iteF ?_⟩
    refine ⟨_, rfl, by show 0 ≤ sizeLine; decide, fun b nb => ?_⟩
    have s1 : Same H (upd H b (.tup [])) := same_new nb
    obtain ⟨ys, hp1, fl, _⟩ := step_shape (K := K) (hs.tk s1.tk)
    rw [s1 _ _ hp] at hp1
    cases hp1
    refine ⟨p, b, _, rfl, rfl, s1 _ _ hp, upd_same, fl, _, rfl, iteF ?_⟩
    refine ⟨_, rfl, p, _, _, _, rfl, rfl, SqT.of (s1 _ _ hp), atI_nat (j := 0) rfl, _, _, _, rfl, .str _, true, rfl, iteF ?_⟩
    refine ⟨_, rfl, p, _, _, _, rfl, rfl, SqT.of (s1 _ _ hp), atI_nat (j := 0) rfl, _, rfl, d, _, rfl, DGet.k (k := Sum.inr st.word) (s1 _ _ hd), _, rfl, ?_⟩
    rw [forms_at]
    refine iteF ?_
    refine ⟨_, rfl, _, rfl, p, _, _, _, rfl, rfl, SqT.of (s1 _ _ hp), atI_nat (j := 0) rfl, d, .str st.form, rfl, ?_, ?_⟩
    · rw [← forms_at]
      exact DGet.k (k := Sum.inr st.word) (s1 _ _ hd)
    refine ⟨_, rfl, p, _, rfl, .inr (SqT.of (s1 _ _ hp)), _, rfl, _, rfl, ?_, _, _, rfl, rfl, rfl, _, rfl, ite2 (fun _ => ?_) fun z => absurd (decide_eq_true ?_) z⟩
    · exact form_len st
    · refine ⟨_, rfl, by show 1 ≤ sizeLine; decide, fun l nl => q _ l (s1.trans (same_new nl)) (s1.free nl) upd_same⟩
    · rw [List.length_cons, eln]
      rfl
abbrev N_things_wrong : List Str := ["thing", "kinds", "number", "kind"]
theorem sc_things_wrong : FnScope N_things_wrong ["thing", "kinds"] (defScope s_things_wrong) := ⟨rfl, rfl, rfl, by decide +kernel, rfl, by decide +kernel, by decide +kernel⟩
theorem D_things_wrong (T : Txt K mg) (TW : TxtW K w) : DefAt P w K mg base "things_wrong" 5 ["thing", "kinds"] (sp_things_wrong K) := by
  obtain ⟨fd, F⟩ := T.f_things_wrong
  have D_is_thing := D_is_thing (P := P) (w := w) (base := base) T TW
  refine ⟨He.fAd K ("things_wrong", none), fd, T.g_things_wrong, F.kp, F.bindsN (fun _ _ _ _ _ _ us hl => match us, hl with | [_, _], _ => rfl), ?_⟩
  refine F.ok sc_things_wrong (fun vs H Q E h => ?_) (fun cdv A outer s H vs Q E hr h => ?_)
  · obtain ⟨_, _, rfl, _⟩ := h
    rfl
  · obtain ⟨p, st, rfl, hs, ok, q⟩ := h
    obtain ⟨xs, hp, hth⟩ : ∃ xs, H p = some (.tup (V.str st.word :: xs)) ∧ ∀ (i c : Nat), st.form.cps[i]? = some c → ∃ x, xs[i]? = some x ∧ ThingOk H x ⟨#[c]⟩ := by
      cases st with
      | copy a b k =>
        obtain ⟨pa, pb, h1, h2, h3⟩ := hs
        obtain ⟨o1, o2, o3, o4⟩ := ok
        refine ⟨_, h1, fun i c e => ?_⟩
        have e' : (#[65, 65, 83] : Array Nat)[i]? = some c := e
        match i with
        | 0 => cases e'; exact ⟨_, rfl, .area h2 o1⟩
        | 1 => cases e'; exact ⟨_, rfl, .area h3 o2⟩
        | 2 => cases e'; exact ⟨_, rfl, .skip _⟩
        | i + 3 => simp at e'
      | fill a y k =>
        obtain ⟨pa, h1, h2⟩ := hs
        obtain ⟨o1, o2, o3, o4⟩ := ok
        refine ⟨_, h1, fun i c e => ?_⟩
        have e' : (#[65, 66, 83] : Array Nat)[i]? = some c := e
        match i with
        | 0 => cases e'; exact ⟨_, rfl, .area h2 o1⟩
        | 1 => cases e'; exact ⟨_, rfl, .byte o2 o3⟩
        | 2 => cases e'; exact ⟨_, rfl, .skip _⟩
        | i + 3 => simp at e'
      | add a c =>
        obtain ⟨pa, h1, h2⟩ := hs
        obtain ⟨o1, o2⟩ := ok
        refine ⟨_, h1, fun i c e => ?_⟩
        have e' : (#[65, 67] : Array Nat)[i]? = some c := e
        match i with
        | 0 => cases e'; exact ⟨_, rfl, .area h2 o1⟩
        | 1 => cases e'; exact ⟨_, rfl, .cell (by omega) (by omega)⟩
        | i + 2 => simp at e'
      | note f =>
        have ok' : f < 8 := ok
        refine ⟨_, hs, fun i c e => ?_⟩
        have e' : (#[70] : Array Nat)[i]? = some c := e
        match i with
        | 0 => cases e'; exact ⟨_, rfl, .flag (by omega) (by omega)⟩
        | i + 1 => simp at e'
      | fence =>
        refine ⟨_, hs, fun i c e => ?_⟩
        have e' : (#[] : Array Nat)[i]? = some c := e
        simp at e'
    refine ⟨_, PSs.nox (pss_one (ps_ret (pe_slice sl_list (pe_lc (own := [("number", 2), ("kind", 3)]) (g := (gTup K 2 (gCons (gName 2) (gCons (gName 3) gNil)))) rfl sc_things_wrong.nd (pi_enumS (by rfl) T.r_enumerate (pa_cons (pv 1) pa_nil)) (blkOk_by (own := [("number", 2), ("kind", 3)]) (N := N_things_wrong) (sc := defScope s_things_wrong) (by decide +kernel)) (fun _ _ _ _ _ => (pg_tupK (K := K) (n := 2) rfl (pgs_cons (pg_name (i := 2) sc_things_wrong.nd rfl (Or.inl rfl)) (pgs_cons (pg_name (i := 3) sc_things_wrong.nd rfl (Or.inl rfl)) pgs_nil)))) (fun _ _ _ _ _ => pts_one (pt_not (pt_val (pe_def D_is_thing hr (by rfl) (pa_cons (pe_ix (ix_tupK (K := K)) (pv 0) (pe_op op_add (pv 2) pe_int) (fun _ _ => rfl)) (pa_cons (pv 3) pa_nil)))))) (fun _ _ _ _ _ => (pe_op op_add (pv 2) pe_int))) po_none (po_some pe_int)))), ?_⟩
    refine ⟨_, rfl, _, rfl, fun D nD => ?_⟩
    refine lc_it (walk_enumS (x := st.form)) (fun i H1 => Same H H1 ∧ H1 D = some (.lst [])) ⟨same_new nD, upd_same⟩ (fun _ _ _ _ => trivial) (fun i x H1 H2 hi p y => ?_) (fun H1 p => ?_)
    · obtain ⟨s1, hD⟩ := p
      obtain ⟨T1, c, rfl, nT, ec, rfl⟩ := y
      obtain ⟨x, ex, tx⟩ := hth i c ec
      have sT : Same H1 (upd H1 T1 (.tup [.int (i : Nat), .str ⟨#[c]⟩])) := same_new nT
      have s2 : Same H (upd H1 T1 (.tup [.int (i : Nat), .str ⟨#[c]⟩])) := Same.trans s1 sT
      refine ⟨T1, _, rfl, SqT.of upd_same, rfl, _, _, rfl, _, _, rfl, rfl, rfl, ?_⟩
      refine ⟨_, rfl, _, rfl, _, _, rfl, rfl, p, _, _, _, rfl, rfl, SqT.of (s2 _ _ hp), atI_nat (j := i + 1) ?_, _, rfl, x, ⟨#[c]⟩, rfl, tx.tk s2.tk, fun H3 s3 => ?_⟩
      · exact ex
      · exact ⟨_, rfl, iteF ⟨s2.trans s3, s3 _ _ (sT _ _ hD)⟩⟩
    · obtain ⟨s1, hD⟩ := p
      refine ⟨_, rfl, D, [], rfl, SqL.of hD, fun l nl => ?_⟩
      exact q _ l (Same.trans s1 (same_new nl)) (Same.free s1 nl) (by rw [upd_same]; rfl)
abbrev N_step_wrong : List Str := ["thing", "kinds", "wrong"]
theorem sc_step_wrong : FnScope N_step_wrong ["thing"] (defScope s_step_wrong) := ⟨rfl, rfl, rfl, by decide +kernel, rfl, by decide +kernel, by decide +kernel⟩
theorem D_step_wrong (T : Txt K mg) (TW : TxtW K w) : DefAt P w K mg base "step_wrong" 6 ["thing"] (sp_step_wrong K) := by
  obtain ⟨fd, F⟩ := T.f_step_wrong
  have D_is_whole := D_is_whole (P := P) (w := w) (base := base) T
  have D_own_size := D_own_size (P := P) (w := w) (base := base) T TW
  have D_form_of := D_form_of (P := P) (w := w) (base := base) T TW
  have D_things_wrong := D_things_wrong (P := P) (w := w) (base := base) T TW
  obtain ⟨t_COPY, g_COPY⟩ := T.s_COPY
  obtain ⟨t_FILL, g_FILL⟩ := T.s_FILL
  refine ⟨He.fAd K ("step_wrong", none), fd, T.g_step_wrong, F.kp, F.bindsN (fun _ _ _ _ _ _ us hl => match us, hl with | [_], _ => rfl), ?_⟩
  refine F.ok sc_step_wrong (fun vs H Q E h => ?_) (fun cdv A outer s H vs Q E hr h => ?_)
  · obtain ⟨_, _, rfl, _⟩ := h
    rfl
  · obtain ⟨p, st, rfl, hs, ok, q⟩ := h
    obtain ⟨xs, hp, _, _⟩ := step_shape (K := K) hs
    refine ⟨_, PSs.nox (pss_cons (ps_for PassesOwn.never rfl (pi_list (pe_def D_form_of hr (by rfl) (pa_cons (pv 0) (pa_cons (pe_callTy call_dictK (by rfl) T.r_dict (by decide +kernel) (pa_cons (pe_glob (v := V.ref _) (by rfl) T.g_STEP_FORMS rfl) pa_nil)) pa_nil)))) (pg_name (i := 1) sc_step_wrong.nd rfl (Or.inl rfl))
        (pss_cons (ps_set (i := 2) sc_step_wrong.nd rfl (Or.inl rfl) (pe_def D_things_wrong hr (by rfl) (pa_cons (pv 0) (pa_cons (pv 1) pa_nil))))
        (pss_cons (ps_if (PW.pt (pw_or (pt_cmpR (op_neL0 hr.units) (pv 2) (pe_lst pa_nil) (nomark _)) (pw_or1 (pt_cmpR op_notIn_seq (pe_ix ix_tup (pv 0) pe_int (fun _ _ => rfl)) (pe_tup (pa_cons (pe_glob (v := .str "copy") (by rfl) g_COPY ⟨_, rfl⟩) (pa_cons (pe_glob (v := .str "fill") (by rfl) g_FILL ⟨_, rfl⟩) pa_nil))) (by rfl))))) (pss_one (ps_ret (pv 2))) pss_nil)
        (pss_cons (ps_if (PW.pt (pw_and (pt_cmpR op_eq (pe_ix ix_tup (pv 0) pe_int (fun _ _ => rfl)) (pe_glob (v := .str "copy") (by rfl) g_COPY ⟨_, rfl⟩) (nomark _)) (pw_and1 (pt_cmpR op_ne (pe_def D_own_size hr (by rfl) (pa_cons (pe_ix ix_tup (pv 0) pe_int (fun _ _ => rfl)) pa_nil)) (pe_def D_own_size hr (by rfl) (pa_cons (pe_ix ix_tup (pv 0) pe_int (fun _ _ => rfl)) pa_nil)) (nomark _))))) (pss_one (ps_ret (pe_lst (pa_cons pe_nev pa_nil)))) pss_nil)
        (pss_one (ps_ret (pe_ifExp (pt_val (pe_isw1 D_is_whole hr (by rfl) (pa_cons (pe_ix ix_tup (pv 0) pe_int (fun _ _ => rfl)) pa_nil) (pk_cons (pe_op op_sub (pe_def D_own_size hr (by rfl) (pa_cons (pe_ix ix_tup (pv 0) pe_int (fun _ _ => rfl)) pa_nil)) pe_int) pk_nil))) (pe_lst pa_nil) (pe_lst (pa_cons pe_nev pa_nil)))))))))
      (pss_one (ps_ret (pe_lst (pa_cons pe_non pa_nil))))), ?_⟩
    refine ⟨_, rfl, _, formsK, rfl, forms_dict TW, fun d nd => ?_⟩
    have s1 : Same H (upd H d (.dK formsK)) := same_new nd
    refine ⟨p, d, st, rfl, hs.tk s1.tk, upd_same, fun H2 l s2 n2 h2 => ?_⟩
    have s12 := s1.trans s2
    refine ⟨l, rfl, ⟨_, SqL.of h2⟩, for_it (walk_list (xs := [V.str st.form])) (fun i σ H3 => i = 0 ∧ σ = [some (.ref p), none, none] ∧ H3 = H2) ⟨rfl, rfl, rfl⟩ (fun i σ H3 _ p => by obtain ⟨_, _, rfl⟩ := p; exact SqL.of h2) (fun i x σ H3 H4 hi pp y => ?_) (fun σ H3 p => by obtain ⟨z, _⟩ := p; cases z)⟩
    obtain ⟨rfl, rfl, rfl⟩ := pp
    obtain ⟨rfl, ex⟩ := y
    cases ex
    refine ⟨_, rfl, _, rfl, p, st, rfl, hs.tk s12.tk, ok, fun H5 l5 s5 n5 h5 => ?_⟩
    have s15 := s12.trans s5
    refine ⟨_, rfl, by show 0 ≤ sizeLine; decide, fun b nb => ⟨l5, b, [], rfl, rfl, same_new nb _ _ h5, upd_same, _, rfl, iteF ?_⟩⟩
    have s6 : Same H5 (upd H5 b (.lst [])) := same_new nb
    have s16 := s15.trans s6
    have h6 := s6 _ _ h5
    have n6 : H l5 = none := s12.free' n5
    have hp6 := s16 _ _ hp
    cases st with
    | note f =>
      obtain ⟨ys, hq, _, _⟩ := step_shape (K := K) (hs.tk s16.tk)
      rw [hp6] at hq
      cases hq
      refine ⟨_, rfl, p, _, _, _, rfl, rfl, SqT.of hp6, atI_nat (j := 0) rfl, by show 2 ≤ sizeLine; decide, fun b2 nb2 => ?_⟩
      refine ⟨b2, _, rfl, .inr (SqT.of upd_same), rfl, rfl, _, rfl, ite2 (fun _ => ?_) fun z => absurd (show (!inV (V.str "note") [V.str "copy", V.str "fill"]) = true by decide +kernel) z⟩
      exact ⟨_, rfl, q _ l5 (s16.trans (same_new nb2)) n6 (same_new nb2 _ _ h6)⟩
    | fence =>
      refine ⟨_, rfl, p, _, _, _, rfl, rfl, SqT.of hp6, atI_nat (j := 0) rfl, by show 2 ≤ sizeLine; decide, fun b2 nb2 => ?_⟩
      refine ⟨b2, _, rfl, .inr (SqT.of upd_same), rfl, rfl, _, rfl, ite2 (fun _ => ?_) fun z => absurd (show (!inV (V.str "fence") [V.str "copy", V.str "fill"]) = true by decide +kernel) z⟩
      exact ⟨_, rfl, q _ l5 (s16.trans (same_new nb2)) n6 (same_new nb2 _ _ h6)⟩
    | add A c =>
      refine ⟨_, rfl, p, _, _, _, rfl, rfl, SqT.of hp6, atI_nat (j := 0) rfl, by show 2 ≤ sizeLine; decide, fun b2 nb2 => ?_⟩
      refine ⟨b2, _, rfl, .inr (SqT.of upd_same), rfl, rfl, _, rfl, ite2 (fun _ => ?_) fun z => absurd (show (!inV (V.str "add") [V.str "copy", V.str "fill"]) = true by decide +kernel) z⟩
      exact ⟨_, rfl, q _ l5 (s16.trans (same_new nb2)) n6 (same_new nb2 _ _ h6)⟩
    | fill A y k =>
      refine ⟨_, rfl, p, _, _, _, rfl, rfl, SqT.of hp6, atI_nat (j := 0) rfl, by show 2 ≤ sizeLine; decide, fun b2 nb2 => ?_⟩
      refine ⟨b2, _, rfl, .inr (SqT.of upd_same), rfl, rfl, _, rfl, ite2 (fun z => absurd z (show ¬ (!inV (V.str "fill") [V.str "copy", V.str "fill"]) = true by decide +kernel)) fun _ => ?_⟩
      have s7 := s16.trans (same_new (o := .tup [.str "copy", .str "fill"]) nb2)
      obtain ⟨pa, h1, h2⟩ := (show StepAt _ p (.fill A y k) from hs.tk s7.tk)
      obtain ⟨o1, o2, o3, o4⟩ := ok
      refine ⟨_, rfl, p, _, _, _, rfl, rfl, SqT.of h1, atI_nat (j := 0) rfl, rfl, _, rfl, ite2 (fun z => absurd z (by decide +kernel)) fun _ => iteF ?_⟩
      refine ⟨_, rfl, p, _, _, _, rfl, rfl, SqT.of h1, atI_nat (j := 3) rfl, _, rfl, p, _, _, _, rfl, rfl, SqT.of h1, atI_nat (j := 1) rfl, pa, A, rfl, h2, o1, _, _, rfl, rfl, _, _, rfl, rfl, _, rfl, ?_⟩
      refine ite2 (fun _ => ?_) fun z => absurd (decide_eq_true (by omega)) z
      exact ⟨by show 0 ≤ sizeLine; decide, fun l nl => q _ l (s7.trans (same_new nl)) (s7.free' nl) upd_same⟩
    | copy A B k =>
      refine ⟨_, rfl, p, _, _, _, rfl, rfl, SqT.of hp6, atI_nat (j := 0) rfl, by show 2 ≤ sizeLine; decide, fun b2 nb2 => ?_⟩
      refine ⟨b2, _, rfl, .inr (SqT.of upd_same), rfl, rfl, _, rfl, ite2 (fun z => absurd z (show ¬ (!inV (V.str "copy") [V.str "copy", V.str "fill"]) = true by decide +kernel)) fun _ => ?_⟩
      have s7 := s16.trans (same_new (o := .tup [.str "copy", .str "fill"]) nb2)
      obtain ⟨pa, pb, h1, h2, h3⟩ := (show StepAt _ p (.copy A B k) from hs.tk s7.tk)
      obtain ⟨o1, o2, o3, o4⟩ := ok
      refine ⟨_, rfl, p, _, _, _, rfl, rfl, SqT.of h1, atI_nat (j := 0) rfl, rfl, _, rfl, ite2 (fun _ => ?_) fun z => absurd (by decide +kernel) z⟩
      refine ⟨_, rfl, p, _, _, _, rfl, rfl, SqT.of h1, atI_nat (j := 1) rfl, pa, A, rfl, h2, o1, _, rfl, p, _, _, _, rfl, rfl, SqT.of h1, atI_nat (j := 2) rfl, pb, B, rfl, h3, o2, rfl, _, rfl, iteNS (by rw [o3]) ?_⟩
      refine ⟨_, rfl, p, _, _, _, rfl, rfl, SqT.of h1, atI_nat (j := 3) rfl, _, rfl, p, _, _, _, rfl, rfl, SqT.of h1, atI_nat (j := 1) rfl, pa, A, rfl, h2, o1, _, _, rfl, rfl, _, _, rfl, rfl, _, rfl, ?_⟩
      refine ite2 (fun _ => ?_) fun z => absurd (decide_eq_true (by omega)) z
      exact ⟨by show 0 ≤ sizeLine; decide, fun l nl => q _ l (s7.trans (same_new nl)) (s7.free' nl) upd_same⟩
abbrev N_list_wrong : List Str := ["thing", "number", "step"]
theorem sc_list_wrong : FnScope N_list_wrong ["thing"] (defScope s_list_wrong) := ⟨rfl, rfl, rfl, by decide +kernel, rfl, by decide +kernel, by decide +kernel⟩
theorem D_list_wrong (T : Txt K mg) (TW : TxtW K w) : DefAt P w K mg base "list_wrong" 7 ["thing"] (sp_list_wrong K) := by
  obtain ⟨fd, F⟩ := T.f_list_wrong
  have D_step_wrong := D_step_wrong (P := P) (w := w) (base := base) T TW
  obtain ⟨t_MOST_STEPS, g_MOST_STEPS⟩ := T.i_MOST_STEPS
  refine ⟨He.fAd K ("list_wrong", none), fd, T.g_list_wrong, F.kp, F.bindsN (fun _ _ _ _ _ _ us hl => match us, hl with | [_], _ => rfl), ?_⟩
  refine F.ok sc_list_wrong (fun vs H Q E h => ?_) (fun cdv A outer s H vs Q E hr h => ?_)
  · obtain ⟨_, _, _, rfl, _⟩ := h
    rfl
  · obtain ⟨t, ps, ss, rfl, ht, hs, ok, l1, l2, q⟩ := h
    refine ⟨_, PSs.nox (pss_cons (ps_if (PW.pt (pw_or (pt_not (pt_val (pe_callB call_isA (by rfl) T.r_isinstance (by decide +kernel) (pa_cons (pv 0) (pa_cons (pe_bltn (v := .ty "tuple") (by rfl) T.r_tuple (by decide +kernel) rfl) pa_nil))))) (pw_or1 (pt_not (pt_chain op_le op_le pe_int (pe_callB call_len_seq (by rfl) T.r_len (by decide +kernel) (pa_cons (pv 0) pa_nil)) (pe_glob (v := .int 64) (by rfl) g_MOST_STEPS ⟨_, rfl⟩)))))) (pss_one (ps_ret (pe_lst (pa_cons pe_non pa_nil)))) pss_nil)
      (pss_one (ps_ret (pe_slice sl_list (pe_lc (own := [("number", 1), ("step", 2)]) (g := (gTup K 2 (gCons (gName 1) (gCons (gName 2) gNil)))) rfl sc_list_wrong.nd (pi_enumT (by rfl) T.r_enumerate (pa_cons (pv 0) pa_nil)) (blkOk_by (own := [("number", 1), ("step", 2)]) (N := N_list_wrong) (sc := defScope s_list_wrong) (by decide +kernel)) (fun _ _ _ _ _ => (pg_tupK (K := K) (n := 2) rfl (pgs_cons (pg_name (i := 1) sc_list_wrong.nd rfl (Or.inl rfl)) (pgs_cons (pg_name (i := 2) sc_list_wrong.nd rfl (Or.inl rfl)) pgs_nil)))) (fun _ _ _ _ _ => pts_one (pt_cmpR (op_neL0 hr.units) (pe_def D_step_wrong hr (by rfl) (pa_cons (pv 2) pa_nil)) (pe_lst pa_nil) (nomark _))) (fun _ _ _ _ _ => (pv 1))) po_none (po_some pe_int))))), ?_⟩
    refine ⟨_, rfl, _, _, _, rfl, .tup ht, true, rfl, iteF ?_⟩
    refine ⟨_, rfl, t, _, rfl, .inr (SqT.of ht), _, _, rfl, rfl, _, rfl, ite2 (fun _ => ?_) fun z => absurd (decide_eq_true (by rw [List.length_map]; omega)) z⟩
    refine ⟨_, _, rfl, rfl, _, rfl, iteNS (by rw [List.length_map]; omega) ?_⟩
    refine ⟨_, rfl, t, _, rfl, SqT.of ht, fun D nD => ?_⟩
    refine lc_it (walk_enumT (xs := refsV ps)) (fun i H1 => Same H H1 ∧ H1 D = some (.lst [])) ⟨same_new nD, upd_same⟩ (fun _ H1 _ p => SqT.of (p.1 _ _ ht)) (fun i x H1 H2 hi p y => ?_) (fun H1 p => ?_)
    · obtain ⟨s1, hD⟩ := p
      rw [List.length_map] at hi
      obtain ⟨pp, st, e1, e2, e3⟩ := hs.get hi
      obtain ⟨T1, u, v, rfl, nT, rfl, eu, ev⟩ := y
      cases eu
      have ev2 : (refsV ps)[i]? = some v := ev
      rw [List.getElem?_map, e1] at ev2
      cases ev2
      have sT : Same H1 (upd H1 T1 (.tup [.int (i : Nat), .ref pp])) := same_new nT
      have s2 := Same.trans s1 sT
      refine ⟨T1, _, rfl, SqT.of upd_same, rfl, _, _, rfl, _, _, rfl, rfl, rfl, ?_⟩
      refine ⟨_, rfl, pp, st, rfl, e3.tk s2.tk, ok st (List.mem_of_getElem? e2), fun H3 l s3 n3 h3 => ?_⟩
      refine ⟨by show 0 ≤ sizeLine; decide, fun b nb => ⟨l, b, [], rfl, rfl, same_new nb _ _ h3, upd_same, _, rfl, iteF ?_⟩⟩
      exact ⟨(s2.trans s3).trans (same_new nb), same_new nb _ _ (s3 _ _ (sT _ _ hD))⟩
    · obtain ⟨s1, hD⟩ := p
      refine ⟨_, rfl, D, [], rfl, SqL.of hD, fun l nl => ?_⟩
      exact q _ l (Same.trans s1 (same_new nl)) (Same.free s1 nl) (by rw [upd_same]; rfl)
abbrev N_need_list : List Str := ["thing", "place"]
theorem sc_need_list : FnScope N_need_list ["thing"] (defScope s_need_list) := ⟨rfl, rfl, rfl, by decide +kernel, rfl, by decide +kernel, by decide +kernel⟩
theorem D_need_list (T : Txt K mg) (TW : TxtW K w) : DefAt P w K mg base "need_list" 8 ["thing"] (sp_need_list K) := by
  obtain ⟨fd, F⟩ := T.f_need_list
  have D_list_wrong := D_list_wrong (P := P) (w := w) (base := base) T TW
  refine ⟨He.fAd K ("need_list", none), fd, T.g_need_list, F.kp, F.bindsN (fun _ _ _ _ _ _ us hl => match us, hl with | [_], _ => rfl), ?_⟩
  refine F.ok sc_need_list (fun vs H Q E h => ?_) (fun cdv A outer s H vs Q E hr h => ?_)
  · obtain ⟨_, _, _, rfl, _⟩ := h
    rfl
  · obtain ⟨t, ps, ss, rfl, ht, hs, ok, l1, l2, q⟩ := h
    refine ⟨_, PSs.nox (pss_one (ps_for PassesOwn.never rfl (pi_list (pe_def D_list_wrong hr (by rfl) (pa_cons (pv 0) pa_nil))) (pg_name (i := 1) sc_need_list.nd rfl (Or.inl rfl))
        (pss_one ps_never))), ?_⟩
    refine ⟨_, rfl, t, ps, ss, rfl, ht, hs, ok, l1, l2, fun H1 l s1 n1 h1 => ?_⟩
    refine ⟨l, rfl, ⟨_, SqL.of h1⟩, for_it (walk_list (xs := [])) (fun i σ H2 => H2 = H1) rfl (fun i σ H2 _ p => by subst p; exact SqL.of h1) (fun i x σ H2 H3 hi p y => by cases hi) (fun σ H2 p => ?_)⟩
    subst p
    exact q _ s1
end
/-! ### touches -/
def TouchAt (H : Hp) (q : Addr) (x : Bool × Nat) : Prop := H q = some (.tup [.str (if x.1 then "w" else "r"), .int (x.2 : Nat)])
def PartAt (H : Hp) (t : Addr) (p : Part) : Prop := ∃ qs : List Addr, H t = some (.tup (refsV qs)) ∧ qs.length = p.length ∧ ∀ (i : Nat) (q : Addr) (x : Bool × Nat), qs[i]? = some q → p[i]? = some x → TouchAt H q x
def PartsAt (H : Hp) (ts : List Addr) (ps : List Part) : Prop := ts.length = ps.length ∧ ∀ (i : Nat) (t : Addr) (p : Part), ts[i]? = some t → ps[i]? = some p → PartAt H t p
theorem PartAt.tk {H H' : Hp} {t : Addr} {p : Part} (h : PartAt H t p) (k : TK H H') : PartAt H' t p := by
  obtain ⟨qs, a, b, c⟩ := h
  exact ⟨qs, k _ _ a, b, fun i q x e1 e2 => k _ _ (c i q x e1 e2)⟩
theorem PartsAt.tk {H H' : Hp} {ts : List Addr} {ps : List Part} (h : PartsAt H ts ps) (k : TK H H') : PartsAt H' ts ps := ⟨h.1, fun i t p e1 e2 => (h.2 i t p e1 e2).tk k⟩
theorem PartsAt.nil (H : Hp) : PartsAt H [] [] := ⟨rfl, fun i p s e => by simp at e⟩
theorem PartsAt.snoc {H : Hp} {ts : List Addr} {ps : List Part} (h : PartsAt H ts ps) {t : Addr} {p : Part} (hs : PartAt H t p) : PartsAt H (ts ++ [t]) (ps ++ [p]) := by
  refine ⟨by rw [List.length_append, List.length_append, h.1]; rfl, fun i q t e1 e2 => ?_⟩
  by_cases hi : i < ts.length
  · rw [List.getElem?_append_left hi] at e1
    rw [List.getElem?_append_left (h.1 ▸ hi)] at e2
    exact h.2 i q t e1 e2
  · have hi2 : i < (ts ++ [_]).length := (List.getElem?_eq_some_iff.mp e1).1
    rw [List.length_append, List.length_singleton] at hi2
    have e : i = ts.length := by omega
    subst e
    rw [List.getElem?_append_right (Nat.le_refl _), Nat.sub_self] at e1
    rw [h.1, List.getElem?_append_right (Nat.le_refl _), Nat.sub_self] at e2
    cases e1
    cases e2
    exact hs
theorem PartsAt.push1 {H : Hp} {ts : List Addr} {ps : List Part} (h : PartsAt H ts ps) {q t : Addr} {x : Bool × Nat} (nq : H q = none) (nt : upd H q (.tup [.str (if x.1 then "w" else "r"), .int (x.2 : Nat)]) t = none) :
    PartsAt (upd (upd H q (.tup [.str (if x.1 then "w" else "r"), .int (x.2 : Nat)])) t (.tup [.ref q])) (ts ++ [t]) (ps ++ [[x]]) := by
  have s1 : Same H (upd H q (.tup [.str (if x.1 then "w" else "r"), .int (x.2 : Nat)])) := same_new nq
  have s2 : Same (upd H q (.tup [.str (if x.1 then "w" else "r"), .int (x.2 : Nat)])) (upd (upd H q (.tup [.str (if x.1 then "w" else "r"), .int (x.2 : Nat)])) t (.tup [.ref q])) := same_new nt
  refine (h.tk (s1.trans s2).tk).snoc ⟨[q], upd_same, rfl, fun i a b e1 e2 => ?_⟩
  match i with
  | 0 =>
    cases e1
    cases e2
    exact s2 _ _ upd_same
  | i + 1 => simp at e1
theorem PartsAt.push2 {H : Hp} {ts : List Addr} {ps : List Part} (h : PartsAt H ts ps) {q r t : Addr} {x y : Bool × Nat} (nq : H q = none) (nr : upd H q (.tup [.str (if x.1 then "w" else "r"), .int (x.2 : Nat)]) r = none)
    (nt : upd (upd H q (.tup [.str (if x.1 then "w" else "r"), .int (x.2 : Nat)])) r (.tup [.str (if y.1 then "w" else "r"), .int (y.2 : Nat)]) t = none) :
    PartsAt (upd (upd (upd H q (.tup [.str (if x.1 then "w" else "r"), .int (x.2 : Nat)])) r (.tup [.str (if y.1 then "w" else "r"), .int (y.2 : Nat)])) t (.tup [.ref q, .ref r])) (ts ++ [t]) (ps ++ [[x, y]]) := by
  have s1 : Same H (upd H q (.tup [.str (if x.1 then "w" else "r"), .int (x.2 : Nat)])) := same_new nq
  have s2 : Same (upd H q (.tup [.str (if x.1 then "w" else "r"), .int (x.2 : Nat)])) (upd (upd H q (.tup [.str (if x.1 then "w" else "r"), .int (x.2 : Nat)])) r (.tup [.str (if y.1 then "w" else "r"), .int (y.2 : Nat)])) := same_new nr
  have s3 : Same (upd (upd H q (.tup [.str (if x.1 then "w" else "r"), .int (x.2 : Nat)])) r (.tup [.str (if y.1 then "w" else "r"), .int (y.2 : Nat)])) (upd (upd (upd H q (.tup [.str (if x.1 then "w" else "r"), .int (x.2 : Nat)])) r (.tup [.str (if y.1 then "w" else "r"), .int (y.2 : Nat)])) t (.tup [.ref q, .ref r])) := same_new nt
  refine (h.tk ((s1.trans s2).trans s3).tk).snoc ⟨[q, r], upd_same, rfl, fun i a b e1 e2 => ?_⟩
  match i with
  | 0 =>
    cases e1
    cases e2
    exact (s2.trans s3) _ _ upd_same
  | 1 =>
    cases e1
    cases e2
    exact s3 _ _ upd_same
  | i + 2 => simp at e1
theorem cutV_from (xs : List V) (k : Nat) (h : k ≤ xs.length) : cutV xs (some (k : Int)) none = xs.drop k := by
  unfold cutV
  rw [HT.sIx_nat, HT.sIx_none, Nat.min_eq_left h, List.take_of_length_le]
  rw [List.length_drop]
  exact Nat.le_refl _
def sp_all_touches (K : PySem.W.Frag) : Sp := fun vs H Q _ => ∃ p s, vs = [.ref p] ∧ StepAt H p s ∧ s.Ok 30 ∧ ∀ H' l ts, Same H H' → H l = none → H' l = some (.lst (refsV ts)) → PartsAt H' ts s.parts → Q (.ref l) H'
section
variable {P : Program} {w : World} {K : PySem.W.Frag} {mg : Str → Option Value} {base : Heap}
abbrev N_all_touches : List Str := ["step", "pairs", "cell", "far"]
theorem sc_all_touches : FnScope N_all_touches ["step"] (defScope s_all_touches) := ⟨rfl, rfl, rfl, by decide +kernel, rfl, by decide +kernel, by decide +kernel⟩
theorem D_all_touches (T : Txt K mg) (TW : TxtW K w) : DefAt P w K mg base "all_touches" 2 ["step"] (sp_all_touches K) := by
  obtain ⟨fd, F⟩ := T.f_all_touches
  have D_own_cells := D_own_cells (P := P) (w := w) (base := base) T TW
  obtain ⟨t_ADD, g_ADD⟩ := T.s_ADD
  obtain ⟨t_COPY, g_COPY⟩ := T.s_COPY
  obtain ⟨t_FILL, g_FILL⟩ := T.s_FILL
  obtain ⟨t_READ, g_READ⟩ := T.s_READ
  obtain ⟨t_WRITE, g_WRITE⟩ := T.s_WRITE
  refine ⟨He.fAd K ("all_touches", none), fd, T.g_all_touches, F.kp, F.bindsN (fun _ _ _ _ _ _ us hl => match us, hl with | [_], _ => rfl), ?_⟩
  refine F.ok sc_all_touches (fun vs H Q E h => ?_) (fun cdv A outer s H vs Q E hr h => ?_)
  · obtain ⟨_, _, rfl, _⟩ := h
    rfl
  · obtain ⟨p, st, rfl, hs, ok, q⟩ := h
    refine ⟨_, PSs.nox (pss_cons (ps_if (pt_cmpR op_eq (pe_ix ix_tup (pv 0) pe_int (fun _ _ => rfl)) (pe_glob (v := .str "copy") (by rfl) g_COPY ⟨_, rfl⟩) (nomark _)) (pss_cons (ps_set (i := 1) sc_all_touches.nd rfl (Or.inl rfl) (pe_slice sl_list (pe_listZipS rfl (by rfl) T.r_list (by rfl) T.r_zip (pa_cons (pe_def D_own_cells hr (by rfl) (pa_cons (pe_ix ix_tup (pv 0) pe_int (fun _ _ => rfl)) pa_nil)) (pa_cons (pe_def D_own_cells hr (by rfl) (pa_cons (pe_ix ix_tup (pv 0) pe_int (fun _ _ => rfl)) pa_nil)) pa_nil)) (pk_cons pe_bl pk_nil)) (po_some (pe_ix ix_tup (pv 0) pe_int (fun _ _ => rfl))) po_none))
        (pss_one (ps_ret (pe_lc (own := [("cell", 2), ("far", 3)]) (g := (gTup K 2 (gCons (gName 2) (gCons (gName 3) gNil)))) rfl sc_all_touches.nd (pi_list (pv 1)) (blkOk_by (own := [("cell", 2), ("far", 3)]) (N := N_all_touches) (sc := defScope s_all_touches) (by decide +kernel)) (fun _ _ _ _ _ => (pg_tupK (K := K) (n := 2) rfl (pgs_cons (pg_name (i := 2) sc_all_touches.nd rfl (Or.inl rfl)) (pgs_cons (pg_name (i := 3) sc_all_touches.nd rfl (Or.inl rfl)) pgs_nil)))) (fun _ _ _ _ _ => pts_nil) (fun _ _ _ _ _ => (pe_tup (pa_cons (pe_tup (pa_cons (pe_glob (v := .str "r") (by rfl) g_READ ⟨_, rfl⟩) (pa_cons (pv 2) pa_nil))) (pa_cons (pe_tup (pa_cons (pe_glob (v := .str "w") (by rfl) g_WRITE ⟨_, rfl⟩) (pa_cons (pv 3) pa_nil))) pa_nil)))))))) pss_nil)
      (pss_cons (ps_if (pt_cmpR op_eq (pe_ix ix_tup (pv 0) pe_int (fun _ _ => rfl)) (pe_glob (v := .str "fill") (by rfl) g_FILL ⟨_, rfl⟩) (nomark _)) (pss_one (ps_ret (pe_lc (own := [("cell", 2)]) (g := (gName 2)) rfl sc_all_touches.nd (pi_tup (pe_slice sl_tupA (pe_def D_own_cells hr (by rfl) (pa_cons (pe_ix ix_tup (pv 0) pe_int (fun _ _ => rfl)) pa_nil)) (po_some (pe_ix ix_tup (pv 0) pe_int (fun _ _ => rfl))) po_none)) (blkOk_by (own := [("cell", 2)]) (N := N_all_touches) (sc := defScope s_all_touches) (by decide +kernel)) (fun _ _ _ _ _ => (pg_name (i := 2) sc_all_touches.nd rfl (Or.inl rfl))) (fun _ _ _ _ _ => pts_nil) (fun _ _ _ _ _ => (pe_tup (pa_cons (pe_tup (pa_cons (pe_glob (v := .str "w") (by rfl) g_WRITE ⟨_, rfl⟩) (pa_cons (pv 2) pa_nil))) pa_nil)))))) pss_nil)
      (pss_cons (ps_if (pt_cmpR op_eq (pe_ix ix_tup (pv 0) pe_int (fun _ _ => rfl)) (pe_glob (v := .str "add") (by rfl) g_ADD ⟨_, rfl⟩) (nomark _)) (pss_one (ps_ret (pe_op op_cat (pe_lc (own := [("cell", 2)]) (g := (gName 2)) rfl sc_all_touches.nd (pi_tup (pe_def D_own_cells hr (by rfl) (pa_cons (pe_ix ix_tup (pv 0) pe_int (fun _ _ => rfl)) pa_nil))) (blkOk_by (own := [("cell", 2)]) (N := N_all_touches) (sc := defScope s_all_touches) (by decide +kernel)) (fun _ _ _ _ _ => (pg_name (i := 2) sc_all_touches.nd rfl (Or.inl rfl))) (fun _ _ _ _ _ => pts_nil) (fun _ _ _ _ _ => (pe_tup (pa_cons (pe_tup (pa_cons (pe_glob (v := .str "r") (by rfl) g_READ ⟨_, rfl⟩) (pa_cons (pv 2) pa_nil))) pa_nil)))) (pe_lst (pa_cons (pe_tup (pa_cons (pe_tup (pa_cons (pe_glob (v := .str "w") (by rfl) g_WRITE ⟨_, rfl⟩) (pa_cons (pe_ix ix_tup (pv 0) pe_int (fun _ _ => rfl)) pa_nil))) pa_nil)) pa_nil))))) pss_nil)
      (pss_one (ps_ret (pe_lst (pa_cons (pe_tup pa_nil) pa_nil))))))), ?_⟩
    cases st with
    | note f =>
      have h1 : H p = _ := hs
      refine ⟨_, rfl, p, _, _, _, rfl, rfl, SqT.of h1, atI_nat (j := 0) rfl, rfl, _, rfl, ite2 (fun z => absurd z (by decide +kernel)) fun _ => ?_⟩
      refine ⟨_, rfl, p, _, _, _, rfl, rfl, SqT.of h1, atI_nat (j := 0) rfl, rfl, _, rfl, ite2 (fun z => absurd z (by decide +kernel)) fun _ => ?_⟩
      refine ⟨_, rfl, p, _, _, _, rfl, rfl, SqT.of h1, atI_nat (j := 0) rfl, rfl, _, rfl, ite2 (fun z => absurd z (by decide +kernel)) fun _ => ?_⟩
      refine ⟨by show 0 ≤ sizeLine; decide, fun t nt => ⟨by show 1 ≤ sizeLine; decide, fun l nl => ?_⟩⟩
      have s1 : Same H (upd H t (.tup [])) := same_new nt
      have s2 : Same (upd H t (.tup [])) (upd (upd H t (.tup [])) l (.lst [.ref t])) := same_new nl
      exact q _ l [t] (s1.trans s2) (s1.free' nl) upd_same ((PartsAt.nil _).snoc (t := t) (p := []) ⟨[], s2 _ _ upd_same, rfl, fun i q x e => by simp at e⟩)
    | fence =>
      have h1 : H p = _ := hs
      refine ⟨_, rfl, p, _, _, _, rfl, rfl, SqT.of h1, atI_nat (j := 0) rfl, rfl, _, rfl, ite2 (fun z => absurd z (by decide +kernel)) fun _ => ?_⟩
      refine ⟨_, rfl, p, _, _, _, rfl, rfl, SqT.of h1, atI_nat (j := 0) rfl, rfl, _, rfl, ite2 (fun z => absurd z (by decide +kernel)) fun _ => ?_⟩
      refine ⟨_, rfl, p, _, _, _, rfl, rfl, SqT.of h1, atI_nat (j := 0) rfl, rfl, _, rfl, ite2 (fun z => absurd z (by decide +kernel)) fun _ => ?_⟩
      refine ⟨by show 0 ≤ sizeLine; decide, fun t nt => ⟨by show 1 ≤ sizeLine; decide, fun l nl => ?_⟩⟩
      have s1 : Same H (upd H t (.tup [])) := same_new nt
      have s2 : Same (upd H t (.tup [])) (upd (upd H t (.tup [])) l (.lst [.ref t])) := same_new nl
      exact q _ l [t] (s1.trans s2) (s1.free' nl) upd_same ((PartsAt.nil _).snoc (t := t) (p := []) ⟨[], s2 _ _ upd_same, rfl, fun i q x e => by simp at e⟩)
    | add A c =>
      obtain ⟨pa, h1, h2⟩ := hs
      obtain ⟨o1, o2⟩ := ok
      refine ⟨_, rfl, p, _, _, _, rfl, rfl, SqT.of h1, atI_nat (j := 0) rfl, rfl, _, rfl, ite2 (fun z => absurd z (by decide +kernel)) fun _ => ?_⟩
      refine ⟨_, rfl, p, _, _, _, rfl, rfl, SqT.of h1, atI_nat (j := 0) rfl, rfl, _, rfl, ite2 (fun z => absurd z (by decide +kernel)) fun _ => ?_⟩
      refine ⟨_, rfl, p, _, _, _, rfl, rfl, SqT.of h1, atI_nat (j := 0) rfl, rfl, _, rfl, ite2 (fun _ => ?_) fun z => absurd (by decide +kernel) z⟩
      refine ⟨_, rfl, p, _, _, _, rfl, rfl, SqT.of h1, atI_nat (j := 1) rfl, pa, A, rfl, h2, o1, fun H1 t1 s1 n1 e1 => ⟨t1, rfl, ⟨_, SqT.of e1⟩, fun D nD => ?_⟩⟩
      have six := o1.size_six
      rw [← A.cells_len] at six
      refine lc_it (walk_tup (xs := natsV A.cells)) (fun i H3 => Same H1 H3 ∧ ∃ ts, H3 D = some (.lst (refsV ts)) ∧ PartsAt H3 ts ((A.cells.take i).map fun x => [(false, x)])) ⟨same_new nD, [], upd_same, PartsAt.nil _⟩ (fun _ H3 _ p => SqT.of (p.1 _ _ e1)) (fun i x H3 H4 hi p y => ?_) (fun H3 p => ?_)
      · obtain ⟨s3, ts, hD, hP⟩ := p
        rw [List.length_map] at hi
        obtain ⟨rfl, ex⟩ := y
        rw [List.getElem?_map] at ex
        obtain ⟨c0, ec, rfl⟩ := Option.map_eq_some_iff.mp ex
        refine ⟨rfl, _, rfl, by show 2 ≤ sizeLine; decide, fun q0 nq => ⟨by show 1 ≤ sizeLine; decide, fun t0 nt => ?_⟩⟩
        have sq : Same H4 (upd H4 q0 (.tup [.str "r", .int (c0 : Nat)])) := same_new nq
        have st : Same (upd H4 q0 (.tup [.str "r", .int (c0 : Nat)])) (upd (upd H4 q0 (.tup [.str "r", .int (c0 : Nat)])) t0 (.tup [.ref q0])) := same_new nt
        have hD2 := (sq.trans st) _ _ hD
        refine ⟨refsV ts, hD2, ?_, ?_, ts ++ [t0], ?_, ?_⟩
        · have := hP.1
          rw [List.length_map, List.length_take] at this
          rw [List.length_map, sizeLine_eq]
          omega
        · exact fun b o e => by
            have hne : b ≠ D := ne_of_none e nD
            rw [upd_ne hne]
            exact (Same.trans s3 (sq.trans st)) b o e
        · rw [upd_same]
          simp
        · have pp := hP.push1 (x := (false, c0)) nq nt
          have e5 : (A.cells.take (i + 1)).map (fun x => [(false, x)]) = (A.cells.take i).map (fun x => [(false, x)]) ++ [[(false, c0)]] := by
            rw [List.take_add_one, ec, List.map_append]
            rfl
          rw [e5]
          refine pp.tk fun b xs e => ?_
          have hne : b ≠ D := ne_of e hD2 (by intro z; cases z)
          rw [upd_ne hne]
          exact e
      · obtain ⟨s3, ts, hD, hP⟩ := p
        rw [List.length_map, List.take_length] at hP
        have h13 : H3 p = _ := (s1.trans s3) _ _ h1
        refine ⟨_, rfl, p, _, _, _, rfl, rfl, SqT.of h13, atI_nat (j := 2) rfl, by show 2 ≤ sizeLine; decide, fun q0 nq => ⟨by show 1 ≤ sizeLine; decide, fun t0 nt => ⟨by show 1 ≤ sizeLine; decide, fun l0 nl => ?_⟩⟩⟩
        have sq : Same H3 (upd H3 q0 (.tup [.str "w", .int (c : Nat)])) := same_new nq
        have st : Same (upd H3 q0 (.tup [.str "w", .int (c : Nat)])) (upd (upd H3 q0 (.tup [.str "w", .int (c : Nat)])) t0 (.tup [.ref q0])) := same_new nt
        have sl : Same (upd (upd H3 q0 (.tup [.str "w", .int (c : Nat)])) t0 (.tup [.ref q0])) (upd (upd (upd H3 q0 (.tup [.str "w", .int (c : Nat)])) t0 (.tup [.ref q0])) l0 (.lst [.ref t0])) := same_new nl
        have pp := hP.push1 (x := (true, c)) nq nt
        have sa := (sq.trans st).trans sl
        refine ⟨D, l0, refsV ts, _, rfl, rfl, sa _ _ hD, upd_same, ?_, fun r nr => ?_⟩
        · have := hP.1
          rw [List.length_map] at this
          rw [List.length_map, sizeLine_eq]
          show _ + 1 ≤ _
          omega
        · have sr : Same (upd (upd (upd H3 q0 (.tup [.str "w", .int (c : Nat)])) t0 (.tup [.ref q0])) l0 (.lst [.ref t0])) _ := same_new (o := .lst (refsV ts ++ [.ref t0])) nr
          refine q _ r (ts ++ [t0]) (((s1.trans s3).trans sa).trans sr) (((s1.trans s3).trans sa).free' nr) ?_ (pp.tk (sl.trans sr).tk)
          rw [upd_same]
          simp
    | fill A y k =>
      obtain ⟨pa, h1, h2⟩ := hs
      obtain ⟨o1, o2, o3, o4⟩ := ok
      have six := o1.size_six
      rw [← A.cells_len] at six o4
      refine ⟨_, rfl, p, _, _, _, rfl, rfl, SqT.of h1, atI_nat (j := 0) rfl, rfl, _, rfl, ite2 (fun z => absurd z (by decide +kernel)) fun _ => ?_⟩
      refine ⟨_, rfl, p, _, _, _, rfl, rfl, SqT.of h1, atI_nat (j := 0) rfl, rfl, _, rfl, ite2 (fun _ => ?_) fun z => absurd (by decide +kernel) z⟩
      refine ⟨_, rfl, p, _, _, _, rfl, rfl, SqT.of h1, atI_nat (j := 1) rfl, pa, A, rfl, h2, o1, fun H1 t1 s1 n1 e1 => ?_⟩
      have cl : cutV (natsV A.cells) (some (k : Int)) none = natsV (A.cells.drop k) := by
        rw [cutV_from _ _ (by rw [List.length_map]; omega)]
        exact List.map_drop.symm
      refine ⟨_, rfl, p, _, _, _, rfl, rfl, SqT.of (s1 _ _ h1), atI_nat (j := 3) rfl, _, rfl, t1, _, rfl, SqT.of e1, fun z => ?_, fun z t2 n2 => ?_⟩
      · have k0 : k = 0 := by
          have := z.1
          rw [HT.sIx_nat, List.length_map] at this
          omega
        have e2 : H1 t1 = some (.tup (natsV (A.cells.drop k))) := by rw [k0, List.drop_zero]; exact e1
        refine ⟨t1, rfl, ⟨_, SqT.of e2⟩, fun D nD => ?_⟩
        refine lc_it (walk_tup (xs := natsV (A.cells.drop k))) (fun i H3 => Same H1 H3 ∧ ∃ ts, H3 D = some (.lst (refsV ts)) ∧ PartsAt H3 ts (((A.cells.drop k).take i).map fun x => [(true, x)])) ⟨same_new nD, [], upd_same, PartsAt.nil _⟩ (fun _ H3 _ p => SqT.of (p.1 _ _ e2)) (fun i x H3 H4 hi p y => ?_) (fun H3 p => ?_)
        · obtain ⟨s3, ts, hD, hP⟩ := p
          rw [List.length_map] at hi
          obtain ⟨rfl, ex⟩ := y
          rw [List.getElem?_map] at ex
          obtain ⟨c0, ec, rfl⟩ := Option.map_eq_some_iff.mp ex
          refine ⟨rfl, _, rfl, by show 2 ≤ sizeLine; decide, fun q0 nq => ⟨by show 1 ≤ sizeLine; decide, fun t0 nt => ?_⟩⟩
          have sq : Same H4 (upd H4 q0 (.tup [.str "w", .int (c0 : Nat)])) := same_new nq
          have st : Same (upd H4 q0 (.tup [.str "w", .int (c0 : Nat)])) (upd (upd H4 q0 (.tup [.str "w", .int (c0 : Nat)])) t0 (.tup [.ref q0])) := same_new nt
          have hD2 := (sq.trans st) _ _ hD
          refine ⟨refsV ts, hD2, ?_, ?_, ts ++ [t0], ?_, ?_⟩
          · have := hP.1
            rw [List.length_map, List.length_take, List.length_drop] at this
            rw [List.length_map, sizeLine_eq]
            omega
          · exact fun b o e => by
              have hne : b ≠ D := ne_of_none e nD
              rw [upd_ne hne]
              exact (Same.trans s3 (sq.trans st)) b o e
          · rw [upd_same]
            simp
          · have pp := hP.push1 (x := (true, c0)) nq nt
            have e5 : ((A.cells.drop k).take (i + 1)).map (fun x => [(true, x)]) = ((A.cells.drop k).take i).map (fun x => [(true, x)]) ++ [[(true, c0)]] := by
              rw [List.take_add_one, ec, List.map_append]
              rfl
            rw [e5]
            refine pp.tk fun b xs e => ?_
            have hne : b ≠ D := ne_of e hD2 (by intro z; cases z)
            rw [upd_ne hne]
            exact e
        · obtain ⟨s3, ts, hD, hP⟩ := p
          rw [List.length_map, List.take_length] at hP
          exact q H3 D ts (s1.trans s3) (s1.free' nD) hD hP
      · have s12 : Same H (upd H1 t2 (.tup (cutV (natsV A.cells) (some (k : Int)) none))) := s1.trans (same_new n2)
        have e2 : (upd H1 t2 (.tup (cutV (natsV A.cells) (some (k : Int)) none))) t2 = some (.tup (natsV (A.cells.drop k))) := by rw [upd_same, cl]
        refine ⟨t2, rfl, ⟨_, SqT.of e2⟩, fun D nD => ?_⟩
        refine lc_it (walk_tup (xs := natsV (A.cells.drop k))) (fun i H3 => Same (upd H1 t2 (.tup (cutV (natsV A.cells) (some (k : Int)) none))) H3 ∧ ∃ ts, H3 D = some (.lst (refsV ts)) ∧ PartsAt H3 ts (((A.cells.drop k).take i).map fun x => [(true, x)])) ⟨same_new nD, [], upd_same, PartsAt.nil _⟩ (fun _ H3 _ p => SqT.of (p.1 _ _ e2)) (fun i x H3 H4 hi p y => ?_) (fun H3 p => ?_)
        · obtain ⟨s3, ts, hD, hP⟩ := p
          rw [List.length_map] at hi
          obtain ⟨rfl, ex⟩ := y
          rw [List.getElem?_map] at ex
          obtain ⟨c0, ec, rfl⟩ := Option.map_eq_some_iff.mp ex
          refine ⟨rfl, _, rfl, by show 2 ≤ sizeLine; decide, fun q0 nq => ⟨by show 1 ≤ sizeLine; decide, fun t0 nt => ?_⟩⟩
          have sq : Same H4 (upd H4 q0 (.tup [.str "w", .int (c0 : Nat)])) := same_new nq
          have st : Same (upd H4 q0 (.tup [.str "w", .int (c0 : Nat)])) (upd (upd H4 q0 (.tup [.str "w", .int (c0 : Nat)])) t0 (.tup [.ref q0])) := same_new nt
          have hD2 := (sq.trans st) _ _ hD
          refine ⟨refsV ts, hD2, ?_, ?_, ts ++ [t0], ?_, ?_⟩
          · have := hP.1
            rw [List.length_map, List.length_take, List.length_drop] at this
            rw [List.length_map, sizeLine_eq]
            omega
          · exact fun b o e => by
              have hne : b ≠ D := ne_of_none e nD
              rw [upd_ne hne]
              exact (Same.trans s3 (sq.trans st)) b o e
          · rw [upd_same]
            simp
          · have pp := hP.push1 (x := (true, c0)) nq nt
            have e5 : ((A.cells.drop k).take (i + 1)).map (fun x => [(true, x)]) = ((A.cells.drop k).take i).map (fun x => [(true, x)]) ++ [[(true, c0)]] := by
              rw [List.take_add_one, ec, List.map_append]
              rfl
            rw [e5]
            refine pp.tk fun b xs e => ?_
            have hne : b ≠ D := ne_of e hD2 (by intro z; cases z)
            rw [upd_ne hne]
            exact e
        · obtain ⟨s3, ts, hD, hP⟩ := p
          rw [List.length_map, List.take_length] at hP
          exact q H3 D ts (s12.trans s3) (s12.free' nD) hD hP
    | copy A B k =>
      obtain ⟨pa, pb, h1, h2, h3⟩ := hs
      obtain ⟨o1, o2, o3, o4⟩ := ok
      have six := o1.size_six
      have pos := o1.size_pos
      rw [← A.cells_len] at six o4 o3 pos
      rw [← B.cells_len] at o3
      refine ⟨_, rfl, p, _, _, _, rfl, rfl, SqT.of h1, atI_nat (j := 0) rfl, rfl, _, rfl, ite2 (fun _ => ?_) fun z => absurd (by decide +kernel) z⟩
      refine ⟨_, rfl, p, _, _, _, rfl, rfl, SqT.of h1, atI_nat (j := 1) rfl, pa, A, rfl, h2, o1, fun H1 t1 s1 n1 e1 => ?_⟩
      refine ⟨_, rfl, p, _, _, _, rfl, rfl, SqT.of (s1 _ _ h1), atI_nat (j := 2) rfl, pb, B, rfl, h3.tk s1.tk, o2, fun H2 t2 s2 n2 e2 => ?_⟩
      refine ⟨t1, t2, _, _, rfl, rfl, SqT.of (s2 _ _ e1), SqT.of e2, by rw [List.length_map]; omega, by rw [List.length_map, List.length_map]; exact o3, fun H3 l ts s3 n3 hl hnot pr => ?_⟩
      have s123 := (s1.trans s2).trans s3
      refine ⟨_, rfl, p, _, _, _, rfl, rfl, SqT.of (s123 _ _ h1), atI_nat (j := 3) rfl, _, rfl, l, _, rfl, SqL.of hl, fun l2 nl2 => ?_⟩
      have tl : ts.length = A.cells.length := by
        have := Paired.length pr
        rw [this, List.length_zip, List.length_map, List.length_map, o3, Nat.min_self]
      have cl : cutV (refsV ts) (some (k : Int)) none = refsV (ts.drop k) := by
        rw [cutV_from _ _ (by rw [List.length_map]; omega)]
        exact List.map_drop.symm
      rw [cl]
      have s4 : Same H3 (upd H3 l2 (.lst (refsV (ts.drop k)))) := same_new nl2
      refine ⟨_, rfl, l2, rfl, ⟨_, SqL.of upd_same⟩, fun D nD => ?_⟩
      have zl : ((A.cells.zip B.cells).drop k).length = (ts.drop k).length := by rw [List.length_drop, List.length_drop, List.length_zip, tl, o3, Nat.min_self]
      have el : (upd H3 l2 (.lst (refsV (ts.drop k)))) l2 = some (.lst (refsV (ts.drop k))) := upd_same
      refine lc_it (walk_list (xs := refsV (ts.drop k))) (fun i H4 => Same (upd H3 l2 (.lst (refsV (ts.drop k)))) H4 ∧ ∃ us, H4 D = some (.lst (refsV us)) ∧ PartsAt H4 us ((((A.cells.zip B.cells).drop k).take i).map fun x => [(false, x.1), (true, x.2)])) ⟨same_new nD, [], upd_same, PartsAt.nil _⟩ (fun _ H4 _ p => SqL.of (p.1 _ _ el)) (fun i x H4 H5 hi p y => ?_) (fun H4 p => ?_)
      · obtain ⟨s5, us, hD, hP⟩ := p
        rw [List.length_map] at hi
        obtain ⟨rfl, ex⟩ := y
        rw [List.getElem?_map, List.getElem?_drop] at ex
        obtain ⟨t0, et, rfl⟩ := Option.map_eq_some_iff.mp ex
        obtain ⟨pq, epq, hpq⟩ := LiI.paired_get pr et
        have ez : ((A.cells.zip B.cells).drop k)[i]? = some ((A.cells.zip B.cells).drop k)[i] := List.getElem?_eq_getElem (by rw [zl]; exact hi)
        generalize hxy : ((A.cells.zip B.cells).drop k)[i] = xy at ez
        obtain ⟨cx, cy⟩ := xy
        have ez2 := ez
        rw [List.getElem?_drop] at ez2
        obtain ⟨g1, g2⟩ := List.getElem?_zip_eq_some.mp ez2
        obtain ⟨g3, g4⟩ := List.getElem?_zip_eq_some.mp epq
        rw [List.getElem?_map, g1] at g3
        rw [List.getElem?_map, g2] at g4
        have v1 : pq.1 = V.int (cx : Nat) := (Option.some.inj g3).symm
        have v2 : pq.2 = V.int (cy : Nat) := (Option.some.inj g4).symm
        rw [v1, v2] at hpq
        refine ⟨t0, _, rfl, SqT.of (s5 _ _ (s4 _ _ hpq)), rfl, _, _, rfl, _, _, rfl, rfl, rfl, ?_⟩
        refine ⟨_, rfl, by show 2 ≤ sizeLine; decide, fun q0 nq => ⟨_, rfl, by show 2 ≤ sizeLine; decide, fun r0 nr => ⟨by show 2 ≤ sizeLine; decide, fun t0 nt => ?_⟩⟩⟩
        have sq : Same H5 (upd H5 q0 (.tup [.str "r", .int (cx : Nat)])) := same_new nq
        have sr : Same (upd H5 q0 (.tup [.str "r", .int (cx : Nat)])) (upd (upd H5 q0 (.tup [.str "r", .int (cx : Nat)])) r0 (.tup [.str "w", .int (cy : Nat)])) := same_new nr
        have st : Same (upd (upd H5 q0 (.tup [.str "r", .int (cx : Nat)])) r0 (.tup [.str "w", .int (cy : Nat)])) (upd (upd (upd H5 q0 (.tup [.str "r", .int (cx : Nat)])) r0 (.tup [.str "w", .int (cy : Nat)])) t0 (.tup [.ref q0, .ref r0])) := same_new nt
        have sA := (sq.trans sr).trans st
        have hD2 := sA _ _ hD
        refine ⟨refsV us, hD2, ?_, ?_, us ++ [t0], ?_, ?_⟩
        · have := hP.1
          rw [List.length_map, List.length_take, zl, List.length_drop] at this
          rw [List.length_map, sizeLine_eq]
          omega
        · exact fun b o e => by
            have hne : b ≠ D := ne_of_none e nD
            rw [upd_ne hne]
            exact (Same.trans s5 sA) b o e
        · rw [upd_same]
          simp
        · have pp := hP.push2 (x := (false, cx)) (y := (true, cy)) nq nr nt
          have e5 : (((A.cells.zip B.cells).drop k).take (i + 1)).map (fun x => [(false, x.1), (true, x.2)]) = (((A.cells.zip B.cells).drop k).take i).map (fun x => [(false, x.1), (true, x.2)]) ++ [[(false, cx), (true, cy)]] := by
            rw [List.take_add_one, ez, List.map_append]
            rfl
          rw [e5]
          refine pp.tk fun b xs e => ?_
          have hne : b ≠ D := ne_of e hD2 (by intro z; cases z)
          rw [upd_ne hne]
          exact e
      · obtain ⟨s5, us, hD, hP⟩ := p
        rw [List.length_map, ← zl, List.take_length] at hP
        exact q H4 D us ((s123.trans s4).trans s5) ((s123.trans s4).free' nD) hD hP
end
end Hl
end

section
set_option Elab.async false
set_option linter.all false
set_option maxRecDepth 100000
set_option maxHeartbeats 4000000
/-! store.py -/
namespace Hl
open PySem PySem.Spec PyProof.Rows L2
/-! ### o.f as a target; C(..); len(o) -/
def gFld (K : PySem.W.Frag) (ta : TE) (f : Str) : TG := fun v σ H Q => ta σ H fun x H1 => ∃ a C dx fs, x = .ref a ∧ H1 a = some (.ins C dx fs) ∧ Cls K C ∧ NoAttr K C f ∧ fs.length < 1000 ∧ Q σ (upd H1 a (.ins C dx (putF f v fs)))
def InitAt (P : Program) (w : World) (K : PySem.W.Frag) (mg : Str → Option Value) (base : Heap) (C : Addr) (k : Nat) (ps : List Str) (sp : Sp) : Prop :=
  ∃ f fd, Mk K C f ∧ Binds K fd ps [] ∧ FnOk P w K mg base CX0 k f fd ps sp
section
variable {X : Cx} {k j : Nat} {ps : List Str} {sp : Sp} {x f : Str} {C : Addr} {p pos : Pos} {e o : Expr} {es : List Expr} {t : TA} {ta : TE}
theorem pg_fld (ho : PE X o ta) (ha : ∀ v, assign (.Attribute o f pos) X.env v = (do
      let ov ← holding [v] (eval o X.env)
      standAt pos.atName
      holding [v, ov] (setAttr ov f v)
      release [v, ov] []) := by intro _; rfl) : L2.PG X (.Attribute o f pos) (gFld X.K ta f) := by
  refine ⟨fun pins s σ H v u Q I r h => ?_⟩
  rw [ha]
  refine wpAny_bind (wpAny_holding (thn (ho.run pins s σ H _ I h) fun ov s1 ⟨x, H1, I1, rx, a, C, dx, fs, ex, ea, c, n, l, q⟩ => ?_))
  subst ex
  obtain rfl : ov = Value.ref a := rx
  refine wpAny_bind (wpAny_standAt (wpAny_bind (wpAny_holding (setattr_ok I1 ea c n l r fun s3 I3 => ?_))))
  exact wpAny_release ⟨σ, _, I3, q⟩
theorem pe_mk (D : InitAt X.prog X.w X.K X.mg X.base C k ps sp) (hr : Room j X.A) (hg : Gl X x) (hm : X.mg x = some (.ref C)) (ha : PA X (e :: es) t) (hkj : k + 1 ≤ j := by decide) (hdb : (x == ("__debug__" : Str)) = false := by decide)
    (he : starEach (e :: es) X.env = (false, eval e X.env) :: starEach es X.env := by rfl) (hpl : (backTo pos (starEach es X.env)).any (·.1) = false := by rfl) :
    PE X (.Call (.Name x p) (e :: es) [] pos) (tMake C sp [] E0 t) := by
  obtain ⟨f, fd, M, hb, F⟩ := D
  exact pe_make M F (hr.mono hkj) hg hm hb .nil pass0 ha hdb he hpl
theorem pe_lenOwn (c : Cls X.K C) (M : MethAt X.prog X.w X.K X.mg X.base C "__len__" k ps sp) (hr : Room j X.A) (hg : Gl X "len") (hm : X.mg "len" = none) (ha : PA X (e :: es) t) (hkj : k + 1 ≤ j := by decide)
    (he : starEach (e :: es) X.env = (false, eval e X.env) :: starEach es X.env := by rfl) (hpl : (backTo pos (starEach es X.env)).any (·.1) = false := by rfl) :
    PE X (.Call (.Name "len" p) (e :: es) [] pos) (tCB (fun xs H Q => ∃ a dx fs, xs = [.ref a] ∧ H a = some (.ins C dx fs) ∧ sp [.ref a] H (fun v H' => ∃ n : Nat, v = .int n ∧ (n : Int) < 2 ^ 63 ∧ Q (.int n) H') E0) t) := by
  obtain ⟨f, fd, m, hb, F⟩ := M
  exact pe_callB (call_lenOwn c m F (hr.mono hkj) hb (show Passes CX0 X E0 from pass0)) hg hm PySem.boot_len ha (by decide) (by decide) he hpl
end
/-! ### a Store -/
def sfl (c f : Addr) (z : Int) : List (Str × V) := [("store_cells", .ref c), ("store_flags", .ref f), ("store_writes", .int z)]
structure StoreAt (K : PySem.W.Frag) (H : Hp) (p c f : Addr) (m : Mem) (fl : List Int) (z : Int) : Prop where
  ob : ∃ dx, H p = some (.ins (He.ga K "Store") dx (sfl c f z))
  hc : H c = some (.lst (intsV m))
  hf : H f = some (.lst (intsV fl))
  b : AllB m
  l1 : 1 ≤ m.length
  l2 : m.length ≤ 30
  f8 : fl.length = 8
  cf : c ≠ f
theorem StoreAt.keep {K : PySem.W.Frag} {H H' : Hp} {p c f : Addr} {m : Mem} {fl : List Int} {z : Int} (h : StoreAt K H p c f m fl z) {S : List Addr} (k : KeepX S H H') (hp : p ∉ S) (hc : c ∉ S) (hf : f ∉ S) : StoreAt K H' p c f m fl z := by
  obtain ⟨dx, e⟩ := h.ob
  exact ⟨⟨dx, k _ _ e hp⟩, k _ _ h.hc hc, k _ _ h.hf hf, h.b, h.l1, h.l2, h.f8, h.cf⟩
theorem StoreAt.same {K : PySem.W.Frag} {H H' : Hp} {p c f : Addr} {m : Mem} {fl : List Int} {z : Int} (h : StoreAt K H p c f m fl z) (k : Same H H') : StoreAt K H' p c f m fl z := h.keep (S := []) (fun b o e _ => k b o e) (by simp) (by simp) (by simp)
def sp_Store_init (K : PySem.W.Frag) : Sp := fun vs H Q _ => ∃ p t dx m, vs = [.ref p, .ref t] ∧ H p = some (.ins (He.ga K "Store") dx []) ∧ H t = some (.tup (intsV m)) ∧ AllB m ∧ 1 ≤ m.length ∧ m.length ≤ 30 ∧
  ∀ c f H', H c = none → H f = none → StoreAt K H' p c f m (List.replicate 8 0) 0 → KeepX [p] H H' → Q .non H'
def sp_Store_need_cell (K : PySem.W.Frag) : Sp := fun vs H Q _ => ∃ p c f m fl z n, vs = [.ref p, .int (n : Nat)] ∧ StoreAt K H p c f m fl z ∧ n < m.length ∧ Q .non H
def sp_Store_read (K : PySem.W.Frag) : Sp := fun vs H Q _ => ∃ p c f m fl z n, vs = [.ref p, .int (n : Nat)] ∧ StoreAt K H p c f m fl z ∧ n < m.length ∧ Q (.int (m.getD n 0)) H
def sp_Store_write (K : PySem.W.Frag) : Sp := fun vs H Q _ => ∃ p c f m fl z n v, vs = [.ref p, .int (n : Nat), .int v] ∧ StoreAt K H p c f m fl z ∧ n < m.length ∧ 0 ≤ v ∧ v ≤ 255 ∧ ∀ H', StoreAt K H' p c f (m.set n v) fl (z + 1) → KeepX [p, c] H H' → Q .non H'
def sp_Store_need_flag (K : PySem.W.Frag) : Sp := fun vs H Q _ => ∃ p n, vs = [.ref p, .int (n : Nat)] ∧ n < 8 ∧ Q .non H
def sp_Store_raise_flag (K : PySem.W.Frag) : Sp := fun vs H Q _ => ∃ p c f m fl z n, vs = [.ref p, .int (n : Nat)] ∧ StoreAt K H p c f m fl z ∧ n < 8 ∧ ∀ H' fl' y, StoreAt K H' p c f m fl' z → KeepX [f] H H' → Q (.int y) H'
def sp_Store_memory (K : PySem.W.Frag) : Sp := fun vs H Q _ => ∃ p c f m fl z, vs = [.ref p] ∧ StoreAt K H p c f m fl z ∧ ∀ H' t, Same H H' → H t = none → H' t = some (.tup (intsV m)) → Q (.ref t) H'
def sp_Store_len (K : PySem.W.Frag) : Sp := fun vs H Q _ => ∃ p c f m fl z, vs = [.ref p] ∧ StoreAt K H p c f m fl z ∧ Q (.int (m.length : Nat)) H
section
variable {P : Program} {w : World} {K : PySem.W.Frag} {mg : Str → Option Value} {base : Heap}
abbrev N_Store_need_cell : List Str := ["self", "cell"]
theorem sc_Store_need_cell : FnScope N_Store_need_cell ["self", "cell"] (defScope s_Store_need_cell) := ⟨rfl, rfl, rfl, by decide +kernel, rfl, by decide +kernel, by decide +kernel⟩
theorem M_Store_need_cell (T : Txt K mg) (TW : TxtW K w) : MethAt P w K mg base (He.ga K "Store") "need_cell" 2 ["self", "cell"] (sp_Store_need_cell K) := by
  obtain ⟨fd, F⟩ := T.f_Store_need_cell
  have D_is_whole := D_is_whole (P := P) (w := w) (base := base) T
  refine ⟨He.fAd K ("Store", some "need_cell"), fd, T.m_Store_need_cell, F.bindsN (fun _ _ _ _ _ _ us hl => match us, hl with | [_, _], _ => rfl), ?_⟩
  refine F.ok sc_Store_need_cell (fun vs H Q E h => ?_) (fun cdv A outer s H vs Q E hr h => ?_)
  · obtain ⟨_, _, _, _, _, _, _, rfl, _⟩ := h
    rfl
  · obtain ⟨p, c, f, m, fl, z, n, rfl, S, hn, q⟩ := h
    obtain ⟨dx, hp⟩ := S.ob
    refine ⟨_, PSs.nox (pss_one (ps_if (pt_not (pt_val (pe_isw1 D_is_whole hr (by rfl) (pa_cons (pv 1) pa_nil) (pk_cons (pe_op op_sub (pe_callB call_len_seq (by rfl) T.r_len (by decide +kernel) (pa_cons (pe_fld (pv 0) rfl) pa_nil)) pe_int) pk_nil)))) (pss_one ps_never) pss_nil)), ?_⟩
    refine ⟨_, rfl, _, rfl, p, _, dx, _, _, rfl, hp, T.c_Store, T.n_store_cells, rfl, c, _, rfl, .inl (SqL.of S.hc), _, _, rfl, rfl, _, _, rfl, rfl, _, rfl, iteNS ⟨by omega, by rw [List.length_map]; omega⟩ q⟩
abbrev N_Store_read : List Str := ["self", "cell"]
theorem sc_Store_read : FnScope N_Store_read ["self", "cell"] (defScope s_Store_read) := ⟨rfl, rfl, rfl, by decide +kernel, rfl, by decide +kernel, by decide +kernel⟩
theorem M_Store_read (T : Txt K mg) (TW : TxtW K w) : MethAt P w K mg base (He.ga K "Store") "read" 3 ["self", "cell"] (sp_Store_read K) := by
  obtain ⟨fd, F⟩ := T.f_Store_read
  have M_Store_need_cell := M_Store_need_cell (P := P) (w := w) (base := base) T TW
  refine ⟨He.fAd K ("Store", some "read"), fd, T.m_Store_read, F.bindsN (fun _ _ _ _ _ _ us hl => match us, hl with | [_, _], _ => rfl), ?_⟩
  refine F.ok sc_Store_read (fun vs H Q E h => ?_) (fun cdv A outer s H vs Q E hr h => ?_)
  · obtain ⟨_, _, _, _, _, _, _, rfl, _⟩ := h
    rfl
  · obtain ⟨p, c, f, m, fl, z, n, rfl, S, hn, q⟩ := h
    obtain ⟨dx, hp⟩ := S.ob
    refine ⟨_, PSs.nox (pss_cons (ps_expr (pe_mth (pv 0) T.c_Store M_Store_need_cell hr (pa_cons (pv 1) pa_nil)))
      (pss_one (ps_ret (pe_ix ix_list (pe_fld (pv 0) rfl) (pv 1) (fun _ _ => rfl))))), ?_⟩
    refine ⟨_, rfl, p, dx, _, rfl, hp, rfl, _, rfl, p, c, f, m, fl, z, n, rfl, S, hn, ?_⟩
    refine ⟨_, rfl, p, _, dx, _, _, rfl, hp, T.c_Store, T.n_store_cells, rfl, _, rfl, c, _, _, _, rfl, rfl, SqL.of S.hc, atI_nat (v := V.int (m.getD n 0)) ?_, q⟩
    rw [List.getElem?_map, List.getElem?_eq_getElem hn, List.getD_eq_getElem?_getD, List.getElem?_eq_getElem hn]
    rfl
abbrev N_Store_write : List Str := ["self", "cell", "byte"]
theorem sc_Store_write : FnScope N_Store_write ["self", "cell", "byte"] (defScope s_Store_write) := ⟨rfl, rfl, rfl, by decide +kernel, rfl, by decide +kernel, by decide +kernel⟩
theorem M_Store_write (T : Txt K mg) (TW : TxtW K w) : MethAt P w K mg base (He.ga K "Store") "write" 3 ["self", "cell", "byte"] (sp_Store_write K) := by
  obtain ⟨fd, F⟩ := T.f_Store_write
  have M_Store_need_cell := M_Store_need_cell (P := P) (w := w) (base := base) T TW
  have D_is_byte := D_is_byte (P := P) (w := w) (base := base) T TW
  refine ⟨He.fAd K ("Store", some "write"), fd, T.m_Store_write, F.bindsN (fun _ _ _ _ _ _ us hl => match us, hl with | [_, _, _], _ => rfl), ?_⟩
  refine F.ok sc_Store_write (fun vs H Q E h => ?_) (fun cdv A outer s H vs Q E hr h => ?_)
  · obtain ⟨_, _, _, _, _, _, _, _, rfl, _⟩ := h
    rfl
  · obtain ⟨p, c, f, m, fl, z, n, v, rfl, S, hn, v0, v1, q⟩ := h
    obtain ⟨dx, hp⟩ := S.ob
    refine ⟨_, PSs.nox (pss_cons (ps_expr (pe_mth (pv 0) T.c_Store M_Store_need_cell hr (pa_cons (pv 1) pa_nil)))
      (pss_cons (ps_if (pt_not (pt_val (pe_def D_is_byte hr (by rfl) (pa_cons (pv 2) pa_nil)))) (pss_one ps_never) pss_nil)
      (pss_cons (ps_asg (pv 2) (pg_sub (pe_fld (pv 0) rfl) (pv 1) set_list))
      (pss_one (ps_fldaug (pv 0) pe_int in_add))))), ?_⟩
    refine ⟨_, rfl, p, dx, _, rfl, hp, rfl, _, rfl, p, c, f, m, fl, z, n, rfl, S, hn, ?_⟩
    refine ⟨_, rfl, v, rfl, _, rfl, iteNS ⟨v0, v1⟩ ?_⟩
    have hpc : p ≠ c := ne_of hp S.hc (by intro z; cases z)
    have hpf : p ≠ f := ne_of hp S.hf (by intro z; cases z)
    refine ⟨_, rfl, _, rfl, p, _, dx, _, _, rfl, hp, T.c_Store, T.n_store_cells, rfl, _, rfl, c, _, _, n, rfl, rfl, S.hc, ?_, ?_⟩
    · unfold ixN
      rw [List.length_map, if_pos (by omega), if_pos (by omega)]
      simp
    have hp2 : (upd H c (.lst ((intsV m).set n (.int v)))) p = some (.ins (He.ga K "Store") dx (sfl c f z)) := by rw [upd_ne hpc]; exact hp
    refine ⟨_, rfl, p, _, dx, _, _, rfl, hp2, T.c_Store, T.n_store_writes, rfl, _, _, rfl, rfl, dx, _, hp2, by show 3 < 1000; decide, ?_⟩
    refine q _ ⟨⟨dx, upd_same⟩, ?_, ?_, S.b.set v0 v1 n, by rw [List.length_set]; exact S.l1, by rw [List.length_set]; exact S.l2, S.f8, S.cf⟩ (((KeepX.refl _ H).upd (by simp)).upd (by simp))
    · rw [upd_ne hpc.symm, upd_same, intsV_set]
    · rw [upd_ne hpf.symm, upd_ne S.cf.symm]
      exact S.hf
abbrev N_Store_need_flag : List Str := ["self", "number"]
theorem sc_Store_need_flag : FnScope N_Store_need_flag ["self", "number"] (defScope s_Store_need_flag) := ⟨rfl, rfl, rfl, by decide +kernel, rfl, by decide +kernel, by decide +kernel⟩
theorem M_Store_need_flag (T : Txt K mg) (TW : TxtW K w) : MethAt P w K mg base (He.ga K "Store") "need_flag" 2 ["self", "number"] (sp_Store_need_flag K) := by
  obtain ⟨fd, F⟩ := T.f_Store_need_flag
  have D_is_whole := D_is_whole (P := P) (w := w) (base := base) T
  obtain ⟨t_FLAGS, g_FLAGS⟩ := T.i_FLAGS
  refine ⟨He.fAd K ("Store", some "need_flag"), fd, T.m_Store_need_flag, F.bindsN (fun _ _ _ _ _ _ us hl => match us, hl with | [_, _], _ => rfl), ?_⟩
  refine F.ok sc_Store_need_flag (fun vs H Q E h => ?_) (fun cdv A outer s H vs Q E hr h => ?_)
  · obtain ⟨_, _, rfl, _⟩ := h
    rfl
  · obtain ⟨p, n, rfl, hn, q⟩ := h
    refine ⟨_, PSs.nox (pss_one (ps_if (pt_not (pt_val (pe_isw1 D_is_whole hr (by rfl) (pa_cons (pv 1) pa_nil) (pk_cons (pe_op op_sub (pe_glob (v := .int 8) (by rfl) g_FLAGS ⟨_, rfl⟩) pe_int) pk_nil)))) (pss_one ps_never) pss_nil)), ?_⟩
    exact ⟨_, rfl, _, _, rfl, rfl, _, _, rfl, rfl, _, rfl, iteNS ⟨by omega, by omega⟩ q⟩
abbrev N_Store_raise_flag : List Str := ["self", "number"]
theorem sc_Store_raise_flag : FnScope N_Store_raise_flag ["self", "number"] (defScope s_Store_raise_flag) := ⟨rfl, rfl, rfl, by decide +kernel, rfl, by decide +kernel, by decide +kernel⟩
theorem M_Store_raise_flag (T : Txt K mg) (TW : TxtW K w) : MethAt P w K mg base (He.ga K "Store") "raise_flag" 3 ["self", "number"] (sp_Store_raise_flag K) := by
  obtain ⟨fd, F⟩ := T.f_Store_raise_flag
  have M_Store_need_flag := M_Store_need_flag (P := P) (w := w) (base := base) T TW
  refine ⟨He.fAd K ("Store", some "raise_flag"), fd, T.m_Store_raise_flag, F.bindsN (fun _ _ _ _ _ _ us hl => match us, hl with | [_, _], _ => rfl), ?_⟩
  refine F.ok sc_Store_raise_flag (fun vs H Q E h => ?_) (fun cdv A outer s H vs Q E hr h => ?_)
  · obtain ⟨_, _, _, _, _, _, _, rfl, _⟩ := h
    rfl
  · obtain ⟨p, c, f, m, fl, z, n, rfl, S, hn, q⟩ := h
    obtain ⟨dx, hp⟩ := S.ob
    refine ⟨_, PSs.nox (pss_cons (ps_expr (pe_mth (pv 0) T.c_Store M_Store_need_flag hr (pa_cons (pv 1) pa_nil)))
      (pss_cons (ps_augS (pe_fld (pv 0) rfl) (pv 1) get_list pe_int ip_add set_list)
      (pss_one (ps_ret (pe_ix ix_list (pe_fld (pv 0) rfl) (pv 1) (fun _ _ => rfl)))))), ?_⟩
    have hpf : p ≠ f := ne_of hp S.hf (by intro z; cases z)
    have hn2 : n < fl.length := by have := S.f8; omega
    have hv : (intsV fl)[n]? = some (V.int fl[n]) := by rw [List.getElem?_map, List.getElem?_eq_getElem hn2]; rfl
    refine ⟨_, rfl, p, dx, _, rfl, hp, rfl, _, rfl, p, n, rfl, hn, ?_⟩
    refine ⟨_, rfl, p, _, dx, _, _, rfl, hp, T.c_Store, T.n_store_flags, rfl, _, rfl, f, _, n, _, rfl, rfl, SqL.of S.hf, hv, _, _, rfl, rfl, f, _, _, n, rfl, rfl, S.hf, ?_, ?_⟩
    · unfold ixN
      rw [List.length_map, if_pos (by omega), if_pos (by omega)]
      simp
    have e1 : (intsV fl).set n (.int (fl[n] + 1)) = intsV (fl.set n (fl[n] + 1)) := intsV_set _ _ _
    have hp2 : (upd H f (.lst ((intsV fl).set n (.int (fl[n] + 1))))) p = some (.ins (He.ga K "Store") dx (sfl c f z)) := by rw [upd_ne hpf]; exact hp
    refine ⟨_, rfl, p, _, dx, _, _, rfl, hp2, T.c_Store, T.n_store_flags, rfl, _, rfl, f, _, _, _, rfl, rfl, SqL.of upd_same, atI_nat (v := V.int (fl[n] + 1)) ?_, ?_⟩
    · rw [List.getElem?_set_self (by rw [List.length_map]; exact hn2)]
    refine q _ (fl.set n (fl[n] + 1)) _ ⟨⟨dx, hp2⟩, ?_, by rw [upd_same, e1], S.b, S.l1, S.l2, by rw [List.length_set]; exact S.f8, S.cf⟩ ((KeepX.refl _ H).upd (by simp))
    rw [upd_ne S.cf]
    exact S.hc
abbrev N_Store_memory : List Str := ["self"]
theorem sc_Store_memory : FnScope N_Store_memory ["self"] (defScope s_Store_memory) := ⟨rfl, rfl, rfl, by decide +kernel, rfl, by decide +kernel, by decide +kernel⟩
theorem M_Store_memory (T : Txt K mg) (TW : TxtW K w) : MethAt P w K mg base (He.ga K "Store") "memory" 1 ["self"] (sp_Store_memory K) := by
  obtain ⟨fd, F⟩ := T.f_Store_memory
  refine ⟨He.fAd K ("Store", some "memory"), fd, T.m_Store_memory, F.bindsN (fun _ _ _ _ _ _ us hl => match us, hl with | [_], _ => rfl), ?_⟩
  refine F.ok sc_Store_memory (fun vs H Q E h => ?_) (fun cdv A outer s H vs Q E hr h => ?_)
  · obtain ⟨_, _, _, _, _, _, rfl, _⟩ := h
    rfl
  · obtain ⟨p, c, f, m, fl, z, rfl, S, q⟩ := h
    obtain ⟨dx, hp⟩ := S.ob
    refine ⟨_, PSs.nox (pss_one (ps_ret (pe_callTy call_tuple_of (by rfl) T.r_tuple (by decide +kernel) (pa_cons (pe_fld (pv 0) rfl) pa_nil)))), ?_⟩
    exact ⟨_, rfl, p, _, dx, _, _, rfl, hp, T.c_Store, T.n_store_cells, rfl, c, _, rfl, .inl ⟨SqL.of S.hc, fun t nt => q _ t (same_new nt) nt upd_same⟩⟩
abbrev N_Store_len : List Str := ["self"]
theorem sc_Store_len : FnScope N_Store_len ["self"] (defScope s_Store_len) := ⟨rfl, rfl, rfl, by decide +kernel, rfl, by decide +kernel, by decide +kernel⟩
theorem M_Store_len (T : Txt K mg) (TW : TxtW K w) : MethAt P w K mg base (He.ga K "Store") "__len__" 1 ["self"] (sp_Store_len K) := by
  obtain ⟨fd, F⟩ := T.f_Store_len
  refine ⟨He.fAd K ("Store", some "__len__"), fd, T.m_Store_len, F.bindsN (fun _ _ _ _ _ _ us hl => match us, hl with | [_], _ => rfl), ?_⟩
  refine F.ok sc_Store_len (fun vs H Q E h => ?_) (fun cdv A outer s H vs Q E hr h => ?_)
  · obtain ⟨_, _, _, _, _, _, rfl, _⟩ := h
    rfl
  · obtain ⟨p, c, f, m, fl, z, rfl, S, q⟩ := h
    obtain ⟨dx, hp⟩ := S.ob
    refine ⟨_, PSs.nox (pss_one (ps_ret (pe_callB call_len_seq (by rfl) T.r_len (by decide +kernel) (pa_cons (pe_fld (pv 0) rfl) pa_nil)))), ?_⟩
    refine ⟨_, rfl, p, _, dx, _, _, rfl, hp, T.c_Store, T.n_store_cells, rfl, c, _, rfl, .inl (SqL.of S.hc), ?_⟩
    rw [List.length_map]
    exact q
abbrev N_Store_init : List Str := ["self", "memory"]
theorem sc_Store_init : FnScope N_Store_init ["self", "memory"] (defScope s_Store_init) := ⟨rfl, rfl, rfl, by decide +kernel, rfl, by decide +kernel, by decide +kernel⟩
theorem I_Store (T : Txt K mg) (TW : TxtW K w) : InitAt P w K mg base (He.ga K "Store") 4 ["self", "memory"] (sp_Store_init K) := by
  obtain ⟨fd, F⟩ := T.f_Store_init
  have D_is_memory := D_is_memory (P := P) (w := w) (base := base) T TW
  obtain ⟨t_FLAGS, g_FLAGS⟩ := T.i_FLAGS
  refine ⟨He.fAd K ("Store", some "__init__"), fd, T.k_Store, F.bindsN (fun _ _ _ _ _ _ us hl => match us, hl with | [_, _], _ => rfl), ?_⟩
  refine F.ok sc_Store_init (fun vs H Q E h => ?_) (fun cdv A outer s H vs Q E hr h => ?_)
  · obtain ⟨_, _, _, _, rfl, _⟩ := h
    rfl
  · obtain ⟨p, t, dx, m, rfl, hp, ht, hb, l1, l2, q⟩ := h
    refine ⟨_, PSs.nox (pss_cons (ps_if (pt_not (pt_val (pe_def D_is_memory hr (by rfl) (pa_cons (pv 1) pa_nil)))) (pss_one ps_never) pss_nil)
      (pss_cons (ps_fld (pv 0) (pe_callTy call_list_of (by rfl) T.r_list (by decide +kernel) (pa_cons (pv 1) pa_nil)) rfl)
      (pss_cons (ps_fld (pv 0) (pe_op op_rep (pe_lst (pa_cons pe_int pa_nil)) (pe_glob (v := .int 8) (by rfl) g_FLAGS ⟨_, rfl⟩)) rfl)
      (pss_one (ps_fld (pv 0) pe_int rfl))))), ?_⟩
    refine ⟨_, rfl, t, m, rfl, ht, hb, l1, l2, fun H1 s1 => ⟨_, rfl, iteF ?_⟩⟩
    refine ⟨_, rfl, t, _, rfl, .inr (SqT.of (s1 _ _ ht)), fun c nc => ?_⟩
    have sc : Same H1 (upd H1 c (.lst (intsV m))) := same_new nc
    have hp1 := sc _ _ (s1 _ _ hp)
    have hpc : p ≠ c := ne_of_none (s1 _ _ hp) nc
    refine ⟨_, rfl, p, _, dx, [], rfl, hp1, T.c_Store, T.n_store_cells, by show 0 < 1000; decide, ?_⟩
    generalize hH2 : upd (upd H1 c (.lst (intsV m))) p (.ins (He.ga K "Store") dx (putF "store_cells" (.ref c) [])) = H2
    have hp2 : H2 p = some (.ins (He.ga K "Store") dx (putF "store_cells" (.ref c) [])) := by rw [← hH2, upd_same]
    have hc2 : H2 c = some (.lst (intsV m)) := by rw [← hH2, upd_ne hpc.symm, upd_same]
    have k2 : KeepX [p] H H2 := by rw [← hH2]; exact ((s1.trans sc).keep).upd (by simp)
    refine ⟨by show 1 ≤ sizeLine; decide, fun l nl => ⟨l, 8, [.int 0], rfl, rfl, upd_same, by decide, by decide, by show 1 * 8 ≤ sizeLine; decide, fun f nf => ?_⟩⟩
    have sl : Same H2 (upd H2 l (.lst [.int 0])) := same_new nl
    have sf : Same (upd H2 l (.lst [.int 0])) (upd (upd H2 l (.lst [.int 0])) f (.lst (List.replicate (8 : Int).toNat [V.int 0]).flatten)) := same_new nf
    have hp3 := (sl.trans sf) _ _ hp2
    have hc3 := (sl.trans sf) _ _ hc2
    have hf3 : (upd (upd H2 l (.lst [.int 0])) f (.lst (List.replicate (8 : Int).toNat [V.int 0]).flatten)) f = some (.lst (intsV (List.replicate 8 0))) := upd_same
    have k3 := k2.same (sl.trans sf)
    have nf0 : H f = none := by
      cases e : H f with
      | none => rfl
      | some o =>
        by_cases z : f = p
        · rw [z, sl _ _ hp2] at nf
          cases nf
        · rw [sl _ _ (k2 _ _ e (by simpa using z))] at nf
          cases nf
    generalize upd (upd H2 l (.lst [.int 0])) f (.lst (List.replicate (8 : Int).toNat [V.int 0]).flatten) = H3 at hp3 hc3 hf3 k3 ⊢
    have hfp : f ≠ p := (ne_of hp3 hf3 (by intro z; cases z)).symm
    have hcf : c ≠ f := by
      refine ne_of_none (sl _ _ hc2) nf
    refine ⟨_, rfl, p, _, dx, _, rfl, hp3, T.c_Store, T.n_store_flags, by show 1 < 1000; decide, ?_⟩
    refine ⟨_, rfl, p, _, dx, _, rfl, upd_same, T.c_Store, T.n_store_writes, by show 2 < 1000; decide, ?_⟩
    refine q c f _ (s1.free' nc) nf0 ⟨⟨dx, upd_same⟩, ?_, ?_, hb, l1, l2, rfl, hcf⟩ ((k3.upd (by simp)).upd (by simp))
    · rw [upd_ne hpc.symm, upd_ne hpc.symm]
      exact hc3
    · rw [upd_ne hfp, upd_ne hfp]
      exact hf3
end
end Hl
end

section
set_option Elab.async false
set_option linter.all false
set_option maxRecDepth 100000
set_option maxHeartbeats 4000000
/-! What a Helper looks like. -/
namespace Hl
open PySem PySem.Spec PyProof.Rows L2
structure Hd where
  p : Addr
  c : Addr
  f : Addr
  r : Addr
  y : Addr
  d : Addr
  ct : Addr
  W : Nat
  B : Nat
  nx : Nat
  ring : List Step
  rps : List Addr
  fa : List (Fl × Addr)
  done : List Nat
  k0 : Int
  k1 : Int
  k2 : Int
  k3 : Int
  m : Mem
  fl : List Int
  z : Int
def hfl (h : Hd) : List (Str × V) := [("held_store", .ref h.p), ("held_width", .int (h.W : Nat)), ("held_burst", .int (h.B : Nat)), ("held_room", .non), ("held_ring", .ref h.r), ("held_next", .int (h.nx : Nat)), ("held_flying", .ref h.y), ("held_done", .ref h.d), ("held_out", .non), ("held_counts", .ref h.ct)]
abbrev kF (x : Fl × Addr) : Key × V := (Sum.inl (x.1.1 : Int), V.ref x.2)
abbrev Hd.fly (h : Hd) : List Fl := h.fa.map (·.1)
/-- the plain facts -/
structure HV (h : Hd) : Prop where
  inc : h.fa.Pairwise (fun a b => a.1.1 < b.1.1)
  lt : ∀ x, x ∈ h.fa → x.1.1 < h.nx
  nn : ∀ x, x ∈ h.fa → 0 ≤ x.1.2.2
  nxl : h.nx ≤ h.ring.length
  ok : ∀ s, s ∈ h.ring → s.Ok 30
  okm : ∀ s, s ∈ h.ring → s.Ok h.m.length
  len : h.ring.length ≤ 40
  cnt : h.done.length + h.fa.length ≤ h.nx
  w1 : 1 ≤ h.W
  w4 : h.W ≤ 4
  b1 : 1 ≤ h.B
  b16 : h.B ≤ 16
structure HB (K : PySem.W.Frag) (H : Hp) (q : Addr) (h : Hd) : Prop where
  ob : ∃ dx, H q = some (.ins (He.ga K "Helper") dx (hfl h))
  rg : H h.r = some (.lst (refsV h.rps))
  ss : StepsAt H h.rps h.ring
  fy : H h.y = some (.dK (h.fa.map kF))
  ft : ∀ x, x ∈ h.fa → H x.2 = some (.tup [.int (x.1.2.1 : Nat), .int x.1.2.2])
  dn : H h.d = some (.lst (natsV h.done))
  ct : H h.ct = some (.lst [.int h.k0, .int h.k1, .int h.k2, .int h.k3])
  st : StoreAt K H h.p h.c h.f h.m h.fl h.z
  nd : [q, h.p, h.r, h.y, h.d, h.ct, h.c, h.f].Nodup
  v : HV h
abbrev Hd.S (h : Hd) (q : Addr) : List Addr := [q, h.p, h.r, h.y, h.d, h.ct, h.c, h.f]
theorem HB.same {K : PySem.W.Frag} {H H' : Hp} {q : Addr} {h : Hd} (b : HB K H q h) (s : Same H H') : HB K H' q h where
  ob := let ⟨dx, e⟩ := b.ob; ⟨dx, s _ _ e⟩
  rg := s _ _ b.rg
  ss := b.ss.tk s.tk
  fy := s _ _ b.fy
  ft := fun x hx => s _ _ (b.ft x hx)
  dn := s _ _ b.dn
  ct := s _ _ b.ct
  st := b.st.same s
  nd := b.nd
  v := b.v
theorem tk_upd {H : Hp} {a : Addr} {o o' : HO} (e : H a = some o) (h : ∀ xs, o ≠ .tup xs) : TK H (upd H a o') := fun b xs eb => by
  have hne : b ≠ a := ne_of eb e (fun z => h xs z.symm)
  rw [upd_ne hne]
  exact eb
structure Ne8 (q p r y d ct c f : Addr) : Prop where
  qp : q ≠ p
  qr : q ≠ r
  qy : q ≠ y
  qd : q ≠ d
  qct : q ≠ ct
  qc : q ≠ c
  qf : q ≠ f
  pr : p ≠ r
  py : p ≠ y
  pd : p ≠ d
  pct : p ≠ ct
  pc : p ≠ c
  pf : p ≠ f
  ry : r ≠ y
  rd : r ≠ d
  rct : r ≠ ct
  rc : r ≠ c
  rf : r ≠ f
  yd : y ≠ d
  yct : y ≠ ct
  yc : y ≠ c
  yf : y ≠ f
  dct : d ≠ ct
  dc : d ≠ c
  df : d ≠ f
  ctc : ct ≠ c
  ctf : ct ≠ f
  cf : c ≠ f
theorem HB.ne {K : PySem.W.Frag} {H : Hp} {q : Addr} {h : Hd} (b : HB K H q h) : Ne8 q h.p h.r h.y h.d h.ct h.c h.f := by
  have n := b.nd
  simp only [List.nodup_cons, List.mem_cons, List.not_mem_nil, or_false, not_or] at n
  obtain ⟨⟨a1, a2, a3, a4, a5, a6, a7⟩, ⟨b1, b2, b3, b4, b5, b6⟩, ⟨c1, c2, c3, c4, c5⟩, ⟨d1, d2, d3, d4⟩, ⟨e1, e2, e3⟩, ⟨f1, f2⟩, g1, _⟩ := n
  exact ⟨a1, a2, a3, a4, a5, a6, a7, b1, b2, b3, b4, b5, b6, c1, c2, c3, c4, c5, d1, d2, d3, d4, e1, e2, e3, f1, f2, g1⟩
section
variable {K : PySem.W.Frag} {H : Hp} {q : Addr} {h : Hd}
/-- another next one -/
theorem HB.setNext (b : HB K H q h) {dx : Addr} {n : Nat} {fs : List (Str × V)} (e : fs = hfl { h with nx := n }) (v : HV { h with nx := n }) : HB K (upd H q (.ins (He.ga K "Helper") dx fs)) q { h with nx := n } := by
  have N := b.ne
  obtain ⟨dx0, e0⟩ := b.ob
  have tk : TK H (upd H q (.ins (He.ga K "Helper") dx fs)) := tk_upd e0 (by intro xs z; cases z)
  have k : KeepX [q] H (upd H q (.ins (He.ga K "Helper") dx fs)) := (KeepX.refl _ H).upd (by simp)
  exact ⟨⟨dx, by rw [upd_same, e]⟩, k _ _ b.rg (by simpa using N.qr.symm), b.ss.tk tk, k _ _ b.fy (by simpa using N.qy.symm), fun x hx => tk _ _ (b.ft x hx), k _ _ b.dn (by simpa using N.qd.symm), k _ _ b.ct (by simpa using N.qct.symm),
    b.st.keep k (by simpa using N.qp.symm) (by simpa using N.qc.symm) (by simpa using N.qf.symm), b.nd, v⟩
theorem HB.setCounts (b : HB K H q h) {a0 a1 a2 a3 : Int} {xs : List V} (e : xs = [.int a0, .int a1, .int a2, .int a3]) : HB K (upd H h.ct (.lst xs)) q { h with k0 := a0, k1 := a1, k2 := a2, k3 := a3 } := by
  have N := b.ne
  subst e
  obtain ⟨dx0, e0⟩ := b.ob
  have tk : TK H (upd H h.ct (.lst [.int a0, .int a1, .int a2, .int a3])) := tk_upd b.ct (by intro xs z; cases z)
  have k : KeepX [h.ct] H (upd H h.ct (.lst [.int a0, .int a1, .int a2, .int a3])) := (KeepX.refl _ H).upd (by simp)
  exact ⟨⟨dx0, k _ _ e0 (by simpa using N.qct)⟩, k _ _ b.rg (by simpa using N.rct), b.ss.tk tk, k _ _ b.fy (by simpa using N.yct), fun x hx => tk _ _ (b.ft x hx), k _ _ b.dn (by simpa using N.dct), upd_same,
    b.st.keep k (by simpa using N.pct) (by simpa using N.ctc.symm) (by simpa using N.ctf.symm), b.nd, ⟨b.v.inc, b.v.lt, b.v.nn, b.v.nxl, b.v.ok, b.v.okm, b.v.len, b.v.cnt, b.v.w1, b.v.w4, b.v.b1, b.v.b16⟩⟩
theorem HB.setDone (b : HB K H q h) {l : List Nat} {xs : List V} (e : xs = natsV l) (v : HV { h with done := l }) : HB K (upd H h.d (.lst xs)) q { h with done := l } := by
  have N := b.ne
  subst e
  obtain ⟨dx0, e0⟩ := b.ob
  have tk : TK H (upd H h.d (.lst (natsV l))) := tk_upd b.dn (by intro xs z; cases z)
  have k : KeepX [h.d] H (upd H h.d (.lst (natsV l))) := (KeepX.refl _ H).upd (by simp)
  exact ⟨⟨dx0, k _ _ e0 (by simpa using N.qd)⟩, k _ _ b.rg (by simpa using N.rd), b.ss.tk tk, k _ _ b.fy (by simpa using N.yd), fun x hx => tk _ _ (b.ft x hx), upd_same, k _ _ b.ct (by simpa using N.dct.symm),
    b.st.keep k (by simpa using N.pd) (by simpa using N.dc.symm) (by simpa using N.df.symm), b.nd, v⟩
theorem HB.setFly (b : HB K H q h) {fa : List (Fl × Addr)} {kvs : List (Key × V)} (e : kvs = fa.map kF) (ft : ∀ x, x ∈ fa → H x.2 = some (.tup [.int (x.1.2.1 : Nat), .int x.1.2.2])) (v : HV { h with fa := fa }) : HB K (upd H h.y (.dK kvs)) q { h with fa := fa } := by
  have N := b.ne
  subst e
  obtain ⟨dx0, e0⟩ := b.ob
  have tk : TK H (upd H h.y (.dK (fa.map kF))) := tk_upd b.fy (by intro xs z; cases z)
  have k : KeepX [h.y] H (upd H h.y (.dK (fa.map kF))) := (KeepX.refl _ H).upd (by simp)
  exact ⟨⟨dx0, k _ _ e0 (by simpa using N.qy)⟩, k _ _ b.rg (by simpa using N.ry), b.ss.tk tk, upd_same, fun x hx => tk _ _ (ft x hx), k _ _ b.dn (by simpa using N.yd.symm), k _ _ b.ct (by simpa using N.yct.symm),
    b.st.keep k (by simpa using N.py) (by simpa using N.yc.symm) (by simpa using N.yf.symm), b.nd, v⟩
theorem HB.setRing (b : HB K H q h) {ps : List Addr} {ss : List Step} {xs : List V} (e : xs = refsV ps) (hs : StepsAt H ps ss) (v : HV { h with ring := ss, rps := ps }) : HB K (upd H h.r (.lst xs)) q { h with ring := ss, rps := ps } := by
  have N := b.ne
  subst e
  obtain ⟨dx0, e0⟩ := b.ob
  have tk : TK H (upd H h.r (.lst (refsV ps))) := tk_upd b.rg (by intro xs z; cases z)
  have k : KeepX [h.r] H (upd H h.r (.lst (refsV ps))) := (KeepX.refl _ H).upd (by simp)
  exact ⟨⟨dx0, k _ _ e0 (by simpa using N.qr)⟩, upd_same, hs.tk tk, k _ _ b.fy (by simpa using N.ry.symm), fun x hx => tk _ _ (b.ft x hx), k _ _ b.dn (by simpa using N.rd.symm), k _ _ b.ct (by simpa using N.rct.symm),
    b.st.keep k (by simpa using N.pr) (by simpa using N.rc.symm) (by simpa using N.rf.symm), b.nd, v⟩
/-- the store is another -/
theorem HB.setStore (b : HB K H q h) {H' : Hp} {m : Mem} {fl : List Int} {z : Int} (s : StoreAt K H' h.p h.c h.f m fl z) (k : KeepX [h.p, h.c, h.f] H H') (hm : m.length = h.m.length) : HB K H' q { h with m := m, fl := fl, z := z } := by
  have N := b.ne
  obtain ⟨dx0, e0⟩ := b.ob
  obtain ⟨dx1, e1⟩ := b.st.ob
  have tk : TK H H' := fun a xs ea => k _ _ ea (by
    simp only [List.mem_cons, List.not_mem_nil, or_false, not_or]
    exact ⟨ne_of ea e1 (by intro z; cases z), ne_of ea b.st.hc (by intro z; cases z), ne_of ea b.st.hf (by intro z; cases z)⟩)
  refine ⟨⟨dx0, k _ _ e0 ?_⟩, k _ _ b.rg ?_, b.ss.tk tk, k _ _ b.fy ?_, fun x hx => tk _ _ (b.ft x hx), k _ _ b.dn ?_, k _ _ b.ct ?_, s, b.nd, ⟨b.v.inc, b.v.lt, b.v.nn, b.v.nxl, b.v.ok, fun s hs => by show s.Ok m.length; rw [hm]; exact b.v.okm s hs, b.v.len, b.v.cnt, b.v.w1, b.v.w4, b.v.b1, b.v.b16⟩⟩
  · simpa using ⟨N.qp, N.qc, N.qf⟩
  · simpa using ⟨N.pr.symm, N.rc, N.rf⟩
  · simpa using ⟨N.py.symm, N.yc, N.yf⟩
  · simpa using ⟨N.pd.symm, N.dc, N.df⟩
  · simpa using ⟨N.pct.symm, N.ctc, N.ctf⟩
end
/-! ### the dict of what flies -/
theorem valV_kF {k : Nat} : ∀ {fa : List (Fl × Addr)}, fa.Pairwise (fun a b => a.1.1 < b.1.1) → ∀ {x : Fl × Addr}, x ∈ fa → x.1.1 = k → valV (fa.map kF) (Sum.inl (k : Int)) = some (.ref x.2)
  | [], _, _, h, _ => by cases h
  | y :: r, hp, x, hx, e => by
    obtain ⟨h1, h2⟩ := List.pairwise_cons.mp hp
    rcases List.mem_cons.mp hx with z | z
    · subst z
      exact valV_pos (by rw [← e])
    · have hne : y.1.1 ≠ k := by have := h1 x z; omega
      have q : valV (kF y :: r.map kF) (Sum.inl (k : Int)) = valV (r.map kF) (Sum.inl (k : Int)) := by
        unfold valV
        rw [List.find?_cons]
        rw [decide_eq_false (show ¬ (kF y).1 = Sum.inl (k : Int) from fun z => hne (by injection z with z; omega))]
      show valV (kF y :: r.map kF) (Sum.inl (k : Int)) = _
      rw [q]
      exact valV_kF h2 z e
theorem valV_kF_none {k : Nat} : ∀ {fa : List (Fl × Addr)}, (∀ x, x ∈ fa → x.1.1 ≠ k) → valV (fa.map kF) (Sum.inl (k : Int)) = none
  | [], _ => rfl
  | y :: r, h => by
    have hne : y.1.1 ≠ k := h y List.mem_cons_self
    have q : valV (kF y :: r.map kF) (Sum.inl (k : Int)) = valV (r.map kF) (Sum.inl (k : Int)) := by
      unfold valV
      rw [List.find?_cons]
      rw [decide_eq_false (show ¬ (kF y).1 = Sum.inl (k : Int) from fun z => hne (by injection z with z; omega))]
    show valV (kF y :: r.map kF) (Sum.inl (k : Int)) = _
    rw [q]
    exact valV_kF_none fun x hx => h x (List.mem_cons_of_mem _ hx)
def movA (k d : Nat) (t : Int) (a : Addr) (fa : List (Fl × Addr)) : List (Fl × Addr) := fa.map fun x => if x.1.1 = k then ((k, d, t), a) else x
def offA (k : Nat) (fa : List (Fl × Addr)) : List (Fl × Addr) := fa.filter fun x => decide (x.1.1 ≠ k)
theorem putK_kF {k d : Nat} {t : Int} {a : Addr} {fa : List (Fl × Addr)} {x : Fl × Addr} (hx : x ∈ fa) (e : x.1.1 = k) : putK (fa.map kF) (Sum.inl (k : Int)) (.ref a) = (movA k d t a fa).map kF := by
  unfold putK
  rw [if_pos]
  · unfold movA
    rw [List.map_map, List.map_map]
    refine List.map_congr_left fun y _ => ?_
    show (if (Sum.inl (y.1.1 : Int) : Key) = Sum.inl (k : Int) then _ else _) = kF (if y.1.1 = k then ((k, d, t), a) else y)
    by_cases c : y.1.1 = k
    · rw [if_pos (by rw [c]), if_pos c]
      show ((Sum.inl (y.1.1 : Int) : Key), V.ref a) = (Sum.inl (k : Int), V.ref a)
      rw [c]
    · rw [if_neg (fun z => c (by injection z with z; omega)), if_neg c]
  · rw [List.any_eq_true]
    exact ⟨kF x, List.mem_map.mpr ⟨x, hx, rfl⟩, decide_eq_true (by rw [← e])⟩
theorem dropK_kF {k : Nat} {fa : List (Fl × Addr)} : dropK (fa.map kF) (Sum.inl (k : Int)) = (offA k fa).map kF := by
  unfold dropK offA
  rw [List.filter_map]
  congr 1
  refine List.filter_congr fun y _ => ?_
  show decide ((Sum.inl (y.1.1 : Int) : Key) ≠ Sum.inl (k : Int)) = decide (y.1.1 ≠ k)
  by_cases c : y.1.1 = k
  · rw [c]
    simp
  · have c2 : (Sum.inl (y.1.1 : Int) : Key) ≠ Sum.inl (k : Int) := fun z => c (by injection z with z; omega)
    rw [decide_eq_true (show y.1.1 ≠ k from c)]
    exact decide_eq_true c2
theorem movA_fly {k d : Nat} {t : Int} {a : Addr} {fa : List (Fl × Addr)} : (movA k d t a fa).map (·.1) = (fa.map (·.1)).map fun f => if f.1 = k then (k, d, t) else f := by
  unfold movA
  rw [List.map_map, List.map_map]
  refine List.map_congr_left fun y _ => ?_
  show (if y.1.1 = k then ((k, d, t), a) else y).1 = if y.1.1 = k then (k, d, t) else y.1
  by_cases c : y.1.1 = k
  · rw [if_pos c, if_pos c]
  · rw [if_neg c, if_neg c]
theorem offA_fly {k : Nat} {fa : List (Fl × Addr)} : (offA k fa).map (·.1) = (fa.map (·.1)).filter fun f => decide (f.1 ≠ k) := by
  unfold offA
  rw [List.filter_map]
  rfl
theorem movA_len {k d : Nat} {t : Int} {a : Addr} {fa : List (Fl × Addr)} : (movA k d t a fa).length = fa.length := by unfold movA; rw [List.length_map]
theorem movA_inc {k d : Nat} {t : Int} {a : Addr} {fa : List (Fl × Addr)} (h : fa.Pairwise (fun a b => a.1.1 < b.1.1)) : (movA k d t a fa).Pairwise (fun a b => a.1.1 < b.1.1) := by
  unfold movA
  rw [List.pairwise_map]
  refine h.imp fun {x y} hxy => ?_
  have e : ∀ x : Fl × Addr, (if x.1.1 = k then ((k, d, t), a) else x).1.1 = x.1.1 := fun x => by
    by_cases c : x.1.1 = k
    · rw [if_pos c]; exact c.symm
    · rw [if_neg c]
  rw [e x, e y]
  exact hxy
theorem movA_mem {k d : Nat} {t : Int} {a : Addr} {fa : List (Fl × Addr)} {y : Fl × Addr} (h : y ∈ movA k d t a fa) : (y = ((k, d, t), a) ∧ ∃ x, x ∈ fa ∧ x.1.1 = k) ∨ (y ∈ fa ∧ y.1.1 ≠ k) := by
  obtain ⟨x, hx, e⟩ := List.mem_map.mp h
  by_cases c : x.1.1 = k
  · rw [if_pos c] at e
    exact .inl ⟨e.symm, x, hx, c⟩
  · rw [if_neg c] at e
    subst e
    exact .inr ⟨hx, c⟩
theorem HV.movA {h : Hd} (v : HV h) {k d : Nat} {t : Int} {a : Addr} (ht : 0 ≤ t) : HV { h with fa := Hl.movA k d t a h.fa } := by
  refine ⟨movA_inc v.inc, fun x hx => ?_, fun x hx => ?_, v.nxl, v.ok, v.okm, v.len, by rw [movA_len]; exact v.cnt, v.w1, v.w4, v.b1, v.b16⟩
  · rcases movA_mem hx with ⟨e, y, hy, c⟩ | ⟨hx, _⟩
    · subst e
      show k < h.nx
      rw [← c]
      exact v.lt y hy
    · exact v.lt x hx
  · rcases movA_mem hx with ⟨e, y, hy, c⟩ | ⟨hx, _⟩
    · subst e
      exact ht
    · exact v.nn x hx
theorem offA_len {k : Nat} : ∀ {fa : List (Fl × Addr)}, fa.Pairwise (fun a b => a.1.1 < b.1.1) → ∀ {x : Fl × Addr}, x ∈ fa → x.1.1 = k → (offA k fa).length + 1 = fa.length
  | [], _, _, h, _ => by cases h
  | y :: r, hp, x, hx, e => by
    obtain ⟨h1, h2⟩ := List.pairwise_cons.mp hp
    unfold offA
    rcases List.mem_cons.mp hx with z | z
    · subst z
      rw [List.filter_cons_of_neg (by simp [e]), List.filter_eq_self.mpr fun y hy => decide_eq_true (by have := h1 y hy; omega)]
      rfl
    · have hne : y.1.1 ≠ k := by have := h1 x z; omega
      have hd : decide (y.1.1 ≠ k) = true := decide_eq_true hne
      rw [List.filter_cons_of_pos (p := fun x : Fl × Addr => decide (x.1.1 ≠ k)) hd, List.length_cons, List.length_cons]
      have := offA_len h2 z e
      unfold offA at this
      omega
end Hl
end

section
set_option Elab.async false
set_option linter.all false
set_option maxRecDepth 100000
set_option maxHeartbeats 4000000
/-! helper.py -/
namespace Hl
open PySem PySem.Spec PyProof.Rows L2
theorem decV (a b : Nat) : decide (V.int (a : Int) = V.int (b : Int)) = decide (a = b) := by
  by_cases h : a = b
  · rw [h]; simp
  · rw [decide_eq_false h, decide_eq_false (fun z => h (by injection z with z; omega))]
def mayB (h : Hd) : Bool := decide (h.nx < h.ring.length) && (if (stepAt h.ring h.nx).bar = true then h.fa.isEmpty else decide (h.fa.length < h.W))
def Begun (h h' : Hd) : Prop := if (stepAt h.ring h.nx).bar = true then ∃ fl', h' = { h with nx := h.nx + 1, k0 := h.k0 + 1, k1 := h.k1 + 1, done := h.done ++ [h.nx], fl := fl' } else ∃ a, h' = { h with nx := h.nx + 1, k0 := h.k0 + 1, fa := h.fa ++ [((h.nx, 0, 0), a)] }
def sp_Helper_is_idle (K : PySem.W.Frag) : Sp := fun vs H Q _ => ∃ q h, vs = [.ref q] ∧ HB K H q h ∧ ∀ H', Same H H' → Q (.bl (h.fa.isEmpty && decide (h.nx = h.ring.length))) H'
def sp_Helper_halted (K : PySem.W.Frag) : Sp := fun vs H Q _ => ∃ q h, vs = [.ref q] ∧ HB K H q h ∧ Q .non H
def sp_Helper_counts (K : PySem.W.Frag) : Sp := fun vs H Q _ => ∃ q h, vs = [.ref q] ∧ HB K H q h ∧ ∀ H' t, Same H H' → H t = none → H' t = some (.tup [.int h.k0, .int h.k1, .int h.k2, .int h.k3]) → Q (.ref t) H'
def sp_Helper_may_begin (K : PySem.W.Frag) : Sp := fun vs H Q _ => ∃ q h, vs = [.ref q] ∧ HB K H q h ∧ ∀ H', Same H H' → Q (.bl (mayB h)) H'
def sp_Helper_end_step (K : PySem.W.Frag) : Sp := fun vs H Q _ => ∃ q h n, vs = [.ref q, .int (n : Nat)] ∧ HB K H q h ∧ h.done.length + h.fa.length < h.nx ∧ ∀ H', HB K H' q { h with done := h.done ++ [n], k1 := h.k1 + 1 } → KeepX (h.S q) H H' → Q .non H'
def sp_Helper_begin (K : PySem.W.Frag) : Sp := fun vs H Q _ => ∃ q h, vs = [.ref q] ∧ HB K H q h ∧ mayB h = true ∧ ∀ H' h', HB K H' q h' → Begun h h' → KeepX (h.S q) H H' → Q (.int (h.nx : Nat)) H'
def sp_Helper_may_touch (K : PySem.W.Frag) : Sp := fun vs H Q _ => ∃ q h x c, vs = [.ref q, .str x, .int (c : Nat)] ∧ HB K H q h ∧ c < h.m.length ∧ Q (.bl true) H
def sp_Helper_flying (K : PySem.W.Frag) : Sp := fun vs H Q _ => ∃ q h, vs = [.ref q] ∧ HB K H q h ∧ ∀ H' t ts, Same H H' → H t = none → H' t = some (.tup (refsV ts)) → ts.length = h.fa.length → (∀ (i : Nat) (x : Fl × Addr) (p : Addr), h.fa[i]? = some x → ts[i]? = some p → H' p = some (.tup [.int (x.1.1 : Nat), .int (x.1.2.1 : Nat)])) → Q (.ref t) H'
theorem in_bars (s : Step) : inV (V.str s.word) [V.str "fence", V.str "note"] = s.bar := by
  cases s with
  | copy a b k => exact (by decide +kernel : inV (V.str "copy") [V.str "fence", V.str "note"] = false)
  | fill a y k => exact (by decide +kernel : inV (V.str "fill") [V.str "fence", V.str "note"] = false)
  | add a c => exact (by decide +kernel : inV (V.str "add") [V.str "fence", V.str "note"] = false)
  | note f => exact (by decide +kernel : inV (V.str "note") [V.str "fence", V.str "note"] = true)
  | fence => exact (by decide +kernel : inV (V.str "fence") [V.str "fence", V.str "note"] = true)
theorem in_once (s : Step) : inV (V.str s.word) [V.str "fence", V.str "note", V.str "wait"] = s.bar := by
  cases s with
  | copy a b k => exact (by decide +kernel : inV (V.str "copy") [V.str "fence", V.str "note", V.str "wait"] = false)
  | fill a y k => exact (by decide +kernel : inV (V.str "fill") [V.str "fence", V.str "note", V.str "wait"] = false)
  | add a c => exact (by decide +kernel : inV (V.str "add") [V.str "fence", V.str "note", V.str "wait"] = false)
  | note f => exact (by decide +kernel : inV (V.str "note") [V.str "fence", V.str "note", V.str "wait"] = true)
  | fence => exact (by decide +kernel : inV (V.str "fence") [V.str "fence", V.str "note", V.str "wait"] = true)
theorem no_wait (s : Step) : decide (V.str s.word = V.str "wait") = false := by
  cases s with
  | copy a b k => exact (by decide +kernel : decide (V.str "copy" = V.str "wait") = false)
  | fill a y k => exact (by decide +kernel : decide (V.str "fill" = V.str "wait") = false)
  | add a c => exact (by decide +kernel : decide (V.str "add" = V.str "wait") = false)
  | note f => exact (by decide +kernel : decide (V.str "note" = V.str "wait") = false)
  | fence => exact (by decide +kernel : decide (V.str "fence" = V.str "wait") = false)
theorem form_len2 (s : Step) : s.form.length ≤ 1000 := by
  cases s with
  | copy a b k => exact (by decide +kernel : ("AAS" : Str).length ≤ 1000)
  | fill a y k => exact (by decide +kernel : ("ABS" : Str).length ≤ 1000)
  | add a c => exact (by decide +kernel : ("AC" : Str).length ≤ 1000)
  | note f => exact (by decide +kernel : ("F" : Str).length ≤ 1000)
  | fence => exact (by decide +kernel : ("" : Str).length ≤ 1000)
theorem empty_kF (fa : List (Fl × Addr)) : (fa.map kF).isEmpty = fa.isEmpty := by cases fa <;> rfl
section
variable {P : Program} {w : World} {K : PySem.W.Frag} {mg : Str → Option Value} {base : Heap}
abbrev N_Helper_is_idle : List Str := ["self"]
theorem sc_Helper_is_idle : FnScope N_Helper_is_idle ["self"] (defScope s_Helper_is_idle) := ⟨rfl, rfl, rfl, by decide +kernel, rfl, by decide +kernel, by decide +kernel⟩
theorem M_Helper_is_idle (T : Txt K mg) (TW : TxtW K w) : MethAt P w K mg base (He.ga K "Helper") "is_idle" 1 ["self"] (sp_Helper_is_idle K) := by
  obtain ⟨fd, F⟩ := T.f_Helper_is_idle
  refine ⟨He.fAd K ("Helper", some "is_idle"), fd, T.m_Helper_is_idle, F.bindsN (fun _ _ _ _ _ _ us hl => match us, hl with | [_], _ => rfl), ?_⟩
  refine F.ok sc_Helper_is_idle (fun vs H Q E h => ?_) (fun cdv A outer s H vs Q E hr h => ?_)
  · obtain ⟨_, _, rfl, _⟩ := h
    rfl
  · obtain ⟨q, h, rfl, hb, k⟩ := h
    obtain ⟨dx, hq⟩ := hb.ob
    refine ⟨_, PSs.nox (pss_one (ps_ret (pe_and (pe_cmpR (op_eq_empty hr.units0) (pe_fld (pv 0) rfl) pe_dnewK (nomark _)) (pe_one (pe_cmpR op_eq (pe_fld (pv 0) rfl) (pe_callB call_len_seq (by rfl) T.r_len (by decide +kernel) (pa_cons (pe_fld (pv 0) rfl) pa_nil)) (nomark _)))))), ?_⟩
    refine ⟨_, rfl, q, _, dx, _, _, rfl, hq, T.c_Helper, T.n_held_flying, rfl, fun b nb => ?_⟩
    have s1 : Same H (upd H b (.dK [])) := same_new nb
    have hb1 := hb.same s1
    refine ⟨h.y, b, _, rfl, rfl, hb1.fy, upd_same, _, rfl, ite2 (fun z => ?_) fun z => ?_⟩
    · have e : h.fa.isEmpty = true := by simpa using z
      have hq1 := s1 _ _ hq
      refine ⟨_, rfl, q, _, dx, _, _, rfl, hq1, T.c_Helper, T.n_held_next, rfl, _, rfl, q, _, dx, _, _, rfl, hq1, T.c_Helper, T.n_held_ring, rfl, h.r, _, rfl, .inl (SqL.of hb1.rg), rfl, ?_⟩
      have := k _ s1
      rw [e, Bool.true_and, hb.ss.1.symm] at this
      rw [List.length_map, decV]
      exact this
    · have e : h.fa.isEmpty = false := by
        cases q : h.fa.isEmpty
        · rfl
        · exact absurd (by simpa using q) z
      have := k _ s1
      rw [e, Bool.false_and] at this
      exact this
abbrev N_Helper_halted : List Str := ["self"]
theorem sc_Helper_halted : FnScope N_Helper_halted ["self"] (defScope s_Helper_halted) := ⟨rfl, rfl, rfl, by decide +kernel, rfl, by decide +kernel, by decide +kernel⟩
theorem M_Helper_halted (T : Txt K mg) (TW : TxtW K w) : MethAt P w K mg base (He.ga K "Helper") "halted" 1 ["self"] (sp_Helper_halted K) := by
  obtain ⟨fd, F⟩ := T.f_Helper_halted
  refine ⟨He.fAd K ("Helper", some "halted"), fd, T.m_Helper_halted, F.bindsN (fun _ _ _ _ _ _ us hl => match us, hl with | [_], _ => rfl), ?_⟩
  refine F.ok sc_Helper_halted (fun vs H Q E h => ?_) (fun cdv A outer s H vs Q E hr h => ?_)
  · obtain ⟨_, _, rfl, _⟩ := h
    rfl
  · obtain ⟨q, h, rfl, hb, k⟩ := h
    obtain ⟨dx, hq⟩ := hb.ob
    refine ⟨_, PSs.nox (pss_one (ps_ret (pe_fld (pv 0) rfl))), ?_⟩
    exact ⟨_, rfl, q, _, dx, _, _, rfl, hq, T.c_Helper, T.n_held_out, rfl, k⟩
abbrev N_Helper_counts : List Str := ["self"]
theorem sc_Helper_counts : FnScope N_Helper_counts ["self"] (defScope s_Helper_counts) := ⟨rfl, rfl, rfl, by decide +kernel, rfl, by decide +kernel, by decide +kernel⟩
theorem M_Helper_counts (T : Txt K mg) (TW : TxtW K w) : MethAt P w K mg base (He.ga K "Helper") "counts" 1 ["self"] (sp_Helper_counts K) := by
  obtain ⟨fd, F⟩ := T.f_Helper_counts
  refine ⟨He.fAd K ("Helper", some "counts"), fd, T.m_Helper_counts, F.bindsN (fun _ _ _ _ _ _ us hl => match us, hl with | [_], _ => rfl), ?_⟩
  refine F.ok sc_Helper_counts (fun vs H Q E h => ?_) (fun cdv A outer s H vs Q E hr h => ?_)
  · obtain ⟨_, _, rfl, _⟩ := h
    rfl
  · obtain ⟨q, h, rfl, hb, k⟩ := h
    obtain ⟨dx, hq⟩ := hb.ob
    refine ⟨_, PSs.nox (pss_one (ps_ret (pe_callTy call_tuple_of (by rfl) T.r_tuple (by decide +kernel) (pa_cons (pe_fld (pv 0) rfl) pa_nil)))), ?_⟩
    exact ⟨_, rfl, q, _, dx, _, _, rfl, hq, T.c_Helper, T.n_held_counts, rfl, h.ct, _, rfl, .inl ⟨SqL.of hb.ct, fun t nt => k _ t (same_new nt) nt upd_same⟩⟩
abbrev N_Helper_end_step : List Str := ["self", "number"]
theorem sc_Helper_end_step : FnScope N_Helper_end_step ["self", "number"] (defScope s_Helper_end_step) := ⟨rfl, rfl, rfl, by decide +kernel, rfl, by decide +kernel, by decide +kernel⟩
theorem M_Helper_end_step (T : Txt K mg) (TW : TxtW K w) : MethAt P w K mg base (He.ga K "Helper") "end_step" 1 ["self", "number"] (sp_Helper_end_step K) := by
  obtain ⟨fd, F⟩ := T.f_Helper_end_step
  refine ⟨He.fAd K ("Helper", some "end_step"), fd, T.m_Helper_end_step, F.bindsN (fun _ _ _ _ _ _ us hl => match us, hl with | [_, _], _ => rfl), ?_⟩
  refine F.ok sc_Helper_end_step (fun vs H Q E h => ?_) (fun cdv A outer s H vs Q E hr h => ?_)
  · obtain ⟨_, _, _, rfl, _⟩ := h
    rfl
  · obtain ⟨q, h, n, rfl, hb, hlt, k⟩ := h
    obtain ⟨dx, hq⟩ := hb.ob
    have N := hb.ne
    refine ⟨_, PSs.nox (pss_cons (ps_expr (pe_bm PySem.F.plainAttrs_list PySem.F.slot_list_append PySem.F.type_list_append mt_append (pe_fld (pv 0) rfl) (pa_cons (pv 1) pa_nil)))
      (pss_one (ps_augS (pe_fld (pv 0) rfl) pe_int get_list pe_int ip_add set_list))), ?_⟩
    have hb1 : HB K (upd H h.d (.lst (natsV h.done ++ [.int (n : Nat)]))) q { h with done := h.done ++ [n] } := hb.setDone (by simp) ⟨hb.v.inc, hb.v.lt, hb.v.nn, hb.v.nxl, hb.v.ok, hb.v.okm, hb.v.len, by show (h.done ++ [n]).length + _ ≤ _; rw [List.length_append]; show h.done.length + 1 + h.fa.length ≤ h.nx; omega, hb.v.w1, hb.v.w4, hb.v.b1, hb.v.b16⟩
    have hq1 : (upd H h.d (.lst (natsV h.done ++ [.int (n : Nat)]))) q = some (.ins (He.ga K "Helper") dx (hfl h)) := by rw [upd_ne N.qd]; exact hq
    refine ⟨_, rfl, q, _, dx, _, _, rfl, hq, T.c_Helper, T.n_held_done, rfl, .inl ⟨rfl, _, SqL.of hb.dn⟩, _, rfl, h.d, _, _, rfl, rfl, hb.dn, ?_, ?_⟩
    · rw [List.length_map, sizeLine_eq]
      have := hb.v.nxl
      have := hb.v.len
      omega
    refine ⟨_, rfl, q, _, dx, _, _, rfl, hq1, T.c_Helper, T.n_held_counts, rfl, h.ct, _, 1, _, rfl, rfl, SqL.of hb1.ct, rfl, _, _, rfl, rfl, h.ct, _, _, 1, rfl, rfl, hb1.ct, rfl, ?_⟩
    exact k _ (hb1.setCounts rfl) (((KeepX.refl _ H).upd (by simp)).upd (by simp))
abbrev N_Helper_may_begin : List Str := ["self", "word", "things"]
theorem sc_Helper_may_begin : FnScope N_Helper_may_begin ["self"] (defScope s_Helper_may_begin) := ⟨rfl, rfl, rfl, by decide +kernel, rfl, by decide +kernel, by decide +kernel⟩
theorem M_Helper_may_begin (T : Txt K mg) (TW : TxtW K w) : MethAt P w K mg base (He.ga K "Helper") "may_begin" 1 ["self"] (sp_Helper_may_begin K) := by
  obtain ⟨fd, F⟩ := T.f_Helper_may_begin
  refine ⟨He.fAd K ("Helper", some "may_begin"), fd, T.m_Helper_may_begin, F.bindsN (fun _ _ _ _ _ _ us hl => match us, hl with | [_], _ => rfl), ?_⟩
  refine F.ok sc_Helper_may_begin (fun vs H Q E h => ?_) (fun cdv A outer s H vs Q E hr h => ?_)
  · obtain ⟨_, _, rfl, _⟩ := h
    rfl
  · obtain ⟨q, h, rfl, hb, k⟩ := h
    obtain ⟨dx, hq⟩ := hb.ob
    refine ⟨_, PSs.nox (pss_cons (ps_if (PW.pt (pw_or (pt_cmpR op_notN (pe_fld (pv 0) rfl) pe_non (nomark _)) (pw_or1 (pt_cmpR op_eq (pe_fld (pv 0) rfl) (pe_callB call_len_seq (by rfl) T.r_len (by decide +kernel) (pa_cons (pe_fld (pv 0) rfl) pa_nil)) (nomark _))))) (pss_one (ps_ret pe_bl)) pss_nil)
      (pss_cons (ps_asg (pe_ix ix_list (pe_fld (pv 0) rfl) (pe_fld (pv 0) rfl) (fun _ _ => rfl)) (pg_star rfl (pgs_cons (pg_name (i := 1) sc_Helper_may_begin.nd rfl (Or.inl rfl)) (pgs_cons (pg_name (i := 2) sc_Helper_may_begin.nd rfl (Or.inl rfl)) pgs_nil))))
      (pss_cons (ps_if (pt_cmpR op_in_seq (pv 1) (pe_glob (v := V.ref _) (by rfl) T.g_BARS rfl) (by rfl)) (pss_one (ps_ret (pe_cmpR (op_eq_empty hr.units0) (pe_fld (pv 0) rfl) pe_dnewK (nomark _)))) pss_nil)
      (pss_cons (ps_if (pt_cmpR op_eq (pv 1) pe_str (nomark _)) (pss_one (ps_ret (pe_cmpR op_ge pe_nev (pe_ix ix_list (pv 2) pe_int (fun _ _ => rfl)) (nomark _)))) pss_nil)
      (pss_one (ps_ret (pe_cmpR op_lt (pe_callB call_lenD (by rfl) T.r_len (by decide +kernel) (pa_cons (pe_fld (pv 0) rfl) pa_nil)) (pe_fld (pv 0) rfl) (nomark _)))))))), ?_⟩
    refine ⟨_, rfl, q, _, dx, _, _, rfl, hq, T.c_Helper, T.n_held_out, rfl, rfl, _, rfl, iteF ?_⟩
    refine ⟨_, rfl, q, _, dx, _, _, rfl, hq, T.c_Helper, T.n_held_next, rfl, _, rfl, q, _, dx, _, _, rfl, hq, T.c_Helper, T.n_held_ring, rfl, h.r, _, rfl, .inl (SqL.of hb.rg), rfl, _, rfl, ?_⟩
    rw [List.length_map, decV]
    refine ite2 (fun z => ?_) fun z => ?_
    · have e := of_decide_eq_true z
      have := k _ (Same.refl _)
      unfold mayB at this
      rw [decide_eq_false (show ¬ h.nx < h.ring.length by rw [← hb.ss.1]; omega)] at this
      exact this
    have hlt : h.nx < h.ring.length := by
      have := hb.v.nxl
      have e : ¬ h.nx = h.rps.length := fun e => z (decide_eq_true e)
      rw [hb.ss.1] at e
      omega
    obtain ⟨p, st, e1, e2, e3⟩ := hb.ss.get (show h.nx < h.rps.length by rw [hb.ss.1]; exact hlt)
    have est : stepAt h.ring h.nx = st := by
      have := stepAt_get hlt
      rw [e2] at this
      exact (Option.some.inj this).symm
    obtain ⟨xs, hp, _, exl⟩ := step_shape (K := K) e3
    have xl : xs.length ≤ 1000 := by rw [exl]; exact form_len2 st
    have ek : (refsV h.rps)[h.nx]? = some (V.ref p) := by rw [List.getElem?_map, e1]; rfl
    refine ⟨_, rfl, q, _, dx, _, _, rfl, hq, T.c_Helper, T.n_held_ring, rfl, _, rfl, q, _, dx, _, _, rfl, hq, T.c_Helper, T.n_held_next, rfl, h.r, _, _, _, rfl, rfl, SqL.of hb.rg, atI_nat ek, p, _, _, rfl, SqT.of hp, xl, fun D nD => ?_⟩
    have s1 : Same H (upd H D (.lst xs)) := same_new nD
    have hb1 := hb.same s1
    have hq1 := s1 _ _ hq
    refine ⟨_, _, rfl, _, _, rfl, rfl, _, rfl, _, _, rfl, .inr (T.bars _), rfl, rfl, _, rfl, ?_⟩
    have kk := fun H' (s : Same H H') => k H' s
    unfold mayB at kk
    rw [decide_eq_true hlt, est, Bool.true_and] at kk
    show (if inV (V.str st.word) [V.str "fence", V.str "note"] = true then _ else _)
    rw [in_bars]
    cases hbar : st.bar with
    | true =>
      refine iteT ?_
      refine ⟨_, rfl, q, _, dx, _, _, rfl, hq1, T.c_Helper, T.n_held_flying, rfl, fun b nb => ?_⟩
      have s2 : Same (upd H D (.lst xs)) (upd (upd H D (.lst xs)) b (.dK [])) := same_new nb
      refine ⟨h.y, b, _, rfl, rfl, s2 _ _ hb1.fy, upd_same, ?_⟩
      have := kk _ (s1.trans s2)
      rw [hbar] at this
      rw [empty_kF]
      exact this
    | false =>
      refine iteF ?_
      refine ⟨_, rfl, rfl, _, rfl, ?_⟩
      rw [no_wait]
      refine iteF ?_
      refine ⟨_, rfl, q, _, dx, _, _, rfl, hq1, T.c_Helper, T.n_held_flying, rfl, h.y, _, rfl, hb1.fy, _, rfl, q, _, dx, _, _, rfl, hq1, T.c_Helper, T.n_held_width, rfl, _, _, rfl, rfl, ?_⟩
      have := kk _ s1
      rw [hbar] at this
      rw [List.length_map]
      have e : decide (((h.fa.length : Nat) : Int) < ((h.W : Nat) : Int)) = decide (h.fa.length < h.W) := by
        by_cases c : h.fa.length < h.W
        · rw [decide_eq_true c]; exact decide_eq_true (by omega)
        · rw [decide_eq_false c]; exact decide_eq_false (by omega)
      show Q (.bl (decide (((h.fa.length : Nat) : Int) < ((h.W : Nat) : Int)))) _
      rw [e]
      exact this
abbrev N_Helper_may_touch : List Str := ["self", "way", "cell"]
theorem sc_Helper_may_touch : FnScope N_Helper_may_touch ["self", "way", "cell"] (defScope s_Helper_may_touch) := ⟨rfl, rfl, rfl, by decide +kernel, rfl, by decide +kernel, by decide +kernel⟩
theorem M_Helper_may_touch (T : Txt K mg) (TW : TxtW K w) : MethAt P w K mg base (He.ga K "Helper") "may_touch" 3 ["self", "way", "cell"] (sp_Helper_may_touch K) := by
  obtain ⟨fd, F⟩ := T.f_Helper_may_touch
  have M_Store_len := M_Store_len (P := P) (w := w) (base := base) T TW
  refine ⟨He.fAd K ("Helper", some "may_touch"), fd, T.m_Helper_may_touch, F.bindsN (fun _ _ _ _ _ _ us hl => match us, hl with | [_, _, _], _ => rfl), ?_⟩
  refine F.ok sc_Helper_may_touch (fun vs H Q E h => ?_) (fun cdv A outer s H vs Q E hr h => ?_)
  · obtain ⟨_, _, _, _, rfl, _⟩ := h
    rfl
  · obtain ⟨q, h, x, c, rfl, hb, hc, k⟩ := h
    obtain ⟨dx, hq⟩ := hb.ob
    obtain ⟨dxp, hp⟩ := hb.st.ob
    refine ⟨_, PSs.nox (pss_cons (ps_if (pt_cmpR op_ge (pv 2) (pe_lenOwn T.c_Store M_Store_len hr (by rfl) T.r_len (pa_cons (pe_fld (pv 0) rfl) pa_nil)) (nomark _)) (pss_one (ps_ret pe_bl)) pss_nil)
      (pss_one (ps_ret (pe_or (pe_cmpR op_isN (pe_fld (pv 0) rfl) pe_non (nomark _)) (pe_one pe_nev))))), ?_⟩
    refine ⟨_, rfl, _, rfl, q, _, dx, _, _, rfl, hq, T.c_Helper, T.n_held_store, rfl, h.p, dxp, _, rfl, hp, h.p, h.c, h.f, h.m, h.fl, h.z, rfl, hb.st, h.m.length, rfl, ?_, _, _, rfl, rfl, _, rfl, ite2 (fun z => absurd (of_decide_eq_true z) (by omega)) fun _ => ?_⟩
    · have := hb.st.l2
      omega
    exact ⟨_, rfl, q, _, dx, _, _, rfl, hq, T.c_Helper, T.n_held_room, rfl, rfl, true, rfl, iteT k⟩
abbrev N_Helper_flying : List Str := ["self", "number", "done", "total"]
theorem sc_Helper_flying : FnScope N_Helper_flying ["self"] (defScope s_Helper_flying) := ⟨rfl, rfl, rfl, by decide +kernel, rfl, by decide +kernel, by decide +kernel⟩
theorem M_Helper_flying (T : Txt K mg) (TW : TxtW K w) : MethAt P w K mg base (He.ga K "Helper") "flying" 1 ["self"] (sp_Helper_flying K) := by
  obtain ⟨fd, F⟩ := T.f_Helper_flying
  refine ⟨He.fAd K ("Helper", some "flying"), fd, T.m_Helper_flying, F.bindsN (fun _ _ _ _ _ _ us hl => match us, hl with | [_], _ => rfl), ?_⟩
  refine F.ok sc_Helper_flying (fun vs H Q E h => ?_) (fun cdv A outer s H vs Q E hr h => ?_)
  · obtain ⟨_, _, rfl, _⟩ := h
    rfl
  · obtain ⟨q, h, rfl, hb, k⟩ := h
    obtain ⟨dx, hq⟩ := hb.ob
    refine ⟨_, PSs.nox (pss_one (ps_ret (pe_callTy call_tuple_of (by rfl) T.r_tuple (by decide +kernel) (pa_cons (pe_lc (own := [("number", 1), ("done", 2), ("total", 3)]) (g := (gTup K 2 (gCons (gName 1) (gCons (gTup K 2 (gCons (gName 2) (gCons (gName 3) gNil))) gNil)))) rfl sc_Helper_flying.nd (pi_list (pe_sortedItems rfl hr.units (pe_fld (pv 0) rfl) (by rfl) T.r_sorted)) (blkOk_by (own := [("number", 1), ("done", 2), ("total", 3)]) (N := N_Helper_flying) (sc := defScope s_Helper_flying) (by decide +kernel)) (fun _ _ _ _ _ => (pg_tupK (K := K) (n := 2) rfl (pgs_cons (pg_name (i := 1) sc_Helper_flying.nd rfl (Or.inl rfl)) (pgs_cons (pg_tupK (K := K) (n := 2) rfl (pgs_cons (pg_name (i := 2) sc_Helper_flying.nd rfl (Or.inl rfl)) (pgs_cons (pg_name (i := 3) sc_Helper_flying.nd rfl (Or.inl rfl)) pgs_nil))) pgs_nil)))) (fun _ _ _ _ _ => pts_nil) (fun _ _ _ _ _ => (pe_tup (pa_cons (pv 1) (pa_cons (pv 2) pa_nil))))) pa_nil)))), ?_⟩
    refine ⟨_, rfl, q, _, dx, _, _, rfl, hq, T.c_Helper, T.n_held_flying, rfl, h.y, h.fa.map (fun x => ((x.1.1 : Int), x.2, (x.1.2.1 : Int), x.1.2.2)), rfl, ?_, ?_, ?_, ?_, fun H1 l ts s1 n1 hl hnot pr => ?_⟩
    · rw [List.map_map]
      exact hb.fy
    · intro f hf
      obtain ⟨x, hx, rfl⟩ := List.mem_map.mp hf
      exact hb.ft x hx
    · rw [List.pairwise_map]
      refine hb.v.inc.imp fun {a b} hab => ?_
      show ((a.1.1 : Nat) : Int) < ((b.1.1 : Nat) : Int)
      omega
    · rw [List.length_map]
      have := hb.v.cnt
      have := hb.v.nxl
      have := hb.v.len
      omega
    have tl : ts.length = h.fa.length := by
      have := Paired.length pr
      rw [this, List.length_map, List.length_map]
    refine ⟨l, rfl, ⟨_, SqL.of hl⟩, fun D nD => ?_⟩
    refine lc_it (walk_list (xs := refsV ts)) (fun i H2 => Same H1 H2 ∧ ∃ us, us.length = i ∧ H2 D = some (.lst (refsV us)) ∧ ∀ (j : Nat) (x : Fl × Addr) (p : Addr), h.fa[j]? = some x → us[j]? = some p → H2 p = some (.tup [.int (x.1.1 : Nat), .int (x.1.2.1 : Nat)])) ⟨same_new nD, [], rfl, upd_same, fun j x p _ e => by simp at e⟩ (fun _ H2 _ p => SqL.of (p.1 _ _ hl)) (fun i x H2 H3 hi p y => ?_) (fun H2 p => ?_)
    · obtain ⟨s2, us, ul, hD, hU⟩ := p
      rw [List.length_map] at hi
      obtain ⟨rfl, ex⟩ := y
      rw [List.getElem?_map] at ex
      obtain ⟨t0, et, rfl⟩ := Option.map_eq_some_iff.mp ex
      obtain ⟨pq, epq, hpq⟩ := LiI.paired_get pr et
      rw [List.getElem?_map, List.getElem?_map] at epq
      obtain ⟨f0, ef0, rfl⟩ := Option.map_eq_some_iff.mp epq
      obtain ⟨x0, ex0, rfl⟩ := Option.map_eq_some_iff.mp ef0
      have hx0 := List.mem_of_getElem? ex0
      refine ⟨t0, _, rfl, SqT.of (s2 _ _ hpq), rfl, _, _, rfl, _, _, rfl, x0.2, _, rfl, SqT.of ((Same.trans s1 s2) _ _ (hb.ft x0 hx0)), rfl, _, _, rfl, _, _, rfl, rfl, rfl, rfl, ?_⟩
      refine ⟨_, rfl, _, rfl, by show 2 ≤ sizeLine; decide, fun t1 nt1 => ?_⟩
      have s3 : Same H3 (upd H3 t1 (.tup [.int (x0.1.1 : Nat), .int (x0.1.2.1 : Nat)])) := same_new nt1
      have hD2 := s3 _ _ hD
      refine ⟨refsV us, hD2, ?_, ?_, us ++ [t1], by rw [List.length_append, ul]; rfl, ?_, fun j x p e1 e2 => ?_⟩
      · rw [List.length_map, sizeLine_eq]
        have := hb.v.cnt
        have := hb.v.nxl
        have := hb.v.len
        omega
      · exact fun b o e => by
          have hne : b ≠ D := ne_of_none e nD
          rw [upd_ne hne]
          exact (Same.trans s2 s3) b o e
      · rw [upd_same]
        simp
      · have g : (upd H3 t1 (.tup [.int (x0.1.1 : Nat), .int (x0.1.2.1 : Nat)])) p = some (.tup [.int (x.1.1 : Nat), .int (x.1.2.1 : Nat)]) := by
          by_cases hj : j < us.length
          · rw [List.getElem?_append_left hj] at e2
            exact s3 _ _ (hU j x p e1 e2)
          · have hj2 : j < (us ++ [t1]).length := (List.getElem?_eq_some_iff.mp e2).1
            rw [List.length_append, List.length_singleton] at hj2
            have ej : j = us.length := by omega
            subst ej
            rw [List.getElem?_append_right (Nat.le_refl _), Nat.sub_self] at e2
            cases e2
            rw [ul, ex0] at e1
            cases e1
            exact upd_same
        have hne : p ≠ D := ne_of g hD2 (by intro z; cases z)
        rw [upd_ne hne]
        exact g
    · obtain ⟨s2, us, ul, hD, hU⟩ := p
      rw [List.length_map] at ul
      refine ⟨D, _, rfl, .inl ⟨SqL.of hD, fun t nt => ?_⟩⟩
      have s3 : Same H2 (upd H2 t (.tup (refsV us))) := same_new nt
      have s12 : Same H H2 := Same.trans s1 s2
      exact k _ t us (s12.trans s3) (s12.free' nt) upd_same (by rw [ul, tl]) fun j x p e1 e2 => s3 _ _ (hU j x p e1 e2)
end
end Hl
end

section
set_option Elab.async false
set_option linter.all false
set_option maxRecDepth 100000
set_option maxHeartbeats 4000000
namespace Hl
open PySem PySem.Spec PyProof.Rows L2
theorem vint_set0 {a b c d x : Int} : ([V.int a, .int b, .int c, .int d] : List V).set 0 (.int x) = [.int x, .int b, .int c, .int d] := rfl
section
variable {P : Program} {w : World} {K : PySem.W.Frag} {mg : Str → Option Value} {base : Heap}
abbrev N_Helper_begin : List Str := ["self", "number", "word", "things"]
theorem sc_Helper_begin : FnScope N_Helper_begin ["self"] (defScope s_Helper_begin) := ⟨rfl, rfl, rfl, by decide +kernel, rfl, by decide +kernel, by decide +kernel⟩
theorem M_Helper_begin (T : Txt K mg) (TW : TxtW K w) : MethAt P w K mg base (He.ga K "Helper") "begin" 4 ["self"] (sp_Helper_begin K) := by
  obtain ⟨fd, F⟩ := T.f_Helper_begin
  have M_Store_raise_flag := M_Store_raise_flag (P := P) (w := w) (base := base) T TW
  have M_Helper_may_begin := M_Helper_may_begin (P := P) (w := w) (base := base) T TW
  have M_Helper_end_step := M_Helper_end_step (P := P) (w := w) (base := base) T TW
  refine ⟨He.fAd K ("Helper", some "begin"), fd, T.m_Helper_begin, F.bindsN (fun _ _ _ _ _ _ us hl => match us, hl with | [_], _ => rfl), ?_⟩
  refine F.ok sc_Helper_begin (fun vs H Q E h => ?_) (fun cdv A outer s H vs Q E hr h => ?_)
  · obtain ⟨_, _, rfl, _⟩ := h
    rfl
  · obtain ⟨q, h, rfl, hb, hm, k⟩ := h
    obtain ⟨dx, hq⟩ := hb.ob
    have N := hb.ne
    have hlt : h.nx < h.ring.length := by
      unfold mayB at hm
      exact of_decide_eq_true (Bool.and_eq_true_iff.mp hm).1
    obtain ⟨p, st, e1, e2, e3⟩ := hb.ss.get (show h.nx < h.rps.length by rw [hb.ss.1]; exact hlt)
    have est : stepAt h.ring h.nx = st := by
      have := stepAt_get hlt
      rw [e2] at this
      exact (Option.some.inj this).symm
    have hmem : st ∈ h.ring := List.mem_of_getElem? e2
    have ek : (refsV h.rps)[h.nx]? = some (V.ref p) := by rw [List.getElem?_map, e1]; rfl
    refine ⟨_, PSs.nox (pss_cons (ps_if (pt_not (pt_val (pe_mth0 (pv 0) T.c_Helper M_Helper_may_begin hr))) (pss_one ps_never) pss_nil)
      (pss_cons (ps_set (i := 1) sc_Helper_begin.nd rfl (Or.inl rfl) (pe_fld (pv 0) rfl))
      (pss_cons (ps_asg (pe_ix ix_list (pe_fld (pv 0) rfl) (pv 1) (fun _ _ => rfl)) (pg_star rfl (pgs_cons (pg_name (i := 2) sc_Helper_begin.nd rfl (Or.inl rfl)) (pgs_cons (pg_name (i := 3) sc_Helper_begin.nd rfl (Or.inl rfl)) pgs_nil))))
      (pss_cons (ps_fldaug (pv 0) pe_int in_add)
      (pss_cons (ps_augS (pe_fld (pv 0) rfl) pe_int get_list pe_int ip_add set_list)
      (pss_cons (ps_if (pt_cmpR op_notIn_seq (pv 2) (pe_glob (v := V.ref _) (by rfl) T.g_AT_ONCE rfl) (by rfl)) (pss_cons (ps_dput (hu_of hr) (pe_fld (pv 0) rfl) (pv 1) (pe_tup (pa_cons pe_int (pa_cons pe_int pa_nil))) rfl)
        (pss_one (ps_ret (pv 1)))) pss_nil)
      (pss_cons (ps_if (pt_cmpR op_eq (pv 2) pe_str (nomark _)) (pss_one (ps_expr (pe_mth (pe_fld (pv 0) rfl) T.c_Store M_Store_raise_flag hr (pa_cons (pe_ix ix_list (pv 3) pe_int (fun _ _ => rfl)) pa_nil)))) pss_nil)
      (pss_cons (ps_expr (pe_mth (pv 0) T.c_Helper M_Helper_end_step hr (pa_cons (pv 1) pa_nil)))
      (pss_one (ps_ret (pv 1))))))))))), ?_⟩
    refine ⟨_, rfl, q, dx, _, rfl, hq, rfl, q, h, rfl, hb, fun H1 s1 => ⟨_, rfl, ?_⟩⟩
    rw [hm]
    refine iteF ?_
    have hb1 := hb.same s1
    have hq1 := s1 _ _ hq
    obtain ⟨xs, hp, _, exl⟩ := step_shape (K := K) (hb1.ss.2 _ _ _ e1 e2)
    have xl : xs.length ≤ 1000 := by rw [exl]; exact form_len2 st
    refine ⟨_, rfl, q, _, dx, _, _, rfl, hq1, T.c_Helper, T.n_held_next, rfl, ?_⟩
    refine ⟨_, rfl, q, _, dx, _, _, rfl, hq1, T.c_Helper, T.n_held_ring, rfl, _, rfl, h.r, _, _, _, rfl, rfl, SqL.of hb1.rg, atI_nat ek, p, _, _, rfl, SqT.of hp, xl, fun D nD => ?_⟩
    have s2 : Same H1 (upd H1 D (.lst xs)) := same_new nD
    have hb2 := hb1.same s2
    have hq2 := s2 _ _ hq1
    have hD2 : (upd H1 D (.lst xs)) D = some (.lst xs) := upd_same
    have kp0 : KeepX (h.S q) H (upd H1 D (.lst xs)) := (s1.trans s2).keep
    have nDS : D ∉ h.S q := fun z => by
      have nz : ∀ {a : Addr} {o : HO}, H1 a = some o → D ≠ a := fun ea => (ne_of_none ea nD).symm
      obtain ⟨dxp, ep⟩ := hb1.st.ob
      simp only [List.mem_cons, List.not_mem_nil, or_false] at z
      rcases z with z | z | z | z | z | z | z | z
      · exact nz hq1 z
      · exact nz ep z
      · exact nz hb1.rg z
      · exact nz hb1.fy z
      · exact nz hb1.dn z
      · exact nz hb1.ct z
      · exact nz hb1.st.hc z
      · exact nz hb1.st.hf z
    generalize upd H1 D (.lst xs) = H2 at hb2 hq2 hD2 kp0 ⊢
    refine ⟨_, _, rfl, _, _, rfl, rfl, ?_⟩
    refine ⟨_, rfl, q, _, dx, _, _, rfl, hq2, T.c_Helper, T.n_held_next, rfl, _, _, rfl, rfl, dx, _, hq2, by show 10 < 1000; decide, ?_⟩
    have v3 : HV { h with nx := h.nx + 1 } := ⟨hb.v.inc, fun x hx => Nat.lt_succ_of_lt (hb.v.lt x hx), hb.v.nn, hlt, hb.v.ok, hb.v.okm, hb.v.len, Nat.le_succ_of_le hb.v.cnt, hb.v.w1, hb.v.w4, hb.v.b1, hb.v.b16⟩
    have hb3 := hb2.setNext (dx := dx) (n := h.nx + 1) (fs := putF "held_next" (.int ((h.nx : Int) + 1)) (hfl h)) (by rfl) v3
    have hq3 : (upd H2 q (.ins (He.ga K "Helper") dx (putF "held_next" (.int ((h.nx : Int) + 1)) (hfl h)))) q = some (.ins (He.ga K "Helper") dx (hfl { h with nx := h.nx + 1 })) := upd_same
    have kp3 := kp0.upd (p := q) (o := .ins (He.ga K "Helper") dx (putF "held_next" (.int ((h.nx : Int) + 1)) (hfl h))) (by simp)
    have hD3 : (upd H2 q (.ins (He.ga K "Helper") dx (putF "held_next" (.int ((h.nx : Int) + 1)) (hfl h)))) D = some (.lst xs) := by rw [upd_ne (fun z => nDS (by rw [z]; simp))]; exact hD2
    generalize upd H2 q (.ins (He.ga K "Helper") dx (putF "held_next" (.int ((h.nx : Int) + 1)) (hfl h))) = H3 at hb3 hq3 kp3 hD3 ⊢
    refine ⟨_, rfl, q, _, dx, _, _, rfl, hq3, T.c_Helper, T.n_held_counts, rfl, h.ct, _, 0, _, rfl, rfl, SqL.of hb3.ct, rfl, _, _, rfl, rfl, h.ct, _, _, 0, rfl, rfl, hb3.ct, rfl, ?_⟩
    have hb4 := hb3.setCounts (a0 := h.k0 + 1) (a1 := h.k1) (a2 := h.k2) (a3 := h.k3) rfl
    have hq4 : (upd H3 h.ct (.lst [.int (h.k0 + 1), .int h.k1, .int h.k2, .int h.k3])) q = some (.ins (He.ga K "Helper") dx (hfl { h with nx := h.nx + 1 })) := by rw [upd_ne N.qct]; exact hq3
    have kp4 := kp3.upd (p := h.ct) (o := .lst [.int (h.k0 + 1), .int h.k1, .int h.k2, .int h.k3]) (by simp)
    have hD4 : (upd H3 h.ct (.lst [.int (h.k0 + 1), .int h.k1, .int h.k2, .int h.k3])) D = some (.lst xs) := by rw [upd_ne (fun z => nDS (by rw [z]; simp))]; exact hD3
    refine ⟨_, rfl, _, _, rfl, .inr (T.once _), rfl, rfl, _, rfl, ?_⟩
    show (if (!inV (V.str st.word) [V.str "fence", V.str "note", V.str "wait"]) = true then _ else _)
    rw [in_once]
    cases hbar : st.bar with
    | false =>
      refine iteT ?_
      refine ⟨by show 2 ≤ sizeLine; decide, fun t nt => ?_⟩
      have s5 := same_new (o := .tup [.int 0, .int 0]) nt
      have hb5 := hb4.same s5
      have hq5 := s5 _ _ hq4
      have nn : valV (h.fa.map kF) (Sum.inl (h.nx : Int)) = none := valV_kF_none fun x hx => Nat.ne_of_lt (hb.v.lt x hx)
      refine ⟨_, rfl, q, _, dx, _, _, rfl, hq5, T.c_Helper, T.n_held_flying, rfl, _, rfl, h.y, _, rfl, DPut.k (k := Sum.inl (h.nx : Int)) hb5.fy ?_, ?_⟩
      · rw [List.length_map, sizeLine_eq]
        have := hb.v.cnt
        have := hb.v.len
        show h.fa.length < _
        omega
      have e6 : putK (h.fa.map kF) (Sum.inl (h.nx : Int)) (.ref t) = (h.fa ++ [((h.nx, 0, 0), t)]).map kF := by
        rw [putK_new _ nn, List.map_append]
        rfl
      have v6 : HV { h with nx := h.nx + 1, k0 := h.k0 + 1, fa := h.fa ++ [((h.nx, 0, 0), t)] } := by
        refine ⟨List.pairwise_append.mpr ⟨hb.v.inc, List.pairwise_singleton _ _, fun a ha b hb' => ?_⟩, fun x hx => ?_, fun x hx => ?_, hlt, hb.v.ok, hb.v.okm, hb.v.len, ?_, hb.v.w1, hb.v.w4, hb.v.b1, hb.v.b16⟩
        · rw [List.mem_singleton.mp hb']
          exact hb.v.lt a ha
        · rcases List.mem_append.mp hx with hx | hx
          · exact Nat.lt_succ_of_lt (hb.v.lt x hx)
          · rw [List.mem_singleton.mp hx]
            exact Nat.lt_succ_self _
        · rcases List.mem_append.mp hx with hx | hx
          · exact hb.v.nn x hx
          · rw [List.mem_singleton.mp hx]
            exact Int.le_refl _
        · show h.done.length + (h.fa ++ [_]).length ≤ h.nx + 1
          rw [List.length_append, List.length_singleton]
          have := hb.v.cnt
          omega
      have hb6 := hb5.setFly (fa := h.fa ++ [((h.nx, 0, 0), t)]) e6 (fun x hx => by
        rcases List.mem_append.mp hx with hx | hx
        · exact hb5.ft x hx
        · rw [List.mem_singleton.mp hx]
          exact upd_same) v6
      exact ⟨_, rfl, k _ _ hb6 (by unfold Begun; rw [est, hbar]; exact ⟨t, rfl⟩) ((kp4.same s5).upd (by simp))⟩
    | true =>
      refine iteF ?_
      have lt5 : h.done.length + h.fa.length < h.nx + 1 := Nat.lt_succ_of_le hb.v.cnt
      cases st with
      | copy a b n => cases hbar
      | fill a b n => cases hbar
      | add a b => cases hbar
      | fence =>
        refine ⟨_, rfl, rfl, _, rfl, ite2 (fun z => absurd z (by decide +kernel)) fun _ => ?_⟩
        refine ⟨_, rfl, q, dx, _, rfl, hq4, rfl, _, rfl, q, _, h.nx, rfl, hb4, lt5, fun H6 hb6 k6 => ⟨_, rfl, ?_⟩⟩
        exact k _ _ hb6 (by unfold Begun; rw [est]; exact ⟨h.fl, rfl⟩) (kp4.trans k6)
      | note f =>
        have hf8 : f < 8 := hb.v.ok _ hmem
        have hpn : xs = [.int (f : Nat)] := by
          have h1 : H1 p = some (.tup [.str "note", .int (f : Nat)]) := hb1.ss.2 _ _ _ e1 e2
          rw [h1] at hp
          cases hp
          rfl
        subst hpn
        obtain ⟨dxp, hpp⟩ := hb4.st.ob
        refine ⟨_, rfl, rfl, _, rfl, ite2 (fun _ => ?_) fun z => absurd (by rfl) z⟩
        refine ⟨_, rfl, q, _, dx, _, _, rfl, hq4, T.c_Helper, T.n_held_store, rfl, h.p, dxp, _, rfl, hpp, rfl, _, rfl, D, _, _, _, rfl, rfl, SqL.of hD4, atI_nat (j := 0) rfl, h.p, h.c, h.f, h.m, h.fl, h.z, f, rfl, hb4.st, hf8, fun H5 fl' y S5 k5 => ?_⟩
        have hb5 := hb4.setStore S5 (k5.mono (by simp)) rfl
        have hq5 := k5 _ _ hq4 (by simpa using N.qf)
        refine ⟨_, rfl, q, dx, _, rfl, hq5, rfl, _, rfl, q, _, h.nx, rfl, hb5, lt5, fun H6 hb6 k6 => ⟨_, rfl, ?_⟩⟩
        exact k _ _ hb6 (by unfold Begun; rw [est]; exact ⟨fl', rfl⟩) ((kp4.trans (k5.mono (by simp))).trans k6)
end
end Hl
end

section
set_option Elab.async false
set_option linter.all false
set_option maxRecDepth 100000
set_option maxHeartbeats 4000000
namespace Hl
open PySem PySem.Spec PyProof.Rows L2
def sp_Helper_part_done (K : PySem.W.Frag) : Sp := fun vs H Q _ => ∃ q h k d t a ta pt, vs = [.ref q, .int (k : Nat), .ref ta] ∧ HB K H q h ∧ ((k, d, t), a) ∈ h.fa ∧ PartAt H ta pt ∧ pt.length ≤ 2 ∧ (∀ y, y ∈ pt → y.2 < h.m.length) ∧
  ∀ H' a' l xs z', HB K H' q { h with fa := movA k (d + 1) (part (stepAt h.ring k) (h.m, t) pt).2 a' h.fa, m := (part (stepAt h.ring k) (h.m, t) pt).1, k2 := h.k2 + 1, z := z' } → KeepX (h.S q) H H' → H l = none → H' l = some (.lst xs) → xs.length = pt.length → Q (.ref l) H'
theorem HB.off {K : PySem.W.Frag} {H H' : Hp} {q : Addr} {h : Hd} (b : HB K H q h) {S : List Addr} (k : KeepX S H H') (n : ∀ a, a ∈ h.S q → a ∉ S) (tk : TK H H') : HB K H' q h := by
  obtain ⟨dx, e⟩ := b.ob
  have n' : ∀ a, a ∈ [q, h.p, h.r, h.y, h.d, h.ct, h.c, h.f] → a ∉ S := n
  exact ⟨⟨dx, k _ _ e (n' _ (by simp))⟩, k _ _ b.rg (n' _ (by simp)), b.ss.tk tk, k _ _ b.fy (n' _ (by simp)), fun x hx => tk _ _ (b.ft x hx), k _ _ b.dn (n' _ (by simp)), k _ _ b.ct (n' _ (by simp)),
    b.st.keep k (n' _ (by simp)) (n' _ (by simp)) (n' _ (by simp)), b.nd, b.v⟩
theorem HB.some {K : PySem.W.Frag} {H : Hp} {q : Addr} {h : Hd} (b : HB K H q h) {a : Addr} (ha : a ∈ h.S q) : ∃ o, H a = Option.some o := by
  obtain ⟨dx, e⟩ := b.ob
  obtain ⟨dxp, ep⟩ := b.st.ob
  simp only [List.mem_cons, List.not_mem_nil, or_false] at ha
  rcases ha with z | z | z | z | z | z | z | z <;> subst z
  · exact ⟨_, e⟩
  · exact ⟨_, ep⟩
  · exact ⟨_, b.rg⟩
  · exact ⟨_, b.fy⟩
  · exact ⟨_, b.dn⟩
  · exact ⟨_, b.ct⟩
  · exact ⟨_, b.st.hc⟩
  · exact ⟨_, b.st.hf⟩
theorem HB.notS {K : PySem.W.Frag} {H : Hp} {q : Addr} {h : Hd} (b : HB K H q h) {l : Addr} (hl : H l = none) : l ∉ h.S q := fun z => by
  obtain ⟨o, e⟩ := b.some z
  rw [hl] at e
  cases e
section
variable {P : Program} {w : World} {K : PySem.W.Frag} {mg : Str → Option Value} {base : Heap}
abbrev N_Helper_part_done : List Str := ["self", "number", "touches", "done", "total", "found", "byte", "way", "cell"]
theorem sc_Helper_part_done : FnScope N_Helper_part_done ["self", "number", "touches"] (defScope s_Helper_part_done) := ⟨rfl, rfl, rfl, by decide +kernel, rfl, by decide +kernel, by decide +kernel⟩
theorem M_Helper_part_done (T : Txt K mg) (TW : TxtW K w) : MethAt P w K mg base (He.ga K "Helper") "part_done" 4 ["self", "number", "touches"] (sp_Helper_part_done K) := by
  obtain ⟨fd, F⟩ := T.f_Helper_part_done
  have M_Store_read := M_Store_read (P := P) (w := w) (base := base) T TW
  have M_Store_write := M_Store_write (P := P) (w := w) (base := base) T TW
  refine ⟨He.fAd K ("Helper", some "part_done"), fd, T.m_Helper_part_done, F.bindsN (fun _ _ _ _ _ _ us hl => match us, hl with | [_, _, _], _ => rfl), ?_⟩
  refine F.ok sc_Helper_part_done (fun vs H Q E h => ?_) (fun cdv A outer s H vs Q E hr h => ?_)
  · obtain ⟨_, _, _, _, _, _, _, _, rfl, _⟩ := h
    rfl
  · obtain ⟨q, h, k, d, t, a, ta, pt, rfl, hb, hx, hpt, pl, pc, kk⟩ := h
    obtain ⟨dx, hq⟩ := hb.ob
    have N := hb.ne
    have t0 : 0 ≤ t := hb.v.nn _ hx
    have klt : k < h.ring.length := Nat.lt_of_lt_of_le (hb.v.lt _ hx) hb.v.nxl
    obtain ⟨p, st, e1, e2, e3⟩ := hb.ss.get (show k < h.rps.length by rw [hb.ss.1]; exact klt)
    have est : stepAt h.ring k = st := by
      have := stepAt_get klt
      rw [e2] at this
      exact (Option.some.inj this).symm
    have hmem : st ∈ h.ring := List.mem_of_getElem? e2
    have sok := hb.v.ok st hmem
    obtain ⟨by0, by1⟩ := byte0_ok sok (t := t)
    have ek : (refsV h.rps)[k]? = some (V.ref p) := by rw [List.getElem?_map, e1]; rfl
    obtain ⟨xs, hp, _, _⟩ := step_shape (K := K) e3
    obtain ⟨qs, hta, ql, hqs⟩ := hpt
    have hfm : t.fmod 256 = t % 256 := Int.fmod_eq_emod_of_nonneg t (by decide)
    refine ⟨_, PSs.nox (pss_cons (ps_asg (pe_dget (hu_of hr) (pe_fld (pv 0) rfl) (pv 1) (fun _ _ => rfl)) (pg_tupK (K := K) (n := 2) rfl (pgs_cons (pg_name (i := 3) sc_Helper_part_done.nd rfl (Or.inl rfl)) (pgs_cons (pg_name (i := 4) sc_Helper_part_done.nd rfl (Or.inl rfl)) pgs_nil))))
      (pss_cons (ps_par (i := 5) (j := 6) rfl sc_Helper_part_done.nd rfl rfl (by decide) rfl rfl (pa_cons (pe_lst pa_nil) (pa_cons (pe_op op_modN (pv 4) pe_int) pa_nil)) (by rfl))
      (Evl.pss_cut (ps_if (pt_cmpR op_eq (pe_ix ix_tup (pe_ix ix_list (pe_fld (pv 0) rfl) (pv 1) (fun _ _ => rfl)) pe_int (fun _ _ => rfl)) pe_str (nomark _)) (pss_one (ps_set (i := 6) sc_Helper_part_done.nd rfl (Or.inl rfl) (pe_ix ix_tup (pe_ix ix_list (pe_fld (pv 0) rfl) (pv 1) (fun _ _ => rfl)) pe_int (fun _ _ => rfl)))) pss_nil)
      (pss_cons (ps_for PassesOwn.never rfl (pi_tup (pv 2)) (pg_tupK (K := K) (n := 2) rfl (pgs_cons (pg_name (i := 7) sc_Helper_part_done.nd rfl (Or.inl rfl)) (pgs_cons (pg_name (i := 8) sc_Helper_part_done.nd rfl (Or.inl rfl)) pgs_nil)))
        (pss_cons (ps_if (pt_cmpR op_eq (pv 7) pe_str (nomark _)) (pss_one (ps_set (i := 6) sc_Helper_part_done.nd rfl (Or.inl rfl) (pe_mth (pe_fld (pv 0) rfl) T.c_Store M_Store_read hr (pa_cons (pv 8) pa_nil)))) (pss_one (ps_expr (pe_mth (pe_fld (pv 0) rfl) T.c_Store M_Store_write hr (pa_cons (pv 8) (pa_cons (pv 6) pa_nil))))))
        (pss_one (ps_expr (pe_bm PySem.F.plainAttrs_list PySem.F.slot_list_append PySem.F.type_list_append mt_append (pv 5) (pa_cons (pe_tup (pa_cons (pv 3) (pa_cons (pv 7) (pa_cons (pv 8) (pa_cons (pv 6) pa_nil))))) pa_nil))))))
      (pss_cons (ps_dput (hu_of hr) (pe_fld (pv 0) rfl) (pv 1) (pe_tup (pa_cons (pe_op op_add (pv 3) pe_int) (pa_cons (pe_op op_add (pv 4) (pv 6)) pa_nil))) rfl)
      (pss_cons (ps_augS (pe_fld (pv 0) rfl) pe_int get_list pe_int ip_add set_list)
      (pss_one (ps_ret (pv 5))))))))), ?_⟩
    refine ⟨_, rfl, q, _, dx, _, _, rfl, hq, T.c_Helper, T.n_held_flying, rfl, _, rfl, h.y, .ref a, rfl, ?_, a, _, rfl, SqT.of (hb.ft _ hx), rfl, _, _, rfl, _, _, rfl, rfl, ?_⟩
    · rw [← valV_kF hb.v.inc hx rfl]
      exact DGet.k (k := Sum.inl (k : Int)) hb.fy
    refine ⟨by show 0 ≤ sizeLine; decide, fun l nl => ⟨_, rfl, _, _, rfl, rfl, (show (256 : Int) ≠ 0 by decide), _, _, rfl, ?_⟩⟩
    have s1 : Same H (upd H l (.lst [])) := same_new nl
    have hb1 := hb.same s1
    have hq1 := s1 _ _ hq
    have hp1 := s1 _ _ hp
    have nlS : l ∉ h.S q := hb.notS nl
    have ntup : ∀ {b : Addr} {vs : List V}, H b = some (.tup vs) → b ∉ [h.p, h.c, l] := fun {b vs} eb => by
      obtain ⟨dxp, ep⟩ := hb.st.ob
      simp only [List.mem_cons, List.not_mem_nil, or_false, not_or]
      exact ⟨ne_of eb ep (by intro z; cases z), ne_of eb hb.st.hc (by intro z; cases z), ne_of_none eb nl⟩
    have nta := ntup hta
    have nq : q ∉ [h.p, h.c, l] := by
      simp only [List.mem_cons, List.not_mem_nil, or_false, not_or]
      exact ⟨N.qp, N.qc, ne_of_none hq nl⟩
    refine ⟨fun σ' H' => H' = upd H l (.lst []) ∧ σ' = [some (.ref q), some (.int (k : Nat)), some (.ref ta), some (.int (d : Nat)), some (.int t), some (.ref l), some (.int (st.byte0 t)), none, none], ?_, ?_⟩
    · refine ⟨_, rfl, q, _, dx, _, _, rfl, hq1, T.c_Helper, T.n_held_ring, rfl, _, rfl, h.r, _, _, _, rfl, rfl, SqL.of hb1.rg, atI_nat ek, p, _, _, _, rfl, rfl, SqT.of hp1, atI_nat (j := 0) rfl, rfl, _, rfl, ?_⟩
      cases st with
      | fill A y n =>
        obtain ⟨pa, g1, g2⟩ := e3
        refine ite2 (fun _ => ?_) fun z => absurd (by rfl) z
        exact ⟨_, rfl, q, _, dx, _, _, rfl, hq1, T.c_Helper, T.n_held_ring, rfl, _, rfl, h.r, _, _, _, rfl, rfl, SqL.of hb1.rg, atI_nat ek, p, _, _, _, rfl, rfl, SqT.of (s1 _ _ g1), atI_nat (j := 2) rfl, rfl, rfl⟩
      | copy A B n =>
        refine ite2 (fun z => absurd z (show ¬ decide (V.str "copy" = V.str "fill") = true by decide +kernel)) fun _ => ?_
        exact ⟨rfl, by show _ = [_, _, _, _, _, _, some (V.int (t % 256)), _, _]; rw [← hfm]; rfl⟩
      | add A c =>
        refine ite2 (fun z => absurd z (show ¬ decide (V.str "add" = V.str "fill") = true by decide +kernel)) fun _ => ?_
        exact ⟨rfl, by show _ = [_, _, _, _, _, _, some (V.int (t % 256)), _, _]; rw [← hfm]; rfl⟩
      | note f =>
        refine ite2 (fun z => absurd z (show ¬ decide (V.str "note" = V.str "fill") = true by decide +kernel)) fun _ => ?_
        exact ⟨rfl, by show _ = [_, _, _, _, _, _, some (V.int (t % 256)), _, _]; rw [← hfm]; rfl⟩
      | fence =>
        refine ite2 (fun z => absurd z (show ¬ decide (V.str "fence" = V.str "fill") = true by decide +kernel)) fun _ => ?_
        exact ⟨rfl, by show _ = [_, _, _, _, _, _, some (V.int (t % 256)), _, _]; rw [← hfm]; rfl⟩
    · rintro σ H1 ⟨rfl, rfl⟩
      refine ⟨_, rfl, ta, rfl, ⟨_, SqT.of (s1 _ _ hta)⟩, for_it (walk_tup (xs := refsV qs)) (fun i σ H2 => ∃ zi ys x8 x9, HB K H2 q { h with m := ((pt.take i).foldl tch (h.m, st.byte0 t)).1, z := zi } ∧
          σ = [some (.ref q), some (.int (k : Nat)), some (.ref ta), some (.int (d : Nat)), some (.int t), some (.ref l), some (.int ((pt.take i).foldl tch (h.m, st.byte0 t)).2), x8, x9] ∧ H2 l = some (.lst ys) ∧ ys.length = i ∧ KeepX [h.p, h.c, l] (upd H l (.lst [])) H2)
        ⟨h.z, [], none, none, hb1, rfl, upd_same, rfl, KeepX.refl _ _⟩ (fun i σ H2 _ p => ?_) (fun i x σ H2 H3 hi p y => ?_) (fun σ H2 p => ?_)⟩
      · obtain ⟨zi, ys, x8, x9, _, _, _, _, k2⟩ := p
        exact SqT.of (k2 _ _ (s1 _ _ hta) nta)
      · obtain ⟨zi, ys, x8, x9, hb2, rfl, hl2, yl, k2⟩ := p
        rw [List.length_map] at hi
        obtain ⟨rfl, ex⟩ := y
        rw [List.getElem?_map] at ex
        obtain ⟨q0, eq0, rfl⟩ := Option.map_eq_some_iff.mp ex
        have hi2 : i < pt.length := ql ▸ hi
        have etc : pt[i]? = some pt[i] := List.getElem?_eq_getElem hi2
        have tq := hqs i q0 _ eq0 etc
        have tcl := pc _ (List.getElem_mem hi2)
        generalize pt[i] = tc at etc tq tcl
        have tq2 : H3 q0 = some (.tup [.str (if tc.1 then "w" else "r"), .int (tc.2 : Nat)]) := k2 _ _ (s1 _ _ tq) (ntup tq)
        obtain ⟨ab, b0, b1⟩ := fold_byte (pt.take i) (h.m, st.byte0 t) hb.st.b by0 by1
        have fl0 : ((pt.take i).foldl tch (h.m, st.byte0 t)).1.length = h.m.length := fold_len _ _
        have Fs : (pt.take (i + 1)).foldl tch (h.m, st.byte0 t) = tch ((pt.take i).foldl tch (h.m, st.byte0 t)) tc := by
          rw [List.take_add_one, etc, List.foldl_append]
          rfl
        generalize (pt.take i).foldl tch (h.m, st.byte0 t) = F at hb2 Fs ab b0 b1 fl0 ⊢
        have hq2 := k2 _ _ hq1 nq
        obtain ⟨dxp, hpp⟩ := hb2.st.ob
        have ylen : ys.length < sizeLine := by rw [sizeLine_eq]; omega
        refine ⟨q0, _, rfl, SqT.of tq2, rfl, _, _, rfl, _, _, rfl, rfl, ?_⟩
        obtain ⟨tw, tcn⟩ := tc
        cases tw with
        | false =>
          refine ⟨_, rfl, rfl, _, rfl, ite2 (fun _ => ?_) fun z => absurd (by rfl) z⟩
          refine ⟨_, rfl, q, _, dx, _, _, rfl, hq2, T.c_Helper, T.n_held_store, rfl, h.p, dxp, _, rfl, hpp, rfl, _, rfl, h.p, h.c, h.f, F.1, h.fl, zi, tcn, rfl, hb2.st, by omega, ?_⟩
          refine ⟨_, rfl, .inl ⟨rfl, _, SqL.of hl2⟩, _, rfl, _, rfl, _, rfl, _, rfl, by show 4 ≤ sizeLine; decide, fun t1 nt1 => ?_⟩
          have s3 := same_new (o := .tup [.int (d : Nat), .str "r", .int (tcn : Nat), .int (F.1.getD tcn 0)]) nt1
          refine ⟨l, ys, _, rfl, rfl, s3 _ _ hl2, ylen, zi, ys ++ [_], _, _, ?_, by rw [Fs]; rfl, upd_same, by rw [List.length_append, yl]; rfl, (k2.same s3).upd (by simp)⟩
          rw [Fs]
          exact ((hb2.same s3).off (S := [l]) ((KeepX.refl _ _).upd (by simp)) (fun a ha z => nlS (by rw [← List.mem_singleton.mp z]; exact ha)) (tk_upd (s3 _ _ hl2) (by intro xs z; cases z)))
        | true =>
          refine ⟨_, rfl, rfl, _, rfl, ite2 (fun z => absurd z (show ¬ decide (V.str "w" = V.str "r") = true by decide +kernel)) fun _ => ?_⟩
          refine ⟨_, rfl, q, _, dx, _, _, rfl, hq2, T.c_Helper, T.n_held_store, rfl, h.p, dxp, _, rfl, hpp, rfl, _, rfl, _, rfl, h.p, h.c, h.f, F.1, h.fl, zi, tcn, F.2, rfl, hb2.st, by omega, b0, b1, fun H4 S4 k4 => ?_⟩
          have hb4 := hb2.setStore S4 (k4.mono (by simp)) (by rw [List.length_set])
          have hl4 : H4 l = some (.lst ys) := k4 _ _ hl2 (by simpa using ⟨fun z => nlS (by rw [z]; simp), fun z => nlS (by rw [z]; simp)⟩)
          refine ⟨_, rfl, .inl ⟨rfl, _, SqL.of hl4⟩, _, rfl, _, rfl, _, rfl, _, rfl, by show 4 ≤ sizeLine; decide, fun t1 nt1 => ?_⟩
          have s3 := same_new (o := .tup [.int (d : Nat), .str "w", .int (tcn : Nat), .int F.2]) nt1
          refine ⟨l, ys, _, rfl, rfl, s3 _ _ hl4, ylen, zi + 1, ys ++ [_], _, _, ?_, by rw [Fs]; rfl, upd_same, by rw [List.length_append, yl]; rfl, ((k2.trans (k4.mono (by simp))).same s3).upd (by simp)⟩
          rw [Fs]
          exact ((hb4.same s3).off (S := [l]) ((KeepX.refl _ _).upd (by simp)) (fun a ha z => nlS (by rw [← List.mem_singleton.mp z]; exact ha)) (tk_upd (s3 _ _ hl4) (by intro xs z; cases z)))
      · obtain ⟨zi, ys, x8, x9, hb2, rfl, hl2, yl, k2⟩ := p
        rw [List.length_map, ql] at yl hb2
        rw [List.length_map, ql]
        rw [List.take_length] at hb2 ⊢
        obtain ⟨ab, b0, b1⟩ := fold_byte pt (h.m, st.byte0 t) hb.st.b by0 by1
        have pe : part (stepAt h.ring k) (h.m, t) pt = ((pt.foldl tch (h.m, st.byte0 t)).1, t + (pt.foldl tch (h.m, st.byte0 t)).2) := by rw [est]; rfl
        rw [pe] at kk
        generalize pt.foldl tch (h.m, st.byte0 t) = F at hb2 ab b0 b1 kk ⊢
        have hq2 := k2 _ _ hq1 nq
        refine ⟨_, rfl, _, _, rfl, rfl, _, rfl, _, rfl, _, _, rfl, rfl, by show 2 ≤ sizeLine; decide, fun a' na' => ?_⟩
        have s3 := same_new (o := .tup [.int ((d : Int) + 1), .int (t + F.2)]) na'
        have hb3 := hb2.same s3
        have hq3 := s3 _ _ hq2
        refine ⟨_, rfl, q, _, dx, _, _, rfl, hq3, T.c_Helper, T.n_held_flying, rfl, _, rfl, h.y, _, rfl, DPut.k (k := Sum.inl (k : Int)) hb3.fy ?_, ?_⟩
        · rw [List.length_map, sizeLine_eq]
          have := hb.v.cnt
          have := hb.v.nxl
          have := hb.v.len
          show h.fa.length < _
          omega
        have hb4 := hb3.setFly (fa := movA k (d + 1) (t + F.2) a' h.fa) (putK_kF hx rfl) (fun x hx' => by
          rcases movA_mem hx' with ⟨e, _⟩ | ⟨g, _⟩
          · subst e
            exact upd_same
          · exact hb3.ft x g) (hb3.v.movA (by omega))
        have hq4 : (upd (upd H2 a' (.tup [.int ((d : Int) + 1), .int (t + F.2)])) h.y (.dK (putK (h.fa.map kF) (Sum.inl (k : Int)) (.ref a')))) q = some (.ins (He.ga K "Helper") dx (hfl h)) := by rw [upd_ne N.qy]; exact hq3
        refine ⟨_, rfl, q, _, dx, _, _, rfl, hq4, T.c_Helper, T.n_held_counts, rfl, h.ct, _, 2, _, rfl, rfl, SqL.of hb4.ct, rfl, _, _, rfl, rfl, h.ct, _, _, 2, rfl, rfl, hb4.ct, rfl, ?_⟩
        have hb5 := hb4.setCounts (a0 := h.k0) (a1 := h.k1) (a2 := h.k2 + 1) (a3 := h.k3) rfl
        have kp : KeepX (l :: h.S q) (upd H l (.lst [])) _ := (((k2.mono (S' := l :: h.S q) (fun b hb' => by
          simp only [List.mem_cons, List.not_mem_nil, or_false] at hb' ⊢
          rcases hb' with z | z | z <;> simp [z])).same s3).upd (p := h.y) (o := .dK (putK (h.fa.map kF) (Sum.inl (k : Int)) (.ref a'))) (by simp)).upd (p := h.ct) (o := .lst [.int h.k0, .int h.k1, .int (h.k2 + 1), .int h.k3]) (by simp)
        have hl5 : ∀ o1 o2, (upd (upd (upd H2 a' (.tup [.int ((d : Int) + 1), .int (t + F.2)])) h.y o1) h.ct o2) l = some (.lst ys) := fun o1 o2 => by
          rw [upd_ne (fun z => nlS (by rw [z]; simp)), upd_ne (fun z => nlS (by rw [z]; simp))]
          exact s3 _ _ hl2
        refine ⟨_, rfl, kk _ a' l ys zi hb5 (fun b o e nb => ?_) nl (hl5 _ _) yl⟩
        have nbl : b ≠ l := ne_of_none e nl
        exact kp b o (s1 _ _ e) (by
          intro z
          rcases List.mem_cons.mp z with z | z
          · exact nbl z
          · exact nb z)
end
end Hl
end

section
set_option Elab.async false
set_option linter.all false
set_option maxRecDepth 100000
set_option maxHeartbeats 8000000
namespace Hl
open PySem PySem.Spec PyProof.Rows L2
theorem Area.Ok.cell' {n : Nat} {a : Area} (h : a.Ok n) {k c : Nat} (hc : c ∈ a.cells.drop k) : c < n := h.cell (List.mem_of_mem_drop hc)
theorem part_cells {s : Step} {n : Nat} (ok : s.Ok n) {p : Part} (hp : p ∈ s.parts) {y : Bool × Nat} (hy : y ∈ p) : y.2 < n := by
  have hf : y ∈ s.parts.flatten := List.mem_flatten.mpr ⟨p, hp, hy⟩
  rcases s.touch hf with ⟨_, h⟩ | ⟨_, h⟩
  · cases s with
    | copy a b k => exact ok.1.cell' h
    | fill a v k => cases h
    | add a c => exact ok.1.cell h
    | note f => cases h
    | fence => cases h
  · cases s with
    | copy a b k => exact ok.2.1.cell' h
    | fill a v k => exact ok.1.cell' h
    | add a c =>
      have e : y.2 = c := List.mem_singleton.mp h
      rw [e]
      exact ok.2
    | note f => cases h
    | fence => cases h
theorem part_len2 {s : Step} {p : Part} (hp : p ∈ s.parts) : p.length ≤ 2 := by
  cases s with
  | copy a b k =>
    obtain ⟨x, _, rfl⟩ := List.mem_map.mp hp
    exact Nat.le_refl 2
  | fill a v k =>
    obtain ⟨x, _, rfl⟩ := List.mem_map.mp hp
    exact Nat.le_succ 1
  | add a c =>
    rcases List.mem_append.mp hp with hp | hp
    · obtain ⟨x, _, rfl⟩ := List.mem_map.mp hp
      exact Nat.le_succ 1
    · rw [List.mem_singleton.mp hp]
      exact Nat.le_succ 1
  | note f => rw [List.mem_singleton.mp hp]; exact Nat.zero_le _
  | fence => rw [List.mem_singleton.mp hp]; exact Nat.zero_le _
theorem cutV_mid (xs : List V) (d B : Nat) (h : d ≤ xs.length) : cutV xs (some (d : Int)) (some ((d + B : Nat) : Int)) = (xs.drop d).take B := by
  unfold cutV
  rw [HT.sIx_nat, HT.sIx_nat, Nat.min_eq_left h]
  by_cases c : d + B ≤ xs.length
  · rw [Nat.min_eq_left c, Nat.add_sub_cancel_left]
  · rw [Nat.min_eq_right (by omega), List.take_of_length_le (by rw [List.length_drop]; omega), List.take_of_length_le (by rw [List.length_drop]; omega)]
theorem inc_uniq {k : Nat} : ∀ {fa : List (Fl × Addr)}, fa.Pairwise (fun a b => a.1.1 < b.1.1) → ∀ {x y : Fl × Addr}, x ∈ fa → y ∈ fa → x.1.1 = k → y.1.1 = k → x = y
  | [], _, _, _, h, _, _, _ => by cases h
  | z :: r, hp, x, y, hx, hy, ex, ey => by
    obtain ⟨h1, h2⟩ := List.pairwise_cons.mp hp
    rcases List.mem_cons.mp hx with a | a
    · rcases List.mem_cons.mp hy with b | b
      · rw [a, b]
      · have := h1 y b
        rw [← a] at this
        omega
    · rcases List.mem_cons.mp hy with b | b
      · have := h1 x a
        rw [← b] at this
        omega
      · exact inc_uniq h2 a b ex ey
theorem filt_same {k d : Nat} {t : Int} : ∀ l : List Fl, (l.map fun f => if f.1 = k then (k, d, t) else f).filter (fun f => decide (f.1 ≠ k)) = l.filter fun f => decide (f.1 ≠ k)
  | [] => rfl
  | f :: r => by
    rw [List.map_cons]
    by_cases c : f.1 = k
    · rw [if_pos c, List.filter_cons_of_neg (by simp), List.filter_cons_of_neg (by simp [c])]
      exact filt_same r
    · rw [if_neg c, List.filter_cons_of_pos (by simp [c]), List.filter_cons_of_pos (by simp [c]), filt_same r]
theorem HB.ntup {K : PySem.W.Frag} {H : Hp} {q : Addr} {h : Hd} (b : HB K H q h) {a : Addr} {vs : List V} (e : H a = Option.some (.tup vs)) : a ∉ h.S q := by
  obtain ⟨dx, e1⟩ := b.ob
  obtain ⟨dxp, e2⟩ := b.st.ob
  simp only [List.mem_cons, List.not_mem_nil, or_false, not_or]
  exact ⟨ne_of e e1 (by intro z; cases z), ne_of e e2 (by intro z; cases z), ne_of e b.rg (by intro z; cases z), ne_of e b.fy (by intro z; cases z), ne_of e b.dn (by intro z; cases z), ne_of e b.ct (by intro z; cases z), ne_of e b.st.hc (by intro z; cases z), ne_of e b.st.hf (by intro z; cases z)⟩
def sp_Helper_move (K : PySem.W.Frag) : Sp := fun vs H Q _ => ∃ q h k d t a, vs = [.ref q, .int (k : Nat)] ∧ HB K H q h ∧ ((k, d, t), a) ∈ h.fa ∧ d < (stepAt h.ring k).parts.length ∧
  ∀ H' fa' dn' k1' k2' z' r, HB K H' q { h with fa := fa', m := (runP (stepAt h.ring k) (((stepAt h.ring k).parts.drop d).take h.B) (h.m, t)).1, done := dn', k1 := k1', k2 := k2', k3 := h.k3 + 1, z := z' } →
    fa'.map (·.1) = moved h.ring k (d + (((stepAt h.ring k).parts.drop d).take h.B).length) (runP (stepAt h.ring k) (((stepAt h.ring k).parts.drop d).take h.B) (h.m, t)).2 h.fly → KeepX (h.S q) H H' → Q (.ref r) H'
section
variable {P : Program} {w : World} {K : PySem.W.Frag} {mg : Str → Option Value} {base : Heap}
abbrev N_Helper_move : List Str := ["self", "number", "found", "begun", "parts", "part", "touches", "bad", "touch"]
theorem sc_Helper_move : FnScope N_Helper_move ["self", "number"] (defScope s_Helper_move) := ⟨rfl, rfl, rfl, by decide +kernel, rfl, by decide +kernel, by decide +kernel⟩
theorem M_Helper_move (T : Txt K mg) (TW : TxtW K w) : MethAt P w K mg base (He.ga K "Helper") "move" 5 ["self", "number"] (sp_Helper_move K) := by
  obtain ⟨fd, F⟩ := T.f_Helper_move
  have D_all_touches := D_all_touches (P := P) (w := w) (base := base) T TW
  have M_Helper_may_touch := M_Helper_may_touch (P := P) (w := w) (base := base) T TW
  have M_Helper_part_done := M_Helper_part_done (P := P) (w := w) (base := base) T TW
  have M_Helper_end_step := M_Helper_end_step (P := P) (w := w) (base := base) T TW
  refine ⟨He.fAd K ("Helper", some "move"), fd, T.m_Helper_move, F.bindsN (fun _ _ _ _ _ _ us hl => match us, hl with | [_, _], _ => rfl), ?_⟩
  refine F.ok sc_Helper_move (fun vs H Q E h => ?_) (fun cdv A outer s H vs Q E hr h => ?_)
  · obtain ⟨_, _, _, _, _, _, rfl, _⟩ := h
    rfl
  · obtain ⟨q, h, k, d, t, a, rfl, hb, hx, hd, kk⟩ := h
    obtain ⟨dx, hq⟩ := hb.ob
    have N := hb.ne
    have t0 : 0 ≤ t := hb.v.nn _ hx
    have klt : k < h.ring.length := Nat.lt_of_lt_of_le (hb.v.lt _ hx) hb.v.nxl
    obtain ⟨p, st, e1, e2, e3⟩ := hb.ss.get (show k < h.rps.length by rw [hb.ss.1]; exact klt)
    have est : stepAt h.ring k = st := by
      have := stepAt_get klt
      rw [e2] at this
      exact (Option.some.inj this).symm
    rw [est] at hd kk
    have hmem : st ∈ h.ring := List.mem_of_getElem? e2
    have sok := hb.v.ok st hmem
    have sokm := hb.v.okm st hmem
    have ek : (refsV h.rps)[k]? = some (V.ref p) := by rw [List.getElem?_map, e1]; rfl
    have vk := valV_kF hb.v.inc hx rfl
    have dg : ∀ {H' : Hp}, H' h.y = some (.dK (h.fa.map kF)) → DGet H' h.y (.int (k : Nat)) (some (.ref a)) := fun e => by
      rw [← vk]
      exact DGet.k (k := Sum.inl (k : Int)) e
    refine ⟨_, PSs.nox (pss_cons (ps_if (PW.pt (pw_or (pt_not (pt_val (pe_callB call_isA (by rfl) T.r_isinstance (by decide +kernel) (pa_cons (pv 1) (pa_cons (pe_bltn (v := .ty "int") (by rfl) T.r_int (by decide +kernel) rfl) pa_nil))))) (pw_or (pt_val (pe_callB call_isA (by rfl) T.r_isinstance (by decide +kernel) (pa_cons (pv 1) (pa_cons (pe_bltn (v := .ty "bool") (by rfl) T.r_bool (by decide +kernel) rfl) pa_nil)))) (pw_or1 (pt_cmp (pc_dnotin (hu_of hr) (pv 1) (pe_fld (pv 0) rfl))))))) (pss_one ps_never) pss_nil)
      (pss_cons (ps_if (pt_cmpR op_notN (pe_fld (pv 0) rfl) pe_non (nomark _)) (pss_one ps_never) pss_nil)
      (pss_cons (ps_augS (pe_fld (pv 0) rfl) pe_int get_list pe_int ip_add set_list)
      (pss_cons (ps_par (i := 2) (j := 3) rfl sc_Helper_move.nd rfl rfl (by decide) rfl rfl (pa_cons (pe_lst pa_nil) (pa_cons (pe_ix ix_tup (pe_dget (hu_of hr) (pe_fld (pv 0) rfl) (pv 1) (fun _ _ => rfl)) pe_int (fun _ _ => rfl)) pa_nil)) (by rfl))
      (pss_cons (ps_set (i := 4) sc_Helper_move.nd rfl (Or.inl rfl) (pe_def D_all_touches hr (by rfl) (pa_cons (pe_ix ix_list (pe_fld (pv 0) rfl) (pv 1) (fun _ _ => rfl)) pa_nil)))
      (pss_cons (ps_for PassesOwn.never rfl (pi_list (pe_slice sl_list (pe_listEnum rfl (by rfl) T.r_list (by rfl) T.r_enumerate (pa_cons (pv 4) pa_nil)) (po_some (pv 3)) (po_some (pe_op op_add (pv 3) (pe_fld (pv 0) rfl))))) (pg_tupK (K := K) (n := 2) rfl (pgs_cons (pg_name (i := 5) sc_Helper_move.nd rfl (Or.inl rfl)) (pgs_cons (pg_name (i := 6) sc_Helper_move.nd rfl (Or.inl rfl)) pgs_nil)))
        (pss_cons (ps_setLc (i := 7) (own := [("touch", 8)]) (g := (gName 8)) rfl sc_Helper_move.nd rfl rfl (sw_true rfl rfl rfl (by decide +kernel)) (pi_tup (pv 6)) (blkOk_by (own := [("touch", 8)]) (N := N_Helper_move) (sc := defScope s_Helper_move) (by decide +kernel)) (fun _ _ _ _ _ => (pg_name (i := 8) sc_Helper_move.nd rfl (Or.inl rfl))) (fun _ _ _ _ _ => pts_one (pt_not (pt_val (pe_mth (pv 0) T.c_Helper M_Helper_may_touch hr (pa_cons (pe_ix (ix_tupK (K := K)) (pv 8) pe_int (fun _ _ => rfl)) (pa_cons (pe_ix (ix_tupK (K := K)) (pv 8) pe_int (fun _ _ => rfl)) pa_nil)))))) (fun _ _ _ _ _ => (pv 8)))
        (pss_cons (ps_if (pt_cmpR (op_neL0 hr.units) (pv 7) (pe_lst pa_nil) (nomark _)) (pss_cons (ps_fld (pv 0) (pe_op op_catT (pe_tup (pa_cons (pv 1) (pa_cons (pv 5) pa_nil))) (pe_ix ix_list (pv 7) pe_int (fun _ _ => rfl))) rfl)
          (pss_one (ps_ret (pe_callTy call_tuple_of (by rfl) T.r_tuple (by decide +kernel) (pa_cons (pv 2) pa_nil))))) pss_nil)
        (pss_one (ps_expr (pe_bm PySem.F.plainAttrs_list PySem.F.slot_list_extend PySem.F.type_list_extend mt_extend (pv 2) (pa_cons (pe_mth (pv 0) T.c_Helper M_Helper_part_done hr (pa_cons (pv 1) (pa_cons (pv 6) pa_nil))) pa_nil)))))))
      (Evl.pss_cut (ps_if (pt_cmpR op_eq (pe_ix ix_tup (pe_dget (hu_of hr) (pe_fld (pv 0) rfl) (pv 1) (fun _ _ => rfl)) pe_int (fun _ _ => rfl)) (pe_callB call_len_seq (by rfl) T.r_len (by decide +kernel) (pa_cons (pv 4) pa_nil)) (nomark _)) (pss_cons (ps_expr (pe_dpop1 (pe_fld (pv 0) rfl) (pv 1) ⟨rfl, rfl, rfl, rfl⟩))
        (pss_one (ps_expr (pe_mth (pv 0) T.c_Helper M_Helper_end_step hr (pa_cons (pv 1) pa_nil))))) pss_nil)
      (pss_one (ps_ret (pe_callTy call_tuple_of (by rfl) T.r_tuple (by decide +kernel) (pa_cons (pv 2) pa_nil))))))))))), ?_⟩
    refine ⟨_, rfl, _, _, _, rfl, .int _, true, rfl, iteF ?_⟩
    refine ⟨_, rfl, _, _, _, rfl, .intB _, false, rfl, iteF ?_⟩
    refine ⟨_, rfl, _, rfl, q, _, dx, _, _, rfl, hq, T.c_Helper, T.n_held_flying, rfl, h.y, _, rfl, dg hb.fy, _, rfl, iteF ?_⟩
    refine ⟨_, rfl, q, _, dx, _, _, rfl, hq, T.c_Helper, T.n_held_out, rfl, rfl, _, rfl, iteF ?_⟩
    refine ⟨_, rfl, q, _, dx, _, _, rfl, hq, T.c_Helper, T.n_held_counts, rfl, h.ct, _, 3, _, rfl, rfl, SqL.of hb.ct, rfl, _, _, rfl, rfl, h.ct, _, _, 3, rfl, rfl, hb.ct, rfl, ?_⟩
    have hb1 := hb.setCounts (a0 := h.k0) (a1 := h.k1) (a2 := h.k2) (a3 := h.k3 + 1) rfl
    have hq1 : (upd H h.ct (.lst [.int h.k0, .int h.k1, .int h.k2, .int (h.k3 + 1)])) q = some (.ins (He.ga K "Helper") dx (hfl h)) := by rw [upd_ne N.qct]; exact hq
    have kp1 : KeepX (h.S q) H (upd H h.ct (.lst [.int h.k0, .int h.k1, .int h.k2, .int (h.k3 + 1)])) := (KeepX.refl _ H).upd (by simp)
    refine ⟨by show 0 ≤ sizeLine; decide, fun lf nlf => ?_⟩
    have s2 := same_new (o := .lst []) nlf
    have hb2 := hb1.same s2
    have hq2 := s2 _ _ hq1
    have hl2 := upd_same (H := upd H h.ct (.lst [.int h.k0, .int h.k1, .int h.k2, .int (h.k3 + 1)])) (a := lf) (o := .lst [])
    have kp2 := kp1.same s2
    have nlfS : lf ∉ h.S q := hb1.notS nlf
    have nlfH : H lf = none := by
      cases e : H lf with
      | none => rfl
      | some o =>
        exact absurd ((kp1 _ _ e nlfS).symm.trans nlf) (by simp)
    refine ⟨_, rfl, q, _, dx, _, _, rfl, hq2, T.c_Helper, T.n_held_flying, rfl, _, rfl, h.y, .ref a, rfl, dg hb2.fy, a, _, _, _, rfl, rfl, SqT.of (hb2.ft _ hx), atI_nat (j := 0) rfl, _, _, rfl, ?_⟩
    refine ⟨_, rfl, q, _, dx, _, _, rfl, hq2, T.c_Helper, T.n_held_ring, rfl, _, rfl, h.r, _, _, _, rfl, rfl, SqL.of hb2.rg, atI_nat ek, p, st, rfl, hb2.ss.2 _ _ _ e1 e2, sok, fun H3 lp ts s3 nlp hlp hP => ?_⟩
    have hb3 := hb2.same s3
    have hq3 := s3 _ _ hq2
    have hl3 := s3 _ _ hl2
    have kp3 := kp2.same s3
    have plen : ts.length = st.parts.length := hP.1
    have seven : st.parts.length ≤ 7 := by
      cases st with
      | copy A B n =>
        show (((A.cells.zip B.cells).drop n).map _).length ≤ 7
        have := sok.1.size_six
        rw [← A.cells_len] at this
        rw [List.length_map, List.length_drop, List.length_zip]
        omega
      | fill A y n =>
        show ((A.cells.drop n).map _).length ≤ 7
        have := sok.1.size_six
        rw [← A.cells_len] at this
        rw [List.length_map, List.length_drop]
        omega
      | add A c =>
        show ((A.cells.map _) ++ _).length ≤ 7
        have := sok.1.size_six
        rw [← A.cells_len] at this
        rw [List.length_append, List.length_map, List.length_singleton]
        omega
      | note f => exact (by decide : 1 ≤ 7)
      | fence => exact (by decide : 1 ≤ 7)
    refine ⟨_, rfl, lp, _, rfl, SqL.of hlp, by rw [List.length_map]; omega, fun H4 le us s4 nle hle hnot pr => ?_⟩
    have hb4 := hb3.same s4
    have hq4 := s4 _ _ hq3
    have hl4 := s4 _ _ hl3
    have kp4 := kp3.same s4
    have ulen : us.length = ts.length := by
      have := Paired.length pr
      rw [this, enumPairs_len, List.length_map]
    have hlp4 := s4 _ _ hlp
    refine ⟨_, rfl, _, rfl, _, rfl, _, rfl, q, _, dx, _, _, rfl, hq4, T.c_Helper, T.n_held_burst, rfl, _, _, rfl, rfl, _, rfl, le, _, rfl, SqL.of hle, fun l2 nl2 => ?_⟩
    have cm : cutV (refsV us) (some (d : Int)) (some ((d : Int) + (h.B : Int))) = refsV ((us.drop d).take h.B) := by
      have := cutV_mid (refsV us) d h.B (by rw [List.length_map]; omega)
      rw [show ((d : Int) + (h.B : Int)) = ((d + h.B : Nat) : Int) from rfl, this]
      exact (List.map_take.trans (congrArg (List.take h.B) List.map_drop)).symm
    rw [cm]
    have s5 := same_new (o := .lst (refsV ((us.drop d).take h.B))) nl2
    have hb5 := hb4.same s5
    have hq5 := s5 _ _ hq4
    have hl5 := s5 _ _ hl4
    have hlp5 := s5 _ _ hlp4
    have kp5 := kp4.same s5
    have hsl := upd_same (H := H4) (a := l2) (o := .lst (refsV ((us.drop d).take h.B)))
    have hP5 : PartsAt _ ts st.parts := hP.tk (Same.trans s4 s5).tk
    have pr5 : ∀ (i : Nat) (u : Addr), us[i]? = some u → ∃ tp, ts[i]? = some tp ∧ (upd H4 l2 (.lst (refsV ((us.drop d).take h.B)))) u = some (.tup [.int (i : Nat), .ref tp]) := fun i u eu => by
      obtain ⟨pq, epq, hpq⟩ := LiI.paired_get pr eu
      have hi : i < ts.length := ulen ▸ (List.getElem?_eq_some_iff.mp eu).1
      rw [enumPairs_get (x := V.ref ts[i]) (by rw [List.getElem?_map, List.getElem?_eq_getElem hi]; rfl)] at epq
      cases epq
      exact ⟨ts[i], List.getElem?_eq_getElem hi, s5 _ _ hpq⟩
    have nl2S : l2 ∉ lf :: h.S q := fun z => by
      rcases List.mem_cons.mp z with z | z
      · exact (ne_of_none hl4 nl2).symm z
      · exact hb4.notS nl2 z
    generalize upd H4 l2 (.lst (refsV ((us.drop d).take h.B))) = H5 at hb5 hq5 hl5 hlp5 kp5 hsl hP5 pr5 ⊢
    have psl : ((st.parts.drop d).take h.B).length = ((us.drop d).take h.B).length := by
      rw [List.length_take, List.length_take, List.length_drop, List.length_drop, ulen, plen]
    have hlS : ∀ b, b ∈ (lf :: h.S q) → b = lf ∨ b ∈ h.S q := fun b hb => List.mem_cons.mp hb
    refine ⟨l2, rfl, ⟨_, SqL.of hsl⟩, for_it (walk_list (xs := refsV ((us.drop d).take h.B))) (fun i σ H6 => ∃ fa ai zi ys x5 x6 x7, HB K H6 q { h with fa := fa, m := (runP st (((st.parts.drop d).take h.B).take i) (h.m, t)).1, k2 := h.k2 + i, k3 := h.k3 + 1, z := zi } ∧
        ((k, d + i, (runP st (((st.parts.drop d).take h.B).take i) (h.m, t)).2), ai) ∈ fa ∧ fa.map (·.1) = h.fly.map (fun f => if f.1 = k then (k, d + i, (runP st (((st.parts.drop d).take h.B).take i) (h.m, t)).2) else f) ∧ fa.length = h.fa.length ∧
        σ = [some (.ref q), some (.int (k : Nat)), some (.ref lf), some (.int (d : Nat)), some (.ref lp), x5, x6, x7, none] ∧ H6 lf = some (.lst ys) ∧ ys.length ≤ 2 * i ∧ KeepX (lf :: h.S q) H5 H6)
      ⟨h.fa, a, h.z, [], none, none, none, ?_, hx, ?_, rfl, rfl, hl5, Nat.le_refl _, KeepX.refl _ _⟩ (fun i σ H6 _ p => ?_) (fun i x σ H6 H7 hi p y => ?_) (fun σ H6 p => ?_)⟩
    · have e0 : h.k2 + ((0 : Nat) : Int) = h.k2 := Int.add_zero _
      rw [e0]
      exact hb5
    · show h.fa.map (·.1) = (h.fa.map (·.1)).map _
      rw [List.map_map]
      refine List.map_congr_left fun x0 hx0 => ?_
      show x0.1 = if x0.1.1 = k then (k, d + 0, t) else x0.1
      by_cases c : x0.1.1 = k
      · rw [if_pos c]
        rw [inc_uniq hb.v.inc hx0 hx c rfl]
        rfl
      · rw [if_neg c]
    · obtain ⟨fa, ai, zi, ys, x5, x6, x7, _, _, _, _, _, _, _, k6⟩ := p
      exact SqL.of (k6 _ _ hsl nl2S)
    · obtain ⟨fa, ai, zi, ys, x5, x6, x7, hb6, hx6, hfl, hflen, rfl, hl6, yl, k6⟩ := p
      rw [List.length_map] at hi
      obtain ⟨rfl, ex⟩ := y
      rw [List.getElem?_map] at ex
      obtain ⟨u0, eu0, rfl⟩ := Option.map_eq_some_iff.mp ex
      have eu1 : us[d + i]? = some u0 := by
        rw [List.getElem?_take] at eu0
        split at eu0
        · rwa [List.getElem?_drop] at eu0
        · cases eu0
      obtain ⟨tp, etp, hu0⟩ := pr5 _ _ eu1
      have epi : ((st.parts.drop d).take h.B)[i]? = some ((st.parts.drop d).take h.B)[i] := List.getElem?_eq_getElem (by rw [psl]; exact hi)
      generalize ((st.parts.drop d).take h.B)[i] = pt at epi
      have epd : st.parts[d + i]? = some pt := by
        rw [List.getElem?_take] at epi
        split at epi
        · rwa [List.getElem?_drop] at epi
        · cases epi
      have ntup5 : ∀ {b : Addr} {vs : List V}, H5 b = some (.tup vs) → b ∉ lf :: h.S q := fun {b vs} e z => by
        rcases List.mem_cons.mp z with z | z
        · exact ne_of e hl5 (by intro z; cases z) z
        · exact hb5.ntup e z
      have tk6 : TK H5 H7 := fun b xs e => k6 _ _ e (ntup5 e)
      have pat5 := hP5.2 _ _ _ etp epd
      have pat : PartAt H7 tp pt := pat5.tk tk6
      have ptm : pt ∈ st.parts := List.mem_of_getElem? epd
      obtain ⟨dx6, hq6⟩ := hb6.ob
      have Rs : runP st (((st.parts.drop d).take h.B).take (i + 1)) (h.m, t) = part st (runP st (((st.parts.drop d).take h.B).take i) (h.m, t)) pt := by
        rw [List.take_add_one, epi, runP_append]
        rfl
      have ml : (runP st (((st.parts.drop d).take h.B).take i) (h.m, t)).1.length = h.m.length := (runP_byte sok _ hb.st.b t0).2.2
      generalize runP st (((st.parts.drop d).take h.B).take i) (h.m, t) = R at hb6 hx6 hfl Rs ml ⊢
      obtain ⟨qs, htp, ql, hqs⟩ := id pat
      refine ⟨u0, _, rfl, SqT.of (tk6 _ _ hu0), rfl, _, _, rfl, _, _, rfl, rfl, ?_⟩
      refine ⟨_, rfl, tp, rfl, ⟨_, SqT.of htp⟩, fun D nD => ?_⟩
      refine lc_it (walk_tup (xs := refsV qs)) (fun j H8 => Same H7 H8 ∧ H8 D = some (.lst [])) ⟨same_new nD, upd_same⟩ (fun _ H8 _ p => SqT.of (p.1 _ _ htp)) (fun j x H8 H9 hj p y => ?_) (fun H8 p => ?_)
      · obtain ⟨s8, hD⟩ := p
        rw [List.length_map] at hj
        obtain ⟨rfl, ex⟩ := y
        rw [List.getElem?_map] at ex
        obtain ⟨q0, eq0, rfl⟩ := Option.map_eq_some_iff.mp ex
        have hj2 : j < pt.length := ql ▸ hj
        have tq := hqs j q0 _ eq0 (List.getElem?_eq_getElem hj2)
        have tcl := part_cells sokm ptm (List.getElem_mem hj2)
        generalize pt[j] = tc at tq tcl
        refine ⟨rfl, _, rfl, q, dx6, _, rfl, s8 _ _ hq6, rfl, _, rfl, q0, _, _, _, rfl, rfl, SqT.of (s8 _ _ tq), atI_nat (j := 0) rfl, _, rfl, q0, _, _, _, rfl, rfl, SqT.of (s8 _ _ tq), atI_nat (j := 1) rfl, q, _, _, tc.2, rfl, hb6.same s8, by show tc.2 < R.1.length; omega, _, rfl, iteF ⟨s8, hD⟩⟩
      · obtain ⟨s8, hD⟩ := p
        refine ⟨_, rfl, by show 0 ≤ sizeLine; decide, fun b nb => ⟨D, b, [], rfl, rfl, same_new nb _ _ hD, upd_same, _, rfl, iteF ?_⟩⟩
        have s9 : Same H7 (upd H8 b (.lst [])) := Same.trans s8 (same_new nb)
        have hb9 := hb6.same s9
        have hq9 := s9 _ _ hq6
        have hl9 := s9 _ _ hl6
        have k9 := k6.same s9
        generalize upd H8 b (.lst []) = H9 at s9 hb9 hq9 hl9 k9 ⊢
        refine ⟨_, rfl, .inl ⟨rfl, _, SqL.of hl9⟩, _, rfl, q, dx6, _, rfl, hq9, rfl, _, rfl, _, rfl, q, _, k, d + i, R.2, ai, tp, pt, rfl, hb9, hx6, pat.tk s9.tk, part_len2 ptm, fun y hy => by show y.2 < R.1.length; have := part_cells sokm ptm hy; omega, fun H10 a' l' xs z' hb10 k10 nl10 hl10 xl10 => ?_⟩
        have hl11 := k10 _ _ hl9 nlfS
        have hb10' : HB K H10 q { h with fa := movA k (d + i + 1) (part st R pt).2 a' fa, m := (part st R pt).1, k2 := h.k2 + i + 1, k3 := h.k3 + 1, z := z' } := by
          rw [← est]
          exact hb10
        have pl2 := part_len2 ptm
        have i7 : i < 7 := by
          rw [List.length_take, List.length_drop] at hi
          omega
        refine ⟨lf, l', ys, xs, rfl, rfl, hl11, hl10, by rw [sizeLine_eq]; omega, movA k (d + i + 1) (part st R pt).2 a' fa, a', z', ys ++ xs, _, _, _, ?_, ?_, ?_, ?_, rfl, upd_same, by rw [List.length_append]; omega, ?_⟩
        · rw [Rs]
          have e2 : h.k2 + ((i + 1 : Nat) : Int) = h.k2 + i + 1 := by omega
          rw [e2]
          exact hb10'.off (S := [lf]) ((KeepX.refl _ _).upd (by simp)) (fun a ha z => nlfS (by rw [← List.mem_singleton.mp z]; exact ha)) (tk_upd hl11 (by intro xs z; cases z))
        · rw [Rs]
          exact List.mem_map.mpr ⟨_, hx6, if_pos rfl⟩
        · rw [Rs, movA_fly, hfl, List.map_map]
          refine List.map_congr_left fun f _ => ?_
          show (if (if f.1 = k then (k, d + i, R.2) else f).1 = k then _ else _) = _
          by_cases c : f.1 = k
          · rw [if_pos c, if_pos c, if_pos rfl]
            rfl
          · rw [if_neg c, if_neg c, if_neg c]
        · rw [movA_len]
          exact hflen
        · exact (k9.trans (k10.mono fun b hb => List.mem_cons_of_mem _ hb)).upd (by simp)
    · obtain ⟨fa, ai, zi, ys, x5, x6, x7, hb6, hx6, hfl, hflen, rfl, hl6, yl, k6⟩ := p
      rw [List.length_map, ← psl] at hb6 hx6 hfl yl
      rw [List.take_length] at hb6 hx6 hfl
      obtain ⟨dx, hq6⟩ := hb6.ob
      have hlpS : lp ∉ lf :: h.S q := fun z => by
        rcases List.mem_cons.mp z with z | z
        · exact (ne_of_none hl2 nlp).symm z
        · exact hb2.notS nlp z
      have hlp6 := k6 _ _ hlp5 hlpS
      have dg6 : DGet H6 h.y (.int (k : Nat)) (some (.ref ai)) := by
        rw [← valV_kF hb6.v.inc hx6 rfl]
        exact DGet.k (k := Sum.inl (k : Int)) hb6.fy
      generalize hRR : runP st ((st.parts.drop d).take h.B) (h.m, t) = R at hb6 hx6 hfl kk
      have pll : ((st.parts.drop d).take h.B).length ≤ 7 := by rw [List.length_take, List.length_drop]; omega
      generalize ((st.parts.drop d).take h.B).length = n at hb6 hx6 hfl yl kk pll
      refine ⟨fun σ' H' => (∃ x5 x6 x7 x8, σ' = [some (.ref q), some (.int (k : Nat)), some (.ref lf), some (.int (d : Nat)), some (.ref lp), x5, x6, x7, x8]) ∧ H' lf = some (.lst ys) ∧ KeepX (lf :: h.S q) H5 H' ∧ ∃ fa' dn' k1' k2' z', HB K H' q { h with fa := fa', m := R.1, done := dn', k1 := k1', k2 := k2', k3 := h.k3 + 1, z := z' } ∧ fa'.map (·.1) = moved h.ring k (d + n) R.2 h.fly, ?_, ?_⟩
      · refine ⟨_, rfl, q, _, dx, _, _, rfl, hq6, T.c_Helper, T.n_held_flying, rfl, _, rfl, h.y, .ref ai, rfl, dg6, ai, _, _, _, rfl, rfl, SqT.of (hb6.ft _ hx6), atI_nat (j := 0) rfl, _, rfl, lp, _, rfl, .inl (SqL.of hlp6), rfl, _, rfl, ?_⟩
        rw [List.length_map, decV]
        have emv : moved h.ring k (d + n) R.2 h.fly = if d + n = st.parts.length then h.fly.filter (fun f => decide (f.1 ≠ k)) else h.fly.map (fun f => if f.1 = k then (k, d + n, R.2) else f) := by
          unfold moved
          rw [est]
        refine ite2 (fun z => ?_) fun z => ?_
        · have z1 : d + n = st.parts.length := (of_decide_eq_true z).trans plen
          refine ⟨_, rfl, q, _, dx, _, _, rfl, hq6, T.c_Helper, T.n_held_flying, rfl, h.y, rfl, .inl ⟨_, .inl hb6.fy⟩, _, rfl, fa.map kF, Sum.inl (k : Int), _, hb6.fy, rfl, valV_kF hb6.v.inc hx6 rfl, ?_⟩
          have ol := offA_len hb6.v.inc hx6 rfl
          have hb7 := hb6.setFly (fa := offA k fa) dropK_kF (fun x hx' => hb6.ft x (List.mem_filter.mp hx').1) ⟨hb6.v.inc.filter _, fun x hx' => hb6.v.lt x (List.mem_filter.mp hx').1, fun x hx' => hb6.v.nn x (List.mem_filter.mp hx').1, hb6.v.nxl, hb6.v.ok, hb6.v.okm, hb6.v.len, by
            have := hb6.v.cnt
            show h.done.length + (offA k fa).length ≤ h.nx
            have e1 : h.done.length + fa.length ≤ h.nx := this
            have e2 : (offA k fa).length + 1 = fa.length := ol
            omega, hb6.v.w1, hb6.v.w4, hb6.v.b1, hb6.v.b16⟩
          have hq7 : (upd H6 h.y (.dK (dropK (fa.map kF) (Sum.inl (k : Int))))) q = some (.ins (He.ga K "Helper") dx (Hl.hfl h)) := by rw [upd_ne N.qy]; exact hq6
          have hl7 : (upd H6 h.y (.dK (dropK (fa.map kF) (Sum.inl (k : Int))))) lf = some (.lst ys) := by rw [upd_ne (fun z => nlfS (by rw [z]; simp))]; exact hl6
          refine ⟨_, rfl, q, dx, _, rfl, hq7, rfl, _, rfl, q, _, k, rfl, hb7, ?_, fun H8 hb8 k8 => ?_⟩
          · have e1 : h.done.length + fa.length ≤ h.nx := hb6.v.cnt
            have e2 : (offA k fa).length + 1 = fa.length := ol
            show h.done.length + (offA k fa).length < h.nx
            omega
          refine ⟨⟨_, _, _, _, rfl⟩, k8 _ _ hl7 nlfS, (k6.upd (by simp)).trans (k8.mono fun b hb => List.mem_cons_of_mem _ hb), offA k fa, _, _, _, _, hb8, ?_⟩
          rw [emv, if_pos z1, offA_fly, hfl]
          exact filt_same h.fly
        · have z1 : ¬ d + n = st.parts.length := fun e => z (decide_eq_true (e.trans plen.symm))
          refine ⟨⟨_, _, _, _, rfl⟩, hl6, k6, fa, _, _, _, _, hb6, ?_⟩
          rw [emv, if_neg z1]
          exact hfl
      · rintro σ H7 ⟨⟨y5, y6, y7, y8, rfl⟩, hl7, k7, fa', dn', k1', k2', z', hb7, hf7⟩
        refine ⟨_, rfl, lf, _, rfl, .inl ⟨SqL.of hl7, fun r nr => ?_⟩⟩
        refine kk _ fa' dn' k1' k2' z' r (hb7.same (same_new nr)) hf7 fun b o e nb => ?_
        have nbl : b ≠ lf := ne_of_none e nlfH
        exact same_new nr _ _ (k7 _ _ (kp5 _ _ e nb) (fun z => by
          rcases List.mem_cons.mp z with z | z
          · exact nbl z
          · exact nb z))
end
end Hl
end

section
set_option Elab.async false
set_option linter.all false
set_option maxRecDepth 100000
set_option maxHeartbeats 8000000
namespace Hl
open PySem PySem.Spec PyProof.Rows L2
def sp_need_store (K : PySem.W.Frag) : Sp := fun vs H Q _ => ∃ p dx fs, vs = [.ref p] ∧ H p = some (.ins (He.ga K "Store") dx fs) ∧ Q .non H
def sp_Helper_post (K : PySem.W.Frag) : Sp := fun vs H Q _ => ∃ q h t ps ss, vs = [.ref q, .ref t] ∧ HB K H q h ∧ h.rps = [] ∧ h.nx = 0 ∧ H t = some (.tup (refsV ps)) ∧ StepsAt H ps ss ∧ (∀ s, s ∈ ss → s.Ok 30) ∧ (∀ s, s ∈ ss → s.Ok h.m.length) ∧ 1 ≤ ps.length ∧ ps.length ≤ 40 ∧
  ∀ H' r, HB K H' q { h with ring := ss, rps := ps } → KeepX [h.r] H H' → Q (.ref r) H'
def fresh (p c f r y d ct : Addr) (W B : Nat) (m : Mem) (fl : List Int) (z : Int) : Hd := { p := p, c := c, f := f, r := r, y := y, d := d, ct := ct, W := W, B := B, nx := 0, ring := [], rps := [], fa := [], done := [], k0 := 0, k1 := 0, k2 := 0, k3 := 0, m := m, fl := fl, z := z }
def sp_Helper_init (K : PySem.W.Frag) : Sp := fun vs H Q _ => ∃ q dx p c f m fl z W B, vs = [.ref q, .ref p, .int (W : Nat), .int (B : Nat), .non] ∧ H q = some (.ins (He.ga K "Helper") dx []) ∧ StoreAt K H p c f m fl z ∧ 1 ≤ W ∧ W ≤ 4 ∧ 1 ≤ B ∧ B ≤ 16 ∧
  ∀ r y d ct H', H r = none → H y = none → H d = none → H ct = none → HB K H' q (fresh p c f r y d ct W B m fl z) → KeepX [q] H H' → Q .non H'
theorem free_of {q r : Addr} {H H2 : Hp} {o : HO} (k : KeepX [q] H H2) (hq : H2 q = some o) (nr : H2 r = none) : H r = none := by
  cases e : H r with
  | none => rfl
  | some u =>
    have hne : r ≠ q := fun z => by rw [z, hq] at nr; cases nr
    rw [k _ _ e (by simpa using hne)] at nr
    cases nr
def InitKAt (P : Program) (w : World) (K : PySem.W.Frag) (mg : Str → Option Value) (base : Heap) (k : Nat) : Prop :=
  ∃ f fd g, mg "Helper" = some (.ref (He.ga K "Helper")) ∧ Mk K (He.ga K "Helper") f ∧ FnOk P w K mg base CX0 k f fd ["self", "store", "width", "burst", "room"] (sp_Helper_init K) ∧ KBn K fd ["self", "store", "width", "burst", "room"] 2 ["width", "burst"] g (fun vs zs => vs ++ zs ++ [V.non])
section
variable {X : Cx} {k j : Nat} {p pos : Pos} {e : Expr} {kws : List Keyword} {ta tk : TA}
theorem pe_mkHelper (D : InitKAt X.prog X.w X.K X.mg X.base k) (hr : Room j X.A) (hg : Gl X "Helper") (ha : PA X [e] ta) (hkw : PK X kws tk) (hkj : k + 1 ≤ j := by decide) (hall : (backToKw pos (keywordEach kws X.env)).all (·.1.isSome) = true := by rfl) (hks : (backToKw pos (keywordEach kws X.env)).filterMap (·.1) = [("width" : Str), "burst"] := by rfl)
    (hdb : (("Helper" : Str) == ("__debug__" : Str)) = false := by decide) (he : starEach [e] X.env = (false, eval e X.env) :: starEach [] X.env := by rfl)
    (hpl : ((backTo pos (starEach [e] X.env)).any (·.1) || (backToKw pos (keywordEach kws X.env)).any (·.1.isNone)) = false := by rfl) :
    PE X (.Call (.Name "Helper" p) [e] kws pos) (tMakeK (He.ga X.K "Helper") 1 2 (sp_Helper_init X.K) (fun vs zs => vs ++ zs ++ [V.non]) E0 ta tk) := by
  obtain ⟨f, fd, g, hm, M, F, hb⟩ := D
  exact pe_makeK (n := 1) M F (hr.mono hkj) hg hm hb (show Passes CX0 X E0 from pass0) ha hkw hall hks hdb he hpl
end
section
variable {P : Program} {w : World} {K : PySem.W.Frag} {mg : Str → Option Value} {base : Heap}
abbrev N_need_store : List Str := ["thing"]
theorem sc_need_store : FnScope N_need_store ["thing"] (defScope s_need_store) := ⟨rfl, rfl, rfl, by decide +kernel, rfl, by decide +kernel, by decide +kernel⟩
theorem D_need_store (T : Txt K mg) (TW : TxtW K w) : DefAt P w K mg base "need_store" 1 ["thing"] (sp_need_store K) := by
  obtain ⟨fd, F⟩ := T.f_need_store
  refine ⟨He.fAd K ("need_store", none), fd, T.g_need_store, F.kp, F.bindsN (fun _ _ _ _ _ _ us hl => match us, hl with | [_], _ => rfl), ?_⟩
  refine F.ok sc_need_store (fun vs H Q E h => ?_) (fun cdv A outer s H vs Q E hr h => ?_)
  · obtain ⟨_, _, _, rfl, _⟩ := h
    rfl
  · obtain ⟨p, dx, fs, rfl, hp, q⟩ := h
    refine ⟨_, PSs.nox (pss_one (ps_if (pt_not (pt_val (pe_callB call_isA (by rfl) T.r_isinstance (by decide +kernel) (pa_cons (pv 0) (pa_cons (pe_glob (v := V.ref _) (by rfl) T.g_Store rfl) pa_nil))))) (pss_one ps_never) pss_nil)), ?_⟩
    exact ⟨_, rfl, _, _, _, rfl, .own hp T.c_Store T.is1 T.is2 T.is3 T.is4 T.is5, true, rfl, iteF q⟩
abbrev N_Helper_post : List Str := ["self", "steps", "first"]
theorem sc_Helper_post : FnScope N_Helper_post ["self", "steps"] (defScope s_Helper_post) := ⟨rfl, rfl, rfl, by decide +kernel, rfl, by decide +kernel, by decide +kernel⟩
theorem M_Helper_post (T : Txt K mg) (TW : TxtW K w) : MethAt P w K mg base (He.ga K "Helper") "post" 9 ["self", "steps"] (sp_Helper_post K) := by
  obtain ⟨fd, F⟩ := T.f_Helper_post
  have D_need_list := D_need_list (P := P) (w := w) (base := base) T TW
  refine ⟨He.fAd K ("Helper", some "post"), fd, T.m_Helper_post, F.bindsN (fun _ _ _ _ _ _ us hl => match us, hl with | [_, _], _ => rfl), ?_⟩
  refine F.ok sc_Helper_post (fun vs H Q E h => ?_) (fun cdv A outer s H vs Q E hr h => ?_)
  · obtain ⟨_, _, _, _, _, rfl, _⟩ := h
    rfl
  · obtain ⟨q, h, t, ps, ss, rfl, hb, hr0, hn0, ht, hs, ok, okm, l1, l2, kk⟩ := h
    obtain ⟨dx, hq⟩ := hb.ob
    have N := hb.ne
    refine ⟨_, PSs.nox (pss_cons (ps_expr (pe_def D_need_list hr (by rfl) (pa_cons (pv 1) pa_nil)))
      (pss_cons (ps_set (i := 2) sc_Helper_post.nd rfl (Or.inl rfl) (pe_callB call_len_seq (by rfl) T.r_len (by decide +kernel) (pa_cons (pe_fld (pv 0) rfl) pa_nil)))
      (pss_cons (ps_expr (pe_bm PySem.F.plainAttrs_list PySem.F.slot_list_extend PySem.F.type_list_extend mt_extendT (pe_fld (pv 0) rfl) (pa_cons (pv 1) pa_nil)))
      (pss_one (ps_ret (pe_tup (pa_cons (pv 2) (pa_cons (pe_op op_sub (pe_callB call_len_seq (by rfl) T.r_len (by decide +kernel) (pa_cons (pe_fld (pv 0) rfl) pa_nil)) pe_int) pa_nil)))))))), ?_⟩
    refine ⟨_, rfl, t, ps, ss, rfl, ht, hs, ok, l1, l2, fun H1 s1 => ?_⟩
    have hb1 := hb.same s1
    have hq1 := s1 _ _ hq
    refine ⟨_, rfl, q, _, dx, _, _, rfl, hq1, T.c_Helper, T.n_held_ring, rfl, h.r, _, rfl, .inl (SqL.of hb1.rg), ?_⟩
    have r0 : refsV h.rps = [] := by rw [hr0]; rfl
    have rg1 := hb1.rg
    rw [r0] at rg1
    refine ⟨_, rfl, q, _, dx, _, _, rfl, hq1, T.c_Helper, T.n_held_ring, rfl, .inl ⟨rfl, _, SqL.of rg1⟩, _, rfl, h.r, t, [], _, rfl, rfl, rg1, s1 _ _ ht, by rw [List.length_map, sizeLine_eq]; show 0 + _ ≤ _; omega, ?_⟩
    have hb2 := hb1.setRing (ps := ps) (ss := ss) (xs := [] ++ refsV ps) (by simp) (hs.tk s1.tk) ⟨hb.v.inc, hb.v.lt, hb.v.nn, by rw [show ({ h with ring := ss, rps := ps } : Hd).nx = h.nx from rfl, hn0]; exact Nat.zero_le _, ok, okm, by show ss.length ≤ 40; rw [← hs.1]; exact l2, hb.v.cnt, hb.v.w1, hb.v.w4, hb.v.b1, hb.v.b16⟩
    have hq2 : (upd H1 h.r (.lst ([] ++ refsV ps))) q = some (.ins (He.ga K "Helper") dx (hfl h)) := by rw [upd_ne N.qr]; exact hq1
    refine ⟨_, rfl, _, rfl, q, _, dx, _, _, rfl, hq2, T.c_Helper, T.n_held_ring, rfl, h.r, _, rfl, .inl (SqL.of hb2.rg), _, _, rfl, rfl, by show 2 ≤ sizeLine; decide, fun r nr => ?_⟩
    exact kk _ r (hb2.same (same_new nr)) ((s1.keep.upd (by simp)).same (same_new nr))
abbrev N_Helper_init : List Str := ["self", "store", "width", "burst", "room"]
theorem sc_Helper_init : FnScope N_Helper_init ["self", "store", "width", "burst", "room"] (defScope s_Helper_init) := ⟨rfl, rfl, rfl, by decide +kernel, rfl, by decide +kernel, by decide +kernel⟩
theorem D_Helper (T : Txt K mg) (TW : TxtW K w) : InitKAt P w K mg base 2 := by
  obtain ⟨fd, F⟩ := T.f_Helper_init
  have D_is_whole := D_is_whole (P := P) (w := w) (base := base) T
  have D_need_store := D_need_store (P := P) (w := w) (base := base) T TW
  obtain ⟨t_MOST_BURST, g_MOST_BURST⟩ := T.i_MOST_BURST
  obtain ⟨t_MOST_WIDTH, g_MOST_WIDTH⟩ := T.i_MOST_WIDTH
  obtain ⟨mv, hkb⟩ := F.kbinds0 (ps := ["self", "store", "width", "burst", "room"]) 2 ["width", "burst"] [("room", .non)] (fun us mv ws => us ++ ws ++ mv) (by decide) (by simp) (fun r1 r2 r3 => (r1.append r3).append r2)
      (fun D doc pm an cdv ct us mv ws l1 l2 l3 => by
        match us, mv, ws, l1, l2, l3 with
        | [u, u2], [m], [z, z2], _, _, _ => exact ⟨_, _, _, _, _, _, rfl, rfl, rfl⟩)
  refine ⟨He.fAd K ("Helper", some "__init__"), fd, _, T.g_Helper, T.k_Helper, ?_, hkb⟩
  refine F.ok sc_Helper_init (fun vs H Q E h => ?_) (fun cdv A outer s H vs Q E hr h => ?_)
  · obtain ⟨_, _, _, _, _, _, _, _, _, _, rfl, _⟩ := h
    rfl
  · obtain ⟨q, dx, p, c, f, m, fl, z, W, B, rfl, hq, S, w1, w4, b1, b16, kk⟩ := h
    obtain ⟨dxp, hp⟩ := S.ob
    refine ⟨_, PSs.nox (pss_cons (ps_expr (pe_def D_need_store hr (by rfl) (pa_cons (pv 1) pa_nil)))
      (pss_cons (ps_if (pt_not (pt_val (pe_isw2 D_is_whole hr (by rfl) (pa_cons (pv 2) pa_nil) (pk_cons pe_int (pk_cons (pe_glob (v := .int 4) (by rfl) g_MOST_WIDTH ⟨_, rfl⟩) pk_nil))))) (pss_one ps_never) pss_nil)
      (pss_cons (ps_if (pt_not (pt_val (pe_isw2 D_is_whole hr (by rfl) (pa_cons (pv 3) pa_nil) (pk_cons pe_int (pk_cons (pe_glob (v := .int 16) (by rfl) g_MOST_BURST ⟨_, rfl⟩) pk_nil))))) (pss_one ps_never) pss_nil)
      (pss_cons (ps_if (pt_cmpR op_notN (pv 4) pe_non (nomark _)) (pss_one (ps_expr pe_nev)) pss_nil)
      (pss_cons (ps_asg (pe_tup (pa_cons (pv 1) (pa_cons (pv 2) (pa_cons (pv 3) (pa_cons (pv 4) pa_nil))))) (pg_tupK (K := K) (n := 4) rfl (pgs_cons (pg_fld (pv 0)) (pgs_cons (pg_fld (pv 0)) (pgs_cons (pg_fld (pv 0)) (pgs_cons (pg_fld (pv 0)) pgs_nil))))))
      (pss_cons (ps_fld (pv 0) (pe_lst pa_nil) rfl)
      (pss_cons (ps_fld (pv 0) pe_int rfl)
      (pss_cons (ps_fld (pv 0) pe_dnewK rfl)
      (pss_cons (ps_fld (pv 0) (pe_lst pa_nil) rfl)
      (pss_cons (ps_fld (pv 0) pe_non rfl)
      (pss_one (ps_fld (pv 0) (pe_lst (pa_cons pe_int (pa_cons pe_int (pa_cons pe_int (pa_cons pe_int pa_nil))))) rfl)))))))))))), ?_⟩
    refine ⟨_, rfl, p, dxp, _, rfl, hp, ?_⟩
    refine ⟨_, rfl, _, _, _, rfl, rfl, _, rfl, iteNS ⟨by omega, by omega⟩ ?_⟩
    refine ⟨_, rfl, _, _, _, rfl, rfl, _, rfl, iteNS ⟨by omega, by omega⟩ ?_⟩
    refine ⟨_, rfl, rfl, _, rfl, iteF ?_⟩
    refine ⟨_, rfl, _, rfl, _, rfl, _, rfl, by show 4 ≤ sizeLine; decide, fun t nt => ?_⟩
    have s1 := same_new (o := .tup [.ref p, .int (W : Nat), .int (B : Nat), .non]) nt
    have hq1 := s1 _ _ hq
    have kp1 : KeepX [q] H _ := s1.keep
    refine ⟨t, _, rfl, SqT.of upd_same, rfl, ?_⟩
    generalize upd H t (.tup [.ref p, .int (W : Nat), .int (B : Nat), .non]) = H1 at hq1 kp1 ⊢
    refine ⟨_, _, rfl, _, rfl, q, _, dx, _, rfl, hq1, T.c_Helper, T.n_held_store, by show 0 < 1000; decide, ?_⟩
    refine ⟨_, _, rfl, _, rfl, q, _, dx, _, rfl, upd_same, T.c_Helper, T.n_held_width, by show 1 < 1000; decide, ?_⟩
    refine ⟨_, _, rfl, _, rfl, q, _, dx, _, rfl, upd_same, T.c_Helper, T.n_held_burst, by show 2 < 1000; decide, ?_⟩
    refine ⟨_, _, rfl, _, rfl, q, _, dx, _, rfl, upd_same, T.c_Helper, T.n_held_room, by show 3 < 1000; decide, rfl, ?_⟩
    have qp : q ≠ p := fun z => by
      rw [z, hp] at hq
      injection hq with hq
      injection hq with hq _ _
      exact T.hs hq
    have qc := ne_of hq S.hc (by intro z; cases z)
    have qf := ne_of hq S.hf (by intro z; cases z)
    have pc := ne_of hp S.hc (by intro z; cases z)
    have pf := ne_of hp S.hf (by intro z; cases z)
    have kp2 := (((kp1.upd (p := q) (o := (.ins (He.ga K "Helper") dx (putF "held_store" (.ref p) []))) (by simp)).upd (p := q) (o := (.ins (He.ga K "Helper") dx (putF "held_width" (.int (W : Nat)) (putF "held_store" (.ref p) [])))) (by simp)).upd (p := q) (o := (.ins (He.ga K "Helper") dx (putF "held_burst" (.int (B : Nat)) (putF "held_width" (.int (W : Nat)) (putF "held_store" (.ref p) []))))) (by simp)).upd (p := q) (o := (.ins (He.ga K "Helper") dx (putF "held_room" (.non) (putF "held_burst" (.int (B : Nat)) (putF "held_width" (.int (W : Nat)) (putF "held_store" (.ref p) [])))))) (by simp)
    have hq2 := upd_same (H := upd (upd (upd H1 q (.ins (He.ga K "Helper") dx (putF "held_store" (.ref p) []))) q (.ins (He.ga K "Helper") dx (putF "held_width" (.int (W : Nat)) (putF "held_store" (.ref p) [])))) q (.ins (He.ga K "Helper") dx (putF "held_burst" (.int (B : Nat)) (putF "held_width" (.int (W : Nat)) (putF "held_store" (.ref p) []))))) (a := q) (o := (.ins (He.ga K "Helper") dx (putF "held_room" (.non) (putF "held_burst" (.int (B : Nat)) (putF "held_width" (.int (W : Nat)) (putF "held_store" (.ref p) []))))))
    show tSeq _ _ _ _ (upd (upd (upd (upd H1 q (.ins (He.ga K "Helper") dx (putF "held_store" (.ref p) []))) q (.ins (He.ga K "Helper") dx (putF "held_width" (.int (W : Nat)) (putF "held_store" (.ref p) [])))) q (.ins (He.ga K "Helper") dx (putF "held_burst" (.int (B : Nat)) (putF "held_width" (.int (W : Nat)) (putF "held_store" (.ref p) []))))) q (.ins (He.ga K "Helper") dx (putF "held_room" (.non) (putF "held_burst" (.int (B : Nat)) (putF "held_width" (.int (W : Nat)) (putF "held_store" (.ref p) []))))))
    generalize upd (upd (upd (upd H1 q (.ins (He.ga K "Helper") dx (putF "held_store" (.ref p) []))) q (.ins (He.ga K "Helper") dx (putF "held_width" (.int (W : Nat)) (putF "held_store" (.ref p) [])))) q (.ins (He.ga K "Helper") dx (putF "held_burst" (.int (B : Nat)) (putF "held_width" (.int (W : Nat)) (putF "held_store" (.ref p) []))))) q (.ins (He.ga K "Helper") dx (putF "held_room" (.non) (putF "held_burst" (.int (B : Nat)) (putF "held_width" (.int (W : Nat)) (putF "held_store" (.ref p) []))))) = H2 at kp2 hq2 ⊢
    refine ⟨by show 0 ≤ sizeLine; decide, fun r nr => ?_⟩
    have nr0 := free_of kp2 hq2 nr
    have qr := ne_of_none hq2 nr
    have s3 := same_new (o := .lst []) nr
    have kp3 := kp2.same s3
    have hq3 := s3 _ _ hq2
    have hr3 := upd_same (H := H2) (a := r) (o := .lst [])
    refine ⟨_, rfl, q, _, dx, _, rfl, hq3, T.c_Helper, T.n_held_ring, by show 4 < 1000; decide, ?_⟩
    refine ⟨_, rfl, q, _, dx, _, rfl, upd_same, T.c_Helper, T.n_held_next, by show 5 < 1000; decide, ?_⟩
    have kp4 := (kp3.upd (p := q) (o := (.ins (He.ga K "Helper") dx (putF "held_ring" (.ref r) (putF "held_room" (.non) (putF "held_burst" (.int (B : Nat)) (putF "held_width" (.int (W : Nat)) (putF "held_store" (.ref p) []))))))) (by simp)).upd (p := q) (o := (.ins (He.ga K "Helper") dx (putF "held_next" (.int 0) (putF "held_ring" (.ref r) (putF "held_room" (.non) (putF "held_burst" (.int (B : Nat)) (putF "held_width" (.int (W : Nat)) (putF "held_store" (.ref p) [])))))))) (by simp)
    have hq4 := upd_same (H := upd (upd H2 r (.lst [])) q (.ins (He.ga K "Helper") dx (putF "held_ring" (.ref r) (putF "held_room" (.non) (putF "held_burst" (.int (B : Nat)) (putF "held_width" (.int (W : Nat)) (putF "held_store" (.ref p) []))))))) (a := q) (o := (.ins (He.ga K "Helper") dx (putF "held_next" (.int 0) (putF "held_ring" (.ref r) (putF "held_room" (.non) (putF "held_burst" (.int (B : Nat)) (putF "held_width" (.int (W : Nat)) (putF "held_store" (.ref p) []))))))))
    have hr4 : (upd (upd (upd H2 r (.lst [])) q (.ins (He.ga K "Helper") dx (putF "held_ring" (.ref r) (putF "held_room" (.non) (putF "held_burst" (.int (B : Nat)) (putF "held_width" (.int (W : Nat)) (putF "held_store" (.ref p) []))))))) q (.ins (He.ga K "Helper") dx (putF "held_next" (.int 0) (putF "held_ring" (.ref r) (putF "held_room" (.non) (putF "held_burst" (.int (B : Nat)) (putF "held_width" (.int (W : Nat)) (putF "held_store" (.ref p) [])))))))) r = some (.lst []) := by rw [upd_ne qr.symm, upd_ne qr.symm]; exact hr3
    show tSeq _ _ _ _ (upd (upd (upd H2 r (.lst [])) q (.ins (He.ga K "Helper") dx (putF "held_ring" (.ref r) (putF "held_room" (.non) (putF "held_burst" (.int (B : Nat)) (putF "held_width" (.int (W : Nat)) (putF "held_store" (.ref p) []))))))) q (.ins (He.ga K "Helper") dx (putF "held_next" (.int 0) (putF "held_ring" (.ref r) (putF "held_room" (.non) (putF "held_burst" (.int (B : Nat)) (putF "held_width" (.int (W : Nat)) (putF "held_store" (.ref p) []))))))))
    generalize upd (upd (upd H2 r (.lst [])) q (.ins (He.ga K "Helper") dx (putF "held_ring" (.ref r) (putF "held_room" (.non) (putF "held_burst" (.int (B : Nat)) (putF "held_width" (.int (W : Nat)) (putF "held_store" (.ref p) []))))))) q (.ins (He.ga K "Helper") dx (putF "held_next" (.int 0) (putF "held_ring" (.ref r) (putF "held_room" (.non) (putF "held_burst" (.int (B : Nat)) (putF "held_width" (.int (W : Nat)) (putF "held_store" (.ref p) []))))))) = H4 at kp4 hq4 hr4 ⊢
    refine fun y ny => ?_
    have ny0 := free_of kp4 hq4 ny
    have qy := ne_of_none hq4 ny
    have ry := ne_of_none hr4 ny
    have s5 := same_new (o := .dK []) ny
    have kp5 := kp4.same s5
    have hq5 := s5 _ _ hq4
    have hr5 := s5 _ _ hr4
    have hy5 := upd_same (H := H4) (a := y) (o := .dK [])
    refine ⟨_, rfl, q, _, dx, _, rfl, hq5, T.c_Helper, T.n_held_flying, by show 6 < 1000; decide, ?_⟩
    have kp6 := kp5.upd (p := q) (o := (.ins (He.ga K "Helper") dx (putF "held_flying" (.ref y) (putF "held_next" (.int 0) (putF "held_ring" (.ref r) (putF "held_room" (.non) (putF "held_burst" (.int (B : Nat)) (putF "held_width" (.int (W : Nat)) (putF "held_store" (.ref p) []))))))))) (by simp)
    have hq6 := upd_same (H := upd H4 y (.dK [])) (a := q) (o := (.ins (He.ga K "Helper") dx (putF "held_flying" (.ref y) (putF "held_next" (.int 0) (putF "held_ring" (.ref r) (putF "held_room" (.non) (putF "held_burst" (.int (B : Nat)) (putF "held_width" (.int (W : Nat)) (putF "held_store" (.ref p) [])))))))))
    have hr6 : (upd (upd H4 y (.dK [])) q (.ins (He.ga K "Helper") dx (putF "held_flying" (.ref y) (putF "held_next" (.int 0) (putF "held_ring" (.ref r) (putF "held_room" (.non) (putF "held_burst" (.int (B : Nat)) (putF "held_width" (.int (W : Nat)) (putF "held_store" (.ref p) []))))))))) r = some (.lst []) := by rw [upd_ne qr.symm]; exact hr5
    have hy6 : (upd (upd H4 y (.dK [])) q (.ins (He.ga K "Helper") dx (putF "held_flying" (.ref y) (putF "held_next" (.int 0) (putF "held_ring" (.ref r) (putF "held_room" (.non) (putF "held_burst" (.int (B : Nat)) (putF "held_width" (.int (W : Nat)) (putF "held_store" (.ref p) []))))))))) y = some (.dK []) := by rw [upd_ne qy.symm]; exact hy5
    show tSeq _ _ _ _ (upd (upd H4 y (.dK [])) q (.ins (He.ga K "Helper") dx (putF "held_flying" (.ref y) (putF "held_next" (.int 0) (putF "held_ring" (.ref r) (putF "held_room" (.non) (putF "held_burst" (.int (B : Nat)) (putF "held_width" (.int (W : Nat)) (putF "held_store" (.ref p) [])))))))))
    generalize upd (upd H4 y (.dK [])) q (.ins (He.ga K "Helper") dx (putF "held_flying" (.ref y) (putF "held_next" (.int 0) (putF "held_ring" (.ref r) (putF "held_room" (.non) (putF "held_burst" (.int (B : Nat)) (putF "held_width" (.int (W : Nat)) (putF "held_store" (.ref p) [])))))))) = H6 at kp6 hq6 hr6 hy6 ⊢
    refine ⟨by show 0 ≤ sizeLine; decide, fun d nd => ?_⟩
    have nd0 := free_of kp6 hq6 nd
    have qd := ne_of_none hq6 nd
    have rd := ne_of_none hr6 nd
    have yd := ne_of_none hy6 nd
    have s7 := same_new (o := .lst []) nd
    have kp7 := kp6.same s7
    have hq7 := s7 _ _ hq6
    have hr7 := s7 _ _ hr6
    have hy7 := s7 _ _ hy6
    have hd7 := upd_same (H := H6) (a := d) (o := .lst [])
    refine ⟨_, rfl, q, _, dx, _, rfl, hq7, T.c_Helper, T.n_held_done, by show 7 < 1000; decide, ?_⟩
    refine ⟨_, rfl, q, _, dx, _, rfl, upd_same, T.c_Helper, T.n_held_out, by show 8 < 1000; decide, ?_⟩
    have kp8 := (kp7.upd (p := q) (o := (.ins (He.ga K "Helper") dx (putF "held_done" (.ref d) (putF "held_flying" (.ref y) (putF "held_next" (.int 0) (putF "held_ring" (.ref r) (putF "held_room" (.non) (putF "held_burst" (.int (B : Nat)) (putF "held_width" (.int (W : Nat)) (putF "held_store" (.ref p) [])))))))))) (by simp)).upd (p := q) (o := (.ins (He.ga K "Helper") dx (putF "held_out" (.non) (putF "held_done" (.ref d) (putF "held_flying" (.ref y) (putF "held_next" (.int 0) (putF "held_ring" (.ref r) (putF "held_room" (.non) (putF "held_burst" (.int (B : Nat)) (putF "held_width" (.int (W : Nat)) (putF "held_store" (.ref p) []))))))))))) (by simp)
    have hq8 := upd_same (H := upd (upd H6 d (.lst [])) q (.ins (He.ga K "Helper") dx (putF "held_done" (.ref d) (putF "held_flying" (.ref y) (putF "held_next" (.int 0) (putF "held_ring" (.ref r) (putF "held_room" (.non) (putF "held_burst" (.int (B : Nat)) (putF "held_width" (.int (W : Nat)) (putF "held_store" (.ref p) [])))))))))) (a := q) (o := (.ins (He.ga K "Helper") dx (putF "held_out" (.non) (putF "held_done" (.ref d) (putF "held_flying" (.ref y) (putF "held_next" (.int 0) (putF "held_ring" (.ref r) (putF "held_room" (.non) (putF "held_burst" (.int (B : Nat)) (putF "held_width" (.int (W : Nat)) (putF "held_store" (.ref p) [])))))))))))
    have hr8 : (upd (upd (upd H6 d (.lst [])) q (.ins (He.ga K "Helper") dx (putF "held_done" (.ref d) (putF "held_flying" (.ref y) (putF "held_next" (.int 0) (putF "held_ring" (.ref r) (putF "held_room" (.non) (putF "held_burst" (.int (B : Nat)) (putF "held_width" (.int (W : Nat)) (putF "held_store" (.ref p) [])))))))))) q (.ins (He.ga K "Helper") dx (putF "held_out" (.non) (putF "held_done" (.ref d) (putF "held_flying" (.ref y) (putF "held_next" (.int 0) (putF "held_ring" (.ref r) (putF "held_room" (.non) (putF "held_burst" (.int (B : Nat)) (putF "held_width" (.int (W : Nat)) (putF "held_store" (.ref p) []))))))))))) r = some (.lst []) := by rw [upd_ne qr.symm, upd_ne qr.symm]; exact hr7
    have hy8 : (upd (upd (upd H6 d (.lst [])) q (.ins (He.ga K "Helper") dx (putF "held_done" (.ref d) (putF "held_flying" (.ref y) (putF "held_next" (.int 0) (putF "held_ring" (.ref r) (putF "held_room" (.non) (putF "held_burst" (.int (B : Nat)) (putF "held_width" (.int (W : Nat)) (putF "held_store" (.ref p) [])))))))))) q (.ins (He.ga K "Helper") dx (putF "held_out" (.non) (putF "held_done" (.ref d) (putF "held_flying" (.ref y) (putF "held_next" (.int 0) (putF "held_ring" (.ref r) (putF "held_room" (.non) (putF "held_burst" (.int (B : Nat)) (putF "held_width" (.int (W : Nat)) (putF "held_store" (.ref p) []))))))))))) y = some (.dK []) := by rw [upd_ne qy.symm, upd_ne qy.symm]; exact hy7
    have hd8 : (upd (upd (upd H6 d (.lst [])) q (.ins (He.ga K "Helper") dx (putF "held_done" (.ref d) (putF "held_flying" (.ref y) (putF "held_next" (.int 0) (putF "held_ring" (.ref r) (putF "held_room" (.non) (putF "held_burst" (.int (B : Nat)) (putF "held_width" (.int (W : Nat)) (putF "held_store" (.ref p) [])))))))))) q (.ins (He.ga K "Helper") dx (putF "held_out" (.non) (putF "held_done" (.ref d) (putF "held_flying" (.ref y) (putF "held_next" (.int 0) (putF "held_ring" (.ref r) (putF "held_room" (.non) (putF "held_burst" (.int (B : Nat)) (putF "held_width" (.int (W : Nat)) (putF "held_store" (.ref p) []))))))))))) d = some (.lst []) := by rw [upd_ne qd.symm, upd_ne qd.symm]; exact hd7
    generalize upd (upd (upd H6 d (.lst [])) q (.ins (He.ga K "Helper") dx (putF "held_done" (.ref d) (putF "held_flying" (.ref y) (putF "held_next" (.int 0) (putF "held_ring" (.ref r) (putF "held_room" (.non) (putF "held_burst" (.int (B : Nat)) (putF "held_width" (.int (W : Nat)) (putF "held_store" (.ref p) [])))))))))) q (.ins (He.ga K "Helper") dx (putF "held_out" (.non) (putF "held_done" (.ref d) (putF "held_flying" (.ref y) (putF "held_next" (.int 0) (putF "held_ring" (.ref r) (putF "held_room" (.non) (putF "held_burst" (.int (B : Nat)) (putF "held_width" (.int (W : Nat)) (putF "held_store" (.ref p) [])))))))))) = H8 at kp8 hq8 hr8 hy8 hd8 ⊢
    refine ⟨by show 4 ≤ sizeLine; decide, fun ct nct => ?_⟩
    have nct0 := free_of kp8 hq8 nct
    have qct := ne_of_none hq8 nct
    have rct := ne_of_none hr8 nct
    have yct := ne_of_none hy8 nct
    have dct := ne_of_none hd8 nct
    have s9 := same_new (o := .lst [.int 0, .int 0, .int 0, .int 0]) nct
    have kp9 := kp8.same s9
    have hq9 := s9 _ _ hq8
    have hct9 := upd_same (H := H8) (a := ct) (o := .lst [.int 0, .int 0, .int 0, .int 0])
    refine ⟨_, rfl, q, _, dx, _, rfl, hq9, T.c_Helper, T.n_held_counts, by show 9 < 1000; decide, ?_⟩
    have kp10 := kp9.upd (p := q) (o := (.ins (He.ga K "Helper") dx (putF "held_counts" (.ref ct) (putF "held_out" (.non) (putF "held_done" (.ref d) (putF "held_flying" (.ref y) (putF "held_next" (.int 0) (putF "held_ring" (.ref r) (putF "held_room" (.non) (putF "held_burst" (.int (B : Nat)) (putF "held_width" (.int (W : Nat)) (putF "held_store" (.ref p) [])))))))))))) (by simp)
    refine kk r y d ct _ nr0 ny0 nd0 nct0 ⟨⟨dx, upd_same⟩, ?_, StepsAt.nil _, ?_, (fun x hx => by cases hx), ?_, ?_, S.keep kp10 (by simpa using qp.symm) (by simpa using qc.symm) (by simpa using qf.symm), ?_, ⟨.nil, (fun x hx => by cases hx), (fun x hx => by cases hx), Nat.zero_le _, (fun s hs => by cases hs), (fun s hs => by cases hs), Nat.zero_le _, Nat.le_refl _, w1, w4, b1, b16⟩⟩ kp10
    · show (upd _ q _) r = _
      rw [upd_ne qr.symm]
      exact s9 _ _ hr8
    · show (upd _ q _) y = _
      rw [upd_ne qy.symm]
      exact s9 _ _ hy8
    · show (upd _ q _) d = _
      rw [upd_ne qd.symm]
      exact s9 _ _ hd8
    · show (upd _ q _) ct = _
      rw [upd_ne qct.symm]
      exact hct9
    · have pr := ne_of_none hp nr0
      have py := ne_of_none hp ny0
      have pd := ne_of_none hp nd0
      have pct := ne_of_none hp nct0
      have cr := ne_of_none S.hc nr0
      have cy := ne_of_none S.hc ny0
      have cd := ne_of_none S.hc nd0
      have cct := ne_of_none S.hc nct0
      have fr := ne_of_none S.hf nr0
      have fy := ne_of_none S.hf ny0
      have fd := ne_of_none S.hf nd0
      have fct := ne_of_none S.hf nct0
      show [q, p, r, y, d, ct, c, f].Nodup
      simp only [List.nodup_cons, List.mem_cons, List.not_mem_nil, or_false, not_or, not_false_eq_true, List.nodup_nil, and_true]
      exact ⟨⟨qp, qr, qy, qd, qct, qc, qf⟩, ⟨pr, py, pd, pct, pc, pf⟩, ⟨ry, rd, rct, cr.symm, fr.symm⟩, ⟨yd, yct, cy.symm, fy.symm⟩, ⟨dct, cd.symm, fd.symm⟩, ⟨cct.symm, fct.symm⟩, S.cf⟩
end
end Hl
end

section
set_option Elab.async false
set_option linter.all false
set_option maxRecDepth 100000
set_option maxHeartbeats 4000000
/-! Turns: what stays from one to the next. -/
namespace Hl
open PySem PySem.Spec PyProof.Rows L2
structure Kin (h0 h : Hd) : Prop where
  p : h.p = h0.p
  c : h.c = h0.c
  f : h.f = h0.f
  r : h.r = h0.r
  y : h.y = h0.y
  d : h.d = h0.d
  ct : h.ct = h0.ct
  W : h.W = h0.W
  B : h.B = h0.B
  ring : h.ring = h0.ring
theorem Kin.refl (h : Hd) : Kin h h := ⟨rfl, rfl, rfl, rfl, rfl, rfl, rfl, rfl, rfl, rfl⟩
theorem Kin.S {h0 h : Hd} (k : Kin h0 h) (q : Addr) : h.S q = h0.S q := by
  show [q, h.p, h.r, h.y, h.d, h.ct, h.c, h.f] = [q, h0.p, h0.r, h0.y, h0.d, h0.ct, h0.c, h0.f]
  rw [k.p, k.r, k.y, k.d, k.ct, k.c, k.f]
structure Run (K : PySem.W.Frag) (H : Hp) (q : Addr) (h0 h : Hd) (n : Nat) : Prop where
  hb : HB K H q h
  kin : Kin h0 h
  good : Good h.ring h.W h.nx h.fly
  fin : final h.ring h.nx h.fly h.m = final h0.ring h0.nx h0.fly h0.m
  cnt : h.k0 + h.k3 = h0.k0 + h0.k3 + n
  todo : todo h.ring h.B h.nx h.fly + n = todo h0.ring h0.B h0.nx h0.fly
theorem Run.zero {K : PySem.W.Frag} {H : Hp} {q : Addr} {h : Hd} (hb : HB K H q h) (g : Good h.ring h.W h.nx h.fly) : Run K H q h h 0 := ⟨hb, Kin.refl h, g, rfl, by simp, by simp⟩
theorem Run.same {K : PySem.W.Frag} {H H' : Hp} {q : Addr} {h0 h : Hd} {n : Nat} (r : Run K H q h0 h n) (s : Same H H') : Run K H' q h0 h n := ⟨r.hb.same s, r.kin, r.good, r.fin, r.cnt, r.todo⟩
theorem mayB_lt {h : Hd} (hm : mayB h = true) : h.nx < h.ring.length := by
  unfold mayB at hm
  exact of_decide_eq_true (Bool.and_eq_true_iff.mp hm).1
theorem Run.begin {K : PySem.W.Frag} {H H' : Hp} {q : Addr} {h0 h h' : Hd} {n : Nat} (r : Run K H q h0 h n) (hc : h0.W = 1 ∨ Clear h0.ring) (hm : mayB h = true) (b : Begun h h') (hb' : HB K H' q h') : Run K H' q h0 h' (n + 1) := by
  have hlt := mayB_lt hm
  have kin := r.kin
  unfold mayB at hm
  have hm2 := (Bool.and_eq_true_iff.mp hm).2
  unfold Begun at b
  cases hbar : (stepAt h.ring h.nx).bar with
  | true =>
    rw [hbar] at hm2 b
    rw [if_pos rfl] at hm2 b
    obtain ⟨fl', rfl⟩ := b
    have fe : h.fa = [] := List.isEmpty_iff.mp hm2
    have fly0 : h.fly = [] := by show h.fa.map _ = []; rw [fe]; rfl
    have g := r.good
    have fi := r.fin
    have td := r.todo
    rw [fly0] at g fi td
    refine ⟨hb', ⟨kin.p, kin.c, kin.f, kin.r, kin.y, kin.d, kin.ct, kin.W, kin.B, kin.ring⟩, ?_, ?_, ?_, ?_⟩
    · show Good h.ring h.W (h.nx + 1) h.fly
      rw [fly0]
      exact g.bar hlt
    · show final h.ring (h.nx + 1) h.fly h.m = _
      rw [fly0, final_bar hlt hbar]
      exact fi
    · show h.k0 + 1 + h.k3 = h0.k0 + h0.k3 + ((n + 1 : Nat) : Int)
      have := r.cnt
      omega
    · show Hl.todo h.ring h.B (h.nx + 1) h.fly + (n + 1) = _
      rw [fly0]
      rw [todo_bar hlt hbar] at td
      omega
  | false =>
    rw [hbar] at hm2 b
    rw [if_neg Bool.false_ne_true] at hm2 b
    obtain ⟨a, rfl⟩ := b
    have hw : h.fly.length < h.W := by
      have := of_decide_eq_true hm2
      rw [List.length_map]
      exact this
    have fl : (h.fa ++ [(((h.nx, 0, 0) : Fl), a)]).map (fun x : Fl × Addr => x.1) = h.fly ++ [(h.nx, 0, 0)] := by rw [List.map_append]; rfl
    have okn := r.hb.v.ok _ (List.mem_of_getElem? (stepAt_get hlt))
    refine ⟨hb', ⟨kin.p, kin.c, kin.f, kin.r, kin.y, kin.d, kin.ct, kin.W, kin.B, kin.ring⟩, ?_, ?_, ?_, ?_⟩
    · show Good h.ring h.W (h.nx + 1) ((h.fa ++ [(((h.nx, 0, 0) : Fl), a)]).map (fun x : Fl × Addr => x.1))
      rw [fl]
      exact r.good.begin hlt hbar okn hw (by rw [kin.W, kin.ring]; exact hc)
    · show final h.ring (h.nx + 1) ((h.fa ++ [(((h.nx, 0, 0) : Fl), a)]).map (fun x : Fl × Addr => x.1)) h.m = _
      rw [fl, final_begin _ hlt]
      exact r.fin
    · show h.k0 + 1 + h.k3 = h0.k0 + h0.k3 + ((n + 1 : Nat) : Int)
      have := r.cnt
      omega
    · show Hl.todo h.ring h.B (h.nx + 1) ((h.fa ++ [(((h.nx, 0, 0) : Fl), a)]).map (fun x : Fl × Addr => x.1)) + (n + 1) = _
      rw [fl]
      have td := r.todo
      rw [todo_begin _ hlt hbar] at td
      omega
theorem Run.move {K : PySem.W.Frag} {H H' : Hp} {q : Addr} {h0 h : Hd} {n k d : Nat} {t : Int} {a : Addr} (r : Run K H q h0 h n) (hx : ((k, d, t), a) ∈ h.fa) {fa' : List (Fl × Addr)} {dn' : List Nat} {k1' k2' z' : Int}
    (hb' : HB K H' q { h with fa := fa', m := (runP (stepAt h.ring k) (((stepAt h.ring k).parts.drop d).take h.B) (h.m, t)).1, done := dn', k1 := k1', k2 := k2', k3 := h.k3 + 1, z := z' })
    (hf : fa'.map (·.1) = moved h.ring k (d + (((stepAt h.ring k).parts.drop d).take h.B).length) (runP (stepAt h.ring k) (((stepAt h.ring k).parts.drop d).take h.B) (h.m, t)).2 h.fly) :
    Run K H' q h0 { h with fa := fa', m := (runP (stepAt h.ring k) (((stepAt h.ring k).parts.drop d).take h.B) (h.m, t)).1, done := dn', k1 := k1', k2 := k2', k3 := h.k3 + 1, z := z' } (n + 1) := by
  have kin := r.kin
  have hm : (k, d, t) ∈ h.fly := List.mem_map.mpr ⟨_, hx, rfl⟩
  have dn := r.good.dn _ hm
  have dn : d < (stepAt h.ring k).parts.length := dn
  have t0 : 0 ≤ t := r.hb.v.nn _ hx
  have klt : k < h.ring.length := Nat.lt_of_lt_of_le (r.hb.v.lt _ hx) r.hb.v.nxl
  have sok := r.hb.v.ok _ (List.mem_of_getElem? (stepAt_get klt))
  refine ⟨hb', ⟨kin.p, kin.c, kin.f, kin.r, kin.y, kin.d, kin.ct, kin.W, kin.B, kin.ring⟩, ?_, ?_, ?_, ?_⟩
  · show Good h.ring h.W h.nx (fa'.map (·.1))
    rw [hf]
    exact r.good.move hm (by rw [List.length_take, List.length_drop]; omega) (runP_byte sok _ r.hb.st.b t0).2.1
  · show final h.ring h.nx (fa'.map (·.1)) (runP (stepAt h.ring k) (((stepAt h.ring k).parts.drop d).take h.B) (h.m, t)).1 = _
    rw [hf, final_move r.good hm]
    exact r.fin
  · show h.k0 + (h.k3 + 1) = h0.k0 + h0.k3 + ((n + 1 : Nat) : Int)
    have := r.cnt
    omega
  · show Hl.todo h.ring h.B h.nx (fa'.map (·.1)) + (n + 1) = _
    rw [hf]
    have td := r.todo
    rw [todo_move r.good r.hb.v.b1 hm (t' := (runP (stepAt h.ring k) (((stepAt h.ring k).parts.drop d).take h.B) (h.m, t)).2)] at td
    omega
/-- nothing flies, and it is not the end: a next one may be begun -/
theorem may_of_empty {h : Hd} (v : HV h) (e : h.fa = []) (hlt : h.nx < h.ring.length) : mayB h = true := by
  unfold mayB
  rw [decide_eq_true hlt, Bool.true_and, e]
  cases (stepAt h.ring h.nx).bar
  · exact decide_eq_true (show 0 < h.W from v.w1)
  · rfl
theorem Run.ended {K : PySem.W.Frag} {H : Hp} {q : Addr} {h0 h : Hd} {n : Nat} (r : Run K H q h0 h n) (e : h.fa = []) (hn : h.nx = h.ring.length) : h.m = final h0.ring h0.nx h0.fly h0.m ∧ n = Hl.todo h0.ring h0.B h0.nx h0.fly := by
  have fi := r.fin
  have td := r.todo
  have fly0 : h.fly = [] := by show h.fa.map _ = []; rw [e]; rfl
  rw [fly0, hn] at fi td
  rw [final_done] at fi
  rw [todo_done] at td
  exact ⟨fi, by omega⟩
end Hl
end

section
set_option Elab.async false
set_option linter.all false
set_option maxRecDepth 100000
set_option maxHeartbeats 8000000
namespace Hl
open PySem PySem.Spec PyProof.Rows L2
theorem flat_pairs {K : PySem.W.Frag} {H : Hp} : ∀ ts : List Addr, (∀ p, p ∈ ts → ∃ a b, H p = some (.tup [.int a, .int b])) → Flat5 K H (refsV ts)
  | [], _ => ⟨[], .nil, by simp⟩
  | p :: r, h => by
    obtain ⟨ds, dp, sm⟩ := flat_pairs (K := K) r fun x hx => h x (List.mem_cons_of_mem _ hx)
    obtain ⟨a, b, e⟩ := h p List.mem_cons_self
    refine ⟨.tuple [.int a, .int b] :: ds, .cons (.tup (SqT.of e) (.cons (.int a) (.cons (.int b) .nil))) dp, fun d hd => ?_⟩
    rcases List.mem_cons.mp hd with rfl | hd
    · exact small_tup (by
        intro d hd
        simp only [List.mem_cons, List.not_mem_nil, or_false] at hd
        rcases hd with rfl | rfl <;> simp [PyData.canLay0, PyData.depth])
    · exact sm d hd
def sp_end_of (K : PySem.W.Frag) : Sp := fun vs H Q _ => ∃ q h, vs = [.ref q] ∧ HB K H q h ∧ Good h.ring h.W h.nx h.fly ∧ (h.W = 1 ∨ Clear h.ring) ∧
  ∀ H' h' n, Run K H' q h h' n → h'.fa = [] → h'.nx = h'.ring.length → KeepX (h.S q) H H' → Q (.int (n : Nat)) H'
section
variable {P : Program} {w : World} {K : PySem.W.Frag} {mg : Str → Option Value} {base : Heap}
abbrev N_end_of : List Str := ["helper", "turns", "is_on", "flying"]
theorem sc_end_of : FnScope N_end_of ["helper"] (defScope s_end_of) := ⟨rfl, rfl, rfl, by decide +kernel, rfl, by decide +kernel, by decide +kernel⟩
theorem F_end_of (T : Txt K mg) (TW : TxtW K w) {fd : FuncData} (F : FnP K "end_of" "end_of" s_end_of [] (He.fAd K ("end_of", none)) fd) : FnOk P w K mg base CX0 6 (He.fAd K ("end_of", none)) fd ["helper"] (sp_end_of K) := by
  have M_Helper_flying := M_Helper_flying (P := P) (w := w) (base := base) T TW
  have M_Helper_halted := M_Helper_halted (P := P) (w := w) (base := base) T TW
  have M_Helper_may_begin := M_Helper_may_begin (P := P) (w := w) (base := base) T TW
  have M_Helper_move := M_Helper_move (P := P) (w := w) (base := base) T TW
  have M_Helper_begin := M_Helper_begin (P := P) (w := w) (base := base) T TW
  refine F.ok sc_end_of (fun vs H Q E h => ?_) (fun cdv A outer s H vs Q E hr h => ?_)
  · obtain ⟨_, _, rfl, _⟩ := h
    rfl
  · obtain ⟨q, h0, rfl, hb0, g0, hc, kk⟩ := h
    refine ⟨_, PSs.nox (pss_cons (ps_asg (pe_tup (pa_cons pe_int (pa_cons pe_bl pa_nil))) (pg_tupK (K := K) (n := 2) rfl (pgs_cons (pg_name (i := 1) sc_end_of.nd rfl (Or.inl rfl)) (pgs_cons (pg_name (i := 2) sc_end_of.nd rfl (Or.inl rfl)) pgs_nil))))
      (pss_cons (ps_while PassesOwn.never (pt_val (pv 2))
        (pss_cons (ps_set (i := 3) sc_end_of.nd rfl (Or.inl rfl) (pe_ifExp (pt_cmpR op_isN (pe_mth0 (pv 0) T.c_Helper M_Helper_halted hr) pe_non (nomark _)) (pe_mth0 (pv 0) T.c_Helper M_Helper_flying hr) (pe_tup pa_nil)))
        (pss_cons (ps_set (i := 2) sc_end_of.nd rfl (Or.inl rfl) (pe_or (pe_cmpR (op_neT0 hr.units) (pv 3) (pe_tup pa_nil) (nomark _)) (pe_one (pe_mth0 (pv 0) T.c_Helper M_Helper_may_begin hr))))
        (pss_cons (ps_if (pt_cmpR (op_neT0 hr.units) (pv 3) (pe_tup pa_nil) (nomark _)) (pss_one (ps_expr (pe_mth (pv 0) T.c_Helper M_Helper_move hr (pa_cons (pe_ix ix_tup (pe_ix ix_tup (pv 3) pe_int (fun _ _ => rfl)) pe_int (fun _ _ => rfl)) pa_nil)))) (pss_one (ps_if (pt_val (pv 2)) (pss_one (ps_expr (pe_mth0 (pv 0) T.c_Helper M_Helper_begin hr))) pss_nil)))
        (pss_one (ps_aug (i := 1) sc_end_of.nd rfl (Or.inl rfl) (pe_callTy call_int1 (by rfl) T.r_int (by decide +kernel) (pa_cons (pv 2) pa_nil)) ip_add))))))
      (pss_one (ps_ret (pv 1))))), ?_⟩
    refine ⟨by show 2 ≤ sizeLine; decide, fun t nt => ⟨t, _, rfl, SqT.of upd_same, rfl, _, _, rfl, _, _, rfl, rfl, ?_⟩⟩
    have s0 := same_new (o := .tup [.int 0, .bl true]) nt
    refine ⟨fun m σ H1 => ∃ h n on x3, Run K H1 q h0 h n ∧ σ = [some (.ref q), some (.int (n : Nat)), some (.bl on), x3] ∧ KeepX (h0.S q) H H1 ∧ (on = false → h.fa = [] ∧ h.nx = h.ring.length) ∧ m = todo h.ring h.B h.nx h.fly + (if on = true then 1 else 0), ⟨_, h0, 0, true, none, Run.zero (hb0.same s0) g0, rfl, s0.keep, (fun z => by cases z), rfl⟩, ?_⟩
    rintro m σ H1 ⟨h, n, on, x3, r, rfl, kp, hoff, rfl⟩
    refine ⟨_, rfl, on, rfl, ?_⟩
    cases on with
    | false =>
      refine iteF ?_
      obtain ⟨o1, o2⟩ := hoff rfl
      exact ⟨_, rfl, kk H1 h n r o1 o2 kp⟩
    | true =>
      refine iteT ?_
      rw [if_pos rfl]
      refine ⟨fun σ' H' => ∃ m', m' < todo h.ring h.B h.nx h.fly + 1 ∧ ∃ h' n' on' x3', Run K H' q h0 h' n' ∧ σ' = [some (.ref q), some (.int (n' : Nat)), some (.bl on'), x3'] ∧ KeepX (h0.S q) H H' ∧ (on' = false → h'.fa = [] ∧ h'.nx = h'.ring.length) ∧ m' = todo h'.ring h'.B h'.nx h'.fly + (if on' = true then 1 else 0), fun σ' H' p => p, ?_⟩
      obtain ⟨dx, hq⟩ := r.hb.ob
      refine ⟨_, rfl, q, dx, _, rfl, hq, rfl, q, h, rfl, r.hb, rfl, _, rfl, iteT ?_⟩
      refine ⟨_, rfl, q, dx, _, rfl, hq, rfl, q, h, rfl, r.hb, fun H2 t ts s2 nt ht tl tt => ?_⟩
      have r2 := r.same s2
      have hq2 := s2 _ _ hq
      have kp2 := kp.same s2
      refine ⟨_, rfl, by show 0 ≤ sizeLine; decide, fun b nb => ?_⟩
      have s3 := same_new (o := .tup []) nb
      have r3 := r2.same s3
      have hq3 := s3 _ _ hq2
      have kp3 := kp2.same s3
      have ht3 := s3 _ _ ht
      have flat : ∀ {Hx : Hp}, Same (upd H2 b (.tup [])) Hx → Flat5 K Hx (refsV ts) := fun {Hx} sx => flat_pairs ts fun p hp => by
        obtain ⟨i, hi⟩ := List.mem_iff_getElem?.mp hp
        have il : i < h.fa.length := tl ▸ (List.getElem?_eq_some_iff.mp hi).1
        exact ⟨_, _, sx _ _ (s3 _ _ (tt i _ p (List.getElem?_eq_getElem il) hi))⟩
      refine ⟨t, b, _, rfl, rfl, ht3, upd_same, flat (Same.refl _), _, rfl, ?_⟩
      have tt3 : ∀ (i : Nat) (x : Fl × Addr) (p : Addr), h.fa[i]? = some x → ts[i]? = some p → (upd H2 b (.tup [])) p = some (.tup [.int (x.1.1 : Nat), .int (x.1.2.1 : Nat)]) := fun i x p e1 e2 => s3 _ _ (tt i x p e1 e2)
      generalize upd H2 b (.tup []) = H3 at r3 hq3 kp3 ht3 flat tt3 ⊢
      cases hfa : h.fa with
      | nil =>
        have ts0 : ts = [] := List.length_eq_zero_iff.mp (by rw [tl, hfa]; rfl)
        subst ts0
        refine iteF ?_
        refine ⟨_, rfl, q, dx, _, rfl, hq3, rfl, q, h, rfl, r3.hb, fun H4 s4 => ?_⟩
        have r4 := r3.same s4
        have hq4 := s4 _ _ hq3
        have kp4 := kp3.same s4
        refine ⟨_, rfl, by show 0 ≤ sizeLine; decide, fun b2 nb2 => ?_⟩
        have s5 := same_new (o := .tup []) nb2
        have r5 := r4.same s5
        have hq5 := s5 _ _ hq4
        have kp5 := kp4.same s5
        refine ⟨t, b2, _, rfl, rfl, s5 _ _ (s4 _ _ ht3), upd_same, flat (Same.trans s4 s5), _, rfl, iteF ?_⟩
        refine ⟨_, rfl, _, rfl, ?_⟩
        cases hm : mayB h with
        | false =>
          refine iteF ?_
          refine ⟨_, rfl, _, rfl, .inr ⟨_, rfl, _, _, rfl, rfl, ?_⟩⟩
          have e : h.nx = h.ring.length := by
            have := r.hb.v.nxl
            by_cases c : h.nx < h.ring.length
            · rw [may_of_empty r.hb.v hfa c] at hm
              cases hm
            · omega
          exact ⟨_, Nat.lt_succ_self _, h, n, false, _, r5, by simp; rfl, kp5, fun _ => ⟨hfa, e⟩, rfl⟩
        | true =>
          refine iteT ?_
          refine ⟨_, rfl, q, dx, _, rfl, hq5, rfl, q, h, rfl, r5.hb, hm, fun H6 h6 hb6 bg k6 => ?_⟩
          have r6 := r5.begin hc hm bg hb6
          rw [r.kin.S q] at k6
          refine ⟨_, rfl, _, rfl, .inr ⟨_, rfl, _, _, rfl, rfl, ?_⟩⟩
          have td := r.todo
          have td6 := r6.todo
          exact ⟨_, (by omega : todo h6.ring h6.B h6.nx h6.fly + 1 < _), h6, n + 1, true, _, r6, by simp; rfl, kp5.trans k6, (fun z => by cases z), rfl⟩
      | cons x0 rest =>
        obtain ⟨⟨k, d, tt0⟩, a0⟩ := x0
        have hx0 : (((k, d, tt0) : Fl), a0) ∈ h.fa := by rw [hfa]; exact List.mem_cons_self
        obtain ⟨p0, tr, rfl⟩ : ∃ p0 tr, ts = p0 :: tr := by
          cases ts with
          | nil => rw [hfa] at tl; cases tl
          | cons p0 tr => exact ⟨p0, tr, rfl⟩
        have hp0 := tt3 0 _ p0 (by rw [hfa]; rfl) rfl
        have dn : d < (stepAt h.ring k).parts.length := r.good.dn _ (List.mem_map.mpr ⟨_, hx0, rfl⟩)
        refine iteT ?_
        refine ⟨_, rfl, by show 0 ≤ sizeLine; decide, fun b2 nb2 => ?_⟩
        have s5 := same_new (o := .tup []) nb2
        have r5 := r3.same s5
        have hq5 := s5 _ _ hq3
        have kp5 := kp3.same s5
        refine ⟨t, b2, _, rfl, rfl, s5 _ _ ht3, upd_same, flat s5, _, rfl, iteT ?_⟩
        refine ⟨_, rfl, q, dx, _, rfl, hq5, rfl, _, rfl, t, _, _, _, rfl, rfl, SqT.of (s5 _ _ ht3), atI_nat (j := 0) rfl, p0, _, _, _, rfl, rfl, SqT.of (s5 _ _ hp0), atI_nat (j := 0) rfl, q, h, k, d, tt0, a0, rfl, r5.hb, hx0, dn, fun H6 fa' dn' k1' k2' z' rr hb6 hf6 k6 => ?_⟩
        have r6 := r5.move hx0 hb6 hf6
        rw [r.kin.S q] at k6
        refine ⟨_, rfl, _, rfl, .inr ⟨_, rfl, _, _, rfl, rfl, ?_⟩⟩
        have td := r.todo
        have td6 := r6.todo
        exact ⟨_, (by omega : todo _ _ _ _ + 1 < _), _, n + 1, true, _, r6, by simp; rfl, kp5.trans k6, (fun z => by cases z), rfl⟩
theorem D_end_of (T : Txt K mg) (TW : TxtW K w) : DefAt P w K mg base "end_of" 6 ["helper"] (sp_end_of K) := by
  obtain ⟨fd, F⟩ := T.f_end_of
  exact ⟨He.fAd K ("end_of", none), fd, T.g_end_of, F.kp, F.bindsN (fun _ _ _ _ _ _ us hl => match us, hl with | [_], _ => rfl), F_end_of T TW F⟩
def EndKAt (P : Program) (w : World) (K : PySem.W.Frag) (mg : Str → Option Value) (base : Heap) (k : Nat) : Prop :=
  ∃ f fd g, mg "end_of" = some (.ref f) ∧ PySem.W.keepIn K (.ref f) = true ∧ FnOk P w K mg base CX0 k f fd ["helper"] (sp_end_of K) ∧ KBn K fd ["helper"] 0 ["helper"] g (fun vs zs => vs ++ zs)
theorem D_endK (T : Txt K mg) (TW : TxtW K w) : EndKAt P w K mg base 6 := by
  obtain ⟨fd, F⟩ := T.f_end_of
  have FO := F_end_of (P := P) (w := w) (base := base) T TW F
  have kp := F.kp
  refine ⟨He.fAd K ("end_of", none), fd, fun us ws => us ++ ws, T.g_end_of, kp, FO, ?_⟩
  obtain ⟨oc, od, dV, kV, doc, pm, an, cdv, ct, osl, rfl, lk, hcd, hD, hK⟩ := F.ex
  rcases hD with ⟨_, rfl⟩ | ⟨e, _⟩
  · refine ⟨fun s us ws X l1 l2 => ?_, fun r1 r2 => r1.append r2⟩
    match us, ws, l1, l2 with
    | [], [z], _, _ => exact .of_eq rfl
  · exact absurd rfl e
end
section
variable {X : Cx} {k j : Nat} {f : Addr} {fd : FuncData} {ps ks : List Str} {sp : Sp} {E : XK} {x : Str} {p pos : Pos} {kws : List Keyword} {tk : TA} {g : List Value → List Value → List Value} {gV : List V → List V → List V} {CX : CXT}
theorem pe_endKw (D : EndKAt X.prog X.w X.K X.mg X.base k) (hr : Room j X.A) (hg : Gl X "end_of") (hkw : PK X kws tk) (hkj : k ≤ j := by decide) (hall : (backToKw pos (keywordEach kws X.env)).all (·.1.isSome) = true := by rfl) (hks : (backToKw pos (keywordEach kws X.env)).filterMap (·.1) = [("helper" : Str)] := by rfl)
    (hdb : (("end_of" : Str) == ("__debug__" : Str)) = false := by decide) (hpl : ((backTo pos (starEach [] X.env)).any (·.1) || (backToKw pos (keywordEach kws X.env)).any (·.1.isNone)) = false := by rfl) :
    PE X (.Call (.Name "end_of" p) [] kws pos) (tCallN 0 1 (sp_end_of X.K) (fun vs zs => vs ++ zs) E0 tNil tk) := by
  obtain ⟨f, fd, g, hm, hk, F, hb⟩ := D
  exact pe_callN0 F (hr.mono hkj) hg hm hk hb (show Passes CX0 X E0 from pass0) hkw hall hks hdb hpl
end
end Hl
end

section
set_option Elab.async false
set_option linter.all false
set_option maxRecDepth 100000
set_option maxHeartbeats 8000000
/-! the law's own: the draws -/
namespace Hl
open PySem PySem.Spec PyProof.Rows L2
def dsK (l c : Int) (a : Nat) : List (Key × V) := [(Sum.inr "left", .int l), (Sum.inr "cell", .int c), (Sum.inr "at", .int (a : Nat))]
def Dst (H : Hp) (d : Addr) (B : Nat) : Prop := ∃ l c a, H d = some (.dK (dsK l c a)) ∧ 0 ≤ l ∧ a ≤ B
theorem Dst.mono {H : Hp} {d : Addr} {B B' : Nat} (h : Dst H d B) (hB : B ≤ B') : Dst H d B' := by
  obtain ⟨l, c, a, e, h1, h2⟩ := h
  exact ⟨l, c, a, e, h1, Nat.le_trans h2 hB⟩
theorem Dst.same {H H' : Hp} {d : Addr} {B : Nat} (h : Dst H d B) (s : Same H H') : Dst H' d B := by
  obtain ⟨l, c, a, e, h1, h2⟩ := h
  exact ⟨l, c, a, s _ _ e, h1, h2⟩
theorem Dst.keep {H H' : Hp} {d : Addr} {B : Nat} {S : List Addr} (h : Dst H d B) (s : KeepX S H H') (n : d ∉ S) : Dst H' d B := by
  obtain ⟨l, c, a, e, h1, h2⟩ := h
  exact ⟨l, c, a, s _ _ e n, h1, h2⟩
theorem ds_left (l c : Int) (a : Nat) : valV (dsK l c a) (Sum.inr "left") = some (.int l) := by rfl
theorem ds_cell (l c : Int) (a : Nat) : valV (dsK l c a) (Sum.inr "cell") = some (.int c) := by rfl
theorem ds_at (l c : Int) (a : Nat) : valV (dsK l c a) (Sum.inr "at") = some (.int (a : Nat)) := by rfl
theorem ds_put1 (l c y : Int) (a : Nat) : putK (dsK l c a) (Sum.inr "left") (.int y) = dsK y c a := by rfl
theorem ds_put2 (l c : Int) (a b : Nat) : putK (dsK l c a) (Sum.inr "at") (.int (b : Nat)) = dsK l c b := by rfl
def sp_law_begun (K : PySem.W.Frag) : Sp := fun vs H Q _ => ∃ a ns b, vs = [.ref a, .int (b : Nat)] ∧ SqL K H a (intsV ns) ∧ ns.length ≤ 63 ∧ b < 100 ∧ ∀ H' d, Same H H' → H d = none → Dst H' d 0 → Q (.ref d) H'
def sp_law_draw (K : PySem.W.Frag) : Sp := fun vs H Q _ => ∃ d B n, vs = [.ref d, .int (n : Nat)] ∧ 0 < n ∧ n < 1000000 ∧ Dst H d B ∧ B ≤ 1000000000 ∧ ∀ (r : Nat) H', r < n → KeepX [d] H H' → Dst H' d (B + 1) → Q (.int (r : Nat)) H'
def sp_law_pick (K : PySem.W.Frag) : Sp := fun vs H Q _ => ∃ d B l xs, vs = [.ref d, .ref l] ∧ H l = some (.lst xs) ∧ 0 < xs.length ∧ xs.length < 1000 ∧ Dst H d B ∧ B ≤ 1000000000 ∧ ∀ x H', x ∈ xs → KeepX [d] H H' → Dst H' d (B + 1) → Q x H'
section
variable {P : Program} {w : World} {K : PySem.W.Frag} {mg : Str → Option Value} {base : Heap}
abbrev N_law_begun : List Str := ["_law_script", "_law_bout", "_law_folded", "_law_most", "_law_drawn", "_law_own"]
theorem sc_law_begun : FnScope N_law_begun ["_law_script", "_law_bout"] (defScope s_law_begun) := ⟨rfl, rfl, rfl, by decide +kernel, rfl, by decide +kernel, by decide +kernel⟩
theorem D_law_begun (T : Txt K mg) (TW : TxtW K w) : DefAt P w K mg base "_law_begun" 1 ["_law_script", "_law_bout"] (sp_law_begun K) := by
  obtain ⟨fd, F⟩ := T.f_law_begun
  refine ⟨He.fAd K ("_law_begun", none), fd, T.g_law_begun, F.kp, F.bindsN (fun _ _ _ _ _ _ us hl => match us, hl with | [_, _], _ => rfl), ?_⟩
  refine F.ok sc_law_begun (fun vs H Q E h => ?_) (fun cdv A outer s H vs Q E hr h => ?_)
  · obtain ⟨_, _, _, rfl, _⟩ := h
    rfl
  · obtain ⟨a, ns, b, rfl, ha, hn, hb, kk⟩ := h
    refine ⟨_, PSs.nox (pss_cons (ps_par (i := 2) (j := 3) rfl sc_law_begun.nd rfl rfl (by decide) rfl rfl (pa_cons (pe_op op_add (pv 1) pe_int) (pa_cons (pe_op op_mul (pe_op op_mul (pe_op op_mul (pe_op op_mul pe_int pe_int) pe_int) pe_int) pe_int) pa_nil)) (by rfl))
      (pss_cons (ps_for PassesOwn.never rfl (pi_list (pv 0)) (pg_name (i := 4) sc_law_begun.nd rfl (Or.inl rfl))
        (pss_one (ps_set (i := 2) sc_law_begun.nd rfl (Or.inl rfl) (pe_op op_modN (pe_op op_add (pe_op op_mul (pv 2) pe_int) (pv 4)) (pv 3)))))
      (pss_cons (ps_set (i := 5) sc_law_begun.nd rfl (Or.inl rfl) (pe_ifExp (pt_cmpR op_lt (pv 1) (pe_callB call_len_seq (by rfl) T.r_len (by decide +kernel) (pa_cons (pv 0) pa_nil)) (nomark _)) (pe_ix ix_list (pv 0) (pv 1) (fun _ _ => rfl)) pe_int))
      (pss_one (ps_ret (pe_disp (pps_cons pe_str (pe_ifExp (pt_cmpR op_ge (pv 5) (pe_op op_pow pe_int pe_int) (nomark _)) (pv 5) pe_int) (pps_cons pe_str (pv 2) (pps_cons pe_str pe_int pps_nil))) (by rfl) (by rfl) (fun z => by cases z) (by decide))))))), ?_⟩
    refine ⟨_, rfl, _, _, rfl, rfl, _, _, rfl, rfl, .inr ⟨by decide, by decide⟩, _, _, rfl, rfl, .inr ⟨by decide, by decide⟩, _, _, rfl, rfl, .inr ⟨by decide, by decide⟩, _, _, rfl, rfl, .inr ⟨by decide, by decide⟩, _, _, rfl, ?_⟩
    refine ⟨_, rfl, a, rfl, ⟨_, ha⟩, for_it (walk_list (xs := intsV ns)) (fun i σ H1 => ∃ (y : Int) (x5 : Option V), H1 = H ∧ σ = [some (.ref a), some (.int (b : Nat)), some (.int y), some (.int (2147483629 * 2147483587 * 2147483579 * 2147483563 * 2147483549)), x5, none]) ⟨_, none, rfl, rfl⟩ (fun i σ H1 _ p => by obtain ⟨_, _, rfl, _⟩ := p; exact ha) (fun i x σ H1 H2 hi p y => ?_) (fun σ H1 p => ?_)⟩
    · obtain ⟨y0, x5, rfl, rfl⟩ := p
      obtain ⟨rfl, ex⟩ := y
      rw [List.getElem?_map] at ex
      obtain ⟨n, en, rfl⟩ := Option.map_eq_some_iff.mp ex
      refine ⟨_, rfl, _, _, rfl, rfl, .inr ⟨by decide, by decide⟩, _, rfl, _, _, rfl, rfl, _, rfl, _, _, rfl, rfl, (by show (2147483629 * 2147483587 * 2147483579 * 2147483563 * 2147483549 : Int) ≠ 0; decide), ?_⟩
      exact ⟨_, _, rfl, rfl⟩
    · obtain ⟨y0, x5, rfl, rfl⟩ := p
      have tail : ∀ own : Int, True := fun _ => trivial
      refine ⟨_, rfl, _, rfl, a, _, rfl, .inl ha, _, _, rfl, rfl, _, rfl, ite2 (fun z => ?_) fun z => ?_⟩
      · have zb : b < (intsV ns).length := by have := of_decide_eq_true z; omega
        have eb : (intsV ns)[b]? = some (V.int (ns.getD b 0)) := by
          rw [List.length_map] at zb
          rw [List.getElem?_map, List.getElem?_eq_getElem zb, List.getD_eq_getElem?_getD, List.getElem?_eq_getElem zb]
          rfl
        refine ⟨_, rfl, _, rfl, a, _, _, _, rfl, rfl, ha, atI_nat eb, fun d nd => ?_⟩
        have sd : ∀ o1 o2, Same H1 (upd (upd H1 d o1) d o2) := fun o1 o2 b o e => by
          have hne : b ≠ d := ne_of_none e nd
          rw [upd_ne hne, upd_ne hne]
          exact e
        refine ⟨_, rfl, _, _, rfl, rfl, ⟨by decide, by decide, by decide⟩, _, _, rfl, rfl, _, rfl, ite2 (fun z2 => ?_) fun z2 => ?_⟩
        · have g : (10 : Int) ^ (18 : Int).toNat ≤ ns.getD b 0 := of_decide_eq_true z2
          refine ⟨_, rfl, _, rfl, upd_same, [(Sum.inr "left", .int (ns.getD b 0)), (Sum.inr "cell", .int y0), (Sum.inr "at", .int 0)], rfl, by show 3 ≤ 15; decide, ?_⟩
          exact kk _ d (sd _ _) nd ⟨ns.getD b 0, y0, 0, upd_same, Int.le_trans (by decide) g, Nat.zero_le _⟩
        · refine ⟨_, rfl, upd_same, [(Sum.inr "left", .int 0), (Sum.inr "cell", .int y0), (Sum.inr "at", .int 0)], rfl, by show 3 ≤ 15; decide, ?_⟩
          exact kk _ d (sd _ _) nd ⟨0, y0, 0, upd_same, Int.le_refl _, Nat.zero_le _⟩
      · refine fun d nd => ?_
        have sd : ∀ o1 o2, Same H1 (upd (upd H1 d o1) d o2) := fun o1 o2 b o e => by
          have hne : b ≠ d := ne_of_none e nd
          rw [upd_ne hne, upd_ne hne]
          exact e
        refine ⟨_, rfl, _, _, rfl, rfl, ⟨by decide, by decide, by decide⟩, _, _, rfl, rfl, _, rfl, ite2 (fun z2 => ?_) fun z2 => ?_⟩
        · have g : (10 : Int) ^ (18 : Int).toNat ≤ (0 : Int) := of_decide_eq_true z2
          refine ⟨_, rfl, _, rfl, upd_same, [(Sum.inr "left", .int ((0 : Int))), (Sum.inr "cell", .int y0), (Sum.inr "at", .int 0)], rfl, by show 3 ≤ 15; decide, ?_⟩
          exact kk _ d (sd _ _) nd ⟨(0 : Int), y0, 0, upd_same, Int.le_trans (by decide) g, Nat.zero_le _⟩
        · refine ⟨_, rfl, upd_same, [(Sum.inr "left", .int 0), (Sum.inr "cell", .int y0), (Sum.inr "at", .int 0)], rfl, by show 3 ≤ 15; decide, ?_⟩
          exact kk _ d (sd _ _) nd ⟨0, y0, 0, upd_same, Int.le_refl _, Nat.zero_le _⟩
abbrev N_law_draw : List Str := ["_law_state", "_law_many", "_law_found", "_law_at", "_law_prime", "_law_mixed"]
theorem sc_law_draw : FnScope N_law_draw ["_law_state", "_law_many"] (defScope s_law_draw) := ⟨rfl, rfl, rfl, by decide +kernel, rfl, by decide +kernel, by decide +kernel⟩
theorem D_law_draw (T : Txt K mg) (TW : TxtW K w) : DefAt P w K mg base "_law_draw" 1 ["_law_state", "_law_many"] (sp_law_draw K) := by
  obtain ⟨fd, F⟩ := T.f_law_draw
  refine ⟨He.fAd K ("_law_draw", none), fd, T.g_law_draw, F.kp, F.bindsN (fun _ _ _ _ _ _ us hl => match us, hl with | [_, _], _ => rfl), ?_⟩
  refine F.ok sc_law_draw (fun vs H Q E h => ?_) (fun cdv A outer s H vs Q E hr h => ?_)
  · obtain ⟨_, _, _, rfl, _⟩ := h
    rfl
  · obtain ⟨d, B, n, rfl, n0, n1, hd, hB, kk⟩ := h
    obtain ⟨l, c, a, hd, l0, aB⟩ := hd
    have g1 : ∀ {l' : Int} {c' : Int} {a' : Nat} {H' : Hp}, H' d = some (.dK (dsK l' c' a')) → DGet H' d (.str "left") (some (.int l')) := fun {l' c' a' H'} e => by
      rw [← ds_left l' c' a']
      exact DGet.k (k := Sum.inr ("left" : Str)) e
    have g2 : ∀ {l' : Int} {c' : Int} {a' : Nat} {H' : Hp}, H' d = some (.dK (dsK l' c' a')) → DGet H' d (.str "cell") (some (.int c')) := fun {l' c' a' H'} e => by
      rw [← ds_cell l' c' a']
      exact DGet.k (k := Sum.inr ("cell" : Str)) e
    have g3 : ∀ {l' : Int} {c' : Int} {a' : Nat} {H' : Hp}, H' d = some (.dK (dsK l' c' a')) → DGet H' d (.str "at") (some (.int (a' : Nat))) := fun {l' c' a' H'} e => by
      rw [← ds_at l' c' a']
      exact DGet.k (k := Sum.inr ("at" : Str)) e
    have fin : ∀ x : Int, ∃ r : Nat, r < n ∧ x.fmod (n : Nat) = (r : Nat) := fun x => by
      have h1 := Int.fmod_nonneg_of_pos x (show (0 : Int) < (n : Nat) by omega)
      have h2 := Int.fmod_lt_of_pos x (show (0 : Int) < (n : Nat) by omega)
      exact ⟨(x.fmod (n : Nat)).toNat, by omega, (Int.toNat_of_nonneg h1).symm⟩
    refine ⟨_, PSs.nox (pss_cons (ps_if (pt_cmpR op_gt (pe_dget (hu_of hr) (pv 0) pe_str (fun _ _ => rfl)) pe_int (nomark _)) (pss_cons (ps_set (i := 2) sc_law_draw.nd rfl (Or.inl rfl) (pe_op op_modN (pe_dget (hu_of hr) (pv 0) pe_str (fun _ _ => rfl)) (pv 1)))
        (pss_cons (ps_dput (hu_of hr) (pv 0) pe_str (pe_op op_fdivN (pe_dget (hu_of hr) (pv 0) pe_str (fun _ _ => rfl)) (pv 1)) rfl)
        (pss_one (ps_ret (pv 2))))) pss_nil)
      (pss_cons (ps_set (i := 3) sc_law_draw.nd rfl (Or.inl rfl) (pe_op op_add (pe_dget (hu_of hr) (pv 0) pe_str (fun _ _ => rfl)) pe_int))
      (pss_cons (ps_dput (hu_of hr) (pv 0) pe_str (pv 3) rfl)
      (pss_cons (ps_set (i := 4) sc_law_draw.nd rfl (Or.inl rfl) (pe_ix ix_list (pe_lst (pa_cons pe_int (pa_cons pe_int (pa_cons pe_int (pa_cons pe_int (pa_cons pe_int pa_nil)))))) (pe_op op_modN (pv 3) pe_int) (fun _ _ => rfl)))
      (pss_cons (ps_set (i := 5) sc_law_draw.nd rfl (Or.inl rfl) (pe_op op_modN (pe_op op_mul (pe_op op_add (pe_op op_add (pe_op op_add (pe_op op_modN (pe_dget (hu_of hr) (pv 0) pe_str (fun _ _ => rfl)) (pv 4)) (pe_op op_mul (pe_op op_mul pe_int (pv 3)) (pv 3))) (pe_op op_mul pe_int (pv 3))) pe_int) pe_int) (pv 4)))
      (pss_one (ps_ret (pe_op op_modN (pe_op op_fdivN (pe_op op_modN (pe_op op_mul (pv 5) (pe_op op_add (pe_op op_modN (pv 5) pe_int) pe_int)) pe_int) pe_int) (pv 1))))))))), ?_⟩
    refine ⟨_, rfl, d, _, rfl, g1 hd, _, _, rfl, rfl, _, rfl, ite2 (fun z => ?_) fun z => ?_⟩
    · have l1 : 0 < l := of_decide_eq_true z
      obtain ⟨r, hr1, er⟩ := fin l
      refine ⟨_, rfl, d, _, rfl, g1 hd, _, rfl, _, _, rfl, rfl, (show ((n : Nat) : Int) ≠ 0 by omega), ?_⟩
      refine ⟨_, rfl, d, _, rfl, g1 hd, _, rfl, _, _, rfl, rfl, ⟨by omega, by omega⟩, _, rfl, d, _, rfl, DPut.k (k := Sum.inr ("left" : Str)) hd (by show 3 < sizeLine; decide), ?_⟩
      refine ⟨_, rfl, ?_⟩
      show Q (.int (l.fmod (n : Nat))) _
      rw [er]
      exact kk r _ hr1 ((KeepX.refl _ H).upd (by simp)) ⟨l.fdiv (n : Nat), c, a, by rw [ds_put1, upd_same], Int.fdiv_nonneg l0 (by omega), Nat.le_succ_of_le aB⟩
    · refine ⟨_, rfl, d, _, rfl, g3 hd, _, _, rfl, rfl, ?_⟩
      refine ⟨_, rfl, _, rfl, d, _, rfl, DPut.k (k := Sum.inr ("at" : Str)) hd (by show 3 < sizeLine; decide), ?_⟩
      have ea : ((a : Nat) : Int) + 1 = ((a + 1 : Nat) : Int) := rfl
      have hd2 : ∀ H0 : Hp, (upd H0 d (.dK (putK (dsK l c a) (Sum.inr "at") (.int ((a + 1 : Nat) : Int))))) d = some (.dK (dsK l c (a + 1))) := fun H0 => by rw [ds_put2, upd_same]
      have efm : (((a : Nat) : Int) + 1).fmod 5 = (((a + 1) % 5 : Nat) : Int) := by
        rw [Int.fmod_eq_emod_of_nonneg _ (by decide)]
        omega
      obtain ⟨p, ep, p0, p1⟩ : ∃ p : Int, [V.int 2147483629, .int 2147483587, .int 2147483579, .int 2147483563, .int 2147483549][(a + 1) % 5]? = some (.int p) ∧ 2147483549 ≤ p ∧ p ≤ 2147483629 := by
        have h5 : (a + 1) % 5 < 5 := Nat.mod_lt _ (by decide)
        generalize (a + 1) % 5 = i at h5
        match i, h5 with
        | 0, _ => exact ⟨_, rfl, by decide, by decide⟩
        | 1, _ => exact ⟨_, rfl, by decide, by decide⟩
        | 2, _ => exact ⟨_, rfl, by decide, by decide⟩
        | 3, _ => exact ⟨_, rfl, by decide, by decide⟩
        | 4, _ => exact ⟨_, rfl, by decide, by decide⟩
      have hd1 := hd2 H
      have k1 : KeepX [d] H (upd H d (.dK (putK (dsK l c a) (Sum.inr "at") (.int ((a + 1 : Nat) : Int))))) := (KeepX.refl _ H).upd (by simp)
      refine ⟨by show 5 ≤ sizeLine; decide, fun pl npl => ⟨_, rfl, _, _, rfl, rfl, (show (5 : Int) ≠ 0 by decide), pl, _, _, .int p, rfl, rfl, SqL.of upd_same, ?_, ?_⟩⟩
      · rw [efm]
        exact atI_nat ep
      have s3 := same_new (o := .lst [.int 2147483629, .int 2147483587, .int 2147483579, .int 2147483563, .int 2147483549]) npl
      have hd3 := s3 _ _ hd1
      have k3 := k1.same s3
      have pn : p ≠ 0 := by omega
      refine ⟨_, rfl, d, _, rfl, g2 hd3, _, rfl, _, _, rfl, rfl, pn, _, rfl, _, _, rfl, rfl, .inl ⟨by decide, by decide⟩, _, rfl, _, _, rfl, rfl, .inr ⟨by omega, by omega⟩, _, _, rfl, rfl, _, rfl, _, _, rfl, rfl, .inl ⟨by decide, by decide⟩, _, _, rfl, rfl, _, _, rfl, rfl, _, _, rfl, rfl, .inr ⟨by decide, by decide⟩, _, rfl, _, _, rfl, rfl, pn, ?_⟩
      have mx : ∀ x : Int, -(2 ^ 64) < x.fmod p ∧ x.fmod p < 2 ^ 64 := fun x => by
        have h1 := Int.fmod_nonneg_of_pos x (show 0 < p by omega)
        have h2 := Int.fmod_lt_of_pos x (show 0 < p by omega)
        exact ⟨by omega, by omega⟩
      refine ⟨_, rfl, _, rfl, _, _, rfl, rfl, (show (65521 : Int) ≠ 0 by decide), _, _, rfl, rfl, _, _, rfl, rfl, .inl (mx _), _, _, rfl, rfl, (show (2147483647 : Int) ≠ 0 by decide), _, _, rfl, rfl, ⟨by decide, by decide⟩, _, rfl, _, _, rfl, rfl, (show ((n : Nat) : Int) ≠ 0 by omega), ?_⟩
      obtain ⟨r, hr1, er⟩ := fin _
      refine Eq.mp (congrArg (fun v => Q (.int v) _) er.symm) (kk r _ hr1 k3 ⟨l, c, a + 1, hd3, l0, Nat.succ_le_succ aB⟩)
end
end Hl
end

section
set_option Elab.async false
set_option linter.all false
set_option maxRecDepth 100000
set_option maxHeartbeats 8000000
namespace Hl
open PySem PySem.Spec PyProof.Rows L2
def sp_law_area (K : PySem.W.Frag) : Sp := fun vs H Q _ => ∃ d B many sz, vs = [.ref d, .int (many : Nat), .int (sz : Nat)] ∧ 10 ≤ many ∧ many ≤ 30 ∧ 1 ≤ sz ∧ sz ≤ 6 ∧ Dst H d B ∧ B ≤ 100000000 ∧ ∀ p A H', A.Ok many → A.size = sz → H p = none → AreaAt H' p A → KeepX [d] H H' → Dst H' d (B + 4) → Q (.ref p) H'
def sp_law_step (K : PySem.W.Frag) : Sp := fun vs H Q _ => ∃ d B many road, vs = [.ref d, .int (many : Nat), .int (road : Nat)] ∧ 10 ≤ many ∧ many ≤ 30 ∧ road ≤ 6 ∧ Dst H d B ∧ B ≤ 10000000 ∧ ∀ p s H', s.Ok many → s.bar = false → H p = none → StepAt H' p s → KeepX [d] H H' → Dst H' d (B + 16) → Q (.ref p) H'
def sp_law_bytes (K : PySem.W.Frag) : Sp := fun vs H Q _ => ∃ d B many, vs = [.ref d, .int (many : Nat)] ∧ 10 ≤ many ∧ many ≤ 30 ∧ Dst H d B ∧ B ≤ 10000000 ∧ ∀ p m H', AllB m → m.length = many → H p = none → H' p = some (.tup (intsV m)) → KeepX [d] H H' → Dst H' d (B + 60) → Q (.ref p) H'
theorem free_ofd {d p B : Nat} {H H1 : Hp} (np : H1 p = none) (k : KeepX [d] H H1) (hdn : ∃ o, H d = some o) (D : Dst H1 d B) : H p = none := by
  obtain ⟨l, c, a, e, _, _⟩ := D
  exact free_of k e np
section
variable {P : Program} {w : World} {K : PySem.W.Frag} {mg : Str → Option Value} {base : Heap}
abbrev N_law_pick : List Str := ["_law_state", "_law_some"]
theorem sc_law_pick : FnScope N_law_pick ["_law_state", "_law_some"] (defScope s_law_pick) := ⟨rfl, rfl, rfl, by decide +kernel, rfl, by decide +kernel, by decide +kernel⟩
theorem D_law_pick (T : Txt K mg) (TW : TxtW K w) : DefAt P w K mg base "_law_pick" 2 ["_law_state", "_law_some"] (sp_law_pick K) := by
  obtain ⟨fd, F⟩ := T.f_law_pick
  have D_law_draw := D_law_draw (P := P) (w := w) (base := base) T TW
  refine ⟨He.fAd K ("_law_pick", none), fd, T.g_law_pick, F.kp, F.bindsN (fun _ _ _ _ _ _ us hl => match us, hl with | [_, _], _ => rfl), ?_⟩
  refine F.ok sc_law_pick (fun vs H Q E h => ?_) (fun cdv A outer s H vs Q E hr h => ?_)
  · obtain ⟨_, _, _, _, rfl, _⟩ := h
    rfl
  · obtain ⟨d, B, l, xs, rfl, hl, x0, x1, hd, hB, kk⟩ := h
    refine ⟨_, PSs.nox (pss_one (ps_ret (pe_ix ix_list (pv 1) (pe_def D_law_draw hr (by rfl) (pa_cons (pv 0) (pa_cons (pe_callB call_len_seq (by rfl) T.r_len (by decide +kernel) (pa_cons (pv 1) pa_nil)) pa_nil))) (fun _ _ => rfl)))), ?_⟩
    refine ⟨_, rfl, _, rfl, _, rfl, l, _, rfl, .inl (SqL.of hl), d, B, xs.length, rfl, x0, by omega, hd, hB, fun r H1 hr1 k1 D1 => ?_⟩
    obtain ⟨l0, c0, a0, e0, _, _⟩ := hd
    have hl1 := k1 _ _ hl (by simpa using ne_of hl e0 (by intro z; cases z))
    exact ⟨l, _, _, xs[r], rfl, rfl, SqL.of hl1, atI_nat (List.getElem?_eq_getElem hr1), kk _ H1 (List.getElem_mem hr1) k1 D1⟩
abbrev N_law_area : List Str := ["_law_state", "_law_many", "_law_size", "_law_count", "_law_pitch"]
theorem sc_law_area : FnScope N_law_area ["_law_state", "_law_many", "_law_size"] (defScope s_law_area) := ⟨rfl, rfl, rfl, by decide +kernel, rfl, by decide +kernel, by decide +kernel⟩
theorem D_law_area (T : Txt K mg) (TW : TxtW K w) : DefAt P w K mg base "_law_area" 2 ["_law_state", "_law_many", "_law_size"] (sp_law_area K) := by
  obtain ⟨fd, F⟩ := T.f_law_area
  have D_law_draw := D_law_draw (P := P) (w := w) (base := base) T TW
  refine ⟨He.fAd K ("_law_area", none), fd, T.g_law_area, F.kp, F.bindsN (fun _ _ _ _ _ _ us hl => match us, hl with | [_, _, _], _ => rfl), ?_⟩
  refine F.ok sc_law_area (fun vs H Q E h => ?_) (fun cdv A outer s H vs Q E hr h => ?_)
  · obtain ⟨_, _, _, _, rfl, _⟩ := h
    rfl
  · obtain ⟨d, B, many, sz, rfl, m0, m1, s1, s2, hd, hB, kk⟩ := h
    have hdn : ∃ o, H d = some o := by
      obtain ⟨l0, c0, a0, e0, _, _⟩ := hd
      exact ⟨_, e0⟩
    have ehalf : ((sz : Nat) : Int).fdiv 2 = ((sz / 2 : Nat) : Int) := by
      rw [Int.fdiv_eq_ediv_of_nonneg _ (by decide)]
      omega
    have emod : ((sz : Nat) : Int).fmod 2 = ((sz % 2 : Nat) : Int) := by
      rw [Int.fmod_eq_emod_of_nonneg _ (by decide)]
      omega
    refine ⟨_, PSs.nox (pss_cons (ps_par (i := 3) (j := 4) rfl sc_law_area.nd rfl rfl (by decide) rfl rfl (pa_cons (pe_op op_fdivN (pv 2) pe_int) (pa_cons (pe_op op_add (pe_op op_fdivN (pv 2) pe_int) (pe_def D_law_draw hr (by rfl) (pa_cons (pv 0) (pa_cons pe_int pa_nil)))) pa_nil)) (by rfl))
      (pss_cons (ps_if (PW.pt (pw_and (pt_cmpR op_eq (pe_op op_modN (pv 2) pe_int) pe_int (nomark _)) (pw_and (pt_cmpR op_le (pe_op op_add (pv 4) (pv 3)) (pv 1) (nomark _)) (pw_and1 (pt_cmpR op_eq (pe_def D_law_draw hr (by rfl) (pa_cons (pv 0) (pa_cons pe_int pa_nil))) pe_int (nomark _)))))) (pss_one (ps_ret (pe_tup (pa_cons (pe_def D_law_draw hr (by rfl) (pa_cons (pv 0) (pa_cons (pe_op op_add (pe_op op_sub (pe_op op_sub (pv 1) (pv 4)) (pv 3)) pe_int) pa_nil))) (pa_cons (pv 3) (pa_cons pe_int (pa_cons (pv 4) pa_nil))))))) pss_nil)
      (pss_one (ps_ret (pe_tup (pa_cons (pe_def D_law_draw hr (by rfl) (pa_cons (pv 0) (pa_cons (pe_op op_add (pe_op op_sub (pv 1) (pv 2)) pe_int) pa_nil))) (pa_cons (pv 2) (pa_cons pe_int (pa_cons (pv 2) pa_nil))))))))), ?_⟩
    refine ⟨_, rfl, _, _, rfl, rfl, ⟨by decide, by decide⟩, _, rfl, _, _, rfl, rfl, ⟨by decide, by decide⟩, _, rfl, d, B, 3, rfl, by decide, by decide, hd, by omega, fun r H1 hr1 k1 D1 => ⟨_, _, rfl, rfl, _, _, rfl, ?_⟩⟩
    refine ⟨_, rfl, _, _, rfl, rfl, (show (2 : Int) ≠ 0 by decide), rfl, _, rfl, ite2 (fun z1 => ?_) fun z1 => ?_⟩
    · have ev : sz % 2 = 0 := by
        have := of_decide_eq_true z1
        injection this with this
        have t2 : ((sz : Nat) : Int).fmod 2 = 0 := this
        rw [emod] at t2
        omega
      refine ⟨_, rfl, _, rfl, _, _, rfl, rfl, _, rfl, _, _, rfl, rfl, _, rfl, ite2 (fun z2 => ?_) fun z2 => ?_⟩
      · have fitI : ((sz : Nat) : Int).fdiv 2 + (r : Nat) + ((sz : Nat) : Int).fdiv 2 ≤ (many : Nat) := of_decide_eq_true z2
        rw [ehalf] at fitI
        refine ⟨_, rfl, d, B + 1, 2, rfl, by decide, by decide, D1, by omega, fun r2 H2 hr2 k2 D2 => ⟨rfl, _, rfl, ite2 (fun z3 => ?_) fun z3 => ?_⟩⟩
        · refine ⟨_, rfl, _, rfl, _, rfl, _, _, rfl, rfl, _, rfl, _, _, rfl, rfl, _, _, rfl, rfl, d, B + 2, many - (sz / 2 + r) - sz / 2 + 1, (by show [V.ref d, V.int (((many : Nat) : Int) - (((sz : Nat) : Int).fdiv 2 + (r : Nat)) - ((sz : Nat) : Int).fdiv 2 + 1)] = _; rw [ehalf, show ((many : Nat) : Int) - (((sz / 2 : Nat) : Int) + (r : Nat)) - ((sz / 2 : Nat) : Int) + 1 = ((many - (sz / 2 + r) - sz / 2 + 1 : Nat) : Int) by omega]), by omega, by omega, D2, by omega, fun r9 H9 hr9 k9 D9 => ?_⟩
          refine ⟨_, rfl, _, rfl, by show 4 ≤ sizeLine; decide, fun p np => ?_⟩
          have s9 := same_new (o := .tup [.int (r9 : Nat), .int (((sz : Nat) : Int).fdiv 2), .int 2, .int (((sz : Nat) : Int).fdiv 2 + (r : Nat))]) np
          have k19 := (k1.trans k2).trans k9
          refine kk p ⟨r9, sz / 2, 2, sz / 2 + r⟩ _ ⟨by show 1 ≤ sz / 2; omega, (by show 1 ≤ 2; decide), Nat.le_add_right _ _, (fun z => by cases z), ?_, ?_⟩ (by show sz / 2 * 2 = sz; omega) (free_ofd np k19 hdn D9) ?_ (k19.same s9) ((D9.same s9).mono (by omega))
          · show r9 + (2 - 1) * (sz / 2 + r) + sz / 2 ≤ many
            omega
          · show 2 * (sz / 2) ≤ 6
            omega
          · show (upd H9 p (.tup [.int (r9 : Nat), .int (((sz : Nat) : Int).fdiv 2), .int 2, .int (((sz : Nat) : Int).fdiv 2 + (r : Nat))])) p = some (.tup [.int (r9 : Nat), .int ((sz / 2 : Nat) : Int), .int ((2 : Nat) : Int), .int ((sz / 2 + r : Nat) : Int)])
            rw [upd_same, ehalf]
            rfl
        · have k12 := k1.trans k2
          refine ⟨_, rfl, _, rfl, _, rfl, _, _, rfl, rfl, _, _, rfl, rfl, d, B + 2, many - sz + 1, (by show [V.ref d, V.int (((many : Nat) : Int) - ((sz : Nat) : Int) + 1)] = _; rw [show ((many : Nat) : Int) - (sz : Nat) + 1 = ((many - sz + 1 : Nat) : Int) by omega]), by omega, by omega, D2, by omega, fun r9 H9 hr9 k9 D9 => ?_⟩
          refine ⟨_, rfl, _, rfl, by show 4 ≤ sizeLine; decide, fun p np => ?_⟩
          have s9 := same_new (o := .tup [.int (r9 : Nat), .int (sz : Nat), .int 1, .int (sz : Nat)]) np
          refine kk p ⟨r9, sz, 1, sz⟩ _ ⟨s1, Nat.le_refl _, Nat.le_refl _, fun _ => rfl, ?_, ?_⟩ (Nat.mul_one sz) (free_ofd np (k12.trans k9) hdn D9) upd_same ((k12.trans k9).same s9) ((D9.same s9).mono (by omega))
          · show r9 + (1 - 1) * sz + sz ≤ many
            omega
          · show 1 * sz ≤ 6
            omega
      · skip
        refine ⟨_, rfl, _, rfl, _, rfl, _, _, rfl, rfl, _, _, rfl, rfl, d, B + 1, many - sz + 1, (by show [V.ref d, V.int (((many : Nat) : Int) - ((sz : Nat) : Int) + 1)] = _; rw [show ((many : Nat) : Int) - (sz : Nat) + 1 = ((many - sz + 1 : Nat) : Int) by omega]), by omega, by omega, D1, by omega, fun r9 H9 hr9 k9 D9 => ?_⟩
        refine ⟨_, rfl, _, rfl, by show 4 ≤ sizeLine; decide, fun p np => ?_⟩
        have s9 := same_new (o := .tup [.int (r9 : Nat), .int (sz : Nat), .int 1, .int (sz : Nat)]) np
        refine kk p ⟨r9, sz, 1, sz⟩ _ ⟨s1, Nat.le_refl _, Nat.le_refl _, fun _ => rfl, ?_, ?_⟩ (Nat.mul_one sz) (free_ofd np (k1.trans k9) hdn D9) upd_same ((k1.trans k9).same s9) ((D9.same s9).mono (by omega))
        · show r9 + (1 - 1) * sz + sz ≤ many
          omega
        · show 1 * sz ≤ 6
          omega
    · skip
      refine ⟨_, rfl, _, rfl, _, rfl, _, _, rfl, rfl, _, _, rfl, rfl, d, B + 1, many - sz + 1, (by show [V.ref d, V.int (((many : Nat) : Int) - ((sz : Nat) : Int) + 1)] = _; rw [show ((many : Nat) : Int) - (sz : Nat) + 1 = ((many - sz + 1 : Nat) : Int) by omega]), by omega, by omega, D1, by omega, fun r9 H9 hr9 k9 D9 => ?_⟩
      refine ⟨_, rfl, _, rfl, by show 4 ≤ sizeLine; decide, fun p np => ?_⟩
      have s9 := same_new (o := .tup [.int (r9 : Nat), .int (sz : Nat), .int 1, .int (sz : Nat)]) np
      refine kk p ⟨r9, sz, 1, sz⟩ _ ⟨s1, Nat.le_refl _, Nat.le_refl _, fun _ => rfl, ?_, ?_⟩ (Nat.mul_one sz) (free_ofd np (k1.trans k9) hdn D9) upd_same ((k1.trans k9).same s9) ((D9.same s9).mono (by omega))
      · show r9 + (1 - 1) * sz + sz ≤ many
        omega
      · show 1 * sz ≤ 6
        omega
end
end Hl
end

section
set_option Elab.async false
set_option linter.all false
set_option maxRecDepth 100000
set_option maxHeartbeats 8000000
namespace Hl
open PySem PySem.Spec PyProof.Rows L2
section
variable {P : Program} {w : World} {K : PySem.W.Frag} {mg : Str → Option Value} {base : Heap}
abbrev N_law_step : List Str := ["_law_state", "_law_many", "_law_road", "_law_size", "_law_skip"]
theorem sc_law_step : FnScope N_law_step ["_law_state", "_law_many", "_law_road"] (defScope s_law_step) := ⟨rfl, rfl, rfl, by decide +kernel, rfl, by decide +kernel, by decide +kernel⟩
theorem D_law_step (T : Txt K mg) (TW : TxtW K w) : DefAt P w K mg base "_law_step" 3 ["_law_state", "_law_many", "_law_road"] (sp_law_step K) := by
  obtain ⟨fd, F⟩ := T.f_law_step
  have D_law_draw := D_law_draw (P := P) (w := w) (base := base) T TW
  have D_law_area := D_law_area (P := P) (w := w) (base := base) T TW
  have D_law_pick := D_law_pick (P := P) (w := w) (base := base) T TW
  refine ⟨He.fAd K ("_law_step", none), fd, T.g_law_step, F.kp, F.bindsN (fun _ _ _ _ _ _ us hl => match us, hl with | [_, _, _], _ => rfl), ?_⟩
  refine F.ok sc_law_step (fun vs H Q E h => ?_) (fun cdv A outer s H vs Q E hr h => ?_)
  · obtain ⟨_, _, _, _, rfl, _⟩ := h
    rfl
  · obtain ⟨d, B, many, road, rfl, m0, m1, rd, hd, hB, kk⟩ := h
    have hdn : ∃ o, H d = some o := by
      obtain ⟨l0, c0, a0, e0, _, _⟩ := hd
      exact ⟨_, e0⟩
    refine ⟨_, PSs.nox (pss_cons (ps_set (i := 3) sc_law_step.nd rfl (Or.inl rfl) (pe_op op_add pe_int (pe_def D_law_draw hr (by rfl) (pa_cons (pv 0) (pa_cons pe_int pa_nil)))))
      (Evl.pss_cut (ps_set (i := 4) sc_law_step.nd rfl (Or.inl rfl) (pe_ifExp (pt_cmpR op_eq (pe_def D_law_draw hr (by rfl) (pa_cons (pv 0) (pa_cons pe_int pa_nil))) pe_int (nomark _)) (pe_def D_law_draw hr (by rfl) (pa_cons (pv 0) (pa_cons (pv 3) pa_nil))) pe_int))
      (pss_cons (ps_if (pt_cmpR op_lt (pv 2) pe_int (nomark _)) (pss_one (ps_ret (pe_tup (pa_cons pe_str (pa_cons (pe_def D_law_area hr (by rfl) (pa_cons (pv 0) (pa_cons (pv 1) (pa_cons (pv 3) pa_nil)))) (pa_cons (pe_def D_law_area hr (by rfl) (pa_cons (pv 0) (pa_cons (pv 1) (pa_cons (pv 3) pa_nil)))) (pa_cons (pv 4) pa_nil))))))) pss_nil)
      (pss_cons (ps_if (pt_cmpR op_lt (pv 2) pe_int (nomark _)) (pss_one (ps_ret (pe_tup (pa_cons pe_str (pa_cons (pe_def D_law_area hr (by rfl) (pa_cons (pv 0) (pa_cons (pv 1) (pa_cons (pv 3) pa_nil)))) (pa_cons (pe_def D_law_pick hr (by rfl) (pa_cons (pv 0) (pa_cons (pe_lst (pa_cons pe_int (pa_cons pe_int (pa_cons (pe_def D_law_draw hr (by rfl) (pa_cons (pv 0) (pa_cons pe_int pa_nil))) pa_nil)))) pa_nil))) (pa_cons (pv 4) pa_nil))))))) pss_nil)
      (pss_cons (ps_if (pt_cmpR op_eq (pv 2) pe_int (nomark _)) (pss_one (ps_ret (pe_tup (pa_cons pe_str (pa_cons (pe_def D_law_area hr (by rfl) (pa_cons (pv 0) (pa_cons (pv 1) (pa_cons (pv 3) pa_nil)))) (pa_cons (pe_def D_law_draw hr (by rfl) (pa_cons (pv 0) (pa_cons (pv 1) pa_nil))) pa_nil)))))) pss_nil)
      (pss_one (ps_ret (pe_ifExp (pt_cmpR op_eq (pv 2) pe_int (nomark _)) (pe_tup (pa_cons pe_str (pa_cons (pe_def D_law_draw hr (by rfl) (pa_cons (pv 0) (pa_cons pe_int pa_nil))) pa_nil))) (pe_tup (pa_cons pe_str pa_nil)))))))))), ?_⟩
    refine ⟨_, rfl, d, B, 6, rfl, by decide, by decide, hd, by omega, fun r H1 hr1 k1 D1 => ⟨_, _, rfl, rfl, ?_⟩⟩
    refine ⟨fun σ H3 => ∃ k, k < 1 + r ∧ σ = [some (.ref d), some (.int (many : Nat)), some (.int (road : Nat)), some (.int ((1 + r : Nat) : Int)), some (.int (k : Nat))] ∧ KeepX [d] H H3 ∧ Dst H3 d (B + 3), ?_, ?_⟩
    · refine ⟨_, rfl, d, B + 1, 4, rfl, by decide, by decide, D1, by omega, fun r2 H2 hr2 k2 D2 => ⟨rfl, _, rfl, ite2 (fun z3 => ?_) fun z3 => ?_⟩⟩
      · exact ⟨_, rfl, _, rfl, d, B + 2, 1 + r, rfl, by omega, by omega, D2, by omega, fun k H3 hk k3 D3 => ⟨k, hk, rfl, (k1.trans k2).trans k3, D3⟩⟩
      · exact ⟨0, by omega, rfl, k1.trans k2, D2.mono (by omega)⟩
    rintro σ H3 ⟨k, hk, rfl, k3, D3⟩
    refine ⟨_, rfl, _, _, rfl, rfl, _, rfl, ite2 (fun z1 => ?_) fun z1 => ?_⟩
    · refine ⟨_, rfl, _, rfl, _, rfl, d, B + 3, many, 1 + r, rfl, m0, m1, by omega, by omega, D3, by omega, fun p1 A1 H4 o1 y1 np1 a1 k4 D4 => ?_⟩
      refine ⟨_, rfl, _, rfl, _, rfl, d, B + 7, many, 1 + r, rfl, m0, m1, by omega, by omega, D4, by omega, fun p2 A2 H5 o2 y2 np2 a2 k5 D5 => ?_⟩
      refine ⟨_, rfl, by show 4 ≤ sizeLine; decide, fun p np => ?_⟩
      have n1 : p1 ≠ d := fun e => by
        obtain ⟨_, _, _, e0, _, _⟩ := D3
        rw [← e, np1] at e0; cases e0
      have s9 := same_new (o := .tup [.str "copy", .ref p1, .ref p2, .int (k : Nat)]) np
      refine kk p (.copy A1 A2 k) _ ⟨o1, o2, y1.trans y2.symm, by omega⟩ rfl (free_ofd np ((k3.trans k4).trans k5) hdn D5) ⟨p1, p2, upd_same, s9 _ _ (k5 _ _ a1 (by simpa using n1)), s9 _ _ a2⟩ (((k3.trans k4).trans k5).same s9) ((D5.same s9).mono (by omega))
    · refine ⟨_, rfl, _, _, rfl, rfl, _, rfl, ite2 (fun z2 => ?_) fun z2 => ?_⟩
      · refine ⟨_, rfl, _, rfl, _, rfl, d, B + 3, many, 1 + r, rfl, m0, m1, by omega, by omega, D3, by omega, fun p1 A1 H4 o1 y1 np1 a1 k4 D4 => ?_⟩
        have n1 : p1 ≠ d := fun e => by
          obtain ⟨_, _, _, e0, _, _⟩ := D3
          rw [← e, np1] at e0; cases e0
        refine ⟨_, rfl, _, rfl, d, B + 7, 256, rfl, by decide, by decide, D4, by omega, fun r5 H5 hr5 k5 D5 => ⟨by show 3 ≤ sizeLine; decide, fun l nl => ?_⟩⟩
        have s6 := same_new (o := .lst [.int 0, .int 255, .int (r5 : Nat)]) nl
        refine ⟨d, B + 8, l, [.int 0, .int 255, .int (r5 : Nat)], rfl, upd_same, by show 0 < 3; decide, by show 3 < 1000; decide, D5.same s6, by omega, fun x H7 hx k7 D7 => ?_⟩
        refine ⟨_, rfl, by show 4 ≤ sizeLine; decide, fun p np => ?_⟩
        have ⟨y, ey, y0, y1'⟩ : ∃ y : Int, x = .int y ∧ 0 ≤ y ∧ y ≤ 255 := by
          simp only [List.mem_cons, List.not_mem_nil, or_false] at hx
          rcases hx with rfl | rfl | rfl
          · exact ⟨_, rfl, by decide, by decide⟩
          · exact ⟨_, rfl, by decide, by decide⟩
          · exact ⟨_, rfl, by omega, by omega⟩
        subst ey
        have s9 := same_new (o := .tup [.str "fill", .ref p1, .int y, .int (k : Nat)]) np
        have kx := (((k3.trans k4).trans k5).same s6).trans k7
        refine kk p (.fill A1 y k) _ ⟨o1, y0, y1', by omega⟩ rfl (free_ofd np kx hdn D7) ⟨p1, upd_same, s9 _ _ (k7 _ _ (s6 _ _ (k5 _ _ a1 (by simpa using n1))) (by simpa using n1))⟩ (kx.same s9) ((D7.same s9).mono (by omega))
      · have e6 : ((road : Nat) : Int) = 6 := by
          have a : ¬ (((road : Nat) : Int) < 6) := fun q => z2 (decide_eq_true q)
          omega
        refine ⟨_, rfl, rfl, _, rfl, ite2 (fun z3 => ?_) fun z3 => ?_⟩
        · refine ⟨_, rfl, _, rfl, _, rfl, d, B + 3, many, 1 + r, rfl, m0, m1, by omega, by omega, D3, by omega, fun p1 A1 H4 o1 y1 np1 a1 k4 D4 => ?_⟩
          have n1 : p1 ≠ d := fun e => by
            obtain ⟨_, _, _, e0, _, _⟩ := D3
            rw [← e, np1] at e0; cases e0
          refine ⟨_, rfl, _, rfl, d, B + 7, many, rfl, by omega, by omega, D4, by omega, fun r5 H5 hr5 k5 D5 => ⟨by show 3 ≤ sizeLine; decide, fun p np => ?_⟩⟩
          have s9 := same_new (o := .tup [.str "add", .ref p1, .int (r5 : Nat)]) np
          have kx := (k3.trans k4).trans k5
          refine kk p (.add A1 r5) _ ⟨o1, hr5⟩ rfl (free_ofd np kx hdn D5) ⟨p1, upd_same, s9 _ _ (k5 _ _ a1 (by simpa using n1))⟩ (kx.same s9) ((D5.same s9).mono (by omega))
        · exact absurd (by rw [e6]; decide) z3
abbrev N_law_bytes : List Str := ["_law_state", "_law_many", "_law_k"]
theorem sc_law_bytes : FnScope N_law_bytes ["_law_state", "_law_many"] (defScope s_law_bytes) := ⟨rfl, rfl, rfl, by decide +kernel, rfl, by decide +kernel, by decide +kernel⟩
theorem D_law_bytes (T : Txt K mg) (TW : TxtW K w) : DefAt P w K mg base "_law_bytes" 3 ["_law_state", "_law_many"] (sp_law_bytes K) := by
  obtain ⟨fd, F⟩ := T.f_law_bytes
  have D_law_draw := D_law_draw (P := P) (w := w) (base := base) T TW
  have D_law_pick := D_law_pick (P := P) (w := w) (base := base) T TW
  refine ⟨He.fAd K ("_law_bytes", none), fd, T.g_law_bytes, F.kp, F.bindsN (fun _ _ _ _ _ _ us hl => match us, hl with | [_, _], _ => rfl), ?_⟩
  refine F.ok sc_law_bytes (fun vs H Q E h => ?_) (fun cdv A outer s H vs Q E hr h => ?_)
  · obtain ⟨_, _, _, rfl, _⟩ := h
    rfl
  · obtain ⟨d, B, many, rfl, m0, m1, hd, hB, kk⟩ := h
    refine ⟨_, PSs.nox (pss_one (ps_ret (pe_callTy call_tuple_of (by rfl) T.r_tuple (by decide +kernel) (pa_cons (pe_lc (own := [("_law_k", 2)]) (g := (gName 2)) rfl sc_law_bytes.nd (pi_range1 (by rfl) T.r_range (pa_cons (pv 1) pa_nil)) (blkOk_by (own := [("_law_k", 2)]) (N := N_law_bytes) (sc := defScope s_law_bytes) (by decide +kernel)) (fun _ _ _ _ _ => (pg_name (i := 2) sc_law_bytes.nd rfl (Or.inl rfl))) (fun _ _ _ _ _ => pts_nil) (fun _ _ _ _ _ => (pe_def D_law_pick hr (by rfl) (pa_cons (pv 0) (pa_cons (pe_lst (pa_cons pe_int (pa_cons pe_int (pa_cons pe_int (pa_cons (pe_def D_law_draw hr (by rfl) (pa_cons (pv 0) (pa_cons pe_int pa_nil))) pa_nil))))) pa_nil))))) pa_nil)))), ?_⟩
    refine ⟨_, rfl, _, rfl, by omega, by omega, fun D nD => ?_⟩
    have eN : ((many : Nat) : Int).toNat = many := by omega
    have nd : D ≠ d := fun e => by
      obtain ⟨_, _, _, e0, _, _⟩ := hd
      rw [← e, nD] at e0; cases e0
    refine lc_it (walk_range (lo := 0) (n := ((many : Nat) : Int).toNat)) (fun i H2 => KeepX [d] H H2 ∧ Dst H2 d (B + 2 * i) ∧ ∃ m : List Int, AllB m ∧ m.length = i ∧ H2 D = some (.lst (intsV m))) ⟨(same_new nD).keep, hd.same (same_new nD), [], (fun x hx => by cases hx), rfl, upd_same⟩ (fun _ _ _ _ => trivial) (fun i x H2 H3 hi p y => ?_) (fun H2 p => ?_)
    · obtain ⟨k2, D2, m, hb, hl, e⟩ := p
      obtain ⟨rfl, rfl⟩ := y
      have nx : (i : Nat) < 30 := by omega
      refine ⟨rfl, ?_⟩
      refine ⟨_, rfl, _, rfl, d, B + 2 * i, 256, rfl, by decide, by decide, D2, by omega, fun r H4 hr4 k4 D4 => ⟨by show 4 ≤ sizeLine; decide, fun l nl => ?_⟩⟩
      have s5 := same_new (o := .lst [.int 0, .int 1, .int 255, .int (r : Nat)]) nl
      refine ⟨d, B + 2 * i + 1, l, [.int 0, .int 1, .int 255, .int (r : Nat)], rfl, upd_same, by show 0 < 4; decide, by show 4 < 1000; decide, D4.same s5, by omega, fun x H6 hx k6 D6 => ?_⟩
      have ⟨y, ey, y0, y1⟩ : ∃ y : Int, x = .int y ∧ 0 ≤ y ∧ y ≤ 255 := by
        simp only [List.mem_cons, List.not_mem_nil, or_false] at hx
        rcases hx with rfl | rfl | rfl | rfl
        · exact ⟨_, rfl, by decide, by decide⟩
        · exact ⟨_, rfl, by decide, by decide⟩
        · exact ⟨_, rfl, by decide, by decide⟩
        · exact ⟨_, rfl, by omega, by omega⟩
      subst ey
      have e6 := k6 _ _ (s5 _ _ (k4 _ _ e (by simpa using nd))) (by simpa using nd)
      refine ⟨_, e6, by rw [List.length_map, hl, sizeLine_eq]; omega, ?_, ?_, m ++ [y], ?_, by rw [List.length_append, hl]; rfl, by rw [upd_same, show intsV (m ++ [y]) = intsV m ++ [V.int y] from List.map_append]⟩
      · intro c o ec nc
        have hne : c ≠ D := ne_of_none ec nD
        rw [upd_ne hne]
        exact ((k2.trans k4).same s5).trans k6 c o ec nc
      · obtain ⟨l0, c0, a0, e0, z1, z2⟩ := D6
        exact ⟨l0, c0, a0, by rw [upd_ne (Ne.symm nd)]; exact e0, z1, by omega⟩
      · intro z hz
        rcases List.mem_append.mp hz with hz | hz
        · exact hb z hz
        · rw [List.mem_singleton.mp hz]; exact ⟨y0, y1⟩
    · obtain ⟨k2, D2, m, hb, hl, e⟩ := p
      refine ⟨D, _, rfl, .inl ⟨SqL.of e, fun l nl => ?_⟩⟩
      have s9 := same_new (o := .tup (intsV m)) nl
      refine kk l m _ hb (by rw [hl, eN]) (free_ofd nl k2 (by obtain ⟨_, _, _, e0, _, _⟩ := hd; exact ⟨_, e0⟩) D2) upd_same (k2.same s9) ((D2.same s9).mono (by omega))
end
end Hl
end

section
set_option Elab.async false
set_option linter.all false
set_option maxRecDepth 100000
set_option maxHeartbeats 8000000
namespace Hl
open PySem PySem.Spec PyProof.Rows L2
def sp_law_cells (K : PySem.W.Frag) : Sp := fun vs H Q _ => ∃ a A, vs = [.ref a] ∧ AreaAt H a A ∧ A.Ok 30 ∧ ∀ H' l, Same H H' → H l = none → H' l = some (.lst (natsV A.cells)) → Q (.ref l) H'
def sp_law_touched (K : PySem.W.Frag) : Sp := fun vs H Q _ => ∃ p s, vs = [.ref p] ∧ StepAt H p s ∧ s.Ok 30 ∧ s.bar = false ∧ ∀ H' t r w, Same H H' → H r = none → H w = none → H' t = some (.tup [.ref r, .ref w]) → H' r = some (.lst (natsV s.reads)) → H' w = some (.lst (natsV s.writes)) → Q (.ref t) H'
def rowL (A : Area) (r : Nat) : List V := (List.range A.count).map fun s => V.int ((A.start + r * A.pitch + s : Nat) : Int)
def doneL (A : Area) (r : Nat) : List V := (List.range r).flatMap (rowL A)
theorem doneL_succ (A : Area) (r : Nat) : doneL A (r + 1) = doneL A r ++ rowL A r := by
  show (List.range (r + 1)).flatMap (rowL A) = _
  rw [List.range_succ, List.flatMap_append, List.flatMap_singleton]
  rfl
theorem rowL_len (A : Area) (r : Nat) : (rowL A r).length = A.count := by
  unfold rowL
  rw [List.length_map, List.length_range]
theorem doneL_len (A : Area) (r : Nat) : (doneL A r).length = r * A.count := by
  unfold doneL
  rw [flatMap_len (rowL A) A.count _ fun x _ => rowL_len A x, List.length_range]
theorem doneL_all (A : Area) : doneL A A.rows = natsV A.cells := by
  show (List.range A.rows).flatMap (rowL A) = (Area.cells A).map _
  unfold Area.cells
  rw [List.map_flatMap]
  congr 1
  funext r
  show (List.range A.count).map _ = ((List.range A.count).map _).map _
  rw [List.map_map]
  rfl
theorem rgV_row (A : Area) (i : Nat) : rgV (((A.start : Nat) : Int) + (0 + ((i : Nat) : Int)) * ((A.pitch : Nat) : Int)) (((A.start : Nat) : Int) + (0 + ((i : Nat) : Int)) * ((A.pitch : Nat) : Int) + ((A.count : Nat) : Int)) = rowL A i := by
  unfold rgV rowL
  rw [show (((A.start : Nat) : Int) + (0 + ((i : Nat) : Int)) * ((A.pitch : Nat) : Int) + ((A.count : Nat) : Int) - (((A.start : Nat) : Int) + (0 + ((i : Nat) : Int)) * ((A.pitch : Nat) : Int))).toNat = A.count by omega]
  congr 1
  funext s
  congr 1
  rw [Int.zero_add, Int.natCast_add, Int.natCast_add, Int.natCast_mul]
section
variable {P : Program} {w : World} {K : PySem.W.Frag} {mg : Str → Option Value} {base : Heap}
abbrev N_law_cells : List Str := ["_law_area_here", "_law_start", "_law_count", "_law_rows", "_law_pitch", "_law_found", "_law_k"]
theorem sc_law_cells : FnScope N_law_cells ["_law_area_here"] (defScope s_law_cells) := ⟨rfl, rfl, rfl, by decide +kernel, rfl, by decide +kernel, by decide +kernel⟩
theorem D_law_cells (T : Txt K mg) (TW : TxtW K w) : DefAt P w K mg base "_law_cells" 1 ["_law_area_here"] (sp_law_cells K) := by
  obtain ⟨fd, F⟩ := T.f_law_cells
  refine ⟨He.fAd K ("_law_cells", none), fd, T.g_law_cells, F.kp, F.bindsN (fun _ _ _ _ _ _ us hl => match us, hl with | [_], _ => rfl), ?_⟩
  refine F.ok sc_law_cells (fun vs H Q E h => ?_) (fun cdv A outer s H vs Q E hr h => ?_)
  · obtain ⟨_, _, rfl, _⟩ := h
    rfl
  · obtain ⟨a, A, rfl, ha, ok, kk⟩ := h
    refine ⟨_, PSs.nox (pss_cons (ps_asg (pv 0) (pg_tupK (K := K) (n := 4) rfl (pgs_cons (pg_name (i := 1) sc_law_cells.nd rfl (Or.inl rfl)) (pgs_cons (pg_name (i := 2) sc_law_cells.nd rfl (Or.inl rfl)) (pgs_cons (pg_name (i := 3) sc_law_cells.nd rfl (Or.inl rfl)) (pgs_cons (pg_name (i := 4) sc_law_cells.nd rfl (Or.inl rfl)) pgs_nil))))))
      (pss_cons (ps_set (i := 5) sc_law_cells.nd rfl (Or.inl rfl) (pe_lst pa_nil))
      (pss_cons (ps_for PassesOwn.never rfl (pi_range1 (by rfl) T.r_range (pa_cons (pv 3) pa_nil)) (pg_name (i := 6) sc_law_cells.nd rfl (Or.inl rfl))
        (pss_one (ps_expr (pe_bm PySem.F.plainAttrs_list PySem.F.slot_list_extend PySem.F.type_list_extend mt_extend (pv 5) (pa_cons (pe_listRg rfl (by rfl) T.r_list (prg_2 (by rfl) T.r_range (pe_op op_add (pv 1) (pe_op op_mul (pv 6) (pv 4))) (pe_op op_add (pe_op op_add (pv 1) (pe_op op_mul (pv 6) (pv 4))) (pv 2)))) pa_nil)))))
      (pss_one (ps_ret (pv 5)))))), ?_⟩
    have b1 : A.count ≤ 6 := by
      have := ok.six
      have := Nat.le_mul_of_pos_left A.count ok.r1
      omega
    have b2 : A.rows ≤ 6 := by
      have := ok.six
      have := Nat.le_mul_of_pos_right A.rows ok.c1
      omega
    have b3 : A.start < 30 := by
      have := ok.fit
      have := ok.c1
      omega
    have b4 : A.pitch ≤ 30 := by
      have := ok.fit
      by_cases z : A.rows = 1
      · rw [ok.one z]; omega
      · have : 1 * A.pitch ≤ (A.rows - 1) * A.pitch := Nat.mul_le_mul_right _ (by have := ok.r1; omega)
        omega
    refine ⟨_, rfl, a, _, rfl, SqT.of ha, rfl, _, _, rfl, _, _, rfl, _, _, rfl, _, _, rfl, rfl, by show 0 ≤ sizeLine; decide, fun l nl => ?_⟩
    refine ⟨_, rfl, _, rfl, by omega, by omega, ?_⟩
    refine for_it (walk_range (lo := 0) (n := ((A.rows : Nat) : Int).toNat)) (fun i σ H1 => (∃ x6 : Option V, σ = [some (.ref a), some (.int (A.start : Nat)), some (.int (A.count : Nat)), some (.int (A.rows : Nat)), some (.int (A.pitch : Nat)), some (.ref l), x6]) ∧ Same H H1 ∧ H1 l = some (.lst (doneL A i))) ⟨⟨_, rfl⟩, same_new nl, upd_same⟩ (fun _ _ _ _ _ => trivial) (fun i x σ H2 H3 hi p y => ?_) (fun σ H2 p => ?_)
    · obtain ⟨⟨x6, rfl⟩, s1, hD⟩ := p
      obtain ⟨rfl, rfl⟩ := y
      have mul : i * A.pitch ≤ 6 * 30 := Nat.mul_le_mul (by omega) b4
      have mulZ : (0 + ((i : Nat) : Int)) * ((A.pitch : Nat) : Int) = ((i * A.pitch : Nat) : Int) := by
        rw [Int.zero_add, Int.natCast_mul]
      have rr := rgV_row A i
      refine ⟨_, rfl, .inl ⟨rfl, _, SqL.of hD⟩, _, rfl, _, rfl, _, rfl, _, _, rfl, rfl, .inl ⟨by omega, by omega⟩, _, _, rfl, rfl, _, rfl, _, rfl, _, rfl, _, _, rfl, rfl, .inl ⟨by omega, by omega⟩, _, _, rfl, rfl, _, rfl, _, _, rfl, rfl, _, _, rfl, rfl, ?_, fun q nq => ?_⟩
      · show RgOk (((A.start : Nat) : Int) + (0 + ((i : Nat) : Int)) * ((A.pitch : Nat) : Int)) (((A.start : Nat) : Int) + (0 + ((i : Nat) : Int)) * ((A.pitch : Nat) : Int) + ((A.count : Nat) : Int))
        rw [mulZ]
        exact RgOk.of_le (by omega) (by omega) (by omega) (by omega)
      · have hq : l ≠ q := ne_of_none hD nq
        refine ⟨l, q, doneL A i, rowL A i, rfl, rfl, by rw [upd_ne hq]; exact hD, by rw [upd_same]; exact congrArg (fun x => some (HO.lst x)) rr, ?_, ?_⟩
        · rw [doneL_len, rowL_len, sizeLine_eq]
          have : i * A.count ≤ 6 * 6 := Nat.mul_le_mul (by omega) b1
          omega
        · refine ⟨⟨_, rfl⟩, fun b o e => ?_, by rw [upd_same, doneL_succ]⟩
          have hne : b ≠ l := ne_of_none e nl
          rw [upd_ne hne]
          exact (Same.trans s1 (same_new nq)) b o e
    · obtain ⟨⟨x6, rfl⟩, s1, hD⟩ := p
      rw [show ((A.rows : Nat) : Int).toNat = A.rows by omega, doneL_all] at hD
      exact ⟨_, rfl, kk _ l s1 nl hD⟩
abbrev N_law_touched : List Str := ["_law_step_here"]
theorem sc_law_touched : FnScope N_law_touched ["_law_step_here"] (defScope s_law_touched) := ⟨rfl, rfl, rfl, by decide +kernel, rfl, by decide +kernel, by decide +kernel⟩
theorem D_law_touched (T : Txt K mg) (TW : TxtW K w) : DefAt P w K mg base "_law_touched" 2 ["_law_step_here"] (sp_law_touched K) := by
  obtain ⟨fd, F⟩ := T.f_law_touched
  have D_law_cells := D_law_cells (P := P) (w := w) (base := base) T TW
  refine ⟨He.fAd K ("_law_touched", none), fd, T.g_law_touched, F.kp, F.bindsN (fun _ _ _ _ _ _ us hl => match us, hl with | [_], _ => rfl), ?_⟩
  refine F.ok sc_law_touched (fun vs H Q E h => ?_) (fun cdv A outer s H vs Q E hr h => ?_)
  · obtain ⟨_, _, rfl, _⟩ := h
    rfl
  · obtain ⟨p, s, rfl, hp, ok, nb, kk⟩ := h
    refine ⟨_, PSs.nox (pss_cons (ps_if (pt_cmpR op_eq (pe_ix ix_tup (pv 0) pe_int (fun _ _ => rfl)) pe_str (nomark _)) (pss_one (ps_ret (pe_tup (pa_cons (pe_slice sl_list (pe_def D_law_cells hr (by rfl) (pa_cons (pe_ix ix_tup (pv 0) pe_int (fun _ _ => rfl)) pa_nil)) (po_some (pe_ix ix_tup (pv 0) pe_int (fun _ _ => rfl))) po_none) (pa_cons (pe_slice sl_list (pe_def D_law_cells hr (by rfl) (pa_cons (pe_ix ix_tup (pv 0) pe_int (fun _ _ => rfl)) pa_nil)) (po_some (pe_ix ix_tup (pv 0) pe_int (fun _ _ => rfl))) po_none) pa_nil))))) pss_nil)
      (pss_cons (ps_if (pt_cmpR op_eq (pe_ix ix_tup (pv 0) pe_int (fun _ _ => rfl)) pe_str (nomark _)) (pss_one (ps_ret (pe_tup (pa_cons (pe_lst pa_nil) (pa_cons (pe_slice sl_list (pe_def D_law_cells hr (by rfl) (pa_cons (pe_ix ix_tup (pv 0) pe_int (fun _ _ => rfl)) pa_nil)) (po_some (pe_ix ix_tup (pv 0) pe_int (fun _ _ => rfl))) po_none) pa_nil))))) pss_nil)
      (pss_one (ps_ret (pe_ifExp (pt_cmpR op_eq (pe_ix ix_tup (pv 0) pe_int (fun _ _ => rfl)) pe_str (nomark _)) (pe_tup (pa_cons (pe_def D_law_cells hr (by rfl) (pa_cons (pe_ix ix_tup (pv 0) pe_int (fun _ _ => rfl)) pa_nil)) (pa_cons (pe_lst (pa_cons (pe_ix ix_tup (pv 0) pe_int (fun _ _ => rfl)) pa_nil)) pa_nil))) (pe_tup (pa_cons (pe_lst pa_nil) (pa_cons (pe_lst pa_nil) pa_nil)))))))), ?_⟩
    cases s with
    | note f => cases nb
    | fence => cases nb
    | copy A1 A2 k =>
      obtain ⟨pa, pb, e, ea, eb⟩ := hp
      obtain ⟨o1, o2, sz, hk⟩ := ok
      rw [← A1.cells_len] at hk
      rw [← A1.cells_len, ← A2.cells_len] at sz
      have cl1 : cutV (natsV A1.cells) (some (k : Int)) none = natsV (A1.cells.drop k) := by
        rw [cutV_from _ _ (by rw [List.length_map]; omega)]
        exact List.map_drop.symm
      have cl2 : cutV (natsV A2.cells) (some (k : Int)) none = natsV (A2.cells.drop k) := by
        rw [cutV_from _ _ (by rw [List.length_map]; omega)]
        exact List.map_drop.symm
      refine ⟨_, rfl, p, _, _, _, rfl, rfl, SqT.of e, atI_nat (j := 0) rfl, rfl, _, rfl, ite2 (fun z => ?_) fun z => absurd (by decide +kernel) z⟩
      refine ⟨_, rfl, p, _, _, _, rfl, rfl, SqT.of e, atI_nat (j := 1) rfl, pa, A1, rfl, ea, o1, fun H1 l1 s1 n1 e1 => ?_⟩
      refine ⟨_, rfl, p, _, _, _, rfl, rfl, SqT.of (s1 _ _ e), atI_nat (j := 3) rfl, _, rfl, l1, _, rfl, SqL.of e1, fun l2 n2 => ?_⟩
      have s2 := same_new (o := .lst (cutV (natsV A1.cells) (some (k : Int)) none)) n2
      have s12 := s1.trans s2
      refine ⟨_, rfl, p, _, _, _, rfl, rfl, SqT.of (s12 _ _ e), atI_nat (j := 2) rfl, pb, A2, rfl, s12 _ _ eb, o2, fun H3 l3 s3 n3 e3 => ?_⟩
      have s123 := s12.trans s3
      refine ⟨_, rfl, p, _, _, _, rfl, rfl, SqT.of (s123 _ _ e), atI_nat (j := 3) rfl, _, rfl, l3, _, rfl, SqL.of e3, fun l4 n4 => ⟨by show 2 ≤ sizeLine; decide, fun t nt => ?_⟩⟩
      have s4 := same_new (o := .lst (cutV (natsV A2.cells) (some (k : Int)) none)) n4
      have s5 := same_new (o := .tup [.ref l2, .ref l4]) nt
      have s45 := s4.trans s5
      refine kk _ t l2 l4 (s123.trans s45) (s1.free' n2) (s123.free' n4) upd_same ?_ ?_
      · rw [s45 _ _ (s3 _ _ upd_same), cl1]
        rfl
      · rw [s5 _ _ upd_same, cl2]
        rfl
    | fill A1 y k =>
      obtain ⟨pa, e, ea⟩ := hp
      obtain ⟨o1, y0, y1, hk⟩ := ok
      rw [← A1.cells_len] at hk
      have cl1 : cutV (natsV A1.cells) (some (k : Int)) none = natsV (A1.cells.drop k) := by
        rw [cutV_from _ _ (by rw [List.length_map]; omega)]
        exact List.map_drop.symm
      refine ⟨_, rfl, p, _, _, _, rfl, rfl, SqT.of e, atI_nat (j := 0) rfl, rfl, _, rfl, ite2 (fun z => absurd z (by decide +kernel)) fun _ => ?_⟩
      refine ⟨_, rfl, p, _, _, _, rfl, rfl, SqT.of e, atI_nat (j := 0) rfl, rfl, _, rfl, ite2 (fun _ => ?_) fun z => absurd (by decide +kernel) z⟩
      refine ⟨by show 0 ≤ sizeLine; decide, fun l2 n2 => ?_⟩
      have s2 := same_new (o := .lst []) n2
      refine ⟨_, rfl, p, _, _, _, rfl, rfl, SqT.of (s2 _ _ e), atI_nat (j := 1) rfl, pa, A1, rfl, s2 _ _ ea, o1, fun H3 l3 s3 n3 e3 => ?_⟩
      have s23 := s2.trans s3
      refine ⟨_, rfl, p, _, _, _, rfl, rfl, SqT.of (s23 _ _ e), atI_nat (j := 3) rfl, _, rfl, l3, _, rfl, SqL.of e3, fun l4 n4 => ⟨by show 2 ≤ sizeLine; decide, fun t nt => ?_⟩⟩
      have s4 := same_new (o := .lst (cutV (natsV A1.cells) (some (k : Int)) none)) n4
      have s5 := same_new (o := .tup [.ref l2, .ref l4]) nt
      have s45 := s4.trans s5
      refine kk _ t l2 l4 (s23.trans s45) n2 (s23.free' n4) upd_same ?_ ?_
      · rw [s45 _ _ (s3 _ _ upd_same)]
        rfl
      · rw [s5 _ _ upd_same, cl1]
        rfl
    | add A1 c =>
      obtain ⟨pa, e, ea⟩ := hp
      obtain ⟨o1, hc⟩ := ok
      refine ⟨_, rfl, p, _, _, _, rfl, rfl, SqT.of e, atI_nat (j := 0) rfl, rfl, _, rfl, ite2 (fun z => absurd z (by decide +kernel)) fun _ => ?_⟩
      refine ⟨_, rfl, p, _, _, _, rfl, rfl, SqT.of e, atI_nat (j := 0) rfl, rfl, _, rfl, ite2 (fun z => absurd z (by decide +kernel)) fun _ => ?_⟩
      refine ⟨_, rfl, p, _, _, _, rfl, rfl, SqT.of e, atI_nat (j := 0) rfl, rfl, _, rfl, ite2 (fun _ => ?_) fun z => absurd (by decide +kernel) z⟩
      refine ⟨_, rfl, p, _, _, _, rfl, rfl, SqT.of e, atI_nat (j := 1) rfl, pa, A1, rfl, ea, o1, fun H1 l1 s1 n1 e1 => ?_⟩
      refine ⟨_, rfl, p, _, _, _, rfl, rfl, SqT.of (s1 _ _ e), atI_nat (j := 2) rfl, by show 1 ≤ sizeLine; decide, fun l4 n4 => ⟨by show 2 ≤ sizeLine; decide, fun t nt => ?_⟩⟩
      have s4 := same_new (o := .lst [.int (c : Nat)]) n4
      have s5 := same_new (o := .tup [.ref l1, .ref l4]) nt
      exact kk _ t l1 l4 (s1.trans (s4.trans s5)) n1 (s1.free' n4) upd_same ((s4.trans s5) _ _ e1) (s5 _ _ upd_same)
end
end Hl
end

section
set_option Elab.async false
set_option linter.all false
set_option maxRecDepth 100000
set_option maxHeartbeats 8000000
namespace Hl
open PySem PySem.Spec PyProof.Rows L2
def sp_law_plain (K : PySem.W.Frag) : Sp := fun vs H Q _ => ∃ a m l ps ss, vs = [.ref a, .ref l] ∧ H a = some (.tup (intsV m)) ∧ H l = some (.lst (refsV ps)) ∧ StepsAt H ps ss ∧ (∀ s, s ∈ ss → s.Ok m.length ∧ s.bar = false) ∧ AllB m ∧ m.length ≤ 30 ∧ ps.length ≤ 40 ∧ ∀ H' t, Same H H' → H' t = some (.tup (intsV (plain m ss))) → Q (.ref t) H'
def sp_law_do_clash (K : PySem.W.Frag) : Sp := fun vs H Q _ => ∃ p q s t, vs = [.ref p, .ref q] ∧ StepAt H p s ∧ StepAt H q t ∧ s.Ok 30 ∧ t.Ok 30 ∧ s.bar = false ∧ t.bar = false ∧ ∀ H', Same H H' → Q (.bl (clash s t)) H'
theorem Area.Ok.mono {n k : Nat} {a : Area} (h : a.Ok n) (hk : n ≤ k) : a.Ok k := ⟨h.c1, h.r1, h.pc, h.one, Nat.le_trans h.fit hk, h.six⟩
theorem Step.Ok.mono {n k : Nat} {s : Step} (h : s.Ok n) (hk : n ≤ k) : s.Ok k := by
  cases s with
  | copy a b c => exact ⟨h.1.mono hk, h.2.1.mono hk, h.2.2⟩
  | fill a y c => exact ⟨h.1.mono hk, h.2⟩
  | add a c => exact ⟨h.1.mono hk, Nat.lt_of_lt_of_le h.2 hk⟩
  | note f => exact h
  | fence => trivial
theorem Step.Ok.reads {n : Nat} {s : Step} (h : s.Ok n) {c : Nat} (hc : c ∈ s.reads) : c < n := by
  cases s with
  | copy a b k => exact h.1.cell (List.mem_of_mem_drop hc)
  | fill a y k => cases hc
  | add a k => exact h.1.cell hc
  | note f => cases hc
  | fence => cases hc
theorem Step.Ok.writes {n : Nat} {s : Step} (h : s.Ok n) {c : Nat} (hc : c ∈ s.writes) : c < n := by
  cases s with
  | copy a b k => exact h.2.1.cell (List.mem_of_mem_drop hc)
  | fill a y k => exact h.1.cell (List.mem_of_mem_drop hc)
  | add a k => rw [List.mem_singleton.mp hc]; exact h.2
  | note f => cases hc
  | fence => cases hc
theorem atI_mem {m : List Int} {c : Nat} (h : c < m.length) : atI (intsV m) ((c : Nat) : Int) = some (V.int (m.getD c 0)) := by
  refine atI_nat ?_
  rw [List.getElem?_map, List.getElem?_eq_getElem h, List.getD_eq_getElem?_getD, List.getElem?_eq_getElem h]
  rfl
theorem ixN_mem {m : List Int} {c : Nat} (h : c < m.length) : ixN (intsV m).length ((c : Nat) : Int) = some c := by
  unfold ixN
  rw [List.length_map, if_pos (by omega), if_pos (by omega)]
  simp
theorem foldl_zip_len : ∀ (l : List (Nat × Nat)) (m : Mem), (l.foldl (fun m p => m.set p.2 (m.getD p.1 0)) m).length = m.length
  | [], _ => rfl
  | p :: r, m => (foldl_zip_len r _).trans List.length_set
theorem foldl_set_len (y : Int) : ∀ (l : List Nat) (m : Mem), (l.foldl (fun m c => m.set c y) m).length = m.length
  | [], _ => rfl
  | p :: r, m => (foldl_set_len y r _).trans List.length_set
theorem foldl_snoc {α β : Type} (f : β → α → β) (l : List α) (i : Nat) (b : β) (x : α) (h : l[i]? = some x) : (l.take (i + 1)).foldl f b = f ((l.take i).foldl f b) x := by
  rw [List.take_add_one, h, List.foldl_append]
  rfl
theorem sum_snoc (l : List Int) (x : Int) : (l ++ [x]).sum = l.sum + x := by
  rw [List.sum_append]; simp
theorem inV_nats (c : Nat) : ∀ l : List Nat, inV (V.int (c : Nat)) (natsV l) = l.contains c
  | [] => rfl
  | x :: r => by
    have ih := inV_nats c r
    unfold inV at ih ⊢
    rw [show natsV (x :: r) = V.int (x : Nat) :: natsV r from rfl, List.any_cons, ih, List.contains_cons]
    congr 1
    show (((x : Nat) : Int) == ((c : Nat) : Int)) = (c == x)
    by_cases e : c = x
    · subst e
      simp
    · have e1 : ¬ (((x : Nat) : Int) = ((c : Nat) : Int)) := fun q => e (by omega)
      rw [beq_eq_false_iff_ne.mpr e1, beq_eq_false_iff_ne.mpr e]
theorem nats_flat (l : List Nat) : (natsV l).all flatV = true := by
  rw [List.all_eq_true]
  intro x hx
  obtain ⟨c, _, rfl⟩ := List.mem_map.mp hx
  rfl
theorem Step.Ok.lens {n : Nat} {s : Step} (h : s.Ok n) : s.reads.length ≤ 6 ∧ s.writes.length ≤ 6 := by
  cases s with
  | copy a b k =>
    have h1 := h.1.size_six
    have h2 := h.2.1.size_six
    rw [← Area.cells_len] at h1 h2
    show (a.cells.drop k).length ≤ 6 ∧ (b.cells.drop k).length ≤ 6
    rw [List.length_drop, List.length_drop]
    omega
  | fill a y k =>
    have h1 := h.1.size_six
    rw [← Area.cells_len] at h1
    show 0 ≤ 6 ∧ (a.cells.drop k).length ≤ 6
    rw [List.length_drop]
    omega
  | add a k =>
    have h1 := h.1.size_six
    rw [← Area.cells_len] at h1
    show a.cells.length ≤ 6 ∧ 1 ≤ 6
    omega
  | note f => exact ⟨Nat.zero_le _, Nat.zero_le _⟩
  | fence => exact ⟨Nat.zero_le _, Nat.zero_le _⟩
/-- ones: so many as there are of a kind -/
theorem ones_step {α : Type} {f : α → Bool} {l : List α} {i : Nat} {ns : List Int} {c : α} (e : l[i]? = some c) (h : ns.isEmpty = !(l.take i).any f) : (f c = true → (ns ++ [1]).isEmpty = !(l.take (i + 1)).any f) ∧ (f c = false → ns.isEmpty = !(l.take (i + 1)).any f) := by
  rw [List.take_add_one, e, List.any_append]
  constructor
  · intro q
    simp [q]
  · intro q
    rw [h]
    simp [q]
section
variable {P : Program} {w : World} {K : PySem.W.Frag} {mg : Str → Option Value} {base : Heap}
abbrev N_law_plain : List Str := ["_law_cells_here", "_law_some", "_law_found", "_law_step_here", "_law_reads", "_law_writes", "_law_one", "_law_other"]
theorem sc_law_plain : FnScope N_law_plain ["_law_cells_here", "_law_some"] (defScope s_law_plain) := ⟨rfl, rfl, rfl, by decide +kernel, rfl, by decide +kernel, by decide +kernel⟩
theorem D_law_plain (T : Txt K mg) (TW : TxtW K w) : DefAt P w K mg base "_law_plain" 3 ["_law_cells_here", "_law_some"] (sp_law_plain K) := by
  obtain ⟨fd, F⟩ := T.f_law_plain
  have D_law_touched := D_law_touched (P := P) (w := w) (base := base) T TW
  refine ⟨He.fAd K ("_law_plain", none), fd, T.g_law_plain, F.kp, F.bindsN (fun _ _ _ _ _ _ us hl => match us, hl with | [_, _], _ => rfl), ?_⟩
  refine F.ok sc_law_plain (fun vs H Q E h => ?_) (fun cdv A outer s H vs Q E hr h => ?_)
  · obtain ⟨_, _, _, _, _, rfl, _⟩ := h
    rfl
  · obtain ⟨a, m, l, ps, ss, rfl, ha, hl, hs, ok, hb, hm, hn, kk⟩ := h
    refine ⟨_, PSs.nox (pss_cons (ps_set (i := 2) sc_law_plain.nd rfl (Or.inr rfl) (pe_callTy call_list_of (by rfl) T.r_list (by decide +kernel) (pa_cons (pv 0) pa_nil)))
      (pss_cons (ps_for PassesOwn.never rfl (pi_list (pv 1)) (pg_name (i := 3) sc_law_plain.nd rfl (Or.inl rfl))
        (pss_cons (ps_asg (pe_def D_law_touched hr (by rfl) (pa_cons (pv 3) pa_nil)) (pg_tupK (K := K) (n := 2) rfl (pgs_cons (pg_name (i := 4) sc_law_plain.nd rfl (Or.inl rfl)) (pgs_cons (pg_name (i := 5) sc_law_plain.nd rfl (Or.inl rfl)) pgs_nil))))
        (pss_cons (ps_if (pt_cmpR op_eq (pe_ix ix_tup (pv 3) pe_int (fun _ _ => rfl)) pe_str (nomark _)) (pss_one (ps_for PassesOwn.never rfl (pi_zip (by rfl) T.r_zip (pa_cons (pv 4) (pa_cons (pv 5) pa_nil))) (pg_tupK (K := K) (n := 2) rfl (pgs_cons (pg_name (i := 6) sc_law_plain.nd rfl (Or.inl rfl)) (pgs_cons (pg_name (i := 7) sc_law_plain.nd rfl (Or.inl rfl)) pgs_nil)))
            (pss_one (ps_asg (pe_ix ix_list (pv 2) (pv 6) (fun _ _ => rfl)) (pg_sub (pv 2) (pv 7) set_list))))) pss_nil)
        (pss_cons (ps_if (pt_cmpR op_eq (pe_ix ix_tup (pv 3) pe_int (fun _ _ => rfl)) pe_str (nomark _)) (pss_one (ps_for PassesOwn.never rfl (pi_list (pv 5)) (pg_name (i := 7) sc_law_plain.nd rfl (Or.inl rfl))
            (pss_one (ps_asg (pe_ix ix_tup (pv 3) pe_int (fun _ _ => rfl)) (pg_sub (pv 2) (pv 7) set_list))))) pss_nil)
        (pss_one (ps_if (pt_cmpR op_eq (pe_ix ix_tup (pv 3) pe_int (fun _ _ => rfl)) pe_str (nomark _)) (pss_one (ps_asg (pe_op op_modN (pe_callB (cr_sum rfl) (by rfl) T.r_sum (by decide +kernel) (pa_cons (pe_lc (own := [("_law_one", 6)]) (g := (gName 6)) rfl sc_law_plain.nd (pi_list (pv 4)) (blkOk_by (own := [("_law_one", 6)]) (N := N_law_plain) (sc := defScope s_law_plain) (by decide +kernel)) (fun _ _ _ _ _ => (pg_name (i := 6) sc_law_plain.nd rfl (Or.inl rfl))) (fun _ _ _ _ _ => pts_nil) (fun _ _ _ _ _ => (pe_ix (ix_listK (K := K)) (pv 2) (pv 6) (fun _ _ => rfl)))) pa_nil)) pe_int) (pg_sub (pv 2) (pe_ix ix_tup (pv 3) pe_int (fun _ _ => rfl)) set_list))) pss_nil))))))
      (pss_one (ps_ret (pe_callTy call_tuple_of (by rfl) T.r_tuple (by decide +kernel) (pa_cons (pv 2) pa_nil)))))), ?_⟩
    refine ⟨_, rfl, a, _, rfl, .inr (SqT.of ha), fun f nf => ?_⟩
    have s0 := same_new (o := .lst (intsV m)) nf
    refine ⟨_, rfl, l, rfl, ⟨_, SqL.of (s0 _ _ hl)⟩, ?_⟩
    refine for_it (walk_list (xs := refsV ps)) (fun i σ H1 => (∃ x3 x4 x5 x6 x7 : Option V, σ = [some (.ref a), some (.ref l), some (.ref f), x3, x4, x5, x6, x7]) ∧ Same H H1 ∧ H1 f = some (.lst (intsV (plain m (ss.take i))))) ⟨⟨_, _, _, _, _, rfl⟩, s0, upd_same⟩ (fun i σ H1 _ p => SqL.of (p.2.1 _ _ hl)) (fun i x σ H0 H1 hi p y => ?_) (fun σ H1 p => ?_)
    · obtain ⟨⟨x3, x4, x5, x6, x7, rfl⟩, s1, hf⟩ := p
      obtain ⟨rfl, ex⟩ := y
      rw [List.length_map] at hi
      obtain ⟨p, st, ep, est, hst⟩ := hs.get hi
      rw [List.getElem?_map, ep] at ex
      obtain rfl := Option.some.inj ex
      obtain ⟨sok, sb⟩ := ok st (List.mem_of_getElem? est)
      have cl : (plain m (ss.take i)).length = m.length := plain_len _ _
      have nxt : plain m (ss.take (i + 1)) = plainStep (plain m (ss.take i)) st := foldl_snoc plainStep ss i m st est
      have fin : ∀ {H8 : Hp}, KeepX [f] H1 H8 → Same H H8 := fun {H8} k b o e => k b o (s1 b o e) (by simpa using ne_of_none e nf)
      refine ⟨_, rfl, p, st, rfl, hst.tk (Same.tk s1), sok.mono hm, sb, fun H2 t r w1 s2 fr fw et er ew => ?_⟩
      refine ⟨t, _, rfl, SqT.of et, rfl, _, _, rfl, _, _, rfl, rfl, ?_⟩
      have hst2 := (hst.tk (Same.tk s1)).tk (Same.tk s2)
      have hf2 := s2 _ _ hf
      have k2 : KeepX [f] H1 H2 := Same.keep s2
      have nr : r ≠ f := Ne.symm (ne_of_none hf fr)
      have nw : w1 ≠ f := Ne.symm (ne_of_none hf fw)
      generalize hcm : plain m (ss.take i) = cm at hf hf2 cl nxt
      rw [nxt]
      cases st with
      | note _ => cases sb
      | fence => cases sb
      | copy A1 A2 k =>
        obtain ⟨pa, pb, e, ea, eb⟩ := hst2
        refine ⟨_, rfl, p, _, _, _, rfl, rfl, SqT.of e, atI_nat (j := 0) rfl, rfl, _, rfl, ite2 (fun _ => ?_) fun z => absurd (by decide +kernel) z⟩
        let zs := (A1.cells.drop k).zip (A2.cells.drop k)
        let stp : Mem → Nat × Nat → Mem := fun m p => m.set p.2 (m.getD p.1 0)
        refine ⟨_, rfl, _, rfl, r, w1, _, _, rfl, SqL.of er, SqL.of ew, for_it (walk_zip (xs := natsV (A1.cells.drop k)) (ys := natsV (A2.cells.drop k)) rfl) (fun j σ H3 => (∃ x6 x7 : Option V, σ = [some (.ref a), some (.ref l), some (.ref f), some (.ref p), some (.ref r), some (.ref w1), x6, x7]) ∧ KeepX [f] H2 H3 ∧ H3 f = some (.lst (intsV ((zs.take j).foldl stp cm)))) ⟨⟨_, _, rfl⟩, KeepX.refl _ _, hf2⟩ (fun j σ H3 _ q => ⟨SqL.of (q.2.1 _ _ er (by simpa using nr)), SqL.of (q.2.1 _ _ ew (by simpa using nw))⟩) (fun j x σ H3 H4 hj q y => ?_) (fun σ H3 q => ?_)⟩
        · obtain ⟨⟨y6, y7, rfl⟩, k3, hf3⟩ := q
          obtain ⟨T1, u, v, rfl, nT, rfl, eu, ev⟩ := y
          replace eu : (natsV (A1.cells.drop k))[j]? = some u := eu
          replace ev : (natsV (A2.cells.drop k))[j]? = some v := ev
          rw [List.getElem?_map] at eu ev
          obtain ⟨c1, e1, rfl⟩ := Option.map_eq_some_iff.mp eu
          obtain ⟨c2, e2, rfl⟩ := Option.map_eq_some_iff.mp ev
          have l3 : ((zs.take j).foldl stp cm).length = m.length := (foldl_zip_len _ _).trans cl
          have b1 : c1 < m.length := sok.reads (List.mem_of_getElem? e1)
          have b2 : c2 < m.length := sok.writes (List.mem_of_getElem? e2)
          have hf4 := (same_new (o := .tup [V.int (c1 : Nat), V.int (c2 : Nat)]) nT) _ _ hf3
          have ez : zs[j]? = some (c1, c2) := List.getElem?_zip_eq_some.mpr ⟨e1, e2⟩
          refine ⟨T1, _, rfl, SqT.of upd_same, rfl, _, _, rfl, _, _, rfl, rfl, ?_⟩
          refine ⟨_, rfl, _, rfl, f, _, _, _, rfl, rfl, SqL.of hf4, atI_mem (by omega), _, rfl, _, rfl, f, _, _, c2, rfl, rfl, hf4, ixN_mem (by omega), ⟨_, _, rfl⟩, (k3.new nT).upd (by simp), ?_⟩
          rw [upd_same, intsV_set, foldl_snoc stp zs j cm (c1, c2) ez]
        · obtain ⟨⟨y6, y7, rfl⟩, k3, hf3⟩ := q
          have e3 := k3 _ _ e (by simpa using ne_of e hf2 (by intro z; cases z))
          refine ⟨_, rfl, p, _, _, _, rfl, rfl, SqT.of e3, atI_nat (j := 0) rfl, rfl, _, rfl, ite2 (fun z => absurd z (by decide +kernel)) fun _ => ?_⟩
          refine ⟨_, rfl, p, _, _, _, rfl, rfl, SqT.of e3, atI_nat (j := 0) rfl, rfl, _, rfl, ite2 (fun z => absurd z (by decide +kernel)) fun _ => ?_⟩
          refine ⟨⟨_, _, _, _, _, rfl⟩, fin (k2.trans k3), ?_⟩
          rw [hf3, List.take_of_length_le (by rw [List.length_map, List.length_map]; show ((A1.cells.drop k).zip (A2.cells.drop k)).length ≤ _; rw [List.length_zip]; exact Nat.le_refl _)]
          rfl
      | fill A1 y' k =>
        obtain ⟨pa, e, ea⟩ := hst2
        refine ⟨_, rfl, p, _, _, _, rfl, rfl, SqT.of e, atI_nat (j := 0) rfl, rfl, _, rfl, ite2 (fun z => absurd z (by decide +kernel)) fun _ => ?_⟩
        refine ⟨_, rfl, p, _, _, _, rfl, rfl, SqT.of e, atI_nat (j := 0) rfl, rfl, _, rfl, ite2 (fun _ => ?_) fun z => absurd (by decide +kernel) z⟩
        have npf := ne_of e hf2 (by intro z; cases z)
        refine ⟨_, rfl, w1, rfl, ⟨_, SqL.of ew⟩, for_it (walk_list (xs := natsV (A1.cells.drop k))) (fun j σ H3 => (∃ x6 x7 : Option V, σ = [some (.ref a), some (.ref l), some (.ref f), some (.ref p), some (.ref r), some (.ref w1), x6, x7]) ∧ KeepX [f] H2 H3 ∧ H3 f = some (.lst (intsV (((A1.cells.drop k).take j).foldl (fun m c => m.set c y') cm)))) ⟨⟨_, _, rfl⟩, KeepX.refl _ _, hf2⟩ (fun j σ H3 _ q => SqL.of (q.2.1 _ _ ew (by simpa using nw))) (fun j x σ H3 H4 hj q y => ?_) (fun σ H3 q => ?_)⟩
        · obtain ⟨⟨y6, y7, rfl⟩, k3, hf3⟩ := q
          obtain ⟨rfl, ex⟩ := y
          rw [List.getElem?_map] at ex
          obtain ⟨c1, e1, rfl⟩ := Option.map_eq_some_iff.mp ex
          have l3 : (((A1.cells.drop k).take j).foldl (fun m c => m.set c y') cm).length = m.length := (foldl_set_len _ _ _).trans cl
          have b1 : c1 < m.length := sok.writes (List.mem_of_getElem? e1)
          refine ⟨_, rfl, p, _, _, _, rfl, rfl, SqT.of (k3 _ _ e (by simpa using npf)), atI_nat (j := 2) rfl, _, rfl, _, rfl, f, _, _, c1, rfl, rfl, hf3, ixN_mem (Nat.lt_of_lt_of_eq b1 l3.symm), ⟨_, _, rfl⟩, k3.upd (by simp), ?_⟩
          rw [upd_same, intsV_set, foldl_snoc (fun (m : Mem) c => m.set c y') (A1.cells.drop k) j cm c1 e1]
        · obtain ⟨⟨y6, y7, rfl⟩, k3, hf3⟩ := q
          have e3 := k3 _ _ e (by simpa using npf)
          refine ⟨_, rfl, p, _, _, _, rfl, rfl, SqT.of e3, atI_nat (j := 0) rfl, rfl, _, rfl, ite2 (fun z => absurd z (by decide +kernel)) fun _ => ?_⟩
          refine ⟨⟨_, _, _, _, _, rfl⟩, fin (k2.trans k3), ?_⟩
          rw [hf3, List.length_map, List.take_length]
          rfl
      | add A1 c =>
        obtain ⟨pa, e, ea⟩ := hst2
        have npf := ne_of e hf2 (by intro z; cases z)
        refine ⟨_, rfl, p, _, _, _, rfl, rfl, SqT.of e, atI_nat (j := 0) rfl, rfl, _, rfl, ite2 (fun z => absurd z (by decide +kernel)) fun _ => ?_⟩
        refine ⟨_, rfl, p, _, _, _, rfl, rfl, SqT.of e, atI_nat (j := 0) rfl, rfl, _, rfl, ite2 (fun z => absurd z (by decide +kernel)) fun _ => ?_⟩
        refine ⟨_, rfl, p, _, _, _, rfl, rfl, SqT.of e, atI_nat (j := 0) rfl, rfl, _, rfl, ite2 (fun _ => ?_) fun z => absurd (by decide +kernel) z⟩
        refine ⟨_, rfl, r, rfl, ⟨_, SqL.of er⟩, fun D nD => ?_⟩
        refine lc_it (walk_list (xs := natsV A1.cells)) (fun j H3 => Same H2 H3 ∧ H3 D = some (.lst (intsV ((A1.cells.take j).map fun x => cm.getD x 0)))) ⟨same_new nD, upd_same⟩ (fun j H3 _ q => SqL.of (q.1 _ _ er)) (fun j x H3 H4 hj q y => ?_) (fun H3 q => ?_)
        · obtain ⟨s3, hD⟩ := q
          obtain ⟨rfl, ex⟩ := y
          rw [List.length_map] at hj
          rw [List.getElem?_map] at ex
          obtain ⟨c1, e1, rfl⟩ := Option.map_eq_some_iff.mp ex
          have b1 : c1 < m.length := sok.reads (List.mem_of_getElem? e1)
          have six := sok.1.size_six
          rw [← A1.cells_len] at six
          refine ⟨rfl, _, rfl, _, rfl, f, _, _, _, rfl, rfl, SqL.of (s3 _ _ hf2), atI_mem (by omega), _, hD, ?_, ?_, ?_⟩
          · rw [List.length_map, List.length_map, List.length_take, sizeLine_eq]
            omega
          · exact fun b o eb => by
              have hne : b ≠ D := ne_of_none eb nD
              rw [upd_ne hne]
              exact s3 b o eb
          · rw [upd_same, List.take_add_one, e1, List.map_append]
            show some (HO.lst _) = some (HO.lst (List.map V.int _))
            rw [List.map_append]
            rfl
        · obtain ⟨s3, hD⟩ := q
          rw [List.length_map, List.take_length] at hD
          refine ⟨D, A1.cells.map fun x => cm.getD x 0, rfl, SqL.of hD, _, _, rfl, rfl, (show (256 : Int) ≠ 0 by decide), _, rfl, _, rfl, p, _, _, _, rfl, rfl, SqT.of (s3 _ _ e), atI_nat (j := 2) rfl, f, _, _, c, rfl, rfl, s3 _ _ hf2, ixN_mem (by rw [cl]; exact sok.2), ⟨_, _, _, _, _, rfl⟩, fin ((k2.same s3).upd (by simp)), ?_⟩
          rw [upd_same, intsV_set, Int.fmod_eq_emod_of_nonneg _ (by decide)]
          rfl
    · obtain ⟨⟨x3, x4, x5, x6, x7, rfl⟩, s1, hf⟩ := p
      rw [List.length_map, hs.1, List.take_length] at hf
      exact ⟨_, rfl, f, _, rfl, .inl ⟨SqL.of hf, fun t nt => kk _ t (Same.new s1 nt) upd_same⟩⟩
abbrev N_law_do_clash : List Str := ["_law_one", "_law_other", "_law_first", "_law_second", "_law_spot"]
theorem sc_law_do_clash : FnScope N_law_do_clash ["_law_one", "_law_other"] (defScope s_law_do_clash) := ⟨rfl, rfl, rfl, by decide +kernel, rfl, by decide +kernel, by decide +kernel⟩
theorem D_law_do_clash (T : Txt K mg) (TW : TxtW K w) : DefAt P w K mg base "_law_do_clash" 3 ["_law_one", "_law_other"] (sp_law_do_clash K) := by
  obtain ⟨fd, F⟩ := T.f_law_do_clash
  have D_law_touched := D_law_touched (P := P) (w := w) (base := base) T TW
  refine ⟨He.fAd K ("_law_do_clash", none), fd, T.g_law_do_clash, F.kp, F.bindsN (fun _ _ _ _ _ _ us hl => match us, hl with | [_, _], _ => rfl), ?_⟩
  refine F.ok sc_law_do_clash (fun vs H Q E h => ?_) (fun cdv A outer s H vs Q E hr h => ?_)
  · obtain ⟨_, _, _, _, rfl, _⟩ := h
    rfl
  · obtain ⟨p, q, s, t, rfl, hp, hq, ok1, ok2, nb1, nb2, kk⟩ := h
    refine ⟨_, PSs.nox (pss_cons (ps_asg (pe_tup (pa_cons (pe_def D_law_touched hr (by rfl) (pa_cons (pv 0) pa_nil)) (pa_cons (pe_def D_law_touched hr (by rfl) (pa_cons (pv 1) pa_nil)) pa_nil))) (pg_tupK (K := K) (n := 2) rfl (pgs_cons (pg_name (i := 2) sc_law_do_clash.nd rfl (Or.inr rfl)) (pgs_cons (pg_name (i := 3) sc_law_do_clash.nd rfl (Or.inr rfl)) pgs_nil))))
      (pss_cons (ps_if (pt_cmpR (op_neL0 hr.units) (pe_lc (own := [("_law_spot", 4)]) (g := (gName 4)) rfl sc_law_do_clash.nd (pi_list (pe_ix ix_tup (pv 2) pe_int (fun _ _ => rfl))) (blkOk_by (own := [("_law_spot", 4)]) (N := N_law_do_clash) (sc := defScope s_law_do_clash) (by decide +kernel)) (fun _ _ _ _ _ => (pg_name (i := 4) sc_law_do_clash.nd rfl (Or.inl rfl))) (fun _ _ _ _ _ => pts_one (pt_cmpR (op_in_seqK (K := K)) (pv 4) (pe_op op_cat (pe_ix (ix_tupK (K := K)) (pv 3) pe_int (fun _ _ => rfl)) (pe_ix (ix_tupK (K := K)) (pv 3) pe_int (fun _ _ => rfl))) (by rfl))) (fun _ _ _ _ _ => pe_int)) (pe_lst pa_nil) (nomark _)) (pss_one (ps_ret pe_bl)) pss_nil)
      (pss_one (ps_ret (pe_cmpR (op_neL0 hr.units) (pe_lc (own := [("_law_spot", 4)]) (g := (gName 4)) rfl sc_law_do_clash.nd (pi_list (pe_ix ix_tup (pv 3) pe_int (fun _ _ => rfl))) (blkOk_by (own := [("_law_spot", 4)]) (N := N_law_do_clash) (sc := defScope s_law_do_clash) (by decide +kernel)) (fun _ _ _ _ _ => (pg_name (i := 4) sc_law_do_clash.nd rfl (Or.inl rfl))) (fun _ _ _ _ _ => pts_one (pt_cmpR (op_in_seqK (K := K)) (pv 4) (pe_ix (ix_tupK (K := K)) (pv 2) pe_int (fun _ _ => rfl)) (by rfl))) (fun _ _ _ _ _ => pe_int)) (pe_lst pa_nil) (nomark _)))))), ?_⟩
    refine ⟨_, rfl, p, s, rfl, hp, ok1, nb1, fun H1 t1 r1 w1 s1 fr1 fw1 et1 er1 ew1 => ?_⟩
    refine ⟨_, rfl, q, t, rfl, hq.tk (Same.tk s1), ok2, nb2, fun H2 t2 r2 w2 s2 fr2 fw2 et2 er2 ew2 => ?_⟩
    refine ⟨by show 2 ≤ sizeLine; decide, fun T2 nT2 => ?_⟩
    have s3 := same_new (o := .tup [.ref t1, .ref t2]) nT2
    refine ⟨T2, _, rfl, SqT.of upd_same, rfl, _, _, rfl, _, _, rfl, rfl, ?_⟩
    have et1' := s3 _ _ (s2 _ _ et1)
    have er1' := s3 _ _ (s2 _ _ er1)
    have ew1' := s3 _ _ (s2 _ _ ew1)
    have et2' := s3 _ _ et2
    have er2' := s3 _ _ er2
    have ew2' := s3 _ _ ew2
    have s03 := (s1.trans s2).trans s3
    generalize hH3 : upd H2 T2 (HO.tup [V.ref t1, V.ref t2]) = H3 at et1' er1' ew1' et2' er2' ew2' s03 ⊢
    have lt := ok2.lens
    have ls := ok1.lens
    have exs : natsV t.reads ++ natsV t.writes = natsV (t.reads ++ t.writes) := List.map_append.symm
    refine ⟨_, rfl, t1, _, _, _, rfl, rfl, SqT.of et1', atI_nat (j := 1) rfl, w1, rfl, ⟨_, SqL.of ew1'⟩, fun D nD => ?_⟩
    refine lc_it (walk_list (xs := natsV s.writes)) (fun i H4 => Same H3 H4 ∧ ∃ ns, H4 D = some (.lst (intsV ns)) ∧ ns.length ≤ i ∧ ns.isEmpty = !(s.writes.take i).any fun c => (t.reads ++ t.writes).contains c) ⟨same_new nD, [], upd_same, Nat.le_refl _, rfl⟩ (fun i H4 _ p => SqL.of (p.1 _ _ ew1')) (fun i x H4 H5 hi p y => ?_) (fun H4 p => ?_)
    · obtain ⟨s4, ns, hD, hl, hns⟩ := p
      obtain ⟨rfl, ex⟩ := y
      rw [List.length_map] at hi
      rw [List.getElem?_map] at ex
      obtain ⟨c, ec, rfl⟩ := Option.map_eq_some_iff.mp ex
      refine ⟨rfl, _, rfl, _, rfl, t2, _, _, _, rfl, rfl, SqT.of (s4 _ _ et2'), atI_nat (j := 0) rfl, _, rfl, t2, _, _, _, rfl, rfl, SqT.of (s4 _ _ et2'), atI_nat (j := 1) rfl, r2, w2, _, _, rfl, rfl, s4 _ _ er2', s4 _ _ ew2', ?_, fun l nl => ?_⟩
      · rw [List.length_map, List.length_map, sizeLine_eq]
        omega
      · rw [exs]
        have s5 := same_new (o := .lst (natsV (t.reads ++ t.writes))) nl
        have hD5 := s5 _ _ hD
        obtain ⟨o1, o2⟩ := ones_step (f := fun c => (t.reads ++ t.writes).contains c) ec hns
        refine ⟨l, _, rfl, .inl (SqL.of upd_same), rfl, nats_flat _, _, rfl, ite2 (fun z => ?_) fun z => ?_⟩
        · have z' : (t.reads ++ t.writes).contains c = true := by
            rw [← inV_nats]; exact z
          refine ⟨_, hD5, by rw [List.length_map, sizeLine_eq]; omega, ?_, ns ++ [1], ?_, by rw [List.length_append]; simp; omega, o1 z'⟩
          · exact fun b o eb => by
              have hne : b ≠ D := ne_of_none eb nD
              rw [upd_ne hne]
              exact (s4.trans s5) b o eb
          · rw [upd_same, show intsV (ns ++ [1]) = intsV ns ++ [V.int 1] from List.map_append]
        · have z' : (t.reads ++ t.writes).contains c = false := by
            rw [← inV_nats]; exact Bool.eq_false_iff.mpr z
          exact ⟨s4.trans s5, ns, hD5, by omega, o2 z'⟩
    · obtain ⟨s4, ns, hD, hl, hns⟩ := p
      rw [List.length_map, List.take_length] at hns
      refine ⟨by show 0 ≤ sizeLine; decide, fun b nb => ⟨D, b, ns, rfl, rfl, (same_new nb) _ _ hD, upd_same, _, rfl, ite2 (fun z => ?_) fun z => ?_⟩⟩
      · have any1 : (s.writes.any fun c => (t.reads ++ t.writes).contains c) = true := by
          rw [hns] at z
          simpa using z
        have cT : clash s t = true := by
          unfold clash
          rw [any1]
          rfl
        have := kk _ (s03.trans (s4.trans (same_new (o := .lst []) nb)))
        rw [cT] at this
        exact this
      · have any1 : (s.writes.any fun c => (t.reads ++ t.writes).contains c) = false := by
          rw [hns] at z
          simpa using z
        have s45 := s4.trans (same_new (o := .lst []) nb)
        generalize upd H4 b (HO.lst []) = H6 at s45 ⊢
        refine ⟨_, rfl, t2, _, _, _, rfl, rfl, SqT.of (s45 _ _ et2'), atI_nat (j := 1) rfl, w2, rfl, ⟨_, SqL.of (s45 _ _ ew2')⟩, fun D2 nD2 => ?_⟩
        refine lc_it (walk_list (xs := natsV t.writes)) (fun i H7 => Same H6 H7 ∧ ∃ ns, H7 D2 = some (.lst (intsV ns)) ∧ ns.length ≤ i ∧ ns.isEmpty = !(t.writes.take i).any fun c => s.reads.contains c) ⟨same_new nD2, [], upd_same, Nat.le_refl _, rfl⟩ (fun i H7 _ p => SqL.of (p.1 _ _ (s45 _ _ ew2'))) (fun i x H7 H8 hi p y => ?_) (fun H7 p => ?_)
        · obtain ⟨s7, ns2, hD7, hl7, hns7⟩ := p
          obtain ⟨rfl, ex⟩ := y
          rw [List.length_map] at hi
          rw [List.getElem?_map] at ex
          obtain ⟨c, ec, rfl⟩ := Option.map_eq_some_iff.mp ex
          obtain ⟨o1, o2⟩ := ones_step (f := fun c => s.reads.contains c) ec hns7
          have s67 := s45.trans s7
          refine ⟨rfl, _, rfl, _, rfl, t1, _, _, _, rfl, rfl, SqT.of (s67 _ _ et1'), atI_nat (j := 0) rfl, r1, _, rfl, .inl (SqL.of (s67 _ _ er1')), rfl, nats_flat _, _, rfl, ite2 (fun z => ?_) fun z => ?_⟩
          · have z' : s.reads.contains c = true := by
              rw [← inV_nats]; exact z
            refine ⟨_, hD7, by rw [List.length_map, sizeLine_eq]; omega, ?_, ns2 ++ [1], ?_, by rw [List.length_append]; simp; omega, o1 z'⟩
            · exact fun b o eb => by
                have hne : b ≠ D2 := ne_of_none eb nD2
                rw [upd_ne hne]
                exact s7 b o eb
            · rw [upd_same, show intsV (ns2 ++ [1]) = intsV ns2 ++ [V.int 1] from List.map_append]
          · have z' : s.reads.contains c = false := by
              rw [← inV_nats]; exact Bool.eq_false_iff.mpr z
            exact ⟨s7, ns2, hD7, by omega, o2 z'⟩
        · obtain ⟨s7, ns2, hD7, hl7, hns7⟩ := p
          rw [List.length_map, List.take_length] at hns7
          refine ⟨by show 0 ≤ sizeLine; decide, fun b2 nb2 => ⟨D2, b2, ns2, rfl, rfl, (same_new nb2) _ _ hD7, upd_same, ?_⟩⟩
          have cT : (true != ns2.isEmpty) = clash s t := by
            unfold clash
            rw [any1, hns7]
            simp
          rw [cT]
          exact kk _ ((s03.trans s45).trans (s7.trans (same_new (o := .lst []) nb2)))
end
end Hl
end

section
set_option Elab.async false
set_option linter.all false
set_option maxRecDepth 100000
set_option maxHeartbeats 8000000
namespace Hl
open PySem PySem.Spec PyProof.Rows L2
def sp_law_barred (K : PySem.W.Frag) : Sp := fun vs H Q _ => ∃ d B l ps ss, vs = [.ref d, .ref l] ∧ H l = some (.lst (refsV ps)) ∧ StepsAt H ps ss ∧ (∀ s, s ∈ ss → s.Ok 30 ∧ s.bar = false) ∧ ps.length ≤ 10 ∧ Dst H d B ∧ B ≤ 1000000 ∧ ∀ H' t qs found since, KeepX [d] H H' → Dst H' d (B + 10) → H' t = some (.tup (refsV qs)) → StepsAt H' qs found → Barred found since ss → found.length ≤ 20 → (∀ s, s ∈ found → s ∈ ss ∨ s = .fence ∨ s = .note 4) → Q (.ref t) H'
structure BarAt (d f s : Addr) (ss : List Step) (H0 H : Hp) (B n : Nat) (done : List Step) (qs : List Addr) (found : List Step) (sq : List Addr) (since : List Step) : Prop where
  k : KeepX [d] H0 H
  ds : Dst H d B
  nf : H0 f = none
  ns : H0 s = none
  fs : f ≠ s
  fd : f ≠ d
  sd : s ≠ d
  hf : H f = some (.lst (refsV qs))
  hs : H s = some (.lst (refsV sq))
  st : StepsAt H qs found
  sn : StepsAt H sq since
  ba : Barred found since done
  le : found.length ≤ n
  ok : ∀ x, x ∈ since → x.Ok 30 ∧ x.bar = false
  mem : ∀ x, x ∈ found → x ∈ ss ∨ x = .fence ∨ x = .note 4
theorem Barred.lens {found since done : List Step} (h : Barred found since done) : since.length ≤ found.length := by
  obtain ⟨pre, e, _⟩ := h.cut
  rw [e, List.length_append]
  omega
theorem KeepX.tkd {d B : Nat} {H H' : Hp} (k : KeepX [d] H H') (D : Dst H d B) : TK H H' := fun b xs e => k b _ e (by
  obtain ⟨_, _, _, e0, _, _⟩ := D
  simpa using ne_of e e0 (by intro z; cases z))
theorem KeepX.fresh {S : List Addr} {H H1 : Hp} (k : KeepX S H H1) {p : Addr} {o : HO} (n : H p = none) : KeepX S H (L2.upd H1 p o) := fun b u e nb => by
  rw [upd_ne (ne_of_none e n)]
  exact k b u e nb
theorem BarAt.same {d f s : Addr} {ss : List Step} {H0 H H' : Hp} {B n : Nat} {done : List Step} {qs : List Addr} {found : List Step} {sq : List Addr} {since : List Step} (h : BarAt d f s ss H0 H B n done qs found sq since) (e : Same H H') : BarAt d f s ss H0 H' B n done qs found sq since :=
  { h with k := h.k.same e, ds := h.ds.same e, hf := e _ _ h.hf, hs := e _ _ h.hs, st := h.st.tk (Same.tk e), sn := h.sn.tk (Same.tk e) }
theorem Dst.upd {d p B : Nat} {H : Hp} {o : HO} (h : Dst H d B) (n : p ≠ d) : Dst (L2.upd H p o) d B := by
  obtain ⟨l, c, a, e, h1, h2⟩ := h
  exact ⟨l, c, a, by rw [upd_ne n.symm]; exact e, h1, h2⟩
theorem refsV_snoc (l : List Addr) (a : Addr) : refsV (l ++ [a]) = refsV l ++ [V.ref a] := List.map_append
section
variable {P : Program} {w : World} {K : PySem.W.Frag} {mg : Str → Option Value} {base : Heap}
abbrev N_law_barred : List Str := ["_law_state", "_law_some", "_law_found", "_law_since", "_law_step_here", "_law_one"]
theorem sc_law_barred : FnScope N_law_barred ["_law_state", "_law_some"] (defScope s_law_barred) := ⟨rfl, rfl, rfl, by decide +kernel, rfl, by decide +kernel, by decide +kernel⟩
theorem D_law_barred (T : Txt K mg) (TW : TxtW K w) : DefAt P w K mg base "_law_barred" 4 ["_law_state", "_law_some"] (sp_law_barred K) := by
  obtain ⟨fd, F⟩ := T.f_law_barred
  have D_law_do_clash := D_law_do_clash (P := P) (w := w) (base := base) T TW
  have D_law_pick := D_law_pick (P := P) (w := w) (base := base) T TW
  refine ⟨He.fAd K ("_law_barred", none), fd, T.g_law_barred, F.kp, F.bindsN (fun _ _ _ _ _ _ us hl => match us, hl with | [_, _], _ => rfl), ?_⟩
  refine F.ok sc_law_barred (fun vs H Q E h => ?_) (fun cdv A outer s H vs Q E hr h => ?_)
  · obtain ⟨_, _, _, _, _, rfl, _⟩ := h
    rfl
  · obtain ⟨d, B, l, ps, ss, rfl, hl, hs, ok, hn, hd, hB, kk⟩ := h
    refine ⟨_, PSs.nox (pss_cons (ps_par (i := 2) (j := 3) rfl sc_law_barred.nd rfl rfl (by decide) rfl rfl (pa_cons (pe_lst pa_nil) (pa_cons (pe_lst pa_nil) pa_nil)) (by rfl))
      (pss_cons (ps_for PassesOwn.never rfl (pi_list (pv 1)) (pg_name (i := 4) sc_law_barred.nd rfl (Or.inr rfl))
        (Evl.pss_cut (ps_if (pt_cmpR (op_neL0 hr.units) (pe_lc (own := [("_law_one", 5)]) (g := (gName 5)) rfl sc_law_barred.nd (pi_list (pv 3)) (blkOk_by (own := [("_law_one", 5)]) (N := N_law_barred) (sc := defScope s_law_barred) (by decide +kernel)) (fun _ _ _ _ _ => (pg_name (i := 5) sc_law_barred.nd rfl (Or.inl rfl))) (fun _ _ _ _ _ => pts_one (pt_val (pe_def D_law_do_clash hr (by rfl) (pa_cons (pv 5) (pa_cons (pv 4) pa_nil))))) (fun _ _ _ _ _ => pe_int)) (pe_lst pa_nil) (nomark _)) (pss_cons (ps_expr (pe_bm PySem.F.plainAttrs_list PySem.F.slot_list_append PySem.F.type_list_append mt_append (pv 2) (pa_cons (pe_def D_law_pick hr (by rfl) (pa_cons (pv 0) (pa_cons (pe_lst (pa_cons (pe_tup (pa_cons pe_str pa_nil)) (pa_cons (pe_tup (pa_cons pe_str pa_nil)) (pa_cons (pe_tup (pa_cons pe_str (pa_cons pe_int pa_nil))) pa_nil)))) pa_nil))) pa_nil)))
          (pss_one (ps_set (i := 3) sc_law_barred.nd rfl (Or.inl rfl) (pe_lst pa_nil)))) pss_nil)
        (pss_cons (ps_expr (pe_bm PySem.F.plainAttrs_list PySem.F.slot_list_append PySem.F.type_list_append mt_append (pv 2) (pa_cons (pv 4) pa_nil)))
        (pss_one (ps_expr (pe_bm PySem.F.plainAttrs_list PySem.F.slot_list_append PySem.F.type_list_append mt_append (pv 3) (pa_cons (pv 4) pa_nil)))))))
      (pss_one (ps_ret (pe_callTy call_tuple_of (by rfl) T.r_tuple (by decide +kernel) (pa_cons (pv 2) pa_nil)))))), ?_⟩
    refine ⟨by show 0 ≤ sizeLine; decide, fun f nf => ⟨by show 0 ≤ sizeLine; decide, fun s0 ns => ?_⟩⟩
    have hdn : ∃ o, H d = some o := by
      obtain ⟨_, _, _, e0, _, _⟩ := hd
      exact ⟨_, e0⟩
    have fd : f ≠ d := fun e => by
      obtain ⟨o, e0⟩ := hdn
      rw [← e, nf] at e0; cases e0
    have ns' : H s0 = none := (same_new nf).free ns
    have sd : s0 ≠ d := fun e => by
      obtain ⟨o, e0⟩ := hdn
      rw [← e, ns'] at e0; cases e0
    have fs : f ≠ s0 := fun e => by
      rw [← e, upd_same] at ns; cases ns
    have s1 := (same_new (o := .lst []) nf).trans (same_new (o := .lst []) ns)
    have b0 : BarAt d f s0 ss H (upd (upd H f (.lst [])) s0 (.lst [])) B 0 [] [] [] [] [] := ⟨s1.keep, hd.same s1, nf, ns', fs, fd, sd, by rw [upd_ne fs, upd_same]; rfl, upd_same, StepsAt.nil _, StepsAt.nil _, Barred.start, Nat.le_refl _, (fun x hx => by cases hx), (fun x hx => by cases hx)⟩
    refine ⟨_, _, rfl, ?_⟩
    refine ⟨_, rfl, l, rfl, ⟨_, SqL.of (s1 _ _ hl)⟩, ?_⟩
    refine for_it (walk_list (xs := refsV ps)) (fun i σ H1 => ∃ (s2 : Addr) (x4 x5 : Option V) (qs : List Addr) (found : List Step) (sq : List Addr) (since : List Step), σ = [some (.ref d), some (.ref l), some (.ref f), some (.ref s2), x4, x5] ∧ BarAt d f s2 ss H H1 (B + i) (2 * i) (ss.take i) qs found sq since) ⟨s0, _, _, [], [], [], [], rfl, b0⟩ (fun i σ H1 _ p => by
      obtain ⟨_, _, _, _, _, _, _, _, b⟩ := p
      refine SqL.of (b.k _ _ hl ?_)
      obtain ⟨_, _, _, e0, _, _⟩ := hd
      simpa using ne_of hl e0 (by intro z; cases z)) (fun i x σ H0 H1 hi p y => ?_) (fun σ H1 p => ?_)
    · obtain ⟨s2, x4, x5, qs, found, sq, since, rfl, b⟩ := p
      obtain ⟨rfl, ex⟩ := y
      rw [List.length_map] at hi
      obtain ⟨p, st, ep, est, hst⟩ := hs.get hi
      rw [List.getElem?_map, ep] at ex
      obtain rfl := Option.some.inj ex
      obtain ⟨sok, sb⟩ := ok st (List.mem_of_getElem? est)
      have nxt : ss.take (i + 1) = ss.take i ++ [st] := by rw [List.take_add_one, est]; rfl
      have hst1 : StepAt H1 p st := hst.tk (b.k.tkd hd)
      have sl := b.ba.lens
      have sl2 := b.le
      refine ⟨fun σ H2 => ∃ (s3 : Addr) (x5 : Option V) (qs : List Addr) (found : List Step) (sq : List Addr) (since : List Step), σ = [some (.ref d), some (.ref l), some (.ref f), some (.ref s3), some (.ref p), x5] ∧ BarAt d f s3 ss H H2 (B + i + 1) (2 * i + 1) (ss.take i) qs found sq since ∧ StepAt H2 p st ∧ ∀ x, x ∈ since → clash x st = false, ?_, ?_⟩
      · refine ⟨_, rfl, s2, rfl, ⟨_, SqL.of b.hs⟩, fun D nD => ?_⟩
        refine lc_it (walk_list (xs := refsV sq)) (fun j H2 => Same H1 H2 ∧ ∃ ns, H2 D = some (.lst (intsV ns)) ∧ ns.length ≤ j ∧ ns.isEmpty = !(since.take j).any fun x => clash x st) ⟨same_new nD, [], upd_same, Nat.le_refl _, rfl⟩ (fun j H2 _ q => SqL.of (q.1 _ _ b.hs)) (fun j x H2 H3 hj q y => ?_) (fun H2 q => ?_)
        · obtain ⟨s3, ns2, hD, hl2, hns⟩ := q
          obtain ⟨rfl, ex⟩ := y
          rw [List.length_map] at hj
          obtain ⟨p1, st1, ep1, est1, hp1⟩ := b.sn.get hj
          rw [List.getElem?_map, ep1] at ex
          obtain rfl := Option.some.inj ex
          obtain ⟨o1, o2⟩ := ones_step (f := fun x => clash x st) est1 hns
          obtain ⟨ok1, nb1⟩ := b.ok st1 (List.mem_of_getElem? est1)
          refine ⟨rfl, _, rfl, _, rfl, p1, p, st1, st, rfl, hp1.tk (Same.tk s3), hst1.tk (Same.tk s3), ok1, sok, nb1, sb, fun H4 s4 => ⟨_, rfl, ite2 (fun z => ?_) fun z => ?_⟩⟩
          · refine ⟨_, s4 _ _ hD, ?_, ?_, ns2 ++ [1], ?_, by rw [List.length_append]; simp; omega, o1 z⟩
            · rw [List.length_map, sizeLine_eq]
              have := b.sn.1
              omega
            · exact fun c o eb => by
                have hne : c ≠ D := ne_of_none eb nD
                rw [upd_ne hne]
                exact (Same.trans s3 s4) c o eb
            · rw [upd_same, show intsV (ns2 ++ [1]) = intsV ns2 ++ [V.int 1] from List.map_append]
          · exact ⟨Same.trans s3 s4, ns2, s4 _ _ hD, by omega, o2 (Bool.eq_false_iff.mpr z)⟩
        · obtain ⟨s3, ns2, hD, hl2, hns⟩ := q
          rw [List.length_map, b.sn.1, List.take_length] at hns
          refine ⟨by show 0 ≤ sizeLine; decide, fun b2 nb2 => ⟨D, b2, ns2, rfl, rfl, (same_new nb2) _ _ hD, upd_same, _, rfl, ite2 (fun z => ?_) fun z => ?_⟩⟩
          · have s34 := Same.trans s3 (same_new (o := .lst []) nb2)
            have bb := b.same s34
            have hst4 := hst1.tk (Same.tk s34)
            generalize upd H2 b2 (HO.lst []) = H5 at bb hst4 ⊢
            refine ⟨_, rfl, .inl ⟨rfl, _, SqL.of bb.hf⟩, _, rfl, by show 1 ≤ sizeLine; decide, fun t1 nt1 => ⟨by show 1 ≤ sizeLine; decide, fun t2 nt2 => ⟨by show 2 ≤ sizeLine; decide, fun t3 nt3 => ⟨by show 3 ≤ sizeLine; decide, fun lq nlq => ?_⟩⟩⟩⟩
            have m1 := same_new (o := .tup [.str "fence"]) nt1
            have m2 := same_new (o := .tup [.str "fence"]) nt2
            have m3 := same_new (o := .tup [.str "note", .int 4]) nt3
            have m4 := same_new (o := .lst [.ref t1, .ref t2, .ref t3]) nlq
            have m14 := ((m1.trans m2).trans m3).trans m4
            have e1 := (m2.trans (m3.trans m4)) _ _ (upd_same (H := H5) (a := t1) (o := .tup [.str "fence"]))
            have e2 := (m3.trans m4) _ _ (upd_same (a := t2) (o := .tup [.str "fence"]))
            have e3 := m4 _ _ (upd_same (a := t3) (o := .tup [.str "note", .int 4]))
            refine ⟨d, B + i, lq, [.ref t1, .ref t2, .ref t3], rfl, upd_same, by show 0 < 3; decide, by show 3 < 1000; decide, bb.ds.same m14, by omega, fun x H7 hx k7 D7 => ?_⟩
            have bb6 := bb.same m14
            have tk7 := k7.tkd bb6.ds
            have ⟨pb, bs, ex, hpb, hbs⟩ : ∃ pb bs, x = .ref pb ∧ StepAt H7 pb bs ∧ (bs = .fence ∨ bs = .note 4) := by
              simp only [List.mem_cons, List.not_mem_nil, or_false] at hx
              rcases hx with rfl | rfl | rfl
              · exact ⟨t1, .fence, rfl, tk7 _ _ e1, .inl rfl⟩
              · exact ⟨t2, .fence, rfl, tk7 _ _ e2, .inl rfl⟩
              · exact ⟨t3, .note 4, rfl, tk7 _ _ e3, .inr rfl⟩
            subst ex
            have bbar : bs.bar = true := by rcases hbs with rfl | rfl <;> rfl
            have hf7 := k7 _ _ bb6.hf (by simpa using bb.fd)
            have tkf : TK H7 (upd H7 f (.lst (refsV qs ++ [V.ref pb]))) := tk_upd hf7 (fun _ z => by cases z)
            refine ⟨f, refsV qs, _, rfl, rfl, hf7, ?_, by show 0 ≤ sizeLine; decide, fun s4 ns4 => ?_⟩
            · rw [List.length_map, sizeLine_eq]
              have := b.st.1
              omega
            have m5 := same_new (o := .lst []) ns4
            have kk7 : KeepX [d] H (upd H7 f (.lst (refsV qs ++ [V.ref pb]))) := (bb6.k.trans k7).fresh bb.nf
            have ns4' : H s4 = none := free_ofd ns4 kk7 hdn (D7.upd bb.fd)
            have ns4d : s4 ≠ d := fun e => by
              obtain ⟨o, e0⟩ := hdn
              rw [← e, ns4'] at e0; cases e0
            have hfs4 : f ≠ s4 := ne_of_none upd_same ns4
            refine ⟨s4, _, qs ++ [pb], found ++ [bs], [], [], rfl, ⟨kk7.same m5, (D7.upd bb.fd).same m5, bb.nf, ns4', hfs4, bb.fd, ns4d, ?_, upd_same, ?_, StepsAt.nil _, bb.ba.bar bbar, ?_, (fun x hx => by cases hx), fun x hx => ?_⟩, ?_, fun x hx => by cases hx⟩
            · rw [refsV_snoc]
              exact m5 _ _ upd_same
            · exact (StepsAt.snoc (bb6.st.tk tk7) hpb).tk (TK.trans tkf (Same.tk m5))
            · rw [List.length_append]
              show found.length + 1 ≤ _
              omega
            · rcases List.mem_append.mp hx with hx | hx
              · exact b.mem x hx
              · rw [List.mem_singleton.mp hx]; exact .inr hbs
            · exact hst4.tk (TK.trans (TK.trans (TK.trans (Same.tk m14) tk7) tkf) (Same.tk m5))
          · have s34 := Same.trans s3 (same_new (o := .lst []) nb2)
            have bb := b.same s34
            have an : (since.any fun x => clash x st) = false := by
              rw [hns] at z
              simpa using z
            exact ⟨s2, _, qs, found, sq, since, rfl, { bb with ds := bb.ds.mono (by omega), le := by have := bb.le; omega }, hst1.tk (Same.tk s34), fun x hx => Bool.eq_false_iff.mpr (List.any_eq_false.mp an x hx)⟩
      · rintro σ H2 ⟨s3, x5, qs, found, sq, since, rfl, bb, hst2, nc⟩
        have bl := bb.ba.lens
        have ble := bb.le
        have bs1 := bb.st.1
        have bs2 := bb.sn.1
        have hs1 : (upd H2 f (.lst (refsV qs ++ [V.ref p]))) s3 = some (.lst (refsV sq)) := by rw [upd_ne bb.fs.symm]; exact bb.hs
        have tk1 : TK H2 (upd H2 f (.lst (refsV qs ++ [V.ref p]))) := tk_upd bb.hf (fun _ z => by cases z)
        have tk2 := TK.trans tk1 (tk_upd (o' := .lst (refsV sq ++ [V.ref p])) hs1 (fun _ z => by cases z))
        refine ⟨_, rfl, .inl ⟨rfl, _, SqL.of bb.hf⟩, _, rfl, f, _, _, rfl, rfl, bb.hf, by rw [List.length_map, sizeLine_eq]; omega, _, rfl, .inl ⟨rfl, _, SqL.of hs1⟩, _, rfl, s3, _, _, rfl, rfl, hs1, by rw [List.length_map, sizeLine_eq]; omega, s3, _, _, qs ++ [p], found ++ [st], sq ++ [p], since ++ [st], rfl, ?_⟩
        refine ⟨(bb.k.fresh bb.nf).fresh bb.ns, (bb.ds.upd bb.fd).upd bb.sd, bb.nf, bb.ns, bb.fs, bb.fd, bb.sd, ?_, ?_, (bb.st.snoc hst2).tk tk2, (bb.sn.snoc hst2).tk tk2, ?_, ?_, fun x hx => ?_, fun x hx => ?_⟩
        · rw [upd_ne bb.fs, upd_same, refsV_snoc]
        · rw [upd_same, refsV_snoc]
        · rw [nxt]
          exact bb.ba.step sb nc
        · rw [List.length_append]
          show found.length + 1 ≤ _
          omega
        · rcases List.mem_append.mp hx with hx | hx
          · exact bb.ok x hx
          · rw [List.mem_singleton.mp hx]; exact ⟨sok, sb⟩
        · rcases List.mem_append.mp hx with hx | hx
          · exact bb.mem x hx
          · rw [List.mem_singleton.mp hx]; exact .inl (List.mem_of_getElem? est)
    · obtain ⟨s2, x4, x5, qs, found, sq, since, rfl, b⟩ := p
      rw [List.length_map, hs.1, List.take_length] at b
      have hle := hs.1
      exact ⟨_, rfl, f, _, rfl, .inl ⟨SqL.of b.hf, fun t nt => kk _ t qs found since (b.k.new nt) ((b.ds.same (same_new nt)).mono (by omega)) upd_same (b.st.tk (Same.tk (same_new nt))) b.ba (by have := b.le; omega) b.mem⟩⟩
end
end Hl
end

section
set_option Elab.async false
set_option linter.all false
set_option maxRecDepth 100000
set_option maxHeartbeats 8000000
namespace Hl
open PySem PySem.Spec PyProof.Rows L2
def sp_law_led (K : PySem.W.Frag) : Sp := fun vs H Q _ => ∃ d B a m t ps ss W L, vs = [.ref d, .ref a, .ref t, .int (W : Nat), .int (L : Nat)] ∧ H a = some (.tup (intsV m)) ∧ AllB m ∧ 1 ≤ m.length ∧ m.length ≤ 30 ∧ H t = some (.tup (refsV ps)) ∧ StepsAt H ps ss ∧ (∀ s, s ∈ ss → s.Ok m.length) ∧ 1 ≤ ps.length ∧ ps.length ≤ 20 ∧ 1 ≤ W ∧ W ≤ 4 ∧ 1 ≤ L ∧ L ≤ 16 ∧ (W = 1 ∨ Clear ss) ∧ Dst H d B ∧ B ≤ 1000000 ∧
  ∀ H' r t2, KeepX [d] H H' → Dst H' d (B + 400) → H' r = some (.tup [.ref t2, .int (todo ss L 0 [] : Nat), .int (todo ss L 0 [] : Nat)]) → H' t2 = some (.tup (intsV (plain m ss))) → Q (.ref r) H'
theorem mvs_le {B l : Nat} (hB : 1 ≤ B) : mvs B l ≤ l := by
  cases l with
  | zero => rw [mvs_zero hB]; exact Nat.le_refl _
  | succ k =>
    unfold mvs
    refine Nat.div_le_of_le_mul ?_
    rw [Nat.mul_succ]
    have : 1 * k ≤ B * k := Nat.mul_le_mul_right _ hB
    omega
theorem parts_le {n : Nat} {s : Step} (h : s.Ok n) : s.parts.length ≤ 7 := by
  cases s with
  | copy a b k =>
    have h1 := h.1.size_six
    rw [← Area.cells_len] at h1
    show (((a.cells.zip b.cells).drop k).map _).length ≤ 7
    rw [List.length_map, List.length_drop, List.length_zip]
    omega
  | fill a y k =>
    have h1 := h.1.size_six
    rw [← Area.cells_len] at h1
    show ((a.cells.drop k).map _).length ≤ 7
    rw [List.length_map, List.length_drop]
    omega
  | add a k =>
    have h1 := h.1.size_six
    rw [← Area.cells_len] at h1
    show ((a.cells.map _) ++ [_]).length ≤ 7
    rw [List.length_append, List.length_map, List.length_singleton]
    omega
  | note f => show 1 ≤ 7; decide
  | fence => show 1 ≤ 7; decide
theorem turns_le {n B : Nat} (hB : 1 ≤ B) : ∀ l : List Step, (∀ s, s ∈ l → s.Ok n) → (l.map (turnsOf B)).sum ≤ 8 * l.length
  | [], _ => Nat.zero_le _
  | s :: r, h => by
    have i := turns_le hB r fun x hx => h x (List.mem_cons_of_mem _ hx)
    have q := parts_le (h s List.mem_cons_self)
    have mv := mvs_le (B := B) (l := s.parts.length) hB
    have t : turnsOf B s ≤ 8 := by
      unfold turnsOf
      split <;> omega
    rw [List.map_cons, List.sum_cons, List.length_cons]
    omega
theorem todo_le {n B : Nat} (hB : 1 ≤ B) (l : List Step) (h : ∀ s, s ∈ l → s.Ok n) : todo l B 0 [] ≤ 8 * l.length := by
  have := turns_le hB l h
  unfold todo
  rw [List.drop_zero]
  simpa using this
theorem new2 {H : Hp} {p dx : Addr} {o u : HO} (np : H p = none) (ndx : H dx = none) : Same H (upd (upd H dx u) p o) := fun b v e => by
  rw [upd_ne (ne_of_none e np), upd_ne (ne_of_none e ndx)]
  exact e
theorem KeepX.thenNew {S N : List Addr} {H H1 H2 : Hp} (k : KeepX S H H1) (k2 : KeepX N H1 H2) (nw : ∀ a, a ∈ N → H a = none) : KeepX S H H2 := fun b o e nb => k2 b o (k b o e nb) fun hb => by rw [nw b hb] at e; cases e
theorem _root_.L2.Same.thenNew {N : List Addr} {H H1 H2 : Hp} (k : Same H H1) (k2 : KeepX N H1 H2) (nw : ∀ a, a ∈ N → H a = none) : Same H H2 := fun b o e => k2 b o (k b o e) fun hb => by rw [nw b hb] at e; cases e
structure Led (K : PySem.W.Frag) (H0 H1 : Hp) (d B : Nat) (q : Addr) (h0 h : Hd) (n : Nat) : Prop where
  run : Run K H1 q h0 h n
  k : KeepX [d] H0 H1
  ds : Dst H1 d B
  nw : ∀ a, a ∈ h0.S q → H0 a = none
  nd : d ∉ h0.S q
theorem nats_ints (l : List Nat) : natsV l = intsV (l.map fun c => ((c : Nat) : Int)) := by
  show _ = List.map _ (List.map _ l)
  rw [List.map_map]
  rfl
theorem Led.mono {K : PySem.W.Frag} {H0 H1 : Hp} {d B B' : Nat} {q : Addr} {h0 h : Hd} {n : Nat} (l : Led K H0 H1 d B q h0 h n) (e : B ≤ B') : Led K H0 H1 d B' q h0 h n := ⟨l.run, l.k, l.ds.mono e, l.nw, l.nd⟩
theorem Led.same {K : PySem.W.Frag} {H0 H1 H2 : Hp} {d B : Nat} {q : Addr} {h0 h : Hd} {n : Nat} (l : Led K H0 H1 d B q h0 h n) (s : Same H1 H2) : Led K H0 H2 d B q h0 h n := ⟨l.run.same s, l.k.same s, l.ds.same s, l.nw, l.nd⟩
theorem Led.draw {K : PySem.W.Frag} {H0 H1 H2 : Hp} {d B B' : Nat} {q : Addr} {h0 h : Hd} {n : Nat} (l : Led K H0 H1 d B q h0 h n) (k : KeepX [d] H1 H2) (D : Dst H2 d B') : Led K H0 H2 d B' q h0 h n :=
  ⟨⟨l.run.hb.off k (fun a ha => by
      rw [l.run.kin.S q] at ha
      intro z
      rw [List.mem_singleton.mp z] at ha
      exact l.nd ha) (k.tkd l.ds), l.run.kin, l.run.good, l.run.fin, l.run.cnt, l.run.todo⟩, l.k.trans k, D, l.nw, l.nd⟩
theorem Led.turn {K : PySem.W.Frag} {H0 H1 H2 : Hp} {d B : Nat} {q : Addr} {h0 h h' : Hd} {n n' : Nat} (l : Led K H0 H1 d B q h0 h n) (k : KeepX (h.S q) H1 H2) (r : Run K H2 q h0 h' n') : Led K H0 H2 d B q h0 h' n' := by
  rw [l.run.kin.S q] at k
  exact ⟨r, l.k.thenNew k l.nw, l.ds.keep k l.nd, l.nw, l.nd⟩
section
variable {P : Program} {w : World} {K : PySem.W.Frag} {mg : Str → Option Value} {base : Heap}
abbrev N_law_led : List Str := ["_law_state", "_law_cells_here", "_law_some", "_law_wide", "_law_long", "_law_here", "_law_turns", "_law_x", "_law_flying", "_law_pair"]
theorem sc_law_led : FnScope N_law_led ["_law_state", "_law_cells_here", "_law_some", "_law_wide", "_law_long"] (defScope s_law_led) := ⟨rfl, rfl, rfl, by decide +kernel, rfl, by decide +kernel, by decide +kernel⟩
theorem D_law_led (T : Txt K mg) (TW : TxtW K w) : DefAt P w K mg base "_law_led" 10 ["_law_state", "_law_cells_here", "_law_some", "_law_wide", "_law_long"] (sp_law_led K) := by
  obtain ⟨fd, F⟩ := T.f_law_led
  have I_Store := I_Store (P := P) (w := w) (base := base) T TW
  have D_Helper := D_Helper (P := P) (w := w) (base := base) T TW
  have M_Helper_post := M_Helper_post (P := P) (w := w) (base := base) T TW
  have M_Helper_is_idle := M_Helper_is_idle (P := P) (w := w) (base := base) T TW
  have M_Helper_flying := M_Helper_flying (P := P) (w := w) (base := base) T TW
  have M_Helper_may_begin := M_Helper_may_begin (P := P) (w := w) (base := base) T TW
  have M_Helper_begin := M_Helper_begin (P := P) (w := w) (base := base) T TW
  have M_Helper_move := M_Helper_move (P := P) (w := w) (base := base) T TW
  have M_Helper_counts := M_Helper_counts (P := P) (w := w) (base := base) T TW
  have M_Store_memory := M_Store_memory (P := P) (w := w) (base := base) T TW
  have D_law_draw := D_law_draw (P := P) (w := w) (base := base) T TW
  have D_law_pick := D_law_pick (P := P) (w := w) (base := base) T TW
  refine ⟨He.fAd K ("_law_led", none), fd, T.g_law_led, F.kp, F.bindsN (fun _ _ _ _ _ _ us hl => match us, hl with | [_, _, _, _, _], _ => rfl), ?_⟩
  refine F.ok sc_law_led (fun vs H Q E h => ?_) (fun cdv A outer s H vs Q E hr h => ?_)
  · obtain ⟨_, _, _, _, _, _, _, _, _, rfl, _⟩ := h
    rfl
  · obtain ⟨d, B, a, m, t, ps, ss, W, L, rfl, ha, hb, hm1, hm2, ht, hs, hok, hp1, hp2, hw1, hw2, hl1, hl2, hc, hd, hB, kk⟩ := h
    refine ⟨_, PSs.nox (pss_cons (ps_par (i := 5) (j := 6) rfl sc_law_led.nd rfl rfl (by decide) rfl rfl (pa_cons (pe_mk I_Store hr (by rfl) T.g_Store (pa_cons (pv 1) pa_nil)) (pa_cons pe_int pa_nil)) (by rfl))
      (pss_cons (ps_set (i := 7) sc_law_led.nd rfl (Or.inl rfl) (pe_mkHelper D_Helper hr (by rfl) (pa_cons (pv 5) pa_nil) (pk_cons (pv 3) (pk_cons (pv 4) pk_nil))))
      (pss_cons (ps_expr (pe_mth (pv 7) T.c_Helper M_Helper_post hr (pa_cons (pv 2) pa_nil)))
      (pss_cons (ps_while PassesOwn.never (pt_not (pt_val (pe_mth0 (pv 7) T.c_Helper M_Helper_is_idle hr)))
        (pss_cons (ps_setLc (i := 8) (own := [("_law_pair", 9)]) (g := (gName 9)) rfl sc_law_led.nd rfl rfl (sw_true rfl rfl rfl (by decide +kernel)) (pi_tup (pe_mth0 (pv 7) T.c_Helper M_Helper_flying hr)) (blkOk_by (own := [("_law_pair", 9)]) (N := N_law_led) (sc := defScope s_law_led) (by decide +kernel)) (fun _ _ _ _ _ => (pg_name (i := 9) sc_law_led.nd rfl (Or.inl rfl))) (fun _ _ _ _ _ => pts_nil) (fun _ _ _ _ _ => (pe_ix (ix_tupK (K := K)) (pv 9) pe_int (fun _ _ => rfl))))
        (Evl.pss_cut (ps_if (PW.pt (pw_or (pt_cmpR (op_eqL0 hr.units) (pv 8) (pe_lst pa_nil) (nomark _)) (pw_or1 (PW.pt (pw_and (pt_val (pe_mth0 (pv 7) T.c_Helper M_Helper_may_begin hr)) (pw_and1 (pt_cmpR op_eq (pe_def D_law_draw hr (by rfl) (pa_cons (pv 0) (pa_cons pe_int pa_nil))) pe_int (nomark _)))))))) (pss_one (ps_expr (pe_mth0 (pv 7) T.c_Helper M_Helper_begin hr))) (pss_one (ps_expr (pe_mth (pv 7) T.c_Helper M_Helper_move hr (pa_cons (pe_def D_law_pick hr (by rfl) (pa_cons (pv 0) (pa_cons (pv 8) pa_nil))) pa_nil)))))
        (pss_one (ps_set (i := 6) sc_law_led.nd rfl (Or.inl rfl) (pe_op op_add (pv 6) pe_int))))))
      (pss_one (ps_ret (pe_tup (pa_cons (pe_mth0 (pv 5) T.c_Store M_Store_memory hr) (pa_cons (pv 6) (pa_cons (pe_op op_add (pe_ix ix_tup (pe_mth0 (pv 7) T.c_Helper M_Helper_counts hr) pe_int (fun _ _ => rfl)) (pe_ix ix_tup (pe_mth0 (pv 7) T.c_Helper M_Helper_counts hr) pe_int (fun _ _ => rfl))) pa_nil)))))))))), ?_⟩
    have hdn : ∃ o, H d = some o := by
      obtain ⟨_, _, _, e0, _, _⟩ := hd
      exact ⟨_, e0⟩
    refine ⟨_, rfl, fun p dx np ndx nep => ⟨p, a, dx, m, rfl, upd_same, (new2 np ndx) _ _ ha, hb, hm1, hm2, fun c f H2 nc nf S2 k2 => ⟨rfl, ?_⟩⟩⟩
    have sA := new2 (o := .ins (He.ga K "Store") dx []) (u := .own p) np ndx
    have s2 : Same H H2 := Same.thenNew sA k2 (by simpa using np)
    have nc0 : H c = none := sA.free' nc
    have nf0 : H f = none := sA.free' nf
    refine ⟨_, _, rfl, ?_⟩
    refine ⟨_, rfl, _, rfl, _, rfl, rfl, rfl, fun q dy nq ndy neq => ⟨q, dy, p, c, f, m, _, _, W, L, rfl, upd_same, S2.same (new2 nq ndy), hw1, hw2, hl1, hl2, fun r y dd ct H4 nr ny nd nct hb4 k4 => ⟨rfl, ?_⟩⟩⟩
    have sB := new2 (o := .ins (He.ga K "Helper") dy []) (u := .own q) nq ndy
    have s4 : Same H2 H4 := Same.thenNew sB k4 (by simpa using nq)
    have s04 := s2.trans s4
    obtain ⟨dq, hq4⟩ := hb4.ob
    refine ⟨_, rfl, q, dq, _, rfl, hq4, rfl, _, rfl, q, _, t, ps, ss, rfl, hb4, rfl, rfl, s04 _ _ ht, hs.tk (Same.tk s04), (fun s hs => (hok s hs).mono hm2), hok, hp1, by omega, fun H5 r5 hb5 k5 => ?_⟩
    have hls := hs.1
    have nS : ∀ a, a ∈ [q, p, r, y, dd, ct, c, f] → H a = none := by
      simp only [List.mem_cons, List.not_mem_nil, or_false]
      rintro b (rfl | rfl | rfl | rfl | rfl | rfl | rfl | rfl)
      · exact s2.free' nq
      · exact np
      · exact s2.free' (sB.free' nr)
      · exact s2.free' (sB.free' ny)
      · exact s2.free' (sB.free' nd)
      · exact s2.free' (sB.free' nct)
      · exact nc0
      · exact nf0
    have s05 : Same H H5 := Same.thenNew s04 k5 (fun b hb => nS b (by rw [List.mem_singleton.mp hb]; show r ∈ _; simp))
    have ndS : d ∉ [q, p, r, y, dd, ct, c, f] := fun z => by
      obtain ⟨o, e0⟩ := hdn
      rw [nS d z] at e0; cases e0
    have hbound := todo_le (n := m.length) hl1 ss hok
    let h0 : Hd := { fresh p c f r y dd ct W L m (List.replicate 8 0) 0 with ring := ss, rps := ps }
    have g0 : Good h0.ring h0.W h0.nx h0.fly := Good.start _ _
    have l0 : Led K H H5 d B q h0 h0 0 := ⟨Run.zero hb5 g0, s05.keep, hd.same s05, nS, ndS⟩
    refine ⟨fun mm σ H1 => ∃ h n x8 x9, Led K H H1 d (B + 2 * n) q h0 h n ∧ σ = [some (.ref d), some (.ref a), some (.ref t), some (.int (W : Nat)), some (.int (L : Nat)), some (.ref p), some (.int (n : Nat)), some (.ref q), x8, x9] ∧ mm = todo h.ring h.B h.nx h.fly, ⟨_, h0, 0, none, none, l0, rfl, rfl⟩, ?_⟩
    rintro mm σ H1 ⟨h, n, x8, x9, l, rfl, rfl⟩
    obtain ⟨dx1, hq⟩ := l.run.hb.ob
    have td := l.run.todo
    refine ⟨_, rfl, q, dx1, _, rfl, hq, rfl, q, h, rfl, l.run.hb, fun H6 s6 => ⟨_, rfl, ?_⟩⟩
    have l6 := l.same s6
    have hq6 := s6 _ _ hq
    cases hid : (h.fa.isEmpty && decide (h.nx = h.ring.length)) with
    | true =>
      obtain ⟨i1, i2⟩ := Bool.and_eq_true_iff.mp hid
      have fe : h.fa = [] := List.isEmpty_iff.mp i1
      have ne : h.nx = h.ring.length := of_decide_eq_true i2
      obtain ⟨em, en⟩ := l.run.ended fe ne
      have em' : h.m = plain m ss := em.trans (final_start ss m)
      have en' : n = todo ss L 0 [] := en
      have ec := l.run.cnt
      refine iteF ?_
      have kc : h.p = p := l.run.kin.p
      have S6 := l6.run.hb.st
      rw [kc] at S6
      obtain ⟨dp, hp6⟩ := S6.ob
      refine ⟨_, rfl, p, dp, _, rfl, hp6, rfl, p, h.c, h.f, h.m, h.fl, h.z, rfl, S6, fun H7 t2 s7 n7 e7 => ⟨_, rfl, ?_⟩⟩
      have l7 := l6.same s7
      have hq7 := s7 _ _ hq6
      refine ⟨_, rfl, q, dx1, _, rfl, hq7, rfl, q, h, rfl, l7.run.hb, fun H8 t3 s8 n8 e8 => ?_⟩
      have l8 := l7.same s8
      have hq8 := s8 _ _ hq7
      refine ⟨t3, _, _, _, rfl, rfl, SqT.of e8, atI_nat (j := 0) rfl, ?_⟩
      refine ⟨_, rfl, q, dx1, _, rfl, hq8, rfl, q, h, rfl, l8.run.hb, fun H9 t4 s9 n9 e9 => ?_⟩
      have l9 := l8.same s9
      refine ⟨t4, _, _, _, rfl, rfl, SqT.of e9, atI_nat (j := 3) rfl, _, _, rfl, rfl, by show 3 ≤ sizeLine; decide, fun rr nr => ?_⟩
      have s10 := same_new (o := .tup [.ref t2, .int (n : Nat), .int (h.k0 + h.k3)]) nr
      have e03 : h.k0 + h.k3 = ((n : Nat) : Int) := by
        rw [ec]
        show (0 : Int) + 0 + _ = _
        omega
      refine kk _ rr t2 (l9.k.same s10) ((l9.ds.same s10).mono (by omega)) ?_ ?_
      · rw [upd_same, ← en']
        show some (HO.tup [V.ref t2, V.int (n : Nat), V.int (h.k0 + h.k3)]) = _
        rw [e03]
      · rw [(s10 _ _ (s9 _ _ (s8 _ _ e7))), em']
    | false =>
      refine iteT ?_
      refine ⟨fun σ' H' => ∃ m', m' < todo h.ring h.B h.nx h.fly ∧ ∃ h' n' x8 x9, Led K H H' d (B + 2 * n') q h0 h' n' ∧ σ' = [some (.ref d), some (.ref a), some (.ref t), some (.int (W : Nat)), some (.int (L : Nat)), some (.ref p), some (.int (n' : Nat)), some (.ref q), x8, x9] ∧ m' = todo h'.ring h'.B h'.nx h'.fly, fun σ' H' p => p, ?_⟩
      refine ⟨_, rfl, q, dx1, _, rfl, hq6, rfl, q, h, rfl, l6.run.hb, fun H7 t7 ts s7 nt7 ht7 tl tt => ⟨t7, rfl, ⟨_, SqT.of ht7⟩, fun D nD => ?_⟩⟩
      have l7 := l6.same s7
      have hq7 := s7 _ _ hq6
      refine lc_it (walk_tup (xs := refsV ts)) (fun i H3 => Same H7 H3 ∧ H3 D = some (.lst (natsV ((h.fa.take i).map fun x => x.1.1)))) ⟨same_new nD, upd_same⟩ (fun i H3 _ p => SqT.of (p.1 _ _ ht7)) (fun i x H3 H8 hi p y => ?_) (fun H8 p => ?_)
      · obtain ⟨s3, hD⟩ := p
        obtain ⟨rfl, ex⟩ := y
        rw [List.length_map] at hi
        rw [List.getElem?_map, List.getElem?_eq_getElem hi] at ex
        obtain rfl := Option.some.inj ex
        have hi2 : i < h.fa.length := tl ▸ hi
        have et := tt i h.fa[i] ts[i] (List.getElem?_eq_getElem hi2) (List.getElem?_eq_getElem hi)
        refine ⟨rfl, _, rfl, ts[i], _, _, _, rfl, rfl, SqT.of (s3 _ _ et), atI_nat (j := 0) rfl, _, hD, ?_, ?_, ?_⟩
        · rw [List.length_map, List.length_map, List.length_take, sizeLine_eq]
          have := l.run.hb.v.cnt
          have := l.run.hb.v.nxl
          have := l.run.hb.v.len
          omega
        · exact fun b o eb => by
            have hne : b ≠ D := ne_of_none eb nD
            rw [upd_ne hne]
            exact s3 b o eb
        · rw [upd_same, List.take_add_one, List.getElem?_eq_getElem hi2, List.map_append]
          show some (HO.lst (natsV _ ++ [V.int _])) = some (HO.lst (natsV (_ ++ [_])))
          rw [show natsV (((h.fa.take i).map fun x => x.1.1) ++ [h.fa[i].1.1]) = natsV ((h.fa.take i).map fun x => x.1.1) ++ natsV [h.fa[i].1.1] from List.map_append]
          rfl
      · obtain ⟨s3, hD⟩ := p
        rw [List.length_map, tl, List.take_length] at hD
        have l8 := l7.same s3
        have hq8 := s3 _ _ hq7
        refine ⟨fun σ2 H2 => ∃ h' x9, Led K H H2 d (B + 2 * (n + 1)) q h0 h' (n + 1) ∧ σ2 = [some (.ref d), some (.ref a), some (.ref t), some (.int (W : Nat)), some (.int (L : Nat)), some (.ref p), some (.int (n : Nat)), some (.ref q), some (.ref D), x9], ?_, ?_⟩
        · refine ⟨_, rfl, by show 0 ≤ sizeLine; decide, fun b nb => ?_⟩
          have l9 := l8.same (same_new (o := .lst []) nb)
          have hq9 := (same_new (o := .lst []) nb) _ _ hq8
          have hD9 := (same_new (o := .lst []) nb) _ _ hD
          refine ⟨D, b, h.fa.map fun x => ((x.1.1 : Nat) : Int), rfl, rfl, ?_, upd_same, ?_⟩
          · rw [hD9, nats_ints, List.map_map]
            rfl
          generalize upd H8 b (HO.lst []) = H9 at l9 hq9 hD9 ⊢
          have beg : mayB h = true → ∀ {Hx : Hp} {Bx : Nat}, Bx ≤ B + 2 * (n + 1) → Led K H Hx d Bx q h0 h n → ∀ (H9 : Hp) (h9 : Hd), HB K H9 q h9 → Begun h h9 → KeepX (h.S q) Hx H9 → Led K H H9 d (B + 2 * (n + 1)) q h0 h9 (n + 1) := fun hm {Hx Bx} le lx H9 h9 hb9 bg k9 => (lx.turn k9 (lx.run.begin hc hm bg hb9)).mono le
          cases hfa : h.fa with
          | nil =>
            have e : (false != (([] : List (Fl × Addr)).map fun x => ((x.1.1 : Nat) : Int)).isEmpty) = true := rfl
            rw [e]
            have lt : h.nx < h.ring.length := by
              have := l.run.hb.v.nxl
              rw [hfa] at hid
              have h2 : ¬ h.nx = h.ring.length := fun z => by
                rw [decide_eq_true z] at hid
                cases hid
              omega
            have hm := may_of_empty l.run.hb.v hfa lt
            refine ⟨_, rfl, iteT (iteT ?_)⟩
            exact ⟨_, rfl, q, dx1, _, rfl, hq9, rfl, q, h, rfl, l9.run.hb, hm, fun H10 h10 hb10 bg k10 => ⟨h10, _, beg hm (by omega) l9 H10 h10 hb10 bg k10, rfl⟩⟩
          | cons x0 rest =>
            have e : (false != ((x0 :: rest).map fun x => ((x.1.1 : Nat) : Int)).isEmpty) = false := rfl
            rw [e]
            refine ⟨_, rfl, iteF ?_⟩
            have fal : h.fa.length ≤ 40 := by
              have := l.run.hb.v.cnt
              have := l.run.hb.v.nxl
              have := l.run.hb.v.len
              omega
            have Dd : D ≠ d := by
              obtain ⟨_, _, _, e0, _, _⟩ := l9.ds
              exact ne_of hD9 e0 (by intro z; cases z)
            refine ⟨_, rfl, q, dx1, _, rfl, hq9, rfl, q, h, rfl, l9.run.hb, fun H10 s10 => ⟨_, rfl, ?_⟩⟩
            have l10 := l9.same s10
            have hq10 := s10 _ _ hq9
            have hD10 := s10 _ _ hD9
            have nle : n ≤ 160 := by
              have := l.run.todo
              have e8 : todo h0.ring h0.B h0.nx h0.fly = todo ss L 0 [] := rfl
              omega
            cases hm : mayB h with
            | false =>
              refine iteF (iteF ?_)
              refine ⟨_, rfl, q, dx1, _, rfl, hq10, rfl, _, rfl, _, rfl, d, B + 2 * n, D, _, rfl, hD10, by rw [List.length_map, List.length_map, hfa]; exact Nat.succ_pos _, by rw [List.length_map, List.length_map]; omega, l10.ds, by omega, fun x H12 hx k12 D12 => ?_⟩
              have l12 := l10.draw k12 D12
              obtain ⟨k0, hk0, rfl⟩ := List.mem_map.mp hx
              obtain ⟨⟨⟨k1, d1, t1⟩, a1⟩, hx0, rfl⟩ := List.mem_map.mp hk0
              have dn : d1 < (stepAt h.ring k1).parts.length := l.run.good.dn _ (List.mem_map.mpr ⟨_, hx0, rfl⟩)
              refine ⟨q, h, k1, d1, t1, a1, rfl, l12.run.hb, hx0, dn, fun H13 fa' dn' k1' k2' z' rr hb13 hf13 k13 => ⟨_, _, (l12.turn k13 (l12.run.move hx0 hb13 hf13)).mono (by omega), rfl⟩⟩
            | true =>
              refine iteT ?_
              refine ⟨_, rfl, d, B + 2 * n, 2, rfl, by decide, by decide, l10.ds, by omega, fun r11 H11 hr11 k11 D11 => ⟨rfl, _, rfl, ite2 (fun z => ?_) fun z => ?_⟩⟩
              · have l11 := l10.draw k11 D11
                have hq11 : H11 q = _ := k11 _ _ hq10 (fun z => ndS (by rw [← List.mem_singleton.mp z]; simp))
                exact ⟨_, rfl, q, dx1, _, rfl, hq11, rfl, q, h, rfl, l11.run.hb, hm, fun H12 h12 hb12 bg k12 => ⟨h12, _, beg hm (by omega) l11 H12 h12 hb12 bg k12, rfl⟩⟩
              · have l11 := l10.draw k11 D11
                have hq11 : H11 q = _ := k11 _ _ hq10 (fun z => ndS (by rw [← List.mem_singleton.mp z]; simp))
                have hD11 := k11 _ _ hD10 (by simpa using Dd)
                refine ⟨_, rfl, q, dx1, _, rfl, hq11, rfl, _, rfl, _, rfl, d, B + 2 * n + 1, D, _, rfl, hD11, by rw [List.length_map, List.length_map, hfa]; exact Nat.succ_pos _, by rw [List.length_map, List.length_map]; omega, l11.ds, by omega, fun x H12 hx k12 D12 => ?_⟩
                have l12 := l11.draw k12 D12
                obtain ⟨k0, hk0, rfl⟩ := List.mem_map.mp hx
                obtain ⟨⟨⟨k1, d1, t1⟩, a1⟩, hx0, rfl⟩ := List.mem_map.mp hk0
                have dn : d1 < (stepAt h.ring k1).parts.length := l.run.good.dn _ (List.mem_map.mpr ⟨_, hx0, rfl⟩)
                refine ⟨q, h, k1, d1, t1, a1, rfl, l12.run.hb, hx0, dn, fun H13 fa' dn' k1' k2' z' rr hb13 hf13 k13 => ⟨_, _, (l12.turn k13 (l12.run.move hx0 hb13 hf13)).mono (by omega), rfl⟩⟩
        · rintro σ2 H2 ⟨h', x9, l', rfl⟩
          refine ⟨_, rfl, _, _, rfl, rfl, ?_⟩
          have td' := l'.run.todo
          exact ⟨_, (by omega : todo h'.ring h'.B h'.nx h'.fly < _), h', n + 1, _, _, l', rfl, rfl⟩
end
end Hl
end

section
set_option Elab.async false
set_option linter.all false
set_option maxRecDepth 100000
set_option maxHeartbeats 8000000
namespace Hl
open PySem PySem.Spec PyProof.Rows L2
def sp_law_right (K : PySem.W.Frag) : Sp := fun vs H Q _ => ∃ d B, vs = [.ref d] ∧ Dst H d B ∧ B ≤ 500000 ∧ ∀ H', KeepX [d] H H' → Dst H' d (B + 5000) → Q (.bl true) H'
section
variable {P : Program} {w : World} {K : PySem.W.Frag} {mg : Str → Option Value} {base : Heap}
abbrev N_law_right : List Str := ["_law_state", "_law_many", "_law_cells_here", "_law_some", "_law_bout", "_law_barred_here", "_law_due", "_law_again", "_law_wide", "_law_long", "_law_found", "_law_turns", "_law_count", "_law_here", "_law_x"]
theorem sc_law_right : FnScope N_law_right ["_law_state"] (defScope s_law_right) := ⟨rfl, rfl, rfl, by decide +kernel, rfl, by decide +kernel, by decide +kernel⟩
theorem D_law_right (T : Txt K mg) (TW : TxtW K w) : DefAt P w K mg base "_law_right" 11 ["_law_state"] (sp_law_right K) := by
  obtain ⟨fd, F⟩ := T.f_law_right
  have D_law_draw := D_law_draw (P := P) (w := w) (base := base) T TW
  have D_law_bytes := D_law_bytes (P := P) (w := w) (base := base) T TW
  have D_law_step := D_law_step (P := P) (w := w) (base := base) T TW
  have D_law_barred := D_law_barred (P := P) (w := w) (base := base) T TW
  have D_law_plain := D_law_plain (P := P) (w := w) (base := base) T TW
  have D_law_led := D_law_led (P := P) (w := w) (base := base) T TW
  have D_end_of := D_end_of (P := P) (w := w) (base := base) T TW
  have D_endK := D_endK (P := P) (w := w) (base := base) T TW
  have I_Store := I_Store (P := P) (w := w) (base := base) T TW
  have D_Helper := D_Helper (P := P) (w := w) (base := base) T TW
  have M_Helper_post := M_Helper_post (P := P) (w := w) (base := base) T TW
  have M_Helper_is_idle := M_Helper_is_idle (P := P) (w := w) (base := base) T TW
  have M_Store_memory := M_Store_memory (P := P) (w := w) (base := base) T TW
  refine ⟨He.fAd K ("_law_right", none), fd, T.g_law_right, F.kp, F.bindsN (fun _ _ _ _ _ _ us hl => match us, hl with | [_], _ => rfl), ?_⟩
  refine F.ok sc_law_right (fun vs H Q E h => ?_) (fun cdv A outer s H vs Q E hr h => ?_)
  · obtain ⟨_, _, rfl, _⟩ := h
    rfl
  · obtain ⟨d, B, rfl, hd, hB, kk⟩ := h
    have hdn : ∃ o, H d = some o := by
      obtain ⟨_, _, _, e0, _, _⟩ := hd
      exact ⟨_, e0⟩
    refine ⟨_, PSs.nox (pss_cons (ps_set (i := 1) sc_law_right.nd rfl (Or.inr rfl) (pe_op op_add pe_int (pe_def D_law_draw hr (by rfl) (pa_cons (pv 0) (pa_cons pe_int pa_nil)))))
      (pss_cons (ps_set (i := 2) sc_law_right.nd rfl (Or.inl rfl) (pe_def D_law_bytes hr (by rfl) (pa_cons (pv 0) (pa_cons (pv 1) pa_nil))))
      (pss_cons (ps_setLc (i := 3) (own := [("_law_bout", 4)]) (g := (gName 4)) rfl sc_law_right.nd rfl rfl (sw_true rfl rfl rfl (by decide +kernel)) (pi_range1 (by rfl) T.r_range (pa_cons (pe_op op_add pe_int (pe_def D_law_draw hr (by rfl) (pa_cons (pv 0) (pa_cons pe_int pa_nil)))) pa_nil)) (blkOk_by (own := [("_law_bout", 4)]) (N := N_law_right) (sc := defScope s_law_right) (by decide +kernel)) (fun _ _ _ _ _ => (pg_name (i := 4) sc_law_right.nd rfl (Or.inl rfl))) (fun _ _ _ _ _ => pts_nil) (fun _ _ _ _ _ => (pe_def D_law_step hr (by rfl) (pa_cons (pv 0) (pa_cons (pv 1) (pa_cons (pe_def D_law_draw hr (by rfl) (pa_cons (pv 0) (pa_cons pe_int pa_nil))) pa_nil))))))
      (pss_cons (ps_par (i := 5) (j := 6) rfl sc_law_right.nd rfl rfl (by decide) rfl rfl (pa_cons (pe_def D_law_barred hr (by rfl) (pa_cons (pv 0) (pa_cons (pv 3) pa_nil))) (pa_cons (pe_def D_law_plain hr (by rfl) (pa_cons (pv 2) (pa_cons (pv 3) pa_nil))) pa_nil)) (by rfl))
      (pss_cons (ps_for PassesOwn.never rfl (pi_range1 (by rfl) T.r_range (pa_cons pe_int pa_nil)) (pg_name (i := 7) sc_law_right.nd rfl (Or.inl rfl))
        (pss_cons (ps_par (i := 8) (j := 9) rfl sc_law_right.nd rfl rfl (by decide) rfl rfl (pa_cons (pe_op op_add pe_int (pe_def D_law_draw hr (by rfl) (pa_cons (pv 0) (pa_cons pe_int pa_nil)))) (pa_cons (pe_op op_add pe_int (pe_def D_law_draw hr (by rfl) (pa_cons (pv 0) (pa_cons pe_int pa_nil)))) pa_nil)) (by rfl))
        (pss_cons (ps_asg (pe_def D_law_led hr (by rfl) (pa_cons (pv 0) (pa_cons (pv 2) (pa_cons (pv 5) (pa_cons (pv 8) (pa_cons (pv 9) pa_nil)))))) (pg_tupK (K := K) (n := 3) rfl (pgs_cons (pg_name (i := 10) sc_law_right.nd rfl (Or.inl rfl)) (pgs_cons (pg_name (i := 11) sc_law_right.nd rfl (Or.inl rfl)) (pgs_cons (pg_name (i := 12) sc_law_right.nd rfl (Or.inl rfl)) pgs_nil)))))
        (pss_cons (ps_if (PW.pt (pw_or (pt_cmpR (op_neTI hr.units) (pv 10) (pv 6) (nomark _)) (pw_or1 (pt_cmpR op_ne (pv 11) (pv 12) (nomark _))))) (pss_one (ps_ret pe_bl)) pss_nil)
        (pss_cons (ps_set (i := 13) sc_law_right.nd rfl (Or.inl rfl) (pe_mk I_Store hr (by rfl) T.g_Store (pa_cons (pv 2) pa_nil)))
        (pss_cons (ps_set (i := 14) sc_law_right.nd rfl (Or.inl rfl) (pe_mkHelper D_Helper hr (by rfl) (pa_cons (pv 13) pa_nil) (pk_cons (pv 8) (pk_cons (pv 9) pk_nil))))
        (pss_cons (ps_expr (pe_mth (pv 14) T.c_Helper M_Helper_post hr (pa_cons (pv 5) pa_nil)))
        (pss_cons (ps_if (PW.pt (pw_or (pt_cmpR op_ne (pe_def D_end_of hr (by rfl) (pa_cons (pv 14) pa_nil)) (pv 11) (nomark _)) (pw_or (pt_cmpR (op_neTI hr.units) (pe_mth0 (pv 13) T.c_Store M_Store_memory hr) (pv 6) (nomark _)) (pw_or (pt_not (pt_val (pe_mth0 (pv 14) T.c_Helper M_Helper_is_idle hr))) (pw_or1 (pt_cmpR op_ne (pe_endKw D_endK hr (by rfl) (pk_cons (pv 14) pk_nil)) pe_int (nomark _))))))) (pss_one (ps_ret pe_bl)) pss_nil)
        (pss_one (ps_if (pt_cmpR (op_neTI hr.units) (pe_ix ix_tup (pe_def D_law_led hr (by rfl) (pa_cons (pv 0) (pa_cons (pv 2) (pa_cons (pe_callTy call_tuple_of (by rfl) T.r_tuple (by decide +kernel) (pa_cons (pv 3) pa_nil)) (pa_cons pe_int (pa_cons (pv 9) pa_nil)))))) pe_int (fun _ _ => rfl)) (pv 6) (nomark _)) (pss_one (ps_ret pe_bl)) pss_nil))))))))))
      (pss_one (ps_ret pe_bl))))))), ?_⟩
    have nod : ∀ {x : Addr} {Hx : Hp}, Hx x = none → (∃ o, Hx d = some o) → x ≠ d := fun {x Hx} e1 ⟨o, e2⟩ e => by rw [e, e2] at e1; cases e1
    have dne : ∀ {Hx : Hp} {Bx : Nat}, Dst Hx d Bx → ∃ o, Hx d = some o := fun {Hx Bx} D => by
      obtain ⟨_, _, _, e0, _, _⟩ := D
      exact ⟨_, e0⟩
    refine ⟨_, rfl, d, B, 21, rfl, by decide, by decide, hd, by omega, fun r1 H1 hr1 k1 D1 => ⟨_, _, rfl, rfl, ?_⟩⟩
    refine ⟨_, rfl, _, rfl, d, B + 1, 10 + r1, rfl, by omega, by omega, D1, by omega, fun a m H2 hb hl na ha k2 D2 => ?_⟩
    refine ⟨_, rfl, d, B + 61, 10, rfl, by decide, by decide, D2, by omega, fun r3 H3 hr3 k3 D3 => ⟨_, _, rfl, rfl, _, rfl, by omega, by omega, fun D nD => ?_⟩⟩
    have ad : a ≠ d := nod na (dne D1)
    have Dd : D ≠ d := nod nD (dne D3)
    have eN : (1 + ((r3 : Nat) : Int)).toNat = 1 + r3 := by omega
    refine lc_it (walk_range (lo := 0) (n := (1 + ((r3 : Nat) : Int)).toNat)) (fun i H4 => KeepX [d] H3 H4 ∧ Dst H4 d (B + 62 + 17 * i) ∧ ∃ ps ss, H4 D = some (.lst (refsV ps)) ∧ StepsAt H4 ps ss ∧ ps.length = i ∧ ∀ s, s ∈ ss → s.Ok m.length ∧ s.bar = false) ⟨(same_new nD).keep, D3.same (same_new nD), [], [], upd_same, StepsAt.nil _, rfl, (fun s hs => by cases hs)⟩ (fun _ _ _ _ => trivial) (fun i x H4 H5 hi p y => ?_) (fun H4 p => ?_)
    · obtain ⟨k4, D4, ps, ss, hD, hst, hpl, hok⟩ := p
      obtain ⟨rfl, rfl⟩ := y
      have ilt : i < 10 := by omega
      refine ⟨rfl, _, rfl, _, rfl, _, rfl, d, B + 62 + 17 * i, 7, rfl, by decide, by decide, D4, by omega, fun r4 H6 hr4 k6 D6 => ⟨d, B + 62 + 17 * i + 1, 10 + r1, r4, rfl, by omega, by omega, by omega, D6, by omega, fun p st H7 sok sb np hp k7 D7 => ?_⟩⟩
      have e7 := k7 _ _ (k6 _ _ hD (by simpa using Dd)) (by simpa using Dd)
      have tk := TK.trans (k6.tkd D4) (k7.tkd D6)
      have tku : TK H7 (upd H7 D (.lst (refsV ps ++ [V.ref p]))) := tk_upd e7 (fun _ z => by cases z)
      refine ⟨_, e7, by rw [List.length_map, hpl, sizeLine_eq]; omega, ?_, (D7.upd Dd).mono (by omega), ps ++ [p], ss ++ [st], by rw [upd_same, refsV_snoc], (StepsAt.snoc (hst.tk tk) hp).tk tku, by rw [List.length_append, hpl]; rfl, fun s hs => ?_⟩
      · exact ((k4.trans k6).trans k7).fresh nD
      · rcases List.mem_append.mp hs with hs | hs
        · exact hok s hs
        · rw [List.mem_singleton.mp hs, hl]
          exact ⟨sok, sb⟩
    · obtain ⟨k4, D4, ps, ss, hD, hst, hpl, hok⟩ := p
      rw [eN] at D4 hpl
      have hps := hst.1
      have kA := ((k1.trans k2).trans k3).trans k4
      have ha4 := k4 _ _ (k3 _ _ ha (by simpa using ad)) (by simpa using ad)
      refine ⟨_, rfl, _, rfl, d, B + 62 + 17 * (1 + r3), D, ps, ss, rfl, hD, hst, (fun s hs => ⟨(hok s hs).1.mono (by omega), (hok s hs).2⟩), by omega, D4, by omega, fun H5 t qs found since k5 D5 ht hqs hba hlen hmem => ?_⟩
      have tk5 := k5.tkd D4
      refine ⟨_, rfl, _, rfl, a, m, D, ps, ss, rfl, k5 _ _ ha4 (by simpa using ad), k5 _ _ hD (by simpa using Dd), hst.tk tk5, hok, hb, by omega, by omega, fun H6 t2 s6 e6 => ⟨_, _, rfl, ?_⟩⟩
      have td : t ≠ d := by
        obtain ⟨_, _, _, e0, _, _⟩ := D5
        exact ne_of ht e0 (by intro z; cases z)
      have D6 := D5.same s6
      have t2d : t2 ≠ d := by
        obtain ⟨_, _, _, e0, _, _⟩ := D6
        exact ne_of e6 e0 (by intro z; cases z)
      have up : ∀ {Hx : Hp}, KeepX [d] H6 Hx → Hx a = some (.tup (intsV m)) ∧ Hx D = some (.lst (refsV ps)) ∧ StepsAt Hx ps ss ∧ Hx t = some (.tup (refsV qs)) ∧ StepsAt Hx qs found ∧ Hx t2 = some (.tup (intsV (plain m ss))) := fun {Hx} k => by
        have tk := k.tkd D6
        exact ⟨k _ _ (s6 _ _ (k5 _ _ ha4 (by simpa using ad))) (by simpa using ad), k _ _ (s6 _ _ (k5 _ _ hD (by simpa using Dd))) (by simpa using Dd), ((hst.tk tk5).tk (Same.tk s6)).tk tk, k _ _ (s6 _ _ ht) (by simpa using td), (hqs.tk (Same.tk s6)).tk tk, k _ _ e6 (by simpa using t2d)⟩
      have okF : ∀ s, s ∈ found → s.Ok m.length := fun s hs => by
        rcases hmem s hs with q | q | q
        · exact (hok s q).1
        · subst q; trivial
        · subst q; show 4 < 8; decide
      have fle : ss.length ≤ found.length := by
        rw [← hba.same]
        exact List.length_filter_le _ _
      have hql := hqs.1
      have hpf := hba.plain m
      have e4 : (4 : Int).toNat = 4 := rfl
      refine ⟨_, rfl, by decide, by decide, ?_⟩
      refine for_it (walk_range (lo := 0) (n := (4 : Int).toNat)) (fun i σ H7 => (∃ x4 x7 x8 x9 x10 x11 x12 x13 x14 : Option V, σ = [some (.ref d), some (.int ((10 + r1 : Nat) : Int)), some (.ref a), some (.ref D), x4, some (.ref t), some (.ref t2), x7, x8, x9, x10, x11, x12, x13, x14]) ∧ KeepX [d] H6 H7 ∧ Dst H7 d (B + 300 + 900 * i)) ⟨⟨_, _, _, _, _, _, _, _, _, rfl⟩, KeepX.refl _ _, D6.mono (by omega)⟩ (fun _ _ _ _ _ => trivial) (fun i x σ H7 H8 hi p y => ?_) (fun σ H7 p => ?_)
      · obtain ⟨⟨x4, x7, x8, x9, x10, x11, x12, x13, x14, rfl⟩, k7, D7⟩ := p
        obtain ⟨rfl, rfl⟩ := y
        have ilt : i < 4 := hi
        refine ⟨_, rfl, d, B + 300 + 900 * i, 4, rfl, by decide, by decide, D7, by omega, fun r8 H8 hr8 k8 D8 => ⟨_, _, rfl, rfl, _, rfl, d, B + 300 + 900 * i + 1, 16, rfl, by decide, by decide, D8, by omega, fun r9 H9 hr9 k9 D9 => ⟨_, _, rfl, rfl, _, _, rfl, ?_⟩⟩⟩
        have k79 := (k7.trans k8).trans k9
        obtain ⟨ha9, hD9, hst9, ht9, hqs9, h29⟩ := up k79
        refine ⟨_, rfl, _, rfl, _, rfl, _, rfl, _, rfl, d, B + 300 + 900 * i + 2, a, m, t, qs, found, 1 + r8, 1 + r9, rfl, ha9, hb, by omega, by omega, ht9, hqs9, okF, by omega, by omega, by omega, by omega, by omega, by omega, .inr hba.clear, D9, by omega, fun H10 r t3 k10 D10 er e3 => ?_⟩
        have k710 := k79.trans k10
        obtain ⟨ha10, hD10, hst10, ht10, hqs10, h210⟩ := up k710
        refine ⟨r, _, rfl, SqT.of er, rfl, _, _, rfl, _, _, rfl, _, _, rfl, rfl, ?_⟩
        rw [hpf] at e3
        refine ⟨_, rfl, _, rfl, t3, t2, _, rfl, rfl, e3, h210, _, rfl, iteF ⟨_, rfl, _, rfl, rfl, _, rfl, ?_⟩⟩
        rw [show (!decide (V.int ((todo found (1 + r9) 0 [] : Nat) : Int) = V.int ((todo found (1 + r9) 0 [] : Nat) : Int))) = false by simp]
        refine iteF ?_
        -- a store and a helper of its own
        refine ⟨_, rfl, fun p dx np ndx nep => ⟨p, a, dx, m, rfl, upd_same, (new2 np ndx) _ _ ha10, hb, by omega, by omega, fun c f H11 nc nf S11 k11 => ⟨rfl, ?_⟩⟩⟩
        have sA := new2 (o := .ins (He.ga K "Store") dx []) (u := .own p) np ndx
        have s11 : Same H10 H11 := Same.thenNew sA k11 (by simpa using np)
        have nc0 : H10 c = none := sA.free' nc
        have nf0 : H10 f = none := sA.free' nf
        refine ⟨_, rfl, _, rfl, _, rfl, rfl, rfl, fun q dy nq ndy neq => ⟨q, dy, p, c, f, m, _, _, 1 + r8, 1 + r9, rfl, upd_same, S11.same (new2 nq ndy), by omega, by omega, by omega, by omega, fun rr y dd ct H12 nr ny ndd nct hb12 k12 => ⟨rfl, ?_⟩⟩⟩
        have sB := new2 (o := .ins (He.ga K "Helper") dy []) (u := .own q) nq ndy
        have s12 : Same H11 H12 := Same.thenNew sB k12 (by simpa using nq)
        have s1012 := s11.trans s12
        obtain ⟨dq, hq12⟩ := hb12.ob
        refine ⟨_, rfl, q, dq, _, rfl, hq12, rfl, _, rfl, q, _, t, qs, found, rfl, hb12, rfl, rfl, s1012 _ _ ht10, hqs10.tk (Same.tk s1012), (fun s hs => (okF s hs).mono (by omega)), okF, by omega, by omega, fun H13 r13 hb13 k13 => ?_⟩
        have nS : ∀ a, a ∈ [q, p, rr, y, dd, ct, c, f] → H10 a = none := by
          simp only [List.mem_cons, List.not_mem_nil, or_false]
          rintro b (rfl | rfl | rfl | rfl | rfl | rfl | rfl | rfl)
          · exact s11.free' nq
          · exact np
          · exact s11.free' (sB.free' nr)
          · exact s11.free' (sB.free' ny)
          · exact s11.free' (sB.free' ndd)
          · exact s11.free' (sB.free' nct)
          · exact nc0
          · exact nf0
        have s1013 : Same H10 H13 := Same.thenNew s1012 k13 (fun b hb => nS b (by rw [List.mem_singleton.mp hb]; show rr ∈ _; simp))
        let h0 : Hd := { fresh p c f rr y dd ct (1 + r8) (1 + r9) m (List.replicate 8 0) 0 with ring := found, rps := qs }
        have g0 : Good h0.ring h0.W h0.nx h0.fly := Good.start _ _
        refine ⟨_, rfl, q, h0, rfl, hb13, g0, .inr hba.clear, fun H14 h14 n rn fe ne k14 => ?_⟩
        have s1014 : Same H10 H14 := Same.thenNew s1013 k14 nS
        obtain ⟨em, en⟩ := rn.ended fe ne
        have em' : h14.m = plain m ss := (em.trans (final_start found m)).trans hpf
        have en' : n = todo found (1 + r9) 0 [] := en
        refine ⟨_, rfl, rfl, _, rfl, ?_⟩
        rw [show (!decide (V.int ((n : Nat) : Int) = V.int ((todo found (1 + r9) 0 [] : Nat) : Int))) = false by rw [en']; simp]
        refine iteF ?_
        have kp : h14.p = p := rn.kin.p
        have S14 := rn.hb.st
        rw [kp] at S14
        obtain ⟨dp, hp14⟩ := S14.ob
        refine ⟨_, rfl, p, dp, _, rfl, hp14, rfl, p, h14.c, h14.f, h14.m, h14.fl, h14.z, rfl, S14, fun H15 t4 s15 n15 e15 => ?_⟩
        rw [em'] at e15
        have k715 := (k710.same s1014).same s15
        obtain ⟨ha15, hD15, hst15, ht15, hqs15, h215⟩ := up k715
        refine ⟨_, rfl, t4, t2, _, rfl, rfl, e15, h215, _, rfl, iteF ?_⟩
        have hb15 := rn.hb.same s15
        obtain ⟨dq2, hq15⟩ := hb15.ob
        refine ⟨_, rfl, q, dq2, _, rfl, hq15, rfl, q, h14, rfl, hb15, fun H16 s16 => ⟨_, rfl, ?_⟩⟩
        rw [show (h14.fa.isEmpty && decide (h14.nx = h14.ring.length)) = true by rw [fe, decide_eq_true ne]; rfl]
        refine iteF ?_
        have hb16 := hb15.same s16
        refine ⟨_, rfl, rfl, rfl, q, h14, rfl, hb16, rn.good, .inr (by rw [rn.kin.ring]; exact hba.clear), fun H17 h17 n17 rn17 fe17 ne17 k17 => ?_⟩
        have e17 : n17 = 0 := by
          obtain ⟨_, e⟩ := rn17.ended fe17 ne17
          rw [e, show h14.fly = [] by show h14.fa.map _ = []; rw [fe]; rfl, ne]
          exact todo_done _ _
        rw [rn.kin.S q] at k17
        have s1017 : Same H10 H17 := Same.thenNew ((s1014.trans s15).trans s16) k17 nS
        refine ⟨rfl, _, rfl, ?_⟩
        rw [e17, show (!decide (V.int ((0 : Nat) : Int) = V.int 0)) = false by simp]
        refine iteF ?_
        have k717 := k710.same s1017
        have D17 := D10.same s1017
        obtain ⟨ha17, hD17, hst17, ht17, hqs17, h217⟩ := up k717
        refine ⟨_, rfl, _, rfl, _, rfl, D, _, rfl, .inl ⟨SqL.of hD17, fun tt ntt => ?_⟩⟩
        have s18 := same_new (o := .tup (refsV ps)) ntt
        have k718 := k717.same s18
        obtain ⟨ha18, hD18, hst18, ht18, hqs18, h218⟩ := up k718
        refine ⟨_, rfl, d, B + 300 + 900 * i + 402, a, m, tt, ps, ss, 1, 1 + r9, rfl, ha18, hb, by omega, by omega, upd_same, hst18, (fun s hs => (hok s hs).1), by omega, by omega, by omega, by omega, by omega, by omega, .inl rfl, D17.same s18, by omega, fun H19 r2 t5 k19 D19 er2 e5 => ?_⟩
        have k719 := k718.trans k19
        obtain ⟨ha19, hD19, hst19, ht19, hqs19, h219⟩ := up k719
        refine ⟨r2, _, _, _, rfl, rfl, SqT.of er2, atI_nat (j := 0) rfl, _, rfl, t5, t2, _, rfl, rfl, e5, h219, _, rfl, iteF ?_⟩
        exact ⟨⟨_, _, _, _, _, _, _, _, _, rfl⟩, k719, D19.mono (by omega)⟩
      · obtain ⟨⟨x4, x7, x8, x9, x10, x11, x12, x13, x14, rfl⟩, k7, D7⟩ := p
        exact kk H7 (((kA.trans k5).same s6).trans k7) (D7.mono (by rw [e4]; omega))
end
end Hl
end

section
set_option Elab.async false
set_option linter.all false
set_option maxRecDepth 100000
set_option maxHeartbeats 8000000
namespace Hl
open PySem PySem.Spec PyProof.Rows L2
def sp_law (K : PySem.W.Frag) : Sp := fun vs H Q _ => ∃ a ns, vs = [.ref a] ∧ SqL K H a (intsV ns) ∧ ns.length ≤ 63 ∧ ∀ H', Q (.bl true) H'
section
variable {P : Program} {w : World} {K : PySem.W.Frag} {mg : Str → Option Value} {base : Heap}
abbrev N_law : List Str := ["_law_script", "_law_bout", "_law_state", "_law_again"]
theorem sc_law : FnScope N_law ["_law_script"] (defScope s_law) := ⟨rfl, rfl, rfl, by decide +kernel, rfl, by decide +kernel, by decide +kernel⟩
theorem F_law (T : Txt K mg) (TW : TxtW K w) {fd : FuncData} (F : FnP K "law" "law" s_law [] (He.fAd K ("law", none)) fd) : FnOk P w K mg base CX0 12 (He.fAd K ("law", none)) fd ["_law_script"] (sp_law K) := by
  have D_law_begun := D_law_begun (P := P) (w := w) (base := base) T TW
  have D_law_right := D_law_right (P := P) (w := w) (base := base) T TW
  refine F.ok sc_law (fun vs H Q E h => ?_) (fun cdv A outer s H vs Q E hr h => ?_)
  · obtain ⟨_, _, rfl, _⟩ := h
    rfl
  · obtain ⟨a, ns, rfl, ha, hn, kk⟩ := h
    refine ⟨_, PSs.nox (pss_cons (ps_for PassesOwn.never rfl (pi_range1 (by rfl) T.r_range (pa_cons (pe_callB (call_max2 rfl) (by rfl) T.r_max (by decide +kernel) (pa_cons pe_int (pa_cons (pe_callB (call_min2 rfl) (by rfl) T.r_min (by decide +kernel) (pa_cons (pe_callB call_len_seq (by rfl) T.r_len (by decide +kernel) (pa_cons (pv 0) pa_nil)) (pa_cons pe_int pa_nil))) pa_nil))) pa_nil)) (pg_name (i := 1) sc_law.nd rfl (Or.inl rfl))
        (pss_cons (ps_set (i := 2) sc_law.nd rfl (Or.inl rfl) (pe_def D_law_begun hr (by rfl) (pa_cons (pv 0) (pa_cons (pv 1) pa_nil))))
        (pss_one (ps_for PassesOwn.never rfl (pi_range1 (by rfl) T.r_range (pa_cons pe_int pa_nil)) (pg_name (i := 3) sc_law.nd rfl (Or.inl rfl))
          (pss_one (ps_if (pt_not (pt_val (pe_def D_law_right hr (by rfl) (pa_cons (pv 2) pa_nil)))) (pss_one (ps_ret pe_bl)) pss_nil))))))
      (pss_one (ps_ret pe_bl))), ?_⟩
    refine ⟨_, rfl, a, _, rfl, .inl ha, _, _, rfl, _, _, rfl, _, rfl, ?_⟩
    generalize hj : (if (if (4 : Int) < (((intsV ns).length : Nat) : Int) then (4 : Int) else (((intsV ns).length : Nat) : Int)) > (2 : Int) then (if (4 : Int) < (((intsV ns).length : Nat) : Int) then (4 : Int) else (((intsV ns).length : Nat) : Int)) else (2 : Int)) = j
    have jb : 2 ≤ j ∧ j ≤ 4 := by
      rw [← hj]
      by_cases h4 : (4 : Int) < (((intsV ns).length : Nat) : Int)
      · rw [if_pos h4, if_pos (by decide)]
        omega
      · rw [if_neg h4]
        split <;> omega
    refine ⟨by omega, by omega, ?_⟩
    refine for_it (walk_range (lo := 0) (n := j.toNat)) (fun i σ H1 => (∃ x1 x2 x3 : Option V, σ = [some (.ref a), x1, x2, x3]) ∧ Same H H1) ⟨⟨_, _, _, rfl⟩, Same.refl _⟩ (fun _ _ _ _ _ => trivial) (fun i x σ H0 H1 hi p y => ?_) (fun σ H1 p => ?_)
    · obtain ⟨⟨x1, x2, x3, rfl⟩, s1⟩ := p
      obtain ⟨rfl, rfl⟩ := y
      refine ⟨_, rfl, _, rfl, a, ns, i, (by show [V.ref a, V.int (0 + ((i : Nat) : Int))] = _; rw [Int.zero_add]), Same.seq s1 ha, hn, by omega, fun H2 d s2 nd D2 => ?_⟩
      have nd0 : H d = none := Same.free' s1 nd
      have s12 := Same.trans s1 s2
      refine ⟨_, rfl, by decide, by decide, ?_⟩
      refine for_it (walk_range (lo := 0) (n := (3 : Int).toNat)) (fun k σ H3 => (∃ x1 x3 : Option V, σ = [some (.ref a), x1, some (.ref d), x3]) ∧ KeepX [d] H2 H3 ∧ Dst H3 d (5000 * k)) ⟨⟨_, _, rfl⟩, KeepX.refl _ _, D2⟩ (fun _ _ _ _ _ => trivial) (fun k x σ H3 H4 hk p y => ?_) (fun σ H3 p => ?_)
      · obtain ⟨⟨x1, x3, rfl⟩, k3, D3⟩ := p
        obtain ⟨rfl, rfl⟩ := y
        have klt : k < 3 := hk
        refine ⟨_, rfl, d, 5000 * k, rfl, D3, by omega, fun H5 k5 D5 => ⟨_, rfl, iteF ?_⟩⟩
        exact ⟨⟨_, _, rfl⟩, k3.trans k5, D5.mono (by omega)⟩
      · obtain ⟨⟨x1, x3, rfl⟩, k3, D3⟩ := p
        exact ⟨⟨_, _, _, rfl⟩, Same.thenNew s12 k3 (by simpa using nd0)⟩
    · exact kk _
end
end Hl
end

section
set_option Elab.async false
set_option linter.all false
set_option maxRecDepth 100000
set_option maxHeartbeats 0
namespace Hl
open PySem PySem.Spec PyProof.Rows L2
theorem facts {P : Program} {w : World} {K : PySem.W.Frag} {h : Heap} {mg : Str → Option Value} {f : Addr} (X : K.In h) (G : h.Ns mainGlobals mg) (hfa : mg ("law" : Str) = some (.ref f)) (c : obsZ K = valZ w) :
    ∃ fd : FuncData, (∀ (s : Shared) (v : Value), BindsTo s fd ⟨[v], []⟩ [("_law_script", v)]) ∧ ∀ base : Heap, K.In base → base.Ns mainGlobals mg → FnOk P w K mg base CX0 12 f fd ["_law_script"] (sp_law K) := by
  obtain ⟨T, TW⟩ := txt_of X G c
  obtain ⟨fd, F⟩ := T.f_law
  have e := hfa.symm.trans T.g_law
  cases e
  have b := FunD.bindsA (ps := ["_law_script"]) F fun _ _ _ _ _ _ us hl => match us, hl with | [_], _ => rfl
  exact ⟨fd, fun s v => b s [v] rfl, fun base _ _ => F_law T TW F⟩
end Hl
open PySem PySem.W PySem.Calls PyProof.Rows
theorem PySem.Challenge.cw_haulring_k32_whole_clear_lists_holds : PySem.Challenge.rw_haulring_k32_whole_clear_lists.Holds := by
  w_on; o_law
  refine HandSHeadRun.head_any (r := OpenLaw.row PySem.Challenge.rw_haulring_k32_whole_clear_lists) (q := view (OpenLaw.row PySem.Challenge.rw_haulring_k32_whole_clear_lists).prog [78]) (H := Hl.hk) (ob := Hl.ob) (M := 6000) (loose := Hl.names) (d := HandSHeadRun.topDef (OpenLaw.row PySem.Challenge.rw_haulring_k32_whole_clear_lists).prog 78) (kwd := []) Hl.ob_eq
    (by kernel_rfl) (fun s => by kernel_rfl) Hl.run (by kernel_rfl) (by kernel_rfl) (by kernel_rfl) (by rfl) (by first | assumption | decide +kernel) (by decide +kernel) ⟨rfl, rfl, rfl, rfl, rfl, by decide +kernel⟩ ?hw ?hc
  case hw => w_witness2
  case hc =>
    refine L2.walk_ofE (l := PySem.Challenge.rw_haulring_k32_whole_clear_lists) (n := 63) (k := 12) (x := "_law_script") (CX := L2.CX0) rfl (by decide) (by kernel_rfl) ⟨rfl, by decide, by decide⟩ ?F (fun _ _ _ _ z => z)
    intro w mg fa h Y G hmg0
    obtain ⟨K, KX, c⟩ := Y
    have hmg : mg ("law" : PySem.Str) = some (.ref fa) := by
      have e : (HandSHeadRun.topDef (OpenLaw.row PySem.Challenge.rw_haulring_k32_whole_clear_lists).prog 78).name = ("law" : PySem.Str) := by kernel_rfl
      rw [← e]
      exact hmg0
    obtain ⟨fd, hb, hF⟩ := Hl.facts (P := (PySem.Challenge.rw_haulring_k32_whole_clear_lists).prog) (w := w) KX G hmg c
    exact ⟨K, fd, Hl.sp_law K, KX, hb, fun H a ns hl _ hS => ⟨a, ns, rfl, hS, hl, fun _ => rfl⟩, hF⟩
end
