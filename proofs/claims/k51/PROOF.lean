import PyProof.Rows.All
import Wide.All
import OpenK.AllK
import Wide.FinOn
import KE.KStateDown
import KE.KSuper
import HandS.ForMost
import HandS.Defaults
import HandS.Codes
import HandS.Property
import HandS.IsInst
import HandS.Exc
import HandS.HeadHook1
import HandS.HeadHook2
import HandS.Head0
import HandS.Head1
import HandS.Head2
import HandS.HeadEnd
import PyProof.StrBlock2
import KE.SortData
import HandS.Walk
import HandS.FStr
import HandS.Deep
import HandS.SetKeys
import HandS.DictComp
import HandS.IterVal
import HandS.RevRange
import HandS.Zip
import KE.GoesNew
import HandS.ClsMeth
import HandS.More
import HandS.Comp
import HandS.Ends
import HandS.Words
import HandS.WordsExc
import PySem.Challenge.RW_forkflags_k51_whole_newest
set_option Elab.async false
set_option linter.all false
set_option maxRecDepth 100000
set_option maxHeartbeats 0
/-! The text by places, what the head tells of it. Printed by gen0.py. -/
namespace FF
open PySem PySem.Spec PyProof.Rows L2
def top (i : Nat) : Stmt := PySem.Challenge.pw_forkflags_k51_whole_newest.main.body.getD i (.Pass ⟨0, 0, 0, 0⟩)
abbrev s_is_below : Stmt := top 11
abbrev s_p_init : Stmt := inClass (top 12) 0
abbrev s_p_check_writer : Stmt := inClass (top 12) 4
abbrev s_p_check_state : Stmt := inClass (top 12) 5
abbrev s_p_start : Stmt := inClass (top 12) 6
abbrev s_p_cells_of : Stmt := inClass (top 12) 7
abbrev s_p_turned : Stmt := inClass (top 12) 8
abbrev s_p_updated : Stmt := inClass (top 12) 9
abbrev s_is_name : Stmt := top 16
abbrev s_is_tree : Stmt := top 19
abbrev s_check_tree : Stmt := top 20
abbrev s_subtrees_of : Stmt := top 21
abbrev s_ways_of : Stmt := top 22
abbrev s_forks_of : Stmt := top 23
abbrev s_is_record : Stmt := top 27
abbrev s_good_slot : Stmt := top 28
abbrev s_fill_spare : Stmt := top 30
abbrev s_turn_pointer : Stmt := top 31
abbrev s_slot_steps : Stmt := top 32
abbrev s_slots_after : Stmt := top 33
abbrev s_s_init : Stmt := inClass (top 35) 0
abbrev s_s_newest : Stmt := inClass (top 35) 2
abbrev s_s_record : Stmt := inClass (top 35) 3
abbrev s_s_step_count : Stmt := inClass (top 35) 6
abbrev s_s_write : Stmt := inClass (top 35) 7
abbrev s_format_tree : Stmt := top 37
abbrev s_spelled : Stmt := top 38
abbrev s_flags_by_fork : Stmt := top 40
abbrev s_f_init : Stmt := inClass (top 41) 0
abbrev s_f_parity : Stmt := inClass (top 41) 4
abbrev s_f_leaf_from : Stmt := inClass (top 41) 5
abbrev s_f_told : Stmt := inClass (top 41) 9
abbrev s_f_wrong_forks : Stmt := inClass (top 41) 11
abbrev s_f_turns : Stmt := inClass (top 41) 12
abbrev s_l_is_integer : Stmt := top 43
abbrev s_l_box : Stmt := top 44
abbrev s_l_draw : Stmt := top 45
abbrev s_l_name : Stmt := top 46
abbrev s_l_names : Stmt := top 47
abbrev s_l_tree : Stmt := top 48
abbrev s_l_world : Stmt := top 49
abbrev s_l_flags : Stmt := top 50
abbrev s_l_members : Stmt := top 51
abbrev s_l_board : Stmt := top 52
abbrev s_l_told : Stmt := top 53
abbrev s_l_turns : Stmt := top 54
abbrev s_l_sign : Stmt := top 55
abbrev s_l_text : Stmt := top 56
abbrev s_l_cut : Stmt := top 57
abbrev s_l_start : Stmt := top 58
abbrev s_l_make : Stmt := top 59
abbrev s_l_deed : Stmt := top 60
abbrev s_l_newest : Stmt := top 61
abbrev s_law : Stmt := top 62
/-- a def of the text behind the top, at the address f -/
abbrev Dn (K : PySem.W.Frag) (x qual : Str) (st : Stmt) (dvs : List V) (f : Addr) : Prop := ∃ fd, FunD K x qual (defArgs st) (defBody st) (defScope st) dvs [] f fd
abbrev aF (K : PySem.W.Frag) : Addr := He.ga K "ForkPlan"
abbrev aS (K : PySem.W.Frag) : Addr := He.ga K "Store"
/-- the property newest, its getter -/
def aNew (K : PySem.W.Frag) : Addr := He.ma K (aS K) "newest"
def aGet (K : PySem.W.Frag) : Addr := match PySem.W.recIn K (aNew K) "property" with
  | some (.ref g :: _) => g
  | _ => 0
/-- ForkPlan.__init__, a def with the cell of its class -/
def aInit (K : PySem.W.Frag) : Addr := He.ma K (aF K) "__init__"
structure InitAt (K : PySem.W.Frag) : Prop where
  ex : ∃ (oc : Value) (od : Option Addr) (kV doc pm : Value) (an : Option Addr) (cda : Addr) (ct : Value) (osl : Array (Option Value)) (cc : Addr),
    K.lookup (aInit K) = some ⟨oc, od, .func (PySem.W.ksFn "__init__" "ForkPlan.__init__" (defArgs s_f_init) (defBody s_f_init) (defScope s_f_init) .none kV doc pm an (.ref cda) ct cc), osl⟩ ∧ PySem.W.codeIn K (.ref cda) "ForkPlan.__init__" = true ∧
    (∃ (ccl : Value) (cdd : Option Addr) (vs : Array Value) (ccs : Array (Option Value)) (file : Str) (tf : Tok), K.lookup cda = some ⟨ccl, cdd, .fields vs, ccs⟩ ∧ vs[2]? = some (.str file tf) ∧ (((PySem.Challenge.pw_forkflags_k51_whole_newest.main.file : Str)) == file) = true) ∧
    (∃ (cl : Value) (cld : Option Addr) (csl : Array (Option Value)), K.lookup cc = some ⟨cl, cld, .cell (some (.ref (aF K))), csl⟩)
  cls : ∃ cd, PySem.W.clsIn K (aF K) = some cd
  sub : PySem.W.mroIn K (aF K) (.ref (aF K)) = some true
  sup : PySem.W.ks_superIn K (aF K) (aF K) "__init__" = some (some (.ref (He.ma K (He.ga K "Plan") "__init__")))
  fty : PySem.W.typeIn K (.ref (He.ma K (He.ga K "Plan") "__init__")) = some (.type "function")
  opq : PySem.W.nsIn K cStatics "thirdparty.any" = some none
  sfr : PySem.W.nsIn K mainGlobals "super" = some none
/-- what the head tells -/
structure Fx (K : PySem.W.Frag) (mg : Str → Option Value) : Prop where
  g_is_below : mg "is_below" = some (.ref (He.ga K "is_below"))
  g_is_name : mg "is_name" = some (.ref (He.ga K "is_name"))
  g_is_tree : mg "is_tree" = some (.ref (He.ga K "is_tree"))
  g_check_tree : mg "check_tree" = some (.ref (He.ga K "check_tree"))
  g_subtrees_of : mg "subtrees_of" = some (.ref (He.ga K "subtrees_of"))
  g_ways_of : mg "ways_of" = some (.ref (He.ga K "ways_of"))
  g_forks_of : mg "forks_of" = some (.ref (He.ga K "forks_of"))
  g_is_record : mg "is_record" = some (.ref (He.ga K "is_record"))
  g_good_slot : mg "good_slot" = some (.ref (He.ga K "good_slot"))
  g_fill_spare : mg "fill_spare" = some (.ref (He.ga K "fill_spare"))
  g_turn_pointer : mg "turn_pointer" = some (.ref (He.ga K "turn_pointer"))
  g_slot_steps : mg "slot_steps" = some (.ref (He.ga K "slot_steps"))
  g_slots_after : mg "slots_after" = some (.ref (He.ga K "slots_after"))
  g_format_tree : mg "format_tree" = some (.ref (He.ga K "format_tree"))
  g_spelled : mg "_spelled" = some (.ref (He.ga K "_spelled"))
  g_flags_by_fork : mg "flags_by_fork" = some (.ref (He.ga K "flags_by_fork"))
  g_l_is_integer : mg "_law_is_integer" = some (.ref (He.ga K "_law_is_integer"))
  g_l_box : mg "_law_box" = some (.ref (He.ga K "_law_box"))
  g_l_draw : mg "_law_draw" = some (.ref (He.ga K "_law_draw"))
  g_l_name : mg "_law_name" = some (.ref (He.ga K "_law_name"))
  g_l_names : mg "_law_names" = some (.ref (He.ga K "_law_names"))
  g_l_tree : mg "_law_tree" = some (.ref (He.ga K "_law_tree"))
  g_l_world : mg "_law_world" = some (.ref (He.ga K "_law_world"))
  g_l_flags : mg "_law_flags" = some (.ref (He.ga K "_law_flags"))
  g_l_members : mg "_law_members" = some (.ref (He.ga K "_law_members"))
  g_l_board : mg "_law_board" = some (.ref (He.ga K "_law_board"))
  g_l_told : mg "_law_told" = some (.ref (He.ga K "_law_told"))
  g_l_turns : mg "_law_turns" = some (.ref (He.ga K "_law_turns"))
  g_l_sign : mg "_law_sign" = some (.ref (He.ga K "_law_sign"))
  g_l_text : mg "_law_text" = some (.ref (He.ga K "_law_text"))
  g_l_cut : mg "_law_cut" = some (.ref (He.ga K "_law_cut"))
  g_l_start : mg "_law_start" = some (.ref (He.ga K "_law_start"))
  g_l_make : mg "_law_make" = some (.ref (He.ga K "_law_make"))
  g_l_deed : mg "_law_deed" = some (.ref (He.ga K "_law_deed"))
  g_l_newest : mg "_law_newest" = some (.ref (He.ga K "_law_newest"))
  g_law : mg "law" = some (.ref (He.ga K "law"))
  g_ForkPlan : mg "ForkPlan" = some (.ref (He.ga K "ForkPlan"))
  g_Store : mg "Store" = some (.ref (He.ga K "Store"))
  g_EMPTY_SLOTS : mg "EMPTY_SLOTS" = some (.ref (He.ga K "EMPTY_SLOTS"))
  z_len : mg "len" = none
  z_isinstance : mg "isinstance" = none
  z_range : mg "range" = none
  z_enumerate : mg "enumerate" = none
  z_zip : mg "zip" = none
  z_reversed : mg "reversed" = none
  z_sorted : mg "sorted" = none
  z_list : mg "list" = none
  z_tuple : mg "tuple" = none
  z_int : mg "int" = none
  z_bool : mg "bool" = none
  z_str : mg "str" = none
  z_sum : mg "sum" = none
  z_max : mg "max" = none
  z_all : mg "all" = none
  z_super : mg "super" = none
  i_MOST_LETTERS : ∃ t, mg "_MOST_LETTERS" = some (.int 8 t)
  i_LEAF_LIMIT : ∃ t, mg "LEAF_LIMIT" = some (.int 12 t)
  i_RECORD_LIMIT : ∃ t, mg "RECORD_LIMIT" = some (.int 200 t)
  t_LETTERS : ∃ t, mg "_LETTERS" = some (.str "abcdefghijklmnopqrstuvwxyz" t)
  emp : ∀ H : Hp, SqT K H (He.ga K "EMPTY_SLOTS") [.int 0, .str "", .str ""]
  cF : Cls K (aF K)
  cS : Cls K (aS K)
  nF_names : NoAttr K (He.ga K "ForkPlan") "names"
  nF_cells : NoAttr K (He.ga K "ForkPlan") "cells"
  nF_sizes : NoAttr K (He.ga K "ForkPlan") "sizes"
  nF_tree : NoAttr K (He.ga K "ForkPlan") "tree"
  nF_ways : NoAttr K (He.ga K "ForkPlan") "ways"
  nF_flags : NoAttr K (He.ga K "ForkPlan") "_flags"
  nF_leaves : NoAttr K (He.ga K "ForkPlan") "_leaves"
  nF_written : NoAttr K (He.ga K "ForkPlan") "_written"
  nS_plan : NoAttr K (He.ga K "Store") "plan"
  nS_state : NoAttr K (He.ga K "Store") "state"
  nS_slots : NoAttr K (He.ga K "Store") "_slots"
  mF_check_writer : Meth K (He.ga K "ForkPlan") "check_writer" (He.ma K (He.ga K "ForkPlan") "check_writer")
  mF_check_state : Meth K (He.ga K "ForkPlan") "check_state" (He.ma K (He.ga K "ForkPlan") "check_state")
  mF_start : Meth K (He.ga K "ForkPlan") "start" (He.ma K (He.ga K "ForkPlan") "start")
  mF_cells_of : Meth K (He.ga K "ForkPlan") "cells_of" (He.ma K (He.ga K "ForkPlan") "cells_of")
  mF_turned : Meth K (He.ga K "ForkPlan") "turned" (He.ma K (He.ga K "ForkPlan") "turned")
  mF_updated : Meth K (He.ga K "ForkPlan") "updated" (He.ma K (He.ga K "ForkPlan") "updated")
  mF_told : Meth K (He.ga K "ForkPlan") "told" (He.ma K (He.ga K "ForkPlan") "told")
  mF_turns : Meth K (He.ga K "ForkPlan") "turns" (He.ma K (He.ga K "ForkPlan") "turns")
  mF_wrong_forks : Meth K (He.ga K "ForkPlan") "wrong_forks" (He.ma K (He.ga K "ForkPlan") "wrong_forks")
  mF_parity : Meth K (He.ga K "ForkPlan") "_parity" (He.ma K (He.ga K "ForkPlan") "_parity")
  mF_leaf_from : Meth K (He.ga K "ForkPlan") "_leaf_from" (He.ma K (He.ga K "ForkPlan") "_leaf_from")
  mS_record : Meth K (He.ga K "Store") "record" (He.ma K (He.ga K "Store") "record")
  mS_step_count : Meth K (He.ga K "Store") "step_count" (He.ma K (He.ga K "Store") "step_count")
  mS_write : Meth K (He.ga K "Store") "write" (He.ma K (He.ga K "Store") "write")
  mkF : Mk K (aF K) (He.ma K (aF K) "__init__")
  mkS : Mk K (aS K) (He.ma K (aS K) "__init__")
  d_is_below : Dn K "is_below" "is_below" s_is_below [] (He.fAd K ("is_below", none))
  d_p_init : Dn K "__init__" "Plan.__init__" s_p_init [] (He.fAd K ("Plan", some "__init__"))
  d_p_check_writer : Dn K "check_writer" "Plan.check_writer" s_p_check_writer [] (He.fAd K ("ForkPlan", some "check_writer"))
  d_p_check_state : Dn K "check_state" "Plan.check_state" s_p_check_state [] (He.fAd K ("ForkPlan", some "check_state"))
  d_p_start : Dn K "start" "Plan.start" s_p_start [] (He.fAd K ("ForkPlan", some "start"))
  d_p_cells_of : Dn K "cells_of" "Plan.cells_of" s_p_cells_of [] (He.fAd K ("ForkPlan", some "cells_of"))
  d_p_turned : Dn K "turned" "Plan.turned" s_p_turned [] (He.fAd K ("ForkPlan", some "turned"))
  d_p_updated : Dn K "updated" "Plan.updated" s_p_updated [V.non] (He.fAd K ("ForkPlan", some "updated"))
  d_is_name : Dn K "is_name" "is_name" s_is_name [] (He.fAd K ("is_name", none))
  d_is_tree : Dn K "is_tree" "is_tree" s_is_tree [] (He.fAd K ("is_tree", none))
  d_check_tree : Dn K "check_tree" "check_tree" s_check_tree [] (He.fAd K ("check_tree", none))
  d_subtrees_of : Dn K "subtrees_of" "subtrees_of" s_subtrees_of [] (He.fAd K ("subtrees_of", none))
  d_ways_of : Dn K "ways_of" "ways_of" s_ways_of [] (He.fAd K ("ways_of", none))
  d_forks_of : Dn K "forks_of" "forks_of" s_forks_of [] (He.fAd K ("forks_of", none))
  d_is_record : Dn K "is_record" "is_record" s_is_record [] (He.fAd K ("is_record", none))
  d_good_slot : Dn K "good_slot" "good_slot" s_good_slot [] (He.fAd K ("good_slot", none))
  d_fill_spare : Dn K "fill_spare" "fill_spare" s_fill_spare [] (He.fAd K ("fill_spare", none))
  d_turn_pointer : Dn K "turn_pointer" "turn_pointer" s_turn_pointer [] (He.fAd K ("turn_pointer", none))
  d_slot_steps : Dn K "slot_steps" "slot_steps" s_slot_steps [] (He.fAd K ("slot_steps", none))
  d_slots_after : Dn K "slots_after" "slots_after" s_slots_after [] (He.fAd K ("slots_after", none))
  d_s_init : Dn K "__init__" "Store.__init__" s_s_init [V.non] (He.fAd K ("Store", some "__init__"))
  d_s_record : Dn K "record" "Store.record" s_s_record [] (He.fAd K ("Store", some "record"))
  d_s_step_count : Dn K "step_count" "Store.step_count" s_s_step_count [] (He.fAd K ("Store", some "step_count"))
  d_s_write : Dn K "write" "Store.write" s_s_write [V.non] (He.fAd K ("Store", some "write"))
  d_format_tree : Dn K "format_tree" "format_tree" s_format_tree [] (He.fAd K ("format_tree", none))
  d_spelled : Dn K "_spelled" "_spelled" s_spelled [] (He.fAd K ("_spelled", none))
  d_flags_by_fork : Dn K "flags_by_fork" "flags_by_fork" s_flags_by_fork [] (He.fAd K ("flags_by_fork", none))
  d_f_parity : Dn K "_parity" "ForkPlan._parity" s_f_parity [] (He.fAd K ("ForkPlan", some "_parity"))
  d_f_leaf_from : Dn K "_leaf_from" "ForkPlan._leaf_from" s_f_leaf_from [] (He.fAd K ("ForkPlan", some "_leaf_from"))
  d_f_told : Dn K "told" "ForkPlan.told" s_f_told [] (He.fAd K ("ForkPlan", some "told"))
  d_f_wrong_forks : Dn K "wrong_forks" "ForkPlan.wrong_forks" s_f_wrong_forks [] (He.fAd K ("ForkPlan", some "wrong_forks"))
  d_f_turns : Dn K "turns" "ForkPlan.turns" s_f_turns [] (He.fAd K ("ForkPlan", some "turns"))
  d_l_is_integer : Dn K "_law_is_integer" "_law_is_integer" s_l_is_integer [] (He.fAd K ("_law_is_integer", none))
  d_l_box : Dn K "_law_box" "_law_box" s_l_box [] (He.fAd K ("_law_box", none))
  d_l_draw : Dn K "_law_draw" "_law_draw" s_l_draw [] (He.fAd K ("_law_draw", none))
  d_l_name : Dn K "_law_name" "_law_name" s_l_name [] (He.fAd K ("_law_name", none))
  d_l_names : Dn K "_law_names" "_law_names" s_l_names [] (He.fAd K ("_law_names", none))
  d_l_tree : Dn K "_law_tree" "_law_tree" s_l_tree [] (He.fAd K ("_law_tree", none))
  d_l_world : Dn K "_law_world" "_law_world" s_l_world [] (He.fAd K ("_law_world", none))
  d_l_flags : Dn K "_law_flags" "_law_flags" s_l_flags [] (He.fAd K ("_law_flags", none))
  d_l_members : Dn K "_law_members" "_law_members" s_l_members [] (He.fAd K ("_law_members", none))
  d_l_board : Dn K "_law_board" "_law_board" s_l_board [] (He.fAd K ("_law_board", none))
  d_l_told : Dn K "_law_told" "_law_told" s_l_told [] (He.fAd K ("_law_told", none))
  d_l_turns : Dn K "_law_turns" "_law_turns" s_l_turns [] (He.fAd K ("_law_turns", none))
  d_l_sign : Dn K "_law_sign" "_law_sign" s_l_sign [] (He.fAd K ("_law_sign", none))
  d_l_text : Dn K "_law_text" "_law_text" s_l_text [] (He.fAd K ("_law_text", none))
  d_l_cut : Dn K "_law_cut" "_law_cut" s_l_cut [] (He.fAd K ("_law_cut", none))
  d_l_start : Dn K "_law_start" "_law_start" s_l_start [] (He.fAd K ("_law_start", none))
  d_l_make : Dn K "_law_make" "_law_make" s_l_make [] (He.fAd K ("_law_make", none))
  d_l_deed : Dn K "_law_deed" "_law_deed" s_l_deed [] (He.fAd K ("_law_deed", none))
  d_l_newest : Dn K "_law_newest" "_law_newest" s_l_newest [] (He.fAd K ("_law_newest", none))
  d_law : Dn K "law" "law" s_law [] (He.fAd K ("law", none))
  d_s_newest : Dn K "newest" "Store.newest" s_s_newest [] (aGet K)
  prop : PropOf K (aS K) "newest" (aNew K) (aGet K)
  init : InitAt K
theorem sc_is_below : FnScope ["value", "bound"] ["value", "bound"] (defScope s_is_below) := C8.fnScope_by (by decide +kernel)
theorem sc_p_init : FnScope ["self", "names", "cells", "sizes"] ["self", "names", "cells", "sizes"] (defScope s_p_init) := C8.fnScope_by (by decide +kernel)
theorem sc_p_check_writer : FnScope ["self", "writer"] ["self", "writer"] (defScope s_p_check_writer) := C8.fnScope_by (by decide +kernel)
theorem sc_p_check_state : FnScope ["self", "state", "mark", "size"] ["self", "state"] (defScope s_p_check_state) := C8.fnScope_by (by decide +kernel)
theorem sc_p_start : FnScope ["self"] ["self"] (defScope s_p_start) := C8.fnScope_by (by decide +kernel)
theorem sc_p_cells_of : FnScope ["self", "writer", "index", "cell"] ["self", "writer"] (defScope s_p_cells_of) := C8.fnScope_by (by decide +kernel)
theorem sc_p_turned : FnScope ["self", "state", "turns", "marks", "index", "mark"] ["self", "state", "turns"] (defScope s_p_turned) := C8.fnScope_by (by decide +kernel)
theorem sc_p_updated : FnScope ["self", "state", "writer", "done", "planned"] ["self", "state", "writer", "done"] (defScope s_p_updated) := C8.fnScope_by (by decide +kernel)
theorem sc_is_name : FnScope ["value", "letter"] ["value"] (defScope s_is_name) := C8.fnScope_by (by decide +kernel)
theorem sc_is_tree : FnScope ["value", "seen", "waiting", "part", "left", "right"] ["value"] (defScope s_is_tree) := C8.fnScope_by (by decide +kernel)
theorem sc_check_tree : FnScope ["tree"] ["tree"] (defScope s_check_tree) := C8.fnScope_by (by decide +kernel)
theorem sc_subtrees_of : FnScope ["tree", "found", "waiting", "place", "part", "left", "right"] ["tree"] (defScope s_subtrees_of) := C8.fnScope_by (by decide +kernel)
theorem sc_ways_of : FnScope ["tree", "ways", "place", "part"] ["tree"] (defScope s_ways_of) := C8.fnScope_by (by decide +kernel)
theorem sc_forks_of : FnScope ["tree", "place", "part"] ["tree"] (defScope s_forks_of) := C8.fnScope_by (by decide +kernel)
theorem sc_is_record : FnScope ["value", "sign"] ["value"] (defScope s_is_record) := C8.fnScope_by (by decide +kernel)
theorem sc_good_slot : FnScope ["slots", "pointer", "first", "second"] ["slots"] (defScope s_good_slot) := C8.fnScope_by (by decide +kernel)
theorem sc_fill_spare : FnScope ["slots", "text", "pointer", "first", "second"] ["slots", "text"] (defScope s_fill_spare) := C8.fnScope_by (by decide +kernel)
theorem sc_turn_pointer : FnScope ["slots", "pointer", "first", "second"] ["slots"] (defScope s_turn_pointer) := C8.fnScope_by (by decide +kernel)
theorem sc_slot_steps : FnScope ["text"] ["text"] (defScope s_slot_steps) := C8.fnScope_by (by decide +kernel)
theorem sc_slots_after : FnScope ["slots", "text", "steps", "filled"] ["slots", "text", "steps"] (defScope s_slots_after) := C8.fnScope_by (by decide +kernel)
theorem sc_s_init : FnScope ["self", "plan", "state", "present", "writer"] ["self", "plan", "state"] (defScope s_s_init) := C8.fnScope_by (by decide +kernel)
theorem sc_s_newest : FnScope ["self", "writer"] ["self"] (defScope s_s_newest) := C8.fnScope_by (by decide +kernel)
theorem sc_s_record : FnScope ["self", "writer"] ["self", "writer"] (defScope s_s_record) := C8.fnScope_by (by decide +kernel)
theorem sc_s_step_count : FnScope ["self", "writer", "text"] ["self", "writer", "text"] (defScope s_s_step_count) := C8.fnScope_by (by decide +kernel)
theorem sc_s_write : FnScope ["self", "writer", "text", "steps", "most", "made", "done"] ["self", "writer", "text", "steps"] (defScope s_s_write) := C8.fnScope_by (by decide +kernel)
theorem sc_format_tree : FnScope ["tree"] ["tree"] (defScope s_format_tree) := C8.fnScope_by (by decide +kernel)
theorem sc_spelled : FnScope ["tree", "left", "right"] ["tree"] (defScope s_spelled) := C8.fnScope_by (by decide +kernel)
theorem sc_flags_by_fork : FnScope ["tree", "ways", "cells", "flags", "fork", "index", "writer", "level"] ["tree", "ways", "cells"] (defScope s_flags_by_fork) := C8.fnScope_by (by decide +kernel)
theorem sc_f_parity : FnScope ["self", "state", "fork", "index"] ["self", "state", "fork"] (defScope s_f_parity) := C8.fnScope_by (by decide +kernel)
theorem sc_f_leaf_from : FnScope ["self", "state", "top", "place"] ["self", "state", "top"] (defScope s_f_leaf_from) := C8.fnScope_by (by decide +kernel)
theorem sc_f_told : FnScope ["self", "state"] ["self", "state"] (defScope s_f_told) := C8.fnScope_by (by decide +kernel)
theorem sc_f_wrong_forks : FnScope ["self", "state", "writer", "way", "levels", "level"] ["self", "state", "writer"] (defScope s_f_wrong_forks) := C8.fnScope_by (by decide +kernel)
theorem sc_f_turns : FnScope ["self", "state", "writer", "wrong", "own", "flags", "fork", "index"] ["self", "state", "writer"] (defScope s_f_turns) := C8.fnScope_by (by decide +kernel)
theorem sc_l_is_integer : FnScope ["_law_actual"] ["_law_actual"] (defScope s_l_is_integer) := C8.fnScope_by (by decide +kernel)
theorem sc_l_box : FnScope ["_law_script"] ["_law_script"] (defScope s_l_box) := C8.fnScope_by (by decide +kernel)
theorem sc_l_draw : FnScope ["_law_box_here", "_law_size", "_law_cell", "_law_digit"] ["_law_box_here", "_law_size"] (defScope s_l_draw) := C8.fnScope_by (by decide +kernel)
theorem sc_l_name : FnScope ["_law_box_here", "_law_stem", "_law_way", "_law_letters", "_law_k", "_law_place"] ["_law_box_here", "_law_stem", "_law_way"] (defScope s_l_name) := C8.fnScope_by (by decide +kernel)
theorem sc_l_names : FnScope ["_law_box_here", "_law_many", "_law_stem", "_law_k", "_law_way", "_law_names_here", "_law_name_here", "_law_letter"] ["_law_box_here", "_law_many"] (defScope s_l_names) := C8.fnScope_by (by decide +kernel)
theorem sc_l_tree : FnScope ["_law_ways", "_law_names_here", "_law_fork"] ["_law_ways", "_law_names_here", "_law_fork"] (defScope s_l_tree) := C8.fnScope_by (by decide +kernel)
theorem sc_l_world : FnScope ["_law_box_here", "_law_many", "_law_names_here", "_law_ways", "_law_k", "_law_place", "_law_way"] ["_law_box_here"] (defScope s_l_world) := C8.fnScope_by (by decide +kernel)
theorem sc_l_flags : FnScope ["_law_pairs", "_law_flags_here", "_law_pair", "_law_level"] ["_law_pairs"] (defScope s_l_flags) := C8.fnScope_by (by decide +kernel)
theorem sc_l_members : FnScope ["_law_flags_here", "_law_members_here", "_law_k", "_law_row"] ["_law_flags_here"] (defScope s_l_members) := C8.fnScope_by (by decide +kernel)
theorem sc_l_board : FnScope ["_law_members_here", "_law_marks", "_law_fork", "_law_place"] ["_law_members_here", "_law_marks", "_law_fork"] (defScope s_l_board) := C8.fnScope_by (by decide +kernel)
theorem sc_l_told : FnScope ["_law_pairs", "_law_members_here", "_law_marks", "_law_fork", "_law_k", "_law_pair"] ["_law_pairs", "_law_members_here", "_law_marks"] (defScope s_l_told) := C8.fnScope_by (by decide +kernel)
theorem sc_l_turns : FnScope ["_law_pairs", "_law_flags_here", "_law_marks", "_law_who", "_law_members_here", "_law_way", "_law_pair", "_law_turns_here", "_law_k", "_law_fork"] ["_law_pairs", "_law_flags_here", "_law_marks", "_law_who"] (defScope s_l_turns) := C8.fnScope_by (by decide +kernel)
theorem sc_l_sign : FnScope ["_law_number", "_law_signs"] ["_law_number"] (defScope s_l_sign) := C8.fnScope_by (by decide +kernel)
theorem sc_l_text : FnScope ["_law_box_here", "_law_size", "_law_unit", "_law_k"] ["_law_box_here"] (defScope s_l_text) := C8.fnScope_by (by decide +kernel)
theorem sc_l_cut : FnScope ["_law_box_here", "_law_size", "_law_total", "_law_way"] ["_law_box_here", "_law_size", "_law_total"] (defScope s_l_cut) := C8.fnScope_by (by decide +kernel)
theorem sc_l_start : FnScope ["_law_box_here", "_law_fork_plan", "_law_pairs", "_law_flags_here", "_law_way", "_law_marks", "_law_flag", "_law_depot"] ["_law_box_here", "_law_fork_plan", "_law_pairs", "_law_flags_here"] (defScope s_l_start) := C8.fnScope_by (by decide +kernel)
theorem sc_l_make : FnScope ["_law_box_here", "_law_depot", "_law_who", "_law_text_here", "_law_many", "_law_total", "_law_way"] ["_law_box_here", "_law_depot", "_law_who", "_law_text_here", "_law_many", "_law_total"] (defScope s_l_make) := C8.fnScope_by (by decide +kernel)
theorem sc_l_deed : FnScope ["_law_box_here", "_law_pairs", "_law_flags_here", "_law_house", "_law_who", "_law_text_here", "_law_turns_here", "_law_total", "_law_many", "_law_made", "_law_turn"] ["_law_box_here", "_law_pairs", "_law_flags_here", "_law_house"] (defScope s_l_deed) := C8.fnScope_by (by decide +kernel)
theorem sc_l_newest : FnScope ["_law_house", "_law_depot", "_law_due", "_law_actual"] ["_law_house"] (defScope s_l_newest) := C8.fnScope_by (by decide +kernel)
theorem sc_law : FnScope ["_law_script", "_law_box_here", "_law_world_here", "_law_pairs", "_law_flags_here", "_law_fork_plan", "_law_houses", "_law_k", "_law_rounds", "_law_asked"] ["_law_script"] (defScope s_law) := C8.fnScope_by (by decide +kernel)
end FF
/-! The head's run. Printed by gen0.py. -/
namespace FF
open PySem PySem.Spec PyProof.Rows L2
abbrev R : PySem.W.OpenRow := PySem.W.OpenLaw.row PySem.Challenge.rw_forkflags_k51_whole_newest
def e_is_below : He.DefD := ⟨("is_below", none), "is_below", "is_below", defArgs s_is_below, defBody s_is_below, defScope s_is_below, [], []⟩
def e_p_init : He.DefD := ⟨("Plan", some "__init__"), "__init__", "Plan.__init__", defArgs s_p_init, defBody s_p_init, defScope s_p_init, [], []⟩
def e_p_check_writer : He.DefD := ⟨("ForkPlan", some "check_writer"), "check_writer", "Plan.check_writer", defArgs s_p_check_writer, defBody s_p_check_writer, defScope s_p_check_writer, [], []⟩
def e_p_check_state : He.DefD := ⟨("ForkPlan", some "check_state"), "check_state", "Plan.check_state", defArgs s_p_check_state, defBody s_p_check_state, defScope s_p_check_state, [], []⟩
def e_p_start : He.DefD := ⟨("ForkPlan", some "start"), "start", "Plan.start", defArgs s_p_start, defBody s_p_start, defScope s_p_start, [], []⟩
def e_p_cells_of : He.DefD := ⟨("ForkPlan", some "cells_of"), "cells_of", "Plan.cells_of", defArgs s_p_cells_of, defBody s_p_cells_of, defScope s_p_cells_of, [], []⟩
def e_p_turned : He.DefD := ⟨("ForkPlan", some "turned"), "turned", "Plan.turned", defArgs s_p_turned, defBody s_p_turned, defScope s_p_turned, [], []⟩
def e_p_updated : He.DefD := ⟨("ForkPlan", some "updated"), "updated", "Plan.updated", defArgs s_p_updated, defBody s_p_updated, defScope s_p_updated, [.non], []⟩
def e_is_name : He.DefD := ⟨("is_name", none), "is_name", "is_name", defArgs s_is_name, defBody s_is_name, defScope s_is_name, [], []⟩
def e_is_tree : He.DefD := ⟨("is_tree", none), "is_tree", "is_tree", defArgs s_is_tree, defBody s_is_tree, defScope s_is_tree, [], []⟩
def e_check_tree : He.DefD := ⟨("check_tree", none), "check_tree", "check_tree", defArgs s_check_tree, defBody s_check_tree, defScope s_check_tree, [], []⟩
def e_subtrees_of : He.DefD := ⟨("subtrees_of", none), "subtrees_of", "subtrees_of", defArgs s_subtrees_of, defBody s_subtrees_of, defScope s_subtrees_of, [], []⟩
def e_ways_of : He.DefD := ⟨("ways_of", none), "ways_of", "ways_of", defArgs s_ways_of, defBody s_ways_of, defScope s_ways_of, [], []⟩
def e_forks_of : He.DefD := ⟨("forks_of", none), "forks_of", "forks_of", defArgs s_forks_of, defBody s_forks_of, defScope s_forks_of, [], []⟩
def e_is_record : He.DefD := ⟨("is_record", none), "is_record", "is_record", defArgs s_is_record, defBody s_is_record, defScope s_is_record, [], []⟩
def e_good_slot : He.DefD := ⟨("good_slot", none), "good_slot", "good_slot", defArgs s_good_slot, defBody s_good_slot, defScope s_good_slot, [], []⟩
def e_fill_spare : He.DefD := ⟨("fill_spare", none), "fill_spare", "fill_spare", defArgs s_fill_spare, defBody s_fill_spare, defScope s_fill_spare, [], []⟩
def e_turn_pointer : He.DefD := ⟨("turn_pointer", none), "turn_pointer", "turn_pointer", defArgs s_turn_pointer, defBody s_turn_pointer, defScope s_turn_pointer, [], []⟩
def e_slot_steps : He.DefD := ⟨("slot_steps", none), "slot_steps", "slot_steps", defArgs s_slot_steps, defBody s_slot_steps, defScope s_slot_steps, [], []⟩
def e_slots_after : He.DefD := ⟨("slots_after", none), "slots_after", "slots_after", defArgs s_slots_after, defBody s_slots_after, defScope s_slots_after, [], []⟩
def e_s_init : He.DefD := ⟨("Store", some "__init__"), "__init__", "Store.__init__", defArgs s_s_init, defBody s_s_init, defScope s_s_init, [.non], []⟩
def e_s_record : He.DefD := ⟨("Store", some "record"), "record", "Store.record", defArgs s_s_record, defBody s_s_record, defScope s_s_record, [], []⟩
def e_s_step_count : He.DefD := ⟨("Store", some "step_count"), "step_count", "Store.step_count", defArgs s_s_step_count, defBody s_s_step_count, defScope s_s_step_count, [], []⟩
def e_s_write : He.DefD := ⟨("Store", some "write"), "write", "Store.write", defArgs s_s_write, defBody s_s_write, defScope s_s_write, [.non], []⟩
def e_format_tree : He.DefD := ⟨("format_tree", none), "format_tree", "format_tree", defArgs s_format_tree, defBody s_format_tree, defScope s_format_tree, [], []⟩
def e_spelled : He.DefD := ⟨("_spelled", none), "_spelled", "_spelled", defArgs s_spelled, defBody s_spelled, defScope s_spelled, [], []⟩
def e_flags_by_fork : He.DefD := ⟨("flags_by_fork", none), "flags_by_fork", "flags_by_fork", defArgs s_flags_by_fork, defBody s_flags_by_fork, defScope s_flags_by_fork, [], []⟩
def e_f_parity : He.DefD := ⟨("ForkPlan", some "_parity"), "_parity", "ForkPlan._parity", defArgs s_f_parity, defBody s_f_parity, defScope s_f_parity, [], []⟩
def e_f_leaf_from : He.DefD := ⟨("ForkPlan", some "_leaf_from"), "_leaf_from", "ForkPlan._leaf_from", defArgs s_f_leaf_from, defBody s_f_leaf_from, defScope s_f_leaf_from, [], []⟩
def e_f_told : He.DefD := ⟨("ForkPlan", some "told"), "told", "ForkPlan.told", defArgs s_f_told, defBody s_f_told, defScope s_f_told, [], []⟩
def e_f_wrong_forks : He.DefD := ⟨("ForkPlan", some "wrong_forks"), "wrong_forks", "ForkPlan.wrong_forks", defArgs s_f_wrong_forks, defBody s_f_wrong_forks, defScope s_f_wrong_forks, [], []⟩
def e_f_turns : He.DefD := ⟨("ForkPlan", some "turns"), "turns", "ForkPlan.turns", defArgs s_f_turns, defBody s_f_turns, defScope s_f_turns, [], []⟩
def e_l_is_integer : He.DefD := ⟨("_law_is_integer", none), "_law_is_integer", "_law_is_integer", defArgs s_l_is_integer, defBody s_l_is_integer, defScope s_l_is_integer, [], []⟩
def e_l_box : He.DefD := ⟨("_law_box", none), "_law_box", "_law_box", defArgs s_l_box, defBody s_l_box, defScope s_l_box, [], []⟩
def e_l_draw : He.DefD := ⟨("_law_draw", none), "_law_draw", "_law_draw", defArgs s_l_draw, defBody s_l_draw, defScope s_l_draw, [], []⟩
def e_l_name : He.DefD := ⟨("_law_name", none), "_law_name", "_law_name", defArgs s_l_name, defBody s_l_name, defScope s_l_name, [], []⟩
def e_l_names : He.DefD := ⟨("_law_names", none), "_law_names", "_law_names", defArgs s_l_names, defBody s_l_names, defScope s_l_names, [], []⟩
def e_l_tree : He.DefD := ⟨("_law_tree", none), "_law_tree", "_law_tree", defArgs s_l_tree, defBody s_l_tree, defScope s_l_tree, [], []⟩
def e_l_world : He.DefD := ⟨("_law_world", none), "_law_world", "_law_world", defArgs s_l_world, defBody s_l_world, defScope s_l_world, [], []⟩
def e_l_flags : He.DefD := ⟨("_law_flags", none), "_law_flags", "_law_flags", defArgs s_l_flags, defBody s_l_flags, defScope s_l_flags, [], []⟩
def e_l_members : He.DefD := ⟨("_law_members", none), "_law_members", "_law_members", defArgs s_l_members, defBody s_l_members, defScope s_l_members, [], []⟩
def e_l_board : He.DefD := ⟨("_law_board", none), "_law_board", "_law_board", defArgs s_l_board, defBody s_l_board, defScope s_l_board, [], []⟩
def e_l_told : He.DefD := ⟨("_law_told", none), "_law_told", "_law_told", defArgs s_l_told, defBody s_l_told, defScope s_l_told, [], []⟩
def e_l_turns : He.DefD := ⟨("_law_turns", none), "_law_turns", "_law_turns", defArgs s_l_turns, defBody s_l_turns, defScope s_l_turns, [], []⟩
def e_l_sign : He.DefD := ⟨("_law_sign", none), "_law_sign", "_law_sign", defArgs s_l_sign, defBody s_l_sign, defScope s_l_sign, [], []⟩
def e_l_text : He.DefD := ⟨("_law_text", none), "_law_text", "_law_text", defArgs s_l_text, defBody s_l_text, defScope s_l_text, [], []⟩
def e_l_cut : He.DefD := ⟨("_law_cut", none), "_law_cut", "_law_cut", defArgs s_l_cut, defBody s_l_cut, defScope s_l_cut, [], []⟩
def e_l_start : He.DefD := ⟨("_law_start", none), "_law_start", "_law_start", defArgs s_l_start, defBody s_l_start, defScope s_l_start, [], []⟩
def e_l_make : He.DefD := ⟨("_law_make", none), "_law_make", "_law_make", defArgs s_l_make, defBody s_l_make, defScope s_l_make, [], []⟩
def e_l_deed : He.DefD := ⟨("_law_deed", none), "_law_deed", "_law_deed", defArgs s_l_deed, defBody s_l_deed, defScope s_l_deed, [], []⟩
def e_l_newest : He.DefD := ⟨("_law_newest", none), "_law_newest", "_law_newest", defArgs s_l_newest, defBody s_l_newest, defScope s_l_newest, [], []⟩
def e_law : He.DefD := ⟨("law", none), "law", "law", defArgs s_law, defBody s_law, defScope s_law, [], []⟩
def fn1 : List He.DefD := [e_is_below, e_p_init, e_p_check_writer, e_p_check_state, e_p_start, e_p_cells_of, e_p_turned, e_p_updated, e_is_name, e_is_tree, e_check_tree, e_subtrees_of, e_ways_of, e_forks_of, e_is_record, e_good_slot, e_fill_spare, e_turn_pointer, e_slot_steps, e_slots_after, e_s_init, e_s_record, e_s_step_count, e_s_write, e_format_tree, e_spelled]
def fn2 : List He.DefD := [e_flags_by_fork, e_f_parity, e_f_leaf_from, e_f_told, e_f_wrong_forks, e_f_turns, e_l_is_integer, e_l_box, e_l_draw, e_l_name, e_l_names, e_l_tree, e_l_world, e_l_flags, e_l_members, e_l_board, e_l_told, e_l_turns, e_l_sign, e_l_text, e_l_cut, e_l_start, e_l_make, e_l_deed, e_l_newest, e_law]
def fn : List He.DefD := fn1 ++ fn2
def fa0 : List He.Fa := [.glo "is_below", .glo "is_name", .glo "is_tree", .glo "check_tree", .glo "subtrees_of", .glo "ways_of", .glo "forks_of", .glo "is_record", .glo "good_slot", .glo "fill_spare", .glo "turn_pointer", .glo "slot_steps", .glo "slots_after", .glo "format_tree", .glo "_spelled", .glo "flags_by_fork", .glo "_law_is_integer", .glo "_law_box", .glo "_law_draw", .glo "_law_name", .glo "_law_names", .glo "_law_tree", .glo "_law_world", .glo "_law_flags", .glo "_law_members", .glo "_law_board", .glo "_law_told", .glo "_law_turns", .glo "_law_sign", .glo "_law_text", .glo "_law_cut", .glo "_law_start", .glo "_law_make", .glo "_law_deed", .glo "_law_newest"]
def fa1 : List He.Fa := [.glo "law", .glo "ForkPlan", .glo "Store", .glo "EMPTY_SLOTS", .free "len", .free "isinstance", .free "range", .free "enumerate", .free "zip", .free "reversed", .free "sorted", .free "list", .free "tuple", .free "int", .free "bool", .free "str", .free "sum", .free "max", .free "all", .free "super", .int "_MOST_LETTERS" 8, .int "LEAF_LIMIT" 12, .int "RECORD_LIMIT" 200, .str "_LETTERS" "abcdefghijklmnopqrstuvwxyz", .cls "ForkPlan", .cls "Store", .noat "ForkPlan" "names", .noat "ForkPlan" "cells", .noat "ForkPlan" "sizes", .noat "ForkPlan" "tree", .noat "ForkPlan" "ways", .noat "ForkPlan" "_flags", .noat "ForkPlan" "_leaves", .noat "ForkPlan" "_written", .noat "Store" "plan"]
def fa2 : List He.Fa := [.noat "Store" "state", .noat "Store" "_slots", .meth "ForkPlan" "check_writer", .meth "ForkPlan" "check_state", .meth "ForkPlan" "start", .meth "ForkPlan" "cells_of", .meth "ForkPlan" "turned", .meth "ForkPlan" "updated", .meth "ForkPlan" "told", .meth "ForkPlan" "turns", .meth "ForkPlan" "wrong_forks", .meth "ForkPlan" "_parity", .meth "ForkPlan" "_leaf_from", .meth "Store" "record", .meth "Store" "step_count", .meth "Store" "write", .mkr "ForkPlan", .mkr "Store"]
def fa : List He.Fa := fa0 ++ fa1 ++ fa2
/-! the two defs of another form -/
abbrev FnX : Type := Option (Str × Str × Arguments × FuncBody × Scope × Addr × List Str × Addr)
def fnX (K : PySem.W.Frag) (a : Addr) : FnX := match K.lookup a with
  | some ⟨_, _, .func fd, _⟩ => some (fd.name, fd.qualname, fd.params, fd.body, fd.scope, fd.globals, fd.closure.map (·.1), fd.builtins)
  | _ => none
def xGet : FnX := some ("newest", "Store.newest", defArgs s_s_newest, .stmts (defBody s_s_newest), defScope s_s_newest, mainGlobals, [], builtinsNs)
def xIni : FnX := some ("__init__", "ForkPlan.__init__", defArgs s_f_init, .stmts (defBody s_f_init), defScope s_f_init, mainGlobals, ["__class__"], builtinsNs)
def isNone : Value → Bool
  | .none => true
  | _ => false
def fnB (K : PySem.W.Frag) (a : Addr) (q : Str) : Bool := PySem.W.keepIn K (.ref a) && (match K.lookup a with
  | some ⟨_, _, .func fd, _⟩ => PySem.W.codeIn K fd.code q && isNone fd.defaults
  | _ => false)
def cdB (K : PySem.W.Frag) (cd : Value) : Bool := match cd with
  | .ref c => (match K.lookup c with
    | some ⟨_, _, .fields vs, _⟩ => (match (vs[2]? : Option Value) with
      | some (Value.str file _) => decide (((PySem.Challenge.pw_forkflags_k51_whole_newest.main.file : Str)) = file)
      | _ => false)
    | _ => false)
  | _ => false
def ccB (K : PySem.W.Frag) (cl : List (Str × Addr)) : Bool := match cl with
  | [(_, c)] => (match K.lookup c with
    | some ⟨_, _, .cell (some (.ref d)), _⟩ => decide (d = aF K)
    | _ => false)
  | _ => false
def inB (K : PySem.W.Frag) : Bool := match K.lookup (aInit K) with
  | some ⟨_, _, .func fd, _⟩ => cdB K fd.code && ccB K fd.closure
  | _ => false
def prB (K : PySem.W.Frag) : Bool := He.eqO (PySem.W.findIn K (.ref (aS K)) "newest") (some (some (.ref (aNew K)))) && (He.eqO (PySem.W.specialIn K (.ref (aNew K)) "__get__") (some (some (.builtin "property.__get__"))) && (decide (PySem.W.takesIn K (.ref (aNew K)) = some true) &&
  (match PySem.W.recIn K (aNew K) "property" with
  | some (.ref _ :: _) => true
  | _ => false)))
def suB (K : PySem.W.Frag) : Bool := (PySem.W.clsIn K (aF K)).isSome && (decide (PySem.W.mroIn K (aF K) (.ref (aF K)) = some true) && (He.eqO (PySem.W.ks_superIn K (aF K) (aF K) "__init__") (some (some (.ref (He.ma K (He.ga K "Plan") "__init__")))) &&
  (decide (PySem.W.typeIn K (.ref (He.ma K (He.ga K "Plan") "__init__")) = some (.type "function")) && (He.eqO (PySem.W.nsIn K cStatics "thirdparty.any") (some none) && He.eqO (PySem.W.nsIn K mainGlobals "super") (some none)))))
def exB (K : PySem.W.Frag) : Bool := fnB K (aGet K) "Store.newest" && (fnB K (aInit K) "ForkPlan.__init__" && (inB K && (prB K && (suB K && He.tupB K "EMPTY_SLOTS" [.int 0, .str "", .str ""]))))
/-! the Hook -/
abbrev AlM : Type := He.AlD × (FnX × FnX) × Bool
def obsM (K : PySem.W.Frag) : AlM := (He.obsD fa fn K, (fnX K (aGet K), fnX K (aInit K)), exB K)
def valM : AlM := (He.valD fn, (xGet, xIni), true)
def SaysM (K : PySem.W.Frag) : Prop := obsM K = valM
def asM (g : Addr → Option Obj) : Nat → List Addr
  | 0 => [mainGlobals, cStatics]
  | n + 1 => He.growD g (asM g n)
def obsMG (g : Addr → Option Obj) : AlM := obsM (He.frG g (asM g 6))
def hk : PySem.W.Hook where
  α := AlM
  obs := fun s => obsMG s.heap.get?
  val := fun _ => valM
  says := fun _ h => ∃ K : PySem.W.Frag, K.In h ∧ SaysM K
  of := fun _ _ e => ⟨_, He.frG_in, e⟩
  keeps := fun _ _ _ ⟨K, hK, c⟩ k => ⟨K, PySem.W.Frag.In.keeps hK k, c⟩
def ob (s : PySem.W.SharedT) : AlM := obsMG (HandSHeadRun.getT s)
theorem ob_eq (s : PySem.W.SharedT) : ob s = hk.obs s.abs := by
  have e : HandSHeadRun.getT s = s.abs.heap.get? := funext (HandSHeadRun.getT_eq s)
  unfold ob
  rw [e] <;> rfl
def nm0 : List PySem.Str := ["_wall", "_shown", "ForkError", "InvalidTree", "UnknownWriter", "UnknownFork", "InvalidState", "TooManyTurns", "InvalidRecord", "is_below", "Plan", "_LETTERS", "_MOST_LETTERS", "is_name", "LEAF_LIMIT", "is_tree", "check_tree", "subtrees_of", "ways_of", "forks_of", "RECORD_LIMIT", "EMPTY_SLOTS", "is_record", "good_slot", "spare_slot", "fill_spare", "turn_pointer", "slot_steps", "slots_after", "Store"]
def nm1 : List PySem.Str := ["format_tree", "_spelled", "flags_by_fork", "ForkPlan", "_law_is_integer", "_law_box", "_law_draw", "_law_name", "_law_names", "_law_tree", "_law_world", "_law_flags", "_law_members", "_law_board", "_law_told", "_law_turns", "_law_sign", "_law_text", "_law_cut", "_law_start", "_law_make", "_law_deed", "_law_newest"]
def names : List PySem.Str := nm0 ++ nm1
theorem run (w : World) : HandSHeadRun.RunEq R (PySem.W.view R.prog [62]) hk ob 6000 names w := by
  intro os
  kernel_rfl
section
variable {K : PySem.W.Frag}
theorem says_d (c : SaysM K) : He.SaysD fa fn K := congrArg (fun z : AlM => z.1) c
theorem says_x (c : SaysM K) : exB K = true := congrArg (fun z : AlM => z.2.2) c
theorem says_g (c : SaysM K) : fnX K (aGet K) = xGet := congrArg (fun z : AlM => z.2.1.1) c
theorem says_i (c : SaysM K) : fnX K (aInit K) = xIni := congrArg (fun z : AlM => z.2.1.2) c
theorem isNone_ok {v : Value} (h : isNone v = true) : v = .none := by
  cases v with
  | none => rfl
  | _ => cases h
theorem fnX_ok {a : Addr} {x qual : Str} {ps : Arguments} {b : List Stmt} {sc : Scope} {cl : List Str} (e : fnX K a = some (x, qual, ps, .stmts b, sc, mainGlobals, cl, builtinsNs)) (c : fnB K a qual = true) :
    ∃ (oc : Value) (od : Option Addr) (kV doc pm : Value) (an : Option Addr) (cda : Addr) (ct : Value) (osl : Array (Option Value)) (cls : List (Str × Addr)), cls.map (·.1) = cl ∧
      K.lookup a = some ⟨oc, od, .func (PySem.W.fnX x qual ps b sc cls .none kV doc pm an (.ref cda) ct), osl⟩ ∧ PySem.W.codeIn K (.ref cda) qual = true := by
  obtain ⟨kp, c2⟩ := He.ba c
  unfold fnX at e
  cases q : K.lookup a with
  | none =>
    rw [q] at c2
    cases c2
  | some o =>
    obtain ⟨oc, od, dt, osl⟩ := o
    rw [q] at c2 e
    cases dt with
    | func fd =>
      obtain ⟨n1, n2, n3, n4, n5, n6, n7, n8, n9, n10, n11, n12, n13, n14, n15⟩ := fd
      have e2 : (some (n1, n2, n3, n4, n5, n6, n7.map (·.1), n15) : FnX) = some (x, qual, ps, .stmts b, sc, mainGlobals, cl, builtinsNs) := e
      simp only [Option.some.injEq, Prod.mk.injEq] at e2
      obtain ⟨h1, h2, h3, h4, h5, h6, h7, h8⟩ := e2
      subst h1 h2 h3 h4 h5 h6 h8
      have c3 : (PySem.W.codeIn K n13 n2 && isNone n8) = true := c2
      obtain ⟨k1, k2⟩ := He.ba c3
      have k3 := isNone_ok k2
      subst k3
      cases n13 with
      | ref cda => exact ⟨oc, od, n9, n10, n11, n12, cda, n14, osl, n7, h7, rfl, k1⟩
      | _ => cases k1
    | _ => cases c2
theorem get_of (c : SaysM K) : Dn K "newest" "Store.newest" s_s_newest [] (aGet K) := by
  obtain ⟨x1, _⟩ := He.ba (says_x c)
  obtain ⟨oc, od, kV, doc, pm, an, cda, ct, osl, cls, h, lk, cd⟩ := fnX_ok (says_g c) x1
  have e : cls = [] := List.map_eq_nil_iff.mp h
  subst e
  exact ⟨_, ⟨oc, od, .none, kV, doc, pm, an, .ref cda, ct, osl, rfl, lk, cd, .inl ⟨rfl, rfl⟩, .inl rfl⟩, (He.ba x1).1⟩
theorem prop_of (c : SaysM K) : PropOf K (aS K) "newest" (aNew K) (aGet K) := by
  obtain ⟨_, x⟩ := He.ba (says_x c)
  obtain ⟨_, x⟩ := He.ba x
  obtain ⟨_, x⟩ := He.ba x
  obtain ⟨x, _⟩ := He.ba x
  obtain ⟨x1, x⟩ := He.ba x
  obtain ⟨x2, x⟩ := He.ba x
  obtain ⟨x3, x4⟩ := He.ba x
  refine ⟨He.eqO_ok x1, He.eqO_ok x2, of_decide_eq_true x3, ?_⟩
  unfold aGet
  split at x4
  · rename_i g r e
    exact ⟨r, by rw [e]⟩
  · cases x4
theorem init_of (c : SaysM K) : InitAt K := by
  obtain ⟨_, x⟩ := He.ba (says_x c)
  obtain ⟨x1, x⟩ := He.ba x
  obtain ⟨x2, x⟩ := He.ba x
  obtain ⟨_, x⟩ := He.ba x
  obtain ⟨x, _⟩ := He.ba x
  obtain ⟨s1, x⟩ := He.ba x
  obtain ⟨s2, x⟩ := He.ba x
  obtain ⟨s3, x⟩ := He.ba x
  obtain ⟨s4, x⟩ := He.ba x
  obtain ⟨s5, s6⟩ := He.ba x
  refine ⟨?_, Option.isSome_iff_exists.mp s1, of_decide_eq_true s2, He.eqO_ok s3, of_decide_eq_true s4, He.eqO_ok s5, He.eqO_ok s6⟩
  obtain ⟨oc, od, kV, doc, pm, an, cda, ct, osl, cls, h, lk, cd⟩ := fnX_ok (says_i c) x1
  unfold inB at x2
  rw [lk] at x2
  obtain ⟨y1, y2⟩ := He.ba (show (cdB K (.ref cda) && ccB K cls) = true from x2)
  match cls, h, y2 with
  | [(n, cc)], h, y2 =>
    have en : n = "__class__" := (List.cons.inj h).1
    subst en
    refine ⟨oc, od, kV, doc, pm, an, cda, ct, osl, cc, lk, cd, ?_, ?_⟩
    · have z : (match K.lookup cda with
        | some ⟨_, _, .fields vs, _⟩ => (match (vs[2]? : Option Value) with
          | some (Value.str file _) => decide (((PySem.Challenge.pw_forkflags_k51_whole_newest.main.file : Str)) = file)
          | _ => false)
        | _ => false) = true := y1
      cases q : K.lookup cda with
      | none =>
        rw [q] at z
        cases z
      | some o =>
        obtain ⟨a1, a2, a3, a4⟩ := o
        rw [q] at z
        cases a3 with
        | fields vs =>
          have z2 : (match (vs[2]? : Option Value) with
            | some (Value.str file _) => decide (((PySem.Challenge.pw_forkflags_k51_whole_newest.main.file : Str)) = file)
            | _ => false) = true := z
          cases q2 : vs[2]? with
          | none =>
            rw [q2] at z2
            cases z2
          | some v =>
            rw [q2] at z2
            cases v with
            | str file t => exact ⟨a1, a2, vs, a4, file, t, rfl, q2, by rw [← of_decide_eq_true z2, beq_self_eq_true]⟩
            | _ => cases z2
        | _ => cases z
    · have z : (match K.lookup cc with
        | some ⟨_, _, .cell (some (.ref d)), _⟩ => decide (d = aF K)
        | _ => false) = true := y2
      cases q : K.lookup cc with
      | none =>
        rw [q] at z
        cases z
      | some o =>
        obtain ⟨a1, a2, a3, a4⟩ := o
        rw [q] at z
        cases a3 with
        | cell v =>
          cases v with
          | none => cases z
          | some v =>
            cases v with
            | ref d =>
              have ed : d = aF K := of_decide_eq_true z
              subst ed
              exact ⟨a1, a2, a4, rfl⟩
            | _ => cases z
        | _ => cases z
theorem emp_of (c : SaysM K) (H : Hp) : SqT K H (He.ga K "EMPTY_SLOTS") [.int 0, .str "", .str ""] := by
  obtain ⟨_, x⟩ := He.ba (says_x c)
  obtain ⟨_, x⟩ := He.ba x
  obtain ⟨_, x⟩ := He.ba x
  obtain ⟨_, x⟩ := He.ba x
  obtain ⟨_, x⟩ := He.ba x
  exact He.tupB_ok x H
theorem fx_of {h : Heap} {mg : Str → Option Value} (X : K.In h) (G : h.Ns mainGlobals mg) (c : SaysM K) : Fx K mg := by
  have d := says_d c
  exact {
    g_is_below := He.glo_ok X G (d.fact 0 (f := .glo "is_below") (by rfl))
    g_is_name := He.glo_ok X G (d.fact 1 (f := .glo "is_name") (by rfl))
    g_is_tree := He.glo_ok X G (d.fact 2 (f := .glo "is_tree") (by rfl))
    g_check_tree := He.glo_ok X G (d.fact 3 (f := .glo "check_tree") (by rfl))
    g_subtrees_of := He.glo_ok X G (d.fact 4 (f := .glo "subtrees_of") (by rfl))
    g_ways_of := He.glo_ok X G (d.fact 5 (f := .glo "ways_of") (by rfl))
    g_forks_of := He.glo_ok X G (d.fact 6 (f := .glo "forks_of") (by rfl))
    g_is_record := He.glo_ok X G (d.fact 7 (f := .glo "is_record") (by rfl))
    g_good_slot := He.glo_ok X G (d.fact 8 (f := .glo "good_slot") (by rfl))
    g_fill_spare := He.glo_ok X G (d.fact 9 (f := .glo "fill_spare") (by rfl))
    g_turn_pointer := He.glo_ok X G (d.fact 10 (f := .glo "turn_pointer") (by rfl))
    g_slot_steps := He.glo_ok X G (d.fact 11 (f := .glo "slot_steps") (by rfl))
    g_slots_after := He.glo_ok X G (d.fact 12 (f := .glo "slots_after") (by rfl))
    g_format_tree := He.glo_ok X G (d.fact 13 (f := .glo "format_tree") (by rfl))
    g_spelled := He.glo_ok X G (d.fact 14 (f := .glo "_spelled") (by rfl))
    g_flags_by_fork := He.glo_ok X G (d.fact 15 (f := .glo "flags_by_fork") (by rfl))
    g_l_is_integer := He.glo_ok X G (d.fact 16 (f := .glo "_law_is_integer") (by rfl))
    g_l_box := He.glo_ok X G (d.fact 17 (f := .glo "_law_box") (by rfl))
    g_l_draw := He.glo_ok X G (d.fact 18 (f := .glo "_law_draw") (by rfl))
    g_l_name := He.glo_ok X G (d.fact 19 (f := .glo "_law_name") (by rfl))
    g_l_names := He.glo_ok X G (d.fact 20 (f := .glo "_law_names") (by rfl))
    g_l_tree := He.glo_ok X G (d.fact 21 (f := .glo "_law_tree") (by rfl))
    g_l_world := He.glo_ok X G (d.fact 22 (f := .glo "_law_world") (by rfl))
    g_l_flags := He.glo_ok X G (d.fact 23 (f := .glo "_law_flags") (by rfl))
    g_l_members := He.glo_ok X G (d.fact 24 (f := .glo "_law_members") (by rfl))
    g_l_board := He.glo_ok X G (d.fact 25 (f := .glo "_law_board") (by rfl))
    g_l_told := He.glo_ok X G (d.fact 26 (f := .glo "_law_told") (by rfl))
    g_l_turns := He.glo_ok X G (d.fact 27 (f := .glo "_law_turns") (by rfl))
    g_l_sign := He.glo_ok X G (d.fact 28 (f := .glo "_law_sign") (by rfl))
    g_l_text := He.glo_ok X G (d.fact 29 (f := .glo "_law_text") (by rfl))
    g_l_cut := He.glo_ok X G (d.fact 30 (f := .glo "_law_cut") (by rfl))
    g_l_start := He.glo_ok X G (d.fact 31 (f := .glo "_law_start") (by rfl))
    g_l_make := He.glo_ok X G (d.fact 32 (f := .glo "_law_make") (by rfl))
    g_l_deed := He.glo_ok X G (d.fact 33 (f := .glo "_law_deed") (by rfl))
    g_l_newest := He.glo_ok X G (d.fact 34 (f := .glo "_law_newest") (by rfl))
    g_law := He.glo_ok X G (d.fact 35 (f := .glo "law") (by rfl))
    g_ForkPlan := He.glo_ok X G (d.fact 36 (f := .glo "ForkPlan") (by rfl))
    g_Store := He.glo_ok X G (d.fact 37 (f := .glo "Store") (by rfl))
    g_EMPTY_SLOTS := He.glo_ok X G (d.fact 38 (f := .glo "EMPTY_SLOTS") (by rfl))
    z_len := He.free_ok X G (d.fact 39 (f := .free "len") (by rfl))
    z_isinstance := He.free_ok X G (d.fact 40 (f := .free "isinstance") (by rfl))
    z_range := He.free_ok X G (d.fact 41 (f := .free "range") (by rfl))
    z_enumerate := He.free_ok X G (d.fact 42 (f := .free "enumerate") (by rfl))
    z_zip := He.free_ok X G (d.fact 43 (f := .free "zip") (by rfl))
    z_reversed := He.free_ok X G (d.fact 44 (f := .free "reversed") (by rfl))
    z_sorted := He.free_ok X G (d.fact 45 (f := .free "sorted") (by rfl))
    z_list := He.free_ok X G (d.fact 46 (f := .free "list") (by rfl))
    z_tuple := He.free_ok X G (d.fact 47 (f := .free "tuple") (by rfl))
    z_int := He.free_ok X G (d.fact 48 (f := .free "int") (by rfl))
    z_bool := He.free_ok X G (d.fact 49 (f := .free "bool") (by rfl))
    z_str := He.free_ok X G (d.fact 50 (f := .free "str") (by rfl))
    z_sum := He.free_ok X G (d.fact 51 (f := .free "sum") (by rfl))
    z_max := He.free_ok X G (d.fact 52 (f := .free "max") (by rfl))
    z_all := He.free_ok X G (d.fact 53 (f := .free "all") (by rfl))
    z_super := He.free_ok X G (d.fact 54 (f := .free "super") (by rfl))
    i_MOST_LETTERS := He.int_ok X G (d.fact 55 (f := .int "_MOST_LETTERS" 8) (by rfl))
    i_LEAF_LIMIT := He.int_ok X G (d.fact 56 (f := .int "LEAF_LIMIT" 12) (by rfl))
    i_RECORD_LIMIT := He.int_ok X G (d.fact 57 (f := .int "RECORD_LIMIT" 200) (by rfl))
    t_LETTERS := He.str_ok X G (d.fact 58 (f := .str "_LETTERS" "abcdefghijklmnopqrstuvwxyz") (by rfl))
    cF := He.cls_ok (d.fact 59 (f := .cls "ForkPlan") (by rfl))
    cS := He.cls_ok (d.fact 60 (f := .cls "Store") (by rfl))
    nF_names := He.noat_ok (d.fact 61 (f := .noat "ForkPlan" "names") (by rfl))
    nF_cells := He.noat_ok (d.fact 62 (f := .noat "ForkPlan" "cells") (by rfl))
    nF_sizes := He.noat_ok (d.fact 63 (f := .noat "ForkPlan" "sizes") (by rfl))
    nF_tree := He.noat_ok (d.fact 64 (f := .noat "ForkPlan" "tree") (by rfl))
    nF_ways := He.noat_ok (d.fact 65 (f := .noat "ForkPlan" "ways") (by rfl))
    nF_flags := He.noat_ok (d.fact 66 (f := .noat "ForkPlan" "_flags") (by rfl))
    nF_leaves := He.noat_ok (d.fact 67 (f := .noat "ForkPlan" "_leaves") (by rfl))
    nF_written := He.noat_ok (d.fact 68 (f := .noat "ForkPlan" "_written") (by rfl))
    nS_plan := He.noat_ok (d.fact 69 (f := .noat "Store" "plan") (by rfl))
    nS_state := He.noat_ok (d.fact 70 (f := .noat "Store" "state") (by rfl))
    nS_slots := He.noat_ok (d.fact 71 (f := .noat "Store" "_slots") (by rfl))
    mF_check_writer := He.meth_ok (d.fact 72 (f := .meth "ForkPlan" "check_writer") (by rfl))
    mF_check_state := He.meth_ok (d.fact 73 (f := .meth "ForkPlan" "check_state") (by rfl))
    mF_start := He.meth_ok (d.fact 74 (f := .meth "ForkPlan" "start") (by rfl))
    mF_cells_of := He.meth_ok (d.fact 75 (f := .meth "ForkPlan" "cells_of") (by rfl))
    mF_turned := He.meth_ok (d.fact 76 (f := .meth "ForkPlan" "turned") (by rfl))
    mF_updated := He.meth_ok (d.fact 77 (f := .meth "ForkPlan" "updated") (by rfl))
    mF_told := He.meth_ok (d.fact 78 (f := .meth "ForkPlan" "told") (by rfl))
    mF_turns := He.meth_ok (d.fact 79 (f := .meth "ForkPlan" "turns") (by rfl))
    mF_wrong_forks := He.meth_ok (d.fact 80 (f := .meth "ForkPlan" "wrong_forks") (by rfl))
    mF_parity := He.meth_ok (d.fact 81 (f := .meth "ForkPlan" "_parity") (by rfl))
    mF_leaf_from := He.meth_ok (d.fact 82 (f := .meth "ForkPlan" "_leaf_from") (by rfl))
    mS_record := He.meth_ok (d.fact 83 (f := .meth "Store" "record") (by rfl))
    mS_step_count := He.meth_ok (d.fact 84 (f := .meth "Store" "step_count") (by rfl))
    mS_write := He.meth_ok (d.fact 85 (f := .meth "Store" "write") (by rfl))
    mkF := He.mkr_ok (d.fact 86 (f := .mkr "ForkPlan") (by rfl))
    mkS := He.mkr_ok (d.fact 87 (f := .mkr "Store") (by rfl))
    d_is_below := d.def_ 0 (d := e_is_below) (by rfl)
    d_p_init := d.def_ 1 (d := e_p_init) (by rfl)
    d_p_check_writer := d.def_ 2 (d := e_p_check_writer) (by rfl)
    d_p_check_state := d.def_ 3 (d := e_p_check_state) (by rfl)
    d_p_start := d.def_ 4 (d := e_p_start) (by rfl)
    d_p_cells_of := d.def_ 5 (d := e_p_cells_of) (by rfl)
    d_p_turned := d.def_ 6 (d := e_p_turned) (by rfl)
    d_p_updated := d.def_ 7 (d := e_p_updated) (by rfl)
    d_is_name := d.def_ 8 (d := e_is_name) (by rfl)
    d_is_tree := d.def_ 9 (d := e_is_tree) (by rfl)
    d_check_tree := d.def_ 10 (d := e_check_tree) (by rfl)
    d_subtrees_of := d.def_ 11 (d := e_subtrees_of) (by rfl)
    d_ways_of := d.def_ 12 (d := e_ways_of) (by rfl)
    d_forks_of := d.def_ 13 (d := e_forks_of) (by rfl)
    d_is_record := d.def_ 14 (d := e_is_record) (by rfl)
    d_good_slot := d.def_ 15 (d := e_good_slot) (by rfl)
    d_fill_spare := d.def_ 16 (d := e_fill_spare) (by rfl)
    d_turn_pointer := d.def_ 17 (d := e_turn_pointer) (by rfl)
    d_slot_steps := d.def_ 18 (d := e_slot_steps) (by rfl)
    d_slots_after := d.def_ 19 (d := e_slots_after) (by rfl)
    d_s_init := d.def_ 20 (d := e_s_init) (by rfl)
    d_s_record := d.def_ 21 (d := e_s_record) (by rfl)
    d_s_step_count := d.def_ 22 (d := e_s_step_count) (by rfl)
    d_s_write := d.def_ 23 (d := e_s_write) (by rfl)
    d_format_tree := d.def_ 24 (d := e_format_tree) (by rfl)
    d_spelled := d.def_ 25 (d := e_spelled) (by rfl)
    d_flags_by_fork := d.def_ 26 (d := e_flags_by_fork) (by rfl)
    d_f_parity := d.def_ 27 (d := e_f_parity) (by rfl)
    d_f_leaf_from := d.def_ 28 (d := e_f_leaf_from) (by rfl)
    d_f_told := d.def_ 29 (d := e_f_told) (by rfl)
    d_f_wrong_forks := d.def_ 30 (d := e_f_wrong_forks) (by rfl)
    d_f_turns := d.def_ 31 (d := e_f_turns) (by rfl)
    d_l_is_integer := d.def_ 32 (d := e_l_is_integer) (by rfl)
    d_l_box := d.def_ 33 (d := e_l_box) (by rfl)
    d_l_draw := d.def_ 34 (d := e_l_draw) (by rfl)
    d_l_name := d.def_ 35 (d := e_l_name) (by rfl)
    d_l_names := d.def_ 36 (d := e_l_names) (by rfl)
    d_l_tree := d.def_ 37 (d := e_l_tree) (by rfl)
    d_l_world := d.def_ 38 (d := e_l_world) (by rfl)
    d_l_flags := d.def_ 39 (d := e_l_flags) (by rfl)
    d_l_members := d.def_ 40 (d := e_l_members) (by rfl)
    d_l_board := d.def_ 41 (d := e_l_board) (by rfl)
    d_l_told := d.def_ 42 (d := e_l_told) (by rfl)
    d_l_turns := d.def_ 43 (d := e_l_turns) (by rfl)
    d_l_sign := d.def_ 44 (d := e_l_sign) (by rfl)
    d_l_text := d.def_ 45 (d := e_l_text) (by rfl)
    d_l_cut := d.def_ 46 (d := e_l_cut) (by rfl)
    d_l_start := d.def_ 47 (d := e_l_start) (by rfl)
    d_l_make := d.def_ 48 (d := e_l_make) (by rfl)
    d_l_deed := d.def_ 49 (d := e_l_deed) (by rfl)
    d_l_newest := d.def_ 50 (d := e_l_newest) (by rfl)
    d_law := d.def_ 51 (d := e_law) (by rfl)
    emp := emp_of c
    d_s_newest := get_of c
    prop := prop_of c
    init := init_of c }
end
end FF
/-! Heaps: what is kept; a new object, a store; data that is read; defs that are called. -/
namespace FF
open PySem PySem.Spec PyProof.Rows L2

/-! ### what is kept -/
/-- all that was tracked is as it was, but what S names -/
def Kp (S : Addr → Prop) (H H' : Hp) : Prop := ∀ a o, ¬ S a → H a = some o → H' a = some o
section
variable {S S' : Addr → Prop} {H H1 H2 H' : Hp} {p a : Addr} {o o' : HO} {K : PySem.W.Frag}
theorem Kp.refl : Kp S H H := fun _ _ _ h => h
theorem Kp.trans (a : Kp S H H1) (b : Kp S H1 H2) : Kp S H H2 := fun c o n h => b c o n (a c o n h)
theorem Kp.same (s : Same H H') : Kp S H H' := fun c o _ h => s c o h
theorem Kp.mono (k : Kp S H H') (h : ∀ a, S a → S' a) : Kp S' H H' := fun c o n e => k c o (fun z => n (h c z)) e
/-- .. where the more that may change was not there yet -/
theorem Kp.mono' (k : Kp S H H') (h : ∀ a, S a → S' a ∨ H a = Option.none) : Kp S' H H' := fun c o n e => k c o (fun z => by
  rcases h c z with q | q
  · exact n q
  · rw [q] at e
    cases e) e
theorem Kp.toSame (k : Kp S H H') (h : ∀ a, S a → H a = Option.none) : Same H H' := fun c o e => k c o (fun z => by
  rw [h c z] at e
  cases e) e
theorem Kp.free (k : Kp S H H') (n : ¬ S a) (h : H' a = Option.none) : H a = Option.none := by
  cases q : H a with
  | none => rfl
  | some o =>
    rw [k a o n q] at h
    cases h
theorem same_new (h : H p = Option.none) : Same H (upd H p o) := fun b u e => by
  rw [upd_ne (ne_of_none e h)]
  exact e
theorem kp_put : Kp (fun a => a = p) H (upd H p o) := fun b u n e => by
  rw [upd_ne n]
  exact e
/-- a new object: the heap behind it is named -/
theorem alloc {G : Addr → Hp → Prop} (k : ∀ p H1, Same H H1 → H p = Option.none → H1 p = some o → G p H1) : ∀ p, H p = Option.none → G p (upd H p o) := fun p hp => k p _ (same_new hp) hp upd_same
/-- a store: the heap behind it is named -/
theorem put {G : Hp → Prop} (k : ∀ H1, Kp (fun a => a = p) H H1 → H1 p = some o → G H1) : G (upd H p o) := k _ kp_put upd_same
theorem _root_.L2.Same.seqT (e : Same H H') {xs : List V} (h : SqT K H a xs) : SqT K H' a xs := by
  rcases h with (h | ⟨o, h⟩) | h
  · exact .inl (.inl (e _ _ h))
  · exact .inl (.inr ⟨o, e _ _ h⟩)
  · exact .inr h
/-- a frozen part F of the heap stays where nothing of it may change -/
theorem _root_.L2.Same.kp {F : Hp} (s : Same F H) (k : Kp S H H') (h : ∀ a o, F a = some o → ¬ S a) : Same F H' := fun a o e => k a o (h a o e) (s a o e)
theorem _root_.L2.Same.kp1 {F : Hp} (s : Same F H) (k : Kp (fun a => a = p) H H') (h : F p = Option.none) : Same F H' := L2.Same.kp s k fun a o e z => by
  rw [z, h] at e
  cases e
end

/-! ### data that is read -/
section
variable {K : PySem.W.Frag} {H H' : Hp}
mutual
theorem _root_.L2.Dp.same (s : Same H H') : ∀ {d : PyData} {v : V}, Dp K H v d → Dp K H' v d
  | _, _, .non => .non
  | _, _, .bl b => .bl b
  | _, _, .int i => .int i
  | _, _, .str x => .str x
  | _, _, .lst h a => .lst (s.seq h) (L2.DpAll.same s a)
  | _, _, .tup h a => .tup (L2.Same.seqT s h) (L2.DpAll.same s a)
theorem _root_.L2.DpAll.same (s : Same H H') : ∀ {ds : List PyData} {vs : List V}, DpAll K H vs ds → DpAll K H' vs ds
  | _, _, .nil => .nil
  | _, _, .cons h t => .cons (L2.Dp.same s h) (L2.DpAll.same s t)
end
theorem _root_.L2.Dp.list_inv {v : V} {ds : List PyData} (h : Dp K H v (.list ds)) : ∃ a xs, v = .ref a ∧ SqL K H a xs ∧ DpAll K H xs ds := by
  cases h with
  | lst a b => exact ⟨_, _, rfl, a, b⟩
theorem _root_.L2.Dp.tuple_inv {v : V} {ds : List PyData} (h : Dp K H v (.tuple ds)) : ∃ a xs, v = .ref a ∧ SqT K H a xs ∧ DpAll K H xs ds := by
  cases h with
  | tup a b => exact ⟨_, _, rfl, a, b⟩
theorem _root_.L2.Dp.str_inv {v : V} {x : Str} (h : Dp K H v (.str x)) : v = .str x := by
  cases h with
  | str => rfl
theorem _root_.L2.Dp.int_inv {v : V} {i : Int} (h : Dp K H v (.int i)) : v = .int i := by
  cases h with
  | int => rfl
theorem _root_.L2.DpAll.length : ∀ {ds : List PyData} {vs : List V}, DpAll K H vs ds → vs.length = ds.length
  | _, _, .nil => rfl
  | _, _, .cons _ t => congrArg Nat.succ (L2.DpAll.length t)
theorem _root_.L2.DpAll.get : ∀ {ds : List PyData} {vs : List V} {i : Nat} {d : PyData}, DpAll K H vs ds → ds[i]? = some d → ∃ v, vs[i]? = some v ∧ Dp K H v d
  | _, _, _, _, .nil, e => by simp at e
  | _, _, 0, _, .cons h _, e => by
    have e2 := Option.some.inj (by simpa using e)
    subst e2
    exact ⟨_, rfl, h⟩
  | _, _, i + 1, _, .cons _ t, e => by
    obtain ⟨v, h1, h2⟩ := L2.DpAll.get (i := i) t (by simpa using e)
    exact ⟨v, by simpa using h1, h2⟩
theorem _root_.L2.DpAll.get' {ds : List PyData} {vs : List V} {i : Nat} {v : V} (h : DpAll K H vs ds) (e : vs[i]? = some v) : ∃ d, ds[i]? = some d ∧ Dp K H v d := by
  have hi := (List.getElem?_eq_some_iff.mp e).1
  rw [h.length] at hi
  obtain ⟨u, h1, h2⟩ := h.get (List.getElem?_eq_getElem hi)
  rw [e] at h1
  cases h1
  exact ⟨_, List.getElem?_eq_getElem hi, h2⟩
theorem _root_.L2.DpAll.append : ∀ {ds es : List PyData} {vs us : List V}, DpAll K H vs ds → DpAll K H us es → DpAll K H (vs ++ us) (ds ++ es)
  | _, _, _, _, .nil, k => k
  | _, _, _, _, .cons h t, k => .cons h (L2.DpAll.append t k)
theorem _root_.L2.DpAll.one {v : V} {d : PyData} (h : Dp K H v d) : DpAll K H [v] [d] := .cons h .nil
theorem _root_.L2.DpAll.strs : ∀ {ss : List Str} {vs : List V}, DpAll K H vs (ss.map .str) → vs = ss.map V.str
  | [], _, .nil => rfl
  | _ :: _, _, .cons h t => by
    rw [L2.Dp.str_inv h, L2.DpAll.strs t]
    rfl
theorem _root_.L2.DpAll.ofStrs : ∀ (ss : List Str), DpAll K H (ss.map V.str) (ss.map .str)
  | [] => .nil
  | _ :: ss => .cons (.str _) (L2.DpAll.ofStrs ss)
theorem _root_.L2.DpAll.ints : ∀ {ss : List Int} {vs : List V}, DpAll K H vs (ss.map .int) → vs = ss.map V.int
  | [], _, .nil => rfl
  | _ :: _, _, .cons h t => by
    rw [L2.Dp.int_inv h, L2.DpAll.ints t]
    rfl
theorem _root_.L2.DpAll.ofInts : ∀ (ss : List Int), DpAll K H (ss.map V.int) (ss.map .int)
  | [] => .nil
  | _ :: ss => .cons (.int _) (L2.DpAll.ofInts ss)
/-- a tuple of two -/
theorem _root_.L2.Dp.pair_inv {v : V} {d e : PyData} (h : Dp K H v (.tuple [d, e])) : ∃ a x y, v = .ref a ∧ SqT K H a [x, y] ∧ Dp K H x d ∧ Dp K H y e := by
  obtain ⟨a, xs, rfl, h1, h2⟩ := L2.Dp.tuple_inv h
  cases h2 with
  | cons p t => cases t with
    | cons q r => cases r with
      | nil => exact ⟨a, _, _, rfl, h1, p, q⟩
theorem _root_.L2.Dp.pair {a : Addr} {x y : V} {d e : PyData} (h : H a = some (.tup [x, y])) (p : Dp K H x d) (q : Dp K H y e) : Dp K H (.ref a) (.tuple [d, e]) := .tup (SqT.of h) (.cons p (.cons q .nil))
end

/-! ### defs of the module that are called -/
section
variable {P : Program} {w : World} {K : PySem.W.Frag} {mg : Str → Option Value} {base : Heap}
/-- a def by its body, to be called by its name (no default) -/
theorem calN {x : Str} {st : Stmt} {N ps : List Str} {k : Nat} {sp : Sp} {f : Addr} (D : Dn K x x st [] f) (g : mg x = some (.ref f)) (S : FnScope N ps (defScope st)) (len : ∀ vs H Q E, sp vs H Q E → vs.length = ps.length)
    (hb : ∀ (kV doc pm : Value) (an : Option Addr) (cdv ct : Value) (us : List Value), us.length = ps.length → bindArgs (PySem.W.fnOf x x (defArgs st) (defBody st) (defScope st) .none kV doc pm an cdv ct) ⟨us, []⟩ = pure (ps.zip us))
    (hbody : ∀ (cdv : Value) (A : Around) (outer : List Env) (s : Shared) (H : Hp) (vs : List V) (Q : VK) (E : XK), Room k (A.deeper (envOfC x (defScope st) s.heap.objs.size f cdv)) → sp vs H Q E →
      ∃ t, PSs (cxOf CX0 P w K mg base N x (defScope st) f cdv A outer s H E).nox (defBody st) t ∧ t { nx := fun _ H' => Q .non H', rt := Q } (start N vs) H) : C8.Cal P w K mg base (k + 1) x sp [] := by
  obtain ⟨fd, F⟩ := D
  exact ⟨f, fd, ps, [], F.ok S len fun cdv A outer s H vs Q E hr h => let ⟨t, a, b⟩ := hbody cdv A outer s H vs Q E hr h; ⟨t, a.nox, b⟩, g, F.kp, F.bindsN hb, .nil⟩
/-- a method by its body (no default) -/
theorem metN {m qual : Str} {C : Addr} {st : Stmt} {N ps : List Str} {k : Nat} {sp : Sp} {f : Addr} (c : Cls K C) (me : Meth K C m f) (D : Dn K m qual st [] f) (S : FnScope N ps (defScope st)) (len : ∀ vs H Q E, sp vs H Q E → vs.length = ps.length)
    (hb : ∀ (kV doc pm : Value) (an : Option Addr) (cdv ct : Value) (us : List Value), us.length = ps.length → bindArgs (PySem.W.fnOf m qual (defArgs st) (defBody st) (defScope st) .none kV doc pm an cdv ct) ⟨us, []⟩ = pure (ps.zip us))
    (hbody : ∀ (cdv : Value) (A : Around) (outer : List Env) (s : Shared) (H : Hp) (vs : List V) (Q : VK) (E : XK), Room k (A.deeper (envOfC qual (defScope st) s.heap.objs.size f cdv)) → sp vs H Q E →
      ∃ t, PSs (cxOf CX0 P w K mg base N qual (defScope st) f cdv A outer s H E).nox (defBody st) t ∧ t { nx := fun _ H' => Q .non H', rt := Q } (start N vs) H) : C8.Met P w K mg base (k + 1) C m sp [] := by
  obtain ⟨fd, F⟩ := D
  exact ⟨f, fd, ps, [], c, me, F.ok S len fun cdv A outer s H vs Q E hr h => let ⟨t, a, b⟩ := hbody cdv A outer s H vs Q E hr h; ⟨t, a.nox, b⟩, F.bindsN hb, .nil⟩
/-- a higher level -/
theorem calUp {x : Str} {sp : Sp} {dvs : List V} {j k : Nat} (c : C8.Cal P w K mg base j x sp dvs) (h : j ≤ k) : C8.Cal P w K mg base k x sp dvs := by
  obtain ⟨f, fd, ps, ds, F, r⟩ := c.ex
  exact ⟨f, fd, ps, ds, F.mono h, r⟩
end
end FF
/-! The mathematics: shapes of trees, ways, flags, boards, turns. No program here. -/
namespace FF
open PySem

/-! ### shapes -/
inductive Sh where
  | lf
  | nd (l r : Sh)
def Sh.size : Sh → Nat
  | .lf => 1
  | .nd l r => l.size + r.size + 1
def Sh.isNd : Sh → Bool
  | .lf => false
  | .nd _ _ => true
/-- the part at a place -/
def Sh.at' : Sh → List Bool → Option Sh
  | s, [] => some s
  | .lf, _ :: _ => none
  | .nd l r, c :: g => if c then r.at' g else l.at' g
theorem Sh.at_nil (s : Sh) : s.at' [] = some s := by cases s <;> rfl
/-- all parts, each before its left and its right part -/
def Sh.subs : Sh → List Bool → List (List Bool × Sh)
  | .lf, f => [(f, .lf)]
  | .nd l r, f => (f, .nd l r) :: (l.subs (f ++ [false]) ++ r.subs (f ++ [true]))
def Sh.ways : Sh → List Bool → List (List Bool)
  | .lf, f => [f]
  | .nd l r, f => l.ways (f ++ [false]) ++ r.ways (f ++ [true])
def Sh.forks : Sh → List Bool → List (List Bool)
  | .lf, _ => []
  | .nd l r, f => f :: (l.forks (f ++ [false]) ++ r.forks (f ++ [true]))
theorem Sh.subs_ways : ∀ (s : Sh) (f : List Bool), ((s.subs f).filter fun p => !p.2.isNd).map (·.1) = s.ways f
  | .lf, f => rfl
  | .nd l r, f => by
    show (((f, Sh.nd l r) :: (l.subs (f ++ [false]) ++ r.subs (f ++ [true]))).filter fun p => !p.2.isNd).map (·.1) = l.ways (f ++ [false]) ++ r.ways (f ++ [true])
    rw [List.filter_cons, if_neg (by simp [Sh.isNd]), List.filter_append, List.map_append, Sh.subs_ways l, Sh.subs_ways r]
theorem Sh.subs_forks : ∀ (s : Sh) (f : List Bool), ((s.subs f).filter fun p => p.2.isNd).map (·.1) = s.forks f
  | .lf, f => rfl
  | .nd l r, f => by
    show (((f, Sh.nd l r) :: (l.subs (f ++ [false]) ++ r.subs (f ++ [true]))).filter fun p => p.2.isNd).map (·.1) = f :: (l.forks (f ++ [false]) ++ r.forks (f ++ [true]))
    rw [List.filter_cons, if_pos (by simp [Sh.isNd]), List.filter_append, List.map_cons, List.map_append, Sh.subs_forks l, Sh.subs_forks r]
theorem Sh.mem_ways : ∀ (s : Sh) (f w : List Bool), w ∈ s.ways f ↔ ∃ g, w = f ++ g ∧ s.at' g = some .lf
  | .lf, f, w => by
    constructor
    · intro h
      have e : w = f := List.mem_singleton.mp h
      exact ⟨[], by rw [e, List.append_nil], rfl⟩
    · rintro ⟨g, rfl, h⟩
      cases g with
      | nil => exact List.mem_singleton.mpr (List.append_nil f)
      | cons c g => cases h
  | .nd l r, f, w => by
    show w ∈ l.ways (f ++ [false]) ++ r.ways (f ++ [true]) ↔ _
    rw [List.mem_append, Sh.mem_ways l, Sh.mem_ways r]
    constructor
    · rintro (⟨g, rfl, h⟩ | ⟨g, rfl, h⟩)
      · exact ⟨false :: g, by simp, h⟩
      · exact ⟨true :: g, by simp, h⟩
    · rintro ⟨g, rfl, h⟩
      cases g with
      | nil => cases h
      | cons c g => cases c with
        | false => exact .inl ⟨g, by simp, h⟩
        | true => exact .inr ⟨g, by simp, h⟩
theorem Sh.mem_forks : ∀ (s : Sh) (f w : List Bool), w ∈ s.forks f ↔ ∃ g l r, w = f ++ g ∧ s.at' g = some (.nd l r)
  | .lf, f, w => by
    constructor
    · intro h
      cases h
    · rintro ⟨g, l, r, rfl, h⟩
      cases g with
      | nil => cases h
      | cons c g => cases h
  | .nd l r, f, w => by
    show w ∈ f :: (l.forks (f ++ [false]) ++ r.forks (f ++ [true])) ↔ _
    rw [List.mem_cons, List.mem_append, Sh.mem_forks l, Sh.mem_forks r]
    constructor
    · rintro (rfl | ⟨g, l', r', rfl, h⟩ | ⟨g, l', r', rfl, h⟩)
      · exact ⟨[], l, r, by simp, rfl⟩
      · exact ⟨false :: g, l', r', by simp, h⟩
      · exact ⟨true :: g, l', r', by simp, h⟩
    · rintro ⟨g, l', r', rfl, h⟩
      cases g with
      | nil => exact .inl (by simp)
      | cons c g => cases c with
        | false => exact .inr (.inl ⟨g, l', r', by simp, h⟩)
        | true => exact .inr (.inr ⟨g, l', r', by simp, h⟩)
theorem Sh.at_snoc : ∀ {s l r : Sh} {g : List Bool} (c : Bool), s.at' g = some (.nd l r) → s.at' (g ++ [c]) = some (if c then r else l)
  | s, l, r, [], c, h => by
    rw [Sh.at_nil] at h
    cases h
    show (if c then r.at' [] else l.at' []) = _
    rw [Sh.at_nil, Sh.at_nil]
    cases c <;> rfl
  | .lf, l, r, d :: g, c, h => by cases h
  | .nd l' r', l, r, d :: g, c, h => by
    cases d with
    | false => exact Sh.at_snoc (s := l') c h
    | true => exact Sh.at_snoc (s := r') c h
theorem Sh.at_up : ∀ {s x : Sh} {g : List Bool} {c : Bool} {h : List Bool}, s.at' (g ++ c :: h) = some x → ∃ l r, s.at' g = some (.nd l r)
  | .lf, x, [], c, h, e => by cases e
  | .nd l r, x, [], c, h, e => ⟨l, r, rfl⟩
  | .lf, x, d :: g, c, h, e => by cases e
  | .nd l r, x, d :: g, c, h, e => by
    cases d with
    | false => exact Sh.at_up (s := l) (g := g) (c := c) (h := h) e
    | true => exact Sh.at_up (s := r) (g := g) (c := c) (h := h) e
/-- beneath each part is a leaf -/
theorem Sh.leaf : ∀ s : Sh, ∃ g, s.at' g = some .lf
  | .lf => ⟨[], rfl⟩
  | .nd l r => let ⟨g, h⟩ := Sh.leaf l; ⟨false :: g, h⟩
theorem Sh.at_app : ∀ {s s' : Sh} {g h : List Bool}, s.at' g = some s' → s.at' (g ++ h) = s'.at' h
  | s, s', [], h, e => by
    rw [Sh.at_nil] at e
    cases e
    rfl
  | .lf, s', c :: g, h, e => by cases e
  | .nd l r, s', c :: g, h, e => by
    cases c with
    | false => exact Sh.at_app (s := l) e
    | true => exact Sh.at_app (s := r) e
/-- the forks are the proper beginnings of the ways -/
theorem Sh.fork_iff (s : Sh) (f : List Bool) : f ∈ s.forks [] ↔ ∃ w ∈ s.ways [], ∃ k, k < w.length ∧ f = w.take k := by
  rw [Sh.mem_forks]
  constructor
  · rintro ⟨g, l, r, e, h⟩
    rw [List.nil_append] at e
    rw [e]
    obtain ⟨x, hx⟩ := Sh.leaf (.nd l r)
    have hx0 : x ≠ [] := fun z => by
      subst z
      cases hx
    refine ⟨[] ++ (g ++ x), (Sh.mem_ways _ _ _).mpr ⟨g ++ x, rfl, by rw [Sh.at_app h]; exact hx⟩, g.length, ?_, ?_⟩
    · have := List.length_pos_iff.mpr hx0
      simp
      omega
    · simp
  · rintro ⟨w, hw, k, hk, rfl⟩
    obtain ⟨g, e, h⟩ := (Sh.mem_ways _ _ _).mp hw
    rw [List.nil_append] at e
    subst e
    have e2 : w = w.take k ++ w[k] :: w.drop (k + 1) := by rw [← List.drop_eq_getElem_cons hk, List.take_append_drop]
    rw [e2] at h
    obtain ⟨l, r, q⟩ := Sh.at_up h
    exact ⟨w.take k, l, r, by simp, q⟩
theorem Sh.ways_pos : ∀ (s : Sh) (f : List Bool), 0 < (s.ways f).length
  | .lf, f => Nat.one_pos
  | .nd l r, f => by
    show 0 < (l.ways _ ++ r.ways _).length
    rw [List.length_append]
    have := Sh.ways_pos l (f ++ [false])
    omega
theorem Sh.depth : ∀ (s : Sh) (f w : List Bool), w ∈ s.ways f → w.length + 1 ≤ f.length + (s.ways f).length
  | .lf, f, w, h => by
    have e : w = f := List.mem_singleton.mp h
    rw [e]
    exact Nat.le_refl _
  | .nd l r, f, w, h => by
    show w.length + 1 ≤ f.length + (l.ways (f ++ [false]) ++ r.ways (f ++ [true])).length
    rw [List.length_append]
    have p1 := Sh.ways_pos l (f ++ [false])
    have p2 := Sh.ways_pos r (f ++ [true])
    rcases List.mem_append.mp h with q | q
    · have := Sh.depth l _ _ q
      rw [List.length_append, List.length_singleton] at this
      omega
    · have := Sh.depth r _ _ q
      rw [List.length_append, List.length_singleton] at this
      omega
theorem Sh.ways_nodup : ∀ (s : Sh) (f : List Bool), (s.ways f).Nodup
  | .lf, f => by simp [Sh.ways]
  | .nd l r, f => by
    show (l.ways _ ++ r.ways _).Nodup
    refine List.nodup_append.mpr ⟨Sh.ways_nodup l _, Sh.ways_nodup r _, fun a ha b hb e => ?_⟩
    subst e
    obtain ⟨g, e1, _⟩ := (Sh.mem_ways _ _ _).mp ha
    obtain ⟨h, e2, _⟩ := (Sh.mem_ways _ _ _).mp hb
    rw [e1, List.append_assoc, List.append_assoc] at e2
    have e3 := List.append_cancel_left e2
    simp at e3
theorem Sh.subs_len : ∀ (s : Sh) (f : List Bool), (s.subs f).length = s.size
  | .lf, f => rfl
  | .nd l r, f => by
    show ((f, Sh.nd l r) :: (l.subs _ ++ r.subs _)).length = l.size + r.size + 1
    rw [List.length_cons, List.length_append, Sh.subs_len l, Sh.subs_len r]
theorem Sh.size_ways : ∀ (s : Sh) (f : List Bool), s.size + 1 = 2 * (s.ways f).length
  | .lf, f => rfl
  | .nd l r, f => by
    show l.size + r.size + 1 + 1 = 2 * (l.ways _ ++ r.ways _).length
    rw [List.length_append]
    have := Sh.size_ways l (f ++ [false])
    have := Sh.size_ways r (f ++ [true])
    omega
theorem Sh.ways_len (s : Sh) (f g : List Bool) : (s.ways f).length = (s.ways g).length := by
  have := Sh.size_ways s f
  have := Sh.size_ways s g
  omega

/-! ### the walk from the top -/
def Sh.walk (b : List Bool → Bool) : Sh → List Bool → List Bool
  | .lf, f => f
  | .nd l r, f => if b f then r.walk b (f ++ [true]) else l.walk b (f ++ [false])
theorem Sh.walk_mem (b : List Bool → Bool) : ∀ (s : Sh) (f : List Bool), s.walk b f ∈ s.ways f
  | .lf, f => List.mem_singleton.mpr rfl
  | .nd l r, f => by
    show (if b f then r.walk b (f ++ [true]) else l.walk b (f ++ [false])) ∈ l.ways _ ++ r.ways _
    cases b f with
    | true => exact List.mem_append_right _ (Sh.walk_mem b r _)
    | false => exact List.mem_append_left _ (Sh.walk_mem b l _)
theorem Sh.ways_pre {s : Sh} {f w : List Bool} (h : w ∈ s.ways f) : ∃ g, w = f ++ g := let ⟨g, e, _⟩ := (Sh.mem_ways _ _ _).mp h; ⟨g, e⟩
theorem Sh.walk_board (b : List Bool → Bool) : ∀ (s : Sh) (f : List Bool) (k : Nat), f.length ≤ k → k < (s.walk b f).length → (s.walk b f)[k]? = some (b ((s.walk b f).take k))
  | .lf, f, k, h1, h2 => absurd (show k < f.length from h2) (by omega)
  | .nd l r, f, k, h1, h2 => by
    have key : ∀ (c : Bool) (t : Sh), b f = c → (t.walk b (f ++ [c]))[k]? = some (b ((t.walk b (f ++ [c])).take k)) ∨ f.length + 1 ≤ k := fun c t hc => by
      by_cases hk : k = f.length
      · left
        obtain ⟨g, e⟩ := Sh.ways_pre (Sh.walk_mem b t (f ++ [c]))
        rw [e, hk, List.append_assoc, List.take_left, List.getElem?_append_right (Nat.le_refl _), Nat.sub_self, hc]
        rfl
      · right
        omega
    cases hb : b f with
    | true =>
      have e : (Sh.nd l r).walk b f = r.walk b (f ++ [true]) := by
        show (if b f then r.walk b (f ++ [true]) else l.walk b (f ++ [false])) = _
        rw [hb]
        rfl
      rw [e] at h2 ⊢
      rcases key true r hb with q | q
      · exact q
      · exact Sh.walk_board b r _ k (by simpa using q) h2
    | false =>
      have e : (Sh.nd l r).walk b f = l.walk b (f ++ [false]) := by
        show (if b f then r.walk b (f ++ [true]) else l.walk b (f ++ [false])) = _
        rw [hb]
        rfl
      rw [e] at h2 ⊢
      rcases key false l hb with q | q
      · exact q
      · exact Sh.walk_board b l _ k (by simpa using q) h2
theorem Sh.walk_to (b : List Bool → Bool) : ∀ (s : Sh) (f w : List Bool), w ∈ s.ways f → (∀ k, f.length ≤ k → k < w.length → w[k]? = some (b (w.take k))) → s.walk b f = w
  | .lf, f, w, h, _ => (List.mem_singleton.mp h).symm
  | .nd l r, f, w, h, hb => by
    have key : ∀ (c : Bool) (t : Sh), w ∈ t.ways (f ++ [c]) → b f = c := fun c t ht => by
      obtain ⟨g, e⟩ := Sh.ways_pre ht
      have q := hb f.length (Nat.le_refl _) (by rw [e]; simp)
      rw [e, List.append_assoc, List.take_left, List.getElem?_append_right (Nat.le_refl _), Nat.sub_self] at q
      exact (Option.some.inj q).symm
    rcases List.mem_append.mp (show w ∈ l.ways (f ++ [false]) ++ r.ways (f ++ [true]) from h) with q | q
    · show (if b f then r.walk b (f ++ [true]) else l.walk b (f ++ [false])) = w
      rw [key false l q]
      exact Sh.walk_to b l _ w q fun k h1 h2 => hb k (by rw [List.length_append, List.length_singleton] at h1; omega) h2
    · show (if b f then r.walk b (f ++ [true]) else l.walk b (f ++ [false])) = w
      rw [key true r q]
      exact Sh.walk_to b r _ w q fun k h1 h2 => hb k (by rw [List.length_append, List.length_singleton] at h1; omega) h2
theorem Sh.walk_step {b : List Bool → Bool} {l r : Sh} {f : List Bool} : (Sh.nd l r).walk b f = (if b f then r else l).walk b (f ++ [b f]) := by
  show (if b f then r.walk b (f ++ [true]) else l.walk b (f ++ [false])) = _
  cases b f <;> rfl

/-! ### a leaf is replaced by a fork -/
theorem Sh.split : ∀ (s : Sh) (f : List Bool) (i : Nat) (w : List Bool), (s.ways f)[i]? = some w → ∃ s' : Sh, s'.ways f = (s.ways f).take i ++ ([w ++ [false], w ++ [true]] ++ (s.ways f).drop (i + 1))
  | .lf, f, i, w, h => by
    have hi : i = 0 := by
      cases i with
      | zero => rfl
      | succ i => cases i <;> cases h
    subst hi
    have e : f = w := Option.some.inj h
    subst e
    exact ⟨.nd .lf .lf, rfl⟩
  | .nd l r, f, i, w, h => by
    have h : (l.ways (f ++ [false]) ++ r.ways (f ++ [true]))[i]? = some w := h
    by_cases hi : i < (l.ways (f ++ [false])).length
    · rw [List.getElem?_append_left hi] at h
      obtain ⟨s', e⟩ := Sh.split l _ i w h
      refine ⟨.nd s' r, ?_⟩
      show s'.ways _ ++ r.ways _ = (l.ways _ ++ r.ways _).take i ++ (_ ++ (l.ways _ ++ r.ways _).drop (i + 1))
      rw [e, List.take_append_of_le_length (by omega), List.drop_append_of_le_length (by omega)]
      simp [List.append_assoc]
    · rw [List.getElem?_append_right (by omega)] at h
      obtain ⟨s', e⟩ := Sh.split r _ _ w h
      refine ⟨.nd l s', ?_⟩
      show l.ways _ ++ s'.ways _ = (l.ways _ ++ r.ways _).take i ++ (_ ++ (l.ways _ ++ r.ways _).drop (i + 1))
      rw [e, List.take_append, List.drop_append, List.take_of_length_le (l := l.ways (f ++ [false])) (by omega), List.drop_of_length_le (l := l.ways (f ++ [false])) (by omega)]
      rw [show i + 1 - (l.ways (f ++ [false])).length = i - (l.ways (f ++ [false])).length + 1 by omega]
      simp [List.append_assoc]
end FF
/-! Flags, boards, turns. No program here. -/
namespace FF
open PySem

abbrev Prs := List (Str × List Bool)
def cl (sp : Prs) : List (Str × Nat) := sp.flatMap fun p => (List.range p.2.length).map fun l => (p.1, l)
def fl (sp : Prs) : Prs := sp.flatMap fun p => (List.range p.2.length).map fun l => (p.1, p.2.take l)
theorem cl_cons (p : Str × List Bool) (sp : Prs) : cl (p :: sp) = ((List.range p.2.length).map fun l => (p.1, l)) ++ cl sp := by
  unfold cl
  rw [List.flatMap_cons]
theorem fl_cons (p : Str × List Bool) (sp : Prs) : fl (p :: sp) = ((List.range p.2.length).map fun l => (p.1, p.2.take l)) ++ fl sp := by
  unfold fl
  rw [List.flatMap_cons]
theorem cl_app (a b : Prs) : cl (a ++ b) = cl a ++ cl b := by
  unfold cl
  rw [List.flatMap_append]
theorem fl_app (a b : Prs) : fl (a ++ b) = fl a ++ fl b := by
  unfold fl
  rw [List.flatMap_append]
theorem fl_len : ∀ sp : Prs, (fl sp).length = (cl sp).length
  | [] => rfl
  | p :: sp => by rw [fl_cons, cl_cons, List.length_append, List.length_append, fl_len sp, List.length_map, List.length_map]
theorem mem_fl {sp : Prs} {x : Str × List Bool} : x ∈ fl sp ↔ ∃ p ∈ sp, ∃ l, l < p.2.length ∧ x = (p.1, p.2.take l) := by
  unfold fl
  rw [List.mem_flatMap]
  constructor
  · rintro ⟨p, hp, h⟩
    obtain ⟨l, hl, e⟩ := List.mem_map.mp h
    exact ⟨p, hp, l, List.mem_range.mp hl, e.symm⟩
  · rintro ⟨p, hp, l, hl, e⟩
    exact ⟨p, hp, List.mem_map.mpr ⟨l, List.mem_range.mpr hl, e.symm⟩⟩
theorem fl_cl {sp : Prs} : ∀ {i : Nat} {n : Str} {l : Nat}, (cl sp)[i]? = some (n, l) → ∃ w, (n, w) ∈ sp ∧ l < w.length ∧ (fl sp)[i]? = some (n, w.take l) := by
  induction sp with
  | nil =>
    intro i n l h
    cases i <;> cases h
  | cons p sp ih =>
    intro i n l h
    rw [cl_cons] at h
    rw [fl_cons]
    have e1 : ((List.range p.2.length).map fun l => (p.1, l)).length = p.2.length := by simp
    have e2 : ((List.range p.2.length).map fun l => (p.1, p.2.take l)).length = p.2.length := by simp
    by_cases hi : i < p.2.length
    · rw [List.getElem?_append_left (by rw [e1]; exact hi), List.getElem?_map, List.getElem?_range hi] at h
      have e := Option.some.inj h
      injection e with ea eb
      subst ea eb
      refine ⟨p.2, List.mem_cons_self, hi, ?_⟩
      rw [List.getElem?_append_left (by rw [e2]; exact hi), List.getElem?_map, List.getElem?_range hi]
      rfl
    · rw [List.getElem?_append_right (by rw [e1]; omega), e1] at h
      obtain ⟨w, a, b, c⟩ := ih h
      refine ⟨w, List.mem_cons_of_mem _ a, b, ?_⟩
      rw [List.getElem?_append_right (by rw [e2]; omega), e2]
      exact c
/-! ### the flags of a fork -/
def ixs (L : Prs) (f : List Bool) : List Nat := (L.zipIdx.filter fun q => decide (q.1.2 = f)).map (·.2)
theorem mem_ixs {L : Prs} {f : List Bool} {i : Nat} : i ∈ ixs L f ↔ ∃ n, L[i]? = some (n, f) := by
  unfold ixs
  rw [List.mem_map]
  constructor
  · rintro ⟨⟨⟨n, g⟩, j⟩, h, rfl⟩
    obtain ⟨h1, h2⟩ := List.mem_filter.mp h
    have e : g = f := of_decide_eq_true h2
    subst e
    exact ⟨n, List.mem_zipIdx_iff_getElem?.mp h1⟩
  · rintro ⟨n, h⟩
    exact ⟨((n, f), i), List.mem_filter.mpr ⟨List.mem_zipIdx_iff_getElem?.mpr h, by simp⟩, rfl⟩
theorem ixs_snoc (L : Prs) (n : Str) (g f : List Bool) : ixs (L ++ [(n, g)]) f = if g = f then ixs L f ++ [L.length] else ixs L f := by
  unfold ixs
  rw [List.zipIdx_append, List.filter_append, List.map_append]
  by_cases h : g = f
  · rw [if_pos h]
    simp [h]
  · rw [if_neg h]
    simp [h]
theorem ixs_nodup (L : Prs) (f : List Bool) : (ixs L f).Nodup := by
  have h : (L.zipIdx.map (·.2)).Nodup := by
    rw [List.zipIdx_map_snd]
    exact List.nodup_range'
  exact h.sublist ((List.filter_sublist).map _)
theorem ixs_lt {L : Prs} {f : List Bool} {i : Nat} (h : i ∈ ixs L f) : i < L.length := by
  obtain ⟨n, e⟩ := mem_ixs.mp h
  exact (List.getElem?_eq_some_iff.mp e).1
/-! ### marks, boards -/
def M01 (ms : List Int) (n : Nat) : Prop := ms.length = n ∧ ∀ m ∈ ms, m = 0 ∨ m = 1
def bsum (L : Prs) (ms : List Int) (f : List Bool) : Int := ((ixs L f).map fun i => ms.getD i 0).sum
def bd (L : Prs) (ms : List Int) (f : List Bool) : Bool := decide (bsum L ms f % 2 = 1)
theorem sum_set' {ms : List Int} {j : Nat} (y : Int) (hj : j < ms.length) : ∀ {I : List Nat}, I.Nodup → (I.map fun i => (ms.set j y).getD i 0).sum = (I.map fun i => ms.getD i 0).sum + if j ∈ I then y - ms.getD j 0 else 0
  | [], _ => by simp
  | a :: I, h => by
    obtain ⟨h1, h2⟩ := List.nodup_cons.mp h
    rw [List.map_cons, List.map_cons, List.sum_cons, List.sum_cons, sum_set' y hj h2]
    by_cases e : a = j
    · subst e
      have e1 : (ms.set a y).getD a 0 = y := by simp [List.getD_eq_getElem?_getD, hj]
      rw [e1, if_neg h1, if_pos List.mem_cons_self]
      omega
    · have e1 : (ms.set j y).getD a 0 = ms.getD a 0 := by
        simp [List.getD_eq_getElem?_getD, List.getElem?_set_ne (Ne.symm e)]
      rw [e1]
      by_cases q : j ∈ I
      · rw [if_pos q, if_pos (List.mem_cons_of_mem _ q)]
        omega
      · rw [if_neg q, if_neg (fun z => by
          rcases List.mem_cons.mp z with z | z
          · exact e z.symm
          · exact q z)]
        omega
theorem M01.get {ms : List Int} {n i : Nat} (h : M01 ms n) (hi : i < n) : ∃ m, ms[i]? = some m ∧ ms.getD i 0 = m ∧ (m = 0 ∨ m = 1) := by
  have hi' : i < ms.length := by rw [h.1]; exact hi
  exact ⟨ms[i], List.getElem?_eq_getElem hi', by simp [List.getD_eq_getElem?_getD, hi'], h.2 _ (List.getElem_mem hi')⟩
theorem M01.set {ms : List Int} {n j : Nat} (h : M01 ms n) : M01 (ms.set j (1 - ms.getD j 0)) n := by
  refine ⟨by rw [List.length_set, h.1], fun m hm => ?_⟩
  rcases List.mem_or_eq_of_mem_set hm with q | q
  · exact h.2 _ q
  · by_cases hj : j < n
    · obtain ⟨m', _, e2, e3⟩ := h.get hj
      rw [q, e2]
      rcases e3 with e3 | e3 <;> rw [e3] <;> simp
    · have e : ms.getD j 0 = 0 := by
        rw [List.getD_eq_getElem?_getD, List.getElem?_eq_none (by rw [h.1]; omega)]
        rfl
      rw [q, e]
      simp
theorem bd_set {L : Prs} {ms : List Int} {j : Nat} {n : Str} {g f : List Bool} (h : M01 ms L.length) (e : L[j]? = some (n, g)) : bd L (ms.set j (1 - ms.getD j 0)) f = if f = g then !bd L ms f else bd L ms f := by
  have hj : j < L.length := (List.getElem?_eq_some_iff.mp e).1
  have hj' : j < ms.length := by rw [h.1]; exact hj
  unfold bd bsum
  rw [sum_set' _ hj' (ixs_nodup L f)]
  by_cases q : f = g
  · subst q
    rw [if_pos rfl, if_pos (mem_ixs.mpr ⟨n, e⟩)]
    obtain ⟨m, _, e2, e3⟩ := h.get hj
    rw [e2]
    generalize ((ixs L f).map fun i => ms.getD i 0).sum = t
    rcases e3 with e3 | e3
    · subst e3
      by_cases z : t % 2 = 1
      · rw [decide_eq_true z]
        simp
        omega
      · rw [decide_eq_false z]
        simp
        omega
    · subst e3
      by_cases z : t % 2 = 1
      · rw [decide_eq_true z]
        simp
        omega
      · rw [decide_eq_false z]
        simp
        omega
  · rw [if_neg q, if_neg fun z => by
      obtain ⟨n', e'⟩ := mem_ixs.mp z
      rw [e] at e'
      injection e' with e'
      injection e' with _ e'
      exact q e'.symm]
    simp
/-! ### turns -/
def turned (ms : List Int) (js : List Nat) : List Int := js.foldl (fun m j => m.set j (1 - m.getD j 0)) ms
theorem turned_cons (ms : List Int) (j : Nat) (js : List Nat) : turned ms (j :: js) = turned (ms.set j (1 - ms.getD j 0)) js := rfl
theorem turned_snoc (ms : List Int) (js : List Nat) (j : Nat) : turned ms (js ++ [j]) = (turned ms js).set j (1 - (turned ms js).getD j 0) := by
  unfold turned
  rw [List.foldl_append]
  rfl
theorem turned_01 {n : Nat} : ∀ (js : List Nat) {ms : List Int}, M01 ms n → M01 (turned ms js) n
  | [], _, h => h
  | _ :: js, _, h => turned_01 js h.set
/-- what is not named stays -/
theorem turned_other {i : Nat} : ∀ (js : List Nat) {ms : List Int}, i ∉ js → (turned ms js)[i]? = ms[i]?
  | [], _, _ => rfl
  | j :: js, ms, h => by
    rw [turned_cons, turned_other js (fun z => h (List.mem_cons_of_mem _ z)), List.getElem?_set_ne (fun z => h (by rw [z]; exact List.mem_cons_self))]
/-- the levels of a way whose boards lead elsewhere, the deepest first -/
def wrong (L : Prs) (ms : List Int) (w : List Bool) : List Nat := (List.range w.length).reverse.filter fun l => decide (w[l]? ≠ some (bd L ms (w.take l)))
theorem mem_wrong {L : Prs} {ms : List Int} {w : List Bool} {l : Nat} : l ∈ wrong L ms w ↔ l < w.length ∧ w[l]? ≠ some (bd L ms (w.take l)) := by
  unfold wrong
  rw [List.mem_filter, List.mem_reverse, List.mem_range, decide_eq_true_eq]
theorem wrong_desc (L : Prs) (ms : List Int) (w : List Bool) : (wrong L ms w).Pairwise (fun a b => b < a) := by
  unfold wrong
  refine List.Pairwise.filter _ ?_
  rw [List.pairwise_reverse]
  exact List.pairwise_lt_range
theorem wrong_nodup (L : Prs) (ms : List Int) (w : List Bool) : (wrong L ms w).Nodup := (wrong_desc L ms w).imp fun h => Nat.ne_of_gt h
theorem wrong_len (L : Prs) (ms : List Int) (w : List Bool) : (wrong L ms w).length ≤ w.length := by
  unfold wrong
  refine Nat.le_trans (List.length_filter_le _ _) ?_
  rw [List.length_reverse, List.length_range]
  exact Nat.le_refl _
theorem bd_turned {L : Prs} {w : List Bool} {off : Nat} {n : Str} {f : List Bool} (hL : ∀ l, l < w.length → L[off + l]? = some (n, w.take l)) : ∀ (lv : List Nat) (ms : List Int), lv.Nodup → (∀ l ∈ lv, l < w.length) → M01 ms L.length →
    bd L (turned ms (lv.map (off + ·))) f = if f ∈ lv.map (w.take ·) then !bd L ms f else bd L ms f
  | [], ms, _, _, _ => by simp [turned]
  | l :: lv, ms, hn, hl, h01 => by
    obtain ⟨n1, n2⟩ := List.nodup_cons.mp hn
    have hl1 := hl l List.mem_cons_self
    rw [List.map_cons, turned_cons, bd_turned hL lv _ n2 (fun x hx => hl x (List.mem_cons_of_mem _ hx)) h01.set, bd_set h01 (hL l hl1)]
    by_cases q : f = w.take l
    · have nin : f ∉ lv.map (w.take ·) := fun z => by
        obtain ⟨x, hx, e⟩ := List.mem_map.mp z
        have hx' := hl x (List.mem_cons_of_mem _ hx)
        have e2 := congrArg List.length (e.trans q)
        rw [List.length_take, List.length_take] at e2
        have : x = l := by omega
        exact n1 (this ▸ hx)
      rw [if_neg nin, if_pos q, if_pos (by rw [q]; exact List.mem_map.mpr ⟨l, List.mem_cons_self, rfl⟩)]
    · rw [if_neg q]
      by_cases z : f ∈ lv.map (w.take ·)
      · rw [if_pos z, if_pos (show f ∈ (l :: lv).map (w.take ·) from List.mem_cons_of_mem _ z)]
      · rw [if_neg z, if_neg (c := f ∈ (l :: lv).map (w.take ·)) fun y => by
          rcases List.mem_cons.mp y with y | y
          · exact q y
          · exact z y]
/-! ### pairs of a tree -/
structure Ok (s : Sh) (sp : Prs) : Prop where
  per : (sp.map (·.2)).Perm (s.ways [])
  nod : (sp.map (·.1)).Nodup
  few : sp.length ≤ 12
theorem nd_inj {α β : Type} {f : α → β} {l : List α} (h : (l.map f).Nodup) {a b : α} (ha : a ∈ l) (hb : b ∈ l) (e : f a = f b) : a = b := by
  obtain ⟨i, hi, ei⟩ := List.mem_iff_getElem.mp ha
  obtain ⟨j, hj, ej⟩ := List.mem_iff_getElem.mp hb
  have q : (l.map f)[i]'(by simpa using hi) = (l.map f)[j]'(by simpa using hj) := by simp [ei, ej, e]
  have := (List.getElem_inj h).mp q
  subst this
  rw [← ei, ← ej]
section
variable {s : Sh} {sp : Prs}
theorem Ok.wnod (h : Ok s sp) : (sp.map (·.2)).Nodup := h.per.nodup_iff.mpr (Sh.ways_nodup s [])
theorem Ok.name_inj (h : Ok s sp) {p q : Str × List Bool} (hp : p ∈ sp) (hq : q ∈ sp) (e : p.1 = q.1) : p = q := nd_inj h.nod hp hq e
theorem Ok.way_inj (h : Ok s sp) {p q : Str × List Bool} (hp : p ∈ sp) (hq : q ∈ sp) (e : p.2 = q.2) : p = q := nd_inj h.wnod hp hq e
theorem Ok.way_mem (h : Ok s sp) {p : Str × List Bool} (hp : p ∈ sp) : p.2 ∈ s.ways [] := h.per.mem_iff.mp (List.mem_map.mpr ⟨p, hp, rfl⟩)
theorem Ok.of_way (h : Ok s sp) {w : List Bool} (hw : w ∈ s.ways []) : ∃ n, (n, w) ∈ sp := by
  obtain ⟨⟨n, w'⟩, hp, e⟩ := List.mem_map.mp (h.per.mem_iff.mpr hw)
  have e : w' = w := e
  subst e
  exact ⟨n, hp⟩
theorem Ok.depth (h : Ok s sp) {p : Str × List Bool} (hp : p ∈ sp) : p.2.length ≤ 11 := by
  have a := Sh.depth s [] p.2 (h.way_mem hp)
  have b := h.per.length_eq
  rw [List.length_map] at b
  have := h.few
  simp at a
  omega
theorem Ok.fork_iff (h : Ok s sp) (f : List Bool) : f ∈ s.forks [] ↔ ∃ (i : Nat) (n : Str), (fl sp)[i]? = some (n, f) := by
  rw [Sh.fork_iff]
  constructor
  · rintro ⟨w, hw, k, hk, rfl⟩
    obtain ⟨n, hn⟩ := h.of_way hw
    obtain ⟨i, hi, e⟩ := List.mem_iff_getElem.mp (mem_fl.mpr ⟨(n, w), hn, k, hk, rfl⟩)
    exact ⟨i, n, by rw [List.getElem?_eq_getElem hi, e]⟩
  · rintro ⟨i, n, e⟩
    obtain ⟨p, hp, l, hl, e2⟩ := mem_fl.mp (List.mem_of_getElem? e)
    injection e2 with _ e3
    exact ⟨p.2, h.way_mem hp, l, hl, e3⟩
/-- where the flags of a writer begin -/
def off (sp : Prs) (who : Str) : Nat := (cl (sp.takeWhile fun p => decide (p.1 ≠ who))).length
theorem cut_at : ∀ {sp : Prs} {who : Str} {w : List Bool}, (sp.map (·.1)).Nodup → (who, w) ∈ sp → ∃ B, sp = sp.takeWhile (fun p => decide (p.1 ≠ who)) ++ (who, w) :: B ∧ ∀ p ∈ B, p.1 ≠ who
  | [], _, _, _, h => by cases h
  | p :: sp, who, w, hn, h => by
    obtain ⟨n1, n2⟩ := List.nodup_cons.mp hn
    by_cases e : p.1 = who
    · rw [List.takeWhile_cons, if_neg (by simp [e])]
      have ep : (who, w) = p := nd_inj (f := fun q : Str × List Bool => q.1) (l := p :: sp) hn h List.mem_cons_self e.symm
      subst ep
      exact ⟨sp, rfl, fun q hq z => n1 (z ▸ List.mem_map.mpr ⟨q, hq, rfl⟩)⟩
    · have h' : (who, w) ∈ sp := by
        rcases List.mem_cons.mp h with z | z
        · exact absurd (congrArg (·.1) z).symm e
        · exact z
      obtain ⟨B, e1, e2⟩ := cut_at n2 h'
      rw [List.takeWhile_cons, if_pos (by simp [e])]
      exact ⟨B, congrArg (p :: ·) e1, e2⟩
theorem mem_tw {sp : Prs} {who : Str} {p : Str × List Bool} (h : p ∈ sp.takeWhile (fun p => decide (p.1 ≠ who))) : p.1 ≠ who := by
  induction sp with
  | nil => cases h
  | cons q sp ih =>
    rw [List.takeWhile_cons] at h
    by_cases e : q.1 = who
    · rw [if_neg (by simp [e])] at h
      cases h
    · rw [if_pos (by simp [e])] at h
      rcases List.mem_cons.mp h with z | z
      · rw [z]
        exact e
      · exact ih z
theorem off_fl (hn : (sp.map (·.1)).Nodup) {who : Str} {w : List Bool} (h : (who, w) ∈ sp) {l : Nat} (hl : l < w.length) : (fl sp)[off sp who + l]? = some (who, w.take l) := by
  obtain ⟨B, e, _⟩ := cut_at hn h
  have e2 : fl sp = fl (sp.takeWhile fun p => decide (p.1 ≠ who)) ++ (((List.range w.length).map fun l => (who, w.take l)) ++ fl B) := by
    conv => lhs; rw [e]
    rw [fl_app, fl_cons]
  rw [e2, List.getElem?_append_right (by rw [fl_len]; exact Nat.le_add_right _ _)]
  rw [show off sp who + l - (fl (sp.takeWhile fun p => decide (p.1 ≠ who))).length = l by rw [fl_len]; exact Nat.add_sub_cancel_left _ _]
  rw [List.getElem?_append_left (by simpa using hl), List.getElem?_map, List.getElem?_range hl]
  rfl
/-- the cells of a writer -/
def own (sp : Prs) (who : Str) : List Nat := ((cl sp).zipIdx.filter fun q => decide (q.1.1 = who)).map (·.2)
theorem cl_name {sp : Prs} {c : Str × Nat} (h : c ∈ cl sp) : ∃ p ∈ sp, p.1 = c.1 := by
  unfold cl at h
  obtain ⟨p, hp, h⟩ := List.mem_flatMap.mp h
  obtain ⟨l, _, e⟩ := List.mem_map.mp h
  exact ⟨p, hp, by rw [← e]⟩
theorem zip_none {L : List (Str × Nat)} {who : Str} {k : Nat} (h : ∀ c ∈ L, c.1 ≠ who) : (L.zipIdx k).filter (fun q => decide (q.1.1 = who)) = [] := by
  refine List.filter_eq_nil_iff.mpr fun q hq => ?_
  have : q.1 ∈ L := by
    have := List.mem_map_of_mem (f := fun q : (Str × Nat) × Nat => q.1) hq
    rwa [List.zipIdx_map_fst] at this
  simpa using h _ this
theorem own_eq (hn : (sp.map (·.1)).Nodup) {who : Str} {w : List Bool} (h : (who, w) ∈ sp) : own sp who = List.range' (off sp who) w.length := by
  obtain ⟨B, e, hB⟩ := cut_at hn h
  have e2 : cl sp = cl (sp.takeWhile fun p => decide (p.1 ≠ who)) ++ (((List.range w.length).map fun l => (who, l)) ++ cl B) := by
    conv => lhs; rw [e]
    rw [cl_app, cl_cons]
  unfold own
  rw [e2, List.zipIdx_append, List.zipIdx_append, List.filter_append, List.filter_append, zip_none fun c hc => by
    obtain ⟨p, hp, q⟩ := cl_name hc
    rw [← q]
    exact mem_tw hp, zip_none (L := cl B) fun c hc => by
    obtain ⟨p, hp, q⟩ := cl_name hc
    rw [← q]
    exact hB p hp]
  rw [List.nil_append, List.append_nil, List.filter_eq_self.mpr fun q hq => ?_]
  · rw [List.zipIdx_map_snd]
    simp [off]
  · have : q.1 ∈ (List.range w.length).map fun l => (who, l) := by
      have := List.mem_map_of_mem (f := fun q : (Str × Nat) × Nat => q.1) hq
      rwa [List.zipIdx_map_fst] at this
    obtain ⟨l, _, e⟩ := List.mem_map.mp this
    rw [← e]
    simp
/-- the indexes that an update turns, the deepest first -/
def tix (sp : Prs) (ms : List Int) (who : Str) (w : List Bool) : List Nat := (wrong (fl sp) ms w).map (off sp who + ·)
theorem tix_len (sp : Prs) (ms : List Int) (who : Str) (w : List Bool) : (tix sp ms who w).length = (wrong (fl sp) ms w).length := List.length_map _
theorem tix_nodup (sp : Prs) (ms : List Int) (who : Str) (w : List Bool) : (tix sp ms who w).Nodup := by
  have h := wrong_nodup (fl sp) ms w
  unfold tix
  exact List.Pairwise.map _ (fun a b hab => by omega) h
theorem tix_lt (hn : (sp.map (·.1)).Nodup) {who : Str} {w : List Bool} (h : (who, w) ∈ sp) {ms : List Int} {j : Nat} (hj : j ∈ tix sp ms who w) : j < (fl sp).length := by
  obtain ⟨l, hl, e⟩ := List.mem_map.mp hj
  have := off_fl hn h (mem_wrong.mp hl).1
  have e : off sp who + l = j := e
  rw [e] at this
  exact (List.getElem?_eq_some_iff.mp this).1
def told (s : Sh) (sp : Prs) (ms : List Int) : List Bool := s.walk (bd (fl sp) ms) []
theorem told_mem (s : Sh) (sp : Prs) (ms : List Int) : told s sp ms ∈ s.ways [] := Sh.walk_mem _ _ _
theorem told_at (s : Sh) (sp : Prs) (ms : List Int) {k : Nat} (h : k < (told s sp ms).length) : (told s sp ms)[k]? = some (bd (fl sp) ms ((told s sp ms).take k)) := Sh.walk_board _ s [] k (Nat.zero_le _) h
/-- who is told has nothing to turn -/
theorem tix_told (s : Sh) {sp : Prs} {ms : List Int} (who : Str) : tix sp ms who (told s sp ms) = [] := by
  unfold tix
  rw [List.map_eq_nil_iff, List.eq_nil_iff_forall_not_mem]
  intro l hl
  obtain ⟨h1, h2⟩ := mem_wrong.mp hl
  exact h2 (told_at s sp ms h1)
/-- an update that is cut changes nothing for the reader -/
theorem told_cut (h : Ok s sp) {ms : List Int} {who : Str} {w : List Bool} (hp : (who, w) ∈ sp) (h01 : M01 ms (fl sp).length) {d : Nat} (hd : d < (tix sp ms who w).length) : told s sp (turned ms ((tix sp ms who w).take d)) = told s sp ms := by
  have hd' : d < (wrong (fl sp) ms w).length := by rwa [tix_len] at hd
  have nod : ((wrong (fl sp) ms w).take d).Nodup := (wrong_nodup _ _ _).sublist (List.take_sublist _ _)
  have lt : ∀ l ∈ (wrong (fl sp) ms w).take d, l < w.length := fun l hl => (mem_wrong.mp (List.mem_of_mem_take hl)).1
  have eB : ∀ f, bd (fl sp) (turned ms ((tix sp ms who w).take d)) f = if f ∈ ((wrong (fl sp) ms w).take d).map (w.take ·) then !bd (fl sp) ms f else bd (fl sp) ms f := fun f => by
    unfold tix
    rw [← List.map_take]
    exact bd_turned (n := who) (fun l hl => off_fl h.nod hp hl) _ ms nod lt h01
  refine Sh.walk_to _ s [] _ (told_mem s sp ms) fun k _ hk => ?_
  rw [told_at s sp ms hk, eB, if_neg]
  intro z
  obtain ⟨l, hl, e⟩ := List.mem_map.mp z
  have hlw := lt l hl
  have e : w.take l = (told s sp ms).take k := e
  have ekl : l = k := by
    have e2 := congrArg List.length e
    rw [List.length_take, List.length_take] at e2
    omega
  subst ekl
  -- a level above it, still wrong
  have h0 := List.getElem_mem hd'
  have hlt : (wrong (fl sp) ms w)[d] < l := by
    have hs : (wrong (fl sp) ms w) = (wrong (fl sp) ms w).take d ++ (wrong (fl sp) ms w)[d] :: (wrong (fl sp) ms w).drop (d + 1) := by rw [← List.drop_eq_getElem_cons hd', List.take_append_drop]
    have hw := wrong_desc (fl sp) ms w
    rw [hs] at hw
    exact (List.pairwise_append.mp hw).2.2 l hl _ List.mem_cons_self
  obtain ⟨h1, h2⟩ := mem_wrong.mp h0
  generalize (wrong (fl sp) ms w)[d] = l0 at hlt h1 h2
  apply h2
  have a1 : w[l0]? = (told s sp ms)[l0]? := by
    rw [← List.getElem?_take_of_lt hlt, e, List.getElem?_take_of_lt hlt]
  have a2 : w.take l0 = (told s sp ms).take l0 := by
    have := congrArg (List.take l0) e
    rw [List.take_take, List.take_take, Nat.min_eq_left (Nat.le_of_lt hlt)] at this
    exact this
  rw [a1, a2]
  exact told_at s sp ms (by omega)
/-- a whole update makes its writer the told one -/
theorem told_whole (h : Ok s sp) {ms : List Int} {who : Str} {w : List Bool} (hp : (who, w) ∈ sp) (h01 : M01 ms (fl sp).length) : told s sp (turned ms (tix sp ms who w)) = w := by
  have eB : ∀ f, bd (fl sp) (turned ms (tix sp ms who w)) f = if f ∈ (wrong (fl sp) ms w).map (w.take ·) then !bd (fl sp) ms f else bd (fl sp) ms f := fun f =>
    bd_turned (n := who) (fun l hl => off_fl h.nod hp hl) _ ms (wrong_nodup _ _ _) (fun l hl => (mem_wrong.mp hl).1) h01
  refine Sh.walk_to _ s [] _ (h.way_mem hp) fun k _ hk => ?_
  have hk : k < w.length := hk
  show w[k]? = some (bd (fl sp) (turned ms (tix sp ms who w)) (w.take k))
  rw [eB]
  by_cases q : k ∈ wrong (fl sp) ms w
  · rw [if_pos (List.mem_map.mpr ⟨k, q, rfl⟩)]
    have h2 := (mem_wrong.mp q).2
    rw [List.getElem?_eq_getElem hk] at h2 ⊢
    congr 1
    cases e1 : w[k] <;> cases h3 : bd (fl sp) ms (w.take k) <;> first | rfl | (rw [e1, h3] at h2; exact absurd rfl h2)
  · rw [if_neg fun z => by
      obtain ⟨l, hl, e⟩ := List.mem_map.mp z
      have hlw := (mem_wrong.mp hl).1
      have e2 := congrArg List.length (show w.take l = w.take k from e)
      rw [List.length_take, List.length_take] at e2
      have : l = k := by omega
      exact q (this ▸ hl)]
    exact Decidable.byContradiction fun z => q (mem_wrong.mpr ⟨hk, z⟩)
end
/-- what is set once each from the marks at the start -/
theorem turned_fixed : ∀ (js : List Nat) {ms m : List Int}, js.Nodup → (∀ j ∈ js, m.getD j 0 = ms.getD j 0) → js.foldl (fun m j => m.set j (1 - ms.getD j 0)) m = turned m js
  | [], _, _, _, _ => rfl
  | j :: js, ms, m, hn, h => by
    obtain ⟨n1, n2⟩ := List.nodup_cons.mp hn
    rw [List.foldl_cons, turned_cons, ← h j List.mem_cons_self]
    refine turned_fixed js n2 fun i hi => ?_
    rw [← h i (List.mem_cons_of_mem _ hi)]
    have ne : j ≠ i := fun z => n1 (z ▸ hi)
    simp [List.getD_eq_getElem?_getD, List.getElem?_set_ne ne]
end FF
/-! The box of draws. -/
namespace FF
open PySem PySem.Spec PyProof.Rows L2
/-- the box: what is left of the script (the list l) and four numbers -/
def BoxAt (H : Hp) (b l : Addr) : Prop := ∃ (ns : List Int) (p g s c : Int), H b = some (.lst [.ref l, .int p, .int g, .int s, .int c]) ∧ H l = some (.lst (ns.map V.int)) ∧ ns.length ≤ 63 ∧ 0 ≤ p
theorem BoxAt.ne {H : Hp} {l b : Addr} {ns : List Int} {x y z w : V} {l' : Addr} (h1 : H b = some (.lst [.ref l', x, y, z, w])) (h2 : H l = some (.lst (ns.map V.int))) : l ≠ b := by
  refine ne_of h2 h1 fun e => ?_
  have e2 : ns.map V.int = [.ref l', x, y, z, w] := by injection e
  cases ns with
  | nil => cases e2
  | cons n r => cases e2
theorem BoxAt.kp {H H' : Hp} {b l : Addr} {S : Addr → Prop} (h : BoxAt H b l) (k : Kp S H H') (hb : ¬ S b) (hl : ¬ S l) : BoxAt H' b l := by
  obtain ⟨ns, p, g, s, c, h1, h2, h3, h4⟩ := h
  exact ⟨ns, p, g, s, c, k _ _ hb h1, k _ _ hl h2, h3, h4⟩
theorem BoxAt.same {H H' : Hp} {b l : Addr} (h : BoxAt H b l) (k : Same H H') : BoxAt H' b l := by
  obtain ⟨ns, p, g, s, c, h1, h2, h3, h4⟩ := h
  exact ⟨ns, p, g, s, c, k _ _ h1, k _ _ h2, h3, h4⟩
theorem BoxAt.b {H : Hp} {b l : Addr} (h : BoxAt H b l) : ∃ o, H b = some o := let ⟨_, _, _, _, _, h1, _⟩ := h; ⟨_, h1⟩
theorem BoxAt.l {H : Hp} {b l : Addr} (h : BoxAt H b l) : ∃ o, H l = some o := let ⟨_, _, _, _, _, _, h1, _⟩ := h; ⟨_, h1⟩
theorem BoxAt.nb {H : Hp} {b l a : Addr} (h : BoxAt H b l) (n : H a = none) : b ≠ a := let ⟨_, e⟩ := h.b; ne_of_none e n
theorem BoxAt.nl {H : Hp} {b l a : Addr} (h : BoxAt H b l) (n : H a = none) : l ≠ a := let ⟨_, e⟩ := h.l; ne_of_none e n
/-- a draw gives some number from 0 below n, and the box is a box again -/
def spDraw : Sp := fun vs H Q _ => ∃ (b l : Addr) (n : Int), vs = [.ref b, .int n] ∧ BoxAt H b l ∧ 0 < n ∧ n < 1000000 ∧ ∀ (d : Int) (H' : Hp), 0 ≤ d → d < n → Kp (fun a => a = b) H H' → BoxAt H' b l → Q (.int d) H'
section
variable {P : Program} {w : World} {K : PySem.W.Frag} {mg : Str → Option Value} {base : Heap}
theorem c_draw (T : Fx K mg) : C8.Cal P w K mg base 1 "_law_draw" spDraw [] := by
  refine calN T.d_l_draw T.g_l_draw sc_l_draw (fun vs H Q E h => ?_) (fun _ _ _ _ _ _ us hl => match us, hl with | [_, _], _ => rfl) (fun cdv A outer s H vs Q E hr h => ?_)
  · obtain ⟨b, l, n, rfl, _⟩ := h
    rfl
  · obtain ⟨b, l, n, rfl, hB, hn0, hn1, k⟩ := h
    have nd := sc_l_draw.nd
    refine ⟨_, C8.pss_cut (ps_if (PW.pt (pw_and (pt_cmpR op_lt (pe_ix ix_list (pv 0) pe_int (fun _ _ => rfl)) pe_int (nomark _))
        (pw_and1 (pt_cmpR op_lt (pe_ix ix_list (pv 0) pe_int (fun _ _ => rfl)) (pe_callB call_len_seq (by rfl) T.z_len PySem.boot_len (pa_cons (pe_ix ix_list (pv 0) pe_int (fun _ _ => rfl)) pa_nil)) (nomark _)))))
        (pss_cons (ps_set (i := 2) nd rfl (Or.inl rfl) (pe_ix ix_list (pe_ix ix_list (pv 0) pe_int (fun _ _ => rfl)) (pe_ix ix_list (pv 0) pe_int (fun _ _ => rfl)) (fun _ _ => rfl)))
          (pss_cons (ps_asg (pe_op op_add (pe_ix ix_list (pv 0) pe_int (fun _ _ => rfl)) pe_int) (pg_sub (pv 0) pe_int set_list))
          (pss_one (ps_if (pt_cmpR op_ge (pv 2) (pe_op op_pow pe_int pe_int) (nomark _))
            (pss_one (ps_asg (pv 2) (pg_sub (pv 0) pe_int set_list)))
            (pss_one (ps_asg (pe_op op_mod (pe_callTy call_int1 (by rfl) T.z_int (by decide +kernel) (pa_cons (pe_op op_add (pe_op op_add (pe_op op_mul (pe_ix ix_list (pv 0) pe_int (fun _ _ => rfl)) pe_int) (pe_op op_mul (pv 2) pe_int)) pe_int) pa_nil)) pe_int) (pg_sub (pv 0) pe_int set_list)))))))
        pss_nil)
      (pss_cons (ps_if (pt_cmpR op_gt (pe_ix ix_list (pv 0) pe_int (fun _ _ => rfl)) pe_int (nomark _))
        (pss_cons (ps_set (i := 3) nd rfl (Or.inl rfl) (pe_op op_mod (pe_callTy call_int1 (by rfl) T.z_int (by decide +kernel) (pa_cons (pe_ix ix_list (pv 0) pe_int (fun _ _ => rfl)) pa_nil)) (pv 1)))
          (pss_cons (ps_asg (pe_op op_fdivN (pe_ix ix_list (pv 0) pe_int (fun _ _ => rfl)) (pv 1)) (pg_sub (pv 0) pe_int set_list))
          (pss_one (ps_ret (pv 3)))))
        pss_nil)
      (pss_cons (ps_asg (pe_op op_add (pe_ix ix_list (pv 0) pe_int (fun _ _ => rfl)) pe_int) (pg_sub (pv 0) pe_int set_list))
      (pss_cons (ps_asg (pe_op op_mod (pe_callTy call_int1 (by rfl) T.z_int (by decide +kernel) (pa_cons (pe_op op_add (pe_op op_add (pe_op op_mul (pe_ix ix_list (pv 0) pe_int (fun _ _ => rfl)) pe_int) (pe_op op_mul (pe_ix ix_list (pv 0) pe_int (fun _ _ => rfl)) pe_int)) pe_int) pa_nil)) pe_int) (pg_sub (pv 0) pe_int set_list))
      (pss_one (ps_ret (pe_op op_mod (pe_op op_mod (pe_callTy call_int1 (by rfl) T.z_int (by decide +kernel) (pa_cons (pe_op op_add (pe_op op_mul (pe_op op_fdiv (pe_ix ix_list (pv 0) pe_int (fun _ _ => rfl)) pe_int) pe_int) (pe_op op_mul (pe_ix ix_list (pv 0) pe_int (fun _ _ => rfl)) pe_int)) pa_nil)) pe_int) (pv 1))))))), ?_⟩
    obtain ⟨ns, p, g, sd, c, hb, hl, hlen, hp0⟩ := hB
    have nlb : l ≠ b := BoxAt.ne hb hl
    -- behind the first if
    refine ⟨fun σ H' => ∃ (y : Option V), Kp (fun a => a = b) H H' ∧ BoxAt H' b l ∧ σ = [some (.ref b), some (.int n), y, none], ?_, ?_⟩
    · refine ⟨_, rfl, b, _, _, _, rfl, rfl, SqL.of hb, rfl, _, _, rfl, rfl, _, rfl, ?_⟩
      refine ite2 (fun h1 => ?_) (fun h1 => ?_)
      · refine ⟨_, rfl, b, _, _, _, rfl, rfl, SqL.of hb, rfl, _, rfl, b, _, _, _, rfl, rfl, SqL.of hb, rfl, l, _, rfl, .inl (SqL.of hl), _, _, rfl, rfl, _, rfl, ?_⟩
        refine ite2 (fun h2 => ?_) (fun h2 => ?_)
        · have h2 := of_decide_eq_true h2
          rw [List.length_map] at h2
          obtain ⟨j, rfl⟩ := Int.eq_ofNat_of_zero_le hp0
          have hj : j < ns.length := by omega
          have hget : (ns.map V.int)[j]? = some (V.int ns[j]) := by rw [List.getElem?_map, List.getElem?_eq_getElem hj]; rfl
          refine ⟨_, rfl, b, _, _, _, rfl, rfl, SqL.of hb, rfl, _, rfl, b, _, _, _, rfl, rfl, SqL.of hb, rfl, l, _, _, _, rfl, rfl, SqL.of hl, atI_nat hget, ?_⟩
          refine ⟨_, rfl, b, _, _, _, rfl, rfl, SqL.of hb, rfl, _, _, rfl, rfl, _, rfl, b, _, _, _, rfl, rfl, hb, rfl, ?_⟩
          refine put fun H1 k1 e1 => ?_
          refine ⟨_, rfl, _, _, rfl, rfl, ⟨by decide, by decide, by decide⟩, _, _, rfl, rfl, _, rfl, ?_⟩
          refine ite2 (fun h3 => ?_) (fun h3 => ?_)
          · refine ⟨_, rfl, _, rfl, b, _, _, _, rfl, rfl, e1, rfl, ?_⟩
            refine put fun H2 k2 e2 => ?_
            exact ⟨_, k1.trans k2, ⟨ns, _, _, _, _, e2, k2 _ _ nlb (k1 _ _ nlb hl), hlen, by omega⟩, rfl⟩
          · refine ⟨_, rfl, b, _, _, _, rfl, rfl, SqL.of e1, rfl, _, _, rfl, rfl, .inr ⟨by decide, by decide⟩, _, rfl, _, _, rfl, rfl, .inr ⟨by decide, by decide⟩, _, _, rfl, rfl, _, _, rfl, rfl, .inl ⟨_, rfl, ?_⟩⟩
            refine ⟨_, _, rfl, rfl, (by show (0 : Int) < 2147483647; decide), _, rfl, b, _, _, _, rfl, rfl, e1, rfl, ?_⟩
            refine put fun H2 k2 e2 => ?_
            exact ⟨_, k1.trans k2, ⟨ns, _, _, _, _, e2, k2 _ _ nlb (k1 _ _ nlb hl), hlen, by omega⟩, rfl⟩
        · exact ⟨_, Kp.refl, ⟨ns, p, g, sd, c, hb, hl, hlen, hp0⟩, rfl⟩
      · exact ⟨_, Kp.refl, ⟨ns, p, g, sd, c, hb, hl, hlen, hp0⟩, rfl⟩
    · rintro σ' H1 ⟨y, k1, ⟨ns, p, g, sd, c, hb, hl, hlen, hp0⟩, rfl⟩
      have nlb : l ≠ b := BoxAt.ne hb hl
      refine ⟨_, rfl, b, _, _, _, rfl, rfl, SqL.of hb, rfl, _, _, rfl, rfl, _, rfl, ?_⟩
      refine ite2 (fun h1 => ?_) (fun h1 => ?_)
      · refine ⟨_, rfl, b, _, _, _, rfl, rfl, SqL.of hb, rfl, .inl ⟨_, rfl, ?_⟩⟩
        refine ⟨_, rfl, _, _, rfl, rfl, hn0, ?_⟩
        refine ⟨_, rfl, b, _, _, _, rfl, rfl, SqL.of hb, rfl, _, rfl, _, _, rfl, rfl, ⟨by omega, by omega⟩, _, rfl, b, _, _, _, rfl, rfl, hb, rfl, ?_⟩
        refine put fun H2 k2 e2 => ?_
        refine ⟨_, rfl, k _ _ (Int.emod_nonneg _ (by omega)) (Int.emod_lt_of_pos _ hn0) (k1.trans k2) ⟨ns, _, _, _, _, e2, k2 _ _ nlb hl, hlen, hp0⟩⟩
      · refine ⟨_, rfl, b, _, _, _, rfl, rfl, SqL.of hb, rfl, _, _, rfl, rfl, _, rfl, b, _, _, _, rfl, rfl, hb, rfl, ?_⟩
        refine put fun H2 k2 e2 => ?_
        refine ⟨_, rfl, b, _, _, _, rfl, rfl, SqL.of e2, rfl, _, _, rfl, rfl, .inr ⟨by decide, by decide⟩, _, rfl, b, _, _, _, rfl, rfl, SqL.of e2, rfl, _, _, rfl, rfl, .inr ⟨by decide, by decide⟩, _, _, rfl, rfl, _, _, rfl, rfl, .inl ⟨_, rfl, ?_⟩⟩
        refine ⟨_, _, rfl, rfl, (by show (0 : Int) < 2147483647; decide), _, rfl, b, _, _, _, rfl, rfl, e2, rfl, ?_⟩
        refine put fun H3 k3 e3 => ?_
        refine ⟨_, rfl, b, _, _, _, rfl, rfl, SqL.of e3, rfl, _, _, rfl, rfl, ⟨by decide, by decide⟩, _, _, rfl, rfl, .inr ⟨by decide, by decide⟩, _, rfl, b, _, _, _, rfl, rfl, SqL.of e3, rfl, _, _, rfl, rfl, .inr ⟨by decide, by decide⟩, _, _, rfl, rfl, .inl ⟨_, rfl, ?_⟩⟩
        refine ⟨_, _, rfl, rfl, (by show (0 : Int) < 1000003; decide), _, rfl, _, _, rfl, rfl, hn0, ?_⟩
        exact k _ _ (Int.emod_nonneg _ (by omega)) (Int.emod_lt_of_pos _ hn0) ((k1.trans k2).trans k3) ⟨ns, _, _, _, _, e3, k3 _ _ nlb (k2 _ _ nlb hl), hlen, hp0⟩
end
end FF
/-! Texts: names, records, ways as texts; a text drawn sign by sign. -/
namespace FF
open PySem PySem.Spec PyProof.Rows L2

/-! ### short rules -/
section
variable {X : Cx} {a b : Expr} {ta tb : TE} {pos : Pos}
theorem ixl (ha : PE X a ta) (hb : PE X b tb) (hs : PlainIx b := by exact fun _ _ => rfl) : PE X (.Subscript a b pos) (tOp (rIxL X.K) ta tb) := pe_ix ix_list ha hb hs
theorem ixt (ha : PE X a ta) (hb : PE X b tb) (hs : PlainIx b := by exact fun _ _ => rfl) : PE X (.Subscript a b pos) (tOp (rIxT X.K) ta tb) := pe_ix ix_tup ha hb hs
theorem ixs' (ha : PE X a ta) (hb : PE X b tb) (hs : PlainIx b := by exact fun _ _ => rfl) : PE X (.Subscript a b pos) (tOp rIxS ta tb) := pe_ix ix_str ha hb hs
/-- a text times an int -/
def rMulS : R2 := fun x y H Q => ∃ z n, x = .str z ∧ y = .int n ∧ MulOk z n ∧ Q (.str (Txt.mul z n)) H
theorem op_mulS : OpR X (binaryOp .Mult) rMulS := by
  intro pins s σ H x y v u Q I rx ry h
  obtain ⟨i, j, rfl, rfl, hz, q⟩ := h
  obtain ⟨t, rfl⟩ := rx
  obtain ⟨t', rfl⟩ := ry
  exact SB.mul hz fun t' tk => ⟨.str (Txt.mul i j), H, I.tok _, ⟨_, rfl⟩, q⟩
end

section
variable {X : Cx} {a b e : Expr} {ta tb te : TE} {pos : Pos} {K : PySem.W.Frag}
theorem ixlK (hk : X.K = K) (ha : PE X a ta) (hb : PE X b tb) (hs : PlainIx b := by exact fun _ _ => rfl) : PE X (.Subscript a b pos) (tOp (rIxL K) ta tb) := hk ▸ ixl ha hb hs
theorem ixtK (hk : X.K = K) (ha : PE X a ta) (hb : PE X b tb) (hs : PlainIx b := by exact fun _ _ => rfl) : PE X (.Subscript a b pos) (tOp (rIxT K) ta tb) := hk ▸ ixt ha hb hs
theorem op_notInK (hk : X.K = K) : OpR X (compareOp .NotIn) (rIn K true) := hk ▸ op_notIn_seq
theorem op_inK (hk : X.K = K) : OpR X (compareOp .In) (rIn K false) := hk ▸ op_in_seq
end
theorem allocV {H : Hp} {o : HO} {Q : VK} (k : ∀ (p : Addr) (H1 : Hp), Same H H1 → H p = Option.none → H1 p = some o → Q (.ref p) H1) : ∀ p, H p = Option.none → Q (.ref p) (upd H p o) := fun p hp => k p _ (same_new hp) hp upd_same
theorem alloc1 {H : Hp} {p : Addr} {o : HO} {G : Hp → Prop} (n : H p = Option.none) (k : ∀ H1, Same H H1 → H1 p = some o → G H1) : G (upd H p o) := k _ (same_new n) upd_same
theorem putD {H : Hp} {p : Addr} {o : HO} {R : L2.St → Hp → Prop} {σ : L2.St} (k : ∀ H1, Kp (fun a => a = p) H H1 → H1 p = some o → R σ H1) : R σ (upd H p o) := k _ kp_put upd_same
/-! ### texts -/
theorem str_S (z : Str) : z = SX.S z.cps.toList := (SX.S_tl z).symm
theorem empty_S : (Str.ofString "") = SX.S [] := by decide +kernel
/-- a sign of a written text, by a place that was drawn -/
theorem pick {z : Str} {p : Nat → Prop} {n : Nat} (hl : z.cps.toList.length = n) (hz : ∀ c ∈ z.cps.toList, p c) {d : Int} (h0 : 0 ≤ d) (h1 : d < n) : ∃ c, atI z.cps.toList d = some c ∧ p c := by
  obtain ⟨j, rfl⟩ := Int.eq_ofNat_of_zero_le h0
  have hj : j < z.cps.toList.length := by omega
  exact ⟨_, atI_nat (List.getElem?_eq_getElem hj), hz _ (List.getElem_mem hj)⟩
theorem joinL_one : ∀ cs : List Nat, TL.joinL [] (cs.map fun c => [c]) = cs
  | [] => rfl
  | [c] => rfl
  | c :: d :: r => by
    have ih := joinL_one (d :: r)
    show [c] ++ ([] ++ TL.joinL [] ((d :: r).map fun c => [c])) = c :: d :: r
    rw [ih]
    rfl
theorem join_one (cs : List Nat) : Txt.join (Str.ofString "") (cs.map fun c => SX.S [c]) = SX.S cs := by
  rw [empty_S]
  have e : (cs.map fun c => SX.S [c]) = (cs.map fun c => [c]).map SX.S := by rw [List.map_map]; rfl
  rw [e, SX.join_S, joinL_one]
theorem join_fit {cs : List Nat} (h : cs.length ≤ 1000) : ((cs.map fun c => SX.S [c]).map (·.length)).sum + (cs.map fun c => SX.S [c]).length * (Str.ofString "").length ≤ 16777216 := by
  have e0 : (Str.ofString "").length = 0 := by decide +kernel
  have e1 : ((cs.map fun c => SX.S [c]).map (·.length)).sum = cs.length := by
    clear h
    induction cs with
    | nil => rfl
    | cons c cs ih =>
      rw [List.map_cons, List.map_cons, List.sum_cons, ih, List.length_cons]
      show 1 + cs.length = cs.length + 1
      omega
  rw [e0, e1]
  omega
theorem S_tl' (l : List Nat) : (SX.S l).cps.toList = l := by simp [SX.S]
theorem foldl_tl : ∀ (L : List (Array Nat)) (acc : Array Nat), (L.foldl (· ++ ·) acc).toList = acc.toList ++ (L.map (·.toList)).flatten
  | [], acc => by simp
  | x :: L, acc => by
    rw [List.foldl_cons, foldl_tl L, List.map_cons, List.flatten_cons, Array.toList_append, List.append_assoc]
theorem mul_tl {cs : List Nat} {n : Nat} (hn : 1 < n) (hc : cs ≠ []) : Txt.mul (SX.S cs) (n : Int) = SX.S (List.replicate n cs).flatten := by
  unfold Txt.mul
  have e : (SX.S cs).length = cs.length := SX.S_len cs
  have p := List.length_pos_iff.mpr hc
  rw [if_neg (by omega), e, if_neg (by
    have h1 : ((n : Int) == 1) = false := by
      rw [beq_eq_false_iff_ne]
      omega
    have h2 : (cs.length == 0) = false := by
      rw [beq_eq_false_iff_ne]
      omega
    rw [h1, h2]
    decide)]
  refine TL.ext_tl ?_
  show (List.foldl (· ++ ·) #[] (List.replicate (n : Int).toNat cs.toArray)).toList = (List.replicate n cs).flatten.toArray.toList
  rw [foldl_tl]
  simp
theorem mul_all {cs : List Nat} {n : Nat} {p : Nat → Prop} (hn : 1 < n) (hc : cs ≠ []) (hp : ∀ c ∈ cs, p c) : ∃ L : List Nat, Txt.mul (SX.S cs) (n : Int) = SX.S L ∧ L.length = n * cs.length ∧ ∀ c ∈ L, p c := by
  refine ⟨_, mul_tl hn hc, ?_, fun c h => ?_⟩
  · rw [List.length_flatten, List.map_replicate, List.sum_replicate_nat]
  · obtain ⟨L, hL, hcL⟩ := List.mem_flatten.mp h
    rw [List.eq_of_mem_replicate hL] at hcL
    exact hp c hcL
theorem mul_ok {cs : List Nat} {n : Nat} (hn : n ≤ 1000) (hc : cs.length ≤ 10) : MulOk (SX.S cs) (n : Int) := by
  have h63 : (2 : Int) ^ 63 = 9223372036854775808 := by decide
  refine ⟨?_, fun h1 _ z => ?_, fun h1 _ => ?_⟩
  · rw [Bool.or_eq_false_iff]
    refine ⟨decide_eq_false ?_, decide_eq_false ?_⟩ <;> omega
  · rw [SX.S_len, h63] at z
    have h0 : (0 : Int) < n := by omega
    have := Int.lt_mul_of_ediv_lt h0 z
    have h2 : (cs.length : Int) * n ≤ 10 * 1000 := Int.mul_le_mul (by omega) (by omega) (by omega) (by decide)
    omega
  · rw [SX.S_len]
    show decide (cs.length * (n : Int).toNat > sizeLine) = false
    have h2 : cs.length * n ≤ 10 * 1000 := Nat.mul_le_mul hc hn
    have e : (n : Int).toNat = n := by omega
    rw [sizeLine_eq, e]
    exact decide_eq_false (by omega)
/-- a name -/
def IsNm (z : Str) : Prop := 1 ≤ z.cps.toList.length ∧ z.cps.toList.length ≤ 8 ∧ ∀ c ∈ z.cps.toList, 97 ≤ c ∧ c ≤ 122
/-- a record -/
def IsTx (z : Str) : Prop := z.cps.toList.length ≤ 200 ∧ ∀ c ∈ z.cps.toList, 32 ≤ c ∧ c ≤ 126
theorem len_tl (z : Str) : z.length = z.cps.toList.length := rfl

/-- a comprehension without a test -/
theorem tyes {σ : L2.St} {H : Hp} {A B : Hp → Prop} (h : A H) : tYes σ H fun b H3 => if b = true then A H3 else B H3 := by
  show if true = true then A H else B H
  rw [if_pos rfl]
  exact h
/-! ### a text that is drawn sign by sign -/
theorem lc_text {K : PySem.W.Frag} {lo : Int} {n i0 : Nat} {te : TE} {vs : List Nat} {σ : L2.St} {H1 : Hp} {D b l : Addr} {Qd : Hp → Prop} (p : Nat → Prop) (hB : BoxAt H1 b l) (hD : H1 D = Option.none) (hn : n ≤ 1000)
    (hw : ∀ v, wipe ((wipe σ vs).set i0 v) vs = wipe σ vs)
    (he : ∀ (k : Nat) (H : Hp) (Q : VK), k < n → BoxAt H b l → (∀ (c : Nat) (H' : Hp), p c → Kp (fun a => a = b) H H' → BoxAt H' b l → Q (.str (SX.S [c])) H') → te ((wipe σ vs).set i0 (some (.int (lo + k)))) H Q)
    (hd : ∀ (cs : List Nat) (H' : Hp), cs.length = n → (∀ c ∈ cs, p c) → Kp (fun a => a = b) H1 H' → BoxAt H' b l → H' D = some (.lst ((cs.map fun c => SX.S [c]).map V.str)) → Qd H') :
    ∃ W : Nat → Nat → Hp → Prop, (∃ m, W 0 m (upd H1 D (.lst []))) ∧ ∀ i m H, W i m H →
      ((Itr lo n).stop i H ∧ Qd H) ∨ ((Itr lo n).go i H ∧ ∃ Nx : Hp → Prop, (∀ H', Nx H' → ∃ m', m' < m ∧ W (i + 1) m' H') ∧ ∀ x H', (Itr lo n).yld i H x H' → (gName i0) x (wipe σ vs) H' fun σ2 H2 => wipe σ2 vs = wipe σ vs ∧ tYes σ2 H2 fun b H3 =>
        if b = true then te σ2 H3 fun y H4 => ∃ acc, H4 D = some (.lst acc) ∧ acc.length < sizeLine ∧ Nx (upd H4 D (.lst (acc ++ [y]))) else Nx H3) := by
  have nbD : b ≠ D := hB.nb hD
  have nlD : l ≠ D := hB.nl hD
  refine lc_range (fun i H => ∃ cs : List Nat, cs.length = i ∧ (∀ c ∈ cs, p c) ∧ H D = some (.lst ((cs.map fun c => SX.S [c]).map V.str)) ∧ Kp (fun a => a = b) H1 H ∧ BoxAt H b l) ?_ ?_ ?_
  · exact ⟨[], rfl, fun _ h => (nomatch h), upd_same, Kp.same (same_new hD), hB.same (same_new hD)⟩
  · rintro i H hi ⟨cs, hl, hp, hc, k, B⟩
    refine ⟨hw _, tyes ?_⟩
    refine he i H _ hi B fun c H' pc k' B' => ?_
    refine ⟨_, k' _ _ nbD.symm hc, by
      rw [List.length_map, List.length_map, hl, sizeLine_eq]
      omega, cs ++ [c], by rw [List.length_append, hl]; rfl, fun x hx => ?_, ?_, ?_, ?_⟩
    · rcases List.mem_append.mp hx with q | q
      · exact hp x q
      · rw [List.mem_singleton.mp q]
        exact pc
    · rw [upd_same, List.map_append, List.map_append]
      rfl
    · intro a o na e
      rw [upd_ne (ne_of_none e hD)]
      exact k' _ _ na (k _ _ na e)
    · exact B'.kp (S := fun a => a = D) kp_put nbD nlD
  · rintro H ⟨cs, hl, hp, hc, k, B⟩
    exact hd cs H hl hp k B hc
end FF
/-! Signs, texts, names, cuts that are drawn. -/
namespace FF
open PySem PySem.Spec PyProof.Rows L2
def signs : Str := Str.ofString " !\"#$&'()*+,-./0123456789:;<=>?@ABCDEFGHIJKLMNOPQRSTUVWXYZ[\\]^_`" ++ Str.ofString "abcdefghijklmnopqrstuvwxyz{|}~"
theorem signs_len : signs.cps.toList.length = 94 := by decide +kernel
theorem signs_ok : ∀ c ∈ signs.cps.toList, 32 ≤ c ∧ c ≤ 126 := by decide +kernel
/-- a sign -/
def spSign : Sp := fun vs H Q _ => ∃ n : Int, vs = [.int n] ∧ ∀ c : Nat, 32 ≤ c ∧ c ≤ 126 → Q (.str (SX.S [c])) H
section
variable {P : Program} {w : World} {K : PySem.W.Frag} {mg : Str → Option Value} {base : Heap}
theorem c_sign (T : Fx K mg) : C8.Cal P w K mg base 1 "_law_sign" spSign [] := by
  refine calN T.d_l_sign T.g_l_sign sc_l_sign (fun vs H Q E h => ?_) (fun _ _ _ _ _ _ us hl => match us, hl with | [_], _ => rfl) (fun cdv A outer s H vs Q E hr h => ?_)
  · obtain ⟨n, rfl, _⟩ := h
    rfl
  · obtain ⟨n, rfl, k⟩ := h
    have nd := sc_l_sign.nd
    refine ⟨_, pss_cons (ps_set (i := 1) nd rfl (Or.inl rfl) pe_str) (pss_cons (ps_set (i := 1) nd rfl (Or.inl rfl) (pe_op op_add_str (pv 1) pe_str))
      (pss_one (ps_ret (ixs' (pv 1) (pe_op op_mod (pe_callTy call_int1 (by rfl) T.z_int (by decide +kernel) (pa_cons (pv 0) pa_nil)) (pe_callB call_len (by rfl) T.z_len PySem.boot_len (pa_cons (pv 1) pa_nil))))))), ?_⟩
    refine ⟨_, rfl, _, _, rfl, rfl, (by decide +kernel), ?_⟩
    refine ⟨_, rfl, _, rfl, .inl ⟨_, rfl, ?_⟩⟩
    refine ⟨_, rfl, _, 94, rfl, ⟨by decide +kernel, by decide +kernel⟩, _, _, rfl, rfl, (by show (0 : Int) < 94; decide), ?_⟩
    obtain ⟨c, hc, hp⟩ := pick signs_len signs_ok (Int.emod_nonneg n (show (94 : Int) ≠ 0 by decide)) (Int.emod_lt_of_pos n (show (0 : Int) < 94 by decide))
    exact ⟨_, _, c, rfl, rfl, (by decide +kernel), hc, k c hp⟩

/-- a text -/
def spText : Sp := fun vs H Q _ => ∃ (b l : Addr), vs = [.ref b] ∧ BoxAt H b l ∧ ∀ (z : Str) (H' : Hp), IsTx z → Kp (fun a => a = b) H H' → BoxAt H' b l → Q (.str z) H'
theorem c_text (T : Fx K mg) : C8.Cal P w K mg base 2 "_law_text" spText [] := by
  have cD : C8.Cal P w K mg base 1 "_law_draw" spDraw [] := c_draw T
  have cS : C8.Cal P w K mg base 1 "_law_sign" spSign [] := c_sign T
  refine calN T.d_l_text T.g_l_text sc_l_text (fun vs H Q E h => ?_) (fun _ _ _ _ _ _ us hl => match us, hl with | [_], _ => rfl) (fun cdv A outer s H vs Q E hr h => ?_)
  · obtain ⟨b, l, rfl, _⟩ := h
    rfl
  · obtain ⟨b, l, rfl, hB, k⟩ := h
    have nd := sc_l_text.nd
    refine ⟨_, pss_cons (ps_set (i := 1) nd rfl (Or.inl rfl) (C8.pe_c cD hr (Nat.le_refl _) (by rfl) (pa_cons (pv 0) (pa_cons pe_int pa_nil))))
      (pss_cons (ps_if (pt_cmpR op_eq (pv 1) pe_int (nomark _))
        (pss_cons (ps_set (i := 2) nd rfl (Or.inl rfl) (pe_join pe_str (pe_lc (own := [("_law_k", 3)]) (g := gName 3) (tt := tYes) rfl nd (pi_range1 rfl T.z_range (pa_cons (pe_op op_add pe_int (C8.pe_c cD hr (Nat.le_refl _) (by rfl) (pa_cons (pv 0) (pa_cons pe_int pa_nil)))) pa_nil))
            (blkOk_by (own := [("_law_k", 3)]) (N := ["_law_box_here", "_law_size", "_law_unit", "_law_k"]) (sc := defScope s_l_text) (by decide +kernel)) (fun _ _ _ _ _ => pg_name (i := 3) nd rfl (Or.inl rfl)) (fun _ _ _ _ _ => pts_nil)
            (fun _ _ _ _ _ => C8.pe_c cS hr (Nat.le_refl _) (by rfl) (pa_cons (C8.pe_c cD hr (Nat.le_refl _) (by rfl) (pa_cons (pv 0) (pa_cons pe_int pa_nil))) pa_nil)))))
          (pss_one (ps_ret (pe_slice C8.sl_txt (pe_op op_mulS (pv 2) pe_int) po_none (po_some (pe_op op_sub pe_int (C8.pe_c cD hr (Nat.le_refl _) (by rfl) (pa_cons (pv 0) (pa_cons pe_int pa_nil)))))))))
        pss_nil)
      (pss_one (ps_ret (pe_join pe_str (pe_lc (own := [("_law_k", 3)]) (g := gName 3) (tt := tYes) rfl nd (pi_range1 rfl T.z_range (pa_cons (pe_op op_mod (pe_callTy call_int1 (by rfl) T.z_int (by decide +kernel) (pa_cons (pv 1) pa_nil)) pe_int) pa_nil))
            (blkOk_by (own := [("_law_k", 3)]) (N := ["_law_box_here", "_law_size", "_law_unit", "_law_k"]) (sc := defScope s_l_text) (by decide +kernel)) (fun _ _ _ _ _ => pg_name (i := 3) nd rfl (Or.inl rfl)) (fun _ _ _ _ _ => pts_nil)
            (fun _ _ _ _ _ => C8.pe_c cS hr (Nat.le_refl _) (by rfl) (pa_cons (C8.pe_c cD hr (Nat.le_refl _) (by rfl) (pa_cons (pv 0) (pa_cons pe_int pa_nil))) pa_nil))))))), ?_⟩
    refine ⟨_, rfl, b, l, 16, rfl, hB, by decide, by decide, fun d1 H1 _ _ k1 B1 => ?_⟩
    refine ⟨_, rfl, rfl, _, rfl, ?_⟩
    refine ite2 (fun h1 => ?_) (fun h1 => ?_)
    · refine ⟨⟨_, rfl⟩, _, rfl, b, l, 3, rfl, B1, by decide, by decide, fun d2 H2 g2 g3 k2 B2 => ?_⟩
      refine ⟨_, _, rfl, rfl, _, rfl, by omega, by omega, fun D hD => ?_⟩
      refine lc_text (K := K) (b := b) (l := l) (fun c => 32 ≤ c ∧ c ≤ 126) B2 hD (by omega) (fun _ => rfl) (fun _ H Q _ B q => ⟨_, rfl, b, l, 94, rfl, B, by decide, by decide, fun d H' _ _ kd Bd => ⟨_, rfl, fun c hc => q c H' hc kd Bd⟩⟩) fun cs H3 hl hp k3 B3 hc => ?_
      refine ⟨_, D, _, rfl, rfl, .inl (SqL.of hc), join_fit (by omega), ?_⟩
      rw [join_one]
      have hcs : cs.length ≤ 3 := by omega
      have hne : cs ≠ [] := fun z => by
        rw [z] at hl
        have : (0 : Nat) = (1 + d2).toNat := hl
        omega
      obtain ⟨L, em, hL, hpL⟩ := mul_all (n := 200) (by decide) hne hp
      refine ⟨_, rfl, _, _, rfl, rfl, mul_ok (n := 200) (by decide) (by omega), ?_⟩
      refine ⟨_, rfl, b, l, 2, rfl, B3, by decide, by decide, fun d4 H4 g4 g5 k4 B4 => ?_⟩
      refine ⟨_, _, rfl, rfl, _, rfl, _, congrArg V.str em, by
        rw [SX.S_len, sizeLine_eq]
        omega, ?_⟩
      rw [SX.slice_to (by omega)]
      refine k _ _ ⟨?_, fun c hc => ?_⟩ (((k1.trans k2).trans k3).trans k4) B4
      · rw [S_tl', List.length_take]
        omega
      · rw [S_tl'] at hc
        exact hpL c (List.mem_of_mem_take hc)
    · refine ⟨⟨_, rfl⟩, _, rfl, .inl ⟨_, rfl, ?_⟩⟩
      have p1 := Int.emod_nonneg d1 (show (6 : Int) ≠ 0 by decide)
      have p2 := Int.emod_lt_of_pos d1 (show (0 : Int) < 6 by decide)
      refine ⟨_, _, rfl, rfl, (by show (0 : Int) < 6; decide), _, rfl, by omega, by omega, fun D hD => ?_⟩
      refine lc_text (K := K) (b := b) (l := l) (fun c => 32 ≤ c ∧ c ≤ 126) B1 hD (by omega) (fun _ => rfl) (fun _ H Q _ B q => ⟨_, rfl, b, l, 94, rfl, B, by decide, by decide, fun d H' _ _ kd Bd => ⟨_, rfl, fun c hc => q c H' hc kd Bd⟩⟩) fun cs H3 hl hp k3 B3 hc => ?_
      refine ⟨_, D, _, rfl, rfl, .inl (SqL.of hc), join_fit (by omega), ?_⟩
      rw [join_one]
      refine k _ _ ⟨?_, fun c hc => ?_⟩ (k1.trans k3) B3
      · rw [S_tl']
        omega
      · rw [S_tl'] at hc
        exact hp c hc
end
end FF
/-! Cuts, names. -/
namespace FF
open PySem PySem.Spec PyProof.Rows L2
def spCut : Sp := fun vs H Q _ => ∃ (b l : Addr) (z t : Int), vs = [.ref b, .int z, .int t] ∧ BoxAt H b l ∧ 0 ≤ z ∧ z + 2 ≤ t ∧ t < 100000 ∧ ∀ (m : Int) (H' : Hp), 0 ≤ m → m ≤ t → Kp (fun a => a = b) H H' → BoxAt H' b l → Q (.int m) H'
def letters : Str := Str.ofString "abcdefghijklmnopqrstuvwxyz"
theorem letters_len : letters.cps.toList.length = 26 := by decide +kernel
theorem letters_ok : ∀ c ∈ letters.cps.toList, 97 ≤ c ∧ c ≤ 122 := by decide +kernel
theorem ab_len : (Str.ofString "ab").cps.toList.length = 2 := by decide +kernel
theorem ab_ok : ∀ c ∈ (Str.ofString "ab").cps.toList, 97 ≤ c ∧ c ≤ 122 := by decide +kernel
theorem abcz_len : (Str.ofString "abcz").cps.toList.length = 4 := by decide +kernel
theorem abcz_ok : ∀ c ∈ (Str.ofString "abcz").cps.toList, 97 ≤ c ∧ c ≤ 122 := by decide +kernel
/-- a stem: up to seven letters -/
def IsSt (L : List Nat) : Prop := L.length ≤ 7 ∧ ∀ c ∈ L, 97 ≤ c ∧ c ≤ 122
def spName : Sp := fun vs H Q _ => ∃ (b l : Addr) (L : List Nat) (y : Int), vs = [.ref b, .str (SX.S L), .int y] ∧ BoxAt H b l ∧ IsSt L ∧ ∀ (z : Str) (H' : Hp), IsNm z → Kp (fun a => a = b) H H' → BoxAt H' b l → Q (.str z) H'
section
variable {P : Program} {w : World} {K : PySem.W.Frag} {mg : Str → Option Value} {base : Heap}
theorem c_cut (T : Fx K mg) : C8.Cal P w K mg base 2 "_law_cut" spCut [] := by
  have cD : C8.Cal P w K mg base 1 "_law_draw" spDraw [] := c_draw T
  refine calN T.d_l_cut T.g_l_cut sc_l_cut (fun vs H Q E h => ?_) (fun _ _ _ _ _ _ us hl => match us, hl with | [_, _, _], _ => rfl) (fun cdv A outer s H vs Q E hr h => ?_)
  · obtain ⟨b, l, z, t, rfl, _⟩ := h
    rfl
  · obtain ⟨b, l, z, t, rfl, hB, h0, h1, h2, k⟩ := h
    have nd := sc_l_cut.nd
    refine ⟨_, pss_cons (ps_set (i := 3) nd rfl (Or.inl rfl) (C8.pe_c cD hr (Nat.le_refl _) (by rfl) (pa_cons (pv 0) (pa_cons pe_int pa_nil))))
      (pss_cons (ps_if (pt_cmpR op_lt (pv 3) pe_int (nomark _)) (pss_one (ps_ret (pv 2))) pss_nil)
      (pss_cons (ps_if (pt_cmpR op_eq (pv 3) pe_int (nomark _)) (pss_one (ps_ret (pe_op op_sub (pv 2) pe_int))) pss_nil)
      (pss_cons (ps_if (pt_cmpR op_eq (pv 3) pe_int (nomark _)) (pss_one (ps_ret (pe_op op_add (pe_op op_add (pv 1) pe_int) (C8.pe_c cD hr (Nat.le_refl _) (by rfl) (pa_cons (pv 0) (pa_cons (pe_op op_sub (pv 2) (pv 1)) pa_nil)))))) pss_nil)
      (pss_one (ps_ret (C8.pe_c cD hr (Nat.le_refl _) (by rfl) (pa_cons (pv 0) (pa_cons (pe_op op_add (pv 2) pe_int) pa_nil)))))))), ?_⟩
    refine ⟨_, rfl, b, l, 6, rfl, hB, by decide, by decide, fun d1 H1 _ _ k1 B1 => ?_⟩
    refine ⟨_, rfl, _, _, rfl, rfl, _, rfl, ?_⟩
    refine ite2 (fun _ => ?_) (fun _ => ?_)
    · exact ⟨_, rfl, k _ _ (by omega) (by omega) k1 B1⟩
    refine ⟨_, rfl, rfl, _, rfl, ?_⟩
    refine ite2 (fun _ => ?_) (fun _ => ?_)
    · exact ⟨_, rfl, _, _, rfl, rfl, k _ _ (by omega) (by omega) k1 B1⟩
    refine ⟨_, rfl, rfl, _, rfl, ?_⟩
    refine ite2 (fun _ => ?_) (fun _ => ?_)
    · refine ⟨_, rfl, _, _, rfl, rfl, _, rfl, _, rfl, _, rfl, _, _, rfl, rfl, b, l, _, rfl, B1, by omega, by omega, fun d2 H2 g1 g2 k2 B2 => ?_⟩
      exact ⟨_, _, rfl, rfl, k _ _ (by omega) (by omega) (k1.trans k2) B2⟩
    · refine ⟨_, rfl, _, rfl, _, _, rfl, rfl, b, l, _, rfl, B1, by omega, by omega, fun d2 H2 g1 g2 k2 B2 => ?_⟩
      exact k _ _ (by omega) (by omega) (k1.trans k2) B2
theorem c_name (T : Fx K mg) : C8.Cal P w K mg base 2 "_law_name" spName [] := by
  have cD : C8.Cal P w K mg base 1 "_law_draw" spDraw [] := c_draw T
  refine calN T.d_l_name T.g_l_name sc_l_name (fun vs H Q E h => ?_) (fun _ _ _ _ _ _ us hl => match us, hl with | [_, _, _], _ => rfl) (fun cdv A outer s H vs Q E hr h => ?_)
  · obtain ⟨b, l, L, y, rfl, _⟩ := h
    rfl
  · obtain ⟨b, l, L, y, rfl, hB, ⟨hL, hLp⟩, k⟩ := h
    have nd := sc_l_name.nd
    refine ⟨_, pss_cons (ps_set (i := 3) nd rfl (Or.inr rfl) pe_str)
      (pss_cons (ps_if (pt_cmpR op_eq (pv 2) pe_int (nomark _))
        (pss_one (ps_ret (pe_join pe_str (pe_lc (own := [("_law_k", 4)]) (g := gName 4) (tt := tYes) rfl nd (pi_range1 rfl T.z_range (pa_cons (pe_op op_add pe_int (C8.pe_c cD hr (Nat.le_refl _) (by rfl) (pa_cons (pv 0) (pa_cons pe_int pa_nil)))) pa_nil))
            (blkOk_by (own := [("_law_k", 4)]) (N := ["_law_box_here", "_law_stem", "_law_way", "_law_letters", "_law_k", "_law_place"]) (sc := defScope s_l_name) (by decide +kernel)) (fun _ _ _ _ _ => pg_name (i := 4) nd rfl (Or.inl rfl)) (fun _ _ _ _ _ => pts_nil)
            (fun _ _ _ _ _ => ixs' (pv 3) (C8.pe_c cD hr (Nat.le_refl _) (by rfl) (pa_cons (pv 0) (pa_cons pe_int pa_nil))))))))
        pss_nil)
      (pss_cons (ps_if (pt_cmpR op_eq (pv 2) pe_int (nomark _))
        (pss_one (ps_ret (pe_join pe_str (pe_lc (own := [("_law_k", 4)]) (g := gName 4) (tt := tYes) rfl nd (pi_range1 rfl T.z_range (pa_cons (pe_op op_add pe_int (C8.pe_c cD hr (Nat.le_refl _) (by rfl) (pa_cons (pv 0) (pa_cons pe_int pa_nil)))) pa_nil))
            (blkOk_by (own := [("_law_k", 4)]) (N := ["_law_box_here", "_law_stem", "_law_way", "_law_letters", "_law_k", "_law_place"]) (sc := defScope s_l_name) (by decide +kernel)) (fun _ _ _ _ _ => pg_name (i := 4) nd rfl (Or.inl rfl)) (fun _ _ _ _ _ => pts_nil)
            (fun _ _ _ _ _ => ixs' pe_str (C8.pe_c cD hr (Nat.le_refl _) (by rfl) (pa_cons (pv 0) (pa_cons pe_int pa_nil))))))))
        pss_nil)
      (pss_cons (ps_set (i := 5) nd rfl (Or.inl rfl) (C8.pe_c cD hr (Nat.le_refl _) (by rfl) (pa_cons (pv 0) (pa_cons (pe_op op_add (pe_callB call_len (by rfl) T.z_len PySem.boot_len (pa_cons (pv 1) pa_nil)) pe_int) pa_nil))))
      (pss_one (ps_ret (pe_op op_add_str (pe_op op_add_str (pe_slice C8.sl_txt (pv 1) po_none (po_some (pv 5))) (ixs' (pv 3) (C8.pe_c cD hr (Nat.le_refl _) (by rfl) (pa_cons (pv 0) (pa_cons pe_int pa_nil))))) (pe_slice C8.sl_txt (pv 1) (po_some (pv 5)) po_none))))))), ?_⟩
    have fin : ∀ cs : List Nat, 1 ≤ cs.length → cs.length ≤ 8 → (∀ c ∈ cs, 97 ≤ c ∧ c ≤ 122) → IsNm (SX.S cs) := fun cs h1 h2 h3 => ⟨by rw [S_tl']; exact h1, by rw [S_tl']; exact h2, fun c hc => h3 c (by rwa [S_tl'] at hc)⟩
    refine ⟨_, rfl, rfl, _, rfl, ?_⟩
    refine ite2 (fun _ => ?_) (fun _ => ?_)
    · refine ⟨⟨_, rfl⟩, _, rfl, b, l, 8, rfl, hB, by decide, by decide, fun d1 H1 g1 g2 k1 B1 => ?_⟩
      refine ⟨_, _, rfl, rfl, _, rfl, by omega, by omega, fun D hD => ?_⟩
      refine lc_text (K := K) (b := b) (l := l) (fun c => 97 ≤ c ∧ c ≤ 122) B1 hD (by omega) (fun _ => rfl) (fun _ H Q _ B q => ⟨_, rfl, _, rfl, b, l, 26, rfl, B, by decide, by decide, fun d H' e1 e2 kd Bd => ?_⟩) fun cs H3 hl hp k3 B3 hc => ?_
      · obtain ⟨c, hc, hp⟩ := pick letters_len letters_ok e1 e2
        exact ⟨_, _, c, rfl, rfl, (by decide +kernel), hc, q c H' hp kd Bd⟩
      · refine ⟨_, D, _, rfl, rfl, .inl (SqL.of hc), join_fit (by omega), ?_⟩
        rw [join_one]
        exact k _ _ (fin cs (by omega) (by omega) hp) (k1.trans k3) B3
    refine ⟨_, rfl, rfl, _, rfl, ?_⟩
    refine ite2 (fun _ => ?_) (fun _ => ?_)
    · refine ⟨⟨_, rfl⟩, _, rfl, b, l, 8, rfl, hB, by decide, by decide, fun d1 H1 g1 g2 k1 B1 => ?_⟩
      refine ⟨_, _, rfl, rfl, _, rfl, by omega, by omega, fun D hD => ?_⟩
      refine lc_text (K := K) (b := b) (l := l) (fun c => 97 ≤ c ∧ c ≤ 122) B1 hD (by omega) (fun _ => rfl) (fun _ H Q _ B q => ⟨_, rfl, b, l, 2, rfl, B, by decide, by decide, fun d H' e1 e2 kd Bd => ?_⟩) fun cs H3 hl hp k3 B3 hc => ?_
      · obtain ⟨c, hc, hp⟩ := pick ab_len ab_ok e1 e2
        exact ⟨_, _, c, rfl, rfl, (by decide +kernel), hc, q c H' hp kd Bd⟩
      · refine ⟨_, D, _, rfl, rfl, .inl (SqL.of hc), join_fit (by omega), ?_⟩
        rw [join_one]
        exact k _ _ (fin cs (by omega) (by omega) hp) (k1.trans k3) B3
    have sl : (SX.S L).length = L.length := SX.S_len L
    have fit : (SX.S L).length ≤ sizeLine := by
      rw [sl, sizeLine_eq]
      omega
    refine ⟨_, rfl, _, rfl, _, _, rfl, ⟨fit, rfl⟩, _, _, rfl, rfl, b, l, _, rfl, hB, by omega, by omega, fun d1 H1 g1 g2 k1 B1 => ?_⟩
    refine ⟨_, rfl, _, rfl, _, rfl, _, rfl, fit, _, rfl, _, rfl, b, l, 26, rfl, B1, by decide, by decide, fun d2 H2 g3 g4 k2 B2 => ?_⟩
    obtain ⟨c, hc, hp⟩ := pick letters_len letters_ok g3 g4
    refine ⟨_, _, c, rfl, rfl, (by decide +kernel), hc, ?_⟩
    rw [SX.slice_to g1]
    refine ⟨_, _, rfl, rfl, ?_, _, rfl, _, rfl, _, rfl, _, rfl, fit, _, _, rfl, rfl, ?_, ?_⟩
    · rw [SX.S_len, List.length_take, sizeLine_eq]
      show _ + 1 ≤ _
      omega
    · rw [SX.slice_from g1, SX.S_len, sizeLine_eq]
      show (SX.S _ ++ SX.S [c]).length + _ ≤ _
      rw [SX.S_cat, SX.S_len, SX.S_len, List.length_append, List.length_take, List.length_drop]
      show _ + 1 + _ ≤ _
      omega
    · rw [SX.slice_from g1]
      have e : SX.S (L.take d1.toNat) ++ ⟨#[c]⟩ ++ SX.S (L.drop d1.toNat) = SX.S (L.take d1.toNat ++ [c] ++ L.drop d1.toNat) := by
        show SX.S (L.take d1.toNat) ++ SX.S [c] ++ SX.S (L.drop d1.toNat) = _
        rw [SX.S_cat, SX.S_cat]
      rw [e]
      refine k _ _ (fin _ ?_ ?_ fun x hx => ?_) (k1.trans k2) B2
      · rw [List.length_append, List.length_append, List.length_singleton]
        omega
      · rw [List.length_append, List.length_append, List.length_singleton, List.length_take, List.length_drop]
        omega
      · rcases List.mem_append.mp hx with z | z
        · rcases List.mem_append.mp z with z | z
          · exact hLp x (List.mem_of_mem_take z)
          · rw [List.mem_singleton.mp z]
            exact hp
        · exact hLp x (List.mem_of_mem_drop z)
end
end FF
/-! The names of a world. -/
namespace FF
open PySem PySem.Spec PyProof.Rows L2
theorem inV_strs (z : Str) (ns : List Str) : inV (.str z) (ns.map V.str) = decide (z ∈ ns) := by
  unfold inV
  rw [List.any_map]
  induction ns with
  | nil => rfl
  | cons n ns ih =>
    rw [List.any_cons, ih]
    show (eqV (.str n) (.str z) || decide (z ∈ ns)) = decide (z ∈ n :: ns)
    have e : eqV (.str n) (.str z) = decide (z = n) := by
      by_cases q : z = n
      · subst q
        simp [eqV]
      · simp [eqV, q, Ne.symm q]
    rw [e]
    by_cases q : z = n
    · simp [q]
    · simp [q]
theorem flat_strs (ns : List Str) : (ns.map V.str).all flatV = true := List.all_eq_true.mpr fun x hx => by
  obtain ⟨n, _, e⟩ := List.mem_map.mp hx
  rw [← e]
  rfl
theorem nd_le {α : Type} [DecidableEq α] : ∀ {A B : List α}, A.Nodup → (∀ a ∈ A, a ∈ B) → A.length ≤ B.length
  | [], _, _, _ => Nat.zero_le _
  | a :: A, B, hn, h => by
    obtain ⟨n1, n2⟩ := List.nodup_cons.mp hn
    have ha := h a List.mem_cons_self
    have ih := nd_le (A := A) (B := B.erase a) n2 fun x hx => (List.mem_erase_of_ne (show x ≠ a from fun z => n1 (z ▸ hx))).mpr (h x (List.mem_cons_of_mem _ hx))
    rw [List.length_erase_of_mem ha] at ih
    have := List.length_pos_of_mem ha
    rw [List.length_cons]
    omega
def abm : Str := Str.ofString "abcdefghijklm"
theorem abm_len : abm.cps.toList.length = 13 := by decide +kernel
theorem abm_ok : ∀ c ∈ abm.cps.toList, 97 ≤ c ∧ c ≤ 122 := by decide +kernel
theorem abm_nod : abm.cps.toList.Nodup := by decide +kernel
/-- a letter that is no name yet -/
theorem free_letter {ns : List Str} (h : ns.length < 13) : ∃ c r, (abm.cps.toList.filter fun c => decide (SX.S [c] ∉ ns)) = c :: r ∧ SX.S [c] ∉ ns ∧ 97 ≤ c ∧ c ≤ 122 := by
  cases e : abm.cps.toList.filter fun c => decide (SX.S [c] ∉ ns) with
  | nil =>
    exfalso
    have all : ∀ c ∈ abm.cps.toList, SX.S [c] ∈ ns := fun c hc => by
      have := List.filter_eq_nil_iff.mp e c hc
      simpa using this
    have nd : (abm.cps.toList.map fun c => SX.S [c]).Nodup := List.Pairwise.map _ (fun a b hab z => hab (by
      have := SX.S_inj z
      injection this)) abm_nod
    have := nd_le nd (B := ns) fun x hx => by
      obtain ⟨c, hc, e⟩ := List.mem_map.mp hx
      rw [← e]
      exact all c hc
    rw [List.length_map, abm_len] at this
    omega
  | cons c r =>
    have hm : c ∈ abm.cps.toList.filter fun c => decide (SX.S [c] ∉ ns) := by
      rw [e]
      exact List.mem_cons_self
    obtain ⟨h1, h2⟩ := List.mem_filter.mp hm
    exact ⟨c, r, rfl, of_decide_eq_true h2, (abm_ok c h1).1, (abm_ok c h1).2⟩
theorem nm_one {c : Nat} (h : 97 ≤ c ∧ c ≤ 122) : IsNm (SX.S [c]) := ⟨by rw [S_tl']; exact Nat.le_refl _, by rw [S_tl']; show 1 ≤ 8; decide, fun x hx => by
  rw [S_tl'] at hx
  rw [List.mem_singleton.mp hx]
  exact h⟩
def spNames : Sp := fun vs H Q _ => ∃ (b l : Addr) (n : Nat), vs = [.ref b, .int n] ∧ BoxAt H b l ∧ n ≤ 12 ∧ ∀ (a : Addr) (ns : List Str) (H' : Hp), H a = none → H' a = some (.lst (ns.map V.str)) → ns.length = n → ns.Nodup → (∀ z ∈ ns, IsNm z) → Kp (fun a => a = b) H H' → BoxAt H' b l → Q (.ref a) H'
section
variable {P : Program} {w : World} {K : PySem.W.Frag} {mg : Str → Option Value} {base : Heap}
theorem c_names (T : Fx K mg) : C8.Cal P w K mg base 3 "_law_names" spNames [] := by
  have cD : C8.Cal P w K mg base 1 "_law_draw" spDraw [] := c_draw T
  have cN : C8.Cal P w K mg base 2 "_law_name" spName [] := c_name T
  refine calN T.d_l_names T.g_l_names sc_l_names (fun vs H Q E h => ?_) (fun _ _ _ _ _ _ us hl => match us, hl with | [_, _], _ => rfl) (fun cdv A outer s H vs Q E hr h => ?_)
  · obtain ⟨b, l, n, rfl, _⟩ := h
    rfl
  · obtain ⟨b, l, n, rfl, hB, hn, k⟩ := h
    have nd := sc_l_names.nd
    refine ⟨_, pss_cons (ps_set (i := 2) nd rfl (Or.inl rfl) (pe_join pe_str (pe_lc (own := [("_law_k", 3)]) (g := gName 3) (tt := tYes) rfl nd (pi_range1 rfl T.z_range (pa_cons (C8.pe_c cD hr (by decide) (by rfl) (pa_cons (pv 0) (pa_cons pe_int pa_nil))) pa_nil))
            (blkOk_by (own := [("_law_k", 3)]) (N := ["_law_box_here", "_law_many", "_law_stem", "_law_k", "_law_way", "_law_names_here", "_law_name_here", "_law_letter"]) (sc := defScope s_l_names) (by decide +kernel)) (fun _ _ _ _ _ => pg_name (i := 3) nd rfl (Or.inl rfl)) (fun _ _ _ _ _ => pts_nil)
            (fun _ _ _ _ _ => ixs' pe_str (C8.pe_c cD hr (by decide) (by rfl) (pa_cons (pv 0) (pa_cons pe_int pa_nil)))))))
      (pss_cons (ps_set (i := 4) nd rfl (Or.inl rfl) (C8.pe_c cD hr (by decide) (by rfl) (pa_cons (pv 0) (pa_cons pe_int pa_nil))))
      (pss_cons (ps_set (i := 5) nd rfl (Or.inr rfl) (pe_lst pa_nil))
      (pss_cons (ps_for PassesOwn.never rfl (pi_range1 rfl T.z_range (pa_cons (pv 1) pa_nil)) (pg_name (i := 3) nd rfl (Or.inl rfl))
        (pss_cons (ps_set (i := 6) nd rfl (Or.inl rfl) (C8.pe_c cN hr (by decide) (by rfl) (pa_cons (pv 0) (pa_cons (pv 2) (pa_cons (pv 4) pa_nil)))))
        (C8.pss_cut (ps_if (pt_cmpR op_in_seq (pv 6) (pv 5) (by rfl))
          (pss_one (ps_set (i := 6) nd rfl (Or.inl rfl) (ixl (pe_lc (own := [("_law_letter", 7)]) (g := gName 7) rfl nd (pi_str pe_str)
            (blkOk_by (own := [("_law_letter", 7)]) (N := ["_law_box_here", "_law_many", "_law_stem", "_law_k", "_law_way", "_law_names_here", "_law_name_here", "_law_letter"]) (sc := defScope s_l_names) (by decide +kernel)) (fun _ _ _ _ _ => pg_name (i := 7) nd rfl (Or.inl rfl))
            (fun _ _ _ _ _ => pts_one (pt_cmpR (op_notInK (K := K) rfl) (pv 7) (pv 5) (by rfl))) (fun _ _ _ _ _ => pv 7)) pe_int)))
          pss_nil)
        (pss_one (ps_expr (pe_bm PySem.F.plainAttrs_list PySem.F.slot_list_append PySem.F.type_list_append mt_append (pv 5) (pa_cons (pv 6) pa_nil)))))))
      (pss_one (ps_ret (pv 5)))))), ?_⟩
    refine ⟨⟨_, rfl⟩, _, rfl, b, l, 8, rfl, hB, by decide, by decide, fun d1 H1 g1 g2 k1 B1 => ?_⟩
    refine ⟨_, rfl, by omega, by omega, fun D hD => ?_⟩
    refine lc_text (K := K) (b := b) (l := l) (fun c => 97 ≤ c ∧ c ≤ 122) B1 hD (by omega) (fun _ => rfl) (fun _ H Q _ B q => ⟨_, rfl, b, l, 4, rfl, B, by decide, by decide, fun d H' e1 e2 kd Bd => ?_⟩) fun cs H2 hl hp k2 B2 hc => ?_
    · obtain ⟨c, hc, hp⟩ := pick abcz_len abcz_ok e1 e2
      exact ⟨_, _, c, rfl, rfl, (by decide +kernel), hc, q c H' hp kd Bd⟩
    refine ⟨_, D, _, rfl, rfl, .inl (SqL.of hc), join_fit (by omega), ?_⟩
    rw [join_one]
    refine ⟨_, rfl, b, l, 3, rfl, B2, by decide, by decide, fun d3 H3 g3 g4 k3 B3 => ?_⟩
    refine ⟨Nat.zero_le _, alloc fun a H4 s4 n4 e4 => ?_⟩
    have B4 := B3.same s4
    have ab : a ≠ b := (B3.nb n4).symm
    have kH : Kp (fun a => a = b) H H4 := ((k1.trans k2).trans k3).trans (Kp.same s4)
    refine ⟨_, rfl, _, rfl, by omega, by omega, for_range (lo := 0) (n := n) (fun i σ H' => ∃ (ns : List Str) (y6 y3 y7 : Option V), σ = [some (.ref b), some (.int n), some (.str (SX.S cs)), y3, some (.int d3), some (.ref a), y6, y7] ∧ H' a = some (.lst (ns.map V.str)) ∧ ns.length = i ∧ ns.Nodup ∧ (∀ z ∈ ns, IsNm z) ∧ Kp (fun x => x = b ∨ x = a) H4 H' ∧ BoxAt H' b l)
      ⟨[], none, none, none, rfl, e4, rfl, List.nodup_nil, fun _ h => (nomatch h), Kp.refl, B4⟩ ?_ ?_⟩
    · rintro i σ H5 hi ⟨ns, y6, y3, y7, rfl, e5, hl5, nd5, nm5, k5, B5⟩
      refine ⟨_, rfl, _, rfl, _, rfl, b, l, cs, d3, rfl, B5, ⟨by omega, hp⟩, fun z H6 hz k6 B6 => ?_⟩
      have e6 := k6 _ _ ab e5
      have k6' : Kp (fun x => x = b ∨ x = a) H4 H6 := k5.trans (k6.mono fun x hx => .inl hx)
      -- behind the if: a name that is new
      refine ⟨fun σ H7 => ∃ (z : Str) (y7 : Option V), σ = [some (.ref b), some (.int n), some (.str (SX.S cs)), some (.int (0 + i)), some (.int d3), some (.ref a), some (.str z), y7] ∧ H7 a = some (.lst (ns.map V.str)) ∧ z ∉ ns ∧ IsNm z ∧ Kp (fun x => x = b ∨ x = a) H4 H7 ∧ BoxAt H7 b l, ?_, ?_⟩
      · refine ⟨_, rfl, _, rfl, a, _, rfl, .inl (SqL.of e6), rfl, flat_strs ns, _, rfl, ?_⟩
        show if inV (.str z) (ns.map V.str) = true then _ else _
        rw [inV_strs]
        refine ite2 (fun h1 => ?_) (fun h1 => ?_)
        · refine ⟨_, rfl, fun E hE => ?_⟩
          have neE : a ≠ E := ne_of_none e6 hE
          refine lc_it walk_str (fun j H' => ∃ cs' : List Nat, H' E = some (.lst ((cs'.map fun c => SX.S [c]).map V.str)) ∧ cs' = (abm.cps.toList.take j).filter (fun c => decide (SX.S [c] ∉ ns)) ∧ Same H6 H') ⟨[], upd_same, by simp, same_new hE⟩ (fun _ _ _ _ => trivial) ?_ ?_
          · rintro j x H' H'' hj ⟨cs', c1, c2, c3⟩ ⟨rfl, c, hc, rfl⟩
            have hcl : abm.cps.toList[j]? = some c := by
              rw [Array.getElem?_toList]
              exact hc
            have tk : abm.cps.toList.take (j + 1) = abm.cps.toList.take j ++ [c] := by
              rw [List.take_add_one, hcl]
              rfl
            refine ⟨rfl, _, rfl, _, rfl, a, _, rfl, .inl (SqL.of (c3 _ _ e6)), rfl, flat_strs ns, _, rfl, ?_⟩
            show if (!inV (.str (SX.S [c])) (ns.map V.str)) = true then _ else _
            rw [inV_strs]
            by_cases q : SX.S [c] ∈ ns
            · rw [decide_eq_true q]
              refine iteF ⟨cs', c1, ?_, c3⟩
              rw [tk, List.filter_append, c2]
              simp [q]
            · rw [decide_eq_false q]
              refine iteT ⟨_, rfl, _, c1, ?_, cs' ++ [c], ?_, ?_, ?_⟩
              · rw [List.length_map, List.length_map, c2, sizeLine_eq]
                refine Nat.lt_of_le_of_lt (List.length_filter_le _ _) ?_
                rw [List.length_take, abm_len]
                omega
              · rw [upd_same, List.map_append, List.map_append]
                rfl
              · rw [tk, List.filter_append, c2]
                simp [q]
              · intro x o e
                rw [upd_ne (ne_of_none e hE)]
                exact c3 _ _ e
          · rintro H' ⟨cs', c1, c2, c3⟩
            rw [List.take_of_length_le (by rw [Array.length_toList]; exact Nat.le_refl _)] at c2
            obtain ⟨c, r, q1, q2, q3, q4⟩ := free_letter (ns := ns) (by omega)
            rw [q1] at c2
            subst c2
            refine ⟨E, _, _, .str (SX.S [c]), rfl, rfl, SqL.of c1, atI_nat (j := 0) rfl, SX.S [c], _, rfl, c3 _ _ e6, q2, nm_one ⟨q3, q4⟩, k6'.trans (Kp.same c3), B6.same c3⟩
        · exact ⟨z, _, rfl, e6, fun q => h1 (decide_eq_true q), hz, k6', B6⟩
      · rintro σ H7 ⟨z, y7, rfl, e7, hz, nz, k7, B7⟩
        refine ⟨_, rfl, .inl ⟨rfl, _, SqL.of e7⟩, _, rfl, a, _, _, rfl, rfl, e7, by
          rw [List.length_map, sizeLine_eq]
          omega, ?_⟩
        refine put fun H8 k8 e8 => ?_
        refine ⟨ns ++ [z], _, _, _, rfl, by rw [e8, List.map_append]; rfl, by rw [List.length_append, hl5]; rfl, nd_snoc nd5 hz, fun x hx => ?_, k7.trans (k8.mono fun x hx => .inr hx), B7.kp k8 ab.symm (by
          obtain ⟨_, _, _, _, _, _, z2, _⟩ := B4
          exact fun q => absurd (q ▸ B3.nl n4) (by simp))⟩
        rcases List.mem_append.mp hx with q | q
        · exact nm5 x q
        · rw [List.mem_singleton.mp q]
          exact nz
    · rintro σ H5 ⟨ns, y6, y3, y7, rfl, e5, hl5, nd5, nm5, k5, B5⟩
      refine ⟨_, rfl, k a ns H5 ?_ e5 hl5 nd5 nm5 ?_ B5⟩
      · exact ((k1.trans k2).trans k3).free ab n4
      · refine Kp.mono' (kH.mono (S' := fun x => x = b ∨ x = a) (fun x hx => .inl hx) |>.trans k5) fun x hx => ?_
        rcases hx with hx | hx
        · exact .inl hx
        · exact .inr (hx ▸ ((k1.trans k2).trans k3).free ab n4)
end
end FF
/-! Sorting data; ways as texts; trees as data. -/
namespace FF
open PySem PySem.Spec PyProof.Rows L2

/-! ### sorted(xs), xs data that are alike -/
def rSortD (K : PySem.W.Frag) : List V → Hp → VK → Prop := fun vs H Q => ∃ (a : Addr) (zs : List (V × PyData)), vs = [V.ref a] ∧ SqL K H a (zs.map Prod.fst) ∧ DpAll K H (zs.map Prod.fst) (zs.map Prod.snd) ∧ PySem.W.AllAlike (zs.map Prod.snd) ∧ PySem.W.Sortable (zs.map Prod.snd) ∧
  (∀ z ∈ zs, z.2.depth ≤ 8) ∧ ∀ p, H p = none → Q (.ref p) (upd H p (.lst ((zs.mergeSort (PySem.W.dataLe false Prod.snd)).map Prod.fst)))
theorem each_vals : ∀ {zs : List (V × PyData)} {us : List Value}, Vals (zs.map Prod.fst) us → PySem.W.EachIs (fun u (b : V × PyData) => RelV b.1 u) us zs
  | [], _, .nil => .nil
  | _ :: _, _, .cons h t => .cons h (each_vals t)
theorem vals_each : ∀ {zs : List (V × PyData)} {us : List Value}, PySem.W.EachIs (fun u (b : V × PyData) => RelV b.1 u) us zs → Vals (zs.map Prod.fst) us
  | [], _, .nil => .nil
  | _ :: _, _, .cons h t => .cons h (vals_each t)
theorem each_reads {h : Heap} : ∀ {zs : List (V × PyData)} {us : List Value} {as : List Addr}, ReadsAll h us (zs.map Prod.snd) as → PySem.W.EachIs (fun u (b : V × PyData) => ∃ as, Reads h u b.2 as) us zs
  | [], _, _, .nil => .nil
  | _ :: _, _, _, .cons h t => .cons ⟨_, h⟩ (each_reads t)
theorem cr_sortD {X : Cx} (hu : X.A.units + 64 < cLine) : CallR X (.builtin "sorted") (rSortD X.K) := by
  intro pins s σ H vs us Q I r h
  obtain ⟨a, zs, rfl, hs, hd, hal, hso, hdp, q⟩ := h
  obtain ⟨its, rv, hl, hz⟩ := I.list hs
  rw [Vals.ref1 r]
  obtain ⟨as, hr⟩ := Dp.readsAll I _ _ _ hd rv
  have hlen : zs.length ≤ sizeLine := by rwa [List.length_map] at hz
  refine PySem.W.sorted_data (R := fun u (b : V × PyData) => RelV b.1 u) (enc := Prod.snd) (bs := zs) hl.isList (each_vals rv) (each_reads hr) hal hso hlen (fun b hb => by
    have := hdp b hb
    omega) fun out h1 h2 => ?_
  obtain ⟨ep, he'⟩ := PyProof.Rows.sortedAll_at s.heap its out.toArray
  refine ⟨.ref _, upd H (s.heap.objs.size + 1) (.lst ((zs.mergeSort (PySem.W.dataLe false Prod.snd)).map Prod.fst)), I.laid (t' := s.toks) (fun _ _ => PyProof.Rows.sortedAll_old) (Nat.le_succ _) ⟨?_, out, ep, vals_each h2, he'⟩, rfl, q _ (I.hok.fresh (Nat.le_succ _))⟩
  rw [List.length_map, (List.mergeSort_perm zs _).length_eq]
  exact hlen

/-! ### the order of names -/
def nlt (a b : Str) : Prop := a.cps.toList < b.cps.toList
instance (a b : Str) : Decidable (nlt a b) := inferInstanceAs (Decidable (a.cps.toList < b.cps.toList))
theorem nlt_irrefl (a : Str) : ¬ nlt a a := List.lt_irrefl _
theorem nlt_trans {a b c : Str} (h : nlt a b) (k : nlt b c) : nlt a c := List.lt_trans h k
theorem nlt_or {a b : Str} (h : a ≠ b) : nlt a b ∨ nlt b a := by
  by_cases q : nlt a b
  · exact .inl q
  · right
    have h1 : b.cps.toList ≤ a.cps.toList := List.not_lt.mp q
    by_cases z : nlt b a
    · exact z
    · have h2 : a.cps.toList ≤ b.cps.toList := List.not_lt.mp z
      exact absurd (PySem.W.str_of_cps (List.le_antisymm h2 h1)) h
/-- one list is sorted in one way -/
theorem sort_eq {α : Type} (f : α → Str) : ∀ {l m : List α}, l.Perm m → (l.map f).Nodup → l.Pairwise (fun a b => ¬ nlt (f b) (f a)) → m.Pairwise (fun a b => ¬ nlt (f b) (f a)) → l = m
  | [], m, p, _, _, _ => (List.nil_perm.mp p).symm
  | a :: l, [], p, _, _, _ => absurd p.length_eq (by simp)
  | a :: l, b :: m, p, hn, h1, h2 => by
    obtain ⟨n1, n2⟩ := List.nodup_cons.mp (show (f a :: l.map f).Nodup from hn)
    obtain ⟨a1, a2⟩ := List.pairwise_cons.mp h1
    obtain ⟨b1, b2⟩ := List.pairwise_cons.mp h2
    have e : a = b := by
      rcases List.mem_cons.mp (p.mem_iff.mp List.mem_cons_self : a ∈ b :: m) with q | q
      · exact q
      · rcases List.mem_cons.mp (p.mem_iff.mpr List.mem_cons_self : b ∈ a :: l) with z | z
        · exact z.symm
        · exfalso
          have ne : f a ≠ f b := fun w => n1 (w ▸ List.mem_map.mpr ⟨b, z, rfl⟩)
          rcases nlt_or ne with w | w
          · exact b1 a q w
          · exact a1 b z w
    subst e
    rw [sort_eq f (List.perm_cons a |>.mp p) n2 a2 b2]

/-! ### ways as texts -/
def chB (c : Bool) : Nat := if c then 49 else 48
theorem chB_inj {c d : Bool} (h : chB c = chB d) : c = d := by
  cases c <;> cases d <;> first | rfl | exact absurd h (by decide)
def wS (w : List Bool) : Str := SX.S (w.map chB)
theorem wS_tl (w : List Bool) : (wS w).cps.toList = w.map chB := S_tl' _
theorem map_inj {f : Bool → Nat} (hf : ∀ {c d}, f c = f d → c = d) : ∀ {v w : List Bool}, v.map f = w.map f → v = w
  | [], [], _ => rfl
  | [], _ :: _, h => by cases h
  | _ :: _, [], h => by cases h
  | a :: v, b :: w, h => by
    obtain ⟨h1, h2⟩ := List.cons.inj (show f a :: v.map f = f b :: w.map f from h)
    rw [hf h1, map_inj hf h2]
theorem wS_inj {v w : List Bool} (h : wS v = wS w) : v = w := map_inj chB_inj (SX.S_inj h)
theorem wS_iff {v w : List Bool} : wS v = wS w ↔ v = w := ⟨wS_inj, fun h => by rw [h]⟩
theorem wS_len (w : List Bool) : (wS w).length = w.length := by
  unfold wS
  rw [SX.S_len, List.length_map]
theorem wS_nil : Str.ofString "" = wS [] := by decide +kernel
theorem wS_0 (w : List Bool) : wS w ++ Str.ofString "0" = wS (w ++ [false]) := by
  have e : Str.ofString "0" = SX.S [48] := by decide +kernel
  unfold wS
  rw [e, SX.S_cat, List.map_append]
  rfl
theorem wS_1 (w : List Bool) : wS w ++ Str.ofString "1" = wS (w ++ [true]) := by
  have e : Str.ofString "1" = SX.S [49] := by decide +kernel
  unfold wS
  rw [e, SX.S_cat, List.map_append]
  rfl
theorem wS_c (w : List Bool) (c : Bool) : wS w ++ SX.S [chB c] = wS (w ++ [c]) := by
  unfold wS
  rw [SX.S_cat, List.map_append]
  rfl
theorem wS_take (w : List Bool) {k : Int} (h : 0 ≤ k) : Txt.slice (wS w) none (some k) = wS (w.take k.toNat) := by
  unfold wS
  rw [SX.slice_to h, List.map_take]
theorem wS_at {w : List Bool} {k : Nat} {c : Bool} (h : w[k]? = some c) : atI (wS w).cps.toList (k : Int) = some (chB c) := by
  rw [wS_tl]
  refine atI_nat ?_
  rw [List.getElem?_map, h]
  rfl
theorem wS_fit {w : List Bool} (h : w.length ≤ 1000) : (wS w).length ≤ sizeLine := by
  rw [wS_len, sizeLine_eq]
  omega

/-! ### trees as data -/
def tr (nm : List Bool → Str) : List Bool → Sh → PyData
  | f, .lf => .str (nm f)
  | f, .nd l r => .tuple [tr nm (f ++ [false]) l, tr nm (f ++ [true]) r]
def Sh.height : Sh → Nat
  | .lf => 0
  | .nd l r => max l.height r.height + 1
theorem Sh.height_ways : ∀ (s : Sh) (f : List Bool), s.height + 1 ≤ (s.ways f).length
  | .lf, f => Nat.le_refl _
  | .nd l r, f => by
    show max l.height r.height + 1 + 1 ≤ (l.ways _ ++ r.ways _).length
    rw [List.length_append]
    have h1 := Sh.height_ways l (f ++ [false])
    have h2 := Sh.height_ways r (f ++ [true])
    have h3 := Sh.ways_pos l (f ++ [false])
    have h4 := Sh.ways_pos r (f ++ [true])
    omega
end FF
/-! Rules whose new object's heap is named. -/
namespace FF
open PySem PySem.Spec PyProof.Rows L2
/-- a new object o is laid: it stands at p, all else is kept -/
def New (o : HO) (H : Hp) (Q : VK) : Prop := ∀ (p : Addr) (H1 : Hp), H p = Option.none → Same H H1 → H1 p = some o → Q (.ref p) H1
theorem New.all {o : HO} {H : Hp} {Q : VK} (h : New o H Q) : ∀ p, H p = Option.none → Q (.ref p) (upd H p o) := fun p n => h p _ n (same_new n) upd_same
theorem OpR.imp {X : Cx} {f : Value → Value → Sem Value} {r r' : R2} (h : OpR X f r) (k : ∀ x y H Q, r' x y H Q → r x y H Q) : OpR X f r' := fun pins s σ H x y v u Q I rx ry q => h pins s σ H x y v u Q I rx ry (k _ _ _ _ q)
theorem CallR.imp {X : Cx} {f : Value} {r r' : List V → Hp → VK → Prop} (h : CallR X f r) (k : ∀ xs H Q, r' xs H Q → r xs H Q) : CallR X f r' := fun pins s σ H xs us Q I rv q => h pins s σ H xs us Q I rv (k _ _ _ q)
theorem SlR.imp {X : Cx} {r r' : V → Option Int → Option Int → Hp → VK → Prop} (h : SlR X r) (k : ∀ x lo hi H Q, r' x lo hi H Q → r x lo hi H Q) : SlR X r' := fun pins s σ H x v vl vu lo hi sl Q I rx hs pl pu q => h pins s σ H x v vl vu lo hi sl Q I rx hs pl pu (k _ _ _ _ _ q)
section
variable {X : Cx} {es : List Expr} {pos : Pos} {t : TA}
def tTupN (t : TA) : TE := fun σ H Q => t σ H fun xs H1 => xs.length ≤ sizeLine ∧ New (.tup xs) H1 Q
def tLstN (t : TA) : TE := fun σ H Q => t σ H fun xs H1 => xs.length ≤ sizeLine ∧ New (.lst xs) H1 Q
theorem tupN {x1} (h : PA X es t) : PE X (.Tuple es x1 pos) (tTupN t) := by
  refine ⟨fun pins s σ H Q I hq => ?_⟩
  refine wpAny_Tuple_spliced (thn (h.run pos pins s σ H _ I hq) fun us s1 ⟨xs, H1, I1, r, z, q⟩ => ⟨by rw [← r.length]; exact z, ?_⟩)
  have hf : H1 s1.heap.objs.size = none := I1.hok.fresh (Nat.le_refl _)
  refine ⟨.ref s1.heap.objs.size, upd H1 s1.heap.objs.size (.tup xs), I1.laid (t' := s1.toks) (fun b u e => Heap.get?_push_of_some _ e) (Nat.le_refl _) ?_, rfl, q.all _ hf⟩
  exact ⟨z, us, r, ⟨_, Heap.get?_push_size _ rfl, rfl, _, rfl⟩⟩
theorem lstN (h : PA X es t) : PE X (.List es pos) (tLstN t) := by
  refine ⟨fun pins s σ H Q I hq => ?_⟩
  refine wpAny_List_spliced (thn (h.run pos pins s σ H _ I hq) fun us s1 ⟨xs, H1, I1, r, z, q⟩ => ⟨by rw [← r.length]; exact z, ?_⟩)
  have hf : H1 s1.heap.objs.size = none := I1.hok.fresh (Nat.le_refl _)
  refine ⟨.ref s1.heap.objs.size, upd H1 s1.heap.objs.size (.lst xs), I1.laid (t' := s1.toks) (fun b u e => Heap.get?_push_of_some _ e) (Nat.le_refl _) ?_, rfl, q.all _ hf⟩
  exact ⟨z, us, 0, r, Heap.get?_push_size _ rfl⟩
def rSlN (K : PySem.W.Frag) : V → Option Int → Option Int → Hp → VK → Prop := fun x lo hi H Q => ∃ a xs, x = .ref a ∧ SqL K H a xs ∧ New (.lst (cutV xs lo hi)) H Q
theorem slN : SlR X (rSlN X.K) := SlR.imp sl_list fun _ _ _ _ _ ⟨a, xs, h1, h2, h3⟩ => ⟨a, xs, h1, h2, h3.all⟩
def rCatN : R2 := fun x y H Q => ∃ l b xs zs, x = .ref l ∧ y = .ref b ∧ H l = some (.lst xs) ∧ H b = some (.lst zs) ∧ xs.length + zs.length ≤ sizeLine ∧ New (.lst (xs ++ zs)) H Q
theorem catN : OpR X (binaryOp .Add) rCatN := OpR.imp op_cat fun _ _ _ _ ⟨l, b, xs, zs, h1, h2, h3, h4, h5, h6⟩ => ⟨l, b, xs, zs, h1, h2, h3, h4, h5, h6.all⟩
def rRepN : R2 := fun x y H Q => ∃ l k v, x = .ref l ∧ y = .int k ∧ H l = some (.lst [v]) ∧ 0 ≤ k ∧ k ≤ 100000 ∧ New (.lst (List.replicate k.toNat v)) H Q
theorem flat_rep {α : Type} (v : α) : ∀ n : Nat, (List.replicate n [v]).flatten = List.replicate n v
  | 0 => rfl
  | n + 1 => by
    rw [List.replicate_succ, List.replicate_succ, List.flatten_cons, flat_rep v n]
    rfl
theorem repN : OpR X (binaryOp .Mult) rRepN := OpR.imp op_rep fun _ _ _ _ ⟨l, k, v, h1, h2, h3, h4, h5, h6⟩ => ⟨l, k, [v], h1, h2, h3, by
    have : (2 : Int) ^ 63 = 9223372036854775808 := by decide
    omega, by
    have : (2 : Int) ^ 63 = 9223372036854775808 := by decide
    omega, by
    rw [sizeLine_eq]
    show 1 * _ ≤ _
    omega, by
    rw [flat_rep]
    exact h6.all⟩
theorem listN : CallR X (.type "list") (fun xs H Q => ∃ p ys, xs = [.ref p] ∧ (SqL X.K H p ys ∨ SqT X.K H p ys) ∧ New (.lst ys) H Q) := CallR.imp call_list_of fun _ _ _ ⟨p, ys, h1, h2, h3⟩ => ⟨p, ys, h1, h2, h3.all⟩
theorem tupleN : CallR X (.type "tuple") (fun xs H Q => ∃ p ys, xs = [.ref p] ∧ SqL X.K H p ys ∧ New (.tup ys) H Q) := CallR.imp call_tuple_of fun _ _ _ ⟨p, ys, h1, h2, h3⟩ => ⟨p, ys, h1, .inl ⟨h2, h3.all⟩⟩
def rSortDN (K : PySem.W.Frag) : List V → Hp → VK → Prop := fun vs H Q => ∃ (a : Addr) (zs : List (V × PyData)), vs = [V.ref a] ∧ SqL K H a (zs.map Prod.fst) ∧ DpAll K H (zs.map Prod.fst) (zs.map Prod.snd) ∧ PySem.W.AllAlike (zs.map Prod.snd) ∧ PySem.W.Sortable (zs.map Prod.snd) ∧
  (∀ z ∈ zs, z.2.depth ≤ 8) ∧ New (.lst ((zs.mergeSort (PySem.W.dataLe false Prod.snd)).map Prod.fst)) H Q
theorem sortDN (hu : X.A.units + 64 < cLine) : CallR X (.builtin "sorted") (rSortDN X.K) := CallR.imp (cr_sortD hu) fun _ _ _ ⟨a, zs, h1, h2, h3, h4, h5, h6, h7⟩ => ⟨a, zs, h1, h2, h3, h4, h5, h6, h7.all⟩
/-- sorted(a dict with text keys) -/
theorem sortKN (hc : X.calm = true) : CallR X (.builtin "sorted") (fun xs H Q => ∃ (a : Addr) (kvs : List (Key × V)) (ks : List Str), xs = [.ref a] ∧ H a = some (.dK kvs) ∧ kvs.map (·.1) = ks.map Sum.inr ∧ ks.length < 64 ∧ ∀ ys : List Str, ys.Perm ks → sortedS ys = true → New (.lst (ys.map V.str)) H Q) :=
  CallR.imp (call_sortedD hc) fun _ _ _ ⟨a, kvs, ks, h1, h2, h3, h4, h5⟩ => ⟨a, kvs, ks, h1, .inl h2, h3, h4, fun ys p q1 q2 n => (h5 ys q1 q2).all p n⟩
def tDicN : TE := fun _ H Q => New (.dK []) H Q
theorem dicN : PE X (.Dict [] [] pos) tDicN := ⟨fun pins s σ H Q I h => (pe_dnewK (X := X) (pos := pos)).run pins s σ H Q I h.all⟩
end
end FF
/-! The tree of a world, by the ways and the names. -/
namespace FF
open PySem PySem.Spec PyProof.Rows L2
theorem way_lf {s s' : Sh} {f : List Bool} (h : s.at' f = some s') : f ∈ s.ways [] ↔ s' = .lf := by
  rw [Sh.mem_ways]
  constructor
  · rintro ⟨g, e, hg⟩
    rw [List.nil_append] at e
    rw [e, hg] at h
    exact (Option.some.inj h).symm
  · rintro rfl
    exact ⟨f, rfl, h⟩
def wSs (ws : List (List Bool)) : List V := (ws.map wS).map V.str
theorem wSs_get {ws : List (List Bool)} {j : Nat} {w : List Bool} (h : ws[j]? = some w) : (wSs ws)[j]? = some (.str (wS w)) := by
  unfold wSs
  rw [List.getElem?_map, List.getElem?_map, h]
  rfl
theorem wSs_get' {ws : List (List Bool)} {j : Nat} {v : V} (h : (wSs ws)[j]? = some v) : ∃ w, ws[j]? = some w ∧ v = .str (wS w) := by
  unfold wSs at h
  rw [List.getElem?_map, List.getElem?_map] at h
  cases e : ws[j]? with
  | none =>
    rw [e] at h
    cases h
  | some w =>
    rw [e] at h
    exact ⟨w, rfl, (Option.some.inj h).symm⟩
theorem mem_wS {ws : List (List Bool)} {f : List Bool} : wS f ∈ ws.map wS ↔ f ∈ ws := by
  constructor
  · intro h
    obtain ⟨w, hw, e⟩ := List.mem_map.mp h
    rw [← wS_inj e]
    exact hw
  · intro h
    exact List.mem_map.mpr ⟨f, h, rfl⟩
theorem eqV_str {x y : Str} (h : x ≠ y) : eqV (.str x) (.str y) = false := by simp [eqV, h]
/-- the tree from a fork (or a leaf's way) on -/
def spTree (K : PySem.W.Frag) (n : Nat) : Sp := fun vs H Q _ => ∃ (wa na : Addr) (f : List Bool) (s s' : Sh) (ns : List Str) (nm : List Bool → Str), vs = [.ref wa, .ref na, .str (wS f)] ∧ SqL K H wa (wSs (s.ways [])) ∧ SqL K H na (ns.map V.str) ∧
  (∀ (j : Nat) (w : List Bool), (s.ways [])[j]? = some w → ns[j]? = some (nm w)) ∧ s.at' f = some s' ∧ s'.height ≤ n ∧ f.length + n ≤ 100 ∧ ∀ (v : V) (H' : Hp), Same H H' → Dp K H' v (tr nm f s') → Q v H'
section
variable {P : Program} {w : World} {K : PySem.W.Frag} {mg : Str → Option Value} {base : Heap}
theorem c_tree (T : Fx K mg) : ∀ n : Nat, C8.Cal P w K mg base (n + 1) "_law_tree" (spTree K n) []
  | 0 => by
    refine calN T.d_l_tree T.g_l_tree sc_l_tree (fun vs H Q E h => ?_) (fun _ _ _ _ _ _ us hl => match us, hl with | [_, _, _], _ => rfl) (fun cdv A outer s H vs Q E hr h => ?_)
    · obtain ⟨_, _, _, _, _, _, _, rfl, _⟩ := h
      rfl
    · obtain ⟨wa, na, f, s, s', ns, nm, rfl, hw, hn, hnm, hf, h0, hfl, k⟩ := h
      have nd := sc_l_tree.nd
      refine ⟨_, pss_cons (ps_if (pt_cmpR op_in_seq (pv 2) (pv 0) (by rfl))
          (pss_one (ps_ret (ixl (pv 1) (pe_bm PySem.F.plainAttrs_list PySem.F.slot_list_index PySem.F.type_list_index mt_index (pv 0) (pa_cons (pv 2) pa_nil))))) pss_nil)
        (pss_one ps_never), ?_⟩
      have e : s' = .lf := by
        cases s' with
        | lf => rfl
        | nd l r => exact absurd h0 (by simp [Sh.height])
      subst e
      have hm := (way_lf hf).mpr rfl
      refine ⟨_, rfl, _, rfl, wa, _, rfl, .inl hw, rfl, flat_strs _, _, rfl, ?_⟩
      show if inV (.str (wS f)) (((s.ways []).map wS).map V.str) = true then _ else _
      rw [inV_strs, decide_eq_true (mem_wS.mpr hm)]
      refine iteT ?_
      obtain ⟨j, hj, ej⟩ := List.mem_iff_getElem.mp hm
      have ej' : (s.ways [])[j]? = some f := by rw [List.getElem?_eq_getElem hj, ej]
      refine ⟨_, rfl, _, rfl, .inl ⟨rfl, _, hw⟩, _, rfl, wa, _, _, j, _, rfl, rfl, hw, rfl, flat_strs _, wSs_get ej', by simp [eqV], fun m z hm hz => ?_, na, _, _, .str (nm f), rfl, rfl, hn, atI_nat (by
        rw [List.getElem?_map, hnm j f ej']
        rfl), k _ _ (Same.refl _) (.str _)⟩
      obtain ⟨w', e1, e2⟩ := wSs_get' hz
      rw [e2]
      refine eqV_str fun q => ?_
      have q2 := wS_inj q
      subst q2
      have h1 := (List.getElem?_eq_some_iff.mp e1).1
      have q3 := (List.getElem_inj (Sh.ways_nodup s [])).mp ((List.getElem?_eq_some_iff.mp e1).2.trans ej.symm)
      omega
  | n + 1 => by
    have c : C8.Cal P w K mg base (n + 1) "_law_tree" (spTree K n) [] := c_tree T n
    refine calN T.d_l_tree T.g_l_tree sc_l_tree (fun vs H Q E h => ?_) (fun _ _ _ _ _ _ us hl => match us, hl with | [_, _, _], _ => rfl) (fun cdv A outer s H vs Q E hr h => ?_)
    · obtain ⟨_, _, _, _, _, _, _, rfl, _⟩ := h
      rfl
    · obtain ⟨wa, na, f, s, s', ns, nm, rfl, hw, hn, hnm, hf, h0, hfl, k⟩ := h
      have nd := sc_l_tree.nd
      refine ⟨_, pss_cons (ps_if (pt_cmpR op_in_seq (pv 2) (pv 0) (by rfl))
          (pss_one (ps_ret (ixl (pv 1) (pe_bm PySem.F.plainAttrs_list PySem.F.slot_list_index PySem.F.type_list_index mt_index (pv 0) (pa_cons (pv 2) pa_nil))))) pss_nil)
        (pss_one (ps_ret (pe_tup (pa_cons (C8.pe_c c hr (Nat.le_refl _) (by rfl) (pa_cons (pv 0) (pa_cons (pv 1) (pa_cons (pe_op op_add_str (pv 2) pe_str) pa_nil))))
          (pa_cons (C8.pe_c c hr (Nat.le_refl _) (by rfl) (pa_cons (pv 0) (pa_cons (pv 1) (pa_cons (pe_op op_add_str (pv 2) pe_str) pa_nil)))) pa_nil))))), ?_⟩
      refine ⟨_, rfl, _, rfl, wa, _, rfl, .inl hw, rfl, flat_strs _, _, rfl, ?_⟩
      show if inV (.str (wS f)) (((s.ways []).map wS).map V.str) = true then _ else _
      rw [inV_strs]
      cases s' with
      | lf =>
        have hm := (way_lf hf).mpr rfl
        rw [decide_eq_true (mem_wS.mpr hm)]
        refine iteT ?_
        obtain ⟨j, hj, ej⟩ := List.mem_iff_getElem.mp hm
        have ej' : (s.ways [])[j]? = some f := by rw [List.getElem?_eq_getElem hj, ej]
        refine ⟨_, rfl, _, rfl, .inl ⟨rfl, _, hw⟩, _, rfl, wa, _, _, j, _, rfl, rfl, hw, rfl, flat_strs _, wSs_get ej', by simp [eqV], fun m z hm hz => ?_, na, _, _, .str (nm f), rfl, rfl, hn, atI_nat (by
          rw [List.getElem?_map, hnm j f ej']
          rfl), k _ _ (Same.refl _) (.str _)⟩
        obtain ⟨w', e1, e2⟩ := wSs_get' hz
        rw [e2]
        refine eqV_str fun q => ?_
        have q2 := wS_inj q
        subst q2
        have h1 := (List.getElem?_eq_some_iff.mp e1).1
        have q3 := (List.getElem_inj (Sh.ways_nodup s [])).mp ((List.getElem?_eq_some_iff.mp e1).2.trans ej.symm)
        omega
      | nd l r =>
        have hm : f ∉ s.ways [] := fun z => nomatch (way_lf hf).mp z
        rw [decide_eq_false (fun z => hm (mem_wS.mp z))]
        refine iteF ?_
        have hh : max l.height r.height + 1 ≤ n + 1 := h0
        have fit : (wS f).length ≤ sizeLine := wS_fit (by omega)
        have fit2 : (wS f).length + 1 ≤ sizeLine := by
          rw [wS_len, sizeLine_eq]
          omega
        refine ⟨_, rfl, _, rfl, _, rfl, _, _, rfl, rfl, fit2, ?_⟩
        rw [wS_0]
        refine ⟨wa, na, f ++ [false], s, l, ns, nm, rfl, hw, hn, hnm, Sh.at_snoc false hf, by omega, by rw [List.length_append, List.length_singleton]; omega, fun v1 H1 s1 D1 => ?_⟩
        refine ⟨_, rfl, _, rfl, _, rfl, _, _, rfl, rfl, fit2, ?_⟩
        rw [wS_1]
        refine ⟨wa, na, f ++ [true], s, r, ns, nm, rfl, s1.seq hw, s1.seq hn, hnm, Sh.at_snoc true hf, by omega, by rw [List.length_append, List.length_singleton]; omega, fun v2 H2 s2 D2 => ?_⟩
        refine ⟨(by show 2 ≤ sizeLine; decide), alloc fun p H3 s3 n3 e3 => k _ _ ((s1.trans s2).trans s3) ?_⟩
        exact Dp.pair e3 (D1.same (s2.trans s3)) (D2.same s3)
end
end FF
/-! The world: a tree, the pairs of writers and ways. -/
namespace FF
open PySem PySem.Spec PyProof.Rows L2
theorem cut_to (xs : List V) (k : Nat) (h : k ≤ xs.length) : cutV xs none (some (k : Int)) = xs.take k := by
  unfold cutV
  have e1 : HT.sIx xs.length 0 none = 0 := rfl
  have e2 : HT.sIx xs.length xs.length (some (k : Int)) = k := by
    rw [HT.sIx_nat, Nat.min_eq_left h]
  rw [e1, e2]
  simp
theorem cut_from (xs : List V) (k : Nat) (h : k ≤ xs.length) : cutV xs (some (k : Int)) none = xs.drop k := by
  unfold cutV
  have e1 : HT.sIx xs.length 0 (some (k : Int)) = k := by
    rw [HT.sIx_nat, Nat.min_eq_left h]
  have e2 : HT.sIx xs.length xs.length none = xs.length := rfl
  rw [e1, e2]
  exact List.take_of_length_le (by rw [List.length_drop]; exact Nat.le_refl _)
def prD (p : Str × List Bool) : PyData := .tuple [.str p.1, .str (wS p.2)]
theorem DpAll.each {K : PySem.W.Frag} {H : Hp} {α : Type} (g : α → PyData) : ∀ {ts : List (V × α)}, (∀ t ∈ ts, Dp K H t.1 (g t.2)) → DpAll K H (ts.map Prod.fst) (ts.map fun t => g t.2)
  | [], _ => .nil
  | t :: ts, h => .cons (h t List.mem_cons_self) (DpAll.each g fun x hx => h x (List.mem_cons_of_mem _ hx))
theorem pr_lt {p q : Str × List Bool} (h : nlt p.1 q.1) : PySem.W.dataLt (prD p) (prD q) = true := by
  have ne : p.1 ≠ q.1 := fun z => nlt_irrefl q.1 (z ▸ h)
  unfold prD
  rw [PySem.W.dataLt_pair (by rfl) (by rfl), if_neg (by simp [PyData.eqv, ne]), PySem.W.dataLt_str]
  exact decide_eq_true h
theorem sort_pr (t0 : List (V × (Str × List Bool))) : ∃ ts : List (V × (Str × List Bool)), ts.Perm t0 ∧ ((t0.map fun t => (t.1, prD t.2)).mergeSort (PySem.W.dataLe false Prod.snd)).map Prod.fst = ts.map Prod.fst ∧ ts.Pairwise (fun a b => ¬ nlt b.2.1 a.2.1) := by
  refine ⟨t0.mergeSort (fun a b => PySem.W.dataLe false (fun t : V × (Str × List Bool) => prD t.2) a b), List.mergeSort_perm _ _, ?_, ?_⟩
  · rw [← PySem.W.sort_maps (fun t : V × (Str × List Bool) => (t.1, prD t.2)) (fun a _ b _ => rfl), List.map_map]
    rfl
  · refine (PySem.W.sort_pairwise (PySem.W.sortLe_total (listOrd itemOrd) false fun t : V × (Str × List Bool) => PySem.W.keyToks (prD t.2)) t0).imp fun {a b} h z => ?_
    have h2 : (!PySem.W.dataLt (prD b.2) (prD a.2)) = true := h
    rw [pr_lt z] at h2
    cases h2
/-- the list of a tree and its pairs -/
structure WorldAt (K : PySem.W.Frag) (H : Hp) (a : Addr) (s : Sh) (sp : Prs) : Prop where
  ok : Ok s sp
  nm : ∀ p ∈ sp, IsNm p.1
  up : sp.Pairwise (fun p q => ¬ nlt q.1 p.1)
  at_ : ∃ (vt vp : V) (nm : List Bool → Str), H a = some (.lst [vt, vp]) ∧ (∀ p ∈ sp, nm p.2 = p.1) ∧ Dp K H vt (tr nm [] s) ∧ Dp K H vp (.list (sp.map prD))
def spWorld (K : PySem.W.Frag) : Sp := fun vs H Q _ => ∃ (b l : Addr), vs = [.ref b] ∧ BoxAt H b l ∧ ∀ (a : Addr) (s : Sh) (sp : Prs) (H' : Hp), WorldAt K H' a s sp → Kp (fun a => a = b) H H' → BoxAt H' b l → Q (.ref a) H'
theorem lookup_zip : ∀ {ws : List (List Bool)} {ns : List Str}, ws.Nodup → ws.length = ns.length → ∀ {j : Nat} {w : List Bool}, ws[j]? = some w → ns[j]? = some (((ws.zip ns).lookup w).getD (Str.ofString ""))
  | [], [], _, _, _, _, h => by simp at h
  | [], _ :: _, _, hl, _, _, _ => by simp at hl
  | _ :: _, [], _, hl, _, _, _ => by simp at hl
  | a :: ws, n :: ns, hn, hl, j, w, h => by
    obtain ⟨n1, n2⟩ := List.nodup_cons.mp hn
    cases j with
    | zero =>
      have e : a = w := Option.some.inj h
      subst e
      simp
    | succ j =>
      have h' : ws[j]? = some w := h
      have ne : (w == a) = false := beq_eq_false_iff_ne.mpr fun z => n1 (z ▸ List.mem_of_getElem? h')
      rw [List.zip_cons_cons, List.lookup_cons, ne]
      exact lookup_zip n2 (by simpa using hl) h'
section
variable {P : Program} {w : World} {K : PySem.W.Frag} {mg : Str → Option Value} {base : Heap}
theorem c_world (T : Fx K mg) : C8.Cal P w K mg base 14 "_law_world" (spWorld K) [] := by
  have cD : C8.Cal P w K mg base 1 "_law_draw" spDraw [] := c_draw T
  have cN : C8.Cal P w K mg base 3 "_law_names" spNames [] := c_names T
  have cT : C8.Cal P w K mg base 13 "_law_tree" (spTree K 12) [] := c_tree T 12
  refine calN T.d_l_world T.g_l_world sc_l_world (fun vs H Q E h => ?_) (fun _ _ _ _ _ _ us hl => match us, hl with | [_], _ => rfl) (fun cdv A outer s H vs Q E hr h => ?_)
  · obtain ⟨_, _, rfl, _⟩ := h
    rfl
  · obtain ⟨b, l, rfl, hB, k⟩ := h
    have nd := sc_l_world.nd
    refine ⟨_, pss_cons (ps_set (i := 1) nd rfl (Or.inl rfl) (pe_op op_add pe_int (C8.pe_c cD hr (by decide) (by rfl) (pa_cons (pv 0) (pa_cons pe_int pa_nil)))))
      (C8.pss_cut (ps_if (pt_cmpR op_eq (C8.pe_c cD hr (by decide) (by rfl) (pa_cons (pv 0) (pa_cons pe_int pa_nil))) pe_int (nomark _))
        (pss_one (ps_set (i := 1) nd rfl (Or.inl rfl) (pe_op op_add pe_int (C8.pe_c cD hr (by decide) (by rfl) (pa_cons (pv 0) (pa_cons pe_int pa_nil)))))) pss_nil)
      (pss_cons (ps_set (i := 2) nd rfl (Or.inr rfl) (C8.pe_c cN hr (by decide) (by rfl) (pa_cons (pv 0) (pa_cons (pv 1) pa_nil))))
      (pss_cons (ps_set (i := 3) nd rfl (Or.inr rfl) (lstN (pa_cons pe_str pa_nil)))
      (pss_cons (ps_for PassesOwn.never rfl (pi_range1 rfl T.z_range (pa_cons (pe_op op_sub (pv 1) pe_int) pa_nil)) (pg_name (i := 4) nd rfl (Or.inl rfl))
        (pss_cons (ps_set (i := 5) nd rfl (Or.inl rfl) (C8.pe_c cD hr (by decide) (by rfl) (pa_cons (pv 0) (pa_cons (pe_callB call_len_seq (by rfl) T.z_len PySem.boot_len (pa_cons (pv 3) pa_nil)) pa_nil))))
        (pss_cons (ps_set (i := 6) nd rfl (Or.inl rfl) (ixl (pv 3) (pv 5)))
        (pss_one (ps_set (i := 3) nd rfl (Or.inr rfl) (pe_op catN (pe_op catN (pe_slice slN (pv 3) po_none (po_some (pv 5))) (lstN (pa_cons (pe_op op_add_str (pv 6) pe_str) (pa_cons (pe_op op_add_str (pv 6) pe_str) pa_nil))))
          (pe_slice slN (pv 3) (po_some (pe_op op_add (pv 5) pe_int)) po_none)))))))
      (pss_one (ps_ret (lstN (pa_cons (C8.pe_c cT hr (by decide) (by rfl) (pa_cons (pv 3) (pa_cons (pv 2) (pa_cons pe_str pa_nil))))
        (pa_cons (pe_callB (sortDN hr.units) (by rfl) T.z_sorted (by decide +kernel) (pa_cons (pe_lc (own := [("_law_k", 4)]) (g := gName 4) (tt := tYes) rfl nd (pi_range1 rfl T.z_range (pa_cons (pv 1) pa_nil))
            (blkOk_by (own := [("_law_k", 4)]) (N := ["_law_box_here", "_law_many", "_law_names_here", "_law_ways", "_law_k", "_law_place", "_law_way"]) (sc := defScope s_l_world) (by decide +kernel)) (fun _ _ _ _ _ => pg_name (i := 4) nd rfl (Or.inl rfl)) (fun _ _ _ _ _ => pts_nil)
            (fun _ _ _ _ _ => tupN (pa_cons (ixlK (K := K) rfl (pv 2) (pv 4)) (pa_cons (ixlK (K := K) rfl (pv 3) (pv 4)) pa_nil)))) pa_nil)) pa_nil))))))))), ?_⟩
    refine ⟨_, rfl, b, l, 6, rfl, hB, by decide, by decide, fun d1 H1 g1 g2 k1 B1 => ?_⟩
    refine ⟨_, _, rfl, rfl, ?_⟩
    refine ⟨fun σ H2 => ∃ n : Nat, 1 ≤ n ∧ n ≤ 12 ∧ σ = [some (.ref b), some (.int n), none, none, none, none, none] ∧ Kp (fun a => a = b) H H2 ∧ BoxAt H2 b l, ?_, ?_⟩
    · refine ⟨_, rfl, b, l, 8, rfl, B1, by decide, by decide, fun d2 H2 g3 g4 k2 B2 => ?_⟩
      refine ⟨rfl, _, rfl, ?_⟩
      refine ite2 (fun _ => ?_) (fun _ => ?_)
      · refine ⟨_, rfl, b, l, 6, rfl, B2, by decide, by decide, fun d3 H3 g5 g6 k3 B3 => ?_⟩
        obtain ⟨j, rfl⟩ := Int.eq_ofNat_of_zero_le g5
        exact ⟨_, _, rfl, rfl, 7 + j, by omega, by omega, rfl, (k1.trans k2).trans k3, B3⟩
      · obtain ⟨j, rfl⟩ := Int.eq_ofNat_of_zero_le g1
        exact ⟨1 + j, by omega, by omega, rfl, k1.trans k2, B2⟩
    · rintro σ H2 ⟨n, hn1, hn2, rfl, k2, B2⟩
      refine ⟨_, rfl, _, rfl, b, l, n, rfl, B2, hn2, fun na ns H3 n3 e3 hl3 nd3 nm3 k3 B3 => ?_⟩
      refine ⟨(by show 1 ≤ sizeLine; decide), fun wa H4 n4 s4 e4 => ?_⟩
      have B4 := B3.same s4
      have k4 : Kp (fun a => a = b) H H4 := (k2.trans k3).trans (Kp.same s4)
      have nab : na ≠ b := (B2.nb n3).symm
      refine ⟨_, rfl, _, _, rfl, rfl, _, rfl, by omega, by omega, for_range (lo := 0) (n := ((n : Int) - 1).toNat) (fun i σ H' => ∃ (s : Sh) (wa : Addr) (y4 y5 y6 : Option V), σ = [some (.ref b), some (.int n), some (.ref na), some (.ref wa), y4, y5, y6] ∧ (s.ways []).length = i + 1 ∧ H' wa = some (.lst (wSs (s.ways []))) ∧ wa ≠ b ∧ Kp (fun a => a = b) H4 H' ∧ BoxAt H' b l)
        ⟨.lf, wa, none, none, none, rfl, rfl, by rw [e4, wS_nil]; rfl, (B3.nb n4).symm, Kp.refl, B4⟩ ?_ ?_⟩
      · rintro i σ H5 hi ⟨s, wa, y4, y5, y6, rfl, hl5, e5, nwb, k5, B5⟩
        have wl : (wSs (s.ways [])).length = i + 1 := by
          unfold wSs
          rw [List.length_map, List.length_map, hl5]
        refine ⟨_, rfl, _, rfl, wa, _, rfl, .inl (SqL.of e5), b, l, _, rfl, B5, by omega, by omega, fun d H6 g7 g8 k6 B6 => ?_⟩
        obtain ⟨j, rfl⟩ := Int.eq_ofNat_of_zero_le g7
        have hj : j < (s.ways []).length := by omega
        obtain ⟨wj, hwj⟩ : ∃ wj, (s.ways [])[j]? = some wj := ⟨_, List.getElem?_eq_getElem hj⟩
        have dj : wj.length ≤ 11 := by
          have := Sh.depth s [] wj (List.mem_of_getElem? hwj)
          simp at this
          omega
        have e6 := k6 _ _ nwb e5
        refine ⟨_, rfl, _, rfl, wa, _, _, _, rfl, rfl, SqL.of e6, atI_nat (wSs_get hwj), ?_⟩
        refine ⟨_, rfl, _, rfl, _, rfl, wa, _, rfl, SqL.of e6, fun p1 H7 n7 s7 e7 => ?_⟩
        have fit : (wS wj).length + 1 ≤ sizeLine := by
          rw [wS_len, sizeLine_eq]
          omega
        refine ⟨_, rfl, _, _, rfl, rfl, fit, _, rfl, _, _, rfl, rfl, fit, (by show 2 ≤ sizeLine; decide), fun p2 H8 n8 s8 e8 => ?_⟩
        refine ⟨p1, p2, _, _, rfl, rfl, s8 _ _ e7, e8, ?_, fun p3 H9 n9 s9 e9 => ?_⟩
        · have := cutV_length (wSs (s.ways [])) none (some (j : Int))
          rw [sizeLine_eq]
          show _ + 2 ≤ _
          omega
        refine ⟨_, rfl, _, rfl, _, _, rfl, rfl, _, rfl, wa, _, rfl, SqL.of (s9 _ _ (s8 _ _ (s7 _ _ e6))), fun p4 H10 n10 s10 e10 => ?_⟩
        refine ⟨p3, p4, _, _, rfl, rfl, s10 _ _ e9, e10, ?_, fun p5 H11 n11 s11 e11 => ?_⟩
        · have := cutV_length (wSs (s.ways [])) none (some (j : Int))
          have := cutV_length (wSs (s.ways [])) (some ((j : Int) + 1)) none
          rw [sizeLine_eq, List.length_append]
          show _ + 2 + _ ≤ _
          omega
        have sA : Same H6 H11 := (((s7.trans s8).trans s9).trans s10).trans s11
        obtain ⟨s', es⟩ := Sh.split s [] j wj hwj
        have el : (s'.ways []).length = i + 1 + 1 := by
          rw [es]
          simp
          omega
        refine ⟨s', p5, _, _, _, rfl, el, ?_, ?_, (k5.trans k6).trans (Kp.same sA), B6.same sA⟩
        · rw [e11, wS_0, wS_1, cut_to _ j (by omega)]
          have ej : ((j : Int) + 1) = ((j + 1 : Nat) : Int) := by omega
          rw [ej, cut_from _ (j + 1) (by omega), es]
          unfold wSs
          simp [List.map_take, List.map_drop, List.append_assoc]
        · exact ((B6.same ((((s7.trans s8).trans s9)).trans s10)).nb n11).symm
      · rintro σ H5 ⟨s, wa, y4, y5, y6, rfl, hl5, e5, nwb, k5, B5⟩
        have en : ((n : Int) - 1).toNat + 1 = n := by omega
        rw [en] at hl5
        have e5n : H5 na = some (.lst (ns.map V.str)) := k5 _ _ nab (s4 _ _ e3)
        obtain ⟨nm, hz⟩ : ∃ nm : List Bool → Str, ∀ (j : Nat) (w : List Bool), (s.ways [])[j]? = some w → ns[j]? = some (nm w) := ⟨_, fun j w h => lookup_zip (Sh.ways_nodup s []) (hl5.trans hl3.symm) h⟩
        have ens : (s.ways []).map nm = ns := by
          refine List.ext_getElem? fun j => ?_
          rw [List.getElem?_map]
          cases e : (s.ways [])[j]? with
          | none =>
            have h1 := List.getElem?_eq_none_iff.mp e
            exact (List.getElem?_eq_none_iff.mpr (by omega)).symm
          | some w => exact (hz j w e).symm
        refine ⟨_, rfl, _, rfl, ?_⟩
        rw [wS_nil]
        have hh := Sh.height_ways s []
        refine ⟨wa, na, [], s, s, ns, nm, rfl, SqL.of e5, SqL.of e5n, hz, Sh.at_nil s, by omega, by show 0 + 12 ≤ 100; decide, fun vt H6 s6 D6 => ?_⟩
        refine ⟨_, rfl, _, rfl, by omega, by omega, fun D hD => ?_⟩
        refine lc_range (fun i H' => ∃ ts : List Addr, ts.length = i ∧ H' D = some (.lst (ts.map V.ref)) ∧ (∀ (j : Nat) (t : Addr), ts[j]? = some t → ∃ w, (s.ways [])[j]? = some w ∧ H' t = some (.tup [.str (nm w), .str (wS w)])) ∧ Same H6 H') ⟨[], rfl, upd_same, fun j t h => by simp at h, same_new hD⟩ ?_ ?_
        · rintro i H' hi ⟨ts, hl, c1, c2, c3⟩
          have hi' : i < (s.ways []).length := by omega
          obtain ⟨wi, hwi⟩ : ∃ wi, (s.ways [])[i]? = some wi := ⟨_, List.getElem?_eq_getElem hi'⟩
          refine ⟨rfl, tyes ?_⟩
          refine ⟨_, rfl, _, rfl, na, _, _, .str (nm wi), rfl, rfl, SqL.of (c3 _ _ (s6 _ _ e5n)), by
            rw [Int.zero_add]
            exact atI_nat (by rw [List.getElem?_map, hz i wi hwi]; rfl), ?_⟩
          refine ⟨_, rfl, _, rfl, wa, _, _, .str (wS wi), rfl, rfl, SqL.of (c3 _ _ (s6 _ _ e5)), by
            rw [Int.zero_add]
            exact atI_nat (wSs_get hwi), ?_⟩
          refine ⟨(by show 2 ≤ sizeLine; decide), fun t H7 n7 s7 e7 => ?_⟩
          have nDt : D ≠ t := ne_of_none c1 n7
          refine ⟨_, s7 _ _ c1, by
            rw [List.length_map, hl, sizeLine_eq]
            omega, ts ++ [t], by rw [List.length_append, hl]; rfl, by rw [upd_same, List.map_append]; rfl, fun j t' hj => ?_, fun x o e => ?_⟩
          · by_cases q : j < ts.length
            · rw [List.getElem?_append_left q] at hj
              obtain ⟨w, e1, e2⟩ := c2 j t' hj
              refine ⟨w, e1, ?_⟩
              rw [upd_ne (ne_of e2 c1 (fun z => nomatch z))]
              exact s7 _ _ e2
            · rw [List.getElem?_append_right (by omega)] at hj
              have ej : j = i := by
                have := (List.getElem?_eq_some_iff.mp hj).1
                rw [List.length_singleton] at this
                omega
              subst ej
              rw [hl, Nat.sub_self] at hj
              have et : t = t' := Option.some.inj hj
              subst et
              exact ⟨wi, hwi, by rw [upd_ne nDt.symm]; exact e7⟩
          · rw [upd_ne (ne_of_none e hD)]
            exact s7 _ _ (c3 _ _ e)
        · rintro H' ⟨ts, hl, c1, c2, c3⟩
          have hlt : ts.length = (s.ways []).length := by omega
          -- the pairs
          have e1 : ((ts.map V.ref).zip ((s.ways []).map fun w => (nm w, w))).map Prod.fst = ts.map V.ref := List.map_fst_zip (by rw [List.length_map, List.length_map]; omega)
          have e2 : ((ts.map V.ref).zip ((s.ways []).map fun w => (nm w, w))).map Prod.snd = (s.ways []).map fun w => (nm w, w) := List.map_snd_zip (by rw [List.length_map, List.length_map]; omega)
          have e3 : ∀ t ∈ (ts.map V.ref).zip ((s.ways []).map fun w => (nm w, w)), Dp K H' t.1 (prD t.2) := fun t ht => by
            obtain ⟨j, hj, e⟩ := List.mem_iff_getElem.mp ht
            rw [List.getElem_zip] at e
            rw [← e]
            have hj1 : j < ts.length := by
              rw [List.length_zip, List.length_map, List.length_map] at hj
              omega
            obtain ⟨w, h1, h2⟩ := c2 j _ (List.getElem?_eq_getElem hj1)
            have h3 : (s.ways [])[j]'(by omega) = w := (List.getElem?_eq_some_iff.mp h1).2
            simp only [List.getElem_map]
            rw [h3]
            exact Dp.pair h2 (.str _) (.str _)
          generalize (ts.map V.ref).zip ((s.ways []).map fun w => (nm w, w)) = t0 at e1 e2 e3
          obtain ⟨ts', p1, p2, p3⟩ := sort_pr t0
          have em1 : (t0.map fun t => (t.1, prD t.2)).map Prod.fst = t0.map Prod.fst := by
            rw [List.map_map]
            rfl
          have em2 : (t0.map fun t => (t.1, prD t.2)).map Prod.snd = t0.map fun t => prD t.2 := by
            rw [List.map_map]
            rfl
          refine ⟨D, t0.map fun t => (t.1, prD t.2), rfl, SqL.of (by rw [em1, e1]; exact c1), ?_, ?_, ?_, fun z hz => ?_, fun q H7 n7 s7 e7 => ?_⟩
          · rw [em1, em2]
            exact DpAll.each prD e3
          · rw [em2]
            exact PySem.W.AllAlike.of fun _ _ => rfl
          · rw [em2]
            exact PySem.W.Sortable.tuples fun t => ⟨_, _, rfl⟩
          · obtain ⟨t, _, e⟩ := List.mem_map.mp hz
            rw [← e]
            show PyData.depth (.tuple [.str t.2.1, .str (wS t.2.2)]) ≤ 8
            simp [PyData.depth, PyData.depthAll]
          · rw [p2] at e7
            refine ⟨(by show 2 ≤ sizeLine; decide), fun a H8 n8 s8 e8 => ?_⟩
            have pp : (ts'.map Prod.snd).Perm ((s.ways []).map fun w => (nm w, w)) := by
              rw [← e2]
              exact p1.map _
            have pn : ((ts'.map Prod.snd).map (·.1)).Perm ns := by
              have := pp.map (fun p : Str × List Bool => p.1)
              rw [List.map_map (l := s.ways [])] at this
              rw [← ens]
              exact this
            have pw : ((ts'.map Prod.snd).map (·.2)).Perm (s.ways []) := by
              have := pp.map (fun p : Str × List Bool => p.2)
              rw [List.map_map (l := s.ways [])] at this
              have e4 : (s.ways []).map ((fun p : Str × List Bool => p.2) ∘ fun w => (nm w, w)) = s.ways [] := List.map_id _
              rw [e4] at this
              exact this
            refine k a s (ts'.map Prod.snd) H8 ⟨⟨pw, pn.nodup_iff.mpr nd3, ?_⟩, fun p hp => ?_, ?_, vt, .ref q, nm, e8, fun p hp => ?_, ?_, ?_⟩ ?_ ?_
            · have := pp.length_eq
              rw [List.length_map (as := s.ways [])] at this
              omega
            · exact nm3 _ (pn.mem_iff.mp (List.mem_map.mpr ⟨p, hp, rfl⟩))
            · exact List.Pairwise.map _ (fun a b h => h) p3
            · obtain ⟨w, _, e⟩ := List.mem_map.mp (pp.mem_iff.mp hp)
              rw [← e]
            · exact D6.same ((c3.trans s7).trans s8)
            · refine .lst (SqL.of (s8 _ _ e7)) ?_
              rw [List.map_map]
              exact DpAll.each prD fun t ht => (e3 t (p1.mem_iff.mp ht)).same (s7.trans s8)
            · exact (k4.trans k5).trans (Kp.same (((s6.trans c3).trans s7).trans s8))
            · exact B5.same (((s6.trans c3).trans s7).trans s8)
end
end FF
/-! Flags, members, boards of the law. -/
namespace FF
open PySem PySem.Spec PyProof.Rows L2
/-! ### data without lists stays where a list is changed -/
mutual
def noL : PyData → Bool
  | .list _ => false
  | .tuple xs => noLs xs
  | _ => true
def noLs : List PyData → Bool
  | [] => true
  | x :: xs => noL x && noLs xs
end
section
variable {K : PySem.W.Frag} {H H' : Hp} {p : Addr}
theorem SqT.kpT {a : Addr} {xs : List V} (k : Kp (fun a => a = p) H H') (hp : ∀ ys, ¬ Rd H p (.tup ys)) (h : SqT K H a xs) : SqT K H' a xs := by
  have ne : ∀ {o}, H a = some o → (o = .tup xs ∨ ∃ ob, o = .frz ob (.tup xs)) → a ≠ p := fun {o} e ho z => by
    subst z
    rcases ho with rfl | ⟨ob, rfl⟩
    · exact hp _ (.inl e)
    · exact hp _ (.inr ⟨ob, e⟩)
  rcases h with (h | ⟨o, h⟩) | h
  · exact .inl (.inl (k _ _ (ne h (.inl rfl)) h))
  · exact .inl (.inr ⟨o, k _ _ (ne h (.inr ⟨o, rfl⟩)) h⟩)
  · exact .inr h
mutual
theorem Dp.kpT (k : Kp (fun a => a = p) H H') (hp : ∀ ys, ¬ Rd H p (.tup ys)) : ∀ {d : PyData} {v : V}, noL d = true → Dp K H v d → Dp K H' v d
  | _, _, _, .non => .non
  | _, _, _, .bl b => .bl b
  | _, _, _, .int i => .int i
  | _, _, _, .str x => .str x
  | _, _, n, .lst _ _ => by
    rw [noL] at n
    cases n
  | _, _, n, .tup h a => .tup (SqT.kpT k hp h) (DpAll.kpT k hp (by rwa [noL] at n) a)
theorem DpAll.kpT (k : Kp (fun a => a = p) H H') (hp : ∀ ys, ¬ Rd H p (.tup ys)) : ∀ {ds : List PyData} {vs : List V}, noLs ds = true → DpAll K H vs ds → DpAll K H' vs ds
  | _, _, _, .nil => .nil
  | _, _, n, .cons h t => by
    rw [noLs, Bool.and_eq_true] at n
    exact .cons (Dp.kpT k hp n.1 h) (DpAll.kpT k hp n.2 t)
end
theorem lst_noT {xs : List V} (h : H p = some (.lst xs)) : ∀ ys, ¬ Rd H p (.tup ys) := fun ys r => by
  rcases r with r | ⟨o, r⟩
  · rw [h] at r
    cases r
  · rw [h] at r
    cases r
theorem noLs_map {α : Type} (g : α → PyData) (hg : ∀ a, noL (g a) = true) : ∀ l : List α, noLs (l.map g) = true
  | [] => by simp [noLs]
  | a :: l => by
    rw [List.map_cons, noLs, hg, noLs_map g hg l]
    rfl
theorem noL_pr (p : Str × List Bool) : noL (prD p) = true := by simp [prD, noL, noLs]
end
theorem fl_le {sp : Prs} (h : ∀ p ∈ sp, p.2.length ≤ 11) : (fl sp).length ≤ 11 * sp.length := by
  induction sp with
  | nil => exact Nat.le_refl _
  | cons p sp ih =>
    rw [fl_cons, List.length_append, List.length_map, List.length_range, List.length_cons]
    have := ih fun q hq => h q (List.mem_cons_of_mem _ hq)
    have := h p List.mem_cons_self
    omega
theorem fl_snoc (A : Prs) (p : Str × List Bool) : fl (A ++ [p]) = fl A ++ (List.range p.2.length).map fun l => (p.1, p.2.take l) := by
  rw [fl_app, fl_cons]
  simp [fl]
theorem take_snoc {α : Type} {l : List α} {i : Nat} {a : α} (h : l[i]? = some a) : l.take (i + 1) = l.take i ++ [a] := by
  rw [List.take_add_one, h]
  rfl
def spFlags (K : PySem.W.Frag) : Sp := fun vs H Q _ => ∃ (vp : V) (sp : Prs), vs = [vp] ∧ Dp K H vp (.list (sp.map prD)) ∧ (∀ p ∈ sp, p.2.length ≤ 11) ∧ sp.length ≤ 12 ∧ ∀ (a : Addr) (H' : Hp), Same H H' → Dp K H' (.ref a) (.list ((fl sp).map prD)) → Q (.ref a) H'
section
variable {P : Program} {w : World} {K : PySem.W.Frag} {mg : Str → Option Value} {base : Heap}
theorem c_flags (T : Fx K mg) : C8.Cal P w K mg base 1 "_law_flags" (spFlags K) [] := by
  refine calN T.d_l_flags T.g_l_flags sc_l_flags (fun vs H Q E h => ?_) (fun _ _ _ _ _ _ us hl => match us, hl with | [_], _ => rfl) (fun cdv A outer s H vs Q E hr h => ?_)
  · obtain ⟨_, _, rfl, _⟩ := h
    rfl
  · obtain ⟨vp, sp, rfl, hD, hd, hf, k⟩ := h
    have nd := sc_l_flags.nd
    obtain ⟨pa, xs, rfl, hS, hA⟩ := Dp.list_inv hD
    have hxl : xs.length = sp.length := by rw [hA.length, List.length_map]
    refine ⟨_, pss_cons (ps_set (i := 1) nd rfl (Or.inl rfl) (lstN pa_nil))
      (pss_cons (ps_for PassesOwn.never rfl (pi_list (pv 0)) (pg_name (i := 2) nd rfl (Or.inr rfl))
        (pss_one (ps_expr (pe_bm PySem.F.plainAttrs_list PySem.F.slot_list_extend PySem.F.type_list_extend mt_extend (pv 1) (pa_cons (pe_lc (own := [("_law_level", 3)]) (g := gName 3) (tt := tYes) rfl nd
            (pi_range1 rfl T.z_range (pa_cons (pe_callB call_len_str (by rfl) T.z_len PySem.boot_len (pa_cons (ixtK (K := K) rfl (pv 2) pe_int) pa_nil)) pa_nil))
            (blkOk_by (own := [("_law_level", 3)]) (N := ["_law_pairs", "_law_flags_here", "_law_pair", "_law_level"]) (sc := defScope s_l_flags) (by decide +kernel)) (fun _ _ _ _ _ => pg_name (i := 3) nd rfl (Or.inl rfl)) (fun _ _ _ _ _ => pts_nil)
            (fun _ _ _ _ _ => tupN (pa_cons (ixtK (K := K) rfl (pv 2) pe_int) (pa_cons (pe_slice C8.sl_txt (ixtK (K := K) rfl (pv 2) pe_int) po_none (po_some (pv 3))) pa_nil)))) pa_nil)))))
      (pss_one (ps_ret (pv 1)))), ?_⟩
    refine ⟨Nat.zero_le _, fun a H1 n1 s1 e1 => ?_⟩
    refine ⟨_, rfl, pa, rfl, ⟨_, s1.seq hS⟩, for_list (K := K) (a := pa) (xs := xs) (fun i σ H' => ∃ (y2 y3 : Option V) (vs : List V), σ = [some (.ref pa), some (.ref a), y2, y3] ∧ H' a = some (.lst vs) ∧ DpAll K H' vs ((fl (sp.take i)).map prD) ∧ Same H H') ⟨none, none, [], rfl, e1, .nil, s1⟩ (fun i σ H' _ ⟨_, _, _, _, _, _, s⟩ => s.seq hS) ?_ ?_⟩
    · rintro i x σ H2 hx ⟨y2, y3, vs, rfl, e2, D2, s2⟩
      obtain ⟨d, hd1, hd2⟩ := hA.get' hx
      rw [List.getElem?_map] at hd1
      cases hp : sp[i]? with
      | none =>
        rw [hp] at hd1
        cases hd1
      | some p =>
        rw [hp] at hd1
        have ed : prD p = d := Option.some.inj hd1
        subst ed
        obtain ⟨t, u1, u2, rfl, ht, hu1, hu2⟩ := Dp.pair_inv hd2
        obtain rfl := hu1.str_inv
        obtain rfl := hu2.str_inv
        have hpl : p.2.length ≤ 11 := hd p (List.mem_of_getElem? hp)
        have ht2 := Same.seqT s2 ht
        refine ⟨_, rfl, .inl ⟨rfl, _, SqL.of e2⟩, _, rfl, t, _, _, _, rfl, rfl, ht2, atI_nat (j := 1) rfl, _, rfl, wS_fit (by omega), ?_⟩
        rw [wS_len]
        refine ⟨_, rfl, by omega, by omega, fun D hDn => ?_⟩
        have naD : a ≠ D := ne_of_none e2 hDn
        refine lc_range (fun j H' => ∃ us : List V, H' D = some (.lst us) ∧ DpAll K H' us (((List.range j).map fun l => (p.1, p.2.take l)).map prD) ∧ Same H2 H') ⟨[], upd_same, .nil, same_new hDn⟩ ?_ ?_
        · rintro j H' hj ⟨us, c1, c2, c3⟩
          have hj' : j < p.2.length := by omega
          have htj := Same.seqT c3 ht2
          refine ⟨rfl, tyes ?_⟩
          refine ⟨_, rfl, t, _, _, _, rfl, rfl, htj, atI_nat (j := 0) rfl, ?_⟩
          refine ⟨_, rfl, t, _, _, _, rfl, rfl, htj, atI_nat (j := 1) rfl, _, rfl, _, rfl, _, rfl, wS_fit (by omega), ?_⟩
          rw [wS_take _ (by omega), Int.zero_add, Int.toNat_natCast]
          refine ⟨(by show 2 ≤ sizeLine; decide), fun q H7 n7 s7 e7 => ?_⟩
          have e7D := s7 _ _ c1
          refine ⟨_, e7D, by
            rw [c2.length, List.length_map, List.length_map, List.length_range, sizeLine_eq]
            omega, us ++ [.ref q], upd_same, ?_, fun x o e => ?_⟩
          · have h1 : DpAll K H7 (us ++ [.ref q]) (((List.range (j + 1)).map fun l => (p.1, p.2.take l)).map prD) := by
              rw [List.range_succ, List.map_append, List.map_append]
              exact (c2.same s7).append (DpAll.one (Dp.pair e7 (.str _) (.str _)))
            exact DpAll.kpT kp_put (lst_noT e7D) (noLs_map _ noL_pr _) h1
          · rw [upd_ne (ne_of_none e hDn)]
            exact s7 _ _ (c3 _ _ e)
        · rintro H' ⟨us, c1, c2, c3⟩
          have e2' := c3 _ _ e2
          have hfl : (fl sp).length ≤ 132 := by
            have := fl_le hd
            omega
          have h1 : DpAll K H' (vs ++ us) ((fl (sp.take (i + 1))).map prD) := by
            rw [take_snoc hp, fl_snoc, List.map_append]
            refine (D2.same c3).append ?_
            have : ((p.2.length : Nat) : Int).toNat = p.2.length := Int.toNat_natCast _
            rw [this] at c2
            exact c2
          have hle : (vs ++ us).length ≤ 132 := by
            rw [h1.length, List.length_map, take_snoc hp]
            refine Nat.le_trans ?_ hfl
            have := fl_app (sp.take i ++ [p]) (sp.drop (i + 1))
            rw [← take_snoc hp, List.take_append_drop] at this
            rw [this, take_snoc hp, List.length_append]
            exact Nat.le_add_right _ _
          rw [List.length_append] at hle
          refine ⟨a, D, _, _, rfl, rfl, e2', c1, by
            rw [sizeLine_eq]
            omega, ?_⟩
          refine put fun H8 k8 e8 => ?_
          exact ⟨_, _, vs ++ us, rfl, e8, DpAll.kpT k8 (lst_noT e2') (noLs_map _ noL_pr _) h1, (s2.trans c3).kp1 k8 n1⟩
    · rintro σ H2 ⟨y2, y3, vs, rfl, e2, D2, s2⟩
      rw [List.take_of_length_le (by omega)] at D2
      exact ⟨_, rfl, k a H2 s2 (.lst (SqL.of e2) D2)⟩
end
end FF
/-! The rows of a dict of lists; members; boards. -/
namespace FF
open PySem PySem.Spec PyProof.Rows L2
def nV (l : List Nat) : List V := l.map fun i => V.int (i : Nat)
/-- a dict from the forks that are in F to lists of indexes, g f at f; the lists are new since H0 -/
def RowsAt (H0 H : Hp) (a : Addr) (F : List Bool → Prop) (g : List Bool → List Nat) : Prop :=
  ∃ kvs : List (Key × V), H a = some (.dK kvs) ∧ (∀ f, F f → ∃ ra, valV kvs (.inr (wS f)) = some (.ref ra) ∧ H ra = some (.lst (nV (g f))) ∧ H0 ra = none) ∧ (∀ f, ¬ F f → valV kvs (.inr (wS f)) = none) ∧
    (∀ f h ra, valV kvs (.inr (wS f)) = some (.ref ra) → valV kvs (.inr (wS h)) = some (.ref ra) → f = h)
theorem RowsAt.same {H0 H H' : Hp} {a : Addr} {F : List Bool → Prop} {g : List Bool → List Nat} (h : RowsAt H0 H a F g) (s : Same H H') : RowsAt H0 H' a F g := by
  obtain ⟨kvs, h1, h2, h3, h4⟩ := h
  exact ⟨kvs, s _ _ h1, fun f hf => let ⟨ra, a1, a2, a3⟩ := h2 f hf; ⟨ra, a1, s _ _ a2, a3⟩, h3, h4⟩
theorem RowsAt.imp {H0 H : Hp} {a : Addr} {F F' : List Bool → Prop} {g g' : List Bool → List Nat} (h : RowsAt H0 H a F g) (hF : ∀ f, F' f ↔ F f) (hg : ∀ f, F f → g' f = g f) : RowsAt H0 H a F' g' := by
  obtain ⟨kvs, h1, h2, h3, h4⟩ := h
  exact ⟨kvs, h1, fun f hf => let ⟨ra, a1, a2, a3⟩ := h2 f ((hF f).mp hf); ⟨ra, a1, by rw [hg f ((hF f).mp hf)]; exact a2, a3⟩, fun f hf => h3 f fun z => hf ((hF f).mpr z), h4⟩
/-- a row grows -/
theorem RowsAt.app {H0 H H' : Hp} {a ra : Addr} {F : List Bool → Prop} {g : List Bool → List Nat} {f : List Bool} {kvs : List (Key × V)} {xs : List Nat} (h : RowsAt H0 H a F g) (hk : H a = some (.dK kvs)) (hf : valV kvs (.inr (wS f)) = some (.ref ra)) (hr : ∃ ys, H ra = some (.lst ys))
    (k : Kp (fun x => x = ra) H H') (e : H' ra = some (.lst (nV xs))) : RowsAt H0 H' a F (fun z => if z = f then xs else g z) := by
  obtain ⟨kvs', h1, h2, h3, h4⟩ := h
  rw [hk] at h1
  cases h1
  obtain ⟨ys, hr⟩ := hr
  have ne : a ≠ ra := ne_of hk hr fun z => nomatch z
  refine ⟨kvs, k _ _ ne hk, fun z hz => ?_, h3, h4⟩
  obtain ⟨rz, a1, a2, a3⟩ := h2 z hz
  by_cases q : z = f
  · subst q
    rw [hf] at a1
    cases a1
    exact ⟨ra, hf, by show H' ra = some (.lst (nV (if z = z then xs else g z))); rw [if_pos rfl]; exact e, a3⟩
  · refine ⟨rz, a1, ?_, a3⟩
    show H' rz = some (.lst (nV (if z = f then xs else g z)))
    rw [if_neg q]
    refine k _ _ (fun z2 => ?_) a2
    subst z2
    exact q (h4 _ _ _ a1 hf)
/-- a new key with a new empty row -/
theorem RowsAt.new {H0 H H' : Hp} {a D : Addr} {F : List Bool → Prop} {g : List Bool → List Nat} {f : List Bool} {kvs : List (Key × V)} (h : RowsAt H0 H a F g) (hk : H a = some (.dK kvs)) (hf : ¬ F f) (hD : H D = some (.lst [])) (hD0 : H0 D = none)
    (hDn : ∀ z ra, valV kvs (.inr (wS z)) = some (.ref ra) → ra ≠ D) (k : Kp (fun x => x = a) H H') (e : H' a = some (.dK (putK kvs (.inr (wS f)) (.ref D)))) : RowsAt H0 H' a (fun z => z = f ∨ F z) (fun z => if z = f then [] else g z) := by
  obtain ⟨kvs', h1, h2, h3, h4⟩ := h
  rw [hk] at h1
  cases h1
  have ne : D ≠ a := ne_of hD hk fun z => nomatch z
  have key : ∀ z, valV (putK kvs (.inr (wS f)) (.ref D)) (.inr (wS z)) = if z = f then some (.ref D) else valV kvs (.inr (wS z)) := fun z => by
    rw [valV_put]
    by_cases q : z = f
    · rw [if_pos q, if_pos (by rw [q])]
    · rw [if_neg q, if_neg fun w => q (wS_inj (Sum.inr.inj w))]
  refine ⟨_, e, fun z hz => ?_, fun z hz => ?_, fun z1 z2 ra e1 e2 => ?_⟩
  · rw [key]
    by_cases q : z = f
    · rw [if_pos q]
      exact ⟨D, rfl, by show H' D = some (.lst (nV (if z = f then [] else g z))); rw [if_pos q]; exact k _ _ ne hD, hD0⟩
    · rw [if_neg q]
      obtain ⟨ra, a1, a2, a3⟩ := h2 z (hz.resolve_left q)
      exact ⟨ra, a1, by show H' ra = some (.lst (nV (if z = f then [] else g z))); rw [if_neg q]; exact k _ _ (ne_of a2 hk fun z => nomatch z) a2, a3⟩
  · rw [key, if_neg fun q => hz (.inl q)]
    exact h3 z fun q => hz (.inr q)
  · rw [key] at e1 e2
    by_cases q1 : z1 = f
    · by_cases q2 : z2 = f
      · rw [q1, q2]
      · rw [if_pos q1] at e1
        rw [if_neg q2] at e2
        cases e1
        exact absurd rfl (hDn _ _ e2)
    · by_cases q2 : z2 = f
      · rw [if_neg q1] at e1
        rw [if_pos q2] at e2
        cases e2
        exact absurd rfl (hDn _ _ e1)
      · rw [if_neg q1] at e1
        rw [if_neg q2] at e2
        exact h4 _ _ _ e1 e2
/-- the forks of a list of flags -/
def forkOf (L : Prs) (f : List Bool) : Prop := ∃ (i : Nat) (n : Str), L[i]? = some (n, f)
theorem forkOf_snoc {L : Prs} {n : Str} {g f : List Bool} : forkOf (L ++ [(n, g)]) f ↔ f = g ∨ forkOf L f := by
  constructor
  · rintro ⟨i, m, h⟩
    by_cases hi : i < L.length
    · rw [List.getElem?_append_left hi] at h
      exact .inr ⟨i, m, h⟩
    · rw [List.getElem?_append_right (by omega)] at h
      have := List.mem_of_getElem? h
      rw [List.mem_singleton] at this
      injection this with _ q
      exact .inl q
  · rintro (rfl | ⟨i, m, h⟩)
    · exact ⟨L.length, n, by simp⟩
    · exact ⟨i, m, by rw [List.getElem?_append_left (List.getElem?_eq_some_iff.mp h).1]; exact h⟩
theorem ixs_none {L : Prs} {f : List Bool} (h : ¬ forkOf L f) : ixs L f = [] := by
  cases e : ixs L f with
  | nil => rfl
  | cons i r =>
    obtain ⟨n, q⟩ := mem_ixs.mp (show i ∈ ixs L f by rw [e]; exact List.mem_cons_self)
    exact absurd ⟨i, n, q⟩ h
/-- a dict from each fork of the flags L to their indexes -/
def FlagsAt (H : Hp) (a : Addr) (L : Prs) : Prop := ∃ H0, RowsAt H0 H a (forkOf L) (ixs L)
theorem FlagsAt.same {H H' : Hp} {a : Addr} {L : Prs} (h : FlagsAt H a L) (s : Same H H') : FlagsAt H' a L := let ⟨H0, r⟩ := h; ⟨H0, r.same s⟩
def spMembers (K : PySem.W.Frag) : Sp := fun vs H Q _ => ∃ (vf : V) (L : Prs), vs = [vf] ∧ Dp K H vf (.list (L.map prD)) ∧ L.length ≤ 1000 ∧ ∀ (a : Addr) (H' : Hp), Same H H' → FlagsAt H' a L → Q (.ref a) H'
section
variable {P : Program} {w : World} {K : PySem.W.Frag} {mg : Str → Option Value} {base : Heap}
theorem c_members (T : Fx K mg) : C8.Cal P w K mg base 1 "_law_members" (spMembers K) [] := by
  refine calN T.d_l_members T.g_l_members sc_l_members (fun vs H Q E h => ?_) (fun _ _ _ _ _ _ us hl => match us, hl with | [_], _ => rfl) (fun cdv A outer s H vs Q E hr h => ?_)
  · obtain ⟨_, _, rfl, _⟩ := h
    rfl
  · obtain ⟨vf, L, rfl, hD, hL, k⟩ := h
    have nd := sc_l_members.nd
    obtain ⟨fa, xs, rfl, hS, hA⟩ := Dp.list_inv hD
    have hxl : xs.length = L.length := by rw [hA.length, List.length_map]
    refine ⟨_, pss_cons (ps_set (i := 1) nd rfl (Or.inl rfl) dicN)
      (pss_cons (ps_for PassesOwn.never rfl (pi_range1 rfl T.z_range (pa_cons (pe_callB call_len_seq (by rfl) T.z_len PySem.boot_len (pa_cons (pv 0) pa_nil)) pa_nil)) (pg_name (i := 2) nd rfl (Or.inl rfl))
        (pss_cons (ps_set (i := 3) nd rfl (Or.inl rfl) (pe_dsetd (pv 1) (ixt (ixl (pv 0) (pv 2)) pe_int) (lstN pa_nil) ⟨rfl, rfl, rfl, rfl⟩))
        (pss_one (ps_expr (pe_bm PySem.F.plainAttrs_list PySem.F.slot_list_append PySem.F.type_list_append mt_append (pv 3) (pa_cons (pv 2) pa_nil))))))
      (pss_one (ps_ret (pv 1)))), ?_⟩
    intro a H1 n1 s1 e1
    refine ⟨_, rfl, fa, _, rfl, .inl (s1.seq hS), _, rfl, by omega, by omega, for_range (lo := 0) (n := ((xs.length : Nat) : Int).toNat) (fun i σ H' => ∃ (y2 y3 : Option V) (kvs : List (Key × V)), σ = [some (.ref fa), some (.ref a), y2, y3] ∧ H' a = some (.dK kvs) ∧ kvs.length ≤ i ∧ RowsAt H H' a (forkOf (L.take i)) (ixs (L.take i)) ∧ Same H H') ?_ ?_ ?_⟩
    · refine ⟨none, none, [], rfl, e1, Nat.le_refl _, ⟨[], e1, fun f hf => ?_, fun f _ => rfl, fun f h ra z => by cases z⟩, s1⟩
      obtain ⟨i, n, z⟩ := hf
      simp at z
    · rintro i σ H2 hi ⟨y2, y3, kvs, rfl, e2, hkl, R2, s2⟩
      rw [Int.toNat_natCast] at hi
      have hi' : i < L.length := by omega
      obtain ⟨⟨n, f⟩, hp⟩ : ∃ p, L[i]? = some p := ⟨_, List.getElem?_eq_getElem hi'⟩
      obtain ⟨v, hv, hDv⟩ := hA.get (i := i) (d := prD (n, f)) (by rw [List.getElem?_map, hp]; rfl)
      obtain ⟨t, u1, u2, rfl, ht, hu1, hu2⟩ := Dp.pair_inv hDv
      obtain rfl := hu1.str_inv
      obtain rfl := hu2.str_inv
      have tk : L.take (i + 1) = L.take i ++ [(n, f)] := take_snoc hp
      have tl : (L.take i).length = i := by rw [List.length_take]; omega
      refine ⟨_, rfl, a, rfl, .inl ⟨_, .inl e2⟩, _, rfl, _, rfl, fa, _, _, _, rfl, rfl, s2.seq hS, by rw [Int.zero_add]; exact atI_nat hv, t, _, _, _, rfl, rfl, Same.seqT s2 ht, atI_nat (j := 1) rfl, ?_⟩
      refine ⟨Nat.zero_le _, fun D H3 n3 s3 e3 => ?_⟩
      have e3a := s3 _ _ e2
      have R3 := R2.same s3
      have s3' := s2.trans s3
      refine ⟨kvs, .inr (wS f), e3a, rfl, by rw [sizeLine_eq]; omega, fun v hv => ?_, fun hn => ?_⟩
      · -- the row is there
        obtain ⟨kvs', z1, z2, z3, z4⟩ := id R3
        rw [e3a] at z1
        cases z1
        have hF : forkOf (L.take i) f := Classical.byContradiction fun q => by
          rw [z3 f q] at hv
          cases hv
        obtain ⟨ra, a1, a2, a3⟩ := z2 f hF
        rw [hv] at a1
        cases a1
        refine ⟨_, rfl, .inl ⟨rfl, _, SqL.of a2⟩, _, rfl, ra, _, _, rfl, rfl, a2, ?_, ?_⟩
        · have : (ixs (L.take i) f).length ≤ (L.take i).length := by
            unfold ixs
            rw [List.length_map]
            refine Nat.le_trans (List.length_filter_le _ _) ?_
            rw [List.length_zipIdx]
            exact Nat.le_refl _
          unfold nV
          rw [List.length_map, sizeLine_eq]
          omega
        · refine put fun H4 k4 e4 => ?_
          refine ⟨_, _, kvs, rfl, k4 _ _ (ne_of e3a a2 fun z => nomatch z) e3a, by omega, ?_, s3'.kp1 k4 a3⟩
          refine (R3.app (f := f) (xs := ixs (L.take i) f ++ [i]) e3a hv ⟨_, a2⟩ k4 (by rw [e4, Int.zero_add]; unfold nV; rw [List.map_append]; rfl)).imp (fun z => ?_) fun z hz => ?_
          · rw [tk, forkOf_snoc]
            exact ⟨fun q => q.elim (fun q => q ▸ hF) id, .inr⟩
          · rw [tk, ixs_snoc, tl]
            by_cases q : z = f
            · rw [if_pos q.symm, if_pos q, q]
            · rw [if_neg (Ne.symm q), if_neg q]
      · -- a new row
        have hF : ¬ forkOf (L.take i) f := fun q => by
          obtain ⟨kvs', z1, z2, z3, z4⟩ := id R3
          rw [e3a] at z1
          cases z1
          obtain ⟨ra, a1, _⟩ := z2 f q
          rw [hn] at a1
          cases a1
        have nD0 : H D = none := s2.free n3
        have hDn : ∀ z ra, valV kvs (.inr (wS z)) = some (.ref ra) → ra ≠ D := fun z ra hz q => by
          obtain ⟨kvs', z1, z2, z3, z4⟩ := id R2
          rw [e2] at z1
          cases z1
          have hFz : forkOf (L.take i) z := Classical.byContradiction fun q => by
            rw [z3 z q] at hz
            cases hz
          obtain ⟨rz, a1, a2, _⟩ := z2 z hFz
          rw [hz] at a1
          cases a1
          rw [q, n3] at a2
          cases a2
        -- the dict grows
        have R4 := R3.new (H' := upd H3 a (.dK (putK kvs (.inr (wS f)) (.ref D)))) e3a hF e3 nD0 hDn kp_put upd_same
        have s4 : Same H (upd H3 a (.dK (putK kvs (.inr (wS f)) (.ref D)))) := s3'.kp1 kp_put n1
        have naD : D ≠ a := ne_of e3 e3a fun z => nomatch z
        have e4D : upd H3 a (.dK (putK kvs (.inr (wS f)) (.ref D))) D = some (.lst []) := by rw [upd_ne naD]; exact e3
        have e4a : upd H3 a (.dK (putK kvs (.inr (wS f)) (.ref D))) a = some (.dK (putK kvs (.inr (wS f)) (.ref D))) := upd_same
        have hput : putK kvs (.inr (wS f)) (.ref D) = kvs ++ [(.inr (wS f), .ref D)] := putK_new _ hn
        refine ⟨_, rfl, .inl ⟨rfl, _, SqL.of e4D⟩, _, rfl, D, _, _, rfl, rfl, e4D, by rw [sizeLine_eq]; show 0 < _; decide, ?_⟩
        refine put fun H5 k5 e5 => ?_
        refine ⟨_, _, _, rfl, k5 _ _ naD.symm e4a, by rw [hput, List.length_append]; show _ + 1 ≤ _; omega, ?_, s4.kp1 k5 nD0⟩
        have hvf : valV (putK kvs (.inr (wS f)) (.ref D)) (.inr (wS f)) = some (.ref D) := by rw [valV_put, if_pos rfl]
        refine (R4.app (f := f) (xs := [i]) e4a hvf ⟨_, e4D⟩ k5 (by rw [e5, Int.zero_add]; rfl)).imp (fun z => ?_) fun z hz => ?_
        · rw [tk, forkOf_snoc]
        · rw [tk, ixs_snoc, tl]
          by_cases q : z = f
          · rw [if_pos q.symm, if_pos q, q, ixs_none hF]
            rfl
          · rw [if_neg (Ne.symm q), if_neg q, if_neg q]
    · rintro σ H2 ⟨y2, y3, kvs, rfl, e2, hkl, R2, s2⟩
      rw [Int.toNat_natCast, List.take_of_length_le (by omega)] at R2
      exact ⟨_, rfl, k a H2 s2 ⟨H, R2⟩⟩
end
end FF
/-! Boards, the told one, the turns, as the law reckons them. -/
namespace FF
open PySem PySem.Spec PyProof.Rows L2
theorem dget_s {H : Hp} {a : Addr} {kvs : List (Key × V)} {x : Str} {o : Option V} (h : H a = some (.dK kvs)) (hv : valV kvs (.inr x) = o) : DGet H a (.str x) o := hv ▸ DGet.k (k := .inr x) h
theorem str01 {i : Int} (h : i = 0 ∨ i = 1) : (Str.ofString (toString i)) = SX.S [chB (decide (i = 1))] := by
  rcases h with rfl | rfl <;> decide +kernel
theorem log01 {i : Int} (h : i = 0 ∨ i = 1) : i.natAbs.log2 < 1920 := by
  rcases h with rfl | rfl <;> decide
theorem bsum2 (L : Prs) (ms : List Int) (f : List Bool) : bsum L ms f % 2 = 0 ∨ bsum L ms f % 2 = 1 := by omega
theorem ixs_len (L : Prs) (f : List Bool) : (ixs L f).length ≤ L.length := by
  unfold ixs
  rw [List.length_map]
  refine Nat.le_trans (List.length_filter_le _ _) ?_
  rw [List.length_zipIdx]
  exact Nat.le_refl _
theorem nV_get {l : List Nat} {i : Nat} {x : V} (h : (nV l)[i]? = some x) : ∃ j, l[i]? = some j ∧ x = .int (j : Nat) := by
  unfold nV at h
  rw [List.getElem?_map] at h
  cases e : l[i]? with
  | none =>
    rw [e] at h
    cases h
  | some j =>
    rw [e] at h
    exact ⟨j, rfl, (Option.some.inj h).symm⟩
theorem nV_len (l : List Nat) : (nV l).length = l.length := List.length_map _
def spBoard (K : PySem.W.Frag) : Sp := fun vs H Q _ => ∃ (ma mk : Addr) (f : List Bool) (L : Prs) (ms : List Int), vs = [.ref ma, .ref mk, .str (wS f)] ∧ FlagsAt H ma L ∧ forkOf L f ∧ SqL K H mk (ms.map V.int) ∧ M01 ms L.length ∧ L.length ≤ 1000 ∧
  ∀ H' : Hp, Same H H' → Q (.str (SX.S [chB (bd L ms f)])) H'
section
variable {P : Program} {w : World} {K : PySem.W.Frag} {mg : Str → Option Value} {base : Heap}
theorem c_board (T : Fx K mg) : C8.Cal P w K mg base 1 "_law_board" (spBoard K) [] := by
  refine calN T.d_l_board T.g_l_board sc_l_board (fun vs H Q E h => ?_) (fun _ _ _ _ _ _ us hl => match us, hl with | [_, _, _], _ => rfl) (fun cdv A outer s H vs Q E hr h => ?_)
  · obtain ⟨_, _, _, _, _, rfl, _⟩ := h
    rfl
  · obtain ⟨ma, mk, f, L, ms, rfl, hF, hf, hM, h01, hL, k⟩ := h
    have nd := sc_l_board.nd
    refine ⟨_, pss_one (ps_ret (pe_callTy call_str_int (by rfl) T.z_str (by decide +kernel) (pa_cons (pe_op op_mod (pe_callTy call_int1 (by rfl) T.z_int (by decide +kernel) (pa_cons
      (pe_callB (cr_sum rfl) (by rfl) T.z_sum (by decide +kernel) (pa_cons (pe_lc (own := [("_law_place", 3)]) (g := gName 3) (tt := tYes) rfl nd (pi_list (pe_dget (hu_of hr) (pv 0) (pv 2) (fun _ _ => rfl)))
        (blkOk_by (own := [("_law_place", 3)]) (N := ["_law_members_here", "_law_marks", "_law_fork", "_law_place"]) (sc := defScope s_l_board) (by decide +kernel)) (fun _ _ _ _ _ => pg_name (i := 3) nd rfl (Or.inl rfl)) (fun _ _ _ _ _ => pts_nil)
        (fun _ _ _ _ _ => ixlK (K := K) rfl (pv 1) (pv 3))) pa_nil)) pa_nil)) pe_int) pa_nil))), ?_⟩
    obtain ⟨H0, kvs, h1, h2, _, _⟩ := hF
    obtain ⟨ra, a1, a2, _⟩ := h2 f hf
    refine ⟨_, rfl, _, rfl, ma, _, rfl, dget_s h1 a1, ra, rfl, ⟨_, SqL.of a2⟩, fun D hD => ?_⟩
    refine lc_list (K := K) (a := ra) (xs := nV (ixs L f)) (fun i H' => H' D = some (.lst ((((ixs L f).take i).map fun j => ms.getD j 0).map V.int)) ∧ Same H H') ⟨upd_same, same_new hD⟩ (fun i H' _ h => h.2.seq (SqL.of a2)) ?_ ?_
    · rintro i x H' hx ⟨c1, c2⟩
      obtain ⟨j, hj, rfl⟩ := nV_get hx
      obtain ⟨m, m1, m2, _⟩ := h01.get (ixs_lt (List.mem_of_getElem? hj))
      refine ⟨rfl, tyes ?_⟩
      refine ⟨_, rfl, _, rfl, mk, _, _, .int m, rfl, rfl, c2.seq hM, atI_nat (by rw [List.getElem?_map, m1]; rfl), _, c1, ?_, ?_, fun b o e => ?_⟩
      · rw [List.length_map, List.length_map, List.length_take, sizeLine_eq]
        have := ixs_len L f
        omega
      · rw [upd_same, take_snoc hj, List.map_append, List.map_append]
        show some (HO.lst (_ ++ [V.int m])) = some (HO.lst (_ ++ [V.int (ms.getD j 0)]))
        rw [m2]
      · rw [upd_ne (ne_of_none e hD)]
        exact c2 _ _ e
    · rintro H' ⟨c1, c2⟩
      rw [nV_len, List.take_length] at c1
      refine ⟨D, _, rfl, SqL.of c1, .inl ⟨_, rfl, ?_⟩⟩
      refine ⟨_, _, rfl, rfl, (by show (0 : Int) < 2; decide), _, rfl, log01 (bsum2 L ms f), ?_⟩
      have e := str01 (bsum2 L ms f)
      show Q (.str (Str.ofString (toString (bsum L ms f % 2)))) H'
      rw [e]
      exact k H' c2
def spToldL (K : PySem.W.Frag) : Sp := fun vs H Q _ => ∃ (vp : V) (ma mk : Addr) (s : Sh) (sp : Prs) (ms : List Int), vs = [vp, .ref ma, .ref mk] ∧ Dp K H vp (.list (sp.map prD)) ∧ FlagsAt H ma (fl sp) ∧ SqL K H mk (ms.map V.int) ∧ M01 ms (fl sp).length ∧ Ok s sp ∧
  ∀ (n : Str) (H' : Hp), Same H H' → (n, told s sp ms) ∈ sp → Q (.str n) H'
theorem Ok.fl_few {s : Sh} {sp : Prs} (h : Ok s sp) : (fl sp).length ≤ 132 := by
  have := fl_le fun p hp => h.depth hp
  have := h.few
  omega
theorem Ok.fork_at {s s' : Sh} {sp : Prs} {f : List Bool} (h : Ok s sp) (hf : s.at' f = some s') : forkOf (fl sp) f ↔ ∃ l r, s' = .nd l r := by
  unfold forkOf
  rw [← h.fork_iff f, Sh.mem_forks]
  constructor
  · rintro ⟨g, l, r, e, q⟩
    rw [List.nil_append] at e
    subst e
    rw [hf] at q
    exact ⟨l, r, Option.some.inj q⟩
  · rintro ⟨l, r, rfl⟩
    exact ⟨f, l, r, rfl, hf⟩
theorem c_toldL (T : Fx K mg) : C8.Cal P w K mg base 2 "_law_told" (spToldL K) [] := by
  have cB : C8.Cal P w K mg base 1 "_law_board" (spBoard K) [] := c_board T
  refine calN T.d_l_told T.g_l_told sc_l_told (fun vs H Q E h => ?_) (fun _ _ _ _ _ _ us hl => match us, hl with | [_, _, _], _ => rfl) (fun cdv A outer s H vs Q E hr h => ?_)
  · obtain ⟨_, _, _, _, _, _, rfl, _⟩ := h
    rfl
  · obtain ⟨vp, ma, mk, s, sp, ms, rfl, hD, hF, hM, h01, hO, k⟩ := h
    have nd := sc_l_told.nd
    obtain ⟨pa, xs, rfl, hS, hA⟩ := Dp.list_inv hD
    have hxl : xs.length = sp.length := by rw [hA.length, List.length_map]
    refine ⟨_, pss_cons (ps_set (i := 3) nd rfl (Or.inr rfl) pe_str)
      (pss_cons (ps_for PassesOwn.never rfl (pi_range1 rfl T.z_range (pa_cons pe_int pa_nil)) (pg_name (i := 4) nd rfl (Or.inl rfl))
        (pss_cons (ps_if (pt_cmp (pc_dnotin (hu_of hr) (pv 3) (pv 1)))
          (pss_one (ps_ret (ixl (pe_lc (own := [("_law_pair", 5)]) (g := gName 5) rfl nd (pi_list (pv 0))
            (blkOk_by (own := [("_law_pair", 5)]) (N := ["_law_pairs", "_law_members_here", "_law_marks", "_law_fork", "_law_k", "_law_pair"]) (sc := defScope s_l_told) (by decide +kernel)) (fun _ _ _ _ _ => pg_name (i := 5) nd rfl (Or.inl rfl))
            (fun _ _ _ _ _ => pts_one (pt_cmpR op_eq (ixtK (K := K) rfl (pv 5) pe_int) (pv 3) (nomark _))) (fun _ _ _ _ _ => ixtK (K := K) rfl (pv 5) pe_int)) pe_int))) pss_nil)
        (pss_one (ps_set (i := 3) nd rfl (Or.inr rfl) (pe_op op_add_str (pv 3) (C8.pe_c cB hr (Nat.le_refl _) (by rfl) (pa_cons (pv 1) (pa_cons (pv 2) (pa_cons (pv 3) pa_nil)))))))))
      (pss_one (ps_ret pe_str))), ?_⟩
    refine ⟨12, rfl, by decide, by decide, for_range (lo := 0) (n := 12) (fun i σ H' => ∃ (y4 y5 : Option V) (f : List Bool) (s' : Sh), σ = [some (.ref pa), some (.ref ma), some (.ref mk), some (.str (wS f)), y4, y5] ∧ f.length = i ∧ s.at' f = some s' ∧ s'.walk (bd (fl sp) ms) f = told s sp ms ∧ Same H H') ?_ ?_ ?_⟩
    · exact ⟨none, none, [], s, by rw [wS_nil]; rfl, rfl, Sh.at_nil s, rfl, Same.refl _⟩
    · rintro i σ H2 hi ⟨y4, y5, f, s', rfl, hl, hat, hw, s2⟩
      obtain ⟨H0, kvs, h1, h2, h3, _⟩ := hF.same s2
      refine ⟨_, rfl, _, rfl, ma, valV kvs (.inr (wS f)), rfl, dget_s h1 rfl, _, rfl, ?_⟩
      cases s' with
      | lf =>
        have nf : ¬ forkOf (fl sp) f := fun z => by
          obtain ⟨l, r, q⟩ := (hO.fork_at hat).mp z
          cases q
        rw [h3 f nf]
        refine iteT ?_
        have ef : f = told s sp ms := hw
        refine ⟨_, rfl, pa, rfl, ⟨_, s2.seq hS⟩, fun D hD => ?_⟩
        refine lc_list (K := K) (a := pa) (xs := xs) (fun j H' => H' D = some (.lst ((((sp.take j).filter fun p => decide (p.2 = f)).map (·.1)).map V.str)) ∧ Same H2 H') ⟨upd_same, same_new hD⟩ (fun j H' _ h => h.2.seq (s2.seq hS)) ?_ ?_
        · rintro j x H' hx ⟨c1, c2⟩
          obtain ⟨d, hd1, hd2⟩ := hA.get' hx
          rw [List.getElem?_map] at hd1
          cases hp : sp[j]? with
          | none =>
            rw [hp] at hd1
            cases hd1
          | some p =>
            rw [hp] at hd1
            have ed : prD p = d := Option.some.inj hd1
            subst ed
            obtain ⟨t, u1, u2, rfl, ht, hu1, hu2⟩ := Dp.pair_inv hd2
            obtain rfl := hu1.str_inv
            obtain rfl := hu2.str_inv
            have ht' := Same.seqT c2 (Same.seqT s2 ht)
            refine ⟨rfl, ?_⟩
            refine ⟨_, rfl, t, _, _, _, rfl, rfl, ht', atI_nat (j := 1) rfl, _, rfl, rfl, _, rfl, ?_⟩
            refine ite2 (fun q => ?_) (fun q => ?_)
            · have q1 := of_decide_eq_true q
              have q2 : p.2 = f := by
                injection q1 with q1
                exact wS_inj q1
              refine ⟨_, rfl, t, _, _, _, rfl, rfl, ht', atI_nat (j := 0) rfl, _, c1, ?_, ?_, fun b o e => ?_⟩
              · rw [List.length_map, List.length_map, sizeLine_eq]
                refine Nat.lt_of_le_of_lt (List.length_filter_le _ _) ?_
                rw [List.length_take]
                have := hO.few
                omega
              · rw [upd_same, take_snoc hp, List.filter_append, List.map_append, List.map_append]
                simp [q2]
              · rw [upd_ne (ne_of_none e hD)]
                exact c2 _ _ e
            · have q2 : p.2 ≠ f := fun z => q (decide_eq_true (by rw [z]))
              refine ⟨?_, c2⟩
              rw [c1, take_snoc hp, List.filter_append]
              simp [q2]
        · rintro H' ⟨c1, c2⟩
          rw [List.take_of_length_le (by omega)] at c1
          obtain ⟨n, hn⟩ := hO.of_way (told_mem s sp ms)
          rw [← ef] at hn
          have hm : (n, f) ∈ sp.filter fun p => decide (p.2 = f) := List.mem_filter.mpr ⟨hn, by simp⟩
          cases e : sp.filter fun p => decide (p.2 = f) with
          | nil =>
            rw [e] at hm
            cases hm
          | cons p r =>
            rw [e] at c1
            have hp : p ∈ sp.filter fun p => decide (p.2 = f) := by
              rw [e]
              exact List.mem_cons_self
            obtain ⟨q1, q2⟩ := List.mem_filter.mp hp
            have q2 := of_decide_eq_true q2
            refine ⟨D, _, _, .str p.1, rfl, rfl, SqL.of c1, atI_nat (j := 0) rfl, k p.1 H' (s2.trans c2) ?_⟩
            rw [← ef, ← q2]
            exact q1
      | nd l r =>
        have nf : forkOf (fl sp) f := (hO.fork_at hat).mpr ⟨l, r, rfl⟩
        obtain ⟨ra, a1, _⟩ := h2 f nf
        rw [a1]
        refine iteF ?_
        have hfew := hO.fl_few
        refine ⟨_, rfl, _, rfl, _, rfl, _, rfl, ma, mk, f, fl sp, ms, rfl, hF.same s2, nf, s2.seq hM, h01, by omega, fun H3 s3 => ?_⟩
        refine ⟨_, _, rfl, rfl, by
          rw [wS_len, SX.S_len, sizeLine_eq]
          show _ + 1 ≤ _
          omega, ?_⟩
        rw [wS_c]
        refine ⟨_, _, f ++ [bd (fl sp) ms f], _, rfl, by rw [List.length_append, hl]; rfl, Sh.at_snoc _ hat, ?_, s2.trans s3⟩
        rw [← hw, Sh.walk_step]
    · rintro σ H2 ⟨y4, y5, f, s', rfl, hl, hat, hw, s2⟩
      exfalso
      obtain ⟨g, hg⟩ := Sh.leaf s'
      have h1 : f ++ g ∈ s.ways [] := (Sh.mem_ways _ _ _).mpr ⟨f ++ g, rfl, by rw [Sh.at_app hat]; exact hg⟩
      obtain ⟨n, hn⟩ := hO.of_way h1
      have := hO.depth hn
      rw [List.length_append] at this
      omega
end
end FF
/-! The turns of an update, as the law reckons them. -/
namespace FF
open PySem PySem.Spec PyProof.Rows L2
theorem strOk_of {z : Str} (h : ∀ c ∈ z.cps.toList, c < 1114112) : PyData.strOk z = true := by
  unfold PyData.strOk
  rw [Array.all_eq_true']
  intro c hc
  exact decide_eq_true (h c (Array.mem_toList_iff.mpr hc))
theorem IsNm.ok {z : Str} (h : IsNm z) : PyData.strOk z = true := strOk_of fun c hc => by
  have := h.2.2 c hc
  omega
theorem wS_ok (w : List Bool) : PyData.strOk (wS w) = true := strOk_of fun c hc => by
  rw [wS_tl] at hc
  obtain ⟨b, _, e⟩ := List.mem_map.mp hc
  rw [← e]
  cases b <;> decide
theorem shaped_pr {p : Str × List Bool} (h : PyData.strOk p.1 = true) : SeqAt.shaped (prD p) = true := by
  unfold SeqAt.shaped
  rw [Bool.and_eq_true]
  refine ⟨?_, ?_⟩
  · show PyData.canLay0 (.tuple [.str p.1, .str (wS p.2)]) = true
    simp [PyData.canLay0, PyData.canLayAll0, h, wS_ok]
  · show decide (PyData.depth (.tuple [.str p.1, .str (wS p.2)]) ≤ 64) = true
    simp [PyData.depth, PyData.depthAll]
theorem canLay_prs : ∀ {L : Prs}, (∀ p ∈ L, PyData.strOk p.1 = true) → PyData.canLayAll0 (L.map prD) = true
  | [], _ => by simp [PyData.canLayAll0]
  | p :: L, h => by
    rw [List.map_cons, PyData.canLayAll0, canLay_prs fun q hq => h q (List.mem_cons_of_mem _ hq)]
    have : PyData.canLay0 (.tuple [.str p.1, .str (wS p.2)]) = true := by simp [PyData.canLay0, PyData.canLayAll0, h p List.mem_cons_self, wS_ok]
    show (PyData.canLay0 (prD p) && true) = true
    rw [Bool.and_true]
    exact this
theorem depth_prs : ∀ L : Prs, PyData.depthAll (L.map prD) ≤ 1
  | [] => by simp [PyData.depthAll]
  | p :: L => by
    rw [List.map_cons, PyData.depthAll]
    have := depth_prs L
    have h : PyData.depth (prD p) = 1 := by simp [prD, PyData.depth, PyData.depthAll]
    omega
theorem shaped_prs {L : Prs} (h : ∀ p ∈ L, PyData.strOk p.1 = true) : SeqAt.shaped (.list (L.map prD)) = true := by
  unfold SeqAt.shaped
  rw [Bool.and_eq_true]
  refine ⟨?_, decide_eq_true ?_⟩
  · rw [PyData.canLay0]
    exact canLay_prs h
  · rw [PyData.depth]
    have := depth_prs L
    omega
theorem eqv_pr (p q : Str × List Bool) : PyData.eqv (prD p) (prD q) = decide (p = q) := by
  show PyData.eqv (.tuple [.str p.1, .str (wS p.2)]) (.tuple [.str q.1, .str (wS q.2)]) = _
  rw [PyData.eqv, PyData.eqvAll, PyData.eqvAll, PyData.eqvAll, PyData.eqv, PyData.eqv, Bool.and_true]
  by_cases h1 : p.1 = q.1
  · by_cases h2 : p.2 = q.2
    · have e : p = q := Prod.ext h1 h2
      subst e
      simp
    · have : wS p.2 ≠ wS q.2 := fun z => h2 (wS_inj z)
      have ne : p ≠ q := fun z => h2 (by rw [z])
      simp [this, ne]
  · have ne : p ≠ q := fun z => h1 (by rw [z])
    simp [h1, ne]
theorem rev_range {n i : Nat} (h : i < n) : (List.range n).reverse[i]? = some (n - 1 - i) := by
  rw [List.getElem?_reverse (by rw [List.length_range]; exact h), List.length_range, List.getElem?_range (by omega)]
theorem fl_nodup {sp : Prs} (hn : (sp.map (·.1)).Nodup) : (fl sp).Nodup := by
  induction sp with
  | nil => exact List.nodup_nil
  | cons p sp ih =>
    obtain ⟨n1, n2⟩ := List.nodup_cons.mp hn
    rw [fl_cons]
    refine List.nodup_append.mpr ⟨?_, ih n2, fun a ha b hb e => ?_⟩
    · refine List.pairwise_map.mpr (List.Pairwise.imp_of_mem (fun {a b} ha hb h z => ?_) (show (List.range p.2.length).Pairwise (fun a b => a < b) from List.pairwise_lt_range))
      have ha := List.mem_range.mp ha
      have hb := List.mem_range.mp hb
      injection z with _ z
      have := congrArg List.length z
      rw [List.length_take, List.length_take] at this
      omega
    · subst e
      obtain ⟨l, _, e⟩ := List.mem_map.mp ha
      obtain ⟨q, hq, l', _, e'⟩ := mem_fl.mp hb
      have h1 : p.1 = q.1 := by
        have e2 := e.trans e'
        injection e2
      exact n1 (List.mem_map.mpr ⟨q, hq, h1.symm⟩)
def spTurnsL (K : PySem.W.Frag) : Sp := fun vs H Q _ => ∃ (vp vf : V) (mk : Addr) (s : Sh) (sp : Prs) (ms : List Int) (who : Str) (w : List Bool), vs = [vp, vf, .ref mk, .str who] ∧ Dp K H vp (.list (sp.map prD)) ∧ Dp K H vf (.list ((fl sp).map prD)) ∧ SqL K H mk (ms.map V.int) ∧ M01 ms (fl sp).length ∧ Ok s sp ∧
  (∀ p ∈ sp, IsNm p.1) ∧ (who, w) ∈ sp ∧ ∀ (a : Addr) (H' : Hp), H a = none → Same H H' → H' a = some (.lst (nV (tix sp ms who w))) → Q (.ref a) H'
section
variable {P : Program} {w : World} {K : PySem.W.Frag} {mg : Str → Option Value} {base : Heap}
theorem c_turnsL (T : Fx K mg) : C8.Cal P w K mg base 2 "_law_turns" (spTurnsL K) [] := by
  have cB : C8.Cal P w K mg base 1 "_law_board" (spBoard K) [] := c_board T
  have cM : C8.Cal P w K mg base 1 "_law_members" (spMembers K) [] := c_members T
  refine calN T.d_l_turns T.g_l_turns sc_l_turns (fun vs H Q E h => ?_) (fun _ _ _ _ _ _ us hl => match us, hl with | [_, _, _, _], _ => rfl) (fun cdv A outer s H vs Q E hr h => ?_)
  · obtain ⟨_, _, _, _, _, _, _, _, rfl, _⟩ := h
    rfl
  · obtain ⟨vp, vf, mk, s, sp, ms, who, w, rfl, hD, hF, hM, h01, hO, hNm, hW, k⟩ := h
    have nd := sc_l_turns.nd
    obtain ⟨pa, xs, rfl, hS, hA⟩ := Dp.list_inv hD
    obtain ⟨fa, ys, rfl, hSf, hAf⟩ := Dp.list_inv hF
    have hxl : xs.length = sp.length := by rw [hA.length, List.length_map]
    have hfew := hO.fl_few
    have hdw : w.length ≤ 11 := hO.depth hW
    have hu65 : ∀ {j : Nat} {A' : Around}, Room j A' → A'.units + 65 < cLine := fun r => by
      have := r.un
      omega
    refine ⟨_, pss_cons (ps_set (i := 4) nd rfl (Or.inl rfl) (C8.pe_c cM hr (Nat.le_refl _) (by rfl) (pa_cons (pv 1) pa_nil)))
      (pss_cons (ps_set (i := 5) nd rfl (Or.inl rfl) (ixl (pe_lc (own := [("_law_pair", 6)]) (g := gName 6) rfl nd (pi_list (pv 0))
            (blkOk_by (own := [("_law_pair", 6)]) (N := ["_law_pairs", "_law_flags_here", "_law_marks", "_law_who", "_law_members_here", "_law_way", "_law_pair", "_law_turns_here", "_law_k", "_law_fork"]) (sc := defScope s_l_turns) (by decide +kernel)) (fun _ _ _ _ _ => pg_name (i := 6) nd rfl (Or.inl rfl))
            (fun _ _ _ _ _ => pts_one (pt_cmpR op_eq (ixtK (K := K) rfl (pv 6) pe_int) (pv 3) (nomark _))) (fun _ _ _ _ _ => ixtK (K := K) rfl (pv 6) pe_int)) pe_int))
      (pss_cons (ps_set (i := 7) nd rfl (Or.inl rfl) (lstN pa_nil))
      (pss_cons (ps_for PassesOwn.never rfl (pi_range1 rfl T.z_range (pa_cons (pe_callB call_len_str (by rfl) T.z_len PySem.boot_len (pa_cons (pv 5) pa_nil)) pa_nil)) (pg_name (i := 8) nd rfl (Or.inl rfl))
        (pss_cons (ps_set (i := 9) nd rfl (Or.inl rfl) (pe_slice C8.sl_txt (pv 5) po_none (po_some (pe_op op_sub (pe_op op_sub (pe_callB call_len_str (by rfl) T.z_len PySem.boot_len (pa_cons (pv 5) pa_nil)) pe_int) (pv 8)))))
        (pss_one (ps_if (pt_cmpR op_ne (C8.pe_c cB hr (Nat.le_refl _) (by rfl) (pa_cons (pv 4) (pa_cons (pv 2) (pa_cons (pv 9) pa_nil)))) (ixs' (pv 5) (pe_callB call_len_str (by rfl) T.z_len PySem.boot_len (pa_cons (pv 9) pa_nil))) (nomark _))
          (pss_one (ps_expr (pe_bm PySem.F.plainAttrs_list PySem.F.slot_list_append PySem.F.type_list_append mt_append (pv 7) (pa_cons
            (pe_bm PySem.F.plainAttrs_list PySem.F.slot_list_index PySem.F.type_list_index (mt_indexD (hu65 hr)) (pv 1) (pa_cons (tupN (pa_cons (pv 3) (pa_cons (pv 9) pa_nil))) pa_nil)) pa_nil)))) pss_nil))))
      (pss_one (ps_ret (pv 7)))))), ?_⟩
    refine ⟨_, rfl, .ref fa, fl sp, rfl, hF, by omega, fun ma H1 s1 F1 => ?_⟩
    refine ⟨_, rfl, pa, rfl, ⟨_, s1.seq hS⟩, fun D hDn => ?_⟩
    refine lc_list (K := K) (a := pa) (xs := xs) (fun j H' => H' D = some (.lst (wSs (((sp.take j).filter fun p => decide (p.1 = who)).map (·.2)))) ∧ Same H1 H') ⟨upd_same, same_new hDn⟩ (fun j H' _ h => h.2.seq (s1.seq hS)) ?_ ?_
    · rintro j x H' hx ⟨c1, c2⟩
      obtain ⟨d, hd1, hd2⟩ := hA.get' hx
      rw [List.getElem?_map] at hd1
      cases hp : sp[j]? with
      | none =>
        rw [hp] at hd1
        cases hd1
      | some p =>
        rw [hp] at hd1
        have ed : prD p = d := Option.some.inj hd1
        subst ed
        obtain ⟨t, u1, u2, rfl, ht, hu1, hu2⟩ := Dp.pair_inv hd2
        obtain rfl := hu1.str_inv
        obtain rfl := hu2.str_inv
        have ht' := Same.seqT c2 (Same.seqT s1 ht)
        refine ⟨rfl, ?_⟩
        refine ⟨_, rfl, t, _, _, _, rfl, rfl, ht', atI_nat (j := 0) rfl, _, rfl, rfl, _, rfl, ?_⟩
        refine ite2 (fun q => ?_) (fun q => ?_)
        · have q1 := of_decide_eq_true q
          have q2 : p.1 = who := by injection q1
          refine ⟨_, rfl, t, _, _, _, rfl, rfl, ht', atI_nat (j := 1) rfl, _, c1, ?_, ?_, fun b o e => ?_⟩
          · unfold wSs
            rw [List.length_map, List.length_map, List.length_map, sizeLine_eq]
            refine Nat.lt_of_le_of_lt (List.length_filter_le _ _) ?_
            rw [List.length_take]
            have := hO.few
            omega
          · rw [upd_same, take_snoc hp, List.filter_append, List.map_append]
            simp [q2, wSs]
          · rw [upd_ne (ne_of_none e hDn)]
            exact c2 _ _ e
        · have q2 : p.1 ≠ who := fun z => q (decide_eq_true (by rw [z]))
          refine ⟨?_, c2⟩
          rw [c1, take_snoc hp, List.filter_append]
          simp [q2]
    · rintro H2 ⟨c1, c2⟩
      rw [List.take_of_length_le (by omega)] at c1
      have hm : (who, w) ∈ sp.filter fun p => decide (p.1 = who) := List.mem_filter.mpr ⟨hW, by simp⟩
      obtain ⟨r, er⟩ : ∃ r, (sp.filter fun p => decide (p.1 = who)).map (·.2) = w :: r := by
        cases e : sp.filter fun p => decide (p.1 = who) with
        | nil =>
          rw [e] at hm
          cases hm
        | cons p r =>
          have hp : p ∈ sp.filter fun p => decide (p.1 = who) := by
            rw [e]
            exact List.mem_cons_self
          obtain ⟨q1, q2⟩ := List.mem_filter.mp hp
          have := hO.name_inj q1 hW (of_decide_eq_true q2)
          exact ⟨r.map (·.2), by rw [List.map_cons, this]⟩
      rw [er] at c1
      refine ⟨D, _, _, .str (wS w), rfl, rfl, SqL.of c1, atI_nat (j := 0) rfl, ?_⟩
      refine ⟨Nat.zero_le _, fun ta H3 n3 s3 e3 => ?_⟩
      have sA : Same H H3 := (s1.trans c2).trans s3
      have n0 : H ta = none := (s1.trans c2).free n3
      have n1 : H1 ta = none := c2.free n3
      have fitw : (wS w).length ≤ sizeLine := wS_fit (by omega)
      refine ⟨_, rfl, _, rfl, fitw, ?_⟩
      rw [wS_len]
      refine ⟨_, rfl, by omega, by omega, for_range (lo := 0) (n := ((w.length : Nat) : Int).toNat) (fun i σ H' => ∃ (y6 y8 y9 : Option V), σ = [some (.ref pa), some (.ref fa), some (.ref mk), some (.str who), some (.ref ma), some (.str (wS w)), y6, some (.ref ta), y8, y9] ∧
        H' ta = some (.lst (nV ((((List.range w.length).reverse.take i).filter fun l => decide (w[l]? ≠ some (bd (fl sp) ms (w.take l)))).map (off sp who + ·)))) ∧ Same H1 H') ?_ ?_ ?_⟩
      · exact ⟨_, _, _, rfl, e3, c2.trans s3⟩
      · rintro i σ H4 hi ⟨y6, y8, y9, rfl, e4, s14⟩
        have F4 := F1.same s14
        have s4 : Same H H4 := s1.trans s14
        rw [Int.toNat_natCast] at hi
        have hri := rev_range hi
        obtain ⟨l, hl⟩ : ∃ l, l = w.length - 1 - i := ⟨_, rfl⟩
        rw [← hl] at hri
        have hlw : l < w.length := by omega
        refine ⟨_, rfl, _, rfl, _, rfl, fitw, _, _, rfl, rfl, _, rfl, _, _, rfl, rfl, _, rfl, _, rfl, fitw, ?_⟩
        have ei : (((wS w).length : Nat) : Int) - 1 - (0 + (i : Int)) = (l : Int) := by
          rw [wS_len]
          omega
        rw [ei, wS_take _ (by omega), Int.toNat_natCast]
        have hfo : forkOf (fl sp) (w.take l) := ⟨_, _, off_fl hO.nod hW hlw⟩
        have ltk : (w.take l).length = l := by
          rw [List.length_take]
          omega
        refine ⟨_, rfl, _, rfl, _, rfl, ma, mk, w.take l, fl sp, ms, rfl, F4, hfo, s4.seq hM, h01, by omega, fun H5 s5 => ?_⟩
        obtain ⟨c, hc⟩ : ∃ c, w[l]? = some c := ⟨_, List.getElem?_eq_getElem hlw⟩
        refine ⟨_, rfl, _, rfl, _, rfl, wS_fit (by omega), _, _, chB c, rfl, rfl, fitw, by rw [wS_len, ltk]; exact wS_at hc, rfl, _, rfl, ?_⟩
        have tk : (List.range w.length).reverse.take (i + 1) = (List.range w.length).reverse.take i ++ [l] := take_snoc hri
        have s45 : Same H H5 := s4.trans s5
        by_cases q : c = bd (fl sp) ms (w.take l)
        · have e : decide (V.str (SX.S [chB (bd (fl sp) ms (w.take l))]) = V.str ⟨#[chB c]⟩) = true := decide_eq_true (by rw [q])
          rw [e]
          refine iteF ?_
          refine ⟨_, _, _, rfl, ?_, s14.trans s5⟩
          rw [tk, List.filter_append, List.map_append, s5 _ _ e4]
          simp [hc, q]
        · have e : decide (V.str (SX.S [chB (bd (fl sp) ms (w.take l))]) = V.str ⟨#[chB c]⟩) = false := decide_eq_false fun z => by
            injection z with z
            have z2 : SX.S [chB (bd (fl sp) ms (w.take l))] = SX.S [chB c] := z
            have z3 := SX.S_inj z2
            injection z3 with z3
            exact q (chB_inj z3).symm
          rw [e]
          refine iteT ?_
          have hof := off_fl hO.nod hW hlw
          refine ⟨_, rfl, .inl ⟨rfl, _, SqL.of (s5 _ _ e4)⟩, ?_⟩
          refine ⟨_, rfl, .inl ⟨rfl, _, s45.seq hSf⟩, _, rfl, _, rfl, (by show 2 ≤ sizeLine; decide), fun t H6 n6 s6 e6 => ?_⟩
          have e6t := s6 _ _ (s5 _ _ e4)
          refine ⟨fa, .ref t, prD (who, w.take l), (fl sp).map prD, off sp who + l, prD (who, w.take l), rfl, rfl, hF.same (s45.trans s6), Dp.pair e6 (.str _) (.str _), shaped_prs fun p hp => ?_, shaped_pr (hNm _ hW).ok, by rw [List.getElem?_map, hof]; rfl, by rw [eqv_pr]; simp, fun m z hm hz => ?_, ?_⟩
          · obtain ⟨p', hp', l', _, e'⟩ := mem_fl.mp hp
            rw [e']
            exact (hNm _ hp').ok
          · rw [List.getElem?_map] at hz
            cases ez : (fl sp)[m]? with
            | none =>
              rw [ez] at hz
              cases hz
            | some x =>
              rw [ez] at hz
              have e2 : prD x = z := Option.some.inj hz
              rw [← e2, eqv_pr]
              refine decide_eq_false fun w2 => ?_
              have h1 := (List.getElem?_eq_some_iff.mp ez)
              have h2 := (List.getElem?_eq_some_iff.mp hof)
              have := (List.getElem_inj (fl_nodup hO.nod)).mp (h1.2.trans (w2.trans h2.2.symm))
              omega
          · refine ⟨ta, _, _, rfl, rfl, e6t, ?_, ?_⟩
            · rw [nV_len, List.length_map, sizeLine_eq]
              refine Nat.lt_of_le_of_lt (List.length_filter_le _ _) ?_
              rw [List.length_take]
              omega
            · refine put fun H7 k7 e7 => ?_
              refine ⟨_, _, _, rfl, ?_, ((s14.trans s5).trans s6).kp1 k7 n1⟩
              · rw [e7, tk, List.filter_append, List.map_append]
                unfold nV
                rw [List.map_append]
                simp [hc, q]
      · rintro σ H4 ⟨y6, y8, y9, rfl, e4, s14⟩
        rw [Int.toNat_natCast, List.take_of_length_le (by rw [List.length_reverse, List.length_range]; exact Nat.le_refl _)] at e4
        exact ⟨_, rfl, k ta H4 n0 (s1.trans s14) e4⟩
end
end FF
/-! Names, trees. -/
namespace FF
open PySem PySem.Spec PyProof.Rows L2
/-! ### isinstance(x, T) -/
theorem isiR {X : Cx} {K : PySem.W.Frag} (hk : X.K = K) : CallR X (.builtin "isinstance") (fun xs H Q => ∃ (x : V) (T t : String) (b : Bool), xs = [x, .ty T] ∧ TyX K H x (.type t) ∧ kitB t T = some b ∧ Q (.bl b) H) := by
  subst hk
  exact CallR.imp call_isi fun _ _ _ ⟨x, T, t, b, h1, h2, h3, h4⟩ => ⟨x, .ty T, .type t, .type T, b, h1, .ty T, h2, kit_ty h3, h4⟩
def spBelow : Sp := fun vs H Q _ => ∃ (i n : Int), vs = [.int i, .int n] ∧ 0 ≤ i ∧ i < n ∧ Q (.bl true) H
def spIsName : Sp := fun vs H Q _ => ∃ (z : Str), vs = [.str z] ∧ IsNm z ∧ Q (.bl true) H
section
variable {P : Program} {w : World} {K : PySem.W.Frag} {mg : Str → Option Value} {base : Heap}
theorem c_below (T : Fx K mg) : C8.Cal P w K mg base 1 "is_below" spBelow [] := by
  refine calN T.d_is_below T.g_is_below sc_is_below (fun vs H Q E h => ?_) (fun _ _ _ _ _ _ us hl => match us, hl with | [_, _], _ => rfl) (fun cdv A outer s H vs Q E hr h => ?_)
  · obtain ⟨_, _, rfl, _⟩ := h
    rfl
  · obtain ⟨i, n, rfl, h0, h1, k⟩ := h
    have nd := sc_is_below.nd
    refine ⟨_, pss_cons (ps_if (PW.pt (pw_or (pt_val (pe_callB (isiR (K := K) rfl) (by rfl) T.z_isinstance (by decide +kernel) (pa_cons (pv 0) (pa_cons (pe_bltn (v := .ty "bool") (by rfl) T.z_bool (by decide +kernel) rfl) pa_nil)))) (pw_or1 (pt_not (pt_val (pe_callB (isiR (K := K) rfl) (by rfl) T.z_isinstance (by decide +kernel) (pa_cons (pv 0) (pa_cons (pe_bltn (v := .ty "int") (by rfl) T.z_int (by decide +kernel) rfl) pa_nil))))))))
        (pss_one (ps_ret pe_bl)) pss_nil)
      (pss_one (ps_ret (pe_chain op_le op_lt pe_int (pv 0) (pv 1)))), ?_⟩
    refine ⟨_, rfl, _, _, "int", false, rfl, .base (.int _), by decide +kernel, _, rfl, ?_⟩
    refine iteF ?_
    refine ⟨_, rfl, _, _, "int", true, rfl, .base (.int _), by decide +kernel, _, rfl, ?_⟩
    refine iteF ?_
    refine ⟨_, rfl, _, _, rfl, rfl, _, rfl, ?_⟩
    show if decide ((0 : Int) ≤ i) = true then _ else _
    rw [decide_eq_true h0]
    refine iteT ⟨_, rfl, _, _, rfl, rfl, ?_⟩
    show Q (.bl (decide (i < n))) H
    rw [decide_eq_true h1]
    exact k
theorem c_isName (T : Fx K mg) : C8.Cal P w K mg base 1 "is_name" spIsName [] := by
  obtain ⟨tm, hm⟩ := T.i_MOST_LETTERS
  obtain ⟨tl, hL⟩ := T.t_LETTERS
  refine calN T.d_is_name T.g_is_name sc_is_name (fun vs H Q E h => ?_) (fun _ _ _ _ _ _ us hl => match us, hl with | [_], _ => rfl) (fun cdv A outer s H vs Q E hr h => ?_)
  · obtain ⟨_, rfl, _⟩ := h
    rfl
  · obtain ⟨z, rfl, hz, k⟩ := h
    have nd := sc_is_name.nd
    refine ⟨_, pss_cons (ps_if (pt_not (pt_val (pe_callB (isiR (K := K) rfl) (by rfl) T.z_isinstance (by decide +kernel) (pa_cons (pv 0) (pa_cons (pe_bltn (v := .ty "str") (by rfl) T.z_str (by decide +kernel) rfl) pa_nil))))) (pss_one (ps_ret pe_bl)) pss_nil)
      (pss_cons (ps_if (pt_not (pt_chain op_le op_le pe_int (pe_callB call_len_str (by rfl) T.z_len PySem.boot_len (pa_cons (pv 0) pa_nil)) (pe_glob (v := .int 8) rfl hm ⟨_, rfl⟩))) (pss_one (ps_ret pe_bl)) pss_nil)
      (pss_cons (ps_for PassesOwn.never rfl (pi_str (pv 0)) (pg_name (i := 1) nd rfl (Or.inl rfl))
        (pss_one (ps_if (pt_cmpR op_notIn_sign (pv 1) (pe_glob (v := .str (Str.ofString "abcdefghijklmnopqrstuvwxyz")) rfl hL ⟨_, rfl⟩) (by rfl)) (pss_one (ps_ret pe_bl)) pss_nil)))
      (pss_one (ps_ret pe_bl)))), ?_⟩
    obtain ⟨z1, z2, z3⟩ := hz
    refine ⟨_, rfl, _, _, "str", true, rfl, .base (.str _), by decide +kernel, _, rfl, ?_⟩
    refine iteF ?_
    refine ⟨_, rfl, _, rfl, by rw [len_tl, sizeLine_eq]; omega, _, _, rfl, rfl, _, rfl, ?_⟩
    show if decide ((1 : Int) ≤ (z.length : Nat)) = true then _ else _
    rw [decide_eq_true (show (1 : Int) ≤ (z.length : Nat) by rw [len_tl]; omega)]
    refine iteT ⟨_, _, rfl, rfl, _, rfl, ?_⟩
    show if (!decide (((z.length : Nat) : Int) ≤ 8)) = true then _ else _
    rw [decide_eq_true (show ((z.length : Nat) : Int) ≤ 8 by rw [len_tl]; omega)]
    refine iteF ?_
    refine ⟨_, rfl, _, rfl, for_it walk_str (fun i σ H' => ∃ y, σ = [some (.str z), y] ∧ H' = H) ⟨none, rfl, rfl⟩ (fun _ _ _ _ _ => trivial) ?_ ?_⟩
    · rintro i x σ H1 H2 hi ⟨y, rfl, rfl⟩ ⟨rfl, c, hc, rfl⟩
      refine ⟨_, rfl, c, _, rfl, rfl, _, rfl, ?_⟩
      have hcm : c ∈ z.cps.toList := List.mem_of_getElem? (by rw [Array.getElem?_toList]; exact hc)
      have hin : c ∈ (Str.ofString "abcdefghijklmnopqrstuvwxyz").cps.toList := by
        have all : ∀ d, 97 ≤ d → d ≤ 122 → d ∈ (Str.ofString "abcdefghijklmnopqrstuvwxyz").cps.toList := by
          intro d h1 h2
          have e : (Str.ofString "abcdefghijklmnopqrstuvwxyz").cps.toList = List.range' 97 26 := by decide +kernel
          rw [e, List.mem_range'_1]
          omega
        exact all c (z3 c hcm).1 (z3 c hcm).2
      show if (!decide (c ∈ (Str.ofString "abcdefghijklmnopqrstuvwxyz").cps.toList)) = true then _ else _
      rw [decide_eq_true hin]
      exact iteF ⟨_, rfl, rfl⟩
    · rintro σ H1 ⟨y, rfl, rfl⟩
      exact k
end
end FF
/-! Trees: is_tree, check_tree. -/
namespace FF
open PySem PySem.Spec PyProof.Rows L2
theorem tyT {K : PySem.W.Frag} {H : Hp} {a : Addr} {xs : List V} (h : SqT K H a xs) : TyX K H (.ref a) (.type "tuple") := by
  rcases h with (h | ⟨o, h⟩) | ⟨o, _, _, h, c, _⟩
  · exact .base (.tup h)
  · exact .fTuple h
  · exact .kTuple h c
/-- names of the leaves beneath -/
def lvs (nm : List Bool → Str) (todo : List (List Bool × Sh)) : List Str := todo.flatMap fun p => (p.2.ways p.1).map nm
theorem lvs_lf (nm : List Bool → Str) (f : List Bool) (r : List (List Bool × Sh)) : lvs nm ((f, .lf) :: r) = nm f :: lvs nm r := by
  unfold lvs
  rw [List.flatMap_cons]
  rfl
theorem lvs_nd (nm : List Bool → Str) (f : List Bool) (a b : Sh) (r : List (List Bool × Sh)) : lvs nm ((f, .nd a b) :: r) = lvs nm ((f ++ [false], a) :: (f ++ [true], b) :: r) := by
  unfold lvs
  rw [List.flatMap_cons, List.flatMap_cons, List.flatMap_cons]
  show (a.ways _ ++ b.ways _).map nm ++ _ = _
  rw [List.map_append, List.append_assoc]
def szs (todo : List (List Bool × Sh)) : Nat := (todo.map fun p => p.2.size).sum
theorem szs_cons (p : List Bool × Sh) (r : List (List Bool × Sh)) : szs (p :: r) = p.2.size + szs r := by
  unfold szs
  rw [List.map_cons, List.sum_cons]
theorem Sh.size_pos (s : Sh) : 0 < s.size := by cases s <;> simp [Sh.size]
theorem szs_len : ∀ todo : List (List Bool × Sh), todo.length ≤ szs todo
  | [] => Nat.le_refl _
  | p :: r => by
    rw [szs_cons, List.length_cons]
    have := szs_len r
    have := Sh.size_pos p.2
    omega
def trs (nm : List Bool → Str) (todo : List (List Bool × Sh)) : List PyData := todo.map fun p => tr nm p.1 p.2
/-- what is asked of a tree -/
structure TreeOk (nm : List Bool → Str) (s : Sh) : Prop where
  nms : ∀ w ∈ s.ways [], IsNm (nm w)
  nod : ((s.ways []).map nm).Nodup
  few : (s.ways []).length ≤ 12
theorem TreeOk.size {nm : List Bool → Str} {s : Sh} (h : TreeOk nm s) : s.size ≤ 23 := by
  have := Sh.size_ways s []
  have := h.few
  omega
def spIsTree (K : PySem.W.Frag) : Sp := fun vs H Q _ => ∃ (v : V) (nm : List Bool → Str) (s : Sh), vs = [v] ∧ Dp K H v (tr nm [] s) ∧ TreeOk nm s ∧ ∀ H' : Hp, Same H H' → Q (.bl true) H'
theorem len_dn {ns : List Str} : valV (ns.map fun n => ((Sum.inr n : Key), V.bl true)) (Sum.inr n) = if n ∈ ns then some (.bl true) else none := by
  induction ns with
  | nil => rfl
  | cons a ns ih =>
    rw [List.map_cons]
    by_cases q : a = n
    · rw [valV_pos (by rw [q]), if_pos (by rw [q]; exact List.mem_cons_self)]
    · rw [valV_neg (fun z => q (Sum.inr.inj z)), ih]
      by_cases z : n ∈ ns
      · rw [if_pos z, if_pos (List.mem_cons_of_mem _ z)]
      · rw [if_neg z, if_neg fun y => by
          rcases List.mem_cons.mp y with y | y
          · exact q y.symm
          · exact z y]
section
variable {P : Program} {w : World} {K : PySem.W.Frag} {mg : Str → Option Value} {base : Heap}
theorem c_isTree (T : Fx K mg) : C8.Cal P w K mg base 2 "is_tree" (spIsTree K) [] := by
  have cN : C8.Cal P w K mg base 1 "is_name" spIsName [] := c_isName T
  obtain ⟨tm, hm⟩ := T.i_LEAF_LIMIT
  refine calN T.d_is_tree T.g_is_tree sc_is_tree (fun vs H Q E h => ?_) (fun _ _ _ _ _ _ us hl => match us, hl with | [_], _ => rfl) (fun cdv A outer s H vs Q E hr h => ?_)
  · obtain ⟨_, _, _, rfl, _⟩ := h
    rfl
  · obtain ⟨v, nm, s, rfl, hD, hT, k⟩ := h
    have nd := sc_is_tree.nd
    refine ⟨_, pss_cons (ps_set (i := 1) nd rfl (Or.inl rfl) dicN) (pss_cons (ps_set (i := 2) nd rfl (Or.inl rfl) (lstN (pa_cons (pv 0) pa_nil)))
      (pss_cons (ps_while PassesOwn.never (pt_truth (pv 2) (by intro _; rfl))
        (pss_cons (ps_set (i := 3) nd rfl (Or.inl rfl) (pe_bm0 PySem.F.plainAttrs_list PySem.F.slot_list_pop PySem.F.type_list_pop mt_pop (pv 2)))
        (pss_one (ps_if (pt_val (pe_callB (isiR (K := K) rfl) (by rfl) T.z_isinstance (by decide +kernel) (pa_cons (pv 3) (pa_cons (pe_bltn (v := .ty "tuple") (by rfl) T.z_tuple (by decide +kernel) rfl) pa_nil))))
          (pss_cons (ps_if (pt_cmpR op_ne (pe_callB call_len_seq (by rfl) T.z_len PySem.boot_len (pa_cons (pv 3) pa_nil)) pe_int (nomark _)) (pss_one (ps_ret pe_bl)) pss_nil)
          (pss_cons (ps_asg (pv 3) (pg_tup (by rfl) (pgs_cons (pg_name (i := 4) nd rfl (Or.inl rfl)) (pgs_cons (pg_name (i := 5) nd rfl (Or.inl rfl)) pgs_nil))))
          (pss_cons (ps_expr (pe_bm PySem.F.plainAttrs_list PySem.F.slot_list_append PySem.F.type_list_append mt_append (pv 2) (pa_cons (pv 5) pa_nil)))
          (pss_one (ps_expr (pe_bm PySem.F.plainAttrs_list PySem.F.slot_list_append PySem.F.type_list_append mt_append (pv 2) (pa_cons (pv 4) pa_nil)))))))
          (pss_one (ps_if (PW.pt (pw_or (pt_not (pt_val (C8.pe_c cN hr (Nat.le_refl _) (by rfl) (pa_cons (pv 3) pa_nil)))) (pw_or (pt_cmp (pc_din (hu_of hr) (pv 3) (pv 1)))
              (pw_or1 (pt_cmpR op_eq (pe_callB call_lenD (by rfl) T.z_len PySem.boot_len (pa_cons (pv 1) pa_nil)) (pe_glob (v := .int 12) rfl hm ⟨_, rfl⟩) (nomark _))))))
            (pss_one (ps_ret pe_bl)) (pss_one (ps_dput (hu_of hr) (pv 1) (pv 3) pe_bl rfl))))))))
      (pss_one (ps_ret pe_bl)))), ?_⟩
    intro sa H1 n1 s1 e1
    refine ⟨_, rfl, (by show 1 ≤ sizeLine; decide), fun wa H2 n2 s2 e2 => ?_⟩
    have nsw : sa ≠ wa := ne_of_none e1 n2
    obtain ⟨W, hW⟩ : ∃ W : Nat → L2.St → Hp → Prop, W = (fun m σ H' => ∃ (todo : List (List Bool × Sh)) (dn : List Str) (us : List V) (y3 y4 y5 : Option V), σ = [some v, some (.ref sa), some (.ref wa), y3, y4, y5] ∧ m = szs todo ∧ szs todo ≤ 23 ∧ H' sa = some (.dK (dn.map fun n => ((Sum.inr n : Key), V.bl true))) ∧ H' wa = some (.lst us.reverse) ∧ DpAll K H us (trs nm todo) ∧
      dn ++ lvs nm todo = (s.ways []).map nm ∧ Same H H') := ⟨_, rfl⟩
    refine ⟨W, ⟨szs [([], s)], ?_⟩, ?_⟩
    · rw [hW]
      refine ⟨[([], s)], [], [v], none, none, none, rfl, rfl, ?_, s2 _ _ e1, e2, DpAll.one hD, ?_, s1.trans s2⟩
      · have := hT.size
        simp [szs]
        exact this
      · simp [lvs]
    · intro m σ H3 w0
      rw [hW] at w0
      obtain ⟨todo, dn, us, y3, y4, y5, rfl, rfl, hsz, e3s, e3w, D3, hdn, s3⟩ := w0
      refine ⟨_, rfl, !us.reverse.isEmpty, .inl ⟨_, SqL.of e3w, rfl⟩, ?_⟩
      cases todo with
      | nil =>
        cases D3
        refine iteF ?_
        exact k H3 s3
      | cons p todo =>
        obtain ⟨f, s'⟩ := p
        cases D3 with
        | @cons u ur _ _ D4 D5 =>
        have e3w' : H3 wa = some (.lst (ur.reverse ++ [u])) := by rw [e3w, List.reverse_cons]
        have hne : (!(u :: ur).reverse.isEmpty) = true := by simp
        rw [hne]
        refine iteT ⟨fun σ' H' => ∃ m', m' < szs ((f, s') :: todo) ∧ W m' σ' H', fun _ _ z => z, ?_⟩
        have hul : ur.length ≤ 23 := by
          rw [D5.length, List.length_map]
          rw [szs_cons] at hsz
          have := szs_len todo
          have := Sh.size_pos s'
          omega
        refine ⟨_, rfl, .inl ⟨rfl, _, SqL.of e3w'⟩, wa, _, u, rfl, rfl, e3w', by simp, ?_⟩
        rw [List.dropLast_concat]
        refine put fun H4 k4 e4 => ?_
        have s4 : Same H H4 := s3.kp1 k4 (s1.free n2)
        have e4s := k4 _ _ nsw e3s
        cases s' with
        | nd l r =>
          obtain ⟨t, x, y, rfl, ht, Dx, Dy⟩ := D4.pair_inv
          have ht4 := Same.seqT s4 ht
          refine ⟨_, rfl, _, _, "tuple", true, rfl, tyT ht4, by decide +kernel, _, rfl, ?_⟩
          refine iteT ?_
          refine ⟨_, rfl, t, _, rfl, .inr ht4, rfl, _, rfl, ?_⟩
          refine iteF ?_
          refine ⟨_, rfl, t, [x, y], rfl, ht4, rfl, _, _, rfl, _, _, rfl, rfl, ?_⟩
          refine ⟨_, rfl, .inl ⟨rfl, _, SqL.of e4⟩, _, rfl, wa, _, _, rfl, rfl, e4, by rw [List.length_reverse, sizeLine_eq]; omega, ?_⟩
          refine put fun H5 k5 e5 => ?_
          refine ⟨_, rfl, .inl ⟨rfl, _, SqL.of e5⟩, _, rfl, wa, _, _, rfl, rfl, e5, by rw [List.length_append, List.length_reverse, sizeLine_eq]; show _ + 1 < _; omega, ?_⟩
          refine put fun H6 k6 e6 => ?_
          have n0 : H wa = none := s1.free n2
          refine ⟨szs ((f ++ [false], l) :: (f ++ [true], r) :: todo), ?_, ?_⟩
          rotate_left
          rw [hW]
          refine ⟨(f ++ [false], l) :: (f ++ [true], r) :: todo, dn, x :: y :: ur, _, _, _, rfl, rfl, ?_, k6 _ _ nsw (k5 _ _ nsw e4s), ?_, .cons Dx (.cons Dy D5), ?_, (s4.kp1 k5 n0).kp1 k6 n0⟩
          · rw [szs_cons] at hsz
            rw [szs_cons, szs_cons]
            have h1 : l.size + r.size + 1 + szs todo ≤ 23 := hsz
            show l.size + (r.size + szs todo) ≤ 23
            omega
          · rw [e6]
            simp
          · rw [← lvs_nd]
            exact hdn
          · rw [szs_cons, szs_cons, szs_cons]
            show l.size + (r.size + szs todo) < l.size + r.size + 1 + szs todo
            omega
        | lf =>
          obtain rfl := D4.str_inv
          refine ⟨_, rfl, _, _, "str", false, rfl, .base (.str _), by decide +kernel, _, rfl, ?_⟩
          refine iteF ?_
          rw [lvs_lf] at hdn
          have hmem : nm f ∈ (s.ways []).map nm := by
            rw [← hdn]
            exact List.mem_append_right _ List.mem_cons_self
          obtain ⟨w0, hw0, ew0⟩ := List.mem_map.mp hmem
          have hnot : nm f ∉ dn := fun z => by
            have := hT.nod
            rw [← hdn] at this
            exact (List.nodup_append.mp this).2.2 _ z _ List.mem_cons_self rfl
          have hlen : dn.length + 1 ≤ 12 := by
            have := congrArg List.length hdn
            rw [List.length_append, List.length_cons, List.length_map] at this
            have := hT.few
            omega
          have hv : valV (dn.map fun n => ((Sum.inr n : Key), V.bl true)) (Sum.inr (nm f)) = none := by rw [len_dn, if_neg hnot]
          refine ⟨_, rfl, nm f, rfl, ew0 ▸ hT.nms w0 hw0, _, rfl, ?_⟩
          refine iteF ?_
          refine ⟨_, rfl, _, rfl, sa, none, rfl, hv ▸ DGet.k (k := .inr (nm f)) e4s, _, rfl, ?_⟩
          refine iteF ?_
          refine ⟨_, rfl, sa, _, rfl, e4s, rfl, _, rfl, ?_⟩
          have hd : decide (V.int (((dn.map fun n => ((Sum.inr n : Key), V.bl true)).length : Nat) : Int) = V.int 12) = false := decide_eq_false fun z => by
            injection z with z
            rw [List.length_map] at z
            omega
          rw [hd]
          refine iteF ?_
          refine ⟨_, rfl, _, rfl, sa, _, rfl, DPut.k (k := .inr (nm f)) e4s (by rw [List.length_map, sizeLine_eq]; omega), ?_⟩
          rw [putK_new _ hv]
          refine put fun H5 k5 e5 => ?_
          refine ⟨szs todo, ?_, ?_⟩
          rotate_left
          rw [hW]
          refine ⟨todo, dn ++ [nm f], ur, _, _, _, rfl, rfl, ?_, ?_, k5 _ _ nsw.symm e4, D5, ?_, s4.kp1 k5 n1⟩
          · rw [szs_cons] at hsz
            omega
          · rw [e5, List.map_append]
            rfl
          · rw [← hdn]
            simp
          · rw [szs_cons]
            show _ < 1 + _
            omega
end
end FF
/-! Trees: check_tree, subtrees_of. -/
namespace FF
open PySem PySem.Spec PyProof.Rows L2
theorem noL_tr (nm : List Bool → Str) : ∀ (s : Sh) (f : List Bool), noL (tr nm f s) = true
  | .lf, f => by simp [tr, noL]
  | .nd l r, f => by simp [tr, noL, noLs, noL_tr nm l, noL_tr nm r]
/-- a part with its place -/
def subD (nm : List Bool → Str) (p : List Bool × Sh) : PyData := .tuple [.str (wS p.1), tr nm p.1 p.2]
theorem noL_sub (nm : List Bool → Str) (p : List Bool × Sh) : noL (subD nm p) = true := by simp [subD, noL, noLs, noL_tr]
def spCheckTree (K : PySem.W.Frag) : Sp := fun vs H Q _ => ∃ (v : V) (nm : List Bool → Str) (s : Sh), vs = [v] ∧ Dp K H v (tr nm [] s) ∧ TreeOk nm s ∧ ∀ H' : Hp, Same H H' → Q .non H'
def spSubtrees (K : PySem.W.Frag) : Sp := fun vs H Q _ => ∃ (v : V) (nm : List Bool → Str) (s : Sh), vs = [v] ∧ Dp K H v (tr nm [] s) ∧ TreeOk nm s ∧ ∀ (a : Addr) (H' : Hp), Same H H' → Dp K H' (.ref a) (.list ((s.subs []).map (subD nm))) → Q (.ref a) H'
theorem subs_flat (f : List Bool) (l r : Sh) (todo : List (List Bool × Sh)) : ((f, Sh.nd l r) :: todo).flatMap (fun p => p.2.subs p.1) = (f, Sh.nd l r) :: ((f ++ [false], l) :: (f ++ [true], r) :: todo).flatMap (fun p => p.2.subs p.1) := by
  rw [List.flatMap_cons, List.flatMap_cons, List.flatMap_cons]
  show ((f, Sh.nd l r) :: (l.subs _ ++ r.subs _)) ++ _ = _
  simp [List.append_assoc]
theorem Sh.height_size (s : Sh) : s.height ≤ s.size := by
  have := Sh.height_ways s []
  have := Sh.size_ways s []
  have := Sh.ways_pos s []
  omega
theorem empty_app (x : Str) : Str.empty ++ x = x := by
  have e : Str.empty = SX.S [] := rfl
  rw [e, str_S x, SX.S_cat]
  rfl
section
variable {P : Program} {w : World} {K : PySem.W.Frag} {mg : Str → Option Value} {base : Heap}
theorem c_checkTree (T : Fx K mg) : C8.Cal P w K mg base 3 "check_tree" (spCheckTree K) [] := by
  have cT : C8.Cal P w K mg base 2 "is_tree" (spIsTree K) [] := c_isTree T
  refine calN T.d_check_tree T.g_check_tree sc_check_tree (fun vs H Q E h => ?_) (fun _ _ _ _ _ _ us hl => match us, hl with | [_], _ => rfl) (fun cdv A outer s H vs Q E hr h => ?_)
  · obtain ⟨_, _, _, rfl, _⟩ := h
    rfl
  · obtain ⟨v, nm, s, rfl, hD, hT, k⟩ := h
    refine ⟨_, pss_one (ps_if (pt_not (pt_val (C8.pe_c cT hr (Nat.le_refl _) (by rfl) (pa_cons (pv 0) pa_nil)))) (pss_one ps_never) pss_nil), ?_⟩
    refine ⟨_, rfl, v, nm, s, rfl, hD, hT, fun H' s' => ⟨_, rfl, ?_⟩⟩
    exact iteF (k H' s')
theorem c_subtrees (T : Fx K mg) : C8.Cal P w K mg base 1 "subtrees_of" (spSubtrees K) [] := by
  refine calN T.d_subtrees_of T.g_subtrees_of sc_subtrees_of (fun vs H Q E h => ?_) (fun _ _ _ _ _ _ us hl => match us, hl with | [_], _ => rfl) (fun cdv A outer s H vs Q E hr h => ?_)
  · obtain ⟨_, _, _, rfl, _⟩ := h
    rfl
  · obtain ⟨v, nm, s, rfl, hD, hT, k⟩ := h
    have nd := sc_subtrees_of.nd
    refine ⟨_, pss_cons (ps_set (i := 1) nd rfl (Or.inl rfl) (lstN pa_nil)) (pss_cons (ps_set (i := 2) nd rfl (Or.inl rfl) (lstN (pa_cons (tupN (pa_cons pe_str (pa_cons (pv 0) pa_nil))) pa_nil)))
      (pss_cons (ps_while PassesOwn.never (pt_truth (pv 2) (by intro _; rfl))
        (pss_cons (ps_asg (pe_bm0 PySem.F.plainAttrs_list PySem.F.slot_list_pop PySem.F.type_list_pop mt_pop (pv 2)) (pg_tup (by rfl) (pgs_cons (pg_name (i := 3) nd rfl (Or.inl rfl)) (pgs_cons (pg_name (i := 4) nd rfl (Or.inl rfl)) pgs_nil))))
        (pss_cons (ps_expr (pe_bm PySem.F.plainAttrs_list PySem.F.slot_list_append PySem.F.type_list_append mt_append (pv 1) (pa_cons (tupN (pa_cons (pv 3) (pa_cons (pv 4) pa_nil))) pa_nil)))
        (pss_one (ps_if (pt_val (pe_callB (isiR (K := K) rfl) (by rfl) T.z_isinstance (by decide +kernel) (pa_cons (pv 4) (pa_cons (pe_bltn (v := .ty "tuple") (by rfl) T.z_tuple (by decide +kernel) rfl) pa_nil))))
          (pss_cons (ps_asg (pv 4) (pg_tup (by rfl) (pgs_cons (pg_name (i := 5) nd rfl (Or.inl rfl)) (pgs_cons (pg_name (i := 6) nd rfl (Or.inl rfl)) pgs_nil))))
          (pss_cons (ps_expr (pe_bm PySem.F.plainAttrs_list PySem.F.slot_list_append PySem.F.type_list_append mt_append (pv 2) (pa_cons (tupN (pa_cons (pe_joined (PJ.cons (pe_fmt (pv 3)) (PJ.cons pe_str PJ.nil))) (pa_cons (pv 6) pa_nil))) pa_nil)))
          (pss_one (ps_expr (pe_bm PySem.F.plainAttrs_list PySem.F.slot_list_append PySem.F.type_list_append mt_append (pv 2) (pa_cons (tupN (pa_cons (pe_joined (PJ.cons (pe_fmt (pv 3)) (PJ.cons pe_str PJ.nil))) (pa_cons (pv 5) pa_nil))) pa_nil))))))
          pss_nil)))))
      (pss_one (ps_ret (pv 1))))), ?_⟩
    refine ⟨Nat.zero_le _, fun fa H1 n1 s1 e1 => ?_⟩
    refine ⟨_, rfl, (by show 2 ≤ sizeLine; decide), fun t0 H2 n2 s2 e2 => ?_⟩
    refine ⟨(by show 1 ≤ sizeLine; decide), fun wa H3 n3 s3 e3 => ?_⟩
    have nfw : fa ≠ wa := ne_of_none (s2 _ _ e1) n3
    have nf0 : H fa = none := n1
    have nw0 : H wa = none := s1.free (s2.free n3)
    obtain ⟨W, hW⟩ : ∃ W : Nat → L2.St → Hp → Prop, W = (fun m σ H' => ∃ (todo dn : List (List Bool × Sh)) (us fs : List V) (y3 y4 y5 y6 : Option V), σ = [some v, some (.ref fa), some (.ref wa), y3, y4, y5, y6] ∧ m = szs todo ∧ dn.length + szs todo ≤ 23 ∧ (∀ p ∈ todo, p.1.length + p.2.height ≤ 23) ∧
      H' fa = some (.lst fs) ∧ DpAll K H' fs (dn.map (subD nm)) ∧ H' wa = some (.lst us.reverse) ∧ DpAll K H' us (todo.map (subD nm)) ∧ dn ++ todo.flatMap (fun p => p.2.subs p.1) = s.subs [] ∧ Same H H') := ⟨_, rfl⟩
    refine ⟨W, ⟨szs [([], s)], ?_⟩, ?_⟩
    · rw [hW]
      refine ⟨[([], s)], [], [.ref t0], [], none, none, none, none, rfl, rfl, ?_, ?_, s3 _ _ (s2 _ _ e1), .nil, e3, ?_, ?_, (s1.trans s2).trans s3⟩
      · have := hT.size
        simp [szs]
        exact this
      · intro p hp
        rw [List.mem_singleton.mp hp]
        have := hT.size
        have := Sh.height_size s
        show 0 + s.height ≤ 23
        omega
      · rw [wS_nil] at e2
        exact DpAll.one (Dp.pair (s3 _ _ e2) (.str _) (hD.same ((s1.trans s2).trans s3)))
      · simp
    · intro m σ H4 w0
      rw [hW] at w0
      obtain ⟨todo, dn, us, fs, y3, y4, y5, y6, rfl, rfl, hsz, hht, e4f, D4f, e4w, D4w, hdn, s4⟩ := w0
      refine ⟨_, rfl, !us.reverse.isEmpty, .inl ⟨_, SqL.of e4w, rfl⟩, ?_⟩
      cases todo with
      | nil =>
        cases D4w
        refine iteF ?_
        refine ⟨_, rfl, k fa H4 s4 (.lst (SqL.of e4f) ?_)⟩
        rw [← hdn]
        simpa using D4f
      | cons p todo =>
        obtain ⟨f, s'⟩ := p
        cases D4w with
        | @cons u ur _ _ D5 D6 =>
        have e4w' : H4 wa = some (.lst (ur.reverse ++ [u])) := by rw [e4w, List.reverse_cons]
        have hne : (!(u :: ur).reverse.isEmpty) = true := by simp
        rw [hne]
        refine iteT ⟨fun σ' H' => ∃ m', m' < szs ((f, s') :: todo) ∧ W m' σ' H', fun _ _ z => z, ?_⟩
        have hfl : f.length ≤ 23 := by
          have h1 : f.length + s'.height ≤ 23 := hht _ List.mem_cons_self
          omega
        have hszc : dn.length + (s'.size + szs todo) ≤ 23 := hsz
        have hul : ur.length ≤ 23 := by
          rw [D6.length, List.length_map]
          have := szs_len todo
          omega
        have hfsl : fs.length ≤ 23 := by
          rw [D4f.length, List.length_map]
          omega
        obtain ⟨t, x, y, rfl, ht, Dx, Dy⟩ := Dp.pair_inv (show Dp K H4 u (.tuple [.str (wS f), tr nm f s']) from D5)
        obtain rfl := Dx.str_inv
        refine ⟨_, rfl, .inl ⟨rfl, _, SqL.of e4w'⟩, wa, _, .ref t, rfl, rfl, e4w', by simp, ?_⟩
        rw [List.dropLast_concat]
        obtain ⟨H5, q5, k5, e5⟩ : ∃ H5, upd H4 wa (.lst ur.reverse) = H5 ∧ Kp (fun a => a = wa) H4 H5 ∧ H5 wa = some (.lst ur.reverse) := ⟨_, rfl, kp_put, upd_same⟩
        rw [q5]
        have wT := lst_noT e4w
        have D5f := DpAll.kpT k5 wT (noLs_map _ (noL_sub nm) _) D4f
        have D5w := DpAll.kpT k5 wT (noLs_map _ (noL_sub nm) _) D6
        have D5y := Dp.kpT k5 wT (noL_tr nm _ _) Dy
        have ht5 := SqT.kpT k5 wT ht
        have e5f := k5 _ _ nfw e4f
        have s5 : Same H H5 := s4.kp1 k5 nw0
        refine ⟨t, [.str (wS f), y], rfl, ht5, rfl, _, _, rfl, _, _, rfl, rfl, ?_⟩
        refine ⟨_, rfl, .inl ⟨rfl, _, SqL.of e5f⟩, _, rfl, _, rfl, (by show 2 ≤ sizeLine; decide), fun q H6 n6 s6 e6 => ?_⟩
        refine ⟨fa, _, _, rfl, rfl, s6 _ _ e5f, by rw [sizeLine_eq]; omega, ?_⟩
        refine put fun H7 k7 e7 => ?_
        have fT := lst_noT (s6 _ _ e5f)
        have e7w := k7 _ _ nfw.symm (s6 _ _ e5)
        have D7w := DpAll.kpT k7 fT (noLs_map _ (noL_sub nm) _) (D5w.same s6)
        have D7y := Dp.kpT k7 fT (noL_tr nm _ _) (D5y.same s6)
        have D7f : DpAll K H7 (fs ++ [.ref q]) ((dn ++ [(f, s')]).map (subD nm)) := by
          rw [List.map_append]
          exact DpAll.kpT k7 fT (by
            rw [← List.map_append]
            exact noLs_map _ (noL_sub nm) _) ((D5f.same s6).append (DpAll.one (Dp.pair e6 (.str _) (D5y.same s6))))
        have s7 : Same H H7 := (s5.trans s6).kp1 k7 nf0
        cases s' with
        | lf =>
          obtain rfl := D7y.str_inv
          refine ⟨_, rfl, _, _, "str", false, rfl, .base (.str _), by decide +kernel, _, rfl, ?_⟩
          refine iteF ?_
          refine ⟨szs todo, ?_, ?_⟩
          · show szs todo < 1 + szs todo
            omega
          · rw [hW]
            refine ⟨todo, dn ++ [(f, .lf)], ur, fs ++ [.ref q], _, _, _, _, rfl, rfl, ?_, fun p hp => hht p (List.mem_cons_of_mem _ hp), e7, D7f, e7w, D7w, ?_, s7⟩
            · rw [List.length_append, List.length_singleton]
              have h1 : dn.length + (1 + szs todo) ≤ 23 := hszc
              omega
            · rw [← hdn, List.flatMap_cons, List.append_assoc]
              rfl
        | nd l r =>
          obtain ⟨t2, x2, y2, rfl, ht2, Dx2, Dy2⟩ := D7y.pair_inv
          refine ⟨_, rfl, _, _, "tuple", true, rfl, tyT ht2, by decide +kernel, _, rfl, ?_⟩
          refine iteT ?_
          refine ⟨_, rfl, t2, [x2, y2], rfl, ht2, rfl, _, _, rfl, _, _, rfl, rfl, ?_⟩
          have fit : (wS f).length ≤ sizeLine := wS_fit (by omega)
          have fit1 : (Str.empty ++ wS f).length ≤ sizeLine := by rw [empty_app]; exact fit
          have fit2 : ∀ c, (wS (f ++ [c])).length ≤ sizeLine := fun c => wS_fit (by rw [List.length_append, List.length_singleton]; omega)
          -- the right part
          refine ⟨_, rfl, .inl ⟨rfl, _, SqL.of e7w⟩, _, rfl, .inl ⟨wS f, rfl, fit, wS f, rfl, fit1, ?_⟩⟩
          rw [empty_app]
          refine ⟨Str.ofString "1", rfl, by rw [wS_1]; exact fit2 true, ?_⟩
          rw [wS_1]
          refine ⟨_, rfl, (by show 2 ≤ sizeLine; decide), fun q2 H8 n8 s8 e8 => ?_⟩
          refine ⟨wa, _, _, rfl, rfl, s8 _ _ e7w, by rw [List.length_reverse, sizeLine_eq]; omega, ?_⟩
          refine put fun H9 k9 e9 => ?_
          have wT9 := lst_noT (s8 _ _ e7w)
          have Dx9 := Dp.kpT k9 wT9 (noL_tr nm _ _) (Dx2.same s8)
          -- the left part
          refine ⟨_, rfl, .inl ⟨rfl, _, SqL.of e9⟩, _, rfl, .inl ⟨wS f, rfl, fit, wS f, rfl, fit1, ?_⟩⟩
          rw [empty_app]
          refine ⟨Str.ofString "0", rfl, by rw [wS_0]; exact fit2 false, ?_⟩
          rw [wS_0]
          refine ⟨_, rfl, (by show 2 ≤ sizeLine; decide), fun q3 H10 n10 s10 e10 => ?_⟩
          refine ⟨wa, _, _, rfl, rfl, s10 _ _ e9, by rw [List.length_append, List.length_reverse, sizeLine_eq]; show _ + 1 < _; omega, ?_⟩
          refine put fun H11 k11 e11 => ?_
          have wT11 := lst_noT (s10 _ _ e9)
          have hh : f.length + (max l.height r.height + 1) ≤ 23 := hht _ List.mem_cons_self
          have hsn : dn.length + (l.size + r.size + 1 + szs todo) ≤ 23 := hszc
          refine ⟨szs ((f ++ [false], l) :: (f ++ [true], r) :: todo), ?_, ?_⟩
          · show l.size + (r.size + szs todo) < l.size + r.size + 1 + szs todo
            omega
          · rw [hW]
            have D9f := DpAll.kpT k9 wT9 (noLs_map _ (noL_sub nm) _) (D7f.same s8)
            have D9w := DpAll.kpT k9 wT9 (noLs_map _ (noL_sub nm) _) (D7w.same s8)
            have D9q : Dp K H9 (.ref q2) (subD nm (f ++ [true], r)) := Dp.kpT k9 wT9 (noL_sub nm (f ++ [true], r)) (Dp.pair e8 (.str _) (Dy2.same s8))
            refine ⟨(f ++ [false], l) :: (f ++ [true], r) :: todo, dn ++ [(f, .nd l r)], .ref q3 :: .ref q2 :: ur, fs ++ [.ref q], _, _, _, _, rfl, rfl, ?_, ?_, ?_, ?_, ?_, ?_, ?_, ?_⟩
            · rw [List.length_append, List.length_singleton]
              show dn.length + 1 + (l.size + (r.size + szs todo)) ≤ 23
              omega
            · intro p hp
              rcases List.mem_cons.mp hp with rfl | hp
              · show (f ++ [false]).length + l.height ≤ 23
                rw [List.length_append, List.length_singleton]
                omega
              · rcases List.mem_cons.mp hp with rfl | hp
                · show (f ++ [true]).length + r.height ≤ 23
                  rw [List.length_append, List.length_singleton]
                  omega
                · exact hht p (List.mem_cons_of_mem _ hp)
            · exact k11 _ _ nfw (s10 _ _ (k9 _ _ nfw (s8 _ _ e7)))
            · exact DpAll.kpT k11 wT11 (noLs_map _ (noL_sub nm) _) (D9f.same s10)
            · rw [e11]
              simp
            · exact DpAll.kpT k11 wT11 (noLs_map _ (noL_sub nm) ((f ++ [false], l) :: (f ++ [true], r) :: todo)) (.cons (Dp.pair e10 (.str _) (Dx9.same s10)) (.cons (D9q.same s10) (D9w.same s10)))
            · rw [← hdn, subs_flat, List.append_assoc]
              rfl
            · exact (((s7.trans s8).kp1 k9 nw0).trans s10).kp1 k11 nw0
end
end FF
/-! Ways, forks, the flags of a plan. -/
namespace FF
open PySem PySem.Spec PyProof.Rows L2
theorem valV_none_map {α : Type} {g : α → Str} {v : α → V} {n : Str} : ∀ {L : List α}, (∀ p ∈ L, g p ≠ n) → valV (L.map fun p => ((Sum.inr (g p) : Key), v p)) (.inr n) = none
  | [], _ => rfl
  | p :: L, h => by
    rw [List.map_cons, valV_neg (fun z => h p List.mem_cons_self (Sum.inr.inj z))]
    exact valV_none_map fun q hq => h q (List.mem_cons_of_mem _ hq)
theorem valV_some_map {α : Type} {g : α → Str} {v : α → V} {p : α} : ∀ {L : List α}, (L.map g).Nodup → p ∈ L → valV (L.map fun p => ((Sum.inr (g p) : Key), v p)) (.inr (g p)) = some (v p)
  | [], _, h => by cases h
  | q :: L, hn, h => by
    obtain ⟨n1, n2⟩ := List.nodup_cons.mp hn
    rw [List.map_cons]
    rcases List.mem_cons.mp h with rfl | h
    · exact valV_pos rfl
    · rw [valV_neg (fun z => n1 (by
        have e : g q = g p := Sum.inr.inj z
        rw [e]
        exact List.mem_map.mpr ⟨p, h, rfl⟩))]
      exact valV_some_map n2 h
theorem dK_noT {H : Hp} {p : Addr} {kvs : List (Key × V)} (h : H p = some (.dK kvs)) : ∀ ys, ¬ Rd H p (.tup ys) := fun ys r => by
  rcases r with r | ⟨o, r⟩
  · rw [h] at r
    cases r
  · rw [h] at r
    cases r
theorem SqL.kpD {K : PySem.W.Frag} {H H' : Hp} {p a : Addr} {kvs : List (Key × V)} {xs : List V} (k : Kp (fun a => a = p) H H') (hp : H p = some (.dK kvs)) (h : SqL K H a xs) : SqL K H' a xs := by
  rcases h with (h | ⟨o, h⟩) | h
  · exact .inl (.inl (k _ _ (ne_of h hp fun z => nomatch z) h))
  · exact .inl (.inr ⟨o, k _ _ (ne_of h hp fun z => nomatch z) h⟩)
  · exact .inr h
theorem Sh.forks_nodup : ∀ (s : Sh) (f : List Bool), (s.forks f).Nodup
  | .lf, f => List.nodup_nil
  | .nd l r, f => by
    show (f :: (l.forks _ ++ r.forks _)).Nodup
    refine List.nodup_cons.mpr ⟨fun h => ?_, List.nodup_append.mpr ⟨Sh.forks_nodup l _, Sh.forks_nodup r _, fun a ha b hb e => ?_⟩⟩
    · rcases List.mem_append.mp h with q | q
      · obtain ⟨g, _, _, e, _⟩ := (Sh.mem_forks _ _ _).mp q
        rw [List.append_assoc] at e
        have := congrArg List.length e
        simp at this
      · obtain ⟨g, _, _, e, _⟩ := (Sh.mem_forks _ _ _).mp q
        rw [List.append_assoc] at e
        have := congrArg List.length e
        simp at this
    · subst e
      obtain ⟨g, _, _, e1, _⟩ := (Sh.mem_forks _ _ _).mp ha
      obtain ⟨h, _, _, e2, _⟩ := (Sh.mem_forks _ _ _).mp hb
      rw [e1, List.append_assoc, List.append_assoc] at e2
      have e3 := List.append_cancel_left e2
      simp at e3
def spWays (K : PySem.W.Frag) : Sp := fun vs H Q _ => ∃ (v : V) (nm : List Bool → Str) (s : Sh), vs = [v] ∧ Dp K H v (tr nm [] s) ∧ TreeOk nm s ∧ ∀ (a : Addr) (H' : Hp), Same H H' → H a = none → H' a = some (.dK ((s.ways []).map fun w => ((Sum.inr (nm w) : Key), V.str (wS w)))) → Q (.ref a) H'
def spForks (K : PySem.W.Frag) : Sp := fun vs H Q _ => ∃ (v : V) (nm : List Bool → Str) (s : Sh), vs = [v] ∧ Dp K H v (tr nm [] s) ∧ TreeOk nm s ∧ ∀ (a : Addr) (H' : Hp), Same H H' → H' a = some (.lst (wSs (s.forks []))) → Q (.ref a) H'
section
variable {P : Program} {w : World} {K : PySem.W.Frag} {mg : Str → Option Value} {base : Heap}
theorem c_ways (T : Fx K mg) : C8.Cal P w K mg base 4 "ways_of" (spWays K) [] := by
  have cC : C8.Cal P w K mg base 3 "check_tree" (spCheckTree K) [] := c_checkTree T
  have cS : C8.Cal P w K mg base 1 "subtrees_of" (spSubtrees K) [] := c_subtrees T
  refine calN T.d_ways_of T.g_ways_of sc_ways_of (fun vs H Q E h => ?_) (fun _ _ _ _ _ _ us hl => match us, hl with | [_], _ => rfl) (fun cdv A outer s H vs Q E hr h => ?_)
  · obtain ⟨_, _, _, rfl, _⟩ := h
    rfl
  · obtain ⟨v, nm, s, rfl, hD, hT, k⟩ := h
    have nd := sc_ways_of.nd
    refine ⟨_, pss_cons (ps_expr (C8.pe_c cC hr (by decide) (by rfl) (pa_cons (pv 0) pa_nil)))
      (pss_cons (ps_set (i := 1) nd rfl (Or.inl rfl) dicN)
      (pss_cons (ps_for PassesOwn.never rfl (pi_list (C8.pe_c cS hr (by decide) (by rfl) (pa_cons (pv 0) pa_nil))) (pg_tup (by rfl) (pgs_cons (pg_name (i := 2) nd rfl (Or.inl rfl)) (pgs_cons (pg_name (i := 3) nd rfl (Or.inl rfl)) pgs_nil)))
        (pss_one (ps_if (pt_not (pt_val (pe_callB (isiR (K := K) rfl) (by rfl) T.z_isinstance (by decide +kernel) (pa_cons (pv 3) (pa_cons (pe_bltn (v := .ty "tuple") (by rfl) T.z_tuple (by decide +kernel) rfl) pa_nil)))))
          (pss_one (ps_dput (hu_of hr) (pv 1) (pv 3) (pv 2) rfl)) pss_nil)))
      (pss_one (ps_ret (pv 1))))), ?_⟩
    refine ⟨_, rfl, v, nm, s, rfl, hD, hT, fun H1 s1 => ?_⟩
    intro da H2 n2 s2 e2
    refine ⟨_, rfl, v, nm, s, rfl, hD.same (s1.trans s2), hT, fun la H3 s3 D3 => ?_⟩
    obtain ⟨la', xs, e, hS, hA⟩ := D3.list_inv
    cases e
    have e3 := s3 _ _ e2
    have n0 : H da = none := s1.free n2
    have hxl : xs.length = (s.subs []).length := by rw [hA.length, List.length_map]
    have hsz : (s.subs []).length ≤ 23 := by
      rw [Sh.subs_len]
      exact hT.size
    have hwl : (s.ways []).map nm = (((s.subs []).filter fun p => !p.2.isNd).map fun p => nm p.1) := by
      rw [← Sh.subs_ways s [], List.map_map]
      rfl
    refine ⟨la, rfl, ⟨_, hS⟩, for_list (K := K) (a := la) (xs := xs) (fun i σ H' => ∃ (y2 y3 : Option V), σ = [some v, some (.ref da), y2, y3] ∧ H' da = some (.dK ((((s.subs []).take i).filter fun p => !p.2.isNd).map fun p => ((Sum.inr (nm p.1) : Key), V.str (wS p.1)))) ∧ Kp (fun a => a = da) H3 H')
      ⟨none, none, rfl, e3, Kp.refl⟩ (fun i σ H' _ ⟨_, _, _, _, k'⟩ => SqL.kpD k' e3 hS) ?_ ?_⟩
    · rintro i x σ H4 hx ⟨y2, y3, rfl, e4, k4⟩
      obtain ⟨d, hd1, hd2⟩ := hA.get' hx
      rw [List.getElem?_map] at hd1
      cases hp : (s.subs [])[i]? with
      | none =>
        rw [hp] at hd1
        cases hd1
      | some p =>
        rw [hp] at hd1
        have ed : subD nm p = d := Option.some.inj hd1
        subst ed
        obtain ⟨t, x, y, rfl, ht, Dx, Dy⟩ := Dp.pair_inv (show Dp K H3 _ (.tuple [.str (wS p.1), tr nm p.1 p.2]) from hd2)
        obtain rfl := Dx.str_inv
        have ht4 := SqT.kpT k4 (dK_noT e3) ht
        refine ⟨t, _, rfl, ht4, rfl, _, _, rfl, _, _, rfl, rfl, ?_⟩
        have tk := take_snoc hp
        obtain ⟨f, s'⟩ := p
        cases s' with
        | lf =>
          obtain rfl := Dy.str_inv
          refine ⟨_, rfl, _, _, "str", false, rfl, .base (.str _), by decide +kernel, _, rfl, ?_⟩
          refine iteT ?_
          have hno : ∀ q ∈ ((s.subs []).take i).filter fun p => !p.2.isNd, nm q.1 ≠ nm f := by
            have h1 : ((((s.subs []).take (i + 1)).filter fun p => !p.2.isNd).map fun p => nm p.1).Nodup := by
              have := hT.nod
              rw [hwl] at this
              exact this.sublist (((List.take_sublist _ _).filter _).map _)
            rw [tk, List.filter_append, List.map_append] at h1
            intro q hq z
            refine (List.nodup_append.mp h1).2.2 _ (List.mem_map.mpr ⟨q, hq, rfl⟩) (nm f) ?_ z
            simp [Sh.isNd]
          have hv := valV_none_map (v := fun p : List Bool × Sh => V.str (wS p.1)) hno
          refine ⟨_, rfl, _, rfl, _, rfl, da, _, rfl, DPut.k (k := .inr (nm f)) e4 ?_, ?_⟩
          · rw [List.length_map, sizeLine_eq]
            refine Nat.lt_of_le_of_lt (List.length_filter_le _ _) ?_
            rw [List.length_take]
            omega
          · rw [putK_new _ hv]
            refine put fun H5 k5 e5 => ?_
            refine ⟨_, _, rfl, ?_, k4.trans k5⟩
            rw [e5, tk, List.filter_append, List.map_append]
            rfl
        | nd l r =>
          obtain ⟨t2, x2, y2, rfl, ht2, _, _⟩ := Dy.pair_inv
          refine ⟨_, rfl, _, _, "tuple", true, rfl, tyT (SqT.kpT k4 (dK_noT e3) ht2), by decide +kernel, _, rfl, ?_⟩
          refine iteF ?_
          refine ⟨_, _, rfl, ?_, k4⟩
          rw [e4, tk, List.filter_append]
          simp [Sh.isNd]
    · rintro σ H4 ⟨y2, y3, rfl, e4, k4⟩
      rw [List.take_of_length_le (by omega)] at e4
      refine ⟨_, rfl, k da H4 (((s1.trans s2).trans s3).kp1 k4 n0) n0 ?_⟩
      rw [e4, ← Sh.subs_ways s [], List.map_map]
      rfl
theorem c_forks (T : Fx K mg) : C8.Cal P w K mg base 4 "forks_of" (spForks K) [] := by
  have cC : C8.Cal P w K mg base 3 "check_tree" (spCheckTree K) [] := c_checkTree T
  have cS : C8.Cal P w K mg base 1 "subtrees_of" (spSubtrees K) [] := c_subtrees T
  refine calN T.d_forks_of T.g_forks_of sc_forks_of (fun vs H Q E h => ?_) (fun _ _ _ _ _ _ us hl => match us, hl with | [_], _ => rfl) (fun cdv A outer s H vs Q E hr h => ?_)
  · obtain ⟨_, _, _, rfl, _⟩ := h
    rfl
  · obtain ⟨v, nm, s, rfl, hD, hT, k⟩ := h
    have nd := sc_forks_of.nd
    refine ⟨_, pss_cons (ps_expr (C8.pe_c cC hr (by decide) (by rfl) (pa_cons (pv 0) pa_nil)))
      (pss_one (ps_ret (pe_lc (own := [("place", 1), ("part", 2)]) (g := gTup K 2 (gCons (gName 1) (gCons (gName 2) gNil))) rfl nd (pi_list (C8.pe_c cS hr (by decide) (by rfl) (pa_cons (pv 0) pa_nil)))
        (blkOk_by (own := [("place", 1), ("part", 2)]) (N := ["tree", "place", "part"]) (sc := defScope s_forks_of) (by decide +kernel)) (fun _ _ _ _ _ => pg_tup (by rfl) (pgs_cons (pg_name (i := 1) nd rfl (Or.inl rfl)) (pgs_cons (pg_name (i := 2) nd rfl (Or.inl rfl)) pgs_nil)))
        (fun _ _ _ _ _ => pts_one (pt_val (pe_callB (isiR (K := K) rfl) (by rfl) T.z_isinstance (by decide +kernel) (pa_cons (pv 2) (pa_cons (pe_bltn (v := .ty "tuple") (by rfl) T.z_tuple (by decide +kernel) rfl) pa_nil))))) (fun _ _ _ _ _ => pv 1)))), ?_⟩
    refine ⟨_, rfl, v, nm, s, rfl, hD, hT, fun H1 s1 => ?_⟩
    refine ⟨_, rfl, v, nm, s, rfl, hD.same s1, hT, fun la H2 s2 D2 => ?_⟩
    obtain ⟨la', xs, e, hS, hA⟩ := D2.list_inv
    cases e
    have hxl : xs.length = (s.subs []).length := by rw [hA.length, List.length_map]
    have hsz : (s.subs []).length ≤ 23 := by
      rw [Sh.subs_len]
      exact hT.size
    refine ⟨la, rfl, ⟨_, hS⟩, fun D hDn => ?_⟩
    refine lc_list (K := K) (a := la) (xs := xs) (fun i H' => H' D = some (.lst (wSs ((((s.subs []).take i).filter fun p => p.2.isNd).map (·.1)))) ∧ Same H2 H') ⟨upd_same, same_new hDn⟩ (fun i H' _ h => h.2.seq hS) ?_ ?_
    · rintro i x H3 hx ⟨e3, s3⟩
      obtain ⟨d, hd1, hd2⟩ := hA.get' hx
      rw [List.getElem?_map] at hd1
      cases hp : (s.subs [])[i]? with
      | none =>
        rw [hp] at hd1
        cases hd1
      | some p =>
        rw [hp] at hd1
        have ed : subD nm p = d := Option.some.inj hd1
        subst ed
        obtain ⟨t, x, y, rfl, ht, Dx, Dy⟩ := Dp.pair_inv (show Dp K H2 _ (.tuple [.str (wS p.1), tr nm p.1 p.2]) from hd2)
        obtain rfl := Dx.str_inv
        refine ⟨t, _, rfl, Same.seqT s3 ht, rfl, _, _, rfl, _, _, rfl, rfl, rfl, ?_⟩
        have tk := take_snoc hp
        obtain ⟨f, s'⟩ := p
        cases s' with
        | lf =>
          obtain rfl := Dy.str_inv
          refine ⟨_, rfl, _, _, "str", false, rfl, .base (.str _), by decide +kernel, _, rfl, ?_⟩
          refine iteF ⟨?_, s3⟩
          rw [e3, tk, List.filter_append]
          simp [Sh.isNd]
        | nd l r =>
          obtain ⟨t2, x2, y2, rfl, ht2, _, _⟩ := Dy.pair_inv
          refine ⟨_, rfl, _, _, "tuple", true, rfl, tyT (Same.seqT s3 ht2), by decide +kernel, _, rfl, ?_⟩
          refine iteT ⟨_, rfl, _, e3, ?_, ?_, fun b o e => ?_⟩
          · unfold wSs
            rw [List.length_map, List.length_map, List.length_map, sizeLine_eq]
            refine Nat.lt_of_le_of_lt (List.length_filter_le _ _) ?_
            rw [List.length_take]
            omega
          · rw [upd_same, tk, List.filter_append, List.map_append]
            simp [Sh.isNd, wSs]
          · rw [upd_ne (ne_of_none e hDn)]
            exact s3 _ _ e
    · rintro H3 ⟨e3, s3⟩
      rw [List.take_of_length_le (by omega), Sh.subs_forks] at e3
      exact k D H3 ((s1.trans s2).trans s3) e3
end
end FF
/-! The flags of a plan by forks; the written form. -/
namespace FF
open PySem PySem.Spec PyProof.Rows L2
def clD (c : Str × Nat) : PyData := .tuple [.str c.1, .int (c.2 : Nat)]
/-- a dict from the writers to their ways -/
def WaysAt (H : Hp) (a : Addr) (sp : Prs) : Prop := ∃ kvs : List (Key × V), H a = some (.dK kvs) ∧ ∀ p ∈ sp, valV kvs (.inr p.1) = some (.str (wS p.2))
theorem WaysAt.same {H H' : Hp} {a : Addr} {sp : Prs} (h : WaysAt H a sp) (s : Same H H') : WaysAt H' a sp := let ⟨kvs, h1, h2⟩ := h; ⟨kvs, s _ _ h1, h2⟩
def spFbf (K : PySem.W.Frag) : Sp := fun vs H Q _ => ∃ (v : V) (wa ca : Addr) (nm : List Bool → Str) (s : Sh) (sp : Prs), vs = [v, .ref wa, .ref ca] ∧ Dp K H v (tr nm [] s) ∧ TreeOk nm s ∧ Ok s sp ∧ WaysAt H wa sp ∧ Dp K H (.ref ca) (.list ((cl sp).map clD)) ∧
  ∀ (a : Addr) (H' : Hp), Same H H' → FlagsAt H' a (fl sp) → Q (.ref a) H'
theorem RowsAt.valid {H0 H : Hp} {a : Addr} {F : List Bool → Prop} {g : List Bool → List Nat} (h : RowsAt H0 H a F g) {kvs : List (Key × V)} (hk : H a = some (.dK kvs)) {f : List Bool} {v : V} (hv : valV kvs (.inr (wS f)) = some v) : F f ∧ ∃ ra, v = .ref ra ∧ H ra = some (.lst (nV (g f))) ∧ H0 ra = none := by
  obtain ⟨kvs', z1, z2, z3, z4⟩ := h
  rw [hk] at z1
  cases z1
  have hF : F f := Classical.byContradiction fun q => by
    rw [z3 f q] at hv
    cases hv
  obtain ⟨ra, a1, a2, a3⟩ := z2 f hF
  rw [hv] at a1
  cases a1
  exact ⟨hF, ra, rfl, a2, a3⟩
section
variable {P : Program} {w : World} {K : PySem.W.Frag} {mg : Str → Option Value} {base : Heap}
theorem c_fbf (T : Fx K mg) : C8.Cal P w K mg base 5 "flags_by_fork" (spFbf K) [] := by
  have cF : C8.Cal P w K mg base 4 "forks_of" (spForks K) [] := c_forks T
  refine calN T.d_flags_by_fork T.g_flags_by_fork sc_flags_by_fork (fun vs H Q E h => ?_) (fun _ _ _ _ _ _ us hl => match us, hl with | [_, _, _], _ => rfl) (fun cdv A outer s H vs Q E hr h => ?_)
  · obtain ⟨_, _, _, _, _, _, rfl, _⟩ := h
    rfl
  · obtain ⟨v, wa, ca, nm, s, sp, rfl, hD, hT, hO, hW, hC, k⟩ := h
    have nd := sc_flags_by_fork.nd
    have hfew := hO.fl_few
    refine ⟨_, pss_cons (ps_set (i := 3) nd rfl (Or.inl rfl) dicN)
      (pss_cons (ps_for PassesOwn.never rfl (pi_list (C8.pe_c cF hr (by decide) (by rfl) (pa_cons (pv 0) pa_nil))) (pg_name (i := 4) nd rfl (Or.inl rfl))
        (pss_one (ps_dput (hu_of hr) (pv 3) (pv 4) (lstN pa_nil) rfl)))
      (pss_cons (ps_for PassesOwn.never rfl (pi_enum (by rfl) T.z_enumerate (pa_cons (pv 2) pa_nil)) (pg_tup (by rfl) (pgs_cons (pg_name (i := 5) nd rfl (Or.inl rfl)) (pgs_cons (pg_tup (by rfl) (pgs_cons (pg_name (i := 6) nd rfl (Or.inl rfl)) (pgs_cons (pg_name (i := 7) nd rfl (Or.inl rfl)) pgs_nil))) pgs_nil)))
        (pss_cons (ps_set (i := 4) nd rfl (Or.inl rfl) (pe_slice C8.sl_txt (pe_dget (hu_of hr) (pv 1) (pv 6) (fun _ _ => rfl)) po_none (po_some (pv 7))))
        (pss_one (ps_expr (pe_bm PySem.F.plainAttrs_list PySem.F.slot_list_append PySem.F.type_list_append mt_append (pe_dget (hu_of hr) (pv 3) (pv 4) (fun _ _ => rfl)) (pa_cons (pv 5) pa_nil))))))
      (pss_one (ps_ret (pv 3))))), ?_⟩
    intro fa H1 n1 s1 e1
    refine ⟨_, rfl, v, nm, s, rfl, hD.same s1, hT, fun la H2 s2 e2l => ?_⟩
    have s02 := s1.trans s2
    have e2f := s2 _ _ e1
    refine ⟨la, rfl, ⟨_, SqL.of e2l⟩, for_list (K := K) (a := la) (xs := wSs (s.forks [])) (fun i σ H' => ∃ (y4 : Option V) (kvs : List (Key × V)), σ = [some v, some (.ref wa), some (.ref ca), some (.ref fa), y4, none, none, none] ∧ H' fa = some (.dK kvs) ∧ kvs.length = i ∧ RowsAt H H' fa (fun f => f ∈ (s.forks []).take i) (fun _ => []) ∧ Kp (fun a => a = fa) H2 H')
      ⟨none, [], rfl, e2f, rfl, ⟨[], e2f, fun f hf => by simp at hf, fun f _ => rfl, fun f h ra z => by cases z⟩, Kp.refl⟩ (fun i σ H' _ ⟨_, _, _, _, _, _, k'⟩ => SqL.kpD k' e2f (SqL.of e2l)) ?_ ?_⟩
    · rintro i x σ H3 hx ⟨y4, kvs, rfl, e3, hkl, R3, k3⟩
      obtain ⟨f, hf, rfl⟩ := wSs_get' hx
      have hfnot : f ∉ (s.forks []).take i := fun z => by
        have h1 := Sh.forks_nodup s []
        have h2 := List.getElem?_eq_some_iff.mp hf
        obtain ⟨j, hj, ej⟩ := List.mem_iff_getElem.mp z
        rw [List.getElem_take] at ej
        have h3 := (List.getElem_inj h1).mp (ej.trans h2.2.symm)
        rw [List.length_take] at hj
        omega
      have hfl : (s.forks []).length ≤ 1000 := by
        have := hT.size
        have h3 := Sh.subs_len s []
        rw [← Sh.subs_forks, List.length_map]
        refine Nat.le_trans (List.length_filter_le _ _) ?_
        omega
      have hi' := (List.getElem?_eq_some_iff.mp hf).1
      have s03 : Same H H3 := s02.kp1 k3 n1
      refine ⟨Nat.zero_le _, fun D H4 n4 s4 e4 => ?_⟩
      have e4f := s4 _ _ e3
      have nDn : H D = none := s03.free n4
      refine ⟨_, rfl, _, rfl, fa, _, rfl, DPut.k (k := .inr (wS f)) e4f (by rw [sizeLine_eq]; omega), ?_⟩
      have R4 := R3.same s4
      have hn : valV kvs (.inr (wS f)) = none := by
        cases q : valV kvs (.inr (wS f)) with
        | none => rfl
        | some u => exact absurd (R4.valid e4f q).1 hfnot
      have hDn : ∀ z ra, valV kvs (.inr (wS z)) = some (.ref ra) → ra ≠ D := fun z ra hz q => by
        obtain ⟨_, ra', e', e'', _⟩ := R3.valid e3 hz
        cases e'
        rw [q, n4] at e''
        cases e''
      have R5 := R4.new (f := f) (H' := upd H4 fa (.dK (putK kvs (.inr (wS f)) (.ref D)))) e4f hfnot e4 nDn hDn kp_put upd_same
      rw [putK_new _ hn] at R5 ⊢
      refine ⟨_, _, rfl, upd_same, by rw [List.length_append, hkl]; rfl, R5.imp (fun z => ?_) fun z hz => ?_, (k3.trans (Kp.same s4)).trans kp_put⟩
      · rw [take_snoc hf, List.mem_append, List.mem_singleton]
        exact ⟨fun q => q.elim .inr .inl, fun q => q.elim .inr .inl⟩
      · show [] = if z = f then [] else []
        by_cases q : z = f
        · rw [if_pos q]
        · rw [if_neg q]
    · rintro σ H3 ⟨y4, kvs, rfl, e3, hkl, R3, k3⟩
      have s03 : Same H H3 := s02.kp1 k3 n1
      rw [show (wSs (s.forks [])).length = (s.forks []).length by unfold wSs; rw [List.length_map, List.length_map], List.take_length] at R3
      obtain ⟨ca', xs, e, hS, hA⟩ := hC.list_inv
      cases e
      have hxl : xs.length = (cl sp).length := by rw [hA.length, List.length_map]
      refine ⟨_, rfl, ca, _, rfl, s03.seq hS, for_it walk_enum (fun i σ H' => ∃ (y4 y5 y6 y7 : Option V), σ = [some v, some (.ref wa), some (.ref ca), some (.ref fa), y4, y5, y6, y7] ∧ H' fa = some (.dK kvs) ∧ RowsAt H H' fa (fun f => f ∈ s.forks []) (ixs ((fl sp).take i)) ∧ Same H H')
        ⟨_, _, _, _, rfl, e3, R3.imp (fun _ => Iff.rfl) (fun f _ => rfl), s03⟩ (fun i σ H' _ ⟨_, _, _, _, _, _, _, s'⟩ => s'.seq hS) ?_ ?_⟩
      · rintro i x σ H4 H5 hi ⟨y4, y5, y6, y7, rfl, e4, R4, s4⟩ ⟨t, x1, x2, rfl, nt, rfl, hx1, hx2⟩
        cases hx1
        obtain ⟨d, hd1, hd2⟩ := hA.get' hx2
        rw [List.getElem?_map] at hd1
        cases hp : (cl sp)[i]? with
        | none =>
          rw [hp] at hd1
          cases hd1
        | some c =>
          rw [hp] at hd1
          have ed : clD c = d := Option.some.inj hd1
          subst ed
          obtain ⟨n, l⟩ := c
          obtain ⟨t2, u1, u2, rfl, ht2, Du1, Du2⟩ := Dp.pair_inv (show Dp K H _ (.tuple [.str n, .int (l : Nat)]) from hd2)
          obtain rfl := Du1.str_inv
          obtain rfl := Du2.int_inv
          obtain ⟨wv, hw1, hw2, hw3⟩ := fl_cl hp
          have s45 : Same H4 (upd H4 t (.tup [.int (i : Nat), .ref t2])) := same_new nt
          generalize hH5 : upd H4 t (.tup [.int (i : Nat), .ref t2]) = H5 at s45
          have e5t : H5 t = some (.tup [.int (i : Nat), .ref t2]) := by rw [← hH5]; exact upd_same
          have s05 := s4.trans s45
          refine ⟨t, _, rfl, SqT.of e5t, rfl, _, _, rfl, _, _, rfl, ⟨t2, _, rfl, Same.seqT s05 ht2, rfl, _, _, rfl, _, _, rfl, rfl, ?_⟩⟩
          refine ⟨rfl, ?_⟩
          obtain ⟨wk, hwk1, hwk2⟩ := hW.same s05
          have hdw : wv.length ≤ 11 := hO.depth hw1
          refine ⟨_, rfl, _, rfl, wa, _, rfl, dget_s hwk1 (hwk2 _ hw1), _, rfl, _, rfl, _, rfl, wS_fit (show wv.length ≤ 1000 by omega), ?_⟩
          rw [wS_take _ (by omega), Int.toNat_natCast]
          have hfo : wv.take l ∈ s.forks [] := (hO.fork_iff _).mpr ⟨i, n, hw3⟩
          have e5f := s45 _ _ e4
          have R5 := R4.same s45
          obtain ⟨kvs', z1, z2, z3, z4⟩ := id R5
          rw [e5f] at z1
          cases z1
          obtain ⟨ra, a1, a2, a3⟩ := z2 _ hfo
          have tk : (fl sp).take (i + 1) = (fl sp).take i ++ [(n, wv.take l)] := take_snoc hw3
          have tl : ((fl sp).take i).length = i := by
            rw [List.length_take]
            have := (List.getElem?_eq_some_iff.mp hw3).1
            omega
          refine ⟨_, rfl, _, rfl, fa, _, rfl, dget_s e5f a1, .inl ⟨rfl, _, SqL.of a2⟩, _, rfl, ra, _, _, rfl, rfl, a2, ?_, ?_⟩
          · rw [nV_len, sizeLine_eq]
            have := ixs_len ((fl sp).take i) (wv.take l)
            rw [List.length_take] at this
            omega
          · refine put fun H6 k6 e6 => ?_
            refine ⟨_, _, _, _, rfl, k6 _ _ (ne_of e5f a2 fun z => nomatch z) e5f, ?_, s05.kp1 k6 a3⟩
            refine (R5.app (f := wv.take l) (xs := ixs ((fl sp).take i) (wv.take l) ++ [i]) e5f a1 ⟨_, a2⟩ k6 (by rw [e6]; unfold nV; rw [List.map_append]; rfl)).imp (fun z => Iff.rfl) fun z hz => ?_
            rw [tk, ixs_snoc, tl]
            by_cases q : z = wv.take l
            · rw [if_pos q.symm, if_pos q, q]
            · rw [if_neg (Ne.symm q), if_neg q]
      · rintro σ H4 ⟨y4, y5, y6, y7, rfl, e4, R4, s4⟩
        rw [hxl, ← fl_len, List.take_length] at R4
        exact ⟨_, rfl, k fa H4 s4 ⟨H, R4.imp (fun f => (hO.fork_iff f).symm) fun _ _ => rfl⟩⟩
/-- some text -/
def spSpelled (K : PySem.W.Frag) (n : Nat) : Sp := fun vs H Q _ => ∃ (v : V) (nm : List Bool → Str) (f : List Bool) (s : Sh), vs = [v] ∧ Dp K H v (tr nm f s) ∧ (∀ w ∈ s.ways f, (nm w).length ≤ 8) ∧ s.height ≤ n ∧ s.size ≤ 100 ∧ ∀ (z : Str), z.length ≤ 11 * s.size → Q (.str z) H
theorem len_app (x y : Str) : (x ++ y).length = x.length + y.length := by
  rw [str_S x, str_S y, SX.S_cat, SX.S_len, SX.S_len, SX.S_len, List.length_append]
theorem c_spelled (T : Fx K mg) : ∀ n : Nat, C8.Cal P w K mg base (n + 1) "_spelled" (spSpelled K n) []
  | 0 => by
    refine calN T.d_spelled T.g_spelled sc_spelled (fun vs H Q E h => ?_) (fun _ _ _ _ _ _ us hl => match us, hl with | [_], _ => rfl) (fun cdv A outer s H vs Q E hr h => ?_)
    · obtain ⟨_, _, _, _, rfl, _⟩ := h
      rfl
    · obtain ⟨v, nm, f, s, rfl, hD, hN, h0, hsz, k⟩ := h
      refine ⟨_, pss_cons (ps_if (pt_not (pt_val (pe_callB (isiR (K := K) rfl) (by rfl) T.z_isinstance (by decide +kernel) (pa_cons (pv 0) (pa_cons (pe_bltn (v := .ty "tuple") (by rfl) T.z_tuple (by decide +kernel) rfl) pa_nil)))))
        (pss_one (ps_ret (pv 0))) pss_nil) pss_never, ?_⟩
      cases s with
      | nd l r => exact absurd h0 (by simp [Sh.height])
      | lf =>
        obtain rfl := hD.str_inv
        refine ⟨_, rfl, _, _, "str", false, rfl, .base (.str _), by decide +kernel, _, rfl, ?_⟩
        refine iteT ⟨_, rfl, k _ ?_⟩
        have := hN f (List.mem_singleton.mpr rfl)
        show (nm f).length ≤ 11 * 1
        omega
  | n + 1 => by
    have c : C8.Cal P w K mg base (n + 1) "_spelled" (spSpelled K n) [] := c_spelled T n
    refine calN T.d_spelled T.g_spelled sc_spelled (fun vs H Q E h => ?_) (fun _ _ _ _ _ _ us hl => match us, hl with | [_], _ => rfl) (fun cdv A outer s H vs Q E hr h => ?_)
    · obtain ⟨_, _, _, _, rfl, _⟩ := h
      rfl
    · obtain ⟨v, nm, f, s, rfl, hD, hN, h0, hsz, k⟩ := h
      have nd := sc_spelled.nd
      refine ⟨_, pss_cons (ps_if (pt_not (pt_val (pe_callB (isiR (K := K) rfl) (by rfl) T.z_isinstance (by decide +kernel) (pa_cons (pv 0) (pa_cons (pe_bltn (v := .ty "tuple") (by rfl) T.z_tuple (by decide +kernel) rfl) pa_nil)))))
        (pss_one (ps_ret (pv 0))) pss_nil)
        (pss_cons (ps_asg (pv 0) (pg_tup (by rfl) (pgs_cons (pg_name (i := 1) nd rfl (Or.inl rfl)) (pgs_cons (pg_name (i := 2) nd rfl (Or.inl rfl)) pgs_nil))))
        (pss_one (ps_ret (pe_joined (PJ.cons pe_str (PJ.cons (pe_fmt (C8.pe_c c hr (Nat.le_refl _) (by rfl) (pa_cons (pv 1) pa_nil))) (PJ.cons pe_str (PJ.cons (pe_fmt (C8.pe_c c hr (Nat.le_refl _) (by rfl) (pa_cons (pv 2) pa_nil))) (PJ.cons pe_str PJ.nil))))))))), ?_⟩
      cases s with
      | lf =>
        obtain rfl := hD.str_inv
        refine ⟨_, rfl, _, _, "str", false, rfl, .base (.str _), by decide +kernel, _, rfl, ?_⟩
        refine iteT ⟨_, rfl, k _ ?_⟩
        have := hN f (List.mem_singleton.mpr rfl)
        show (nm f).length ≤ 11 * 1
        omega
      | nd l r =>
        obtain ⟨t, x, y, rfl, ht, Dx, Dy⟩ := hD.pair_inv
        have hh : max l.height r.height + 1 ≤ n + 1 := h0
        have hs : l.size + r.size + 1 ≤ 100 := hsz
        refine ⟨_, rfl, _, _, "tuple", true, rfl, tyT ht, by decide +kernel, _, rfl, ?_⟩
        refine iteF ?_
        refine ⟨_, rfl, t, [x, y], rfl, ht, rfl, _, _, rfl, _, _, rfl, rfl, ?_⟩
        have e1 : (Str.ofString "(").length = 1 := by decide +kernel
        have e2 : (Str.ofString " ").length = 1 := by decide +kernel
        have e3 : (Str.ofString ")").length = 1 := by decide +kernel
        have e0 : Str.empty.length = 0 := rfl
        refine ⟨_, rfl, by rw [len_app, e1, e0, sizeLine_eq]; decide, ?_⟩
        refine ⟨_, rfl, x, nm, f ++ [false], l, rfl, Dx, fun w hw => hN w (List.mem_append_left _ hw), by omega, by omega, fun z1 hz1 => .inl ⟨z1, rfl, by rw [sizeLine_eq]; omega, z1, rfl, by rw [len_app, len_app, e1, e0, sizeLine_eq]; omega, ?_⟩⟩
        refine ⟨_, rfl, by rw [len_app, len_app, len_app, e1, e0, e2, sizeLine_eq]; omega, ?_⟩
        refine ⟨_, rfl, y, nm, f ++ [true], r, rfl, Dy, fun w hw => hN w (List.mem_append_right _ hw), by omega, by omega, fun z2 hz2 => .inl ⟨z2, rfl, by rw [sizeLine_eq]; omega, z2, rfl, by rw [len_app, len_app, len_app, len_app, e1, e0, e2, sizeLine_eq]; omega, ?_⟩⟩
        refine ⟨_, rfl, by rw [len_app, len_app, len_app, len_app, len_app, e1, e0, e2, e3, sizeLine_eq]; omega, ?_⟩
        refine k _ ?_
        rw [len_app, len_app, len_app, len_app, len_app, e1, e0, e2, e3]
        show _ ≤ 11 * (l.size + r.size + 1)
        omega
def spFormat (K : PySem.W.Frag) : Sp := fun vs H Q _ => ∃ (v : V) (nm : List Bool → Str) (s : Sh), vs = [v] ∧ Dp K H v (tr nm [] s) ∧ TreeOk nm s ∧ ∀ (z : Str) (H' : Hp), Same H H' → Q (.str z) H'
theorem c_format (T : Fx K mg) : C8.Cal P w K mg base 14 "format_tree" (spFormat K) [] := by
  have cC : C8.Cal P w K mg base 3 "check_tree" (spCheckTree K) [] := c_checkTree T
  have cS : C8.Cal P w K mg base 13 "_spelled" (spSpelled K 12) [] := c_spelled T 12
  refine calN T.d_format_tree T.g_format_tree sc_format_tree (fun vs H Q E h => ?_) (fun _ _ _ _ _ _ us hl => match us, hl with | [_], _ => rfl) (fun cdv A outer s H vs Q E hr h => ?_)
  · obtain ⟨_, _, _, rfl, _⟩ := h
    rfl
  · obtain ⟨v, nm, s, rfl, hD, hT, k⟩ := h
    refine ⟨_, pss_cons (ps_expr (C8.pe_c cC hr (by decide) (by rfl) (pa_cons (pv 0) pa_nil))) (pss_one (ps_ret (C8.pe_c cS hr (by decide) (by rfl) (pa_cons (pv 0) pa_nil)))), ?_⟩
    refine ⟨_, rfl, v, nm, s, rfl, hD, hT, fun H1 s1 => ?_⟩
    have h1 := Sh.height_ways s []
    have h2 := hT.few
    have h3 := hT.size
    refine ⟨_, rfl, v, nm, [], s, rfl, hD.same s1, fun w hw => (hT.nms w hw).2.1, by omega, by omega, fun z _ => k z H1 s1⟩
end
end FF
/-! Records and slots. -/
namespace FF
open PySem PySem.Spec PyProof.Rows L2
structure Slot where
  p : Int
  a : Str
  b : Str
def Slot.good (s : Slot) : Str := if s.p = 0 then s.a else s.b
def takeS (t : Str) (k : Nat) : Str := SX.S (t.cps.toList.take k)
def Slot.fill (s : Slot) (t : Str) : Slot := if s.p = 0 then ⟨s.p, s.a, t⟩ else ⟨s.p, t, s.b⟩
def Slot.turn (s : Slot) : Slot := ⟨1 - s.p, s.a, s.b⟩
/-- the slots behind the first m steps of a write -/
def Slot.after (s : Slot) (t : Str) (m : Int) : Slot := if m = 0 then s else if m < (t.length : Int) + 2 then s.fill (takeS t (m - 1).toNat) else (s.fill (takeS t (m - 1).toNat)).turn
def Slot.ok (s : Slot) : Prop := s.p = 0 ∨ s.p = 1
theorem Slot.fill_p (s : Slot) (t : Str) : (s.fill t).p = s.p := by
  unfold Slot.fill
  split <;> rfl
theorem Slot.fill_good (s : Slot) (t : Str) : (s.fill t).good = s.good := by
  unfold Slot.fill Slot.good
  by_cases h : s.p = 0
  · simp [h]
  · simp [h]
theorem Slot.turn_good {s : Slot} (t : Str) (h : s.ok) : (s.fill t).turn.good = t := by
  unfold Slot.fill Slot.turn Slot.good
  rcases h with h | h
  · simp [h]
  · simp [h]
theorem Slot.after_ok {s : Slot} (t : Str) (m : Int) (h : s.ok) : (s.after t m).ok := by
  unfold Slot.after
  split
  · exact h
  · split
    · unfold Slot.ok
      rw [Slot.fill_p]
      exact h
    · unfold Slot.ok Slot.turn
      show 1 - (s.fill _).p = 0 ∨ 1 - (s.fill _).p = 1
      rw [Slot.fill_p]
      rcases h with h | h <;> omega
/-- a write that is cut ahead of the turn of its pointer keeps the good slot -/
theorem Slot.after_cut (s : Slot) (t : Str) {m : Int} (h : m < (t.length : Int) + 2) : (s.after t m).good = s.good := by
  unfold Slot.after
  split
  · rfl
  · first
      | rw [if_pos h, Slot.fill_good]
      | rw [Slot.fill_good]
theorem takeS_all {t : Str} {k : Nat} (h : t.length ≤ k) : takeS t k = t := by
  unfold takeS
  rw [List.take_of_length_le (by rw [← len_tl]; exact h), ← str_S]
theorem Slot.after_whole {s : Slot} (t : Str) {m : Int} (hs : s.ok) (h : (t.length : Int) + 2 ≤ m) : (s.after t m).good = t := by
  unfold Slot.after
  rw [if_neg (by omega), if_neg (by omega), Slot.turn_good _ hs, takeS_all (by omega)]
/-- slots as a value -/
def SlV (K : PySem.W.Frag) (H : Hp) (v : V) (s : Slot) : Prop := ∃ t, v = .ref t ∧ SqT K H t [.int s.p, .str s.a, .str s.b]
theorem SlV.same {K : PySem.W.Frag} {H H' : Hp} {v : V} {s : Slot} (h : SlV K H v s) (k : Same H H') : SlV K H' v s := let ⟨t, e, q⟩ := h; ⟨t, e, Same.seqT k q⟩
theorem SlV.of {K : PySem.W.Frag} {H : Hp} {t : Addr} {s : Slot} (h : H t = some (.tup [.int s.p, .str s.a, .str s.b])) : SlV K H (.ref t) s := ⟨t, rfl, SqT.of h⟩
def spIsRecord : Sp := fun vs H Q _ => ∃ (z : Str), vs = [.str z] ∧ IsTx z ∧ ∀ H' : Hp, Same H H' → Q (.bl true) H'
def spGood (K : PySem.W.Frag) : Sp := fun vs H Q _ => ∃ (v : V) (s : Slot), vs = [v] ∧ SlV K H v s ∧ Q (.str s.good) H
def spFill (K : PySem.W.Frag) : Sp := fun vs H Q _ => ∃ (v : V) (s : Slot) (t : Str), vs = [v, .str t] ∧ SlV K H v s ∧ ∀ (v' : V) (H' : Hp), Same H H' → SlV K H' v' (s.fill t) → Q v' H'
def spTurnP (K : PySem.W.Frag) : Sp := fun vs H Q _ => ∃ (v : V) (s : Slot), vs = [v] ∧ SlV K H v s ∧ ∀ (v' : V) (H' : Hp), Same H H' → SlV K H' v' s.turn → Q v' H'
def spSteps : Sp := fun vs H Q _ => ∃ (t : Str), vs = [.str t] ∧ t.length ≤ 1000 ∧ Q (.int ((t.length : Int) + 2)) H
def spAfter (K : PySem.W.Frag) : Sp := fun vs H Q _ => ∃ (v : V) (s : Slot) (t : Str) (m : Int), vs = [v, .str t, .int m] ∧ SlV K H v s ∧ t.length ≤ 1000 ∧ 0 ≤ m ∧ ∀ (v' : V) (H' : Hp), Same H H' → SlV K H' v' (s.after t m) → Q v' H'
section
variable {P : Program} {w : World} {K : PySem.W.Frag} {mg : Str → Option Value} {base : Heap}
theorem c_isRecord (T : Fx K mg) : C8.Cal P w K mg base 1 "is_record" spIsRecord [] := by
  obtain ⟨tm, hm⟩ := T.i_RECORD_LIMIT
  refine calN T.d_is_record T.g_is_record sc_is_record (fun vs H Q E h => ?_) (fun _ _ _ _ _ _ us hl => match us, hl with | [_], _ => rfl) (fun cdv A outer s H vs Q E hr h => ?_)
  · obtain ⟨_, rfl, _⟩ := h
    rfl
  · obtain ⟨z, rfl, ⟨hz1, hz2⟩, k⟩ := h
    have nd := sc_is_record.nd
    refine ⟨_, pss_cons (ps_if (PW.pt (pw_or (pt_not (pt_val (pe_callB (isiR (K := K) rfl) (by rfl) T.z_isinstance (by decide +kernel) (pa_cons (pv 0) (pa_cons (pe_bltn (v := .ty "str") (by rfl) T.z_str (by decide +kernel) rfl) pa_nil)))))
          (pw_or1 (pt_cmpR op_gt (pe_callB call_len_str (by rfl) T.z_len PySem.boot_len (pa_cons (pv 0) pa_nil)) (pe_glob (v := .int 200) rfl hm ⟨_, rfl⟩) (nomark _))))) (pss_one (ps_ret pe_bl)) pss_nil)
      (pss_one (ps_ret (pe_callB (cr_all rfl) (by rfl) T.z_all (by decide +kernel) (pa_cons (pe_lc (own := [("sign", 1)]) (g := gName 1) (tt := tYes) rfl nd (pi_str (pv 0))
        (blkOk_by (own := [("sign", 1)]) (N := ["value", "sign"]) (sc := defScope s_is_record) (by decide +kernel)) (fun _ _ _ _ _ => pg_name (i := 1) nd rfl (Or.inl rfl)) (fun _ _ _ _ _ => pts_nil)
        (fun _ _ _ _ _ => pe_chain op_le_str op_le_str pe_str (pv 1) pe_str)) pa_nil)))), ?_⟩
    have hzl : z.length ≤ 200 := by rw [len_tl]; exact hz1
    refine ⟨_, rfl, _, _, "str", true, rfl, .base (.str _), by decide +kernel, _, rfl, ?_⟩
    refine iteF ?_
    refine ⟨_, rfl, _, rfl, by rw [sizeLine_eq]; omega, _, _, rfl, rfl, _, rfl, ?_⟩
    have h200 : decide ((200 : Int) < ((z.length : Nat) : Int)) = false := decide_eq_false (by omega)
    show if decide ((200 : Int) < ((z.length : Nat) : Int)) = true then _ else _
    rw [h200]
    refine iteF ?_
    refine ⟨_, rfl, _, rfl, fun D hD => ?_⟩
    refine lc_it walk_str (fun i H' => H' D = some (.lst ((List.replicate i true).map V.bl)) ∧ Same H H') ⟨upd_same, same_new hD⟩ (fun _ _ _ _ => trivial) ?_ ?_
    · rintro i x H1 H2 hi ⟨e1, s1⟩ ⟨rfl, c, hc, rfl⟩
      have hcm : c ∈ z.cps.toList := List.mem_of_getElem? (by rw [Array.getElem?_toList]; exact hc)
      obtain ⟨c1, c2⟩ := hz2 c hcm
      refine ⟨rfl, tyes ?_⟩
      refine ⟨_, rfl, _, _, rfl, rfl, _, rfl, ?_⟩
      have e0 : (Str.ofString " ").cps.toList = [32] := by decide +kernel
      have e126 : (Str.ofString "~").cps.toList = [126] := by decide +kernel
      have l1 : decide (([c] : List Nat) < [32]) = false := decide_eq_false fun q => by
        rw [List.cons_lt_cons_iff] at q
        rcases q with q | ⟨_, q⟩
        · omega
        · exact absurd q (List.lt_irrefl _)
      have l2 : decide (([126] : List Nat) < [c]) = false := decide_eq_false fun q => by
        rw [List.cons_lt_cons_iff] at q
        rcases q with q | ⟨_, q⟩
        · omega
        · exact absurd q (List.lt_irrefl _)
      show if (!decide (([c] : List Nat) < (Str.ofString " ").cps.toList)) = true then _ else _
      rw [e0, l1]
      refine iteT ⟨_, _, rfl, rfl, ?_⟩
      show ∃ acc, H2 D = some (.lst acc) ∧ acc.length < sizeLine ∧ upd H2 D (.lst (acc ++ [V.bl (!decide ((Str.ofString "~").cps.toList < ([c] : List Nat)))])) D = _ ∧ Same H (upd H2 D (.lst (acc ++ [V.bl (!decide ((Str.ofString "~").cps.toList < ([c] : List Nat)))])))
      rw [e126, l2]
      have hi200 : i < 200 := by
        have : i < z.cps.toList.length := by rw [Array.length_toList]; exact hi
        omega
      refine ⟨_, e1, by rw [List.length_map, List.length_replicate, sizeLine_eq]; omega, ?_, fun b o e => ?_⟩
      · rw [upd_same, List.replicate_succ', List.map_append]
        rfl
      · rw [upd_ne (ne_of_none e hD)]
        exact s1 _ _ e
    · rintro H1 ⟨e1, s1⟩
      refine ⟨D, _, rfl, SqL.of e1, ?_⟩
      have : (List.replicate z.cps.size true).all id = true := by simp
      rw [this]
      exact k H1 s1
theorem c_good (T : Fx K mg) : C8.Cal P w K mg base 1 "good_slot" (spGood K) [] := by
  refine calN T.d_good_slot T.g_good_slot sc_good_slot (fun vs H Q E h => ?_) (fun _ _ _ _ _ _ us hl => match us, hl with | [_], _ => rfl) (fun cdv A outer s H vs Q E hr h => ?_)
  · obtain ⟨_, _, rfl, _⟩ := h
    rfl
  · obtain ⟨v, s, rfl, ⟨t, rfl, ht⟩, k⟩ := h
    have nd := sc_good_slot.nd
    refine ⟨_, pss_cons (ps_asg (pv 0) (pg_tup (by rfl) (pgs_cons (pg_name (i := 1) nd rfl (Or.inl rfl)) (pgs_cons (pg_name (i := 2) nd rfl (Or.inl rfl)) (pgs_cons (pg_name (i := 3) nd rfl (Or.inl rfl)) pgs_nil)))))
      (pss_cons (ps_if (pt_cmpR op_eq (pv 1) pe_int (nomark _)) (pss_one (ps_ret (pv 2))) pss_nil) (pss_one (ps_ret (pv 3)))), ?_⟩
    refine ⟨_, rfl, t, _, rfl, ht, rfl, _, _, rfl, _, _, rfl, _, _, rfl, rfl, ?_⟩
    refine ⟨_, rfl, rfl, _, rfl, ?_⟩
    refine ite2 (fun h => ?_) (fun h => ?_)
    · have h1 : s.p = 0 := by
        have := of_decide_eq_true h
        injection this
      refine ⟨_, rfl, ?_⟩
      have e : s.good = s.a := if_pos h1
      rw [e] at k
      exact k
    · have h1 : s.p ≠ 0 := fun z => h (decide_eq_true (by rw [z]))
      refine ⟨_, rfl, ?_⟩
      have e : s.good = s.b := if_neg h1
      rw [e] at k
      exact k
theorem c_fill (T : Fx K mg) : C8.Cal P w K mg base 1 "fill_spare" (spFill K) [] := by
  refine calN T.d_fill_spare T.g_fill_spare sc_fill_spare (fun vs H Q E h => ?_) (fun _ _ _ _ _ _ us hl => match us, hl with | [_, _], _ => rfl) (fun cdv A outer s H vs Q E hr h => ?_)
  · obtain ⟨_, _, _, rfl, _⟩ := h
    rfl
  · obtain ⟨v, s, tx, rfl, ⟨t, rfl, ht⟩, k⟩ := h
    have nd := sc_fill_spare.nd
    refine ⟨_, pss_cons (ps_asg (pv 0) (pg_tup (by rfl) (pgs_cons (pg_name (i := 2) nd rfl (Or.inl rfl)) (pgs_cons (pg_name (i := 3) nd rfl (Or.inl rfl)) (pgs_cons (pg_name (i := 4) nd rfl (Or.inl rfl)) pgs_nil)))))
      (pss_cons (ps_if (pt_cmpR op_eq (pv 2) pe_int (nomark _)) (pss_one (ps_ret (tupN (pa_cons (pv 2) (pa_cons (pv 3) (pa_cons (pv 1) pa_nil)))))) pss_nil) (pss_one (ps_ret (tupN (pa_cons (pv 2) (pa_cons (pv 1) (pa_cons (pv 4) pa_nil))))))), ?_⟩
    refine ⟨_, rfl, t, _, rfl, ht, rfl, _, _, rfl, _, _, rfl, _, _, rfl, rfl, ?_⟩
    refine ⟨_, rfl, rfl, _, rfl, ?_⟩
    refine ite2 (fun h => ?_) (fun h => ?_)
    · have h1 : s.p = 0 := by
        have := of_decide_eq_true h
        injection this
      refine ⟨_, rfl, _, rfl, _, rfl, (by show 3 ≤ sizeLine; decide), fun q H1 n1 s1 e1 => k _ H1 s1 (SlV.of ?_)⟩
      rw [e1]
      simp [Slot.fill, h1]
    · have h1 : s.p ≠ 0 := fun z => h (decide_eq_true (by rw [z]))
      refine ⟨_, rfl, _, rfl, _, rfl, (by show 3 ≤ sizeLine; decide), fun q H1 n1 s1 e1 => k _ H1 s1 (SlV.of ?_)⟩
      rw [e1]
      simp [Slot.fill, h1]
theorem c_turnP (T : Fx K mg) : C8.Cal P w K mg base 1 "turn_pointer" (spTurnP K) [] := by
  refine calN T.d_turn_pointer T.g_turn_pointer sc_turn_pointer (fun vs H Q E h => ?_) (fun _ _ _ _ _ _ us hl => match us, hl with | [_], _ => rfl) (fun cdv A outer s H vs Q E hr h => ?_)
  · obtain ⟨_, _, rfl, _⟩ := h
    rfl
  · obtain ⟨v, s, rfl, ⟨t, rfl, ht⟩, k⟩ := h
    have nd := sc_turn_pointer.nd
    refine ⟨_, pss_cons (ps_asg (pv 0) (pg_tup (by rfl) (pgs_cons (pg_name (i := 1) nd rfl (Or.inl rfl)) (pgs_cons (pg_name (i := 2) nd rfl (Or.inl rfl)) (pgs_cons (pg_name (i := 3) nd rfl (Or.inl rfl)) pgs_nil)))))
      (pss_one (ps_ret (tupN (pa_cons (pe_op op_sub pe_int (pv 1)) (pa_cons (pv 2) (pa_cons (pv 3) pa_nil)))))), ?_⟩
    refine ⟨_, rfl, t, _, rfl, ht, rfl, _, _, rfl, _, _, rfl, _, _, rfl, rfl, ?_⟩
    refine ⟨_, rfl, _, _, rfl, rfl, _, rfl, _, rfl, (by show 3 ≤ sizeLine; decide), fun q H1 n1 s1 e1 => k _ H1 s1 (SlV.of (s := s.turn) e1)⟩
theorem c_steps (T : Fx K mg) : C8.Cal P w K mg base 1 "slot_steps" spSteps [] := by
  refine calN T.d_slot_steps T.g_slot_steps sc_slot_steps (fun vs H Q E h => ?_) (fun _ _ _ _ _ _ us hl => match us, hl with | [_], _ => rfl) (fun cdv A outer s H vs Q E hr h => ?_)
  · obtain ⟨_, rfl, _⟩ := h
    rfl
  · obtain ⟨t, rfl, ht, k⟩ := h
    refine ⟨_, pss_one (ps_ret (pe_op op_add (pe_callB call_len_str (by rfl) T.z_len PySem.boot_len (pa_cons (pv 0) pa_nil)) pe_int)), ?_⟩
    exact ⟨_, rfl, _, rfl, by rw [sizeLine_eq]; omega, _, _, rfl, rfl, k⟩
theorem c_after (T : Fx K mg) : C8.Cal P w K mg base 2 "slots_after" (spAfter K) [] := by
  have cF : C8.Cal P w K mg base 1 "fill_spare" (spFill K) [] := c_fill T
  have cT : C8.Cal P w K mg base 1 "turn_pointer" (spTurnP K) [] := c_turnP T
  have cS : C8.Cal P w K mg base 1 "slot_steps" spSteps [] := c_steps T
  refine calN T.d_slots_after T.g_slots_after sc_slots_after (fun vs H Q E h => ?_) (fun _ _ _ _ _ _ us hl => match us, hl with | [_, _, _], _ => rfl) (fun cdv A outer s H vs Q E hr h => ?_)
  · obtain ⟨_, _, _, _, rfl, _⟩ := h
    rfl
  · obtain ⟨v, s, t, m, rfl, hS, ht, hm, k⟩ := h
    have nd := sc_slots_after.nd
    refine ⟨_, pss_cons (ps_if (pt_cmpR op_eq (pv 2) pe_int (nomark _)) (pss_one (ps_ret (pv 0))) pss_nil)
      (pss_cons (ps_set (i := 3) nd rfl (Or.inl rfl) (C8.pe_c cF hr (Nat.le_refl _) (by rfl) (pa_cons (pv 0) (pa_cons (pe_slice C8.sl_txt (pv 1) po_none (po_some (pe_op op_sub (pv 2) pe_int))) pa_nil))))
      (pss_cons (ps_if (pt_cmpR op_lt (pv 2) (C8.pe_c cS hr (Nat.le_refl _) (by rfl) (pa_cons (pv 1) pa_nil)) (nomark _)) (pss_one (ps_ret (pv 3))) pss_nil)
      (pss_one (ps_ret (C8.pe_c cT hr (Nat.le_refl _) (by rfl) (pa_cons (pv 3) pa_nil)))))), ?_⟩
    refine ⟨_, rfl, rfl, _, rfl, ?_⟩
    refine ite2 (fun h => ?_) (fun h => ?_)
    · have h1 : m = 0 := by
        have := of_decide_eq_true h
        injection this
      refine ⟨_, rfl, k v H (Same.refl _) ?_⟩
      unfold Slot.after
      rw [if_pos h1]
      exact hS
    · have h1 : m ≠ 0 := fun z => h (decide_eq_true (by rw [z]))
      refine ⟨_, rfl, _, rfl, _, rfl, _, _, rfl, rfl, _, rfl, t, rfl, by rw [sizeLine_eq]; omega, ?_⟩
      have esl : Txt.slice t none (some (m - 1)) = takeS t (m - 1).toNat := by
        conv => lhs; rw [str_S t]
        rw [SX.slice_to (by omega)]
        rfl
      rw [esl]
      refine ⟨v, s, _, rfl, hS, fun v1 H1 s1 S1 => ?_⟩
      refine ⟨_, rfl, _, rfl, t, rfl, ht, _, _, rfl, rfl, _, rfl, ?_⟩
      refine ite2 (fun q => ?_) (fun q => ?_)
      · have q := of_decide_eq_true q
        refine ⟨_, rfl, k v1 H1 s1 ?_⟩
        unfold Slot.after
        rw [if_neg h1, if_pos q]
        exact S1
      · have q : ¬ m < (t.length : Int) + 2 := fun z => q (decide_eq_true z)
        refine ⟨_, rfl, v1, _, rfl, S1, fun v2 H2 s2 S2 => k v2 H2 (s1.trans s2) ?_⟩
        unfold Slot.after
        rw [if_neg h1, if_neg q]
        exact S2
end
end FF
/-! Iterators: zip of a tuple and a list; reversed(range(..)) as a value. -/
namespace FF
open PySem PySem.Spec PyProof.Rows L2
/-! ### zip of a tuple and a list of one length -/
def ItzX (K : PySem.W.Frag) (a b : Addr) : It :=
  ⟨fun i H => ∃ (xs ys : List V) (x y : V), SqT K H a xs ∧ SqL K H b ys ∧ xs[i]? = some x ∧ ys[i]? = some y,
    fun i H v H' => ∃ T x y, v = .ref T ∧ H T = none ∧ H' = upd H T (.tup [x, y]) ∧ (∀ xs, SqT K H a xs → xs[i]? = some x) ∧ ∀ ys, SqL K H b ys → ys[i]? = some y,
    fun i H => ∃ xs ys : List V, SqT K H a xs ∧ SqL K H b ys ∧ xs.length = i ∧ ys.length = i⟩
def TnX (z TI TO i1 i2 a b : Addr) (i : Nat) (h : Heap) : Prop := IsZip h z TI TO .none ∧ IsTupOf2 h TI (.ref i1) (.ref i2) ∧ (∃ x y, IsTupOf2 h TO x y) ∧ h.IsTupleIter i1 a i ∧ h.IsListIter i2 b i
theorem turn_zipX {P : Program} {w : World} {K : PySem.W.Frag} {elts : List Expr} {kk : Nat} {tpos : Pos} {a b z TI TO i1 i2 : Addr} (S : ZipSep2 z TI TO i1 i2 [i1, a] [i2, b]) (n1 : a ≠ i1) (n2 : b ≠ i2) :
    Turn P w K (.Tuple elts kk tpos) (ItzX K a b) [z, TI, TO, i1, i2] z (TnX z TI TO i1 i2 a b) where
  mem := by simp
  obj := fun i h st c hc => by
    obtain ⟨hz, hTI, ⟨x, y, hTO⟩, ⟨o1, e1, _, d1⟩, ⟨o2, e2, _, d2⟩⟩ := st
    have e' : c = z ∨ c = TI ∨ c = TO ∨ c = i1 ∨ c = i2 := by simpa using hc
    rcases e' with q | q | q | q | q
    · rw [q]; exact ⟨_, hz, fun v q => nomatch q⟩
    · rw [q]; exact ⟨_, hTI, fun v q => nomatch q⟩
    · rw [q]; exact ⟨_, hTO, fun v q => nomatch q⟩
    · rw [q]; exact ⟨o1, e1, fun v q => by rw [d1] at q; cases q⟩
    · rw [q]; exact ⟨o2, e2, fun v q => by rw [d2] at q; cases q⟩
  keep := fun i h h' st k => by
    obtain ⟨hz, hTI, ⟨x, y, hTO⟩, h1, h2⟩ := st
    exact ⟨k z (by simp) _ hz, k TI (by simp) _ hTI, ⟨x, y, k TO (by simp) _ hTO⟩, h1.at fun o q => k i1 (by simp) o q, h2.at fun o q => k i2 (by simp) o q⟩
  item := by
    intro X hP hw hK hc i pins s σ H E I hf st hg
    subst hP hw hK
    obtain ⟨hz, hTI, hTO, h1, h2⟩ := st
    obtain ⟨xs, ys, x, y, hqx, hqy, hx, hy⟩ := hg
    obtain ⟨its, rv, p, _⟩ := I.tuple hqx
    obtain ⟨its2, rv2, p2, _⟩ := I.list hqy
    obtain ⟨u, hu, ru⟩ := rv.get hx
    obtain ⟨u2, hu2, ru2⟩ := rv2.get hy
    have W := GoesN.zip2 (prog := X.prog) (w := X.w) (A := X.A) (elts := elts) (x1 := kk) (pos := tpos) S (Draws.tuple (A := X.A.in1) (I.ok.hd hc) i1 a n1 its.toArray) (Draws.list (A := X.A.in1) (I.ok.hd hc) i2 b n2 its2.toArray)
    have l1 : i < its.toArray.size := by
      have := (List.getElem?_eq_some_iff.mp hu).1
      simpa using this
    have l2 : i < its2.toArray.size := by
      have := (List.getElem?_eq_some_iff.mp hu2).1
      simpa using this
    refine W.goes i s _ E (Nat.lt_min.mpr ⟨l1, l2⟩) ⟨hz, hTI, hTO, ⟨h1, p⟩, ⟨h2, p2.isList⟩⟩ fun v h' tk hY st' hk htk => ?_
    obtain ⟨T, v1, v2, rfl, hT, e1, e2, hI⟩ := hY
    obtain ⟨hz', hTI', hTO', ⟨h1', _⟩, ⟨h2', _⟩⟩ := st'
    have q1 : v1 = u := by
      have : its[i]? = some v1 := by simpa using e1
      rw [hu] at this
      exact (Option.some.inj this).symm
    have q2 : v2 = u2 := by
      have : its2[i]? = some v2 := by simpa using e2
      rw [hu2] at this
      exact (Option.some.inj this).symm
    subst q1
    subst q2
    obtain ⟨oT, gT, cT, nT, dT⟩ := hI
    have new : ObjOk X.prog X.w (upd H T (.tup [x, y])) h' T (.tup [x, y]) := ⟨by show 2 ≤ sizeLine; decide, [v1, v2], .cons ru (.cons ru2 .nil), ⟨oT, gT, cT, nT, dT⟩⟩
    have I1 : Inv X pins σ (upd H T (.tup [x, y])) { s with heap := h', toks := tk } :=
      I.turnedNew (t' := tk) (ch := [z, TI, TO, i1, i2]) (fun c o hb q => hk c o (fun z' => hb (by
        have e' : c = z ∨ c = TO ∨ c = i1 ∨ c = i2 := by simpa using z'
        rcases e' with q | q | q | q <;> simp [q])) q) hf hT new
    refine ⟨.ref T, _, I1, rfl, ⟨T, x, y, rfl, I.hok.fresh hT, rfl, fun l hl => by rw [I.tuple_inj hl hqx]; exact hx, fun l hl => by rw [I.list_inj hl hqy]; exact hy⟩, ⟨hz', hTI', hTO', h1', h2'⟩, fun c hcm => ?_⟩
    have hlt : c < s.heap.objs.size := by
      have e' : c = z ∨ c = TI ∨ c = TO ∨ c = i1 ∨ c = i2 := by simpa using hcm
      obtain ⟨_, _, hTO⟩ := hTO
      rcases e' with q | q | q | q | q
      · rw [q]; exact Heap.lt_size hz
      · rw [q]; exact Heap.lt_size hTI
      · rw [q]; exact Heap.lt_size hTO
      · rw [q]; obtain ⟨_, e1, _⟩ := h1; exact Heap.lt_size e1
      · rw [q]; obtain ⟨_, e2, _⟩ := h2; exact Heap.lt_size e2
    rw [upd_ne (Nat.ne_of_lt (Nat.lt_of_lt_of_le hlt hT))]
    exact (hf c hcm).1
  done := by
    intro X hP hw hK hc i pins s σ H E I hf st hg
    subst hP hw hK
    obtain ⟨hz, hTI, hTO, h1, h2⟩ := st
    obtain ⟨xs, ys, hqx, hqy, ex, ey⟩ := hg
    obtain ⟨its, rv, p, _⟩ := I.tuple hqx
    obtain ⟨its2, rv2, p2, _⟩ := I.list hqy
    have W := GoesN.zip2 (prog := X.prog) (w := X.w) (A := X.A) (elts := elts) (x1 := kk) (pos := tpos) S (Draws.tuple (A := X.A.in1) (I.ok.hd hc) i1 a n1 its.toArray) (Draws.list (A := X.A.in1) (I.ok.hd hc) i2 b n2 its2.toArray)
    have l1 : its.toArray.size = i := by
      have := rv.length
      simp; omega
    have l2 : its2.toArray.size = i := by
      have := rv2.length
      simp; omega
    have em : min its.toArray.size its2.toArray.size = i := by rw [l1, l2, Nat.min_self]
    refine W.stops s _ E (by rw [em]; exact ⟨hz, hTI, hTO, ⟨h1, p⟩, ⟨h2, p2.isList⟩⟩) fun h' tk hk htk => ?_
    exact I.turnedL (t' := tk) (ch := [z, TI, TO, i1, i2]) (fun c o hb q => hk c o (fun z' => hb (by
        have e' : c = z ∨ c = TO ∨ c = i1 ∨ c = i2 := by simpa using z'
        rcases e' with q | q | q | q <;> simp [q])) q) hf
  self := fun A i s Q E st h => wpAny_pyIter_zip st.1 h
def iZipX (K : PySem.W.Frag) (ta : TA) : TI := fun σ H R => ta σ H fun vs H1 => ∃ a b xs ys, vs = [.ref a, .ref b] ∧ SqT K H1 a xs ∧ SqL K H1 b ys ∧ R (ItzX K a b) H1
theorem pi_zipX {X : Cx} {e e2 : Expr} {ta : TA} {p pos tpos : Pos} {elts : List Expr} {kk : Nat} (hg : Gl X "zip") (hm : X.mg "zip" = none) (ha : PA X [e, e2] ta)
    (hs : starEach [e, e2] X.env = (false, eval e X.env) :: starEach [e2] X.env := by rfl) (hpl : (backTo pos (starEach [e2] X.env)).any (·.1) = false := by rfl) :
    PI X (.Tuple elts kk tpos) (.Call (.Name "zip" p) [e, e2] [] pos) (iZipX X.K ta) := by
  refine ⟨fun pins s σ H R I h => ?_⟩
  refine Call_ (ld_blt I hg hm PyProof.Rows.boot_zip (PyProof.Rows.callWith_type1 (thn (ha.run pos pins s σ H _ I h) fun us s1 ⟨vs, H1, I1, r1, q1⟩ => ?_) hs hpl))
  obtain ⟨a, b, xs, ys, ex, hqx, hqy, q⟩ := q1
  subst ex
  cases r1 with
  | cons r rr =>
    cases rr with
    | cons r' rr =>
      cases rr
      cases r
      cases r'
      obtain ⟨its, rv, p1, _⟩ := I1.tuple hqx
      obtain ⟨its2, rv2, p2, _⟩ := I1.list hqy
      have fresh5 : ∀ c, c ∈ [s1.heap.objs.size + 4, s1.heap.objs.size + 2, s1.heap.objs.size + 3, s1.heap.objs.size, s1.heap.objs.size + 1] → FpOk X pins H1 c := fun c hcm => by
        have e' : c = s1.heap.objs.size + 4 ∨ c = s1.heap.objs.size + 2 ∨ c = s1.heap.objs.size + 3 ∨ c = s1.heap.objs.size ∨ c = s1.heap.objs.size + 1 := by simpa using hcm
        have hle : s1.heap.objs.size ≤ c := by
          rcases e' with z | z | z | z | z
          · rw [z]; exact Nat.le_add_right _ _
          · rw [z]; exact Nat.le_add_right _ _
          · rw [z]; exact Nat.le_add_right _ _
          · rw [z]; exact Nat.le_refl _
          · rw [z]; exact Nat.le_add_right _ _
        exact I1.fpOk hle (I1.hok.fresh hle)
      obtain ⟨o1, ho1, _⟩ := id p1
      have la : a < s1.heap.objs.size := Heap.lt_size ho1
      have lb : b < s1.heap.objs.size := p2.lt
      refine zip_begins2 (begins_tuple a its.toArray) (begins_list b its2.toArray) p1 p2.isList fun h' hz hTI hTO h1 h2 hsz hk => wpAny_pyIter_zip hz ?_
      have I2 : Inv X pins σ H1 { s1 with heap := h' } := I1.kept (t' := s1.toks) hk
      refine ⟨s1.heap.objs.size + 4, [s1.heap.objs.size + 4, s1.heap.objs.size + 2, s1.heap.objs.size + 3, s1.heap.objs.size, s1.heap.objs.size + 1], _, _, H1, rfl, I2,
        turn_zipX (zip_sep2 (fp1 := [a]) (fp2 := [b]) (fun c hc => ?_) (fun c hc => ?_)) (Nat.ne_of_lt la) (Nat.ne_of_lt (Nat.lt_succ_of_lt lb)), ⟨hz, hTI, ⟨_, _, hTO⟩, ⟨_, h1, rfl, rfl⟩, ⟨_, h2, rfl, rfl⟩⟩, fresh5, q⟩
      · have e : c = a := by simpa using hc
        rw [e]
        exact la
      · have e : c = b := by simpa using hc
        rw [e]
        exact lb
/-- a loop over zip of a tuple and a list of one length -/
theorem for_zipX {K : PySem.W.Frag} {a b : Addr} {xs ys : List V} {g : TG} {tb : TS} {D : Ends} {σ : L2.St} {H : Hp} (hl : xs.length = ys.length) (Pv : Nat → L2.St → Hp → Prop) (h0 : Pv 0 σ H) (hq : ∀ i σ H, Pv i σ H → SqT K H a xs ∧ SqL K H b ys)
    (hs : ∀ (i : Nat) (x y : V) (T : Addr) (σ : L2.St) (H : Hp), xs[i]? = some x → ys[i]? = some y → Pv i σ H → H T = none → g (.ref T) σ (upd H T (.tup [x, y])) fun σ2 H2 => tb { D with nx := Pv (i + 1), ct := Pv (i + 1), bk := D.nx } σ2 H2) (hd : ∀ σ H, Pv xs.length σ H → D.nx σ H) :
    ∃ W : Nat → Nat → L2.St → Hp → Prop, (∃ m, W 0 m σ H) ∧ ∀ i m σ H, W i m σ H →
      ((ItzX K a b).stop i H ∧ D.nx σ H) ∨ ((ItzX K a b).go i H ∧ ∃ N : L2.St → Hp → Prop, (∀ σ' H', N σ' H' → ∃ m', m' < m ∧ W (i + 1) m' σ' H') ∧ ∀ v H', (ItzX K a b).yld i H v H' → g v σ H' fun σ2 H2 => tb { D with nx := N, ct := N, bk := D.nx } σ2 H2) := by
  refine ⟨fun i m σ H => m = xs.length - i ∧ i ≤ xs.length ∧ Pv i σ H, ⟨xs.length, rfl, Nat.zero_le _, h0⟩, ?_⟩
  rintro i m σ H ⟨rfl, hi, p⟩
  obtain ⟨qx, qy⟩ := hq i σ H p
  by_cases hlt : i < xs.length
  · have hx : xs[i]? = some xs[i] := List.getElem?_eq_getElem hlt
    have hlt2 : i < ys.length := by omega
    have hy : ys[i]? = some ys[i] := List.getElem?_eq_getElem hlt2
    refine .inr ⟨⟨xs, ys, _, _, qx, qy, hx, hy⟩, Pv (i + 1), fun σ' H' p' => ⟨xs.length - (i + 1), by omega, rfl, hlt, p'⟩, fun v H' y => ?_⟩
    obtain ⟨T, x', y', rfl, hT, rfl, f1, f2⟩ := y
    exact hs i x' y' T σ H (f1 xs qx) (f2 ys qy) p hT
  · have e : i = xs.length := by omega
    subst e
    exact .inl ⟨⟨xs, ys, qx, qy, rfl, hl.symm⟩, hd σ H p⟩
/-! ### reversed(range(..)), kept in a name, then walked -/
def RgO (it : Addr) (a c : Int) (n : Nat) : HO := .ext fun h => IsRangeIter h it a n c
theorem rgO_ok {P : Program} {w : World} {H : Hp} {h : Heap} {it : Addr} {a c : Int} {n : Nat} (e : IsRangeIter h it a n c) : ObjOk P w H h it (RgO it a c n) := ⟨e, ⟨_, e⟩, fun _ _ st k => k _ st⟩
def tRevV (n0 : Nat) (tr : L2.St → Hp → (Int → Int → Hp → Prop) → Prop) : TE := fun σ H Q => tr σ H fun a b H1 => -(2 ^ 62) ≤ a ∧ a < 2 ^ 62 ∧ -(2 ^ 62) ≤ b ∧ b < 2 ^ 62 ∧ ∀ it, H1 it = none → n0 ≤ it → Q (.ref it) (upd H1 it (RgO it (a + (((b - a).toNat : Nat) : Int) - 1) (-1) (b - a).toNat))
theorem pe_revV {X : Cx} {e : Expr} {tr : L2.St → Hp → (Int → Int → Hp → Prop) → Prop} {p pos : Pos} (hg : Gl X "reversed") (hm : X.mg "reversed" = none) (he : PRg X e tr) (hs : starEach [e] X.env = (false, eval e X.env) :: starEach [] X.env := by rfl) :
    PE X (.Call (.Name "reversed" p) [e] [] pos) (tRevV X.s_0.heap.objs.size tr) := by
  refine ⟨fun pins s σ H Q I h => ?_⟩
  refine Call_ (ld_blt I hg hm PyProof.Rows.boot_reversed (PyProof.Rows.callWith_type1 (args_cons (thn (he pins s σ H _ I h) fun u s1 hx => args_nil ?_) hs) hs rfl))
  obtain ⟨r, a, b, t, w1, v, H1, eu, hr, I1, b1, b2, b3, b4, q⟩ := hx
  subst eu
  have hn : Builtin.Range.rangeSize a b 1 = (((b - a).toNat : Nat) : Int) := rangeSize_nat a b
  refine call_reversed_range hr (smallRev_one b1 b2 b3 b4) ?_
  refine ⟨.ref s1.heap.objs.size, _, I1.laid (t' := s1.toks) (fun b u e => Heap.get?_push_of_some _ e) (Nat.le_refl _) (rgO_ok (a := a + (((b - a).toNat : Nat) : Int) - 1) (c := -1) (n := (b - a).toNat) ?_), rfl, q _ (I1.hok.fresh (Nat.le_refl _)) I1.sz⟩
  have e1 : a + (((b - a).toNat : Nat) : Int) - 1 = a + (Builtin.Range.rangeSize a b 1 - 1) * 1 := by rw [hn]; omega
  have e2 : (((b - a).toNat : Nat) : Int) = Builtin.Range.rangeSize a b 1 := hn.symm
  rw [e1, e2]
  exact Heap.get?_push_size _ rfl
def iRgV (n0 k : Nat) : TI := fun σ H R => ∃ (it : Addr) (a c : Int) (n : Nat), σ[k]? = some (some (.ref it)) ∧ H it = some (RgO it a c n) ∧ n0 ≤ it ∧ R (Itc a c n) (ItX.dropH H it)
theorem pi_rgV {X : Cx} {tg : Expr} {k : Nat} {x : Str} {p : Pos} (hN : X.N[k]? = some x) (hv : Vis X.env.scope x) (hd : (x == ("__debug__" : Str)) = false := by decide) (hcd : (x == ("__classdict__" : Str)) = false := by decide) : PI X tg (.Name x p) (iRgV X.s_0.heap.objs.size k) := by
  refine ⟨fun pins s σ H R I h => ?_⟩
  obtain ⟨it, a, c, n, hs, hi, hn, q⟩ := h
  refine thn ((pe_var (pos := p) (i := k) hN hv hd hcd).run pins s σ H (fun v H1 => v = .ref it ∧ H1 = H) I ⟨.ref it, hs, rfl, rfl⟩) fun u s1 ⟨v, H1, I1, r1, ev, eH⟩ => ?_
  subst ev
  rw [eH] at I1
  cases r1
  have eo : IsRangeIter s1.heap it a n c := (show ObjOk X.prog X.w H s1.heap it (RgO it a c n) from I1.hok it _ hi).1
  have st : IsRangeIter s1.heap it (a + ((0 : Nat) : Int) * c) ((n : Int) - ((0 : Nat) : Int)) c := by
    have e1 : a + ((0 : Nat) : Int) * c = a := by simp
    have e2 : (n : Int) - ((0 : Nat) : Int) = n := by simp
    rw [e1, e2]
    exact eo
  refine (turn_rangeC (P := X.prog) (w := X.w) (K := X.K) (tg := tg) it a c n).self X.A 0 s1 _ _ st ?_
  have hi' := hi
  unfold RgO at hi'
  refine ⟨it, [it], _, _, ItX.dropH H it, rfl, ItX.inv_drop I1 hi', turn_rangeC it a c n, st, fun b hb => ?_, q⟩
  have e : b = it := by simpa using hb
  rw [e]
  exact ItX.inv_fp I1 hi hn
end FF
/-! The plan as it stands; its small methods. -/
namespace FF
open PySem PySem.Spec PyProof.Rows L2
/-- a dict from the ways to their writers -/
def LeavesAt (H : Hp) (a : Addr) (sp : Prs) : Prop := ∃ kvs : List (Key × V), H a = some (.dK kvs) ∧ ∀ p ∈ sp, valV kvs (.inr (wS p.2)) = some (.str p.1)
theorem LeavesAt.same {H H' : Hp} {a : Addr} {sp : Prs} (h : LeavesAt H a sp) (s : Same H H') : LeavesAt H' a sp := let ⟨kvs, h1, h2⟩ := h; ⟨kvs, s _ _ h1, h2⟩
def plF (n c z t wy fg lv wr : V) : List (Str × V) := [("names", n), ("cells", c), ("sizes", z), ("tree", t), ("ways", wy), ("_flags", fg), ("_leaves", lv), ("_written", wr)]
structure PlAt (K : PySem.W.Frag) (H : Hp) (pl dx na ca za wa fa la : Addr) (vt vw : V) (s : Sh) (sp : Prs) : Prop where
  ins : H pl = some (.ins (aF K) dx (plF (.ref na) (.ref ca) (.ref za) vt (.ref wa) (.ref fa) (.ref la) vw))
  nms : SqL K H na ((sp.map (·.1)).map V.str)
  cls : Dp K H (.ref ca) (.list ((cl sp).map clD))
  szs : SqL K H za (List.replicate (cl sp).length (.int 2))
  wys : WaysAt H wa sp
  flg : FlagsAt H fa (fl sp)
  lvs : LeavesAt H la sp
  ok : Ok s sp
theorem PlAt.same {K : PySem.W.Frag} {H H' : Hp} {pl dx na ca za wa fa la : Addr} {vt vw : V} {s : Sh} {sp : Prs} (h : PlAt K H pl dx na ca za wa fa la vt vw s sp) (k : Same H H') : PlAt K H' pl dx na ca za wa fa la vt vw s sp :=
  ⟨k _ _ h.ins, k.seq h.nms, h.cls.same k, k.seq h.szs, h.wys.same k, h.flg.same k, h.lvs.same k, h.ok⟩
def PlanAt (K : PySem.W.Frag) (H : Hp) (pl : Addr) (s : Sh) (sp : Prs) : Prop := ∃ (dx na ca za wa fa la : Addr) (vt vw : V), PlAt K H pl dx na ca za wa fa la vt vw s sp
theorem PlanAt.same {K : PySem.W.Frag} {H H' : Hp} {pl : Addr} {s : Sh} {sp : Prs} (h : PlanAt K H pl s sp) (k : Same H H') : PlanAt K H' pl s sp := by
  obtain ⟨dx, na, ca, za, wa, fa, la, vt, vw, p⟩ := h
  exact ⟨dx, na, ca, za, wa, fa, la, vt, vw, p.same k⟩
/-- the state of the flags: a tuple of marks -/
def StAt (K : PySem.W.Frag) (H : Hp) (st : Addr) (ms : List Int) : Prop := SqT K H st (ms.map V.int)
theorem StAt.same {K : PySem.W.Frag} {H H' : Hp} {st : Addr} {ms : List Int} (h : StAt K H st ms) (k : Same H H') : StAt K H' st ms := Same.seqT k h
def spCW (K : PySem.W.Frag) : Sp := fun vs H Q _ => ∃ (pl : Addr) (s : Sh) (sp : Prs) (who : Str), vs = [.ref pl, .str who] ∧ PlanAt K H pl s sp ∧ who ∈ sp.map (·.1) ∧ Q .non H
def spCS (K : PySem.W.Frag) : Sp := fun vs H Q _ => ∃ (pl st : Addr) (s : Sh) (sp : Prs) (ms : List Int), vs = [.ref pl, .ref st] ∧ PlanAt K H pl s sp ∧ StAt K H st ms ∧ M01 ms (fl sp).length ∧ ∀ H' : Hp, Same H H' → Q .non H'
def spStartP (K : PySem.W.Frag) : Sp := fun vs H Q _ => ∃ (pl : Addr) (s : Sh) (sp : Prs), vs = [.ref pl] ∧ PlanAt K H pl s sp ∧ ∀ (st : Addr) (H' : Hp), Same H H' → StAt K H' st (List.replicate (fl sp).length 0) → Q (.ref st) H'
def spCO (K : PySem.W.Frag) : Sp := fun vs H Q _ => ∃ (pl : Addr) (s : Sh) (sp : Prs) (who : Str), vs = [.ref pl, .str who] ∧ PlanAt K H pl s sp ∧ who ∈ sp.map (·.1) ∧ ∀ (a : Addr) (H' : Hp), Same H H' → H' a = some (.lst (nV (own sp who))) → Q (.ref a) H'
def spPar (K : PySem.W.Frag) : Sp := fun vs H Q _ => ∃ (pl st : Addr) (s : Sh) (sp : Prs) (ms : List Int) (f : List Bool), vs = [.ref pl, .ref st, .str (wS f)] ∧ PlanAt K H pl s sp ∧ StAt K H st ms ∧ M01 ms (fl sp).length ∧ forkOf (fl sp) f ∧
  ∀ H' : Hp, Same H H' → Q (.int (bsum (fl sp) ms f % 2)) H'
section
variable {P : Program} {w : World} {K : PySem.W.Frag} {mg : Str → Option Value} {base : Heap}
theorem c_cw (T : Fx K mg) : C8.Met P w K mg base 1 (aF K) "check_writer" (spCW K) [] := by
  refine metN T.cF T.mF_check_writer T.d_p_check_writer sc_p_check_writer (fun vs H Q E h => ?_) (fun _ _ _ _ _ _ us hl => match us, hl with | [_, _], _ => rfl) (fun cdv A outer s H vs Q E hr h => ?_)
  · obtain ⟨_, _, _, _, rfl, _⟩ := h
    rfl
  · obtain ⟨pl, sh, sp, who, rfl, ⟨dx, na, ca, za, wa, fa, la, vt, vw, p⟩, hw, k⟩ := h
    refine ⟨_, pss_one (ps_if (pt_cmpR op_notIn_seq (pv 1) (pe_fld (pv 0) rfl) (by rfl)) (pss_one ps_never) pss_nil), ?_⟩
    refine ⟨_, rfl, _, rfl, pl, _, dx, _, _, rfl, p.ins, T.cF, T.nF_names, rfl, ?_⟩
    refine ⟨na, _, rfl, .inl p.nms, rfl, flat_strs _, _, rfl, ?_⟩
    rw [inV_strs, decide_eq_true hw]
    exact iteF k
theorem c_cs (T : Fx K mg) : C8.Met P w K mg base 2 (aF K) "check_state" (spCS K) [] := by
  have cB : C8.Cal P w K mg base 1 "is_below" spBelow [] := c_below T
  refine metN T.cF T.mF_check_state T.d_p_check_state sc_p_check_state (fun vs H Q E h => ?_) (fun _ _ _ _ _ _ us hl => match us, hl with | [_, _], _ => rfl) (fun cdv A outer s H vs Q E hr h => ?_)
  · obtain ⟨_, _, _, _, _, rfl, _⟩ := h
    rfl
  · obtain ⟨pl, st, sh, sp, ms, rfl, ⟨dx, na, ca, za, wa, fa, la, vt, vw, p⟩, hS, h01, k⟩ := h
    have nd := sc_p_check_state.nd
    have hfew := p.ok.fl_few
    have hlm : ms.length = (cl sp).length := by rw [h01.1, fl_len]
    refine ⟨_, pss_cons (ps_if (PW.pt (pw_or (pt_not (pt_val (pe_callB (isiR (K := K) rfl) (by rfl) T.z_isinstance (by decide +kernel) (pa_cons (pv 1) (pa_cons (pe_bltn (v := .ty "tuple") (by rfl) T.z_tuple (by decide +kernel) rfl) pa_nil)))))
          (pw_or1 (pt_cmpR op_ne (pe_callB call_len_seq (by rfl) T.z_len PySem.boot_len (pa_cons (pv 1) pa_nil)) (pe_callB call_len_seq (by rfl) T.z_len PySem.boot_len (pa_cons (pe_fld (pv 0) rfl) pa_nil)) (nomark _))))) (pss_one ps_never) pss_nil)
      (pss_one (ps_for PassesOwn.never rfl (pi_zipX (by rfl) T.z_zip (pa_cons (pv 1) (pa_cons (pe_fld (pv 0) rfl) pa_nil))) (pg_tup (by rfl) (pgs_cons (pg_name (i := 2) nd rfl (Or.inl rfl)) (pgs_cons (pg_name (i := 3) nd rfl (Or.inl rfl)) pgs_nil)))
        (pss_one (ps_if (pt_not (pt_val (C8.pe_c cB hr (Nat.le_refl _) (by rfl) (pa_cons (pv 2) (pa_cons (pv 3) pa_nil))))) (pss_one ps_never) pss_nil)))), ?_⟩
    refine ⟨_, rfl, _, _, "tuple", true, rfl, tyT hS, by decide +kernel, _, rfl, ?_⟩
    refine iteF ?_
    refine ⟨_, rfl, st, _, rfl, .inr hS, _, rfl, pl, _, dx, _, _, rfl, p.ins, T.cF, T.nF_sizes, rfl, za, _, rfl, .inl p.szs, rfl, _, rfl, ?_⟩
    have e : decide (V.int ((ms.map V.int).length : Nat) = V.int ((List.replicate (cl sp).length (V.int 2)).length : Nat)) = true := decide_eq_true (by rw [List.length_map, List.length_replicate, hlm])
    rw [e]
    refine iteF ?_
    refine ⟨_, rfl, _, rfl, pl, _, dx, _, _, rfl, p.ins, T.cF, T.nF_sizes, rfl, st, za, _, _, rfl, hS, p.szs, for_zipX (K := K) (xs := ms.map V.int) (ys := List.replicate (cl sp).length (V.int 2)) (by rw [List.length_map, List.length_replicate, hlm])
      (fun i σ H' => ∃ y2 y3 : Option V, σ = [some (.ref pl), some (.ref st), y2, y3] ∧ Same H H') ⟨none, none, rfl, Same.refl _⟩ (fun i σ H' ⟨_, _, _, s'⟩ => ⟨Same.seqT s' hS, s'.seq p.szs⟩) ?_ ?_⟩
    · rintro i x y t σ H1 hx hy ⟨y2, y3, rfl, s1⟩ ht
      rw [List.getElem?_map] at hx
      cases hm : ms[i]? with
      | none =>
        rw [hm] at hx
        cases hx
      | some m =>
        rw [hm] at hx
        have ex : V.int m = x := Option.some.inj hx
        subst ex
        have ey : y = V.int 2 := by
          have := List.mem_of_getElem? hy
          exact List.eq_of_mem_replicate this
        subst ey
        have m01 := h01.2 m (List.mem_of_getElem? hm)
        have s2 : Same H1 (upd H1 t (.tup [.int m, .int 2])) := same_new ht
        refine ⟨t, _, rfl, SqT.of upd_same, rfl, _, _, rfl, _, _, rfl, rfl, ?_⟩
        refine ⟨_, rfl, _, rfl, m, 2, rfl, by omega, by omega, _, rfl, ?_⟩
        exact iteF ⟨_, _, rfl, s1.trans s2⟩
    · rintro σ H1 ⟨y2, y3, rfl, s1⟩
      exact k H1 s1
theorem c_startP (T : Fx K mg) : C8.Met P w K mg base 1 (aF K) "start" (spStartP K) [] := by
  refine metN T.cF T.mF_start T.d_p_start sc_p_start (fun vs H Q E h => ?_) (fun _ _ _ _ _ _ us hl => match us, hl with | [_], _ => rfl) (fun cdv A outer s H vs Q E hr h => ?_)
  · obtain ⟨_, _, _, rfl, _⟩ := h
    rfl
  · obtain ⟨pl, sh, sp, rfl, ⟨dx, na, ca, za, wa, fa, la, vt, vw, p⟩, k⟩ := h
    have hfew := p.ok.fl_few
    rw [fl_len] at hfew
    refine ⟨_, pss_one (ps_ret (pe_callTy tupleN (by rfl) T.z_tuple (by decide +kernel) (pa_cons (pe_op repN (lstN (pa_cons pe_int pa_nil)) (pe_callB call_len_seq (by rfl) T.z_len PySem.boot_len (pa_cons (pe_fld (pv 0) rfl) pa_nil))) pa_nil))), ?_⟩
    refine ⟨(by show 1 ≤ sizeLine; decide), fun l H1 n1 s1 e1 => ?_⟩
    refine ⟨_, rfl, pl, _, dx, _, _, rfl, s1 _ _ p.ins, T.cF, T.nF_sizes, rfl, za, _, rfl, .inl (s1.seq p.szs), ?_⟩
    refine ⟨l, _, _, rfl, rfl, e1, by omega, by rw [List.length_replicate]; omega, fun l2 H2 n2 s2 e2 => ?_⟩
    refine ⟨l2, _, rfl, SqL.of e2, fun q H3 n3 s3 e3 => ?_⟩
    refine k q H3 ((s1.trans s2).trans s3) (SqT.of ?_)
    rw [e3, List.length_replicate, Int.toNat_natCast, List.map_replicate, fl_len]
theorem c_co (T : Fx K mg) : C8.Met P w K mg base 2 (aF K) "cells_of" (spCO K) [] := by
  have cW : C8.Met P w K mg base 1 (aF K) "check_writer" (spCW K) [] := c_cw T
  refine metN T.cF T.mF_cells_of T.d_p_cells_of sc_p_cells_of (fun vs H Q E h => ?_) (fun _ _ _ _ _ _ us hl => match us, hl with | [_, _], _ => rfl) (fun cdv A outer s H vs Q E hr h => ?_)
  · obtain ⟨_, _, _, _, rfl, _⟩ := h
    rfl
  · obtain ⟨pl, sh, sp, who, rfl, hP, hw, k⟩ := h
    obtain ⟨dx, na, ca, za, wa, fa, la, vt, vw, p⟩ := id hP
    have nd := sc_p_cells_of.nd
    have hfew := p.ok.fl_few
    rw [fl_len] at hfew
    obtain ⟨ca', xs, e, hS, hA⟩ := p.cls.list_inv
    cases e
    have hxl : xs.length = (cl sp).length := by rw [hA.length, List.length_map]
    refine ⟨_, pss_cons (ps_expr (C8.pe_mt cW hr (by decide) (pv 0) (pa_cons (pv 1) pa_nil)))
      (pss_one (ps_ret (pe_lc (own := [("index", 2), ("cell", 3)]) (g := gTup K 2 (gCons (gName 2) (gCons (gName 3) gNil))) rfl nd (pi_enum (by rfl) T.z_enumerate (pa_cons (pe_fld (pv 0) rfl) pa_nil))
        (blkOk_by (own := [("index", 2), ("cell", 3)]) (N := ["self", "writer", "index", "cell"]) (sc := defScope s_p_cells_of) (by decide +kernel)) (fun _ _ _ _ _ => pg_tup (by rfl) (pgs_cons (pg_name (i := 2) nd rfl (Or.inl rfl)) (pgs_cons (pg_name (i := 3) nd rfl (Or.inl rfl)) pgs_nil)))
        (fun _ _ _ _ _ => pts_one (pt_cmpR op_eq (ixtK (K := K) rfl (pv 3) pe_int) (pv 1) (nomark _))) (fun _ _ _ _ _ => pv 2)))), ?_⟩
    refine ⟨_, rfl, pl, dx, _, rfl, p.ins, rfl, _, rfl, pl, sh, sp, who, rfl, hP, hw, ?_⟩
    refine ⟨_, rfl, pl, _, dx, _, _, rfl, p.ins, T.cF, T.nF_cells, rfl, ca, _, rfl, hS, fun D hDn => ?_⟩
    refine lc_it walk_enum (fun i H' => H' D = some (.lst (nV ((((cl sp).zipIdx.take i).filter fun q => decide (q.1.1 = who)).map (·.2)))) ∧ Same H H') ⟨upd_same, same_new hDn⟩ (fun i H' _ h => h.2.seq hS) ?_ ?_
    · rintro i x H1 H2 hi ⟨e1, s1⟩ ⟨t, x1, x2, rfl, nt, rfl, hx1, hx2⟩
      cases hx1
      obtain ⟨d, hd1, hd2⟩ := hA.get' hx2
      rw [List.getElem?_map] at hd1
      cases hp : (cl sp)[i]? with
      | none =>
        rw [hp] at hd1
        cases hd1
      | some c =>
        rw [hp] at hd1
        have ed : clD c = d := Option.some.inj hd1
        subst ed
        obtain ⟨n, l⟩ := c
        obtain ⟨t2, u1, u2, rfl, ht2, Du1, Du2⟩ := Dp.pair_inv (show Dp K H _ (.tuple [.str n, .int (l : Nat)]) from hd2)
        obtain rfl := Du1.str_inv
        obtain rfl := Du2.int_inv
        have sU : Same H1 (upd H1 t (.tup [.int (i : Nat), .ref t2])) := same_new nt
        generalize hHU : upd H1 t (.tup [.int (i : Nat), .ref t2]) = HU at sU
        have eU : HU t = some (.tup [.int (i : Nat), .ref t2]) := by rw [← hHU]; exact upd_same
        have sHU := s1.trans sU
        have tk : (cl sp).zipIdx.take (i + 1) = (cl sp).zipIdx.take i ++ [((n, l), i)] := take_snoc (by rw [List.getElem?_zipIdx, hp]; simp)
        refine ⟨t, _, rfl, SqT.of eU, rfl, _, _, rfl, _, _, rfl, rfl, rfl, ?_⟩
        refine ⟨_, rfl, t2, _, _, _, rfl, rfl, Same.seqT sHU ht2, atI_nat (j := 0) rfl, _, rfl, rfl, _, rfl, ?_⟩
        refine ite2 (fun q => ?_) (fun q => ?_)
        · have q1 := of_decide_eq_true q
          have q2 : n = who := by injection q1
          refine ⟨_, rfl, _, sU _ _ e1, ?_, ?_, fun b o e => ?_⟩
          · rw [nV_len, List.length_map, sizeLine_eq]
            refine Nat.lt_of_le_of_lt (List.length_filter_le _ _) ?_
            rw [List.length_take, List.length_zipIdx]
            omega
          · rw [upd_same, tk, List.filter_append, List.map_append]
            simp [q2, nV]
          · rw [upd_ne (ne_of_none e hDn)]
            exact sHU _ _ e
        · have q2 : n ≠ who := fun z => q (decide_eq_true (by rw [z]))
          refine ⟨?_, sHU⟩
          rw [sU _ _ e1, tk, List.filter_append]
          simp [q2]
    · rintro H1 ⟨e1, s1⟩
      rw [List.take_of_length_le (by rw [List.length_zipIdx]; omega)] at e1
      exact k D H1 s1 e1
theorem c_par (T : Fx K mg) : C8.Met P w K mg base 1 (aF K) "_parity" (spPar K) [] := by
  refine metN T.cF T.mF_parity T.d_f_parity sc_f_parity (fun vs H Q E h => ?_) (fun _ _ _ _ _ _ us hl => match us, hl with | [_, _, _], _ => rfl) (fun cdv A outer s H vs Q E hr h => ?_)
  · obtain ⟨_, _, _, _, _, _, rfl, _⟩ := h
    rfl
  · obtain ⟨pl, st, sh, sp, ms, f, rfl, ⟨dx, na, ca, za, wa, fa, la, vt, vw, p⟩, hM, h01, hf, k⟩ := h
    have nd := sc_f_parity.nd
    have hL := p.ok.fl_few
    refine ⟨_, pss_one (ps_ret (pe_op op_mod (pe_callB (cr_sum rfl) (by rfl) T.z_sum (by decide +kernel) (pa_cons (pe_lc (own := [("index", 3)]) (g := gName 3) (tt := tYes) rfl nd (pi_list (pe_dget (hu_of hr) (pe_fld (pv 0) rfl) (pv 2) (fun _ _ => rfl)))
        (blkOk_by (own := [("index", 3)]) (N := ["self", "state", "fork", "index"]) (sc := defScope s_f_parity) (by decide +kernel)) (fun _ _ _ _ _ => pg_name (i := 3) nd rfl (Or.inl rfl)) (fun _ _ _ _ _ => pts_nil)
        (fun _ _ _ _ _ => ixtK (K := K) rfl (pv 1) (pv 3))) pa_nil)) pe_int)), ?_⟩
    obtain ⟨H0, kvs, h1, h2, _, _⟩ := p.flg
    obtain ⟨ra, a1, a2, _⟩ := h2 f hf
    refine ⟨_, rfl, pl, _, dx, _, _, rfl, p.ins, T.cF, T.nF_flags, rfl, _, rfl, fa, _, rfl, dget_s h1 a1, ra, rfl, ⟨_, SqL.of a2⟩, fun D hD => ?_⟩
    refine lc_list (K := K) (a := ra) (xs := nV (ixs (fl sp) f)) (fun i H' => H' D = some (.lst ((((ixs (fl sp) f).take i).map fun j => ms.getD j 0).map V.int)) ∧ Same H H') ⟨upd_same, same_new hD⟩ (fun i H' _ h => h.2.seq (SqL.of a2)) ?_ ?_
    · rintro i x H' hx ⟨c1, c2⟩
      obtain ⟨j, hj, rfl⟩ := nV_get hx
      obtain ⟨m, m1, m2, _⟩ := h01.get (ixs_lt (List.mem_of_getElem? hj))
      refine ⟨rfl, tyes ?_⟩
      refine ⟨_, rfl, _, rfl, st, _, _, .int m, rfl, rfl, Same.seqT c2 hM, atI_nat (by rw [List.getElem?_map, m1]; rfl), _, c1, ?_, ?_, fun b o e => ?_⟩
      · rw [List.length_map, List.length_map, List.length_take, sizeLine_eq]
        have := ixs_len (fl sp) f
        omega
      · rw [upd_same, take_snoc hj, List.map_append, List.map_append]
        show some (HO.lst (_ ++ [V.int m])) = some (HO.lst (_ ++ [V.int (ms.getD j 0)]))
        rw [m2]
      · rw [upd_ne (ne_of_none e hD)]
        exact c2 _ _ e
    · rintro H' ⟨c1, c2⟩
      rw [nV_len, List.take_length] at c1
      refine ⟨D, _, rfl, SqL.of c1, ?_⟩
      exact ⟨_, _, rfl, rfl, (by show (0 : Int) < 2; decide), k H' c2⟩
end
end FF
/-! The plan's methods over the flags. -/
namespace FF
open PySem PySem.Spec PyProof.Rows L2
def spTold (K : PySem.W.Frag) : Sp := fun vs H Q _ => ∃ (pl st : Addr) (s : Sh) (sp : Prs) (ms : List Int), vs = [.ref pl, .ref st] ∧ PlanAt K H pl s sp ∧ StAt K H st ms ∧ M01 ms (fl sp).length ∧ ∀ (n : Str) (H' : Hp), Same H H' → (n, told s sp ms) ∈ sp → Q (.str n) H'
def spLeaf (K : PySem.W.Frag) : Sp := fun vs H Q _ => ∃ (pl st : Addr) (s : Sh) (sp : Prs) (ms : List Int), vs = [.ref pl, .ref st, .str (wS [])] ∧ PlanAt K H pl s sp ∧ StAt K H st ms ∧ M01 ms (fl sp).length ∧ ∀ (n : Str) (H' : Hp), Same H H' → (n, told s sp ms) ∈ sp → Q (.str n) H'
def spWF (K : PySem.W.Frag) : Sp := fun vs H Q _ => ∃ (pl st : Addr) (s : Sh) (sp : Prs) (ms : List Int) (who : Str) (w : List Bool), vs = [.ref pl, .ref st, .str who] ∧ PlanAt K H pl s sp ∧ StAt K H st ms ∧ M01 ms (fl sp).length ∧ (who, w) ∈ sp ∧
  ∀ (a : Addr) (H' : Hp), Same H H' → H' a = some (.lst (wSs ((wrong (fl sp) ms w).map (w.take ·)))) → Q (.ref a) H'
/-- a turn as data -/
def tnD (q : Nat × Int) : PyData := .tuple [.int (q.1 : Nat), .int q.2]
theorem noL_tn (q : Nat × Int) : noL (tnD q) = true := by simp [tnD, noL, noLs]
def spTurns (K : PySem.W.Frag) : Sp := fun vs H Q _ => ∃ (pl st : Addr) (s : Sh) (sp : Prs) (ms : List Int) (who : Str) (w : List Bool), vs = [.ref pl, .ref st, .str who] ∧ PlanAt K H pl s sp ∧ StAt K H st ms ∧ M01 ms (fl sp).length ∧ (who, w) ∈ sp ∧
  ∀ (a : Addr) (H' : Hp), Same H H' → Dp K H' (.ref a) (.list (((tix sp ms who w).map fun j => (j, 1 - ms.getD j 0)).map tnD)) → Q (.ref a) H'
section
variable {P : Program} {w : World} {K : PySem.W.Frag} {mg : Str → Option Value} {base : Heap}
theorem c_leaf (T : Fx K mg) : C8.Met P w K mg base 2 (aF K) "_leaf_from" (spLeaf K) [] := by
  have cP : C8.Met P w K mg base 1 (aF K) "_parity" (spPar K) [] := c_par T
  refine metN T.cF T.mF_leaf_from T.d_f_leaf_from sc_f_leaf_from (fun vs H Q E h => ?_) (fun _ _ _ _ _ _ us hl => match us, hl with | [_, _, _], _ => rfl) (fun cdv A outer s H vs Q E hr h => ?_)
  · obtain ⟨_, _, _, _, _, rfl, _⟩ := h
    rfl
  · obtain ⟨pl, st, sh, sp, ms, rfl, hP, hM, h01, k⟩ := h
    obtain ⟨dx, na, ca, za, wa, fa, la, vt, vw, p⟩ := id hP
    have nd := sc_f_leaf_from.nd
    have hO := p.ok
    refine ⟨_, pss_cons (ps_set (i := 3) nd rfl (Or.inl rfl) (pv 2))
      (pss_cons (ps_while PassesOwn.never (pt_cmp (pc_din (hu_of hr) (pv 3) (pe_fld (pv 0) rfl)))
        (pss_one (ps_set (i := 3) nd rfl (Or.inl rfl) (pe_op op_add_str (pv 3) (pe_callTy call_str_int (by rfl) T.z_str (by decide +kernel) (pa_cons (C8.pe_mt cP hr (by decide) (pv 0) (pa_cons (pv 1) (pa_cons (pv 3) pa_nil))) pa_nil))))))
      (pss_one (ps_ret (pe_dget (hu_of hr) (pe_fld (pv 0) rfl) (pv 3) (fun _ _ => rfl))))), ?_⟩
    refine ⟨_, rfl, ?_⟩
    obtain ⟨W, hW⟩ : ∃ W : Nat → L2.St → Hp → Prop, W = (fun m σ H' => ∃ (f : List Bool) (s' : Sh), σ = [some (.ref pl), some (.ref st), some (.str (wS [])), some (.str (wS f))] ∧ m = s'.height ∧ sh.at' f = some s' ∧ s'.walk (bd (fl sp) ms) f = told sh sp ms ∧ Same H H') := ⟨_, rfl⟩
    refine ⟨W, ⟨sh.height, ?_⟩, ?_⟩
    · rw [hW]
      exact ⟨[], sh, rfl, rfl, Sh.at_nil sh, rfl, Same.refl _⟩
    · intro m σ H2 w0
      rw [hW] at w0
      obtain ⟨f, s', rfl, rfl, hat, hw, s2⟩ := w0
      obtain ⟨H0, kvs, h1, h2, h3, _⟩ := p.flg.same s2
      refine ⟨_, rfl, _, rfl, pl, _, dx, _, _, rfl, s2 _ _ p.ins, T.cF, T.nF_flags, rfl, fa, valV kvs (.inr (wS f)), rfl, dget_s h1 rfl, _, rfl, ?_⟩
      cases s' with
      | lf =>
        have nf : ¬ forkOf (fl sp) f := fun z => by
          obtain ⟨l, r, q⟩ := (hO.fork_at hat).mp z
          cases q
        rw [h3 f nf]
        refine iteF ?_
        have ef : f = told sh sp ms := hw
        obtain ⟨n, hn⟩ := hO.of_way (told_mem sh sp ms)
        obtain ⟨lk, l1, l2⟩ := p.lvs.same s2
        have hv := l2 _ hn
        rw [← ef] at hv
        exact ⟨_, rfl, pl, _, dx, _, _, rfl, s2 _ _ p.ins, T.cF, T.nF_leaves, rfl, _, rfl, la, _, rfl, dget_s l1 hv, k n H2 s2 hn⟩
      | nd l r =>
        have nf : forkOf (fl sp) f := (hO.fork_at hat).mpr ⟨l, r, rfl⟩
        obtain ⟨ra, a1, _⟩ := h2 f nf
        rw [a1]
        refine iteT ⟨fun σ' H' => ∃ m', m' < (Sh.nd l r).height ∧ W m' σ' H', fun _ _ z => z, ?_⟩
        have hfl : f.length ≤ 11 := by
          obtain ⟨g, hg⟩ := Sh.leaf (.nd l r)
          have h1 : f ++ g ∈ sh.ways [] := (Sh.mem_ways _ _ _).mpr ⟨f ++ g, rfl, by rw [Sh.at_app hat]; exact hg⟩
          obtain ⟨n, hn⟩ := hO.of_way h1
          have := hO.depth hn
          rw [List.length_append] at this
          omega
        refine ⟨_, rfl, _, rfl, pl, dx, _, rfl, s2 _ _ p.ins, rfl, _, rfl, _, rfl, pl, st, sh, sp, ms, f, rfl, hP.same s2, hM.same s2, h01, nf, fun H3 s3 => ?_⟩
        refine ⟨_, rfl, log01 (bsum2 (fl sp) ms f), ?_⟩
        have e := str01 (bsum2 (fl sp) ms f)
        rw [e]
        refine ⟨_, _, rfl, rfl, by
          rw [wS_len, SX.S_len, sizeLine_eq]
          show _ + 1 ≤ _
          omega, ?_⟩
        have e2 : decide (bsum (fl sp) ms f % 2 = 1) = bd (fl sp) ms f := rfl
        rw [e2, wS_c]
        refine ⟨(if bd (fl sp) ms f then r else l).height, ?_, ?_⟩
        · show _ < max l.height r.height + 1
          cases bd (fl sp) ms f
          · show l.height < _
            omega
          · show r.height < _
            omega
        · rw [hW]
          refine ⟨f ++ [bd (fl sp) ms f], _, rfl, rfl, Sh.at_snoc _ hat, ?_, s2.trans s3⟩
          rw [← hw, Sh.walk_step]
theorem c_told (T : Fx K mg) : C8.Met P w K mg base 3 (aF K) "told" (spTold K) [] := by
  have cS : C8.Met P w K mg base 2 (aF K) "check_state" (spCS K) [] := c_cs T
  have cL : C8.Met P w K mg base 2 (aF K) "_leaf_from" (spLeaf K) [] := c_leaf T
  refine metN T.cF T.mF_told T.d_f_told sc_f_told (fun vs H Q E h => ?_) (fun _ _ _ _ _ _ us hl => match us, hl with | [_, _], _ => rfl) (fun cdv A outer s H vs Q E hr h => ?_)
  · obtain ⟨_, _, _, _, _, rfl, _⟩ := h
    rfl
  · obtain ⟨pl, st, sh, sp, ms, rfl, hP, hM, h01, k⟩ := h
    obtain ⟨dx, na, ca, za, wa, fa, la, vt, vw, p⟩ := id hP
    refine ⟨_, pss_cons (ps_expr (C8.pe_mt cS hr (by decide) (pv 0) (pa_cons (pv 1) pa_nil)))
      (pss_one (ps_ret (C8.pe_mt cL hr (by decide) (pv 0) (pa_cons (pv 1) (pa_cons pe_str pa_nil))))), ?_⟩
    refine ⟨_, rfl, pl, dx, _, rfl, p.ins, rfl, _, rfl, pl, st, sh, sp, ms, rfl, hP, hM, h01, fun H1 s1 => ?_⟩
    refine ⟨_, rfl, pl, dx, _, rfl, s1 _ _ p.ins, rfl, _, rfl, pl, st, sh, sp, ms, ?_, hP.same s1, hM.same s1, h01, fun n H2 s2 hn => k n H2 (s1.trans s2) hn⟩
    rw [wS_nil]
    rfl
theorem wrong_take (L : Prs) (ms : List Int) (w : List Bool) {i l : Nat} (h : (List.range w.length).reverse[i]? = some l) :
    ((List.range w.length).reverse.take (i + 1)).filter (fun l => decide (w[l]? ≠ some (bd L ms (w.take l)))) = ((List.range w.length).reverse.take i).filter (fun l => decide (w[l]? ≠ some (bd L ms (w.take l)))) ++ if w[l]? ≠ some (bd L ms (w.take l)) then [l] else [] := by
  rw [take_snoc h, List.filter_append]
  congr 1
  by_cases q : w[l]? = some (bd L ms (w.take l))
  · simp [q]
  · simp [q]
theorem c_wf (T : Fx K mg) : C8.Met P w K mg base 3 (aF K) "wrong_forks" (spWF K) [] := by
  have cS : C8.Met P w K mg base 2 (aF K) "check_state" (spCS K) [] := c_cs T
  have cW : C8.Met P w K mg base 1 (aF K) "check_writer" (spCW K) [] := c_cw T
  have cP : C8.Met P w K mg base 1 (aF K) "_parity" (spPar K) [] := c_par T
  refine metN T.cF T.mF_wrong_forks T.d_f_wrong_forks sc_f_wrong_forks (fun vs H Q E h => ?_) (fun _ _ _ _ _ _ us hl => match us, hl with | [_, _, _], _ => rfl) (fun cdv A outer s H vs Q E hr h => ?_)
  · obtain ⟨_, _, _, _, _, _, _, rfl, _⟩ := h
    rfl
  · obtain ⟨pl, st, sh, sp, ms, who, w, rfl, hP, hM, h01, hw, k⟩ := h
    obtain ⟨dx, na, ca, za, wa, fa, la, vt, vw, p⟩ := id hP
    have nd := sc_f_wrong_forks.nd
    have hO := p.ok
    have hdw : w.length ≤ 11 := hO.depth hw
    refine ⟨_, pss_cons (ps_expr (C8.pe_mt cS hr (by decide) (pv 0) (pa_cons (pv 1) pa_nil)))
      (pss_cons (ps_expr (C8.pe_mt cW hr (by decide) (pv 0) (pa_cons (pv 2) pa_nil)))
      (pss_cons (ps_set (i := 3) nd rfl (Or.inr rfl) (pe_dget (hu_of hr) (pe_fld (pv 0) rfl) (pv 2) (fun _ _ => rfl)))
      (pss_cons (ps_set (i := 4) nd rfl (Or.inl rfl) (pe_revV (by rfl) T.z_reversed (prg_1 (by rfl) T.z_range (pe_callB call_len_str (by rfl) T.z_len PySem.boot_len (pa_cons (pv 3) pa_nil)))))
      (pss_one (ps_ret (pe_lc (own := [("level", 5)]) (g := gName 5) rfl nd (pi_rgV (k := 4) rfl (by first | exact Or.inl rfl | exact Or.inr (Or.inl rfl)))
        (blkOk_by (own := [("level", 5)]) (N := ["self", "state", "writer", "way", "levels", "level"]) (sc := defScope s_f_wrong_forks) (by decide +kernel)) (fun _ _ _ _ _ => pg_name (i := 5) nd rfl (Or.inl rfl))
        (fun _ _ _ _ _ => pts_one (pt_cmpR op_ne (pe_callTy call_str_int (by rfl) T.z_str (by decide +kernel) (pa_cons (C8.pe_mt cP hr (by decide) (pv 0) (pa_cons (pv 1) (pa_cons (pe_slice C8.sl_txt (pv 3) po_none (po_some (pv 5))) pa_nil))) pa_nil)) (ixs' (pv 3) (pv 5)) (nomark _)))
        (fun _ _ _ _ _ => pe_slice C8.sl_txt (pv 3) po_none (po_some (pv 5))))))))), ?_⟩
    refine ⟨_, rfl, pl, dx, _, rfl, p.ins, rfl, _, rfl, pl, st, sh, sp, ms, rfl, hP, hM, h01, fun H1 s1 => ?_⟩
    refine ⟨_, rfl, pl, dx, _, rfl, s1 _ _ p.ins, rfl, _, rfl, pl, sh, sp, who, rfl, hP.same s1, List.mem_map.mpr ⟨_, hw, rfl⟩, ?_⟩
    obtain ⟨lk, l1, l2⟩ := p.wys.same s1
    have l2' : valV lk (.inr who) = some (.str (wS w)) := l2 _ hw
    refine ⟨_, rfl, pl, _, dx, _, _, rfl, s1 _ _ p.ins, T.cF, T.nF_ways, rfl, _, rfl, wa, _, rfl, dget_s l1 l2', ?_⟩
    have fitw : (wS w).length ≤ sizeLine := wS_fit (by omega)
    refine ⟨_, rfl, _, rfl, fitw, _, rfl, ?_⟩
    rw [wS_len]
    refine ⟨by omega, by omega, by omega, by omega, fun it hit hnit => ?_⟩
    refine ⟨it, _, _, _, rfl, upd_same, hnit, ?_⟩
    rw [ItX.dropH_upd hit]
    intro D hDn
    have en : ((w.length : Nat) - (0 : Int)).toNat = w.length := by omega
    rw [en]
    refine lc_it walk_rangeC (fun i H' => H' D = some (.lst (wSs ((((List.range w.length).reverse.take i).filter fun l => decide (w[l]? ≠ some (bd (fl sp) ms (w.take l)))).map (w.take ·)))) ∧ Same H1 H') ⟨upd_same, same_new hDn⟩ (fun _ _ _ _ => trivial) ?_ ?_
    · rintro i x H2 H3 hi ⟨e2, s2⟩ ⟨rfl, rfl⟩
      have s12 := s1.trans s2
      have hri := rev_range hi
      obtain ⟨l, hl⟩ : ∃ l, l = w.length - 1 - i := ⟨_, rfl⟩
      rw [← hl] at hri
      have hlw : l < w.length := by omega
      have ei : (0 : Int) + ((w.length : Nat) : Int) - 1 + (i : Nat) * (-1) = (l : Int) := by omega
      show gName 5 (V.int ((0 : Int) + ((w.length : Nat) : Int) - 1 + (i : Nat) * (-1))) _ _ _
      rw [ei]
      have hfo : forkOf (fl sp) (w.take l) := ⟨_, _, off_fl hO.nod hw hlw⟩
      refine ⟨rfl, ?_⟩
      refine ⟨_, rfl, pl, dx, _, rfl, s12 _ _ p.ins, rfl, _, rfl, _, rfl, _, rfl, _, rfl, _, rfl, fitw, ?_⟩
      rw [wS_take _ (by omega), Int.toNat_natCast]
      refine ⟨pl, st, sh, sp, ms, w.take l, rfl, hP.same s12, hM.same s12, h01, hfo, fun H4 s4 => ?_⟩
      refine ⟨_, rfl, log01 (bsum2 (fl sp) ms (w.take l)), ?_⟩
      obtain ⟨c, hc⟩ : ∃ c, w[l]? = some c := ⟨_, List.getElem?_eq_getElem hlw⟩
      refine ⟨_, rfl, _, rfl, _, _, chB c, rfl, rfl, fitw, wS_at hc, rfl, _, rfl, ?_⟩
      have e := str01 (bsum2 (fl sp) ms (w.take l))
      show if (!decide (V.str (Str.ofString (toString (bsum (fl sp) ms (w.take l) % 2))) = V.str ⟨#[chB c]⟩)) = true then _ else _
      rw [e]
      have e4 := s4 _ _ e2
      by_cases q : c = bd (fl sp) ms (w.take l)
      · have e' : decide (V.str (SX.S [chB (decide (bsum (fl sp) ms (w.take l) % 2 = 1))]) = V.str ⟨#[chB c]⟩) = true := decide_eq_true (by rw [q]; rfl)
        rw [e']
        refine iteF ⟨?_, s2.trans s4⟩
        rw [e4, wrong_take _ _ _ hri, if_neg (by rw [hc, q]; simp), List.append_nil]
      · have e' : decide (V.str (SX.S [chB (decide (bsum (fl sp) ms (w.take l) % 2 = 1))]) = V.str ⟨#[chB c]⟩) = false := decide_eq_false fun z => by
          injection z with z
          have z2 : SX.S [chB (bd (fl sp) ms (w.take l))] = SX.S [chB c] := z
          have z3 := SX.S_inj z2
          injection z3 with z3
          exact q (chB_inj z3).symm
        rw [e']
        refine iteT ?_
        refine ⟨_, rfl, _, rfl, _, rfl, _, rfl, fitw, ?_⟩
        rw [wS_take _ (by omega), Int.toNat_natCast]
        refine ⟨_, e4, ?_, ?_, fun b o e => ?_⟩
        · unfold wSs
          rw [List.length_map, List.length_map, List.length_map, sizeLine_eq]
          refine Nat.lt_of_le_of_lt (List.length_filter_le _ _) ?_
          rw [List.length_take]
          omega
        · rw [upd_same, wrong_take _ _ _ hri, if_pos (by rw [hc]; exact fun z => q (Option.some.inj z))]
          simp [wSs]
        · rw [upd_ne (ne_of_none e hDn)]
          exact (s2.trans s4) _ _ e
    · rintro H2 ⟨e2, s2⟩
      rw [List.take_of_length_le (by simp)] at e2
      exact k D H2 (s1.trans s2) e2
theorem c_turns (T : Fx K mg) : C8.Met P w K mg base 4 (aF K) "turns" (spTurns K) [] := by
  have cW : C8.Met P w K mg base 3 (aF K) "wrong_forks" (spWF K) [] := c_wf T
  have cC : C8.Met P w K mg base 2 (aF K) "cells_of" (spCO K) [] := c_co T
  refine metN T.cF T.mF_turns T.d_f_turns sc_f_turns (fun vs H Q E h => ?_) (fun _ _ _ _ _ _ us hl => match us, hl with | [_, _, _], _ => rfl) (fun cdv A outer s H vs Q E hr h => ?_)
  · obtain ⟨_, _, _, _, _, _, _, rfl, _⟩ := h
    rfl
  · obtain ⟨pl, st, sh, sp, ms, who, w, rfl, hP, hM, h01, hw, k⟩ := h
    obtain ⟨dx, na, ca, za, wa, fa, la, vt, vw, p⟩ := id hP
    have nd := sc_f_turns.nd
    have hO := p.ok
    have hdw : w.length ≤ 11 := hO.depth hw
    have hwl := wrong_len (fl sp) ms w
    refine ⟨_, pss_cons (ps_set (i := 3) nd rfl (Or.inl rfl) (C8.pe_mt cW hr (by decide) (pv 0) (pa_cons (pv 1) (pa_cons (pv 2) pa_nil))))
      (pss_cons (ps_set (i := 4) nd rfl (Or.inr rfl) (C8.pe_mt cC hr (by decide) (pv 0) (pa_cons (pv 2) pa_nil)))
      (pss_cons (ps_setLc (i := 5) (own := [("fork", 6)]) (g := gName 6) (tt := tYes) rfl nd rfl (by rfl) (sw_true rfl (by rfl) (by rfl) (by rfl)) (pi_list (pv 3))
        (blkOk_by (own := [("fork", 6)]) (N := ["self", "state", "writer", "wrong", "own", "flags", "fork", "index"]) (sc := defScope s_f_turns) (by decide +kernel)) (fun _ _ _ _ _ => pg_name (i := 6) nd rfl (Or.inl rfl))
        (fun _ _ _ _ _ => pts_nil) (fun _ _ _ _ _ => ixlK (K := K) rfl (pv 4) (pe_callB call_len_str (by rfl) T.z_len PySem.boot_len (pa_cons (pv 6) pa_nil))))
      (pss_one (ps_ret (pe_lc (own := [("index", 7)]) (g := gName 7) (tt := tYes) rfl nd (pi_list (pv 5))
        (blkOk_by (own := [("index", 7)]) (N := ["self", "state", "writer", "wrong", "own", "flags", "fork", "index"]) (sc := defScope s_f_turns) (by decide +kernel)) (fun _ _ _ _ _ => pg_name (i := 7) nd rfl (Or.inl rfl))
        (fun _ _ _ _ _ => pts_nil) (fun _ _ _ _ _ => tupN (pa_cons (pv 7) (pa_cons (pe_op op_sub pe_int (ixtK (K := K) rfl (pv 1) (pv 7))) pa_nil)))))))), ?_⟩
    refine ⟨_, rfl, pl, dx, _, rfl, p.ins, rfl, _, rfl, _, rfl, pl, st, sh, sp, ms, who, w, rfl, hP, hM, h01, hw, fun ga H1 s1 e1 => ?_⟩
    refine ⟨_, rfl, pl, dx, _, rfl, s1 _ _ p.ins, rfl, _, rfl, pl, sh, sp, who, rfl, hP.same s1, List.mem_map.mpr ⟨_, hw, rfl⟩, fun oa H2 s2 e2 => ?_⟩
    have e12 := s2 _ _ e1
    refine ⟨_, rfl, ga, rfl, ⟨_, SqL.of e12⟩, fun D hDn => ?_⟩
    refine lc_list (K := K) (a := ga) (xs := wSs ((wrong (fl sp) ms w).map (w.take ·))) (fun i H' => H' D = some (.lst (nV ((tix sp ms who w).take i))) ∧ Same H2 H') ⟨upd_same, same_new hDn⟩ (fun i H' _ h => h.2.seq (SqL.of e12)) ?_ ?_
    · rintro i x H3 hx ⟨c1, c2⟩
      obtain ⟨f, hf, rfl⟩ := wSs_get' hx
      rw [List.getElem?_map] at hf
      cases hl : (wrong (fl sp) ms w)[i]? with
      | none =>
        rw [hl] at hf
        cases hf
      | some l =>
        rw [hl] at hf
        have ef : w.take l = f := Option.some.inj hf
        subst ef
        have hlw := (mem_wrong.mp (List.mem_of_getElem? hl)).1
        have ltk : (w.take l).length = l := by
          rw [List.length_take]
          omega
        have htx : (tix sp ms who w)[i]? = some (off sp who + l) := by
          unfold tix
          rw [List.getElem?_map, hl]
          rfl
        have hown : (nV (own sp who))[l]? = some (V.int ((off sp who + l : Nat) : Int)) := by
          unfold nV
          rw [own_eq hO.nod hw, List.getElem?_map, List.getElem?_range' hlw]
          simp
        refine ⟨rfl, tyes ?_⟩
        refine ⟨_, rfl, _, rfl, _, rfl, wS_fit (by omega), oa, _, _, _, rfl, rfl, SqL.of (c2 _ _ e2), by rw [wS_len, ltk]; exact atI_nat hown, _, c1, ?_, ?_, fun b o e => ?_⟩
        · rw [nV_len, List.length_take, sizeLine_eq, tix_len]
          omega
        · rw [upd_same, take_snoc htx]
          simp [nV]
        · rw [upd_ne (ne_of_none e hDn)]
          exact c2 _ _ e
    · rintro H3 ⟨c1, c2⟩
      have hwlen : (wSs ((wrong (fl sp) ms w).map (w.take ·))).length = (tix sp ms who w).length := by
        rw [tix_len]
        simp [wSs]
      rw [hwlen, List.take_length] at c1
      have s03 := (s1.trans s2).trans c2
      refine ⟨_, rfl, D, rfl, ⟨_, SqL.of c1⟩, fun D2 hD2 => ?_⟩
      refine lc_list (K := K) (a := D) (xs := nV (tix sp ms who w)) (fun i H' => ∃ us : List V, H' D2 = some (.lst us) ∧ us.length = i ∧ DpAll K H' us ((((tix sp ms who w).take i).map fun j => (j, 1 - ms.getD j 0)).map tnD) ∧ Same H3 H') ⟨[], upd_same, rfl, .nil, same_new hD2⟩ (fun i H' _ ⟨_, _, _, _, h⟩ => h.seq (SqL.of c1)) ?_ ?_
      · rintro i x H4 hx ⟨us, d1, d2, d3, d4⟩
        obtain ⟨j, hj, rfl⟩ := nV_get hx
        obtain ⟨m, m1, m2, _⟩ := h01.get (tix_lt hO.nod hw (List.mem_of_getElem? hj))
        refine ⟨rfl, tyes ?_⟩
        refine ⟨_, rfl, _, rfl, _, rfl, st, _, _, .int m, rfl, rfl, (hM.same s03).same d4, atI_nat (by rw [List.getElem?_map, m1]; rfl), _, _, rfl, rfl, (by show 2 ≤ sizeLine; decide), fun q H5 n5 s5 e5 => ?_⟩
        have d1' := s5 _ _ d1
        have hi := (List.getElem?_eq_some_iff.mp hj).1
        rw [tix_len] at hi
        refine ⟨us, d1', by rw [d2, sizeLine_eq]; omega, us ++ [.ref q], upd_same, by simp [d2], ?_, fun b o e => ?_⟩
        · refine DpAll.kpT kp_put (lst_noT d1') (noLs_map _ noL_tn _) ?_
          rw [take_snoc hj, List.map_append, List.map_append]
          refine (d3.same s5).append (DpAll.one ?_)
          have : ms.getD j 0 = m := m2
          show Dp K H5 (.ref q) (.tuple [.int (j : Nat), .int (1 - ms.getD j 0)])
          rw [this]
          exact Dp.pair e5 (.int _) (.int _)
        · rw [upd_ne (ne_of_none e hD2)]
          exact (d4.trans s5) _ _ e
      · rintro H4 ⟨us, d1, d2, d3, d4⟩
        rw [nV_len, List.take_length] at d3
        exact k D2 H4 (s03.trans d4) (.lst (SqL.of d1) d3)
end
end FF
/-! States that are turned. -/
namespace FF
open PySem PySem.Spec PyProof.Rows L2
/-- marks set one after another -/
def setAll (ms : List Int) (qs : List (Nat × Int)) : List Int := qs.foldl (fun m q => m.set q.1 q.2) ms
theorem setAll_snoc (ms : List Int) (qs : List (Nat × Int)) (q : Nat × Int) : setAll ms (qs ++ [q]) = (setAll ms qs).set q.1 q.2 := by
  unfold setAll
  rw [List.foldl_append]
  rfl
theorem setAll_len (ms : List Int) (qs : List (Nat × Int)) : (setAll ms qs).length = ms.length := by
  induction qs generalizing ms with
  | nil => rfl
  | cons q qs ih =>
    show (setAll (ms.set q.1 q.2) qs).length = _
    rw [ih, List.length_set]
theorem setAll_turned (js : List Nat) {ms : List Int} (h : js.Nodup) : setAll ms (js.map fun j => (j, 1 - ms.getD j 0)) = turned ms js := by
  unfold setAll
  rw [List.foldl_map]
  exact turned_fixed js h fun _ _ => rfl
def spTurned (K : PySem.W.Frag) : Sp := fun vs H Q _ => ∃ (pl st : Addr) (v : V) (s : Sh) (sp : Prs) (ms : List Int) (qs : List (Nat × Int)), vs = [.ref pl, .ref st, v] ∧ PlanAt K H pl s sp ∧ StAt K H st ms ∧ M01 ms (fl sp).length ∧ Dp K H v (.list (qs.map tnD)) ∧
  (∀ q ∈ qs, q.1 < (fl sp).length ∧ (q.2 = 0 ∨ q.2 = 1)) ∧ ∀ (st' : Addr) (H' : Hp), Same H H' → StAt K H' st' (setAll ms qs) → Q (.ref st') H'
def spUpdated (K : PySem.W.Frag) : Sp := fun vs H Q _ => ∃ (pl st : Addr) (s : Sh) (sp : Prs) (ms : List Int) (who : Str) (w : List Bool) (d : Nat), vs = [.ref pl, .ref st, .str who, .int d] ∧ PlanAt K H pl s sp ∧ StAt K H st ms ∧ M01 ms (fl sp).length ∧ (who, w) ∈ sp ∧
  d ≤ (tix sp ms who w).length ∧ ∀ (st' : Addr) (H' : Hp), Same H H' → StAt K H' st' (turned ms ((tix sp ms who w).take d)) → Q (.ref st') H'
theorem ixN_at {n j : Nat} (h : j < n) : ixN n (j : Int) = some j := by
  unfold ixN
  rw [if_pos (by omega), if_pos (by omega), Int.toNat_natCast]
theorem dpAll_take {K : PySem.W.Frag} {H : Hp} : ∀ {ds : List PyData} {vs : List V} (_ : DpAll K H vs ds) (k : Nat), DpAll K H (vs.take k) (ds.take k)
  | _, _, .nil, k => by
    rw [List.take_nil, List.take_nil]
    exact .nil
  | _, _, .cons _ _, 0 => .nil
  | _, _, .cons h t, k + 1 => .cons h (dpAll_take t k)
section
variable {P : Program} {w : World} {K : PySem.W.Frag} {mg : Str → Option Value} {base : Heap}
theorem c_turned (T : Fx K mg) : C8.Met P w K mg base 3 (aF K) "turned" (spTurned K) [] := by
  have cS : C8.Met P w K mg base 2 (aF K) "check_state" (spCS K) [] := c_cs T
  have cB : C8.Cal P w K mg base 1 "is_below" spBelow [] := c_below T
  refine metN T.cF T.mF_turned T.d_p_turned sc_p_turned (fun vs H Q E h => ?_) (fun _ _ _ _ _ _ us hl => match us, hl with | [_, _, _], _ => rfl) (fun cdv A outer s H vs Q E hr h => ?_)
  · obtain ⟨_, _, _, _, _, _, _, rfl, _⟩ := h
    rfl
  · obtain ⟨pl, st, v, sh, sp, ms, qs, rfl, hP, hM, h01, hD, hq, k⟩ := h
    obtain ⟨dx, na, ca, za, wa, fa, la, vt, vw, p⟩ := id hP
    have nd := sc_p_turned.nd
    have hfew := p.ok.fl_few
    obtain ⟨ta, xs, rfl, hS, hA⟩ := hD.list_inv
    have hxl : xs.length = qs.length := by rw [hA.length, List.length_map]
    refine ⟨_, pss_cons (ps_expr (C8.pe_mt cS hr (by decide) (pv 0) (pa_cons (pv 1) pa_nil)))
      (pss_cons (ps_set (i := 3) nd rfl (Or.inl rfl) (pe_callTy listN (by rfl) T.z_list (by decide +kernel) (pa_cons (pv 1) pa_nil)))
      (pss_cons (ps_for PassesOwn.never rfl (pi_list (pv 2)) (pg_tup (by rfl) (pgs_cons (pg_name (i := 4) nd rfl (Or.inl rfl)) (pgs_cons (pg_name (i := 5) nd rfl (Or.inl rfl)) pgs_nil)))
        (pss_cons (ps_if (PW.pt (pw_or (pt_not (pt_val (C8.pe_c cB hr (by decide) (by rfl) (pa_cons (pv 4) (pa_cons (pe_callB call_len_seq (by rfl) T.z_len PySem.boot_len (pa_cons (pv 3) pa_nil)) pa_nil)))))
            (pw_or1 (pt_not (pt_val (C8.pe_c cB hr (by decide) (by rfl) (pa_cons (pv 5) (pa_cons (ixl (pe_fld (pv 0) rfl) (pv 4)) pa_nil)))))))) (pss_one ps_never) pss_nil)
        (pss_one (ps_asg (pv 5) (pg_sub (pv 3) (pv 4) set_list)))))
      (pss_one (ps_ret (pe_callTy tupleN (by rfl) T.z_tuple (by decide +kernel) (pa_cons (pv 3) pa_nil)))))), ?_⟩
    refine ⟨_, rfl, pl, dx, _, rfl, p.ins, rfl, _, rfl, pl, st, sh, sp, ms, rfl, hP, hM, h01, fun H1 s1 => ?_⟩
    refine ⟨_, rfl, st, _, rfl, .inr (hM.same s1), fun ma H2 n2 s2 e2 => ?_⟩
    have s02 := s1.trans s2
    have n0 : H ma = none := s1.free n2
    have kl : ∀ {H'}, Kp (fun a => a = ma) H2 H' → SqL K H' ta xs := fun k' => (s02.kp1 k' n0).seq hS
    refine ⟨_, rfl, ta, rfl, ⟨_, s02.seq hS⟩, for_list (K := K) (a := ta) (xs := xs) (fun i σ H' => ∃ (y4 y5 : Option V), σ = [some (.ref pl), some (.ref st), some (.ref ta), some (.ref ma), y4, y5] ∧ H' ma = some (.lst ((setAll ms (qs.take i)).map V.int)) ∧ Kp (fun a => a = ma) H2 H')
      ⟨none, none, rfl, e2, Kp.refl⟩ (fun i σ H' _ ⟨_, _, _, _, k'⟩ => kl k') ?_ ?_⟩
    · rintro i x σ H3 hx ⟨y4, y5, rfl, e3, k3⟩
      have s03 := s02.kp1 k3 n0
      obtain ⟨d, hd1, hd2⟩ := hA.get' hx
      rw [List.getElem?_map] at hd1
      cases hp : qs[i]? with
      | none =>
        rw [hp] at hd1
        cases hd1
      | some q =>
        rw [hp] at hd1
        have ed : tnD q = d := Option.some.inj hd1
        subst ed
        obtain ⟨j, m⟩ := q
        obtain ⟨hj, hm⟩ := hq _ (List.mem_of_getElem? hp)
        have hj : j < (fl sp).length := hj
        have hm : m = 0 ∨ m = 1 := hm
        obtain ⟨t2, u1, u2, rfl, ht2, Du1, Du2⟩ := Dp.pair_inv (show Dp K H _ (.tuple [.int (j : Nat), .int m]) from hd2)
        obtain rfl := Du1.int_inv
        obtain rfl := Du2.int_inv
        have hlen : (setAll ms (qs.take i)).length = (fl sp).length := by rw [setAll_len, h01.1]
        refine ⟨t2, _, rfl, Same.seqT s03 ht2, rfl, _, _, rfl, _, _, rfl, rfl, ?_⟩
        refine ⟨_, rfl, _, rfl, ma, _, rfl, .inl (SqL.of e3), _, _, rfl, by omega, by rw [List.length_map, hlen]; omega, _, rfl, ?_⟩
        refine iteF ?_
        have hjz : (List.replicate (cl sp).length (V.int 2))[j]? = some (.int 2) := by
          rw [List.getElem?_replicate, if_pos (by rw [← fl_len]; exact hj)]
        refine ⟨_, rfl, _, rfl, pl, _, dx, _, _, rfl, s03 _ _ p.ins, T.cF, T.nF_sizes, rfl, _, rfl, za, _, _, .int 2, rfl, rfl, s03.seq p.szs, atI_nat hjz, m, 2, rfl, by omega, by omega, _, rfl, ?_⟩
        refine iteF ?_
        refine ⟨_, rfl, _, rfl, _, rfl, ma, _, _, j, rfl, rfl, e3, ixN_at (by rw [List.length_map, hlen]; exact hj), ?_⟩
        refine put fun H4 k4 e4 => ?_
        refine ⟨_, _, rfl, ?_, k3.trans k4⟩
        rw [e4, take_snoc hp, setAll_snoc, List.map_set]
    · rintro σ H3 ⟨y4, y5, rfl, e3, k3⟩
      rw [List.take_of_length_le (by omega)] at e3
      refine ⟨_, rfl, ma, _, rfl, SqL.of e3, fun st' H4 n4 s4 e4 => ?_⟩
      exact k st' H4 ((s02.kp1 k3 n0).trans s4) (SqT.of e4)
theorem c_updated (T : Fx K mg) : C8.Met P w K mg base 5 (aF K) "updated" (spUpdated K) [] := by
  have cT : C8.Met P w K mg base 4 (aF K) "turns" (spTurns K) [] := c_turns T
  have cD : C8.Met P w K mg base 3 (aF K) "turned" (spTurned K) [] := c_turned T
  obtain ⟨fd, F⟩ := T.d_p_updated
  obtain ⟨ds, hds, hb⟩ := F.binds1 (ps := ["self", "state", "writer", "done"]) 4 1 (by simp) rfl fun TA kV doc pm an cdv ct us its l1 l2 => match us, its, l1, l2 with | [_, _, _, _], [_], _, _ => ⟨_, rfl, rfl⟩
  refine ⟨_, fd, _, ds, T.cF, T.mF_updated, F.ok sc_p_updated (fun vs H Q E h => ?_) (fun cdv A outer s H vs Q E hr h => ?_), hb, hds⟩
  · obtain ⟨_, _, _, _, _, _, _, _, rfl, _⟩ := h
    rfl
  · obtain ⟨pl, st, sh, sp, ms, who, w, d, rfl, hP, hM, h01, hw, hd, k⟩ := h
    obtain ⟨dx, na, ca, za, wa, fa, la, vt, vw, p⟩ := id hP
    have nd := sc_p_updated.nd
    have hO := p.ok
    have hdw : w.length ≤ 11 := hO.depth hw
    have hwl := wrong_len (fl sp) ms w
    suffices hh : ∃ t, PSs (cxOf CX0 P _ K mg base _ _ (defScope s_p_updated) _ cdv A outer s H E).nox (defBody s_p_updated) t ∧ t { nx := fun _ H' => Q .non H', rt := Q } (start ["self", "state", "writer", "done", "planned"] [.ref pl, .ref st, .str who, .int d]) H by
      obtain ⟨t, a, b⟩ := hh
      exact ⟨t, a.nox, b⟩
    refine ⟨_, pss_cons (ps_set (i := 4) nd rfl (Or.inl rfl) (C8.pe_mt cT hr (by decide) (pv 0) (pa_cons (pv 1) (pa_cons (pv 2) pa_nil))))
      (pss_cons (ps_if (pt_cmpR op_isN (pv 3) pe_non (nomark _)) (pss_one ps_never) pss_nil)
      (pss_cons (ps_if (pt_cmpR op_gt (pv 3) (pe_callB call_len_seq (by rfl) T.z_len PySem.boot_len (pa_cons (pv 4) pa_nil)) (nomark _)) (pss_one ps_never) pss_nil)
      (pss_one (ps_ret (C8.pe_mt cD hr (by decide) (pv 0) (pa_cons (pv 1) (pa_cons (pe_slice slN (pv 4) po_none (po_some (pv 3))) pa_nil))))))), ?_⟩
    refine ⟨_, rfl, pl, dx, _, rfl, p.ins, rfl, _, rfl, _, rfl, pl, st, sh, sp, ms, who, w, rfl, hP, hM, h01, hw, fun qa H1 s1 D1 => ?_⟩
    obtain ⟨qa', xs, e, hS, hA⟩ := D1.list_inv
    cases e
    have hxl : xs.length = (tix sp ms who w).length := by rw [hA.length, List.length_map, List.length_map]
    refine ⟨_, rfl, rfl, _, rfl, ?_⟩
    refine iteF ?_
    refine ⟨_, rfl, _, rfl, qa, _, rfl, .inl hS, _, _, rfl, rfl, _, rfl, ?_⟩
    have e : decide (((xs.length : Nat) : Int) < (d : Int)) = false := decide_eq_false (by omega)
    rw [e]
    refine iteF ?_
    refine ⟨_, rfl, pl, dx, _, rfl, s1 _ _ p.ins, rfl, _, rfl, _, rfl, _, rfl, _, rfl, qa, _, rfl, hS, fun ca2 H2 n2 s2 e2 => ?_⟩
    rw [cut_to _ _ (by omega)] at e2
    have s02 := s1.trans s2
    refine ⟨pl, st, _, sh, sp, ms, ((tix sp ms who w).take d).map fun j => (j, 1 - ms.getD j 0), rfl, hP.same s02, hM.same s02, h01, .lst (SqL.of e2) ?_, fun q hq => ?_, fun st' H3 s3 h3 => ?_⟩
    · have hA2 := hA.same s2
      rw [List.map_take, List.map_take]
      exact dpAll_take hA2 d
    · obtain ⟨j, hj, rfl⟩ := List.mem_map.mp hq
      have hjt := List.mem_of_mem_take hj
      have hjl := tix_lt hO.nod hw hjt
      refine ⟨hjl, ?_⟩
      obtain ⟨m, m1, m2, m3⟩ := h01.get hjl
      show 1 - ms.getD j 0 = 0 ∨ 1 - ms.getD j 0 = 1
      rw [m2]
      omega
    · rw [setAll_turned _ ((tix_nodup sp ms who w).sublist (List.take_sublist _ _))] at h3
      exact k st' H3 (s02.trans s3) h3
end
end FF
/-! super().__init__(..) in a body that knows its class. -/
namespace FF
open PySem PySem.Spec PyProof.Rows L2
/-- statements whose first may ask which code runs -/
structure PSa (X : Cx) (body st : List Stmt) (t : TS) : Prop where
  run : ∀ (pins : List (Addr × Obj)) (s : Shared) (σ : L2.St) (H : Hp) (D : Ends), Inv X pins σ H s → t D σ H → _root_.PySem.wpAt (model X.prog X.w) X.A (.func body X.env) (execs st X.env) (SP X pins D) X.xe s
section
variable {X : Cx} {body : List Stmt} {st : Stmt} {rest : List Stmt} {t u : TS}
theorem psa_of {sts : List Stmt} (h : PSs X sts t) : PSa X body sts t := ⟨fun pins s σ H D I q => wpAt_of_wpAny (h.run pins s σ H D I q)⟩
theorem psa_cons (h1 : PS X st t) (h2 : PSa X body rest u) : PSa X body (st :: rest) (tSeq t u) := by
  refine ⟨fun pins s σ H D I h => ?_⟩
  refine ks_wpAt_execs_cons (wpAt_of_wpAny (thn (h1.run pins s σ H { D with nx := u D } I h) fun f s1 q => ?_))
  cases f with
  | next =>
    obtain ⟨σ', H', I', q⟩ := q
    exact h2.run pins s1 σ' H' D I' q
  | ret v => exact q
  | brk => exact q
  | cont => exact q
/-- what the body of a method must know of its class D: f its def, cc the cell, cda the code -/
structure Sup (X : Cx) (D C f2 : Addr) (name : Str) : Prop where
  ks : X.env.kindOf "super" = some .globalImplicit
  kc : X.env.kindOf "__class__" = some .free
  ex : ∃ (f cc cda : Addr) (oc ccl cl : Value) (od cdd cld : Option Addr) (fd : FuncData) (osl ccs csl : Array (Option Value)) (ar : Arg) (vs : Array Value) (file : Str) (tf : Tok), X.env.func = some f ∧ X.K.lookup f = some ⟨oc, od, .func fd, osl⟩ ∧ (fd.params.posonlyargs ++ fd.params.args).head? = some ar ∧
    ar.arg = "self" ∧ X.env.code = .ref cda ∧ X.K.lookup cda = some ⟨ccl, cdd, .fields vs, ccs⟩ ∧ vs[2]? = some (.str file tf) ∧ ((X.prog.main.file : Str) == file) = true ∧ X.K.lookup cc = some ⟨cl, cld, .cell (some (.ref D)), csl⟩ ∧ X.env.cells.lookup ("__class__" : Str) = some cc
  self : X.env.kindOf "self" = some .local
  top : (X.prog.main.scope.names.lookup ("super" : Str)).isSome = false
  mg : X.mg "super" = none
  cls : ∃ cdD, PySem.W.clsIn X.K D = some cdD
  clsC : ∃ cd, PySem.W.clsIn X.K C = some cd
  sub : PySem.W.mroIn X.K C (.ref D) = some true
  opq : PySem.W.nsIn X.K cStatics "thirdparty.any" = some none
  sup : PySem.W.ks_superIn X.K C D name = some (some (.ref f2))
  fty : PySem.W.typeIn X.K (.ref f2) = some (.type "function")
  fin : PySem.W.fnIn X.K f2 = true
theorem Sup.clsAt {K : PySem.W.Frag} {D : Addr} {cd : ClassData} {hh : Heap} (h : PySem.W.clsIn K D = some cd) (X : K.In hh) : ∃ oD, hh.get? D = some oD ∧ oD.data = .cls cd := by
  unfold PySem.W.clsIn at h
  split at h
  · rename_i c d cd' sl ho
    cases h
    exact ⟨_, X _ _ ho, rfl⟩
  · cases h
/-- super().name(e, ..) as a statement: the promise of the def above, at self -/
def tSup (C : Addr) (sp : Sp) (t : TA) : TS := fun D σ H => ∃ (x dx : Addr) (fs : List (Str × V)), σ[0]? = some (some (.ref x)) ∧ H x = some (.ins C dx fs) ∧ t σ H fun vs H1 => sp (.ref x :: vs) H1 (fun _ H2 => D.nx σ H2) C8.E0
theorem psa_super {CX : CXT} {k : Nat} {D C f2 : Addr} {name : Str} {sp : Sp} {t1 : TA} {e : Expr} {es : List Expr} {p0 p1 apos pos epos : Pos} {pl : Sem Bool} (S : Sup X D C f2 name) (F : FnR X.prog X.w X.K X.mg X.base CX k f2 sp) (hr : Room k X.A) (hx : Passes CX X C8.E0) (hN : X.N[0]? = some ("self" : Str))
    (ha : PA X (e :: es) t1) (h2 : PSs X rest u) (hn : (name == ("__class__" : Str)) = false := by decide)
    (hst : starEach (e :: es) X.env = (false, eval e X.env) :: starEach es X.env := by rfl) (hpl : (backTo pos (starEach es X.env)).any (·.1) = false := by rfl)
    (ht : eval (.Call (.Attribute (.Call (.Name "super" p0) [] [] p1) name apos) (e :: es) [] pos) X.env = (do
      let ov ← attributeBase (.Call (.Name "super" p0) [] [] p1) name X.env (eval (.Call (.Name "super" p0) [] [] p1) X.env)
      standAt apos.atName
      let (f, first) ← holding [ov] (getMethod ov name pl)
      callWith pos f first (backTo pos (starEach (e :: es) X.env)) []) := by rfl)
    (hs : swapsWith (.Call (.Attribute (.Call (.Name "super" p0) [] [] p1) name apos) (e :: es) [] pos) none epos.line X.env = pure false := by rfl) :
    PSa X body (.Expr (.Call (.Attribute (.Call (.Name "super" p0) [] [] p1) name apos) (e :: es) [] pos) epos :: rest) (tSeq (tSup C sp t1) u) := by
  refine ⟨fun pins s σ H D I h => ?_⟩
  obtain ⟨x, dx, fs, hσ, hx0, hq⟩ := h
  obtain ⟨f, cc, cda, oc, ccl, cl, od, cdd, cld, fd, osl, ccs, csl, ar, vs, file, tf, q1, q2, q3, q4, q5, q6, q7, q8, q9, q10⟩ := S.ex
  obtain ⟨cdD, hD⟩ := S.cls
  obtain ⟨cdC, hC⟩ := S.clsC
  obtain ⟨mA, O, _, _, _, _⟩ := ins_get I.hok hx0
  obtain ⟨odx, J, _⟩ := O.look
  obtain ⟨m, hm, hl⟩ := I.loc
  obtain ⟨uu, ru, look⟩ := hl 0 "self" (.ref x) hN hσ (.inl S.self)
  have ru : uu = Value.ref x := ru
  subst ru
  have hself : m "self" = some (.ref x) := by
    rcases look with ⟨_, e⟩ | ⟨e, _⟩
    · exact e
    · rw [S.self] at e
      rcases e with e | e <;> cases e
  obtain ⟨oD, hD1, hD2⟩ := Sup.clsAt hD I.kIn
  refine ks_wpAt_execs_cons (ks_wpAt_Expr_any ?_ I.quiet hs)
  refine ks_wpAt_MethodCall (pl := pl) ?_ ht
  refine ks_wpAt_super_base S.ks S.kc hn q1 (I.kIn _ _ q2) rfl q3 q5 (I.kIn _ _ q6) rfl q7 q8 S.top ?_
  obtain ⟨mb, b1, b2⟩ := I.mod.blt
  refine PySem.W.ks_loadName_global I.ok.kind S.ks (Calls.loadGlobal_builtin (by rw [I.ok.glob]; exact I.mod.glob.keeps I.bk) S.mg (by rw [I.ok.blt]; exact b1.keeps I.bk) ((b2 "super" (by decide)).trans (by decide +kernel)) ⟨rfl, ?_⟩)
  refine wpAny_loadName_free I.ok.kind S.kc q10 ⟨_, I.kIn _ _ q9, rfl⟩ ?_
  rw [q4]
  refine wpAny_loadName_local I.ok.kind S.self hm hself ?_
  have I0 := I
  obtain ⟨hh, g, d, tk, os⟩ := s
  refine ks_wpAny_isType_cls hD1 hD2 ⟨rfl, ?_⟩
  refine ks_wpAny_call_super hD1 hD2 J.at_ J.cls (fun c e => ?_) (PySem.W.looks_mroIn I.kIn S.sub) (fun h' he hk => ?_)
  · have := J.no
    unfold PySem.W.notCls at this
    rw [e] at this
    exact Bool.noConfusion this
  · have I1 : Inv X pins σ H ⟨h', g, d, tk, os⟩ := I.kept (t' := tk) hk
    have X1 : X.K.In h' := I1.kIn
    obtain ⟨of, hof, hofc⟩ : ∃ of, h'.get? f2 = some of ∧ of.cls = .type "function" := by
      have ht' : (X.K.lookup f2).map (·.cls) = some (.type "function") := S.fty
      cases z : X.K.lookup f2 with
      | none => rw [z] at ht'; cases ht'
      | some of => rw [z] at ht'; exact ⟨of, X1 _ _ z, Option.some.inj ht'⟩
    have hsup := S.sup
    unfold PySem.W.ks_superIn at hsup
    rw [hC] at hsup
    have J1 : PySem.W.InstAt h' x (PySem.W.instObj C dx) C (some odx) := ⟨hk _ _ J.at_, J.cls, J.no, hk _ _ J.dict⟩
    refine ks_wpAny_getMethod_super he (PySem.W.looks_opaque X1 S.opq) (l₀ := cdC.mro) ?_ rfl X1 hsup hof hofc (PySem.W.ks_ne X1 J1 hC) hn ?_
    · exact fun A Q E s k q => wpAny_bind ((PySem.W.looks_clsIn X1 hC) A _ E s k (wpAny_pure q))
    · have I2 : Inv X ((h'.objs.size, PySem.W.methodObj (.ref f2) (.ref x)) :: pins) σ H ⟨h'.push (PySem.W.methodObj (.ref f2) (.ref x)), g, d, tk + 1, os⟩ :=
        ClX.pin_new (t' := tk + 1) I1 (fun _ _ z => Heap.get?_push_of_some _ z) (Nat.le_refl _) (Heap.get?_push_size h' rfl) (fun v z => nomatch z)
      have hqL : h'.objs.size ≠ X.env.locals := (I2.pin (h'.objs.size, PySem.W.methodObj (.ref f2) (.ref x)) (List.mem_append_right _ List.mem_cons_self)).2.2.1
      refine PySem.W.callWith_M (K := X.K) (h₀ := X.base) (first := []) (g := f2) (self := .ref x) I2.ok.mod.kin (news_at hqL (ClX.base_none I1 (Nat.le_refl _)) (ClX.pin_at I2)) List.mem_cons_self S.fin ?_ hst hpl
      refine thn (ha.run pos _ _ σ H _ I2 hq) fun us s3 ⟨ws, H2, I3, rv, q2'⟩ => ⟨⟨ClX.pin_at I3, I3.kIn⟩, ?_⟩
      refine thn (wpAny_call (PySem.W.method_call (ClX.pin_at I3) (run_fnR (us := .ref x :: us) (vs := .ref x :: ws) F hr hx I3 (.cons rfl rv) q2'))) fun r s4 hr4 => ?_
      obtain ⟨v, H4, I4, _, q4'⟩ := hr4
      exact wpAt_of_wpAny (h2.run pins s4 σ H4 D (ClX.unpin I4) q4')
end
end FF
/-! Plan.__init__; the frame of ForkPlan.__init__. -/
namespace FF
open PySem PySem.Spec PyProof.Rows L2
/-! ### names in order -/
theorem rising_pw : ∀ {l : List Str} {p : Str}, risingS p l = true → (∀ x ∈ l, ¬ nlt x p) ∧ l.Pairwise (fun a b => ¬ nlt b a)
  | [], p, _ => ⟨fun x h => (nomatch h), List.Pairwise.nil⟩
  | x :: r, p, h => by
    rw [risingS, Bool.and_eq_true, Bool.not_eq_true'] at h
    obtain ⟨h1, h2⟩ := rising_pw h.2
    have hx : ¬ nlt x p := fun z => by
      have := h.1
      rw [ltCps_eq] at this
      exact absurd z (of_decide_eq_false this)
    refine ⟨fun y hy => ?_, List.pairwise_cons.mpr ⟨h1, h2⟩⟩
    rcases List.mem_cons.mp hy with rfl | hy
    · exact hx
    · intro z
      by_cases e : p = x
      · rw [e] at z
        exact h1 y hy z
      · rcases nlt_or e with q | q
        · exact h1 y hy (nlt_trans z q)
        · exact hx q
theorem sorted_pw {l : List Str} (h : sortedS l = true) : l.Pairwise (fun a b => ¬ nlt b a) := by
  cases l with
  | nil => exact List.Pairwise.nil
  | cons x r =>
    obtain ⟨h1, h2⟩ := rising_pw (show risingS x r = true from h)
    exact List.pairwise_cons.mpr ⟨h1, h2⟩
/-! ### what stands through a store into an instance -/
section
variable {K : PySem.W.Frag} {H H' : Hp} {x C dx a : Addr} {fs : List (Str × V)}
theorem kpI {o : HO} (k : Kp (fun a => a = x) H H') (hx : H x = some (.ins C dx fs)) (h : H a = some o) (ho : ∀ C dx fs, o ≠ .ins C dx fs) : H' a = some o := k _ _ (fun z => by
  rw [z, hx] at h
  exact ho _ _ _ (Option.some.inj h).symm) h
theorem SqL.kpI {xs : List V} (k : Kp (fun a => a = x) H H') (hx : H x = some (.ins C dx fs)) (h : SqL K H a xs) : SqL K H' a xs := by
  rcases h with (h | ⟨o, h⟩) | h
  · exact .inl (.inl (FF.kpI k hx h fun _ _ _ z => nomatch z))
  · exact .inl (.inr ⟨o, FF.kpI k hx h fun _ _ _ z => nomatch z⟩)
  · exact .inr h
theorem SqT.kpI {xs : List V} (k : Kp (fun a => a = x) H H') (hx : H x = some (.ins C dx fs)) (h : SqT K H a xs) : SqT K H' a xs := by
  rcases h with (h | ⟨o, h⟩) | h
  · exact .inl (.inl (FF.kpI k hx h fun _ _ _ z => nomatch z))
  · exact .inl (.inr ⟨o, FF.kpI k hx h fun _ _ _ z => nomatch z⟩)
  · exact .inr h
mutual
theorem Dp.kpI (k : Kp (fun a => a = x) H H') (hx : H x = some (.ins C dx fs)) : ∀ {d : PyData} {v : V}, Dp K H v d → Dp K H' v d
  | _, _, .non => .non
  | _, _, .bl b => .bl b
  | _, _, .int i => .int i
  | _, _, .str z => .str z
  | _, _, .lst h a => .lst (SqL.kpI k hx h) (DpAll.kpI k hx a)
  | _, _, .tup h a => .tup (SqT.kpI k hx h) (DpAll.kpI k hx a)
theorem DpAll.kpI (k : Kp (fun a => a = x) H H') (hx : H x = some (.ins C dx fs)) : ∀ {ds : List PyData} {vs : List V}, DpAll K H vs ds → DpAll K H' vs ds
  | _, _, .nil => .nil
  | _, _, .cons h t => .cons (Dp.kpI k hx h) (DpAll.kpI k hx t)
end
theorem WaysAt.kpI {sp : Prs} (k : Kp (fun a => a = x) H H') (hx : H x = some (.ins C dx fs)) (h : WaysAt H a sp) : WaysAt H' a sp := let ⟨kvs, h1, h2⟩ := h; ⟨kvs, FF.kpI k hx h1 fun _ _ _ z => (nomatch z), h2⟩
theorem LeavesAt.kpI {sp : Prs} (k : Kp (fun a => a = x) H H') (hx : H x = some (.ins C dx fs)) (h : LeavesAt H a sp) : LeavesAt H' a sp := let ⟨kvs, h1, h2⟩ := h; ⟨kvs, FF.kpI k hx h1 fun _ _ _ z => (nomatch z), h2⟩
theorem FlagsAt.kpI {L : Prs} (k : Kp (fun a => a = x) H H') (hx : H x = some (.ins C dx fs)) (h : FlagsAt H a L) : FlagsAt H' a L := by
  obtain ⟨H0, kvs, h1, h2, h3, h4⟩ := h
  exact ⟨H0, kvs, FF.kpI k hx h1 fun _ _ _ z => (nomatch z), fun f hf => let ⟨ra, a1, a2, a3⟩ := h2 f hf; ⟨ra, a1, FF.kpI k hx a2 fun _ _ _ z => (nomatch z), a3⟩, h3, h4⟩
end
def spPI (K : PySem.W.Frag) : Sp := fun vs H Q _ => ∃ (x dx na ca za : Addr) (xs ys zs : List V), vs = [.ref x, .ref na, .ref ca, .ref za] ∧ H x = some (.ins (aF K) dx []) ∧ SqL K H na xs ∧ SqL K H ca ys ∧ SqL K H za zs ∧
  ∀ (n' c' z' : Addr) (H' : Hp), Kp (fun a => a = x) H H' → H' x = some (.ins (aF K) dx [("names", .ref n'), ("cells", .ref c'), ("sizes", .ref z')]) → H' n' = some (.lst xs) → H' c' = some (.lst ys) → H' z' = some (.lst zs) → Q .non H'
section
variable {P : Program} {w : World} {K : PySem.W.Frag} {mg : Str → Option Value} {base : Heap}
theorem f_pi (T : Fx K mg) : FnR P w K mg base CX0 1 (He.fAd K ("Plan", some "__init__")) (spPI K) := by
  obtain ⟨fd, F⟩ := T.d_p_init
  have b := F.bindsN (ps := ["self", "names", "cells", "sizes"]) fun _ _ _ _ _ _ us hl => match us, hl with | [_, _, _, _], _ => rfl
  have O : FnOk P w K mg base CX0 1 (He.fAd K ("Plan", some "__init__")) fd ["self", "names", "cells", "sizes"] (spPI K) := F.ok sc_p_init (fun vs H Q E h => ?_) (fun cdv A outer s H vs Q E hr h => ?_)
  · exact (O.raw b .nil).imp fun vs H Q E h => by rw [List.append_nil]; exact h
  · obtain ⟨_, _, _, _, _, _, _, _, rfl, _⟩ := h
    rfl
  · obtain ⟨x, dx, na, ca, za, xs, ys, zs, rfl, hx, hn, hc, hz, k⟩ := h
    suffices hh : ∃ t, PSs (cxOf CX0 P w K mg base _ _ (defScope s_p_init) _ cdv A outer s H E).nox (defBody s_p_init) t ∧ t { nx := fun _ H' => Q .non H', rt := Q } (start ["self", "names", "cells", "sizes"] [.ref x, .ref na, .ref ca, .ref za]) H by
      obtain ⟨t, a, b⟩ := hh
      exact ⟨t, a.nox, b⟩
    refine ⟨_, pss_cons (ps_fld (pv 0) (pe_callTy listN (by rfl) T.z_list (by decide +kernel) (pa_cons (pv 1) pa_nil)) (by rfl))
      (pss_cons (ps_fld (pv 0) (pe_callTy listN (by rfl) T.z_list (by decide +kernel) (pa_cons (pv 2) pa_nil)) (by rfl))
      (pss_one (ps_fld (pv 0) (pe_callTy listN (by rfl) T.z_list (by decide +kernel) (pa_cons (pv 3) pa_nil)) (by rfl)))), ?_⟩
    refine ⟨_, rfl, na, _, rfl, .inl hn, fun n' H1 n1 s1 e1 => ?_⟩
    have x1 := s1 _ _ hx
    refine ⟨_, rfl, x, _, dx, _, rfl, x1, T.cF, T.nF_names, (by show 0 < 1000; decide), ?_⟩
    refine put fun H2 k2 e2 => ?_
    have e21 := kpI k2 x1 e1 fun _ _ _ z => nomatch z
    refine ⟨_, rfl, ca, _, rfl, .inl (SqL.kpI k2 x1 (s1.seq hc)), fun c' H3 n3 s3 e3 => ?_⟩
    have e2' : H2 x = some (.ins (aF K) dx [("names", .ref n')]) := e2
    have x3 := s3 _ _ e2'
    refine ⟨_, rfl, x, _, dx, _, rfl, x3, T.cF, T.nF_cells, (by show 1 < 1000; decide), ?_⟩
    refine put fun H4 k4 e4 => ?_
    have e43 := kpI k4 x3 e3 fun _ _ _ z => nomatch z
    have e41 := kpI k4 x3 (s3 _ _ e21) fun _ _ _ z => nomatch z
    refine ⟨_, rfl, za, _, rfl, .inl (SqL.kpI k4 x3 (s3.seq (SqL.kpI k2 x1 (s1.seq hz)))), fun z' H5 n5 s5 e5 => ?_⟩
    have e4' : H4 x = some (.ins (aF K) dx [("names", .ref n'), ("cells", .ref c')]) := by
      rw [e4]
      rfl
    have x5 := s5 _ _ e4'
    refine ⟨_, rfl, x, _, dx, _, rfl, x5, T.cF, T.nF_sizes, (by show 2 < 1000; decide), ?_⟩
    refine put fun H6 k6 e6 => ?_
    have kk : Kp (fun a => a = x) H H6 := ((Kp.same s1).trans k2).trans (((Kp.same s3).trans k4).trans ((Kp.same s5).trans k6))
    refine k n' c' z' H6 kk ?_ (kpI k6 x5 (s5 _ _ e41) fun _ _ _ z => nomatch z) (kpI k6 x5 (s5 _ _ e43) fun _ _ _ z => nomatch z) (kpI k6 x5 e5 fun _ _ _ z => nomatch z)
    rw [e6]
    rfl
end
end FF
/-! The call of a method whose frame has one cell of its own and the cell of its class. -/
namespace FF
open PySem PySem.Spec PyProof.Rows L2
section
variable {M : Model} {A : Around} {E : Value → Shared → Prop} {s₀ s : Shared} {m cm : Str → Option Value} {env : Env} {cs : List (Str × Addr)}
theorem stLD {n : Str} {v : Value} {Q : Unit → Shared → Prop} (x : InCallC s₀ env.locals m cs cm s) (hk : env.scope.kind = .function) (hl : env.kindOf n = some .local)
    (h : ∀ s', InCallC s₀ env.locals (fun y => if y = n then some v else m y) cs cm s' → Q () s') : wpAny M A (storeName env n v) Q E s := by
  refine wpAny_storeName_local hl x.toInCall.ns (fun h' hn' hs' => h _ ⟨⟨?_, hn', fun b o e => ?_, x.toInCall.fresh⟩, fun k c hc => ?_, x.apart, x.above⟩) (by rw [hk]; rfl)
  · obtain ⟨h₁, tk, rfl⟩ := x.toInCall.same
    exact ⟨h', _, rfl⟩
  · exact hs'.extBut b o (Nat.ne_of_lt (Nat.lt_of_lt_of_le (Heap.lt_size e) x.toInCall.fresh)) (x.toInCall.keep b o e)
  · exact (x.cell k c hc).sameBut hs' (Nat.ne_of_gt (x.above k c (mem_of_lookup hc)))
theorem bindLoc (f : Str × Value → PUnit → Sem (ForInStep PUnit)) (hf : ∀ n v u, f (n, v) u = (do storeName env n v; pure (.yield ⟨⟩))) (hk : env.scope.kind = .function) :
    ∀ (binds : List (Str × Value)) (m : Str → Option Value) (s : Shared) (Q : PUnit → Shared → Prop), InCallC s₀ env.locals m cs cm s → (∀ x ∈ binds, env.kindOf x.1 = some .local) →
      (∀ s', InCallC s₀ env.locals (bindL env.kindOf binds m) cs cm s' → Q ⟨⟩ s') → wpAny M A (forIn binds ⟨⟩ f) Q E s
  | [], m, s, Q, x, _, h => by rw [List.forIn_nil]; exact wpAny_pure (h s x)
  | (n, v) :: r, m, s, Q, x, hkind, h => by
    rw [List.forIn_cons, hf]
    have hl := hkind (n, v) List.mem_cons_self
    refine wpAny_bind (wpAny_bind (stLD x hk hl fun s' x' => wpAny_pure (bindLoc f hf hk r _ s' Q x' (fun y hy => hkind y (List.mem_cons_of_mem _ hy)) fun s'' x'' => h s'' ?_)))
    unfold bindL
    rw [if_pos hl]
    exact x''
end
abbrev clS (L cc : Addr) : List (Str × Addr) := [("ways", L + 1), ("__class__", cc)]
theorem newEnvS {M : Model} {A : Around} {E : Value → Shared → Prop} {s : Shared} {scope : Scope} {globals cc : Addr} {binds : List (Str × Value)} {qual : Str} {func : Option Addr} {code : Value} {builtins : Addr} {Q : Env → Shared → Prop} (hk : scope.kind = .function)
    (hcs : ∀ (n : Nat) (acc : List (Str × Addr)), cellsFrom n scope.names acc = (("ways" : Str), (n : Addr)) :: acc) (hloc : ∀ x ∈ binds, scope.names.lookup x.1 = some .local)
    (hQ : ∀ s', InCallC s s.heap.objs.size (bindL (fun x => scope.names.lookup x) binds fun _ => none) [("ways", s.heap.objs.size + 1)] (fun _ => none) s' → Q (newEnv scope s.heap.objs.size globals (clS s.heap.objs.size cc) qual func code none builtins) s') :
    wpAny M A (newFunctionEnv scope globals [("__class__", cc)] binds qual func code none builtins) Q E s := by
  simp only [newFunctionEnv, Option.isSome_none, Bool.false_eq_true, if_false]
  refine wpAny_bind (wpAny_alloc ?_)
  refine wpAny_bind (wpAny_layCells _ (fun name kind cells => by cases hkc : kind == NameKind.cell <;> simp [hkc]) _ _ _ _ ?_)
  have ok := cellsFrom_ok scope.names (s.heap.push { cls := .type "frame", data := .dict #[] }) (s.heap.objs.size + 1) [] ⟨fun _ _ hm => (nomatch hm), List.Pairwise.nil⟩ (by rw [Heap.size_push]; exact Nat.le_refl _)
  rw [Heap.size_push, hcs] at ok
  rw [show ({ s with heap := s.heap.push { cls := .type "frame", data := .dict #[] } } : Shared).heap.objs.size = s.heap.objs.size + 1 from Heap.size_push .., hcs]
  refine wpAny_bind (bindLoc (s₀ := s) (cs := [("ways", s.heap.objs.size + 1)]) (cm := fun _ => none) (env := newEnv scope s.heap.objs.size globals (clS s.heap.objs.size cc) qual func code none builtins)
    _ (fun _ _ _ => rfl) hk binds (fun _ => none) _ _
    ⟨⟨⟨_, _, rfl⟩, (Heap.Ns.new s.heap (.type "frame")).keeps (pushCells_keeps _ _), fun b o e => pushCells_keeps _ _ b o (Heap.get?_push_of_some _ e), Nat.le_refl _⟩,
      fun n c hc => (ok.empty n c (mem_of_lookup hc)).1, ok.apart, fun n c hm => (ok.empty n c hm).2⟩
    hloc fun s' x => wpAny_pure (hQ s' x))
/-- the context of such a body -/
def cxS (CX : CXT) (P : Program) (w : World) (K : PySem.W.Frag) (mg : Str → Option Value) (base : Heap) (N : List Str) (qual : Str) (scope : Scope) (f : Addr) (cd : Value) (cc : Addr) (A : Around) (outer : List Env) (s : Shared) (H : Hp) (E : XK) : Cx where
  prog := P
  w := w
  K := K
  mg := mg
  base := base
  A := A.deeper (PySem.W.envX qual scope s.heap.objs.size f cd (clS s.heap.objs.size cc))
  N := N
  s_0 := s
  H_0 := H
  env := PySem.W.envX qual scope s.heap.objs.size f cd (clS s.heap.objs.size cc)
  outer := outer
  stack := PySem.W.envX qual scope s.heap.objs.size f cd (clS s.heap.objs.size cc) :: outer
  ex := []
  calm := true
  fn := fun x => x == "ways"
  pn := []
  xe := fun e s' => wpAny (model P w) (A.deeper (PySem.W.envX qual scope s.heap.objs.size f cd (clS s.heap.objs.size cc))) (leaving (PySem.W.envX qual scope s.heap.objs.size f cd (clS s.heap.objs.size cc)) e) (fun _ s'' => CX outer H s E e s'') (fun e' s'' => CX outer H s E e' s'') s'
theorem clS_inv {L cc : Addr} {x : Str} {c : Addr} (h : (clS L cc).lookup x = some c) : (x = "ways" ∧ c = L + 1) ∨ (x = "__class__" ∧ c = cc) := by
  unfold clS at h
  rw [List.lookup_cons] at h
  by_cases e : x = "ways"
  · subst e
    simp at h
    exact .inl ⟨rfl, h.symm⟩
  · rw [show (x == ("ways" : Str)) = false from beq_eq_false_iff_ne.mpr e] at h
    have h : List.lookup x [(("__class__" : Str), cc)] = some c := h
    rw [List.lookup_cons] at h
    by_cases e2 : x = "__class__"
    · subst e2
      simp at h
      exact .inr ⟨rfl, h.symm⟩
    · rw [show (x == ("__class__" : Str)) = false from beq_eq_false_iff_ne.mpr e2] at h
      cases h
theorem clS_ways (L cc : Addr) : (clS L cc).lookup ("ways" : Str) = some (L + 1) := rfl
theorem clS_cls (L cc : Addr) : (clS L cc).lookup ("__class__" : Str) = some cc := rfl
structure ScS (N ps : List Str) (sc : Scope) : Prop where
  kind : sc.kind = .function
  co : sc.isCoroutine = false
  gen : sc.isGenerator = false
  nd : N.Nodup
  pre : N.take ps.length = ps
  par : ∀ x ∈ ps, sc.names.lookup x = some .local
  cel : ∀ y ∈ sc.names, (y.2 = .cell → y.1 = "ways") ∧ (y.2 = .free → y.1 = "__class__")
  cs : ∀ (n : Nat) (acc : List (Str × Addr)), cellsFrom n sc.names acc = (("ways" : Str), (n : Addr)) :: acc
theorem inv_startS {CX : CXT} {P : Program} {w : World} {K : PySem.W.Frag} {mg : Str → Option Value} {base : Heap} {N ps : List Str} {qual : Str} {scope : Scope} {f cc : Addr} {cd : Value} {A : Around} {outer : List Env} {s s1 : Shared} {H : Hp} {E : XK} {us : List Value} {vs : List V} {cl : Value} {cld : Option Addr} {cv : Option Value} {csl : Array (Option Value)}
    (S : ScS N ps scope) (hd : A.handled = none) (e0 : Env0 P w K mg base A outer s H) (hl : vs.length = ps.length) (r : Vals vs us) (lc : K.lookup cc = some ⟨cl, cld, .cell cv, csl⟩)
    (x : InCallC s s.heap.objs.size (bindL (fun x => scope.names.lookup x) (ps.zip us) fun _ => none) [("ways", s.heap.objs.size + 1)] (fun _ => none) s1) :
    Inv (cxS CX P w K mg base N qual scope f cd cc A outer s H E) [] (L2.start N vs) H s1 := by
  have hpl : ps.length ≤ N.length := by have := congrArg List.length S.pre; rw [List.length_take] at this; omega
  obtain ⟨h1, tk, rfl, hk⟩ := x.done
  have noA : ∀ b : Addr, b ∉ (cxS CX P w K mg base N qual scope f cd cc A outer s H E).ex := fun b z => absurd (show b ∈ ([] : List Addr) from z) (by simp)
  have hcb : base.get? cc = some ⟨cl, cld, .cell cv, csl⟩ := e0.mod.kin _ _ lc
  obtain ⟨hcs, hcH⟩ := e0.bs _ _ hcb
  have hclt : cc < s.heap.objs.size := Heap.lt_size hcs
  refine ⟨⟨e0.mod, S.kind, rfl, rfl, Nat.le_refl _, fun y z c h1 h2 => ?_, fun y hy => ?_, fun y c hf h => ?_, fun _ => hd, Around.frames_deeper e0.frames, .inr ⟨rfl, rfl⟩, fun b z => absurd z (noA b), e0.bs, e0.bsz, fun b _ _ => noA b, fun b z => absurd z (noA b), e0.funs, e0.frf⟩,
    rfl, e0.bare, Un.kept hk, ⟨_, x.toInCall.ns, fun i y v h1 h2 h3 => ?_⟩, fun y c h => ?_, e0.hok.fresh (Nat.le_refl _), fun y c h => ?_, fun p hp => absurd (show p ∈ ([] : List (Addr × Obj)) from hp) (by simp), e0.hok.kept hk, ?_⟩
  · rcases clS_inv h1 with ⟨a, b⟩ | ⟨a, b⟩ <;> rcases clS_inv h2 with ⟨a', b'⟩ | ⟨a', b'⟩
    · rw [a, a']
    · exfalso
      rw [b] at b'
      have e2 : s.heap.objs.size + 1 = cc := b'
      have e3 : cc < s.heap.objs.size := hclt
      rw [← e2] at e3
      exact absurd e3 (Nat.not_lt.mpr (Nat.le_succ _))
    · exfalso
      rw [b] at b'
      have e2 : cc = s.heap.objs.size + 1 := b'
      have e3 : cc < s.heap.objs.size := hclt
      rw [e2] at e3
      exact absurd e3 (Nat.not_lt.mpr (Nat.le_succ _))
    · rw [a, a']
  · have hy : scope.names.lookup y = some .cell ∨ scope.names.lookup y = some .free := hy
    rcases hy with hy | hy
    · have ey : y = "ways" := (S.cel _ (PySem.mem_of_lookup hy)).1 rfl
      rw [ey]
      exact ⟨_, clS_ways _ _⟩
    · have ey : y = "__class__" := (S.cel _ (PySem.mem_of_lookup hy)).2 rfl
      rw [ey]
      exact ⟨_, clS_cls _ _⟩
  · have hf : y = "ways" := by
      have hf : (y == ("ways" : Str)) = true := hf
      exact beq_iff_eq.mp hf
    rcases clS_inv h with ⟨_, b⟩ | ⟨a, _⟩
    · rw [b]
      exact Nat.le_succ _
    · rw [hf] at a
      exact absurd a (by decide)
  · have hi : i < vs.length := by
      unfold L2.start at h2
      by_cases hi : i < vs.length
      · exact hi
      · rw [List.getElem?_append_right (by simpa using hi)] at h2
        rw [List.getElem?_replicate] at h2
        split at h2 <;> cases h2
    have ha : vs[i]? = some v := by
      unfold L2.start at h2
      rw [List.getElem?_append_left (by simpa using hi), List.getElem?_map] at h2
      cases e : vs[i]? with
      | none => rw [e] at h2; cases h2
      | some a => rw [e] at h2; cases h2; rfl
    obtain ⟨u, hu, rv⟩ := r.get ha
    have hp : ps[i]? = some y := by
      rw [← S.pre, List.getElem?_take_of_lt (by omega)]; exact h1
    have ndP : ps.Nodup := by rw [← S.pre]; exact S.nd.sublist (List.take_sublist _ _)
    have k := S.par y (List.mem_of_getElem? hp)
    exact ⟨u, rv, .inl ⟨k, bindL_get ndP hp hu k⟩⟩
  · rcases clS_inv h with ⟨a, b⟩ | ⟨_, b⟩
    · rw [b]
      exact ⟨_, x.cell "ways" _ rfl⟩
    · rw [b]
      exact ⟨_, _, hk _ _ hcs, rfl⟩
  · rcases clS_inv h with ⟨a, b⟩ | ⟨_, b⟩
    · rw [b]
      exact e0.hok.fresh (Nat.le_succ _)
    · rw [b]
      exact hcH
  · unfold L2.start
    show _ = N.length
    rw [List.length_append, List.length_map, List.length_replicate]
    omega
/-- THE RULE for such a method -/
theorem fn_ofS {CX : CXT} {P : Program} {w : World} {K : PySem.W.Frag} {mg : Str → Option Value} {base : Heap} {k : Nat} {f cc cda : Addr} {name qual : Str} {params : Arguments} {body : List Stmt} {scope : Scope} {dV kV doc pm ct oc : Value} {an od : Option Addr}
    {osl : Array (Option Value)} {N ps : List Str} {sp : Sp} {cl : Value} {cld : Option Addr} {cv : Option Value} {csl : Array (Option Value)} (lk : K.lookup f = some ⟨oc, od, .func (PySem.W.ksFn name qual params body scope dV kV doc pm an (.ref cda) ct cc), osl⟩) (hcd : PySem.W.codeIn K (.ref cda) qual = true) (lc : K.lookup cc = some ⟨cl, cld, .cell cv, csl⟩) (S : ScS N ps scope)
    (len : ∀ vs H Q E, sp vs H Q E → vs.length = ps.length)
    (hbody : ∀ (A : Around) (outer : List Env) (s : Shared) (H : Hp) (vs : List V) (Q : VK) (E : XK), Room k (A.deeper (PySem.W.envX qual scope s.heap.objs.size f (.ref cda) (clS s.heap.objs.size cc))) → sp vs H Q E →
      ∃ t, PSa (cxS CX P w K mg base N qual scope f (.ref cda) cc A outer s H E) body body t ∧ t { nx := fun _ H' => Q .non H', rt := Q } (L2.start N vs) H) :
    FnOk P w K mg base CX (k + 1) f (PySem.W.ksFn name qual params body scope dV kV doc pm an (.ref cda) ct cc) ps sp := by
  refine ⟨len, fun A outer s H args us vs Q E hr e0 hb r hsp => ?_⟩
  have hl := len _ _ _ _ hsp
  have KX : K.In s.heap := e0.mod.kin.keeps fun b o e => (e0.bs b o e).1
  have lim : s.heap.NoLimit := e0.mod.nolimit.keeps fun b o e => (e0.bs b o e).1
  refine codeAny_call_function hr.depth (KX _ _ lk) rfl S.co S.gen rfl (PySem.W.codeRec_of KX hcd) (hb _ _ _ _ ?_)
  refine newEnvS S.kind S.cs (fun ⟨n, v⟩ hy => S.par n (List.of_mem_zip hy).1) fun s1 x => ?_
  refine ⟨lim.keeps x.toInCall.keep, ks_codeAny_funcAt ?_⟩
  obtain ⟨t, ht, hq⟩ := hbody A outer s H vs Q E (hr.deeper _) hsp
  have I : Inv (cxS CX P w K mg base N qual scope f (.ref cda) cc A outer s H E) [] (L2.start N vs) H s1 := inv_startS S hr.hd e0 hl r lc x
  refine _root_.PySem.wpAt_mono (ht.run [] s1 (L2.start N vs) H _ I hq) (fun fl s' hs => ?_) fun e s' hs => hs
  have fin : ∀ {σ' : L2.St} {H' : Hp} {v : V} {u : Value}, Inv (cxS CX P w K mg base N qual scope f (.ref cda) cc A outer s H E) [] σ' H' s' → RelV v u → Q v H' → CE outer P w H s Q u s' :=
    fun {σ' H' v u} J rv q => ⟨v, H', J.os, J.bare, J.base, J.hok, rv, q⟩
  cases fl with
  | ret u =>
    obtain ⟨v, σ', H', J, rv, q⟩ := hs
    exact fin J rv q
  | next =>
    obtain ⟨σ', H', J, q⟩ := hs
    exact fin (v := V.non) (u := Value.none) J rfl q
  | brk =>
    obtain ⟨_, _, _, q⟩ := hs
    exact False.elim q
  | cont =>
    obtain ⟨_, _, _, q⟩ := hs
    exact False.elim q
end FF
/-! ForkPlan(tree). -/
namespace FF
open PySem PySem.Spec PyProof.Rows L2
/-- the turns of a walk, whatever is done at each -/
theorem turns_it {J : It} {n : Nat} {G : Hp → Prop} {Y : Nat → Hp → V → Hp → Prop} (w : Walk J n G Y) {B : (Hp → Prop) → V → Hp → Prop} {Qd : Hp → Prop} {H0 : Hp} (Pv : Nat → Hp → Prop) (h0 : Pv 0 H0) (hG : ∀ i H, i ≤ n → Pv i H → G H)
    (hs : ∀ i x H H', i < n → Pv i H → Y i H x H' → B (Pv (i + 1)) x H') (hd : ∀ H, Pv n H → Qd H) :
    ∃ W : Nat → Nat → Hp → Prop, (∃ m, W 0 m H0) ∧ ∀ i m H, W i m H → (J.stop i H ∧ Qd H) ∨ (J.go i H ∧ ∃ Nx : Hp → Prop, (∀ H', Nx H' → ∃ m', m' < m ∧ W (i + 1) m' H') ∧ ∀ x H', J.yld i H x H' → B Nx x H') := by
  refine ⟨fun i m H => m = n - i ∧ i ≤ n ∧ Pv i H, ⟨n, by simp, Nat.zero_le _, h0⟩, ?_⟩
  rintro i m H ⟨rfl, hi, p⟩
  have q := hG i H hi p
  by_cases hlt : i < n
  · exact .inr ⟨w.goes i H hlt q, Pv (i + 1), fun H' p' => ⟨n - (i + 1), by omega, rfl, hlt, p'⟩, fun x H' y => hs i x H H' hlt p (w.yields i H x H' hlt q y)⟩
  · have e : i = n := by omega
    subst e
    exact .inl ⟨w.stops H q, hd H p⟩
abbrev nF : List Str := ["self", "tree", "ways", "names", "cells", "writer", "level", "way"]
theorem sc_f_init : ScS nF ["self", "tree"] (defScope s_f_init) where
  kind := by decide +kernel
  co := by decide +kernel
  gen := by decide +kernel
  nd := by decide +kernel
  pre := by decide +kernel
  par := by decide +kernel
  cel := by decide +kernel
  cs := fun _ _ => rfl
abbrev PW0 : Program := PySem.Challenge.pw_forkflags_k51_whole_newest
def spFI (K : PySem.W.Frag) : Sp := fun vs H Q _ => ∃ (x dx : Addr) (v : V) (nm : List Bool → Str) (s : Sh) (sp : Prs), vs = [.ref x, v] ∧ H x = some (.ins (aF K) dx []) ∧ Dp K H v (tr nm [] s) ∧ TreeOk nm s ∧ Ok s sp ∧ (∀ p ∈ sp, nm p.2 = p.1) ∧ sp.Pairwise (fun p q => ¬ nlt q.1 p.1) ∧
  ∀ H' : Hp, Kp (fun a => a = x) H H' → PlanAt K H' x s sp → Q .non H'
theorem map_agree {sp : Prs} {nm : List Bool → Str} : (∀ p ∈ sp, nm p.2 = p.1) → (sp.map (·.2)).map nm = sp.map (·.1) := fun h => by
  rw [List.map_map]
  exact List.map_congr_left fun p hp => h p hp
theorem cl_take {sp : Prs} {i : Nat} {p : Str × List Bool} (h : sp[i]? = some p) : cl (sp.take (i + 1)) = cl (sp.take i) ++ (List.range p.2.length).map fun l => (p.1, l) := by
  rw [take_snoc h, cl_app, cl_cons]
  congr 1
  show _ ++ cl [] = _
  unfold cl
  simp
theorem cl_take_le {sp : Prs} (i : Nat) : (cl (sp.take i)).length ≤ (cl sp).length := by
  conv => rhs; rw [← List.take_append_drop i sp]
  rw [cl_app, List.length_append]
  exact Nat.le_add_right _ _
theorem noL_cl (c : Str × Nat) : noL (clD c) = true := by simp [clD, noL, noLs]
section
variable {w : World} {K : PySem.W.Frag} {mg : Str → Option Value} {base : Heap}
theorem sup_ok (T : Fx K mg) {CX : CXT} {f cc cda : Addr} {oc ccl cl : Value} {od cdd cld : Option Addr} {osl ccs csl : Array (Option Value)} {kV doc pm ct : Value} {an : Option Addr} {vs : Array Value} {file : Str} {tf : Tok} {A : Around} {outer : List Env} {s : Shared} {H : Hp} {E : XK}
    (lk : K.lookup f = some ⟨oc, od, .func (PySem.W.ksFn "__init__" "ForkPlan.__init__" (defArgs s_f_init) (defBody s_f_init) (defScope s_f_init) .none kV doc pm an (.ref cda) ct cc), osl⟩) (lcd : K.lookup cda = some ⟨ccl, cdd, .fields vs, ccs⟩) (hv : vs[2]? = some (.str file tf)) (hf : (((PW0.main.file : Str)) == file) = true)
    (lc : K.lookup cc = some ⟨cl, cld, .cell (some (.ref (aF K))), csl⟩) : Sup (cxS CX PW0 w K mg base nF "ForkPlan.__init__" (defScope s_f_init) f (.ref cda) cc A outer s H E) (aF K) (aF K) (He.fAd K ("Plan", some "__init__")) "__init__" where
  ks := by rfl
  kc := by rfl
  ex := ⟨f, cc, cda, oc, ccl, cl, od, cdd, cld, _, osl, ccs, csl, _, vs, file, tf, rfl, lk, rfl, rfl, rfl, lcd, hv, hf, lc, clS_cls _ _⟩
  self := by rfl
  top := show (PW0.main.scope.names.lookup ("super" : Str)).isSome = false by decide +kernel
  mg := T.z_super
  cls := T.init.cls
  clsC := T.init.cls
  sub := T.init.sub
  opq := T.init.opq
  sup := T.init.sup
  fty := T.init.fty
  fin := by
    obtain ⟨fd, F⟩ := T.d_p_init
    obtain ⟨oc, od, dV, kV, doc, pm, an, cdv, ct, osl, rfl, lk, _⟩ := F.ex
    unfold PySem.W.fnIn
    rw [show (cxS CX PW0 w K mg base nF "ForkPlan.__init__" (defScope s_f_init) f (.ref cda) cc A outer s H E).K = K from rfl, lk]
theorem c_plan (T : Fx K mg) : C8.Mak PW0 w K mg base 15 "ForkPlan" (aF K) (spFI K) [] := by
  have cW : C8.Cal PW0 w K mg base 4 "ways_of" (spWays K) [] := c_ways T
  have cB : C8.Cal PW0 w K mg base 5 "flags_by_fork" (spFbf K) [] := c_fbf T
  have cO : C8.Cal PW0 w K mg base 14 "format_tree" (spFormat K) [] := c_format T
  obtain ⟨oc, od, kV, doc, pm, an, cda, ct, osl, cc, lk, hcd, ⟨ccl, cdd, avs, ccs, file, tf, lcd, hv, hf⟩, cl', cld, csl, lc⟩ := T.init.ex
  refine ⟨aInit K, _, ["self", "tree"], [], T.mkF, fn_ofS (k := 14) lk hcd lc sc_f_init (fun vs H Q E h => ?_) (fun A outer s H vs Q E hr h => ?_), T.g_ForkPlan, .all fun us hl => ?_, .nil⟩
  · obtain ⟨_, _, _, _, _, _, rfl, _⟩ := h
    rfl
  · obtain ⟨x, dx, v, nm, sh, sp, rfl, hx, hD, hT, hO, hnm, hup, k⟩ := h
    have nd := sc_f_init.nd
    have S := sup_ok (w := w) (base := base) (CX := C8.CX0) T (A := A) (outer := outer) (s := s) (H := H) (E := E) lk lcd hv hf lc
    have FP : FnR PW0 w K mg base C8.CX0 1 (He.fAd K ("Plan", some "__init__")) (spPI K) := f_pi T
    have hfew := hO.fl_few
    refine ⟨_, psa_cons (ps_set (i := 2) nd rfl (Or.inr rfl) (C8.pe_c cW hr (by decide) (by rfl) (pa_cons (pv 1) pa_nil)))
      (psa_cons (ps_set (i := 3) nd rfl (Or.inl rfl) (pe_callB (sortKN rfl) (by rfl) T.z_sorted (by decide +kernel) (pa_cons (pv 2) pa_nil)))
      (psa_cons (ps_setLc2 (i := 4) (own := [("writer", 5), ("level", 6)]) (vs1 := [6]) (g := gName 5) (g1 := gName 6) (tt := tYes) (tt1 := tYes) rfl nd rfl (by rfl) (sw_true rfl (by rfl) (by rfl) (by rfl)) (pi_list (pv 3))
        (blkOk_by (own := [("writer", 5), ("level", 6)]) (N := nF) (sc := defScope s_f_init) (by decide +kernel)) (by decide) (fun _ _ _ _ _ => pg_name (i := 5) nd rfl (Or.inl rfl)) (fun _ _ _ _ _ => pts_nil)
        (fun _ _ _ _ _ => pi_range1 rfl T.z_range (pa_cons (pe_callB call_len_str (by rfl) T.z_len PySem.boot_len (pa_cons (pe_dget (hu_of hr) (pv 2) (pv 5) (fun _ _ => rfl)) pa_nil)) pa_nil))
        (fun _ _ _ _ _ => pg_name (i := 6) nd rfl (Or.inl rfl)) (fun _ _ _ _ _ => pts_nil) (fun _ _ _ _ _ => tupN (pa_cons (pv 5) (pa_cons (pv 6) pa_nil))))
      (psa_super (f2 := He.fAd K ("Plan", some "__init__")) (C := aF K) (D := aF K) S FP (hr.mono (by decide)) C8.pass0 rfl (pa_cons (pv 3) (pa_cons (pv 4) (pa_cons (pe_op repN (lstN (pa_cons pe_int pa_nil)) (pe_callB call_len_seq (by rfl) T.z_len PySem.boot_len (pa_cons (pv 4) pa_nil))) pa_nil)))
      (pss_cons (ps_fld (pv 0) (pv 1) (by rfl))
      (pss_cons (ps_fld (pv 0) (pv 2) (by rfl))
      (pss_cons (ps_fld (pv 0) (C8.pe_c cB hr (by decide) (by rfl) (pa_cons (pv 1) (pa_cons (pv 2) (pa_cons (pv 4) pa_nil)))) (by rfl))
      (pss_cons (ps_fld (pv 0) (pe_lock (pe_dc (own := [("writer", 5), ("way", 7)]) (g := gTup K 2 (gCons (gName 5) (gCons (gName 7) gNil))) (tt := tYes) rfl nd (pi_items (pv 2))
        (blkOk_by (own := [("writer", 5), ("way", 7)]) (N := nF) (sc := defScope s_f_init) (by decide +kernel)) (fun _ _ _ _ _ => pg_tup (by rfl) (pgs_cons (pg_name (i := 5) nd rfl (Or.inl rfl)) (pgs_cons (pg_name (i := 7) nd rfl (Or.inl rfl)) pgs_nil))) (fun _ _ _ _ _ => pts_nil)
        (fun _ _ _ _ _ => pv 7) (fun _ _ _ _ _ => pv 5))) (by rfl))
      (pss_one (ps_fld (pv 0) (C8.pe_c cO hr (by decide) (by rfl) (pa_cons (pv 1) pa_nil)) (by rfl)))))))))), ?_⟩
    -- ways
    refine ⟨_, rfl, v, nm, sh, rfl, hD, hT, fun wa H1 s1 n1 e1 => ?_⟩
    have wnm : (sp.map (·.1)).Perm ((sh.ways []).map nm) := by
      rw [← map_agree hnm]
      exact hO.per.map nm
    -- names
    refine ⟨_, rfl, wa, _, (sh.ways []).map nm, rfl, e1, by rw [List.map_map, List.map_map]; rfl, ?_, fun ys yp ysrt na H2 n2 s2 e2 => ?_⟩
    · rw [List.length_map]
      have := hT.few
      omega
    have eys : ys = sp.map (·.1) := sort_eq id (yp.trans wnm.symm) (by rw [List.map_id]; exact (yp.nodup_iff).mpr hT.nod) (sorted_pw ysrt) (List.pairwise_map.mpr hup)
    subst eys
    have w2 := s2 _ _ e1
    -- cells
    refine ⟨_, rfl, na, rfl, ⟨_, SqL.of e2⟩, fun D hDn => ?_⟩
    have WA : WaysAt H2 wa sp := ⟨_, w2, fun p hp => by
      have := valV_some_map (g := nm) (v := fun w => V.str (wS w)) (p := p.2) hT.nod (hO.way_mem hp)
      rw [hnm p hp] at this
      exact this⟩
    have cl132 : (cl sp).length ≤ 132 := by rw [← fl_len]; exact hfew
    refine turns_it (walk_list (K := K) (a := na) (xs := (sp.map (·.1)).map V.str)) (fun i H' => ∃ us : List V, H' D = some (.lst us) ∧ us.length = (cl (sp.take i)).length ∧ DpAll K H' us ((cl (sp.take i)).map clD) ∧ Same H2 H') ⟨[], upd_same, rfl, by simp [cl]; exact .nil, same_new hDn⟩ (fun i H' _ ⟨_, _, _, _, h⟩ => h.seq (SqL.of e2)) ?_ ?_
    · rintro i xv H3 H3' hi ⟨us, u1, u2, u3, u4⟩ ⟨rfl, hxv⟩
      rw [List.getElem?_map, List.getElem?_map] at hxv
      cases hp : sp[i]? with
      | none =>
        rw [hp] at hxv
        cases hxv
      | some p =>
        rw [hp] at hxv
        have exv : V.str p.1 = xv := Option.some.inj hxv
        subst exv
        have hpm := List.mem_of_getElem? hp
        obtain ⟨kvs, q1, q2⟩ := WA.same u4
        have hdp := hO.depth hpm
        refine ⟨rfl, tyes ?_⟩
        refine ⟨_, rfl, _, rfl, wa, _, rfl, dget_s q1 (q2 p hpm), _, rfl, wS_fit (by omega), _, rfl, by rw [wS_len]; omega, by rw [wS_len]; omega, ?_⟩
        rw [wS_len, Int.toNat_natCast]
        refine turns_it walk_range (fun j H' => ∃ us : List V, H' D = some (.lst us) ∧ us.length = (cl (sp.take i)).length + j ∧ DpAll K H' us ((cl (sp.take i) ++ (List.range j).map fun l => (p.1, l)).map clD) ∧ Same H2 H') ⟨us, u1, u2, by rw [List.range_zero, List.map_nil, List.append_nil]; exact u3, u4⟩ (fun _ _ _ _ => trivial) ?_ ?_
        · rintro j yv H4 H4' hj ⟨us, t1, t2, t3, t4⟩ ⟨rfl, rfl⟩
          refine ⟨rfl, tyes ?_⟩
          refine ⟨_, rfl, _, rfl, (by show 2 ≤ sizeLine; decide), fun q H5 n5 s5 e5 => ?_⟩
          have t1' := s5 _ _ t1
          have hle : (cl (sp.take i)).length + (j + 1) ≤ (cl sp).length := by
            have h1 := cl_take_le (sp := sp) (i + 1)
            rw [cl_take hp, List.length_append, List.length_map, List.length_range] at h1
            omega
          refine ⟨us, t1', by rw [t2, sizeLine_eq]; omega, us ++ [.ref q], upd_same, by rw [List.length_append, t2]; rfl, ?_, fun b o e => ?_⟩
          · refine DpAll.kpT kp_put (lst_noT t1') (noLs_map _ noL_cl _) ?_
            have er : cl (sp.take i) ++ (List.range (j + 1)).map (fun l => (p.1, l)) = (cl (sp.take i) ++ (List.range j).map fun l => (p.1, l)) ++ [(p.1, j)] := by
              rw [List.range_succ, List.map_append, List.append_assoc]
              rfl
            rw [er, List.map_append]
            refine (t3.same s5).append (DpAll.one ?_)
            have e5' : H5 q = some (.tup [.str p.1, .int (j : Nat)]) := by
              rw [e5]
              simp
            exact Dp.pair e5' (.str _) (.int _)
          · rw [upd_ne (ne_of_none e hDn)]
            exact (t4.trans s5) _ _ e
        · rintro H4 ⟨us, t1, t2, t3, t4⟩
          refine ⟨us, t1, ?_, ?_, t4⟩
          · rw [t2, cl_take hp, List.length_append, List.length_map, List.length_range]
          · rw [cl_take hp]
            exact t3
    rintro H3 ⟨us, u1, u2, u3, u4⟩
    have hfull : sp.take ((sp.map (·.1)).map V.str).length = sp := List.take_of_length_le (by simp)
    rw [hfull] at u2 u3
    have s03 := (s1.trans s2).trans u4
    have x3 := s03 _ _ hx
    -- super().__init__
    refine ⟨x, dx, [], rfl, x3, ?_⟩
    refine ⟨_, rfl, _, rfl, (by show 1 ≤ sizeLine; decide), fun la H4 n4 s4 e4 => ?_⟩
    refine ⟨_, rfl, D, _, rfl, .inl (SqL.of (s4 _ _ u1)), ?_⟩
    refine ⟨la, _, _, rfl, rfl, e4, by omega, by omega, fun za H5 n5 s5 e5 => ?_⟩
    have s35 := s4.trans s5
    have x5 := s35 _ _ x3
    refine ⟨x, dx, na, D, za, _, _, _, rfl, x5, SqL.of (s35 _ _ (u4 _ _ e2)), SqL.of (s35 _ _ u1), SqL.of e5, fun n' c' z' H6 k6 e6x e6n e6c e6z => ?_⟩
    have s05 := s03.trans s35
    have k06 : Kp (fun a => a = x) H H6 := (Kp.same s05).trans k6
    have D6 : Dp K H6 v (tr nm [] sh) := Dp.kpI k06 hx hD
    have C6 : DpAll K H6 us ((cl sp).map clD) := DpAll.kpI k6 x5 (u3.same s35)
    have W6 : WaysAt H6 wa sp := WaysAt.kpI k6 x5 ((WA.same u4).same s35)
    have w6 : H6 wa = some (.dK _) := kpI k6 x5 (s35 _ _ (u4 _ _ w2)) fun _ _ _ z => nomatch z
    have D6l : H6 D = some (.lst us) := kpI k6 x5 (s35 _ _ u1) fun _ _ _ z => nomatch z
    -- tree
    refine ⟨_, rfl, _, rfl, x, _, dx, _, rfl, e6x, T.cF, T.nF_tree, (by show 3 < 1000; decide), ?_⟩
    refine put fun H7 k7 e7 => ?_
    have e7' : H7 x = some (.ins (aF K) dx [("names", .ref n'), ("cells", .ref c'), ("sizes", .ref z'), ("tree", v)]) := by
      rw [e7]
      rfl
    -- ways
    refine ⟨_, rfl, _, rfl, x, _, dx, _, rfl, e7', T.cF, T.nF_ways, (by show 4 < 1000; decide), ?_⟩
    refine put fun H8 k8 e8 => ?_
    have e8' : H8 x = some (.ins (aF K) dx [("names", .ref n'), ("cells", .ref c'), ("sizes", .ref z'), ("tree", v), ("ways", .ref wa)]) := by
      rw [e8]
      rfl
    have k68 := k7.trans k8
    -- flags
    refine ⟨_, rfl, _, rfl, _, rfl, v, wa, D, nm, sh, sp, rfl, Dp.kpI k68 e6x D6, hT, hO, WaysAt.kpI k68 e6x W6, .lst (SqL.of (kpI k68 e6x D6l fun _ _ _ z => nomatch z)) (DpAll.kpI k68 e6x C6), fun fa H9 s9 F9 => ?_⟩
    have x9 := s9 _ _ e8'
    refine ⟨_, rfl, x, _, dx, _, rfl, x9, T.cF, T.nF_flags, (by show 5 < 1000; decide), ?_⟩
    refine put fun Ha ka ea => ?_
    have ea' : Ha x = some (.ins (aF K) dx [("names", .ref n'), ("cells", .ref c'), ("sizes", .ref z'), ("tree", v), ("ways", .ref wa), ("_flags", .ref fa)]) := by
      rw [ea]
      rfl
    have k6a : Kp (fun a => a = x) H6 Ha := (k68.trans (Kp.same s9)).trans ka
    have wA : Ha wa = some (.dK _) := kpI k6a e6x w6 fun _ _ _ z => nomatch z
    -- leaves
    refine ⟨wa, _, wA, trivial, fun od => ?_⟩
    refine ⟨_, rfl, wa, _, _, rfl, upd_same, fun L hL => ?_⟩
    have hLw : L ≠ wa := fun z => by
      rw [z, upd_same] at hL
      cases hL
    have nL : Ha L = none := by
      rw [upd_ne hLw] at hL
      exact hL
    have w12 := hT.few
    refine turns_it walk_items (fun i H' => H' L = some (.dK (((sh.ways []).take i).map fun w => ((Sum.inr (wS w) : Key), V.str (nm w)))) ∧ Same (upd Ha wa _) H') ⟨upd_same, same_new hL⟩ (fun i H' _ h => h.2 _ _ upd_same) ?_ ?_
    · rintro i xv Hb Hb' hi ⟨b1, b2⟩ ⟨t, x1, x2, rfl, nt, rfl, hx1, hx2⟩
      have hx1 : ((List.map (fun w => ((Sum.inr (nm w) : Key), V.str (wS w))) (sh.ways []))[i]?).map (fun kv => L2.kV kv.1) = some x1 := hx1
      have hx2 : ((List.map (fun w => ((Sum.inr (nm w) : Key), V.str (wS w))) (sh.ways []))[i]?).map Prod.snd = some x2 := hx2
      rw [List.getElem?_map] at hx1 hx2
      cases hp : (sh.ways [])[i]? with
      | none =>
        rw [hp] at hx1
        cases hx1
      | some wd =>
        rw [hp] at hx1 hx2
        have q1 : V.str (nm wd) = x1 := Option.some.inj hx1
        have q2 : V.str (wS wd) = x2 := Option.some.inj hx2
        subst q1
        subst q2
        have sU : Same Hb (upd Hb t (.tup [V.str (nm wd), V.str (wS wd)])) := same_new nt
        generalize hHU : upd Hb t (.tup [V.str (nm wd), V.str (wS wd)]) = HU at sU
        have eU : HU t = some (.tup [V.str (nm wd), V.str (wS wd)]) := by rw [← hHU]; exact upd_same
        refine ⟨t, _, rfl, SqT.of eU, rfl, _, _, rfl, _, _, rfl, rfl, rfl, tyes ?_⟩
        have hno : ∀ q ∈ (sh.ways []).take i, wS q ≠ wS wd := fun q hq z => by
          have hq2 := wS_inj z
          subst hq2
          obtain ⟨j, hj, ej⟩ := List.mem_iff_getElem.mp hq
          rw [List.getElem_take] at ej
          have h2 := List.getElem?_eq_some_iff.mp hp
          have h3 := (List.getElem_inj (Sh.ways_nodup sh [])).mp (ej.trans h2.2.symm)
          rw [List.length_take] at hj
          omega
        have hvn := valV_none_map (g := wS) (v := fun w => V.str (nm w)) hno
        refine ⟨_, rfl, _, rfl, _, .inr (wS wd), rfl, sU _ _ b1, ?_, ?_, fun b o e => ?_⟩
        · rw [List.length_map, List.length_take, sizeLine_eq]
          omega
        · rw [upd_same, putK_new _ hvn, take_snoc hp, List.map_append]
          rfl
        · rw [upd_ne (ne_of_none e hL)]
          exact (b2.trans sU) _ _ e
    rintro Hb ⟨b1, b2⟩
    refine ⟨b2 _ _ upd_same, ?_⟩
    obtain ⟨Hc, eHc⟩ : ∃ Hc, upd Hb wa (.dK ((sh.ways []).map fun w => ((Sum.inr (nm w) : Key), V.str (wS w)))) = Hc := ⟨_, rfl⟩
    have sc : Same Ha Hc := fun b o e => by
      rw [← eHc]
      by_cases hb : b = wa
      · rw [hb, upd_same]
        rw [hb, wA] at e
        exact e
      · rw [upd_ne hb]
        refine b2 _ _ ?_
        rw [upd_ne hb]
        exact e
    have Lc : LeavesAt Hc L sp := by
      refine ⟨(sh.ways []).map fun w => ((Sum.inr (wS w) : Key), V.str (nm w)), ?_, fun p hp => ?_⟩
      · rw [← eHc, upd_ne hLw, b1, List.take_of_length_le (by simp)]
      · have := valV_some_map (g := wS) (v := fun w => V.str (nm w)) (L := sh.ways []) (p := p.2) (List.pairwise_map.mpr ((Sh.ways_nodup sh []).imp fun h z => h (wS_inj z))) (hO.way_mem hp)
        rw [this, hnm p hp]
    rw [eHc]
    refine ⟨_, rfl, x, _, dx, _, rfl, sc _ _ ea', T.cF, T.nF_leaves, (by show 6 < 1000; decide), ?_⟩
    refine put fun Hd kd ed => ?_
    have ed' : Hd x = some (.ins (aF K) dx [("names", .ref n'), ("cells", .ref c'), ("sizes", .ref z'), ("tree", v), ("ways", .ref wa), ("_flags", .ref fa), ("_leaves", .ref L)]) := by
      rw [ed]
      rfl
    have k6d : Kp (fun a => a = x) H6 Hd := (k6a.trans (Kp.same sc)).trans kd
    -- written
    refine ⟨_, rfl, v, nm, sh, rfl, Dp.kpI k6d e6x D6, hT, fun z He se => ?_⟩
    have xe := se _ _ ed'
    refine ⟨_, rfl, x, _, dx, _, rfl, xe, T.cF, T.nF_written, (by show 7 < 1000; decide), ?_⟩
    refine put fun Hf kf ef => ?_
    have k6f : Kp (fun a => a = x) H6 Hf := (k6d.trans (Kp.same se)).trans kf
    refine k Hf (k06.trans k6f) ⟨dx, n', c', z', wa, fa, L, v, .str z, ?_, ?_, ?_, ?_, ?_, ?_, ?_, hO⟩
    · rw [ef]
      rfl
    · exact SqL.of (kpI k6f e6x e6n fun _ _ _ z => nomatch z)
    · exact .lst (SqL.of (kpI k6f e6x e6c fun _ _ _ z => nomatch z)) (DpAll.kpI k6f e6x C6)
    · have := kpI k6f e6x e6z fun _ _ _ z => nomatch z
      rw [Int.toNat_natCast, u2] at this
      exact SqL.of this
    · exact WaysAt.kpI k6f e6x W6
    · exact FlagsAt.kpI (((ka.trans (Kp.same sc)).trans (kd.trans (Kp.same se))).trans kf) x9 F9
    · exact LeavesAt.kpI ((kd.trans (Kp.same se)).trans kf) (sc _ _ ea') Lc
  · match us, hl with
    | [_, _], _ => rfl
end
end FF
/-! The store. -/
namespace FF
open PySem PySem.Spec PyProof.Rows L2
theorem putK_len {kvs : List (Key × V)} {k : Key} {v u : V} (h : valV kvs k = some u) : (putK kvs k v).length = kvs.length := by
  unfold putK
  rw [valV_any, h]
  show (if true = true then _ else _ : List (Key × V)).length = _
  rw [if_pos rfl, List.length_map]
section
variable {K : PySem.W.Frag} {H H' F : Hp} {S : Addr → Prop} {a x d : Addr}
theorem SqT.kpG {xs : List V} (k : Kp S H H') (hS : ∀ a, S a → ∀ ys, ¬ Rd H a (.tup ys)) (h : SqT K H a xs) : SqT K H' a xs := by
  rcases h with (h | ⟨o, h⟩) | h
  · exact .inl (.inl (k _ _ (fun z => hS _ z _ (.inl h)) h))
  · exact .inl (.inr ⟨o, k _ _ (fun z => hS _ z _ (.inr ⟨o, h⟩)) h⟩)
  · exact .inr h
theorem SlV.kpG {v : V} {s : Slot} (k : Kp S H H') (hS : ∀ a, S a → ∀ ys, ¬ Rd H a (.tup ys)) (h : SlV K H v s) : SlV K H' v s := let ⟨t, e, q⟩ := h; ⟨t, e, SqT.kpG k hS q⟩
theorem ins_noT {C dx : Addr} {fs : List (Str × V)} (h : H x = some (.ins C dx fs)) : ∀ ys, ¬ Rd H x (.tup ys) := fun ys r => by
  rcases r with r | ⟨o, r⟩ <;> (rw [h] at r; cases r)
theorem fresh_noT (h : H x = none) : ∀ ys, ¬ Rd H x (.tup ys) := fun ys r => by
  rcases r with r | ⟨o, r⟩ <;> (rw [h] at r; cases r)
end
/-- the fields of a store -/
def stF (pl st d : Addr) : List (Str × V) := [("plan", .ref pl), ("state", .ref st), ("_slots", .ref d)]
/-- a store at x (its slots at d) of the plan at pl, over the frozen heap F -/
structure StoreAt (K : PySem.W.Frag) (F H : Hp) (x d pl : Addr) (s : Sh) (sp : Prs) (ms : List Int) (sl : Str → Slot) : Prop where
  sm : Same F H
  plan : PlanAt K F pl s sp
  fx : F x = none
  fd : F d = none
  ne : x ≠ d
  m01 : M01 ms (fl sp).length
  sok : ∀ n, (sl n).ok
  at_ : ∃ (dx st : Addr) (kvs : List (Key × V)), H x = some (.ins (aS K) dx (stF pl st d)) ∧ StAt K H st ms ∧ H d = some (.dK kvs) ∧ kvs.length ≤ 100 ∧ ∀ n ∈ sp.map (·.1), ∃ v, valV kvs (.inr n) = some v ∧ SlV K H v (sl n)
section
variable {K : PySem.W.Frag} {F H H' : Hp} {x d pl : Addr} {s : Sh} {sp : Prs} {ms : List Int} {sl : Str → Slot}
theorem StoreAt.same (h : StoreAt K F H x d pl s sp ms sl) (k : Same H H') : StoreAt K F H' x d pl s sp ms sl := by
  obtain ⟨dx, st, kvs, h1, h2, h3, h4, h5⟩ := h.at_
  exact { h with sm := h.sm.trans k, at_ := ⟨dx, st, kvs, k _ _ h1, h2.same k, k _ _ h3, h4, fun n hn => let ⟨v, a, b⟩ := h5 n hn; ⟨v, a, b.same k⟩⟩ }
theorem StoreAt.kp {S : Addr → Prop} (h : StoreAt K F H x d pl s sp ms sl) (k : Kp S H H') (hF : ∀ a, S a → F a = none) (hx : ¬ S x) (hd : ¬ S d) (hT : ∀ a, S a → ∀ ys, ¬ Rd H a (.tup ys)) : StoreAt K F H' x d pl s sp ms sl := by
  obtain ⟨dx, st, kvs, h1, h2, h3, h4, h5⟩ := h.at_
  exact { h with sm := L2.Same.kp h.sm k fun a o e z => (by rw [hF a z] at e; cases e), at_ := ⟨dx, st, kvs, k _ _ hx h1, SqT.kpG k hT h2, k _ _ hd h3, h4, fun n hn => let ⟨v, a, b⟩ := h5 n hn; ⟨v, a, b.kpG k hT⟩⟩ }
end
def sl0 : Str → Slot := fun _ => ⟨0, "", ""⟩
def spSI (K : PySem.W.Frag) : Sp := fun vs H Q _ => ∃ (F : Hp) (x dx pl : Addr) (sv : V) (s : Sh) (sp : Prs) (ms : List Int), vs = [.ref x, .ref pl, sv] ∧ H x = some (.ins (aS K) dx []) ∧ Same F H ∧ PlanAt K F pl s sp ∧ F x = none ∧ M01 ms (fl sp).length ∧
  ((sv = .non ∧ ms = List.replicate (fl sp).length 0) ∨ ∃ st, sv = .ref st ∧ StAt K H st ms) ∧ ∀ (d : Addr) (H' : Hp), H d = none → Kp (fun a => a = x) H H' → StoreAt K F H' x d pl s sp ms sl0 → Q .non H'
def spRec (K : PySem.W.Frag) : Sp := fun vs H Q _ => ∃ (F : Hp) (x d pl : Addr) (s : Sh) (sp : Prs) (ms : List Int) (sl : Str → Slot) (who : Str), vs = [.ref x, .str who] ∧ StoreAt K F H x d pl s sp ms sl ∧ who ∈ sp.map (·.1) ∧ Q (.str (sl who).good) H
def spSC (K : PySem.W.Frag) : Sp := fun vs H Q _ => ∃ (F : Hp) (x d pl : Addr) (s : Sh) (sp : Prs) (ms : List Int) (sl : Str → Slot) (who : Str) (w : List Bool) (t : Str), vs = [.ref x, .str who, .str t] ∧ StoreAt K F H x d pl s sp ms sl ∧ (who, w) ∈ sp ∧ IsTx t ∧
  ∀ H' : Hp, Same H H' → Q (.int ((t.length : Int) + 2 + ((tix sp ms who w).length : Nat))) H'
def spNw (K : PySem.W.Frag) : Sp := fun vs H Q _ => ∃ (F : Hp) (x d pl : Addr) (s : Sh) (sp : Prs) (ms : List Int) (sl : Str → Slot), vs = [.ref x] ∧ StoreAt K F H x d pl s sp ms sl ∧
  ∀ (n : Str) (t : Addr) (H' : Hp), Same H H' → (n, told s sp ms) ∈ sp → H' t = some (.tup [.str n, .str (sl n).good]) → Q (.ref t) H'
/-- the slots behind a write -/
def slAfter (sl : Str → Slot) (who t : Str) (m : Int) : Str → Slot := fun n => if n = who then (sl who).after t m else sl n
def spWr (K : PySem.W.Frag) : Sp := fun vs H Q _ => ∃ (F : Hp) (x d pl : Addr) (s : Sh) (sp : Prs) (ms : List Int) (sl : Str → Slot) (who : Str) (w : List Bool) (t : Str) (sv : V) (m : Int), vs = [.ref x, .str who, .str t, sv] ∧ StoreAt K F H x d pl s sp ms sl ∧ (who, w) ∈ sp ∧ IsTx t ∧
  0 ≤ m ∧ m ≤ (t.length : Int) + 2 + ((tix sp ms who w).length : Nat) ∧ (sv = .int m ∨ (sv = .non ∧ m = (t.length : Int) + 2 + ((tix sp ms who w).length : Nat))) ∧
  ∀ H' : Hp, Kp (fun a => a = x ∨ a = d) H H' → StoreAt K F H' x d pl s sp (turned ms ((tix sp ms who w).take (m - ((t.length : Int) + 2)).toNat)) (slAfter sl who t m) → Q (.int m) H'
section
variable {P : Program} {w : World} {K : PySem.W.Frag} {mg : Str → Option Value} {base : Heap}
theorem f_si (T : Fx K mg) {fd : FuncData} (F : FunD K "__init__" "Store.__init__" (defArgs s_s_init) (defBody s_s_init) (defScope s_s_init) [V.non] [] (He.fAd K ("Store", some "__init__")) fd) :
    FnOk P w K mg base C8.CX0 3 (He.fAd K ("Store", some "__init__")) fd ["self", "plan", "state"] (spSI K) := by
  have cS : C8.Met P w K mg base 2 (aF K) "check_state" (spCS K) [] := c_cs T
  have cP : C8.Met P w K mg base 1 (aF K) "start" (spStartP K) [] := c_startP T
  refine F.ok sc_s_init (fun vs H Q E h => ?_) (fun cdv A outer s H vs Q E hr h => ?_)
  · obtain ⟨_, _, _, _, _, _, _, _, rfl, _⟩ := h
    rfl
  · obtain ⟨F0, x, dx, pl, sv, sh, sp, ms, rfl, hx, sF, hP, fx, h01, hsv, k⟩ := h
    obtain ⟨pdx, na, ca, za, wa, fa, la, vt, vw, p⟩ := id hP
    have nd := sc_s_init.nd
    have hO := p.ok
    suffices hh : ∃ t, PSs (cxOf C8.CX0 P _ K mg base _ _ (defScope s_s_init) _ cdv A outer s H E).nox (defBody s_s_init) t ∧ t { nx := fun _ H' => Q .non H', rt := Q } (L2.start ["self", "plan", "state", "present", "writer"] [.ref x, .ref pl, sv]) H by
      obtain ⟨t, a, b⟩ := hh
      exact ⟨t, a.nox, b⟩
    refine ⟨_, C8.pss_cut (ps_if (pt_cmpR op_isN (pv 2) pe_non (nomark _)) (pss_one (ps_set (i := 3) nd rfl (Or.inl rfl) (C8.pe_mt0 cP hr (by decide) (pv 1)))) (pss_one (ps_set (i := 3) nd rfl (Or.inl rfl) (pv 2))))
      (pss_cons (ps_expr (C8.pe_mt cS hr (by decide) (pv 1) (pa_cons (pv 3) pa_nil)))
      (pss_cons (ps_fld (pv 0) (pv 1) (by rfl))
      (pss_cons (ps_fld (pv 0) (pv 3) (by rfl))
      (pss_cons (ps_fld (pv 0) dicN (by rfl))
      (pss_one (ps_for PassesOwn.never rfl (pi_list (pe_fld (pv 1) rfl)) (pg_name (i := 4) nd rfl (Or.inl rfl)) (pss_one (ps_dput (hu_of hr) (pe_fld (pv 0) rfl) (pv 4) (pe_glob (v := .ref (He.ga K "EMPTY_SLOTS")) rfl T.g_EMPTY_SLOTS rfl) rfl)))))))), ?_⟩
    refine ⟨fun σ H' => ∃ st, σ = [some (.ref x), some (.ref pl), some sv, some (.ref st), none] ∧ Same H H' ∧ StAt K H' st ms, ?_, ?_⟩
    · refine ⟨_, rfl, rfl, _, rfl, ?_⟩
      rcases hsv with ⟨rfl, rfl⟩ | ⟨st, rfl, hst⟩
      · refine iteT ?_
        refine ⟨_, rfl, pl, pdx, _, rfl, sF _ _ p.ins, rfl, pl, sh, sp, rfl, hP.same sF, fun st H1 s1 h1 => ?_⟩
        exact ⟨st, rfl, s1, h1⟩
      · refine iteF ?_
        exact ⟨_, rfl, st, rfl, Same.refl _, hst⟩
    · rintro σ H1 ⟨st, rfl, s1, hst⟩
      have sF1 := sF.trans s1
      refine ⟨_, rfl, pl, pdx, _, rfl, sF1 _ _ p.ins, rfl, _, rfl, pl, st, sh, sp, ms, rfl, hP.same sF1, hst, h01, fun H2 s2 => ?_⟩
      have x2 := s2 _ _ (s1 _ _ hx)
      have hst2 := hst.same s2
      refine ⟨_, rfl, _, rfl, x, _, dx, _, rfl, x2, T.cS, T.nS_plan, (by show 0 < 1000; decide), ?_⟩
      refine put fun H3 k3 e3 => ?_
      have e3' : H3 x = some (.ins (aS K) dx [("plan", .ref pl)]) := e3
      refine ⟨_, rfl, _, rfl, x, _, dx, _, rfl, e3', T.cS, T.nS_state, (by show 1 < 1000; decide), ?_⟩
      refine put fun H4 k4 e4 => ?_
      have e4' : H4 x = some (.ins (aS K) dx [("plan", .ref pl), ("state", .ref st)]) := by
        rw [e4]
        rfl
      intro d H5 n5 s5 e5
      have x5 := s5 _ _ e4'
      have nd4 : d ≠ x := fun z => by
        rw [z, e4'] at n5
        cases n5
      refine ⟨_, rfl, x, _, dx, _, rfl, x5, T.cS, T.nS_slots, (by show 2 < 1000; decide), ?_⟩
      refine put fun H6 k6 e6 => ?_
      have e6' : H6 x = some (.ins (aS K) dx (stF pl st d)) := by
        rw [e6]
        rfl
      have k06 : Kp (fun a => a = x) H H6 := (((Kp.same (s1.trans s2)).trans k3).trans k4).trans ((Kp.same s5).trans k6)
      have nd0 : H d = none := by
        have h4 : H4 d = none := n5
        cases q : H d with
        | none => rfl
        | some o =>
          have := ((((Kp.same (s1.trans s2)).trans k3).trans k4) : Kp (fun a => a = x) H H4) _ _ nd4 q
          rw [h4] at this
          cases this
      have sF6 : Same F0 H6 := L2.Same.kp1 sF k06 fx
      have fd0 : F0 d = none := sF.free nd0
      have d6 : H6 d = some (.dK []) := k6 _ _ nd4 e5
      have hst6 : StAt K H6 st ms := SqT.kpI k6 x5 (Same.seqT s5 (SqT.kpI k4 e3' (SqT.kpI k3 x2 hst2)))
      refine ⟨_, rfl, pl, _, pdx, _, _, rfl, sF6 _ _ p.ins, T.cF, T.nF_names, rfl, na, rfl, ⟨_, sF6.seq p.nms⟩, for_list (K := K) (a := na) (xs := (sp.map (·.1)).map V.str) (fun i σ H' => ∃ y4 : Option V, σ = [some (.ref x), some (.ref pl), some sv, some (.ref st), y4] ∧ H' d = some (.dK (((sp.map (·.1)).take i).map fun n => ((Sum.inr n : Key), V.ref (He.ga K "EMPTY_SLOTS")))) ∧ Kp (fun a => a = d) H6 H')
        ⟨none, rfl, d6, Kp.refl⟩ (fun i σ H' _ ⟨_, _, _, k'⟩ => (L2.Same.kp1 sF6 k' fd0).seq p.nms) ?_ ?_⟩
      · rintro i xv σ H7 hxv ⟨y4, rfl, e7, k7⟩
        rw [List.getElem?_map] at hxv
        cases hn : (sp.map (·.1))[i]? with
        | none =>
          rw [hn] at hxv
          cases hxv
        | some n =>
          rw [hn] at hxv
          have exv : V.str n = xv := Option.some.inj hxv
          subst exv
          have hno : ∀ q ∈ (sp.map (·.1)).take i, (fun n : Str => n) q ≠ n := fun q hq z => by
            have z : q = n := z
            subst z
            obtain ⟨j, hj, ej⟩ := List.mem_iff_getElem.mp hq
            rw [List.getElem_take] at ej
            have h2 := List.getElem?_eq_some_iff.mp hn
            have h3 := (List.getElem_inj hO.nod).mp (ej.trans h2.2.symm)
            rw [List.length_take] at hj
            omega
          have hvn := valV_none_map (g := fun n : Str => n) (v := fun _ => V.ref (He.ga K "EMPTY_SLOTS")) hno
          have few := hO.few
          refine ⟨_, rfl, x, _, dx, _, _, rfl, k7 _ _ (Ne.symm nd4) e6', T.cS, T.nS_slots, rfl, _, rfl, d, _, rfl, DPut.k (k := .inr n) e7 ?_, ?_⟩
          · rw [List.length_map, List.length_take, List.length_map, sizeLine_eq]
            omega
          · refine put fun H8 k8 e8 => ?_
            refine ⟨_, rfl, ?_, k7.trans k8⟩
            rw [e8, putK_new _ hvn, take_snoc hn, List.map_append]
            rfl
      · rintro σ H7 ⟨y4, rfl, e7, k7⟩
        rw [List.take_of_length_le (by simp)] at e7
        have nd' : ∀ a, a = d → ∀ ys, ¬ Rd H6 a (.tup ys) := fun a z => by
          rw [z]
          exact dK_noT d6
        have k0d : Kp (fun a => a = x) H H7 := fun a o n e => k7 a o (fun z => by
          rw [z, nd0] at e
          cases e) (k06 a o n e)
        refine k d H7 nd0 k0d ⟨L2.Same.kp1 sF6 k7 fd0, hP, fx, fd0, Ne.symm nd4, h01, fun n => .inl rfl, dx, st, _, k7 _ _ (Ne.symm nd4) e6', SqT.kpG k7 nd' hst6, e7, ?_, fun n hn => ⟨_, valV_some_map (g := fun n : Str => n) (v := fun _ => V.ref (He.ga K "EMPTY_SLOTS")) (by rw [List.map_id']; exact hO.nod) hn, _, rfl, T.emp H7⟩⟩
        rw [List.length_map, List.length_map]
        have := hO.few
        omega
end
end FF
/-! The store's methods. -/
namespace FF
open PySem PySem.Spec PyProof.Rows L2
section
variable {P : Program} {w : World} {K : PySem.W.Frag} {mg : Str → Option Value} {base : Heap}
theorem c_rec (T : Fx K mg) : C8.Met P w K mg base 2 (aS K) "record" (spRec K) [] := by
  have cW : C8.Met P w K mg base 1 (aF K) "check_writer" (spCW K) [] := c_cw T
  have cG : C8.Cal P w K mg base 1 "good_slot" (spGood K) [] := c_good T
  refine metN T.cS T.mS_record T.d_s_record sc_s_record (fun vs H Q E h => ?_) (fun _ _ _ _ _ _ us hl => match us, hl with | [_, _], _ => rfl) (fun cdv A outer s H vs Q E hr h => ?_)
  · obtain ⟨_, _, _, _, _, _, _, _, _, rfl, _⟩ := h
    rfl
  · obtain ⟨F, x, d, pl, sh, sp, ms, sl, who, rfl, hS, hw, k⟩ := h
    obtain ⟨dx, st, kvs, h1, h2, h3, h4, h5⟩ := hS.at_
    obtain ⟨pdx, na, ca, za, wa, fa, la, vt, vw, p⟩ := id hS.plan
    obtain ⟨v, hv, hs⟩ := h5 who hw
    refine ⟨_, pss_cons (ps_expr (C8.pe_mt cW hr (by decide) (pe_fld (pv 0) rfl) (pa_cons (pv 1) pa_nil)))
      (pss_one (ps_ret (C8.pe_c cG hr (by decide) (by rfl) (pa_cons (pe_dget (hu_of hr) (pe_fld (pv 0) rfl) (pv 1) (fun _ _ => rfl)) pa_nil)))), ?_⟩
    refine ⟨_, rfl, x, _, dx, _, _, rfl, h1, T.cS, T.nS_plan, rfl, pl, pdx, _, rfl, hS.sm _ _ p.ins, rfl, _, rfl, pl, sh, sp, who, rfl, hS.plan.same hS.sm, hw, ?_⟩
    exact ⟨_, rfl, x, _, dx, _, _, rfl, h1, T.cS, T.nS_slots, rfl, _, rfl, d, _, rfl, dget_s h3 hv, v, sl who, rfl, hs, k⟩
theorem c_nw (T : Fx K mg) : ∃ fd ps, FnOk P w K mg base C8.CX0 4 (aGet K) fd ps (spNw K) ∧ Binds K fd ps [] := by
  have cT : C8.Met P w K mg base 3 (aF K) "told" (spTold K) [] := c_told T
  have cR : C8.Met P w K mg base 2 (aS K) "record" (spRec K) [] := c_rec T
  obtain ⟨fd, F⟩ := T.d_s_newest
  refine ⟨fd, ["self"], F.ok sc_s_newest (fun vs H Q E h => ?_) (fun cdv A outer s H vs Q E hr h => ?_), F.bindsN fun _ _ _ _ _ _ us hl => match us, hl with | [_], _ => rfl⟩
  · obtain ⟨_, _, _, _, _, _, _, _, rfl, _⟩ := h
    rfl
  · obtain ⟨F0, x, d, pl, sh, sp, ms, sl, rfl, hS, k⟩ := h
    obtain ⟨dx, st, kvs, h1, h2, h3, h4, h5⟩ := hS.at_
    obtain ⟨pdx, na, ca, za, wa, fa, la, vt, vw, p⟩ := id hS.plan
    have nd := sc_s_newest.nd
    suffices hh : ∃ t, PSs (cxOf C8.CX0 P _ K mg base _ _ (defScope s_s_newest) _ cdv A outer s H E).nox (defBody s_s_newest) t ∧ t { nx := fun _ H' => Q .non H', rt := Q } (L2.start ["self", "writer"] [.ref x]) H by
      obtain ⟨t, a, b⟩ := hh
      exact ⟨t, a.nox, b⟩
    refine ⟨_, pss_cons (ps_set (i := 1) nd rfl (Or.inl rfl) (C8.pe_mt cT hr (by decide) (pe_fld (pv 0) rfl) (pa_cons (pe_fld (pv 0) rfl) pa_nil)))
      (pss_one (ps_ret (tupN (pa_cons (pv 1) (pa_cons (C8.pe_mt cR hr (by decide) (pv 0) (pa_cons (pv 1) pa_nil)) pa_nil))))), ?_⟩
    refine ⟨_, rfl, x, _, dx, _, _, rfl, h1, T.cS, T.nS_plan, rfl, pl, pdx, _, rfl, hS.sm _ _ p.ins, rfl, _, rfl, x, _, dx, _, _, rfl, h1, T.cS, T.nS_state, rfl, pl, st, sh, sp, ms, rfl, hS.plan.same hS.sm, h2, hS.m01, fun n H1 s1 hn => ?_⟩
    refine ⟨_, rfl, _, rfl, x, dx, _, rfl, s1 _ _ h1, rfl, _, rfl, F0, x, d, pl, sh, sp, ms, sl, n, rfl, hS.same s1, List.mem_map.mpr ⟨_, hn, rfl⟩, ?_⟩
    exact ⟨(by show 2 ≤ sizeLine; decide), fun t H2 n2 s2 e2 => k n t H2 (s1.trans s2) hn e2⟩
theorem IsTx.len {t : Str} (h : IsTx t) : t.length ≤ 200 := h.1
theorem c_sc (T : Fx K mg) : C8.Met P w K mg base 5 (aS K) "step_count" (spSC K) [] := by
  have cW : C8.Met P w K mg base 1 (aF K) "check_writer" (spCW K) [] := c_cw T
  have cI : C8.Cal P w K mg base 1 "is_record" spIsRecord [] := c_isRecord T
  have cS : C8.Cal P w K mg base 1 "slot_steps" spSteps [] := c_steps T
  have cT : C8.Met P w K mg base 4 (aF K) "turns" (spTurns K) [] := c_turns T
  refine metN T.cS T.mS_step_count T.d_s_step_count sc_s_step_count (fun vs H Q E h => ?_) (fun _ _ _ _ _ _ us hl => match us, hl with | [_, _, _], _ => rfl) (fun cdv A outer s H vs Q E hr h => ?_)
  · obtain ⟨_, _, _, _, _, _, _, _, _, _, _, rfl, _⟩ := h
    rfl
  · obtain ⟨F, x, d, pl, sh, sp, ms, sl, who, w, t, rfl, hS, hw, ht, k⟩ := h
    obtain ⟨dx, st, kvs, h1, h2, h3, h4, h5⟩ := hS.at_
    obtain ⟨pdx, na, ca, za, wa, fa, la, vt, vw, p⟩ := id hS.plan
    have hl := ht.len
    refine ⟨_, pss_cons (ps_expr (C8.pe_mt cW hr (by decide) (pe_fld (pv 0) rfl) (pa_cons (pv 1) pa_nil)))
      (pss_cons (ps_if (pt_not (pt_val (C8.pe_c cI hr (by decide) (by rfl) (pa_cons (pv 2) pa_nil)))) (pss_one ps_never) pss_nil)
      (pss_one (ps_ret (pe_op op_add (C8.pe_c cS hr (by decide) (by rfl) (pa_cons (pv 2) pa_nil)) (pe_callB call_len_seq (by rfl) T.z_len PySem.boot_len (pa_cons (C8.pe_mt cT hr (by decide) (pe_fld (pv 0) rfl) (pa_cons (pe_fld (pv 0) rfl) (pa_cons (pv 1) pa_nil))) pa_nil)))))), ?_⟩
    refine ⟨_, rfl, x, _, dx, _, _, rfl, h1, T.cS, T.nS_plan, rfl, pl, pdx, _, rfl, hS.sm _ _ p.ins, rfl, _, rfl, pl, sh, sp, who, rfl, hS.plan.same hS.sm, List.mem_map.mpr ⟨_, hw, rfl⟩, ?_⟩
    refine ⟨_, rfl, t, rfl, ht, fun H1 s1 => ⟨_, rfl, ?_⟩⟩
    refine iteF ?_
    have sF1 := hS.sm.trans s1
    refine ⟨_, rfl, t, rfl, by omega, _, rfl, x, _, dx, _, _, rfl, s1 _ _ h1, T.cS, T.nS_plan, rfl, pl, pdx, _, rfl, sF1 _ _ p.ins, rfl, _, rfl, x, _, dx, _, _, rfl, s1 _ _ h1, T.cS, T.nS_state, rfl, _, rfl, pl, st, sh, sp, ms, who, w, rfl, hS.plan.same sF1, h2.same s1, hS.m01, hw, fun qa H2 s2 D2 => ?_⟩
    obtain ⟨qa', xs, e, hq, hA⟩ := D2.list_inv
    cases e
    refine ⟨qa, _, rfl, .inl hq, _, _, rfl, rfl, ?_⟩
    have hxl : xs.length = (tix sp ms who w).length := by rw [hA.length, List.length_map, List.length_map]
    rw [hxl]
    exact k H2 (s1.trans s2)
theorem turned_M01 {sp : Prs} {ms : List Int} (h : M01 ms (fl sp).length) (js : List Nat) : M01 (turned ms js) (fl sp).length := turned_01 js h
theorem slAfter_ok {sl : Str → Slot} (h : ∀ n, (sl n).ok) (who t : Str) (m : Int) : ∀ n, (slAfter sl who t m n).ok := fun n => by
  unfold slAfter
  split
  · exact Slot.after_ok t m (h who)
  · exact h n
theorem f_wr (T : Fx K mg) {fd : FuncData} (F : FunD K "write" "Store.write" (defArgs s_s_write) (defBody s_s_write) (defScope s_s_write) [V.non] [] (He.fAd K ("Store", some "write")) fd) :
    FnOk P w K mg base C8.CX0 6 (He.fAd K ("Store", some "write")) fd ["self", "writer", "text", "steps"] (spWr K) := by
  have cC : C8.Met P w K mg base 5 (aS K) "step_count" (spSC K) [] := c_sc T
  have cS : C8.Cal P w K mg base 1 "slot_steps" spSteps [] := c_steps T
  have cU : C8.Met P w K mg base 5 (aF K) "updated" (spUpdated K) [] := c_updated T
  have cA : C8.Cal P w K mg base 2 "slots_after" (spAfter K) [] := c_after T
  refine F.ok sc_s_write (fun vs H Q E h => ?_) (fun cdv A outer s H vs Q E hr h => ?_)
  · obtain ⟨_, _, _, _, _, _, _, _, _, _, _, _, _, rfl, _⟩ := h
    rfl
  · obtain ⟨F0, x, d, pl, sh, sp, ms, sl, who, w, t, sv, m, rfl, hS, hw, ht, hm0, hm1, hsv, k⟩ := h
    obtain ⟨dx, st, kvs, h1, h2, h3, h4, h5⟩ := hS.at_
    obtain ⟨pdx, na, ca, za, wa, fa, la, vt, vw, p⟩ := id hS.plan
    have nd := sc_s_write.nd
    have hl := ht.len
    suffices hh : ∃ t', PSs (cxOf C8.CX0 P _ K mg base _ _ (defScope s_s_write) _ cdv A outer s H E).nox (defBody s_s_write) t' ∧ t' { nx := fun _ H' => Q .non H', rt := Q } (L2.start ["self", "writer", "text", "steps", "most", "made", "done"] [.ref x, .str who, .str t, sv]) H by
      obtain ⟨t', a, b⟩ := hh
      exact ⟨t', a.nox, b⟩
    refine ⟨_, pss_cons (ps_set (i := 4) nd rfl (Or.inl rfl) (C8.pe_mt cC hr (by decide) (pv 0) (pa_cons (pv 1) (pa_cons (pv 2) pa_nil))))
      (C8.pss_cut (ps_if (pt_cmpR op_isN (pv 3) pe_non (nomark _)) (pss_one (ps_set (i := 5) nd rfl (Or.inl rfl) (pv 4))) (pss_one (ps_set (i := 5) nd rfl (Or.inl rfl) (pv 3))))
      (pss_cons (ps_if (pt_cmpR op_gt (pv 5) (pv 4) (nomark _)) (pss_one ps_never) pss_nil)
      (pss_cons (ps_set (i := 6) nd rfl (Or.inl rfl) (pe_callB (call_max2 rfl) (by rfl) T.z_max (by decide +kernel) (pa_cons pe_int (pa_cons (pe_op op_sub (pv 5) (C8.pe_c cS hr (by decide) (by rfl) (pa_cons (pv 2) pa_nil))) pa_nil))))
      (pss_cons (ps_fld (pv 0) (C8.pe_mt cU hr (by decide) (pe_fld (pv 0) rfl) (pa_cons (pe_fld (pv 0) rfl) (pa_cons (pv 1) (pa_cons (pv 6) pa_nil)))) (by rfl))
      (pss_cons (ps_dput (hu_of hr) (pe_fld (pv 0) rfl) (pv 1) (C8.pe_c cA hr (by decide) (by rfl) (pa_cons (pe_dget (hu_of hr) (pe_fld (pv 0) rfl) (pv 1) (fun _ _ => rfl)) (pa_cons (pv 2) (pa_cons (pv 5) pa_nil)))) rfl)
      (pss_one (ps_ret (pv 5)))))))), ?_⟩
    refine ⟨_, rfl, x, dx, _, rfl, h1, rfl, _, rfl, _, rfl, F0, x, d, pl, sh, sp, ms, sl, who, w, t, rfl, hS, hw, ht, fun H1 s1 => ?_⟩
    refine ⟨fun σ H' => H' = H1 ∧ σ = [some (.ref x), some (.str who), some (.str t), some sv, some (.int ((t.length : Int) + 2 + ((tix sp ms who w).length : Nat))), some (.int m), none], ?_, ?_⟩
    · refine ⟨_, rfl, rfl, _, rfl, ?_⟩
      rcases hsv with rfl | ⟨rfl, rfl⟩
      · exact iteF ⟨_, rfl, rfl, rfl⟩
      · exact iteT ⟨_, rfl, rfl, rfl⟩
    · rintro σ H' ⟨rfl, rfl⟩
      have sF1 := hS.sm.trans s1
      refine ⟨_, rfl, _, rfl, _, _, rfl, rfl, _, rfl, ?_⟩
      have e : decide ((t.length : Int) + 2 + ((tix sp ms who w).length : Nat) < m) = false := decide_eq_false (by omega)
      rw [e]
      refine iteF ?_
      refine ⟨_, rfl, _, rfl, t, rfl, by omega, _, _, rfl, rfl, 0, m - ((t.length : Int) + 2), rfl, ?_⟩
      obtain ⟨dn, hdn⟩ : ∃ dn : Nat, dn = (m - ((t.length : Int) + 2)).toNat := ⟨_, rfl⟩
      have ed : (if m - ((t.length : Int) + 2) > 0 then m - ((t.length : Int) + 2) else 0) = (dn : Int) := by
        split
        · omega
        · omega
      rw [ed]
      have x1 := s1 _ _ h1
      refine ⟨_, rfl, x, _, dx, _, _, rfl, x1, T.cS, T.nS_plan, rfl, pl, pdx, _, rfl, sF1 _ _ p.ins, rfl, _, rfl, x, _, dx, _, _, rfl, x1, T.cS, T.nS_state, rfl, _, rfl, _, rfl, pl, st, sh, sp, ms, who, w, dn, rfl, hS.plan.same sF1, h2.same s1, hS.m01, hw, by omega, fun st' H2 s2 h2' => ?_⟩
      have x2 := s2 _ _ x1
      refine ⟨_, rfl, x, _, dx, _, rfl, x2, T.cS, T.nS_state, (by show 3 < 1000; decide), ?_⟩
      refine put fun H3 k3 e3 => ?_
      have e3' : H3 x = some (.ins (aS K) dx (stF pl st' d)) := by
        rw [e3]
        rfl
      have d3 : H3 d = some (.dK kvs) := k3 _ _ (Ne.symm hS.ne) (s2 _ _ (s1 _ _ h3))
      obtain ⟨v, hv, hs⟩ := h5 who (List.mem_map.mpr ⟨_, hw, rfl⟩)
      have hs3 : SlV K H3 v (sl who) := SlV.kpG k3 (fun a z => by rw [z]; exact ins_noT x2) ((hs.same s1).same s2)
      refine ⟨_, rfl, x, _, dx, _, _, rfl, e3', T.cS, T.nS_slots, rfl, _, rfl, d, _, rfl, dget_s d3 hv, _, rfl, _, rfl, v, sl who, t, m, rfl, hs3, by omega, hm0, fun v' H4 s4 S4 => ?_⟩
      have d4 := s4 _ _ d3
      have e4' := s4 _ _ e3'
      refine ⟨_, rfl, x, _, dx, _, _, rfl, e4', T.cS, T.nS_slots, rfl, _, rfl, d, _, rfl, DPut.k (k := .inr who) d4 (by rw [sizeLine_eq]; omega), ?_⟩
      refine put fun H5 k5 e5 => ?_
      have nT : ∀ a, a = d → ∀ ys, ¬ Rd H4 a (.tup ys) := fun a z => by rw [z]; exact dK_noT d4
      have k05 : Kp (fun a => a = x ∨ a = d) H H5 := (Kp.same (s1.trans s2)).trans ((k3.mono fun a z => .inl z).trans ((Kp.same s4).trans (k5.mono fun a z => .inr z)))
      refine ⟨_, rfl, k H5 k05 ⟨?_, hS.plan, hS.fx, hS.fd, hS.ne, ?_, slAfter_ok hS.sok who t m, dx, st', _, k5 _ _ hS.ne e4', ?_, e5, ?_, fun n hn => ?_⟩⟩
      · exact L2.Same.kp hS.sm k05 fun a o e z => by
          rcases z with z | z
          · rw [z, hS.fx] at e
            cases e
          · rw [z, hS.fd] at e
            cases e
      · exact turned_M01 hS.m01 _
      · rw [← hdn]
        exact SqT.kpG k5 nT (Same.seqT s4 (SqT.kpG k3 (fun a z => by rw [z]; exact ins_noT x2) h2'))
      · rw [putK_len hv]
        exact h4
      · rw [valV_put]
        by_cases q : n = who
        · subst q
          refine ⟨v', if_pos rfl, ?_⟩
          have : slAfter sl n t m n = (sl n).after t m := if_pos rfl
          rw [this]
          exact S4.kpG k5 nT
        · obtain ⟨u, hu, hus⟩ := h5 n hn
          have : slAfter sl who t m n = sl n := if_neg q
          rw [this]
          refine ⟨u, ?_, SlV.kpG k5 nT (SlV.same (SlV.kpG k3 (fun a z => by rw [z]; exact ins_noT x2) ((hus.same s1).same s2)) s4)⟩
          rw [if_neg fun z => q (Sum.inr.inj z)]
          exact hu
end
end FF
/-! Making stores, writing by keyword; the law's small defs. -/
namespace FF
open PySem PySem.Spec PyProof.Rows L2
/-! ### o.m(e, .., k = v) -/
def tMethN (C : Addr) (m : Str) (n q : Nat) (sp : Sp) (gV : List V → List V → List V) (E : XK) (ta : TE) (t tk : TA) : TE := fun σ H Q => ta σ H fun x H1 => ∃ a dx fs, x = .ref a ∧ H1 a = some (.ins C dx fs) ∧ fs.lookup m = none ∧
  t σ H1 fun vs H2 => tk σ H2 fun zs H3 => (x :: vs).length = n ∧ zs.length = q ∧ sp (gV (x :: vs) zs) H3 Q E
theorem pe_methN {X : Cx} {CX : CXT} {k n : Nat} {f C : Addr} {fd : FuncData} {ps ks : List Str} {sp : Sp} {E : XK} {m : Str} {pos apos : Pos} {o e : Expr} {es : List Expr} {kws : List Keyword} {ta : TE} {t tk : TA} {g : List Value → List Value → List Value} {gV : List V → List V → List V} {pl : Sem Bool}
    (he : PE X o ta) (c : Cls X.K C) (hm : Meth X.K C m f) (F : FnOk X.prog X.w X.K X.mg X.base CX k f fd ps sp) (hr : Room k X.A) (hb : KBn X.K fd ps n ks g gV) (hx : Passes CX X E) (ha : PA X (e :: es) t) (hkw : PK X kws tk)
    (hall : (backToKw pos (keywordEach kws X.env)).all (·.1.isSome) = true := by rfl) (hks : (backToKw pos (keywordEach kws X.env)).filterMap (·.1) = ks := by rfl)
    (hst : starEach (e :: es) X.env = (false, eval e X.env) :: starEach es X.env := by rfl)
    (hpl : ((backTo pos (starEach (e :: es) X.env)).any (·.1) || (backToKw pos (keywordEach kws X.env)).any (·.1.isNone)) = false := by rfl)
    (ht : eval (.Call (.Attribute o m apos) (e :: es) kws pos) X.env = (do
      let ov ← eval o X.env
      standAt apos.atName
      let (f, first) ← holding [ov] (getMethod ov m pl)
      callWith pos f first (backTo pos (starEach (e :: es) X.env)) (backToKw pos (keywordEach kws X.env))) := by rfl) :
    PE X (.Call (.Attribute o m apos) (e :: es) kws pos) (tMethN C m n ks.length sp gV E ta t tk) := by
  refine ⟨fun pins s σ H Q I h => ?_⟩
  refine PySem.W.methodCall_KW (pl := pl) (thn (he.run pins s σ H _ I h) fun u s1 ⟨x, H1, I1, rx, a, dx, fs, ex, ea, l, q⟩ => ?_) ht
  subst ex
  obtain rfl : u = Value.ref a := rx
  refine getmeth_ok I1 ea c hm l ?_
  refine PySem.W.callWith_KW (first := [.ref a]) (h₀ := X.base) I.ok.mod.kin hm.kp hall (thn (ha.run pos pins s1 σ H1 _ I1 q) fun us s2 ⟨vs, H2, I2, r, q2⟩ => ?_) hpl hst
  refine thn (hkw.run pos pins s2 σ H2 _ I2 q2) fun ws s3 ⟨zs, H3, I3, rz, l1, l2, q3⟩ => ⟨I3.kIn, ?_⟩
  rw [hks]
  exact run_fnN (us := .ref a :: us) (vs := .ref a :: vs) F hr hb hx I3 (.cons rfl r) rz l1 l2 q3
section
variable {P : Program} {w : World} {K : PySem.W.Frag} {mg : Str → Option Value} {base : Heap}
theorem mk_s2 (T : Fx K mg) : C8.Mak P w K mg base 3 "Store" (aS K) (spSI K) [V.non] := by
  obtain ⟨fd, F⟩ := T.d_s_init
  obtain ⟨ds, hds, hb⟩ := F.binds1 (ps := ["self", "plan", "state"]) 2 0 (by simp) rfl fun TA kV doc pm an cdv ct us its l1 l2 => match us, its, l1, l2 with | [_, _], [_], _, _ => ⟨_, rfl, rfl⟩
  exact ⟨_, fd, _, ds, T.mkS, f_si T F, T.g_Store, hb, hds⟩
theorem mk_s3 (T : Fx K mg) : C8.Mak P w K mg base 3 "Store" (aS K) (spSI K) [] := by
  obtain ⟨fd, F⟩ := T.d_s_init
  obtain ⟨ds, hds, hb⟩ := F.binds1 (ps := ["self", "plan", "state"]) 3 1 (by simp) rfl fun TA kV doc pm an cdv ct us its l1 l2 => match us, its, l1, l2 with | [_, _, _], [_], _, _ => ⟨_, rfl, rfl⟩
  exact ⟨_, fd, _, ds, T.mkS, f_si T F, T.g_Store, hb, hds⟩
theorem c_wr3 (T : Fx K mg) : C8.Met P w K mg base 6 (aS K) "write" (spWr K) [V.non] := by
  obtain ⟨fd, F⟩ := T.d_s_write
  obtain ⟨ds, hds, hb⟩ := F.binds1 (ps := ["self", "writer", "text", "steps"]) 3 0 (by simp) rfl fun TA kV doc pm an cdv ct us its l1 l2 => match us, its, l1, l2 with | [_, _, _], [_], _, _ => ⟨_, rfl, rfl⟩
  exact ⟨_, fd, _, ds, T.cS, T.mS_write, f_wr T F, hb, hds⟩
theorem c_wr4 (T : Fx K mg) : C8.Met P w K mg base 6 (aS K) "write" (spWr K) [] := by
  obtain ⟨fd, F⟩ := T.d_s_write
  obtain ⟨ds, hds, hb⟩ := F.binds1 (ps := ["self", "writer", "text", "steps"]) 4 1 (by simp) rfl fun TA kV doc pm an cdv ct us its l1 l2 => match us, its, l1, l2 with | [_, _, _, _], [_], _, _ => ⟨_, rfl, rfl⟩
  exact ⟨_, fd, _, ds, T.cS, T.mS_write, f_wr T F, hb, hds⟩
theorem c_wrK (T : Fx K mg) : ∃ fd, FnOk P w K mg base C8.CX0 6 (He.fAd K ("Store", some "write")) fd ["self", "writer", "text", "steps"] (spWr K) ∧ KBn K fd ["self", "writer", "text", "steps"] 3 ["steps"] (fun us ws => us ++ ws) (fun vs zs => vs ++ zs) := by
  obtain ⟨fd, F⟩ := T.d_s_write
  refine ⟨fd, f_wr T F, ?_⟩
  obtain ⟨oc, od, dV, kV, doc, pm, an, cdv, ct, osl, rfl, lk, hcd, hD, hK⟩ := F.ex
  rcases hD with ⟨e, _⟩ | ⟨_, TA, o, its, m, rfl, lT, oT, rT⟩
  · exact absurd e (by simp)
  · refine ⟨fun s us ws X l1 l2 => ?_, fun r1 r2 => r1.append r2⟩
    have l3 := rT.length
    refine BindsTo.of_looks fun M => ?_
    have hx : ∃ k, bindArgs (PySem.W.fnOf "write" "Store.write" (defArgs s_s_write) (defBody s_s_write) (defScope s_s_write) (.ref TA) kV doc pm an cdv ct) ⟨us, [("steps" : Str)].zip ws⟩ = seqItems? (.ref TA) >>= k ∧ k (some its.toArray) = pure ([("self" : Str), "writer", "text", "steps"].zip (us ++ ws)) := by
      match us, ws, its, l1, l2, l3 with
      | [_, _, _], [_], [_], _, _, _ => exact ⟨_, rfl, rfl⟩
    obtain ⟨k, e1, e2⟩ := hx
    rw [e1]
    exact looks_items X lT oT (.of_pure e2)
end
def spIsInt : Sp := fun vs H Q _ => ∃ (i : Int), vs = [.int i] ∧ Q (.bl true) H
def spBox (K : PySem.W.Frag) : Sp := fun vs H Q _ => ∃ (a : Addr) (ns : List Int), vs = [.ref a] ∧ SqL K H a (ns.map V.int) ∧ ∀ (b l : Addr) (H' : Hp), Same H H' → H b = none → BoxAt H' b l → Q (.ref b) H'
theorem cut_ints (ns : List Int) : ∃ ns' : List Int, cutV (ns.map V.int) none (some 63) = ns'.map V.int ∧ ns'.length ≤ 63 := by
  have h1 : ∃ ns' : List Int, cutV (ns.map V.int) none (some 63) = ns'.map V.int := by
    unfold cutV
    rw [← List.map_drop, ← List.map_take]
    exact ⟨_, rfl⟩
  obtain ⟨ns', e⟩ := h1
  refine ⟨ns', e, ?_⟩
  have e2 := congrArg List.length e
  rw [List.length_map] at e2
  by_cases h : 63 ≤ (ns.map V.int).length
  · have e3 := cut_to (ns.map V.int) 63 h
    have e4 : cutV (ns.map V.int) none (some 63) = (ns.map V.int).take 63 := e3
    rw [e4, List.length_take] at e2
    omega
  · have := cutV_length (ns.map V.int) none (some 63)
    omega
section
variable {P : Program} {w : World} {K : PySem.W.Frag} {mg : Str → Option Value} {base : Heap}
theorem c_isInt (T : Fx K mg) : C8.Cal P w K mg base 1 "_law_is_integer" spIsInt [] := by
  refine calN T.d_l_is_integer T.g_l_is_integer sc_l_is_integer (fun vs H Q E h => ?_) (fun _ _ _ _ _ _ us hl => match us, hl with | [_], _ => rfl) (fun cdv A outer s H vs Q E hr h => ?_)
  · obtain ⟨_, rfl, _⟩ := h
    rfl
  · obtain ⟨i, rfl, k⟩ := h
    refine ⟨_, pss_one (ps_ret (pe_and (pe_callB (isiR (K := K) rfl) (by rfl) T.z_isinstance (by decide +kernel) (pa_cons (pv 0) (pa_cons (pe_bltn (v := .ty "int") (by rfl) T.z_int (by decide +kernel) rfl) pa_nil)))
      (pe_one (pe_not (pe_callB (isiR (K := K) rfl) (by rfl) T.z_isinstance (by decide +kernel) (pa_cons (pv 0) (pa_cons (pe_bltn (v := .ty "bool") (by rfl) T.z_bool (by decide +kernel) rfl) pa_nil))))))), ?_⟩
    refine ⟨_, rfl, _, _, "int", true, rfl, .base (.int _), by decide +kernel, _, rfl, ?_⟩
    refine iteT ?_
    exact ⟨_, rfl, _, _, "int", false, rfl, .base (.int _), by decide +kernel, _, rfl, k⟩
theorem c_box (T : Fx K mg) : C8.Cal P w K mg base 1 "_law_box" (spBox K) [] := by
  refine calN T.d_l_box T.g_l_box sc_l_box (fun vs H Q E h => ?_) (fun _ _ _ _ _ _ us hl => match us, hl with | [_], _ => rfl) (fun cdv A outer s H vs Q E hr h => ?_)
  · obtain ⟨_, _, rfl, _⟩ := h
    rfl
  · obtain ⟨a, ns, rfl, hS, k⟩ := h
    obtain ⟨ns', ecut, hl'⟩ := cut_ints ns
    refine ⟨_, pss_one (ps_ret (lstN (pa_cons (pe_callTy listN (by rfl) T.z_list (by decide +kernel) (pa_cons (pe_slice slN (pv 0) po_none (po_some pe_int)) pa_nil)) (pa_cons pe_int (pa_cons pe_int (pa_cons pe_int (pa_cons pe_int pa_nil))))))), ?_⟩
    refine ⟨_, rfl, _, rfl, a, _, rfl, hS, fun c H1 n1 s1 e1 => ?_⟩
    rw [ecut] at e1
    refine ⟨c, _, rfl, .inl (SqL.of e1), fun l H2 n2 s2 e2 => ?_⟩
    refine ⟨(by show 5 ≤ sizeLine; decide), fun b H3 n3 s3 e3 => ?_⟩
    refine k b l H3 ((s1.trans s2).trans s3) ((s1.trans s2).free n3) ⟨ns', _, _, _, _, e3, s3 _ _ e2, ?_, ?_⟩
    · exact hl'
    · exact Int.le_refl _
end
end FF
/-! The law's write. -/
namespace FF
open PySem PySem.Spec PyProof.Rows L2
theorem box_noT {H : Hp} {b l : Addr} (h : BoxAt H b l) : ∀ ys, ¬ Rd H b (.tup ys) := by
  obtain ⟨_, _, _, _, _, h1, _⟩ := h
  exact lst_noT h1
section
variable {K : PySem.W.Frag} {F H : Hp} {x d pl b l : Addr} {s : Sh} {sp : Prs} {ms : List Int} {sl : Str → Slot}
theorem StoreAt.apart (h : StoreAt K F H x d pl s sp ms sl) (hB : BoxAt H b l) : x ≠ b ∧ d ≠ b ∧ x ≠ l ∧ d ≠ l := by
  obtain ⟨dx, st, kvs, h1, h2, h3, h4, h5⟩ := h.at_
  obtain ⟨_, _, _, _, _, b1, b2, _⟩ := hB
  exact ⟨ne_of h1 b1 (fun z => nomatch z), ne_of h3 b1 (fun z => nomatch z), ne_of h1 b2 (fun z => nomatch z), ne_of h3 b2 (fun z => nomatch z)⟩
theorem StoreAt.draw {H' : Hp} (h : StoreAt K F H x d pl s sp ms sl) (hB : BoxAt H b l) (k : Kp (fun a => a = b) H H') (hb : F b = none) : StoreAt K F H' x d pl s sp ms sl := by
  obtain ⟨a1, a2, _, _⟩ := h.apart hB
  exact h.kp k (fun a z => by rw [z]; exact hb) a1 a2 fun a z => by rw [z]; exact box_noT hB
end
def spMake (K : PySem.W.Frag) : Sp := fun vs H Q _ => ∃ (F : Hp) (b l x d pl : Addr) (s : Sh) (sp : Prs) (ms : List Int) (sl : Str → Slot) (who : Str) (w : List Bool) (t : Str) (m : Int), vs = [.ref b, .ref x, .str who, .str t, .int m, .int ((t.length : Int) + 2 + ((tix sp ms who w).length : Nat))] ∧
  BoxAt H b l ∧ F b = none ∧ StoreAt K F H x d pl s sp ms sl ∧ (who, w) ∈ sp ∧ IsTx t ∧ 0 ≤ m ∧ m ≤ (t.length : Int) + 2 + ((tix sp ms who w).length : Nat) ∧
  ∀ H' : Hp, Kp (fun a => a = b ∨ a = x ∨ a = d) H H' → BoxAt H' b l → StoreAt K F H' x d pl s sp (turned ms ((tix sp ms who w).take (m - ((t.length : Int) + 2)).toNat)) (slAfter sl who t m) → Q (.int m) H'
section
variable {P : Program} {w : World} {K : PySem.W.Frag} {mg : Str → Option Value} {base : Heap}
theorem c_make (T : Fx K mg) : C8.Cal P w K mg base 7 "_law_make" (spMake K) [] := by
  have cD : C8.Cal P w K mg base 1 "_law_draw" spDraw [] := c_draw T
  have w3 : C8.Met P w K mg base 6 (aS K) "write" (spWr K) [V.non] := c_wr3 T
  have w4 : C8.Met P w K mg base 6 (aS K) "write" (spWr K) [] := c_wr4 T
  obtain ⟨fdK, FK, bK⟩ := c_wrK (P := P) (w := w) (base := base) T
  refine calN T.d_l_make T.g_l_make sc_l_make (fun vs H Q E h => ?_) (fun _ _ _ _ _ _ us hl => match us, hl with | [_, _, _, _, _, _], _ => rfl) (fun cdv A outer s H vs Q E hr h => ?_)
  · obtain ⟨_, _, _, _, _, _, _, _, _, _, _, _, _, _, rfl, _⟩ := h
    rfl
  · obtain ⟨F, b, l, x, d, pl, sh, sp, ms, sl, who, w, t, m, rfl, hB, hFb, hS, hw, ht, hm0, hm1, k⟩ := h
    have nd := sc_l_make.nd
    refine ⟨_, pss_cons (ps_set (i := 6) nd rfl (Or.inl rfl) (C8.pe_c cD hr (by decide) (by rfl) (pa_cons (pv 0) (pa_cons pe_int pa_nil))))
      (pss_cons (ps_if (pt_cmpR op_eq (pv 6) pe_int (nomark _)) (pss_one (ps_ret (pe_methN (n := 3) (E := C8.E0) (pv 1) T.cS T.mS_write FK (hr.mono (by decide)) bK C8.pass0 (pa_cons (pv 2) (pa_cons (pv 3) pa_nil)) (pk_cons (pv 4) pk_nil)))) pss_nil)
      (pss_cons (ps_if (PW.pt (pw_and (pt_cmpR op_eq (pv 4) (pv 5) (nomark _)) (pw_and1 (pt_cmpR op_eq (pv 6) pe_int (nomark _))))) (pss_one (ps_ret (C8.pe_mt w3 hr (by decide) (pv 1) (pa_cons (pv 2) (pa_cons (pv 3) pa_nil))))) pss_nil)
      (pss_cons (ps_if (PW.pt (pw_and (pt_cmpR op_eq (pv 4) (pv 5) (nomark _)) (pw_and1 (pt_cmpR op_eq (pv 6) pe_int (nomark _))))) (pss_one (ps_ret (C8.pe_mt w4 hr (by decide) (pv 1) (pa_cons (pv 2) (pa_cons (pv 3) (pa_cons pe_non pa_nil)))))) pss_nil)
      (pss_one (ps_ret (C8.pe_mt w4 hr (by decide) (pv 1) (pa_cons (pv 2) (pa_cons (pv 3) (pa_cons (pv 4) pa_nil))))))))), ?_⟩
    refine ⟨_, rfl, b, l, 4, rfl, hB, by decide, by decide, fun way H1 hw0 hw1 k1 B1 => ?_⟩
    have hS1 := hS.draw hB k1 hFb
    obtain ⟨a1, a2, a3, a4⟩ := hS1.apart B1
    obtain ⟨dx, st, kvs, h1, _, h3, _, _⟩ := id hS1.at_
    have main : ∀ sv : V, (sv = .int m ∨ (sv = .non ∧ m = (t.length : Int) + 2 + ((tix sp ms who w).length : Nat))) → spWr K [.ref x, .str who, .str t, sv] H1 Q C8.E0 := fun sv hsv =>
      ⟨F, x, d, pl, sh, sp, ms, sl, who, w, t, sv, m, rfl, hS1, hw, ht, hm0, hm1, hsv, fun H2 k2 S2 => k H2 ((k1.mono fun a z => .inl z).trans (k2.mono fun a z => .inr z)) (B1.kp k2 (fun z => z.elim (Ne.symm a1) (Ne.symm a2)) fun z => z.elim (Ne.symm a3) (Ne.symm a4)) S2⟩
    refine ⟨_, rfl, rfl, _, rfl, ?_⟩
    refine ite2 (fun _ => ?_) (fun _ => ?_)
    · exact ⟨_, rfl, x, dx, _, rfl, h1, rfl, _, rfl, _, rfl, _, rfl, rfl, rfl, main _ (.inl rfl)⟩
    refine ⟨_, rfl, _, rfl, rfl, _, rfl, ?_⟩
    refine ite2 (fun q1 => ?_) (fun _ => ?_)
    · have em : m = (t.length : Int) + 2 + ((tix sp ms who w).length : Nat) := by
        have := of_decide_eq_true q1
        injection this
      refine ⟨_, rfl, rfl, _, rfl, ?_⟩
      refine ite2 (fun _ => ?_) (fun _ => ?_)
      · exact ⟨_, rfl, x, dx, _, rfl, h1, rfl, _, rfl, _, rfl, main _ (.inr ⟨rfl, em⟩)⟩
      refine ⟨_, rfl, _, rfl, rfl, _, rfl, ?_⟩
      refine ite2 (fun _ => ?_) (fun _ => ?_)
      · refine ⟨_, rfl, rfl, _, rfl, ?_⟩
        refine ite2 (fun _ => ?_) (fun _ => ?_)
        · exact ⟨_, rfl, x, dx, _, rfl, h1, rfl, _, rfl, _, rfl, main _ (.inr ⟨rfl, em⟩)⟩
        · exact ⟨_, rfl, x, dx, _, rfl, h1, rfl, _, rfl, _, rfl, _, rfl, main _ (.inl rfl)⟩
      · exact ⟨_, rfl, x, dx, _, rfl, h1, rfl, _, rfl, _, rfl, _, rfl, main _ (.inl rfl)⟩
    · refine ⟨_, rfl, _, rfl, rfl, _, rfl, ?_⟩
      refine ite2 (fun q1 => ?_) (fun _ => ?_)
      · have em : m = (t.length : Int) + 2 + ((tix sp ms who w).length : Nat) := by
          have := of_decide_eq_true q1
          injection this
        refine ⟨_, rfl, rfl, _, rfl, ?_⟩
        refine ite2 (fun _ => ?_) (fun _ => ?_)
        · exact ⟨_, rfl, x, dx, _, rfl, h1, rfl, _, rfl, _, rfl, main _ (.inr ⟨rfl, em⟩)⟩
        · exact ⟨_, rfl, x, dx, _, rfl, h1, rfl, _, rfl, _, rfl, _, rfl, main _ (.inl rfl)⟩
      · exact ⟨_, rfl, x, dx, _, rfl, h1, rfl, _, rfl, _, rfl, _, rfl, main _ (.inl rfl)⟩
end
end FF
/-! The law's start of a store. -/
namespace FF
open PySem PySem.Spec PyProof.Rows L2
/-- a house: the store at x (slots at d), its marks at mk, what is due -/
structure HouseAt (K : PySem.W.Frag) (F H : Hp) (h x d mk pl : Addr) (s : Sh) (sp : Prs) : Prop where
  fh : F h = none
  fm : F mk = none
  ex : ∃ (ms : List Int) (sl : Str → Slot) (n t : Str) (du : Addr), H h = some (.lst [.ref x, .ref mk, .ref du]) ∧ H mk = some (.lst (ms.map V.int)) ∧ SqT K H du [.str n, .str t] ∧ StoreAt K F H x d pl s sp ms sl ∧ (n, told s sp ms) ∈ sp ∧ (sl n).good = t ∧ IsTx t
theorem HouseAt.kp {K : PySem.W.Frag} {F H H' : Hp} {S : Addr → Prop} {h x d mk pl : Addr} {s : Sh} {sp : Prs} (a : HouseAt K F H h x d mk pl s sp) (k : Kp S H H') (hF : ∀ a, S a → F a = none) (nh : ¬ S h) (nx : ¬ S x) (nd : ¬ S d) (nm : ¬ S mk) (hT : ∀ a, S a → ∀ ys, ¬ Rd H a (.tup ys)) : HouseAt K F H' h x d mk pl s sp := by
  obtain ⟨ms, sl, n, t, du, h1, h2, h3, h4, h5, h6, h7⟩ := a.ex
  exact ⟨a.fh, a.fm, ms, sl, n, t, du, k _ _ nh h1, k _ _ nm h2, SqT.kpG k hT h3, h4.kp k hF nx nd hT, h5, h6, h7⟩
theorem made_same {H : Hp} {x dx C : Addr} (h1 : H x = none) (h2 : H dx = none) : Same H (upd (upd H dx (.own x)) x (.ins C dx [])) := fun a o e => by
  rw [upd_ne (ne_of_none e h1), upd_ne (ne_of_none e h2)]
  exact e
theorem kp_free2 {H H1 H2 : Hp} {b x : Addr} (k : Kp (fun a => a = b) H H1) (s : Kp (fun a => a = x) H1 H2) (n : H1 x = none) : Kp (fun a => a = b) H H2 := fun a o na e => s a o (fun z => by
  have := k a o na e
  rw [z, n] at this
  cases this) (k a o na e)
def spStartL (K : PySem.W.Frag) : Sp := fun vs H Q _ => ∃ (F : Hp) (b l pl : Addr) (vp vf : V) (s : Sh) (sp : Prs), vs = [.ref b, .ref pl, vp, vf] ∧ BoxAt H b l ∧ Same F H ∧ F b = none ∧ PlanAt K F pl s sp ∧ Dp K F vp (.list (sp.map prD)) ∧ Dp K F vf (.list ((fl sp).map prD)) ∧
  ∀ (h x d mk : Addr) (H' : Hp), H h = none → H x = none → H d = none → H mk = none → Kp (fun a => a = b) H H' → BoxAt H' b l → HouseAt K F H' h x d mk pl s sp → Q (.ref h) H'
theorem M01_rep (n : Nat) : M01 (List.replicate n 0) n := ⟨List.length_replicate, fun m hm => .inl (List.eq_of_mem_replicate hm)⟩
theorem IsTx_nil : IsTx (Str.ofString "") := by
  have e : (Str.ofString "").cps.toList = [] := by decide +kernel
  unfold IsTx
  rw [e]
  exact ⟨Nat.zero_le _, fun c h => (nomatch h)⟩
section
variable {P : Program} {w : World} {K : PySem.W.Frag} {mg : Str → Option Value} {base : Heap}
theorem c_startL (T : Fx K mg) : C8.Cal P w K mg base 5 "_law_start" (spStartL K) [] := by
  have cD : C8.Cal P w K mg base 1 "_law_draw" spDraw [] := c_draw T
  have cM : C8.Cal P w K mg base 1 "_law_members" (spMembers K) [] := c_members T
  have cL : C8.Cal P w K mg base 2 "_law_told" (spToldL K) [] := c_toldL T
  have m2 : C8.Mak P w K mg base 3 "Store" (aS K) (spSI K) [V.non] := mk_s2 T
  have m3 : C8.Mak P w K mg base 3 "Store" (aS K) (spSI K) [] := mk_s3 T
  refine calN T.d_l_start T.g_l_start sc_l_start (fun vs H Q E h => ?_) (fun _ _ _ _ _ _ us hl => match us, hl with | [_, _, _, _], _ => rfl) (fun cdv A outer s H vs Q E hr h => ?_)
  · obtain ⟨_, _, _, _, _, _, _, _, rfl, _⟩ := h
    rfl
  · obtain ⟨F, b, l, pl, vp, vf, sh, sp, rfl, hB, sF, hFb, hP, hDp, hDf, k⟩ := h
    obtain ⟨pdx, na, ca, za, wa, fa, la, vt, vw, p⟩ := id hP
    have nd := sc_l_start.nd
    have hO := p.ok
    have hfew := hO.fl_few
    obtain ⟨ga, xs, rfl, hSf, hAf⟩ := hDf.list_inv
    have hxl : xs.length = (fl sp).length := by rw [hAf.length, List.length_map]
    refine ⟨_, pss_cons (ps_set (i := 4) nd rfl (Or.inl rfl) (C8.pe_c cD hr (by decide) (by rfl) (pa_cons (pv 0) (pa_cons pe_int pa_nil))))
      (pss_cons (ps_setLc (i := 5) (own := [("_law_flag", 6)]) (g := gName 6) (tt := tYes) rfl nd rfl (by rfl) (sw_true rfl (by rfl) (by rfl) (by rfl)) (pi_list (pv 3))
        (blkOk_by (own := [("_law_flag", 6)]) (N := ["_law_box_here", "_law_fork_plan", "_law_pairs", "_law_flags_here", "_law_way", "_law_marks", "_law_flag", "_law_depot"]) (sc := defScope s_l_start) (by decide +kernel)) (fun _ _ _ _ _ => pg_name (i := 6) nd rfl (Or.inl rfl))
        (fun _ _ _ _ _ => pts_nil) (fun _ _ _ _ _ => pe_int))
      (C8.pss_cut (ps_if (pt_cmpR op_eq (pv 4) pe_int (nomark _)) (pss_one (ps_set (i := 7) nd rfl (Or.inl rfl) (C8.pe_mk m2 hr (by decide) (by rfl) (pa_cons (pv 1) pa_nil))))
          (pss_one (ps_if (pt_cmpR op_eq (pv 4) pe_int (nomark _)) (pss_one (ps_set (i := 7) nd rfl (Or.inl rfl) (C8.pe_mk m3 hr (by decide) (by rfl) (pa_cons (pv 1) (pa_cons pe_non pa_nil)))))
            (pss_cons (ps_setLc (i := 5) (own := [("_law_flag", 6)]) (g := gName 6) (tt := tYes) rfl nd rfl (by rfl) (sw_true rfl (by rfl) (by rfl) (by rfl)) (pi_list (pv 3))
              (blkOk_by (own := [("_law_flag", 6)]) (N := ["_law_box_here", "_law_fork_plan", "_law_pairs", "_law_flags_here", "_law_way", "_law_marks", "_law_flag", "_law_depot"]) (sc := defScope s_l_start) (by decide +kernel)) (fun _ _ _ _ _ => pg_name (i := 6) nd rfl (Or.inl rfl))
              (fun _ _ _ _ _ => pts_nil) (fun _ _ _ _ _ => C8.pe_c cD hr (by decide) (by rfl) (pa_cons (pv 0) (pa_cons pe_int pa_nil))))
            (pss_one (ps_set (i := 7) nd rfl (Or.inl rfl) (C8.pe_mk m3 hr (by decide) (by rfl) (pa_cons (pv 1) (pa_cons (pe_callTy tupleN (by rfl) T.z_tuple (by decide +kernel) (pa_cons (pv 5) pa_nil)) pa_nil)))))))))
      (pss_one (ps_ret (lstN (pa_cons (pv 7) (pa_cons (pv 5) (pa_cons (tupN (pa_cons (C8.pe_c cL hr (by decide) (by rfl) (pa_cons (pv 2) (pa_cons (C8.pe_c cM hr (by decide) (by rfl) (pa_cons (pv 3) pa_nil)) (pa_cons (pv 5) pa_nil)))) (pa_cons pe_str pa_nil))) pa_nil)))))))), ?_⟩
    refine ⟨_, rfl, b, l, 8, rfl, hB, by decide, by decide, fun way H1 hw0 hw1 k1 B1 => ?_⟩
    have sF1 := L2.Same.kp1 sF k1 hFb
    refine ⟨_, rfl, ga, rfl, ⟨_, sF1.seq hSf⟩, fun D hDn => ?_⟩
    refine lc_list (K := K) (a := ga) (xs := xs) (fun i H' => H' D = some (.lst ((List.replicate i (0 : Int)).map V.int)) ∧ Same H1 H') ⟨upd_same, same_new hDn⟩ (fun i H' _ h => (sF1.trans h.2).seq hSf) ?_ ?_
    · rintro i x H2 hx ⟨c1, c2⟩
      have hi := (List.getElem?_eq_some_iff.mp hx).1
      refine ⟨rfl, tyes ?_⟩
      refine ⟨_, c1, by rw [List.length_map, List.length_replicate, sizeLine_eq]; omega, ?_, fun b o e => ?_⟩
      · rw [upd_same, List.replicate_succ', List.map_append]
        rfl
      · rw [upd_ne (ne_of_none e hDn)]
        exact c2 _ _ e
    rintro H2 ⟨c1, c2⟩
    rw [hxl] at c1
    have sF2 := sF1.trans c2
    have B2 := B1.same c2
    have k2 : Kp (fun a => a = b) H H2 := k1.trans (Kp.same c2)
    have nDb : D ≠ b := Ne.symm (B1.nb hDn)
    have nD0 : H D = none := k1.free nDb hDn
    -- the store is made
    have mkS : ∀ {H3 : Hp} (sv : V) (ms : List Int) (Q' : Addr → Hp → Prop), Kp (fun a => a = b) H H3 → BoxAt H3 b l → Same F H3 → M01 ms (fl sp).length → ((sv = .non ∧ ms = List.replicate (fl sp).length 0) ∨ ∃ st, sv = .ref st ∧ StAt K H3 st ms) →
        (∀ (x d : Addr) (H4 : Hp), H x = none → H d = none → Kp (fun a => a = b) H H4 → BoxAt H4 b l → (∀ a o, H3 a = some o → H4 a = some o) → StoreAt K F H4 x d pl sh sp ms sl0 → Q' x H4) →
        ∀ x dx, H3 x = none → H3 dx = none → dx ≠ x → spSI K [.ref x, .ref pl, sv] (upd (upd H3 dx (.own x)) x (.ins (aS K) dx [])) (fun v H4 => v = .non ∧ Q' x H4) C8.E0 := by
      intro H3 sv ms Q' kk BB sF3 h01 hsv kq x dx hx hdx hne
      have ss := made_same (C := aS K) hx hdx
      obtain ⟨Hm, eHm⟩ : ∃ Hm, upd (upd H3 dx (.own x)) x (.ins (aS K) dx []) = Hm := ⟨_, rfl⟩
      rw [eHm] at ss ⊢
      have ex : Hm x = some (.ins (aS K) dx []) := by rw [← eHm]; exact upd_same
      have nxb : x ≠ b := Ne.symm (BB.nb hx)
      have nx0 : H x = none := kk.free nxb hx
      refine ⟨F, x, dx, pl, sv, sh, sp, ms, rfl, ex, sF3.trans ss, hP, sF.free nx0, h01, ?_, fun d H4 nd4 k4 S4 => ⟨rfl, ?_⟩⟩
      · rcases hsv with q | ⟨st, q1, q2⟩
        · exact .inl q
        · exact .inr ⟨st, q1, q2.same ss⟩
      · have nd3 : H3 d = none := ss.free nd4
        have ndb : d ≠ b := Ne.symm (BB.nb nd3)
        have k34 : Kp (fun a => a = x) H3 H4 := (Kp.same ss).trans k4
        exact kq x d H4 nx0 (kk.free ndb nd3) (kp_free2 kk k34 hx) ((BB.same ss).kp k4 (Ne.symm nxb) (BB.nl hx)) (fun a o e => k34 a o (ne_of_none e hx) e) S4
    refine ⟨fun σ H' => ∃ (x d mk : Addr) (ms : List Int), σ = [some (.ref b), some (.ref pl), some vp, some (.ref ga), some (.int way), some (.ref mk), none, some (.ref x)] ∧ H x = none ∧ H d = none ∧ H mk = none ∧ Kp (fun a => a = b) H H' ∧ BoxAt H' b l ∧ H' mk = some (.lst (ms.map V.int)) ∧ StoreAt K F H' x d pl sh sp ms sl0, ?_, ?_⟩
    · refine ⟨_, rfl, rfl, _, rfl, ?_⟩
      refine ite2 (fun _ => ?_) (fun _ => ?_)
      · exact ⟨_, rfl, mkS .non _ _ k2 B2 sF2 (M01_rep _) (.inl ⟨rfl, rfl⟩) fun x d H4 nx nd kk BB up SS => ⟨x, d, D, _, rfl, nx, nd, nD0, kk, BB, up _ _ c1, SS⟩⟩
      refine ⟨_, rfl, rfl, _, rfl, ?_⟩
      refine ite2 (fun _ => ?_) (fun _ => ?_)
      · exact ⟨_, rfl, mkS .non _ _ k2 B2 sF2 (M01_rep _) (.inl ⟨rfl, rfl⟩) fun x d H4 nx nd kk BB up SS => ⟨x, d, D, _, rfl, nx, nd, nD0, kk, BB, up _ _ c1, SS⟩⟩
      refine ⟨_, rfl, ga, rfl, ⟨_, sF2.seq hSf⟩, fun D2 hD2 => ?_⟩
      have nD2b : D2 ≠ b := Ne.symm (B2.nb hD2)
      have nD2l : D2 ≠ l := Ne.symm (B2.nl hD2)
      have nD20 : H D2 = none := k2.free nD2b hD2
      have fD2 : F D2 = none := sF2.free hD2
      refine lc_list (K := K) (a := ga) (xs := xs) (fun i H' => ∃ ms : List Int, H' D2 = some (.lst (ms.map V.int)) ∧ M01 ms i ∧ Kp (fun a => a = b) H2 H' ∧ BoxAt H' b l) ⟨[], upd_same, ⟨rfl, fun m hm => (nomatch hm)⟩, Kp.same (same_new hD2), B2.same (same_new hD2)⟩ (fun i H' _ ⟨_, _, _, h, _⟩ => (L2.Same.kp1 sF2 h hFb).seq hSf) ?_ ?_
      · rintro i xv H3 hx ⟨ms, d1, d2, d3, d4⟩
        have hi := (List.getElem?_eq_some_iff.mp hx).1
        refine ⟨rfl, tyes ?_⟩
        refine ⟨_, rfl, b, l, 2, rfl, d4, by decide, by decide, fun m H4 m0 m1 k4 B4 => ?_⟩
        have d1' := k4 _ _ nD2b d1
        refine ⟨_, d1', by rw [List.length_map, d2.1, sizeLine_eq]; omega, ms ++ [m], ?_, ⟨by rw [List.length_append, d2.1]; rfl, fun q hq => ?_⟩, fun a o na e => ?_, ?_⟩
        · rw [upd_same, List.map_append]
          rfl
        · rcases List.mem_append.mp hq with hq | hq
          · exact d2.2 q hq
          · rw [List.mem_singleton.mp hq]
            omega
        · rw [upd_ne (ne_of_none e hD2)]
          exact (d3.trans k4) a o na e
        · exact B4.kp kp_put (Ne.symm nD2b) (Ne.symm nD2l)
      · rintro H3 ⟨ms, d1, d2, d3, d4⟩
        rw [hxl] at d2
        refine ⟨_, rfl, _, rfl, D2, _, rfl, SqL.of d1, fun st H4 n4 s4 e4 => ?_⟩
        have sF3 := L2.Same.kp1 sF2 d3 hFb
        exact mkS (.ref st) ms _ ((k2.trans d3).trans (Kp.same s4)) (d4.same s4) (sF3.trans s4) d2 (.inr ⟨st, rfl, SqT.of e4⟩) fun x d H5 nx nd kk BB up SS => ⟨x, d, D2, ms, rfl, nx, nd, nD20, kk, BB, up _ _ (s4 _ _ d1), SS⟩
    · rintro σ H3 ⟨x, d, mk, ms, rfl, nx, ndd, nmk, k3, B3, e3m, S3⟩
      have sF3 := S3.sm
      refine ⟨_, rfl, _, rfl, _, rfl, _, rfl, .ref ga, fl sp, rfl, (Dp.lst hSf hAf : Dp K F (.ref ga) _).same sF3, by omega, fun ma H4 s4 F4 => ?_⟩
      refine ⟨_, rfl, vp, ma, mk, sh, sp, ms, rfl, hDp.same (sF3.trans s4), F4, SqL.of (s4 _ _ e3m), S3.m01, hO, fun n H5 s5 hn => ?_⟩
      refine ⟨(by show 2 ≤ sizeLine; decide), fun du H6 n6 s6 e6 => ?_⟩
      refine ⟨(by show 3 ≤ sizeLine; decide), fun h H7 n7 s7 e7 => ?_⟩
      have s37 := ((s4.trans s5).trans s6).trans s7
      have nh3 : H3 h = none := ((s4.trans s5).trans s6).free n7
      have nh0 : H h = none := k3.free (Ne.symm (B3.nb nh3)) nh3
      refine k h x d mk H7 nh0 nx ndd nmk (k3.trans (Kp.same s37)) (B3.same s37) ⟨sF.free nh0, sF.free nmk, ms, sl0, n, Str.ofString "", du, e7, s37 _ _ e3m, SqT.of (s7 _ _ e6), S3.same s37, hn, rfl, IsTx_nil⟩
end
end FF
/-! The newest record asked; a deed. -/
namespace FF
open PySem PySem.Spec PyProof.Rows L2
theorem IsTx.ok {z : Str} (h : IsTx z) : PyData.strOk z = true := strOk_of fun c hc => by
  have := h.2 c hc
  omega
def dueD (n t : Str) : PyData := .tuple [.str n, .str t]
theorem shaped_due {n t : Str} (h1 : PyData.strOk n = true) (h2 : PyData.strOk t = true) : SeqAt.shaped (dueD n t) = true := by
  unfold SeqAt.shaped
  rw [Bool.and_eq_true]
  refine ⟨?_, ?_⟩
  · show PyData.canLay0 (.tuple [.str n, .str t]) = true
    simp [PyData.canLay0, PyData.canLayAll0, h1, h2]
  · show decide (PyData.depth (.tuple [.str n, .str t]) ≤ 64) = true
    simp [PyData.depth, PyData.depthAll]
theorem eqv_due (n t : Str) : PyData.eqv (dueD n t) (dueD n t) = true := by
  show PyData.eqv (.tuple [.str n, .str t]) (.tuple [.str n, .str t]) = true
  rw [PyData.eqv, PyData.eqvAll, PyData.eqvAll, PyData.eqvAll, PyData.eqv, PyData.eqv]
  simp
def spNewL (K : PySem.W.Frag) : Sp := fun vs H Q _ => ∃ (F : Hp) (h x d mk pl : Addr) (s : Sh) (sp : Prs), vs = [.ref h] ∧ HouseAt K F H h x d mk pl s sp ∧ (∀ p ∈ sp, IsNm p.1) ∧ ∀ H' : Hp, Same H H' → Q (.bl true) H'
section
variable {P : Program} {w : World} {K : PySem.W.Frag} {mg : Str → Option Value} {base : Heap}
theorem c_newL (T : Fx K mg) : C8.Cal P w K mg base 6 "_law_newest" (spNewL K) [] := by
  obtain ⟨fdN, psN, FN, bN⟩ := c_nw (P := P) (w := w) (base := base) T
  have cR : C8.Met P w K mg base 2 (aS K) "record" (spRec K) [] := c_rec T
  refine calN T.d_l_newest T.g_l_newest sc_l_newest (fun vs H Q E h => ?_) (fun _ _ _ _ _ _ us hl => match us, hl with | [_], _ => rfl) (fun cdv A outer s H vs Q E hr h => ?_)
  · obtain ⟨_, _, _, _, _, _, _, _, rfl, _⟩ := h
    rfl
  · obtain ⟨F, h, x, d, mk, pl, sh, sp, rfl, hH, hNm, k⟩ := h
    obtain ⟨ms, sl, n, t, du, h1, h2, h3, h4, h5, h6, h7⟩ := hH.ex
    obtain ⟨dx, st, kvs, x1, _, _, _, _⟩ := id h4.at_
    obtain ⟨_, _, _, _, _, _, _, _, _, p⟩ := id h4.plan
    have hO := p.ok
    have nd := sc_l_newest.nd
    have hu : ∀ {j : Nat} {A' : Around}, Room j A' → A'.units + 64 < cLine := fun r => by
      have := r.un
      omega
    refine ⟨_, pss_cons (ps_set (i := 1) nd rfl (Or.inl rfl) (ixl (pv 0) pe_int))
      (pss_cons (ps_set (i := 2) nd rfl (Or.inl rfl) (ixl (pv 0) pe_int))
      (pss_cons (ps_set (i := 3) nd rfl (Or.inl rfl) (pe_prop (pv 1) T.cS T.prop FN (hr.mono (by decide)) bN (.nil) C8.pass0 (E := C8.E0) (by rfl)))
      (pss_cons (ps_if (PW.pt (pw_or (pt_not (pt_val (pe_callB (isiR (K := K) rfl) (by rfl) T.z_isinstance (by decide +kernel) (pa_cons (pv 3) (pa_cons (pe_bltn (v := .ty "tuple") (by rfl) T.z_tuple (by decide +kernel) rfl) pa_nil)))))
          (pw_or1 (pt_cmpR op_ne (pe_callB call_len_seq (by rfl) T.z_len PySem.boot_len (pa_cons (pv 3) pa_nil)) pe_int (nomark _))))) (pss_one (ps_ret pe_bl)) pss_nil)
      (pss_cons (ps_if (PW.pt (pw_or (pt_not (pt_val (pe_callB (isiR (K := K) rfl) (by rfl) T.z_isinstance (by decide +kernel) (pa_cons (ixt (pv 3) pe_int) (pa_cons (pe_bltn (v := .ty "str") (by rfl) T.z_str (by decide +kernel) rfl) pa_nil)))))
          (pw_or1 (pt_not (pt_val (pe_callB (isiR (K := K) rfl) (by rfl) T.z_isinstance (by decide +kernel) (pa_cons (ixt (pv 3) pe_int) (pa_cons (pe_bltn (v := .ty "str") (by rfl) T.z_str (by decide +kernel) rfl) pa_nil)))))))) (pss_one (ps_ret pe_bl)) pss_nil)
      (pss_one (ps_ret (pe_and (pe_cmpR (op_eqD (hu hr)) (pv 3) (pv 2) (nomark _)) (pe_one (pe_cmpR op_eq (C8.pe_mt cR hr (by decide) (pv 1) (pa_cons (ixt (pv 2) pe_int) pa_nil)) (ixt (pv 2) pe_int) (nomark _)))))))))), ?_⟩
    refine ⟨_, rfl, h, _, _, .ref x, rfl, rfl, SqL.of h1, rfl, ?_⟩
    refine ⟨_, rfl, h, _, _, .ref du, rfl, rfl, SqL.of h1, rfl, ?_⟩
    refine ⟨_, rfl, x, dx, _, rfl, x1, F, x, d, pl, sh, sp, ms, sl, rfl, h4, fun n' a H1 s1 hn' ea => ?_⟩
    have en : n' = n := by
      have := hO.way_inj hn' h5 rfl
      injection this
    subst en
    rw [h6] at ea
    have Ta := SqT.of (K := K) ea
    have Td := Same.seqT s1 h3
    refine ⟨_, rfl, _, _, "tuple", true, rfl, tyT Ta, by decide +kernel, _, rfl, ?_⟩
    refine iteF ?_
    refine ⟨_, rfl, a, _, rfl, .inr Ta, rfl, _, rfl, ?_⟩
    refine iteF ?_
    refine ⟨_, rfl, a, _, _, .str n', rfl, rfl, Ta, rfl, _, _, "str", true, rfl, .base (.str _), by decide +kernel, _, rfl, ?_⟩
    refine iteF ?_
    refine ⟨_, rfl, a, _, _, .str t, rfl, rfl, Ta, rfl, _, _, "str", true, rfl, .base (.str _), by decide +kernel, _, rfl, ?_⟩
    refine iteF ?_
    have sn := (hNm _ h5).ok
    have Da : Dp K H1 (.ref a) (dueD n' t) := .tup Ta (.cons (.str _) (.cons (.str _) .nil))
    have Dd : Dp K H1 (.ref du) (dueD n' t) := .tup Td (.cons (.str _) (.cons (.str _) .nil))
    refine ⟨_, rfl, _, rfl, dueD n' t, dueD n' t, Da, Dd, shaped_due sn h7.ok, shaped_due sn h7.ok, _, rfl, ?_⟩
    rw [eqv_due]
    refine iteT ?_
    refine ⟨_, rfl, x, dx, _, rfl, s1 _ _ x1, rfl, _, rfl, du, _, _, .str n', rfl, rfl, Td, rfl, F, x, d, pl, sh, sp, ms, sl, n', rfl, h4.same s1, List.mem_map.mpr ⟨_, h5, rfl⟩, ?_⟩
    refine ⟨_, rfl, du, _, _, .str t, rfl, rfl, Td, rfl, rfl, ?_⟩
    have e : decide (V.str (sl n').good = V.str t) = true := decide_eq_true (by rw [h6])
    show Q (.bl (decide (V.str (sl n').good = V.str t))) H1
    rw [e]
    exact k H1 s1
end
end FF
/-! A deed. -/
namespace FF
open PySem PySem.Spec PyProof.Rows L2
def SD (b h x d mk : Addr) : Addr → Prop := fun a => a = b ∨ a = h ∨ a = x ∨ a = d ∨ a = mk
def spDeed (K : PySem.W.Frag) : Sp := fun vs H Q _ => ∃ (F : Hp) (b l h x d mk pl : Addr) (vp vf : V) (s : Sh) (sp : Prs), vs = [.ref b, vp, vf, .ref h] ∧ BoxAt H b l ∧ F b = none ∧ l ≠ mk ∧ HouseAt K F H h x d mk pl s sp ∧ Dp K F vp (.list (sp.map prD)) ∧ Dp K F vf (.list ((fl sp).map prD)) ∧ (∀ p ∈ sp, IsNm p.1) ∧
  ∀ H' : Hp, Kp (SD b h x d mk) H H' → BoxAt H' b l → HouseAt K F H' h x d mk pl s sp → Q (.bl true) H'
/-- behind a write the due record is told -/
theorem due_after {s : Sh} {sp : Prs} {ms : List Int} {sl : Str → Slot} {who n t t0 : Str} {w : List Bool} {m : Int} (hO : Ok s sp) (h01 : M01 ms (fl sp).length) (hok : ∀ n, (sl n).ok) (hw : (who, w) ∈ sp) (hn : (n, told s sp ms) ∈ sp) (hg : (sl n).good = t0) (hm0 : 0 ≤ m)
    (hm : m < (t.length : Int) + 2 + ((tix sp ms who w).length : Nat)) :
    (n, told s sp (turned ms ((tix sp ms who w).take (m - ((t.length : Int) + 2)).toNat))) ∈ sp ∧ (slAfter sl who t m n).good = t0 := by
  refine ⟨?_, ?_⟩
  · by_cases h : (m - ((t.length : Int) + 2)).toNat < (tix sp ms who w).length
    · rw [told_cut hO hw h01 h]
      exact hn
    · have e0 : (m - ((t.length : Int) + 2)).toNat = 0 := by omega
      rw [e0]
      exact hn
  · unfold slAfter
    by_cases e : n = who
    · rw [if_pos e]
      subst e
      have ew : told s sp ms = w := by
        have := hO.name_inj hn hw rfl
        injection this
      have ht : tix sp ms n w = [] := by
        rw [← ew]
        exact tix_told s n
      rw [ht] at hm
      rw [Slot.after_cut _ _ (by simpa using hm)]
      exact hg
    · rw [if_neg e]
      exact hg
theorem due_whole {s : Sh} {sp : Prs} {ms : List Int} {sl : Str → Slot} {who t : Str} {w : List Bool} {m : Int} (hO : Ok s sp) (h01 : M01 ms (fl sp).length) (hok : ∀ n, (sl n).ok) (hw : (who, w) ∈ sp)
    (hm : m = (t.length : Int) + 2 + ((tix sp ms who w).length : Nat)) :
    (who, told s sp (turned ms ((tix sp ms who w).take (m - ((t.length : Int) + 2)).toNat))) ∈ sp ∧ (slAfter sl who t m who).good = t := by
  refine ⟨?_, ?_⟩
  · have e : (m - ((t.length : Int) + 2)).toNat = (tix sp ms who w).length := by omega
    rw [e, List.take_length, told_whole hO hw h01]
    exact hw
  · unfold slAfter
    rw [if_pos rfl, Slot.after_whole _ (hok who) (by omega)]
section
variable {P : Program} {w : World} {K : PySem.W.Frag} {mg : Str → Option Value} {base : Heap}
theorem c_deed (T : Fx K mg) : C8.Cal P w K mg base 8 "_law_deed" (spDeed K) [] := by
  have cD : C8.Cal P w K mg base 1 "_law_draw" spDraw [] := c_draw T
  have cX : C8.Cal P w K mg base 2 "_law_text" spText [] := c_text T
  have cU : C8.Cal P w K mg base 2 "_law_turns" (spTurnsL K) [] := c_turnsL T
  have cC : C8.Cal P w K mg base 2 "_law_cut" spCut [] := c_cut T
  have cM : C8.Cal P w K mg base 7 "_law_make" (spMake K) [] := c_make T
  have cI : C8.Cal P w K mg base 1 "_law_is_integer" spIsInt [] := c_isInt T
  refine calN T.d_l_deed T.g_l_deed sc_l_deed (fun vs H Q E h => ?_) (fun _ _ _ _ _ _ us hl => match us, hl with | [_, _, _, _], _ => rfl) (fun cdv A outer s H vs Q E hr h => ?_)
  · obtain ⟨_, _, _, _, _, _, _, _, _, _, _, _, rfl, _⟩ := h
    rfl
  · obtain ⟨F, b, l, h, x, d, mk, pl, vp, vf, sh, sp, rfl, hB, hFb, hlm, hH, hDp, hDf, hNm, k⟩ := h
    obtain ⟨ms, sl, n, t0, du, h1, h2, h3, h4, h5, h6, h7⟩ := hH.ex
    obtain ⟨dx, st, kvs, x1, _, d1, _, _⟩ := id h4.at_
    obtain ⟨_, _, _, _, _, _, _, _, _, p⟩ := id h4.plan
    have hO := p.ok
    have h01 := h4.m01
    have nd := sc_l_deed.nd
    obtain ⟨pa, xs, rfl, hSp, hAp⟩ := hDp.list_inv
    have hxl : xs.length = sp.length := by rw [hAp.length, List.length_map]
    -- apart
    obtain ⟨_, _, _, _, _, b1, b2, _, _⟩ := id hB
    have nhx : h ≠ x := ne_of h1 x1 fun z => nomatch z
    have nhd : h ≠ d := ne_of h1 d1 fun z => nomatch z
    have nmx : mk ≠ x := ne_of h2 x1 fun z => nomatch z
    have nmd : mk ≠ d := ne_of h2 d1 fun z => nomatch z
    have nhb : h ≠ b := ne_of h1 b1 fun z => nomatch z
    have nmb : mk ≠ b := BoxAt.ne b1 h2
    obtain ⟨nxb, ndb, nxl, ndl⟩ := h4.apart hB
    have notI : ∀ {u v : Addr} {y z : V} {qs : List Int}, H u = some (.lst [.ref v, y, z]) → H u ≠ some (.lst (qs.map V.int)) := fun {u v y z qs} e1 e2 => by
      rw [e1] at e2
      have e3 : [V.ref v, y, z] = qs.map V.int := by injection (Option.some.inj e2)
      cases qs with
      | nil => cases e3
      | cons q r => cases e3
    have nhm : h ≠ mk := fun z => by
      rw [← z] at h2
      exact notI h1 h2
    have nhl : h ≠ l := fun z => by
      rw [← z] at b2
      exact notI h1 b2
    have few := hO.few
    refine ⟨_, pss_cons (ps_set (i := 4) nd rfl (Or.inl rfl) (ixt (ixl (pv 1) (C8.pe_c cD hr (by decide) (by rfl) (pa_cons (pv 0) (pa_cons (pe_callB call_len_seq (by rfl) T.z_len PySem.boot_len (pa_cons (pv 1) pa_nil)) pa_nil)))) pe_int))
      (pss_cons (ps_set (i := 5) nd rfl (Or.inl rfl) (C8.pe_c cX hr (by decide) (by rfl) (pa_cons (pv 0) pa_nil)))
      (pss_cons (ps_set (i := 6) nd rfl (Or.inl rfl) (C8.pe_c cU hr (by decide) (by rfl) (pa_cons (pv 1) (pa_cons (pv 2) (pa_cons (ixl (pv 3) pe_int) (pa_cons (pv 4) pa_nil))))))
      (pss_cons (ps_set (i := 7) nd rfl (Or.inl rfl) (pe_op op_add (pe_op op_add (pe_callB call_len_str (by rfl) T.z_len PySem.boot_len (pa_cons (pv 5) pa_nil)) pe_int) (pe_callB call_len_seq (by rfl) T.z_len PySem.boot_len (pa_cons (pv 6) pa_nil))))
      (pss_cons (ps_set (i := 8) nd rfl (Or.inl rfl) (C8.pe_c cC hr (by decide) (by rfl) (pa_cons (pv 0) (pa_cons (pe_callB call_len_str (by rfl) T.z_len PySem.boot_len (pa_cons (pv 5) pa_nil)) (pa_cons (pv 7) pa_nil)))))
      (pss_cons (ps_set (i := 9) nd rfl (Or.inl rfl) (C8.pe_c cM hr (by decide) (by rfl) (pa_cons (pv 0) (pa_cons (ixl (pv 3) pe_int) (pa_cons (pv 4) (pa_cons (pv 5) (pa_cons (pv 8) (pa_cons (pv 7) pa_nil))))))))
      (pss_cons (ps_for PassesOwn.never rfl (pi_list (pe_slice slN (pv 6) po_none (po_some (pe_callB (call_max2 rfl) (by rfl) T.z_max (by decide +kernel) (pa_cons pe_int (pa_cons (pe_op op_sub (pe_op op_sub (pv 8) (pe_callB call_len_str (by rfl) T.z_len PySem.boot_len (pa_cons (pv 5) pa_nil))) pe_int) pa_nil)))))) (pg_name (i := 10) nd rfl (Or.inl rfl))
        (pss_one (ps_asg (pe_op op_sub pe_int (ixl (ixl (pv 3) pe_int) (pv 10))) (pg_sub (ixl (pv 3) pe_int) (pv 10) set_list))))
      (C8.pss_cut (ps_if (pt_cmpR op_eq (pv 8) (pv 7) (nomark _)) (pss_one (ps_asg (tupN (pa_cons (pv 4) (pa_cons (pv 5) pa_nil))) (pg_sub (pv 3) pe_int set_list))) pss_nil)
      (pss_one (ps_ret (pe_and (C8.pe_c cI hr (by decide) (by rfl) (pa_cons (pv 9) pa_nil)) (pe_one (pe_cmpR op_eq (pv 9) (pv 8) (nomark _))))))))))))), ?_⟩
    obtain ⟨j0, hj0⟩ : ∃ q, q ∈ sp := ⟨_, h5⟩
    have spos : 0 < sp.length := List.length_pos_of_mem hj0
    have kS : ∀ {H1 H2 : Hp}, Kp (fun a => a = b) H1 H2 → Kp (SD b h x d mk) H1 H2 := fun k' => k'.mono fun a z => .inl z
    have sSF : ∀ {H' : Hp}, Kp (SD b h x d mk) H H' → Same F H' := fun k' => L2.Same.kp h4.sm k' fun a o e z => by
      rcases z with z | z | z | z | z
      · rw [z, hFb] at e; cases e
      · rw [z, hH.fh] at e; cases e
      · rw [z, h4.fx] at e; cases e
      · rw [z, h4.fd] at e; cases e
      · rw [z, hH.fm] at e; cases e
    -- who
    refine ⟨_, rfl, _, rfl, _, rfl, pa, _, rfl, .inl (h4.sm.seq hSp), b, l, (xs.length : Nat), rfl, hB, by omega, by omega, fun j H1 hj0 hj1 k1 B1 => ?_⟩
    have K1 := kS k1
    obtain ⟨j, rfl⟩ := Int.eq_ofNat_of_zero_le hj0
    have hjl : j < sp.length := by omega
    obtain ⟨pw, hpw⟩ : ∃ q, sp[j]? = some q := ⟨_, List.getElem?_eq_getElem hjl⟩
    obtain ⟨who, w⟩ := pw
    have hw : (who, w) ∈ sp := List.mem_of_getElem? hpw
    obtain ⟨xv, hxv, Dxv⟩ := hAp.get (i := j) (d := prD (who, w)) (by rw [List.getElem?_map, hpw]; rfl)
    obtain ⟨tp, u1, u2, rfl, htp, Du1, Du2⟩ := Dp.pair_inv (show Dp K F xv (.tuple [.str who, .str (wS w)]) from Dxv)
    obtain rfl := Du1.str_inv
    refine ⟨pa, _, _, .ref tp, rfl, rfl, (sSF K1).seq hSp, atI_nat hxv, ?_⟩
    refine ⟨tp, _, _, .str who, rfl, rfl, Same.seqT (sSF K1) htp, rfl, ?_⟩
    -- text
    refine ⟨_, rfl, b, l, rfl, B1, fun t H2 ht k2 B2 => ?_⟩
    have K2 := K1.trans (kS k2)
    have hl := ht.len
    have h1_2 : H2 h = some (.lst [.ref x, .ref mk, .ref du]) := (k1.trans k2) _ _ nhb h1
    have h2_2 : H2 mk = some (.lst (ms.map V.int)) := (k1.trans k2) _ _ nmb h2
    -- turns
    refine ⟨_, rfl, _, rfl, _, rfl, h, _, _, .ref mk, rfl, rfl, SqL.of h1_2, rfl, _, rfl, ?_⟩
    refine ⟨.ref pa, vf, mk, sh, sp, ms, who, w, rfl, (Dp.lst hSp hAp : Dp K F (.ref pa) _).same (sSF K2), hDf.same (sSF K2), SqL.of h2_2, h01, hO, hNm, hw, fun ta H3 n3 s3 e3 => ?_⟩
    have K3 := K2.trans (Kp.same s3)
    have B3 := B2.same s3
    have hdw : w.length ≤ 11 := hO.depth hw
    have hwl := wrong_len (fl sp) ms w
    have htl : (tix sp ms who w).length ≤ 11 := by
      rw [tix_len]
      omega
    -- total
    refine ⟨_, rfl, _, rfl, by rw [sizeLine_eq]; omega, _, _, rfl, rfl, _, rfl, ta, _, rfl, .inl (SqL.of e3), _, _, rfl, rfl, ?_⟩
    rw [nV_len]
    -- many
    refine ⟨_, rfl, _, rfl, _, rfl, by rw [sizeLine_eq]; omega, _, rfl, b, l, (t.length : Nat), (t.length : Int) + 2 + ((tix sp ms who w).length : Nat), rfl, B3, by omega, by omega, by omega, fun m H4 hm0 hm1 k4 B4 => ?_⟩
    have K4 := K3.trans (kS k4)
    have kb4 : Kp (fun a => a = b) H H4 := ((k1.trans k2).trans (Kp.same s3)).trans k4
    have S4 : StoreAt K F H4 x d pl sh sp ms sl := h4.draw hB kb4 hFb
    have h1_4 : H4 h = some (.lst [.ref x, .ref mk, .ref du]) := kb4 _ _ nhb h1
    have h2_4 : H4 mk = some (.lst (ms.map V.int)) := kb4 _ _ nmb h2
    have nta : H ta = none := (((k1.trans k2) : Kp (fun a => a = b) H H2)).free (Ne.symm (B2.nb n3)) n3
    have e4 : H4 ta = some (.lst (nV (tix sp ms who w))) := k4 _ _ (Ne.symm (B2.nb n3)) e3
    -- made
    refine ⟨_, rfl, _, rfl, h, _, _, .ref x, rfl, rfl, SqL.of h1_4, rfl, _, rfl, _, rfl, _, rfl, _, rfl, ?_⟩
    refine ⟨F, b, l, x, d, pl, sh, sp, ms, sl, who, w, t, m, rfl, B4, hFb, S4, hw, ht, hm0, hm1, fun H5 k5 B5 S5 => ?_⟩
    have k5' : Kp (SD b h x d mk) H4 H5 := k5.mono fun a z => by
      rcases z with z | z | z
      · exact .inl z
      · exact .inr (.inr (.inl z))
      · exact .inr (.inr (.inr (.inl z)))
    have K5 := K4.trans k5'
    have off5 : ∀ a, a ≠ b → a ≠ x → a ≠ d → ¬ (a = b ∨ a = x ∨ a = d) := fun a y1 y2 y3 z => z.elim y1 fun z => z.elim y2 y3
    have ntx : ta ≠ x := fun z => by rw [z, x1] at nta; cases nta
    have ntd : ta ≠ d := fun z => by rw [z, d1] at nta; cases nta
    have ntm : ta ≠ mk := fun z => by rw [z, h2] at nta; cases nta
    have nth : ta ≠ h := fun z => by rw [z, h1] at nta; cases nta
    have e5 := k5 _ _ (off5 _ (Ne.symm (B2.nb n3)) ntx ntd) e4
    have h1_5 := k5 _ _ (off5 _ nhb nhx nhd) h1_4
    have h2_5 := k5 _ _ (off5 _ nmb nmx nmd) h2_4
    obtain ⟨dn, hdn⟩ : ∃ dn : Nat, dn = (m - ((t.length : Int) + 2)).toNat := ⟨_, rfl⟩
    have hdl : dn ≤ (tix sp ms who w).length := by omega
    rw [← hdn] at S5
    -- the marks
    refine ⟨_, rfl, _, rfl, _, rfl, _, rfl, by rw [sizeLine_eq]; omega, _, _, rfl, rfl, _, _, rfl, rfl, 0, m - ((t.length : Nat) : Int) - 2, rfl, ?_⟩
    have ed : (if m - ((t.length : Nat) : Int) - 2 > 0 then m - ((t.length : Nat) : Int) - 2 else 0) = (dn : Int) := by
      split
      · omega
      · omega
    rw [ed]
    refine ⟨_, rfl, ta, _, rfl, SqL.of e5, fun la H6 n6 s6 e6 => ?_⟩
    rw [cut_to _ _ (by rw [nV_len]; exact hdl)] at e6
    have ecut : (nV (tix sp ms who w)).take dn = nV ((tix sp ms who w).take dn) := by
      unfold nV
      rw [List.map_take]
    rw [ecut] at e6
    have nlm : la ≠ mk := fun z => by rw [z, h2_5] at n6; cases n6
    have lasq : ∀ {H'}, Kp (fun a => a = mk) H6 H' → SqL K H' la (nV ((tix sp ms who w).take dn)) := fun k' => SqL.of (k' _ _ nlm e6)
    refine ⟨la, rfl, ⟨_, SqL.of e6⟩, for_list (K := K) (a := la) (xs := nV ((tix sp ms who w).take dn)) (fun i σ H' => ∃ y10 : Option V, σ = [some (.ref b), some (.ref pa), some vf, some (.ref h), some (.str who), some (.str t), some (.ref ta), some (.int ((t.length : Int) + 2 + ((tix sp ms who w).length : Nat))), some (.int m), some (.int m), y10] ∧
      H' mk = some (.lst ((turned ms (((tix sp ms who w).take dn).take i)).map V.int)) ∧ Kp (fun a => a = mk) H6 H') ⟨none, rfl, s6 _ _ h2_5, Kp.refl⟩ (fun i σ H' _ ⟨_, _, _, k'⟩ => lasq k') ?_ ?_⟩
    · rintro i xv σ H7 hxv ⟨y10, rfl, e7, k7⟩
      obtain ⟨jj, hjj, rfl⟩ := nV_get hxv
      have hjt : jj ∈ (tix sp ms who w) := List.mem_of_mem_take (List.mem_of_getElem? hjj)
      have hjl := tix_lt hO.nod hw hjt
      have m7 := turned_01 (((tix sp ms who w).take dn).take i) h01
      obtain ⟨q, q1, q2, _⟩ := m7.get hjl
      have h1_7 := k7 _ _ nhm (s6 _ _ h1_5)
      refine ⟨_, rfl, h, _, _, .ref mk, rfl, rfl, SqL.of h1_7, rfl, _, rfl, mk, _, _, .int q, rfl, rfl, SqL.of e7, atI_nat (by rw [List.getElem?_map, q1]; rfl), _, _, rfl, rfl, ?_⟩
      refine ⟨_, rfl, h, _, _, .ref mk, rfl, rfl, SqL.of h1_7, rfl, _, rfl, mk, _, _, jj, rfl, rfl, e7, ixN_at (by rw [List.length_map, m7.1]; exact hjl), ?_⟩
      refine put fun H8 k8 e8 => ?_
      refine ⟨_, rfl, ?_, k7.trans k8⟩
      rw [e8, take_snoc hjj, turned_snoc, List.map_set, q2]
    · rintro σ H7 ⟨y10, rfl, e7, k7⟩
      rw [nV_len, List.take_length] at e7
      have K7 : Kp (SD b h x d mk) H H7 := (K5.trans (Kp.same s6)).trans (k7.mono fun a z => .inr (.inr (.inr (.inr z))))
      have h1_7 := k7 _ _ nhm (s6 _ _ h1_5)
      have mkT : ∀ a, a = mk → ∀ ys, ¬ Rd H6 a (.tup ys) := fun a z => by rw [z]; exact lst_noT (s6 _ _ h2_5)
      have S7 := (S5.same s6).kp k7 (fun a z => by rw [z]; exact hH.fm) (Ne.symm nmx) (Ne.symm nmd) mkT
      have B7 := (B5.same s6).kp k7 (Ne.symm nmb) hlm
      have hdu7 : SqT K H7 du [.str n, .str t0] := by
        refine SqT.kpG k7 mkT (Same.seqT s6 (SqT.kpG k5 (fun a z => ?_) (SqT.kpG kb4 (fun a z => by rw [z]; exact box_noT hB) h3)))
        obtain ⟨dx4, st4, kvs4, x14, _, d14, _, _⟩ := S4.at_
        rcases z with z | z | z
        · rw [z]; exact box_noT B4
        · rw [z]; exact ins_noT x14
        · rw [z]; exact dK_noT d14
      refine ⟨fun σ H' => ∃ y10 : Option V, σ = [some (.ref b), some (.ref pa), some vf, some (.ref h), some (.str who), some (.str t), some (.ref ta), some (.int ((t.length : Int) + 2 + ((tix sp ms who w).length : Nat))), some (.int m), some (.int m), y10] ∧ Kp (SD b h x d mk) H H' ∧ BoxAt H' b l ∧ HouseAt K F H' h x d mk pl sh sp, ?_, ?_⟩
      · refine ⟨_, rfl, _, rfl, rfl, _, rfl, ?_⟩
        refine ite2 (fun q => ?_) (fun q => ?_)
        · have em : m = (t.length : Int) + 2 + ((tix sp ms who w).length : Nat) := by
            have := of_decide_eq_true q
            injection this
          refine ⟨_, rfl, _, rfl, (by show 2 ≤ sizeLine; decide), fun du' H8 n8 s8 e8 => ?_⟩
          have h1_8 := s8 _ _ h1_7
          refine ⟨_, rfl, h, _, _, 2, rfl, rfl, h1_8, rfl, ?_⟩
          refine put fun H9 k9 e9 => ?_
          have hT9 : ∀ a, a = h → ∀ ys, ¬ Rd H8 a (.tup ys) := fun a z => by rw [z]; exact lst_noT h1_8
          obtain ⟨g1, g2⟩ := due_whole (sl := sl) hO h01 h4.sok hw em
          rw [← hdn] at g1
          refine ⟨_, rfl, (K7.trans (Kp.same s8)).trans (k9.mono fun a z => .inr (.inl z)), (B7.same s8).kp k9 (Ne.symm nhb) (Ne.symm nhl), hH.fh, hH.fm, _, slAfter sl who t m, who, t, du', ?_, k9 _ _ (Ne.symm nhm) (s8 _ _ e7), SqT.kpG k9 hT9 (SqT.of e8), (S7.same s8).kp k9 (fun a z => by rw [z]; exact hH.fh) (Ne.symm nhx) (Ne.symm nhd) hT9, g1, g2, ht⟩
          rw [e9]
          rfl
        · have nm : m ≠ (t.length : Int) + 2 + ((tix sp ms who w).length : Nat) := fun z => q (decide_eq_true (by rw [← z]))
          obtain ⟨g1, g2⟩ := due_after (sl := sl) (t := t) hO h01 h4.sok hw h5 h6 hm0 (by omega)
          rw [← hdn] at g1
          exact ⟨_, rfl, K7, B7, hH.fh, hH.fm, _, slAfter sl who t m, n, t0, du, h1_7, e7, hdu7, S7, g1, g2, h7⟩
      · rintro σ H8 ⟨y, rfl, K8, B8, A8⟩
        refine ⟨_, rfl, m, rfl, _, rfl, ?_⟩
        refine iteT ?_
        refine ⟨_, rfl, _, rfl, rfl, ?_⟩
        have e : decide (V.int m = V.int m) = true := decide_eq_true rfl
        show Q (.bl (decide (V.int m = V.int m))) H8
        rw [e]
        exact k H8 K8 B8 A8
end
end FF
/-! What is frozen beside the box; two houses. -/
namespace FF
open PySem PySem.Spec PyProof.Rows L2
/-! ### the heap without the box -/
section
variable {K : PySem.W.Frag} {H : Hp} {b l : Addr} {p g q c : Int}
theorem drop_same : Same (ItX.dropH H b) H := fun a o e => by
  by_cases h : a = b
  · rw [h, ItX.dropH_same] at e
    cases e
  · rwa [ItX.dropH_ne h] at e
abbrev BoxL (l : Addr) (p g q c : Int) : List V := [.ref l, .int p, .int g, .int q, .int c]
theorem SqL.off {a : Addr} {xs : List V} (hb : H b = some (.lst (BoxL l p g q c))) (hne : xs ≠ BoxL l p g q c) (h : SqL K H a xs) : SqL K (ItX.dropH H b) a xs := by
  have ne : ∀ {o}, H a = some o → (o = .lst xs ∨ ∃ ob, o = .frz ob (.lst xs)) → a ≠ b := fun {o} e ho z => by
    rw [z, hb] at e
    rcases ho with rfl | ⟨ob, rfl⟩
    · exact hne (by injection (Option.some.inj e).symm)
    · cases e
  rcases h with (h | ⟨o, h⟩) | h
  · exact .inl (.inl (by rw [ItX.dropH_ne (ne h (.inl rfl))]; exact h))
  · exact .inl (.inr ⟨o, by rw [ItX.dropH_ne (ne h (.inr ⟨_, rfl⟩))]; exact h⟩)
  · exact .inr h
theorem SqT.off {a : Addr} {xs : List V} (hb : H b = some (.lst (BoxL l p g q c))) (h : SqT K H a xs) : SqT K (ItX.dropH H b) a xs := by
  rcases h with (h | ⟨o, h⟩) | h
  · exact .inl (.inl (by rw [ItX.dropH_ne (fun z => by rw [z, hb] at h; cases h)]; exact h))
  · exact .inl (.inr ⟨o, by rw [ItX.dropH_ne (fun z => by rw [z, hb] at h; cases h)]; exact h⟩)
  · exact .inr h
mutual
theorem Dp.off (hb : H b = some (.lst (BoxL l p g q c))) : ∀ {d : PyData} {v : V}, noL d = true → Dp K H v d → Dp K (ItX.dropH H b) v d
  | _, _, _, .non => .non
  | _, _, _, .bl b => .bl b
  | _, _, _, .int i => .int i
  | _, _, _, .str x => .str x
  | _, _, n, .lst h a => by rw [noL] at n; cases n
  | _, _, n, .tup h a => .tup (SqT.off hb h) (DpAll.off hb (by rw [noL] at n; exact n) a)
theorem DpAll.off (hb : H b = some (.lst (BoxL l p g q c))) : ∀ {ds : List PyData} {vs : List V}, noLs ds = true → DpAll K H vs ds → DpAll K (ItX.dropH H b) vs ds
  | _, _, _, .nil => .nil
  | _, _, n, .cons h t => by
    rw [noLs, Bool.and_eq_true] at n
    exact .cons (Dp.off hb n.1 h) (DpAll.off hb n.2 t)
end
/-- a list of tuples -/
theorem Dp.offL {α : Type} {v : V} (hb : H b = some (.lst (BoxL l p g q c))) (G : α → PyData) (hG : ∀ a, noL (G a) = true) (hT : ∀ a, ∃ xs, G a = .tuple xs) {L : List α} (h : Dp K H v (.list (L.map G))) : Dp K (ItX.dropH H b) v (.list (L.map G)) := by
  obtain ⟨a, xs, rfl, hS, hA⟩ := h.list_inv
  refine .lst (SqL.off hb (fun z => ?_) hS) (DpAll.off hb (noLs_map _ hG _) hA)
  rw [z] at hA
  cases L with
  | nil => cases hA
  | cons x L => cases L with
    | nil =>
      cases hA with
      | cons _ t => cases t
    | cons y L =>
      cases hA with
      | cons _ t => cases t with
        | cons t2 _ =>
          obtain ⟨us, e⟩ := hT y
          rw [e] at t2
          cases t2
theorem PlanAt.off {pl : Addr} {s : Sh} {sp : Prs} (hb : H b = some (.lst (BoxL l p g q c))) (h : PlanAt K H pl s sp) : PlanAt K (ItX.dropH H b) pl s sp := by
  obtain ⟨dx, na, ca, za, wa, fa, la, vt, vw, P⟩ := h
  have ne : ∀ {a : Addr} {o : HO}, H a = some o → (∀ xs, o ≠ .lst xs) → ItX.dropH H b a = some o := fun {a o} e ho => by
    rw [ItX.dropH_ne (fun z => by
      rw [z, hb] at e
      exact ho _ (Option.some.inj e).symm)]
    exact e
  refine ⟨dx, na, ca, za, wa, fa, la, vt, vw, ne P.ins fun _ z => (nomatch z), SqL.off hb (fun z => ?_) P.nms, Dp.offL hb clD noL_cl (fun a => ⟨_, rfl⟩) P.cls, SqL.off hb (fun z => ?_) P.szs, ?_, ?_, ?_, P.ok⟩
  · cases e : sp.map (·.1) with
    | nil => rw [e] at z; cases z
    | cons y r => rw [e] at z; cases z
  · cases e : (cl sp).length with
    | zero => rw [e] at z; cases z
    | succ n => rw [e, List.replicate_succ] at z; cases z
  · obtain ⟨kvs, h1, h2⟩ := P.wys
    exact ⟨kvs, ne h1 fun _ z => (nomatch z), h2⟩
  · obtain ⟨H0, kvs, h1, h2, h3, h4⟩ := P.flg
    refine ⟨H0, kvs, ne h1 fun _ z => (nomatch z), fun f hf => ?_, h3, h4⟩
    obtain ⟨ra, a1, a2, a3⟩ := h2 f hf
    refine ⟨ra, a1, ?_, a3⟩
    rw [ItX.dropH_ne (fun z => ?_)]
    · exact a2
    · rw [z, hb] at a2
      have e : BoxL l p g q c = nV (ixs (fl sp) f) := by injection (Option.some.inj a2)
      cases e2 : ixs (fl sp) f with
      | nil => rw [e2] at e; cases e
      | cons y r => rw [e2] at e; cases e
  · obtain ⟨kvs, h1, h2⟩ := P.lvs
    exact ⟨kvs, ne h1 fun _ z => (nomatch z), h2⟩
end
/-! ### houses -/
section
variable {K : PySem.W.Frag} {F H H' : Hp} {b l pl : Addr} {s : Sh} {sp : Prs}
structure Hs where
  h : Addr
  x : Addr
  d : Addr
  m : Addr
def Hs.has (q : Hs) (a : Addr) : Prop := a = q.h ∨ a = q.x ∨ a = q.d ∨ a = q.m
abbrev HsAt (K : PySem.W.Frag) (F H : Hp) (pl : Addr) (s : Sh) (sp : Prs) (q : Hs) : Prop := HouseAt K F H q.h q.x q.d q.m pl s sp
theorem Hs.here {q : Hs} (A : HsAt K F H pl s sp q) : ∀ a, q.has a → F a = none ∧ ∃ o, H a = some o ∧ ∀ ys, ¬ Rd H a (.tup ys) := by
  obtain ⟨ms, sl, n, t, du, h1, h2, h3, h4, h5, h6, h7⟩ := A.ex
  obtain ⟨dx, st, kvs, x1, _, d1, _, _⟩ := id h4.at_
  rintro a (rfl | rfl | rfl | rfl)
  · exact ⟨A.fh, _, h1, lst_noT h1⟩
  · exact ⟨h4.fx, _, x1, ins_noT x1⟩
  · exact ⟨h4.fd, _, d1, dK_noT d1⟩
  · exact ⟨A.fm, _, h2, lst_noT h2⟩
theorem Hs.ne_b {q : Hs} (A : HsAt K F H pl s sp q) (hB : BoxAt H b l) : ∀ a, q.has a → a ≠ b := by
  obtain ⟨ms, sl, n, t, du, h1, h2, h3, h4, h5, h6, h7⟩ := A.ex
  obtain ⟨_, _, _, _, _, b1, b2, _, _⟩ := id hB
  obtain ⟨nxb, ndb, _, _⟩ := h4.apart hB
  rintro a (rfl | rfl | rfl | rfl)
  · exact ne_of h1 b1 fun z => nomatch z
  · exact nxb
  · exact ndb
  · exact BoxAt.ne b1 h2
/-- a house stays where what changes is neither its own nor frozen nor a tuple -/
theorem Hs.kp {q : Hs} {S : Addr → Prop} (A : HsAt K F H pl s sp q) (k : Kp S H H') (hF : ∀ a, S a → F a = none) (hn : ∀ a, q.has a → ¬ S a) (hT : ∀ a, S a → ∀ ys, ¬ Rd H a (.tup ys)) : HsAt K F H' pl s sp q :=
  HouseAt.kp A k hF (hn _ (.inl rfl)) (hn _ (.inr (.inl rfl))) (hn _ (.inr (.inr (.inl rfl)))) (hn _ (.inr (.inr (.inr rfl)))) hT
theorem Hs.draw {q : Hs} (A : HsAt K F H pl s sp q) (hB : BoxAt H b l) (k : Kp (fun a => a = b) H H') (hb : F b = none) : HsAt K F H' pl s sp q :=
  Hs.kp A k (fun a z => by rw [z]; exact hb) (fun a ha z => Hs.ne_b A hB a ha z) fun a z => by rw [z]; exact box_noT hB
theorem SD_iff {q : Hs} {a : Addr} : SD b q.h q.x q.d q.m a ↔ a = b ∨ q.has a := Iff.rfl
theorem Hs.deed {q r : Hs} (A : HsAt K F H pl s sp q) (R : HsAt K F H pl s sp r) (hB : BoxAt H b l) (k : Kp (SD b r.h r.x r.d r.m) H H') (hb : F b = none) (hap : ∀ a, q.has a → ¬ r.has a) : HsAt K F H' pl s sp q := by
  refine Hs.kp A k (fun a z => ?_) (fun a ha z => ?_) (fun a z => ?_)
  · rcases z with rfl | z
    · exact hb
    · exact (Hs.here R a z).1
  · rcases z with z | z
    · exact Hs.ne_b A hB a ha z
    · exact hap a ha z
  · rcases z with rfl | z
    · exact box_noT hB
    · obtain ⟨_, _, _, n⟩ := Hs.here R a z
      exact n
end
end FF
/-! The law. -/
namespace FF
open PySem PySem.Spec PyProof.Rows L2
def spLaw (K : PySem.W.Frag) : Sp := fun vs H Q _ => ∃ (a : Addr) (ns : List Int), vs = [.ref a] ∧ SqL K H a (ns.map V.int) ∧ ∀ H' : Hp, Q (.bl true) H'
theorem tree_ok {nm : List Bool → Str} {s : Sh} {sp : Prs} (hO : Ok s sp) (hnm : ∀ p ∈ sp, nm p.2 = p.1) (h : ∀ p ∈ sp, IsNm p.1) : TreeOk nm s where
  nms := fun w hw => by
    obtain ⟨n, hn⟩ := hO.of_way hw
    rw [hnm _ hn]
    exact h _ hn
  nod := by
    have e := map_agree hnm
    have h1 := hO.per.map nm
    rw [e] at h1
    exact h1.nodup_iff.mp hO.nod
  few := by
    have := hO.per.length_eq
    rw [List.length_map] at this
    have := hO.few
    omega
section
variable {w : World} {K : PySem.W.Frag} {mg : Str → Option Value} {base : Heap}
theorem f_law (T : Fx K mg) {fd : FuncData} (F0 : FunD K "law" "law" (defArgs s_law) (defBody s_law) (defScope s_law) [] [] (He.fAd K ("law", none)) fd) : FnOk PW0 w K mg base C8.CX0 17 (He.fAd K ("law", none)) fd ["_law_script"] (spLaw K) := by
  have cD : C8.Cal PW0 w K mg base 1 "_law_draw" spDraw [] := c_draw T
  have cB : C8.Cal PW0 w K mg base 1 "_law_box" (spBox K) [] := c_box T
  have cW : C8.Cal PW0 w K mg base 14 "_law_world" (spWorld K) [] := c_world T
  have cF : C8.Cal PW0 w K mg base 1 "_law_flags" (spFlags K) [] := c_flags T
  have cP : C8.Mak PW0 w K mg base 15 "ForkPlan" (aF K) (spFI K) [] := c_plan T
  have cS : C8.Cal PW0 w K mg base 5 "_law_start" (spStartL K) [] := c_startL T
  have cE : C8.Cal PW0 w K mg base 8 "_law_deed" (spDeed K) [] := c_deed T
  have cN : C8.Cal PW0 w K mg base 6 "_law_newest" (spNewL K) [] := c_newL T
  refine F0.ok sc_law (fun vs H Q E h => ?_) (fun cdv A outer s H vs Q E hr h => ?_)
  · obtain ⟨_, _, rfl, _⟩ := h
    rfl
  · obtain ⟨a, ns, rfl, hS, k⟩ := h
    have nd := sc_law.nd
    suffices hh : ∃ t, PSs (cxOf C8.CX0 PW0 _ K mg base _ _ (defScope s_law) _ cdv A outer s H E).nox (defBody s_law) t ∧ t { nx := fun _ H' => Q .non H', rt := Q } (L2.start ["_law_script", "_law_box_here", "_law_world_here", "_law_pairs", "_law_flags_here", "_law_fork_plan", "_law_houses", "_law_k", "_law_rounds", "_law_asked"] [.ref a]) H by
      obtain ⟨t, a, b⟩ := hh
      exact ⟨t, a.nox, b⟩
    refine ⟨_, pss_cons (ps_set (i := 1) nd rfl (Or.inr rfl) (C8.pe_c cB hr (by decide) (by rfl) (pa_cons (pv 0) pa_nil)))
      (pss_cons (ps_set (i := 2) nd rfl (Or.inl rfl) (C8.pe_c cW hr (by decide) (by rfl) (pa_cons (pv 1) pa_nil)))
      (pss_cons (ps_set (i := 3) nd rfl (Or.inr rfl) (ixl (pv 2) pe_int))
      (pss_cons (ps_set (i := 4) nd rfl (Or.inr rfl) (C8.pe_c cF hr (by decide) (by rfl) (pa_cons (pv 3) pa_nil)))
      (pss_cons (ps_set (i := 5) nd rfl (Or.inr rfl) (C8.pe_mk cP hr (by decide) (by rfl) (pa_cons (ixl (pv 2) pe_int) pa_nil)))
      (pss_cons (ps_setLc (i := 6) (own := [("_law_k", 7)]) (g := gName 7) (tt := tYes) rfl nd rfl (by rfl) (sw_true rfl (by rfl) (by rfl) (by rfl)) (pi_range1 rfl T.z_range (pa_cons pe_int pa_nil))
        (blkOk_by (own := [("_law_k", 7)]) (N := ["_law_script", "_law_box_here", "_law_world_here", "_law_pairs", "_law_flags_here", "_law_fork_plan", "_law_houses", "_law_k", "_law_rounds", "_law_asked"]) (sc := defScope s_law) (by decide +kernel)) (fun _ _ _ _ _ => pg_name (i := 7) nd rfl (Or.inl rfl))
        (fun _ _ _ _ _ => pts_nil) (fun _ _ _ _ _ => C8.pe_c cS hr (by decide) (by rfl) (pa_cons (pv 1) (pa_cons (pv 5) (pa_cons (pv 3) (pa_cons (pv 4) pa_nil))))))
      (pss_cons (ps_set (i := 8) nd rfl (Or.inl rfl) (C8.pe_c cD hr (by decide) (by rfl) (pa_cons (pv 1) (pa_cons pe_int pa_nil))))
      (C8.pss_cut (ps_if (pt_cmpR op_eq (C8.pe_c cD hr (by decide) (by rfl) (pa_cons (pv 1) (pa_cons pe_int pa_nil))) pe_int (nomark _)) (pss_one (ps_set (i := 8) nd rfl (Or.inl rfl) (pe_op op_add pe_int (C8.pe_c cD hr (by decide) (by rfl) (pa_cons (pv 1) (pa_cons pe_int pa_nil)))))) pss_nil)
      (pss_cons (ps_for PassesOwn.never rfl (pi_range1 rfl T.z_range (pa_cons (pv 8) pa_nil)) (pg_name (i := 7) nd rfl (Or.inl rfl))
        (pss_cons (ps_if (pt_not (pt_val (C8.pe_c cE hr (by decide) (by rfl) (pa_cons (pv 1) (pa_cons (pv 3) (pa_cons (pv 4) (pa_cons (ixl (pv 6) (C8.pe_c cD hr (by decide) (by rfl) (pa_cons (pv 1) (pa_cons pe_int pa_nil)))) pa_nil))))))) (pss_one (ps_ret pe_bl)) pss_nil)
        (pss_cons (ps_set (i := 9) nd rfl (Or.inl rfl) (C8.pe_c cD hr (by decide) (by rfl) (pa_cons (pv 1) (pa_cons pe_int pa_nil))))
        (pss_one (ps_if (PW.pt (pw_and (pt_cmpR op_lt (pv 9) pe_int (nomark _)) (pw_and1 (pt_not (pt_val (C8.pe_c cN hr (by decide) (by rfl) (pa_cons (ixl (pv 6) (pv 9)) pa_nil))))))) (pss_one (ps_ret pe_bl)) pss_nil)))))
      (pss_one (ps_ret (pe_and (C8.pe_c cN hr (by decide) (by rfl) (pa_cons (ixl (pv 6) pe_int) pa_nil)) (pe_one (C8.pe_c cN hr (by decide) (by rfl) (pa_cons (ixl (pv 6) pe_int) pa_nil)))))))))))))), ?_⟩
    -- the box, the world
    refine ⟨_, rfl, a, ns, rfl, hS, fun b l H1 s1 n1 B1 => ?_⟩
    refine ⟨_, rfl, b, l, rfl, B1, fun wa sh sp H2 WA k2 B2 => ?_⟩
    obtain ⟨vt, vp, nm, w1, hnm, Dt, Dp2⟩ := WA.at_
    have hO := WA.ok
    have hNm := WA.nm
    refine ⟨_, rfl, wa, _, _, vp, rfl, rfl, SqL.of w1, rfl, ?_⟩
    -- the flags
    refine ⟨_, rfl, vp, sp, rfl, Dp2, fun p hp => hO.depth hp, hO.few, fun fa H3 s3 Df => ?_⟩
    have B3 := B2.same s3
    -- the plan
    refine ⟨_, rfl, wa, _, _, vt, rfl, rfl, SqL.of (s3 _ _ w1), rfl, ?_⟩
    intro x dx hx hdx hne
    have ss := made_same (C := aF K) hx hdx
    obtain ⟨Hm, eHm⟩ : ∃ Hm, upd (upd H3 dx (.own x)) x (.ins (aF K) dx []) = Hm := ⟨_, rfl⟩
    rw [eHm] at ss ⊢
    have exm : Hm x = some (.ins (aF K) dx []) := by rw [← eHm]; exact upd_same
    refine ⟨x, dx, vt, nm, sh, sp, rfl, exm, (Dt.same s3).same ss, tree_ok hO hnm hNm, hO, hnm, WA.up, fun H4 k4 PL => ⟨rfl, ?_⟩⟩
    have k34 : Kp (fun a => a = x) H3 H4 := (Kp.same ss).trans k4
    have s34 : Same H3 H4 := fun a o e => k34 a o (ne_of_none e hx) e
    have B4 := B3.same s34
    have Dp4 : Dp K H4 vp (.list (sp.map prD)) := (Dp2.same s3).same s34
    have Df4 : Dp K H4 (.ref fa) (.list ((fl sp).map prD)) := Df.same s34
    obtain ⟨bns, bp, bg, bq, bc, b1, b2, b3, b4⟩ := id B4
    obtain ⟨F, eF⟩ : ∃ F, ItX.dropH H4 b = F := ⟨_, rfl⟩
    have sF : Same F H4 := by rw [← eF]; exact drop_same
    have hFb : F b = none := by rw [← eF]; exact ItX.dropH_same
    have PF : PlanAt K F x sh sp := by rw [← eF]; exact PlanAt.off b1 PL
    have DpF : Dp K F vp (.list (sp.map prD)) := by rw [← eF]; exact Dp.offL b1 prD noL_pr (fun p => ⟨_, rfl⟩) Dp4
    have DfF : Dp K F (.ref fa) (.list ((fl sp).map prD)) := by rw [← eF]; exact Dp.offL b1 prD noL_pr (fun p => ⟨_, rfl⟩) Df4
    -- the houses
    refine ⟨2, rfl, by decide, by decide, fun D hDn => ?_⟩
    have nDb : D ≠ b := Ne.symm (B4.nb hDn)
    have nDl : D ≠ l := Ne.symm (B4.nl hDn)
    have fD : F D = none := sF.free hDn
    refine lc_range (lo := 0) (n := 2) (fun i H' => ∃ hs : List Hs, hs.length = i ∧ H' D = some (.lst (hs.map fun q => V.ref q.h)) ∧ Kp (fun a => a = b) H4 H' ∧ BoxAt H' b l ∧ (∀ q ∈ hs, HsAt K F H' x sh sp q ∧ (∀ a, q.has a → H4 a = none ∧ a ≠ D)) ∧ hs.Pairwise (fun q r => ∀ a, q.has a → ¬ r.has a))
      ⟨[], rfl, upd_same, Kp.same (same_new hDn), B4.same (same_new hDn), fun q hq => (nomatch hq), List.Pairwise.nil⟩ ?_ ?_
    · rintro i H5 hi ⟨hs, c1, c2, c3, c4, c5, c6⟩
      refine ⟨rfl, tyes ?_⟩
      have sF5 := L2.Same.kp1 sF c3 hFb
      refine ⟨_, rfl, _, rfl, _, rfl, _, rfl, F, b, l, x, vp, .ref fa, sh, sp, rfl, c4, sF5, hFb, PF, DpF, DfF, fun qh qx qd qm H6 nh nx nd' nm' k6 B6 A6 => ?_⟩
      have fresh : ∀ a, Hs.has ⟨qh, qx, qd, qm⟩ a → H5 a = none := by
        rintro a (rfl | rfl | rfl | rfl) <;> assumption
      have c2' : H6 D = some (.lst (hs.map fun q => V.ref q.h)) := k6 _ _ nDb c2
      refine ⟨_, c2', by rw [List.length_map, c1, sizeLine_eq]; omega, hs ++ [⟨qh, qx, qd, qm⟩], by rw [List.length_append, c1]; rfl, ?_, fun a o na e => ?_, B6.kp kp_put (Ne.symm nDb) (Ne.symm nDl), fun q hq => ?_, ?_⟩
      · rw [upd_same, List.map_append]
        rfl
      · rw [upd_ne (ne_of_none e hDn)]
        exact (c3.trans k6) a o na e
      · have dT : ∀ a, a = D → ∀ ys, ¬ Rd H6 a (.tup ys) := fun a z => by rw [z]; exact lst_noT c2'
        rcases List.mem_append.mp hq with hq | hq
        · obtain ⟨g1, g2⟩ := c5 q hq
          exact ⟨Hs.kp (Hs.draw g1 c4 k6 hFb) kp_put (fun a z => by rw [z]; exact fD) (fun a ha z => (g2 a ha).2 z) dT, g2⟩
        · obtain rfl := List.mem_singleton.mp hq
          have g2 : ∀ a, Hs.has ⟨qh, qx, qd, qm⟩ a → H4 a = none ∧ a ≠ D := fun a ha => ⟨c3.free (Ne.symm (c4.nb (fresh a ha))) (fresh a ha), fun z => by
            have := fresh a ha
            rw [z, c2] at this
            cases this⟩
          exact ⟨Hs.kp A6 kp_put (fun a z => by rw [z]; exact fD) (fun a ha z => (g2 a ha).2 z) dT, g2⟩
      · refine List.pairwise_append.mpr ⟨c6, List.pairwise_singleton _ _, fun q hq r hr' a ha ha' => ?_⟩
        obtain rfl := List.mem_singleton.mp hr'
        obtain ⟨_, o, e, _⟩ := Hs.here (c5 q hq).1 a ha
        rw [fresh a ha'] at e
        cases e
    rintro H5 ⟨hs, c1, c2, c3, c4, c5, c6⟩
    obtain ⟨q1, q2, rfl⟩ : ∃ q1 q2, hs = [q1, q2] := by
      match hs, c1 with
      | [q1, q2], _ => exact ⟨q1, q2, rfl⟩
    obtain ⟨A1, g1⟩ := c5 q1 (by simp)
    obtain ⟨A2, g2⟩ := c5 q2 (by simp)
    have ap12 : ∀ a, q1.has a → ¬ q2.has a := (List.pairwise_cons.mp c6).1 q2 (by simp)
    have ap21 : ∀ a, q2.has a → ¬ q1.has a := fun a h2 h1 => ap12 a h1 h2
    have nl : ∀ q : Hs, (∀ a, q.has a → H4 a = none ∧ a ≠ D) → l ≠ q.m := fun q g z => by
      have := (g q.m (.inr (.inr (.inr rfl)))).1
      rw [← z, b2] at this
      cases this
    obtain ⟨W, hW⟩ : ∃ W : Hp → Prop, W = (fun H' => H' D = some (.lst [V.ref q1.h, V.ref q2.h]) ∧ BoxAt H' b l ∧ HsAt K F H' x sh sp q1 ∧ HsAt K F H' x sh sp q2) := ⟨_, rfl⟩
    have W5 : W H5 := by rw [hW]; exact ⟨c2, c4, A1, A2⟩
    have Wd : ∀ {H6 H7 : Hp}, W H6 → Kp (fun a => a = b) H6 H7 → BoxAt H7 b l → W H7 := fun {H6 H7} w6 k7 B7 => by
      rw [hW] at w6 ⊢
      obtain ⟨d1, d2, d3, d4⟩ := w6
      exact ⟨k7 _ _ nDb d1, B7, Hs.draw d3 d2 k7 hFb, Hs.draw d4 d2 k7 hFb⟩
    have Ws : ∀ {H6 H7 : Hp}, W H6 → Same H6 H7 → W H7 := fun {H6 H7} w6 s7 => by
      have B : BoxAt H6 b l := by
        rw [hW] at w6
        exact w6.2.1
      exact Wd w6 (Kp.same s7) (B.same s7)
    have WB : ∀ {H6 : Hp}, W H6 → BoxAt H6 b l := fun {H6} w6 => by
      rw [hW] at w6
      exact w6.2.1
    have WD : ∀ {H6 : Hp}, W H6 → H6 D = some (.lst [V.ref q1.h, V.ref q2.h]) := fun {H6} w6 => by
      rw [hW] at w6
      exact w6.1
    -- one of the two
    have pick : ∀ {j : Int}, 0 ≤ j → j < 2 → ∃ q : Hs, atI [V.ref q1.h, V.ref q2.h] j = some (.ref q.h) ∧ l ≠ q.m ∧ (∀ {H6 : Hp}, W H6 → HsAt K F H6 x sh sp q) ∧
        ∀ {H6 H7 : Hp}, W H6 → Kp (SD b q.h q.x q.d q.m) H6 H7 → BoxAt H7 b l → HsAt K F H7 x sh sp q → W H7 := fun {j} j0 j1 => by
      have hj : j = 0 ∨ j = 1 := by omega
      rcases hj with rfl | rfl
      · refine ⟨q1, rfl, nl q1 g1, fun {H6} w6 => ?_, fun {H6 H7} w6 k7 B7 A7 => ?_⟩
        · rw [hW] at w6
          exact w6.2.2.1
        · rw [hW] at w6 ⊢
          obtain ⟨d1, d2, d3, d4⟩ := w6
          refine ⟨k7 _ _ (fun z => ?_) d1, B7, A7, Hs.deed d4 d3 d2 k7 hFb ap21⟩
          rcases z with z | z
          · exact nDb z
          · exact (g1 D z).2 rfl
      · refine ⟨q2, rfl, nl q2 g2, fun {H6} w6 => ?_, fun {H6 H7} w6 k7 B7 A7 => ?_⟩
        · rw [hW] at w6
          exact w6.2.2.2
        · rw [hW] at w6 ⊢
          obtain ⟨d1, d2, d3, d4⟩ := w6
          refine ⟨k7 _ _ (fun z => ?_) d1, B7, Hs.deed d3 d4 d2 k7 hFb ap12, A7⟩
          rcases z with z | z
          · exact nDb z
          · exact (g2 D z).2 rfl
    -- the rounds
    refine ⟨_, rfl, b, l, 21, rfl, WB W5, by decide, by decide, fun r6 H6 r60 r61 k6 B6 => ?_⟩
    have W6 := Wd W5 k6 B6
    refine ⟨fun σ H' => ∃ (r : Int), σ = [some (.ref a), some (.ref b), some (.ref wa), some vp, some (.ref fa), some (.ref x), some (.ref D), none, some (.int r), none] ∧ 0 ≤ r ∧ r ≤ 40 ∧ W H', ?_, ?_⟩
    · refine ⟨_, rfl, b, l, 8, rfl, B6, by decide, by decide, fun r7 H7 _ _ k7 B7 => ?_⟩
      have W7 := Wd W6 k7 B7
      refine ⟨rfl, _, rfl, ?_⟩
      refine ite2 (fun _ => ?_) (fun _ => ?_)
      · refine ⟨_, rfl, b, l, 21, rfl, B7, by decide, by decide, fun r8 H8 r80 r81 k8 B8 => ?_⟩
        exact ⟨_, _, rfl, rfl, _, rfl, by omega, by omega, Wd W7 k8 B8⟩
      · exact ⟨_, rfl, by omega, by omega, W7⟩
    rintro σ H7 ⟨r, rfl, hr0, hr1, W7⟩
    refine ⟨_, rfl, r, rfl, by omega, by omega, for_range (lo := 0) (n := r.toNat) (fun i σ H' => ∃ (y7 y9 : Option V), σ = [some (.ref a), some (.ref b), some (.ref wa), some vp, some (.ref fa), some (.ref x), some (.ref D), y7, some (.int r), y9] ∧ W H') ⟨none, none, rfl, W7⟩ ?_ ?_⟩
    · rintro i σ H8 hi ⟨y7, y9, rfl, W8⟩
      refine ⟨_, rfl, _, rfl, _, rfl, _, rfl, _, rfl, b, l, 2, rfl, WB W8, by decide, by decide, fun j H9 j0 j1 k9 B9 => ?_⟩
      have W9 := Wd W8 k9 B9
      obtain ⟨q, e1, e2, e3, e4⟩ := pick j0 j1
      refine ⟨D, _, j, .ref q.h, rfl, rfl, SqL.of (WD W9), e1, ?_⟩
      refine ⟨F, b, l, q.h, q.x, q.d, q.m, x, vp, .ref fa, sh, sp, rfl, B9, hFb, e2, e3 W9, DpF, DfF, hNm, fun H10 k10 B10 A10 => ?_⟩
      have W10 := e4 W9 k10 B10 A10
      refine ⟨_, rfl, ?_⟩
      refine iteF ?_
      refine ⟨_, rfl, b, l, 6, rfl, B10, by decide, by decide, fun r11 H11 r110 r111 k11 B11 => ?_⟩
      have W11 := Wd W10 k11 B11
      refine ⟨_, rfl, _, _, rfl, rfl, _, rfl, ?_⟩
      refine ite2 (fun z => ?_) (fun _ => ?_)
      · have z := of_decide_eq_true z
        obtain ⟨q', e1', e2', e3', e4'⟩ := pick r110 z
        refine ⟨_, rfl, _, rfl, D, _, r11, .ref q'.h, rfl, rfl, SqL.of (WD W11), e1', ?_⟩
        refine ⟨F, q'.h, q'.x, q'.d, q'.m, x, sh, sp, rfl, e3' W11, hNm, fun H12 s12 => ⟨_, rfl, ?_⟩⟩
        refine iteF ?_
        exact ⟨_, _, rfl, Ws W11 s12⟩
      · exact ⟨_, _, rfl, W11⟩
    · rintro σ H8 ⟨y7, y9, rfl, W8⟩
      obtain ⟨q, e1, e2, e3, e4⟩ := pick (j := 0) (by decide) (by decide)
      obtain ⟨q', e1', e2', e3', e4'⟩ := pick (j := 1) (by decide) (by decide)
      refine ⟨_, rfl, D, _, 0, .ref q.h, rfl, rfl, SqL.of (WD W8), e1, ?_⟩
      refine ⟨F, q.h, q.x, q.d, q.m, x, sh, sp, rfl, e3 W8, hNm, fun H9 s9 => ⟨_, rfl, ?_⟩⟩
      refine iteT ?_
      have W9 := Ws W8 s9
      refine ⟨_, rfl, D, _, 1, .ref q'.h, rfl, rfl, SqL.of (WD W9), e1', ?_⟩
      exact ⟨F, q'.h, q'.x, q'.d, q'.m, x, sh, sp, rfl, e3' W9, hNm, fun H10 s10 => k H10⟩
end
end FF
/-! The end. -/
namespace FF
open PySem PySem.Spec PyProof.Rows L2
theorem facts {w : World} {K : PySem.W.Frag} {h : Heap} {mg : Str → Option Value} {f : Addr} (X : K.In h) (G : h.Ns mainGlobals mg) (hfa : mg ("law" : Str) = some (.ref f)) (c : SaysM K) :
    ∃ fd : FuncData, (∀ (s : Shared) (v : Value), BindsTo s fd ⟨[v], []⟩ [("_law_script", v)]) ∧ ∀ base : Heap, K.In base → base.Ns mainGlobals mg → FnOk PW0 w K mg base C8.CX0 17 f fd ["_law_script"] (spLaw K) := by
  have T : Fx K mg := fx_of X G c
  obtain ⟨fd, F⟩ := T.d_law
  have e := hfa.symm.trans T.g_law
  cases e
  have b := FunD.bindsA (ps := ["_law_script"]) F fun _ _ _ _ _ _ us hl => match us, hl with | [_], _ => rfl
  exact ⟨fd, fun s v => b s [v] rfl, fun base _ _ => f_law T F⟩
end FF
open PySem PySem.W PySem.Calls PyProof.Rows
theorem PySem.Challenge.cw_forkflags_k51_whole_newest_holds : PySem.Challenge.rw_forkflags_k51_whole_newest.Holds := by
  w_on; o_law
  refine HandSHeadRun.head_any (r := OpenLaw.row PySem.Challenge.rw_forkflags_k51_whole_newest) (q := view (OpenLaw.row PySem.Challenge.rw_forkflags_k51_whole_newest).prog [62]) (H := FF.hk) (ob := FF.ob) (M := 6000) (loose := FF.names) (d := HandSHeadRun.topDef (OpenLaw.row PySem.Challenge.rw_forkflags_k51_whole_newest).prog 62) (kwd := []) FF.ob_eq
    (by kernel_rfl) (fun s => by kernel_rfl) FF.run (by kernel_rfl) (by kernel_rfl) (by kernel_rfl) (by rfl) (by first | assumption | decide +kernel) (by decide +kernel) ⟨rfl, rfl, rfl, rfl, rfl, by decide +kernel⟩ ?hw ?hc
  case hw => w_witness2
  case hc =>
    refine L2.walk_ofE (l := PySem.Challenge.rw_forkflags_k51_whole_newest) (n := 63) (k := 17) (x := "_law_script") (CX := C8.CX0) rfl (by decide) (by kernel_rfl) ⟨rfl, by decide, by decide⟩ ?F (fun _ _ _ _ z => z)
    intro w mg fa h Y G hmg0
    obtain ⟨K, KX, c⟩ := Y
    have hmg : mg ("law" : PySem.Str) = some (.ref fa) := by
      have e : (HandSHeadRun.topDef (OpenLaw.row PySem.Challenge.rw_forkflags_k51_whole_newest).prog 62).name = ("law" : PySem.Str) := by kernel_rfl
      rw [← e]
      exact hmg0
    obtain ⟨fd, hb, hF⟩ := FF.facts (w := w) KX G hmg c
    exact ⟨K, fd, FF.spLaw K, KX, hb, fun H a ns hl _ hS => ⟨a, ns, rfl, hS, fun _ => rfl⟩, hF⟩
