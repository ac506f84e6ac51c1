import PyProof.Rows.All
import Wide.All
import OpenK.AllK
import Wide.FinOn
import HandS.ForMost
import HandS.Exc
import HandS.ExcOwn
import HandS.WordsExc
import HandS.Defaults
import HandS.IsInst
import HandS.ExcIs
import HandS.Head0
import HandS.Head1
import HandS.Head2
import HandS.HeadEnd
import HandS.HeadHook1
import HandS.HeadHook2
import HandS.HeadHook3
import HandS.HeadHook4
import HandS.HeadWalk
import HandS.EndTab
import PyProof.NeKinds
import KE.KDictSum
import PyProof.DictUpdate
import HandS.Conv
import HandS.Strs
import HandS.Zip
import HandS.SetKeys
import HandS.TupAny
import KE.GoesNew
import KE.GoesEnum
import KE.GoesMore
import HandS.Style
import HandS.Rev
import HandS.Small
import PyProof.StrOps2
import PyProof.WalksMore
import PyProof.Rows.SetFrom
import PyProof.SetRoads
import HandS.Words
import HandS.Codes
import HandS.Evl
import HandS.Text
import HandS.ClsMeth
import HandS.Wide
import HandS.WideBits
import HandS.Nested
import KE.GoesCell
import HandS.TryOnly
import PySem.Challenge.RW_rungworks_k73_whole_one_machine
set_option Elab.async false
set_option linter.all false
set_option maxRecDepth 100000
set_option maxHeartbeats 0
/-! The text by places; the facts that the top leaves, by one run (printed by gen_head.py). -/
namespace RgK
open PySem PySem.Spec PyProof.Rows L2
def top (i : Nat) : Stmt := PySem.Challenge.pw_rungworks_k73_whole_one_machine.main.body.getD i (.Pass ⟨0, 0, 0, 0⟩)
abbrev s_is_word : Stmt := top 17
abbrev s_is_name : Stmt := top 18
abbrev s_single : Stmt := top 39
abbrev s_joined : Stmt := top 40
abbrev s_part_of : Stmt := top 41
abbrev s_need_row : Stmt := top 43
abbrev s_counting_ends : Stmt := top 47
abbrev s_bits_of : Stmt := top 48
abbrev s_width : Stmt := top 49
abbrev s_state_of : Stmt := top 50
abbrev s_pieces : Stmt := top 51
abbrev s_works_at : Stmt := top 52
abbrev s_rows : Stmt := top 54
abbrev s_row_of : Stmt := top 55
abbrev s_row_number : Stmt := top 56
abbrev s_step : Stmt := top 57
abbrev s_wired : Stmt := top 61
abbrev s_timer_act : Stmt := top 62
abbrev s_counter_act : Stmt := top 63
abbrev s_coil_act : Stmt := top 64
abbrev s_latch_act : Stmt := top 65
abbrev s_unlatch_act : Stmt := top 66
abbrev s_act_of : Stmt := top 67
abbrev s_sizes_of : Stmt := top 68
abbrev s_numbers_in : Stmt := top 69
abbrev s_packed : Stmt := top 70
abbrev s_bits_by : Stmt := top 71
abbrev s_wired_ladder : Stmt := top 72
abbrev s_need_between : Stmt := top 78
abbrev s_need_single : Stmt := top 79
abbrev s_need_own : Stmt := top 80
abbrev s_law_cell_at : Stmt := top 83
abbrev s_law_mixed : Stmt := top 84
abbrev s_law_word : Stmt := top 85
abbrev s_law_names : Stmt := top 86
abbrev s_law_grown : Stmt := top 87
abbrev s_law_size : Stmt := top 88
abbrev s_law_trees : Stmt := top 89
abbrev s_law_rungs : Stmt := top 90
abbrev s_law_names_of : Stmt := top 91
abbrev s_law_model : Stmt := top 92
abbrev s_law_end : Stmt := top 93
abbrev s_law_ladder : Stmt := top 94
abbrev s_law_bits : Stmt := top 95
abbrev s_law_told : Stmt := top 96
abbrev s_law_far : Stmt := top 97
abbrev s_law_step : Stmt := top 98
abbrev s_law : Stmt := top 99
abbrev s_Fixed_init : Stmt := inClass (top 32) 0
abbrev s_Fixed_inner : Stmt := inClass (top 31) 0
abbrev s_Fixed_holds : Stmt := inClass (top 32) 1
abbrev s_Fixed_size : Stmt := inClass (top 31) 4
abbrev s_Fixed_depth : Stmt := inClass (top 31) 5
abbrev s_Contact_init : Stmt := inClass (top 33) 0
abbrev s_Contact_inner : Stmt := inClass (top 31) 0
abbrev s_Contact_holds : Stmt := inClass (top 33) 1
abbrev s_Contact_size : Stmt := inClass (top 31) 4
abbrev s_Contact_depth : Stmt := inClass (top 31) 5
abbrev s_Turned_init : Stmt := inClass (top 34) 0
abbrev s_Turned_inner : Stmt := inClass (top 34) 1
abbrev s_Turned_holds : Stmt := inClass (top 34) 2
abbrev s_Turned_size : Stmt := inClass (top 31) 4
abbrev s_Turned_depth : Stmt := inClass (top 31) 5
abbrev s_Series_init : Stmt := inClass (top 35) 0
abbrev s_Series_inner : Stmt := inClass (top 35) 1
abbrev s_Series_holds : Stmt := inClass (top 36) 0
abbrev s_Series_size : Stmt := inClass (top 31) 4
abbrev s_Series_depth : Stmt := inClass (top 31) 5
abbrev s_Branch_init : Stmt := inClass (top 35) 0
abbrev s_Branch_inner : Stmt := inClass (top 35) 1
abbrev s_Branch_holds : Stmt := inClass (top 37) 0
abbrev s_Branch_size : Stmt := inClass (top 31) 4
abbrev s_Branch_depth : Stmt := inClass (top 31) 5
abbrev s_Turned_bounded : Stmt := inClass (top 31) 8
abbrev s_Series_bounded : Stmt := inClass (top 31) 8
abbrev s_Branch_bounded : Stmt := inClass (top 31) 8
abbrev s_End_init : Stmt := inClass (top 21) 0
abbrev s_Coil_init : Stmt := inClass (top 21) 0
abbrev s_Latch_init : Stmt := inClass (top 21) 0
abbrev s_Unlatch_init : Stmt := inClass (top 21) 0
abbrev s_Timer_init : Stmt := inClass (top 25) 0
abbrev s_Counter_init : Stmt := inClass (top 25) 0
abbrev s_Rung_init : Stmt := inClass (top 77) 0
abbrev s_Ladder_init : Stmt := inClass (top 81) 0
abbrev s_Ladder_written_names : Stmt := inClass (top 81) 1
abbrev s_Works_init : Stmt := inClass (top 44) 0
abbrev s_Works_scan : Stmt := inClass (top 44) 1
abbrev s_Works_act : Stmt := inClass (top 44) 2
abbrev s_Works_count_on : Stmt := inClass (top 44) 3
abbrev s_Works_answers : Stmt := inClass (top 44) 6
abbrev s_Works_image : Stmt := inClass (top 44) 7
abbrev s_Works_kept : Stmt := inClass (top 44) 8
abbrev s_Works_put_back : Stmt := inClass (top 44) 9
def dd (a : Str × Option Str) (n ql : Str) (s : Stmt) : He.DefD := ⟨a, n, ql, defArgs s, defBody s, defScope s, [], []⟩
def fn : List He.DefD := [
  dd ("is_word", none) "is_word" "is_word" s_is_word,
  dd ("is_name", none) "is_name" "is_name" s_is_name,
  dd ("single", none) "single" "single" s_single,
  dd ("joined", none) "joined" "joined" s_joined,
  dd ("part_of", none) "part_of" "part_of" s_part_of,
  dd ("need_row", none) "need_row" "need_row" s_need_row,
  dd ("counting_ends", none) "counting_ends" "counting_ends" s_counting_ends,
  dd ("bits_of", none) "bits_of" "bits_of" s_bits_of,
  dd ("width", none) "width" "width" s_width,
  dd ("state_of", none) "state_of" "state_of" s_state_of,
  dd ("pieces", none) "pieces" "pieces" s_pieces,
  dd ("works_at", none) "works_at" "works_at" s_works_at,
  dd ("rows", none) "rows" "rows" s_rows,
  dd ("row_of", none) "row_of" "row_of" s_row_of,
  dd ("row_number", none) "row_number" "row_number" s_row_number,
  dd ("step", none) "step" "step" s_step,
  dd ("wired", none) "wired" "wired" s_wired,
  dd ("timer_act", none) "timer_act" "timer_act" s_timer_act,
  dd ("counter_act", none) "counter_act" "counter_act" s_counter_act,
  dd ("coil_act", none) "coil_act" "coil_act" s_coil_act,
  dd ("latch_act", none) "latch_act" "latch_act" s_latch_act,
  dd ("unlatch_act", none) "unlatch_act" "unlatch_act" s_unlatch_act,
  dd ("act_of", none) "act_of" "act_of" s_act_of,
  dd ("sizes_of", none) "sizes_of" "sizes_of" s_sizes_of,
  dd ("numbers_in", none) "numbers_in" "numbers_in" s_numbers_in,
  dd ("packed", none) "packed" "packed" s_packed,
  dd ("bits_by", none) "bits_by" "bits_by" s_bits_by,
  dd ("wired_ladder", none) "wired_ladder" "wired_ladder" s_wired_ladder,
  dd ("need_between", none) "need_between" "need_between" s_need_between,
  dd ("need_single", none) "need_single" "need_single" s_need_single,
  dd ("need_own", none) "need_own" "need_own" s_need_own,
  dd ("_law_cell_at", none) "_law_cell_at" "_law_cell_at" s_law_cell_at,
  dd ("_law_mixed", none) "_law_mixed" "_law_mixed" s_law_mixed,
  dd ("_law_word", none) "_law_word" "_law_word" s_law_word,
  dd ("_law_names", none) "_law_names" "_law_names" s_law_names,
  dd ("_law_grown", none) "_law_grown" "_law_grown" s_law_grown,
  dd ("_law_size", none) "_law_size" "_law_size" s_law_size,
  dd ("_law_trees", none) "_law_trees" "_law_trees" s_law_trees,
  dd ("_law_rungs", none) "_law_rungs" "_law_rungs" s_law_rungs,
  dd ("_law_names_of", none) "_law_names_of" "_law_names_of" s_law_names_of,
  dd ("_law_model", none) "_law_model" "_law_model" s_law_model,
  dd ("_law_end", none) "_law_end" "_law_end" s_law_end,
  dd ("_law_ladder", none) "_law_ladder" "_law_ladder" s_law_ladder,
  dd ("_law_bits", none) "_law_bits" "_law_bits" s_law_bits,
  dd ("_law_told", none) "_law_told" "_law_told" s_law_told,
  dd ("_law_far", none) "_law_far" "_law_far" s_law_far,
  dd ("_law_step", none) "_law_step" "_law_step" s_law_step,
  dd ("law", none) "law" "law" s_law,
  dd ("Fixed", some "__init__") "__init__" "Fixed.__init__" s_Fixed_init,
  dd ("Fixed", some "inner") "inner" "Part.inner" s_Fixed_inner,
  dd ("Fixed", some "holds") "holds" "Fixed.holds" s_Fixed_holds,
  dd ("Fixed", some "size") "size" "Part.size" s_Fixed_size,
  dd ("Fixed", some "depth") "depth" "Part.depth" s_Fixed_depth,
  dd ("Contact", some "__init__") "__init__" "Contact.__init__" s_Contact_init,
  dd ("Contact", some "inner") "inner" "Part.inner" s_Contact_inner,
  dd ("Contact", some "holds") "holds" "Contact.holds" s_Contact_holds,
  dd ("Contact", some "size") "size" "Part.size" s_Contact_size,
  dd ("Contact", some "depth") "depth" "Part.depth" s_Contact_depth,
  dd ("Turned", some "__init__") "__init__" "Turned.__init__" s_Turned_init,
  dd ("Turned", some "inner") "inner" "Turned.inner" s_Turned_inner,
  dd ("Turned", some "holds") "holds" "Turned.holds" s_Turned_holds,
  dd ("Turned", some "size") "size" "Part.size" s_Turned_size,
  dd ("Turned", some "depth") "depth" "Part.depth" s_Turned_depth,
  dd ("Series", some "__init__") "__init__" "Group.__init__" s_Series_init,
  dd ("Series", some "inner") "inner" "Group.inner" s_Series_inner,
  dd ("Series", some "holds") "holds" "Series.holds" s_Series_holds,
  dd ("Series", some "size") "size" "Part.size" s_Series_size,
  dd ("Series", some "depth") "depth" "Part.depth" s_Series_depth,
  dd ("Branch", some "__init__") "__init__" "Group.__init__" s_Branch_init,
  dd ("Branch", some "inner") "inner" "Group.inner" s_Branch_inner,
  dd ("Branch", some "holds") "holds" "Branch.holds" s_Branch_holds,
  dd ("Branch", some "size") "size" "Part.size" s_Branch_size,
  dd ("Branch", some "depth") "depth" "Part.depth" s_Branch_depth,
  dd ("Turned", some "bounded") "bounded" "Part.bounded" s_Turned_bounded,
  dd ("Series", some "bounded") "bounded" "Part.bounded" s_Series_bounded,
  dd ("Branch", some "bounded") "bounded" "Part.bounded" s_Branch_bounded,
  dd ("End", some "__init__") "__init__" "End.__init__" s_End_init,
  dd ("Coil", some "__init__") "__init__" "End.__init__" s_Coil_init,
  dd ("Latch", some "__init__") "__init__" "End.__init__" s_Latch_init,
  dd ("Unlatch", some "__init__") "__init__" "End.__init__" s_Unlatch_init,
  dd ("Timer", some "__init__") "__init__" "Counting.__init__" s_Timer_init,
  dd ("Counter", some "__init__") "__init__" "Counting.__init__" s_Counter_init,
  dd ("Rung", some "__init__") "__init__" "Rung.__init__" s_Rung_init,
  dd ("Ladder", some "__init__") "__init__" "Ladder.__init__" s_Ladder_init,
  dd ("Ladder", some "written_names") "written_names" "Ladder.written_names" s_Ladder_written_names,
  dd ("Works", some "__init__") "__init__" "Works.__init__" s_Works_init,
  dd ("Works", some "scan") "scan" "Works.scan" s_Works_scan,
  dd ("Works", some "act") "act" "Works.act" s_Works_act,
  dd ("Works", some "count_on") "count_on" "Works.count_on" s_Works_count_on,
  dd ("Works", some "answers") "answers" "Works.answers" s_Works_answers,
  dd ("Works", some "image") "image" "Works.image" s_Works_image,
  dd ("Works", some "kept") "kept" "Works.kept" s_Works_kept,
  dd ("Works", some "put_back") "put_back" "Works.put_back" s_Works_put_back]
def fa : List He.Fa := [
  .glo "is_word",
  .glo "is_name",
  .glo "single",
  .glo "joined",
  .glo "part_of",
  .glo "need_row",
  .glo "counting_ends",
  .glo "bits_of",
  .glo "width",
  .glo "state_of",
  .glo "pieces",
  .glo "works_at",
  .glo "rows",
  .glo "row_of",
  .glo "row_number",
  .glo "step",
  .glo "wired",
  .glo "timer_act",
  .glo "counter_act",
  .glo "coil_act",
  .glo "latch_act",
  .glo "unlatch_act",
  .glo "act_of",
  .glo "sizes_of",
  .glo "numbers_in",
  .glo "packed",
  .glo "bits_by",
  .glo "wired_ladder",
  .glo "need_between",
  .glo "need_single",
  .glo "need_own",
  .glo "_law_cell_at",
  .glo "_law_mixed",
  .glo "_law_word",
  .glo "_law_names",
  .glo "_law_grown",
  .glo "_law_size",
  .glo "_law_trees",
  .glo "_law_rungs",
  .glo "_law_names_of",
  .glo "_law_model",
  .glo "_law_end",
  .glo "_law_ladder",
  .glo "_law_bits",
  .glo "_law_told",
  .glo "_law_far",
  .glo "_law_step",
  .glo "law",
  .glo "LadderError",
  .glo "NoName",
  .glo "NoPart",
  .glo "NoEnd",
  .glo "NoLadder",
  .glo "NoText",
  .glo "NoRow",
  .glo "NoSheet",
  .glo "NoState",
  .glo "NoMatch",
  .glo "TooMany",
  .glo "Coil",
  .glo "Latch",
  .glo "Unlatch",
  .glo "Timer",
  .glo "Counter",
  .glo "Fixed",
  .glo "Contact",
  .glo "Turned",
  .glo "Series",
  .glo "Branch",
  .glo "End",
  .glo "Counting",
  .glo "Part",
  .glo "Group",
  .glo "Rung",
  .glo "Ladder",
  .glo "Works",
  .glo "KEPT",
  .free "isinstance",
  .free "len",
  .free "sum",
  .free "max",
  .free "min",
  .free "all",
  .free "any",
  .free "tuple",
  .free "dict",
  .free "set",
  .free "int",
  .free "range",
  .free "zip",
  .free "enumerate",
  .free "bool",
  .free "ValueError",
  .int "MOST_SIGNS" 8,
  .int "MOST_COUNT" 9,
  .int "MOST_SIZE" 60,
  .int "MOST_DEEP" 20,
  .int "COUNT_BITS_states" 4,
  .int "COUNT_BITS_wires" 4,
  .int "COUNT_MASK" 15,
  .int "MOST_NAMES" 6,
  .int "MOST_RUNGS" 30,
  .int "MOST_WRITTEN" 20,
  .str "SIGNS" "abcdefghijklmnopqrstuvwxyz",
  .cls "Coil",
  .cls "Latch",
  .cls "Unlatch",
  .cls "Timer",
  .cls "Counter",
  .cls "Fixed",
  .cls "Contact",
  .cls "Turned",
  .cls "Series",
  .cls "Branch",
  .cls "Rung",
  .cls "Ladder",
  .cls "Works",
  .noat "Coil" "name",
  .noat "Latch" "name",
  .noat "Unlatch" "name",
  .noat "Timer" "name",
  .noat "Timer" "most",
  .noat "Counter" "name",
  .noat "Counter" "most",
  .noat "Fixed" "value",
  .noat "Contact" "name",
  .noat "Turned" "part",
  .noat "Series" "parts",
  .noat "Branch" "parts",
  .noat "Rung" "part",
  .noat "Rung" "end",
  .noat "Ladder" "inputs",
  .noat "Ladder" "outputs",
  .noat "Ladder" "rungs",
  .noat "Works" "ladder",
  .noat "Works" "bits",
  .noat "Works" "counts",
  .noat "Works" "seen",
  .meth "Fixed" "inner",
  .meth "Fixed" "holds",
  .meth "Fixed" "size",
  .meth "Fixed" "depth",
  .meth "Contact" "inner",
  .meth "Contact" "holds",
  .meth "Contact" "size",
  .meth "Contact" "depth",
  .meth "Turned" "inner",
  .meth "Turned" "holds",
  .meth "Turned" "size",
  .meth "Turned" "depth",
  .meth "Series" "inner",
  .meth "Series" "holds",
  .meth "Series" "size",
  .meth "Series" "depth",
  .meth "Branch" "inner",
  .meth "Branch" "holds",
  .meth "Branch" "size",
  .meth "Branch" "depth",
  .meth "Turned" "bounded",
  .meth "Series" "bounded",
  .meth "Branch" "bounded",
  .meth "Ladder" "written_names",
  .meth "Works" "scan",
  .meth "Works" "act",
  .meth "Works" "count_on",
  .meth "Works" "answers",
  .meth "Works" "image",
  .meth "Works" "kept",
  .meth "Works" "put_back",
  .mkr "Coil",
  .mkr "Latch",
  .mkr "Unlatch",
  .mkr "Timer",
  .mkr "Counter",
  .mkr "Fixed",
  .mkr "Contact",
  .mkr "Turned",
  .mkr "Series",
  .mkr "Branch",
  .mkr "Rung",
  .mkr "Ladder",
  .mkr "Works",
  .exc "NoName",
  .exc "NoPart",
  .exc "NoEnd",
  .exc "NoLadder",
  .exc "NoRow",
  .exc "NoState",
  .exm "NoRow" "LadderError" true,
  .exm "NoState" "LadderError" true]
def tf : List He.Defn := [("wired", none), ("timer_act", none), ("counter_act", none), ("coil_act", none), ("latch_act", none), ("unlatch_act", none), ("wired_ladder", none)]
/-- what isinstance asks of the class x -/
def insB (K : PySem.W.Frag) (x : Str) : Bool := He.eqO (PySem.W.findIn K (.ref (He.ga K x)) "__class__") (some (some (.builtin "object.__class__"))) && decide (PySem.W.mroIn K (He.ga K x) (.type "object") = some true)
def exB (K : PySem.W.Frag) (x : Str) : Bool := He.eqO (PySem.W.findIn K (.ref (He.ga K x)) "__getattribute__") (some (some (.builtin "BaseException.__getattribute__"))) && (He.eqO (PySem.W.findIn K (.ref (He.ga K x)) "__getattr__") (some none) && (decide (PySem.W.subIn K (.ref (He.ga K x)) (.type "BaseException") = some true) && (PySem.W.hasDictIn K (He.ga K x) && insB K x)))
def kitB1 (K : PySem.W.Frag) (a b : Str) (r : Bool) : Bool := decide (PySem.W.kitOne K (.ref (He.ga K a)) (.ref (He.ga K b)) = some r)
def k3 (a b : Str) (r : Bool) : Str × Str × Bool := (a, b, r)
def kits : List (Str × Str × Bool) := [
  k3 "Coil" "Coil" true,
  k3 "Coil" "Latch" false,
  k3 "Coil" "Unlatch" false,
  k3 "Coil" "Timer" false,
  k3 "Coil" "Counter" false,
  k3 "Coil" "Counting" false,
  k3 "Latch" "Coil" false,
  k3 "Latch" "Latch" true,
  k3 "Latch" "Unlatch" false,
  k3 "Latch" "Timer" false,
  k3 "Latch" "Counter" false,
  k3 "Latch" "Counting" false,
  k3 "Unlatch" "Coil" false,
  k3 "Unlatch" "Latch" false,
  k3 "Unlatch" "Unlatch" true,
  k3 "Unlatch" "Timer" false,
  k3 "Unlatch" "Counter" false,
  k3 "Unlatch" "Counting" false,
  k3 "Timer" "Coil" false,
  k3 "Timer" "Latch" false,
  k3 "Timer" "Unlatch" false,
  k3 "Timer" "Timer" true,
  k3 "Timer" "Counter" false,
  k3 "Timer" "Counting" true,
  k3 "Counter" "Coil" false,
  k3 "Counter" "Latch" false,
  k3 "Counter" "Unlatch" false,
  k3 "Counter" "Timer" false,
  k3 "Counter" "Counter" true,
  k3 "Counter" "Counting" true,
  k3 "Fixed" "Fixed" true,
  k3 "Fixed" "Contact" false,
  k3 "Fixed" "Turned" false,
  k3 "Fixed" "Series" false,
  k3 "Contact" "Fixed" false,
  k3 "Contact" "Contact" true,
  k3 "Contact" "Turned" false,
  k3 "Contact" "Series" false,
  k3 "Turned" "Fixed" false,
  k3 "Turned" "Contact" false,
  k3 "Turned" "Turned" true,
  k3 "Turned" "Series" false,
  k3 "Series" "Fixed" false,
  k3 "Series" "Contact" false,
  k3 "Series" "Turned" false,
  k3 "Series" "Series" true,
  k3 "Branch" "Fixed" false,
  k3 "Branch" "Contact" false,
  k3 "Branch" "Turned" false,
  k3 "Branch" "Series" false,
  k3 "NoRow" "NoName" false,
  k3 "NoRow" "TooMany" false,
  k3 "NoRow" "NoPart" false,
  k3 "NoRow" "NoEnd" false,
  k3 "NoRow" "NoLadder" false,
  k3 "NoRow" "NoText" false,
  k3 "NoRow" "NoSheet" false,
  k3 "NoRow" "NoMatch" false,
  k3 "NoRow" "NoState" false,
  k3 "NoRow" "NoRow" true,
  k3 "NoState" "NoName" false,
  k3 "NoState" "TooMany" false,
  k3 "NoState" "NoPart" false,
  k3 "NoState" "NoEnd" false,
  k3 "NoState" "NoLadder" false,
  k3 "NoState" "NoText" false,
  k3 "NoState" "NoSheet" false,
  k3 "NoState" "NoMatch" false,
  k3 "NoState" "NoState" true,
  k3 "NoState" "NoRow" false]
/-- End.__init__ read off the class -/
def clsB (K : PySem.W.Frag) : Bool := PySem.W.readsIn K (He.ga K "End") (.type "type") && (He.eqO (PySem.W.specialIn K (.ref (He.ga K "End")) "__getattribute__") (some (some (.builtin "type.__getattribute__"))) && (match PySem.W.findCls K (.ref (He.ga K "End")) (.type "type") "__init__" with | some (.val (.ref f)) => decide (f = He.ma K (He.ga K "End") "__init__") | _ => false))
def ex0 (K : PySem.W.Frag) : Bool := He.eqO (PySem.W.specialIn K (.builtin "object.__class__") "__get__") (some (some (.builtin "getset_descriptor.__get__"))) && (decide (PySem.W.takesIn K (.builtin "object.__class__") = some true) && ((["Coil", "Latch", "Unlatch", "Timer", "Counter", "Fixed", "Contact", "Turned", "Series", "Branch"].all fun x => insB K x) && ((exB K "NoRow" && exB K "NoState") && (clsB K && (kits.all fun p => kitB1 K p.1 p.2.1 p.2.2) && He.tupB K "KEPT" [.str "on", .str "off", .str "and", .str "or", .str "not", .str "set", .str "reset", .str "timer", .str "counter", .str "inputs", .str "outputs"]))))
/-- the tables are apart; the two errors are ValueErrors -/
def ex6 (K : PySem.W.Frag) : Bool := decide ((tf.map fun p => (He.cT K p).2).Nodup) && (decide (PySem.W.kitOne K (.ref (He.ga K "NoRow")) (.type "ValueError") = some true) && decide (PySem.W.kitOne K (.ref (He.ga K "NoState")) (.type "ValueError") = some true))
def ex (K : PySem.W.Frag) : Bool := ex0 K && ex6 K
abbrev R : PySem.W.OpenRow := PySem.W.OpenLaw.row PySem.Challenge.rw_rungworks_k73_whole_one_machine
/-- the objects that an object names one step further: a dict's values; a def's code; a class's names -/
def valsO (o : Obj) : List Addr := match o.data with
  | .dict es _ => es.toList.flatMap fun e => He.refV e.val
  | _ => []
def nextO (o : Obj) : List Addr := match o.data with
  | .func fd => He.refV fd.code
  | .cls cd => [cd.ns]
  | _ => []
def via (g : Addr → Option Obj) (f : Obj → List Addr) (a : Addr) : List Addr := match g a with
  | some o => f o
  | none => []
/-- the module's dict, what it holds, their codes and class dicts, the methods, their codes: each once -/
def reach (g : Addr → Option Obj) : List Addr :=
  let l1 := via g valsO mainGlobals
  let l2 := l1.flatMap (via g nextO)
  let l3 := l2.flatMap (via g valsO)
  (mainGlobals :: cStatics :: l1) ++ (l2 ++ (l3 ++ l3.flatMap (via g nextO)))
def obsQ (g : Addr → Option Obj) : He.AlX := (He.obsT fa fn [] (He.frT g (reach g)), ex (He.frT g (reach g)) && He.tabsB g tf (He.frT g (reach g)))
/-- what is told of the written part K -/
structure Says (w : World) (h : Heap) (K : PySem.W.Frag) : Prop where
  facts : He.SaysT fa fn [] w K
  own : ex K = true
  hd : ∀ p ∈ tf, PySem.W.codeHdIn K (He.cT K p).1 (He.cT K p).2 = true
  out : ∀ p ∈ tf, K.lookup (He.cT K p).2 = none
  nil : ∀ p ∈ tf, h.get? (He.cT K p).2 = some { cls := .none, data := .fields #[] }
theorem says_of {w : World} {h : Heap} (e : obsQ h.get? = He.valX fn [] w) : Says w h (He.frT h.get? (reach h.get?)) := by
  have e1 : He.obsT fa fn [] (He.frT h.get? (reach h.get?)) = He.valT fn [] w := congrArg Prod.fst e
  have e2 : (ex (He.frT h.get? (reach h.get?)) && He.tabsB h.get? tf (He.frT h.get? (reach h.get?))) = true := congrArg Prod.snd e
  have e3 := Bool.and_eq_true_iff.mp e2
  have t : ∀ p ∈ tf, PySem.W.codeHdIn (He.frT h.get? (reach h.get?)) (He.cT (He.frT h.get? (reach h.get?)) p).1 (He.cT (He.frT h.get? (reach h.get?)) p).2 = true ∧ ∃ o, h.get? (He.cT (He.frT h.get? (reach h.get?)) p).2 = some o ∧ He.emptyTab o = true := by
    intro p hp
    have q := Bool.and_eq_true_iff.mp (List.all_eq_true.mp e3.2 p hp)
    refine ⟨q.1, ?_⟩
    have q2 := q.2
    cases c : h.get? (He.cT (He.frT h.get? (reach h.get?)) p).2 with
    | none => rw [c] at q2; cases q2
    | some o => rw [c] at q2; exact ⟨o, rfl, q2⟩
  refine ⟨e1, e3.1, fun p hp => (t p hp).1, fun p hp => ?_, fun p hp => ?_⟩
  · obtain ⟨_, o, ho, he⟩ := t p hp
    exact He.frT_none ho he
  · obtain ⟨_, o, ho, he⟩ := t p hp
    rw [ho, He.emptyTab_eq he]
abbrev hk : PySem.W.Hook where
  α := He.AlX
  obs := fun s => obsQ s.heap.get?
  val := fun w => He.valX fn [] w
  says := fun w h => ∃ K : PySem.W.Frag, K.In h ∧ Says w h K
  of := fun _ _ e => ⟨_, He.frT_in, says_of e⟩
  keeps := fun _ _ _ ⟨K, hK, c⟩ k => ⟨K, PySem.W.Frag.In.keeps hK k, ⟨c.facts, c.own, c.hd, c.out, fun p hp => k _ _ (c.nil p hp)⟩⟩
def ob (s : PySem.W.SharedT) : He.AlX := obsQ (HandSHeadRun.getT s)
theorem ob_eq (s : PySem.W.SharedT) : ob s = hk.obs s.abs := by
  have e : HandSHeadRun.getT s = s.abs.heap.get? := funext (HandSHeadRun.getT_eq s)
  show obsQ _ = obsQ _
  rw [e]
def loose0 : List Str := ["_wall", "LadderError", "NoName", "NoPart", "NoEnd", "NoLadder", "NoText", "NoRow", "NoSheet", "NoState", "NoMatch", "TooMany"]
def loose1 : List Str := ["SIGNS", "MOST_SIGNS", "KEPT", "is_word", "is_name", "MOST_COUNT", "End", "Coil", "Latch", "Unlatch", "Counting", "Timer"]
def loose2 : List Str := ["Counter", "MOST_SIZE", "MOST_DEEP", "Part", "Fixed", "Contact", "Turned", "Group", "Series", "Branch", "bracketed", "single"]
def loose3 : List Str := ["joined", "part_of", "need_row", "Works", "COUNT_BITS_states", "counting_ends", "bits_of", "width", "state_of", "pieces", "works_at", "rows"]
def loose4 : List Str := ["row_of", "row_number", "step", "COUNT_BITS_wires", "COUNT_MASK", "wired", "timer_act", "counter_act", "coil_act", "latch_act", "unlatch_act", "act_of"]
def loose5 : List Str := ["sizes_of", "numbers_in", "packed", "bits_by", "wired_ladder", "MOST_NAMES", "MOST_RUNGS", "MOST_WRITTEN", "Rung", "need_between", "need_single", "need_own"]
def loose6 : List Str := ["Ladder", "_law_cell_at", "_law_mixed", "_law_word", "_law_names", "_law_grown", "_law_size", "_law_trees", "_law_rungs", "_law_names_of", "_law_model", "_law_end"]
def loose7 : List Str := ["_law_ladder", "_law_bits", "_law_told", "_law_far", "_law_step"]
abbrev loose : List Str := loose0 ++ loose1 ++ loose2 ++ loose3 ++ loose4 ++ loose5 ++ loose6 ++ loose7
theorem run (w : World) : HandSHeadRun.RunEq R (PySem.W.view R.prog [99]) hk ob 20000 loose w := by
  intro os
  kernel_rfl
end RgK
set_option Elab.async false
set_option linter.all false
set_option maxRecDepth 100000
set_option maxHeartbeats 4000000
/-! Rules that the layer lacks, 1: calls by values. -/
namespace RgK
open PySem PySem.Spec PyProof.Rows L2
section
variable {X : Cx}
/-! ### dict(d), d.update(e) -/
def rDictD : List V → Hp → VK → Prop := fun xs H Q => ∃ a kvs, xs = [.ref a] ∧ H a = some (.dK kvs) ∧ ∀ p, H p = none → Q (.ref p) (upd H p (.dK kvs))
theorem cr_dictD : CallR X (.type "dict") rDictD := by
  intro pins s σ H xs us Q I r ⟨a, kvs, e, h, q⟩
  subst e
  obtain rfl := r.ref1
  exact d_copyOf I (.inl h) fun p s' np I' => ⟨.ref p, _, I', rfl, q p np⟩
def rDUpd : V → List V → Hp → VK → Prop := fun x vs H Q => ∃ a b kvs more, x = .ref a ∧ vs = [.ref b] ∧ a ≠ b ∧ H a = some (.dK kvs) ∧ H b = some (.dK more) ∧ kvs.length + more.length ≤ sizeLine ∧ Q .non (upd H a (.dK (mergeK kvs more)))
theorem mt_dupd : MtR X "dict.update" rDUpd := by
  intro pins s σ H x xs v us Q I rx rxs ⟨a, b, kvs, more, e1, e2, hne, ha, hb, hz, q⟩
  subst e1 e2
  obtain rfl : v = .ref a := rx
  obtain rfl := rxs.ref1
  obtain ⟨z1, d1, vs1, rel1, dd1⟩ := dk_of I.hok ha
  obtain ⟨z2, d2, vs2, rel2, dd2⟩ := dk_of I.hok hb
  refine call_meetsIn PySem.F.slot_dict_update dd1.typeIs PySem.F.entry_dict_update (PySem.F.args_dict_update_2 _ _) (meets_dict_update (mixKind X.prog X.w) a b hne d2)
    ⟨vs1, vs2, dd1, dd2, by rw [← rel1.length, ← rel2.length]; exact hz, fun h' e1 _ sb => ?_⟩
  have he : ∃ u, h'.get? a = some u := by
    obtain ⟨o, _, _, ho, _⟩ := e1
    exact ⟨o, ho⟩
  exact ⟨.non, _, d_write (t' := s.toks) I (by rw [ha]; trivial) sb he (dk_new (Nat.le_trans (length_mergeK _ _) hz) d1 (KV.merge rel2 rel1) e1), rfl, q⟩
/-! ### a list beside an empty one -/
def rEqNil (K : PySem.W.Frag) (neg : Bool) : R2 := fun x y H Q => ∃ a b xs, x = .ref a ∧ y = .ref b ∧ SqL K H a xs ∧ SqL K H b [] ∧ Q (.bl (xs.isEmpty != neg)) H
theorem op_eqNil (hu : X.A.units < cLine) : OpR X (compareOp .Eq) (rEqNil X.K false) := by
  intro pins s σ H x y v u Q I rx ry ⟨a, b, xs, e1, e2, h1, h2, q⟩
  subst e1 e2
  obtain rfl : v = .ref a := rx
  obtain rfl : u = .ref b := ry
  obtain ⟨its, r1, p1, z1⟩ := I.list h1
  obtain ⟨its2, r2, p2, z2⟩ := I.list h2
  cases r2
  cases r1 with
  | nil => exact SeqAt.eq_listAt (e := fun _ => true) p1.isList p2.isList rfl hu (fun j h _ => absurd h (by simp)) ⟨.bl true, H, I, rfl, q⟩
  | cons _ _ => exact SeqAt.eq_list_lengthsAt p1.isList p2.isList (by simp) hu ⟨.bl false, H, I, rfl, q⟩
theorem op_neNil (hu : X.A.units < cLine) : OpR X (compareOp .NotEq) (rEqNil X.K true) := by
  intro pins s σ H x y v u Q I rx ry ⟨a, b, xs, e1, e2, h1, h2, q⟩
  subst e1 e2
  obtain rfl : v = .ref a := rx
  obtain rfl : u = .ref b := ry
  obtain ⟨its, r1, p1, z1⟩ := I.list h1
  obtain ⟨its2, r2, p2, z2⟩ := I.list h2
  cases r2
  cases r1 with
  | nil => exact SeqAt.RcNeAt.lists (e := fun _ => true) p1.isList p2.isList rfl hu (fun j h _ => absurd h (by simp)) X.prog X.w X.xe _ ⟨.bl false, H, I, rfl, q⟩
  | cons _ _ => exact SeqAt.RcNeAt.lists_lengths p1.isList p2.isList (by simp) hu X.prog X.w X.xe _ ⟨.bl true, H, I, rfl, q⟩
end
/-! ### tuple(d.keys()) -/
section
variable {prog : Program} {w : World} {A : Around} {E : Value → Shared → Prop} {s : Shared} {r d : Addr} {n : Nat} {P : Nat → Value → Prop} {OK : Heap → Prop}
theorem tuple_new_src {Q₁ : Value → Shared → Prop} (S : PySem.W.KdlSrc prog w "dict_keys" r d n P OK) (hh : A.handled = none) (ok : OK s.heap) (hn : n ≤ sizeLine)
    (h : ∀ (h' : Heap) (tk : Nat) (acc : Array Value), (∀ b o, s.heap.get? b = some o → h'.get? b = some o) → ItemsOf P acc n → Q₁ (.ref h'.objs.size) { s with heap := h'.push { cls := .type "tuple", data := .seq acc }, toks := tk }) :
    codeAny (model prog w) A (.call (.builtin "tuple.__new__") ⟨[.type "tuple", .ref r], []⟩) (wants Q₁ E) s := by
  refine codeAny_of_tree ?_
  show wpAny _ A.in1 (do checkBuiltinCall "tuple.__new__" ⟨[.type "tuple", .ref r], []⟩; again (.builtin "tuple.__new__" ⟨[.type "tuple", .ref r], []⟩)) _ _ s
  refine wpAny_bind (wpAny_of_eq (PySem.F.newCall_tuple_1 _) (wpAny_pure ⟨plainId_quiet PySem.F.plain_tuple_new _, codeAny_builtin PySem.F.entry_tuple_new ?_⟩))
  rw [Around.under_plainId PySem.F.plain_tuple_new _]
  have hsub := sub_tuple_self
  have hinit := init_tuple_lookup
  have hmh := madeHere_tuple
  have hTI : s.TypeIs (.ref r) "dict_keys" := S.type s ok
  have hh1 : A.in1.handled = none := hh
  wp_walk using wpAny_typeOf hTI, PySem.W.kdu_collect (A := A.in1) S hh1 ok hn
  intro h' tk acc hk hacc
  show wpAny _ _ (Builtin.Tuple.tupleExact acc.toList.toArray >>= fun v => ret v) _ _ _
  unfold Builtin.Tuple.tupleExact
  have e : acc.toList.toArray = acc := by simp
  refine wpAny_bind (wpAny_newObj_type ?_ (by show acc.toList.toArray.size ≤ sizeLine; rw [e, hacc.1]; exact hn))
  rw [e]
  exact wpAny_pure (h h' tk acc hk hacc)
theorem call_tuple_src {Q : Value → Shared → Prop} (S : PySem.W.KdlSrc prog w "dict_keys" r d n P OK) (hh : A.handled = none) (ok : OK s.heap) (hn : n ≤ sizeLine)
    (hQ : ∀ (h' : Heap) (tk : Nat) (acc : Array Value), (∀ b o, s.heap.get? b = some o → h'.get? b = some o) → ItemsOf P acc n → Q (.ref h'.objs.size) { s with heap := h'.push { cls := .type "tuple", data := .seq acc }, toks := tk }) :
    wpAny (model prog w) A (call (.type "tuple") [.ref r]) Q E s := by
  refine callType_codes (Q₁ := fun obj s₁ => s₁.TypeIs obj "tuple" ∧ Q obj s₁) PySem.F.called_tuple (PySem.F.typeCall_tuple_1 _) PySem.F.entry_object_init
    (tuple_new_src (A := A.in1) S hh ok hn fun h' tk acc hk hacc => ⟨⟨_, Heap.get?_push_size _ rfl, rfl⟩, hQ h' tk acc hk hacc⟩) fun obj s₁ h₁ => ?_
  exact ⟨h₁.1, PySem.F.args_object_init_2 obj _, object_init_meets PySem.F.called_tuple.init.lookup PySem.F.called_tuple.made (by decide) prog w A.in1 _ s₁ ⟨h₁.1, rfl, h₁.2⟩⟩
end
section
variable {X : Cx}
def keysV (kvs : List (Key × V)) : List V := kvs.map fun kv => kV kv.1
def tTupKeys (td : TE) : TE := fun σ H Q => td σ H fun x H1 => ∃ d kvs, x = .ref d ∧ H1 d = some (.dK kvs) ∧ ∀ q, H1 q = none → Q (.ref q) (upd H1 q (.tup (keysV kvs)))
theorem pe_tupKeys {e : Expr} {td : TE} {p apos cpos pos : Pos} (hc : X.calm = true) (hg : Gl X "tuple") (hm : X.mg "tuple" = none) (he : PE X e td) (hbase : attributeBase e "keys" X.env (eval e X.env) = eval e X.env := by rfl) (hline : (apos.endLine == cpos.line) = true := by rfl)
    (na : starEach [.Call (.Attribute e "keys" apos) [] [] cpos] X.env = (false, eval (.Call (.Attribute e "keys" apos) [] [] cpos) X.env) :: starEach [] X.env := by rfl) :
    PE X (.Call (.Name "tuple" p) [.Call (.Attribute e "keys" apos) [] [] cpos] [] pos) (tTupKeys td) := by
  refine ⟨fun pins s σ H Q I h => ?_⟩
  refine Call_ (ld_blt I hg hm boot_tuple ?_)
  refine PyProof.Rows.callWith_type1 (PyProof.Rows.args_cons ?_ rfl) rfl rfl
  refine wpAny_Call_method (T := "dict") (id := "dict.keys") hbase rfl hline PySem.F.plainAttrs_dict PySem.F.slot_dict_keys PySem.F.type_dict_keys (thn (he.run pins s σ H _ I h) fun u s1 ⟨x, H1, I1, rx, d, kvs, ex, hd, q⟩ => ?_)
  subst ex
  obtain rfl : u = Value.ref d := rx
  obtain ⟨z, lo, vs, rel, dd⟩ := dk_of I1.hok hd
  obtain ⟨ep, hat⟩ := dd.dictAt
  refine ⟨dd.typeIs, dd.mapOf.noDict, ?_⟩
  have I2 : Inv X pins σ H1 { s1 with heap := s1.heap.push { cls := .type "dict_keys", data := .fields #[.ref d] } } := I1.kept (t' := s1.toks) fun b ob q => Heap.get?_push_of_some _ q
  refine method_meetsIn PySem.F.slot_dict_keys PySem.F.entry_dict_keys rfl (PySem.evalArgs_none ⟨rfl, dd.typeIs, PySem.F.args_dict_keys_1 _, _, PySem.W.kdl_meets_keys (mixKind X.prog X.w) d lo, ⟨vs, dd⟩, ?_⟩)
  refine PyProof.Rows.args_nil ?_
  refine call_tuple_src (PySem.W.kdl_keys (knd := mixKind X.prog X.w) (kvs := vs) (ep := ep) (d := d) (r := s1.heap.objs.size)) (I2.ok.hd hc) ⟨⟨_, Heap.get?_push_size _ rfl, rfl, rfl⟩, hat.push _⟩ (by rw [← rel.length]; exact z) fun h' tk acc hk hacc => ?_
  have I3 : Inv X pins σ H1 { s1 with heap := h', toks := tk } := I2.kept hk
  refine ⟨.ref h'.objs.size, upd H1 h'.objs.size (.tup (keysV kvs)), I3.laid (t' := tk) (fun c o e => Heap.get?_push_of_some _ e) (Nat.le_refl _) (show ObjOk X.prog X.w _ _ _ (.tup (keysV kvs)) from ⟨?_, acc.toList, ?_, ?_⟩), rfl, q _ (I3.hok.fresh (Nat.le_refl _))⟩
  · unfold keysV
    rw [List.length_map]
    exact z
  · refine vals_of_at ?_ fun j x w h1 h2 => ?_
    · have l1 : acc.toList.length = vs.length := by
        rw [Array.length_toList]
        exact hacc.1
      unfold keysV
      rw [List.length_map, l1]
      exact rel.length
    · obtain ⟨k, y, hky, hi⟩ := hacc.2 j w (by rw [← Array.getElem?_toList]; exact h2)
      have e1 : (kvs.map (·.1))[j]? = some k := by
        rw [KV.keys rel, List.getElem?_map, hky]
        rfl
      have e2 : (keysV kvs)[j]? = some (kV k) := by
        have e3 : keysV kvs = (kvs.map (·.1)).map kV := by
          unfold keysV
          rw [List.map_map]
          rfl
        rw [e3, List.getElem?_map, e1]
        rfl
      rw [e2] at h1
      cases h1
      exact keyIs_rel hi
  · rw [Array.toArray_toList]
    exact IsTup.new _ _
end
end RgK
set_option Elab.async false
set_option linter.all false
set_option maxRecDepth 100000
set_option maxHeartbeats 4000000
/-! Rules that the layer lacks, 2: what is walked (lists and tuples in any mix), t[::-1]. -/
namespace RgK
open PySem PySem.Spec PyProof.Rows L2
/-! ### a list (true) or a tuple (false) -/
def Sq (K : PySem.W.Frag) : Bool → Hp → Addr → List V → Prop
  | true => SqL K
  | false => SqT K
def IsSq : Bool → Heap → Addr → Array Value → Prop
  | true, h => h.IsList
  | false, h => h.IsTuple
def IsIt : Bool → Heap → Addr → Addr → Nat → Prop
  | true, h => h.IsListIter
  | false, h => h.IsTupleIter
def itO : Bool → Addr → Obj
  | true, a => { cls := .type "list_iterator", data := .fields #[.ref a, .int 0 0] }
  | false, a => { cls := .type "tuple_iterator", data := .fields #[.ref a, .int 0 0] }
theorem sq_inv {X : Cx} {pins : List (Addr × Obj)} {σ : L2.St} {H : Hp} {s : Shared} {k : Bool} {a : Addr} {xs : List V} (I : Inv X pins σ H s) (h : Sq X.K k H a xs) :
    ∃ its : List Value, Vals xs its ∧ IsSq k s.heap a its.toArray ∧ a < s.heap.objs.size ∧ xs.length ≤ sizeLine := by
  cases k with
  | true =>
    obtain ⟨its, r, p, z⟩ := I.list h
    exact ⟨its, r, p.isList, p.lt, z⟩
  | false =>
    obtain ⟨its, r, p, z⟩ := I.tuple h
    obtain ⟨o, ho, _⟩ := id p
    exact ⟨its, r, p, Heap.lt_size ho, z⟩
theorem isIt_obj {k : Bool} {h : Heap} {it a : Addr} {i : Nat} (x : IsIt k h it a i) : ∃ o, h.get? it = some o ∧ ∀ v, o.data ≠ .cell v := by
  cases k with
  | true =>
    obtain ⟨o, e, _, d⟩ := x
    exact ⟨o, e, fun v q => by rw [d] at q; cases q⟩
  | false =>
    obtain ⟨o, e, _, d⟩ := x
    exact ⟨o, e, fun v q => by rw [d] at q; cases q⟩
theorem isIt_at {k : Bool} {h h' : Heap} {it a : Addr} {i : Nat} (x : IsIt k h it a i) (e : ∀ o, h.get? it = some o → h'.get? it = some o) : IsIt k h' it a i := by
  cases k with
  | true => exact Heap.IsListIter.at x e
  | false => exact Heap.IsTupleIter.at x e
theorem isIt_0 {k : Bool} {h : Heap} {it a : Addr} (e : h.get? it = some (itO k a)) : IsIt k h it a 0 := by
  cases k with
  | true => exact ⟨_, e, rfl, rfl⟩
  | false => exact ⟨_, e, rfl, rfl⟩
theorem draws_k {prog : Program} {w : World} {A : Around} (k : Bool) (hh : A.handled = none) (it a : Addr) (hne : a ≠ it) (its : Array Value) :
    Draws prog w A it [it, a] its.size (fun i v => its[i]? = some v) (fun i h => IsIt k h it a i ∧ IsSq k h a its) := by
  cases k with
  | true => exact Draws.list hh it a hne its
  | false => exact Draws.tuple hh it a hne its
theorem begins_k (k : Bool) (a : Addr) (its : Array Value) : Begins (.ref a) (itO k a) fun h => IsSq k h a its := by
  cases k with
  | true => exact begins_list a its
  | false => exact begins_tuple a its
/-! ### walked by itself -/
def ItK (K : PySem.W.Frag) : Bool → Addr → It
  | true, a => Itl K a
  | false, a => Itt K a
def iSeq (K : PySem.W.Frag) (tl : TE) : TI := fun σ H R => tl σ H fun x H1 => ∃ k a xs, x = .ref a ∧ Sq K k H1 a xs ∧ R (ItK K k a) H1
theorem pi_seq {X : Cx} {tg l : Expr} {tl : TE} (hl : PE X l tl) : PI X tg l (iSeq X.K tl) := by
  refine ⟨fun pins s σ H R I h => ?_⟩
  refine thn (hl.run pins s σ H _ I h) fun v s1 ⟨x, H1, I1, r1, k, a, xs, e, hq, q⟩ => ?_
  subst e
  obtain rfl : v = .ref a := r1
  cases k with
  | true =>
    have z : PE { X with env := X.env } l tl := hl
    obtain ⟨its, rv, p, hz⟩ := I1.list hq
    refine wpAny_pyIter_list p.isList ⟨s1.heap.objs.size, [s1.heap.objs.size], _, _, H1, rfl, I1.kept (t' := s1.toks) fun b o e => Heap.get?_push_of_some _ e, turn_list a _, ⟨_, Heap.get?_push_size _ rfl, rfl, rfl⟩, fun b hb => ?_, q⟩
    obtain rfl : b = s1.heap.objs.size := by simpa using hb
    exact I1.fpOk (Nat.le_refl _) (I1.hok.fresh (Nat.le_refl _))
  | false =>
    obtain ⟨its, rv, p, hz⟩ := I1.tuple hq
    refine wpAny_pyIter_tuple p ⟨s1.heap.objs.size, [s1.heap.objs.size], _, _, H1, rfl, I1.kept (t' := s1.toks) fun b o e => Heap.get?_push_of_some _ e, turn_tuple a _, ⟨_, Heap.get?_push_size _ rfl, rfl, rfl⟩, fun b hb => ?_, q⟩
    obtain rfl : b = s1.heap.objs.size := by simpa using hb
    exact I1.fpOk (Nat.le_refl _) (I1.hok.fresh (Nat.le_refl _))
/-- what a loop owes where its iterator J stands -/
def Owes (g : TG) (tb : TS) (D : Ends) (J : It) (σ : L2.St) (H : Hp) : Prop :=
  ∃ W : Nat → Nat → L2.St → Hp → Prop, (∃ m, W 0 m σ H) ∧ ∀ i m σ H, W i m σ H →
    (J.stop i H ∧ D.nx σ H) ∨ (J.go i H ∧ ∃ N : L2.St → Hp → Prop, (∀ σ' H', N σ' H' → ∃ m', m' < m ∧ W (i + 1) m' σ' H') ∧ ∀ x H', J.yld i H x H' → g x σ H' fun σ2 H2 => tb { D with nx := N, ct := N, bk := D.nx } σ2 H2)
theorem for_seq {K : PySem.W.Frag} {k : Bool} {a : Addr} {xs : List V} {g : TG} {tb : TS} {D : Ends} {σ : L2.St} {H : Hp} (Pv : Nat → L2.St → Hp → Prop) (h0 : Pv 0 σ H) (hl : ∀ i σ H, i ≤ xs.length → Pv i σ H → Sq K k H a xs)
    (hs : ∀ i x σ H, xs[i]? = some x → Pv i σ H → g x σ H fun σ2 H2 => tb { D with nx := Pv (i + 1), ct := Pv (i + 1), bk := D.nx } σ2 H2) (hd : ∀ σ H, Pv xs.length σ H → D.nx σ H) : Owes g tb D (ItK K k a) σ H := by
  cases k with
  | true => exact for_list (K := K) (a := a) (xs := xs) Pv h0 hl hs hd
  | false => exact for_tup (K := K) (a := a) (xs := xs) Pv h0 hl hs hd
/-- a loop by turns: n of them -/
theorem owes_n {g : TG} {tb : TS} {D : Ends} {J : It} {σ : L2.St} {H : Hp} (n : Nat) (Pv : Nat → L2.St → Hp → Prop) (h0 : Pv 0 σ H) (go : ∀ i σ H, i < n → Pv i σ H → J.go i H) (stop : ∀ σ H, Pv n σ H → J.stop n H)
    (hs : ∀ i x σ H H', i < n → Pv i σ H → J.yld i H x H' → g x σ H' fun σ2 H2 => tb { D with nx := Pv (i + 1), ct := Pv (i + 1), bk := D.nx } σ2 H2) (hd : ∀ σ H, Pv n σ H → D.nx σ H) : Owes g tb D J σ H := by
  refine ⟨fun i m σ H => i ≤ n ∧ m = n - i ∧ Pv i σ H, ⟨n, Nat.zero_le _, rfl, h0⟩, ?_⟩
  rintro i m σ H ⟨hi, rfl, p⟩
  by_cases hlt : i < n
  · exact .inr ⟨go i σ H hlt p, Pv (i + 1), fun σ' H' p' => ⟨n - (i + 1), by omega, hlt, rfl, p'⟩, fun x H' y => hs i x σ H H' hlt p y⟩
  · obtain rfl : i = n := by omega
    exact .inl ⟨stop σ H p, hd σ H p⟩
/-! ### zip of two -/
def ItZ (K : PySem.W.Frag) (k1 k2 : Bool) (a b : Addr) (xs ys : List V) : It :=
  ⟨fun i H => Sq K k1 H a xs ∧ Sq K k2 H b ys ∧ i < xs.length ∧ i < ys.length,
    fun i H v H' => ∃ T x y, v = .ref T ∧ H T = none ∧ H' = upd H T (.tup [x, y]) ∧ xs[i]? = some x ∧ ys[i]? = some y,
    fun i H => Sq K k1 H a xs ∧ Sq K k2 H b ys ∧ min xs.length ys.length ≤ i⟩
theorem pair_new {P : Program} {w : World} {H : Hp} {h : Heap} {T : Addr} {x y : V} {u u2 : Value} (r : RelV x u) (r2 : RelV y u2) (t : h.IsTuple T #[u, u2]) : ObjOk P w (upd H T (.tup [x, y])) h T (.tup [x, y]) :=
  ⟨by show 2 ≤ sizeLine; decide, [u, u2], .cons r (.cons r2 .nil), t⟩
theorem turn_zipK {P : Program} {w : World} {K : PySem.W.Frag} {elts : List Expr} {kk : Nat} {tpos : Pos} {k1 k2 : Bool} {a b z TI TO i1 i2 : Addr} {xs ys : List V} (S : ZipSep2 z TI TO i1 i2 [i1, a] [i2, b]) (n1 : a ≠ i1) (n2 : b ≠ i2) :
    Turn P w K (.Tuple elts kk tpos) (ItZ K k1 k2 a b xs ys) [z, TI, TO, i1, i2] z (fun i h => i ≤ min xs.length ys.length ∧ IsZip h z TI TO .none ∧ IsTupOf2 h TI (.ref i1) (.ref i2) ∧ (∃ x y, IsTupOf2 h TO x y) ∧ IsIt k1 h i1 a i ∧ IsIt k2 h i2 b i) where
  mem := by simp
  obj := fun i h st c hc => by
    obtain ⟨_, hz, hTI, ⟨x, y, hTO⟩, d1, d2⟩ := st
    have e' : c = z ∨ c = TI ∨ c = TO ∨ c = i1 ∨ c = i2 := by simpa using hc
    rcases e' with q | q | q | q | q
    · rw [q]; exact ⟨_, hz, fun v q => nomatch q⟩
    · rw [q]; exact ⟨_, hTI, fun v q => nomatch q⟩
    · rw [q]; exact ⟨_, hTO, fun v q => nomatch q⟩
    · rw [q]; exact isIt_obj d1
    · rw [q]; exact isIt_obj d2
  keep := fun i h h' st k => by
    obtain ⟨hi, hz, hTI, ⟨x, y, hTO⟩, d1, d2⟩ := st
    exact ⟨hi, k z (by simp) _ hz, k TI (by simp) _ hTI, ⟨x, y, k TO (by simp) _ hTO⟩, isIt_at d1 fun o q => k i1 (by simp) o q, isIt_at d2 fun o q => k i2 (by simp) o q⟩
  item := by
    intro X hP hw hK hc i pins s σ H E I hf st hg
    subst hP hw hK
    obtain ⟨hi, hz, hTI, hTO, d1, d2⟩ := st
    obtain ⟨hqx, hqy, hx, hy⟩ := hg
    obtain ⟨its, rv, p, _, _⟩ := sq_inv I hqx
    obtain ⟨its2, rv2, p2, _, _⟩ := sq_inv I hqy
    have l1 : its.toArray.size = xs.length := by rw [List.size_toArray]; exact rv.length.symm
    have l2 : its2.toArray.size = ys.length := by rw [List.size_toArray]; exact rv2.length.symm
    have hh : X.A.in1.handled = none := I.ok.hd hc
    have W := GoesN.zip2 (prog := X.prog) (w := X.w) (A := X.A) (elts := elts) (x1 := kk) (pos := tpos) S (draws_k k1 hh i1 a n1 its.toArray) (draws_k k2 hh i2 b n2 its2.toArray)
    refine W.goes i s _ E (by rw [l1, l2]; omega) ⟨hz, hTI, hTO, ⟨d1, p⟩, ⟨d2, p2⟩⟩ fun v h' tk hY hSt hk htk => ?_
    obtain ⟨T, u, u2, rfl, hT, hu, hu2, tT⟩ := hY
    obtain ⟨hz', hTI', hTO', ⟨d1', _⟩, ⟨d2', _⟩⟩ := hSt
    have hx' : xs[i]? = some xs[i] := List.getElem?_eq_getElem hx
    have hy' : ys[i]? = some ys[i] := List.getElem?_eq_getElem hy
    obtain ⟨w1, e1, r1⟩ := rv.get hx'
    obtain ⟨w2, e2, r2⟩ := rv2.get hy'
    obtain rfl : w1 = u := Option.some.inj (e1.symm.trans (by simpa using hu))
    obtain rfl : w2 = u2 := Option.some.inj (e2.symm.trans (by simpa using hu2))
    have I1 : Inv X pins σ (upd H T (.tup [xs[i], ys[i]])) { s with heap := h', toks := tk } :=
      I.turnedNew (ch := [z, TI, TO, i1, i2]) (fun c o hb q => hk c o (fun m => hb (by
        have e' : c = z ∨ c = TO ∨ c = i1 ∨ c = i2 := by simpa using m
        rcases e' with q | q | q | q <;> simp [q])) q) hf hT (pair_new r1 r2 tT)
    refine ⟨.ref T, _, I1, rfl, ⟨T, _, _, rfl, I.hok.fresh hT, rfl, hx', hy'⟩, ⟨by omega, hz', hTI', hTO', d1', d2'⟩, fun c hcm => ?_⟩
    have hlt : c < s.heap.objs.size := by
      obtain ⟨_, _, hTO⟩ := hTO
      obtain ⟨o1, e1, _⟩ := isIt_obj d1
      obtain ⟨o2, e2, _⟩ := isIt_obj d2
      have e' : c = z ∨ c = TI ∨ c = TO ∨ c = i1 ∨ c = i2 := by simpa using hcm
      rcases e' with q | q | q | q | q
      · rw [q]; exact Heap.lt_size hz
      · rw [q]; exact Heap.lt_size hTI
      · rw [q]; exact Heap.lt_size hTO
      · rw [q]; exact Heap.lt_size e1
      · rw [q]; exact Heap.lt_size e2
    rw [upd_ne (Nat.ne_of_lt (Nat.lt_of_lt_of_le hlt hT))]
    exact (hf c hcm).1
  done := by
    intro X hP hw hK hc i pins s σ H E I hf st hg
    subst hP hw hK
    obtain ⟨hi, hz, hTI, hTO, d1, d2⟩ := st
    obtain ⟨hqx, hqy, hend⟩ := hg
    obtain ⟨its, rv, p, _, _⟩ := sq_inv I hqx
    obtain ⟨its2, rv2, p2, _, _⟩ := sq_inv I hqy
    have l1 : its.toArray.size = xs.length := by rw [List.size_toArray]; exact rv.length.symm
    have l2 : its2.toArray.size = ys.length := by rw [List.size_toArray]; exact rv2.length.symm
    have hh : X.A.in1.handled = none := I.ok.hd hc
    have W := GoesN.zip2 (prog := X.prog) (w := X.w) (A := X.A) (elts := elts) (x1 := kk) (pos := tpos) S (draws_k k1 hh i1 a n1 its.toArray) (draws_k k2 hh i2 b n2 its2.toArray)
    have ei : i = min its.toArray.size its2.toArray.size := by rw [l1, l2]; omega
    subst ei
    exact W.stops s (fun s1 => Inv X pins σ H s1) E ⟨hz, hTI, hTO, ⟨d1, p⟩, ⟨d2, p2⟩⟩ fun h' tk hk _ => I.turnedL (t' := tk) (ch := [z, TI, TO, i1, i2]) (fun c o hb q => hk c o (fun m => hb (by
        have e' : c = z ∨ c = TO ∨ c = i1 ∨ c = i2 := by simpa using m
        rcases e' with q | q | q | q <;> simp [q])) q) hf
  self := fun A i s Q E st h => wpAny_pyIter_zip st.2.1 h
def iZipK (K : PySem.W.Frag) (ta : TA) : TI := fun σ H R => ta σ H fun vs H1 => ∃ k1 k2 a b xs ys, vs = [.ref a, .ref b] ∧ Sq K k1 H1 a xs ∧ Sq K k2 H1 b ys ∧ R (ItZ K k1 k2 a b xs ys) H1
theorem pi_zipK {X : Cx} {e e2 : Expr} {ta : TA} {p pos tpos : Pos} {elts : List Expr} {kk : Nat} (hg : Gl X "zip") (hm : X.mg "zip" = none) (ha : PA X [e, e2] ta)
    (hs : starEach [e, e2] X.env = (false, eval e X.env) :: starEach [e2] X.env := by rfl) (hpl : (backTo pos (starEach [e2] X.env)).any (·.1) = false := by rfl) :
    PI X (.Tuple elts kk tpos) (.Call (.Name "zip" p) [e, e2] [] pos) (iZipK X.K ta) := by
  refine ⟨fun pins s σ H R I h => ?_⟩
  refine Call_ (ld_blt I hg hm PyProof.Rows.boot_zip (PyProof.Rows.callWith_type1 (thn (ha.run pos pins s σ H _ I h) fun us s1 ⟨vs, H1, I1, r1, q1⟩ => ?_) hs hpl))
  obtain ⟨k1, k2, a, b, xs, ys, ex, hqx, hqy, q⟩ := q1
  subst ex
  obtain ⟨u1, u2, rfl, e1, e2⟩ := r1.two
  obtain rfl : u1 = .ref a := e1
  obtain rfl : u2 = .ref b := e2
  obtain ⟨its, rv, p1, la, _⟩ := sq_inv I1 hqx
  obtain ⟨its2, rv2, p2, lb, _⟩ := sq_inv I1 hqy
  refine zip_begins2 (begins_k k1 a its.toArray) (begins_k k2 b its2.toArray) p1 p2 fun h' hz hTI hTO h1 h2 hsz hk => wpAny_pyIter_zip hz ?_
  have I2 : Inv X pins σ H1 { s1 with heap := h' } := I1.kept (t' := s1.toks) hk
  refine ⟨s1.heap.objs.size + 4, [s1.heap.objs.size + 4, s1.heap.objs.size + 2, s1.heap.objs.size + 3, s1.heap.objs.size, s1.heap.objs.size + 1], _, _, H1, rfl, I2,
    turn_zipK (zip_sep2 (N := s1.heap.objs.size) (fp1 := [a]) (fp2 := [b]) (by simpa using la) (by simpa using lb)) (Nat.ne_of_lt la) (Nat.ne_of_lt (Nat.lt_succ_of_lt lb)), ⟨Nat.zero_le _, hz, hTI, ⟨_, _, hTO⟩, isIt_0 h1, isIt_0 h2⟩, fun c hcm => ?_, q⟩
  have e' : c = s1.heap.objs.size + 4 ∨ c = s1.heap.objs.size + 2 ∨ c = s1.heap.objs.size + 3 ∨ c = s1.heap.objs.size ∨ c = s1.heap.objs.size + 1 := by simpa using hcm
  have hle : s1.heap.objs.size ≤ c := by
    rcases e' with z | z | z | z | z
    · rw [z]; exact Nat.le_add_right _ _
    · rw [z]; exact Nat.le_add_right _ _
    · rw [z]; exact Nat.le_add_right _ _
    · rw [z]; exact Nat.le_refl _
    · rw [z]; exact Nat.le_add_right _ _
  exact I1.fpOk hle (I1.hok.fresh hle)
/-! ### enumerate -/
def ItE (K : PySem.W.Frag) (k : Bool) (a : Addr) (xs : List V) : It :=
  ⟨fun i H => Sq K k H a xs ∧ i < xs.length, fun i H v H' => ∃ T x, v = .ref T ∧ H T = none ∧ H' = upd H T (.tup [.int (i : Nat), x]) ∧ xs[i]? = some x, fun i H => Sq K k H a xs ∧ xs.length ≤ i⟩
theorem turn_enumK {P : Program} {w : World} {K : PySem.W.Frag} {elts : List Expr} {kk : Nat} {tpos : Pos} {k : Bool} {a e it : Addr} {xs : List V} (n1 : a ≠ it) (n2 : e ≠ it) (n3 : e ≠ a) :
    Turn P w K (.Tuple elts kk tpos) (ItE K k a xs) [e, it] e (fun i h => i ≤ xs.length ∧ (∃ old, IsEnum h e it (0 + (i : Int)) old) ∧ IsIt k h it a i) where
  mem := by simp
  obj := fun i h st b hb => by
    obtain ⟨_, ⟨old, he⟩, hit⟩ := st
    have e' : b = e ∨ b = it := by simpa using hb
    rcases e' with z | z
    · rw [z]; exact ⟨_, he, fun v q => nomatch q⟩
    · rw [z]; exact isIt_obj hit
  keep := fun i h h' st k => let ⟨hi, ⟨old, he⟩, hit⟩ := st; ⟨hi, ⟨old, k e (by simp) _ he⟩, isIt_at hit fun o q => k it (by simp) o q⟩
  item := by
    intro X hP hw hK hc i pins s σ H E I hf st hg
    subst hP hw hK
    obtain ⟨hi, he, hit⟩ := st
    obtain ⟨hq, hx⟩ := hg
    obtain ⟨its, rv, p, _, _⟩ := sq_inv I hq
    have l1 : its.toArray.size = xs.length := by rw [List.size_toArray]; exact rv.length.symm
    have hh : X.A.in1.handled = none := I.ok.hd hc
    have W := GoesN.enumFrom (prog := X.prog) (w := X.w) (A := X.A) (elts := elts) (x1 := kk) (pos := tpos) 0 (draws_k k hh it a n1 its.toArray) e n2 (by simp [n2, n3]) (by simp)
    refine W.goes i s _ E (by rw [l1]; exact hx) ⟨he, hit, p⟩ fun v h' tk hY hSt hk htk => ?_
    obtain ⟨T, t, u, rfl, hT, hu, tT⟩ := hY
    obtain ⟨he', hit', _⟩ := hSt
    have hx' : xs[i]? = some xs[i] := List.getElem?_eq_getElem hx
    obtain ⟨w1, e1, r1⟩ := rv.get hx'
    obtain rfl : w1 = u := Option.some.inj (e1.symm.trans (by simpa using hu))
    rw [Int.zero_add] at tT
    have I1 : Inv X pins σ (upd H T (.tup [.int (i : Nat), xs[i]])) { s with heap := h', toks := tk } :=
      I.turnedNew (ch := [e, it]) (fun c o hb q => hk c o (fun m => hb m) q) hf hT (pair_new ⟨_, rfl⟩ r1 tT)
    refine ⟨.ref T, _, I1, rfl, ⟨T, _, rfl, I.hok.fresh hT, rfl, hx'⟩, ⟨hx, he', hit'⟩, fun c hcm => ?_⟩
    have hlt : c < s.heap.objs.size := by
      obtain ⟨_, he⟩ := he
      obtain ⟨o1, e1, _⟩ := isIt_obj hit
      have e' : c = e ∨ c = it := by simpa using hcm
      rcases e' with q | q
      · rw [q]; exact Heap.lt_size he
      · rw [q]; exact Heap.lt_size e1
    rw [upd_ne (Nat.ne_of_lt (Nat.lt_of_lt_of_le hlt hT))]
    exact (hf c hcm).1
  done := by
    intro X hP hw hK hc i pins s σ H E I hf st hg
    subst hP hw hK
    obtain ⟨hi, he, hit⟩ := st
    obtain ⟨hq, hx⟩ := hg
    obtain ⟨its, rv, p, _, _⟩ := sq_inv I hq
    have l1 : its.toArray.size = xs.length := by rw [List.size_toArray]; exact rv.length.symm
    have hh : X.A.in1.handled = none := I.ok.hd hc
    have W := GoesN.enumFrom (prog := X.prog) (w := X.w) (A := X.A) (elts := elts) (x1 := kk) (pos := tpos) 0 (draws_k k hh it a n1 its.toArray) e n2 (by simp [n2, n3]) (by simp)
    have ei : i = its.toArray.size := by rw [l1]; omega
    subst ei
    exact W.stops s (fun s1 => Inv X pins σ H s1) E ⟨he, hit, p⟩ fun h' tk hk _ => I.turnedL (t' := tk) (ch := [e, it]) (fun c o hb q => hk c o hb q) hf
  self := fun A i s Q E st h => let ⟨_, ⟨_, he⟩, _⟩ := st; wpAny_pyIter_enum he h
def iEnumK (K : PySem.W.Frag) (ta : TA) : TI := fun σ H R => ta σ H fun vs H1 => ∃ k a xs, vs = [.ref a] ∧ Sq K k H1 a xs ∧ R (ItE K k a xs) H1
end RgK
set_option Elab.async false
set_option linter.all false
set_option maxRecDepth 100000
set_option maxHeartbeats 4000000
/-! Rules that the layer lacks, 3: constants by ∃, text times int, xs[::-1] of any sequence, len(set(texts)), enumerate of any sequence, a lock behind an expression. -/
namespace RgK
open PySem PySem.Spec PyProof.Rows L2
section
variable {X : Cx}
theorem pe_globI {x : Str} {i : Int} {pos : Pos} (hg : Gl X x) (hm : ∃ t, X.mg x = some (.int i t)) (hd : (x == ("__debug__" : Str)) = false := by decide) : PE X (.Name x pos) (tC (.int i)) := by
  obtain ⟨t, h⟩ := hm
  exact pe_glob hg h ⟨t, rfl⟩ hd
theorem pe_globS {x z : Str} {pos : Pos} (hg : Gl X x) (hm : ∃ t, X.mg x = some (.str z t)) (hd : (x == ("__debug__" : Str)) = false := by decide) : PE X (.Name x pos) (tC (.str z)) := by
  obtain ⟨t, h⟩ := hm
  exact pe_glob hg h ⟨t, rfl⟩ hd
/-! ### text * 0, text * 1 -/
def rRepS : R2 := fun x y H Q => ∃ z k, x = .str z ∧ y = .int k ∧ ((k = 0 ∧ Q (.str Str.empty) H) ∨ (k = 1 ∧ Q (.str z) H))
theorem op_repS : OpR X (binaryOp .Mult) rRepS := by
  intro pins s σ H x y v u Q I rx ry ⟨z, k, e1, e2, h⟩
  subst e1 e2
  obtain ⟨t, rfl⟩ := rx
  obtain ⟨t2, rfl⟩ := ry
  rcases h with ⟨rfl, q⟩ | ⟨rfl, q⟩
  · exact P.mul_str_none (by decide) (by decide) ⟨.str Str.empty, H, I.tok _, ⟨_, rfl⟩, q⟩
  · refine P.mul_str (by decide) (fun _ h => absurd h (by simp)) (fun _ h => absurd h (by simp)) ?_
    rw [if_neg (by decide), if_pos (by simp)]
    exact ⟨.str z, H, I, ⟨_, rfl⟩, q⟩
/-! ### xs[::-1] -/
theorem fm_some {α β : Type} {f : α → Option β} {g : α → β} : ∀ {l : List α}, (∀ a ∈ l, f a = some (g a)) → l.filterMap f = l.map g
  | [], _ => rfl
  | a :: l, h => by
    rw [List.filterMap_cons, h a List.mem_cons_self, List.map_cons, fm_some fun b hb => h b (List.mem_cons_of_mem _ hb)]
theorem pick_rev (vs : List Value) : ((List.range vs.length).filterMap fun (k : Nat) => vs.toArray[((vs.length : Int) - 1 + (k : Int) * -1).toNat]?).toArray = vs.reverse.toArray := by
  congr 1
  have e : (fun (k : Nat) => vs.toArray[((vs.length : Int) - 1 + (k : Int) * -1).toNat]?) = fun k : Nat => vs[((vs.length : Int) - 1 - k).toNat]? := by
    funext k
    rw [List.getElem?_toArray]
    congr 2
    omega
  rw [e]
  apply List.ext_getElem?
  intro i
  have key : (List.range vs.length).filterMap (fun k : Nat => vs[((vs.length : Int) - 1 - k).toNat]?) = (List.range vs.length).map (fun k => vs.getD (vs.length - 1 - k) .none) := by
    refine fm_some fun k hk => ?_
    have hk : k < vs.length := List.mem_range.mp hk
    have : ((vs.length : Int) - 1 - k).toNat = vs.length - 1 - k := by omega
    rw [this]
    have h2 : vs.length - 1 - k < vs.length := by omega
    rw [List.getElem?_eq_getElem h2, List.getD_eq_getElem?_getD, List.getElem?_eq_getElem h2]
    rfl
  rw [key, List.getElem?_map]
  by_cases hi : i < vs.length
  · rw [List.getElem?_range hi, List.getElem?_reverse hi]
    have h2 : vs.length - 1 - i < vs.length := by omega
    rw [List.getElem?_eq_getElem h2]
    show some (vs.getD (vs.length - 1 - i) Value.none) = some _
    rw [List.getD_eq_getElem?_getD, List.getElem?_eq_getElem h2]
    rfl
  · rw [List.getElem?_eq_none (by simpa using hi), List.getElem?_eq_none (by simpa using hi)]
    rfl
section
variable {prog : Program} {w : World} {A : Around} {E : Value → Shared → Prop} {s : Shared}
open HT in
theorem sliceApplied_rev {sl : Addr} {vl vu vs : Value} {n : Nat} {Q : Int × Int × Nat → Shared → Prop} (hs : s.heap.IsSliceOf sl vl vu vs) (pl : IsPart vl none) (pu : IsPart vu none) (ps : IsPart vs (some (-1)))
    (h : Q ((n : Int) - 1, -1, n) s) : wpAny (model prog w) A (Builtin.Slice.sliceApplied (.ref sl) (pure (n : Int))) Q E s := by
  obtain ⟨os, hos, hcs, hds⟩ := id hs
  unfold Builtin.Slice.sliceApplied Builtin.Slice.sliceFields
  refine wpAny_bind (wpAny_bind (wpAny_field hos hds (x := vl) rfl (wpAny_bind (wpAny_field hos hds (x := vu) rfl (wpAny_bind (wpAny_field hos hds (x := vs) rfl (wpAny_pure ?_)))))))
  refine wpAny_bind (slicePart_ ps ?_)
  show wpAny _ _ (if ((-1 : Int) == 0) = true then _ else _) _ _ s
  rw [if_neg (by decide)]
  refine wpAny_bind (slicePart_ pl (wpAny_bind (slicePart_ pu (wpAny_bind (wpAny_pure ?_)))))
  have e : Builtin.Slice.sliceAdjust none none (-1) (n : Int) = ((n : Int) - 1, -1) := by
    unfold Builtin.Slice.sliceAdjust
    simp
  show wpAny _ _ (match Builtin.Slice.sliceAdjust none none (-1) (n : Int) with | (lo, hi) => pure (lo, (-1 : Int), Builtin.Slice.slicePlaces lo hi (-1))) _ _ s
  rw [e]
  show wpAny _ _ (pure ((n : Int) - 1, (-1 : Int), Builtin.Slice.slicePlaces ((n : Int) - 1) (-1) (-1))) _ _ s
  have e2 : Builtin.Slice.slicePlaces ((n : Int) - 1) (-1) (-1) = n := by
    unfold Builtin.Slice.slicePlaces
    cases n with
    | zero => simp
    | succ m => simp <;> omega
  rw [e2]
  exact wpAny_pure h
theorem getItem_tuple_rev {t sl : Addr} {items : List Value} {vl vu vs : Value} {Q : Value → Shared → Prop} (ht : IsTup s.heap t items.toArray) (hs : s.heap.IsSliceOf sl vl vu vs) (pl : IsPart vl none) (pu : IsPart vu none) (ps : IsPart vs (some (-1)))
    (h : Q (.ref s.heap.objs.size) { s with heap := s.heap.push { cls := .type "tuple", data := .seq items.reverse.toArray } }) (hsz : items.length ≤ sizeLine) : wpAny (model prog w) A (getItem (.ref t) (.ref sl)) Q E s := by
  have htake : sizeOk (.seq items.reverse.toArray) := by
    show items.reverse.toArray.size ≤ sizeLine
    rw [List.size_toArray, List.length_reverse]
    exact hsz
  obtain ⟨os, hos, hcs, hds⟩ := id hs
  have hTs : s.TypeIs (.ref sl) "slice" := ⟨os, hos, hcs⟩
  unfold getItem
  try with_reducible refine wpAny_holding ?_
  first | refine wpAny_bind (wpAny_pure ?_) | skip
  refine wpAny_bind (wpAny_sequenceKey ht.typeIs (by decide) ?_)
  refine wpAny_bind (wpAny_callSpecial?_slot (name := Str.ofString "__getitem__") ht.typeIs PyProof.Rows.slot_tuple_getitem
    (wpAny_call_entry PyProof.Rows.slot_tuple_getitem ht.typeIs entry_tuple_getitem ?_ (args_tuple_getitem _ _)))
  show wpAny _ _ (Builtin.Tuple.tupleItemsOf (.ref t) >>= _) _ _ s
  refine wpAny_bind (tupleItemsOf_ ht ?_)
  refine wpAny_bind (wpAny_typeOf hTs ?_)
  rw [if_pos (by decide)]
  have hn : (items.toArray.size : Int) = (items.length : Int) := by rw [List.size_toArray]
  rw [hn]
  refine wpAny_bind (sliceApplied_rev hs pl pu ps ?_)
  have hno : ¬ ((((items.length : Int) - 1) == 0 && (-1 : Int) == 1 && items.length == items.toArray.size) = true) := by
    intro q
    rw [Bool.and_eq_true, Bool.and_eq_true] at q
    exact absurd q.1.2 (by decide)
  show wpAny _ _ (if (((items.length : Int) - 1) == 0 && (-1 : Int) == 1 && items.length == items.toArray.size) = true then _ else _) _ _ s
  rw [if_neg hno, pick_rev]
  first
    | exact wpAny_bind (m := Builtin.Tuple.tupleExact _) (wpAny_newObj_type (wpAny_pure ⟨_, rfl, wpAny_pure h⟩) htake)
    | exact wpAny_bind (m := Builtin.Tuple.tupleExact _) (wpAny_newObj_type (wpAny_bind (wpAny_pure (wpAny_pure ⟨_, rfl, wpAny_pure h⟩))) htake)
    | exact wpAny_bind (wpAny_bind (m := Builtin.Tuple.tupleExact _) (wpAny_newObj_type (wpAny_pure (wpAny_pure ⟨_, rfl, wpAny_pure h⟩)) htake))
    | exact wpAny_bind (wpAny_bind (m := Builtin.Tuple.tupleExact _) (wpAny_newObj_type (wpAny_pure ⟨_, rfl, wpAny_pure h⟩) htake))
end
def tRevS (K : PySem.W.Frag) (te : TE) : TE := fun σ H Q => te σ H fun x H1 => ∃ k a xs, x = .ref a ∧ Sq K k H1 a xs ∧ ∀ p, H1 p = none → Q (.ref p) (upd H1 p (if k = true then .lst xs.reverse else .tup xs.reverse))
theorem pe_revS {e : Expr} {te : TE} {k : Nat} {p1 p2 p3 pos : Pos} (he : PE X e te) : PE X (.Subscript e (.Slice none none (some (.UnaryOp .USub (.Constant (.int 1) k p1) p2)) p3) pos) (tRevS X.K te) := by
  refine ⟨fun pins s σ H Q I h => ?_⟩
  refine Subscript_ (thn (he.run pins s σ H _ I h) fun v s1 ⟨x, H1, I1, r1, q1⟩ => ?_)
  obtain ⟨kk, a, xs, ex, hx, q⟩ := q1
  subst ex
  cases r1
  have hst : PO X (some (.UnaryOp .USub (.Constant (.int 1) k p1) p2)) (tPart (tUn (rU fun i => .int (-i)) (tC (.int 1)))) := po_some (pe_un un_neg pe_int)
  refine wpAny_Slice (thn (po_none.run pins s1 σ H1 (fun o H2 => o = none ∧ H2 = H1) I1 ⟨rfl, rfl⟩) fun vl s2 ⟨l, H2, I2, pl, el, e2⟩ => ?_)
  subst el e2
  refine thn (po_none.run pins s2 σ H2 (fun o H3 => o = none ∧ H3 = H2) I2 ⟨rfl, rfl⟩) fun vu s3 ⟨u, H3, I3, pu, eu, e3⟩ => ?_
  subst eu e3
  refine thn (hst.run pins s3 σ H3 (fun o H4 => o = some (-1) ∧ H4 = H3) I3 ⟨1, rfl, -1, rfl, rfl, rfl⟩) fun vs s4 ⟨o, H4, I4, ps, eo, e4⟩ => ?_
  subst eo e4
  have I5 : Inv X pins σ H4 { s4 with heap := s4.heap.push { cls := .type "slice", data := .fields #[vl, vu, vs] } } := I4.kept (t' := s4.toks) fun b ob q => Heap.get?_push_of_some _ q
  cases kk with
  | true =>
    obtain ⟨its, r, ht, hz⟩ := I5.list hx
    have hlen := r.length
    show wpAny (model X.prog X.w) X.A (subscriptTail e (.Slice none none (some (.UnaryOp .USub (.Constant (.int 1) k p1) p2)) p3) (.ref a) (.ref s4.heap.objs.size)) (EP X pins σ Q) X.xe { s4 with heap := s4.heap.push { cls := .type "slice", data := .fields #[vl, vu, vs] } }
    refine tail_any (ops := [.ref a, .ref s4.heap.objs.size]) ht.isList.typeIs (PySem.slot_list_getitem.lookup) ?_ (by with_unfolding_all rfl)
    refine wpAny_getItem_list_slice ht.isList (Heap.IsSliceOf.new _ vl vu vs) pl pu ps (by decide) ?_ (by rw [List.size_toArray]; omega)
    rw [PySem.W.krv_pick]
    refine ⟨.ref _, _, I5.laid (t' := s4.toks) (o := .lst xs.reverse) (fun b ob q => Heap.get?_push_of_some _ q) (Nat.le_refl _) ?_, rfl, q _ (I5.hok.fresh (Nat.le_refl _))⟩
    exact ⟨by rw [List.length_reverse]; exact hz, _, 0, r.reverse, Heap.get?_push_size _ rfl⟩
  | false =>
    obtain ⟨its, r, ht, hz⟩ := I5.tuple hx
    have hlen := r.length
    show wpAny (model X.prog X.w) X.A (subscriptTail e (.Slice none none (some (.UnaryOp .USub (.Constant (.int 1) k p1) p2)) p3) (.ref a) (.ref s4.heap.objs.size)) (EP X pins σ Q) X.xe { s4 with heap := s4.heap.push { cls := .type "slice", data := .fields #[vl, vu, vs] } }
    refine tail_any (ops := [.ref a, .ref s4.heap.objs.size]) ht.typeIs (PyProof.Rows.slot_tuple_getitem.lookup) ?_ (by with_unfolding_all rfl)
    refine getItem_tuple_rev ht (Heap.IsSliceOf.new _ vl vu vs) pl pu ps ?_ (by omega)
    refine ⟨.ref _, _, I5.laid (t' := s4.toks) (o := .tup xs.reverse) (fun b ob q => Heap.get?_push_of_some _ q) (Nat.le_refl _) ?_, rfl, q _ (I5.hok.fresh (Nat.le_refl _))⟩
    exact ⟨by rw [List.length_reverse]; exact hz, _, r.reverse, IsTup.new _ _⟩
/-! ### a lock behind an expression -/
def tFrz (te : TE) : TE := fun σ H Q => te σ H fun v H1 => ∃ d u, v = .ref d ∧ H1 d = some u ∧ Mut (some u) ∧ ∀ od, Q v (upd H1 d (.frz od u))
theorem pe_frz {e : Expr} {te : TE} (he : PE X e te) : PE X e (tFrz te) := by
  refine ⟨fun pins s σ H Q I h => thn (he.run pins s σ H _ I h) fun v s1 ⟨x, H1, I1, r, d, u, ex, hd, mu, q⟩ => ?_⟩
  obtain ⟨od, I2⟩ := I1.lock hd mu
  exact ⟨x, _, I2, r, q od⟩
/-! ### enumerate(x) -/
end
section
variable {prog : Program} {w : World} {A : Around} {E : Value → Shared → Prop} {s : Shared}
theorem meets_enumerate_new1 {v : Value} {o : Obj} {P : Heap → Prop} (B : Begins v o P) :
    Meets (Builtin.«enumerate.__new__» ⟨[.type "enumerate", v], []⟩) (fun _ R s => P s.heap ∧
      R (.ok (.ret (.ref (s.heap.push o).objs.size)))
        { s with heap := (s.heap.push o).push { cls := .type "enumerate", data := .fields #[.none, .bool false, .ref s.heap.objs.size, rawInt 0, .none, .none] } }) :=
  .of_wp fun prog w A R s h => by
    obtain ⟨hp, g, d, tk, os⟩ := s; obtain ⟨hl, h⟩ := h
    have hsub := sub_enumerate
    have hI : ∀ (A : Around) (E : Value → Shared → Prop) (Q : Value → Shared → Prop), Q (.ref hp.objs.size) ⟨hp.push o, g, d, tk, os⟩ → wpAny (model prog w) A (pyIter v) Q E ⟨hp, g, d, tk, os⟩ := fun A E Q q => B.iter prog w A E ⟨hp, g, d, tk, os⟩ Q hl q
    wp_walk
    refine wpAny_stack_any fun st => wpAny_pure ?_
    split
    · rename_i c _ _ _ _ _
      cases (c == Value.type "enumerate")
      · wp_walk using hI
        exact ⟨_, rfl, h⟩
      · wp_walk using hI
        exact ⟨_, rfl, h⟩
    · wp_walk using hI
      exact ⟨_, rfl, h⟩
theorem enum_begins1 {v : Value} {o : Obj} {P : Heap → Prop} {Q : Value → Shared → Prop} (B : Begins v o P) (h1 : P s.heap)
    (h : ∀ h', IsEnum h' (s.heap.objs.size + 1) s.heap.objs.size 0 .none → h'.get? s.heap.objs.size = some o → h'.objs.size = s.heap.objs.size + 2 →
      (∀ b o, s.heap.get? b = some o → h'.get? b = some o) → Q (.ref (s.heap.objs.size + 1)) { s with heap := h' }) :
    wpAny (model prog w) A (call (.type "enumerate") [v]) Q E s := by
  refine callType_new F.called_enumerate (by decide) (F.typeCall_enumerate_1 _) (F.newCall_enumerate_1 _) (fun obj => F.args_object_init_2 obj _) F.entry_enumerate_new
    (meets_enumerate_new1 B) ⟨h1, ?_⟩
  have hz : (s.heap.push o).objs.size = s.heap.objs.size + 1 := Heap.size_push ..
  show _ ∧ _
  rw [hz]
  have he : IsEnum ((s.heap.push o).push { cls := .type "enumerate", data := .fields #[.none, .bool false, .ref s.heap.objs.size, rawInt 0, .none, .none] }) (s.heap.objs.size + 1) s.heap.objs.size 0 .none := by
    have := Heap.get?_push_size (s.heap.push o) (o := { cls := .type "enumerate", data := .fields #[.none, .bool false, .ref s.heap.objs.size, rawInt 0, .none, .none] }) rfl
    rw [hz] at this; exact this
  refine ⟨⟨_, he, rfl⟩, h _ he (Heap.get?_push_of_some _ (Heap.get?_push_size _ B.free)) (by rw [Heap.size_push, hz]) fun b o x => Heap.get?_push_of_some _ (Heap.get?_push_of_some _ x)⟩
end
theorem pi_enumK {X : Cx} {e : Expr} {ta : TA} {p pos tpos : Pos} {elts : List Expr} {kk : Nat} (hg : Gl X "enumerate") (hm : X.mg "enumerate" = none) (ha : PA X [e] ta) (hs : starEach [e] X.env = [(false, eval e X.env)] := by rfl) :
    PI X (.Tuple elts kk tpos) (.Call (.Name "enumerate" p) [e] [] pos) (iEnumK X.K ta) := by
  refine ⟨fun pins s σ H R I h => ?_⟩
  refine Call_ (ld_blt I hg hm boot_enumerate (PyProof.Rows.callWith_type1 (thn (ha.run pos pins s σ H _ I h) fun us s1 ⟨vs, H1, I1, r1, q1⟩ => ?_) hs rfl))
  obtain ⟨k, a, xs, ex, hq, q⟩ := q1
  subst ex
  obtain ⟨u, rfl, r⟩ := r1.one
  obtain rfl : u = .ref a := r
  obtain ⟨its, rv, p', hlt, hz⟩ := sq_inv I1 hq
  refine enum_begins1 (begins_k k a its.toArray) p' fun h' he hit hsz hk => wpAny_pyIter_enum he ?_
  have I2 : Inv X pins σ H1 { s1 with heap := h' } := I1.kept (t' := s1.toks) hk
  have n1 : a ≠ s1.heap.objs.size := Nat.ne_of_lt hlt
  have n3 : s1.heap.objs.size + 1 ≠ a := Nat.ne_of_gt (Nat.lt_succ_of_lt hlt)
  refine ⟨s1.heap.objs.size + 1, [s1.heap.objs.size + 1, s1.heap.objs.size], _, _, H1, rfl, I2, turn_enumK (k := k) (a := a) (e := s1.heap.objs.size + 1) (it := s1.heap.objs.size) n1 (Nat.succ_ne_self _) n3, ⟨Nat.zero_le _, ⟨.none, he⟩, isIt_0 hit⟩, fun b hb => ?_, q⟩
  have e' : b = s1.heap.objs.size + 1 ∨ b = s1.heap.objs.size := by simpa using hb
  have hle : s1.heap.objs.size ≤ b := by
    rcases e' with z | z
    · rw [z]; exact Nat.le_add_right _ _
    · rw [z]; exact Nat.le_refl _
  exact I1.fpOk hle (I1.hok.fresh hle)
end RgK
set_option Elab.async false
set_option linter.all false
set_option maxRecDepth 100000
set_option maxHeartbeats 4000000
/-! The facts by name (printed by gen_tx.py); calls whose promise is chosen in the reading. -/
namespace RgK
open PySem PySem.Spec PyProof.Rows L2
abbrev PG : Program := PySem.Challenge.rw_rungworks_k73_whole_one_machine.prog
abbrev Mg : Type := Str → Option Value
/-- what is known of the text, over the base -/
structure Tx (w : World) (K : PySem.W.Frag) (mg : Mg) (base : Heap) : Prop where
  facts : He.SaysT fa fn [] w K
  own : ex K = true
  hd : ∀ p ∈ tf, PySem.W.codeHdIn K (He.cT K p).1 (He.cT K p).2 = true
  kin : K.In base
  ns : base.Ns mainGlobals mg
section
variable {w : World} {K : PySem.W.Frag} {mg : Mg} {base : Heap} (T : Tx w K mg base)
include T
theorem Tx.fact (i : Nat) {f : He.Fa} (h : fa[i]? = some f := by rfl) : f.ok K = true := T.facts.d.fact i h
theorem Tx.def_ (i : Nat) {d : He.DefD} (h : fn[i]? = some d := by rfl) : ∃ fd, FunD K d.name d.qual d.params d.body d.scope [] [] (He.fAd K d.at_) fd := by
  have q := T.facts.d.def_ i h
  have e1 : d.dfl = [] ∧ d.kwd = [] := by
    have hm : d ∈ fn := List.mem_of_getElem? h
    have all : ∀ d ∈ fn, d.dfl = [] ∧ d.kwd = [] := by
      intro d hd
      unfold fn at hd
      simp only [List.mem_cons, List.not_mem_nil, or_false] at hd
      rcases hd with rfl | hd <;> first | exact ⟨rfl, rfl⟩ | skip
      all_goals (repeat' (rcases hd with rfl | hd <;> first | exact ⟨rfl, rfl⟩ | skip))
      all_goals (subst hd; exact ⟨rfl, rfl⟩)
    exact all d hm
  have e2 : d.dvs K = [] := by
    unfold He.DefD.dvs
    rw [e1.1] <;> rfl
  have e3 : d.kws K = [] := by
    unfold He.DefD.kws
    rw [e1.2] <;> rfl
  rw [e2, e3] at q
  exact q
theorem Tx.g_is_word : mg "is_word" = some (.ref (He.ga K "is_word")) := He.glo_ok T.kin T.ns (T.fact 0)
theorem Tx.g_is_name : mg "is_name" = some (.ref (He.ga K "is_name")) := He.glo_ok T.kin T.ns (T.fact 1)
theorem Tx.g_single : mg "single" = some (.ref (He.ga K "single")) := He.glo_ok T.kin T.ns (T.fact 2)
theorem Tx.g_joined : mg "joined" = some (.ref (He.ga K "joined")) := He.glo_ok T.kin T.ns (T.fact 3)
theorem Tx.g_part_of : mg "part_of" = some (.ref (He.ga K "part_of")) := He.glo_ok T.kin T.ns (T.fact 4)
theorem Tx.g_need_row : mg "need_row" = some (.ref (He.ga K "need_row")) := He.glo_ok T.kin T.ns (T.fact 5)
theorem Tx.g_counting_ends : mg "counting_ends" = some (.ref (He.ga K "counting_ends")) := He.glo_ok T.kin T.ns (T.fact 6)
theorem Tx.g_bits_of : mg "bits_of" = some (.ref (He.ga K "bits_of")) := He.glo_ok T.kin T.ns (T.fact 7)
theorem Tx.g_width : mg "width" = some (.ref (He.ga K "width")) := He.glo_ok T.kin T.ns (T.fact 8)
theorem Tx.g_state_of : mg "state_of" = some (.ref (He.ga K "state_of")) := He.glo_ok T.kin T.ns (T.fact 9)
theorem Tx.g_pieces : mg "pieces" = some (.ref (He.ga K "pieces")) := He.glo_ok T.kin T.ns (T.fact 10)
theorem Tx.g_works_at : mg "works_at" = some (.ref (He.ga K "works_at")) := He.glo_ok T.kin T.ns (T.fact 11)
theorem Tx.g_rows : mg "rows" = some (.ref (He.ga K "rows")) := He.glo_ok T.kin T.ns (T.fact 12)
theorem Tx.g_row_of : mg "row_of" = some (.ref (He.ga K "row_of")) := He.glo_ok T.kin T.ns (T.fact 13)
theorem Tx.g_row_number : mg "row_number" = some (.ref (He.ga K "row_number")) := He.glo_ok T.kin T.ns (T.fact 14)
theorem Tx.g_step : mg "step" = some (.ref (He.ga K "step")) := He.glo_ok T.kin T.ns (T.fact 15)
theorem Tx.g_wired : mg "wired" = some (.ref (He.ga K "wired")) := He.glo_ok T.kin T.ns (T.fact 16)
theorem Tx.g_timer_act : mg "timer_act" = some (.ref (He.ga K "timer_act")) := He.glo_ok T.kin T.ns (T.fact 17)
theorem Tx.g_counter_act : mg "counter_act" = some (.ref (He.ga K "counter_act")) := He.glo_ok T.kin T.ns (T.fact 18)
theorem Tx.g_coil_act : mg "coil_act" = some (.ref (He.ga K "coil_act")) := He.glo_ok T.kin T.ns (T.fact 19)
theorem Tx.g_latch_act : mg "latch_act" = some (.ref (He.ga K "latch_act")) := He.glo_ok T.kin T.ns (T.fact 20)
theorem Tx.g_unlatch_act : mg "unlatch_act" = some (.ref (He.ga K "unlatch_act")) := He.glo_ok T.kin T.ns (T.fact 21)
theorem Tx.g_act_of : mg "act_of" = some (.ref (He.ga K "act_of")) := He.glo_ok T.kin T.ns (T.fact 22)
theorem Tx.g_sizes_of : mg "sizes_of" = some (.ref (He.ga K "sizes_of")) := He.glo_ok T.kin T.ns (T.fact 23)
theorem Tx.g_numbers_in : mg "numbers_in" = some (.ref (He.ga K "numbers_in")) := He.glo_ok T.kin T.ns (T.fact 24)
theorem Tx.g_packed : mg "packed" = some (.ref (He.ga K "packed")) := He.glo_ok T.kin T.ns (T.fact 25)
theorem Tx.g_bits_by : mg "bits_by" = some (.ref (He.ga K "bits_by")) := He.glo_ok T.kin T.ns (T.fact 26)
theorem Tx.g_wired_ladder : mg "wired_ladder" = some (.ref (He.ga K "wired_ladder")) := He.glo_ok T.kin T.ns (T.fact 27)
theorem Tx.g_need_between : mg "need_between" = some (.ref (He.ga K "need_between")) := He.glo_ok T.kin T.ns (T.fact 28)
theorem Tx.g_need_single : mg "need_single" = some (.ref (He.ga K "need_single")) := He.glo_ok T.kin T.ns (T.fact 29)
theorem Tx.g_need_own : mg "need_own" = some (.ref (He.ga K "need_own")) := He.glo_ok T.kin T.ns (T.fact 30)
theorem Tx.g_law_cell_at : mg "_law_cell_at" = some (.ref (He.ga K "_law_cell_at")) := He.glo_ok T.kin T.ns (T.fact 31)
theorem Tx.g_law_mixed : mg "_law_mixed" = some (.ref (He.ga K "_law_mixed")) := He.glo_ok T.kin T.ns (T.fact 32)
theorem Tx.g_law_word : mg "_law_word" = some (.ref (He.ga K "_law_word")) := He.glo_ok T.kin T.ns (T.fact 33)
theorem Tx.g_law_names : mg "_law_names" = some (.ref (He.ga K "_law_names")) := He.glo_ok T.kin T.ns (T.fact 34)
theorem Tx.g_law_grown : mg "_law_grown" = some (.ref (He.ga K "_law_grown")) := He.glo_ok T.kin T.ns (T.fact 35)
theorem Tx.g_law_size : mg "_law_size" = some (.ref (He.ga K "_law_size")) := He.glo_ok T.kin T.ns (T.fact 36)
theorem Tx.g_law_trees : mg "_law_trees" = some (.ref (He.ga K "_law_trees")) := He.glo_ok T.kin T.ns (T.fact 37)
theorem Tx.g_law_rungs : mg "_law_rungs" = some (.ref (He.ga K "_law_rungs")) := He.glo_ok T.kin T.ns (T.fact 38)
theorem Tx.g_law_names_of : mg "_law_names_of" = some (.ref (He.ga K "_law_names_of")) := He.glo_ok T.kin T.ns (T.fact 39)
theorem Tx.g_law_model : mg "_law_model" = some (.ref (He.ga K "_law_model")) := He.glo_ok T.kin T.ns (T.fact 40)
theorem Tx.g_law_end : mg "_law_end" = some (.ref (He.ga K "_law_end")) := He.glo_ok T.kin T.ns (T.fact 41)
theorem Tx.g_law_ladder : mg "_law_ladder" = some (.ref (He.ga K "_law_ladder")) := He.glo_ok T.kin T.ns (T.fact 42)
theorem Tx.g_law_bits : mg "_law_bits" = some (.ref (He.ga K "_law_bits")) := He.glo_ok T.kin T.ns (T.fact 43)
theorem Tx.g_law_told : mg "_law_told" = some (.ref (He.ga K "_law_told")) := He.glo_ok T.kin T.ns (T.fact 44)
theorem Tx.g_law_far : mg "_law_far" = some (.ref (He.ga K "_law_far")) := He.glo_ok T.kin T.ns (T.fact 45)
theorem Tx.g_law_step : mg "_law_step" = some (.ref (He.ga K "_law_step")) := He.glo_ok T.kin T.ns (T.fact 46)
theorem Tx.g_law : mg "law" = some (.ref (He.ga K "law")) := He.glo_ok T.kin T.ns (T.fact 47)
theorem Tx.g_LadderError : mg "LadderError" = some (.ref (He.ga K "LadderError")) := He.glo_ok T.kin T.ns (T.fact 48)
theorem Tx.g_NoName : mg "NoName" = some (.ref (He.ga K "NoName")) := He.glo_ok T.kin T.ns (T.fact 49)
theorem Tx.g_NoPart : mg "NoPart" = some (.ref (He.ga K "NoPart")) := He.glo_ok T.kin T.ns (T.fact 50)
theorem Tx.g_NoEnd : mg "NoEnd" = some (.ref (He.ga K "NoEnd")) := He.glo_ok T.kin T.ns (T.fact 51)
theorem Tx.g_NoLadder : mg "NoLadder" = some (.ref (He.ga K "NoLadder")) := He.glo_ok T.kin T.ns (T.fact 52)
theorem Tx.g_NoText : mg "NoText" = some (.ref (He.ga K "NoText")) := He.glo_ok T.kin T.ns (T.fact 53)
theorem Tx.g_NoRow : mg "NoRow" = some (.ref (He.ga K "NoRow")) := He.glo_ok T.kin T.ns (T.fact 54)
theorem Tx.g_NoSheet : mg "NoSheet" = some (.ref (He.ga K "NoSheet")) := He.glo_ok T.kin T.ns (T.fact 55)
theorem Tx.g_NoState : mg "NoState" = some (.ref (He.ga K "NoState")) := He.glo_ok T.kin T.ns (T.fact 56)
theorem Tx.g_NoMatch : mg "NoMatch" = some (.ref (He.ga K "NoMatch")) := He.glo_ok T.kin T.ns (T.fact 57)
theorem Tx.g_TooMany : mg "TooMany" = some (.ref (He.ga K "TooMany")) := He.glo_ok T.kin T.ns (T.fact 58)
theorem Tx.g_Coil : mg "Coil" = some (.ref (He.ga K "Coil")) := He.glo_ok T.kin T.ns (T.fact 59)
theorem Tx.g_Latch : mg "Latch" = some (.ref (He.ga K "Latch")) := He.glo_ok T.kin T.ns (T.fact 60)
theorem Tx.g_Unlatch : mg "Unlatch" = some (.ref (He.ga K "Unlatch")) := He.glo_ok T.kin T.ns (T.fact 61)
theorem Tx.g_Timer : mg "Timer" = some (.ref (He.ga K "Timer")) := He.glo_ok T.kin T.ns (T.fact 62)
theorem Tx.g_Counter : mg "Counter" = some (.ref (He.ga K "Counter")) := He.glo_ok T.kin T.ns (T.fact 63)
theorem Tx.g_Fixed : mg "Fixed" = some (.ref (He.ga K "Fixed")) := He.glo_ok T.kin T.ns (T.fact 64)
theorem Tx.g_Contact : mg "Contact" = some (.ref (He.ga K "Contact")) := He.glo_ok T.kin T.ns (T.fact 65)
theorem Tx.g_Turned : mg "Turned" = some (.ref (He.ga K "Turned")) := He.glo_ok T.kin T.ns (T.fact 66)
theorem Tx.g_Series : mg "Series" = some (.ref (He.ga K "Series")) := He.glo_ok T.kin T.ns (T.fact 67)
theorem Tx.g_Branch : mg "Branch" = some (.ref (He.ga K "Branch")) := He.glo_ok T.kin T.ns (T.fact 68)
theorem Tx.g_End : mg "End" = some (.ref (He.ga K "End")) := He.glo_ok T.kin T.ns (T.fact 69)
theorem Tx.g_Counting : mg "Counting" = some (.ref (He.ga K "Counting")) := He.glo_ok T.kin T.ns (T.fact 70)
theorem Tx.g_Part : mg "Part" = some (.ref (He.ga K "Part")) := He.glo_ok T.kin T.ns (T.fact 71)
theorem Tx.g_Group : mg "Group" = some (.ref (He.ga K "Group")) := He.glo_ok T.kin T.ns (T.fact 72)
theorem Tx.g_Rung : mg "Rung" = some (.ref (He.ga K "Rung")) := He.glo_ok T.kin T.ns (T.fact 73)
theorem Tx.g_Ladder : mg "Ladder" = some (.ref (He.ga K "Ladder")) := He.glo_ok T.kin T.ns (T.fact 74)
theorem Tx.g_Works : mg "Works" = some (.ref (He.ga K "Works")) := He.glo_ok T.kin T.ns (T.fact 75)
theorem Tx.g_KEPT : mg "KEPT" = some (.ref (He.ga K "KEPT")) := He.glo_ok T.kin T.ns (T.fact 76)
theorem Tx.f_isinstance : mg "isinstance" = none := He.free_ok T.kin T.ns (T.fact 77)
theorem Tx.f_len : mg "len" = none := He.free_ok T.kin T.ns (T.fact 78)
theorem Tx.f_sum : mg "sum" = none := He.free_ok T.kin T.ns (T.fact 79)
theorem Tx.f_max : mg "max" = none := He.free_ok T.kin T.ns (T.fact 80)
theorem Tx.f_min : mg "min" = none := He.free_ok T.kin T.ns (T.fact 81)
theorem Tx.f_all : mg "all" = none := He.free_ok T.kin T.ns (T.fact 82)
theorem Tx.f_any : mg "any" = none := He.free_ok T.kin T.ns (T.fact 83)
theorem Tx.f_tuple : mg "tuple" = none := He.free_ok T.kin T.ns (T.fact 84)
theorem Tx.f_dict : mg "dict" = none := He.free_ok T.kin T.ns (T.fact 85)
theorem Tx.f_set : mg "set" = none := He.free_ok T.kin T.ns (T.fact 86)
theorem Tx.f_int : mg "int" = none := He.free_ok T.kin T.ns (T.fact 87)
theorem Tx.f_range : mg "range" = none := He.free_ok T.kin T.ns (T.fact 88)
theorem Tx.f_zip : mg "zip" = none := He.free_ok T.kin T.ns (T.fact 89)
theorem Tx.f_enumerate : mg "enumerate" = none := He.free_ok T.kin T.ns (T.fact 90)
theorem Tx.f_bool : mg "bool" = none := He.free_ok T.kin T.ns (T.fact 91)
theorem Tx.f_ValueError : mg "ValueError" = none := He.free_ok T.kin T.ns (T.fact 92)
theorem Tx.i_MOST_SIGNS : ∃ t, mg "MOST_SIGNS" = some (.int 8 t) := He.int_ok T.kin T.ns (T.fact 93)
theorem Tx.i_MOST_COUNT : ∃ t, mg "MOST_COUNT" = some (.int 9 t) := He.int_ok T.kin T.ns (T.fact 94)
theorem Tx.i_MOST_SIZE : ∃ t, mg "MOST_SIZE" = some (.int 60 t) := He.int_ok T.kin T.ns (T.fact 95)
theorem Tx.i_MOST_DEEP : ∃ t, mg "MOST_DEEP" = some (.int 20 t) := He.int_ok T.kin T.ns (T.fact 96)
theorem Tx.i_COUNT_BITS_states : ∃ t, mg "COUNT_BITS_states" = some (.int 4 t) := He.int_ok T.kin T.ns (T.fact 97)
theorem Tx.i_COUNT_BITS_wires : ∃ t, mg "COUNT_BITS_wires" = some (.int 4 t) := He.int_ok T.kin T.ns (T.fact 98)
theorem Tx.i_COUNT_MASK : ∃ t, mg "COUNT_MASK" = some (.int 15 t) := He.int_ok T.kin T.ns (T.fact 99)
theorem Tx.i_MOST_NAMES : ∃ t, mg "MOST_NAMES" = some (.int 6 t) := He.int_ok T.kin T.ns (T.fact 100)
theorem Tx.i_MOST_RUNGS : ∃ t, mg "MOST_RUNGS" = some (.int 30 t) := He.int_ok T.kin T.ns (T.fact 101)
theorem Tx.i_MOST_WRITTEN : ∃ t, mg "MOST_WRITTEN" = some (.int 20 t) := He.int_ok T.kin T.ns (T.fact 102)
theorem Tx.s_SIGNS : ∃ t, mg "SIGNS" = some (.str "abcdefghijklmnopqrstuvwxyz" t) := He.str_ok T.kin T.ns (T.fact 103)
theorem Tx.c_Coil : Cls K (He.ga K "Coil") := He.cls_ok (T.fact 104)
theorem Tx.c_Latch : Cls K (He.ga K "Latch") := He.cls_ok (T.fact 105)
theorem Tx.c_Unlatch : Cls K (He.ga K "Unlatch") := He.cls_ok (T.fact 106)
theorem Tx.c_Timer : Cls K (He.ga K "Timer") := He.cls_ok (T.fact 107)
theorem Tx.c_Counter : Cls K (He.ga K "Counter") := He.cls_ok (T.fact 108)
theorem Tx.c_Fixed : Cls K (He.ga K "Fixed") := He.cls_ok (T.fact 109)
theorem Tx.c_Contact : Cls K (He.ga K "Contact") := He.cls_ok (T.fact 110)
theorem Tx.c_Turned : Cls K (He.ga K "Turned") := He.cls_ok (T.fact 111)
theorem Tx.c_Series : Cls K (He.ga K "Series") := He.cls_ok (T.fact 112)
theorem Tx.c_Branch : Cls K (He.ga K "Branch") := He.cls_ok (T.fact 113)
theorem Tx.c_Rung : Cls K (He.ga K "Rung") := He.cls_ok (T.fact 114)
theorem Tx.c_Ladder : Cls K (He.ga K "Ladder") := He.cls_ok (T.fact 115)
theorem Tx.c_Works : Cls K (He.ga K "Works") := He.cls_ok (T.fact 116)
theorem Tx.n_Coil_name : NoAttr K (He.ga K "Coil") "name" := He.noat_ok (T.fact 117)
theorem Tx.n_Latch_name : NoAttr K (He.ga K "Latch") "name" := He.noat_ok (T.fact 118)
theorem Tx.n_Unlatch_name : NoAttr K (He.ga K "Unlatch") "name" := He.noat_ok (T.fact 119)
theorem Tx.n_Timer_name : NoAttr K (He.ga K "Timer") "name" := He.noat_ok (T.fact 120)
theorem Tx.n_Timer_most : NoAttr K (He.ga K "Timer") "most" := He.noat_ok (T.fact 121)
theorem Tx.n_Counter_name : NoAttr K (He.ga K "Counter") "name" := He.noat_ok (T.fact 122)
theorem Tx.n_Counter_most : NoAttr K (He.ga K "Counter") "most" := He.noat_ok (T.fact 123)
theorem Tx.n_Fixed_value : NoAttr K (He.ga K "Fixed") "value" := He.noat_ok (T.fact 124)
theorem Tx.n_Contact_name : NoAttr K (He.ga K "Contact") "name" := He.noat_ok (T.fact 125)
theorem Tx.n_Turned_part : NoAttr K (He.ga K "Turned") "part" := He.noat_ok (T.fact 126)
theorem Tx.n_Series_parts : NoAttr K (He.ga K "Series") "parts" := He.noat_ok (T.fact 127)
theorem Tx.n_Branch_parts : NoAttr K (He.ga K "Branch") "parts" := He.noat_ok (T.fact 128)
theorem Tx.n_Rung_part : NoAttr K (He.ga K "Rung") "part" := He.noat_ok (T.fact 129)
theorem Tx.n_Rung_end : NoAttr K (He.ga K "Rung") "end" := He.noat_ok (T.fact 130)
theorem Tx.n_Ladder_inputs : NoAttr K (He.ga K "Ladder") "inputs" := He.noat_ok (T.fact 131)
theorem Tx.n_Ladder_outputs : NoAttr K (He.ga K "Ladder") "outputs" := He.noat_ok (T.fact 132)
theorem Tx.n_Ladder_rungs : NoAttr K (He.ga K "Ladder") "rungs" := He.noat_ok (T.fact 133)
theorem Tx.n_Works_ladder : NoAttr K (He.ga K "Works") "ladder" := He.noat_ok (T.fact 134)
theorem Tx.n_Works_bits : NoAttr K (He.ga K "Works") "bits" := He.noat_ok (T.fact 135)
theorem Tx.n_Works_counts : NoAttr K (He.ga K "Works") "counts" := He.noat_ok (T.fact 136)
theorem Tx.n_Works_seen : NoAttr K (He.ga K "Works") "seen" := He.noat_ok (T.fact 137)
theorem Tx.m_Fixed_inner : Meth K (He.ga K "Fixed") "inner" (He.ma K (He.ga K "Fixed") "inner") := He.meth_ok (T.fact 138)
theorem Tx.m_Fixed_holds : Meth K (He.ga K "Fixed") "holds" (He.ma K (He.ga K "Fixed") "holds") := He.meth_ok (T.fact 139)
theorem Tx.m_Fixed_size : Meth K (He.ga K "Fixed") "size" (He.ma K (He.ga K "Fixed") "size") := He.meth_ok (T.fact 140)
theorem Tx.m_Fixed_depth : Meth K (He.ga K "Fixed") "depth" (He.ma K (He.ga K "Fixed") "depth") := He.meth_ok (T.fact 141)
theorem Tx.m_Contact_inner : Meth K (He.ga K "Contact") "inner" (He.ma K (He.ga K "Contact") "inner") := He.meth_ok (T.fact 142)
theorem Tx.m_Contact_holds : Meth K (He.ga K "Contact") "holds" (He.ma K (He.ga K "Contact") "holds") := He.meth_ok (T.fact 143)
theorem Tx.m_Contact_size : Meth K (He.ga K "Contact") "size" (He.ma K (He.ga K "Contact") "size") := He.meth_ok (T.fact 144)
theorem Tx.m_Contact_depth : Meth K (He.ga K "Contact") "depth" (He.ma K (He.ga K "Contact") "depth") := He.meth_ok (T.fact 145)
theorem Tx.m_Turned_inner : Meth K (He.ga K "Turned") "inner" (He.ma K (He.ga K "Turned") "inner") := He.meth_ok (T.fact 146)
theorem Tx.m_Turned_holds : Meth K (He.ga K "Turned") "holds" (He.ma K (He.ga K "Turned") "holds") := He.meth_ok (T.fact 147)
theorem Tx.m_Turned_size : Meth K (He.ga K "Turned") "size" (He.ma K (He.ga K "Turned") "size") := He.meth_ok (T.fact 148)
theorem Tx.m_Turned_depth : Meth K (He.ga K "Turned") "depth" (He.ma K (He.ga K "Turned") "depth") := He.meth_ok (T.fact 149)
theorem Tx.m_Series_inner : Meth K (He.ga K "Series") "inner" (He.ma K (He.ga K "Series") "inner") := He.meth_ok (T.fact 150)
theorem Tx.m_Series_holds : Meth K (He.ga K "Series") "holds" (He.ma K (He.ga K "Series") "holds") := He.meth_ok (T.fact 151)
theorem Tx.m_Series_size : Meth K (He.ga K "Series") "size" (He.ma K (He.ga K "Series") "size") := He.meth_ok (T.fact 152)
theorem Tx.m_Series_depth : Meth K (He.ga K "Series") "depth" (He.ma K (He.ga K "Series") "depth") := He.meth_ok (T.fact 153)
theorem Tx.m_Branch_inner : Meth K (He.ga K "Branch") "inner" (He.ma K (He.ga K "Branch") "inner") := He.meth_ok (T.fact 154)
theorem Tx.m_Branch_holds : Meth K (He.ga K "Branch") "holds" (He.ma K (He.ga K "Branch") "holds") := He.meth_ok (T.fact 155)
theorem Tx.m_Branch_size : Meth K (He.ga K "Branch") "size" (He.ma K (He.ga K "Branch") "size") := He.meth_ok (T.fact 156)
theorem Tx.m_Branch_depth : Meth K (He.ga K "Branch") "depth" (He.ma K (He.ga K "Branch") "depth") := He.meth_ok (T.fact 157)
theorem Tx.m_Turned_bounded : Meth K (He.ga K "Turned") "bounded" (He.ma K (He.ga K "Turned") "bounded") := He.meth_ok (T.fact 158)
theorem Tx.m_Series_bounded : Meth K (He.ga K "Series") "bounded" (He.ma K (He.ga K "Series") "bounded") := He.meth_ok (T.fact 159)
theorem Tx.m_Branch_bounded : Meth K (He.ga K "Branch") "bounded" (He.ma K (He.ga K "Branch") "bounded") := He.meth_ok (T.fact 160)
theorem Tx.m_Ladder_written_names : Meth K (He.ga K "Ladder") "written_names" (He.ma K (He.ga K "Ladder") "written_names") := He.meth_ok (T.fact 161)
theorem Tx.m_Works_scan : Meth K (He.ga K "Works") "scan" (He.ma K (He.ga K "Works") "scan") := He.meth_ok (T.fact 162)
theorem Tx.m_Works_act : Meth K (He.ga K "Works") "act" (He.ma K (He.ga K "Works") "act") := He.meth_ok (T.fact 163)
theorem Tx.m_Works_count_on : Meth K (He.ga K "Works") "count_on" (He.ma K (He.ga K "Works") "count_on") := He.meth_ok (T.fact 164)
theorem Tx.m_Works_answers : Meth K (He.ga K "Works") "answers" (He.ma K (He.ga K "Works") "answers") := He.meth_ok (T.fact 165)
theorem Tx.m_Works_image : Meth K (He.ga K "Works") "image" (He.ma K (He.ga K "Works") "image") := He.meth_ok (T.fact 166)
theorem Tx.m_Works_kept : Meth K (He.ga K "Works") "kept" (He.ma K (He.ga K "Works") "kept") := He.meth_ok (T.fact 167)
theorem Tx.m_Works_put_back : Meth K (He.ga K "Works") "put_back" (He.ma K (He.ga K "Works") "put_back") := He.meth_ok (T.fact 168)
theorem Tx.k_Coil : Mk K (He.ga K "Coil") (He.ma K (He.ga K "Coil") "__init__") := He.mkr_ok (T.fact 169)
theorem Tx.k_Latch : Mk K (He.ga K "Latch") (He.ma K (He.ga K "Latch") "__init__") := He.mkr_ok (T.fact 170)
theorem Tx.k_Unlatch : Mk K (He.ga K "Unlatch") (He.ma K (He.ga K "Unlatch") "__init__") := He.mkr_ok (T.fact 171)
theorem Tx.k_Timer : Mk K (He.ga K "Timer") (He.ma K (He.ga K "Timer") "__init__") := He.mkr_ok (T.fact 172)
theorem Tx.k_Counter : Mk K (He.ga K "Counter") (He.ma K (He.ga K "Counter") "__init__") := He.mkr_ok (T.fact 173)
theorem Tx.k_Fixed : Mk K (He.ga K "Fixed") (He.ma K (He.ga K "Fixed") "__init__") := He.mkr_ok (T.fact 174)
theorem Tx.k_Contact : Mk K (He.ga K "Contact") (He.ma K (He.ga K "Contact") "__init__") := He.mkr_ok (T.fact 175)
theorem Tx.k_Turned : Mk K (He.ga K "Turned") (He.ma K (He.ga K "Turned") "__init__") := He.mkr_ok (T.fact 176)
theorem Tx.k_Series : Mk K (He.ga K "Series") (He.ma K (He.ga K "Series") "__init__") := He.mkr_ok (T.fact 177)
theorem Tx.k_Branch : Mk K (He.ga K "Branch") (He.ma K (He.ga K "Branch") "__init__") := He.mkr_ok (T.fact 178)
theorem Tx.k_Rung : Mk K (He.ga K "Rung") (He.ma K (He.ga K "Rung") "__init__") := He.mkr_ok (T.fact 179)
theorem Tx.k_Ladder : Mk K (He.ga K "Ladder") (He.ma K (He.ga K "Ladder") "__init__") := He.mkr_ok (T.fact 180)
theorem Tx.k_Works : Mk K (He.ga K "Works") (He.ma K (He.ga K "Works") "__init__") := He.mkr_ok (T.fact 181)
theorem Tx.e_NoName : PySem.W.excIn K (He.ga K "NoName") He.veBase "ValueError.__new__" = true ∧ PySem.W.keepIn K (.ref (He.ga K "NoName")) = true ∧ PySem.W.subIn K (.ref (He.ga K "NoName")) (.type "BaseException") = some true ∧ PySem.W.typeIn K (.ref (He.ga K "NoName")) = some (.type "type") := He.exc_ok (T.fact 182)
theorem Tx.e_NoPart : PySem.W.excIn K (He.ga K "NoPart") He.veBase "ValueError.__new__" = true ∧ PySem.W.keepIn K (.ref (He.ga K "NoPart")) = true ∧ PySem.W.subIn K (.ref (He.ga K "NoPart")) (.type "BaseException") = some true ∧ PySem.W.typeIn K (.ref (He.ga K "NoPart")) = some (.type "type") := He.exc_ok (T.fact 183)
theorem Tx.e_NoEnd : PySem.W.excIn K (He.ga K "NoEnd") He.veBase "ValueError.__new__" = true ∧ PySem.W.keepIn K (.ref (He.ga K "NoEnd")) = true ∧ PySem.W.subIn K (.ref (He.ga K "NoEnd")) (.type "BaseException") = some true ∧ PySem.W.typeIn K (.ref (He.ga K "NoEnd")) = some (.type "type") := He.exc_ok (T.fact 184)
theorem Tx.e_NoLadder : PySem.W.excIn K (He.ga K "NoLadder") He.veBase "ValueError.__new__" = true ∧ PySem.W.keepIn K (.ref (He.ga K "NoLadder")) = true ∧ PySem.W.subIn K (.ref (He.ga K "NoLadder")) (.type "BaseException") = some true ∧ PySem.W.typeIn K (.ref (He.ga K "NoLadder")) = some (.type "type") := He.exc_ok (T.fact 185)
theorem Tx.e_NoRow : PySem.W.excIn K (He.ga K "NoRow") He.veBase "ValueError.__new__" = true ∧ PySem.W.keepIn K (.ref (He.ga K "NoRow")) = true ∧ PySem.W.subIn K (.ref (He.ga K "NoRow")) (.type "BaseException") = some true ∧ PySem.W.typeIn K (.ref (He.ga K "NoRow")) = some (.type "type") := He.exc_ok (T.fact 186)
theorem Tx.e_NoState : PySem.W.excIn K (He.ga K "NoState") He.veBase "ValueError.__new__" = true ∧ PySem.W.keepIn K (.ref (He.ga K "NoState")) = true ∧ PySem.W.subIn K (.ref (He.ga K "NoState")) (.type "BaseException") = some true ∧ PySem.W.typeIn K (.ref (He.ga K "NoState")) = some (.type "type") := He.exc_ok (T.fact 187)
theorem Tx.x_NoRow_LadderError : PySem.W.exmOne K (.ref (He.ga K "NoRow")) (.ref (He.ga K "LadderError")) = some true := He.exm_ok (T.fact 188)
theorem Tx.x_NoState_LadderError : PySem.W.exmOne K (.ref (He.ga K "NoState")) (.ref (He.ga K "LadderError")) = some true := He.exm_ok (T.fact 189)
theorem Tx.d_is_word : ∃ fd, FunD K "is_word" "is_word" (defArgs s_is_word) (defBody s_is_word) (defScope s_is_word) [] [] (He.ga K "is_word") fd := T.def_ 0
theorem Tx.d_is_name : ∃ fd, FunD K "is_name" "is_name" (defArgs s_is_name) (defBody s_is_name) (defScope s_is_name) [] [] (He.ga K "is_name") fd := T.def_ 1
theorem Tx.d_single : ∃ fd, FunD K "single" "single" (defArgs s_single) (defBody s_single) (defScope s_single) [] [] (He.ga K "single") fd := T.def_ 2
theorem Tx.d_joined : ∃ fd, FunD K "joined" "joined" (defArgs s_joined) (defBody s_joined) (defScope s_joined) [] [] (He.ga K "joined") fd := T.def_ 3
theorem Tx.d_part_of : ∃ fd, FunD K "part_of" "part_of" (defArgs s_part_of) (defBody s_part_of) (defScope s_part_of) [] [] (He.ga K "part_of") fd := T.def_ 4
theorem Tx.d_need_row : ∃ fd, FunD K "need_row" "need_row" (defArgs s_need_row) (defBody s_need_row) (defScope s_need_row) [] [] (He.ga K "need_row") fd := T.def_ 5
theorem Tx.d_counting_ends : ∃ fd, FunD K "counting_ends" "counting_ends" (defArgs s_counting_ends) (defBody s_counting_ends) (defScope s_counting_ends) [] [] (He.ga K "counting_ends") fd := T.def_ 6
theorem Tx.d_bits_of : ∃ fd, FunD K "bits_of" "bits_of" (defArgs s_bits_of) (defBody s_bits_of) (defScope s_bits_of) [] [] (He.ga K "bits_of") fd := T.def_ 7
theorem Tx.d_width : ∃ fd, FunD K "width" "width" (defArgs s_width) (defBody s_width) (defScope s_width) [] [] (He.ga K "width") fd := T.def_ 8
theorem Tx.d_state_of : ∃ fd, FunD K "state_of" "state_of" (defArgs s_state_of) (defBody s_state_of) (defScope s_state_of) [] [] (He.ga K "state_of") fd := T.def_ 9
theorem Tx.d_pieces : ∃ fd, FunD K "pieces" "pieces" (defArgs s_pieces) (defBody s_pieces) (defScope s_pieces) [] [] (He.ga K "pieces") fd := T.def_ 10
theorem Tx.d_works_at : ∃ fd, FunD K "works_at" "works_at" (defArgs s_works_at) (defBody s_works_at) (defScope s_works_at) [] [] (He.ga K "works_at") fd := T.def_ 11
theorem Tx.d_rows : ∃ fd, FunD K "rows" "rows" (defArgs s_rows) (defBody s_rows) (defScope s_rows) [] [] (He.ga K "rows") fd := T.def_ 12
theorem Tx.d_row_of : ∃ fd, FunD K "row_of" "row_of" (defArgs s_row_of) (defBody s_row_of) (defScope s_row_of) [] [] (He.ga K "row_of") fd := T.def_ 13
theorem Tx.d_row_number : ∃ fd, FunD K "row_number" "row_number" (defArgs s_row_number) (defBody s_row_number) (defScope s_row_number) [] [] (He.ga K "row_number") fd := T.def_ 14
theorem Tx.d_step : ∃ fd, FunD K "step" "step" (defArgs s_step) (defBody s_step) (defScope s_step) [] [] (He.ga K "step") fd := T.def_ 15
theorem Tx.d_wired : ∃ fd, FunD K "wired" "wired" (defArgs s_wired) (defBody s_wired) (defScope s_wired) [] [] (He.ga K "wired") fd := T.def_ 16
theorem Tx.d_timer_act : ∃ fd, FunD K "timer_act" "timer_act" (defArgs s_timer_act) (defBody s_timer_act) (defScope s_timer_act) [] [] (He.ga K "timer_act") fd := T.def_ 17
theorem Tx.d_counter_act : ∃ fd, FunD K "counter_act" "counter_act" (defArgs s_counter_act) (defBody s_counter_act) (defScope s_counter_act) [] [] (He.ga K "counter_act") fd := T.def_ 18
theorem Tx.d_coil_act : ∃ fd, FunD K "coil_act" "coil_act" (defArgs s_coil_act) (defBody s_coil_act) (defScope s_coil_act) [] [] (He.ga K "coil_act") fd := T.def_ 19
theorem Tx.d_latch_act : ∃ fd, FunD K "latch_act" "latch_act" (defArgs s_latch_act) (defBody s_latch_act) (defScope s_latch_act) [] [] (He.ga K "latch_act") fd := T.def_ 20
theorem Tx.d_unlatch_act : ∃ fd, FunD K "unlatch_act" "unlatch_act" (defArgs s_unlatch_act) (defBody s_unlatch_act) (defScope s_unlatch_act) [] [] (He.ga K "unlatch_act") fd := T.def_ 21
theorem Tx.d_act_of : ∃ fd, FunD K "act_of" "act_of" (defArgs s_act_of) (defBody s_act_of) (defScope s_act_of) [] [] (He.ga K "act_of") fd := T.def_ 22
theorem Tx.d_sizes_of : ∃ fd, FunD K "sizes_of" "sizes_of" (defArgs s_sizes_of) (defBody s_sizes_of) (defScope s_sizes_of) [] [] (He.ga K "sizes_of") fd := T.def_ 23
theorem Tx.d_numbers_in : ∃ fd, FunD K "numbers_in" "numbers_in" (defArgs s_numbers_in) (defBody s_numbers_in) (defScope s_numbers_in) [] [] (He.ga K "numbers_in") fd := T.def_ 24
theorem Tx.d_packed : ∃ fd, FunD K "packed" "packed" (defArgs s_packed) (defBody s_packed) (defScope s_packed) [] [] (He.ga K "packed") fd := T.def_ 25
theorem Tx.d_bits_by : ∃ fd, FunD K "bits_by" "bits_by" (defArgs s_bits_by) (defBody s_bits_by) (defScope s_bits_by) [] [] (He.ga K "bits_by") fd := T.def_ 26
theorem Tx.d_wired_ladder : ∃ fd, FunD K "wired_ladder" "wired_ladder" (defArgs s_wired_ladder) (defBody s_wired_ladder) (defScope s_wired_ladder) [] [] (He.ga K "wired_ladder") fd := T.def_ 27
theorem Tx.d_need_between : ∃ fd, FunD K "need_between" "need_between" (defArgs s_need_between) (defBody s_need_between) (defScope s_need_between) [] [] (He.ga K "need_between") fd := T.def_ 28
theorem Tx.d_need_single : ∃ fd, FunD K "need_single" "need_single" (defArgs s_need_single) (defBody s_need_single) (defScope s_need_single) [] [] (He.ga K "need_single") fd := T.def_ 29
theorem Tx.d_need_own : ∃ fd, FunD K "need_own" "need_own" (defArgs s_need_own) (defBody s_need_own) (defScope s_need_own) [] [] (He.ga K "need_own") fd := T.def_ 30
theorem Tx.d_law_cell_at : ∃ fd, FunD K "_law_cell_at" "_law_cell_at" (defArgs s_law_cell_at) (defBody s_law_cell_at) (defScope s_law_cell_at) [] [] (He.ga K "_law_cell_at") fd := T.def_ 31
theorem Tx.d_law_mixed : ∃ fd, FunD K "_law_mixed" "_law_mixed" (defArgs s_law_mixed) (defBody s_law_mixed) (defScope s_law_mixed) [] [] (He.ga K "_law_mixed") fd := T.def_ 32
theorem Tx.d_law_word : ∃ fd, FunD K "_law_word" "_law_word" (defArgs s_law_word) (defBody s_law_word) (defScope s_law_word) [] [] (He.ga K "_law_word") fd := T.def_ 33
theorem Tx.d_law_names : ∃ fd, FunD K "_law_names" "_law_names" (defArgs s_law_names) (defBody s_law_names) (defScope s_law_names) [] [] (He.ga K "_law_names") fd := T.def_ 34
theorem Tx.d_law_grown : ∃ fd, FunD K "_law_grown" "_law_grown" (defArgs s_law_grown) (defBody s_law_grown) (defScope s_law_grown) [] [] (He.ga K "_law_grown") fd := T.def_ 35
theorem Tx.d_law_size : ∃ fd, FunD K "_law_size" "_law_size" (defArgs s_law_size) (defBody s_law_size) (defScope s_law_size) [] [] (He.ga K "_law_size") fd := T.def_ 36
theorem Tx.d_law_trees : ∃ fd, FunD K "_law_trees" "_law_trees" (defArgs s_law_trees) (defBody s_law_trees) (defScope s_law_trees) [] [] (He.ga K "_law_trees") fd := T.def_ 37
theorem Tx.d_law_rungs : ∃ fd, FunD K "_law_rungs" "_law_rungs" (defArgs s_law_rungs) (defBody s_law_rungs) (defScope s_law_rungs) [] [] (He.ga K "_law_rungs") fd := T.def_ 38
theorem Tx.d_law_names_of : ∃ fd, FunD K "_law_names_of" "_law_names_of" (defArgs s_law_names_of) (defBody s_law_names_of) (defScope s_law_names_of) [] [] (He.ga K "_law_names_of") fd := T.def_ 39
theorem Tx.d_law_model : ∃ fd, FunD K "_law_model" "_law_model" (defArgs s_law_model) (defBody s_law_model) (defScope s_law_model) [] [] (He.ga K "_law_model") fd := T.def_ 40
theorem Tx.d_law_end : ∃ fd, FunD K "_law_end" "_law_end" (defArgs s_law_end) (defBody s_law_end) (defScope s_law_end) [] [] (He.ga K "_law_end") fd := T.def_ 41
theorem Tx.d_law_ladder : ∃ fd, FunD K "_law_ladder" "_law_ladder" (defArgs s_law_ladder) (defBody s_law_ladder) (defScope s_law_ladder) [] [] (He.ga K "_law_ladder") fd := T.def_ 42
theorem Tx.d_law_bits : ∃ fd, FunD K "_law_bits" "_law_bits" (defArgs s_law_bits) (defBody s_law_bits) (defScope s_law_bits) [] [] (He.ga K "_law_bits") fd := T.def_ 43
theorem Tx.d_law_told : ∃ fd, FunD K "_law_told" "_law_told" (defArgs s_law_told) (defBody s_law_told) (defScope s_law_told) [] [] (He.ga K "_law_told") fd := T.def_ 44
theorem Tx.d_law_far : ∃ fd, FunD K "_law_far" "_law_far" (defArgs s_law_far) (defBody s_law_far) (defScope s_law_far) [] [] (He.ga K "_law_far") fd := T.def_ 45
theorem Tx.d_law_step : ∃ fd, FunD K "_law_step" "_law_step" (defArgs s_law_step) (defBody s_law_step) (defScope s_law_step) [] [] (He.ga K "_law_step") fd := T.def_ 46
theorem Tx.d_law : ∃ fd, FunD K "law" "law" (defArgs s_law) (defBody s_law) (defScope s_law) [] [] (He.ga K "law") fd := T.def_ 47
theorem Tx.d_Fixed_init : ∃ fd, FunD K "__init__" "Fixed.__init__" (defArgs s_Fixed_init) (defBody s_Fixed_init) (defScope s_Fixed_init) [] [] (He.ma K (He.ga K "Fixed") "__init__") fd := T.def_ 48
theorem Tx.d_Fixed_inner : ∃ fd, FunD K "inner" "Part.inner" (defArgs s_Fixed_inner) (defBody s_Fixed_inner) (defScope s_Fixed_inner) [] [] (He.ma K (He.ga K "Fixed") "inner") fd := T.def_ 49
theorem Tx.d_Fixed_holds : ∃ fd, FunD K "holds" "Fixed.holds" (defArgs s_Fixed_holds) (defBody s_Fixed_holds) (defScope s_Fixed_holds) [] [] (He.ma K (He.ga K "Fixed") "holds") fd := T.def_ 50
theorem Tx.d_Fixed_size : ∃ fd, FunD K "size" "Part.size" (defArgs s_Fixed_size) (defBody s_Fixed_size) (defScope s_Fixed_size) [] [] (He.ma K (He.ga K "Fixed") "size") fd := T.def_ 51
theorem Tx.d_Fixed_depth : ∃ fd, FunD K "depth" "Part.depth" (defArgs s_Fixed_depth) (defBody s_Fixed_depth) (defScope s_Fixed_depth) [] [] (He.ma K (He.ga K "Fixed") "depth") fd := T.def_ 52
theorem Tx.d_Contact_init : ∃ fd, FunD K "__init__" "Contact.__init__" (defArgs s_Contact_init) (defBody s_Contact_init) (defScope s_Contact_init) [] [] (He.ma K (He.ga K "Contact") "__init__") fd := T.def_ 53
theorem Tx.d_Contact_inner : ∃ fd, FunD K "inner" "Part.inner" (defArgs s_Contact_inner) (defBody s_Contact_inner) (defScope s_Contact_inner) [] [] (He.ma K (He.ga K "Contact") "inner") fd := T.def_ 54
theorem Tx.d_Contact_holds : ∃ fd, FunD K "holds" "Contact.holds" (defArgs s_Contact_holds) (defBody s_Contact_holds) (defScope s_Contact_holds) [] [] (He.ma K (He.ga K "Contact") "holds") fd := T.def_ 55
theorem Tx.d_Contact_size : ∃ fd, FunD K "size" "Part.size" (defArgs s_Contact_size) (defBody s_Contact_size) (defScope s_Contact_size) [] [] (He.ma K (He.ga K "Contact") "size") fd := T.def_ 56
theorem Tx.d_Contact_depth : ∃ fd, FunD K "depth" "Part.depth" (defArgs s_Contact_depth) (defBody s_Contact_depth) (defScope s_Contact_depth) [] [] (He.ma K (He.ga K "Contact") "depth") fd := T.def_ 57
theorem Tx.d_Turned_init : ∃ fd, FunD K "__init__" "Turned.__init__" (defArgs s_Turned_init) (defBody s_Turned_init) (defScope s_Turned_init) [] [] (He.ma K (He.ga K "Turned") "__init__") fd := T.def_ 58
theorem Tx.d_Turned_inner : ∃ fd, FunD K "inner" "Turned.inner" (defArgs s_Turned_inner) (defBody s_Turned_inner) (defScope s_Turned_inner) [] [] (He.ma K (He.ga K "Turned") "inner") fd := T.def_ 59
theorem Tx.d_Turned_holds : ∃ fd, FunD K "holds" "Turned.holds" (defArgs s_Turned_holds) (defBody s_Turned_holds) (defScope s_Turned_holds) [] [] (He.ma K (He.ga K "Turned") "holds") fd := T.def_ 60
theorem Tx.d_Turned_size : ∃ fd, FunD K "size" "Part.size" (defArgs s_Turned_size) (defBody s_Turned_size) (defScope s_Turned_size) [] [] (He.ma K (He.ga K "Turned") "size") fd := T.def_ 61
theorem Tx.d_Turned_depth : ∃ fd, FunD K "depth" "Part.depth" (defArgs s_Turned_depth) (defBody s_Turned_depth) (defScope s_Turned_depth) [] [] (He.ma K (He.ga K "Turned") "depth") fd := T.def_ 62
theorem Tx.d_Series_init : ∃ fd, FunD K "__init__" "Group.__init__" (defArgs s_Series_init) (defBody s_Series_init) (defScope s_Series_init) [] [] (He.ma K (He.ga K "Series") "__init__") fd := T.def_ 63
theorem Tx.d_Series_inner : ∃ fd, FunD K "inner" "Group.inner" (defArgs s_Series_inner) (defBody s_Series_inner) (defScope s_Series_inner) [] [] (He.ma K (He.ga K "Series") "inner") fd := T.def_ 64
theorem Tx.d_Series_holds : ∃ fd, FunD K "holds" "Series.holds" (defArgs s_Series_holds) (defBody s_Series_holds) (defScope s_Series_holds) [] [] (He.ma K (He.ga K "Series") "holds") fd := T.def_ 65
theorem Tx.d_Series_size : ∃ fd, FunD K "size" "Part.size" (defArgs s_Series_size) (defBody s_Series_size) (defScope s_Series_size) [] [] (He.ma K (He.ga K "Series") "size") fd := T.def_ 66
theorem Tx.d_Series_depth : ∃ fd, FunD K "depth" "Part.depth" (defArgs s_Series_depth) (defBody s_Series_depth) (defScope s_Series_depth) [] [] (He.ma K (He.ga K "Series") "depth") fd := T.def_ 67
theorem Tx.d_Branch_init : ∃ fd, FunD K "__init__" "Group.__init__" (defArgs s_Branch_init) (defBody s_Branch_init) (defScope s_Branch_init) [] [] (He.ma K (He.ga K "Branch") "__init__") fd := T.def_ 68
theorem Tx.d_Branch_inner : ∃ fd, FunD K "inner" "Group.inner" (defArgs s_Branch_inner) (defBody s_Branch_inner) (defScope s_Branch_inner) [] [] (He.ma K (He.ga K "Branch") "inner") fd := T.def_ 69
theorem Tx.d_Branch_holds : ∃ fd, FunD K "holds" "Branch.holds" (defArgs s_Branch_holds) (defBody s_Branch_holds) (defScope s_Branch_holds) [] [] (He.ma K (He.ga K "Branch") "holds") fd := T.def_ 70
theorem Tx.d_Branch_size : ∃ fd, FunD K "size" "Part.size" (defArgs s_Branch_size) (defBody s_Branch_size) (defScope s_Branch_size) [] [] (He.ma K (He.ga K "Branch") "size") fd := T.def_ 71
theorem Tx.d_Branch_depth : ∃ fd, FunD K "depth" "Part.depth" (defArgs s_Branch_depth) (defBody s_Branch_depth) (defScope s_Branch_depth) [] [] (He.ma K (He.ga K "Branch") "depth") fd := T.def_ 72
theorem Tx.d_Turned_bounded : ∃ fd, FunD K "bounded" "Part.bounded" (defArgs s_Turned_bounded) (defBody s_Turned_bounded) (defScope s_Turned_bounded) [] [] (He.ma K (He.ga K "Turned") "bounded") fd := T.def_ 73
theorem Tx.d_Series_bounded : ∃ fd, FunD K "bounded" "Part.bounded" (defArgs s_Series_bounded) (defBody s_Series_bounded) (defScope s_Series_bounded) [] [] (He.ma K (He.ga K "Series") "bounded") fd := T.def_ 74
theorem Tx.d_Branch_bounded : ∃ fd, FunD K "bounded" "Part.bounded" (defArgs s_Branch_bounded) (defBody s_Branch_bounded) (defScope s_Branch_bounded) [] [] (He.ma K (He.ga K "Branch") "bounded") fd := T.def_ 75
theorem Tx.d_End_init : ∃ fd, FunD K "__init__" "End.__init__" (defArgs s_End_init) (defBody s_End_init) (defScope s_End_init) [] [] (He.ma K (He.ga K "End") "__init__") fd := T.def_ 76
theorem Tx.d_Coil_init : ∃ fd, FunD K "__init__" "End.__init__" (defArgs s_Coil_init) (defBody s_Coil_init) (defScope s_Coil_init) [] [] (He.ma K (He.ga K "Coil") "__init__") fd := T.def_ 77
theorem Tx.d_Latch_init : ∃ fd, FunD K "__init__" "End.__init__" (defArgs s_Latch_init) (defBody s_Latch_init) (defScope s_Latch_init) [] [] (He.ma K (He.ga K "Latch") "__init__") fd := T.def_ 78
theorem Tx.d_Unlatch_init : ∃ fd, FunD K "__init__" "End.__init__" (defArgs s_Unlatch_init) (defBody s_Unlatch_init) (defScope s_Unlatch_init) [] [] (He.ma K (He.ga K "Unlatch") "__init__") fd := T.def_ 79
theorem Tx.d_Timer_init : ∃ fd, FunD K "__init__" "Counting.__init__" (defArgs s_Timer_init) (defBody s_Timer_init) (defScope s_Timer_init) [] [] (He.ma K (He.ga K "Timer") "__init__") fd := T.def_ 80
theorem Tx.d_Counter_init : ∃ fd, FunD K "__init__" "Counting.__init__" (defArgs s_Counter_init) (defBody s_Counter_init) (defScope s_Counter_init) [] [] (He.ma K (He.ga K "Counter") "__init__") fd := T.def_ 81
theorem Tx.d_Rung_init : ∃ fd, FunD K "__init__" "Rung.__init__" (defArgs s_Rung_init) (defBody s_Rung_init) (defScope s_Rung_init) [] [] (He.ma K (He.ga K "Rung") "__init__") fd := T.def_ 82
theorem Tx.d_Ladder_init : ∃ fd, FunD K "__init__" "Ladder.__init__" (defArgs s_Ladder_init) (defBody s_Ladder_init) (defScope s_Ladder_init) [] [] (He.ma K (He.ga K "Ladder") "__init__") fd := T.def_ 83
theorem Tx.d_Ladder_written_names : ∃ fd, FunD K "written_names" "Ladder.written_names" (defArgs s_Ladder_written_names) (defBody s_Ladder_written_names) (defScope s_Ladder_written_names) [] [] (He.ma K (He.ga K "Ladder") "written_names") fd := T.def_ 84
theorem Tx.d_Works_init : ∃ fd, FunD K "__init__" "Works.__init__" (defArgs s_Works_init) (defBody s_Works_init) (defScope s_Works_init) [] [] (He.ma K (He.ga K "Works") "__init__") fd := T.def_ 85
theorem Tx.d_Works_scan : ∃ fd, FunD K "scan" "Works.scan" (defArgs s_Works_scan) (defBody s_Works_scan) (defScope s_Works_scan) [] [] (He.ma K (He.ga K "Works") "scan") fd := T.def_ 86
theorem Tx.d_Works_act : ∃ fd, FunD K "act" "Works.act" (defArgs s_Works_act) (defBody s_Works_act) (defScope s_Works_act) [] [] (He.ma K (He.ga K "Works") "act") fd := T.def_ 87
theorem Tx.d_Works_count_on : ∃ fd, FunD K "count_on" "Works.count_on" (defArgs s_Works_count_on) (defBody s_Works_count_on) (defScope s_Works_count_on) [] [] (He.ma K (He.ga K "Works") "count_on") fd := T.def_ 88
theorem Tx.d_Works_answers : ∃ fd, FunD K "answers" "Works.answers" (defArgs s_Works_answers) (defBody s_Works_answers) (defScope s_Works_answers) [] [] (He.ma K (He.ga K "Works") "answers") fd := T.def_ 89
theorem Tx.d_Works_image : ∃ fd, FunD K "image" "Works.image" (defArgs s_Works_image) (defBody s_Works_image) (defScope s_Works_image) [] [] (He.ma K (He.ga K "Works") "image") fd := T.def_ 90
theorem Tx.d_Works_kept : ∃ fd, FunD K "kept" "Works.kept" (defArgs s_Works_kept) (defBody s_Works_kept) (defScope s_Works_kept) [] [] (He.ma K (He.ga K "Works") "kept") fd := T.def_ 91
theorem Tx.d_Works_put_back : ∃ fd, FunD K "put_back" "Works.put_back" (defArgs s_Works_put_back) (defBody s_Works_put_back) (defScope s_Works_put_back) [] [] (He.ma K (He.ga K "Works") "put_back") fd := T.def_ 92
theorem Tx.kp_is_word : PySem.W.keepIn K (.ref (He.ga K "is_word")) = true := let ⟨_, F⟩ := T.d_is_word; F.kp
theorem Tx.kp_is_name : PySem.W.keepIn K (.ref (He.ga K "is_name")) = true := let ⟨_, F⟩ := T.d_is_name; F.kp
theorem Tx.kp_single : PySem.W.keepIn K (.ref (He.ga K "single")) = true := let ⟨_, F⟩ := T.d_single; F.kp
theorem Tx.kp_joined : PySem.W.keepIn K (.ref (He.ga K "joined")) = true := let ⟨_, F⟩ := T.d_joined; F.kp
theorem Tx.kp_part_of : PySem.W.keepIn K (.ref (He.ga K "part_of")) = true := let ⟨_, F⟩ := T.d_part_of; F.kp
theorem Tx.kp_need_row : PySem.W.keepIn K (.ref (He.ga K "need_row")) = true := let ⟨_, F⟩ := T.d_need_row; F.kp
theorem Tx.kp_counting_ends : PySem.W.keepIn K (.ref (He.ga K "counting_ends")) = true := let ⟨_, F⟩ := T.d_counting_ends; F.kp
theorem Tx.kp_bits_of : PySem.W.keepIn K (.ref (He.ga K "bits_of")) = true := let ⟨_, F⟩ := T.d_bits_of; F.kp
theorem Tx.kp_width : PySem.W.keepIn K (.ref (He.ga K "width")) = true := let ⟨_, F⟩ := T.d_width; F.kp
theorem Tx.kp_state_of : PySem.W.keepIn K (.ref (He.ga K "state_of")) = true := let ⟨_, F⟩ := T.d_state_of; F.kp
theorem Tx.kp_pieces : PySem.W.keepIn K (.ref (He.ga K "pieces")) = true := let ⟨_, F⟩ := T.d_pieces; F.kp
theorem Tx.kp_works_at : PySem.W.keepIn K (.ref (He.ga K "works_at")) = true := let ⟨_, F⟩ := T.d_works_at; F.kp
theorem Tx.kp_rows : PySem.W.keepIn K (.ref (He.ga K "rows")) = true := let ⟨_, F⟩ := T.d_rows; F.kp
theorem Tx.kp_row_of : PySem.W.keepIn K (.ref (He.ga K "row_of")) = true := let ⟨_, F⟩ := T.d_row_of; F.kp
theorem Tx.kp_row_number : PySem.W.keepIn K (.ref (He.ga K "row_number")) = true := let ⟨_, F⟩ := T.d_row_number; F.kp
theorem Tx.kp_step : PySem.W.keepIn K (.ref (He.ga K "step")) = true := let ⟨_, F⟩ := T.d_step; F.kp
theorem Tx.kp_wired : PySem.W.keepIn K (.ref (He.ga K "wired")) = true := let ⟨_, F⟩ := T.d_wired; F.kp
theorem Tx.kp_timer_act : PySem.W.keepIn K (.ref (He.ga K "timer_act")) = true := let ⟨_, F⟩ := T.d_timer_act; F.kp
theorem Tx.kp_counter_act : PySem.W.keepIn K (.ref (He.ga K "counter_act")) = true := let ⟨_, F⟩ := T.d_counter_act; F.kp
theorem Tx.kp_coil_act : PySem.W.keepIn K (.ref (He.ga K "coil_act")) = true := let ⟨_, F⟩ := T.d_coil_act; F.kp
theorem Tx.kp_latch_act : PySem.W.keepIn K (.ref (He.ga K "latch_act")) = true := let ⟨_, F⟩ := T.d_latch_act; F.kp
theorem Tx.kp_unlatch_act : PySem.W.keepIn K (.ref (He.ga K "unlatch_act")) = true := let ⟨_, F⟩ := T.d_unlatch_act; F.kp
theorem Tx.kp_act_of : PySem.W.keepIn K (.ref (He.ga K "act_of")) = true := let ⟨_, F⟩ := T.d_act_of; F.kp
theorem Tx.kp_sizes_of : PySem.W.keepIn K (.ref (He.ga K "sizes_of")) = true := let ⟨_, F⟩ := T.d_sizes_of; F.kp
theorem Tx.kp_numbers_in : PySem.W.keepIn K (.ref (He.ga K "numbers_in")) = true := let ⟨_, F⟩ := T.d_numbers_in; F.kp
theorem Tx.kp_packed : PySem.W.keepIn K (.ref (He.ga K "packed")) = true := let ⟨_, F⟩ := T.d_packed; F.kp
theorem Tx.kp_bits_by : PySem.W.keepIn K (.ref (He.ga K "bits_by")) = true := let ⟨_, F⟩ := T.d_bits_by; F.kp
theorem Tx.kp_wired_ladder : PySem.W.keepIn K (.ref (He.ga K "wired_ladder")) = true := let ⟨_, F⟩ := T.d_wired_ladder; F.kp
theorem Tx.kp_need_between : PySem.W.keepIn K (.ref (He.ga K "need_between")) = true := let ⟨_, F⟩ := T.d_need_between; F.kp
theorem Tx.kp_need_single : PySem.W.keepIn K (.ref (He.ga K "need_single")) = true := let ⟨_, F⟩ := T.d_need_single; F.kp
theorem Tx.kp_need_own : PySem.W.keepIn K (.ref (He.ga K "need_own")) = true := let ⟨_, F⟩ := T.d_need_own; F.kp
theorem Tx.kp_law_cell_at : PySem.W.keepIn K (.ref (He.ga K "_law_cell_at")) = true := let ⟨_, F⟩ := T.d_law_cell_at; F.kp
theorem Tx.kp_law_mixed : PySem.W.keepIn K (.ref (He.ga K "_law_mixed")) = true := let ⟨_, F⟩ := T.d_law_mixed; F.kp
theorem Tx.kp_law_word : PySem.W.keepIn K (.ref (He.ga K "_law_word")) = true := let ⟨_, F⟩ := T.d_law_word; F.kp
theorem Tx.kp_law_names : PySem.W.keepIn K (.ref (He.ga K "_law_names")) = true := let ⟨_, F⟩ := T.d_law_names; F.kp
theorem Tx.kp_law_grown : PySem.W.keepIn K (.ref (He.ga K "_law_grown")) = true := let ⟨_, F⟩ := T.d_law_grown; F.kp
theorem Tx.kp_law_size : PySem.W.keepIn K (.ref (He.ga K "_law_size")) = true := let ⟨_, F⟩ := T.d_law_size; F.kp
theorem Tx.kp_law_trees : PySem.W.keepIn K (.ref (He.ga K "_law_trees")) = true := let ⟨_, F⟩ := T.d_law_trees; F.kp
theorem Tx.kp_law_rungs : PySem.W.keepIn K (.ref (He.ga K "_law_rungs")) = true := let ⟨_, F⟩ := T.d_law_rungs; F.kp
theorem Tx.kp_law_names_of : PySem.W.keepIn K (.ref (He.ga K "_law_names_of")) = true := let ⟨_, F⟩ := T.d_law_names_of; F.kp
theorem Tx.kp_law_model : PySem.W.keepIn K (.ref (He.ga K "_law_model")) = true := let ⟨_, F⟩ := T.d_law_model; F.kp
theorem Tx.kp_law_end : PySem.W.keepIn K (.ref (He.ga K "_law_end")) = true := let ⟨_, F⟩ := T.d_law_end; F.kp
theorem Tx.kp_law_ladder : PySem.W.keepIn K (.ref (He.ga K "_law_ladder")) = true := let ⟨_, F⟩ := T.d_law_ladder; F.kp
theorem Tx.kp_law_bits : PySem.W.keepIn K (.ref (He.ga K "_law_bits")) = true := let ⟨_, F⟩ := T.d_law_bits; F.kp
theorem Tx.kp_law_told : PySem.W.keepIn K (.ref (He.ga K "_law_told")) = true := let ⟨_, F⟩ := T.d_law_told; F.kp
theorem Tx.kp_law_far : PySem.W.keepIn K (.ref (He.ga K "_law_far")) = true := let ⟨_, F⟩ := T.d_law_far; F.kp
theorem Tx.kp_law_step : PySem.W.keepIn K (.ref (He.ga K "_law_step")) = true := let ⟨_, F⟩ := T.d_law_step; F.kp
theorem Tx.kp_law : PySem.W.keepIn K (.ref (He.ga K "law")) = true := let ⟨_, F⟩ := T.d_law; F.kp
theorem Tx.kp_Fixed_init : PySem.W.keepIn K (.ref (He.ma K (He.ga K "Fixed") "__init__")) = true := let ⟨_, F⟩ := T.d_Fixed_init; F.kp
theorem Tx.kp_Fixed_inner : PySem.W.keepIn K (.ref (He.ma K (He.ga K "Fixed") "inner")) = true := let ⟨_, F⟩ := T.d_Fixed_inner; F.kp
theorem Tx.kp_Fixed_holds : PySem.W.keepIn K (.ref (He.ma K (He.ga K "Fixed") "holds")) = true := let ⟨_, F⟩ := T.d_Fixed_holds; F.kp
theorem Tx.kp_Fixed_size : PySem.W.keepIn K (.ref (He.ma K (He.ga K "Fixed") "size")) = true := let ⟨_, F⟩ := T.d_Fixed_size; F.kp
theorem Tx.kp_Fixed_depth : PySem.W.keepIn K (.ref (He.ma K (He.ga K "Fixed") "depth")) = true := let ⟨_, F⟩ := T.d_Fixed_depth; F.kp
theorem Tx.kp_Contact_init : PySem.W.keepIn K (.ref (He.ma K (He.ga K "Contact") "__init__")) = true := let ⟨_, F⟩ := T.d_Contact_init; F.kp
theorem Tx.kp_Contact_inner : PySem.W.keepIn K (.ref (He.ma K (He.ga K "Contact") "inner")) = true := let ⟨_, F⟩ := T.d_Contact_inner; F.kp
theorem Tx.kp_Contact_holds : PySem.W.keepIn K (.ref (He.ma K (He.ga K "Contact") "holds")) = true := let ⟨_, F⟩ := T.d_Contact_holds; F.kp
theorem Tx.kp_Contact_size : PySem.W.keepIn K (.ref (He.ma K (He.ga K "Contact") "size")) = true := let ⟨_, F⟩ := T.d_Contact_size; F.kp
theorem Tx.kp_Contact_depth : PySem.W.keepIn K (.ref (He.ma K (He.ga K "Contact") "depth")) = true := let ⟨_, F⟩ := T.d_Contact_depth; F.kp
theorem Tx.kp_Turned_init : PySem.W.keepIn K (.ref (He.ma K (He.ga K "Turned") "__init__")) = true := let ⟨_, F⟩ := T.d_Turned_init; F.kp
theorem Tx.kp_Turned_inner : PySem.W.keepIn K (.ref (He.ma K (He.ga K "Turned") "inner")) = true := let ⟨_, F⟩ := T.d_Turned_inner; F.kp
theorem Tx.kp_Turned_holds : PySem.W.keepIn K (.ref (He.ma K (He.ga K "Turned") "holds")) = true := let ⟨_, F⟩ := T.d_Turned_holds; F.kp
theorem Tx.kp_Turned_size : PySem.W.keepIn K (.ref (He.ma K (He.ga K "Turned") "size")) = true := let ⟨_, F⟩ := T.d_Turned_size; F.kp
theorem Tx.kp_Turned_depth : PySem.W.keepIn K (.ref (He.ma K (He.ga K "Turned") "depth")) = true := let ⟨_, F⟩ := T.d_Turned_depth; F.kp
theorem Tx.kp_Series_init : PySem.W.keepIn K (.ref (He.ma K (He.ga K "Series") "__init__")) = true := let ⟨_, F⟩ := T.d_Series_init; F.kp
theorem Tx.kp_Series_inner : PySem.W.keepIn K (.ref (He.ma K (He.ga K "Series") "inner")) = true := let ⟨_, F⟩ := T.d_Series_inner; F.kp
theorem Tx.kp_Series_holds : PySem.W.keepIn K (.ref (He.ma K (He.ga K "Series") "holds")) = true := let ⟨_, F⟩ := T.d_Series_holds; F.kp
theorem Tx.kp_Series_size : PySem.W.keepIn K (.ref (He.ma K (He.ga K "Series") "size")) = true := let ⟨_, F⟩ := T.d_Series_size; F.kp
theorem Tx.kp_Series_depth : PySem.W.keepIn K (.ref (He.ma K (He.ga K "Series") "depth")) = true := let ⟨_, F⟩ := T.d_Series_depth; F.kp
theorem Tx.kp_Branch_init : PySem.W.keepIn K (.ref (He.ma K (He.ga K "Branch") "__init__")) = true := let ⟨_, F⟩ := T.d_Branch_init; F.kp
theorem Tx.kp_Branch_inner : PySem.W.keepIn K (.ref (He.ma K (He.ga K "Branch") "inner")) = true := let ⟨_, F⟩ := T.d_Branch_inner; F.kp
theorem Tx.kp_Branch_holds : PySem.W.keepIn K (.ref (He.ma K (He.ga K "Branch") "holds")) = true := let ⟨_, F⟩ := T.d_Branch_holds; F.kp
theorem Tx.kp_Branch_size : PySem.W.keepIn K (.ref (He.ma K (He.ga K "Branch") "size")) = true := let ⟨_, F⟩ := T.d_Branch_size; F.kp
theorem Tx.kp_Branch_depth : PySem.W.keepIn K (.ref (He.ma K (He.ga K "Branch") "depth")) = true := let ⟨_, F⟩ := T.d_Branch_depth; F.kp
theorem Tx.kp_Turned_bounded : PySem.W.keepIn K (.ref (He.ma K (He.ga K "Turned") "bounded")) = true := let ⟨_, F⟩ := T.d_Turned_bounded; F.kp
theorem Tx.kp_Series_bounded : PySem.W.keepIn K (.ref (He.ma K (He.ga K "Series") "bounded")) = true := let ⟨_, F⟩ := T.d_Series_bounded; F.kp
theorem Tx.kp_Branch_bounded : PySem.W.keepIn K (.ref (He.ma K (He.ga K "Branch") "bounded")) = true := let ⟨_, F⟩ := T.d_Branch_bounded; F.kp
theorem Tx.kp_End_init : PySem.W.keepIn K (.ref (He.ma K (He.ga K "End") "__init__")) = true := let ⟨_, F⟩ := T.d_End_init; F.kp
theorem Tx.kp_Coil_init : PySem.W.keepIn K (.ref (He.ma K (He.ga K "Coil") "__init__")) = true := let ⟨_, F⟩ := T.d_Coil_init; F.kp
theorem Tx.kp_Latch_init : PySem.W.keepIn K (.ref (He.ma K (He.ga K "Latch") "__init__")) = true := let ⟨_, F⟩ := T.d_Latch_init; F.kp
theorem Tx.kp_Unlatch_init : PySem.W.keepIn K (.ref (He.ma K (He.ga K "Unlatch") "__init__")) = true := let ⟨_, F⟩ := T.d_Unlatch_init; F.kp
theorem Tx.kp_Timer_init : PySem.W.keepIn K (.ref (He.ma K (He.ga K "Timer") "__init__")) = true := let ⟨_, F⟩ := T.d_Timer_init; F.kp
theorem Tx.kp_Counter_init : PySem.W.keepIn K (.ref (He.ma K (He.ga K "Counter") "__init__")) = true := let ⟨_, F⟩ := T.d_Counter_init; F.kp
theorem Tx.kp_Rung_init : PySem.W.keepIn K (.ref (He.ma K (He.ga K "Rung") "__init__")) = true := let ⟨_, F⟩ := T.d_Rung_init; F.kp
theorem Tx.kp_Ladder_init : PySem.W.keepIn K (.ref (He.ma K (He.ga K "Ladder") "__init__")) = true := let ⟨_, F⟩ := T.d_Ladder_init; F.kp
theorem Tx.kp_Ladder_written_names : PySem.W.keepIn K (.ref (He.ma K (He.ga K "Ladder") "written_names")) = true := let ⟨_, F⟩ := T.d_Ladder_written_names; F.kp
theorem Tx.kp_Works_init : PySem.W.keepIn K (.ref (He.ma K (He.ga K "Works") "__init__")) = true := let ⟨_, F⟩ := T.d_Works_init; F.kp
theorem Tx.kp_Works_scan : PySem.W.keepIn K (.ref (He.ma K (He.ga K "Works") "scan")) = true := let ⟨_, F⟩ := T.d_Works_scan; F.kp
theorem Tx.kp_Works_act : PySem.W.keepIn K (.ref (He.ma K (He.ga K "Works") "act")) = true := let ⟨_, F⟩ := T.d_Works_act; F.kp
theorem Tx.kp_Works_count_on : PySem.W.keepIn K (.ref (He.ma K (He.ga K "Works") "count_on")) = true := let ⟨_, F⟩ := T.d_Works_count_on; F.kp
theorem Tx.kp_Works_answers : PySem.W.keepIn K (.ref (He.ma K (He.ga K "Works") "answers")) = true := let ⟨_, F⟩ := T.d_Works_answers; F.kp
theorem Tx.kp_Works_image : PySem.W.keepIn K (.ref (He.ma K (He.ga K "Works") "image")) = true := let ⟨_, F⟩ := T.d_Works_image; F.kp
theorem Tx.kp_Works_kept : PySem.W.keepIn K (.ref (He.ma K (He.ga K "Works") "kept")) = true := let ⟨_, F⟩ := T.d_Works_kept; F.kp
theorem Tx.kp_Works_put_back : PySem.W.keepIn K (.ref (He.ma K (He.ga K "Works") "put_back")) = true := let ⟨_, F⟩ := T.d_Works_put_back; F.kp
end
/-! ### promises by name -/
section
variable (P : Program) (w : World) (K : PySem.W.Frag) (mg : Mg) (base : Heap) (k : Nat)
/-- a def of the module, by its name -/
def Cal (x : Str) (sp : Sp) : Prop := ∃ f fd ps, FnOk P w K mg base (L2.CX P w) k f fd ps sp ∧ mg x = some (.ref f) ∧ PySem.W.keepIn K (.ref f) = true ∧ Binds K fd ps []
/-- a method of the class at C -/
def Met (C : Addr) (m : Str) (sp : Sp) : Prop := ∃ f fd ps, Cls K C ∧ Meth K C m f ∧ FnOk P w K mg base (L2.CX P w) k f fd ps sp ∧ Binds K fd ps []
/-- the __init__ of the class at C -/
def Mak (C : Addr) (sp : Sp) : Prop := ∃ f fd ps, Mk K C f ∧ FnOk P w K mg base (L2.CX P w) k f fd ps sp ∧ Binds K fd ps []
end
section
variable {P : Program} {w : World} {K : PySem.W.Frag} {mg : Mg} {base : Heap} {j k : Nat}
theorem Cal.mono {x : Str} {sp : Sp} (h : Cal P w K mg base j x sp) (l : j ≤ k) : Cal P w K mg base k x sp := let ⟨f, fd, ps, a, b⟩ := h; ⟨f, fd, ps, a.mono l, b⟩
theorem Met.mono {C : Addr} {m : Str} {sp : Sp} (h : Met P w K mg base j C m sp) (l : j ≤ k) : Met P w K mg base k C m sp := let ⟨f, fd, ps, a, b, c, d⟩ := h; ⟨f, fd, ps, a, b, c.mono l, d⟩
theorem Mak.mono {C : Addr} {sp : Sp} (h : Mak P w K mg base j C sp) (l : j ≤ k) : Mak P w K mg base k C sp := let ⟨f, fd, ps, a, b, c⟩ := h; ⟨f, fd, ps, a, b.mono l, c⟩
theorem Cal.imp {x : Str} {sp sp' : Sp} (h : Cal P w K mg base k x sp) (l : ∀ vs H Q E, sp' vs H Q E → sp vs H Q E) : Cal P w K mg base k x sp' := let ⟨f, fd, ps, a, b⟩ := h; ⟨f, fd, ps, a.imp l, b⟩
theorem Met.imp {C : Addr} {m : Str} {sp sp' : Sp} (h : Met P w K mg base k C m sp) (l : ∀ vs H Q E, sp' vs H Q E → sp vs H Q E) : Met P w K mg base k C m sp' := let ⟨f, fd, ps, a, b, c, d⟩ := h; ⟨f, fd, ps, a, b, c.imp l, d⟩
theorem Mak.imp {C : Addr} {sp sp' : Sp} (h : Mak P w K mg base k C sp) (l : ∀ vs H Q E, sp' vs H Q E → sp vs H Q E) : Mak P w K mg base k C sp' := let ⟨f, fd, ps, a, b, c⟩ := h; ⟨f, fd, ps, a, b.imp l, c⟩
end
/-! ### calls -/
def tFn (C : Sp → Prop) (E : L2.St → XK) (t : TA) : TE := fun σ H Q => t σ H fun vs H1 => ∃ sp, C sp ∧ sp vs H1 Q (E σ)
def tMe (MO : Addr → Str → Sp → Prop) (m : Str) (E : L2.St → XK) (ta : TE) (t : TA) : TE := fun σ H Q => ta σ H fun x H1 => ∃ a C dx fs sp, x = .ref a ∧ H1 a = some (.ins C dx fs) ∧ fs.lookup m = none ∧ MO C m sp ∧ t σ H1 fun vs H2 => sp (x :: vs) H2 Q (E σ)
def tMk (C : Addr) (MO : Sp → Prop) (E : L2.St → XK) (t : TA) : TE := fun σ H Q => t σ H fun vs H1 => ∃ sp, MO sp ∧ ∀ x dx, H1 x = none → H1 dx = none → dx ≠ x →
  sp (.ref x :: vs) (upd (upd H1 dx (.own x)) x (.ins C dx [])) (fun v H2 => v = .non ∧ Q (.ref x) H2) (E σ)
section
variable {X : Cx} {k : Nat} {f C : Addr} {E : L2.St → XK} {x m : Str} {p pos apos : Pos} {e o : Expr} {es : List Expr} {ta : TE} {t : TA}
theorem pe_fnX (hr : Room k X.A) (hg : Gl X x) (hm : X.mg x = some (.ref f)) (hx : ∀ σ, PassesAt (L2.CX X.prog X.w) X σ (E σ)) (hk : PySem.W.keepIn X.K (.ref f) = true) (ha : PA X (e :: es) t)
    (hdb : (x == ("__debug__" : Str)) = false := by decide) (he : starEach (e :: es) X.env = (false, eval e X.env) :: starEach es X.env := by rfl) (hpl : (backTo pos (starEach es X.env)).any (·.1) = false := by rfl) :
    PE X (.Call (.Name x p) (e :: es) [] pos) (tFn (Cal X.prog X.w X.K X.mg X.base k x) E t) := by
  refine ⟨fun pins s σ H Q I h => ?_⟩
  refine wpAny_Call_Name_kw (ld_glob I hg hm ?_ hdb)
  refine PySem.W.callWith_K (h₀ := X.base) I.ok.mod.kin hk (thn (ha.run pos pins s σ H _ I h) fun us s1 ⟨vs, H1, I1, r, sp, ⟨f', fd, ps, F, hm', _, hb⟩, q⟩ => ⟨I1.kIn, ?_⟩) he hpl
  rw [hm] at hm'
  cases hm'
  exact run_fnS F hr hb (hx σ) I1 r q
theorem pe_fn0X (hr : Room k X.A) (hg : Gl X x) (hm : X.mg x = some (.ref f)) (hx : ∀ σ, PassesAt (L2.CX X.prog X.w) X σ (E σ)) (hk : PySem.W.keepIn X.K (.ref f) = true)
    (hdb : (x == ("__debug__" : Str)) = false := by decide) : PE X (.Call (.Name x p) [] [] pos) (tFn (Cal X.prog X.w X.K X.mg X.base k x) E tNil) := by
  refine ⟨fun pins s σ H Q I h => ?_⟩
  obtain ⟨sp, ⟨f', fd, ps, F, hm', _, hb⟩, q⟩ := h
  refine wpAny_Call_Name_kw (ld_glob I hg hm ?_ hdb)
  rw [hm] at hm'
  cases hm'
  exact PySem.W.callWith_K0 I.kIn hk (run_fnS (us := []) F hr hb (hx σ) I .nil q)
theorem pe_meX {pl : Sem Bool} (hr : Room k X.A) (hx : ∀ σ, PassesAt (L2.CX X.prog X.w) X σ (E σ)) (he : PE X o ta) (ha : PA X (e :: es) t)
    (hst : starEach (e :: es) X.env = (false, eval e X.env) :: starEach es X.env := by rfl) (hpl : (backTo pos (starEach es X.env)).any (·.1) = false := by rfl)
    (ht : eval (.Call (.Attribute o m apos) (e :: es) [] pos) X.env = (do
      let ov ← eval o X.env
      standAt apos.atName
      let (f, first) ← holding [ov] (getMethod ov m pl)
      callWith pos f first (backTo pos (starEach (e :: es) X.env)) (backToKw pos (keywordEach [] X.env))) := by rfl) :
    PE X (.Call (.Attribute o m apos) (e :: es) [] pos) (tMe (Met X.prog X.w X.K X.mg X.base k) m E ta t) := by
  refine ⟨fun pins s σ H Q I h => ?_⟩
  refine PySem.W.methodCall_KW (pl := pl) (thn (he.run pins s σ H _ I h) fun u s1 ⟨x, H1, I1, rx, a, C, dx, fs, sp, ex, ea, l, ⟨f, fd, ps, c, hm, F, hb⟩, q⟩ => ?_) ht
  subst ex
  obtain rfl : u = Value.ref a := rx
  refine getmeth_ok I1 ea c hm l ?_
  refine PySem.W.callWith_K (first := [.ref a]) (h₀ := X.base) I.ok.mod.kin hm.kp (thn (ha.run pos pins s1 σ H1 _ I1 q) fun us s2 ⟨vs, H2, I2, r, q2⟩ => ⟨I2.kIn, ?_⟩) hst hpl
  exact run_fnS (us := .ref a :: us) (vs := .ref a :: vs) F hr hb (hx σ) I2 (.cons rfl r) q2
theorem pe_me0X {pl : Sem Bool} (hr : Room k X.A) (hx : ∀ σ, PassesAt (L2.CX X.prog X.w) X σ (E σ)) (he : PE X o ta)
    (ht : eval (.Call (.Attribute o m apos) [] [] pos) X.env = (do
      let ov ← eval o X.env
      standAt apos.atName
      let (f, first) ← holding [ov] (getMethod ov m pl)
      callWith pos f first (backTo pos (starEach [] X.env)) (backToKw pos (keywordEach [] X.env))) := by rfl) :
    PE X (.Call (.Attribute o m apos) [] [] pos) (tMe (Met X.prog X.w X.K X.mg X.base k) m E ta tNil) := by
  refine ⟨fun pins s σ H Q I h => ?_⟩
  refine PySem.W.methodCall_KW (pl := pl) (thn (he.run pins s σ H _ I h) fun u s1 ⟨x, H1, I1, rx, a, C, dx, fs, sp, ex, ea, l, ⟨f, fd, ps, c, hm, F, hb⟩, q⟩ => ?_) ht
  subst ex
  obtain rfl : u = Value.ref a := rx
  refine getmeth_ok I1 ea c hm l ?_
  exact PySem.W.callWith_K0 (first := [.ref a]) I1.kIn hm.kp (run_fnS (us := [.ref a]) (vs := [.ref a]) F hr hb (hx σ) I1 (.cons rfl .nil) q)
theorem pe_mkX (hr : Room (k + 1) X.A) (M : Mk X.K C f) (hg : Gl X x) (hm : X.mg x = some (.ref C)) (ha : PA X (e :: es) t)
    (hdb : (x == ("__debug__" : Str)) = false := by decide) (he : starEach (e :: es) X.env = (false, eval e X.env) :: starEach es X.env := by rfl) (hpl : (backTo pos (starEach es X.env)).any (·.1) = false := by rfl) :
    PE X (.Call (.Name x p) (e :: es) [] pos) (tMk C (Mak X.prog X.w X.K X.mg X.base k C) (fun _ => E0) t) := by
  refine ⟨fun pins s σ H Q I h => ?_⟩
  refine wpAny_Call_Name_kw (ld_glob I hg hm ?_ hdb)
  refine PySem.W.callWith_K (h₀ := X.base) I.ok.mod.kin M.kp (thn (ha.run pos pins s σ H _ I h) fun us s1 ⟨vs, H1, I1, r, sp, ⟨f', fd, ps, M', F, hb⟩, q⟩ => ⟨I1.kIn, ?_⟩) he hpl
  refine run_make M' F hr hb .nil (passL (X := X)) I1 r fun x dx h1 h2 h3 => ?_
  rw [List.append_nil]
  exact q x dx h1 h2 h3
end
/-- the context is over this text -/
structure At (X : Cx) (w : World) (K : PySem.W.Frag) (mg : Mg) (base : Heap) : Prop where
  prog : X.prog = PG
  w_ : X.w = w
  K_ : X.K = K
  mg_ : X.mg = mg
  base_ : X.base = base
section
variable {w : World} {K : PySem.W.Frag} {mg : Mg} {base : Heap} (T : Tx w K mg base)
variable {X : Cx} {k : Nat} {f C : Addr} {E : L2.St → XK} {x m : Str} {p pos apos : Pos} {e o : Expr} {es : List Expr} {ta : TE} {t : TA}
include T
theorem pe_fn (hr : Room k X.A) (hg : Gl X x) (hm : mg x = some (.ref f)) (hx : ∀ σ, PassesAt (L2.CX X.prog X.w) X σ (E σ)) (hk : PySem.W.keepIn K (.ref f) = true) (ha : PA X (e :: es) t) (a : At X w K mg base := by exact ⟨rfl, rfl, rfl, rfl, rfl⟩)
    (hdb : (x == ("__debug__" : Str)) = false := by decide) (he : starEach (e :: es) X.env = (false, eval e X.env) :: starEach es X.env := by rfl) (hpl : (backTo pos (starEach es X.env)).any (·.1) = false := by rfl) :
    PE X (.Call (.Name x p) (e :: es) [] pos) (tFn (Cal PG w K mg base k x) E t) := by
  obtain ⟨a1, a2, a3, a4, a5⟩ := a
  subst a2 a3 a4 a5
  rw [← a1]
  exact pe_fnX hr hg hm hx hk ha hdb he hpl
theorem pe_me {pl : Sem Bool} (hr : Room k X.A) (hx : ∀ σ, PassesAt (L2.CX X.prog X.w) X σ (E σ)) (he : PE X o ta) (ha : PA X (e :: es) t) (a : At X w K mg base := by exact ⟨rfl, rfl, rfl, rfl, rfl⟩)
    (hst : starEach (e :: es) X.env = (false, eval e X.env) :: starEach es X.env := by rfl) (hpl : (backTo pos (starEach es X.env)).any (·.1) = false := by rfl)
    (ht : eval (.Call (.Attribute o m apos) (e :: es) [] pos) X.env = (do
      let ov ← eval o X.env
      standAt apos.atName
      let (f, first) ← holding [ov] (getMethod ov m pl)
      callWith pos f first (backTo pos (starEach (e :: es) X.env)) (backToKw pos (keywordEach [] X.env))) := by rfl) :
    PE X (.Call (.Attribute o m apos) (e :: es) [] pos) (tMe (Met PG w K mg base k) m E ta t) := by
  obtain ⟨a1, a2, a3, a4, a5⟩ := a
  subst a2 a3 a4 a5
  rw [← a1]
  exact pe_meX hr hx he ha hst hpl ht
theorem pe_me0 {pl : Sem Bool} (hr : Room k X.A) (hx : ∀ σ, PassesAt (L2.CX X.prog X.w) X σ (E σ)) (he : PE X o ta) (a : At X w K mg base := by exact ⟨rfl, rfl, rfl, rfl, rfl⟩)
    (ht : eval (.Call (.Attribute o m apos) [] [] pos) X.env = (do
      let ov ← eval o X.env
      standAt apos.atName
      let (f, first) ← holding [ov] (getMethod ov m pl)
      callWith pos f first (backTo pos (starEach [] X.env)) (backToKw pos (keywordEach [] X.env))) := by rfl) :
    PE X (.Call (.Attribute o m apos) [] [] pos) (tMe (Met PG w K mg base k) m E ta tNil) := by
  obtain ⟨a1, a2, a3, a4, a5⟩ := a
  subst a2 a3 a4 a5
  rw [← a1]
  exact pe_me0X hr hx he ht
theorem pe_mk (hr : Room (k + 1) X.A) (M : Mk K C f) (hg : Gl X x) (hm : mg x = some (.ref C)) (ha : PA X (e :: es) t) (a : At X w K mg base := by exact ⟨rfl, rfl, rfl, rfl, rfl⟩)
    (hdb : (x == ("__debug__" : Str)) = false := by decide) (he : starEach (e :: es) X.env = (false, eval e X.env) :: starEach es X.env := by rfl) (hpl : (backTo pos (starEach es X.env)).any (·.1) = false := by rfl) :
    PE X (.Call (.Name x p) (e :: es) [] pos) (tMk C (Mak PG w K mg base k C) (fun _ => E0) t) := by
  obtain ⟨a1, a2, a3, a4, a5⟩ := a
  subst a2 a3 a4 a5
  rw [← a1]
  exact pe_mkX hr M hg hm ha hdb he hpl
theorem pe_fldT {f : Str} (he : PE X o ta) (a : At X w K mg base := by exact ⟨rfl, rfl, rfl, rfl, rfl⟩) (hb : attributeBase o f X.env (eval o X.env) = eval o X.env := by rfl) : PE X (.Attribute o f pos) (tFld K ta f) := by
  obtain ⟨a1, a2, a3, a4, a5⟩ := a
  subst a3
  exact pe_fld he hb
theorem op_inT (a : At X w K mg base := by exact ⟨rfl, rfl, rfl, rfl, rfl⟩) : OpR X (compareOp .In) (rIn K false) := by
  obtain ⟨a1, a2, a3, a4, a5⟩ := a
  subst a3
  exact op_in_seq
theorem op_ninT (a : At X w K mg base := by exact ⟨rfl, rfl, rfl, rfl, rfl⟩) : OpR X (compareOp .NotIn) (rIn K true) := by
  obtain ⟨a1, a2, a3, a4, a5⟩ := a
  subst a3
  exact op_notIn_seq
theorem ix_lT (a : At X w K mg base := by exact ⟨rfl, rfl, rfl, rfl, rfl⟩) : IxR X (rIxL K) := by
  obtain ⟨a1, a2, a3, a4, a5⟩ := a
  subst a3
  exact ix_list
theorem ix_tT (a : At X w K mg base := by exact ⟨rfl, rfl, rfl, rfl, rfl⟩) : IxR X (rIxT K) := by
  obtain ⟨a1, a2, a3, a4, a5⟩ := a
  subst a3
  exact ix_tup
omit T in
theorem pe_globR {r : Addr} (hg : Gl X x) (hm : X.mg x = some (.ref r)) (hd : (x == ("__debug__" : Str)) = false := by decide) : PE X (.Name x pos) (tC (.ref r)) := pe_glob hg hm rfl hd
omit T in
theorem pe_bltnT (n : String) (hg : Gl X x) (hm : X.mg x = none) (hv : bootBuiltins x = some (.type n)) (hn : x ≠ "__name__" := by decide) (hd : (x == ("__debug__" : Str)) = false := by decide) : PE X (.Name x pos) (tC (.ty n)) := pe_bltn hg hm hv rfl hn hd
omit T in
theorem pass0 : ∀ σ, PassesAt (L2.CX X.prog X.w) X σ ((fun _ => E0 : L2.St → XK) σ) := fun σ pins H s e s' I c => passL pins σ H s e s' I c
end
/-! ### a def by its body -/
section
variable {w : World} {K : PySem.W.Frag} {mg : Mg} {base : Heap} {k : Nat}
/-- the context of a body -/
abbrev cx (w : World) (K : PySem.W.Frag) (mg : Mg) (base : Heap) (N : List Str) (qual : Str) (sc : Scope) (f : Addr) (cd : Value) (A : Around) (outer : List Env) (s : Shared) (H : Hp) (E : XK) : Cx := cxOf (L2.CX PG w) PG w K mg base N qual sc f cd A outer s H E
theorem fnd {x qual : Str} {params : Arguments} {body : List Stmt} {scope : Scope} {f : Addr} (N ps : List Str) {sp : Sp} (F : ∃ fd, FunD K x qual params body scope [] [] f fd) (S : C8.scC N ps scope = true) (len : ∀ vs H Q E, sp vs H Q E → vs.length = ps.length)
    (hb : ∀ (kV doc pm : Value) (an : Option Addr) (cdv ct : Value) (us : List Value), us.length = ps.length → bindArgs (PySem.W.fnOf x qual params body scope .none kV doc pm an cdv ct) ⟨us, []⟩ = pure (ps.zip us))
    (hbody : ∀ (cdv : Value) (A : Around) (outer : List Env) (s : Shared) (H : Hp) (vs : List V) (Q : VK) (E : XK), Room k (A.deeper (envOfC qual scope s.heap.objs.size f cdv)) → sp vs H Q E →
      ∃ t, PSs (cx w K mg base N qual scope f cdv A outer s H E) body t ∧ t { nx := fun _ H' => Q .non H', rt := Q } (start N vs) H) :
    ∃ fd, FnOk PG w K mg base (L2.CX PG w) (k + 1) f fd ps sp ∧ PySem.W.keepIn K (.ref f) = true ∧ Binds K fd ps [] := by
  obtain ⟨fd, F⟩ := F
  exact ⟨fd, F.ok (C8.fnScope_by S) len hbody, F.kp, F.bindsN hb⟩
theorem cal_of {x : Str} {f : Addr} {ps : List Str} {sp : Sp} (h : ∃ fd, FnOk PG w K mg base (L2.CX PG w) k f fd ps sp ∧ PySem.W.keepIn K (.ref f) = true ∧ Binds K fd ps []) (hm : mg x = some (.ref f)) : Cal PG w K mg base k x sp :=
  let ⟨fd, a, b, c⟩ := h; ⟨f, fd, ps, a, hm, b, c⟩
theorem met_of {m : Str} {C f : Addr} {ps : List Str} {sp : Sp} (h : ∃ fd, FnOk PG w K mg base (L2.CX PG w) k f fd ps sp ∧ PySem.W.keepIn K (.ref f) = true ∧ Binds K fd ps []) (c : Cls K C) (hm : Meth K C m f) : Met PG w K mg base k C m sp :=
  let ⟨fd, a, _, d⟩ := h; ⟨f, fd, ps, c, hm, a, d⟩
theorem mak_of {C f : Addr} {ps : List Str} {sp : Sp} (h : ∃ fd, FnOk PG w K mg base (L2.CX PG w) k f fd ps sp ∧ PySem.W.keepIn K (.ref f) = true ∧ Binds K fd ps []) (hm : Mk K C f) : Mak PG w K mg base k C sp :=
  let ⟨fd, a, _, d⟩ := h; ⟨f, fd, ps, hm, a, d⟩
end

end RgK
set_option Elab.async false
set_option linter.all false
set_option maxRecDepth 100000
set_option maxHeartbeats 4000000
/-! A calculus of readings: SS (a statement, wherever what is known stands), EvR (an expression with a relation). -/
namespace RgK
open PySem PySem.Spec PyProof.Rows L2 Evl
/-! ### heaps -/
def NotD : HO → Bool
  | .dK _ => false
  | _ => true
/-- all but dicts is kept -/
def Im (H H' : Hp) : Prop := ∀ a o, H a = some o → NotD o = true → H' a = some o
theorem Im.refl (H : Hp) : Im H H := fun _ _ h _ => h
theorem Im.of {H H' : Hp} (e : Ex H H') : Im H H' := fun a o h _ => e a o h
theorem Im.trans {H H1 H2 : Hp} (a : Im H H1) (b : Im H1 H2) : Im H H2 := fun x o h n => b x o (a x o h n) n
theorem Im.ex {H H1 H2 : Hp} (a : Im H H1) (b : Ex H1 H2) : Im H H2 := a.trans (.of b)
theorem Im.dput {H H' : Hp} {d : Addr} {kvs : List (Key × V)} {o : HO} (i : Im H H') (h : H' d = some (.dK kvs)) : Im H (upd H' d o) := fun a u e n => by
  have q := i a u e n
  have hne : a ≠ d := fun z => by rw [z, h] at q; cases q; cases n
  rw [upd_ne hne]
  exact q
theorem Im.mut {H H' : Hp} {p : Addr} {o : HO} (i : Im H H') (h : H p = none) : Im H (upd H' p o) := fun a u e n => by
  have hne : a ≠ p := fun z => by rw [z, h] at e; cases e
  rw [upd_ne hne]
  exact i a u e n
theorem im_l {K : PySem.W.Frag} {H H' : Hp} {a : Addr} {xs : List V} (e : Im H H') (h : SqL K H a xs) : SqL K H' a xs := by
  rcases h with (h | ⟨o, h⟩) | h
  · exact .inl (.inl (e _ _ h rfl))
  · exact .inl (.inr ⟨o, e _ _ h rfl⟩)
  · exact .inr h
theorem im_t {K : PySem.W.Frag} {H H' : Hp} {a : Addr} {xs : List V} (e : Im H H') (h : SqT K H a xs) : SqT K H' a xs := by
  rcases h with (h | ⟨o, h⟩) | h
  · exact .inl (.inl (e _ _ h rfl))
  · exact .inl (.inr ⟨o, e _ _ h rfl⟩)
  · exact .inr h
theorem im_s {K : PySem.W.Frag} {k : Bool} {H H' : Hp} {a : Addr} {xs : List V} (e : Im H H') (h : Sq K k H a xs) : Sq K k H' a xs := by
  cases k with
  | true => exact im_l e h
  | false => exact im_t e h
/-- instances and tuples are kept -/
def isIT : HO → Bool
  | .ins _ _ _ => true
  | .tup _ => true
  | .own _ => true
  | _ => false
def Ip (H H' : Hp) : Prop := ∀ a o, H a = some o → isIT o = true → H' a = some o
theorem Ip.refl (H : Hp) : Ip H H := fun _ _ h _ => h
theorem Ip.of {H H' : Hp} (e : Ex H H') : Ip H H' := fun a o h _ => e a o h
theorem Ip.im {H H' : Hp} (e : Im H H') : Ip H H' := fun a o h n => e a o h (by cases o <;> first | rfl | cases n)
theorem Ip.trans {H H1 H2 : Hp} (a : Ip H H1) (b : Ip H1 H2) : Ip H H2 := fun x o h n => b x o (a x o h n) n
theorem Ip.ex {H H1 H2 : Hp} (a : Ip H H1) (b : Ex H1 H2) : Ip H H2 := a.trans (.of b)
/-- what is neither an instance nor a tuple may change -/
theorem Ip.put {H H' : Hp} {d : Addr} {o u : HO} (i : Ip H H') (h : H' d = some u) (n : isIT u = false) : Ip H (upd H' d o) := fun a v e m => by
  have q := i a v e m
  have hne : a ≠ d := fun z => by rw [z, h] at q; cases q; rw [n] at m; cases m
  rw [upd_ne hne]
  exact q
theorem Ip.mut {H H' : Hp} {p : Addr} {o : HO} (i : Ip H H') (h : H p = none) : Ip H (upd H' p o) := fun a u e n => by
  have hne : a ≠ p := fun z => by rw [z, h] at e; cases e
  rw [upd_ne hne]
  exact i a u e n
/-- all but these is kept -/
def Mo (ds : List Addr) (H H' : Hp) : Prop := ∀ a o, H a = some o → a ∉ ds → H' a = some o
theorem Mo.of {ds : List Addr} {H H' : Hp} (e : Ex H H') : Mo ds H H' := fun a o h _ => e a o h
theorem Mo.trans {ds : List Addr} {H H1 H2 : Hp} (a : Mo ds H H1) (b : Mo ds H1 H2) : Mo ds H H2 := fun x o h n => b x o (a x o h n) n
theorem Mo.sub {ds ds' : List Addr} {H H' : Hp} (a : Mo ds H H') (s : ∀ x ∈ ds, x ∈ ds') : Mo ds' H H' := fun x o h n => a x o h fun z => n (s x z)
theorem Mo.put {ds : List Addr} {H H' : Hp} {d : Addr} {o : HO} (m : Mo ds H H') (hd : d ∈ ds) : Mo ds H (upd H' d o) := fun a u e n => by
  rw [upd_ne (fun z => n (by rw [z]; exact hd))]
  exact m a u e n
theorem Mo.mut {ds : List Addr} {H H' : Hp} {p : Addr} {o : HO} (m : Mo ds H H') (h : H p = none) : Mo ds H (upd H' p o) := fun a u e n => by
  have hne : a ≠ p := fun z => by rw [z, h] at e; cases e
  rw [upd_ne hne]
  exact m a u e n
theorem Mo.im {ds : List Addr} {H H' : Hp} (m : Mo ds H H') (h : ∀ d ∈ ds, ∀ o, H d = some o → NotD o = false) : Im H H' := fun a o e n => m a o e fun z => by rw [h a z o e] at n; cases n
theorem Mo.it {ds : List Addr} {H H' : Hp} (m : Mo ds H H') (h : ∀ d ∈ ds, ∀ o, H d = some o → isIT o = false) : Ip H H' := fun a o e n => m a o e fun z => by rw [h a z o e] at n; cases n
theorem Ex.put {H H' : Hp} (e : Ex H H') (d : Addr) (o : HO) : Ex (upd H d o) (upd H' d o) := fun a u h => by
  by_cases z : a = d
  · rw [z] at h ⊢
    rw [upd_same] at h ⊢
    exact h
  · rw [upd_ne z] at h ⊢
    exact e a u h
theorem ex_s {K : PySem.W.Frag} {k : Bool} {H H' : Hp} {a : Addr} {xs : List V} (e : Ex H H') (h : Sq K k H a xs) : Sq K k H' a xs := im_s (.of e) h
/-! ### an attribute -/
def Fld (K : PySem.W.Frag) (H : Hp) (a : Addr) (f : Str) (v : V) : Prop := ∃ C dx fs, H a = some (.ins C dx fs) ∧ Cls K C ∧ NoAttr K C f ∧ fs.lookup f = some v
theorem Fld.it {K : PySem.W.Frag} {H H' : Hp} {a : Addr} {f : Str} {v : V} (h : Fld K H a f v) (e : Ip H H') : Fld K H' a f v := let ⟨C, dx, fs, a, b, c, d⟩ := h; ⟨C, dx, fs, e _ _ a rfl, b, c, d⟩
theorem Fld.im {K : PySem.W.Frag} {H H' : Hp} {a : Addr} {f : Str} {v : V} (h : Fld K H a f v) (e : Im H H') : Fld K H' a f v := let ⟨C, dx, fs, a, b, c, d⟩ := h; ⟨C, dx, fs, e _ _ a rfl, b, c, d⟩
theorem Fld.ex {K : PySem.W.Frag} {H H' : Hp} {a : Addr} {f : Str} {v : V} (h : Fld K H a f v) (e : Ex H H') : Fld K H' a f v := h.im (.of e)
/-! ### expressions -/
def EvR (te : TE) (σ : L2.St) (H : Hp) (R : V → Hp → Prop) : Prop := ∀ H1, Ex H H1 → ∀ Q : VK, (∀ v H2, Ex H1 H2 → R v H2 → Q v H2) → te σ H1 Q
/-- a new tuple | list | dict -/
def NewT (H : Hp) (xs : List V) (v : V) (H2 : Hp) : Prop := ∃ p, v = .ref p ∧ H p = none ∧ H2 p = some (.tup xs)
def NewL (H : Hp) (xs : List V) (v : V) (H2 : Hp) : Prop := ∃ p, v = .ref p ∧ H p = none ∧ H2 p = some (.lst xs)
def NewD (H : Hp) (kvs : List (Key × V)) (v : V) (H2 : Hp) : Prop := ∃ p, v = .ref p ∧ H p = none ∧ H2 p = some (.dK kvs)
def EvAR (ta : TA) (σ : L2.St) (H : Hp) (R : List V → Hp → Prop) : Prop := ∀ H1, Ex H H1 → ∀ Q : List V → Hp → Prop, (∀ vs H2, Ex H1 H2 → R vs H2 → Q vs H2) → ta σ H1 Q
section
variable {K : PySem.W.Frag} {σ : L2.St} {H H' : Hp} {ta tb te tx : TE} {t u : TT} {x y z v : V} {r : R2}
theorem ev_rel (h : Ev te σ H v) : EvR te σ H (fun z _ => z = v) := fun H1 e Q q => h H1 e Q fun H2 e2 => q v H2 e2 rfl
theorem EvR.ev (h : EvR te σ H (fun z _ => z = v)) : Ev te σ H v := fun H1 e Q q => h H1 e Q fun z H2 e2 hz => by
  subst hz
  exact q H2 e2
theorem EvR.mono {R : V → Hp → Prop} (h : EvR te σ H R) (e : Ex H H') : EvR te σ H' R := fun H1 e1 Q q => h H1 (e.trans e1) Q q
theorem EvR.imp {R R' : V → Hp → Prop} (h : EvR te σ H R) (k : ∀ v H2, Ex H H2 → R v H2 → R' v H2) : EvR te σ H R' := fun H1 e1 Q q => h H1 e1 Q fun v H2 e2 hr => q v H2 e2 (k v H2 (e1.trans e2) hr)
/-- one after another -/
theorem er_op {Ra R : V → Hp → Prop} (ha : EvR ta σ H Ra) (hb : ∀ x H1, Ex H H1 → Ra x H1 → ∃ Rb : V → Hp → Prop, EvR tb σ H1 Rb ∧ ∀ y H2, Ex H1 H2 → Rb y H2 → ∀ Q : VK, (∀ v H3, Ex H2 H3 → R v H3 → Q v H3) → r x y H2 Q) : EvR (tOp r ta tb) σ H R :=
  fun H1 e1 Q q => ha H1 e1 _ fun x H2 e2 hx => by
    obtain ⟨Rb, h1, h2⟩ := hb x H2 (e1.trans e2) hx
    exact h1 H2 (.refl _) _ fun y H3 e3 hy => h2 y H3 e3 hy Q fun v H4 e4 hv => q v H4 (e2.trans (e3.trans e4)) hv
theorem er_un {q : V → Hp → VK → Prop} {Ra R : V → Hp → Prop} (ha : EvR ta σ H Ra) (hr : ∀ x H1, Ex H H1 → Ra x H1 → ∀ Q : VK, (∀ v H3, Ex H1 H3 → R v H3 → Q v H3) → q x H1 Q) : EvR (tUn q ta) σ H R :=
  fun H1 e1 Q k => ha H1 e1 _ fun x H2 e2 hx => hr x H2 (e1.trans e2) hx Q fun v H3 e3 hv => k v H3 (e2.trans e3) hv
theorem ar_nil : EvAR tNil σ H (fun vs _ => vs = []) := fun H1 _ Q q => q [] H1 (.refl _) rfl
theorem ar_cons {tr : TA} {Ra : V → Hp → Prop} {R : List V → Hp → Prop} (ha : EvR te σ H Ra) (hr : ∀ x H1, Ex H H1 → Ra x H1 → EvAR tr σ H1 (fun vs H2 => R (x :: vs) H2)) : EvAR (tCons te tr) σ H R :=
  fun H1 e1 Q q => ha H1 e1 _ fun x H2 e2 hx => hr x H2 (e1.trans e2) hx H2 (.refl _) _ fun vs H3 e3 hv => q (x :: vs) H3 (e2.trans e3) hv
theorem ea_rel {tr : TA} {vs : List V} (h : EvA tr σ H vs) : EvAR tr σ H (fun z _ => z = vs) := fun H1 e Q q => h H1 e Q fun H2 e2 => q vs H2 e2 rfl
theorem er_tup {tr : TA} {R : List V → Hp → Prop} (h : EvAR tr σ H R) (hl : ∀ vs H1, R vs H1 → vs.length ≤ 100000) : EvR (tTup tr) σ H (fun v H2 => ∃ p vs, v = .ref p ∧ H p = none ∧ H2 p = some (.tup vs) ∧ ∃ H1, Ex H1 H2 ∧ R vs H1) :=
  fun H1 e1 Q q => h H1 e1 _ fun vs H2 e2 hv => ⟨sz_of (hl vs H2 hv), fun p hp => q _ _ (e2.trans (.new hp)) ⟨p, vs, rfl, fresh_back (e1.trans e2) hp, upd_same, H2, .new hp, hv⟩⟩
theorem er_lst {tr : TA} {R : List V → Hp → Prop} (h : EvAR tr σ H R) (hl : ∀ vs H1, R vs H1 → vs.length ≤ 100000) : EvR (tLst tr) σ H (fun v H2 => ∃ p vs, v = .ref p ∧ H p = none ∧ H2 p = some (.lst vs) ∧ ∃ H1, Ex H1 H2 ∧ R vs H1) :=
  fun H1 e1 Q q => h H1 e1 _ fun vs H2 e2 hv => ⟨sz_of (hl vs H2 hv), fun p hp => q _ _ (e2.trans (.new hp)) ⟨p, vs, rfl, fresh_back (e1.trans e2) hp, upd_same, H2, .new hp, hv⟩⟩
theorem er_tupV {tr : TA} {vs : List V} (h : EvA tr σ H vs) (hl : vs.length ≤ 100000) : EvR (tTup tr) σ H (NewT H vs) := (er_tup (ea_rel h) fun _ _ e => by rw [e]; exact hl).imp fun v H2 _ ⟨p, vs, a, b, c, _, _, d⟩ => ⟨p, a, b, by rw [c, d]⟩
theorem er_lstV {tr : TA} {vs : List V} (h : EvA tr σ H vs) (hl : vs.length ≤ 100000) : EvR (tLst tr) σ H (NewL H vs) := (er_lst (ea_rel h) fun _ _ e => by rw [e]; exact hl).imp fun v H2 _ ⟨p, vs, a, b, c, _, _, d⟩ => ⟨p, a, b, by rw [c, d]⟩
theorem er_dnew : EvR tDNewK σ H (NewD H []) := fun H1 e1 Q q p hp => q _ _ (.new hp) ⟨p, rfl, fresh_back e1 hp, upd_same⟩
/-- o.f -/
theorem ev_fld {a : Addr} {f : Str} (ha : Ev ta σ H (.ref a)) (h : Fld K H a f v) : Ev (tFld K ta f) σ H v := fun H1 e1 Q q => ha H1 e1 _ fun H2 e2 => by
  obtain ⟨C, dx, fs, h1, h2, h3, h4⟩ := h.ex (e1.trans e2)
  exact ⟨a, C, dx, fs, v, rfl, h1, h2, h3, h4, q H2 e2⟩
theorem er_fld {f : Str} {Ra R : V → Hp → Prop} (ha : EvR ta σ H Ra) (h : ∀ x H1, Ex H H1 → Ra x H1 → ∃ a v, x = .ref a ∧ Fld K H1 a f v ∧ R v H1) : EvR (tFld K ta f) σ H R := fun H1 e1 Q q => ha H1 e1 _ fun x H2 e2 hx => by
  obtain ⟨a, v, e, ⟨C, dx, fs, h1, h2, h3, h4⟩, hr⟩ := h x H2 (e1.trans e2) hx
  exact ⟨a, C, dx, fs, v, e, h1, h2, h3, h4, q v H2 e2 hr⟩
/-- calls -/
def SpR (sp : Sp) (vs : List V) (H : Hp) (R : V → Hp → Prop) : Prop := ∀ H1, Ex H H1 → ∀ Q : VK, (∀ v H2, Ex H1 H2 → R v H2 → Q v H2) → ∀ E : XK, sp vs H1 Q E
theorem er_fn {C : Sp → Prop} {E : L2.St → XK} {tr : TA} {Ra : List V → Hp → Prop} {R : V → Hp → Prop} (ha : EvAR tr σ H Ra) (h : ∀ vs H1, Ex H H1 → Ra vs H1 → ∃ sp, C sp ∧ SpR sp vs H1 R) : EvR (tFn C E tr) σ H R :=
  fun H1 e1 Q q => ha H1 e1 _ fun vs H2 e2 hv => by
    obtain ⟨sp, c, s⟩ := h vs H2 (e1.trans e2) hv
    exact ⟨sp, c, s H2 (.refl _) _ (fun v H3 e3 hr => q v H3 (e2.trans e3) hr) _⟩
theorem er_fnV {C : Sp → Prop} {E : L2.St → XK} {tr : TA} {vs : List V} {sp : Sp} {R : V → Hp → Prop} (ha : EvA tr σ H vs) (c : C sp) (s : SpR sp vs H R) : EvR (tFn C E tr) σ H R :=
  er_fn (ea_rel ha) fun vs' H1 e1 e => by
    rw [e]
    exact ⟨sp, c, fun H2 e2 Q q E' => s H2 (e1.trans e2) Q q E'⟩
theorem er_me {MO : Addr → Str → Sp → Prop} {m : Str} {E : L2.St → XK} {tr : TA} {Ra : V → Hp → Prop} {R : V → Hp → Prop} (ho : EvR ta σ H Ra)
    (h : ∀ x H1, Ex H H1 → Ra x H1 → ∃ a C dx fs sp Rv, x = .ref a ∧ H1 a = some (.ins C dx fs) ∧ fs.lookup m = none ∧ MO C m sp ∧ EvAR tr σ H1 Rv ∧ ∀ vs H2, Ex H1 H2 → Rv vs H2 → SpR sp (x :: vs) H2 R) : EvR (tMe MO m E ta tr) σ H R :=
  fun H1 e1 Q q => ho H1 e1 _ fun x H2 e2 hx => by
    obtain ⟨a, C, dx, fs, sp, Rv, h1, h2, h3, h4, h5, h6⟩ := h x H2 (e1.trans e2) hx
    exact ⟨a, C, dx, fs, sp, h1, h2, h3, h4, h5 H2 (.refl _) _ fun vs H3 e3 hv => h6 vs H3 e3 hv H3 (.refl _) _ (fun v H4 e4 hr => q v H4 (e2.trans (e3.trans e4)) hr) _⟩
theorem er_meV {MO : Addr → Str → Sp → Prop} {m : Str} {E : L2.St → XK} {tr : TA} {a C dx : Addr} {fs : List (Str × V)} {sp : Sp} {vs : List V} {R : V → Hp → Prop} (ho : Ev ta σ H (.ref a)) (hi : H a = some (.ins C dx fs)) (hl : fs.lookup m = none) (hm : MO C m sp) (ha : EvA tr σ H vs)
    (s : SpR sp (.ref a :: vs) H R) : EvR (tMe MO m E ta tr) σ H R :=
  er_me (ev_rel ho) fun x H1 e1 ex => by
    subst ex
    exact ⟨a, C, dx, fs, sp, _, rfl, e1 _ _ hi, hl, hm, ea_rel (EvA.mono e1 ha), fun vs' H2 e2 e => by rw [e]; exact fun H3 e3 Q q E' => s H3 (e1.trans (e2.trans e3)) Q q E'⟩
theorem ev_fnV {C : Sp → Prop} {E : L2.St → XK} {tr : TA} {vs : List V} {sp : Sp} (ha : EvA tr σ H vs) (c : C sp) (s : SpR sp vs H (fun x _ => x = v)) : Ev (tFn C E tr) σ H v := (er_fnV ha c s).ev
theorem ev_meV {MO : Addr → Str → Sp → Prop} {m : Str} {E : L2.St → XK} {tr : TA} {a C dx : Addr} {fs : List (Str × V)} {sp : Sp} {vs : List V} (ho : Ev ta σ H (.ref a)) (hi : H a = some (.ins C dx fs)) (hl : fs.lookup m = none) (hm : MO C m sp) (ha : EvA tr σ H vs)
    (s : SpR sp (.ref a :: vs) H (fun x _ => x = v)) : Ev (tMe MO m E ta tr) σ H v := (er_meV ho hi hl hm ha s).ev
/-- C(..): a new instance; the promise of __init__ at the new heap -/
theorem er_mk {C : Addr} {MO : Sp → Prop} {E : L2.St → XK} {tr : TA} {Ra : List V → Hp → Prop} {R : V → Hp → Prop} (ha : EvAR tr σ H Ra)
    (h : ∀ vs H1, Ex H H1 → Ra vs H1 → ∃ sp, MO sp ∧ ∀ x dx, H1 x = none → H1 dx = none → dx ≠ x → ∀ Q : VK, (∀ H2, Ex H1 H2 → R (.ref x) H2 → Q .non H2) → ∀ E : XK, sp (.ref x :: vs) (upd (upd H1 dx (.own x)) x (.ins C dx [])) Q E) : EvR (tMk C MO E tr) σ H R :=
  fun H1 e1 Q q => ha H1 e1 _ fun vs H2 e2 hv => by
    obtain ⟨sp, c, s⟩ := h vs H2 (e1.trans e2) hv
    exact ⟨sp, c, fun x dx h1 h2 h3 => s x dx h1 h2 h3 _ (fun H3 e3 hr => ⟨rfl, q _ H3 (e2.trans e3) hr⟩) _⟩
/-- tests, conditionals -/
theorem et_truth {b : Bool} (ha : Ev ta σ H v) (h : ∀ H1, Ex H H1 → TruV K v H1 b) : EvT (fun σ H Q => ta σ H fun x H' => ∃ k, TruV K x H' k ∧ Q k H') σ H b :=
  fun H1 e1 Q q => ha H1 e1 _ fun H2 e2 => ⟨b, h H2 (e1.trans e2), q H2 e2⟩
theorem er_if {b : Bool} {R : V → Hp → Prop} (h : EvT t σ H b) (h1 : b = true → EvR ta σ H R) (h2 : b = false → EvR tb σ H R) : EvR (tIf t ta tb) σ H R :=
  fun H1 e1 Q q => h H1 e1 _ fun H2 e2 => by
    cases b with
    | true => exact h1 rfl H2 (e1.trans e2) _ fun v H3 e3 hr => q v H3 (e2.trans e3) hr
    | false => exact h2 rfl H2 (e1.trans e2) _ fun v H3 e3 hr => q v H3 (e2.trans e3) hr
theorem ev_chain {r r' : R2} {tc : TE} {x y w : V} {k k' : Bool} (ha : Ev ta σ H x) (hb : Ev tb σ H y) (h1 : RV r x y H (.bl k)) (hc : k = true → Ev tc σ H w ∧ RV r' y w H (.bl k')) : Ev (tChain r r' ta tb tc) σ H (.bl (k && k')) :=
  fun H1 e1 Q q => ha H1 e1 _ fun H2 e2 => hb H2 (e1.trans e2) _ fun H3 e3 => h1 H3 (e1.trans (e2.trans e3)) _ fun H4 e4 => ⟨k, rfl, by
    cases k with
    | true =>
      rw [if_pos rfl]
      obtain ⟨h2, h3⟩ := hc rfl
      exact h2 H4 (e1.trans (e2.trans (e3.trans e4))) _ fun H5 e5 => h3 H5 (e1.trans (e2.trans (e3.trans (e4.trans e5)))) _ fun H6 e6 => q H6 (e2.trans (e3.trans (e4.trans (e5.trans e6))))
    | false =>
      rw [if_neg (by decide)]
      exact q H4 (e2.trans (e3.trans e4))⟩
/-- a dict -/
theorem dget_ex {a : Addr} {y : V} {o : Option V} (g : DGet H a y o) (e : Ex H H') : DGet H' a y o := by
  rcases g with ⟨kvs, k, h1, h2, h3⟩ | ⟨kvs, k, b, h1, h2, h3, h4⟩
  · exact .inl ⟨kvs, k, ex_rd e h1, h2, h3⟩
  · exact .inr ⟨kvs, k, b, ex_rd e h1, h2, e _ _ h3, h4⟩
theorem ev_dget {d : Addr} {td ty : TE} (hd : Ev td σ H (.ref d)) (hy : Ev ty σ H y) (g : DGet H d y (some v)) : Ev (tDGet td ty) σ H v :=
  fun H1 e1 Q q => hd H1 e1 _ fun H2 e2 => hy H2 (e1.trans e2) _ fun H3 e3 => ⟨d, v, rfl, dget_ex g (e1.trans (e2.trans e3)), q H3 (e2.trans e3)⟩
theorem ev_din {d : Addr} {td ty : TE} {o : Option V} (hy : Ev ty σ H y) (hd : Ev td σ H (.ref d)) (g : DGet H d y o) : Ev (tDIn ty td) σ H (.bl o.isSome) :=
  fun H1 e1 Q q => hy H1 e1 _ fun H2 e2 => hd H2 (e1.trans e2) _ fun H3 e3 => ⟨d, o, rfl, dget_ex g (e1.trans (e2.trans e3)), q H3 (e2.trans e3)⟩
theorem ev_dnotin {d : Addr} {td ty : TE} {o : Option V} (hy : Ev ty σ H y) (hd : Ev td σ H (.ref d)) (g : DGet H d y o) : Ev (tDNotIn ty td) σ H (.bl (!o.isSome)) :=
  fun H1 e1 Q q => hy H1 e1 _ fun H2 e2 => hd H2 (e1.trans e2) _ fun H3 e3 => ⟨d, o, rfl, dget_ex g (e1.trans (e2.trans e3)), q H3 (e2.trans e3)⟩
theorem isd_ex {a : Addr} (g : IsD H a) (e : Ex H H') : IsD H' a := g.elim (fun ⟨k, h⟩ => .inl ⟨k, ex_rd e h⟩) fun ⟨k, h⟩ => .inr ⟨k, ex_rd e h⟩
theorem ev_dget2 {d : Addr} {td ty tx : TE} {o : Option V} (hd : Ev td σ H (.ref d)) (i : IsD H d) (hy : Ev ty σ H y) (hx : Ev tx σ H x) (g : DGet H d y o) : Ev (tDGet2 td ty tx) σ H (o.getD x) :=
  fun H1 e1 Q q => hd H1 e1 _ fun H2 e2 => ⟨d, rfl, isd_ex i (e1.trans e2), hy H2 (e1.trans e2) _ fun H3 e3 => hx H3 (e1.trans (e2.trans e3)) _ fun H4 e4 => ⟨o, dget_ex g (e1.trans (e2.trans (e3.trans e4))), q H4 (e2.trans (e3.trans e4))⟩⟩
theorem er_cb {r : List V → Hp → VK → Prop} {tr : TA} {Ra : List V → Hp → Prop} {R : V → Hp → Prop} (ha : EvAR tr σ H Ra) (h : ∀ vs H1, Ex H H1 → Ra vs H1 → ∀ Q : VK, (∀ v H2, Ex H1 H2 → R v H2 → Q v H2) → r vs H1 Q) : EvR (tCB r tr) σ H R :=
  fun H1 e1 Q q => ha H1 e1 _ fun vs H2 e2 hv => h vs H2 (e1.trans e2) hv Q fun v H3 e3 hr => q v H3 (e2.trans e3) hr
end
/-! ### statements -/
def SS (t : TS) (D : Ends) (σ : L2.St) (H : Hp) : Prop := ∀ H1, Ex H H1 → t D σ H1
section
variable {K : PySem.W.Frag} {σ : L2.St} {H H' : Hp} {ta tb te tx : TE} {t : TT} {x y z v : V} {D : Ends} {tu tw tz : TS} {g : TG}
theorem SS.here (h : SS tz D σ H) : tz D σ H := h H (.refl _)
theorem SS.mono (h : SS tz D σ H) (e : Ex H H') : SS tz D σ H' := fun H1 e1 => h H1 (e.trans e1)
theorem ss_end (h : ∀ H1, Ex H H1 → D.nx σ H1) : SS tNext D σ H := h
theorem ss_asg {i : Nat} (h : Ev te σ H v) (k : SS tz D (σ.set i (some v)) H) : SS (tSeq (tAsg te (gName i)) tz) D σ H := fun H1 e1 => h H1 e1 _ fun H2 e2 => k H2 (e1.trans e2)
theorem ss_asgR {i : Nat} {R : V → Hp → Prop} (h : EvR te σ H R) (k : ∀ v H1, Ex H H1 → R v H1 → SS tz D (σ.set i (some v)) H1) : SS (tSeq (tAsg te (gName i)) tz) D σ H := fun H1 e1 => h H1 e1 _ fun v H2 e2 hr => k v H2 (e1.trans e2) hr H2 (.refl _)
theorem ss_ret (h : Ev te σ H v) (k : ∀ H1, Ex H H1 → D.rt v H1) : SS (tSeq (tRet te) tz) D σ H := fun H1 e1 => h H1 e1 _ fun H2 e2 => k H2 (e1.trans e2)
theorem ss_retR {R : V → Hp → Prop} (h : EvR te σ H R) (k : ∀ v H1, Ex H H1 → R v H1 → D.rt v H1) : SS (tSeq (tRet te) tz) D σ H := fun H1 e1 => h H1 e1 _ fun v H2 e2 hr => k v H2 (e1.trans e2) hr
theorem ss_if {b : Bool} (h : EvT t σ H b) (h1 : b = true → SS tu { D with nx := tz D } σ H) (h2 : b = false → SS tw { D with nx := tz D } σ H) : SS (tSeq (tIfS t tu tw) tz) D σ H := fun H1 e1 => h H1 e1 _ fun H2 e2 => by
  cases b with
  | true => exact h1 rfl H2 (e1.trans e2)
  | false => exact h2 rfl H2 (e1.trans e2)
/-- an if without else -/
theorem ss_when {b : Bool} (h : EvT t σ H b) (h1 : b = true → SS tu { D with nx := tz D } σ H) (h2 : b = false → SS tz D σ H) : SS (tSeq (tIfS t tu tNext) tz) D σ H := ss_if h h1 h2
theorem ss_drop (h : Ev te σ H v) (k : SS tz D σ H) : SS (tSeq (tDrop te) tz) D σ H := fun H1 e1 => h H1 e1 _ fun H2 e2 => k H2 (e1.trans e2)
theorem ss_dropR {R : V → Hp → Prop} (h : EvR te σ H R) (k : ∀ v H1, Ex H H1 → R v H1 → SS tz D σ H1) : SS (tSeq (tDrop te) tz) D σ H := fun H1 e1 => h H1 e1 _ fun v H2 e2 hr => k v H2 (e1.trans e2) hr H2 (.refl _)
theorem ss_aug {i : Nat} {r : R2} (hx : σ[i]? = some (some x)) (h : Ev te σ H y) (hr : RV r x y H z) (k : SS tz D (σ.set i (some z)) H) : SS (tSeq (tAug i te r) tz) D σ H :=
  fun H1 e1 => ⟨x, hx, h H1 e1 _ fun H2 e2 => hr H2 (e1.trans e2) _ fun H3 e3 => k H3 (e1.trans (e2.trans e3))⟩
/-- xs.append(e) -/
theorem ss_app {l : Addr} {xs : List V} (hl : H l = some (.lst xs)) (ha : Ev ta σ H (.ref l)) (h : Ev te σ H v) (hz : xs.length < 100000) (k : SS tz D σ (upd H l (.lst (xs ++ [v])))) :
    SS (tSeq (tDrop (tBM K "list" rAppend ta (tCons te tNil))) tz) D σ H := fun H1 e1 =>
  ha H1 e1 _ fun H2 e2 => ⟨.inl ⟨rfl, xs, .of ((e1.trans e2) _ _ hl)⟩, h H2 (e1.trans e2) _ fun H3 e3 => ⟨l, xs, v, rfl, rfl, (e1.trans (e2.trans e3)) _ _ hl, sz_lt hz, k _ (Ex.put (e1.trans (e2.trans e3)) _ _)⟩⟩
theorem ss_appR {l : Addr} {xs : List V} {R : V → Hp → Prop} (hl : H l = some (.lst xs)) (ha : Ev ta σ H (.ref l)) (h : EvR te σ H R) (hz : xs.length < 100000) (k : ∀ v H1, Ex H H1 → R v H1 → SS tz D σ (upd H1 l (.lst (xs ++ [v])))) :
    SS (tSeq (tDrop (tBM K "list" rAppend ta (tCons te tNil))) tz) D σ H := fun H1 e1 =>
  ha H1 e1 _ fun H2 e2 => ⟨.inl ⟨rfl, xs, .of ((e1.trans e2) _ _ hl)⟩, h H2 (e1.trans e2) _ fun v H3 e3 hr => ⟨l, xs, v, rfl, rfl, (e1.trans (e2.trans e3)) _ _ hl, sz_lt hz, k v H3 (e1.trans (e2.trans e3)) hr _ (.refl _)⟩⟩
/-- o.f = e -/
theorem ss_fld {a C dx : Addr} {fs : List (Str × V)} {f : Str} (hv : Ev te σ H v) (ha : Ev ta σ H (.ref a)) (hi : H a = some (.ins C dx fs)) (hc : Cls K C) (hn : NoAttr K C f) (hl : fs.length < 1000) (k : SS tz D σ (upd H a (.ins C dx (putF f v fs)))) :
    SS (tSeq (sFld K ta te f) tz) D σ H := fun H1 e1 => hv H1 e1 _ fun H2 e2 => ha H2 (e1.trans e2) _ fun H3 e3 => ⟨a, C, dx, fs, rfl, (e1.trans (e2.trans e3)) _ _ hi, hc, hn, hl, k _ (Ex.put (e1.trans (e2.trans e3)) _ _)⟩
theorem ss_fldR {a C dx : Addr} {fs : List (Str × V)} {f : Str} {R : V → Hp → Prop} (hv : EvR te σ H R) (ha : Ev ta σ H (.ref a)) (hi : H a = some (.ins C dx fs)) (hc : Cls K C) (hn : NoAttr K C f) (hl : fs.length < 1000) (hR : ∀ v H1 H2, R v H1 → Ex H1 H2 → R v H2) (k : ∀ v H1, Ex H H1 → R v H1 → SS tz D σ (upd H1 a (.ins C dx (putF f v fs)))) :
    SS (tSeq (sFld K ta te f) tz) D σ H := fun H1 e1 => hv H1 e1 _ fun v H2 e2 hr => ha H2 (e1.trans e2) _ fun H3 e3 => ⟨a, C, dx, fs, rfl, (e1.trans (e2.trans e3)) _ _ hi, hc, hn, hl, k v H3 (e1.trans (e2.trans e3)) (hR v H2 H3 hr e3) _ (.refl _)⟩
/-- d[k] = e -/
theorem ss_dput {d : Addr} {kvs : List (Key × V)} {kk : Key} {td ty tv : TE} (hv : Ev tv σ H v) (hd : Ev td σ H (.ref d)) (hy : Ev ty σ H (kV kk)) (h : H d = some (.dK kvs)) (hl : kvs.length < 100000) (k : SS tz D σ (upd H d (.dK (putK kvs kk v)))) : SS (tSeq (sDPut td ty tv) tz) D σ H :=
  fun H1 e1 => hv H1 e1 _ fun H2 e2 => hd H2 (e1.trans e2) _ fun H3 e3 => hy H3 (e1.trans (e2.trans e3)) _ fun H4 e4 => by
    have e := e1.trans (e2.trans (e3.trans e4))
    exact ⟨d, _, rfl, .k (k := kk) (e _ _ h) (sz_lt hl), k _ (Ex.put e _ _)⟩
/-- an if behind which the same follows with a slot set -/
theorem ss_never (h : False) : SS tz D σ H := h.elim
end
end RgK
set_option Elab.async false
set_option linter.all false
set_option maxRecDepth 100000
set_option maxHeartbeats 4000000
/-! The calculus, 2: loops and comprehensions. -/
namespace RgK
open PySem PySem.Spec PyProof.Rows L2 Evl
def EvI (wi : TI) (σ : L2.St) (H : Hp) (J : It) : Prop := ∀ H1, Ex H H1 → ∀ R : It → Hp → Prop, (∀ H2, Ex H1 H2 → R J H2) → wi σ H1 R
section
variable {K : PySem.W.Frag} {σ : L2.St} {H H' : Hp} {ta tb te tl : TE} {t : TT} {x y z v : V} {D : Ends} {tu tw tz : TS} {g : TG} {wi : TI}
theorem ss_forJ {J : It} (n : Nat) (hi : EvI wi σ H J) (Pv : Nat → L2.St → Hp → Prop) (h0 : ∀ H1, Ex H H1 → Pv 0 σ H1) (go : ∀ i σ' H', i < n → Pv i σ' H' → J.go i H') (stop : ∀ σ' H', Pv n σ' H' → J.stop n H')
    (hs : ∀ i σ' H', i < n → Pv i σ' H' → ∀ x H'', J.yld i H' x H'' → g x σ' H'' fun σ2 H2 => tu { D with nx := Pv (i + 1), ct := Pv (i + 1), bk := tz D } σ2 H2) (hd : ∀ σ' H', Pv n σ' H' → tz D σ' H') : SS (tSeq (tFor wi g tu) tz) D σ H :=
  fun H1 e1 => hi H1 e1 _ fun H2 e2 => owes_n (D := { D with nx := tz D }) n Pv (h0 H2 (e1.trans e2)) go stop (fun i x σ' H' H'' hlt p y => hs i σ' H' hlt p x H'' y) hd
theorem ei_str {s : Str} (h : Ev te σ H (.str s)) : EvI (iStr te) σ H (Its s) := fun H1 e1 R q => h H1 e1 _ fun H2 e2 => ⟨s, rfl, q H2 e2⟩
theorem ei_seq {k : Bool} {a : Addr} {xs : List V} (h : Ev te σ H (.ref a)) (hx : Sq K k H a xs) : EvI (iSeq K te) σ H (ItK K k a) := fun H1 e1 R q => h H1 e1 _ fun H2 e2 => ⟨k, a, xs, rfl, ex_s (e1.trans e2) hx, q H2 e2⟩
theorem ei_r1 {tr : TA} {n : Nat} (h : EvA tr σ H [.int (n : Int)]) (hn : n ≤ 100000) : EvI (iRng1 tr) σ H (Itr 0 n) := fun H1 e1 R q => h H1 e1 _ fun H2 e2 => ⟨(n : Int), rfl, by omega, by omega, q H2 e2⟩
theorem ei_zip {tr : TA} {k1 k2 : Bool} {a b : Addr} {xs ys : List V} (h : EvA tr σ H [.ref a, .ref b]) (hx : Sq K k1 H a xs) (hy : Sq K k2 H b ys) : EvI (iZipK K tr) σ H (ItZ K k1 k2 a b xs ys) := fun H1 e1 R q => h H1 e1 _ fun H2 e2 => ⟨k1, k2, a, b, xs, ys, rfl, ex_s (e1.trans e2) hx, ex_s (e1.trans e2) hy, q H2 e2⟩
theorem ei_enum {tr : TA} {k : Bool} {a : Addr} {xs : List V} (h : EvA tr σ H [.ref a]) (hx : Sq K k H a xs) : EvI (iEnumK K tr) σ H (ItE K k a xs) := fun H1 e1 R q => h H1 e1 _ fun H2 e2 => ⟨k, a, xs, rfl, ex_s (e1.trans e2) hx, q H2 e2⟩
/-- a text, sign by sign -/
theorem ss_forStr {s : Str} {j : Nat} (h : Ev te σ H (.str s)) (Pv : Nat → L2.St → Hp → Prop) (h0 : ∀ H1, Ex H H1 → Pv 0 σ H1)
    (hs : ∀ i c σ' H', s.cps[i]? = some c → Pv i σ' H' → SS tu { D with nx := Pv (i + 1), ct := Pv (i + 1), bk := tz D } (σ'.set j (some (.str ⟨#[c]⟩))) H') (hd : ∀ σ' H', Pv s.cps.size σ' H' → tz D σ' H') : SS (tSeq (tFor (iStr te) (gName j) tu) tz) D σ H :=
  ss_forJ s.cps.size (ei_str h) Pv h0 (fun i σ' H' hi _ => hi) (fun σ' H' _ => Nat.le_refl _) (fun i σ' H' hi p x H'' ⟨e, c, hc, ex⟩ => by
    subst e ex
    exact (hs i c σ' H'' hc p).here) hd
/-- a list or a tuple that stands still -/
theorem ss_forSq {k : Bool} {a : Addr} {xs : List V} {j : Nat} (h : Ev te σ H (.ref a)) (hx : Sq K k H a xs) (Pv : Nat → L2.St → Hp → Prop) (h0 : ∀ H1, Ex H H1 → Pv 0 σ H1) (hl : ∀ i σ' H', i ≤ xs.length → Pv i σ' H' → Sq K k H' a xs)
    (hs : ∀ i x σ' H', xs[i]? = some x → Pv i σ' H' → SS tu { D with nx := Pv (i + 1), ct := Pv (i + 1), bk := tz D } (σ'.set j (some x)) H') (hd : ∀ σ' H', Pv xs.length σ' H' → tz D σ' H') : SS (tSeq (tFor (iSeq K te) (gName j) tu) tz) D σ H := by
  exact fun H1 e1 => ei_seq (k := k) h hx H1 e1 (fun J H2 => Owes (gName j) tu { D with nx := tz D } J σ H2) fun H2 e2 => for_seq (D := { D with nx := tz D }) Pv (h0 H2 (e1.trans e2)) hl (fun i x σ' H' hi p => (hs i x σ' H' hi p).here) hd
/-- .. with a target of any kind -/
theorem ss_forSqG {k : Bool} {a : Addr} {xs : List V} (h : Ev te σ H (.ref a)) (hx : Sq K k H a xs) (Pv : Nat → L2.St → Hp → Prop) (h0 : ∀ H1, Ex H H1 → Pv 0 σ H1) (hl : ∀ i σ' H', i ≤ xs.length → Pv i σ' H' → Sq K k H' a xs)
    (hs : ∀ i x σ' H', xs[i]? = some x → Pv i σ' H' → g x σ' H' fun σ2 H2 => tu { D with nx := Pv (i + 1), ct := Pv (i + 1), bk := tz D } σ2 H2) (hd : ∀ σ' H', Pv xs.length σ' H' → tz D σ' H') : SS (tSeq (tFor (iSeq K te) g tu) tz) D σ H := by
  exact fun H1 e1 => ei_seq (k := k) h hx H1 e1 (fun J H2 => Owes g tu { D with nx := tz D } J σ H2) fun H2 e2 => for_seq (D := { D with nx := tz D }) Pv (h0 H2 (e1.trans e2)) hl (fun i x σ' H' hi p => hs i x σ' H' hi p) hd
theorem ss_forR {tr : TA} {n j : Nat} (h : EvA tr σ H [.int (n : Int)]) (hn : n ≤ 100000) (Pv : Nat → L2.St → Hp → Prop) (h0 : ∀ H1, Ex H H1 → Pv 0 σ H1)
    (hs : ∀ i σ' H', i < n → Pv i σ' H' → SS tu { D with nx := Pv (i + 1), ct := Pv (i + 1), bk := tz D } (σ'.set j (some (.int (i : Int)))) H') (hd : ∀ σ' H', Pv n σ' H' → tz D σ' H') : SS (tSeq (tFor (iRng1 tr) (gName j) tu) tz) D σ H :=
  ss_forJ n (ei_r1 h hn) Pv h0 (fun i σ' H' hi _ => hi) (fun σ' H' _ => Nat.le_refl _) (fun i σ' H' hi p x H'' ⟨e, ex⟩ => by
    subst e
    rw [Int.zero_add] at ex
    subst ex
    exact (hs i σ' H'' hi p).here) hd
/-- a pair target -/
theorem g_two {i j : Nat} {T : Addr} {a b : V} {Q : L2.St → Hp → Prop} (ht : H T = some (.tup [a, b])) (q : Q ((σ.set i (some a)).set j (some b)) H) : gTup K 2 (gCons (gName i) (gCons (gName j) gNil)) (.ref T) σ H Q :=
  ⟨T, [a, b], rfl, .of ht, rfl, a, [b], rfl, b, [], rfl, rfl, q⟩
theorem g_twoT {i j : Nat} {T : Addr} {a b : V} {Q : L2.St → Hp → Prop} (ht : SqT K H T [a, b]) (q : Q ((σ.set i (some a)).set j (some b)) H) : gTup K 2 (gCons (gName i) (gCons (gName j) gNil)) (.ref T) σ H Q :=
  ⟨T, [a, b], rfl, ht, rfl, a, [b], rfl, b, [], rfl, rfl, q⟩
theorem ss_forZip {tr : TA} {k1 k2 : Bool} {a b : Addr} {xs ys : List V} {i1 i2 : Nat} (h : EvA tr σ H [.ref a, .ref b]) (hx : Sq K k1 H a xs) (hy : Sq K k2 H b ys) (Pv : Nat → L2.St → Hp → Prop) (h0 : ∀ H1, Ex H H1 → Pv 0 σ H1)
    (hl : ∀ i σ' H', Pv i σ' H' → Sq K k1 H' a xs ∧ Sq K k2 H' b ys) (hP : ∀ i σ' H1 H2, Pv i σ' H1 → Ex H1 H2 → Pv i σ' H2)
    (hs : ∀ i x y σ' H', xs[i]? = some x → ys[i]? = some y → Pv i σ' H' → SS tu { D with nx := Pv (i + 1), ct := Pv (i + 1), bk := tz D } ((σ'.set i1 (some x)).set i2 (some y)) H') (hd : ∀ σ' H', Pv (min xs.length ys.length) σ' H' → tz D σ' H') :
    SS (tSeq (tFor (iZipK K tr) (gTup K 2 (gCons (gName i1) (gCons (gName i2) gNil))) tu) tz) D σ H :=
  ss_forJ (min xs.length ys.length) (ei_zip h hx hy) Pv h0 (fun i σ' H' hi p => ⟨(hl i σ' H' p).1, (hl i σ' H' p).2, by omega, by omega⟩) (fun σ' H' p => ⟨(hl _ σ' H' p).1, (hl _ σ' H' p).2, Nat.le_refl _⟩)
    (fun i σ' H' hi p v H'' ⟨T, x, y, e, hT, e2, hx, hy⟩ => by
      subst e e2
      exact g_two upd_same (hs i x y σ' _ hx hy (hP i σ' H' _ p (.new hT))).here) hd
theorem ss_forEnum {tr : TA} {k : Bool} {a : Addr} {xs : List V} {i1 i2 : Nat} (h : EvA tr σ H [.ref a]) (hx : Sq K k H a xs) (Pv : Nat → L2.St → Hp → Prop) (h0 : ∀ H1, Ex H H1 → Pv 0 σ H1)
    (hl : ∀ i σ' H', Pv i σ' H' → Sq K k H' a xs) (hP : ∀ i σ' H1 H2, Pv i σ' H1 → Ex H1 H2 → Pv i σ' H2)
    (hs : ∀ i x σ' H', xs[i]? = some x → Pv i σ' H' → SS tu { D with nx := Pv (i + 1), ct := Pv (i + 1), bk := tz D } ((σ'.set i1 (some (.int (i : Int)))).set i2 (some x)) H') (hd : ∀ σ' H', Pv xs.length σ' H' → tz D σ' H') :
    SS (tSeq (tFor (iEnumK K tr) (gTup K 2 (gCons (gName i1) (gCons (gName i2) gNil))) tu) tz) D σ H :=
  ss_forJ xs.length (ei_enum h hx) Pv h0 (fun i σ' H' hi p => ⟨hl i σ' H' p, hi⟩) (fun σ' H' p => ⟨hl _ σ' H' p, Nat.le_refl _⟩)
    (fun i σ' H' hi p v H'' ⟨T, x, e, hT, e2, hx⟩ => by
      subst e e2
      exact g_two upd_same (hs i x σ' _ hx (hP i σ' H' _ p (.new hT))).here) hd
/-- a dict's pairs, the dict locked meanwhile -/
theorem ei_items {d : Addr} {o : Obj} {kvs : List (Key × V)} (h : Ev te σ H (.ref d)) (hx : H d = some (.frz o (.dK kvs))) : EvI (iItems te) σ H (Iti d o kvs) := fun H1 e1 R q => h H1 e1 _ fun H2 e2 => ⟨d, o, kvs, rfl, (e1.trans e2) _ _ hx, q H2 e2⟩
theorem ss_forItems {d : Addr} {o : Obj} {kvs : List (Key × V)} {i1 i2 : Nat} (h : Ev te σ H (.ref d)) (hx : H d = some (.frz o (.dK kvs))) (Pv : Nat → L2.St → Hp → Prop) (h0 : ∀ H1, Ex H H1 → Pv 0 σ H1)
    (hl : ∀ i σ' H', Pv i σ' H' → H' d = some (.frz o (.dK kvs))) (hP : ∀ i σ' H1 H2, Pv i σ' H1 → Ex H1 H2 → Pv i σ' H2)
    (hs : ∀ i k x σ' H', kvs[i]? = some (k, x) → Pv i σ' H' → SS tu { D with nx := Pv (i + 1), ct := Pv (i + 1), bk := tz D } ((σ'.set i1 (some (kV k))).set i2 (some x)) H') (hd : ∀ σ' H', Pv kvs.length σ' H' → tz D σ' H') :
    SS (tSeq (tFor (iItems te) (gTup K 2 (gCons (gName i1) (gCons (gName i2) gNil))) tu) tz) D σ H :=
  ss_forJ kvs.length (ei_items h hx) Pv h0 (fun i σ' H' hi p => ⟨hl i σ' H' p, hi⟩) (fun σ' H' p => ⟨hl _ σ' H' p, Nat.le_refl _⟩)
    (fun i σ' H' hi p v H'' ⟨T, k, x, hx, e, hT, e2⟩ => by
      subst e e2
      exact g_two upd_same (hs i k x σ' _ hx (hP i σ' H' _ p (.new hT))).here) hd
/-- the whole loop under a lock: the dict at d, its state behind it as ahead -/
theorem ss_lock {tb : TS} {d : Addr} {kvs : List (Key × V)} (hd : H d = some (.dK kvs))
    (h : ∀ od, SS (tSeq tb (fun _ σ' H' => H' d = some (.frz od (.dK kvs)) ∧ tz D σ' (upd H' d (.dK kvs)))) { nx := fun _ _ => False, rt := fun v H' => H' d = some (.frz od (.dK kvs)) ∧ D.rt v (upd H' d (.dK kvs)), bk := fun σ' H' => H' d = some (.frz od (.dK kvs)) ∧ D.bk σ' (upd H' d (.dK kvs)), ct := fun σ' H' => H' d = some (.frz od (.dK kvs)) ∧ D.ct σ' (upd H' d (.dK kvs)) } σ (upd H d (.frz od (.dK kvs)))) : SS (tSeq (tLock tb) tz) D σ H :=
  fun H1 e1 => ⟨d, .dK kvs, e1 _ _ hd, trivial, fun od => h od _ (Ex.put e1 _ _)⟩
/-! ### comprehensions -/
/-- the heap without the list under way -/
def wo (p : Addr) (H : Hp) : Hp := fun a => if a = p then none else H a
theorem wo_same {p : Addr} : wo p H p = none := if_pos rfl
theorem wo_ne {p a : Addr} (h : a ≠ p) : wo p H a = H a := if_neg h
theorem wo_ex {p : Addr} : Ex (wo p H) H := fun a o e => by
  by_cases h : a = p
  · rw [h, wo_same] at e; cases e
  · rw [wo_ne h] at e; exact e
theorem wo_upd {p : Addr} {o : HO} : wo p (upd H p o) = wo p H := by
  funext a
  by_cases h : a = p
  · rw [h, wo_same, wo_same]
  · rw [wo_ne h, wo_ne h, upd_ne h]
theorem wo_mono {p : Addr} (e : Ex H H') : Ex (wo p H) (wo p H') := fun a o h => by
  by_cases z : a = p
  · rw [z, wo_same] at h; cases h
  · rw [wo_ne z] at h ⊢; exact e a o h
theorem wo_base {p : Addr} (e : Ex H H') (h : H p = none) : Ex H (wo p H') := fun a o q => by
  rw [wo_ne (fun z => by rw [z, h] at q; cases q)]
  exact e a o q
end
/-! ### a list hidden while an expression is evaluated -/
def tHide (te : TE) : TE := fun σ H Q => ∃ p acc, H p = some (.lst acc) ∧ te σ (wo p H) fun v H2 => H2 p = none → Q v (upd H2 p (.lst acc))
section
variable {X : Cx}
theorem pe_hide {e : Expr} {te : TE} (he : PE X e te) : PE X e (tHide te) := by
  refine ⟨fun pins s σ H Q I ⟨p, acc, hp, q⟩ => ?_⟩
  obtain ⟨hz, its, n, rv, ho⟩ := I.hok p _ hp
  have nL : p ≠ X.env.locals := ne_of_none hp I.free
  have nF : p ∉ X.fs := fun z => by
    have := I.stkFree p (by
      rcases I.ok.stk with e | ⟨e, _⟩
      · rw [e]; exact z
      · rw [e]
        show p ∈ frs (X.env :: X.outer)
        unfold frs
        rw [List.filterMap_cons]
        split
        · exact z
        · exact List.mem_cons_of_mem _ z)
    rw [hp] at this
    cases this
  have nt : ∀ b o, H b = some o → (∀ xs, o ≠ .lst xs) → wo p H b = some o := fun b o e d => by
    have hb : b ≠ p := fun z => by rw [z, hp] at e; cases e; exact d _ rfl
    rw [wo_ne hb]
    exact e
  have nn : ∀ b, H b = none → wo p H b = none := fun b e => by
    by_cases z : b = p
    · rw [z, wo_same]
    · rw [wo_ne z]; exact e
  have I1 : Inv X ((p, ⟨.type "list", none, .seq its.toArray n, #[]⟩) :: pins) σ (wo p H) s := by
    refine ⟨I.ok, I.os, I.bare, ⟨I.base.keep, I.base.slot, fun b o h1 h2 h3 => nn b (I.base.free b o h1 h2 h3), I.base.there, fun b xs e => nt b _ (I.base.tups b xs e) (fun _ z => nomatch z), fun b o u e => nt b _ (I.base.frzs b o u e) (fun _ z => nomatch z), fun b ps e => ?_⟩, I.loc, I.cell, nn _ I.free, fun x c e => nn _ (I.freeC x c e), fun a ha => ?_, fun a o e => ?_, I.len⟩
    · obtain ⟨more, e2⟩ := I.base.tbls b ps e
      exact ⟨more, nt b _ e2 (fun _ z => nomatch z)⟩
    · have ha' : a = (p, ⟨.type "list", none, .seq its.toArray n, #[]⟩) ∨ a ∈ X.pn ++ pins := by
        rcases List.mem_append.mp ha with z | z
        · exact .inr (List.mem_append_left _ z)
        · rcases List.mem_cons.mp z with z | z
          · exact .inl z
          · exact .inr (List.mem_append_right _ z)
      rcases ha' with e | ha'
      · subst e
        exact ⟨ho, wo_same, nL, nF, fun v z => nomatch z⟩
      · obtain ⟨h1, h2, h3, h4, h5⟩ := I.pin a ha'
        exact ⟨h1, nn _ h2, h3, h4, h5⟩
    · have hb : a ≠ p := fun z => by rw [z, wo_same] at e; cases e
      rw [wo_ne hb] at e
      exact (I.hok a o e).stay (fun b u _ h => h) (fun b e2 => nt b _ e2 (fun _ z => nomatch z)) (fun b xs e2 => nt b _ e2 (fun _ z => nomatch z))
  refine thn (he.run _ s σ _ _ I1 q) fun u s2 ⟨v, H2, I2, r, q2⟩ => ?_
  obtain ⟨h1, h2, _, _, _⟩ := I2.pin (p, ⟨.type "list", none, .seq its.toArray n, #[]⟩) (List.mem_append_right _ List.mem_cons_self)
  refine ⟨v, upd H2 p (.lst acc), ?_, r, q2 h2⟩
  have un : ∀ b o, H2 b = some o → upd H2 p (.lst acc) b = some o := fun b o e => by
    have h2 : H2 p = none := h2
    rw [upd_ne (ne_of_none e h2)]
    exact e
  refine ⟨I2.ok, I2.os, I2.bare, ⟨I2.base.keep, I2.base.slot, fun b o g1 g2 g3 => ?_, I2.base.there, fun b xs e => un b _ (I2.base.tups b xs e), fun b o u e => un b _ (I2.base.frzs b o u e), fun b ps e => ?_⟩, I2.loc, I2.cell, ?_, fun x c e => ?_, fun a ha => ?_, fun a o e => ?_, I2.len⟩
  · have := I.base.free b o g1 g2 g3
    rw [upd_ne (fun z => by rw [z, hp] at this; cases this)]
    exact I2.base.free b o g1 g2 g3
  · obtain ⟨more, e2⟩ := I2.base.tbls b ps e
    exact ⟨more, un b _ e2⟩
  · rw [upd_ne (Ne.symm nL)]
    exact I2.free
  · have := I.freeC x c e
    rw [upd_ne (fun z => by rw [z, hp] at this; cases this)]
    exact I2.freeC x c e
  · have ha2 : a ∈ X.pn ++ ((p, ⟨.type "list", none, .seq its.toArray n, #[]⟩) :: pins) := by
      rcases List.mem_append.mp ha with z | z
      · exact List.mem_append_left _ z
      · exact List.mem_append_right _ (List.mem_cons_of_mem _ z)
    obtain ⟨g1, g2, g3, g4, g5⟩ := I2.pin a ha2
    have := (I.pin a ha).2.1
    exact ⟨g1, by rw [upd_ne (fun z => by rw [z, hp] at this; cases this)]; exact g2, g3, g4, g5⟩
  · by_cases hb : a = p
    · subst hb
      rw [upd_same] at e
      cases e
      exact ⟨hz, its, n, rv, h1⟩
    · rw [upd_ne hb] at e
      exact (I2.hok a o e).stay (fun b u _ h => h) (fun b e2 => un b _ e2) (fun b xs e2 => un b _ e2)
end
section
variable {K : PySem.W.Frag} {σ : L2.St} {H H' : Hp} {ta tb te tl : TE} {t : TT} {x y z v : V} {g : TG} {wi : TI}
/-- the turns of a comprehension; Pv: by the turn, what has been made, the heap without the new list -/
theorem er_lcJ {J : It} (n : Nat) {vs : List Nat} {R : V → Hp → Prop} (hi : EvI wi σ H J) (hn : n ≤ 50000) (Pv : Nat → List V → Hp → Prop) (hP : ∀ i acc H1 H2, Pv i acc H1 → Ex H1 H2 → Pv i acc H2) (h0 : Pv 0 [] H)
    (go : ∀ i H', i < n → Ex H H' → J.go i H') (stop : ∀ H', Ex H H' → J.stop n H')
    (hs : ∀ i acc F, i < n → Ex H F → Pv i acc F → ∀ x H1 H2, Ex F H1 → J.yld i H1 x H2 → ∃ σ2 b, (∀ Q : L2.St → Hp → Prop, Q σ2 H2 → g x (wipe σ vs) H2 Q) ∧ Ex H1 H2 ∧ wipe σ2 vs = wipe σ vs ∧ EvT t σ2 F b ∧ (b = false → Pv (i + 1) acc F) ∧
      (b = true → ∃ Rv : V → Hp → Prop, EvR te σ2 F Rv ∧ ∀ y F2, Ex F F2 → Rv y F2 → Pv (i + 1) (acc ++ [y]) F2))
    (hd : ∀ p acc H', H p = none → Ex H H' → H' p = some (.lst acc) → Pv n acc H' → R (.ref p) H') : EvR (tLc wi g t (tHide te) vs) σ H R := by
  intro H1 e1 Q q
  refine hi H1 e1 _ fun H2 e2 p hp => ?_
  have e12 := e1.trans e2
  have hpH : H p = none := fresh_back e12 hp
  refine ⟨fun i m H' => i ≤ n ∧ m = n - i ∧ ∃ acc, H' p = some (.lst acc) ∧ acc.length ≤ i ∧ Ex H2 (wo p H') ∧ Pv i acc (wo p H'), ⟨n, Nat.zero_le _, rfl, [], upd_same, Nat.le_refl _, ?_, ?_⟩, ?_⟩
  · rw [wo_upd]; exact wo_base (.refl _) hp
  · rw [wo_upd]; exact hP _ _ _ _ h0 (e12.trans (wo_base (.refl _) hp))
  · rintro i m H' ⟨hi', rfl, acc, hacc, hl, eF, pv⟩
    have eH : Ex H (wo p H') := e12.trans eF
    by_cases hlt : i < n
    · refine .inr ⟨go i H' hlt (eH.trans wo_ex), fun H'' => ∃ acc', H'' p = some (.lst acc') ∧ acc'.length ≤ i + 1 ∧ Ex H2 (wo p H'') ∧ Pv (i + 1) acc' (wo p H''), fun H'' ⟨acc', a1, a2, a3, a4⟩ => ⟨n - (i + 1), by omega, hlt, rfl, acc', a1, a2, a3, a4⟩, fun x H'' hy => ?_⟩
      obtain ⟨σ2, b, hg, eY, hw, hT, hF, hE⟩ := hs i acc (wo p H') hlt eH pv x H' H'' wo_ex hy
      refine hg _ ⟨hw, hT H'' (wo_ex.trans eY) _ fun H3 e3 => ?_⟩
      have hp3 : H3 p = some (.lst acc) := e3 _ _ (eY _ _ hacc)
      have eF3 : Ex (wo p H') (wo p H3) := wo_mono (eY.trans e3)
      cases b with
      | false =>
        rw [if_neg (by decide)]
        exact ⟨acc, hp3, by omega, eF.trans eF3, hP _ _ _ _ (hF rfl) eF3⟩
      | true =>
        rw [if_pos rfl]
        obtain ⟨Rv, hR, hP2⟩ := hE rfl
        refine ⟨p, acc, hp3, hR (wo p H3) eF3 _ fun y H4 e4 hy4 hn4 => ⟨acc, upd_same, sz_lt (by omega), acc ++ [y], upd_same, by rw [List.length_append]; simp; omega, ?_, ?_⟩⟩
        · rw [wo_upd, wo_upd]
          exact (eF.trans (eF3.trans e4)).trans (wo_base (.refl _) hn4)
        · rw [wo_upd, wo_upd]
          exact hP _ _ _ _ (hP2 y H4 (eF3.trans e4) hy4) (wo_base (.refl _) hn4)
    · obtain rfl : i = n := by omega
      refine .inl ⟨stop H' (eH.trans wo_ex), q _ _ (eF.trans wo_ex |> e2.trans) (hd p acc H' hpH (eH.trans wo_ex) hacc (hP _ _ _ _ pv wo_ex))⟩
/-- over a list or a tuple, the target a name -/
theorem er_lcSq {k : Bool} {a : Addr} {xs : List V} {j : Nat} {vs : List Nat} {R : V → Hp → Prop} (h : Ev tl σ H (.ref a)) (hx : Sq K k H a xs) (hn : xs.length ≤ 50000) (hw : ∀ x, wipe ((wipe σ vs).set j (some x)) vs = wipe σ vs)
    (Pv : Nat → List V → Hp → Prop) (hP : ∀ i acc H1 H2, Pv i acc H1 → Ex H1 H2 → Pv i acc H2) (h0 : Pv 0 [] H)
    (hs : ∀ i acc F x, xs[i]? = some x → Ex H F → Pv i acc F → ∃ b, EvT t ((wipe σ vs).set j (some x)) F b ∧ (b = false → Pv (i + 1) acc F) ∧
      (b = true → ∃ Rv : V → Hp → Prop, EvR te ((wipe σ vs).set j (some x)) F Rv ∧ ∀ y F2, Ex F F2 → Rv y F2 → Pv (i + 1) (acc ++ [y]) F2))
    (hd : ∀ p acc H', H p = none → Ex H H' → H' p = some (.lst acc) → Pv xs.length acc H' → R (.ref p) H') : EvR (tLc (iSeq K tl) (gName j) t (tHide te) vs) σ H R := by
  have go : ∀ i H', i < xs.length → Ex H H' → (ItK K k a).go i H' := fun i H' hi e => by
    have hx' := ex_s e hx
    cases k with
    | true => exact ⟨xs, xs[i], hx', List.getElem?_eq_getElem hi⟩
    | false => exact ⟨xs, xs[i], hx', List.getElem?_eq_getElem hi⟩
  have stop : ∀ H', Ex H H' → (ItK K k a).stop xs.length H' := fun H' e => by
    have hx' := ex_s e hx
    cases k with
    | true => exact ⟨xs, hx', Nat.le_refl _⟩
    | false => exact ⟨xs, hx', Nat.le_refl _⟩
  refine er_lcJ xs.length (ei_seq (k := k) h hx) hn Pv hP h0 go stop (fun i acc F hi eF pv x H1 H2 e1 hy => ?_) hd
  have hx' : xs[i]? = some x ∧ H2 = H1 := by
    have hx' := ex_s (eF.trans e1) hx
    cases k with
    | true => exact ⟨hy.2 xs hx', hy.1⟩
    | false => exact ⟨hy.2 xs hx', hy.1⟩
  obtain ⟨hx1, rfl⟩ := hx'
  obtain ⟨b, hb⟩ := hs i acc F x hx1 eF pv
  exact ⟨_, b, fun Q q => q, .refl _, hw x, hb⟩
/-- over a range -/
theorem er_lcR {tr : TA} {n j : Nat} {vs : List Nat} {R : V → Hp → Prop} (h : EvA tr σ H [.int (n : Int)]) (hn : n ≤ 50000) (hw : ∀ x, wipe ((wipe σ vs).set j (some x)) vs = wipe σ vs)
    (Pv : Nat → List V → Hp → Prop) (hP : ∀ i acc H1 H2, Pv i acc H1 → Ex H1 H2 → Pv i acc H2) (h0 : Pv 0 [] H)
    (hs : ∀ i acc F, i < n → Ex H F → Pv i acc F → ∃ b, EvT t ((wipe σ vs).set j (some (.int (i : Int)))) F b ∧ (b = false → Pv (i + 1) acc F) ∧
      (b = true → ∃ Rv : V → Hp → Prop, EvR te ((wipe σ vs).set j (some (.int (i : Int)))) F Rv ∧ ∀ y F2, Ex F F2 → Rv y F2 → Pv (i + 1) (acc ++ [y]) F2))
    (hd : ∀ p acc H', H p = none → Ex H H' → H' p = some (.lst acc) → Pv n acc H' → R (.ref p) H') : EvR (tLc (iRng1 tr) (gName j) t (tHide te) vs) σ H R := by
  refine er_lcJ n (ei_r1 h (by omega)) hn Pv hP h0 (fun i H' hi _ => hi) (fun H' _ => Nat.le_refl _) (fun i acc F hi eF pv x H1 H2 e1 ⟨e, ex⟩ => ?_) hd
  subst e
  rw [Int.zero_add] at ex
  subst ex
  obtain ⟨b, hb⟩ := hs i acc F hi eF pv
  exact ⟨_, b, fun Q q => q, .refl _, hw _, hb⟩
/-- .. of values that don't lean on the heap, no test -/
theorem er_lcV {k : Bool} {a : Addr} {xs : List V} {j : Nat} {vs : List Nat} (f : Nat → V → V) (h : Ev tl σ H (.ref a)) (hx : Sq K k H a xs) (hn : xs.length ≤ 50000) (hw : ∀ x, wipe ((wipe σ vs).set j (some x)) vs = wipe σ vs)
    (hs : ∀ i x, xs[i]? = some x → Ev te ((wipe σ vs).set j (some x)) H (f i x)) : EvR (tLc (iSeq K tl) (gName j) tYes (tHide te) vs) σ H (NewL H (xs.mapIdx f)) := by
  refine er_lcSq (k := k) h hx hn hw (fun i acc _ => acc = (xs.mapIdx f).take i) (fun _ _ _ _ p _ => p) (by simp) (fun i acc F x hi eF p => ⟨true, fun H1 _ Q q => q H1 (.refl _), (fun z => nomatch z), fun _ => ⟨_, EvR.mono (ev_rel (hs i x hi)) eF, fun y F2 _ e => ?_⟩⟩) fun p acc H' h1 h2 h3 e => ⟨p, rfl, h1, ?_⟩
  · rw [List.take_add_one, List.getElem?_mapIdx, hi, p, e]
    rfl
  · rw [h3, e, List.take_of_length_le (by simp)]
theorem er_lcRV {tr : TA} {n j : Nat} {vs : List Nat} (f : Nat → V) (h : EvA tr σ H [.int (n : Int)]) (hn : n ≤ 50000) (hw : ∀ x, wipe ((wipe σ vs).set j (some x)) vs = wipe σ vs)
    (hs : ∀ i, i < n → Ev te ((wipe σ vs).set j (some (.int (i : Int)))) H (f i)) : EvR (tLc (iRng1 tr) (gName j) tYes (tHide te) vs) σ H (NewL H ((List.range n).map f)) := by
  refine er_lcR h hn hw (fun i acc _ => acc = ((List.range n).map f).take i) (fun _ _ _ _ p _ => p) (by simp) (fun i acc F hi eF p => ⟨true, fun H1 _ Q q => q H1 (.refl _), (fun z => nomatch z), fun _ => ⟨_, EvR.mono (ev_rel (hs i hi)) eF, fun y F2 _ e => ?_⟩⟩) fun p acc H' h1 h2 h3 e => ⟨p, rfl, h1, ?_⟩
  · rw [List.take_add_one, List.getElem?_map, List.getElem?_range hi, p, e]
    rfl
  · rw [h3, e, List.take_of_length_le (by simp)]
end
end RgK
set_option Elab.async false
set_option linter.all false
set_option maxRecDepth 100000
set_option maxHeartbeats 4000000
/-! Rules that the layer lacks, 4: set(tuple of texts), len of it. -/
namespace RgK
open PySem PySem.Spec PyProof.Rows L2
/-- the first i texts of a list -/
def memI (ks : List Str) (i : Nat) : Key → Bool
  | .inr x => decide (x ∈ ks.take i)
  | .inl _ => false
section
variable {prog : Program} {w : World} {A : Around} {R : Result → Shared → Prop} {I : Addr} {fp wr : List Addr} {G : Array GenState → Array GenState → Prop} {P : Nat → Value → Prop} {St : Nat → Shared → Prop}
theorem setOf_same {h : Heap} {a : Addr} {S S' : Key → Bool} {n n' : Nat} (hS : h.SetOf (mixKind prog w) a S n) (e : ∀ k, S k = S' k) (en : n = n') : h.SetOf (mixKind prog w) a S' n' := by
  have : S = S' := funext e
  subst this; subst en; exact hS
theorem set_loop_texts {ks : List Str} (W : WalksS prog w A.in1 I fp wr G ks.length P St) (S : Addr) (hSf : S ∉ fp) (hval : ∀ i v, P i v → ∃ k t, ks[i]? = some k ∧ v = .str k t) (nd : ks.Nodup) (hb : ks.length + 1 < scanBound) :
    ∀ (k i : Nat) (s : Shared), ks.length - i = k → i ≤ ks.length → St i s → s.heap.SetOf (mixKind prog w) S (memI ks i) i →
      (∀ s', Moved (S :: wr) G s s' → s'.heap.SetOf (mixKind prog w) S (memI ks ks.length) ks.length → R (.ok (.ret .none)) s') →
      codeAny (model prog w) A (.builtin "set.update.loop" ⟨[.ref S, .ref I], []⟩) R s := by
  have hSw : S ∉ wr := fun h => hSf (W.sub _ h)
  have hsub : ∀ b ∈ wr, b ∈ S :: wr := fun b hb => List.mem_cons_of_mem _ hb
  intro k
  induction k with
  | zero =>
    intro i s hk hi hst hS hR
    have hin : i = ks.length := by omega
    subst hin
    refine codeAny_builtin F.entry_set_update_loop ?_
    rw [Around.under_plainId F.plain_set_update_loop _]
    show wpAny _ A.in1 (pyNext (.ref I) >>= _) _ _ s
    refine wpAny_bind (W.done s _ _ hst fun s' hm => ?_)
    show wpAny _ A.in1 (ret Value.none) _ _ s'
    exact wpAny_pure (hR s' (hm.mono hsub) (by
      obtain ⟨o, es, ep, t, ho, rest⟩ := hS
      exact ⟨o, es, ep, t, hm.heap S _ hSw ho, rest⟩))
  | succ k ih =>
    intro i s hk hi hst hS hR
    have hlt : i < ks.length := by omega
    refine codeAny_builtin F.entry_set_update_loop ?_
    rw [Around.under_plainId F.plain_set_update_loop _]
    show wpAny _ A.in1 (pyNext (.ref I) >>= _) _ _ s
    refine wpAny_bind (W.item i s _ _ hlt hst fun v s' hP hst' hm => ?_)
    obtain ⟨x, t, hx, rfl⟩ := hval i v hP
    have hS' : s'.heap.SetOf (mixKind prog w) S (memI ks i) i := by
      obtain ⟨o, es, ep, tb, ho, rest⟩ := hS
      exact ⟨o, es, ep, tb, hm.heap S _ hSw ho, rest⟩
    show wpAny _ A.in1 (holding [Value.str x t] (setAdd S (.str x t)) >>= _) _ _ s'
    refine wpAny_bind (wpAny_holding ?_)
    unfold setAdd
    refine wpAny_holding ?_
    refine wpAny_bind ((mixKind prog w).pyHash (k := .inr x) (mixKind_str prog w x t) ?_)
    refine wpAny_setAddHashed_of (knd := mixKind prog w) (s := { s' with toks := s'.toks + 1 }) (mixKind_str prog w x t) rfl hS' (by omega) fun h' hsb hS2 => ?_
    have hnew : memI ks i (.inr x) = false := by
      show decide (x ∈ ks.take i) = false
      rw [decide_eq_false_iff_not]
      intro hy
      obtain ⟨j, hj⟩ := List.mem_iff_getElem?.mp hy
      rw [List.getElem?_take] at hj
      split at hj
      · rename_i hji
        exact absurd (nodup_ix nd hj hx) (by omega)
      · cases hj
    have hSi : h'.SetOf (mixKind prog w) S (memI ks (i + 1)) (i + 1) :=
      setOf_same hS2 (fun k' => by
        have e : ks.take (i + 1) = ks.take i ++ [x] := by
          rw [List.take_add_one, hx]
          rfl
        cases k' with
        | inl n => simp [memI]
        | inr y =>
          show (decide (y ∈ ks.take i) || decide (Sum.inr y = Sum.inr x)) = decide (y ∈ ks.take (i + 1))
          rw [e, Bool.eq_iff_iff]
          simp) (by rw [hnew]; rfl)
    refine wpAny_pure ⟨plainId_quiet F.plain_set_update_loop _, ih (i + 1) _ (by omega) hlt (W.frame _ s' _ _ hst' (Nat.le_succ _) fun b hb o e => ?_) hSi fun s'' hm'' hS'' => ?_⟩
    · rw [hsb.2 b (fun h : b = S => hSf (by rw [← h]; exact hb))]; exact e
    · refine hR s'' (Moved.trans W.gtrans ((hm.mono hsub).then_heap (Nat.le_succ _) fun b o hb e => ?_) hm'') hS''
      rw [hsb.2 b (fun h : b = S => hb (by rw [h]; exact List.mem_cons_self))]; exact e
end
section
variable {prog : Program} {w : World} {A : Around} {E : Value → Shared → Prop} {s : Shared}
set_option maxHeartbeats 6400000 in
theorem call_set_texts {l : Addr} {its : List Value} {ks : List Str} {Q : Value → Shared → Prop}
    (hh : A.handled = none) (hl : s.heap.IsTuple l its.toArray) (hi : Vals (ks.map V.str) its) (nd : ks.Nodup) (hb : ks.length + 1 < scanBound)
    (h : ∀ (h' : Heap) (tk : Nat), h'.SetOf (mixKind prog w) s.heap.objs.size (memI ks ks.length) ks.length →
      (∀ b o, b < s.heap.objs.size → s.heap.get? b = some o → h'.get? b = some o) → Q (.ref s.heap.objs.size) { s with heap := h', toks := tk }) :
    wpAny (model prog w) A (call (.type "set") [.ref l]) Q E s := by
  have hlen : its.toArray.size = ks.length := by rw [List.size_toArray, ← hi.length, List.length_map]
  obtain ⟨c, tl, hmro⟩ := F.called_set.mro
  have hmade := F.called_set.made
  have hsub := F.called_set.sub
  refine wpAny_call (codeAny_of_tree ?_)
  show wpAny _ _ (callAny (.type "set") _) _ _ _
  refine wpAny_pure ⟨Code.quiet_builtin _ (by decide +kernel), codeAny_builtin F.entry_type_call ?_⟩
  rw [Around.under_plain (weight_type_call_type "set" [.ref l] []) rfl]
  have h1 := F.called_set.notType
  have h2 := F.called_set.canCreate
  have hct := F.typeCall_set_1 (.ref l)
  repeat (any_goals (first | assumption | wp_step))
  refine codeAny_mono (code_set_new_1 (.ref l) (E := E) (Q₁ := fun obj s₁ => ∃ led : Bool, obj = .ref s.heap.objs.size ∧ s₁ = { s with heap := s.heap.push { cls := .type "set", dict := none, data := .set #[] 0 (.fresh 0 0 led) } }) fun led => ⟨led, rfl, rfl⟩) fun r s₁ hr => ?_
  cases r with
  | error e => exact hr
  | ok fl =>
    cases fl with
    | ret obj =>
      obtain ⟨led, rfl, rfl⟩ := hr
      have hS : (s.heap.push { cls := .type "set", dict := none, data := .set #[] 0 (.fresh 0 0 led) }).get? s.heap.objs.size = some { cls := .type "set", dict := none, data := .set #[] 0 (.fresh 0 0 led) } := Heap.get?_push_size _ rfl
      have hT : Shared.TypeIs { s with heap := s.heap.push { cls := .type "set", dict := none, data := .set #[] 0 (.fresh 0 0 led) } } (.ref s.heap.objs.size) "set" := ⟨_, hS, rfl⟩
      have hli := F.called_set.init.lookup
      have hbi := F.called_set.init.bind (.ref s.heap.objs.size)
      repeat (any_goals (first | assumption | wp_step))
      refine codeAny_mono (codeAny_call_builtin (R := wants (fun r s₂ => r = .none ∧ ∃ h' tk, s₂ = { s with heap := h', toks := tk } ∧
          h'.SetOf (mixKind prog w) s.heap.objs.size (memI ks ks.length) ks.length ∧
          (∀ b o, b < s.heap.objs.size → s.heap.get? b = some o → h'.get? b = some o)) E) F.called_set.init.plain F.entry_set_init (check_set_init_1 hT ?_)) fun r₂ s₂ hr₂ => ?_
      · obtain ⟨ol, hol, hcl, nl, hdl⟩ := hl
        obtain ⟨ocls, odict, odata, oslots⟩ := ol
        simp only at hcl hdl
        subst hcl; subst hdl
        have hol' : (s.heap.push { cls := .type "set", dict := none, data := .set #[] 0 (.fresh 0 0 led) }).get? l = some { cls := .type "tuple", dict := odict, data := .seq its.toArray nl, slots := oslots } := Heap.get?_push_of_some _ hol
        have hsls := F.sub_tuple_set
        have hslf := F.sub_tuple_frozenset
        have hne : (Value.type "tuple" == Value.type "dict") = false := by decide
        have hl1 : (s.heap.push { cls := .type "set", dict := none, data := .set #[] 0 (.fresh 0 0 led) }).IsTuple l its.toArray := ⟨_, hol', rfl, nl, rfl⟩
        unfold Builtin.«set.__init__» noKeywords Builtin.Frozenset.updateFrom
        generalize hPI : pyIter = PI
        wp_walk
        subst hPI
        refine wpAny_pyIter_tuple hl1 ?_
        refine wpAny_bind (wpAny_runValue ?_)
        have hlS : l < s.heap.objs.size := Heap.lt_size hol
        have hh3 : A.in1.in1.in1.handled = none := by simp [hh]
        have hneI : l ≠ (s.heap.push { cls := .type "set", dict := none, data := .set #[] 0 (.fresh 0 0 led) }).objs.size := by
          rw [Heap.size_push]; exact Nat.ne_of_lt (Nat.lt_succ_of_lt hlS)
        have hSf : s.heap.objs.size ∉ [(s.heap.push { cls := .type "set", dict := none, data := .set #[] 0 (.fresh 0 0 led) }).objs.size, l] := by
          rw [Heap.size_push]; simp only [List.mem_cons, List.mem_singleton, List.not_mem_nil, or_false, not_or]
          exact ⟨Nat.ne_of_lt (Nat.lt_succ_self _), Nat.ne_of_gt hlS⟩
        have hval : ∀ (i : Nat) (v : Value), its.toArray[i]? = some v → ∃ k t, ks[i]? = some k ∧ v = .str k t := fun i v hv => by
          rw [List.getElem?_toArray] at hv
          have hi2 : i < ks.length := by
            have z := (List.getElem?_eq_some_iff.mp hv).1
            rw [← hi.length, List.length_map] at z
            exact z
          obtain ⟨u, hu, ru⟩ := hi.get (i := i) (x := V.str ks[i]) (by rw [List.getElem?_map, List.getElem?_eq_getElem hi2]; rfl)
          rw [hv] at hu
          cases hu
          obtain ⟨t, rfl⟩ := ru
          exact ⟨_, t, List.getElem?_eq_getElem hi2, rfl⟩
        have W := Walks.tuple (prog := prog) (w := w) hh3 (s.heap.push { cls := .type "set", dict := none, data := .set #[] 0 (.fresh 0 0 led) }).objs.size l hneI its.toArray
        rw [hlen] at W
        refine set_loop_texts W.toS s.heap.objs.size
          hSf hval nd hb (ks.length - 0) 0 _ (by omega) (Nat.zero_le _)
          ⟨⟨_, Heap.get?_push_size _ rfl, rfl, rfl⟩, (hl1.push _)⟩ ?hS0 ?hR
        case hS0 =>
          have hget : ((s.heap.push { cls := .type "set", dict := none, data := .set #[] 0 (.fresh 0 0 led) }).push { cls := .type "tuple_iterator", data := .fields #[.ref l, .int 0 0] }).get? s.heap.objs.size
              = some { cls := .type "set", dict := none, data := .set #[] 0 (.fresh 0 0 led) } := Heap.get?_push_of_some _ hS
          refine ⟨_, #[], 0, _, hget, ⟨rfl, rfl, rfl⟩, rfl, fun e he => by simp at he, fun k => ?_, by unfold scanBound; decide, by rfl, rfl⟩
          cases k <;> simp [memI]
        case hR =>
          intro s' hm hS'
          obtain ⟨h', g', d', tk', os'⟩ := s'
          have eg : g' = s.gens := hm.gens
          have ed : d' = s.drawn := hm.drawn
          have eo : os' = s.os := hm.os
          subst eg; subst ed; subst eo
          show wpAny _ _ _ _ _ _
          refine wpAny_pure ?_
          show wpAny _ _ (ret Value.none) _ _ _
          refine wpAny_pure ⟨rfl, h', tk', rfl, hS', fun b o hb e => ?_⟩
          have hb1 : b ≠ s.heap.objs.size := Nat.ne_of_lt hb
          have hb2 : b ≠ (s.heap.push { cls := .type "set", dict := none, data := .set #[] 0 (.fresh 0 0 led) }).objs.size := by
            rw [Heap.size_push]; exact Nat.ne_of_lt (Nat.lt_succ_of_lt hb)
          exact hm.heap b o (by simp only [List.mem_cons, List.mem_singleton, List.not_mem_nil, or_false, not_or]; exact ⟨hb1, hb2⟩) (Heap.get?_push_of_some _ (Heap.get?_push_of_some _ e))
      · cases r₂ with
        | error e => exact hr₂
        | ok fl₂ =>
          cases fl₂ with
          | ret r =>
            obtain ⟨rfl, h', tk, rfl, hS', hk'⟩ := hr₂
            repeat (any_goals (first | assumption | wp_step))
            exact h _ _ hS' hk'
          | _ => exact hr₂.elim
    | _ => exact hr.elim
end
section
variable {X : Cx}
/-- set(t), t a tuple of texts, no text twice -/
def rSetT (K : PySem.W.Frag) (P : Program) (w : World) : List V → Hp → VK → Prop := fun xs H Q => ∃ a ks, xs = [.ref a] ∧ SqT K H a (ks.map V.str) ∧ ks.Nodup ∧ ks.length ≤ 1000 ∧ ∀ p, H p = none → Q (.ref p) (upd H p (SetK P w p (memI ks ks.length) ks.length))
theorem cr_setT (hc : X.calm = true) : CallR X (.type "set") (rSetT X.K X.prog X.w) := by
  intro pins s σ H xs us Q I r ⟨a, ks, e, ht, nd, hz, q⟩
  subst e
  obtain rfl := r.ref1
  obtain ⟨its, rv, p, _⟩ := I.tuple ht
  refine call_set_texts (I.ok.hd hc) p rv nd (by unfold scanBound; omega) fun h' tk hS hk => ?_
  have hk' : ∀ b o, s.heap.get? b = some o → h'.get? b = some o := fun b o e => hk b o (Heap.lt_size e) e
  exact ⟨.ref s.heap.objs.size, _, I.laid (t' := tk) hk' (Nat.le_refl _) (setK_new hS), rfl, q _ (I.hok.fresh (Nat.le_refl _))⟩
def rLenSK (P : Program) (w : World) : List V → Hp → VK → Prop := fun xs H Q => ∃ a S n, xs = [.ref a] ∧ H a = some (SetK P w a S n) ∧ Q (.int (n : Nat)) H
theorem cr_lenSK : CallR X (.builtin "len") (rLenSK X.prog X.w) := by
  intro pins s σ H xs us Q I r ⟨a, S, n, e, ha, q⟩
  subst e
  obtain rfl := r.ref1
  obtain ⟨o, es, ep, t, ho, hex, hd, _, _, hb, hf, hn⟩ := setK_get I ha
  refine call_len_set ho hex hd hf (by unfold scanBound at hb; omega) ?_
  rw [hn]
  exact ⟨.int (n : Nat), H, I.tok _, ⟨_, rfl⟩, q⟩
end
end RgK
set_option Elab.async false
set_option linter.all false
set_option maxRecDepth 100000
set_option maxHeartbeats 4000000
/-! Rules that the layer lacks, 5: a def read off a class; what isinstance asks. -/
namespace RgK
open PySem PySem.Spec PyProof.Rows L2
theorem b2 {a b : Bool} (h : (a && b) = true) : a = true ∧ b = true := Bool.and_eq_true_iff.mp h
section
variable {w : World} {K : PySem.W.Frag} {mg : Mg} {base : Heap} (T : Tx w K mg base)
include T
theorem Tx.own0 : ex0 K = true := (b2 T.own).1
theorem Tx.own6 : (tf.map fun p => (He.cT K p).2).Nodup ∧ PySem.W.kitOne K (.ref (He.ga K "NoRow")) (.type "ValueError") = some true ∧ PySem.W.kitOne K (.ref (He.ga K "NoState")) (.type "ValueError") = some true := by
  obtain ⟨h1, h2⟩ := b2 (b2 T.own).2
  obtain ⟨h2, h3⟩ := b2 h2
  exact ⟨of_decide_eq_true h1, of_decide_eq_true h2, of_decide_eq_true h3⟩
theorem Tx.ex1 : PySem.W.specialIn K (.builtin "object.__class__") "__get__" = some (some (.builtin "getset_descriptor.__get__")) ∧ PySem.W.takesIn K (.builtin "object.__class__") = some true := by
  obtain ⟨h1, h2⟩ := b2 T.own0
  obtain ⟨h2, _⟩ := b2 h2
  exact ⟨He.eqO_ok h1, of_decide_eq_true h2⟩
theorem Tx.ex2 : (["Coil", "Latch", "Unlatch", "Timer", "Counter", "Fixed", "Contact", "Turned", "Series", "Branch"].all fun x => insB K x) = true := (b2 (b2 (b2 T.own0).2).2).1
theorem Tx.ex3 : exB K "NoRow" = true ∧ exB K "NoState" = true := b2 (b2 (b2 (b2 T.own0).2).2).2 |>.1 |> b2
theorem Tx.ex4 : ((clsB K && (kits.all fun p => kitB1 K p.1 p.2.1 p.2.2)) && He.tupB K "KEPT" [.str "on", .str "off", .str "and", .str "or", .str "not", .str "set", .str "reset", .str "timer", .str "counter", .str "inputs", .str "outputs"]) = true := (b2 (b2 (b2 (b2 T.own0).2).2).2).2
theorem Tx.kept (H : Hp) : SqT K H (He.ga K "KEPT") (([("on" : Str), "off", "and", "or", "not", "set", "reset", "timer", "counter", "inputs", "outputs"] : List Str).map V.str) := He.tupB_ok (b2 T.ex4).2 H
theorem Tx.kit (i : Nat) {a b : Str} {r : Bool} (h : kits[i]? = some (a, b, r) := by rfl) : PySem.W.kitOne K (.ref (He.ga K a)) (.ref (He.ga K b)) = some r := by
  have q := List.all_eq_true.mp (b2 (b2 T.ex4).1).2 _ (List.mem_of_getElem? h)
  exact of_decide_eq_true q
theorem Tx.insAt {x : String} (h : x ∈ ["Coil", "Latch", "Unlatch", "Timer", "Counter", "Fixed", "Contact", "Turned", "Series", "Branch"]) :
    PySem.W.findIn K (.ref (He.ga K x)) "__class__" = some (some (.builtin "object.__class__")) ∧ PySem.W.mroIn K (He.ga K x) (.type "object") = some true := by
  have q := List.all_eq_true.mp T.ex2 x h
  obtain ⟨h1, h2⟩ := b2 q
  exact ⟨He.eqO_ok h1, of_decide_eq_true h2⟩
theorem Tx.tyO {x : String} {a dx : Addr} {fs : List (Str × V)} {H : Hp} (h : x ∈ ["Coil", "Latch", "Unlatch", "Timer", "Counter", "Fixed", "Contact", "Turned", "Series", "Branch"]) (c : Cls K (He.ga K x)) (e : H a = some (.ins (He.ga K x) dx fs)) : TyX K H (.ref a) (.ref (He.ga K x)) :=
  .base (.ins e c (T.insAt h).1 T.ex1.1 T.ex1.2 (T.insAt h).2)
theorem Tx.excC {x : Str} (h : exB K x = true) : ExcC K (He.ga K x) := by
  unfold exB at h
  obtain ⟨h1, h⟩ := b2 h
  obtain ⟨h2, h⟩ := b2 h
  obtain ⟨h3, h⟩ := b2 h
  obtain ⟨h4, h5⟩ := b2 h
  obtain ⟨h5, h6⟩ := b2 h5
  exact ⟨He.eqO_ok h1, He.eqO_ok h2, of_decide_eq_true h3, h4, He.eqO_ok h5, T.ex1.1, T.ex1.2, of_decide_eq_true h6⟩
theorem Tx.cls : PySem.W.readsIn K (He.ga K "End") (.type "type") = true ∧ PySem.W.specialIn K (.ref (He.ga K "End")) "__getattribute__" = some (some (.builtin "type.__getattribute__")) ∧
    PySem.W.findCls K (.ref (He.ga K "End")) (.type "type") "__init__" = some (.val (.ref (He.ma K (He.ga K "End") "__init__"))) := by
  obtain ⟨h1, h2⟩ := b2 (b2 (b2 T.ex4).1).1
  obtain ⟨h2, h3⟩ := b2 h2
  refine ⟨h1, He.eqO_ok h2, ?_⟩
  split at h3
  · rename_i f e
    rw [e, of_decide_eq_true h3]
  · cases h3
end
/-! ### C.m(..), m a def of the class -/
section
variable {X : Cx} {k : Nat} {f C : Addr} {E : L2.St → XK} {x m : Str} {p pos apos : Pos} {e : Expr} {es : List Expr} {t : TA}
/-- the def at f -/
def CalA (P : Program) (w : World) (K : PySem.W.Frag) (mg : Mg) (base : Heap) (k : Nat) (f : Addr) (sp : Sp) : Prop := ∃ fd ps, FnOk P w K mg base (L2.CX P w) k f fd ps sp ∧ Binds K fd ps []
theorem pe_cmX {pl : Sem Bool} {mc : Value} (hr : Room k X.A) (hg : Gl X x) (hm : X.mg x = some (.ref C)) (r : PySem.W.readsIn X.K C mc = true) (ga : PySem.W.specialIn X.K (.ref C) "__getattribute__" = some (some (.builtin "type.__getattribute__")))
    (fc : PySem.W.findCls X.K (.ref C) mc m = some (.val (.ref f))) (hk : PySem.W.keepIn X.K (.ref f) = true) (hx : ∀ σ, PassesAt (L2.CX X.prog X.w) X σ (E σ)) (ha : PA X (e :: es) t) (hdb : (x == ("__debug__" : Str)) = false := by decide)
    (hst : starEach (e :: es) X.env = (false, eval e X.env) :: starEach es X.env := by rfl) (hpl : (backTo pos (starEach es X.env)).any (·.1) = false := by rfl)
    (ht : eval (.Call (.Attribute (.Name x p) m apos) (e :: es) [] pos) X.env = (do
      let ov ← eval (.Name x p) X.env
      standAt apos.atName
      let (f, first) ← holding [ov] (getMethod ov m pl)
      callWith pos f first (backTo pos (starEach (e :: es) X.env)) (backToKw pos (keywordEach [] X.env))) := by rfl) :
    PE X (.Call (.Attribute (.Name x p) m apos) (e :: es) [] pos) (tFn (CalA X.prog X.w X.K X.mg X.base k f) E t) := by
  refine ⟨fun pins s σ H Q I h => ?_⟩
  refine PySem.W.methodCall_KW (pl := pl) (ld_glob I hg hm ?_ hdb) ht
  refine PySem.W.method_cls I.kIn ga (PySem.W.cls_value I.kIn r fc rfl ?_)
  have I1 : Inv X pins σ H { s with toks := s.toks + 1 } := I.tok _
  refine PySem.W.callWith_K (first := []) (h₀ := X.base) I1.ok.mod.kin hk (thn (ha.run pos pins _ σ H _ I1 h) fun us s2 ⟨vs, H2, I2, r, sp, ⟨fd, ps, F, hb⟩, q⟩ => ⟨I2.kIn, ?_⟩) hst hpl
  exact run_fnS F hr hb (hx σ) I2 r q
end
section
variable {w : World} {K : PySem.W.Frag} {mg : Mg} {base : Heap} (T : Tx w K mg base)
variable {X : Cx} {k : Nat} {f C : Addr} {E : L2.St → XK} {x m : Str} {p pos apos : Pos} {e : Expr} {es : List Expr} {t : TA}
include T
theorem pe_cm {pl : Sem Bool} {mc : Value} (hr : Room k X.A) (hg : Gl X x) (hm : mg x = some (.ref C)) (r : PySem.W.readsIn K C mc = true) (ga : PySem.W.specialIn K (.ref C) "__getattribute__" = some (some (.builtin "type.__getattribute__")))
    (fc : PySem.W.findCls K (.ref C) mc m = some (.val (.ref f))) (hk : PySem.W.keepIn K (.ref f) = true) (hx : ∀ σ, PassesAt (L2.CX X.prog X.w) X σ (E σ)) (ha : PA X (e :: es) t) (a : At X w K mg base := by exact ⟨rfl, rfl, rfl, rfl, rfl⟩) (hdb : (x == ("__debug__" : Str)) = false := by decide)
    (hst : starEach (e :: es) X.env = (false, eval e X.env) :: starEach es X.env := by rfl) (hpl : (backTo pos (starEach es X.env)).any (·.1) = false := by rfl)
    (ht : eval (.Call (.Attribute (.Name x p) m apos) (e :: es) [] pos) X.env = (do
      let ov ← eval (.Name x p) X.env
      standAt apos.atName
      let (f, first) ← holding [ov] (getMethod ov m pl)
      callWith pos f first (backTo pos (starEach (e :: es) X.env)) (backToKw pos (keywordEach [] X.env))) := by rfl) :
    PE X (.Call (.Attribute (.Name x p) m apos) (e :: es) [] pos) (tFn (CalA PG w K mg base k f) E t) := by
  obtain ⟨a1, a2, a3, a4, a5⟩ := a
  subst a2 a3 a4 a5
  rw [← a1]
  exact pe_cmX hr hg hm r ga fc hk hx ha hdb hst hpl ht
end
end RgK
set_option Elab.async false
set_option linter.all false
set_option maxRecDepth 100000
set_option maxHeartbeats 4000000

/-! Names, ends. -/
namespace RgK
open PySem PySem.Spec PyProof.Rows L2 Evl
local macro_rules | `(tactic| walk_at "ev") => `(tactic| repeat' (first
  | with_reducible exact ev_c
  | with_reducible exact ea_nil
  | ((with_reducible apply ev_var); first | rfl | assumption)
  | with_reducible apply ea_cons
  | with_reducible apply ev_fld
  | ((with_reducible show Fld _ _ _ _ _); assumption)
  | with_reducible exact rv_I0
  | with_reducible exact ru_neg
  | with_reducible exact rv_eq rfl
  | with_reducible exact rv_ne rfl
  | ((with_reducible apply rv_I); first | decide | omega | assumption)
  | ((with_reducible show _ = _ → EvT _ _ _ _); intro _)
  | ((with_reducible show _ = _ → Ev _ _ _ _); intro _)
  | with_reducible apply et_and
  | with_reducible apply et_or
  | with_reducible apply ev_andV
  | with_reducible apply ev_orV
  | with_reducible apply et_test
  | with_reducible apply et_B
  | with_reducible apply et_not
  | with_reducible apply ev_notV
  | with_reducible apply ev_un
  | with_reducible apply ev_op))

/-! ### promises of defs that let nothing out -/
def spP {ι : Type} (args : ι → List V) (pre : ι → Hp → Prop) (R : ι → Hp → V → Hp → Prop) : Sp := fun vs H Q _ => ∃ i, vs = args i ∧ pre i H ∧ ∀ v H2, Ex H H2 → R i H v H2 → Q v H2
theorem spP_len {ι : Type} {args : ι → List V} {pre : ι → Hp → Prop} {R : ι → Hp → V → Hp → Prop} {n : Nat} (h : ∀ i, (args i).length = n) : ∀ vs H Q E, spP args pre R vs H Q E → vs.length = n := fun vs H Q E ⟨i, e, _⟩ => by rw [e]; exact h i
theorem spP_r {ι : Type} {args : ι → List V} {pre : ι → Hp → Prop} {R : ι → Hp → V → Hp → Prop} {vs : List V} {H : Hp} {R' : V → Hp → Prop} (i : ι) (e : vs = args i) (h : ∀ H1, Ex H H1 → pre i H1) (hR : ∀ H1 v H2, Ex H H1 → Ex H1 H2 → R i H1 v H2 → R' v H2) : SpR (spP args pre R) vs H R' :=
  fun H1 e1 Q q E => ⟨i, e, h H1 e1, fun v H2 e2 r => q v H2 e2 (hR H1 v H2 e1 e2 r)⟩
/-- .. whose answer does not lean on the heap -/
theorem spP_v {ι : Type} {args : ι → List V} {f : ι → V} {vs : List V} {H : Hp} (i : ι) (e : vs = args i) : SpR (spP args (fun _ _ => True) (fun i _ v _ => v = f i)) vs H (fun v _ => v = f i) := spP_r i e (fun _ _ => trivial) fun _ _ _ _ _ r => r
section
variable {K : PySem.W.Frag} {σ : L2.St} {H : Hp} {D : Ends} {tz : TS}
/-- a call as a statement that changes things -/
theorem ss_fnS {C : Sp → Prop} {E : L2.St → XK} {tr : TA} {vs : List V} {sp : Sp} {P : Hp → Hp → Prop} (ha : EvA tr σ H vs) (c : C sp) (h : ∀ H1, Ex H H1 → ∀ Q : VK, (∀ v H2, P H1 H2 → Q v H2) → sp vs H1 Q (E σ)) (k : ∀ H1 H2, Ex H H1 → P H1 H2 → SS tz D σ H2) : SS (tSeq (tDrop (tFn C E tr)) tz) D σ H :=
  fun H1 e1 => ha H1 e1 _ fun H2 e2 => ⟨sp, c, h H2 (e1.trans e2) _ fun _ H3 p => (k H2 H3 (e1.trans e2) p).here⟩
theorem ss_meS {MO : Addr → Str → Sp → Prop} {m : Str} {E : L2.St → XK} {ta : TE} {tr : TA} {a C dx : Addr} {fs : List (Str × V)} {sp : Sp} {vs : List V} {P : Hp → Hp → Prop} (ho : Ev ta σ H (.ref a)) (hi : H a = some (.ins C dx fs)) (hl : fs.lookup m = none) (hm : MO C m sp) (ha : EvA tr σ H vs)
    (h : ∀ H1, Ex H H1 → ∀ Q : VK, (∀ v H2, P H1 H2 → Q v H2) → sp (.ref a :: vs) H1 Q (E σ)) (k : ∀ H1 H2, Ex H H1 → P H1 H2 → SS tz D σ H2) : SS (tSeq (tDrop (tMe MO m E ta tr)) tz) D σ H :=
  fun H1 e1 => ho H1 e1 _ fun H2 e2 => ⟨a, C, dx, fs, sp, rfl, (e1.trans e2) _ _ hi, hl, hm, ha H2 (e1.trans e2) _ fun H3 e3 => h H3 (e1.trans (e2.trans e3)) _ fun _ H4 p => (k H3 H4 (e1.trans (e2.trans e3)) p).here⟩
theorem rc_isi {x c : V} {t u : Value} {b : Bool} (hc : ClsV c u) (ty : ∀ H1, Ex H H1 → TyX K H1 x t) (k : PySem.W.kitOne K t u = some b) : RC (rIsi K) [x, c] H (.bl b) := fun H1 e1 Q q => ⟨x, c, t, u, b, rfl, hc, ty H1 e1, k, q H1 (.refl _)⟩
theorem rc_isiI {i : Int} : RC (rIsi K) [.int i, .ty "int"] H (.bl true) := rc_isi (.ty "int") (fun _ _ => .base (.int i)) (kit_ty (by decide +kernel))
theorem rc_isiIB {i : Int} : RC (rIsi K) [.int i, .ty "bool"] H (.bl false) := rc_isi (.ty "bool") (fun _ _ => .base (.int i)) (kit_ty (by decide +kernel))
theorem rc_isiBB {b : Bool} : RC (rIsi K) [.bl b, .ty "bool"] H (.bl true) := rc_isi (.ty "bool") (fun _ _ => .base (.bl b)) (kit_ty (by decide +kernel))
theorem rc_lenS {x : Str} (h : x.length ≤ 100000) : RC (fun xs H Q => ∃ z, xs = [.str z] ∧ z.length ≤ sizeLine ∧ Q (.int z.length) H) [.str x] H (.int (x.length : Nat)) := fun H1 e1 Q q => ⟨x, rfl, sz_of h, q H1 (.refl _)⟩
theorem rv_nins {c : Nat} {z : Str} : RV (fun x y H Q => ∃ (c : Nat) (z : Str), x = .str ⟨#[c]⟩ ∧ y = .str z ∧ Q (.bl (!decide (c ∈ z.cps.toList))) H) (.str ⟨#[c]⟩) (.str z) H (.bl (!decide (c ∈ z.cps.toList))) := fun H1 _ Q q => ⟨c, z, rfl, rfl, q H1 (.refl _)⟩
end
/-! ### texts -/
def signs : List Nat := ("abcdefghijklmnopqrstuvwxyz" : Str).cps.toList
def wordB (x : Str) : Bool := x.cps.toList.all (fun c => decide (c ∈ signs)) && !decide (x = "")
def keptL : List Str := ["on", "off", "and", "or", "not", "set", "reset", "timer", "counter", "inputs", "outputs"]
def nameB (x : Str) : Bool := wordB x && (decide ((x.length : Int) ≤ 8) && !inV (.str x) (keptL.map V.str))
section
variable {w : World} {K : PySem.W.Frag} {mg : Mg} {base : Heap} {k : Nat}
def spWord : Sp := spP (ι := Str) (fun x => [.str x]) (fun _ _ => True) (fun x _ v _ => v = .bl (wordB x))
theorem c_is_word (T : Tx w K mg base) : Cal PG w K mg base 1 "is_word" spWord := by
  refine cal_of (fnd ["text", "sign"] ["text"] T.d_is_word (by decide +kernel) (spP_len fun _ => rfl) (fun _ _ _ _ _ _ us h => by match us, h with | [_], _ => rfl) ?_) T.g_is_word
  rintro cdv A outer s H vs Q E hr ⟨x, rfl, -, hQ⟩
  have nd : (["text", "sign"] : List Str).Nodup := by decide +kernel
  refine ⟨_, 
    (pss_cons (ps_for (passes_of rfl) rfl (pi_str (pv 0)) (pg_name (i := 1) nd rfl (Or.inl rfl)) 
    (pss_cons (ps_if (pt_cmpR op_notIn_sign (pv 1) (pe_globS (by rfl) T.s_SIGNS) (by with_unfolding_all rfl)) 
    (pss_cons (ps_ret pe_bl) pss_nil) pss_nil) pss_nil)) 
    (pss_cons (ps_ret (pe_cmpR op_ne (pv 0) pe_str (nomark _))) pss_nil)), ?_⟩
  refine SS.here ?_
  refine ss_forStr (ev_var rfl) (fun i σ' H' => Ex H H' ∧ (∃ o, σ' = [some (.str x), o]) ∧ ∀ j c, j < i → x.cps[j]? = some c → c ∈ signs) (fun H1 e1 => ⟨e1, ⟨_, rfl⟩, fun j _ h => absurd h (Nat.not_lt_zero _)⟩) ?_ ?_
  · rintro i c σ' H' hc ⟨e, ⟨o, rfl⟩, hall⟩
    refine ss_when (b := !decide (c ∈ signs)) (et_test (ev_op (ev_var rfl) ev_c rv_nins)) (fun hb => ?_) (fun hb => ?_)
    · refine ss_ret ev_c fun H1 e1 => hQ _ _ (e.trans e1) ?_
      have : wordB x = false := by
        unfold wordB
        rw [Bool.and_eq_false_iff]
        left
        rw [List.all_eq_false]
        refine ⟨c, Array.mem_toList_iff.mpr (Array.mem_of_getElem? hc), ?_⟩
        simpa using hb
      show _ = V.bl (wordB x)
      rw [this]
    · refine ss_end fun H1 e1 => ⟨e.trans e1, ⟨_, rfl⟩, fun j c' hj hc' => ?_⟩
      rcases Nat.lt_succ_iff_lt_or_eq.mp hj with h | rfl
      · exact hall j c' h hc'
      · rw [hc] at hc'
        cases hc'
        simpa using hb
  · rintro σ' H' ⟨e, ⟨o, rfl⟩, hall⟩
    refine SS.here (ss_ret (v := .bl (!decide (V.str x = V.str ""))) (by walk_at "ev") fun H1 e1 => hQ _ _ (e.trans e1) ?_)
    have : x.cps.toList.all (fun c => decide (c ∈ signs)) = true := List.all_eq_true.mpr fun c hc => by
      obtain ⟨i, hi⟩ := List.mem_iff_getElem?.mp hc
      rw [Array.getElem?_toList] at hi
      simpa using hall i c (Array.getElem?_eq_some_iff.mp hi).1 hi
    show _ = V.bl (wordB x)
    unfold wordB
    rw [this, Bool.true_and]
    simp only [V.str.injEq]
def spName : Sp := spP (ι := Str) (fun x => [.str x]) (fun x _ => x.length ≤ 100000) (fun x _ v _ => v = .bl (nameB x))
theorem c_is_name (T : Tx w K mg base) : Cal PG w K mg base 2 "is_name" spName := by
  refine cal_of (fnd ["name"] ["name"] T.d_is_name (by decide +kernel) (spP_len fun _ => rfl) (fun _ _ _ _ _ _ us h => by match us, h with | [_], _ => rfl) ?_) T.g_is_name
  rintro cdv A outer s H vs Q E hr ⟨x, rfl, hx, hQ⟩
  have nd : (["name"] : List Str).Nodup := by decide +kernel
  refine ⟨_, 
    (pss_cons (ps_ret (pe_and (pe_fn T hr (by rfl) T.g_is_word pass0 T.kp_is_word (pa_cons (pv 0) pa_nil)) (pe_and (pe_cmpR op_le (pe_callB call_len_str (by rfl) T.f_len (by decide +kernel) (pa_cons (pv 0) pa_nil)) (pe_globI (by rfl) T.i_MOST_SIGNS) (nomark _)) (pe_one (pe_cmpR (op_ninT T) (pv 0) (pe_globR (by rfl) T.g_KEPT) (by with_unfolding_all rfl)))))) pss_nil), SS.here ?_⟩
  refine ss_ret (v := .bl (nameB x)) ?_ fun H1 e1 => hQ _ _ e1 rfl
  refine ev_andV (ev_fnV (ea_cons (ev_var rfl) ea_nil) (c_is_word T) (spP_v x rfl)) fun _ => ev_andV (ev_op (ev_cb (ea_cons (ev_var rfl) ea_nil) (rc_lenS hx)) ev_c rv_I0) fun _ => ?_
  exact ev_op (ev_var rfl) ev_c (rv_niT (T.kept H) rfl (by decide +kernel))
/-! ### ends -/
/-- self.name = name on an instance under way -/
def spEndI (K : PySem.W.Frag) : Sp := fun vs H Q _ => ∃ a C dx fs n, vs = [.ref a, .str n] ∧ H a = some (.ins C dx fs) ∧ fs.length < 900 ∧ Cls K C ∧ NoAttr K C "name" ∧ n.length ≤ 100000 ∧ nameB n = true ∧ ∀ H1, Ex (upd H a (.ins C dx (putF "name" (.str n) fs))) H1 → Q .non H1
theorem f_end_init (T : Tx w K mg base) {f : Addr} (F : ∃ fd, FunD K "__init__" "End.__init__" (defArgs s_End_init) (defBody s_End_init) (defScope s_End_init) [] [] f fd) :
    ∃ fd, FnOk PG w K mg base (L2.CX PG w) 3 f fd ["self", "name"] (spEndI K) ∧ PySem.W.keepIn K (.ref f) = true ∧ Binds K fd ["self", "name"] [] := by
  refine fnd ["self", "name"] ["self", "name"] F (by decide +kernel) (fun vs H Q E ⟨_, _, _, _, _, e, _⟩ => by rw [e]; rfl) (fun _ _ _ _ _ _ us h => by match us, h with | [_, _], _ => rfl) ?_
  rintro cdv A outer s H vs Q E hr ⟨a, C, dx, fs, n, rfl, ha, hfs, hc, hn, hz, hv, hQ⟩
  have nd : (["self", "name"] : List Str).Nodup := by decide +kernel
  refine ⟨_, 
    (pss_cons (ps_if (pt_not (pt_val (pe_fn T hr (by rfl) T.g_is_name pass0 T.kp_is_name (pa_cons (pv 1) pa_nil)))) 
    (pss_cons (ps_raise rfl (takes_of rfl rfl rfl rfl) (pmk_own PySem.F.excBase_ValueError T.e_NoName.1 T.g_NoName T.e_NoName.2.1 (raises_own T.e_NoName.2.2.1 T.e_NoName.2.2.2) (by rfl))) pss_nil) pss_nil) 
    (pss_cons (ps_fld (pv 0) (pv 1) rfl) pss_nil)), SS.here ?_⟩
  refine ss_when (b := false) (et_is (et_not (et_B (ev_fnV (ea_cons (ev_var rfl) ea_nil) (c_is_name T) (spP_r n rfl (fun _ _ => hz) fun _ v _ _ _ r => r)))) (by rw [hv]; rfl)) (fun z => nomatch z) fun _ => ?_
  exact ss_fld (ev_var rfl) (ev_var rfl) ha hc hn (by omega) (ss_end fun H1 e1 => hQ H1 e1)
/-- an end, of what is under way to what it is -/
structure EndV where
  kind : Nat
  name : Str
  most : Int
def ecls : Nat → Str
  | 0 => "Coil"
  | 1 => "Latch"
  | 2 => "Unlatch"
  | 3 => "Timer"
  | _ => "Counter"
def efs (e : EndV) : List (Str × V) := match e.kind with
  | 0 => [("name", .str e.name)]
  | 1 => [("name", .str e.name)]
  | 2 => [("name", .str e.name)]
  | _ => [("name", .str e.name), ("most", .int e.most)]
def EndAt (K : PySem.W.Frag) (H : Hp) (a : Addr) (e : EndV) : Prop := e.kind < 5 ∧ ∃ dx, H a = some (.ins (He.ga K (ecls e.kind)) dx (efs e))
theorem EndAt.im {H H' : Hp} {a : Addr} {e : EndV} (h : EndAt K H a e) (i : Ip H H') : EndAt K H' a e := ⟨h.1, let ⟨dx, q⟩ := h.2; ⟨dx, i _ _ q rfl⟩⟩
/-- self.name, self.most -/
def spCntI (K : PySem.W.Frag) : Sp := fun vs H Q _ => ∃ a C dx fs n m, vs = [.ref a, .str n, .int m] ∧ H a = some (.ins C dx fs) ∧ fs.length < 900 ∧ Cls K C ∧ NoAttr K C "name" ∧ NoAttr K C "most" ∧ n.length ≤ 100000 ∧ nameB n = true ∧ 1 ≤ m ∧ m ≤ 9 ∧
  ∀ H1, Ex (upd H a (.ins C dx (putF "most" (.int m) (putF "name" (.str n) fs)))) H1 → Q .non H1
theorem f_cnt_init (T : Tx w K mg base) {f : Addr} (F : ∃ fd, FunD K "__init__" "Counting.__init__" (defArgs s_Timer_init) (defBody s_Timer_init) (defScope s_Timer_init) [] [] f fd) :
    ∃ fd, FnOk PG w K mg base (L2.CX PG w) 4 f fd ["self", "name", "most"] (spCntI K) ∧ PySem.W.keepIn K (.ref f) = true ∧ Binds K fd ["self", "name", "most"] [] := by
  refine fnd ["self", "name", "most"] ["self", "name", "most"] F (by decide +kernel) (fun vs H Q E ⟨_, _, _, _, _, _, e, _⟩ => by rw [e]; rfl) (fun _ _ _ _ _ _ us h => by match us, h with | [_, _, _], _ => rfl) ?_
  rintro cdv A outer s H vs Q E hr ⟨a, C, dx, fs, n, m, rfl, ha, hfs, hc, hn, hn2, hz, hv, h1, h9, hQ⟩
  have nd : (["self", "name", "most"] : List Str).Nodup := by decide +kernel
  refine ⟨_, 
    (pss_cons (ps_expr (pe_cm T hr (by rfl) T.g_End T.cls.1 T.cls.2.1 T.cls.2.2 T.kp_End_init pass0 (pa_cons (pv 0) (pa_cons (pv 1) pa_nil)))) 
    (pss_cons (ps_if (PW.pt (pw_or (pt_not (pt_val (pe_callB call_isi (by rfl) T.f_isinstance (by decide +kernel) (pa_cons (pv 2) (pa_cons (pe_bltnT "int" (by rfl) T.f_int (by decide +kernel)) pa_nil))))) (pw_or (pt_val (pe_callB call_isi (by rfl) T.f_isinstance (by decide +kernel) (pa_cons (pv 2) (pa_cons (pe_bltnT "bool" (by rfl) T.f_bool (by decide +kernel)) pa_nil)))) (pw_or1 (pt_not (pt_chain op_le op_le pe_int (pv 2) (pe_globI (by rfl) T.i_MOST_COUNT))))))) 
    (pss_cons (ps_raise rfl (takes_of rfl rfl rfl rfl) (pmk_own PySem.F.excBase_ValueError T.e_NoEnd.1 T.g_NoEnd T.e_NoEnd.2.1 (raises_own T.e_NoEnd.2.2.1 T.e_NoEnd.2.2.2) (by rfl))) pss_nil) pss_nil) 
    (pss_cons (ps_fld (pv 0) (pv 2) rfl) pss_nil))), SS.here ?_⟩
  obtain ⟨fd, F0, k0, B0⟩ := f_end_init T T.d_End_init
  refine ss_fnS (P := fun H1 H2 => Ex (upd H1 a (.ins C dx (putF "name" (.str n) fs))) H2) (ea_cons (ev_var rfl) (ea_cons (ev_var rfl) ea_nil)) ⟨fd, _, F0, B0⟩ (fun H1 e1 Q q => ⟨a, C, dx, fs, n, rfl, e1 _ _ ha, hfs, hc, hn, hz, hv, fun H2 e2 => q _ H2 e2⟩) fun H1 H2 e1 e2 => ?_
  have ha2 : H2 a = some (.ins C dx (putF "name" (.str n) fs)) := e2 _ _ upd_same
  refine ss_when (b := !(true) || (false || !(decide (1 ≤ m) && decide (m ≤ 9)))) ?_ (fun z => ?_) fun _ => ?_
  · refine et_or (et_not (et_B (ev_cb (ea_cons (ev_var rfl) (ea_cons ev_c ea_nil)) rc_isiI))) fun _ => et_or (et_B (ev_cb (ea_cons (ev_var rfl) (ea_cons ev_c ea_nil)) rc_isiIB)) fun _ => et_not (et_test ?_)
    exact ev_chain ev_c (ev_var rfl) rv_I0 fun _ => ⟨ev_c, rv_I0⟩
  · have : (decide (1 ≤ m) && decide (m ≤ 9)) = true := by simp [h1, h9]
    rw [this] at z
    cases z
  · refine ss_fld (ev_var rfl) (ev_var rfl) ha2 hc hn2 (Nat.lt_of_le_of_lt (length_putF _ _ _) (by omega)) (ss_end fun H3 e3 => hQ H3 ?_)
    refine Ex.trans (fun b o e => ?_) e3
    by_cases hb : b = a
    · rw [hb, upd_same] at e ⊢
      exact e
    · rw [upd_ne hb] at e ⊢
      exact e2 _ _ (by rw [upd_ne hb]; exact e1 _ _ e)
end
end RgK
set_option Elab.async false
set_option linter.all false
set_option maxRecDepth 100000
set_option maxHeartbeats 4000000

/-! Parts. -/
namespace RgK
open PySem PySem.Spec PyProof.Rows L2 Evl
local macro_rules | `(tactic| walk_at "ev") => `(tactic| repeat' (first
  | with_reducible exact ev_c
  | with_reducible exact ea_nil
  | ((with_reducible apply ev_var); first | rfl | assumption)
  | with_reducible apply ea_cons
  | with_reducible apply ev_fld
  | ((with_reducible show Fld _ _ _ _ _); assumption)
  | with_reducible exact rv_I0
  | with_reducible exact ru_neg
  | with_reducible exact rv_eq rfl
  | with_reducible exact rv_ne rfl
  | ((with_reducible apply rv_I); first | decide | omega | assumption)
  | ((with_reducible show _ = _ → EvT _ _ _ _); intro _)
  | ((with_reducible show _ = _ → Ev _ _ _ _); intro _)
  | with_reducible apply et_and
  | with_reducible apply et_or
  | with_reducible apply ev_andV
  | with_reducible apply ev_orV
  | with_reducible apply et_test
  | with_reducible apply et_B
  | with_reducible apply et_not
  | with_reducible apply ev_notV
  | with_reducible apply ev_un
  | with_reducible apply ev_op))

/-! ### what a part is: what it holds, its size, its depth -/
structure Den where
  h : (Str → Bool) → Bool
  s : Int
  d : Int
def maxL (l : List Int) : Int := l.foldr max 0
def pcls : Nat → Str
  | 0 => "Fixed"
  | 1 => "Contact"
  | 2 => "Turned"
  | 3 => "Series"
  | _ => "Branch"
def Shape (K : PySem.W.Frag) (H : Hp) (c : Nat) (a : Addr) (ps : List Addr) (Ds : List Den) (h : (Str → Bool) → Bool) : Prop := match c with
  | 0 => ∃ dx b, H a = some (.ins (He.ga K "Fixed") dx [("value", .bl b)]) ∧ ps = [] ∧ Ds = [] ∧ h = fun _ => b
  | 1 => ∃ dx x, H a = some (.ins (He.ga K "Contact") dx [("name", .str x)]) ∧ ps = [] ∧ Ds = [] ∧ h = fun β => β x
  | 2 => ∃ dx p D, H a = some (.ins (He.ga K "Turned") dx [("part", .ref p)]) ∧ ps = [p] ∧ Ds = [D] ∧ h = fun β => !D.h β
  | 3 => ∃ dx t, H a = some (.ins (He.ga K "Series") dx [("parts", .ref t)]) ∧ H t = some (.tup (ps.map V.ref)) ∧ h = fun β => Ds.all fun D => D.h β
  | 4 => ∃ dx t, H a = some (.ins (He.ga K "Branch") dx [("parts", .ref t)]) ∧ H t = some (.tup (ps.map V.ref)) ∧ h = fun β => Ds.any fun D => D.h β
  | _ => False
theorem Shape.im {K : PySem.W.Frag} {H H' : Hp} {c : Nat} {a : Addr} {ps : List Addr} {Ds : List Den} {h : (Str → Bool) → Bool} (s : Shape K H c a ps Ds h) (i : Ip H H') : Shape K H' c a ps Ds h := by
  match c with
  | 0 => obtain ⟨dx, b, e, r⟩ := s; exact ⟨dx, b, i _ _ e rfl, r⟩
  | 1 => obtain ⟨dx, b, e, r⟩ := s; exact ⟨dx, b, i _ _ e rfl, r⟩
  | 2 => obtain ⟨dx, p, D, e, r⟩ := s; exact ⟨dx, p, D, i _ _ e rfl, r⟩
  | 3 => obtain ⟨dx, t, e, e2, r⟩ := s; exact ⟨dx, t, i _ _ e rfl, i _ _ e2 rfl, r⟩
  | 4 => obtain ⟨dx, t, e, e2, r⟩ := s; exact ⟨dx, t, i _ _ e rfl, i _ _ e2 rfl, r⟩
/-- the part at a is of the class c, its inner ones as F says -/
def PartC (K : PySem.W.Frag) (H : Hp) (F : Addr → Den → Prop) (c : Nat) (a : Addr) (D : Den) : Prop :=
  ∃ ps Ds, Paired F ps Ds ∧ ps.length ≤ 1000 ∧ D.s = 1 + (Ds.map (·.s)).sum ∧ D.d = 1 + maxL (Ds.map (·.d)) ∧ Shape K H c a ps Ds D.h
def PartAt (K : PySem.W.Frag) (H : Hp) : Nat → Addr → Den → Prop
  | 0 => fun _ _ => False
  | n + 1 => fun a D => ∃ c, PartC K H (PartAt K H n) c a D
theorem PartC.im {K : PySem.W.Frag} {H H' : Hp} {F F' : Addr → Den → Prop} {c : Nat} {a : Addr} {D : Den} (p : PartC K H F c a D) (i : Ip H H') (f : ∀ a D, F a D → F' a D) : PartC K H' F' c a D :=
  let ⟨ps, Ds, h1, h2, h3, h4, h5⟩ := p; ⟨ps, Ds, L2.Paired.mapP h1 f, h2, h3, h4, h5.im i⟩
theorem PartAt.im {K : PySem.W.Frag} {H H' : Hp} (i : Ip H H') : ∀ {n : Nat} {a : Addr} {D : Den}, PartAt K H n a D → PartAt K H' n a D
  | 0, _, _, h => h.elim
  | n + 1, _, _, ⟨c, p⟩ => ⟨c, p.im i fun _ _ q => PartAt.im i q⟩
theorem PartAt.up {K : PySem.W.Frag} {H : Hp} : ∀ {n m : Nat} {a : Addr} {D : Den}, n ≤ m → PartAt K H n a D → PartAt K H m a D
  | 0, _, _, _, _, h => h.elim
  | n + 1, m + 1, _, _, l, ⟨c, p⟩ => ⟨c, p.im (.refl _) fun _ _ q => PartAt.up (Nat.le_of_succ_le_succ l) q⟩
/-- the dict at d tells β (what isn't there is false) -/
def ImgAt (H : Hp) (d : Addr) (β : Str → Bool) : Prop := ∃ kvs, H d = some (.dK kvs) ∧ ∀ x, (valV kvs (.inr x)).getD (.bl false) = .bl (β x)
theorem ImgAt.ex {H H' : Hp} {d : Addr} {β : Str → Bool} (h : ImgAt H d β) (e : Ex H H') : ImgAt H' d β := let ⟨kvs, a, b⟩ := h; ⟨kvs, e _ _ a, b⟩
theorem paired_ref {α : Type} {F : Addr → α → Prop} : ∀ {ps : List Addr} {Ds : List α}, Paired F ps Ds → ps.length = Ds.length
  | _, _, .nil => rfl
  | _, _, .cons _ r => congrArg Nat.succ (paired_ref r)
theorem paired_get' {α β : Type} {G : α → β → Prop} {l₁ : List α} {l₂ : List β} (h : Paired G l₁ l₂) {i : Nat} {a : α} (e : l₁[i]? = some a) : ∃ b, l₂[i]? = some b ∧ G a b := paired_get h e
section
variable {w : World} {K : PySem.W.Frag} {mg : Mg} {base : Heap} {k : Nat}
/-- what all five classes have -/
theorem Tx.pc (T : Tx w K mg base) : ∀ {c : Nat} {H : Hp} {a : Addr} {ps : List Addr} {Ds : List Den} {h : (Str → Bool) → Bool}, Shape K H c a ps Ds h → c < 5 ∧ ∃ dx f v, H a = some (.ins (He.ga K (pcls c)) dx [(f, v)]) ∧ f ∈ ([("value" : Str), "name", "part", "parts"] : List Str)
  | 0, _, _, _, _, _, ⟨dx, b, e, _⟩ => ⟨by decide, dx, "value", .bl b, e, by decide +kernel⟩
  | 1, _, _, _, _, _, ⟨dx, b, e, _⟩ => ⟨by decide, dx, "name", .str b, e, by decide +kernel⟩
  | 2, _, _, _, _, _, ⟨dx, b, _, e, _⟩ => ⟨by decide, dx, "part", .ref b, e, by decide +kernel⟩
  | 3, _, _, _, _, _, ⟨dx, b, e, _⟩ => ⟨by decide, dx, "parts", .ref b, e, by decide +kernel⟩
  | 4, _, _, _, _, _, ⟨dx, b, e, _⟩ => ⟨by decide, dx, "parts", .ref b, e, by decide +kernel⟩
  | n + 5, _, _, _, _, _, h => h.elim
theorem look_m {f m : Str} {v : V} (hf : f ∈ ([("value" : Str), "name", "part", "parts"] : List Str)) (hm : m ∈ ([("inner" : Str), "holds", "size", "depth", "bounded"] : List Str)) : List.lookup m [(f, v)] = none := by
  have : (m == f) = false := by
    have h : ∀ f ∈ ([("value" : Str), "name", "part", "parts"] : List Str), ∀ m ∈ ([("inner" : Str), "holds", "size", "depth", "bounded"] : List Str), (m == f) = false := by decide +kernel
    exact h f hf m hm
  simp [List.lookup, this]
/-! ### inner() -/
def spInner (K : PySem.W.Frag) (n c : Nat) : Sp := spP (ι := Addr × Den) (fun i => [.ref i.1]) (fun i H => PartC K H (PartAt K H n) c i.1 i.2)
  (fun i H v H2 => ∃ t ps Ds, v = .ref t ∧ H2 t = some (.tup (ps.map V.ref)) ∧ Paired (PartAt K H n) ps Ds ∧ ps.length ≤ 1000 ∧ i.2.s = 1 + (Ds.map (·.s)).sum ∧ i.2.d = 1 + maxL (Ds.map (·.d)))
theorem f_inner0 (T : Tx w K mg base) (n c : Nat) (hc : c < 2) {f : Addr} (F : ∃ fd, FunD K "inner" "Part.inner" (defArgs s_Fixed_inner) (defBody s_Fixed_inner) (defScope s_Fixed_inner) [] [] f fd) :
    ∃ fd, FnOk PG w K mg base (L2.CX PG w) 1 f fd ["self"] (spInner K n c) ∧ PySem.W.keepIn K (.ref f) = true ∧ Binds K fd ["self"] [] := by
  refine fnd ["self"] ["self"] F (by decide +kernel) (spP_len fun _ => rfl) (fun _ _ _ _ _ _ us h => by match us, h with | [_], _ => rfl) ?_
  rintro cdv A outer s H vs Q E hr ⟨⟨a, D⟩, rfl, ⟨ps, Ds, h1, h2, h3, h4, h5⟩, hQ⟩
  refine ⟨_, 
    (pss_cons (ps_ret (pe_tup pa_nil)) pss_nil), SS.here ?_⟩
  have hn : ps = [] ∧ Ds = [] := by
    match c, hc, h5 with
    | 0, _, ⟨_, _, _, e1, e2, _⟩ => exact ⟨e1, e2⟩
    | 1, _, ⟨_, _, _, e1, e2, _⟩ => exact ⟨e1, e2⟩
  obtain ⟨rfl, rfl⟩ := hn
  exact ss_retR (er_tupV ea_nil (by decide)) fun v H1 e1 ⟨p, e, _, e2⟩ => hQ v H1 e1 ⟨p, [], [], e, e2, .nil, h2, h3, h4⟩
theorem f_inner2 (T : Tx w K mg base) (n : Nat) : Met PG w K mg base 1 (He.ga K "Turned") "inner" (spInner K n 2) := by
  refine met_of (fnd ["self"] ["self"] T.d_Turned_inner (by decide +kernel) (spP_len fun _ => rfl) (fun _ _ _ _ _ _ us h => by match us, h with | [_], _ => rfl) ?_) T.c_Turned T.m_Turned_inner
  rintro cdv A outer s H vs Q E hr ⟨⟨a, D⟩, rfl, ⟨ps, Ds, h1, h2, h3, h4, dx, p, D', h5, rfl, rfl, h6⟩, hQ⟩
  refine ⟨_, 
    (pss_cons (ps_ret (pe_tup (pa_cons (pe_fldT T (pv 0)) pa_nil))) pss_nil), SS.here ?_⟩
  have hp : Fld K H a "part" (.ref p) := ⟨_, _, _, h5, T.c_Turned, T.n_Turned_part, rfl⟩
  exact ss_retR (er_tupV (vs := [.ref p]) (by walk_at "ev") (by simp)) fun v H1 e1 ⟨q, e, _, e2⟩ => hQ v H1 e1 ⟨q, [p], [D'], e, e2, h1, h2, h3, h4⟩
theorem f_inner3 (T : Tx w K mg base) (n c : Nat) (hc : c = 3 ∨ c = 4) : Met PG w K mg base 1 (He.ga K (pcls c)) "inner" (spInner K n c) := by
  have key : ∀ f : Addr, (∃ fd, FunD K "inner" "Group.inner" (defArgs s_Series_inner) (defBody s_Series_inner) (defScope s_Series_inner) [] [] f fd) → (∀ {H : Hp} {a : Addr} {ps : List Addr} {Ds : List Den} {h : (Str → Bool) → Bool}, Shape K H c a ps Ds h → ∃ t, Fld K H a "parts" (.ref t) ∧ H t = some (.tup (ps.map V.ref))) →
      ∃ fd, FnOk PG w K mg base (L2.CX PG w) 1 f fd ["self"] (spInner K n c) ∧ PySem.W.keepIn K (.ref f) = true ∧ Binds K fd ["self"] [] := by
    intro f F hs
    refine fnd ["self"] ["self"] F (by decide +kernel) (spP_len fun _ => rfl) (fun _ _ _ _ _ _ us h => by match us, h with | [_], _ => rfl) ?_
    rintro cdv A outer s H vs Q E hr ⟨⟨a, D⟩, rfl, ⟨ps, Ds, h1, h2, h3, h4, h5⟩, hQ⟩
    refine ⟨_, 
    (pss_cons (ps_ret (pe_fldT T (pv 0))) pss_nil), SS.here ?_⟩
    obtain ⟨t, ht, htt⟩ := hs h5
    exact ss_ret (v := .ref t) (by walk_at "ev") fun H1 e1 => hQ _ H1 e1 ⟨t, ps, Ds, rfl, e1 _ _ htt, h1, h2, h3, h4⟩
  rcases hc with rfl | rfl
  · exact met_of (key _ T.d_Series_inner fun ⟨dx, t, e, e2, _⟩ => ⟨t, ⟨_, _, _, e, T.c_Series, T.n_Series_parts, rfl⟩, e2⟩) T.c_Series T.m_Series_inner
  · exact met_of (key _ T.d_Branch_inner fun ⟨dx, t, e, e2, _⟩ => ⟨t, ⟨_, _, _, e, T.c_Branch, T.n_Branch_parts, rfl⟩, e2⟩) T.c_Branch T.m_Branch_inner
theorem m_inner (T : Tx w K mg base) (n c : Nat) (hc : c < 5) : Met PG w K mg base 1 (He.ga K (pcls c)) "inner" (spInner K n c) := by
  match c, hc with
  | 0, _ => exact met_of (f_inner0 T n 0 (by decide) T.d_Fixed_inner) T.c_Fixed T.m_Fixed_inner
  | 1, _ => exact met_of (f_inner0 T n 1 (by decide) T.d_Contact_inner) T.c_Contact T.m_Contact_inner
  | 2, _ => exact f_inner2 T n
  | 3, _ => exact f_inner3 T n 3 (.inl rfl)
  | 4, _ => exact f_inner3 T n 4 (.inr rfl)
end
end RgK
set_option Elab.async false
set_option linter.all false
set_option maxRecDepth 100000
set_option maxHeartbeats 4000000

/-! Parts: size, depth, bounded, holds. -/
namespace RgK
open PySem PySem.Spec PyProof.Rows L2 Evl
local macro_rules | `(tactic| walk_at "ev") => `(tactic| repeat' (first
  | with_reducible exact ev_c
  | with_reducible exact ea_nil
  | ((with_reducible apply ev_var); first | rfl | assumption)
  | with_reducible apply ea_cons
  | with_reducible apply ev_fld
  | ((with_reducible show Fld _ _ _ _ _); assumption)
  | with_reducible exact rv_I0
  | with_reducible exact ru_neg
  | with_reducible exact rv_eq rfl
  | with_reducible exact rv_ne rfl
  | ((with_reducible apply rv_I); first | decide | omega | assumption)
  | ((with_reducible show _ = _ → EvT _ _ _ _); intro _)
  | ((with_reducible show _ = _ → Ev _ _ _ _); intro _)
  | with_reducible apply et_and
  | with_reducible apply et_or
  | with_reducible apply ev_andV
  | with_reducible apply ev_orV
  | with_reducible apply et_test
  | with_reducible apply et_B
  | with_reducible apply et_not
  | with_reducible apply ev_notV
  | with_reducible apply ev_un
  | with_reducible apply ev_op))

section
variable {K : PySem.W.Frag} {σ : L2.St} {H : Hp} {D : Ends} {tz tu : TS} {te tl : TE} {g : TG} {t : TT}
/-- what is walked is made first -/
theorem er_lcIt {vs : List Nat} {Rl R : V → Hp → Prop} (h : EvR tl σ H Rl) (k : ∀ v H1, Ex H H1 → Rl v H1 → EvR (tLc (iSeq K (tC v)) g t te vs) σ H1 R) : EvR (tLc (iSeq K tl) g t te vs) σ H R :=
  fun H1 e1 Q q => h H1 e1 _ fun v H2 e2 hr => k v H2 (e1.trans e2) hr H2 (.refl _) Q fun u H3 e3 hu => q u H3 (e2.trans e3) hu
theorem ss_forIt {Rl : V → Hp → Prop} (h : EvR tl σ H Rl) (k : ∀ v H1, Ex H H1 → Rl v H1 → SS (tSeq (tFor (iSeq K (tC v)) g tu) tz) D σ H1) : SS (tSeq (tFor (iSeq K tl) g tu) tz) D σ H :=
  fun H1 e1 => h H1 e1 _ fun v H2 e2 hr => k v H2 (e1.trans e2) hr H2 (.refl _)
/-- a list of values, item by item beside another list -/
theorem er_lcP {α : Type} {G : Addr → α → Prop} {ps : List Addr} {Ds : List α} {k : Bool} {a : Addr} {j : Nat} {vs : List Nat} (f : α → V) (hp : Paired G ps Ds) (h : Ev tl σ H (.ref a)) (hx : Sq K k H a (ps.map V.ref)) (hn : ps.length ≤ 50000) (hw : ∀ x, wipe ((wipe σ vs).set j (some x)) vs = wipe σ vs)
    (hs : ∀ p D, G p D → Ev te ((wipe σ vs).set j (some (.ref p))) H (f D)) : EvR (tLc (iSeq K tl) (gName j) tYes (tHide te) vs) σ H (NewL H (Ds.map f)) := by
  have hl := paired_ref hp
  refine (er_lcV (fun i _ => ((Ds.map f)[i]?).getD .non) h hx (by rw [List.length_map]; exact hn) hw fun i x hi => ?_).imp fun v H2 _ ⟨p, e1, e2, e3⟩ => ⟨p, e1, e2, ?_⟩
  · rw [List.getElem?_map] at hi
    obtain ⟨p, hp', rfl⟩ := Option.map_eq_some_iff.mp hi
    obtain ⟨d, hd, gd⟩ := paired_get hp hp'
    rw [List.getElem?_map, hd]
    exact hs p d gd
  · rw [e3]
    congr 2
    refine List.ext_getElem? fun i => ?_
    rw [List.getElem?_mapIdx, List.getElem?_map, List.getElem?_map]
    by_cases hi : i < ps.length
    · rw [List.getElem?_eq_getElem hi, List.getElem?_eq_getElem (by omega : i < Ds.length)]
      rfl
    · rw [List.getElem?_eq_none (by omega : ps.length ≤ i), List.getElem?_eq_none (by omega : Ds.length ≤ i)]
      rfl
theorem er_cb1 {r : List V → Hp → VK → Prop} {Ra R : V → Hp → Prop} (h : EvR te σ H Ra) (hr : ∀ x H1, Ex H H1 → Ra x H1 → ∀ Q : VK, (∀ v H2, Ex H1 H2 → R v H2 → Q v H2) → r [x] H1 Q) : EvR (tCB r (tCons te tNil)) σ H R :=
  fun H1 e1 Q q => h H1 e1 _ fun x H2 e2 hx => hr x H2 (e1.trans e2) hx Q fun v H3 e3 hv => q v H3 (e2.trans e3) hv
theorem ev_cb1 {r : List V → Hp → VK → Prop} {Ra : V → Hp → Prop} {v : V} (h : EvR te σ H Ra) (hr : ∀ x H1, Ex H H1 → Ra x H1 → ∀ Q : VK, Q v H1 → r [x] H1 Q) : Ev (tCB r (tCons te tNil)) σ H v :=
  fun H1 e1 Q q => h H1 e1 _ fun x H2 e2 hx => hr x H2 (e1.trans e2) hx Q (q H2 e2)
theorem er_fn1 {C : Sp → Prop} {E : L2.St → XK} {Ra R : V → Hp → Prop} (h : EvR te σ H Ra) (hr : ∀ x H1, Ex H H1 → Ra x H1 → ∃ sp, C sp ∧ SpR sp [x] H1 R) : EvR (tFn C E (tCons te tNil)) σ H R :=
  fun H1 e1 Q q => h H1 e1 _ fun x H2 e2 hx => by
    obtain ⟨sp, c, s⟩ := hr x H2 (e1.trans e2) hx
    exact ⟨sp, c, s H2 (.refl _) _ (fun v H3 e3 hv => q v H3 (e2.trans e3) hv) _⟩
theorem ev_sumL {ns : List Int} (h : EvR te σ H (NewL H (ns.map V.int))) : Ev (tCB (rSum K) (tCons te tNil)) σ H (.int ns.sum) := ev_cb1 h fun x H1 e1 ⟨p, e, _, hp⟩ Q q => ⟨p, ns, by rw [e], .of hp, q⟩
theorem ev_allL {bs : List Bool} (h : EvR te σ H (NewL H (bs.map V.bl))) : Ev (tCB (rAll K) (tCons te tNil)) σ H (.bl (bs.all id)) := ev_cb1 h fun x H1 e1 ⟨p, e, _, hp⟩ Q q => ⟨p, bs, by rw [e], .of hp, q⟩
theorem ev_anyL {bs : List Bool} (h : EvR te σ H (NewL H (bs.map V.bl))) : Ev (tCB (rAny K) (tCons te tNil)) σ H (.bl (bs.any id)) := ev_cb1 h fun x H1 e1 ⟨p, e, _, hp⟩ Q q => ⟨p, bs, by rw [e], .of hp, q⟩
theorem le_maxL : ∀ {l : List Int} {y : Int}, y ∈ l → y ≤ maxL l
  | x :: l, y, h => by
    unfold maxL
    rw [List.foldr_cons]
    rcases List.mem_cons.mp h with rfl | h
    · exact Int.le_max_left _ _
    · exact Int.le_trans (le_maxL h) (Int.le_max_right _ _)
theorem maxL_mem : ∀ l : List Int, maxL l = 0 ∨ maxL l ∈ l
  | [] => .inl rfl
  | x :: l => by
    have e : maxL (x :: l) = max x (maxL l) := rfl
    rw [e]
    rcases maxL_mem l with h | h
    · rw [h]
      rcases Int.le_total x 0 with z | z
      · left; omega
      · right; rw [show max x 0 = x by omega]; exact List.mem_cons_self
    · right
      rcases Int.le_total x (maxL l) with z | z
      · rw [show max x (maxL l) = maxL l by omega]; exact List.mem_cons_of_mem _ h
      · rw [show max x (maxL l) = x by omega]; exact List.mem_cons_self
theorem maxL_ge (l : List Int) : 0 ≤ maxL l := by
  induction l with
  | nil => exact Int.le_refl _
  | cons x l ih => exact Int.le_trans ih (Int.le_max_right _ _)
theorem max0_r {x : V} {ns : List Int} {Q : VK} (h : ∃ p, x = .ref p ∧ H p = some (.lst ((0 :: ns).map V.int))) (q : Q (.int (maxL ns)) H) : rMax K [x] H Q := by
  obtain ⟨p, e, hp⟩ := h
  refine ⟨p, 0 :: ns, by rw [e], .of hp, Nat.succ_pos _, fun m hm hle => ?_⟩
  have : m = maxL ns := by
    have h1 : maxL ns ≤ m := by
      rcases maxL_mem ns with z | z
      · rw [z]; exact hle 0 List.mem_cons_self
      · exact hle _ (List.mem_cons_of_mem _ z)
    have h2 : m ≤ maxL ns := by
      rcases List.mem_cons.mp hm with rfl | z
      · exact maxL_ge ns
      · exact le_maxL z
    omega
  rw [this]
  exact q
theorem ev_max0 {ns : List Int} (h : EvR te σ H (NewL H ((0 :: ns).map V.int))) : Ev (tCB (rMax K) (tCons te tNil)) σ H (.int (maxL ns)) := ev_cb1 h fun x H1 e1 ⟨p, e, _, hp⟩ Q q => max0_r ⟨p, e, hp⟩ q
/-- two new lists, one behind another -/
theorem er_cat {ta tb : TE} {xs ys : List V} (h1 : EvR ta σ H (NewL H xs)) (h2 : ∀ H1, Ex H H1 → EvR tb σ H1 (NewL H1 ys)) (hz : xs.length + ys.length ≤ 100000) : EvR (tOp rCat ta tb) σ H (NewL H (xs ++ ys)) :=
  er_op h1 fun x H1 e1 ⟨p, e, _, hp⟩ => ⟨_, h2 H1 e1, fun y H2 e2 ⟨q, e', _, hq⟩ Q k => ⟨p, q, xs, ys, e, e', e2 _ _ hp, hq, sz_of hz, fun r hr => k _ _ (.new hr) ⟨r, rfl, fresh_back (e1.trans e2) hr, upd_same⟩⟩⟩
end
section
variable {w : World} {K : PySem.W.Frag} {mg : Mg} {base : Heap} {k : Nat}
/-! ### size(), depth() -/
def spSize (K : PySem.W.Frag) (n c : Nat) : Sp := spP (ι := Addr × Den) (fun i => [.ref i.1]) (fun i H => PartC K H (PartAt K H n) c i.1 i.2) (fun i H v H2 => v = .int i.2.s)
def spDepth (K : PySem.W.Frag) (n c : Nat) : Sp := spP (ι := Addr × Den) (fun i => [.ref i.1]) (fun i H => PartC K H (PartAt K H n) c i.1 i.2) (fun i H v H2 => v = .int i.2.d)
/-- a call of a method without arguments of a part, at any of the five classes -/
theorem er_part {m : Str} (T : Tx w K mg base) {n j : Nat} {σ : L2.St} {H : Hp} {ta : TE} {a : Addr} {Dn : Den} {E : L2.St → XK} {spf : Nat → Sp} {R : V → Hp → Prop} (hm : m ∈ ([("inner" : Str), "holds", "size", "depth", "bounded"] : List Str)) (ho : Ev ta σ H (.ref a))
    (hp : PartAt K H (n + 1) a Dn) (hM : ∀ c, c < 5 → Met PG w K mg base j (He.ga K (pcls c)) m (spf c)) (hs : ∀ c, PartC K H (PartAt K H n) c a Dn → SpR (spf c) [.ref a] H R) : EvR (tMe (Met PG w K mg base j) m E ta tNil) σ H R := by
  obtain ⟨c, pc⟩ := hp
  obtain ⟨ps, Ds, h1, h2, h3, h4, h5⟩ := id pc
  obtain ⟨hc, dx, f, v, hi, hf⟩ := T.pc h5
  exact er_meV ho hi (look_m hf hm) (hM c hc) ea_nil (hs c pc)
theorem spSize_r {n c : Nat} {a : Addr} {Dn : Den} {H : Hp} (p : PartC K H (PartAt K H n) c a Dn) : SpR (spSize K n c) [.ref a] H (fun v _ => v = .int Dn.s) :=
  spP_r (a, Dn) rfl (fun H1 e1 => p.im (.of e1) fun _ _ q => q.im (.of e1)) fun _ _ _ _ _ r => r
theorem spDepth_r {n c : Nat} {a : Addr} {Dn : Den} {H : Hp} (p : PartC K H (PartAt K H n) c a Dn) : SpR (spDepth K n c) [.ref a] H (fun v _ => v = .int Dn.d) :=
  spP_r (a, Dn) rfl (fun H1 e1 => p.im (.of e1) fun _ _ q => q.im (.of e1)) fun _ _ _ _ _ r => r
theorem spInner_r {n c : Nat} {a : Addr} {Dn : Den} {H : Hp} (p : PartC K H (PartAt K H n) c a Dn) : SpR (spInner K n c) [.ref a] H (fun v H2 => ∃ t ps Ds, v = .ref t ∧ H2 t = some (.tup (ps.map V.ref)) ∧ Paired (PartAt K H2 n) ps Ds ∧ ps.length ≤ 1000 ∧ Dn.s = 1 + (Ds.map (·.s)).sum ∧ Dn.d = 1 + maxL (Ds.map (·.d))) :=
  spP_r (a, Dn) rfl (fun H1 e1 => p.im (.of e1) fun _ _ q => q.im (.of e1)) fun H1 v H2 e1 e2 ⟨t, ps, Ds, h1, h2, h3, h4⟩ => ⟨t, ps, Ds, h1, h2, L2.Paired.mapP h3 fun _ _ q => q.im (.of e2), h4⟩
theorem sz (T : Tx w K mg base) (n : Nat) (ih : ∀ m, n = m + 1 → ∀ c, c < 5 → Met PG w K mg base (n + 1) (He.ga K (pcls c)) "size" (spSize K m c)) (c : Nat) (hc : c < 5) : Met PG w K mg base (n + 2) (He.ga K (pcls c)) "size" (spSize K n c) := by
  have key : ∀ f : Addr, (∃ fd, FunD K "size" "Part.size" (defArgs s_Fixed_size) (defBody s_Fixed_size) (defScope s_Fixed_size) [] [] f fd) →
      ∃ fd, FnOk PG w K mg base (L2.CX PG w) (n + 2) f fd ["self"] (spSize K n c) ∧ PySem.W.keepIn K (.ref f) = true ∧ Binds K fd ["self"] [] := by
    intro f F
    refine fnd ["self", "part"] ["self"] F (by decide +kernel) (spP_len fun _ => rfl) (fun _ _ _ _ _ _ us h => by match us, h with | [_], _ => rfl) ?_
    rintro cdv A outer s H vs Q E hr ⟨⟨a, Dn⟩, rfl, pc, hQ⟩
    have nd : (["self", "part"] : List Str).Nodup := by decide +kernel
    refine ⟨_, 
    (pss_cons (ps_ret (pe_op op_add pe_int (pe_callB (cr_sum rfl) (by rfl) T.f_sum (by decide +kernel) (pa_cons (pe_lc (own := [("part", 1)]) (g := gName 1) (tt := tYes) rfl nd (pi_seq (pe_me0 T hr pass0 (pv 0))) (blkOk_by (N := ["self", "part"]) (sc := defScope s_Fixed_size) (own := [("part", 1)]) (by decide +kernel)) (fun _ _ _ _ _ => (pg_name (i := 1) nd rfl (Or.inl rfl))) (fun _ _ _ _ _ => pts_nil) (fun _ _ _ _ _ => pe_hide (pe_me0 T hr pass0 (pv 1)))) pa_nil)))) pss_nil), SS.here ?_⟩
    have hp : PartAt K H (n + 1) a Dn := ⟨c, pc⟩
    refine ss_ret (v := .int (1 + (Dn.s - 1))) (ev_op ev_c ?_ rv_I0) fun H1 e1 => hQ _ H1 e1 (by show V.int _ = V.int _; congr 1; show 1 + (Dn.s - 1) = Dn.s; omega)
    refine ev_cb1 (Ra := fun v H2 => ∃ p, ∃ Ds : List Den, v = .ref p ∧ H2 p = some (.lst (Ds.map fun D => V.int D.s)) ∧ Dn.s = 1 + (Ds.map (·.s)).sum) ?_ fun x H1 e1 ⟨p, Ds, ex, hx, hs⟩ Q q => ⟨p, Ds.map (·.s), by rw [ex], .of (by rw [hx, List.map_map]; rfl), by rw [show Dn.s - 1 = (Ds.map (·.s)).sum by omega] at q; exact q⟩
    refine er_lcIt (er_part T (by decide +kernel) (ev_var rfl) hp (fun c hc => (m_inner T n c hc).mono (by omega)) fun c p => spInner_r p) fun v H1 e1 ⟨t, ps, Ds, ev, ht, hps, hl, hs, hd⟩ => ?_
    subst ev
    refine (er_lcP (k := false) (fun D => V.int D.s) hps ev_c (.of ht) (by omega) (fun _ => rfl) fun p D hp => ?_).imp fun v H2 _ ⟨p, e, _, h⟩ => ⟨p, Ds, e, h, hs⟩
    match n, ih, hp with
    | m + 1, ih, hp => exact (er_part T (by decide +kernel) (ev_var rfl) hp (fun c hc => ih m rfl c hc) fun c p => spSize_r p).ev
  match c, hc with
  | 0, _ => exact met_of (key _ T.d_Fixed_size) T.c_Fixed T.m_Fixed_size
  | 1, _ => exact met_of (key _ T.d_Contact_size) T.c_Contact T.m_Contact_size
  | 2, _ => exact met_of (key _ T.d_Turned_size) T.c_Turned T.m_Turned_size
  | 3, _ => exact met_of (key _ T.d_Series_size) T.c_Series T.m_Series_size
  | 4, _ => exact met_of (key _ T.d_Branch_size) T.c_Branch T.m_Branch_size
theorem m_size (T : Tx w K mg base) : ∀ n c, c < 5 → Met PG w K mg base (n + 2) (He.ga K (pcls c)) "size" (spSize K n c)
  | 0 => sz T 0 fun _ h => nomatch h
  | n + 1 => sz T (n + 1) fun m h c hc => by
    cases h
    exact m_size T n c hc
theorem dz (T : Tx w K mg base) (n : Nat) (ih : ∀ m, n = m + 1 → ∀ c, c < 5 → Met PG w K mg base (n + 1) (He.ga K (pcls c)) "depth" (spDepth K m c)) (c : Nat) (hc : c < 5) : Met PG w K mg base (n + 2) (He.ga K (pcls c)) "depth" (spDepth K n c) := by
  have key : ∀ f : Addr, (∃ fd, FunD K "depth" "Part.depth" (defArgs s_Fixed_depth) (defBody s_Fixed_depth) (defScope s_Fixed_depth) [] [] f fd) →
      ∃ fd, FnOk PG w K mg base (L2.CX PG w) (n + 2) f fd ["self"] (spDepth K n c) ∧ PySem.W.keepIn K (.ref f) = true ∧ Binds K fd ["self"] [] := by
    intro f F
    refine fnd ["self", "part"] ["self"] F (by decide +kernel) (spP_len fun _ => rfl) (fun _ _ _ _ _ _ us h => by match us, h with | [_], _ => rfl) ?_
    rintro cdv A outer s H vs Q E hr ⟨⟨a, Dn⟩, rfl, pc, hQ⟩
    have nd : (["self", "part"] : List Str).Nodup := by decide +kernel
    refine ⟨_, 
    (pss_cons (ps_ret (pe_op op_add pe_int (pe_callB (cr_max rfl) (by rfl) T.f_max (by decide +kernel) (pa_cons (pe_op op_cat (pe_lst (pa_cons pe_int pa_nil)) (pe_lc (own := [("part", 1)]) (g := gName 1) (tt := tYes) rfl nd (pi_seq (pe_me0 T hr pass0 (pv 0))) (blkOk_by (N := ["self", "part"]) (sc := defScope s_Fixed_depth) (own := [("part", 1)]) (by decide +kernel)) (fun _ _ _ _ _ => (pg_name (i := 1) nd rfl (Or.inl rfl))) (fun _ _ _ _ _ => pts_nil) (fun _ _ _ _ _ => pe_hide (pe_me0 T hr pass0 (pv 1))))) pa_nil)))) pss_nil), SS.here ?_⟩
    have hp : PartAt K H (n + 1) a Dn := ⟨c, pc⟩
    refine ss_ret (v := .int (1 + (Dn.d - 1))) (ev_op ev_c ?_ rv_I0) fun H1 e1 => hQ _ H1 e1 (by show V.int _ = V.int _; congr 1; show 1 + (Dn.d - 1) = Dn.d; omega)
    refine ev_cb1 (Ra := fun v H2 => ∃ p, ∃ Ds : List Den, v = .ref p ∧ H2 p = some (.lst ((0 :: Ds.map (·.d)).map V.int)) ∧ Dn.d = 1 + maxL (Ds.map (·.d))) ?_ fun x H1 e1 ⟨p, Ds, ex, hx, hs⟩ Q q => max0_r ⟨p, ex, hx⟩ (by rw [show Dn.d - 1 = maxL (Ds.map (·.d)) by omega] at q; exact q)
    refine er_op (er_lstV (vs := [.int 0]) (ea_cons ev_c ea_nil) (by decide)) fun x H1 e1 ⟨l, ex, _, hl⟩ => ⟨fun v H2 => ∃ p, ∃ Ds : List Den, v = .ref p ∧ H2 p = some (.lst (Ds.map fun D => V.int D.d)) ∧ Dn.d = 1 + maxL (Ds.map (·.d)) ∧ Ds.length ≤ 1000, ?_, fun y H2 e2 ⟨p, Ds, ey, hp, hs, hz⟩ Q q => ⟨l, p, _, _, ex, ey, e2 _ _ hl, hp, sz_of (by simp; omega), fun r hr => q _ _ (.new hr) ⟨r, Ds, rfl, by rw [upd_same, List.map_cons, List.map_map]; rfl, hs⟩⟩⟩
    have hp1 : PartAt K H1 (n + 1) a Dn := hp.im (.of e1)
    refine er_lcIt (er_part T (by decide +kernel) (ev_var rfl) hp1 (fun c hc => (m_inner T n c hc).mono (by omega)) fun c p => spInner_r p) fun v H2 e2 ⟨t, ps, Ds, ev, ht, hps, hl, hs, hd⟩ => ?_
    subst ev
    refine (er_lcP (k := false) (fun D => V.int D.d) hps ev_c (.of ht) (by omega) (fun _ => rfl) fun p D hp => ?_).imp fun v H2 _ ⟨p, e, _, h⟩ => ⟨p, Ds, e, h, hd, by rw [← paired_ref hps]; exact hl⟩
    match n, ih, hp with
    | m + 1, ih, hp => exact (er_part T (by decide +kernel) (ev_var rfl) hp (fun c hc => ih m rfl c hc) fun c p => spDepth_r p).ev
  match c, hc with
  | 0, _ => exact met_of (key _ T.d_Fixed_depth) T.c_Fixed T.m_Fixed_depth
  | 1, _ => exact met_of (key _ T.d_Contact_depth) T.c_Contact T.m_Contact_depth
  | 2, _ => exact met_of (key _ T.d_Turned_depth) T.c_Turned T.m_Turned_depth
  | 3, _ => exact met_of (key _ T.d_Series_depth) T.c_Series T.m_Series_depth
  | 4, _ => exact met_of (key _ T.d_Branch_depth) T.c_Branch T.m_Branch_depth
theorem m_depth (T : Tx w K mg base) : ∀ n c, c < 5 → Met PG w K mg base (n + 2) (He.ga K (pcls c)) "depth" (spDepth K n c)
  | 0 => dz T 0 fun _ h => nomatch h
  | n + 1 => dz T (n + 1) fun m h c hc => by
    cases h
    exact m_depth T n c hc
end
end RgK
set_option Elab.async false
set_option linter.all false
set_option maxRecDepth 100000
set_option maxHeartbeats 4000000

/-! Parts: bounded, holds; what makes parts and ends. -/
namespace RgK
open PySem PySem.Spec PyProof.Rows L2 Evl
local macro_rules | `(tactic| walk_at "ev") => `(tactic| repeat' (first
  | with_reducible exact ev_c
  | with_reducible exact ea_nil
  | ((with_reducible apply ev_var); first | rfl | assumption)
  | with_reducible apply ea_cons
  | with_reducible apply ev_fld
  | ((with_reducible show Fld _ _ _ _ _); assumption)
  | with_reducible exact rv_I0
  | with_reducible exact ru_neg
  | with_reducible exact rv_eq rfl
  | with_reducible exact rv_ne rfl
  | ((with_reducible apply rv_I); first | decide | omega | assumption)
  | ((with_reducible show _ = _ → EvT _ _ _ _); intro _)
  | ((with_reducible show _ = _ → Ev _ _ _ _); intro _)
  | with_reducible apply et_and
  | with_reducible apply et_or
  | with_reducible apply ev_andV
  | with_reducible apply ev_orV
  | with_reducible apply et_test
  | with_reducible apply et_B
  | with_reducible apply et_not
  | with_reducible apply ev_notV
  | with_reducible apply ev_un
  | with_reducible apply ev_op))

/-! ### __init__: the promise at a new instance -/
def spM {ι : Type} (C : Addr) (args : ι → List V) (pre : ι → Hp → Prop) (R : ι → Addr → Hp → Prop) : Sp := fun vs H Q _ => ∃ i H0 a dx, vs = .ref a :: args i ∧ H = upd (upd H0 dx (.own a)) a (.ins C dx []) ∧ H0 a = none ∧ H0 dx = none ∧ dx ≠ a ∧ pre i H0 ∧ ∀ H2, Ex H0 H2 → R i a H2 → Q .non H2
theorem spM_len {ι : Type} {C : Addr} {args : ι → List V} {pre : ι → Hp → Prop} {R : ι → Addr → Hp → Prop} {n : Nat} (h : ∀ i, (args i).length = n) : ∀ vs H Q E, spM C args pre R vs H Q E → vs.length = n + 1 := fun vs H Q E ⟨i, _, _, _, e, _⟩ => by rw [e, List.length_cons, h i]
theorem ex_made {H0 : Hp} {a dx : Addr} {o u : HO} (h1 : H0 a = none) (h2 : H0 dx = none) : Ex H0 (upd (upd H0 dx o) a u) := (Ex.new h2).mut h1
section
variable {σ : L2.St} {H : Hp} {tr : TA}
theorem er_mkM {ι : Type} {C : Addr} {args : ι → List V} {pre : ι → Hp → Prop} {R : ι → Addr → Hp → Prop} {MO : Sp → Prop} {E : L2.St → XK} {Ra : List V → Hp → Prop} {R' : V → Hp → Prop} (hm : MO (spM C args pre R)) (ha : EvAR tr σ H Ra)
    (h : ∀ vs H1, Ex H H1 → Ra vs H1 → ∃ i, vs = args i ∧ pre i H1 ∧ ∀ a H2, H a = none → Ex H1 H2 → R i a H2 → R' (.ref a) H2) : EvR (tMk C MO E tr) σ H R' :=
  er_mk ha fun vs H1 e1 hv => by
    obtain ⟨i, e, hp, hr⟩ := h vs H1 e1 hv
    exact ⟨_, hm, fun x dx h1 h2 h3 Q q E => ⟨i, H1, x, dx, by rw [e], rfl, h1, h2, h3, hp, fun H2 e2 r => q H2 e2 (hr x H2 (fresh_back e1 h1) e2 r)⟩⟩
end
section
variable {w : World} {K : PySem.W.Frag} {mg : Mg} {base : Heap} {k : Nat}
theorem er_partA {m : Str} (T : Tx w K mg base) {n j : Nat} {σ : L2.St} {H : Hp} {ta : TE} {tr : TA} {vs : List V} {a : Addr} {Dn : Den} {E : L2.St → XK} {spf : Nat → Sp} {R : V → Hp → Prop} (hm : m ∈ ([("inner" : Str), "holds", "size", "depth", "bounded"] : List Str)) (ho : Ev ta σ H (.ref a))
    (hp : PartAt K H (n + 1) a Dn) (hM : ∀ c, c < 5 → Met PG w K mg base j (He.ga K (pcls c)) m (spf c)) (ha : EvA tr σ H vs) (hs : ∀ c, PartC K H (PartAt K H n) c a Dn → SpR (spf c) (.ref a :: vs) H R) : EvR (tMe (Met PG w K mg base j) m E ta tr) σ H R := by
  obtain ⟨c, pc⟩ := hp
  obtain ⟨ps, Ds, h1, h2, h3, h4, h5⟩ := id pc
  obtain ⟨hc, dx, f, v, hi, hf⟩ := T.pc h5
  exact er_meV ho hi (look_m hf hm) (hM c hc) ha (hs c pc)
/-! ### bounded() -/
def spBounded (K : PySem.W.Frag) (n c : Nat) : Sp := spP (ι := Addr × Den) (fun i => [.ref i.1]) (fun i H => PartC K H (PartAt K H n) c i.1 i.2 ∧ i.2.s ≤ 60 ∧ i.2.d ≤ 20) (fun i H v H2 => v = .non)
theorem m_bounded (T : Tx w K mg base) (n c : Nat) (hc : 2 ≤ c ∧ c < 5) : Met PG w K mg base (n + 3) (He.ga K (pcls c)) "bounded" (spBounded K n c) := by
  have key : ∀ f : Addr, (∃ fd, FunD K "bounded" "Part.bounded" (defArgs s_Turned_bounded) (defBody s_Turned_bounded) (defScope s_Turned_bounded) [] [] f fd) →
      ∃ fd, FnOk PG w K mg base (L2.CX PG w) (n + 3) f fd ["self"] (spBounded K n c) ∧ PySem.W.keepIn K (.ref f) = true ∧ Binds K fd ["self"] [] := by
    intro f F
    refine fnd ["self"] ["self"] F (by decide +kernel) (spP_len fun _ => rfl) (fun _ _ _ _ _ _ us h => by match us, h with | [_], _ => rfl) ?_
    rintro cdv A outer s H vs Q E hr ⟨⟨a, Dn⟩, rfl, ⟨pc, hs, hd⟩, hQ⟩
    have nd : (["self"] : List Str).Nodup := by decide +kernel
    refine ⟨_, 
    (pss_cons (ps_if (PW.pt (pw_or (pt_cmpR op_gt (pe_me0 T hr pass0 (pv 0)) (pe_globI (by rfl) T.i_MOST_SIZE) (nomark _)) (pw_or1 (pt_cmpR op_gt (pe_me0 T hr pass0 (pv 0)) (pe_globI (by rfl) T.i_MOST_DEEP) (nomark _))))) 
    (pss_cons (ps_raise rfl (takes_of rfl rfl rfl rfl) (pmk_own PySem.F.excBase_ValueError T.e_NoPart.1 T.g_NoPart T.e_NoPart.2.1 (raises_own T.e_NoPart.2.2.1 T.e_NoPart.2.2.2) (by rfl))) pss_nil) pss_nil) pss_nil), SS.here ?_⟩
    have hp : PartAt K H (n + 1) a Dn := ⟨c, pc⟩
    refine ss_when (b := decide (60 < Dn.s) || decide (20 < Dn.d)) (et_or (et_test (ev_op ?_ ev_c rv_I0)) fun _ => et_test (ev_op ?_ ev_c rv_I0)) (fun z => ?_) fun _ => ss_end fun H1 e1 => hQ _ H1 e1 rfl
    · exact (er_part T (by decide +kernel) (ev_var rfl) hp (fun c hc => (m_size T n c hc).mono (Nat.le_refl _)) fun c p => spSize_r p).ev
    · exact (er_part T (by decide +kernel) (ev_var rfl) hp (fun c hc => (m_depth T n c hc).mono (Nat.le_refl _)) fun c p => spDepth_r p).ev
    · have h1 : Dn.s ≤ 60 := hs
      have h2 : Dn.d ≤ 20 := hd
      rw [decide_eq_false (by omega), decide_eq_false (by omega)] at z
      cases z
  match c, hc with
  | 2, _ => exact met_of (key _ T.d_Turned_bounded) T.c_Turned T.m_Turned_bounded
  | 3, _ => exact met_of (key _ T.d_Series_bounded) T.c_Series T.m_Series_bounded
  | 4, _ => exact met_of (key _ T.d_Branch_bounded) T.c_Branch T.m_Branch_bounded
/-! ### holds(image) -/
def spHolds (K : PySem.W.Frag) (n c : Nat) : Sp := spP (ι := Addr × Den × Addr × (Str → Bool)) (fun i => [.ref i.1, .ref i.2.2.1]) (fun i H => PartC K H (PartAt K H n) c i.1 i.2.1 ∧ ImgAt H i.2.2.1 i.2.2.2) (fun i H v H2 => v = .bl (i.2.1.h i.2.2.2))
theorem spHolds_r {n c : Nat} {a d : Addr} {Dn : Den} {H : Hp} {β : Str → Bool} (p : PartC K H (PartAt K H n) c a Dn) (i : ImgAt H d β) : SpR (spHolds K n c) [.ref a, .ref d] H (fun v _ => v = .bl (Dn.h β)) :=
  spP_r (a, Dn, d, β) rfl (fun H1 e1 => ⟨p.im (.of e1) fun _ _ q => q.im (.of e1), i.ex e1⟩) fun _ _ _ _ _ r => r
theorem m_holds0 (T : Tx w K mg base) (n : Nat) : Met PG w K mg base 1 (He.ga K "Fixed") "holds" (spHolds K n 0) := by
  refine met_of (fnd ["self", "image"] ["self", "image"] T.d_Fixed_holds (by decide +kernel) (spP_len fun _ => rfl) (fun _ _ _ _ _ _ us h => by match us, h with | [_, _], _ => rfl) ?_) T.c_Fixed T.m_Fixed_holds
  rintro cdv A outer s H vs Q E hr ⟨⟨a, Dn, d, β⟩, rfl, ⟨⟨ps, Ds, h1, h2, h3, h4, dx, b, hi, _, _, hh⟩, im⟩, hQ⟩
  refine ⟨_, 
    (pss_cons (ps_ret (pe_fldT T (pv 0))) pss_nil), SS.here ?_⟩
  have hv : Fld K H a "value" (.bl b) := ⟨_, _, _, hi, T.c_Fixed, T.n_Fixed_value, rfl⟩
  exact ss_ret (v := .bl b) (by walk_at "ev") fun H1 e1 => hQ _ H1 e1 (by show _ = V.bl (Dn.h β); rw [show Dn.h = _ from hh])
theorem m_holds1 (T : Tx w K mg base) (n : Nat) : Met PG w K mg base 1 (He.ga K "Contact") "holds" (spHolds K n 1) := by
  refine met_of (fnd ["self", "image"] ["self", "image"] T.d_Contact_holds (by decide +kernel) (spP_len fun _ => rfl) (fun _ _ _ _ _ _ us h => by match us, h with | [_, _], _ => rfl) ?_) T.c_Contact T.m_Contact_holds
  rintro cdv A outer s H vs Q E hr ⟨⟨a, Dn, d, β⟩, rfl, ⟨⟨ps, Ds, h1, h2, h3, h4, dx, x, hi, _, _, hh⟩, ⟨kvs, hk, him⟩⟩, hQ⟩
  refine ⟨_, 
    (pss_cons (ps_ret (pe_dget2 (hu_of hr) (pv 1) (pe_fldT T (pv 0)) pe_bl ⟨rfl, rfl, rfl, rfl⟩)) pss_nil), SS.here ?_⟩
  have hv : Fld K H a "name" (.str x) := ⟨_, _, _, hi, T.c_Contact, T.n_Contact_name, rfl⟩
  exact ss_ret (ev_dget2 (ev_var rfl) (.inl ⟨kvs, .of hk⟩) (ev_fld (ev_var rfl) hv) ev_c (.k (k := .inr x) hk)) fun H1 e1 => hQ _ H1 e1 (by show _ = V.bl (Dn.h β); rw [show Dn.h = _ from hh]; exact him x)
theorem m_holds2 (T : Tx w K mg base) (n : Nat) (ih : ∀ m, n = m + 1 → ∀ c, c < 5 → Met PG w K mg base (n + 1) (He.ga K (pcls c)) "holds" (spHolds K m c)) : Met PG w K mg base (n + 2) (He.ga K "Turned") "holds" (spHolds K n 2) := by
  refine met_of (fnd ["self", "image"] ["self", "image"] T.d_Turned_holds (by decide +kernel) (spP_len fun _ => rfl) (fun _ _ _ _ _ _ us h => by match us, h with | [_, _], _ => rfl) ?_) T.c_Turned T.m_Turned_holds
  rintro cdv A outer s H vs Q E hr ⟨⟨a, Dn, d, β⟩, rfl, ⟨⟨ps, Ds, h1, h2, h3, h4, dx, p, D', hi, rfl, rfl, hh⟩, im⟩, hQ⟩
  refine ⟨_, 
    (pss_cons (ps_ret (pe_not (pe_me T hr pass0 (pe_fldT T (pv 0)) (pa_cons (pv 1) pa_nil)))) pss_nil), SS.here ?_⟩
  have hv : Fld K H a "part" (.ref p) := ⟨_, _, _, hi, T.c_Turned, T.n_Turned_part, rfl⟩
  have hp : PartAt K H n p D' := by cases h1; assumption
  refine ss_ret (v := .bl (!D'.h β)) (ev_notV ?_) fun H1 e1 => hQ _ H1 e1 (by show _ = V.bl (Dn.h β); rw [show Dn.h = _ from hh])
  match n, ih, hp with
  | m + 1, ih, hp => exact (er_partA T (by decide +kernel) (ev_fld (ev_var rfl) hv) hp (fun c hc => ih m rfl c hc) (ea_cons (ev_var rfl) ea_nil) fun c p => spHolds_r p im).ev
theorem m_holds3 (T : Tx w K mg base) (n : Nat) (ih : ∀ m, n = m + 1 → ∀ c, c < 5 → Met PG w K mg base (n + 1) (He.ga K (pcls c)) "holds" (spHolds K m c)) : Met PG w K mg base (n + 2) (He.ga K "Series") "holds" (spHolds K n 3) := by
  refine met_of (fnd ["self", "image", "part"] ["self", "image"] T.d_Series_holds (by decide +kernel) (spP_len fun _ => rfl) (fun _ _ _ _ _ _ us h => by match us, h with | [_, _], _ => rfl) ?_) T.c_Series T.m_Series_holds
  rintro cdv A outer s H vs Q E hr ⟨⟨a, Dn, d, β⟩, rfl, ⟨⟨ps, Ds, h1, h2, h3, h4, dx, t, hi, ht, hh⟩, im⟩, hQ⟩
  have nd : (["self", "image", "part"] : List Str).Nodup := by decide +kernel
  refine ⟨_, 
    (pss_cons (ps_ret (pe_callB (cr_all rfl) (by rfl) T.f_all (by decide +kernel) (pa_cons (pe_lc (own := [("part", 2)]) (g := gName 2) (tt := tYes) rfl nd (pi_seq (pe_fldT T (pv 0))) (blkOk_by (N := ["self", "image", "part"]) (sc := defScope s_Series_holds) (own := [("part", 2)]) (by decide +kernel)) (fun _ _ _ _ _ => (pg_name (i := 2) nd rfl (Or.inl rfl))) (fun _ _ _ _ _ => pts_nil) (fun _ _ _ _ _ => pe_hide (pe_me T hr pass0 (pv 2) (pa_cons (pv 1) pa_nil)))) pa_nil))) pss_nil), SS.here ?_⟩
  have hv : Fld K H a "parts" (.ref t) := ⟨_, _, _, hi, T.c_Series, T.n_Series_parts, rfl⟩
  refine ss_ret (v := .bl ((Ds.map fun D => D.h β).all id)) (ev_allL ((er_lcP (k := false) (fun D => V.bl (D.h β)) h1 (ev_fld (ev_var rfl) hv) (.of ht) (by omega) (fun _ => rfl) fun p D hp => ?_).imp fun v H2 _ h => by rw [List.map_map]; exact h)) fun H1 e1 => hQ _ H1 e1 (by show _ = V.bl (Dn.h β); rw [show Dn.h = _ from hh, List.all_map]; rfl)
  match n, ih, hp with
  | m + 1, ih, hp => exact (er_partA T (by decide +kernel) (ev_var rfl) hp (fun c hc => ih m rfl c hc) (ea_cons (ev_var rfl) ea_nil) fun c p => spHolds_r p im).ev
theorem m_holds4 (T : Tx w K mg base) (n : Nat) (ih : ∀ m, n = m + 1 → ∀ c, c < 5 → Met PG w K mg base (n + 1) (He.ga K (pcls c)) "holds" (spHolds K m c)) : Met PG w K mg base (n + 2) (He.ga K "Branch") "holds" (spHolds K n 4) := by
  refine met_of (fnd ["self", "image", "part"] ["self", "image"] T.d_Branch_holds (by decide +kernel) (spP_len fun _ => rfl) (fun _ _ _ _ _ _ us h => by match us, h with | [_, _], _ => rfl) ?_) T.c_Branch T.m_Branch_holds
  rintro cdv A outer s H vs Q E hr ⟨⟨a, Dn, d, β⟩, rfl, ⟨⟨ps, Ds, h1, h2, h3, h4, dx, t, hi, ht, hh⟩, im⟩, hQ⟩
  have nd : (["self", "image", "part"] : List Str).Nodup := by decide +kernel
  refine ⟨_, 
    (pss_cons (ps_ret (pe_callB (cr_any rfl) (by rfl) T.f_any (by decide +kernel) (pa_cons (pe_lc (own := [("part", 2)]) (g := gName 2) (tt := tYes) rfl nd (pi_seq (pe_fldT T (pv 0))) (blkOk_by (N := ["self", "image", "part"]) (sc := defScope s_Branch_holds) (own := [("part", 2)]) (by decide +kernel)) (fun _ _ _ _ _ => (pg_name (i := 2) nd rfl (Or.inl rfl))) (fun _ _ _ _ _ => pts_nil) (fun _ _ _ _ _ => pe_hide (pe_me T hr pass0 (pv 2) (pa_cons (pv 1) pa_nil)))) pa_nil))) pss_nil), SS.here ?_⟩
  have hv : Fld K H a "parts" (.ref t) := ⟨_, _, _, hi, T.c_Branch, T.n_Branch_parts, rfl⟩
  refine ss_ret (v := .bl ((Ds.map fun D => D.h β).any id)) (ev_anyL ((er_lcP (k := false) (fun D => V.bl (D.h β)) h1 (ev_fld (ev_var rfl) hv) (.of ht) (by omega) (fun _ => rfl) fun p D hp => ?_).imp fun v H2 _ h => by rw [List.map_map]; exact h)) fun H1 e1 => hQ _ H1 e1 (by show _ = V.bl (Dn.h β); rw [show Dn.h = _ from hh, List.any_map]; rfl)
  match n, ih, hp with
  | m + 1, ih, hp => exact (er_partA T (by decide +kernel) (ev_var rfl) hp (fun c hc => ih m rfl c hc) (ea_cons (ev_var rfl) ea_nil) fun c p => spHolds_r p im).ev
theorem hz (T : Tx w K mg base) (n : Nat) (ih : ∀ m, n = m + 1 → ∀ c, c < 5 → Met PG w K mg base (n + 1) (He.ga K (pcls c)) "holds" (spHolds K m c)) (c : Nat) (hc : c < 5) : Met PG w K mg base (n + 2) (He.ga K (pcls c)) "holds" (spHolds K n c) := by
  match c, hc with
  | 0, _ => exact (m_holds0 T n).mono (by omega)
  | 1, _ => exact (m_holds1 T n).mono (by omega)
  | 2, _ => exact m_holds2 T n ih
  | 3, _ => exact m_holds3 T n ih
  | 4, _ => exact m_holds4 T n ih
theorem m_holds (T : Tx w K mg base) : ∀ n c, c < 5 → Met PG w K mg base (n + 2) (He.ga K (pcls c)) "holds" (spHolds K n c)
  | 0 => hz T 0 fun _ h => nomatch h
  | n + 1 => hz T (n + 1) fun m h c hc => by
    cases h
    exact m_holds T n c hc
/-! ### parts are made -/
def mkFixed (K : PySem.W.Frag) : Sp := spM (ι := Bool) (He.ga K "Fixed") (fun b => [.bl b]) (fun _ _ => True) (fun b a H2 => ∃ dx, H2 a = some (.ins (He.ga K "Fixed") dx [("value", .bl b)]))
theorem k_Fixed (T : Tx w K mg base) : Mak PG w K mg base 1 (He.ga K "Fixed") (mkFixed K) := by
  refine mak_of (fnd ["self", "value"] ["self", "value"] T.d_Fixed_init (by decide +kernel) (spM_len fun _ => rfl) (fun _ _ _ _ _ _ us h => by match us, h with | [_, _], _ => rfl) ?_) T.k_Fixed
  rintro cdv A outer s H vs Q E hr ⟨b, H0, a, dx, rfl, rfl, h1, h2, h3, -, hQ⟩
  have nd : (["self", "value"] : List Str).Nodup := by decide +kernel
  refine ⟨_, 
    (pss_cons (ps_fld (pv 0) (pv 1) rfl) pss_nil), SS.here ?_⟩
  exact ss_fld (ev_var rfl) (ev_var rfl) upd_same T.c_Fixed T.n_Fixed_value (by decide) (ss_end fun H1 e1 => hQ H1 (Ex.trans ((ex_made h1 h2).mut h1) e1) ⟨dx, e1 _ _ upd_same⟩)
def mkContact (K : PySem.W.Frag) : Sp := spM (ι := Str) (He.ga K "Contact") (fun x => [.str x]) (fun x _ => x.length ≤ 100000 ∧ nameB x = true) (fun x a H2 => ∃ dx, H2 a = some (.ins (He.ga K "Contact") dx [("name", .str x)]))
theorem k_Contact (T : Tx w K mg base) : Mak PG w K mg base 3 (He.ga K "Contact") (mkContact K) := by
  refine mak_of (fnd ["self", "name"] ["self", "name"] T.d_Contact_init (by decide +kernel) (spM_len fun _ => rfl) (fun _ _ _ _ _ _ us h => by match us, h with | [_, _], _ => rfl) ?_) T.k_Contact
  rintro cdv A outer s H vs Q E hr ⟨x, H0, a, dx, rfl, rfl, h1, h2, h3, ⟨hz, hv⟩, hQ⟩
  have nd : (["self", "name"] : List Str).Nodup := by decide +kernel
  refine ⟨_, 
    (pss_cons (ps_if (pt_not (pt_val (pe_fn T hr (by rfl) T.g_is_name pass0 T.kp_is_name (pa_cons (pv 1) pa_nil)))) 
    (pss_cons (ps_raise rfl (takes_of rfl rfl rfl rfl) (pmk_own PySem.F.excBase_ValueError T.e_NoName.1 T.g_NoName T.e_NoName.2.1 (raises_own T.e_NoName.2.2.1 T.e_NoName.2.2.2) (by rfl))) pss_nil) pss_nil) 
    (pss_cons (ps_fld (pv 0) (pv 1) rfl) pss_nil)), SS.here ?_⟩
  refine ss_when (b := false) (et_is (et_not (et_B (ev_fnV (ea_cons (ev_var rfl) ea_nil) (c_is_name T) (spP_r x rfl (fun _ _ => hz) fun _ v _ _ _ r => r)))) (by rw [hv]; rfl)) (fun z => nomatch z) fun _ => ?_
  exact ss_fld (ev_var rfl) (ev_var rfl) upd_same T.c_Contact T.n_Contact_name (by decide) (ss_end fun H1 e1 => hQ H1 (Ex.trans ((ex_made h1 h2).mut h1) e1) ⟨dx, e1 _ _ upd_same⟩)
def mkTurned (K : PySem.W.Frag) (n : Nat) : Sp := spM (ι := Addr × Den) (He.ga K "Turned") (fun i => [.ref i.1]) (fun i H => PartAt K H n i.1 i.2 ∧ 1 + i.2.s ≤ 60 ∧ 1 + maxL [i.2.d] ≤ 20) (fun i a H2 => ∃ dx, H2 a = some (.ins (He.ga K "Turned") dx [("part", .ref i.1)]))
theorem k_Turned (T : Tx w K mg base) (n : Nat) : Mak PG w K mg base (n + 4) (He.ga K "Turned") (mkTurned K n) := by
  refine mak_of (fnd ["self", "part"] ["self", "part"] T.d_Turned_init (by decide +kernel) (spM_len fun _ => rfl) (fun _ _ _ _ _ _ us h => by match us, h with | [_, _], _ => rfl) ?_) T.k_Turned
  rintro cdv A outer s H vs Q E hr ⟨⟨p, Dn⟩, H0, a, dx, rfl, rfl, h1, h2, h3, ⟨hp, hs, hd⟩, hQ⟩
  have nd : (["self", "part"] : List Str).Nodup := by decide +kernel
  refine ⟨_, 
    (pss_cons (ps_fld (pv 0) (pv 1) rfl) 
    (pss_cons (ps_expr (pe_me0 T hr pass0 (pv 0))) pss_nil)), SS.here ?_⟩
  refine ss_fld (ev_var rfl) (ev_var rfl) upd_same T.c_Turned T.n_Turned_part (by decide) ?_
  have e0 : Ex H0 (upd (upd (upd H0 dx (.own a)) a (.ins (He.ga K "Turned") dx [])) a (.ins (He.ga K "Turned") dx [("part", .ref p)])) := (ex_made h1 h2).mut h1
  have pc : PartC K (upd (upd (upd H0 dx (.own a)) a (.ins (He.ga K "Turned") dx [])) a (.ins (He.ga K "Turned") dx [("part", .ref p)])) (PartAt K (upd (upd (upd H0 dx (.own a)) a (.ins (He.ga K "Turned") dx [])) a (.ins (He.ga K "Turned") dx [("part", .ref p)])) n) 2 a ⟨fun β => !Dn.h β, 1 + Dn.s, 1 + maxL [Dn.d]⟩ :=
    ⟨[p], [Dn], .cons (hp.im (.of e0)) .nil, by simp, by simp, rfl, dx, p, Dn, upd_same, rfl, rfl, rfl⟩
  refine ss_dropR (R := fun _ _ => True) (er_meV (ev_var rfl) upd_same (by rfl) (m_bounded T n 2 (by decide)) ea_nil (spP_r (R' := fun _ _ => True) (a, ⟨fun β => !Dn.h β, 1 + Dn.s, 1 + maxL [Dn.d]⟩) rfl (fun H1 e1 => ⟨pc.im (.of e1) fun _ _ q => q.im (.of e1), hs, hd⟩) fun _ _ _ _ _ _ => trivial)) fun v H1 e1 _ => ss_end fun H2 e2 => hQ H2 (e0.trans (e1.trans e2)) ⟨dx, e2 _ _ (e1 _ _ upd_same)⟩
def mkGroup (K : PySem.W.Frag) (n c : Nat) : Sp := spM (ι := Addr × List Addr × List Den) (He.ga K (pcls c)) (fun i => [.ref i.1]) (fun i H => H i.1 = some (.lst (i.2.1.map V.ref)) ∧ Paired (PartAt K H n) i.2.1 i.2.2 ∧ 2 ≤ i.2.1.length ∧ i.2.1.length ≤ 1000 ∧ 1 + (i.2.2.map (·.s)).sum ≤ 60 ∧ 1 + maxL (i.2.2.map (·.d)) ≤ 20)
  (fun i a H2 => ∃ dx t, H2 a = some (.ins (He.ga K (pcls c)) dx [("parts", .ref t)]) ∧ H2 t = some (.tup (i.2.1.map V.ref)))
theorem k_Group (T : Tx w K mg base) (n c : Nat) (hc : c = 3 ∨ c = 4) : Mak PG w K mg base (n + 4) (He.ga K (pcls c)) (mkGroup K n c) := by
  have key : ∀ f : Addr, (∃ fd, FunD K "__init__" "Group.__init__" (defArgs s_Series_init) (defBody s_Series_init) (defScope s_Series_init) [] [] f fd) → Cls K (He.ga K (pcls c)) → NoAttr K (He.ga K (pcls c)) "parts" →
      ∃ fd, FnOk PG w K mg base (L2.CX PG w) (n + 4) f fd ["self", "parts"] (mkGroup K n c) ∧ PySem.W.keepIn K (.ref f) = true ∧ Binds K fd ["self", "parts"] [] := by
    intro f F cl na
    refine fnd ["self", "parts"] ["self", "parts"] F (by decide +kernel) (spM_len fun _ => rfl) (fun _ _ _ _ _ _ us h => by match us, h with | [_, _], _ => rfl) ?_
    rintro cdv A outer s H vs Q E hr ⟨⟨l, ps, Ds⟩, H0, a, dx, rfl, rfl, h1, h2, h3, ⟨hl, hp, h2p, hlp, hs, hd⟩, hQ⟩
    have hl : H0 l = some (.lst (ps.map V.ref)) := hl
    have hp : Paired (PartAt K H0 n) ps Ds := hp
    have h2p : 2 ≤ ps.length := h2p
    have hlp : ps.length ≤ 1000 := hlp
    have nd : (["self", "parts"] : List Str).Nodup := by decide +kernel
    refine ⟨_, 
    (pss_cons (ps_if (pt_cmpR op_lt (pe_callB call_len_seq (by rfl) T.f_len (by decide +kernel) (pa_cons (pv 1) pa_nil)) pe_int (nomark _)) 
    (pss_cons (ps_raise rfl (takes_of rfl rfl rfl rfl) (pmk_own PySem.F.excBase_ValueError T.e_NoPart.1 T.g_NoPart T.e_NoPart.2.1 (raises_own T.e_NoPart.2.2.1 T.e_NoPart.2.2.2) (by rfl))) pss_nil) pss_nil) 
    (pss_cons (ps_fld (pv 0) (pe_callTy call_tuple_of (by rfl) T.f_tuple (by decide +kernel) (pa_cons (pv 1) pa_nil)) rfl) 
    (pss_cons (ps_expr (pe_me0 T hr pass0 (pv 0))) pss_nil))), SS.here ?_⟩
    have e0 : Ex H0 (upd (upd H0 dx (.own a)) a (.ins (He.ga K (pcls c)) dx [])) := ex_made h1 h2
    have hl0 := e0 _ _ hl
    refine ss_when (b := decide (((ps.map V.ref).length : Int) < 2)) (et_test (ev_op (ev_cb1 (ev_rel (ev_var rfl)) fun x H1 e1 ex Q q => ⟨l, ps.map V.ref, by rw [ex], .inl (.of (e1 _ _ hl0)), q⟩) ev_c rv_I0)) (fun z => ?_) fun _ => ?_
    · have := of_decide_eq_true z
      rw [List.length_map] at this
      omega
    refine ss_fldR (er_cb1 (R := NewT (upd (upd H0 dx (.own a)) a (.ins (He.ga K (pcls c)) dx [])) (ps.map V.ref)) (ev_rel (ev_var rfl)) fun x H1 e1 ex Q q => ⟨l, ps.map V.ref, by rw [ex], .inl ⟨.of (e1 _ _ hl0), fun t ht => q _ _ (.new ht) ⟨t, rfl, fresh_back e1 ht, upd_same⟩⟩⟩) (ev_var rfl) upd_same cl na (by decide)
      (fun v H1 H2 ⟨t, a1, a2, a3⟩ e => ⟨t, a1, a2, e _ _ a3⟩) fun v H1 e1 ⟨t, ev, tn, ht⟩ => ?_
    subst ev
    have hta : t ≠ a := fun z => by rw [z, upd_same] at tn; cases tn
    have eA : Ex H0 (upd H1 a (.ins (He.ga K (pcls c)) dx [("parts", .ref t)])) := (e0.trans e1).mut h1
    have ht2 : upd H1 a (.ins (He.ga K (pcls c)) dx [("parts", .ref t)]) t = some (.tup (ps.map V.ref)) := by rw [upd_ne hta]; exact ht
    have pc : PartC K (upd H1 a (.ins (He.ga K (pcls c)) dx [("parts", .ref t)])) (PartAt K (upd H1 a (.ins (He.ga K (pcls c)) dx [("parts", .ref t)])) n) c a ⟨fun β => if c = 3 then Ds.all fun D => D.h β else Ds.any fun D => D.h β, 1 + (Ds.map (·.s)).sum, 1 + maxL (Ds.map (·.d))⟩ := by
      refine ⟨ps, Ds, L2.Paired.mapP hp fun _ _ q => q.im (.of eA), hlp, rfl, rfl, ?_⟩
      rcases hc with rfl | rfl
      · exact ⟨dx, t, upd_same, ht2, rfl⟩
      · exact ⟨dx, t, upd_same, ht2, rfl⟩
    have hc2 : 2 ≤ c ∧ c < 5 := by omega
    exact ss_dropR (R := fun _ _ => True) (er_meV (ev_var rfl) upd_same (by rfl) (m_bounded T n c hc2) ea_nil (spP_r (R' := fun _ _ => True) (a, ⟨fun β => if c = 3 then Ds.all fun D => D.h β else Ds.any fun D => D.h β, 1 + (Ds.map (·.s)).sum, 1 + maxL (Ds.map (·.d))⟩) rfl (fun H1 e1 => ⟨pc.im (.of e1) fun _ _ q => q.im (.of e1), hs, hd⟩) fun _ _ _ _ _ _ => trivial)) fun v H2 e2 _ => ss_end fun H3 e3 => hQ H3 (eA.trans (e2.trans e3)) ⟨dx, t, e3 _ _ (e2 _ _ upd_same), e3 _ _ (e2 _ _ ht2)⟩
  rcases hc with rfl | rfl
  · exact mak_of (key _ T.d_Series_init T.c_Series T.n_Series_parts) T.k_Series
  · exact mak_of (key _ T.d_Branch_init T.c_Branch T.n_Branch_parts) T.k_Branch
end
end RgK
set_option Elab.async false
set_option linter.all false
set_option maxRecDepth 100000
set_option maxHeartbeats 4000000

/-! What a told part is; its size; the part of it. -/
namespace RgK
open PySem PySem.Spec PyProof.Rows L2 Evl
local macro_rules | `(tactic| walk_at "ev") => `(tactic| repeat' (first
  | with_reducible exact ev_c
  | with_reducible exact ea_nil
  | ((with_reducible apply ev_var); first | rfl | assumption)
  | with_reducible apply ea_cons
  | with_reducible apply ev_fld
  | ((with_reducible show Fld _ _ _ _ _); assumption)
  | with_reducible exact rv_I0
  | with_reducible exact ru_neg
  | with_reducible exact rv_eq rfl
  | with_reducible exact rv_ne rfl
  | ((with_reducible apply rv_I); first | decide | omega | assumption)
  | ((with_reducible show _ = _ → EvT _ _ _ _); intro _)
  | ((with_reducible show _ = _ → Ev _ _ _ _); intro _)
  | with_reducible apply et_and
  | with_reducible apply et_or
  | with_reducible apply ev_andV
  | with_reducible apply ev_orV
  | with_reducible apply et_test
  | with_reducible apply et_B
  | with_reducible apply et_not
  | with_reducible apply ev_notV
  | with_reducible apply ev_un
  | with_reducible apply ev_op))

/-! ### told -/
def tword : Nat → Str
  | 2 => "not"
  | 3 => "and"
  | _ => "or"
def TShape (H : Hp) (c : Nat) (t : Addr) (us : List V) (Ds : List Den) (h : (Str → Bool) → Bool) : Prop := match c with
  | 0 => ∃ b, H t = some (.tup [.str "fixed", .bl b]) ∧ us = [] ∧ Ds = [] ∧ h = fun _ => b
  | 1 => ∃ x, H t = some (.tup [.str "contact", .str x]) ∧ nameB x = true ∧ x.length ≤ 1000 ∧ us = [] ∧ Ds = [] ∧ h = fun β => β x
  | 2 => ∃ u D, H t = some (.tup (.str (tword 2) :: us)) ∧ us = [u] ∧ Ds = [D] ∧ h = fun β => !D.h β
  | 3 => H t = some (.tup (.str (tword 3) :: us)) ∧ 2 ≤ us.length ∧ h = fun β => Ds.all fun D => D.h β
  | 4 => H t = some (.tup (.str (tword 4) :: us)) ∧ 2 ≤ us.length ∧ h = fun β => Ds.any fun D => D.h β
  | _ => False
theorem TShape.im {H H' : Hp} {c : Nat} {t : Addr} {us : List V} {Ds : List Den} {h : (Str → Bool) → Bool} (s : TShape H c t us Ds h) (i : Ip H H') : TShape H' c t us Ds h := by
  match c with
  | 0 => obtain ⟨b, e, r⟩ := s; exact ⟨b, i _ _ e rfl, r⟩
  | 1 => obtain ⟨b, e, r⟩ := s; exact ⟨b, i _ _ e rfl, r⟩
  | 2 => obtain ⟨u, D, e, r⟩ := s; exact ⟨u, D, i _ _ e rfl, r⟩
  | 3 => obtain ⟨e, r⟩ := s; exact ⟨i _ _ e rfl, r⟩
  | 4 => obtain ⟨e, r⟩ := s; exact ⟨i _ _ e rfl, r⟩
def ToldC (H : Hp) (F : V → Den → Prop) (c : Nat) (t : Addr) (D : Den) : Prop :=
  ∃ us Ds, Paired F us Ds ∧ us.length ≤ 1000 ∧ D.s = 1 + (Ds.map (·.s)).sum ∧ D.d = 1 + maxL (Ds.map (·.d)) ∧ TShape H c t us Ds D.h
def ToldAt (H : Hp) : Nat → V → Den → Prop
  | 0 => fun _ _ => False
  | n + 1 => fun v D => ∃ t c, v = .ref t ∧ ToldC H (ToldAt H n) c t D
theorem ToldC.im {H H' : Hp} {F F' : V → Den → Prop} {c : Nat} {t : Addr} {D : Den} (p : ToldC H F c t D) (i : Ip H H') (f : ∀ a D, F a D → F' a D) : ToldC H' F' c t D :=
  let ⟨ps, Ds, h1, h2, h3, h4, h5⟩ := p; ⟨ps, Ds, L2.Paired.mapP h1 f, h2, h3, h4, h5.im i⟩
theorem ToldAt.im {H H' : Hp} (i : Ip H H') : ∀ {n : Nat} {v : V} {D : Den}, ToldAt H n v D → ToldAt H' n v D
  | 0, _, _, h => h.elim
  | n + 1, _, _, ⟨t, c, e, p⟩ => ⟨t, c, e, p.im i fun _ _ q => ToldAt.im i q⟩
theorem sum_nn {l : List Int} (h : ∀ x ∈ l, 0 ≤ x) : 0 ≤ l.sum := by
  induction l with
  | nil => exact Int.le_refl _
  | cons x l ih =>
    rw [List.sum_cons]
    have h1 := h x List.mem_cons_self
    have h2 := ih fun y hy => h y (List.mem_cons_of_mem _ hy)
    omega
theorem le_sum {l : List Int} (h : ∀ x ∈ l, 0 ≤ x) : ∀ x ∈ l, x ≤ l.sum := by
  induction l with
  | nil => exact fun x hx => by cases hx
  | cons y l ih =>
    intro x hx
    rw [List.sum_cons]
    have h1 := h y List.mem_cons_self
    have h2 := sum_nn fun z hz => h z (List.mem_cons_of_mem _ hz)
    rcases List.mem_cons.mp hx with rfl | hx
    · omega
    · have := ih (fun z hz => h z (List.mem_cons_of_mem _ hz)) x hx
      omega
theorem paired_r {α β : Type} {G : α → β → Prop} : ∀ {l₁ : List α} {l₂ : List β}, Paired G l₁ l₂ → ∀ b ∈ l₂, ∃ a ∈ l₁, G a b
  | _, _, .cons h r, b, hb => by
    rcases List.mem_cons.mp hb with rfl | hb
    · exact ⟨_, List.mem_cons_self, h⟩
    · obtain ⟨a, ha, hg⟩ := paired_r r b hb
      exact ⟨a, List.mem_cons_of_mem _ ha, hg⟩
theorem paired_l {α β : Type} {G : α → β → Prop} : ∀ {l₁ : List α} {l₂ : List β}, Paired G l₁ l₂ → ∀ a ∈ l₁, ∃ b ∈ l₂, G a b
  | _, _, .cons h r, b, hb => by
    rcases List.mem_cons.mp hb with rfl | hb
    · exact ⟨_, List.mem_cons_self, h⟩
    · obtain ⟨a, ha, hg⟩ := paired_l r b hb
      exact ⟨a, List.mem_cons_of_mem _ ha, hg⟩
/-- a told part has a size of 1 at least, and is no deeper than it is large -/
theorem told_pos {H : Hp} : ∀ {n : Nat} {v : V} {D : Den}, ToldAt H n v D → 1 ≤ D.s ∧ 1 ≤ D.d ∧ D.d ≤ D.s
  | 0, _, _, h => h.elim
  | n + 1, _, D, ⟨t, c, e, us, Ds, h1, h2, h3, h4, h5⟩ => by
    have all : ∀ D ∈ Ds, 1 ≤ D.s ∧ 1 ≤ D.d ∧ D.d ≤ D.s := fun D hD => by
      obtain ⟨u, _, hu⟩ := paired_r h1 D hD
      exact told_pos hu
    have hnn : ∀ x ∈ Ds.map (·.s), 0 ≤ x := fun x hx => by
      obtain ⟨D, hD, rfl⟩ := List.mem_map.mp hx
      have := (all D hD).1
      show 0 ≤ D.s
      omega
    have hs := sum_nn hnn
    have hd := maxL_ge (Ds.map (·.d))
    refine ⟨by omega, by omega, ?_⟩
    have : maxL (Ds.map (·.d)) ≤ (Ds.map (·.s)).sum := by
      rcases maxL_mem (Ds.map (·.d)) with z | z
      · omega
      · obtain ⟨D, hD, e⟩ := List.mem_map.mp z
        have h6 := (all D hD).2.2
        have h7 := le_sum hnn D.s (List.mem_map.mpr ⟨D, hD, rfl⟩)
        have h8 : D.d = maxL (Ds.map (·.d)) := e
        omega
    omega
theorem paired_imp {α β : Type} {F G : α → β → Prop} : ∀ {l₁ : List α} {l₂ : List β}, Paired F l₁ l₂ → (∀ a b, b ∈ l₂ → F a b → G a b) → Paired G l₁ l₂
  | _, _, .nil, _ => .nil
  | _, _, .cons h r, k => .cons (k _ _ List.mem_cons_self h) (paired_imp r fun a b hb => k a b (List.mem_cons_of_mem _ hb))
/-- the depth is enough -/
theorem told_low {H : Hp} : ∀ {n m : Nat} {v : V} {D : Den}, D.d ≤ (m : Int) → ToldAt H n v D → ToldAt H m v D
  | 0, _, _, _, _, h => h.elim
  | n + 1, 0, v, D, l, h => by
    have := (told_pos h).2.1
    omega
  | n + 1, m + 1, _, D, l, ⟨t, c, e, us, Ds, h1, h2, h3, h4, h5⟩ => by
    refine ⟨t, c, e, us, Ds, paired_imp h1 fun u D' hD hu => told_low ?_ hu, h2, h3, h4, h5⟩
    have := le_maxL (l := Ds.map (·.d)) (y := D'.d) (List.mem_map.mpr ⟨D', hD, rfl⟩)
    omega
/-- the kids are smaller than the whole -/
theorem told_kid {n : Nat} {H : Hp} {us : List V} {Ds : List Den} (h1 : Paired (ToldAt H n) us Ds) : ∀ D ∈ Ds, 1 ≤ D.s ∧ D.s ≤ (Ds.map (·.s)).sum ∧ D.d ≤ maxL (Ds.map (·.d)) := fun D hD => by
  obtain ⟨u, _, hu⟩ := paired_r h1 D hD
  refine ⟨(told_pos hu).1, le_sum (fun x hx => ?_) D.s (List.mem_map.mpr ⟨D, hD, rfl⟩), le_maxL (List.mem_map.mpr ⟨D, hD, rfl⟩)⟩
  obtain ⟨D', hD', rfl⟩ := List.mem_map.mp hx
  obtain ⟨u', _, hu'⟩ := paired_r h1 D' hD'
  have := (told_pos hu').1
  show 0 ≤ D'.s
  omega
/-- the first word, what is behind it -/
theorem TShape.tup {H : Hp} {c : Nat} {t : Addr} {us : List V} {Ds : List Den} {h : (Str → Bool) → Bool} (s : TShape H c t us Ds h) : c < 5 ∧ ∃ w xs, H t = some (.tup (.str w :: xs)) ∧ (c < 2 → w ∈ ([("fixed" : Str), "contact"] : List Str) ∧ us = [] ∧ Ds = []) ∧ (2 ≤ c → w = tword c ∧ xs = us) := by
  match c with
  | 0 => obtain ⟨b, e, e1, e2, r⟩ := s; exact ⟨by decide, _, _, e, fun _ => ⟨by decide +kernel, e1, e2⟩, fun z => absurd z (by decide)⟩
  | 1 => obtain ⟨b, e, _, _, e1, e2, r⟩ := s; exact ⟨by decide, _, _, e, fun _ => ⟨by decide +kernel, e1, e2⟩, fun z => absurd z (by decide)⟩
  | 2 => obtain ⟨u, D, e, r⟩ := s; exact ⟨by decide, _, _, e, fun z => absurd z (by decide), fun _ => ⟨rfl, rfl⟩⟩
  | 3 => obtain ⟨e, r⟩ := s; exact ⟨by decide, _, _, e, fun z => absurd z (by decide), fun _ => ⟨rfl, rfl⟩⟩
  | 4 => obtain ⟨e, r⟩ := s; exact ⟨by decide, _, _, e, fun z => absurd z (by decide), fun _ => ⟨rfl, rfl⟩⟩
def singleB (w : Str) : Bool := inV (.str w) [.str "fixed", .str "contact"]
theorem single_t {w : Str} (h : w ∈ ([("fixed" : Str), "contact"] : List Str)) : singleB w = true := by
  have all : ∀ w ∈ ([("fixed" : Str), "contact"] : List Str), singleB w = true := by decide +kernel
  exact all w h
theorem single_f {c : Nat} (h : 2 ≤ c) : singleB (tword c) = false := by
  match c, h with
  | 2, _ => decide +kernel
  | 3, _ => decide +kernel
  | n + 4, _ => show singleB "or" = false; decide +kernel
theorem TShape.one {H : Hp} {c : Nat} {t : Addr} {us : List V} {Ds : List Den} {h : (Str → Bool) → Bool} (s : TShape H c t us Ds h) : ∃ w xs, H t = some (.tup (.str w :: xs)) ∧ singleB w = decide (c < 2) ∧ (c < 2 → us = [] ∧ Ds = []) ∧ (2 ≤ c → w = tword c ∧ xs = us) := by
  obtain ⟨hc, w, xs, e, h1, h2⟩ := s.tup
  refine ⟨w, xs, e, ?_, fun z => (h1 z).2, h2⟩
  by_cases z : c < 2
  · rw [single_t (h1 z).1, decide_eq_true z]
  · rw [(h2 (by omega)).1, single_f (by omega), decide_eq_false z]
section
variable {K : PySem.W.Frag} {σ : L2.St} {H : Hp} {ta : TE}
/-- t[0] in ('fixed', 'contact') -/
theorem ev_single {t : Addr} {w : Str} {xs : List V} (ha : Ev ta σ H (.ref t)) (h : H t = some (.tup (.str w :: xs))) : Ev (tOp (rIn K false) (tOp (rIxT K) ta (tC (.int 0))) (tTup (tCons (tC (.str "fixed")) (tCons (tC (.str "contact")) tNil)))) σ H (.bl (singleB w)) :=
  ev_inU (ev_op ha ev_c (rv_ixT (.of h) (atI_nat (j := 0) rfl))) (eu_tup (ea_cons ev_c (ea_cons ev_c ea_nil)) (by decide)) rfl rfl
/-- t[1:] -/
theorem er_tail {t : Addr} {w : V} {xs : List V} (ha : Ev ta σ H (.ref t)) (h : H t = some (.tup (w :: xs))) : EvR (tSl (rSlA K) ta (tPart (tC (.int 1))) tNoPart) σ H (NewT H xs) :=
  fun H1 e1 Q q => ha H1 e1 _ fun H2 e2 => by
    have hw : ¬ (HT.sIx (w :: xs).length 0 (some 1) = 0 ∧ HT.sIx (w :: xs).length (w :: xs).length none = (w :: xs).length) := by
      rintro ⟨z, _⟩
      rw [show HT.sIx (w :: xs).length 0 (some 1) = min 1 (w :: xs).length from HT.sIx_nat _ _ 1, List.length_cons] at z
      omega
    refine ⟨1, rfl, t, w :: xs, rfl, .of ((e1.trans e2) _ _ h), fun z => absurd z hw, fun _ p hp => q _ _ (e2.trans (.new hp)) ⟨p, rfl, fresh_back (e1.trans e2) hp, ?_⟩⟩
    rw [upd_same]
    congr 2
    unfold cutV
    rw [show HT.sIx (w :: xs).length 0 (some 1) = min 1 (w :: xs).length from HT.sIx_nat _ _ 1, show HT.sIx (w :: xs).length (w :: xs).length none = (w :: xs).length from rfl, List.length_cons, show min 1 (xs.length + 1) = 1 by omega, List.drop_one, List.tail_cons, List.take_of_length_le (by omega)]
/-- values, item by item beside another list -/
theorem er_lcPV {α : Type} {G : V → α → Prop} {us : List V} {Ds : List α} {tl te : TE} {k : Bool} {a : Addr} {j : Nat} {vs : List Nat} (f : α → V) (hp : Paired G us Ds) (h : Ev tl σ H (.ref a)) (hx : Sq K k H a us) (hn : us.length ≤ 50000) (hw : ∀ x, wipe ((wipe σ vs).set j (some x)) vs = wipe σ vs)
    (hs : ∀ u D, G u D → Ev te ((wipe σ vs).set j (some u)) H (f D)) : EvR (tLc (iSeq K tl) (gName j) tYes (tHide te) vs) σ H (NewL H (Ds.map f)) := by
  have hl : us.length = Ds.length := by
    clear hs hn hx
    induction hp with
    | nil => rfl
    | cons _ _ ih => exact congrArg Nat.succ ih
  refine (er_lcV (fun i _ => ((Ds.map f)[i]?).getD .non) h hx hn hw fun i u hi => ?_).imp fun v H2 _ ⟨p, e1, e2, e3⟩ => ⟨p, e1, e2, ?_⟩
  · obtain ⟨d, hd, gd⟩ := paired_get hp hi
    rw [List.getElem?_map, hd]
    exact hs u d gd
  · rw [e3]
    congr 2
    refine List.ext_getElem? fun i => ?_
    rw [List.getElem?_mapIdx, List.getElem?_map]
    by_cases hi : i < us.length
    · rw [List.getElem?_eq_getElem hi, List.getElem?_eq_getElem (by omega : i < Ds.length)]
      rfl
    · rw [List.getElem?_eq_none (by omega : us.length ≤ i), List.getElem?_eq_none (by omega : Ds.length ≤ i)]
      rfl
end
section
variable {w : World} {K : PySem.W.Frag} {mg : Mg} {base : Heap} {k : Nat}
/-! ### _law_size -/
def spLSize (n : Nat) : Sp := spP (ι := V × Den) (fun i => [i.1]) (fun i H => ToldAt H n i.1 i.2) (fun i H v H2 => v = .int i.2.s)
theorem spLSize_r {n : Nat} {v : V} {D : Den} {H : Hp} (p : ToldAt H n v D) : SpR (spLSize n) [v] H (fun x _ => x = .int D.s) := spP_r (v, D) rfl (fun H1 e1 => p.im (.of e1)) fun _ _ _ _ _ r => r
theorem lsz (T : Tx w K mg base) (n : Nat) (ih : ∀ m, n = m + 1 → Cal PG w K mg base (n + 1) "_law_size" (spLSize m)) : Cal PG w K mg base (n + 2) "_law_size" (spLSize n) := by
  refine cal_of (fnd ["_law_told_here", "_law_one"] ["_law_told_here"] T.d_law_size (by decide +kernel) (spP_len fun _ => rfl) (fun _ _ _ _ _ _ us h => by match us, h with | [_], _ => rfl) ?_) T.g_law_size
  rintro cdv A outer s H vs Q E hr ⟨⟨v, D⟩, rfl, hv, hQ⟩
  have nd : (["_law_told_here", "_law_one"] : List Str).Nodup := by decide +kernel
  refine ⟨_, 
    (pss_cons (ps_if (pt_cmpR (op_inT T) (pe_ix (ix_tT T) (pv 0) pe_int (fun _ _ => rfl)) (pe_tup (pa_cons pe_str (pa_cons pe_str pa_nil))) (by with_unfolding_all rfl)) 
    (pss_cons (ps_ret pe_int) pss_nil) pss_nil) 
    (pss_cons (ps_ret (pe_op op_add pe_int (pe_callB (cr_sum rfl) (by rfl) T.f_sum (by decide +kernel) (pa_cons (pe_lc (own := [("_law_one", 1)]) (g := gName 1) (tt := tYes) rfl nd (pi_seq (pe_slice sl_tupA (pv 0) (po_some pe_int) po_none)) (blkOk_by (N := ["_law_told_here", "_law_one"]) (sc := defScope s_law_size) (own := [("_law_one", 1)]) (by decide +kernel)) (fun _ _ _ _ _ => (pg_name (i := 1) nd rfl (Or.inl rfl))) (fun _ _ _ _ _ => pts_nil) (fun _ _ _ _ _ => pe_hide (pe_fn T hr (by rfl) T.g_law_size pass0 T.kp_law_size (pa_cons (pv 1) pa_nil)))) pa_nil)))) pss_nil)), SS.here ?_⟩
  match n, ih, hv with
  | m + 1, ih, hv =>
  obtain ⟨t, c, rfl, us, Ds, h1, h2, h3, h4, h5⟩ := hv
  obtain ⟨wd, xs, ht, hsb, hlt, hge⟩ := h5.one
  refine ss_when (et_test (ev_single (ev_var rfl) ht)) (fun hb => ?_) fun hb => ?_
  · rw [hsb] at hb
    obtain ⟨rfl, rfl⟩ := hlt (of_decide_eq_true hb)
    exact ss_ret ev_c fun H1 e1 => hQ _ H1 e1 (by show V.int 1 = V.int D.s; rw [show D.s = _ from h3]; rfl)
  · rw [hsb] at hb
    obtain ⟨rfl, rfl⟩ := hge (by have := of_decide_eq_false hb; omega)
    refine ss_ret (v := .int (1 + (Ds.map (·.s)).sum)) (ev_op ev_c (ev_cb1 (Ra := fun v H2 => ∃ p, v = .ref p ∧ H2 p = some (.lst (Ds.map fun D => V.int D.s))) ?_ fun x H1 e1 ⟨p, ex, hx⟩ Q q => ⟨p, Ds.map (·.s), by rw [ex], .of (by rw [hx, List.map_map]; rfl), q⟩) rv_I0) fun H1 e1 => hQ _ H1 e1 (by show _ = V.int D.s; rw [show D.s = _ from h3])
    refine er_lcIt (er_tail (ev_var rfl) ht) fun v H1 e1 ⟨p, ev, _, hp⟩ => ?_
    subst ev
    exact (er_lcPV (k := false) (fun D => V.int D.s) (L2.Paired.mapP h1 fun _ _ q => q.im (.of e1)) ev_c (.of hp) (by omega) (fun _ => rfl) fun u D hu => ev_fnV (ea_cons (ev_var rfl) ea_nil) (ih m rfl) (spLSize_r hu)).imp fun v H2 _ ⟨p, e, _, h⟩ => ⟨p, e, h⟩
theorem c_lsize (T : Tx w K mg base) : ∀ n, Cal PG w K mg base (n + 2) "_law_size" (spLSize n)
  | 0 => lsz T 0 fun _ h => nomatch h
  | n + 1 => lsz T (n + 1) fun m h => by
    cases h
    exact c_lsize T n
/-! ### single, joined -/
def spSingle (K : PySem.W.Frag) : Sp := spP (ι := V × Den) (fun i => [i.1]) (fun i H => ∃ t c, i.1 = .ref t ∧ c < 2 ∧ ToldC H (fun _ _ => False) c t i.2) (fun i H v H2 => ∃ a, v = .ref a ∧ PartAt K H2 1 a i.2)
theorem c_single (T : Tx w K mg base) : Cal PG w K mg base 5 "single" (spSingle K) := by
  refine cal_of (fnd ["told"] ["told"] T.d_single (by decide +kernel) (spP_len fun _ => rfl) (fun _ _ _ _ _ _ us h => by match us, h with | [_], _ => rfl) ?_) T.g_single
  rintro cdv A outer s H vs Q E hr ⟨⟨v, D⟩, rfl, ⟨t, c, ev, hc, us, Ds, h1, h2, h3, h4, h5⟩, hQ⟩
  have ev : v = .ref t := ev
  subst ev
  have nd : (["told"] : List Str).Nodup := by decide +kernel
  refine ⟨_, 
    (pss_cons (ps_ret (pe_ifExp (pt_cmpR op_eq (pe_ix (ix_tT T) (pv 0) pe_int (fun _ _ => rfl)) pe_str (nomark _)) (pe_mk T hr T.k_Fixed (by rfl) T.g_Fixed (pa_cons (pe_ix (ix_tT T) (pv 0) pe_int (fun _ _ => rfl)) pa_nil)) (pe_mk T hr T.k_Contact (by rfl) T.g_Contact (pa_cons (pe_ix (ix_tT T) (pv 0) pe_int (fun _ _ => rfl)) pa_nil)))) pss_nil), SS.here ?_⟩
  refine ss_retR (R := fun v H2 => ∃ a, v = .ref a ∧ PartAt K H2 1 a D) ?_ fun v H1 e1 r => hQ v H1 e1 r
  match c, hc, h5 with
  | 0, _, h5 =>
    obtain ⟨b, ht, rfl, rfl, hh⟩ := h5
    refine er_if (b := true) (et_test (ev_is (ev_op (ev_op (ev_var rfl) ev_c (rv_ixT (.of ht) (atI_nat (j := 0) rfl))) ev_c (rv_eq rfl)) (by decide +kernel))) (fun _ => ?_) (fun z => nomatch z)
    refine er_mkM (R := fun b a H2 => ∃ dx, H2 a = some (.ins (He.ga K "Fixed") dx [("value", .bl b)])) ((k_Fixed T).mono (by decide)) (ea_rel (ea_cons (ev_op (ev_var rfl) ev_c (rv_ixT (.of ht) (atI_nat (j := 1) rfl))) ea_nil)) fun vs H1 e1 e => ⟨b, e, trivial, fun a H2 _ _ ⟨dx, r⟩ => ⟨a, rfl, 0, [], [], .nil, by decide, h3, h4, dx, b, r, rfl, rfl, hh⟩⟩
  | 1, _, h5 =>
    obtain ⟨x, ht, hx, hl, rfl, rfl, hh⟩ := h5
    refine er_if (b := false) (et_test (ev_is (ev_op (ev_op (ev_var rfl) ev_c (rv_ixT (.of ht) (atI_nat (j := 0) rfl))) ev_c (rv_eq rfl)) (by decide +kernel))) (fun z => nomatch z) (fun _ => ?_)
    refine er_mkM (R := fun x a H2 => ∃ dx, H2 a = some (.ins (He.ga K "Contact") dx [("name", .str x)])) ((k_Contact T).mono (by decide)) (ea_rel (ea_cons (ev_op (ev_var rfl) ev_c (rv_ixT (.of ht) (atI_nat (j := 1) rfl))) ea_nil)) fun vs H1 e1 e => ⟨x, e, ⟨by omega, hx⟩, fun a H2 _ _ ⟨dx, r⟩ => ⟨a, rfl, 1, [], [], .nil, by decide, h3, h4, dx, x, r, rfl, rfl, hh⟩⟩
def denJ (c : Nat) (Ds : List Den) : Den := ⟨fun β => if c = 2 then !(match Ds with | [D] => D.h β | _ => true) else if c = 3 then Ds.all fun D => D.h β else Ds.any fun D => D.h β, 1 + (Ds.map (·.s)).sum, 1 + maxL (Ds.map (·.d))⟩
structure JArg where
  c : Nat
  l : Addr
  ps : List Addr
  Ds : List Den
def spJoined (K : PySem.W.Frag) (n : Nat) : Sp := spP (ι := JArg) (fun i => [.str (tword i.c), .ref i.l])
  (fun i H => (2 ≤ i.c ∧ i.c < 5) ∧ H i.l = some (.lst (i.ps.map V.ref)) ∧ Paired (PartAt K H n) i.ps i.Ds ∧ (i.c = 2 → i.ps.length = 1) ∧ (i.c ≠ 2 → 2 ≤ i.ps.length) ∧ i.ps.length ≤ 1000 ∧ 1 + (i.Ds.map (·.s)).sum ≤ 60 ∧ 1 + maxL (i.Ds.map (·.d)) ≤ 20)
  (fun i H v H2 => ∃ a, v = .ref a ∧ PartAt K H2 (n + 1) a (denJ i.c i.Ds))
theorem c_joined (T : Tx w K mg base) (n : Nat) : Cal PG w K mg base (n + 6) "joined" (spJoined K n) := by
  refine cal_of (fnd ["kind", "parts"] ["kind", "parts"] T.d_joined (by decide +kernel) (spP_len fun _ => rfl) (fun _ _ _ _ _ _ us h => by match us, h with | [_, _], _ => rfl) ?_) T.g_joined
  rintro cdv A outer s H vs Q E hr ⟨⟨c, l, ps, Ds⟩, rfl, ⟨hc, hl, hp, hc2, hc3, hz, hs, hd⟩, hQ⟩
  have hl : H l = some (.lst (ps.map V.ref)) := hl
  have hp : Paired (PartAt K H n) ps Ds := hp
  have hz : ps.length ≤ 1000 := hz
  have nd : (["kind", "parts"] : List Str).Nodup := by decide +kernel
  refine ⟨_, 
    (pss_cons (ps_if (pt_cmpR op_eq (pv 0) pe_str (nomark _)) 
    (pss_cons (ps_ret (pe_mk T hr T.k_Turned (by rfl) T.g_Turned (pa_cons (pe_ix (ix_lT T) (pv 1) pe_int (fun _ _ => rfl)) pa_nil))) pss_nil) pss_nil) 
    (pss_cons (ps_if (pt_cmpR op_eq (pv 0) pe_str (nomark _)) 
    (pss_cons (ps_ret (pe_mk T hr T.k_Series (by rfl) T.g_Series (pa_cons (pv 1) pa_nil))) pss_nil) pss_nil) 
    (pss_cons (ps_ret (pe_mk T hr T.k_Branch (by rfl) T.g_Branch (pa_cons (pv 1) pa_nil))) pss_nil))), SS.here ?_⟩
  have hc : 2 ≤ c ∧ c < 5 := hc
  match c, hc with
  | 2, _ =>
    have h1 : ps.length = 1 := hc2 rfl
    obtain ⟨p, rfl⟩ := List.length_eq_one_iff.mp h1
    obtain ⟨D, rfl, hpD⟩ : ∃ D, Ds = [D] ∧ PartAt K H n p D := by
      cases hp with
      | cons h r => cases r; exact ⟨_, rfl, h⟩
    have hs' : 1 + D.s ≤ 60 := by have : 1 + ([D].map (·.s)).sum ≤ 60 := hs; simpa using this
    refine ss_when (b := true) (et_test (ev_is (ev_op (ev_var rfl) ev_c (rv_eq rfl)) (by show V.bl (decide (V.str (tword 2) = V.str "not")) = V.bl true; decide +kernel))) (fun _ => ?_) (fun z => nomatch z)
    refine ss_retR (er_mkM (R' := fun v H2 => ∃ a, v = .ref a ∧ PartAt K H2 (n + 1) a (denJ 2 [D])) (k_Turned T n) (ea_rel (ea_cons (ev_op (ev_var rfl) ev_c (rv_ixL (.of hl) (atI_nat (j := 0) rfl))) ea_nil)) fun vs H1 e1 e => ⟨(p, D), e, ⟨hpD.im (.of e1), hs', hd⟩, fun a H2 _ e2 ⟨dx, r⟩ => ⟨a, rfl, 2, [p], [D], .cons (hpD.im (.of (e1.trans e2))) .nil, by simp, rfl, rfl, dx, p, D, r, rfl, rfl, rfl⟩⟩) fun v H1 e1 r => hQ v H1 e1 r
  | 3, _ =>
    refine ss_when (b := false) (et_test (ev_is (ev_op (ev_var rfl) ev_c (rv_eq rfl)) (by show V.bl (decide (V.str (tword 3) = V.str "not")) = V.bl false; decide +kernel))) (fun z => nomatch z) fun _ => ss_when (b := true) (et_test (ev_is (ev_op (ev_var rfl) ev_c (rv_eq rfl)) (by show V.bl (decide (V.str (tword 3) = V.str "and")) = V.bl true; decide +kernel))) (fun _ => ?_) (fun z => nomatch z)
    refine ss_retR (er_mkM (R' := fun v H2 => ∃ a, v = .ref a ∧ PartAt K H2 (n + 1) a (denJ 3 Ds)) (k_Group T n 3 (.inl rfl)) (ea_rel (ea_cons (ev_var rfl) ea_nil)) fun vs H1 e1 e => ⟨(l, ps, Ds), e, ⟨e1 _ _ hl, L2.Paired.mapP hp fun _ _ q => q.im (.of e1), hc3 (show (3 : Nat) ≠ 2 by decide), hz, hs, hd⟩, fun a H2 _ e2 ⟨dx, t, r, rt⟩ => ⟨a, rfl, 3, ps, Ds, L2.Paired.mapP hp fun _ _ q => q.im (.of (e1.trans e2)), hz, rfl, rfl, dx, t, r, rt, rfl⟩⟩) fun v H1 e1 r => hQ v H1 e1 r
  | 4, _ =>
    refine ss_when (b := false) (et_test (ev_is (ev_op (ev_var rfl) ev_c (rv_eq rfl)) (by show V.bl (decide (V.str (tword 4) = V.str "not")) = V.bl false; decide +kernel))) (fun z => nomatch z) fun _ => ss_when (b := false) (et_test (ev_is (ev_op (ev_var rfl) ev_c (rv_eq rfl)) (by show V.bl (decide (V.str (tword 4) = V.str "and")) = V.bl false; decide +kernel))) (fun z => nomatch z) fun _ => ?_
    refine ss_retR (er_mkM (R' := fun v H2 => ∃ a, v = .ref a ∧ PartAt K H2 (n + 1) a (denJ 4 Ds)) (k_Group T n 4 (.inr rfl)) (ea_rel (ea_cons (ev_var rfl) ea_nil)) fun vs H1 e1 e => ⟨(l, ps, Ds), e, ⟨e1 _ _ hl, L2.Paired.mapP hp fun _ _ q => q.im (.of e1), hc3 (show (4 : Nat) ≠ 2 by decide), hz, hs, hd⟩, fun a H2 _ e2 ⟨dx, t, r, rt⟩ => ⟨a, rfl, 4, ps, Ds, L2.Paired.mapP hp fun _ _ q => q.im (.of (e1.trans e2)), hz, rfl, rfl, dx, t, r, rt, rfl⟩⟩) fun v H1 e1 r => hQ v H1 e1 r
end
end RgK
set_option Elab.async false
set_option linter.all false
set_option maxRecDepth 100000
set_option maxHeartbeats 4000000

/-! part_of. -/
namespace RgK
open PySem PySem.Spec PyProof.Rows L2 Evl
local macro_rules | `(tactic| walk_at "ev") => `(tactic| repeat' (first
  | with_reducible exact ev_c
  | with_reducible exact ea_nil
  | ((with_reducible apply ev_var); first | rfl | assumption)
  | with_reducible apply ea_cons
  | with_reducible apply ev_fld
  | ((with_reducible show Fld _ _ _ _ _); assumption)
  | with_reducible exact rv_I0
  | with_reducible exact ru_neg
  | with_reducible exact rv_eq rfl
  | with_reducible exact rv_ne rfl
  | ((with_reducible apply rv_I); first | decide | omega | assumption)
  | ((with_reducible show _ = _ → EvT _ _ _ _); intro _)
  | ((with_reducible show _ = _ → Ev _ _ _ _); intro _)
  | with_reducible apply et_and
  | with_reducible apply et_or
  | with_reducible apply ev_andV
  | with_reducible apply ev_orV
  | with_reducible apply et_test
  | with_reducible apply et_B
  | with_reducible apply et_not
  | with_reducible apply ev_notV
  | with_reducible apply ev_un
  | with_reducible apply ev_op))

section
variable {K : PySem.W.Frag} {σ : L2.St} {H : Hp} {D : Ends} {tz tu : TS} {ta te : TE} {t : TT} {v : V}
theorem ss_while (W : Nat → L2.St → Hp → Prop) (m0 : Nat) (h0 : ∀ H1, Ex H H1 → W m0 σ H1)
    (hs : ∀ m σ' H', W m σ' H' → ∃ b, EvT t σ' H' b ∧ (b = true → SS tu { D with nx := fun σ2 H2 => ∃ m', m' < m ∧ W m' σ2 H2, ct := fun σ2 H2 => ∃ m', m' < m ∧ W m' σ2 H2, bk := tz D } σ' H') ∧ (b = false → SS tz D σ' H')) : SS (tSeq (tWhile t tu) tz) D σ H :=
  fun H1 e1 => ⟨W, ⟨m0, h0 H1 e1⟩, fun m σ' H' w => by
    obtain ⟨b, hb, h1, h2⟩ := hs m σ' H' w
    refine hb H' (.refl _) _ fun H2 e2 => ?_
    cases b with
    | true =>
      rw [if_pos rfl]
      exact ⟨_, fun σ' H' h => h, h1 rfl H2 e2⟩
    | false =>
      rw [if_neg (by decide)]
      exact h2 rfl H2 e2⟩
theorem ss_cont (h : ∀ H1, Ex H H1 → D.ct σ H1) : SS (tSeq tCont tz) D σ H := h
theorem ss_asg2 {i j : Nat} {T : Addr} {a b : V} (h : Ev te σ H (.ref T)) (hT : SqT K H T [a, b]) (k : SS tz D ((σ.set i (some a)).set j (some b)) H) : SS (tSeq (tAsg te (gTup K 2 (gCons (gName i) (gCons (gName j) gNil)))) tz) D σ H :=
  fun H1 e1 => h H1 e1 _ fun H2 e2 => g_twoT (ex_t (e1.trans e2) hT) (k H2 (e1.trans e2))
theorem ss_pop {l : Addr} {xs : List V} {y : V} (hl : H l = some (.lst (xs ++ [y]))) (ha : Ev ta σ H (.ref l)) (k : SS tz D σ (upd H l (.lst xs))) : SS (tSeq (tDrop (tBM0 K "list" rPop ta)) tz) D σ H :=
  fun H1 e1 => ha H1 e1 _ fun H2 e2 => ⟨.inl ⟨rfl, _, .of ((e1.trans e2) _ _ hl)⟩, l, xs ++ [y], y, rfl, rfl, (e1.trans e2) _ _ hl, by simp, by
    rw [List.dropLast_concat]
    exact k _ (Ex.put (e1.trans e2) _ _)⟩
theorem ev_lenS {k : Bool} {p : Addr} {xs : List V} (ha : Ev ta σ H (.ref p)) (h : Sq K k H p xs) : Ev (tCB (rLenS K) (tCons ta tNil)) σ H (.int (xs.length : Nat)) :=
  fun H1 e1 Q q => ha H1 e1 _ fun H2 e2 => ⟨p, xs, rfl, by
    have := ex_s (e1.trans e2) h
    cases k with
    | true => exact .inl this
    | false => exact .inr this, q H2 e2⟩
theorem rv_last {p : Addr} {xs : List V} (h : H p = some (.lst (xs ++ [v]))) : RV (rIxL K) (.ref p) (.int (-1)) H v := rv_ixL (.of h) (atI_last xs v)
theorem ev_neNil {l : Addr} {xs : List V} (ha : Ev ta σ H (.ref l)) (h : SqL K H l xs) : EvT (tTest (tOp (rEqNil K true) ta (tLst tNil))) σ H (xs.isEmpty != true) :=
  fun H1 e1 Q q => ha H1 e1 _ fun H2 e2 => ⟨by decide, fun p hp => ⟨l, p, xs, rfl, rfl, ex_l ((e1.trans e2).trans (.new hp)) h, .of upd_same, _, rfl, q _ (e2.trans (.new hp))⟩⟩
theorem ev_eqNil {l : Addr} {xs : List V} (ha : Ev ta σ H (.ref l)) (h : SqL K H l xs) : EvT (tTest (tOp (rEqNil K false) ta (tLst tNil))) σ H (xs.isEmpty != false) :=
  fun H1 e1 Q q => ha H1 e1 _ fun H2 e2 => ⟨by decide, fun p hp => ⟨l, p, xs, rfl, rfl, ex_l ((e1.trans e2).trans (.new hp)) h, .of upd_same, _, rfl, q _ (e2.trans (.new hp))⟩⟩
end
/-! ### the stack -/
structure Fr where
  t : Addr
  l : Addr
  to : Addr
  n : Nat
  c : Nat
  done : List Addr
  Dd : List Den
  dv : List V
  tv : List V
  tD : List Den
  D : Den
def sN (D : Den) : Nat := D.s.toNat
structure FrOk (K : PySem.W.Frag) (H H0 : Hp) (N : Nat) (f : Fr) : Prop where
  ht : H f.t = some (.tup [.ref f.to, .ref f.l])
  l0 : H0 f.l = none
  pd : Paired (PartAt K H f.n) f.done f.Dd
  dl : f.dv.length = f.done.length
  pt : Paired (ToldAt H f.n) f.tv f.tD
  sz : (f.dv ++ f.tv).length ≤ 1000
  s : f.D.s = 1 + ((f.Dd ++ f.tD).map (·.s)).sum
  d : f.D.d = 1 + maxL ((f.Dd ++ f.tD).map (·.d))
  sh : TShape H f.c f.to (f.dv ++ f.tv) (f.Dd ++ f.tD) f.D.h
  s20 : f.D.s ≤ 20
  d20 : f.D.d ≤ 20
  nN : f.n < N
theorem FrOk.im {K : PySem.W.Frag} {H H' H0 : Hp} {N : Nat} {f : Fr} (o : FrOk K H H0 N f) (i : Ip H H') : FrOk K H' H0 N f :=
  ⟨i _ _ o.ht rfl, o.l0, L2.Paired.mapP o.pd fun _ _ q => q.im i, o.dl, L2.Paired.mapP o.pt fun _ _ q => q.im i, o.sz, o.s, o.d, o.sh.im i, o.s20, o.d20, o.nN⟩
/-- the frames below wait for a part of the denotation D -/
def Below (K : PySem.W.Frag) (H H0 : Hp) (N : Nat) (D0 : Den) : List Fr → Nat → Den → Prop
  | [], n, D => n = N ∧ D = D0
  | f :: fs, n, D => FrOk K H H0 N f ∧ f.n = n ∧ (∃ u tv tD, f.tv = u :: tv ∧ f.tD = D :: tD) ∧ Below K H H0 N D0 fs (f.n + 1) f.D
theorem Below.im {K : PySem.W.Frag} {H H' H0 : Hp} {N : Nat} {D0 : Den} (i : Ip H H') : ∀ {fs : List Fr} {n : Nat} {D : Den}, Below K H H0 N D0 fs n D → Below K H' H0 N D0 fs n D
  | [], _, _, h => h
  | _ :: _, _, _, ⟨a, b, c, d⟩ => ⟨a.im i, b, c, Below.im i d⟩
theorem Below.len {K : PySem.W.Frag} {H H0 : Hp} {N : Nat} {D0 : Den} : ∀ {fs : List Fr} {n : Nat} {D : Den}, Below K H H0 N D0 fs n D → fs.length + n = N
  | [], _, _, h => by rw [List.length_nil, Nat.zero_add]; exact h.1
  | f :: fs, n, _, ⟨_, b, _, d⟩ => by
    have := Below.len d
    rw [List.length_cons]
    omega
theorem paired_snoc {α β : Type} {G : α → β → Prop} {a : α} {b : β} (g : G a b) : ∀ {l₁ : List α} {l₂ : List β}, Paired G l₁ l₂ → Paired G (l₁ ++ [a]) (l₂ ++ [b])
  | _, _, .nil => .cons g .nil
  | _, _, .cons h r => .cons h (paired_snoc g r)
theorem den_eq {H : Hp} {c : Nat} {t : Addr} {us : List V} {Ds : List Den} {D : Den} (hc : 2 ≤ c) (h : TShape H c t us Ds D.h) (hs : D.s = 1 + (Ds.map (·.s)).sum) (hd : D.d = 1 + maxL (Ds.map (·.d))) : denJ c Ds = D := by
  obtain ⟨h', s', d'⟩ := D
  have hs : s' = _ := hs
  have hd : d' = _ := hd
  subst hs hd
  match c, hc, h with
  | 2, _, ⟨u, D', _, _, e, r⟩ =>
    have r : h' = _ := r
    subst e r
    rfl
  | 3, _, ⟨_, _, r⟩ =>
    have r : h' = _ := r
    subst r
    rfl
  | 4, _, ⟨_, _, r⟩ =>
    have r : h' = _ := r
    subst r
    rfl
theorem told_cnt {H : Hp} {c : Nat} {t : Addr} {us : List V} {Ds : List Den} {h : (Str → Bool) → Bool} (hc : 2 ≤ c) (s : TShape H c t us Ds h) : c < 5 ∧ (c = 2 → us.length = 1) ∧ (c ≠ 2 → 2 ≤ us.length) := by
  match c, hc, s with
  | 2, _, ⟨u, D', _, e, _⟩ => rw [e]; exact ⟨by decide, fun _ => rfl, fun z => absurd rfl z⟩
  | 3, _, ⟨_, e, r⟩ => exact ⟨by decide, fun z => absurd z (by decide), fun _ => e⟩
  | 4, _, ⟨_, e, r⟩ => exact ⟨by decide, fun z => absurd z (by decide), fun _ => e⟩
def remT (f : Fr) : Nat := 1 + 2 * (f.tD.map sN).sum
def remB (f : Fr) : Nat := 1 + 2 * ((f.tD.drop 1).map sN).sum
def remA (g : Fr) (fs : List Fr) : Nat := remT g + (fs.map remB).sum
theorem sN_sum : ∀ {Ds : List Den}, (∀ D ∈ Ds, 1 ≤ D.s) → ((Ds.map sN).sum : Int) = (Ds.map (·.s)).sum
  | [], _ => rfl
  | D :: Ds, h => by
    have h1 := h D List.mem_cons_self
    have ih := sN_sum fun D' hD => h D' (List.mem_cons_of_mem _ hD)
    rw [List.map_cons, List.sum_cons, List.map_cons, List.sum_cons]
    have : (sN D : Int) = D.s := Int.toNat_of_nonneg (by omega)
    omega
def LsOk (H : Hp) (fs : List Fr) : Prop := ∀ f ∈ fs, H f.l = some (.lst (f.done.map V.ref))
theorem LsOk.put {H : Hp} {fs : List Fr} {l : Addr} {o : HO} (h : LsOk H fs) (n : l ∉ fs.map (·.l)) : LsOk (upd H l o) fs := fun f hf => by
  rw [upd_ne (fun z => n (by rw [← z]; exact List.mem_map.mpr ⟨f, hf, rfl⟩))]
  exact h f hf
theorem LsOk.ex {H H' : Hp} {fs : List Fr} (h : LsOk H fs) (e : Ex H H') : LsOk H' fs := fun f hf => e _ _ (h f hf)
def PW (K : PySem.W.Frag) (H0 : Hp) (N : Nat) (D0 : Den) (v0 : V) (m : Nat) (σ : L2.St) (H : Hp) : Prop :=
  ∃ lo fnd o3 o4 o5, σ = [some v0, some (.ref lo), some fnd, o3, o4, o5] ∧ Ex H0 H ∧ H0 lo = none ∧
    ((∃ g fs, H lo = some (.lst ((fs.map fun f => V.ref f.t).reverse ++ [.ref g.t])) ∧ FrOk K H H0 N g ∧ Below K H H0 N D0 fs (g.n + 1) g.D ∧ LsOk H (g :: fs) ∧ ((g :: fs).map (·.l)).Nodup ∧ lo ∉ (g :: fs).map (·.l) ∧ m = remA g fs) ∨
      (H lo = some (.lst []) ∧ m = 0 ∧ ∃ a, fnd = .ref a ∧ PartAt K H N a D0))
theorem part_pos {K : PySem.W.Frag} {H : Hp} : ∀ {n : Nat} {a : Addr} {D : Den}, PartAt K H n a D → 0 ≤ D.s
  | 0, _, _, h => h.elim
  | n + 1, _, D, ⟨c, ps, Ds, h1, h2, h3, _⟩ => by
    have := sum_nn (l := Ds.map (·.s)) fun x hx => by
      obtain ⟨D', hD', rfl⟩ := List.mem_map.mp hx
      obtain ⟨a', _, ha'⟩ := paired_r h1 D' hD'
      exact part_pos ha'
    omega
section
variable {w : World} {K : PySem.W.Frag} {mg : Mg} {base : Heap} {k : Nat}
def spPartOf (K : PySem.W.Frag) (N : Nat) : Sp := spP (ι := V × Den) (fun i => [i.1]) (fun i H => ToldAt H N i.1 i.2 ∧ i.2.s ≤ 20) (fun i H v H2 => ∃ a, v = .ref a ∧ PartAt K H2 N a i.2)
theorem c_part_of (T : Tx w K mg base) (N : Nat) (hN : N ≤ 100) : Cal PG w K mg base (N + 7) "part_of" (spPartOf K N) := by
  refine cal_of (fnd ["told", "opened", "found", "one", "parts", "is_single"] ["told"] T.d_part_of (by decide +kernel) (spP_len fun _ => rfl) (fun _ _ _ _ _ _ us h => by match us, h with | [_], _ => rfl) ?_) T.g_part_of
  rintro cdv A outer s H vs Q E hr ⟨⟨v0, D0⟩, rfl, ⟨hv, h20⟩, hQ⟩
  have nd : (["told", "opened", "found", "one", "parts", "is_single"] : List Str).Nodup := by decide +kernel
  refine ⟨_, 
    (pss_cons (ps_set (i := 1) nd rfl (Or.inl rfl) (pe_lst (pa_cons (pe_tup (pa_cons (pv 0) (pa_cons (pe_lst pa_nil) pa_nil))) pa_nil))) 
    (pss_cons (ps_set (i := 2) nd rfl (Or.inl rfl) pe_non) 
    (pss_cons (ps_while (passes_of rfl) (pt_cmpR (op_neNil hr.units0) (pv 1) (pe_lst pa_nil) (nomark _)) 
    (pss_cons (ps_asg (pe_ix (ix_lT T) (pv 1) (pe_un un_neg pe_int) (fun _ _ => rfl)) (pg_tup rfl (pgs_cons (pg_name (i := 3) nd rfl (Or.inl rfl)) (pgs_cons (pg_name (i := 4) nd rfl (Or.inl rfl)) pgs_nil)))) 
    (pss_cons (ps_set (i := 5) nd rfl (Or.inl rfl) (pe_cmpR (op_inT T) (pe_ix (ix_tT T) (pv 3) pe_int (fun _ _ => rfl)) (pe_tup (pa_cons pe_str (pa_cons pe_str pa_nil))) (by with_unfolding_all rfl))) 
    (pss_cons (ps_if (PW.pt (pw_and (pt_not (pt_val (pv 5))) (pw_and1 (pt_cmpR op_lt (pe_callB call_len_seq (by rfl) T.f_len (by decide +kernel) (pa_cons (pv 4) pa_nil)) (pe_op op_sub (pe_callB call_len_seq (by rfl) T.f_len (by decide +kernel) (pa_cons (pv 3) pa_nil)) pe_int) (nomark _))))) 
    (pss_cons (ps_expr (pe_bm PySem.F.plainAttrs_list PySem.F.slot_list_append PySem.F.type_list_append mt_append (pv 1) (pa_cons (pe_tup (pa_cons (pe_ix (ix_tT T) (pv 3) (pe_op op_add pe_int (pe_callB call_len_seq (by rfl) T.f_len (by decide +kernel) (pa_cons (pv 4) pa_nil))) (fun _ _ => rfl)) (pa_cons (pe_lst pa_nil) pa_nil))) pa_nil))) 
    (pss_cons ps_continue pss_nil)) pss_nil) 
    (pss_cons (ps_expr (pe_bm0 PySem.F.plainAttrs_list PySem.F.slot_list_pop PySem.F.type_list_pop mt_pop (pv 1))) 
    (pss_cons (ps_set (i := 2) nd rfl (Or.inl rfl) (pe_ifExp (pt_val (pv 5)) (pe_fn T hr (by rfl) T.g_single pass0 T.kp_single (pa_cons (pv 3) pa_nil)) (pe_fn T hr (by rfl) T.g_joined pass0 T.kp_joined (pa_cons (pe_ix (ix_tT T) (pv 3) pe_int (fun _ _ => rfl)) (pa_cons (pv 4) pa_nil))))) 
    (pss_cons (ps_if (pt_cmpR (op_neNil hr.units0) (pv 1) (pe_lst pa_nil) (nomark _)) 
    (pss_cons (ps_expr (pe_bm PySem.F.plainAttrs_list PySem.F.slot_list_append PySem.F.type_list_append mt_append (pe_ix (ix_tT T) (pe_ix (ix_lT T) (pv 1) (pe_un un_neg pe_int) (fun _ _ => rfl)) pe_int (fun _ _ => rfl)) (pa_cons (pv 2) pa_nil))) pss_nil) pss_nil) pss_nil))))))) 
    (pss_cons (ps_ret (pv 2)) pss_nil)))), SS.here ?_⟩
  have hv : ToldAt H N v0 D0 := hv
  have h20 : D0.s ≤ 20 := h20
  obtain ⟨n0, rfl⟩ : ∃ n0, N = n0 + 1 := by
    cases N with
    | zero => exact hv.elim
    | succ n => exact ⟨n, rfl⟩
  obtain ⟨t0, c0, rfl, us0, Ds0, q1, q2, q3, q4, q5⟩ := id hv
  -- opened = [(told, [])]
  refine ss_asgR (R := fun v H1 => ∃ lo t l, v = .ref lo ∧ H lo = none ∧ H t = none ∧ H l = none ∧ l ≠ lo ∧ H1 lo = some (.lst [.ref t]) ∧ H1 t = some (.tup [.ref t0, .ref l]) ∧ H1 l = some (.lst [])) ?_ fun v H1 e1 ⟨lo, t, l, ev, hlo, ht, hl, hne, h1, h2, h3⟩ => ?_
  · exact fun H1 e1 Q q => ⟨_, rfl, by decide, fun l hl => ⟨by show 2 ≤ sizeLine; decide, fun t ht => ⟨by show 1 ≤ sizeLine; decide, fun lo hlo => by
      have htl : t ≠ l := fun z => by rw [z, upd_same] at ht; cases ht
      have hot : lo ≠ t := fun z => by rw [z, upd_same] at hlo; cases hlo
      have hol : lo ≠ l := fun z => by rw [z, upd_ne (Ne.symm htl), upd_same] at hlo; cases hlo
      have ht2 : H1 t = none := by rw [upd_ne htl] at ht; exact ht
      have hlo2 : H1 lo = none := by rw [upd_ne hot, upd_ne hol] at hlo; exact hlo
      exact q _ _ (((Ex.new hl).trans (.new ht)).trans (.new hlo)) ⟨lo, t, l, rfl, fresh_back e1 hlo2, fresh_back e1 ht2, fresh_back e1 hl, Ne.symm hol, upd_same, by rw [upd_ne (Ne.symm hot), upd_same], by rw [upd_ne (Ne.symm hol), upd_ne (Ne.symm htl), upd_same]⟩⟩⟩⟩
  subst ev
  refine ss_asg ev_c ?_
  refine ss_while (PW K H (n0 + 1) D0 (.ref t0)) (remT ⟨t, l, t0, n0, c0, [], [], [], us0, Ds0, D0⟩) (fun H2 e2 => ?_) ?_
  · refine ⟨lo, .non, none, none, none, rfl, e1.trans e2, hlo, .inl ⟨⟨t, l, t0, n0, c0, [], [], [], us0, Ds0, D0⟩, [], e2 _ _ h1, ?_, ⟨rfl, rfl⟩, ?_, by simp, by simpa using Ne.symm hne, by simp [remA]⟩⟩
    · exact ⟨e2 _ _ h2, hl, .nil, rfl, L2.Paired.mapP q1 fun _ _ q => q.im (.of (e1.trans e2)), q2, q3, q4, q5.im (.of (e1.trans e2)), h20, by have := (told_pos hv).2.2; show D0.d ≤ 20; omega, Nat.lt_succ_self _⟩
    · intro f hf
      obtain rfl := List.mem_singleton.mp hf
      exact e2 _ _ h3
  rintro m σ' H' ⟨lo', fnd, o3, o4, o5, rfl, e0, hlo0, hst⟩
  rcases hst with ⟨g, fs, hst, og, ob, ol, ndl, hlol, rfl⟩ | ⟨hst, rfl, a, rfl, pa⟩
  · refine ⟨true, et_is (ev_neNil (ev_var rfl) (.of hst)) (by simp), fun _ => ?_, (fun z => nomatch z)⟩
    have e00 := e0
    obtain ⟨wd, xs, hto, hsb, hlt, hge⟩ := og.sh.one
    have hgl : H' g.l = some (.lst (g.done.map V.ref)) := ol g List.mem_cons_self
    have hnlo : lo' ≠ g.l := fun z => hlol (by rw [z]; exact List.mem_cons_self)
    refine ss_asg2 (ev_op (ev_var rfl) (ev_un ev_c ru_neg) (rv_last hst)) (.of og.ht) (ss_asg (ev_single (ev_var rfl) hto) ?_)
    by_cases hp : ∃ u tv', g.tv = u :: tv'
    · -- a kid is opened
      obtain ⟨u, tv', htv⟩ := hp
      have hc2 : 2 ≤ g.c := by
        rcases Nat.lt_or_ge g.c 2 with z | z
        · have := (hlt z).1
          rw [htv] at this
          simp at this
        · exact z
      obtain ⟨rfl, rfl⟩ := hge hc2
      obtain ⟨D1, tD', htD, hu⟩ : ∃ D1 tD', g.tD = D1 :: tD' ∧ ToldAt H' g.n u D1 := by
        have := og.pt
        rw [htv] at this
        generalize g.tD = q at this
        cases this with
        | cons h r => exact ⟨_, _, rfl, h⟩
      have hlen : (g.dv ++ g.tv).length = g.done.length + (tv'.length + 1) := by rw [List.length_append, og.dl, htv, List.length_cons]
      refine ss_when (b := true) (et_is (et_and (et_not (et_B (ev_var rfl))) fun _ => et_test (ev_op (ev_lenS (k := true) (ev_var rfl) (.of hgl)) (ev_op (ev_lenS (k := false) (ev_var rfl) (.of hto)) ev_c rv_I0) rv_I0)) ?_) (fun _ => ?_) (fun z => nomatch z)
      · rw [hsb, decide_eq_false (by omega), List.length_map, List.length_cons, hlen, decide_eq_true (by omega)] <;> rfl
      refine ss_appR (R := fun v H1 => ∃ t l, v = .ref t ∧ H' t = none ∧ H' l = none ∧ t ≠ l ∧ H1 t = some (.tup [u, .ref l]) ∧ H1 l = some (.lst [])) hst (ev_var rfl) (fun H1 e1 Q q => ?_) (by rw [List.length_append, List.length_reverse, List.length_map]; have := ob.len; simp; omega) fun v H1 e1 ⟨t', l', ev, ht', hl', hne', h1, h2⟩ => ?_
      · have hix : Ev (tOp (rIxT K) (tVar 3) (tOp (rI0 fun i j => V.int (i + j)) (tC (.int 1)) (tCB (rLenS K) (tCons (tVar 4) tNil)))) [some (.ref t0), some (.ref lo'), some fnd, some (.ref g.to), some (.ref g.l), some (.bl (singleB (tword g.c)))] H' u := by
          refine ev_op (ev_var rfl) (ev_op ev_c (ev_lenS (k := true) (ev_var rfl) (.of hgl)) rv_I0) (rv_ixT (.of hto) ?_)
          rw [List.length_map, show (1 : Int) + (g.done.length : Nat) = ((g.done.length + 1 : Nat) : Int) by omega]
          refine atI_nat ?_
          rw [List.getElem?_cons_succ, List.getElem?_append_right (Nat.le_of_eq og.dl), og.dl, Nat.sub_self, htv] <;> rfl
        exact hix H1 e1 _ fun H2 e2 => ⟨by decide, fun l hl => ⟨by show 2 ≤ sizeLine; decide, fun t ht => by
          have htl : t ≠ l := fun z => by rw [z, upd_same] at ht; cases ht
          have ht2 : H2 t = none := by rw [upd_ne htl] at ht; exact ht
          exact q _ _ (e2.trans ((Ex.new hl).trans (.new ht))) ⟨t, l, rfl, fresh_back (e1.trans e2) ht2, fresh_back (e1.trans e2) hl, htl, upd_same, by rw [upd_ne (Ne.symm htl)]; exact upd_same⟩⟩⟩
      subst ev
      refine ss_cont fun H2 e2 => ?_
      obtain ⟨m1, hm1⟩ : ∃ m, g.n = m + 1 := by
        cases hgn : g.n with
        | zero => rw [hgn] at hu; exact hu.elim
        | succ m => exact ⟨m, rfl⟩
      rw [hm1] at hu
      obtain ⟨t1, c1, rfl, us1, Ds1, r1, r2, r3, r4, r5⟩ := id hu
      have ip : Ip H' H2 := ((Ip.of e1).put (e1 _ _ hst) rfl).ex e2
      have hlo1 : lo' ≠ l' := fun z => by rw [← z, hst] at hl'; cases hl'
      have hlo2 : lo' ≠ t' := fun z => by rw [← z, hst] at ht'; cases ht'
      have eAt : ∀ b o, b ≠ lo' → H1 b = some o → H2 b = some o := fun b o hb h => e2 _ _ (by rw [upd_ne hb]; exact h)
      have kid := told_kid og.pt
      rw [htD] at kid
      have kD1 := kid D1 List.mem_cons_self
      have hD1s : D1.s ≤ g.D.s - 1 := by
        have := og.s
        rw [htD, List.map_append, List.sum_append, List.map_cons, List.sum_cons] at this
        have n1 : 0 ≤ (g.Dd.map (·.s)).sum := sum_nn fun x hx => by
          obtain ⟨D', hD', rfl⟩ := List.mem_map.mp hx
          obtain ⟨a', _, ha'⟩ := paired_r og.pd D' hD'
          exact part_pos ha'
        have n2 : 0 ≤ (tD'.map (·.s)).sum := sum_nn fun x hx => by
          obtain ⟨D', hD', rfl⟩ := List.mem_map.mp hx
          have := (kid D' (List.mem_cons_of_mem _ hD')).1
          show 0 ≤ D'.s
          omega
        omega
      have hD1 := told_pos hu
      have hlt' : l' ∉ (g :: fs).map (·.l) := fun z => by
        obtain ⟨f, hf, e⟩ := List.mem_map.mp z
        have := ol f hf
        rw [e, hl'] at this
        cases this
      have k1 := sN_sum (Ds := Ds1) fun D hD => (told_kid r1 D hD).1
      have k2 : (sN D1 : Int) = D1.s := Int.toNat_of_nonneg (by omega)
      refine ⟨remA ⟨t', l', t1, m1, c1, [], [], [], us1, Ds1, D1⟩ (g :: fs), ?_, lo', fnd, _, _, _, rfl, ((e00.trans e1).mut hlo0).trans e2, hlo0, .inl ⟨_, _, ?_, ?_, ?_, ?_, ?_, ?_, rfl⟩⟩
      · unfold remA remT
        rw [List.map_cons, List.sum_cons]
        unfold remB
        rw [htD, List.map_cons, List.sum_cons, List.drop_one, List.tail_cons]
        show 1 + 2 * (Ds1.map sN).sum + _ < _
        have : sN D1 = 1 + (Ds1.map sN).sum := by omega
        omega
      · rw [e2 _ _ upd_same, List.map_cons, List.reverse_cons]
      · exact ⟨eAt _ _ (Ne.symm hlo2) h1, fresh_back e00 hl', .nil, rfl, L2.Paired.mapP r1 fun _ _ q => q.im ip, r2, r3, r4, r5.im ip, by show D1.s ≤ 20; have := og.s20; omega, by show D1.d ≤ 20; have := og.s20; omega, by show m1 < n0 + 1; have := og.nN; omega⟩
      · exact ⟨og.im ip, hm1, ⟨_, tv', tD', htv, htD⟩, ob.im ip⟩
      · intro f hf
        rcases List.mem_cons.mp hf with rfl | hf
        · exact eAt _ _ (Ne.symm hlo1) h2
        · exact eAt _ _ (fun z => hlol (by rw [← z]; exact List.mem_map.mpr ⟨f, hf, rfl⟩)) (e1 _ _ (ol f hf))
      · rw [List.map_cons]
        exact List.nodup_cons.mpr ⟨hlt', ndl⟩
      · rw [List.map_cons]
        exact fun z => (List.mem_cons.mp z).elim hlo1 hlol
    · -- the part is made
      have htv : g.tv = [] := by
        cases h : g.tv with
        | nil => rfl
        | cons u r => exact absurd ⟨u, r, h⟩ hp
      have htD : g.tD = [] := by
        have := og.pt
        rw [htv] at this
        generalize g.tD = q at this ⊢
        cases this
        rfl
      have eu : g.dv ++ g.tv = g.dv := by rw [htv, List.append_nil]
      have eD : g.Dd ++ g.tD = g.Dd := by rw [htD, List.append_nil]
      refine ss_when (b := !singleB wd && decide (((g.done.map V.ref).length : Int) < ((V.str wd :: xs).length : Int) - 1)) (et_and (et_not (et_B (ev_var rfl))) fun _ => et_test (ev_op (ev_lenS (k := true) (ev_var rfl) (.of hgl)) (ev_op (ev_lenS (k := false) (ev_var rfl) (.of hto)) ev_c rv_I0) rv_I0)) (fun z => ?_) fun _ => ?_
      · rw [hsb] at z
        rcases Nat.lt_or_ge g.c 2 with q | q
        · rw [decide_eq_true q] at z
          cases z
        · obtain ⟨_, rfl⟩ := hge q
          rw [eu, List.length_map, List.length_cons, og.dl, decide_eq_false (by omega : ¬ ((g.done.length : Int) < ((g.done.length + 1 : Nat) : Int) - 1)), Bool.and_false] at z
          cases z
      refine ss_pop hst (ev_var rfl) ?_
      have ip : Ip H' (upd H' lo' (.lst (fs.map fun f => V.ref f.t).reverse)) := (Ip.refl _).put hst rfl
      have ipp : ∀ b o, b ≠ lo' → H' b = some o → (upd H' lo' (.lst (fs.map fun f => V.ref f.t).reverse)) b = some o := fun b o hb h => by rw [upd_ne hb]; exact h
      have hs := og.s
      have hd := og.d
      have hsh := og.sh
      rw [eD] at hs hd hsh
      rw [eu] at hsh
      refine ss_asgR (R := fun v H2 => ∃ a, v = .ref a ∧ PartAt K H2 (g.n + 1) a g.D) (er_if (et_B (ev_var rfl)) (fun hb => ?_) fun hb => ?_) fun v H1 e1 ⟨a, ev, pa⟩ => ?_
      · rw [hsb] at hb
        have hc := of_decide_eq_true hb
        obtain ⟨z1, z2⟩ := hlt hc
        rw [eu] at z1
        rw [eD] at z2
        rw [z1, z2] at hsh
        rw [z2] at hs hd
        refine er_fnV (ea_cons (ev_var rfl) ea_nil) ((c_single T).mono (by omega)) (spP_r (.ref g.to, g.D) rfl (fun H1 e1 => ⟨g.to, g.c, rfl, hc, [], [], .nil, by decide, hs, hd, hsh.im (ip.ex e1)⟩) fun H1 v H2 _ _ ⟨a, ev, pa⟩ => ⟨a, ev, pa.up (by omega)⟩)
      · rw [hsb] at hb
        have hc : 2 ≤ g.c := by have := of_decide_eq_false hb; omega
        obtain ⟨hw, rfl⟩ := hge hc
        obtain ⟨c5, cl1, cl2⟩ := told_cnt hc hsh
        rw [og.dl] at cl1 cl2
        have hsz := og.sz
        rw [eu, og.dl] at hsz
        have h20' := og.s20
        have hd20' := og.d20
        refine er_fnV (ea_cons (ev_op (ev_var rfl) ev_c (rv_ixT (.of (ip _ _ hto rfl)) (atI_nat (j := 0) rfl))) (ea_cons (ev_var rfl) ea_nil)) ((c_joined T g.n).mono (by have := og.nN; omega)) (spP_r (⟨g.c, g.l, g.done, g.Dd⟩ : JArg) (by rw [hw]) (fun H1 e1 => ⟨⟨hc, c5⟩, e1 _ _ (ipp _ _ (Ne.symm hnlo) hgl), L2.Paired.mapP og.pd fun _ _ q => q.im (ip.ex e1), cl1, cl2, hsz, by show 1 + (g.Dd.map (·.s)).sum ≤ 60; omega, by show 1 + maxL (g.Dd.map (·.d)) ≤ 20; omega⟩) fun H1 v H2 _ _ ⟨a, ev, pa⟩ => ⟨a, ev, by rw [← den_eq hc hsh hs hd]; exact pa⟩)
      subst ev
      have ip1 := ip.ex e1
      have hlo1 : H1 lo' = some (.lst (fs.map fun f => V.ref f.t).reverse) := e1 _ _ upd_same
      have e01 : Ex H H1 := (e00.mut hlo0).trans e1
      match fs, ob, ol, ndl, hlol, hlo1 with
      | [], ⟨hn, hD⟩, _, _, _, hlo1 =>
        refine ss_when (et_is (ev_neNil (ev_var rfl) (.of hlo1)) (by rfl : _ = false)) (fun z => nomatch z) fun _ => ss_end fun H2 e2 => ⟨0, by unfold remA remT; omega, lo', _, _, _, _, rfl, e01.trans e2, hlo0, .inr ⟨e2 _ _ hlo1, rfl, a, rfl, ?_⟩⟩
        rw [← hn, ← hD]
        exact pa.im (.of e2)
      | f :: fs, ⟨of, hn, ⟨u, tv', tD', ftv, ftD⟩, ob'⟩, ol, ndl, hlol, hlo1 =>
        rw [List.map_cons, List.reverse_cons] at hlo1
        have hfl : H1 f.l = some (.lst (f.done.map V.ref)) := e1 _ _ (ipp _ _ (fun z => hlol (by rw [← z]; simp)) (ol f (by simp)))
        have hft : H1 f.t = some (.tup [.ref f.to, .ref f.l]) := ip1 _ _ of.ht rfl
        have hdl : f.done.length ≤ 1000 := by have := of.sz; rw [List.length_append, of.dl] at this; omega
        have hflo : f.l ≠ lo' := fun z => hlol (by rw [← z]; simp)
        refine ss_when (et_is (ev_neNil (ev_var rfl) (.of hlo1)) (by simp : _ = true)) (fun _ => ?_) (fun z => nomatch z)
        refine ss_app hfl (ev_op (ev_op (ev_var rfl) (ev_un ev_c ru_neg) (rv_last hlo1)) ev_c (rv_ixT (.of hft) (atI_nat (j := 1) rfl))) (ev_var rfl) (by rw [List.length_map]; omega) (ss_end fun H2 e2 => ?_)
        have ip2 : Ip H1 H2 := ((Ip.refl _).put hfl rfl).ex e2
        have ipA : Ip H' H2 := ip1.trans ip2
        have q1 : (f.dv ++ [u]) ++ tv' = f.dv ++ f.tv := by rw [ftv, List.append_assoc]; rfl
        have q2 : (f.Dd ++ [g.D]) ++ tD' = f.Dd ++ f.tD := by rw [ftD, List.append_assoc]; rfl
        have fpt := of.pt
        rw [ftv, ftD] at fpt
        have ndl' := (List.nodup_cons.mp ndl).2
        rw [List.map_cons] at ndl'
        have hlol' : lo' ∉ (f :: fs).map (·.l) := fun z => hlol (List.mem_cons_of_mem _ z)
        refine ⟨remA ⟨f.t, f.l, f.to, f.n, f.c, f.done ++ [a], f.Dd ++ [g.D], f.dv ++ [u], tv', tD', f.D⟩ fs, ?_, lo', _, _, _, _, rfl, (e01.mut of.l0).trans e2, hlo0, .inl ⟨_, _, ?_, ?_, ?_, ?_, ?_, ?_, rfl⟩⟩
        · unfold remA remT
          rw [List.map_cons, List.sum_cons]
          unfold remB
          rw [ftD, List.drop_one, List.tail_cons]
          show 1 + 2 * (tD'.map sN).sum + _ < _
          omega
        · exact e2 _ _ (by rw [upd_ne (Ne.symm hflo)]; exact hlo1)
        · exact ⟨ipA _ _ of.ht rfl, of.l0, paired_snoc (by rw [hn]; exact pa.im ip2) (L2.Paired.mapP of.pd fun _ _ q => q.im ipA), by show (f.dv ++ [u]).length = (f.done ++ [a]).length; rw [List.length_append, List.length_append, of.dl]; rfl, by cases fpt with | cons _ r => exact L2.Paired.mapP r fun _ _ q => q.im ipA, by show ((f.dv ++ [u]) ++ tv').length ≤ 1000; rw [q1]; exact of.sz,
            by show f.D.s = 1 + (((f.Dd ++ [g.D]) ++ tD').map (·.s)).sum; rw [q2]; exact of.s, by show f.D.d = 1 + maxL (((f.Dd ++ [g.D]) ++ tD').map (·.d)); rw [q2]; exact of.d, by show TShape H2 f.c f.to ((f.dv ++ [u]) ++ tv') ((f.Dd ++ [g.D]) ++ tD') f.D.h; rw [q1, q2]; exact of.sh.im ipA, of.s20, of.d20, of.nN⟩
        · exact ob'.im ipA
        · intro f' hf'
          rcases List.mem_cons.mp hf' with rfl | hf'
          · refine e2 _ _ ?_
            rw [upd_same, List.map_append]
            rfl
          · have hne : f'.l ≠ f.l := fun z => (List.nodup_cons.mp ndl').1 (by rw [← z]; exact List.mem_map.mpr ⟨f', hf', rfl⟩)
            have hne2 : f'.l ≠ lo' := fun z => hlol' (by rw [← z]; exact List.mem_cons_of_mem _ (List.mem_map.mpr ⟨f', hf', rfl⟩))
            exact e2 _ _ (by rw [upd_ne hne]; exact e1 _ _ (ipp _ _ hne2 (ol f' (by simp [hf']))))
        · exact ndl'
        · exact hlol'
  · refine ⟨false, et_is (ev_neNil (ev_var rfl) (.of hst)) (by simp), (fun z => nomatch z), fun _ => ?_⟩
    exact ss_ret (ev_var rfl) fun H2 e2 => hQ _ H2 (e0.trans e2) ⟨a, rfl, pa.im (.of e2)⟩
end
end RgK
set_option Elab.async false
set_option linter.all false
set_option maxRecDepth 100000
set_option maxHeartbeats 4000000

/-! Ends are made; rungs; the names that are written; what a ladder must keep. -/
namespace RgK
open PySem PySem.Spec PyProof.Rows L2 Evl
local macro_rules | `(tactic| walk_at "ev") => `(tactic| repeat' (first
  | with_reducible exact ev_c
  | with_reducible exact ea_nil
  | ((with_reducible apply ev_var); first | rfl | assumption)
  | with_reducible apply ea_cons
  | with_reducible apply ev_fld
  | ((with_reducible show Fld _ _ _ _ _); assumption)
  | with_reducible exact rv_I0
  | with_reducible exact ru_neg
  | with_reducible exact rv_eq rfl
  | with_reducible exact rv_ne rfl
  | ((with_reducible apply rv_I); first | decide | omega | assumption)
  | ((with_reducible show _ = _ → EvT _ _ _ _); intro _)
  | ((with_reducible show _ = _ → Ev _ _ _ _); intro _)
  | with_reducible apply et_and
  | with_reducible apply et_or
  | with_reducible apply ev_andV
  | with_reducible apply ev_orV
  | with_reducible apply et_test
  | with_reducible apply et_B
  | with_reducible apply et_not
  | with_reducible apply ev_notV
  | with_reducible apply ev_un
  | with_reducible apply ev_op))

def eword : Nat → Str
  | 0 => "coil"
  | 1 => "set"
  | 2 => "reset"
  | 3 => "timer"
  | _ => "counter"
structure EndOk (e : EndV) : Prop where
  k : e.kind < 5
  nm : nameB e.name = true
  len : e.name.length ≤ 1000
  m1 : 1 ≤ e.most
  m9 : e.most ≤ 9
def EndTold (H : Hp) (v : V) (e : EndV) : Prop := EndOk e ∧ ∃ t, v = .ref t ∧ H t = some (.tup [.str (eword e.kind), .str e.name, .int e.most])
theorem EndTold.im {H H' : Hp} {v : V} {e : EndV} (h : EndTold H v e) (i : Ip H H') : EndTold H' v e := ⟨h.1, let ⟨t, a, b⟩ := h.2; ⟨t, a, i _ _ b rfl⟩⟩
section
variable {w : World} {K : PySem.W.Frag} {mg : Mg} {base : Heap} {k : Nat}
def mkEnd1 (K : PySem.W.Frag) (c : Nat) : Sp := spM (ι := Str) (He.ga K (ecls c)) (fun n => [.str n]) (fun n _ => n.length ≤ 1000 ∧ nameB n = true) (fun n a H2 => ∃ dx, H2 a = some (.ins (He.ga K (ecls c)) dx [("name", .str n)]))
def mkEnd2 (K : PySem.W.Frag) (c : Nat) : Sp := spM (ι := Str × Int) (He.ga K (ecls c)) (fun n => [.str n.1, .int n.2]) (fun n _ => n.1.length ≤ 1000 ∧ nameB n.1 = true ∧ 1 ≤ n.2 ∧ n.2 ≤ 9) (fun n a H2 => ∃ dx, H2 a = some (.ins (He.ga K (ecls c)) dx [("name", .str n.1), ("most", .int n.2)]))
theorem k_end1 (T : Tx w K mg base) (c : Nat) (hc : c < 3) : Mak PG w K mg base 3 (He.ga K (ecls c)) (mkEnd1 K c) := by
  have imp : ∀ {c : Nat}, Cls K (He.ga K (ecls c)) → NoAttr K (He.ga K (ecls c)) "name" → ∀ vs H Q E, mkEnd1 K c vs H Q E → spEndI K vs H Q E := by
    rintro c cl na vs H Q E ⟨n, H0, a, dx, rfl, rfl, h1, h2, h3, ⟨hz, hv⟩, hQ⟩
    exact ⟨a, _, dx, [], n, rfl, upd_same, by decide, cl, na, by omega, hv, fun H1 e1 => hQ H1 (((ex_made h1 h2).mut h1).trans e1) ⟨dx, e1 _ _ upd_same⟩⟩
  match c, hc with
  | 0, _ => exact Mak.imp (mak_of (f_end_init T T.d_Coil_init) T.k_Coil) (imp T.c_Coil T.n_Coil_name)
  | 1, _ => exact Mak.imp (mak_of (f_end_init T T.d_Latch_init) T.k_Latch) (imp T.c_Latch T.n_Latch_name)
  | 2, _ => exact Mak.imp (mak_of (f_end_init T T.d_Unlatch_init) T.k_Unlatch) (imp T.c_Unlatch T.n_Unlatch_name)
theorem k_end2 (T : Tx w K mg base) (c : Nat) (hc : c = 3 ∨ c = 4) : Mak PG w K mg base 4 (He.ga K (ecls c)) (mkEnd2 K c) := by
  have imp : ∀ {c : Nat}, Cls K (He.ga K (ecls c)) → NoAttr K (He.ga K (ecls c)) "name" → NoAttr K (He.ga K (ecls c)) "most" → ∀ vs H Q E, mkEnd2 K c vs H Q E → spCntI K vs H Q E := by
    rintro c cl na nb vs H Q E ⟨⟨n, m⟩, H0, a, dx, rfl, rfl, h1, h2, h3, ⟨hz, hv, hm1, hm9⟩, hQ⟩
    have hz : n.length ≤ 1000 := hz
    exact ⟨a, _, dx, [], n, m, rfl, upd_same, by decide, cl, na, nb, by omega, hv, hm1, hm9, fun H1 e1 => hQ H1 (((ex_made h1 h2).mut h1).trans e1) ⟨dx, e1 _ _ upd_same⟩⟩
  rcases hc with rfl | rfl
  · exact Mak.imp (mak_of (f_cnt_init T T.d_Timer_init) T.k_Timer) (imp T.c_Timer T.n_Timer_name T.n_Timer_most)
  · exact Mak.imp (mak_of (f_cnt_init T T.d_Counter_init) T.k_Counter) (imp T.c_Counter T.n_Counter_name T.n_Counter_most)
/-! ### _law_end -/
def spLEnd (K : PySem.W.Frag) : Sp := spP (ι := V × EndV) (fun i => [i.1]) (fun i H => EndTold H i.1 i.2) (fun i H v H2 => ∃ a, v = .ref a ∧ EndAt K H2 a i.2)
theorem c_law_end (T : Tx w K mg base) : Cal PG w K mg base 6 "_law_end" (spLEnd K) := by
  refine cal_of (fnd ["_law_end_here"] ["_law_end_here"] T.d_law_end (by decide +kernel) (spP_len fun _ => rfl) (fun _ _ _ _ _ _ us h => by match us, h with | [_], _ => rfl) ?_) T.g_law_end
  rintro cdv A outer s H vs Q E hr ⟨⟨v, ⟨c, n, m⟩⟩, rfl, ⟨⟨hk, hn, hl, h1, h9⟩, t, ev, ht⟩, hQ⟩
  have ev : v = .ref t := ev
  subst ev
  have ht : H t = some (.tup [.str (eword c), .str n, .int m]) := ht
  have nd : (["_law_end_here"] : List Str).Nodup := by decide +kernel
  refine ⟨_, 
    (pss_cons (ps_if (pt_cmpR op_eq (pe_ix (ix_tT T) (pv 0) pe_int (fun _ _ => rfl)) pe_str (nomark _)) 
    (pss_cons (ps_ret (pe_mk T hr T.k_Coil (by rfl) T.g_Coil (pa_cons (pe_ix (ix_tT T) (pv 0) pe_int (fun _ _ => rfl)) pa_nil))) pss_nil) pss_nil) 
    (pss_cons (ps_if (pt_cmpR op_eq (pe_ix (ix_tT T) (pv 0) pe_int (fun _ _ => rfl)) pe_str (nomark _)) 
    (pss_cons (ps_ret (pe_mk T hr T.k_Latch (by rfl) T.g_Latch (pa_cons (pe_ix (ix_tT T) (pv 0) pe_int (fun _ _ => rfl)) pa_nil))) pss_nil) pss_nil) 
    (pss_cons (ps_if (pt_cmpR op_eq (pe_ix (ix_tT T) (pv 0) pe_int (fun _ _ => rfl)) pe_str (nomark _)) 
    (pss_cons (ps_ret (pe_mk T hr T.k_Unlatch (by rfl) T.g_Unlatch (pa_cons (pe_ix (ix_tT T) (pv 0) pe_int (fun _ _ => rfl)) pa_nil))) pss_nil) pss_nil) 
    (pss_cons (ps_if (pt_cmpR op_eq (pe_ix (ix_tT T) (pv 0) pe_int (fun _ _ => rfl)) pe_str (nomark _)) 
    (pss_cons (ps_ret (pe_mk T hr T.k_Timer (by rfl) T.g_Timer (pa_cons (pe_ix (ix_tT T) (pv 0) pe_int (fun _ _ => rfl)) (pa_cons (pe_ix (ix_tT T) (pv 0) pe_int (fun _ _ => rfl)) pa_nil)))) pss_nil) pss_nil) 
    (pss_cons (ps_ret (pe_mk T hr T.k_Counter (by rfl) T.g_Counter (pa_cons (pe_ix (ix_tT T) (pv 0) pe_int (fun _ _ => rfl)) (pa_cons (pe_ix (ix_tT T) (pv 0) pe_int (fun _ _ => rfl)) pa_nil)))) pss_nil))))), SS.here ?_⟩
  have e0 : ∀ (z : Str) (b : Bool), decide (V.str (eword c) = V.str z) = b → EvT (tTest (tOp rEq (tOp (rIxT K) (tVar 0) (tC (.int 0))) (tC (.str z)))) [some (.ref t)] H b := fun z b h => et_test (ev_is (ev_op (ev_op (ev_var rfl) ev_c (rv_ixT (.of ht) (atI_nat (j := 0) rfl))) ev_c (rv_eq rfl)) (by rw [h]))
  have e1 : Ev (tOp (rIxT K) (tVar 0) (tC (.int 1))) [some (.ref t)] H (.str n) := ev_op (ev_var rfl) ev_c (rv_ixT (.of ht) (atI_nat (j := 1) rfl))
  have e2 : Ev (tOp (rIxT K) (tVar 0) (tC (.int 2))) [some (.ref t)] H (.int m) := ev_op (ev_var rfl) ev_c (rv_ixT (.of ht) (atI_nat (j := 2) rfl))
  have one : ∀ (j : Nat), j < 3 → j = c → ∀ E, EvR (tMk (He.ga K (ecls j)) (Mak PG w K mg base 4 (He.ga K (ecls j))) E (tCons (tOp (rIxT K) (tVar 0) (tC (.int 1))) tNil)) [some (.ref t)] H (fun v H2 => ∃ a, v = .ref a ∧ EndAt K H2 a ⟨c, n, m⟩) := fun j hj e E => by
    subst e
    refine er_mkM ((k_end1 T j hj).mono (by decide)) (ea_rel (ea_cons e1 ea_nil)) fun vs H1 _ e => ⟨n, e, ⟨hl, hn⟩, fun a H2 _ _ ⟨dx, r⟩ => ⟨a, rfl, hk, dx, ?_⟩⟩
    match j, hj with
    | 0, _ => exact r
    | 1, _ => exact r
    | 2, _ => exact r
  have two : ∀ (j : Nat), j = 3 ∨ j = 4 → j = c → ∀ E, EvR (tMk (He.ga K (ecls j)) (Mak PG w K mg base 4 (He.ga K (ecls j))) E (tCons (tOp (rIxT K) (tVar 0) (tC (.int 1))) (tCons (tOp (rIxT K) (tVar 0) (tC (.int 2))) tNil))) [some (.ref t)] H (fun v H2 => ∃ a, v = .ref a ∧ EndAt K H2 a ⟨c, n, m⟩) := fun j hj e E => by
    subst e
    refine er_mkM (k_end2 T j hj) (ea_rel (ea_cons e1 (ea_cons e2 ea_nil))) fun vs H1 _ e => ⟨(n, m), e, ⟨hl, hn, h1, h9⟩, fun a H2 _ _ ⟨dx, r⟩ => ⟨a, rfl, hk, dx, ?_⟩⟩
    rcases hj with rfl | rfl
    · exact r
    · exact r
  have dw : ∀ (j : Nat) (z : Str), j < 5 → z = eword j → decide (V.str (eword c) = V.str z) = decide (c = j) := fun j z hj hz => by
    subst hz
    have all : ∀ c, c < 5 → ∀ j, j < 5 → decide (V.str (eword c) = V.str (eword j)) = decide (c = j) := by decide +kernel
    exact all c hk j hj
  have fin : ∀ {te : TE} {tz : TS} {D : Ends}, D.rt = Q → EvR te [some (.ref t)] H (fun v H2 => ∃ a, v = .ref a ∧ EndAt K H2 a ⟨c, n, m⟩) → SS (tSeq (tRet te) tz) D [some (.ref t)] H := fun hD h => ss_retR h fun v H1 e1 r => by
    rw [hD]
    exact hQ v H1 e1 r
  refine ss_when (e0 _ _ (dw 0 _ (by decide) rfl)) (fun z => fin rfl (one 0 (by decide) (of_decide_eq_true z).symm _)) fun z0 => ?_
  refine ss_when (e0 _ _ (dw 1 _ (by decide) rfl)) (fun z => fin rfl (one 1 (by decide) (of_decide_eq_true z).symm _)) fun z1 => ?_
  refine ss_when (e0 _ _ (dw 2 _ (by decide) rfl)) (fun z => fin rfl (one 2 (by decide) (of_decide_eq_true z).symm _)) fun z2 => ?_
  refine ss_when (e0 _ _ (dw 3 _ (by decide) rfl)) (fun z => fin rfl (two 3 (by decide) (of_decide_eq_true z).symm _)) fun z3 => ?_
  have hk' : c < 5 := hk
  have := of_decide_eq_false z0
  have := of_decide_eq_false z1
  have := of_decide_eq_false z2
  have := of_decide_eq_false z3
  exact fin rfl (two 4 (by decide) (by omega) _)
/-! ### rungs -/
abbrev RungV : Type := Den × EndV
def RungAt (K : PySem.W.Frag) (H : Hp) (n : Nat) (a : Addr) (r : RungV) : Prop := ∃ dx p q, H a = some (.ins (He.ga K "Rung") dx [("part", .ref p), ("end", .ref q)]) ∧ PartAt K H n p r.1 ∧ EndAt K H q r.2 ∧ EndOk r.2
theorem RungAt.im {H H' : Hp} {n : Nat} {a : Addr} {r : RungV} (h : RungAt K H n a r) (i : Ip H H') : RungAt K H' n a r := let ⟨dx, p, q, h1, h2, h3, h4⟩ := h; ⟨dx, p, q, i _ _ h1 rfl, h2.im i, h3.im i, h4⟩
def mkRung (K : PySem.W.Frag) : Sp := spM (ι := Addr × Addr) (He.ga K "Rung") (fun i => [.ref i.1, .ref i.2]) (fun _ _ => True) (fun i a H2 => ∃ dx, H2 a = some (.ins (He.ga K "Rung") dx [("part", .ref i.1), ("end", .ref i.2)]))
theorem k_Rung (T : Tx w K mg base) : Mak PG w K mg base 1 (He.ga K "Rung") (mkRung K) := by
  refine mak_of (fnd ["self", "part", "end"] ["self", "part", "end"] T.d_Rung_init (by decide +kernel) (spM_len fun _ => rfl) (fun _ _ _ _ _ _ us h => by match us, h with | [_, _, _], _ => rfl) ?_) T.k_Rung
  rintro cdv A outer s H vs Q E hr ⟨⟨p, q⟩, H0, a, dx, rfl, rfl, h1, h2, h3, -, hQ⟩
  have nd : (["self", "part", "end"] : List Str).Nodup := by decide +kernel
  refine ⟨_, 
    (pss_cons (ps_fld (pv 0) (pv 1) rfl) 
    (pss_cons (ps_fld (pv 0) (pv 2) rfl) pss_nil)), SS.here ?_⟩
  exact ss_fld (ev_var rfl) (ev_var rfl) upd_same T.c_Rung T.n_Rung_part (by decide) (ss_fld (ev_var rfl) (ev_var rfl) upd_same T.c_Rung T.n_Rung_end (Nat.lt_of_le_of_lt (length_putF _ _ _) (by decide)) (ss_end fun H1 e1 => hQ H1 (Ex.trans (((ex_made h1 h2).mut h1).mut h1) e1) ⟨dx, e1 _ _ upd_same⟩))
theorem RungAt.part (T : Tx w K mg base) {H : Hp} {n : Nat} {a : Addr} {r : RungV} (h : RungAt K H n a r) : ∃ p, Fld K H a "part" (.ref p) ∧ PartAt K H n p r.1 := let ⟨dx, p, q, h1, h2, h3, h4⟩ := h; ⟨p, ⟨_, _, _, h1, T.c_Rung, T.n_Rung_part, rfl⟩, h2⟩
theorem RungAt.end_ (T : Tx w K mg base) {H : Hp} {n : Nat} {a : Addr} {r : RungV} (h : RungAt K H n a r) : ∃ p, Fld K H a "end" (.ref p) ∧ EndAt K H p r.2 := let ⟨dx, p, q, h1, h2, h3, h4⟩ := h; ⟨q, ⟨_, _, _, h1, T.c_Rung, T.n_Rung_end, rfl⟩, h3⟩
theorem EndAt.name (T : Tx w K mg base) {H : Hp} {a : Addr} {e : EndV} (h : EndAt K H a e) : Fld K H a "name" (.str e.name) := by
  obtain ⟨c, n, m⟩ := e
  obtain ⟨hk, dx, q⟩ := h
  match c, hk, q with
  | 0, _, q => exact ⟨_, _, _, q, T.c_Coil, T.n_Coil_name, rfl⟩
  | 1, _, q => exact ⟨_, _, _, q, T.c_Latch, T.n_Latch_name, rfl⟩
  | 2, _, q => exact ⟨_, _, _, q, T.c_Unlatch, T.n_Unlatch_name, rfl⟩
  | 3, _, q => exact ⟨_, _, _, q, T.c_Timer, T.n_Timer_name, rfl⟩
  | 4, _, q => exact ⟨_, _, _, q, T.c_Counter, T.n_Counter_name, rfl⟩
theorem EndAt.most (T : Tx w K mg base) {H : Hp} {a : Addr} {e : EndV} (h : EndAt K H a e) (h3 : 3 ≤ e.kind) : Fld K H a "most" (.int e.most) := by
  obtain ⟨c, n, m⟩ := e
  obtain ⟨hk, dx, q⟩ := h
  match c, hk, h3, q with
  | 3, _, _, q => exact ⟨_, _, _, q, T.c_Timer, T.n_Timer_most, rfl⟩
  | 4, _, _, q => exact ⟨_, _, _, q, T.c_Counter, T.n_Counter_most, rfl⟩
/-- isinstance of an end, by its kind -/
def icls : Nat → String
  | 0 => "Coil"
  | 1 => "Latch"
  | 2 => "Unlatch"
  | 3 => "Timer"
  | 4 => "Counter"
  | _ => "Counting"
def isK (k j : Nat) : Bool := decide (k = j) || (decide (j = 5) && decide (3 ≤ k))
theorem end_kit (T : Tx w K mg base) : ∀ (k j : Nat), k < 5 → j < 6 → PySem.W.kitOne K (.ref (He.ga K (ecls k))) (.ref (He.ga K (icls j))) = some (isK k j)
  | 0, 0, _, _ => T.kit 0 | 0, 1, _, _ => T.kit 1 | 0, 2, _, _ => T.kit 2 | 0, 3, _, _ => T.kit 3 | 0, 4, _, _ => T.kit 4 | 0, 5, _, _ => T.kit 5
  | 1, 0, _, _ => T.kit 6 | 1, 1, _, _ => T.kit 7 | 1, 2, _, _ => T.kit 8 | 1, 3, _, _ => T.kit 9 | 1, 4, _, _ => T.kit 10 | 1, 5, _, _ => T.kit 11
  | 2, 0, _, _ => T.kit 12 | 2, 1, _, _ => T.kit 13 | 2, 2, _, _ => T.kit 14 | 2, 3, _, _ => T.kit 15 | 2, 4, _, _ => T.kit 16 | 2, 5, _, _ => T.kit 17
  | 3, 0, _, _ => T.kit 18 | 3, 1, _, _ => T.kit 19 | 3, 2, _, _ => T.kit 20 | 3, 3, _, _ => T.kit 21 | 3, 4, _, _ => T.kit 22 | 3, 5, _, _ => T.kit 23
  | 4, 0, _, _ => T.kit 24 | 4, 1, _, _ => T.kit 25 | 4, 2, _, _ => T.kit 26 | 4, 3, _, _ => T.kit 27 | 4, 4, _, _ => T.kit 28 | 4, 5, _, _ => T.kit 29
theorem end_ty (T : Tx w K mg base) {H : Hp} {a : Addr} {e : EndV} (h : EndAt K H a e) : TyX K H (.ref a) (.ref (He.ga K (ecls e.kind))) := by
  obtain ⟨c, n, m⟩ := e
  obtain ⟨hk, dx, q⟩ := h
  match c, hk, q with
  | 0, _, q => exact T.tyO (x := "Coil") (by decide) T.c_Coil q
  | 1, _, q => exact T.tyO (x := "Latch") (by decide) T.c_Latch q
  | 2, _, q => exact T.tyO (x := "Unlatch") (by decide) T.c_Unlatch q
  | 3, _, q => exact T.tyO (x := "Timer") (by decide) T.c_Timer q
  | 4, _, q => exact T.tyO (x := "Counter") (by decide) T.c_Counter q
/-- isinstance(e, C) -/
theorem rc_end (T : Tx w K mg base) {H : Hp} {a : Addr} {e : EndV} (h : EndAt K H a e) (j : Nat) (hj : j < 6) : RC (rIsi K) [.ref a, .ref (He.ga K (icls j))] H (.bl (isK e.kind j)) :=
  rc_isi (.own _) (fun H1 e1 => end_ty T (h.im (.of e1))) (end_kit T e.kind j h.1 hj)
/-- isinstance(e, (C, D)) -/
theorem ev_endT (T : Tx w K mg base) {σ : L2.St} {H : Hp} {ta : TE} {a : Addr} {e : EndV} (ha : Ev ta σ H (.ref a)) (h : EndAt K H a e) (i j : Nat) (hi : i < 6) (hj : j < 6) : Ev (tCB (rIsiT K) (tCons ta (tCons (tTup (tCons (tC (.ref (He.ga K (icls i)))) (tCons (tC (.ref (He.ga K (icls j)))) tNil))) tNil))) σ H (.bl (isK e.kind i || isK e.kind j)) :=
  fun H1 e1 Q q => ha H1 e1 _ fun H2 e2 => ⟨by show 2 ≤ sizeLine; decide, fun p hp => by
    have k1 := end_kit T e.kind i h.1 hi
    have k2 := end_kit T e.kind j h.1 hj
    refine ⟨.ref a, p, [.ref _, .ref _], _, [.ref _, .ref _], _, rfl, upd_same, .cons (.own _) (.cons (.own _) .nil), end_ty T (h.im (.of ((e1.trans e2).trans (.new hp)))), ?_, q _ (e2.trans (.new hp))⟩
    refine kitAny_cons k1 (fun hb => kitAny_cons (r := isK e.kind i || isK e.kind j) k2 (fun hb2 => ?_) fun hb2 => by rw [hb2, Bool.or_true]) fun hb => by rw [hb, Bool.true_or]
    rw [hb, hb2]
    exact kitAny_nil⟩
end
end RgK
set_option Elab.async false
set_option linter.all false
set_option maxRecDepth 100000
set_option maxHeartbeats 4000000

/-! Tables; the names that are written. -/
namespace RgK
open PySem PySem.Spec PyProof.Rows L2 Evl
local macro_rules | `(tactic| walk_at "ev") => `(tactic| repeat' (first
  | with_reducible exact ev_c
  | with_reducible exact ea_nil
  | ((with_reducible apply ev_var); first | rfl | assumption)
  | with_reducible apply ea_cons
  | with_reducible apply ev_fld
  | ((with_reducible show Fld _ _ _ _ _); assumption)
  | with_reducible exact rv_I0
  | with_reducible exact ru_neg
  | with_reducible exact rv_eq rfl
  | with_reducible exact rv_ne rfl
  | ((with_reducible apply rv_I); first | decide | omega | assumption)
  | ((with_reducible show _ = _ → EvT _ _ _ _); intro _)
  | ((with_reducible show _ = _ → Ev _ _ _ _); intro _)
  | with_reducible apply et_and
  | with_reducible apply et_or
  | with_reducible apply ev_andV
  | with_reducible apply ev_orV
  | with_reducible apply et_test
  | with_reducible apply et_B
  | with_reducible apply et_not
  | with_reducible apply ev_notV
  | with_reducible apply ev_un
  | with_reducible apply ev_op))

/-! ### a dict from names -/
def tab (ns : List Str) (f : Str → V) : List (Key × V) := ns.map fun n => (Sum.inr n, f n)
theorem tab_len (ns : List Str) (f : Str → V) : (tab ns f).length = ns.length := List.length_map ..
theorem tab_congr {ns : List Str} {f g : Str → V} (h : ∀ n ∈ ns, f n = g n) : tab ns f = tab ns g := List.map_congr_left fun n hn => by rw [h n hn]
theorem valV_tab (f : Str → V) (x : Str) : ∀ ns : List Str, valV (tab ns f) (.inr x) = if x ∈ ns then some (f x) else none
  | [] => rfl
  | n :: ns => by
    show valV ((Sum.inr n, f n) :: tab ns f) (.inr x) = _
    by_cases h : n = x
    · subst h
      rw [valV_pos rfl, if_pos List.mem_cons_self]
    · rw [valV_neg (fun e => h (Sum.inr.inj e)), valV_tab f x ns]
      by_cases h2 : x ∈ ns
      · rw [if_pos h2, if_pos (List.mem_cons_of_mem _ h2)]
      · rw [if_neg h2, if_neg (fun z => (List.mem_cons.mp z).elim (fun e => h e.symm) h2)]
theorem any_tab (f : Str → V) (x : Str) (ns : List Str) : ((tab ns f).any fun kv => decide (kv.1 = (Sum.inr x : Key))) = decide (x ∈ ns) := by
  rw [valV_any, valV_tab]
  by_cases h : x ∈ ns
  · rw [if_pos h, decide_eq_true h]; rfl
  · rw [if_neg h, decide_eq_false h]; rfl
theorem put_mem {ns : List Str} {f : Str → V} {x : Str} {v : V} (h : x ∈ ns) : putK (tab ns f) (.inr x) v = tab ns (fun n => if n = x then v else f n) := by
  unfold putK
  rw [any_tab, decide_eq_true h, if_pos rfl]
  unfold tab
  rw [List.map_map]
  refine List.map_congr_left fun n _ => ?_
  show (if (Sum.inr n : Key) = Sum.inr x then ((Sum.inr n : Key), v) else (Sum.inr n, f n)) = (Sum.inr n, if n = x then v else f n)
  by_cases e : n = x
  · subst e
    rw [if_pos rfl, if_pos rfl]
  · rw [if_neg (fun z => e (Sum.inr.inj z)), if_neg e]
theorem put_new {ns : List Str} {f : Str → V} {x : Str} {v : V} (h : x ∉ ns) : putK (tab ns f) (.inr x) v = tab (ns ++ [x]) (fun n => if n = x then v else f n) := by
  unfold putK
  rw [any_tab, decide_eq_false h, if_neg (by decide)]
  unfold tab
  rw [List.map_append, List.map_singleton]
  show _ = _ ++ [(Sum.inr x, if x = x then v else f x)]
  rw [if_pos rfl]
  congr 1
  exact List.map_congr_left fun n hn => by show _ = (Sum.inr n, if n = x then v else f n); rw [if_neg (fun e => h (by rw [← e]; exact hn))]
/-- a name once -/
def addN (l : List Str) (x : Str) : List Str := if x ∈ l then l else l ++ [x]
theorem put_add {ns : List Str} {f : Str → V} {x : Str} {v : V} : putK (tab ns f) (.inr x) v = tab (addN ns x) (fun n => if n = x then v else f n) := by
  unfold addN
  by_cases h : x ∈ ns
  · rw [if_pos h, put_mem h]
  · rw [if_neg h, put_new h]
theorem addN_nodup {l : List Str} {x : Str} (h : l.Nodup) : (addN l x).Nodup := by
  unfold addN
  split
  · exact h
  · rename_i n
    exact List.nodup_append.mpr ⟨h, by simp, fun a ha b hb e => n (by rw [← List.mem_singleton.mp hb, ← e]; exact ha)⟩
theorem mem_addN {l : List Str} {x y : Str} : y ∈ addN l x ↔ y ∈ l ∨ y = x := by
  unfold addN
  split
  · rename_i h
    exact ⟨.inl, fun z => z.elim id fun e => by rw [e]; exact h⟩
  · rw [List.mem_append, List.mem_singleton]
theorem addN_len (l : List Str) (x : Str) : (addN l x).length ≤ l.length + 1 := by
  unfold addN
  split
  · omega
  · rw [List.length_append]; exact Nat.le_refl _
def namesOf (rs : List RungV) : List Str := rs.foldl (fun l r => addN l r.2.name) []
theorem namesOf_snoc (rs : List RungV) (r : RungV) : namesOf (rs ++ [r]) = addN (namesOf rs) r.2.name := by unfold namesOf; rw [List.foldl_append]; rfl
theorem take_snoc {α : Type} {l : List α} {i : Nat} {x : α} (h : l[i]? = some x) : l.take (i + 1) = l.take i ++ [x] := by
  rw [List.take_add_one, h]
  rfl
theorem namesOf_nodup (rs : List RungV) : (namesOf rs).Nodup := by
  unfold namesOf
  have : ∀ (rs : List RungV) (l : List Str), l.Nodup → (rs.foldl (fun l r => addN l r.2.name) l).Nodup := by
    intro rs
    induction rs with
    | nil => exact fun l h => h
    | cons r rs ih => exact fun l h => ih _ (addN_nodup h)
  exact this rs [] List.nodup_nil
theorem mem_namesOf {x : Str} (rs : List RungV) : x ∈ namesOf rs ↔ ∃ r ∈ rs, r.2.name = x := by
  have : ∀ (rs : List RungV) (l : List Str), x ∈ rs.foldl (fun l r => addN l r.2.name) l ↔ x ∈ l ∨ ∃ r ∈ rs, r.2.name = x := by
    intro rs
    induction rs with
    | nil => exact fun l => ⟨.inl, fun h => h.elim id fun ⟨_, h, _⟩ => by cases h⟩
    | cons r rs ih =>
      intro l
      rw [List.foldl_cons, ih, mem_addN]
      constructor
      · rintro ((h | h) | ⟨r', h, e⟩)
        · exact .inl h
        · exact .inr ⟨r, List.mem_cons_self, h.symm⟩
        · exact .inr ⟨r', List.mem_cons_of_mem _ h, e⟩
      · rintro (h | ⟨r', h, e⟩)
        · exact .inl (.inl h)
        · rcases List.mem_cons.mp h with rfl | h
          · exact .inl (.inr e.symm)
          · exact .inr ⟨r', h, e⟩
  unfold namesOf
  rw [this]
  simp
theorem namesOf_len (rs : List RungV) : (namesOf rs).length ≤ rs.length := by
  have : ∀ (rs : List RungV) (l : List Str), (rs.foldl (fun l r => addN l r.2.name) l).length ≤ l.length + rs.length := by
    intro rs
    induction rs with
    | nil => exact fun l => Nat.le_refl _
    | cons r rs ih =>
      intro l
      have h1 := ih (addN l r.2.name)
      have h2 := addN_len l r.2.name
      rw [List.foldl_cons, List.length_cons]
      omega
  have := this rs []
  rw [List.length_nil] at this
  unfold namesOf
  omega
/-! ### a ladder -/
structure Ldr where
  ins : List Str
  outs : List Str
  rungs : List RungV
def lfs (ti to tr : Addr) : List (Str × V) := [("inputs", .ref ti), ("outputs", .ref to), ("rungs", .ref tr)]
def LadderAt (K : PySem.W.Frag) (H : Hp) (n : Nat) (a : Addr) (M : Ldr) : Prop :=
  ∃ dx ti to tr rs, H a = some (.ins (He.ga K "Ladder") dx (lfs ti to tr)) ∧ H ti = some (.tup (M.ins.map V.str)) ∧ H to = some (.tup (M.outs.map V.str)) ∧ H tr = some (.tup (rs.map V.ref)) ∧ Paired (RungAt K H n) rs M.rungs ∧ M.rungs.length ≤ 1000 ∧ M.ins.length ≤ 1000 ∧ M.outs.length ≤ 1000
theorem LadderAt.im {K : PySem.W.Frag} {H H' : Hp} {n : Nat} {a : Addr} {M : Ldr} (h : LadderAt K H n a M) (i : Ip H H') : LadderAt K H' n a M :=
  let ⟨dx, ti, to, tr, rs, h1, h2, h3, h4, h5, h6⟩ := h; ⟨dx, ti, to, tr, rs, i _ _ h1 rfl, i _ _ h2 rfl, i _ _ h3 rfl, i _ _ h4 rfl, L2.Paired.mapP h5 fun _ _ q => q.im i, h6⟩
abbrev Ldr.names (M : Ldr) : List Str := namesOf M.rungs
theorem names_le {M : Ldr} (h : M.rungs.length ≤ 1000) : M.names.length ≤ 1000 := Nat.le_trans (namesOf_len _) h
theorem paired_len {α β : Type} {G : α → β → Prop} : ∀ {l₁ : List α} {l₂ : List β}, Paired G l₁ l₂ → l₁.length = l₂.length
  | _, _, .nil => rfl
  | _, _, .cons _ r => congrArg Nat.succ (paired_len r)
theorem paired_at {α β : Type} {G : α → β → Prop} {f : α → V} {l₁ : List α} {l₂ : List β} (h : Paired G l₁ l₂) {i : Nat} {x : V} (e : (l₁.map f)[i]? = some x) : ∃ a b, x = f a ∧ l₂[i]? = some b ∧ G a b := by
  rw [List.getElem?_map] at e
  obtain ⟨a, ha, rfl⟩ := Option.map_eq_some_iff.mp e
  obtain ⟨b, hb, hg⟩ := paired_get h ha
  exact ⟨a, b, rfl, hb, hg⟩
section
variable {w : World} {K : PySem.W.Frag} {mg : Mg} {base : Heap} {k : Nat}
theorem LadderAt.fi (T : Tx w K mg base) {H : Hp} {n : Nat} {a : Addr} {M : Ldr} (h : LadderAt K H n a M) : ∃ t, Fld K H a "inputs" (.ref t) ∧ H t = some (.tup (M.ins.map V.str)) := let ⟨dx, ti, to, tr, rs, h1, h2, h3, h4, h5, h6⟩ := h; ⟨ti, ⟨_, _, _, h1, T.c_Ladder, T.n_Ladder_inputs, rfl⟩, h2⟩
theorem LadderAt.fo (T : Tx w K mg base) {H : Hp} {n : Nat} {a : Addr} {M : Ldr} (h : LadderAt K H n a M) : ∃ t, Fld K H a "outputs" (.ref t) ∧ H t = some (.tup (M.outs.map V.str)) := let ⟨dx, ti, to, tr, rs, h1, h2, h3, h4, h5, h6⟩ := h; ⟨to, ⟨_, _, _, h1, T.c_Ladder, T.n_Ladder_outputs, rfl⟩, h3⟩
theorem LadderAt.fr (T : Tx w K mg base) {H : Hp} {n : Nat} {a : Addr} {M : Ldr} (h : LadderAt K H n a M) : ∃ t rs, Fld K H a "rungs" (.ref t) ∧ H t = some (.tup (rs.map V.ref)) ∧ Paired (RungAt K H n) rs M.rungs := let ⟨dx, ti, to, tr, rs, h1, h2, h3, h4, h5, h6⟩ := h; ⟨tr, rs, ⟨_, _, _, h1, T.c_Ladder, T.n_Ladder_rungs, rfl⟩, h4, h5⟩
theorem LadderAt.len {H : Hp} {n : Nat} {a : Addr} {M : Ldr} (h : LadderAt K H n a M) : M.rungs.length ≤ 1000 ∧ M.ins.length ≤ 1000 ∧ M.outs.length ≤ 1000 := let ⟨dx, ti, to, tr, rs, h1, h2, h3, h4, h5, h6⟩ := h; h6
/-! ### written_names() -/
structure LArg where
  n : Nat
  a : Addr
  M : Ldr
def spWritten (K : PySem.W.Frag) : Sp := spP (ι := LArg) (fun i => [.ref i.a]) (fun i H => LadderAt K H i.n i.a i.M) (fun i H v H2 => NewT H (i.M.names.map V.str) v H2)
theorem keysV_tab (ns : List Str) (f : Str → V) : keysV (tab ns f) = ns.map V.str := by
  unfold keysV tab
  rw [List.map_map]
  rfl
theorem m_written (T : Tx w K mg base) : Met PG w K mg base 1 (He.ga K "Ladder") "written_names" (spWritten K) := by
  refine met_of (fnd ["self", "found", "rung"] ["self"] T.d_Ladder_written_names (by decide +kernel) (spP_len fun _ => rfl) (fun _ _ _ _ _ _ us h => by match us, h with | [_], _ => rfl) ?_) T.c_Ladder T.m_Ladder_written_names
  rintro cdv A outer s H vs Q E hr ⟨⟨n, a, M⟩, rfl, hL, hQ⟩
  have hL : LadderAt K H n a M := hL
  have nd : (["self", "found", "rung"] : List Str).Nodup := by decide +kernel
  refine ⟨_, 
    (pss_cons (ps_set (i := 1) nd rfl (Or.inl rfl) pe_dnewK) 
    (pss_cons (ps_for (passes_of rfl) rfl (pi_seq (pe_fldT T (pv 0))) (pg_name (i := 2) nd rfl (Or.inl rfl)) 
    (pss_cons (ps_dput (hu_of hr) (pv 1) (pe_fldT T (pe_fldT T (pv 2))) pe_bl rfl) pss_nil)) 
    (pss_cons (ps_ret (pe_tupKeys rfl (by rfl) T.f_tuple (pv 1))) pss_nil))), SS.here ?_⟩
  obtain ⟨tr, rs, ft, ht, hrs⟩ := hL.fr T
  have hl := hL.len.1
  refine ss_asgR er_dnew fun v H1 e1 ⟨d, ev, hd, hd1⟩ => ?_
  subst ev
  refine ss_forSq (k := false) (ev_fld (ev_var rfl) (ft.ex e1)) (.of (e1 _ _ ht)) (fun i σ' H' => ∃ o, σ' = [some (.ref a), some (.ref d), o] ∧ Ex H H' ∧ H' d = some (.dK (tab (namesOf (M.rungs.take i)) fun _ => .bl true))) (fun H2 e2 => ⟨none, rfl, e1.trans e2, e2 _ _ hd1⟩) (fun i σ' H' _ ⟨_, _, e, _⟩ => .of (e _ _ ht)) ?_ ?_
  · rintro i x σ' H' hx ⟨o, rfl, e, hd'⟩
    obtain ⟨ra, r, rfl, hri, hra⟩ := paired_at hrs hx
    have hra' : RungAt K H' n ra r := hra.im (.of e)
    obtain ⟨q, fq, hq⟩ := hra'.end_ T
    refine ss_dput (kk := .inr r.2.name) ev_c (ev_var rfl) (ev_fld (ev_fld (ev_var rfl) fq) (hq.name T)) hd' (by rw [tab_len]; have := namesOf_len (M.rungs.take i); rw [List.length_take] at this; omega) (ss_end fun H2 e2 => ⟨_, rfl, (e.mut hd).trans e2, ?_⟩)
    rw [e2 _ _ upd_same, put_add, take_snoc hri, namesOf_snoc]
    congr 2
    exact tab_congr fun n _ => by split <;> rfl
  · rintro σ' H' ⟨o, rfl, e, hd'⟩
    rw [List.length_map, paired_len hrs, List.take_length] at hd'
    refine SS.here (ss_retR (R := NewT H' (M.names.map V.str)) (fun H1 e1 Q q => ⟨_, rfl, d, _, rfl, e1 _ _ hd', fun p hp => q _ _ (.new hp) ⟨p, rfl, fresh_back e1 hp, by rw [upd_same, keysV_tab]⟩⟩) fun v H2 e2 ⟨p, ev, hp, h2⟩ => hQ v H2 (e.trans e2) ⟨p, ev, fresh_back e hp, h2⟩)
end
end RgK
set_option Elab.async false
set_option linter.all false
set_option maxRecDepth 100000
set_option maxHeartbeats 4000000

/-! What a ladder must keep; it is made. -/
namespace RgK
open PySem PySem.Spec PyProof.Rows L2 Evl
local macro_rules | `(tactic| walk_at "ev") => `(tactic| repeat' (first
  | with_reducible exact ev_c
  | with_reducible exact ea_nil
  | ((with_reducible apply ev_var); first | rfl | assumption)
  | with_reducible apply ea_cons
  | with_reducible apply ev_fld
  | ((with_reducible show Fld _ _ _ _ _); assumption)
  | with_reducible exact rv_I0
  | with_reducible exact ru_neg
  | with_reducible exact rv_eq rfl
  | with_reducible exact rv_ne rfl
  | ((with_reducible apply rv_I); first | decide | omega | assumption)
  | ((with_reducible show _ = _ → EvT _ _ _ _); intro _)
  | ((with_reducible show _ = _ → Ev _ _ _ _); intro _)
  | with_reducible apply et_and
  | with_reducible apply et_or
  | with_reducible apply ev_andV
  | with_reducible apply ev_orV
  | with_reducible apply et_test
  | with_reducible apply et_B
  | with_reducible apply et_not
  | with_reducible apply ev_notV
  | with_reducible apply ev_un
  | with_reducible apply ev_op))

section
variable {K : PySem.W.Frag} {σ : L2.St} {H : Hp} {D : Ends} {tz : TS} {ta tb td ty tv : TE}
theorem er_catT {a b : Addr} {xs ys : List V} (ha : Ev ta σ H (.ref a)) (hb : Ev tb σ H (.ref b)) (h1 : H a = some (.tup xs)) (h2 : H b = some (.tup ys)) (hz : xs.length + ys.length ≤ 100000) : EvR (tOp (rCatA K) ta tb) σ H (fun v H2 => ∃ p, v = .ref p ∧ H2 p = some (.tup (xs ++ ys))) :=
  fun H1 e1 Q q => ha H1 e1 _ fun H2 e2 => hb H2 (e1.trans e2) _ fun H3 e3 => by
    have e := e1.trans (e2.trans e3)
    refine ⟨a, b, xs, ys, rfl, rfl, .of (e _ _ h1), .of (e _ _ h2), sz_of hz, fun z => q _ _ (e2.trans e3) ⟨b, rfl, by rw [e _ _ h2, z]; rfl⟩, fun _ z => q _ _ (e2.trans e3) ⟨a, rfl, by rw [e _ _ h1, z, List.append_nil]⟩, fun _ _ p hp => q _ _ ((e2.trans e3).trans (.new hp)) ⟨p, rfl, upd_same⟩⟩
theorem inV_str (x : Str) : ∀ xs : List Str, inV (.str x) (xs.map V.str) = decide (x ∈ xs)
  | [] => rfl
  | y :: xs => by
    show (eqV (.str y) (.str x) || inV (.str x) (xs.map V.str)) = _
    rw [inV_str x xs]
    show ((y == x) || decide (x ∈ xs)) = _
    by_cases h : y = x
    · subst h; simp
    · have h1 : (y == x) = false := by simpa using h
      rw [h1, Bool.false_or]
      have : x ≠ y := fun e => h e.symm
      simp [this]
theorem flat_str (xs : List Str) : (xs.map V.str).all flatV = true := by
  rw [List.all_map]
  exact List.all_eq_true.mpr fun x _ => rfl
/-- bearers.setdefault(name, []).append(b): the name is there -/
theorem ss_sd1 {d l : Addr} {kvs : List (Key × V)} {x : Str} {xs : List V} {v : V} (hd : Ev td σ H (.ref d)) (hy : Ev ty σ H (.str x)) (hv : ∀ H', Ip H H' → Ev tv σ H' v) (h : H d = some (.dK kvs)) (hk : valV kvs (.inr x) = some (.ref l)) (hl : H l = some (.lst xs)) (h1 : kvs.length < 100000) (h2 : xs.length < 100000)
    (k : ∀ H1, Ex H H1 → SS tz D σ (upd H1 l (.lst (xs ++ [v])))) : SS (tSeq (tDrop (tBM K "list" rAppend (tDSetd td ty (tLst tNil)) (tCons tv tNil))) tz) D σ H :=
  fun H1 e1 => hd H1 e1 _ fun H2 e2 => ⟨d, rfl, .inl ⟨kvs, .of ((e1.trans e2) _ _ h)⟩, hy H2 (e1.trans e2) _ fun H3 e3 => ⟨by decide, fun p hp => by
    have e := e1.trans (e2.trans (e3.trans (Ex.new (o := .lst []) hp)))
    refine ⟨kvs, .inr x, e _ _ h, rfl, sz_lt h1, fun u hu => ?_, fun z => by rw [hk] at z; cases z⟩
    rw [hk] at hu
    cases hu
    exact ⟨.inl ⟨rfl, xs, .of (e _ _ hl)⟩, hv _ (.of e) _ (.refl _) _ fun H4 e4 => ⟨l, xs, v, rfl, rfl, e4 _ _ (e _ _ hl), sz_lt h2, (k H4 (e.trans e4)).here⟩⟩⟩⟩
/-- .. is new -/
theorem ss_sd2 {d : Addr} {kvs : List (Key × V)} {x : Str} {v : V} (hd : Ev td σ H (.ref d)) (hy : Ev ty σ H (.str x)) (hv : ∀ H', Ip H H' → Ev tv σ H' v) (h : H d = some (.dK kvs)) (hk : valV kvs (.inr x) = none) (h1 : kvs.length < 100000)
    (k : ∀ H1 l H2, Ex H H1 → H1 l = none → Ex (upd (upd H1 l (.lst [])) d (.dK (putK kvs (.inr x) (.ref l)))) H2 → SS tz D σ (upd H2 l (.lst [v]))) : SS (tSeq (tDrop (tBM K "list" rAppend (tDSetd td ty (tLst tNil)) (tCons tv tNil))) tz) D σ H :=
  fun H1 e1 => hd H1 e1 _ fun H2 e2 => ⟨d, rfl, .inl ⟨kvs, .of ((e1.trans e2) _ _ h)⟩, hy H2 (e1.trans e2) _ fun H3 e3 => ⟨by decide, fun p hp => by
    have e0 := e1.trans (e2.trans e3)
    have e := e0.trans (Ex.new (o := .lst []) hp)
    have hpd : p ≠ d := fun z => by rw [z, e0 _ _ h] at hp; cases hp
    have hl : (upd (upd H3 p (.lst [])) d (.dK (putK kvs (.inr x) (.ref p)))) p = some (.lst []) := by rw [upd_ne hpd, upd_same]
    refine ⟨kvs, .inr x, e _ _ h, rfl, sz_lt h1, (fun u hu => by rw [hk] at hu; cases hu), fun _ => ?_⟩
    refine ⟨.inl ⟨rfl, [], .of hl⟩, hv _ ((Ip.of e).put (e _ _ h) rfl) _ (.refl _) _ fun H4 e4 => ⟨p, [], v, rfl, rfl, e4 _ _ hl, by decide, (k H3 p H4 e0 hp e4).here⟩⟩⟩⟩
end
theorem val_ents {ents : List (Str × Addr)} : ∀ {x : Str} {l : Addr}, (ents.map (·.1)).Nodup → (x, l) ∈ ents → valV (ents.map fun e => ((Sum.inr e.1 : Key), V.ref e.2)) (.inr x) = some (.ref l) := by
  induction ents with
  | nil => exact fun _ h => by cases h
  | cons e ents ih =>
    intro x l nd h
    obtain ⟨y, m⟩ := e
    rw [List.map_cons] at nd ⊢
    obtain ⟨n1, n2⟩ := List.nodup_cons.mp nd
    rcases List.mem_cons.mp h with e | h'
    · cases e
      exact valV_pos rfl
    · have hne : ¬ (Sum.inr y : Key) = Sum.inr x := fun z => n1 (by
        rw [Sum.inr.inj z]
        exact List.mem_map.mpr ⟨_, h', rfl⟩)
      rw [valV_neg hne]
      exact ih n2 h'
theorem val_ents_none {ents : List (Str × Addr)} {x : Str} (h : x ∉ ents.map (·.1)) : valV (ents.map fun e => ((Sum.inr e.1 : Key), V.ref e.2)) (.inr x) = none := by
  induction ents with
  | nil => rfl
  | cons e ents ih =>
    rw [List.map_cons] at h ⊢
    rw [valV_neg (fun z => h (by rw [← Sum.inr.inj z]; exact List.mem_cons_self))]
    exact ih fun z => h (List.mem_cons_of_mem _ z)
/-! ### one end alone bears a count -/
def flags (rs : List RungV) (x : Str) : List Bool := (rs.filter fun r => !decide (r.2.kind = 2) && decide (r.2.name = x)).map fun r => decide (3 ≤ r.2.kind)
def OwnOk (rs : List RungV) : Prop := ∀ x, ¬ (1 < (flags rs x).length ∧ (flags rs x).any id = true)
theorem flags_snoc (rs : List RungV) (r : RungV) (x : Str) : flags (rs ++ [r]) x = flags rs x ++ (if r.2.kind ≠ 2 ∧ r.2.name = x then [decide (3 ≤ r.2.kind)] else []) := by
  unfold flags
  rw [List.filter_append, List.map_append]
  congr 1
  by_cases h1 : r.2.kind = 2
  · rw [if_neg (fun z => z.1 h1)]; simp [List.filter, h1]
  · by_cases h2 : r.2.name = x
    · rw [if_pos ⟨h1, h2⟩]; simp [List.filter, h1, h2]
    · rw [if_neg (fun z => h2 z.2)]; simp [List.filter, h1, h2]
theorem flags_len (rs : List RungV) (x : Str) : (flags rs x).length ≤ rs.length := by
  unfold flags
  rw [List.length_map]
  exact List.length_filter_le _ _
structure OwnSt (H0 H : Hp) (d : Addr) (ents : List (Str × Addr)) (rs : List RungV) : Prop where
  dict : H d = some (.dK (ents.map fun e => ((Sum.inr e.1 : Key), V.ref e.2)))
  d0 : H0 d = none
  nd1 : (ents.map (·.1)).Nodup
  nd2 : (ents.map (·.2)).Nodup
  lst : ∀ e ∈ ents, H e.2 = some (.lst ((flags rs e.1).map V.bl)) ∧ H0 e.2 = none
  all : ∀ x, flags rs x ≠ [] → x ∈ ents.map (·.1)
  len : ents.length ≤ rs.length
section
variable {w : World} {K : PySem.W.Frag} {mg : Mg} {base : Heap} {k : Nat}
structure BArg where
  k : Bool
  a : Addr
  xs : List V
  lo : Int
  hi : Int
def spBetween (K : PySem.W.Frag) : Sp := spP (ι := BArg) (fun i => [.ref i.a, .int i.lo, .int i.hi]) (fun i H => Sq K i.k H i.a i.xs ∧ i.lo ≤ (i.xs.length : Int) ∧ (i.xs.length : Int) ≤ i.hi) (fun i H v H2 => v = .non)
theorem c_need_between (T : Tx w K mg base) : Cal PG w K mg base 1 "need_between" (spBetween K) := by
  refine cal_of (fnd ["things", "least", "most"] ["things", "least", "most"] T.d_need_between (by decide +kernel) (spP_len fun _ => rfl) (fun _ _ _ _ _ _ us h => by match us, h with | [_, _, _], _ => rfl) ?_) T.g_need_between
  rintro cdv A outer s H vs Q E hr ⟨⟨k, a, xs, lo, hi⟩, rfl, ⟨hx, h1, h2⟩, hQ⟩
  have nd : (["things", "least", "most"] : List Str).Nodup := by decide +kernel
  refine ⟨_, 
    (pss_cons (ps_if (pt_not (pt_chain op_le op_le (pv 1) (pe_callB call_len_seq (by rfl) T.f_len (by decide +kernel) (pa_cons (pv 0) pa_nil)) (pv 2))) 
    (pss_cons (ps_raise rfl (takes_of rfl rfl rfl rfl) (pmk_own PySem.F.excBase_ValueError T.e_NoLadder.1 T.g_NoLadder T.e_NoLadder.2.1 (raises_own T.e_NoLadder.2.2.1 T.e_NoLadder.2.2.2) (by rfl))) pss_nil) pss_nil) pss_nil), SS.here ?_⟩
  have h1 : lo ≤ (xs.length : Int) := h1
  have h2 : (xs.length : Int) ≤ hi := h2
  refine ss_when (b := !(decide (lo ≤ (xs.length : Int)) && decide ((xs.length : Int) ≤ hi))) (et_not (et_test (ev_chain (ev_var rfl) (ev_lenS (k := k) (ev_var rfl) hx) rv_I0 fun _ => ⟨ev_var rfl, rv_I0⟩))) (fun z => ?_) fun _ => ss_end fun H1 e1 => hQ _ H1 e1 rfl
  rw [decide_eq_true h1, decide_eq_true h2] at z
  cases z
def spSingleN (K : PySem.W.Frag) : Sp := spP (ι := Addr × List Str) (fun i => [.ref i.1]) (fun i H => H i.1 = some (.tup (i.2.map V.str)) ∧ i.2.Nodup ∧ i.2.length ≤ 1000) (fun i H v H2 => v = .non)
theorem c_need_single (T : Tx w K mg base) : Cal PG w K mg base 1 "need_single" (spSingleN K) := by
  refine cal_of (fnd ["names"] ["names"] T.d_need_single (by decide +kernel) (spP_len fun _ => rfl) (fun _ _ _ _ _ _ us h => by match us, h with | [_], _ => rfl) ?_) T.g_need_single
  rintro cdv A outer s H vs Q E hr ⟨⟨a, ks⟩, rfl, ⟨ha, hn, hl⟩, hQ⟩
  have nd : (["names"] : List Str).Nodup := by decide +kernel
  refine ⟨_, 
    (pss_cons (ps_if (pt_cmpR op_ne (pe_callB cr_lenSK (by rfl) T.f_len (by decide +kernel) (pa_cons (pe_callTy (cr_setT rfl) (by rfl) T.f_set (by decide +kernel) (pa_cons (pv 0) pa_nil)) pa_nil)) (pe_callB call_len_seq (by rfl) T.f_len (by decide +kernel) (pa_cons (pv 0) pa_nil)) (nomark _)) 
    (pss_cons (ps_raise rfl (takes_of rfl rfl rfl rfl) (pmk_own PySem.F.excBase_ValueError T.e_NoLadder.1 T.g_NoLadder T.e_NoLadder.2.1 (raises_own T.e_NoLadder.2.2.1 T.e_NoLadder.2.2.2) (by rfl))) pss_nil) pss_nil) pss_nil), SS.here ?_⟩
  have ha : H a = some (.tup (ks.map V.str)) := ha
  have hl : ks.length ≤ 1000 := hl
  refine ss_when (b := false) (et_test (ev_is (ev_op (ev_cb1 (Ra := fun v H2 => ∃ p, v = .ref p ∧ H2 p = some (SetK PG w p (memI ks ks.length) ks.length)) (er_cb1 (ev_rel (ev_var rfl)) fun x H1 e1 ex Q q => ⟨a, ks, by rw [ex], .of (e1 _ _ ha), hn, hl, fun p hp => q _ _ (.new hp) ⟨p, rfl, upd_same⟩⟩) fun x H1 e1 ⟨p, ex, hp⟩ Q q => ⟨p, _, _, by rw [ex], hp, q⟩) (ev_lenS (k := false) (ev_var rfl) (.of ha)) (rv_ne rfl)) (by simp))) (fun z => nomatch z) fun _ => ss_end fun H1 e1 => hQ _ H1 e1 rfl
structure OArg where
  n : Nat
  t : Addr
  rs : List Addr
  rungs : List RungV
def spOwn (K : PySem.W.Frag) : Sp := spP (ι := OArg) (fun i => [.ref i.t]) (fun i H => H i.t = some (.tup (i.rs.map V.ref)) ∧ Paired (RungAt K H i.n) i.rs i.rungs ∧ i.rungs.length ≤ 1000 ∧ OwnOk i.rungs) (fun i H v H2 => v = .non)
theorem c_need_own (T : Tx w K mg base) : Cal PG w K mg base 1 "need_own" (spOwn K) := by
  refine cal_of (fnd ["rungs", "bearers", "rung", "name", "counts"] ["rungs"] T.d_need_own (by decide +kernel) (spP_len fun _ => rfl) (fun _ _ _ _ _ _ us h => by match us, h with | [_], _ => rfl) ?_) T.g_need_own
  rintro cdv A outer s H vs Q E hr ⟨⟨n, t, rs, rungs⟩, rfl, ⟨ht, hrs, hl, hown⟩, hQ⟩
  have nd : (["rungs", "bearers", "rung", "name", "counts"] : List Str).Nodup := by decide +kernel
  refine ⟨_, 
    (pss_cons (ps_set (i := 1) nd rfl (Or.inl rfl) pe_dnewK) 
    (pss_cons (ps_for (passes_of rfl) rfl (pi_seq (pv 0)) (pg_name (i := 2) nd rfl (Or.inl rfl)) 
    (pss_cons (ps_if (pt_not (pt_val (pe_callB call_isi (by rfl) T.f_isinstance (by decide +kernel) (pa_cons (pe_fldT T (pv 2)) (pa_cons (pe_globR (by rfl) T.g_Unlatch) pa_nil))))) 
    (pss_cons (ps_expr (pe_bm PySem.F.plainAttrs_list PySem.F.slot_list_append PySem.F.type_list_append mt_append (pe_dsetd (pv 1) (pe_fldT T (pe_fldT T (pv 2))) (pe_lst pa_nil) ⟨rfl, rfl, rfl, rfl⟩) (pa_cons (pe_callB call_isi (by rfl) T.f_isinstance (by decide +kernel) (pa_cons (pe_fldT T (pv 2)) (pa_cons (pe_globR (by rfl) T.g_Counting) pa_nil))) pa_nil))) pss_nil) pss_nil) pss_nil)) 
    (pss_cons (ps_lock (ps_for (passes_of rfl) rfl (pi_items (pv 1)) (pg_tup rfl (pgs_cons (pg_name (i := 3) nd rfl (Or.inl rfl)) (pgs_cons (pg_name (i := 4) nd rfl (Or.inl rfl)) pgs_nil))) 
    (pss_cons (ps_if (PW.pt (pw_and (pt_cmpR op_gt (pe_callB call_len_seq (by rfl) T.f_len (by decide +kernel) (pa_cons (pv 4) pa_nil)) pe_int (nomark _)) (pw_and1 (pt_val (pe_callB (cr_any rfl) (by rfl) T.f_any (by decide +kernel) (pa_cons (pv 4) pa_nil)))))) 
    (pss_cons (ps_raise rfl (takes_of rfl rfl rfl rfl) (pmk_own PySem.F.excBase_ValueError T.e_NoLadder.1 T.g_NoLadder T.e_NoLadder.2.1 (raises_own T.e_NoLadder.2.2.1 T.e_NoLadder.2.2.2) (by rfl))) pss_nil) pss_nil) pss_nil))) pss_nil))), SS.here ?_⟩
  have ht : H t = some (.tup (rs.map V.ref)) := ht
  have hrs : Paired (RungAt K H n) rs rungs := hrs
  have hl : rungs.length ≤ 1000 := hl
  have hown : OwnOk rungs := hown
  refine ss_asgR er_dnew fun v H1 e1 ⟨d, ev, hd, hd1⟩ => ?_
  subst ev
  refine ss_forSq (k := false) (ev_var rfl) (.of (e1 _ _ ht)) (fun i σ' H' => ∃ o3 o4 o5 ents, σ' = [some (.ref t), some (.ref d), o3, o4, o5] ∧ Ex H H' ∧ OwnSt H H' d ents (rungs.take i)) (fun H2 e2 => ⟨none, none, none, [], rfl, e1.trans e2, ⟨e2 _ _ hd1, hd, List.nodup_nil, List.nodup_nil, (fun _ h => by cases h), (fun x h => absurd rfl h), Nat.zero_le _⟩⟩) (fun i σ' H' _ ⟨_, _, _, _, _, e, _⟩ => .of (e _ _ ht)) ?_ ?_
  · rintro i x σ' H' hx ⟨o3, o4, o5, ents, rfl, e, O⟩
    obtain ⟨ra, r, rfl, hri, hra⟩ := paired_at hrs hx
    have hra' : RungAt K H' n ra r := hra.im (.of e)
    obtain ⟨q, fq, hq⟩ := hra'.end_ T
    refine ss_when (b := !(isK r.2.kind 2)) (et_not (et_B (ev_cb (ea_cons (ev_fld (ev_var rfl) fq) (ea_cons ev_c ea_nil)) (rc_end T hq 2 (by decide))))) (fun hb => ?_) fun hb => ?_
    · have h2 : r.2.kind ≠ 2 := fun z => by rw [z] at hb; cases hb
      have e5 : isK r.2.kind 5 = decide (3 ≤ r.2.kind) := by
        unfold isK
        have := hq.1
        rw [decide_eq_false (by omega : ¬ r.2.kind = 5)]
        simp
      have hv : ∀ H'', Ip H' H'' → Ev (tCB (rIsi K) (tCons (tFld K (tVar 2) "end") (tCons (tC (.ref (He.ga K "Counting"))) tNil))) [some (.ref t), some (.ref d), some (.ref ra), o4, o5] H'' (.bl (decide (3 ≤ r.2.kind))) := fun H'' ip => ev_is (ev_cb (ea_cons (ev_fld (ev_var rfl) (fq.it ip)) (ea_cons ev_c ea_nil)) (rc_end T (hq.im ip) 5 (by decide))) (by rw [e5])
      have hlen : ents.length ≤ 1000 := by have := O.len; rw [List.length_take] at this; omega
      by_cases hm : r.2.name ∈ ents.map (·.1)
      · obtain ⟨⟨_, l⟩, he, hn⟩ := List.mem_map.mp hm
        have hn : _ = r.2.name := hn
        subst hn
        obtain ⟨hl1, hl0⟩ := O.lst _ he
        have hl1 : H' l = some (.lst ((flags (rungs.take i) r.2.name).map V.bl)) := hl1
        have hl0 : H l = none := hl0
        refine ss_sd1 (l := l) (ev_var rfl) (ev_fld (ev_fld (ev_var rfl) fq) (hq.name T)) hv O.dict (val_ents O.nd1 he) hl1 (by rw [List.length_map]; omega) (by rw [List.length_map]; have := flags_len (rungs.take i) r.2.name; rw [List.length_take] at this; omega) fun H1 e1 => ss_end fun H2 e2 => ⟨_, _, _, ents, rfl, ((e.trans e1).mut hl0).trans e2, ?_⟩
        have hdl : d ≠ l := fun z => by rw [← z, O.dict] at hl1; cases hl1
        refine ⟨e2 _ _ (by rw [upd_ne hdl]; exact e1 _ _ O.dict), hd, O.nd1, O.nd2, fun en hen => ?_, fun x hx => ?_, by rw [take_snoc hri, List.length_append]; have := O.len; omega⟩
        · obtain ⟨g1, g2⟩ := O.lst en hen
          refine ⟨?_, g2⟩
          rw [take_snoc hri, flags_snoc]
          by_cases hz : en.2 = l
          · have hen1 : en.1 = r.2.name := by
              obtain ⟨i1, h1⟩ := List.mem_iff_getElem?.mp hen
              obtain ⟨i2, h2⟩ := List.mem_iff_getElem?.mp he
              have k1 : (ents.map (·.2))[i1]? = some l := by rw [List.getElem?_map, h1]; exact congrArg some hz
              have k2 : (ents.map (·.2))[i2]? = some l := by rw [List.getElem?_map, h2]; rfl
              have : i1 = i2 := by
                obtain ⟨b1, c1⟩ := List.getElem?_eq_some_iff.mp k1
                obtain ⟨b2, c2⟩ := List.getElem?_eq_some_iff.mp k2
                exact (List.getElem_inj O.nd2).mp (c1.trans c2.symm)
              rw [this, h2] at h1
              cases h1
              rfl
            rw [hz, hen1, if_pos ⟨h2, rfl⟩, e2 _ _ upd_same, List.map_append]
            rfl
          · have hne : r.2.name ≠ en.1 := fun z => hz (by
              have v1 := val_ents O.nd1 hen
              have v2 := val_ents O.nd1 he
              rw [← z] at v1
              rw [v1] at v2
              cases v2
              rfl)
            rw [if_neg (fun z => hne z.2), List.append_nil]
            exact e2 _ _ (by rw [upd_ne hz]; exact e1 _ _ g1)
        · rw [take_snoc hri, flags_snoc] at hx
          by_cases hz : r.2.kind ≠ 2 ∧ r.2.name = x
          · rw [← hz.2]; exact hm
          · rw [if_neg hz, List.append_nil] at hx
            exact O.all x hx
      · have hf : flags (rungs.take i) r.2.name = [] := by
          cases h : flags (rungs.take i) r.2.name with
          | nil => rfl
          | cons a b => exact absurd (O.all _ (by rw [h]; exact fun z => nomatch z)) hm
        refine ss_sd2 (ev_var rfl) (ev_fld (ev_fld (ev_var rfl) fq) (hq.name T)) hv O.dict (val_ents_none hm) (by rw [List.length_map]; omega) fun H1 l H2 e1 hl e2 => ss_end fun H3 e3 => ⟨_, _, _, ents ++ [(r.2.name, l)], rfl, ?_, ?_⟩
        · have hdl : d ≠ l := fun z => by rw [← z, e1 _ _ O.dict] at hl; cases hl
          refine Ex.trans (Ex.trans (((e.trans e1).mut (fresh_back (e.trans e1) hl)).mut hd) e2 |>.mut (fresh_back (e.trans e1) hl)) e3
        · have hdl : d ≠ l := fun z => by rw [← z, e1 _ _ O.dict] at hl; cases hl
          have hlH : H' l = none := fresh_back e1 hl
          have hle : l ∉ ents.map (·.2) := fun z => by
            obtain ⟨en, hen, e⟩ := List.mem_map.mp z
            have := (O.lst en hen).1
            rw [e, hlH] at this
            cases this
          refine ⟨?_, hd, ?_, ?_, fun en hen => ?_, fun x hx => ?_, by rw [take_snoc hri, List.length_append, List.length_append]; exact Nat.succ_le_succ O.len⟩
          · refine e3 _ _ ?_
            rw [upd_ne hdl, e2 _ _ upd_same, putK_new _ (val_ents_none hm), List.map_append]
            rfl
          · rw [List.map_append]
            exact List.nodup_append.mpr ⟨O.nd1, by simp, fun a ha b hb z => hm (by have hb' : b = r.2.name := List.mem_singleton.mp hb; rw [← hb', ← z]; exact ha)⟩
          · rw [List.map_append]
            exact List.nodup_append.mpr ⟨O.nd2, by simp, fun a ha b hb z => hle (by have hb' : b = l := List.mem_singleton.mp hb; rw [← hb', ← z]; exact ha)⟩
          · rw [take_snoc hri, flags_snoc]
            rcases List.mem_append.mp hen with hen | hen
            · obtain ⟨g1, g2⟩ := O.lst en hen
              have hz : en.2 ≠ l := fun z => hle (by rw [← z]; exact List.mem_map.mpr ⟨en, hen, rfl⟩)
              have hz2 : en.2 ≠ d := fun z => by rw [z, O.dict] at g1; cases g1
              have hne : r.2.name ≠ en.1 := fun z => hm (by rw [z]; exact List.mem_map.mpr ⟨en, hen, rfl⟩)
              rw [if_neg (fun z => hne z.2), List.append_nil]
              exact ⟨e3 _ _ (by rw [upd_ne hz]; exact e2 _ _ (by rw [upd_ne hz2, upd_ne hz]; exact e1 _ _ g1)), g2⟩
            · obtain rfl := List.mem_singleton.mp hen
              rw [hf, if_pos ⟨h2, rfl⟩]
              exact ⟨e3 _ _ upd_same, fresh_back (e.trans e1) hl⟩
          · rw [take_snoc hri, flags_snoc] at hx
            rw [List.map_append]
            by_cases hz : r.2.kind ≠ 2 ∧ r.2.name = x
            · exact List.mem_append_right _ (by rw [← hz.2]; exact List.mem_singleton.mpr rfl)
            · rw [if_neg hz, List.append_nil] at hx
              exact List.mem_append_left _ (O.all x hx)
    · have h2 : r.2.kind = 2 := by
        have := hq.1
        have hb : isK r.2.kind 2 = true := by simpa using hb
        unfold isK at hb
        simpa using hb
      refine ss_end fun H2 e2 => ⟨_, _, _, ents, rfl, e.trans e2, e2 _ _ O.dict, hd, O.nd1, O.nd2, fun en hen => ?_, fun x hx => ?_, by rw [take_snoc hri, List.length_append]; have := O.len; omega⟩
      · obtain ⟨g1, g2⟩ := O.lst en hen
        rw [take_snoc hri, flags_snoc, if_neg (fun z => z.1 h2), List.append_nil]
        exact ⟨e2 _ _ g1, g2⟩
      · rw [take_snoc hri, flags_snoc, if_neg (fun z => z.1 h2), List.append_nil] at hx
        exact O.all x hx
  · rintro σ' H' ⟨o3, o4, o5, ents, rfl, e, O⟩
    rw [List.length_map, paired_len hrs, List.take_length] at O
    refine SS.here (ss_lock O.dict fun od => ?_)
    have ex0 : ∀ en ∈ ents, en.2 ≠ d := fun en hen z => by
      have := (O.lst en hen).1
      rw [z, O.dict] at this
      cases this
    refine ss_forItems (ev_var rfl) upd_same (fun i σ' H'' => ∃ o3 o4 o5, σ' = [some (.ref t), some (.ref d), o3, o4, o5] ∧ Ex (upd H' d (.frz od (.dK (ents.map fun e => ((Sum.inr e.1 : Key), V.ref e.2))))) H'') (fun H2 e2 => ⟨_, _, _, rfl, e2⟩) (fun i σ' H'' ⟨_, _, _, _, e2⟩ => e2 _ _ upd_same) (fun i σ' H1 H2 ⟨a, b, c, h, e2⟩ e3 => ⟨a, b, c, h, e2.trans e3⟩) ?_ ?_
    · rintro i kk x σ' H'' hx ⟨p3, p4, p5, rfl, e2⟩
      rw [List.getElem?_map] at hx
      obtain ⟨en, hen, hx⟩ := Option.map_eq_some_iff.mp hx
      cases hx
      have hm := List.mem_of_getElem? hen
      have hl2 : H'' en.2 = some (.lst ((flags rungs en.1).map V.bl)) := e2 _ _ (by rw [upd_ne (ex0 en hm)]; exact (O.lst en hm).1)
      refine ss_when (b := decide ((1 : Int) < ((flags rungs en.1).length : Int)) && (flags rungs en.1).any id) (et_and (et_test (ev_is (ev_op (ev_lenS (k := true) (ev_var rfl) (.of hl2)) ev_c rv_I0) (by rw [List.length_map]))) fun _ => et_B (ev_cb1 (ev_rel (ev_var rfl)) fun x H1 e1 ex Q q => ⟨en.2, flags rungs en.1, by rw [ex], .of (e1 _ _ hl2), q⟩)) (fun z => ?_) fun _ => ss_end fun H3 e3 => ⟨_, _, _, rfl, e2.trans e3⟩
      have hz := Bool.and_eq_true_iff.mp z
      exact absurd ⟨by have := of_decide_eq_true hz.1; omega, hz.2⟩ (hown en.1)
    · rintro σ' H'' ⟨p3, p4, p5, rfl, e2⟩
      refine ⟨e2 _ _ upd_same, hQ _ _ ?_ rfl⟩
      refine (Ex.mut (fun b o h => ?_) hd : Ex H (upd H'' d _))
      have hb : b ≠ d := fun z => by rw [z, hd] at h; cases h
      exact e2 _ _ (by rw [upd_ne hb]; exact e _ _ h)
end
end RgK
set_option Elab.async false
set_option linter.all false
set_option maxRecDepth 100000
set_option maxHeartbeats 4000000

/-! A ladder is made. -/
namespace RgK
open PySem PySem.Spec PyProof.Rows L2 Evl
local macro_rules | `(tactic| walk_at "ev") => `(tactic| repeat' (first
  | with_reducible exact ev_c
  | with_reducible exact ea_nil
  | ((with_reducible apply ev_var); first | rfl | assumption)
  | with_reducible apply ea_cons
  | with_reducible apply ev_fld
  | ((with_reducible show Fld _ _ _ _ _); assumption)
  | with_reducible exact rv_I0
  | with_reducible exact ru_neg
  | with_reducible exact rv_eq rfl
  | with_reducible exact rv_ne rfl
  | ((with_reducible apply rv_I); first | decide | omega | assumption)
  | ((with_reducible show _ = _ → EvT _ _ _ _); intro _)
  | ((with_reducible show _ = _ → Ev _ _ _ _); intro _)
  | with_reducible apply et_and
  | with_reducible apply et_or
  | with_reducible apply ev_andV
  | with_reducible apply ev_orV
  | with_reducible apply et_test
  | with_reducible apply et_B
  | with_reducible apply et_not
  | with_reducible apply ev_notV
  | with_reducible apply ev_un
  | with_reducible apply ev_op))

structure LdrOk (M : Ldr) : Prop where
  iv : ∀ x ∈ M.ins, nameB x = true ∧ x.length ≤ 1000
  ov : ∀ x ∈ M.outs, nameB x = true ∧ x.length ≤ 1000
  ind : M.ins.Nodup
  ond : M.outs.Nodup
  il : M.ins.length ≤ 6
  ol1 : 1 ≤ M.outs.length
  ol : M.outs.length ≤ 6
  rl1 : 1 ≤ M.rungs.length
  rl : M.rungs.length ≤ 30
  inw : ∀ x ∈ M.ins, x ∉ M.names
  ouw : ∀ x ∈ M.outs, x ∈ M.names
  own : OwnOk M.rungs
  nl1 : 1 ≤ M.names.length
  nl : M.names.length ≤ 20
  ends : ∀ r ∈ M.rungs, EndOk r.2
section
variable {K : PySem.W.Frag} {σ : L2.St} {H : Hp} {te tl : TE} {t : TT} {D : Ends} {tz : TS}
/-- nothing is kept -/
theorem et_noneKept {b a : Addr} {ks : List Str} {j : Nat} {vs : List Nat} {neg : Bool} (h : Ev tl σ H (.ref a)) (ha : H a = some (.tup (ks.map V.str))) (hn : ks.length ≤ 50000) (hw : ∀ x, wipe ((wipe σ vs).set j (some x)) vs = wipe σ vs)
    (hs : ∀ x ∈ ks, EvT t ((wipe σ vs).set j (some (.str x))) H false) : EvT (tTest (tOp (rEqNil K true) (tLc (iSeq K tl) (gName j) t (tHide te) vs) (tLst tNil))) σ H false := by
  have key : EvR (tLc (iSeq K tl) (gName j) t (tHide te) vs) σ H (NewL H []) := by
    refine er_lcSq (k := false) h (.of ha) (by rw [List.length_map]; exact hn) hw (fun _ acc _ => acc = []) (fun _ _ _ _ e _ => e) rfl (fun i acc F x hi eF p => ⟨false, ?_, fun _ => p, (fun z => nomatch z)⟩) fun p acc H' h1 _ h3 e => ⟨p, rfl, h1, by rw [h3, e]⟩
    rw [List.getElem?_map] at hi
    obtain ⟨y, hy, rfl⟩ := Option.map_eq_some_iff.mp hi
    exact EvT.mono eF (hs y (List.mem_of_getElem? hy))
  intro H1 e1 Q q
  refine key H1 e1 (fun x H2 => tLst tNil σ H2 fun y H3 => rEqNil K true x y H3 fun z H4 => ∃ k, z = .bl k ∧ Q k H4) fun v H2 e2 hv => ?_
  · obtain ⟨p, ev, _, hp⟩ := hv
    subst ev
    exact ⟨by decide, fun r hr => ⟨p, r, [], rfl, rfl, .of ((Ex.new hr) _ _ hp), .of upd_same, _, rfl, q _ (e2.trans (.new hr))⟩⟩
/-- tuple(l) of a list into a field -/
theorem ss_fldT {a C dx l : Addr} {fs : List (Str × V)} {f : Str} {xs : List V} {ta tv : TE} (hv : Ev tv σ H (.ref l)) (hl : H l = some (.lst xs)) (ha : Ev ta σ H (.ref a)) (hi : H a = some (.ins C dx fs)) (hc : Cls K C) (hn : NoAttr K C f) (hz : fs.length < 1000)
    (k : ∀ H1 t, Ex H H1 → H t = none → H1 t = some (.tup xs) → SS tz D σ (upd H1 a (.ins C dx (putF f (.ref t) fs)))) :
    SS (tSeq (sFld K ta (tCB (fun xs H Q => ∃ p ys, xs = [.ref p] ∧ ((SqL K H p ys ∧ ∀ l, H l = none → Q (.ref l) (upd H l (.tup ys))) ∨ (SqT K H p ys ∧ Q (.ref p) H))) (tCons tv tNil)) f) tz) D σ H :=
  ss_fldR (er_cb1 (R := NewT H xs) (ev_rel hv) fun x H1 e1 ex Q q => ⟨l, xs, by rw [ex], .inl ⟨.of (e1 _ _ hl), fun t ht => q _ _ (.new ht) ⟨t, rfl, fresh_back e1 ht, upd_same⟩⟩⟩) ha hi hc hn hz
    (fun v H1 H2 ⟨t, a1, a2, a3⟩ e => ⟨t, a1, a2, e _ _ a3⟩) fun v H1 e1 ⟨t, ev, tn, ht⟩ => by
      subst ev
      exact k H1 t e1 tn ht
end
section
variable {w : World} {K : PySem.W.Frag} {mg : Mg} {base : Heap} {k : Nat}
structure LMk where
  n : Nat
  li : Addr
  lo : Addr
  lr : Addr
  rs : List Addr
  M : Ldr
def mkLadder (K : PySem.W.Frag) : Sp := spM (ι := LMk) (He.ga K "Ladder") (fun i => [.ref i.li, .ref i.lo, .ref i.lr])
  (fun i H => H i.li = some (.lst (i.M.ins.map V.str)) ∧ H i.lo = some (.lst (i.M.outs.map V.str)) ∧ H i.lr = some (.lst (i.rs.map V.ref)) ∧ Paired (RungAt K H i.n) i.rs i.M.rungs ∧ LdrOk i.M)
  (fun i a H2 => LadderAt K H2 i.n a i.M)
theorem k_Ladder (T : Tx w K mg base) : Mak PG w K mg base 4 (He.ga K "Ladder") (mkLadder K) := by
  refine mak_of (fnd ["self", "inputs", "outputs", "rungs", "name", "names"] ["self", "inputs", "outputs", "rungs"] T.d_Ladder_init (by decide +kernel) (spM_len fun _ => rfl) (fun _ _ _ _ _ _ us h => by match us, h with | [_, _, _, _], _ => rfl) ?_) T.k_Ladder
  rintro cdv A outer s H vs Q E hr ⟨⟨n, li, lo, lr, rs, M⟩, H0, a, dx, rfl, rfl, h1, h2, h3, ⟨hi, ho, hrr, hrs, ok⟩, hQ⟩
  have hi : H0 li = some (.lst (M.ins.map V.str)) := hi
  have ho : H0 lo = some (.lst (M.outs.map V.str)) := ho
  have hrr : H0 lr = some (.lst (rs.map V.ref)) := hrr
  have hrs : Paired (RungAt K H0 n) rs M.rungs := hrs
  have ok : LdrOk M := ok
  have nd : (["self", "inputs", "outputs", "rungs", "name", "names"] : List Str).Nodup := by decide +kernel
  refine ⟨_, 
    (pss_cons (ps_fld (pv 0) (pe_callTy call_tuple_of (by rfl) T.f_tuple (by decide +kernel) (pa_cons (pv 1) pa_nil)) rfl) 
    (pss_cons (ps_fld (pv 0) (pe_callTy call_tuple_of (by rfl) T.f_tuple (by decide +kernel) (pa_cons (pv 2) pa_nil)) rfl) 
    (pss_cons (ps_fld (pv 0) (pe_callTy call_tuple_of (by rfl) T.f_tuple (by decide +kernel) (pa_cons (pv 3) pa_nil)) rfl) 
    (pss_cons (ps_for (passes_of rfl) rfl (pi_seq (pe_op op_catA (pe_fldT T (pv 0)) (pe_fldT T (pv 0)))) (pg_name (i := 4) nd rfl (Or.inl rfl)) 
    (pss_cons (ps_if (pt_not (pt_val (pe_fn T hr (by rfl) T.g_is_name pass0 T.kp_is_name (pa_cons (pv 4) pa_nil)))) 
    (pss_cons (ps_raise rfl (takes_of rfl rfl rfl rfl) (pmk_own PySem.F.excBase_ValueError T.e_NoName.1 T.g_NoName T.e_NoName.2.1 (raises_own T.e_NoName.2.2.1 T.e_NoName.2.2.2) (by rfl))) pss_nil) pss_nil) pss_nil)) 
    (pss_cons (ps_expr (pe_fn T hr (by rfl) T.g_need_between pass0 T.kp_need_between (pa_cons (pe_fldT T (pv 0)) (pa_cons pe_int (pa_cons (pe_globI (by rfl) T.i_MOST_NAMES) pa_nil))))) 
    (pss_cons (ps_expr (pe_fn T hr (by rfl) T.g_need_single pass0 T.kp_need_single (pa_cons (pe_fldT T (pv 0)) pa_nil))) 
    (pss_cons (ps_expr (pe_fn T hr (by rfl) T.g_need_between pass0 T.kp_need_between (pa_cons (pe_fldT T (pv 0)) (pa_cons pe_int (pa_cons (pe_globI (by rfl) T.i_MOST_NAMES) pa_nil))))) 
    (pss_cons (ps_expr (pe_fn T hr (by rfl) T.g_need_single pass0 T.kp_need_single (pa_cons (pe_fldT T (pv 0)) pa_nil))) 
    (pss_cons (ps_expr (pe_fn T hr (by rfl) T.g_need_between pass0 T.kp_need_between (pa_cons (pe_fldT T (pv 0)) (pa_cons pe_int (pa_cons (pe_globI (by rfl) T.i_MOST_RUNGS) pa_nil))))) 
    (pss_cons (ps_set (i := 5) nd rfl (Or.inr rfl) (pe_me0 T hr pass0 (pv 0))) 
    (pss_cons (ps_if (pt_cmpR (op_neNil hr.units0) (pe_lc (own := [("name", 4)]) (g := gName 4) rfl nd (pi_seq (pe_fldT T (pv 0))) (blkOk_by (N := ["self", "inputs", "outputs", "rungs", "name", "names"]) (sc := defScope s_Ladder_init) (own := [("name", 4)]) (by decide +kernel)) (fun _ _ _ _ _ => (pg_name (i := 4) nd rfl (Or.inl rfl))) (fun _ _ _ _ _ => pts_one (pt_cmpR (op_inT T) (pv 4) (pv 5) (by with_unfolding_all rfl))) (fun _ _ _ _ _ => pe_hide (pv 4))) (pe_lst pa_nil) (nomark _)) 
    (pss_cons (ps_raise rfl (takes_of rfl rfl rfl rfl) (pmk_own PySem.F.excBase_ValueError T.e_NoLadder.1 T.g_NoLadder T.e_NoLadder.2.1 (raises_own T.e_NoLadder.2.2.1 T.e_NoLadder.2.2.2) (by rfl))) pss_nil) pss_nil) 
    (pss_cons (ps_if (pt_cmpR (op_neNil hr.units0) (pe_lc (own := [("name", 4)]) (g := gName 4) rfl nd (pi_seq (pe_fldT T (pv 0))) (blkOk_by (N := ["self", "inputs", "outputs", "rungs", "name", "names"]) (sc := defScope s_Ladder_init) (own := [("name", 4)]) (by decide +kernel)) (fun _ _ _ _ _ => (pg_name (i := 4) nd rfl (Or.inl rfl))) (fun _ _ _ _ _ => pts_one (pt_cmpR (op_ninT T) (pv 4) (pv 5) (by with_unfolding_all rfl))) (fun _ _ _ _ _ => pe_hide (pv 4))) (pe_lst pa_nil) (nomark _)) 
    (pss_cons (ps_raise rfl (takes_of rfl rfl rfl rfl) (pmk_own PySem.F.excBase_ValueError T.e_NoLadder.1 T.g_NoLadder T.e_NoLadder.2.1 (raises_own T.e_NoLadder.2.2.1 T.e_NoLadder.2.2.2) (by rfl))) pss_nil) pss_nil) 
    (pss_cons (ps_expr (pe_fn T hr (by rfl) T.g_need_own pass0 T.kp_need_own (pa_cons (pe_fldT T (pv 0)) pa_nil))) 
    (pss_cons (ps_expr (pe_fn T hr (by rfl) T.g_need_between pass0 T.kp_need_between (pa_cons (pv 5) (pa_cons pe_int (pa_cons (pe_globI (by rfl) T.i_MOST_WRITTEN) pa_nil))))) pss_nil)))))))))))))), SS.here ?_⟩
  have e0 : Ex H0 (upd (upd H0 dx (.own a)) a (.ins (He.ga K "Ladder") dx [])) := ex_made h1 h2
  refine ss_fldT (ev_var rfl) (e0 _ _ hi) (ev_var rfl) upd_same T.c_Ladder T.n_Ladder_inputs (by decide) fun H1 ti e1 nti hti => ?_
  have nta : ti ≠ a := fun z => by rw [z, upd_same] at nti; cases nti
  have e01 : Ex H0 (upd H1 a (.ins (He.ga K "Ladder") dx [("inputs", .ref ti)])) := (e0.trans e1).mut h1
  have hti1 : upd H1 a (.ins (He.ga K "Ladder") dx [("inputs", .ref ti)]) ti = some (.tup (M.ins.map V.str)) := by rw [upd_ne nta]; exact hti
  refine ss_fldT (ev_var rfl) (e01 _ _ ho) (ev_var rfl) upd_same T.c_Ladder T.n_Ladder_outputs (Nat.lt_of_le_of_lt (length_putF _ _ _) (by decide)) fun H2 to e2 nto hto => ?_
  have nta2 : to ≠ a := fun z => by rw [z] at nto; exact absurd (nto.symm.trans upd_same) (fun q => nomatch q)
  have e02 : Ex H0 (upd H2 a (.ins (He.ga K "Ladder") dx [("inputs", .ref ti), ("outputs", .ref to)])) := (e01.trans e2).mut h1
  have hti2 : upd H2 a (.ins (He.ga K "Ladder") dx [("inputs", .ref ti), ("outputs", .ref to)]) ti = some (.tup (M.ins.map V.str)) := by rw [upd_ne nta]; exact e2 _ _ hti1
  have hto2 : upd H2 a (.ins (He.ga K "Ladder") dx [("inputs", .ref ti), ("outputs", .ref to)]) to = some (.tup (M.outs.map V.str)) := by rw [upd_ne nta2]; exact hto
  refine ss_fldT (ev_var rfl) (e02 _ _ hrr) (ev_var rfl) upd_same T.c_Ladder T.n_Ladder_rungs (Nat.lt_of_le_of_lt (length_putF _ _ _) (Nat.lt_of_le_of_lt (Nat.succ_le_succ (length_putF _ _ _)) (by decide))) fun H3 tr e3 ntr htr => ?_
  have nta3 : tr ≠ a := fun z => by rw [z] at ntr; exact absurd (ntr.symm.trans upd_same) (fun q => nomatch q)
  have e03 : Ex H0 (upd H3 a (.ins (He.ga K "Ladder") dx (lfs ti to tr))) := (e02.trans e3).mut h1
  have hL : LadderAt K (upd H3 a (.ins (He.ga K "Ladder") dx (lfs ti to tr))) n a M := by
    refine ⟨dx, ti, to, tr, rs, upd_same, ?_, ?_, ?_, L2.Paired.mapP hrs fun _ _ q => q.im (.of e03), by have := ok.rl; omega, by have := ok.il; omega, by have := ok.ol; omega⟩
    · rw [upd_ne nta]; exact e3 _ _ hti2
    · rw [upd_ne nta2]; exact e3 _ _ hto2
    · rw [upd_ne nta3]; exact htr
  show SS _ _ _ (upd H3 a (.ins (He.ga K "Ladder") dx (lfs ti to tr)))
  generalize upd H3 a (.ins (He.ga K "Ladder") dx (lfs ti to tr)) = B at e03 hL ⊢
  obtain ⟨ti', fi, hti'⟩ := hL.fi T
  obtain ⟨to', fo, hto'⟩ := hL.fo T
  obtain ⟨tr', rs', fr, htr', hrs'⟩ := hL.fr T
  have il := ok.il
  have ol := ok.ol
  refine ss_forIt (er_catT (ev_fld (ev_var rfl) fi) (ev_fld (ev_var rfl) fo) hti' hto' (by rw [List.length_map, List.length_map]; omega)) fun v H4 e4 ⟨p, ev, hp⟩ => ?_
  subst ev
  refine ss_forSq (k := false) ev_c (.of hp) (fun i σ' H' => ∃ o4 o5, σ' = [some (.ref a), some (.ref li), some (.ref lo), some (.ref lr), o4, o5] ∧ Ex B H' ∧ H' p = some (.tup (M.ins.map V.str ++ M.outs.map V.str))) (fun H5 e5 => ⟨_, _, rfl, e4.trans e5, e5 _ _ hp⟩) (fun i σ' H' _ ⟨_, _, _, _, h⟩ => .of h) ?_ ?_
  · rintro i x σ' H' hx ⟨o4, o5, rfl, e5, hp'⟩
    have hx' : ∃ y, x = .str y ∧ nameB y = true ∧ y.length ≤ 1000 := by
      rcases List.mem_append.mp (List.mem_of_getElem? hx) with z | z
      · obtain ⟨y, hy, rfl⟩ := List.mem_map.mp z
        exact ⟨y, rfl, ok.iv y hy⟩
      · obtain ⟨y, hy, rfl⟩ := List.mem_map.mp z
        exact ⟨y, rfl, ok.ov y hy⟩
    obtain ⟨y, rfl, hy, hyl⟩ := hx'
    refine ss_when (b := false) (et_is (et_not (et_B (ev_fnV (ea_cons (ev_var rfl) ea_nil) ((c_is_name T).mono (by decide)) (spP_r y rfl (fun _ _ => by show y.length ≤ 100000; omega) fun _ v _ _ _ r => r)))) (by rw [hy]; rfl)) (fun z => nomatch z) fun _ => ss_end fun H6 e6 => ⟨_, _, rfl, e5.trans e6, e6 _ _ hp'⟩
  rintro σ' H' ⟨o4, o5, rfl, e5, -⟩
  have hL5 := hL.im (.of e5)
  refine SS.here ?_
  clear hp e4 hL
  have fi := fi.ex e5
  have fo := fo.ex e5
  have fr := fr.ex e5
  have hti' := e5 _ _ hti'
  have hto' := e5 _ _ hto'
  have htr' := e5 _ _ htr'
  have hrs' : Paired (RungAt K H' n) rs' M.rungs := L2.Paired.mapP hrs' fun _ _ q => q.im (.of e5)
  have btw : ∀ (a : Addr) (xs : List V) (lo hi : Int), H' a = some (.tup xs) → lo ≤ (xs.length : Int) → (xs.length : Int) ≤ hi → SpR (spBetween K) [.ref a, .int lo, .int hi] H' (fun v _ => v = .non) := fun a xs lo hi h l1 l2 => spP_r (⟨false, a, xs, lo, hi⟩ : BArg) rfl (fun H1 e1 => ⟨.of (e1 _ _ h), l1, l2⟩) fun _ v _ _ _ r => r
  have sgl : ∀ (a : Addr) (ks : List Str), H' a = some (.tup (ks.map V.str)) → ks.Nodup → ks.length ≤ 1000 → SpR (spSingleN K) [.ref a] H' (fun v _ => v = .non) := fun a ks h l1 l2 => spP_r (a, ks) rfl (fun H1 e1 => ⟨e1 _ _ h, l1, l2⟩) fun _ v _ _ _ r => r
  refine ss_drop (ev_fnV (ea_cons (ev_fld (ev_var rfl) fi) (ea_cons ev_c (ea_cons ev_c ea_nil))) ((c_need_between T).mono (by decide)) (btw _ _ _ _ hti' (by omega) (by rw [List.length_map]; omega))) ?_
  refine ss_drop (ev_fnV (ea_cons (ev_fld (ev_var rfl) fi) ea_nil) ((c_need_single T).mono (by decide)) (sgl _ _ hti' ok.ind (by omega))) ?_
  refine ss_drop (ev_fnV (ea_cons (ev_fld (ev_var rfl) fo) (ea_cons ev_c (ea_cons ev_c ea_nil))) ((c_need_between T).mono (by decide)) (btw _ _ _ _ hto' (by rw [List.length_map]; have := ok.ol1; omega) (by rw [List.length_map]; omega))) ?_
  refine ss_drop (ev_fnV (ea_cons (ev_fld (ev_var rfl) fo) ea_nil) ((c_need_single T).mono (by decide)) (sgl _ _ hto' ok.ond (by omega))) ?_
  refine ss_drop (ev_fnV (ea_cons (ev_fld (ev_var rfl) fr) (ea_cons ev_c (ea_cons ev_c ea_nil))) ((c_need_between T).mono (by decide)) (btw _ _ _ _ htr' (by rw [List.length_map, paired_len hrs']; have := ok.rl1; omega) (by rw [List.length_map, paired_len hrs']; have := ok.rl; omega))) ?_
  obtain ⟨dx', ti2, to2, tr2, rs2, g1, g2, g3, g4, g5, g6⟩ := id hL5
  refine ss_asgR (er_meV (ev_var rfl) g1 (by rfl) ((m_written T).mono (by decide)) ea_nil (spP_r (R' := fun v H2 => ∃ p, v = .ref p ∧ H2 p = some (.tup (M.names.map V.str))) (⟨n, a, M⟩ : LArg) rfl (fun H1 e1 => hL5.im (.of e1)) fun H1 v H2 _ _ ⟨p, ev, _, hp⟩ => ⟨p, ev, hp⟩)) fun v H6 e6 ⟨p, ev, hp⟩ => ?_
  subst ev
  have nl := ok.nl
  refine ss_when (et_noneKept (b := a) (neg := false) (ev_fld (ev_var rfl) (fi.ex e6)) (e6 _ _ hti') (by omega) (fun _ => rfl) fun x hx => et_test (ev_is (ev_op (ev_var rfl) (ev_var rfl) (rv_isT (.of hp) rfl (flat_str _))) (by rw [inV_str, decide_eq_false (ok.inw x hx)]))) (fun z => nomatch z) fun _ => ?_
  refine ss_when (et_noneKept (b := a) (neg := false) (ev_fld (ev_var rfl) (fo.ex e6)) (e6 _ _ hto') (by omega) (fun _ => rfl) fun x hx => et_test (ev_is (ev_op (ev_var rfl) (ev_var rfl) (rv_niT (.of hp) rfl (flat_str _))) (by rw [inV_str, decide_eq_true (ok.ouw x hx)]; rfl))) (fun z => nomatch z) fun _ => ?_
  refine ss_drop (ev_fnV (ea_cons (ev_fld (ev_var rfl) (fr.ex e6)) ea_nil) ((c_need_own T).mono (by decide)) (spP_r (⟨n, tr', rs', M.rungs⟩ : OArg) rfl (fun H1 e1 => ⟨e1 _ _ (e6 _ _ htr'), L2.Paired.mapP hrs' fun _ _ q => q.im (.of (e6.trans e1)), g6.1, ok.own⟩) fun _ v _ _ _ r => r)) ?_
  refine ss_drop (ev_fnV (ea_cons (ev_var rfl) (ea_cons ev_c (ea_cons ev_c ea_nil))) ((c_need_between T).mono (by decide)) (spP_r (⟨false, p, M.names.map V.str, 1, 20⟩ : BArg) rfl (fun H1 e1 => ⟨.of (e1 _ _ hp), by show (1 : Int) ≤ ((M.names.map V.str).length : Nat); rw [List.length_map]; have := ok.nl1; omega, by show ((M.names.map V.str).length : Nat) ≤ (20 : Int); rw [List.length_map]; omega⟩) fun _ v _ _ _ r => r)) (ss_end fun H7 e7 => hQ H7 (e03.trans (e5.trans (e6.trans e7))) (hL5.im (.of (e6.trans e7))))
end
end RgK
set_option Elab.async false
set_option linter.all false
set_option maxRecDepth 100000
set_option maxHeartbeats 4000000

/-! _law_ladder. -/
namespace RgK
open PySem PySem.Spec PyProof.Rows L2 Evl
local macro_rules | `(tactic| walk_at "ev") => `(tactic| repeat' (first
  | with_reducible exact ev_c
  | with_reducible exact ea_nil
  | ((with_reducible apply ev_var); first | rfl | assumption)
  | with_reducible apply ea_cons
  | with_reducible apply ev_fld
  | ((with_reducible show Fld _ _ _ _ _); assumption)
  | with_reducible exact rv_I0
  | with_reducible exact ru_neg
  | with_reducible exact rv_eq rfl
  | with_reducible exact rv_ne rfl
  | ((with_reducible apply rv_I); first | decide | omega | assumption)
  | ((with_reducible show _ = _ → EvT _ _ _ _); intro _)
  | ((with_reducible show _ = _ → Ev _ _ _ _); intro _)
  | with_reducible apply et_and
  | with_reducible apply et_or
  | with_reducible apply ev_andV
  | with_reducible apply ev_orV
  | with_reducible apply et_test
  | with_reducible apply et_B
  | with_reducible apply et_not
  | with_reducible apply ev_notV
  | with_reducible apply ev_un
  | with_reducible apply ev_op))

section
variable {K : PySem.W.Frag} {σ : L2.St} {H : Hp} {te tl : TE} {t : TT}
theorem wipe2 {σ : L2.St} {vs : List Nat} {i1 i2 : Nat} (h1 : ∀ (s : L2.St) x, wipe (s.set i1 x) vs = wipe s vs) (h2 : ∀ (s : L2.St) x, wipe (s.set i2 x) vs = wipe s vs) (h : wipe (wipe σ vs) vs = wipe σ vs) (x y : Option V) : wipe (((wipe σ vs).set i1 x).set i2 y) vs = wipe σ vs := by rw [h2, h1, h]
/-- over a list or a tuple of pairs -/
theorem er_lcPair {k : Bool} {a : Addr} {xs : List V} {i1 i2 : Nat} {vs : List Nat} {R : V → Hp → Prop} (h : Ev tl σ H (.ref a)) (hx : Sq K k H a xs) (hn : xs.length ≤ 50000) (hw : ∀ x y, wipe (((wipe σ vs).set i1 (some x)).set i2 (some y)) vs = wipe σ vs)
    (G : Nat → V → V → Prop) (hp : ∀ i x, xs[i]? = some x → ∃ T u v, x = .ref T ∧ SqT K H T [u, v] ∧ G i u v)
    (Pv : Nat → List V → Hp → Prop) (hP : ∀ i acc H1 H2, Pv i acc H1 → Ex H1 H2 → Pv i acc H2) (h0 : Pv 0 [] H)
    (hs : ∀ i acc F u v, i < xs.length → G i u v → Ex H F → Pv i acc F → ∃ b, EvT t (((wipe σ vs).set i1 (some u)).set i2 (some v)) F b ∧ (b = false → Pv (i + 1) acc F) ∧
      (b = true → ∃ Rv : V → Hp → Prop, EvR te (((wipe σ vs).set i1 (some u)).set i2 (some v)) F Rv ∧ ∀ y F2, Ex F F2 → Rv y F2 → Pv (i + 1) (acc ++ [y]) F2))
    (hd : ∀ p acc H', H p = none → Ex H H' → H' p = some (.lst acc) → Pv xs.length acc H' → R (.ref p) H') : EvR (tLc (iSeq K tl) (gTup K 2 (gCons (gName i1) (gCons (gName i2) gNil))) t (tHide te) vs) σ H R := by
  have go : ∀ i H', i < xs.length → Ex H H' → (ItK K k a).go i H' := fun i H' hi e => by
    have hx' := ex_s e hx
    cases k with
    | true => exact ⟨xs, xs[i], hx', List.getElem?_eq_getElem hi⟩
    | false => exact ⟨xs, xs[i], hx', List.getElem?_eq_getElem hi⟩
  have stop : ∀ H', Ex H H' → (ItK K k a).stop xs.length H' := fun H' e => by
    have hx' := ex_s e hx
    cases k with
    | true => exact ⟨xs, hx', Nat.le_refl _⟩
    | false => exact ⟨xs, hx', Nat.le_refl _⟩
  refine er_lcJ xs.length (ei_seq (k := k) h hx) hn Pv hP h0 go stop (fun i acc F hi eF pv x H1 H2 e1 hy => ?_) hd
  have hx' : xs[i]? = some x ∧ H2 = H1 := by
    have hx' := ex_s (eF.trans e1) hx
    cases k with
    | true => exact ⟨hy.2 xs hx', hy.1⟩
    | false => exact ⟨hy.2 xs hx', hy.1⟩
  obtain ⟨hx1, rfl⟩ := hx'
  obtain ⟨T, u, v, rfl, hT, hG⟩ := hp i x hx1
  obtain ⟨b, hb⟩ := hs i acc F u v hi hG eF pv
  exact ⟨_, b, fun Q q => g_twoT (ex_t (eF.trans e1) hT) q, .refl _, hw u v, hb⟩
end
/-! ### a model as the law tells it -/
def RungTold (H : Hp) (n : Nat) (v : V) (r : RungV) : Prop := ∃ t u e, v = .ref t ∧ H t = some (.tup [u, e]) ∧ ToldAt H n u r.1 ∧ r.1.s ≤ 20 ∧ EndTold H e r.2
theorem RungTold.im {H H' : Hp} {n : Nat} {v : V} {r : RungV} (h : RungTold H n v r) (i : Ip H H') : RungTold H' n v r := let ⟨t, u, e, h0, h1, h2, h3, h4⟩ := h; ⟨t, u, e, h0, i _ _ h1 rfl, h2.im i, h3, h4.im i⟩
def ModelAt (H : Hp) (n : Nat) (v : V) (M : Ldr) : Prop := ∃ t li lo lr rts, v = .ref t ∧ H t = some (.tup [.ref li, .ref lo, .ref lr]) ∧ H li = some (.lst (M.ins.map V.str)) ∧ H lo = some (.lst (M.outs.map V.str)) ∧ H lr = some (.lst rts) ∧ Paired (RungTold H n) rts M.rungs
theorem ModelAt.ex {H H' : Hp} {n : Nat} {v : V} {M : Ldr} (h : ModelAt H n v M) (e : Ex H H') : ModelAt H' n v M := let ⟨t, li, lo, lr, rts, h0, h1, h2, h3, h4, h5⟩ := h; ⟨t, li, lo, lr, rts, h0, e _ _ h1, e _ _ h2, e _ _ h3, e _ _ h4, L2.Paired.mapP h5 fun _ _ q => q.im (.of e)⟩
theorem ModelAt.im {H H' : Hp} {n : Nat} {v : V} {M : Ldr} (h : ModelAt H n v M) (e : Im H H') : ModelAt H' n v M := let ⟨t, li, lo, lr, rts, h0, h1, h2, h3, h4, h5⟩ := h; ⟨t, li, lo, lr, rts, h0, e _ _ h1 rfl, e _ _ h2 rfl, e _ _ h3 rfl, e _ _ h4 rfl, L2.Paired.mapP h5 fun _ _ q => q.im (.im e)⟩
section
variable {w : World} {K : PySem.W.Frag} {mg : Mg} {base : Heap} {k : Nat}
def spLLadder (K : PySem.W.Frag) (n : Nat) : Sp := spP (ι := V × Ldr) (fun i => [i.1]) (fun i H => ModelAt H n i.1 i.2 ∧ LdrOk i.2) (fun i H v H2 => ∃ a, v = .ref a ∧ LadderAt K H2 n a i.2)
theorem c_law_ladder (T : Tx w K mg base) (n : Nat) (hn : n ≤ 100) : Cal PG w K mg base (n + 10) "_law_ladder" (spLLadder K n) := by
  refine cal_of (fnd ["_law_model_here", "_law_told_here", "_law_end_here"] ["_law_model_here"] T.d_law_ladder (by decide +kernel) (spP_len fun _ => rfl) (fun _ _ _ _ _ _ us h => by match us, h with | [_], _ => rfl) ?_) T.g_law_ladder
  rintro cdv A outer s H vs Q E hr ⟨⟨v, M⟩, rfl, ⟨hM, ok⟩, hQ⟩
  have nd : (["_law_model_here", "_law_told_here", "_law_end_here"] : List Str).Nodup := by decide +kernel
  refine ⟨_, 
    (pss_cons (ps_ret (pe_mk T hr T.k_Ladder (by rfl) T.g_Ladder (pa_cons (pe_ix (ix_tT T) (pv 0) pe_int (fun _ _ => rfl)) (pa_cons (pe_ix (ix_tT T) (pv 0) pe_int (fun _ _ => rfl)) (pa_cons (pe_lc (own := [("_law_told_here", 1), ("_law_end_here", 2)]) (g := gTup K 2 (gCons (gName 1) (gCons (gName 2) gNil))) (tt := tYes) rfl nd (pi_seq (pe_ix (ix_tT T) (pv 0) pe_int (fun _ _ => rfl))) (blkOk_by (N := ["_law_model_here", "_law_told_here", "_law_end_here"]) (sc := defScope s_law_ladder) (own := [("_law_told_here", 1), ("_law_end_here", 2)]) (by decide +kernel)) (fun _ _ _ _ _ => (pg_tup rfl (pgs_cons (pg_name (i := 1) nd rfl (Or.inl rfl)) (pgs_cons (pg_name (i := 2) nd rfl (Or.inl rfl)) pgs_nil)))) (fun _ _ _ _ _ => pts_nil) (fun _ _ _ _ _ => pe_hide (pe_mk T hr T.k_Rung (by rfl) T.g_Rung (pa_cons (pe_fn T hr (by rfl) T.g_part_of pass0 T.kp_part_of (pa_cons (pv 1) pa_nil)) (pa_cons (pe_fn T hr (by rfl) T.g_law_end pass0 T.kp_law_end (pa_cons (pv 2) pa_nil)) pa_nil))))) pa_nil))))) pss_nil), SS.here ?_⟩
  obtain ⟨t, li, lo, lr, rts, ev, ht, hi, ho, hrr, hrs⟩ := id hM
  have ev : v = .ref t := ev
  subst ev
  have hrs : Paired (RungTold H n) rts M.rungs := hrs
  have ok : LdrOk M := ok
  have hl : rts.length ≤ 30 := by rw [paired_len hrs]; exact ok.rl
  have ix : ∀ {σ : L2.St} {H1 : Hp} (j : Nat) (x : V), Ex H H1 → σ[0]? = some (some (.ref t)) → ([V.ref li, .ref lo, .ref lr] : List V)[j]? = some x → Ev (tOp (rIxT K) (tVar 0) (tC (.int (j : Nat)))) σ H1 x := fun j x e hσ hx => ev_op (ev_var hσ) ev_c (rv_ixT (.of (e _ _ ht)) (atI_nat hx))
  refine ss_retR (R := fun v H2 => ∃ a, v = .ref a ∧ LadderAt K H2 n a M) (er_mkM (Ra := fun vs H2 => ∃ p rs, vs = [.ref li, .ref lo, .ref p] ∧ H2 p = some (.lst (rs.map V.ref)) ∧ Paired (RungAt K H2 n) rs M.rungs) ((k_Ladder T).mono (by omega)) ?_ fun vs H1 e1 ⟨p, rs, evs, hp, hrs'⟩ => ⟨⟨n, li, lo, p, rs, M⟩, evs, ⟨e1 _ _ hi, e1 _ _ ho, hp, hrs', ok⟩, fun a H2 _ _ r => ⟨a, rfl, r⟩⟩) fun v H1 e1 r => hQ v H1 e1 r
  refine ar_cons (ev_rel (ix 0 _ (.refl _) rfl rfl)) fun x H1 e1 ex => ar_cons (ev_rel (ix 1 _ e1 rfl rfl)) fun y H2 e2 ey => ?_
  have ex : x = .ref li := ex
  have ey : y = .ref lo := ey
  subst ex ey
  have e12 := e1.trans e2
  refine ar_cons (Ra := fun v H3 => ∃ p rs, v = .ref p ∧ H3 p = some (.lst (rs.map V.ref)) ∧ Paired (RungAt K H3 n) rs M.rungs) ?_ fun z H3 e3 ⟨p, rs, ez, hp, hrs'⟩ => fun H4 e4 Q q => q [] H4 (.refl _) ⟨p, rs, by rw [ez], e4 _ _ hp, L2.Paired.mapP hrs' fun _ _ q => q.im (.of e4)⟩
  refine er_lcPair (k := true) (ix 2 _ e12 rfl rfl) (.of (e12 _ _ hrr)) (by omega) (fun _ _ => rfl) (fun i u e => ∃ r, M.rungs[i]? = some r ∧ ToldAt H n u r.1 ∧ r.1.s ≤ 20 ∧ EndTold H e r.2) (fun i x hx => ?_) (fun i acc F => ∃ rs, acc = rs.map V.ref ∧ Paired (RungAt K F n) rs (M.rungs.take i)) (fun i acc H1 H2 p e => ?_) ⟨[], rfl, .nil⟩ (fun i acc F u e hi hG eF p => ?_) fun p acc H' _ _ hp' q => ?_
  · obtain ⟨r, hri, t', u, e, ex, h1, h2⟩ := paired_get hrs hx
    exact ⟨t', u, e, ex, .of (e12 _ _ h1), r, hri, h2⟩
  · obtain ⟨rs, h1, h2⟩ := p
    exact ⟨rs, h1, L2.Paired.mapP h2 fun _ _ q => q.im (.of e)⟩
  · obtain ⟨r, hri, h2, h3, h4⟩ := hG
    obtain ⟨rs, hacc, hp⟩ := p
    have eHF := e12.trans eF
    refine ⟨true, fun H1 _ Q q => q H1 (.refl _), (fun z => nomatch z), fun _ => ⟨fun v F2 => ∃ a, v = .ref a ∧ RungAt K F2 n a r, ?_, fun y F2 e2 ⟨a, ey, ha⟩ => ⟨rs ++ [a], by rw [ey, hacc, List.map_append]; rfl, by rw [take_snoc hri]; exact paired_snoc ha (L2.Paired.mapP hp fun _ _ q => q.im (.of e2))⟩⟩⟩
    refine er_mkM (Ra := fun vs F2 => ∃ p q, vs = [.ref p, .ref q] ∧ PartAt K F2 n p r.1 ∧ EndAt K F2 q r.2) ((k_Rung T).mono (by omega)) ?_ fun vs F1 e1 ⟨p, q, evs, hp, hq⟩ => ⟨(p, q), evs, trivial, fun a F2 _ e2 ⟨dx, hr⟩ => ⟨a, rfl, dx, p, q, hr, hp.im (.of e2), hq.im (.of e2), h4.1⟩⟩
    refine ar_cons (er_fnV (R := fun v F2 => ∃ p, v = .ref p ∧ PartAt K F2 n p r.1) (ea_cons (ev_var rfl) ea_nil) ((c_part_of T n hn).mono (by omega)) (spP_r (u, r.1) rfl (fun F1 e1 => ⟨h2.im (.of (eHF.trans e1)), h3⟩) fun _ v F2 _ _ ⟨a, ev, ha⟩ => ⟨a, ev, ha⟩)) fun x F1 e1 ⟨p, ex, hp⟩ => ?_
    refine ar_cons (er_fnV (R := fun v F2 => ∃ q, v = .ref q ∧ EndAt K F2 q r.2) (ea_cons (ev_var rfl) ea_nil) ((c_law_end T).mono (by omega)) (spP_r (e, r.2) rfl (fun F2 e2 => h4.im (.of ((eHF.trans e1).trans e2))) fun _ v F2 _ _ ⟨a, ev, ha⟩ => ⟨a, ev, ha⟩)) fun y F2 e2 ⟨q, ey, hq⟩ => ?_
    exact fun F3 e3 Q k => k [] F3 (.refl _) ⟨p, q, by rw [ex, ey], hp.im (.of (e2.trans e3)), hq.im (.of e3)⟩
  · obtain ⟨rs, hacc, hp⟩ := q
    rw [paired_len hrs, List.take_length] at hp
    exact ⟨p, rs, rfl, by rw [hp', hacc], hp⟩
end
end RgK
set_option Elab.async false
set_option linter.all false
set_option maxRecDepth 100000
set_option maxHeartbeats 4000000
/-! The plain laws: numbers by names, packed and unpacked; what an end does. -/
namespace RgK
open PySem PySem.Spec PyProof.Rows L2
def b2n (b : Bool) : Int := if b then 1 else 0
/-! ### which end counts under a name -/
def cEnd (rs : List RungV) (x : Str) : Option EndV := (rs.find? fun r => decide (3 ≤ r.2.kind) && decide (r.2.name = x)).map (·.2)
theorem cEnd_some {rs : List RungV} {x : Str} {e : EndV} (h : cEnd rs x = some e) : 3 ≤ e.kind ∧ e.name = x ∧ ∃ r ∈ rs, r.2 = e := by
  unfold cEnd at h
  obtain ⟨r, hr, rfl⟩ := Option.map_eq_some_iff.mp h
  have h1 := List.find?_some hr
  have h2 := List.mem_of_find?_eq_some hr
  rw [Bool.and_eq_true] at h1
  exact ⟨of_decide_eq_true h1.1, of_decide_eq_true h1.2, r, h2, rfl⟩
theorem cEnd_none {rs : List RungV} {x : Str} (h : cEnd rs x = none) : ∀ r ∈ rs, r.2.name = x → r.2.kind < 3 := by
  unfold cEnd at h
  rw [Option.map_eq_none_iff, List.find?_eq_none] at h
  intro r hr hx
  have := h r hr
  simp only [Bool.and_eq_true, decide_eq_true_eq, not_and] at this
  rcases Nat.lt_or_ge r.2.kind 3 with z | z
  · exact z
  · exact absurd hx (this z)
theorem flags_mem {rs : List RungV} {r : RungV} (h : r ∈ rs) (h2 : r.2.kind ≠ 2) : decide (3 ≤ r.2.kind) ∈ flags rs r.2.name := by
  unfold flags
  exact List.mem_map.mpr ⟨r, List.mem_filter.mpr ⟨h, by simp [h2]⟩, rfl⟩
/-- an end that counts is the only one under its name that is no reset -/
theorem own_one {rs : List RungV} (o : OwnOk rs) {r r' : RungV} (h : r ∈ rs) (h' : r' ∈ rs) (k : 3 ≤ r.2.kind) (k' : r'.2.kind ≠ 2) (n : r'.2.name = r.2.name) : r' = r := by
  have hf : (flags rs r.2.name).any id = true := by
    rw [List.any_eq_true]
    exact ⟨true, by have := flags_mem h (by omega); rwa [decide_eq_true k] at this, rfl⟩
  have hl : ¬ 1 < (flags rs r.2.name).length := fun z => o _ ⟨z, hf⟩
  unfold flags at hl
  rw [List.length_map] at hl
  have m1 : r ∈ rs.filter fun q => !decide (q.2.kind = 2) && decide (q.2.name = r.2.name) := List.mem_filter.mpr ⟨h, by simp; omega⟩
  have m2 : r' ∈ rs.filter fun q => !decide (q.2.kind = 2) && decide (q.2.name = r.2.name) := List.mem_filter.mpr ⟨h', by simp [k', n]⟩
  generalize rs.filter (fun q => !decide (q.2.kind = 2) && decide (q.2.name = r.2.name)) = l at hl m1 m2
  match l, hl, m1, m2 with
  | [a], _, m1, m2 => rw [List.mem_singleton.mp m1, List.mem_singleton.mp m2]
  | a :: b :: l, hl, _, _ => exact absurd (by simp) hl
theorem own_count {rs : List RungV} (o : OwnOk rs) {r : RungV} (h : r ∈ rs) (k : 3 ≤ r.2.kind) : cEnd rs r.2.name = some r.2 := by
  cases e : cEnd rs r.2.name with
  | none => exact absurd (cEnd_none e r h rfl) (by omega)
  | some e' =>
    obtain ⟨k', n', r', hr', rfl⟩ := cEnd_some e
    rw [own_one o h hr' k (by omega) n']
theorem own_relay {rs : List RungV} (o : OwnOk rs) {r : RungV} (h : r ∈ rs) (k : r.2.kind < 2) : cEnd rs r.2.name = none := by
  cases e : cEnd rs r.2.name with
  | none => rfl
  | some e' =>
    obtain ⟨k', n', r', hr', rfl⟩ := cEnd_some e
    have := own_one o hr' h k' (by omega) n'.symm
    rw [this] at k
    omega
def cnames (rs : List RungV) : List Str := namesOf (rs.filter fun r => decide (3 ≤ r.2.kind))
def znames (rs : List RungV) : List Str := namesOf (rs.filter fun r => decide (r.2.kind = 4))
theorem mem_cnames {rs : List RungV} {x : Str} : x ∈ cnames rs ↔ (cEnd rs x).isSome = true := by
  unfold cnames
  rw [mem_namesOf]
  constructor
  · rintro ⟨r, hr, hx⟩
    obtain ⟨h1, h2⟩ := List.mem_filter.mp hr
    cases e : cEnd rs x with
    | none => exact absurd (cEnd_none e r h1 hx) (by have := of_decide_eq_true h2; omega)
    | some _ => rfl
  · intro h
    obtain ⟨e, he⟩ := Option.isSome_iff_exists.mp h
    obtain ⟨k, n, r, hr, rfl⟩ := cEnd_some he
    exact ⟨r, List.mem_filter.mpr ⟨hr, decide_eq_true k⟩, n⟩
theorem mem_znames {rs : List RungV} (o : OwnOk rs) {x : Str} : x ∈ znames rs ↔ ∃ e, cEnd rs x = some e ∧ e.kind = 4 := by
  unfold znames
  rw [mem_namesOf]
  constructor
  · rintro ⟨r, hr, hx⟩
    obtain ⟨h1, h2⟩ := List.mem_filter.mp hr
    have h2 := of_decide_eq_true h2
    exact ⟨r.2, by rw [← hx]; exact own_count o h1 (by omega), h2⟩
  · rintro ⟨e, he, h4⟩
    obtain ⟨k, n, r, hr, rfl⟩ := cEnd_some he
    exact ⟨r, List.mem_filter.mpr ⟨hr, decide_eq_true h4⟩, n⟩
theorem cnames_sub {rs : List RungV} {x : Str} (h : x ∈ cnames rs) : x ∈ namesOf rs := by
  unfold cnames at h
  rw [mem_namesOf] at h ⊢
  obtain ⟨r, hr, hx⟩ := h
  exact ⟨r, (List.mem_filter.mp hr).1, hx⟩
theorem znames_sub {rs : List RungV} {x : Str} (h : x ∈ znames rs) : x ∈ namesOf rs := by
  unfold znames at h
  rw [mem_namesOf] at h ⊢
  obtain ⟨r, hr, hx⟩ := h
  exact ⟨r, (List.mem_filter.mp hr).1, hx⟩
/-! ### numbers by names: the state -/
abbrev Nu : Type := Str → Int
def bit (rs : List RungV) (ν : Nu) (x : Str) : Bool := match cEnd rs x with
  | none => decide (ν x = 1)
  | some e => decide (ν x % 16 = e.most)
def wd (rs : List RungV) (x : Str) : Nat := match cEnd rs x with
  | none => 1
  | some e => if e.kind = 4 then 5 else 4
/-- a number that may stand under x -/
def Fit (rs : List RungV) (x : Str) (n : Int) : Prop := match cEnd rs x with
  | none => 0 ≤ n ∧ n < 2
  | some e => 0 ≤ n ∧ n % 16 ≤ e.most ∧ n < (if e.kind = 4 then 32 else 16)
def NuOk (rs : List RungV) (ν : Nu) : Prop := ∀ x, Fit rs x (ν x)
theorem Fit.range {rs : List RungV} {x : Str} {n : Int} (h : Fit rs x n) : 0 ≤ n ∧ n < 2 ^ wd rs x := by
  unfold Fit at h
  unfold wd
  split at h
  · exact ⟨h.1, by simpa using h.2⟩
  · refine ⟨h.1, ?_⟩
    have := h.2.2
    split at this
    · rename_i k
      rw [if_pos k]
      simpa using this
    · rename_i k
      rw [if_neg k]
      simpa using this
def setN (ν : Nu) (x : Str) (n : Int) : Nu := fun y => if y = x then n else ν y
theorem setN_same {ν : Nu} {x : Str} {n : Int} : setN ν x n x = n := if_pos rfl
theorem setN_ne {ν : Nu} {x y : Str} {n : Int} (h : y ≠ x) : setN ν x n y = ν y := if_neg h
theorem NuOk.set {rs : List RungV} {ν : Nu} {x : Str} {n : Int} (h : NuOk rs ν) (f : Fit rs x n) : NuOk rs (setN ν x n) := fun y => by
  by_cases e : y = x
  · subst e; rw [setN_same]; exact f
  · rw [setN_ne e]; exact h y
/-- the new number that an end leaves under its name -/
def actN (e : EndV) (h : Bool) (n : Int) : Int :=
  if e.kind = 0 then b2n h
  else if e.kind = 1 then (if h then 1 else n)
  else if e.kind = 2 then (if h then n - n % 16 else n)
  else if e.kind = 3 then (if h then min (n + 1) e.most else 0)
  else (if h && decide (n / 16 = 0) then min (n % 16 + 1) e.most else n % 16) + 16 * b2n h
def act (e : EndV) (h : Bool) (ν : Nu) : Nu := setN ν e.name (actN e h (ν e.name))
theorem b2n_range (b : Bool) : 0 ≤ b2n b ∧ b2n b < 2 := by cases b <;> decide
theorem act_fit {rs : List RungV} (o : OwnOk rs) {r : RungV} (hr : r ∈ rs) (ok : EndOk r.2) (h : Bool) {n : Int} (f : Fit rs r.2.name n) : Fit rs r.2.name (actN r.2 h n) := by
  have hk := ok.k
  have m1 := ok.m1
  have m9 := ok.m9
  have hb := b2n_range h
  rcases Nat.lt_or_ge r.2.kind 2 with k | k
  · have := own_relay o hr k
    unfold Fit at f ⊢
    rw [this] at f ⊢
    show 0 ≤ actN r.2 h n ∧ actN r.2 h n < 2
    have f : 0 ≤ n ∧ n < 2 := f
    unfold actN
    rcases Nat.lt_or_ge r.2.kind 1 with k1 | k1
    · rw [if_pos (by omega)]; exact hb
    · rw [if_neg (by omega), if_pos (by omega)]
      split
      · omega
      · exact f
  · rcases Nat.lt_or_ge r.2.kind 3 with k3 | k3
    · have k2 : r.2.kind = 2 := by omega
      unfold Fit at f ⊢
      have e : actN r.2 h n = if h = true then n - n % 16 else n := by
        unfold actN
        rw [if_neg (by omega), if_neg (by omega), if_pos k2]
      rw [e]
      split at f
      · split
        · omega
        · exact f
      · rename_i e' he
        obtain ⟨k', _, r', hr', e2⟩ := cEnd_some he
        split
        · obtain ⟨f1, f2, f3⟩ := f
          refine ⟨by omega, ?_, ?_⟩
          · have : (n - n % 16) % 16 = 0 := by omega
            rw [this]
            omega
          · split at f3 <;> rename_i k4
            · rw [if_pos k4]; omega
            · rw [if_neg k4]; omega
        · exact f
    · have := own_count o hr k3
      unfold Fit at f ⊢
      rw [this] at f ⊢
      show 0 ≤ actN r.2 h n ∧ actN r.2 h n % 16 ≤ r.2.most ∧ actN r.2 h n < _
      have f : 0 ≤ n ∧ n % 16 ≤ r.2.most ∧ n < (if r.2.kind = 4 then 32 else 16) := f
      unfold actN
      rw [if_neg (by omega), if_neg (by omega), if_neg (by omega)]
      by_cases k4 : r.2.kind = 3
      · rw [if_pos k4]
        rw [if_neg (by omega : ¬ r.2.kind = 4)] at f ⊢
        cases h with
        | true => rw [if_pos rfl]; omega
        | false => rw [if_neg (by decide)]; omega
      · rw [if_neg k4]
        rw [if_pos (by omega : r.2.kind = 4)] at f ⊢
        cases h with
        | true =>
          show 0 ≤ _ + 16 * 1 ∧ (_ + 16 * 1) % 16 ≤ _ ∧ _ + 16 * 1 < _
          by_cases z : n / 16 = 0
          · rw [decide_eq_true z, Bool.true_and, if_pos rfl]; omega
          · rw [decide_eq_false z, Bool.true_and, if_neg (by decide)]; omega
        | false =>
          show 0 ≤ _ + 16 * 0 ∧ (_ + 16 * 0) % 16 ≤ _ ∧ _ + 16 * 0 < _
          rw [Bool.false_and, if_neg (by decide)]
          omega
theorem act_ok {rs : List RungV} (o : OwnOk rs) {r : RungV} (hr : r ∈ rs) (ok : EndOk r.2) (h : Bool) {ν : Nu} (f : NuOk rs ν) : NuOk rs (act r.2 h ν) := f.set (act_fit o hr ok h (f _))
/-! ### the scan -/
/-- the image: what the inputs tell, and the bits -/
def img (M : Ldr) (βi : Str → Bool) (ν : Nu) (x : Str) : Bool := if x ∈ M.ins then βi x else if x ∈ M.names then bit M.rungs ν x else false
def scanL (M : Ldr) (βi : Str → Bool) : List RungV → Nu → Nu × List Bool
  | [], ν => (ν, [])
  | r :: rs, ν => let h := r.1.h (img M βi ν); let q := scanL M βi rs (act r.2 h ν); (q.1, h :: q.2)
abbrev scan (M : Ldr) (βi : Str → Bool) (ν : Nu) : Nu × List Bool := scanL M βi M.rungs ν
theorem scanL_ok {M : Ldr} (o : OwnOk M.rungs) {βi : Str → Bool} : ∀ {rs : List RungV} {ν : Nu}, (∀ r ∈ rs, r ∈ M.rungs ∧ EndOk r.2) → NuOk M.rungs ν → NuOk M.rungs (scanL M βi rs ν).1
  | [], _, _, f => f
  | r :: rs, _, h, f => scanL_ok (rs := rs) o (fun q hq => h q (List.mem_cons_of_mem _ hq)) (act_ok o (h r List.mem_cons_self).1 (h r List.mem_cons_self).2 _ f)
theorem scanL_len {M : Ldr} {βi : Str → Bool} : ∀ {rs : List RungV} {ν : Nu}, (scanL M βi rs ν).2.length = rs.length
  | [], _ => rfl
  | r :: rs, _ => congrArg Nat.succ scanL_len
theorem scanL_snoc {M : Ldr} {βi : Str → Bool} (r : RungV) : ∀ (rs : List RungV) (ν : Nu), scanL M βi (rs ++ [r]) ν = (act r.2 (r.1.h (img M βi (scanL M βi rs ν).1)) (scanL M βi rs ν).1, (scanL M βi rs ν).2 ++ [r.1.h (img M βi (scanL M βi rs ν).1)])
  | [], _ => rfl
  | q :: rs, ν => by
    rw [List.cons_append]
    simp only [scanL]
    rw [scanL_snoc r rs]
    rfl
/-! ### numbers packed -/
def pack : List (Nat × Int) → Int
  | [] => 0
  | (w, v) :: r => v + 2 ^ w * pack r
def sumW (l : List (Nat × Int)) : Nat := (l.map (·.1)).sum
theorem pack_snoc (w : Nat) (v : Int) : ∀ l : List (Nat × Int), pack (l ++ [(w, v)]) = pack l + v * 2 ^ sumW l
  | [] => by simp [pack, sumW]
  | (w', v') :: l => by
    show v' + 2 ^ w' * pack (l ++ [(w, v)]) = v' + 2 ^ w' * pack l + v * 2 ^ (w' + sumW l)
    rw [pack_snoc w v l, Int.mul_add, Int.pow_add]
    have : (2 : Int) ^ w' * (v * 2 ^ sumW l) = v * (2 ^ w' * 2 ^ sumW l) := by
      rw [← Int.mul_assoc, Int.mul_comm (2 ^ w') v, Int.mul_assoc]
    rw [this, Int.add_assoc]
def InW (l : List (Nat × Int)) : Prop := ∀ p ∈ l, 0 ≤ p.2 ∧ p.2 < 2 ^ p.1
theorem pow_pos' (k : Nat) : (0 : Int) < 2 ^ k := Int.pow_pos (by decide)
theorem pack_range : ∀ {l : List (Nat × Int)}, InW l → 0 ≤ pack l ∧ pack l < 2 ^ sumW l
  | [], _ => ⟨Int.le_refl _, by show (0 : Int) < 2 ^ 0; decide⟩
  | (w, v) :: l, h => by
    obtain ⟨h1, h2⟩ := pack_range (l := l) fun p hp => h p (List.mem_cons_of_mem _ hp)
    obtain ⟨v1, v2⟩ := h (w, v) List.mem_cons_self
    have p1 := pow_pos' w
    show 0 ≤ v + 2 ^ w * pack l ∧ v + 2 ^ w * pack l < 2 ^ (w + sumW l)
    have q1 : 0 ≤ 2 ^ w * pack l := Int.mul_nonneg (by omega) h1
    have q2 : 2 ^ w * (pack l + 1) ≤ 2 ^ w * 2 ^ sumW l := Int.mul_le_mul_of_nonneg_left (by omega) (by omega)
    have v1 : 0 ≤ v := v1
    have v2 : v < 2 ^ w := v2
    rw [Int.mul_add, Int.mul_one] at q2
    rw [Int.pow_add]
    omega
def unpack : List Nat → Int → List Int
  | [], _ => []
  | w :: ws, s => s % 2 ^ w :: unpack ws (s / 2 ^ w)
theorem unpack_pack : ∀ {l : List (Nat × Int)}, InW l → unpack (l.map (·.1)) (pack l) = l.map (·.2)
  | [], _ => rfl
  | (w, v) :: l, h => by
    obtain ⟨v1, v2⟩ := h (w, v) List.mem_cons_self
    have v1 : 0 ≤ v := v1
    have v2 : v < 2 ^ w := v2
    have p1 := pow_pos' w
    show (v + 2 ^ w * pack l) % 2 ^ w :: unpack _ ((v + 2 ^ w * pack l) / 2 ^ w) = v :: _
    rw [Int.add_mul_emod_self_left, Int.emod_eq_of_lt v1 v2, Int.add_mul_ediv_left _ _ (by omega), Int.ediv_eq_zero_of_lt v1 v2, Int.zero_add, unpack_pack fun p hp => h p (List.mem_cons_of_mem _ hp)]
theorem unpack_len : ∀ (ws : List Nat) (s : Int), (unpack ws s).length = ws.length
  | [], _ => rfl
  | _ :: ws, s => congrArg Nat.succ (unpack_len ws _)
theorem pack_unpack : ∀ {ws : List Nat} {s : Int}, 0 ≤ s → s < 2 ^ ws.sum → pack (ws.zip (unpack ws s)) = s
  | [], s, h1, h2 => by
    have : s = 0 := by simp at h2; omega
    rw [this]
    rfl
  | w :: ws, s, h1, h2 => by
    have p1 := pow_pos' w
    show s % 2 ^ w + 2 ^ w * pack (ws.zip (unpack ws (s / 2 ^ w))) = s
    rw [pack_unpack (Int.ediv_nonneg h1 (by omega)) (by
      rw [List.sum_cons, Int.pow_add] at h2
      exact Int.ediv_lt_of_lt_mul p1 (by rw [Int.mul_comm]; exact h2))]
    exact Int.emod_add_mul_ediv s (2 ^ w)
end RgK
set_option Elab.async false
set_option linter.all false
set_option maxRecDepth 100000
set_option maxHeartbeats 4000000

/-! Works: what an end does, the scan. -/
namespace RgK
open PySem PySem.Spec PyProof.Rows L2 Evl
local macro_rules | `(tactic| walk_at "ev") => `(tactic| repeat' (first
  | with_reducible exact ev_c
  | with_reducible exact ea_nil
  | ((with_reducible apply ev_var); first | rfl | assumption)
  | with_reducible apply ea_cons
  | with_reducible apply ev_fld
  | ((with_reducible show Fld _ _ _ _ _); assumption)
  | with_reducible exact rv_I0
  | with_reducible exact ru_neg
  | with_reducible exact rv_eq rfl
  | with_reducible exact rv_ne rfl
  | ((with_reducible apply rv_I); first | decide | omega | assumption)
  | ((with_reducible show _ = _ → EvT _ _ _ _); intro _)
  | ((with_reducible show _ = _ → Ev _ _ _ _); intro _)
  | with_reducible apply et_and
  | with_reducible apply et_or
  | with_reducible apply ev_andV
  | with_reducible apply ev_orV
  | with_reducible apply et_test
  | with_reducible apply et_B
  | with_reducible apply et_not
  | with_reducible apply ev_notV
  | with_reducible apply ev_un
  | with_reducible apply ev_op))

/-! ### works -/
structure WA where
  a : Addr
  la : Addr
  db : Addr
  dc : Addr
  ds : Addr
def wfs (W : WA) : List (Str × V) := [("ladder", .ref W.la), ("bits", .ref W.db), ("counts", .ref W.dc), ("seen", .ref W.ds)]
abbrev WA.dd (W : WA) : List Addr := [W.db, W.dc, W.ds]
structure WRaw (K : PySem.W.Frag) (H : Hp) (n : Nat) (W : WA) (M : Ldr) (fb fc fz : Str → V) : Prop where
  obj : ∃ dx, H W.a = some (.ins (He.ga K "Works") dx (wfs W))
  lad : LadderAt K H n W.la M
  bits : H W.db = some (.dK (tab (M.ins ++ M.names) fb))
  cnt : H W.dc = some (.dK (tab (cnames M.rungs) fc))
  seen : H W.ds = some (.dK (tab (znames M.rungs) fz))
  n1 : W.db ≠ W.dc
  n2 : W.db ≠ W.ds
  n3 : W.dc ≠ W.ds
def WorksAt (K : PySem.W.Frag) (H : Hp) (n : Nat) (W : WA) (M : Ldr) (βi : Str → Bool) (ν : Nu) : Prop := WRaw K H n W M (fun x => .bl (img M βi ν x)) (fun x => .int (ν x % 16)) (fun x => .bl (decide (ν x / 16 = 1)))
section
variable {K : PySem.W.Frag} {H H' : Hp} {n : Nat} {W : WA} {M : Ldr} {fb fc fz fb' fc' fz' : Str → V} {x : Str} {v : V} {βi : Str → Bool} {ν : Nu}
theorem WRaw.ex (h : WRaw K H n W M fb fc fz) (e : Ex H H') : WRaw K H' n W M fb fc fz := ⟨let ⟨dx, q⟩ := h.obj; ⟨dx, e _ _ q⟩, h.lad.im (.of e), e _ _ h.bits, e _ _ h.cnt, e _ _ h.seen, h.n1, h.n2, h.n3⟩
theorem WRaw.put {d : Addr} {u o : HO} (h : WRaw K H n W M fb fc fz) (hd : H d = some u) (i : isIT u = false) : (∃ dx, (upd H d o) W.a = some (.ins (He.ga K "Works") dx (wfs W))) ∧ LadderAt K (upd H d o) n W.la M :=
  ⟨let ⟨dx, q⟩ := h.obj; ⟨dx, ((Ip.refl _).put hd i) _ _ q rfl⟩, h.lad.im ((Ip.refl _).put hd i)⟩
theorem WRaw.putB (h : WRaw K H n W M fb fc fz) (hx : x ∈ M.ins ++ M.names) : WRaw K (upd H W.db (.dK (putK (tab (M.ins ++ M.names) fb) (.inr x) v))) n W M (fun y => if y = x then v else fb y) fc fz :=
  ⟨(h.put h.bits rfl).1, (h.put h.bits rfl).2, by rw [upd_same, put_mem hx], by rw [upd_ne (Ne.symm h.n1)]; exact h.cnt, by rw [upd_ne (Ne.symm h.n2)]; exact h.seen, h.n1, h.n2, h.n3⟩
theorem WRaw.putC (h : WRaw K H n W M fb fc fz) (hx : x ∈ cnames M.rungs) : WRaw K (upd H W.dc (.dK (putK (tab (cnames M.rungs) fc) (.inr x) v))) n W M fb (fun y => if y = x then v else fc y) fz :=
  ⟨(h.put h.cnt rfl).1, (h.put h.cnt rfl).2, by rw [upd_ne h.n1]; exact h.bits, by rw [upd_same, put_mem hx], by rw [upd_ne (Ne.symm h.n3)]; exact h.seen, h.n1, h.n2, h.n3⟩
theorem WRaw.putS (h : WRaw K H n W M fb fc fz) (hx : x ∈ znames M.rungs) : WRaw K (upd H W.ds (.dK (putK (tab (znames M.rungs) fz) (.inr x) v))) n W M fb fc (fun y => if y = x then v else fz y) :=
  ⟨(h.put h.seen rfl).1, (h.put h.seen rfl).2, by rw [upd_ne h.n2]; exact h.bits, by rw [upd_ne h.n3]; exact h.cnt, by rw [upd_same, put_mem hx], h.n1, h.n2, h.n3⟩
theorem WRaw.fin (h : WRaw K H n W M fb fc fz) (hb : ∀ x ∈ M.ins ++ M.names, fb x = fb' x) (hc : ∀ x ∈ cnames M.rungs, fc x = fc' x) (hz : ∀ x ∈ znames M.rungs, fz x = fz' x) : WRaw K H n W M fb' fc' fz' :=
  ⟨h.obj, h.lad, by rw [h.bits, tab_congr hb], by rw [h.cnt, tab_congr hc], by rw [h.seen, tab_congr hz], h.n1, h.n2, h.n3⟩
theorem dget_tab {d : Addr} {ks : List Str} {f : Str → V} (h : H d = some (.dK (tab ks f))) (hx : x ∈ ks) : DGet H d (.str x) (some (f x)) := by
  have := DGet.k (k := .inr x) h
  rwa [valV_tab, if_pos hx] at this
theorem dget_tabO {d : Addr} {ks : List Str} {f : Str → V} (h : H d = some (.dK (tab ks f))) : DGet H d (.str x) (if x ∈ ks then some (f x) else none) := by
  have := DGet.k (k := .inr x) h
  rwa [valV_tab] at this
theorem img_at {d : Addr} (h : H d = some (.dK (tab (M.ins ++ M.names) fun x => .bl (img M βi ν x)))) : ImgAt H d (img M βi ν) := ⟨_, h, fun x => by
  rw [valV_tab]
  by_cases hx : x ∈ M.ins ++ M.names
  · rw [if_pos hx]; rfl
  · rw [if_neg hx]
    have : img M βi ν x = false := by
      unfold img
      rw [if_neg (fun z => hx (List.mem_append_left _ z)), if_neg (fun z => hx (List.mem_append_right _ z))]
    rw [this]
    rfl⟩
theorem names_of_rung {r : RungV} (h : r ∈ M.rungs) : r.2.name ∈ M.names := (mem_namesOf _).mpr ⟨r, h, rfl⟩
theorem img_ne {e : EndV} {h : Bool} (hx : x ≠ e.name) : img M βi (act e h ν) x = img M βi ν x := by
  unfold img bit act
  rw [setN_ne hx]
theorem img_name (ok : LdrOk M) {r : RungV} (hr : r ∈ M.rungs) : img M βi ν r.2.name = bit M.rungs ν r.2.name := by
  have := names_of_rung hr
  unfold img
  rw [if_neg (fun z => ok.inw _ z this), if_pos this]
end
section
variable {w : World} {K : PySem.W.Frag} {mg : Mg} {base : Heap} {k : Nat}
theorem WRaw.fl (T : Tx w K mg base) {H : Hp} {n : Nat} {W : WA} {M : Ldr} {fb fc fz : Str → V} (h : WRaw K H n W M fb fc fz) : Fld K H W.a "ladder" (.ref W.la) ∧ Fld K H W.a "bits" (.ref W.db) ∧ Fld K H W.a "counts" (.ref W.dc) ∧ Fld K H W.a "seen" (.ref W.ds) :=
  let ⟨dx, q⟩ := h.obj; ⟨⟨_, _, _, q, T.c_Works, T.n_Works_ladder, rfl⟩, ⟨_, _, _, q, T.c_Works, T.n_Works_bits, rfl⟩, ⟨_, _, _, q, T.c_Works, T.n_Works_counts, rfl⟩, ⟨_, _, _, q, T.c_Works, T.n_Works_seen, rfl⟩⟩
/-! ### count_on, act -/
structure AArg where
  n : Nat
  W : WA
  M : Ldr
  βi : Str → Bool
  ν : Nu
  q : Addr
  r : RungV
  h : Bool
def spAct (K : PySem.W.Frag) (P : RungV → Prop) : Sp := fun vs H Q _ => ∃ i : AArg, vs = [.ref i.W.a, .ref i.q, .bl i.h] ∧ (WorksAt K H i.n i.W i.M i.βi i.ν ∧ LdrOk i.M ∧ NuOk i.M.rungs i.ν ∧ i.r ∈ i.M.rungs ∧ EndAt K H i.q i.r.2 ∧ P i.r) ∧
  ∀ v H2, Mo i.W.dd H H2 → WorksAt K H2 i.n i.W i.M i.βi (act i.r.2 i.h i.ν) → Q v H2
theorem m_count_on (T : Tx w K mg base) : Met PG w K mg base 1 (He.ga K "Works") "count_on" (spAct K fun r => 3 ≤ r.2.kind) := by
  refine met_of (fnd ["self", "end", "holds", "more"] ["self", "end", "holds"] T.d_Works_count_on (by decide +kernel) (fun vs H Q E ⟨_, e, _⟩ => by rw [e]; rfl) (fun _ _ _ _ _ _ us h => by match us, h with | [_, _, _], _ => rfl) ?_) T.c_Works T.m_Works_count_on
  rintro cdv A outer s H vs Q E hr ⟨⟨n, W, M, βi, ν, q, r, h⟩, rfl, ⟨hW, ok, hν, hrm, hq, h3⟩, hQ⟩
  have nd : (["self", "end", "holds", "more"] : List Str).Nodup := by decide +kernel
  refine ⟨_, 
    (pss_cons (ps_set (i := 3) nd rfl (Or.inl rfl) (pe_callB (call_min2 rfl) (by rfl) T.f_min (by decide +kernel) (pa_cons (pe_op op_add (pe_dget (hu_of hr) (pe_fldT T (pv 0)) (pe_fldT T (pv 1)) (fun _ _ => rfl)) pe_int) (pa_cons (pe_fldT T (pv 1)) pa_nil)))) 
    (pss_cons (ps_if (pt_val (pe_callB call_isi (by rfl) T.f_isinstance (by decide +kernel) (pa_cons (pv 1) (pa_cons (pe_globR (by rfl) T.g_Timer) pa_nil)))) 
    (pss_cons (ps_dput (hu_of hr) (pe_fldT T (pv 0)) (pe_fldT T (pv 1)) (pe_ifExp (pt_val (pv 2)) (pv 3) pe_int) rfl) pss_nil) 
    (pss_cons (ps_if (PW.pt (pw_and (pt_val (pv 2)) (pw_and1 (pt_not (pt_val (pe_dget (hu_of hr) (pe_fldT T (pv 0)) (pe_fldT T (pv 1)) (fun _ _ => rfl))))))) 
    (pss_cons (ps_dput (hu_of hr) (pe_fldT T (pv 0)) (pe_fldT T (pv 1)) (pv 3) rfl) pss_nil) pss_nil) 
    (pss_cons (ps_dput (hu_of hr) (pe_fldT T (pv 0)) (pe_fldT T (pv 1)) (pv 2) rfl) pss_nil))) 
    (pss_cons (ps_dput (hu_of hr) (pe_fldT T (pv 0)) (pe_fldT T (pv 1)) (pe_cmpR op_eq (pe_dget (hu_of hr) (pe_fldT T (pv 0)) (pe_fldT T (pv 1)) (fun _ _ => rfl)) (pe_fldT T (pv 1)) (nomark _)) rfl) pss_nil))), SS.here ?_⟩
  have hW : WRaw K H n W M (fun x => .bl (img M βi ν x)) (fun x => .int (ν x % 16)) (fun x => .bl (decide (ν x / 16 = 1))) := hW
  have ok : LdrOk M := ok
  have hν : NuOk M.rungs ν := hν
  have hrm : r ∈ M.rungs := hrm
  have hq : EndAt K H q r.2 := hq
  have h3 : 3 ≤ r.2.kind := h3
  have ek := ok.ends r hrm
  have hk5 := ek.k
  have hc := own_count ok.own hrm h3
  have hmc : r.2.name ∈ cnames M.rungs := mem_cnames.mpr (by rw [hc]; rfl)
  have hmn : r.2.name ∈ M.names := names_of_rung hrm
  have hmb : r.2.name ∈ M.ins ++ M.names := List.mem_append_right _ hmn
  obtain ⟨fla, fb, fc, fs⟩ := hW.fl T
  have fn := hq.name T
  have fm := hq.most T h3
  have hfit : Fit M.rungs r.2.name (ν r.2.name) := hν _
  unfold Fit at hfit
  rw [hc] at hfit
  have hfit : 0 ≤ ν r.2.name ∧ ν r.2.name % 16 ≤ r.2.most ∧ ν r.2.name < (if r.2.kind = 4 then 32 else 16) := hfit
  have m9 := ek.m9
  have m1 := ek.m1
  have cl : (cnames M.rungs).length ≤ 1000 := by
    unfold cnames
    have h1 := namesOf_len (M.rungs.filter fun r => decide (3 ≤ r.2.kind))
    have h2 := List.length_filter_le (fun r : RungV => decide (3 ≤ r.2.kind)) M.rungs
    have := hW.lad.len.1
    omega
  have zl : (znames M.rungs).length ≤ 1000 := by
    unfold znames
    have h1 := namesOf_len (M.rungs.filter fun r => decide (r.2.kind = 4))
    have h2 := List.length_filter_le (fun r : RungV => decide (r.2.kind = 4)) M.rungs
    have := hW.lad.len.1
    omega
  have bl : (M.ins ++ M.names).length ≤ 2000 := by
    rw [List.length_append]
    have h1 : M.names.length ≤ M.rungs.length := namesOf_len M.rungs
    have := hW.lad.len
    omega
  -- the last statement
  have fin : ∀ (H1 : Hp) (fc' : Str → V) (fz' : Str → V) (o : Option V) (c : Int) (tz : TS), WRaw K H1 n W M (fun x => .bl (img M βi ν x)) fc' fz' → Mo W.dd H H1 → EndAt K H1 q r.2 → fc' r.2.name = .int c → actN r.2 h (ν r.2.name) % 16 = c → (∀ x ∈ cnames M.rungs, x ≠ r.2.name → fc' x = .int (ν x % 16)) → (∀ x ∈ znames M.rungs, fz' x = .bl (decide ((act r.2 h ν) x / 16 = 1))) →
      SS (tSeq (sDPut (tFld K (tVar 0) "bits") (tFld K (tVar 1) "name") (tOp rEq (tDGet (tFld K (tVar 0) "counts") (tFld K (tVar 1) "name")) (tFld K (tVar 1) "most"))) tNext) { nx := fun _ H' => Q .non H', rt := Q } [some (.ref W.a), some (.ref q), some (.bl h), o] H1 := by
    intro H1 fc' fz' o c tz hW1 mo hq1 hc1 hact hcc hzz
    obtain ⟨fla, fb, fc, fs⟩ := hW1.fl T
    have fn := hq1.name T
    have fm := hq1.most T h3
    refine ss_dput (kk := .inr r.2.name) (v := .bl (decide (V.int c = V.int r.2.most))) (ev_op (ev_dget (ev_fld (ev_var rfl) fc) (ev_fld (ev_var rfl) fn) (by rw [← hc1]; exact dget_tab hW1.cnt hmc)) (ev_fld (ev_var rfl) fm) (rv_eq rfl)) (ev_fld (ev_var rfl) fb) (ev_fld (ev_var rfl) fn) hW1.bits (by rw [tab_len]; omega) (ss_end fun H2 e2 => hQ .non H2 ((mo.put (by simp)).trans (.of e2)) ?_)
    refine ((hW1.putB (v := .bl (decide (V.int c = V.int r.2.most))) hmb).ex e2).fin (fun x hx => ?_) (fun x hx => ?_) hzz
    · by_cases e : x = r.2.name
      · rw [if_pos e, e]
        show _ = V.bl (img M βi (act r.2 h ν) r.2.name)
        rw [img_name ok hrm]
        unfold bit
        rw [hc]
        show _ = V.bl (decide (act r.2 h ν r.2.name % 16 = r.2.most))
        unfold act
        rw [setN_same, hact]
        simp only [V.int.injEq]
      · rw [if_neg e]
        show _ = V.bl (img M βi (act r.2 h ν) x)
        rw [img_ne e]
    · by_cases e : x = r.2.name
      · show _ = V.int (act r.2 h ν x % 16)
        rw [e, hc1]
        unfold act
        rw [setN_same, hact]
      · show _ = V.int (act r.2 h ν x % 16)
        unfold act
        rw [hcc x hx e, setN_ne e]
  refine ss_asg (v := .int (if r.2.most < ν r.2.name % 16 + 1 then r.2.most else ν r.2.name % 16 + 1)) (ev_cb (ea_cons (ev_op (ev_dget (ev_fld (ev_var rfl) fc) (ev_fld (ev_var rfl) fn) (dget_tab hW.cnt hmc)) ev_c rv_I0) (ea_cons (ev_fld (ev_var rfl) fm) ea_nil)) fun H1 e1 Q q => ⟨_, _, rfl, q H1 (.refl _)⟩) ?_
  refine ss_if (et_B (ev_cb (ea_cons (ev_var rfl) (ea_cons ev_c ea_nil)) (rc_end T hq 3 (by decide)))) (fun hb => ?_) fun hb => ?_
  · have k3 : r.2.kind = 3 := by unfold isK at hb; simpa using hb
    rw [if_neg (by omega)] at hfit
    refine ss_dput (kk := .inr r.2.name) (v := .int (actN r.2 h (ν r.2.name) % 16)) ?_ (ev_fld (ev_var rfl) fc) (ev_fld (ev_var rfl) fn) hW.cnt (by rw [tab_len]; show (cnames M.rungs).length < 100000; omega) (ss_end fun H2 e2 => (fin H2 _ _ _ _ tNext ((hW.putC hmc).ex e2) ((Mo.put (.of (.refl _)) (by simp)).trans (.of e2)) (hq.im (((Ip.refl _).put hW.cnt rfl).ex e2)) (if_pos rfl) rfl (fun x hx e => if_neg e) fun x hx => ?_).here)
    · have e1 : actN r.2 h (ν r.2.name) = if h then min (ν r.2.name + 1) r.2.most else 0 := by
        unfold actN
        rw [if_neg (by omega), if_neg (by omega), if_neg (by omega), if_pos k3]
      cases h with
      | true =>
        refine ev_is (ev_if (et_B (ev_var rfl)) (fun _ => ev_var rfl) (fun z => nomatch z)) ?_
        rw [e1, if_pos rfl]
        split <;> congr 1 <;> omega
      | false =>
        refine ev_is (ev_if (et_B (ev_var rfl)) (fun z => nomatch z) (fun _ => ev_c)) ?_
        rw [e1]
        rfl
    · obtain ⟨e, he, h4⟩ := (mem_znames ok.own).mp hx
      have : x ≠ r.2.name := fun z => by
        rw [z, hc] at he
        cases he
        omega
      unfold act
      rw [setN_ne this]
  · have k4 : r.2.kind = 4 := by
      have : r.2.kind ≠ 3 := fun z => by unfold isK at hb; rw [z] at hb; cases hb
      omega
    rw [if_pos k4] at hfit
    have hmz : r.2.name ∈ znames M.rungs := (mem_znames ok.own).mpr ⟨_, hc, k4⟩
    have e1 : actN r.2 h (ν r.2.name) = (if h && decide (ν r.2.name / 16 = 0) then min (ν r.2.name % 16 + 1) r.2.most else ν r.2.name % 16) + 16 * b2n h := by
      unfold actN
      rw [if_neg (by omega), if_neg (by omega), if_neg (by omega), if_neg (by omega)]
    have hdiv : ν r.2.name / 16 = 0 ∨ ν r.2.name / 16 = 1 := by omega
    -- seen, then the last
    have seen : ∀ (H1 : Hp) (fc' : Str → V) (o : Option V) (c : Int), WRaw K H1 n W M (fun x => .bl (img M βi ν x)) fc' (fun x => .bl (decide (ν x / 16 = 1))) → Mo W.dd H H1 → EndAt K H1 q r.2 → fc' r.2.name = .int c → actN r.2 h (ν r.2.name) % 16 = c → (∀ x ∈ cnames M.rungs, x ≠ r.2.name → fc' x = .int (ν x % 16)) →
        SS (tSeq (sDPut (tFld K (tVar 0) "seen") (tFld K (tVar 1) "name") (tVar 2)) tNext) { nx := (tSeq (sDPut (tFld K (tVar 0) "bits") (tFld K (tVar 1) "name") (tOp rEq (tDGet (tFld K (tVar 0) "counts") (tFld K (tVar 1) "name")) (tFld K (tVar 1) "most"))) tNext) { nx := fun _ H' => Q .non H', rt := Q }, rt := Q } [some (.ref W.a), some (.ref q), some (.bl h), o] H1 := by
      intro H1 fc' o c hW1 mo hq1 hc1 hact hcc
      obtain ⟨fla, fb, fc, fs⟩ := hW1.fl T
      have fn := hq1.name T
      refine ss_dput (kk := .inr r.2.name) (v := .bl h) (ev_var rfl) (ev_fld (ev_var rfl) fs) (ev_fld (ev_var rfl) fn) hW1.seen (by rw [tab_len]; omega) (ss_end fun H2 e2 => (fin H2 _ _ _ _ tNext ((hW1.putS hmz).ex e2) ((mo.put (by simp)).trans (.of e2)) (hq1.im (((Ip.refl _).put hW1.seen rfl).ex e2)) hc1 hact hcc fun x hx => ?_).here)
      by_cases e : x = r.2.name
      · rw [if_pos e, e]
        unfold act
        rw [setN_same, e1]
        have : ∀ (n : Int), 0 ≤ n → n < 16 → decide ((n + 16 * b2n h) / 16 = 1) = h := fun n a b => by
          cases h with
          | true => exact decide_eq_true (by show (n + 16 * 1) / 16 = 1; omega)
          | false => exact decide_eq_false (by show ¬ (n + 16 * 0) / 16 = 1; omega)
        rw [this _ (by split <;> omega) (by split <;> omega)]
      · rw [if_neg e]
        unfold act
        rw [setN_ne e]
    refine ss_when (b := h && !(decide (ν r.2.name / 16 = 1))) (et_and (et_B (ev_var rfl)) fun _ => et_not (et_B (ev_dget (ev_fld (ev_var rfl) fs) (ev_fld (ev_var rfl) fn) (dget_tab hW.seen hmz)))) (fun hb2 => ?_) fun hb2 => ?_
    · obtain ⟨rfl, h2⟩ := Bool.and_eq_true_iff.mp hb2
      have hz : ν r.2.name / 16 = 0 := by
        have : ¬ ν r.2.name / 16 = 1 := by simpa using h2
        omega
      refine ss_dput (kk := .inr r.2.name) (ev_var rfl) (ev_fld (ev_var rfl) fc) (ev_fld (ev_var rfl) fn) hW.cnt (by rw [tab_len]; show (cnames M.rungs).length < 100000; omega) (ss_end fun H2 e2 => (seen H2 _ _ _ ((hW.putC hmc).ex e2) ((Mo.put (.of (.refl _)) (by simp)).trans (.of e2)) (hq.im (((Ip.refl _).put hW.cnt rfl).ex e2)) (if_pos rfl) ?_ fun x hx e => if_neg e).here)
      rw [e1, hz]
      show (min _ _ + 16 * 1) % 16 = _
      split <;> omega
    · refine seen H _ _ _ hW (.of (.refl _)) hq rfl ?_ fun x hx e => rfl
      rw [e1]
      cases h with
      | true =>
        have : ν r.2.name / 16 = 1 := by
          have : ¬ (!decide (ν r.2.name / 16 = 1)) = true := by simpa using hb2
          simpa using this
        rw [this]
        show (_ % 16 + 16 * 1) % 16 = _
        omega
      | false =>
        show (_ % 16 + 16 * 0) % 16 = _
        omega
end
end RgK
set_option Elab.async false
set_option linter.all false
set_option maxRecDepth 100000
set_option maxHeartbeats 4000000

/-! Works: act, scan, answers. -/
namespace RgK
open PySem PySem.Spec PyProof.Rows L2 Evl
local macro_rules | `(tactic| walk_at "ev") => `(tactic| repeat' (first
  | with_reducible exact ev_c
  | with_reducible exact ea_nil
  | ((with_reducible apply ev_var); first | rfl | assumption)
  | with_reducible apply ea_cons
  | with_reducible apply ev_fld
  | ((with_reducible show Fld _ _ _ _ _); assumption)
  | with_reducible exact rv_I0
  | with_reducible exact ru_neg
  | with_reducible exact rv_eq rfl
  | with_reducible exact rv_ne rfl
  | ((with_reducible apply rv_I); first | decide | omega | assumption)
  | ((with_reducible show _ = _ → EvT _ _ _ _); intro _)
  | ((with_reducible show _ = _ → Ev _ _ _ _); intro _)
  | with_reducible apply et_and
  | with_reducible apply et_or
  | with_reducible apply ev_andV
  | with_reducible apply ev_orV
  | with_reducible apply et_test
  | with_reducible apply et_B
  | with_reducible apply et_not
  | with_reducible apply ev_notV
  | with_reducible apply ev_un
  | with_reducible apply ev_op))

theorem act_id {e : EndV} {h : Bool} {ν : Nu} (z : actN e h (ν e.name) = ν e.name) : act e h ν = ν := by
  funext x
  unfold act
  by_cases q : x = e.name
  · rw [q, setN_same, z]
  · rw [setN_ne q]
theorem WRaw.dicts {K : PySem.W.Frag} {H : Hp} {n : Nat} {W : WA} {M : Ldr} {fb fc fz : Str → V} (h : WRaw K H n W M fb fc fz) : ∀ d ∈ W.dd, ∀ o, H d = some o → NotD o = false := fun d hd o e => by
  rcases List.mem_cons.mp hd with rfl | hd
  · rw [h.bits] at e; cases e; rfl
  · rcases List.mem_cons.mp hd with rfl | hd
    · rw [h.cnt] at e; cases e; rfl
    · obtain rfl := List.mem_singleton.mp hd
      rw [h.seen] at e; cases e; rfl
theorem WRaw.lst {K : PySem.W.Frag} {H : Hp} {n : Nat} {W : WA} {M : Ldr} {fb fc fz : Str → V} (h : WRaw K H n W M fb fc fz) {l : Addr} {xs ys : List V} (hl : H l = some (.lst xs)) : WRaw K (upd H l (.lst ys)) n W M fb fc fz :=
  ⟨(h.put hl rfl).1, (h.put hl rfl).2, by rw [upd_ne (fun z => by rw [← z, h.bits] at hl; cases hl)]; exact h.bits, by rw [upd_ne (fun z => by rw [← z, h.cnt] at hl; cases hl)]; exact h.cnt, by rw [upd_ne (fun z => by rw [← z, h.seen] at hl; cases hl)]; exact h.seen, h.n1, h.n2, h.n3⟩
theorem WRaw.lens {K : PySem.W.Frag} {H : Hp} {n : Nat} {W : WA} {M : Ldr} {fb fc fz : Str → V} (h : WRaw K H n W M fb fc fz) : (M.ins ++ M.names).length < 100000 ∧ (cnames M.rungs).length < 100000 ∧ (znames M.rungs).length < 100000 := by
  have := h.lad.len
  have q1 : M.names.length ≤ M.rungs.length := namesOf_len M.rungs
  have q2 : (cnames M.rungs).length ≤ (M.rungs.filter fun r => decide (3 ≤ r.2.kind)).length := namesOf_len _
  have q3 : (znames M.rungs).length ≤ (M.rungs.filter fun r => decide (r.2.kind = 4)).length := namesOf_len _
  have q4 := List.length_filter_le (fun r : RungV => decide (3 ≤ r.2.kind)) M.rungs
  have q5 := List.length_filter_le (fun r : RungV => decide (r.2.kind = 4)) M.rungs
  rw [List.length_append]
  omega
/-- the truths of a row by the inputs' names -/
def rowF (ins : List Str) (βs : List Bool) (x : Str) : Bool := ((ins.zip βs).lookup x).getD false
theorem rowF_at : ∀ {ins : List Str} {βs : List Bool} {i : Nat} {x : Str} {b : Bool}, ins.Nodup → ins[i]? = some x → βs[i]? = some b → rowF ins βs x = b
  | [], _, _, _, _, _, h, _ => by simp at h
  | _ :: _, [], _, _, _, _, _, h => by simp at h
  | y :: ins, c :: βs, 0, x, b, nd, h1, h2 => by
    simp at h1 h2
    subst h1 h2
    simp [rowF, List.lookup]
  | y :: ins, c :: βs, i + 1, x, b, nd, h1, h2 => by
    obtain ⟨n1, n2⟩ := List.nodup_cons.mp nd
    simp at h1 h2
    have hne : (x == y) = false := by
      rw [beq_eq_false_iff_ne]
      intro e
      exact n1 (by rw [← e]; exact List.mem_of_getElem? h1)
    have := rowF_at n2 h1 h2
    unfold rowF at this ⊢
    rw [List.zip_cons_cons, List.lookup, hne]
    exact this
section
variable {w : World} {K : PySem.W.Frag} {mg : Mg} {base : Heap} {k : Nat}
theorem m_act (T : Tx w K mg base) : Met PG w K mg base 2 (He.ga K "Works") "act" (spAct K fun _ => True) := by
  refine met_of (fnd ["self", "end", "holds"] ["self", "end", "holds"] T.d_Works_act (by decide +kernel) (fun vs H Q E ⟨_, e, _⟩ => by rw [e]; rfl) (fun _ _ _ _ _ _ us h => by match us, h with | [_, _, _], _ => rfl) ?_) T.c_Works T.m_Works_act
  rintro cdv A outer s H vs Q E hr ⟨⟨n, W, M, βi, ν, q, r, h⟩, rfl, ⟨hW, ok, hν, hrm, hq, -⟩, hQ⟩
  have nd : (["self", "end", "holds"] : List Str).Nodup := by decide +kernel
  refine ⟨_, 
    (pss_cons (ps_if (pt_val (pe_callB call_isi (by rfl) T.f_isinstance (by decide +kernel) (pa_cons (pv 1) (pa_cons (pe_globR (by rfl) T.g_Coil) pa_nil)))) 
    (pss_cons (ps_dput (hu_of hr) (pe_fldT T (pv 0)) (pe_fldT T (pv 1)) (pv 2) rfl) pss_nil) 
    (pss_cons (ps_if (pt_val (pe_callB call_isiT (by rfl) T.f_isinstance (by decide +kernel) (pa_cons (pv 1) (pa_cons (pe_tup (pa_cons (pe_globR (by rfl) T.g_Timer) (pa_cons (pe_globR (by rfl) T.g_Counter) pa_nil))) pa_nil)))) 
    (pss_cons (ps_expr (pe_me T hr pass0 (pv 0) (pa_cons (pv 1) (pa_cons (pv 2) pa_nil)))) pss_nil) 
    (pss_cons (ps_if (pt_val (pv 2)) 
    (pss_cons (ps_dput (hu_of hr) (pe_fldT T (pv 0)) (pe_fldT T (pv 1)) (pe_callB call_isi (by rfl) T.f_isinstance (by decide +kernel) (pa_cons (pv 1) (pa_cons (pe_globR (by rfl) T.g_Latch) pa_nil))) rfl) 
    (pss_cons (ps_if (PW.pt (pw_and (pt_val (pe_callB call_isi (by rfl) T.f_isinstance (by decide +kernel) (pa_cons (pv 1) (pa_cons (pe_globR (by rfl) T.g_Unlatch) pa_nil)))) (pw_and1 (pt_cmp (pc_din (hu_of hr) (pe_fldT T (pv 1)) (pe_fldT T (pv 0))) (by with_unfolding_all rfl))))) 
    (pss_cons (ps_dput (hu_of hr) (pe_fldT T (pv 0)) (pe_fldT T (pv 1)) pe_int rfl) pss_nil) pss_nil) pss_nil)) pss_nil) pss_nil)) pss_nil)) pss_nil), SS.here ?_⟩
  have hW : WRaw K H n W M (fun x => .bl (img M βi ν x)) (fun x => .int (ν x % 16)) (fun x => .bl (decide (ν x / 16 = 1))) := hW
  have ok : LdrOk M := ok
  have hν : NuOk M.rungs ν := hν
  have hrm : r ∈ M.rungs := hrm
  have hq : EndAt K H q r.2 := hq
  have ek := ok.ends r hrm
  have hk5 := ek.k
  have hmn : r.2.name ∈ M.names := names_of_rung hrm
  have hmb : r.2.name ∈ M.ins ++ M.names := List.mem_append_right _ hmn
  obtain ⟨fla, fb, fc, fs⟩ := hW.fl T
  obtain ⟨bl, cl, zl⟩ := hW.lens
  have fn := hq.name T
  refine ss_if (et_B (ev_cb (ea_cons (ev_var rfl) (ea_cons ev_c ea_nil)) (rc_end T hq 0 (by decide)))) (fun hb => ?_) fun hb0 => ?_
  · have k0 : r.2.kind = 0 := by unfold isK at hb; simpa using hb
    have hc := own_relay ok.own hrm (by omega)
    have ha : actN r.2 h (ν r.2.name) = b2n h := by unfold actN; rw [if_pos k0]
    refine ss_dput (kk := .inr r.2.name) (ev_var rfl) (ev_fld (ev_var rfl) fb) (ev_fld (ev_var rfl) fn) hW.bits (by rw [tab_len]; exact bl) (ss_end fun H1 e1 => ss_end (fun H2 e2 => hQ .non H2 (((Mo.of (.refl _)).put (by simp)).trans (.of (e1.trans e2))) ?_) H1 (.refl _))
    refine ((hW.putB (v := .bl h) hmb).ex (e1.trans e2)).fin (fun x hx => ?_) (fun x hx => ?_) fun x hx => ?_
    · by_cases e : x = r.2.name
      · rw [if_pos e, e]
        show _ = V.bl (img M βi (act r.2 h ν) r.2.name)
        rw [img_name ok hrm]
        unfold bit
        rw [hc]
        show _ = V.bl (decide (act r.2 h ν r.2.name = 1))
        unfold act
        rw [setN_same, ha]
        cases h <;> rfl
      · rw [if_neg e]
        show _ = V.bl (img M βi (act r.2 h ν) x)
        rw [img_ne e]
    · have : x ≠ r.2.name := fun z => by have := mem_cnames.mp hx; rw [z, hc] at this; cases this
      show _ = V.int (act r.2 h ν x % 16)
      unfold act
      rw [setN_ne this]
    · obtain ⟨e, he, _⟩ := (mem_znames ok.own).mp hx
      have : x ≠ r.2.name := fun z => by rw [z, hc] at he; cases he
      show _ = V.bl (decide (act r.2 h ν x / 16 = 1))
      unfold act
      rw [setN_ne this]
  refine ss_if (b := isK r.2.kind 3 || isK r.2.kind 4) (et_B (ev_endT T (ev_var rfl) hq 3 4 (by decide) (by decide))) (fun hb => ?_) fun hb => ?_
  · have k3 : 3 ≤ r.2.kind := by
      unfold isK at hb
      rcases Bool.or_eq_true_iff.mp hb with z | z
      · have : 3 = r.2.kind ∨ r.2.kind = 3 := by simpa [eq_comm] using z
        omega
      · have : 4 = r.2.kind ∨ r.2.kind = 4 := by simpa [eq_comm] using z
        omega
    obtain ⟨dx, hobj⟩ := hW.obj
    exact ss_meS (P := fun H1 H2 => Mo W.dd H1 H2 ∧ WorksAt K H2 n W M βi (act r.2 h ν)) (ev_var rfl) hobj (by rfl) (m_count_on T) (ea_cons (ev_var rfl) (ea_cons (ev_var rfl) ea_nil)) (fun H1 e1 Q' q' => ⟨⟨n, W, M, βi, ν, q, r, h⟩, rfl, ⟨hW.ex e1, ok, hν, hrm, hq.im (.of e1), k3⟩, fun v H2 m w => q' v H2 ⟨m, w⟩⟩) fun H1 H2 e1 ⟨m, w⟩ => ss_end fun H3 e3 => (ss_end (H := H3) fun H4 e4 => (ss_end (H := H4) fun H5 e5 => hQ .non H5 ((Mo.of e1).trans (m.trans (.of (e3.trans (e4.trans e5))))) (WRaw.ex w (e3.trans (e4.trans e5)))) H4 (.refl _)) H3 (.refl _)
  have k12 : r.2.kind = 1 ∨ r.2.kind = 2 := by
    unfold isK at hb hb0
    have h0 : ¬ r.2.kind = 0 := by simpa using hb0
    have : (¬ r.2.kind = 3) ∧ ¬ r.2.kind = 4 := by simpa using hb
    omega
  have e2 : actN r.2 h (ν r.2.name) = if h = true then (if r.2.kind = 1 then 1 else ν r.2.name - ν r.2.name % 16) else ν r.2.name := by
    unfold actN
    rw [if_neg (by omega : ¬ r.2.kind = 0)]
    rcases k12 with z | z
    · rw [if_pos z, if_pos z]
    · rw [if_neg (by omega : ¬ r.2.kind = 1), if_pos z, if_neg (by omega : ¬ r.2.kind = 1)]
  have done : ∀ (H1 : Hp), Mo W.dd H H1 → WorksAt K H1 n W M βi (act r.2 h ν) → ∀ H2, Ex H1 H2 → Q .non H2 := fun H1 m w H2 e => hQ .non H2 (m.trans (.of e)) (WRaw.ex w e)
  have hid : h = false → act r.2 h ν = ν := fun hh => by
    subst hh
    exact act_id (by rw [e2]; rfl)
  refine ss_when (et_B (ev_var rfl)) (fun hh => ?_) fun hh => ss_end fun H1 e1 => (ss_end (H := H1) fun H2 e2' => done H (.of (.refl _)) (by rw [hid hh]; exact hW) H2 (e1.trans e2')) H1 (.refl _)
  have hh : h = true := hh
  subst hh
  rw [if_pos rfl] at e2
  refine ss_dput (kk := .inr r.2.name) (ev_cb (ea_cons (ev_var rfl) (ea_cons ev_c ea_nil)) (rc_end T hq 1 (by decide))) (ev_fld (ev_var rfl) fb) (ev_fld (ev_var rfl) fn) hW.bits (by rw [tab_len]; exact bl) ?_
  have hW1 := hW.putB (v := .bl (isK r.2.kind 1)) hmb
  have hq1 : EndAt K (upd H W.db (.dK (putK (tab (M.ins ++ M.names) fun x => .bl (img M βi ν x)) (.inr r.2.name) (.bl (isK r.2.kind 1))))) q r.2 := hq.im ((Ip.refl _).put hW.bits rfl)
  have mo1 : Mo W.dd H (upd H W.db (.dK (putK (tab (M.ins ++ M.names) fun x => .bl (img M βi ν x)) (.inr r.2.name) (.bl (isK r.2.kind 1))))) := (Mo.of (.refl _)).put (by simp)
  revert hW1 hq1 mo1
  generalize upd H W.db (.dK (putK (tab (M.ins ++ M.names) fun x => .bl (img M βi ν x)) (.inr r.2.name) (.bl (isK r.2.kind 1)))) = B
  intro hW1 hq1 mo1
  obtain ⟨_, _, fc1, _⟩ := hW1.fl T
  have fn1 := hq1.name T
  refine ss_when (b := isK r.2.kind 2 && (if r.2.name ∈ cnames M.rungs then some (V.int (ν r.2.name % 16)) else none).isSome) (et_and (et_B (ev_cb (ea_cons (ev_var rfl) (ea_cons ev_c ea_nil)) (rc_end T hq1 2 (by decide)))) fun _ => et_B (ev_din (ev_fld (ev_var rfl) fn1) (ev_fld (ev_var rfl) fc1) (dget_tabO hW1.cnt))) (fun hb2 => ?_) fun hb2 => ?_
  · obtain ⟨h2, hmem⟩ := Bool.and_eq_true_iff.mp hb2
    have k2 : r.2.kind = 2 := by unfold isK at h2; simpa using h2
    have hmc : r.2.name ∈ cnames M.rungs := by
      by_cases z : r.2.name ∈ cnames M.rungs
      · exact z
      · rw [if_neg z] at hmem; cases hmem
    rw [if_neg (by omega)] at e2
    obtain ⟨e, he⟩ := Option.isSome_iff_exists.mp (mem_cnames.mp hmc)
    obtain ⟨ek3, _, r', hr', er'⟩ := cEnd_some he
    have em1 : 1 ≤ e.most := by rw [← er']; exact (ok.ends r' hr').m1
    refine ss_dput (kk := .inr r.2.name) (v := .int 0) ev_c (ev_fld (ev_var rfl) fc1) (ev_fld (ev_var rfl) fn1) hW1.cnt (by rw [tab_len]; exact cl) (ss_end fun H1 e1 => (ss_end (H := H1) fun H2 e2' => (ss_end (H := H2) fun H3 e3 => (ss_end (H := H3) fun H4 e4 => done H4 ((mo1.put (by simp)).trans (.of (e1.trans (e2'.trans (e3.trans e4))))) ?_ H4 (.refl _)) H3 (.refl _)) H2 (.refl _)) H1 (.refl _))
    refine ((hW1.putC (v := .int 0) hmc).ex (e1.trans (e2'.trans (e3.trans e4)))).fin (fun x hx => ?_) (fun x hx => ?_) fun x hx => ?_
    · show (if x = r.2.name then _ else _) = V.bl (img M βi (act r.2 true ν) x)
      by_cases z : x = r.2.name
      · rw [if_pos z, z, img_name ok hrm]
        unfold bit
        rw [he]
        show _ = V.bl (decide (act r.2 true ν r.2.name % 16 = e.most))
        unfold act
        rw [setN_same, e2, decide_eq_false (by omega), k2]
        rfl
      · rw [if_neg z, img_ne z]
    · show (if x = r.2.name then V.int 0 else _) = V.int (act r.2 true ν x % 16)
      unfold act
      by_cases z : x = r.2.name
      · rw [if_pos z, z, setN_same, e2]
        congr 1
        omega
      · rw [if_neg z, setN_ne z]
    · show _ = V.bl (decide (act r.2 true ν x / 16 = 1))
      unfold act
      by_cases z : x = r.2.name
      · rw [z, setN_same, e2]
        congr 2
        rw [show (ν r.2.name - ν r.2.name % 16) / 16 = ν r.2.name / 16 by omega]
      · rw [setN_ne z]
  · refine ss_end fun H1 e1 => (ss_end (H := H1) fun H2 e2' => (ss_end (H := H2) fun H3 e3 => done H3 (mo1.trans (.of (e1.trans (e2'.trans e3)))) ?_ H3 (.refl _)) H2 (.refl _)) H1 (.refl _)
    have hmc : r.2.kind = 2 → r.2.name ∉ cnames M.rungs := fun k2 z => by
      rw [if_pos z, k2] at hb2
      cases hb2
    have hc : cEnd M.rungs r.2.name = none := by
      rcases k12 with z | z
      · exact own_relay ok.own hrm (by omega)
      · cases q : cEnd M.rungs r.2.name with
        | none => rfl
        | some _ => exact absurd (mem_cnames.mpr (by rw [q]; rfl)) (hmc z)
    have hf : 0 ≤ ν r.2.name ∧ ν r.2.name < 2 := by
      have := hν r.2.name
      unfold Fit at this
      rw [hc] at this
      exact this
    refine (hW1.ex (e1.trans (e2'.trans e3))).fin (fun x hx => ?_) (fun x hx => ?_) fun x hx => ?_
    · show (if x = r.2.name then _ else _) = V.bl (img M βi (act r.2 true ν) x)
      by_cases z : x = r.2.name
      · rw [if_pos z, z, img_name ok hrm]
        unfold bit
        rw [hc]
        show _ = V.bl (decide (act r.2 true ν r.2.name = 1))
        unfold act
        rw [setN_same, e2]
        rcases k12 with q | q
        · rw [if_pos q, q]; rfl
        · rw [if_neg (by omega), decide_eq_false (by omega), q]; rfl
      · rw [if_neg z, img_ne z]
    · have : x ≠ r.2.name := fun z => by have := mem_cnames.mp hx; rw [z, hc] at this; cases this
      show _ = V.int (act r.2 true ν x % 16)
      unfold act
      rw [setN_ne this]
    · obtain ⟨e, he, _⟩ := (mem_znames ok.own).mp hx
      have : x ≠ r.2.name := fun z => by rw [z, hc] at he; cases he
      show _ = V.bl (decide (act r.2 true ν x / 16 = 1))
      unfold act
      rw [setN_ne this]
end
end RgK
set_option Elab.async false
set_option linter.all false
set_option maxRecDepth 100000
set_option maxHeartbeats 4000000

/-! need_row, Works.scan, Works.answers. -/
namespace RgK
open PySem PySem.Spec PyProof.Rows L2 Evl
local macro_rules | `(tactic| walk_at "ev") => `(tactic| repeat' (first
  | with_reducible exact ev_c
  | with_reducible exact ea_nil
  | ((with_reducible apply ev_var); first | rfl | assumption)
  | with_reducible apply ea_cons
  | with_reducible apply ev_fld
  | ((with_reducible show Fld _ _ _ _ _); assumption)
  | with_reducible exact rv_I0
  | with_reducible exact ru_neg
  | with_reducible exact rv_eq rfl
  | with_reducible exact rv_ne rfl
  | ((with_reducible apply rv_I); first | decide | omega | assumption)
  | ((with_reducible show _ = _ → EvT _ _ _ _); intro _)
  | ((with_reducible show _ = _ → Ev _ _ _ _); intro _)
  | with_reducible apply et_and
  | with_reducible apply et_or
  | with_reducible apply ev_andV
  | with_reducible apply ev_orV
  | with_reducible apply et_test
  | with_reducible apply et_B
  | with_reducible apply et_not
  | with_reducible apply ev_notV
  | with_reducible apply ev_un
  | with_reducible apply ev_op))

theorem mo_ex {ds : List Addr} {H H1 H2 : Hp} (m : Mo ds H H1) (e : Ex H1 H2) : Mo ds H H2 := m.trans (.of e)
theorem mo_none {ds : List Addr} {H H' : Hp} {p : Addr} (m : Mo ds H H') (h : H' p = none) (hd : ∀ d ∈ ds, ∃ kvs, H' d = some (.dK kvs)) : H p = none := by
  cases e : H p with
  | none => rfl
  | some o =>
    by_cases z : p ∈ ds
    · obtain ⟨kvs, q⟩ := hd p z
      rw [q] at h
      cases h
    · rw [m p o e z] at h
      cases h
theorem WRaw.there {K : PySem.W.Frag} {H : Hp} {n : Nat} {W : WA} {M : Ldr} {fb fc fz : Str → V} (h : WRaw K H n W M fb fc fz) : ∀ d ∈ W.dd, ∃ kvs, H d = some (.dK kvs) := fun d hd => by
  rcases List.mem_cons.mp hd with rfl | hd
  · exact ⟨_, h.bits⟩
  · rcases List.mem_cons.mp hd with rfl | hd
    · exact ⟨_, h.cnt⟩
    · obtain rfl := List.mem_singleton.mp hd
      exact ⟨_, h.seen⟩
theorem sq_mo {K : PySem.W.Frag} {H H' : Hp} {k : Bool} {a : Addr} {xs : List V} (h : Sq K k H a xs) (i : Im H H') : Sq K k H' a xs := im_s i h
section
variable {w : World} {K : PySem.W.Frag} {mg : Mg} {base : Heap} {k : Nat}
structure SArg where
  n : Nat
  W : WA
  M : Ldr
  βi : Str → Bool
  ν : Nu
  k : Bool
  t : Addr
  βs : List Bool
def spNeedRow (K : PySem.W.Frag) : Sp := spP (ι := SArg) (fun i => [.ref i.W.la, .ref i.t]) (fun i H => LadderAt K H i.n i.W.la i.M ∧ Sq K i.k H i.t (i.βs.map V.bl) ∧ i.βs.length = i.M.ins.length) (fun i _ v _ => v = .non)
theorem c_need_row (T : Tx w K mg base) : Cal PG w K mg base 1 "need_row" (spNeedRow K) := by
  refine cal_of (fnd ["ladder", "row", "truth"] ["ladder", "row"] T.d_need_row (by decide +kernel) (spP_len fun _ => rfl) (fun _ _ _ _ _ _ us h => by match us, h with | [_, _], _ => rfl) ?_) T.g_need_row
  rintro cdv A outer s H vs Q E hr ⟨⟨n, W, M, βi, ν, k, t, βs⟩, rfl, ⟨hL, ht, hl⟩, hQ⟩
  have hL : LadderAt K H n W.la M := hL
  have ht : Sq K k H t (βs.map V.bl) := ht
  have hl : βs.length = M.ins.length := hl
  have nd : (["ladder", "row", "truth"] : List Str).Nodup := by decide +kernel
  refine ⟨_, 
    (pss_cons (ps_if (pt_cmpR op_ne (pe_callB call_len_seq (by rfl) T.f_len (by decide +kernel) (pa_cons (pv 1) pa_nil)) (pe_callB call_len_seq (by rfl) T.f_len (by decide +kernel) (pa_cons (pe_fldT T (pv 0)) pa_nil)) (nomark _)) 
    (pss_cons (ps_raise rfl (takes_of rfl rfl rfl rfl) (pmk_own PySem.F.excBase_ValueError T.e_NoRow.1 T.g_NoRow T.e_NoRow.2.1 (raises_own T.e_NoRow.2.2.1 T.e_NoRow.2.2.2) (by rfl))) pss_nil) pss_nil) 
    (pss_cons (ps_for (passes_of rfl) rfl (pi_seq (pv 1)) (pg_name (i := 2) nd rfl (Or.inl rfl)) 
    (pss_cons (ps_if (pt_not (pt_val (pe_callB call_isi (by rfl) T.f_isinstance (by decide +kernel) (pa_cons (pv 2) (pa_cons (pe_bltnT "bool" (by rfl) T.f_bool (by decide +kernel)) pa_nil))))) 
    (pss_cons (ps_raise rfl (takes_of rfl rfl rfl rfl) (pmk_own PySem.F.excBase_ValueError T.e_NoRow.1 T.g_NoRow T.e_NoRow.2.1 (raises_own T.e_NoRow.2.2.1 T.e_NoRow.2.2.2) (by rfl))) pss_nil) pss_nil) pss_nil)) pss_nil)), SS.here ?_⟩
  obtain ⟨ti, fi, hti⟩ := hL.fi T
  refine ss_when (b := !decide (V.int ((βs.map V.bl).length : Nat) = V.int ((M.ins.map V.str).length : Nat))) (et_test (ev_op (ev_lenS (ev_var rfl) ht) (ev_lenS (k := false) (ev_fld (ev_var rfl) fi) (.of hti)) (rv_ne rfl))) (fun z => ?_) fun _ => ?_
  · rw [List.length_map, List.length_map, hl] at z
    simp at z
  refine ss_forSq (k := k) (ev_var rfl) ht (fun i σ' H' => Ex H H' ∧ ∃ o, σ' = [some (.ref W.la), some (.ref t), o]) (fun H1 e1 => ⟨e1, _, rfl⟩) (fun i σ' H' _ ⟨e, _⟩ => ex_s e ht) ?_ fun σ' H' ⟨e, _⟩ => SS.here (ss_end fun H1 e1 => hQ _ H1 (e.trans e1) rfl)
  rintro i x σ' H' hx ⟨e, o, rfl⟩
  rw [List.getElem?_map] at hx
  obtain ⟨b, _, rfl⟩ := Option.map_eq_some_iff.mp hx
  exact ss_when (b := false) (et_not (et_B (ev_cb (ea_cons (ev_var rfl) (ea_cons ev_c ea_nil)) rc_isiBB))) (fun z => nomatch z) fun _ => ss_end fun H1 e1 => ⟨e.trans e1, _, rfl⟩
def spScan (K : PySem.W.Frag) (n : Nat) : Sp := fun vs H Q _ => ∃ i : SArg, vs = [.ref i.W.a, .ref i.t] ∧ (WorksAt K H (n + 1) i.W i.M i.βi i.ν ∧ LdrOk i.M ∧ NuOk i.M.rungs i.ν ∧ Sq K i.k H i.t (i.βs.map V.bl) ∧ i.βs.length = i.M.ins.length) ∧
  ∀ v H2, Mo i.W.dd H H2 → WorksAt K H2 (n + 1) i.W i.M (rowF i.M.ins i.βs) (scan i.M (rowF i.M.ins i.βs) i.ν).1 → NewT H ((scan i.M (rowF i.M.ins i.βs) i.ν).2.map V.bl) v H2 → Q v H2
theorem m_scan (T : Tx w K mg base) (n : Nat) : Met PG w K mg base (n + 3) (He.ga K "Works") "scan" (spScan K n) := by
  refine met_of (fnd ["self", "row", "name", "truth", "held", "rung", "holds"] ["self", "row"] T.d_Works_scan (by decide +kernel) (fun vs H Q E ⟨_, e, _⟩ => by rw [e]; rfl) (fun _ _ _ _ _ _ us h => by match us, h with | [_, _], _ => rfl) ?_) T.c_Works T.m_Works_scan
  rintro cdv A outer s H vs Q E hr ⟨⟨_, W, M, βi, ν, k, t, βs⟩, rfl, ⟨hW, ok, hν, ht, hl⟩, hQ⟩
  have hW : WRaw K H (n + 1) W M (fun x => .bl (img M βi ν x)) (fun x => .int (ν x % 16)) (fun x => .bl (decide (ν x / 16 = 1))) := hW
  have ok : LdrOk M := ok
  have hν : NuOk M.rungs ν := hν
  have ht : Sq K k H t (βs.map V.bl) := ht
  have hl : βs.length = M.ins.length := hl
  have nd : (["self", "row", "name", "truth", "held", "rung", "holds"] : List Str).Nodup := by decide +kernel
  refine ⟨_, 
    (pss_cons (ps_expr (pe_fn T hr (by rfl) T.g_need_row pass0 T.kp_need_row (pa_cons (pe_fldT T (pv 0)) (pa_cons (pv 1) pa_nil)))) 
    (pss_cons (ps_for (passes_of rfl) rfl (pi_zipK (by rfl) T.f_zip (pa_cons (pe_fldT T (pe_fldT T (pv 0))) (pa_cons (pv 1) pa_nil))) (pg_tup rfl (pgs_cons (pg_name (i := 2) nd rfl (Or.inl rfl)) (pgs_cons (pg_name (i := 3) nd rfl (Or.inl rfl)) pgs_nil))) 
    (pss_cons (ps_dput (hu_of hr) (pe_fldT T (pv 0)) (pv 2) (pv 3) rfl) pss_nil)) 
    (pss_cons (ps_set (i := 4) nd rfl (Or.inl rfl) (pe_lst pa_nil)) 
    (pss_cons (ps_for (passes_of rfl) rfl (pi_seq (pe_fldT T (pe_fldT T (pv 0)))) (pg_name (i := 5) nd rfl (Or.inl rfl)) 
    (pss_cons (ps_set (i := 6) nd rfl (Or.inl rfl) (pe_me T hr pass0 (pe_fldT T (pv 5)) (pa_cons (pe_fldT T (pv 0)) pa_nil))) 
    (pss_cons (ps_expr (pe_me T hr pass0 (pv 0) (pa_cons (pe_fldT T (pv 5)) (pa_cons (pv 6) pa_nil)))) 
    (pss_cons (ps_expr (pe_bm PySem.F.plainAttrs_list PySem.F.slot_list_append PySem.F.type_list_append mt_append (pv 4) (pa_cons (pv 6) pa_nil))) pss_nil)))) 
    (pss_cons (ps_ret (pe_callTy call_tuple_of (by rfl) T.f_tuple (by decide +kernel) (pa_cons (pv 4) pa_nil))) pss_nil))))), SS.here ?_⟩
  have hdic := hW.dicts
  obtain ⟨bl, cl, zl⟩ := hW.lens
  obtain ⟨fla, fb, fc, fs⟩ := hW.fl T
  obtain ⟨ti, fi, hti⟩ := hW.lad.fi T
  have il := hW.lad.len
  refine ss_dropR (R := fun _ _ => True) (er_fnV (ea_cons (ev_fld (ev_var rfl) fla) (ea_cons (ev_var rfl) ea_nil)) ((c_need_row T).mono (by omega)) (spP_r (R' := fun _ _ => True) ⟨n + 1, W, M, βi, ν, k, t, βs⟩ rfl (fun H1 e1 => ⟨hW.lad.im (.of e1), ex_s e1 ht, hl⟩) fun _ _ _ _ _ _ => trivial)) fun _ H0 e0 _ => ?_
  -- the inputs
  refine ss_forZip (k1 := false) (k2 := k) (ea_cons (ev_fld (ev_fld (ev_var rfl) (fla.ex e0)) (fi.ex e0)) (ea_cons (ev_var rfl) ea_nil)) (.of (e0 _ _ hti)) (ex_s e0 ht)
    (fun i σ' H' => (∃ o1 o2 o4 o5 o6, σ' = [some (.ref W.a), some (.ref t), o1, o2, o4, o5, o6]) ∧ Mo W.dd H H' ∧ WRaw K H' (n + 1) W M (fun x => .bl (if x ∈ M.ins.take i then rowF M.ins βs x else img M βi ν x)) (fun x => .int (ν x % 16)) (fun x => .bl (decide (ν x / 16 = 1))))
    (fun H1 e1 => ⟨⟨_, _, _, _, _, rfl⟩, .of (e0.trans e1), (hW.ex (e0.trans e1)).fin (fun x _ => by rw [List.take_zero, if_neg (by simp)]) (fun _ _ => rfl) fun _ _ => rfl⟩)
    (fun i σ' H' ⟨_, m, _⟩ => ⟨.of (m.im hdic _ _ hti rfl), sq_mo ht (m.im hdic)⟩) (fun i σ' H1 H2 ⟨a, m, w⟩ e => ⟨a, m.trans (.of e), w.ex e⟩) ?_ ?_
  · rintro i x y σ' H' hx hy ⟨⟨o1, o2, o4, o5, o6, rfl⟩, m, w⟩
    rw [List.getElem?_map] at hx hy
    obtain ⟨nm, hnm, rfl⟩ := Option.map_eq_some_iff.mp hx
    obtain ⟨b, hb, rfl⟩ := Option.map_eq_some_iff.mp hy
    obtain ⟨_, fb', _, _⟩ := w.fl T
    refine ss_dput (kk := .inr nm) (ev_var rfl) (ev_fld (ev_var rfl) fb') (ev_var rfl) w.bits (by rw [tab_len]; exact bl) (ss_end fun H1 e1 => ⟨⟨_, _, _, _, _, rfl⟩, (m.put (by simp)).trans (.of e1), ((w.putB (v := .bl b) (List.mem_append_left _ (List.mem_of_getElem? hnm))).ex e1).fin (fun z _ => ?_) (fun _ _ => rfl) fun _ _ => rfl⟩)
    rw [take_snoc hnm]
    by_cases e : z = nm
    · rw [if_pos e, e, if_pos (by simp), rowF_at ok.ind hnm hb]
    · rw [if_neg e]
      have : (z ∈ M.ins.take i ++ [nm]) ↔ z ∈ M.ins.take i := by simp [e]
      simp only [this]
  · rintro σ' H' ⟨⟨o1, o2, o4, o5, o6, rfl⟩, m, w⟩
    refine SS.here ?_
    have w : WorksAt K H' (n + 1) W M (rowF M.ins βs) ν := w.fin (fun x _ => by
      rw [List.length_map, List.length_map, hl, Nat.min_self, List.take_length]
      unfold img
      by_cases h : x ∈ M.ins
      · rw [if_pos h, if_pos h]
      · rw [if_neg h, if_neg h, if_neg h]) (fun _ _ => rfl) fun _ _ => rfl
    have w' : WRaw K H' (n + 1) W M (fun x => .bl (img M (rowF M.ins βs) ν x)) (fun x => .int (ν x % 16)) (fun x => .bl (decide (ν x / 16 = 1))) := w
    refine ss_asgR (er_lstV ea_nil (by decide)) fun v H1 e1 ⟨l, ev, hl0, hl1⟩ => ?_
    subst ev
    obtain ⟨fla, fb, fc, fs⟩ := (w'.ex e1).fl T
    obtain ⟨tr, rs, fr, htr, hrs⟩ := (w'.ex e1).lad.fr T
    have m1 : Mo W.dd H H1 := m.trans (.of e1)
    have hfr : H l = none := mo_none m hl0 w'.there
    refine ss_forSq (k := false) (ev_fld (ev_fld (ev_var rfl) fla) fr) (.of htr) (fun i σ' F => (∃ o1 o2 o5 o6, σ' = [some (.ref W.a), some (.ref t), o1, o2, some (.ref l), o5, o6]) ∧ Mo W.dd H F ∧ (∀ a o, H1 a = some o → a ∉ W.dd → a ≠ l → F a = some o) ∧ F l = some (.lst ((scanL M (rowF M.ins βs) (M.rungs.take i) ν).2.map V.bl)) ∧ WorksAt K F (n + 1) W M (rowF M.ins βs) (scanL M (rowF M.ins βs) (M.rungs.take i) ν).1)
      (fun H2 e2 => ⟨⟨_, _, _, _, rfl⟩, m1.trans (.of e2), fun a o h _ _ => e2 _ _ h, e2 _ _ hl1, (w'.ex (e1.trans e2))⟩) (fun i σ' F _ ⟨_, _, g, _⟩ => .of (g _ _ htr (fun z => ?_) fun z => ?_)) ?_ ?_
    · have := (w'.ex e1).dicts _ z _ htr
      cases this
    · rw [z, hl1] at htr; cases htr
    · rintro i x σ' F hx ⟨⟨o1, o2, o5, o6, rfl⟩, mF, gF, lF, wF⟩
      obtain ⟨ra, r, rfl, hri, hra⟩ := paired_at hrs hx
      have hrm : r ∈ M.rungs := List.mem_of_getElem? hri
      have hnl : ∀ a o, isIT o = true → H1 a = some o → a ∉ W.dd ∧ a ≠ l := fun a o h e => ⟨(fun z => by
        obtain ⟨kvs, q⟩ := (w'.ex e1).there a z
        rw [q] at e
        cases e
        cases h), (fun z => by rw [z, hl1] at e; cases e; cases h)⟩
      have ipF : Ip H1 F := fun a o h it => gF a o h (hnl a o it h).1 (hnl a o it h).2
      have wF' : WRaw K F (n + 1) W M (fun x => .bl (img M (rowF M.ins βs) (scanL M (rowF M.ins βs) (M.rungs.take i) ν).1 x)) (fun x => .int ((scanL M (rowF M.ins βs) (M.rungs.take i) ν).1 x % 16)) (fun x => .bl (decide ((scanL M (rowF M.ins βs) (M.rungs.take i) ν).1 x / 16 = 1))) := wF
      have νok : NuOk M.rungs (scanL M (rowF M.ins βs) (M.rungs.take i) ν).1 := scanL_ok ok.own (fun q hq => ⟨List.mem_of_mem_take hq, ok.ends q (List.mem_of_mem_take hq)⟩) hν
      obtain ⟨p, fp, hp⟩ := (hra.im ipF).part T
      obtain ⟨q, fq, hq⟩ := (hra.im ipF).end_ T
      obtain ⟨fla, fb, fc, fs⟩ := wF'.fl T
      refine ss_asg (v := .bl (r.1.h (img M (rowF M.ins βs) (scanL M (rowF M.ins βs) (M.rungs.take i) ν).1))) ((er_partA T (by decide +kernel) (ev_fld (ev_var rfl) fp) hp (fun c hc => m_holds T n c hc) (ea_cons (ev_fld (ev_var rfl) fb) ea_nil) fun c pc => spHolds_r pc (img_at wF'.bits)).ev) ?_
      obtain ⟨dx, hobj⟩ := wF'.obj
      refine ss_meS (P := fun F1 F2 => Mo W.dd F1 F2 ∧ WorksAt K F2 (n + 1) W M (rowF M.ins βs) (act r.2 (r.1.h (img M (rowF M.ins βs) (scanL M (rowF M.ins βs) (M.rungs.take i) ν).1)) (scanL M (rowF M.ins βs) (M.rungs.take i) ν).1)) (ev_var rfl) hobj (by rfl) ((m_act T).mono (by omega)) (ea_cons (ev_fld (ev_var rfl) fq) (ea_cons (ev_var rfl) ea_nil)) (fun F1 e2 Q' q' => ⟨⟨n + 1, W, M, rowF M.ins βs, _, q, r, _⟩, rfl, ⟨wF'.ex e2, ok, νok, hrm, hq.im (.of e2), trivial⟩, fun v H2 m w => q' v H2 ⟨m, w⟩⟩) fun F1 F2 e2 ⟨mm, ww⟩ => ?_
      have hlw : l ∉ W.dd := fun z => by
        obtain ⟨kvs, q⟩ := wF'.there l z
        rw [q] at lF
        cases lF
      have lF2 : F2 l = some (.lst ((scanL M (rowF M.ins βs) (M.rungs.take i) ν).2.map V.bl)) := mm _ _ (e2 _ _ lF) hlw
      have hlen : ((scanL M (rowF M.ins βs) (M.rungs.take i) ν).2.map V.bl).length < 100000 := by
        rw [List.length_map, scanL_len, List.length_take]
        have := ok.rl
        omega
      have m2 : Mo W.dd H F2 := mF.trans ((Mo.of e2).trans mm)
      have g2 : ∀ a o, H1 a = some o → a ∉ W.dd → a ≠ l → F2 a = some o := fun a o h h1 h2 => mm _ _ (e2 _ _ (gF a o h h1 h2)) h1
      refine ss_app lF2 (ev_var rfl) (ev_var rfl) hlen (ss_end fun F3 e3 => ⟨⟨_, _, _, _, rfl⟩, (m2.mut hfr).trans (.of e3), fun a o h h1 h2 => e3 _ _ (by rw [upd_ne h2]; exact g2 a o h h1 h2), ?_, ?_⟩)
      · rw [take_snoc hri, scanL_snoc, e3 _ _ upd_same, List.map_append]
        rfl
      · rw [take_snoc hri, scanL_snoc]
        exact WRaw.ex (WRaw.lst ww lF2) e3
    · rintro σ' F ⟨⟨o1, o2, o5, o6, rfl⟩, mF, gF, lF, wF⟩
      rw [List.length_map, paired_len hrs, List.take_length] at lF wF
      exact SS.here (ss_retR (er_cb1 (R := NewT F ((scan M (rowF M.ins βs) ν).2.map V.bl)) (ev_rel (ev_var rfl)) fun x F1 e3 ex Q q => ⟨l, _, by rw [ex], .inl ⟨.of (e3 _ _ lF), fun t ht => q _ _ (.new ht) ⟨t, rfl, fresh_back e3 ht, upd_same⟩⟩⟩) fun v F1 e3 ⟨p, ev, hp, hp1⟩ => hQ v F1 (mF.trans (.of e3)) (WRaw.ex wF e3) ⟨p, ev, mo_none mF hp (WRaw.there wF), hp1⟩)
/-! ### answers() -/
structure WArg where
  n : Nat
  W : WA
  M : Ldr
  βi : Str → Bool
  ν : Nu
def spAns (K : PySem.W.Frag) : Sp := spP (ι := WArg) (fun i => [.ref i.W.a]) (fun i H => WorksAt K H i.n i.W i.M i.βi i.ν ∧ LdrOk i.M) (fun i H v H2 => NewT H ((i.M.outs.map fun x => bit i.M.rungs i.ν x).map V.bl) v H2)
theorem m_answers (T : Tx w K mg base) : Met PG w K mg base 1 (He.ga K "Works") "answers" (spAns K) := by
  refine met_of (fnd ["self", "name"] ["self"] T.d_Works_answers (by decide +kernel) (spP_len fun _ => rfl) (fun _ _ _ _ _ _ us h => by match us, h with | [_], _ => rfl) ?_) T.c_Works T.m_Works_answers
  rintro cdv A outer s H vs Q E hr ⟨⟨n, W, M, βi, ν⟩, rfl, ⟨hW, ok⟩, hQ⟩
  have hW : WRaw K H n W M (fun x => .bl (img M βi ν x)) (fun x => .int (ν x % 16)) (fun x => .bl (decide (ν x / 16 = 1))) := hW
  have ok : LdrOk M := ok
  have nd : (["self", "name"] : List Str).Nodup := by decide +kernel
  refine ⟨_, 
    (pss_cons (ps_ret (pe_callTy call_tuple_of (by rfl) T.f_tuple (by decide +kernel) (pa_cons (pe_lc (own := [("name", 1)]) (g := gName 1) (tt := tYes) rfl nd (pi_seq (pe_fldT T (pe_fldT T (pv 0)))) (blkOk_by (N := ["self", "name"]) (sc := defScope s_Works_answers) (own := [("name", 1)]) (by decide +kernel)) (fun _ _ _ _ _ => (pg_name (i := 1) nd rfl (Or.inl rfl))) (fun _ _ _ _ _ => pts_nil) (fun _ _ _ _ _ => pe_hide (pe_dget (hu_of hr) (pe_fldT T (pv 0)) (pv 1) (fun _ _ => rfl)))) pa_nil))) pss_nil), SS.here ?_⟩
  obtain ⟨fla, fb, fc, fs⟩ := hW.fl T
  obtain ⟨to, fo, hto⟩ := hW.lad.fo T
  have ol := ok.ol
  have key := er_lcV (K := K) (k := false) (σ := [some (.ref W.a), none]) (H := H) (j := 1) (vs := [1]) (te := tDGet (tFld K (tVar 0) "bits") (tVar 1)) (tl := tFld K (tFld K (tVar 0) "ladder") "outputs") (fun _ x => match x with
    | .str x => V.bl (bit M.rungs ν x)
    | _ => .non) (ev_fld (ev_fld (ev_var rfl) fla) fo) (.of hto) (by rw [List.length_map]; omega) (fun _ => rfl) fun i x hx => by
      rw [List.getElem?_map] at hx
      obtain ⟨y, hy, rfl⟩ := Option.map_eq_some_iff.mp hx
      have hyo := List.mem_of_getElem? hy
      have hyn := ok.ouw y hyo
      have e : img M βi ν y = bit M.rungs ν y := by
        unfold img
        rw [if_neg (fun z => ok.inw _ z hyn), if_pos hyn]
      show Ev _ _ _ (V.bl (bit M.rungs ν y))
      rw [← e]
      exact ev_dget (ev_fld (ev_var rfl) fb) (ev_var rfl) (dget_tab hW.bits (List.mem_append_right _ hyn))
  have e2 : (M.outs.map V.str).mapIdx (fun _ x => match x with
    | .str x => V.bl (bit M.rungs ν x)
    | _ => .non) = (M.outs.map fun x => bit M.rungs ν x).map V.bl := by
    rw [List.mapIdx_eq_zipIdx_map, List.map_map]
    apply List.ext_getElem?
    intro i
    simp
    cases M.outs[i]? <;> rfl
  rw [e2] at key
  exact ss_retR (er_cb1 (R := NewT H ((M.outs.map fun x => bit M.rungs ν x).map V.bl)) key fun x F1 e3 ⟨l, ex, hl0, hl1⟩ Q q => ⟨l, _, by rw [ex], .inl ⟨.of hl1, fun t ht => q _ _ (.new ht) ⟨t, rfl, fresh_back e3 ht, upd_same⟩⟩⟩) fun v F1 e3 r => hQ v F1 e3 r
end
end RgK
set_option Elab.async false
set_option linter.all false
set_option maxRecDepth 100000
set_option maxHeartbeats 4000000

/-! Works made; image, kept, put_back. -/
namespace RgK
open PySem PySem.Spec PyProof.Rows L2 Evl
local macro_rules | `(tactic| walk_at "ev") => `(tactic| repeat' (first
  | with_reducible exact ev_c
  | with_reducible exact ea_nil
  | ((with_reducible apply ev_var); first | rfl | assumption)
  | with_reducible apply ea_cons
  | with_reducible apply ev_fld
  | ((with_reducible show Fld _ _ _ _ _); assumption)
  | with_reducible exact rv_I0
  | with_reducible exact ru_neg
  | with_reducible exact rv_eq rfl
  | with_reducible exact rv_ne rfl
  | ((with_reducible apply rv_I); first | decide | omega | assumption)
  | ((with_reducible show _ = _ → EvT _ _ _ _); intro _)
  | ((with_reducible show _ = _ → Ev _ _ _ _); intro _)
  | with_reducible apply et_and
  | with_reducible apply et_or
  | with_reducible apply ev_andV
  | with_reducible apply ev_orV
  | with_reducible apply et_test
  | with_reducible apply et_B
  | with_reducible apply et_not
  | with_reducible apply ev_notV
  | with_reducible apply ev_un
  | with_reducible apply ev_op))

/-! ### works under way -/
structure WI (K : PySem.W.Frag) (H0 : Hp) (W : WA) (dx : Addr) (H : Hp) (bn cn zn : List Str) : Prop where
  ex : Ex H0 H
  obj : H W.a = some (.ins (He.ga K "Works") dx (wfs W))
  bits : H W.db = some (.dK (tab bn fun _ => .bl false))
  cnt : H W.dc = some (.dK (tab cn fun _ => .int 0))
  seen : H W.ds = some (.dK (tab zn fun _ => .bl false))
  n1 : W.db ≠ W.dc
  n2 : W.db ≠ W.ds
  n3 : W.dc ≠ W.ds
  f1 : H0 W.db = none
  f2 : H0 W.dc = none
  f3 : H0 W.ds = none
theorem tabF {ns : List Str} {x : Str} {v : V} : putK (tab ns fun _ => v) (.inr x) v = tab (addN ns x) fun _ => v := by
  rw [put_add]
  exact tab_congr fun n _ => by split <;> rfl
section
variable {K : PySem.W.Frag} {H0 H H' : Hp} {W : WA} {dx : Addr} {bn cn zn : List Str} {x : Str}
theorem ins_ne {d a : Addr} {u o : HO} (h : H a = some u) (g : H d = some o) (n : ∀ z, u = z → o = z → False) : a ≠ d := fun e => by rw [e, g] at h; cases h; exact n _ rfl rfl
theorem WI.mono (h : WI K H0 W dx H bn cn zn) (e : Ex H H') : WI K H0 W dx H' bn cn zn := ⟨h.ex.trans e, e _ _ h.obj, e _ _ h.bits, e _ _ h.cnt, e _ _ h.seen, h.n1, h.n2, h.n3, h.f1, h.f2, h.f3⟩
theorem WI.putB (h : WI K H0 W dx H bn cn zn) : WI K H0 W dx (upd H W.db (.dK (putK (tab bn fun _ => .bl false) (.inr x) (.bl false)))) (addN bn x) cn zn :=
  ⟨h.ex.mut h.f1, by rw [upd_ne (fun e => by have := h.obj; rw [e, h.bits] at this; cases this)]; exact h.obj, by rw [upd_same, tabF], by rw [upd_ne (Ne.symm h.n1)]; exact h.cnt, by rw [upd_ne (Ne.symm h.n2)]; exact h.seen, h.n1, h.n2, h.n3, h.f1, h.f2, h.f3⟩
theorem WI.putC (h : WI K H0 W dx H bn cn zn) : WI K H0 W dx (upd H W.dc (.dK (putK (tab cn fun _ => .int 0) (.inr x) (.int 0)))) bn (addN cn x) zn :=
  ⟨h.ex.mut h.f2, by rw [upd_ne (fun e => by have := h.obj; rw [e, h.cnt] at this; cases this)]; exact h.obj, by rw [upd_ne h.n1]; exact h.bits, by rw [upd_same, tabF], by rw [upd_ne (Ne.symm h.n3)]; exact h.seen, h.n1, h.n2, h.n3, h.f1, h.f2, h.f3⟩
theorem WI.putS (h : WI K H0 W dx H bn cn zn) : WI K H0 W dx (upd H W.ds (.dK (putK (tab zn fun _ => .bl false) (.inr x) (.bl false)))) bn cn (addN zn x) :=
  ⟨h.ex.mut h.f3, by rw [upd_ne (fun e => by have := h.obj; rw [e, h.seen] at this; cases this)]; exact h.obj, by rw [upd_ne h.n2]; exact h.bits, by rw [upd_ne h.n3]; exact h.cnt, by rw [upd_same, tabF], h.n1, h.n2, h.n3, h.f1, h.f2, h.f3⟩
end
section
variable {K : PySem.W.Frag} {σ : L2.St} {H : Hp} {te : TE} {D : Ends} {tu tz : TS}
/-- over a new tuple -/
theorem ss_forNT {xs : List V} {j : Nat} (h : EvR te σ H (NewT H xs)) (Pv : Addr → Nat → L2.St → Hp → Prop) (h0 : ∀ t H1, Ex H H1 → H t = none → H1 t = some (.tup xs) → Pv t 0 σ H1) (hl : ∀ t i σ' H', i ≤ xs.length → Pv t i σ' H' → H' t = some (.tup xs))
    (hs : ∀ t i x σ' H', xs[i]? = some x → Pv t i σ' H' → SS tu { D with nx := Pv t (i + 1), ct := Pv t (i + 1), bk := tz D } (σ'.set j (some x)) H') (hd : ∀ t σ' H', Pv t xs.length σ' H' → tz D σ' H') : SS (tSeq (tFor (iSeq K te) (gName j) tu) tz) D σ H := by
  intro H1 e1
  refine h H1 e1 (fun v H2 => ∃ k a xs, v = .ref a ∧ Sq K k H2 a xs ∧ Owes (gName j) tu { D with nx := tz D } (ItK K k a) σ H2) fun v H2 e2 ⟨t, ev, ht0, ht⟩ => ?_
  subst ev
  exact ⟨false, t, xs, rfl, .of ht, for_seq (k := false) (D := { D with nx := tz D }) (Pv t) (h0 t H2 (e1.trans e2) ht0 ht) (fun i σ' H' hi p => .of (hl t i σ' H' hi p)) (fun i x σ' H' hi p => (hs t i x σ' H' hi p).here) (hd t)⟩
end
theorem ev_written {w : World} {K : PySem.W.Frag} {mg : Mg} {base : Heap} (T : Tx w K mg base) {j n : Nat} {σ : L2.St} {H : Hp} {ta : TE} {a : Addr} {M : Ldr} {E : L2.St → XK} (ho : Ev ta σ H (.ref a)) (hL : LadderAt K H n a M) : EvR (tMe (Met PG w K mg base (j + 1)) "written_names" E ta tNil) σ H (NewT H (M.names.map V.str)) :=
  let ⟨_, _, _, _, _, h1, _⟩ := id hL
  er_meV ho h1 (by rfl) ((m_written T).mono (by omega)) ea_nil (spP_r ⟨n, a, M⟩ rfl (fun H2 e2 => hL.im (.of e2)) fun H1 v H2 e1 _ ⟨p, a1, a2, a3⟩ => ⟨p, a1, fresh_back e1 a2, a3⟩)
theorem addN_new {l : List Str} {x : Str} (h : x ∉ l) : addN l x = l ++ [x] := if_neg h
theorem nodup_take {l : List Str} {i : Nat} {x : Str} (h : l.Nodup) (e : l[i]? = some x) : x ∉ l.take i := fun z => by
  have h1 : (l.take (i + 1)).Nodup := h.sublist (List.take_sublist _ _)
  rw [take_snoc e, List.nodup_append] at h1
  exact h1.2.2 x z x (by simp) rfl
theorem filter_snoc (p : RungV → Bool) (rs : List RungV) (r : RungV) : (rs ++ [r]).filter p = if p r then rs.filter p ++ [r] else rs.filter p := by
  rw [List.filter_append]
  cases h : p r with
  | true => rw [if_pos rfl, List.filter_cons_of_pos h]; rfl
  | false => rw [if_neg (by decide), List.filter_cons_of_neg (by rw [h]; decide), List.filter_nil, List.append_nil]
theorem cnames_snoc (rs : List RungV) (r : RungV) : cnames (rs ++ [r]) = if 3 ≤ r.2.kind then addN (cnames rs) r.2.name else cnames rs := by
  unfold cnames
  rw [filter_snoc]
  by_cases h : 3 ≤ r.2.kind
  · rw [if_pos (decide_eq_true h), if_pos h, namesOf_snoc]
  · rw [if_neg (by simpa using h), if_neg h]
theorem znames_snoc (rs : List RungV) (r : RungV) : znames (rs ++ [r]) = if r.2.kind = 4 then addN (znames rs) r.2.name else znames rs := by
  unfold znames
  rw [filter_snoc]
  by_cases h : r.2.kind = 4
  · rw [if_pos (decide_eq_true h), if_pos h, namesOf_snoc]
  · rw [if_neg (by simpa using h), if_neg h]
theorem isK34 {n : Nat} (h : n < 5) : (isK n 3 || isK n 4) = decide (3 ≤ n) := by
  unfold isK
  match n, h with
  | 0, _ => rfl
  | 1, _ => rfl
  | 2, _ => rfl
  | 3, _ => rfl
  | 4, _ => rfl
theorem isK4 {n : Nat} (h : n < 5) : isK n 4 = decide (n = 4) := by
  unfold isK
  match n, h with
  | 0, _ => rfl
  | 1, _ => rfl
  | 2, _ => rfl
  | 3, _ => rfl
  | 4, _ => rfl
theorem bn_nodup {M : Ldr} (ok : LdrOk M) : (M.ins ++ M.names).Nodup := List.nodup_append.mpr ⟨ok.ind, namesOf_nodup _, fun a ha b hb e => ok.inw a ha (by rw [e]; exact hb)⟩
theorem img0 {M : Ldr} (ok : LdrOk M) (x : Str) : img M (fun _ => false) (fun _ => 0) x = false := by
  have : bit M.rungs (fun _ => 0) x = false := by
    unfold bit
    split
    · rfl
    · rename_i e he
      obtain ⟨_, _, r, hr, rfl⟩ := cEnd_some he
      have := (ok.ends r hr).m1
      exact decide_eq_false (by show ¬ (0 : Int) % 16 = _; omega)
  unfold img
  rw [this]
  split
  · rfl
  · split <;> rfl
section
variable {w : World} {K : PySem.W.Frag} {mg : Mg} {base : Heap} {k : Nat}
def mkWorks (K : PySem.W.Frag) : Sp := spM (ι := LArg × Hp) (He.ga K "Works") (fun i => [.ref i.1.a]) (fun i H => LadderAt K H i.1.n i.1.a i.1.M ∧ LdrOk i.1.M ∧ i.2 = H)
  (fun i a H2 => ∃ db dc ds, WorksAt K H2 i.1.n ⟨a, i.1.a, db, dc, ds⟩ i.1.M (fun _ => false) (fun _ => 0) ∧ i.2 db = none ∧ i.2 dc = none ∧ i.2 ds = none)
theorem k_Works (T : Tx w K mg base) : Mak PG w K mg base 2 (He.ga K "Works") (mkWorks K) := by
  refine mak_of (fnd ["self", "ladder", "name", "rung"] ["self", "ladder"] T.d_Works_init (by decide +kernel) (spM_len fun _ => rfl) (fun _ _ _ _ _ _ us h => by match us, h with | [_, _], _ => rfl) ?_) T.k_Works
  rintro cdv A outer s H vs Q E hr ⟨⟨⟨n, la, M⟩, Hz⟩, H0, a, dx, rfl, rfl, h1, h2, h3, ⟨hL, ok, rfl⟩, hQ⟩
  have nd : (["self", "ladder", "name", "rung"] : List Str).Nodup := by decide +kernel
  have hL : LadderAt K Hz n la M := hL
  have ok : LdrOk M := ok
  refine ⟨_, 
    (pss_cons (ps_fld (pv 0) (pv 1) rfl) 
    (pss_cons (ps_fld (pv 0) pe_dnewK rfl) 
    (pss_cons (ps_fld (pv 0) pe_dnewK rfl) 
    (pss_cons (ps_fld (pv 0) pe_dnewK rfl) 
    (pss_cons (ps_for (passes_of rfl) rfl (pi_seq (pe_fldT T (pv 1))) (pg_name (i := 2) nd rfl (Or.inl rfl)) 
    (pss_cons (ps_dput (hu_of hr) (pe_fldT T (pv 0)) (pv 2) pe_bl rfl) pss_nil)) 
    (pss_cons (ps_for (passes_of rfl) rfl (pi_seq (pe_me0 T hr pass0 (pv 1))) (pg_name (i := 2) nd rfl (Or.inl rfl)) 
    (pss_cons (ps_dput (hu_of hr) (pe_fldT T (pv 0)) (pv 2) pe_bl rfl) pss_nil)) 
    (pss_cons (ps_for (passes_of rfl) rfl (pi_seq (pe_fldT T (pv 1))) (pg_name (i := 3) nd rfl (Or.inl rfl)) 
    (pss_cons (ps_if (pt_val (pe_callB call_isiT (by rfl) T.f_isinstance (by decide +kernel) (pa_cons (pe_fldT T (pv 3)) (pa_cons (pe_tup (pa_cons (pe_globR (by rfl) T.g_Timer) (pa_cons (pe_globR (by rfl) T.g_Counter) pa_nil))) pa_nil)))) 
    (pss_cons (ps_dput (hu_of hr) (pe_fldT T (pv 0)) (pe_fldT T (pe_fldT T (pv 3))) pe_int rfl) pss_nil) pss_nil) 
    (pss_cons (ps_if (pt_val (pe_callB call_isi (by rfl) T.f_isinstance (by decide +kernel) (pa_cons (pe_fldT T (pv 3)) (pa_cons (pe_globR (by rfl) T.g_Counter) pa_nil)))) 
    (pss_cons (ps_dput (hu_of hr) (pe_fldT T (pv 0)) (pe_fldT T (pe_fldT T (pv 3))) pe_bl rfl) pss_nil) pss_nil) pss_nil))) pss_nil))))))), SS.here ?_⟩
  have e0 : Ex Hz (upd (upd Hz dx (.own a)) a (.ins (He.ga K "Works") dx [])) := ex_made h1 h2
  refine ss_fld (ev_var rfl) (ev_var rfl) upd_same T.c_Works T.n_Works_ladder (by decide) ?_
  have e1 := e0.mut (o := .ins (He.ga K "Works") dx (putF "ladder" (.ref la) [])) h1
  have i1 : upd (upd (upd Hz dx (.own a)) a (.ins (He.ga K "Works") dx [])) a (.ins (He.ga K "Works") dx (putF "ladder" (.ref la) [])) a = _ := upd_same
  revert e1 i1
  generalize upd (upd (upd Hz dx (.own a)) a (.ins (He.ga K "Works") dx [])) a (.ins (He.ga K "Works") dx (putF "ladder" (.ref la) [])) = F1
  intro e1 i1
  have step : ∀ (F : Hp) (fs : List (Str × V)) (f : Str) (σ : L2.St) (D : Ends) (tz : TS), fs.length < 1000 → Ex Hz F → F a = some (.ins (He.ga K "Works") dx fs) → NoAttr K (He.ga K "Works") f → σ[0]? = some (some (.ref a)) →
      (∀ d F', Ex Hz F' → F d = none → F' d = some (.dK []) → F' a = some (.ins (He.ga K "Works") dx (putF f (.ref d) fs)) → (∀ b o, F b = some o → b ≠ a → F' b = some o) → SS tz D σ F') → SS (tSeq (sFld K (tVar 0) tDNewK f) tz) D σ F := by
    intro F fs f σ D tz hz e i na hσ kk
    refine ss_fldR er_dnew (ev_var hσ) i T.c_Works na hz (fun v H1 H2 ⟨p, a1, a2, a3⟩ e => ⟨p, a1, a2, e _ _ a3⟩) fun v H1 e2 ⟨d, ev, hd0, hd1⟩ => ?_
    subst ev
    have hda : d ≠ a := fun z => by rw [z, i] at hd0; cases hd0
    exact kk d _ ((e.trans e2).mut h1) hd0 (by rw [upd_ne hda]; exact hd1) upd_same fun b o hb n => by rw [upd_ne n]; exact e2 _ _ hb
  refine step F1 _ _ _ _ _ (by show 1 < 1000; decide) e1 i1 T.n_Works_bits rfl fun db F2 e2 fb2 hb2 i2 g2 => ?_
  refine step F2 _ _ _ _ _ (by show 2 < 1000; decide) e2 i2 T.n_Works_counts rfl fun dc F3 e3 fc3 hc3 i3 g3 => ?_
  refine step F3 _ _ _ _ _ (by show 3 < 1000; decide) e3 i3 T.n_Works_seen rfl fun ds F4 e4 fs4 hs4 i4 g4 => ?_
  have ndb : db ≠ a := fun z => by rw [z, i1] at fb2; cases fb2
  have ndc : dc ≠ a := fun z => by rw [z, i2] at fc3; cases fc3
  have hb3 := g3 _ _ hb2 ndb
  have wi0 : WI K Hz ⟨a, la, db, dc, ds⟩ dx F4 [] [] [] := ⟨e4, i4, g4 _ _ hb3 ndb, g4 _ _ hc3 ndc, hs4, (fun z => by have z : db = dc := z; rw [← z, hb2] at fc3; cases fc3), (fun z => by have z : db = ds := z; rw [← z, hb3] at fs4; cases fs4), (fun z => by have z : dc = ds := z; rw [← z, hc3] at fs4; cases fs4), fresh_back e1 fb2, fresh_back e2 fc3, fresh_back e3 fs4⟩
  clear step g2 g3 g4
  have il := hL.len
  have nl : M.names.length ≤ M.rungs.length := namesOf_len M.rungs
  have bnd := bn_nodup ok
  have wfl : ∀ {H bn cn zn}, WI K Hz ⟨a, la, db, dc, ds⟩ dx H bn cn zn → Fld K H a "bits" (.ref db) ∧ Fld K H a "counts" (.ref dc) ∧ Fld K H a "seen" (.ref ds) := fun w => ⟨⟨_, _, _, w.obj, T.c_Works, T.n_Works_bits, rfl⟩, ⟨_, _, _, w.obj, T.c_Works, T.n_Works_counts, rfl⟩, ⟨_, _, _, w.obj, T.c_Works, T.n_Works_seen, rfl⟩⟩
  -- inputs
  obtain ⟨ti, fi, hti⟩ := hL.fi T
  refine ss_forSq (k := false) (ev_fld (ev_var rfl) (fi.ex e4)) (.of (e4 _ _ hti)) (fun i σ' H' => (∃ o1 o2, σ' = [some (.ref a), some (.ref la), o1, o2]) ∧ WI K Hz ⟨a, la, db, dc, ds⟩ dx H' ((M.ins ++ M.names).take i) [] []) (fun H1 e => ⟨⟨_, _, rfl⟩, by rw [List.take_zero]; exact wi0.mono e⟩) (fun i σ' H' _ ⟨_, w⟩ => .of (w.ex _ _ hti)) ?_ ?_
  · rintro i x σ' H' hx ⟨⟨o1, o2, rfl⟩, w⟩
    rw [List.getElem?_map] at hx
    obtain ⟨nm, hnm, rfl⟩ := Option.map_eq_some_iff.mp hx
    have hat : (M.ins ++ M.names)[i]? = some nm := by rw [List.getElem?_append_left (List.getElem?_eq_some_iff.mp hnm).1]; exact hnm
    refine ss_dput (kk := .inr nm) ev_c (ev_fld (ev_var rfl) (wfl w).1) (ev_var rfl) w.bits (by rw [tab_len, List.length_take, List.length_append]; omega) (ss_end fun H1 e => ⟨⟨_, _, rfl⟩, ?_⟩)
    rw [take_snoc hat, ← addN_new (nodup_take bnd hat)]
    exact w.putB.mono e
  rintro σ' H' ⟨⟨o1, o2, rfl⟩, w⟩
  rw [List.length_map] at w
  refine SS.here ?_
  -- names
  refine ss_forNT (ev_written T (ev_var rfl) (hL.im (.of w.ex))) (fun t i σ' H' => (∃ o1 o2, σ' = [some (.ref a), some (.ref la), o1, o2]) ∧ WI K Hz ⟨a, la, db, dc, ds⟩ dx H' ((M.ins ++ M.names).take (M.ins.length + i)) [] [] ∧ H' t = some (.tup (M.names.map V.str)))
    (fun t H1 e _ ht => ⟨⟨_, _, rfl⟩, w.mono e, ht⟩) (fun t i σ' H' _ ⟨_, _, ht⟩ => ht) ?_ ?_
  · rintro t i x σ' H' hx ⟨⟨o1, o2, rfl⟩, w, ht⟩
    rw [List.getElem?_map] at hx
    obtain ⟨nm, hnm, rfl⟩ := Option.map_eq_some_iff.mp hx
    have hat : (M.ins ++ M.names)[M.ins.length + i]? = some nm := by rw [List.getElem?_append_right (by omega), Nat.add_sub_cancel_left]; exact hnm
    refine ss_dput (kk := .inr nm) ev_c (ev_fld (ev_var rfl) (wfl w).1) (ev_var rfl) w.bits (by rw [tab_len, List.length_take, List.length_append]; omega) (ss_end fun H1 e => ⟨⟨_, _, rfl⟩, ?_, e _ _ (by rw [upd_ne (fun z => by rw [z, w.bits] at ht; cases ht)]; exact ht)⟩)
    rw [← Nat.add_assoc, take_snoc hat, ← addN_new (nodup_take bnd hat)]
    exact w.putB.mono e
  rintro t σ' H' ⟨⟨o1, o2, rfl⟩, w, ht⟩
  rw [List.length_map, List.take_of_length_le (by rw [List.length_append]; omega)] at w
  refine SS.here ?_
  -- rungs
  obtain ⟨tr, rs, fr, htr, hrs⟩ := hL.fr T
  refine ss_forSq (k := false) (ev_fld (ev_var rfl) (fr.ex w.ex)) (.of (w.ex _ _ htr)) (fun i σ' H' => (∃ o1 o2, σ' = [some (.ref a), some (.ref la), o1, o2]) ∧ WI K Hz ⟨a, la, db, dc, ds⟩ dx H' (M.ins ++ M.names) (cnames (M.rungs.take i)) (znames (M.rungs.take i))) (fun H1 e => ⟨⟨_, _, rfl⟩, w.mono e⟩) (fun i σ' H' _ ⟨_, w⟩ => .of (w.ex _ _ htr)) ?_ ?_
  · rintro i x σ' H' hx ⟨⟨o1, o2, rfl⟩, w⟩
    obtain ⟨ra, r, rfl, hri, hra⟩ := paired_at hrs hx
    have hrm : r ∈ M.rungs := List.mem_of_getElem? hri
    have hk := (ok.ends r hrm).k
    obtain ⟨q, fq, hq⟩ := (hra.im (.of w.ex)).end_ T
    have c1 : (cnames (M.rungs.take i)).length < 100000 := by
      have h1 := namesOf_len ((M.rungs.take i).filter fun r => decide (3 ≤ r.2.kind))
      have h2 := List.length_filter_le (fun r : RungV => decide (3 ≤ r.2.kind)) (M.rungs.take i)
      rw [List.length_take] at h2
      show (namesOf _).length < _
      omega
    have c2 : (znames (M.rungs.take i)).length < 100000 := by
      have h1 := namesOf_len ((M.rungs.take i).filter fun r => decide (r.2.kind = 4))
      have h2 := List.length_filter_le (fun r : RungV => decide (r.2.kind = 4)) (M.rungs.take i)
      rw [List.length_take] at h2
      show (namesOf _).length < _
      omega
    have second : ∀ (H1 : Hp) (tz : TS) (D : Ends) (cn : List Str), WI K Hz ⟨a, la, db, dc, ds⟩ dx H1 (M.ins ++ M.names) cn (znames (M.rungs.take i)) → (∀ H2, WI K Hz ⟨a, la, db, dc, ds⟩ dx H2 (M.ins ++ M.names) cn (znames (M.rungs.take (i + 1))) → SS tz D [some (.ref a), some (.ref la), o1, some (.ref ra)] H2) →
        SS (tSeq (tIfS (tB (tCB (rIsi K) (tCons (tFld K (tVar 3) "end") (tCons (tC (.ref (He.ga K "Counter"))) tNil)))) (tSeq (sDPut (tFld K (tVar 0) "seen") (tFld K (tFld K (tVar 3) "end") "name") (tC (.bl false))) tNext) tNext) tz) D [some (.ref a), some (.ref la), o1, some (.ref ra)] H1 := by
      intro H1 tz D cn w kk
      obtain ⟨q, fq, hq⟩ := (hra.im (.of w.ex)).end_ T
      have hz : znames (M.rungs.take (i + 1)) = if r.2.kind = 4 then addN (znames (M.rungs.take i)) r.2.name else znames (M.rungs.take i) := by rw [take_snoc hri, znames_snoc]
      refine ss_when (et_B (ev_cb (ea_cons (ev_fld (ev_var rfl) fq) (ea_cons ev_c ea_nil)) (rc_end T hq 4 (by decide)))) (fun hb => ?_) fun hb => kk H1 ?_
      · rw [isK4 hk] at hb
        refine ss_dput (kk := .inr r.2.name) ev_c (ev_fld (ev_var rfl) (wfl w).2.2) (ev_fld (ev_fld (ev_var rfl) fq) (hq.name T)) w.seen (by rw [tab_len]; exact c2) (ss_end fun H2 e => (kk H2 ?_).here)
        rw [hz, if_pos (of_decide_eq_true hb)]
        exact w.putS.mono e
      · rw [isK4 hk] at hb
        rw [hz, if_neg (of_decide_eq_false hb)]
        exact w
    have hc : cnames (M.rungs.take (i + 1)) = if 3 ≤ r.2.kind then addN (cnames (M.rungs.take i)) r.2.name else cnames (M.rungs.take i) := by rw [take_snoc hri, cnames_snoc]
    refine ss_when (et_B (ev_endT T (ev_fld (ev_var rfl) fq) hq 3 4 (by decide) (by decide))) (fun hb => ?_) fun hb => second _ _ _ _ w fun H2 w => ss_end fun H3 e3 => ⟨⟨_, _, rfl⟩, ?_⟩
    · rw [isK34 hk] at hb
      refine ss_dput (kk := .inr r.2.name) ev_c (ev_fld (ev_var rfl) (wfl w).2.1) (ev_fld (ev_fld (ev_var rfl) fq) (hq.name T)) w.cnt (by rw [tab_len]; exact c1) (ss_end fun H2 e => ?_)
      refine (second H2 tNext _ _ (w.putC.mono e) fun H2 w => ss_end fun H3 e3 => ?_).here
      refine ⟨⟨_, _, rfl⟩, ?_⟩
      rw [hc, if_pos (of_decide_eq_true hb)]
      exact w.mono e3
    · rw [isK34 hk] at hb
      rw [hc, if_neg (of_decide_eq_false hb)]
      exact w.mono e3
  rintro σ' H' ⟨⟨o1, o2, rfl⟩, w⟩
  rw [List.length_map, paired_len hrs, List.take_length] at w
  refine SS.here (ss_end fun H1 e => hQ H1 (w.ex.trans e) ⟨db, dc, ds, ?_, w.f1, w.f2, w.f3⟩)
  have w := w.mono e
  exact ⟨⟨dx, w.obj⟩, hL.im (.of w.ex), by rw [w.bits]; exact congrArg (fun z => some (HO.dK z)) (tab_congr fun x _ => by rw [img0 ok]), w.cnt, by rw [w.seen]; exact congrArg (fun z => some (HO.dK z)) (tab_congr fun x _ => rfl), w.n1, w.n2, w.n3⟩
end
end RgK
set_option Elab.async false
set_option linter.all false
set_option maxRecDepth 100000
set_option maxHeartbeats 4000000
/-! The plain laws, 2: states and rows as numbers. -/
namespace RgK
open PySem PySem.Spec PyProof.Rows L2
theorem or_shl {s v : Int} {k : Nat} (h0 : 0 ≤ s) (h1 : s < 2 ^ k) (hv : 0 ≤ v) : Builtin.bitOr s (v * 2 ^ k) = s + v * 2 ^ k := by
  rw [bitOr_comm, or_low hv h0 h1, Int.add_comm]
theorem mask1 (x : Int) (k : Nat) : Builtin.bitAnd x (1 * 2 ^ k - 1) = x % 2 ^ k := by rw [Int.one_mul, PySem.W.kbt_mask]
/-! ### the state -/
def decL (w : Str → Nat) : List Str → Int → Nu
  | [], _ => fun _ => 0
  | x :: xs, s => fun y => if y = x then s % 2 ^ w x else decL w xs (s / 2 ^ w x) y
theorem decL_out {w : Str → Nat} : ∀ {xs : List Str} {s : Int} {y : Str}, y ∉ xs → decL w xs s y = 0
  | [], _, _, _ => rfl
  | x :: xs, s, y, h => by
    unfold decL
    rw [if_neg (fun e => h (by rw [e]; exact List.mem_cons_self)), decL_out fun z => h (List.mem_cons_of_mem _ z)]
theorem decL_at {w : Str → Nat} : ∀ {xs : List Str} {s : Int} {i : Nat} {x : Str}, xs.Nodup → xs[i]? = some x → decL w xs s x = s / 2 ^ ((xs.take i).map w).sum % 2 ^ w x
  | [], _, _, _, _, h => by simp at h
  | x :: xs, s, 0, y, nd, h => by
    simp at h
    subst h
    unfold decL
    rw [if_pos rfl]
    simp
  | x :: xs, s, i + 1, y, nd, h => by
    obtain ⟨n1, n2⟩ := List.nodup_cons.mp nd
    simp at h
    have hne : y ≠ x := fun e => n1 (by rw [← e]; exact List.mem_of_getElem? h)
    unfold decL
    rw [if_neg hne, decL_at n2 h, List.take_succ_cons, List.map_cons, List.sum_cons, Int.pow_add, Int.ediv_ediv_of_nonneg (Int.le_of_lt (pow_pos' _))]
theorem decL_pack {w : Str → Nat} {ν : Nu} : ∀ {xs : List Str}, xs.Nodup → (∀ x ∈ xs, 0 ≤ ν x ∧ ν x < 2 ^ w x) → ∀ y ∈ xs, decL w xs (pack (xs.map fun x => (w x, ν x))) y = ν y
  | [], _, _, _, h => by cases h
  | x :: xs, nd, hr, y, hy => by
    obtain ⟨n1, n2⟩ := List.nodup_cons.mp nd
    obtain ⟨v1, v2⟩ := hr x List.mem_cons_self
    have p1 := pow_pos' (w x)
    unfold decL
    rw [List.map_cons]
    show (if y = x then (ν x + 2 ^ w x * pack _) % 2 ^ w x else decL w xs ((ν x + 2 ^ w x * pack _) / 2 ^ w x) y) = _
    by_cases e : y = x
    · rw [if_pos e, Int.add_mul_emod_self_left, Int.emod_eq_of_lt v1 v2, e]
    · rw [if_neg e, Int.add_mul_ediv_left _ _ (by omega), Int.ediv_eq_zero_of_lt v1 v2, Int.zero_add]
      exact decL_pack n2 (fun z hz => hr z (List.mem_cons_of_mem _ hz)) y ((List.mem_cons.mp hy).resolve_left e)
theorem decL_range {w : Str → Nat} : ∀ {xs : List Str} {s : Int} {y : Str}, y ∈ xs → 0 ≤ decL w xs s y ∧ decL w xs s y < 2 ^ w y
  | x :: xs, s, y, h => by
    unfold decL
    have p1 := pow_pos' (w x)
    by_cases e : y = x
    · rw [if_pos e, e]
      exact ⟨Int.emod_nonneg _ (by omega), Int.emod_lt_of_pos _ p1⟩
    · rw [if_neg e]
      exact decL_range ((List.mem_cons.mp h).resolve_left e)
def wsum (M : Ldr) : Nat := (M.names.map (wd M.rungs)).sum
def stateN (M : Ldr) (ν : Nu) : Int := pack (M.names.map fun x => (wd M.rungs x, ν x))
def nuOf (M : Ldr) (s : Int) : Nu := decL (wd M.rungs) M.names s
structure StOk (M : Ldr) (ν : Nu) : Prop where
  ok : NuOk M.rungs ν
  out : ∀ x, x ∉ M.names → ν x = 0
theorem nuOf_state {M : Ldr} {ν : Nu} (h : StOk M ν) : nuOf M (stateN M ν) = ν := by
  funext x
  unfold nuOf stateN
  by_cases hx : x ∈ M.names
  · exact decL_pack (namesOf_nodup _) (fun y _ => (h.ok y).range) x hx
  · rw [decL_out hx, h.out x hx]
theorem state_range {M : Ldr} {ν : Nu} (h : StOk M ν) : 0 ≤ stateN M ν ∧ stateN M ν < 2 ^ wsum M := by
  have := pack_range (l := M.names.map fun x => (wd M.rungs x, ν x)) fun p hp => by
    obtain ⟨x, _, rfl⟩ := List.mem_map.mp hp
    exact (h.ok x).range
  unfold stateN
  unfold sumW at this
  rw [List.map_map] at this
  exact this
structure Good (M : Ldr) (s : Int) : Prop where
  lo : 0 ≤ s
  hi : s < 2 ^ wsum M
  most : ∀ x ∈ M.names, ∀ e, cEnd M.rungs x = some e → nuOf M s x % 16 ≤ e.most
theorem good_state {M : Ldr} {ν : Nu} (h : StOk M ν) : Good M (stateN M ν) := ⟨(state_range h).1, (state_range h).2, fun x _ e he => by
  rw [nuOf_state h]
  have := h.ok x
  unfold Fit at this
  rw [he] at this
  exact this.2.1⟩
theorem cEnd_names {rs : List RungV} {x : Str} {e : EndV} (h : cEnd rs x = some e) : x ∈ namesOf rs := cnames_sub (mem_cnames.mpr (by rw [h]; rfl))
theorem good_ok {M : Ldr} (ok : LdrOk M) {s : Int} (h : Good M s) : StOk M (nuOf M s) := by
  refine ⟨fun x => ?_, fun x hx => decL_out hx⟩
  unfold Fit
  by_cases hx : x ∈ M.names
  · obtain ⟨r1, r2⟩ := decL_range (w := wd M.rungs) (s := s) hx
    have r1 : 0 ≤ nuOf M s x := r1
    have r2 : nuOf M s x < 2 ^ wd M.rungs x := r2
    cases hc : cEnd M.rungs x with
    | none =>
      unfold wd at r2
      rw [hc] at r2
      exact ⟨r1, by simpa using r2⟩
    | some e =>
      refine ⟨r1, h.most x hx e hc, ?_⟩
      unfold wd at r2
      rw [hc] at r2
      have r2 : nuOf M s x < 2 ^ (if e.kind = 4 then 5 else 4) := r2
      by_cases k : e.kind = 4
      · rw [if_pos k] at r2 ⊢; simpa using r2
      · rw [if_neg k] at r2 ⊢; simpa using r2
  · have e0 : nuOf M s x = 0 := decL_out hx
    rw [e0]
    cases hc : cEnd M.rungs x with
    | none => exact ⟨by omega, by omega⟩
    | some e => exact absurd (cEnd_names hc) hx
theorem st0 {M : Ldr} (ok : LdrOk M) : StOk M (fun _ => 0) := ⟨fun x => by
  unfold Fit
  cases hc : cEnd M.rungs x with
  | none => exact ⟨by omega, by omega⟩
  | some e =>
    obtain ⟨_, _, r, hr, rfl⟩ := cEnd_some hc
    have := (ok.ends r hr).m1
    exact ⟨by omega, by omega, by split <;> omega⟩, fun _ _ => rfl⟩
theorem act_st {M : Ldr} (ok : LdrOk M) {r : RungV} (hr : r ∈ M.rungs) (h : Bool) {ν : Nu} (f : StOk M ν) : StOk M (act r.2 h ν) := ⟨act_ok ok.own hr (ok.ends r hr) h f.ok, fun x hx => by
  unfold act
  rw [setN_ne (fun e => hx (by rw [e]; exact names_of_rung hr))]
  exact f.out x hx⟩
theorem scanL_st {M : Ldr} (ok : LdrOk M) {βi : Str → Bool} : ∀ {rs : List RungV} {ν : Nu}, (∀ r ∈ rs, r ∈ M.rungs) → StOk M ν → StOk M (scanL M βi rs ν).1
  | [], _, _, f => f
  | r :: rs, _, h, f => scanL_st (rs := rs) ok (fun q hq => h q (List.mem_cons_of_mem _ hq)) (act_st ok (h r List.mem_cons_self) _ f)
/-! ### rows -/
def bitsN : List Bool → Int
  | [] => 0
  | b :: l => b2n b + 2 * bitsN l
theorem bitsN_snoc (b : Bool) : ∀ l : List Bool, bitsN (l ++ [b]) = bitsN l + b2n b * 2 ^ l.length
  | [] => by simp [bitsN]
  | c :: l => by
    rw [List.cons_append]
    unfold bitsN
    rw [bitsN_snoc b l, List.length_cons, Int.pow_succ, ← Int.mul_assoc]
    generalize b2n b * 2 ^ l.length = z
    omega
theorem bitsN_range : ∀ l : List Bool, 0 ≤ bitsN l ∧ bitsN l < 2 ^ l.length
  | [] => ⟨Int.le_refl _, by decide⟩
  | b :: l => by
    obtain ⟨h1, h2⟩ := bitsN_range l
    have hb := b2n_range b
    unfold bitsN
    rw [List.length_cons, Int.pow_succ]
    omega
def rowB (n : Nat) (s : Int) : List Bool := (List.range n).map fun k => decide (s / 2 ^ k % 2 = 1)
theorem rowB_bits : ∀ (l : List Bool), rowB l.length (bitsN l) = l
  | [] => rfl
  | b :: l => by
    unfold rowB
    rw [List.length_cons, List.range_succ_eq_map, List.map_cons, List.map_map]
    have hb := b2n_range b
    congr 1
    · unfold bitsN
      rw [Int.pow_zero, Int.ediv_one]
      cases b with
      | true => exact decide_eq_true (by show (1 + 2 * bitsN l) % 2 = 1; omega)
      | false => exact decide_eq_false (by show ¬ (0 + 2 * bitsN l) % 2 = 1; omega)
    · refine Eq.trans ?_ (rowB_bits l)
      unfold rowB
      refine List.map_congr_left fun k _ => ?_
      show decide (bitsN (b :: l) / 2 ^ (k + 1) % 2 = 1) = _
      have : bitsN (b :: l) / 2 ^ (k + 1) = bitsN l / 2 ^ k := by
        rw [Int.pow_succ, Int.mul_comm, ← Int.ediv_ediv_of_nonneg (by omega)]
        congr 1
        have e : bitsN (b :: l) = b2n b + 2 * bitsN l := rfl
        rw [e]
        omega
      rw [this]
theorem rowB_len (n : Nat) (s : Int) : (rowB n s).length = n := by unfold rowB; simp
end RgK
set_option Elab.async false
set_option linter.all false
set_option maxRecDepth 100000
set_option maxHeartbeats 4000000

/-! image, kept, put_back; the ends that count; how many bits. -/
namespace RgK
open PySem PySem.Spec PyProof.Rows L2 Evl
local macro_rules | `(tactic| walk_at "ev") => `(tactic| repeat' (first
  | with_reducible exact ev_c
  | with_reducible exact ea_nil
  | ((with_reducible apply ev_var); first | rfl | assumption)
  | with_reducible apply ea_cons
  | with_reducible apply ev_fld
  | ((with_reducible show Fld _ _ _ _ _); assumption)
  | with_reducible exact rv_I0
  | with_reducible exact ru_neg
  | with_reducible exact rv_eq rfl
  | with_reducible exact rv_ne rfl
  | ((with_reducible apply rv_I); first | decide | omega | assumption)
  | ((with_reducible show _ = _ → EvT _ _ _ _); intro _)
  | ((with_reducible show _ = _ → Ev _ _ _ _); intro _)
  | with_reducible apply et_and
  | with_reducible apply et_or
  | with_reducible apply ev_andV
  | with_reducible apply ev_orV
  | with_reducible apply et_test
  | with_reducible apply et_B
  | with_reducible apply et_not
  | with_reducible apply ev_notV
  | with_reducible apply ev_un
  | with_reducible apply ev_op))

theorem merge_tab {f g : Str → V} : ∀ {ms ns : List Str}, (∀ x ∈ ms, x ∈ ns) → mergeK (tab ns f) (tab ms g) = tab ns fun x => if x ∈ ms then g x else f x
  | [], ns, _ => tab_congr fun x _ => by rw [if_neg (by simp)]
  | m :: ms, ns, h => by
    show mergeK (putK (tab ns f) (.inr m) (g m)) (tab ms g) = _
    rw [put_mem (h m List.mem_cons_self), merge_tab fun x hx => h x (List.mem_cons_of_mem _ hx)]
    refine tab_congr fun x _ => ?_
    by_cases h1 : x ∈ ms
    · rw [if_pos h1, if_pos (List.mem_cons_of_mem _ h1)]
    · rw [if_neg h1]
      by_cases h2 : x = m
      · rw [if_pos h2, h2, if_pos List.mem_cons_self]
      · rw [if_neg h2, if_neg (fun z => (List.mem_cons.mp z).elim h2 h1)]
section
variable {K : PySem.W.Frag} {σ : L2.St} {H : Hp} {te td : TE} {D : Ends} {tz : TS}
theorem er_dictD {d : Addr} {kvs : List (Key × V)} (h : Ev te σ H (.ref d)) (hd : H d = some (.dK kvs)) : EvR (tCB rDictD (tCons te tNil)) σ H (NewD H kvs) :=
  er_cb1 (ev_rel h) fun x H1 e1 ex Q q => ⟨d, kvs, by rw [ex], e1 _ _ hd, fun p hp => q _ _ (.new hp) ⟨p, rfl, fresh_back e1 hp, upd_same⟩⟩
theorem ss_dupd {d b : Addr} {kvs more : List (Key × V)} (ha : Ev td σ H (.ref d)) (hb : Ev te σ H (.ref b)) (hd : H d = some (.dK kvs)) (hm : H b = some (.dK more)) (n : d ≠ b) (hl : kvs.length + more.length ≤ 100000) (k : SS tz D σ (upd H d (.dK (mergeK kvs more)))) :
    SS (tSeq (tDrop (tBM K "dict" rDUpd td (tCons te tNil))) tz) D σ H := fun H1 e1 =>
  ha H1 e1 _ fun H2 e2 => ⟨.inr (.inr (.inl ⟨rfl, .inl ⟨kvs, (e1.trans e2) _ _ hd⟩⟩)), hb H2 (e1.trans e2) _ fun H3 e3 => ⟨d, b, kvs, more, rfl, rfl, n, (e1.trans (e2.trans e3)) _ _ hd, (e1.trans (e2.trans e3)) _ _ hm, sz_of hl, k _ (Ex.put (e1.trans (e2.trans e3)) _ _)⟩⟩
end
section
variable {w : World} {K : PySem.W.Frag} {mg : Mg} {base : Heap} {k : Nat}
def spImage (K : PySem.W.Frag) : Sp := spP (ι := WArg) (fun i => [.ref i.W.a]) (fun i H => WorksAt K H i.n i.W i.M i.βi i.ν) (fun i H v H2 => NewD H (tab (i.M.ins ++ i.M.names) fun x => .bl (img i.M i.βi i.ν x)) v H2)
theorem m_image (T : Tx w K mg base) : Met PG w K mg base 1 (He.ga K "Works") "image" (spImage K) := by
  refine met_of (fnd ["self"] ["self"] T.d_Works_image (by decide +kernel) (spP_len fun _ => rfl) (fun _ _ _ _ _ _ us h => by match us, h with | [_], _ => rfl) ?_) T.c_Works T.m_Works_image
  rintro cdv A outer s H vs Q E hr ⟨⟨n, W, M, βi, ν⟩, rfl, hW, hQ⟩
  have hW : WRaw K H n W M (fun x => .bl (img M βi ν x)) (fun x => .int (ν x % 16)) (fun x => .bl (decide (ν x / 16 = 1))) := hW
  refine ⟨_, 
    (pss_cons (ps_ret (pe_callTy cr_dictD (by rfl) T.f_dict (by decide +kernel) (pa_cons (pe_fldT T (pv 0)) pa_nil))) pss_nil), SS.here ?_⟩
  obtain ⟨fla, fb, fc, fs⟩ := hW.fl T
  exact ss_retR (er_dictD (ev_fld (ev_var rfl) fb) hW.bits) fun v H1 e1 r => hQ v H1 e1 r
structure Kept where
  b : Addr
  c : Addr
  z : Addr
def KeptAt (H : Hp) (v : V) (ns cn zn : List Str) (fb fc fz : Str → V) (q : Kept) : Prop := ∃ t, v = .ref t ∧ H t = some (.tup [.ref q.b, .ref q.c, .ref q.z]) ∧ H q.b = some (.dK (tab ns fb)) ∧ H q.c = some (.dK (tab cn fc)) ∧ H q.z = some (.dK (tab zn fz))
def spKept (K : PySem.W.Frag) : Sp := spP (ι := WArg) (fun i => [.ref i.W.a]) (fun i H => WorksAt K H i.n i.W i.M i.βi i.ν ∧ LdrOk i.M) (fun i H v H2 => ∃ q, KeptAt H2 v i.M.names (cnames i.M.rungs) (znames i.M.rungs) (fun x => .bl (bit i.M.rungs i.ν x)) (fun x => .int (i.ν x % 16)) (fun x => .bl (decide (i.ν x / 16 = 1))) q)
theorem m_kept (T : Tx w K mg base) : Met PG w K mg base 2 (He.ga K "Works") "kept" (spKept K) := by
  refine met_of (fnd ["self", "bits", "name"] ["self"] T.d_Works_kept (by decide +kernel) (spP_len fun _ => rfl) (fun _ _ _ _ _ _ us h => by match us, h with | [_], _ => rfl) ?_) T.c_Works T.m_Works_kept
  rintro cdv A outer s H vs Q E hr ⟨⟨n, W, M, βi, ν⟩, rfl, ⟨hW, ok⟩, hQ⟩
  have hW : WRaw K H n W M (fun x => .bl (img M βi ν x)) (fun x => .int (ν x % 16)) (fun x => .bl (decide (ν x / 16 = 1))) := hW
  have ok : LdrOk M := ok
  have nd : (["self", "bits", "name"] : List Str).Nodup := by decide +kernel
  refine ⟨_, 
    (pss_cons (ps_set (i := 1) nd rfl (Or.inl rfl) pe_dnewK) 
    (pss_cons (ps_for (passes_of rfl) rfl (pi_seq (pe_me0 T hr pass0 (pe_fldT T (pv 0)))) (pg_name (i := 2) nd rfl (Or.inl rfl)) 
    (pss_cons (ps_dput (hu_of hr) (pv 1) (pv 2) (pe_dget (hu_of hr) (pe_fldT T (pv 0)) (pv 2) (fun _ _ => rfl)) rfl) pss_nil)) 
    (pss_cons (ps_ret (pe_tup (pa_cons (pv 1) (pa_cons (pe_callTy cr_dictD (by rfl) T.f_dict (by decide +kernel) (pa_cons (pe_fldT T (pv 0)) pa_nil)) (pa_cons (pe_callTy cr_dictD (by rfl) T.f_dict (by decide +kernel) (pa_cons (pe_fldT T (pv 0)) pa_nil)) pa_nil))))) pss_nil))), SS.here ?_⟩
  have nl := ok.nl
  refine ss_asgR er_dnew fun v H1 e1 ⟨d, ev, hd0, hd1⟩ => ?_
  subst ev
  obtain ⟨fla, _, _, _⟩ := (hW.ex e1).fl T
  refine ss_forNT (ev_written T (ev_fld (ev_var rfl) fla) (hW.ex e1).lad) (fun t i σ' F => (∃ o, σ' = [some (.ref W.a), some (.ref d), o]) ∧ Ex H F ∧ F t = some (.tup (M.names.map V.str)) ∧ F d = some (.dK (tab (M.names.take i) fun x => .bl (bit M.rungs ν x)))) (fun t H2 e2 _ ht => ⟨⟨_, rfl⟩, e1.trans e2, ht, e2 _ _ hd1⟩) (fun t i σ' F _ ⟨_, _, ht, _⟩ => ht) ?_ ?_
  · rintro t i x σ' F hx ⟨⟨o, rfl⟩, e, ht, hd⟩
    rw [List.getElem?_map] at hx
    obtain ⟨y, hy, rfl⟩ := Option.map_eq_some_iff.mp hx
    have hyn := List.mem_of_getElem? hy
    have hWF := hW.ex e
    obtain ⟨_, fb, _, _⟩ := hWF.fl T
    have ei : img M βi ν y = bit M.rungs ν y := by
      unfold img
      rw [if_neg (fun z => ok.inw _ z hyn), if_pos hyn]
    refine ss_dput (kk := .inr y) (v := .bl (bit M.rungs ν y)) (by rw [← ei]; exact ev_dget (ev_fld (ev_var rfl) fb) (ev_var rfl) (dget_tab hWF.bits (List.mem_append_right _ hyn))) (ev_var rfl) (ev_var rfl) hd (by rw [tab_len, List.length_take]; omega) (ss_end fun H2 e2 => ⟨⟨_, rfl⟩, (e.mut hd0).trans e2, e2 _ _ (by rw [upd_ne (fun z => by rw [z, hd] at ht; cases ht)]; exact ht), ?_⟩)
    rw [e2 _ _ upd_same, put_new (nodup_take (namesOf_nodup _) hy), take_snoc hy]
    exact congrArg (fun z => some (HO.dK z)) (tab_congr fun x _ => by split; (rename_i h; rw [h]); rfl)
  · rintro t σ' F ⟨⟨o, rfl⟩, e, ht, hd⟩
    rw [List.length_map, List.take_length] at hd
    have hWF := hW.ex e
    obtain ⟨_, fb, fc, fs⟩ := hWF.fl T
    refine SS.here (ss_retR (er_tup (R := fun vs H2 => ∃ c z, vs = [.ref d, .ref c, .ref z] ∧ H2 d = some (.dK (tab M.names fun x => .bl (bit M.rungs ν x))) ∧ H2 c = some (.dK (tab (cnames M.rungs) fun x => .int (ν x % 16))) ∧ H2 z = some (.dK (tab (znames M.rungs) fun x => .bl (decide (ν x / 16 = 1))))) ?_ fun vs H2 ⟨c, z, e, _⟩ => by rw [e]; show 3 ≤ 100000; decide) fun v H2 e2 ⟨p, vs, ev, _, hp, H3, e3, c, z, evs, a1, a2, a3⟩ => hQ v H2 (e.trans e2) ⟨⟨d, c, z⟩, p, ev, by rw [hp, evs], e3 _ _ a1, e3 _ _ a2, e3 _ _ a3⟩)
    refine ar_cons (ev_rel (ev_var rfl)) fun x F1 e1 ex => ?_
    refine ar_cons (er_dictD (ev_fld (ev_var rfl) (fc.ex e1)) (e1 _ _ hWF.cnt)) fun y F2 e2 ⟨c, ey, _, hc⟩ => ?_
    refine ar_cons (er_dictD (ev_fld (ev_var rfl) (fs.ex (e1.trans e2))) ((e1.trans e2) _ _ hWF.seen)) fun u F3 e3 ⟨z, eu, _, hz⟩ => ?_
    exact fun F4 e4 Q q => q [] F4 (.refl _) ⟨c, z, by rw [ex, ey, eu], (e1.trans (e2.trans (e3.trans e4))) _ _ hd, (e3.trans e4) _ _ hc, e4 _ _ hz⟩
structure PBArg extends WArg where
  v : V
  q : Kept
  ν' : Nu
  cn : List Str
  zn : List Str
def spPutBack (K : PySem.W.Frag) : Sp := fun vs H Q _ => ∃ i : PBArg, vs = [.ref i.W.a, i.v] ∧ (WorksAt K H i.n i.W i.M i.βi i.ν ∧ LdrOk i.M ∧ KeptAt H i.v i.M.names i.cn i.zn (fun x => .bl (bit i.M.rungs i.ν' x)) (fun x => .int (i.ν' x % 16)) (fun x => .bl (decide (i.ν' x / 16 = 1))) i.q ∧ (i.q.b ∉ i.W.dd ∧ i.q.c ∉ i.W.dd ∧ i.q.z ∉ i.W.dd) ∧
    (∀ x, x ∈ i.cn ↔ x ∈ cnames i.M.rungs) ∧ (∀ x, x ∈ i.zn ↔ x ∈ znames i.M.rungs) ∧ i.cn.length ≤ 1000 ∧ i.zn.length ≤ 1000) ∧
  ∀ v H2, Mo i.W.dd H H2 → WorksAt K H2 i.n i.W i.M (fun _ => false) i.ν' → Q v H2
theorem m_put_back (T : Tx w K mg base) : Met PG w K mg base 1 (He.ga K "Works") "put_back" (spPutBack K) := by
  refine met_of (fnd ["self", "kept", "name"] ["self", "kept"] T.d_Works_put_back (by decide +kernel) (fun vs H Q E ⟨_, e, _⟩ => by rw [e]; rfl) (fun _ _ _ _ _ _ us h => by match us, h with | [_, _], _ => rfl) ?_) T.c_Works T.m_Works_put_back
  rintro cdv A outer s H vs Q E hr ⟨⟨⟨n, W, M, βi, ν⟩, v, ⟨b, c, z⟩, ν', cn, zn⟩, rfl, ⟨hW, ok, ⟨t, ev, ht, hb, hc, hz⟩, ⟨nb, nc, nz⟩, ecn, ezn, lcn, lzn⟩, hQ⟩
  have ev : v = .ref t := ev
  subst ev
  have hW : WRaw K H n W M (fun x => .bl (img M βi ν x)) (fun x => .int (ν x % 16)) (fun x => .bl (decide (ν x / 16 = 1))) := hW
  have ok : LdrOk M := ok
  have nd : (["self", "kept", "name"] : List Str).Nodup := by decide +kernel
  have ht : H t = some (.tup [.ref b, .ref c, .ref z]) := ht
  have hb : H b = some (.dK (tab M.names fun x => .bl (bit M.rungs ν' x))) := hb
  have hc : H c = some (.dK (tab cn fun x => .int (ν' x % 16))) := hc
  have hz : H z = some (.dK (tab zn fun x => .bl (decide (ν' x / 16 = 1)))) := hz
  have nb : b ∉ W.dd := nb
  have nc : c ∉ W.dd := nc
  have nz : z ∉ W.dd := nz
  refine ⟨_, 
    (pss_cons (ps_for (passes_of rfl) rfl (pi_seq (pe_fldT T (pe_fldT T (pv 0)))) (pg_name (i := 2) nd rfl (Or.inl rfl)) 
    (pss_cons (ps_dput (hu_of hr) (pe_fldT T (pv 0)) (pv 2) pe_bl rfl) pss_nil)) 
    (pss_cons (ps_expr (pe_bm PySem.F.plainAttrs_dict PySem.F.slot_dict_update PySem.F.type_dict_update mt_dupd (pe_fldT T (pv 0)) (pa_cons (pe_ix (ix_tT T) (pv 1) pe_int (fun _ _ => rfl)) pa_nil))) 
    (pss_cons (ps_expr (pe_bm PySem.F.plainAttrs_dict PySem.F.slot_dict_update PySem.F.type_dict_update mt_dupd (pe_fldT T (pv 0)) (pa_cons (pe_ix (ix_tT T) (pv 1) pe_int (fun _ _ => rfl)) pa_nil))) 
    (pss_cons (ps_expr (pe_bm PySem.F.plainAttrs_dict PySem.F.slot_dict_update PySem.F.type_dict_update mt_dupd (pe_fldT T (pv 0)) (pa_cons (pe_ix (ix_tT T) (pv 1) pe_int (fun _ _ => rfl)) pa_nil))) pss_nil)))), SS.here ?_⟩
  have hdic := hW.dicts
  obtain ⟨bl, cl, zl⟩ := hW.lens
  have lcn : cn.length ≤ 1000 := lcn
  have lzn : zn.length ≤ 1000 := lzn
  have il := ok.il
  have nl := ok.nl
  have cl := Nat.le_trans (namesOf_len _) (Nat.le_trans (List.length_filter_le (fun r : RungV => decide (3 ≤ r.2.kind)) M.rungs) ok.rl)
  have zl := Nat.le_trans (namesOf_len _) (Nat.le_trans (List.length_filter_le (fun r : RungV => decide (r.2.kind = 4)) M.rungs) ok.rl)
  obtain ⟨fla, fb, fc, fs⟩ := hW.fl T
  obtain ⟨ti, fi, hti⟩ := hW.lad.fi T
  refine ss_forSq (k := false) (ev_fld (ev_fld (ev_var rfl) fla) fi) (.of hti) (fun i σ' H' => (∃ o, σ' = [some (.ref W.a), some (.ref t), o]) ∧ Mo W.dd H H' ∧ WRaw K H' n W M (fun x => .bl (if x ∈ M.ins.take i then false else img M βi ν x)) (fun x => .int (ν x % 16)) (fun x => .bl (decide (ν x / 16 = 1))))
    (fun H1 e1 => ⟨⟨_, rfl⟩, .of e1, (hW.ex e1).fin (fun x _ => by rw [List.take_zero, if_neg (by simp)]) (fun _ _ => rfl) fun _ _ => rfl⟩)
    (fun i σ' H' _ ⟨_, m, _⟩ => .of (m.im hdic _ _ hti rfl)) ?_ ?_
  · rintro i x σ' H' hx ⟨⟨o, rfl⟩, m, w⟩
    rw [List.getElem?_map] at hx
    obtain ⟨nm, hnm, rfl⟩ := Option.map_eq_some_iff.mp hx
    obtain ⟨_, fb', _, _⟩ := w.fl T
    refine ss_dput (kk := .inr nm) ev_c (ev_fld (ev_var rfl) fb') (ev_var rfl) w.bits (by rw [tab_len]; exact bl) (ss_end fun H1 e1 => ⟨⟨_, rfl⟩, (m.put (by simp)).trans (.of e1), ((w.putB (v := .bl false) (List.mem_append_left _ (List.mem_of_getElem? hnm))).ex e1).fin (fun z _ => ?_) (fun _ _ => rfl) fun _ _ => rfl⟩)
    rw [take_snoc hnm]
    by_cases e : z = nm
    · rw [if_pos e, e, if_pos (by simp)]
    · rw [if_neg e]
      have : (z ∈ M.ins.take i ++ [nm]) ↔ z ∈ M.ins.take i := by simp [e]
      simp only [this]
  · rintro σ' H' ⟨⟨o, rfl⟩, m, w⟩
    refine SS.here ?_
    obtain ⟨_, fb, fc, fs⟩ := w.fl T
    have ht' := m.im hdic _ _ ht rfl
    refine ss_dupd (ev_fld (ev_var rfl) fb) (ev_op (ev_var rfl) ev_c (rv_ixT (.of ht') (atI_nat (j := 0) rfl))) w.bits (m _ _ hb nb) (fun e => nb (by simp [← e])) (by rw [tab_len, tab_len, List.length_append]; show M.ins.length + M.names.length + M.names.length ≤ _; omega) ?_
    have w1 : WRaw K (upd H' W.db (.dK (mergeK (tab (M.ins ++ M.names) fun x => .bl (if x ∈ M.ins.take (M.ins.map V.str).length then false else img M βi ν x)) (tab M.names fun x => .bl (bit M.rungs ν' x))))) n W M (fun x => .bl (img M (fun _ => false) ν' x)) (fun x => .int (ν x % 16)) (fun x => .bl (decide (ν x / 16 = 1))) := by
      refine ⟨(w.put w.bits rfl).1, (w.put w.bits rfl).2, ?_, by rw [upd_ne (Ne.symm w.n1)]; exact w.cnt, by rw [upd_ne (Ne.symm w.n2)]; exact w.seen, w.n1, w.n2, w.n3⟩
      rw [upd_same, merge_tab fun x hx => List.mem_append_right _ hx]
      refine congrArg (fun z => some (HO.dK z)) (tab_congr fun x hx => ?_)
      rw [List.length_map, List.take_length]
      unfold img
      by_cases h1 : x ∈ M.names
      · rw [if_pos h1, if_neg (fun z => ok.inw x z h1), if_pos h1]
      · have h2 := (List.mem_append.mp hx).resolve_right h1
        rw [if_neg h1, if_pos h2, if_pos h2]
    have m1 : Mo W.dd H (upd H' W.db (.dK (mergeK (tab (M.ins ++ M.names) fun x => .bl (if x ∈ M.ins.take (M.ins.map V.str).length then false else img M βi ν x)) (tab M.names fun x => .bl (bit M.rungs ν' x))))) := m.put (by simp)
    revert w1 m1
    generalize upd H' W.db (.dK (mergeK (tab (M.ins ++ M.names) fun x => .bl (if x ∈ M.ins.take (M.ins.map V.str).length then false else img M βi ν x)) (tab M.names fun x => .bl (bit M.rungs ν' x)))) = B
    intro w1 m1
    obtain ⟨_, _, fc, _⟩ := w1.fl T
    refine ss_dupd (ev_fld (ev_var rfl) fc) (ev_op (ev_var rfl) ev_c (rv_ixT (.of (m1.im hdic _ _ ht rfl)) (atI_nat (j := 1) rfl))) w1.cnt (m1 _ _ hc nc) (fun e => nc (by simp [← e])) (by rw [tab_len, tab_len]; show (namesOf _).length + _ ≤ _; omega) ?_
    have w2 : WRaw K (upd B W.dc (.dK (mergeK (tab (cnames M.rungs) fun x => .int (ν x % 16)) (tab cn fun x => .int (ν' x % 16))))) n W M (fun x => .bl (img M (fun _ => false) ν' x)) (fun x => .int (ν' x % 16)) (fun x => .bl (decide (ν x / 16 = 1))) := by
      refine ⟨(w1.put w1.cnt rfl).1, (w1.put w1.cnt rfl).2, by rw [upd_ne w1.n1]; exact w1.bits, ?_, by rw [upd_ne (Ne.symm w1.n3)]; exact w1.seen, w1.n1, w1.n2, w1.n3⟩
      rw [upd_same, merge_tab fun x hx => (ecn x).mp hx]
      exact congrArg (fun z => some (HO.dK z)) (tab_congr fun x hx => by rw [if_pos ((ecn x).mpr hx)])
    have m2 : Mo W.dd H (upd B W.dc (.dK (mergeK (tab (cnames M.rungs) fun x => .int (ν x % 16)) (tab cn fun x => .int (ν' x % 16))))) := m1.put (by simp)
    revert w2 m2
    generalize upd B W.dc (.dK (mergeK (tab (cnames M.rungs) fun x => .int (ν x % 16)) (tab cn fun x => .int (ν' x % 16)))) = C
    intro w2 m2
    obtain ⟨_, _, _, fs⟩ := w2.fl T
    refine ss_dupd (ev_fld (ev_var rfl) fs) (ev_op (ev_var rfl) ev_c (rv_ixT (.of (m2.im hdic _ _ ht rfl)) (atI_nat (j := 2) rfl))) w2.seen (m2 _ _ hz nz) (fun e => nz (by simp [← e])) (by rw [tab_len, tab_len]; show (namesOf _).length + _ ≤ _; omega) ?_
    refine ss_end fun H9 e9 => hQ .non H9 ((m2.put (by simp)).trans (.of e9)) (WRaw.ex (n := n) (W := W) (M := M) ?_ e9)
    refine ⟨(w2.put w2.seen rfl).1, (w2.put w2.seen rfl).2, by rw [upd_ne w2.n2]; exact w2.bits, by rw [upd_ne w2.n3]; exact w2.cnt, ?_, w2.n1, w2.n2, w2.n3⟩
    rw [upd_same, merge_tab fun x hx => (ezn x).mp hx]
    exact congrArg (fun z => some (HO.dK z)) (tab_congr fun x hx => by rw [if_pos ((ezn x).mpr hx)])
end
end RgK
set_option Elab.async false
set_option linter.all false
set_option maxRecDepth 100000
set_option maxHeartbeats 4000000

/-! The ends that count, how many bits, the state of works. -/
namespace RgK
open PySem PySem.Spec PyProof.Rows L2 Evl
local macro_rules | `(tactic| walk_at "ev") => `(tactic| repeat' (first
  | with_reducible exact ev_c
  | with_reducible exact ea_nil
  | ((with_reducible apply ev_var); first | rfl | assumption)
  | with_reducible apply ea_cons
  | with_reducible apply ev_fld
  | ((with_reducible show Fld _ _ _ _ _); assumption)
  | with_reducible exact rv_I0
  | with_reducible exact ru_neg
  | with_reducible exact rv_eq rfl
  | with_reducible exact rv_ne rfl
  | ((with_reducible apply rv_I); first | decide | omega | assumption)
  | ((with_reducible show _ = _ → EvT _ _ _ _); intro _)
  | ((with_reducible show _ = _ → Ev _ _ _ _); intro _)
  | with_reducible apply et_and
  | with_reducible apply et_or
  | with_reducible apply ev_andV
  | with_reducible apply ev_orV
  | with_reducible apply et_test
  | with_reducible apply et_B
  | with_reducible apply et_not
  | with_reducible apply ev_notV
  | with_reducible apply ev_un
  | with_reducible apply ev_op))

section
variable {K : PySem.W.Frag} {σ : L2.St} {H : Hp} {te : TE} {D : Ends} {tz : TS}
theorem ss_asg3R {i j l : Nat} {R : V → Hp → Prop} (h : EvR te σ H R) (k : ∀ v H1, Ex H H1 → R v H1 → ∃ T a b c, v = .ref T ∧ H1 T = some (.tup [a, b, c]) ∧ SS tz D (((σ.set i (some a)).set j (some b)).set l (some c)) H1) : SS (tSeq (tAsg te (gTup K 3 (gCons (gName i) (gCons (gName j) (gCons (gName l) gNil))))) tz) D σ H :=
  fun H1 e1 => h H1 e1 _ fun v H2 e2 hr => by
    obtain ⟨T, a, b, c, ev, hT, q⟩ := k v H2 (e1.trans e2) hr
    exact ⟨T, [a, b, c], ev, .of hT, rfl, a, [b, c], rfl, b, [c], rfl, c, [], rfl, rfl, q.here⟩
/-- over texts -/
theorem er_lcS {k : Bool} {a : Addr} {ks : List Str} {tl te : TE} {j : Nat} {vs : List Nat} (f : Str → V) (h : Ev tl σ H (.ref a)) (hx : Sq K k H a (ks.map V.str)) (hn : ks.length ≤ 50000) (hw : ∀ x, wipe ((wipe σ vs).set j (some x)) vs = wipe σ vs)
    (hs : ∀ x, x ∈ ks → Ev te ((wipe σ vs).set j (some (.str x))) H (f x)) : EvR (tLc (iSeq K tl) (gName j) tYes (tHide te) vs) σ H (NewL H (ks.map f)) := by
  have key := er_lcV (te := te) (fun _ x => match x with
    | .str x => f x
    | _ => .non) h hx (by rw [List.length_map]; exact hn) hw fun i x hi => by
      rw [List.getElem?_map] at hi
      obtain ⟨y, hy, rfl⟩ := Option.map_eq_some_iff.mp hi
      exact hs y (List.mem_of_getElem? hy)
  have e2 : (ks.map V.str).mapIdx (fun _ x => match x with
    | .str x => f x
    | _ => .non) = ks.map f := by
    rw [List.mapIdx_eq_zipIdx_map]
    apply List.ext_getElem?
    intro i
    simp
    cases ks[i]? <;> rfl
  rwa [e2] at key
theorem rv_ipI {f : Int → Int → Int} {a b c : Int} (h : f a b = c) : RV (ipI f) (.int a) (.int b) H (.int c) := by
  subst h
  exact fun H1 _ Q q => ⟨a, b, rfl, rfl, q H1 (.refl _)⟩
theorem rc_intB {b : Bool} : RC (fun xs H Q => (∃ i, xs = [.int i] ∧ Q (.int i) H) ∨ ∃ k, xs = [.bl k] ∧ Q (.int (if k then 1 else 0)) H) [.bl b] H (.int (b2n b)) := fun H1 e1 Q q => .inr ⟨b, rfl, q H1 (.refl _)⟩
end
def EndsAt (K : PySem.W.Frag) (H : Hp) (d : Addr) (rs : List RungV) : Prop := ∃ q : Str → Addr, H d = some (.dK (tab (cnames rs) fun x => .ref (q x))) ∧ ∀ x e, cEnd rs x = some e → EndAt K H (q x) e
theorem EndsAt.ex {K : PySem.W.Frag} {H H' : Hp} {d : Addr} {rs : List RungV} (h : EndsAt K H d rs) (e : Ex H H') : EndsAt K H' d rs := let ⟨q, a, b⟩ := h; ⟨q, e _ _ a, fun x y z => (b x y z).im (.of e)⟩
theorem EndsAt.mo {K : PySem.W.Frag} {H H' : Hp} {ds : List Addr} {d : Addr} {rs : List RungV} (h : EndsAt K H d rs) (m : Mo ds H H') (n : d ∉ ds) (i : Ip H H') : EndsAt K H' d rs := let ⟨q, a, b⟩ := h; ⟨q, m _ _ a n, fun x y z => (b x y z).im i⟩
section
variable {w : World} {K : PySem.W.Frag} {mg : Mg} {base : Heap} {k : Nat}
def spEnds (K : PySem.W.Frag) : Sp := spP (ι := LArg) (fun i => [.ref i.a]) (fun i H => LadderAt K H i.n i.a i.M ∧ LdrOk i.M) (fun i H v H2 => ∃ p, v = .ref p ∧ H p = none ∧ EndsAt K H2 p i.M.rungs)
theorem c_counting_ends (T : Tx w K mg base) : Cal PG w K mg base 1 "counting_ends" (spEnds K) := by
  refine cal_of (fnd ["ladder", "found", "rung"] ["ladder"] T.d_counting_ends (by decide +kernel) (spP_len fun _ => rfl) (fun _ _ _ _ _ _ us h => by match us, h with | [_], _ => rfl) ?_) T.g_counting_ends
  rintro cdv A outer s H vs Q E hr ⟨⟨n, a, M⟩, rfl, ⟨hL, ok⟩, hQ⟩
  have hL : LadderAt K H n a M := hL
  have ok : LdrOk M := ok
  have nd : (["ladder", "found", "rung"] : List Str).Nodup := by decide +kernel
  refine ⟨_, 
    (pss_cons (ps_set (i := 1) nd rfl (Or.inl rfl) pe_dnewK) 
    (pss_cons (ps_for (passes_of rfl) rfl (pi_seq (pe_fldT T (pv 0))) (pg_name (i := 2) nd rfl (Or.inl rfl)) 
    (pss_cons (ps_if (pt_val (pe_callB call_isiT (by rfl) T.f_isinstance (by decide +kernel) (pa_cons (pe_fldT T (pv 2)) (pa_cons (pe_tup (pa_cons (pe_globR (by rfl) T.g_Timer) (pa_cons (pe_globR (by rfl) T.g_Counter) pa_nil))) pa_nil)))) 
    (pss_cons (ps_dput (hu_of hr) (pv 1) (pe_fldT T (pe_fldT T (pv 2))) (pe_fldT T (pv 2)) rfl) pss_nil) pss_nil) pss_nil)) 
    (pss_cons (ps_ret (pv 1)) pss_nil))), SS.here ?_⟩
  have il := hL.len
  refine ss_asgR er_dnew fun v H1 e1 ⟨d, ev, hd0, hd1⟩ => ?_
  subst ev
  obtain ⟨tr, rs, fr, htr, hrs⟩ := hL.fr T
  refine ss_forSq (k := false) (ev_fld (ev_var rfl) (fr.ex e1)) (.of (e1 _ _ htr)) (fun i σ' F => (∃ o, σ' = [some (.ref a), some (.ref d), o]) ∧ Ex H F ∧ ∃ q : Str → Addr, F d = some (.dK (tab (cnames (M.rungs.take i)) fun x => .ref (q x))) ∧ ∀ x ∈ cnames (M.rungs.take i), ∃ r ∈ M.rungs, r.2.name = x ∧ 3 ≤ r.2.kind ∧ EndAt K H (q x) r.2)
    (fun H2 e2 => ⟨⟨_, rfl⟩, e1.trans e2, fun _ => 0, e2 _ _ hd1, fun x hx => by simp [cnames, namesOf] at hx⟩) (fun i σ' F _ ⟨_, e, _⟩ => .of (e _ _ htr)) ?_ ?_
  · rintro i x σ' F hx ⟨⟨o, rfl⟩, e, q, hd, hq⟩
    obtain ⟨ra, r, rfl, hri, hra⟩ := paired_at hrs hx
    have hrm : r ∈ M.rungs := List.mem_of_getElem? hri
    have hk := (ok.ends r hrm).k
    obtain ⟨p, fp0, hp0⟩ := hra.end_ T
    have fp := fp0.ex e
    have hp := hp0.im (.of e)
    have c1 : (cnames (M.rungs.take i)).length < 100000 := by
      have h1 := namesOf_len ((M.rungs.take i).filter fun r => decide (3 ≤ r.2.kind))
      have h2 := List.length_filter_le (fun r : RungV => decide (3 ≤ r.2.kind)) (M.rungs.take i)
      rw [List.length_take] at h2
      show (namesOf _).length < _
      omega
    refine ss_when (et_B (ev_endT T (ev_fld (ev_var rfl) fp) hp 3 4 (by decide) (by decide))) (fun hb => ?_) fun hb => ss_end fun H2 e2 => ⟨⟨_, rfl⟩, e.trans e2, q, ?_, ?_⟩
    · rw [isK34 hk] at hb
      have hb := of_decide_eq_true hb
      refine ss_dput (kk := .inr r.2.name) (ev_fld (ev_var rfl) fp) (ev_var rfl) (ev_fld (ev_fld (ev_var rfl) fp) (hp.name T)) hd (by rw [tab_len]; exact c1) (ss_end fun H2 e2 => ⟨⟨_, rfl⟩, (e.mut hd0).trans e2, fun x => if x = r.2.name then p else q x, ?_, ?_⟩)
      · rw [e2 _ _ upd_same, put_add, take_snoc hri, cnames_snoc, if_pos hb]
        exact congrArg (fun z => some (HO.dK z)) (tab_congr fun x _ => by
          show (if x = r.2.name then V.ref p else V.ref (q x)) = V.ref (if x = r.2.name then p else q x)
          by_cases z : x = r.2.name
          · rw [if_pos z, if_pos z]
          · rw [if_neg z, if_neg z])
      · intro x hx
        rw [take_snoc hri, cnames_snoc, if_pos hb, mem_addN] at hx
        by_cases z : x = r.2.name
        · exact ⟨r, hrm, z.symm, hb, by show EndAt K H (if x = r.2.name then p else q x) r.2; rw [if_pos z]; exact hp0⟩
        · obtain ⟨r', a1, a2, a3, a4⟩ := hq x (hx.resolve_right z)
          exact ⟨r', a1, a2, a3, by show EndAt K H (if x = r.2.name then p else q x) r'.2; rw [if_neg z]; exact a4⟩
    · rw [isK34 hk] at hb
      rw [take_snoc hri, cnames_snoc, if_neg (of_decide_eq_false hb)]
      exact e2 _ _ hd
    · rw [isK34 hk] at hb
      rw [take_snoc hri, cnames_snoc, if_neg (of_decide_eq_false hb)]
      exact hq
  · rintro σ' F ⟨⟨o, rfl⟩, e, q, hd, hq⟩
    rw [List.length_map, paired_len hrs, List.take_length] at hd hq
    refine SS.here (ss_ret (ev_var rfl) fun H2 e2 => hQ _ H2 (e.trans e2) ⟨d, rfl, hd0, q, e2 _ _ hd, fun x y hc => ?_⟩)
    obtain ⟨r, hr, hn, h3, hp⟩ := hq x (mem_cnames.mpr (by rw [hc]; rfl))
    have := own_count ok.own hr h3
    rw [hn, hc] at this
    cases this
    exact hp.im (.of (e.trans e2))
structure BtArg where
  d : Addr
  rs : List RungV
  x : Str
def spBitsOf (K : PySem.W.Frag) : Sp := spP (ι := BtArg) (fun i => [.ref i.d, .str i.x]) (fun i H => EndsAt K H i.d i.rs ∧ ∀ r ∈ i.rs, r.2.kind < 5) (fun i H v H2 => v = .int (wd i.rs i.x : Nat))
theorem c_bits_of (T : Tx w K mg base) : Cal PG w K mg base 1 "bits_of" (spBitsOf K) := by
  refine cal_of (fnd ["ends", "name"] ["ends", "name"] T.d_bits_of (by decide +kernel) (spP_len fun _ => rfl) (fun _ _ _ _ _ _ us h => by match us, h with | [_, _], _ => rfl) ?_) T.g_bits_of
  rintro cdv A outer s H vs Q E hr ⟨⟨d, rs, x⟩, rfl, ⟨⟨q, hd, hq⟩, hk⟩, hQ⟩
  have hd : H d = some (.dK (tab (cnames rs) fun x => .ref (q x))) := hd
  have hq : ∀ x e, cEnd rs x = some e → EndAt K H (q x) e := hq
  have hk : ∀ r ∈ rs, r.2.kind < 5 := hk
  have nd : (["ends", "name"] : List Str).Nodup := by decide +kernel
  refine ⟨_, 
    (pss_cons (ps_if (pt_cmp (pc_dnotin (hu_of hr) (pv 1) (pv 0)) (by with_unfolding_all rfl)) 
    (pss_cons (ps_ret pe_int) pss_nil) pss_nil) 
    (pss_cons (ps_ret (pe_op op_add (pe_globI (by rfl) T.i_COUNT_BITS_states) (pe_callTy call_int1 (by rfl) T.f_int (by decide +kernel) (pa_cons (pe_callB call_isi (by rfl) T.f_isinstance (by decide +kernel) (pa_cons (pe_dget (hu_of hr) (pv 0) (pv 1) (fun _ _ => rfl)) (pa_cons (pe_globR (by rfl) T.g_Counter) pa_nil))) pa_nil)))) pss_nil)), SS.here ?_⟩
  refine ss_when (et_test (ev_dnotin (ev_var rfl) (ev_var rfl) (dget_tabO hd))) (fun z => ?_) fun z => ?_
  · have hn : x ∉ cnames rs := fun h => by rw [if_pos h] at z; cases z
    have hc : cEnd rs x = none := by
      cases h : cEnd rs x with
      | none => rfl
      | some _ => exact absurd (mem_cnames.mpr (by rw [h]; rfl)) hn
    exact ss_ret ev_c fun H1 e1 => hQ _ H1 e1 (by show V.int 1 = V.int (wd rs x : Nat); unfold wd; rw [hc]; rfl)
  · have hn : x ∈ cnames rs := Classical.byContradiction fun h => by rw [if_neg h] at z; cases z
    obtain ⟨e, he⟩ := Option.isSome_iff_exists.mp (mem_cnames.mp hn)
    obtain ⟨_, _, r, hr', er⟩ := cEnd_some he
    have hk5 : e.kind < 5 := by rw [← er]; exact hk r hr'
    have hw : wd rs x = if e.kind = 4 then 5 else 4 := by unfold wd; rw [he]
    refine ss_ret (ev_op ev_c (ev_cb (ea_cons (ev_cb (ea_cons (ev_dget (ev_var rfl) (ev_var rfl) (dget_tab hd hn)) (ea_cons ev_c ea_nil)) (rc_end T (hq x e he) 4 (by decide))) ea_nil) rc_intB) rv_I0) fun H1 e1 => hQ _ H1 e1 ?_
    show V.int (4 + b2n (isK e.kind 4)) = V.int (wd rs x : Nat)
    rw [hw, isK4 hk5]
    by_cases h4 : e.kind = 4
    · rw [if_pos h4, decide_eq_true h4]; rfl
    · rw [if_neg h4, decide_eq_false h4]; rfl
theorem spBitsOf_r {d : Addr} {rs : List RungV} {x : Str} {H : Hp} (h : EndsAt K H d rs) (hk : ∀ r ∈ rs, r.2.kind < 5) : SpR (spBitsOf K) [.ref d, .str x] H (fun v _ => v = .int (wd rs x : Nat)) := spP_r ⟨d, rs, x⟩ rfl (fun H1 e1 => ⟨h.ex e1, hk⟩) fun _ _ _ _ _ r => r
theorem ev_bits_of (T : Tx w K mg base) {j : Nat} {σ : L2.St} {H : Hp} {ta tb : TE} {d : Addr} {rs : List RungV} {x : Str} {E : L2.St → XK} (ha : Ev ta σ H (.ref d)) (hb : Ev tb σ H (.str x)) (h : EndsAt K H d rs) (hk : ∀ r ∈ rs, r.2.kind < 5) : Ev (tFn (Cal PG w K mg base (j + 1) "bits_of") E (tCons ta (tCons tb tNil))) σ H (.int (wd rs x : Nat)) :=
  ev_fnV (ea_cons ha (ea_cons hb ea_nil)) ((c_bits_of T).mono (by omega)) (spBitsOf_r h hk)
theorem er_ends (T : Tx w K mg base) {j n : Nat} {σ : L2.St} {H : Hp} {ta : TE} {a : Addr} {M : Ldr} {E : L2.St → XK} (ha : Ev ta σ H (.ref a)) (h : LadderAt K H n a M) (ok : LdrOk M) : EvR (tFn (Cal PG w K mg base (j + 1) "counting_ends") E (tCons ta tNil)) σ H (fun v H2 => ∃ p, v = .ref p ∧ H p = none ∧ EndsAt K H2 p M.rungs) :=
  er_fnV (ea_cons ha ea_nil) ((c_counting_ends T).mono (by omega)) (spP_r ⟨n, a, M⟩ rfl (fun H1 e1 => ⟨h.im (.of e1), ok⟩) fun H1 v H2 e1 e2 ⟨p, a1, a2, a3⟩ => ⟨p, a1, fresh_back e1 a2, a3⟩)
def spWidth (K : PySem.W.Frag) : Sp := spP (ι := LArg) (fun i => [.ref i.a]) (fun i H => LadderAt K H i.n i.a i.M ∧ LdrOk i.M) (fun i H v H2 => v = .int (wsum i.M : Nat))
theorem c_width (T : Tx w K mg base) : Cal PG w K mg base 2 "width" (spWidth K) := by
  refine cal_of (fnd ["ladder", "ends", "name"] ["ladder"] T.d_width (by decide +kernel) (spP_len fun _ => rfl) (fun _ _ _ _ _ _ us h => by match us, h with | [_], _ => rfl) ?_) T.g_width
  rintro cdv A outer s H vs Q E hr ⟨⟨n, a, M⟩, rfl, ⟨hL, ok⟩, hQ⟩
  have hL : LadderAt K H n a M := hL
  have ok : LdrOk M := ok
  have nd : (["ladder", "ends", "name"] : List Str).Nodup := by decide +kernel
  refine ⟨_, 
    (pss_cons (ps_set (i := 1) nd rfl (Or.inr rfl) (pe_fn T hr (by rfl) T.g_counting_ends pass0 T.kp_counting_ends (pa_cons (pv 0) pa_nil))) 
    (pss_cons (ps_ret (pe_callB (cr_sum rfl) (by rfl) T.f_sum (by decide +kernel) (pa_cons (pe_lc (own := [("name", 2)]) (g := gName 2) (tt := tYes) rfl nd (pi_seq (pe_me0 T hr pass0 (pv 0))) (blkOk_by (N := ["ladder", "ends", "name"]) (sc := defScope s_width) (own := [("name", 2)]) (by decide +kernel)) (fun _ _ _ _ _ => (pg_name (i := 2) nd rfl (Or.inl rfl))) (fun _ _ _ _ _ => pts_nil) (fun _ _ _ _ _ => pe_hide (pe_fn T hr (by rfl) T.g_bits_of pass0 T.kp_bits_of (pa_cons (pv 1) (pa_cons (pv 2) pa_nil))))) pa_nil))) pss_nil)), SS.here ?_⟩
  have nl := ok.nl
  have hk : ∀ r ∈ M.rungs, r.2.kind < 5 := fun r h => (ok.ends r h).k
  refine ss_asgR (er_ends T (ev_var rfl) hL ok) fun v H1 e1 ⟨d, ev, _, hd⟩ => ?_
  subst ev
  have hs : wsum M = (M.names.map fun x => wd M.rungs x).sum := rfl
  refine ss_ret (v := .int ((M.names.map fun x => ((wd M.rungs x : Nat) : Int)).sum)) (ev_sumL ?_) fun H2 e2 => hQ _ H2 (e1.trans e2) ?_
  · rw [show (M.names.map fun x => ((wd M.rungs x : Nat) : Int)).map V.int = M.names.map fun x => V.int (wd M.rungs x : Nat) by rw [List.map_map]; rfl] at *
    refine er_lcIt (ev_written T (ev_var rfl) (hL.im (.of e1))) fun v F1 f1 ⟨t, ev, _, ht⟩ => ?_
    subst ev
    exact (er_lcS (k := false) (fun x => V.int (wd M.rungs x : Nat)) ev_c (.of ht) (by omega) (fun _ => rfl) fun x _ => ev_bits_of T (ev_var rfl) (ev_var rfl) (hd.ex f1) hk).imp fun v H2 _ ⟨p, a1, a2, a3⟩ => ⟨p, a1, fresh_back f1 a2, a3⟩
  · show V.int _ = V.int (wsum M : Nat)
    rw [hs]
    congr 1
    generalize M.names = l
    induction l with
    | nil => rfl
    | cons x l ih => rw [List.map_cons, List.sum_cons, ih, List.map_cons, List.sum_cons]; rfl
/-! ### state_of() -/
def spState (K : PySem.W.Frag) : Sp := spP (ι := WArg) (fun i => [.ref i.W.a]) (fun i H => WorksAt K H i.n i.W i.M i.βi i.ν ∧ LdrOk i.M ∧ StOk i.M i.ν) (fun i H v H2 => v = .int (stateN i.M i.ν))
theorem num_relay {rs : List RungV} {ν : Nu} {x : Str} (h : NuOk rs ν) (hc : cEnd rs x = none) : b2n (bit rs ν x) = ν x := by
  have := h x
  unfold Fit at this
  unfold bit
  rw [hc] at this ⊢
  have : 0 ≤ ν x ∧ ν x < 2 := this
  show b2n (decide (ν x = 1)) = _
  by_cases z : ν x = 1
  · rw [decide_eq_true z, z]; rfl
  · rw [decide_eq_false z]; show (0 : Int) = _; omega
theorem num_count {n : Int} (h : 0 ≤ n) (z : Bool) (hz : (if z = true then decide (n / 16 = 1) else false) = decide (n / 16 = 1)) (h32 : n < 32) : Builtin.bitOr (n % 16) (b2n (if z = true then decide (n / 16 = 1) else false) * 2 ^ 4) = n := by
  rw [hz, or_shl (by omega) (by show n % 16 < 16; omega) (b2n_range _).1]
  by_cases q : n / 16 = 1
  · rw [decide_eq_true q]; show n % 16 + 1 * 16 = n; omega
  · rw [decide_eq_false q]; show n % 16 + 0 * 16 = n; omega
theorem c_state_of (T : Tx w K mg base) : Cal PG w K mg base 3 "state_of" (spState K) := by
  refine cal_of (fnd ["works", "bits", "counts", "saw", "ends", "state", "at", "name", "number"] ["works"] T.d_state_of (by decide +kernel) (spP_len fun _ => rfl) (fun _ _ _ _ _ _ us h => by match us, h with | [_], _ => rfl) ?_) T.g_state_of
  rintro cdv A outer s H vs Q E hr ⟨⟨n, W, M, βi, ν⟩, rfl, ⟨hW, ok, st⟩, hQ⟩
  have hW : WRaw K H n W M (fun x => .bl (img M βi ν x)) (fun x => .int (ν x % 16)) (fun x => .bl (decide (ν x / 16 = 1))) := hW
  have ok : LdrOk M := ok
  have st : StOk M ν := st
  have nd : (["works", "bits", "counts", "saw", "ends", "state", "at", "name", "number"] : List Str).Nodup := by decide +kernel
  refine ⟨_, 
    (pss_cons (ps_asg (pe_me0 T hr pass0 (pv 0)) (pg_tup rfl (pgs_cons (pg_name (i := 1) nd rfl (Or.inl rfl)) (pgs_cons (pg_name (i := 2) nd rfl (Or.inl rfl)) (pgs_cons (pg_name (i := 3) nd rfl (Or.inl rfl)) pgs_nil))))) 
    (pss_cons (ps_set (i := 4) nd rfl (Or.inl rfl) (pe_fn T hr (by rfl) T.g_counting_ends pass0 T.kp_counting_ends (pa_cons (pe_fldT T (pv 0)) pa_nil))) 
    (pss_cons (ps_set (i := 5) nd rfl (Or.inl rfl) pe_int) 
    (pss_cons (ps_set (i := 6) nd rfl (Or.inl rfl) pe_int) 
    (pss_cons (ps_for (passes_of rfl) rfl (pi_seq (pe_me0 T hr pass0 (pe_fldT T (pv 0)))) (pg_name (i := 7) nd rfl (Or.inl rfl)) 
    (pss_cons (ps_set (i := 8) nd rfl (Or.inl rfl) (pe_callTy call_int1 (by rfl) T.f_int (by decide +kernel) (pa_cons (pe_dget (hu_of hr) (pv 1) (pv 7) (fun _ _ => rfl)) pa_nil))) 
    (pss_cons (ps_if (pt_cmp (pc_din (hu_of hr) (pv 7) (pv 2)) (by with_unfolding_all rfl)) 
    (pss_cons (ps_set (i := 8) nd rfl (Or.inl rfl) (pe_op op_or (pe_dget (hu_of hr) (pv 2) (pv 7) (fun _ _ => rfl)) (pe_op op_shl (pe_callTy call_int1 (by rfl) T.f_int (by decide +kernel) (pa_cons (pe_dget2 (hu_of hr) (pv 3) (pv 7) pe_bl ⟨rfl, rfl, rfl, rfl⟩) pa_nil)) (pe_globI (by rfl) T.i_COUNT_BITS_states)))) pss_nil) pss_nil) 
    (pss_cons (ps_set (i := 5) nd rfl (Or.inl rfl) (pe_op op_or (pv 5) (pe_op op_shl (pv 8) (pv 6)))) 
    (pss_cons (ps_aug (i := 6) nd rfl (Or.inl rfl) (pe_fn T hr (by rfl) T.g_bits_of pass0 T.kp_bits_of (pa_cons (pv 4) (pa_cons (pv 7) pa_nil))) iop_add) pss_nil))))) 
    (pss_cons (ps_ret (pv 5)) pss_nil)))))), SS.here ?_⟩
  have nl := ok.nl
  have hk : ∀ r ∈ M.rungs, r.2.kind < 5 := fun r h => (ok.ends r h).k
  obtain ⟨dx, hobj⟩ := hW.obj
  refine ss_asg3R (er_meV (R := fun v H2 => ∃ q, KeptAt H2 v M.names (cnames M.rungs) (znames M.rungs) (fun x => .bl (bit M.rungs ν x)) (fun x => .int (ν x % 16)) (fun x => .bl (decide (ν x / 16 = 1))) q) (ev_var rfl) hobj (by rfl) ((m_kept T).mono (by omega)) ea_nil (spP_r ⟨n, W, M, βi, ν⟩ rfl (fun H1 e1 => ⟨hW.ex e1, ok⟩) fun _ _ _ _ _ r => r)) fun v H1 e1 ⟨⟨b, c, z⟩, t, ev, ht, hb, hc, hz⟩ => ⟨t, _, _, _, ev, ht, ?_⟩
  have hb : H1 b = some (.dK (tab M.names fun x => .bl (bit M.rungs ν x))) := hb
  have hc : H1 c = some (.dK (tab (cnames M.rungs) fun x => .int (ν x % 16))) := hc
  have hz : H1 z = some (.dK (tab (znames M.rungs) fun x => .bl (decide (ν x / 16 = 1)))) := hz
  have hW1 := hW.ex e1
  obtain ⟨fla, _, _, _⟩ := hW1.fl T
  refine ss_asgR (er_ends T (ev_fld (ev_var rfl) fla) hW1.lad ok) fun v H2 e2 ⟨d, ev, _, hd⟩ => ?_
  subst ev
  refine ss_asg ev_c (ss_asg ev_c ?_)
  have hW2 := hW1.ex e2
  obtain ⟨fla, _, _, _⟩ := hW2.fl T
  let pk := fun (l : List Str) => pack (l.map fun x => (wd M.rungs x, ν x))
  let sm := fun (l : List Str) => (l.map (wd M.rungs)).sum
  have hsm : ∀ l : List Str, sumW (l.map fun x => (wd M.rungs x, ν x)) = sm l := fun l => by show ((l.map _).map _).sum = _; rw [List.map_map]; rfl
  have hrg : ∀ l : List Str, 0 ≤ pk l ∧ pk l < 2 ^ sm l := fun l => by
    have := pack_range (l := l.map fun x => (wd M.rungs x, ν x)) fun p hp => by
      obtain ⟨x, _, rfl⟩ := List.mem_map.mp hp
      exact (st.ok x).range
    rwa [hsm] at this
  have wd5 : ∀ x, wd M.rungs x ≤ 5 := fun x => by
    unfold wd
    split
    · omega
    · split <;> omega
  have hsl : ∀ l : List Str, sm l ≤ 5 * l.length := fun l => by
    induction l with
    | nil => exact Nat.zero_le _
    | cons x l ih =>
      have := wd5 x
      show wd M.rungs x + sm l ≤ 5 * (l.length + 1)
      omega
  refine ss_forNT (ev_written T (ev_fld (ev_var rfl) fla) hW2.lad) (fun t i σ' F => (∃ o7 o8, σ' = [some (.ref W.a), some (.ref b), some (.ref c), some (.ref z), some (.ref d), some (.int (pk (M.names.take i))), some (.int (sm (M.names.take i) : Nat)), o7, o8]) ∧ Ex H2 F ∧ F t = some (.tup (M.names.map V.str))) (fun t F e _ ht => ⟨⟨_, _, rfl⟩, e, ht⟩) (fun t i σ' F _ ⟨_, _, ht⟩ => ht) ?_ ?_
  · rintro t i x σ' F hx ⟨⟨o7, o8, rfl⟩, e, ht⟩
    rw [List.getElem?_map] at hx
    obtain ⟨y, hy, rfl⟩ := Option.map_eq_some_iff.mp hx
    have hyn := List.mem_of_getElem? hy
    have hb' := (e2.trans e) _ _ hb
    have hc' := (e2.trans e) _ _ hc
    have hz' := (e2.trans e) _ _ hz
    have hfit := st.ok y
    have last : ∀ (F1 : Hp), Ex F F1 → SS (tSeq (tAsg (tOp (rI0 fun i j => .int (Builtin.bitOr i j)) (tVar 5) (tOp (rI CPow fun i j => .int (i * 2 ^ j.toNat)) (tVar 8) (tVar 6))) (gName 5)) (tSeq (tAug 6 (tFn (Cal PG w K mg base 2 "bits_of") (fun _ => E0) (tCons (tVar 4) (tCons (tVar 7) tNil))) (ipI fun i j => i + j)) tNext)) { nx := fun σ' F => (∃ o7 o8, σ' = [some (.ref W.a), some (.ref b), some (.ref c), some (.ref z), some (.ref d), some (.int (pk (M.names.take (i + 1)))), some (.int (sm (M.names.take (i + 1)) : Nat)), o7, o8]) ∧ Ex H2 F ∧ F t = some (.tup (M.names.map V.str)), rt := Q } [some (.ref W.a), some (.ref b), some (.ref c), some (.ref z), some (.ref d), some (.int (pk (M.names.take i))), some (.int (sm (M.names.take i) : Nat)), some (.str y), some (.int (ν y))] F1 := by
      intro F1 f1
      have hr1 := hfit.range
      have hlt := hsl (M.names.take i)
      rw [List.length_take] at hlt
      have h5 : ν y < 32 := Int.lt_of_lt_of_le hr1.2 (by
        have := wd5 y
        have : (2 : Nat) ^ wd M.rungs y ≤ 2 ^ 5 := Nat.pow_le_pow_right (by decide) this
        have : ((2 ^ wd M.rungs y : Nat) : Int) ≤ ((2 ^ 5 : Nat) : Int) := Int.ofNat_le.mpr this
        simpa using this)
      have hpk := hrg (M.names.take i)
      refine ss_asg (v := .int (pk (M.names.take (i + 1)))) (ev_is (ev_op (ev_var rfl) (ev_op (ev_var rfl) (ev_var rfl) (rv_I ⟨by omega, by omega, by omega⟩)) rv_I0) ?_) ?_
      · show V.int (Builtin.bitOr (pk (M.names.take i)) (ν y * 2 ^ ((sm (M.names.take i) : Nat) : Int).toNat)) = _
        rw [Int.toNat_natCast, or_shl hpk.1 hpk.2 hr1.1]
        congr 1
        show _ = pack ((M.names.take (i + 1)).map fun x => (wd M.rungs x, ν x))
        rw [take_snoc hy, List.map_append, List.map_singleton, pack_snoc, hsm]
      · refine ss_aug rfl (ev_bits_of T (ev_var rfl) (ev_var rfl) (hd.ex (e.trans f1)) hk) (z := .int (sm (M.names.take (i + 1)) : Nat)) (rv_ipI ?_) (ss_end fun F2 f2 => ⟨⟨_, _, rfl⟩, e.trans (f1.trans f2), (f1.trans f2) _ _ ht⟩)
        show ((sm (M.names.take i) : Nat) : Int) + (wd M.rungs y : Nat) = (sm (M.names.take (i + 1)) : Nat)
        have : sm (M.names.take (i + 1)) = sm (M.names.take i) + wd M.rungs y := by
          show ((M.names.take (i + 1)).map _).sum = _
          rw [take_snoc hy, List.map_append, List.sum_append, List.map_singleton, List.sum_singleton]
        omega
    refine ss_asg (v := .int (b2n (bit M.rungs ν y))) (ev_cb (ea_cons (ev_dget (ev_var rfl) (ev_var rfl) (dget_tab hb' hyn)) ea_nil) rc_intB) ?_
    refine ss_when (et_B (ev_din (ev_var rfl) (ev_var rfl) (dget_tabO hc'))) (fun h => ?_) fun h => ?_
    · have hyc : y ∈ cnames M.rungs := Classical.byContradiction fun z => by rw [if_neg z] at h; cases h
      obtain ⟨e', he⟩ := Option.isSome_iff_exists.mp (mem_cnames.mp hyc)
      unfold Fit at hfit
      rw [he] at hfit
      have hfit : 0 ≤ ν y ∧ ν y % 16 ≤ e'.most ∧ ν y < (if e'.kind = 4 then 32 else 16) := hfit
      have hget : ((if y ∈ znames M.rungs then some (V.bl (decide (ν y / 16 = 1))) else none).getD (V.bl false)) = V.bl (if decide (y ∈ znames M.rungs) = true then decide (ν y / 16 = 1) else false) := by
        by_cases z : y ∈ znames M.rungs
        · rw [if_pos z, if_pos (decide_eq_true z)]; rfl
        · rw [if_neg z, if_neg (by simpa using z)]; rfl
      refine ss_asg (v := .int (ν y)) (ev_is (ev_op (ev_dget (ev_var rfl) (ev_var rfl) (dget_tab hc' hyc)) (ev_op (ev_cb (ea_cons (ev_is (ev_dget2 (ev_var rfl) (.inl ⟨_, .of hz'⟩) (ev_var rfl) ev_c (dget_tabO hz')) hget) ea_nil) rc_intB) ev_c (rv_I ⟨by omega, by omega, ?_⟩)) rv_I0) ?_) (ss_end fun F1 f1 => (last F1 f1).here)
      · have := b2n_range (if decide (y ∈ znames M.rungs) = true then decide (ν y / 16 = 1) else false)
        omega
      · show V.int (Builtin.bitOr (ν y % 16) (b2n _ * 2 ^ 4)) = _
        rw [num_count hfit.1 (decide (y ∈ znames M.rungs)) ?_ (by have := hfit.2.2; split at this <;> omega)]
        by_cases z : y ∈ znames M.rungs
        · rw [if_pos (decide_eq_true z)]
        · rw [if_neg (by simpa using z)]
          have k4 : e'.kind ≠ 4 := fun k => z ((mem_znames ok.own).mpr ⟨e', he, k⟩)
          rw [if_neg k4] at hfit
          exact (decide_eq_false (by omega)).symm
    · have hyc : y ∉ cnames M.rungs := fun z => by rw [if_pos z] at h; cases h
      have hc : cEnd M.rungs y = none := by
        cases q : cEnd M.rungs y with
        | none => rfl
        | some _ => exact absurd (mem_cnames.mpr (by rw [q]; rfl)) hyc
      have := num_relay st.ok hc
      rw [this]
      exact last F (.refl _)
  · rintro t σ' F ⟨⟨o7, o8, rfl⟩, e, ht⟩
    rw [List.length_map, List.take_length] at *
    exact SS.here (ss_ret (ev_var rfl) fun H3 e3 => hQ _ H3 (e1.trans (e2.trans (e.trans e3))) rfl)
end
end RgK
set_option Elab.async false
set_option linter.all false
set_option maxRecDepth 100000
set_option maxHeartbeats 4000000

/-! Works of a state. -/
namespace RgK
open PySem PySem.Spec PyProof.Rows L2 Evl
local macro_rules | `(tactic| walk_at "ev") => `(tactic| repeat' (first
  | with_reducible exact ev_c
  | with_reducible exact ea_nil
  | ((with_reducible apply ev_var); first | rfl | assumption)
  | with_reducible apply ea_cons
  | with_reducible apply ev_fld
  | ((with_reducible show Fld _ _ _ _ _); assumption)
  | with_reducible exact rv_I0
  | with_reducible exact ru_neg
  | with_reducible exact rv_eq rfl
  | with_reducible exact rv_ne rfl
  | ((with_reducible apply rv_I); first | decide | omega | assumption)
  | ((with_reducible show _ = _ → EvT _ _ _ _); intro _)
  | ((with_reducible show _ = _ → Ev _ _ _ _); intro _)
  | with_reducible apply et_and
  | with_reducible apply et_or
  | with_reducible apply ev_andV
  | with_reducible apply ev_orV
  | with_reducible apply et_test
  | with_reducible apply et_B
  | with_reducible apply et_not
  | with_reducible apply ev_notV
  | with_reducible apply ev_un
  | with_reducible apply ev_op))

section
variable {K : PySem.W.Frag} {σ : L2.St} {H : Hp} {te : TE} {D : Ends} {tu tz : TS} {g : TG}
/-- a new dict's pairs, locked -/
theorem ss_forFrz {kvs : List (Key × V)} (h : EvR te σ H (NewD H kvs)) (k : ∀ d od H1, Ex H H1 → H d = none → H1 d = some (.frz od (.dK kvs)) → SS (tSeq (tFor (iItems (tC (.ref d))) g tu) tz) D σ H1) : SS (tSeq (tFor (iItems (tFrz te)) g tu) tz) D σ H :=
  fun H1 e1 => h H1 e1 _ fun v H2 e2 ⟨d, ev, hd0, hd⟩ => by
    subst ev
    exact ⟨d, .dK kvs, rfl, hd, trivial, fun od => k d od (upd H2 d (.frz od (.dK kvs))) ((e1.trans e2).mut hd0) hd0 upd_same _ (.refl _)⟩
end
theorem ss_meSR {MO : Addr → Str → Sp → Prop} {m : Str} {E : L2.St → XK} {σ : L2.St} {H : Hp} {D : Ends} {tz : TS} {ta : TE} {tr : TA} {a C dx : Addr} {fs : List (Str × V)} {sp : Sp} {Ra : List V → Hp → Prop} {P : Hp → Hp → Prop} (ho : Ev ta σ H (.ref a)) (hi : H a = some (.ins C dx fs)) (hl : fs.lookup m = none) (hm : MO C m sp) (ha : EvAR tr σ H Ra)
    (h : ∀ vs H1, Ex H H1 → Ra vs H1 → ∀ Q : VK, (∀ v H2, P H1 H2 → Q v H2) → sp (.ref a :: vs) H1 Q (E σ)) (k : ∀ H1 H2, Ex H H1 → P H1 H2 → SS tz D σ H2) : SS (tSeq (tDrop (tMe MO m E ta tr)) tz) D σ H :=
  fun H1 e1 => ho H1 e1 _ fun H2 e2 => ⟨a, C, dx, fs, sp, rfl, (e1.trans e2) _ _ hi, hl, hm, ha H2 (e1.trans e2) _ fun vs H3 e3 r => h vs H3 (e1.trans (e2.trans e3)) r _ fun _ H4 p => (k H3 H4 (e1.trans (e2.trans e3)) p).here⟩
structure D3 (F0 F : Hp) (b c z : Addr) (kb kc kz : List (Key × V)) : Prop where
  mo : Mo [b, c, z] F0 F
  hb : F b = some (.dK kb)
  hc : F c = some (.dK kc)
  hz : F z = some (.dK kz)
  n1 : b ≠ c
  n2 : b ≠ z
  n3 : c ≠ z
section
variable {F0 F F' : Hp} {b c z : Addr} {kb kc kz kb' kc' kz' : List (Key × V)}
theorem D3.ex (h : D3 F0 F b c z kb kc kz) (e : Ex F F') : D3 F0 F' b c z kb kc kz := ⟨h.mo.trans (.of e), e _ _ h.hb, e _ _ h.hc, e _ _ h.hz, h.n1, h.n2, h.n3⟩
theorem D3.putB (h : D3 F0 F b c z kb kc kz) (q : kb' = kb') : D3 F0 (upd F b (.dK kb')) b c z kb' kc kz := ⟨h.mo.put (by simp), upd_same, by rw [upd_ne (Ne.symm h.n1)]; exact h.hc, by rw [upd_ne (Ne.symm h.n2)]; exact h.hz, h.n1, h.n2, h.n3⟩
theorem D3.putC (h : D3 F0 F b c z kb kc kz) (q : kc' = kc') : D3 F0 (upd F c (.dK kc')) b c z kb kc' kz := ⟨h.mo.put (by simp), by rw [upd_ne h.n1]; exact h.hb, upd_same, by rw [upd_ne (Ne.symm h.n3)]; exact h.hz, h.n1, h.n2, h.n3⟩
theorem D3.putZ (h : D3 F0 F b c z kb kc kz) (q : kz' = kz') : D3 F0 (upd F z (.dK kz')) b c z kb kc kz' := ⟨h.mo.put (by simp), by rw [upd_ne h.n2]; exact h.hb, by rw [upd_ne h.n3]; exact h.hc, upd_same, h.n1, h.n2, h.n3⟩
theorem D3.to (h : D3 F0 F b c z kb kc kz) (e1 : kb = kb') (e2 : kc = kc') (e3 : kz = kz') : D3 F0 F b c z kb' kc' kz' := by subst e1 e2 e3; exact h
theorem D3.ip (h : D3 F0 F b c z kb kc kz) {k1 k2 k3 : List (Key × V)} (h1 : F0 b = some (.dK k1)) (h2 : F0 c = some (.dK k2)) (h3 : F0 z = some (.dK k3)) : Ip F0 F := h.mo.it fun d hd o e => by
  rcases List.mem_cons.mp hd with rfl | hd
  · rw [h1] at e; cases e; rfl
  · rcases List.mem_cons.mp hd with rfl | hd
    · rw [h2] at e; cases e; rfl
    · obtain rfl := List.mem_singleton.mp hd
      rw [h3] at e; cases e; rfl
end
theorem mo_ex3 {H F0 F : Hp} {b c z : Addr} (e : Ex H F0) (m : Mo [b, c, z] F0 F) (h1 : H b = none) (h2 : H c = none) (h3 : H z = none) : Ex H F := fun a o h => m a o (e a o h) fun q => by
  rcases List.mem_cons.mp q with rfl | q
  · rw [h1] at h; cases h
  · rcases List.mem_cons.mp q with rfl | q
    · rw [h2] at h; cases h
    · obtain rfl := List.mem_singleton.mp q
      rw [h3] at h; cases h
def cnL (M : Ldr) (l : List Str) : List Str := l.filter fun x => decide (x ∈ cnames M.rungs)
def znL (M : Ldr) (l : List Str) : List Str := l.filter fun x => decide (x ∈ znames M.rungs)
theorem fil_snoc (p : Str → Bool) (l : List Str) (y : Str) : (l ++ [y]).filter p = if p y then l.filter p ++ [y] else l.filter p := by
  rw [List.filter_append]
  cases h : p y with
  | true => rw [if_pos rfl, List.filter_cons_of_pos h]; rfl
  | false => rw [if_neg (by decide), List.filter_cons_of_neg (by rw [h]; decide), List.filter_nil, List.append_nil]
theorem tab_put {ns : List Str} {f f' : Str → V} {y : Str} {v : V} (h : y ∉ ns) (h1 : ∀ x ∈ ns, f x = f' x) (h2 : v = f' y) : putK (tab ns f) (.inr y) v = tab (ns ++ [y]) f' := by
  rw [put_new h]
  refine tab_congr fun x hx => ?_
  by_cases e : x = y
  · rw [if_pos e, e, h2]
  · rw [if_neg e]
    exact h1 x ((List.mem_append.mp hx).resolve_right fun q => e (List.mem_singleton.mp q))
theorem tab_set {ns : List Str} {f f' : Str → V} {y : Str} {v : V} (h : y ∈ ns) (h1 : ∀ x ∈ ns, x ≠ y → f x = f' x) (h2 : v = f' y) : putK (tab ns f) (.inr y) v = tab ns f' := by
  rw [put_mem h]
  refine tab_congr fun x hx => ?_
  by_cases e : x = y
  · rw [if_pos e, e, h2]
  · rw [if_neg e]
    exact h1 x hx e
section
variable {w : World} {K : PySem.W.Frag} {mg : Mg} {base : Heap} {k : Nat}
structure NArg extends LArg where
  s : Int
def noState (K : PySem.W.Frag) (H : Hp) (E : XK) : Prop := ∀ H2, Ex H H2 → E (.ref (He.ga K "NoState")) none H2
def spPieces (K : PySem.W.Frag) : Sp := fun vs H Q E => ∃ i : NArg, vs = [.ref i.a, .int i.s] ∧ (LadderAt K H i.n i.a i.M ∧ LdrOk i.M) ∧ ((0 ≤ i.s ∧ i.s < 2 ^ wsum i.M) → ∀ v H2, Ex H H2 → NewD H (tab i.M.names fun x => .int (nuOf i.M i.s x)) v H2 → Q v H2) ∧ (¬ (0 ≤ i.s ∧ i.s < 2 ^ wsum i.M) → noState K H E)
theorem c_pieces (T : Tx w K mg base) : Cal PG w K mg base 3 "pieces" (spPieces K) := by
  refine cal_of (fnd ["ladder", "state", "ends", "found", "name", "bits"] ["ladder", "state"] T.d_pieces (by decide +kernel) (fun vs H Q E ⟨_, e, _⟩ => by rw [e]; rfl) (fun _ _ _ _ _ _ us h => by match us, h with | [_, _], _ => rfl) ?_) T.g_pieces
  rintro cdv A outer s H vs Q E hr ⟨⟨⟨n, a, M⟩, st⟩, rfl, ⟨hL, ok⟩, hQ, hE⟩
  have hL : LadderAt K H n a M := hL
  have ok : LdrOk M := ok
  have nd : (["ladder", "state", "ends", "found", "name", "bits"] : List Str).Nodup := by decide +kernel
  refine ⟨_, 
    (pss_cons (ps_if (PW.pt (pw_or (pt_cmpR op_lt (pv 1) pe_int (nomark _)) (pw_or1 (pt_cmpR op_ne (pe_op op_shr (pv 1) (pe_fn T hr (by rfl) T.g_width pass0 T.kp_width (pa_cons (pv 0) pa_nil))) pe_int (nomark _))))) 
    (pss_cons (ps_raise rfl (takes_of rfl rfl rfl rfl) (pmk_own PySem.F.excBase_ValueError T.e_NoState.1 T.g_NoState T.e_NoState.2.1 (raises_own T.e_NoState.2.2.1 T.e_NoState.2.2.2) (by rfl))) pss_nil) pss_nil) 
    (pss_cons (ps_set (i := 2) nd rfl (Or.inl rfl) (pe_fn T hr (by rfl) T.g_counting_ends pass0 T.kp_counting_ends (pa_cons (pv 0) pa_nil))) 
    (pss_cons (ps_set (i := 3) nd rfl (Or.inl rfl) pe_dnewK) 
    (pss_cons (ps_for (passes_of rfl) rfl (pi_seq (pe_me0 T hr pass0 (pv 0))) (pg_name (i := 4) nd rfl (Or.inl rfl)) 
    (pss_cons (ps_set (i := 5) nd rfl (Or.inl rfl) (pe_fn T hr (by rfl) T.g_bits_of pass0 T.kp_bits_of (pa_cons (pv 2) (pa_cons (pv 4) pa_nil)))) 
    (pss_cons (ps_dput (hu_of hr) (pv 3) (pv 4) (pe_op op_and (pv 1) (pe_op op_sub (pe_op op_shl pe_int (pv 5)) pe_int)) rfl) 
    (pss_cons (ps_set (i := 1) nd rfl (Or.inl rfl) (pe_op op_shr (pv 1) (pv 5))) pss_nil)))) 
    (pss_cons (ps_ret (pv 3)) pss_nil))))), SS.here ?_⟩
  have hw : ∀ H1, Ex H H1 → Ev (tFn (Cal PG w K mg base 2 "width") (fun x => E0) (tCons (tVar 0) tNil)) [some (.ref a), some (.int st), none, none, none, none] H1 (.int (wsum M : Nat)) := fun H1 e1 => ev_fnV (ea_cons (ev_var rfl) ea_nil) (c_width T) (spP_r ⟨n, a, M⟩ rfl (fun H2 e2 => ⟨hL.im (.of (e1.trans e2)), ok⟩) fun _ _ _ _ _ r => r)
  have hdiv : 0 ≤ st → (st / 2 ^ wsum M = 0 ↔ st < 2 ^ wsum M) := fun h0 => by
    have p1 := pow_pos' (wsum M)
    constructor
    · intro h
      have := Int.emod_add_mul_ediv st (2 ^ wsum M)
      rw [h] at this
      have := Int.emod_lt_of_pos st p1
      omega
    · intro h
      exact Int.ediv_eq_zero_of_lt h0 h
  refine ss_when (b := decide (st < 0) || !decide (V.int (st / 2 ^ wsum M) = V.int 0)) (et_or (et_test (ev_op (ev_var rfl) ev_c rv_I0)) fun _ => et_test (ev_is (ev_op (ev_op (ev_var rfl) (hw H (.refl _)) (rv_I (by omega))) ev_c (rv_ne rfl)) (by rw [Int.toNat_natCast]))) (fun hb => ?_) fun hb => ?_
  · have hbad : ¬ (0 ≤ st ∧ st < 2 ^ wsum M) := fun ⟨h1, h2⟩ => by
      rw [decide_eq_false (by omega), (hdiv h1).mpr h2] at hb
      simp at hb
    exact fun H1 e1 => hE hbad H1 e1
  have hg : 0 ≤ st ∧ st < 2 ^ wsum M := by
    obtain ⟨h1, h2⟩ := Bool.or_eq_false_iff.mp hb
    have h1 : 0 ≤ st := by have := of_decide_eq_false h1; omega
    refine ⟨h1, (hdiv h1).mp ?_⟩
    simpa using h2
  have hQ := hQ hg
  have nl := ok.nl
  have hk : ∀ r ∈ M.rungs, r.2.kind < 5 := fun r h => (ok.ends r h).k
  refine ss_asgR (er_ends T (ev_var rfl) hL ok) fun v H1 e1 ⟨d, ev, _, hd⟩ => ?_
  subst ev
  refine ss_asgR er_dnew fun v H2 e2 ⟨f, ev, hf0, hf1⟩ => ?_
  subst ev
  have e12 := e1.trans e2
  refine ss_forNT (ev_written T (ev_var rfl) (hL.im (.of e12))) (fun t i σ' F => (∃ o4 o5, σ' = [some (.ref a), some (.int (st / 2 ^ ((M.names.take i).map (wd M.rungs)).sum)), some (.ref d), some (.ref f), o4, o5]) ∧ Ex H1 F ∧ F t = some (.tup (M.names.map V.str)) ∧ F f = some (.dK (tab (M.names.take i) fun x => .int (nuOf M st x))))
    (fun t F e _ ht => ⟨⟨none, none, by simp [L2.start]⟩, e2.trans e, ht, e _ _ hf1⟩) (fun t i σ' F _ ⟨_, _, ht, _⟩ => ht) ?_ ?_
  · rintro t i x σ' F hx ⟨⟨o4, o5, rfl⟩, e, ht, hf⟩
    rw [List.getElem?_map] at hx
    obtain ⟨y, hy, rfl⟩ := Option.map_eq_some_iff.mp hx
    refine ss_asg (ev_bits_of T (ev_var rfl) (ev_var rfl) (hd.ex e) hk) ?_
    have hwd : wd M.rungs y ≤ 5 := by
      unfold wd
      split
      · omega
      · split <;> omega
    have hat := decL_at (w := wd M.rungs) (s := st) (namesOf_nodup M.rungs) hy
    refine ss_dput (kk := .inr y) (v := .int (nuOf M st y)) (ev_is (ev_op (ev_var rfl) (ev_op (ev_op ev_c (ev_var rfl) (rv_I ⟨by omega, by omega, by decide⟩)) ev_c rv_I0) rv_I0) ?_) (ev_var rfl) (ev_var rfl) hf (by rw [tab_len, List.length_take]; omega) ?_
    · rw [Int.toNat_natCast, mask1]
      exact congrArg V.int hat.symm
    refine ss_asg (ev_op (ev_var rfl) (ev_var rfl) (rv_I (by omega))) (ss_end fun F1 f1 => ⟨⟨some (.str y), some (.int (wd M.rungs y : Nat)), ?_⟩, (e.mut hf0).trans f1, f1 _ _ (by rw [upd_ne (fun z => by rw [z, hf] at ht; cases ht)]; exact ht), ?_⟩)
    · rw [take_snoc hy, List.map_append, List.sum_append, List.map_singleton, List.sum_singleton, Int.pow_add, ← Int.ediv_ediv_of_nonneg (Int.le_of_lt (pow_pos' _)), Int.toNat_natCast]
      rfl
    · rw [f1 _ _ upd_same, put_new (nodup_take (namesOf_nodup _) hy), take_snoc hy]
      exact congrArg (fun z => some (HO.dK z)) (tab_congr fun x _ => by
        by_cases z : x = y
        · rw [if_pos z, z]
        · rw [if_neg z])
  · rintro t σ' F ⟨⟨o4, o5, rfl⟩, e, ht, hf⟩
    rw [List.length_map, List.take_length] at hf
    exact SS.here (ss_ret (ev_var rfl) fun H3 e3 => hQ _ H3 (e1.trans (e.trans e3)) ⟨f, rfl, fresh_back e1 hf0, e3 _ _ hf⟩)
def MadeAt (K : PySem.W.Frag) (H H2 : Hp) (n : Nat) (a : Addr) (M : Ldr) (βi : Str → Bool) (ν : Nu) (v : V) : Prop := ∃ W, v = .ref W.a ∧ W.la = a ∧ WorksAt K H2 n W M βi ν ∧ ∀ d ∈ W.dd, H d = none
def spWorksAt (K : PySem.W.Frag) : Sp := fun vs H Q E => ∃ i : NArg, vs = [.ref i.a, .int i.s] ∧ (LadderAt K H i.n i.a i.M ∧ LdrOk i.M) ∧ (Good i.M i.s → ∀ v H2, Ex H H2 → MadeAt K H H2 i.n i.a i.M (fun _ => false) (nuOf i.M i.s) v → Q v H2) ∧ (¬ Good i.M i.s → noState K H E)
theorem c_works_at (T : Tx w K mg base) : Cal PG w K mg base 4 "works_at" (spWorksAt K) := by
  refine cal_of (fnd ["ladder", "state", "bits", "counts", "saw", "ends", "name", "number", "works"] ["ladder", "state"] T.d_works_at (by decide +kernel) (fun vs H Q E ⟨_, e, _⟩ => by rw [e]; rfl) (fun _ _ _ _ _ _ us h => by match us, h with | [_, _], _ => rfl) ?_) T.g_works_at
  rintro cdv A outer s H vs Q E hr ⟨⟨⟨n, a, M⟩, st⟩, rfl, ⟨hL, ok⟩, hQ, hE⟩
  have hL : LadderAt K H n a M := hL
  have ok : LdrOk M := ok
  have nd : (["ladder", "state", "bits", "counts", "saw", "ends", "name", "number", "works"] : List Str).Nodup := by decide +kernel
  refine ⟨_, 
    (pss_cons (ps_set (i := 2) nd rfl (Or.inl rfl) pe_dnewK) 
    (pss_cons (ps_set (i := 3) nd rfl (Or.inl rfl) pe_dnewK) 
    (pss_cons (ps_set (i := 4) nd rfl (Or.inl rfl) pe_dnewK) 
    (pss_cons (ps_set (i := 5) nd rfl (Or.inl rfl) (pe_fn T hr (by rfl) T.g_counting_ends pass0 T.kp_counting_ends (pa_cons (pv 0) pa_nil))) 
    (pss_cons (ps_for (passes_of rfl) rfl (pi_items (pe_frz (pe_fn T hr (by rfl) T.g_pieces (passAt (takes_of rfl rfl rfl rfl)) T.kp_pieces (pa_cons (pv 0) (pa_cons (pv 1) pa_nil))))) (pg_tup rfl (pgs_cons (pg_name (i := 6) nd rfl (Or.inl rfl)) (pgs_cons (pg_name (i := 7) nd rfl (Or.inl rfl)) pgs_nil))) 
    (pss_cons (ps_dput (hu_of hr) (pv 2) (pv 6) (pe_cmpR op_eq (pv 7) pe_int (nomark _)) rfl) 
    (pss_cons (ps_if (pt_cmp (pc_din (hu_of hr) (pv 6) (pv 5)) (by with_unfolding_all rfl)) 
    (pss_cons (ps_dput (hu_of hr) (pv 3) (pv 6) (pe_op op_and (pv 7) (pe_op op_sub (pe_op op_shl pe_int (pe_globI (by rfl) T.i_COUNT_BITS_states)) pe_int)) rfl) 
    (pss_cons (ps_dput (hu_of hr) (pv 2) (pv 6) (pe_cmpR op_eq (pe_dget (hu_of hr) (pv 3) (pv 6) (fun _ _ => rfl)) (pe_fldT T (pe_dget (hu_of hr) (pv 5) (pv 6) (fun _ _ => rfl))) (nomark _)) rfl) 
    (pss_cons (ps_if (pt_cmpR op_gt (pe_dget (hu_of hr) (pv 3) (pv 6) (fun _ _ => rfl)) (pe_fldT T (pe_dget (hu_of hr) (pv 5) (pv 6) (fun _ _ => rfl))) (nomark _)) 
    (pss_cons (ps_raise rfl (takes_of rfl rfl rfl rfl) (pmk_own PySem.F.excBase_ValueError T.e_NoState.1 T.g_NoState T.e_NoState.2.1 (raises_own T.e_NoState.2.2.1 T.e_NoState.2.2.2) (by rfl))) pss_nil) pss_nil) 
    (pss_cons (ps_if (pt_val (pe_callB call_isi (by rfl) T.f_isinstance (by decide +kernel) (pa_cons (pe_dget (hu_of hr) (pv 5) (pv 6) (fun _ _ => rfl)) (pa_cons (pe_globR (by rfl) T.g_Counter) pa_nil)))) 
    (pss_cons (ps_dput (hu_of hr) (pv 4) (pv 6) (pe_cmpR op_eq (pe_op op_shr (pv 7) (pe_globI (by rfl) T.i_COUNT_BITS_states)) pe_int (nomark _)) rfl) pss_nil) pss_nil) pss_nil)))) pss_nil) pss_nil))) 
    (pss_cons (ps_set (i := 8) nd rfl (Or.inl rfl) (pe_mk T hr T.k_Works (by rfl) T.g_Works (pa_cons (pv 0) pa_nil))) 
    (pss_cons (ps_expr (pe_me T hr pass0 (pv 8) (pa_cons (pe_tup (pa_cons (pv 2) (pa_cons (pv 3) (pa_cons (pv 4) pa_nil)))) pa_nil))) 
    (pss_cons (ps_ret (pv 8)) pss_nil)))))))), SS.here ?_⟩
  have nl := ok.nl
  have hnd := namesOf_nodup M.rungs
  have hk : ∀ r ∈ M.rungs, r.2.kind < 5 := fun r h => (ok.ends r h).k
  refine ss_asgR er_dnew fun v H1 e1 ⟨b, ev, hb0, hb1⟩ => ?_
  subst ev
  refine ss_asgR er_dnew fun v H2 e2 ⟨c, ev, hc0, hc1⟩ => ?_
  subst ev
  refine ss_asgR er_dnew fun v H3 e3 ⟨z, ev, hz0, hz1⟩ => ?_
  subst ev
  have e13 := e1.trans (e2.trans e3)
  refine ss_asgR (er_ends T (ev_var rfl) (hL.im (.of e13)) ok) fun v H4 e4 ⟨d, ev, hd0, hd⟩ => ?_
  subst ev
  have e14 := e13.trans e4
  by_cases hg : 0 ≤ st ∧ st < 2 ^ wsum M
  case neg =>
    have hbad : ¬ Good M st := fun g => hg ⟨g.lo, g.hi⟩
    refine fun H5 e5 => ⟨.ref a, rfl, .int st, rfl, spPieces K, c_pieces T, ⟨⟨n, a, M⟩, st⟩, rfl, ⟨hL.im (.of (e14.trans e5)), ok⟩, fun h => absurd h hg, fun _ H6 e6 => ?_⟩
    exact hE hbad H6 (e14.trans (e5.trans e6))
  have hpc : EvR (tFn (Cal PG w K mg base 3 "pieces") (WE fun cls d x H => E cls d H) (tCons (tVar 0) (tCons (tVar 1) tNil))) [some (.ref a), some (.int st), some (.ref b), some (.ref c), some (.ref z), some (.ref d), none, none, none] H4 (NewD H4 (tab M.names fun x => .int (nuOf M st x))) := fun H5 e5 Q q => ⟨.ref a, rfl, .int st, rfl, spPieces K, c_pieces T, ⟨⟨n, a, M⟩, st⟩, rfl, ⟨hL.im (.of (e14.trans e5)), ok⟩, fun _ v H6 e6 ⟨p, a1, a2, a3⟩ => q v H6 e6 ⟨p, a1, fresh_back e5 a2, a3⟩, fun h => absurd hg h⟩
  refine ss_forFrz hpc fun p od F0 f0 hp0 hp1 => ?_
  have hb4 := (e2.trans (e3.trans (e4.trans f0))) _ _ hb1
  have hc4 := (e3.trans (e4.trans f0)) _ _ hc1
  have hz4 := (e4.trans f0) _ _ hz1
  have n1 : b ≠ c := fun q => by rw [← q, hb1] at hc0; cases hc0
  have n2 : b ≠ z := fun q => by rw [← q, e2 _ _ hb1] at hz0; cases hz0
  have n3 : c ≠ z := fun q => by rw [← q, hc1] at hz0; cases hz0
  have hdn : d ∉ [b, c, z] := fun q => by
    rcases List.mem_cons.mp q with rfl | q
    · rw [(e2.trans e3) _ _ hb1] at hd0; cases hd0
    · rcases List.mem_cons.mp q with rfl | q
      · rw [e3 _ _ hc1] at hd0; cases hd0
      · obtain rfl := List.mem_singleton.mp q
        rw [hz1] at hd0; cases hd0
  have hpn : p ∉ [b, c, z] := fun q => by
    rcases List.mem_cons.mp q with rfl | q
    · rw [hb4] at hp1; cases hp1
    · rcases List.mem_cons.mp q with rfl | q
      · rw [hc4] at hp1; cases hp1
      · obtain rfl := List.mem_singleton.mp q
        rw [hz4] at hp1; cases hp1
  have hbH := hb0
  have hcH := fresh_back e1 hc0
  have hzH := fresh_back (e1.trans e2) hz0
  refine ss_forItems ev_c hp1 (fun i σ' F => (∃ o6 o7, σ' = [some (.ref a), some (.int st), some (.ref b), some (.ref c), some (.ref z), some (.ref d), o6, o7, none]) ∧ D3 F0 F b c z (tab (M.names.take i) fun x => .bl (bit M.rungs (nuOf M st) x)) (tab (cnL M (M.names.take i)) fun x => .int (nuOf M st x % 16)) (tab (znL M (M.names.take i)) fun x => .bl (decide (nuOf M st x / 16 = 1))) ∧ ∀ x ∈ M.names.take i, ∀ e, cEnd M.rungs x = some e → nuOf M st x % 16 ≤ e.most)
    (fun F e => ⟨⟨_, _, rfl⟩, ⟨.of e, e _ _ hb4, e _ _ hc4, e _ _ hz4, n1, n2, n3⟩, fun x hx => by simp at hx⟩) (fun i σ' F ⟨_, d3, _⟩ => d3.mo _ _ hp1 hpn) (fun i σ' G1 G2 ⟨a1, a2, a3⟩ e => ⟨a1, a2.ex e, a3⟩) ?_ ?_
  · rintro i kk x σ' F hx ⟨⟨o6, o7, rfl⟩, d3, hm⟩
    unfold tab at hx
    rw [List.getElem?_map] at hx
    obtain ⟨y, hy, hxy⟩ := Option.map_eq_some_iff.mp hx
    cases hxy
    have hyn := List.mem_of_getElem? hy
    have hnt := nodup_take hnd hy
    have hent : EndsAt K F d M.rungs := (hd.ex f0).mo d3.mo hdn (d3.ip hb4 hc4 hz4)
    refine ss_dput (kk := .inr y) (ev_op (ev_var rfl) ev_c (rv_eq rfl)) (ev_var rfl) (ev_var rfl) d3.hb (by rw [tab_len, List.length_take]; omega) ?_
    have d4 := d3.putB (kb' := putK (tab (M.names.take i) fun x => .bl (bit M.rungs (nuOf M st) x)) (.inr y) (.bl (decide (V.int (nuOf M st y) = V.int 1)))) rfl
    revert d4
    generalize upd F b (.dK (putK (tab (M.names.take i) fun x => .bl (bit M.rungs (nuOf M st) x)) (.inr y) (.bl (decide (V.int (nuOf M st y) = V.int 1))))) = F1
    intro d4
    have hent : EndsAt K F1 d M.rungs := (hd.ex f0).mo d4.mo hdn (d4.ip hb4 hc4 hz4)
    obtain ⟨q, hq, hqe⟩ := hent
    refine ss_when (et_B (ev_din (ev_var rfl) (ev_var rfl) (dget_tabO hq))) (fun h => ?_) fun h => ?_
    · have hyc : y ∈ cnames M.rungs := Classical.byContradiction fun q => by rw [if_neg q] at h; cases h
      obtain ⟨e', he⟩ := Option.isSome_iff_exists.mp (mem_cnames.mp hyc)
      obtain ⟨k3, hnm, r', hr', er'⟩ := cEnd_some he
      have hk5 : e'.kind < 5 := by rw [← er']; exact hk r' hr'
      have hdg := dget_tab hq hyc
      have hea := hqe y e' he
      have hcn : y ∉ cnL M (M.names.take i) := fun q => hnt (List.mem_filter.mp q).1
      have hzn : y ∉ znL M (M.names.take i) := fun q => hnt (List.mem_filter.mp q).1
      have len1 : (cnL M (M.names.take i)).length ≤ 20 := Nat.le_trans (List.length_filter_le _ _) (by rw [List.length_take]; omega)
      have len2 : (znL M (M.names.take i)).length ≤ 20 := Nat.le_trans (List.length_filter_le _ _) (by rw [List.length_take]; omega)
      have cn' : cnL M (M.names.take (i + 1)) = cnL M (M.names.take i) ++ [y] := by
        unfold cnL
        rw [take_snoc hy, fil_snoc, if_pos (decide_eq_true hyc)]
      have eB : putK (tab (M.names.take i) fun x => .bl (bit M.rungs (nuOf M st) x)) (.inr y) (.bl (decide (V.int (nuOf M st y) = V.int 1))) = tab (M.names.take (i + 1)) fun x => if x = y then .bl (decide (V.int (nuOf M st y) = V.int 1)) else .bl (bit M.rungs (nuOf M st) x) := by
        rw [put_new hnt, take_snoc hy]
      refine ss_dput (kk := .inr y) (v := .int (nuOf M st y % 16)) (ev_is (ev_op (ev_var rfl) (ev_op (ev_op ev_c ev_c (rv_I ⟨by decide, by decide, by decide⟩)) ev_c rv_I0) rv_I0) (congrArg V.int (mask1 _ 4))) (ev_var rfl) (ev_var rfl) d4.hc (by rw [tab_len]; omega) ?_
      have d5 := (d4.putC (kc' := putK (tab (cnL M (M.names.take i)) fun x => .int (nuOf M st x % 16)) (.inr y) (.int (nuOf M st y % 16))) rfl).to eB (tab_put (f' := fun x => .int (nuOf M st x % 16)) hcn (fun _ _ => rfl) rfl) rfl
      have hq5 := d5.mo
      revert d5
      generalize upd F1 c (.dK (putK (tab (cnL M (M.names.take i)) fun x => .int (nuOf M st x % 16)) (.inr y) (.int (nuOf M st y % 16)))) = F2
      intro d5
      have hent2 : EndsAt K F2 d M.rungs := (hd.ex f0).mo d5.mo hdn (d5.ip hb4 hc4 hz4)
      obtain ⟨q2, hq, hqe⟩ := hent2
      have hea := hqe y e' he
      have hdg := dget_tab hq hyc
      refine ss_dput (kk := .inr y) (v := .bl (decide (V.int (nuOf M st y % 16) = V.int e'.most))) (ev_op (ev_dget (ev_var rfl) (ev_var rfl) (dget_tab d5.hc (by simp))) (ev_fld (ev_dget (ev_var rfl) (ev_var rfl) hdg) (hea.most T k3)) (rv_eq rfl)) (ev_var rfl) (ev_var rfl) d5.hb (by rw [tab_len, List.length_take]; omega) ?_
      have hyt : y ∈ M.names.take (i + 1) := by rw [take_snoc hy]; simp
      have hbit : bit M.rungs (nuOf M st) y = decide (nuOf M st y % 16 = e'.most) := by unfold bit; rw [he]
      have d6 := (d5.putB (kb' := putK (tab (M.names.take (i + 1)) fun x => if x = y then .bl (decide (V.int (nuOf M st y) = V.int 1)) else .bl (bit M.rungs (nuOf M st) x)) (.inr y) (.bl (decide (V.int (nuOf M st y % 16) = V.int e'.most)))) rfl).to (tab_set (f' := fun x => .bl (bit M.rungs (nuOf M st) x)) hyt (fun x _ n => if_neg n) (by rw [hbit]; simp only [V.int.injEq])) rfl rfl
      revert d6
      generalize upd F2 b _ = F3
      intro d6
      obtain ⟨q', hq, hqe⟩ : EndsAt K F3 d M.rungs := (hd.ex f0).mo d6.mo hdn (d6.ip hb4 hc4 hz4)
      have hea := hqe y e' he
      have hdg := dget_tab hq hyc
      refine ss_when (b := decide (e'.most < nuOf M st y % 16)) (et_test (ev_op (ev_dget (ev_var rfl) (ev_var rfl) (dget_tab d6.hc (by simp))) (ev_fld (ev_dget (ev_var rfl) (ev_var rfl) hdg) (hea.most T k3)) rv_I0)) (fun hb => ?_) fun hb => ?_
      · have hbad : ¬ Good M st := fun g => by
          have := g.most y hyn e' he
          have := of_decide_eq_true hb
          omega
        exact fun H9 e9 => hE hbad H9 (mo_ex3 (e14.trans f0) (d6.mo.trans (.of e9)) hbH hcH hzH)
      have hle := of_decide_eq_false hb
      have hm' : ∀ x ∈ M.names.take (i + 1), ∀ e, cEnd M.rungs x = some e → nuOf M st x % 16 ≤ e.most := fun x hx e hc => by
        rw [take_snoc hy] at hx
        rcases List.mem_append.mp hx with h | h
        · exact hm x h e hc
        · obtain rfl := List.mem_singleton.mp h
          rw [he] at hc
          cases hc
          omega
      refine ss_when (et_B (ev_cb (ea_cons (ev_dget (ev_var rfl) (ev_var rfl) hdg) (ea_cons ev_c ea_nil)) (rc_end T hea 4 (by decide)))) (fun hb4' => ?_) fun hb4' => ?_
      · rw [isK4 hk5] at hb4'
        have k4 := of_decide_eq_true hb4'
        have hyz : y ∈ znames M.rungs := (mem_znames ok.own).mpr ⟨e', he, k4⟩
        refine ss_dput (kk := .inr y) (v := .bl (decide (V.int (nuOf M st y / 16) = V.int 1))) (ev_op (ev_op (ev_var rfl) ev_c (rv_I (by decide))) ev_c (rv_eq rfl)) (ev_var rfl) (ev_var rfl) d6.hz (by rw [tab_len]; omega) (ss_end fun H7 e7 => And.intro (Exists.intro _ (Exists.intro _ rfl)) (And.intro ?_ hm'))
        refine ((d6.putZ rfl).ex e7).to rfl (by rw [cn']) ?_
        unfold znL
        rw [take_snoc hy, fil_snoc, if_pos (decide_eq_true hyz)]
        exact tab_put hzn (fun _ _ => rfl) (by simp only [V.int.injEq])
      · rw [isK4 hk5] at hb4'
        have k4 := of_decide_eq_false hb4'
        have hyz : y ∉ znames M.rungs := fun q => by
          obtain ⟨e2, h1, h2⟩ := (mem_znames ok.own).mp q
          rw [he] at h1
          cases h1
          exact k4 h2
        refine ss_end fun H7 e7 => And.intro (Exists.intro _ (Exists.intro _ rfl)) (And.intro ?_ hm')
        refine (d6.ex e7).to rfl (by rw [cn']) ?_
        unfold znL
        rw [take_snoc hy, fil_snoc, if_neg (by simpa using hyz)]
    · have hyc : y ∉ cnames M.rungs := fun q => by rw [if_pos q] at h; cases h
      have hc : cEnd M.rungs y = none := by
        cases q : cEnd M.rungs y with
        | none => rfl
        | some _ => exact absurd (mem_cnames.mpr (by rw [q]; rfl)) hyc
      have hyz : y ∉ znames M.rungs := fun q => by
        obtain ⟨e2, h1, h2⟩ := (mem_znames ok.own).mp q
        rw [hc] at h1
        cases h1
      have hbit : bit M.rungs (nuOf M st) y = decide (nuOf M st y = 1) := by unfold bit; rw [hc]
      refine ss_end fun H7 e7 => ⟨⟨_, _, rfl⟩, (d4.ex e7).to ?_ ?_ ?_, fun x hx e hc' => ?_⟩
      · rw [take_snoc hy]
        exact tab_put hnt (fun _ _ => rfl) (by rw [hbit]; simp only [V.int.injEq])
      · unfold cnL
        rw [take_snoc hy, fil_snoc, if_neg (by simpa using hyc)]
      · unfold znL
        rw [take_snoc hy, fil_snoc, if_neg (by simpa using hyz)]
      · rw [take_snoc hy] at hx
        rcases List.mem_append.mp hx with h | h
        · exact hm x h e hc'
        · obtain rfl := List.mem_singleton.mp h
          rw [hc] at hc'
          cases hc'
  · rintro σ' F ⟨⟨o6, o7, rfl⟩, d3, hm⟩
    rw [tab_len, List.take_length] at d3 hm
    have g : Good M st := ⟨hg.1, hg.2, hm⟩
    have eF : Ex H F := mo_ex3 (e14.trans f0) d3.mo hbH hcH hzH
    refine SS.here (ss_asgR (R := fun v H2 => ∃ W, v = .ref W.a ∧ W.la = a ∧ WorksAt K H2 n W M (fun _ => false) (fun _ => 0) ∧ ∀ d ∈ W.dd, F d = none) (er_mkM ((k_Works T).mono (by omega)) (ea_rel (ea_cons (ev_var rfl) ea_nil)) fun vs F1 f1 evs => ⟨(⟨n, a, M⟩, F1), evs, ⟨hL.im (.of (eF.trans f1)), ok, rfl⟩, fun x F2 _ f2 ⟨db, dc, ds, hw, h1, h2, h3⟩ => ⟨⟨x, a, db, dc, ds⟩, rfl, rfl, hw, fun d hd => ?_⟩⟩) fun v F1 f1 ⟨W, ev, hla, hw, hdd⟩ => ?_)
    · rcases List.mem_cons.mp hd with rfl | hd
      · exact fresh_back f1 h1
      · rcases List.mem_cons.mp hd with rfl | hd
        · exact fresh_back f1 h2
        · obtain rfl := List.mem_singleton.mp hd
          exact fresh_back f1 h3
    subst ev
    obtain ⟨dx, hobj⟩ := hw.obj
    have kin : ∀ {x : Addr} {o : HO}, F x = some o → x ∉ W.dd := fun h q => by rw [hdd _ q] at h; cases h
    refine ss_meSR (P := fun G1 G2 => Mo W.dd G1 G2 ∧ WorksAt K G2 n W M (fun _ => false) (nuOf M st)) (Ra := fun vs G => ∃ t, vs = [.ref t] ∧ G t = some (.tup [.ref b, .ref c, .ref z])) (ev_var rfl) hobj (by rfl) ((m_put_back T).mono (by omega))
      (ar_cons (er_tupV (ea_cons (ev_var rfl) (ea_cons (ev_var rfl) (ea_cons (ev_var rfl) ea_nil))) (by show 3 ≤ 100000; decide)) fun x G1 g1 ⟨t, ex, _, ht⟩ => fun G2 g2 Q' q' => q' [] G2 (.refl _) ⟨t, by rw [ex], g2 _ _ ht⟩)
      (fun vs G1 g1 ⟨t, evs, ht⟩ Q' q' => ⟨⟨⟨n, W, M, fun _ => false, fun _ => 0⟩, .ref t, ⟨b, c, z⟩, nuOf M st, cnL M M.names, znL M M.names⟩, by rw [evs], ⟨WRaw.ex hw g1, ok, ⟨t, rfl, ht, ?_, ?_, ?_⟩, ⟨kin d3.hb, kin d3.hc, kin d3.hz⟩, fun x => ?_, fun x => ?_, Nat.le_trans (List.length_filter_le _ _) (Nat.le_trans nl (by decide)), Nat.le_trans (List.length_filter_le _ _) (Nat.le_trans nl (by decide))⟩, fun v G2 m w => q' v G2 ⟨m, w⟩⟩) fun G1 G2 g1 ⟨mm, ww⟩ => ?_
    · exact (f1.trans g1) _ _ d3.hb
    · exact (f1.trans g1) _ _ d3.hc
    · exact (f1.trans g1) _ _ d3.hz
    · show x ∈ cnL M M.names ↔ x ∈ cnames M.rungs
      unfold cnL
      rw [List.mem_filter, decide_eq_true_iff]
      exact ⟨fun h => h.2, fun h => ⟨cnames_sub h, h⟩⟩
    · show x ∈ znL M M.names ↔ x ∈ znames M.rungs
      unfold znL
      rw [List.mem_filter, decide_eq_true_iff]
      exact ⟨fun h => h.2, fun h => ⟨znames_sub h, h⟩⟩
    · have eG : Ex H G2 := fun x o h => mm x o ((eF.trans (f1.trans g1)) x o h) (kin (eF x o h))
      exact ss_ret (ev_var rfl) fun H9 e9 => hQ g _ H9 (eG.trans e9) ⟨W, rfl, hla, WRaw.ex ww e9, fun d hd => fresh_back eF (hdd d hd)⟩
end
end RgK
set_option Elab.async false
set_option linter.all false
set_option maxRecDepth 100000
set_option maxHeartbeats 4000000

/-! Rows, steps. -/
namespace RgK
open PySem PySem.Spec PyProof.Rows L2 Evl
local macro_rules | `(tactic| walk_at "ev") => `(tactic| repeat' (first
  | with_reducible exact ev_c
  | with_reducible exact ea_nil
  | ((with_reducible apply ev_var); first | rfl | assumption)
  | with_reducible apply ea_cons
  | with_reducible apply ev_fld
  | ((with_reducible show Fld _ _ _ _ _); assumption)
  | with_reducible exact rv_I0
  | with_reducible exact ru_neg
  | with_reducible exact rv_eq rfl
  | with_reducible exact rv_ne rfl
  | ((with_reducible apply rv_I); first | decide | omega | assumption)
  | ((with_reducible show _ = _ → EvT _ _ _ _); intro _)
  | ((with_reducible show _ = _ → Ev _ _ _ _); intro _)
  | with_reducible apply et_and
  | with_reducible apply et_or
  | with_reducible apply ev_andV
  | with_reducible apply ev_orV
  | with_reducible apply et_test
  | with_reducible apply et_B
  | with_reducible apply et_not
  | with_reducible apply ev_notV
  | with_reducible apply ev_un
  | with_reducible apply ev_op))

section
variable {w : World} {K : PySem.W.Frag} {mg : Mg} {base : Heap} {k : Nat}
def spRows (K : PySem.W.Frag) : Sp := spP (ι := LArg) (fun i => [.ref i.a]) (fun i H => LadderAt K H i.n i.a i.M) (fun i H v H2 => v = .int (2 ^ i.M.ins.length))
theorem c_rows (T : Tx w K mg base) : Cal PG w K mg base 1 "rows" (spRows K) := by
  refine cal_of (fnd ["ladder"] ["ladder"] T.d_rows (by decide +kernel) (spP_len fun _ => rfl) (fun _ _ _ _ _ _ us h => by match us, h with | [_], _ => rfl) ?_) T.g_rows
  rintro cdv A outer s H vs Q E hr ⟨⟨n, a, M⟩, rfl, hL, hQ⟩
  have hL : LadderAt K H n a M := hL
  have nd : (["ladder"] : List Str).Nodup := by decide +kernel
  refine ⟨_, 
    (pss_cons (ps_ret (pe_op op_shl pe_int (pe_callB call_len_seq (by rfl) T.f_len (by decide +kernel) (pa_cons (pe_fldT T (pv 0)) pa_nil)))) pss_nil), SS.here ?_⟩
  obtain ⟨ti, fi, hti⟩ := hL.fi T
  have il := hL.len
  refine ss_ret (v := .int (2 ^ M.ins.length)) (ev_is (ev_op ev_c (ev_lenS (k := false) (ev_fld (ev_var rfl) fi) (.of hti)) (rv_I ⟨by omega, by rw [List.length_map]; omega, by decide⟩)) ?_) fun H1 e1 => hQ _ H1 e1 rfl
  rw [Int.toNat_natCast, List.length_map, Int.one_mul]
def noRow (K : PySem.W.Frag) (H : Hp) (E : XK) : Prop := ∀ H2, Ex H H2 → E (.ref (He.ga K "NoRow")) none H2
def RowOk (M : Ldr) (s : Int) : Prop := 0 ≤ s ∧ s < 2 ^ M.ins.length
def spRowOf (K : PySem.W.Frag) : Sp := fun vs H Q E => ∃ i : NArg, vs = [.ref i.a, .int i.s] ∧ LadderAt K H i.n i.a i.M ∧ (RowOk i.M i.s → ∀ v H2, Ex H H2 → NewT H ((rowB i.M.ins.length i.s).map V.bl) v H2 → Q v H2) ∧ (¬ RowOk i.M i.s → noRow K H E)
theorem c_row_of (T : Tx w K mg base) : Cal PG w K mg base 2 "row_of" (spRowOf K) := by
  refine cal_of (fnd ["ladder", "number", "k"] ["ladder", "number"] T.d_row_of (by decide +kernel) (fun vs H Q E ⟨_, e, _⟩ => by rw [e]; rfl) (fun _ _ _ _ _ _ us h => by match us, h with | [_, _], _ => rfl) ?_) T.g_row_of
  rintro cdv A outer s H vs Q E hr ⟨⟨⟨n, a, M⟩, st⟩, rfl, hL, hQ, hE⟩
  have hL : LadderAt K H n a M := hL
  have nd : (["ladder", "number", "k"] : List Str).Nodup := by decide +kernel
  refine ⟨_, 
    (pss_cons (ps_if (pt_not (pt_chain op_le op_lt pe_int (pv 1) (pe_fn T hr (by rfl) T.g_rows pass0 T.kp_rows (pa_cons (pv 0) pa_nil)))) 
    (pss_cons (ps_raise rfl (takes_of rfl rfl rfl rfl) (pmk_own PySem.F.excBase_ValueError T.e_NoRow.1 T.g_NoRow T.e_NoRow.2.1 (raises_own T.e_NoRow.2.2.1 T.e_NoRow.2.2.2) (by rfl))) pss_nil) pss_nil) 
    (pss_cons (ps_ret (pe_callTy call_tuple_of (by rfl) T.f_tuple (by decide +kernel) (pa_cons (pe_lc (own := [("k", 2)]) (g := gName 2) (tt := tYes) rfl nd (pi_range1 (by rfl) T.f_range (pa_cons (pe_callB call_len_seq (by rfl) T.f_len (by decide +kernel) (pa_cons (pe_fldT T (pv 0)) pa_nil)) pa_nil)) (blkOk_by (N := ["ladder", "number", "k"]) (sc := defScope s_row_of) (own := [("k", 2)]) (by decide +kernel)) (fun _ _ _ _ _ => (pg_name (i := 2) nd rfl (Or.inl rfl))) (fun _ _ _ _ _ => pts_nil) (fun _ _ _ _ _ => pe_hide (pe_cmpR op_eq (pe_op op_and (pe_op op_shr (pv 1) (pv 2)) pe_int) pe_int (nomark _)))) pa_nil))) pss_nil)), SS.here ?_⟩
  obtain ⟨ti, fi, hti⟩ := hL.fi T
  have il := hL.len
  refine ss_when (b := !(decide (0 ≤ st) && decide (st < 2 ^ M.ins.length))) (et_not (et_test (ev_chain ev_c (ev_var rfl) rv_I0 fun _ => ⟨ev_fnV (ea_cons (ev_var rfl) ea_nil) (c_rows T) (spP_r ⟨n, a, M⟩ rfl (fun H2 e2 => hL.im (.of e2)) fun _ _ _ _ _ r => r), rv_I0⟩))) (fun hb => ?_) fun hb => ?_
  · have hbad : ¬ RowOk M st := fun ⟨h1, h2⟩ => by
      rw [decide_eq_true h1, decide_eq_true h2] at hb
      cases hb
    exact fun H1 e1 => hE hbad H1 e1
  have hg : RowOk M st := by
    have : (decide (0 ≤ st) && decide (st < 2 ^ M.ins.length)) = true := by simpa using hb
    rw [Bool.and_eq_true] at this
    exact ⟨of_decide_eq_true this.1, of_decide_eq_true this.2⟩
  have key := er_lcRV (vs := [2]) (σ := [some (.ref a), some (.int st), none]) (H := H) (n := M.ins.length) (j := 2) (te := tOp rEq (tOp (rI0 fun i j => .int (Builtin.bitAnd i j)) (tOp (rI (fun _ j => 0 ≤ j) fun i j => .int (i / 2 ^ j.toNat)) (tVar 1) (tVar 2)) (tC (.int 1))) (tC (.int 1))) (tr := tCons (tCB (rLenS K) (tCons (tFld K (tVar 0) "inputs") tNil)) tNil) (fun i => .bl (decide (st / 2 ^ i % 2 = 1))) (ea_cons (ev_is (ev_lenS (k := false) (ev_fld (ev_var rfl) fi) (.of hti)) (by rw [List.length_map])) ea_nil) (by omega) (fun _ => rfl) fun i hi => ev_is (ev_op (ev_op (ev_op (ev_var rfl) (ev_var rfl) (rv_I (by omega))) ev_c rv_I0) ev_c (rv_eq rfl)) (by
      rw [Int.toNat_natCast]
      have := PySem.W.kbt_mask (st / 2 ^ i) 1
      rw [show (2 : Int) ^ 1 - 1 = 1 by decide] at this
      rw [this]
      simp only [V.int.injEq]
      rfl)
  exact ss_retR (er_cb1 (R := NewT H ((rowB M.ins.length st).map V.bl)) key fun x F1 e3 ⟨l, ex, hl0, hl1⟩ Q q => ⟨l, _, by rw [ex], .inl ⟨.of hl1, fun t ht => q _ _ (.new ht) ⟨t, rfl, fresh_back e3 ht, by rw [upd_same]; unfold rowB; rw [List.map_map]; rfl⟩⟩⟩) fun v F1 e3 r => hQ hg v F1 e3 r
structure RArg where
  k : Bool
  t : Addr
  bs : List Bool
def spRowNum (K : PySem.W.Frag) : Sp := spP (ι := RArg) (fun i => [.ref i.t]) (fun i H => Sq K i.k H i.t (i.bs.map V.bl) ∧ i.bs.length ≤ 1000) (fun i H v H2 => v = .int (bitsN i.bs))
theorem bitsN_or {bs : List Bool} {i : Nat} {b : Bool} (h : bs[i]? = some b) : Builtin.bitOr (bitsN (bs.take i)) (b2n b * 2 ^ i) = bitsN (bs.take (i + 1)) := by
  have hi : i < bs.length := (List.getElem?_eq_some_iff.mp h).1
  have hl : (bs.take i).length = i := by rw [List.length_take]; omega
  have r := bitsN_range (bs.take i)
  rw [hl] at r
  rw [or_shl r.1 r.2 (b2n_range b).1, List.take_add_one, h]
  show _ = bitsN (bs.take i ++ [b])
  rw [bitsN_snoc, hl]
theorem c_row_number (T : Tx w K mg base) : Cal PG w K mg base 1 "row_number" (spRowNum K) := by
  refine cal_of (fnd ["row", "number", "k", "truth"] ["row"] T.d_row_number (by decide +kernel) (spP_len fun _ => rfl) (fun _ _ _ _ _ _ us h => by match us, h with | [_], _ => rfl) ?_) T.g_row_number
  rintro cdv A outer s H vs Q E hr ⟨⟨k, t, bs⟩, rfl, ⟨ht, hl⟩, hQ⟩
  have ht : Sq K k H t (bs.map V.bl) := ht
  have hl : bs.length ≤ 1000 := hl
  have nd : (["row", "number", "k", "truth"] : List Str).Nodup := by decide +kernel
  refine ⟨_, 
    (pss_cons (ps_set (i := 1) nd rfl (Or.inl rfl) pe_int) 
    (pss_cons (ps_for (passes_of rfl) rfl (pi_enumK (by rfl) T.f_enumerate (pa_cons (pv 0) pa_nil)) (pg_tup rfl (pgs_cons (pg_name (i := 2) nd rfl (Or.inl rfl)) (pgs_cons (pg_name (i := 3) nd rfl (Or.inl rfl)) pgs_nil))) 
    (pss_cons (ps_set (i := 1) nd rfl (Or.inl rfl) (pe_op op_or (pv 1) (pe_op op_shl (pe_callTy call_int1 (by rfl) T.f_int (by decide +kernel) (pa_cons (pv 3) pa_nil)) (pv 2)))) pss_nil)) 
    (pss_cons (ps_ret (pv 1)) pss_nil))), SS.here ?_⟩
  refine ss_asg ev_c ?_
  refine ss_forEnum (ea_cons (ev_var rfl) ea_nil) ht (fun i σ' F => (∃ o2 o3, σ' = [some (.ref t), some (.int (bitsN (bs.take i))), o2, o3]) ∧ Ex H F) (fun F e => ⟨⟨_, _, rfl⟩, e⟩) (fun i σ' F ⟨_, e⟩ => ex_s e ht) (fun i σ' G1 G2 ⟨a1, e⟩ e2 => ⟨a1, e.trans e2⟩) ?_ ?_
  · rintro i x σ' F hx ⟨⟨o2, o3, rfl⟩, e⟩
    rw [List.getElem?_map] at hx
    obtain ⟨b, hb, rfl⟩ := Option.map_eq_some_iff.mp hx
    have hi : i < bs.length := (List.getElem?_eq_some_iff.mp hb).1
    have := b2n_range b
    refine ss_asg (v := .int (bitsN (bs.take (i + 1)))) (ev_is (ev_op (ev_var rfl) (ev_op (ev_cb (ea_cons (ev_var rfl) ea_nil) rc_intB) (ev_var rfl) (rv_I ⟨by omega, by omega, by omega⟩)) rv_I0) ?_) (ss_end fun F1 f1 => ⟨⟨_, _, rfl⟩, e.trans f1⟩)
    rw [Int.toNat_natCast, bitsN_or hb]
  · rintro σ' F ⟨⟨o2, o3, rfl⟩, e⟩
    rw [List.length_map, List.take_length]
    exact SS.here (ss_ret (ev_var rfl) fun F1 f1 => hQ _ F1 (e.trans f1) rfl)
theorem er_row_number (T : Tx w K mg base) {j : Nat} {σ : L2.St} {H : Hp} {ta : TE} {bs : List Bool} {E : L2.St → XK} (h : EvR ta σ H (NewT H (bs.map V.bl))) (hl : bs.length ≤ 1000) : Ev (tFn (Cal PG w K mg base (j + 1) "row_number") E (tCons ta tNil)) σ H (.int (bitsN bs)) :=
  (er_fn (Ra := fun vs H1 => ∃ t, vs = [.ref t] ∧ H1 t = some (.tup (bs.map V.bl))) (ar_cons h fun x H1 e1 ⟨t, ex, _, ht⟩ => fun H2 e2 Q q => q [] H2 (.refl _) ⟨t, by rw [ex], e2 _ _ ht⟩) fun vs H1 e1 ⟨t, evs, ht⟩ => ⟨spRowNum K, (c_row_number T).mono (by omega), spP_r (R' := fun z _ => z = .int (bitsN bs)) ⟨false, t, bs⟩ evs (fun H2 e2 => ⟨.of (e2 _ _ ht), hl⟩) fun _ _ _ _ _ r => r⟩).ev
theorem scan_len {M : Ldr} {βi : Str → Bool} {ν : Nu} : (scan M βi ν).2.length = M.rungs.length := scanL_len
theorem ss_asgMe {MO : Addr → Str → Sp → Prop} {m : Str} {i : Nat} {E : L2.St → XK} {σ : L2.St} {H : Hp} {D : Ends} {tz : TS} {ta : TE} {tr : TA} {a C dx : Addr} {fs : List (Str × V)} {sp : Sp} {Ra : List V → Hp → Prop} {P : Hp → V → Hp → Prop} (ho : Ev ta σ H (.ref a)) (hi : H a = some (.ins C dx fs)) (hl : fs.lookup m = none) (hm : MO C m sp) (ha : EvAR tr σ H Ra)
    (h : ∀ vs H1, Ex H H1 → Ra vs H1 → ∀ Q : VK, (∀ v H2, P H1 v H2 → Q v H2) → sp (.ref a :: vs) H1 Q (E σ)) (k : ∀ H1 v H2, Ex H H1 → P H1 v H2 → SS tz D (σ.set i (some v)) H2) : SS (tSeq (tAsg (tMe MO m E ta tr) (gName i)) tz) D σ H :=
  fun H1 e1 => ho H1 e1 _ fun H2 e2 => ⟨a, C, dx, fs, sp, rfl, (e1.trans e2) _ _ hi, hl, hm, ha H2 (e1.trans e2) _ fun vs H3 e3 r => h vs H3 (e1.trans (e2.trans e3)) r _ fun v H4 p => (k H3 v H4 (e1.trans (e2.trans e3)) p).here⟩
def stepV (M : Ldr) (ν : Nu) (βs : List Bool) : List V := [.int (stateN M (scan M (rowF M.ins βs) ν).1), .int (bitsN (M.outs.map fun x => bit M.rungs (scan M (rowF M.ins βs) ν).1 x)), .int (bitsN (scan M (rowF M.ins βs) ν).2)]
structure N2Arg extends NArg where
  num : Int
def spStep (K : PySem.W.Frag) (n : Nat) : Sp := fun vs H Q E => ∃ i : N2Arg, vs = [.ref i.a, .int i.s, .int i.num] ∧ (LadderAt K H (n + 1) i.a i.M ∧ LdrOk i.M) ∧ (Good i.M i.s → RowOk i.M i.num → ∀ v H2, Ex H H2 → NewT H (stepV i.M (nuOf i.M i.s) (rowB i.M.ins.length i.num)) v H2 → Q v H2) ∧ (¬ Good i.M i.s → noState K H E) ∧ (Good i.M i.s → ¬ RowOk i.M i.num → noRow K H E)
theorem c_step (T : Tx w K mg base) (n : Nat) : Cal PG w K mg base (n + 5) "step" (spStep K n) := by
  refine cal_of (fnd ["ladder", "state", "number", "works", "held"] ["ladder", "state", "number"] T.d_step (by decide +kernel) (fun vs H Q E ⟨_, e, _⟩ => by rw [e]; rfl) (fun _ _ _ _ _ _ us h => by match us, h with | [_, _, _], _ => rfl) ?_) T.g_step
  rintro cdv A outer s H vs Q E hr ⟨⟨⟨⟨_, a, M⟩, st⟩, num⟩, rfl, ⟨hL, ok⟩, hQ, hE1, hE2⟩
  have hL : LadderAt K H (n + 1) a M := hL
  have ok : LdrOk M := ok
  have nd : (["ladder", "state", "number", "works", "held"] : List Str).Nodup := by decide +kernel
  refine ⟨_, 
    (pss_cons (ps_set (i := 3) nd rfl (Or.inl rfl) (pe_fn T hr (by rfl) T.g_works_at (passAt (takes_of rfl rfl rfl rfl)) T.kp_works_at (pa_cons (pv 0) (pa_cons (pv 1) pa_nil)))) 
    (pss_cons (ps_set (i := 4) nd rfl (Or.inl rfl) (pe_me T hr pass0 (pv 3) (pa_cons (pe_fn T hr (by rfl) T.g_row_of (passAt (takes_of rfl rfl rfl rfl)) T.kp_row_of (pa_cons (pv 0) (pa_cons (pv 2) pa_nil))) pa_nil))) 
    (pss_cons (ps_ret (pe_tup (pa_cons (pe_fn T hr (by rfl) T.g_state_of pass0 T.kp_state_of (pa_cons (pv 3) pa_nil)) (pa_cons (pe_fn T hr (by rfl) T.g_row_number pass0 T.kp_row_number (pa_cons (pe_me0 T hr pass0 (pv 3)) pa_nil)) (pa_cons (pe_fn T hr (by rfl) T.g_row_number pass0 T.kp_row_number (pa_cons (pv 4) pa_nil)) pa_nil))))) pss_nil))), SS.here ?_⟩
  by_cases hg : Good M st
  case neg =>
    exact fun H1 e1 => ⟨.ref a, rfl, .int st, rfl, spWorksAt K, (c_works_at T).mono (by omega), ⟨⟨n + 1, a, M⟩, st⟩, rfl, ⟨hL.im (.of e1), ok⟩, fun h => absurd h hg, fun _ H2 e2 => hE1 hg H2 (e1.trans e2)⟩
  have hst := good_ok ok hg
  refine ss_asgR (R := fun v H2 => MadeAt K H H2 (n + 1) a M (fun _ => false) (nuOf M st) v) (fun H1 e1 Q' q' => ⟨.ref a, rfl, .int st, rfl, spWorksAt K, (c_works_at T).mono (by omega), ⟨⟨n + 1, a, M⟩, st⟩, rfl, ⟨hL.im (.of e1), ok⟩, fun _ v H2 e2 ⟨W, a1, a2, a3, a4⟩ => q' v H2 e2 ⟨W, a1, a2, a3, fun d hd => fresh_back e1 (a4 d hd)⟩, fun h => absurd hg h⟩) fun v H1 e1 ⟨W, ev, hla, hw, hdd⟩ => ?_
  subst ev
  obtain ⟨dx, hobj⟩ := hw.obj
  have rl := ok.rl
  have ol := ok.ol
  by_cases hrow : RowOk M num
  case neg =>
    exact fun H2 e2 => ⟨.ref W.a, rfl, W.a, _, dx, wfs W, spScan K n, rfl, e2 _ _ hobj, (by rfl), (m_scan T n).mono (by omega), .ref a, rfl, .int num, rfl, spRowOf K, (c_row_of T).mono (by omega), ⟨⟨n + 1, a, M⟩, num⟩, rfl, hL.im (.of (e1.trans e2)), fun h => absurd h hrow, fun _ H3 e3 => hE2 hg hrow H3 (e1.trans (e2.trans e3))⟩
  refine ss_asgMe (Ra := fun vs G => ∃ t, vs = [.ref t] ∧ G t = some (.tup ((rowB M.ins.length num).map V.bl))) (P := fun G1 v G2 => Mo W.dd G1 G2 ∧ WorksAt K G2 (n + 1) W M (rowF M.ins (rowB M.ins.length num)) (scan M (rowF M.ins (rowB M.ins.length num)) (nuOf M st)).1 ∧ NewT G1 ((scan M (rowF M.ins (rowB M.ins.length num)) (nuOf M st)).2.map V.bl) v G2)
    (ev_var rfl) hobj (by rfl) ((m_scan T n).mono (by omega)) (ar_cons (Ra := fun v G => NewT H1 ((rowB M.ins.length num).map V.bl) v G) (fun H2 e2 Q' q' => ⟨.ref a, rfl, .int num, rfl, spRowOf K, (c_row_of T).mono (by omega), ⟨⟨n + 1, a, M⟩, num⟩, rfl, hL.im (.of (e1.trans e2)), fun _ v H3 e3 ⟨p, a1, a2, a3⟩ => q' v H3 e3 ⟨p, a1, fresh_back e2 a2, a3⟩, fun h => absurd hrow h⟩) fun x G1 g1 ⟨t, ex, _, ht⟩ => fun G2 g2 Q' q' => q' [] G2 (.refl _) ⟨t, by rw [ex], g2 _ _ ht⟩)
    (fun vs G1 g1 ⟨t, evs, ht⟩ Q' q' => ⟨⟨n + 1, W, M, fun _ => false, nuOf M st, false, t, rowB M.ins.length num⟩, by rw [evs], ⟨WRaw.ex hw g1, ok, hst.ok, .of ht, rowB_len _ _⟩, fun v G2 m w nt => q' v G2 ⟨m, w, nt⟩⟩) fun G1 v G2 g1 ⟨mm, ww, p, ev, _, hp⟩ => ?_
  subst ev
  have eG : Ex H G2 := fun x o h => mm x o (g1 _ _ (e1 x o h)) fun q => by rw [hdd x q] at h; cases h
  obtain ⟨dx2, hobj2⟩ := WRaw.obj ww
  have st2 : StOk M (scan M (rowF M.ins (rowB M.ins.length num)) (nuOf M st)).1 := scanL_st ok (fun _ h => h) hst
  refine ss_retR (er_tupV (vs := stepV M (nuOf M st) (rowB M.ins.length num)) (ea_cons (ev_fnV (ea_cons (ev_var rfl) ea_nil) ((c_state_of T).mono (by omega)) (spP_r ⟨n + 1, W, M, rowF M.ins (rowB M.ins.length num), _⟩ rfl (fun H2 e2 => ⟨WRaw.ex ww e2, ok, st2⟩) fun _ _ _ _ _ r => r)) (ea_cons (er_row_number T (er_meV (ev_var rfl) hobj2 (by rfl) ((m_answers T).mono (by omega)) ea_nil (spP_r ⟨n + 1, W, M, rowF M.ins (rowB M.ins.length num), _⟩ rfl (fun H2 e2 => ⟨WRaw.ex ww e2, ok⟩) fun _ v _ e1 _ ⟨p, a1, a2, a3⟩ => ⟨p, a1, fresh_back e1 a2, a3⟩)) (by rw [List.length_map]; omega)) (ea_cons (ev_fnV (ea_cons (ev_var rfl) ea_nil) ((c_row_number T).mono (by omega)) (spP_r ⟨false, p, _⟩ rfl (fun H2 e2 => ⟨.of (e2 _ _ hp), by rw [scan_len]; omega⟩) fun _ _ _ _ _ r => r)) ea_nil))) (by show 3 ≤ 100000; decide)) fun v G3 g3 ⟨p, a1, a2, a3⟩ => hQ hg hrow v G3 (eG.trans g3) ⟨p, a1, fresh_back eG a2, a3⟩
end
end RgK
set_option Elab.async false
set_option linter.all false
set_option maxRecDepth 100000
set_option maxHeartbeats 4000000
/-! Closures: hidden cells; the frame of a made function with cells of its own and captured ones. -/
namespace RgK
open PySem PySem.Spec PyProof.Rows L2 Evl
/-! ### cells, hidden and not -/
def CellO (c : Addr) (v : V) : HO := .ext fun h => ∃ u, L2.RelV v u ∧ h.IsCell c (some u)
def Cells (l : List Addr) (H : Hp) : Prop := ∀ a ∈ l, ∃ v, H a = some (CellO a v)
def hid (l : List Addr) (H : Hp) : Hp := fun a => if a ∈ l then none else H a
def unh (l : List Addr) (H H2 : Hp) : Hp := fun a => if a ∈ l then H a else H2 a
section
variable {l : List Addr} {H H2 : Hp} {a b : Addr}
theorem hid_in (h : a ∈ l) : hid l H a = none := if_pos h
theorem hid_out (h : a ∉ l) : hid l H a = H a := if_neg h
theorem unh_in (h : a ∈ l) : unh l H H2 a = H a := if_pos h
theorem unh_out (h : a ∉ l) : unh l H H2 a = H2 a := if_neg h
theorem Cells.ne {o : HO} (c : Cells l H) (e : H a = some o) (n : ∀ φ, o ≠ .ext φ) : a ∉ l := fun z => by
  obtain ⟨v, q⟩ := c a z
  rw [q] at e
  exact n _ (Option.some.inj e).symm
theorem Cells.keep {o : HO} (c : Cells l H) (e : H a = some o) (n : ∀ φ, o ≠ .ext φ) : hid l H a = some o := by rw [hid_out (c.ne e n)]; exact e
theorem hid_none (e : H a = none) : hid l H a = none := by
  by_cases z : a ∈ l
  · exact hid_in z
  · rw [hid_out z]; exact e
theorem cell_at {P : Program} {w : World} {h : Heap} {c : Addr} {v : V} (hok : HOk P w H h) (e : H c = some (CellO c v)) : ∃ u, L2.RelV v u ∧ h.IsCell c (some u) := (hok c _ e).1
theorem cell_ok {P : Program} {w : World} {h : Heap} {c : Addr} {v : V} {u : Value} (r : L2.RelV v u) (z : h.IsCell c (some u)) : ObjOk P w H h c (CellO c v) := by
  have z' := z
  obtain ⟨o, ho, hd⟩ := z
  exact ⟨⟨u, r, z'⟩, ⟨o, ho⟩, fun g1 g2 ⟨u2, r2, o2, e2, d2⟩ st => ⟨u2, r2, o2, st _ e2, d2⟩⟩
end
section
variable {P : Program} {w : World} {K : PySem.W.Frag} {mg : Str → Option Value} {base : Heap} {A : Around} {outer : List Env} {s s' : Shared} {l : List Addr} {H : Hp} {Q Q' : VK} {E E' : XK} {u : Value}
theorem hok_hid {h : Heap} (hok : HOk P w H h) (c : Cells l H) : HOk P w (hid l H) h := fun a o e => by
  have na : a ∉ l := fun z => by rw [hid_in z] at e; cases e
  rw [hid_out na] at e
  exact (hok a o e).stay (fun _ _ _ q => q) (fun b q => c.keep q fun _ z => nomatch z) fun b xs q => c.keep q fun _ z => nomatch z
theorem env0_hid (e : Env0 P w K mg base A outer s H) (c : Cells l H) : Env0 P w K mg base A outer s (hid l H) :=
  ⟨e.frames, e.mod, fun b o q => ⟨(e.bs b o q).1, hid_none (e.bs b o q).2⟩, e.bsz, e.funs, fun b q => hid_none (e.frf b q), hok_hid e.hok c, e.bare⟩
/-- the objects of a later heap, the hidden ones added -/
theorem hok_unh {h g : Heap} {H2 : Hp} (hok : HOk P w H h) (c : Cells l H) (ok2 : HOk P w H2 g) (kp : ∀ a ∈ l, ∀ o, h.get? a = some o → g.get? a = some o) (fr : ∀ a ∈ l, H2 a = none) : HOk P w (unh l H H2) g := fun a o e => by
  have keep2 : ∀ {b : Addr} {u : HO}, H2 b = some u → unh l H H2 b = some u := fun {b u} q => by
    rw [unh_out (fun z => by rw [fr b z] at q; cases q)]
    exact q
  by_cases z : a ∈ l
  · obtain ⟨v, q⟩ := c a z
    rw [unh_in z, q] at e
    cases e
    obtain ⟨u, r, ob, ho, hd⟩ := cell_at hok q
    exact cell_ok r ⟨ob, kp a z ob ho, hd⟩
  · rw [unh_out z] at e
    exact (ok2 a o e).stay (fun _ _ _ q => q) (fun b q => keep2 q) fun b xs q => keep2 q
theorem ce_unh (hok : HOk P w H s.heap) (c : Cells l H) (nf : ∀ b ∈ frs outer, H b = none) (h : CE outer P w (hid l H) s Q' u s') (q : ∀ v H2, (∀ a ∈ l, H2 a = none) → Q' v H2 → Q v (unh l H H2)) : CE outer P w H s Q u s' := by
  obtain ⟨v, H2, h1, h2, un, ok2, r, hq⟩ := h
  have lf : ∀ a ∈ l, a ∉ frs outer := fun a z f => by
    obtain ⟨v, e⟩ := c a z
    rw [nf a f] at e
    cases e
  have lo : ∀ a ∈ l, ∃ o, s.heap.get? a = some o := fun a z => by
    obtain ⟨v, e⟩ := c a z
    obtain ⟨u, _, o, ho, _⟩ := cell_at hok e
    exact ⟨o, ho⟩
  have fr2 : ∀ a ∈ l, H2 a = none := fun a z => by
    obtain ⟨o, ho⟩ := lo a z
    exact un.free a o ho (hid_in z) (by simp)
  have kp : ∀ a ∈ l, ∀ o, s.heap.get? a = some o → s'.heap.get? a = some o := fun a z o ho => un.keep a o ho (hid_in z) (lf a z) (by simp)
  have back : ∀ {b : Addr} {o : HO}, (∀ φ, o ≠ .ext φ) → H b = some o → ∀ {o' : HO}, (hid l H b = some o → H2 b = some o') → unh l H H2 b = some o' := fun {b o} n e {o'} k => by
    have nb := c.ne e n
    rw [unh_out nb]
    exact k (c.keep e n)
  refine ⟨v, unh l H H2, h1, h2, ⟨fun b o e n => un.keep b o e (hid_none n), fun b o e n => un.slot b o e (hid_none n), fun b o e n x => ?_, un.there, fun b xs e => back (by intro φ z; cases z) e (un.tups b xs), fun b o x e => back (by intro φ z; cases z) e (un.frzs b o x), fun b ps e => ?_⟩, hok_unh hok c ok2 kp fr2, r, q v H2 fr2 hq⟩
  · have nb : b ∉ l := fun z => by
      obtain ⟨v, q⟩ := c b z
      rw [n] at q
      cases q
    rw [unh_out nb]
    exact un.free b o e (hid_none n) x
  · have nb := c.ne e fun _ z => nomatch z
    obtain ⟨more, q⟩ := un.tbls b ps (c.keep e fun _ z => nomatch z)
    exact ⟨more, by rw [unh_out nb]; exact q⟩
theorem cx_unh (hok : HOk P w H s.heap) (c : Cells l H) (nf : ∀ b ∈ frs outer, H b = none) (h : L2.CX P w outer (hid l H) s E' u s') (q : ∀ cls d H2, (∀ a ∈ l, H2 a = none) → E' cls d H2 → E cls d (unh l H H2)) : L2.CX P w outer H s E u s' := by
  obtain ⟨a, B, H2, cls, d, h1, fl, ok2, un, na, os, ag, he⟩ := h
  have lf : ∀ x ∈ l, x ∉ frs outer := fun x z f => by
    obtain ⟨v, e⟩ := c x z
    rw [nf x f] at e
    cases e
  have fr2 : ∀ x ∈ l, H2 x = none := fun x z => by
    obtain ⟨v, e⟩ := c x z
    obtain ⟨u, _, o, ho, _⟩ := cell_at hok e
    exact un.free x o ho (hid_in z)
  have kp : ∀ x ∈ l, ∀ o, s.heap.get? x = some o → B.get? x = some o := fun x z o ho => un.keep x o ho (hid_in z) (lf x z)
  have back : ∀ {b : Addr} {o : HO}, (∀ φ, o ≠ .ext φ) → H b = some o → ∀ {o' : HO}, (hid l H b = some o → H2 b = some o') → unh l H H2 b = some o' := fun {b o} n e {o'} k => by
    have nb := c.ne e n
    rw [unh_out nb]
    exact k (c.keep e n)
  have nal : a ∉ l := fun z => by
    obtain ⟨v, e⟩ := c a z
    obtain ⟨u, _, o, ho, hd⟩ := cell_at hok e
    have q1 := kp a z o ho
    rw [fl.2.1] at q1
    cases q1
  refine ⟨a, B, unh l H H2, cls, d, h1, fl, hok_unh hok c ok2 kp fr2, ⟨fun b o e n => un.keep b o e (hid_none n), un.slot, fun b o e n => ?_, un.there, fun b xs e => back (by intro φ z; cases z) e (un.tups b xs), fun b o x e => back (by intro φ z; cases z) e (un.frzs b o x), fun b ps e => ?_⟩, by rw [unh_out nal]; exact na, os, ag, q cls d H2 fr2 he⟩
  · have nb : b ∉ l := fun z => by
      obtain ⟨v, q⟩ := c b z
      rw [n] at q
      cases q
    rw [unh_out nb]
    exact un.free b o e (hid_none n)
  · have nb := c.ne e fun _ z => nomatch z
    obtain ⟨more, q⟩ := un.tbls b ps (c.keep e fun _ z => nomatch z)
    exact ⟨more, by rw [unh_out nb]; exact q⟩
end
/-! ### the frame of a made function -/
section
variable {M : Model} {A : Around} {E : Value → Shared → Prop} {s₀ s : Shared} {env : Env} {own cl : List (Str × Addr)}
theorem look_app {own cl : List (Str × Addr)} {x : Str} {c : Addr} (h : own.lookup x = some c) : (own ++ cl).lookup x = some c := by rw [List.lookup_append, h]; rfl
theorem bind_cc (f : Str × Value → PUnit → Sem (ForInStep PUnit)) (hf : ∀ n v u, f (n, v) u = (do storeName env n v; pure (.yield ⟨⟩))) (hk : env.scope.kind = .function) (hcs : env.cells = own ++ cl) :
    ∀ (bs : List (Str × Value)) (m cm : Str → Option Value) (s : Shared) (Q : PUnit → Shared → Prop), InCallC s₀ env.locals m own cm s → (∀ x ∈ bs, env.kindOf x.1 = some .local ∨ (env.kindOf x.1 = some .cell ∧ (own.lookup x.1).isSome = true)) →
      (∀ s', InCallC s₀ env.locals (bindL env.kindOf bs m) own (bindC env.kindOf bs cm) s' → Q ⟨⟩ s') → wpAny M A (forIn bs ⟨⟩ f) Q E s
  | [], m, cm, s, Q, x, _, h => by
    rw [List.forIn_nil]
    exact wpAny_pure (h s x)
  | (n, v) :: bs, m, cm, s, Q, x, kinds, h => by
    rw [List.forIn_cons, hf]
    have rest := fun y hy => kinds y (List.mem_cons_of_mem _ hy)
    obtain ⟨hp, tk, e0⟩ := x.toInCall.same
    rcases kinds (n, v) List.mem_cons_self with loc | ⟨cel, there⟩
    · refine wpAny_bind (wpAny_bind (wpAny_storeName_local loc x.toInCall.ns (fun h' ns' sb => wpAny_pure ?_) (by rw [hk]; rfl)))
      refine bind_cc f hf hk hcs bs _ cm _ Q ⟨⟨(by subst e0; exact ⟨_, _, rfl⟩), ns', fun b o e => sb.extBut b o (Nat.ne_of_lt (Nat.lt_of_lt_of_le (Heap.lt_size e) x.toInCall.fresh)) (x.toInCall.keep b o e), x.toInCall.fresh⟩, fun k c hc => ?_, x.apart, x.above⟩ rest fun s2 x2 => h s2 ?_
      · exact (x.cell k c hc).sameBut sb (Nat.ne_of_gt (x.above k c (PySem.mem_of_lookup hc)))
      · show InCallC s₀ env.locals (bindL env.kindOf bs (if env.kindOf n = some .local then _ else m)) own (bindC env.kindOf bs (if env.kindOf n = some .local then cm else _)) s2
        rw [if_pos loc, if_pos loc]
        exact x2
    · obtain ⟨c, hc⟩ := Option.isSome_iff_exists.mp there
      have nl : ¬ env.kindOf n = some .local := by rw [cel]; decide
      have up := x.above n c (PySem.mem_of_lookup hc)
      refine wpAny_bind (wpAny_bind (wpAny_storeName_cell hk cel (by rw [hcs]; exact look_app hc) (x.cell n c hc) fun h' isc sb => wpAny_pure ?_))
      refine bind_cc f hf hk hcs bs m (fun y => if y = n then some v else cm y) _ Q ⟨⟨(by subst e0; exact ⟨_, _, rfl⟩), x.toInCall.ns.sameBut sb (Nat.ne_of_lt up), fun b o e => sb.extBut b o (Nat.ne_of_lt (Nat.lt_trans (Nat.lt_of_lt_of_le (Heap.lt_size e) x.toInCall.fresh) up)) (x.toInCall.keep b o e), x.toInCall.fresh⟩, fun k d hd => ?_, x.apart, x.above⟩ rest fun s2 x2 => h s2 ?_
      · by_cases e : k = n
        · rw [e, hc] at hd
          cases hd
          rw [if_pos e]
          exact isc
        · rw [if_neg e]
          exact (x.cell k d hd).sameBut sb fun q => e (name_of_addr x.apart (PySem.mem_of_lookup hd) (by rw [q]; exact PySem.mem_of_lookup hc))
      · show InCallC s₀ env.locals (bindL env.kindOf bs (if env.kindOf n = some .local then _ else m)) own (bindC env.kindOf bs (if env.kindOf n = some .local then cm else _)) s2
        rw [if_neg nl, if_neg nl]
        exact x2
theorem new_cc {scope : Scope} {globals : Addr} {bs : List (Str × Value)} {qual : Str} {func : Option Addr} {code : Value} {blt : Addr} {Q : Env → Shared → Prop} (hk : scope.kind = .function)
    (kinds : ∀ x ∈ bs, scope.names.lookup x.1 = some .local ∨ (scope.names.lookup x.1 = some .cell ∧ ((cellsFrom (s.heap.objs.size + 1) scope.names []).lookup x.1).isSome = true))
    (h : ∀ env, env = newEnv scope s.heap.objs.size globals (cellsFrom (s.heap.objs.size + 1) scope.names [] ++ cl) qual func code none blt → ∀ s', InCallC s env.locals (bindL env.kindOf bs fun _ => none) (cellsFrom (s.heap.objs.size + 1) scope.names []) (bindC env.kindOf bs fun _ => none) s' → Q env s') :
    wpAny M A (newFunctionEnv scope globals cl bs qual func code none blt) Q E s := by
  simp only [newFunctionEnv, Option.isSome_none, Bool.false_eq_true, if_false]
  refine wpAny_bind (wpAny_alloc (wpAny_bind (wpAny_layCells _ (fun name kind cells => by cases q : kind == NameKind.cell <;> simp [q]) _ _ _ _ ?_)))
  have sz : (s.heap.push { cls := .type "frame", data := .dict #[] }).objs.size = s.heap.objs.size + 1 := Heap.size_push ..
  have ok := cellsFrom_ok scope.names (s.heap.push { cls := .type "frame", data := .dict #[] }) (s.heap.objs.size + 1) [] ⟨fun _ _ q => (nomatch q), List.Pairwise.nil⟩ (by rw [sz]; exact Nat.le_refl _)
  rw [sz] at ok
  show wpAny M A _ Q E { s with heap := pushCells (s.heap.push { cls := .type "frame", data := .dict #[] }) scope.names }
  rw [show ({ s with heap := s.heap.push { cls := .type "frame", data := .dict #[] } } : Shared).heap.objs.size = s.heap.objs.size + 1 from sz, cellsFrom_over]
  exact wpAny_bind (bind_cc (s₀ := s) (env := newEnv scope s.heap.objs.size globals (cellsFrom (s.heap.objs.size + 1) scope.names [] ++ cl) qual func code none blt) _ (fun _ _ _ => rfl) hk rfl bs (fun _ => none) (fun _ => none) _ _
    ⟨⟨⟨_, _, rfl⟩, (Heap.Ns.new s.heap (.type "frame")).keeps (pushCells_keeps _ _), fun b o e => pushCells_keeps _ _ b o (Heap.get?_push_of_some _ e), Nat.le_refl _⟩, fun n c hc => (ok.empty n c (PySem.mem_of_lookup hc)).1, ok.apart, fun n c q => (ok.empty n c q).2⟩
    kinds fun s' x => wpAny_pure (h _ rfl s' x))
end
end RgK
set_option Elab.async false
set_option linter.all false
set_option maxRecDepth 100000
set_option maxHeartbeats 4000000
/-! Closures: a made function, its frame, what it promises. -/
namespace RgK
open PySem PySem.Spec PyProof.Rows L2 Evl LamX
structure CF where
  name : Str
  qual : Str
  params : Arguments
  body : FuncBody
  scope : Scope
  cl : List (Str × Addr)
  c : Addr
abbrev CF.fd (F : CF) (doc pm ctv : Value) : FuncData :=
  { name := F.name, qualname := F.qual, params := F.params, body := F.body, scope := F.scope, globals := mainGlobals, closure := F.cl, defaults := .none, kwdefaults := .none, doc := doc, pyModule := pm, annotations := none, code := .ref F.c, closureTuple := ctv, builtins := builtinsNs }
abbrev CF.cells (F : CF) : List Addr := F.cl.map (·.2)
def FnC (f : Addr) (F : CF) : HO := .ext fun h => ∃ (od : Option Addr) (sl : Array (Option Value)) (doc pm ctv : Value), h.get? f = some (⟨.type "function", od, .func (F.fd doc pm ctv), sl⟩ : Obj)
theorem fnC_at {P : Program} {w : World} {H : Hp} {h : Heap} {f : Addr} {F : CF} (hok : HOk P w H h) (e : H f = some (FnC f F)) : ∃ (od : Option Addr) (sl : Array (Option Value)) (doc pm ctv : Value), h.get? f = some (⟨.type "function", od, .func (F.fd doc pm ctv), sl⟩ : Obj) := (hok f _ e).1
theorem code_at {P : Program} {w : World} {H : Hp} {h : Heap} {c : Addr} {q : Str} (hok : HOk P w H h) (e : H c = some (CodeO c q)) : h.CodeRec (.ref c) q := by
  obtain ⟨oc, vs, t, h1, h2, h3⟩ := (hok c _ e).1
  exact ⟨c, oc, vs, t, rfl, h1, h2, h3⟩
/-- its names: the parameters, the captured ones, its locals -/
structure CScope (N ps fr : List Str) (sc : Scope) : Prop where
  kind : sc.kind = .function
  co : sc.isCoroutine = false
  gen : sc.isGenerator = false
  nd : N.Nodup
  pre : N.take (ps.length + fr.length) = ps ++ fr
  par : ∀ x ∈ ps, sc.names.lookup x = some .local ∨ sc.names.lookup x = some .cell
  free : ∀ y ∈ sc.names, y.2 = .free → y.1 ∈ fr
  frk : ∀ x ∈ fr, sc.names.lookup x = some .free
  dis : ∀ x ∈ fr, (x, NameKind.cell) ∉ sc.names
def cscB (N ps fr : List Str) (sc : Scope) : Bool :=
  decide (sc.kind = .function) && (!sc.isCoroutine && (!sc.isGenerator && (decide N.Nodup && (decide (N.take (ps.length + fr.length) = ps ++ fr) && (ps.all (fun x => decide (sc.names.lookup x = some .local) || decide (sc.names.lookup x = some .cell)) && (sc.names.all (fun y => !decide (y.2 = .free) || decide (y.1 ∈ fr)) && (fr.all (fun x => decide (sc.names.lookup x = some .free)) && fr.all fun x => !decide ((x, NameKind.cell) ∈ sc.names))))))))
theorem csc_by {N ps fr : List Str} {sc : Scope} (h : cscB N ps fr sc = true) : CScope N ps fr sc := by
  unfold cscB at h
  simp only [Bool.and_eq_true, Bool.not_eq_true', decide_eq_true_eq, List.all_eq_true, Bool.or_eq_true, decide_eq_false_iff_not] at h
  obtain ⟨h1, h2, h3, h4, h5, h6, h7, h8, h9⟩ := h
  exact ⟨h1, h2, h3, h4, h5, h6, fun y hy e => (h7 y hy).elim (fun z => absurd e z) id, h8, h9⟩
theorem own_none {x : Str} : ∀ {names : List (Str × NameKind)} {n : Nat} {acc : List (Str × Addr)}, (x, NameKind.cell) ∉ names → acc.lookup x = none → (cellsFrom n names acc).lookup x = none
  | [], _, _, _, h => h
  | (y, k) :: names, n, acc, h, ha => by
    have h2 : (x, NameKind.cell) ∉ names := fun z => h (List.mem_cons_of_mem _ z)
    unfold cellsFrom
    split
    · rename_i hk
      refine own_none h2 ?_
      have hk : k = .cell := by cases k <;> first | rfl | cases hk
      have : (x == y) = false := by
        rw [beq_eq_false_iff_ne]
        intro e
        exact h (by rw [e, hk]; exact List.mem_cons_self)
      rw [List.lookup_cons, this]
      exact ha
    · exact own_none h2 ha
abbrev envC (F : CF) (f L : Addr) : Env := PySem.W.envX F.qual F.scope L f (.ref F.c) (cellsFrom (L + 1) F.scope.names [] ++ F.cl)
abbrev PGm : Program := PG
def ccx (w : World) (K : PySem.W.Frag) (mg : Mg) (base : Heap) (N : List Str) (F : CF) (f : Addr) (A : Around) (outer : List Env) (s : Shared) (H : Hp) (E : XK) : Cx where
  prog := PG
  w := w
  K := K
  mg := mg
  base := base
  A := A.deeper (envC F f s.heap.objs.size)
  N := N
  s_0 := s
  H_0 := H
  env := envC F f s.heap.objs.size
  outer := outer
  stack := envC F f s.heap.objs.size :: outer
  ex := []
  calm := true
  fn := fun y => decide (F.scope.names.lookup y = some .cell)
  pn := []
  xe := fun e s' => wpAny (model PG w) (A.deeper (envC F f s.heap.objs.size)) (leaving (envC F f s.heap.objs.size) e) (fun _ s'' => L2.CX PG w outer H s E e s'') (fun e' s'' => L2.CX PG w outer H s E e' s'') s'
abbrev startC (N : List Str) (vs ws : List V) : L2.St := NdefX.startF N vs (ws.map some)
theorem snd_inj {cl : List (Str × Addr)} (nd : (cl.map (·.2)).Nodup) {x y : Str} {c : Addr} (h1 : (x, c) ∈ cl) (h2 : (y, c) ∈ cl) : x = y := by
  induction cl with
  | nil => cases h1
  | cons p cl ih =>
    rw [List.map_cons, List.nodup_cons] at nd
    rcases List.mem_cons.mp h1 with e1 | h1
    · rcases List.mem_cons.mp h2 with e2 | h2
      · rw [← e1] at e2; exact (Prod.mk.inj e2).1.symm
      · exact absurd (List.mem_map.mpr ⟨(y, c), h2, by rw [← e1]⟩) nd.1
    · rcases List.mem_cons.mp h2 with e2 | h2
      · exact absurd (List.mem_map.mpr ⟨(x, c), h1, by rw [← e2]⟩) nd.1
      · exact ih nd.2 h1 h2
theorem app_look {own cl : List (Str × Addr)} {x : Str} {c : Addr} (h : (own ++ cl).lookup x = some c) : own.lookup x = some c ∨ cl.lookup x = some c := by
  rw [List.lookup_append] at h
  cases e : own.lookup x with
  | some d => rw [e] at h; exact .inl h
  | none => rw [e] at h; exact .inr h
section
variable {w : World} {K : PySem.W.Frag} {mg : Mg} {base : Heap} {N ps fr : List Str} {F : CF} {f : Addr} {A : Around} {outer : List Env} {s s1 : Shared} {H : Hp} {E : XK} {us : List Value} {vs ws : List V}
theorem inv_cc (S : CScope N ps fr F.scope) (hfr : F.cl.map (·.1) = fr) (hd : A.handled = none) (e0 : Env0 PG w K mg base A outer s H) (nC : ∀ p ∈ F.cl, H p.2 = none) (hl : vs.length = ps.length) (r : Vals vs us)
    (C : Paired (fun (p : Str × Addr) v => ∃ u, L2.RelV v u ∧ s.heap.IsCell p.2 (some u)) F.cl ws) (nd2 : (F.cl.map (·.2)).Nodup)
    (x : InCallC s s.heap.objs.size (bindL (envC F f s.heap.objs.size).kindOf (ps.zip us) fun _ => none) (cellsFrom (s.heap.objs.size + 1) F.scope.names []) (bindC (envC F f s.heap.objs.size).kindOf (ps.zip us) fun _ => none) s1) :
    Inv (ccx w K mg base N F f A outer s H E) [] (startC N vs ws) H s1 := by
  obtain ⟨h1, tk, e1, kp⟩ := x.done
  have noA : ∀ b : Addr, b ∉ (ccx w K mg base N F f A outer s H E).ex := fun b z => absurd (show b ∈ ([] : List Addr) from z) (by simp)
  have lowC : ∀ {p : Str × Addr}, p ∈ F.cl → ∃ i v u, F.cl[i]? = some p ∧ ws[i]? = some v ∧ L2.RelV v u ∧ s.heap.IsCell p.2 (some u) := fun {p} hp => by
    obtain ⟨i, hi⟩ := List.mem_iff_getElem?.mp hp
    obtain ⟨v, hv, u, r, z⟩ := paired_get C hi
    exact ⟨i, v, u, hi, hv, r, z⟩
  have lowA : ∀ {y : Str} {c : Addr}, F.cl.lookup y = some c → c < s.heap.objs.size := fun {y c} h => by
    obtain ⟨i, v, u, _, _, _, o, ho, _⟩ := lowC (PySem.mem_of_lookup h)
    exact Heap.lt_size ho
  have upA : ∀ {y : Str} {c : Addr}, (cellsFrom (s.heap.objs.size + 1) F.scope.names []).lookup y = some c → s.heap.objs.size < c := fun {y c} h => x.above y c (PySem.mem_of_lookup h)
  have kpc : ∀ {c : Addr} {v : Option Value}, s.heap.IsCell c v → s1.heap.IsCell c v := fun {c v} ⟨o, ho, hd⟩ => ⟨o, by rw [e1]; exact kp _ _ ho, hd⟩
  have wl : ws.length = fr.length := by rw [← hfr, List.length_map]; exact (paired_len C).symm
  have pl : ps.length + fr.length ≤ N.length := by
    have q := congrArg List.length S.pre
    rw [List.length_take, List.length_append] at q
    omega
  refine ⟨⟨e0.mod, S.kind, rfl, rfl, Nat.le_refl _, fun y z c h1 h2 => ?_, fun y hy => ?_, fun y c hf h => ?_, fun _ => hd, Around.frames_deeper e0.frames, .inr ⟨rfl, rfl⟩, fun b z => absurd z (noA b), e0.bs, e0.bsz, fun b _ _ => noA b, fun b z => absurd z (noA b), e0.funs, e0.frf⟩,
    by rw [e1]; rfl, by rw [e1]; exact e0.bare, by rw [e1]; exact Un.kept kp, ⟨_, x.toInCall.ns, fun i y v h1 h2 h3 => ?_⟩, fun y c h => ?_, e0.hok.fresh (Nat.le_refl _), fun y c h => ?_, fun p hp => absurd (show p ∈ ([] : List (Addr × Obj)) ++ [] from hp) (by simp), by rw [e1]; exact e0.hok.kept kp, ?_⟩
  · rcases app_look h1 with a | a <;> rcases app_look h2 with b | b
    · exact name_of_addr x.apart (PySem.mem_of_lookup a) (PySem.mem_of_lookup b)
    · exact absurd (Nat.lt_trans (upA a) (lowA b)) (Nat.lt_irrefl _)
    · exact absurd (Nat.lt_trans (upA b) (lowA a)) (Nat.lt_irrefl _)
    · exact snd_inj nd2 (PySem.mem_of_lookup a) (PySem.mem_of_lookup b)
  · have hy : F.scope.names.lookup y = some .cell ∨ F.scope.names.lookup y = some .free := hy
    show ∃ c, (cellsFrom (s.heap.objs.size + 1) F.scope.names [] ++ F.cl).lookup y = some c
    rw [List.lookup_append]
    rcases hy with hy | hy
    · obtain ⟨c, e⟩ := cell_has (n := s.heap.objs.size + 1) hy
      exact ⟨c, by rw [e]; rfl⟩
    · have hm := S.free _ (PySem.mem_of_lookup hy) rfl
      rw [← hfr] at hm
      obtain ⟨⟨n, d⟩, hp, ep⟩ := List.mem_map.mp hm
      have ep : n = y := ep
      subst ep
      have : ∃ c, F.cl.lookup n = some c := mem_lookup hp
      obtain ⟨c, hc⟩ := this
      cases e : (cellsFrom (s.heap.objs.size + 1) F.scope.names []).lookup n with
      | some d => exact ⟨d, rfl⟩
      | none => exact ⟨c, hc⟩
  · have hf : F.scope.names.lookup y = some .cell := of_decide_eq_true hf
    obtain ⟨d, e⟩ := cell_has (n := s.heap.objs.size + 1) hf
    have h : (cellsFrom (s.heap.objs.size + 1) F.scope.names [] ++ F.cl).lookup y = some c := h
    rw [look_app e] at h
    cases h
    exact Nat.le_of_lt (upA e)
  · have h1 : N[i]? = some y := h1
    have h2 : (startC N vs ws)[i]? = some (some v) := h2
    unfold startC NdefX.startF at h2
    have hw : (ws.map some).length = fr.length := by rw [List.length_map, wl]
    have hv : (vs.map some).length = ps.length := by rw [List.length_map, hl]
    by_cases a : i < ps.length
    · have hq : (ps ++ fr)[i]? = some y := by rw [← S.pre, List.getElem?_take_of_lt (by omega)]; exact h1
      rw [List.getElem?_append_left a] at hq
      rw [List.getElem?_append_left (by omega), List.getElem?_map] at h2
      have ha : vs[i]? = some v := by
        cases e : vs[i]? with
        | none => rw [e] at h2; cases h2
        | some b => rw [e] at h2; cases h2; rfl
      obtain ⟨u, hu, rv⟩ := r.get ha
      have ndP : ps.Nodup := by
        have q := S.nd.sublist (List.take_sublist (ps.length + fr.length) N)
        rw [S.pre] at q
        exact (List.nodup_append.mp q).1
      refine ⟨u, rv, ?_⟩
      rcases S.par y (List.mem_of_getElem? hq) with k | k
      · exact .inl ⟨k, bindL_get ndP hq hu k⟩
      · obtain ⟨c, e⟩ := cell_has (n := s.heap.objs.size + 1) k
        refine .inr ⟨.inl k, c, look_app e, ?_⟩
        have q := x.cell y c e
        rw [bindC_get ndP hq hu (by show F.scope.names.lookup y ≠ _; rw [k]; decide)] at q
        exact q
    · rw [List.getElem?_append_right (by omega), hv] at h2
      by_cases b : i < ps.length + fr.length
      · have hq : (ps ++ fr)[i]? = some y := by rw [← S.pre, List.getElem?_take_of_lt b]; exact h1
        rw [List.getElem?_append_right (by omega)] at hq
        rw [List.getElem?_append_left (by omega), List.getElem?_map] at h2
        rw [← hfr, List.getElem?_map] at hq
        obtain ⟨p, hp, ep⟩ := Option.map_eq_some_iff.mp hq
        obtain ⟨v', hv', u, ru, hu⟩ := paired_get C hp
        rw [hv'] at h2
        have e2 : v' = v := Option.some.inj (Option.some.inj h2)
        subst e2
        have hyf : y ∈ fr := by rw [← hfr, ← ep]; exact List.mem_map.mpr ⟨p, List.mem_of_getElem? hp, rfl⟩
        have hno := own_none (n := s.heap.objs.size + 1) (acc := []) (S.dis y hyf) rfl
        have hmem : (y, p.2) ∈ F.cl := by rw [← ep]; exact List.mem_of_getElem? hp
        obtain ⟨c, hc⟩ := mem_lookup hmem
        have hcp : c = p.2 := by
          have m2 := PySem.mem_of_lookup hc
          obtain ⟨j, hj⟩ := List.mem_iff_getElem?.mp m2
          have hN : ((F.cl.map (·.1)))[j]? = some y := by rw [List.getElem?_map, hj]; rfl
          have hN2 : ((F.cl.map (·.1)))[i - ps.length]? = some y := by rw [List.getElem?_map, hp]; exact congrArg some ep
          have ndF : (F.cl.map (·.1)).Nodup := by
            have q := S.nd.sublist (List.take_sublist (ps.length + fr.length) N)
            rw [S.pre] at q
            rw [hfr]
            exact (List.nodup_append.mp q).2.1
          have hj1 := (List.getElem?_eq_some_iff.mp hN)
          have hj2 := (List.getElem?_eq_some_iff.mp hN2)
          obtain ⟨l1, g1⟩ := hj1
          obtain ⟨l2, g2⟩ := hj2
          have : j = i - ps.length := (List.getElem_inj ndF).mp (g1.trans g2.symm)
          rw [this, hp] at hj
          cases hj
          rfl
        refine ⟨u, ru, .inr ⟨.inr (S.frk y hyf), p.2, ?_, kpc hu⟩⟩
        show (cellsFrom (s.heap.objs.size + 1) F.scope.names [] ++ F.cl).lookup y = some p.2
        rw [List.lookup_append, hno, hc, hcp]
        rfl
      · rw [List.getElem?_append_right (by omega), List.getElem?_replicate] at h2
        split at h2 <;> cases h2
  · rcases app_look h with a | a
    · exact ⟨_, x.cell y c a⟩
    · obtain ⟨i, v, u, _, _, _, z⟩ := lowC (PySem.mem_of_lookup a)
      exact ⟨_, kpc z⟩
  · rcases app_look h with a | a
    · exact e0.hok.fresh (Nat.le_of_lt (upA a))
    · exact nC _ (PySem.mem_of_lookup a)
  · show (startC N vs ws).length = N.length
    unfold startC NdefX.startF
    rw [List.length_append, List.length_append, List.length_map, List.length_replicate, List.length_map]
    omega
end
/-- a closure's promise: ws, what its captured cells hold -/
structure ClOk (w : World) (K : PySem.W.Frag) (mg : Mg) (base : Heap) (k : Nat) (F : CF) (ps : List Str) (sp : List V → Sp) : Prop where
  len : ∀ ws vs H Q E, sp ws vs H Q E → vs.length = ps.length
  run : ∀ (f : Addr) (A : Around) (outer : List Env) (s : Shared) (H : Hp) (us : List Value) (vs ws : List V) (Q : VK) (E : XK), Room k A → Env0 PG w K mg base A outer s H → H f = some (FnC f F) → H F.c = some (CodeO F.c F.qual) →
    Paired (fun (p : Str × Addr) v => H p.2 = some (CellO p.2 v)) F.cl ws → Vals vs us → sp ws vs (hid F.cells H) (fun v H2 => (∀ a ∈ F.cells, H2 a = none) → Q v (unh F.cells H H2)) (fun cls d H2 => (∀ a ∈ F.cells, H2 a = none) → E cls d (unh F.cells H H2)) →
      codeAny (model PG w) A (.call (.ref f) ⟨us, []⟩) (CR (L2.CX PG w) outer PG w H s Q E) s
theorem ClOk.mono {w : World} {K : PySem.W.Frag} {mg : Mg} {base : Heap} {j k : Nat} {F : CF} {ps : List Str} {sp : List V → Sp} (h : ClOk w K mg base j F ps sp) (l : j ≤ k) : ClOk w K mg base k F ps sp := ⟨h.len, fun f A outer s H us vs ws Q E hr => h.run f A outer s H us vs ws Q E (hr.mono l)⟩
section
variable {w : World} {K : PySem.W.Frag} {mg : Mg} {base : Heap} {N ps fr : List Str} {F : CF} {k : Nat} {sp : List V → Sp}
theorem caps_cells {F : CF} {H : Hp} {ws : List V} (C : Paired (fun (p : Str × Addr) v => H p.2 = some (CellO p.2 v)) F.cl ws) : Cells F.cells H := fun a ha => by
  obtain ⟨p, hp, ep⟩ := List.mem_map.mp ha
  obtain ⟨i, hi⟩ := List.mem_iff_getElem?.mp hp
  obtain ⟨v, _, q⟩ := paired_get C hi
  exact ⟨v, by rw [← ep]; exact q⟩
/-- a made function by its body -/
theorem clo_go (S : CScope N ps fr F.scope) (hfr : F.cl.map (·.1) = fr) (nd2 : F.cells.Nodup) (len : ∀ ws vs H Q E, sp ws vs H Q E → vs.length = ps.length) (hb : ∀ (doc pm ctv : Value) (us : List Value), us.length = ps.length → bindArgs (F.fd doc pm ctv) ⟨us, []⟩ = pure (ps.zip us))
    (go : ∀ (f : Addr) (A : Around) (outer : List Env) (s s1 : Shared) (H : Hp) (vs ws : List V) (Q : VK) (E : XK), Room k (A.deeper (envC F f s.heap.objs.size)) → sp ws vs H Q E → Inv (ccx w K mg base N F f A outer s H E) [] (startC N vs ws) H s1 →
      match F.body with
      | .stmts b => codeAny (model PG w) A (.func b (envC F f s.heap.objs.size)) (CR (L2.CX PG w) outer PG w H s Q E) s1
      | .expr e => codeAny (model PG w) A (.expr e (envC F f s.heap.objs.size)) (CR (L2.CX PG w) outer PG w H s Q E) s1) :
    ClOk w K mg base (k + 1) F ps sp := by
  refine ⟨len, fun f A outer s H us vs ws Q E hr e0 hf hc C r h => ?_⟩
  have cc := caps_cells C
  have e1 := env0_hid e0 cc
  have hl := len _ _ _ _ _ h
  have nf : ∀ b ∈ frs outer, H b = none := e0.frf
  have lim : s.heap.NoLimit := e0.mod.nolimit.keeps fun b o e => (e0.bs b o e).1
  have C2 : Paired (fun (p : Str × Addr) v => ∃ u, L2.RelV v u ∧ s.heap.IsCell p.2 (some u)) F.cl ws := L2.Paired.mapP C fun p v q => cell_at e0.hok q
  obtain ⟨od, sl, doc, pm, ctv, ho⟩ := fnC_at e0.hok hf
  have kinds : ∀ y ∈ ps.zip us, F.scope.names.lookup y.1 = some .local ∨ (F.scope.names.lookup y.1 = some .cell ∧ ((cellsFrom (s.heap.objs.size + 1) F.scope.names []).lookup y.1).isSome = true) := fun ⟨n, v⟩ hy => by
    rcases S.par n (List.of_mem_zip hy).1 with q | q
    · exact .inl q
    · exact .inr ⟨q, PySem.W.cellsFrom_some _ _ _ (.inl q)⟩
  have key : ∀ s1, InCallC s s.heap.objs.size (bindL (envC F f s.heap.objs.size).kindOf (ps.zip us) fun _ => none) (cellsFrom (s.heap.objs.size + 1) F.scope.names []) (bindC (envC F f s.heap.objs.size).kindOf (ps.zip us) fun _ => none) s1 → Inv (ccx w K mg base N F f A outer s (hid F.cells H) (fun cls d H2 => (∀ a ∈ F.cells, H2 a = none) → E cls d (unh F.cells H H2))) [] (startC N vs ws) (hid F.cells H) s1 := fun s1 x =>
    inv_cc S hfr hr.hd e1 (fun p hp => hid_in (List.mem_map.mpr ⟨p, hp, rfl⟩)) hl r C2 nd2 x
  have back : ∀ r s', CR (L2.CX PG w) outer PG w (hid F.cells H) s (fun v H2 => (∀ a ∈ F.cells, H2 a = none) → Q v (unh F.cells H H2)) (fun cls d H2 => (∀ a ∈ F.cells, H2 a = none) → E cls d (unh F.cells H H2)) r s' → CR (L2.CX PG w) outer PG w H s Q E r s' := fun r s' q => by
    cases r with
    | error e => exact cx_unh e0.hok cc nf q fun cls d H2 n k => k n
    | ok fl =>
      cases fl with
      | ret u => exact ce_unh e0.hok cc nf q fun v H2 n k => k n
      | next => exact False.elim q
      | brk => exact False.elim q
      | cont => exact False.elim q
  have go' := fun s1 x => go f A outer s s1 (hid F.cells H) vs ws _ _ (hr.deeper _) h (key s1 x)
  have bd := hb doc pm ctv us (by rw [← r.length]; exact hl)
  cases hbd : F.body with
  | stmts b =>
    refine codeAny_call_function (body := b) hr.depth ho rfl S.co S.gen hbd (code_at e0.hok hc) ?_
    rw [bd]
    refine wpAny_pure (new_cc S.kind kinds fun env he s1 x => ?_)
    subst he
    refine ⟨lim.keeps x.toInCall.keep, codeAny_mono ?_ back⟩
    have g := go' s1 x
    rw [hbd] at g
    exact g
  | expr e =>
    refine PySem.W.kla_callFunE (body := e) hr.depth ho rfl S.co S.gen hbd (code_at e0.hok hc) ?_
    rw [bd]
    refine wpAny_pure (new_cc S.kind kinds fun env he s1 x => ?_)
    subst he
    refine ⟨lim.keeps x.toInCall.keep, codeAny_mono ?_ back⟩
    have g := go' s1 x
    rw [hbd] at g
    exact g
theorem clo_st {b : List Stmt} (hbd : F.body = .stmts b) (S : CScope N ps fr F.scope) (hfr : F.cl.map (·.1) = fr) (nd2 : F.cells.Nodup) (len : ∀ ws vs H Q E, sp ws vs H Q E → vs.length = ps.length) (hb : ∀ (doc pm ctv : Value) (us : List Value), us.length = ps.length → bindArgs (F.fd doc pm ctv) ⟨us, []⟩ = pure (ps.zip us))
    (hbody : ∀ (f : Addr) (A : Around) (outer : List Env) (s : Shared) (H : Hp) (vs ws : List V) (Q : VK) (E : XK), Room k (A.deeper (envC F f s.heap.objs.size)) → sp ws vs H Q E →
      ∃ t, PSs (ccx w K mg base N F f A outer s H E) b t ∧ t { nx := fun _ H' => Q .non H', rt := Q } (startC N vs ws) H) : ClOk w K mg base (k + 1) F ps sp := by
  refine clo_go S hfr nd2 len hb fun f A outer s s1 H vs ws Q E hr h I => ?_
  rw [hbd]
  obtain ⟨t, ht, hq⟩ := hbody f A outer s H vs ws Q E hr h
  refine codeAny_func (wpAny_mono (ht.run [] s1 (startC N vs ws) H _ I hq) (fun fl s' hs => ?_) fun e s' hs => hs)
  have fin : ∀ {σ' : L2.St} {H' : Hp} {v : V} {u : Value}, Inv (ccx w K mg base N F f A outer s H E) [] σ' H' s' → L2.RelV v u → Q v H' → CE outer PG w H s Q u s' := fun {σ' H' v u} J rv q => ⟨v, H', J.os, J.bare, J.base, J.hok, rv, q⟩
  cases fl with
  | ret u =>
    obtain ⟨v, σ', H', J, rv, q⟩ := hs
    exact fin J rv q
  | next =>
    obtain ⟨σ', H', J, q⟩ := hs
    exact fin (v := V.non) (u := Value.none) J rfl q
  | brk =>
    obtain ⟨_, _, _, q⟩ := hs
    exact False.elim q
  | cont =>
    obtain ⟨_, _, _, q⟩ := hs
    exact False.elim q
theorem clo_ex {e : Expr} (hbd : F.body = .expr e) (S : CScope N ps fr F.scope) (hfr : F.cl.map (·.1) = fr) (nd2 : F.cells.Nodup) (len : ∀ ws vs H Q E, sp ws vs H Q E → vs.length = ps.length) (hb : ∀ (doc pm ctv : Value) (us : List Value), us.length = ps.length → bindArgs (F.fd doc pm ctv) ⟨us, []⟩ = pure (ps.zip us))
    (hbody : ∀ (f : Addr) (A : Around) (outer : List Env) (s : Shared) (H : Hp) (vs ws : List V) (Q : VK) (E : XK), Room k (A.deeper (envC F f s.heap.objs.size)) → sp ws vs H Q E →
      ∃ t, PE (ccx w K mg base N F f A outer s H E) e t ∧ t (startC N vs ws) H Q) : ClOk w K mg base (k + 1) F ps sp := by
  refine clo_go S hfr nd2 len hb fun f A outer s s1 H vs ws Q E hr h I => ?_
  rw [hbd]
  obtain ⟨t, ht, hq⟩ := hbody f A outer s H vs ws Q E hr h
  refine PySem.W.kla_codeExpr (wpAny_mono (ht.run [] s1 (startC N vs ws) H Q I hq) (fun v s' hs => ?_) fun e s' hs => hs)
  obtain ⟨x, H', J, rv, q⟩ := hs
  exact ⟨x, H', J.os, J.bare, J.base, J.hok, rv, q⟩
end
end RgK
set_option Elab.async false
set_option linter.all false
set_option maxRecDepth 100000
set_option maxHeartbeats 4000000
/-! Closures: how they are made; a def that makes one. -/
namespace RgK
open PySem PySem.Spec PyProof.Rows L2 Evl LamX
/-! ### a function object is laid -/
section
variable {X : Cx} {pins : List (Addr × Obj)} {σ : L2.St} {H : Hp} {s : Shared}
theorem inv_fnC {F : CF} {o : Obj} {t' : Nat} {doc pm ctv : Value} (I : Inv X pins σ H s) (ho : o = { cls := .type "function", data := .func (F.fd doc pm ctv) }) : Inv X pins σ (upd H s.heap.objs.size (FnC s.heap.objs.size F)) { s with heap := s.heap.push o, toks := t' } := by
  have at_ : (s.heap.push o).get? s.heap.objs.size = some o := Heap.get?_push_size _ (by rw [ho]; rfl)
  have isF : (s.heap.push o).get? s.heap.objs.size = some (⟨.type "function", none, .func (F.fd doc pm ctv), #[]⟩ : Obj) := by rw [at_, ho]
  refine I.laid (a := s.heap.objs.size) (fun _ _ q => Heap.get?_push_of_some _ q) (Nat.le_refl _) ?_
  exact ⟨⟨_, _, doc, pm, ctv, isF⟩, ⟨o, at_⟩, fun g1 g2 ⟨d1, d2, d3, d4, d5, z⟩ st => ⟨d1, d2, d3, d4, d5, st _ z⟩⟩
/-- .. where the code object is new -/
theorem lay_new {mk : Addr → CF} {q : Str} {P c' : Addr} {ps : Array Value} {pos : Pos} {h' : Heap} {tk : Nat} {o : Obj} {doc pm ctv : Value} (I : Inv X pins σ H s) (hq : ∀ c, (mk c).qual = q ∧ (mk c).c = c) (hP : H P = some (.tbl ps)) (ht : TriplesOk ps.toList)
    (ha : ∀ (pos : Pos) (cv : Value), codeAmong pos ps.toList = some cv → ∃ c, cv = .ref c ∧ H c = some (CodeO c q)) (kp : Heap.ExtBut P s.heap h') (ge : s.heap.objs.size ≤ c') (lt : c' < h'.objs.size) (rec : h'.CodeRec (.ref c') q) (tb : h'.get? P = some { cls := .none, data := .fields (ps ++ #[rawInt pos.line, rawInt pos.col, .ref c']) })
    (ho : o = { cls := .type "function", data := .func ((mk c').fd doc pm ctv) }) :
    ∃ H1, Inv X pins σ H1 { s with heap := h'.push o, toks := tk } ∧ Mo [P] H H1 ∧ TabS H1 P q ∧ H h'.objs.size = none ∧ H1 h'.objs.size = some (FnC h'.objs.size (mk c')) ∧ H1 c' = some (CodeO c' q) := by
  obtain ⟨c2, oc, vs, t, ec, hoc, hd, hv⟩ := rec
  cases ec
  have I1 := inv_table (t' := tk) (more := #[rawInt pos.line, rawInt pos.col, .ref c']) (h' := h') I hP (fun b u n e => kp b u n e) tb ge ⟨oc, vs, t, hoc, hd, hv⟩
  have nc : H c' = none := I.hok.fresh ge
  have szle : s.heap.objs.size ≤ h'.objs.size := Nat.le_trans ge (Nat.le_of_lt lt)
  have nf : H h'.objs.size = none := I.hok.fresh szle
  have nPc : P ≠ c' := ne_of_none hP nc
  have nPf : P ≠ h'.objs.size := ne_of_none hP nf
  have ncf : c' ≠ h'.objs.size := Nat.ne_of_lt lt
  have I2 := inv_fnC (F := mk c') (t' := tk) I1 ho
  refine ⟨_, I2, fun b u e n => ?_, ⟨ps ++ #[rawInt pos.line, rawInt pos.col, .ref c'], ?_, ?_, fun p' cv e => ?_⟩, nf, upd_same, ?_⟩
  · have nP : b ≠ P := fun z => n (by rw [z]; exact List.mem_cons_self)
    rw [upd_ne (ne_of_none e nf), upd_ne (ne_of_none e nc), upd_ne nP]
    exact e
  · rw [upd_ne nPf, upd_ne nPc, upd_same]
  · rw [show (ps ++ #[rawInt pos.line, rawInt pos.col, .ref c']).toList = ps.toList ++ [rawInt pos.line, rawInt pos.col, .ref c'] by simp]
    exact PySem.TriplesOk_snoc _ _ _ _ ht
  · rw [show (ps ++ #[rawInt pos.line, rawInt pos.col, .ref c']).toList = ps.toList ++ [rawInt pos.line, rawInt pos.col, .ref c'] by simp] at e
    rcases among_app _ ht e with z | z
    · obtain ⟨c0, z1, z2⟩ := ha p' cv z
      refine ⟨c0, z1, ?_⟩
      have n1 : c0 ≠ P := fun y => by
        rw [y, hP] at z2
        cases z2
      rw [upd_ne (ne_of_none z2 nf), upd_ne (ne_of_none z2 nc), upd_ne n1]
      exact z2
    · exact ⟨c', z, by rw [upd_ne ncf, upd_same]⟩
  · rw [upd_ne ncf, upd_same]
/-- .. where it stands in the table -/
theorem lay_hit {mk : Addr → CF} {q : Str} {P c' : Addr} {h' : Heap} {tk : Nat} {o : Obj} {doc pm ctv : Value} (I : Inv X pins σ H s) (hT : TabS H P q) (hc : H c' = some (CodeO c' q)) (kp : ∀ b u, s.heap.get? b = some u → h'.get? b = some u) (ho : o = { cls := .type "function", data := .func ((mk c').fd doc pm ctv) }) :
    ∃ H1, Inv X pins σ H1 { s with heap := h'.push o, toks := tk } ∧ Mo [P] H H1 ∧ TabS H1 P q ∧ H h'.objs.size = none ∧ H1 h'.objs.size = some (FnC h'.objs.size (mk c')) ∧ H1 c' = some (CodeO c' q) := by
  have I1 : Inv X pins σ H { s with heap := h', toks := tk } := I.kept kp
  have nf : H h'.objs.size = none := I1.hok.fresh (Nat.le_refl _)
  have I2 := inv_fnC (F := mk c') (t' := tk) I1 ho
  have ex : Ex H (upd H h'.objs.size (FnC h'.objs.size (mk c'))) := Ex.new nf
  exact ⟨_, I2, .of ex, hT.ext ex, nf, upd_same, ex _ _ hc⟩
end
/-- the reading of an expression that makes a function: the table at P may grow -/
def tMade (P : Addr) (q : Str) (mk : Addr → CF) : TE := fun _ H Q => TabS H P q ∧ ∀ (f c' : Addr) (H1 : Hp), Mo [P] H H1 → TabS H1 P q → H f = none → H1 f = some (FnC f (mk c')) → H1 c' = some (CodeO c' q) → Q (.ref f) H1
section
variable {X : Cx}
theorem pe_lam {c P : Addr} {q : Str} {params : Arguments} {body : Expr} {scope : Scope} {pos : Pos} (TB : TabB X.base X.mg c P) (hcode : X.env.code = .ref c) (hq : X.env.qual ++ "<lambda>" = q) (hdef : defaultsOf params X.env = ([], []))
    (hfree : ∀ y ∈ scope.names, y.2 = .free → X.env.scope.names.lookup y.1 = some .cell ∨ X.env.scope.names.lookup y.1 = some .free) :
    PE X (.Lambda params body scope pos) (tMade P q fun c' => ⟨"<lambda>", q, params, .expr body, scope, cloFrom X.env.cells scope.names [], c'⟩) := by
  subst hq
  refine ⟨fun pins s σ H Q I ⟨hT, go⟩ => PySem.W.kla_eval hdef ?_⟩
  obtain ⟨ps, hP, ht, ha⟩ := id hT
  have bP := TB.bm.keeps I.bk
  have atP : s.heap.get? P = some { cls := .none, data := .fields ps } := I.hok P _ hP
  have clo := closure_ok (env := X.env) (scope := scope) fun y hy e => (hfree y hy e).elim (fun z => I.ok.has _ (.inl z)) fun z => I.ok.has _ (.inr z)
  have fin : ∀ {f c' : Addr} {s' : Shared}, (∃ H1, Inv X pins σ H1 s' ∧ Mo [P] H H1 ∧ TabS H1 P (X.env.qual ++ "<lambda>") ∧ H f = none ∧ H1 f = some (FnC f ⟨"<lambda>", X.env.qual ++ "<lambda>", params, .expr body, scope, cloFrom X.env.cells scope.names [], c'⟩) ∧ H1 c' = some (CodeO c' (X.env.qual ++ "<lambda>"))) → EP X pins σ Q (.ref f) s' :=
    fun {f c' s'} ⟨H1, J, m, t, n, e1, e2⟩ => ⟨.ref f, H1, J, rfl, go f c' H1 m t n e1 e2⟩
  cases hit : codeAmong pos ps.toList with
  | none =>
    refine PySem.W.kla_makeFunction (mg := X.mg) (c := c) (P := P) (ps := ps) clo I.ok.glob (I.mod.glob.keeps I.bk) hcode (TB.code.keeps I.bk) atP ht hit TB.gP bP fun c' ctv h' tk kp ge lt rec tb => ?_
    exact fin (lay_new (pm := (X.mg "__name__").getD .none) (ctv := ctv) (doc := .none) (mk := fun c' => ⟨"<lambda>", X.env.qual ++ "<lambda>", params, .expr body, scope, cloFrom X.env.cells scope.names [], c'⟩) I (fun _ => ⟨rfl, rfl⟩) hP ht ha kp ge lt rec tb rfl)
  | some cv =>
    obtain ⟨c', e, hco⟩ := ha pos cv hit
    subst e
    refine PySem.W.kla_makeFunctionHit (mg := X.mg) (c := c) (P := P) (ps := ps) clo I.ok.glob (I.mod.glob.keeps I.bk) hcode (TB.code.keeps I.bk) atP ht hit bP fun ctv h' tk kp _ => ?_
    exact fin (lay_hit (pm := (X.mg "__name__").getD .none) (ctv := ctv) (doc := .none) (mk := fun c' => ⟨"<lambda>", X.env.qual ++ "<lambda>", params, .expr body, scope, cloFrom X.env.cells scope.names [], c'⟩) I hT hco kp rfl)
theorem ps_fdef {c P : Addr} {q name : Str} {params : Arguments} {body : List Stmt} {scope : Scope} {pos : Pos} {i : Nat} (TB : TabB X.base X.mg c P) (hcode : X.env.code = .ref c) (hq : X.env.qual ++ name = q) (hd0 : params.defaults = []) (hk0 : params.kw_defaults = []) (hann : annTrees params none X.env = [])
    (hfree : ∀ y ∈ scope.names, y.2 = .free → X.env.scope.names.lookup y.1 = some .cell ∨ X.env.scope.names.lookup y.1 = some .free) (hN : X.N.Nodup) (hi : X.N[i]? = some name) (hx : X.env.scope.names.lookup name = some .local) :
    PS X (.FunctionDef name params body [] none [] scope none name pos) (tAsg (tMade P q fun c' => ⟨name, q, params, .stmts body, scope, cloFrom X.env.cells scope.names [], c'⟩) (gName i)) := by
  subst hq
  refine ⟨fun pins s σ H D I ⟨hT, go⟩ => PySem.W.nestDef_K hd0 hk0 hann ?_⟩
  have eq : qualnameIn X.env name name = X.env.qual ++ name := by
    have hk : X.env.kindOf name = some .local := hx
    unfold qualnameIn
    rw [hk]
    rfl
  rw [eq]
  obtain ⟨ps, hP, ht, ha⟩ := id hT
  have bP := TB.bm.keeps I.bk
  have atP : s.heap.get? P = some { cls := .none, data := .fields ps } := I.hok P _ hP
  have clo := closure_ok (env := X.env) (scope := scope) fun y hy e => (hfree y hy e).elim (fun z => I.ok.has _ (.inl z)) fun z => I.ok.has _ (.inr z)
  have fin : ∀ {f c' : Addr} {s' : Shared}, (∃ H1, Inv X pins σ H1 s' ∧ Mo [P] H H1 ∧ TabS H1 P (X.env.qual ++ name) ∧ H f = none ∧ H1 f = some (FnC f ⟨name, X.env.qual ++ name, params, .stmts body, scope, cloFrom X.env.cells scope.names [], c'⟩) ∧ H1 c' = some (CodeO c' (X.env.qual ++ name))) → wpAny (model X.prog X.w) X.A (storeName X.env name (.ref f)) (fun _ s'' => SP X pins D .next s'') X.xe s' :=
    fun {f c' s'} ⟨H1, J, m, t, n, e1, e2⟩ => store_ok J hN hi (.inl hx) (v := .ref f) rfl (fun s'' J' => ⟨_, H1, J', go f c' H1 m t n e1 e2⟩) (.inr hx)
  cases hit : codeAmong pos ps.toList with
  | none =>
    refine PySem.W.makeFunction_K (mg := X.mg) (c := c) (P := P) (ps := ps) clo I.ok.glob (I.mod.glob.keeps I.bk) hcode (TB.code.keeps I.bk) atP ht hit TB.gP bP fun c' ctv doc h' tk kp ge lt rec tb => ?_
    exact fin (lay_new (pm := (X.mg "__name__").getD .none) (ctv := ctv) (doc := doc) (mk := fun c' => ⟨name, X.env.qual ++ name, params, .stmts body, scope, cloFrom X.env.cells scope.names [], c'⟩) I (fun _ => ⟨rfl, rfl⟩) hP ht ha kp ge lt rec tb rfl)
  | some cv =>
    obtain ⟨c', e, hco⟩ := ha pos cv hit
    subst e
    refine PySem.W.makeFunction_hit (mg := X.mg) (c := c) (P := P) (ps := ps) clo I.ok.glob (I.mod.glob.keeps I.bk) hcode (TB.code.keeps I.bk) atP ht hit bP fun ctv doc h' tk kp _ => ?_
    exact fin (lay_hit (pm := (X.mg "__name__").getD .none) (ctv := ctv) (doc := doc) (mk := fun c' => ⟨name, X.env.qual ++ name, params, .stmts body, scope, cloFrom X.env.cells scope.names [], c'⟩) I hT hco kp rfl)
end
/-! ### a body whose return tells the slots -/
structure EndsR where
  nx : L2.St → Hp → Prop
  rt : V → L2.St → Hp → Prop
abbrev TSR : Type := EndsR → L2.St → Hp → Prop
def SPR (X : Cx) (D : EndsR) (fl : Flow) (s' : Shared) : Prop := match fl with
  | .next => ∃ σ' H', Inv X [] σ' H' s' ∧ D.nx σ' H'
  | .ret u => ∃ v σ' H', Inv X [] σ' H' s' ∧ L2.RelV v u ∧ D.rt v σ' H'
  | _ => False
structure PRs (X : Cx) (b : List Stmt) (t : TSR) : Prop where
  run : ∀ (s : Shared) (σ : L2.St) (H : Hp) (D : EndsR), Inv X [] σ H s → t D σ H → wpAny (model X.prog X.w) X.A (execs b X.env) (SPR X D) X.xe s
abbrev noEnds : Ends := { nx := fun _ _ => False, rt := fun _ _ => False }
def rRet (te : TE) : TSR := fun D σ H => te σ H fun v H' => D.rt v σ H'
def rCons (t : TS) (u : TSR) : TSR := fun D σ H => tSeq t (fun _ => u D) noEnds σ H
def rIf (tc : TT) (t u : TSR) : TSR := fun D σ H => tc σ H fun b H1 => if b = true then t { D with nx := u D } σ H1 else u D σ H1
section
variable {X : Cx} {te : TE} {t : TS} {u ta : TSR} {tc : TT}
theorem pr_ret {e : Expr} {pos : Pos} (he : PE X e te) : PRs X [.Return (some e) pos] (rRet te) :=
  ⟨fun s σ H D I h => wpAny_execs_cons (wpAny_Return_some (thn (he.run [] s σ H _ I h) fun v s1 ⟨x, H1, I1, r1, q1⟩ => ⟨x, σ, H1, I1, r1, q1⟩))⟩
theorem pr_cons {st : Stmt} {rest : List Stmt} (h1 : PS X st t) (h2 : PRs X rest u) : PRs X (st :: rest) (rCons t u) := by
  refine ⟨fun s σ H D I h => wpAny_execs_cons (thn (h1.run [] s σ H _ I h) fun f s1 q => ?_)⟩
  cases f with
  | next =>
    obtain ⟨σ', H', I', q⟩ := q
    exact h2.run s1 σ' H' D I' q
  | ret v =>
    obtain ⟨_, _, _, _, _, q⟩ := q
    exact False.elim q
  | brk =>
    obtain ⟨_, _, _, q⟩ := q
    exact False.elim q
  | cont =>
    obtain ⟨_, _, _, q⟩ := q
    exact False.elim q
theorem pr_if {c : Expr} {a rest : List Stmt} {pos : Pos} (hc : PT X c tc) (ha : PRs X a ta) (hr : PRs X rest u) : PRs X (.If c a [] pos :: rest) (rIf tc ta u) := by
  refine ⟨fun s σ H D I h => wpAny_execs_cons (wpAny_If (thn (hc.run [] s σ H _ I h) fun d s1 ⟨H1, I1, q1⟩ => ?_))⟩
  cases d with
  | true =>
    refine thn (ha.run s1 σ H1 _ I1 q1) fun f s2 q => ?_
    cases f with
    | next =>
      obtain ⟨σ', H', I', q⟩ := q
      exact hr.run s2 σ' H' D I' q
    | ret v => exact q
    | brk => exact False.elim q
    | cont => exact False.elim q
  | false => exact wpAny_execs_nil (hr.run s1 σ H1 D I1 q1)
end
/-- the cells of a frame that has ended, tracked -/
def Trk (N : List Str) (scope : Scope) (cs : List (Str × Addr)) (σ : L2.St) (H H2 : Hp) : Prop := Ex H H2 ∧ (∀ (i : Nat) (y : Str) (c : Addr) (v : V), N[i]? = some y → σ[i]? = some (some v) → scope.names.lookup y = some .cell → cs.lookup y = some c → H2 c = some (CellO c v)) ∧ ∀ (y : Str) (c : Addr), cs.lookup y = some c → H c = none
section
variable {w : World} {K : PySem.W.Frag} {mg : Mg} {base : Heap} {N ps : List Str} {k : Nat} {sp : Sp}
theorem trk_ok {qual : Str} {scope : Scope} {f : Addr} {cd : Value} {A : Around} {outer : List Env} {s s' : Shared} {H H1 : Hp} {E : XK} {σ : L2.St} (nd : N.Nodup) (J : Inv (cx w K mg base N qual scope f cd A outer s H E) [] σ H1 s') (nf : scope.names.all (fun y => !decide (y.2 = .free)) = true) :
    ∃ H2, Trk N scope (cellsFrom (s.heap.objs.size + 1) scope.names []) σ H1 H2 ∧ HOk PG w H2 s'.heap ∧ Un (frs outer) [] H H2 s.heap s'.heap := by
  classical
  let P : Addr → HO → Prop := fun a o => ∃ (i : Nat) (y : Str) (v : V), N[i]? = some y ∧ σ[i]? = some (some v) ∧ scope.names.lookup y = some .cell ∧ (cellsFrom (s.heap.objs.size + 1) scope.names []).lookup y = some a ∧ o = CellO a v
  have one : ∀ a o o', P a o → P a o' → o = o' := by
    rintro a o o' ⟨i, y, v, a1, a2, a3, a4, rfl⟩ ⟨j, z, v', b1, b2, b3, b4, rfl⟩
    have e : y = z := J.ok.inj y z a a4 b4
    subst e
    obtain ⟨l1, g1⟩ := List.getElem?_eq_some_iff.mp a1
    obtain ⟨l2, g2⟩ := List.getElem?_eq_some_iff.mp b1
    have e : i = j := (List.getElem_inj nd).mp (g1.trans g2.symm)
    subst e
    rw [a2] at b2
    cases b2
    rfl
  have none1 : ∀ a o, P a o → H1 a = none := fun a o ⟨_, y, _, _, _, _, e, _⟩ => J.freeC y a e
  let H2 : Hp := fun a => if h : ∃ o, P a o then some (Classical.choose h) else H1 a
  have yes : ∀ a o, P a o → H2 a = some o := fun a o p => by
    have h : ∃ o, P a o := ⟨o, p⟩
    show (if h : ∃ o, P a o then some (Classical.choose h) else H1 a) = some o
    rw [dif_pos h]
    exact congrArg some (one a _ _ (Classical.choose_spec h) p)
  have no : ∀ a, (¬ ∃ o, P a o) → H2 a = H1 a := fun a h => dif_neg h
  have ex : Ex H1 H2 := fun a o e => by
    rw [no a fun ⟨o', p⟩ => by rw [none1 a o' p] at e; cases e]
    exact e
  have up : ∀ a o, P a o → s.heap.objs.size ≤ a := fun a o ⟨_, y, _, _, _, _, e, _⟩ => J.ok.cab y a rfl e
  obtain ⟨m, hns, hl⟩ := J.loc
  have hok2 : HOk PG w H2 s'.heap := fun a o e => by
    by_cases h : ∃ o, P a o
    · obtain ⟨o', p⟩ := h
      rw [yes a o' p] at e
      cases e
      obtain ⟨i, y, v, a1, a2, a3, a4, rfl⟩ := p
      obtain ⟨u, r, q⟩ := hl i y v a1 a2 (.inr (.inl a3))
      rcases q with ⟨z, _⟩ | ⟨_, c, ec, z⟩
      · have z : scope.names.lookup y = some .local := z
        rw [a3] at z
        cases z
      · have ec : (cellsFrom (s.heap.objs.size + 1) scope.names []).lookup y = some c := ec
        rw [a4] at ec
        cases ec
        exact cell_ok r z
    · rw [no a h] at e
      exact (J.hok a o e).stay (fun _ _ _ q => q) (fun b q => ex _ _ q) fun b xs q => ex _ _ q
  refine ⟨H2, ⟨ex, fun i y c v a1 a2 a3 a4 => yes c _ ⟨i, y, v, a1, a2, a3, a4, rfl⟩, fun y c e => J.freeC y c e⟩, hok2, ?_⟩
  have un : Un (frs outer) [] H H1 s.heap s'.heap := J.base
  refine ⟨un.keep, un.slot, fun b o e n x => ?_, un.there, fun b xs e => ex _ _ (un.tups b xs e), fun b o u e => ex _ _ (un.frzs b o u e), fun b qs e => ?_⟩
  · rw [no b fun ⟨o', p⟩ => Nat.lt_irrefl _ (Nat.lt_of_lt_of_le (Heap.lt_size e) (up b o' p))]
    exact un.free b o e n x
  · obtain ⟨more, z⟩ := un.tbls b qs e
    exact ⟨more, ex _ _ z⟩
/-- a def that makes a function -/
theorem mkr {x qual : Str} {params : Arguments} {body : List Stmt} {scope : Scope} {p : He.Defn} (F : ∃ fd, FunD K x qual params body scope [] [] (He.fAd K p) fd) (S : C8.scC N ps scope = true) (nf : scope.names.all (fun y => !decide (y.2 = .free)) = true) (len : ∀ vs H Q E, sp vs H Q E → vs.length = ps.length)
    (hb : ∀ (kV doc pm : Value) (an : Option Addr) (cdv ct : Value) (us : List Value), us.length = ps.length → bindArgs (PySem.W.fnOf x qual params body scope .none kV doc pm an cdv ct) ⟨us, []⟩ = pure (ps.zip us))
    (hbody : ∀ (A : Around) (outer : List Env) (s : Shared) (H : Hp) (vs : List V) (Q : VK) (E : XK), Room k (A.deeper (envOfC qual scope s.heap.objs.size (He.fAd K p) (.ref (He.cT K p).1))) → sp vs H Q E →
      ∃ t, PRs (cx w K mg base N qual scope (He.fAd K p) (.ref (He.cT K p).1) A outer s H E) body t ∧ t { nx := fun _ _ => False, rt := fun v σ' H' => ∀ H2, Trk N scope (cellsFrom (s.heap.objs.size + 1) scope.names []) σ' H' H2 → Q v H2 } (start N vs) H) :
    ∃ fd, FnOk PG w K mg base (L2.CX PG w) (k + 1) (He.fAd K p) fd ps sp ∧ PySem.W.keepIn K (.ref (He.fAd K p)) = true ∧ Binds K fd ps [] := by
  obtain ⟨fd, F⟩ := F
  have kp := F.kp
  have bd := F.bindsN hb
  obtain ⟨oc, od, dV, kV, doc, pm, an, cdv, ct, osl, efd, lk, hcd, _, _⟩ := F.ex
  obtain ⟨c, ec⟩ := He.codeIn_ref hcd
  subst ec
  have hc : (He.cT K p).1 = c := He.codeOf_eq lk (by rw [efd])
  have S := C8.fnScope_by S
  refine ⟨fd, ⟨len, fun A outer s H args us vs Q E hr e0 bt r hsp => ?_⟩, kp, bd⟩
  subst efd
  have KX : K.In s.heap := e0.mod.kin.keeps fun b o e => (e0.bs b o e).1
  have lim : s.heap.NoLimit := e0.mod.nolimit.keeps fun b o e => (e0.bs b o e).1
  have hl := len _ _ _ _ hsp
  have kinds : ∀ y ∈ ps.zip us, scope.names.lookup y.1 = some .local ∨ (scope.names.lookup y.1 = some .cell ∧ ((cellsFrom (s.heap.objs.size + 1) scope.names []).lookup y.1).isSome = true) := fun ⟨n, v⟩ hy => by
    rcases S.par n (List.of_mem_zip hy).1 with q | q
    · exact .inl q
    · exact .inr ⟨q, PySem.W.cellsFrom_some _ _ _ (.inl q)⟩
  refine codeAny_call_function hr.depth (KX _ _ lk) rfl S.co S.gen rfl (PySem.W.codeRec_of KX hcd) (bt _ _ _ _ ?_)
  refine wpAny_newFunctionEnv_cells S.kind kinds fun env he s1 x => ?_
  subst he
  refine ⟨lim.keeps x.toInCall.keep, codeAny_func ?_⟩
  rw [hc] at hbody
  obtain ⟨t, ht, hq⟩ := hbody A outer s H vs Q E (hr.deeper _) hsp
  have I : Inv (cx w K mg base N qual scope (He.fAd K p) (.ref c) A outer s H E) [] (start N vs) H s1 := inv_start S hr.hd e0 hl r x
  refine wpAny_mono (ht.run s1 (start N vs) H _ I hq) (fun fl s' hs => ?_) fun e s' hs => hs
  cases fl with
  | ret u =>
    obtain ⟨v, σ', H', J, rv, q⟩ := hs
    obtain ⟨H2, tr, ok2, un2⟩ := trk_ok S.nd J nf
    exact ⟨v, H2, J.os, J.bare, un2, ok2, rv, q H2 tr⟩
  | next =>
    obtain ⟨_, _, _, q⟩ := hs
    exact False.elim q
  | brk => exact False.elim hs
  | cont => exact False.elim hs
end
end RgK
set_option Elab.async false
set_option linter.all false
set_option maxRecDepth 100000
set_option maxHeartbeats 4000000
/-! Closures: the call; lists made by calls that change things. -/
namespace RgK
open PySem PySem.Spec PyProof.Rows L2 Evl LamX
def CloAt (H : Hp) (f : Addr) (F : CF) (ws : List V) : Prop := H f = some (FnC f F) ∧ H F.c = some (CodeO F.c F.qual) ∧ Paired (fun (p : Str × Addr) v => H p.2 = some (CellO p.2 v)) F.cl ws
def tClo (w : World) (K : PySem.W.Frag) (mg : Mg) (base : Heap) (k i : Nat) (E : L2.St → XK) (t : TA) : TE := fun σ H Q => ∃ (f : Addr) (F : CF) (ps : List Str) (sp : List V → Sp) (ws : List V), σ[i]? = some (some (.ref f)) ∧ ClOk w K mg base k F ps sp ∧ CloAt H f F ws ∧
  t σ H fun vs H1 => CloAt H1 f F ws ∧ sp ws vs (hid F.cells H1) (fun v H2 => (∀ a ∈ F.cells, H2 a = none) → Q v (unh F.cells H1 H2)) (fun cls d H2 => (∀ a ∈ F.cells, H2 a = none) → E σ cls d (unh F.cells H1 H2))
section
variable {w : World} {K : PySem.W.Frag} {mg : Mg} {base : Heap} {X : Cx} {k i : Nat} {E : L2.St → XK} {x : Str} {p pos : Pos} {e : Expr} {es : List Expr} {t : TA}
theorem fnAtC {pins : List (Addr × Obj)} {σ : L2.St} {H : Hp} {s : Shared} {f : Addr} {F : CF} (I : Inv X pins σ H s) (e : H f = some (FnC f F)) : PySem.W.FnAt f s.heap := by
  obtain ⟨od, sl, doc, pm, ctv, ho⟩ := fnC_at I.hok e
  exact ⟨_, od, _, sl, ho⟩
theorem pe_clo (hN : X.N[i]? = some x) (hv : Vis X.env.scope x) (hr : Room k X.A) (hx : ∀ σ, PassesAt (L2.CX X.prog X.w) X σ (E σ)) (ha : PA X (e :: es) t) (a : At X w K mg base := by exact ⟨rfl, rfl, rfl, rfl, rfl⟩)
    (hd : (x == ("__debug__" : Str)) = false := by decide) (hcd : (x == ("__classdict__" : Str)) = false := by decide) (he : starEach (e :: es) X.env = (false, eval e X.env) :: starEach es X.env := by rfl) (hpl : (backTo pos (starEach es X.env)).any (·.1) = false := by rfl) :
    PE X (.Call (.Name x p) (e :: es) [] pos) (tClo w K mg base k i E t) := by
  obtain ⟨a1, a2, a3, a4, a5⟩ := a
  subst a2 a3 a4 a5
  refine ⟨fun pins s σ H Q I ⟨f, F, ps, sp, ws, hs, ok, c0, ht⟩ => ?_⟩
  refine wpAny_Call_Name_kw (thn ((pe_var (pos := p) hN hv hd hcd).run pins s σ H (fun v H1 => v = .ref f ∧ H1 = H) I ⟨.ref f, hs, rfl, rfl⟩) fun u s1 ⟨v, H1, I1, r1, ev, eH⟩ => ?_)
  subst ev eH
  obtain rfl : u = Value.ref f := r1
  refine PySem.W.callWith_F (first := []) (fnAtC I1 c0.1) (thn (ha.run pos pins s1 σ _ _ I1 ht) fun us s2 ⟨vs, H2, I2, r, c2, q⟩ => ⟨fnAtC I2 c2.1, ?_⟩) he hpl
  show wpAny (model X.prog X.w) X.A (call (.ref f) us) _ _ _
  have e0 := I2.env0
  have hx' := hx σ
  rw [a1] at e0 hx' ⊢
  refine wpAny_call (codeAny_mono (ok.run f X.A X.stack s2 H2 us vs ws Q (E σ) hr e0 c2.1 c2.2.1 c2.2.2 r q) fun r s' hq => ?_)
  cases r with
  | error e => exact hx' pins H2 s2 e s' I2 hq
  | ok fl =>
    cases fl with
    | ret u =>
      have := I2.after (Q := Q) (u := u) (s' := s')
      rw [a1] at this
      exact this hq
    | next => exact False.elim hq
    | brk => exact False.elim hq
    | cont => exact False.elim hq
end
/-! ### all but dicts and tables is kept -/
def isKp : HO → Bool
  | .dK _ => false
  | .tbl _ => false
  | _ => true
def Kp (H H' : Hp) : Prop := ∀ a o, H a = some o → isKp o = true → H' a = some o
theorem Kp.refl (H : Hp) : Kp H H := fun _ _ h _ => h
theorem Kp.of {H H' : Hp} (e : Ex H H') : Kp H H' := fun a o h _ => e a o h
theorem Kp.trans {H H1 H2 : Hp} (a : Kp H H1) (b : Kp H1 H2) : Kp H H2 := fun x o h n => b x o (a x o h n) n
theorem Kp.im {H H' : Hp} (e : Im H H') : Kp H H' := fun a o h n => e a o h (by cases o <;> first | rfl | cases n)
theorem Kp.ip {H H' : Hp} (e : Kp H H') : Ip H H' := fun a o h n => e a o h (by cases o <;> first | rfl | cases n)
theorem Kp.mo {ds : List Addr} {H H' : Hp} (m : Mo ds H H') (h : ∀ d ∈ ds, ∀ o, H d = some o → isKp o = false) : Kp H H' := fun a o e n => m a o e fun z => by rw [h a z o e] at n; cases n
theorem Kp.hid {l : List Addr} {H H' : Hp} (e : Kp H H') : Kp (hid l H) (hid l H') := fun a o h n => by
  have na : a ∉ l := fun z => by rw [hid_in z] at h; cases h
  rw [hid_out na] at h ⊢
  exact e a o h n
theorem hid_ex {l : List Addr} {H H' : Hp} (e : Ex H H') : Ex (RgK.hid l H) (RgK.hid l H') := fun a o h => by
  have na : a ∉ l := fun z => by rw [hid_in z] at h; cases h
  rw [hid_out na] at h ⊢
  exact e a o h
theorem hid_new {l : List Addr} {H H' : Hp} (e : Ex H H') (n : ∀ a ∈ l, H a = none) : Ex H (RgK.hid l H') := fun a o h => by
  rw [hid_out (fun z => by rw [n a z] at h; cases h)]
  exact e a o h
theorem unh_ex {l : List Addr} {H H2 : Hp} (e : Ex (RgK.hid l H) H2) : Ex H (unh l H H2) := fun a o h => by
  by_cases z : a ∈ l
  · rw [unh_in z]; exact h
  · rw [unh_out z]; exact e a o (by rw [hid_out z]; exact h)
theorem unh_mo {l ds : List Addr} {H H2 : Hp} (m : Mo ds (RgK.hid l H) H2) : Mo ds H (unh l H H2) := fun a o h n => by
  by_cases z : a ∈ l
  · rw [unh_in z]; exact h
  · rw [unh_out z]; exact m a o (by rw [hid_out z]; exact h) n
theorem CloAt.kp {H H' : Hp} {f : Addr} {F : CF} {ws : List V} (h : CloAt H f F ws) (k : Kp H H') : CloAt H' f F ws := ⟨k _ _ h.1 rfl, k _ _ h.2.1 rfl, L2.Paired.mapP h.2.2 fun _ _ q => k _ _ q rfl⟩
/-! ### a list made by calls that change things -/
theorem lc_M {K : PySem.W.Frag} {σ : L2.St} {H : Hp} {tl te : TE} {k : Bool} {a : Addr} {xs : List V} {j : Nat} {vs : List Nat} (h : Ev tl σ H (.ref a)) (hx : Sq K k H a xs) (hn : xs.length ≤ 50000) (hw : ∀ x, wipe ((wipe σ vs).set j (some x)) vs = wipe σ vs)
    (Pv : Nat → List V → Hp → Prop) (hP : ∀ i acc F F', Pv i acc F → Ex F F' → Pv i acc F') (h0 : Pv 0 [] H) (hl : ∀ i acc F, Pv i acc F → Sq K k F a xs)
    (hs : ∀ i acc F x, xs[i]? = some x → Pv i acc F → ∀ Q : VK, (∀ y F2, Pv (i + 1) (acc ++ [y]) F2 → Q y F2) → te ((wipe σ vs).set j (some x)) F Q)
    {H1 : Hp} (e1 : Ex H H1) {Q : VK} (hd : ∀ p acc H', H' p = some (.lst acc) → acc.length ≤ xs.length → Pv xs.length acc (wo p H') → Q (.ref p) H') : tLc (iSeq K tl) (gName j) tYes (tHide te) vs σ H1 Q := by
  refine ei_seq (k := k) h hx H1 e1 _ fun H2 e2 p hp => ?_
  have e12 := e1.trans e2
  have sq_at : ∀ {F : Hp}, Sq K k (wo p F) a xs → Sq K k F a xs := fun q => ex_s wo_ex q
  refine ⟨fun i m H' => i ≤ xs.length ∧ m = xs.length - i ∧ ∃ acc, H' p = some (.lst acc) ∧ acc.length ≤ i ∧ Pv i acc (wo p H'), ⟨xs.length, Nat.zero_le _, rfl, [], upd_same, Nat.le_refl _, ?_⟩, ?_⟩
  · rw [wo_upd]
    exact hP _ _ _ _ h0 (e12.trans (wo_base (.refl _) hp))
  · rintro i m H' ⟨hi', rfl, acc, hacc, hlen, pv⟩
    have hxs := sq_at (hl i acc _ pv)
    by_cases hlt : i < xs.length
    · have hat : xs[i]? = some xs[i] := List.getElem?_eq_getElem hlt
      refine .inr ⟨?_, fun H'' => ∃ acc', H'' p = some (.lst acc') ∧ acc'.length ≤ i + 1 ∧ Pv (i + 1) acc' (wo p H''), fun H'' ⟨acc', b1, b2, b3⟩ => ⟨xs.length - (i + 1), by omega, hlt, rfl, acc', b1, b2, b3⟩, fun x H'' hy => ?_⟩
      · cases k with
        | true => exact ⟨xs, xs[i], hxs, hat⟩
        | false => exact ⟨xs, xs[i], hxs, hat⟩
      · have hy' : xs[i]? = some x ∧ H'' = H' := by
          cases k with
          | true => exact ⟨hy.2 xs hxs, hy.1⟩
          | false => exact ⟨hy.2 xs hxs, hy.1⟩
        obtain ⟨hx1, rfl⟩ := hy'
        refine ⟨hw x, (show EvT tYes ((wipe σ vs).set j (some x)) H'' true from fun H1 _ Q q => q H1 (.refl _)) H'' (.refl _) _ fun H3 e3 => ?_⟩
        rw [if_pos rfl]
        refine ⟨p, acc, e3 _ _ hacc, hs i acc _ x hx1 (hP _ _ _ _ pv (wo_mono e3)) _ fun y F2 pv2 hn2 => ⟨acc, upd_same, sz_lt (by omega), acc ++ [y], upd_same, by rw [List.length_append]; simp; omega, ?_⟩⟩
        rw [wo_upd, wo_upd]
        exact hP _ _ _ _ pv2 (wo_base (.refl _) hn2)
    · obtain rfl : i = xs.length := by omega
      refine .inl ⟨?_, hd p acc H' hacc hlen pv⟩
      cases k with
      | true => exact ⟨xs, hxs, Nat.le_refl _⟩
      | false => exact ⟨xs, hxs, Nat.le_refl _⟩
end RgK
set_option Elab.async false
set_option linter.all false
set_option maxRecDepth 100000
set_option maxHeartbeats 4000000

/-! The functions of conditions. -/
namespace RgK
open PySem PySem.Spec PyProof.Rows L2 Evl LamX
local macro_rules | `(tactic| walk_at "ev") => `(tactic| repeat' (first
  | with_reducible exact ev_c
  | with_reducible exact ea_nil
  | ((with_reducible apply ev_var); first | rfl | assumption)
  | with_reducible apply ea_cons
  | with_reducible apply ev_fld
  | ((with_reducible show Fld _ _ _ _ _); assumption)
  | with_reducible exact rv_I0
  | with_reducible exact ru_neg
  | with_reducible exact rv_eq rfl
  | with_reducible exact rv_ne rfl
  | ((with_reducible apply rv_I); first | decide | omega | assumption)
  | ((with_reducible show _ = _ → EvT _ _ _ _); intro _)
  | ((with_reducible show _ = _ → Ev _ _ _ _); intro _)
  | with_reducible apply et_and
  | with_reducible apply et_or
  | with_reducible apply ev_andV
  | with_reducible apply ev_orV
  | with_reducible apply et_test
  | with_reducible apply et_B
  | with_reducible apply et_not
  | with_reducible apply ev_notV
  | with_reducible apply ev_un
  | with_reducible apply ev_op))

/-! ### the texts -/
def retE : Stmt → Expr
  | .Return (some e) _ => e
  | _ => .Name "" ⟨0, 0, 0, 0⟩
def ifB : Stmt → List Stmt
  | .If _ b _ _ => b
  | _ => []
def nth (b : List Stmt) (i : Nat) : Stmt := b.getD i (.Pass ⟨0, 0, 0, 0⟩)
def lamP : Expr → Arguments
  | .Lambda p _ _ _ => p
  | _ => ⟨[], [], none, [], [], none, []⟩
def lamB : Expr → Expr
  | .Lambda _ b _ _ => b
  | e => e
def lamS : Expr → Scope
  | .Lambda _ _ s _ => s
  | _ => defScope s_wired
def wlam : Nat → Expr
  | 0 => retE (nth (ifB (nth (defBody s_wired) 0)) 0)
  | 1 => retE (nth (ifB (nth (defBody s_wired) 1)) 0)
  | 2 => retE (nth (ifB (nth (defBody s_wired) 2)) 1)
  | 3 => retE (nth (ifB (nth (defBody s_wired) 4)) 0)
  | _ => retE (nth (defBody s_wired) 5)
def wq : Str := "wired" ++ ".<locals>." ++ "<lambda>"
def Fw (j : Nat) (cl : List (Str × Addr)) (c : Addr) : CF := ⟨"<lambda>", wq, lamP (wlam j), .expr (lamB (wlam j)), lamS (wlam j), cl, c⟩
def capN : Nat → List Str
  | 0 => ["part"]
  | 1 => ["part"]
  | 2 => ["inner"]
  | _ => ["wires"]
/-! ### what they hold -/
def WSem (K : PySem.W.Frag) (At : Addr → Den → Prop) (j : Nat) (ws : List V) (H : Hp) (D : Den) : Prop := match j with
  | 0 => ∃ p dx b, ws = [.ref p] ∧ H p = some (.ins (He.ga K "Fixed") dx [("value", .bl b)]) ∧ D.h = fun _ => b
  | 1 => ∃ p dx x, ws = [.ref p] ∧ H p = some (.ins (He.ga K "Contact") dx [("name", .str x)]) ∧ D.h = fun β => β x
  | 2 => ∃ g D', ws = [.ref g] ∧ At g D' ∧ D.h = fun β => !D'.h β
  | 3 => ∃ l gs Ds, ws = [.ref l] ∧ H l = some (.lst (gs.map V.ref)) ∧ Paired At gs Ds ∧ gs.length ≤ 1000 ∧ D.h = fun β => Ds.all fun D => D.h β
  | 4 => ∃ l gs Ds, ws = [.ref l] ∧ H l = some (.lst (gs.map V.ref)) ∧ Paired At gs Ds ∧ gs.length ≤ 1000 ∧ D.h = fun β => Ds.any fun D => D.h β
  | _ => False
def WireAt (K : PySem.W.Frag) : Nat → Hp → Addr → Den → Prop
  | 0 => fun _ _ _ => False
  | n + 1 => fun H g D => ∃ j cl c ws, j < 5 ∧ cl.map (·.1) = capN j ∧ (cl.map (·.2)).Nodup ∧ CloAt H g (Fw j cl c) ws ∧ WSem K (WireAt K n (hid (cl.map (·.2)) H)) j ws (hid (cl.map (·.2)) H) D
theorem WSem.kp {K : PySem.W.Frag} {A A' : Addr → Den → Prop} {j : Nat} {ws : List V} {H H' : Hp} {D : Den} (k : Kp H H') (m : ∀ g D, A g D → A' g D) (h : WSem K A j ws H D) : WSem K A' j ws H' D := by
  match j, h with
  | 0, ⟨p, dx, b, a1, a2, a3⟩ => exact ⟨p, dx, b, a1, k _ _ a2 rfl, a3⟩
  | 1, ⟨p, dx, x, a1, a2, a3⟩ => exact ⟨p, dx, x, a1, k _ _ a2 rfl, a3⟩
  | 2, ⟨g, D', a1, a2, a3⟩ => exact ⟨g, D', a1, m _ _ a2, a3⟩
  | 3, ⟨l, gs, Ds, a1, a2, a3, a4⟩ => exact ⟨l, gs, Ds, a1, k _ _ a2 rfl, L2.Paired.mapP a3 fun g D q => m _ _ q, a4⟩
  | 4, ⟨l, gs, Ds, a1, a2, a3, a4⟩ => exact ⟨l, gs, Ds, a1, k _ _ a2 rfl, L2.Paired.mapP a3 fun g D q => m _ _ q, a4⟩
theorem WireAt.kp {K : PySem.W.Frag} : ∀ {n : Nat} {H H' : Hp} {g : Addr} {D : Den}, Kp H H' → WireAt K n H g D → WireAt K n H' g D
  | n + 1, H, H', g, D, k, ⟨j, cl, c, ws, h1, h2, h3, h4, h5⟩ => ⟨j, cl, c, ws, h1, h2, h3, h4.kp k, h5.kp k.hid fun _ _ q => WireAt.kp k.hid q⟩
def spW (K : PySem.W.Frag) (n j : Nat) : List V → Sp := fun ws vs H Q _ => ∃ (d : Addr) (β : Str → Bool) (D : Den), vs = [.ref d] ∧ ImgAt H d β ∧ WSem K (WireAt K n H) j ws H D ∧ ∀ H2, Ex H H2 → Q (.bl (D.h β)) H2
theorem img_hid {l : List Addr} {H : Hp} {d : Addr} {β : Str → Bool} (c : Cells l H) (h : ImgAt H d β) : ImgAt (hid l H) d β := let ⟨kvs, a, b⟩ := h; ⟨kvs, c.keep a (by intro φ z; cases z), b⟩
section
variable {w : World} {K : PySem.W.Frag} {mg : Mg} {base : Heap} {k : Nat}
theorem ev_wire {n i kk : Nat} {σ : L2.St} {H : Hp} {g d : Addr} {D : Den} {β : Str → Bool} {ta : TE} {E : L2.St → XK} (ih : ∀ j cl c, j < 5 → cl.map (·.1) = capN j → (cl.map (·.2)).Nodup → ClOk w K mg base kk (Fw j cl c) ["image"] (spW K n j))
    (hσ : σ[i]? = some (some (.ref g))) (hg : WireAt K (n + 1) H g D) (ha : Ev ta σ H (.ref d)) (hi : ImgAt H d β) : Ev (tClo w K mg base kk i E (tCons ta tNil)) σ H (.bl (D.h β)) := by
  obtain ⟨j, cl, c, ws, h1, h2, h3, h4, h5⟩ := hg
  intro H1 e1 Q q
  have c1 := h4.kp (.of e1)
  refine ⟨g, Fw j cl c, ["image"], spW K n j, ws, hσ, ih j cl c h1 h2 h3, c1, ha H1 e1 _ fun H2 e2 => ⟨c1.kp (.of e2), d, β, D, rfl, img_hid (caps_cells (c1.kp (.of e2)).2.2) (hi.ex (e1.trans e2)), ?_, fun H3 e3 _ => q _ (e2.trans (unh_ex e3))⟩⟩
  exact h5.kp (.of (hid_ex (e1.trans e2))) fun _ _ q => WireAt.kp (.of (hid_ex (e1.trans e2))) q
theorem wire0 (T : Tx w K mg base) (n : Nat) (cl : List (Str × Addr)) (c : Addr) (h2 : cl.map (·.1) = capN 0) (h3 : (cl.map (·.2)).Nodup) : ClOk w K mg base (n + 1) (Fw 0 cl c) ["image"] (spW K n 0) := by
  refine clo_ex (N := ["image", "part"]) (e := lamB (wlam 0)) rfl (csc_by (show cscB ["image", "part"] ["image"] (capN 0) (lamS (wlam 0)) = true by decide +kernel)) h2 h3 (fun ws vs H Q E ⟨d, β, D, e, _⟩ => by rw [e]; rfl) (fun _ _ _ us h => by match us, h with | [_], _ => rfl) ?_
  rintro f A outer s H vs ws Q E hr ⟨d, β, D, rfl, hi, ⟨p, dx, b, rfl, hp, hD⟩, hQ⟩
  refine ⟨_, (pe_fldT T (pv 1)), ?_⟩
  have hv : Fld K H p "value" (.bl b) := ⟨_, _, _, hp, T.c_Fixed, T.n_Fixed_value, rfl⟩
  refine (ev_fld (ev_var rfl) hv) H (.refl _) Q fun H1 e1 => ?_
  have := hQ H1 e1
  rwa [hD] at this
theorem wire1 (T : Tx w K mg base) (n : Nat) (cl : List (Str × Addr)) (c : Addr) (h2 : cl.map (·.1) = capN 1) (h3 : (cl.map (·.2)).Nodup) : ClOk w K mg base (n + 1) (Fw 1 cl c) ["image"] (spW K n 1) := by
  refine clo_ex (N := ["image", "part"]) (e := lamB (wlam 1)) rfl (csc_by (show cscB ["image", "part"] ["image"] (capN 1) (lamS (wlam 1)) = true by decide +kernel)) h2 h3 (fun ws vs H Q E ⟨d, β, D, e, _⟩ => by rw [e]; rfl) (fun _ _ _ us h => by match us, h with | [_], _ => rfl) ?_
  rintro f A outer s H vs ws Q E hr ⟨d, β, D, rfl, ⟨kvs, hk, him⟩, ⟨p, dx, x, rfl, hp, hD⟩, hQ⟩
  refine ⟨_, (pe_dget2 (hu_of hr) (pv 0) (pe_fldT T (pv 1)) pe_bl ⟨rfl, rfl, rfl, rfl⟩), ?_⟩
  have hv : Fld K H p "name" (.str x) := ⟨_, _, _, hp, T.c_Contact, T.n_Contact_name, rfl⟩
  refine (ev_dget2 (ev_var rfl) (.inl ⟨kvs, .of hk⟩) (ev_fld (ev_var rfl) hv) ev_c (.k (k := .inr x) hk)) H (.refl _) Q fun H1 e1 => ?_
  have := hQ H1 e1
  rw [hD] at this
  rw [him x]
  exact this
theorem wire2 (T : Tx w K mg base) (n : Nat) (ih : ∀ m, n = m + 1 → ∀ j cl c, j < 5 → cl.map (·.1) = capN j → (cl.map (·.2)).Nodup → ClOk w K mg base n (Fw j cl c) ["image"] (spW K m j)) (cl : List (Str × Addr)) (c : Addr) (h2 : cl.map (·.1) = capN 2) (h3 : (cl.map (·.2)).Nodup) : ClOk w K mg base (n + 1) (Fw 2 cl c) ["image"] (spW K n 2) := by
  refine clo_ex (N := ["image", "inner"]) (e := lamB (wlam 2)) rfl (csc_by (show cscB ["image", "inner"] ["image"] (capN 2) (lamS (wlam 2)) = true by decide +kernel)) h2 h3 (fun ws vs H Q E ⟨d, β, D, e, _⟩ => by rw [e]; rfl) (fun _ _ _ us h => by match us, h with | [_], _ => rfl) ?_
  rintro f A outer s H vs ws Q E hr ⟨d, β, D, rfl, hi, ⟨g, D', rfl, hg, hD⟩, hQ⟩
  refine ⟨_, (pe_not (pe_clo (i := 1) (by rfl) (by first | exact Or.inl rfl | exact Or.inr (Or.inl rfl) | exact Or.inr (Or.inr rfl)) hr pass0 (pa_cons (pv 0) pa_nil))), ?_⟩
  match n, ih, hg, hr with
  | m + 1, ih, hg, hr =>
    refine (ev_notV (ev_wire (ih m rfl) rfl hg (ev_var rfl) hi)) H (.refl _) Q fun H1 e1 => ?_
    have := hQ H1 e1
    rwa [hD] at this
theorem wire3 (T : Tx w K mg base) (n : Nat) (ih : ∀ m, n = m + 1 → ∀ j cl c, j < 5 → cl.map (·.1) = capN j → (cl.map (·.2)).Nodup → ClOk w K mg base n (Fw j cl c) ["image"] (spW K m j)) (cl : List (Str × Addr)) (c : Addr) (h2 : cl.map (·.1) = capN 3) (h3 : (cl.map (·.2)).Nodup) : ClOk w K mg base (n + 1) (Fw 3 cl c) ["image"] (spW K n 3) := by
  refine clo_ex (N := ["image", "wires", "wire"]) (e := lamB (wlam 3)) rfl (csc_by (show cscB ["image", "wires", "wire"] ["image"] (capN 3) (lamS (wlam 3)) = true by decide +kernel)) h2 h3 (fun ws vs H Q E ⟨d, β, D, e, _⟩ => by rw [e]; rfl) (fun _ _ _ us h => by match us, h with | [_], _ => rfl) ?_
  rintro f A outer s H vs ws Q E hr ⟨d, β, D, rfl, hi, ⟨l, gs, Ds, rfl, hl, hg, hgl, hD⟩, hQ⟩
  have nd : (["image", "wires", "wire"] : List Str).Nodup := by decide +kernel
  refine ⟨_, (pe_callB (cr_all rfl) (by rfl) T.f_all (by decide +kernel) (pa_cons (pe_lc (own := [("wire", 2)]) (g := gName 2) (tt := tYes) rfl nd (pi_seq (pv 1)) (blkOk_by (N := ["image", "wires", "wire"]) (sc := (lamS (wlam 3))) (own := [("wire", 2)]) (by decide +kernel)) (fun _ _ _ _ _ => (pg_name (i := 2) nd rfl (Or.inl rfl))) (fun _ _ _ _ _ => pts_nil) (fun _ _ _ _ _ => pe_hide (pe_clo (i := 2) (by rfl) (by first | exact Or.inl rfl | exact Or.inr (Or.inl rfl) | exact Or.inr (Or.inr rfl)) hr pass0 (pa_cons (pv 0) pa_nil)))) pa_nil)), ?_⟩
  refine (ev_allL (bs := Ds.map fun D => D.h β) ((er_lcP (k := true) (fun D => V.bl (D.h β)) hg (ev_var rfl) (.of hl) (by omega) (fun _ => rfl) fun p D' hp => ?_).imp fun v H2 _ h => by rw [List.map_map]; exact h)) H (.refl _) Q fun H1 e1 => ?_
  · match n, ih, hp with
    | m + 1, ih, hp => exact ev_wire (ih m rfl) rfl hp (ev_var rfl) hi
  · have := hQ H1 e1
    rw [hD] at this
    rw [List.all_map]
    exact this
theorem wire4 (T : Tx w K mg base) (n : Nat) (ih : ∀ m, n = m + 1 → ∀ j cl c, j < 5 → cl.map (·.1) = capN j → (cl.map (·.2)).Nodup → ClOk w K mg base n (Fw j cl c) ["image"] (spW K m j)) (cl : List (Str × Addr)) (c : Addr) (h2 : cl.map (·.1) = capN 4) (h3 : (cl.map (·.2)).Nodup) : ClOk w K mg base (n + 1) (Fw 4 cl c) ["image"] (spW K n 4) := by
  refine clo_ex (N := ["image", "wires", "wire"]) (e := lamB (wlam 4)) rfl (csc_by (show cscB ["image", "wires", "wire"] ["image"] (capN 4) (lamS (wlam 4)) = true by decide +kernel)) h2 h3 (fun ws vs H Q E ⟨d, β, D, e, _⟩ => by rw [e]; rfl) (fun _ _ _ us h => by match us, h with | [_], _ => rfl) ?_
  rintro f A outer s H vs ws Q E hr ⟨d, β, D, rfl, hi, ⟨l, gs, Ds, rfl, hl, hg, hgl, hD⟩, hQ⟩
  have nd : (["image", "wires", "wire"] : List Str).Nodup := by decide +kernel
  refine ⟨_, (pe_callB (cr_any rfl) (by rfl) T.f_any (by decide +kernel) (pa_cons (pe_lc (own := [("wire", 2)]) (g := gName 2) (tt := tYes) rfl nd (pi_seq (pv 1)) (blkOk_by (N := ["image", "wires", "wire"]) (sc := (lamS (wlam 4))) (own := [("wire", 2)]) (by decide +kernel)) (fun _ _ _ _ _ => (pg_name (i := 2) nd rfl (Or.inl rfl))) (fun _ _ _ _ _ => pts_nil) (fun _ _ _ _ _ => pe_hide (pe_clo (i := 2) (by rfl) (by first | exact Or.inl rfl | exact Or.inr (Or.inl rfl) | exact Or.inr (Or.inr rfl)) hr pass0 (pa_cons (pv 0) pa_nil)))) pa_nil)), ?_⟩
  refine (ev_anyL (bs := Ds.map fun D => D.h β) ((er_lcP (k := true) (fun D => V.bl (D.h β)) hg (ev_var rfl) (.of hl) (by omega) (fun _ => rfl) fun p D' hp => ?_).imp fun v H2 _ h => by rw [List.map_map]; exact h)) H (.refl _) Q fun H1 e1 => ?_
  · match n, ih, hp with
    | m + 1, ih, hp => exact ev_wire (ih m rfl) rfl hp (ev_var rfl) hi
  · have := hQ H1 e1
    rw [hD] at this
    rw [List.any_map]
    exact this
theorem wire_st (T : Tx w K mg base) (n : Nat) (ih : ∀ m, n = m + 1 → ∀ j cl c, j < 5 → cl.map (·.1) = capN j → (cl.map (·.2)).Nodup → ClOk w K mg base n (Fw j cl c) ["image"] (spW K m j)) (j : Nat) (cl : List (Str × Addr)) (c : Addr) (hj : j < 5) (h2 : cl.map (·.1) = capN j) (h3 : (cl.map (·.2)).Nodup) : ClOk w K mg base (n + 1) (Fw j cl c) ["image"] (spW K n j) := by
  match j, hj with
  | 0, _ => exact wire0 T n cl c h2 h3
  | 1, _ => exact wire1 T n cl c h2 h3
  | 2, _ => exact wire2 T n ih cl c h2 h3
  | 3, _ => exact wire3 T n ih cl c h2 h3
  | 4, _ => exact wire4 T n ih cl c h2 h3
theorem wire_ok (T : Tx w K mg base) : ∀ (n j : Nat) (cl : List (Str × Addr)) (c : Addr), j < 5 → cl.map (·.1) = capN j → (cl.map (·.2)).Nodup → ClOk w K mg base (n + 1) (Fw j cl c) ["image"] (spW K n j)
  | 0 => wire_st T 0 fun _ h => nomatch h
  | n + 1 => wire_st T (n + 1) fun m h => by
    cases h
    exact wire_ok T n
end
end RgK
set_option Elab.async false
set_option linter.all false
set_option maxRecDepth 100000
set_option maxHeartbeats 4000000

/-! wired. -/
namespace RgK
open PySem PySem.Spec PyProof.Rows L2 Evl LamX
local macro_rules | `(tactic| walk_at "ev") => `(tactic| repeat' (first
  | with_reducible exact ev_c
  | with_reducible exact ea_nil
  | ((with_reducible apply ev_var); first | rfl | assumption)
  | with_reducible apply ea_cons
  | with_reducible apply ev_fld
  | ((with_reducible show Fld _ _ _ _ _); assumption)
  | with_reducible exact rv_I0
  | with_reducible exact ru_neg
  | with_reducible exact rv_eq rfl
  | with_reducible exact rv_ne rfl
  | ((with_reducible apply rv_I); first | decide | omega | assumption)
  | ((with_reducible show _ = _ → EvT _ _ _ _); intro _)
  | ((with_reducible show _ = _ → Ev _ _ _ _); intro _)
  | with_reducible apply et_and
  | with_reducible apply et_or
  | with_reducible apply ev_andV
  | with_reducible apply ev_orV
  | with_reducible apply et_test
  | with_reducible apply et_B
  | with_reducible apply et_not
  | with_reducible apply ev_notV
  | with_reducible apply ev_un
  | with_reducible apply ev_op))

def Tb (K : PySem.W.Frag) (mg : Mg) (base : Heap) : Prop := ∀ p ∈ tf, TabB base mg (He.cT K p).1 (He.cT K p).2
section
variable {D : EndsR} {σ : L2.St} {H : Hp} {tc : TT} {t u : TSR} {te : TE} {ts : TS}
def SR (t : TSR) (D : EndsR) (σ : L2.St) (H : Hp) : Prop := ∀ H1, Ex H H1 → t D σ H1
theorem SR.here (h : SR t D σ H) : t D σ H := h H (.refl _)
theorem sr_if {b : Bool} (h : EvT tc σ H b) (h1 : b = true → SR t { D with nx := u D } σ H) (h2 : b = false → SR u D σ H) : SR (rIf tc t u) D σ H := fun H1 e1 => h H1 e1 _ fun H2 e2 => by
  cases b with
  | true => exact h1 rfl H2 (e1.trans e2)
  | false => exact h2 rfl H2 (e1.trans e2)
theorem sr_cons (h : SS (tSeq ts (fun _ => u D)) noEnds σ H) : SR (rCons ts u) D σ H := h
theorem sr_made {P : Addr} {q : Str} {mk : Addr → CF} (hT : TabS H P q) (k : ∀ (H0 : Hp) (f c' : Addr) (H1 : Hp), Ex H H0 → Mo [P] H0 H1 → TabS H1 P q → H0 f = none → H1 f = some (FnC f (mk c')) → H1 c' = some (CodeO c' q) → D.rt (.ref f) σ H1) : SR (rRet (tMade P q mk)) D σ H :=
  fun H0 e0 => ⟨hT.ext e0, fun f c' H1 m t n e1 e2 => k H0 f c' H1 e0 m t n e1 e2⟩
end
section
variable {w : World} {K : PySem.W.Frag} {mg : Mg} {base : Heap} {k : Nat}
theorem part_kit (T : Tx w K mg base) : ∀ (c j : Nat), c < 5 → j < 4 → PySem.W.kitOne K (.ref (He.ga K (pcls c))) (.ref (He.ga K (pcls j))) = some (decide (c = j))
  | 0, 0, _, _ => T.kit 30
  | 0, 1, _, _ => T.kit 31
  | 0, 2, _, _ => T.kit 32
  | 0, 3, _, _ => T.kit 33
  | 1, 0, _, _ => T.kit 34
  | 1, 1, _, _ => T.kit 35
  | 1, 2, _, _ => T.kit 36
  | 1, 3, _, _ => T.kit 37
  | 2, 0, _, _ => T.kit 38
  | 2, 1, _, _ => T.kit 39
  | 2, 2, _, _ => T.kit 40
  | 2, 3, _, _ => T.kit 41
  | 3, 0, _, _ => T.kit 42
  | 3, 1, _, _ => T.kit 43
  | 3, 2, _, _ => T.kit 44
  | 3, 3, _, _ => T.kit 45
  | 4, 0, _, _ => T.kit 46
  | 4, 1, _, _ => T.kit 47
  | 4, 2, _, _ => T.kit 48
  | 4, 3, _, _ => T.kit 49
  | _ + 5, _, h, _ => absurd h (by omega)
  | _, _ + 4, _, h => absurd h (by omega)
theorem part_ty (T : Tx w K mg base) {H : Hp} {F : Addr → Den → Prop} {c : Nat} {a : Addr} {D : Den} (h : PartC K H F c a D) : TyX K H (.ref a) (.ref (He.ga K (pcls c))) := by
  obtain ⟨ps, Ds, _, _, _, _, sh⟩ := h
  match c, sh with
  | 0, ⟨dx, b, q, _⟩ => exact T.tyO (x := "Fixed") (by decide) T.c_Fixed q
  | 1, ⟨dx, b, q, _⟩ => exact T.tyO (x := "Contact") (by decide) T.c_Contact q
  | 2, ⟨dx, p, D, q, _⟩ => exact T.tyO (x := "Turned") (by decide) T.c_Turned q
  | 3, ⟨dx, t, q, _⟩ => exact T.tyO (x := "Series") (by decide) T.c_Series q
  | 4, ⟨dx, t, q, _⟩ => exact T.tyO (x := "Branch") (by decide) T.c_Branch q
theorem rc_part (T : Tx w K mg base) {H : Hp} {n c : Nat} {a : Addr} {D : Den} (h : PartC K H (PartAt K H n) c a D) (hc : c < 5) (j : Nat) (hj : j < 4) : RC (rIsi K) [.ref a, .ref (He.ga K (pcls j))] H (.bl (decide (c = j))) :=
  rc_isi (.own _) (fun H1 e1 => part_ty T (h.im (.of e1) fun _ _ q => q.im (.of e1))) (part_kit T c j hc hj)
abbrev pW : He.Defn := ("wired", none)
abbrev PW_ (K : PySem.W.Frag) : Addr := (He.cT K pW).2
structure WdArg where
  p : Addr
  D : Den
theorem kp_tab {P : Addr} {q : Str} {H H1 : Hp} (t : TabS H P q) (m : Mo [P] H H1) : Kp H H1 := Kp.mo m fun d hd o e => by
  obtain rfl := List.mem_singleton.mp hd
  obtain ⟨ps, h, _⟩ := t
  rw [h] at e
  cases e
  rfl
theorem tab_ne {P a : Addr} {q : Str} {H : Hp} {o : HO} (t : TabS H P q) (e : H a = some o) (n : ∀ ps, o ≠ .tbl ps) : a ∉ [P] := fun z => by
  obtain rfl := List.mem_singleton.mp z
  obtain ⟨ps, h, _⟩ := t
  rw [h] at e
  cases e
  exact n _ rfl
theorem ss_asgFn {C : Sp → Prop} {E : L2.St → XK} {σ : L2.St} {H : Hp} {D : Ends} {tz : TS} {i : Nat} {tr : TA} {vs : List V} {sp : Sp} {P : Hp → V → Hp → Prop} (ha : EvA tr σ H vs) (c : C sp) (h : ∀ H1, Ex H H1 → ∀ Q : VK, (∀ v H2, P H1 v H2 → Q v H2) → sp vs H1 Q (E σ))
    (k : ∀ H1 v H2, Ex H H1 → P H1 v H2 → SS tz D (σ.set i (some v)) H2) : SS (tSeq (tAsg (tFn C E tr) (gName i)) tz) D σ H := fun H1 e1 => ha H1 e1 _ fun H2 e2 => ⟨sp, c, h H2 (e1.trans e2) _ fun v H3 p => (k H2 v H3 (e1.trans e2) p).here⟩
theorem ss_asgLcM {σ : L2.St} {H : Hp} {tl te : TE} {k : Bool} {a : Addr} {xs : List V} {i j : Nat} {vs : List Nat} {D : Ends} {tz : TS} (h : Ev tl σ H (.ref a)) (hx : Sq K k H a xs) (hn : xs.length ≤ 50000) (hw : ∀ x, wipe ((wipe σ vs).set j (some x)) vs = wipe σ vs)
    (Pv : Nat → List V → Hp → Prop) (hP : ∀ i acc F F', Pv i acc F → Ex F F' → Pv i acc F') (h0 : Pv 0 [] H) (hl : ∀ i acc F, Pv i acc F → Sq K k F a xs)
    (hs : ∀ i acc F x, xs[i]? = some x → Pv i acc F → ∀ Q : VK, (∀ y F2, Pv (i + 1) (acc ++ [y]) F2 → Q y F2) → te ((wipe σ vs).set j (some x)) F Q)
    (hd : ∀ p acc H', H' p = some (.lst acc) → acc.length ≤ xs.length → Pv xs.length acc (wo p H') → SS tz D (σ.set i (some (.ref p))) H') : SS (tSeq (tAsg (tLc (iSeq K tl) (gName j) tYes (tHide te) vs) (gName i)) tz) D σ H :=
  fun H1 e1 => lc_M (Q := fun v H' => gName i v σ H' (tz D)) h hx hn hw Pv hP h0 hl hs e1 fun p acc H' a b c => (hd p acc H' a b c).here
def spWired (K : PySem.W.Frag) (n : Nat) : Sp := fun vs H Q _ => ∃ i : WdArg, vs = [.ref i.p] ∧ (PartAt K H n i.p i.D ∧ TabS H (PW_ K) wq) ∧ ∀ v H2, Mo [PW_ K] H H2 → TabS H2 (PW_ K) wq → (∃ g, v = .ref g ∧ WireAt K n H2 g i.D) → Q v H2
theorem wire_mk {m j : Nat} (hj : j < 5) {f c' : Addr} {H1 H2 : Hp} {cl : List (Str × Addr)} {ws : List V} {D : Den} (h1 : cl.map (·.1) = capN j) (h2 : (cl.map (·.2)).Nodup) (hf : H1 f = some (FnC f (Fw j cl c'))) (hc : H1 c' = some (CodeO c' wq)) (tr : Ex H1 H2) (cells : Paired (fun (p : Str × Addr) v => H2 p.2 = some (CellO p.2 v)) cl ws)
    (hn : ∀ a ∈ cl.map (·.2), H1 a = none) (sem : WSem K (WireAt K m H1) j ws H1 D) : WireAt K (m + 1) H2 f D :=
  ⟨j, cl, c', ws, hj, h1, h2, ⟨tr _ _ hf, tr _ _ hc, cells⟩, sem.kp (.of (hid_new tr hn)) fun _ _ q => q.kp (.of (hid_new tr hn))⟩
theorem c_wired (T : Tx w K mg base) (B : Tb K mg base) : ∀ (n : Nat), Cal PG w K mg base (n + 1) "wired" (spWired K n) := by
  intro n
  have TB := B pW (by decide +kernel)
  induction n with
  | zero => 
    refine cal_of (mkr (p := pW) (N := ["part", "inner", "wires", "one"]) (ps := ["part"]) T.d_wired (by decide +kernel) (by decide +kernel) (fun vs H Q E ⟨_, e, _⟩ => by rw [e]; rfl) (fun _ _ _ _ _ _ us h => by match us, h with | [_], _ => rfl) ?_) T.g_wired
    rintro A outer s H vs Q E hr ⟨⟨p, D⟩, rfl, ⟨hp, hT⟩, hQ⟩
    exact hp.elim
  | succ m ih =>
    refine cal_of (mkr (p := pW) (N := ["part", "inner", "wires", "one"]) (ps := ["part"]) T.d_wired (by decide +kernel) (by decide +kernel) (fun vs H Q E ⟨_, e, _⟩ => by rw [e]; rfl) (fun _ _ _ _ _ _ us h => by match us, h with | [_], _ => rfl) ?_) T.g_wired
    rintro A outer s H vs Q E hr ⟨⟨p, D⟩, rfl, ⟨⟨c, pc⟩, hT⟩, hQ⟩
    have hT : TabS H (PW_ K) wq := hT
    have pc : PartC K H (PartAt K H m) c p D := pc
    have nd : (["part", "inner", "wires", "one"] : List Str).Nodup := by decide +kernel
    refine ⟨_, 
    (pr_if (pt_val (pe_callB call_isi (by rfl) T.f_isinstance (by decide +kernel) (pa_cons (pv 0) (pa_cons (pe_globR (by rfl) T.g_Fixed) pa_nil)))) 
    (pr_ret (pe_lam TB rfl rfl rfl (NdefX.ndef_free (sc := defScope s_wired) (fr := []) (by decide +kernel)))) 
    (pr_if (pt_val (pe_callB call_isi (by rfl) T.f_isinstance (by decide +kernel) (pa_cons (pv 0) (pa_cons (pe_globR (by rfl) T.g_Contact) pa_nil)))) 
    (pr_ret (pe_lam TB rfl rfl rfl (NdefX.ndef_free (sc := defScope s_wired) (fr := []) (by decide +kernel)))) 
    (pr_if (pt_val (pe_callB call_isi (by rfl) T.f_isinstance (by decide +kernel) (pa_cons (pv 0) (pa_cons (pe_globR (by rfl) T.g_Turned) pa_nil)))) 
    (pr_cons (ps_set (i := 1) nd rfl (Or.inr rfl) (pe_fn T hr (by rfl) T.g_wired pass0 T.kp_wired (pa_cons (pe_fldT T (pv 0)) pa_nil))) 
    (pr_ret (pe_lam TB rfl rfl rfl (NdefX.ndef_free (sc := defScope s_wired) (fr := []) (by decide +kernel))))) 
    (pr_cons (ps_set (i := 2) nd rfl (Or.inr rfl) (pe_lc (own := [("one", 3)]) (g := gName 3) (tt := tYes) rfl nd (pi_seq (pe_fldT T (pv 0))) (blkOk_by (N := ["part", "inner", "wires", "one"]) (sc := defScope s_wired) (own := [("one", 3)]) (by decide +kernel)) (fun _ _ _ _ _ => (pg_name (i := 3) nd rfl (Or.inl rfl))) (fun _ _ _ _ _ => pts_nil) (fun _ _ _ _ _ => pe_hide (pe_fn T hr (by rfl) T.g_wired pass0 T.kp_wired (pa_cons (pv 3) pa_nil))))) 
    (pr_if (pt_val (pe_callB call_isi (by rfl) T.f_isinstance (by decide +kernel) (pa_cons (pv 0) (pa_cons (pe_globR (by rfl) T.g_Series) pa_nil)))) 
    (pr_ret (pe_lam TB rfl rfl rfl (NdefX.ndef_free (sc := defScope s_wired) (fr := []) (by decide +kernel)))) 
    (pr_ret (pe_lam TB rfl rfl rfl (NdefX.ndef_free (sc := defScope s_wired) (fr := []) (by decide +kernel))))))))), SR.here ?_⟩
    have hc5 : c < 5 := by
      obtain ⟨ps, Ds, _, _, _, _, sh⟩ := id pc
      exact (T.pc sh).1
    have fin : ∀ (j i : Nat) (y : Str) (a : Addr) (v : V) (σ : L2.St) (H1 : Hp) (f c' : Addr), j < 5 → capN j = [y] → (["part", "inner", "wires", "one"] : List Str)[i]? = some y → σ[i]? = some (some v) → (defScope s_wired).names.lookup y = some .cell → (cellsFrom (s.heap.objs.size + 1) (defScope s_wired).names []).lookup y = some a → Mo [PW_ K] H H1 → TabS H1 (PW_ K) wq →
        H1 f = some (FnC f (Fw j [(y, a)] c')) → H1 c' = some (CodeO c' wq) → WSem K (WireAt K m H1) j [v] H1 D → ∀ H2, Trk ["part", "inner", "wires", "one"] (defScope s_wired) (cellsFrom (s.heap.objs.size + 1) (defScope s_wired).names []) σ H1 H2 → Q (.ref f) H2 := by
      intro j i y a v σ H1 f c' hj hcap hN hσ hk ha mo ht hf hc sem H2 ⟨ex, tr, nn⟩
      refine hQ _ H2 (mo.trans (.of ex)) (ht.ext ex) ⟨f, rfl, wire_mk hj (cl := [(y, a)]) hcap.symm (by simp) hf hc ex (.cons (tr i y a v hN hσ hk ha) .nil) (fun b hb => ?_) sem⟩
      obtain rfl : b = a := by simpa using hb
      exact nn y b ha
    have tst : ∀ j, j < 4 → ∀ (σ : L2.St) (H1 : Hp), Mo [PW_ K] H H1 → σ[0]? = some (some (.ref p)) → EvT (tB (tCB (rIsi K) (tCons (tVar 0) (tCons (tC (.ref (He.ga K (pcls j)))) tNil)))) σ H1 (decide (c = j)) := fun j hj σ H1 mo hσ => et_B (ev_cb (ea_cons (ev_var hσ) (ea_cons ev_c ea_nil)) (rc_part T (pc.im (kp_tab hT mo).ip fun _ _ q => q.im (kp_tab hT mo).ip) hc5 j hj))
    obtain ⟨ps, Ds, hps, hpl, -, -, sh⟩ := id pc
    refine sr_if (tst 0 (by decide) _ H (.of (.refl _)) rfl) (fun hb => ?_) fun hb0 => ?_
    · obtain rfl : c = 0 := of_decide_eq_true hb
      obtain ⟨dx, b, hi, _, _, hh⟩ := sh
      exact sr_made hT fun H0 f c' H1 e0 m1 t1 _ hf hc => fin 0 0 "part" _ (.ref p) _ H1 f c' (by decide) rfl rfl rfl (by decide +kernel) rfl ((Mo.of e0).trans m1) t1 hf hc ⟨p, dx, b, rfl, ((Mo.of e0).trans m1) _ _ hi (tab_ne hT hi (by intro ps z; cases z)), hh⟩
    refine sr_if (tst 1 (by decide) _ H (.of (.refl _)) rfl) (fun hb => ?_) fun hb1 => ?_
    · obtain rfl : c = 1 := of_decide_eq_true hb
      obtain ⟨dx, x, hi, _, _, hh⟩ := sh
      exact sr_made hT fun H0 f c' H1 e0 m1 t1 _ hf hc => fin 1 0 "part" _ (.ref p) _ H1 f c' (by decide) rfl rfl rfl (by decide +kernel) rfl ((Mo.of e0).trans m1) t1 hf hc ⟨p, dx, x, rfl, ((Mo.of e0).trans m1) _ _ hi (tab_ne hT hi (by intro ps z; cases z)), hh⟩
    refine sr_if (tst 2 (by decide) _ H (.of (.refl _)) rfl) (fun hb => ?_) fun hb2 => ?_
    · obtain rfl : c = 2 := of_decide_eq_true hb
      obtain ⟨dx, p', D', hi, rfl, rfl, hh⟩ := sh
      have hp' : PartAt K H m p' D' := by cases hps; assumption
      have hv : Fld K H p "part" (.ref p') := ⟨_, _, _, hi, T.c_Turned, T.n_Turned_part, rfl⟩
      refine sr_cons (ss_asgFn (P := fun F1 v F2 => Mo [PW_ K] F1 F2 ∧ TabS F2 (PW_ K) wq ∧ ∃ g, v = .ref g ∧ WireAt K m F2 g D') (ea_cons (ev_fld (ev_var rfl) hv) ea_nil) ih (fun F1 e1 Q' q' => ⟨⟨p', D'⟩, rfl, ⟨hp'.im (.of e1), hT.ext e1⟩, fun v F2 a1 a2 a3 => q' v F2 ⟨a1, a2, a3⟩⟩) fun F1 v F2 e1 ⟨m2, t2, g, ev, hg⟩ => ?_)
      subst ev
      have moF : Mo [PW_ K] H F2 := (Mo.of e1).trans m2
      exact fun F3 e3 => (sr_made (t2.ext e3) fun H0 f c' H1 e0 m1 t1 _ hf hc => fin 2 1 "inner" _ (.ref g) _ H1 f c' (by decide) rfl rfl rfl (by decide +kernel) rfl (moF.trans ((Mo.of (e3.trans e0)).trans m1)) t1 hf hc ⟨g, D', rfl, hg.kp ((Kp.of (e3.trans e0)).trans (kp_tab (t2.ext (e3.trans e0)) m1)), hh⟩).here
    have c34 : c = 3 ∨ c = 4 := by
      have := of_decide_eq_false hb0
      have := of_decide_eq_false hb1
      have := of_decide_eq_false hb2
      omega
    obtain ⟨t, hfp, htp⟩ : ∃ t, Fld K H p "parts" (.ref t) ∧ H t = some (.tup (ps.map V.ref)) := by
      rcases c34 with rfl | rfl
      · obtain ⟨dx, t, hi, ht, hh⟩ := sh
        exact ⟨t, ⟨_, _, _, hi, T.c_Series, T.n_Series_parts, rfl⟩, ht⟩
      · obtain ⟨dx, t, hi, ht, hh⟩ := sh
        exact ⟨t, ⟨_, _, _, hi, T.c_Branch, T.n_Branch_parts, rfl⟩, ht⟩
    refine sr_cons (ss_asgLcM (k := false) (xs := ps.map V.ref) (ev_fld (ev_var rfl) hfp) (.of htp) (by rw [List.length_map]; omega) (fun _ => rfl)
      (fun i acc F => Mo [PW_ K] H F ∧ TabS F (PW_ K) wq ∧ ∃ gs : List Addr, acc = gs.map V.ref ∧ Paired (fun g D => WireAt K m F g D) gs (Ds.take i)) (fun i acc F F' ⟨a1, a2, gs, a3, a4⟩ e => ⟨a1.trans (.of e), a2.ext e, gs, a3, L2.Paired.mapP a4 fun _ _ q => q.kp (.of e)⟩) ⟨.of (.refl _), hT, [], rfl, .nil⟩ (fun i acc F ⟨a1, _⟩ => .of (a1 _ _ htp (tab_ne hT htp (by intro ps z; cases z)))) (fun i acc F x hx ⟨a1, a2, gs, a3, a4⟩ Q' q' => ?_) (fun l acc H' hl hlen ⟨a1, a2, gs, a3, a4⟩ => ?_))
    · obtain ⟨pi, Di, rfl, hDi, hpi⟩ := paired_at hps hx
      refine ⟨.ref pi, rfl, spWired K m, ih, ⟨pi, Di⟩, rfl, ⟨hpi.im (kp_tab hT a1).ip, a2⟩, fun v F2 b1 b2 ⟨g, b3, b4⟩ => q' v F2 ⟨a1.trans b1, b2, gs ++ [g], by rw [a3, b3, List.map_append]; rfl, ?_⟩⟩
      rw [take_snoc hDi]
      exact paired_snoc b4 (L2.Paired.mapP a4 fun _ _ q => q.kp (kp_tab a2 b1))
    · rw [List.length_map, paired_len hps, List.take_length] at a4
      have eL : Ex (wo l H') H' := wo_ex
      have moL : Mo [PW_ K] H H' := a1.trans (.of eL)
      have tL : TabS H' (PW_ K) wq := a2.ext eL
      have hg : Paired (WireAt K m H') gs Ds := L2.Paired.mapP a4 fun _ _ q => q.kp (.of eL)
      have gl : gs.length ≤ 1000 := by rw [paired_len hg, ← paired_len hps]; exact hpl
      rw [a3] at hl
      have last : ∀ (j : Nat), j = 3 ∨ j = 4 → (∀ gs', Paired (WireAt K m gs') gs Ds → True) → ∀ (F3 : Hp), Ex H' F3 → ∀ (o : Option V) (H0 H1 : Hp) (f c' : Addr), Ex F3 H0 → Mo [PW_ K] H0 H1 → TabS H1 (PW_ K) wq → H1 f = some (FnC f (Fw j [("wires", s.heap.objs.size + 1 + 1 + 1)] c')) → H1 c' = some (CodeO c' wq) → (D.h = fun β => if j = 3 then Ds.all fun D => D.h β else Ds.any fun D => D.h β) →
          ∀ H2, Trk ["part", "inner", "wires", "one"] (defScope s_wired) (cellsFrom (s.heap.objs.size + 1) (defScope s_wired).names []) [some (.ref p), none, some (.ref l), o] H1 H2 → Q (.ref f) H2 := by
        intro j hj _ F3 e3 o H0 H1 f c' e0 m1 t1 hf hc hh
        have kp : Kp H' H1 := (Kp.of (e3.trans e0)).trans (kp_tab (tL.ext (e3.trans e0)) m1)
        rcases hj with rfl | rfl
        · exact fin 3 2 "wires" _ (.ref l) _ H1 f c' (by decide) rfl rfl rfl (by decide +kernel) rfl (moL.trans ((Mo.of (e3.trans e0)).trans m1)) t1 hf hc ⟨l, gs, Ds, rfl, kp _ _ hl rfl, L2.Paired.mapP hg fun _ _ q => q.kp kp, gl, hh⟩
        · exact fin 4 2 "wires" _ (.ref l) _ H1 f c' (by decide) rfl rfl rfl (by decide +kernel) rfl (moL.trans ((Mo.of (e3.trans e0)).trans m1)) t1 hf hc ⟨l, gs, Ds, rfl, kp _ _ hl rfl, L2.Paired.mapP hg fun _ _ q => q.kp kp, gl, hh⟩
      refine show SR _ _ _ H' from sr_if (tst 3 (by decide) _ H' moL rfl) (fun hb => ?_) fun hb => ?_
      · obtain rfl : c = 3 := of_decide_eq_true hb
        obtain ⟨dx, t', hi, ht', hh⟩ := sh
        exact sr_made tL fun H0 f c' H1 e0 m1 t1 _ hf hc => last 3 (.inl rfl) (fun _ _ => trivial) H' (.refl _) _ H0 H1 f c' e0 m1 t1 hf hc hh
      · obtain rfl : c = 4 := by
          have := of_decide_eq_false hb
          omega
        obtain ⟨dx, t', hi, ht', hh⟩ := sh
        exact sr_made tL fun H0 f c' H1 e0 m1 t1 _ hf hc => last 4 (.inr rfl) (fun _ _ => trivial) H' (.refl _) _ H0 H1 f c' e0 m1 t1 hf hc hh
end
end RgK
set_option Elab.async false
set_option linter.all false
set_option maxRecDepth 100000
set_option maxHeartbeats 4000000

/-! What ends do, as functions. -/
namespace RgK
open PySem PySem.Spec PyProof.Rows L2 Evl LamX
local macro_rules | `(tactic| walk_at "ev") => `(tactic| repeat' (first
  | with_reducible exact ev_c
  | with_reducible exact ea_nil
  | ((with_reducible apply ev_var); first | rfl | assumption)
  | with_reducible apply ea_cons
  | with_reducible apply ev_fld
  | ((with_reducible show Fld _ _ _ _ _); assumption)
  | with_reducible exact rv_I0
  | with_reducible exact ru_neg
  | with_reducible exact rv_eq rfl
  | with_reducible exact rv_ne rfl
  | ((with_reducible apply rv_I); first | decide | omega | assumption)
  | ((with_reducible show _ = _ → EvT _ _ _ _); intro _)
  | ((with_reducible show _ = _ → Ev _ _ _ _); intro _)
  | with_reducible apply et_and
  | with_reducible apply et_or
  | with_reducible apply ev_andV
  | with_reducible apply ev_orV
  | with_reducible apply et_test
  | with_reducible apply et_B
  | with_reducible apply et_not
  | with_reducible apply ev_notV
  | with_reducible apply ev_un
  | with_reducible apply ev_op))

def fdP : Stmt → Arguments
  | .FunctionDef _ p _ _ _ _ _ _ _ _ => p
  | _ => ⟨[], [], none, [], [], none, []⟩
def fdB : Stmt → List Stmt
  | .FunctionDef _ _ b _ _ _ _ _ _ _ => b
  | _ => []
def fdS : Stmt → Scope
  | .FunctionDef _ _ _ _ _ _ s _ _ _ => s
  | _ => defScope s_wired
def adef : Nat → Stmt
  | 0 => nth (defBody s_timer_act) 0
  | 1 => nth (defBody s_counter_act) 0
  | 2 => nth (defBody s_coil_act) 0
  | 3 => nth (defBody s_latch_act) 0
  | _ => nth (defBody s_unlatch_act) 0
def aname : Nat → Str
  | 0 => "timer_act"
  | 1 => "counter_act"
  | 2 => "coil_act"
  | 3 => "latch_act"
  | _ => "unlatch_act"
def aq (j : Nat) : Str := aname j ++ ".<locals>." ++ "act"
def Fa (j : Nat) (cl : List (Str × Addr)) (c : Addr) : CF := ⟨"act", aq j, fdP (adef j), .stmts (fdB (adef j)), fdS (adef j), cl, c⟩
def capA : Nat → List Str
  | 0 => ["name", "most"]
  | 1 => ["name", "most"]
  | _ => ["name"]
/-- the kind of an end -/
def akind : Nat → Nat
  | 0 => 3
  | 1 => 4
  | 2 => 0
  | 3 => 1
  | _ => 2
def aws (j : Nat) (e : EndV) : List V := match j with
  | 0 => [.str e.name, .int e.most]
  | 1 => [.str e.name, .int e.most]
  | _ => [.str e.name]
structure ActArg where
  dn : Addr
  di : Addr
  M : Ldr
  βi : Str → Bool
  ν : Nu
  r : RungV
  h : Bool
def numT (M : Ldr) (ν : Nu) : List (Key × V) := tab M.names fun x => .int (ν x)
def imgT (M : Ldr) (βi : Str → Bool) (ν : Nu) : List (Key × V) := tab (M.ins ++ M.names) fun x => .bl (img M βi ν x)
def spA (j : Nat) : List V → Sp := fun ws vs H Q _ => ∃ i : ActArg, vs = [.ref i.dn, .ref i.di, .bl i.h] ∧ (ws = aws j i.r.2 ∧ i.r.2.kind = akind j ∧ H i.dn = some (.dK (numT i.M i.ν)) ∧ H i.di = some (.dK (imgT i.M i.βi i.ν)) ∧ i.dn ≠ i.di ∧ LdrOk i.M ∧ NuOk i.M.rungs i.ν ∧ i.r ∈ i.M.rungs) ∧
  ∀ v H2, Mo [i.dn, i.di] H H2 → H2 i.dn = some (.dK (numT i.M (act i.r.2 i.h i.ν))) → H2 i.di = some (.dK (imgT i.M i.βi (act i.r.2 i.h i.ν))) → Q v H2
section
variable {M : Ldr} {βi : Str → Bool} {ν : Nu} {r : RungV} {h : Bool} {n : Int} {b : Bool}
theorem numT_put (hm : r.2.name ∈ M.names) (e : actN r.2 h (ν r.2.name) = n) : putK (numT M ν) (.inr r.2.name) (.int n) = numT M (act r.2 h ν) :=
  tab_set hm (fun x _ ne => by unfold act; rw [setN_ne ne]) (by unfold act; rw [setN_same, e])
theorem imgT_put (ok : LdrOk M) (hr : r ∈ M.rungs) (e : bit M.rungs (act r.2 h ν) r.2.name = b) : putK (imgT M βi ν) (.inr r.2.name) (.bl b) = imgT M βi (act r.2 h ν) :=
  tab_set (List.mem_append_right _ (names_of_rung hr)) (fun x _ ne => by rw [img_ne ne]) (by rw [img_name ok hr, e])
theorem act_same (e : actN r.2 h (ν r.2.name) = ν r.2.name) : act r.2 h ν = ν := act_id e
theorem bit_act_r (hc : cEnd M.rungs r.2.name = none) : bit M.rungs (act r.2 h ν) r.2.name = decide (actN r.2 h (ν r.2.name) = 1) := by
  unfold bit
  rw [hc]
  show decide (act r.2 h ν r.2.name = 1) = _
  unfold act
  rw [setN_same]
theorem bit_act_c {e : EndV} (hc : cEnd M.rungs r.2.name = some e) : bit M.rungs (act r.2 h ν) r.2.name = decide (actN r.2 h (ν r.2.name) % 16 = e.most) := by
  unfold bit
  rw [hc]
  show decide (act r.2 h ν r.2.name % 16 = _) = _
  unfold act
  rw [setN_same]
theorem and_m16 {x : Int} (h0 : 0 ≤ x) (h1 : x < 32) : Builtin.bitAnd x (-16) = x - x % 16 := by
  obtain ⟨n, rfl⟩ := Int.eq_ofNat_of_zero_le h0
  have hn : n < 32 := by omega
  have all : ∀ k : Fin 32, Builtin.bitAnd ((k.val : Nat) : Int) (-16) = ((k.val : Nat) : Int) - ((k.val : Nat) : Int) % 16 := by decide +kernel
  exact all ⟨n, hn⟩
end
section
variable {w : World} {K : PySem.W.Frag} {mg : Mg} {base : Heap} {k : Nat}
theorem tab_lens {M : Ldr} (ok : LdrOk M) {βi : Str → Bool} {ν : Nu} : (numT M ν).length < 100000 ∧ (imgT M βi ν).length < 100000 := by
  unfold numT imgT
  rw [tab_len, tab_len, List.length_append]
  have := ok.nl
  have := ok.il
  omega
theorem two_put {M : Ldr} {βi : Str → Bool} {ν : Nu} {r : RungV} {h b : Bool} {n : Int} {H : Hp} {dn di : Addr} (hn : H dn = some (.dK (numT M ν))) (hi : H di = some (.dK (imgT M βi ν))) (ne : dn ≠ di) (ok : LdrOk M) (hr : r ∈ M.rungs) (e1 : actN r.2 h (ν r.2.name) = n) (e2 : bit M.rungs (act r.2 h ν) r.2.name = b) :
    Mo [dn, di] H (upd (upd H dn (.dK (putK (numT M ν) (.inr r.2.name) (.int n)))) di (.dK (putK (imgT M βi ν) (.inr r.2.name) (.bl b)))) ∧ (upd (upd H dn (.dK (putK (numT M ν) (.inr r.2.name) (.int n)))) di (.dK (putK (imgT M βi ν) (.inr r.2.name) (.bl b)))) dn = some (.dK (numT M (act r.2 h ν))) ∧ (upd (upd H dn (.dK (putK (numT M ν) (.inr r.2.name) (.int n)))) di (.dK (putK (imgT M βi ν) (.inr r.2.name) (.bl b)))) di = some (.dK (imgT M βi (act r.2 h ν))) :=
  ⟨((Mo.of (.refl _)).put (by simp)).put (by simp), by rw [upd_ne ne, upd_same, numT_put (names_of_rung hr) e1], by rw [upd_same, imgT_put ok hr e2]⟩
theorem act2 (T : Tx w K mg base) (cl : List (Str × Addr)) (c : Addr) (h2 : cl.map (·.1) = capA 2) (h3 : (cl.map (·.2)).Nodup) : ClOk w K mg base 1 (Fa 2 cl c) ["numbers", "image", "holds"] (spA 2) := by
  refine clo_st (N := ["numbers", "image", "holds", "name"]) (b := fdB (adef 2)) rfl (csc_by (show cscB ["numbers", "image", "holds", "name"] ["numbers", "image", "holds"] (capA 2) (fdS (adef 2)) = true by decide +kernel)) h2 h3 (fun ws vs H Q E ⟨i, e, _⟩ => by rw [e]; rfl) (fun _ _ _ us h => by match us, h with | [_, _, _], _ => rfl) ?_
  rintro f A outer s H vs ws Q E hr ⟨⟨dn, di, M, βi, ν, r, h⟩, rfl, ⟨rfl, hk, hn, hi, ne, ok, hν, hrm⟩, hQ⟩
  have nd : (["numbers", "image", "holds", "name"] : List Str).Nodup := by decide +kernel
  refine ⟨_, 
    (pss_cons (ps_dput (hu_of hr) (pv 0) (pv 3) (pe_callTy call_int1 (by rfl) T.f_int (by decide +kernel) (pa_cons (pv 2) pa_nil)) rfl) 
    (pss_cons (ps_dput (hu_of hr) (pv 1) (pv 3) (pv 2) rfl) pss_nil)), SS.here ?_⟩
  have hk : r.2.kind = 0 := hk
  have hn : H dn = some (.dK (numT M ν)) := hn
  have hi : H di = some (.dK (imgT M βi ν)) := hi
  have ne : dn ≠ di := ne
  have ok : LdrOk M := ok
  have hν : NuOk M.rungs ν := hν
  have hrm : r ∈ M.rungs := hrm
  have hfit : Fit M.rungs r.2.name (ν r.2.name) := hν _
  unfold Fit at hfit
  obtain ⟨ln, li⟩ := tab_lens ok (βi := βi) (ν := ν)
  have hmn : r.2.name ∈ M.names := names_of_rung hrm
  have hget : DGet H dn (.str r.2.name) (some (.int (ν r.2.name))) := dget_tab hn hmn
  have fin : ∀ {n : Int} {b : Bool}, actN r.2 h (ν r.2.name) = n → bit M.rungs (act r.2 h ν) r.2.name = b → ∀ H1, Ex (upd (upd H dn (.dK (putK (numT M ν) (.inr r.2.name) (.int n)))) di (.dK (putK (imgT M βi ν) (.inr r.2.name) (.bl b)))) H1 → Q .non H1 := fun e1 e2 H1 e3 => by
    obtain ⟨m, a1, a2⟩ := two_put hn hi ne ok hrm e1 e2
    exact hQ .non H1 (m.trans (.of e3)) (e3 _ _ a1) (e3 _ _ a2)
  have hi' : ∀ {o : HO}, upd H dn o di = some (.dK (imgT M βi ν)) := by intro o; rw [upd_ne (Ne.symm ne)]; exact hi
  have hc := own_relay ok.own hrm (by rw [hk]; decide)
  have ha : actN r.2 h (ν r.2.name) = b2n h := by unfold actN; rw [if_pos hk]
  refine ss_dput (kk := .inr r.2.name) (v := .int (b2n h)) (ev_cb (ea_cons (ev_var rfl) ea_nil) rc_intB) (ev_var rfl) (ev_var rfl) hn ln ?_
  refine ss_dput (kk := .inr r.2.name) (v := .bl h) (ev_var rfl) (ev_var rfl) (ev_var rfl) hi' li (ss_end fun H1 e1 => fin ha ?_ H1 e1)
  rw [bit_act_r hc, ha]
  cases h <;> rfl
theorem act3 (T : Tx w K mg base) (cl : List (Str × Addr)) (c : Addr) (h2 : cl.map (·.1) = capA 3) (h3 : (cl.map (·.2)).Nodup) : ClOk w K mg base 1 (Fa 3 cl c) ["numbers", "image", "holds"] (spA 3) := by
  refine clo_st (N := ["numbers", "image", "holds", "name"]) (b := fdB (adef 3)) rfl (csc_by (show cscB ["numbers", "image", "holds", "name"] ["numbers", "image", "holds"] (capA 3) (fdS (adef 3)) = true by decide +kernel)) h2 h3 (fun ws vs H Q E ⟨i, e, _⟩ => by rw [e]; rfl) (fun _ _ _ us h => by match us, h with | [_, _, _], _ => rfl) ?_
  rintro f A outer s H vs ws Q E hr ⟨⟨dn, di, M, βi, ν, r, h⟩, rfl, ⟨rfl, hk, hn, hi, ne, ok, hν, hrm⟩, hQ⟩
  have nd : (["numbers", "image", "holds", "name"] : List Str).Nodup := by decide +kernel
  refine ⟨_, 
    (pss_cons (ps_if (pt_val (pv 2)) 
    (pss_cons (ps_dput (hu_of hr) (pv 0) (pv 3) pe_int rfl) 
    (pss_cons (ps_dput (hu_of hr) (pv 1) (pv 3) pe_bl rfl) pss_nil)) pss_nil) pss_nil), SS.here ?_⟩
  have hk : r.2.kind = 1 := hk
  have hn : H dn = some (.dK (numT M ν)) := hn
  have hi : H di = some (.dK (imgT M βi ν)) := hi
  have ne : dn ≠ di := ne
  have ok : LdrOk M := ok
  have hν : NuOk M.rungs ν := hν
  have hrm : r ∈ M.rungs := hrm
  have hfit : Fit M.rungs r.2.name (ν r.2.name) := hν _
  unfold Fit at hfit
  obtain ⟨ln, li⟩ := tab_lens ok (βi := βi) (ν := ν)
  have hmn : r.2.name ∈ M.names := names_of_rung hrm
  have hget : DGet H dn (.str r.2.name) (some (.int (ν r.2.name))) := dget_tab hn hmn
  have fin : ∀ {n : Int} {b : Bool}, actN r.2 h (ν r.2.name) = n → bit M.rungs (act r.2 h ν) r.2.name = b → ∀ H1, Ex (upd (upd H dn (.dK (putK (numT M ν) (.inr r.2.name) (.int n)))) di (.dK (putK (imgT M βi ν) (.inr r.2.name) (.bl b)))) H1 → Q .non H1 := fun e1 e2 H1 e3 => by
    obtain ⟨m, a1, a2⟩ := two_put hn hi ne ok hrm e1 e2
    exact hQ .non H1 (m.trans (.of e3)) (e3 _ _ a1) (e3 _ _ a2)
  have hi' : ∀ {o : HO}, upd H dn o di = some (.dK (imgT M βi ν)) := by intro o; rw [upd_ne (Ne.symm ne)]; exact hi
  have hc := own_relay ok.own hrm (by rw [hk]; decide)
  have ha : actN r.2 h (ν r.2.name) = if h then 1 else ν r.2.name := by unfold actN; rw [if_neg (by rw [hk]; decide), if_pos hk]
  refine ss_when (b := h) (et_B (ev_var rfl)) (fun hh => ?_) fun hh => ?_
  · have hh : h = true := hh
    subst hh
    refine ss_dput (kk := .inr r.2.name) (v := .int 1) ev_c (ev_var rfl) (ev_var rfl) hn ln ?_
    refine ss_dput (kk := .inr r.2.name) (v := .bl true) ev_c (ev_var rfl) (ev_var rfl) hi' li (ss_end fun H1 e1 => ?_)
    refine (ss_end (D := { nx := fun _ H' => Q .non H', rt := Q }) fun H2 e2 => fin ha ?_ H2 (e1.trans e2)) H1 (.refl _)
    rw [bit_act_r hc, ha]
    rfl
  · have hh : h = false := hh
    subst hh
    have e : act r.2 false ν = ν := act_id ha
    refine ss_end fun H1 e1 => hQ .non H1 (.of e1) ?_ ?_
    · show H1 dn = some (.dK (numT M (act r.2 false ν)))
      rw [e]
      exact e1 _ _ hn
    · show H1 di = some (.dK (imgT M βi (act r.2 false ν)))
      rw [e]
      exact e1 _ _ hi
theorem act4 (T : Tx w K mg base) (cl : List (Str × Addr)) (c : Addr) (h2 : cl.map (·.1) = capA 4) (h3 : (cl.map (·.2)).Nodup) : ClOk w K mg base 1 (Fa 4 cl c) ["numbers", "image", "holds"] (spA 4) := by
  refine clo_st (N := ["numbers", "image", "holds", "name"]) (b := fdB (adef 4)) rfl (csc_by (show cscB ["numbers", "image", "holds", "name"] ["numbers", "image", "holds"] (capA 4) (fdS (adef 4)) = true by decide +kernel)) h2 h3 (fun ws vs H Q E ⟨i, e, _⟩ => by rw [e]; rfl) (fun _ _ _ us h => by match us, h with | [_, _, _], _ => rfl) ?_
  rintro f A outer s H vs ws Q E hr ⟨⟨dn, di, M, βi, ν, r, h⟩, rfl, ⟨rfl, hk, hn, hi, ne, ok, hν, hrm⟩, hQ⟩
  have nd : (["numbers", "image", "holds", "name"] : List Str).Nodup := by decide +kernel
  refine ⟨_, 
    (pss_cons (ps_if (pt_val (pv 2)) 
    (pss_cons (ps_dput (hu_of hr) (pv 0) (pv 3) (pe_op op_and (pe_dget (hu_of hr) (pv 0) (pv 3) (fun _ _ => rfl)) (pe_un un_inv (pe_globI (by rfl) T.i_COUNT_MASK))) rfl) 
    (pss_cons (ps_dput (hu_of hr) (pv 1) (pv 3) pe_bl rfl) pss_nil)) pss_nil) pss_nil), SS.here ?_⟩
  have hk : r.2.kind = 2 := hk
  have hn : H dn = some (.dK (numT M ν)) := hn
  have hi : H di = some (.dK (imgT M βi ν)) := hi
  have ne : dn ≠ di := ne
  have ok : LdrOk M := ok
  have hν : NuOk M.rungs ν := hν
  have hrm : r ∈ M.rungs := hrm
  have hfit : Fit M.rungs r.2.name (ν r.2.name) := hν _
  unfold Fit at hfit
  obtain ⟨ln, li⟩ := tab_lens ok (βi := βi) (ν := ν)
  have hmn : r.2.name ∈ M.names := names_of_rung hrm
  have hget : DGet H dn (.str r.2.name) (some (.int (ν r.2.name))) := dget_tab hn hmn
  have fin : ∀ {n : Int} {b : Bool}, actN r.2 h (ν r.2.name) = n → bit M.rungs (act r.2 h ν) r.2.name = b → ∀ H1, Ex (upd (upd H dn (.dK (putK (numT M ν) (.inr r.2.name) (.int n)))) di (.dK (putK (imgT M βi ν) (.inr r.2.name) (.bl b)))) H1 → Q .non H1 := fun e1 e2 H1 e3 => by
    obtain ⟨m, a1, a2⟩ := two_put hn hi ne ok hrm e1 e2
    exact hQ .non H1 (m.trans (.of e3)) (e3 _ _ a1) (e3 _ _ a2)
  have hi' : ∀ {o : HO}, upd H dn o di = some (.dK (imgT M βi ν)) := by intro o; rw [upd_ne (Ne.symm ne)]; exact hi
  have ha : actN r.2 h (ν r.2.name) = if h then ν r.2.name - ν r.2.name % 16 else ν r.2.name := by unfold actN; rw [if_neg (by rw [hk]; decide), if_neg (by rw [hk]; decide), if_pos hk]
  refine ss_when (b := h) (et_B (ev_var rfl)) (fun hh => ?_) fun hh => ?_
  · have hh : h = true := hh
    subst hh
    have h32 : 0 ≤ ν r.2.name ∧ ν r.2.name < 32 := by
      split at hfit
      · omega
      · refine ⟨hfit.1, ?_⟩
        have := hfit.2.2
        split at this <;> omega
    refine ss_dput (kk := .inr r.2.name) (v := .int (ν r.2.name - ν r.2.name % 16)) (ev_is (ev_op (ev_dget (ev_var rfl) (ev_var rfl) hget) (ev_un ev_c (fun H1 _ Q q => ⟨15, rfl, q H1 (.refl _)⟩)) rv_I0) (congrArg V.int (and_m16 h32.1 h32.2))) (ev_var rfl) (ev_var rfl) hn ln ?_
    refine ss_dput (kk := .inr r.2.name) (v := .bl false) ev_c (ev_var rfl) (ev_var rfl) hi' li (ss_end fun H1 e1 => ?_)
    refine (ss_end (D := { nx := fun _ H' => Q .non H', rt := Q }) fun H2 e2 => fin ha ?_ H2 (e1.trans e2)) H1 (.refl _)
    cases hc : cEnd M.rungs r.2.name with
    | none =>
      rw [bit_act_r hc, ha]
      exact decide_eq_false (by rw [if_pos rfl]; omega)
    | some e =>
      obtain ⟨_, _, r', hr', er'⟩ := cEnd_some hc
      have := (ok.ends r' hr').m1
      rw [er'] at this
      rw [bit_act_c hc, ha]
      exact decide_eq_false (by rw [if_pos rfl]; omega)
  · have hh : h = false := hh
    subst hh
    have e : act r.2 false ν = ν := act_id ha
    refine ss_end fun H1 e1 => hQ .non H1 (.of e1) ?_ ?_
    · show H1 dn = some (.dK (numT M (act r.2 false ν)))
      rw [e]
      exact e1 _ _ hn
    · show H1 di = some (.dK (imgT M βi (act r.2 false ν)))
      rw [e]
      exact e1 _ _ hi
theorem act0 (T : Tx w K mg base) (cl : List (Str × Addr)) (c : Addr) (h2 : cl.map (·.1) = capA 0) (h3 : (cl.map (·.2)).Nodup) : ClOk w K mg base 1 (Fa 0 cl c) ["numbers", "image", "holds"] (spA 0) := by
  refine clo_st (N := ["numbers", "image", "holds", "name", "most"]) (b := fdB (adef 0)) rfl (csc_by (show cscB ["numbers", "image", "holds", "name", "most"] ["numbers", "image", "holds"] (capA 0) (fdS (adef 0)) = true by decide +kernel)) h2 h3 (fun ws vs H Q E ⟨i, e, _⟩ => by rw [e]; rfl) (fun _ _ _ us h => by match us, h with | [_, _, _], _ => rfl) ?_
  rintro f A outer s H vs ws Q E hr ⟨⟨dn, di, M, βi, ν, r, h⟩, rfl, ⟨rfl, hk, hn, hi, ne, ok, hν, hrm⟩, hQ⟩
  have nd : (["numbers", "image", "holds", "name", "most"] : List Str).Nodup := by decide +kernel
  refine ⟨_, 
    (pss_cons (ps_dput (hu_of hr) (pv 0) (pv 3) (pe_ifExp (pt_val (pv 2)) (pe_callB (call_min2 rfl) (by rfl) T.f_min (by decide +kernel) (pa_cons (pe_op op_add (pe_dget (hu_of hr) (pv 0) (pv 3) (fun _ _ => rfl)) pe_int) (pa_cons (pv 4) pa_nil))) pe_int) rfl) 
    (pss_cons (ps_dput (hu_of hr) (pv 1) (pv 3) (pe_cmpR op_eq (pe_dget (hu_of hr) (pv 0) (pv 3) (fun _ _ => rfl)) (pv 4) (nomark _)) rfl) pss_nil)), SS.here ?_⟩
  change SS _ _ [some (.ref dn), some (.ref di), some (.bl h), some (.str r.2.name), some (.int r.2.most)] H
  have hk : r.2.kind = 3 := hk
  have hn : H dn = some (.dK (numT M ν)) := hn
  have hi : H di = some (.dK (imgT M βi ν)) := hi
  have ne : dn ≠ di := ne
  have ok : LdrOk M := ok
  have hν : NuOk M.rungs ν := hν
  have hrm : r ∈ M.rungs := hrm
  have hfit : Fit M.rungs r.2.name (ν r.2.name) := hν _
  unfold Fit at hfit
  obtain ⟨ln, li⟩ := tab_lens ok (βi := βi) (ν := ν)
  have hmn : r.2.name ∈ M.names := names_of_rung hrm
  have hget : DGet H dn (.str r.2.name) (some (.int (ν r.2.name))) := dget_tab hn hmn
  have fin : ∀ {n : Int} {b : Bool}, actN r.2 h (ν r.2.name) = n → bit M.rungs (act r.2 h ν) r.2.name = b → ∀ H1, Ex (upd (upd H dn (.dK (putK (numT M ν) (.inr r.2.name) (.int n)))) di (.dK (putK (imgT M βi ν) (.inr r.2.name) (.bl b)))) H1 → Q .non H1 := fun e1 e2 H1 e3 => by
    obtain ⟨m, a1, a2⟩ := two_put hn hi ne ok hrm e1 e2
    exact hQ .non H1 (m.trans (.of e3)) (e3 _ _ a1) (e3 _ _ a2)
  have hi' : ∀ {o : HO}, upd H dn o di = some (.dK (imgT M βi ν)) := by intro o; rw [upd_ne (Ne.symm ne)]; exact hi
  have hc := own_count ok.own hrm (by rw [hk]; decide)
  rw [hc] at hfit
  have hfit : 0 ≤ ν r.2.name ∧ ν r.2.name % 16 ≤ r.2.most ∧ ν r.2.name < (if r.2.kind = 4 then 32 else 16) := hfit
  have ek := ok.ends r hrm
  have m1 := ek.m1
  have m9 := ek.m9
  rw [if_neg (by rw [hk]; decide)] at hfit
  have ha : actN r.2 h (ν r.2.name) = if h then min (ν r.2.name + 1) r.2.most else 0 := by unfold actN; rw [if_neg (by rw [hk]; decide), if_neg (by rw [hk]; decide), if_neg (by rw [hk]; decide), if_pos hk]
  refine ss_dput (kk := .inr r.2.name) (v := .int (actN r.2 h (ν r.2.name))) ?_ (ev_var rfl) (ev_var rfl) hn ln ?_
  · rw [ha]
    cases h with
    | true =>
      refine ev_if (et_B (ev_var rfl)) (fun _ => ev_is (ev_cb (ea_cons (ev_op (ev_dget (ev_var rfl) (ev_var rfl) hget) ev_c rv_I0) (ea_cons (ev_var rfl) ea_nil)) fun H1 e1 Q q => ⟨_, _, rfl, q H1 (.refl _)⟩) ?_) (fun z => nomatch z)
      rw [if_pos rfl]
      split <;> congr 1 <;> omega
    | false => exact ev_if (et_B (ev_var rfl)) (fun z => nomatch z) (fun _ => ev_c)
  have hg2 : DGet (upd H dn (.dK (putK (numT M ν) (.inr r.2.name) (.int (actN r.2 h (ν r.2.name)))))) dn (.str r.2.name) (some (.int (actN r.2 h (ν r.2.name)))) := by
    have := dget_tab (H := upd H dn (.dK (putK (numT M ν) (.inr r.2.name) (.int (actN r.2 h (ν r.2.name)))))) (d := dn) (ks := M.names) (f := fun x => .int (act r.2 h ν x)) (x := r.2.name) (by rw [upd_same, numT_put hmn rfl]; rfl) hmn
    have e : act r.2 h ν r.2.name = actN r.2 h (ν r.2.name) := by unfold act; rw [setN_same]
    rw [e] at this
    exact this
  refine ss_dput (kk := .inr r.2.name) (v := .bl (decide (V.int (actN r.2 h (ν r.2.name)) = V.int r.2.most))) (ev_op (ev_dget (ev_var rfl) (ev_var rfl) hg2) (ev_var rfl) (rv_eq rfl)) (ev_var rfl) (ev_var rfl) hi' li (ss_end fun H1 e1 => fin rfl ?_ H1 e1)
  rw [bit_act_c hc]
  have : actN r.2 h (ν r.2.name) % 16 = actN r.2 h (ν r.2.name) := by
    rw [ha]
    split <;> omega
  rw [this]
  simp only [V.int.injEq]
theorem act1 (T : Tx w K mg base) (cl : List (Str × Addr)) (c : Addr) (h2 : cl.map (·.1) = capA 1) (h3 : (cl.map (·.2)).Nodup) : ClOk w K mg base 1 (Fa 1 cl c) ["numbers", "image", "holds"] (spA 1) := by
  refine clo_st (N := ["numbers", "image", "holds", "name", "most", "count"]) (b := fdB (adef 1)) rfl (csc_by (show cscB ["numbers", "image", "holds", "name", "most", "count"] ["numbers", "image", "holds"] (capA 1) (fdS (adef 1)) = true by decide +kernel)) h2 h3 (fun ws vs H Q E ⟨i, e, _⟩ => by rw [e]; rfl) (fun _ _ _ us h => by match us, h with | [_, _, _], _ => rfl) ?_
  rintro f A outer s H vs ws Q E hr ⟨⟨dn, di, M, βi, ν, r, h⟩, rfl, ⟨rfl, hk, hn, hi, ne, ok, hν, hrm⟩, hQ⟩
  have nd : (["numbers", "image", "holds", "name", "most", "count"] : List Str).Nodup := by decide +kernel
  refine ⟨_, 
    (pss_cons (ps_set (i := 5) nd rfl (Or.inl rfl) (pe_op op_and (pe_dget (hu_of hr) (pv 0) (pv 3) (fun _ _ => rfl)) (pe_globI (by rfl) T.i_COUNT_MASK))) 
    (pss_cons (ps_if (PW.pt (pw_and (pt_val (pv 2)) (pw_and1 (pt_cmpR op_eq (pe_op op_shr (pe_dget (hu_of hr) (pv 0) (pv 3) (fun _ _ => rfl)) (pe_globI (by rfl) T.i_COUNT_BITS_wires)) pe_int (nomark _))))) 
    (pss_cons (ps_set (i := 5) nd rfl (Or.inl rfl) (pe_callB (call_min2 rfl) (by rfl) T.f_min (by decide +kernel) (pa_cons (pe_op op_add (pv 5) pe_int) (pa_cons (pv 4) pa_nil)))) pss_nil) pss_nil) 
    (pss_cons (ps_dput (hu_of hr) (pv 0) (pv 3) (pe_op op_or (pv 5) (pe_op op_shl (pe_callTy call_int1 (by rfl) T.f_int (by decide +kernel) (pa_cons (pv 2) pa_nil)) (pe_globI (by rfl) T.i_COUNT_BITS_wires))) rfl) 
    (pss_cons (ps_dput (hu_of hr) (pv 1) (pv 3) (pe_cmpR op_eq (pv 5) (pv 4) (nomark _)) rfl) pss_nil)))), SS.here ?_⟩
  change SS _ _ [some (.ref dn), some (.ref di), some (.bl h), some (.str r.2.name), some (.int r.2.most), none] H
  have hk : r.2.kind = 4 := hk
  have hn : H dn = some (.dK (numT M ν)) := hn
  have hi : H di = some (.dK (imgT M βi ν)) := hi
  have ne : dn ≠ di := ne
  have ok : LdrOk M := ok
  have hν : NuOk M.rungs ν := hν
  have hrm : r ∈ M.rungs := hrm
  have hfit : Fit M.rungs r.2.name (ν r.2.name) := hν _
  unfold Fit at hfit
  obtain ⟨ln, li⟩ := tab_lens ok (βi := βi) (ν := ν)
  have hmn : r.2.name ∈ M.names := names_of_rung hrm
  have hget : DGet H dn (.str r.2.name) (some (.int (ν r.2.name))) := dget_tab hn hmn
  have fin : ∀ {n : Int} {b : Bool}, actN r.2 h (ν r.2.name) = n → bit M.rungs (act r.2 h ν) r.2.name = b → ∀ H1, Ex (upd (upd H dn (.dK (putK (numT M ν) (.inr r.2.name) (.int n)))) di (.dK (putK (imgT M βi ν) (.inr r.2.name) (.bl b)))) H1 → Q .non H1 := fun e1 e2 H1 e3 => by
    obtain ⟨m, a1, a2⟩ := two_put hn hi ne ok hrm e1 e2
    exact hQ .non H1 (m.trans (.of e3)) (e3 _ _ a1) (e3 _ _ a2)
  have hi' : ∀ {o : HO}, upd H dn o di = some (.dK (imgT M βi ν)) := by intro o; rw [upd_ne (Ne.symm ne)]; exact hi
  have hc := own_count ok.own hrm (by rw [hk]; decide)
  rw [hc] at hfit
  have hfit : 0 ≤ ν r.2.name ∧ ν r.2.name % 16 ≤ r.2.most ∧ ν r.2.name < (if r.2.kind = 4 then 32 else 16) := hfit
  have ek := ok.ends r hrm
  have m1 := ek.m1
  have m9 := ek.m9
  rw [if_pos hk] at hfit
  have ha : actN r.2 h (ν r.2.name) = (if h && decide (ν r.2.name / 16 = 0) then min (ν r.2.name % 16 + 1) r.2.most else ν r.2.name % 16) + 16 * b2n h := by unfold actN; rw [if_neg (by rw [hk]; decide), if_neg (by rw [hk]; decide), if_neg (by rw [hk]; decide), if_neg (by rw [hk]; decide)]
  have last : ∀ (c : Int) (H0 : Hp), Ex H H0 → actN r.2 h (ν r.2.name) = c + 16 * b2n h → 0 ≤ c → c < 16 → SS (tSeq (sDPut (tVar 0) (tVar 3) (tOp (rI0 fun i j => V.int (Builtin.bitOr i j)) (tVar 5) (tOp (rI CPow fun i j => V.int (i * 2 ^ j.toNat)) (tCB (fun xs H Q => (∃ i, xs = [V.int i] ∧ Q (V.int i) H) ∨ ∃ k, xs = [V.bl k] ∧ Q (V.int (if k = true then 1 else 0)) H) (tCons (tVar 2) tNil)) (tC (.int 4))))) (tSeq (sDPut (tVar 1) (tVar 3) (tOp rEq (tVar 5) (tVar 4))) tNext)) { nx := fun _ H' => Q .non H', rt := Q } [some (.ref dn), some (.ref di), some (.bl h), some (.str r.2.name), some (.int r.2.most), some (.int c)] H0 := by
    intro c H0 e0 hc1 c0 c16
    have hb := b2n_range h
    refine SS.mono ?_ e0
    refine ss_dput (kk := .inr r.2.name) (v := .int (c + 16 * b2n h)) (ev_is (ev_op (ev_var rfl) (ev_op (ev_cb (ea_cons (ev_var rfl) ea_nil) rc_intB) ev_c (rv_I ⟨by omega, by omega, by omega⟩)) rv_I0) (congrArg V.int (by rw [show ((4 : Int).toNat) = 4 from rfl, or_shl c0 (by show c < 16; exact c16) hb.1]; show c + b2n h * 16 = _; omega))) (ev_var rfl) (ev_var rfl) hn ln ?_
    refine ss_dput (kk := .inr r.2.name) (v := .bl (decide (V.int c = V.int r.2.most))) (ev_op (ev_var rfl) (ev_var rfl) (rv_eq rfl)) (ev_var rfl) (ev_var rfl) hi' li (ss_end fun H1 e1 => fin hc1 ?_ H1 e1)
    rw [bit_act_c hc, hc1]
    have : (c + 16 * b2n h) % 16 = c := by omega
    rw [this]
    simp only [V.int.injEq]
  refine ss_asg (v := .int (ν r.2.name % 16)) (ev_is (ev_op (ev_dget (ev_var rfl) (ev_var rfl) hget) ev_c rv_I0) (congrArg V.int (PySem.W.kbt_mask _ 4))) ?_
  refine ss_when (b := h && decide (V.int (ν r.2.name / 16) = V.int 0)) (et_and (et_B (ev_var rfl)) fun _ => et_test (ev_op (ev_op (ev_dget (ev_var rfl) (ev_var rfl) hget) ev_c (rv_I (by decide))) ev_c (rv_eq rfl))) (fun hb => ?_) fun hb => ?_
  · simp only [V.int.injEq] at hb
    refine ss_asg (v := .int (min (ν r.2.name % 16 + 1) r.2.most)) (ev_is (ev_cb (ea_cons (ev_op (ev_var rfl) ev_c rv_I0) (ea_cons (ev_var rfl) ea_nil)) fun H1 e1 Q q => ⟨_, _, rfl, q H1 (.refl _)⟩) (by split <;> congr 1 <;> omega)) (ss_end fun H1 e1 => (last _ H1 e1 (by rw [ha, hb]; rfl) (by omega) (by omega)).here)
  · simp only [V.int.injEq] at hb
    exact last _ H (.refl _) (by rw [ha, hb]; rfl) (by omega) (by omega)
theorem act_ok' (T : Tx w K mg base) (j : Nat) (hj : j < 5) (cl : List (Str × Addr)) (c : Addr) (h2 : cl.map (·.1) = capA j) (h3 : (cl.map (·.2)).Nodup) : ClOk w K mg base 1 (Fa j cl c) ["numbers", "image", "holds"] (spA j) := by
  match j, hj with
  | 0, _ => exact act0 T cl c h2 h3
  | 1, _ => exact act1 T cl c h2 h3
  | 2, _ => exact act2 T cl c h2 h3
  | 3, _ => exact act3 T cl c h2 h3
  | 4, _ => exact act4 T cl c h2 h3
end
end RgK
set_option Elab.async false
set_option linter.all false
set_option maxRecDepth 100000
set_option maxHeartbeats 4000000

/-! The makers of what ends do; act_of. -/
namespace RgK
open PySem PySem.Spec PyProof.Rows L2 Evl LamX
local macro_rules | `(tactic| walk_at "ev") => `(tactic| repeat' (first
  | with_reducible exact ev_c
  | with_reducible exact ea_nil
  | ((with_reducible apply ev_var); first | rfl | assumption)
  | with_reducible apply ea_cons
  | with_reducible apply ev_fld
  | ((with_reducible show Fld _ _ _ _ _); assumption)
  | with_reducible exact rv_I0
  | with_reducible exact ru_neg
  | with_reducible exact rv_eq rfl
  | with_reducible exact rv_ne rfl
  | ((with_reducible apply rv_I); first | decide | omega | assumption)
  | ((with_reducible show _ = _ → EvT _ _ _ _); intro _)
  | ((with_reducible show _ = _ → Ev _ _ _ _); intro _)
  | with_reducible apply et_and
  | with_reducible apply et_or
  | with_reducible apply ev_andV
  | with_reducible apply ev_orV
  | with_reducible apply et_test
  | with_reducible apply et_B
  | with_reducible apply et_not
  | with_reducible apply ev_notV
  | with_reducible apply ev_un
  | with_reducible apply ev_op))

/-! ### the tables -/
def sdef : Stmt := nth (defBody s_wired_ladder) 3
def sqn : Str := "wired_ladder" ++ ".<locals>." ++ "stepped"
def mkN : Nat → He.Defn
  | 0 => ("wired", none)
  | 1 => ("timer_act", none)
  | 2 => ("counter_act", none)
  | 3 => ("coil_act", none)
  | 4 => ("latch_act", none)
  | 5 => ("unlatch_act", none)
  | _ => ("wired_ladder", none)
def mkQ : Nat → Str
  | 0 => wq
  | 1 => aq 0
  | 2 => aq 1
  | 3 => aq 2
  | 4 => aq 3
  | 5 => aq 4
  | _ => sqn
theorem mkQ_aq : ∀ {j : Nat}, j < 5 → mkQ (j + 1) = aq j
  | 0, _ => rfl
  | 1, _ => rfl
  | 2, _ => rfl
  | 3, _ => rfl
  | 4, _ => rfl
abbrev tP (K : PySem.W.Frag) (i : Nat) : Addr := (He.cT K (mkN i)).2
def tAll (K : PySem.W.Frag) : List Addr := tf.map fun p => (He.cT K p).2
def Tbs (K : PySem.W.Frag) (H : Hp) : Prop := ∀ i, i < 7 → TabS H (tP K i) (mkQ i)
theorem tP_at {K : PySem.W.Frag} : ∀ {i : Nat}, i < 7 → (tAll K)[i]? = some (tP K i)
  | 0, _ => rfl
  | 1, _ => rfl
  | 2, _ => rfl
  | 3, _ => rfl
  | 4, _ => rfl
  | 5, _ => rfl
  | 6, _ => rfl
theorem tP_mem {K : PySem.W.Frag} {i : Nat} (h : i < 7) : tP K i ∈ tAll K := List.mem_of_getElem? (tP_at h)
theorem mem_tAll {K : PySem.W.Frag} {a : Addr} (h : a ∈ tAll K) : ∃ i, i < 7 ∧ a = tP K i := by
  obtain ⟨i, hi⟩ := List.mem_iff_getElem?.mp h
  have l : i < 7 := (List.getElem?_eq_some_iff.mp hi).1
  rw [tP_at l] at hi
  exact ⟨i, l, (Option.some.inj hi).symm⟩
theorem tP_ne {w : World} {K : PySem.W.Frag} {mg : Mg} {base : Heap} (T : Tx w K mg base) {i j : Nat} (hi : i < 7) (hj : j < 7) (n : i ≠ j) : tP K i ≠ tP K j := fun e => by
  have nd : (tAll K).Nodup := T.own6.1
  obtain ⟨l1, g1⟩ := List.getElem?_eq_some_iff.mp (tP_at (K := K) hi)
  obtain ⟨l2, g2⟩ := List.getElem?_eq_some_iff.mp (tP_at (K := K) hj)
  exact n ((List.getElem_inj nd).mp (g1.trans (e.trans g2.symm)))
theorem TabS.mo {P P' : Addr} {q q' : Str} {H H1 : Hp} (t : TabS H P q) (t' : TabS H P' q') (m : Mo [P] H H1) (n : P' ≠ P) : TabS H1 P' q' := by
  obtain ⟨ps, h, ok, am⟩ := t'
  exact ⟨ps, m _ _ h (fun z => n (List.mem_singleton.mp z)), ok, fun pos cv e => by
    obtain ⟨c, a, b⟩ := am pos cv e
    exact ⟨c, a, m _ _ b (tab_ne t b (by intro ps z; cases z))⟩⟩
theorem Tbs.ex {K : PySem.W.Frag} {H H1 : Hp} (t : Tbs K H) (e : Ex H H1) : Tbs K H1 := fun i hi => (t i hi).ext e
theorem Tbs.mo {w : World} {K : PySem.W.Frag} {mg : Mg} {base : Heap} (T : Tx w K mg base) {i : Nat} {H H1 : Hp} (hi : i < 7) (t : Tbs K H) (m : Mo [tP K i] H H1) (t1 : TabS H1 (tP K i) (mkQ i)) : Tbs K H1 := fun j hj => by
  by_cases e : j = i
  · rw [e]; exact t1
  · exact TabS.mo (t i hi) (t j hj) m (tP_ne T hj hi e)
theorem mo_tAll {K : PySem.W.Frag} {i : Nat} {H H1 : Hp} (hi : i < 7) (m : Mo [tP K i] H H1) : Mo (tAll K) H H1 := m.sub fun x h => by
  rw [List.mem_singleton.mp h]
  exact tP_mem hi
theorem Tbs.kp {K : PySem.W.Frag} {H H1 : Hp} (t : Tbs K H) (m : Mo (tAll K) H H1) : Kp H H1 := Kp.mo m fun d hd o e => by
  obtain ⟨i, hi, rfl⟩ := mem_tAll hd
  obtain ⟨ps, h, _⟩ := t i hi
  rw [h] at e
  cases e
  rfl
theorem Tbs.ne {K : PySem.W.Frag} {H : Hp} {a : Addr} {o : HO} (t : Tbs K H) (e : H a = some o) (n : ∀ ps, o ≠ .tbl ps) : a ∉ tAll K := fun z => by
  obtain ⟨i, hi, rfl⟩ := mem_tAll z
  obtain ⟨ps, h, _⟩ := t i hi
  rw [h] at e
  cases e
  exact n _ rfl
/-- all but tables is kept: what is no table -/
theorem Tbs.at {K : PySem.W.Frag} {H H1 : Hp} {a : Addr} {o : HO} (t : Tbs K H) (m : Mo (tAll K) H H1) (e : H a = some o) (n : ∀ ps, o ≠ .tbl ps) : H1 a = some o := m _ _ e (t.ne e n)
section
variable {D : EndsR} {σ : L2.St} {H : Hp} {tz : TS} {De : Ends}
theorem sr_def {P : Addr} {q : Str} {mk : Addr → CF} {i : Nat} (hi : i < σ.length) (hT : TabS H P q) (k : ∀ (H0 : Hp) (f c' : Addr) (H1 : Hp), Ex H H0 → Mo [P] H0 H1 → TabS H1 P q → H0 f = none → H1 f = some (FnC f (mk c')) → H1 c' = some (CodeO c' q) → D.rt (.ref f) (σ.set i (some (.ref f))) H1) :
    SR (rCons (tAsg (tMade P q mk) (gName i)) (rRet (tVar i))) D σ H :=
  fun H0 e0 => ⟨hT.ext e0, fun f c' H1 m t n e1 e2 => ⟨.ref f, by rw [List.getElem?_set_self hi], k H0 f c' H1 e0 m t n e1 e2⟩⟩
theorem ss_retFn {C : Sp → Prop} {E : L2.St → XK} {tr : TA} {vs : List V} {sp : Sp} {P : Hp → V → Hp → Prop} (ha : EvA tr σ H vs) (c : C sp) (h : ∀ H1, Ex H H1 → ∀ Q : VK, (∀ v H2, P H1 v H2 → Q v H2) → sp vs H1 Q (E σ)) (k : ∀ H1 v H2, Ex H H1 → P H1 v H2 → De.rt v H2) : SS (tSeq (tRet (tFn C E tr)) tz) De σ H :=
  fun H1 e1 => ha H1 e1 _ fun H2 e2 => ⟨sp, c, h H2 (e1.trans e2) _ fun v H3 p => k H2 v H3 (e1.trans e2) p⟩
end
/-! ### an act -/
def ActAt (H : Hp) (g : Addr) (e : EndV) : Prop := ∃ j cl c, j < 5 ∧ e.kind = akind j ∧ cl.map (·.1) = capA j ∧ (cl.map (·.2)).Nodup ∧ CloAt H g (Fa j cl c) (aws j e)
theorem ActAt.kp {H H' : Hp} {g : Addr} {e : EndV} (h : ActAt H g e) (k : Kp H H') : ActAt H' g e := let ⟨j, cl, c, h1, h2, h3, h4, h5⟩ := h; ⟨j, cl, c, h1, h2, h3, h4, h5.kp k⟩
def spAM (K : PySem.W.Frag) (j : Nat) : Sp := fun vs H Q _ => ∃ e : EndV, vs = aws j e ∧ (e.kind = akind j ∧ TabS H (tP K (j + 1)) (aq j)) ∧ ∀ v H2, Mo [tP K (j + 1)] H H2 → TabS H2 (tP K (j + 1)) (aq j) → (∃ g, v = .ref g ∧ ActAt H2 g e) → Q v H2
section
variable {w : World} {K : PySem.W.Frag} {mg : Mg} {base : Heap} {k : Nat}
theorem c_timer_act (T : Tx w K mg base) (B : Tb K mg base) : Cal PG w K mg base 1 "timer_act" (spAM K 0) := by
  have TB := B (mkN 1) (by decide +kernel)
  refine cal_of (mkr (p := mkN 1) (N := ["name", "most", "act"]) (ps := ["name", "most"]) T.d_timer_act (by decide +kernel) (by decide +kernel) (fun vs H Q E ⟨_, he, _⟩ => by rw [he]; rfl) (fun _ _ _ _ _ _ us h => by match us, h with | [_, _], _ => rfl) ?_) T.g_timer_act
  rintro A outer s H vs Q E hr ⟨e, rfl, ⟨hk, hT⟩, hQ⟩
  have hT : TabS H (tP K 1) (aq 0) := hT
  have nd : (["name", "most", "act"] : List Str).Nodup := by decide +kernel
  refine ⟨_, 
    (pr_cons (ps_fdef (i := 2) TB rfl rfl rfl rfl rfl (NdefX.ndef_free (sc := defScope s_timer_act) (fr := []) (by decide +kernel)) nd rfl rfl) 
    (pr_ret (pv 2))), SR.here ?_⟩
  refine sr_def (by simp [L2.start, aws]) hT fun H0 f c' H1 e0 m t n hf hc => ?_
  rintro H2 ⟨ex, tr, nn⟩
  have hf2 : H1 f = some (FnC f (Fa 0 ([("name", s.heap.objs.size + 1), ("most", s.heap.objs.size + 1 + 1)] : List (Str × Addr)) c')) := hf
  have k0 := tr 0 "name" (s.heap.objs.size + 1) (.str e.name) rfl rfl (by decide +kernel) rfl
  have k1 := tr 1 "most" (s.heap.objs.size + 1 + 1) (.int e.most) rfl rfl (by decide +kernel) rfl
  have ca : CloAt H2 f (Fa 0 ([("name", s.heap.objs.size + 1), ("most", s.heap.objs.size + 1 + 1)] : List (Str × Addr)) c') (aws 0 e) := ⟨ex _ _ hf2, ex _ _ hc, .cons k0 (.cons k1 .nil)⟩
  have aa : ActAt H2 f e := ⟨0, ([("name", s.heap.objs.size + 1), ("most", s.heap.objs.size + 1 + 1)] : List (Str × Addr)), c', by decide, hk, rfl, by simp, ca⟩
  exact hQ (.ref f) H2 ((Mo.of e0).trans (m.trans (.of ex))) (t.ext ex) ⟨f, rfl, aa⟩
theorem c_counter_act (T : Tx w K mg base) (B : Tb K mg base) : Cal PG w K mg base 1 "counter_act" (spAM K 1) := by
  have TB := B (mkN 2) (by decide +kernel)
  refine cal_of (mkr (p := mkN 2) (N := ["name", "most", "act"]) (ps := ["name", "most"]) T.d_counter_act (by decide +kernel) (by decide +kernel) (fun vs H Q E ⟨_, he, _⟩ => by rw [he]; rfl) (fun _ _ _ _ _ _ us h => by match us, h with | [_, _], _ => rfl) ?_) T.g_counter_act
  rintro A outer s H vs Q E hr ⟨e, rfl, ⟨hk, hT⟩, hQ⟩
  have hT : TabS H (tP K 2) (aq 1) := hT
  have nd : (["name", "most", "act"] : List Str).Nodup := by decide +kernel
  refine ⟨_, 
    (pr_cons (ps_fdef (i := 2) TB rfl rfl rfl rfl rfl (NdefX.ndef_free (sc := defScope s_counter_act) (fr := []) (by decide +kernel)) nd rfl rfl) 
    (pr_ret (pv 2))), SR.here ?_⟩
  refine sr_def (by simp [L2.start, aws]) hT fun H0 f c' H1 e0 m t n hf hc => ?_
  rintro H2 ⟨ex, tr, nn⟩
  have hf2 : H1 f = some (FnC f (Fa 1 ([("name", s.heap.objs.size + 1), ("most", s.heap.objs.size + 1 + 1)] : List (Str × Addr)) c')) := hf
  have k0 := tr 0 "name" (s.heap.objs.size + 1) (.str e.name) rfl rfl (by decide +kernel) rfl
  have k1 := tr 1 "most" (s.heap.objs.size + 1 + 1) (.int e.most) rfl rfl (by decide +kernel) rfl
  have ca : CloAt H2 f (Fa 1 ([("name", s.heap.objs.size + 1), ("most", s.heap.objs.size + 1 + 1)] : List (Str × Addr)) c') (aws 1 e) := ⟨ex _ _ hf2, ex _ _ hc, .cons k0 (.cons k1 .nil)⟩
  have aa : ActAt H2 f e := ⟨1, ([("name", s.heap.objs.size + 1), ("most", s.heap.objs.size + 1 + 1)] : List (Str × Addr)), c', by decide, hk, rfl, by simp, ca⟩
  exact hQ (.ref f) H2 ((Mo.of e0).trans (m.trans (.of ex))) (t.ext ex) ⟨f, rfl, aa⟩
theorem c_coil_act (T : Tx w K mg base) (B : Tb K mg base) : Cal PG w K mg base 1 "coil_act" (spAM K 2) := by
  have TB := B (mkN 3) (by decide +kernel)
  refine cal_of (mkr (p := mkN 3) (N := ["name", "act"]) (ps := ["name"]) T.d_coil_act (by decide +kernel) (by decide +kernel) (fun vs H Q E ⟨_, he, _⟩ => by rw [he]; rfl) (fun _ _ _ _ _ _ us h => by match us, h with | [_], _ => rfl) ?_) T.g_coil_act
  rintro A outer s H vs Q E hr ⟨e, rfl, ⟨hk, hT⟩, hQ⟩
  have hT : TabS H (tP K 3) (aq 2) := hT
  have nd : (["name", "act"] : List Str).Nodup := by decide +kernel
  refine ⟨_, 
    (pr_cons (ps_fdef (i := 1) TB rfl rfl rfl rfl rfl (NdefX.ndef_free (sc := defScope s_coil_act) (fr := []) (by decide +kernel)) nd rfl rfl) 
    (pr_ret (pv 1))), SR.here ?_⟩
  refine sr_def (by simp [L2.start, aws]) hT fun H0 f c' H1 e0 m t n hf hc => ?_
  rintro H2 ⟨ex, tr, nn⟩
  have hf2 : H1 f = some (FnC f (Fa 2 ([("name", s.heap.objs.size + 1)] : List (Str × Addr)) c')) := hf
  have k0 := tr 0 "name" (s.heap.objs.size + 1) (.str e.name) rfl rfl (by decide +kernel) rfl
  have ca : CloAt H2 f (Fa 2 ([("name", s.heap.objs.size + 1)] : List (Str × Addr)) c') (aws 2 e) := ⟨ex _ _ hf2, ex _ _ hc, .cons k0 .nil⟩
  have aa : ActAt H2 f e := ⟨2, ([("name", s.heap.objs.size + 1)] : List (Str × Addr)), c', by decide, hk, rfl, by simp, ca⟩
  exact hQ (.ref f) H2 ((Mo.of e0).trans (m.trans (.of ex))) (t.ext ex) ⟨f, rfl, aa⟩
theorem c_latch_act (T : Tx w K mg base) (B : Tb K mg base) : Cal PG w K mg base 1 "latch_act" (spAM K 3) := by
  have TB := B (mkN 4) (by decide +kernel)
  refine cal_of (mkr (p := mkN 4) (N := ["name", "act"]) (ps := ["name"]) T.d_latch_act (by decide +kernel) (by decide +kernel) (fun vs H Q E ⟨_, he, _⟩ => by rw [he]; rfl) (fun _ _ _ _ _ _ us h => by match us, h with | [_], _ => rfl) ?_) T.g_latch_act
  rintro A outer s H vs Q E hr ⟨e, rfl, ⟨hk, hT⟩, hQ⟩
  have hT : TabS H (tP K 4) (aq 3) := hT
  have nd : (["name", "act"] : List Str).Nodup := by decide +kernel
  refine ⟨_, 
    (pr_cons (ps_fdef (i := 1) TB rfl rfl rfl rfl rfl (NdefX.ndef_free (sc := defScope s_latch_act) (fr := []) (by decide +kernel)) nd rfl rfl) 
    (pr_ret (pv 1))), SR.here ?_⟩
  refine sr_def (by simp [L2.start, aws]) hT fun H0 f c' H1 e0 m t n hf hc => ?_
  rintro H2 ⟨ex, tr, nn⟩
  have hf2 : H1 f = some (FnC f (Fa 3 ([("name", s.heap.objs.size + 1)] : List (Str × Addr)) c')) := hf
  have k0 := tr 0 "name" (s.heap.objs.size + 1) (.str e.name) rfl rfl (by decide +kernel) rfl
  have ca : CloAt H2 f (Fa 3 ([("name", s.heap.objs.size + 1)] : List (Str × Addr)) c') (aws 3 e) := ⟨ex _ _ hf2, ex _ _ hc, .cons k0 .nil⟩
  have aa : ActAt H2 f e := ⟨3, ([("name", s.heap.objs.size + 1)] : List (Str × Addr)), c', by decide, hk, rfl, by simp, ca⟩
  exact hQ (.ref f) H2 ((Mo.of e0).trans (m.trans (.of ex))) (t.ext ex) ⟨f, rfl, aa⟩
theorem c_unlatch_act (T : Tx w K mg base) (B : Tb K mg base) : Cal PG w K mg base 1 "unlatch_act" (spAM K 4) := by
  have TB := B (mkN 5) (by decide +kernel)
  refine cal_of (mkr (p := mkN 5) (N := ["name", "act"]) (ps := ["name"]) T.d_unlatch_act (by decide +kernel) (by decide +kernel) (fun vs H Q E ⟨_, he, _⟩ => by rw [he]; rfl) (fun _ _ _ _ _ _ us h => by match us, h with | [_], _ => rfl) ?_) T.g_unlatch_act
  rintro A outer s H vs Q E hr ⟨e, rfl, ⟨hk, hT⟩, hQ⟩
  have hT : TabS H (tP K 5) (aq 4) := hT
  have nd : (["name", "act"] : List Str).Nodup := by decide +kernel
  refine ⟨_, 
    (pr_cons (ps_fdef (i := 1) TB rfl rfl rfl rfl rfl (NdefX.ndef_free (sc := defScope s_unlatch_act) (fr := []) (by decide +kernel)) nd rfl rfl) 
    (pr_ret (pv 1))), SR.here ?_⟩
  refine sr_def (by simp [L2.start, aws]) hT fun H0 f c' H1 e0 m t n hf hc => ?_
  rintro H2 ⟨ex, tr, nn⟩
  have hf2 : H1 f = some (FnC f (Fa 4 ([("name", s.heap.objs.size + 1)] : List (Str × Addr)) c')) := hf
  have k0 := tr 0 "name" (s.heap.objs.size + 1) (.str e.name) rfl rfl (by decide +kernel) rfl
  have ca : CloAt H2 f (Fa 4 ([("name", s.heap.objs.size + 1)] : List (Str × Addr)) c') (aws 4 e) := ⟨ex _ _ hf2, ex _ _ hc, .cons k0 .nil⟩
  have aa : ActAt H2 f e := ⟨4, ([("name", s.heap.objs.size + 1)] : List (Str × Addr)), c', by decide, hk, rfl, by simp, ca⟩
  exact hQ (.ref f) H2 ((Mo.of e0).trans (m.trans (.of ex))) (t.ext ex) ⟨f, rfl, aa⟩
structure EArg where
  q : Addr
  e : EndV
def spActOf (K : PySem.W.Frag) : Sp := fun vs H Q _ => ∃ i : EArg, vs = [.ref i.q] ∧ (EndAt K H i.q i.e ∧ Tbs K H) ∧ ∀ v H2, Mo (tAll K) H H2 → Tbs K H2 → (∃ g, v = .ref g ∧ ActAt H2 g i.e) → Q v H2
theorem c_act_of (T : Tx w K mg base) (B : Tb K mg base) : Cal PG w K mg base 2 "act_of" (spActOf K) := by
  refine cal_of (fnd ["end"] ["end"] T.d_act_of (by decide +kernel) (fun vs H Q E ⟨_, e, _⟩ => by rw [e]; rfl) (fun _ _ _ _ _ _ us h => by match us, h with | [_], _ => rfl) ?_) T.g_act_of
  rintro cdv A outer s H vs Q E hr ⟨⟨q, e⟩, rfl, ⟨hE, hT⟩, hQ⟩
  have hE : EndAt K H q e := hE
  have hk := hE.1
  have nd : (["end"] : List Str).Nodup := by decide +kernel
  refine ⟨_, 
    (pss_cons (ps_if (pt_val (pe_callB call_isi (by rfl) T.f_isinstance (by decide +kernel) (pa_cons (pv 0) (pa_cons (pe_globR (by rfl) T.g_Timer) pa_nil)))) 
    (pss_cons (ps_ret (pe_fn T hr (by rfl) T.g_timer_act pass0 T.kp_timer_act (pa_cons (pe_fldT T (pv 0)) (pa_cons (pe_fldT T (pv 0)) pa_nil)))) pss_nil) pss_nil) 
    (pss_cons (ps_if (pt_val (pe_callB call_isi (by rfl) T.f_isinstance (by decide +kernel) (pa_cons (pv 0) (pa_cons (pe_globR (by rfl) T.g_Counter) pa_nil)))) 
    (pss_cons (ps_ret (pe_fn T hr (by rfl) T.g_counter_act pass0 T.kp_counter_act (pa_cons (pe_fldT T (pv 0)) (pa_cons (pe_fldT T (pv 0)) pa_nil)))) pss_nil) pss_nil) 
    (pss_cons (ps_if (pt_val (pe_callB call_isi (by rfl) T.f_isinstance (by decide +kernel) (pa_cons (pv 0) (pa_cons (pe_globR (by rfl) T.g_Coil) pa_nil)))) 
    (pss_cons (ps_ret (pe_fn T hr (by rfl) T.g_coil_act pass0 T.kp_coil_act (pa_cons (pe_fldT T (pv 0)) pa_nil))) pss_nil) pss_nil) 
    (pss_cons (ps_if (pt_val (pe_callB call_isi (by rfl) T.f_isinstance (by decide +kernel) (pa_cons (pv 0) (pa_cons (pe_globR (by rfl) T.g_Latch) pa_nil)))) 
    (pss_cons (ps_ret (pe_fn T hr (by rfl) T.g_latch_act pass0 T.kp_latch_act (pa_cons (pe_fldT T (pv 0)) pa_nil))) pss_nil) pss_nil) 
    (pss_cons (ps_ret (pe_fn T hr (by rfl) T.g_unlatch_act pass0 T.kp_unlatch_act (pa_cons (pe_fldT T (pv 0)) pa_nil))) pss_nil))))), SS.here ?_⟩
  have tst : ∀ j, j < 6 → EvT (tB (tCB (rIsi K) (tCons (tVar 0) (tCons (tC (.ref (He.ga K (icls j)))) tNil)))) [some (.ref q)] H (isK e.kind j) := fun j hj => et_B (ev_cb (ea_cons (ev_var rfl) (ea_cons ev_c ea_nil)) (rc_end T hE j hj))
  have nm := hE.name T
  have last : ∀ (j : Nat) (tr : TA) (x : Str), j < 5 → e.kind = akind j → Cal PG w K mg base 1 x (spAM K j) → EvA tr [some (.ref q)] H (aws j e) → ∀ (E : L2.St → XK) (tz : TS) (De : Ends), De.rt = Q → SS (tSeq (tRet (tFn (Cal PG w K mg base 1 x) E tr)) tz) De [some (.ref q)] H := fun j tr x hj hkj c ha E tz De hD => by
    refine ss_retFn (P := fun F1 v F2 => Mo [tP K (j + 1)] F1 F2 ∧ TabS F2 (tP K (j + 1)) (aq j) ∧ ∃ g, v = .ref g ∧ ActAt F2 g e) ha c (fun H1 e1 Q' q' => ⟨e, rfl, ⟨hkj, ?_⟩, fun v H2 a1 a2 a3 => q' v H2 ⟨a1, a2, a3⟩⟩) fun H1 v H2 e1 ⟨a1, a2, a3⟩ => ?_
    · rw [← mkQ_aq hj]
      exact hT.ex e1 (j + 1) (by omega)
    · rw [hD]
      refine hQ v H2 ((Mo.of e1).trans (mo_tAll (by omega) a1)) ?_ a3
      refine Tbs.mo T (i := j + 1) (by omega) (hT.ex e1) a1 ?_
      rw [mkQ_aq hj]
      exact a2
  refine ss_when (tst 3 (by decide)) (fun hb => ?_) fun hb3 => ?_
  · have h3 : e.kind = 3 := by
      revert hb; unfold isK; intro hb
      simpa using hb
    exact last 0 _ _ (by decide) h3 (c_timer_act T B) (ea_cons (ev_fld (ev_var rfl) nm) (ea_cons (ev_fld (ev_var rfl) (hE.most T (by omega))) ea_nil)) _ _ _ rfl
  refine ss_when (tst 4 (by decide)) (fun hb => ?_) fun hb4 => ?_
  · have h3 : e.kind = 4 := by
      revert hb; unfold isK; intro hb
      simpa using hb
    exact last 1 _ _ (by decide) h3 (c_counter_act T B) (ea_cons (ev_fld (ev_var rfl) nm) (ea_cons (ev_fld (ev_var rfl) (hE.most T (by omega))) ea_nil)) _ _ _ rfl
  refine ss_when (tst 0 (by decide)) (fun hb => ?_) fun hb0 => ?_
  · have h3 : e.kind = 0 := by
      revert hb; unfold isK; intro hb
      simpa using hb
    exact last 2 _ _ (by decide) h3 (c_coil_act T B) (ea_cons (ev_fld (ev_var rfl) nm) ea_nil) _ _ _ rfl
  refine ss_when (tst 1 (by decide)) (fun hb => ?_) fun hb1 => ?_
  · have h3 : e.kind = 1 := by
      revert hb; unfold isK; intro hb
      simpa using hb
    exact last 3 _ _ (by decide) h3 (c_latch_act T B) (ea_cons (ev_fld (ev_var rfl) nm) ea_nil) _ _ _ rfl
  have h2 : e.kind = 2 := by
    revert hb3 hb4 hb0 hb1
    unfold isK
    intro hb3 hb4 hb0 hb1
    simp at hb3 hb4 hb0 hb1
    omega
  exact last 4 _ _ (by decide) h2 (c_unlatch_act T B) (ea_cons (ev_fld (ev_var rfl) nm) ea_nil) _ _ _ rfl
end
end RgK
set_option Elab.async false
set_option linter.all false
set_option maxRecDepth 100000
set_option maxHeartbeats 4000000

/-! Sizes, numbers in a state, packed; truths as a number. -/
namespace RgK
open PySem PySem.Spec PyProof.Rows L2 Evl LamX
local macro_rules | `(tactic| walk_at "ev") => `(tactic| repeat' (first
  | with_reducible exact ev_c
  | with_reducible exact ea_nil
  | ((with_reducible apply ev_var); first | rfl | assumption)
  | with_reducible apply ea_cons
  | with_reducible apply ev_fld
  | ((with_reducible show Fld _ _ _ _ _); assumption)
  | with_reducible exact rv_I0
  | with_reducible exact ru_neg
  | with_reducible exact rv_eq rfl
  | with_reducible exact rv_ne rfl
  | ((with_reducible apply rv_I); first | decide | omega | assumption)
  | ((with_reducible show _ = _ → EvT _ _ _ _); intro _)
  | ((with_reducible show _ = _ → Ev _ _ _ _); intro _)
  | with_reducible apply et_and
  | with_reducible apply et_or
  | with_reducible apply ev_andV
  | with_reducible apply ev_orV
  | with_reducible apply et_test
  | with_reducible apply et_B
  | with_reducible apply et_not
  | with_reducible apply ev_notV
  | with_reducible apply ev_un
  | with_reducible apply ev_op))

theorem cEnd_snoc (rs : List RungV) (r : RungV) (x : Str) : cEnd (rs ++ [r]) x = match cEnd rs x with | some e => some e | none => if 3 ≤ r.2.kind ∧ r.2.name = x then some r.2 else none := by
  unfold cEnd
  rw [List.find?_append]
  cases h : rs.find? fun r => decide (3 ≤ r.2.kind) && decide (r.2.name = x) with
  | some e => rfl
  | none =>
    show (List.find? (fun r => decide (3 ≤ r.2.kind) && decide (r.2.name = x)) [r]).map (·.2) = if 3 ≤ r.2.kind ∧ r.2.name = x then some r.2 else none
    by_cases c : 3 ≤ r.2.kind ∧ r.2.name = x
    · rw [if_pos c, List.find?_cons_of_pos (by simp [c])]; rfl
    · rw [if_neg c, List.find?_cons_of_neg (by simpa using c)]; rfl
theorem wd_snoc {all rs : List RungV} (o : OwnOk all) {r : RungV} (hs : ∀ q ∈ rs, q ∈ all) (hr : r ∈ all) (x : Str) : wd (rs ++ [r]) x = if 3 ≤ r.2.kind ∧ r.2.name = x then (if r.2.kind = 4 then 5 else 4) else wd rs x := by
  have key : cEnd (rs ++ [r]) x = if 3 ≤ r.2.kind ∧ r.2.name = x then some r.2 else cEnd rs x := by
    rw [cEnd_snoc]
    cases h : cEnd rs x with
    | none => rfl
    | some e =>
      obtain ⟨k', n', r', hr', er⟩ := cEnd_some h
      show some e = if 3 ≤ r.2.kind ∧ r.2.name = x then some r.2 else some e
      by_cases c : 3 ≤ r.2.kind ∧ r.2.name = x
      · rw [if_pos c]
        have := own_one o (hs r' hr') hr (by rw [er]; exact k') (by omega) (by rw [er, n', c.2])
        rw [this, er]
      · rw [if_neg c]
  unfold wd
  rw [key]
  by_cases c : 3 ≤ r.2.kind ∧ r.2.name = x
  · rw [if_pos c, if_pos c]
  · rw [if_neg c, if_neg c]
theorem wd_nil (x : Str) : wd [] x = 1 := rfl
theorem wd5 (rs : List RungV) (x : Str) : wd rs x ≤ 5 := by
  unfold wd
  split
  · omega
  · split <;> omega
def wsT (M : Ldr) : List (Key × V) := tab M.names fun x => .int (wd M.rungs x : Nat)
theorem mo_back {d : Addr} {o : HO} {H F : Hp} (m : Mo [d] H F) (h : H d = some o) : Ex H (upd F d o) := fun a u e => by
  by_cases z : a = d
  · rw [z, upd_same]; rw [z, h] at e; exact e
  · rw [upd_ne z]; exact m _ _ e fun q => z (List.mem_singleton.mp q)
theorem mo_lock {d : Addr} {o : HO} {H H1 : Hp} (e : Ex H H1) : Mo [d] H (upd H1 d o) := (Mo.of e).put (by simp)
section
variable {w : World} {K : PySem.W.Frag} {mg : Mg} {base : Heap} {k : Nat}
def spSizes (K : PySem.W.Frag) : Sp := spP (ι := LArg) (fun i => [.ref i.a]) (fun i H => LadderAt K H i.n i.a i.M ∧ LdrOk i.M) (fun i H v H2 => NewD H (wsT i.M) v H2)
theorem c_sizes_of (T : Tx w K mg base) : Cal PG w K mg base 2 "sizes_of" (spSizes K) := by
  refine cal_of (fnd ["ladder", "sizes", "name", "rung"] ["ladder"] T.d_sizes_of (by decide +kernel) (spP_len fun _ => rfl) (fun _ _ _ _ _ _ us h => by match us, h with | [_], _ => rfl) ?_) T.g_sizes_of
  rintro cdv A outer s H vs Q E hr ⟨⟨n, a, M⟩, rfl, ⟨hL, ok⟩, hQ⟩
  have hL : LadderAt K H n a M := hL
  have ok : LdrOk M := ok
  have nd : (["ladder", "sizes", "name", "rung"] : List Str).Nodup := by decide +kernel
  refine ⟨_, 
    (pss_cons (ps_set (i := 1) nd rfl (Or.inl rfl) pe_dnewK) 
    (pss_cons (ps_for (passes_of rfl) rfl (pi_seq (pe_me0 T hr pass0 (pv 0))) (pg_name (i := 2) nd rfl (Or.inl rfl)) 
    (pss_cons (ps_dput (hu_of hr) (pv 1) (pv 2) pe_int rfl) pss_nil)) 
    (pss_cons (ps_for (passes_of rfl) rfl (pi_seq (pe_fldT T (pv 0))) (pg_name (i := 3) nd rfl (Or.inl rfl)) 
    (pss_cons (ps_if (pt_val (pe_callB call_isi (by rfl) T.f_isinstance (by decide +kernel) (pa_cons (pe_fldT T (pv 3)) (pa_cons (pe_globR (by rfl) T.g_Timer) pa_nil)))) 
    (pss_cons (ps_dput (hu_of hr) (pv 1) (pe_fldT T (pe_fldT T (pv 3))) (pe_globI (by rfl) T.i_COUNT_BITS_wires) rfl) pss_nil) 
    (pss_cons (ps_if (pt_val (pe_callB call_isi (by rfl) T.f_isinstance (by decide +kernel) (pa_cons (pe_fldT T (pv 3)) (pa_cons (pe_globR (by rfl) T.g_Counter) pa_nil)))) 
    (pss_cons (ps_dput (hu_of hr) (pv 1) (pe_fldT T (pe_fldT T (pv 3))) (pe_op op_add (pe_globI (by rfl) T.i_COUNT_BITS_wires) pe_int) rfl) pss_nil) pss_nil) pss_nil)) pss_nil)) 
    (pss_cons (ps_ret (pv 1)) pss_nil)))), SS.here ?_⟩
  have nl := ok.nl
  have hnd := namesOf_nodup M.rungs
  refine ss_asgR er_dnew fun v H1 e1 ⟨d, ev, hd0, hd1⟩ => ?_
  subst ev
  refine ss_forNT (ev_written T (ev_var rfl) (hL.im (.of e1))) (fun t i σ' F => (∃ o2 o3, σ' = [some (.ref a), some (.ref d), o2, o3]) ∧ Ex H F ∧ F t = some (.tup (M.names.map V.str)) ∧ F d = some (.dK (tab (M.names.take i) fun _ => .int 1))) (fun t H2 e2 _ ht => ⟨⟨_, _, rfl⟩, e1.trans e2, ht, e2 _ _ hd1⟩) (fun t i σ' F _ ⟨_, _, ht, _⟩ => ht) ?_ ?_
  · rintro t i x σ' F hx ⟨⟨o2, o3, rfl⟩, e, ht, hd⟩
    rw [List.getElem?_map] at hx
    obtain ⟨y, hy, rfl⟩ := Option.map_eq_some_iff.mp hx
    refine ss_dput (kk := .inr y) (v := .int 1) ev_c (ev_var rfl) (ev_var rfl) hd (by rw [tab_len, List.length_take]; omega) (ss_end fun H2 e2 => ⟨⟨_, _, rfl⟩, (e.mut hd0).trans e2, e2 _ _ (by rw [upd_ne (fun z => by rw [z, hd] at ht; cases ht)]; exact ht), ?_⟩)
    rw [e2 _ _ upd_same, tab_put (nodup_take hnd hy) (fun _ _ => rfl) rfl, take_snoc hy]
  rintro t σ' F ⟨⟨o2, o3, rfl⟩, e, ht, hd⟩
  rw [List.length_map, List.take_length] at hd
  refine SS.here ?_
  obtain ⟨tr, rs, fr, htr, hrs⟩ := hL.fr T
  refine ss_forSq (k := false) (ev_fld (ev_var rfl) (fr.ex e)) (.of (e _ _ htr)) (fun i σ' F => (∃ o2 o3, σ' = [some (.ref a), some (.ref d), o2, o3]) ∧ Ex H F ∧ F d = some (.dK (tab M.names fun x => .int (wd (M.rungs.take i) x : Nat)))) (fun F1 f1 => ⟨⟨_, _, rfl⟩, e.trans f1, f1 _ _ hd⟩) (fun i σ' F _ ⟨_, e, _⟩ => .of (e _ _ htr)) ?_ ?_
  · rintro i x σ' F hx ⟨⟨o2, o3, rfl⟩, e, hd⟩
    obtain ⟨ra, r, rfl, hri, hra⟩ := paired_at hrs hx
    have hrm : r ∈ M.rungs := List.mem_of_getElem? hri
    have hk := (ok.ends r hrm).k
    have hnm := names_of_rung hrm
    obtain ⟨q, fq, hq⟩ := (hra.im (.of e)).end_ T
    have hsn : ∀ x, wd (M.rungs.take (i + 1)) x = if 3 ≤ r.2.kind ∧ r.2.name = x then (if r.2.kind = 4 then 5 else 4) else wd (M.rungs.take i) x := fun x => by
      rw [take_snoc hri]
      exact wd_snoc ok.own (fun q hq => List.mem_of_mem_take hq) hrm x
    have put : ∀ (n : Int), 3 ≤ r.2.kind → n = (if r.2.kind = 4 then (5 : Int) else 4) → ∀ F2, Ex (upd F d (.dK (putK (tab M.names fun x => .int (wd (M.rungs.take i) x : Nat)) (.inr r.2.name) (.int n)))) F2 → Ex H F2 ∧ F2 d = some (.dK (tab M.names fun x => .int (wd (M.rungs.take (i + 1)) x : Nat))) := fun n h3 hn F2 f2 => by
      refine ⟨(e.mut hd0).trans f2, ?_⟩
      rw [f2 _ _ upd_same]
      refine congrArg (fun z => some (HO.dK z)) (tab_set hnm (fun x _ ne => ?_) ?_)
      · rw [hsn, if_neg (fun z => ne z.2.symm)]
      · rw [hsn, if_pos ⟨h3, rfl⟩, hn]
        split <;> rfl
    refine ss_if (et_B (ev_cb (ea_cons (ev_fld (ev_var rfl) fq) (ea_cons ev_c ea_nil)) (rc_end T hq 3 (by decide)))) (fun hb => ?_) fun hb => ?_
    · have h3 : r.2.kind = 3 := by
        revert hb; unfold isK; intro hb
        simpa using hb
      refine ss_dput (kk := .inr r.2.name) (v := .int 4) ev_c (ev_var rfl) (ev_fld (ev_fld (ev_var rfl) fq) (hq.name T)) hd (by rw [tab_len]; omega) (ss_end fun H2 e2 => ?_)
      obtain ⟨g1, g2⟩ := put 4 (by omega) (by rw [if_neg (by omega)]) H2 e2
      exact (ss_end (D := { nx := fun σ' F => (∃ o2 o3, σ' = [some (.ref a), some (.ref d), o2, o3]) ∧ Ex H F ∧ F d = some (.dK (tab M.names fun x => .int (wd (M.rungs.take (i + 1)) x : Nat))), rt := Q }) (σ := [some (.ref a), some (.ref d), o2, some (.ref ra)]) fun F3 f3 => ⟨⟨_, _, rfl⟩, g1.trans f3, f3 _ _ g2⟩) H2 (.refl _)
    · have h3 : r.2.kind ≠ 3 := by
        revert hb; unfold isK; intro hb
        simpa using hb
      refine ss_when (et_B (ev_cb (ea_cons (ev_fld (ev_var rfl) fq) (ea_cons ev_c ea_nil)) (rc_end T hq 4 (by decide)))) (fun hb => ?_) fun hb => ?_
      · have h4 : r.2.kind = 4 := by
          revert hb; unfold isK; intro hb
          simpa using hb
        refine ss_dput (kk := .inr r.2.name) (v := .int 5) (ev_is (ev_op ev_c ev_c rv_I0) rfl) (ev_var rfl) (ev_fld (ev_fld (ev_var rfl) fq) (hq.name T)) hd (by rw [tab_len]; omega) (ss_end fun H2 e2 => ?_)
        obtain ⟨g1, g2⟩ := put 5 (by omega) (by rw [if_pos h4]) H2 e2
        exact ⟨⟨_, _, rfl⟩, g1, g2⟩
      · have h4 : r.2.kind ≠ 4 := by
          revert hb; unfold isK; intro hb
          simpa using hb
        refine ss_end fun H2 e2 => ⟨⟨_, _, rfl⟩, e.trans e2, ?_⟩
        rw [e2 _ _ hd]
        exact congrArg (fun z => some (HO.dK z)) (tab_congr fun x _ => by rw [hsn, if_neg (fun z => by omega)])
  · rintro σ' F ⟨⟨o2, o3, rfl⟩, e, hd⟩
    rw [List.length_map, paired_len hrs, List.take_length] at hd
    exact SS.here (ss_ret (ev_var rfl) fun H2 e2 => hQ _ H2 (e.trans e2) ⟨d, rfl, hd0, e2 _ _ hd⟩)
structure NIArg where
  d : Addr
  M : Ldr
  s : Int
def spNumsIn : Sp := spP (ι := NIArg) (fun i => [.ref i.d, .int i.s]) (fun i H => H i.d = some (.dK (wsT i.M)) ∧ LdrOk i.M) (fun i H v H2 => NewD H (numT i.M (nuOf i.M i.s)) v H2)
theorem wsT_at {M : Ldr} {i : Nat} {k : Key} {x : V} (h : (wsT M)[i]? = some (k, x)) : ∃ y, M.names[i]? = some y ∧ k = .inr y ∧ x = .int (wd M.rungs y : Nat) := by
  unfold wsT tab at h
  rw [List.getElem?_map] at h
  obtain ⟨y, hy, e⟩ := Option.map_eq_some_iff.mp h
  cases e
  exact ⟨y, hy, rfl, rfl⟩
theorem c_numbers_in (T : Tx w K mg base) : Cal PG w K mg base 1 "numbers_in" spNumsIn := by
  refine cal_of (fnd ["sizes", "state", "numbers", "name", "size"] ["sizes", "state"] T.d_numbers_in (by decide +kernel) (spP_len fun _ => rfl) (fun _ _ _ _ _ _ us h => by match us, h with | [_, _], _ => rfl) ?_) T.g_numbers_in
  rintro cdv A outer s H vs Q E hr ⟨⟨d, M, st⟩, rfl, ⟨hd, ok⟩, hQ⟩
  have hd : H d = some (.dK (wsT M)) := hd
  have ok : LdrOk M := ok
  have nd : (["sizes", "state", "numbers", "name", "size"] : List Str).Nodup := by decide +kernel
  refine ⟨_, 
    (pss_cons (ps_set (i := 2) nd rfl (Or.inl rfl) pe_dnewK) 
    (pss_cons (ps_lock (ps_for (passes_of rfl) rfl (pi_items (pv 0)) (pg_tup rfl (pgs_cons (pg_name (i := 3) nd rfl (Or.inl rfl)) (pgs_cons (pg_name (i := 4) nd rfl (Or.inl rfl)) pgs_nil))) 
    (pss_cons (ps_dput (hu_of hr) (pv 2) (pv 3) (pe_op op_and (pv 1) (pe_op op_sub (pe_op op_shl pe_int (pv 4)) pe_int)) rfl) 
    (pss_cons (ps_aug (i := 1) nd rfl (Or.inl rfl) (pv 4) iop_shr) pss_nil)))) 
    (pss_cons (ps_ret (pv 2)) pss_nil))), SS.here ?_⟩
  have nl := ok.nl
  have hnd := namesOf_nodup M.rungs
  refine ss_asgR er_dnew fun v H1 e1 ⟨f, ev, hf0, hf1⟩ => ?_
  subst ev
  have hd1 := e1 _ _ hd
  have nfd : f ≠ d := fun z => by rw [z, hd] at hf0; cases hf0
  refine ss_lock hd1 fun od => ?_
  refine ss_forItems (ev_var rfl) upd_same (fun i σ' F => (∃ o3 o4, σ' = [some (.ref d), some (.int (st / 2 ^ ((M.names.take i).map (wd M.rungs)).sum)), some (.ref f), o3, o4]) ∧ Mo [d] H F ∧ F d = some (.frz od (.dK (wsT M))) ∧ F f = some (.dK (tab (M.names.take i) fun x => .int (nuOf M st x))))
    (fun F e => ⟨⟨none, none, by simp [L2.start]⟩, (mo_lock e1).trans (.of e), e _ _ upd_same, e _ _ (by rw [upd_ne nfd]; exact hf1)⟩) (fun i σ' F ⟨_, _, a, _⟩ => a) (fun i σ' G1 G2 ⟨a1, a2, a3, a4⟩ e => ⟨a1, a2.trans (.of e), e _ _ a3, e _ _ a4⟩) ?_ ?_
  · rintro i kk x σ' F hx ⟨⟨o3, o4, rfl⟩, m, hz, hf⟩
    obtain ⟨y, hy, rfl, rfl⟩ := wsT_at hx
    have hwd := wd5 M.rungs y
    have hat := decL_at (w := wd M.rungs) (s := st) hnd hy
    refine ss_dput (kk := .inr y) (v := .int (nuOf M st y)) (ev_is (ev_op (ev_var rfl) (ev_op (ev_op ev_c (ev_var rfl) (rv_I ⟨by omega, by omega, by decide⟩)) ev_c rv_I0) rv_I0) ?_) (ev_var rfl) (ev_var rfl) hf (by rw [tab_len, List.length_take]; omega) ?_
    · rw [Int.toNat_natCast, mask1]
      exact congrArg V.int hat.symm
    refine ss_aug rfl (ev_var rfl) (rv_I (by omega)) (ss_end fun F1 f1 => ⟨⟨some (.str y), some (.int (wd M.rungs y : Nat)), ?_⟩, ?_, f1 _ _ (by rw [upd_ne (Ne.symm nfd)]; exact hz), ?_⟩)
    · rw [take_snoc hy, List.map_append, List.sum_append, List.map_singleton, List.sum_singleton, Int.pow_add, ← Int.ediv_ediv_of_nonneg (Int.le_of_lt (pow_pos' _)), Int.toNat_natCast]
      rfl
    · exact (m.mut hf0).trans (.of f1)
    · rw [f1 _ _ upd_same, tab_put (nodup_take hnd hy) (fun _ _ => rfl) rfl, take_snoc hy]
  · rintro σ' F ⟨⟨o3, o4, rfl⟩, m, hz, hf⟩
    rw [show (wsT M).length = M.names.length from tab_len _ _, List.take_length] at hf
    refine ⟨hz, SS.here (ss_ret (ev_var rfl) fun H3 e3 => hQ _ H3 ((mo_back m hd).trans e3) ⟨f, rfl, hf0, e3 _ _ (by rw [upd_ne nfd]; exact hf)⟩)⟩
structure PkArg where
  d : Addr
  dn : Addr
  M : Ldr
  ν : Nu
def spPacked : Sp := spP (ι := PkArg) (fun i => [.ref i.d, .ref i.dn]) (fun i H => H i.d = some (.dK (wsT i.M)) ∧ H i.dn = some (.dK (numT i.M i.ν)) ∧ i.d ≠ i.dn ∧ LdrOk i.M ∧ StOk i.M i.ν) (fun i H v H2 => v = .int (stateN i.M i.ν))
theorem c_packed (T : Tx w K mg base) : Cal PG w K mg base 1 "packed" spPacked := by
  refine cal_of (fnd ["sizes", "numbers", "state", "at", "name", "size"] ["sizes", "numbers"] T.d_packed (by decide +kernel) (spP_len fun _ => rfl) (fun _ _ _ _ _ _ us h => by match us, h with | [_, _], _ => rfl) ?_) T.g_packed
  rintro cdv A outer s H vs Q E hr ⟨⟨d, dn, M, ν⟩, rfl, ⟨hd, hn, ne, ok, st⟩, hQ⟩
  have hd : H d = some (.dK (wsT M)) := hd
  have hn : H dn = some (.dK (numT M ν)) := hn
  have ne : d ≠ dn := ne
  have ok : LdrOk M := ok
  have st : StOk M ν := st
  have nd : (["sizes", "numbers", "state", "at", "name", "size"] : List Str).Nodup := by decide +kernel
  refine ⟨_, 
    (pss_cons (ps_set (i := 2) nd rfl (Or.inl rfl) pe_int) 
    (pss_cons (ps_set (i := 3) nd rfl (Or.inl rfl) pe_int) 
    (pss_cons (ps_lock (ps_for (passes_of rfl) rfl (pi_items (pv 0)) (pg_tup rfl (pgs_cons (pg_name (i := 4) nd rfl (Or.inl rfl)) (pgs_cons (pg_name (i := 5) nd rfl (Or.inl rfl)) pgs_nil))) 
    (pss_cons (ps_aug (i := 2) nd rfl (Or.inl rfl) (pe_op op_shl (pe_dget (hu_of hr) (pv 1) (pv 4) (fun _ _ => rfl)) (pv 3)) iop_or) 
    (pss_cons (ps_aug (i := 3) nd rfl (Or.inl rfl) (pv 5) iop_add) pss_nil)))) 
    (pss_cons (ps_ret (pv 2)) pss_nil)))), SS.here ?_⟩
  have nl := ok.nl
  refine ss_asg ev_c (ss_asg ev_c ?_)
  let pk := fun (l : List Str) => pack (l.map fun x => (wd M.rungs x, ν x))
  let sm := fun (l : List Str) => (l.map (wd M.rungs)).sum
  have hsm : ∀ l : List Str, sumW (l.map fun x => (wd M.rungs x, ν x)) = sm l := fun l => by show ((l.map _).map _).sum = _; rw [List.map_map]; rfl
  have hrg : ∀ l : List Str, 0 ≤ pk l ∧ pk l < 2 ^ sm l := fun l => by
    have := pack_range (l := l.map fun x => (wd M.rungs x, ν x)) fun p hp => by
      obtain ⟨x, _, rfl⟩ := List.mem_map.mp hp
      exact (st.ok x).range
    rwa [hsm] at this
  have hsl : ∀ l : List Str, sm l ≤ 5 * l.length := fun l => by
    induction l with
    | nil => exact Nat.zero_le _
    | cons x l ih =>
      have := wd5 M.rungs x
      show wd M.rungs x + sm l ≤ 5 * (l.length + 1)
      omega
  refine ss_lock hd fun od => ?_
  refine ss_forItems (ev_var rfl) upd_same (fun i σ' F => (∃ o4 o5, σ' = [some (.ref d), some (.ref dn), some (.int (pk (M.names.take i))), some (.int (sm (M.names.take i) : Nat)), o4, o5]) ∧ Mo [d] H F ∧ F d = some (.frz od (.dK (wsT M))))
    (fun F e => ⟨⟨_, _, rfl⟩, (mo_lock (.refl _)).trans (.of e), e _ _ upd_same⟩) (fun i σ' F ⟨_, _, a⟩ => a) (fun i σ' G1 G2 ⟨a1, a2, a3⟩ e => ⟨a1, a2.trans (.of e), e _ _ a3⟩) ?_ ?_
  · rintro i kk x σ' F hx ⟨⟨o4, o5, rfl⟩, m, hz⟩
    obtain ⟨y, hy, rfl, rfl⟩ := wsT_at hx
    have hyn := List.mem_of_getElem? hy
    have hn' : F dn = some (.dK (numT M ν)) := m _ _ hn (fun q => ne (List.mem_singleton.mp q).symm)
    have hfit := st.ok y
    have hr1 := hfit.range
    have hlt := hsl (M.names.take i)
    rw [List.length_take] at hlt
    have h5 : ν y < 32 := Int.lt_of_lt_of_le hr1.2 (by
      have := wd5 M.rungs y
      have : (2 : Nat) ^ wd M.rungs y ≤ 2 ^ 5 := Nat.pow_le_pow_right (by decide) this
      have : ((2 ^ wd M.rungs y : Nat) : Int) ≤ ((2 ^ 5 : Nat) : Int) := Int.ofNat_le.mpr this
      simpa using this)
    have hpk := hrg (M.names.take i)
    refine ss_aug rfl (ev_op (ev_dget (ev_var rfl) (ev_var rfl) (dget_tab hn' hyn)) (ev_var rfl) (rv_I ⟨by omega, by omega, by omega⟩)) (z := .int (pk (M.names.take (i + 1)))) ?_ ?_
    · have : Builtin.bitOr (pk (M.names.take i)) (ν y * 2 ^ ((sm (M.names.take i) : Nat) : Int).toNat) = pk (M.names.take (i + 1)) := by
        rw [Int.toNat_natCast, or_shl hpk.1 hpk.2 hr1.1]
        show _ = pack ((M.names.take (i + 1)).map fun x => (wd M.rungs x, ν x))
        rw [take_snoc hy, List.map_append, List.map_singleton, pack_snoc, hsm]
      rw [← this]
      exact rv_I0
    · refine ss_aug rfl (ev_var rfl) (z := .int (sm (M.names.take (i + 1)) : Nat)) (rv_ipI ?_) (ss_end fun F2 f2 => ⟨⟨_, _, rfl⟩, m.trans (.of f2), f2 _ _ hz⟩)
      show ((sm (M.names.take i) : Nat) : Int) + (wd M.rungs y : Nat) = (sm (M.names.take (i + 1)) : Nat)
      have : sm (M.names.take (i + 1)) = sm (M.names.take i) + wd M.rungs y := by
        show ((M.names.take (i + 1)).map _).sum = _
        rw [take_snoc hy, List.map_append, List.sum_append, List.map_singleton, List.sum_singleton]
      omega
  · rintro σ' F ⟨⟨o4, o5, rfl⟩, m, hz⟩
    rw [show (wsT M).length = M.names.length from tab_len _ _, List.take_length] at *
    refine ⟨hz, SS.here (ss_ret (ev_var rfl) fun H3 e3 => hQ _ H3 ((mo_back m hd).trans e3) rfl)⟩
def spBitsBy (K : PySem.W.Frag) : Sp := spP (ι := RArg) (fun i => [.ref i.t]) (fun i H => Sq K i.k H i.t (i.bs.map V.bl) ∧ i.bs.length ≤ 1000) (fun i H v H2 => v = .int (bitsN i.bs))
theorem c_bits_by (T : Tx w K mg base) : Cal PG w K mg base 1 "bits_by" (spBitsBy K) := by
  refine cal_of (fnd ["truths", "number", "k", "truth"] ["truths"] T.d_bits_by (by decide +kernel) (spP_len fun _ => rfl) (fun _ _ _ _ _ _ us h => by match us, h with | [_], _ => rfl) ?_) T.g_bits_by
  rintro cdv A outer s H vs Q E hr ⟨⟨k, t, bs⟩, rfl, ⟨ht, hl⟩, hQ⟩
  have ht : Sq K k H t (bs.map V.bl) := ht
  have hl : bs.length ≤ 1000 := hl
  have nd : (["truths", "number", "k", "truth"] : List Str).Nodup := by decide +kernel
  refine ⟨_, 
    (pss_cons (ps_set (i := 1) nd rfl (Or.inl rfl) pe_int) 
    (pss_cons (ps_for (passes_of rfl) rfl (pi_enumK (by rfl) T.f_enumerate (pa_cons (pv 0) pa_nil)) (pg_tup rfl (pgs_cons (pg_name (i := 2) nd rfl (Or.inl rfl)) (pgs_cons (pg_name (i := 3) nd rfl (Or.inl rfl)) pgs_nil))) 
    (pss_cons (ps_aug (i := 1) nd rfl (Or.inl rfl) (pe_op op_shl (pe_callTy call_int1 (by rfl) T.f_int (by decide +kernel) (pa_cons (pv 3) pa_nil)) (pv 2)) iop_or) pss_nil)) 
    (pss_cons (ps_ret (pv 1)) pss_nil))), SS.here ?_⟩
  refine ss_asg ev_c ?_
  refine ss_forEnum (ea_cons (ev_var rfl) ea_nil) ht (fun i σ' F => (∃ o2 o3, σ' = [some (.ref t), some (.int (bitsN (bs.take i))), o2, o3]) ∧ Ex H F) (fun F e => ⟨⟨_, _, rfl⟩, e⟩) (fun i σ' F ⟨_, e⟩ => ex_s e ht) (fun i σ' G1 G2 ⟨a1, e⟩ e2 => ⟨a1, e.trans e2⟩) ?_ ?_
  · rintro i x σ' F hx ⟨⟨o2, o3, rfl⟩, e⟩
    rw [List.getElem?_map] at hx
    obtain ⟨b, hb, rfl⟩ := Option.map_eq_some_iff.mp hx
    have hi : i < bs.length := (List.getElem?_eq_some_iff.mp hb).1
    have := b2n_range b
    refine ss_aug rfl (ev_op (ev_cb (ea_cons (ev_var rfl) ea_nil) rc_intB) (ev_var rfl) (rv_I ⟨by omega, by omega, by omega⟩)) (z := .int (bitsN (bs.take (i + 1)))) ?_ (ss_end fun F1 f1 => ⟨⟨_, _, rfl⟩, e.trans f1⟩)
    have : Builtin.bitOr (bitsN (bs.take i)) (b2n b * 2 ^ ((i : Int)).toNat) = bitsN (bs.take (i + 1)) := by rw [Int.toNat_natCast, bitsN_or hb]
    rw [← this]
    exact rv_I0
  · rintro σ' F ⟨⟨o2, o3, rfl⟩, e⟩
    rw [List.length_map, List.take_length]
    exact SS.here (ss_ret (ev_var rfl) fun F1 f1 => hQ _ F1 (e.trans f1) rfl)
end
end RgK
set_option Elab.async false
set_option linter.all false
set_option maxRecDepth 100000
set_option maxHeartbeats 4000000

/-! The function that steps. -/
namespace RgK
open PySem PySem.Spec PyProof.Rows L2 Evl LamX
local macro_rules | `(tactic| walk_at "ev") => `(tactic| repeat' (first
  | with_reducible exact ev_c
  | with_reducible exact ea_nil
  | ((with_reducible apply ev_var); first | rfl | assumption)
  | with_reducible apply ea_cons
  | with_reducible apply ev_fld
  | ((with_reducible show Fld _ _ _ _ _); assumption)
  | with_reducible exact rv_I0
  | with_reducible exact ru_neg
  | with_reducible exact rv_eq rfl
  | with_reducible exact rv_ne rfl
  | ((with_reducible apply rv_I); first | decide | omega | assumption)
  | ((with_reducible show _ = _ → EvT _ _ _ _); intro _)
  | ((with_reducible show _ = _ → Ev _ _ _ _); intro _)
  | with_reducible apply et_and
  | with_reducible apply et_or
  | with_reducible apply ev_andV
  | with_reducible apply ev_orV
  | with_reducible apply et_test
  | with_reducible apply et_B
  | with_reducible apply et_not
  | with_reducible apply ev_notV
  | with_reducible apply ev_un
  | with_reducible apply ev_op))

def Fs (cl : List (Str × Addr)) (c : Addr) : CF := ⟨"stepped", sqn, fdP sdef, .stmts (fdB sdef), fdS sdef, cl, c⟩
def capS : List Str := ["wires", "sizes", "ladder", "acts"]
structure SAd where
  lw : Addr
  ds : Addr
  la : Addr
  lc : Addr
abbrev sws (S : SAd) : List V := [.ref S.lw, .ref S.ds, .ref S.la, .ref S.lc]
structure SSem (K : PySem.W.Frag) (n : Nat) (H : Hp) (S : SAd) (M : Ldr) : Prop where
  ok : LdrOk M
  lad : LadderAt K H n S.la M
  wires : ∃ gs : List Addr, H S.lw = some (.lst (gs.map V.ref)) ∧ Paired (fun g (r : RungV) => WireAt K n H g r.1) gs M.rungs
  acts : ∃ gs : List Addr, H S.lc = some (.lst (gs.map V.ref)) ∧ Paired (fun g (r : RungV) => ActAt H g r.2) gs M.rungs
  sizes : H S.ds = some (.dK (wsT M))
theorem SSem.kp {K : PySem.W.Frag} {n : Nat} {H H' : Hp} {S : SAd} {M : Ldr} (h : SSem K n H S M) (k : Kp H H') (d : ∀ o, H S.ds = some o → H' S.ds = some o) : SSem K n H' S M :=
  ⟨h.ok, h.lad.im k.ip, let ⟨gs, a, b⟩ := h.wires; ⟨gs, k _ _ a rfl, L2.Paired.mapP b fun _ _ q => q.kp k⟩, let ⟨gs, a, b⟩ := h.acts; ⟨gs, k _ _ a rfl, L2.Paired.mapP b fun _ _ q => q.kp k⟩, d _ h.sizes⟩
theorem SSem.ex {K : PySem.W.Frag} {n : Nat} {H H' : Hp} {S : SAd} {M : Ldr} (h : SSem K n H S M) (e : Ex H H') : SSem K n H' S M := h.kp (.of e) fun o => e _ o
structure StpArg where
  S : SAd
  M : Ldr
  st : Int
  num : Int
def spStp (K : PySem.W.Frag) (m : Nat) : List V → Sp := fun ws vs H Q E => ∃ i : StpArg, vs = [.int i.st, .int i.num] ∧ (ws = sws i.S ∧ SSem K (m + 1) H i.S i.M) ∧ (Good i.M i.st → RowOk i.M i.num → ∀ v H2, Ex H H2 → NewT H (stepV i.M (nuOf i.M i.st) (rowB i.M.ins.length i.num)) v H2 → Q v H2) ∧
  (¬ Good i.M i.st → noState K H E) ∧ (Good i.M i.st → ¬ RowOk i.M i.num → noRow K H E)
section
variable {K : PySem.W.Frag} {σ : L2.St} {H : Hp} {D : Ends} {tu tz : TS} {g : TG}
def tConst (vs : List V) : TA := fun _ H Q => Q vs H
theorem ea_const {vs : List V} : EvA (tConst vs) σ H vs := fun H1 _ Q q => q H1 (.refl _)
theorem ss_forZipA {tr : TA} {Ra : List V → Hp → Prop} (h : EvAR tr σ H Ra) (k : ∀ vs H1, Ex H H1 → Ra vs H1 → SS (tSeq (tFor (iZipK K (tConst vs)) g tu) tz) D σ H1) : SS (tSeq (tFor (iZipK K tr) g tu) tz) D σ H :=
  fun H1 e1 => h H1 e1 _ fun vs H2 e2 r => k vs H2 (e1.trans e2) r H2 (.refl _)
theorem ss_forZipF {te : TE} {tr : TA} {x : V} (h : Ev te σ H x) (k : ∀ H1, Ex H H1 → ∀ Q : List V → Hp → Prop, tr σ H1 Q) : SS (tSeq (tFor (iZipK K (tCons te tr)) g tu) tz) D σ H :=
  fun H1 e1 => h H1 e1 _ fun H2 e2 => k H2 (e1.trans e2) _
end
theorem mo_none1 {d a : Addr} {H F : Hp} {o : HO} (m : Mo [d] H F) (h : H a = some o) (n : a ≠ d) : F a = some o := m _ _ h fun q => n (List.mem_singleton.mp q)
theorem img_cong {M : Ldr} {β β' : Str → Bool} (h : ∀ x ∈ M.ins, β x = β' x) (ν : Nu) (x : Str) : img M β ν x = img M β' ν x := by
  unfold img
  by_cases hx : x ∈ M.ins
  · rw [if_pos hx, if_pos hx, h x hx]
  · rw [if_neg hx, if_neg hx]
section
variable {w : World} {K : PySem.W.Frag} {mg : Mg} {base : Heap}
/-- an act is called -/
theorem ss_act {k i : Nat} {σ : L2.St} {H : Hp} {D : Ends} {tz : TS} {E : L2.St → XK} {t1 t2 t3 : TE} {g dn di : Addr} {M : Ldr} {βi : Str → Bool} {ν : Nu} {r : RungV} {h : Bool} (T : Tx w K mg base) (hk : 1 ≤ k) (hσ : σ[i]? = some (some (.ref g))) (hg : ActAt H g r.2)
    (e1 : Ev t1 σ H (.ref dn)) (e2 : Ev t2 σ H (.ref di)) (e3 : Ev t3 σ H (.bl h)) (hn : H dn = some (.dK (numT M ν))) (hi : H di = some (.dK (imgT M βi ν))) (ne : dn ≠ di) (ok : LdrOk M) (hν : NuOk M.rungs ν) (hr : r ∈ M.rungs)
    (kk : ∀ H2, Mo [dn, di] H H2 → H2 dn = some (.dK (numT M (act r.2 h ν))) → H2 di = some (.dK (imgT M βi (act r.2 h ν))) → SS tz D σ H2) : SS (tSeq (tDrop (tClo w K mg base k i E (tCons t1 (tCons t2 (tCons t3 tNil))))) tz) D σ H := by
  obtain ⟨j, cl, c, hj, hkd, h2, h3, hc⟩ := hg
  intro H1 f1
  refine ⟨g, Fa j cl c, ["numbers", "image", "holds"], spA j, aws j r.2, hσ, (act_ok' T j hj cl c h2 h3).mono hk, hc.kp (.of f1), ?_⟩
  refine e1 H1 f1 _ fun H2 f2 => e2 H2 (f1.trans f2) _ fun H3 f3 => e3 H3 (f1.trans (f2.trans f3)) _ fun H4 f4 => ?_
  have e4 := f1.trans (f2.trans (f3.trans f4))
  have hc4 : CloAt H4 g (Fa j cl c) (aws j r.2) := hc.kp (.of e4)
  have cc := caps_cells hc4.2.2
  refine ⟨hc4, ⟨dn, di, M, βi, ν, r, h⟩, rfl, ⟨rfl, hkd, cc.keep (e4 _ _ hn) (by intro φ z; cases z), cc.keep (e4 _ _ hi) (by intro φ z; cases z), ne, ok, hν, hr⟩, fun v H5 m a1 a2 hno => ?_⟩
  have n1 : dn ∉ (Fa j cl c).cells := fun z => by rw [hno _ z] at a1; cases a1
  have n2 : di ∉ (Fa j cl c).cells := fun z => by rw [hno _ z] at a2; cases a2
  exact (kk _ ((Mo.of e4).trans (unh_mo m)) (by rw [unh_out n1]; exact a1) (by rw [unh_out n2]; exact a2)).here
theorem stp_ok (T : Tx w K mg base) (m : Nat) (cl : List (Str × Addr)) (c : Addr) (h2 : cl.map (·.1) = capS) (h3 : (cl.map (·.2)).Nodup) : ClOk w K mg base (m + 5) (Fs cl c) ["state", "number"] (spStp K m) := by
  refine clo_st (N := ["state", "number", "wires", "sizes", "ladder", "acts", "works", "image", "name", "truth", "numbers", "held", "wire", "act", "holds", "answers"]) (b := fdB sdef) rfl (csc_by (show cscB ["state", "number", "wires", "sizes", "ladder", "acts", "works", "image", "name", "truth", "numbers", "held", "wire", "act", "holds", "answers"] ["state", "number"] capS (fdS sdef) = true by decide +kernel)) h2 h3 (fun ws vs H Q E ⟨i, e, _⟩ => by rw [e]; rfl) (fun _ _ _ us h => by match us, h with | [_, _], _ => rfl) ?_
  rintro f A outer s H vs ws Q E hr ⟨⟨⟨lw, ds, la, lc⟩, M, st, num⟩, rfl, ⟨rfl, sem⟩, hQ, hE1, hE2⟩
  have sem : SSem K (m + 1) H ⟨lw, ds, la, lc⟩ M := sem
  have nd : (["state", "number", "wires", "sizes", "ladder", "acts", "works", "image", "name", "truth", "numbers", "held", "wire", "act", "holds", "answers"] : List Str).Nodup := by decide +kernel
  have hL : LadderAt K H (m + 1) la M := sem.lad
  have ok := sem.ok
  refine ⟨_, 
    (pss_cons (ps_set (i := 6) nd rfl (Or.inl rfl) (pe_fn T hr (by rfl) T.g_works_at (passAt (takes_of rfl rfl rfl rfl)) T.kp_works_at (pa_cons (pv 4) (pa_cons (pv 0) pa_nil)))) 
    (pss_cons (ps_set (i := 7) nd rfl (Or.inr rfl) (pe_me0 T hr pass0 (pv 6))) 
    (pss_cons (ps_for (passes_of rfl) rfl (pi_zipK (by rfl) T.f_zip (pa_cons (pe_fldT T (pv 4)) (pa_cons (pe_fn T hr (by rfl) T.g_row_of (passAt (takes_of rfl rfl rfl rfl)) T.kp_row_of (pa_cons (pv 4) (pa_cons (pv 1) pa_nil))) pa_nil))) (pg_tup rfl (pgs_cons (pg_name (i := 8) nd rfl (Or.inl rfl)) (pgs_cons (pg_name (i := 9) nd rfl (Or.inl rfl)) pgs_nil))) 
    (pss_cons (ps_dput (hu_of hr) (pv 7) (pv 8) (pv 9) rfl) pss_nil)) 
    (pss_cons (ps_set (i := 10) nd rfl (Or.inl rfl) (pe_fn T hr (by rfl) T.g_numbers_in pass0 T.kp_numbers_in (pa_cons (pv 3) (pa_cons (pv 0) pa_nil)))) 
    (pss_cons (ps_set (i := 11) nd rfl (Or.inl rfl) (pe_lst pa_nil)) 
    (pss_cons (ps_for (passes_of rfl) rfl (pi_zipK (by rfl) T.f_zip (pa_cons (pv 2) (pa_cons (pv 5) pa_nil))) (pg_tup rfl (pgs_cons (pg_name (i := 12) nd rfl (Or.inl rfl)) (pgs_cons (pg_name (i := 13) nd rfl (Or.inl rfl)) pgs_nil))) 
    (pss_cons (ps_set (i := 14) nd rfl (Or.inl rfl) (pe_clo (i := 12) (by rfl) (by first | exact Or.inl rfl | exact Or.inr (Or.inl rfl) | exact Or.inr (Or.inr rfl)) hr pass0 (pa_cons (pv 7) pa_nil))) 
    (pss_cons (ps_expr (pe_clo (i := 13) (by rfl) (by first | exact Or.inl rfl | exact Or.inr (Or.inl rfl) | exact Or.inr (Or.inr rfl)) hr pass0 (pa_cons (pv 10) (pa_cons (pv 7) (pa_cons (pv 14) pa_nil))))) 
    (pss_cons (ps_expr (pe_bm PySem.F.plainAttrs_list PySem.F.slot_list_append PySem.F.type_list_append mt_append (pv 11) (pa_cons (pv 14) pa_nil))) pss_nil)))) 
    (pss_cons (ps_setLc (i := 15) (own := [("name", 8)]) (g := gName 8) (tt := tYes) rfl nd rfl rfl (sw_true rfl rfl rfl (by decide +kernel)) (pi_seq (pe_fldT T (pv 4))) (blkOk_by (N := ["state", "number", "wires", "sizes", "ladder", "acts", "works", "image", "name", "truth", "numbers", "held", "wire", "act", "holds", "answers"]) (sc := (fdS sdef)) (own := [("name", 8)]) (by decide +kernel)) (fun _ _ _ _ _ => (pg_name (i := 8) nd rfl (Or.inl rfl))) (fun _ _ _ _ _ => pts_nil) (fun _ _ _ _ _ => pe_hide (pe_dget (hu_of hr) (pv 7) (pv 8) (fun _ _ => rfl)))) 
    (pss_cons (ps_ret (pe_tup (pa_cons (pe_fn T hr (by rfl) T.g_packed pass0 T.kp_packed (pa_cons (pv 3) (pa_cons (pv 10) pa_nil))) (pa_cons (pe_fn T hr (by rfl) T.g_bits_by pass0 T.kp_bits_by (pa_cons (pv 15) pa_nil)) (pa_cons (pe_fn T hr (by rfl) T.g_bits_by pass0 T.kp_bits_by (pa_cons (pv 11) pa_nil)) pa_nil))))) pss_nil)))))))), SS.here ?_⟩
  change SS _ _ [some (.int st), some (.int num), some (.ref lw), some (.ref ds), some (.ref la), some (.ref lc), none, none, none, none, none, none, none, none, none, none] H
  by_cases hg : Good M st
  case neg =>
    exact fun H1 e1 => ⟨.ref la, rfl, .int st, rfl, spWorksAt K, (c_works_at T).mono (by omega), ⟨⟨m + 1, la, M⟩, st⟩, rfl, ⟨hL.im (.of e1), ok⟩, fun h => absurd h hg, fun _ H2 e2 => hE1 hg H2 (e1.trans e2)⟩
  have hst := good_ok ok hg
  have rl := ok.rl
  have ol := ok.ol
  have il := ok.il
  have nl := ok.nl
  refine ss_asgR (R := fun v H2 => MadeAt K H H2 (m + 1) la M (fun _ => false) (nuOf M st) v) (fun H1 e1 Q' q' => ⟨.ref la, rfl, .int st, rfl, spWorksAt K, (c_works_at T).mono (by omega), ⟨⟨m + 1, la, M⟩, st⟩, rfl, ⟨hL.im (.of e1), ok⟩, fun _ v H2 e2 ⟨W, a1, a2, a3, a4⟩ => q' v H2 e2 ⟨W, a1, a2, a3, fun d hd => fresh_back e1 (a4 d hd)⟩, fun h => absurd hg h⟩) fun v H1 e1 ⟨W, ev, hla, hw, hdd⟩ => ?_
  subst ev
  obtain ⟨dx, hobj⟩ := hw.obj
  refine ss_asgR (er_meV (R := NewD H1 (imgT M (fun _ => false) (nuOf M st))) (ev_var rfl) hobj (by rfl) ((m_image T).mono (by omega)) ea_nil (spP_r ⟨m + 1, W, M, fun _ => false, nuOf M st⟩ rfl (fun H2 e2 => WRaw.ex hw e2) fun G1 v G2 g1 _ ⟨p, a1, a2, a3⟩ => ⟨p, a1, fresh_back g1 a2, a3⟩)) fun v H2 e2 ⟨di, ev, hdi0, hdi⟩ => ?_
  subst ev
  have e12 := e1.trans e2
  have di0 : H di = none := fresh_back e1 hdi0
  obtain ⟨ti, fi, hti⟩ := hL.fi T
  by_cases hrow : RowOk M num
  case neg =>
    exact ss_forZipF (ev_fld (ev_var rfl) (fi.ex e12)) fun H3 e3 Q' => ⟨.ref la, rfl, .int num, rfl, spRowOf K, (c_row_of T).mono (by omega), ⟨⟨m + 1, la, M⟩, num⟩, rfl, hL.im (.of (e12.trans e3)), fun h => absurd h hrow, fun _ H5 e5 => hE2 hg hrow H5 (e12.trans (e3.trans e5))⟩
  have hrl := rowB_len M.ins.length num
  refine ss_forZipA (Ra := fun vs G => ∃ t, vs = [.ref ti, .ref t] ∧ G t = some (.tup ((rowB M.ins.length num).map V.bl))) (ar_cons (ev_rel (ev_fld (ev_var rfl) (fi.ex e12))) fun x G1 g1 ex => ar_cons (Ra := fun v G => NewT H2 ((rowB M.ins.length num).map V.bl) v G) (fun G2 g2 Q' q' => ⟨.ref la, rfl, .int num, rfl, spRowOf K, (c_row_of T).mono (by omega), ⟨⟨m + 1, la, M⟩, num⟩, rfl, hL.im (.of (e12.trans (g1.trans g2))), fun _ v G3 g3 ⟨p, a1, a2, a3⟩ => q' v G3 g3 ⟨p, a1, fresh_back (g1.trans g2) a2, a3⟩, fun h => absurd hrow h⟩) fun y G2 g2 ⟨t, ey, _, ht⟩ => fun G3 g3 Q' q' => q' [] G3 (.refl _) ⟨t, by rw [ex, ey], g3 _ _ ht⟩) fun vs H3 e3 ⟨t, evs, ht⟩ => ?_
  subst evs
  have e13 := e12.trans e3
  have hdi3 := e3 _ _ hdi
  have hti3 := e13 _ _ hti
  have nti : ti ≠ di := fun z => by rw [z, hdi3] at hti3; cases hti3
  have nt : t ≠ di := fun z => by rw [z, hdi3] at ht; cases ht
  generalize hβs : rowB M.ins.length num = βs at *
  refine ss_forZip (k1 := false) (k2 := false) (xs := M.ins.map V.str) (ys := βs.map V.bl) ea_const (.of hti3) (.of ht) (fun i σ' F => (∃ o8 o9, σ' = [some (.int st), some (.int num), some (.ref lw), some (.ref ds), some (.ref la), some (.ref lc), some (.ref W.a), some (.ref di), o8, o9, none, none, none, none, none, none]) ∧ Mo [di] H3 F ∧ F di = some (.dK (imgT M (fun y => if y ∈ M.ins.take i then rowF M.ins βs y else false) (nuOf M st))))
    (fun F f => ⟨⟨none, none, rfl⟩, .of f, ?_⟩) (fun i σ' F ⟨_, mo, _⟩ => ⟨.of (mo_none1 mo hti3 nti), .of (mo_none1 mo ht nt)⟩) (fun i σ' G1 G2 ⟨a1, a2, a3⟩ e => ⟨a1, a2.trans (.of e), e _ _ a3⟩) ?_ ?_
  · rw [f _ _ hdi3]
    exact congrArg (fun z => some (HO.dK z)) (tab_congr fun x _ => by rw [img_cong (β' := fun y => if y ∈ M.ins.take 0 then rowF M.ins βs y else false) (fun y _ => by rw [List.take_zero, if_neg (by simp)])])
  · rintro i x y σ' F hx hy ⟨⟨o8, o9, rfl⟩, mo, hd⟩
    rw [List.getElem?_map] at hx hy
    obtain ⟨nm, hnm, rfl⟩ := Option.map_eq_some_iff.mp hx
    obtain ⟨b, hb, rfl⟩ := Option.map_eq_some_iff.mp hy
    have hmem := List.mem_of_getElem? hnm
    refine ss_dput (kk := .inr nm) (ev_var rfl) (ev_var rfl) (ev_var rfl) hd (tab_lens ok (βi := fun y => if y ∈ M.ins.take i then rowF M.ins βs y else false) (ν := nuOf M st)).2 (ss_end fun G g => ⟨⟨_, _, rfl⟩, (mo.put (by simp)).trans (.of g), ?_⟩)
    rw [g _ _ upd_same]
    refine congrArg (fun z => some (HO.dK z)) (tab_set (List.mem_append_left _ hmem) (fun z _ ne => ?_) ?_)
    · refine congrArg V.bl ?_
      unfold img
      by_cases hz : z ∈ M.ins
      · rw [if_pos hz, if_pos hz, take_snoc hnm]
        have : (z ∈ M.ins.take i ++ [nm]) ↔ z ∈ M.ins.take i := by simp [ne]
        simp only [this]
      · rw [if_neg hz, if_neg hz]
    · refine congrArg V.bl ?_
      unfold img
      rw [if_pos hmem, take_snoc hnm]
      show b = if nm ∈ M.ins.take i ++ [nm] then rowF M.ins βs nm else false
      rw [if_pos (by simp), rowF_at ok.ind hnm hb]
  rintro σ' F ⟨⟨o8, o9, rfl⟩, mo, hd⟩
  rw [List.length_map, List.length_map, hrl, Nat.min_self, List.take_length] at hd
  have hd : F di = some (.dK (imgT M (rowF M.ins βs) (nuOf M st))) := by
    rw [hd]
    exact congrArg (fun z => some (HO.dK z)) (tab_congr fun x _ => congrArg V.bl (img_cong (fun y hy => if_pos hy) _ _))
  have eF : Ex H F := fun a o h => mo_none1 mo (e13 _ _ h) fun z => by rw [z, di0] at h; cases h
  refine SS.here ?_
  clear hti3 hdi3 ht nti nt mo hdi e3 e13
  have semF := sem.ex eF
  -- numbers, held
  refine ss_asgR (er_fnV (R := NewD F (numT M (nuOf M st))) (ea_cons (ev_var rfl) (ea_cons (ev_var rfl) ea_nil)) ((c_numbers_in T).mono (by omega)) (spP_r ⟨ds, M, st⟩ rfl (fun G g => ⟨g _ _ semF.sizes, ok⟩) fun G1 v G2 g1 _ ⟨p, a1, a2, a3⟩ => ⟨p, a1, fresh_back g1 a2, a3⟩)) fun v F1 f1 ⟨dn, ev, hdn0, hdn⟩ => ?_
  subst ev
  have sem1 := semF.ex f1
  have hd1 := f1 _ _ hd
  have dn0 : H dn = none := fresh_back eF hdn0
  have ndd : dn ≠ di := fun z => by rw [z, hd] at hdn0; cases hdn0
  refine ss_asgR (er_lstV (vs := []) ea_nil (by decide)) fun v F2 f2 ⟨lh, ev, hlh0, hlh⟩ => ?_
  subst ev
  have lh0 : H lh = none := fresh_back (eF.trans f1) hlh0
  obtain ⟨gs, hgs, pgs⟩ := sem1.wires
  obtain ⟨as, has, pas⟩ := sem1.acts
  have nlw : lw ∉ [dn, di, lh] := fun z => by
    rcases List.mem_cons.mp z with z | z
    · have hgs : F1 lw = _ := hgs
      rw [z, hdn] at hgs; cases hgs
    · rcases List.mem_cons.mp z with z | z
      · have hgs : F1 lw = _ := hgs
        rw [z, hd1] at hgs; cases hgs
      · have hgs : F1 lw = _ := hgs
        rw [List.mem_singleton.mp z, hlh0] at hgs; cases hgs
  have nlc : lc ∉ [dn, di, lh] := fun z => by
    rcases List.mem_cons.mp z with z | z
    · have has : F1 lc = _ := has
      rw [z, hdn] at has; cases has
    · rcases List.mem_cons.mp z with z | z
      · have has : F1 lc = _ := has
        rw [z, hd1] at has; cases has
      · have has : F1 lc = _ := has
        rw [List.mem_singleton.mp z, hlh0] at has; cases has
  have mkp : ∀ {G : Hp}, Mo [dn, di, lh] F1 G → Kp F1 G := fun {G} mo => Kp.mo mo fun d hd o e => by
    rcases List.mem_cons.mp hd with rfl | hd
    · rw [hdn] at e; cases e; rfl
    · rcases List.mem_cons.mp hd with rfl | hd
      · rw [hd1] at e; cases e; rfl
      · rw [List.mem_singleton.mp hd, hlh0] at e; cases e
  have gl : gs.length = M.rungs.length := paired_len pgs
  have al : as.length = M.rungs.length := paired_len pas
  refine ss_forZip (k1 := true) (k2 := true) (xs := gs.map V.ref) (ys := as.map V.ref) (ea_cons (ev_var rfl) (ea_cons (ev_var rfl) ea_nil)) (.of (f2 _ _ hgs)) (.of (f2 _ _ has))
    (fun i σ' G => (∃ o12 o13 o14, σ' = [some (.int st), some (.int num), some (.ref lw), some (.ref ds), some (.ref la), some (.ref lc), some (.ref W.a), some (.ref di), o8, o9, some (.ref dn), some (.ref lh), o12, o13, o14, none]) ∧ Mo [dn, di, lh] F1 G ∧ G dn = some (.dK (numT M (scanL M (rowF M.ins βs) (M.rungs.take i) (nuOf M st)).1)) ∧ G di = some (.dK (imgT M (rowF M.ins βs) (scanL M (rowF M.ins βs) (M.rungs.take i) (nuOf M st)).1)) ∧ G lh = some (.lst ((scanL M (rowF M.ins βs) (M.rungs.take i) (nuOf M st)).2.map V.bl)))
    (fun G g => ⟨⟨none, none, none, rfl⟩, (Mo.of f2).trans (.of g), g _ _ (f2 _ _ hdn), g _ _ (f2 _ _ hd1), g _ _ hlh⟩) (fun i σ' G ⟨_, mo, _⟩ => ⟨.of (mo _ _ hgs nlw), .of (mo _ _ has nlc)⟩) (fun i σ' G1 G2 ⟨a1, a2, a3, a4, a5⟩ e => ⟨a1, a2.trans (.of e), e _ _ a3, e _ _ a4, e _ _ a5⟩) ?_ ?_
  · rintro i x y σ' G hx hy ⟨⟨o12, o13, o14, rfl⟩, mo, hn, hi, hl⟩
    obtain ⟨g, r, rfl, hri, hgr⟩ := paired_at pgs hx
    obtain ⟨a, r', rfl, hri', har⟩ := paired_at pas hy
    rw [hri] at hri'
    obtain rfl := Option.some.inj hri'
    have hrm : r ∈ M.rungs := List.mem_of_getElem? hri
    have hlen : i < M.rungs.length := (List.getElem?_eq_some_iff.mp hri).1
    have stI : StOk M (scanL M (rowF M.ins βs) (M.rungs.take i) (nuOf M st)).1 := scanL_st ok (fun q hq => List.mem_of_mem_take hq) hst
    have sn := scanL_snoc (M := M) (βi := rowF M.ins βs) r (M.rungs.take i) (nuOf M st)
    rw [← take_snoc hri] at sn
    generalize hν : (scanL M (rowF M.ins βs) (M.rungs.take i) (nuOf M st)).1 = ν at *
    have hb2 : (scanL M (rowF M.ins βs) (M.rungs.take i) (nuOf M st)).2.length = i := by rw [scanL_len, List.length_take]; omega
    generalize (scanL M (rowF M.ins βs) (M.rungs.take i) (nuOf M st)).2 = bs at *
    rw [sn]
    have k1 := mkp mo
    refine ss_asg (v := .bl (r.1.h (img M (rowF M.ins βs) ν))) (ev_wire (n := m) (fun j cl c a1 a2 a3 => (wire_ok T m j cl c a1 a2 a3).mono (by omega)) rfl (hgr.kp k1) (ev_var rfl) (img_at hi)) ?_
    refine ss_act T (by omega) rfl (har.kp k1) (ev_var rfl) (ev_var rfl) (ev_var rfl) hn hi ndd ok stI.ok hrm fun G1 m1 b1 b2 => ?_
    have nl1 : lh ∉ [dn, di] := fun z => by
      rcases List.mem_cons.mp z with z | z
      · rw [z, hn] at hl; cases hl
      · rw [List.mem_singleton.mp z, hi] at hl; cases hl
    have hl1 := m1 _ _ hl nl1
    refine ss_app hl1 (ev_var rfl) (ev_var rfl) (by rw [List.length_map]; omega) (ss_end fun G2 g2 => ⟨⟨_, _, _, rfl⟩, ((mo.trans (m1.sub fun z hz => by
      rcases List.mem_cons.mp hz with rfl | hz
      · simp
      · rw [List.mem_singleton.mp hz]; simp)).put (by simp)).trans (.of g2), ?_, ?_, ?_⟩)
    · exact g2 _ _ (by rw [upd_ne (fun z => nl1 (by rw [← z]; simp))]; exact b1)
    · exact g2 _ _ (by rw [upd_ne (fun z => nl1 (by rw [← z]; simp))]; exact b2)
    · rw [g2 _ _ upd_same, List.map_append]
      rfl
  rintro σ' G ⟨⟨o12, o13, o14, rfl⟩, mo, hn, hi, hl⟩
  rw [List.length_map, List.length_map, gl, al, Nat.min_self, List.take_length] at hn hi hl
  have eG : Ex H G := fun a o h => mo _ _ ((eF.trans f1) _ _ h) fun z => by
    rcases List.mem_cons.mp z with rfl | z
    · rw [dn0] at h; cases h
    · rcases List.mem_cons.mp z with rfl | z
      · rw [di0] at h; cases h
      · rw [List.mem_singleton.mp z, lh0] at h; cases h
  have semG := sem.ex eG
  have st2 : StOk M (scan M (rowF M.ins βs) (nuOf M st)).1 := scanL_st ok (fun _ h => h) hst
  have sl : (scan M (rowF M.ins βs) (nuOf M st)).2.length = M.rungs.length := scanL_len
  refine SS.here ?_
  obtain ⟨to, fo, hto⟩ := semG.lad.fo T
  have hans : M.outs.map (fun x => V.bl (bit M.rungs (scan M (rowF M.ins βs) (nuOf M st)).1 x)) = (M.outs.map fun x => bit M.rungs (scan M (rowF M.ins βs) (nuOf M st)).1 x).map V.bl := by rw [List.map_map]; rfl
  refine ss_asgR (er_lcS (k := false) (ks := M.outs) (fun x => V.bl (bit M.rungs (scan M (rowF M.ins βs) (nuOf M st)).1 x)) (ev_fld (ev_var rfl) fo) (.of hto) (by omega) (fun _ => rfl) fun x hx => ?_) fun v G1 g1 ⟨p, ev, _, hp⟩ => ?_
  · have hxn := ok.ouw x hx
    have e : img M (rowF M.ins βs) (scan M (rowF M.ins βs) (nuOf M st)).1 x = bit M.rungs (scan M (rowF M.ins βs) (nuOf M st)).1 x := by
      unfold img
      rw [if_neg (fun z => ok.inw x z hxn), if_pos hxn]
    rw [← e]
    exact ev_dget (ev_var rfl) (ev_var rfl) (dget_tab hi (List.mem_append_right _ hxn))
  subst ev
  rw [hans] at hp
  have nsd : ds ≠ dn := fun z => by
    have := semF.sizes
    have this : F ds = _ := this
    rw [z, hdn0] at this; cases this
  refine ss_retR (er_tupV (vs := stepV M (nuOf M st) βs) (ea_cons (ev_fnV (ea_cons (ev_var rfl) (ea_cons (ev_var rfl) ea_nil)) ((c_packed T).mono (by omega)) (spP_r ⟨ds, dn, M, (scan M (rowF M.ins βs) (nuOf M st)).1⟩ rfl (fun G2 g2 => ⟨(g1.trans g2) _ _ semG.sizes, (g1.trans g2) _ _ hn, nsd, ok, st2⟩) fun _ _ _ _ _ r => r))
    (ea_cons (ev_fnV (ea_cons (ev_var rfl) ea_nil) ((c_bits_by T).mono (by omega)) (spP_r ⟨true, p, _⟩ rfl (fun G2 g2 => ⟨.of (g2 _ _ hp), by rw [List.length_map]; omega⟩) fun _ _ _ _ _ r => r)) (ea_cons (ev_fnV (ea_cons (ev_var rfl) ea_nil) ((c_bits_by T).mono (by omega)) (spP_r ⟨true, lh, _⟩ rfl (fun G2 g2 => ⟨.of ((g1.trans g2) _ _ hl), by rw [sl]; omega⟩) fun _ _ _ _ _ r => r)) ea_nil))) (by show 3 ≤ 100000; decide)) fun v G2 g2 ⟨q, a1, a2, a3⟩ => hQ hg hrow v G2 (eG.trans (g1.trans g2)) ⟨q, a1, fresh_back (eG.trans g1) a2, a3⟩
end
end RgK
set_option Elab.async false
set_option linter.all false
set_option maxRecDepth 100000
set_option maxHeartbeats 4000000

/-! wired_ladder. -/
namespace RgK
open PySem PySem.Spec PyProof.Rows L2 Evl LamX
local macro_rules | `(tactic| walk_at "ev") => `(tactic| repeat' (first
  | with_reducible exact ev_c
  | with_reducible exact ea_nil
  | ((with_reducible apply ev_var); first | rfl | assumption)
  | with_reducible apply ea_cons
  | with_reducible apply ev_fld
  | ((with_reducible show Fld _ _ _ _ _); assumption)
  | with_reducible exact rv_I0
  | with_reducible exact ru_neg
  | with_reducible exact rv_eq rfl
  | with_reducible exact rv_ne rfl
  | ((with_reducible apply rv_I); first | decide | omega | assumption)
  | ((with_reducible show _ = _ → EvT _ _ _ _); intro _)
  | ((with_reducible show _ = _ → Ev _ _ _ _); intro _)
  | with_reducible apply et_and
  | with_reducible apply et_or
  | with_reducible apply ev_andV
  | with_reducible apply ev_orV
  | with_reducible apply et_test
  | with_reducible apply et_B
  | with_reducible apply et_not
  | with_reducible apply ev_notV
  | with_reducible apply ev_un
  | with_reducible apply ev_op))

def WiredAt (K : PySem.W.Frag) (m : Nat) (H : Hp) (g : Addr) (M : Ldr) (S : SAd) : Prop := ∃ cl c, cl.map (·.1) = capS ∧ (cl.map (·.2)).Nodup ∧ CloAt H g (Fs cl c) (sws S) ∧ SSem K (m + 1) (hid (cl.map (·.2)) H) S M
theorem hid_dict {l : List Addr} {H : Hp} {a : Addr} {o : HO} (h : hid l H a = some o) : H a = some o ∧ a ∉ l := by
  have n : a ∉ l := fun z => by rw [hid_in z] at h; cases h
  rw [hid_out n] at h
  exact ⟨h, n⟩
theorem WiredAt.kp {K : PySem.W.Frag} {m : Nat} {H H' : Hp} {g : Addr} {M : Ldr} {S : SAd} (h : WiredAt K m H g M S) (k : Kp H H') (d : ∀ o, H S.ds = some o → H' S.ds = some o) : WiredAt K m H' g M S :=
  let ⟨cl, c, h1, h2, h3, h4⟩ := h
  ⟨cl, c, h1, h2, h3.kp k, h4.kp k.hid fun o e => by
    obtain ⟨a, b⟩ := hid_dict e
    rw [hid_out b]
    exact d o a⟩
theorem WiredAt.ex {K : PySem.W.Frag} {m : Nat} {H H' : Hp} {g : Addr} {M : Ldr} {S : SAd} (h : WiredAt K m H g M S) (e : Ex H H') : WiredAt K m H' g M S := h.kp (.of e) fun o => e _ o
theorem WiredAt.ds {K : PySem.W.Frag} {m : Nat} {H : Hp} {g : Addr} {M : Ldr} {S : SAd} (h : WiredAt K m H g M S) : H S.ds = some (.dK (wsT M)) := let ⟨_, _, _, _, _, h4⟩ := h; (hid_dict h4.sizes).1
theorem WiredAt.ok {K : PySem.W.Frag} {m : Nat} {H : Hp} {g : Addr} {M : Ldr} {S : SAd} (h : WiredAt K m H g M S) : LdrOk M := let ⟨_, _, _, _, _, h4⟩ := h; h4.ok
/-- all but some dicts is kept, among them not its sizes -/
theorem WiredAt.mo {K : PySem.W.Frag} {m : Nat} {H H' : Hp} {g : Addr} {M : Ldr} {S : SAd} {ds : List Addr} (h : WiredAt K m H g M S) (mo : Mo ds H H') (hd : ∀ d ∈ ds, ∀ o, H d = some o → isKp o = false) (n : S.ds ∉ ds) : WiredAt K m H' g M S :=
  h.kp (Kp.mo mo hd) fun _ e => mo _ _ e n
def spWL (K : PySem.W.Frag) (m : Nat) : Sp := fun vs H Q _ => ∃ i : Addr × Ldr, vs = [.ref i.1] ∧ (LadderAt K H (m + 1) i.1 i.2 ∧ LdrOk i.2 ∧ Tbs K H) ∧ ∀ v H2, Mo (tAll K) H H2 → Tbs K H2 → (∃ g S, v = .ref g ∧ WiredAt K m H2 g i.2 S ∧ H S.ds = none) → Q v H2
section
variable {w : World} {K : PySem.W.Frag} {mg : Mg} {base : Heap}
theorem c_wired_ladder (T : Tx w K mg base) (B : Tb K mg base) (m : Nat) : Cal PG w K mg base (m + 4) "wired_ladder" (spWL K m) := by
  have TB := B (mkN 6) (by decide +kernel)
  refine cal_of (mkr (p := mkN 6) (N := ["ladder", "wires", "acts", "sizes", "stepped", "rung"]) (ps := ["ladder"]) T.d_wired_ladder (by decide +kernel) (by decide +kernel) (fun vs H Q E ⟨_, he, _⟩ => by rw [he]; rfl) (fun _ _ _ _ _ _ us h => by match us, h with | [_], _ => rfl) ?_) T.g_wired_ladder
  rintro A outer s H vs Q E hr ⟨⟨a, M⟩, rfl, ⟨hL, ok, hT⟩, hQ⟩
  have hL : LadderAt K H (m + 1) a M := hL
  have ok : LdrOk M := ok
  have hT : Tbs K H := hT
  have rl := ok.rl
  have nd : (["ladder", "wires", "acts", "sizes", "stepped", "rung"] : List Str).Nodup := by decide +kernel
  refine ⟨_, 
    (pr_cons (ps_set (i := 1) nd rfl (Or.inr rfl) (pe_lc (own := [("rung", 5)]) (g := gName 5) (tt := tYes) rfl nd (pi_seq (pe_fldT T (pv 0))) (blkOk_by (N := ["ladder", "wires", "acts", "sizes", "stepped", "rung"]) (sc := defScope s_wired_ladder) (own := [("rung", 5)]) (by decide +kernel)) (fun _ _ _ _ _ => (pg_name (i := 5) nd rfl (Or.inl rfl))) (fun _ _ _ _ _ => pts_nil) (fun _ _ _ _ _ => pe_hide (pe_fn T hr (by rfl) T.g_wired pass0 T.kp_wired (pa_cons (pe_fldT T (pv 5)) pa_nil))))) 
    (pr_cons (ps_set (i := 2) nd rfl (Or.inr rfl) (pe_lc (own := [("rung", 5)]) (g := gName 5) (tt := tYes) rfl nd (pi_seq (pe_fldT T (pv 0))) (blkOk_by (N := ["ladder", "wires", "acts", "sizes", "stepped", "rung"]) (sc := defScope s_wired_ladder) (own := [("rung", 5)]) (by decide +kernel)) (fun _ _ _ _ _ => (pg_name (i := 5) nd rfl (Or.inl rfl))) (fun _ _ _ _ _ => pts_nil) (fun _ _ _ _ _ => pe_hide (pe_fn T hr (by rfl) T.g_act_of pass0 T.kp_act_of (pa_cons (pe_fldT T (pv 5)) pa_nil))))) 
    (pr_cons (ps_set (i := 3) nd rfl (Or.inr rfl) (pe_fn T hr (by rfl) T.g_sizes_of pass0 T.kp_sizes_of (pa_cons (pv 0) pa_nil))) 
    (pr_cons (ps_fdef (i := 4) TB rfl rfl rfl rfl rfl (NdefX.ndef_free (sc := defScope s_wired_ladder) (fr := []) (by decide +kernel)) nd rfl rfl) 
    (pr_ret (pv 4)))))), SR.here ?_⟩
  obtain ⟨tr, rs, fr, htr, hrs⟩ := hL.fr T
  have rsl : rs.length = M.rungs.length := paired_len hrs
  have ftr : ∀ {F : Hp}, Mo (tAll K) H F → F tr = some (.tup (rs.map V.ref)) := fun mo => hT.at mo htr (by intro ps z; cases z)
  have frr : ∀ {F : Hp}, Mo (tAll K) H F → Fld K F a "rungs" (.ref tr) := fun mo => fr.it (hT.kp mo).ip
  -- wires
  refine sr_cons (ss_asgLcM (k := false) (xs := rs.map V.ref) (ev_fld (ev_var rfl) fr) (.of htr) (by rw [List.length_map]; omega) (fun _ => rfl)
    (fun i acc F => Mo (tAll K) H F ∧ Tbs K F ∧ ∃ gs : List Addr, acc = gs.map V.ref ∧ Paired (fun g (r : RungV) => WireAt K (m + 1) F g r.1) gs (M.rungs.take i)) (fun i acc F F' ⟨a1, a2, gs, a3, a4⟩ e => ⟨a1.trans (.of e), a2.ex e, gs, a3, L2.Paired.mapP a4 fun _ _ q => q.kp (.of e)⟩) ⟨.of (.refl _), hT, [], rfl, .nil⟩ (fun i acc F ⟨a1, _⟩ => .of (ftr a1)) (fun i acc F x hx ⟨a1, a2, gs, a3, a4⟩ Q' q' => ?_) (fun lw acc H' hlw hlen ⟨a1, a2, gs, a3, a4⟩ => ?_))
  · obtain ⟨ra, r, rfl, hri, hra⟩ := paired_at hrs hx
    obtain ⟨p, fp, hp⟩ := (hra.im (hT.kp a1).ip).part T
    refine (ev_fld (ev_var rfl) fp) F (.refl _) _ fun F1 f1 => ⟨spWired K (m + 1), (c_wired T B (m + 1)).mono (by omega), ⟨p, r.1⟩, rfl, ⟨hp.im (.of f1), (a2.ex f1) 0 (by decide)⟩, fun v F2 b1 b2 ⟨g, b3, b4⟩ => ?_⟩
    have t1 : TabS F1 (tP K 0) (mkQ 0) := (a2.ex f1) 0 (by decide)
    refine q' v F2 ⟨a1.trans ((Mo.of f1).trans (mo_tAll (i := 0) (by decide) b1)), Tbs.mo T (i := 0) (by decide) (a2.ex f1) b1 b2, gs ++ [g], by rw [a3, b3, List.map_append]; rfl, ?_⟩
    rw [take_snoc hri]
    exact paired_snoc (G := fun g (r : RungV) => WireAt K (m + 1) F2 g r.1) b4 (L2.Paired.mapP a4 fun _ _ q => q.kp ((Kp.of f1).trans (kp_tab t1 b1)))
  rw [List.length_map, rsl, List.take_length] at a4
  have eL : Ex (wo lw H') H' := wo_ex
  have mo1 : Mo (tAll K) H H' := a1.trans (.of eL)
  have hT1 : Tbs K H' := a2.ex eL
  have pg : Paired (fun g (r : RungV) => WireAt K (m + 1) H' g r.1) gs M.rungs := L2.Paired.mapP a4 fun _ _ q => q.kp (.of eL)
  rw [a3] at hlw
  clear a1 a2 a3 a4 eL
  have ftr1 : ∀ {F : Hp}, Mo (tAll K) H' F → F tr = some (.tup (rs.map V.ref)) := fun mo => ftr (mo1.trans mo)
  -- acts
  refine show SR _ _ _ H' from sr_cons (ss_asgLcM (k := false) (xs := rs.map V.ref) (ev_fld (ev_var rfl) (frr mo1)) (.of (ftr mo1)) (by rw [List.length_map]; omega) (fun _ => rfl)
    (fun i acc F => Mo (tAll K) H' F ∧ Tbs K F ∧ ∃ gs : List Addr, acc = gs.map V.ref ∧ Paired (fun g (r : RungV) => ActAt F g r.2) gs (M.rungs.take i)) (fun i acc F F' ⟨a1, a2, gs, a3, a4⟩ e => ⟨a1.trans (.of e), a2.ex e, gs, a3, L2.Paired.mapP a4 fun _ _ q => q.kp (.of e)⟩) ⟨.of (.refl _), hT1, [], rfl, .nil⟩ (fun i acc F ⟨a1, _⟩ => .of (ftr1 a1)) (fun i acc F x hx ⟨a1, a2, gs, a3, a4⟩ Q' q' => ?_) (fun lc acc H'' hlc hlen2 ⟨a1, a2, as, a3, a4⟩ => ?_))
  · obtain ⟨ra, r, rfl, hri, hra⟩ := paired_at hrs hx
    obtain ⟨p, fp, hp⟩ := (hra.im (hT.kp (mo1.trans a1)).ip).end_ T
    refine (ev_fld (ev_var rfl) fp) F (.refl _) _ fun F1 f1 => ⟨spActOf K, (c_act_of T B).mono (by omega), ⟨p, r.2⟩, rfl, ⟨hp.im (.of f1), a2.ex f1⟩, fun v F2 b1 b2 ⟨g, b3, b4⟩ => ?_⟩
    refine q' v F2 ⟨a1.trans ((Mo.of f1).trans b1), b2, gs ++ [g], by rw [a3, b3, List.map_append]; rfl, ?_⟩
    rw [take_snoc hri]
    exact paired_snoc (G := fun g (r : RungV) => ActAt F2 g r.2) b4 (L2.Paired.mapP a4 fun _ _ q => q.kp ((Kp.of f1).trans ((a2.ex f1).kp b1)))
  rw [List.length_map, rsl, List.take_length] at a4
  have eL : Ex (wo lc H'') H'' := wo_ex
  have mo2 : Mo (tAll K) H' H'' := a1.trans (.of eL)
  have hT2 : Tbs K H'' := a2.ex eL
  have pa : Paired (fun g (r : RungV) => ActAt H'' g r.2) as M.rungs := L2.Paired.mapP a4 fun _ _ q => q.kp (.of eL)
  have pg2 : Paired (fun g (r : RungV) => WireAt K (m + 1) H'' g r.1) gs M.rungs := L2.Paired.mapP pg fun _ _ q => q.kp (hT1.kp mo2)
  have hlw2 := hT1.at mo2 hlw (by intro ps z; cases z)
  rw [a3] at hlc
  clear a1 a2 a3 a4 eL ftr1 pg hlw
  have mo3 := mo1.trans mo2
  have hL2 : LadderAt K H'' (m + 1) a M := hL.im (hT.kp mo3).ip
  -- sizes
  refine show SR _ _ _ H'' from sr_cons (ss_asgR (R := NewD H'' (wsT M)) (er_fnV (ea_cons (ev_var rfl) ea_nil) ((c_sizes_of T).mono (by omega)) (spP_r ⟨m + 1, a, M⟩ rfl (fun G g => ⟨hL2.im (.of g), ok⟩) fun G1 v G2 g1 _ ⟨p, b1, b2, b3⟩ => ⟨p, b1, fresh_back g1 b2, b3⟩)) fun v F f ⟨ds, ev, hds0, hds⟩ => ?_)
  subst ev
  have hT3 := hT2.ex f
  have pg3 : Paired (fun g (r : RungV) => WireAt K (m + 1) F g r.1) gs M.rungs := L2.Paired.mapP pg2 fun _ _ q => q.kp (.of f)
  have pa3 : Paired (fun g (r : RungV) => ActAt F g r.2) as M.rungs := L2.Paired.mapP pa fun _ _ q => q.kp (.of f)
  refine show SR _ _ _ F from sr_def (by simp [L2.start]) (hT3 6 (by decide)) fun F0 g c' F1 e0 m1 t1 n1 hf hc => ?_
  rintro F2 ⟨ex, trk, nn⟩
  let cl : List (Str × Addr) := [("wires", s.heap.objs.size + 1 + 1 + 1 + 1), ("sizes", s.heap.objs.size + 1 + 1 + 1), ("ladder", s.heap.objs.size + 1), ("acts", s.heap.objs.size + 1 + 1)]
  have hf2 : F1 g = some (FnC g (Fs cl c')) := hf
  have k0 := trk 1 "wires" (s.heap.objs.size + 1 + 1 + 1 + 1) (.ref lw) rfl rfl (by decide +kernel) rfl
  have k1 := trk 3 "sizes" (s.heap.objs.size + 1 + 1 + 1) (.ref ds) rfl rfl (by decide +kernel) rfl
  have k2 := trk 0 "ladder" (s.heap.objs.size + 1) (.ref a) rfl rfl (by decide +kernel) rfl
  have k3 := trk 2 "acts" (s.heap.objs.size + 1 + 1) (.ref lc) rfl rfl (by decide +kernel) rfl
  have n0 := nn "wires" (s.heap.objs.size + 1 + 1 + 1 + 1) rfl
  have n1' := nn "sizes" (s.heap.objs.size + 1 + 1 + 1) rfl
  have n2 := nn "ladder" (s.heap.objs.size + 1) rfl
  have n3 := nn "acts" (s.heap.objs.size + 1 + 1) rfl
  have ca : CloAt F2 g (Fs cl c') (sws ⟨lw, ds, a, lc⟩) := ⟨ex _ _ hf2, ex _ _ hc, .cons k0 (.cons k1 (.cons k2 (.cons k3 .nil)))⟩
  have m0 : Mo [tP K 6] F0 F1 := m1
  have mF : Mo (tAll K) F F1 := (Mo.of e0).trans (mo_tAll (by decide) m0)
  have hn : ∀ x ∈ cl.map (·.2), F1 x = none := fun x hx => by
    have hx : x ∈ [s.heap.objs.size + 1 + 1 + 1 + 1, s.heap.objs.size + 1 + 1 + 1, s.heap.objs.size + 1, s.heap.objs.size + 1 + 1] := hx
    simp only [List.mem_cons, List.not_mem_nil, or_false] at hx
    rcases hx with rfl | rfl | rfl | rfl
    · exact n0
    · exact n1'
    · exact n2
    · exact n3
  have kF : Kp F F1 := hT3.kp mF
  have sem1 : SSem K (m + 1) F1 ⟨lw, ds, a, lc⟩ M := ⟨ok, (hL2.im (.of f)).im kF.ip, ⟨gs, kF _ _ (f _ _ hlw2) rfl, L2.Paired.mapP pg3 fun _ _ q => q.kp kF⟩, ⟨as, kF _ _ (f _ _ hlc) rfl, L2.Paired.mapP pa3 fun _ _ q => q.kp kF⟩, hT3.at mF hds (by intro ps z; cases z)⟩
  have sem2 : SSem K (m + 1) (hid (cl.map (·.2)) F2) ⟨lw, ds, a, lc⟩ M := sem1.ex (hid_new ex hn)
  have ndc : (cl.map (·.2)).Nodup := by
    show ([s.heap.objs.size + 1 + 1 + 1 + 1, s.heap.objs.size + 1 + 1 + 1, s.heap.objs.size + 1, s.heap.objs.size + 1 + 1] : List Nat).Nodup
    generalize s.heap.objs.size = z
    simp
    exact ⟨fun h => absurd (show z + 3 = z from h) (by omega), fun h => absurd (show z + 2 = z from h) (by omega)⟩
  have wa : WiredAt K m F2 g M ⟨lw, ds, a, lc⟩ := ⟨cl, c', rfl, ndc, ca, sem2⟩
  have mo9 : Mo (tAll K) H F2 := mo3.trans ((Mo.of f).trans (mF.trans (.of ex)))
  have hT9 : Tbs K F2 := (Tbs.mo T (by decide) (hT3.ex e0) m0 t1).ex ex
  exact hQ (.ref g) F2 mo9 hT9 ⟨g, ⟨lw, ds, a, lc⟩, rfl, wa, by
    show H ds = none
    cases h : H ds with
    | none => rfl
    | some o =>
      by_cases z : ds ∈ tAll K
      · obtain ⟨i, hi, rfl⟩ := mem_tAll z
        obtain ⟨ps, hps, _⟩ := hT2 i hi
        rw [hps] at hds0; cases hds0
      · rw [mo3 _ _ h z] at hds0; cases hds0⟩
end
end RgK
set_option Elab.async false
set_option linter.all false
set_option maxRecDepth 100000
set_option maxHeartbeats 4000000

/-! The law: cells, mixes, words, names. -/
namespace RgK
open PySem PySem.Spec PyProof.Rows L2 Evl LamX
local macro_rules | `(tactic| walk_at "ev") => `(tactic| repeat' (first
  | with_reducible exact ev_c
  | with_reducible exact ea_nil
  | ((with_reducible apply ev_var); first | rfl | assumption)
  | with_reducible apply ea_cons
  | with_reducible apply ev_fld
  | ((with_reducible show Fld _ _ _ _ _); assumption)
  | with_reducible exact rv_I0
  | with_reducible exact ru_neg
  | with_reducible exact rv_eq rfl
  | with_reducible exact rv_ne rfl
  | ((with_reducible apply rv_I); first | decide | omega | assumption)
  | ((with_reducible show _ = _ → EvT _ _ _ _); intro _)
  | ((with_reducible show _ = _ → Ev _ _ _ _); intro _)
  | with_reducible apply et_and
  | with_reducible apply et_or
  | with_reducible apply ev_andV
  | with_reducible apply ev_orV
  | with_reducible apply et_test
  | with_reducible apply et_B
  | with_reducible apply et_not
  | with_reducible apply ev_notV
  | with_reducible apply ev_un
  | with_reducible apply ev_op))

/-! ### slices -/
def EvO (to : TO) (σ : L2.St) (H : Hp) (o : Option Int) : Prop := ∀ H1, Ex H H1 → ∀ R : Option Int → Hp → Prop, (∀ H2, Ex H1 H2 → R o H2) → to σ H1 R
section
variable {K : PySem.W.Frag} {σ : L2.St} {H : Hp} {te ta tb : TE} {tl th : TO} {lo hi : Option Int} {i : Int}
theorem eo_none : EvO tNoPart σ H none := fun H1 _ R q => q H1 (.refl _)
theorem eo_some (h : Ev te σ H (.int i)) : EvO (tPart te) σ H (some i) := fun H1 e1 R q => h H1 e1 _ fun H2 e2 => ⟨i, rfl, q H2 e2⟩
theorem ev_slS {z : Str} (h : Ev te σ H (.str z)) (hl : EvO tl σ H lo) (hh : EvO th σ H hi) (hz : z.length ≤ 100000) : Ev (tSl rSlS te tl th) σ H (.str (cutS z lo hi)) :=
  fun H1 e1 Q q => h H1 e1 _ fun H2 e2 => hl H2 (e1.trans e2) _ fun H3 e3 => hh H3 (e1.trans (e2.trans e3)) _ fun H4 e4 => ⟨z, rfl, sz_of hz, q H4 (e2.trans (e3.trans e4))⟩
theorem er_slL {a : Addr} {xs : List V} (h : Ev te σ H (.ref a)) (hx : SqL K H a xs) (hl : EvO tl σ H lo) (hh : EvO th σ H hi) : EvR (tSl (rSlL K) te tl th) σ H (NewL H (cutV xs lo hi)) :=
  fun H1 e1 Q q => h H1 e1 _ fun H2 e2 => hl H2 (e1.trans e2) _ fun H3 e3 => hh H3 (e1.trans (e2.trans e3)) _ fun H4 e4 => ⟨a, xs, rfl, ex_l (e1.trans (e2.trans (e3.trans e4))) hx, fun p hp => q _ _ ((e2.trans (e3.trans e4)).trans (.new hp)) ⟨p, rfl, fresh_back (e1.trans (e2.trans (e3.trans e4))) hp, upd_same⟩⟩
theorem cutV_take (xs : List V) (k : Nat) : cutV xs none (some (k : Int)) = xs.take k := by
  unfold cutV
  rw [HT.sIx_none, HT.sIx_nat, List.drop_zero, Nat.sub_zero]
  rcases Nat.le_total k xs.length with h | h
  · rw [Nat.min_eq_left h]
  · rw [Nat.min_eq_right h, List.take_length, List.take_of_length_le h]
theorem cutV_drop (xs : List V) (k : Nat) : cutV xs (some (k : Int)) none = xs.drop k := by
  unfold cutV
  rw [HT.sIx_none, HT.sIx_nat]
  rcases Nat.le_total k xs.length with h | h
  · rw [Nat.min_eq_left h, List.take_of_length_le (by rw [List.length_drop]; exact Nat.le_refl _)]
  · rw [Nat.min_eq_right h, List.drop_length, List.drop_of_length_le h, List.take_nil]
theorem cutV_init (xs : List V) (v : V) : cutV (xs ++ [v]) none (some (-1)) = xs := by
  unfold cutV
  have e : HT.sIx (xs ++ [v]).length (xs ++ [v]).length (some (-1)) = xs.length := by
    show (if (-1 : Int) < 0 then ((-1 : Int) + ((xs ++ [v]).length : Nat)).toNat else min ((-1 : Int).toNat) ((xs ++ [v]).length)) = xs.length
    rw [if_pos (by decide), List.length_append, List.length_singleton]
    omega
  rw [HT.sIx_none, e, List.drop_zero, Nat.sub_zero, List.take_left']
  rfl
theorem cutS_take (z : Str) (k : Nat) : (cutS z none (some (k : Int))).cps.toList = z.cps.toList.take k := by
  unfold cutS
  rw [HT.sIx_none, HT.sIx_nat, List.drop_zero, Nat.sub_zero, List.toList_toArray]
  have hl : z.length = z.cps.toList.length := by rw [Array.length_toList]; rfl
  rw [hl]
  rcases Nat.le_total k z.cps.toList.length with h | h
  · rw [Nat.min_eq_left h]
  · rw [Nat.min_eq_right h, List.take_length, List.take_of_length_le h]
theorem cutS_drop (z : Str) (k : Nat) : (cutS z (some (k : Int)) none).cps.toList = z.cps.toList.drop k := by
  unfold cutS
  have hl : z.length = z.cps.toList.length := by rw [Array.length_toList]; rfl
  rw [HT.sIx_none, HT.sIx_nat, List.toList_toArray, hl]
  rcases Nat.le_total k z.cps.toList.length with h | h
  · rw [Nat.min_eq_left h, List.take_of_length_le (by rw [List.length_drop]; exact Nat.le_refl _)]
  · rw [Nat.min_eq_right h, List.drop_length, List.drop_of_length_le h, List.take_nil]
theorem str_app (a b : Str) : (a ++ b).cps.toList = a.cps.toList ++ b.cps.toList := by
  show (a.cps ++ b.cps).toList = _
  exact Array.toList_append
theorem str_len (a : Str) : a.length = a.cps.toList.length := by rw [Array.length_toList]; rfl
theorem str_ext {a b : Str} (h : a.cps.toList = b.cps.toList) : a = b := by
  cases a with
  | mk x =>
    cases b with
    | mk y => exact congrArg Str.mk (Array.toList_inj.mp h)
theorem rv_addS {a b : Str} (h : a.length + b.length ≤ 100000) : RV (fun x y H Q => ∃ i j, x = .str i ∧ y = .str j ∧ i.length + j.length ≤ sizeLine ∧ Q (.str (i ++ j)) H) (.str a) (.str b) H (.str (a ++ b)) := fun H1 _ Q q => ⟨a, b, rfl, rfl, sz_of h, q H1 (.refl _)⟩
theorem rv_ixS {z : Str} {j c : Nat} (hz : z.length ≤ 100000) (h : z.cps.toList[j]? = some c) : RV rIxS (.str z) (.int (j : Nat)) H (.str ⟨#[c]⟩) := fun H1 _ Q q => ⟨z, (j : Int), c, rfl, rfl, sz_of hz, atI_nat h, q H1 (.refl _)⟩
end
/-! ### cells, mixes -/
def cellF (ns : List Int) (k : Nat) : Int := ns.getD k 0
def mix0 (c k : Int) : Int := (c + 7919 * k + 11) * 48271 % 2147483647
def mixF (c k : Int) : Int := (mix0 c k * mix0 c k + 40692 * mix0 c k) % 2147483399
theorem mixF_range (c k : Int) : 0 ≤ mixF c k ∧ mixF c k < 2147483399 := ⟨Int.emod_nonneg _ (by decide), Int.emod_lt_of_pos _ (by decide)⟩
theorem mix0_range (c k : Int) : 0 ≤ mix0 c k ∧ mix0 c k < 2147483647 := ⟨Int.emod_nonneg _ (by decide), Int.emod_lt_of_pos _ (by decide)⟩
structure CAArg where
  a : Addr
  ns : List Int
  k : Nat
section
variable {w : World} {K : PySem.W.Frag} {mg : Mg} {base : Heap}
def spCell (K : PySem.W.Frag) : Sp := spP (ι := CAArg) (fun i => [.ref i.a, .int (i.k : Nat)]) (fun i H => SqL K H i.a (i.ns.map V.int)) (fun i H v H2 => v = .int (cellF i.ns i.k))
theorem c_cell_at (T : Tx w K mg base) : Cal PG w K mg base 1 "_law_cell_at" (spCell K) := by
  refine cal_of (fnd ["_law_script", "_law_k"] ["_law_script", "_law_k"] T.d_law_cell_at (by decide +kernel) (spP_len fun _ => rfl) (fun _ _ _ _ _ _ us h => by match us, h with | [_, _], _ => rfl) ?_) T.g_law_cell_at
  rintro cdv A outer s H vs Q E hr ⟨⟨a, ns, k⟩, rfl, hx, hQ⟩
  have hx : SqL K H a (ns.map V.int) := hx
  refine ⟨_, 
    (pss_cons (ps_if (pt_cmpR op_lt (pv 1) (pe_callB call_len_seq (by rfl) T.f_len (by decide +kernel) (pa_cons (pv 0) pa_nil)) (nomark _)) 
    (pss_cons (ps_ret (pe_ix (ix_lT T) (pv 0) (pv 1) (fun _ _ => rfl))) pss_nil) pss_nil) 
    (pss_cons (ps_ret pe_int) pss_nil)), SS.here ?_⟩
  refine ss_when (b := decide ((k : Int) < ((ns.map V.int).length : Nat))) (et_test (ev_op (ev_var rfl) (ev_lenS (k := true) (ev_var rfl) hx) rv_I0)) (fun hb => ?_) fun hb => ?_
  · have hk : k < ns.length := by have := of_decide_eq_true hb; rw [List.length_map] at this; omega
    refine ss_ret (v := .int (cellF ns k)) (ev_op (ev_var rfl) (ev_var rfl) (rv_ixL hx (atI_nat ?_))) fun H1 e1 => hQ _ H1 e1 rfl
    rw [List.getElem?_map, List.getElem?_eq_getElem hk]
    unfold cellF
    rw [List.getD_eq_getElem?_getD, List.getElem?_eq_getElem hk]
    rfl
  · have hk : ¬ k < ns.length := by have := of_decide_eq_false hb; rw [List.length_map] at this; omega
    refine ss_ret ev_c fun H1 e1 => hQ _ H1 e1 ?_
    show _ = V.int (cellF ns k)
    unfold cellF
    rw [List.getD_eq_getElem?_getD, List.getElem?_eq_none (by omega)]
    rfl
def spMixed : Sp := spP (ι := Int × Int) (fun i => [.int i.1, .int i.2]) (fun _ _ => True) (fun i _ v _ => v = .int (mixF i.1 i.2))
theorem c_mixed (T : Tx w K mg base) : Cal PG w K mg base 1 "_law_mixed" spMixed := by
  refine cal_of (fnd ["_law_cell", "_law_k", "_law_mix"] ["_law_cell", "_law_k"] T.d_law_mixed (by decide +kernel) (spP_len fun _ => rfl) (fun _ _ _ _ _ _ us h => by match us, h with | [_, _], _ => rfl) ?_) T.g_law_mixed
  rintro cdv A outer s H vs Q E hr ⟨⟨c, k⟩, rfl, -, hQ⟩
  have nd : (["_law_cell", "_law_k", "_law_mix"] : List Str).Nodup := by decide +kernel
  refine ⟨_, 
    (pss_cons (ps_set (i := 2) nd rfl (Or.inl rfl) (pe_op op_mod (pe_op op_mul (pe_op op_add (pe_op op_add (pv 0) (pe_op op_mul pe_int (pv 1))) pe_int) pe_int) pe_int)) 
    (pss_cons (ps_ret (pe_op op_mod (pe_op op_add (pe_op op_mul (pv 2) (pv 2)) (pe_op op_mul pe_int (pv 2))) pe_int)) pss_nil)), SS.here ?_⟩
  have h0 := mix0_range c k
  refine ss_asg (v := .int (mix0 c k)) (ev_op (ev_op (ev_op (ev_op (ev_var rfl) (ev_op ev_c (ev_var rfl) (rv_I (.inl ⟨by decide, by decide⟩))) rv_I0) ev_c rv_I0) ev_c (rv_I (.inr ⟨by decide, by decide⟩))) ev_c (rv_I (by decide))) ?_
  refine ss_ret (v := .int (mixF c k)) (ev_op (ev_op (ev_op (ev_var rfl) (ev_var rfl) (rv_I (.inl ⟨by omega, by omega⟩))) (ev_op ev_c (ev_var rfl) (rv_I (.inl ⟨by decide, by decide⟩))) rv_I0) ev_c (rv_I (by decide))) fun H1 e1 => hQ _ H1 e1 rfl
theorem ev_mixed (T : Tx w K mg base) {j : Nat} {σ : L2.St} {H : Hp} {ta tb : TE} {c k : Int} {E : L2.St → XK} (ha : Ev ta σ H (.int c)) (hb : Ev tb σ H (.int k)) : Ev (tFn (Cal PG w K mg base (j + 1) "_law_mixed") E (tCons ta (tCons tb tNil))) σ H (.int (mixF c k)) :=
  ev_fnV (ea_cons ha (ea_cons hb ea_nil)) ((c_mixed T).mono (by omega)) (spP_r (c, k) rfl (fun _ _ => trivial) fun _ _ _ _ _ r => r)
theorem ev_cell (T : Tx w K mg base) {j : Nat} {σ : L2.St} {H : Hp} {ta tb : TE} {a : Addr} {ns : List Int} {k : Nat} {E : L2.St → XK} (hx : SqL K H a (ns.map V.int)) (ha : Ev ta σ H (.ref a)) (hb : Ev tb σ H (.int (k : Nat))) : Ev (tFn (Cal PG w K mg base (j + 1) "_law_cell_at") E (tCons ta (tCons tb tNil))) σ H (.int (cellF ns k)) :=
  ev_fnV (ea_cons ha (ea_cons hb ea_nil)) ((c_cell_at T).mono (by omega)) (spP_r ⟨a, ns, k⟩ rfl (fun H1 e1 => ex_l e1 hx) fun _ _ _ _ _ r => r)
/-! ### words -/
def Letters (l : List Nat) : Prop := ∀ c ∈ l, c ∈ signs
theorem signs_len : signs.length = 26 := by decide +kernel
def spLWord : Sp := spP (ι := Int × Nat) (fun i => [.int i.1, .int (i.2 : Nat)]) (fun i _ => i.2 ≤ 100) (fun i _ v _ => ∃ w : Str, v = .str w ∧ w.cps.toList.length = i.2 ∧ Letters w.cps.toList)
theorem c_word (T : Tx w K mg base) : Cal PG w K mg base 2 "_law_word" spLWord := by
  refine cal_of (fnd ["_law_cell", "_law_size_here", "_law_signs", "_law_word_here", "_law_k"] ["_law_cell", "_law_size_here"] T.d_law_word (by decide +kernel) (spP_len fun _ => rfl) (fun _ _ _ _ _ _ us h => by match us, h with | [_, _], _ => rfl) ?_) T.g_law_word
  rintro cdv A outer s H vs Q E hr ⟨⟨c, n⟩, rfl, hn, hQ⟩
  have hn : n ≤ 100 := hn
  have nd : (["_law_cell", "_law_size_here", "_law_signs", "_law_word_here", "_law_k"] : List Str).Nodup := by decide +kernel
  refine ⟨_, 
    (pss_cons (ps_set (i := 2) nd rfl (Or.inl rfl) pe_str) 
    (pss_cons (ps_set (i := 3) nd rfl (Or.inl rfl) pe_str) 
    (pss_cons (ps_for (passes_of rfl) rfl (pi_range1 (by rfl) T.f_range (pa_cons (pv 1) pa_nil)) (pg_name (i := 4) nd rfl (Or.inl rfl)) 
    (pss_cons (ps_aug (i := 3) nd rfl (Or.inl rfl) (pe_ix ix_str (pv 2) (pe_op op_mod (pe_op op_fdiv (pe_fn T hr (by rfl) T.g_law_mixed pass0 T.kp_law_mixed (pa_cons (pv 0) (pa_cons (pv 4) pa_nil))) pe_int) pe_int) (fun _ _ => rfl)) iop_add_str) pss_nil)) 
    (pss_cons (ps_ret (pv 3)) pss_nil)))), SS.here ?_⟩
  refine ss_asg ev_c (ss_asg ev_c ?_)
  refine ss_forR (n := n) (ea_cons (ev_var rfl) ea_nil) (by omega) (fun i σ' F => ∃ (o : Option V) (w : Str), σ' = [some (.int c), some (.int (n : Nat)), some (.str "abcdefghijklmnopqrstuvwxyz"), some (.str w), o] ∧ Ex H F ∧ w.cps.toList.length = i ∧ Letters w.cps.toList) (fun F e => ⟨none, "", rfl, e, rfl, fun c h => by cases h⟩) ?_ ?_
  · rintro i σ' F hi ⟨o, w, rfl, e, hl, hw⟩
    have hm := mixF_range c i
    obtain ⟨j, hj⟩ : ∃ j : Nat, mixF c i / 31 % 26 = (j : Int) := Int.eq_ofNat_of_zero_le (Int.emod_nonneg _ (by decide))
    have hj26 : j < 26 := by have := Int.emod_lt_of_pos (mixF c i / 31) (show (0 : Int) < 26 by decide); omega
    have hsj : j < signs.length := by rw [signs_len]; exact hj26
    have hat : signs[j]? = some signs[j] := List.getElem?_eq_getElem hsj
    refine ss_aug rfl (ev_op (ev_var rfl) (ev_is (ev_op (ev_op (ev_mixed T (ev_var rfl) (ev_var rfl)) ev_c (rv_I ⟨by decide, by decide⟩)) ev_c (rv_I (by decide))) (congrArg V.int hj)) (rv_ixS (by decide +kernel) hat)) (rv_addS ?_) (ss_end fun F1 f1 => ⟨_, _, rfl, e.trans f1, ?_, ?_⟩)
    · rw [str_len, hl]
      show i + 1 ≤ 100000
      omega
    · rw [str_app, List.length_append, hl]; rfl
    · rw [str_app]
      intro d hd
      rcases List.mem_append.mp hd with h | h
      · exact hw d h
      · have h : d ∈ [signs[j]] := h
        rw [List.mem_singleton.mp h]
        exact List.getElem_mem hsj
  · rintro σ' F ⟨o, w, rfl, e, hl, hw⟩
    exact SS.here (ss_ret (ev_var rfl) fun F1 f1 => hQ _ F1 (e.trans f1) ⟨w, rfl, hl, hw⟩)
theorem er_word (T : Tx w K mg base) {j n : Nat} {σ : L2.St} {H : Hp} {ta tb : TE} {c : Int} {E : L2.St → XK} (hn : n ≤ 100) (ha : Ev ta σ H (.int c)) (hb : Ev tb σ H (.int (n : Nat))) : EvR (tFn (Cal PG w K mg base (j + 2) "_law_word") E (tCons ta (tCons tb tNil))) σ H (fun v _ => ∃ w : Str, v = .str w ∧ w.cps.toList.length = n ∧ Letters w.cps.toList) :=
  er_fnV (ea_cons ha (ea_cons hb ea_nil)) ((c_word T).mono (by omega)) (spP_r (c, n) rfl (fun _ _ => hn) fun _ _ _ _ _ r => r)
end
end RgK
set_option Elab.async false
set_option linter.all false
set_option maxRecDepth 100000
set_option maxHeartbeats 4000000

/-! The law: names. -/
namespace RgK
open PySem PySem.Spec PyProof.Rows L2 Evl LamX
local macro_rules | `(tactic| walk_at "ev") => `(tactic| repeat' (first
  | with_reducible exact ev_c
  | with_reducible exact ea_nil
  | ((with_reducible apply ev_var); first | rfl | assumption)
  | with_reducible apply ea_cons
  | with_reducible apply ev_fld
  | ((with_reducible show Fld _ _ _ _ _); assumption)
  | with_reducible exact rv_I0
  | with_reducible exact ru_neg
  | with_reducible exact rv_eq rfl
  | with_reducible exact rv_ne rfl
  | ((with_reducible apply rv_I); first | decide | omega | assumption)
  | ((with_reducible show _ = _ → EvT _ _ _ _); intro _)
  | ((with_reducible show _ = _ → Ev _ _ _ _); intro _)
  | with_reducible apply et_and
  | with_reducible apply et_or
  | with_reducible apply ev_andV
  | with_reducible apply ev_orV
  | with_reducible apply et_test
  | with_reducible apply et_B
  | with_reducible apply et_not
  | with_reducible apply ev_notV
  | with_reducible apply ev_un
  | with_reducible apply ev_op))

def sgL : List Nat := [98, 106, 107, 113, 122, 98, 106, 107, 113]
def sgc (k : Nat) : Nat := sgL.getD k 0
def sg0 (k : Nat) : List Nat := if k < 5 then [sgc k] else [sgc k, 119]
def SgOk (p : Bool) (k : Nat) (sg : List Nat) : Prop := if p then ∃ q : List Nat, q.length = (if k < 5 then 2 else 1) ∧ Letters q ∧ sg = q ++ sg0 k else sg = sg0 k
def NmAt (b : List Nat) (n : Nat) (p : Bool) (k : Nat) (x : Str) : Prop := ∃ sg, SgOk p k sg ∧ x.cps.toList = b.take n ++ sg ++ b.drop n
theorem sgc_in : ∀ k : Fin 9, sgc k.val ∈ signs ∧ sgc k.val ∈ [98, 106, 107, 113, 122] := by decide +kernel
theorem w_in : 119 ∈ signs := by decide +kernel
theorem sg0_let {k : Nat} (h : k < 9) : Letters (sg0 k) := fun c hc => by
  unfold sg0 at hc
  split at hc
  · rw [List.mem_singleton.mp hc]; exact (sgc_in ⟨k, h⟩).1
  · rcases List.mem_cons.mp hc with rfl | hc
    · exact (sgc_in ⟨k, h⟩).1
    · rw [List.mem_singleton.mp hc]; exact w_in
theorem sg0_mem {k : Nat} : sgc k ∈ sg0 k := by
  unfold sg0
  split <;> simp
theorem sgOk_let {p : Bool} {k : Nat} {sg : List Nat} (h : k < 9) (o : SgOk p k sg) : Letters sg ∧ sgc k ∈ sg ∧ sg.length ≤ 3 ∧ 1 ≤ sg.length := by
  unfold SgOk at o
  have l0 : (sg0 k).length = if k < 5 then 1 else 2 := by unfold sg0; split <;> rfl
  cases p with
  | true =>
    rw [if_pos rfl] at o
    obtain ⟨q, hq, hl, rfl⟩ := o
    refine ⟨fun c hc => ?_, List.mem_append_right _ sg0_mem, ?_, ?_⟩
    · rcases List.mem_append.mp hc with z | z
      · exact hl c z
      · exact sg0_let h c z
    · rw [List.length_append, hq, l0]; split <;> omega
    · rw [List.length_append, hq, l0]; split <;> omega
  | false =>
    rw [if_neg (by decide)] at o
    subst o
    refine ⟨sg0_let h, sg0_mem, ?_, ?_⟩
    · rw [l0]; split <;> omega
    · rw [l0]; split <;> omega
def bads : List Nat := [98, 106, 107, 113, 122]
theorem kept_nobad : ∀ y ∈ keptL ++ [("inx" : Str), "iny"], ∀ c ∈ y.cps.toList, c ∉ bads := by decide +kernel
structure NmOk (x : Str) : Prop where
  nm : nameB x = true
  len : x.length ≤ 8
  x1 : x ≠ "inx"
  x2 : x ≠ "iny"
theorem nm_ok {b : List Nat} {n k : Nat} {p : Bool} {x : Str} (hb : Letters b) (hl : b.length ≤ 5) (hk : k < 9) (h : NmAt b n p k x) : NmOk x := by
  obtain ⟨sg, ho, hx⟩ := h
  obtain ⟨h1, h2, h3, h4⟩ := sgOk_let hk ho
  have hlet : Letters x.cps.toList := fun c hc => by
    rw [hx] at hc
    rcases List.mem_append.mp hc with z | z
    · rcases List.mem_append.mp z with z | z
      · exact hb c (List.mem_of_mem_take z)
      · exact h1 c z
    · exact hb c (List.mem_of_mem_drop z)
  have hlen : x.length ≤ 8 := by
    rw [str_len, hx, List.length_append, List.length_append, List.length_take, List.length_drop]
    omega
  have hbad : ∃ c ∈ x.cps.toList, c ∈ bads := ⟨sgc k, by rw [hx]; exact List.mem_append_left _ (List.mem_append_right _ h2), (sgc_in ⟨k, hk⟩).2⟩
  have hno : ∀ y ∈ keptL ++ [("inx" : Str), "iny"], x ≠ y := fun y hy e => by
    obtain ⟨c, hc, hd⟩ := hbad
    rw [e] at hc
    exact kept_nobad y hy c hc hd
  refine ⟨?_, hlen, hno _ (by simp), hno _ (by simp)⟩
  unfold nameB
  have e1 : wordB x = true := by
    unfold wordB
    rw [Bool.and_eq_true]
    refine ⟨List.all_eq_true.mpr fun c hc => decide_eq_true (hlet c hc), ?_⟩
    rw [Bool.not_eq_true', decide_eq_false_iff_not]
    intro e
    obtain ⟨c, hc, _⟩ := hbad
    rw [e] at hc
    cases hc
  rw [e1, inV_str, decide_eq_true (by omega : (x.length : Int) ≤ 8), decide_eq_false (fun z => hno x (List.mem_append_left _ z) rfl)]
  rfl
theorem sg_inj {p : Bool} {i j : Nat} {sg : List Nat} (hi : i < 9) (hj : j < 9) (a : SgOk p i sg) (b : SgOk p j sg) : i = j := by
  have all : ∀ i j : Fin 9, sgc i.val = sgc j.val → (i.val < 5 ↔ j.val < 5) → i = j := by decide +kernel
  have no : ∀ i : Fin 9, sgc i.val ≠ 119 := by decide +kernel
  have fin : sgc i = sgc j → (i < 5 ↔ j < 5) → i = j := fun e h => by
    have := all ⟨i, hi⟩ ⟨j, hj⟩ e h
    exact congrArg Fin.val this
  unfold SgOk at a b
  cases p with
  | false =>
    rw [if_neg (by decide)] at a b
    rw [a] at b
    unfold sg0 at b
    by_cases h1 : i < 5
    · by_cases h2 : j < 5
      · rw [if_pos h1, if_pos h2] at b
        exact fin (List.cons.inj b).1 (by simp [h1, h2])
      · rw [if_pos h1, if_neg h2] at b
        cases (List.cons.inj b).2
    · by_cases h2 : j < 5
      · rw [if_neg h1, if_pos h2] at b
        cases (List.cons.inj b).2
      · rw [if_neg h1, if_neg h2] at b
        exact fin (List.cons.inj b).1 (by simp [h1, h2])
  | true =>
    rw [if_pos rfl] at a b
    obtain ⟨q, hq, _, rfl⟩ := a
    obtain ⟨q', hq', _, e⟩ := b
    unfold sg0 at e
    by_cases h1 : i < 5
    · rw [if_pos h1] at hq e
      by_cases h2 : j < 5
      · rw [if_pos h2] at hq' e
        match q, q', hq, hq' with
        | [a, b], [c, d], _, _ =>
          simp at e
          exact fin e.2.2 (by simp [h1, h2])
      · rw [if_neg h2] at hq' e
        match q, q', hq, hq' with
        | [a, b], [c], _, _ =>
          simp at e
          exact absurd e.2.2 (no ⟨i, hi⟩)
    · rw [if_neg h1] at hq e
      by_cases h2 : j < 5
      · rw [if_pos h2] at hq' e
        match q, q', hq, hq' with
        | [a], [c, d], _, _ =>
          simp at e
          exact absurd e.2.2.symm (no ⟨j, hj⟩)
      · rw [if_neg h2] at hq' e
        match q, q', hq, hq' with
        | [a], [c], _, _ =>
          simp at e
          exact fin e.2 (by simp [h1, h2])
structure NamesOk (xs : List Str) : Prop where
  len : xs.length = 9
  nd : xs.Nodup
  ok : ∀ x ∈ xs, NmOk x
theorem names_ok {b : List Nat} {n : Nat} {p : Bool} {xs : List Str} (hb : Letters b) (hl : b.length ≤ 5) (h9 : xs.length = 9) (h : ∀ k x, xs[k]? = some x → NmAt b n p k x) : NamesOk xs := by
  refine ⟨h9, ?_, fun x hx => ?_⟩
  · refine List.pairwise_iff_getElem.mpr fun i j hi hj hij e => ?_
    have e1 : xs[i]? = some xs[i] := List.getElem?_eq_getElem hi
    have e2 : xs[j]? = some xs[i] := by rw [e]; exact List.getElem?_eq_getElem hj
    obtain ⟨s1, a1, a2⟩ := h i _ e1
    obtain ⟨s2, b1, b2⟩ := h j _ e2
    rw [a2] at b2
    have : s1 = s2 := List.append_cancel_left (List.append_cancel_right b2)
    rw [← this] at b1
    have := sg_inj (by omega) (by omega) a1 b1
    omega
  · obtain ⟨k, hk⟩ := List.mem_iff_getElem?.mp hx
    have : k < xs.length := (List.getElem?_eq_some_iff.mp hk).1
    exact nm_ok hb hl (by omega) (h k x hk)
def fixN : List Str := ["note", "orb", "onx", "brand", "floor", "knot", "offs", "counters", "nots"]
theorem fix_ok : NamesOk fixN := by
  have a : fixN.length = 9 ∧ fixN.Nodup ∧ ∀ x ∈ fixN, nameB x = true ∧ x.length ≤ 8 ∧ x ≠ "inx" ∧ x ≠ "iny" := by decide +kernel
  exact ⟨a.1, a.2.1, fun x hx => let ⟨h1, h2, h3, h4⟩ := a.2.2 x hx; ⟨h1, h2, h3, h4⟩⟩
section
variable {w : World} {K : PySem.W.Frag} {mg : Mg} {base : Heap}
theorem rv_repS0 {H : Hp} {z : Str} : RV rRepS (.str z) (.int 0) H (.str Str.empty) := fun H1 _ Q q => ⟨z, 0, rfl, rfl, .inl ⟨rfl, q H1 (.refl _)⟩⟩
theorem rv_repS1 {H : Hp} {z : Str} : RV rRepS (.str z) (.int 1) H (.str z) := fun H1 _ Q q => ⟨z, 1, rfl, rfl, .inr ⟨rfl, q H1 (.refl _)⟩⟩
def spLNames : Sp := spP (ι := Int) (fun i => [.int i]) (fun _ _ => True) (fun i H v H2 => ∃ xs : List Str, NewL H (xs.map V.str) v H2 ∧ NamesOk xs)
theorem c_names (T : Tx w K mg base) : Cal PG w K mg base 3 "_law_names" spLNames := by
  refine cal_of (fnd ["_law_cell", "_law_base", "_law_at", "_law_names_here", "_law_k", "_law_sign"] ["_law_cell"] T.d_law_names (by decide +kernel) (spP_len fun _ => rfl) (fun _ _ _ _ _ _ us h => by match us, h with | [_], _ => rfl) ?_) T.g_law_names
  rintro cdv A outer s H vs Q E hr ⟨c0, rfl, -, hQ⟩
  have nd : (["_law_cell", "_law_base", "_law_at", "_law_names_here", "_law_k", "_law_sign"] : List Str).Nodup := by decide +kernel
  refine ⟨_, 
    (pss_cons (ps_set (i := 0) nd rfl (Or.inl rfl) (pe_fn T hr (by rfl) T.g_law_mixed pass0 T.kp_law_mixed (pa_cons (pv 0) (pa_cons pe_int pa_nil)))) 
    (pss_cons (ps_set (i := 1) nd rfl (Or.inl rfl) (pe_fn T hr (by rfl) T.g_law_word pass0 T.kp_law_word (pa_cons (pv 0) (pa_cons (pe_op op_mod (pv 0) pe_int) pa_nil)))) 
    (pss_cons (ps_set (i := 2) nd rfl (Or.inl rfl) (pe_op op_mod (pe_op op_fdiv (pv 0) pe_int) pe_int)) 
    (pss_cons (ps_set (i := 3) nd rfl (Or.inl rfl) (pe_lst pa_nil)) 
    (pss_cons (ps_for (passes_of rfl) rfl (pi_range1 (by rfl) T.f_range (pa_cons pe_int pa_nil)) (pg_name (i := 4) nd rfl (Or.inl rfl)) 
    (pss_cons (ps_set (i := 5) nd rfl (Or.inl rfl) (pe_op op_add_str (pe_ix ix_str pe_str (pv 4) (fun _ _ => rfl)) (pe_op op_repS (pe_slice sl_str pe_str (po_some (pe_op op_fdiv (pv 4) pe_int)) (po_some (pe_op op_add (pe_op op_fdiv (pv 4) pe_int) pe_int))) (pe_callTy call_int1 (by rfl) T.f_int (by decide +kernel) (pa_cons (pe_cmpR op_gt (pv 4) pe_int (nomark _)) pa_nil))))) 
    (pss_cons (ps_if (pt_cmpR op_eq (pe_op op_mod (pe_op op_fdiv (pv 0) pe_int) pe_int) pe_int (nomark _)) 
    (pss_cons (ps_set (i := 5) nd rfl (Or.inl rfl) (pe_op op_add_str (pe_slice sl_str (pe_fn T hr (by rfl) T.g_law_word pass0 T.kp_law_word (pa_cons (pe_fn T hr (by rfl) T.g_law_mixed pass0 T.kp_law_mixed (pa_cons (pv 0) (pa_cons (pe_op op_add pe_int (pv 4)) pa_nil))) (pa_cons pe_int pa_nil))) po_none (po_some (pe_op op_add pe_int (pe_callTy call_int1 (by rfl) T.f_int (by decide +kernel) (pa_cons (pe_cmpR op_lt (pv 4) pe_int (nomark _)) pa_nil))))) (pv 5))) pss_nil) pss_nil) 
    (pss_cons (ps_expr (pe_bm PySem.F.plainAttrs_list PySem.F.slot_list_append PySem.F.type_list_append mt_append (pv 3) (pa_cons (pe_op op_add_str (pe_op op_add_str (pe_slice sl_str (pv 1) po_none (po_some (pv 2))) (pv 5)) (pe_slice sl_str (pv 1) (po_some (pv 2)) po_none)) pa_nil))) pss_nil)))) 
    (pss_cons (ps_if (pt_cmpR op_eq (pe_op op_mod (pe_op op_fdiv (pv 0) pe_int) pe_int) pe_int (nomark _)) 
    (pss_cons (ps_set (i := 3) nd rfl (Or.inl rfl) (pe_lst (pa_cons pe_str (pa_cons pe_str (pa_cons pe_str (pa_cons pe_str (pa_cons pe_str (pa_cons pe_str (pa_cons pe_str (pa_cons pe_str (pa_cons pe_str pa_nil))))))))))) pss_nil) pss_nil) 
    (pss_cons (ps_ret (pv 3)) pss_nil))))))), SS.here ?_⟩
  refine ss_asg (ev_mixed T (ev_var rfl) ev_c) ?_
  have hm := mixF_range c0 3
  generalize mixF c0 3 = c at hm
  obtain ⟨n6, hn6⟩ : ∃ j : Nat, c % 6 = (j : Int) := Int.eq_ofNat_of_zero_le (Int.emod_nonneg _ (by decide))
  obtain ⟨n, hn⟩ : ∃ j : Nat, c / 6 % 6 = (j : Int) := Int.eq_ofNat_of_zero_le (Int.emod_nonneg _ (by decide))
  have l6 : n6 < 6 := by have := Int.emod_lt_of_pos c (show (0 : Int) < 6 by decide); omega
  have ln : n < 6 := by have := Int.emod_lt_of_pos (c / 6) (show (0 : Int) < 6 by decide); omega
  refine ss_asgR (er_word T (n := n6) (by omega) (ev_var rfl) (ev_is (ev_op (ev_var rfl) ev_c (rv_I (by decide))) (congrArg V.int hn6))) fun v H1 e1 ⟨bs, ev, hbl, hb⟩ => ?_
  subst ev
  have hb5 : bs.cps.toList.length ≤ 5 := by omega
  have hbs : bs.length ≤ 5 := by rw [str_len]; exact hb5
  refine ss_asg (v := .int (n : Nat)) (ev_is (ev_op (ev_op (ev_var rfl) ev_c (rv_I ⟨by decide, by decide⟩)) ev_c (rv_I (by decide))) (congrArg V.int hn)) ?_
  refine ss_asgR (er_lstV (vs := []) ea_nil (by decide)) fun v H2 e2 ⟨l, ev, hl0, hl⟩ => ?_
  subst ev
  have hlH : H l = none := fresh_back e1 hl0
  refine ss_forR (n := 9) (ea_cons ev_c ea_nil) (by omega) (fun i σ' F => ∃ (o4 o5 : Option V) (xs : List Str), σ' = [some (.int c), some (.str bs), some (.int (n : Nat)), some (.ref l), o4, o5] ∧ Ex H F ∧ F l = some (.lst (xs.map V.str)) ∧ xs.length = i ∧ ∀ k x, xs[k]? = some x → NmAt bs.cps.toList n (decide (c / 36 % 2 = 1)) k x)
    (fun F f => ⟨none, none, [], rfl, e1.trans (e2.trans f), f _ _ hl, rfl, fun k x h => by simp at h⟩) ?_ ?_
  · rintro i σ' F hi ⟨o4, o5, xs, rfl, e, hlF, hlen, hnm⟩
    have hat : ("bjkqzbjkq" : Str).cps.toList[i]? = some (sgc i) := by
      have all : ∀ i : Fin 9, ("bjkqzbjkq" : Str).cps.toList[i.val]? = some (sgc i.val) := by decide +kernel
      exact all ⟨i, hi⟩
    have sign : ∃ s0 : Str, s0.cps.toList = sg0 i ∧ Ev (tOp (fun x y H Q => ∃ i j, x = .str i ∧ y = .str j ∧ i.length + j.length ≤ sizeLine ∧ Q (.str (i ++ j)) H) (tOp rIxS (tC (.str "bjkqzbjkq")) (tVar 4)) (tOp rRepS (tSl rSlS (tC (.str "vw")) (tPart (tOp (rI CDiv fun i j => .int (i / j)) (tVar 4) (tC (.int 5)))) (tPart (tOp (rI0 fun i j => .int (i + j)) (tOp (rI CDiv fun i j => .int (i / j)) (tVar 4) (tC (.int 5))) (tC (.int 1))))) (tCB (fun xs H Q => (∃ i, xs = [V.int i] ∧ Q (V.int i) H) ∨ ∃ k, xs = [V.bl k] ∧ Q (V.int (if k = true then 1 else 0)) H) (tCons (tOp (rI0 fun i j => .bl (decide (j < i))) (tVar 4) (tC (.int 4))) tNil))))
        [some (.int c), some (.str bs), some (.int (n : Nat)), some (.ref l), some (.int (i : Nat)), o5] F (.str s0) := by
      have ec : Ev (tCB (fun xs H Q => (∃ i, xs = [V.int i] ∧ Q (V.int i) H) ∨ ∃ k, xs = [V.bl k] ∧ Q (V.int (if k = true then 1 else 0)) H) (tCons (tOp (rI0 fun i j => .bl (decide (j < i))) (tVar 4) (tC (.int 4))) tNil)) [some (.int c), some (.str bs), some (.int (n : Nat)), some (.ref l), some (.int (i : Nat)), o5] F (.int (b2n (decide ((4 : Int) < (i : Int))))) := ev_cb (ea_cons (ev_op (ev_var rfl) ev_c rv_I0) ea_nil) rc_intB
      have ed : Ev (tOp (rI CDiv fun i j => V.int (i / j)) (tVar 4) (tC (.int 5))) [some (.int c), some (.str bs), some (.int (n : Nat)), some (.ref l), some (.int (i : Nat)), o5] F (.int ((i : Int) / 5)) := ev_op (ev_var rfl) ev_c (rv_I ⟨by decide, by decide⟩)
      by_cases h5 : i < 5
      · rw [decide_eq_false (by omega : ¬ (4 : Int) < (i : Int))] at ec
        refine ⟨⟨#[sgc i]⟩ ++ Str.empty, ?_, ev_op (ev_op ev_c (ev_var rfl) (rv_ixS (by decide +kernel) hat)) (ev_op (ev_slS ev_c (eo_some ed) (eo_some (ev_op ed ev_c rv_I0)) (by decide +kernel)) ec rv_repS0) (rv_addS (by show 1 + 0 ≤ 100000; decide))⟩
        unfold sg0
        rw [if_pos h5, str_app]
        rfl
      · rw [decide_eq_true (by omega : (4 : Int) < (i : Int))] at ec
        have h1 : (i : Int) / 5 = 1 := by omega
        rw [h1] at ed
        refine ⟨⟨#[sgc i]⟩ ++ cutS "vw" (some 1) (some (1 + 1)), ?_, ev_op (ev_op ev_c (ev_var rfl) (rv_ixS (by decide +kernel) hat)) (ev_op (ev_slS ev_c (eo_some ed) (eo_some (ev_op ed ev_c rv_I0)) (by decide +kernel)) ec rv_repS1) (rv_addS (by show 1 + (cutS "vw" (some 1) (some (1 + 1))).length ≤ 100000; decide +kernel))⟩
        unfold sg0
        rw [if_neg h5, str_app]
        have : (cutS "vw" (some 1) (some (1 + 1))).cps.toList = [119] := by decide +kernel
        rw [this]
        rfl
    obtain ⟨s0, hs0, es⟩ := sign
    refine ss_asg es ?_
    have fin : ∀ (F1 : Hp) (sg : Str) (D : Ends), Ex F F1 → SgOk (decide (c / 36 % 2 = 1)) i sg.cps.toList → (D.nx = fun σ' F => ∃ (o4 o5 : Option V) (xs : List Str), σ' = [some (.int c), some (.str bs), some (.int (n : Nat)), some (.ref l), o4, o5] ∧ Ex H F ∧ F l = some (.lst (xs.map V.str)) ∧ xs.length = i + 1 ∧ ∀ k x, xs[k]? = some x → NmAt bs.cps.toList n (decide (c / 36 % 2 = 1)) k x) →
        SS (tSeq (tDrop (tBM K "list" rAppend (tVar 3) (tCons (tOp (fun x y H Q => ∃ i j, x = .str i ∧ y = .str j ∧ i.length + j.length ≤ sizeLine ∧ Q (.str (i ++ j)) H) (tOp (fun x y H Q => ∃ i j, x = .str i ∧ y = .str j ∧ i.length + j.length ≤ sizeLine ∧ Q (.str (i ++ j)) H) (tSl rSlS (tVar 1) tNoPart (tPart (tVar 2))) (tVar 5)) (tSl rSlS (tVar 1) (tPart (tVar 2)) tNoPart)) tNil))) tNext) D [some (.int c), some (.str bs), some (.int (n : Nat)), some (.ref l), some (.int (i : Nat)), some (.str sg)] F1 := by
      intro F1 sg D f1 ho hD
      obtain ⟨q1, q2, q3, q4⟩ := sgOk_let hi ho
      have hsl : sg.length ≤ 3 := by rw [str_len]; exact q3
      have c1 := cutS_length bs none (some (n : Int))
      have c2 := cutS_length bs (some (n : Int)) none
      have ea : (cutS bs none (some (n : Int)) ++ sg).length = (cutS bs none (some (n : Int))).length + sg.length := by rw [str_len, str_app, List.length_append, ← str_len, ← str_len]
      refine ss_app (f1 _ _ hlF) (ev_var rfl) (ev_op (ev_op (ev_slS (ev_var rfl) eo_none (eo_some (ev_var rfl)) (by omega)) (ev_var rfl) (rv_addS (by omega))) (ev_slS (ev_var rfl) (eo_some (ev_var rfl)) eo_none (by omega)) (rv_addS (by rw [ea]; omega))) (by rw [List.length_map]; omega) (ss_end fun F2 f2 => ?_)
      rw [hD]
      refine ⟨_, _, xs ++ [cutS bs none (some (n : Int)) ++ sg ++ cutS bs (some (n : Int)) none], rfl, ((e.trans f1).mut hlH).trans f2, ?_, by rw [List.length_append, hlen]; rfl, fun k x hx => ?_⟩
      · rw [f2 _ _ upd_same, List.map_append]
        rfl
      · rcases Nat.lt_or_ge k xs.length with h | h
        · rw [List.getElem?_append_left h] at hx
          exact hnm k x hx
        · rw [List.getElem?_append_right h] at hx
          have hk : k - xs.length = 0 := by
            rcases Nat.eq_zero_or_pos (k - xs.length) with z | z
            · exact z
            · rw [List.getElem?_eq_none (by show 1 ≤ _; exact z)] at hx; cases hx
          have hk' : k = i := by omega
          rw [hk] at hx
          cases hx
          refine ⟨sg.cps.toList, by rw [hk']; exact ho, ?_⟩
          rw [str_app, str_app, cutS_take, cutS_drop]
    refine ss_when (b := decide (V.int (c / 36 % 2) = V.int 1)) (et_test (ev_op (ev_op (ev_op (ev_var rfl) ev_c (rv_I ⟨by decide, by decide⟩)) ev_c (rv_I (by decide))) ev_c (rv_eq rfl))) (fun hb1 => ?_) fun hb1 => ?_
    · have hp : c / 36 % 2 = 1 := by simpa using hb1
      have hlt : Ev (tOp (rI0 fun i j => V.bl (decide (i < j))) (tVar 4) (tC (.int 5))) [some (.int c), some (.str bs), some (.int (n : Nat)), some (.ref l), some (.int (i : Nat)), some (.str s0)] F (.bl (decide ((i : Int) < 5))) := ev_op (ev_var rfl) ev_c rv_I0
      refine ss_asgR (R := fun v _ => ∃ sg : Str, v = .str sg ∧ SgOk true i sg.cps.toList) ?_ fun v F1 f1 ⟨sg, ev, ho⟩ => ?_
      · refine er_op (Ra := fun v _ => ∃ q : Str, v = .str q ∧ q.cps.toList.length = (if i < 5 then 2 else 1) ∧ Letters q.cps.toList) ?_ fun x F1 f1 ⟨q, ex, q1, q2⟩ => ⟨fun z _ => z = .str s0, ev_rel (ev_var rfl), fun y F2 f2 ey Q' q' => ?_⟩
        · intro F1 f1 Q' q'
          refine er_word T (j := 0) (n := 2) (by decide) (ev_mixed T (ev_var rfl) (ev_op ev_c (ev_var rfl) rv_I0)) ev_c F1 (.refl _) _ fun v F2 f2 ⟨u, ev, u1, u2⟩ => ?_
          subst ev
          have ul : u.length = 2 := by rw [str_len]; exact u1
          have hk : ∃ kk : Nat, (1 : Int) + b2n (decide ((i : Int) < 5)) = (kk : Int) ∧ kk = (if i < 5 then 2 else 1) := by
            by_cases h5 : i < 5
            · rw [if_pos h5, decide_eq_true (by omega : (i : Int) < 5)]; exact ⟨2, rfl, rfl⟩
            · rw [if_neg h5, decide_eq_false (by omega : ¬ (i : Int) < 5)]; exact ⟨1, rfl, rfl⟩
          obtain ⟨kk, hk1, hk2⟩ := hk
          have eo := eo_some (ev_is (ev_op (r := rI0 fun i j => V.int (i + j)) (ev_c (σ := [some (.int c), some (.str bs), some (.int (n : Nat)), some (.ref l), some (.int (i : Nat)), some (.str s0)]) (H := F2) (v := .int 1)) (ev_cb (ea_cons (Ev.mono (f1.trans f2) hlt) ea_nil) rc_intB) rv_I0) (congrArg V.int hk1))
          refine eo_none F2 (.refl _) _ fun F3 f3 => eo F3 f3 _ fun F4 f4 => ⟨u, rfl, sz_of (by omega), q' _ _ (f2.trans (f3.trans f4)) ⟨_, rfl, ?_, ?_⟩⟩
          · rw [cutS_take, List.length_take, u1, hk2]; split <;> rfl
          · rw [cutS_take]
            exact fun d hd => u2 d (List.mem_of_mem_take hd)
        · subst ex ey
          have ql : q.length ≤ 2 := by rw [str_len, q1]; split <;> omega
          have sl : s0.length ≤ 2 := by
            rw [str_len, hs0]
            unfold sg0
            split
            · show 1 ≤ 2; decide
            · show 2 ≤ 2; decide
          refine ⟨q, s0, rfl, rfl, sz_of (by omega), q' _ _ (.refl _) ⟨_, rfl, ?_⟩⟩
          unfold SgOk
          rw [if_pos rfl]
          exact ⟨q.cps.toList, q1, q2, by rw [str_app, hs0]⟩
      · subst ev
        exact ss_end fun F2 f2 => (fin F2 sg _ (f1.trans f2) (by rw [decide_eq_true hp]; exact ho) rfl).here
    · have hp : ¬ c / 36 % 2 = 1 := by simpa using hb1
      exact fin F s0 _ (.refl _) (by rw [decide_eq_false hp]; unfold SgOk; rw [if_neg (by decide)]; exact hs0) rfl
  · rintro σ' F ⟨o4, o5, xs, rfl, e, hlF, hlen, hnm⟩
    have ok := names_ok hb hb5 hlen hnm
    refine SS.here ?_
    refine ss_when (b := decide (V.int (c / 72 % 6) = V.int 0)) (et_test (ev_op (ev_op (ev_op (ev_var rfl) ev_c (rv_I ⟨by decide, by decide⟩)) ev_c (rv_I (by decide))) ev_c (rv_eq rfl))) (fun _ => ?_) fun _ => ?_
    · refine ss_asgR (er_lstV (vs := fixN.map V.str) (ea_cons ev_c (ea_cons ev_c (ea_cons ev_c (ea_cons ev_c (ea_cons ev_c (ea_cons ev_c (ea_cons ev_c (ea_cons ev_c (ea_cons ev_c ea_nil))))))))) (by show 9 ≤ 100000; decide)) fun v F1 f1 ⟨q, ev, hq0, hq⟩ => ?_
      subst ev
      exact ss_end fun F2 f2 => (SS.here (ss_ret (ev_var rfl) fun F3 f3 => hQ _ F3 (e.trans (f1.trans (f2.trans f3))) ⟨fixN, ⟨q, rfl, fresh_back e hq0, (f2.trans f3) _ _ hq⟩, fix_ok⟩))
    · exact ss_ret (ev_var rfl) fun F3 f3 => hQ _ F3 (e.trans f3) ⟨xs, ⟨l, rfl, hlH, f3 _ _ hlF⟩, ok⟩
end
end RgK
set_option Elab.async false
set_option linter.all false
set_option maxRecDepth 100000
set_option maxHeartbeats 4000000

/-! The law: conditions grow. -/
namespace RgK
open PySem PySem.Spec PyProof.Rows L2 Evl LamX
local macro_rules | `(tactic| walk_at "ev") => `(tactic| repeat' (first
  | with_reducible exact ev_c
  | with_reducible exact ea_nil
  | ((with_reducible apply ev_var); first | rfl | assumption)
  | with_reducible apply ea_cons
  | with_reducible apply ev_fld
  | ((with_reducible show Fld _ _ _ _ _); assumption)
  | with_reducible exact rv_I0
  | with_reducible exact ru_neg
  | with_reducible exact rv_eq rfl
  | with_reducible exact rv_ne rfl
  | ((with_reducible apply rv_I); first | decide | omega | assumption)
  | ((with_reducible show _ = _ → EvT _ _ _ _); intro _)
  | ((with_reducible show _ = _ → Ev _ _ _ _); intro _)
  | with_reducible apply et_and
  | with_reducible apply et_or
  | with_reducible apply ev_andV
  | with_reducible apply ev_orV
  | with_reducible apply et_test
  | with_reducible apply et_B
  | with_reducible apply et_not
  | with_reducible apply ev_notV
  | with_reducible apply ev_un
  | with_reducible apply ev_op))

/-! ### lists, paired -/
theorem paired_take {α β : Type} {G : α → β → Prop} : ∀ {l₁ : List α} {l₂ : List β} (k : Nat), Paired G l₁ l₂ → Paired G (l₁.take k) (l₂.take k)
  | _, _, 0, _ => by rw [List.take_zero, List.take_zero]; exact .nil
  | _, _, k + 1, .nil => .nil
  | _, _, k + 1, .cons h r => .cons h (paired_take k r)
theorem paired_drop {α β : Type} {G : α → β → Prop} : ∀ {l₁ : List α} {l₂ : List β} (k : Nat), Paired G l₁ l₂ → Paired G (l₁.drop k) (l₂.drop k)
  | _, _, 0, h => h
  | _, _, k + 1, .nil => .nil
  | _, _, k + 1, .cons _ r => paired_drop k r
theorem paired_split {α β : Type} {G : α → β → Prop} : ∀ {l : List α} {a : α} {l₂ : List β}, Paired G (l ++ [a]) l₂ → ∃ k b, l₂ = k ++ [b] ∧ Paired G l k ∧ G a b
  | [], _, _, .cons h .nil => ⟨[], _, rfl, .nil, h⟩
  | _ :: _, _, _, .cons h r => let ⟨k, b, e, p, g⟩ := paired_split r; ⟨_ :: k, b, by rw [e]; rfl, .cons h p, g⟩
/-! ### told, made -/
section
variable {H : Hp} {n : Nat} {t : Addr} {u : V} {us : List V} {D : Den} {Ds : List Den}
theorem told_fixed {b : Bool} (h : H t = some (.tup [.str "fixed", .bl b])) : ToldAt H (n + 1) (.ref t) ⟨fun _ => b, 1, 1⟩ := ⟨t, 0, rfl, [], [], .nil, by simp, by simp, rfl, b, h, rfl, rfl, rfl⟩
theorem told_contact {x : Str} (h : H t = some (.tup [.str "contact", .str x])) (hn : nameB x = true) (hl : x.length ≤ 1000) : ToldAt H (n + 1) (.ref t) ⟨fun β => β x, 1, 1⟩ := ⟨t, 1, rfl, [], [], .nil, by simp, by simp, rfl, x, h, hn, hl, rfl, rfl, rfl⟩
theorem told_not (h : H t = some (.tup [.str "not", u])) (hu : ToldAt H n u D) : ToldAt H (n + 1) (.ref t) ⟨fun β => !D.h β, 1 + D.s, 1 + maxL [D.d]⟩ := ⟨t, 2, rfl, [u], [D], .cons hu .nil, by simp, by simp, rfl, u, D, h, rfl, rfl, rfl⟩
theorem told_group {c : Nat} (hc : c = 3 ∨ c = 4) (h : H t = some (.tup (.str (tword c) :: us))) (hu : Paired (ToldAt H n) us Ds) (h2 : 2 ≤ us.length) (hl : us.length ≤ 1000) : ToldAt H (n + 1) (.ref t) ⟨fun β => if c = 3 then Ds.all fun D => D.h β else Ds.any fun D => D.h β, 1 + (Ds.map (·.s)).sum, 1 + maxL (Ds.map (·.d))⟩ := by
  refine ⟨t, c, rfl, us, Ds, hu, hl, rfl, rfl, ?_⟩
  rcases hc with rfl | rfl
  · exact ⟨h, h2, rfl⟩
  · exact ⟨h, h2, rfl⟩
end
/-! ### lists made -/
section
variable {K : PySem.W.Frag} {σ : L2.St} {H : Hp} {te ta tb ti : TE} {tr : TA} {R : V → Hp → Prop}
theorem er_one (h : EvR te σ H R) (hR : ∀ v H1 H2, R v H1 → Ex H1 H2 → R v H2) : EvR (tLst (tCons te tNil)) σ H (fun v H2 => ∃ p u, v = .ref p ∧ H p = none ∧ H2 p = some (.lst [u]) ∧ R u H2) :=
  (er_lst (R := fun vs H2 => ∃ u, vs = [u] ∧ R u H2) (ar_cons h fun x H1 e1 r => fun H2 e2 Q q => q [] H2 (.refl _) ⟨x, rfl, hR x H1 H2 r e2⟩) fun vs H1 ⟨u, e, _⟩ => by rw [e]; show 1 ≤ 100000; decide).imp fun v H2 _ ⟨p, vs, a1, a2, a3, H1, e1, u, e, r⟩ => ⟨p, u, a1, a2, by rw [a3, e], hR u H1 H2 r e1⟩
theorem er_catOne {xs : List V} (h1 : EvR ta σ H (fun v H2 => ∃ p, v = .ref p ∧ H2 p = some (.lst xs))) (h : ∀ H1, Ex H H1 → EvR te σ H1 R) (hR : ∀ v H1 H2, R v H1 → Ex H1 H2 → R v H2) (hl : xs.length < 100000) :
    EvR (tOp rCat ta (tLst (tCons te tNil))) σ H (fun v H2 => ∃ q u, v = .ref q ∧ H q = none ∧ H2 q = some (.lst (xs ++ [u])) ∧ R u H2) :=
  er_op h1 fun x H1 e1 ⟨p, ex, hp⟩ => ⟨_, er_one (h H1 e1) hR, fun y H2 e2 ⟨q, u, ey, _, hq, r⟩ Q k => ⟨p, q, xs, [u], ex, ey, e2 _ _ hp, hq, sz_of (by show xs.length + 1 ≤ 100000; omega), fun z hz => k _ _ (.new hz) ⟨z, u, rfl, fresh_back (e1.trans e2) hz, upd_same, hR u H2 _ r (.new hz)⟩⟩⟩
theorem er_listV {p : Addr} {xs : List V} (h : Ev te σ H (.ref p)) (hp : H p = some (.lst xs)) : EvR te σ H (fun v H2 => ∃ p, v = .ref p ∧ H2 p = some (.lst xs)) := fun H1 e1 Q q => h H1 e1 _ fun H2 e2 => q _ H2 e2 ⟨p, rfl, (e1.trans e2) _ _ hp⟩
theorem er_newL {xs : List V} (h : EvR te σ H (NewL H xs)) : EvR te σ H (fun v H2 => ∃ p, v = .ref p ∧ H2 p = some (.lst xs)) := h.imp fun _ _ _ ⟨p, a, _, b⟩ => ⟨p, a, b⟩
/-- [a, b, ..][i] -/
theorem ev_ixLit {vs : List V} {j : Nat} {v : V} (ha : EvA tr σ H vs) (hi : Ev ti σ H (.int (j : Nat))) (h : vs[j]? = some v) (hl : vs.length ≤ 100000) : Ev (tOp (rIxL K) (tLst tr) ti) σ H v :=
  (er_op (R := fun z _ => z = v) (er_lstV ha hl) fun x H1 e1 ⟨p, ex, _, hp⟩ => ⟨_, ev_rel (Ev.mono e1 hi), fun y H2 e2 ey Q q => ⟨p, vs, (j : Int), v, ex, ey, .of (e2 _ _ hp), atI_nat h, q _ _ (.refl _) rfl⟩⟩).ev
theorem er_catT2 {xs ys : List V} (h1 : EvR ta σ H (NewT H xs)) (h2 : ∀ H1, Ex H H1 → EvR tb σ H1 (NewT H1 ys)) (hl : xs.length + ys.length ≤ 100000) : EvR (tOp (rCatA K) ta tb) σ H (fun v H2 => ∃ p, v = .ref p ∧ H2 p = some (.tup (xs ++ ys))) :=
  er_op h1 fun x H1 e1 ⟨p, ex, _, hp⟩ => ⟨_, h2 H1 e1, fun y H2 e2 ⟨q, ey, _, hq⟩ Q k => ⟨p, q, xs, ys, ex, ey, .of (e2 _ _ hp), .of hq, sz_of hl, fun z => k _ _ (.refl _) ⟨q, rfl, by rw [hq, z]; rfl⟩, fun _ z => k _ _ (.refl _) ⟨p, rfl, by rw [e2 _ _ hp, z, List.append_nil]⟩, fun _ _ r hr => k _ _ (.new hr) ⟨r, rfl, upd_same⟩⟩⟩
/-- tuple(l), l a new list -/
theorem er_tupOf {xs : List V} (h : EvR te σ H (NewL H xs)) : EvR (tCB (fun xs H Q => ∃ p ys, xs = [.ref p] ∧ ((SqL K H p ys ∧ ∀ l, H l = none → Q (.ref l) (upd H l (.tup ys))) ∨ (SqT K H p ys ∧ Q (.ref p) H))) (tCons te tNil)) σ H (NewT H xs) :=
  er_cb1 h fun x F1 e3 ⟨l, ex, hl0, hl1⟩ Q q => ⟨l, xs, by rw [ex], .inl ⟨.of hl1, fun t ht => q _ _ (.new ht) ⟨t, rfl, fresh_back e3 ht, upd_same⟩⟩⟩
end
def PileAt (H : Hp) (us : List V) (Ds : List Den) : Prop := Paired (ToldAt H 30) us Ds ∧ ∀ D ∈ Ds, D.s ≤ 30
theorem PileAt.im {H H' : Hp} {us : List V} {Ds : List Den} (h : PileAt H us Ds) (i : Ip H H') : PileAt H' us Ds := ⟨L2.Paired.mapP h.1 fun _ _ q => q.im i, h.2⟩
structure GArg where
  p : Addr
  us : List V
  Ds : List Den
  m : Int
  nl : Addr
  xs : List Str
section
variable {w : World} {K : PySem.W.Frag} {mg : Mg} {base : Heap}
def spGrown : Sp := spP (ι := GArg) (fun i => [.ref i.p, .int i.m, .ref i.nl]) (fun i H => H i.p = some (.lst i.us) ∧ PileAt H i.us i.Ds ∧ i.us.length ≤ 1000 ∧ 0 ≤ i.m ∧ H i.nl = some (.lst (i.xs.map V.str)) ∧ (∀ x ∈ i.xs, nameB x = true ∧ x.length ≤ 8) ∧ i.xs ≠ [] ∧ i.xs.length ≤ 1000)
  (fun i H v H2 => ∃ q us' u Ds' D, v = .ref q ∧ H q = none ∧ H2 q = some (.lst (us' ++ [u])) ∧ PileAt H2 us' Ds' ∧ us'.length ≤ i.us.length ∧ ToldAt H2 31 u D)
theorem c_grown (T : Tx w K mg base) : Cal PG w K mg base 1 "_law_grown" spGrown := by
  refine cal_of (fnd ["_law_pile", "_law_mix", "_law_names_here", "_law_kind", "_law_more", "_law_many"] ["_law_pile", "_law_mix", "_law_names_here"] T.d_law_grown (by decide +kernel) (spP_len fun _ => rfl) (fun _ _ _ _ _ _ us h => by match us, h with | [_, _, _], _ => rfl) ?_) T.g_law_grown
  rintro cdv A outer s H vs Q E hr ⟨⟨p, us, Ds, m, nl, xs⟩, rfl, ⟨hp, hpile, hul, hm0, hnl, hxs, hx0, hxl⟩, hQ⟩
  have hp : H p = some (.lst us) := hp
  have hpile : PileAt H us Ds := hpile
  have hul : us.length ≤ 1000 := hul
  have hm0 : 0 ≤ m := hm0
  have hnl : H nl = some (.lst (xs.map V.str)) := hnl
  have hxs : ∀ x ∈ xs, nameB x = true ∧ x.length ≤ 8 := hxs
  have hx0 : xs ≠ [] := hx0
  have hxl : xs.length ≤ 1000 := hxl
  have nd : (["_law_pile", "_law_mix", "_law_names_here", "_law_kind", "_law_more", "_law_many"] : List Str).Nodup := by decide +kernel
  refine ⟨_, 
    (pss_cons (ps_set (i := 3) nd rfl (Or.inl rfl) (pe_op op_mod (pv 1) pe_int)) 
    (pss_cons (ps_set (i := 4) nd rfl (Or.inl rfl) (pe_op op_fdiv (pv 1) pe_int)) 
    (pss_cons (ps_set (i := 5) nd rfl (Or.inl rfl) (pe_ix (ix_lT T) (pe_lst (pa_cons pe_int (pa_cons pe_int (pa_cons pe_int (pa_cons pe_int (pa_cons pe_int (pa_cons pe_int (pa_cons pe_int pa_nil)))))))) (pe_op op_mod (pv 4) pe_int) (fun _ _ => rfl))) 
    (pss_cons (ps_if (PW.pt (pw_and (pt_cmpR op_eq (pv 3) pe_int (nomark _)) (pw_and1 (pt_cmpR (op_neNil hr.units0) (pv 0) (pe_lst pa_nil) (nomark _))))) 
    (pss_cons (ps_ret (pe_op op_cat (pe_slice sl_list (pv 0) po_none (po_some (pe_un un_neg pe_int))) (pe_lst (pa_cons (pe_tup (pa_cons pe_str (pa_cons (pe_ix (ix_lT T) (pv 0) (pe_un un_neg pe_int) (fun _ _ => rfl)) pa_nil))) pa_nil)))) pss_nil) pss_nil) 
    (pss_cons (ps_if (PW.pt (pw_and (pt_cmpR op_gt (pv 3) pe_int (nomark _)) (pw_and1 (pt_cmpR op_ge (pe_callB call_len_seq (by rfl) T.f_len (by decide +kernel) (pa_cons (pv 0) pa_nil)) (pv 5) (nomark _))))) 
    (pss_cons (ps_ret (pe_op op_cat (pe_slice sl_list (pv 0) po_none (po_some (pe_op op_sub (pe_callB call_len_seq (by rfl) T.f_len (by decide +kernel) (pa_cons (pv 0) pa_nil)) (pv 5)))) (pe_lst (pa_cons (pe_op op_catA (pe_tup (pa_cons (pe_ix (ix_lT T) (pe_lst (pa_cons pe_str (pa_cons pe_str pa_nil))) (pe_op op_mod (pv 3) pe_int) (fun _ _ => rfl)) pa_nil)) (pe_callTy call_tuple_of (by rfl) T.f_tuple (by decide +kernel) (pa_cons (pe_slice sl_list (pv 0) (po_some (pe_op op_sub (pe_callB call_len_seq (by rfl) T.f_len (by decide +kernel) (pa_cons (pv 0) pa_nil)) (pv 5))) po_none) pa_nil))) pa_nil)))) pss_nil) pss_nil) 
    (pss_cons (ps_if (pt_cmpR op_eq (pv 3) pe_int (nomark _)) 
    (pss_cons (ps_ret (pe_op op_cat (pv 0) (pe_lst (pa_cons (pe_tup (pa_cons pe_str (pa_cons (pe_cmpR op_eq (pe_op op_mod (pv 4) pe_int) pe_int (nomark _)) pa_nil))) pa_nil)))) pss_nil) pss_nil) 
    (pss_cons (ps_if (PW.pt (pw_and (pt_cmpR op_eq (pv 3) pe_int (nomark _)) (pw_and1 (pt_cmpR (op_neNil hr.units0) (pv 0) (pe_lst pa_nil) (nomark _))))) 
    (pss_cons (ps_ret (pe_op op_cat (pv 0) (pe_lst (pa_cons (pe_ix (ix_lT T) (pv 0) (pe_op op_mod (pv 4) (pe_callB call_len_seq (by rfl) T.f_len (by decide +kernel) (pa_cons (pv 0) pa_nil))) (fun _ _ => rfl)) pa_nil)))) pss_nil) pss_nil) 
    (pss_cons (ps_ret (pe_op op_cat (pv 0) (pe_lst (pa_cons (pe_tup (pa_cons pe_str (pa_cons (pe_ix (ix_lT T) (pv 2) (pe_op op_mod (pv 4) (pe_callB call_len_seq (by rfl) T.f_len (by decide +kernel) (pa_cons (pv 2) pa_nil))) (fun _ _ => rfl)) pa_nil))) pa_nil)))) pss_nil)))))))), SS.here ?_⟩
  obtain ⟨hpr, hps⟩ := hpile
  have dl := paired_len hpr
  refine ss_asg (ev_op (ev_var rfl) ev_c (rv_I (by decide))) (ss_asg (ev_op (ev_var rfl) ev_c (rv_I ⟨by decide, by decide⟩)) ?_)
  have hk0 : 0 ≤ m % 9 := Int.emod_nonneg _ (by decide)
  have hk9 : m % 9 < 9 := Int.emod_lt_of_pos _ (by decide)
  have hr0 : 0 ≤ m / 9 := Int.ediv_nonneg hm0 (by decide)
  generalize m % 9 = kd at hk0 hk9
  generalize m / 9 = mr at hr0
  obtain ⟨j7, hj7⟩ : ∃ j : Nat, mr % 7 = (j : Int) := Int.eq_ofNat_of_zero_le (Int.emod_nonneg _ (by decide))
  have l7 : j7 < 7 := by have := Int.emod_lt_of_pos mr (show (0 : Int) < 7 by decide); omega
  obtain ⟨my, hmy, my2, my7⟩ : ∃ my : Nat, ([.int 2, .int 2, .int 3, .int 4, .int 5, .int 6, .int 7] : List V)[j7]? = some (.int (my : Nat)) ∧ 2 ≤ my ∧ my ≤ 7 := by
    have all : ∀ j : Fin 7, ([2, 2, 3, 4, 5, 6, 7] : List Nat)[j.val]? = some (([2, 2, 3, 4, 5, 6, 7] : List Nat)[j.val]) ∧ 2 ≤ ([2, 2, 3, 4, 5, 6, 7] : List Nat)[j.val] ∧ ([2, 2, 3, 4, 5, 6, 7] : List Nat)[j.val] ≤ 7 := by decide
    obtain ⟨a1, a2, a3⟩ := all ⟨j7, l7⟩
    refine ⟨([2, 2, 3, 4, 5, 6, 7] : List Nat)[j7], ?_, a2, a3⟩
    have e : ([.int 2, .int 2, .int 3, .int 4, .int 5, .int 6, .int 7] : List V) = ([2, 2, 3, 4, 5, 6, 7] : List Nat).map fun k => V.int (k : Nat) := rfl
    rw [e, List.getElem?_map, a1]
    rfl
  refine ss_asg (v := .int (my : Nat)) (ev_ixLit (ea_cons ev_c (ea_cons ev_c (ea_cons ev_c (ea_cons ev_c (ea_cons ev_c (ea_cons ev_c (ea_cons ev_c ea_nil))))))) (ev_is (ev_op (ev_var rfl) ev_c (rv_I (by decide))) (congrArg V.int hj7)) hmy (by show 7 ≤ 100000; decide)) ?_
  have hlen : ∀ H1, Ex H H1 → Ev (tCB (rLenS K) (tCons (tVar 0) tNil)) [some (.ref p), some (.int m), some (.ref nl), some (.int kd), some (.int mr), some (.int (my : Nat))] H1 (.int (us.length : Nat)) := fun H1 e1 => ev_lenS (k := true) (ev_var rfl) (.of (e1 _ _ hp))
  have pl : ∀ {H1 : Hp}, Ex H H1 → Paired (ToldAt H1 30) us Ds := fun e1 => L2.Paired.mapP hpr fun _ _ q => q.im (.of e1)
  -- not
  refine ss_when (b := decide (V.int kd = V.int 4) && (us.isEmpty != true)) (et_and (et_test (ev_op (ev_var rfl) ev_c (rv_eq rfl))) fun _ => ev_neNil (ev_var rfl) (.of hp)) (fun hb => ?_) fun _ => ?_
  · obtain ⟨hb1, hb2⟩ := Bool.and_eq_true_iff.mp hb
    have hne : us ≠ [] := fun z => by rw [z] at hb2; cases hb2
    obtain ⟨init, y, rfl⟩ : ∃ init y, us = init ++ [y] := ⟨us.dropLast, us.getLast hne, (List.dropLast_concat_getLast hne).symm⟩
    obtain ⟨Di, Dy, rfl, pi, py⟩ := paired_split hpr
    refine ss_retR (er_catOne (xs := init) (R := fun u H2 => ∃ t, u = .ref t ∧ H2 t = some (.tup [.str "not", y])) (er_newL ((er_slL (ev_var rfl) (.of hp) eo_none (eo_some (ev_un ev_c (fun H1 _ Q' q' => ⟨1, rfl, q' H1 (.refl _)⟩)))).imp fun v H2 _ ⟨q, a1, a2, a3⟩ => ⟨q, a1, a2, by rw [a3, cutV_init]⟩)) (fun H1 e1 => (er_tupV (ea_cons ev_c (ea_cons (ev_op (ev_var rfl) (ev_un ev_c (fun H1 _ Q' q' => ⟨1, rfl, q' H1 (.refl _)⟩)) (rv_last (e1 _ _ hp))) ea_nil)) (by show 2 ≤ 100000; decide)).imp fun v H2 _ ⟨t, a1, _, a3⟩ => ⟨t, a1, a3⟩) (fun v H1 H2 ⟨t, a1, a2⟩ e => ⟨t, a1, e _ _ a2⟩) (by rw [List.length_append] at hul; omega)) fun v H1 e1 ⟨q, u, ev, hq0, hq, t, eu, ht⟩ => ?_
    subst eu
    refine hQ v H1 e1 ⟨q, init, .ref t, Di, _, ev, hq0, hq, ⟨L2.Paired.mapP pi fun _ _ q => q.im (.of e1), fun D hD => hps D (List.mem_append_left _ hD)⟩, by show init.length ≤ (init ++ [y]).length; rw [List.length_append]; omega, told_not ht (py.im (.of e1))⟩
  -- a group
  refine ss_when (b := decide (4 < kd) && decide ((my : Int) ≤ (us.length : Int))) (et_and (et_test (ev_op (ev_var rfl) ev_c rv_I0)) fun _ => et_test (ev_op (hlen H (.refl _)) (ev_var rfl) rv_I0)) (fun hb => ?_) fun _ => ?_
  · obtain ⟨hb1, hb2⟩ := Bool.and_eq_true_iff.mp hb
    have hmu : my ≤ us.length := by have := of_decide_eq_true hb2; omega
    have ek : ∀ H1, Ex H H1 → Ev (tOp (rI0 fun i j => V.int (i - j)) (tCB (rLenS K) (tCons (tVar 0) tNil)) (tVar 5)) [some (.ref p), some (.int m), some (.ref nl), some (.int kd), some (.int mr), some (.int (my : Nat))] H1 (.int ((us.length - my : Nat) : Int)) := fun H1 e1 => ev_is (ev_op (hlen H1 e1) (ev_var rfl) rv_I0) (congrArg V.int (by omega))
    obtain ⟨j2, hj2⟩ : ∃ j : Nat, kd % 2 = (j : Int) := Int.eq_ofNat_of_zero_le (Int.emod_nonneg _ (by decide))
    have l2 : j2 < 2 := by have := Int.emod_lt_of_pos kd (show (0 : Int) < 2 by decide); omega
    have hw : ([.str "and", .str "or"] : List V)[j2]? = some (.str (tword (j2 + 3))) := by
      match j2, l2 with
      | 0, _ => rfl
      | 1, _ => rfl
    refine ss_retR (er_catOne (xs := us.take (us.length - my)) (R := fun u H2 => ∃ t, u = .ref t ∧ H2 t = some (.tup (.str (tword (j2 + 3)) :: us.drop (us.length - my)))) (er_newL ((er_slL (ev_var rfl) (.of hp) eo_none (eo_some (ek H (.refl _)))).imp fun v H2 _ ⟨q, a1, a2, a3⟩ => ⟨q, a1, a2, by rw [a3, cutV_take]⟩)) (fun H1 e1 => ?_) (fun v H1 H2 ⟨t, a1, a2⟩ e => ⟨t, a1, e _ _ a2⟩) (by rw [List.length_take]; omega)) fun v H1 e1 ⟨q, u, ev, hq0, hq, t, eu, ht⟩ => ?_
    · refine er_catT2 (xs := [.str (tword (j2 + 3))]) (ys := us.drop (us.length - my)) (er_tupV (ea_cons (ev_ixLit (ea_cons ev_c (ea_cons ev_c ea_nil)) (ev_is (ev_op (ev_var rfl) ev_c (rv_I (by decide))) (congrArg V.int hj2)) hw (by show 2 ≤ 100000; decide)) ea_nil) (by show 1 ≤ 100000; decide)) (fun H2 e2 => er_tupOf ((er_slL (ev_var rfl) (.of ((e1.trans e2) _ _ hp)) (eo_some (ek H2 (e1.trans e2))) eo_none).imp fun v H3 _ ⟨q, a1, a2, a3⟩ => ⟨q, a1, a2, by rw [a3, cutV_drop]⟩)) (by rw [List.length_drop]; show 1 + _ ≤ _; omega)
    · subst eu
      refine hQ v H1 e1 ⟨q, _, .ref t, Ds.take (us.length - my), _, ev, hq0, hq, ⟨paired_take _ (pl e1), fun D hD => hps D (List.mem_of_mem_take hD)⟩, by rw [List.length_take]; exact Nat.min_le_right _ _, told_group (c := j2 + 3) (by omega) ht (paired_drop _ (pl e1)) (by rw [List.length_drop]; omega) (by rw [List.length_drop]; omega)⟩
  -- fixed
  refine ss_when (b := decide (V.int kd = V.int 3)) (et_test (ev_op (ev_var rfl) ev_c (rv_eq rfl))) (fun _ => ?_) fun _ => ?_
  · refine ss_retR (er_catOne (xs := us) (R := fun u H2 => ∃ t, u = .ref t ∧ H2 t = some (.tup [.str "fixed", .bl (decide (V.int (mr % 2) = V.int 1))])) (er_listV (ev_var rfl) hp) (fun H1 e1 => (er_tupV (ea_cons ev_c (ea_cons (ev_op (ev_op (ev_var rfl) ev_c (rv_I (by decide))) ev_c (rv_eq rfl)) ea_nil)) (by show 2 ≤ 100000; decide)).imp fun v H2 _ ⟨t, a1, _, a3⟩ => ⟨t, a1, a3⟩) (fun v H1 H2 ⟨t, a1, a2⟩ e => ⟨t, a1, e _ _ a2⟩) (by omega)) fun v H1 e1 ⟨q, u, ev, hq0, hq, t, eu, ht⟩ => ?_
    subst eu
    exact hQ v H1 e1 ⟨q, us, .ref t, Ds, _, ev, hq0, hq, ⟨pl e1, hps⟩, Nat.le_refl _, told_fixed ht⟩
  -- once more
  refine ss_when (b := decide (V.int kd = V.int 2) && (us.isEmpty != true)) (et_and (et_test (ev_op (ev_var rfl) ev_c (rv_eq rfl))) fun _ => ev_neNil (ev_var rfl) (.of hp)) (fun hb => ?_) fun _ => ?_
  · obtain ⟨hb1, hb2⟩ := Bool.and_eq_true_iff.mp hb
    have hne : us ≠ [] := fun z => by rw [z] at hb2; cases hb2
    have hlp : 0 < us.length := List.length_pos_iff.mpr hne
    obtain ⟨j, hj⟩ : ∃ j : Nat, mr % (us.length : Int) = (j : Int) := Int.eq_ofNat_of_zero_le (Int.emod_nonneg _ (by omega))
    have hjl : j < us.length := by have := Int.emod_lt_of_pos mr (show (0 : Int) < (us.length : Int) by omega); omega
    have hat : us[j]? = some us[j] := List.getElem?_eq_getElem hjl
    obtain ⟨Dj, hDj, hTj⟩ := paired_get hpr hat
    refine ss_retR (er_catOne (xs := us) (R := fun u _ => u = us[j]) (er_listV (ev_var rfl) hp) (fun H1 e1 => ev_rel (ev_op (ev_var rfl) (ev_is (ev_op (ev_var rfl) (hlen H1 e1) (rv_I (by omega))) (congrArg V.int hj)) (rv_ixL (.of (e1 _ _ hp)) (atI_nat hat)))) (fun v H1 H2 r _ => r) (by omega)) fun v H1 e1 ⟨q, u, ev, hq0, hq, eu⟩ => ?_
    subst eu
    have h30 := hps Dj (List.mem_of_getElem? hDj)
    have hpos := told_pos hTj
    exact hQ v H1 e1 ⟨q, us, us[j], Ds, Dj, ev, hq0, hq, ⟨pl e1, hps⟩, Nat.le_refl _, told_low (by omega) (hTj.im (.of e1))⟩
  -- a contact
  have hxp : 0 < xs.length := List.length_pos_iff.mpr hx0
  obtain ⟨j, hj⟩ : ∃ j : Nat, mr % (xs.length : Int) = (j : Int) := Int.eq_ofNat_of_zero_le (Int.emod_nonneg _ (by omega))
  have hjl : j < xs.length := by have := Int.emod_lt_of_pos mr (show (0 : Int) < (xs.length : Int) by omega); omega
  have hat : (xs.map V.str)[j]? = some (.str xs[j]) := by rw [List.getElem?_map, List.getElem?_eq_getElem hjl]; rfl
  obtain ⟨hx1, hx2⟩ := hxs _ (List.getElem_mem hjl)
  refine ss_retR (er_catOne (xs := us) (R := fun u H2 => ∃ t, u = .ref t ∧ H2 t = some (.tup [.str "contact", .str xs[j]])) (er_listV (ev_var rfl) hp) (fun H1 e1 => (er_tupV (ea_cons ev_c (ea_cons (ev_op (ev_var rfl) (ev_is (ev_op (ev_var rfl) (ev_is (ev_lenS (k := true) (ev_var rfl) (.of (e1 _ _ hnl))) (by rw [List.length_map])) (rv_I (by omega))) (congrArg V.int hj)) (rv_ixL (.of (e1 _ _ hnl)) (atI_nat hat))) ea_nil)) (by show 2 ≤ 100000; decide)).imp fun v H2 _ ⟨t, a1, _, a3⟩ => ⟨t, a1, a3⟩) (fun v H1 H2 ⟨t, a1, a2⟩ e => ⟨t, a1, e _ _ a2⟩) (by omega)) fun v H1 e1 ⟨q, u, ev, hq0, hq, t, eu, ht⟩ => ?_
  subst eu
  exact hQ v H1 e1 ⟨q, us, .ref t, Ds, _, ev, hq0, hq, ⟨pl e1, hps⟩, Nat.le_refl _, told_contact ht hx1 (by omega)⟩
end
end RgK
set_option Elab.async false
set_option linter.all false
set_option maxRecDepth 100000
set_option maxHeartbeats 4000000

/-! The law: trees. -/
namespace RgK
open PySem PySem.Spec PyProof.Rows L2 Evl LamX
local macro_rules | `(tactic| walk_at "ev") => `(tactic| repeat' (first
  | with_reducible exact ev_c
  | with_reducible exact ea_nil
  | ((with_reducible apply ev_var); first | rfl | assumption)
  | with_reducible apply ea_cons
  | with_reducible apply ev_fld
  | ((with_reducible show Fld _ _ _ _ _); assumption)
  | with_reducible exact rv_I0
  | with_reducible exact ru_neg
  | with_reducible exact rv_eq rfl
  | with_reducible exact rv_ne rfl
  | ((with_reducible apply rv_I); first | decide | omega | assumption)
  | ((with_reducible show _ = _ → EvT _ _ _ _); intro _)
  | ((with_reducible show _ = _ → Ev _ _ _ _); intro _)
  | with_reducible apply et_and
  | with_reducible apply et_or
  | with_reducible apply ev_andV
  | with_reducible apply ev_orV
  | with_reducible apply et_test
  | with_reducible apply et_B
  | with_reducible apply et_not
  | with_reducible apply ev_notV
  | with_reducible apply ev_un
  | with_reducible apply ev_op))

section
variable {K : PySem.W.Frag} {σ : L2.St} {H : Hp} {te ta tb ti : TE} {tr : TA} {R : V → Hp → Prop}
theorem ev_eqNilV {l : Addr} {xs : List V} (ha : Ev ta σ H (.ref l)) (h : SqL K H l xs) : Ev (tOp (rEqNil K false) ta (tLst tNil)) σ H (.bl (xs.isEmpty != false)) :=
  fun H1 e1 Q q => ha H1 e1 _ fun H2 e2 => ⟨by decide, fun p hp => ⟨l, p, xs, rfl, rfl, ex_l ((e1.trans e2).trans (.new hp)) h, .of upd_same, q _ (e2.trans (.new hp))⟩⟩
theorem er_catL {xs : List V} {Rb : List V → Hp → Prop} (h1 : EvR ta σ H (fun v H2 => ∃ p, v = .ref p ∧ H2 p = some (.lst xs))) (h : ∀ H1, Ex H H1 → EvR tb σ H1 (fun v H2 => ∃ p ys, v = .ref p ∧ H2 p = some (.lst ys) ∧ Rb ys H2)) (hR : ∀ ys H1 H2, Rb ys H1 → Ex H1 H2 → Rb ys H2) (hl : ∀ ys H1, Rb ys H1 → xs.length + ys.length ≤ 100000) :
    EvR (tOp rCat ta tb) σ H (fun v H2 => ∃ q ys, v = .ref q ∧ H q = none ∧ H2 q = some (.lst (xs ++ ys)) ∧ Rb ys H2) :=
  er_op h1 fun x H1 e1 ⟨p, ex, hp⟩ => ⟨_, h H1 e1, fun y H2 e2 ⟨q, ys, ey, hq, r⟩ Q k => ⟨p, q, xs, ys, ex, ey, e2 _ _ hp, hq, sz_of (hl ys H2 r), fun z hz => k _ _ (.new hz) ⟨z, ys, rfl, fresh_back (e1.trans e2) hz, upd_same, hR ys H2 _ r (.new hz)⟩⟩⟩
theorem er_rep {k : Bool} {n : Int} (h1 : EvR ta σ H (fun v H2 => ∃ p u, v = .ref p ∧ H2 p = some (.lst [u]) ∧ R u H2)) (h : Ev tb σ H (.int n)) (hn : n = b2n k) (hR : ∀ u H1 H2, R u H1 → Ex H1 H2 → R u H2) : EvR (tOp rRep ta tb) σ H (fun v H2 => ∃ p ys, v = .ref p ∧ H2 p = some (.lst ys) ∧ ((k = false ∧ ys = []) ∨ (k = true ∧ ∃ u, ys = [u] ∧ R u H2))) :=
  er_op h1 fun x H1 e1 ⟨p, u, ex, hp, r⟩ => ⟨_, ev_rel (Ev.mono e1 h), fun y H2 e2 ey Q q => ⟨p, n, [u], ex, ey, e2 _ _ hp, by rw [hn]; cases k <;> decide, by rw [hn]; cases k <;> decide, by rw [hn]; show 1 * (b2n k).toNat ≤ sizeLine; cases k <;> decide, fun z hz => q _ _ (.new hz) ⟨z, _, rfl, upd_same, by
    rw [hn]
    cases k with
    | false => exact .inl ⟨rfl, rfl⟩
    | true => exact .inr ⟨rfl, u, rfl, hR u H1 _ r (e2.trans (.new hz))⟩⟩⟩⟩
end
structure TArg where
  a : Addr
  ns : List Int
  b : Nat
  nl : Addr
  xs : List Str
  n : Nat
def NamesIn (xs : List Str) : Prop := (∀ x ∈ xs, nameB x = true ∧ x.length ≤ 8) ∧ xs ≠ [] ∧ xs.length ≤ 1000
section
variable {w : World} {K : PySem.W.Frag} {mg : Mg} {base : Heap}
def spTrees (K : PySem.W.Frag) : Sp := spP (ι := TArg) (fun i => [.ref i.a, .int (i.b : Nat), .ref i.nl, .int (i.n : Nat)]) (fun i H => SqL K H i.a (i.ns.map V.int) ∧ H i.nl = some (.lst (i.xs.map V.str)) ∧ NamesIn i.xs ∧ i.n ≤ 100)
  (fun i H v H2 => ∃ q us Ds, v = .ref q ∧ H2 q = some (.lst us) ∧ PileAt H2 us Ds ∧ us.length ≤ 101)
theorem c_trees (T : Tx w K mg base) : Cal PG w K mg base 34 "_law_trees" (spTrees K) := by
  refine cal_of (fnd ["_law_script", "_law_begin", "_law_names_here", "_law_many", "_law_pile", "_law_k", "_law_grown_here"] ["_law_script", "_law_begin", "_law_names_here", "_law_many"] T.d_law_trees (by decide +kernel) (spP_len fun _ => rfl) (fun _ _ _ _ _ _ us h => by match us, h with | [_, _, _, _], _ => rfl) ?_) T.g_law_trees
  rintro cdv A outer s H vs Q E hr ⟨⟨a, ns, b, nl, xs, n⟩, rfl, ⟨ha, hnl, hxs, hn⟩, hQ⟩
  have ha : SqL K H a (ns.map V.int) := ha
  have hnl : H nl = some (.lst (xs.map V.str)) := hnl
  have hxs : NamesIn xs := hxs
  have hn : n ≤ 100 := hn
  have nd : (["_law_script", "_law_begin", "_law_names_here", "_law_many", "_law_pile", "_law_k", "_law_grown_here"] : List Str).Nodup := by decide +kernel
  refine ⟨_, 
    (pss_cons (ps_set (i := 4) nd rfl (Or.inl rfl) (pe_lst pa_nil)) 
    (pss_cons (ps_for (passes_of rfl) rfl (pi_range1 (by rfl) T.f_range (pa_cons (pv 3) pa_nil)) (pg_name (i := 5) nd rfl (Or.inl rfl)) 
    (pss_cons (ps_set (i := 6) nd rfl (Or.inl rfl) (pe_fn T hr (by rfl) T.g_law_grown pass0 T.kp_law_grown (pa_cons (pv 4) (pa_cons (pe_fn T hr (by rfl) T.g_law_mixed pass0 T.kp_law_mixed (pa_cons (pe_fn T hr (by rfl) T.g_law_cell_at pass0 T.kp_law_cell_at (pa_cons (pv 0) (pa_cons (pe_op op_add (pv 1) (pv 5)) pa_nil))) (pa_cons (pv 5) pa_nil))) (pa_cons (pv 2) pa_nil))))) 
    (pss_cons (ps_if (pt_cmpR op_lt (pe_fn T hr (by rfl) T.g_law_size pass0 T.kp_law_size (pa_cons (pe_ix (ix_lT T) (pv 6) (pe_un un_neg pe_int) (fun _ _ => rfl)) pa_nil)) pe_int (nomark _)) 
    (pss_cons (ps_set (i := 4) nd rfl (Or.inl rfl) (pv 6)) pss_nil) pss_nil) pss_nil))) 
    (pss_cons (ps_ret (pe_op op_cat (pv 4) (pe_op op_rep (pe_lst (pa_cons (pe_tup (pa_cons pe_str (pa_cons (pe_ix (ix_lT T) (pv 2) pe_int (fun _ _ => rfl)) pa_nil))) pa_nil)) (pe_callTy call_int1 (by rfl) T.f_int (by decide +kernel) (pa_cons (pe_cmpR (op_eqNil hr.units0) (pv 4) (pe_lst pa_nil) (nomark _)) pa_nil))))) pss_nil))), SS.here ?_⟩
  refine ss_asgR (er_lstV (vs := []) ea_nil (by decide)) fun v H1 e1 ⟨p0, ev, _, hp0⟩ => ?_
  subst ev
  refine ss_forR (n := n) (ea_cons (ev_var rfl) ea_nil) (by omega) (fun i σ' F => ∃ (p : Addr) (o5 o6 : Option V) (us : List V) (Ds : List Den), σ' = [some (.ref a), some (.int (b : Nat)), some (.ref nl), some (.int (n : Nat)), some (.ref p), o5, o6] ∧ Ex H F ∧ F p = some (.lst us) ∧ PileAt F us Ds ∧ us.length ≤ i)
    (fun F f => ⟨p0, none, none, [], [], rfl, e1.trans f, f _ _ hp0, ⟨.nil, fun _ h => by cases h⟩, Nat.le_refl _⟩) ?_ ?_
  · rintro i σ' F hi ⟨p, o5, o6, us, Ds, rfl, e, hp, hpl, hul⟩
    have hm := mixF_range (cellF ns (b + i)) i
    refine ss_asgR (R := fun v H2 => ∃ q us' u Ds' D, v = .ref q ∧ H2 q = some (.lst (us' ++ [u])) ∧ PileAt H2 us' Ds' ∧ us'.length ≤ us.length ∧ ToldAt H2 31 u D) (er_fnV (ea_cons (ev_var rfl) (ea_cons (ev_mixed T (ev_cell T (ex_l e ha) (ev_var rfl) (ev_is (ev_op (ev_var rfl) (ev_var rfl) rv_I0) (congrArg V.int (show (b : Int) + (i : Int) = ((b + i : Nat) : Int) by omega)))) (ev_var rfl)) (ea_cons (ev_var rfl) ea_nil))) ((c_grown T).mono (by omega))
      (spP_r ⟨p, us, Ds, mixF (cellF ns (b + i)) i, nl, xs⟩ rfl (fun H1 f1 => ⟨f1 _ _ hp, hpl.im (.of f1), by show us.length ≤ 1000; omega, hm.1, (e.trans f1) _ _ hnl, hxs.1, hxs.2.1, hxs.2.2⟩) fun H1 v H2 f1 f2 ⟨q, us', u, Ds', D, b1, _, b3, b4, b5, b6⟩ => ⟨q, us', u, Ds', D, b1, b3, b4, b5, b6⟩)) fun v F1 f1 ⟨q, us', u, Ds', D, ev, hq, hpl', hul', hu⟩ => ?_
    subst ev
    refine ss_when (b := decide (D.s < 31)) (et_test (ev_op (ev_fnV (ea_cons (ev_op (ev_var rfl) (ev_un ev_c (fun H1 _ Q' q' => ⟨1, rfl, q' H1 (.refl _)⟩)) (rv_last hq)) ea_nil) (c_lsize T 31) (spLSize_r hu)) ev_c rv_I0)) (fun hb => ?_) fun hb => ?_
    · have hs : D.s < 31 := of_decide_eq_true hb
      have hpos := told_pos hu
      refine ss_asg (ev_var rfl) (ss_end fun F2 f2 => ?_)
      refine (ss_end (D := { nx := fun σ' F => ∃ (p : Addr) (o5 o6 : Option V) (us : List V) (Ds : List Den), σ' = [some (.ref a), some (.int (b : Nat)), some (.ref nl), some (.int (n : Nat)), some (.ref p), o5, o6] ∧ Ex H F ∧ F p = some (.lst us) ∧ PileAt F us Ds ∧ us.length ≤ i + 1, rt := Q }) fun F3 f3 => ⟨q, _, _, us' ++ [u], Ds' ++ [D], rfl, e.trans (f1.trans (f2.trans f3)), (f2.trans f3) _ _ hq, ⟨?_, ?_⟩, by rw [List.length_append]; show us'.length + 1 ≤ i + 1; omega⟩) F2 (.refl _)
      · exact paired_snoc (told_low (by omega) (hu.im (.of (f2.trans f3)))) (hpl'.im (.of (f2.trans f3))).1
      · intro D' hD'
        rcases List.mem_append.mp hD' with z | z
        · exact hpl'.2 D' z
        · rw [List.mem_singleton.mp z]; omega
    · exact ss_end fun F2 f2 => ⟨p, _, _, us, Ds, rfl, e.trans (f1.trans f2), (f1.trans f2) _ _ hp, hpl.im (.of (f1.trans f2)), by omega⟩
  · rintro σ' F ⟨p, o5, o6, us, Ds, rfl, e, hp, hpl, hul⟩
    refine SS.here ?_
    obtain ⟨x0, xr, rfl⟩ : ∃ x0 xr, xs = x0 :: xr := by
      cases xs with
      | nil => exact absurd rfl hxs.2.1
      | cons x0 xr => exact ⟨x0, xr, rfl⟩
    obtain ⟨hx1, hx2⟩ := hxs.1 x0 List.mem_cons_self
    refine ss_retR (er_catL (xs := us) (Rb := fun ys H2 => ((us.isEmpty != false) = false ∧ ys = []) ∨ ((us.isEmpty != false) = true ∧ ∃ u, ys = [u] ∧ ∃ t, u = .ref t ∧ H2 t = some (.tup [.str "contact", .str x0]))) (er_listV (ev_var rfl) hp) (fun H2 e2 => er_rep (k := us.isEmpty != false) (R := fun u H2 => ∃ t, u = .ref t ∧ H2 t = some (.tup [.str "contact", .str x0])) ((er_one (R := fun u H2 => ∃ t, u = .ref t ∧ H2 t = some (.tup [.str "contact", .str x0])) ((er_tupV (ea_cons ev_c (ea_cons (ev_op (ev_var rfl) ev_c (rv_ixL (.of ((e.trans e2) _ _ hnl)) (atI_nat (j := 0) rfl))) ea_nil)) (by show 2 ≤ 100000; decide)).imp fun v H2 _ ⟨t, a1, _, a3⟩ => ⟨t, a1, a3⟩) fun u H1 H2 ⟨t, b1, b2⟩ e => ⟨t, b1, e _ _ b2⟩).imp fun v H3 _ ⟨p, u, b1, _, b3, b4⟩ => ⟨p, u, b1, b3, b4⟩)
      (ev_cb (ea_cons (ev_eqNilV (ev_var rfl) (.of (e2 _ _ hp))) ea_nil) rc_intB) rfl fun u H1 H2 ⟨t, b1, b2⟩ e => ⟨t, b1, e _ _ b2⟩) (fun ys H1 H2 r e => r.imp id fun ⟨r1, u, r2, t, r3, r4⟩ => ⟨r1, u, r2, t, r3, e _ _ r4⟩) (fun ys H1 r => by
        rcases r with ⟨_, rfl⟩ | ⟨_, u, rfl, _⟩
        · show us.length + 0 ≤ _; omega
        · show us.length + 1 ≤ _; omega)) fun v H1 e1 ⟨q, ys, ev, _, hq, r⟩ => ?_
    rcases r with ⟨_, rfl⟩ | ⟨hemp, u, rfl, t, rfl, ht⟩
    · rw [List.append_nil] at hq
      exact hQ v H1 (e.trans e1) ⟨q, us, Ds, ev, hq, hpl.im (.of e1), by omega⟩
    · have h0 : us = [] := by
        cases us with
        | nil => rfl
        | cons _ _ => cases hemp
      subst h0
      refine hQ v H1 (e.trans e1) ⟨q, [.ref t], [_], ev, hq, ⟨.cons (told_contact ht hx1 (by omega)) .nil, fun D hD => ?_⟩, by show 1 ≤ 101; decide⟩
      rw [List.mem_singleton.mp hD]
      show (1 : Int) ≤ 30
      decide
end
end RgK
set_option Elab.async false
set_option linter.all false
set_option maxRecDepth 100000
set_option maxHeartbeats 4000000

/-! The law: rungs. -/
namespace RgK
open PySem PySem.Spec PyProof.Rows L2 Evl LamX
local macro_rules | `(tactic| walk_at "ev") => `(tactic| repeat' (first
  | with_reducible exact ev_c
  | with_reducible exact ea_nil
  | ((with_reducible apply ev_var); first | rfl | assumption)
  | with_reducible apply ea_cons
  | with_reducible apply ev_fld
  | ((with_reducible show Fld _ _ _ _ _); assumption)
  | with_reducible exact rv_I0
  | with_reducible exact ru_neg
  | with_reducible exact rv_eq rfl
  | with_reducible exact rv_ne rfl
  | ((with_reducible apply rv_I); first | decide | omega | assumption)
  | ((with_reducible show _ = _ → EvT _ _ _ _); intro _)
  | ((with_reducible show _ = _ → Ev _ _ _ _); intro _)
  | with_reducible apply et_and
  | with_reducible apply et_or
  | with_reducible apply ev_andV
  | with_reducible apply ev_orV
  | with_reducible apply et_test
  | with_reducible apply et_B
  | with_reducible apply et_not
  | with_reducible apply ev_notV
  | with_reducible apply ev_un
  | with_reducible apply ev_op))

def natF (c : Int) (j : Nat) : Int := mixF c (90 + (j : Int)) % 4
structure RgInv (c : Int) (xs : List Str) (bo : List Str) (rs : List RungV) : Prop where
  nm : ∀ r ∈ rs, ∃ j, j < 5 ∧ xs[4 + j]? = some r.2.name
  ok : ∀ r ∈ rs, EndOk r.2
  fl : ∀ j, j < 5 → ∀ x, xs[4 + j]? = some x → (1 < natF c j → flags rs x = if x ∈ bo then [true] else []) ∧ (natF c j ≤ 1 → ∀ f ∈ flags rs x, f = false)
theorem RgInv.own {c : Int} {xs bo : List Str} {rs : List RungV} (h : RgInv c xs bo rs) : OwnOk rs := fun x ⟨h1, h2⟩ => by
  have : flags rs x ≠ [] := fun z => by rw [z] at h1; simp at h1
  obtain ⟨f, hf⟩ := List.exists_mem_of_ne_nil _ this
  unfold flags at hf
  obtain ⟨r, hr, _⟩ := List.mem_map.mp hf
  obtain ⟨hr1, hr2⟩ := List.mem_filter.mp hr
  have hx : r.2.name = x := by
    rw [Bool.and_eq_true] at hr2
    exact of_decide_eq_true hr2.2
  obtain ⟨j, hj, hat⟩ := h.nm r hr1
  rw [hx] at hat
  obtain ⟨a, b⟩ := h.fl j hj x hat
  rcases Int.lt_or_le 1 (natF c j) with z | z
  · rw [a z] at h1
    split at h1
    · simp at h1
    · simp at h1
  · rw [List.any_eq_true] at h2
    obtain ⟨f, hf, hff⟩ := h2
    have := b z f hf
    rw [this] at hff
    cases hff
theorem RgInv.nil {c : Int} {xs : List Str} : RgInv c xs [] [] := ⟨(fun _ h => by cases h), (fun _ h => by cases h), fun _ _ _ _ => ⟨(fun _ => by rw [if_neg (by simp)]; rfl), fun _ f hf => by cases hf⟩⟩
theorem nat_inj {xs : List Str} (nd : xs.Nodup) {i j : Nat} {x : Str} (a : xs[i]? = some x) (b : xs[j]? = some x) : i = j := by
  obtain ⟨l1, g1⟩ := List.getElem?_eq_some_iff.mp a
  obtain ⟨l2, g2⟩ := List.getElem?_eq_some_iff.mp b
  exact (List.getElem_inj nd).mp (g1.trans g2.symm)
/-- one rung more -/
theorem RgInv.snoc {c : Int} {xs bo bo' : List Str} {rs : List RungV} {r : RungV} {j : Nat} (nd : xs.Nodup) (h : RgInv c xs bo rs) (hj : j < 5) (hat : xs[4 + j]? = some r.2.name) (ok : EndOk r.2)
    (hc : (1 < natF c j ∧ r.2.kind = 2 ∧ bo' = bo) ∨ (1 < natF c j ∧ r.2.name ∉ bo ∧ 3 ≤ r.2.kind ∧ bo' = bo ++ [r.2.name]) ∨ (natF c j ≤ 1 ∧ r.2.kind < 3 ∧ bo' = bo)) : RgInv c xs bo' (rs ++ [r]) := by
  refine ⟨fun q hq => ?_, fun q hq => ?_, fun i hi x hx => ?_⟩
  · rcases List.mem_append.mp hq with z | z
    · exact h.nm q z
    · rw [List.mem_singleton.mp z]; exact ⟨j, hj, hat⟩
  · rcases List.mem_append.mp hq with z | z
    · exact h.ok q z
    · rw [List.mem_singleton.mp z]; exact ok
  · rw [flags_snoc]
    obtain ⟨a, b⟩ := h.fl i hi x hx
    by_cases e : r.2.name = x
    · have eij : i = j := by
        rw [e] at hat
        have := nat_inj nd hx hat
        omega
      subst eij
      rcases hc with ⟨c1, c2, rfl⟩ | ⟨c1, c2, c3, rfl⟩ | ⟨c1, c2, rfl⟩
      · rw [if_neg (fun z => z.1 c2), List.append_nil]
        exact ⟨a, b⟩
      · rw [if_pos ⟨by omega, e⟩, decide_eq_true c3]
        refine ⟨fun _ => ?_, fun z => by omega⟩
        rw [a c1, if_neg (by rw [← e]; exact c2), if_pos (by rw [← e]; simp)]
        rfl
      · refine ⟨fun z => by omega, fun z f hf => ?_⟩
        rcases List.mem_append.mp hf with q | q
        · exact b z f q
        · split at q
          · rw [List.mem_singleton.mp q]
            exact decide_eq_false (by omega)
          · cases q
    · rw [if_neg (fun z => e z.2), List.append_nil]
      refine ⟨fun z => ?_, b⟩
      rw [a z]
      rcases hc with ⟨_, _, rfl⟩ | ⟨_, _, _, rfl⟩ | ⟨_, _, rfl⟩
      · rfl
      · have : (x ∈ bo ++ [r.2.name]) ↔ x ∈ bo := by
          rw [List.mem_append, List.mem_singleton]
          exact ⟨fun z => z.elim id fun q => absurd q.symm e, .inl⟩
        simp only [this]
      · rfl
structure LRArg where
  a : Addr
  ns : List Int
  b : Nat
  nl : Addr
  xs : List Str
  tl : Addr
  us : List V
  Ds : List Den
  n : Nat
def RungsAt (H : Hp) (lr : Addr) (xs : List Str) (rs : List RungV) : Prop := ∃ rts, H lr = some (.lst rts) ∧ Paired (RungTold H 12) rts rs ∧ OwnOk rs ∧ (∀ r ∈ rs, EndOk r.2) ∧ ∀ r ∈ rs, ∃ j, j < 5 ∧ xs[4 + j]? = some r.2.name
section
variable {w : World} {K : PySem.W.Frag} {mg : Mg} {base : Heap}
def spRungs (K : PySem.W.Frag) : Sp := spP (ι := LRArg) (fun i => [.ref i.a, .int (i.b : Nat), .ref i.nl, .ref i.tl, .int (i.n : Nat)])
  (fun i H => SqL K H i.a (i.ns.map V.int) ∧ H i.nl = some (.lst (i.xs.map V.str)) ∧ NamesOk i.xs ∧ H i.tl = some (.lst i.us) ∧ Paired (ToldAt H 12) i.us i.Ds ∧ (∀ D ∈ i.Ds, D.s ≤ 20) ∧ i.us ≠ [] ∧ i.us.length ≤ 1000 ∧ i.n ≤ 30)
  (fun i H v H2 => ∃ lr rs, v = .ref lr ∧ H lr = none ∧ RungsAt H2 lr i.xs rs ∧ rs.length = i.n)
theorem c_rungs (T : Tx w K mg base) : Cal PG w K mg base 2 "_law_rungs" (spRungs K) := by
  refine cal_of (fnd ["_law_script", "_law_begin", "_law_names_here", "_law_trees_here", "_law_many", "_law_rungs_here", "_law_borne", "_law_k", "_law_mix", "_law_name", "_law_nature", "_law_kind"] ["_law_script", "_law_begin", "_law_names_here", "_law_trees_here", "_law_many"] T.d_law_rungs (by decide +kernel) (spP_len fun _ => rfl) (fun _ _ _ _ _ _ us h => by match us, h with | [_, _, _, _, _], _ => rfl) ?_) T.g_law_rungs
  rintro cdv A outer s H vs Q E hr ⟨⟨a, ns, b, nl, xs, tl, us, Ds, n⟩, rfl, ⟨ha, hnl, hxs, htl, hus, hDs, hu0, hul, hn⟩, hQ⟩
  have ha : SqL K H a (ns.map V.int) := ha
  have hnl : H nl = some (.lst (xs.map V.str)) := hnl
  have hxs : NamesOk xs := hxs
  have htl : H tl = some (.lst us) := htl
  have hus : Paired (ToldAt H 12) us Ds := hus
  have hDs : ∀ D ∈ Ds, D.s ≤ 20 := hDs
  have hu0 : us ≠ [] := hu0
  have hul : us.length ≤ 1000 := hul
  have hn : n ≤ 30 := hn
  have x9 := hxs.len
  have nd : (["_law_script", "_law_begin", "_law_names_here", "_law_trees_here", "_law_many", "_law_rungs_here", "_law_borne", "_law_k", "_law_mix", "_law_name", "_law_nature", "_law_kind"] : List Str).Nodup := by decide +kernel
  refine ⟨_, 
    (pss_cons (ps_set (i := 5) nd rfl (Or.inl rfl) (pe_lst pa_nil)) 
    (pss_cons (ps_set (i := 6) nd rfl (Or.inl rfl) (pe_lst pa_nil)) 
    (pss_cons (ps_for (passes_of rfl) rfl (pi_range1 (by rfl) T.f_range (pa_cons (pv 4) pa_nil)) (pg_name (i := 7) nd rfl (Or.inl rfl)) 
    (pss_cons (ps_set (i := 8) nd rfl (Or.inl rfl) (pe_fn T hr (by rfl) T.g_law_mixed pass0 T.kp_law_mixed (pa_cons (pe_fn T hr (by rfl) T.g_law_cell_at pass0 T.kp_law_cell_at (pa_cons (pv 0) (pa_cons (pv 1) pa_nil))) (pa_cons (pe_op op_add pe_int (pv 7)) pa_nil)))) 
    (pss_cons (ps_set (i := 9) nd rfl (Or.inl rfl) (pe_ix (ix_lT T) (pv 2) (pe_op op_add pe_int (pe_op op_mod (pv 8) pe_int)) (fun _ _ => rfl))) 
    (pss_cons (ps_set (i := 10) nd rfl (Or.inl rfl) (pe_op op_mod (pe_fn T hr (by rfl) T.g_law_mixed pass0 T.kp_law_mixed (pa_cons (pe_fn T hr (by rfl) T.g_law_cell_at pass0 T.kp_law_cell_at (pa_cons (pv 0) (pa_cons (pv 1) pa_nil))) (pa_cons (pe_op op_add pe_int (pe_op op_mod (pv 8) pe_int)) pa_nil))) pe_int)) 
    (pss_cons (ps_set (i := 11) nd rfl (Or.inl rfl) (pe_ix (ix_lT T) (pe_lst (pa_cons pe_str (pa_cons pe_str (pa_cons pe_str pa_nil)))) (pe_op op_mod (pe_op op_fdiv (pv 8) pe_int) pe_int) (fun _ _ => rfl))) 
    (pss_cons (ps_if (PW.pt (pw_and (pt_cmpR op_gt (pv 10) pe_int (nomark _)) (pw_and1 (PW.pt (pw_or (pt_cmpR (op_inT T) (pv 9) (pv 6) (by with_unfolding_all rfl)) (pw_or1 (pt_cmpR op_eq (pe_op op_mod (pe_op op_fdiv (pv 8) pe_int) pe_int) pe_int (nomark _)))))))) 
    (pss_cons (ps_set (i := 11) nd rfl (Or.inl rfl) pe_str) pss_nil) 
    (pss_cons (ps_if (pt_cmpR op_gt (pv 10) pe_int (nomark _)) 
    (pss_cons (ps_set (i := 11) nd rfl (Or.inl rfl) (pe_ix (ix_lT T) (pe_lst (pa_cons pe_str (pa_cons pe_str pa_nil))) (pe_op op_sub (pv 10) pe_int) (fun _ _ => rfl))) 
    (pss_cons (ps_expr (pe_bm PySem.F.plainAttrs_list PySem.F.slot_list_append PySem.F.type_list_append mt_append (pv 6) (pa_cons (pv 9) pa_nil))) pss_nil)) pss_nil) pss_nil)) 
    (pss_cons (ps_expr (pe_bm PySem.F.plainAttrs_list PySem.F.slot_list_append PySem.F.type_list_append mt_append (pv 5) (pa_cons (pe_tup (pa_cons (pe_ix (ix_lT T) (pv 3) (pe_op op_mod (pe_op op_fdiv (pv 8) pe_int) (pe_callB call_len_seq (by rfl) T.f_len (by decide +kernel) (pa_cons (pv 3) pa_nil))) (fun _ _ => rfl)) (pa_cons (pe_tup (pa_cons (pv 11) (pa_cons (pv 9) (pa_cons (pe_op op_add pe_int (pe_op op_mod (pe_op op_fdiv (pv 8) pe_int) (pe_ix (ix_lT T) (pe_lst (pa_cons pe_int (pa_cons pe_int pa_nil))) (pe_op op_mod (pe_op op_fdiv (pv 8) pe_int) pe_int) (fun _ _ => rfl)))) pa_nil)))) pa_nil))) pa_nil))) pss_nil))))))) 
    (pss_cons (ps_ret (pv 5)) pss_nil)))), SS.here ?_⟩
  refine ss_asgR (er_lstV (vs := []) ea_nil (by decide)) fun v H1 e1 ⟨lr, ev, hlr0, hlr⟩ => ?_
  subst ev
  refine ss_asgR (er_lstV (vs := []) ea_nil (by decide)) fun v H2 e2 ⟨lb, ev, hlb0, hlb⟩ => ?_
  subst ev
  have rn : H lr = none := hlr0
  have bn : H lb = none := fresh_back e1 hlb0
  have nrb : lr ≠ lb := fun z => by rw [← z, hlr] at hlb0; cases hlb0
  have hupos : 0 < us.length := List.length_pos_iff.mpr hu0
  generalize hc : cellF ns b = c
  refine ss_forR (n := n) (ea_cons (ev_var rfl) ea_nil) (by omega) (fun i σ' F => ∃ (o7 o8 o9 o10 o11 : Option V) (rts : List V) (rs : List RungV) (bo : List Str), σ' = [some (.ref a), some (.int (b : Nat)), some (.ref nl), some (.ref tl), some (.int (n : Nat)), some (.ref lr), some (.ref lb), o7, o8, o9, o10, o11] ∧ Ex H F ∧ F lr = some (.lst rts) ∧ F lb = some (.lst (bo.map V.str)) ∧ Paired (RungTold F 12) rts rs ∧ RgInv c xs bo rs ∧ rs.length = i ∧ bo.length ≤ i)
    (fun F f => ⟨none, none, none, none, none, [], [], [], rfl, e1.trans (e2.trans f), (e2.trans f) _ _ hlr, f _ _ hlb, .nil, .nil, rfl, Nat.le_refl _⟩) ?_ ?_
  · rintro i σ' F hi ⟨o7, o8, o9, o10, o11, rts, rs, bo, rfl, e, hr', hb', hpr, inv, hrl, hbl⟩
    have ha' := ex_l e ha
    have hnl' := e _ _ hnl
    have htl' := e _ _ htl
    have hm := mixF_range c (60 + (i : Int))
    refine ss_asg (v := .int (mixF c (60 + (i : Int)))) (ev_mixed T (by rw [← hc]; exact ev_cell T ha' (ev_var rfl) (ev_var rfl)) (ev_op ev_c (ev_var rfl) rv_I0)) ?_
    generalize mixF c (60 + (i : Int)) = m at hm
    obtain ⟨j, hj⟩ : ∃ j : Nat, m % 5 = (j : Int) := Int.eq_ofNat_of_zero_le (Int.emod_nonneg _ (by decide))
    have hj5 : j < 5 := by have := Int.emod_lt_of_pos m (show (0 : Int) < 5 by decide); omega
    have hjx : 4 + j < xs.length := by omega
    have hat : xs[4 + j]? = some xs[4 + j] := List.getElem?_eq_getElem hjx
    have hyok := hxs.ok _ (List.getElem_mem hjx)
    generalize xs[4 + j] = y at hat hyok
    have hatV : (xs.map V.str)[4 + j]? = some (.str y) := by rw [List.getElem?_map, hat]; rfl
    have ej : ∀ (σ : L2.St) (F1 : Hp), σ[8]? = some (some (.int m)) → Ev (tOp (rI (fun x j => 0 < j) fun i j => V.int (i % j)) (tVar 8) (tC (.int 5))) σ F1 (.int (j : Nat)) := fun σ F1 hσ => ev_is (ev_op (ev_var hσ) ev_c (rv_I (by decide))) (congrArg V.int hj)
    refine ss_asg (v := .str y) (ev_op (ev_var rfl) (ev_is (ev_op ev_c (ej _ _ rfl) rv_I0) (congrArg V.int (show (4 : Int) + (j : Nat) = ((4 + j : Nat) : Int) by omega))) (rv_ixL (.of hnl') (atI_nat hatV))) ?_
    refine ss_asg (v := .int (natF c j)) (ev_op (ev_mixed T (by rw [← hc]; exact ev_cell T ha' (ev_var rfl) (ev_var rfl)) (ev_op ev_c (ej _ _ rfl) rv_I0)) ev_c (rv_I (by decide))) ?_
    have hq0 : 0 ≤ natF c j := Int.emod_nonneg _ (by decide)
    have hq4 : natF c j < 4 := Int.emod_lt_of_pos _ (by decide)
    obtain ⟨j3, hj3⟩ : ∃ j : Nat, m / 5 % 3 = (j : Int) := Int.eq_ofNat_of_zero_le (Int.emod_nonneg _ (by decide))
    have l3 : j3 < 3 := by have := Int.emod_lt_of_pos (m / 5) (show (0 : Int) < 3 by decide); omega
    have hw3 : ([.str "coil", .str "set", .str "reset"] : List V)[j3]? = some (.str (eword j3)) := by
      match j3, l3 with
      | 0, _ => rfl
      | 1, _ => rfl
      | 2, _ => rfl
    refine ss_asg (v := .str (eword j3)) (ev_ixLit (ea_cons ev_c (ea_cons ev_c (ea_cons ev_c ea_nil))) (ev_is (ev_op (ev_op (ev_var rfl) ev_c (rv_I ⟨by decide, by decide⟩)) ev_c (rv_I (by decide))) (congrArg V.int hj3)) hw3 (by show 3 ≤ 100000; decide)) ?_
    -- the end of the turn
    have last : ∀ (F1 : Hp) (kd : Nat) (bo' : List Str) (D : Ends), Ex H F1 → F1 lr = some (.lst rts) → F1 lb = some (.lst (bo'.map V.str)) → Paired (RungTold F1 12) rts rs → kd < 5 → bo'.length ≤ i + 1 →
        ((1 < natF c j ∧ kd = 2 ∧ bo' = bo) ∨ (1 < natF c j ∧ y ∉ bo ∧ 3 ≤ kd ∧ bo' = bo ++ [y]) ∨ (natF c j ≤ 1 ∧ kd < 3 ∧ bo' = bo)) →
        (D.nx = fun σ' F => ∃ (o7 o8 o9 o10 o11 : Option V) (rts : List V) (rs : List RungV) (bo : List Str), σ' = [some (.ref a), some (.int (b : Nat)), some (.ref nl), some (.ref tl), some (.int (n : Nat)), some (.ref lr), some (.ref lb), o7, o8, o9, o10, o11] ∧ Ex H F ∧ F lr = some (.lst rts) ∧ F lb = some (.lst (bo.map V.str)) ∧ Paired (RungTold F 12) rts rs ∧ RgInv c xs bo rs ∧ rs.length = i + 1 ∧ bo.length ≤ i + 1) →
        SS (tSeq (tDrop (tBM K "list" rAppend (tVar 5) (tCons (tTup (tCons (tOp (rIxL K) (tVar 3) (tOp (rI (fun x j => 0 < j) fun i j => V.int (i % j)) (tOp (rI CDiv fun i j => V.int (i / j)) (tVar 8) (tC (.int 15))) (tCB (rLenS K) (tCons (tVar 3) tNil)))) (tCons (tTup (tCons (tVar 11) (tCons (tVar 9) (tCons (tOp (rI0 fun i j => V.int (i + j)) (tC (.int 1)) (tOp (rI (fun x j => 0 < j) fun i j => V.int (i % j)) (tOp (rI CDiv fun i j => V.int (i / j)) (tVar 8) (tC (.int 61))) (tOp (rIxL K) (tLst (tCons (tC (.int 3)) (tCons (tC (.int 9)) tNil))) (tOp (rI (fun x j => 0 < j) fun i j => V.int (i % j)) (tOp (rI CDiv fun i j => V.int (i / j)) (tVar 8) (tC (.int 549))) (tC (.int 2)))))) tNil)))) tNil))) tNil))) tNext) D
          [some (.ref a), some (.int (b : Nat)), some (.ref nl), some (.ref tl), some (.int (n : Nat)), some (.ref lr), some (.ref lb), some (.int (i : Nat)), some (.int m), some (.str y), some (.int (natF c j)), some (.str (eword kd))] F1 := by
      intro F1 kd bo' D eF hlr1 hlb1 hpr1 hkd hbl1 hcase hD
      have htl1 := eF _ _ htl
      obtain ⟨jt, hjt⟩ : ∃ j : Nat, m / 15 % (us.length : Int) = (j : Int) := Int.eq_ofNat_of_zero_le (Int.emod_nonneg _ (by omega))
      have ljt : jt < us.length := by have := Int.emod_lt_of_pos (m / 15) (show (0 : Int) < (us.length : Int) by omega); omega
      have hatu : us[jt]? = some us[jt] := List.getElem?_eq_getElem ljt
      obtain ⟨Dt, hDt, hTt⟩ := paired_get hus hatu
      generalize us[jt] = ut at hatu hTt
      obtain ⟨j2, hj2⟩ : ∃ j : Nat, m / 549 % 2 = (j : Int) := Int.eq_ofNat_of_zero_le (Int.emod_nonneg _ (by decide))
      have l2 : j2 < 2 := by have := Int.emod_lt_of_pos (m / 549) (show (0 : Int) < 2 by decide); omega
      obtain ⟨md, hmd, md1, md9⟩ : ∃ md : Int, ([.int 3, .int 9] : List V)[j2]? = some (.int md) ∧ 0 < md ∧ md ≤ 9 := by
        match j2, l2 with
        | 0, _ => exact ⟨3, rfl, by decide, by decide⟩
        | 1, _ => exact ⟨9, rfl, by decide, by decide⟩
      have mo0 : 0 ≤ m / 61 % md := Int.emod_nonneg _ (by omega)
      have mo1 : m / 61 % md < md := Int.emod_lt_of_pos _ md1
      let ed : EndV := ⟨kd, y, 1 + m / 61 % md⟩
      have hed : EndOk ed := ⟨hkd, hyok.nm, by have := hyok.len; show y.length ≤ 1000; omega, by show 1 ≤ 1 + m / 61 % md; omega, by show 1 + m / 61 % md ≤ 9; omega⟩
      refine ss_appR (R := fun v G => ∃ t q, v = .ref t ∧ G t = some (.tup [ut, .ref q]) ∧ G q = some (.tup [.str (eword kd), .str y, .int (1 + m / 61 % md)])) hlr1 (ev_var rfl) ?_ (by have := paired_len hpr1; omega) fun v G1 g1 ⟨t, q, ev, ht, hq⟩ => ss_end fun G2 g2 => ?_
      · refine (er_tup (R := fun vs G => ∃ q, vs = [ut, .ref q] ∧ G q = some (.tup [.str (eword kd), .str y, .int (1 + m / 61 % md)])) (ar_cons (ev_rel (v := ut) (ev_op (ev_var rfl) (ev_is (ev_op (ev_op (ev_var rfl) ev_c (rv_I ⟨by decide, by decide⟩)) (ev_lenS (k := true) (ev_var rfl) (.of htl1)) (rv_I (by omega))) (congrArg V.int hjt)) (rv_ixL (.of htl1) (atI_nat hatu)))) fun x G1 g1 ex => ar_cons (er_tupV (vs := [.str (eword kd), .str y, .int (1 + m / 61 % md)]) (ea_cons (ev_var rfl) (ea_cons (ev_var rfl) (ea_cons (ev_op ev_c (ev_op (ev_op (ev_var rfl) ev_c (rv_I ⟨by decide, by decide⟩)) (ev_ixLit (ea_cons ev_c (ea_cons ev_c ea_nil)) (ev_is (ev_op (ev_op (ev_var rfl) ev_c (rv_I ⟨by decide, by decide⟩)) ev_c (rv_I (by decide))) (congrArg V.int hj2)) hmd (by show 2 ≤ 100000; decide)) (rv_I (C := fun _ j => 0 < j) md1)) rv_I0) ea_nil))) (by show 3 ≤ 100000; decide)) fun z G2 g2 ⟨q, ez, _, hq⟩ => fun G3 g3 Q' q' => q' [] G3 (.refl _) ⟨q, by rw [show x = ut from ex, ez], g3 _ _ hq⟩) fun vs G1 ⟨q, ev, _⟩ => by rw [ev]; show 2 ≤ 100000; decide).imp fun v G2 _ ⟨t, vs, b1, _, b3, G1, g1, q, b4, b5⟩ => ⟨t, q, b1, by rw [b3, b4], g1 _ _ b5⟩
      · rw [hD]
        have hlr2 : G1 lr = some (.lst rts) := g1 _ _ hlr1
        have ntl : t ≠ lr := fun z => by rw [z, hlr2] at ht; cases ht
        have nql : q ≠ lr := fun z => by rw [z, hlr2] at hq; cases hq
        have ip : Ip F1 G2 := (Ip.put (.of g1) hlr2 rfl).ex g2
        refine ⟨_, _, _, _, _, rts ++ [v], rs ++ [(Dt, ed)], bo', rfl, ((eF.trans g1).mut rn).trans g2, g2 _ _ upd_same, g2 _ _ (by rw [upd_ne (Ne.symm nrb)]; exact g1 _ _ hlb1), ?_, inv.snoc hxs.nd hj5 hat hed hcase, by rw [List.length_append, hrl]; rfl, hbl1⟩
        refine paired_snoc ⟨t, ut, .ref q, ev, g2 _ _ (by rw [upd_ne ntl]; exact ht), (hTt.im (.of eF)).im ip, hDs Dt (List.mem_of_getElem? hDt), hed, q, rfl, g2 _ _ (by rw [upd_ne nql]; exact hq)⟩ (L2.Paired.mapP hpr1 fun _ _ q => q.im ip)
    -- reset
    refine ss_if (b := decide (1 < natF c j) && (inV (.str y) (bo.map V.str) || decide (V.int (m / 5 % 4) = V.int 0))) (et_and (et_test (ev_op (ev_var rfl) ev_c rv_I0)) fun _ => et_or (et_test (ev_op (ev_var rfl) (ev_var rfl) (rv_isL (.of hb') rfl (flat_str _)))) fun _ => et_test (ev_op (ev_op (ev_op (ev_var rfl) ev_c (rv_I ⟨by decide, by decide⟩)) ev_c (rv_I (by decide))) ev_c (rv_eq rfl))) (fun hb => ?_) fun hb => ?_
    · obtain ⟨hb1, _⟩ := Bool.and_eq_true_iff.mp hb
      have hb1 := of_decide_eq_true hb1
      refine ss_asg (v := .str (eword 2)) ev_c (ss_end fun F1 f1 => (last F1 2 bo _ (e.trans f1) (f1 _ _ hr') (f1 _ _ hb') (L2.Paired.mapP hpr fun _ _ q => q.im (.of f1)) (by decide) (by omega) (.inl ⟨hb1, rfl, rfl⟩) rfl).here)
    -- a count
    refine ss_when (b := decide (1 < natF c j)) (et_test (ev_op (ev_var rfl) ev_c rv_I0)) (fun hb2 => ?_) fun hb2 => ?_
    · have hb2' := of_decide_eq_true hb2
      have hyb : y ∉ bo := fun z => by
        rw [decide_eq_true hb2', inV_str, decide_eq_true z] at hb
        cases hb
      obtain ⟨kd, hkd, hk3, hk5⟩ : ∃ kd : Nat, natF c j - 2 = ((kd - 3 : Nat) : Int) ∧ 3 ≤ kd ∧ kd < 5 := ⟨(natF c j + 1).toNat, by omega, by omega, by omega⟩
      have hwk : ([.str "timer", .str "counter"] : List V)[kd - 3]? = some (.str (eword kd)) := by
        match kd, hk3, hk5 with
        | 3, _, _ => rfl
        | 4, _, _ => rfl
      refine ss_asg (v := .str (eword kd)) (ev_ixLit (ea_cons ev_c (ea_cons ev_c ea_nil)) (ev_is (ev_op (ev_var rfl) ev_c rv_I0) (congrArg V.int hkd)) hwk (by show 2 ≤ 100000; decide)) ?_
      refine ss_app hb' (ev_var rfl) (ev_var rfl) (by rw [List.length_map]; omega) (ss_end fun F1 f1 => ?_)
      have ip : Ip F F1 := (Ip.put (.refl _) hb' rfl).ex f1
      refine (last F1 kd (bo ++ [y]) _ ((e.mut bn).trans f1) (f1 _ _ (by rw [upd_ne nrb]; exact hr')) (by rw [f1 _ _ upd_same, List.map_append]; rfl) (L2.Paired.mapP hpr fun _ _ q => q.im ip) hk5 (by rw [List.length_append]; show bo.length + 1 ≤ i + 1; omega) (.inr (.inl ⟨hb2', hyb, hk3, rfl⟩)) rfl).here
    · have hb2' := of_decide_eq_false hb2
      exact ss_end fun F1 f1 => (last F1 j3 bo _ (e.trans f1) (f1 _ _ hr') (f1 _ _ hb') (L2.Paired.mapP hpr fun _ _ q => q.im (.of f1)) (by omega) (by omega) (.inr (.inr ⟨by omega, l3, rfl⟩)) rfl).here
  · rintro σ' F ⟨o7, o8, o9, o10, o11, rts, rs, bo, rfl, e, hr', hb', hpr, inv, hrl, hbl⟩
    exact SS.here (ss_ret (ev_var rfl) fun F1 f1 => hQ _ F1 (e.trans f1) ⟨lr, rs, rfl, rn, ⟨rts, f1 _ _ hr', L2.Paired.mapP hpr fun _ _ q => q.im (.of f1), inv.own, inv.ok, inv.nm⟩, hrl⟩)
end
end RgK
set_option Elab.async false
set_option linter.all false
set_option maxRecDepth 100000
set_option maxHeartbeats 4000000

/-! The law: a model. -/
namespace RgK
open PySem PySem.Spec PyProof.Rows L2 Evl LamX
local macro_rules | `(tactic| walk_at "ev") => `(tactic| repeat' (first
  | with_reducible exact ev_c
  | with_reducible exact ea_nil
  | ((with_reducible apply ev_var); first | rfl | assumption)
  | with_reducible apply ea_cons
  | with_reducible apply ev_fld
  | ((with_reducible show Fld _ _ _ _ _); assumption)
  | with_reducible exact rv_I0
  | with_reducible exact ru_neg
  | with_reducible exact rv_eq rfl
  | with_reducible exact rv_ne rfl
  | ((with_reducible apply rv_I); first | decide | omega | assumption)
  | ((with_reducible show _ = _ → EvT _ _ _ _); intro _)
  | ((with_reducible show _ = _ → Ev _ _ _ _); intro _)
  | with_reducible apply et_and
  | with_reducible apply et_or
  | with_reducible apply ev_andV
  | with_reducible apply ev_orV
  | with_reducible apply et_test
  | with_reducible apply et_B
  | with_reducible apply et_not
  | with_reducible apply ev_notV
  | with_reducible apply ev_un
  | with_reducible apply ev_op))

section
variable {K : PySem.W.Frag} {σ : L2.St} {H : Hp} {te ta tb ti : TE} {tr : TA} {t : TT} {tu tz : TS} {D : Ends} {b : Bool}
/-- an if behind which both ways go on alike -/
theorem ss_whenJ {P : L2.St → Hp → Prop} (h : EvT t σ H b) (h1 : (∀ σ' H', P σ' H' → SS tz D σ' H') → b = true → SS tu { D with nx := tz D } σ H) (h2 : b = false → P σ H) (k : ∀ σ' H', P σ' H' → SS tz D σ' H') : SS (tSeq (tIfS t tu tNext) tz) D σ H :=
  ss_when h (h1 k) fun hb => k _ _ (h2 hb)
theorem er_catTR {xs : List V} {Rb : List V → Hp → Prop} (hx : xs ≠ []) (h1 : EvR ta σ H (NewT H xs)) (h2 : ∀ H1, Ex H H1 → EvR tb σ H1 (fun v H2 => ∃ q ys, v = .ref q ∧ H2 q = some (.tup ys) ∧ Rb ys H2)) (hR : ∀ ys H1 H2, Rb ys H1 → Ex H1 H2 → Rb ys H2) (hl : ∀ ys H1, Rb ys H1 → xs.length + ys.length ≤ 100000) :
    EvR (tOp (rCatA K) ta tb) σ H (fun v H2 => ∃ p ys, v = .ref p ∧ H2 p = some (.tup (xs ++ ys)) ∧ Rb ys H2) :=
  er_op h1 fun x H1 e1 ⟨p, ex, _, hp⟩ => ⟨_, h2 H1 e1, fun y H2 e2 ⟨q, ys, ey, hq, r⟩ Q k => ⟨p, q, xs, ys, ex, ey, .of (e2 _ _ hp), .of hq, sz_of (hl ys H2 r), fun z => absurd z hx, fun _ z => k _ _ (.refl _) ⟨p, ys, rfl, by rw [e2 _ _ hp, z, List.append_nil], r⟩, fun _ _ u hu => k _ _ (.new hu) ⟨u, ys, rfl, upd_same, hR ys H2 _ r (.new hu)⟩⟩⟩
theorem er_tupOfR {Rb : List V → Hp → Prop} (h : EvR te σ H (fun v H2 => ∃ l xs, v = .ref l ∧ H2 l = some (.lst xs) ∧ Rb xs H2)) (hR : ∀ ys H1 H2, Rb ys H1 → Ex H1 H2 → Rb ys H2) : EvR (tCB (fun xs H Q => ∃ p ys, xs = [.ref p] ∧ ((SqL K H p ys ∧ ∀ l, H l = none → Q (.ref l) (upd H l (.tup ys))) ∨ (SqT K H p ys ∧ Q (.ref p) H))) (tCons te tNil)) σ H (fun v H2 => ∃ q ys, v = .ref q ∧ H2 q = some (.tup ys) ∧ Rb ys H2) :=
  er_cb1 h fun x F1 e3 ⟨l, xs, ex, hl, r⟩ Q q => ⟨l, xs, by rw [ex], .inl ⟨.of hl, fun t ht => q _ _ (.new ht) ⟨t, xs, rfl, upd_same, hR xs F1 _ r (.new ht)⟩⟩⟩
end
section
variable {K : PySem.W.Frag} {σ : L2.St} {H : Hp} {te : TE} {tl th : TO} {lo hi : Option Int}
theorem er_slLR {xs : List V} (h : EvR te σ H (fun v H2 => ∃ p, v = .ref p ∧ H2 p = some (.lst xs))) (hl : ∀ H1, Ex H H1 → EvO tl σ H1 lo) (hh : ∀ H1, Ex H H1 → EvO th σ H1 hi) : EvR (tSl (rSlL K) te tl th) σ H (NewL H (cutV xs lo hi)) :=
  fun H1 e1 Q q => h H1 e1 _ fun v H2 e2 ⟨a, ev, ha⟩ => by
    subst ev
    exact hl H2 (e1.trans e2) H2 (.refl _) _ fun H3 e3 => hh H3 (e1.trans (e2.trans e3)) H3 (.refl _) _ fun H4 e4 => ⟨a, xs, rfl, .of ((e3.trans e4) _ _ ha), fun p hp => q _ _ ((e2.trans (e3.trans e4)).trans (.new hp)) ⟨p, rfl, fresh_back (e1.trans (e2.trans (e3.trans e4))) hp, upd_same⟩⟩
end
theorem len_sub {l m : List Str} (nd : l.Nodup) (h : ∀ x ∈ l, x ∈ m) : l.length ≤ m.length := by
  induction l generalizing m with
  | nil => exact Nat.zero_le _
  | cons a l ih =>
    obtain ⟨n1, n2⟩ := List.nodup_cons.mp nd
    have ha := h a List.mem_cons_self
    have := ih (m := m.erase a) n2 fun x hx => (List.mem_erase_of_ne (fun e => n1 (by rw [← e]; exact hx))).mpr (h x (List.mem_cons_of_mem _ hx))
    rw [List.length_erase_of_mem ha] at this
    have : 0 < m.length := List.length_pos_of_mem ha
    rw [List.length_cons]
    omega
section
variable {w : World} {K : PySem.W.Frag} {mg : Mg} {base : Heap}
def spNamesOf : Sp := spP (ι := Addr × Nat × List RungV) (fun i => [.ref i.1]) (fun i H => ∃ rts, H i.1 = some (.lst rts) ∧ Paired (RungTold H i.2.1) rts i.2.2 ∧ i.2.2.length ≤ 1000) (fun i H v H2 => NewL H ((namesOf i.2.2).map V.str) v H2)
theorem c_names_of (T : Tx w K mg base) : Cal PG w K mg base 1 "_law_names_of" spNamesOf := by
  refine cal_of (fnd ["_law_rungs_here", "_law_found", "_law_told_here", "_law_end_here"] ["_law_rungs_here"] T.d_law_names_of (by decide +kernel) (spP_len fun _ => rfl) (fun _ _ _ _ _ _ us h => by match us, h with | [_], _ => rfl) ?_) T.g_law_names_of
  rintro cdv A outer s H vs Q E hr ⟨⟨a, n, rs⟩, rfl, ⟨rts, ha, hrs, hl⟩, hQ⟩
  have ha : H a = some (.lst rts) := ha
  have hrs : Paired (RungTold H n) rts rs := hrs
  have hl : rs.length ≤ 1000 := hl
  have nd : (["_law_rungs_here", "_law_found", "_law_told_here", "_law_end_here"] : List Str).Nodup := by decide +kernel
  refine ⟨_, 
    (pss_cons (ps_set (i := 1) nd rfl (Or.inl rfl) (pe_lst pa_nil)) 
    (pss_cons (ps_for (passes_of rfl) rfl (pi_seq (pv 0)) (pg_tup rfl (pgs_cons (pg_name (i := 2) nd rfl (Or.inl rfl)) (pgs_cons (pg_name (i := 3) nd rfl (Or.inl rfl)) pgs_nil))) 
    (pss_cons (ps_if (pt_cmpR (op_ninT T) (pe_ix (ix_tT T) (pv 3) pe_int (fun _ _ => rfl)) (pv 1) (by with_unfolding_all rfl)) 
    (pss_cons (ps_expr (pe_bm PySem.F.plainAttrs_list PySem.F.slot_list_append PySem.F.type_list_append mt_append (pv 1) (pa_cons (pe_ix (ix_tT T) (pv 3) pe_int (fun _ _ => rfl)) pa_nil))) pss_nil) pss_nil) pss_nil)) 
    (pss_cons (ps_ret (pv 1)) pss_nil))), SS.here ?_⟩
  refine ss_asgR (er_lstV (vs := []) ea_nil (by decide)) fun v H1 e1 ⟨q, ev, hq0, hq⟩ => ?_
  subst ev
  have nqa : a ≠ q := fun z => by rw [← z, ha] at hq0; cases hq0
  refine ss_forSqG (k := true) (ev_var rfl) (.of (e1 _ _ ha)) (fun i σ' F => (∃ o2 o3, σ' = [some (.ref a), some (.ref q), o2, o3]) ∧ Ex H F ∧ F q = some (.lst ((namesOf (rs.take i)).map V.str))) (fun F f => ⟨⟨none, none, rfl⟩, e1.trans f, f _ _ hq⟩) (fun i σ' F _ ⟨_, e, _⟩ => .of (e _ _ ha)) ?_ ?_
  · rintro i x σ' F hx ⟨⟨o2, o3, rfl⟩, e, hqF⟩
    obtain ⟨r, hri, t, u, ee, rfl, ht, _, _, _, t2, rfl, ht2⟩ := paired_get hrs hx
    refine g_two (e _ _ ht) (SS.here ?_)
    have ht2' := e _ _ ht2
    have hn1 := namesOf_len (rs.take i)
    rw [List.length_take] at hn1
    have en : Ev (tOp (rIxT K) (tVar 3) (tC (.int 1))) [some (.ref a), some (.ref q), some u, some (.ref t2)] F (.str r.2.name) := ev_op (ev_var rfl) ev_c (rv_ixT (.of ht2') (atI_nat (j := 1) rfl))
    refine ss_when (b := !inV (.str r.2.name) ((namesOf (rs.take i)).map V.str)) (et_test (ev_op en (ev_var rfl) (rv_niL (.of hqF) rfl (flat_str _)))) (fun hb => ?_) fun hb => ?_
    · rw [inV_str] at hb
      have hno : r.2.name ∉ namesOf (rs.take i) := by simpa using hb
      refine ss_app hqF (ev_var rfl) en (by rw [List.length_map]; omega) (ss_end fun F1 f1 => ⟨⟨_, _, rfl⟩, (e.mut hq0).trans f1, ?_⟩)
      rw [f1 _ _ upd_same, take_snoc hri, namesOf_snoc, addN_new hno, List.map_append]
      rfl
    · rw [inV_str] at hb
      have hyes : r.2.name ∈ namesOf (rs.take i) := by simpa using hb
      refine ss_end fun F1 f1 => ⟨⟨_, _, rfl⟩, e.trans f1, ?_⟩
      rw [f1 _ _ hqF, take_snoc hri, namesOf_snoc]
      unfold addN
      rw [if_pos hyes]
  · rintro σ' F ⟨⟨o2, o3, rfl⟩, e, hqF⟩
    rw [paired_len hrs, List.take_length] at hqF
    exact SS.here (ss_ret (ev_var rfl) fun F1 f1 => hQ _ F1 (e.trans f1) ⟨q, rfl, hq0, f1 _ _ hqF⟩)
structure MArg where
  a : Addr
  ns : List Int
  b : Nat
def spModel (K : PySem.W.Frag) : Sp := spP (ι := MArg) (fun i => [.ref i.a, .int (i.b : Nat)]) (fun i H => SqL K H i.a (i.ns.map V.int)) (fun i H v H2 => ∃ M, ModelAt H2 12 v M ∧ LdrOk M)
theorem told_sum {ts : List V} {ks : List Str} {H : Hp} {n : Nat} (h : Paired (fun (v : V) (x : Str) => ∃ t, v = .ref t ∧ H t = some (.tup [.str "contact", .str x])) ts ks) (hk : ∀ x ∈ ks, nameB x = true ∧ x.length ≤ 8) : Paired (ToldAt H (n + 1)) ts (ks.map fun x => ⟨fun β => β x, 1, 1⟩) ∧ ((ks.map fun x => (⟨fun β => β x, 1, 1⟩ : Den)).map (·.s)).sum = ks.length := by
  induction h with
  | nil => exact ⟨.nil, rfl⟩
  | cons g r ih =>
    obtain ⟨t, e, ht⟩ := g
    obtain ⟨a, b⟩ := ih fun x hx => hk x (List.mem_cons_of_mem _ hx)
    obtain ⟨h1, h2⟩ := hk _ List.mem_cons_self
    subst e
    refine ⟨.cons (told_contact ht h1 (by omega)) a, ?_⟩
    rw [List.map_cons, List.map_cons, List.sum_cons, b, List.length_cons]
    show (1 : Int) + _ = _
    omega
def inL : List Str := ["inx", "iny"]
theorem model_ok {xs : List Str} {rs : List RungV} {k7 tn kk : Nat} (hxs : NamesOk xs) (own : OwnOk rs) (ends : ∀ r ∈ rs, EndOk r.2) (nm : ∀ r ∈ rs, ∃ j, j < 5 ∧ xs[4 + j]? = some r.2.name) (l1 : 1 ≤ rs.length) (l30 : rs.length ≤ 30) (h7 : k7 ≤ 6) (htn : tn < (namesOf rs).length) (hk1 : 1 ≤ kk) (hk6 : kk ≤ 6) :
    LdrOk ⟨(xs.take 4 ++ inL).take k7, ((namesOf rs).drop tn ++ (namesOf rs).take tn).take kk, rs⟩ := by
  have x9 := hxs.len
  have inx_ok : nameB "inx" = true ∧ ("inx" : Str).length ≤ 8 := by decide +kernel
  have iny_ok : nameB "iny" = true ∧ ("iny" : Str).length ≤ 8 := by decide +kernel
  have nne : ("inx" : Str) ≠ "iny" := by decide +kernel
  have nn := namesOf_nodup rs
  have nin : ∀ x ∈ namesOf rs, x ∈ xs.drop 4 := fun x hx => by
    obtain ⟨r, hr, e⟩ := (mem_namesOf rs).mp hx
    obtain ⟨j, hj, hat⟩ := nm r hr
    rw [← e]
    refine List.mem_of_getElem? (i := j) ?_
    rw [List.getElem?_drop]
    exact hat
  have rot : (namesOf rs).drop tn ++ (namesOf rs).take tn = [] ++ ((namesOf rs).drop tn ++ (namesOf rs).take tn) := rfl
  have rmem : ∀ x, x ∈ (namesOf rs).drop tn ++ (namesOf rs).take tn → x ∈ namesOf rs := fun x hx => (List.mem_append.mp hx).elim (fun z => List.mem_of_mem_drop z) fun z => List.mem_of_mem_take z
  have rnd : ((namesOf rs).drop tn ++ (namesOf rs).take tn).Nodup := by
    have h0 : ((namesOf rs).take tn ++ (namesOf rs).drop tn).Nodup := by rw [List.take_append_drop]; exact nn
    obtain ⟨a1, a2, a3⟩ := List.nodup_append.mp h0
    exact List.nodup_append.mpr ⟨a2, a1, fun x hx y hy e => a3 y hy x hx e.symm⟩
  have rlen : ((namesOf rs).drop tn ++ (namesOf rs).take tn).length = (namesOf rs).length := by rw [List.length_append, List.length_drop, List.length_take]; omega
  have imem : ∀ x ∈ xs.take 4 ++ inL, (x ∈ xs.take 4) ∨ x = "inx" ∨ x = "iny" := fun x hx => by
    rcases List.mem_append.mp hx with z | z
    · exact .inl z
    · have z : x ∈ [("inx" : Str), "iny"] := z
      rcases List.mem_cons.mp z with z | z
      · exact .inr (.inl z)
      · exact .inr (.inr (List.mem_singleton.mp z))
  have ind : (xs.take 4 ++ inL).Nodup := List.nodup_append.mpr ⟨hxs.nd.sublist (List.take_sublist _ _), by show ([("inx" : Str), "iny"]).Nodup; simp [nne], fun x hx y hy e => by
    have o := hxs.ok x (List.mem_of_mem_take hx)
    have hy : y ∈ [("inx" : Str), "iny"] := hy
    rcases List.mem_cons.mp hy with z | z
    · exact o.x1 (e.trans z)
    · exact o.x2 (e.trans (List.mem_singleton.mp z))⟩
  have nlen : (namesOf rs).length ≤ 5 := by
    have := len_sub nn nin
    rw [List.length_drop] at this
    omega
  refine ⟨fun x hx => ?_, fun x hx => ?_, ind.sublist (List.take_sublist _ _), rnd.sublist (List.take_sublist _ _), ?_, ?_, ?_, l1, l30, fun x hx hn => ?_, fun x hx => rmem x (List.mem_of_mem_take hx), own, ?_, ?_, ends⟩
  · rcases imem x (List.mem_of_mem_take hx) with z | rfl | rfl
    · have o := hxs.ok x (List.mem_of_mem_take z)
      exact ⟨o.nm, by have := o.len; omega⟩
    · exact ⟨inx_ok.1, by have := inx_ok.2; omega⟩
    · exact ⟨iny_ok.1, by have := iny_ok.2; omega⟩
  · have o := hxs.ok x (List.mem_of_mem_drop (nin x (rmem x (List.mem_of_mem_take hx))))
    exact ⟨o.nm, by have := o.len; omega⟩
  · show ((xs.take 4 ++ inL).take k7).length ≤ 6
    rw [List.length_take]; omega
  · show 1 ≤ (((namesOf rs).drop tn ++ (namesOf rs).take tn).take kk).length
    rw [List.length_take, rlen]; omega
  · show (((namesOf rs).drop tn ++ (namesOf rs).take tn).take kk).length ≤ 6
    rw [List.length_take]; omega
  · have hd := nin x hn
    rcases imem x (List.mem_of_mem_take hx) with z | z | z
    · have h0 : (xs.take 4 ++ xs.drop 4).Nodup := by rw [List.take_append_drop]; exact hxs.nd
      exact (List.nodup_append.mp h0).2.2 x z x hd rfl
    · exact (hxs.ok x (List.mem_of_mem_drop hd)).x1 z
    · exact (hxs.ok x (List.mem_of_mem_drop hd)).x2 z
  · show 1 ≤ (namesOf rs).length
    omega
  · show (namesOf rs).length ≤ 20
    omega
theorem c_model (T : Tx w K mg base) : Cal PG w K mg base 35 "_law_model" (spModel K) := by
  refine cal_of (fnd ["_law_script", "_law_begin", "_law_names_here", "_law_head", "_law_inside", "_law_trees_here", "_law_many", "_law_wide", "_law_rungs_here", "_law_found", "_law_more", "_law_turn", "_law_outputs", "_law_told_here", "_law_one"] ["_law_script", "_law_begin"] T.d_law_model (by decide +kernel) (spP_len fun _ => rfl) (fun _ _ _ _ _ _ us h => by match us, h with | [_, _], _ => rfl) ?_) T.g_law_model
  rintro cdv A outer s H vs Q E hr ⟨⟨a, ns, b⟩, rfl, ha, hQ⟩
  have ha : SqL K H a (ns.map V.int) := ha
  have nd : (["_law_script", "_law_begin", "_law_names_here", "_law_head", "_law_inside", "_law_trees_here", "_law_many", "_law_wide", "_law_rungs_here", "_law_found", "_law_more", "_law_turn", "_law_outputs", "_law_told_here", "_law_one"] : List Str).Nodup := by decide +kernel
  refine ⟨_, 
    (pss_cons (ps_set (i := 2) nd rfl (Or.inl rfl) (pe_fn T hr (by rfl) T.g_law_names pass0 T.kp_law_names (pa_cons (pe_fn T hr (by rfl) T.g_law_cell_at pass0 T.kp_law_cell_at (pa_cons (pv 0) (pa_cons (pv 1) pa_nil))) pa_nil))) 
    (pss_cons (ps_set (i := 3) nd rfl (Or.inl rfl) (pe_fn T hr (by rfl) T.g_law_mixed pass0 T.kp_law_mixed (pa_cons (pe_fn T hr (by rfl) T.g_law_cell_at pass0 T.kp_law_cell_at (pa_cons (pv 0) (pa_cons (pe_op op_add (pv 1) pe_int) pa_nil))) (pa_cons pe_int pa_nil)))) 
    (pss_cons (ps_set (i := 4) nd rfl (Or.inl rfl) (pe_op op_cat (pe_slice sl_list (pv 2) po_none (po_some pe_int)) (pe_lst (pa_cons (pe_ix (ix_lT T) (pv 2) (pe_op op_add pe_int (pe_op op_mod (pv 3) pe_int)) (fun _ _ => rfl)) (pa_cons pe_str pa_nil))))) 
    (pss_cons (ps_if (pt_cmpR op_eq (pe_op op_mod (pe_op op_fdiv (pv 3) pe_int) pe_int) pe_int (nomark _)) 
    (pss_cons (ps_set (i := 4) nd rfl (Or.inl rfl) (pe_lst (pa_cons (pe_ix (ix_lT T) (pv 2) pe_int (fun _ _ => rfl)) (pa_cons (pe_ix (ix_lT T) (pv 2) pe_int (fun _ _ => rfl)) (pa_cons (pe_ix (ix_lT T) (pv 2) pe_int (fun _ _ => rfl)) (pa_cons (pe_ix (ix_lT T) (pv 2) pe_int (fun _ _ => rfl)) (pa_cons (pe_ix (ix_lT T) (pv 2) pe_int (fun _ _ => rfl)) pa_nil))))))) pss_nil) pss_nil) 
    (pss_cons (ps_setLc (i := 5) (own := [("_law_told_here", 13)]) (g := gName 13) rfl nd rfl rfl (sw_true rfl rfl rfl (by decide +kernel)) (pi_seq (pe_fn T hr (by rfl) T.g_law_trees pass0 T.kp_law_trees (pa_cons (pv 0) (pa_cons (pe_op op_add (pv 1) pe_int) (pa_cons (pv 4) (pa_cons (pe_op op_add pe_int (pe_op op_mod (pe_op op_fdiv (pv 3) pe_int) pe_int)) pa_nil)))))) (blkOk_by (N := ["_law_script", "_law_begin", "_law_names_here", "_law_head", "_law_inside", "_law_trees_here", "_law_many", "_law_wide", "_law_rungs_here", "_law_found", "_law_more", "_law_turn", "_law_outputs", "_law_told_here", "_law_one"]) (sc := defScope s_law_model) (own := [("_law_told_here", 13)]) (by decide +kernel)) (fun _ _ _ _ _ => (pg_name (i := 13) nd rfl (Or.inl rfl))) (fun _ _ _ _ _ => pts_one (pt_cmpR op_lt (pe_fn T hr (by rfl) T.g_law_size pass0 T.kp_law_size (pa_cons (pv 13) pa_nil)) pe_int (nomark _))) (fun _ _ _ _ _ => pe_hide (pv 13))) 
    (pss_cons (ps_set (i := 6) nd rfl (Or.inl rfl) (pe_op op_add pe_int (pe_op op_mod (pe_op op_fdiv (pv 3) pe_int) pe_int))) 
    (pss_cons (ps_if (pt_cmpR op_eq (pe_op op_mod (pe_op op_fdiv (pv 3) pe_int) pe_int) pe_int (nomark _)) 
    (pss_cons (ps_set (i := 6) nd rfl (Or.inl rfl) (pe_op op_add pe_int (pe_op op_mod (pe_op op_fdiv (pv 3) pe_int) pe_int))) pss_nil) pss_nil) 
    (pss_cons (ps_set (i := 7) nd rfl (Or.inl rfl) (pe_op op_catA (pe_tup (pa_cons (pe_ix (ix_lT T) (pe_lst (pa_cons pe_str (pa_cons pe_str pa_nil))) (pe_op op_mod (pe_op op_fdiv (pv 3) pe_int) pe_int) (fun _ _ => rfl)) pa_nil)) (pe_callTy call_tuple_of (by rfl) T.f_tuple (by decide +kernel) (pa_cons (pe_lc (own := [("_law_one", 14)]) (g := gName 14) (tt := tYes) rfl nd (pi_seq (pe_slice sl_list (pv 4) po_none (po_some pe_int))) (blkOk_by (N := ["_law_script", "_law_begin", "_law_names_here", "_law_head", "_law_inside", "_law_trees_here", "_law_many", "_law_wide", "_law_rungs_here", "_law_found", "_law_more", "_law_turn", "_law_outputs", "_law_told_here", "_law_one"]) (sc := defScope s_law_model) (own := [("_law_one", 14)]) (by decide +kernel)) (fun _ _ _ _ _ => (pg_name (i := 14) nd rfl (Or.inl rfl))) (fun _ _ _ _ _ => pts_nil) (fun _ _ _ _ _ => pe_hide (pe_tup (pa_cons pe_str (pa_cons (pv 14) pa_nil))))) pa_nil)))) 
    (pss_cons (ps_set (i := 5) nd rfl (Or.inl rfl) (pe_op op_cat (pv 5) (pe_lst (pa_cons (pe_tup (pa_cons pe_str (pa_cons (pe_ix (ix_lT T) (pv 2) pe_int (fun _ _ => rfl)) pa_nil))) (pa_cons (pv 7) pa_nil))))) 
    (pss_cons (ps_set (i := 8) nd rfl (Or.inl rfl) (pe_fn T hr (by rfl) T.g_law_rungs pass0 T.kp_law_rungs (pa_cons (pv 0) (pa_cons (pe_op op_add (pv 1) pe_int) (pa_cons (pv 2) (pa_cons (pv 5) (pa_cons (pv 6) pa_nil))))))) 
    (pss_cons (ps_set (i := 9) nd rfl (Or.inl rfl) (pe_fn T hr (by rfl) T.g_law_names_of pass0 T.kp_law_names_of (pa_cons (pv 8) pa_nil))) 
    (pss_cons (ps_set (i := 10) nd rfl (Or.inl rfl) (pe_fn T hr (by rfl) T.g_law_mixed pass0 T.kp_law_mixed (pa_cons (pe_fn T hr (by rfl) T.g_law_cell_at pass0 T.kp_law_cell_at (pa_cons (pv 0) (pa_cons (pe_op op_add (pv 1) pe_int) pa_nil))) (pa_cons pe_int pa_nil)))) 
    (pss_cons (ps_set (i := 11) nd rfl (Or.inl rfl) (pe_op op_mod (pv 10) (pe_callB call_len_seq (by rfl) T.f_len (by decide +kernel) (pa_cons (pv 9) pa_nil)))) 
    (pss_cons (ps_set (i := 12) nd rfl (Or.inl rfl) (pe_slice sl_list (pe_op op_cat (pe_slice sl_list (pv 9) (po_some (pv 11)) po_none) (pe_slice sl_list (pv 9) po_none (po_some (pv 11)))) po_none (po_some (pe_op op_add pe_int (pe_op op_mod (pe_op op_fdiv (pv 10) pe_int) (pe_callB (call_min2 rfl) (by rfl) T.f_min (by decide +kernel) (pa_cons pe_int (pa_cons (pe_callB call_len_seq (by rfl) T.f_len (by decide +kernel) (pa_cons (pv 9) pa_nil)) pa_nil)))))))) 
    (pss_cons (ps_ret (pe_tup (pa_cons (pe_slice sl_list (pe_op op_cat (pe_slice sl_list (pv 2) po_none (po_some pe_int)) (pe_lst (pa_cons pe_str (pa_cons pe_str pa_nil)))) po_none (po_some (pe_op op_mod (pe_op op_fdiv (pv 3) pe_int) pe_int))) (pa_cons (pv 12) (pa_cons (pv 8) pa_nil))))) pss_nil))))))))))))))), SS.here ?_⟩
  have ebk : ∀ (k : Nat) {σ : L2.St} {F : Hp}, σ[1]? = some (some (.int (b : Nat))) → Ev (tOp (rI0 fun i j => V.int (i + j)) (tVar 1) (tC (.int (k : Nat)))) σ F (.int ((b + k : Nat) : Int)) := fun k σ F hσ => ev_is (ev_op (ev_var hσ) ev_c rv_I0) (congrArg V.int (by omega))
  refine ss_asgR (R := fun v H2 => ∃ (nl : Addr) (xs : List Str), v = .ref nl ∧ H2 nl = some (.lst (xs.map V.str)) ∧ NamesOk xs) (er_fnV (ea_cons (ev_cell T ha (ev_var rfl) (ev_var rfl)) ea_nil) ((c_names T).mono (by omega)) (spP_r (cellF ns b) rfl (fun _ _ => trivial) fun H1 v H2 _ _ ⟨xs, ⟨q, b1, _, b3⟩, ok⟩ => ⟨q, xs, b1, b3, ok⟩)) fun v H1 e1 ⟨nl, xs, ev, hnl, hxs⟩ => ?_
  subst ev
  have x9 := hxs.len
  have hd0 := mixF_range (cellF ns (b + 1)) 5
  refine ss_asg (v := .int (mixF (cellF ns (b + 1)) 5)) (ev_mixed T (ev_cell T (ex_l e1 ha) (ev_var rfl) (ebk 1 rfl)) ev_c) ?_
  generalize mixF (cellF ns (b + 1)) 5 = hd at hd0
  have ixn : ∀ (k : Nat) (hk : k < 9) {σ : L2.St} {F : Hp} {ti : TE}, Ex H1 F → σ[2]? = some (some (.ref nl)) → Ev ti σ F (.int (k : Nat)) → Ev (tOp (rIxL K) (tVar 2) ti) σ F (.str (xs[k]'(by omega))) := fun k hk σ F ti f hσ hi => ev_op (ev_var hσ) hi (rv_ixL (.of (f _ _ hnl)) (atI_nat (by rw [List.getElem?_map, List.getElem?_eq_getElem (by omega)]; rfl)))
  have hin : ∀ (k : Nat) (hk : k < 9), nameB (xs[k]'(by omega)) = true ∧ (xs[k]'(by omega)).length ≤ 8 := fun k hk => let o := hxs.ok _ (List.getElem_mem (by omega)); ⟨o.nm, o.len⟩
  obtain ⟨j5, hj5⟩ : ∃ j : Nat, hd % 5 = (j : Int) := Int.eq_ofNat_of_zero_le (Int.emod_nonneg _ (by decide))
  have l5 : j5 < 5 := by have := Int.emod_lt_of_pos hd (show (0 : Int) < 5 by decide); omega
  have inx_ok : nameB "inx" = true ∧ ("inx" : Str).length ≤ 8 := by decide +kernel
  have iny_ok : nameB "iny" = true ∧ ("iny" : Str).length ≤ 8 := by decide +kernel
  have h4 : cutV (xs.map V.str) none (some 4) = (xs.take 4).map V.str := (cutV_take _ 4).trans (List.map_take).symm
  refine ss_asgR (R := fun v H2 => ∃ il, v = .ref il ∧ H2 il = some (.lst ((xs.take 4 ++ [xs[4 + j5]'(by omega), "inx"]).map V.str))) ((er_cat (xs := (xs.take 4).map V.str) (ys := [.str (xs[4 + j5]'(by omega)), .str "inx"]) ((er_slL (ev_var rfl) (.of hnl) eo_none (eo_some ev_c)).imp fun v H2 _ ⟨q, a1, a2, a3⟩ => ⟨q, a1, a2, by rw [a3, h4]⟩) (fun F f => er_lstV (ea_cons (ixn (4 + j5) (by omega) f rfl (ev_is (ev_op ev_c (ev_is (ev_op (ev_var rfl) ev_c (rv_I (by decide))) (congrArg V.int hj5)) rv_I0) (congrArg V.int (show (4 : Int) + (j5 : Nat) = ((4 + j5 : Nat) : Int) by omega)))) (ea_cons ev_c ea_nil)) (by show 2 ≤ 100000; decide)) (by rw [List.length_map, List.length_take]; show _ + 2 ≤ 100000; omega)).imp fun v H2 _ ⟨q, a1, _, a3⟩ => ⟨q, a1, by rw [a3, List.map_append]; rfl⟩) fun v H2 e2 ⟨il, ev, hil⟩ => ?_
  subst ev
  refine ss_whenJ (b := decide (V.int (hd / 5 % 2) = V.int 1)) (P := fun σ' F => ∃ (il : Addr) (zs : List Str), σ' = [some (.ref a), some (.int (b : Nat)), some (.ref nl), some (.int hd), some (.ref il), none, none, none, none, none, none, none, none, none, none] ∧ Ex H1 F ∧ F il = some (.lst (zs.map V.str)) ∧ NamesIn zs ∧ 5 ≤ zs.length)
    (et_test (ev_op (ev_op (ev_op (ev_var rfl) ev_c (rv_I ⟨by decide, by decide⟩)) ev_c (rv_I (by decide))) ev_c (rv_eq rfl))) (fun kk _ => ?_) (fun _ => ⟨il, _, rfl, e2, hil, ⟨fun x hx => ?_, ?_, ?_⟩, ?_⟩) ?_
  · refine ss_asgR (er_lstV (vs := [xs[0]'(by omega), xs[4]'(by omega), xs[5]'(by omega), xs[6]'(by omega), xs[7]'(by omega)].map V.str) (ea_cons (ixn 0 (by omega) e2 rfl ev_c) (ea_cons (ixn 4 (by omega) e2 rfl ev_c) (ea_cons (ixn 5 (by omega) e2 rfl ev_c) (ea_cons (ixn 6 (by omega) e2 rfl ev_c) (ea_cons (ixn 7 (by omega) e2 rfl ev_c) ea_nil))))) (by show 5 ≤ 100000; decide)) fun v F f ⟨q, ev, _, hq⟩ => ?_
    subst ev
    refine ss_end fun G g => (kk _ _ ⟨q, _, rfl, e2.trans (f.trans g), g _ _ hq, ⟨fun x hx => ?_, by simp, by show 5 ≤ 1000; decide⟩, by show 5 ≤ 5; decide⟩).here
    simp only [List.mem_cons, List.not_mem_nil, or_false] at hx
    rcases hx with rfl | rfl | rfl | rfl | rfl
    · exact hin 0 (by decide)
    · exact hin 4 (by decide)
    · exact hin 5 (by decide)
    · exact hin 6 (by decide)
    · exact hin 7 (by decide)
  · rcases List.mem_append.mp hx with z | z
    · have o := hxs.ok _ (List.mem_of_mem_take z); exact ⟨o.nm, o.len⟩
    · rcases List.mem_cons.mp z with rfl | z
      · exact hin (4 + j5) (by omega)
      · rw [List.mem_singleton.mp z]; exact inx_ok
  · simp
  · rw [List.length_append, List.length_take]; show _ + 2 ≤ 1000; omega
  · rw [List.length_append, List.length_take]; show 5 ≤ _ + 2; omega
  rintro σ' F ⟨il, zs, rfl, eF, hil, hzs, hz5⟩
  have eHF := e1.trans eF
  have hsz : zs.length ≤ 1000 := hzs.2.2
  -- trees
  obtain ⟨n10, hn10⟩ : ∃ j : Nat, hd / 10 % 10 = (j : Int) := Int.eq_ofNat_of_zero_le (Int.emod_nonneg _ (by decide))
  have l10 : n10 < 10 := by have := Int.emod_lt_of_pos (hd / 10) (show (0 : Int) < 10 by decide); omega
  refine ss_asgR (R := fun v G => ∃ tl us Ds, v = .ref tl ∧ G tl = some (.lst us) ∧ Paired (ToldAt G 12) us Ds ∧ (∀ D ∈ Ds, D.s ≤ 20) ∧ us.length ≤ 101) (er_lcIt (Rl := fun v G => ∃ q us Ds, v = .ref q ∧ G q = some (.lst us) ∧ PileAt G us Ds ∧ us.length ≤ 101)
    (er_fnV (ea_cons (ev_var rfl) (ea_cons (ebk 4 rfl) (ea_cons (ev_var rfl) (ea_cons (ev_is (ev_op ev_c (ev_is (ev_op (ev_op (ev_var rfl) ev_c (rv_I ⟨by decide, by decide⟩)) ev_c (rv_I (by decide))) (congrArg V.int hn10)) rv_I0) (congrArg V.int (show (3 : Int) + (n10 : Nat) = ((3 + n10 : Nat) : Int) by omega))) ea_nil)))) (c_trees T) (spP_r ⟨a, ns, b + 4, il, zs, 3 + n10⟩ rfl (fun G g => ⟨ex_l (eHF.trans g) ha, g _ _ hil, hzs, by show 3 + n10 ≤ 100; omega⟩) fun _ v G _ _ r => r)) fun v G g ⟨q, us, Ds, ev, hq, hp, hl⟩ => ?_) fun v G g ⟨tl, us, Ds, ev, htl, hus, hDs, hul⟩ => ?_
  · subst ev
    refine er_lcSq (k := true) ev_c (.of hq) (by omega) (fun _ => rfl) (fun i acc F => ∃ Da, Paired (ToldAt F 12) acc Da ∧ (∀ D ∈ Da, D.s ≤ 20) ∧ acc.length ≤ i) (fun i acc H1 H2 ⟨Da, p1, p2, p3⟩ e => ⟨Da, L2.Paired.mapP p1 fun _ _ q => q.im (.of e), p2, p3⟩) ⟨[], .nil, (fun _ h => by cases h), Nat.le_refl _⟩ (fun i acc F2 x hx f2 ⟨Da, p1, p2, p3⟩ => ?_) fun p acc H' _ _ hp' ⟨Da, p1, p2, p3⟩ => ⟨p, acc, Da, rfl, hp', p1, p2, by omega⟩
    obtain ⟨Dx, hDx, hTx⟩ := paired_get hp.1 hx
    refine ⟨decide (Dx.s < 12), et_test (ev_op (ev_fnV (ea_cons (ev_var rfl) ea_nil) ((c_lsize T 30).mono (by omega)) (spLSize_r (hTx.im (.of f2)))) ev_c rv_I0), fun _ => ⟨Da, p1, p2, by omega⟩, fun hb => ⟨fun y _ => y = x, ev_rel (ev_var rfl), fun y F3 f3 ey => ⟨Da ++ [Dx], ?_, ?_, by rw [List.length_append]; show acc.length + 1 ≤ i + 1; omega⟩⟩⟩
    · subst ey
      have hpos := told_pos hTx
      have := of_decide_eq_true hb
      exact paired_snoc (told_low (by omega) (hTx.im (.of (f2.trans f3)))) (L2.Paired.mapP p1 fun _ _ q => q.im (.of f3))
    · intro D hD
      rcases List.mem_append.mp hD with z | z
      · exact p2 D z
      · rw [List.mem_singleton.mp z]
        have := of_decide_eq_true hb
        omega
  subst ev
  -- many
  obtain ⟨m6, hm6⟩ : ∃ j : Nat, hd / 100 % 6 = (j : Int) := Int.eq_ofNat_of_zero_le (Int.emod_nonneg _ (by decide))
  have l6 : m6 < 6 := by have := Int.emod_lt_of_pos (hd / 100) (show (0 : Int) < 6 by decide); omega
  obtain ⟨m24, hm24⟩ : ∃ j : Nat, hd / 39200 % 24 = (j : Int) := Int.eq_ofNat_of_zero_le (Int.emod_nonneg _ (by decide))
  have l24 : m24 < 24 := by have := Int.emod_lt_of_pos (hd / 39200) (show (0 : Int) < 24 by decide); omega
  refine ss_asg (v := .int ((1 + m6 : Nat) : Int)) (ev_is (ev_op ev_c (ev_is (ev_op (ev_op (ev_var rfl) ev_c (rv_I ⟨by decide, by decide⟩)) ev_c (rv_I (by decide))) (congrArg V.int hm6)) rv_I0) (congrArg V.int (show (1 : Int) + (m6 : Nat) = ((1 + m6 : Nat) : Int) by omega))) ?_
  refine ss_whenJ (b := decide (V.int (hd / 4900 % 8) = V.int 1)) (P := fun σ' F' => ∃ mn : Nat, σ' = [some (.ref a), some (.int (b : Nat)), some (.ref nl), some (.int hd), some (.ref il), some (.ref tl), some (.int (mn : Nat)), none, none, none, none, none, none, none, none] ∧ 1 ≤ mn ∧ mn ≤ 30 ∧ Ex G F')
    (et_test (ev_op (ev_op (ev_op (ev_var rfl) ev_c (rv_I ⟨by decide, by decide⟩)) ev_c (rv_I (by decide))) ev_c (rv_eq rfl))) (fun kk _ => ?_) (fun _ => ⟨1 + m6, rfl, by omega, by omega, .refl _⟩) ?_
  · refine ss_asg (v := .int ((7 + m24 : Nat) : Int)) (ev_is (ev_op ev_c (ev_is (ev_op (ev_op (ev_var rfl) ev_c (rv_I ⟨by decide, by decide⟩)) ev_c (rv_I (by decide))) (congrArg V.int hm24)) rv_I0) (congrArg V.int (show (7 : Int) + (m24 : Nat) = ((7 + m24 : Nat) : Int) by omega))) (ss_end fun F1 f1 => (kk _ _ ⟨7 + m24, rfl, by omega, by omega, f1⟩).here)
  rintro σ' G2 ⟨mn, rfl, mn1, mn30, eG2⟩
  have eFG := g.trans eG2
  -- wide
  obtain ⟨j2, hj2⟩ : ∃ j : Nat, hd / 3 % 2 = (j : Int) := Int.eq_ofNat_of_zero_le (Int.emod_nonneg _ (by decide))
  have l2 : j2 < 2 := by have := Int.emod_lt_of_pos (hd / 3) (show (0 : Int) < 2 by decide); omega
  have hw : ([.str "and", .str "or"] : List V)[j2]? = some (.str (tword (j2 + 3))) := by
    match j2, l2 with
    | 0, _ => rfl
    | 1, _ => rfl
  have h5 : cutV (zs.map V.str) none (some 5) = (zs.take 5).map V.str := (cutV_take _ 5).trans (List.map_take).symm
  have z5 : (zs.take 5).length = 5 := by rw [List.length_take]; omega
  have Rst : ∀ (ys : List V) (H1 H2 : Hp), Paired (fun (v : V) (x : Str) => ∃ t, v = .ref t ∧ H1 t = some (.tup [.str "contact", .str x])) ys (zs.take 5) → Ex H1 H2 → Paired (fun (v : V) (x : Str) => ∃ t, v = .ref t ∧ H2 t = some (.tup [.str "contact", .str x])) ys (zs.take 5) := fun ys H1 H2 p e => L2.Paired.mapP p fun _ _ ⟨t, p1, p2⟩ => ⟨t, p1, e _ _ p2⟩
  refine ss_asgR (R := fun v F3 => ∃ wd Dw, v = .ref wd ∧ ToldAt F3 12 (.ref wd) Dw ∧ Dw.s ≤ 20) ((er_catTR (xs := [.str (tword (j2 + 3))]) (Rb := fun ys F3 => Paired (fun (v : V) (x : Str) => ∃ t, v = .ref t ∧ F3 t = some (.tup [.str "contact", .str x])) ys (zs.take 5)) (by simp)
    (er_tupV (ea_cons (ev_ixLit (ea_cons ev_c (ea_cons ev_c ea_nil)) (ev_is (ev_op (ev_op (ev_var rfl) ev_c (rv_I ⟨by decide, by decide⟩)) ev_c (rv_I (by decide))) (congrArg V.int hj2)) hw (by show 2 ≤ 100000; decide)) ea_nil) (by show 1 ≤ 100000; decide))
    (fun F3 f3 => er_tupOfR (er_lcIt (er_slL (ev_var rfl) (.of ((eFG.trans f3) _ _ hil)) eo_none (eo_some ev_c)) fun v F4 f4 ⟨q, ev, _, hq⟩ => ?_) Rst) Rst (fun ys F3 r => by rw [paired_len r, z5]; show 1 + 5 ≤ 100000; decide)).imp fun v F3 _ ⟨p, ys, ev, hp, r⟩ => ?_) fun v G3 g3 ⟨wd, Dw, ev, hwd, hws⟩ => ?_
  · obtain ⟨q1, q2⟩ := told_sum (n := 10) r fun x hx => hzs.1 x (List.mem_of_mem_take hx)
    have yl : ys.length = 5 := by rw [paired_len r, z5]
    refine ⟨p, _, ev, told_group (us := ys) (c := j2 + 3) (by omega) hp q1 (by omega) (by omega), ?_⟩
    show 1 + (((zs.take 5).map fun x => (⟨fun β => β x, 1, 1⟩ : Den)).map (·.s)).sum ≤ 20
    rw [q2, z5]
    decide
  · subst ev
    rw [h5] at hq
    refine er_lcSq (k := true) ev_c (.of hq) (by rw [List.length_map]; omega) (fun _ => rfl) (fun i acc F => Paired (fun (v : V) (x : Str) => ∃ t, v = .ref t ∧ F t = some (.tup [.str "contact", .str x])) acc ((zs.take 5).take i)) (fun i acc H1 H2 p e => L2.Paired.mapP p fun _ _ ⟨t, p1, p2⟩ => ⟨t, p1, e _ _ p2⟩) .nil (fun i acc F5 x hx f5 p => ?_) fun p acc H' _ _ hp' pp => ⟨p, acc, rfl, hp', by rw [List.length_map, List.take_length] at pp; exact pp⟩
    rw [List.getElem?_map] at hx
    obtain ⟨y, hy, rfl⟩ := Option.map_eq_some_iff.mp hx
    refine ⟨true, fun H1 _ Q q => q H1 (.refl _), (fun z => nomatch z), fun _ => ⟨fun v F6 => ∃ t, v = .ref t ∧ F6 t = some (.tup [.str "contact", .str y]), (er_tupV (ea_cons ev_c (ea_cons (ev_var rfl) ea_nil)) (by show 2 ≤ 100000; decide)).imp fun v F6 _ ⟨t, p1, _, p3⟩ => ⟨t, p1, p3⟩, fun v F6 f6 r => ?_⟩⟩
    rw [take_snoc hy]
    exact paired_snoc (G := fun (v : V) (x : Str) => ∃ t, v = .ref t ∧ F6 t = some (.tup [.str "contact", .str x])) r (L2.Paired.mapP p fun _ _ ⟨t, p1, p2⟩ => ⟨t, p1, f6 _ _ p2⟩)
  subst ev
  have eF3 := eFG.trans g3
  -- all trees
  refine ss_asgR (R := fun v F3 => ∃ tl us Ds, v = .ref tl ∧ F3 tl = some (.lst us) ∧ Paired (ToldAt F3 12) us Ds ∧ (∀ D ∈ Ds, D.s ≤ 20) ∧ us ≠ [] ∧ us.length ≤ 1000) ((er_catL (xs := us) (Rb := fun ys F3 => ∃ t, ys = [.ref t, .ref wd] ∧ F3 t = some (.tup [.str "contact", .str (xs[0]'(by omega))])) (er_listV (ev_var rfl) ((eG2.trans g3) _ _ htl)) (fun F3 f3 => (er_lst (R := fun vs F4 => ∃ t, vs = [.ref t, .ref wd] ∧ F4 t = some (.tup [.str "contact", .str (xs[0]'(by omega))])) (ar_cons (er_tupV (vs := [.str "contact", .str (xs[0]'(by omega))]) (ea_cons ev_c (ea_cons (ixn 0 (by omega) (eF.trans (eF3.trans f3)) rfl ev_c) ea_nil)) (by show 2 ≤ 100000; decide)) fun x F4 f4 ⟨t, ex, _, ht⟩ => ar_cons (ev_rel (ev_var rfl)) fun y F5 f5 ey => fun F6 f6 Q' q' => q' [] F6 (.refl _) ⟨t, by rw [ex, show y = _ from ey], (f5.trans f6) _ _ ht⟩) fun vs F4 ⟨t, ev, _⟩ => by rw [ev]; show 2 ≤ 100000; decide).imp fun v F4 _ ⟨p, vs, p1, _, p3, F5, f5, t, p4, p5⟩ => ⟨p, vs, p1, p3, t, p4, f5 _ _ p5⟩)
      (fun ys F3 F4 ⟨t, p1, p2⟩ e => ⟨t, p1, e _ _ p2⟩) (fun ys F3 ⟨t, p1, _⟩ => by rw [p1]; show us.length + 2 ≤ 100000; omega)).imp fun v F3 f3 ⟨q, ys, ev, _, hq, t, ey, ht⟩ => ⟨q, us ++ ys, Ds ++ [⟨fun β => β (xs[0]'(by omega)), 1, 1⟩, Dw], ev, hq, ?_, ?_, ?_, ?_⟩) fun v G4 g4 ⟨tl2, us2, Ds2, ev, htl2, hus2, hDs2, hne2, hul2⟩ => ?_
  rotate_left
  · subst ey
    have hx0 := hin 0 (by decide)
    have p1 : Paired (ToldAt F3 12) us Ds := L2.Paired.mapP hus fun _ _ q => q.im (.of (eG2.trans (g3.trans f3)))
    have := paired_snoc (hwd.im (.of f3)) (paired_snoc (told_contact (n := 11) ht hx0.1 (by omega)) p1)
    rw [List.append_assoc, List.append_assoc] at this
    exact this
  · intro D hD
    rcases List.mem_append.mp hD with z | z
    · exact hDs D z
    · rcases List.mem_cons.mp z with rfl | z
      · show (1 : Int) ≤ 20; decide
      · rw [List.mem_singleton.mp z]; exact hws
  · subst ey; simp
  · subst ey
    rw [List.length_append]
    show us.length + 2 ≤ 1000
    omega
  subst ev
  have eH4 : Ex H1 G4 := eF.trans (eF3.trans g4)
  -- rungs
  refine ss_asgR (R := fun v F => ∃ lr rs, v = .ref lr ∧ RungsAt F lr xs rs ∧ rs.length = mn) (er_fnV (ea_cons (ev_var rfl) (ea_cons (ebk 2 rfl) (ea_cons (ev_var rfl) (ea_cons (ev_var rfl) (ea_cons (ev_var rfl) ea_nil))))) ((c_rungs T).mono (by omega)) (spP_r ⟨a, ns, b + 2, nl, xs, tl2, us2, Ds2, mn⟩ rfl (fun F f => ⟨ex_l (e1.trans (eH4.trans f)) ha, (eH4.trans f) _ _ hnl, hxs, f _ _ htl2, L2.Paired.mapP hus2 fun _ _ q => q.im (.of f), hDs2, hne2, hul2, mn30⟩) fun F v F' _ _ ⟨lr, rs, p1, _, p3, p4⟩ => ⟨lr, rs, p1, p3, p4⟩)) fun v G5 g5 ⟨lr, rs, ev, ⟨rts, hlr, hrp, hown, hends, hnm⟩, hrl⟩ => ?_
  subst ev
  -- found
  refine ss_asgR (er_fnV (R := fun v F => ∃ lf, v = .ref lf ∧ F lf = some (.lst ((namesOf rs).map V.str))) (ea_cons (ev_var rfl) ea_nil) ((c_names_of T).mono (by omega)) (spP_r (lr, 12, rs) rfl (fun F f => ⟨rts, f _ _ hlr, L2.Paired.mapP hrp fun _ _ q => q.im (.of f), by show rs.length ≤ 1000; omega⟩) fun F v F' _ _ ⟨lf, p1, _, p3⟩ => ⟨lf, p1, p3⟩)) fun v G6 g6 ⟨lf, ev, hlf⟩ => ?_
  subst ev
  have eH6 := eH4.trans (g5.trans g6)
  have hmo := mixF_range (cellF ns (b + 3)) 6
  refine ss_asg (v := .int (mixF (cellF ns (b + 3)) 6)) (ev_mixed T (ev_cell T (ex_l (e1.trans eH6) ha) (ev_var rfl) (ebk 3 rfl)) ev_c) ?_
  generalize mixF (cellF ns (b + 3)) 6 = mo at hmo
  have hfpos : 0 < (namesOf rs).length := by
    cases rs with
    | nil => simp at hrl; omega
    | cons r rs => exact List.length_pos_of_mem ((mem_namesOf _).mpr ⟨r, List.mem_cons_self, rfl⟩)
  have hlenf : ∀ {σ : L2.St} {F : Hp}, Ex G6 F → σ[9]? = some (some (.ref lf)) → Ev (tCB (rLenS K) (tCons (tVar 9) tNil)) σ F (.int ((namesOf rs).length : Nat)) := fun f hσ => ev_is (ev_lenS (k := true) (ev_var hσ) (.of (f _ _ hlf))) (by rw [List.length_map])
  obtain ⟨tn, htn⟩ : ∃ j : Nat, mo % ((namesOf rs).length : Int) = (j : Int) := Int.eq_ofNat_of_zero_le (Int.emod_nonneg _ (by omega))
  have ltn : tn < (namesOf rs).length := by have := Int.emod_lt_of_pos mo (show (0 : Int) < ((namesOf rs).length : Int) by omega); omega
  refine ss_asg (v := .int (tn : Nat)) (ev_is (ev_op (ev_var rfl) (hlenf (.refl _) rfl) (rv_I (by omega))) (congrArg V.int htn)) ?_
  obtain ⟨mf, hmf, mf1, mf6⟩ : ∃ mf : Nat, (if ((namesOf rs).length : Int) < 6 then ((namesOf rs).length : Int) else 6) = (mf : Int) ∧ 0 < mf ∧ mf ≤ 6 := by
    by_cases h : ((namesOf rs).length : Int) < 6
    · rw [if_pos h]; exact ⟨_, rfl, hfpos, by omega⟩
    · rw [if_neg h]; exact ⟨6, rfl, by decide, by decide⟩
  obtain ⟨kk, hkk⟩ : ∃ j : Nat, mo / 7 % (mf : Int) = (j : Int) := Int.eq_ofNat_of_zero_le (Int.emod_nonneg _ (by omega))
  have lkk : kk < mf := by have := Int.emod_lt_of_pos (mo / 7) (show (0 : Int) < (mf : Int) by omega); omega
  have nfl : (namesOf rs).length ≤ 1000 := Nat.le_trans (namesOf_len rs) (by omega)
  refine ss_asgR (R := fun v F => ∃ lo, v = .ref lo ∧ F lo = some (.lst ((((namesOf rs).drop tn ++ (namesOf rs).take tn).take (1 + kk)).map V.str))) ((er_slLR (xs := ((namesOf rs).drop tn ++ (namesOf rs).take tn).map V.str) (hi := some ((1 + kk : Nat) : Int)) (er_newL ((er_cat (xs := ((namesOf rs).drop tn).map V.str) (ys := ((namesOf rs).take tn).map V.str) ((er_slL (ev_var rfl) (.of hlf) (eo_some (ev_var rfl)) eo_none).imp fun v F _ ⟨q, p1, p2, p3⟩ => ⟨q, p1, p2, by rw [p3, cutV_drop, List.map_drop]⟩) (fun F f => (er_slL (ev_var rfl) (.of (f _ _ hlf)) eo_none (eo_some (ev_var rfl))).imp fun v F _ ⟨q, p1, p2, p3⟩ => ⟨q, p1, p2, by rw [p3, cutV_take, List.map_take]⟩) (by rw [List.length_map, List.length_map, List.length_drop, List.length_take]; omega)).imp fun v F _ ⟨q, p1, p2, p3⟩ => ⟨q, p1, p2, by rw [p3, List.map_append]⟩))
      (fun F f => eo_none) (fun F f => eo_some (ev_is (ev_op ev_c (ev_is (ev_op (ev_op (ev_var rfl) ev_c (rv_I ⟨by decide, by decide⟩)) (ev_is (ev_cb (ea_cons ev_c (ea_cons (hlenf f rfl) ea_nil)) fun H1 e1 Q q => ⟨_, _, rfl, q H1 (.refl _)⟩) (congrArg V.int hmf)) (rv_I (by omega))) (congrArg V.int hkk)) rv_I0) (congrArg V.int (show (1 : Int) + (kk : Nat) = ((1 + kk : Nat) : Int) by omega))))).imp fun v F _ ⟨q, p1, _, p3⟩ => ⟨q, p1, by rw [p3, cutV_take, List.map_take]⟩) fun v G7 g7 ⟨lo, ev, hlo⟩ => ?_
  subst ev
  obtain ⟨k7, hk7⟩ : ∃ j : Nat, hd / 700 % 7 = (j : Int) := Int.eq_ofNat_of_zero_le (Int.emod_nonneg _ (by decide))
  have l7 : k7 < 7 := by have := Int.emod_lt_of_pos (hd / 700) (show (0 : Int) < 7 by decide); omega
  have eH7 := eH6.trans g7
  have ok := model_ok (k7 := k7) (tn := tn) (kk := 1 + kk) hxs hown hends hnm (by omega) (by omega) (by omega) ltn (by omega) (by omega)
  refine ss_retR (er_tup (R := fun vs F => ∃ li, vs = [.ref li, .ref lo, .ref lr] ∧ F li = some (.lst (((xs.take 4 ++ inL).take k7).map V.str))) (ar_cons (Ra := fun v F => ∃ li, v = .ref li ∧ F li = some (.lst (((xs.take 4 ++ inL).take k7).map V.str))) ((er_slLR (xs := (xs.take 4 ++ inL).map V.str) (hi := some (k7 : Int)) (er_newL ((er_cat (xs := (xs.take 4).map V.str) (ys := inL.map V.str) ((er_slL (ev_var rfl) (.of (eH7 _ _ hnl)) eo_none (eo_some ev_c)).imp fun v H2 _ ⟨q, a1, a2, a3⟩ => ⟨q, a1, a2, by rw [a3, h4]⟩) (fun F f => er_lstV (ea_cons ev_c (ea_cons ev_c ea_nil)) (by show 2 ≤ 100000; decide)) (by rw [List.length_map, List.length_take]; show _ + 2 ≤ 100000; omega)).imp fun v F _ ⟨q, p1, p2, p3⟩ => ⟨q, p1, p2, by rw [p3, List.map_append]⟩)) (fun F f => eo_none) (fun F f => eo_some (ev_is (ev_op (ev_op (ev_var rfl) ev_c (rv_I ⟨by decide, by decide⟩)) ev_c (rv_I (by decide))) (congrArg V.int hk7)))).imp fun v F _ ⟨q, p1, _, p3⟩ => ⟨q, p1, by rw [p3, cutV_take, List.map_take]⟩)
    fun x F f ⟨li, ex, hli⟩ => ar_cons (ev_rel (ev_var rfl)) fun y F2 f2 ey => ar_cons (ev_rel (ev_var rfl)) fun z F3 f3 ez => fun F4 f4 Q' q' => q' [] F4 (.refl _) ⟨li, by rw [ex, show y = _ from ey, show z = _ from ez], (f2.trans (f3.trans f4)) _ _ hli⟩) fun vs F ⟨li, ev, _⟩ => by rw [ev]; show 3 ≤ 100000; decide) fun v G8 g8 ⟨p, vs, ev, _, hp, F5, f5, li, evs, hli⟩ => ?_
  subst evs
  have eH8 := (g6.trans (g7.trans g8))
  exact hQ v G8 (e1.trans (eH7.trans g8)) ⟨_, ⟨p, li, lo, lr, rts, ev, hp, f5 _ _ hli, g8 _ _ hlo, eH8 _ _ hlr, L2.Paired.mapP hrp fun _ _ q => q.im (.of eH8)⟩, ok⟩
end
end RgK
set_option Elab.async false
set_option linter.all false
set_option maxRecDepth 100000
set_option maxHeartbeats 4000000

/-! The law: a number that is no state. -/
namespace RgK
open PySem PySem.Spec PyProof.Rows L2 Evl LamX
local macro_rules | `(tactic| walk_at "ev") => `(tactic| repeat' (first
  | with_reducible exact ev_c
  | with_reducible exact ea_nil
  | ((with_reducible apply ev_var); first | rfl | assumption)
  | with_reducible apply ea_cons
  | with_reducible apply ev_fld
  | ((with_reducible show Fld _ _ _ _ _); assumption)
  | with_reducible exact rv_I0
  | with_reducible exact ru_neg
  | with_reducible exact rv_eq rfl
  | with_reducible exact rv_ne rfl
  | ((with_reducible apply rv_I); first | decide | omega | assumption)
  | ((with_reducible show _ = _ → EvT _ _ _ _); intro _)
  | ((with_reducible show _ = _ → Ev _ _ _ _); intro _)
  | with_reducible apply et_and
  | with_reducible apply et_or
  | with_reducible apply ev_andV
  | with_reducible apply ev_orV
  | with_reducible apply et_test
  | with_reducible apply et_B
  | with_reducible apply et_not
  | with_reducible apply ev_notV
  | with_reducible apply ev_un
  | with_reducible apply ev_op))

/-- the ends that count under a name -/
def cE (rs : List RungV) (x : Str) : List EndV := (rs.filter fun r => decide (r.2.name = x) && decide (3 ≤ r.2.kind)).map (·.2)
theorem cE_snoc (rs : List RungV) (r : RungV) (x : Str) : cE (rs ++ [r]) x = if (decide (r.2.name = x) && decide (3 ≤ r.2.kind)) = true then cE rs x ++ [r.2] else cE rs x := by
  unfold cE
  rw [filter_snoc]
  split
  · rw [List.map_append]; rfl
  · rfl
theorem cE_eq {rs : List RungV} (o : OwnOk rs) (x : Str) : cE rs x = match cEnd rs x with | none => [] | some e => [e] := by
  have hf : (rs.filter fun r => decide (r.2.name = x) && decide (3 ≤ r.2.kind)) = rs.filter fun r => decide (3 ≤ r.2.kind) && decide (r.2.name = x) := by
    congr 1
    funext r
    exact Bool.and_comm _ _
  unfold cE cEnd
  rw [hf, ← List.head?_filter]
  have hlen : (rs.filter fun r => decide (3 ≤ r.2.kind) && decide (r.2.name = x)).length ≤ 1 := by
    rcases Nat.lt_or_ge 1 (rs.filter fun r : RungV => decide (3 ≤ r.2.kind) && decide (r.2.name = x)).length with h | h
    · exfalso
      have e : (rs.filter fun r => decide (3 ≤ r.2.kind) && decide (r.2.name = x)) = (rs.filter fun r => !decide (r.2.kind = 2) && decide (r.2.name = x)).filter fun r => decide (3 ≤ r.2.kind) && decide (r.2.name = x) := by
        rw [List.filter_filter]
        congr 1
        funext r
        by_cases k : 3 ≤ r.2.kind
        · have : ¬ r.2.kind = 2 := by omega
          simp [k, this]
        · simp [k]
      have l2 := List.length_filter_le (fun r : RungV => decide (3 ≤ r.2.kind) && decide (r.2.name = x)) (rs.filter fun r => !decide (r.2.kind = 2) && decide (r.2.name = x))
      rw [← e] at l2
      have fl : (flags rs x).length = (rs.filter fun r => !decide (r.2.kind = 2) && decide (r.2.name = x)).length := by unfold flags; rw [List.length_map]
      obtain ⟨r, hr⟩ : ∃ r : RungV, r ∈ rs.filter fun r : RungV => decide (3 ≤ r.2.kind) && decide (r.2.name = x) := List.exists_mem_of_length_pos (by omega)
      obtain ⟨hr1, hr2⟩ := List.mem_filter.mp hr
      rw [Bool.and_eq_true] at hr2
      have k3 := of_decide_eq_true hr2.1
      have hx := of_decide_eq_true hr2.2
      have hm := flags_mem hr1 (by omega)
      rw [hx, decide_eq_true k3] at hm
      exact o x ⟨by omega, List.any_eq_true.mpr ⟨true, hm, rfl⟩⟩
    · exact h
  generalize (rs.filter fun r => decide (3 ≤ r.2.kind) && decide (r.2.name = x)) = l at hlen
  match l, hlen with
  | [], _ => rfl
  | [a], _ => rfl
  | a :: b :: l, h => exact absurd h (by simp)
theorem far_bad {M : Ldr} {i : Nat} {y : Str} {e : EndV} {m : Int} (hy : M.names[i]? = some y) (hc : cEnd M.rungs y = some e) (h1 : e.most < m) (h2 : m ≤ 15) (h0 : 0 ≤ m) : ¬ Good M (2 ^ ((M.names.take i).map (wd M.rungs)).sum * m) := fun g => by
  have a := g.most y (List.mem_of_getElem? hy) e hc
  have b := decL_at (w := wd M.rungs) (s := 2 ^ ((M.names.take i).map (wd M.rungs)).sum * m) (namesOf_nodup M.rungs) hy
  have p1 := pow_pos' ((M.names.take i).map (wd M.rungs)).sum
  rw [Int.mul_ediv_cancel_left _ (by omega)] at b
  have hw : wd M.rungs y = 4 ∨ wd M.rungs y = 5 := by
    unfold wd
    rw [hc]
    by_cases k : e.kind = 4
    · right; exact if_pos k
    · left; exact if_neg k
  have b' : nuOf M (2 ^ ((M.names.take i).map (wd M.rungs)).sum * m) y = m % 2 ^ wd M.rungs y := b
  rw [b'] at a
  rcases hw with z | z
  · rw [z] at a
    have : (2 : Int) ^ 4 = 16 := rfl
    rw [this] at a
    omega
  · rw [z] at a
    have : (2 : Int) ^ 5 = 32 := rfl
    rw [this] at a
    omega
theorem inV_tc {k : Nat} (h : k < 5) : inV (.str (eword k)) [.str "timer", .str "counter"] = decide (3 ≤ k) := by
  match k, h with
  | 0, _ => decide +kernel
  | 1, _ => decide +kernel
  | 2, _ => decide +kernel
  | 3, _ => decide +kernel
  | 4, _ => decide +kernel
theorem eword_c {k : Nat} (h : k < 5) : decide (V.str (eword k) = V.str "counter") = decide (k = 4) := by
  match k, h with
  | 0, _ => decide +kernel
  | 1, _ => decide +kernel
  | 2, _ => decide +kernel
  | 3, _ => decide +kernel
  | 4, _ => decide +kernel
structure FArg where
  v : V
  n : Nat
  M : Ldr
  mix : Int
section
variable {w : World} {K : PySem.W.Frag} {mg : Mg} {base : Heap}
def spFar : Sp := spP (ι := FArg) (fun i => [i.v, .int (wsum i.M : Nat), .int i.mix]) (fun i H => ModelAt H i.n i.v i.M ∧ LdrOk i.M ∧ 0 ≤ i.mix) (fun i H v H2 => ∃ s, v = .int s ∧ ¬ Good i.M s)
theorem c_far (T : Tx w K mg base) : Cal PG w K mg base 2 "_law_far" spFar := by
  refine cal_of (fnd ["_law_model_here", "_law_bits_here", "_law_mix", "_law_far_here", "_law_k", "_law_some", "_law_place", "_law_name", "_law_ends", "_law_end_here", "_law_told_here"] ["_law_model_here", "_law_bits_here", "_law_mix"] T.d_law_far (by decide +kernel) (spP_len fun _ => rfl) (fun _ _ _ _ _ _ us h => by match us, h with | [_, _, _], _ => rfl) ?_) T.g_law_far
  rintro cdv A outer s H vs Q E hr ⟨⟨v, n, M, mx⟩, rfl, ⟨hM0, ok0, hx00⟩, hQ⟩
  have hM : ModelAt H n v M := hM0
  have ok : LdrOk M := ok0
  have hx0 : 0 ≤ mx := hx00
  clear hM0 ok0 hx00
  have nd : (["_law_model_here", "_law_bits_here", "_law_mix", "_law_far_here", "_law_k", "_law_some", "_law_place", "_law_name", "_law_ends", "_law_end_here", "_law_told_here"] : List Str).Nodup := by decide +kernel
  refine ⟨_, 
    (pss_cons (ps_if (pt_cmpR op_eq (pe_op op_mod (pv 2) pe_int) pe_int (nomark _)) 
    (pss_cons (ps_ret (pe_op op_sub (pe_un un_neg pe_int) (pe_op op_mod (pe_op op_fdiv (pv 2) pe_int) pe_int))) pss_nil) pss_nil) 
    (pss_cons (ps_set (i := 3) nd rfl (Or.inl rfl) pe_int) 
    (pss_cons (ps_for (passes_of rfl) rfl (pi_range1 (by rfl) T.f_range (pa_cons (pv 1) pa_nil)) (pg_name (i := 4) nd rfl (Or.inl rfl)) 
    (pss_cons (ps_set (i := 3) nd rfl (Or.inl rfl) (pe_op op_mul (pv 3) pe_int)) pss_nil)) 
    (pss_cons (ps_if (pt_cmpR op_eq (pe_op op_mod (pv 2) pe_int) pe_int (nomark _)) 
    (pss_cons (ps_ret (pe_op op_add (pe_op op_mul (pv 3) (pe_op op_add pe_int (pe_op op_mod (pe_op op_fdiv (pv 2) pe_int) pe_int))) (pe_op op_mod (pe_op op_fdiv (pv 2) pe_int) (pv 3)))) pss_nil) pss_nil) 
    (pss_cons (ps_set (i := 5) nd rfl (Or.inl rfl) (pe_lst pa_nil)) 
    (pss_cons (ps_set (i := 6) nd rfl (Or.inl rfl) pe_int) 
    (pss_cons (ps_for (passes_of rfl) rfl (pi_seq (pe_fn T hr (by rfl) T.g_law_names_of pass0 T.kp_law_names_of (pa_cons (pe_ix (ix_tT T) (pv 0) pe_int (fun _ _ => rfl)) pa_nil))) (pg_name (i := 7) nd rfl (Or.inr rfl)) 
    (pss_cons (ps_setLc (i := 8) (own := [("_law_told_here", 10), ("_law_end_here", 9)]) (g := gTup K 2 (gCons (gName 10) (gCons (gName 9) gNil))) rfl nd rfl rfl (sw_true rfl rfl rfl (by decide +kernel)) (pi_seq (pe_ix (ix_tT T) (pv 0) pe_int (fun _ _ => rfl))) (blkOk_by (N := ["_law_model_here", "_law_bits_here", "_law_mix", "_law_far_here", "_law_k", "_law_some", "_law_place", "_law_name", "_law_ends", "_law_end_here", "_law_told_here"]) (sc := defScope s_law_far) (own := [("_law_told_here", 10), ("_law_end_here", 9)]) (by decide +kernel)) (fun _ _ _ _ _ => (pg_tup rfl (pgs_cons (pg_name (i := 10) nd rfl (Or.inl rfl)) (pgs_cons (pg_name (i := 9) nd rfl (Or.inl rfl)) pgs_nil)))) (fun _ _ _ _ _ => pts_one (PW.pt (pw_and (pt_cmpR op_eq (pe_ix (ix_tT T) (pv 9) pe_int (fun _ _ => rfl)) (pv 7) (nomark _)) (pw_and1 (pt_cmpR (op_inT T) (pe_ix (ix_tT T) (pv 9) pe_int (fun _ _ => rfl)) (pe_tup (pa_cons pe_str (pa_cons pe_str pa_nil))) (by with_unfolding_all rfl)))))) (fun _ _ _ _ _ => pe_hide (pv 9))) 
    (pss_cons (ps_for (passes_of rfl) rfl (pi_seq (pv 8)) (pg_name (i := 9) nd rfl (Or.inl rfl)) 
    (pss_cons (ps_expr (pe_bm PySem.F.plainAttrs_list PySem.F.slot_list_append PySem.F.type_list_append mt_append (pv 5) (pa_cons (pe_op op_mul (pv 6) (pe_op op_add (pe_op op_add (pe_ix (ix_tT T) (pv 9) pe_int (fun _ _ => rfl)) pe_int) (pe_op op_mod (pe_op op_fdiv (pv 2) pe_int) (pe_op op_sub pe_int (pe_ix (ix_tT T) (pv 9) pe_int (fun _ _ => rfl)))))) pa_nil))) 
    (pss_cons (ps_set (i := 6) nd rfl (Or.inl rfl) (pe_op op_mul (pv 6) (pe_ix (ix_lT T) (pe_lst (pa_cons pe_int (pa_cons pe_int pa_nil))) (pe_callTy call_int1 (by rfl) T.f_int (by decide +kernel) (pa_cons (pe_cmpR op_eq (pe_ix (ix_tT T) (pv 9) pe_int (fun _ _ => rfl)) pe_str (nomark _)) pa_nil)) (fun _ _ => rfl)))) pss_nil))) 
    (pss_cons (ps_if (pt_cmpR (op_eqNil hr.units0) (pv 8) (pe_lst pa_nil) (nomark _)) 
    (pss_cons (ps_set (i := 6) nd rfl (Or.inl rfl) (pe_op op_mul (pv 6) pe_int)) pss_nil) pss_nil) pss_nil)))) 
    (pss_cons (ps_ret (pe_ix (ix_lT T) (pe_op op_cat (pv 5) (pe_lst (pa_cons (pv 3) pa_nil))) (pe_op op_mod (pe_op op_fdiv (pv 2) pe_int) (pe_callB (call_max2 rfl) (by rfl) T.f_max (by decide +kernel) (pa_cons pe_int (pa_cons (pe_callB call_len_seq (by rfl) T.f_len (by decide +kernel) (pa_cons (pv 5) pa_nil)) pa_nil)))) (fun _ _ => rfl))) pss_nil)))))))), SS.here ?_⟩
  obtain ⟨t, li, lo, lr, rts, ev, ht, hli, hlo, hlr, hrs⟩ := hM
  subst ev
  have nl := ok.nl
  have rl := ok.rl
  have W100 : wsum M ≤ 100 := by
    have hsl : ∀ l : List Str, (l.map (wd M.rungs)).sum ≤ 5 * l.length := fun l => by
      induction l with
      | nil => exact Nat.zero_le _
      | cons x l ih =>
        have := wd5 M.rungs x
        rw [List.map_cons, List.sum_cons, List.length_cons]
        omega
    have := hsl M.names
    show (M.names.map (wd M.rungs)).sum ≤ 100
    omega
  have pW := pow_pos' (wsum M)
  have far0 : ¬ Good M (2 ^ wsum M) := fun g => by have := g.hi; omega
  have q3 := Int.ediv_nonneg hx0 (show (0 : Int) ≤ 3 by decide)
  change SS _ _ [some (.ref t), some (.int (wsum M : Nat)), some (.int mx), none, none, none, none, none, none, none, none] H
  -- below 0
  refine ss_when (b := decide (V.int (mx % 3) = V.int 0)) (et_test (ev_op (ev_op (ev_var rfl) ev_c (rv_I (by decide))) ev_c (rv_eq rfl))) (fun _ => ?_) fun _ => ?_
  · refine ss_ret (v := .int (-1 - mx / 3 % 99)) (ev_op (ev_un ev_c (fun H1 _ Q' q' => ⟨1, rfl, q' H1 (.refl _)⟩)) (ev_op (ev_op (ev_var rfl) ev_c (rv_I ⟨by decide, by decide⟩)) ev_c (rv_I (by decide))) rv_I0) fun H1 e1 => hQ _ H1 e1 ⟨_, rfl, fun g => ?_⟩
    have := g.lo
    have := Int.emod_nonneg (mx / 3) (show (99 : Int) ≠ 0 by decide)
    omega
  -- 2 ^ bits
  refine ss_asg ev_c ?_
  refine ss_forR (n := wsum M) (ea_cons (ev_var rfl) ea_nil) (by omega) (fun i σ' F => ∃ o4 : Option V, σ' = [some (.ref t), some (.int (wsum M : Nat)), some (.int mx), some (.int (2 ^ i)), o4, none, none, none, none, none, none] ∧ Ex H F) (fun F f => ⟨none, rfl, f⟩) ?_ ?_
  · rintro i σ' F hi ⟨o4, rfl, e⟩
    exact ss_asg (v := .int (2 ^ (i + 1))) (ev_is (ev_op (ev_var rfl) ev_c (rv_I (.inr ⟨by decide, by decide⟩))) (congrArg V.int (Int.pow_succ 2 i).symm)) (ss_end fun F1 f1 => ⟨_, rfl, e.trans f1⟩)
  rintro σ' F ⟨o4, rfl, e⟩
  refine SS.here ?_
  -- more bits
  refine ss_when (b := decide (V.int (mx % 3) = V.int 1)) (et_test (ev_op (ev_op (ev_var rfl) ev_c (rv_I (by decide))) ev_c (rv_eq rfl))) (fun _ => ?_) fun _ => ?_
  · have a0 := Int.emod_nonneg (mx / 3) (show (5 : Int) ≠ 0 by decide)
    have a5 := Int.emod_lt_of_pos (mx / 3) (show (0 : Int) < 5 by decide)
    refine ss_ret (v := .int (2 ^ wsum M * (1 + mx / 3 % 5) + mx / 15 % 2 ^ wsum M)) (ev_op (ev_op (ev_var rfl) (ev_op ev_c (ev_op (ev_op (ev_var rfl) ev_c (rv_I ⟨by decide, by decide⟩)) ev_c (rv_I (by decide))) rv_I0) (rv_I (.inr ⟨by omega, by omega⟩))) (ev_op (ev_op (ev_var rfl) ev_c (rv_I ⟨by decide, by decide⟩)) (ev_var rfl) (rv_I pW)) rv_I0) fun H1 e1 => hQ _ H1 (e.trans e1) ⟨_, rfl, fun g => ?_⟩
    have g : Good M (2 ^ wsum M * (1 + mx / 3 % 5) + mx / 15 % 2 ^ wsum M) := g
    have := g.hi
    have := Int.emod_nonneg (mx / 15) (show (2 : Int) ^ wsum M ≠ 0 by omega)
    have : (2 : Int) ^ wsum M * 1 ≤ 2 ^ wsum M * (1 + mx / 3 % 5) := Int.mul_le_mul_of_nonneg_left (by omega) (by omega)
    omega
  -- counts too great
  refine ss_asgR (er_lstV (vs := []) ea_nil (by decide)) fun v F1 f1 ⟨ls, ev, hls0, hls⟩ => ?_
  subst ev
  have ls0 : H ls = none := fresh_back e hls0
  refine ss_asg ev_c ?_
  have e1 := e.trans f1
  let sm := fun i => ((M.names.take i).map (wd M.rungs)).sum
  have emod : ∀ {σ : L2.St} {F : Hp}, Ex H F → σ[0]? = some (some (.ref t)) → Ev (tOp (rIxT K) (tVar 0) (tC (.int 2))) σ F (.ref lr) := fun f hσ => ev_op (ev_var hσ) ev_c (rv_ixT (.of (f _ _ ht)) (atI_nat (j := 2) rfl))
  refine ss_forIt (Rl := fun v F => ∃ q, v = .ref q ∧ F q = some (.lst (M.names.map V.str)) ∧ F1 q = none) (er_fnV (ea_cons (emod e1 rfl) ea_nil) (c_names_of T) (spP_r (lr, n, M.rungs) rfl (fun G g => ⟨rts, (e1.trans g) _ _ hlr, L2.Paired.mapP hrs fun _ _ q => q.im (.of (e1.trans g)), by show M.rungs.length ≤ 1000; omega⟩) fun G v G2 g _ ⟨q, p1, p2, p3⟩ => ⟨q, p1, p3, fresh_back g p2⟩)) fun v F2 f2 ⟨q, ev, hq, hq0⟩ => ?_
  subst ev
  have nlq : q ≠ ls := fun z => by rw [z, hls] at hq0; cases hq0
  refine ss_forSq (k := true) ev_c (.of hq) (fun i σ' F => ∃ (o7 o8 o9 : Option V) (ss : List Int), σ' = [some (.ref t), some (.int (wsum M : Nat)), some (.int mx), some (.int (2 ^ wsum M)), o4, some (.ref ls), some (.int (2 ^ sm i)), o7, o8, o9, none] ∧ Ex H F ∧ F q = some (.lst (M.names.map V.str)) ∧ F ls = some (.lst (ss.map V.int)) ∧ (∀ s ∈ ss, ¬ Good M s) ∧ ss.length ≤ i)
    (fun G g => ⟨none, none, none, [], rfl, e1.trans (f2.trans g), g _ _ hq, (f2.trans g) _ _ hls, (fun _ h => by cases h), Nat.le_refl _⟩) (fun i σ' G _ ⟨_, _, _, _, _, _, a, _⟩ => .of a) ?_ ?_
  · rintro i x σ' G hx ⟨o7, o8, o9, ss, rfl, eG, hqG, hlG, hbad, hsl⟩
    rw [List.getElem?_map] at hx
    obtain ⟨y, hy, rfl⟩ := Option.map_eq_some_iff.mp hx
    have hi20 : i < M.names.length := (List.getElem?_eq_some_iff.mp hy).1
    have hsm : sm (i + 1) = sm i + wd M.rungs y := by
      show ((M.names.take (i + 1)).map _).sum = _
      rw [take_snoc hy, List.map_append, List.sum_append, List.map_singleton, List.sum_singleton]
    have hrsG : Paired (RungTold G n) rts M.rungs := L2.Paired.mapP hrs fun _ _ q => q.im (.of eG)
    have hlrG := eG _ _ hlr
    refine ss_asgR (R := fun v G2 => ∃ (le : Addr) (acc : List V), v = .ref le ∧ G2 le = some (.lst acc) ∧ Paired (fun v e => EndTold G2 v e) acc (cE M.rungs y)) (er_lcPair (k := true) (emod eG rfl) (.of hlrG) (by rw [paired_len hrs]; omega) (fun _ _ => rfl) (fun i u e => ∃ r, M.rungs[i]? = some r ∧ EndTold G e r.2) (fun i x hx => ?_) (fun i acc F => Paired (fun v e => EndTold F v e) acc (cE (M.rungs.take i) y)) (fun i acc H1 H2 p e => L2.Paired.mapP p fun _ _ q => q.im (.of e)) .nil (fun i acc F3 u e hi hG f3 p => ?_) fun p acc H' _ _ hp' q => ⟨p, acc, rfl, hp', by rw [paired_len hrs, List.take_length] at q; exact q⟩) fun v G2 g2 ⟨le, acc, ev, hle, hacc⟩ => ?_
    · obtain ⟨r, hri, t', u, e, ex, h1, _, _, h4⟩ := paired_get hrsG hx
      exact ⟨t', u, e, ex, .of h1, r, hri, h4⟩
    · obtain ⟨r, hri, hE⟩ := hG
      obtain ⟨hok, t2, rfl, ht2⟩ := hE.im (.of f3)
      refine ⟨decide (V.str r.2.name = V.str y) && inV (.str (eword r.2.kind)) [.str "timer", .str "counter"], et_and (et_test (ev_op (ev_op (ev_var rfl) ev_c (rv_ixT (.of ht2) (atI_nat (j := 1) rfl))) (ev_var rfl) (rv_eq rfl))) fun _ => et_test (ev_inU (ev_op (ev_var rfl) ev_c (rv_ixT (.of ht2) (atI_nat (j := 0) rfl))) (eu_tup (ea_cons ev_c (ea_cons ev_c ea_nil)) (by decide)) rfl rfl), fun hb => ?_, fun hb => ⟨fun z _ => z = .ref t2, ev_rel (ev_var rfl), fun z F4 f4 ez => ?_⟩⟩
      · rw [take_snoc hri, cE_snoc]
        rw [inV_tc hok.k] at hb
        simp only [V.str.injEq] at hb
        rw [if_neg (by rw [hb]; decide)]
        exact p
      · rw [take_snoc hri, cE_snoc]
        rw [inV_tc hok.k] at hb
        simp only [V.str.injEq] at hb
        rw [if_pos hb]
        exact paired_snoc (G := fun v e => EndTold F4 v e) ⟨hok, t2, ez, f4 _ _ ht2⟩ (L2.Paired.mapP p fun _ _ q => q.im (.of f4))
    subst ev
    have hls2 := g2 _ _ hlG
    have hq2 := g2 _ _ hqG
    have hcE := cE_eq ok.own y
    cases hc : cEnd M.rungs y with
    | none =>
      rw [hc] at hcE
      rw [hcE] at hacc
      cases hacc
      have hwd : wd M.rungs y = 1 := by unfold wd; rw [hc]
      refine ss_forSq (k := true) (ev_var rfl) (.of hle) (fun _ σ' F => σ' = [some (.ref t), some (.int (wsum M : Nat)), some (.int mx), some (.int (2 ^ wsum M)), o4, some (.ref ls), some (.int (2 ^ sm i)), some (.str y), some (.ref le), o9, none] ∧ Ex G2 F) (fun F f => ⟨rfl, f⟩) (fun _ σ' F _ ⟨_, f⟩ => .of (f _ _ hle)) (fun i x σ' F hx => by simp at hx) ?_
      rintro σ' F3 ⟨rfl, f3⟩
      refine SS.here (ss_when (b := true) ((ev_eqNil (xs := []) (ev_var rfl) (.of (f3 _ _ hle)))) (fun _ => ?_) (fun z => nomatch z))
      refine ss_asg (v := .int (2 ^ sm (i + 1))) (ev_is (ev_op (ev_var rfl) ev_c (rv_I (.inr ⟨by decide, by decide⟩))) (congrArg V.int (by rw [hsm, hwd]; exact (Int.pow_succ 2 _).symm))) (ss_end fun F4 f4 => ?_)
      exact (ss_end (D := { nx := fun σ' F => ∃ (o7 o8 o9 : Option V) (ss : List Int), σ' = [some (.ref t), some (.int (wsum M : Nat)), some (.int mx), some (.int (2 ^ wsum M)), o4, some (.ref ls), some (.int (2 ^ sm (i + 1))), o7, o8, o9, none] ∧ Ex H F ∧ F q = some (.lst (M.names.map V.str)) ∧ F ls = some (.lst (ss.map V.int)) ∧ (∀ s ∈ ss, ¬ Good M s) ∧ ss.length ≤ i + 1, rt := Q }) fun F5 f5 => ⟨_, _, _, ss, rfl, eG.trans (g2.trans (f3.trans (f4.trans f5))), (f3.trans (f4.trans f5)) _ _ hq2, (f3.trans (f4.trans f5)) _ _ hls2, hbad, by omega⟩) F4 (.refl _)
    | some en =>
      rw [hc] at hcE
      rw [hcE] at hacc
      obtain ⟨_, _, re, hre, ere⟩ := cEnd_some hc
      obtain ⟨va, rfl, hva⟩ : ∃ va, acc = [va] ∧ EndTold G2 va en := by
        cases hacc with
        | cons g r => cases r; exact ⟨_, rfl, g⟩
      obtain ⟨hen, t3, rfl, ht3⟩ := hva
      have hk3 : 3 ≤ en.kind := (cEnd_some hc).1
      have hk5 := hen.k
      have m1 := hen.m1
      have m9 := hen.m9
      have a0 := Int.emod_nonneg (mx / 3) (show (15 : Int) - en.most ≠ 0 by omega)
      have a1 := Int.emod_lt_of_pos (mx / 3) (show (0 : Int) < 15 - en.most by omega)
      have nls : le ≠ ls := fun z => by
        rw [z, hls2] at hle
        have := (HO.lst.inj (Option.some.inj hle))
        have l1 := congrArg List.length this
        cases ss with
        | nil => simp at l1
        | cons a b =>
          rw [List.map_cons] at this
          cases (List.cons.inj this).1
      have hwd : wd M.rungs y = if en.kind = 4 then 5 else 4 := by unfold wd; rw [hc]
      have hbad2 := far_bad hy hc (m := en.most + 1 + mx / 3 % (15 - en.most)) (by omega) (by omega) (by omega)
      have pS := pow_pos' (sm i)
      refine ss_forSq (k := true) (ev_var rfl) (.of hle) (fun j σ' F => ∃ o9 : Option V, σ' = [some (.ref t), some (.int (wsum M : Nat)), some (.int mx), some (.int (2 ^ wsum M)), o4, some (.ref ls), some (.int (if j = 0 then 2 ^ sm i else 2 ^ sm (i + 1))), some (.str y), some (.ref le), o9, none] ∧ Mo [ls] G2 F ∧ F ls = some (.lst ((if j = 0 then ss else ss ++ [2 ^ sm i * (en.most + 1 + mx / 3 % (15 - en.most))]).map V.int))) (fun F f => ⟨o9, rfl, .of f, f _ _ hls2⟩) (fun _ σ' F _ ⟨_, _, f, _⟩ => .of (f _ _ hle (fun z => nls (List.mem_singleton.mp z)))) ?_ ?_
      · rintro j x σ' F3 hx ⟨o9', rfl, m3, h3⟩
        have hj : j = 0 := by
          rcases Nat.eq_zero_or_pos j with z | z
          · exact z
          · rw [List.getElem?_eq_none (by show 1 ≤ j; exact z)] at hx; cases hx
        subst hj
        cases hx
        rw [if_pos rfl] at h3
        rw [if_pos rfl]
        have nt3 : t3 ∉ [ls] := fun z => by rw [List.mem_singleton.mp z, hls2] at ht3; cases ht3
        have ht3' := m3 _ _ ht3 nt3
        have emost : ∀ {σ : L2.St} {F : Hp}, Ex F3 F → σ[9]? = some (some (.ref t3)) → Ev (tOp (rIxT K) (tVar 9) (tC (.int 2))) σ F (.int en.most) := fun f hσ => ev_op (ev_var hσ) ev_c (rv_ixT (.of (f _ _ ht3')) (atI_nat (j := 2) rfl))
        refine ss_app h3 (ev_var rfl) (v := .int (2 ^ sm i * (en.most + 1 + mx / 3 % (15 - en.most)))) (ev_op (ev_var rfl) (ev_op (ev_op (emost (.refl _) rfl) ev_c rv_I0) (ev_op (ev_op (ev_var rfl) ev_c (rv_I ⟨by decide, by decide⟩)) (ev_op ev_c (emost (.refl _) rfl) rv_I0) (rv_I (by omega))) rv_I0) (rv_I (.inr ⟨by omega, by omega⟩))) (by rw [List.length_map]; omega) ?_
        have ht3'' : upd F3 ls (.lst (ss.map V.int ++ [.int (2 ^ sm i * (en.most + 1 + mx / 3 % (15 - en.most)))])) t3 = some (.tup [.str (eword en.kind), .str en.name, .int en.most]) := by rw [upd_ne (fun z => nt3 (by rw [z]; simp))]; exact ht3'
        obtain ⟨jb, hjb, hjv⟩ : ∃ jb : Nat, b2n (decide (V.str (eword en.kind) = V.str "counter")) = (jb : Int) ∧ ([.int 16, .int 32] : List V)[jb]? = some (.int (2 ^ wd M.rungs y)) := by
          rw [eword_c hk5, hwd]
          by_cases k : en.kind = 4
          · rw [decide_eq_true k, if_pos k]; exact ⟨1, rfl, rfl⟩
          · rw [decide_eq_false k, if_neg k]; exact ⟨0, rfl, rfl⟩
        have wdle := wd5 M.rungs y
        have pw32 : (2 : Int) ^ wd M.rungs y ≤ 32 := by
          rw [hwd]
          split <;> decide
        have pwp := pow_pos' (wd M.rungs y)
        refine ss_asg (v := .int (2 ^ sm (i + 1))) (ev_is (ev_op (ev_var rfl) (ev_ixLit (ea_cons ev_c (ea_cons ev_c ea_nil)) (ev_is (ev_cb (ea_cons (ev_op (ev_op (ev_var rfl) ev_c (rv_ixT (.of ht3'') (atI_nat (j := 0) rfl))) ev_c (rv_eq rfl)) ea_nil) rc_intB) (congrArg V.int hjb)) hjv (by show 2 ≤ 100000; decide)) (rv_I (.inr ⟨by omega, by omega⟩))) (congrArg V.int (by rw [hsm]; exact (Int.pow_add 2 _ _).symm))) (ss_end fun F4 f4 => ⟨_, rfl, (m3.put (by simp)).trans (.of f4), ?_⟩)
        rw [f4 _ _ upd_same, if_neg (by decide), List.map_append]
        rfl
      · rintro σ' F3 ⟨o9', rfl, m3, h3⟩
        rw [if_neg (by show ¬ 1 = 0; decide)] at h3
        have e3 : ∀ F4, Ex F3 F4 → Ex H F4 := fun F4 f4 a o h => f4 _ _ (m3 _ _ ((eG.trans g2) _ _ h) fun z => by rw [List.mem_singleton.mp z, ls0] at h; cases h)
        have hle3 := m3 _ _ hle (fun z => nls (List.mem_singleton.mp z))
        have hq3 := m3 _ _ hq2 (fun z => nlq (List.mem_singleton.mp z))
        refine SS.here (ss_when (b := false) (ev_eqNil (xs := [.ref t3]) (ev_var rfl) (.of hle3)) (fun z => nomatch z) fun _ => ss_end fun F4 f4 => ⟨_, _, _, ss ++ [2 ^ sm i * (en.most + 1 + mx / 3 % (15 - en.most))], rfl, e3 F4 f4, f4 _ _ hq3, f4 _ _ h3, fun s hs => ?_, by rw [List.length_append]; show ss.length + 1 ≤ i + 1; omega⟩)
        rcases List.mem_append.mp hs with z | z
        · exact hbad s z
        · rw [List.mem_singleton.mp z]; exact hbad2
  · rintro σ' G ⟨o7, o8, o9, ss, rfl, eG, hqG, hlG, hbad, hsl⟩
    rw [List.length_map] at hsl
    refine SS.here ?_
    obtain ⟨mxl, hmx, mx1, mxe⟩ : ∃ mxl : Nat, (if ((ss.length : Nat) : Int) > 1 then ((ss.length : Nat) : Int) else 1) = (mxl : Int) ∧ 1 ≤ mxl ∧ mxl < ss.length + 1 + (if ss.length = 0 then 1 else 0) := by
      by_cases h : ((ss.length : Nat) : Int) > 1
      · rw [if_pos h]; exact ⟨_, rfl, by omega, by split <;> omega⟩
      · rw [if_neg h]; exact ⟨1, rfl, by decide, by split <;> omega⟩
    obtain ⟨jn, hjn⟩ : ∃ j : Nat, mx / 45 % (mxl : Int) = (j : Int) := Int.eq_ofNat_of_zero_le (Int.emod_nonneg _ (by omega))
    have ljn : jn < mxl := by have := Int.emod_lt_of_pos (mx / 45) (show (0 : Int) < (mxl : Int) by omega); omega
    obtain ⟨sr, hsr, hsb⟩ : ∃ sr, ((ss ++ [2 ^ wsum M]).map V.int)[jn]? = some (.int sr) ∧ ¬ Good M sr := by
      have lj : jn < (ss ++ [2 ^ wsum M]).length := by
        rw [List.length_append]
        show jn < ss.length + 1
        split at mxe <;> omega
      refine ⟨(ss ++ [2 ^ wsum M])[jn], by rw [List.getElem?_map, List.getElem?_eq_getElem lj]; rfl, ?_⟩
      rcases List.mem_append.mp (List.getElem_mem lj) with z | z
      · exact hbad _ z
      · rw [List.mem_singleton.mp z]; exact far0
    refine ss_retR (er_op (R := fun v _ => v = .int sr) (er_catOne (xs := ss.map V.int) (R := fun u _ => u = .int (2 ^ wsum M)) (er_listV (ev_var rfl) hlG) (fun G1 g1 => ev_rel (ev_var rfl)) (fun v H1 H2 r _ => r) (by rw [List.length_map]; omega)) fun x G1 g1 ⟨p, u, ex, _, hp, eu⟩ => ⟨_, ev_rel (ev_op (r := rI (fun _ j => 0 < j) fun i j => V.int (i % j)) (ev_op (ev_var rfl) ev_c (rv_I ⟨by decide, by decide⟩)) (ev_is (ev_cb (ea_cons ev_c (ea_cons (ev_is (ev_lenS (k := true) (ev_var rfl) (.of (g1 _ _ hlG))) (by rw [List.length_map])) ea_nil)) fun H1 e1 Q q => ⟨_, _, rfl, q H1 (.refl _)⟩) (congrArg V.int hmx)) (rv_I (by omega))), fun y G2 g2 ey Q' q' => ⟨p, (ss ++ [2 ^ wsum M]).map V.int, _, _, ex, ey, .of (by rw [g2 _ _ hp, eu, List.map_append]; rfl), by rw [hjn]; exact atI_nat hsr, q' _ _ (.refl _) rfl⟩⟩) fun v G1 g1 ev => hQ v G1 (eG.trans g1) ⟨sr, ev, hsb⟩
end
end RgK
set_option Elab.async false
set_option linter.all false
set_option maxRecDepth 100000
set_option maxHeartbeats 4000000

/-! The law: what refuses. -/
namespace RgK
open PySem PySem.Spec PyProof.Rows L2 Evl
local macro_rules | `(tactic| walk_at "ev") => `(tactic| repeat' (first
  | with_reducible exact ev_c
  | with_reducible exact ea_nil
  | ((with_reducible apply ev_var); first | rfl | assumption)
  | with_reducible apply ea_cons
  | with_reducible apply ev_fld
  | ((with_reducible show Fld _ _ _ _ _); assumption)
  | with_reducible exact rv_I0
  | with_reducible exact ru_neg
  | with_reducible exact rv_eq rfl
  | with_reducible exact rv_ne rfl
  | ((with_reducible apply rv_I); first | decide | omega | assumption)
  | ((with_reducible show _ = _ → EvT _ _ _ _); intro _)
  | ((with_reducible show _ = _ → Ev _ _ _ _); intro _)
  | with_reducible apply et_and
  | with_reducible apply et_or
  | with_reducible apply ev_andV
  | with_reducible apply ev_orV
  | with_reducible apply et_test
  | with_reducible apply et_B
  | with_reducible apply et_not
  | with_reducible apply ev_notV
  | with_reducible apply ev_un
  | with_reducible apply ev_op))

/-! ### isinstance of the error that is handled -/
def rIsEx (K : PySem.W.Frag) (cls : Value) (d : Option Addr) (a : Addr) : List V → Hp → VK → Prop := fun xs H Q => ∃ (D : Addr) (c : V) (cv : Value) (b : Bool), cls = .ref D ∧ d = none ∧ ExcC K D ∧ xs = [.ref a, c] ∧ ClsV c cv ∧ PySem.W.kitOne K (.ref D) cv = some b ∧ Q (.bl b) H
def rIsTx (K : PySem.W.Frag) (cls : Value) (d : Option Addr) (a : Addr) : List V → Hp → VK → Prop := fun xs H Q => ∃ (D tp : Addr) (cs : List V) (us : List Value) (b : Bool), cls = .ref D ∧ d = none ∧ ExcC K D ∧ xs = [.ref a, .ref tp] ∧ H tp = some (.tup cs) ∧ Paired ClsV cs us ∧ PySem.W.kitAny K (.ref D) us = some b ∧ Q (.bl b) H
section
variable {X : Cx} {a : Addr} {oe : Obj} {cls : Value} {d : Option Addr} {pn : List (Addr × Obj)}
theorem call_isEx (hz : Zc cls d oe) (hf : ∃ vs, oe.data = .fields vs) : CallR (X.suite a ((a, oe) :: pn)) (.builtin "isinstance") (rIsEx X.K cls d a) := by
  intro pins s σ H xs us Q I r ⟨D, c, cv, b, e1, e2, C, e3, k, e, q⟩
  subst e1 e2
  exact call_isE C hz hf pins s σ H xs us Q I r ⟨c, cv, b, e3, fun u ru => k.eq ru, e, q⟩
theorem call_isTx (hz : Zc cls d oe) (hf : ∃ vs, oe.data = .fields vs) : CallR (X.suite a ((a, oe) :: pn)) (.builtin "isinstance") (rIsTx X.K cls d a) := by
  intro pins s σ H xs us Q I r ⟨D, tp, cs, ws, b, e1, e2, C, e3, hT, k, e, q⟩
  subst e1 e2 e3
  obtain ⟨u1, u2, rfl, r1, r2⟩ := vals2 r
  cases (show u2 = Value.ref tp from r2)
  cases (show u1 = Value.ref a from r1)
  obtain ⟨hget, _⟩ := I.pin (a, oe) (List.mem_append.mpr (.inl List.mem_cons_self))
  obtain ⟨vs, hv⟩ := hf
  have J : PySem.W.InstAt s.heap a oe D none := by
    obtain ⟨oc, od, oda, osl⟩ := oe
    obtain ⟨h1, h2⟩ := hz
    dsimp only at h1 h2 hv
    subst h1 h2 hv
    exact ⟨hget, rfl, rfl, trivial⟩
  obtain ⟨_, its, rv, o, h1, h2, n, h3⟩ := (show ObjOk X.prog X.w H s.heap tp (.tup cs) from I.hok tp _ hT)
  have e3 := ClsV.all k rv
  subst e3
  obtain ⟨oc, od, dt, sl⟩ := o
  simp only at h2 h3
  subst h2 h3
  exact PySem.W.kia_tup (PySem.W.handS_kitx_exc C.hg C.hk C.hs C.hd C.ha C.hn C.ht C.hm) I.kIn J h1 e (fun z => nomatch z) fun tk => ⟨.bl b, H, I.kept (t' := tk) fun _ _ z => z, rfl, q⟩
end
section
variable {K : PySem.W.Frag} {σ : L2.St} {H : Hp} {ta tb : TE} {a D : Addr} {tr : TA}
theorem ev_isE {c : V} {cv : Value} {b : Bool} (C : ExcC K D) (ha : Ev ta σ H (.ref a)) (hb : Ev tb σ H c) (k : ClsV c cv) (e : PySem.W.kitOne K (.ref D) cv = some b) : Ev (tCB (rIsEx K (.ref D) none a) (tCons ta (tCons tb tNil))) σ H (.bl b) :=
  ev_cb (ea_cons ha (ea_cons hb ea_nil)) fun H1 _ Q q => ⟨D, c, cv, b, rfl, rfl, C, rfl, k, e, q H1 (.refl _)⟩
theorem ev_isT {cs : List V} {us : List Value} {b : Bool} (C : ExcC K D) (ha : Ev ta σ H (.ref a)) (hb : EvA tr σ H cs) (hl : cs.length ≤ 100000) (k : Paired ClsV cs us) (e : PySem.W.kitAny K (.ref D) us = some b) : Ev (tCB (rIsTx K (.ref D) none a) (tCons ta (tCons (tTup tr) tNil))) σ H (.bl b) :=
  (er_cb (Ra := fun vs H1 => ∃ tp, vs = [.ref a, .ref tp] ∧ H1 tp = some (.tup cs)) (R := fun v _ => v = .bl b) (ar_cons (ev_rel ha) fun x H1 e1 ex => ar_cons (er_tupV (EvA.mono e1 hb) hl) fun y H2 e2 ⟨tp, ey, _, htp⟩ => fun H3 e3 Q q => q [] H3 (.refl _) ⟨tp, by rw [show x = _ from ex, ey], e3 _ _ htp⟩) fun vs H1 e1 ⟨tp, evs, htp⟩ Q q => ⟨D, tp, cs, us, b, rfl, rfl, C, evs, htp, k, e, q _ _ (.refl _) rfl⟩).ev
end
structure TdArg where
  g : Addr
  S : SAd
  M : Ldr
  lv : V
  st : Int
  num : Int
section
variable {w : World} {K : PySem.W.Frag} {mg : Mg} {base : Heap}
def spTold (K : PySem.W.Frag) (m : Nat) : Sp := spP (ι := TdArg) (fun i => [.ref i.g, i.lv, .int i.st, .int i.num]) (fun i H => WiredAt K m H i.g i.M i.S ∧ (i.lv = .non ∨ ∃ la, i.lv = .ref la ∧ LadderAt K H (m + 1) la i.M) ∧ ¬ (Good i.M i.st ∧ RowOk i.M i.num)) (fun i H v H2 => (Good i.M i.st → v = .str "row") ∧ (¬ Good i.M i.st → v = .str "state"))
theorem kit_any5 {t a b c d e : Value} (h1 : PySem.W.kitOne K t a = some false) (h2 : PySem.W.kitOne K t b = some false) (h3 : PySem.W.kitOne K t c = some false) (h4 : PySem.W.kitOne K t d = some false) (h5 : PySem.W.kitOne K t e = some false) : PySem.W.kitAny K t [a, b, c, d, e] = some false :=
  kitAny_cons h1 (fun _ => kitAny_cons h2 (fun _ => kitAny_cons h3 (fun _ => kitAny_cons h4 (fun _ => kitAny_cons h5 (fun _ => kitAny_nil) (fun z => nomatch z)) (fun z => nomatch z)) (fun z => nomatch z)) (fun z => nomatch z)) (fun z => nomatch z)
theorem kit_any3 {t a b c : Value} (h1 : PySem.W.kitOne K t a = some false) (h2 : PySem.W.kitOne K t b = some false) (h3 : PySem.W.kitOne K t c = some false) : PySem.W.kitAny K t [a, b, c] = some false :=
  kitAny_cons h1 (fun _ => kitAny_cons h2 (fun _ => kitAny_cons h3 (fun _ => kitAny_nil) (fun z => nomatch z)) (fun z => nomatch z)) (fun z => nomatch z)
structure ErrF (K : PySem.W.Frag) (D0 : Addr) (bS : Bool) : Prop where
  C : ExcC K D0
  x : PySem.W.exmOne K (.ref D0) (.ref (He.ga K "LadderError")) = some true
  v : PySem.W.kitOne K (.ref D0) (.type "ValueError") = some true
  a5 : PySem.W.kitAny K (.ref D0) [.ref (He.ga K "NoName"), .ref (He.ga K "TooMany"), .ref (He.ga K "NoPart"), .ref (He.ga K "NoEnd"), .ref (He.ga K "NoLadder")] = some false
  a3 : PySem.W.kitAny K (.ref D0) [.ref (He.ga K "NoText"), .ref (He.ga K "NoSheet"), .ref (He.ga K "NoMatch")] = some false
  s : PySem.W.kitOne K (.ref D0) (.ref (He.ga K "NoState")) = some bS
  r : PySem.W.kitOne K (.ref D0) (.ref (He.ga K "NoRow")) = some (!bS)
theorem err_row (T : Tx w K mg base) : ErrF K (He.ga K "NoRow") false := ⟨T.excC T.ex3.1, T.x_NoRow_LadderError, T.own6.2.1, kit_any5 (T.kit 50) (T.kit 51) (T.kit 52) (T.kit 53) (T.kit 54), kit_any3 (T.kit 55) (T.kit 56) (T.kit 57), T.kit 58, T.kit 59⟩
theorem err_state (T : Tx w K mg base) : ErrF K (He.ga K "NoState") true := ⟨T.excC T.ex3.2, T.x_NoState_LadderError, T.own6.2.2, kit_any5 (T.kit 60) (T.kit 61) (T.kit 62) (T.kit 63) (T.kit 64), kit_any3 (T.kit 65) (T.kit 66) (T.kit 67), T.kit 68, T.kit 69⟩
theorem c_told (T : Tx w K mg base) (m : Nat) : Cal PG w K mg base (m + 6) "_law_told" (spTold K m) := by
  refine cal_of (fnd ["_law_stepped", "_law_ladder_here", "_law_state", "_law_number", "e"] ["_law_stepped", "_law_ladder_here", "_law_state", "_law_number"] T.d_law_told (by decide +kernel) (spP_len fun _ => rfl) (fun _ _ _ _ _ _ us h => by match us, h with | [_, _, _, _], _ => rfl) ?_) T.g_law_told
  rintro cdv A outer s H vs Q E hr ⟨⟨g, S, M, lv, st, num⟩, rfl, ⟨hw0, hl0, hb0⟩, hQ⟩
  have hw : WiredAt K m H g M S := hw0
  have hl : lv = .non ∨ ∃ la, lv = .ref la ∧ LadderAt K H (m + 1) la M := hl0
  have hbad : ¬ (Good M st ∧ RowOk M num) := hb0
  clear hw0 hl0 hb0
  have nd : (["_law_stepped", "_law_ladder_here", "_law_state", "_law_number", "e"] : List Str).Nodup := by decide +kernel
  refine ⟨_, (pss_cons (ps_try_as (i := 4) rfl rfl nd rfl rfl ⟨by rfl, by decide, .inl T.g_LadderError⟩ L2.takes0
    (fun W pn xe tk _ => (pss_cons (ps_if (pt_cmpR op_isN (pv 1) pe_non (nomark _)) (pss_cons (ps_expr (pe_clo (w := w) (K := K) (mg := mg) (base := base) (i := 0) (by rfl) (by first | exact Or.inl rfl | exact Or.inr (Or.inl rfl) | exact Or.inr (Or.inr rfl)) hr (fun σ => passAt tk σ) (pa_cons (pv 2) (pa_cons (pv 3) pa_nil)))) pss_nil) (pss_cons (ps_expr (pe_fn T hr (by rfl) T.g_step (fun σ => passAt tk σ) T.kp_step (pa_cons (pv 1) (pa_cons (pv 2) (pa_cons (pv 3) pa_nil))))) pss_nil)) pss_nil))
    (fun a oe cls d pn hz hf =>
      (pss_cons (ps_if (PW.pt (pw_or (pt_not (pt_val (pe_callB (call_isEx hz hf) (by rfl) T.f_isinstance (by decide +kernel) (pa_cons (pv 4) (pa_cons (pe_bltnT "ValueError" (by rfl) T.f_ValueError (by decide +kernel)) pa_nil))))) (pw_or1 (pt_val (pe_callB (call_isTx hz hf) (by rfl) T.f_isinstance (by decide +kernel) (pa_cons (pv 4) (pa_cons (pe_tup (pa_cons (pe_globR (by rfl) T.g_NoName) (pa_cons (pe_globR (by rfl) T.g_TooMany) (pa_cons (pe_globR (by rfl) T.g_NoPart) (pa_cons (pe_globR (by rfl) T.g_NoEnd) (pa_cons (pe_globR (by rfl) T.g_NoLadder) pa_nil)))))) pa_nil))))))) (pss_cons (ps_ret pe_str) pss_nil) pss_nil)
      (pss_cons (ps_if (pt_val (pe_callB (call_isTx hz hf) (by rfl) T.f_isinstance (by decide +kernel) (pa_cons (pv 4) (pa_cons (pe_tup (pa_cons (pe_globR (by rfl) T.g_NoText) (pa_cons (pe_globR (by rfl) T.g_NoSheet) (pa_cons (pe_globR (by rfl) T.g_NoMatch) pa_nil)))) pa_nil)))) (pss_cons (ps_ret pe_str) pss_nil) pss_nil)
      (pss_cons (ps_if (pt_cmpR op_eq (pe_callB (call_isEx hz hf) (by rfl) T.f_isinstance (by decide +kernel) (pa_cons (pv 4) (pa_cons (pe_globR (by rfl) T.g_NoState) pa_nil))) (pe_callB (call_isEx hz hf) (by rfl) T.f_isinstance (by decide +kernel) (pa_cons (pv 4) (pa_cons (pe_globR (by rfl) T.g_NoRow) pa_nil))) (nomark _)) (pss_cons (ps_ret pe_str) pss_nil) pss_nil)
      (pss_cons (ps_ret (pe_ix (ix_lT T) (pe_lst (pa_cons pe_str (pa_cons pe_str pa_nil))) (pe_callTy call_int1 (by rfl) T.f_int (by decide +kernel) (pa_cons (pe_callB (call_isEx hz hf) (by rfl) T.f_isinstance (by decide +kernel) (pa_cons (pv 4) (pa_cons (pe_globR (by rfl) T.g_NoState) pa_nil))) pa_nil)) (fun _ _ => rfl))) pss_nil))))))
    (pss_cons (ps_ret pe_str) pss_nil)), ?_⟩
  obtain ⟨D0, bS, F, hrt, hraise⟩ : ∃ D0 bS, ErrF K D0 bS ∧ (∀ H2, Ex H H2 → Q (.str (if bS then "state" else "row")) H2) ∧ (∀ (H1 : Hp) (E1 : XK), (∀ H2, Ex H1 H2 → E1 (.ref D0) none H2) → (¬ Good M st → noState K H1 E1) ∧ (Good M st → ¬ RowOk M num → noRow K H1 E1)) := by
    by_cases hg : Good M st
    · exact ⟨_, false, err_row T, fun H2 e2 => hQ _ H2 e2 ⟨fun _ => rfl, fun z => absurd hg z⟩, fun H1 E1 h => ⟨fun z => absurd hg z, fun _ _ => h⟩⟩
    · exact ⟨_, true, err_state T, fun H2 e2 => hQ _ H2 e2 ⟨fun z => absurd z hg, fun _ => rfl⟩, fun H1 E1 h => ⟨fun _ => h, fun z => absurd z hg⟩⟩
  refine SS.here (ss_if (b := decide (lv = .non)) (et_test (ev_op (ev_var rfl) ev_c (fun H1 _ Q' q' => ⟨rfl, q' H1 (.refl _)⟩))) (fun hb => ?_) fun hb => ?_)
  · obtain ⟨cl, c, w1, w2, w3, w4⟩ := hw
    intro H1 e1
    have cl1 : CloAt H1 g (Fs cl c) (sws S) := w3.kp (.of e1)
    have wish := fun (H2 : Hp) (e2 : Ex (hid (Fs cl c).cells H1) H2) => e1.trans (unh_ex e2)
    refine ⟨g, Fs cl c, ["state", "number"], spStp K m, sws S, rfl, stp_ok T m cl c w1 w2, cl1, .int st, rfl, .int num, rfl, cl1, ⟨S, M, st, num⟩, rfl, ⟨rfl, w4.ex (hid_ex e1)⟩, fun hg hr => absurd ⟨hg, hr⟩ hbad, (hraise _ _ fun H2 e2 hno => ?_).1, (hraise _ _ fun H2 e2 hno => ?_).2⟩
    · have e3 := wish H2 e2
      refine ⟨true, F.x, fun _ a ha => ?_, fun z => nomatch z⟩
      refine SS.here ?_
      refine ss_when (b := !(true) || false) (et_or (et_not (et_B (ev_isE F.C (ev_var rfl) ev_c (.ty "ValueError") F.v))) fun _ => et_B (ev_isT F.C (ev_var rfl) (ea_cons ev_c (ea_cons ev_c (ea_cons ev_c (ea_cons ev_c (ea_cons ev_c ea_nil))))) (by show 5 ≤ 100000; decide) (.cons (.own _) (.cons (.own _) (.cons (.own _) (.cons (.own _) (.cons (.own _) .nil))))) F.a5)) (fun z => nomatch z) fun _ => ?_
      refine ss_when (b := false) (et_B (ev_isT F.C (ev_var rfl) (ea_cons ev_c (ea_cons ev_c (ea_cons ev_c ea_nil))) (by show 3 ≤ 100000; decide) (.cons (.own _) (.cons (.own _) (.cons (.own _) .nil))) F.a3)) (fun z => nomatch z) fun _ => ?_
      refine ss_when (b := decide (V.bl bS = V.bl (!bS))) (et_test (ev_op (ev_isE F.C (ev_var rfl) ev_c (.own _) F.s) (ev_isE F.C (ev_var rfl) ev_c (.own _) F.r) (rv_eq rfl))) (fun z => by cases bS <;> cases z) fun _ => ?_
      exact ss_ret (v := .str (if bS then "state" else "row")) (ev_ixLit (vs := [.str "row", .str "state"]) (j := if bS then 1 else 0) (ea_cons ev_c (ea_cons ev_c ea_nil)) (ev_is (ev_cb (ea_cons (ev_isE F.C (ev_var rfl) ev_c (.own _) F.s) ea_nil) rc_intB) (by cases bS <;> rfl)) (by cases bS <;> rfl) (by show 2 ≤ 100000; decide)) fun H4 e4 => hrt H4 (e3.trans e4)
    · have e3 := wish H2 e2
      refine ⟨true, F.x, fun _ a ha => ?_, fun z => nomatch z⟩
      refine SS.here ?_
      refine ss_when (b := !(true) || false) (et_or (et_not (et_B (ev_isE F.C (ev_var rfl) ev_c (.ty "ValueError") F.v))) fun _ => et_B (ev_isT F.C (ev_var rfl) (ea_cons ev_c (ea_cons ev_c (ea_cons ev_c (ea_cons ev_c (ea_cons ev_c ea_nil))))) (by show 5 ≤ 100000; decide) (.cons (.own _) (.cons (.own _) (.cons (.own _) (.cons (.own _) (.cons (.own _) .nil))))) F.a5)) (fun z => nomatch z) fun _ => ?_
      refine ss_when (b := false) (et_B (ev_isT F.C (ev_var rfl) (ea_cons ev_c (ea_cons ev_c (ea_cons ev_c ea_nil))) (by show 3 ≤ 100000; decide) (.cons (.own _) (.cons (.own _) (.cons (.own _) .nil))) F.a3)) (fun z => nomatch z) fun _ => ?_
      refine ss_when (b := decide (V.bl bS = V.bl (!bS))) (et_test (ev_op (ev_isE F.C (ev_var rfl) ev_c (.own _) F.s) (ev_isE F.C (ev_var rfl) ev_c (.own _) F.r) (rv_eq rfl))) (fun z => by cases bS <;> cases z) fun _ => ?_
      exact ss_ret (v := .str (if bS then "state" else "row")) (ev_ixLit (vs := [.str "row", .str "state"]) (j := if bS then 1 else 0) (ea_cons ev_c (ea_cons ev_c ea_nil)) (ev_is (ev_cb (ea_cons (ev_isE F.C (ev_var rfl) ev_c (.own _) F.s) ea_nil) rc_intB) (by cases bS <;> rfl)) (by cases bS <;> rfl) (by show 2 ≤ 100000; decide)) fun H4 e4 => hrt H4 (e3.trans e4)
  · obtain ⟨la, rfl, hL⟩ := hl.resolve_left (of_decide_eq_false hb)
    obtain ⟨_, _, _, _, _, w4⟩ := id hw
    intro H1 e1
    refine ⟨.ref la, rfl, .int st, rfl, .int num, rfl, spStep K m, (c_step T m), ⟨⟨⟨m + 1, la, M⟩, st⟩, num⟩, rfl, ⟨hL.im (.of e1), w4.ok⟩, fun hg hr => absurd ⟨hg, hr⟩ hbad, (hraise _ _ fun H2 e2 => ?_).1, (hraise _ _ fun H2 e2 => ?_).2⟩
    · have e3 := e1.trans e2
      refine ⟨true, F.x, fun _ a ha => ?_, fun z => nomatch z⟩
      refine SS.here ?_
      refine ss_when (b := !(true) || false) (et_or (et_not (et_B (ev_isE F.C (ev_var rfl) ev_c (.ty "ValueError") F.v))) fun _ => et_B (ev_isT F.C (ev_var rfl) (ea_cons ev_c (ea_cons ev_c (ea_cons ev_c (ea_cons ev_c (ea_cons ev_c ea_nil))))) (by show 5 ≤ 100000; decide) (.cons (.own _) (.cons (.own _) (.cons (.own _) (.cons (.own _) (.cons (.own _) .nil))))) F.a5)) (fun z => nomatch z) fun _ => ?_
      refine ss_when (b := false) (et_B (ev_isT F.C (ev_var rfl) (ea_cons ev_c (ea_cons ev_c (ea_cons ev_c ea_nil))) (by show 3 ≤ 100000; decide) (.cons (.own _) (.cons (.own _) (.cons (.own _) .nil))) F.a3)) (fun z => nomatch z) fun _ => ?_
      refine ss_when (b := decide (V.bl bS = V.bl (!bS))) (et_test (ev_op (ev_isE F.C (ev_var rfl) ev_c (.own _) F.s) (ev_isE F.C (ev_var rfl) ev_c (.own _) F.r) (rv_eq rfl))) (fun z => by cases bS <;> cases z) fun _ => ?_
      exact ss_ret (v := .str (if bS then "state" else "row")) (ev_ixLit (vs := [.str "row", .str "state"]) (j := if bS then 1 else 0) (ea_cons ev_c (ea_cons ev_c ea_nil)) (ev_is (ev_cb (ea_cons (ev_isE F.C (ev_var rfl) ev_c (.own _) F.s) ea_nil) rc_intB) (by cases bS <;> rfl)) (by cases bS <;> rfl) (by show 2 ≤ 100000; decide)) fun H4 e4 => hrt H4 (e3.trans e4)
    · have e3 := e1.trans e2
      refine ⟨true, F.x, fun _ a ha => ?_, fun z => nomatch z⟩
      refine SS.here ?_
      refine ss_when (b := !(true) || false) (et_or (et_not (et_B (ev_isE F.C (ev_var rfl) ev_c (.ty "ValueError") F.v))) fun _ => et_B (ev_isT F.C (ev_var rfl) (ea_cons ev_c (ea_cons ev_c (ea_cons ev_c (ea_cons ev_c (ea_cons ev_c ea_nil))))) (by show 5 ≤ 100000; decide) (.cons (.own _) (.cons (.own _) (.cons (.own _) (.cons (.own _) (.cons (.own _) .nil))))) F.a5)) (fun z => nomatch z) fun _ => ?_
      refine ss_when (b := false) (et_B (ev_isT F.C (ev_var rfl) (ea_cons ev_c (ea_cons ev_c (ea_cons ev_c ea_nil))) (by show 3 ≤ 100000; decide) (.cons (.own _) (.cons (.own _) (.cons (.own _) .nil))) F.a3)) (fun z => nomatch z) fun _ => ?_
      refine ss_when (b := decide (V.bl bS = V.bl (!bS))) (et_test (ev_op (ev_isE F.C (ev_var rfl) ev_c (.own _) F.s) (ev_isE F.C (ev_var rfl) ev_c (.own _) F.r) (rv_eq rfl))) (fun z => by cases bS <;> cases z) fun _ => ?_
      exact ss_ret (v := .str (if bS then "state" else "row")) (ev_ixLit (vs := [.str "row", .str "state"]) (j := if bS then 1 else 0) (ea_cons ev_c (ea_cons ev_c ea_nil)) (ev_is (ev_cb (ea_cons (ev_isE F.C (ev_var rfl) ev_c (.own _) F.s) ea_nil) rc_intB) (by cases bS <;> rfl)) (by cases bS <;> rfl) (by show 2 ≤ 100000; decide)) fun H4 e4 => hrt H4 (e3.trans e4)
end
end RgK
set_option Elab.async false
set_option linter.all false
set_option maxRecDepth 100000
set_option maxHeartbeats 4000000

/-! The law: bits, a step. -/
namespace RgK
open PySem PySem.Spec PyProof.Rows L2 Evl
local macro_rules | `(tactic| walk_at "ev") => `(tactic| repeat' (first
  | with_reducible exact ev_c
  | with_reducible exact ea_nil
  | ((with_reducible apply ev_var); first | rfl | assumption)
  | with_reducible apply ea_cons
  | with_reducible apply ev_fld
  | ((with_reducible show Fld _ _ _ _ _); assumption)
  | with_reducible exact rv_I0
  | with_reducible exact ru_neg
  | with_reducible exact rv_eq rfl
  | with_reducible exact rv_ne rfl
  | ((with_reducible apply rv_I); first | decide | omega | assumption)
  | ((with_reducible show _ = _ → EvT _ _ _ _); intro _)
  | ((with_reducible show _ = _ → Ev _ _ _ _); intro _)
  | with_reducible apply et_and
  | with_reducible apply et_or
  | with_reducible apply ev_andV
  | with_reducible apply ev_orV
  | with_reducible apply et_test
  | with_reducible apply et_B
  | with_reducible apply et_not
  | with_reducible apply ev_notV
  | with_reducible apply ev_un
  | with_reducible apply ev_op))

theorem sh3 (a b c : Int) : PySem.SeqAt.shaped (.tuple [.int a, .int b, .int c]) = true := rfl
theorem eq3 (a b c : Int) : PyData.eqv (.tuple [.int a, .int b, .int c]) (.tuple [.int a, .int b, .int c]) = true := by
  simp [PyData.eqv, PyData.eqvAll]
theorem dp3 {K : PySem.W.Frag} {H : Hp} {p : Addr} {a b c : Int} (h : H p = some (.tup [.int a, .int b, .int c])) : Dp K H (.ref p) (.tuple [.int a, .int b, .int c]) := .tup (.of h) (.cons (.int a) (.cons (.int b) (.cons (.int c) .nil)))
section
variable {K : PySem.W.Frag} {σ : L2.St} {H : Hp} {ta tb : TE} {a b c : Int}
/-- two tuples of the same three numbers -/
theorem ev_same3 (ha : EvR ta σ H (fun v H2 => ∃ p, v = .ref p ∧ H2 p = some (.tup [.int a, .int b, .int c]))) (hb : ∀ H1, Ex H H1 → EvR tb σ H1 (fun v H2 => ∃ p, v = .ref p ∧ H2 p = some (.tup [.int a, .int b, .int c]))) : Ev (tOp (rEqD K) ta tb) σ H (.bl true) :=
  (er_op (R := fun v _ => v = .bl true) ha fun x H1 e1 ⟨p, ex, hp⟩ => ⟨_, hb H1 e1, fun y H2 e2 ⟨q, ey, hq⟩ Q k => ⟨_, _, by rw [ex]; exact dp3 (e2 _ _ hp), by rw [ey]; exact dp3 hq, sh3 a b c, sh3 a b c, k _ _ (.refl _) (by rw [eq3])⟩⟩).ev
theorem ev_diff3 (ha : EvR ta σ H (fun v H2 => ∃ p, v = .ref p ∧ H2 p = some (.tup [.int a, .int b, .int c]))) (hb : ∀ H1, Ex H H1 → EvR tb σ H1 (fun v H2 => ∃ p, v = .ref p ∧ H2 p = some (.tup [.int a, .int b, .int c]))) : Ev (tOp (rNeD K) ta tb) σ H (.bl false) :=
  (er_op (R := fun v _ => v = .bl false) ha fun x H1 e1 ⟨p, ex, hp⟩ => ⟨_, hb H1 e1, fun y H2 e2 ⟨q, ey, hq⟩ Q k => ⟨_, _, by rw [ex]; exact dp3 (e2 _ _ hp), by rw [ey]; exact dp3 hq, sh3 a b c, sh3 a b c, k _ _ (.refl _) (by rw [eq3]; rfl)⟩⟩).ev
end
section
variable {w : World} {K : PySem.W.Frag} {mg : Mg} {base : Heap}
def spLBits (K : PySem.W.Frag) : Sp := spP (ι := RArg) (fun i => [.ref i.t]) (fun i H => Sq K i.k H i.t (i.bs.map V.bl) ∧ i.bs.length ≤ 1000) (fun i H v H2 => v = .int (bitsN i.bs))
theorem c_law_bits (T : Tx w K mg base) : Cal PG w K mg base 1 "_law_bits" (spLBits K) := by
  refine cal_of (fnd ["_law_truths", "_law_number", "_law_truth"] ["_law_truths"] T.d_law_bits (by decide +kernel) (spP_len fun _ => rfl) (fun _ _ _ _ _ _ us h => by match us, h with | [_], _ => rfl) ?_) T.g_law_bits
  rintro cdv A outer s H vs Q E hr ⟨⟨k, t, bs⟩, rfl, ⟨ht, hl⟩, hQ⟩
  have ht : Sq K k H t (bs.map V.bl) := ht
  have hl : bs.length ≤ 1000 := hl
  have nd : (["_law_truths", "_law_number", "_law_truth"] : List Str).Nodup := by decide +kernel
  refine ⟨_, 
    (pss_cons (ps_set (i := 1) nd rfl (Or.inl rfl) pe_int) 
    (pss_cons (ps_for (passes_of rfl) rfl (pi_seq (pe_revS (pv 0))) (pg_name (i := 2) nd rfl (Or.inl rfl)) 
    (pss_cons (ps_set (i := 1) nd rfl (Or.inl rfl) (pe_op op_add (pe_op op_mul pe_int (pv 1)) (pe_callTy call_int1 (by rfl) T.f_int (by decide +kernel) (pa_cons (pv 2) pa_nil)))) pss_nil)) 
    (pss_cons (ps_ret (pv 1)) pss_nil))), SS.here ?_⟩
  refine ss_asg ev_c ?_
  have hrev : EvR (tRevS K (tVar 0)) [some (.ref t), some (.int 0), none] H (fun v H2 => ∃ p, v = .ref p ∧ Sq K k H2 p (bs.reverse.map V.bl)) := fun H1 e1 Q' q' => ⟨.ref t, rfl, k, t, bs.map V.bl, rfl, ex_s e1 ht, fun p hp => q' _ _ (.new hp) ⟨p, rfl, by
    rw [← List.map_reverse]
    cases k with
    | true => exact .of (by rw [upd_same]; rfl)
    | false => exact .of (by rw [upd_same]; rfl)⟩⟩
  refine ss_forIt hrev fun v H1 e1 ⟨p, ev, hp⟩ => ?_
  subst ev
  refine ss_forSq (k := k) ev_c hp (fun i σ' F => (∃ o, σ' = [some (.ref t), some (.int (bitsN (bs.reverse.take i).reverse)), o]) ∧ Ex H1 F) (fun F f => ⟨⟨none, rfl⟩, f⟩) (fun i σ' F _ ⟨_, f⟩ => ex_s f hp) ?_ ?_
  · rintro i x σ' F hx ⟨⟨o, rfl⟩, f⟩
    rw [List.getElem?_map] at hx
    obtain ⟨b, hb, rfl⟩ := Option.map_eq_some_iff.mp hx
    refine ss_asg (v := .int (bitsN (bs.reverse.take (i + 1)).reverse)) (ev_is (ev_op (ev_op ev_c (ev_var rfl) (rv_I (.inl ⟨by decide, by decide⟩))) (ev_cb (ea_cons (ev_var rfl) ea_nil) rc_intB) rv_I0) (congrArg V.int ?_)) (ss_end fun F1 f1 => ⟨⟨_, rfl⟩, f.trans f1⟩)
    rw [take_snoc hb, List.reverse_append]
    show 2 * bitsN (bs.reverse.take i).reverse + b2n b = b2n b + 2 * bitsN (bs.reverse.take i).reverse
    omega
  · rintro σ' F ⟨⟨o, rfl⟩, f⟩
    rw [List.length_map, List.take_length, List.reverse_reverse]
    exact SS.here (ss_ret (ev_var rfl) fun F1 f1 => hQ _ F1 (e1.trans (f.trans f1)) rfl)
theorem ev_lbits (T : Tx w K mg base) {j : Nat} {σ : L2.St} {H : Hp} {ta : TE} {bs : List Bool} {E : L2.St → XK} (h : EvR ta σ H (fun v H2 => ∃ k t, v = .ref t ∧ Sq K k H2 t (bs.map V.bl))) (hl : bs.length ≤ 1000) : Ev (tFn (Cal PG w K mg base (j + 1) "_law_bits") E (tCons ta tNil)) σ H (.int (bitsN bs)) :=
  (er_fn (Ra := fun vs H1 => ∃ k t, vs = [.ref t] ∧ Sq K k H1 t (bs.map V.bl)) (ar_cons h fun x H1 e1 ⟨k, t, ex, ht⟩ => fun H2 e2 Q q => q [] H2 (.refl _) ⟨k, t, by rw [ex], ex_s e2 ht⟩) fun vs H1 e1 ⟨k, t, evs, ht⟩ => ⟨spLBits K, (c_law_bits T).mono (by omega), spP_r (R' := fun z _ => z = .int (bitsN bs)) ⟨k, t, bs⟩ evs (fun H2 e2 => ⟨ex_s e2 ht, hl⟩) fun _ _ _ _ _ r => r⟩).ev
structure StArg where
  vm : V
  n : Nat
  la : Addr
  g : Addr
  S : SAd
  W : WA
  M : Ldr
  βi : Str → Bool
  ν : Nu
  mx : Int
def spLStep (K : PySem.W.Frag) (m : Nat) : Sp := fun vs H Q _ => ∃ i : StArg, vs = [i.vm, .ref i.la, .ref i.g, .ref i.W.a, .int i.mx] ∧ (ModelAt H i.n i.vm i.M ∧ LadderAt K H (m + 1) i.la i.M ∧ WiredAt K m H i.g i.M i.S ∧ WorksAt K H (m + 1) i.W i.M i.βi i.ν ∧ StOk i.M i.ν) ∧
  ∀ H2 β' ν', Mo i.W.dd H H2 → WorksAt K H2 (m + 1) i.W i.M β' ν' → StOk i.M ν' → Q (.bl true) H2
theorem c_law_step (T : Tx w K mg base) (m : Nat) : Cal PG w K mg base (m + 6) "_law_step" (spLStep K m) := by
  refine cal_of (fnd ["_law_model_here", "_law_ladder_here", "_law_stepped", "_law_works", "_law_mix", "_law_state", "_law_row", "_law_number", "_law_found", "_law_held", "_law_k"] ["_law_model_here", "_law_ladder_here", "_law_stepped", "_law_works", "_law_mix"] T.d_law_step (by decide +kernel) (fun vs H Q E ⟨_, e, _⟩ => by rw [e]; rfl) (fun _ _ _ _ _ _ us h => by match us, h with | [_, _, _, _, _], _ => rfl) ?_) T.g_law_step
  rintro cdv A outer s H vs Q E hr ⟨⟨vm, n, la, g, S, W, M, βi, ν, mx⟩, rfl, ⟨hM0, hL0, hw0, hW0, hst0⟩, hQ⟩
  have hM : ModelAt H n vm M := hM0
  have hL : LadderAt K H (m + 1) la M := hL0
  have hw : WiredAt K m H g M S := hw0
  have hW : WRaw K H (m + 1) W M (fun x => .bl (img M βi ν x)) (fun x => .int (ν x % 16)) (fun x => .bl (decide (ν x / 16 = 1))) := hW0
  have hst : StOk M ν := hst0
  have hQ : ∀ H2 β' ν', Mo W.dd H H2 → WorksAt K H2 (m + 1) W M β' ν' → StOk M ν' → Q (.bl true) H2 := hQ
  clear hM0 hL0 hw0 hW0 hst0
  have ok := hw.ok
  have il := ok.il
  have rl := ok.rl
  have ol := ok.ol
  have nd : (["_law_model_here", "_law_ladder_here", "_law_stepped", "_law_works", "_law_mix", "_law_state", "_law_row", "_law_number", "_law_found", "_law_held", "_law_k"] : List Str).Nodup := by decide +kernel
  refine ⟨_, 
    (pss_cons (ps_set (i := 5) nd rfl (Or.inl rfl) (pe_fn T hr (by rfl) T.g_state_of pass0 T.kp_state_of (pa_cons (pv 3) pa_nil))) 
    (pss_cons (ps_setLc (i := 6) (own := [("_law_k", 10)]) (g := gName 10) (tt := tYes) rfl nd rfl rfl (sw_true rfl rfl rfl (by decide +kernel)) (pi_range1 (by rfl) T.f_range (pa_cons (pe_callB call_len_seq (by rfl) T.f_len (by decide +kernel) (pa_cons (pe_ix (ix_tT T) (pv 0) pe_int (fun _ _ => rfl)) pa_nil)) pa_nil)) (blkOk_by (N := ["_law_model_here", "_law_ladder_here", "_law_stepped", "_law_works", "_law_mix", "_law_state", "_law_row", "_law_number", "_law_found", "_law_held", "_law_k"]) (sc := defScope s_law_step) (own := [("_law_k", 10)]) (by decide +kernel)) (fun _ _ _ _ _ => (pg_name (i := 10) nd rfl (Or.inl rfl))) (fun _ _ _ _ _ => pts_nil) (fun _ _ _ _ _ => pe_hide (pe_cmpR op_eq (pe_op op_mod (pe_op op_fdiv (pv 4) (pe_ix (ix_lT T) (pe_lst (pa_cons pe_int (pa_cons pe_int (pa_cons pe_int (pa_cons pe_int (pa_cons pe_int (pa_cons pe_int pa_nil))))))) (pv 10) (fun _ _ => rfl))) pe_int) pe_int (nomark _)))) 
    (pss_cons (ps_set (i := 7) nd rfl (Or.inl rfl) (pe_fn T hr (by rfl) T.g_law_bits pass0 T.kp_law_bits (pa_cons (pv 6) pa_nil))) 
    (pss_cons (ps_set (i := 8) nd rfl (Or.inl rfl) (pe_clo (i := 2) (by rfl) (by first | exact Or.inl rfl | exact Or.inr (Or.inl rfl) | exact Or.inr (Or.inr rfl)) hr pass0 (pa_cons (pv 5) (pa_cons (pv 7) pa_nil)))) 
    (pss_cons (ps_if (PW.pt (pw_and (pt_cmpR op_eq (pe_op op_mod (pe_op op_fdiv (pv 4) pe_int) pe_int) pe_int (nomark _)) (pw_and1 (pt_cmpR (op_neD hr.units) (pe_fn T hr (by rfl) T.g_step pass0 T.kp_step (pa_cons (pv 1) (pa_cons (pv 5) (pa_cons (pv 7) pa_nil)))) (pv 8) (nomark _))))) 
    (pss_cons (ps_ret pe_bl) pss_nil) pss_nil) 
    (pss_cons (ps_set (i := 9) nd rfl (Or.inl rfl) (pe_fn T hr (by rfl) T.g_law_bits pass0 T.kp_law_bits (pa_cons (pe_me T hr pass0 (pv 3) (pa_cons (pv 6) pa_nil)) pa_nil))) 
    (pss_cons (ps_if (pt_cmpR (op_neD hr.units) (pv 8) (pe_tup (pa_cons (pe_fn T hr (by rfl) T.g_state_of pass0 T.kp_state_of (pa_cons (pv 3) pa_nil)) (pa_cons (pe_fn T hr (by rfl) T.g_law_bits pass0 T.kp_law_bits (pa_cons (pe_me0 T hr pass0 (pv 3)) pa_nil)) (pa_cons (pv 9) pa_nil)))) (nomark _)) 
    (pss_cons (ps_ret pe_bl) pss_nil) pss_nil) 
    (pss_cons (ps_ret (pe_cmpR (op_eqD hr.units) (pe_fn T hr (by rfl) T.g_step pass0 T.kp_step (pa_cons (pv 1) (pa_cons (pv 5) (pa_cons (pv 7) pa_nil)))) (pv 8) (nomark _))) pss_nil)))))))), SS.here ?_⟩
  obtain ⟨t, li, lo, lr, rts, ev, ht, hli, hlo, hlr, hrs⟩ := hM
  subst ev
  change SS _ _ [some (.ref t), some (.ref la), some (.ref g), some (.ref W.a), some (.int mx), none, none, none, none, none, none] H
  have hgood := good_state hst
  have hnu := nuOf_state hst
  -- the state
  refine ss_asg (v := .int (stateN M ν)) (ev_fnV (ea_cons (ev_var rfl) ea_nil) ((c_state_of T).mono (by omega)) (spP_r ⟨m + 1, W, M, βi, ν⟩ rfl (fun H2 e2 => ⟨WRaw.ex hW e2, ok, hst⟩) fun _ _ _ _ _ r => r)) ?_
  -- the row
  have hbl := rowB_len M.ins.length mx
  refine ss_asgR (R := fun v H2 => ∃ p, v = .ref p ∧ H2 p = some (.lst ((rowB M.ins.length mx).map V.bl))) (er_newL ((er_lcRV (n := M.ins.length) (fun i => .bl (decide (mx / 2 ^ i % 2 = 1))) (ea_cons (ev_is (ev_lenS (k := true) (ev_op (ev_var rfl) ev_c (rv_ixT (.of ht) (atI_nat (j := 0) rfl))) (.of hli)) (by rw [List.length_map])) ea_nil) (by omega) (fun _ => rfl) fun i hi => ?_).imp fun v H2 _ ⟨p, a1, a2, a3⟩ => ⟨p, a1, a2, by rw [a3]; unfold rowB; rw [List.map_map]; rfl⟩)) fun v H1 e1 ⟨lw, ev, hlw⟩ => ?_
  · have i6 : i < 6 := by omega
    obtain ⟨z, hz, hz2, hz0, hz1⟩ : ∃ z : Int, ([.int 1, .int 2, .int 4, .int 8, .int 16, .int 32] : List V)[i]? = some (.int z) ∧ z = 2 ^ i ∧ 0 < z ∧ z < 1073741824 := by
      match i, i6 with
      | 0, _ => exact ⟨1, rfl, rfl, by decide, by decide⟩
      | 1, _ => exact ⟨2, rfl, rfl, by decide, by decide⟩
      | 2, _ => exact ⟨4, rfl, rfl, by decide, by decide⟩
      | 3, _ => exact ⟨8, rfl, rfl, by decide, by decide⟩
      | 4, _ => exact ⟨16, rfl, rfl, by decide, by decide⟩
      | 5, _ => exact ⟨32, rfl, rfl, by decide, by decide⟩
    refine ev_is (ev_op (ev_op (ev_op (ev_var rfl) (ev_ixLit (ea_cons ev_c (ea_cons ev_c (ea_cons ev_c (ea_cons ev_c (ea_cons ev_c (ea_cons ev_c ea_nil)))))) (ev_var rfl) hz (by show 6 ≤ 100000; decide)) (rv_I ⟨hz0, hz1⟩)) ev_c (rv_I (by decide))) ev_c (rv_eq rfl)) ?_
    rw [hz2]
    simp only [V.int.injEq]
  subst ev
  generalize hβs : rowB M.ins.length mx = βs at hbl hlw
  have hnum := bitsN_range βs
  have hrow : RowOk M (bitsN βs) := ⟨hnum.1, by rw [← hbl]; exact hnum.2⟩
  have hback : rowB M.ins.length (bitsN βs) = βs := by rw [← hbl]; exact rowB_bits βs
  refine ss_asg (v := .int (bitsN βs)) (ev_lbits T (fun H2 e2 Q' q' => ⟨.ref lw, rfl, q' _ _ (.refl _) ⟨true, lw, rfl, .of (e2 _ _ hlw)⟩⟩) (by omega)) ?_
  -- by the wired one
  have step3 : stepV M (nuOf M (stateN M ν)) (rowB M.ins.length (bitsN βs)) = stepV M ν βs := by rw [hnu, hback]
  have hw1 := hw.ex e1
  refine ss_asgR (R := fun v H2 => ∃ p, v = .ref p ∧ H2 p = some (.tup (stepV M ν βs))) ?_ fun v H2 e2 ⟨pf, ev, hpf⟩ => ?_
  · obtain ⟨cl, c, w1, w2, w3, w4⟩ := hw1
    intro F f Q' q'
    have cl1 : CloAt F g (Fs cl c) (sws S) := w3.kp (.of f)
    refine ⟨g, Fs cl c, ["state", "number"], spStp K m, sws S, rfl, stp_ok T m cl c w1 w2, cl1, .int (stateN M ν), rfl, .int (bitsN βs), rfl, cl1, ⟨S, M, stateN M ν, bitsN βs⟩, rfl, ⟨rfl, w4.ex (hid_ex f)⟩, fun _ _ v F2 f2 ⟨p, a1, a2, a3⟩ hno => q' v _ (unh_ex f2) ⟨p, a1, ?_⟩, fun z => absurd hgood z, fun _ z => absurd hrow z⟩
    have np : p ∉ (Fs cl c).cells := fun z => by rw [hno p z] at a3; cases a3
    rw [unh_out np, a3]
    exact congrArg (fun z => some (HO.tup z)) step3
  subst ev
  have e12 := e1.trans e2
  -- step tells the same
  have estep : ∀ {σ : L2.St} {F : Hp} {E : L2.St → XK} , LadderAt K F (m + 1) la M → σ[1]? = some (some (.ref la)) → σ[5]? = some (some (.int (stateN M ν))) → σ[7]? = some (some (.int (bitsN βs))) → EvR (tFn (Cal PG w K mg base (m + 5) "step") E (tCons (tVar 1) (tCons (tVar 5) (tCons (tVar 7) tNil)))) σ F (fun v H2 => ∃ p, v = .ref p ∧ H2 p = some (.tup (stepV M ν βs))) := fun hLF h1 h5 h7 F1 f1 Q' q' => ⟨.ref la, h1, .int (stateN M ν), h5, .int (bitsN βs), h7, spStep K m, c_step T m, ⟨⟨⟨m + 1, la, M⟩, stateN M ν⟩, bitsN βs⟩, rfl, ⟨hLF.im (.of f1), ok⟩, fun _ _ v F2 f2 ⟨p, a1, _, a3⟩ => q' v F2 f2 ⟨p, a1, by rw [a3]; exact congrArg (fun z => some (HO.tup z)) step3⟩, fun z => absurd hgood z, fun _ z => absurd hrow z⟩
  have efound : ∀ {σ : L2.St} {F : Hp}, F pf = some (.tup (stepV M ν βs)) → σ[8]? = some (some (.ref pf)) → EvR (tVar 8) σ F (fun v H2 => ∃ p, v = .ref p ∧ H2 p = some (.tup (stepV M ν βs))) := fun hF h8 F1 f1 Q' q' => ⟨.ref pf, h8, q' _ _ (.refl _) ⟨pf, rfl, f1 _ _ hF⟩⟩
  have hL2 : LadderAt K H2 (m + 1) la M := hL.im (.of e12)
  refine ss_when (b := decide (V.int (mx / 16 % 2) = V.int 0) && false) (et_and (et_test (ev_op (ev_op (ev_op (ev_var rfl) ev_c (rv_I ⟨by decide, by decide⟩)) ev_c (rv_I (by decide))) ev_c (rv_eq rfl))) fun _ => et_test (ev_diff3 (estep hL2 rfl rfl rfl) fun F f => efound (f _ _ hpf) rfl)) (fun hb => by rw [Bool.and_false] at hb; cases hb) fun _ => ?_
  -- works scan
  have hW2 := WRaw.ex hW e12
  obtain ⟨dx, hobj⟩ := hW2.obj
  have key : ∀ (D : Ends) (tz : TS), (∀ F, Mo W.dd H2 F → WorksAt K F (m + 1) W M (rowF M.ins βs) (scan M (rowF M.ins βs) ν).1 → SS tz D [some (.ref t), some (.ref la), some (.ref g), some (.ref W.a), some (.int mx), some (.int (stateN M ν)), some (.ref lw), some (.int (bitsN βs)), some (.ref pf), some (.int (bitsN (scan M (rowF M.ins βs) ν).2)), none] F) → ∀ {E : L2.St → XK} {E2 : L2.St → XK}, SS (tSeq (tAsg (tFn (Cal PG w K mg base (m + 5) "_law_bits") E (tCons (tMe (Met PG w K mg base (m + 5)) "scan" E2 (tVar 3) (tCons (tVar 6) tNil)) tNil)) (gName 9)) tz) D [some (.ref t), some (.ref la), some (.ref g), some (.ref W.a), some (.int mx), some (.int (stateN M ν)), some (.ref lw), some (.int (bitsN βs)), some (.ref pf), none, none] H2 := by
    intro D tz kk E E2 F f
    refine ⟨.ref W.a, rfl, W.a, He.ga K "Works", dx, wfs W, spScan K m, rfl, f _ _ hobj, (by rfl), (m_scan T m).mono (by omega), .ref lw, rfl, ⟨m + 1, W, M, βi, ν, true, lw, βs⟩, rfl, ⟨WRaw.ex hW2 f, ok, hst.ok, .of ((e2.trans f) _ _ hlw), hbl⟩, fun v G mo hWG nt => ?_⟩
    obtain ⟨p, ev, _, hp⟩ := nt
    subst ev
    refine ⟨spLBits K, (c_law_bits T).mono (by omega), ⟨false, p, (scan M (rowF M.ins βs) ν).2⟩, rfl, ⟨.of hp, by show (scan M (rowF M.ins βs) ν).2.length ≤ 1000; rw [scan_len]; omega⟩, fun v G2 g2 ev => ?_⟩
    have ev : v = .int (bitsN (scan M (rowF M.ins βs) ν).2) := ev
    subst ev
    exact (kk G2 (((Mo.of f).trans mo).trans (.of g2)) (WRaw.ex hWG g2)).here
  refine key _ _ fun F mo hWF => ?_
  have st2 : StOk M (scan M (rowF M.ins βs) ν).1 := scanL_st ok (fun _ h => h) hst
  have hpfF : F pf = some (.tup (stepV M ν βs)) := mo _ _ hpf fun z => by
    obtain ⟨kvs, hk⟩ := hW2.there _ z
    rw [hpf] at hk; cases hk
  have hLF : LadderAt K F (m + 1) la M := hL2.im (Ip.im (mo.im hW2.dicts))
  have hWF : WRaw K F (m + 1) W M (fun x => .bl (img M (rowF M.ins βs) (scan M (rowF M.ins βs) ν).1 x)) (fun x => .int ((scan M (rowF M.ins βs) ν).1 x % 16)) (fun x => .bl (decide ((scan M (rowF M.ins βs) ν).1 x / 16 = 1))) := hWF
  obtain ⟨dx2, hobj2⟩ := hWF.obj
  refine ss_when (b := false) (et_test (ev_diff3 (efound hpfF rfl) fun G g1 => (er_tupV (vs := stepV M ν βs) (ea_cons (ev_fnV (ea_cons (ev_var rfl) ea_nil) ((c_state_of T).mono (by omega)) (spP_r ⟨m + 1, W, M, rowF M.ins βs, _⟩ rfl (fun G2 g2 => ⟨WRaw.ex hWF (g1.trans g2), ok, st2⟩) fun _ _ _ _ _ r => r)) (ea_cons (ev_lbits T ((er_meV (R := fun v G2 => NewT G ((M.outs.map fun x => bit M.rungs (scan M (rowF M.ins βs) ν).1 x).map V.bl) v G2) (ev_var rfl) (g1 _ _ hobj2) (by rfl) ((m_answers T).mono (by omega)) ea_nil (spP_r ⟨m + 1, W, M, rowF M.ins βs, _⟩ rfl (fun G2 g2 => ⟨WRaw.ex hWF (g1.trans g2), ok⟩) fun _ v _ e1 _ ⟨p, a1, a2, a3⟩ => ⟨p, a1, fresh_back e1 a2, a3⟩)).imp fun v G2 _ ⟨p, a1, _, a3⟩ => ⟨false, p, a1, .of a3⟩) (by rw [List.length_map]; omega)) (ea_cons (ev_var rfl) ea_nil))) (by show 3 ≤ 100000; decide)).imp fun v G2 _ ⟨p, a1, _, a3⟩ => ⟨p, a1, a3⟩)) (fun z => nomatch z) fun _ => ?_
  exact ss_ret (ev_same3 (estep hLF rfl rfl rfl) fun G g => efound (g _ _ hpfF) rfl) fun G g => hQ G _ _ (((Mo.of e12).trans mo).trans (.of g)) (WRaw.ex hWF g) st2
end
end RgK
set_option Elab.async false
set_option linter.all false
set_option maxRecDepth 100000
set_option maxHeartbeats 4000000

/-! The law. -/
namespace RgK
open PySem PySem.Spec PyProof.Rows L2 Evl
local macro_rules | `(tactic| walk_at "ev") => `(tactic| repeat' (first
  | with_reducible exact ev_c
  | with_reducible exact ea_nil
  | ((with_reducible apply ev_var); first | rfl | assumption)
  | with_reducible apply ea_cons
  | with_reducible apply ev_fld
  | ((with_reducible show Fld _ _ _ _ _); assumption)
  | with_reducible exact rv_I0
  | with_reducible exact ru_neg
  | with_reducible exact rv_eq rfl
  | with_reducible exact rv_ne rfl
  | ((with_reducible apply rv_I); first | decide | omega | assumption)
  | ((with_reducible show _ = _ → EvT _ _ _ _); intro _)
  | ((with_reducible show _ = _ → Ev _ _ _ _); intro _)
  | with_reducible apply et_and
  | with_reducible apply et_or
  | with_reducible apply ev_andV
  | with_reducible apply ev_orV
  | with_reducible apply et_test
  | with_reducible apply et_B
  | with_reducible apply et_not
  | with_reducible apply ev_notV
  | with_reducible apply ev_un
  | with_reducible apply ev_op))

structure Mac where
  v : V
  M : Ldr
  la : Addr
  g : Addr
  S : SAd
  W : WA
structure MacAt (K : PySem.W.Frag) (F : Hp) (c : Mac) : Prop where
  mod : ModelAt F 12 c.v c.M
  lad : LadderAt K F 12 c.la c.M
  wir : WiredAt K 11 F c.g c.M c.S
  wks : ∃ β ν, WorksAt K F 12 c.W c.M β ν ∧ StOk c.M ν
section
variable {K : PySem.W.Frag} {H H' : Hp} {ds : List Addr}
theorem WRaw.mo {n : Nat} {W : WA} {M : Ldr} {fb fc fz : Str → V} (h : WRaw K H n W M fb fc fz) (mo : Mo ds H H') (hd : ∀ d ∈ ds, ∃ kvs, H d = some (.dK kvs)) (nW : ∀ d ∈ W.dd, d ∉ ds) : WRaw K H' n W M fb fc fz := by
  have ip : Ip H H' := mo.it fun d hd' o e => by
    obtain ⟨kvs, hk⟩ := hd d hd'
    rw [hk] at e; cases e; rfl
  obtain ⟨dx, ho⟩ := h.obj
  exact ⟨⟨dx, ip _ _ ho rfl⟩, h.lad.im ip, mo _ _ h.bits (nW _ (by simp)), mo _ _ h.cnt (nW _ (by simp)), mo _ _ h.seen (nW _ (by simp)), h.n1, h.n2, h.n3⟩
theorem MacAt.mo {c : Mac} (h : MacAt K H c) (mo : Mo ds H H') (hd : ∀ d ∈ ds, ∃ kvs, H d = some (.dK kvs)) (nS : c.S.ds ∉ ds) (nW : ∀ d ∈ c.W.dd, d ∉ ds) : MacAt K H' c := by
  have im : Im H H' := mo.im fun d hd' o e => by
    obtain ⟨kvs, hk⟩ := hd d hd'
    rw [hk] at e; cases e; rfl
  obtain ⟨β, ν, hw, st⟩ := h.wks
  exact ⟨h.mod.im im, h.lad.im (.im im), h.wir.mo mo (fun d hd' o e => by
    obtain ⟨kvs, hk⟩ := hd d hd'
    rw [hk] at e; cases e; rfl) nS, β, ν, WRaw.mo hw mo hd nW, st⟩
theorem MacAt.ex {c : Mac} (h : MacAt K H c) (e : Ex H H') : MacAt K H' c := h.mo (ds := []) (.of e) (fun _ z => by cases z) (fun z => by cases z) fun _ _ z => by cases z
/-- the step behind which the others stand: all but a machine's own dicts is kept -/
theorem MacAt.own {c : Mac} {β : Str → Bool} {ν : Nu} (h : MacAt K H c) (mo : Mo c.W.dd H H') (hw : WorksAt K H' 12 c.W c.M β ν) (st : StOk c.M ν) (nS : c.S.ds ∉ c.W.dd) : MacAt K H' c := by
  obtain ⟨β0, ν0, hw0, _⟩ := h.wks
  have hd := WRaw.there hw0
  have im : Im H H' := mo.im (WRaw.dicts hw0)
  exact ⟨h.mod.im im, h.lad.im (.im im), h.wir.mo mo (fun d hd' o e => by
    obtain ⟨kvs, hk⟩ := hd d hd'
    rw [hk] at e; cases e; rfl) nS, β, ν, hw, st⟩
theorem WiredAt.tb {m : Nat} {g : Addr} {M : Ldr} {S : SAd} (q : WiredAt K m H g M S) (t : Tbs K H) (mo : Mo (tAll K) H H') : WiredAt K m H' g M S := q.kp (t.kp mo) fun o e => t.at mo e (by
  intro ps z
  rw [q.ds] at e
  cases e
  cases z)
end
structure LawSt (K : PySem.W.Frag) (F : Hp) (lm ll lw lk : Addr) (cs : List Mac) : Prop where
  hm : F lm = some (.lst (cs.map (·.v)))
  hl : F ll = some (.lst (cs.map fun c => .ref c.la))
  hw : F lw = some (.lst (cs.map fun c => .ref c.g))
  hk : F lk = some (.lst (cs.map fun c => .ref c.W.a))
  mac : ∀ (j : Nat) (c : Mac), cs[j]? = some c → MacAt K F c
structure LawFx (cs : List Mac) : Prop where
  two : cs.length = 2
  dis : ∀ (i j : Nat) (ci cj : Mac), cs[i]? = some ci → cs[j]? = some cj → i ≠ j → ∀ d ∈ ci.W.dd, d ∉ cj.W.dd
  dsn : ∀ (i j : Nat) (ci cj : Mac), cs[i]? = some ci → cs[j]? = some cj → ci.S.ds ∉ cj.W.dd
section
variable {K : PySem.W.Frag} {F F' : Hp} {lm ll lw lk : Addr} {cs : List Mac}
theorem LawSt.ex (h : LawSt K F lm ll lw lk cs) (e : Ex F F') : LawSt K F' lm ll lw lk cs := ⟨e _ _ h.hm, e _ _ h.hl, e _ _ h.hw, e _ _ h.hk, fun j c hc => (h.mac j c hc).ex e⟩
theorem LawSt.step (h : LawSt K F lm ll lw lk cs) (fx : LawFx cs) {j : Nat} {c : Mac} {β : Str → Bool} {ν : Nu} (hc : cs[j]? = some c) (mo : Mo c.W.dd F F') (hw : WorksAt K F' 12 c.W c.M β ν) (st : StOk c.M ν) : LawSt K F' lm ll lw lk cs := by
  obtain ⟨β0, ν0, hw0, _⟩ := (h.mac j c hc).wks
  have hd := WRaw.there hw0
  have im : Im F F' := mo.im (WRaw.dicts hw0)
  refine ⟨im _ _ h.hm rfl, im _ _ h.hl rfl, im _ _ h.hw rfl, im _ _ h.hk rfl, fun i c' hc' => ?_⟩
  by_cases e : i = j
  · subst e
    rw [hc] at hc'
    cases hc'
    exact (h.mac i c hc).own mo hw st (fx.dsn i i c c hc hc)
  · exact (h.mac i c' hc').mo mo hd (fx.dsn i j c' c hc' hc) (fx.dis i j c' c hc' hc e)
end
theorem paired2 {α β : Type} {G : α → β → Prop} {l : List α} {a b : β} (h : Paired G l [a, b]) : ∃ x y, l = [x, y] ∧ G x a ∧ G y b := by
  cases h with
  | cons g r =>
    cases r with
    | cons g2 r =>
      cases r
      exact ⟨_, _, rfl, g, g2⟩
theorem good0 {M : Ldr} (ok : LdrOk M) : Good M 0 := by
  refine ⟨Int.le_refl _, pow_pos' _, fun x hx e he => ?_⟩
  obtain ⟨i, hi⟩ := List.mem_iff_getElem?.mp hx
  have h0 : nuOf M 0 x = 0 := by
    have := decL_at (w := wd M.rungs) (s := 0) (namesOf_nodup M.rungs) hi
    rw [Int.zero_ediv, Int.zero_emod] at this
    exact this
  rw [h0]
  obtain ⟨_, _, r, hr, rfl⟩ := cEnd_some he
  have := (ok.ends r hr).m1
  omega
theorem ints_cut (ns : List Int) (lo hi : Option Int) : ∃ zs : List Int, cutV (ns.map V.int) lo hi = zs.map V.int := by
  unfold cutV
  exact ⟨_, by rw [← List.map_drop, ← List.map_take]⟩
section
variable {K : PySem.W.Frag} {σ : L2.St} {H : Hp} {te : TE} {tu tz : TS} {D : Ends}
theorem ss_notB {P : Hp → Hp → Prop} (h : ∀ H1, Ex H H1 → ∀ Q : VK, (∀ H2, P H1 H2 → Q (.bl true) H2) → te σ H1 Q) (k : ∀ H1 H2, Ex H H1 → P H1 H2 → SS tz D σ H2) : SS (tSeq (tIfS (tNot (tB te)) tu tNext) tz) D σ H :=
  fun H1 e1 => h H1 e1 _ fun H2 p => ⟨true, rfl, by
    show if (!true) = true then _ else _
    rw [if_neg (by decide)]
    exact (k H1 H2 e1 p).here⟩
end
section
variable {w : World} {K : PySem.W.Frag} {mg : Mg} {base : Heap}
def spLaw (K : PySem.W.Frag) : Sp := fun vs H Q _ => ∃ i : Addr × List Int, vs = [.ref i.1] ∧ (SqL K H i.1 (i.2.map V.int) ∧ Tbs K H ∧ i.2.length ≤ 63) ∧ ∀ H2, Q (.bl true) H2
theorem law_ok (T : Tx w K mg base) (B : Tb K mg base) {fd : FuncData} (F : FunD K "law" "law" (defArgs s_law) (defBody s_law) (defScope s_law) [] [] (He.ga K "law") fd) : FnOk PG w K mg base (L2.CX PG w) 36 (He.ga K "law") fd ["_law_script"] (spLaw K) := by
  refine F.ok (N := ["_law_script", "_law_models", "_law_ladders", "_law_wires", "_law_works", "_law_cell", "_law_mix", "_law_at", "_law_far_here", "_law_many", "_law_name", "_law_wrong", "_law_ladder_here", "_law_model_here"]) (C8.fnScope_by (by decide +kernel)) (fun vs H Q E ⟨_, e, _⟩ => by rw [e]; rfl) ?_
  rintro cdv A outer s H vs Q E hr ⟨⟨a, ns⟩, rfl, ⟨ha0, hT0, hn0⟩, hQ⟩
  have ha : SqL K H a (ns.map V.int) := ha0
  have hT : Tbs K H := hT0
  have hn : ns.length ≤ 63 := hn0
  clear ha0 hT0 hn0
  have nd : (["_law_script", "_law_models", "_law_ladders", "_law_wires", "_law_works", "_law_cell", "_law_mix", "_law_at", "_law_far_here", "_law_many", "_law_name", "_law_wrong", "_law_ladder_here", "_law_model_here"] : List Str).Nodup := by decide +kernel
  refine ⟨_, 
    (pss_cons (ps_set (i := 1) nd rfl (Or.inl rfl) (pe_lst (pa_cons (pe_fn T hr (by rfl) T.g_law_model pass0 T.kp_law_model (pa_cons (pv 0) (pa_cons pe_int pa_nil))) (pa_cons (pe_fn T hr (by rfl) T.g_law_model pass0 T.kp_law_model (pa_cons (pv 0) (pa_cons pe_int pa_nil))) pa_nil)))) 
    (pss_cons (ps_setLc (i := 2) (own := [("_law_model_here", 13)]) (g := gName 13) (tt := tYes) rfl nd rfl rfl (sw_true rfl rfl rfl (by decide +kernel)) (pi_seq (pv 1)) (blkOk_by (N := ["_law_script", "_law_models", "_law_ladders", "_law_wires", "_law_works", "_law_cell", "_law_mix", "_law_at", "_law_far_here", "_law_many", "_law_name", "_law_wrong", "_law_ladder_here", "_law_model_here"]) (sc := defScope s_law) (own := [("_law_model_here", 13)]) (by decide +kernel)) (fun _ _ _ _ _ => (pg_name (i := 13) nd rfl (Or.inl rfl))) (fun _ _ _ _ _ => pts_nil) (fun _ _ _ _ _ => pe_hide (pe_fn T hr (by rfl) T.g_law_ladder pass0 T.kp_law_ladder (pa_cons (pv 13) pa_nil)))) 
    (pss_cons (ps_setLc (i := 3) (own := [("_law_ladder_here", 12)]) (g := gName 12) (tt := tYes) rfl nd rfl rfl (sw_true rfl rfl rfl (by decide +kernel)) (pi_seq (pv 2)) (blkOk_by (N := ["_law_script", "_law_models", "_law_ladders", "_law_wires", "_law_works", "_law_cell", "_law_mix", "_law_at", "_law_far_here", "_law_many", "_law_name", "_law_wrong", "_law_ladder_here", "_law_model_here"]) (sc := defScope s_law) (own := [("_law_ladder_here", 12)]) (by decide +kernel)) (fun _ _ _ _ _ => (pg_name (i := 12) nd rfl (Or.inl rfl))) (fun _ _ _ _ _ => pts_nil) (fun _ _ _ _ _ => pe_hide (pe_fn T hr (by rfl) T.g_wired_ladder pass0 T.kp_wired_ladder (pa_cons (pv 12) pa_nil)))) 
    (pss_cons (ps_setLc (i := 4) (own := [("_law_ladder_here", 12)]) (g := gName 12) (tt := tYes) rfl nd rfl rfl (sw_true rfl rfl rfl (by decide +kernel)) (pi_seq (pv 2)) (blkOk_by (N := ["_law_script", "_law_models", "_law_ladders", "_law_wires", "_law_works", "_law_cell", "_law_mix", "_law_at", "_law_far_here", "_law_many", "_law_name", "_law_wrong", "_law_ladder_here", "_law_model_here"]) (sc := defScope s_law) (own := [("_law_ladder_here", 12)]) (by decide +kernel)) (fun _ _ _ _ _ => (pg_name (i := 12) nd rfl (Or.inl rfl))) (fun _ _ _ _ _ => pts_nil) (fun _ _ _ _ _ => pe_hide (pe_mk T hr T.k_Works (by rfl) T.g_Works (pa_cons (pv 12) pa_nil)))) 
    (pss_cons (ps_for (passes_of rfl) rfl (pi_seq (pe_op op_cat (pe_slice sl_list (pv 0) (po_some pe_int) (po_some pe_int)) (pe_slice sl_list (pv 0) po_none (po_some pe_int)))) (pg_name (i := 5) nd rfl (Or.inl rfl)) 
    (pss_cons (ps_set (i := 6) nd rfl (Or.inl rfl) (pe_fn T hr (by rfl) T.g_law_mixed pass0 T.kp_law_mixed (pa_cons (pv 5) (pa_cons pe_int pa_nil)))) 
    (pss_cons (ps_set (i := 7) nd rfl (Or.inl rfl) (pe_op op_mod (pv 6) pe_int)) 
    (pss_cons (ps_set (i := 8) nd rfl (Or.inl rfl) (pe_fn T hr (by rfl) T.g_law_far pass0 T.kp_law_far (pa_cons (pe_ix (ix_lT T) (pv 1) (pv 7) (fun _ _ => rfl)) (pa_cons (pe_fn T hr (by rfl) T.g_width pass0 T.kp_width (pa_cons (pe_ix (ix_lT T) (pv 2) (pv 7) (fun _ _ => rfl)) pa_nil)) (pa_cons (pe_op op_fdiv (pv 6) pe_int) pa_nil))))) 
    (pss_cons (ps_set (i := 9) nd rfl (Or.inl rfl) pe_int) 
    (pss_cons (ps_for (passes_of rfl) rfl (pi_seq (pe_ix (ix_tT T) (pe_ix (ix_lT T) (pv 1) (pv 7) (fun _ _ => rfl)) pe_int (fun _ _ => rfl))) (pg_name (i := 10) nd rfl (Or.inl rfl)) 
    (pss_cons (ps_set (i := 9) nd rfl (Or.inl rfl) (pe_op op_mul (pv 9) pe_int)) pss_nil)) 
    (pss_cons (ps_if (pt_cmpR op_eq (pe_op op_mod (pe_op op_fdiv (pv 6) pe_int) pe_int) pe_int (nomark _)) 
    (pss_cons (ps_set (i := 11) nd rfl (Or.inl rfl) (pe_ix (ix_lT T) (pe_lst (pa_cons (pe_op op_sub (pe_un un_neg pe_int) (pe_op op_mod (pe_op op_fdiv (pv 6) pe_int) pe_int)) (pa_cons (pe_op op_add (pv 9) (pe_op op_mod (pe_op op_fdiv (pv 6) pe_int) pe_int)) pa_nil))) (pe_op op_mod (pe_op op_fdiv (pv 6) pe_int) pe_int) (fun _ _ => rfl))) 
    (pss_cons (ps_for (passes_of rfl) rfl (pi_seq (pe_lst (pa_cons pe_non (pa_cons (pe_ix (ix_lT T) (pv 2) (pv 7) (fun _ _ => rfl)) pa_nil)))) (pg_name (i := 12) nd rfl (Or.inl rfl)) 
    (pss_cons (ps_if (pt_cmpR op_ne (pe_fn T hr (by rfl) T.g_law_told pass0 T.kp_law_told (pa_cons (pe_ix (ix_lT T) (pv 3) (pv 7) (fun _ _ => rfl)) (pa_cons (pv 12) (pa_cons (pv 8) (pa_cons (pe_ix (ix_lT T) (pe_lst (pa_cons pe_int (pa_cons (pe_un un_neg pe_int) (pa_cons (pv 9) pa_nil)))) (pe_op op_mod (pe_op op_fdiv (pv 6) pe_int) pe_int) (fun _ _ => rfl)) pa_nil))))) pe_str (nomark _)) 
    (pss_cons (ps_ret pe_bl) pss_nil) pss_nil) 
    (pss_cons (ps_if (pt_cmpR op_ne (pe_fn T hr (by rfl) T.g_law_told pass0 T.kp_law_told (pa_cons (pe_ix (ix_lT T) (pv 3) (pv 7) (fun _ _ => rfl)) (pa_cons (pv 12) (pa_cons pe_int (pa_cons (pv 11) pa_nil))))) pe_str (nomark _)) 
    (pss_cons (ps_ret pe_bl) pss_nil) pss_nil) pss_nil))) pss_nil)) pss_nil) 
    (pss_cons (ps_if (pt_not (pt_val (pe_fn T hr (by rfl) T.g_law_step pass0 T.kp_law_step (pa_cons (pe_ix (ix_lT T) (pv 1) (pv 7) (fun _ _ => rfl)) (pa_cons (pe_ix (ix_lT T) (pv 2) (pv 7) (fun _ _ => rfl)) (pa_cons (pe_ix (ix_lT T) (pv 3) (pv 7) (fun _ _ => rfl)) (pa_cons (pe_ix (ix_lT T) (pv 4) (pv 7) (fun _ _ => rfl)) (pa_cons (pe_op op_fdiv (pv 6) pe_int) pa_nil)))))))) 
    (pss_cons (ps_ret pe_bl) pss_nil) pss_nil) pss_nil)))))))) 
    (pss_cons (ps_ret pe_bl) pss_nil)))))), SS.here ?_⟩
  change SS _ _ [some (.ref a), none, none, none, none, none, none, none, none, none, none, none, none, none] H
  -- the models
  refine ss_asgR (R := fun v F => ∃ lm v0 v1 M0 M1, v = .ref lm ∧ F lm = some (.lst [v0, v1]) ∧ (ModelAt F 12 v0 M0 ∧ LdrOk M0) ∧ (ModelAt F 12 v1 M1 ∧ LdrOk M1)) ((er_lst (R := fun vs F => ∃ v0 v1 M0 M1, vs = [v0, v1] ∧ (ModelAt F 12 v0 M0 ∧ LdrOk M0) ∧ (ModelAt F 12 v1 M1 ∧ LdrOk M1))
    (ar_cons (er_fnV (R := fun v F => ∃ M, ModelAt F 12 v M ∧ LdrOk M) (ea_cons (ev_var rfl) (ea_cons ev_c ea_nil)) (c_model T) (spP_r ⟨a, ns, 0⟩ rfl (fun F f => ex_l f ha) fun _ _ _ _ _ r => r)) fun x F1 f1 ⟨M0, m0, ok0⟩ => ar_cons (er_fnV (R := fun v F => ∃ M, ModelAt F 12 v M ∧ LdrOk M) (ea_cons (ev_var rfl) (ea_cons ev_c ea_nil)) (c_model T) (spP_r ⟨a, ns, 20⟩ rfl (fun F f => ex_l (f1.trans f) ha) fun _ _ _ _ _ r => r)) fun y F2 f2 ⟨M1, m1, ok1⟩ => fun F3 f3 Q' q' => q' [] F3 (.refl _) ⟨x, y, M0, M1, rfl, ⟨m0.ex (f2.trans f3), ok0⟩, m1.ex f3, ok1⟩)
    fun vs F ⟨_, _, _, _, e, _⟩ => by rw [e]; show 2 ≤ 100000; decide).imp fun v F _ ⟨p, vs, p1, _, p3, F5, f5, v0, v1, M0, M1, p4, ⟨p5, p6⟩, p7, p8⟩ => ⟨p, v0, v1, M0, M1, p1, by rw [p3, p4], ⟨p5.ex f5, p6⟩, p7.ex f5, p8⟩) fun v H1 e1 ⟨lm, v0, v1, M0, M1, ev, hlm, ⟨hm0, ok0⟩, hm1, ok1⟩ => ?_
  subst ev
  have pM : Paired (fun v M => ModelAt H1 12 v M ∧ LdrOk M) [v0, v1] [M0, M1] := .cons ⟨hm0, ok0⟩ (.cons ⟨hm1, ok1⟩ .nil)
  -- the ladders
  refine ss_asgR (R := fun v F => ∃ ll la0 la1, v = .ref ll ∧ F ll = some (.lst [.ref la0, .ref la1]) ∧ LadderAt K F 12 la0 M0 ∧ LadderAt K F 12 la1 M1) (er_lcSq (k := true) (ev_var rfl) (.of hlm) (by show 2 ≤ 50000; decide) (fun _ => rfl) (fun i acc F => ∃ las : List Addr, acc = las.map V.ref ∧ Paired (fun la M => LadderAt K F 12 la M) las ([M0, M1].take i)) (fun i acc F F' ⟨las, p1, p2⟩ e => ⟨las, p1, L2.Paired.mapP p2 fun _ _ q => q.im (.of e)⟩) ⟨[], rfl, .nil⟩ (fun i acc F x hx f ⟨las, p1, p2⟩ => ?_) fun p acc F _ _ hp ⟨las, p1, p2⟩ => ?_) fun v H2 e2 ⟨ll, la0, la1, ev, hll, hla0, hla1⟩ => ?_
  · obtain ⟨M, hMi, hM, okM⟩ := paired_get pM hx
    refine ⟨true, fun H1 _ Q q => q H1 (.refl _), (fun z => nomatch z), fun _ => ⟨fun v F2 => ∃ la, v = .ref la ∧ LadderAt K F2 12 la M, er_fnV (ea_cons (ev_var rfl) ea_nil) ((c_law_ladder T 12 (by decide)).mono (by decide)) (spP_r (x, M) rfl (fun G g => ⟨hM.ex (f.trans g), okM⟩) fun _ v G _ _ r => r), fun y F2 f2 ⟨la, ey, hla⟩ => ⟨las ++ [la], by rw [p1, ey, List.map_append]; rfl, ?_⟩⟩⟩
    rw [take_snoc hMi]
    exact paired_snoc (G := fun la M => LadderAt K F2 12 la M) hla (L2.Paired.mapP p2 fun _ _ q => q.im (.of f2))
  · obtain ⟨x, y, rfl, g1, g2⟩ := paired2 p2
    exact ⟨p, x, y, rfl, by rw [hp, p1]; rfl, g1, g2⟩
  subst ev
  have hlm2 := e2 _ _ hlm
  have hm02 := hm0.ex e2
  have hm12 := hm1.ex e2
  have hT2 := hT.ex (e1.trans e2)
  have pL : Paired (fun (la : Addr) M => LadderAt K H2 12 la M ∧ LdrOk M) [la0, la1] [M0, M1] := .cons ⟨hla0, ok0⟩ (.cons ⟨hla1, ok1⟩ .nil)
  -- the wired ones
  refine ss_asgLcM (k := true) (xs := [la0, la1].map V.ref) (ev_var rfl) (.of hll) (by show 2 ≤ 50000; decide) (fun _ => rfl) (fun i acc F => Mo (tAll K) H2 F ∧ Tbs K F ∧ ∃ gs : List (Addr × SAd), acc = gs.map (fun p => V.ref p.1) ∧ Paired (fun (p : Addr × SAd) M => WiredAt K 11 F p.1 M p.2) gs ([M0, M1].take i))
    (fun i acc F F' ⟨q1, q2, gs, q3, q4⟩ e => ⟨q1.trans (.of e), q2.ex e, gs, q3, L2.Paired.mapP q4 fun _ _ q => q.ex e⟩) ⟨.of (.refl _), hT2, [], rfl, .nil⟩ (fun i acc F ⟨q1, _⟩ => .of (hT2.at q1 hll (by intro ps z; cases z))) (fun i acc F x hx ⟨q1, q2, gs, q3, q4⟩ Q' q' => ?_) (fun lw acc H3' hlw hlen ⟨q1, q2, gs, q3, q4⟩ => ?_)
  · obtain ⟨la, M, rfl, hMi, hLa, okM⟩ := paired_at pL hx
    refine ⟨.ref la, rfl, spWL K 11, (c_wired_ladder T B 11).mono (by decide), (la, M), rfl, ⟨hLa.im (hT2.kp q1).ip, okM, q2⟩, fun v F2 b1 b2 ⟨g, S, b3, b4, b5⟩ => q' v F2 ⟨q1.trans b1, b2, gs ++ [(g, S)], by rw [q3, b3, List.map_append]; rfl, ?_⟩⟩
    rw [take_snoc hMi]
    exact paired_snoc (G := fun (p : Addr × SAd) M => WiredAt K 11 F2 p.1 M p.2) b4 (L2.Paired.mapP q4 fun _ _ q => q.tb q2 b1)
  obtain ⟨⟨g0, S0⟩, ⟨g1, S1⟩, rfl, hg0, hg1⟩ := paired2 q4
  have eL : Ex (wo lw H3') H3' := wo_ex
  have mo3 : Mo (tAll K) H2 H3' := q1.trans (.of eL)
  have hg0 : WiredAt K 11 H3' g0 M0 S0 := WiredAt.ex hg0 eL
  have hg1 : WiredAt K 11 H3' g1 M1 S1 := WiredAt.ex hg1 eL
  rw [q3] at hlw
  have hlw : H3' lw = some (.lst [.ref g0, .ref g1]) := hlw
  have kp3 := hT2.kp mo3
  have hlm3 := kp3 _ _ hlm2 rfl
  have hll3 := kp3 _ _ hll rfl
  have im3 : Ip H2 H3' := kp3.ip
  have mod3 : ∀ {v : V} {M : Ldr}, ModelAt H2 12 v M → ModelAt H3' 12 v M := fun ⟨t, li, lo, lr, rts, p0, p1, p2, p3, p4, p5⟩ => ⟨t, li, lo, lr, rts, p0, kp3 _ _ p1 rfl, kp3 _ _ p2 rfl, kp3 _ _ p3 rfl, kp3 _ _ p4 rfl, L2.Paired.mapP p5 fun _ _ q => q.im im3⟩
  have hm03 := mod3 hm02
  have hm13 := mod3 hm12
  have hl03 := hla0.im im3
  have hl13 := hla1.im im3
  have ha3 : ∃ o, True := ⟨0, trivial⟩
  have hsc : SqL K H3' a (ns.map V.int) := by
    rcases ex_l (e1.trans e2) ha with (h | ⟨o, h⟩) | h
    · exact .inl (.inl (kp3 _ _ h rfl))
    · exact .inl (.inr ⟨o, kp3 _ _ h rfl⟩)
    · exact .inr h
  clear q1 q2 q3 q4 eL hlm2 hm02 hm12 hT2 hll hla0 hla1 kp3 im3 mod3 ha3 pM
  have pL3 : Paired (fun (la : Addr) M => LadderAt K H3' 12 la M ∧ LdrOk M) [la0, la1] [M0, M1] := .cons ⟨hl03, ok0⟩ (.cons ⟨hl13, ok1⟩ .nil)
  -- the works
  refine ss_asgR (R := fun v F => ∃ lk W0 W1, v = .ref lk ∧ F lk = some (.lst [.ref W0.a, .ref W1.a]) ∧ WorksAt K F 12 W0 M0 (fun _ => false) (fun _ => 0) ∧ WorksAt K F 12 W1 M1 (fun _ => false) (fun _ => 0) ∧ (∀ d ∈ W0.dd, H3' d = none) ∧ (∀ d ∈ W1.dd, H3' d = none) ∧ ∀ d ∈ W1.dd, d ∉ W0.dd)
    (er_lcSq (k := true) (xs := [la0, la1].map V.ref) (ev_var rfl) (.of hll3) (by show 2 ≤ 50000; decide) (fun _ => rfl) (fun i acc F => ∃ Ws : List WA, acc = Ws.map (fun W => V.ref W.a) ∧ Paired (fun (W : WA) M => WorksAt K F 12 W M (fun _ => false) (fun _ => 0)) Ws ([M0, M1].take i) ∧ (∀ W ∈ Ws, ∀ d ∈ W.dd, H3' d = none) ∧ Ws.Pairwise fun (A B : WA) => ∀ d ∈ B.dd, d ∉ A.dd) (fun i acc F F' ⟨Ws, p1, p2, p3⟩ e => ⟨Ws, p1, L2.Paired.mapP p2 fun _ _ q => WRaw.ex q e, p3⟩) ⟨[], rfl, .nil, (fun _ z => by cases z), .nil⟩ (fun i acc F x hx f ⟨Ws, p1, p2, p3, p4⟩ => ?_) fun p acc F _ _ hp ⟨Ws, p1, p2, p3, p4⟩ => ?_) fun v H4 e4 ⟨lk, W0, W1, ev, hlk, hW0, hW1, hn0, hn1, hdis⟩ => ?_
  · obtain ⟨la, M, rfl, hMi, hLa, okM⟩ := paired_at pL3 hx
    refine ⟨true, fun H1 _ Q q => q H1 (.refl _), (fun z => nomatch z), fun _ => ⟨fun v F2 => ∃ W : WA, v = .ref W.a ∧ WorksAt K F2 12 W M (fun _ => false) (fun _ => 0) ∧ ∀ d ∈ W.dd, F d = none, er_mkM (Ra := fun vs _ => vs = [.ref la]) ((k_Works T).mono (by decide)) (ea_rel (ea_cons (ev_var rfl) ea_nil)) (fun vs G g evs => ⟨(⟨12, la, M⟩, G), evs, ⟨hLa.im (.of (f.trans g)), okM, rfl⟩, fun b G2 _ g2 ⟨db, dc, ds, hw, n1, n2, n3⟩ => ⟨⟨b, la, db, dc, ds⟩, rfl, hw, fun d hd => ?_⟩⟩), fun y F2 f2 ⟨W, ey, hW, hWn⟩ => ⟨Ws ++ [W], by rw [p1, ey, List.map_append]; rfl, ?_, fun W' hW' d hd => ?_, ?_⟩⟩⟩
    · have n1 : G db = none := n1
      have n2 : G dc = none := n2
      have n3 : G ds = none := n3
      rcases List.mem_cons.mp hd with rfl | hd
      · exact fresh_back g n1
      · rcases List.mem_cons.mp hd with rfl | hd
        · exact fresh_back g n2
        · rw [List.mem_singleton.mp hd]; exact fresh_back g n3
    · rw [take_snoc hMi]
      exact paired_snoc (G := fun (W : WA) M => WorksAt K F2 12 W M (fun _ => false) (fun _ => 0)) hW (L2.Paired.mapP p2 fun _ _ q => WRaw.ex q f2)
    · rcases List.mem_append.mp hW' with z | z
      · exact p3 W' z d hd
      · rw [List.mem_singleton.mp z] at hd
        exact fresh_back f (hWn d hd)
    · refine List.pairwise_append.mpr ⟨p4, List.pairwise_singleton _ _, fun A hA Bw hB d hd hd2 => ?_⟩
      rw [List.mem_singleton.mp hB] at hd
      obtain ⟨i', hi'⟩ := List.mem_iff_getElem?.mp hA
      obtain ⟨M', _, hA'⟩ := paired_get p2 hi'
      obtain ⟨kvs, hk⟩ := WRaw.there hA' d hd2
      rw [hWn d hd] at hk; cases hk
  · obtain ⟨x, y, rfl, r1, r2⟩ := paired2 p2
    refine ⟨p, x, y, rfl, by rw [hp, p1]; rfl, r1, r2, p3 x (by simp), p3 y (by simp), ?_⟩
    exact (List.pairwise_cons.mp p4).1 y (by simp)
  subst ev
  -- two machines
  obtain ⟨cs, hcs⟩ : ∃ cs : List Mac, cs = [⟨v0, M0, la0, g0, S0, W0⟩, ⟨v1, M1, la1, g1, S1, W1⟩] := ⟨_, rfl⟩
  have st4 : LawSt K H4 lm ll lw lk cs := by
    subst hcs
    refine ⟨e4 _ _ hlm3, e4 _ _ hll3, e4 _ _ hlw, hlk, fun j c hc => ?_⟩
    match j, hc with
    | 0, hc => cases hc; exact ⟨hm03.ex e4, hl03.im (.of e4), hg0.ex e4, _, _, hW0, st0 ok0⟩
    | 1, hc => cases hc; exact ⟨hm13.ex e4, hl13.im (.of e4), hg1.ex e4, _, _, hW1, st0 ok1⟩
    | _ + 2, hc => simp at hc
  have fx : LawFx cs := by
    subst hcs
    refine ⟨rfl, fun i j ci cj hi hj ne d h1 h2 => ?_, fun i j ci cj hi hj z => ?_⟩
    · match i, j, hi, hj with
      | 0, 0, _, _ => exact ne rfl
      | 0, 1, hi, hj => cases hi; cases hj; exact hdis d h2 h1
      | 1, 0, hi, hj => cases hi; cases hj; exact hdis d h1 h2
      | 1, 1, _, _ => exact ne rfl
      | _ + 2, _, hi, _ => simp at hi
      | _, _ + 2, _, hj => simp at hj
    · have hS : ∃ kvs, H3' ci.S.ds = some (.dK kvs) := by
        match i, hi with
        | 0, hi => cases hi; exact ⟨_, hg0.ds⟩
        | 1, hi => cases hi; exact ⟨_, hg1.ds⟩
        | _ + 2, hi => simp at hi
      have hN : ∀ d ∈ cj.W.dd, H3' d = none := by
        match j, hj with
        | 0, hj => cases hj; exact hn0
        | 1, hj => cases hj; exact hn1
        | _ + 2, hj => simp at hj
      obtain ⟨kvs, hk⟩ := hS
      rw [hN _ z] at hk; cases hk
  have hsc4 := ex_l e4 hsc
  clear hcs hlm3 hll3 hlw hlk hm03 hm13 hl03 hl13 hg0 hg1 hW0 hW1 hn0 hn1 hdis pL3 pL
  -- the run
  obtain ⟨z1, hz1⟩ := ints_cut ns (some 40) (some 52)
  obtain ⟨z2, hz2⟩ := ints_cut ns none (some 4)
  have l1 : z1.length ≤ 63 := by
    have := cutV_length (ns.map V.int) (some 40) (some 52)
    rw [hz1, List.length_map, List.length_map] at this
    omega
  have l2 : z2.length ≤ 63 := by
    have := cutV_length (ns.map V.int) none (some 4)
    rw [hz2, List.length_map, List.length_map] at this
    omega
  refine ss_forIt (Rl := fun v F => ∃ p, v = .ref p ∧ F p = some (.lst ((z1 ++ z2).map V.int))) ((er_cat (xs := z1.map V.int) (ys := z2.map V.int) ((er_slL (ev_var rfl) hsc4 (eo_some ev_c) (eo_some ev_c)).imp fun v F _ ⟨q, p1, p2, p3⟩ => ⟨q, p1, p2, by rw [p3, hz1]⟩) (fun F f => (er_slL (ev_var rfl) (ex_l f hsc4) eo_none (eo_some ev_c)).imp fun v F _ ⟨q, p1, p2, p3⟩ => ⟨q, p1, p2, by rw [p3, hz2]⟩) (by rw [List.length_map, List.length_map]; omega)).imp fun v F _ ⟨q, p1, _, p3⟩ => ⟨q, p1, by rw [p3, List.map_append]⟩) fun v H5 e5 ⟨p, ev, hp⟩ => ?_
  subst ev
  generalize z1 ++ z2 = zs at hp
  refine ss_forSq (k := true) ev_c (.of hp) (fun i σ' F => ∃ (o5 o6 o7 o8 o9 o10 o11 o12 : Option V), σ' = [some (.ref a), some (.ref lm), some (.ref ll), some (.ref lw), some (.ref lk), o5, o6, o7, o8, o9, o10, o11, o12, none] ∧ F p = some (.lst (zs.map V.int)) ∧ LawSt K F lm ll lw lk cs) (fun F f => ⟨_, _, _, _, _, _, _, _, rfl, f _ _ hp, st4.ex (e5.trans f)⟩) (fun i σ' F _ ⟨_, _, _, _, _, _, _, _, _, h, _⟩ => .of h) ?_ ?_
  · rintro i x σ' F hx ⟨o5, o6, o7, o8, o9, o10, o11, o12, rfl, hpF, stF⟩
    rw [List.getElem?_map] at hx
    obtain ⟨z, _, rfl⟩ := Option.map_eq_some_iff.mp hx
    have hm := mixF_range z 3
    refine ss_asg (v := .int (mixF z 3)) (ev_mixed T (ev_var rfl) ev_c) ?_
    generalize mixF z 3 = mx at hm
    obtain ⟨j, hj⟩ : ∃ j : Nat, mx % 2 = (j : Int) := Int.eq_ofNat_of_zero_le (Int.emod_nonneg _ (by decide))
    have hj2 : j < 2 := by have := Int.emod_lt_of_pos mx (show (0 : Int) < 2 by decide); omega
    refine ss_asg (v := .int (j : Nat)) (ev_is (ev_op (ev_var rfl) ev_c (rv_I (by decide))) (congrArg V.int hj)) ?_
    have hjc : j < cs.length := by rw [fx.two]; exact hj2
    obtain ⟨c, hc⟩ : ∃ c, cs[j]? = some c := ⟨cs[j], List.getElem?_eq_getElem hjc⟩
    have at_ : ∀ (f : Mac → V), (cs.map f)[j]? = some (f c) := fun f => by rw [List.getElem?_map, hc]; rfl
    have mF := stF.mac j c hc
    have ok := mF.wir.ok
    have eM : ∀ {σ : L2.St} {G : Hp}, LawSt K G lm ll lw lk cs → σ[1]? = some (some (.ref lm)) → σ[7]? = some (some (.int (j : Nat))) → Ev (tOp (rIxL K) (tVar 1) (tVar 7)) σ G c.v := fun h h1 h7 => ev_op (ev_var h1) (ev_var h7) (rv_ixL (.of h.hm) (atI_nat (at_ _)))
    have eLa : ∀ {σ : L2.St} {G : Hp}, LawSt K G lm ll lw lk cs → σ[2]? = some (some (.ref ll)) → σ[7]? = some (some (.int (j : Nat))) → Ev (tOp (rIxL K) (tVar 2) (tVar 7)) σ G (.ref c.la) := fun h h1 h7 => ev_op (ev_var h1) (ev_var h7) (rv_ixL (.of h.hl) (atI_nat (at_ fun c => .ref c.la)))
    have eG : ∀ {σ : L2.St} {G : Hp}, LawSt K G lm ll lw lk cs → σ[3]? = some (some (.ref lw)) → σ[7]? = some (some (.int (j : Nat))) → Ev (tOp (rIxL K) (tVar 3) (tVar 7)) σ G (.ref c.g) := fun h h1 h7 => ev_op (ev_var h1) (ev_var h7) (rv_ixL (.of h.hw) (atI_nat (at_ fun c => .ref c.g)))
    have eW : ∀ {σ : L2.St} {G : Hp}, LawSt K G lm ll lw lk cs → σ[4]? = some (some (.ref lk)) → σ[7]? = some (some (.int (j : Nat))) → Ev (tOp (rIxL K) (tVar 4) (tVar 7)) σ G (.ref c.W.a) := fun h h1 h7 => ev_op (ev_var h1) (ev_var h7) (rv_ixL (.of h.hk) (atI_nat (at_ fun c => .ref c.W.a)))
    -- a number that is no state
    refine ss_asgR (R := fun v _ => ∃ s, v = .int s ∧ ¬ Good c.M s) (er_fnV (ea_cons (eM stF rfl rfl) (ea_cons (ev_fnV (v := .int (wsum c.M : Nat)) (ea_cons (eLa stF rfl rfl) ea_nil) ((c_width T).mono (by decide)) (spP_r ⟨12, c.la, c.M⟩ rfl (fun G g => ⟨mF.lad.im (.of g), ok⟩) fun _ _ _ _ _ r => r)) (ea_cons (ev_op (ev_var rfl) ev_c (rv_I ⟨by decide, by decide⟩)) ea_nil))) ((c_far T).mono (by decide)) (spP_r ⟨c.v, 12, c.M, mx / 2⟩ rfl (fun G g => ⟨mF.mod.ex g, ok, Int.ediv_nonneg hm.1 (by decide)⟩) fun _ _ _ _ _ r => r)) fun v F1 f1 ⟨fr, ev, hfr⟩ => ?_
    subst ev
    have st1 := stF.ex f1
    have m1 := st1.mac j c hc
    refine ss_asg ev_c ?_
    -- how many rows
    obtain ⟨t, li, lo, lr, rts, evt, ht, hli, _⟩ := id m1.mod
    have il := ok.il
    refine ss_forSq (k := true) (xs := c.M.ins.map V.str) (ev_op (by rw [← evt]; exact eM st1 rfl rfl) ev_c (rv_ixT (.of ht) (atI_nat (j := 0) rfl))) (.of hli) (fun i σ' G => ∃ o10 : Option V, σ' = [some (.ref a), some (.ref lm), some (.ref ll), some (.ref lw), some (.ref lk), some (.int z), some (.int mx), some (.int (j : Nat)), some (.int fr), some (.int (2 ^ i)), o10, o11, o12, none] ∧ Ex F1 G) (fun G g => ⟨o10, rfl, g⟩) (fun i σ' G _ ⟨_, _, g⟩ => .of (g _ _ hli)) ?_ ?_
    · rintro k x σ' G hx ⟨o10', rfl, g⟩
      exact ss_asg (v := .int (2 ^ (k + 1))) (ev_is (ev_op (ev_var rfl) ev_c (rv_I (.inr ⟨by decide, by decide⟩))) (congrArg V.int (Int.pow_succ 2 k).symm)) (ss_end fun G1 g1 => ⟨_, rfl, g.trans g1⟩)
    rintro σ' G ⟨o10', rfl, g⟩
    rw [List.length_map]
    have stG := st1.ex g
    have hpG := (f1.trans g) _ _ hpF
    refine SS.here ?_
    -- what is refused
    refine ss_whenJ (b := decide (V.int (mx / 7 % 3) = V.int 0)) (P := fun σ' G' => ∃ o11 o12 : Option V, σ' = [some (.ref a), some (.ref lm), some (.ref ll), some (.ref lw), some (.ref lk), some (.int z), some (.int mx), some (.int (j : Nat)), some (.int fr), some (.int (2 ^ c.M.ins.length)), o10', o11, o12, none] ∧ Ex G G') (et_test (ev_op (ev_op (ev_op (ev_var rfl) ev_c (rv_I ⟨by decide, by decide⟩)) ev_c (rv_I (by decide))) ev_c (rv_eq rfl))) (fun kk _ => ?_) (fun _ => ⟨_, _, rfl, .refl _⟩) ?_
    · obtain ⟨j2, hjb⟩ : ∃ j : Nat, mx / 63 % 2 = (j : Int) := Int.eq_ofNat_of_zero_le (Int.emod_nonneg _ (by decide))
      have lj2 : j2 < 2 := by have := Int.emod_lt_of_pos (mx / 63) (show (0 : Int) < 2 by decide); omega
      obtain ⟨j3, hj3⟩ : ∃ j : Nat, mx / 21 % 3 = (j : Int) := Int.eq_ofNat_of_zero_le (Int.emod_nonneg _ (by decide))
      have lj3 : j3 < 3 := by have := Int.emod_lt_of_pos (mx / 21) (show (0 : Int) < 3 by decide); omega
      have x90 := Int.emod_nonneg (mx / 21) (show (9 : Int) ≠ 0 by decide)
      obtain ⟨wr, hwr, hwb⟩ : ∃ wr, ([.int (-1 - mx / 21 % 9), .int (2 ^ c.M.ins.length + mx / 21 % 9)] : List V)[j2]? = some (.int wr) ∧ ¬ RowOk c.M wr := by
        match j2, lj2 with
        | 0, _ => exact ⟨_, rfl, fun ⟨h, _⟩ => by omega⟩
        | 1, _ => exact ⟨_, rfl, fun ⟨_, h⟩ => by omega⟩
      obtain ⟨k3, hk3⟩ : ∃ k3, ([.int 0, .int (-1), .int (2 ^ c.M.ins.length)] : List V)[j3]? = some (.int k3) := by
        match j3, lj3 with
        | 0, _ => exact ⟨_, rfl⟩
        | 1, _ => exact ⟨_, rfl⟩
        | 2, _ => exact ⟨_, rfl⟩
      refine ss_asg (v := .int wr) (ev_ixLit (ea_cons (ev_op (ev_un ev_c (fun H1 _ Q' q' => ⟨1, rfl, q' H1 (.refl _)⟩)) (ev_op (ev_op (ev_var rfl) ev_c (rv_I ⟨by decide, by decide⟩)) ev_c (rv_I (by decide))) rv_I0) (ea_cons (ev_op (ev_var rfl) (ev_op (ev_op (ev_var rfl) ev_c (rv_I ⟨by decide, by decide⟩)) ev_c (rv_I (by decide))) rv_I0) ea_nil)) (ev_is (ev_op (ev_op (ev_var rfl) ev_c (rv_I ⟨by decide, by decide⟩)) ev_c (rv_I (by decide))) (congrArg V.int hjb)) hwr (by show 2 ≤ 100000; decide)) ?_
      refine ss_forIt (Rl := fun v G1 => ∃ q, v = .ref q ∧ G1 q = some (.lst [.non, .ref c.la])) ((er_lstV (ea_cons ev_c (ea_cons (eLa stG rfl rfl) ea_nil)) (by show 2 ≤ 100000; decide)).imp fun v G1 _ ⟨q, p1, _, p3⟩ => ⟨q, p1, p3⟩) fun v G1 g1 ⟨q, ev, hq⟩ => ?_
      subst ev
      refine ss_forSq (k := true) ev_c (.of hq) (fun i σ' G' => ∃ o12 : Option V, σ' = [some (.ref a), some (.ref lm), some (.ref ll), some (.ref lw), some (.ref lk), some (.int z), some (.int mx), some (.int (j : Nat)), some (.int fr), some (.int (2 ^ c.M.ins.length)), o10', some (.int wr), o12, none] ∧ Ex G1 G') (fun G' g' => ⟨_, rfl, g'⟩) (fun i σ' G' _ ⟨_, _, g'⟩ => .of (g' _ _ hq)) ?_ ?_
      · rintro k x σ' G2 hx ⟨o12', rfl, g2⟩
        have st2 := stG.ex (g1.trans g2)
        have m2 := st2.mac j c hc
        have hlv : x = .non ∨ ∃ la, x = .ref la ∧ LadderAt K G2 12 la c.M := by
          match k, hx with
          | 0, hx => cases hx; exact .inl rfl
          | 1, hx => cases hx; exact .inr ⟨c.la, rfl, m2.lad⟩
          | _ + 2, hx => simp at hx
        have told : ∀ (st num : Int) (wd : Str), ¬ (Good c.M st ∧ RowOk c.M num) → ((Good c.M st → V.str "row" = V.str wd) ∧ (¬ Good c.M st → V.str "state" = V.str wd)) → SpR (spTold K 11) [.ref c.g, x, .int st, .int num] G2 (fun v _ => v = .str wd) := fun st num wd hb hw => spP_r ⟨c.g, c.S, c.M, x, st, num⟩ rfl (fun G3 g3 => ⟨m2.wir.ex g3, hlv.imp id fun ⟨la, p1, p2⟩ => ⟨la, p1, p2.im (.of g3)⟩, hb⟩) fun _ v _ _ _ r => by
          by_cases hg : Good c.M st
          · exact (r.1 hg).trans (hw.1 hg)
          · exact (r.2 hg).trans (hw.2 hg)
        refine ss_when (b := !decide (V.str "state" = V.str "state")) (et_test (ev_op (ev_fnV (ea_cons (eG st2 rfl rfl) (ea_cons (ev_var rfl) (ea_cons (ev_var rfl) (ea_cons (ev_ixLit (ea_cons ev_c (ea_cons (ev_un ev_c (fun H1 _ Q' q' => ⟨1, rfl, q' H1 (.refl _)⟩)) (ea_cons (ev_var rfl) ea_nil))) (ev_is (ev_op (ev_op (ev_var rfl) ev_c (rv_I ⟨by decide, by decide⟩)) ev_c (rv_I (by decide))) (congrArg V.int hj3)) hk3 (by show 3 ≤ 100000; decide)) ea_nil)))) ((c_told T 11).mono (by decide)) (told fr k3 "state" (fun h => hfr h.1) ⟨fun h => absurd h hfr, fun _ => rfl⟩)) ev_c (rv_ne rfl))) (fun hb => by rw [decide_eq_true rfl] at hb; cases hb) fun _ => ?_
        refine ss_when (b := !decide (V.str "row" = V.str "row")) (et_test (ev_op (ev_fnV (ea_cons (eG st2 rfl rfl) (ea_cons (ev_var rfl) (ea_cons ev_c (ea_cons (ev_var rfl) ea_nil)))) ((c_told T 11).mono (by decide)) (told 0 wr "row" (fun h => hwb h.2) ⟨fun _ => rfl, fun h => absurd (good0 ok) h⟩)) ev_c (rv_ne rfl))) (fun hb => by rw [decide_eq_true rfl] at hb; cases hb) fun _ => ?_
        exact ss_end fun G3 g3 => ⟨_, rfl, g2.trans g3⟩
      · rintro σ' G2 ⟨o12', rfl, g2⟩
        exact SS.here (ss_end fun G3 g3 => (kk _ _ ⟨_, _, rfl, g1.trans (g2.trans g3)⟩).here)
    rintro σ' G3 ⟨o11', o12', rfl, g3⟩
    have st3 := stG.ex g3
    have hp3 := g3 _ _ hpG
    have m3 := st3.mac j c hc
    -- a step
    refine ss_notB (P := fun G4 G5 => ∃ β ν, Mo c.W.dd G4 G5 ∧ WorksAt K G5 12 c.W c.M β ν ∧ StOk c.M ν) (fun G4 g4 Q' q' => ?_) fun G4 G5 g4 ⟨β, ν, mo, hw, st⟩ => ?_
    · obtain ⟨β, ν, hw, st⟩ := (m3.ex g4).wks
      have st4' := st3.ex g4
      have m4 := st4'.mac j c hc
      have args : EvA (tCons (tOp (rIxL K) (tVar 1) (tVar 7)) (tCons (tOp (rIxL K) (tVar 2) (tVar 7)) (tCons (tOp (rIxL K) (tVar 3) (tVar 7)) (tCons (tOp (rIxL K) (tVar 4) (tVar 7)) (tCons (tOp (rI CDiv fun i j => V.int (i / j)) (tVar 6) (tC (.int 64))) tNil))))) [some (.ref a), some (.ref lm), some (.ref ll), some (.ref lw), some (.ref lk), some (.int z), some (.int mx), some (.int (j : Nat)), some (.int fr), some (.int (2 ^ c.M.ins.length)), o10', o11', o12', none] G4 [c.v, .ref c.la, .ref c.g, .ref c.W.a, .int (mx / 64)] := ea_cons (eM st4' rfl rfl) (ea_cons (eLa st4' rfl rfl) (ea_cons (eG st4' rfl rfl) (ea_cons (eW st4' rfl rfl) (ea_cons (ev_op (ev_var rfl) ev_c (rv_I ⟨by decide, by decide⟩)) ea_nil))))
      exact args G4 (.refl _) _ fun G6 g6 => ⟨spLStep K 11, (c_law_step T 11).mono (by decide), ⟨c.v, 12, c.la, c.g, c.S, c.W, c.M, β, ν, mx / 64⟩, rfl, ⟨m4.mod.ex g6, m4.lad.im (.of g6), m4.wir.ex g6, WRaw.ex hw g6, st⟩, fun G5 β' ν' mo hw' st' => q' G5 ⟨β', ν', (Mo.of g6).trans mo, hw', st'⟩⟩
    · obtain ⟨β0, ν0, hw0, _⟩ := ((st3.ex g4).mac j c hc).wks
      have im := mo.im (WRaw.dicts hw0)
      have st5 := (st3.ex g4).step fx hc mo hw st
      exact ss_end fun G6 g6 => ⟨_, _, _, _, _, _, _, _, rfl, g6 _ _ (im _ _ (g4 _ _ hp3) rfl), st5.ex g6⟩
  · rintro σ' F ⟨o5, o6, o7, o8, o9, o10, o11, o12, rfl, hpF, stF⟩
    exact SS.here (ss_ret ev_c fun F1 f1 => hQ F1)
end
end RgK
set_option Elab.async false
set_option linter.all false
set_option maxRecDepth 100000
set_option maxHeartbeats 4000000

/-! The end. -/
namespace RgK
open PySem PySem.Spec PyProof.Rows L2
theorem law_at (w : World) (mg : PySem.Str → Option Value) (fa : Addr) (h : Heap) (K : PySem.W.Frag) (KX : K.In h) (C : Says w h K) (G : h.Ns mainGlobals mg) (hmg : mg ("law" : PySem.Str) = some (.ref fa)) :
    LamX.LawAtS PySem.Challenge.rw_rungworks_k73_whole_one_machine w K (L2.CX PySem.Challenge.rw_rungworks_k73_whole_one_machine.prog w) 60 63 "_law_script" mg fa h := by
  have T0 : Tx w K mg h := ⟨C.facts, C.own, C.hd, KX, G⟩
  have e := T0.g_law
  rw [hmg] at e
  cases e
  obtain ⟨fd, F⟩ := T0.d_law
  refine ⟨fd, tf.map (He.cT K), spLaw K, fun p hp => ?_, fun p hp => ?_, fun p hp => ?_, fun s u => F.bindsA (ps := ["_law_script"]) (fun _ _ _ _ _ _ us h => by match us, h with | [_], _ => rfl) s [u] rfl, fun H a ns hn _ hB hS => ?_, fun base KB GB TB => ?_⟩
  · obtain ⟨q, hq, rfl⟩ := List.mem_map.mp hp
    exact C.nil q hq
  · obtain ⟨q, hq, rfl⟩ := List.mem_map.mp hp
    exact C.out q hq
  · obtain ⟨q, hq, rfl⟩ := List.mem_map.mp hp
    exact PySem.W.codeHd_of_K KX (C.hd q hq)
  · refine ⟨(a, ns), rfl, ⟨hS, fun i hi => LamX.TabS.nil ?_, hn⟩, fun H2 => rfl⟩
    refine hB (He.cT K (mkN i)) (List.mem_map.mpr ⟨mkN i, ?_, rfl⟩)
    match i, hi with
    | 0, _ => decide +kernel
    | 1, _ => decide +kernel
    | 2, _ => decide +kernel
    | 3, _ => decide +kernel
    | 4, _ => decide +kernel
    | 5, _ => decide +kernel
    | 6, _ => decide +kernel
  · exact (law_ok ⟨C.facts, C.own, C.hd, KB, GB⟩ (fun p hp => TB _ (List.mem_map.mpr ⟨p, hp, rfl⟩)) F).mono (by decide)
end RgK
open PySem PySem.W PySem.Calls PyProof.Rows
set_option maxHeartbeats 0
theorem PySem.Challenge.cw_rungworks_k73_whole_one_machine_holds : PySem.Challenge.rw_rungworks_k73_whole_one_machine.Holds := by
  w_on; o_law
  refine HandSHeadRun.head_any (r := RgK.R) (q := view RgK.R.prog [99]) (H := RgK.hk) (ob := RgK.ob) (M := 20000) (loose := RgK.loose) (d := HandSHeadRun.topDef RgK.R.prog 99) (kwd := []) RgK.ob_eq
    (by kernel_rfl) (fun s => by kernel_rfl) RgK.run (by kernel_rfl) (by kernel_rfl) (by kernel_rfl) (by rfl) (by first | assumption | decide +kernel) (by decide +kernel) ⟨rfl, rfl, rfl, rfl, rfl, by decide +kernel⟩ ?hw ?hc
  case hw => w_witness2
  case hc =>
    refine LamX.walk_ofTsE (l := PySem.Challenge.rw_rungworks_k73_whole_one_machine) (n := 63) (k := 60) (x := "_law_script") (CX := fun w => L2.CX PySem.Challenge.rw_rungworks_k73_whole_one_machine.prog w) rfl (by decide) (by kernel_rfl) ⟨rfl, by decide, by decide⟩ ?F ?hCX
    case F =>
      intro w mg fa h Y G hmg0
      obtain ⟨K, KX, c⟩ := Y
      have hmg : mg ("law" : PySem.Str) = some (.ref fa) := by
        have e : (HandSHeadRun.topDef RgK.R.prog 99).name = ("law" : PySem.Str) := by kernel_rfl
        rw [← e]
        exact hmg0
      exact ⟨K, KX, RgK.law_at w mg fa h K KX c G hmg⟩
    case hCX =>
      intro w H s e s' h
      obtain ⟨_, _, _, _, _, _, _, _, _, _, _, _, z⟩ := h
      exact z
