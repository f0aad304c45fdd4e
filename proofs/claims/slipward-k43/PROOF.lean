import PyProof.Rows.All
import Wide.All
import OpenK.AllK
import Wide.FinOn
import HandS.ForMost
import HandS.More
import HandS.Words
import HandS.Defaults
import HandS.Head0
import HandS.Head1
import HandS.Head2
import HandS.Head3
import HandS.HeadEnd
import HandS.HeadHook1
import HandS.HeadHook2
import HandS.HeadHook3
import HandS.HeadHook4
import HandS.Zip
import HandS.Walk
import KE.GoesNew
import KE.GoesMore
import KE.GoesEnum
import HandS.SetKeys
import KE.KDictKeyed
import KE.KeyNested
import KE.GoesNewDict
import HandS.SetFor
import HandS.Strs
import KE.KDictZip
import KE.KDictItemsList
import HandS.Style
import HandS.TupAny
import HandS.RaiseMore
import PyProof.ReprRoads
import HandS.IsInst
import HandS.NoneIn
import HandS.Conv
import HandS.Evl
import PySem.Challenge.RW_slipward_k43_whole_stumbles_at_holds_alo
/-! text SlBase -/
set_option Elab.async false
set_option linter.all false
set_option maxRecDepth 100000
set_option maxHeartbeats 4000000
namespace SL
open PySem PySem.Spec PyProof.Rows L2
/-! ### the text by places -/
def top (i : Nat) : Stmt := PySem.Challenge.pw_slipward_k43_whole_stumbles_at_holds_alo.main.body.getD i (.Pass ⟨0, 0, 0, 0⟩)
abbrev s_is_among : Stmt := top 23
abbrev s_is_word : Stmt := top 24
abbrev s_is_box : Stmt := top 25
abbrev s_is_row : Stmt := top 26
abbrev s_parts_of : Stmt := top 27
abbrev s_reads : Stmt := top 28
abbrev s_sets : Stmt := top 29
abbrev s_leads : Stmt := top 30
abbrev s_is_way : Stmt := top 31
abbrev s_need_program : Stmt := top 32
abbrev s_behind_row : Stmt := top 34
abbrev s_beginnings : Stmt := top 35
abbrev s_blocks : Stmt := top 36
abbrev s_Values_init : Stmt := inClass (top 40) 0
abbrev s_Values_fresh : Stmt := inClass (top 40) 1
abbrev s_Values_root : Stmt := inClass (top 40) 2
abbrev s_Values_value_in : Stmt := inClass (top 40) 3
abbrev s_Values_form_of : Stmt := inClass (top 40) 4
abbrev s_Values_value_of : Stmt := inClass (top 40) 5
abbrev s_Values_join : Stmt := inClass (top 40) 6
abbrev s_Values_alike : Stmt := inClass (top 40) 7
abbrev s_Values_do : Stmt := inClass (top 40) 8
abbrev s_Values_are_one : Stmt := inClass (top 40) 9
abbrev s_is_hue : Stmt := top 45
abbrev s_is_hues : Stmt := top 46
abbrev s_is_pair : Stmt := top 47
abbrev s_are_twins : Stmt := top 48
abbrev s_is_paper : Stmt := top 49
abbrev s_need_hues : Stmt := top 50
abbrev s_is_careful : Stmt := top 51
abbrev s_row_fault : Stmt := top 52
abbrev s_are_alike : Stmt := top 53
abbrev s_twins_fault : Stmt := top 54
abbrev s_values_behind : Stmt := top 55
abbrev s_ways_between : Stmt := top 56
abbrev s_ends_fault : Stmt := top 57
abbrev s_fault_of : Stmt := top 58
abbrev s_all_pairs : Stmt := top 60
abbrev s_paper_of : Stmt := top 61
abbrev s_sure_paper : Stmt := top 62
abbrev s_need_inputs : Stmt := top 66
abbrev s_meant : Stmt := top 67
abbrev s_Stand_init : Stmt := inClass (top 68) 0
abbrev s_Machine_init : Stmt := inClass (top 69) 0
abbrev s_Machine_place : Stmt := inClass (top 69) 1
abbrev s_Machine_boxes : Stmt := inClass (top 69) 3
abbrev s_Machine_end : Stmt := inClass (top 69) 7
abbrev s_Machine_beat : Stmt := inClass (top 69) 8
abbrev s_Machine_made : Stmt := inClass (top 69) 9
abbrev s_Machine_go_out : Stmt := inClass (top 69) 10
abbrev s_Machine_tell : Stmt := inClass (top 69) 11
abbrev s_Machine_keep : Stmt := inClass (top 69) 12
abbrev s_Machine_stumble : Stmt := inClass (top 69) 13
abbrev s_L_begin : Stmt := top 71
abbrev s_L_next : Stmt := top 72
abbrev s_L_two_hues : Stmt := top 73
abbrev s_L_hues : Stmt := top 74
abbrev s_L_plan : Stmt := top 75
abbrev s_L_deed : Stmt := top 76
abbrev s_L_pair : Stmt := top 77
abbrev s_L_step : Stmt := top 78
abbrev s_L_program : Stmt := top 79
abbrev s_L_reads : Stmt := top 80
abbrev s_L_walked : Stmt := top 81
abbrev s_law : Stmt := top 82
def d_is_among : He.DefD := ⟨("is_among", none), "is_among", "is_among", defArgs s_is_among, defBody s_is_among, defScope s_is_among, [], []⟩
def d_is_word : He.DefD := ⟨("is_word", none), "is_word", "is_word", defArgs s_is_word, defBody s_is_word, defScope s_is_word, [], []⟩
def d_is_box : He.DefD := ⟨("is_box", none), "is_box", "is_box", defArgs s_is_box, defBody s_is_box, defScope s_is_box, [], []⟩
def d_is_row : He.DefD := ⟨("is_row", none), "is_row", "is_row", defArgs s_is_row, defBody s_is_row, defScope s_is_row, [], []⟩
def d_parts_of : He.DefD := ⟨("parts_of", none), "parts_of", "parts_of", defArgs s_parts_of, defBody s_parts_of, defScope s_parts_of, [], []⟩
def d_reads : He.DefD := ⟨("reads", none), "reads", "reads", defArgs s_reads, defBody s_reads, defScope s_reads, [], []⟩
def d_sets : He.DefD := ⟨("sets", none), "sets", "sets", defArgs s_sets, defBody s_sets, defScope s_sets, [], []⟩
def d_leads : He.DefD := ⟨("leads", none), "leads", "leads", defArgs s_leads, defBody s_leads, defScope s_leads, [], []⟩
def d_is_way : He.DefD := ⟨("is_way", none), "is_way", "is_way", defArgs s_is_way, defBody s_is_way, defScope s_is_way, [], []⟩
def d_need_program : He.DefD := ⟨("need_program", none), "need_program", "need_program", defArgs s_need_program, defBody s_need_program, defScope s_need_program, [], []⟩
def d_behind_row : He.DefD := ⟨("behind_row", none), "behind_row", "behind_row", defArgs s_behind_row, defBody s_behind_row, defScope s_behind_row, [], []⟩
def d_beginnings : He.DefD := ⟨("beginnings", none), "beginnings", "beginnings", defArgs s_beginnings, defBody s_beginnings, defScope s_beginnings, [], []⟩
def d_blocks : He.DefD := ⟨("blocks", none), "blocks", "blocks", defArgs s_blocks, defBody s_blocks, defScope s_blocks, [], []⟩
def d_Values_init : He.DefD := ⟨("Values", some "__init__"), "__init__", "Values.__init__", defArgs s_Values_init, defBody s_Values_init, defScope s_Values_init, [], []⟩
def d_Values_fresh : He.DefD := ⟨("Values", some "fresh"), "fresh", "Values.fresh", defArgs s_Values_fresh, defBody s_Values_fresh, defScope s_Values_fresh, [], []⟩
def d_Values_root : He.DefD := ⟨("Values", some "root"), "root", "Values.root", defArgs s_Values_root, defBody s_Values_root, defScope s_Values_root, [], []⟩
def d_Values_value_in : He.DefD := ⟨("Values", some "value_in"), "value_in", "Values.value_in", defArgs s_Values_value_in, defBody s_Values_value_in, defScope s_Values_value_in, [], []⟩
def d_Values_form_of : He.DefD := ⟨("Values", some "form_of"), "form_of", "Values.form_of", defArgs s_Values_form_of, defBody s_Values_form_of, defScope s_Values_form_of, [], []⟩
def d_Values_value_of : He.DefD := ⟨("Values", some "value_of"), "value_of", "Values.value_of", defArgs s_Values_value_of, defBody s_Values_value_of, defScope s_Values_value_of, [], []⟩
def d_Values_join : He.DefD := ⟨("Values", some "join"), "join", "Values.join", defArgs s_Values_join, defBody s_Values_join, defScope s_Values_join, [], []⟩
def d_Values_alike : He.DefD := ⟨("Values", some "alike"), "alike", "Values.alike", defArgs s_Values_alike, defBody s_Values_alike, defScope s_Values_alike, [], []⟩
def d_Values_do : He.DefD := ⟨("Values", some "do"), "do", "Values.do", defArgs s_Values_do, defBody s_Values_do, defScope s_Values_do, [], []⟩
def d_Values_are_one : He.DefD := ⟨("Values", some "are_one"), "are_one", "Values.are_one", defArgs s_Values_are_one, defBody s_Values_are_one, defScope s_Values_are_one, [], []⟩
def d_is_hue : He.DefD := ⟨("is_hue", none), "is_hue", "is_hue", defArgs s_is_hue, defBody s_is_hue, defScope s_is_hue, [], []⟩
def d_is_hues : He.DefD := ⟨("is_hues", none), "is_hues", "is_hues", defArgs s_is_hues, defBody s_is_hues, defScope s_is_hues, [], []⟩
def d_is_pair : He.DefD := ⟨("is_pair", none), "is_pair", "is_pair", defArgs s_is_pair, defBody s_is_pair, defScope s_is_pair, [], []⟩
def d_are_twins : He.DefD := ⟨("are_twins", none), "are_twins", "are_twins", defArgs s_are_twins, defBody s_are_twins, defScope s_are_twins, [], []⟩
def d_is_paper : He.DefD := ⟨("is_paper", none), "is_paper", "is_paper", defArgs s_is_paper, defBody s_is_paper, defScope s_is_paper, [], []⟩
def d_need_hues : He.DefD := ⟨("need_hues", none), "need_hues", "need_hues", defArgs s_need_hues, defBody s_need_hues, defScope s_need_hues, [], []⟩
def d_is_careful : He.DefD := ⟨("is_careful", none), "is_careful", "is_careful", defArgs s_is_careful, defBody s_is_careful, defScope s_is_careful, [], []⟩
def d_row_fault : He.DefD := ⟨("row_fault", none), "row_fault", "row_fault", defArgs s_row_fault, defBody s_row_fault, defScope s_row_fault, [], []⟩
def d_are_alike : He.DefD := ⟨("are_alike", none), "are_alike", "are_alike", defArgs s_are_alike, defBody s_are_alike, defScope s_are_alike, [], []⟩
def d_twins_fault : He.DefD := ⟨("twins_fault", none), "twins_fault", "twins_fault", defArgs s_twins_fault, defBody s_twins_fault, defScope s_twins_fault, [], []⟩
def d_values_behind : He.DefD := ⟨("values_behind", none), "values_behind", "values_behind", defArgs s_values_behind, defBody s_values_behind, defScope s_values_behind, [], []⟩
def d_ways_between : He.DefD := ⟨("ways_between", none), "ways_between", "ways_between", defArgs s_ways_between, defBody s_ways_between, defScope s_ways_between, [], []⟩
def d_ends_fault : He.DefD := ⟨("ends_fault", none), "ends_fault", "ends_fault", defArgs s_ends_fault, defBody s_ends_fault, defScope s_ends_fault, [], []⟩
def d_fault_of : He.DefD := ⟨("fault_of", none), "fault_of", "fault_of", defArgs s_fault_of, defBody s_fault_of, defScope s_fault_of, [], []⟩
def d_all_pairs : He.DefD := ⟨("all_pairs", none), "all_pairs", "all_pairs", defArgs s_all_pairs, defBody s_all_pairs, defScope s_all_pairs, [], []⟩
def d_paper_of : He.DefD := ⟨("paper_of", none), "paper_of", "paper_of", defArgs s_paper_of, defBody s_paper_of, defScope s_paper_of, [], []⟩
def d_sure_paper : He.DefD := ⟨("sure_paper", none), "sure_paper", "sure_paper", defArgs s_sure_paper, defBody s_sure_paper, defScope s_sure_paper, [], []⟩
def d_need_inputs : He.DefD := ⟨("need_inputs", none), "need_inputs", "need_inputs", defArgs s_need_inputs, defBody s_need_inputs, defScope s_need_inputs, [], []⟩
def d_meant : He.DefD := ⟨("meant", none), "meant", "meant", defArgs s_meant, defBody s_meant, defScope s_meant, [], []⟩
def d_Stand_init : He.DefD := ⟨("Stand", some "__init__"), "__init__", "Stand.__init__", defArgs s_Stand_init, defBody s_Stand_init, defScope s_Stand_init, [], []⟩
def d_Machine_init : He.DefD := ⟨("Machine", some "__init__"), "__init__", "Machine.__init__", defArgs s_Machine_init, defBody s_Machine_init, defScope s_Machine_init, [], []⟩
def d_Machine_place : He.DefD := ⟨("Machine", some "place"), "place", "Machine.place", defArgs s_Machine_place, defBody s_Machine_place, defScope s_Machine_place, [], []⟩
def d_Machine_boxes : He.DefD := ⟨("Machine", some "boxes"), "boxes", "Machine.boxes", defArgs s_Machine_boxes, defBody s_Machine_boxes, defScope s_Machine_boxes, [], []⟩
def d_Machine_end : He.DefD := ⟨("Machine", some "end"), "end", "Machine.end", defArgs s_Machine_end, defBody s_Machine_end, defScope s_Machine_end, [], []⟩
def d_Machine_beat : He.DefD := ⟨("Machine", some "beat"), "beat", "Machine.beat", defArgs s_Machine_beat, defBody s_Machine_beat, defScope s_Machine_beat, [], []⟩
def d_Machine_made : He.DefD := ⟨("Machine", some "made"), "made", "Machine.made", defArgs s_Machine_made, defBody s_Machine_made, defScope s_Machine_made, [], []⟩
def d_Machine_go_out : He.DefD := ⟨("Machine", some "go_out"), "go_out", "Machine.go_out", defArgs s_Machine_go_out, defBody s_Machine_go_out, defScope s_Machine_go_out, [], []⟩
def d_Machine_tell : He.DefD := ⟨("Machine", some "tell"), "tell", "Machine.tell", defArgs s_Machine_tell, defBody s_Machine_tell, defScope s_Machine_tell, [], []⟩
def d_Machine_keep : He.DefD := ⟨("Machine", some "keep"), "keep", "Machine.keep", defArgs s_Machine_keep, defBody s_Machine_keep, defScope s_Machine_keep, [], []⟩
def d_Machine_stumble : He.DefD := ⟨("Machine", some "stumble"), "stumble", "Machine.stumble", defArgs s_Machine_stumble, defBody s_Machine_stumble, defScope s_Machine_stumble, [], []⟩
def d_L_begin : He.DefD := ⟨("_law_begin", none), "_law_begin", "_law_begin", defArgs s_L_begin, defBody s_L_begin, defScope s_L_begin, [], []⟩
def d_L_next : He.DefD := ⟨("_law_next", none), "_law_next", "_law_next", defArgs s_L_next, defBody s_L_next, defScope s_L_next, [], []⟩
def d_L_two_hues : He.DefD := ⟨("_law_two_hues", none), "_law_two_hues", "_law_two_hues", defArgs s_L_two_hues, defBody s_L_two_hues, defScope s_L_two_hues, [], []⟩
def d_L_hues : He.DefD := ⟨("_law_hues", none), "_law_hues", "_law_hues", defArgs s_L_hues, defBody s_L_hues, defScope s_L_hues, [], []⟩
def d_L_plan : He.DefD := ⟨("_law_plan", none), "_law_plan", "_law_plan", defArgs s_L_plan, defBody s_L_plan, defScope s_L_plan, [], []⟩
def d_L_deed : He.DefD := ⟨("_law_deed", none), "_law_deed", "_law_deed", defArgs s_L_deed, defBody s_L_deed, defScope s_L_deed, [], []⟩
def d_L_pair : He.DefD := ⟨("_law_pair", none), "_law_pair", "_law_pair", defArgs s_L_pair, defBody s_L_pair, defScope s_L_pair, [], []⟩
def d_L_step : He.DefD := ⟨("_law_step", none), "_law_step", "_law_step", defArgs s_L_step, defBody s_L_step, defScope s_L_step, [], []⟩
def d_L_program : He.DefD := ⟨("_law_program", none), "_law_program", "_law_program", defArgs s_L_program, defBody s_L_program, defScope s_L_program, [], []⟩
def d_L_reads : He.DefD := ⟨("_law_reads", none), "_law_reads", "_law_reads", defArgs s_L_reads, defBody s_L_reads, defScope s_L_reads, [], []⟩
def d_L_walked : He.DefD := ⟨("_law_walked", none), "_law_walked", "_law_walked", defArgs s_L_walked, defBody s_L_walked, defScope s_L_walked, [], []⟩
def d_law : He.DefD := ⟨("law", none), "law", "law", defArgs s_law, defBody s_law, defScope s_law, [], []⟩
def fn : List He.DefD := [d_is_among, d_is_word, d_is_box, d_is_row, d_parts_of, d_reads, d_sets, d_leads, d_is_way, d_need_program, d_behind_row, d_beginnings, d_blocks, d_Values_init, d_Values_fresh, d_Values_root, d_Values_value_in, d_Values_form_of, d_Values_value_of, d_Values_join, d_Values_alike, d_Values_do, d_Values_are_one, d_is_hue, d_is_hues, d_is_pair, d_are_twins, d_is_paper, d_need_hues, d_is_careful, d_row_fault, d_are_alike, d_twins_fault, d_values_behind, d_ways_between, d_ends_fault, d_fault_of, d_all_pairs, d_paper_of, d_sure_paper, d_need_inputs, d_meant, d_Stand_init, d_Machine_init, d_Machine_place, d_Machine_boxes, d_Machine_end, d_Machine_beat, d_Machine_made, d_Machine_go_out, d_Machine_tell, d_Machine_keep, d_Machine_stumble, d_L_begin, d_L_next, d_L_two_hues, d_L_hues, d_L_plan, d_L_deed, d_L_pair, d_L_step, d_L_program, d_L_reads, d_L_walked, d_law]
def fa : List He.Fa := [.glo "is_among", .glo "is_word", .glo "is_box", .glo "is_row", .glo "parts_of", .glo "reads", .glo "sets", .glo "leads", .glo "is_way", .glo "need_program", .glo "behind_row", .glo "beginnings", .glo "blocks", .glo "is_hue", .glo "is_hues", .glo "is_pair", .glo "are_twins", .glo "is_paper", .glo "need_hues", .glo "is_careful", .glo "row_fault", .glo "are_alike", .glo "twins_fault", .glo "values_behind", .glo "ways_between", .glo "ends_fault", .glo "fault_of", .glo "all_pairs", .glo "paper_of", .glo "sure_paper", .glo "need_inputs", .glo "meant", .glo "_law_begin", .glo "_law_next", .glo "_law_two_hues", .glo "_law_hues", .glo "_law_plan", .glo "_law_deed", .glo "_law_pair", .glo "_law_step", .glo "_law_program", .glo "_law_reads", .glo "_law_walked", .glo "law", .glo "Values", .cls "Values", .mkr "Values", .noat "Values" "links", .noat "Values" "held", .noat "Values" "forms", .noat "Values" "puts", .glo "Machine", .cls "Machine", .mkr "Machine", .noat "Machine" "rows", .noat "Machine" "given", .noat "Machine" "at", .noat "Machine" "words", .noat "Machine" "store", .noat "Machine" "said", .noat "Machine" "count", .noat "Machine" "stands", .noat "Machine" "over", .noat "Machine" "done", .glo "Stand", .cls "Stand", .mkr "Stand", .noat "Stand" "at", .noat "Stand" "words", .noat "Stand" "store", .noat "Stand" "count", .noat "Stand" "used", .meth "Values" "fresh", .meth "Values" "root", .meth "Values" "value_in", .meth "Values" "form_of", .meth "Values" "value_of", .meth "Values" "join", .meth "Values" "alike", .meth "Values" "do", .meth "Values" "are_one", .meth "Machine" "place", .meth "Machine" "boxes", .meth "Machine" "end", .meth "Machine" "beat", .meth "Machine" "made", .meth "Machine" "go_out", .meth "Machine" "tell", .meth "Machine" "keep", .meth "Machine" "stumble", .free "len", .free "isinstance", .free "range", .free "enumerate", .free "zip", .free "sorted", .free "set", .free "tuple", .free "list", .free "int", .free "str", .free "bool", .free "all", .free "any", .free "dict", .free "min", .free "repr", .int "MOST_WORD" 15, .int "MANY_BOXES" 32, .int "MANY_CELLS" 16, .int "MANY_INPUTS" 8, .int "MOST_ROWS" 400, .int "MOST_KEPT" 2, .str "SET_BOX" "s", .str "READ_BOX" "r", .str "A_WORD" "n", .str "AN_INPUT" "k", .str "A_PLACE" "p", .glo "WAYS", .glo "LAST_ONES", .glo "EITHER_ORDER", .glo "PUTS", .glo "BARRED", .glo "BY_TWO", .glo "GOING_OUT", .glo "FORMS", .glo "GREATEST", .glo "COPIES"]
def ts : List He.Tab := [(fun K => He.ga K "FORMS", ["set", "copy", "add", "less", "same", "mix", "pick", "ask", "take", "tell", "put", "go", "if", "end", "hold", "tell2", "put2", "if2", "tell3", "put3", "if3", "keep"]), (fun K => He.ga K "GREATEST", ["s", "r", "n", "k", "p"]), (fun K => He.ga K "COPIES", ["hold", "tell", "tell2", "tell3", "put", "put2", "put3", "if", "if2", "if3"])]
def v_WAYS : List He.Dv := [.str "go", .str "if", .str "if2", .str "if3", .str "end"]
def v_LAST_ONES : List He.Dv := [.str "go", .str "end"]
def v_EITHER_ORDER : List He.Dv := [.str "add", .str "same", .str "mix"]
def v_PUTS : List He.Dv := [.str "put", .str "put2", .str "put3"]
def v_BARRED : List He.Dv := [.str "tell", .str "put", .str "if", .str "tell3", .str "put3", .str "if3"]
def v_BY_TWO : List He.Dv := [.str "hold", .str "tell2", .str "put2", .str "if2"]
def v_GOING_OUT : List He.Dv := [.str "tell2", .str "put2", .str "if2"]
def v_FORMS : List (Str × He.Dv) := [("set", .str "sn"), ("copy", .str "sr"), ("add", .str "srr"), ("less", .str "srr"), ("same", .str "srr"), ("mix", .str "srr"), ("pick", .str "srrr"), ("ask", .str "sk"), ("take", .str "sr"), ("tell", .str "r"), ("put", .str "rr"), ("go", .str "p"), ("if", .str "rp"), ("end", .str ""), ("hold", .str "rr"), ("tell2", .str "rr"), ("put2", .str "rrrr"), ("if2", .str "rrp"), ("tell3", .str "rrr"), ("put3", .str "rrrrrr"), ("if3", .str "rrrp"), ("keep", .str "")]
def v_GREATEST : List (Str × He.Dv) := [("s", .int 31), ("r", .int 31), ("n", .int 15), ("k", .int 7), ("p", .int 399)]
def v_COPIES : List (Str × He.Dv) := [("hold", .int 2), ("tell", .int 1), ("tell2", .int 2), ("tell3", .int 3), ("put", .int 1), ("put2", .int 2), ("put3", .int 3), ("if", .int 1), ("if2", .int 2), ("if3", .int 3)]
def ex (K : PySem.W.Frag) : Bool := (He.tupB K "WAYS" v_WAYS && (He.tupB K "LAST_ONES" v_LAST_ONES && (He.tupB K "EITHER_ORDER" v_EITHER_ORDER && (He.tupB K "PUTS" v_PUTS && (He.tupB K "BARRED" v_BARRED && (He.tupB K "BY_TWO" v_BY_TWO && (He.tupB K "GOING_OUT" v_GOING_OUT && (He.valsB K (He.ga K "FORMS") v_FORMS && (He.valsB K (He.ga K "GREATEST") v_GREATEST && He.valsB K (He.ga K "COPIES") v_COPIES)))))))))
def lo0 : List Str := ["_wall", "__name__", "SlipError", "BadProgram", "BadInputs", "BadSlip", "BadHues", "BadPaper", "MOST_WORD", "MANY_BOXES", "MANY_CELLS", "MANY_INPUTS", "MOST_ROWS", "SET_BOX", "READ_BOX", "A_WORD", "AN_INPUT", "A_PLACE", "FORMS", "GREATEST", "WAYS", "LAST_ONES", "is_among", "is_word", "is_box", "is_row", "parts_of", "reads", "sets", "leads"]
def lo1 : List Str := ["is_way", "need_program", "behind_row", "beginnings", "blocks", "EITHER_ORDER", "PUTS", "Values", "BARRED", "BY_TWO", "GOING_OUT", "is_hue", "is_hues", "is_pair", "are_twins", "is_paper", "need_hues", "is_careful", "row_fault", "are_alike", "twins_fault", "values_behind", "ways_between", "ends_fault", "fault_of", "all_pairs", "paper_of", "sure_paper", "MOST_KEPT", "COPIES"]
def lo2 : List Str := ["need_inputs", "meant", "Stand", "Machine", "_law_begin", "_law_next", "_law_two_hues", "_law_hues", "_law_plan", "_law_deed", "_law_pair", "_law_step", "_law_program", "_law_reads", "_law_walked"]
def lo : List Str := lo0 ++ lo1 ++ lo2
def lawI : Nat := 82
end SL

/-! text SlRun -/
set_option Elab.async false
set_option linter.all false
set_option maxRecDepth 100000
set_option maxHeartbeats 0
namespace SL
open PySem PySem.W PySem.Calls PyProof.Rows
abbrev R : OpenRow := OpenLaw.row PySem.Challenge.rw_slipward_k43_whole_stumbles_at_holds_alo
abbrev theView : Program := view R.prog [82]
abbrev theHook : Hook := He.hookX 4 fa fn ts [] ex
def theOb (s : SharedT) : He.AlX := He.obsX 4 fa fn ts [] ex (HandSHeadRun.getT s)
theorem theOb_eq (s : SharedT) : theOb s = theHook.obs s.abs := He.obsX_eq (HandSHeadRun.getT_eq s)
theorem runF (w : World) : HandSHeadRun.RunEq R theView theHook theOb 15000 lo (w.withFollow "special-get-raises" false) := by
  intro os
  kernel_rfl
theorem runT (w : World) : HandSHeadRun.RunEq R theView theHook theOb 15000 lo (w.withFollow "special-get-raises" true) := by
  intro os
  kernel_rfl
theorem run (w : World) : HandSHeadRun.RunEq R theView theHook theOb 15000 lo w :=
  byRow2 "special-get-raises" (P := fun w => HandSHeadRun.RunEq R theView theHook theOb 15000 lo w) runF runT w
end SL

/-! text SlMir -/
set_option linter.all false
/-! The mirror: what the program's defs compute, in plain Lean. -/
namespace SL
inductive Op where
  | add | less | same | mix
  deriving DecidableEq, Repr
inductive Row where
  | set (b n : Nat) | ask (b k : Nat) | copy (b c : Nat) | take (b c : Nat)
  | bin (o : Op) (b c d : Nat) | pick (b c d e : Nat)
  | hold (c d : Nat) | tell2 (c d : Nat) | put2 (c d e f : Nat) | if2 (c d t : Nat)
  | go (t : Nat) | fin | keep
  deriving DecidableEq, Repr
def Row.reads : Row → List Nat
  | .set _ _ => [] | .ask _ _ => [] | .copy _ c => [c] | .take _ c => [c]
  | .bin _ _ c d => [c, d] | .pick _ c d e => [c, d, e]
  | .hold c d => [c, d] | .tell2 c d => [c, d] | .put2 c d e f => [c, d, e, f] | .if2 c d _ => [c, d]
  | .go _ => [] | .fin => [] | .keep => []
def Row.sets : Row → Option Nat
  | .set b _ => some b | .ask b _ => some b | .copy b _ => some b | .take b _ => some b
  | .bin _ b _ _ => some b | .pick b _ _ _ => some b
  | _ => none
def Row.leads : Row → Option Nat
  | .if2 _ _ t => some t | .go t => some t
  | _ => none
def Row.way : Row → Bool
  | .if2 _ _ _ => true | .go _ => true | .fin => true
  | _ => false
def Row.last : Row → Bool
  | .go _ => true | .fin => true
  | _ => false
/-- the box a row sets is a box, and so on: a row of a program of n rows -/
def Row.Ok (n : Nat) : Row → Prop
  | .set b m => b < 32 ∧ m < 16
  | .ask b k => b < 32 ∧ k < 8
  | .copy b c => b < 32 ∧ c < 32
  | .take b c => b < 32 ∧ c < 32
  | .bin _ b c d => b < 32 ∧ c < 32 ∧ d < 32
  | .pick b c d e => b < 32 ∧ c < 32 ∧ d < 32 ∧ e < 32
  | .hold c d => c < 32 ∧ d < 32
  | .tell2 c d => c < 32 ∧ d < 32
  | .put2 c d e f => c < 32 ∧ d < 32 ∧ e < 32 ∧ f < 32
  | .if2 c d t => c < 32 ∧ d < 32 ∧ t < n ∧ t < 400
  | .go t => t < n ∧ t < 400
  | .fin => True
  | .keep => True
abbrev Prog := List Row
def Prog.at (p : Prog) (i : Nat) : Row := p.getD i .fin
structure Prog.Ok (p : Prog) : Prop where
  pos : 0 < p.length
  len : p.length ≤ 20
  row : ∀ r ∈ p, r.Ok p.length
  last : (p.at (p.length - 1)).last = true

/-! ### sorted, each once -/
def insS (a : Nat) : List Nat → List Nat
  | [] => [a]
  | b :: r => if a < b then a :: b :: r else if a = b then b :: r else b :: insS a r
def sset (l : List Nat) : List Nat := l.foldr insS []

/-! ### blocks -/
def behind (p : Prog) (i : Nat) : List Nat := match p.at i with
  | .fin => []
  | .go t => [t]
  | .if2 _ _ t => [i + 1, t]
  | _ => [i + 1]
def begs (n : Nat) : Nat → List Row → List Nat
  | _, [] => []
  | i, r :: rs => (match r.leads with | some t => [t] | none => []) ++ (if r.way && decide (i + 1 < n) then [i + 1] else []) ++ begs n (i + 1) rs
def beginnings (p : Prog) : List Nat := sset (0 :: begs p.length 0 p)
def blocks (p : Prog) : List (Nat × Nat) := (beginnings p).zip ((beginnings p).drop 1 ++ [p.length])
def numOf (bs : List (Nat × Nat)) (r : Nat) : Nat := bs.findIdx fun b => decide (b.1 = r)
def ways (p : Prog) (bs : List (Nat × Nat)) : List (List Nat) := bs.map fun b => sset ((behind p (b.2 - 1)).map (numOf bs))

/-! ### values -/
inductive Wd where
  | set | ask | take | pick | bin (o : Op)
  deriving DecidableEq, Repr
structure Form where
  w : Wd
  nums : List Nat
  vals : List Nat
  deriving DecidableEq, Repr
def Wd.either : Wd → Bool
  | .bin .add => true | .bin .same => true | .bin .mix => true
  | _ => false
structure VS where
  links : List Nat
  held : List (Nat × Nat)
  forms : List (Form × Nat)
  puts : Nat
  deriving DecidableEq, Repr
def rootF (l : List Nat) : Nat → Nat → Nat
  | 0, v => v
  | n + 1, v => if l.getD v 0 = v then v else rootF l n (l.getD v 0)
def VS.root (s : VS) (v : Nat) : Nat := rootF s.links v v
def putN {α : Type} [DecidableEq α] : List (α × Nat) → α → Nat → List (α × Nat)
  | [], k, v => [(k, v)]
  | (a, b) :: r, k, v => if a = k then (a, v) :: r else (a, b) :: putN r k v
def getN {α : Type} [DecidableEq α] : List (α × Nat) → α → Option Nat
  | [], _ => none
  | (a, b) :: r, k => if a = k then some b else getN r k
def VS.fresh (s : VS) : VS := { s with links := s.links ++ [s.links.length] }
/-- value_in -/
def VS.have (s : VS) (b : Nat) : VS := match getN s.held b with
  | some _ => s
  | none => { s.fresh with held := putN s.held b s.links.length }
def VS.val (s : VS) (b : Nat) : Nat := (s.have b).root ((getN (s.have b).held b).getD 0)
def insN (a : Nat) : List Nat → List Nat
  | [] => [a]
  | b :: r => if a ≤ b then a :: b :: r else b :: insN a r
def sortN (l : List Nat) : List Nat := l.foldr insN []
def VS.formOf (s : VS) (f : Form) : Form := ⟨f.w, f.nums, if f.w.either then sortN (f.vals.map s.root) else f.vals.map s.root⟩
def VS.haveForm (s : VS) (f : Form) : VS := match getN s.forms (s.formOf f) with
  | some _ => s
  | none => { s.fresh with forms := putN s.forms (s.formOf f) s.links.length }
/-- value_of -/
def VS.valOf (s : VS) (f : Form) : Nat := (s.haveForm f).root ((getN (s.haveForm f).forms (s.formOf f)).getD 0)
/-- alike: the known, the found -/
def alikeF (s : VS) : List (Form × Nat) → List (Form × Nat) → List (Nat × Nat) → List (Form × Nat) × List (Nat × Nat)
  | [], known, found => (known, found)
  | (f, v) :: r, known, found =>
    let g := s.formOf f
    let e := (getN known g).getD v
    let known' := match getN known g with | some _ => known | none => putN known g v
    alikeF s r known' (if s.root e ≠ s.root v then found ++ [(e, v)] else found)
def VS.alike (s : VS) : VS × List (Nat × Nat) := let r := alikeF s s.forms [] []; ({ s with forms := r.1 }, r.2)
def VS.link (s : VS) (a b : Nat) : VS := { s with links := s.links.set (max (s.root a) (s.root b)) (min (s.root a) (s.root b)) }
def joinF : Nat → VS → List (Nat × Nat) → VS
  | 0, s, _ => s
  | n + 1, s, w => match w.getLast? with
    | none => s
    | some p => if min (s.root p.1) (s.root p.2) = max (s.root p.1) (s.root p.2) then joinF n (s.link p.1 p.2) w.dropLast
      else joinF n (s.link p.1 p.2).alike.1 (w.dropLast ++ (s.link p.1 p.2).alike.2)
def VS.roots (s : VS) : Nat := ((List.range s.links.length).filter fun i => decide (s.links.getD i 0 = i)).length
def VS.mu (s : VS) (w : List (Nat × Nat)) : Nat := s.roots * (s.forms.length + 1) + w.length
def VS.join (s : VS) (a b : Nat) : VS := joinF (s.mu [(a, b)]) s [(a, b)]
/-- join(value_in(a), value_in(b)) -/
def VS.twin (s : VS) (a b : Nat) : VS := ((s.have a).have b).join (s.val a) ((s.have a).val b)
def VS.init (tw : List (Nat × Nat)) : VS := tw.foldl (fun s p => s.twin p.1 p.2) ⟨[], [], [], 0⟩
def VS.hold (s : VS) (b v : Nat) : VS := { s with held := putN s.held b v }
def VS.haves (s : VS) : List Nat → VS
  | [] => s
  | b :: r => (s.have b).haves r
def VS.vals (s : VS) : List Nat → List Nat
  | [] => []
  | b :: r => s.val b :: (s.have b).vals r
def VS.deed (s : VS) (b : Nat) (f : Form) : VS := (s.haveForm f).hold b (s.valOf f)
def VS.do (s : VS) : Row → VS
  | .hold c d => s.twin c d
  | .put2 _ _ _ _ => { s with puts := s.puts + 1 }
  | .copy b c => (s.have c).hold b (s.val c)
  | .set b n => s.deed b ⟨.set, [n], []⟩
  | .ask b k => s.deed b ⟨.ask, [k], []⟩
  | .take b c => (s.haves [c]).deed b ⟨.take, [s.puts], s.vals [c]⟩
  | .bin o b c d => (s.haves [c, d]).deed b ⟨.bin o, [], s.vals [c, d]⟩
  | .pick b c d e => (s.haves [c, d, e]).deed b ⟨.pick, [], s.vals [c, d, e]⟩
  | _ => s
/-- are_one -/
def VS.one (s : VS) (a b : Nat) : Bool := decide (s.val a = (s.have a).val b)
def VS.two (s : VS) (a b : Nat) : VS := (s.have a).have b

/-! ### the look -/
abbrev Hues := List Nat × List Nat
abbrev Twins := List (Nat × Nat)
def Row.careful (h : Hues) (r : Row) : Bool := match r with
  | .hold c d => decide (c ∈ h.1) && decide (d ∈ h.2)
  | .tell2 c d => decide (c ∈ h.1) && decide (d ∈ h.2)
  | .put2 c d e f => decide (c ∈ h.1) && (decide (d ∈ h.2) && (decide (e ∈ h.1) && decide (f ∈ h.2)))
  | .if2 c d _ => decide (c ∈ h.1) && decide (d ∈ h.2)
  | .go _ => true | .fin => true | .keep => true
  | r => (decide (r.sets.getD 0 ∈ h.1) && r.reads.all fun b => decide (b ∈ h.1)) || (decide (r.sets.getD 0 ∈ h.2) && r.reads.all fun b => decide (b ∈ h.2))
/-- are_alike over the boxes that go out: one list comprehension, all of it -/
def VS.pairs (s : VS) : List Nat → VS × Bool
  | a :: b :: r => let q := (s.two a b).pairs r; (q.1, s.one a b && q.2)
  | _ => (s, true)
def Row.out : Row → Bool
  | .tell2 _ _ => true | .put2 _ _ _ _ => true | .if2 _ _ _ => true
  | _ => false
def VS.rowOk (s : VS) (r : Row) : Option VS := if r.out then (if (s.pairs r.reads).2 then some ((s.pairs r.reads).1.do r) else none) else some (s.do r)
def VS.rowsOk (s : VS) : List Row → Option VS
  | [] => some s
  | r :: rs => match s.rowOk r with
    | some t => t.rowsOk rs
    | none => none
def VS.rows (s : VS) (rs : List Row) : VS := rs.foldl VS.do s
def cut (p : Prog) (b : Nat × Nat) : List Row := (p.drop b.1).take (b.2 - b.1)
/-- all of these have one value, looked at until one has not -/
def VS.all (s : VS) : Twins → VS × Bool
  | [] => (s, true)
  | q :: r => if s.one q.1 q.2 then (s.two q.1 q.2).all r else (s.two q.1 q.2, false)
def VS.ends (s : VS) (paper : List Twins) : List Nat → Bool
  | [] => true
  | k :: r => if (s.all (paper.getD k [])).2 then (s.all (paper.getD k [])).1.ends paper r else false
def blockOk (p : Prog) (ws : List (List Nat)) (paper : List Twins) (k : Nat) (b : Nat × Nat) : Bool := match (VS.init (paper.getD k [])).rowsOk (cut p b) with
  | some s => s.ends paper (ws.getD k [])
  | none => false
def faultless (p : Prog) (h : Hues) (paper : List Twins) : Bool :=
  (p.all (Row.careful h)) && ((List.range (blocks p).length).all fun k => blockOk p (ways p (blocks p)) paper k ((blocks p).getD k (0, 0)))

/-! ### the greatest paper -/
def allPairs (h : Hues) : Twins := h.1.flatMap fun a => h.2.map fun b => (a, b)
/-- a list comprehension by are_one -/
def VS.left (s : VS) : Twins → VS × Twins
  | [] => (s, [])
  | q :: r => let t := (s.two q.1 q.2).left r; (t.1, if s.one q.1 q.2 then q :: t.2 else t.2)
structure PS' where
  found : List Twins
  waiting : List Nat
def overs (s : VS) (st : PS') : List Nat → PS'
  | [] => st
  | k :: r =>
    let t := s.left (st.found.getD k [])
    overs t.1 (if t.2.length < (st.found.getD k []).length then ⟨st.found.set k t.2, (st.waiting.filter fun j => decide (j ≠ k)) ++ [k]⟩ else st) r
def paperF (p : Prog) (bs : List (Nat × Nat)) (ws : List (List Nat)) : Nat → PS' → PS'
  | 0, st => st
  | n + 1, st => match st.waiting with
    | [] => st
    | k :: r => paperF p bs ws n (overs ((VS.init (st.found.getD k [])).rows (cut p (bs.getD k (0, 0)))) ⟨st.found, r⟩ (ws.getD k []))
def PS'.mu (st : PS') : Nat := 2 * (st.found.map List.length).sum + st.waiting.length
def paper0 (p : Prog) (h : Hues) : PS' := ⟨(blocks p).map fun _ => allPairs h, List.range (blocks p).length⟩
def paperOf (p : Prog) (h : Hues) : List Twins := (paperF p (blocks p) (ways p (blocks p)) (paper0 p h).mu (paper0 p h)).found
def surePaper (p : Prog) (h : Hues) : Option (List Twins) := if faultless p h (paperOf p h) then some (paperOf p h) else none

/-! ### the machine -/
structure Stand where
  at_ : Nat
  words : List Nat
  store : List Nat
  count : Nat
  used : Bool
  deriving DecidableEq, Repr
inductive Over where
  | fin | slip
  deriving DecidableEq, Repr
structure MS where
  at_ : Nat
  words : List Nat
  store : List Nat
  said : List Nat
  count : Nat
  stands : List Stand
  over : Option Over
  done : Nat
  deriving DecidableEq, Repr
def MS.init : MS := ⟨0, List.replicate 32 0, List.replicate 16 0, [], 0, [], none, 0⟩
def opW : Op → Nat → Nat → Nat
  | .add, x, y => (x + y) % 16
  | .less, x, y => if x < y then 1 else 0
  | .same, x, y => if x = y then 1 else 0
  | .mix, x, y => x ^^^ y
def madeW (given W S : List Nat) : Row → Nat
  | .set _ n => n
  | .ask _ k => given.getD k 0
  | .copy _ c => W.getD c 0
  | .take _ c => S.getD (W.getD c 0) 0
  | .bin o _ c d => opW o (W.getD c 0) (W.getD d 0)
  | .pick _ c d e => if W.getD c 0 ≠ 0 then W.getD d 0 else W.getD e 0
  | _ => 0
def freshAt : List Stand → Option Nat
  | [] => none
  | s :: r => if s.used then (freshAt r).map (· + 1) else some 0
def MS.stumble (m : MS) : MS := match freshAt m.stands with
  | none => { m with over := some .slip }
  | some j => match m.stands.drop j with
    | [] => m
    | s :: r => { m with stands := { s with used := true } :: r, at_ := s.at_, words := s.words, store := s.store, count := s.count }
def MS.tell (m : MS) (x : Nat) : MS :=
  if m.count < m.said.length ∧ m.said.getD m.count 0 ≠ x then m.stumble
  else { m with said := if m.count = m.said.length then m.said ++ [x] else m.said, count := m.count + 1, at_ := m.at_ + 1 }
def MS.w (m : MS) (b : Nat) : Nat := m.words.getD b 0
def MS.next (m : MS) : MS := { m with at_ := m.at_ + 1 }
def MS.goOut (m : MS) : Row → MS
  | .hold c d => if m.w c = m.w d then m.next else m.stumble
  | .tell2 c d => if m.w c = m.w d then m.tell (m.w c) else m.stumble
  | .put2 c d e f => if m.w c = m.w d ∧ m.w e = m.w f then { m with store := m.store.set (m.w c) (m.w e), at_ := m.at_ + 1 } else m.stumble
  | .if2 c d t => if m.w c = m.w d then (if m.w c ≠ 0 then { m with at_ := t } else m.next) else m.stumble
  | _ => m
def MS.keep (m : MS) : MS := { m with at_ := m.at_ + 1, stands := ⟨m.at_ + 1, m.words, m.store, m.count, false⟩ :: m.stands.take 1 }
def MS.beat (p : Prog) (given : List Nat) (m : MS) : MS := match m.over with
  | some _ => m
  | none =>
    let m1 := { m with done := m.done + 1 }
    match p.at m.at_ with
    | .fin => { m1 with over := some .fin }
    | .go t => { m1 with at_ := t }
    | .keep => m1.keep
    | .hold c d => m1.goOut (.hold c d)
    | .tell2 c d => m1.goOut (.tell2 c d)
    | .put2 c d e f => m1.goOut (.put2 c d e f)
    | .if2 c d t => m1.goOut (.if2 c d t)
    | r => { m1 with words := m.words.set (r.sets.getD 0) (madeW given m.words m.store r), at_ := m.at_ + 1 }
inductive Found where
  | apart (i : Nat) | over (o : Over) (i : Nat)
  deriving DecidableEq, Repr
def apartB (m : MS) : Row → Bool
  | .tell2 c d => decide (m.w c ≠ m.w d)
  | .put2 c d e f => decide (m.w c ≠ m.w d) || decide (m.w e ≠ m.w f)
  | .if2 c d _ => decide (m.w c ≠ m.w d)
  | _ => false
def walkF (p : Prog) (given : List Nat) : Nat → MS → Option Found
  | 0, _ => none
  | n + 1, m => if apartB m (p.at m.at_) then some (.apart m.at_) else
    match (m.beat p given).over with
    | some o => some (.over o (m.beat p given).at_)
    | none => walkF p given n (m.beat p given)
def walked (p : Prog) (given : List Nat) : Option Found := walkF p given 160 MS.init
end SL

/-! text SlLay1 -/
set_option Elab.async false
set_option linter.all false
set_option maxRecDepth 100000
set_option maxHeartbeats 4000000
namespace SL
open PySem PySem.Spec L2

/-! ### a walk's iterator out of the library's GoesN: what it hands out is a new pair -/
/-- at each turn a new pair of x and y, told by Y -/
def ItP (go : Nat → Hp → Prop) (Y : Nat → Hp → V → V → Prop) (stop : Nat → Hp → Prop) : It :=
  ⟨go, fun i H v H' => ∃ T x y, v = .ref T ∧ H T = none ∧ H' = upd H T (.tup [x, y]) ∧ Y i H x y, stop⟩
theorem turn_goes {P : Program} {w : World} {K : PySem.W.Frag} {elts : List Expr} {kk : Nat} {tpos : Pos} {go : Nat → Hp → Prop} {Y : Nat → Hp → V → V → Prop} {stop : Nat → Hp → Prop} {fp : List Addr} {it : Addr} {tn : Nat → Heap → Prop}
    (mem : it ∈ fp) (obj : ∀ i h, tn i h → ∀ b ∈ fp, ∃ o, h.get? b = some o ∧ ∀ v, o.data ≠ .cell v) (keep : ∀ i h h', tn i h → (∀ b ∈ fp, ∀ o, h.get? b = some o → h'.get? b = some o) → tn i h')
    (self : ∀ (A : Around) (i : Nat) (s : Shared) (Q : Value → Shared → Prop) (E : Value → Shared → Prop), tn i s.heap → Q (.ref it) s → wpAny (model P w) A (pyIter (.ref it)) Q E s)
    (nxt : ∀ (X : Cx), X.prog = P → X.w = w → X.K = K → X.A.handled = none → ∀ (i : Nat) (pins : List (Addr × Obj)) (s : Shared) (σ : St) (H : Hp), Inv X pins σ H s → tn i s.heap → go i H →
      ∃ (fp' wr : List Addr) (n : Nat) (Z : Nat → Heap → Value → Heap → Prop) (St : Nat → Heap → Prop), GoesN P w X.A (.Tuple elts kk tpos) it fp' wr n Z St ∧ i < n ∧ St i s.heap ∧ (∀ b ∈ wr, b ∈ fp) ∧ (∀ h', St (i + 1) h' → tn (i + 1) h') ∧
        ∀ v h', Z i s.heap v h' → ∃ T x y u u', v = .ref T ∧ s.heap.objs.size ≤ T ∧ h'.IsTuple T #[u, u'] ∧ RelV x u ∧ RelV y u' ∧ Y i H x y)
    (stp : ∀ (X : Cx), X.prog = P → X.w = w → X.K = K → X.A.handled = none → ∀ (i : Nat) (pins : List (Addr × Obj)) (s : Shared) (σ : St) (H : Hp), Inv X pins σ H s → tn i s.heap → stop i H →
      ∃ (fp' wr : List Addr) (Z : Nat → Heap → Value → Heap → Prop) (St : Nat → Heap → Prop), GoesN P w X.A (.Tuple elts kk tpos) it fp' wr i Z St ∧ St i s.heap ∧ (∀ b ∈ wr, b ∈ fp)) :
    Turn P w K (.Tuple elts kk tpos) (ItP go Y stop) fp it tn where
  mem := mem
  obj := obj
  keep := keep
  item := by
    intro X hP hw hK hc i pins s σ H E I hf st hg
    obtain ⟨fp', wr, n, Z, St, G, hi, hSt, hwr, hback, hZ⟩ := nxt X hP hw hK (I.ok.hd hc) i pins s σ H I st hg
    subst hP hw hK
    refine wpAny_mono (G.goes i s (fun v s2 => ∃ x H', Inv X pins σ H' s2 ∧ RelV x v ∧ (ItP go Y stop).yld i H x H' ∧ tn (i + 1) s2.heap ∧ ∀ b ∈ fp, H' b = none) E hi hSt ?_) (fun r s1 h1 => ?_) fun _ _ z => z
    rotate_left
    · obtain ⟨v, hv, h2⟩ := h1
      exact ⟨v, hv, h2⟩
    intro v h' tk hz hst' hk htk
    obtain ⟨T, x, y, u, u', hv, hT, hTup, rx, ry, hY⟩ := hZ v h' hz
    subst hv
    have hn : H T = none := I.hok.fresh hT
    obtain ⟨ot, hot, hct, nt, hdt⟩ := id hTup
    have new : ObjOk X.prog X.w (upd H T (.tup [x, y])) h' T (.tup [x, y]) :=
      ⟨by show 2 ≤ sizeLine; decide, [u, u'], .cons rx (.cons ry .nil), ⟨ot, hot, hct, nt, hdt⟩⟩
    have I1 : Inv X pins σ (upd H T (.tup [x, y])) { s with heap := h', toks := tk } :=
      I.turnedNew (ch := fp) (fun b ob hb q => hk b ob (fun z => hb (hwr b z)) q) hf hT new
    refine ⟨.ref T, _, I1, rfl, ⟨T, x, y, rfl, hn, rfl, hY⟩, hback _ hst', fun b hb => ?_⟩
    obtain ⟨ob, hob, _⟩ := obj i _ st b hb
    rw [upd_ne (Nat.ne_of_lt (Nat.lt_of_lt_of_le (Heap.lt_size hob) hT))]
    exact (hf b hb).1
  done := by
    intro X hP hw hK hc i pins s σ H E I hf st hg
    obtain ⟨fp', wr, Z, St, G, hSt, hwr⟩ := stp X hP hw hK (I.ok.hd hc) i pins s σ H I st hg
    subst hP hw hK
    refine G.stops s (fun s1 => Inv X pins σ H s1) E hSt fun h' tk hk htk => ?_
    exact I.turnedL (t' := tk) (ch := fp) (fun b o hb q => hk b o (fun z => hb (hwr b z)) q) hf
  self := self

/-! ### enumerate over a tuple -/
theorem meets_enumerate_newT (l : Addr) (items : Array Value) :
    Meets (Builtin.«enumerate.__new__» ⟨[.type "enumerate", .ref l], []⟩) (fun _ R s => s.heap.IsTuple l items ∧
      R (.ok (.ret (.ref (s.heap.push { cls := .type "tuple_iterator", data := .fields #[.ref l, .int 0 0] }).objs.size)))
        { s with heap := (s.heap.push { cls := .type "tuple_iterator", data := .fields #[.ref l, .int 0 0] }).push { cls := .type "enumerate", data := .fields #[.none, .bool false, .ref s.heap.objs.size, rawInt 0, .none, .none] } }) :=
  .of_wp fun prog w A R s h => by
    obtain ⟨hp, g, d, tk, os⟩ := s; obtain ⟨hl, h⟩ := h
    have hsub := sub_enumerate
    have hL : Heap.IsTuple (Shared.heap ⟨hp, g, d, tk, os⟩) l items := hl
    wp_walk
    refine wpAny_stack_any fun st => wpAny_pure ?_
    split
    · rename_i c _ _ _ _ _
      cases (c == Value.type "enumerate")
      · wp_walk using wpAny_pyIter_tuple hL
        exact ⟨_, rfl, h⟩
      · wp_walk using wpAny_pyIter_tuple hL
        exact ⟨_, rfl, h⟩
    · wp_walk using wpAny_pyIter_tuple hL
      exact ⟨_, rfl, h⟩
section
variable {prog : Program} {w : World} {A : Around} {E : Value → Shared → Prop} {s : Shared}
theorem call_enumerate_tuple {l : Addr} {items : Array Value} {Q : Value → Shared → Prop} (hL : s.heap.IsTuple l items)
    (h : ∀ h', IsEnum h' (s.heap.objs.size + 1) s.heap.objs.size 0 .none → h'.IsTupleIter s.heap.objs.size l 0 → h'.objs.size = s.heap.objs.size + 2 →
      (∀ b o, s.heap.get? b = some o → h'.get? b = some o) → Q (.ref (s.heap.objs.size + 1)) { s with heap := h' }) :
    wpAny (model prog w) A (call (.type "enumerate") [.ref l]) Q E s := by
  refine callType_new F.called_enumerate (by decide) (F.typeCall_enumerate_1 _) (F.newCall_enumerate_1 _) (fun obj => F.args_object_init_2 obj _) F.entry_enumerate_new
    (meets_enumerate_newT l items) ⟨hL, ?_⟩
  have hz : (s.heap.push { cls := .type "tuple_iterator", data := .fields #[.ref l, .int 0 0] }).objs.size = s.heap.objs.size + 1 := Heap.size_push ..
  show _ ∧ _
  rw [hz]
  have he : IsEnum ((s.heap.push { cls := .type "tuple_iterator", data := .fields #[.ref l, .int 0 0] }).push { cls := .type "enumerate", data := .fields #[.none, .bool false, .ref s.heap.objs.size, rawInt 0, .none, .none] }) (s.heap.objs.size + 1) s.heap.objs.size 0 .none := by
    rw [← hz]
    exact Heap.get?_push_size _ rfl
  have hit : ((s.heap.push { cls := .type "tuple_iterator", data := .fields #[.ref l, .int 0 0] }).push { cls := .type "enumerate", data := .fields #[.none, .bool false, .ref s.heap.objs.size, rawInt 0, .none, .none] }).IsTupleIter s.heap.objs.size l 0 :=
    ⟨_, Heap.get?_push_of_some _ (Heap.get?_push_size _ rfl), rfl, rfl⟩
  refine ⟨⟨_, he, rfl⟩, h _ he hit (by rw [Heap.size_push, hz]) fun b o e => Heap.get?_push_of_some _ (Heap.get?_push_of_some _ e)⟩
end

/-- the tuple at a, numbered -/
def IteT (K : PySem.W.Frag) (a : Addr) : It :=
  ItP (fun i H => ∃ (xs : List V) (x : V), SqT K H a xs ∧ xs[i]? = some x) (fun i H x y => x = .int (i : Nat) ∧ ∀ xs, SqT K H a xs → xs[i]? = some y) (fun i H => ∃ xs : List V, SqT K H a xs ∧ xs.length = i)
theorem turn_enumT {P : Program} {w : World} {K : PySem.W.Frag} {elts : List Expr} {kk : Nat} {tpos : Pos} (a e it : Addr) :
    Turn P w K (.Tuple elts kk tpos) (IteT K a) [e, it] e (fun i h => (∃ old, IsEnum h e it ((i : Nat) : Int) old) ∧ h.IsTupleIter it a i ∧ e ≠ it ∧ a ≠ it ∧ e ≠ a) := by
  refine turn_goes (by simp) (fun i h st b hb => ?_) (fun i h h' st k => ?_) (fun A i s Q E st h => ?_) ?_ ?_
  · obtain ⟨⟨old, he⟩, ⟨o, ho, hc, hd⟩, _⟩ := st
    have e' : b = e ∨ b = it := by simpa using hb
    rcases e' with z | z
    · rw [z]; exact ⟨_, he, fun v q => nomatch q⟩
    · rw [z]; exact ⟨o, ho, fun v q => by rw [hd] at q; cases q⟩
  · obtain ⟨⟨old, he⟩, hi, hne⟩ := st
    exact ⟨⟨old, k e (by simp) _ he⟩, hi.at fun o q => k it (by simp) o q, hne⟩
  · obtain ⟨⟨_, he⟩, _⟩ := st
    exact wpAny_pyIter_enum he h
  · intro X hP hw hK hh i pins s σ H I st hg
    subst hP hw hK
    obtain ⟨⟨old, he⟩, hit, hne, hai, hea⟩ := st
    obtain ⟨xs, x, hq, hx⟩ := hg
    obtain ⟨its, rv, p, hz⟩ := I.tuple hq
    have p' : s.heap.IsTuple a its.toArray := p
    have hl := rv.length
    have hi : i < xs.length := (List.getElem?_eq_some_iff.mp hx).1
    refine ⟨_, _, _, _, _, GoesN.enumFrom 0 (Draws.tuple (A := X.A.in1) hh it a hai its.toArray) e hne (by simp [hne, hea]) (by simp), by simpa [← hl] using hi, ⟨⟨old, by rw [Int.zero_add]; exact he⟩, hit, p'⟩, fun b hb => hb, fun h' st' => ?_, fun v h' hz' => ?_⟩
    · obtain ⟨⟨old', he'⟩, hit', _⟩ := st'
      rw [Int.zero_add] at he'
      exact ⟨⟨old', he'⟩, hit', hne, hai, hea⟩
    · obtain ⟨T, t, u, hv, hT, hu, hTup⟩ := hz'
      rw [Int.zero_add] at hTup
      obtain ⟨u2, hu2, ru⟩ := rv.get hx
      have e1 : u2 = u := by
        have : its.toArray[i]? = some u2 := by simpa using hu2
        rw [hu] at this
        exact (Option.some.inj this).symm
      subst e1
      exact ⟨T, .int (i : Nat), x, _, u2, hv, hT, hTup, ⟨t, rfl⟩, ru, rfl, fun ys hy => by rw [I.tuple_inj hy hq]; exact hx⟩
  · intro X hP hw hK hh i pins s σ H I st hg
    subst hP hw hK
    obtain ⟨⟨old, he⟩, hit, hne, hai, hea⟩ := st
    obtain ⟨xs, hq, hx⟩ := hg
    obtain ⟨its, rv, p, hz⟩ := I.tuple hq
    have p' : s.heap.IsTuple a its.toArray := p
    have hl := rv.length
    have G := GoesN.enumFrom (prog := X.prog) (w := X.w) (A := X.A) (elts := elts) (x1 := kk) (pos := tpos) 0 (Draws.tuple (A := X.A.in1) hh it a hai its.toArray) e hne (by simp [hne, hea]) (by simp)
    have en : its.toArray.size = i := by simp [← hl, hx]
    rw [en] at G
    exact ⟨_, _, _, _, G, ⟨⟨old, by rw [Int.zero_add]; exact he⟩, hit, p'⟩, fun b hb => hb⟩
def iEnumT (K : PySem.W.Frag) (ta : TA) : TI := fun σ H R => ta σ H fun vs H1 => ∃ a xs, vs = [.ref a] ∧ SqT K H1 a xs ∧ R (IteT K a) H1
theorem pi_enumT {X : Cx} {e : Expr} {ta : TA} {p pos tpos : Pos} {elts : List Expr} {kk : Nat} (hg : Gl X "enumerate") (hm : X.mg "enumerate" = none) (ha : PA X [e] ta) (hs : starEach [e] X.env = [(false, eval e X.env)] := by rfl) :
    PI X (.Tuple elts kk tpos) (.Call (.Name "enumerate" p) [e] [] pos) (iEnumT X.K ta) := by
  refine ⟨fun pins s σ H R I h => ?_⟩
  refine PyProof.Rows.Call_ (ld_blt I hg hm PyProof.Rows.boot_enumerate (PyProof.Rows.callWith_type1 (thn (ha.run pos pins s σ H _ I h) fun us s1 ⟨vs, H1, I1, r1, q1⟩ => ?_) hs rfl))
  obtain ⟨a, xs, ex, hq, q⟩ := q1
  subst ex
  cases r1 with
  | cons r rr =>
    cases rr
    cases r
    obtain ⟨its, rv, p', hz⟩ := I1.tuple hq
    have hal : a < s1.heap.objs.size := p'.lt
    refine call_enumerate_tuple (show s1.heap.IsTuple a its.toArray from p') fun h' he hit hsz hk => wpAny_pyIter_enum he ?_
    have I2 : Inv X pins σ H1 { s1 with heap := h' } := I1.kept (t' := s1.toks) hk
    refine ⟨s1.heap.objs.size + 1, [s1.heap.objs.size + 1, s1.heap.objs.size], _, _, H1, rfl, I2, turn_enumT a (s1.heap.objs.size + 1) s1.heap.objs.size, ⟨⟨.none, he⟩, hit, Nat.succ_ne_self _, Nat.ne_of_lt hal, Nat.ne_of_gt (Nat.lt_succ_of_lt hal)⟩, fun b hb => ?_, q⟩
    have e' : b = s1.heap.objs.size + 1 ∨ b = s1.heap.objs.size := by simpa using hb
    have hle : s1.heap.objs.size ≤ b := by
      rcases e' with z | z
      · rw [z]; exact Nat.le_add_right _ _
      · rw [z]; exact Nat.le_refl _
    exact I1.fpOk hle (I1.hok.fresh hle)
theorem walk_enumT {K : PySem.W.Frag} {a : Addr} {xs : List V} : Walk (IteT K a) xs.length (fun H => SqT K H a xs) (YPair (fun i => some (.int (i : Nat))) (fun i => xs[i]?)) := by
  refine ⟨fun i _ hi q => ⟨xs, xs[i], q, by simp [hi]⟩, fun _ q => ⟨xs, q, rfl⟩, fun i H v H' _ q y => ?_⟩
  obtain ⟨T, x, y, h1, h2, h3, h4, h5⟩ := y
  exact ⟨T, .int (i : Nat), y, h1, h2, by rw [h3, h4], rfl, h5 xs q⟩

/-! ### zip of a text and a tuple -/
def ItzS (K : PySem.W.Frag) (z : Str) (b : Addr) : It :=
  ItP (fun i H => i < z.cps.size ∧ ∃ (ys : List V) (y : V), SqT K H b ys ∧ ys[i]? = some y) (fun i H x y => (∃ c, z.cps[i]? = some c ∧ x = .str ⟨#[c]⟩) ∧ ∀ ys, SqT K H b ys → ys[i]? = some y)
    (fun i H => ∃ ys : List V, SqT K H b ys ∧ i = min z.cps.size ys.length)
theorem turn_zipS {P : Program} {w : World} {K : PySem.W.Frag} {elts : List Expr} {kk : Nat} {tpos : Pos} {b z TI TO i1 i2 : Addr} (zs : Str) (t : Tok) (D : ZipSep2 z TI TO i1 i2 [i1] [i2, b]) (hb2 : b ≠ i2) :
    Turn P w K (.Tuple elts kk tpos) (ItzS K zs b) [z, TI, TO, i1, i2] z (fun i h => IsZip h z TI TO .none ∧ IsTupOf2 h TI (.ref i1) (.ref i2) ∧ (∃ x y, IsTupOf2 h TO x y) ∧ h.IsStrIter i1 (strIterType zs) zs t i ∧ h.IsTupleIter i2 b i) := by
  refine turn_goes (by simp) (fun i h st c hc => ?_) (fun i h h' st k => ?_) (fun A i s Q E st h => ?_) ?_ ?_
  · obtain ⟨hz, hTI, ⟨x, y, hTO⟩, h1, ⟨o2, e2, _, d2⟩⟩ := st
    have e' : c = z ∨ c = TI ∨ c = TO ∨ c = i1 ∨ c = i2 := by simpa using hc
    rcases e' with q | q | q | q | q
    · rw [q]; exact ⟨_, hz, fun v q => nomatch q⟩
    · rw [q]; exact ⟨_, hTI, fun v q => nomatch q⟩
    · rw [q]; exact ⟨_, hTO, fun v q => nomatch q⟩
    · rw [q]
      obtain ⟨o1, e1, _, d1⟩ := h1
      exact ⟨o1, e1, fun v q => by rw [d1] at q; cases q⟩
    · rw [q]; exact ⟨o2, e2, fun v q => by rw [d2] at q; cases q⟩
  · obtain ⟨hz, hTI, ⟨x, y, hTO⟩, h1, h2⟩ := st
    exact ⟨k z (by simp) _ hz, k TI (by simp) _ hTI, ⟨x, y, k TO (by simp) _ hTO⟩, (let ⟨o, e, r⟩ := h1; ⟨o, k i1 (by simp) _ e, r⟩), h2.at fun o q => k i2 (by simp) o q⟩
  · exact wpAny_pyIter_zip st.1 h
  · intro X hP hw hK hh i pins s σ H I st hg
    subst hP hw hK
    obtain ⟨hz, hTI, hTO, h1, h2⟩ := st
    obtain ⟨hi1, ys, y, hq, hy⟩ := hg
    obtain ⟨its, rv, p, hz'⟩ := I.tuple hq
    have p' : s.heap.IsTuple b its.toArray := p
    have hl := rv.length
    have hi : i < ys.length := (List.getElem?_eq_some_iff.mp hy).1
    have hlen : i < its.toArray.size := by simpa [← hl] using hi
    refine ⟨_, _, _, _, _, GoesN.zip2 D (Draws.text (A := X.A.in1) hh i1 zs t) (Draws.tuple (A := X.A.in1) hh i2 b hb2 its.toArray), by omega, ⟨hz, hTI, hTO, h1, h2, p'⟩, fun c hc => ?_, fun h' st' => ?_, fun v h' hz' => ?_⟩
    · have e' : c = z ∨ c = TO ∨ c = i1 ∨ c = i2 := by simpa using hc
      rcases e' with q | q | q | q <;> rw [q] <;> simp
    · exact ⟨st'.1, st'.2.1, st'.2.2.1, st'.2.2.2.1, st'.2.2.2.2.1⟩
    · obtain ⟨T, x1, y1, hv, hT, ⟨c, uu, hc, hx1⟩, hy1, hTup⟩ := hz'
      obtain ⟨u2, hu2, ru⟩ := rv.get hy
      have e1 : u2 = y1 := by
        have : its.toArray[i]? = some u2 := by simpa using hu2
        rw [hy1] at this
        exact (Option.some.inj this).symm
      subst e1
      subst hx1
      exact ⟨T, .str ⟨#[c]⟩, y, _, u2, hv, hT, hTup, ⟨uu, rfl⟩, ru, ⟨c, hc, rfl⟩, fun ys' hy' => by rw [I.tuple_inj hy' hq]; exact hy⟩
  · intro X hP hw hK hh i pins s σ H I st hg
    subst hP hw hK
    obtain ⟨hz, hTI, hTO, h1, h2⟩ := st
    obtain ⟨ys, hq, hi⟩ := hg
    obtain ⟨its, rv, p, hz'⟩ := I.tuple hq
    have p' : s.heap.IsTuple b its.toArray := p
    have hl := rv.length
    have G := GoesN.zip2 (elts := elts) (x1 := kk) (pos := tpos) D (Draws.text (prog := X.prog) (w := X.w) (A := X.A.in1) hh i1 zs t) (Draws.tuple (A := X.A.in1) hh i2 b hb2 its.toArray)
    have en : min zs.cps.size its.toArray.size = i := by simp [← hl, hi]
    rw [en] at G
    refine ⟨_, _, _, _, G, ⟨hz, hTI, hTO, h1, h2, p'⟩, fun c hc => ?_⟩
    have e' : c = z ∨ c = TO ∨ c = i1 ∨ c = i2 := by simpa using hc
    rcases e' with q | q | q | q <;> rw [q] <;> simp
def iZipS (K : PySem.W.Frag) (ta : TA) : TI := fun σ H R => ta σ H fun vs H1 => ∃ z b ys, vs = [.str z, .ref b] ∧ SqT K H1 b ys ∧ R (ItzS K z b) H1
theorem pi_zipS {X : Cx} {e e2 : Expr} {ta : TA} {p pos tpos : Pos} {elts : List Expr} {kk : Nat} (hg : Gl X "zip") (hm : X.mg "zip" = none) (ha : PA X [e, e2] ta)
    (hs : starEach [e, e2] X.env = (false, eval e X.env) :: starEach [e2] X.env := by rfl) (hpl : (backTo pos (starEach [e2] X.env)).any (·.1) = false := by rfl) :
    PI X (.Tuple elts kk tpos) (.Call (.Name "zip" p) [e, e2] [] pos) (iZipS X.K ta) := by
  refine ⟨fun pins s σ H R I h => ?_⟩
  refine PyProof.Rows.Call_ (ld_blt I hg hm PyProof.Rows.boot_zip (PyProof.Rows.callWith_type1 (thn (ha.run pos pins s σ H _ I h) fun us s1 ⟨vs, H1, I1, r1, q1⟩ => ?_) hs hpl))
  obtain ⟨z, b, ys, ex, hq, q⟩ := q1
  subst ex
  cases r1 with
  | cons r rr =>
    cases rr with
    | cons r' rr =>
      cases rr
      obtain ⟨t, rfl⟩ := r
      cases r'
      obtain ⟨its, rv, p1, _⟩ := I1.tuple hq
      have hbl : b < s1.heap.objs.size := p1.lt
      refine zip_begins2 (begins_text z t) (begins_tuple b its.toArray) trivial (show s1.heap.IsTuple b its.toArray from p1) fun h' hz hTI hTO h1 h2 hsz hk => wpAny_pyIter_zip hz ?_
      have I2 : Inv X pins σ H1 { s1 with heap := h' } := I1.kept (t' := s1.toks) hk
      have D := zip_sep2 (N := s1.heap.objs.size) (fp1 := []) (fp2 := [b]) (by simp) (by simpa using hbl)
      refine ⟨s1.heap.objs.size + 4, [s1.heap.objs.size + 4, s1.heap.objs.size + 2, s1.heap.objs.size + 3, s1.heap.objs.size, s1.heap.objs.size + 1], _, _, H1, rfl, I2, turn_zipS z t D (Nat.ne_of_lt (Nat.lt_succ_of_lt hbl)), ⟨hz, hTI, ⟨_, _, hTO⟩, ⟨_, h1, rfl, rfl⟩, ⟨_, h2, rfl, rfl⟩⟩, fun c hcm => ?_, q⟩
      have e' : c = s1.heap.objs.size + 4 ∨ c = s1.heap.objs.size + 2 ∨ c = s1.heap.objs.size + 3 ∨ c = s1.heap.objs.size ∨ c = s1.heap.objs.size + 1 := by simpa using hcm
      have hle : s1.heap.objs.size ≤ c := by
        rcases e' with z | z | z | z | z
        · rw [z]; exact Nat.le_add_right _ _
        · rw [z]; exact Nat.le_add_right _ _
        · rw [z]; exact Nat.le_add_right _ _
        · rw [z]; exact Nat.le_refl _
        · rw [z]; exact Nat.le_add_right _ _
      exact I1.fpOk hle (I1.hok.fresh hle)
theorem walk_zipS {K : PySem.W.Frag} {z : Str} {b : Addr} {ys : List V} {n : Nat} (h1 : z.cps.size = n) (h2 : ys.length = n) :
    Walk (ItzS K z b) n (fun H => SqT K H b ys) (YPair (fun i => z.cps[i]?.map fun c => .str ⟨#[c]⟩) (fun i => ys[i]?)) := by
  refine ⟨fun i _ hi q => ⟨by omega, ys, ys[i], q, by simp [h2, hi]⟩, fun _ q => ⟨ys, q, by omega⟩, fun i H v H' _ q y => ?_⟩
  obtain ⟨T, x, y, e1, e2, e3, ⟨c, e4, e5⟩, e6⟩ := y
  exact ⟨T, x, y, e1, e2, e3, by show (z.cps[i]?).map _ = _; rw [e4, e5]; rfl, e6 ys q⟩
end SL

/-! text SlLay2 -/
set_option Elab.async false
set_option linter.all false
set_option maxRecDepth 100000
set_option maxHeartbeats 4000000
namespace SL
open PySem PySem.Spec L2

/-! ### what values are made of, as keys -/
def vn (n : Nat) : V := .int (n : Int)
def Op.str : Op → Str
  | .add => "add" | .less => "less" | .same => "same" | .mix => "mix"
def Wd.str : Wd → Str
  | .set => "set" | .ask => "ask" | .take => "take" | .pick => "pick" | .bin o => o.str
theorem Wd.str_inj {a b : Wd} (h : a.str = b.str) : a = b := by
  have key : ∀ x ∈ [Wd.set, .ask, .take, .pick, .bin .add, .bin .less, .bin .same, .bin .mix], ∀ y ∈ [Wd.set, .ask, .take, .pick, .bin .add, .bin .less, .bin .same, .bin .mix], x.str = y.str → x = y := by decide +kernel
  have all : ∀ x : Wd, x ∈ [Wd.set, .ask, .take, .pick, .bin .add, .bin .less, .bin .same, .bin .mix] := by
    intro x
    cases x with
    | bin o => cases o <;> simp
    | _ => simp
  exact key a (all a) b (all b) h
def nk (n : Nat) : NestedKey := .num (n : Int)
def fkey (f : Form) : NestedKey := .tup [.text f.w.str, .tup (f.nums.map nk), .tup (f.vals.map nk)]
theorem nk_inj : ∀ {a b : List Nat}, a.map nk = b.map nk → a = b
  | [], [], _ => rfl
  | [], _ :: _, h => by cases h
  | _ :: _, [], h => by cases h
  | x :: a, y :: b, h => by
    have h1 : nk x = nk y := (List.cons.inj h).1
    have h2 := nk_inj (List.cons.inj h).2
    have h3 : (x : Int) = y := NestedKey.num.inj h1
    rw [h2, show x = y by omega]
theorem fkey_inj {f g : Form} (h : fkey f = fkey g) : f = g := by
  have h1 := NestedKey.tup.inj h
  obtain ⟨a, h2⟩ := List.cons.inj h1
  obtain ⟨b, h3⟩ := List.cons.inj h2
  obtain ⟨c, _⟩ := List.cons.inj h3
  have e1 := Wd.str_inj (NestedKey.text.inj a)
  have e2 := nk_inj (NestedKey.tup.inj b)
  have e3 := nk_inj (NestedKey.tup.inj c)
  obtain ⟨w, n, v⟩ := f
  obtain ⟨w', n', v'⟩ := g
  have e1 : w = w' := e1
  have e2 : n = n' := e2
  have e3 : v = v' := e3
  rw [e1, e2, e3]
theorem depth_nk : ∀ l : List Nat, NestedKey.depthAll (l.map nk) = 0
  | [] => rfl
  | x :: r => by
    show max (NestedKey.depth (nk x)) (NestedKey.depthAll (r.map nk)) = 0
    rw [depth_nk r]
    rfl
theorem fkey_depth (f : Form) : (fkey f).depth ≤ 8 := by
  show NestedKey.depthAll _ + 1 ≤ 8
  show max (NestedKey.depth (.text f.w.str)) (max (NestedKey.depthAll (f.nums.map nk) + 1) (max (NestedKey.depthAll (f.vals.map nk) + 1) 0)) + 1 ≤ 8
  rw [depth_nk, depth_nk]
  show max 0 (max (0 + 1) (max (0 + 1) 0)) + 1 ≤ 8
  decide
/-- the key f stands at t -/
def KeyTup (H : Hp) (t : Addr) (f : Form) : Prop := ∃ a b, H t = some (.tup [.str f.w.str, .ref a, .ref b]) ∧ H a = some (.tup (f.nums.map vn)) ∧ H b = some (.tup (f.vals.map vn))
theorem KeyTup.same {H H' : Hp} {t : Addr} {f : Form} (k : KeyTup H t f) (s : ∀ a xs, H a = some (.tup xs) → H' a = some (.tup xs)) : KeyTup H' t f :=
  let ⟨a, b, h1, h2, h3⟩ := k; ⟨a, b, s _ _ h1, s _ _ h2, s _ _ h3⟩
theorem nested_vn {h : Heap} : ∀ {l : List Nat} {us : List Value}, Vals (l.map vn) us → NestedAll h (l.map nk) us
  | [], [], .nil => .nil
  | _ :: _, _ :: _, .cons r t => by
    obtain ⟨t', rfl⟩ := r
    exact .cons (.int _ _) (nested_vn t)
theorem nested_tup {X : Cx} {pins : List (Addr × Obj)} {σ : St} {H : Hp} {s : Shared} {a : Addr} {l : List Nat} (I : Inv X pins σ H s) (h : H a = some (.tup (l.map vn))) : NestedIs s.heap (.tup (l.map nk)) (.ref a) := by
  obtain ⟨its, rv, ⟨o, ho, hc, n, hd⟩, _⟩ := I.tuple (.of h)
  refine .tup ho hc hd ?_
  simpa using nested_vn rv
theorem KeyTup.is {X : Cx} {pins : List (Addr × Obj)} {σ : St} {H : Hp} {s : Shared} {t : Addr} {f : Form} (I : Inv X pins σ H s) (k : KeyTup H t f) : (nestedKind X.prog X.w).is s.heap (fkey f) t := by
  obtain ⟨a, b, h1, h2, h3⟩ := k
  refine ⟨?_, fkey_depth f⟩
  obtain ⟨its, rv, ⟨o, ho, hc, n, hd⟩, _⟩ := I.tuple (.of h1)
  refine .tup ho hc hd ?_
  cases rv with
  | cons r1 rv =>
    cases rv with
    | cons r2 rv =>
      cases rv with
      | cons r3 rv =>
        cases rv
        obtain ⟨t', rfl⟩ := r1
        cases r2
        cases r3
        exact .cons (.text _ _) (.cons (nested_tup I h2) (.cons (nested_tup I h3) .nil))

/-! ### such a dict -/
abbrev FX : Type := NestedKey × Addr × Value
def FDo (P : Program) (w : World) (d : Addr) (ep : Nat) (xs : List FX) : HO := .ext fun h =>
  (d == sysModules) = false ∧ (xs.map (·.1)).Nodup ∧ h.DictRaw d ((xs.map (entryOfKey (nestedKind P w))).toArray) ep
/-- an entry's parts: its key's tuple, its value -/
def FEnt (H : Hp) (p : Form × Nat) (x : FX) : Prop := x.1 = fkey p.1 ∧ KeyTup H x.2.1 p.1 ∧ RelV (vn p.2) x.2.2
def FDat (P : Program) (w : World) (H : Hp) (d : Addr) (kvs : List (Form × Nat)) : Prop := ∃ ep xs, H d = some (FDo P w d ep xs) ∧ Paired (FEnt H) kvs xs
theorem paired_map {α β : Type} {F G : α → β → Prop} : ∀ {l₁ : List α} {l₂ : List β}, Paired F l₁ l₂ → (∀ a b, F a b → G a b) → Paired G l₁ l₂ := fun r f => Paired.mapP r f
theorem FDat.same {P : Program} {w : World} {H H' : Hp} {d : Addr} {kvs : List (Form × Nat)} (k : FDat P w H d kvs) (hd : ∀ o, H d = some o → H' d = some o) (s : ∀ a xs, H a = some (.tup xs) → H' a = some (.tup xs)) : FDat P w H' d kvs :=
  let ⟨ep, xs, h1, h2⟩ := k; ⟨ep, xs, hd _ h1, Paired.mapP h2 fun _ _ r => ⟨r.1, r.2.1.same s, r.2.2⟩⟩
theorem atKey_get {H : Hp} (f : Form) : ∀ {kvs : List (Form × Nat)} {xs : List FX}, Paired (FEnt H) kvs xs →
    (getN kvs f = none ∧ atKey xs (fkey f) = none) ∨ ∃ v q, getN kvs f = some v ∧ atKey xs (fkey f) = some q ∧ RelV (vn v) q.2
  | [], [], .nil => .inl ⟨rfl, rfl⟩
  | (g, v) :: kvs, (k, q) :: xs, .cons r t => by
    obtain ⟨r1, r2, r3⟩ := r
    have r1 : k = fkey g := r1
    by_cases e : g = f
    · refine .inr ⟨v, q, by simp [getN, e], ?_, r3⟩
      simp [atKey, r1, e]
    · have e2 : ¬ fkey g = fkey f := fun z => e (fkey_inj z)
      rcases atKey_get f t with ⟨h1, h2⟩ | ⟨v', q', h1, h2, h3⟩
      · refine .inl ⟨by simp [getN, e, h1], ?_⟩
        simpa [atKey, List.find?_cons, r1, e2] using h2
      · refine .inr ⟨v', q', by simp [getN, e, h1], ?_, h3⟩
        simpa [atKey, List.find?_cons, r1, e2] using h2
theorem putN_new {α : Type} [DecidableEq α] : ∀ {l : List (α × Nat)} {k : α} (v : Nat), getN l k = none → putN l k v = l ++ [(k, v)]
  | [], _, _, _ => rfl
  | (a, b) :: r, k, v, h => by
    by_cases e : a = k
    · simp [getN, e] at h
    · simp only [getN, e, if_false] at h
      simp [putN, e, putN_new v h]
theorem Paired.snoc {α β : Type} {F : α → β → Prop} : ∀ {l₁ : List α} {l₂ : List β} {a : α} {b : β}, Paired F l₁ l₂ → F a b → Paired F (l₁ ++ [a]) (l₂ ++ [b])
  | _, _, _, _, .nil, h => .cons h .nil
  | _, _, _, _, .cons r t, h => .cons r (Paired.snoc t h)
section
variable {X : Cx} {pins : List (Addr × Obj)} {σ : St} {H : Hp} {s : Shared} {d : Addr} {ep : Nat} {xs : List FX} {kvs : List (Form × Nat)}
theorem FDo.at (I : Inv X pins σ H s) (h : H d = some (FDo X.prog X.w d ep xs)) : (d == sysModules) = false ∧ (xs.map (·.1)).Nodup ∧ s.heap.DictRaw d ((xs.map (entryOfKey (nestedKind X.prog X.w))).toArray) ep := (I.hok d _ h).1
theorem FDat.dict (I : Inv X pins σ H s) (h : H d = some (FDo X.prog X.w d ep xs)) (r : Paired (FEnt H) kvs xs) : s.heap.DictOfH (nestedKind X.prog X.w) d xs := by
  obtain ⟨_, h2, o, ho, hc, hd⟩ := FDo.at I h
  refine ⟨o, _, ep, ho, hc, hd, by simp, ?_, h2⟩
  have key : ∀ {kvs : List (Form × Nat)} {xs : List FX}, Paired (FEnt H) kvs xs → ∀ x ∈ xs, (nestedKind X.prog X.w).is s.heap x.1 x.2.1 := by
    intro kvs xs r
    induction r with
    | nil => intro x hx; cases hx
    | cons r t ih =>
      intro x hx
      rcases List.mem_cons.mp hx with e | hx
      · rw [e, r.1]
        exact r.2.1.is I
      · exact ih x hx
  exact key r
/-- what a write leaves, as an object of the abstract heap -/
theorem FDo.new {P : Program} {w : World} {H' : Hp} {h : Heap} (h1 : (d == sysModules) = false) (h2 : h.DictOfH (nestedKind P w) d xs) : ∃ ep, ObjOk P w H' h d (FDo P w d ep xs) := by
  obtain ⟨o, es, ep, ho, hc, hd, he, _, hn⟩ := h2
  refine ⟨ep, ⟨h1, hn, o, ho, hc, ?_⟩, ⟨o, ho⟩, fun a b z k => ⟨z.1, z.2.1, z.2.2.at k⟩⟩
  rw [hd, ← he]
theorem room_of {k : Nat} {A : Around} (hr : Room k A) : (nestedKind X.prog X.w).room A.in1 := by
  have h := hr.un
  show A.units + 1 + 8 < cLine
  omega
end

/-! ### its operations -/
section
variable {X : Cx} {e i o : Expr} {td ty tv : TE} {pos pos' : Pos} {k : Nat}
/-- {} that will hold such keys -/
def tDNewF (P : Program) (w : World) : TE := fun _ H Q => ∀ p, H p = none → ∀ ep, Q (.ref p) (upd H p (FDo P w p ep []))
theorem pe_dnewF : PE X (.Dict [] [] pos) (tDNewF X.prog X.w) := ⟨fun pins s σ H Q I h => by
  have hd : (s.heap.objs.size == sysModules) = false := beq_eq_false_iff_ne.mpr (Ne.symm (Nat.ne_of_lt I.big))
  obtain ⟨ep, new⟩ := FDo.new (H' := upd H s.heap.objs.size (FDo X.prog X.w s.heap.objs.size 0 [])) hd (Heap.DictOfH.new (knd := nestedKind X.prog X.w) s.heap)
  obtain ⟨ep, new⟩ := FDo.new (H' := upd H s.heap.objs.size (FDo X.prog X.w s.heap.objs.size ep [])) hd (Heap.DictOfH.new (knd := nestedKind X.prog X.w) s.heap)
  have new' : ObjOk X.prog X.w (upd H s.heap.objs.size (FDo X.prog X.w s.heap.objs.size ep [])) (s.heap.push { cls := .type "dict", data := .dict #[] }) s.heap.objs.size (FDo X.prog X.w s.heap.objs.size ep []) := ⟨new.1, new.2.1, new.2.2⟩
  exact wpAny_Dict_empty ⟨.ref s.heap.objs.size, _, I.laid (a := s.heap.objs.size) (t' := s.toks) (fun _ _ q => Heap.get?_push_of_some _ q) (Nat.le_refl _) new', rfl, h _ (I.hok.fresh (Nat.le_refl _)) ep⟩⟩
/-- k not in d -/
def tFNotIn (P : Program) (w : World) (ty td : TE) : TE := fun σ H Q => ty σ H fun y H1 => td σ H1 fun x H2 => ∃ d t f kvs, x = .ref d ∧ y = .ref t ∧ FDat P w H2 d kvs ∧ KeyTup H2 t f ∧ Q (.bl (!(getN kvs f).isSome)) H2
theorem pc_fnotin (hr : Room k X.A) (hi : PE X i ty) (ho : PE X o td) : PC X .NotIn i o (tFNotIn X.prog X.w ty td) := by
  refine ⟨fun pins s σ H Q I h => ?_⟩
  refine thn (hi.run pins s σ H _ I h) fun iv s1 ⟨y, H1, I1, ry, q1⟩ => thn (ho.run pins s1 σ H1 _ I1 q1) fun u s2 ⟨x, H2, I2, rx, d, t, f, kvs, ex, ey, ⟨ep, xs, hd, r⟩, hk, q2⟩ => ?_
  subst ex ey
  obtain rfl : u = Value.ref d := rx
  obtain rfl : iv = Value.ref t := ry
  show wpAny _ _ (do return Value.bool (!(← contains (.ref d) (.ref t)))) _ _ _
  refine wpAny_bind (wpAny_contains_heap (room_of hr) (hk.is I2) (FDo.at I2 hd).1 (FDat.dict I2 hd r) (wpAny_pure ?_))
  have e : (atKey xs (fkey f)).isSome = (getN kvs f).isSome := by
    rcases atKey_get f r with ⟨h1, h2⟩ | ⟨_, _, h1, h2, _⟩ <;> rw [h1, h2] <;> rfl
  exact ⟨.bl _, H2, I2.tok _, by rw [e]; rfl, q2⟩
/-- d[k], the key there -/
def tFGet (P : Program) (w : World) (td ty : TE) : TE := fun σ H Q => td σ H fun x H1 => ty σ H1 fun y H2 => ∃ d t f kvs v, x = .ref d ∧ y = .ref t ∧ FDat P w H2 d kvs ∧ KeyTup H2 t f ∧ getN kvs f = some v ∧ Q (vn v) H2
theorem pe_fget (hr : Room k X.A) (ho : PE X o td) (hi : PE X i ty) (hs : NoSl i) : PE X (.Subscript o i pos) (tFGet X.prog X.w td ty) := by
  refine ⟨fun pins s σ H Q I h => ?_⟩
  refine subD_of PySem.F.slot_dict_getitem.lookup hs (thn (ho.run pins s σ H _ I h) fun u s1 ⟨x, H1, I1, rx, q1⟩ => thn (hi.run pins s1 σ H1 _ I1 q1) fun iv s2 ⟨y, H2, I2, ry, d, t, f, kvs, v, ex, ey, ⟨ep, xs, hd, r⟩, hk, hv, q2⟩ => ?_)
  subst ex ey
  obtain rfl : u = Value.ref d := rx
  obtain rfl : iv = Value.ref t := ry
  refine ⟨(FDo.at I2 hd).2.2.typeIs, ?_⟩
  rcases atKey_get f r with ⟨h1, _⟩ | ⟨v', q', h1, h2, h3⟩
  · rw [h1] at hv; cases hv
  · rw [h1] at hv; cases hv
    exact wpAny_getItem_heap (room_of hr) (hk.is I2) (FDat.dict I2 hd r) h2 ⟨vn v, H2, I2.tok _, h3, q2⟩
theorem fd_write {pins : List (Addr × Obj)} {σ : St} {H : Hp} {s : Shared} {d : Addr} {ep : Nat} {xs ys : List FX} {h' : Heap} {tk : Nat} (I : Inv X pins σ H s) (hd : H d = some (FDo X.prog X.w d ep xs)) (dd : h'.DictOfH (nestedKind X.prog X.w) d ys) (sb : Heap.SameBut d s.heap h') :
    ∃ ep', Inv X pins σ (upd H d (FDo X.prog X.w d ep' ys)) { s with heap := h', toks := tk } := by
  obtain ⟨ep', new⟩ := FDo.new (H' := H) (FDo.at I hd).1 dd
  have new' : ObjOk X.prog X.w (upd H d (FDo X.prog X.w d ep' ys)) h' d (FDo X.prog X.w d ep' ys) := ⟨new.1, new.2.1, new.2.2⟩
  exact ⟨ep', d_write I (by rw [hd]; exact True.intro) sb new.2.1 new'⟩
/-- d[k] = v, the key not there yet -/
def sFPut (P : Program) (w : World) (td ty tv : TE) : TS := fun D σ H => tv σ H fun v H1 => td σ H1 fun x H2 => ty σ H2 fun y H3 => ∃ d t f kvs n, x = .ref d ∧ y = .ref t ∧ v = vn n ∧ FDat P w H3 d kvs ∧ KeyTup H3 t f ∧ getN kvs f = none ∧ kvs.length < 100000 ∧
  ∀ o, FDat P w (upd H3 d o) d (putN kvs f n) → D.nx σ (upd H3 d o)
theorem ps_fput (hr : Room k X.A) (ho : PE X o td) (hi : PE X i ty) (hv : PE X e tv) (hs : swapsWith e (some (.Subscript o i pos')) pos.line X.env = pure false) :
    PS X (.Assign [.Subscript o i pos'] e pos) (sFPut X.prog X.w td ty tv) := by
  refine ⟨fun pins s σ H D I h => ?_⟩
  refine wpAny_Assign_Subscript (thn (hv.run pins s σ H _ I h) fun r s1 ⟨v, H1, I1, rv, q1⟩ => thn (ho.run pins s1 σ H1 _ I1 q1) fun u s2 ⟨x, H2, I2, rx, q2⟩ => thn (hi.run pins s2 σ H2 _ I2 q2) fun iv s3 ⟨y, H3, I3, ry, d, t, f, kvs, n, ex, ey, ev, ⟨ep, xs, hd, rr⟩, hk, hn, hz, q3⟩ => ?_) hs
  subst ex ey ev
  obtain rfl : u = Value.ref d := rx
  obtain rfl : iv = Value.ref t := ry
  have hl : xs.length = kvs.length := (Paired.length rr).symm
  have hnone : atKey xs (fkey f) = none := by
    rcases atKey_get f rr with ⟨_, h2⟩ | ⟨_, _, h1, _, _⟩
    · exact h2
    · rw [h1] at hn; cases hn
  refine wpAny_setItem_heap (hsz := by rw [hl, sizeLine_eq]; omega) (room_of hr) (hk.is I3) (FDat.dict I3 hd rr) fun h' dd sb => ?_
  rw [storedH_new hnone] at dd
  obtain ⟨ep', I4⟩ := fd_write (tk := s3.toks + (nestedKind X.prog X.w).draws (fkey f)) I3 hd dd sb
  have ht : ∀ a xs', H3 a = some (.tup xs') → upd H3 d (FDo X.prog X.w d ep' (xs ++ [(fkey f, t, r)])) a = some (.tup xs') := fun a xs' z => by
    rw [upd_ne (ne_of z hd (by intro z; cases z))]
    exact z
  refine ⟨σ, _, I4, q3 _ ⟨ep', _, upd_same, ?_⟩⟩
  rw [putN_new n hn]
  exact Paired.snoc (Paired.mapP rr fun _ _ z => ⟨z.1, z.2.1.same ht, z.2.2⟩) ⟨rfl, hk.same ht, rv⟩
/-- known.setdefault(k, v) -/
def tFSetd (P : Program) (w : World) (td ty tx : TE) : TE := fun σ H Q => td σ H fun x H1 => (∃ d ep xs, x = .ref d ∧ H1 d = some (FDo P w d ep xs)) ∧ ty σ H1 fun y H2 => tx σ H2 fun z H3 => ∃ d t f kvs n, x = .ref d ∧ y = .ref t ∧ z = vn n ∧ FDat P w H3 d kvs ∧ KeyTup H3 t f ∧ kvs.length < 100000 ∧
  (∀ v, getN kvs f = some v → Q (vn v) H3) ∧ (getN kvs f = none → ∀ o, FDat P w (upd H3 d o) d (putN kvs f n) → Q (vn n) (upd H3 d o))
theorem pe_fsetd {apos cpos : Pos} (hr : Room k X.A) (ho : PE X o td) (hi : PE X i ty) (he : PE X e tv) (m : M2 X o "setdefault" apos i e cpos) : PE X (.Call (.Attribute o "setdefault" apos) [i, e] [] cpos) (tFSetd X.prog X.w td ty tv) := by
  refine ⟨fun pins s σ H Q I h => ?_⟩
  refine wpAny_Call_method m.base m.few m.line PySem.F.plainAttrs_dict PySem.F.slot_dict_setdefault PySem.F.type_dict_setdefault (thn (ho.run pins s σ H _ I h) fun u s1 ⟨x, H1, I1, rx, ⟨d0, ep0, xs0, ex0, hd0⟩, q1⟩ => ?_)
  subst ex0
  obtain rfl : u = Value.ref d0 := rx
  refine ⟨(FDo.at I1 hd0).2.2.typeIs, fun b eb => ?_, ?_⟩
  · cases eb
    obtain ⟨ob, hob, hc, _⟩ := (FDo.at I1 hd0).2.2
    exact ⟨ob, hob, hc.2.1⟩
  rw [m.trees]
  refine Calls.callWith_builtin rfl (Calls.evalArgs_plain (Calls.spliced_cons (thn (hi.run pins s1 σ H1 _ I1 q1) fun iv s2 ⟨y, H2, I2, ry, q2⟩ =>
    Calls.spliced_cons (thn (he.run pins s2 σ H2 _ I2 q2) fun fv s3 ⟨z, H3, I3, rz, d, t, f, kvs, n, ex, ey, ez, ⟨ep, xs, hd, rr⟩, hk, hz, q3, q4⟩ => Calls.spliced_nil ?_))))
  cases ex
  subst ey ez
  obtain rfl : iv = Value.ref t := ry
  have hl : xs.length = kvs.length := (Paired.length rr).symm
  refine call_setdefault_heap (hsz := by rw [hl, sizeLine_eq]; omega) (room_of hr) (hk.is I3) (FDo.at I3 hd).1 (FDat.dict I3 hd rr) (fun p hp => ?_) fun hn h' dd sb => ?_
  · rcases atKey_get f rr with ⟨_, h2⟩ | ⟨v', q', h1, h2, h3⟩
    · rw [h2] at hp; cases hp
    · rw [h2] at hp; cases hp
      exact ⟨vn v', H3, I3.tok _, h3, q3 _ h1⟩
  · have hn' : getN kvs f = none := by
      rcases atKey_get f rr with ⟨h1, _⟩ | ⟨_, _, _, h2, _⟩
      · exact h1
      · rw [h2] at hn; cases hn
    rw [storedH_new hn] at dd
    obtain ⟨ep', I4⟩ := fd_write (tk := s3.toks + (nestedKind X.prog X.w).draws (fkey f)) I3 hd dd sb
    have ht : ∀ a xs', H3 a = some (.tup xs') → upd H3 d0 (FDo X.prog X.w d0 ep' (xs ++ [(fkey f, t, fv)])) a = some (.tup xs') := fun a xs' z => by
      rw [upd_ne (ne_of z hd (by intro z; cases z))]
      exact z
    refine ⟨vn n, _, I4, rz, q4 hn' _ ⟨ep', _, upd_same, ?_⟩⟩
    rw [putN_new n hn']
    exact Paired.snoc (Paired.mapP rr fun _ _ z => ⟨z.1, z.2.1.same ht, z.2.2⟩) ⟨rfl, hk.same ht, rz⟩
end
end SL

/-! text SlLay3 -/
set_option Elab.async false
set_option linter.all false
set_option maxRecDepth 100000
set_option maxHeartbeats 4000000
namespace SL
open PySem PySem.Spec L2
/-! ### items() of such a dict, walked -/
def fes (P : Program) (w : World) (xs : List FX) : Array DictEntry := (xs.map (entryOfKey (nestedKind P w))).toArray
theorem fes_size (P : Program) (w : World) (xs : List FX) : (fes P w xs).size = xs.length := by simp [fes]
def ItF (P : Program) (w : World) (d : Addr) (ep : Nat) (xs : List FX) : It :=
  ItP (fun i H => H d = some (FDo P w d ep xs) ∧ i < xs.length) (fun i H x y => ∃ q, xs[i]? = some q ∧ x = .ref q.2.1 ∧ RelV y q.2.2) (fun i H => H d = some (FDo P w d ep xs) ∧ i = xs.length)
theorem rel_of {X : Cx} {pins : List (Addr × Obj)} {σ : St} {H : Hp} {s : Shared} {kvs : List (Form × Nat)} {xs : List FX} (r : Paired (FEnt H) kvs xs) {i : Nat} {q : FX} (h : xs[i]? = some q) : ∃ p, kvs[i]? = some p ∧ FEnt H p q := by
  induction r generalizing i with
  | nil => simp at h
  | cons r t ih =>
    cases i with
    | zero => simp at h; subst h; exact ⟨_, rfl, r⟩
    | succ i => simpa using ih (by simpa using h)
theorem turn_fitems {P : Program} {w : World} {K : PySem.W.Frag} {elts : List Expr} {kk : Nat} {tpos : Pos} (d it : Addr) (ep : Nat) (xs : List FX) (hv : ∀ q ∈ xs, ∃ n : Nat, RelV (vn n) q.2.2) :
    Turn P w K (.Tuple elts kk tpos) (ItF P w d ep xs) [it] it (fun i h => (∃ ok ov, IsItemIter h it d i xs.length ep ok ov) ∧ d ≠ it) := by
  refine turn_goes (by simp) (fun i h st b hb => ?_) (fun i h h' st k => ?_) (fun A i s Q E st h => ?_) ?_ ?_
  · obtain ⟨⟨ok, ov, he⟩, _⟩ := st
    have e' : b = it := by simpa using hb
    rw [e']
    exact ⟨_, he, fun v q => nomatch q⟩
  · obtain ⟨⟨ok, ov, he⟩, hne⟩ := st
    exact ⟨⟨ok, ov, k it (by simp) _ he⟩, hne⟩
  · obtain ⟨⟨ok, ov, he⟩, _⟩ := st
    have G := GoesN.rawItems (prog := P) (w := w) (A := A) (elts := elts) (x1 := kk) (pos := tpos)
    exact wpAny_pyIter_itemiter he h
  · intro X hP hw hK hh i pins s σ H I st hg
    subst hP hw hK
    obtain ⟨⟨ok, ov, he⟩, hne⟩ := st
    obtain ⟨hd, hi⟩ := hg
    have hr := (FDo.at I hd).2.2
    have hsz := fes_size X.prog X.w xs
    refine ⟨_, _, _, _, _, GoesN.rawItems hh it d hne (fes X.prog X.w xs) ep, by rw [hsz]; exact hi, ⟨⟨ok, ov, by rw [hsz]; exact he⟩, hr⟩, fun b hb => hb, fun h' st' => ?_, fun v h' hz' => ?_⟩
    · obtain ⟨⟨ok', ov', he'⟩, _⟩ := st'
      rw [hsz] at he'
      exact ⟨⟨ok', ov', he'⟩, hne⟩
    · obtain ⟨T, hi', hv', hT, hTup⟩ := hz'
      have e1 : xs[i]? = some xs[i] := List.getElem?_eq_getElem hi
      have ek : (fes X.prog X.w xs)[i] = entryOfKey (nestedKind X.prog X.w) xs[i] := by simp [fes]
      obtain ⟨n, rn⟩ := hv xs[i] (List.getElem_mem hi)
      rw [ek] at hTup
      exact ⟨T, .ref xs[i].2.1, vn n, .ref xs[i].2.1, xs[i].2.2, hv', hT, hTup, rfl, rn, xs[i], e1, rfl, rn⟩
  · intro X hP hw hK hh i pins s σ H I st hg
    subst hP hw hK
    obtain ⟨⟨ok, ov, he⟩, hne⟩ := st
    obtain ⟨hd, hi⟩ := hg
    have hr := (FDo.at I hd).2.2
    have hsz := fes_size X.prog X.w xs
    have G := GoesN.rawItems (prog := X.prog) (w := X.w) (A := X.A) (elts := elts) (x1 := kk) (pos := tpos) hh it d hne (fes X.prog X.w xs) ep
    have hi2 : i = (fes X.prog X.w xs).size := by rw [hsz, hi]
    subst hi2
    refine ⟨_, _, _, _, G, ⟨⟨ok, ov, ?_⟩, hr⟩, fun b hb => hb⟩
    rw [← hsz] at he
    exact he
def iFItems (P : Program) (w : World) (td : TE) : TI := fun σ H R => td σ H fun x H1 => ∃ d ep xs, x = .ref d ∧ H1 d = some (FDo P w d ep xs) ∧ (∀ q ∈ xs, ∃ n : Nat, RelV (vn n) q.2.2) ∧ R (ItF P w d ep xs) H1
theorem pi_fitems {X : Cx} {e : Expr} {td : TE} {elts : List Expr} {kk : Nat} {tpos apos cpos : Pos} (he : PE X e td) (hbase : attributeBase e "items" X.env (eval e X.env) = eval e X.env := by rfl) (hline : (apos.endLine == cpos.line) = true := by rfl) :
    PI X (.Tuple elts kk tpos) (.Call (.Attribute e "items" apos) [] [] cpos) (iFItems X.prog X.w td) := by
  refine ⟨fun pins s σ H R I h => ?_⟩
  refine wpAny_Call_method (T := "dict") (id := "dict.items") hbase rfl hline PySem.F.plainAttrs_dict PySem.F.slot_dict_items PySem.F.type_dict_items (thn (he.run pins s σ H _ I h) fun u s1 ⟨x, H1, I1, rx, d, ep, xs, ex, hd, hv, q⟩ => ?_)
  subst ex
  obtain rfl : u = Value.ref d := rx
  have hr := (FDo.at I1 hd).2.2
  refine ⟨hr.typeIs, fun b eb => ?_, ?_⟩
  · cases eb
    obtain ⟨ob, hob, hc, _⟩ := hr
    exact ⟨ob, hob, hc.2.1⟩
  have hdl : d < s1.heap.objs.size := I1.hok.lt hd
  have I2 : Inv X pins σ H1 { s1 with heap := s1.heap.push { cls := .type "dict_items", data := .fields #[.ref d] } } := I1.kept (t' := s1.toks) fun b ob q => Heap.get?_push_of_some _ q
  have fin : wpAny (model X.prog X.w) X.A (pyIter (.ref s1.heap.objs.size)) (PIE X pins σ (.Tuple elts kk tpos) R) X.xe { s1 with heap := s1.heap.push { cls := .type "dict_items", data := .fields #[.ref d] } } := by
    refine wpAny_pyIter_items_raw (d := d) ⟨_, Heap.get?_push_size _ rfl, rfl, rfl⟩ (hr.at fun o z => Heap.get?_push_of_some _ z) ?_
    refine pi_one (tk := s1.toks) I2 _ (turn_fitems d _ ep xs hv) ⟨⟨.none, .none, ?_⟩, ?_⟩ q
    · have hsz := fes_size X.prog X.w xs
      show _ = _
      rw [← hsz]
      exact Heap.get?_push_size _ rfl
    · rw [Heap.size_push]
      exact Nat.ne_of_lt (Nat.lt_succ_of_lt hdl)
  show wpAny _ _ (callWith cpos (.builtin "dict.items") [.ref d] [] []) _ X.xe s1
  exact method_meetsIn PySem.F.slot_dict_items PySem.F.entry_dict_items rfl (PySem.evalArgs_none ⟨rfl, hr.typeIs, PySem.F.args_dict_items_1 _, _, meets_dict_items_raw d (FDo.at I1 hd).1, ⟨_, _, hr⟩, fin⟩)
theorem walk_fitems {P : Program} {w : World} {d : Addr} {ep : Nat} {xs : List FX} : Walk (ItF P w d ep xs) xs.length (fun H => H d = some (FDo P w d ep xs)) (fun i H v H' => ∃ T x y, v = .ref T ∧ H T = none ∧ H' = upd H T (.tup [x, y]) ∧ ∃ q, xs[i]? = some q ∧ x = .ref q.2.1 ∧ RelV y q.2.2) :=
  ⟨fun i _ hi q => ⟨q, hi⟩, fun _ q => ⟨q, rfl⟩, fun i H v H' _ q y => y⟩
end SL

/-! text SlLay4 -/
set_option Elab.async false
set_option linter.all false
set_option maxRecDepth 100000
set_option maxHeartbeats 8000000
namespace SL
open PySem PySem.Spec L2
/-! ### set(a list of ints) -/
abbrev newSet (w : World) : Obj := { cls := .type "set", dict := none, data := .set #[] 0 (.fresh 0 0 (!w.params.followText "set-order")) }
section
variable {P : Program} {w : World} {A : Around} {E : Value → Shared → Prop} {s : Shared}
theorem set_of_list {l : Addr} {items : Array Value} (ns : List Int) {Q : Value → Shared → Prop} (hh : A.handled = none) (hl : s.heap.IsList l items) (hit : PyProof.Rows.IntsAre items.toList ns) (hb : ns.length + 1 < scanBound)
    (h : ∀ (h' : Heap) (tk c : Nat), SetR w h' s.heap.objs.size (fun j => decide (j ∈ ns)) c → c ≤ ns.length → (∀ b o, s.heap.get? b = some o → h'.get? b = some o) → Q (.ref s.heap.objs.size) { s with heap := h', toks := tk }) :
    wpAny (model P w) A (call (.type "set") [.ref l]) Q E s := by
  have hisz : items.size = ns.length := by
    have q := PyProof.Rows.IntsAre.length hit
    rwa [Array.length_toList] at q
  obtain ⟨c, tl, hmro⟩ := F.called_set.mro
  have m1 := F.called_set.made
  have m2 := F.called_set.sub
  refine wpAny_call (codeAny_of_tree ?_)
  show wpAny _ _ (callAny (.type "set") _) _ _ _
  refine wpAny_pure ⟨Code.quiet_builtin _ (by decide +kernel), codeAny_builtin F.entry_type_call ?_⟩
  rw [Around.under_plain (weight_type_call_type "set" [.ref l] []) rfl]
  have n1 := F.called_set.notType
  have n2 := F.called_set.canCreate
  have n3 := F.typeCall_set_1 (.ref l)
  repeat (any_goals (first | assumption | wp_step))
  refine codeAny_mono (code_set_led1 (.ref l) (E := E) (Q₁ := fun obj s1 => obj = .ref s.heap.objs.size ∧ s1 = { s with heap := s.heap.push (newSet w) }) ⟨rfl, rfl⟩) fun r s1 hr => ?_
  cases r with
  | error e => exact hr
  | ok fl =>
    cases fl with
    | ret obj =>
      obtain ⟨rfl, rfl⟩ := hr
      have hS : (s.heap.push (newSet w)).get? s.heap.objs.size = some (newSet w) := Heap.get?_push_size _ rfl
      have hT : Shared.TypeIs { s with heap := s.heap.push (newSet w) } (.ref s.heap.objs.size) "set" := ⟨_, hS, rfl⟩
      have i1 := F.called_set.init.lookup
      have i2 := F.called_set.init.bind (.ref s.heap.objs.size)
      repeat (any_goals (first | assumption | wp_step))
      refine codeAny_mono (codeAny_call_builtin (R := wants (fun r s2 => r = .none ∧ ∃ h' tk c, s2 = { s with heap := h', toks := tk } ∧ SetR w h' s.heap.objs.size (fun j => decide (j ∈ ns)) c ∧ c ≤ ns.length ∧
          (∀ b o, s.heap.get? b = some o → h'.get? b = some o)) E) F.called_set.init.plain F.entry_set_init (check_set_init_1 hT ?_)) fun r2 s2 hr2 => ?_
      · obtain ⟨⟨ocls, odict, odata, oslots⟩, hol, hcl, nl, hdl⟩ := hl
        have hcl : ocls = .type "list" := hcl
        have hdl : odata = .seq items nl := hdl
        subst hcl hdl
        have hol1 : (s.heap.push (newSet w)).get? l = some { cls := .type "list", dict := odict, data := .seq items nl, slots := oslots } := Heap.get?_push_of_some _ hol
        have k1 := F.sub_list_set
        have k2 := F.sub_list_frozenset
        have k3 : (Value.type "list" == Value.type "dict") = false := by decide
        have hl1 : (s.heap.push (newSet w)).IsList l items := ⟨_, hol1, rfl, nl, rfl⟩
        unfold Builtin.«set.__init__» noKeywords Builtin.Frozenset.updateFrom
        generalize hPI : pyIter = PI
        wp_walk
        subst hPI
        refine wpAny_pyIter_list hl1 (wpAny_bind (wpAny_runValue ?_))
        have hlS : l < s.heap.objs.size := Heap.lt_size hol
        have hz : (s.heap.push (newSet w)).objs.size = s.heap.objs.size + 1 := Heap.size_push ..
        have ne1 : l ≠ (s.heap.push (newSet w)).objs.size := by
          rw [hz]
          exact Nat.ne_of_lt (Nat.lt_succ_of_lt hlS)
        have ne2 : s.heap.objs.size ∉ [(s.heap.push (newSet w)).objs.size, l] := by
          rw [hz]
          intro hm
          rcases List.mem_cons.mp hm with z | z
          · exact Nat.succ_ne_self _ z.symm
          · exact Nat.ne_of_gt hlS (List.mem_singleton.mp z)
        have hval : ∀ (i : Nat) (v : Value), items[i]? = some v → ∃ k t, ns[i]? = some k ∧ v = .int k t := fun i v hv => by
          have hi : i < ns.length := by
            rw [← hisz]
            exact (Array.getElem?_eq_some_iff.mp hv).1
          obtain ⟨t, e⟩ := PyProof.Rows.IntsAre.int_at hit i v (by rwa [Array.getElem?_toList])
          refine ⟨ns[i], t, List.getElem?_eq_getElem hi, ?_⟩
          rw [e, List.getD_eq_getElem?_getD, List.getElem?_eq_getElem hi]
          rfl
        refine set_update_ints ((Walks.list (by simp [hh]) _ l ne1 items).toS) s.heap.objs.size ne2 ns hisz hb hval (items.size - 0) 0 _ (by omega) (Nat.zero_le _)
          ⟨⟨_, Heap.get?_push_size _ rfl, rfl, rfl⟩, (hl1.push _)⟩ ⟨0, Nat.le_refl 0, setR_new_at (Heap.get?_push_of_some _ hS)⟩ fun s' c' hm hc' hS' => ?_
        obtain ⟨h', g2, d', tk', os'⟩ := s'
        obtain rfl : g2 = s.gens := hm.gens
        obtain rfl : d' = s.drawn := hm.drawn
        obtain rfl : os' = s.os := hm.os
        show wpAny _ _ _ _ _ _
        refine wpAny_pure ?_
        show wpAny _ _ (ret Value.none) _ _ _
        rw [hisz] at hc'
        refine wpAny_pure ⟨rfl, h', tk', c', rfl, hS', hc', fun b o e => ?_⟩
        have b0 : b < s.heap.objs.size := Heap.lt_size e
        refine hm.heap b o (fun z => ?_) (Heap.get?_push_of_some _ (Heap.get?_push_of_some _ e))
        rcases List.mem_cons.mp z with z | z
        · exact Nat.ne_of_lt b0 z
        · have z := List.mem_singleton.mp z
          rw [hz] at z
          exact Nat.ne_of_lt (Nat.lt_succ_of_lt b0) z
      · cases r2 with
        | error e => exact hr2
        | ok fl2 =>
          cases fl2 with
          | ret r =>
            obtain ⟨rfl, h', tk, c', rfl, q1, q2, q3⟩ := hr2
            repeat (any_goals (first | assumption | wp_step))
            exact h _ _ _ q1 q2 q3
          | _ => exact hr2.elim
    | _ => exact hr.elim
end
theorem ints_of {ns : List Int} {us : List Value} (r : Vals (ns.map V.int) us) : PyProof.Rows.IntsAre us ns := by
  induction ns generalizing us with
  | nil => cases r; exact .nil
  | cons n r' ih =>
    cases r with
    | cons a b =>
      obtain ⟨t, rfl⟩ := a
      exact .cons _ _ (ih b)
/-- set(xs): a set of its ints -/
def rSetL (K : PySem.W.Frag) (w : World) : List V → Hp → VK → Prop := fun xs H Q => ∃ (a : Addr) (ns : List Int), xs = [V.ref a] ∧ SqL K H a (ns.map V.int) ∧ ns.length ≤ 1000 ∧ ∀ p c, H p = none → c ≤ ns.length → Q (.ref p) (upd H p (SetO w p (fun j => decide (j ∈ ns)) c))
theorem cr_setL {X : Cx} (hc : X.calm = true) : CallR X (.type "set") (rSetL X.K X.w) := by
  intro pins s σ H xs us Q I r h
  obtain ⟨a, ns, rfl, hq, hl, q⟩ := h
  rw [Vals.ref1 r]
  obtain ⟨its, rv, pl, _⟩ := I.list hq
  refine set_of_list ns (I.ok.hd hc) pl.isList (by simpa using ints_of rv) (by unfold scanBound; omega) fun h' tk c R hcn k => ?_
  exact ⟨.ref s.heap.objs.size, _, I.laid (t' := tk) k (Nat.le_refl _) (setO_new R), rfl, q _ c (I.hok.fresh (Nat.le_refl _)) hcn⟩
end SL

/-! text SlLay5 -/
set_option Elab.async false
set_option linter.all false
set_option maxRecDepth 100000
set_option maxHeartbeats 8000000
namespace SL
open PySem PySem.Spec L2
/-! ### list(zip(xs, ys)) of two lists -/
theorem zip_len : typeLookup (.type "zip") "__len__" = pure none := am_miss_of_fast (by decide +kernel)
theorem zip_hint : typeLookup (.type "zip") "__length_hint__" = pure none := am_miss_of_fast (by decide +kernel)
/-- the zip at its i-th turn; S is the list that is being filled -/
structure ZAt (h : Heap) (z TI TO i1 i2 l1 l2 : Addr) (xs ys : Array Value) (S i : Nat) : Prop where
  out : (IsZip h z TI TO .none ∧ ∃ a b, IsPair h TO a b) ∨ ∃ T f oT, IsZipHeld h z TI TO T f ∧ h.get? T = some oT ∧ T ≠ z ∧ T ≠ i1 ∧ T ≠ i2 ∧ T ≠ S
  ti : IsPair h TI (.ref i1) (.ref i2)
  a : h.IsListIter i1 l1 i
  b : h.IsListIter i2 l2 i
  la : h.IsList l1 xs
  lb : h.IsList l2 ys
structure ZOff (z TI TO i1 i2 l1 l2 S : Addr) : Prop where
  D : ZipApart z TI TO i1 i2 l1 l2
  z : z ≠ S
  TI : TI ≠ S
  TO : TO ≠ S
  i1 : i1 ≠ S
  i2 : i2 ≠ S
  l1 : l1 ≠ S
  l2 : l2 ≠ S
theorem ZAt.upd {h : Heap} {z TI TO i1 i2 l1 l2 : Addr} {xs ys : Array Value} {S i : Nat} (st : ZAt h z TI TO i1 i2 l1 l2 xs ys S i) (O : ZOff z TI TO i1 i2 l1 l2 S) {h' : Heap} (k : ∀ b o, b ≠ S → h.get? b = some o → h'.get? b = some o) : ZAt h' z TI TO i1 i2 l1 l2 xs ys S i where
  out := by
    rcases st.out with ⟨h1, a, b, h2⟩ | ⟨T, f, oT, h1, h2, h3, h4, h5, h6⟩
    · exact .inl ⟨k _ _ O.z h1, a, b, k _ _ O.TO h2⟩
    · exact .inr ⟨T, f, oT, k _ _ O.z h1, k _ _ h6 h2, h3, h4, h5, h6⟩
  ti := k _ _ O.TI st.ti
  a := st.a.at fun o e => k _ _ O.i1 e
  b := st.b.at fun o e => k _ _ O.i2 e
  la := st.la.at fun o e => k _ _ O.l1 e
  lb := st.lb.at fun o e => k _ _ O.l2 e
section
variable {prog : Program} {w : World} {A : Around} {E : Value → Shared → Prop} {s : Shared} {z TI TO i1 i2 l1 l2 : Addr} {xs ys : Array Value} {S i : Nat}
theorem z_item {x y : Value} {Q : Option Value → Shared → Prop} (O : ZOff z TI TO i1 i2 l1 l2 S) (st : ZAt s.heap z TI TO i1 i2 l1 l2 xs ys S i) (hS : S < s.heap.objs.size) (hx : xs[i]? = some x) (hy : ys[i]? = some y)
    (hQ : ∀ h', ZAt h' z TI TO i1 i2 l1 l2 xs ys S (i + 1) → IsPair h' s.heap.objs.size x y → h'.objs.size = s.heap.objs.size + 1 → (∀ c o, c ≠ z → c ≠ TO → c ≠ i1 → c ≠ i2 → s.heap.get? c = some o → h'.get? c = some o) → Q (some (.ref s.heap.objs.size)) { s with heap := h' }) :
    wpAny (model prog w) A (pyNext (.ref z)) Q E s := by
  have D := O.D
  have lt : ∀ {c : Addr} {o : Obj}, s.heap.get? c = some o → s.heap.objs.size ≠ c := fun e => Nat.ne_of_gt (Heap.lt_size e)
  obtain ⟨o1, e1, _⟩ := id st.a
  obtain ⟨o2, e2, _⟩ := id st.b
  rcases st.out with ⟨h1, a, b, h2⟩ | ⟨T, f, oT, h1, h2, h3, h4, h5, h6⟩
  · refine wpAny_pyNext_zip_item D h1 st.ti h2 st.a st.b st.la st.lb hx hy fun h' q1 q2 q3 q4 q5 q6 q7 => hQ h' ⟨.inr ⟨s.heap.objs.size, false, _, q1, q5, lt h1, lt e1, lt e2, Nat.ne_of_gt hS⟩, q7 _ _ D.TIz D.TITO D.TIi1 D.TIi2 st.ti, q3, q4, ?_, ?_⟩ q5 q6 q7
    · exact st.la.at fun o e => q7 _ _ D.l1z D.l1TO D.l1i1 D.l1i2 e
    · exact st.lb.at fun o e => q7 _ _ D.l2z D.l2TO D.l2i1 D.l2i2 e
  · refine wpAny_pyNext_zip_item_held D h1 h2 st.ti st.a st.b st.la st.lb hx hy fun h' q1 q3 q4 q5 q6 q7 => hQ h' ⟨.inr ⟨T, true, _, q1, q7 _ _ h3 h4 h5 h2, h3, h4, h5, h6⟩, q7 _ _ D.TIz D.TIi1 D.TIi2 st.ti, q3, q4, ?_, ?_⟩ q5 q6 fun c o c1 _ c3 c4 e => q7 c o c1 c3 c4 e
    · exact st.la.at fun o e => q7 _ _ D.l1z D.l1i1 D.l1i2 e
    · exact st.lb.at fun o e => q7 _ _ D.l2z D.l2i1 D.l2i2 e
theorem z_end {Q : Option Value → Shared → Prop} (hh : A.handled = none) (O : ZOff z TI TO i1 i2 l1 l2 S) (st : ZAt s.heap z TI TO i1 i2 l1 l2 xs ys S i) (hend : xs[i]? = none ∨ ys[i]? = none)
    (hQ : ∀ h', (∀ c o, c ≠ z → c ≠ TO → c ≠ i1 → c ≠ i2 → s.heap.get? c = some o → h'.get? c = some o) → Q none { s with heap := h' }) : wpAny (model prog w) A (pyNext (.ref z)) Q E s := by
  rcases st.out with ⟨h1, a, b, h2⟩ | ⟨T, f, oT, h1, h2, _⟩
  · exact wpAny_pyNext_zip_end hh O.D h1 st.ti h2 st.a st.b st.la st.lb hend hQ
  · exact wpAny_pyNext_zip_end_held hh O.D h1 h2 st.ti st.a st.b st.la st.lb hend fun h' k => hQ h' fun c o c1 _ c3 c4 e => k c o c1 c3 c4 e
/-- the pairs gathered so far: new ones, in order -/
structure ZGot (xs ys : Array Value) (lo : Nat) (h : Heap) (as : List Addr) : Prop where
  rise : as.Pairwise (· < ·)
  above : ∀ a ∈ as, lo < a
  pairs : ∀ (j : Nat) (a : Addr), as[j]? = some a → ∃ x y, xs[j]? = some x ∧ ys[j]? = some y ∧ IsPair h a x y
theorem z_loop {R : Result → Shared → Prop} {n lo : Nat} {h0 : Heap} (hh : A.handled = none) (O : ZOff z TI TO i1 i2 l1 l2 S) (hx : xs.size = n) (hy : ys.size = n) (hn : n ≤ sizeLine) (res : Value)
    (lS : S ≤ lo) (lz : z ≤ lo) (lT : TO ≤ lo) (la : i1 ≤ lo) (lb : i2 ≤ lo)
    (hR : ∀ h' tk acc c as, (∀ b o, b ≠ S → b ≠ z → b ≠ TO → b ≠ i1 → b ≠ i2 → h0.get? b = some o → h'.get? b = some o) → h'.get? S = some { cls := .type "list", dict := none, data := .seq acc c, slots := #[] } → as.length = n → ZGot xs ys lo h' as →
      acc.toList = as.map Value.ref → R (.ok (.ret res)) { s with heap := h', toks := tk }) :
    ∀ (k i : Nat) (h : Heap) (tk c : Nat) (acc : Array Value) (as : List Addr), n - i = k → i ≤ n → ZAt h z TI TO i1 i2 l1 l2 xs ys S i → (∀ b o, b ≠ S → b ≠ z → b ≠ TO → b ≠ i1 → b ≠ i2 → h0.get? b = some o → h.get? b = some o) →
      h.get? S = some { cls := .type "list", dict := none, data := .seq acc c, slots := #[] } → acc.toList = as.map Value.ref → as.length = i → ZGot xs ys lo h as → lo < h.objs.size →
      codeAny (model prog w) A (.builtin "list.extend.loop" ⟨[.ref S, .ref z, res], []⟩) R { s with heap := h, toks := tk } := by
  intro k
  induction k with
  | zero =>
    intro i h tk c acc as hk hi st keep hS hacc hal G hlo
    refine codeAny_builtin F.entry_extend_loop ?_
    rw [Around.under_plainId F.plain_extend_loop _]
    show wpAny _ A.in1 (pyNext (.ref z) >>= _) _ _ _
    refine wpAny_bind (z_end (s := { s with heap := h, toks := tk }) (A := A.in1) hh O st (.inl (Array.getElem?_eq_none (by omega))) fun h' q => ?_)
    have g : ∀ a, lo < a → ∀ o, h.get? a = some o → h'.get? a = some o := fun a ha o e => q a o (Nat.ne_of_gt (Nat.lt_of_le_of_lt lz ha)) (Nat.ne_of_gt (Nat.lt_of_le_of_lt lT ha)) (Nat.ne_of_gt (Nat.lt_of_le_of_lt la ha)) (Nat.ne_of_gt (Nat.lt_of_le_of_lt lb ha)) e
    refine wpAny_pure (hR h' tk acc c as (fun b o b0 b1 b2 b3 b4 e => q b o b1 b2 b3 b4 (keep b o b0 b1 b2 b3 b4 e)) (q S _ O.z.symm O.TO.symm O.i1.symm O.i2.symm hS) (by omega) ⟨G.rise, G.above, fun j a hj => ?_⟩ hacc)
    obtain ⟨x, y, x1, y1, e⟩ := G.pairs j a hj
    exact ⟨x, y, x1, y1, g a (G.above a (List.mem_of_getElem? hj)) _ e⟩
  | succ k ih =>
    intro i h tk c acc as hk hi st keep hS hacc hal G hlo
    have hlt : i < n := by omega
    have hsz : acc.size = i := by rw [← Array.length_toList, hacc, List.length_map, hal]
    have x1 : xs[i]? = some xs[i] := Array.getElem?_eq_getElem (by omega)
    have y1 : ys[i]? = some ys[i] := Array.getElem?_eq_getElem (by omega)
    refine codeAny_builtin F.entry_extend_loop ?_
    rw [Around.under_plainId F.plain_extend_loop _]
    show wpAny _ A.in1 (pyNext (.ref z) >>= _) _ _ _
    refine wpAny_bind (z_item (s := { s with heap := h, toks := tk }) O st (Heap.lt_size hS) x1 y1 fun h' st' ht hz q => ?_)
    have ht : IsPair h' h.objs.size xs[i] ys[i] := ht
    have hz : h'.objs.size = h.objs.size + 1 := hz
    have q : ∀ c o, c ≠ z → c ≠ TO → c ≠ i1 → c ≠ i2 → h.get? c = some o → h'.get? c = some o := q
    have hS' := q S _ O.z.symm O.TO.symm O.i1.symm O.i2.symm hS
    have up : ∀ b o, b ≠ S → h'.get? b = some o → (h'.update S (Obj.mapSeq (·.push (Value.ref h.objs.size)))).get? b = some o := fun b o hb e => (Heap.get?_update_other _ _ (Ne.symm hb)).trans e
    have hSl : S < h.objs.size := Heap.lt_size hS
    have far : ∀ a, lo < a → a ≠ z ∧ a ≠ TO ∧ a ≠ i1 ∧ a ≠ i2 ∧ a ≠ S := fun a ha => ⟨Nat.ne_of_gt (Nat.lt_of_le_of_lt lz ha), Nat.ne_of_gt (Nat.lt_of_le_of_lt lT ha), Nat.ne_of_gt (Nat.lt_of_le_of_lt la ha), Nat.ne_of_gt (Nat.lt_of_le_of_lt lb ha), Nat.ne_of_gt (Nat.lt_of_le_of_lt lS ha)⟩
    show wpAny _ A.in1 (updateSeq S (·.push (Value.ref h.objs.size)) >>= _) _ _ _
    refine wpAny_bind ?_
    refine wpAny_updateSeq hS' rfl (wpAny_pure ⟨plainId_quiet F.plain_extend_loop _, ih (i + 1) _ tk _ (acc.push (Value.ref h.objs.size)) (as ++ [h.objs.size]) (by omega) hlt (st'.upd O up)
      (fun b o b0 b1 b2 b3 b4 e => up b o b0 (q b o b1 b2 b3 b4 (keep b o b0 b1 b2 b3 b4 e))) (Heap.get?_update_self _ hS' rfl) (by rw [Array.toList_push, hacc, List.map_append]; rfl) (by rw [List.length_append, hal]; rfl) ⟨?_, ?_, ?_⟩ ?_⟩) (by rw [hsz]; omega) (by show (acc.push (Value.ref h.objs.size)).size ≤ sizeLine + 1; rw [Array.size_push, hsz]; omega)
    · refine List.pairwise_append.mpr ⟨G.rise, List.pairwise_singleton _ _, fun a ha b hb => ?_⟩
      rw [List.mem_singleton.mp hb]
      obtain ⟨j, hj⟩ := List.mem_iff_getElem?.mp ha
      obtain ⟨_, _, _, _, e⟩ := G.pairs j a hj
      exact Heap.lt_size e
    · intro a ha
      rcases List.mem_append.mp ha with ha | ha
      · exact G.above a ha
      · rw [List.mem_singleton.mp ha]; exact hlo
    · intro j b hj
      rcases Nat.lt_trichotomy j as.length with h1 | h1 | h1
      · rw [List.getElem?_append_left h1] at hj
        obtain ⟨x, y, x2, y2, e⟩ := G.pairs j b hj
        obtain ⟨f1, f2, f3, f4, f5⟩ := far b (G.above b (List.mem_of_getElem? hj))
        exact ⟨x, y, x2, y2, up b _ f5 (q b _ f1 f2 f3 f4 e)⟩
      · have hb : h.objs.size = b := by
          rw [h1] at hj
          simpa using hj
        rw [← hb, h1, hal]
        exact ⟨_, _, x1, y1, up _ _ (Nat.ne_of_gt hSl) ht⟩
      · rw [List.getElem?_eq_none (by rw [List.length_append, List.length_singleton]; omega)] at hj
        cases hj
    · have e := up _ _ (Nat.ne_of_gt hSl) ht
      exact Nat.lt_trans hlo (Heap.lt_size e)
/-- list(z), the zip just made -/
theorem list_of_zip {Q : Value → Shared → Prop} {n : Nat} (hh : A.handled = none) (D : ZipApart z TI TO i1 i2 l1 l2) (hz : IsZip s.heap z TI TO .none) (hTI : IsPair s.heap TI (.ref i1) (.ref i2)) (hTO : IsPair s.heap TO .none .none)
    (h1 : s.heap.IsListIter i1 l1 0) (h2 : s.heap.IsListIter i2 l2 0) (hl1 : s.heap.IsList l1 xs) (hl2 : s.heap.IsList l2 ys) (hx : xs.size = n) (hy : ys.size = n) (hn : n ≤ sizeLine)
    (hQ : ∀ h' tk acc c as, (∀ b o, b ≠ z → b ≠ TO → b ≠ i1 → b ≠ i2 → s.heap.get? b = some o → h'.get? b = some o) → h'.get? s.heap.objs.size = some { cls := .type "list", dict := none, data := .seq acc c, slots := #[] } → as.length = n → ZGot xs ys s.heap.objs.size h' as →
      acc.toList = as.map Value.ref → Q (.ref s.heap.objs.size) { s with heap := h', toks := tk }) :
    wpAny (model prog w) A (call (.type "list") [.ref z]) Q E s := by
  refine callType_codes (Q₁ := fun obj s1 => obj = .ref s.heap.objs.size ∧ s1 = { s with heap := s.heap.push { cls := .type "list", data := .seq #[] } }) F.called_list (F.typeCall_list_1 _) F.entry_list_init
    (code_list_new _ ⟨rfl, rfl⟩) fun obj s1 hs1 => ?_
  obtain ⟨rfl, rfl⟩ := hs1
  have hS : (s.heap.push { cls := .type "list", data := .seq #[] }).get? s.heap.objs.size = some { cls := .type "list", data := .seq #[] } := Heap.get?_push_size _ rfl
  have zl : z < s.heap.objs.size := Heap.lt_size hz
  have TOl : TO < s.heap.objs.size := Heap.lt_size hTO
  have i1l : i1 < s.heap.objs.size := let ⟨_, e, _⟩ := h1; Heap.lt_size e
  have i2l : i2 < s.heap.objs.size := let ⟨_, e, _⟩ := h2; Heap.lt_size e
  have l1l : l1 < s.heap.objs.size := let ⟨_, e, _⟩ := hl1; Heap.lt_size e
  have l2l : l2 < s.heap.objs.size := let ⟨_, e, _⟩ := hl2; Heap.lt_size e
  have O : ZOff z TI TO i1 i2 l1 l2 s.heap.objs.size := ⟨D, Nat.ne_of_lt zl, Nat.ne_of_lt (Heap.lt_size hTI), Nat.ne_of_lt TOl, Nat.ne_of_lt i1l, Nat.ne_of_lt i2l, Nat.ne_of_lt l1l, Nat.ne_of_lt l2l⟩
  have pk : ∀ b o, s.heap.get? b = some o → (s.heap.push { cls := .type "list", data := .seq #[] }).get? b = some o := fun b o e => Heap.get?_push_of_some _ e
  have st0 : ZAt s.heap z TI TO i1 i2 l1 l2 xs ys s.heap.objs.size 0 := ⟨.inl ⟨hz, _, _, hTO⟩, hTI, h1, h2, hl1, hl2⟩
  refine ⟨⟨_, hS, rfl⟩, F.args_list_init_2 _ _, ?_⟩
  show wpAny _ _ (do let old ← Builtin.List.listItems (.ref s.heap.objs.size); Builtin.List.listUpdate (.ref s.heap.objs.size) (fun _ => #[]); letGo old.toList.reverse; Builtin.List.listExtendWith (.ref s.heap.objs.size) (.ref z) .none) _ _ _
  refine wpAny_bind ?_
  unfold Builtin.List.listItems
  refine wpAny_bind (wpAny_seqItems hS rfl (wpAny_pure ?_))
  show wpAny _ _ (updateSeq s.heap.objs.size (fun _ => #[]) >>= fun _ => letGo (#[] : Array Value).toList.reverse >>= fun _ => Builtin.List.listExtendWith (.ref s.heap.objs.size) (.ref z) .none) _ _ _
  refine wpAny_bind (wpAny_updateSeq hS rfl ?_)
  have hS2 := Heap.get?_update_self (Obj.mapSeq (fun _ => (#[] : Array Value))) hS rfl
  have oth : ∀ b o, b ≠ s.heap.objs.size → s.heap.get? b = some o → ((s.heap.push { cls := .type "list", data := .seq #[] }).update s.heap.objs.size (Obj.mapSeq (fun _ => (#[] : Array Value)))).get? b = some o :=
    fun b o hb e => (Heap.get?_update_other _ _ (Ne.symm hb)).trans (pk b o e)
  refine wpAny_bind (wpAny_letGo ?_)
  generalize hG : (s.heap.push { cls := .type "list", data := .seq #[] }).update s.heap.objs.size (Obj.mapSeq (fun _ => (#[] : Array Value))) = hg at hS2 oth ⊢
  have hT : Shared.TypeIs { s with heap := hg } (.ref z) "zip" := ⟨_, oth _ _ O.z hz, rfl⟩
  unfold Builtin.List.listExtendWith
  refine wpAny_bind (wpAny_typeOf (T := "zip") hT ?_)
  have n1 : Builtin.List.listSameRef (.ref s.heap.objs.size) (.ref z) = false := by simp [Builtin.List.listSameRef, O.z.symm]
  have n2 : (Value.type "zip" == Value.type "list") = false := by decide
  have n3 : (Value.type "zip" == Value.type "tuple") = false := by decide
  simp only [n1, n2, n3, Bool.or_false, Bool.false_eq_true, if_false]
  refine wpAny_bind (wpAny_pyIter_zip (oth _ _ O.z hz) ?_)
  refine wpAny_bind (wpAny_holding ?_)
  unfold Builtin.List.listLengthHint
  refine wpAny_bind (wpAny_specialOf hT zip_len ?_)
  refine wpAny_bind (wpAny_specialOf hT zip_hint ?_)
  refine wpAny_pure ?_
  rw [if_pos (by rfl)]
  refine wpAny_bind (wpAny_rule ?_)
  refine wpAny_bind ?_
  show wpAny _ _ (updateSeq s.heap.objs.size (·.push .none) >>= fun _ => updateSeq s.heap.objs.size (·.pop)) _ _ _
  refine wpAny_bind (wpAny_updateSeq hS2 rfl ?_)
  have hS3 := Heap.get?_update_self (Obj.mapSeq (·.push Value.none)) hS2 rfl
  refine wpAny_updateSeq (hz := by seq_fits) hS3 rfl ?_
  have hS4 := Heap.get?_update_self (Obj.mapSeq (·.pop)) hS3 rfl
  have oth2 : ∀ b o, b ≠ s.heap.objs.size → s.heap.get? b = some o → ((hg.update s.heap.objs.size (Obj.mapSeq (·.push Value.none))).update s.heap.objs.size (Obj.mapSeq (·.pop))).get? b = some o :=
    fun b o hb e => (Heap.get?_update_other _ _ (Ne.symm hb)).trans ((Heap.get?_update_other _ _ (Ne.symm hb)).trans (oth b o hb e))
  generalize hG2 : (hg.update s.heap.objs.size (Obj.mapSeq (·.push Value.none))).update s.heap.objs.size (Obj.mapSeq (·.pop)) = hw at hS4 oth2 ⊢
  have st1 : ZAt hw z TI TO i1 i2 l1 l2 xs ys s.heap.objs.size 0 := st0.upd O oth2
  refine wpAny_pure ⟨plainId_quiet F.plain_extend_loop _, ?_⟩
  -- the list itself lies at the lower end: the pairs come behind
  refine z_loop (s := s) (lo := s.heap.objs.size) (n := n) (h0 := s.heap) (A := A.in1) hh O hx hy hn .none (Nat.le_refl _) (Nat.le_of_lt zl) (Nat.le_of_lt TOl) (Nat.le_of_lt i1l) (Nat.le_of_lt i2l) ?_ n 0 hw s.toks _ #[] [] (Nat.sub_zero _) (Nat.zero_le _) st1 (fun b o b0 _ _ _ _ e => oth2 b o b0 e) hS4 rfl rfl ⟨List.Pairwise.nil, (fun _ q => nomatch q), fun j a hj => by simp at hj⟩ (Heap.lt_size hS4)
  intro h' tk acc c as keep hL hlen G hacc
  exact ⟨rfl, hQ h' tk acc c as (fun b o b1 b2 b3 b4 e => keep b o (Nat.ne_of_lt (Heap.lt_size e)) b1 b2 b3 b4 e) hL hlen G hacc⟩
end
/-- new pairs at the addresses as -/
def PairsAt (H : Hp) : List Addr → List V → List V → Prop
  | [], [], [] => True
  | a :: as, x :: xs, y :: ys => H a = some (.tup [x, y]) ∧ PairsAt H as xs ys
  | _, _, _ => False
def putP : List Addr → List V → List V → Hp → Hp
  | a :: as, x :: xs, y :: ys, H => upd (putP as xs ys H) a (.tup [x, y])
  | _, _, _, H => H
theorem putP_off {b : Addr} : ∀ (as : List Addr) (xs ys : List V) (H : Hp), b ∉ as → putP as xs ys H b = H b
  | [], _, _, _, _ => by simp [putP]
  | _ :: _, [], _, _, _ => by simp [putP]
  | _ :: _, _ :: _, [], _, _ => by simp [putP]
  | a :: as, x :: xs, y :: ys, H, h => by
    have n1 : b ≠ a := fun e => h (by rw [e]; exact List.mem_cons_self)
    show upd (putP as xs ys H) a _ b = _
    rw [upd_ne n1, putP_off as xs ys H fun m => h (List.mem_cons_of_mem _ m)]
theorem PairsAt.mono {H H' : Hp} : ∀ {as : List Addr} {xs ys : List V}, PairsAt H as xs ys → (∀ a ∈ as, H' a = H a) → PairsAt H' as xs ys
  | [], [], [], _, _ => trivial
  | a :: as, x :: xs, y :: ys, h, k => ⟨(k a List.mem_cons_self).trans h.1, h.2.mono fun b hb => k b (List.mem_cons_of_mem _ hb)⟩
theorem putP_at : ∀ (as : List Addr) (xs ys : List V) (H : Hp), as.Nodup → as.length = xs.length → ys.length = xs.length → PairsAt (putP as xs ys H) as xs ys
  | [], [], [], _, _, _, _ => trivial
  | [], _ :: _, _, _, _, h, _ => by simp at h
  | _ :: _, [], _, _, _, h, _ => by simp at h
  | [], [], _ :: _, _, _, _, h => by simp at h
  | _ :: _, _ :: _, [], _, _, _, h => by simp at h
  | a :: as, x :: xs, y :: ys, H, hn, h1, h2 => by
    obtain ⟨n1, n2⟩ := List.nodup_cons.mp hn
    refine ⟨upd_same, (putP_at as xs ys H n2 (by simpa using h1) (by simpa using h2)).mono fun b hb => ?_⟩
    exact upd_ne fun e => n1 (e ▸ hb)
theorem LiI_refs : ∀ as : List Addr, Vals (as.map V.ref) (as.map Value.ref)
  | [] => .nil
  | _ :: r => .cons rfl (LiI_refs r)
theorem pairs_laid {X : Cx} {s : Shared} {h' : Heap} : ∀ (as : List Addr) (xs ys : List V) (us ws : List Value) (H : Hp), as.Nodup → (∀ a ∈ as, H a = none ∧ s.heap.objs.size ≤ a) → as.length = xs.length → ys.length = xs.length → Vals xs us → Vals ys ws →
    (∀ (j : Nat) (a : Addr), as[j]? = some a → ∃ x y, us[j]? = some x ∧ ws[j]? = some y ∧ IsPair h' a x y) → HOk X.prog X.w H h' → HOk X.prog X.w (putP as xs ys H) h'
  | [], _, _, _, _, H, _, _, _, _, _, _, _, ok => by simpa [putP] using ok
  | _ :: _, [], _, _, _, _, _, _, h, _, _, _, _, _ => by simp at h
  | _ :: _, _ :: _, [], _, _, _, _, _, _, h, _, _, _, _ => by simp at h
  | a :: as, x :: xs, y :: ys, u :: us, w :: ws, H, hn, hf, h1, h2, .cons r1 t1, .cons r2 t2, hp, ok => by
    obtain ⟨n1, n2⟩ := List.nodup_cons.mp hn
    have ih := pairs_laid (s := s) as xs ys us ws H n2 (fun b hb => hf b (List.mem_cons_of_mem _ hb)) (by simpa using h1) (by simpa using h2) t1 t2 (fun j b hj => by simpa using hp (j + 1) b (by simpa using hj)) ok
    obtain ⟨x', y', e1, e2, e3⟩ := hp 0 a rfl
    have e1 : u = x' := Option.some.inj e1
    have e2 : w = y' := Option.some.inj e2
    subst e1 e2
    have hz : putP as xs ys H a = none := (putP_off as xs ys H n1).trans (hf a List.mem_cons_self).1
    intro b o e
    show ObjOk _ _ (upd (putP as xs ys H) a (.tup [x, y])) h' b o
    by_cases hb : b = a
    · subst hb
      have e : upd (putP as xs ys H) b (.tup [x, y]) b = some o := e
      rw [upd_same] at e
      cases e
      exact ⟨by show 2 ≤ sizeLine; decide, [u, w], .cons r1 (.cons r2 .nil), ⟨_, e3, rfl, _, rfl⟩⟩
    · have e : upd (putP as xs ys H) a (.tup [x, y]) b = some o := e
      rw [upd_ne hb] at e
      exact (ih b o e).stay (fun c v _ q => q) (fun c q => by rw [upd_ne (ne_of_none q hz)]; exact q) fun c zs q => by rw [upd_ne (ne_of_none q hz)]; exact q
/-- list(zip(xs, ys)), two lists of one length: a new list of new pairs -/
def tLZip (K : PySem.W.Frag) (ta : TA) : TE := fun σ H Q => ta σ H fun vs H1 => ∃ a b xs ys, vs = [.ref a, .ref b] ∧ SqL K H1 a xs ∧ SqL K H1 b ys ∧ ys.length = xs.length ∧ xs.length ≤ 1000 ∧
  ∀ (p : Addr) (as : List Addr) (H2 : Hp), (∀ b o, H1 b = some o → H2 b = some o) → H1 p = none → H2 p = some (.lst (as.map V.ref)) → PairsAt H2 as xs ys → Q (.ref p) H2
theorem pe_listZip {X : Cx} {e e2 : Expr} {ta : TA} {p1 p2 pos pos2 : Pos} (hc : X.calm = true) (hgl : Gl X "list") (hml : X.mg "list" = none) (hg : Gl X "zip") (hm : X.mg "zip" = none) (ha : PA X [e, e2] ta)
    (hs : starEach [e, e2] X.env = (false, eval e X.env) :: starEach [e2] X.env := by rfl) (hpl : (backTo pos2 (starEach [e2] X.env)).any (·.1) = false := by rfl)
    (na : starEach [.Call (.Name "zip" p2) [e, e2] [] pos2] X.env = (false, eval (.Call (.Name "zip" p2) [e, e2] [] pos2) X.env) :: starEach [] X.env := by rfl) :
    PE X (.Call (.Name "list" p1) [.Call (.Name "zip" p2) [e, e2] [] pos2] [] pos) (tLZip X.K ta) := by
  refine ⟨fun pins s σ H Q I h => ?_⟩
  refine PyProof.Rows.Call_ (ld_blt I hgl hml PyProof.Rows.boot_list ?_)
  refine PyProof.Rows.callWith_type1 (PyProof.Rows.args_cons ?_ na) na rfl
  refine PyProof.Rows.Call_ (ld_blt I hg hm PyProof.Rows.boot_zip (PyProof.Rows.callWith_type1 (thn (ha.run pos2 pins s σ H _ I h) fun us s1 ⟨vs, H1, I1, r1, q1⟩ => ?_) hs hpl))
  obtain ⟨a, b, xs, ys, ex, hqx, hqy, hyx, hlen, q⟩ := q1
  subst ex
  cases r1 with
  | cons r rr =>
    cases rr with
    | cons r' rr =>
      cases rr
      cases r
      cases r'
      obtain ⟨its, rv, l1, _⟩ := I1.list hqx
      obtain ⟨its2, rv2, l2, _⟩ := I1.list hqy
      have z1 := rv.length
      have z2 := rv2.length
      refine call_zip_2 l1.isList l2.isList fun h' hz hTI hTO g1 g2 hsz hk => PyProof.Rows.args_nil ?_
      have D := PySem.W.ktu_apart s1.heap.objs.size a b l1.lt l2.lt
      refine list_of_zip (s := { s1 with heap := h' }) (n := xs.length) (I.ok.hd hc) D hz hTI hTO g1 g2 (l1.isList.at fun o e => hk _ o e) (l2.isList.at fun o e => hk _ o e) (by simp [z1]) (by simp [← z2, hyx]) (by rw [sizeLine_eq]; omega) fun h2 tk acc c as keep hL hal G hacc => ?_
      have old : ∀ b o, s1.heap.get? b = some o → h2.get? b = some o := fun b o e => by
        have hb : b < s1.heap.objs.size := Heap.lt_size e
        exact keep b o (Nat.ne_of_lt (Nat.lt_of_lt_of_le hb (Nat.le_add_right _ _))) (Nat.ne_of_lt (Nat.lt_of_lt_of_le hb (Nat.le_add_right _ _))) (Nat.ne_of_lt hb) (Nat.ne_of_lt (Nat.lt_of_lt_of_le hb (Nat.le_add_right _ _))) (hk b o e)
      have hsz : h'.objs.size = s1.heap.objs.size + 5 := hsz
      have I2 : Inv X pins σ H1 { s1 with heap := h2, toks := tk } := I1.kept old
      have nd : as.Nodup := G.rise.imp fun h => Nat.ne_of_lt h
      have fr : ∀ a ∈ as, H1 a = none ∧ s1.heap.objs.size ≤ a := fun a ha => by
        have h5 : h'.objs.size < a := G.above a ha
        have : s1.heap.objs.size ≤ a := by rw [hsz] at h5; exact Nat.le_of_lt (Nat.lt_of_le_of_lt (Nat.le_add_right _ _) h5)
        exact ⟨I1.hok.fresh this, this⟩
      have hS : s1.heap.objs.size ≤ h'.objs.size := by rw [hsz]; exact Nat.le_add_right _ _
      have hn0 : H1 h'.objs.size = none := I1.hok.fresh hS
      have okP := pairs_laid (X := X) (s := s1) (h' := h2) as xs ys its its2 H1 nd fr hal (by omega) rv rv2 (fun j a hj => by
        obtain ⟨x, y, e1, e2, e3⟩ := G.pairs j a hj
        exact ⟨x, y, by simpa using e1, by simpa using e2, e3⟩) I2.hok
      have nS : h'.objs.size ∉ as := fun hm => Nat.lt_irrefl _ (G.above _ hm)
      have hn1 : putP as xs ys H1 h'.objs.size = none := (putP_off as xs ys H1 nS).trans hn0
      have okL : HOk X.prog X.w (upd (putP as xs ys H1) h'.objs.size (.lst (as.map V.ref))) h2 := by
        intro b o e
        by_cases hb : b = h'.objs.size
        · subst hb
          rw [upd_same] at e
          cases e
          refine ⟨by rw [List.length_map, hal, sizeLine_eq]; omega, acc.toList, c, ?_, by simpa using hL⟩
          rw [hacc]
          exact LiI_refs as
        · rw [upd_ne hb] at e
          exact (okP b o e).stay (fun c v _ q => q) (fun c q => by rw [upd_ne (ne_of_none q hn1)]; exact q) fun c zs q => by rw [upd_ne (ne_of_none q hn1)]; exact q
      have same : ∀ b o, H1 b = some o → upd (putP as xs ys H1) h'.objs.size (.lst (as.map V.ref)) b = some o := fun b o e => by
        rw [upd_ne (ne_of_none e hn0), putP_off as xs ys H1 fun hm => by rw [(fr b hm).1] at e; cases e]
        exact e
      have U : Un X.fs [] H1 (upd (putP as xs ys H1) h'.objs.size (.lst (as.map V.ref))) s1.heap h2 :=
        { keep := fun b ob q _ _ _ => old b ob q, slot := fun b ob q _ _ _ => ⟨ob.slots, old b ob q⟩,
          free := fun b ob q n _ => by
            have hb : b < s1.heap.objs.size := Heap.lt_size q
            rw [upd_ne (Nat.ne_of_lt (Nat.lt_of_lt_of_le hb hS)), putP_off as xs ys H1 fun hm => absurd (fr b hm).2 (Nat.not_le_of_lt hb)]
            exact n,
          there := fun b ob q _ => ⟨ob, old b ob q⟩, tups := fun b zs q => same b _ q, frzs := fun b ob u q => same b _ q, tbls := fun b ps q => ⟨#[], by rw [same b _ q]; simp⟩ }
      refine ⟨.ref h'.objs.size, _, I1.un (t' := tk) U okL, rfl, q _ as _ same hn0 upd_same ?_⟩
      exact (putP_at as xs ys H1 nd hal (by omega)).mono fun b hb => upd_ne fun e => nS (e ▸ hb)
end SL

/-! text SlLay6 -/
set_option Elab.async false
set_option linter.all false
set_option maxRecDepth 100000
set_option maxHeartbeats 4000000
namespace SL
open PySem PySem.Spec L2
/-! ### xs[lo:hi:step] of a list -/
def pickV (xs : List V) (lo hi st : Option Int) : List V := (sliceRange (sliceBounds lo hi st xs.length).1 (sliceBounds lo hi st xs.length).2.1 (sliceBounds lo hi st xs.length).2.2).filterMap (xs[·]?)
theorem vals_pick {xs : List V} {its : List Value} (r : Vals xs its) : ∀ l : List Nat, Vals (l.filterMap (xs[·]?)) (l.filterMap (its.toArray[·]?))
  | [] => .nil
  | i :: l => by
    have ih := vals_pick r l
    cases e : xs[i]? with
    | none =>
      have e2 := r.none_of e
      rw [List.filterMap_cons_none e, List.filterMap_cons_none (by simpa using e2)]
      exact ih
    | some x =>
      obtain ⟨u, e2, ru⟩ := r.get e
      rw [List.filterMap_cons_some e, List.filterMap_cons_some (b := u) (by simpa using e2)]
      exact .cons ru ih
def tSl3 (K : PySem.W.Frag) (te : TE) (tl th tst : TO) : TE := fun σ H Q => te σ H fun x H1 => tl σ H1 fun l H2 => th σ H2 fun u H3 => tst σ H3 fun st H4 => ∃ a xs, x = .ref a ∧ SqL K H4 a xs ∧ st ≠ some 0 ∧ (pickV xs l u st).length ≤ sizeLine ∧ ∀ p, H4 p = none → Q (.ref p) (upd H4 p (.lst (pickV xs l u st)))
theorem pe_slice3 {X : Cx} {e est : Expr} {lo hi : Option Expr} {te : TE} {tl th tst : TO} {p2 pos : Pos} (he : PE X e te) (hl : PO X lo tl) (hu : PO X hi th) (hs : PO X (some est) tst) : PE X (.Subscript e (.Slice lo hi (some est) p2) pos) (tSl3 X.K te tl th tst) := by
  refine ⟨fun pins s σ H Q I h => ?_⟩
  refine PyProof.Rows.Subscript_ (thn (he.run pins s σ H _ I h) fun v s1 ⟨x, H1, I1, r1, q1⟩ => ?_)
  refine wpAny_Slice (thn (hl.run pins s1 σ H1 _ I1 q1) fun vl s2 ⟨l, H2, I2, pl, q2⟩ => thn (hu.run pins s2 σ H2 _ I2 q2) fun vu s3 ⟨u, H3, I3, pu, q3⟩ => thn (hs.run pins s3 σ H3 _ I3 q3) fun vs s4 ⟨st, H4, I4, ps, a, xs, ex, hx, h0, hz, q4⟩ => ?_)
  subst ex
  cases r1
  have I5 : Inv X pins σ H4 { s4 with heap := s4.heap.push { cls := .type "slice", data := .fields #[vl, vu, vs] } } := I4.kept (t' := s4.toks) fun b ob q => Heap.get?_push_of_some _ q
  obtain ⟨its, r, ht, hz2⟩ := I5.list hx
  have hlen := r.length
  show wpAny (model X.prog X.w) X.A (PyProof.Rows.subscriptTail e (.Slice lo hi (some est) p2) (.ref a) (.ref s4.heap.objs.size)) (EP X pins σ Q) X.xe { s4 with heap := s4.heap.push { cls := .type "slice", data := .fields #[vl, vu, vs] } }
  refine PyProof.Rows.tail_any (ops := [.ref a, .ref s4.heap.objs.size]) ht.isList.typeIs (PySem.slot_list_getitem.lookup) ?_ (by with_unfolding_all rfl)
  refine wpAny_getItem_list_slice ht.isList (Heap.IsSliceOf.new _ vl vu vs) pl pu ps h0 ?_ (by rw [List.size_toArray]; omega)
  have rp : Vals (pickV xs l u st) (slicePick its.toArray l u st).toList := by
    unfold pickV slicePick
    rw [show its.toArray.size = xs.length by simp [hlen]]
    exact vals_pick r _
  refine ⟨.ref _, _, I5.laid (t' := s4.toks) (o := .lst (pickV xs l u st)) (fun b ob q => Heap.get?_push_of_some _ q) (Nat.le_refl _) ?_, rfl, q4 _ (I5.hok.fresh (Nat.le_refl _))⟩
  refine ⟨hz, _, 0, rp, ?_⟩
  rw [Array.toArray_toList]
  exact Heap.get?_push_size _ rfl
/-! ### repr of nested data -/
def rRepr (K : PySem.W.Frag) : List V → Hp → VK → Prop := fun xs H Q => (xs = [.non] ∧ Q (.str "None") H) ∨ ∃ a d, xs = [.ref a] ∧ Dp K H (.ref a) d ∧ d.showable = true ∧ d.hasDict = false ∧ d.depth ≤ 8 ∧ d.shown.length ≤ sizeLine ∧ Q (.str d.shown) H
theorem cr_repr {X : Cx} {k : Nat} (hr : Room k X.A) (hg : X.A.guards = some []) : CallR X (.builtin "repr") (rRepr X.K) := by
  intro pins s σ H xs us Q I r h
  rcases h with ⟨rfl, q⟩ | ⟨a, d, rfl, hd, h1, h2, h3, h4, q⟩
  · cases r with
    | cons r1 r2 =>
      cases r2
      cases r1
      exact PySem.P.repr_of_none ⟨.str "None", H, I.tok _, ⟨_, rfl⟩, q⟩
  · rw [Vals.ref1 r]
    obtain ⟨as, hrd⟩ := Dp.reads I d _ _ hd rfl
    have hu := hr.un
    exact repr_of_reads' hrd h1 (fun z => by rw [h2] at z; cases z) hg (by omega) (fun b o e => e) (fun h' u tk k => ⟨.str d.shown, H, I.kept (t' := tk) k, ⟨_, rfl⟩, q⟩) h4
end SL

/-! text SlTx -/
set_option Elab.async false
set_option linter.all false
set_option maxRecDepth 100000
set_option maxHeartbeats 4000000
namespace SL
open PySem PySem.Spec L2
/-! ### the facts of the head, by names -/
abbrev ga := He.ga
theorem keyOf_str {P : Params} : ∀ {l : List DictEntry} {ks : List Str}, l.map He.keyOf = He.keysIn P ks → ∀ e ∈ l, ∃ k t, k ∈ ks ∧ e.key = .str k t
  | [], _, _, e, he => by cases he
  | a :: r, [], h, _, _ => by cases h
  | a :: r, k :: ks, h, e, he => by
    have h1 : He.keyOf a :: r.map He.keyOf = some (k, PyData.keyHash P k) :: He.keysIn P ks := h
    injection h1 with h2 h3
    rcases List.mem_cons.mp he with q | q
    · subst q
      unfold He.keyOf at h2
      split at h2
      · rename_i x t q
        have h4 := Option.some.inj h2
        obtain ⟨h5, h6⟩ := Prod.mk.inj h4
        exact ⟨x, t, by rw [h5]; exact List.mem_cons_self, q⟩
      · cases h2
    · obtain ⟨k', t, h4, h5⟩ := keyOf_str h3 e q
      exact ⟨k', t, List.mem_cons_of_mem _ h4, h5⟩
theorem dicW_none {K : PySem.W.Frag} {P : Params} {a : Addr} {ks : List Str} {z : Str} (h : He.dicW K a = some (He.keysIn P ks)) (hz : z ∉ ks) : PySem.W.nsIn K a z = some none := by
  unfold He.dicW at h
  cases q : K.lookup a with
  | none =>
    rw [q] at h
    cases h
  | some o =>
    obtain ⟨oc, od, dt, osl⟩ := o
    rw [q] at h
    cases oc with
    | type c =>
      cases od with
      | none =>
        cases dt with
        | dict es n =>
          have h1 : (match decide (c = "dict") && (osl.isEmpty && !(a == sysModules)) with
            | true => some (es.toList.map He.keyOf)
            | false => none) = some (He.keysIn P ks) := h
          cases y : decide (c = "dict") && (osl.isEmpty && !(a == sysModules)) with
          | false =>
            rw [y] at h1
            cases h1
          | true =>
            rw [y] at h1
            have key := keyOf_str (Option.some.inj h1)
            unfold PySem.W.nsIn
            rw [q]
            have f1 : es.toList.find? (fun e => e.key.isStr z) = none := by
              rw [List.find?_eq_none]
              intro e he
              obtain ⟨k, t, hk, hs⟩ := key e he
              rw [hs]
              show ¬ ((k == z) = true)
              intro hh
              exact hz (by rw [← eq_of_beq hh]; exact hk)
            have f2 : es.toList.any (fun e => e.refKey) = false := by
              rw [List.any_eq_false]
              intro e he
              obtain ⟨k, t, hk, hs⟩ := key e he
              unfold DictEntry.refKey
              rw [hs]
              simp
            show (match es.toList.find? (fun e => e.key.isStr z) with
              | some e => some (some e.val)
              | none => if es.toList.any (fun e => e.refKey) then none else some none) = some none
            rw [f1]
            show (if es.toList.any (fun e => e.refKey) then none else some none) = some none
            rw [f2]
            simp
        | _ => cases h
      | some b => cases dt <;> cases h
    | _ => cases od <;> cases dt <;> cases h
theorem tab_dic {fa : List He.Fa} {fn : List He.DefD} {ts : List He.Tab} {w : World} {K : PySem.W.Frag} (c : He.SaysT fa fn ts w K) (i : Nat) {t : He.Tab} (h : ts[i]? = some t := by rfl) : He.dicW K (t.1 K) = some (He.keysIn w.params t.2) := by
  have e : ts.map (fun t => He.dicW K (t.1 K)) = ts.map fun t => some (He.keysIn w.params t.2) := congrArg (fun z : He.AlT => z.2) c
  have e2 : (ts.map fun t => He.dicW K (t.1 K))[i]? = (ts.map fun t => some (He.keysIn w.params t.2))[i]? := by rw [e]
  rw [List.getElem?_map, List.getElem?_map, h] at e2
  exact Option.some.inj e2
def FnAt (K : PySem.W.Frag) (d : He.DefD) : Prop := ∃ fd, FunD K d.name d.qual d.params d.body d.scope [] [] (He.fAd K d.at_) fd
structure Tx (K : PySem.W.Frag) (mg : Str → Option Value) (w : World) : Prop where
  D_is_among : FnAt K SL.d_is_among
  D_is_word : FnAt K SL.d_is_word
  D_is_box : FnAt K SL.d_is_box
  D_is_row : FnAt K SL.d_is_row
  D_parts_of : FnAt K SL.d_parts_of
  D_reads : FnAt K SL.d_reads
  D_sets : FnAt K SL.d_sets
  D_leads : FnAt K SL.d_leads
  D_is_way : FnAt K SL.d_is_way
  D_need_program : FnAt K SL.d_need_program
  D_behind_row : FnAt K SL.d_behind_row
  D_beginnings : FnAt K SL.d_beginnings
  D_blocks : FnAt K SL.d_blocks
  D_Values_init : FnAt K SL.d_Values_init
  D_Values_fresh : FnAt K SL.d_Values_fresh
  D_Values_root : FnAt K SL.d_Values_root
  D_Values_value_in : FnAt K SL.d_Values_value_in
  D_Values_form_of : FnAt K SL.d_Values_form_of
  D_Values_value_of : FnAt K SL.d_Values_value_of
  D_Values_join : FnAt K SL.d_Values_join
  D_Values_alike : FnAt K SL.d_Values_alike
  D_Values_do : FnAt K SL.d_Values_do
  D_Values_are_one : FnAt K SL.d_Values_are_one
  D_is_hue : FnAt K SL.d_is_hue
  D_is_hues : FnAt K SL.d_is_hues
  D_is_pair : FnAt K SL.d_is_pair
  D_are_twins : FnAt K SL.d_are_twins
  D_is_paper : FnAt K SL.d_is_paper
  D_need_hues : FnAt K SL.d_need_hues
  D_is_careful : FnAt K SL.d_is_careful
  D_row_fault : FnAt K SL.d_row_fault
  D_are_alike : FnAt K SL.d_are_alike
  D_twins_fault : FnAt K SL.d_twins_fault
  D_values_behind : FnAt K SL.d_values_behind
  D_ways_between : FnAt K SL.d_ways_between
  D_ends_fault : FnAt K SL.d_ends_fault
  D_fault_of : FnAt K SL.d_fault_of
  D_all_pairs : FnAt K SL.d_all_pairs
  D_paper_of : FnAt K SL.d_paper_of
  D_sure_paper : FnAt K SL.d_sure_paper
  D_need_inputs : FnAt K SL.d_need_inputs
  D_meant : FnAt K SL.d_meant
  D_Stand_init : FnAt K SL.d_Stand_init
  D_Machine_init : FnAt K SL.d_Machine_init
  D_Machine_place : FnAt K SL.d_Machine_place
  D_Machine_boxes : FnAt K SL.d_Machine_boxes
  D_Machine_end : FnAt K SL.d_Machine_end
  D_Machine_beat : FnAt K SL.d_Machine_beat
  D_Machine_made : FnAt K SL.d_Machine_made
  D_Machine_go_out : FnAt K SL.d_Machine_go_out
  D_Machine_tell : FnAt K SL.d_Machine_tell
  D_Machine_keep : FnAt K SL.d_Machine_keep
  D_Machine_stumble : FnAt K SL.d_Machine_stumble
  D_L_begin : FnAt K SL.d_L_begin
  D_L_next : FnAt K SL.d_L_next
  D_L_two_hues : FnAt K SL.d_L_two_hues
  D_L_hues : FnAt K SL.d_L_hues
  D_L_plan : FnAt K SL.d_L_plan
  D_L_deed : FnAt K SL.d_L_deed
  D_L_pair : FnAt K SL.d_L_pair
  D_L_step : FnAt K SL.d_L_step
  D_L_program : FnAt K SL.d_L_program
  D_L_reads : FnAt K SL.d_L_reads
  D_L_walked : FnAt K SL.d_L_walked
  D_law : FnAt K SL.d_law
  g_is_among : mg "is_among" = some (.ref (ga K "is_among"))
  g_is_word : mg "is_word" = some (.ref (ga K "is_word"))
  g_is_box : mg "is_box" = some (.ref (ga K "is_box"))
  g_is_row : mg "is_row" = some (.ref (ga K "is_row"))
  g_parts_of : mg "parts_of" = some (.ref (ga K "parts_of"))
  g_reads : mg "reads" = some (.ref (ga K "reads"))
  g_sets : mg "sets" = some (.ref (ga K "sets"))
  g_leads : mg "leads" = some (.ref (ga K "leads"))
  g_is_way : mg "is_way" = some (.ref (ga K "is_way"))
  g_need_program : mg "need_program" = some (.ref (ga K "need_program"))
  g_behind_row : mg "behind_row" = some (.ref (ga K "behind_row"))
  g_beginnings : mg "beginnings" = some (.ref (ga K "beginnings"))
  g_blocks : mg "blocks" = some (.ref (ga K "blocks"))
  g_is_hue : mg "is_hue" = some (.ref (ga K "is_hue"))
  g_is_hues : mg "is_hues" = some (.ref (ga K "is_hues"))
  g_is_pair : mg "is_pair" = some (.ref (ga K "is_pair"))
  g_are_twins : mg "are_twins" = some (.ref (ga K "are_twins"))
  g_is_paper : mg "is_paper" = some (.ref (ga K "is_paper"))
  g_need_hues : mg "need_hues" = some (.ref (ga K "need_hues"))
  g_is_careful : mg "is_careful" = some (.ref (ga K "is_careful"))
  g_row_fault : mg "row_fault" = some (.ref (ga K "row_fault"))
  g_are_alike : mg "are_alike" = some (.ref (ga K "are_alike"))
  g_twins_fault : mg "twins_fault" = some (.ref (ga K "twins_fault"))
  g_values_behind : mg "values_behind" = some (.ref (ga K "values_behind"))
  g_ways_between : mg "ways_between" = some (.ref (ga K "ways_between"))
  g_ends_fault : mg "ends_fault" = some (.ref (ga K "ends_fault"))
  g_fault_of : mg "fault_of" = some (.ref (ga K "fault_of"))
  g_all_pairs : mg "all_pairs" = some (.ref (ga K "all_pairs"))
  g_paper_of : mg "paper_of" = some (.ref (ga K "paper_of"))
  g_sure_paper : mg "sure_paper" = some (.ref (ga K "sure_paper"))
  g_need_inputs : mg "need_inputs" = some (.ref (ga K "need_inputs"))
  g_meant : mg "meant" = some (.ref (ga K "meant"))
  g_L_begin : mg "_law_begin" = some (.ref (ga K "_law_begin"))
  g_L_next : mg "_law_next" = some (.ref (ga K "_law_next"))
  g_L_two_hues : mg "_law_two_hues" = some (.ref (ga K "_law_two_hues"))
  g_L_hues : mg "_law_hues" = some (.ref (ga K "_law_hues"))
  g_L_plan : mg "_law_plan" = some (.ref (ga K "_law_plan"))
  g_L_deed : mg "_law_deed" = some (.ref (ga K "_law_deed"))
  g_L_pair : mg "_law_pair" = some (.ref (ga K "_law_pair"))
  g_L_step : mg "_law_step" = some (.ref (ga K "_law_step"))
  g_L_program : mg "_law_program" = some (.ref (ga K "_law_program"))
  g_L_reads : mg "_law_reads" = some (.ref (ga K "_law_reads"))
  g_L_walked : mg "_law_walked" = some (.ref (ga K "_law_walked"))
  g_law : mg "law" = some (.ref (ga K "law"))
  g_Values : mg "Values" = some (.ref (ga K "Values"))
  c_Values : Cls K (ga K "Values")
  k_Values : Mk K (ga K "Values") (He.ma K (ga K "Values") "__init__")
  n_Values_links : NoAttr K (ga K "Values") "links"
  n_Values_held : NoAttr K (ga K "Values") "held"
  n_Values_forms : NoAttr K (ga K "Values") "forms"
  n_Values_puts : NoAttr K (ga K "Values") "puts"
  g_Machine : mg "Machine" = some (.ref (ga K "Machine"))
  c_Machine : Cls K (ga K "Machine")
  k_Machine : Mk K (ga K "Machine") (He.ma K (ga K "Machine") "__init__")
  n_Machine_rows : NoAttr K (ga K "Machine") "rows"
  n_Machine_given : NoAttr K (ga K "Machine") "given"
  n_Machine_at : NoAttr K (ga K "Machine") "at"
  n_Machine_words : NoAttr K (ga K "Machine") "words"
  n_Machine_store : NoAttr K (ga K "Machine") "store"
  n_Machine_said : NoAttr K (ga K "Machine") "said"
  n_Machine_count : NoAttr K (ga K "Machine") "count"
  n_Machine_stands : NoAttr K (ga K "Machine") "stands"
  n_Machine_over : NoAttr K (ga K "Machine") "over"
  n_Machine_done : NoAttr K (ga K "Machine") "done"
  g_Stand : mg "Stand" = some (.ref (ga K "Stand"))
  c_Stand : Cls K (ga K "Stand")
  k_Stand : Mk K (ga K "Stand") (He.ma K (ga K "Stand") "__init__")
  n_Stand_at : NoAttr K (ga K "Stand") "at"
  n_Stand_words : NoAttr K (ga K "Stand") "words"
  n_Stand_store : NoAttr K (ga K "Stand") "store"
  n_Stand_count : NoAttr K (ga K "Stand") "count"
  n_Stand_used : NoAttr K (ga K "Stand") "used"
  m_Values_fresh : Meth K (ga K "Values") "fresh" (He.ma K (ga K "Values") "fresh")
  m_Values_root : Meth K (ga K "Values") "root" (He.ma K (ga K "Values") "root")
  m_Values_value_in : Meth K (ga K "Values") "value_in" (He.ma K (ga K "Values") "value_in")
  m_Values_form_of : Meth K (ga K "Values") "form_of" (He.ma K (ga K "Values") "form_of")
  m_Values_value_of : Meth K (ga K "Values") "value_of" (He.ma K (ga K "Values") "value_of")
  m_Values_join : Meth K (ga K "Values") "join" (He.ma K (ga K "Values") "join")
  m_Values_alike : Meth K (ga K "Values") "alike" (He.ma K (ga K "Values") "alike")
  m_Values_do : Meth K (ga K "Values") "do" (He.ma K (ga K "Values") "do")
  m_Values_are_one : Meth K (ga K "Values") "are_one" (He.ma K (ga K "Values") "are_one")
  m_Machine_place : Meth K (ga K "Machine") "place" (He.ma K (ga K "Machine") "place")
  m_Machine_boxes : Meth K (ga K "Machine") "boxes" (He.ma K (ga K "Machine") "boxes")
  m_Machine_end : Meth K (ga K "Machine") "end" (He.ma K (ga K "Machine") "end")
  m_Machine_beat : Meth K (ga K "Machine") "beat" (He.ma K (ga K "Machine") "beat")
  m_Machine_made : Meth K (ga K "Machine") "made" (He.ma K (ga K "Machine") "made")
  m_Machine_go_out : Meth K (ga K "Machine") "go_out" (He.ma K (ga K "Machine") "go_out")
  m_Machine_tell : Meth K (ga K "Machine") "tell" (He.ma K (ga K "Machine") "tell")
  m_Machine_keep : Meth K (ga K "Machine") "keep" (He.ma K (ga K "Machine") "keep")
  m_Machine_stumble : Meth K (ga K "Machine") "stumble" (He.ma K (ga K "Machine") "stumble")
  f_len : mg "len" = none
  f_isinstance : mg "isinstance" = none
  f_range : mg "range" = none
  f_enumerate : mg "enumerate" = none
  f_zip : mg "zip" = none
  f_sorted : mg "sorted" = none
  f_set : mg "set" = none
  f_tuple : mg "tuple" = none
  f_list : mg "list" = none
  f_int : mg "int" = none
  f_str : mg "str" = none
  f_bool : mg "bool" = none
  f_all : mg "all" = none
  f_any : mg "any" = none
  f_dict : mg "dict" = none
  f_min : mg "min" = none
  f_repr : mg "repr" = none
  i_MOST_WORD : ∃ t, mg "MOST_WORD" = some (.int 15 t)
  i_MANY_BOXES : ∃ t, mg "MANY_BOXES" = some (.int 32 t)
  i_MANY_CELLS : ∃ t, mg "MANY_CELLS" = some (.int 16 t)
  i_MANY_INPUTS : ∃ t, mg "MANY_INPUTS" = some (.int 8 t)
  i_MOST_ROWS : ∃ t, mg "MOST_ROWS" = some (.int 400 t)
  i_MOST_KEPT : ∃ t, mg "MOST_KEPT" = some (.int 2 t)
  t_SET_BOX : ∃ t, mg "SET_BOX" = some (.str "s" t)
  t_READ_BOX : ∃ t, mg "READ_BOX" = some (.str "r" t)
  t_A_WORD : ∃ t, mg "A_WORD" = some (.str "n" t)
  t_AN_INPUT : ∃ t, mg "AN_INPUT" = some (.str "k" t)
  t_A_PLACE : ∃ t, mg "A_PLACE" = some (.str "p" t)
  g_WAYS : mg "WAYS" = some (.ref (ga K "WAYS"))
  g_LAST_ONES : mg "LAST_ONES" = some (.ref (ga K "LAST_ONES"))
  g_EITHER_ORDER : mg "EITHER_ORDER" = some (.ref (ga K "EITHER_ORDER"))
  g_PUTS : mg "PUTS" = some (.ref (ga K "PUTS"))
  g_BARRED : mg "BARRED" = some (.ref (ga K "BARRED"))
  g_BY_TWO : mg "BY_TWO" = some (.ref (ga K "BY_TWO"))
  g_GOING_OUT : mg "GOING_OUT" = some (.ref (ga K "GOING_OUT"))
  g_FORMS : mg "FORMS" = some (.ref (ga K "FORMS"))
  g_GREATEST : mg "GREATEST" = some (.ref (ga K "GREATEST"))
  g_COPIES : mg "COPIES" = some (.ref (ga K "COPIES"))
  v_WAYS : ∀ H, SqT K H (ga K "WAYS") [.str "go", .str "if", .str "if2", .str "if3", .str "end"]
  v_LAST_ONES : ∀ H, SqT K H (ga K "LAST_ONES") [.str "go", .str "end"]
  v_EITHER_ORDER : ∀ H, SqT K H (ga K "EITHER_ORDER") [.str "add", .str "same", .str "mix"]
  v_PUTS : ∀ H, SqT K H (ga K "PUTS") [.str "put", .str "put2", .str "put3"]
  v_BARRED : ∀ H, SqT K H (ga K "BARRED") [.str "tell", .str "put", .str "if", .str "tell3", .str "put3", .str "if3"]
  v_BY_TWO : ∀ H, SqT K H (ga K "BY_TWO") [.str "hold", .str "tell2", .str "put2", .str "if2"]
  v_GOING_OUT : ∀ H, SqT K H (ga K "GOING_OUT") [.str "tell2", .str "put2", .str "if2"]
  k_FORMS : ∃ es n, KDict K w (ga K "FORMS") es n
  w_FORMS : ∀ z : Str, z ∉ (["set", "copy", "add", "less", "same", "mix", "pick", "ask", "take", "tell", "put", "go", "if", "end", "hold", "tell2", "put2", "if2", "tell3", "put3", "if3", "keep"] : List Str) → PySem.W.nsIn K (ga K "FORMS") z = some none
  v_FORMS : ∀ q ∈ ([("set", .str "sn"), ("copy", .str "sr"), ("add", .str "srr"), ("less", .str "srr"), ("same", .str "srr"), ("mix", .str "srr"), ("pick", .str "srrr"), ("ask", .str "sk"), ("take", .str "sr"), ("tell", .str "r"), ("put", .str "rr"), ("go", .str "p"), ("if", .str "rp"), ("end", .str ""), ("hold", .str "rr"), ("tell2", .str "rr"), ("put2", .str "rrrr"), ("if2", .str "rrp"), ("tell3", .str "rrr"), ("put3", .str "rrrrrr"), ("if3", .str "rrrp"), ("keep", .str "")] : List (Str × V)), ∃ u, PySem.W.nsIn K (ga K "FORMS") q.1 = some (some u) ∧ RelV q.2 u
  k_GREATEST : ∃ es n, KDict K w (ga K "GREATEST") es n
  w_GREATEST : ∀ z : Str, z ∉ (["s", "r", "n", "k", "p"] : List Str) → PySem.W.nsIn K (ga K "GREATEST") z = some none
  v_GREATEST : ∀ q ∈ ([("s", .int 31), ("r", .int 31), ("n", .int 15), ("k", .int 7), ("p", .int 399)] : List (Str × V)), ∃ u, PySem.W.nsIn K (ga K "GREATEST") q.1 = some (some u) ∧ RelV q.2 u
  k_COPIES : ∃ es n, KDict K w (ga K "COPIES") es n
  w_COPIES : ∀ z : Str, z ∉ (["hold", "tell", "tell2", "tell3", "put", "put2", "put3", "if", "if2", "if3"] : List Str) → PySem.W.nsIn K (ga K "COPIES") z = some none
  v_COPIES : ∀ q ∈ ([("hold", .int 2), ("tell", .int 1), ("tell2", .int 2), ("tell3", .int 3), ("put", .int 1), ("put2", .int 2), ("put3", .int 3), ("if", .int 1), ("if2", .int 2), ("if3", .int 3)] : List (Str × V)), ∃ u, PySem.W.nsIn K (ga K "COPIES") q.1 = some (some u) ∧ RelV q.2 u
theorem Tx.of {K : PySem.W.Frag} {h : Heap} {mg : Str → Option Value} {w : World} (X : K.In h) (G : h.Ns mainGlobals mg) (c : He.SaysX fa fn ts [] ex w h K) : Tx K mg w where
  D_is_among := c.t.d.def_ 0 (d := SL.d_is_among) rfl
  D_is_word := c.t.d.def_ 1 (d := SL.d_is_word) rfl
  D_is_box := c.t.d.def_ 2 (d := SL.d_is_box) rfl
  D_is_row := c.t.d.def_ 3 (d := SL.d_is_row) rfl
  D_parts_of := c.t.d.def_ 4 (d := SL.d_parts_of) rfl
  D_reads := c.t.d.def_ 5 (d := SL.d_reads) rfl
  D_sets := c.t.d.def_ 6 (d := SL.d_sets) rfl
  D_leads := c.t.d.def_ 7 (d := SL.d_leads) rfl
  D_is_way := c.t.d.def_ 8 (d := SL.d_is_way) rfl
  D_need_program := c.t.d.def_ 9 (d := SL.d_need_program) rfl
  D_behind_row := c.t.d.def_ 10 (d := SL.d_behind_row) rfl
  D_beginnings := c.t.d.def_ 11 (d := SL.d_beginnings) rfl
  D_blocks := c.t.d.def_ 12 (d := SL.d_blocks) rfl
  D_Values_init := c.t.d.def_ 13 (d := SL.d_Values_init) rfl
  D_Values_fresh := c.t.d.def_ 14 (d := SL.d_Values_fresh) rfl
  D_Values_root := c.t.d.def_ 15 (d := SL.d_Values_root) rfl
  D_Values_value_in := c.t.d.def_ 16 (d := SL.d_Values_value_in) rfl
  D_Values_form_of := c.t.d.def_ 17 (d := SL.d_Values_form_of) rfl
  D_Values_value_of := c.t.d.def_ 18 (d := SL.d_Values_value_of) rfl
  D_Values_join := c.t.d.def_ 19 (d := SL.d_Values_join) rfl
  D_Values_alike := c.t.d.def_ 20 (d := SL.d_Values_alike) rfl
  D_Values_do := c.t.d.def_ 21 (d := SL.d_Values_do) rfl
  D_Values_are_one := c.t.d.def_ 22 (d := SL.d_Values_are_one) rfl
  D_is_hue := c.t.d.def_ 23 (d := SL.d_is_hue) rfl
  D_is_hues := c.t.d.def_ 24 (d := SL.d_is_hues) rfl
  D_is_pair := c.t.d.def_ 25 (d := SL.d_is_pair) rfl
  D_are_twins := c.t.d.def_ 26 (d := SL.d_are_twins) rfl
  D_is_paper := c.t.d.def_ 27 (d := SL.d_is_paper) rfl
  D_need_hues := c.t.d.def_ 28 (d := SL.d_need_hues) rfl
  D_is_careful := c.t.d.def_ 29 (d := SL.d_is_careful) rfl
  D_row_fault := c.t.d.def_ 30 (d := SL.d_row_fault) rfl
  D_are_alike := c.t.d.def_ 31 (d := SL.d_are_alike) rfl
  D_twins_fault := c.t.d.def_ 32 (d := SL.d_twins_fault) rfl
  D_values_behind := c.t.d.def_ 33 (d := SL.d_values_behind) rfl
  D_ways_between := c.t.d.def_ 34 (d := SL.d_ways_between) rfl
  D_ends_fault := c.t.d.def_ 35 (d := SL.d_ends_fault) rfl
  D_fault_of := c.t.d.def_ 36 (d := SL.d_fault_of) rfl
  D_all_pairs := c.t.d.def_ 37 (d := SL.d_all_pairs) rfl
  D_paper_of := c.t.d.def_ 38 (d := SL.d_paper_of) rfl
  D_sure_paper := c.t.d.def_ 39 (d := SL.d_sure_paper) rfl
  D_need_inputs := c.t.d.def_ 40 (d := SL.d_need_inputs) rfl
  D_meant := c.t.d.def_ 41 (d := SL.d_meant) rfl
  D_Stand_init := c.t.d.def_ 42 (d := SL.d_Stand_init) rfl
  D_Machine_init := c.t.d.def_ 43 (d := SL.d_Machine_init) rfl
  D_Machine_place := c.t.d.def_ 44 (d := SL.d_Machine_place) rfl
  D_Machine_boxes := c.t.d.def_ 45 (d := SL.d_Machine_boxes) rfl
  D_Machine_end := c.t.d.def_ 46 (d := SL.d_Machine_end) rfl
  D_Machine_beat := c.t.d.def_ 47 (d := SL.d_Machine_beat) rfl
  D_Machine_made := c.t.d.def_ 48 (d := SL.d_Machine_made) rfl
  D_Machine_go_out := c.t.d.def_ 49 (d := SL.d_Machine_go_out) rfl
  D_Machine_tell := c.t.d.def_ 50 (d := SL.d_Machine_tell) rfl
  D_Machine_keep := c.t.d.def_ 51 (d := SL.d_Machine_keep) rfl
  D_Machine_stumble := c.t.d.def_ 52 (d := SL.d_Machine_stumble) rfl
  D_L_begin := c.t.d.def_ 53 (d := SL.d_L_begin) rfl
  D_L_next := c.t.d.def_ 54 (d := SL.d_L_next) rfl
  D_L_two_hues := c.t.d.def_ 55 (d := SL.d_L_two_hues) rfl
  D_L_hues := c.t.d.def_ 56 (d := SL.d_L_hues) rfl
  D_L_plan := c.t.d.def_ 57 (d := SL.d_L_plan) rfl
  D_L_deed := c.t.d.def_ 58 (d := SL.d_L_deed) rfl
  D_L_pair := c.t.d.def_ 59 (d := SL.d_L_pair) rfl
  D_L_step := c.t.d.def_ 60 (d := SL.d_L_step) rfl
  D_L_program := c.t.d.def_ 61 (d := SL.d_L_program) rfl
  D_L_reads := c.t.d.def_ 62 (d := SL.d_L_reads) rfl
  D_L_walked := c.t.d.def_ 63 (d := SL.d_L_walked) rfl
  D_law := c.t.d.def_ 64 (d := SL.d_law) rfl
  g_is_among := He.glo_ok X G (c.t.d.fact 0 rfl)
  g_is_word := He.glo_ok X G (c.t.d.fact 1 rfl)
  g_is_box := He.glo_ok X G (c.t.d.fact 2 rfl)
  g_is_row := He.glo_ok X G (c.t.d.fact 3 rfl)
  g_parts_of := He.glo_ok X G (c.t.d.fact 4 rfl)
  g_reads := He.glo_ok X G (c.t.d.fact 5 rfl)
  g_sets := He.glo_ok X G (c.t.d.fact 6 rfl)
  g_leads := He.glo_ok X G (c.t.d.fact 7 rfl)
  g_is_way := He.glo_ok X G (c.t.d.fact 8 rfl)
  g_need_program := He.glo_ok X G (c.t.d.fact 9 rfl)
  g_behind_row := He.glo_ok X G (c.t.d.fact 10 rfl)
  g_beginnings := He.glo_ok X G (c.t.d.fact 11 rfl)
  g_blocks := He.glo_ok X G (c.t.d.fact 12 rfl)
  g_is_hue := He.glo_ok X G (c.t.d.fact 13 rfl)
  g_is_hues := He.glo_ok X G (c.t.d.fact 14 rfl)
  g_is_pair := He.glo_ok X G (c.t.d.fact 15 rfl)
  g_are_twins := He.glo_ok X G (c.t.d.fact 16 rfl)
  g_is_paper := He.glo_ok X G (c.t.d.fact 17 rfl)
  g_need_hues := He.glo_ok X G (c.t.d.fact 18 rfl)
  g_is_careful := He.glo_ok X G (c.t.d.fact 19 rfl)
  g_row_fault := He.glo_ok X G (c.t.d.fact 20 rfl)
  g_are_alike := He.glo_ok X G (c.t.d.fact 21 rfl)
  g_twins_fault := He.glo_ok X G (c.t.d.fact 22 rfl)
  g_values_behind := He.glo_ok X G (c.t.d.fact 23 rfl)
  g_ways_between := He.glo_ok X G (c.t.d.fact 24 rfl)
  g_ends_fault := He.glo_ok X G (c.t.d.fact 25 rfl)
  g_fault_of := He.glo_ok X G (c.t.d.fact 26 rfl)
  g_all_pairs := He.glo_ok X G (c.t.d.fact 27 rfl)
  g_paper_of := He.glo_ok X G (c.t.d.fact 28 rfl)
  g_sure_paper := He.glo_ok X G (c.t.d.fact 29 rfl)
  g_need_inputs := He.glo_ok X G (c.t.d.fact 30 rfl)
  g_meant := He.glo_ok X G (c.t.d.fact 31 rfl)
  g_L_begin := He.glo_ok X G (c.t.d.fact 32 rfl)
  g_L_next := He.glo_ok X G (c.t.d.fact 33 rfl)
  g_L_two_hues := He.glo_ok X G (c.t.d.fact 34 rfl)
  g_L_hues := He.glo_ok X G (c.t.d.fact 35 rfl)
  g_L_plan := He.glo_ok X G (c.t.d.fact 36 rfl)
  g_L_deed := He.glo_ok X G (c.t.d.fact 37 rfl)
  g_L_pair := He.glo_ok X G (c.t.d.fact 38 rfl)
  g_L_step := He.glo_ok X G (c.t.d.fact 39 rfl)
  g_L_program := He.glo_ok X G (c.t.d.fact 40 rfl)
  g_L_reads := He.glo_ok X G (c.t.d.fact 41 rfl)
  g_L_walked := He.glo_ok X G (c.t.d.fact 42 rfl)
  g_law := He.glo_ok X G (c.t.d.fact 43 rfl)
  g_Values := He.glo_ok X G (c.t.d.fact 44 rfl)
  c_Values := He.cls_ok (c.t.d.fact 45 rfl)
  k_Values := He.mkr_ok (c.t.d.fact 46 rfl)
  n_Values_links := He.noat_ok (c.t.d.fact 47 rfl)
  n_Values_held := He.noat_ok (c.t.d.fact 48 rfl)
  n_Values_forms := He.noat_ok (c.t.d.fact 49 rfl)
  n_Values_puts := He.noat_ok (c.t.d.fact 50 rfl)
  g_Machine := He.glo_ok X G (c.t.d.fact 51 rfl)
  c_Machine := He.cls_ok (c.t.d.fact 52 rfl)
  k_Machine := He.mkr_ok (c.t.d.fact 53 rfl)
  n_Machine_rows := He.noat_ok (c.t.d.fact 54 rfl)
  n_Machine_given := He.noat_ok (c.t.d.fact 55 rfl)
  n_Machine_at := He.noat_ok (c.t.d.fact 56 rfl)
  n_Machine_words := He.noat_ok (c.t.d.fact 57 rfl)
  n_Machine_store := He.noat_ok (c.t.d.fact 58 rfl)
  n_Machine_said := He.noat_ok (c.t.d.fact 59 rfl)
  n_Machine_count := He.noat_ok (c.t.d.fact 60 rfl)
  n_Machine_stands := He.noat_ok (c.t.d.fact 61 rfl)
  n_Machine_over := He.noat_ok (c.t.d.fact 62 rfl)
  n_Machine_done := He.noat_ok (c.t.d.fact 63 rfl)
  g_Stand := He.glo_ok X G (c.t.d.fact 64 rfl)
  c_Stand := He.cls_ok (c.t.d.fact 65 rfl)
  k_Stand := He.mkr_ok (c.t.d.fact 66 rfl)
  n_Stand_at := He.noat_ok (c.t.d.fact 67 rfl)
  n_Stand_words := He.noat_ok (c.t.d.fact 68 rfl)
  n_Stand_store := He.noat_ok (c.t.d.fact 69 rfl)
  n_Stand_count := He.noat_ok (c.t.d.fact 70 rfl)
  n_Stand_used := He.noat_ok (c.t.d.fact 71 rfl)
  m_Values_fresh := He.meth_ok (c.t.d.fact 72 rfl)
  m_Values_root := He.meth_ok (c.t.d.fact 73 rfl)
  m_Values_value_in := He.meth_ok (c.t.d.fact 74 rfl)
  m_Values_form_of := He.meth_ok (c.t.d.fact 75 rfl)
  m_Values_value_of := He.meth_ok (c.t.d.fact 76 rfl)
  m_Values_join := He.meth_ok (c.t.d.fact 77 rfl)
  m_Values_alike := He.meth_ok (c.t.d.fact 78 rfl)
  m_Values_do := He.meth_ok (c.t.d.fact 79 rfl)
  m_Values_are_one := He.meth_ok (c.t.d.fact 80 rfl)
  m_Machine_place := He.meth_ok (c.t.d.fact 81 rfl)
  m_Machine_boxes := He.meth_ok (c.t.d.fact 82 rfl)
  m_Machine_end := He.meth_ok (c.t.d.fact 83 rfl)
  m_Machine_beat := He.meth_ok (c.t.d.fact 84 rfl)
  m_Machine_made := He.meth_ok (c.t.d.fact 85 rfl)
  m_Machine_go_out := He.meth_ok (c.t.d.fact 86 rfl)
  m_Machine_tell := He.meth_ok (c.t.d.fact 87 rfl)
  m_Machine_keep := He.meth_ok (c.t.d.fact 88 rfl)
  m_Machine_stumble := He.meth_ok (c.t.d.fact 89 rfl)
  f_len := He.free_ok X G (c.t.d.fact 90 rfl)
  f_isinstance := He.free_ok X G (c.t.d.fact 91 rfl)
  f_range := He.free_ok X G (c.t.d.fact 92 rfl)
  f_enumerate := He.free_ok X G (c.t.d.fact 93 rfl)
  f_zip := He.free_ok X G (c.t.d.fact 94 rfl)
  f_sorted := He.free_ok X G (c.t.d.fact 95 rfl)
  f_set := He.free_ok X G (c.t.d.fact 96 rfl)
  f_tuple := He.free_ok X G (c.t.d.fact 97 rfl)
  f_list := He.free_ok X G (c.t.d.fact 98 rfl)
  f_int := He.free_ok X G (c.t.d.fact 99 rfl)
  f_str := He.free_ok X G (c.t.d.fact 100 rfl)
  f_bool := He.free_ok X G (c.t.d.fact 101 rfl)
  f_all := He.free_ok X G (c.t.d.fact 102 rfl)
  f_any := He.free_ok X G (c.t.d.fact 103 rfl)
  f_dict := He.free_ok X G (c.t.d.fact 104 rfl)
  f_min := He.free_ok X G (c.t.d.fact 105 rfl)
  f_repr := He.free_ok X G (c.t.d.fact 106 rfl)
  i_MOST_WORD := He.int_ok X G (c.t.d.fact 107 rfl)
  i_MANY_BOXES := He.int_ok X G (c.t.d.fact 108 rfl)
  i_MANY_CELLS := He.int_ok X G (c.t.d.fact 109 rfl)
  i_MANY_INPUTS := He.int_ok X G (c.t.d.fact 110 rfl)
  i_MOST_ROWS := He.int_ok X G (c.t.d.fact 111 rfl)
  i_MOST_KEPT := He.int_ok X G (c.t.d.fact 112 rfl)
  t_SET_BOX := He.str_ok X G (c.t.d.fact 113 rfl)
  t_READ_BOX := He.str_ok X G (c.t.d.fact 114 rfl)
  t_A_WORD := He.str_ok X G (c.t.d.fact 115 rfl)
  t_AN_INPUT := He.str_ok X G (c.t.d.fact 116 rfl)
  t_A_PLACE := He.str_ok X G (c.t.d.fact 117 rfl)
  g_WAYS := He.glo_ok X G (c.t.d.fact 118 rfl)
  g_LAST_ONES := He.glo_ok X G (c.t.d.fact 119 rfl)
  g_EITHER_ORDER := He.glo_ok X G (c.t.d.fact 120 rfl)
  g_PUTS := He.glo_ok X G (c.t.d.fact 121 rfl)
  g_BARRED := He.glo_ok X G (c.t.d.fact 122 rfl)
  g_BY_TWO := He.glo_ok X G (c.t.d.fact 123 rfl)
  g_GOING_OUT := He.glo_ok X G (c.t.d.fact 124 rfl)
  g_FORMS := He.glo_ok X G (c.t.d.fact 125 rfl)
  g_GREATEST := He.glo_ok X G (c.t.d.fact 126 rfl)
  g_COPIES := He.glo_ok X G (c.t.d.fact 127 rfl)
  v_WAYS := fun H => He.tupB_ok (He.ba c.more).1 H
  v_LAST_ONES := fun H => He.tupB_ok (He.ba (He.ba c.more).2).1 H
  v_EITHER_ORDER := fun H => He.tupB_ok (He.ba (He.ba (He.ba c.more).2).2).1 H
  v_PUTS := fun H => He.tupB_ok (He.ba (He.ba (He.ba (He.ba c.more).2).2).2).1 H
  v_BARRED := fun H => He.tupB_ok (He.ba (He.ba (He.ba (He.ba (He.ba c.more).2).2).2).2).1 H
  v_BY_TWO := fun H => He.tupB_ok (He.ba (He.ba (He.ba (He.ba (He.ba (He.ba c.more).2).2).2).2).2).1 H
  v_GOING_OUT := fun H => He.tupB_ok (He.ba (He.ba (He.ba (He.ba (He.ba (He.ba (He.ba c.more).2).2).2).2).2).2).1 H
  k_FORMS := c.t.tab 0 rfl
  w_FORMS := fun z hz => dicW_none (tab_dic c.t 0 rfl) hz
  v_FORMS := fun q hq => by
    obtain ⟨z, hz, e⟩ := List.mem_map.mp (show q ∈ SL.v_FORMS.map (fun z => (z.1, z.2.v K)) from hq)
    obtain ⟨u, h1, h2⟩ := He.valsB_ok (He.ba (He.ba (He.ba (He.ba (He.ba (He.ba (He.ba (He.ba c.more).2).2).2).2).2).2).2).1 hz
    rw [← e]
    exact ⟨u, h1, h2⟩
  k_GREATEST := c.t.tab 1 rfl
  w_GREATEST := fun z hz => dicW_none (tab_dic c.t 1 rfl) hz
  v_GREATEST := fun q hq => by
    obtain ⟨z, hz, e⟩ := List.mem_map.mp (show q ∈ SL.v_GREATEST.map (fun z => (z.1, z.2.v K)) from hq)
    obtain ⟨u, h1, h2⟩ := He.valsB_ok (He.ba (He.ba (He.ba (He.ba (He.ba (He.ba (He.ba (He.ba (He.ba c.more).2).2).2).2).2).2).2).2).1 hz
    rw [← e]
    exact ⟨u, h1, h2⟩
  k_COPIES := c.t.tab 2 rfl
  w_COPIES := fun z hz => dicW_none (tab_dic c.t 2 rfl) hz
  v_COPIES := fun q hq => by
    obtain ⟨z, hz, e⟩ := List.mem_map.mp (show q ∈ SL.v_COPIES.map (fun z => (z.1, z.2.v K)) from hq)
    obtain ⟨u, h1, h2⟩ := He.valsB_ok (He.ba (He.ba (He.ba (He.ba (He.ba (He.ba (He.ba (He.ba (He.ba c.more).2).2).2).2).2).2).2).2).2 hz
    rw [← e]
    exact ⟨u, h1, h2⟩
end SL

/-! text SlWord -/
set_option Elab.async false
set_option linter.all false
set_option maxRecDepth 100000
set_option maxHeartbeats 4000000
namespace SL
open PySem PySem.Spec L2
open PyProof.Rows (envOfC)
/-! ### defs, methods, classes by name: what a caller needs -/
structure Cal (P : Program) (w : World) (K : PySem.W.Frag) (mg : Str → Option Value) (base : Heap) (x : Str) (k : Nat) (ps : List Str) (sp : Sp) : Prop where
  ex : ∃ f fd, mg x = some (.ref f) ∧ PySem.W.keepIn K (.ref f) = true ∧ Binds K fd ps [] ∧ FnOk P w K mg base CX0 k f fd ps sp
structure MCal (P : Program) (w : World) (K : PySem.W.Frag) (mg : Str → Option Value) (base : Heap) (C : Addr) (m : Str) (k : Nat) (ps : List Str) (sp : Sp) : Prop where
  ex : ∃ f fd, Cls K C ∧ Meth K C m f ∧ Binds K fd ps [] ∧ FnOk P w K mg base CX0 k f fd ps sp
structure KCal (P : Program) (w : World) (K : PySem.W.Frag) (mg : Str → Option Value) (base : Heap) (x : Str) (C : Addr) (k : Nat) (ps : List Str) (sp : Sp) : Prop where
  ex : ∃ f fd, mg x = some (.ref C) ∧ Mk K C f ∧ Binds K fd ps [] ∧ FnOk P w K mg base CX0 k f fd ps sp
section
variable {P : Program} {w : World} {K : PySem.W.Frag} {mg : Str → Option Value} {base : Heap}
theorem fok {d : He.DefD} {f : Addr} {fd : FuncData} {N ps : List Str} {k : Nat} {sp : Sp} (F : FunD K d.name d.qual d.params d.body d.scope [] [] f fd) (S : FnScope N ps d.scope) (len : ∀ vs H Q E, sp vs H Q E → vs.length = ps.length)
    (hbody : ∀ (cdv : Value) (A : Around) (outer : List Env) (s : Shared) (H : Hp) (vs : List V) (Q : VK) (E : XK), Room k (A.deeper (envOfC d.qual d.scope s.heap.objs.size f cdv)) → sp vs H Q E →
      ∃ t, PSs (cxOf CX0 P w K mg base N d.qual d.scope f cdv A outer s H E).nox d.body t ∧ t { nx := fun _ H' => Q .non H', rt := Q } (start N vs) H) : FnOk P w K mg base CX0 (k + 1) f fd ps sp :=
  F.ok S len fun cdv A outer s H vs Q E hr h => let ⟨t, p, q⟩ := hbody cdv A outer s H vs Q E hr h; ⟨t, p.nox, q⟩
/-- THE RULE of a def of the top -/
theorem Cal.of {d : He.DefD} {x : Str} {N ps : List Str} {k : Nat} {sp : Sp} (D : FnAt K d) (hm : mg x = some (.ref (He.fAd K d.at_))) (S : FnScope N ps d.scope)
    (bd : ∀ (kV doc pm : Value) (an : Option Addr) (cdv ct : Value) (us : List Value), us.length = ps.length → bindArgs (PySem.W.fnOf d.name d.qual d.params d.body d.scope .none kV doc pm an cdv ct) ⟨us, []⟩ = pure (ps.zip us))
    (len : ∀ vs H Q E, sp vs H Q E → vs.length = ps.length)
    (hbody : ∀ (f : Addr) (cdv : Value) (A : Around) (outer : List Env) (s : Shared) (H : Hp) (vs : List V) (Q : VK) (E : XK), Room k (A.deeper (envOfC d.qual d.scope s.heap.objs.size f cdv)) → sp vs H Q E →
      ∃ t, PSs (cxOf CX0 P w K mg base N d.qual d.scope f cdv A outer s H E).nox d.body t ∧ t { nx := fun _ H' => Q .non H', rt := Q } (start N vs) H) : Cal P w K mg base x (k + 1) ps sp := by
  obtain ⟨fd, F⟩ := D
  exact ⟨_, fd, hm, F.kp, F.bindsN bd, fok F S len (hbody _)⟩
/-- of a method -/
theorem MCal.of {d : He.DefD} {C : Addr} {m : Str} {N ps : List Str} {k : Nat} {sp : Sp} (D : FnAt K d) (c : Cls K C) (hm : Meth K C m (He.fAd K d.at_)) (S : FnScope N ps d.scope)
    (bd : ∀ (kV doc pm : Value) (an : Option Addr) (cdv ct : Value) (us : List Value), us.length = ps.length → bindArgs (PySem.W.fnOf d.name d.qual d.params d.body d.scope .none kV doc pm an cdv ct) ⟨us, []⟩ = pure (ps.zip us))
    (len : ∀ vs H Q E, sp vs H Q E → vs.length = ps.length)
    (hbody : ∀ (f : Addr) (cdv : Value) (A : Around) (outer : List Env) (s : Shared) (H : Hp) (vs : List V) (Q : VK) (E : XK), Room k (A.deeper (envOfC d.qual d.scope s.heap.objs.size f cdv)) → sp vs H Q E →
      ∃ t, PSs (cxOf CX0 P w K mg base N d.qual d.scope f cdv A outer s H E).nox d.body t ∧ t { nx := fun _ H' => Q .non H', rt := Q } (start N vs) H) : MCal P w K mg base C m (k + 1) ps sp := by
  obtain ⟨fd, F⟩ := D
  exact ⟨_, fd, c, hm, F.bindsN bd, fok F S len (hbody _)⟩
/-- of a class: its __init__ -/
theorem KCal.of {d : He.DefD} {C : Addr} {x : Str} {N ps : List Str} {k : Nat} {sp : Sp} (D : FnAt K d) (hx : mg x = some (.ref C)) (hm : Mk K C (He.fAd K d.at_)) (S : FnScope N ps d.scope)
    (bd : ∀ (kV doc pm : Value) (an : Option Addr) (cdv ct : Value) (us : List Value), us.length = ps.length → bindArgs (PySem.W.fnOf d.name d.qual d.params d.body d.scope .none kV doc pm an cdv ct) ⟨us, []⟩ = pure (ps.zip us))
    (len : ∀ vs H Q E, sp vs H Q E → vs.length = ps.length)
    (hbody : ∀ (f : Addr) (cdv : Value) (A : Around) (outer : List Env) (s : Shared) (H : Hp) (vs : List V) (Q : VK) (E : XK), Room k (A.deeper (envOfC d.qual d.scope s.heap.objs.size f cdv)) → sp vs H Q E →
      ∃ t, PSs (cxOf CX0 P w K mg base N d.qual d.scope f cdv A outer s H E).nox d.body t ∧ t { nx := fun _ H' => Q .non H', rt := Q } (start N vs) H) : KCal P w K mg base x C (k + 1) ps sp := by
  obtain ⟨fd, F⟩ := D
  exact ⟨_, fd, hx, hm, F.bindsN bd, fok F S len (hbody _)⟩
theorem Cal.up {x : Str} {j k : Nat} {ps : List Str} {sp : Sp} (c : Cal P w K mg base x j ps sp) (h : j ≤ k) : Cal P w K mg base x k ps sp := let ⟨f, fd, a, b, d, F⟩ := c.ex; ⟨f, fd, a, b, d, F.mono h⟩
end
section
variable {X : Cx} {k : Nat} {C : Addr} {ps : List Str} {sp : Sp} {x m : Str} {p pos apos : Pos} {e o : Expr} {es : List Expr} {t : TA} {ta te : TE}
def tFn (sp : Sp) (t : TA) : TE := fun σ H Q => t σ H fun vs H1 => sp vs H1 Q E0
theorem tCall_nil {sp : Sp} {t : TA} (h : PE X e (tCall sp [] E0 t)) (hm : ∀ σ H Q R, (∀ vs H1, Q vs H1 → R vs H1) → t σ H Q → t σ H R) : PE X e (tFn sp t) := ⟨fun pins s σ H Q I q => h.run pins s σ H Q I (hm _ _ _ _ (fun vs H1 z => by rw [List.append_nil]; exact z) q)⟩
theorem pe_fn (c : Cal X.prog X.w X.K X.mg X.base x k ps sp) (hr : Room k X.A) (hg : Gl X x) (ha : PA X (e :: es) t) (hdb : (x == ("__debug__" : Str)) = false := by decide) (he : starEach (e :: es) X.env = (false, eval e X.env) :: starEach es X.env := by rfl) (hpl : (backTo pos (starEach es X.env)).any (·.1) = false := by rfl) :
    PE X (.Call (.Name x p) (e :: es) [] pos) (tFn sp t) := by
  obtain ⟨f, fd, hm, hk, hb, F⟩ := c.ex
  refine ⟨fun pins s σ H Q I h => ?_⟩
  have ha' : PA X (e :: es) (fun σ H Q => t σ H fun vs H1 => Q vs H1) := ha
  refine (pe_call (pos := pos) (p := p) (sp := fun vs H Q E => sp vs H Q E) (t := fun σ H Q => t σ H Q) F hr hg hm hk hb .nil pass0 ha hdb he hpl).run pins s σ H Q I ?_
  show t σ H fun vs H1 => sp (vs ++ []) H1 Q E0
  have : (fun (vs : List V) H1 => sp (vs ++ []) H1 Q E0) = fun vs H1 => sp vs H1 Q E0 := by
    funext vs H1
    rw [List.append_nil]
  rw [this]
  exact h
def tMth (C : Addr) (m : Str) (sp : Sp) (te : TE) (t : TA) : TE := fun σ H Q => te σ H fun x H1 => ∃ a dx fs, x = .ref a ∧ H1 a = some (.ins C dx fs) ∧ fs.lookup m = none ∧ t σ H1 fun vs H2 => sp (x :: vs) H2 Q E0
theorem tMeth_eq {C : Addr} {m : Str} {sp : Sp} {te : TE} {t : TA} : tMeth C m sp [] E0 te t = tMth C m sp te t := by
  unfold tMeth tMth
  funext σ H Q
  simp only [List.append_nil]
theorem pe_mth {pl : Sem Bool} (he : PE X o ta) (c : MCal X.prog X.w X.K X.mg X.base C m k ps sp) (hr : Room k X.A) (ha : PA X (e :: es) t)
    (hst : starEach (e :: es) X.env = (false, eval e X.env) :: starEach es X.env := by rfl) (hpl : (backTo pos (starEach es X.env)).any (·.1) = false := by rfl)
    (ht : eval (.Call (.Attribute o m apos) (e :: es) [] pos) X.env = (do
      let ov ← eval o X.env
      standAt apos.atName
      let (f, first) ← holding [ov] (getMethod ov m pl)
      callWith pos f first (backTo pos (starEach (e :: es) X.env)) (backToKw pos (keywordEach [] X.env))) := by rfl) : PE X (.Call (.Attribute o m apos) (e :: es) [] pos) (tMth C m sp ta t) := by
  obtain ⟨f, fd, cl, hm, hb, F⟩ := c.ex
  rw [← tMeth_eq]
  exact pe_meth (pl := pl) he cl hm F hr hb .nil pass0 ha hst hpl ht
theorem pe_mth0 {pl : Sem Bool} (he : PE X o ta) (c : MCal X.prog X.w X.K X.mg X.base C m k ps sp) (hr : Room k X.A)
    (ht : eval (.Call (.Attribute o m apos) [] [] pos) X.env = (do
      let ov ← eval o X.env
      standAt apos.atName
      let (f, first) ← holding [ov] (getMethod ov m pl)
      callWith pos f first (backTo pos (starEach [] X.env)) (backToKw pos (keywordEach [] X.env))) := by rfl) : PE X (.Call (.Attribute o m apos) [] [] pos) (tMth C m sp ta tNil) := by
  obtain ⟨f, fd, cl, hm, hb, F⟩ := c.ex
  rw [← tMeth_eq]
  exact pe_meth0 (pl := pl) he cl hm F hr hb .nil pass0 ht
def tMk (C : Addr) (sp : Sp) (t : TA) : TE := fun σ H Q => t σ H fun vs H1 => ∀ x dx, H1 x = none → H1 dx = none → dx ≠ x → sp (.ref x :: vs) (upd (upd H1 dx (.own x)) x (.ins C dx [])) (fun v H2 => v = .non ∧ Q (.ref x) H2) E0
theorem tMake_eq {C : Addr} {sp : Sp} {t : TA} : tMake C sp [] E0 t = tMk C sp t := by
  unfold tMake tMk
  funext σ H Q
  simp only [List.append_nil]
theorem pe_mk (c : KCal X.prog X.w X.K X.mg X.base x C k ps sp) (hr : Room (k + 1) X.A) (hg : Gl X x) (ha : PA X (e :: es) t) (hdb : (x == ("__debug__" : Str)) = false := by decide) (he : starEach (e :: es) X.env = (false, eval e X.env) :: starEach es X.env := by rfl) (hpl : (backTo pos (starEach es X.env)).any (·.1) = false := by rfl) :
    PE X (.Call (.Name x p) (e :: es) [] pos) (tMk C sp t) := by
  obtain ⟨f, fd, hm, M, hb, F⟩ := c.ex
  rw [← tMake_eq]
  exact pe_make M F hr hg hm hb .nil pass0 ha hdb he hpl
/-- a constant of the module -/
theorem pe_ci {i : Int} (hg : Gl X x) (hm : ∃ t, X.mg x = some (.int i t)) (hdb : (x == ("__debug__" : Str)) = false := by decide) : PE X (.Name x pos) (tC (.int i)) := let ⟨t, h⟩ := hm; pe_glob hg h ⟨t, rfl⟩ hdb
theorem pe_cs {z : Str} (hg : Gl X x) (hm : ∃ t, X.mg x = some (.str z t)) (hdb : (x == ("__debug__" : Str)) = false := by decide) : PE X (.Name x pos) (tC (.str z)) := let ⟨t, h⟩ := hm; pe_glob hg h ⟨t, rfl⟩ hdb
theorem pe_ca {a : Addr} (hg : Gl X x) (hm : X.mg x = some (.ref a)) (hdb : (x == ("__debug__" : Str)) = false := by decide) : PE X (.Name x pos) (tC (.ref a)) := pe_glob hg hm rfl hdb
/-! within a comprehension: K by name -/
theorem ix_tupK {K : PySem.W.Frag} (h : X.K = K) : IxR X (rIxT K) := h ▸ ix_tup
theorem ix_listK {K : PySem.W.Frag} (h : X.K = K) : IxR X (rIxL K) := h ▸ ix_list
theorem op_in_seqK {K : PySem.W.Frag} (h : X.K = K) : OpR X (compareOp .In) (rIn K false) := h ▸ op_in_seq
theorem op_notIn_seqK {K : PySem.W.Frag} (h : X.K = K) : OpR X (compareOp .NotIn) (rIn K true) := h ▸ op_notIn_seq
theorem sl_tupAK {K : PySem.W.Frag} (h : X.K = K) : SlR X (rSlA K) := h ▸ sl_tupA
theorem call_isiK {K : PySem.W.Frag} (h : X.K = K) : CallR X (.builtin "isinstance") (rIsi K) := h ▸ call_isi
theorem cr_allK {K : PySem.W.Frag} (hc : X.calm = true) (h : X.K = K) : CallR X (.builtin "all") (rAll K) := h ▸ cr_all hc
theorem call_len_seqK {K : PySem.W.Frag} (h : X.K = K) : CallR X (.builtin "len") (fun xs H Q => ∃ p ys, xs = [.ref p] ∧ (SqL K H p ys ∨ SqT K H p ys) ∧ Q (.int ys.length) H) := h ▸ call_len_seq
theorem pg_tupK {K : PySem.W.Frag} {es : List Expr} {k : Nat} {t : TGs} {n : Nat} (h : X.K = K) (hc : X.calm = true) (ht : PGs X es t)
    (hn : (assignEach es X.env).length = n := by rfl) (hst : (assignEach es X.env).findIdx? (·.1) = none := by rfl) : PG X (.Tuple es k pos) (gTup K n t) := h ▸ pg_tup hc ht hn hst
theorem op_ltTK {K : PySem.W.Frag} (hu : X.A.units < cLine) (h : X.K = K) : OpR X (compareOp .Lt) (rLtT K) := h ▸ op_ltT hu
def rTupOf (K : PySem.W.Frag) : List V → Hp → VK → Prop := fun xs H Q => ∃ p ys, xs = [.ref p] ∧ ((SqL K H p ys ∧ ∀ l, H l = none → Q (.ref l) (upd H l (.tup ys))) ∨ (SqT K H p ys ∧ Q (.ref p) H))
theorem call_tuple_ofK {K : PySem.W.Frag} (h : X.K = K) : CallR X (.type "tuple") (rTupOf K) := by subst h; exact call_tuple_of
theorem pi_tupK {K : PySem.W.Frag} {tg : Expr} (h : X.K = K) (he : PE X e te) : PI X tg e (iTup K te) := h ▸ pi_tup he
end
end SL

/-! text SlFact -/
set_option Elab.async false
set_option linter.all false
set_option maxRecDepth 100000
set_option maxHeartbeats 4000000
namespace SL
open PySem PySem.Spec L2
/-! ### rows, programs as they stand in the heap -/
def Row.word : Row → Str
  | .set _ _ => "set" | .ask _ _ => "ask" | .copy _ _ => "copy" | .take _ _ => "take"
  | .bin o _ _ _ => o.str | .pick _ _ _ _ => "pick"
  | .hold _ _ => "hold" | .tell2 _ _ => "tell2" | .put2 _ _ _ _ => "put2" | .if2 _ _ _ => "if2"
  | .go _ => "go" | .fin => "end" | .keep => "keep"
def Row.parts : Row → List Nat
  | .set b n => [b, n] | .ask b k => [b, k] | .copy b c => [b, c] | .take b c => [b, c]
  | .bin _ b c d => [b, c, d] | .pick b c d e => [b, c, d, e]
  | .hold c d => [c, d] | .tell2 c d => [c, d] | .put2 c d e f => [c, d, e, f] | .if2 c d t => [c, d, t]
  | .go t => [t] | .fin => [] | .keep => []
def Row.form : Row → Str
  | .set _ _ => "sn" | .ask _ _ => "sk" | .copy _ _ => "sr" | .take _ _ => "sr"
  | .bin _ _ _ _ => "srr" | .pick _ _ _ _ => "srrr"
  | .hold _ _ => "rr" | .tell2 _ _ => "rr" | .put2 _ _ _ _ => "rrrr" | .if2 _ _ _ => "rrp"
  | .go _ => "p" | .fin => "" | .keep => ""
def vns (l : List Nat) : List V := l.map vn
def Row.tup (r : Row) : List V := .str r.word :: vns r.parts
def RowAt (H : Hp) (a : Addr) (r : Row) : Prop := H a = some (.tup r.tup)
def ProgAt (H : Hp) (a : Addr) (p : Prog) : Prop := ∃ rs : List Addr, H a = some (.tup (rs.map .ref)) ∧ Paired (RowAt H) rs p
/-- tuples stay -/
def SameT (H H' : Hp) : Prop := ∀ a xs, H a = some (.tup xs) → H' a = some (.tup xs)
theorem SameT.refl (H : Hp) : SameT H H := fun _ _ h => h
theorem SameT.trans {H H1 H2 : Hp} (a : SameT H H1) (b : SameT H1 H2) : SameT H H2 := fun c o h => b c o (a c o h)
theorem SameT.of {H H' : Hp} (e : Same H H') : SameT H H' := fun a xs h => e a _ h
theorem RowAt.mono {H H' : Hp} {a : Addr} {r : Row} (h : RowAt H a r) (e : SameT H H') : RowAt H' a r := e _ _ h
theorem ProgAt.mono {H H' : Hp} {a : Addr} {p : Prog} (h : ProgAt H a p) (e : SameT H H') : ProgAt H' a p := let ⟨rs, h1, h2⟩ := h; ⟨rs, e _ _ h1, Paired.mapP h2 fun _ _ z => z.mono e⟩
theorem paired_len {α β : Type} {F : α → β → Prop} {l₁ : List α} {l₂ : List β} (h : Paired F l₁ l₂) : l₁.length = l₂.length := Paired.length h
theorem paired_get {α β : Type} {F : α → β → Prop} : ∀ {l₁ : List α} {l₂ : List β}, Paired F l₁ l₂ → ∀ {i : Nat} {b : β}, l₂[i]? = some b → ∃ a, l₁[i]? = some a ∧ F a b
  | _, _, .nil, i, b, h => by simp at h
  | _, _, .cons r t, 0, b, h => by
    simp at h
    subst h
    exact ⟨_, rfl, r⟩
  | _, _, .cons r t, i + 1, b, h => by
    obtain ⟨a, h1, h2⟩ := paired_get t (i := i) (b := b) (by simpa using h)
    exact ⟨a, by simpa using h1, h2⟩
/-- a new object leaves all as it was -/
theorem same_new {H : Hp} {p : Addr} {o : HO} (h : H p = none) : Same H (upd H p o) := fun b u e => by
  rw [upd_ne (ne_of_none e h)]
  exact e
theorem same_upd {H H' : Hp} {p : Addr} {o : HO} (e : Same H H') (h : H' p = none) : Same H (upd H' p o) := e.trans (same_new h)
/-- an object that H does not know is changed -/
theorem same_mut {H H' : Hp} {p : Addr} {o : HO} (e : Same H H') (h : H p = none) : Same H (upd H' p o) := fun b u z => by
  rw [upd_ne (ne_of_none z h)]
  exact e b u z
/-- what a promise gives: a value, the heap extended; a new tuple; a new list -/
def Rv (v : V) (H : Hp) (Q : VK) : Prop := ∀ H', Same H H' → Q v H'
def Rt (xs : List V) (H : Hp) (Q : VK) : Prop := ∀ p H', H p = none → Same H H' → H' p = some (.tup xs) → Q (.ref p) H'
def Rl (xs : List V) (H : Hp) (Q : VK) : Prop := ∀ p H', H p = none → Same H H' → H' p = some (.lst xs) → Q (.ref p) H'
/-! ### words for the readings -/
theorem k_ii {K : PySem.W.Frag} : PySem.W.kitOne K (.type "int") (.type "int") = some true := kit_ty (by decide +kernel)
theorem k_ib {K : PySem.W.Frag} : PySem.W.kitOne K (.type "int") (.type "bool") = some false := kit_ty (by decide +kernel)
theorem k_ss {K : PySem.W.Frag} : PySem.W.kitOne K (.type "str") (.type "str") = some true := kit_ty (by decide +kernel)
theorem k_tt {K : PySem.W.Frag} : PySem.W.kitOne K (.type "tuple") (.type "tuple") = some true := kit_ty (by decide +kernel)
theorem cut1 (x : V) (xs : List V) : cutV (x :: xs) (some 1) none = xs := by
  unfold cutV
  rw [show HT.sIx (x :: xs).length 0 (some 1) = min 1 (x :: xs).length from HT.sIx_nat _ _ 1, HT.sIx_none]
  simp
theorem not_whole {n : Nat} (h : 0 < n) (Q : Prop) : HT.sIx n 0 (some 1) = 0 ∧ HT.sIx n n none = n → Q := fun ⟨a, _⟩ => by
  rw [show HT.sIx n 0 (some 1) = min 1 n from HT.sIx_nat _ _ 1] at a
  omega
def oV : Option Nat → V
  | none => .non
  | some n => vn n
theorem vn_inj {a b : Nat} : vn a = vn b ↔ a = b := by
  constructor
  · intro h
    have h2 : (a : Int) = b := V.int.inj h
    omega
  · intro h
    rw [h]
theorem vn_dec (a b : Nat) : decide (vn a = vn b) = decide (a = b) := decide_eq_decide.mpr vn_inj
theorem len_vns (l : List Nat) : (vns l).length = l.length := List.length_map ..
theorem get_vns {l : List Nat} {i n : Nat} (h : l[i]? = some n) : (vns l)[i]? = some (vn n) := by
  unfold vns
  rw [List.getElem?_map, h]
  rfl
theorem flat_vns {K : PySem.W.Frag} (l : List Nat) : (vns l).all flatV = true := by
  unfold vns
  rw [List.all_eq_true]
  intro x hx
  obtain ⟨n, _, e⟩ := List.mem_map.mp hx
  rw [← e]
  rfl
theorem len_tup {K : PySem.W.Frag} {H : Hp} {a : Addr} {xs : List V} (h : H a = some (.tup xs)) : SqL K H a xs ∨ SqT K H a xs := .inr (.of h)
theorem len_lst {K : PySem.W.Frag} {H : Hp} {a : Addr} {xs : List V} (h : H a = some (.lst xs)) : SqL K H a xs ∨ SqT K H a xs := .inl (.of h)
/-! ### comprehensions whose turns change nothing that stood -/
theorem flat_ext {α : Type} {l : List α} {h : α → List V} {i : Nat} {a : α} (e : l[i]? = some a) : (l.take (i + 1)).flatMap h = (l.take i).flatMap h ++ h a := by
  rw [List.take_succ, e]
  simp
theorem flat_len {α : Type} {h : α → List V} (hf : ∀ a, (h a).length ≤ 1) : ∀ l : List α, (l.flatMap h).length ≤ l.length
  | [] => Nat.le_refl _
  | a :: r => by
    have h1 := flat_len hf r
    have h2 := hf a
    rw [List.flatMap_cons, List.length_append, List.length_cons]
    omega
theorem lc_pure {α : Type} {J : It} {n : Nat} {G : Hp → Prop} {Y : Nat → Hp → V → Hp → Prop} (w : Walk J n G Y) {g : TG} {tt : TT} {te : TE} {vs : List Nat} {σ : St} {H1 : Hp} {D : Addr} {Qd : Hp → Prop} (l : List α) (h : α → List V) (hn : n = l.length) (hz : l.length ≤ 1000)
    (hf : ∀ a, (h a).length ≤ 1) (hD : H1 D = none) (hG : ∀ H, Same H1 H → G H) (hY : ∀ i H x H', Y i H x H' → Same H H')
    (hs : ∀ i a x H H' (Kq : V → Hp → Prop) (N : Hp → Prop), l[i]? = some a → Same H1 H → Y i H x H' → (∀ y H4, Same H' H4 → h a = [y] → Kq y H4) → (∀ H4, Same H' H4 → h a = [] → N H4) →
      g x (wipe σ vs) H' fun σ2 H2 => wipe σ2 vs = wipe σ vs ∧ tt σ2 H2 fun b H3 => if b = true then te σ2 H3 Kq else N H3)
    (hd : ∀ H, Same H1 H → H D = some (.lst (l.flatMap h)) → Qd H) :
    ∃ W : Nat → Nat → Hp → Prop, (∃ m, W 0 m (upd H1 D (.lst []))) ∧ ∀ i m H, W i m H →
      (J.stop i H ∧ Qd H) ∨ (J.go i H ∧ ∃ Nx : Hp → Prop, (∀ H', Nx H' → ∃ m', m' < m ∧ W (i + 1) m' H') ∧ ∀ x H', J.yld i H x H' → g x (wipe σ vs) H' fun σ2 H2 => wipe σ2 vs = wipe σ vs ∧ tt σ2 H2 fun b H3 =>
        if b = true then te σ2 H3 fun y H4 => ∃ acc, H4 D = some (.lst acc) ∧ acc.length < sizeLine ∧ Nx (upd H4 D (.lst (acc ++ [y]))) else Nx H3) := by
  refine lc_it w (fun i H => Same H1 H ∧ H D = some (.lst ((l.take i).flatMap h))) ⟨same_new hD, by rw [upd_same]; rfl⟩ (fun i H _ p => hG H p.1) (fun i x H H' hi p y => ?_) (fun H p => ?_)
  · obtain ⟨p1, p2⟩ := p
    have hi' : i < l.length := by omega
    have ea : l[i]? = some l[i] := List.getElem?_eq_getElem hi'
    have e := flat_ext (h := h) ea
    have hl := flat_len hf (l.take i)
    have hl2 : (l.take i).length ≤ l.length := by rw [List.length_take]; omega
    refine hs i l[i] x H H' _ _ ea p1 y (fun z H4 s4 ez => ⟨_, s4 _ _ (hY _ _ _ _ y _ _ p2), by rw [sizeLine_eq]; omega, same_mut (p1.trans ((hY _ _ _ _ y).trans s4)) hD, ?_⟩) (fun H4 s4 ez => ⟨p1.trans ((hY _ _ _ _ y).trans s4), ?_⟩)
    · rw [upd_same, e, ez]
    · rw [s4 _ _ (hY _ _ _ _ y _ _ p2), e, ez, List.append_nil]
  · refine hd H p.1 ?_
    have h2 := p.2
    rw [hn, List.take_length] at h2
    exact h2
theorem same_yat {xs : List V} : ∀ i H x H', YAt xs i H x H' → Same H H' := fun i H x H' y => by
  rw [y.1]
  exact Same.refl H
theorem same_yfn {f : Nat → V} : ∀ i H x H', YFn f i H x H' → Same H H' := fun i H x H' y => by
  rw [y.1]
  exact Same.refl H
theorem same_ypair {xs ys : Nat → Option V} : ∀ i H x H', YPair xs ys i H x H' → Same H H' := fun i H x H' y => by
  obtain ⟨T, a, b, _, h1, h2, _⟩ := y
  rw [h2]
  exact same_new h1
/-! ### the top's dicts -/
section
variable {X : Cx} {d : Addr}
def rKd (d : Addr) (l : List (Str × V)) : R2 := fun x y H Q => ∃ z v, x = .ref d ∧ y = .str z ∧ l.lookup z = some v ∧ Q v H
theorem mem_of_lookup {α : Type} {l : List (Str × α)} {z : Str} {v : α} (h : l.lookup z = some v) : (z, v) ∈ l := by
  induction l with
  | nil => cases h
  | cons q r ih =>
    obtain ⟨k, u⟩ := q
    rw [List.lookup_cons] at h
    cases e : z == k with
    | true =>
      rw [e] at h
      cases h
      rw [eq_of_beq e]
      exact List.mem_cons_self
    | false =>
      rw [e] at h
      exact List.mem_cons_of_mem _ (ih h)
theorem ix_kd {l : List (Str × V)} (D : ∃ es n, KDict X.K X.w d es n) (hv : ∀ q ∈ l, ∃ u, PySem.W.nsIn X.K d q.1 = some (some u) ∧ RelV q.2 u) : IxR X (rKd d l) := by
  intro value slice pins s σ H x y v u Q I rx ry h hs
  obtain ⟨es, n, D⟩ := D
  obtain ⟨z, v0, rfl, rfl, e, q⟩ := h
  obtain ⟨u0, h1, h2⟩ := hv _ (mem_of_lookup e)
  have r := op_item_kd D pins s σ H _ _ v u Q I rx ry ⟨z, u0, v0, rfl, rfl, h1, h2, q⟩
  cases rx
  exact PyProof.Rows.tail_any (ops := [.ref d, u]) (kd_type D I) PySem.F.slot_dict_getitem.lookup r hs
def rKin (d : Addr) (ks : List Str) (neg : Bool) : R2 := fun x y H Q => ∃ z, x = .str z ∧ y = .ref d ∧ Q (.bl (if neg then !decide (z ∈ ks) else decide (z ∈ ks))) H
theorem op_inK {l : List (Str × V)} {ks : List Str} (D : ∃ es n, KDict X.K X.w d es n) (hv : ∀ q ∈ l, ∃ u, PySem.W.nsIn X.K d q.1 = some (some u) ∧ RelV q.2 u) (hn : ∀ z : Str, z ∉ ks → PySem.W.nsIn X.K d z = some none) (hk : l.map (·.1) = ks) : OpR X (compareOp .In) (rKin d ks false) := by
  intro pins s σ H x y v u Q I rx ry h
  obtain ⟨es, n, D⟩ := D
  obtain ⟨z, rfl, rfl, q⟩ := h
  by_cases e : z ∈ ks
  · rw [← hk] at e
    obtain ⟨p, hp, ep⟩ := List.mem_map.mp e
    obtain ⟨u0, h1, h2⟩ := hv p hp
    rw [ep] at h1
    refine op_in_kd D pins s σ H _ _ v u Q I rx ry ⟨z, _, rfl, rfl, h1, ?_⟩
    rw [hk] at e
    simpa [e] using q
  · refine op_in_kd D pins s σ H _ _ v u Q I rx ry ⟨z, _, rfl, rfl, hn z e, ?_⟩
    simpa [e] using q
theorem op_notInK {l : List (Str × V)} {ks : List Str} (D : ∃ es n, KDict X.K X.w d es n) (hv : ∀ q ∈ l, ∃ u, PySem.W.nsIn X.K d q.1 = some (some u) ∧ RelV q.2 u) (hn : ∀ z : Str, z ∉ ks → PySem.W.nsIn X.K d z = some none) (hk : l.map (·.1) = ks) : OpR X (compareOp .NotIn) (rKin d ks true) := by
  intro pins s σ H x y v u Q I rx ry h
  obtain ⟨es, n, D⟩ := D
  obtain ⟨z, rfl, rfl, q⟩ := h
  by_cases e : z ∈ ks
  · rw [← hk] at e
    obtain ⟨p, hp, ep⟩ := List.mem_map.mp e
    obtain ⟨u0, h1, h2⟩ := hv p hp
    rw [ep] at h1
    refine op_notIn_kd D pins s σ H _ _ v u Q I rx ry ⟨z, _, rfl, rfl, h1, ?_⟩
    rw [hk] at e
    simpa [e] using q
  · refine op_notIn_kd D pins s σ H _ _ v u Q I rx ry ⟨z, _, rfl, rfl, hn z e, ?_⟩
    simpa [e] using q
end
end SL

/-! text SlDat -/
set_option Elab.async false
set_option linter.all false
set_option maxRecDepth 100000
set_option maxHeartbeats 4000000
namespace SL
open PySem PySem.Spec L2
/-! ### lists and tuples of numbers as data -/
def pd (l : List Nat) : List PyData := l.map fun (n : Nat) => PyData.int (n : Int)
section
variable {K : PySem.W.Frag} {H : Hp}
theorem dp_all : ∀ l : List Nat, DpAll K H (vns l) (pd l)
  | [] => .nil
  | n :: r => .cons (.int _) (dp_all r)
theorem dp_lst {a : Addr} {l : List Nat} (h : H a = some (.lst (vns l))) : Dp K H (.ref a) (.list (pd l)) := .lst (.of h) (dp_all l)
theorem dp_tup {a : Addr} {l : List Nat} (h : H a = some (.tup (vns l))) : Dp K H (.ref a) (.tuple (pd l)) := .tup (.of h) (dp_all l)
theorem dp_nilL {a : Addr} (h : H a = some (.lst [])) : Dp K H (.ref a) (.list (pd [])) := .lst (.of h) .nil
theorem dp_nilT {a : Addr} (h : H a = some (.tup [])) : Dp K H (.ref a) (.tuple (pd [])) := .tup (.of h) .nil
end
theorem lay_pd : ∀ l : List Nat, PyData.canLayAll0 (pd l) = true
  | [] => rfl
  | n :: r => by
    show (PyData.canLay0 (.int (n : Int)) && PyData.canLayAll0 (pd r)) = true
    rw [lay_pd r]
    rfl
theorem depth_pd : ∀ l : List Nat, PyData.depthAll (pd l) ≤ 1
  | [] => Nat.zero_le _
  | n :: r => by
    have := depth_pd r
    show max (PyData.depth (.int (n : Int))) (PyData.depthAll (pd r)) ≤ 1
    exact Nat.max_le.mpr ⟨Nat.zero_le _, this⟩
theorem shaped_lst (l : List Nat) : SeqAt.shaped (.list (pd l)) = true := by
  unfold SeqAt.shaped
  rw [show PyData.canLay0 (.list (pd l)) = PyData.canLayAll0 (pd l) from rfl, lay_pd, Bool.true_and]
  refine decide_eq_true ?_
  show PyData.depthAll (pd l) + 1 ≤ 64
  have := depth_pd l
  omega
theorem shaped_tup (l : List Nat) : SeqAt.shaped (.tuple (pd l)) = true := by
  unfold SeqAt.shaped
  rw [show PyData.canLay0 (.tuple (pd l)) = PyData.canLayAll0 (pd l) from rfl, lay_pd, Bool.true_and]
  refine decide_eq_true ?_
  show PyData.depthAll (pd l) + 1 ≤ 64
  have := depth_pd l
  omega
theorem eqv_int (a b : Nat) : PyData.eqv (.int (a : Int)) (.int (b : Int)) = decide (a = b) := by
  show decide ((a : Int) = (b : Int)) = _
  exact decide_eq_decide.mpr (by omega)
theorem eqv_lst : ∀ l m : List Nat, PyData.eqv (.list (pd l)) (.list (pd m)) = decide (l = m)
  | [], [] => rfl
  | [], b :: m => by
    rw [decide_eq_false (by simp)]
    rfl
  | a :: l, [] => by
    rw [decide_eq_false (by simp)]
    rfl
  | a :: l, b :: m => by
    show (PyData.eqv (.int (a : Int)) (.int (b : Int)) && PyData.eqv (.list (pd l)) (.list (pd m))) = _
    rw [eqv_int, eqv_lst l m, ← Bool.decide_and]
    exact decide_eq_decide.mpr (by simp)
theorem eqv_tup : ∀ l m : List Nat, PyData.eqv (.tuple (pd l)) (.tuple (pd m)) = decide (l = m)
  | [], [] => rfl
  | [], b :: m => by
    rw [decide_eq_false (by simp)]
    rfl
  | a :: l, [] => by
    rw [decide_eq_false (by simp)]
    rfl
  | a :: l, b :: m => by
    show (PyData.eqv (.int (a : Int)) (.int (b : Int)) && PyData.eqv (.tuple (pd l)) (.tuple (pd m))) = _
    rw [eqv_int, eqv_tup l m, ← Bool.decide_and]
    exact decide_eq_decide.mpr (by simp)
theorem z0 : ([] : List V).length ≤ sizeLine := Nat.zero_le _
theorem row_at0 (r : Row) : atI r.tup (0 : Int) = some (.str r.word) := atI_nat (j := 0) rfl
theorem row_at (r : Row) {i m : Nat} (h : r.parts[i]? = some m) : atI r.tup ((i + 1 : Nat) : Int) = some (vn m) := atI_nat (j := i + 1) (by
  show (V.str r.word :: vns r.parts)[i + 1]? = _
  rw [List.getElem?_cons_succ]
  exact get_vns h)
theorem at_last {α : Type} {xs : List α} {j : Nat} {v : α} (h : xs[j]? = some v) (hl : xs.length = j + 1) : atI xs (-1 : Int) = some v := by
  have hne : xs ≠ [] := fun z => by rw [z] at hl; cases hl
  have e := List.dropLast_concat_getLast hne
  have e2 : xs.getLast hne = v := by
    rw [List.getLast_eq_getElem]
    have h3 : xs.length - 1 = j := by omega
    have h4 := (List.getElem?_eq_some_iff.mp h).2
    simp only [h3]
    exact h4
  rw [← e, e2]
  exact atI_last _ _
theorem flat_one {α β : Type} {f : α → β} {l : List α} : l.flatMap (fun a => [f a]) = l.map f := by
  induction l with
  | nil => rfl
  | cons a r ih =>
    rw [List.flatMap_cons, ih]
    rfl
theorem flat_if {α β : Type} (p : α → Bool) (f : α → β) {l : List α} : l.flatMap (fun a => if p a = true then [f a] else []) = (l.filter p).map f := by
  induction l with
  | nil => rfl
  | cons a r ih =>
    rw [List.flatMap_cons, ih, List.filter_cons]
    split <;> rfl
theorem g2_go {K : PySem.W.Frag} {i j : Nat} {e : Addr} {x y : V} {σ : St} {H : Hp} {Q : St → Hp → Prop} (h : H e = some (.tup [x, y])) (q : Q ((σ.set i (some x)).set j (some y)) H) : gTup K 2 (gCons (gName i) (gCons (gName j) gNil)) (.ref e) σ H Q :=
  ⟨e, _, rfl, .of h, rfl, x, [y], rfl, y, [], rfl, rfl, q⟩
end SL

/-! text SlVs -/
set_option linter.all false
/-! What the values keep: plain mathematics of the mirror. -/
namespace SL
def Down (l : List Nat) : Prop := ∀ i : Nat, l.getD i 0 ≤ i
theorem rootF_le {l : List Nat} (h : Down l) : ∀ n v, rootF l n v ≤ v
  | 0, v => Nat.le_refl v
  | n + 1, v => by
    unfold rootF
    split
    · exact Nat.le_refl v
    · exact Nat.le_trans (rootF_le h n _) (h v)
theorem rootF_fix {l : List Nat} (h : Down l) : ∀ n v, v ≤ n → l.getD (rootF l n v) 0 = rootF l n v
  | 0, v, hv => by
    have e : v = 0 := by omega
    subst e
    have := h 0
    show l.getD 0 0 = 0
    omega
  | n + 1, v, hv => by
    unfold rootF
    split
    · assumption
    · have := h v
      exact rootF_fix h n _ (by omega)
theorem rootF_fuel {l : List Nat} (h : Down l) : ∀ n m v, v ≤ n → v ≤ m → rootF l n v = rootF l m v
  | 0, 0, v, _, _ => rfl
  | 0, m + 1, v, h1, _ => by
    have e : v = 0 := by omega
    subst e
    have := h 0
    have e2 : l.getD 0 0 = 0 := by omega
    show 0 = rootF l (m + 1) 0
    unfold rootF
    rw [if_pos e2]
  | n + 1, 0, v, _, h2 => by
    have e : v = 0 := by omega
    subst e
    have := h 0
    have e2 : l.getD 0 0 = 0 := by omega
    show rootF l (n + 1) 0 = 0
    unfold rootF
    rw [if_pos e2]
  | n + 1, m + 1, v, h1, h2 => by
    unfold rootF
    split
    · rfl
    · have := h v
      exact rootF_fuel h n m _ (by omega) (by omega)
theorem root_step {s : VS} (h : Down s.links) {v : Nat} (hv : s.links.getD v 0 ≠ v) : s.root (s.links.getD v 0) = s.root v := by
  have h1 := h v
  unfold VS.root
  cases v with
  | zero => exact absurd (by omega) hv
  | succ k =>
    show rootF s.links (s.links.getD (k + 1) 0) (s.links.getD (k + 1) 0) = rootF s.links (k + 1) (k + 1)
    rw [show rootF s.links (k + 1) (k + 1) = rootF s.links k (s.links.getD (k + 1) 0) from by
      conv => lhs; unfold rootF
      rw [if_neg hv]]
    exact rootF_fuel h _ _ _ (Nat.le_refl _) (by omega)
theorem root_self {s : VS} (h : Down s.links) {v : Nat} (hv : s.links.getD v 0 = v) : s.root v = v := by
  unfold VS.root
  cases v with
  | zero => rfl
  | succ k =>
    unfold rootF
    rw [if_pos hv]
theorem root_le {s : VS} (h : Down s.links) (v : Nat) : s.root v ≤ v := rootF_le h _ _
theorem root_fix {s : VS} (h : Down s.links) (v : Nat) : s.links.getD (s.root v) 0 = s.root v := rootF_fix h _ _ (Nat.le_refl _)
/-! ### getN, putN -/
section
variable {α : Type} [DecidableEq α]
theorem getN_mem {k : α} {v : Nat} : ∀ {l : List (α × Nat)}, getN l k = some v → (k, v) ∈ l
  | (a, b) :: r, h => by
    unfold getN at h
    split at h
    · rename_i e
      cases h
      rw [e]
      exact List.mem_cons_self
    · exact List.mem_cons_of_mem _ (getN_mem h)
theorem putN_mem {k : α} {v : Nat} {q : α × Nat} : ∀ {l : List (α × Nat)}, q ∈ putN l k v → q ∈ l ∨ q = (k, v)
  | [], h => .inr (by simpa [putN] using h)
  | (a, b) :: r, h => by
    unfold putN at h
    split at h
    · rename_i e
      rcases List.mem_cons.mp h with q | q
      · exact .inr (by rw [q, e])
      · exact .inl (List.mem_cons_of_mem _ q)
    · rcases List.mem_cons.mp h with q | q
      · exact .inl (by rw [q]; exact List.mem_cons_self)
      · rcases putN_mem q with z | z
        · exact .inl (List.mem_cons_of_mem _ z)
        · exact .inr z
theorem putN_len {k : α} {v : Nat} : ∀ {l : List (α × Nat)}, (putN l k v).length ≤ l.length + 1
  | [] => by simp [putN]
  | (a, b) :: r => by
    unfold putN
    split
    · simp
    · have := putN_len (k := k) (v := v) (l := r)
      simp only [List.length_cons]
      omega
theorem getN_putN {k j : α} {v : Nat} : ∀ {l : List (α × Nat)}, getN (putN l k v) j = if k = j then some v else getN l j
  | [] => by
    unfold putN getN
    rfl
  | (a, b) :: r => by
    unfold putN
    split
    · rename_i e
      subst e
      unfold getN
      split <;> rfl
    · rename_i e
      unfold getN
      rw [getN_putN (l := r)]
      by_cases h : a = j
      · subst h
        rw [if_pos rfl, if_pos rfl, if_neg fun z => e z.symm]
      · rw [if_neg h, if_neg h]
end
/-! ### what is kept -/
structure Form.Ok (m : Nat) (f : Form) : Prop where
  nums : f.nums.length ≤ 1
  few : f.vals.length ≤ 3
  vals : ∀ v ∈ f.vals, v < m
theorem Form.Ok.mono {m n : Nat} {f : Form} (h : f.Ok m) (e : m ≤ n) : f.Ok n := ⟨h.nums, h.few, fun v hv => Nat.lt_of_lt_of_le (h.vals v hv) e⟩
structure VS.Ok (s : VS) (n : Nat) : Prop where
  down : Down s.links
  held : ∀ q ∈ s.held, q.2 < s.links.length
  forms : ∀ q ∈ s.forms, q.2 < s.links.length ∧ q.1.Ok s.links.length
  llen : s.links.length ≤ n
  hlen : s.held.length ≤ n
  flen : s.forms.length ≤ n
theorem VS.Ok.up {s : VS} {n m : Nat} (h : s.Ok n) (e : n ≤ m) : s.Ok m := ⟨h.down, h.held, h.forms, Nat.le_trans h.llen e, Nat.le_trans h.hlen e, Nat.le_trans h.flen e⟩
theorem VS.Ok.root_lt {s : VS} {n : Nat} (h : s.Ok n) {v : Nat} (hv : v < s.links.length) : s.root v < s.links.length := Nat.lt_of_le_of_lt (root_le h.down v) hv
theorem down_fresh {l : List Nat} (h : Down l) : Down (l ++ [l.length]) := by
  intro i
  rw [List.getD_eq_getElem?_getD]
  by_cases h1 : i < l.length
  · rw [List.getElem?_append_left h1]
    have := h i
    rwa [List.getD_eq_getElem?_getD] at this
  · by_cases h2 : i = l.length
    · subst h2
      simp
    · rw [List.getElem?_eq_none (by simp; omega)]
      exact Nat.zero_le _
theorem VS.Ok.fresh {s : VS} {n : Nat} (h : s.Ok n) : s.fresh.Ok (n + 1) := by
  have hl : s.fresh.links.length = s.links.length + 1 := by simp [VS.fresh]
  refine ⟨down_fresh h.down, fun q hq => ?_, fun q hq => ?_, ?_, ?_, ?_⟩
  · have := h.held q hq
    omega
  · obtain ⟨h1, h2⟩ := h.forms q hq
    exact ⟨by omega, h2.mono (by omega)⟩
  · have := h.llen
    omega
  · exact Nat.le_succ_of_le h.hlen
  · exact Nat.le_succ_of_le h.flen
theorem VS.Ok.hold {s : VS} {n : Nat} (h : s.Ok n) {b v : Nat} (hv : v < s.links.length) : (s.hold b v).Ok (n + 1) := by
  refine ⟨h.down, fun q hq => ?_, h.forms, Nat.le_succ_of_le h.llen, ?_, Nat.le_succ_of_le h.flen⟩
  · rcases putN_mem hq with z | z
    · exact h.held q z
    · rw [z]
      exact hv
  · have := putN_len (k := b) (v := v) (l := s.held)
    have := h.hlen
    show (putN s.held b v).length ≤ n + 1
    omega
theorem have_cases (s : VS) (b : Nat) : (∃ v, getN s.held b = some v ∧ s.have b = s) ∨ (getN s.held b = none ∧ s.have b = { s.fresh with held := putN s.held b s.links.length }) := by
  unfold VS.have
  cases h : getN s.held b with
  | none => exact .inr ⟨rfl, rfl⟩
  | some v => exact .inl ⟨v, rfl, rfl⟩
theorem VS.Ok.have {s : VS} {n : Nat} (h : s.Ok n) (b : Nat) : (s.have b).Ok (n + 1) := by
  rcases have_cases s b with ⟨v, h1, e⟩ | ⟨h1, e⟩
  · rw [e]
    exact h.up (Nat.le_succ _)
  · have hf := h.fresh
    have hl : s.fresh.links.length = s.links.length + 1 := by simp [VS.fresh]
    rw [e]
    refine ⟨hf.down, fun q hq => ?_, hf.forms, hf.llen, ?_, hf.flen⟩
    · show q.2 < s.fresh.links.length
      rcases putN_mem hq with z | z
      · exact hf.held q z
      · rw [z, hl]
        show s.links.length < _
        omega
    · have := putN_len (k := b) (v := s.links.length) (l := s.held)
      have := h.hlen
      show (putN s.held b s.links.length).length ≤ n + 1
      omega
theorem have_held (s : VS) (b : Nat) : ∃ v, getN (s.have b).held b = some v := by
  rcases have_cases s b with ⟨v, h1, e⟩ | ⟨h1, e⟩
  · rw [e]
    exact ⟨v, h1⟩
  · rw [e]
    exact ⟨s.links.length, by rw [show (({ s.fresh with held := putN s.held b s.links.length } : VS).held) = putN s.held b s.links.length from rfl, getN_putN, if_pos rfl]⟩
theorem VS.Ok.val_lt {s : VS} {n : Nat} (h : s.Ok n) (b : Nat) : s.val b < (s.have b).links.length := by
  obtain ⟨v, e⟩ := have_held s b
  unfold VS.val
  rw [e]
  exact (h.have b).root_lt ((h.have b).held _ (getN_mem e))
theorem have_links_le (s : VS) (b : Nat) : s.links.length ≤ (s.have b).links.length := by
  rcases have_cases s b with ⟨v, h1, e⟩ | ⟨h1, e⟩
  · rw [e]
    exact Nat.le_refl _
  · rw [e]
    show s.links.length ≤ s.fresh.links.length
    simp [VS.fresh]
theorem insN_len (a : Nat) : ∀ l : List Nat, (insN a l).length = l.length + 1
  | [] => rfl
  | b :: r => by
    unfold insN
    split
    · rfl
    · simp only [List.length_cons, insN_len a r]
theorem sortN_len : ∀ l : List Nat, (sortN l).length = l.length
  | [] => rfl
  | a :: r => by
    show (insN a (sortN r)).length = r.length + 1
    rw [insN_len, sortN_len r]
theorem insN_mem {a x : Nat} : ∀ {l : List Nat}, x ∈ insN a l ↔ x = a ∨ x ∈ l
  | [] => by simp [insN]
  | b :: r => by
    unfold insN
    split
    · simp
    · simp only [List.mem_cons, insN_mem (l := r)]
      exact ⟨fun z => by rcases z with z | z | z <;> simp [z], fun z => by rcases z with z | z | z <;> simp [z]⟩
theorem sortN_mem {x : Nat} : ∀ {l : List Nat}, x ∈ sortN l ↔ x ∈ l
  | [] => by simp [sortN]
  | a :: r => by
    show x ∈ insN a (sortN r) ↔ _
    rw [insN_mem, sortN_mem (l := r), List.mem_cons]
theorem VS.Ok.formOf {s : VS} {n : Nat} (h : s.Ok n) {f : Form} (hf : f.Ok s.links.length) : (s.formOf f).Ok s.links.length := by
  refine ⟨hf.nums, ?_, fun v hv => ?_⟩
  · unfold VS.formOf
    show (if f.w.either then sortN (f.vals.map s.root) else f.vals.map s.root).length ≤ 3
    split
    · rw [sortN_len, List.length_map]
      exact hf.few
    · rw [List.length_map]
      exact hf.few
  · have hv : v ∈ (if f.w.either then sortN (f.vals.map s.root) else f.vals.map s.root) := hv
    have hv2 : v ∈ f.vals.map s.root := by
      split at hv
      · exact sortN_mem.mp hv
      · exact hv
    obtain ⟨u, hu, e⟩ := List.mem_map.mp hv2
    rw [← e]
    exact h.root_lt (hf.vals u hu)
theorem haveForm_cases (s : VS) (f : Form) : (∃ v, getN s.forms (s.formOf f) = some v ∧ s.haveForm f = s) ∨ (getN s.forms (s.formOf f) = none ∧ s.haveForm f = { s.fresh with forms := putN s.forms (s.formOf f) s.links.length }) := by
  unfold VS.haveForm
  cases h : getN s.forms (s.formOf f) with
  | none => exact .inr ⟨rfl, rfl⟩
  | some v => exact .inl ⟨v, rfl, rfl⟩
theorem VS.Ok.haveForm {s : VS} {n : Nat} (h : s.Ok n) {f : Form} (hf : f.Ok s.links.length) : (s.haveForm f).Ok (n + 1) := by
  rcases haveForm_cases s f with ⟨v, h1, e⟩ | ⟨h1, e⟩
  · rw [e]
    exact h.up (Nat.le_succ _)
  · have hq := h.fresh
    have hl : s.fresh.links.length = s.links.length + 1 := by simp [VS.fresh]
    rw [e]
    refine ⟨hq.down, hq.held, fun q hq2 => ?_, hq.llen, hq.hlen, ?_⟩
    · show q.2 < s.fresh.links.length ∧ q.1.Ok s.fresh.links.length
      rcases putN_mem hq2 with z | z
      · exact hq.forms q z
      · rw [z, hl]
        exact ⟨Nat.lt_succ_self _, (h.formOf hf).mono (Nat.le_succ _)⟩
    · have := putN_len (k := s.formOf f) (v := s.links.length) (l := s.forms)
      have := h.flen
      show (putN s.forms (s.formOf f) s.links.length).length ≤ n + 1
      omega
theorem haveForm_held (s : VS) (f : Form) : ∃ v, getN (s.haveForm f).forms (s.formOf f) = some v := by
  rcases haveForm_cases s f with ⟨v, h1, e⟩ | ⟨h1, e⟩
  · rw [e]
    exact ⟨v, h1⟩
  · rw [e]
    exact ⟨s.links.length, by rw [show (({ s.fresh with forms := putN s.forms (s.formOf f) s.links.length } : VS).forms) = putN s.forms (s.formOf f) s.links.length from rfl, getN_putN, if_pos rfl]⟩
theorem VS.Ok.valOf_lt {s : VS} {n : Nat} (h : s.Ok n) {f : Form} (hf : f.Ok s.links.length) : s.valOf f < (s.haveForm f).links.length := by
  obtain ⟨v, e⟩ := haveForm_held s f
  unfold VS.valOf
  rw [e]
  exact (h.haveForm hf).root_lt ((h.haveForm hf).forms _ (getN_mem e)).1
theorem VS.Ok.deed {s : VS} {n : Nat} (h : s.Ok n) (b : Nat) {f : Form} (hf : f.Ok s.links.length) : (s.deed b f).Ok (n + 2) := (h.haveForm hf).hold (h.valOf_lt hf)
theorem VS.Ok.haves : ∀ {l : List Nat} {n : Nat} {s : VS}, s.Ok n → (s.haves l).Ok (n + l.length)
  | [], n, s, h => h
  | b :: r, n, s, h => by
    have := VS.Ok.haves (l := r) (h.have b)
    show ((s.have b).haves r).Ok (n + (r.length + 1))
    rw [show n + (r.length + 1) = n + 1 + r.length by omega]
    exact this
theorem haves_links_le : ∀ (l : List Nat) (s : VS), s.links.length ≤ (s.haves l).links.length
  | [], s => Nat.le_refl _
  | b :: r, s => Nat.le_trans (have_links_le s b) (haves_links_le r _)
theorem vals_len : ∀ (l : List Nat) (s : VS), (s.vals l).length = l.length
  | [], s => rfl
  | b :: r, s => by
    show ((s.have b).vals r).length + 1 = r.length + 1
    rw [vals_len r]
theorem VS.Ok.vals_lt : ∀ {l : List Nat} {n : Nat} {s : VS}, s.Ok n → ∀ v ∈ s.vals l, v < (s.haves l).links.length
  | [], n, s, h, v, hv => by cases hv
  | b :: r, n, s, h, v, hv => by
    rcases List.mem_cons.mp hv with e | hv
    · rw [e]
      exact Nat.lt_of_lt_of_le (h.val_lt b) (haves_links_le r _)
    · exact VS.Ok.vals_lt (h.have b) v hv
/-! ### alike -/
theorem VS.Ok.alikeF {s : VS} {n : Nat} (h : s.Ok n) : ∀ {l known : List (Form × Nat)} {found : List (Nat × Nat)}, (∀ q ∈ l, q.2 < s.links.length ∧ q.1.Ok s.links.length) → (∀ q ∈ known, q.2 < s.links.length ∧ q.1.Ok s.links.length) →
    (∀ q ∈ found, q.1 < s.links.length ∧ q.2 < s.links.length) →
    (∀ q ∈ (SL.alikeF s l known found).1, q.2 < s.links.length ∧ q.1.Ok s.links.length) ∧ (∀ q ∈ (SL.alikeF s l known found).2, q.1 < s.links.length ∧ q.2 < s.links.length) ∧
    (SL.alikeF s l known found).1.length ≤ known.length + l.length ∧ (SL.alikeF s l known found).2.length ≤ found.length + l.length
  | [], known, found, _, hk, hf => ⟨hk, hf, Nat.le_refl _, Nat.le_refl _⟩
  | (f, v) :: r, known, found, hl, hk, hf => by
    obtain ⟨hv, hfo⟩ := hl (f, v) List.mem_cons_self
    have hg := h.formOf hfo
    have step : ∀ (known' : List (Form × Nat)) (found' : List (Nat × Nat)), (∀ q ∈ known', q.2 < s.links.length ∧ q.1.Ok s.links.length) → (∀ q ∈ found', q.1 < s.links.length ∧ q.2 < s.links.length) → known'.length ≤ known.length + 1 → found'.length ≤ found.length + 1 →
        (∀ q ∈ (SL.alikeF s r known' found').1, q.2 < s.links.length ∧ q.1.Ok s.links.length) ∧ (∀ q ∈ (SL.alikeF s r known' found').2, q.1 < s.links.length ∧ q.2 < s.links.length) ∧
        (SL.alikeF s r known' found').1.length ≤ known.length + (r.length + 1) ∧ (SL.alikeF s r known' found').2.length ≤ found.length + (r.length + 1) := by
      intro known' found' a b c d
      obtain ⟨x1, x2, x3, x4⟩ := VS.Ok.alikeF h (l := r) (known := known') (found := found') (fun q hq => hl q (List.mem_cons_of_mem _ hq)) a b
      exact ⟨x1, x2, by omega, by omega⟩
    have he : (getN known (s.formOf f)).getD v < s.links.length := by
      cases e : getN known (s.formOf f) with
      | none => exact hv
      | some u => exact (hk _ (getN_mem e)).1
    refine step (match getN known (s.formOf f) with | some _ => known | none => putN known (s.formOf f) v) (if s.root ((getN known (s.formOf f)).getD v) ≠ s.root v then found ++ [((getN known (s.formOf f)).getD v, v)] else found) ?_ ?_ ?_ ?_
    · cases e : getN known (s.formOf f) with
      | none =>
        intro q hq
        rcases putN_mem hq with z | z
        · exact hk q z
        · rw [z]
          exact ⟨hv, hg⟩
      | some u => exact hk
    · split
      · intro q hq
        rcases List.mem_append.mp hq with z | z
        · exact hf q z
        · rw [List.mem_singleton.mp z]
          exact ⟨he, hv⟩
      · exact hf
    · cases e : getN known (s.formOf f) with
      | none => exact putN_len
      | some u => exact Nat.le_succ _
    · split
      · simp
      · exact Nat.le_succ _
theorem VS.Ok.alike {s : VS} {n : Nat} (h : s.Ok n) : s.alike.1.Ok n ∧ s.alike.1.links = s.links ∧ (∀ q ∈ s.alike.2, q.1 < s.links.length ∧ q.2 < s.links.length) ∧ s.alike.2.length ≤ s.forms.length ∧ s.alike.1.forms.length ≤ s.forms.length := by
  obtain ⟨x1, x2, x3, x4⟩ := h.alikeF (l := s.forms) (known := []) (found := []) h.forms (fun q hq => by cases hq) (fun q hq => by cases hq)
  simp only [List.length_nil, Nat.zero_add] at x3 x4
  exact ⟨⟨h.down, h.held, x1, h.llen, h.hlen, Nat.le_trans x3 h.flen⟩, rfl, x2, x4, x3⟩
/-! ### link, join -/
theorem down_set {l : List Nat} (h : Down l) {a b : Nat} (hab : b ≤ a) : Down (l.set a b) := by
  intro i
  rw [List.getD_eq_getElem?_getD]
  by_cases e : a = i
  · subst e
    by_cases hl : a < l.length
    · rw [List.getElem?_set_self hl]
      exact hab
    · rw [List.getElem?_eq_none (by simpa using hl)]
      exact Nat.zero_le _
  · rw [List.getElem?_set_ne e]
    have := h i
    rwa [List.getD_eq_getElem?_getD] at this
theorem VS.Ok.link {s : VS} {n : Nat} (h : s.Ok n) (a b : Nat) : (s.link a b).Ok n := by
  have hl : (s.link a b).links.length = s.links.length := by simp [VS.link]
  refine ⟨down_set h.down (Nat.le_trans (Nat.min_le_left _ _) (Nat.le_max_left _ _)), fun q hq => ?_, fun q hq => ?_, ?_, h.hlen, h.flen⟩
  · rw [hl]
    exact h.held q hq
  · rw [hl]
    exact h.forms q hq
  · rw [hl]
    exact h.llen
theorem set_getD_self {l : List Nat} {i : Nat} (hi : i < l.length) (h : l.getD i 0 = i) : l.set i i = l := by
  apply List.ext_getElem?
  intro j
  by_cases e : i = j
  · subst e
    rw [List.getElem?_set_self hi, List.getElem?_eq_getElem hi]
    rw [List.getD_eq_getElem?_getD, List.getElem?_eq_getElem hi] at h
    exact congrArg some h.symm
  · rw [List.getElem?_set_ne e]
theorem link_same {s : VS} {n : Nat} (h : s.Ok n) {a b : Nat} (ha : a < s.links.length) (hb : b < s.links.length) (e : min (s.root a) (s.root b) = max (s.root a) (s.root b)) : s.link a b = s := by
  have e1 : s.root a = s.root b := by omega
  unfold VS.link
  rw [e1, Nat.max_self, Nat.min_self, set_getD_self (h.root_lt hb) (root_fix h.down b)]
theorem filter_lt {l : List Nat} {p q : Nat → Bool} (h : ∀ x ∈ l, q x = true → p x = true) {a : Nat} (ha : a ∈ l) (hp : p a = true) (hq : q a = false) : (l.filter q).length + 1 ≤ (l.filter p).length := by
  induction l with
  | nil => cases ha
  | cons x r ih =>
    have hr : ∀ x ∈ r, q x = true → p x = true := fun y hy => h y (List.mem_cons_of_mem _ hy)
    have le : (r.filter q).length ≤ (r.filter p).length := by
      clear ih ha h
      induction r with
      | nil => exact Nat.le_refl _
      | cons y r ih2 =>
        have := ih2 fun z hz => hr z (List.mem_cons_of_mem _ hz)
        have hy := hr y List.mem_cons_self
        rw [List.filter_cons, List.filter_cons]
        cases e : q y with
        | true =>
          rw [hy e]
          simpa using this
        | false =>
          cases e2 : p y with
          | true => simpa using Nat.le_succ_of_le this
          | false => simpa using this
    rw [List.filter_cons, List.filter_cons]
    rcases List.mem_cons.mp ha with e | e
    · subst e
      rw [hp, hq]
      simpa using le
    · have := ih hr e
      cases e2 : q x with
      | true =>
        rw [h x List.mem_cons_self e2]
        simpa using this
      | false =>
        cases e3 : p x with
        | true => simpa using Nat.le_succ_of_le this
        | false => simpa using this
theorem roots_link {s : VS} {n : Nat} (h : s.Ok n) {a b : Nat} (ha : a < s.links.length) (hb : b < s.links.length) (e : min (s.root a) (s.root b) ≠ max (s.root a) (s.root b)) : (s.link a b).roots + 1 ≤ s.roots := by
  have hra := h.root_lt ha
  have hrb := h.root_lt hb
  have hl : (s.link a b).links.length = s.links.length := by simp [VS.link]
  unfold VS.roots
  rw [hl]
  refine filter_lt (a := max (s.root a) (s.root b)) (fun x hx hq => ?_) (List.mem_range.mpr (by omega)) ?_ ?_
  · have hq : (s.link a b).links.getD x 0 = x := of_decide_eq_true hq
    refine decide_eq_true ?_
    by_cases e2 : max (s.root a) (s.root b) = x
    · exfalso
      have : (s.link a b).links.getD x 0 = min (s.root a) (s.root b) := by
        show (s.links.set (max (s.root a) (s.root b)) (min (s.root a) (s.root b))).getD x 0 = _
        rw [← e2, List.getD_eq_getElem?_getD, List.getElem?_set_self (by omega)]
        rfl
      omega
    · have : (s.link a b).links.getD x 0 = s.links.getD x 0 := by
        show (s.links.set (max (s.root a) (s.root b)) (min (s.root a) (s.root b))).getD x 0 = _
        rw [List.getD_eq_getElem?_getD, List.getElem?_set_ne e2, ← List.getD_eq_getElem?_getD]
      rw [← this]
      exact hq
  · refine decide_eq_true ?_
    rcases Nat.le_total (s.root a) (s.root b) with z | z
    · rw [Nat.max_eq_right z]
      exact root_fix h.down b
    · rw [Nat.max_eq_left z]
      exact root_fix h.down a
  · refine decide_eq_false ?_
    have : (s.link a b).links.getD (max (s.root a) (s.root b)) 0 = min (s.root a) (s.root b) := by
      show (s.links.set (max (s.root a) (s.root b)) (min (s.root a) (s.root b))).getD _ 0 = _
      rw [List.getD_eq_getElem?_getD, List.getElem?_set_self (by omega)]
      rfl
    rw [this]
    exact e
theorem roots_le (s : VS) : s.roots ≤ s.links.length := by
  unfold VS.roots
  have := List.length_filter_le (fun i => decide (s.links.getD i 0 = i)) (List.range s.links.length)
  rwa [List.length_range] at this
/-- one turn of join makes the measure less -/
theorem mu_same {s : VS} {n : Nat} (h : s.Ok n) {w : List (Nat × Nat)} {a b : Nat} (ha : a < s.links.length) (hb : b < s.links.length) (hw : w ≠ []) (e : min (s.root a) (s.root b) = max (s.root a) (s.root b)) : (s.link a b).mu w.dropLast + 1 ≤ s.mu w := by
  rw [link_same h ha hb e]
  unfold VS.mu
  have := List.length_pos_iff.mpr hw
  rw [List.length_dropLast]
  omega
theorem mu_more {s : VS} {n : Nat} (h : s.Ok n) {w : List (Nat × Nat)} {a b : Nat} (ha : a < s.links.length) (hb : b < s.links.length) (hw : w ≠ []) (e : min (s.root a) (s.root b) ≠ max (s.root a) (s.root b)) :
    (s.link a b).alike.1.mu (w.dropLast ++ (s.link a b).alike.2) + 1 ≤ s.mu w := by
  obtain ⟨k1, k2, k3, k4, k5⟩ := (h.link a b).alike
  have hr := roots_link h ha hb e
  have hr2 : (s.link a b).alike.1.roots = (s.link a b).roots := by unfold VS.roots; rw [k2]
  have hf : (s.link a b).forms.length = s.forms.length := rfl
  have hp := List.length_pos_iff.mpr hw
  unfold VS.mu
  rw [hr2, List.length_append, List.length_dropLast]
  have m1 : (s.link a b).roots * ((s.link a b).alike.1.forms.length + 1) ≤ (s.link a b).roots * (s.forms.length + 1) := Nat.mul_le_mul_left _ (by omega)
  have m2 : ((s.link a b).roots + 1) * (s.forms.length + 1) ≤ s.roots * (s.forms.length + 1) := Nat.mul_le_mul_right _ hr
  rw [Nat.add_mul, Nat.one_mul] at m2
  omega
def PairsLt (m : Nat) (w : List (Nat × Nat)) : Prop := ∀ q ∈ w, q.1 < m ∧ q.2 < m
theorem getLast_some {α : Type} {w : List α} {p : α} (h : w.getLast? = some p) : w ≠ [] ∧ p ∈ w := by
  cases w with
  | nil => cases h
  | cons a r => exact ⟨by simp, List.mem_of_getLast? h⟩
theorem VS.Ok.joinF : ∀ {m : Nat} {s : VS} {w : List (Nat × Nat)} {n : Nat}, s.Ok n → PairsLt s.links.length w → (SL.joinF m s w).Ok n ∧ (SL.joinF m s w).links.length = s.links.length
  | 0, s, w, n, h, _ => ⟨h, rfl⟩
  | m + 1, s, w, n, h, hw => by
    unfold SL.joinF
    cases e : w.getLast? with
    | none => exact ⟨h, rfl⟩
    | some p =>
      obtain ⟨hne, hp⟩ := getLast_some e
      have hl : (s.link p.1 p.2).links.length = s.links.length := by simp [VS.link]
      obtain ⟨k1, k2, k3, k4, k5⟩ := (h.link p.1 p.2).alike
      show (if min (s.root p.1) (s.root p.2) = max (s.root p.1) (s.root p.2) then SL.joinF m (s.link p.1 p.2) w.dropLast else SL.joinF m (s.link p.1 p.2).alike.1 (w.dropLast ++ (s.link p.1 p.2).alike.2)).Ok n ∧ (if min (s.root p.1) (s.root p.2) = max (s.root p.1) (s.root p.2) then SL.joinF m (s.link p.1 p.2) w.dropLast else SL.joinF m (s.link p.1 p.2).alike.1 (w.dropLast ++ (s.link p.1 p.2).alike.2)).links.length = s.links.length
      split
      · have := VS.Ok.joinF (m := m) (w := w.dropLast) (h.link p.1 p.2) (fun q hq => by rw [hl]; exact hw q (List.dropLast_subset _ hq))
        rw [hl] at this
        exact this
      · have := VS.Ok.joinF (m := m) (w := w.dropLast ++ (s.link p.1 p.2).alike.2) k1 (fun q hq => by
          rw [k2]
          rcases List.mem_append.mp hq with z | z
          · rw [hl]
            exact hw q (List.dropLast_subset _ z)
          · exact k3 q z)
        rw [k2, hl] at this
        exact this
theorem VS.Ok.join {s : VS} {n : Nat} (h : s.Ok n) {a b : Nat} (ha : a < s.links.length) (hb : b < s.links.length) : (s.join a b).Ok n ∧ (s.join a b).links.length = s.links.length :=
  VS.Ok.joinF h fun q hq => by
    rw [List.mem_singleton.mp hq]
    exact ⟨ha, hb⟩
theorem VS.Ok.twin {s : VS} {n : Nat} (h : s.Ok n) (a b : Nat) : (s.twin a b).Ok (n + 2) := by
  have h1 := h.have a
  have h2 := h1.have b
  refine (h2.join ?_ ?_).1
  · exact Nat.lt_of_lt_of_le (h.val_lt a) (have_links_le _ b)
  · exact h1.val_lt b
theorem VS.Ok.do {s : VS} {n : Nat} (h : s.Ok n) (r : Row) : (s.do r).Ok (n + 5) := by
  have h0 : ∀ {w : Wd} {k : Nat}, (⟨w, [k], []⟩ : Form).Ok s.links.length := ⟨Nat.le_refl _, Nat.zero_le _, fun v hv => by cases hv⟩
  have hvs : ∀ (l : List Nat) {w : Wd} {nums : List Nat}, l.length ≤ 3 → nums.length ≤ 1 → (⟨w, nums, s.vals l⟩ : Form).Ok (s.haves l).links.length := fun l w nums h1 h2 => ⟨h2, by show (s.vals l).length ≤ 3; rw [vals_len]; exact h1, h.vals_lt⟩
  cases r with
  | set b k => exact (h.deed b h0).up (by omega)
  | ask b k => exact (h.deed b h0).up (by omega)
  | copy b c => exact ((h.have c).hold (h.val_lt c)).up (by omega)
  | take b c => exact ((h.haves (l := [c])).deed b (hvs [c] (by simp) (by simp))).up (by show n + 1 + 2 ≤ n + 5; omega)
  | bin o b c d => exact ((h.haves (l := [c, d])).deed b (hvs [c, d] (by simp) (by simp))).up (by show n + 2 + 2 ≤ n + 5; omega)
  | pick b c d e => exact ((h.haves (l := [c, d, e])).deed b (hvs [c, d, e] (by simp) (by simp))).up (by show n + 3 + 2 ≤ n + 5; omega)
  | hold c d => exact (h.twin c d).up (by omega)
  | tell2 c d => exact h.up (by omega)
  | put2 c d e f => exact ⟨h.down, h.held, h.forms, by have := h.llen; show s.links.length ≤ n + 5; omega, by have := h.hlen; show s.held.length ≤ n + 5; omega, by have := h.flen; show s.forms.length ≤ n + 5; omega⟩
  | if2 c d t => exact h.up (by omega)
  | go t => exact h.up (by omega)
  | fin => exact h.up (by omega)
  | keep => exact h.up (by omega)
theorem VS.ok0 : (⟨[], [], [], 0⟩ : VS).Ok 0 := ⟨fun i => (by simp), fun q hq => (by cases hq), fun q hq => (by cases hq), Nat.le_refl _, Nat.le_refl _, Nat.le_refl _⟩
theorem VS.Ok.twins : ∀ {l : List (Nat × Nat)} {s : VS} {n : Nat}, s.Ok n → (l.foldl (fun s p => s.twin p.1 p.2) s).Ok (n + 2 * l.length)
  | [], s, n, h => h
  | q :: r, s, n, h => by
    have := VS.Ok.twins (l := r) (h.twin q.1 q.2)
    rw [List.foldl_cons, List.length_cons, show n + 2 * (r.length + 1) = n + 2 + 2 * r.length by omega]
    exact this
theorem VS.ok_init (l : List (Nat × Nat)) : (VS.init l).Ok (2 * l.length) := by
  have := VS.Ok.twins (l := l) VS.ok0
  rw [Nat.zero_add] at this
  exact this
theorem VS.Ok.two {s : VS} {n : Nat} (h : s.Ok n) (a b : Nat) : (s.two a b).Ok (n + 2) := (h.have a).have b
theorem VS.Ok.rows : ∀ {l : List Row} {s : VS} {n : Nat}, s.Ok n → (s.rows l).Ok (n + 5 * l.length)
  | [], s, n, h => h
  | r :: l, s, n, h => by
    have := VS.Ok.rows (l := l) (h.do r)
    rw [List.length_cons, show n + 5 * (l.length + 1) = n + 5 + 5 * l.length by omega]
    exact this
theorem VS.Ok.left : ∀ {l : List (Nat × Nat)} {s : VS} {n : Nat}, s.Ok n → (s.left l).1.Ok (n + 2 * l.length)
  | [], s, n, h => h
  | q :: r, s, n, h => by
    have := VS.Ok.left (l := r) (h.two q.1 q.2)
    show ((s.two q.1 q.2).left r).1.Ok _
    rw [List.length_cons, show n + 2 * (r.length + 1) = n + 2 + 2 * r.length by omega]
    exact this
theorem VS.Ok.all : ∀ {l : List (Nat × Nat)} {s : VS} {n : Nat}, s.Ok n → (s.all l).1.Ok (n + 2 * l.length)
  | [], s, n, h => h
  | q :: r, s, n, h => by
    have h2 := h.two q.1 q.2
    have := VS.Ok.all (l := r) h2
    unfold VS.all
    split
    · rw [List.length_cons, show n + 2 * (r.length + 1) = n + 2 + 2 * r.length by omega]
      exact this
    · exact h2.up (by rw [List.length_cons]; omega)
theorem VS.Ok.pairs : ∀ {l : List Nat} {s : VS} {n : Nat}, s.Ok n → (s.pairs l).1.Ok (n + l.length)
  | [], s, n, h => h
  | [_], s, n, h => h.up (Nat.le_succ _)
  | a :: b :: r, s, n, h => by
    have := VS.Ok.pairs (l := r) (h.two a b)
    show ((s.two a b).pairs r).1.Ok _
    rw [List.length_cons, List.length_cons, show n + (r.length + 1 + 1) = n + 2 + r.length by omega]
    exact this
end SL

/-! text SlBlk -/
set_option linter.all false
/-! Blocks: plain mathematics of the mirror. (mem_sset, sset_sorted stand in OkBlocks; here under other names, no imports.) -/
namespace SL
theorem b_mem_insS {a x : Nat} : ∀ {l : List Nat}, x ∈ insS a l ↔ x = a ∨ x ∈ l
  | [] => by simp [insS]
  | b :: r => by
    unfold insS
    by_cases h : a < b
    · simp [h]
    · by_cases h2 : a = b
      · subst h2
        simp
      · simp only [h, h2, if_false, List.mem_cons, b_mem_insS (l := r)]
        exact ⟨fun z => by rcases z with z | z | z <;> simp [z], fun z => by rcases z with z | z | z <;> simp [z]⟩
theorem b_mem_sset {x : Nat} : ∀ {l : List Nat}, x ∈ sset l ↔ x ∈ l
  | [] => by simp [sset]
  | a :: r => by
    show x ∈ insS a (sset r) ↔ _
    rw [b_mem_insS, b_mem_sset (l := r), List.mem_cons]
theorem b_insS_sorted {a : Nat} : ∀ {l : List Nat}, l.Pairwise (· < ·) → (insS a l).Pairwise (· < ·)
  | [], _ => by simp [insS]
  | b :: r, h => by
    obtain ⟨h1, h2⟩ := List.pairwise_cons.mp h
    unfold insS
    by_cases q : a < b
    · simp only [q, if_true]
      exact List.pairwise_cons.mpr ⟨fun x hx => by
        rcases List.mem_cons.mp hx with e | e
        · omega
        · have := h1 x e
          omega, h⟩
    · by_cases q2 : a = b
      · simp only [q, q2, if_false, if_true]
        simpa [q2] using h
      · simp only [q, q2, if_false]
        refine List.pairwise_cons.mpr ⟨fun x hx => ?_, b_insS_sorted h2⟩
        rcases b_mem_insS.mp hx with e | e
        · omega
        · exact h1 x e
theorem b_sset_sorted : ∀ l : List Nat, (sset l).Pairwise (· < ·)
  | [] => List.Pairwise.nil
  | a :: r => b_insS_sorted (b_sset_sorted r)
theorem begs_mem (n : Nat) : ∀ (l : List Row) (k i : Nat) (x : Nat), x ∈ (match l[i]? with | some r => (match r.leads with | some t => [t] | none => []) ++ (if r.way && decide (k + i + 1 < n) then [k + i + 1] else []) | none => []) → x ∈ begs n k l
  | [], k, i, x, h => by simp at h
  | r :: l, k, 0, x, h => by
    unfold begs
    refine List.mem_append_left _ ?_
    rw [List.getElem?_cons_zero, Nat.add_zero] at h
    exact h
  | r :: l, k, i + 1, x, h => by
    unfold begs
    refine List.mem_append_right _ (begs_mem n l (k + 1) i x ?_)
    rw [show k + 1 + i = k + (i + 1) by omega]
    simpa using h
theorem begs_lt (n : Nat) : ∀ (l : List Row) (k : Nat), (∀ r ∈ l, ∀ t, r.leads = some t → t < n) → ∀ x ∈ begs n k l, x < n
  | [], k, _, x, hx => by cases hx
  | r :: l, k, h, x, hx => by
    unfold begs at hx
    rcases List.mem_append.mp hx with hx | hx
    · rcases List.mem_append.mp hx with hx | hx
      · cases e : r.leads with
        | none => rw [e] at hx; cases hx
        | some t =>
          rw [e] at hx
          rw [List.mem_singleton.mp hx]
          exact h r List.mem_cons_self t e
      · split at hx
        · rename_i q
          rw [List.mem_singleton.mp hx]
          simp at q
          omega
        · cases hx
    · exact begs_lt n l (k + 1) (fun r hr => h r (List.mem_cons_of_mem _ hr)) x hx
theorem lead_lt {r : Row} {n t : Nat} (ok : r.Ok n) (h : r.leads = some t) : t < n := by
  cases r <;> simp [Row.leads] at h
  · subst h
    exact ok.2.2.1
  · subst h
    exact ok.1
section
variable {p : Prog} (ok : p.Ok)
include ok
theorem beg_lt : ∀ x ∈ beginnings p, x < p.length := by
  intro x hx
  have hx := b_mem_sset.mp hx
  rcases List.mem_cons.mp hx with e | hx
  · rw [e]
    exact ok.pos
  · exact begs_lt _ p 0 (fun r hr t h => lead_lt (ok.row r hr) h) x hx
end
theorem beg_zero (p : Prog) : 0 ∈ beginnings p := b_mem_sset.mpr List.mem_cons_self
theorem beg_sorted (p : Prog) : (beginnings p).Pairwise (· < ·) := b_sset_sorted _
theorem at_get {p : Prog} {i : Nat} (h : i < p.length) : p[i]? = some (p.at i) := by
  unfold Prog.at
  rw [List.getD_eq_getElem?_getD, List.getElem?_eq_getElem h]
  rfl
theorem beg_lead {p : Prog} {i t : Nat} (hi : i < p.length) (h : (p.at i).leads = some t) : t ∈ beginnings p := by
  refine b_mem_sset.mpr (List.mem_cons_of_mem _ (begs_mem _ p 0 i t ?_))
  rw [at_get hi]
  exact List.mem_append_left _ (by rw [h]; exact List.mem_cons_self)
theorem beg_way {p : Prog} {i : Nat} (hi : i + 1 < p.length) (h : (p.at i).way = true) : i + 1 ∈ beginnings p := by
  refine b_mem_sset.mpr (List.mem_cons_of_mem _ (begs_mem _ p 0 i (i + 1) ?_))
  rw [at_get (by omega)]
  refine List.mem_append_right _ ?_
  rw [h, Nat.zero_add, decide_eq_true hi]
  exact List.mem_cons_self
/-- the blocks by places -/
theorem blocks_at (p : Prog) {k : Nat} {b : Nat × Nat} (h : (blocks p)[k]? = some b) : (beginnings p)[k]? = some b.1 ∧ ((beginnings p)[k + 1]? = some b.2 ∨ ((beginnings p)[k + 1]? = none ∧ b.2 = p.length)) := by
  unfold blocks at h
  obtain ⟨h1, h2⟩ := List.getElem?_zip_eq_some.mp h
  refine ⟨h1, ?_⟩
  have hk : k < (beginnings p).length := (List.getElem?_eq_some_iff.mp h1).1
  by_cases q : k < ((beginnings p).drop 1).length
  · rw [List.getElem?_append_left q, List.getElem?_drop, Nat.add_comm] at h2
    exact .inl h2
  · rw [List.getElem?_append_right (by omega)] at h2
    rw [List.length_drop] at q h2
    have e : k - ((beginnings p).length - 1) = 0 := by omega
    rw [e] at h2
    exact .inr ⟨List.getElem?_eq_none (by omega), (Option.some.inj h2).symm⟩
theorem sorted_lt {l : List Nat} (h : l.Pairwise (· < ·)) {i j a b : Nat} (hij : i < j) (h1 : l[i]? = some a) (h2 : l[j]? = some b) : a < b := by
  obtain ⟨hi, e1⟩ := List.getElem?_eq_some_iff.mp h1
  obtain ⟨hj, e2⟩ := List.getElem?_eq_some_iff.mp h2
  have := List.pairwise_iff_getElem.mp h i j hi hj hij
  rw [e1, e2] at this
  exact this
theorem block_ok {p : Prog} (ok : p.Ok) {k : Nat} {b : Nat × Nat} (h : (blocks p)[k]? = some b) : b.1 < b.2 ∧ b.2 ≤ p.length ∧ b.1 ∈ beginnings p ∧ (b.2 ∈ beginnings p ∨ b.2 = p.length) := by
  obtain ⟨h1, h2⟩ := blocks_at p h
  have m1 : b.1 ∈ beginnings p := List.mem_of_getElem? h1
  rcases h2 with h2 | ⟨_, h2⟩
  · have m2 : b.2 ∈ beginnings p := List.mem_of_getElem? h2
    have := beg_lt ok _ m2
    exact ⟨sorted_lt (beg_sorted p) (Nat.lt_succ_self k) h1 h2, by omega, m1, .inl m2⟩
  · have := beg_lt ok _ m1
    exact ⟨by omega, by omega, m1, .inr h2⟩
/-- where a block leads, a block begins -/
theorem behind_beg {p : Prog} (ok : p.Ok) {k : Nat} {b : Nat × Nat} (h : (blocks p)[k]? = some b) : ∀ r ∈ behind p (b.2 - 1), r ∈ beginnings p := by
  obtain ⟨h1, h2, h3, h4⟩ := block_ok ok h
  have hi : b.2 - 1 < p.length := by omega
  have hlast : b.2 = p.length → (p.at (b.2 - 1)).last = true := fun e => by rw [e]; exact ok.last
  intro r hr
  unfold behind at hr
  cases q : p.at (b.2 - 1) with
  | fin => rw [q] at hr; cases hr
  | go t =>
    rw [q] at hr
    have hr : r ∈ [t] := hr
    rw [List.mem_singleton.mp hr]
    exact beg_lead hi (by rw [q]; rfl)
  | if2 c d t =>
    rw [q] at hr
    have hr : r ∈ [b.2 - 1 + 1, t] := hr
    rcases List.mem_cons.mp hr with e | hr
    · rw [e]
      by_cases e2 : b.2 = p.length
      · have := hlast e2
        rw [q] at this
        cases this
      · exact beg_way (by omega) (by rw [q]; rfl)
    · rw [List.mem_singleton.mp hr]
      exact beg_lead hi (by rw [q]; rfl)
  | _ =>
    rw [q] at hr
    have hr : r ∈ [b.2 - 1 + 1] := hr
    rw [List.mem_singleton.mp hr, show b.2 - 1 + 1 = b.2 by omega]
    rcases h4 with h4 | h4
    · exact h4
    · have := hlast h4
      rw [q] at this
      cases this
/-- a beginning's number -/
theorem numOf_ok {p : Prog} {r : Nat} (h : r ∈ beginnings p) : ∃ b, (blocks p)[numOf (blocks p) r]? = some b ∧ b.1 = r := by
  have hb : (beginnings p).length = (blocks p).length := by
    unfold blocks
    rw [List.length_zip, List.length_append, List.length_drop]
    have := List.length_pos_of_mem h
    simp only [List.length_cons, List.length_nil]
    omega
  obtain ⟨k, hk⟩ := List.getElem?_of_mem h
  have hk2 : k < (blocks p).length := by
    rw [← hb]
    exact (List.getElem?_eq_some_iff.mp hk).1
  have e1 : (blocks p)[k]? = some (blocks p)[k] := List.getElem?_eq_getElem hk2
  have e2 := (blocks_at p e1).1
  rw [hk] at e2
  have hex : ∃ x ∈ blocks p, decide (x.1 = r) = true := ⟨(blocks p)[k], List.getElem_mem hk2, decide_eq_true (Option.some.inj e2).symm⟩
  have hlt : numOf (blocks p) r < (blocks p).length := List.findIdx_lt_length_of_exists hex
  refine ⟨(blocks p)[numOf (blocks p) r], List.getElem?_eq_getElem hlt, ?_⟩
  have := List.findIdx_getElem (xs := blocks p) (p := fun b : Nat × Nat => decide (b.1 = r)) (w := hlt)
  exact of_decide_eq_true this
theorem blocks_first_inj {p : Prog} {i j : Nat} {b c : Nat × Nat} (h1 : (blocks p)[i]? = some b) (h2 : (blocks p)[j]? = some c) (e : b.1 = c.1) : i = j := by
  have e1 := (blocks_at p h1).1
  have e2 := (blocks_at p h2).1
  rw [← e] at e2
  rcases Nat.lt_trichotomy i j with z | z | z
  · exact absurd (sorted_lt (beg_sorted p) z e1 e2) (by omega)
  · exact z
  · exact absurd (sorted_lt (beg_sorted p) z e2 e1) (by omega)
end SL

/-! text SlSound -/
set_option linter.all false
/-! What one value means: a valuation of the values by words. Plain mathematics of the mirror. -/
namespace SL.Math
theorem insN_perm (a : Nat) : ∀ l : List Nat, (insN a l).Perm (a :: l)
  | [] => List.Perm.refl _
  | b :: r => by
    unfold insN
    split
    · exact List.Perm.refl _
    · exact ((insN_perm a r).cons b).trans (List.Perm.swap a b r)
theorem sortN_perm : ∀ l : List Nat, (sortN l).Perm l
  | [] => List.Perm.refl _
  | a :: r => (insN_perm a (sortN r)).trans ((sortN_perm r).cons a)
/-- the word that a deed makes of words; for the deeds in either order told so that the order is no matter -/
def evB : Op → List Nat → Nat
  | .add, l => l.sum % 16
  | .less, l => if l.getD 0 0 < l.getD 1 0 then 1 else 0
  | .same, l => if ∀ x ∈ l, ∀ y ∈ l, x = y then 1 else 0
  | .mix, l => l.foldr (· ^^^ ·) 0
theorem evB_two (o : Op) (x y : Nat) : evB o [x, y] = opW o x y := by
  cases o with
  | add => show (x + (y + 0)) % 16 = _; rfl
  | less => rfl
  | same =>
    show (if ∀ u ∈ [x, y], ∀ v ∈ [x, y], u = v then 1 else 0) = if x = y then 1 else 0
    by_cases h : x = y
    · subst h
      rw [if_pos rfl, if_pos]
      intro u hu v hv
      simp at hu hv
      rw [hu, hv]
    · rw [if_neg h, if_neg]
      intro z
      exact h (z x (by simp) y (by simp))
  | mix => show x ^^^ (y ^^^ 0) = x ^^^ y; rw [Nat.xor_zero]
theorem evB_perm {o : Op} {l m : List Nat} (h : l.Perm m) (e : (Wd.bin o).either = true) : evB o l = evB o m := by
  cases o with
  | add => show l.sum % 16 = m.sum % 16; rw [h.sum_nat]
  | less => cases e
  | same =>
    show (if ∀ u ∈ l, ∀ v ∈ l, u = v then 1 else 0) = if ∀ u ∈ m, ∀ v ∈ m, u = v then 1 else 0
    by_cases q : ∀ u ∈ l, ∀ v ∈ l, u = v
    · rw [if_pos q, if_pos fun u hu v hv => q u (h.mem_iff.mpr hu) v (h.mem_iff.mpr hv)]
    · rw [if_neg q, if_neg fun z => q fun u hu v hv => z u (h.mem_iff.mp hu) v (h.mem_iff.mp hv)]
  | mix =>
    refine h.foldr_eq' (fun x _ y _ z => ?_) 0
    show y ^^^ (x ^^^ z) = x ^^^ (y ^^^ z)
    rw [← Nat.xor_assoc, ← Nat.xor_assoc, Nat.xor_comm x y]
def ev (given : List Nat) (σ : Nat → List Nat) (w : Wd) (nums l : List Nat) : Nat := match w with
  | .set => nums.getD 0 0
  | .ask => given.getD (nums.getD 0 0) 0
  | .take => (σ (nums.getD 0 0)).getD (l.getD 0 0) 0
  | .pick => if l.getD 0 0 ≠ 0 then l.getD 1 0 else l.getD 2 0
  | .bin o => evB o l
/-- a valuation φ of the values, the cells σ by how many puts there were -/
structure Snd (given : List Nat) (s : VS) (W S : List Nat) (φ : Nat → Nat) (σ : Nat → List Nat) : Prop where
  ok : ∃ n, s.Ok n
  held : ∀ b v, getN s.held b = some v → φ v = W.getD b 0
  links : ∀ v, v < s.links.length → φ (s.links.getD v 0) = φ v
  forms : ∀ q ∈ s.forms, φ q.2 = ev given σ q.1.w q.1.nums (q.1.vals.map φ)
  puts : ∀ q ∈ s.forms, q.1.w = .take → q.1.nums.getD 0 0 ≤ s.puts
  now : σ s.puts = S
section
variable {given : List Nat} {s : VS} {W S : List Nat} {φ : Nat → Nat} {σ : Nat → List Nat}
theorem Snd.rootF {l : List Nat} (hd : Down l) (hl : ∀ v, v < l.length → φ (l.getD v 0) = φ v) : ∀ n v, v < l.length → φ (rootF l n v) = φ v
  | 0, v, _ => rfl
  | n + 1, v, h => by
    unfold SL.rootF
    split
    · rfl
    · have := hd v
      rw [Snd.rootF hd hl n _ (by omega), hl v h]
theorem Snd.root (h : Snd given s W S φ σ) {v : Nat} (hv : v < s.links.length) : φ (s.root v) = φ v := by
  obtain ⟨n, ok⟩ := h.ok
  exact Snd.rootF ok.down h.links v v hv
theorem ev_formOf (h : Snd given s W S φ σ) {f : Form} (hf : ∀ v ∈ f.vals, v < s.links.length) : ev given σ (s.formOf f).w (s.formOf f).nums ((s.formOf f).vals.map φ) = ev given σ f.w f.nums (f.vals.map φ) := by
  have e1 : (f.vals.map s.root).map φ = f.vals.map φ := by
    rw [List.map_map]
    exact List.map_congr_left fun v hv => h.root (hf v hv)
  cases q : f.w.either with
  | false =>
    have e2 : (s.formOf f) = ⟨f.w, f.nums, f.vals.map s.root⟩ := by unfold VS.formOf; rw [q]; rfl
    rw [e2]
    show ev given σ f.w f.nums ((f.vals.map s.root).map φ) = _
    rw [e1]
  | true =>
    have e2 : (s.formOf f) = ⟨f.w, f.nums, sortN (f.vals.map s.root)⟩ := by unfold VS.formOf; rw [q]; rfl
    rw [e2]
    show ev given σ f.w f.nums ((sortN (f.vals.map s.root)).map φ) = _
    have hp : ((sortN (f.vals.map s.root)).map φ).Perm (f.vals.map φ) := by
      have := (sortN_perm (f.vals.map s.root)).map φ
      rwa [e1] at this
    cases w : f.w with
    | bin o =>
      rw [w] at q
      exact evB_perm hp q
    | set => rw [w] at q; cases q
    | ask => rw [w] at q; cases q
    | take => rw [w] at q; cases q
    | pick => rw [w] at q; cases q
/-- the valuation with one value more -/
def ext (φ : Nat → Nat) (m x : Nat) : Nat → Nat := fun v => if v = m then x else φ v
theorem ext_lt {φ : Nat → Nat} {m x v : Nat} (h : v < m) : ext φ m x v = φ v := if_neg (by omega)
theorem ext_at {φ : Nat → Nat} {m x : Nat} : ext φ m x m = x := if_pos rfl
theorem map_ext {φ : Nat → Nat} {m x : Nat} {l : List Nat} (h : ∀ v ∈ l, v < m) : l.map (ext φ m x) = l.map φ := List.map_congr_left fun v hv => ext_lt (h v hv)
theorem getD_fresh {l : List Nat} {v : Nat} (h : v < l.length + 1) : (l ++ [l.length]).getD v 0 = if v = l.length then v else l.getD v 0 := by
  rw [List.getD_eq_getElem?_getD]
  by_cases e : v = l.length
  · subst e
    simp
  · rw [if_neg e, List.getElem?_append_left (by omega), List.getD_eq_getElem?_getD]
theorem Snd.fresh (h : Snd given s W S φ σ) (x : Nat) : Snd given s.fresh W S (ext φ s.links.length x) σ := by
  obtain ⟨n, ok⟩ := h.ok
  have hl : s.fresh.links.length = s.links.length + 1 := by simp [VS.fresh]
  refine ⟨⟨_, ok.fresh⟩, fun b v e => ?_, fun v hv => ?_, fun q hq => ?_, h.puts, h.now⟩
  · rw [ext_lt (ok.held _ (getN_mem e))]
    exact h.held b v e
  · rw [hl] at hv
    show ext φ s.links.length x ((s.links ++ [s.links.length]).getD v 0) = _
    rw [getD_fresh hv]
    split
    · rfl
    · have := ok.down v
      rw [ext_lt (by omega), ext_lt (by omega)]
      exact h.links v (by omega)
  · obtain ⟨h1, h2⟩ := ok.forms q hq
    rw [ext_lt h1, map_ext h2.vals]
    exact h.forms q hq
theorem Snd.have (h : Snd given s W S φ σ) (b : Nat) : ∃ φ', Snd given (s.have b) W S φ' σ ∧ (∀ v, v < s.links.length → φ' v = φ v) ∧ φ' (s.val b) = W.getD b 0 := by
  obtain ⟨n, ok⟩ := h.ok
  have key : ∃ φ', Snd given (s.have b) W S φ' σ ∧ (∀ v, v < s.links.length → φ' v = φ v) := by
    rcases have_cases s b with ⟨v, h1, e⟩ | ⟨h1, e⟩
    · exact ⟨φ, by rw [e]; exact h, fun _ _ => rfl⟩
    · refine ⟨ext φ s.links.length (W.getD b 0), ?_, fun v hv => ext_lt hv⟩
      have hf := h.fresh (W.getD b 0)
      have okb := ok.have b
      rw [e] at okb ⊢
      refine ⟨⟨_, okb⟩, fun c v q => ?_, hf.links, hf.forms, hf.puts, hf.now⟩
      have q : getN (putN s.held b s.links.length) c = some v := q
      rw [getN_putN] at q
      split at q
      · rename_i e2
        cases q
        rw [ext_at, e2]
      · exact hf.held c v q
  obtain ⟨φ', h', hx⟩ := key
  refine ⟨φ', h', hx, ?_⟩
  obtain ⟨v, e⟩ := have_held s b
  unfold VS.val
  rw [e]
  show φ' ((s.have b).root v) = _
  rw [h'.root ((ok.have b).held _ (getN_mem e))]
  exact h'.held b v e
theorem Snd.haveForm (h : Snd given s W S φ σ) {f : Form} (hf : f.Ok s.links.length) (hp : f.w = .take → f.nums.getD 0 0 ≤ s.puts) :
    ∃ φ', Snd given (s.haveForm f) W S φ' σ ∧ (∀ v, v < s.links.length → φ' v = φ v) ∧ φ' (s.valOf f) = ev given σ f.w f.nums (f.vals.map φ) := by
  obtain ⟨n, ok⟩ := h.ok
  have hE := ev_formOf h hf.vals
  obtain ⟨v, e⟩ := haveForm_held s f
  have okf := ok.haveForm hf
  have hv : v < (s.haveForm f).links.length := (okf.forms _ (getN_mem e)).1
  have fin : ∀ φ', Snd given (s.haveForm f) W S φ' σ → φ' v = ev given σ f.w f.nums (f.vals.map φ) → φ' (s.valOf f) = ev given σ f.w f.nums (f.vals.map φ) := by
    intro φ' h' q
    unfold VS.valOf
    rw [e]
    show φ' ((s.haveForm f).root v) = _
    rw [h'.root hv, q]
  rcases haveForm_cases s f with ⟨u, h1, e1⟩ | ⟨h1, e1⟩
  · have h' : Snd given (s.haveForm f) W S φ σ := by rw [e1]; exact h
    refine ⟨φ, h', fun _ _ => rfl, fin φ h' ?_⟩
    rw [e1] at e
    rw [← hE]
    exact h.forms _ (getN_mem e)
  · have hfr := h.fresh (ev given σ f.w f.nums (f.vals.map φ))
    have hn : Snd given (s.haveForm f) W S (ext φ s.links.length (ev given σ f.w f.nums (f.vals.map φ))) σ := by
      rw [e1] at okf ⊢
      refine ⟨⟨_, okf⟩, hfr.held, hfr.links, fun q hq => ?_, fun q hq => ?_, hfr.now⟩
      · rcases putN_mem hq with z | z
        · exact hfr.forms q z
        · rw [z]
          show ext φ _ _ s.links.length = ev given σ (s.formOf f).w (s.formOf f).nums ((s.formOf f).vals.map _)
          rw [ext_at, map_ext (ok.formOf hf).vals, hE]
      · rcases putN_mem hq with z | z
        · exact hfr.puts q z
        · rw [z]
          exact hp
    refine ⟨_, hn, fun v hv => ext_lt hv, fin _ hn ?_⟩
    rw [e1] at e
    have e : getN (putN s.forms (s.formOf f) s.links.length) (s.formOf f) = some v := e
    rw [getN_putN, if_pos rfl] at e
    cases e
    exact ext_at
theorem getD_set {W : List Nat} {b x c : Nat} (h : b < W.length) : (W.set b x).getD c 0 = if b = c then x else W.getD c 0 := by
  rw [List.getD_eq_getElem?_getD, List.getElem?_set]
  split
  · rename_i e
    subst e
    first | rw [if_pos h] | skip
    rfl
  · rw [List.getD_eq_getElem?_getD]
theorem Snd.hold (h : Snd given s W S φ σ) {b v x : Nat} (hb : b < W.length) (hv : v < s.links.length) (e : φ v = x) : Snd given (s.hold b v) (W.set b x) S φ σ := by
  obtain ⟨n, ok⟩ := h.ok
  refine ⟨⟨_, ok.hold hv⟩, fun c u q => ?_, h.links, h.forms, h.puts, h.now⟩
  have q : getN (putN s.held b v) c = some u := q
  rw [getN_putN] at q
  rw [getD_set hb]
  split at q
  · rename_i e2
    cases q
    rw [if_pos e2, e]
  · rename_i e2
    rw [if_neg e2]
    exact h.held c u q
theorem Snd.deed (h : Snd given s W S φ σ) {b x : Nat} (hb : b < W.length) {f : Form} (hf : f.Ok s.links.length) (hp : f.w = .take → f.nums.getD 0 0 ≤ s.puts) (e : ev given σ f.w f.nums (f.vals.map φ) = x) :
    ∃ φ', Snd given (s.deed b f) (W.set b x) S φ' σ := by
  obtain ⟨n, ok⟩ := h.ok
  obtain ⟨φ', h', _, q⟩ := h.haveForm hf hp
  exact ⟨φ', h'.hold hb (ok.valOf_lt hf) (by rw [q, e])⟩
theorem Snd.haves : ∀ {l : List Nat} {s : VS} {φ : Nat → Nat}, Snd given s W S φ σ → ∃ φ', Snd given (s.haves l) W S φ' σ ∧ (∀ v, v < s.links.length → φ' v = φ v) ∧ (s.vals l).map φ' = l.map fun b => W.getD b 0
  | [], s, φ, h => ⟨φ, h, fun _ _ => rfl, rfl⟩
  | b :: r, s, φ, h => by
    obtain ⟨φ1, h1, x1, q1⟩ := h.have b
    obtain ⟨φ2, h2, x2, q2⟩ := Snd.haves (l := r) h1
    obtain ⟨n, ok⟩ := h.ok
    refine ⟨φ2, h2, fun v hv => ?_, ?_⟩
    · rw [x2 v (Nat.lt_of_lt_of_le hv (have_links_le s b)), x1 v hv]
    · show φ2 (s.val b) :: ((s.have b).vals r).map φ2 = _
      rw [q2, x2 _ (ok.val_lt b), q1]
      rfl
/-! ### join -/
theorem Snd.alikeF (h : Snd given s W S φ σ) : ∀ {l known : List (Form × Nat)} {found : List (Nat × Nat)},
    (∀ q ∈ l, q.2 < s.links.length ∧ q.1.Ok s.links.length ∧ φ q.2 = ev given σ q.1.w q.1.nums (q.1.vals.map φ) ∧ (q.1.w = .take → q.1.nums.getD 0 0 ≤ s.puts)) →
    (∀ q ∈ known, φ q.2 = ev given σ q.1.w q.1.nums (q.1.vals.map φ) ∧ (q.1.w = .take → q.1.nums.getD 0 0 ≤ s.puts)) →
    (∀ q ∈ found, φ q.1 = φ q.2) →
    (∀ q ∈ (SL.alikeF s l known found).1, φ q.2 = ev given σ q.1.w q.1.nums (q.1.vals.map φ) ∧ (q.1.w = .take → q.1.nums.getD 0 0 ≤ s.puts)) ∧ (∀ q ∈ (SL.alikeF s l known found).2, φ q.1 = φ q.2)
  | [], known, found, _, hk, hf => ⟨hk, hf⟩
  | (f, v) :: r, known, found, hl, hk, hf => by
    obtain ⟨hv, hfo, hE, hT⟩ := hl (f, v) List.mem_cons_self
    have hg := ev_formOf h hfo.vals
    have step : ∀ (known' : List (Form × Nat)) (found' : List (Nat × Nat)), (∀ q ∈ known', φ q.2 = ev given σ q.1.w q.1.nums (q.1.vals.map φ) ∧ (q.1.w = .take → q.1.nums.getD 0 0 ≤ s.puts)) → (∀ q ∈ found', φ q.1 = φ q.2) → _ :=
      fun known' found' a b => Snd.alikeF h (l := r) (known := known') (found := found') (fun q hq => hl q (List.mem_cons_of_mem _ hq)) a b
    have he : φ ((getN known (s.formOf f)).getD v) = φ v := by
      cases e : getN known (s.formOf f) with
      | none => rfl
      | some u =>
        show φ u = φ v
        rw [(hk _ (getN_mem e)).1, hE]
        exact hg
    refine step (match getN known (s.formOf f) with | some _ => known | none => putN known (s.formOf f) v) (if s.root ((getN known (s.formOf f)).getD v) ≠ s.root v then found ++ [((getN known (s.formOf f)).getD v, v)] else found) ?_ ?_
    · cases e : getN known (s.formOf f) with
      | none =>
        intro q hq
        rcases putN_mem hq with z | z
        · exact hk q z
        · rw [z]
          exact ⟨hE.trans hg.symm, hT⟩
      | some u => exact hk
    · split
      · intro q hq
        rcases List.mem_append.mp hq with z | z
        · exact hf q z
        · rw [List.mem_singleton.mp z]
          exact he
      · exact hf
theorem Snd.alike (h : Snd given s W S φ σ) : Snd given s.alike.1 W S φ σ ∧ ∀ q ∈ s.alike.2, φ q.1 = φ q.2 := by
  obtain ⟨n, ok⟩ := h.ok
  obtain ⟨a, b⟩ := h.alikeF (l := s.forms) (known := []) (found := []) (fun q hq => ⟨(ok.forms q hq).1, (ok.forms q hq).2, h.forms q hq, h.puts q hq⟩) (fun q hq => by cases hq) (fun q hq => by cases hq)
  exact ⟨⟨⟨_, ok.alike.1⟩, h.held, h.links, fun q hq => (a q hq).1, fun q hq => (a q hq).2, h.now⟩, b⟩
theorem Snd.link (h : Snd given s W S φ σ) {a b : Nat} (ha : a < s.links.length) (hb : b < s.links.length) (e : φ a = φ b) : Snd given (s.link a b) W S φ σ := by
  obtain ⟨n, ok⟩ := h.ok
  refine ⟨⟨_, ok.link a b⟩, h.held, fun v hv => ?_, h.forms, h.puts, h.now⟩
  have hl : (s.link a b).links.length = s.links.length := by simp [VS.link]
  rw [hl] at hv
  show φ ((s.links.set (max (s.root a) (s.root b)) (min (s.root a) (s.root b))).getD v 0) = φ v
  have ra := ok.root_lt ha
  have rb := ok.root_lt hb
  have ea := h.root ha
  have eb := h.root hb
  rw [getD_set (by omega)]
  split
  · rename_i q
    rw [← q]
    rcases Nat.le_total (s.root a) (s.root b) with z | z
    · rw [Nat.min_eq_left z, Nat.max_eq_right z, ea, eb, e]
    · rw [Nat.min_eq_right z, Nat.max_eq_left z, ea, eb, e]
  · exact h.links v hv
theorem Snd.joinF : ∀ {m : Nat} {s : VS} {w : List (Nat × Nat)}, Snd given s W S φ σ → PairsLt s.links.length w → (∀ q ∈ w, φ q.1 = φ q.2) → Snd given (SL.joinF m s w) W S φ σ
  | 0, s, w, h, _, _ => h
  | m + 1, s, w, h, hw, he => by
    unfold SL.joinF
    cases e : w.getLast? with
    | none => exact h
    | some p =>
      obtain ⟨hne, hp⟩ := getLast_some e
      obtain ⟨n, ok⟩ := h.ok
      have hl : (s.link p.1 p.2).links.length = s.links.length := by simp [VS.link]
      have h1 := h.link (hw p hp).1 (hw p hp).2 (he p hp)
      obtain ⟨h2, a2⟩ := h1.alike
      obtain ⟨k1, k2, k3, k4, k5⟩ := (ok.link p.1 p.2).alike
      show Snd given (if min (s.root p.1) (s.root p.2) = max (s.root p.1) (s.root p.2) then SL.joinF m (s.link p.1 p.2) w.dropLast else SL.joinF m (s.link p.1 p.2).alike.1 (w.dropLast ++ (s.link p.1 p.2).alike.2)) W S φ σ
      split
      · exact Snd.joinF h1 (fun q hq => by rw [hl]; exact hw q (List.dropLast_subset _ hq)) fun q hq => he q (List.dropLast_subset _ hq)
      · refine Snd.joinF h2 (fun q hq => ?_) fun q hq => ?_
        · rw [k2]
          rcases List.mem_append.mp hq with z | z
          · rw [hl]
            exact hw q (List.dropLast_subset _ z)
          · exact k3 q z
        · rcases List.mem_append.mp hq with z | z
          · exact he q (List.dropLast_subset _ z)
          · exact a2 q z
end
/-- the values are true of the words and cells -/
def Sound (given : List Nat) (s : VS) (W S : List Nat) : Prop := ∃ φ σ, Snd given s W S φ σ
section
variable {given : List Nat} {s : VS} {W S : List Nat}
theorem Sound.have (h : Sound given s W S) (b : Nat) : Sound given (s.have b) W S := by
  obtain ⟨φ, σ, h⟩ := h
  obtain ⟨φ', h', _⟩ := h.have b
  exact ⟨φ', σ, h'⟩
theorem Sound.two (h : Sound given s W S) (a b : Nat) : Sound given (s.two a b) W S := (h.have a).have b
theorem Sound.one (h : Sound given s W S) {a b : Nat} (e : s.one a b = true) : W.getD a 0 = W.getD b 0 := by
  obtain ⟨φ, σ, h⟩ := h
  obtain ⟨n, ok⟩ := h.ok
  obtain ⟨φ1, h1, x1, q1⟩ := h.have a
  obtain ⟨φ2, h2, x2, q2⟩ := h1.have b
  have e : s.val a = (s.have a).val b := of_decide_eq_true e
  rw [← q1, ← q2, ← e]
  exact (x2 _ (ok.val_lt a)).symm
theorem Sound.twin (h : Sound given s W S) {a b : Nat} (e : W.getD a 0 = W.getD b 0) : Sound given (s.twin a b) W S := by
  obtain ⟨φ, σ, h⟩ := h
  obtain ⟨n, ok⟩ := h.ok
  obtain ⟨φ1, h1, x1, q1⟩ := h.have a
  obtain ⟨φ2, h2, x2, q2⟩ := h1.have b
  have la := Nat.lt_of_lt_of_le (ok.val_lt a) (have_links_le (s.have a) b)
  have lb := (ok.have a).val_lt b
  refine ⟨φ2, σ, Snd.joinF h2 (fun q hq => ?_) fun q hq => ?_⟩
  · rw [List.mem_singleton.mp hq]
    exact ⟨la, lb⟩
  · rw [List.mem_singleton.mp hq]
    show φ2 (s.val a) = φ2 ((s.have a).val b)
    rw [x2 _ (ok.val_lt a), q1, q2, e]
theorem Sound.twins : ∀ {tw : Twins} {s : VS}, Sound given s W S → (∀ q ∈ tw, W.getD q.1 0 = W.getD q.2 0) → Sound given (tw.foldl (fun s p => s.twin p.1 p.2) s) W S
  | [], s, h, _ => h
  | q :: r, s, h, he => Sound.twins (tw := r) (h.twin (he q List.mem_cons_self)) fun z hz => he z (List.mem_cons_of_mem _ hz)
theorem Sound.init {tw : Twins} (he : ∀ q ∈ tw, W.getD q.1 0 = W.getD q.2 0) : Sound given (VS.init tw) W S :=
  Sound.twins ⟨fun _ => 0, fun _ => S, ⟨0, VS.ok0⟩, fun b v q => (by cases q), fun v hv => (by cases hv), fun q hq => (by cases hq), fun q hq => (by cases hq), rfl⟩ he
theorem Sound.pairs : ∀ {l : List Nat} {s : VS}, Sound given s W S → Sound given (s.pairs l).1 W S
  | [], s, h => h
  | [_], s, h => h
  | a :: b :: r, s, h => Sound.pairs (l := r) (h.two a b)
/-- boxes, two by two, have like words -/
def Alike (W : List Nat) : List Nat → Prop
  | a :: b :: r => W.getD a 0 = W.getD b 0 ∧ Alike W r
  | _ => True
theorem Sound.alike : ∀ {l : List Nat} {s : VS}, Sound given s W S → (s.pairs l).2 = true → Alike W l
  | [], s, h, _ => trivial
  | [_], s, h, _ => trivial
  | a :: b :: r, s, h, e => by
    have e : (s.one a b && ((s.two a b).pairs r).2) = true := e
    rw [Bool.and_eq_true] at e
    exact ⟨h.one e.1, Sound.alike (l := r) (h.two a b) e.2⟩
theorem Sound.all : ∀ {l : Twins} {s : VS}, Sound given s W S → Sound given (s.all l).1 W S ∧ ((s.all l).2 = true → ∀ q ∈ l, W.getD q.1 0 = W.getD q.2 0)
  | [], s, h => ⟨h, fun _ q hq => (by cases hq)⟩
  | p :: r, s, h => by
    obtain ⟨k1, k2⟩ := Sound.all (l := r) (h.two p.1 p.2)
    unfold VS.all
    cases e : s.one p.1 p.2 with
    | false => exact ⟨h.two _ _, fun z => by cases z⟩
    | true =>
      refine ⟨k1, fun z q hq => ?_⟩
      rcases List.mem_cons.mp hq with u | hq
      · rw [u]
        exact h.one e
      · exact k2 z q hq
theorem Sound.ends {paper : List Twins} : ∀ {l : List Nat} {s : VS}, Sound given s W S → s.ends paper l = true → ∀ k ∈ l, ∀ q ∈ paper.getD k [], W.getD q.1 0 = W.getD q.2 0
  | [], s, h, _, k, hk => by cases hk
  | j :: r, s, h, e, k, hk => by
    obtain ⟨a1, a2⟩ := Sound.all (l := paper.getD j []) h
    unfold VS.ends at e
    cases q : (s.all (paper.getD j [])).2 with
    | false =>
      rw [q] at e
      cases e
    | true =>
      rw [q] at e
      rcases List.mem_cons.mp hk with u | hk
      · rw [u]
        exact a2 q
      · exact Sound.ends (l := r) a1 e k hk
/-- a deed keeps the values true -/
theorem Sound.made (h : Sound given s W S) {r : Row} {n : Nat} (ok : r.Ok n) (hW : W.length = 32) (hd : r.sets ≠ none) : Sound given (s.do r) (W.set (r.sets.getD 0) (madeW given W S r)) S := by
  obtain ⟨φ, σ, h⟩ := h
  obtain ⟨m, okm⟩ := h.ok
  have h0 : ∀ {w : Wd} {k : Nat}, (⟨w, [k], []⟩ : Form).Ok s.links.length := ⟨Nat.le_refl _, Nat.zero_le _, fun v hv => by cases hv⟩
  have hvs : ∀ (l : List Nat) {w : Wd} {nums : List Nat}, l.length ≤ 3 → nums.length ≤ 1 → (⟨w, nums, s.vals l⟩ : Form).Ok (s.haves l).links.length := fun l w nums h1 h2 => ⟨h2, by show (s.vals l).length ≤ 3; rw [vals_len]; exact h1, okm.vals_lt⟩
  have puts_haves : ∀ (l : List Nat) (s : VS), (s.haves l).puts = s.puts := by
    intro l
    induction l with
    | nil => exact fun s => rfl
    | cons b r ih =>
      intro s
      show ((s.have b).haves r).puts = s.puts
      rw [ih]
      rcases have_cases s b with ⟨v, h1, e⟩ | ⟨h1, e⟩ <;> rw [e] <;> rfl
  cases r with
  | set b k =>
    obtain ⟨φ', q⟩ := h.deed (b := b) (x := k) (f := ⟨.set, [k], []⟩) (by have := ok.1; omega) h0 (fun z => by cases z) rfl
    exact ⟨φ', σ, q⟩
  | ask b k =>
    obtain ⟨φ', q⟩ := h.deed (b := b) (x := given.getD k 0) (f := ⟨.ask, [k], []⟩) (by have := ok.1; omega) h0 (fun z => by cases z) rfl
    exact ⟨φ', σ, q⟩
  | copy b c =>
    obtain ⟨φ1, h1, x1, q1⟩ := h.have c
    exact ⟨φ1, σ, h1.hold (by have := ok.1; omega) (okm.val_lt c) q1⟩
  | take b c =>
    obtain ⟨φ1, h1, x1, q1⟩ := h.haves (l := [c])
    obtain ⟨φ', q⟩ := h1.deed (b := b) (x := S.getD (W.getD c 0) 0) (f := ⟨.take, [s.puts], s.vals [c]⟩) (by have := ok.1; omega) (hvs [c] (by simp) (by simp)) (fun _ => by rw [puts_haves]; exact Nat.le_refl _) (by
      show (σ s.puts).getD (((s.vals [c]).map φ1).getD 0 0) 0 = _
      rw [q1, h.now]
      rfl)
    exact ⟨φ', σ, q⟩
  | bin o b c d =>
    obtain ⟨φ1, h1, x1, q1⟩ := h.haves (l := [c, d])
    obtain ⟨φ', q⟩ := h1.deed (b := b) (x := opW o (W.getD c 0) (W.getD d 0)) (f := ⟨.bin o, [], s.vals [c, d]⟩) (by have := ok.1; omega) (hvs [c, d] (by simp) (by simp)) (fun z => by cases z) (by
      show evB o ((s.vals [c, d]).map φ1) = _
      rw [q1]
      exact evB_two o _ _)
    exact ⟨φ', σ, q⟩
  | pick b c d e =>
    obtain ⟨φ1, h1, x1, q1⟩ := h.haves (l := [c, d, e])
    obtain ⟨φ', q⟩ := h1.deed (b := b) (x := if W.getD c 0 ≠ 0 then W.getD d 0 else W.getD e 0) (f := ⟨.pick, [], s.vals [c, d, e]⟩) (by have := ok.1; omega) (hvs [c, d, e] (by simp) (by simp)) (fun z => by cases z) (by
      show (if ((s.vals [c, d, e]).map φ1).getD 0 0 ≠ 0 then ((s.vals [c, d, e]).map φ1).getD 1 0 else ((s.vals [c, d, e]).map φ1).getD 2 0) = _
      rw [q1]
      rfl)
    exact ⟨φ', σ, q⟩
  | _ => exact absurd rfl hd
/-- a put makes the cells others -/
theorem Sound.put (h : Sound given s W S) (c d e f : Nat) (S' : List Nat) : Sound given (s.do (.put2 c d e f)) W S' := by
  obtain ⟨φ, σ, h⟩ := h
  obtain ⟨m, ok⟩ := h.ok
  refine ⟨φ, fun k => if k = s.puts + 1 then S' else σ k, ⟨_, ok.do (.put2 c d e f)⟩, h.held, h.links, fun q hq => ?_, fun q hq z => Nat.le_succ_of_le (h.puts q hq z), if_pos rfl⟩
  rw [h.forms q hq]
  cases w : q.1.w with
  | take =>
    have := h.puts q hq w
    show (σ (q.1.nums.getD 0 0)).getD _ 0 = (if q.1.nums.getD 0 0 = s.puts + 1 then S' else σ (q.1.nums.getD 0 0)).getD _ 0
    rw [if_neg (by omega)]
  | _ => rfl
end
end SL.Math

/-! text SlRight -/
set_option linter.all false
/-! What the look lets by stumbles at holds alone. Plain mathematics of the mirror. -/
namespace SL.Math
structure Cfg where
  pc : Nat
  W : List Nat
  S : List Nat
  said : List Nat
def Cfg.next (c : Cfg) : Cfg := { c with pc := c.pc + 1 }
def Cfg.w (c : Cfg) (b : Nat) : Nat := c.W.getD b 0
/-- a beat without going back; none where it ends or stumbles -/
def cstep (p : Prog) (given : List Nat) (c : Cfg) : Option Cfg := match p.at c.pc with
  | .fin => none
  | .go t => some { c with pc := t }
  | .keep => some c.next
  | .hold a b => if c.w a = c.w b then some c.next else none
  | .tell2 a b => if c.w a = c.w b then some { c.next with said := c.said ++ [c.w a] } else none
  | .put2 a b e f => if c.w a = c.w b ∧ c.w e = c.w f then some { c.next with S := c.S.set (c.w a) (c.w e) } else none
  | .if2 a b t => if c.w a = c.w b then some (if c.w a ≠ 0 then { c with pc := t } else c.next) else none
  | r => some { c.next with W := c.W.set (r.sets.getD 0) (madeW given c.W c.S r) }
section
variable {p : Prog} (ok : p.Ok) {given : List Nat} {paper : List Twins}
def Inv (p : Prog) (given : List Nat) (paper : List Twins) (c : Cfg) : Prop := ∃ k b s s', (blocks p)[k]? = some b ∧ b.1 ≤ c.pc ∧ c.pc < b.2 ∧ Sound given s c.W c.S ∧
  s.rowsOk ((p.drop c.pc).take (b.2 - c.pc)) = some s' ∧ s'.ends paper ((ways p (blocks p)).getD k []) = true ∧ c.W.length = 32
def Good (p : Prog) (paper : List Twins) : Prop := ∀ k b, (blocks p)[k]? = some b → blockOk p (ways p (blocks p)) paper k b = true
theorem good_of {h : Hues} (f : faultless p h paper = true) : Good p paper := by
  intro k b hk
  unfold faultless at f
  rw [Bool.and_eq_true] at f
  have := List.all_eq_true.mp f.2 k (List.mem_range.mpr (List.getElem?_eq_some_iff.mp hk).1)
  rw [List.getD_eq_getElem?_getD, hk] at this
  exact this
include ok
theorem not_between {k : Nat} {b : Nat × Nat} (h : (blocks p)[k]? = some b) {x : Nat} (hx : x ∈ beginnings p) (h1 : b.1 < x) : b.2 ≤ x := by
  obtain ⟨e1, e2⟩ := blocks_at p h
  obtain ⟨m, hm⟩ := List.getElem?_of_mem hx
  have hkm : k < m := by
    rcases Nat.lt_trichotomy m k with z | z | z
    · have := sorted_lt (beg_sorted p) z hm e1
      omega
    · rw [z, e1] at hm
      cases hm
      omega
    · exact z
  rcases e2 with e2 | ⟨e2, e3⟩
  · by_cases q : k + 1 = m
    · rw [q, hm] at e2
      cases e2
      exact Nat.le_refl _
    · have := sorted_lt (beg_sorted p) (show k + 1 < m by omega) e2 hm
      omega
  · have a1 := (List.getElem?_eq_some_iff.mp hm).1
    have a2 := List.getElem?_eq_none_iff.mp e2
    omega
theorem enter (g : Good p paper) {c : Cfg} (hb : c.pc ∈ beginnings p) (hW : c.W.length = 32) (he : ∀ q ∈ paper.getD (numOf (blocks p) c.pc) [], c.w q.1 = c.w q.2) : Inv p given paper c := by
  obtain ⟨b, hk, e⟩ := numOf_ok hb
  have hg := g _ _ hk
  obtain ⟨b1, b2, b3, b4⟩ := block_ok ok hk
  unfold blockOk at hg
  cases q : (VS.init (paper.getD (numOf (blocks p) c.pc) [])).rowsOk (cut p b) with
  | none => rw [q] at hg; cases hg
  | some s' =>
    rw [q] at hg
    unfold cut at q
    rw [e] at q
    exact ⟨_, b, _, s', hk, by omega, by omega, Sound.init he, q, hg, hW⟩
theorem move (g : Good p paper) {c c' : Cfg} {k : Nat} {b : Nat × Nat} {t s' : VS} (hk : (blocks p)[k]? = some b) (h1 : b.1 ≤ c.pc) (h2 : c.pc < b.2) (hS : Sound given t c'.W c'.S)
    (hr : t.rowsOk ((p.drop (c.pc + 1)).take (b.2 - (c.pc + 1))) = some s') (he : s'.ends paper ((ways p (blocks p)).getD k []) = true) (hW : c'.W.length = 32) (hn : c'.pc ∈ behind p c.pc) : Inv p given paper c' := by
  obtain ⟨b1, b2, b3, b4⟩ := block_ok ok hk
  by_cases q : c.pc + 1 < b.2
  · have nw : (p.at c.pc).way = false := by
      cases w : (p.at c.pc).way with
      | false => rfl
      | true =>
        have := not_between ok hk (beg_way (by omega) w) (by omega)
        omega
    have hb : behind p c.pc = [c.pc + 1] := by
      unfold behind
      cases e : p.at c.pc with
      | fin => rw [e] at nw; cases nw
      | go t => rw [e] at nw; cases nw
      | if2 _ _ t => rw [e] at nw; cases nw
      | _ => rfl
    rw [hb, List.mem_singleton] at hn
    exact ⟨k, b, t, s', hk, by omega, by omega, hS, by rw [hn]; exact hr, he, hW⟩
  · have e : c.pc = b.2 - 1 := by omega
    rw [show b.2 - (c.pc + 1) = 0 by omega, List.take_zero] at hr
    cases hr
    rw [e] at hn
    refine enter ok g (behind_beg ok hk _ hn) hW ?_
    refine hS.ends he _ ?_
    rw [List.getD_eq_getElem?_getD, ways, List.getElem?_map, hk]
    exact b_mem_sset.mpr (List.mem_map_of_mem hn)
omit ok in
theorem inv_row {c : Cfg} (h : Inv p given paper c) (ok : p.Ok) : ∃ k b s s' t, (blocks p)[k]? = some b ∧ b.1 ≤ c.pc ∧ c.pc < b.2 ∧ Sound given s c.W c.S ∧ c.W.length = 32 ∧ c.pc < p.length ∧ s.rowOk (p.at c.pc) = some t ∧
    t.rowsOk ((p.drop (c.pc + 1)).take (b.2 - (c.pc + 1))) = some s' ∧ s'.ends paper ((ways p (blocks p)).getD k []) = true := by
  obtain ⟨k, b, s, s', hk, h1, h2, hS, hr, he, hW⟩ := h
  obtain ⟨b1, b2, b3, b4⟩ := block_ok ok hk
  have hlt : c.pc < p.length := by omega
  have hat := at_get hlt
  rw [List.drop_eq_getElem_cons hlt, show b.2 - c.pc = (b.2 - (c.pc + 1)) + 1 by omega, List.take_succ_cons] at hr
  rw [List.getElem?_eq_getElem hlt] at hat
  rw [Option.some.inj hat] at hr
  unfold VS.rowsOk at hr
  cases q : s.rowOk (p.at c.pc) with
  | none => rw [q] at hr; cases hr
  | some t =>
    rw [q] at hr
    exact ⟨k, b, s, s', t, hk, h1, h2, hS, hW, hlt, q, hr, he⟩
theorem inv_out {c : Cfg} (h : Inv p given paper c) (ho : (p.at c.pc).out = true) : Alike c.W (p.at c.pc).reads := by
  obtain ⟨k, b, s, s', t, hk, h1, h2, hS, hW, hlt, hr, _⟩ := inv_row h ok
  unfold VS.rowOk at hr
  rw [ho, if_pos rfl] at hr
  cases q : (s.pairs (p.at c.pc).reads).2 with
  | false => rw [q] at hr; cases hr
  | true => exact hS.alike q
theorem inv_step (g : Good p paper) {c c' : Cfg} (h : Inv p given paper c) (hs : cstep p given c = some c') : Inv p given paper c' := by
  obtain ⟨k, b, s, s', t, hk, h1, h2, hS, hW, hlt, hr, hrs, he⟩ := inv_row h ok
  have hrow : (p.at c.pc).Ok p.length := ok.row _ (by
    have := at_get hlt
    exact List.mem_of_getElem? this)
  have deed : ∀ r, p.at c.pc = r → r.out = false → r.sets ≠ none → behind p c.pc = [c.pc + 1] → some { c.next with W := c.W.set (r.sets.getD 0) (madeW given c.W c.S r) } = some c' → Inv p given paper c' := by
    intro r e ho hd hb e2
    cases e2
    rw [e] at hr hrow
    unfold VS.rowOk at hr
    rw [ho] at hr
    cases hr
    exact move ok g hk h1 h2 (hS.made hrow hW hd) hrs he (by rw [List.length_set]; exact hW) (by rw [hb]; exact List.mem_cons_self)
  have plain : ∀ r, p.at c.pc = r → s.rowOk r = some t → (∀ s : VS, s.do r = s) → Sound given t c.W c.S := by
    intro r e q hd
    unfold VS.rowOk at q
    split at q
    · split at q
      · cases q
        rw [hd]
        exact hS.pairs
      · cases q
    · cases q
      rw [hd]
      exact hS
  unfold cstep at hs
  cases e : p.at c.pc with
  | fin => rw [e] at hs; cases hs
  | go u =>
    rw [e] at hs hr
    cases hs
    exact move ok g hk h1 h2 (plain _ e hr fun _ => rfl) hrs he hW (by unfold behind; rw [e]; exact List.mem_cons_self)
  | keep =>
    rw [e] at hs hr
    cases hs
    exact move ok g hk h1 h2 (plain _ e hr fun _ => rfl) hrs he hW (by unfold behind; rw [e]; exact List.mem_cons_self)
  | hold x y =>
    rw [e] at hs hr
    have hs : (if c.w x = c.w y then some c.next else none) = some c' := hs
    split at hs
    · rename_i q
      cases hs
      have hr : some (s.twin x y) = some t := hr
      cases hr
      exact move ok g hk h1 h2 (hS.twin q) hrs he hW (by unfold behind; rw [e]; exact List.mem_cons_self)
    · cases hs
  | tell2 x y =>
    rw [e] at hs hr
    have hs : (if c.w x = c.w y then some { c.next with said := c.said ++ [c.w x] } else none) = some c' := hs
    split at hs
    · cases hs
      exact move ok g hk h1 h2 (plain _ e hr fun _ => rfl) hrs he hW (by unfold behind; rw [e]; exact List.mem_cons_self)
    · cases hs
  | put2 x y u v =>
    rw [e] at hs hr
    have hs : (if c.w x = c.w y ∧ c.w u = c.w v then some { c.next with S := c.S.set (c.w x) (c.w u) } else none) = some c' := hs
    split at hs
    · cases hs
      unfold VS.rowOk at hr
      have hr : (if (s.pairs [x, y, u, v]).2 then some ((s.pairs [x, y, u, v]).1.do (.put2 x y u v)) else none) = some t := hr
      split at hr
      · cases hr
        exact move ok g hk h1 h2 (hS.pairs.put x y u v _) hrs he hW (by unfold behind; rw [e]; exact List.mem_cons_self)
      · cases hr
    · cases hs
  | if2 x y u =>
    rw [e] at hs hr
    have hs : (if c.w x = c.w y then some (if c.w x ≠ 0 then { c with pc := u } else c.next) else none) = some c' := hs
    split at hs
    · cases hs
      have hp := plain _ e hr fun _ => rfl
      split
      · exact move ok g hk h1 h2 hp hrs he hW (by unfold behind; rw [e]; exact List.mem_cons_of_mem _ List.mem_cons_self)
      · exact move ok g hk h1 h2 hp hrs he hW (by unfold behind; rw [e]; exact List.mem_cons_self)
    · cases hs
  | set x n => rw [e] at hs; exact deed _ e rfl (fun z => by cases z) (by unfold behind; rw [e]) hs
  | ask x n => rw [e] at hs; exact deed _ e rfl (fun z => by cases z) (by unfold behind; rw [e]) hs
  | copy x y => rw [e] at hs; exact deed _ e rfl (fun z => by cases z) (by unfold behind; rw [e]) hs
  | take x y => rw [e] at hs; exact deed _ e rfl (fun z => by cases z) (by unfold behind; rw [e]) hs
  | bin o x y z => rw [e] at hs; exact deed _ e rfl (fun z => by cases z) (by unfold behind; rw [e]) hs
  | pick x y z u => rw [e] at hs; exact deed _ e rfl (fun z => by cases z) (by unfold behind; rw [e]) hs
/-! ### the line of a run -/
def Cfg.start : Cfg := ⟨0, List.replicate 32 0, List.replicate 16 0, []⟩
def line (p : Prog) (given : List Nat) : Nat → Option Cfg
  | 0 => some Cfg.start
  | i + 1 => (line p given i).bind (cstep p given)
theorem line_inv (g : Good p paper) : ∀ i c, line p given i = some c → Inv p given paper c
  | 0, c, h => by
    cases h
    exact enter ok g (beg_zero p) (List.length_replicate ..) fun q _ => by
      have : ∀ x, Cfg.start.w x = 0 := fun x => by
        show (List.replicate 32 0).getD x 0 = 0
        rw [List.getD_eq_getElem?_getD, List.getElem?_replicate]
        split <;> rfl
      rw [this, this]
  | i + 1, c, h => by
    have h : (line p given i).bind (cstep p given) = some c := h
    cases q : line p given i with
    | none => rw [q] at h; cases h
    | some d =>
      rw [q] at h
      exact inv_step ok g (line_inv g i d q) h
omit ok
theorem cstep_said {c c' : Cfg} (h : cstep p given c = some c') : c.said <+: c'.said := by
  have r : c.said <+: c.said := List.prefix_refl _
  unfold cstep at h
  cases e : p.at c.pc with
  | fin => rw [e] at h; cases h
  | go u => rw [e] at h; cases h; exact r
  | keep => rw [e] at h; cases h; exact r
  | hold x y =>
    rw [e] at h
    have h : (if c.w x = c.w y then some c.next else none) = some c' := h
    split at h <;> cases h
    exact r
  | tell2 x y =>
    rw [e] at h
    have h : (if c.w x = c.w y then some { c.next with said := c.said ++ [c.w x] } else none) = some c' := h
    split at h <;> cases h
    exact List.prefix_append _ _
  | put2 x y u v =>
    rw [e] at h
    have h : (if c.w x = c.w y ∧ c.w u = c.w v then some { c.next with S := c.S.set (c.w x) (c.w u) } else none) = some c' := h
    split at h <;> cases h
    exact r
  | if2 x y u =>
    rw [e] at h
    have h : (if c.w x = c.w y then some (if c.w x ≠ 0 then { c with pc := u } else c.next) else none) = some c' := h
    split at h <;> cases h
    split <;> exact r
  | _ => rw [e] at h; cases h; exact r
theorem line_more {i : Nat} : ∀ {j : Nat} {c d : Cfg}, line p given i = some c → line p given (i + j) = some d → c.said <+: d.said
  | 0, c, d, h1, h2 => by
    rw [Nat.add_zero, h1] at h2
    cases h2
    exact List.prefix_refl _
  | j + 1, c, d, h1, h2 => by
    have h2 : (line p given (i + j)).bind (cstep p given) = some d := h2
    cases q : line p given (i + j) with
    | none => rw [q] at h2; cases h2
    | some e =>
      rw [q] at h2
      exact (line_more h1 q).trans (cstep_said h2)
theorem line_le {i j : Nat} (h : i ≤ j) {c d : Cfg} (h1 : line p given i = some c) (h2 : line p given j = some d) : c.said <+: d.said :=
  line_more (j := j - i) h1 (by rw [show i + (j - i) = j by omega]; exact h2)
theorem line_has : ∀ {i j : Nat} {d : Cfg}, i ≤ j → line p given j = some d → ∃ c, line p given i = some c
  | i, 0, d, h, e => ⟨d, by rw [show i = 0 by omega]; exact e⟩
  | i, j + 1, d, h, e => by
    by_cases q : i = j + 1
    · exact ⟨d, by rw [q]; exact e⟩
    · have e : (line p given j).bind (cstep p given) = some d := e
      cases q2 : line p given j with
      | none => rw [q2] at e; cases e
      | some c => exact line_has (j := j) (by omega) q2
structure At (c : Cfg) (pc : Nat) (W S : List Nat) (n : Nat) : Prop where
  pc : c.pc = pc
  W : c.W = W
  S : c.S = S
  n : c.said.length = n
def OnLine (p : Prog) (given : List Nat) (top : Nat) (pc : Nat) (W S : List Nat) (n : Nat) : Prop := ∃ i c, i ≤ top ∧ line p given i = some c ∧ At c pc W S n
theorem OnLine.up {top top' pc n : Nat} {W S : List Nat} (h : OnLine p given top pc W S n) (e : top ≤ top') : OnLine p given top' pc W S n := by
  obtain ⟨i, c, h1, h2, h3⟩ := h
  exact ⟨i, c, Nat.le_trans h1 e, h2, h3⟩
structure MInv (p : Prog) (given : List Nat) (m : MS) (top : Nat) (ct : Cfg) : Prop where
  over : m.over = none
  peak : line p given top = some ct
  said : m.said = ct.said
  here : OnLine p given top m.at_ m.words m.store m.count
  stands : ∀ s ∈ m.stands, OnLine p given top s.at_ s.words s.store s.count
/-- a beat that steps along the line -/
theorem MInv.step {m : MS} {top i : Nat} {ct c c' : Cfg} (h : MInv p given m top ct) (hi : i ≤ top) (hc : line p given i = some c) (hs : cstep p given c = some c') (m' : MS) (ho : m'.over = none)
    (hat : At c' m'.at_ m'.words m'.store m'.count) (hsaid : (i < top → m'.said = m.said) ∧ (i = top → m'.said = c'.said)) (hst : ∀ s ∈ m'.stands, s ∈ m.stands ∨ (s.at_ = m'.at_ ∧ s.words = m'.words ∧ s.store = m'.store ∧ s.count = m'.count)) :
    ∃ top' ct', MInv p given m' top' ct' := by
  have hn : line p given (i + 1) = some c' := by
    show (line p given i).bind (cstep p given) = some c'
    rw [hc]
    exact hs
  by_cases q : i < top
  · have here : OnLine p given top m'.at_ m'.words m'.store m'.count := ⟨i + 1, c', by omega, hn, hat⟩
    refine ⟨top, ct, ho, h.peak, by rw [hsaid.1 q, h.said], here, fun s hs => ?_⟩
    rcases hst s hs with z | ⟨z1, z2, z3, z4⟩
    · exact h.stands s z
    · rw [z1, z2, z3, z4]
      exact here
  · have e : i = top := by omega
    subst e
    have here : OnLine p given (i + 1) m'.at_ m'.words m'.store m'.count := ⟨i + 1, c', Nat.le_refl _, hn, hat⟩
    refine ⟨i + 1, c', ho, hn, hsaid.2 rfl, here, fun s hs => ?_⟩
    rcases hst s hs with z | ⟨z1, z2, z3, z4⟩
    · exact (h.stands s z).up (Nat.le_succ _)
    · rw [z1, z2, z3, z4]
      exact here
theorem freshAt_lt : ∀ {l : List Stand} {j : Nat}, freshAt l = some j → j < l.length
  | [], j, h => by cases h
  | s :: r, j, h => by
    unfold freshAt at h
    split at h
    · cases q : freshAt r with
      | none => rw [q] at h; cases h
      | some k =>
        rw [q] at h
        have h : some (k + 1) = some j := h
        cases h
        have := freshAt_lt q
        show k + 1 < r.length + 1
        omega
    · cases h
      exact Nat.succ_pos _
theorem MInv.stumble {m : MS} {top : Nat} {ct : Cfg} (h : MInv p given m top ct) (hn : m.stumble.over = none) : MInv p given m.stumble top ct := by
  cases q : freshAt m.stands with
  | none =>
    unfold MS.stumble at hn
    rw [q] at hn
    cases hn
  | some j =>
    have hj := freshAt_lt q
    have e : m.stands.drop j = m.stands[j] :: m.stands.drop (j + 1) := List.drop_eq_getElem_cons hj
    have em : m.stumble = { m with stands := { m.stands[j] with used := true } :: m.stands.drop (j + 1), at_ := m.stands[j].at_, words := m.stands[j].words, store := m.stands[j].store, count := m.stands[j].count } := by
      unfold MS.stumble
      rw [q]
      show (match m.stands.drop j with | [] => m | s :: r => { m with stands := { s with used := true } :: r, at_ := s.at_, words := s.words, store := s.store, count := s.count }) = _
      rw [e]
    rw [em]
    have hs := h.stands _ (List.getElem_mem hj)
    refine ⟨h.over, h.peak, h.said, hs, fun s hsm => ?_⟩
    rcases List.mem_cons.mp hsm with z | z
    · rw [z]
      exact hs
    · exact h.stands s (List.drop_subset _ _ z)
theorem stumble_over {m : MS} (h : m.over = none) : m.stumble.over = none ∨ (m.stumble.over = some .slip ∧ m.stumble.at_ = m.at_) := by
  cases q : freshAt m.stands with
  | none =>
    right
    unfold MS.stumble
    rw [q]
    exact ⟨rfl, rfl⟩
  | some j =>
    left
    have hj := freshAt_lt q
    unfold MS.stumble
    rw [q]
    show (match m.stands.drop j with | [] => m | s :: r => { m with stands := { s with used := true } :: r, at_ := s.at_, words := s.words, store := s.store, count := s.count }).over = none
    rw [List.drop_eq_getElem_cons hj]
    exact h
/-- what a beat comes to -/
def Beaten (p : Prog) (given : List Nat) (m' : MS) : Prop := (∃ top ct, MInv p given m' top ct) ∨ m'.over = some .fin ∨ (m'.over = some .slip ∧ ∃ c d, p.at m'.at_ = .hold c d)
theorem beat_ok (ok : p.Ok) (g : Good p paper) {m : MS} {top : Nat} {ct : Cfg} (h : MInv p given m top ct) : apartB m (p.at m.at_) = false ∧ Beaten p given (m.beat p given) := by
  obtain ⟨i, c, hi, hc, hat⟩ := h.here
  have hinv := line_inv ok g i c hc
  have hpc := hat.pc
  have hw : ∀ b, m.w b = c.w b := fun b => by unfold MS.w Cfg.w; rw [hat.W]
  have hsame : (i < top → m.said = m.said) ∧ (i = top → m.said = c.said) := by
    refine ⟨fun _ => rfl, fun e => ?_⟩
    rw [e, h.peak] at hc
    cases hc
    exact h.said
  have hold_st : ∀ m' : MS, m'.stands = m.stands → ∀ s ∈ m'.stands, s ∈ m.stands ∨ (s.at_ = m'.at_ ∧ s.words = m'.words ∧ s.store = m'.store ∧ s.count = m'.count) := fun m' e s hs => .inl (by rw [← e]; exact hs)
  have hbeat : ∀ r, p.at m.at_ = r → m.beat p given = (match r with
    | .fin => { m with done := m.done + 1, over := some .fin }
    | .go t => { m with done := m.done + 1, at_ := t }
    | .keep => ({ m with done := m.done + 1 } : MS).keep
    | .hold c d => ({ m with done := m.done + 1 } : MS).goOut (.hold c d)
    | .tell2 c d => ({ m with done := m.done + 1 } : MS).goOut (.tell2 c d)
    | .put2 c d e f => ({ m with done := m.done + 1 } : MS).goOut (.put2 c d e f)
    | .if2 c d t => ({ m with done := m.done + 1 } : MS).goOut (.if2 c d t)
    | r => { m with done := m.done + 1, words := m.words.set (r.sets.getD 0) (madeW given m.words m.store r), at_ := m.at_ + 1 }) := by
    intro r e
    unfold MS.beat
    rw [h.over, e]
    all_goals (cases r <;> rfl)
  have deed : ∀ r, p.at m.at_ = r → cstep p given c = some { c.next with W := c.W.set (r.sets.getD 0) (madeW given c.W c.S r) } → m.beat p given = { m with done := m.done + 1, words := m.words.set (r.sets.getD 0) (madeW given m.words m.store r), at_ := m.at_ + 1 } → Beaten p given (m.beat p given) := by
    intro r e hs hb
    rw [hb]
    refine .inl (h.step hi hc hs _ h.over ⟨?_, ?_, hat.S, hat.n⟩ hsame (hold_st _ rfl))
    · show c.pc + 1 = m.at_ + 1
      rw [hpc]
    · show c.W.set _ (madeW given c.W c.S r) = m.words.set _ (madeW given m.words m.store r)
      rw [hat.W, hat.S]
  have m1 : MInv p given { m with done := m.done + 1 } top ct := ⟨h.over, h.peak, h.said, h.here, h.stands⟩
  have outs : ∀ r, p.at m.at_ = r → r.out = true → Alike c.W r.reads := fun r e ho => by
    have := inv_out ok hinv (by rw [hpc, e]; exact ho)
    rwa [hpc, e] at this
  cases e : p.at m.at_ with
  | fin => exact ⟨rfl, .inr (.inl (by rw [hbeat _ e]))⟩
  | go t =>
    refine ⟨rfl, ?_⟩
    rw [hbeat _ e]
    exact .inl (h.step hi hc (c' := { c with pc := t }) (by unfold cstep; rw [hpc, e]) _ h.over ⟨rfl, hat.W, hat.S, hat.n⟩ hsame (hold_st _ rfl))
  | keep =>
    refine ⟨rfl, ?_⟩
    rw [hbeat _ e]
    refine .inl (h.step hi hc (c' := c.next) (by unfold cstep; rw [hpc, e]) _ h.over ⟨by show c.pc + 1 = m.at_ + 1; rw [hpc], hat.W, hat.S, hat.n⟩ hsame fun s hs => ?_)
    have hs : s ∈ (⟨m.at_ + 1, m.words, m.store, m.count, false⟩ : Stand) :: m.stands.take 1 := hs
    rcases List.mem_cons.mp hs with z | z
    · rw [z]
      exact .inr ⟨rfl, rfl, rfl, rfl⟩
    · exact .inl (List.take_subset _ _ z)
  | hold x y =>
    refine ⟨rfl, ?_⟩
    rw [hbeat _ e]
    show Beaten p given (if m.w x = m.w y then ({ m with done := m.done + 1 } : MS).next else ({ m with done := m.done + 1 } : MS).stumble)
    by_cases q : m.w x = m.w y
    · rw [if_pos q]
      refine .inl (h.step hi hc (c' := c.next) ?_ _ h.over ⟨by show c.pc + 1 = m.at_ + 1; rw [hpc], hat.W, hat.S, hat.n⟩ hsame (hold_st _ rfl))
      unfold cstep
      rw [hpc, e]
      show (if c.w x = c.w y then some c.next else none) = _
      rw [if_pos (by rw [← hw, ← hw]; exact q)]
    · rw [if_neg q]
      rcases stumble_over m1.over with z | ⟨z1, z2⟩
      · exact .inl ⟨top, ct, m1.stumble z⟩
      · refine .inr (.inr ⟨z1, x, y, ?_⟩)
        rw [z2]
        exact e
  | tell2 x y =>
    have al := outs _ e rfl
    have q : m.w x = m.w y := by
      rw [hw, hw]
      exact al.1
    refine ⟨decide_eq_false fun z => z q, ?_⟩
    rw [hbeat _ e]
    show Beaten p given (if m.w x = m.w y then ({ m with done := m.done + 1 } : MS).tell (m.w x) else ({ m with done := m.done + 1 } : MS).stumble)
    rw [if_pos q]
    have hs : cstep p given c = some { c.next with said := c.said ++ [c.w x] } := by
      unfold cstep
      rw [hpc, e]
      show (if c.w x = c.w y then some { c.next with said := c.said ++ [c.w x] } else none) = _
      rw [if_pos (by rw [← hw, ← hw]; exact q)]
    have hpre : i < top → c.said ++ [c.w x] <+: m.said := by
      intro z
      rw [h.said]
      refine line_le (show i + 1 ≤ top by omega) (c := { c.next with said := c.said ++ [c.w x] }) ?_ h.peak
      show (line p given i).bind (cstep p given) = _
      rw [hc]
      exact hs
    have hlen : i < top → m.count < m.said.length ∧ m.said.getD m.count 0 = m.w x := by
      intro z
      obtain ⟨r, hr⟩ := hpre z
      rw [← hr, ← hat.n, hw]
      refine ⟨by simp, ?_⟩
      rw [List.getD_eq_getElem?_getD]
      simp
    have htop : i = top → m.count = m.said.length := by
      intro z
      rw [hsame.2 z]
      exact hat.n.symm
    unfold MS.tell
    have nst : ¬ (({ m with done := m.done + 1 } : MS).count < ({ m with done := m.done + 1 } : MS).said.length ∧ ({ m with done := m.done + 1 } : MS).said.getD ({ m with done := m.done + 1 } : MS).count 0 ≠ m.w x) := by
      rintro ⟨z1, z2⟩
      have z1 : m.count < m.said.length := z1
      rcases Nat.lt_or_ge i top with u | u
      · exact z2 (hlen u).2
      · have := htop (by omega)
        omega
    rw [if_neg nst]
    refine .inl (h.step hi hc hs _ h.over ⟨by show c.pc + 1 = m.at_ + 1; rw [hpc], hat.W, hat.S, ?_⟩ ⟨fun z => ?_, fun z => ?_⟩ (hold_st _ rfl))
    · show (c.said ++ [c.w x]).length = m.count + 1
      rw [List.length_append, hat.n]
      rfl
    · show (if m.count = m.said.length then m.said ++ [m.w x] else m.said) = m.said
      rw [if_neg (by have := (hlen z).1; omega)]
    · show (if m.count = m.said.length then m.said ++ [m.w x] else m.said) = c.said ++ [c.w x]
      rw [if_pos (htop z), hw, hsame.2 z]
  | put2 x y u v =>
    have al := outs _ e rfl
    have q1 : m.w x = m.w y := by
      rw [hw, hw]
      exact al.1
    have q2 : m.w u = m.w v := by
      rw [hw, hw]
      exact al.2.1
    refine ⟨?_, ?_⟩
    · show (decide (m.w x ≠ m.w y) || decide (m.w u ≠ m.w v)) = false
      rw [decide_eq_false fun z => z q1, decide_eq_false fun z => z q2]
      rfl
    rw [hbeat _ e]
    show Beaten p given (if m.w x = m.w y ∧ m.w u = m.w v then { m with done := m.done + 1, store := m.store.set (m.w x) (m.w u), at_ := m.at_ + 1 } else ({ m with done := m.done + 1 } : MS).stumble)
    rw [if_pos ⟨q1, q2⟩]
    refine .inl (h.step hi hc (c' := { c.next with S := c.S.set (c.w x) (c.w u) }) ?_ _ h.over ⟨by show c.pc + 1 = m.at_ + 1; rw [hpc], hat.W, ?_, hat.n⟩ hsame (hold_st _ rfl))
    · unfold cstep
      rw [hpc, e]
      show (if c.w x = c.w y ∧ c.w u = c.w v then some { c.next with S := c.S.set (c.w x) (c.w u) } else none) = _
      rw [if_pos (by rw [← hw, ← hw, ← hw, ← hw]; exact ⟨q1, q2⟩)]
    · show c.S.set (c.w x) (c.w u) = m.store.set (m.w x) (m.w u)
      rw [hat.S, hw, hw]
  | if2 x y u =>
    have al := outs _ e rfl
    have q : m.w x = m.w y := by
      rw [hw, hw]
      exact al.1
    refine ⟨decide_eq_false fun z => z q, ?_⟩
    rw [hbeat _ e]
    show Beaten p given (if m.w x = m.w y then (if m.w x ≠ 0 then { m with done := m.done + 1, at_ := u } else ({ m with done := m.done + 1 } : MS).next) else ({ m with done := m.done + 1 } : MS).stumble)
    rw [if_pos q]
    have hs : cstep p given c = some (if c.w x ≠ 0 then { c with pc := u } else c.next) := by
      unfold cstep
      rw [hpc, e]
      show (if c.w x = c.w y then some (if c.w x ≠ 0 then { c with pc := u } else c.next) else none) = _
      rw [if_pos (by rw [← hw, ← hw]; exact q)]
    by_cases z : m.w x ≠ 0
    · rw [if_pos z]
      rw [if_pos (by rw [← hw]; exact z)] at hs
      exact .inl (h.step hi hc hs _ h.over ⟨rfl, hat.W, hat.S, hat.n⟩ hsame (hold_st _ rfl))
    · rw [if_neg z]
      rw [if_neg (by rw [← hw]; exact z)] at hs
      exact .inl (h.step hi hc hs _ h.over ⟨by show c.pc + 1 = m.at_ + 1; rw [hpc], hat.W, hat.S, hat.n⟩ hsame (hold_st _ rfl))
  | set x n => exact ⟨rfl, deed _ e (by unfold cstep; rw [hpc, e]) (hbeat _ e)⟩
  | ask x n => exact ⟨rfl, deed _ e (by unfold cstep; rw [hpc, e]) (hbeat _ e)⟩
  | copy x y => exact ⟨rfl, deed _ e (by unfold cstep; rw [hpc, e]) (hbeat _ e)⟩
  | take x y => exact ⟨rfl, deed _ e (by unfold cstep; rw [hpc, e]) (hbeat _ e)⟩
  | bin o x y z => exact ⟨rfl, deed _ e (by unfold cstep; rw [hpc, e]) (hbeat _ e)⟩
  | pick x y z u => exact ⟨rfl, deed _ e (by unfold cstep; rw [hpc, e]) (hbeat _ e)⟩
/-- what is asked of a walk -/
def FoundOk (p : Prog) : Option Found → Prop
  | none => True
  | some (.apart _) => False
  | some (.over .fin _) => True
  | some (.over .slip i) => ∃ c d, p.at i = .hold c d
theorem walk_ok (ok : p.Ok) (g : Good p paper) : ∀ n {m : MS} {top : Nat} {ct : Cfg}, MInv p given m top ct → FoundOk p (walkF p given n m)
  | 0, m, top, ct, h => trivial
  | n + 1, m, top, ct, h => by
    obtain ⟨h1, h2⟩ := beat_ok ok g h
    unfold walkF
    rw [h1]
    show FoundOk p (match (m.beat p given).over with | some o => some (.over o (m.beat p given).at_) | none => walkF p given n (m.beat p given))
    rcases h2 with ⟨t, c, h2⟩ | h2 | ⟨h2, h3⟩
    · rw [h2.over]
      exact walk_ok ok g n h2
    · rw [h2]
      trivial
    · rw [h2]
      exact h3
theorem walked_ok (ok : p.Ok) {h : Hues} {pp : List Twins} (hs : surePaper p h = some pp) (given : List Nat) : FoundOk p (walked p given) := by
  unfold surePaper at hs
  split at hs
  · rename_i q
    have g := good_of q
    have h0 : OnLine p given 0 MS.init.at_ MS.init.words MS.init.store MS.init.count := ⟨0, Cfg.start, Nat.le_refl _, rfl, rfl, rfl, rfl, rfl⟩
    exact walk_ok ok g 160 (top := 0) (ct := Cfg.start) ⟨rfl, rfl, rfl, h0, fun s hs => by cases hs⟩
  · cases hs
end
end SL.Math

/-! text OkRows -/
set_option Elab.async false
set_option linter.all false
set_option maxRecDepth 100000
set_option maxHeartbeats 4000000
namespace SL
open PySem PySem.Spec L2
section
variable {P : Program} {w : World} {K : PySem.W.Frag} {mg : Str → Option Value} {base : Heap}
def sp_is_among : Sp := fun vs H Q _ => ∃ n lo hi : Int, vs = [.int n, .int lo, .int hi] ∧ Q (.bl (decide (lo ≤ n ∧ n ≤ hi))) H
-- slots: 0:thing 1:least 2:most   level 1
abbrev n_is_among : List Str := ["thing", "least", "most"]
theorem sc_is_among : FnScope n_is_among ["thing", "least", "most"] SL.d_is_among.scope := ⟨rfl, rfl, rfl, by decide +kernel, rfl, by decide +kernel, by decide +kernel⟩
theorem ok_is_among (T : Tx K mg w) : Cal P w K mg base "is_among" 1 ["thing", "least", "most"] sp_is_among := by
  refine Cal.of T.D_is_among T.g_is_among sc_is_among (fun _ _ _ _ _ _ us hl => match us, hl with | [_, _, _], _ => rfl) (fun vs H Q E h => ?_) fun f cdv A outer s H vs Q E hr h => ?_
  · obtain ⟨n, lo, hi, rfl, _⟩ := h
    rfl
  obtain ⟨n, lo, hi, rfl, h⟩ := h
  refine ⟨_, (pss_one (ps_ret (pe_and (pe_callB call_isi (by rfl) T.f_isinstance (by decide +kernel) (pa_cons (pv 0) (pa_cons (pe_bltn (v := .ty "int") (by rfl) T.f_int (by decide +kernel) rfl) pa_nil))) (pe_and (pe_not (pe_callB call_isi (by rfl) T.f_isinstance (by decide +kernel) (pa_cons (pv 0) (pa_cons (pe_bltn (v := .ty "bool") (by rfl) T.f_bool (by decide +kernel) rfl) pa_nil)))) (pe_one (pe_chain op_le op_le (pv 1) (pv 0) (pv 2))))))), ?_⟩
  refine ⟨_, rfl, _, _, _, _, _, rfl, .ty _, .base (.int _), k_ii, true, rfl, iteT ⟨_, rfl, _, _, _, _, _, rfl, .ty _, .base (.int _), k_ib, false, rfl, true, rfl, iteT ⟨_, rfl, _, rfl, lo, n, rfl, rfl, _, rfl, ?_⟩⟩⟩
  refine ite2 (fun a => ⟨_, rfl, _, _, rfl, rfl, ?_⟩) fun a => ?_
  · have a : lo ≤ n := of_decide_eq_true a
    simpa [a] using h
  · have a : ¬ lo ≤ n := fun z => a (decide_eq_true z)
    simpa [a] using h
def sp_is_word : Sp := fun vs H Q _ => ∃ n : Nat, vs = [vn n] ∧ Q (.bl (decide (n ≤ 15))) H
theorem among_dec (n hi : Nat) : decide ((0 : Int) ≤ (n : Int) ∧ (n : Int) ≤ (hi : Int)) = decide (n ≤ hi) := decide_eq_decide.mpr ⟨fun h => by omega, fun h => by omega⟩
-- slots: 0:thing   level 2
abbrev n_is_word : List Str := ["thing"]
theorem sc_is_word : FnScope n_is_word ["thing"] SL.d_is_word.scope := ⟨rfl, rfl, rfl, by decide +kernel, rfl, by decide +kernel, by decide +kernel⟩
theorem ok_is_word (T : Tx K mg w) : Cal P w K mg base "is_word" 2 ["thing"] sp_is_word := by
  refine Cal.of T.D_is_word T.g_is_word sc_is_word (fun _ _ _ _ _ _ us hl => match us, hl with | [_], _ => rfl) (fun vs H Q E h => ?_) fun f cdv A outer s H vs Q E hr h => ?_
  · obtain ⟨n, rfl, _⟩ := h
    rfl
  obtain ⟨n, rfl, h⟩ := h
  refine ⟨_, (pss_one (ps_ret (pe_fn (ok_is_among T) (hr.mono (by decide)) (by rfl) (pa_cons (pv 0) (pa_cons pe_int (pa_cons (pe_ci (by rfl) T.i_MOST_WORD) pa_nil)))))), ?_⟩
  refine ⟨_, rfl, n, 0, ((15 : Nat) : Int), rfl, ?_⟩
  rw [among_dec]
  exact h
def sp_is_box : Sp := fun vs H Q _ => ∃ n : Nat, vs = [vn n] ∧ Q (.bl (decide (n < 32))) H
-- slots: 0:thing   level 2
abbrev n_is_box : List Str := ["thing"]
theorem sc_is_box : FnScope n_is_box ["thing"] SL.d_is_box.scope := ⟨rfl, rfl, rfl, by decide +kernel, rfl, by decide +kernel, by decide +kernel⟩
theorem ok_is_box (T : Tx K mg w) : Cal P w K mg base "is_box" 2 ["thing"] sp_is_box := by
  refine Cal.of T.D_is_box T.g_is_box sc_is_box (fun _ _ _ _ _ _ us hl => match us, hl with | [_], _ => rfl) (fun vs H Q E h => ?_) fun f cdv A outer s H vs Q E hr h => ?_
  · obtain ⟨n, rfl, _⟩ := h
    rfl
  obtain ⟨n, rfl, h⟩ := h
  refine ⟨_, (pss_one (ps_ret (pe_fn (ok_is_among T) (hr.mono (by decide)) (by rfl) (pa_cons (pv 0) (pa_cons pe_int (pa_cons (pe_op op_sub (pe_ci (by rfl) T.i_MANY_BOXES) pe_int) pa_nil)))))), ?_⟩
  refine ⟨_, rfl, _, _, rfl, rfl, n, 0, ((31 : Nat) : Int), rfl, ?_⟩
  rw [among_dec, show decide (n ≤ 31) = decide (n < 32) from decide_eq_decide.mpr (by omega)]
  exact h
/-! is_row -/
def great : List (Str × V) := [("s", .int 31), ("r", .int 31), ("n", .int 15), ("k", .int 7), ("p", .int 399)]
theorem row_form (r : Row) : ([("set", .str "sn"), ("copy", .str "sr"), ("add", .str "srr"), ("less", .str "srr"), ("same", .str "srr"), ("mix", .str "srr"), ("pick", .str "srrr"), ("ask", .str "sk"), ("take", .str "sr"), ("tell", .str "r"), ("put", .str "rr"), ("go", .str "p"), ("if", .str "rp"), ("end", .str ""), ("hold", .str "rr"), ("tell2", .str "rr"), ("put2", .str "rrrr"), ("if2", .str "rrp"), ("tell3", .str "rrr"), ("put3", .str "rrrrrr"), ("if3", .str "rrrp"), ("keep", .str "")] : List (Str × V)).lookup r.word = some (.str r.form) := by
  cases r with
  | bin o => cases o <;> rfl
  | _ => rfl
theorem row_len (r : Row) : r.form.cps.size = r.parts.length := by cases r <;> rfl
theorem row_few (r : Row) : r.parts.length ≤ 4 := by cases r <;> simp [Row.parts]
theorem row_word (r : Row) : r.word ∈ (["set", "copy", "add", "less", "same", "mix", "pick", "ask", "take", "tell", "put", "go", "if", "end", "hold", "tell2", "put2", "if2", "tell3", "put3", "if3", "keep"] : List Str) := by
  cases r with
  | bin o => cases o <;> simp [Row.word, Op.str]
  | _ => simp [Row.word]
/-- a part is not greater than what its letter lets -/
theorem row_great {r : Row} {n : Nat} (ok : r.Ok n) {i c m : Nat} (h1 : r.form.cps[i]? = some c) (h2 : r.parts[i]? = some m) : ∃ g : Nat, great.lookup (⟨#[c]⟩ : Str) = some (.int g) ∧ m ≤ g := by
  have step : ∀ {l ms : List Nat} {i c m : Nat}, l[i]? = some c → ms[i]? = some m → (c, m) ∈ l.zip ms := by
    intro l ms i c m a b
    refine List.mem_of_getElem? (i := i) ?_
    rw [List.getElem?_zip_eq_some]
    exact ⟨a, b⟩
  have hm := step (l := r.form.cps.toList) (by simpa using h1) h2
  have gs : great.lookup (⟨#[115]⟩ : Str) = some (.int (31 : Nat)) := rfl
  have gr : great.lookup (⟨#[114]⟩ : Str) = some (.int (31 : Nat)) := rfl
  have gn : great.lookup (⟨#[110]⟩ : Str) = some (.int (15 : Nat)) := rfl
  have gk : great.lookup (⟨#[107]⟩ : Str) = some (.int (7 : Nat)) := rfl
  have gp : great.lookup (⟨#[112]⟩ : Str) = some (.int (399 : Nat)) := rfl
  have es : ∀ {x : Nat × Nat} {k v : Nat}, x = (k, v) → x.1 = k ∧ x.2 = v := fun e => by rw [e]; exact ⟨rfl, rfl⟩
  have fin : ∀ {a b g : Nat}, (c, m) = (a, b) → great.lookup (⟨#[a]⟩ : Str) = some (.int (g : Nat)) → b ≤ g → ∃ g : Nat, great.lookup (⟨#[c]⟩ : Str) = some (.int g) ∧ m ≤ g := by
    intro a b g e l hb
    cases e
    exact ⟨g, l, hb⟩
  cases r with
  | set b n => 
    rcases (by simpa using (show (c, m) ∈ [(115, b), (110, n)] from hm) : (c, m) = (115, b) ∨ (c, m) = (110, n)) with e | e
    · exact fin e gs (by have := ok.1; omega)
    · exact fin e gn (by have := ok.2; omega)
  | ask b n => 
    rcases (by simpa using (show (c, m) ∈ [(115, b), (107, n)] from hm) : (c, m) = (115, b) ∨ (c, m) = (107, n)) with e | e
    · exact fin e gs (by have := ok.1; omega)
    · exact fin e gk (by have := ok.2; omega)
  | copy b n => 
    rcases (by simpa using (show (c, m) ∈ [(115, b), (114, n)] from hm) : (c, m) = (115, b) ∨ (c, m) = (114, n)) with e | e
    · exact fin e gs (by have := ok.1; omega)
    · exact fin e gr (by have := ok.2; omega)
  | take b n => 
    rcases (by simpa using (show (c, m) ∈ [(115, b), (114, n)] from hm) : (c, m) = (115, b) ∨ (c, m) = (114, n)) with e | e
    · exact fin e gs (by have := ok.1; omega)
    · exact fin e gr (by have := ok.2; omega)
  | bin o a b d =>
    obtain ⟨k1, k2, k3⟩ := ok
    rcases (by simpa using (show (c, m) ∈ [(115, a), (114, b), (114, d)] from hm) : (c, m) = (115, a) ∨ (c, m) = (114, b) ∨ (c, m) = (114, d)) with e | e | e
    · exact fin e gs (by omega)
    · exact fin e gr (by omega)
    · exact fin e gr (by omega)
  | pick a b d f =>
    obtain ⟨k1, k2, k3, k4⟩ := ok
    rcases (by simpa using (show (c, m) ∈ [(115, a), (114, b), (114, d), (114, f)] from hm) : (c, m) = (115, a) ∨ (c, m) = (114, b) ∨ (c, m) = (114, d) ∨ (c, m) = (114, f)) with e | e | e | e
    · exact fin e gs (by omega)
    · exact fin e gr (by omega)
    · exact fin e gr (by omega)
    · exact fin e gr (by omega)
  | hold a b =>
    obtain ⟨k1, k2⟩ := ok
    rcases (by simpa using (show (c, m) ∈ [(114, a), (114, b)] from hm) : (c, m) = (114, a) ∨ (c, m) = (114, b)) with e | e
    · exact fin e gr (by omega)
    · exact fin e gr (by omega)
  | tell2 a b =>
    obtain ⟨k1, k2⟩ := ok
    rcases (by simpa using (show (c, m) ∈ [(114, a), (114, b)] from hm) : (c, m) = (114, a) ∨ (c, m) = (114, b)) with e | e
    · exact fin e gr (by omega)
    · exact fin e gr (by omega)
  | put2 a b d f =>
    obtain ⟨k1, k2, k3, k4⟩ := ok
    rcases (by simpa using (show (c, m) ∈ [(114, a), (114, b), (114, d), (114, f)] from hm) : (c, m) = (114, a) ∨ (c, m) = (114, b) ∨ (c, m) = (114, d) ∨ (c, m) = (114, f)) with e | e | e | e
    · exact fin e gr (by omega)
    · exact fin e gr (by omega)
    · exact fin e gr (by omega)
    · exact fin e gr (by omega)
  | if2 a b t =>
    obtain ⟨k1, k2, k3, k4⟩ := ok
    rcases (by simpa using (show (c, m) ∈ [(114, a), (114, b), (112, t)] from hm) : (c, m) = (114, a) ∨ (c, m) = (114, b) ∨ (c, m) = (112, t)) with e | e | e
    · exact fin e gr (by omega)
    · exact fin e gr (by omega)
    · exact fin e gp (by omega)
  | go t =>
    obtain ⟨k1, k2⟩ := ok
    have e := (by simpa using (show (c, m) ∈ [(112, t)] from hm) : (c, m) = (112, t))
    exact fin e gp (by omega)
  | fin => exact absurd (show (c, m) ∈ [] from hm) (by simp)
  | keep => exact absurd (show (c, m) ∈ [] from hm) (by simp)
def sp_is_row : Sp := fun vs H Q _ => ∃ (a : Addr) (r : Row) (n : Nat), vs = [.ref a] ∧ (RowAt H a r ∧ r.Ok n) ∧ Rv (.bl true) H Q
theorem row_lay (r : Row) : PyData.canLay0 (.str r.word) = true := by
  have h : (["set", "copy", "add", "less", "same", "mix", "pick", "ask", "take", "tell", "put", "go", "if", "end", "hold", "tell2", "put2", "if2", "tell3", "put3", "if3", "keep"] : List Str).all (fun z => PyData.canLay0 (.str z)) = true := by decide +kernel
  exact List.all_eq_true.mp h _ (row_word r)
theorem row_data {K : PySem.W.Frag} {H : Hp} {a : Addr} {r : Row} (h : RowAt H a r) : Dp K H (.ref a) (.tuple (.str r.word :: pd r.parts)) := .tup (.of h) (.cons (.str _) (dp_all _))
theorem row_shaped (r : Row) : SeqAt.shaped (.tuple (.str r.word :: pd r.parts)) = true := by
  unfold SeqAt.shaped
  rw [show PyData.canLay0 (.tuple (.str r.word :: pd r.parts)) = (PyData.canLay0 (.str r.word) && PyData.canLayAll0 (pd r.parts)) from rfl, row_lay, lay_pd, Bool.true_and, Bool.true_and]
  refine decide_eq_true ?_
  show max (PyData.depth (.str r.word)) (PyData.depthAll (pd r.parts)) + 1 ≤ 64
  have := depth_pd r.parts
  have h2 : PyData.depth (.str r.word) ≤ 1 := by simp [PyData.depth]
  omega
-- slots: 0:thing 1:form 2:sort 3:part   level 2
abbrev n_is_row : List Str := ["thing", "form", "sort", "part"]
theorem sc_is_row : FnScope n_is_row ["thing"] SL.d_is_row.scope := ⟨rfl, rfl, rfl, by decide +kernel, rfl, by decide +kernel, by decide +kernel⟩
theorem ok_is_row (T : Tx K mg w) : Cal P w K mg base "is_row" 2 ["thing"] sp_is_row := by
  refine Cal.of T.D_is_row T.g_is_row sc_is_row (fun _ _ _ _ _ _ us hl => match us, hl with | [_], _ => rfl) (fun vs H Q E h => ?_) fun f cdv A outer s H vs Q E hr h => ?_
  · obtain ⟨a, r, n, rfl, _⟩ := h
    rfl
  obtain ⟨a, r, n, rfl, hh, h⟩ := h
  refine ⟨_, (pss_cons (ps_if (PW.pt (pw_or (pt_not (pt_val (pe_callB call_isi (by rfl) T.f_isinstance (by decide +kernel) (pa_cons (pv 0) (pa_cons (pe_bltn (v := .ty "tuple") (by rfl) T.f_tuple (by decide +kernel) rfl) pa_nil))))) (pw_or (pt_cmpR (op_eqD hr.units) (pv 0) (pe_tup pa_nil) (nomark _)) (pw_or (pt_not (pt_val (pe_callB call_isi (by rfl) T.f_isinstance (by decide +kernel) (pa_cons (pe_ix ix_tup (pv 0) pe_int (fun _ _ => rfl)) (pa_cons (pe_bltn (v := .ty "str") (by rfl) T.f_str (by decide +kernel) rfl) pa_nil))))) (pw_or1 (pt_cmpR (op_notInK T.k_FORMS T.v_FORMS T.w_FORMS rfl) (pe_ix ix_tup (pv 0) pe_int (fun _ _ => rfl)) (pe_ca (by rfl) T.g_FORMS) (by rfl))))))) (pss_one (ps_ret pe_bl)) pss_nil)
    (pss_cons (ps_set (i := 1) sc_is_row.nd rfl (Or.inl rfl) (pe_ix (ix_kd T.k_FORMS T.v_FORMS) (pe_ca (by rfl) T.g_FORMS) (pe_ix ix_tup (pv 0) pe_int (fun _ _ => rfl)) (fun _ _ => rfl)))
    (pss_cons (ps_if (pt_cmpR op_ne (pe_callB call_len_seq (by rfl) T.f_len PySem.boot_len (pa_cons (pv 0) pa_nil)) (pe_op op_add pe_int (pe_callB call_len (by rfl) T.f_len PySem.boot_len (pa_cons (pv 1) pa_nil))) (nomark _)) (pss_one (ps_ret pe_bl)) pss_nil)
    (pss_one (ps_ret (pe_callB (cr_all rfl) (by rfl) T.f_all (by decide +kernel) (pa_cons (pe_lc (own := [("sort", 2), ("part", 3)]) rfl sc_is_row.nd (pi_zipS (by rfl) T.f_zip (pa_cons (pv 1) (pa_cons (pe_slice sl_tupA (pv 0) (po_some pe_int) po_none) pa_nil))) (blkOk_by (own := [("sort", 2), ("part", 3)]) (N := n_is_row) (sc := SL.d_is_row.scope) (by decide +kernel)) (fun _ _ _ _ _ => (pg_tupK (n := 2) rfl rfl (pgs_cons (pg_name (i := 2) sc_is_row.nd rfl (Or.inl rfl)) (pgs_cons (pg_name (i := 3) sc_is_row.nd rfl (Or.inl rfl)) pgs_nil)))) (fun _ _ _ _ _ => pts_nil) (fun _ _ _ _ _ => (pe_fn (ok_is_among (P := P) T) (hr.mono (by decide)) (by rfl) (pa_cons (pv 3) (pa_cons pe_int (pa_cons (pe_ix (ix_kd T.k_GREATEST T.v_GREATEST) (pe_ca (by rfl) T.g_GREATEST) (pv 2) (fun _ _ => rfl)) pa_nil)))))) pa_nil))))))), ?_⟩
  obtain ⟨hR, ok⟩ := hh
  have hR' : H a = some (.tup (.str r.word :: vns r.parts)) := hR
  refine ⟨_, rfl, _, _, _, _, _, rfl, .ty _, .base (.tup hR), k_tt, true, rfl, iteF ⟨_, rfl, z0, fun e ne => ?_⟩⟩
  have sa := same_new (o := .tup []) ne
  have hR1 := hR.mono (.of sa)
  refine ⟨_, _, row_data hR1, dp_nilT upd_same, row_shaped r, shaped_tup [], _, rfl, iteF ?_⟩
  refine ⟨_, rfl, _, _, _, _, rfl, rfl, .of hR1, row_at0 r, _, _, _, _, _, rfl, .ty _, .base (.str _), k_ss, true, rfl, iteF ?_⟩
  refine ⟨_, rfl, _, _, _, _, rfl, rfl, .of hR1, row_at0 r, _, rfl, rfl, _, rfl, ?_⟩
  rw [decide_eq_true (row_word r)]
  refine iteF ?_
  refine ⟨_, rfl, _, _, _, _, rfl, rfl, .of hR1, row_at0 r, _, _, rfl, rfl, row_form r, ?_⟩
  refine ⟨_, rfl, _, _, rfl, len_tup hR1, _, rfl, _, _, rfl, ⟨by rw [show r.form.length = r.parts.length from row_len r, sizeLine_eq]; have := row_few r; omega, rfl⟩, _, _, rfl, rfl, rfl, _, rfl, ?_⟩
  refine iteNS (congrArg V.int ?_) ?_
  · rw [show r.form.length = r.parts.length from row_len r]
    show ((vns r.parts).length + 1 : Nat) = (1 + (r.parts.length : Int))
    rw [len_vns]
    omega
  refine ⟨_, rfl, _, rfl, 1, rfl, a, r.tup, rfl, .of hR1, not_whole (Nat.succ_pos _) _, fun _ p np => ?_⟩
  rw [show cutV r.tup (some 1) none = vns r.parts from cut1 _ _]
  have sb := same_upd (o := .tup (vns r.parts)) sa np
  refine ⟨_, _, _, rfl, .of upd_same, fun D nD => ?_⟩
  refine lc_pure (walk_zipS (n := r.parts.length) (row_len r) (len_vns _)) r.parts (fun _ => [.bl true]) rfl (by have := row_few r; omega) (fun _ => Nat.le_refl _) nD (fun H2 s2 => .of (s2 _ _ upd_same)) same_ypair ?_ ?_
  · rintro i m x H2 H3 Kq N hi s2 ⟨t, x1, x2, rfl, nt, rfl, h1, h2⟩ hK hN
    have h2 : (vns r.parts)[i]? = some x2 := h2
    have h1 : r.form.cps[i]?.map (fun c => V.str ⟨#[c]⟩) = some x1 := h1
    rw [get_vns hi] at h2
    cases h2
    cases hc : r.form.cps[i]? with
    | none => rw [hc] at h1; cases h1
    | some c =>
      rw [hc] at h1
      cases h1
      obtain ⟨g, hg, hm⟩ := row_great ok hc hi
      refine g2_go upd_same ⟨rfl, _, rfl, _, rfl, _, _, rfl, rfl, hg, (m : Int), 0, (g : Int), rfl, hK _ _ (Same.refl _) ?_⟩
      rw [among_dec, decide_eq_true hm]
  · intro H2 s2 hD
    refine ⟨_, r.parts.map fun _ => true, rfl, .of ?_, ?_⟩
    · rw [hD, flat_one, List.map_map]
      rfl
    · rw [show (r.parts.map fun _ => true).all id = true by simp]
      exact h _ (sb.trans s2)
/-! parts_of and what rests on it -/
def Row.partsOf (r : Row) (c : Str) : List Nat := ((r.form.cps.toList.zip r.parts).filter fun q => decide ((⟨#[q.1]⟩ : Str) = c)).map (·.2)
theorem parts_r (r : Row) : r.partsOf "r" = r.reads := by cases r <;> rfl
theorem parts_s (r : Row) : r.partsOf "s" = r.sets.toList := by cases r <;> rfl
theorem parts_p (r : Row) : r.partsOf "p" = r.leads.toList := by cases r <;> rfl
def sp_parts_of : Sp := fun vs H Q _ => ∃ (a : Addr) (r : Row) (c : Str), vs = [.ref a, .str c] ∧ RowAt H a r ∧ Rt (vns (r.partsOf c)) H Q
-- slots: 0:row 1:sort 2:own 3:part   level 1
abbrev n_parts_of : List Str := ["row", "sort", "own", "part"]
theorem sc_parts_of : FnScope n_parts_of ["row", "sort"] SL.d_parts_of.scope := ⟨rfl, rfl, rfl, by decide +kernel, rfl, by decide +kernel, by decide +kernel⟩
theorem ok_parts_of (T : Tx K mg w) : Cal P w K mg base "parts_of" 1 ["row", "sort"] sp_parts_of := by
  refine Cal.of T.D_parts_of T.g_parts_of sc_parts_of (fun _ _ _ _ _ _ us hl => match us, hl with | [_, _], _ => rfl) (fun vs H Q E h => ?_) fun f cdv A outer s H vs Q E hr h => ?_
  · obtain ⟨a, r, c, rfl, _⟩ := h
    rfl
  obtain ⟨a, r, c, rfl, hR, h⟩ := h
  refine ⟨_, (pss_one (ps_ret (pe_callTy call_tuple_of (by rfl) T.f_tuple (by decide +kernel) (pa_cons (pe_lc (own := [("own", 2), ("part", 3)]) rfl sc_parts_of.nd (pi_zipS (by rfl) T.f_zip (pa_cons (pe_ix (ix_kd T.k_FORMS T.v_FORMS) (pe_ca (by rfl) T.g_FORMS) (pe_ix ix_tup (pv 0) pe_int (fun _ _ => rfl)) (fun _ _ => rfl)) (pa_cons (pe_slice sl_tupA (pv 0) (po_some pe_int) po_none) pa_nil))) (blkOk_by (own := [("own", 2), ("part", 3)]) (N := n_parts_of) (sc := SL.d_parts_of.scope) (by decide +kernel)) (fun _ _ _ _ _ => (pg_tupK (n := 2) rfl rfl (pgs_cons (pg_name (i := 2) sc_parts_of.nd rfl (Or.inl rfl)) (pgs_cons (pg_name (i := 3) sc_parts_of.nd rfl (Or.inl rfl)) pgs_nil)))) (fun _ _ _ _ _ => (pts_one (pt_cmpR op_eq (pv 2) (pv 1) (nomark _)))) (fun _ _ _ _ _ => (pv 3))) pa_nil)))), ?_⟩
  refine ⟨_, rfl, _, _, _, _, rfl, rfl, .of hR, row_at0 r, _, _, rfl, rfl, row_form r, _, rfl, 1, rfl, a, r.tup, rfl, .of hR, not_whole (Nat.succ_pos _) _, fun _ p np => ?_⟩
  rw [show cutV r.tup (some 1) none = vns r.parts from cut1 _ _]
  have sb := same_new (o := .tup (vns r.parts)) np
  have hl : (r.form.cps.toList.zip r.parts).length = r.parts.length := by
    rw [List.length_zip, Array.length_toList, row_len, Nat.min_self]
  refine ⟨_, _, _, rfl, .of upd_same, fun D nD => ?_⟩
  refine lc_pure (walk_zipS (n := r.parts.length) (row_len r) (len_vns _)) (r.form.cps.toList.zip r.parts) (fun q => if decide ((⟨#[q.1]⟩ : Str) = c) = true then [vn q.2] else []) hl.symm (by have := row_few r; omega)
    (fun q => by by_cases e : decide ((⟨#[q.1]⟩ : Str) = c) = true <;> simp [e]) nD (fun H2 s2 => .of (s2 _ _ upd_same)) same_ypair ?_ ?_
  · rintro i ⟨d, m⟩ x H2 H3 Kq N hi s2 ⟨t, x1, x2, rfl, nt, rfl, h1, h2⟩ hK hN
    obtain ⟨i1, i2⟩ := List.getElem?_zip_eq_some.mp hi
    have h2 : (vns r.parts)[i]? = some x2 := h2
    have h1 : r.form.cps[i]?.map (fun c => V.str ⟨#[c]⟩) = some x1 := h1
    rw [get_vns i2] at h2
    cases h2
    rw [show r.form.cps[i]? = some d by simpa using i1] at h1
    cases h1
    refine g2_go upd_same ⟨rfl, _, rfl, _, rfl, rfl, _, rfl, ?_⟩
    by_cases e : (⟨#[d]⟩ : Str) = c
    · have e2 : decide (V.str (⟨#[d]⟩ : Str) = V.str c) = true := decide_eq_true (by rw [e])
      refine ite2 (fun _ => ⟨_, rfl, hK _ _ (Same.refl _) (by simp [e])⟩) fun z => absurd e2 z
    · have e2 : ¬ decide (V.str (⟨#[d]⟩ : Str) = V.str c) = true := fun z => e (V.str.inj (of_decide_eq_true z))
      refine ite2 (fun z => absurd z e2) fun _ => hN _ (Same.refl _) (by simp [e])
  · intro H2 s2 hD
    rw [flat_if] at hD
    refine ⟨_, _, rfl, .inl ⟨.of hD, fun q nq => h q _ ((sb.trans s2).free nq) (same_upd (sb.trans s2) nq) ?_⟩⟩
    rw [upd_same]
    unfold Row.partsOf vns
    rw [List.map_map]
    rfl
def sp_reads : Sp := fun vs H Q _ => ∃ (a : Addr) (r : Row), vs = [.ref a] ∧ RowAt H a r ∧ Rt (vns r.reads) H Q
-- slots: 0:row   level 2
abbrev n_reads : List Str := ["row"]
theorem sc_reads : FnScope n_reads ["row"] SL.d_reads.scope := ⟨rfl, rfl, rfl, by decide +kernel, rfl, by decide +kernel, by decide +kernel⟩
theorem ok_reads (T : Tx K mg w) : Cal P w K mg base "reads" 2 ["row"] sp_reads := by
  refine Cal.of T.D_reads T.g_reads sc_reads (fun _ _ _ _ _ _ us hl => match us, hl with | [_], _ => rfl) (fun vs H Q E h => ?_) fun f cdv A outer s H vs Q E hr h => ?_
  · obtain ⟨a, r, rfl, _⟩ := h
    rfl
  obtain ⟨a, r, rfl, hR, h⟩ := h
  refine ⟨_, (pss_one (ps_ret (pe_fn (ok_parts_of T) (hr.mono (by decide)) (by rfl) (pa_cons (pv 0) (pa_cons (pe_cs (by rfl) T.t_READ_BOX) pa_nil))))), ?_⟩
  refine ⟨_, rfl, a, r, "r", rfl, hR, ?_⟩
  rw [parts_r]
  exact h
def sp_sets : Sp := fun vs H Q _ => ∃ (a : Addr) (r : Row), vs = [.ref a] ∧ RowAt H a r ∧ Rv (oV r.sets) H Q
-- slots: 0:row 1:found   level 2
abbrev n_sets : List Str := ["row", "found"]
theorem sc_sets : FnScope n_sets ["row"] SL.d_sets.scope := ⟨rfl, rfl, rfl, by decide +kernel, rfl, by decide +kernel, by decide +kernel⟩
theorem ok_sets (T : Tx K mg w) : Cal P w K mg base "sets" 2 ["row"] sp_sets := by
  refine Cal.of T.D_sets T.g_sets sc_sets (fun _ _ _ _ _ _ us hl => match us, hl with | [_], _ => rfl) (fun vs H Q E h => ?_) fun f cdv A outer s H vs Q E hr h => ?_
  · obtain ⟨a, r, rfl, _⟩ := h
    rfl
  obtain ⟨a, r, rfl, hR, h⟩ := h
  refine ⟨_, (pss_cons (ps_set (i := 1) sc_sets.nd rfl (Or.inl rfl) (pe_fn (ok_parts_of T) (hr.mono (by decide)) (by rfl) (pa_cons (pv 0) (pa_cons (pe_cs (by rfl) T.t_SET_BOX) pa_nil))))
    (pss_one (ps_ret (pe_ifExp (pt_cmpR (op_neD hr.units) (pv 1) (pe_tup pa_nil) (nomark _)) (pe_ix ix_tup (pv 1) pe_int (fun _ _ => rfl)) pe_non)))), ?_⟩
  refine ⟨_, rfl, a, r, "s", rfl, hR, fun p H1 np s1 hp => ?_⟩
  rw [parts_s] at hp
  refine ⟨_, rfl, z0, fun e ne => ⟨_, _, dp_tup (same_new ne _ _ hp), dp_nilT upd_same, shaped_tup _, shaped_tup [], _, rfl, ?_⟩⟩
  rw [eqv_tup]
  cases q : r.sets with
  | none => 
    rw [q] at h hp
    exact h _ (same_upd s1 ne)
  | some b =>
    rw [q] at h hp
    exact ⟨_, rfl, _, _, _, _, rfl, rfl, .of (same_new ne _ _ hp), atI_nat (j := 0) rfl, h _ (same_upd s1 ne)⟩
def sp_leads : Sp := fun vs H Q _ => ∃ (a : Addr) (r : Row), vs = [.ref a] ∧ RowAt H a r ∧ Rv (oV r.leads) H Q
-- slots: 0:row 1:found   level 2
abbrev n_leads : List Str := ["row", "found"]
theorem sc_leads : FnScope n_leads ["row"] SL.d_leads.scope := ⟨rfl, rfl, rfl, by decide +kernel, rfl, by decide +kernel, by decide +kernel⟩
theorem ok_leads (T : Tx K mg w) : Cal P w K mg base "leads" 2 ["row"] sp_leads := by
  refine Cal.of T.D_leads T.g_leads sc_leads (fun _ _ _ _ _ _ us hl => match us, hl with | [_], _ => rfl) (fun vs H Q E h => ?_) fun f cdv A outer s H vs Q E hr h => ?_
  · obtain ⟨a, r, rfl, _⟩ := h
    rfl
  obtain ⟨a, r, rfl, hR, h⟩ := h
  refine ⟨_, (pss_cons (ps_set (i := 1) sc_leads.nd rfl (Or.inl rfl) (pe_fn (ok_parts_of T) (hr.mono (by decide)) (by rfl) (pa_cons (pv 0) (pa_cons (pe_cs (by rfl) T.t_A_PLACE) pa_nil))))
    (pss_one (ps_ret (pe_ifExp (pt_cmpR (op_neD hr.units) (pv 1) (pe_tup pa_nil) (nomark _)) (pe_ix ix_tup (pv 1) pe_int (fun _ _ => rfl)) pe_non)))), ?_⟩
  refine ⟨_, rfl, a, r, "p", rfl, hR, fun p H1 np s1 hp => ?_⟩
  rw [parts_p] at hp
  refine ⟨_, rfl, z0, fun e ne => ⟨_, _, dp_tup (same_new ne _ _ hp), dp_nilT upd_same, shaped_tup _, shaped_tup [], _, rfl, ?_⟩⟩
  rw [eqv_tup]
  cases q : r.leads with
  | none => 
    rw [q] at h hp
    exact h _ (same_upd s1 ne)
  | some b =>
    rw [q] at h hp
    exact ⟨_, rfl, _, _, _, _, rfl, rfl, .of (same_new ne _ _ hp), atI_nat (j := 0) rfl, h _ (same_upd s1 ne)⟩
theorem in_ways (r : Row) : inV (.str r.word) [.str "go", .str "if", .str "if2", .str "if3", .str "end"] = r.way := by
  cases r with
  | bin o => cases o <;> rfl
  | _ => rfl
theorem in_last (r : Row) : inV (.str r.word) [.str "go", .str "end"] = r.last := by
  cases r with
  | bin o => cases o <;> rfl
  | _ => rfl
def sp_is_way : Sp := fun vs H Q _ => ∃ (a : Addr) (r : Row), vs = [.ref a] ∧ RowAt H a r ∧ Q (.bl r.way) H
-- slots: 0:row   level 1
abbrev n_is_way : List Str := ["row"]
theorem sc_is_way : FnScope n_is_way ["row"] SL.d_is_way.scope := ⟨rfl, rfl, rfl, by decide +kernel, rfl, by decide +kernel, by decide +kernel⟩
theorem ok_is_way (T : Tx K mg w) : Cal P w K mg base "is_way" 1 ["row"] sp_is_way := by
  refine Cal.of T.D_is_way T.g_is_way sc_is_way (fun _ _ _ _ _ _ us hl => match us, hl with | [_], _ => rfl) (fun vs H Q E h => ?_) fun f cdv A outer s H vs Q E hr h => ?_
  · obtain ⟨a, r, rfl, _⟩ := h
    rfl
  obtain ⟨a, r, rfl, hR, h⟩ := h
  refine ⟨_, (pss_one (ps_ret (pe_cmpR op_in_seq (pe_ix ix_tup (pv 0) pe_int (fun _ _ => rfl)) (pe_ca (by rfl) T.g_WAYS) (by rfl)))), ?_⟩
  refine ⟨_, rfl, _, _, _, _, rfl, rfl, .of hR, row_at0 r, _, _, rfl, .inr (T.v_WAYS _), rfl, rfl, ?_⟩
  show Q (.bl (inV (.str r.word) [.str "go", .str "if", .str "if2", .str "if3", .str "end"])) H
  rw [in_ways]
  exact h
def sp_need_program : Sp := fun vs H Q _ => ∃ (a : Addr) (p : Prog), vs = [.ref a] ∧ (ProgAt H a p ∧ p.Ok) ∧ Rv .non H Q
theorem row_lead {r : Row} {n t : Nat} (ok : r.Ok n) (h : r.leads = some t) : t < n := by
  cases r <;> simp [Row.leads] at h
  · subst h
    exact ok.2.2.1
  · subst h
    exact ok.1
-- slots: 0:thing 1:number 2:row   level 3
abbrev n_need_program : List Str := ["thing", "number", "row"]
theorem sc_need_program : FnScope n_need_program ["thing"] SL.d_need_program.scope := ⟨rfl, rfl, rfl, by decide +kernel, rfl, by decide +kernel, by decide +kernel⟩
theorem ok_need_program (T : Tx K mg w) : Cal P w K mg base "need_program" 3 ["thing"] sp_need_program := by
  refine Cal.of T.D_need_program T.g_need_program sc_need_program (fun _ _ _ _ _ _ us hl => match us, hl with | [_], _ => rfl) (fun vs H Q E h => ?_) fun f cdv A outer s H vs Q E hr h => ?_
  · obtain ⟨a, p, rfl, _⟩ := h
    rfl
  obtain ⟨a, p, rfl, hh, h⟩ := h
  refine ⟨_, (pss_cons (ps_if (PW.pt (pw_or (pt_not (pt_val (pe_callB call_isi (by rfl) T.f_isinstance (by decide +kernel) (pa_cons (pv 0) (pa_cons (pe_bltn (v := .ty "tuple") (by rfl) T.f_tuple (by decide +kernel) rfl) pa_nil))))) (pw_or1 (pt_not (pt_chain op_le op_le pe_int (pe_callB call_len_seq (by rfl) T.f_len PySem.boot_len (pa_cons (pv 0) pa_nil)) (pe_ci (by rfl) T.i_MOST_ROWS)))))) (pss_one ps_never) pss_nil)
    (pss_cons (ps_for PassesOwn.never rfl (pi_enumT (by rfl) T.f_enumerate (pa_cons (pv 0) pa_nil)) (pg_tup rfl (pgs_cons (pg_name (i := 1) sc_need_program.nd rfl (Or.inl rfl)) (pgs_cons (pg_name (i := 2) sc_need_program.nd rfl (Or.inl rfl)) pgs_nil)))
    (pss_one (ps_if (PW.pt (pw_or (pt_not (pt_val (pe_fn (ok_is_row T) (hr.mono (by decide)) (by rfl) (pa_cons (pv 2) pa_nil)))) (pw_or1 (PW.pt (pw_and (pt_cmpR op_notN (pe_fn (ok_leads T) (hr.mono (by decide)) (by rfl) (pa_cons (pv 2) pa_nil)) pe_non (nomark _)) (pw_and1 (pt_cmpR op_ge (pe_fn (ok_leads T) (hr.mono (by decide)) (by rfl) (pa_cons (pv 2) pa_nil)) (pe_callB call_len_seq (by rfl) T.f_len PySem.boot_len (pa_cons (pv 0) pa_nil)) (nomark _)))))))) (pss_one ps_never) pss_nil)))
    (pss_one (ps_if (pt_cmpR op_notIn_seq (pe_ix ix_tup (pe_ix ix_tup (pv 0) (pe_un un_neg pe_int) (fun _ _ => rfl)) pe_int (fun _ _ => rfl)) (pe_ca (by rfl) T.g_LAST_ONES) (by rfl)) (pss_one ps_never) pss_nil)))), ?_⟩
  obtain ⟨⟨rs, hA, hP⟩, ok⟩ := hh
  have hl : (rs.map V.ref).length = p.length := by rw [List.length_map]; exact paired_len hP
  have hpos := ok.pos
  have hlen := ok.len
  refine ⟨_, rfl, _, _, _, _, _, rfl, .ty _, .base (.tup hA), k_tt, true, rfl, _, rfl, _, _, rfl, len_tup hA, 1, _, rfl, rfl, _, rfl, ?_⟩
  rw [decide_eq_true (show (1 : Int) ≤ ((rs.map V.ref).length : Int) by omega)]
  refine ⟨_, _, rfl, rfl, _, rfl, ?_⟩
  rw [decide_eq_true (show ((rs.map V.ref).length : Int) ≤ 400 by omega)]
  refine ⟨_, rfl, a, _, rfl, .of hA, ?_⟩
  refine for_it walk_enumT (fun i σ H2 => ∃ v1 v2, σ = [some (.ref a), v1, v2] ∧ Same H H2) ⟨none, none, rfl, Same.refl _⟩ (fun i σ H2 _ z => by obtain ⟨_, _, _, s2⟩ := z; exact .of (s2 _ _ hA)) ?_ ?_
  · rintro i x σ H2 H3 hi ⟨v1, v2, rfl, s2⟩ ⟨t, x1, x2, rfl, nt, rfl, h1, h2⟩
    have h2 : (rs.map V.ref)[i]? = some x2 := h2
    cases h1
    have hip : i < p.length := by omega
    obtain ⟨b, hb, hR⟩ := paired_get hP (List.getElem?_eq_getElem hip)
    rw [List.getElem?_map, hb] at h2
    cases h2
    have hok := ok.row _ (List.getElem_mem hip)
    have s3 := same_upd (o := .tup [.int (i : Nat), .ref b]) s2 nt
    have hR3 := hR.mono (.of s3)
    refine g2_go upd_same ⟨_, rfl, b, _, _, rfl, ⟨hR3, hok⟩, fun H4 s4 => ⟨true, rfl, _, rfl, b, _, rfl, hR3.mono (.of s4), fun H5 s5 => ⟨rfl, _, rfl, ?_⟩⟩⟩
    cases q : p[i].leads with
    | none => exact ⟨_, _, rfl, (s3.trans s4).trans s5⟩
    | some m =>
      have hm := row_lead hok q
      refine ⟨_, rfl, b, _, rfl, hR3.mono (.of (s4.trans s5)), fun H6 s6 => ?_⟩
      have s7 := ((s3.trans s4).trans s5).trans s6
      rw [q]
      refine ⟨_, rfl, _, _, rfl, len_tup (s7 _ _ hA), _, _, rfl, rfl, _, rfl, ?_⟩
      rw [decide_eq_false (show ¬ ((m : Int) ≥ ((rs.map V.ref).length : Int)) by omega)]
      exact ⟨_, _, rfl, s7⟩
  · rintro σ H2 ⟨v1, v2, rfl, s2⟩
    have hip : p.length - 1 < p.length := by omega
    obtain ⟨b, hb, hR⟩ := paired_get hP (List.getElem?_eq_getElem hip)
    have e : (rs.map V.ref)[p.length - 1]? = some (.ref b) := by rw [List.getElem?_map, hb]; rfl
    refine ⟨_, rfl, _, rfl, _, _, _, _, rfl, rfl, .of (s2 _ _ hA), at_last e (by omega), _, _, _, _, rfl, rfl, .of (hR.mono (.of s2)), row_at0 _, _, _, rfl, .inr (T.v_LAST_ONES _), rfl, rfl, _, rfl, ?_⟩
    have hla : inV (.str p[p.length - 1].word) [.str "go", .str "end"] = true := by
      rw [in_last]
      have z := ok.last
      unfold Prog.at at z
      rw [List.getD_eq_getElem?_getD, List.getElem?_eq_getElem hip] at z
      exact z
    show if (!inV (.str p[p.length - 1].word) [.str "go", .str "end"]) = true then _ else _
    rw [hla]
    exact h _ s2
end
end SL

/-! text OkBlocks -/
set_option Elab.async false
set_option linter.all false
set_option maxRecDepth 100000
set_option maxHeartbeats 4000000
namespace SL
open PySem PySem.Spec L2
section
variable {P : Program} {w : World} {K : PySem.W.Frag} {mg : Str → Option Value} {base : Heap}
/-! ### strictly rising lists -/
theorem sorted_uniq : ∀ {l m : List Int}, l.Pairwise (· < ·) → m.Pairwise (· < ·) → (∀ k, k ∈ l ↔ k ∈ m) → l = m
  | [], [], _, _, _ => rfl
  | [], b :: m, _, _, h => absurd ((h b).mpr List.mem_cons_self) (by simp)
  | a :: l, [], _, _, h => absurd ((h a).mp List.mem_cons_self) (by simp)
  | a :: l, b :: m, hl, hm, h => by
    obtain ⟨l1, l2⟩ := List.pairwise_cons.mp hl
    obtain ⟨m1, m2⟩ := List.pairwise_cons.mp hm
    have e : a = b := by
      rcases List.mem_cons.mp ((h a).mp List.mem_cons_self) with q | q
      · exact q
      · rcases List.mem_cons.mp ((h b).mpr List.mem_cons_self) with z | z
        · exact z.symm
        · have := m1 a q
          have := l1 b z
          omega
    subst e
    rw [sorted_uniq l2 m2 fun k => ⟨fun hk => ?_, fun hk => ?_⟩]
    · rcases List.mem_cons.mp ((h k).mp (List.mem_cons_of_mem _ hk)) with q | q
      · have := l1 k hk
        omega
      · exact q
    · rcases List.mem_cons.mp ((h k).mpr (List.mem_cons_of_mem _ hk)) with q | q
      · have := m1 k hk
        omega
      · exact q
theorem mem_insS {a x : Nat} : ∀ {l : List Nat}, x ∈ insS a l ↔ x = a ∨ x ∈ l
  | [] => by simp [insS]
  | b :: r => by
    unfold insS
    by_cases h : a < b
    · simp [h]
    · by_cases h2 : a = b
      · subst h2
        simp
      · simp only [h, h2, if_false, List.mem_cons, mem_insS (l := r)]
        exact ⟨fun z => by rcases z with z | z | z <;> simp [z], fun z => by rcases z with z | z | z <;> simp [z]⟩
theorem mem_sset {x : Nat} : ∀ {l : List Nat}, x ∈ sset l ↔ x ∈ l
  | [] => by simp [sset]
  | a :: r => by
    show x ∈ insS a (sset r) ↔ _
    rw [mem_insS, mem_sset (l := r), List.mem_cons]
theorem insS_sorted {a : Nat} : ∀ {l : List Nat}, l.Pairwise (· < ·) → (insS a l).Pairwise (· < ·)
  | [], _ => by simp [insS]
  | b :: r, h => by
    obtain ⟨h1, h2⟩ := List.pairwise_cons.mp h
    unfold insS
    by_cases q : a < b
    · simp only [q, if_true]
      exact List.pairwise_cons.mpr ⟨fun x hx => by
        rcases List.mem_cons.mp hx with e | e
        · omega
        · have := h1 x e
          omega, h⟩
    · by_cases q2 : a = b
      · simp only [q, q2, if_false, if_true]
        simpa [q2] using h
      · simp only [q, q2, if_false]
        refine List.pairwise_cons.mpr ⟨fun x hx => ?_, insS_sorted h2⟩
        rcases mem_insS.mp hx with e | e
        · omega
        · exact h1 x e
theorem sset_sorted : ∀ l : List Nat, (sset l).Pairwise (· < ·)
  | [] => List.Pairwise.nil
  | a :: r => insS_sorted (sset_sorted r)
def ni (l : List Nat) : List Int := l.map fun (n : Nat) => (n : Int)
theorem ni_vns (l : List Nat) : (ni l).map V.int = vns l := by
  unfold ni vns
  rw [List.map_map]
  rfl
theorem ni_sset {l : List Nat} {ms : List Int} (h1 : ms.Pairwise (· < ·)) (h2 : ∀ k : Int, k ∈ ms ↔ decide (k ∈ ni l) = true) : ms = ni (sset l) := by
  refine sorted_uniq h1 ?_ fun k => ?_
  · unfold ni
    rw [List.pairwise_map]
    exact (sset_sorted l).imp fun h => by omega
  · rw [h2, decide_eq_true_iff]
    unfold ni
    simp only [List.mem_map, mem_sset]
theorem len_ni (l : List Nat) : (ni l).length = l.length := List.length_map ..
/-! ### pairs of numbers in lists and tuples -/
def PairAt (H : Hp) (a : Addr) (q : Nat × Nat) : Prop := H a = some (.tup [vn q.1, vn q.2])
def LPairs (H : Hp) (a : Addr) (l : List (Nat × Nat)) : Prop := ∃ as : List Addr, H a = some (.lst (as.map V.ref)) ∧ Paired (PairAt H) as l
def TPairs (H : Hp) (a : Addr) (l : List (Nat × Nat)) : Prop := ∃ as : List Addr, H a = some (.tup (as.map V.ref)) ∧ Paired (PairAt H) as l
theorem PairAt.mono {H H' : Hp} {a : Addr} {q : Nat × Nat} (h : PairAt H a q) (e : SameT H H') : PairAt H' a q := e _ _ h
theorem TPairs.mono {H H' : Hp} {a : Addr} {l : List (Nat × Nat)} (h : TPairs H a l) (e : SameT H H') : TPairs H' a l := let ⟨as, h1, h2⟩ := h; ⟨as, e _ _ h1, Paired.mapP h2 fun _ _ z => z.mono e⟩
theorem LPairs.mono {H H' : Hp} {a : Addr} {l : List (Nat × Nat)} (h : LPairs H a l) (e : Same H H') : LPairs H' a l := let ⟨as, h1, h2⟩ := h; ⟨as, e _ _ h1, Paired.mapP h2 fun _ _ z => z.mono (.of e)⟩
theorem cut_drop1 (xs : List V) : cutV xs (some 1) none = xs.drop 1 := by
  unfold cutV
  rw [show HT.sIx xs.length 0 (some 1) = min 1 xs.length from HT.sIx_nat _ _ 1, HT.sIx_none]
  cases xs with
  | nil => rfl
  | cons x r => simp
theorem paired_zip {H : Hp} : ∀ {as : List Addr} {xs ys : List Nat}, PairsAt H as (vns xs) (vns ys) → Paired (PairAt H) as (xs.zip ys)
  | [], [], [], _ => .nil
  | a :: as, x :: xs, y :: ys, h => .cons h.1 (paired_zip h.2)
  | [], [], _ :: _, h => h.elim
  | [], _ :: _, _, h => h.elim
  | _ :: _, [], _, h => h.elim
  | _ :: _, _ :: _, [], h => h.elim
theorem word_end (r : Row) : decide (V.str r.word = V.str "end") = decide (r = .fin) := by
  cases r with
  | bin o => cases o <;> rfl
  | _ => rfl
def Row.isGo : Row → Bool
  | .go _ => true
  | _ => false
theorem word_go (r : Row) : decide (V.str r.word = V.str "go") = r.isGo := by
  cases r with
  | bin o => cases o <;> rfl
  | _ => rfl
theorem at_eq {p : Prog} {i : Nat} (h : i < p.length) : p[i]? = some (p.at i) := by
  unfold Prog.at
  rw [List.getD_eq_getElem?_getD, List.getElem?_eq_getElem h]
  rfl
def sp_behind_row : Sp := fun vs H Q _ => ∃ (a : Addr) (p : Prog) (i : Nat), vs = [.ref a, vn i] ∧ (ProgAt H a p ∧ i < p.length) ∧ Rl (vns (behind p i)) H Q
-- slots: 0:program 1:number 2:row 3:found   level 3
abbrev n_behind_row : List Str := ["program", "number", "row", "found"]
theorem sc_behind_row : FnScope n_behind_row ["program", "number"] SL.d_behind_row.scope := ⟨rfl, rfl, rfl, by decide +kernel, rfl, by decide +kernel, by decide +kernel⟩
theorem ok_behind_row (T : Tx K mg w) : Cal P w K mg base "behind_row" 3 ["program", "number"] sp_behind_row := by
  refine Cal.of T.D_behind_row T.g_behind_row sc_behind_row (fun _ _ _ _ _ _ us hl => match us, hl with | [_, _], _ => rfl) (fun vs H Q E h => ?_) fun f cdv A outer s H vs Q E hr h => ?_
  · obtain ⟨a, p, i, rfl, _⟩ := h
    rfl
  obtain ⟨a, p, i, rfl, hh, h⟩ := h
  refine ⟨_, (pss_cons (ps_set (i := 2) sc_behind_row.nd rfl (Or.inl rfl) (pe_ix ix_tup (pv 0) (pv 1) (fun _ _ => rfl)))
    (pss_cons (ps_if (pt_cmpR op_eq (pe_ix ix_tup (pv 2) pe_int (fun _ _ => rfl)) pe_str (nomark _)) (pss_one (ps_ret (pe_lst pa_nil))) pss_nil)
    (pss_cons (ps_if (pt_cmpR op_eq (pe_ix ix_tup (pv 2) pe_int (fun _ _ => rfl)) pe_str (nomark _)) (pss_one (ps_ret (pe_lst (pa_cons (pe_ix ix_tup (pv 2) pe_int (fun _ _ => rfl)) pa_nil)))) pss_nil)
    (pss_cons (ps_set (i := 3) sc_behind_row.nd rfl (Or.inl rfl) (pe_lst (pa_cons (pe_op op_add (pv 1) pe_int) pa_nil)))
    (pss_cons (ps_if (pt_val (pe_fn (ok_is_way T) (hr.mono (by decide)) (by rfl) (pa_cons (pv 2) pa_nil))) (pss_one (ps_expr (pe_bm PySem.F.plainAttrs_list PySem.F.slot_list_append PySem.F.type_list_append mt_append (pv 3) (pa_cons (pe_fn (ok_leads T) (hr.mono (by decide)) (by rfl) (pa_cons (pv 2) pa_nil)) pa_nil)))) pss_nil)
    (pss_one (ps_ret (pv 3)))))))), ?_⟩
  obtain ⟨⟨rs, hA, hP⟩, hi⟩ := hh
  obtain ⟨b, hb, hR⟩ := paired_get hP (at_eq hi)
  have e : (rs.map V.ref)[i]? = some (.ref b) := by rw [List.getElem?_map, hb]; rfl
  have hq : Rl (vns (behind p i)) H Q := h
  unfold behind at hq
  generalize p.at i = r at *
  refine ⟨_, rfl, _, rfl, _, _, _, _, rfl, rfl, .of hA, atI_nat e, _, rfl, _, _, _, _, rfl, rfl, .of hR, row_at0 r, rfl, _, rfl, ?_⟩
  rw [word_end]
  refine ite2 (fun z => ?_) fun z => ?_
  · cases of_decide_eq_true z
    exact ⟨z0, fun l nl => hq _ _ nl (same_new nl) upd_same⟩
  · have z : r ≠ .fin := fun q => z (decide_eq_true q)
    refine ⟨_, rfl, _, _, _, _, rfl, rfl, .of hR, row_at0 r, rfl, _, rfl, ?_⟩
    rw [word_go]
    refine ite2 (fun y => ?_) fun y => ?_
    · cases r <;> simp [Row.isGo] at y
      exact ⟨_, rfl, _, _, _, _, rfl, rfl, .of hR, row_at _ (i := 0) rfl, by show 1 ≤ sizeLine; decide, fun l nl => hq _ _ nl (same_new nl) upd_same⟩
    · refine ⟨_, rfl, _, _, rfl, rfl, by show 1 ≤ sizeLine; decide, fun l nl => ?_⟩
      have s1 := same_new (o := .lst [V.int ((i : Int) + 1)]) nl
      have hR1 := hR.mono (.of s1)
      refine ⟨_, rfl, b, r, rfl, hR1, r.way, rfl, ?_⟩
      refine ite2 (fun w => ?_) fun w => ?_
      · cases r <;> simp [Row.isGo, Row.way] at y w z
        refine ⟨_, rfl, .inl ⟨rfl, _, .of upd_same⟩, _, rfl, b, _, rfl, hR1, fun H2 s2 => ⟨l, _, _, rfl, rfl, s2 _ _ upd_same, by show 1 < sizeLine; decide, _, rfl, hq _ _ nl (same_mut (s1.trans s2) nl) upd_same⟩⟩
      · cases r <;> simp [Row.isGo, Row.way] at y w z <;> exact ⟨_, rfl, hq _ _ nl s1 upd_same⟩
/-! beginnings -/
def begAt (n i : Nat) (r : Row) : List Nat := (match r.leads with | some t => [t] | none => []) ++ (if r.way && decide (i + 1 < n) then [i + 1] else [])
theorem begs_snoc (n : Nat) (r : Row) : ∀ (l : List Row) (i : Nat), begs n i (l ++ [r]) = begs n i l ++ begAt n (i + l.length) r
  | [], i => by
    show begAt n i r ++ [] = [] ++ begAt n (i + 0) r
    simp
  | a :: l, i => by
    show begAt n i a ++ begs n (i + 1) (l ++ [r]) = (begAt n i a ++ begs n (i + 1) l) ++ begAt n (i + (l.length + 1)) r
    rw [begs_snoc n r l (i + 1), List.append_assoc, show i + 1 + l.length = i + (l.length + 1) by omega]
theorem begAt_len (n i : Nat) (r : Row) : (begAt n i r).length ≤ 2 := by
  unfold begAt
  rw [List.length_append]
  have h1 : (match r.leads with | some t => [t] | none => []).length ≤ 1 := by cases r.leads <;> simp
  have h2 : (if r.way && decide (i + 1 < n) then [i + 1] else []).length ≤ 1 := by
    by_cases h : (r.way && decide (i + 1 < n)) = true
    · rw [if_pos h]
      simp
    · rw [if_neg h]
      simp
  omega
theorem begs_len (n : Nat) : ∀ (l : List Row) (i : Nat), (begs n i l).length ≤ 2 * l.length
  | [], _ => by simp [begs]
  | a :: l, i => by
    show (begAt n i a ++ begs n (i + 1) l).length ≤ 2 * (l.length + 1)
    have h1 := begAt_len n i a
    have h2 := begs_len n l (i + 1)
    rw [List.length_append]
    omega
theorem vns_app (l m : List Nat) : vns (l ++ m) = vns l ++ vns m := List.map_append ..
theorem vns_snoc (l : List Nat) (n : Nat) : vns l ++ [vn n] = vns (l ++ [n]) := (vns_app l [n]).symm
theorem small_of {n : Nat} (h : n < 1000) : n < sizeLine := by rw [sizeLine_eq]; omega
def sp_beginnings : Sp := fun vs H Q _ => ∃ (a : Addr) (p : Prog), vs = [.ref a] ∧ (ProgAt H a p ∧ p.length ≤ 20) ∧ Rl (vns (beginnings p)) H Q
-- slots: 0:program 1:found 2:number 3:row   level 3
abbrev n_beginnings : List Str := ["program", "found", "number", "row"]
theorem sc_beginnings : FnScope n_beginnings ["program"] SL.d_beginnings.scope := ⟨rfl, rfl, rfl, by decide +kernel, rfl, by decide +kernel, by decide +kernel⟩
theorem ok_beginnings (T : Tx K mg w) : Cal P w K mg base "beginnings" 3 ["program"] sp_beginnings := by
  refine Cal.of T.D_beginnings T.g_beginnings sc_beginnings (fun _ _ _ _ _ _ us hl => match us, hl with | [_], _ => rfl) (fun vs H Q E h => ?_) fun f cdv A outer s H vs Q E hr h => ?_
  · obtain ⟨a, p, rfl, _⟩ := h
    rfl
  obtain ⟨a, p, rfl, hh, h⟩ := h
  refine ⟨_, (pss_cons (ps_set (i := 1) sc_beginnings.nd rfl (Or.inl rfl) (pe_lst (pa_cons pe_int pa_nil)))
    (pss_cons (ps_for PassesOwn.never rfl (pi_enumT (by rfl) T.f_enumerate (pa_cons (pv 0) pa_nil)) (pg_tup rfl (pgs_cons (pg_name (i := 2) sc_beginnings.nd rfl (Or.inl rfl)) (pgs_cons (pg_name (i := 3) sc_beginnings.nd rfl (Or.inl rfl)) pgs_nil)))
    (Evl.pss_cut (ps_if (pt_cmpR op_notN (pe_fn (ok_leads T) (hr.mono (by decide)) (by rfl) (pa_cons (pv 3) pa_nil)) pe_non (nomark _)) (pss_one (ps_expr (pe_bm PySem.F.plainAttrs_list PySem.F.slot_list_append PySem.F.type_list_append mt_append (pv 1) (pa_cons (pe_fn (ok_leads T) (hr.mono (by decide)) (by rfl) (pa_cons (pv 3) pa_nil)) pa_nil)))) pss_nil)
    (pss_one (ps_if (PW.pt (pw_and (pt_val (pe_fn (ok_is_way T) (hr.mono (by decide)) (by rfl) (pa_cons (pv 3) pa_nil))) (pw_and1 (pt_cmpR op_lt (pe_op op_add (pv 2) pe_int) (pe_callB call_len_seq (by rfl) T.f_len PySem.boot_len (pa_cons (pv 0) pa_nil)) (nomark _))))) (pss_one (ps_expr (pe_bm PySem.F.plainAttrs_list PySem.F.slot_list_append PySem.F.type_list_append mt_append (pv 1) (pa_cons (pe_op op_add (pv 2) pe_int) pa_nil)))) pss_nil))))
    (pss_one (ps_ret (pe_callB (cr_sortedSet rfl) (by rfl) T.f_sorted (by decide +kernel) (pa_cons (pe_callTy (cr_setL rfl) (by rfl) T.f_set (by decide +kernel) (pa_cons (pv 1) pa_nil)) pa_nil)))))), ?_⟩
  obtain ⟨⟨rs, hA, hP⟩, hlen⟩ := hh
  have hl : (rs.map V.ref).length = p.length := by rw [List.length_map]; exact paired_len hP
  refine ⟨by show 1 ≤ sizeLine; decide, fun l nl => ?_⟩
  have s1 := same_new (o := .lst [V.int 0]) nl
  refine ⟨_, rfl, a, _, rfl, .of (s1 _ _ hA), ?_⟩
  refine for_it walk_enumT (fun i σ H2 => ∃ v1 v2, σ = [some (.ref a), some (.ref l), v1, v2] ∧ Same H H2 ∧ H2 l = some (.lst (vns (0 :: begs p.length 0 (p.take i))))) ⟨none, none, rfl, s1, upd_same⟩ (fun i σ H2 _ z => by obtain ⟨_, _, _, s2, _⟩ := z; exact .of (s2 _ _ hA)) ?_ ?_
  · rintro i x σ H2 H3 hi ⟨v1, v2, rfl, s2, hL⟩ ⟨t, x1, x2, rfl, nt, rfl, h1, h2⟩
    have h2 : (rs.map V.ref)[i]? = some x2 := h2
    cases h1
    have hip : i < p.length := by omega
    obtain ⟨b, hb, hR⟩ := paired_get hP (at_eq hip)
    rw [List.getElem?_map, hb] at h2
    cases h2
    have s3 := same_upd (o := .tup [.int (i : Nat), .ref b]) s2 nt
    have hR3 := hR.mono (.of s3)
    have hL3 : upd H2 t (.tup [.int (i : Nat), .ref b]) l = some (.lst (vns (0 :: begs p.length 0 (p.take i)))) := by
      rw [upd_ne (ne_of_none hL nt)]
      exact hL
    have et : p.take (i + 1) = p.take i ++ [p.at i] := by
      rw [List.take_succ, at_eq hip]
      rfl
    have etl : (p.take i).length = i := by rw [List.length_take]; omega
    have ebl := begs_len p.length (p.take i) 0
    have fin : ∀ H4, Same H H4 → H4 l = some (.lst (vns (0 :: begs p.length 0 (p.take i) ++ begAt p.length i (p.at i)))) → (∃ v1 v2, ([some (.ref a), some (.ref l), some (.int (i : Nat)), some (.ref b)] : St) = [some (.ref a), some (.ref l), v1, v2] ∧ Same H H4 ∧ H4 l = some (.lst (vns (0 :: begs p.length 0 (p.take (i + 1)))))) := fun H4 s4 h4 => ⟨_, _, rfl, s4, by rw [h4, et, begs_snoc, etl, Nat.zero_add]; rfl⟩
    generalize hr' : p.at i = r at *
    refine g2_go upd_same ⟨fun σ4 H4 => σ4 = [some (.ref a), some (.ref l), some (.int (i : Nat)), some (.ref b)] ∧ Same H H4 ∧ H4 l = some (.lst (vns (0 :: begs p.length 0 (p.take i) ++ (match r.leads with | some t => [t] | none => [])))), ?_, ?_⟩
    · refine ⟨_, rfl, b, r, rfl, hR3, fun H4 s4 => ⟨rfl, _, rfl, ?_⟩⟩
      have s5 := s3.trans s4
      cases q : r.leads with
      | none => exact ⟨rfl, s5, by rw [s4 _ _ hL3]; simp⟩
      | some m =>
        refine ⟨_, rfl, .inl ⟨rfl, _, .of (s4 _ _ hL3)⟩, _, rfl, b, _, rfl, hR3.mono (.of s4), fun H5 s6 => ⟨l, _, _, rfl, rfl, s6 _ _ (s4 _ _ hL3), ?_, rfl, same_mut (s5.trans s6) nl, ?_⟩⟩
        · rw [len_vns]
          exact small_of (by simp only [List.length_cons]; omega)
        · rw [upd_same, q, vns_app]
          rfl
    · rintro _ H4 ⟨rfl, s4, h4⟩
      have hb2 : (match r.leads with | some t => [t] | none => []).length ≤ 1 := by cases r.leads <;> simp
      have hR4 : RowAt H4 b r := (paired_get hP (at_eq hip)).elim fun b' z => by rw [hb] at z; cases z.1; rw [hr'] at z; exact z.2.mono (.of s4)
      refine ⟨_, rfl, b, r, rfl, hR4, r.way, rfl, ?_⟩
      refine ite2 (fun w => ?_) fun w => ?_
      · refine ⟨_, rfl, _, _, rfl, rfl, _, rfl, _, _, rfl, len_tup (s4 _ _ hA), _, _, rfl, rfl, _, rfl, ?_⟩
        rw [hl, show decide ((i : Int) + 1 < (p.length : Int)) = decide (i + 1 < p.length) from decide_eq_decide.mpr (by omega)]
        refine ite2 (fun y => ?_) fun y => ?_
        · refine ⟨_, rfl, .inl ⟨rfl, _, .of h4⟩, _, rfl, _, _, rfl, rfl, l, _, _, rfl, rfl, h4, ?_, fin _ (same_mut s4 nl) ?_⟩
          · rw [len_vns]
            exact small_of (by simp only [List.length_cons, List.length_append]; omega)
          · unfold begAt
            rw [w, y, upd_same, ← List.append_assoc]
            exact congrArg (fun z => some (HO.lst z)) (vns_snoc _ _)
        · refine fin _ s4 ?_
          unfold begAt
          rw [h4, w, Bool.true_and, if_neg y, List.append_nil]
      · refine fin _ s4 ?_
        unfold begAt
        rw [h4, if_neg (by simp [w]), List.append_nil]
  · rintro σ H2 ⟨v1, v2, rfl, s2, hL⟩
    rw [hl, List.take_length, ← ni_vns] at hL
    have ebl := begs_len p.length p 0
    have eln : (ni (0 :: begs p.length 0 p)).length < 64 := by
      rw [len_ni, List.length_cons]
      omega
    refine ⟨_, rfl, l, _, rfl, .of hL, by omega, fun q c nq hc => ⟨q, _, c, rfl, upd_same, by omega, fun ns' q2 srt mem len new => ?_⟩⟩
    rw [ni_sset srt mem, ni_vns]
    have s3 := same_upd (o := SetO w q (fun j => decide (j ∈ ni (0 :: begs p.length 0 p))) c) s2 nq
    exact h q2 _ (s3.free new) (same_upd s3 new) upd_same
/-! blocks -/
def sp_blocks : Sp := fun vs H Q _ => ∃ (a : Addr) (p : Prog), vs = [.ref a] ∧ (ProgAt H a p ∧ p.Ok) ∧ ∀ q H', H q = none → Same H H' → LPairs H' q (blocks p) → Q (.ref q) H'
theorem insS_len {a : Nat} : ∀ {l : List Nat}, (insS a l).length ≤ l.length + 1
  | [] => by simp [insS]
  | b :: r => by
    unfold insS
    split
    · simp
    · split
      · simp
      · have := insS_len (a := a) (l := r)
        simp only [List.length_cons]
        omega
theorem sset_len : ∀ l : List Nat, (sset l).length ≤ l.length
  | [] => Nat.le_refl _
  | a :: r => by
    have h1 := insS_len (a := a) (l := sset r)
    have h2 := sset_len r
    show (insS a (sset r)).length ≤ r.length + 1
    omega
theorem beginnings_len (p : Prog) : (beginnings p).length ≤ 1 + 2 * p.length := by
  have h1 := sset_len (0 :: begs p.length 0 p)
  have h2 := begs_len p.length p 0
  unfold beginnings
  simp only [List.length_cons] at h1
  omega
theorem beginnings_pos (p : Prog) : 0 < (beginnings p).length := by
  have h : 0 ∈ beginnings p := mem_sset.mpr List.mem_cons_self
  exact List.length_pos_of_mem h
-- slots: 0:program 1:firsts   level 4
abbrev n_blocks : List Str := ["program", "firsts"]
theorem sc_blocks : FnScope n_blocks ["program"] SL.d_blocks.scope := ⟨rfl, rfl, rfl, by decide +kernel, rfl, by decide +kernel, by decide +kernel⟩
theorem ok_blocks (T : Tx K mg w) : Cal P w K mg base "blocks" 4 ["program"] sp_blocks := by
  refine Cal.of T.D_blocks T.g_blocks sc_blocks (fun _ _ _ _ _ _ us hl => match us, hl with | [_], _ => rfl) (fun vs H Q E h => ?_) fun f cdv A outer s H vs Q E hr h => ?_
  · obtain ⟨a, p, rfl, _⟩ := h
    rfl
  obtain ⟨a, p, rfl, hh, h⟩ := h
  refine ⟨_, (pss_cons (ps_expr (pe_fn (ok_need_program T) (hr.mono (by decide)) (by rfl) (pa_cons (pv 0) pa_nil)))
    (pss_cons (ps_set (i := 1) sc_blocks.nd rfl (Or.inl rfl) (pe_fn (ok_beginnings T) (hr.mono (by decide)) (by rfl) (pa_cons (pv 0) pa_nil)))
    (pss_one (ps_ret (pe_listZip rfl (by rfl) T.f_list (by rfl) T.f_zip (pa_cons (pv 1) (pa_cons (pe_op op_cat (pe_slice sl_list (pv 1) (po_some pe_int) po_none) (pe_lst (pa_cons (pe_callB call_len_seq (by rfl) T.f_len PySem.boot_len (pa_cons (pv 0) pa_nil)) pa_nil))) pa_nil))))))), ?_⟩
  obtain ⟨hA, ok⟩ := hh
  have hlen := ok.len
  have hb := beginnings_len p
  have hb0 := beginnings_pos p
  obtain ⟨rs, hA1, hP⟩ := id hA
  have hl : (rs.map V.ref).length = p.length := by rw [List.length_map]; exact paired_len hP
  refine ⟨_, rfl, a, p, rfl, ⟨hA, ok⟩, fun H1 s1 => ⟨_, rfl, a, p, rfl, ⟨hA.mono (.of s1), hlen⟩, fun l H2 nl s2 hL => ?_⟩⟩
  have s3 := s1.trans s2
  refine ⟨_, rfl, _, rfl, 1, rfl, l, _, rfl, .of hL, fun u nu => ?_⟩
  rw [cut_drop1]
  have s4 := same_upd (o := .lst ((vns (beginnings p)).drop 1)) s3 nu
  refine ⟨_, rfl, _, _, rfl, len_tup (s4 _ _ hA1), by show 1 ≤ sizeLine; decide, fun x nx => ?_⟩
  have s5 := same_upd (o := .lst [V.int ((rs.map V.ref).length : Int)]) s4 nx
  refine ⟨u, x, _, _, rfl, rfl, by rw [upd_ne (ne_of_none upd_same nx)]; exact upd_same, upd_same, ?_, fun y ny => ?_⟩
  · rw [List.length_drop, len_vns, sizeLine_eq]
    show _ + 1 ≤ _
    omega
  have s6 := same_upd (o := .lst ((vns (beginnings p)).drop 1 ++ [V.int ((rs.map V.ref).length : Int)])) s5 ny
  have hL6 := (same_upd (o := .lst ((vns (beginnings p)).drop 1 ++ [V.int ((rs.map V.ref).length : Int)])) (same_upd (o := .lst [V.int ((rs.map V.ref).length : Int)]) (same_new (o := .lst ((vns (beginnings p)).drop 1)) nu) nx) ny) _ _ hL
  have e : (vns (beginnings p)).drop 1 ++ [V.int ((rs.map V.ref).length : Int)] = vns ((beginnings p).drop 1 ++ [p.length]) := by
    rw [vns_app, hl]
    unfold vns
    rw [List.map_drop]
    rfl
  refine ⟨l, y, _, _, rfl, .of hL6, .of upd_same, ?_, by rw [len_vns]; omega, fun q as H3 s7 nq hq hp => ?_⟩
  · rw [e, len_vns, len_vns, List.length_append, List.length_drop]
    simp only [List.length_cons, List.length_nil]
    omega
  · rw [e] at hp
    exact h q H3 (s6.free nq) (s6.trans s7) ⟨as, hq, paired_zip hp⟩
end
end SL

/-! text OkVal -/
set_option Elab.async false
set_option linter.all false
set_option maxRecDepth 100000
set_option maxHeartbeats 4000000
namespace SL
open PySem PySem.Spec L2
section
variable {P : Program} {w : World} {K : PySem.W.Frag} {mg : Str → Option Value} {base : Heap}
/-! ### what stands beside what is known -/
structure Off (B H : Hp) (as : List Addr) : Prop where
  same : Same B H
  free : ∀ a ∈ as, B a = none
theorem Off.ext {B H H' : Hp} {as : List Addr} (h : Off B H as) (e : Same H H') : Off B H' as := ⟨h.same.trans e, h.free⟩
theorem Off.le {B B' H : Hp} {as : List Addr} (h : Off B H as) (e : Same B' B) : Off B' H as := ⟨e.trans h.same, fun a ha => e.free (h.free a ha)⟩
theorem Off.grow {B H : Hp} {as : List Addr} {a : Addr} {o : HO} (h : Off B H as) (hn : H a = none) (hs : ∀ b ∈ as, b ≠ a) : Off (upd B a o) (upd H a o) as := by
  refine ⟨fun b u e => ?_, fun b hb => ?_⟩
  · by_cases q : b = a
    · subst q
      rw [upd_same] at e ⊢
      exact e
    · rw [upd_ne q] at e ⊢
      exact h.same _ _ e
  · rw [upd_ne (hs b hb)]
    exact h.free b hb
theorem Off.put {B H : Hp} {as : List Addr} {a : Addr} {o o' : HO} (h : Off B H as) (ha : B a = some o) : Off (upd B a o') (upd H a o') as := by
  refine ⟨fun b u e => ?_, fun b hb => ?_⟩
  · by_cases q : b = a
    · subst q
      rw [upd_same] at e ⊢
      exact e
    · rw [upd_ne q] at e ⊢
      exact h.same _ _ e
  · rw [upd_ne (fun q => by subst q; rw [h.free _ hb] at ha; cases ha)]
    exact h.free b hb
theorem Off.own {B H : Hp} {as : List Addr} {a : Addr} {o : HO} (h : Off B H as) (ha : a ∈ as) : Off B (upd H a o) as := ⟨same_mut h.same (h.free a ha), h.free⟩
/-! ### a Values in the heap -/
def vsF (l h f : Addr) (n : Nat) : List (Str × V) := [("links", .ref l), ("held", .ref h), ("forms", .ref f), ("puts", vn n)]
theorem f_links {l h f : Addr} {n : Nat} : (vsF l h f n).lookup ("links" : Str) = some (.ref l) := rfl
theorem f_held {l h f : Addr} {n : Nat} : (vsF l h f n).lookup ("held" : Str) = some (.ref h) := rfl
theorem f_forms {l h f : Addr} {n : Nat} : (vsF l h f n).lookup ("forms" : Str) = some (.ref f) := rfl
theorem f_puts {l h f : Addr} {n : Nat} : (vsF l h f n).lookup ("puts" : Str) = some (vn n) := rfl
theorem p_forms {l h f f' : Addr} {n : Nat} : putF ("forms" : Str) (.ref f') (vsF l h f n) = vsF l h f' n := rfl
theorem p_puts {l h f : Addr} {n : Nat} {m : Nat} : putF ("puts" : Str) (vn m) (vsF l h f n) = vsF l h f m := rfl
def hk (l : List (Nat × Nat)) : List (Key × V) := l.map fun q => (Sum.inl (q.1 : Int), vn q.2)
theorem valV_hk (b : Nat) : ∀ l : List (Nat × Nat), valV (hk l) (Sum.inl (b : Int) : Key) = (getN l b).map vn
  | [] => rfl
  | (a, v) :: r => by
    show valV ((Sum.inl (a : Int), vn v) :: hk r) _ = _
    unfold valV getN
    rw [List.find?_cons]
    by_cases e : a = b
    · subst e
      simp
    · have e2 : ¬ ((Sum.inl (a : Int) : Key) = Sum.inl (b : Int)) := fun z => e (by have := Sum.inl.inj z; omega)
      rw [decide_eq_false e2, if_neg e]
      exact valV_hk b r
theorem any_hk (b : Nat) : ∀ l : List (Nat × Nat), (hk l).any (fun kv => decide (kv.1 = (Sum.inl (b : Int) : Key))) = (getN l b).isSome
  | [] => rfl
  | (a, v) :: r => by
    unfold getN
    rw [show hk ((a, v) :: r) = (Sum.inl (a : Int), vn v) :: hk r from rfl, List.any_cons, any_hk b r]
    by_cases e : a = b
    · subst e
      simp
    · have e2 : ¬ ((Sum.inl (a : Int) : Key) = Sum.inl (b : Int)) := fun z => e (by have := Sum.inl.inj z; omega)
      rw [decide_eq_false e2, if_neg e]
      rfl
theorem map_hk {b v : Nat} : ∀ {l : List (Nat × Nat)}, (l.map (·.1)).Nodup → (getN l b).isSome = true → (hk l).map (fun kv => if kv.1 = (Sum.inl (b : Int) : Key) then (kv.1, vn v) else kv) = hk (putN l b v)
  | [], _, h => by cases h
  | (a, u) :: r, hn, h => by
    obtain ⟨h1, h2⟩ := List.nodup_cons.mp (show (a :: r.map (·.1)).Nodup from hn)
    rw [show hk ((a, u) :: r) = (Sum.inl (a : Int), vn u) :: hk r from rfl, List.map_cons]
    by_cases e : a = b
    · subst e
      unfold putN
      rw [if_pos rfl, if_pos rfl]
      show _ :: _ = (Sum.inl (a : Int), vn v) :: hk r
      congr 1
      have key : ∀ kv ∈ hk r, (if kv.1 = (Sum.inl (a : Int) : Key) then (kv.1, vn v) else kv) = kv := by
        intro kv hkv
        obtain ⟨q, hq, eq⟩ := List.mem_map.mp hkv
        rw [if_neg]
        rw [← eq]
        intro z
        have z2 : (q.1 : Int) = (a : Int) := Sum.inl.inj z
        exact h1 (List.mem_map.mpr ⟨q, hq, by omega⟩)
      conv => rhs; rw [← List.map_id (hk r)]
      exact List.map_congr_left key
    · have e2 : ¬ ((Sum.inl (a : Int) : Key) = Sum.inl (b : Int)) := fun z => e (by have := Sum.inl.inj z; omega)
      unfold getN at h
      rw [if_neg e] at h
      rw [if_neg e2, map_hk h2 h]
      have ep : putN ((a, u) :: r) b v = (a, u) :: putN r b v := by simp [putN, e]
      rw [ep]
      rfl
theorem putK_hk {b v : Nat} {l : List (Nat × Nat)} (hn : (l.map (·.1)).Nodup) : putK (hk l) (Sum.inl (b : Int) : Key) (vn v) = hk (putN l b v) := by
  unfold putK
  rw [any_hk]
  cases h : getN l b with
  | some u =>
    rw [show (some u).isSome = true from rfl, if_pos rfl]
    exact map_hk hn (by rw [h]; rfl)
  | none =>
    rw [show (none : Option Nat).isSome = false from rfl, if_neg Bool.false_ne_true, putN_new v h]
    unfold hk
    rw [List.map_append]
    rfl
theorem nodup_putN {b v : Nat} : ∀ {l : List (Nat × Nat)}, (l.map (·.1)).Nodup → ((putN l b v).map (·.1)).Nodup
  | [], _ => by simp [putN]
  | (a, u) :: r, hn => by
    obtain ⟨h1, h2⟩ := List.nodup_cons.mp (show (a :: r.map (·.1)).Nodup from hn)
    unfold putN
    by_cases e : a = b
    · rw [if_pos e]
      exact hn
    · rw [if_neg e]
      refine List.nodup_cons.mpr ⟨fun hm => ?_, nodup_putN h2⟩
      obtain ⟨q, hq, eq⟩ := List.mem_map.mp hm
      rcases putN_mem hq with z | z
      · exact h1 (List.mem_map.mpr ⟨q, z, eq⟩)
      · rw [z] at eq
        exact e eq.symm
structure VAtX (P : Program) (w : World) (C : Addr) (B H : Hp) (p dx l h f : Addr) (s : VS) : Prop where
  ob : H p = some (.ins C dx (vsF l h f s.puts))
  li : H l = some (.lst (vns s.links))
  he : H h = some (.dK (hk s.held))
  fo : FDat P w H f s.forms
  nd : (s.held.map (·.1)).Nodup
  off : Off B H [p, l, h, f]
def VAt (P : Program) (w : World) (C : Addr) (B H : Hp) (p : Addr) (s : VS) : Prop := ∃ dx l h f, VAtX P w C B H p dx l h f s
section
variable {C : Addr} {B H H' : Hp} {p dx l h f : Addr} {s : VS}
theorem VAtX.at (v : VAtX P w C B H p dx l h f s) : VAt P w C B H p s := ⟨dx, l, h, f, v⟩
theorem fd_ext {kvs : List (Form × Nat)} (v : FDat P w H f kvs) : ∃ φ, H f = some (.ext φ) := let ⟨ep, xs, h1, _⟩ := v; ⟨_, h1⟩
theorem VAtX.ext (v : VAtX P w C B H p dx l h f s) (e : Same H H') : VAtX P w C B H' p dx l h f s :=
  ⟨e _ _ v.ob, e _ _ v.li, e _ _ v.he, v.fo.same (fun o z => e _ _ z) (fun a xs z => e _ _ z), v.nd, v.off.ext e⟩
theorem VAt.ext (v : VAt P w C B H p s) (e : Same H H') : VAt P w C B H' p s := let ⟨dx, l, h, f, v⟩ := v; (v.ext e).at
theorem VAtX.le {B' : Hp} (v : VAtX P w C B H p dx l h f s) (e : Same B' B) : VAtX P w C B' H p dx l h f s := ⟨v.ob, v.li, v.he, v.fo, v.nd, v.off.le e⟩
theorem VAt.le {B' : Hp} (v : VAt P w C B H p s) (e : Same B' B) : VAt P w C B' H p s := let ⟨dx, l, h, f, v⟩ := v; (v.le e).at
theorem VAt.get (v : VAt P w C B H p s) {a : Addr} {o : HO} (h : B a = some o) : H a = some o := let ⟨dx, l, h', f, v⟩ := v; v.off.same _ _ h
theorem VAtX.ne (v : VAtX P w C B H p dx l h f s) {a : Addr} (hn : H a = none) : ∀ b ∈ [p, l, h, f], b ≠ a := by
  obtain ⟨φ, hf⟩ := fd_ext v.fo
  intro b hb q
  subst q
  rcases List.mem_cons.mp hb with e | hb
  · subst e
    rw [v.ob] at hn
    cases hn
  rcases List.mem_cons.mp hb with e | hb
  · subst e
    rw [v.li] at hn
    cases hn
  rcases List.mem_cons.mp hb with e | hb
  · subst e
    rw [v.he] at hn
    cases hn
  · rw [List.mem_singleton.mp hb, hf] at hn
    cases hn
theorem VAtX.grow {a : Addr} {o : HO} (v : VAtX P w C B H p dx l h f s) (hn : H a = none) : VAtX P w C (upd B a o) (upd H a o) p dx l h f s := by
  have e := same_new (o := o) hn
  exact ⟨e _ _ v.ob, e _ _ v.li, e _ _ v.he, v.fo.same (fun o z => e _ _ z) (fun a xs z => e _ _ z), v.nd, v.off.grow hn (v.ne hn)⟩
theorem VAt.grow {a : Addr} {o : HO} (v : VAt P w C B H p s) (hn : H a = none) : VAt P w C (upd B a o) (upd H a o) p s := let ⟨dx, l, h, f, v⟩ := v; (v.grow hn).at
theorem VAtX.put {a : Addr} {o o' : HO} (v : VAtX P w C B H p dx l h f s) (ha : B a = some o) (ht : ∀ xs, o ≠ .tup xs) : VAtX P w C (upd B a o') (upd H a o') p dx l h f s := by
  have hne : ∀ b ∈ [p, l, h, f], b ≠ a := fun b hb q => by subst q; rw [v.off.free _ hb] at ha; cases ha
  have hh := v.off.same _ _ ha
  refine ⟨by rw [upd_ne (hne p (by simp))]; exact v.ob, by rw [upd_ne (hne l (by simp))]; exact v.li, by rw [upd_ne (hne h (by simp))]; exact v.he, v.fo.same (fun o z => by rw [upd_ne (hne f (by simp))]; exact z) (fun b xs z => ?_), v.nd, v.off.put ha⟩
  by_cases q : b = a
  · subst q
    rw [hh] at z
    exact absurd (Option.some.inj z) (ht xs)
  · rw [upd_ne q]
    exact z
theorem VAt.put {a : Addr} {o o' : HO} (v : VAt P w C B H p s) (ha : B a = some o) (ht : ∀ xs, o ≠ .tup xs) : VAt P w C (upd B a o') (upd H a o') p s := let ⟨dx, l, h, f, v⟩ := v; (v.put ha ht).at
theorem sameT_upd {a : Addr} {o o' : HO} (h : H a = some o) (ht : ∀ xs, o ≠ .tup xs) : SameT H (upd H a o') := fun b xs z => by
  by_cases q : b = a
  · subst q
    rw [h] at z
    exact absurd (Option.some.inj z) (ht xs)
  · rw [upd_ne q]
    exact z
theorem VAtX.links {ls : List Nat} (v : VAtX P w C B H p dx l h f s) : VAtX P w C B (upd H l (.lst (vns ls))) p dx l h f { s with links := ls } := by
  obtain ⟨φ, hf⟩ := fd_ext v.fo
  exact ⟨by rw [upd_ne (ne_of v.ob v.li (by intro z; cases z))]; exact v.ob, upd_same, by rw [upd_ne (ne_of v.he v.li (by intro z; cases z))]; exact v.he,
    v.fo.same (fun o z => by rw [upd_ne (ne_of hf v.li (by intro z; cases z))]; exact z) (sameT_upd v.li fun xs z => by cases z), v.nd, v.off.own (by simp)⟩
theorem VAtX.helds {hs : List (Nat × Nat)} (v : VAtX P w C B H p dx l h f s) (hn : (hs.map (·.1)).Nodup) : VAtX P w C B (upd H h (.dK (hk hs))) p dx l h f { s with held := hs } := by
  obtain ⟨φ, hf⟩ := fd_ext v.fo
  exact ⟨by rw [upd_ne (ne_of v.ob v.he (by intro z; cases z))]; exact v.ob, by rw [upd_ne (ne_of v.li v.he (by intro z; cases z))]; exact v.li, upd_same,
    v.fo.same (fun o z => by rw [upd_ne (ne_of hf v.he (by intro z; cases z))]; exact z) (sameT_upd v.he fun xs z => by cases z), hn, v.off.own (by simp)⟩
theorem VAtX.formsd {o : HO} {fs : List (Form × Nat)} (v : VAtX P w C B H p dx l h f s) (hd : FDat P w (upd H f o) f fs) : VAtX P w C B (upd H f o) p dx l h f { s with forms := fs } := by
  obtain ⟨φ, hf⟩ := fd_ext v.fo
  exact ⟨by rw [upd_ne (ne_of v.ob hf (by intro z; cases z))]; exact v.ob, by rw [upd_ne (ne_of v.li hf (by intro z; cases z))]; exact v.li, by rw [upd_ne (ne_of v.he hf (by intro z; cases z))]; exact v.he, hd, v.nd, v.off.own (by simp)⟩
theorem VAtX.putsd {n : Nat} (v : VAtX P w C B H p dx l h f s) : VAtX P w C B (upd H p (.ins C dx (vsF l h f n))) p dx l h f { s with puts := n } := by
  obtain ⟨φ, hf⟩ := fd_ext v.fo
  exact ⟨upd_same, by rw [upd_ne (ne_of v.li v.ob (by intro z; cases z))]; exact v.li, by rw [upd_ne (ne_of v.he v.ob (by intro z; cases z))]; exact v.he,
    v.fo.same (fun o z => by rw [upd_ne (ne_of hf v.ob (by intro z; cases z))]; exact z) (sameT_upd v.ob fun xs z => by cases z), v.nd, v.off.own (by simp)⟩
theorem VAtX.newf {f' : Addr} {fs : List (Form × Nat)} (v : VAtX P w C B H p dx l h f s) (hd : FDat P w H f' fs) (hb : B f' = none) : VAtX P w C B (upd H p (.ins C dx (vsF l h f' s.puts))) p dx l h f' { s with forms := fs } := by
  obtain ⟨φ, hf⟩ := fd_ext hd
  refine ⟨upd_same, by rw [upd_ne (ne_of v.li v.ob (by intro z; cases z))]; exact v.li, by rw [upd_ne (ne_of v.he v.ob (by intro z; cases z))]; exact v.he,
    hd.same (fun o z => by rw [upd_ne (ne_of hf v.ob (by intro z; cases z))]; exact z) (sameT_upd v.ob fun xs z => by cases z), v.nd, ⟨same_mut v.off.same (v.off.free p (by simp)), fun b hb2 => ?_⟩⟩
  have k := v.off.free
  rcases List.mem_cons.mp hb2 with e | hb2
  · rw [e]
    exact k _ (by simp)
  rcases List.mem_cons.mp hb2 with e | hb2
  · rw [e]
    exact k _ (by simp)
  rcases List.mem_cons.mp hb2 with e | hb2
  · rw [e]
    exact k _ (by simp)
  · rw [List.mem_singleton.mp hb2]
    exact hb
end
/-! ### fresh, root, value_in -/
def sp_Values_fresh (P : Program) (w : World) (K : PySem.W.Frag) : Sp := fun vs H Q _ => ∃ (p dx l h f : Addr) (B : Hp) (s : VS), vs = [.ref p] ∧ (VAtX P w (ga K "Values") B H p dx l h f s ∧ s.links.length ≤ 1000) ∧
  ∀ H', VAtX P w (ga K "Values") B H' p dx l h f s.fresh → SameT H H' → Q (vn s.links.length) H'
-- slots: 0:self   level 1
abbrev n_Values_fresh : List Str := ["self"]
theorem sc_Values_fresh : FnScope n_Values_fresh ["self"] SL.d_Values_fresh.scope := ⟨rfl, rfl, rfl, by decide +kernel, rfl, by decide +kernel, by decide +kernel⟩
theorem ok_Values_fresh (T : Tx K mg w) : MCal P w K mg base (ga K "Values") "fresh" 1 ["self"] (sp_Values_fresh P w K) := by
  refine MCal.of T.D_Values_fresh T.c_Values T.m_Values_fresh sc_Values_fresh (fun _ _ _ _ _ _ us hl => match us, hl with | [_], _ => rfl) (fun vs H Q E h => ?_) fun f cdv A outer s H vs Q E hr h => ?_
  · obtain ⟨p, dx, l, hh, f, B, s, rfl, _⟩ := h
    rfl
  obtain ⟨p, dx, l, hh, f, B, s, rfl, v, h⟩ := h
  refine ⟨_, (pss_cons (ps_expr (pe_bm PySem.F.plainAttrs_list PySem.F.slot_list_append PySem.F.type_list_append mt_append (pe_fld (pv 0) rfl) (pa_cons (pe_callB call_len_seq (by rfl) T.f_len PySem.boot_len (pa_cons (pe_fld (pv 0) rfl) pa_nil)) pa_nil)))
    (pss_one (ps_ret (pe_op op_sub (pe_callB call_len_seq (by rfl) T.f_len PySem.boot_len (pa_cons (pe_fld (pv 0) rfl) pa_nil)) pe_int)))), ?_⟩
  obtain ⟨v, hz⟩ := v
  refine ⟨_, rfl, p, _, dx, _, _, rfl, v.ob, T.c_Values, T.n_Values_links, f_links, .inl ⟨rfl, _, .of v.li⟩, _, rfl, p, _, dx, _, _, rfl, v.ob, T.c_Values, T.n_Values_links, f_links, _, _, rfl, len_lst v.li, l, _, _, rfl, rfl, v.li, by rw [len_vns]; rw [sizeLine_eq]; omega, ?_⟩
  rw [len_vns, show vns s.links ++ [V.int (s.links.length : Int)] = vns (s.links ++ [s.links.length]) from vns_snoc _ _]
  have v1 : VAtX P w (ga K "Values") B (upd H l (.lst (vns (s.links ++ [s.links.length])))) p dx l hh f s.fresh := v.links
  refine ⟨_, rfl, p, _, dx, _, _, rfl, v1.ob, T.c_Values, T.n_Values_links, f_links, _, _, rfl, len_lst v1.li, _, _, rfl, rfl, ?_⟩
  have e : V.int (((vns s.fresh.links).length : Int) - 1) = vn s.links.length := by
    rw [len_vns]
    show V.int _ = V.int _
    congr 1
    show (((s.links ++ [s.links.length]).length : Nat) : Int) - 1 = _
    rw [List.length_append]
    simp
  show Q (V.int (((vns s.fresh.links).length : Int) - 1)) _
  rw [e]
  exact h _ v1 (sameT_upd v.li fun xs z => by cases z)
def sp_Values_root (P : Program) (w : World) (K : PySem.W.Frag) : Sp := fun vs H Q _ => ∃ (p dx l h f : Addr) (B : Hp) (s : VS) (n u : Nat), vs = [.ref p, vn u] ∧ (VAtX P w (ga K "Values") B H p dx l h f s ∧ s.Ok n ∧ u < s.links.length) ∧ Q (vn (s.root u)) H
theorem at_vns {l : List Nat} {u : Nat} (h : u < l.length) : atI (vns l) (u : Int) = some (vn (l.getD u 0)) := by
  refine atI_nat (get_vns ?_)
  rw [List.getD_eq_getElem?_getD, List.getElem?_eq_getElem h]
  rfl
-- slots: 0:self 1:value   level 1
abbrev n_Values_root : List Str := ["self", "value"]
theorem sc_Values_root : FnScope n_Values_root ["self", "value"] SL.d_Values_root.scope := ⟨rfl, rfl, rfl, by decide +kernel, rfl, by decide +kernel, by decide +kernel⟩
theorem ok_Values_root (T : Tx K mg w) : MCal P w K mg base (ga K "Values") "root" 1 ["self", "value"] (sp_Values_root P w K) := by
  refine MCal.of T.D_Values_root T.c_Values T.m_Values_root sc_Values_root (fun _ _ _ _ _ _ us hl => match us, hl with | [_, _], _ => rfl) (fun vs H Q E h => ?_) fun f cdv A outer s H vs Q E hr h => ?_
  · obtain ⟨p, dx, l, hh, f, B, s, n, u, rfl, _⟩ := h
    rfl
  obtain ⟨p, dx, l, hh, f, B, s, n, u, rfl, v, h⟩ := h
  refine ⟨_, (pss_cons (ps_while PassesOwn.never (pt_cmpR op_ne (pe_ix ix_list (pe_fld (pv 0) rfl) (pv 1) (fun _ _ => rfl)) (pv 1) (nomark _)) (pss_one (ps_set (i := 1) sc_Values_root.nd rfl (Or.inl rfl) (pe_ix ix_list (pe_fld (pv 0) rfl) (pv 1) (fun _ _ => rfl)))))
    (pss_one (ps_ret (pv 1)))), ?_⟩
  obtain ⟨v, ok, hu⟩ := v
  refine ⟨fun m σ H2 => H2 = H ∧ ∃ x, m = x ∧ σ = [some (.ref p), some (vn x)] ∧ x < s.links.length ∧ s.root x = s.root u, ⟨u, rfl, u, rfl, rfl, hu, rfl⟩, ?_⟩
  rintro m σ H2 ⟨rfl, x, hm, rfl, hx, hrx⟩
  subst hm
  refine ⟨_, rfl, p, _, dx, _, _, rfl, v.ob, T.c_Values, T.n_Values_links, f_links, _, rfl, _, _, _, _, rfl, rfl, .of v.li, at_vns hx, _, rfl, rfl, _, rfl, ?_⟩
  rw [vn_dec]
  by_cases e : s.links.getD m 0 = m
  · rw [decide_eq_true e]
    refine ⟨_, rfl, ?_⟩
    rw [← hrx, root_self ok.down e] at h
    exact h
  · rw [decide_eq_false e]
    have hd := ok.down m
    refine ⟨fun σ H3 => H3 = H2 ∧ σ = [some (.ref p), some (vn (s.links.getD m 0))], fun σ' H3 z => ⟨s.links.getD m 0, by omega, z.1, _, rfl, z.2, by omega, by rw [← hrx]; exact root_step ok.down e⟩, ?_⟩
    exact ⟨_, rfl, p, _, dx, _, _, rfl, v.ob, T.c_Values, T.n_Values_links, f_links, _, rfl, _, _, _, _, rfl, rfl, .of v.li, at_vns hx, rfl, rfl⟩
def sp_Values_value_in (P : Program) (w : World) (K : PySem.W.Frag) : Sp := fun vs H Q _ => ∃ (p dx l h f : Addr) (B : Hp) (s : VS) (n b : Nat), vs = [.ref p, vn b] ∧ (VAtX P w (ga K "Values") B H p dx l h f s ∧ s.Ok n ∧ n ≤ 900) ∧
  ∀ H', VAtX P w (ga K "Values") B H' p dx l h f (s.have b) → SameT H H' → Q (vn (s.val b)) H'
-- slots: 0:self 1:box   level 2
abbrev n_Values_value_in : List Str := ["self", "box"]
theorem sc_Values_value_in : FnScope n_Values_value_in ["self", "box"] SL.d_Values_value_in.scope := ⟨rfl, rfl, rfl, by decide +kernel, rfl, by decide +kernel, by decide +kernel⟩
theorem ok_Values_value_in (T : Tx K mg w) : MCal P w K mg base (ga K "Values") "value_in" 2 ["self", "box"] (sp_Values_value_in P w K) := by
  refine MCal.of T.D_Values_value_in T.c_Values T.m_Values_value_in sc_Values_value_in (fun _ _ _ _ _ _ us hl => match us, hl with | [_, _], _ => rfl) (fun vs H Q E h => ?_) fun f cdv A outer s H vs Q E hr h => ?_
  · obtain ⟨p, dx, l, hh, f, B, s, n, b, rfl, _⟩ := h
    rfl
  obtain ⟨p, dx, l, hh, f, B, s, n, b, rfl, v, h⟩ := h
  refine ⟨_, (Evl.pss_cut (ps_if (pt_cmp (pc_dnotin (hu_of hr) (pv 1) (pe_fld (pv 0) rfl))) (pss_one (ps_dput (hu_of hr) (pe_fld (pv 0) rfl) (pv 1) (pe_mth0 (pv 0) (ok_Values_fresh T) (hr.mono (by decide))) rfl)) pss_nil)
    (pss_one (ps_ret (pe_mth (pv 0) (ok_Values_root T) (hr.mono (by decide)) (pa_cons (pe_dget (hu_of hr) (pe_fld (pv 0) rfl) (pv 1) (fun _ _ => rfl)) pa_nil))))), ?_⟩
  obtain ⟨v, ok, hn⟩ := v
  have ll := ok.llen
  have lh := ok.hlen
  refine ⟨fun σ H2 => σ = [some (.ref p), some (vn b)] ∧ VAtX P w (ga K "Values") B H2 p dx l hh f (s.have b) ∧ SameT H H2, ?_, ?_⟩
  · refine ⟨_, rfl, _, rfl, p, _, dx, _, _, rfl, v.ob, T.c_Values, T.n_Values_held, f_held, hh, _, rfl, DGet.k (k := Sum.inl (b : Int)) v.he, _, rfl, ?_⟩
    rw [valV_hk]
    rcases have_cases s b with ⟨u, h1, e⟩ | ⟨h1, e⟩
    · rw [h1, e]
      exact ⟨rfl, v, SameT.refl _⟩
    · rw [h1, e]
      refine ⟨_, rfl, p, dx, _, rfl, v.ob, rfl, p, dx, l, hh, f, B, s, rfl, ⟨v, by omega⟩, fun H2 v2 t2 => ⟨_, rfl, p, _, dx, _, _, rfl, v2.ob, T.c_Values, T.n_Values_held, f_held, _, rfl, hh, _, rfl, DPut.k (k := Sum.inl (b : Int)) v2.he ?_, rfl, ?_, ?_⟩⟩
      · unfold hk
        rw [List.length_map, sizeLine_eq]
        show s.held.length < _
        omega
      · rw [putK_hk v2.nd]
        exact v2.helds (nodup_putN v2.nd)
      · exact t2.trans (sameT_upd v2.he fun xs z => by cases z)
  · rintro _ H2 ⟨rfl, v2, t2⟩
    obtain ⟨u, hu⟩ := have_held s b
    have hul := (ok.have b).held _ (getN_mem hu)
    refine ⟨_, rfl, p, dx, _, rfl, v2.ob, rfl, _, rfl, p, _, dx, _, _, rfl, v2.ob, T.c_Values, T.n_Values_held, f_held, _, rfl, hh, vn u, rfl, ?_, p, dx, l, hh, f, B, s.have b, n + 1, u, rfl, ⟨v2, ok.have b, hul⟩, ?_⟩
    · have := DGet.k (k := (Sum.inl (b : Int) : Key)) v2.he
      rw [valV_hk, hu] at this
      exact this
    · have e : s.val b = (s.have b).root u := by
        unfold VS.val
        rw [hu]
        rfl
      rw [← e]
      exact h _ v2 t2
end
end SL

/-! text OkVal2 -/
set_option Elab.async false
set_option linter.all false
set_option maxRecDepth 100000
set_option maxHeartbeats 4000000
namespace SL
open PySem PySem.Spec L2
section
variable {P : Program} {w : World} {K : PySem.W.Frag} {mg : Str → Option Value} {base : Heap}
/-! form_of, value_of, are_one -/
theorem perm_uniq : ∀ {l m : List Int}, l.Pairwise (· ≤ ·) → m.Pairwise (· ≤ ·) → l.Perm m → l = m
  | [], [], _, _, _ => rfl
  | [], b :: m, _, _, h => absurd h.length_eq (by simp)
  | a :: l, [], _, _, h => absurd h.length_eq (by simp)
  | a :: l, b :: m, hl, hm, h => by
    obtain ⟨l1, l2⟩ := List.pairwise_cons.mp hl
    obtain ⟨m1, m2⟩ := List.pairwise_cons.mp hm
    have e : a = b := by
      rcases List.mem_cons.mp (h.mem_iff.mp List.mem_cons_self) with q | q
      · exact q
      · rcases List.mem_cons.mp (h.mem_iff.mpr List.mem_cons_self) with z | z
        · exact z.symm
        · have := m1 a q
          have := l1 b z
          omega
    subst e
    rw [perm_uniq l2 m2 (List.Perm.cons_inv h)]
theorem insN_perm (a : Nat) : ∀ l : List Nat, (insN a l).Perm (a :: l)
  | [] => List.Perm.refl _
  | b :: r => by
    unfold insN
    split
    · exact List.Perm.refl _
    · exact ((insN_perm a r).cons b).trans (List.Perm.swap a b r)
theorem sortN_perm : ∀ l : List Nat, (sortN l).Perm l
  | [] => List.Perm.refl _
  | a :: r => (insN_perm a (sortN r)).trans ((sortN_perm r).cons a)
theorem insN_sorted {a : Nat} : ∀ {l : List Nat}, l.Pairwise (· ≤ ·) → (insN a l).Pairwise (· ≤ ·)
  | [], _ => by simp [insN]
  | b :: r, h => by
    obtain ⟨h1, h2⟩ := List.pairwise_cons.mp h
    unfold insN
    split
    · rename_i q
      refine List.pairwise_cons.mpr ⟨fun x hx => ?_, h⟩
      rcases List.mem_cons.mp hx with e | e
      · omega
      · have := h1 x e
        omega
    · rename_i q
      refine List.pairwise_cons.mpr ⟨fun x hx => ?_, insN_sorted h2⟩
      rcases insN_mem.mp hx with e | e
      · omega
      · exact h1 x e
theorem sortN_sorted : ∀ l : List Nat, (sortN l).Pairwise (· ≤ ·)
  | [] => List.Pairwise.nil
  | a :: r => insN_sorted (sortN_sorted r)
theorem ni_sortN {l : List Nat} {ms : List Int} (h1 : ms.Perm (ni l)) (h2 : ms.Pairwise (· ≤ ·)) : ms = ni (sortN l) := by
  refine perm_uniq h2 ?_ (h1.trans ((sortN_perm l).symm.map _))
  unfold ni
  rw [List.pairwise_map]
  exact (sortN_sorted l).imp fun h => by omega
theorem in_either (w : Wd) : inV (.str w.str) [.str "add", .str "same", .str "mix"] = w.either := by
  cases w with
  | bin o => cases o <;> rfl
  | _ => rfl
def sp_Values_form_of (P : Program) (w : World) (K : PySem.W.Frag) : Sp := fun vs H Q _ => ∃ (p dx l h f : Addr) (B : Hp) (s : VS) (n : Nat) (t : Addr) (fo : Form), vs = [.ref p, .ref t] ∧ (VAtX P w (ga K "Values") B H p dx l h f s ∧ s.Ok n ∧ KeyTup H t fo ∧ fo.Ok s.links.length) ∧
  ∀ t' H', H t' = none → Same H H' → KeyTup H' t' (s.formOf fo) → Q (.ref t') H'
-- slots: 0:self 1:form 2:now 3:word 4:numbers 5:values 6:value   level 2
abbrev n_Values_form_of : List Str := ["self", "form", "now", "word", "numbers", "values", "value"]
theorem sc_Values_form_of : FnScope n_Values_form_of ["self", "form"] SL.d_Values_form_of.scope := ⟨rfl, rfl, rfl, by decide +kernel, rfl, by decide +kernel, by decide +kernel⟩
theorem ok_Values_form_of (T : Tx K mg w) : MCal P w K mg base (ga K "Values") "form_of" 2 ["self", "form"] (sp_Values_form_of P w K) := by
  refine MCal.of T.D_Values_form_of T.c_Values T.m_Values_form_of sc_Values_form_of (fun _ _ _ _ _ _ us hl => match us, hl with | [_, _], _ => rfl) (fun vs H Q E h => ?_) fun f cdv A outer s H vs Q E hr h => ?_
  · obtain ⟨p, dx, l, hh, f, B, s, n, t, fo, rfl, _⟩ := h
    rfl
  obtain ⟨p, dx, l, hh, f, B, s, n, t, fo, rfl, v, h⟩ := h
  refine ⟨_, (pss_cons (ps_asg (pv 1) (pg_tup rfl (pgs_cons (pg_name (i := 3) sc_Values_form_of.nd rfl (Or.inl rfl)) (pgs_cons (pg_name (i := 4) sc_Values_form_of.nd rfl (Or.inl rfl)) (pgs_cons (pg_name (i := 5) sc_Values_form_of.nd rfl (Or.inl rfl)) pgs_nil)))))
    (pss_cons (ps_setLc (i := 2)  (own := [("value", 6)]) rfl sc_Values_form_of.nd rfl rfl (sw_true rfl rfl rfl (by decide +kernel)) (pi_tup (pv 5)) (blkOk_by (own := [("value", 6)]) (N := n_Values_form_of) (sc := SL.d_Values_form_of.scope) (by decide +kernel)) (fun _ _ _ _ _ => (pg_name (i := 6) sc_Values_form_of.nd rfl (Or.inl rfl))) (fun _ _ _ _ _ => pts_nil) (fun _ _ _ _ _ => (pe_mth (pv 0) (ok_Values_root (P := P) T) (hr.mono (by decide)) (pa_cons (pv 6) pa_nil))))
    (pss_one (ps_ret (pe_tup (pa_cons (pv 3) (pa_cons (pv 4) (pa_cons (pe_callTy call_tuple_of (by rfl) T.f_tuple (by decide +kernel) (pa_cons (pe_ifExp (pt_cmpR op_in_seq (pv 3) (pe_ca (by rfl) T.g_EITHER_ORDER) (by rfl)) (pe_callB cr_sorted (by rfl) T.f_sorted (by decide +kernel) (pa_cons (pv 2) pa_nil)) (pv 2)) pa_nil)) pa_nil)))))))), ?_⟩
  obtain ⟨v, ok, ⟨ta, tb, h1, h2, h3⟩, hf⟩ := v
  have few := hf.few
  refine ⟨_, rfl, t, _, rfl, .of h1, rfl, _, _, rfl, _, _, rfl, _, _, rfl, rfl, _, rfl, tb, rfl, ⟨_, .of h3⟩, fun D nD => ?_⟩
  refine lc_pure walk_tup fo.vals (fun u => [vn (s.root u)]) (List.length_map ..) (by omega) (fun _ => Nat.le_refl _) nD (fun H2 s2 => .of (s2 _ _ h3)) same_yat ?_ ?_
  · rintro i u x H2 H3 Kq N hi s2 ⟨rfl, hx⟩ hK hN
    have hx : (vns fo.vals)[i]? = some x := hx
    rw [get_vns hi] at hx
    cases hx
    have v2 := v.ext s2
    have hu := hf.vals u (List.mem_of_getElem? hi)
    exact ⟨rfl, _, rfl, p, dx, _, rfl, v2.ob, rfl, _, rfl, p, dx, l, hh, f, B, s, n, u, rfl, ⟨v2, ok, hu⟩, hK _ _ (Same.refl _) rfl⟩
  · intro H2 s2 hD
    have e : fo.vals.flatMap (fun u => [vn (s.root u)]) = vns (fo.vals.map s.root) := by
      rw [flat_one]
      unfold vns
      rw [List.map_map]
      rfl
    rw [e] at hD
    refine ⟨_, rfl, _, rfl, _, rfl, _, _, rfl, .inr (T.v_EITHER_ORDER _), rfl, rfl, _, rfl, ?_⟩
    show if inV (.str fo.w.str) [.str "add", .str "same", .str "mix"] = true then _ else _
    rw [in_either]
    have kt : ∀ (vs : List Nat) H4 (y : Addr), Same H2 H4 → H4 y = some (.tup (vns vs)) → vs = (s.formOf fo).vals → ∀ z, H4 z = none → KeyTup (upd H4 z (.tup [.str fo.w.str, .ref ta, .ref y])) z (s.formOf fo) := by
      intro vs H4 y s4 hy e z nz
      refine ⟨ta, y, upd_same, same_new nz _ _ (s4 _ _ (s2 _ _ h2)), ?_⟩
      rw [← e]
      exact same_new nz _ _ hy
    cases q : fo.w.either with
    | true =>
      refine ⟨_, rfl, D, ni (fo.vals.map s.root), rfl, .of (by rw [ni_vns]; exact hD), by rw [len_ni, List.length_map]; omega, fun ns' y perm srt ny => ⟨y, _, rfl, .inl ⟨.of upd_same, fun z nz => ⟨by show 3 ≤ sizeLine; decide, fun x nx => ?_⟩⟩⟩⟩
      rw [ni_sortN perm srt, ni_vns] at *
      have s3 := same_new (o := .lst (vns (sortN (fo.vals.map s.root)))) ny
      have s4 := same_upd (o := .tup (vns (sortN (fo.vals.map s.root)))) s3 nz
      have s5 := same_upd (o := .tup [.str fo.w.str, .ref ta, .ref z]) s4 nx
      refine h x _ (s2.free (s4.free nx)) (s2.trans s5) (kt _ _ z s4 upd_same ?_ x nx)
      unfold VS.formOf
      rw [q]
      rfl
    | false =>
      refine ⟨_, rfl, D, _, rfl, .inl ⟨.of hD, fun z nz => ⟨by show 3 ≤ sizeLine; decide, fun x nx => ?_⟩⟩⟩
      have s4 := same_new (o := .tup (vns (fo.vals.map s.root))) nz
      have s5 := same_upd (o := .tup [.str fo.w.str, .ref ta, .ref z]) s4 nx
      refine h x _ (s2.free (s4.free nx)) (s2.trans s5) (kt _ _ z s4 upd_same ?_ x nx)
      unfold VS.formOf
      rw [q]
      rfl
def sp_Values_value_of (P : Program) (w : World) (K : PySem.W.Frag) : Sp := fun vs H Q _ => ∃ (p dx l h f : Addr) (B : Hp) (s : VS) (n : Nat) (t : Addr) (fo : Form), vs = [.ref p, .ref t] ∧ (VAtX P w (ga K "Values") B H p dx l h f s ∧ s.Ok n ∧ n ≤ 900 ∧ KeyTup H t fo ∧ fo.Ok s.links.length) ∧
  ∀ H', VAtX P w (ga K "Values") B H' p dx l h f (s.haveForm fo) → SameT H H' → Q (vn (s.valOf fo)) H'
-- slots: 0:self 1:form 2:now   level 3
abbrev n_Values_value_of : List Str := ["self", "form", "now"]
theorem sc_Values_value_of : FnScope n_Values_value_of ["self", "form"] SL.d_Values_value_of.scope := ⟨rfl, rfl, rfl, by decide +kernel, rfl, by decide +kernel, by decide +kernel⟩
theorem ok_Values_value_of (T : Tx K mg w) : MCal P w K mg base (ga K "Values") "value_of" 3 ["self", "form"] (sp_Values_value_of P w K) := by
  refine MCal.of T.D_Values_value_of T.c_Values T.m_Values_value_of sc_Values_value_of (fun _ _ _ _ _ _ us hl => match us, hl with | [_, _], _ => rfl) (fun vs H Q E h => ?_) fun f cdv A outer s H vs Q E hr h => ?_
  · obtain ⟨p, dx, l, hh, f, B, s, n, t, fo, rfl, _⟩ := h
    rfl
  obtain ⟨p, dx, l, hh, f, B, s, n, t, fo, rfl, v, h⟩ := h
  refine ⟨_, (pss_cons (ps_set (i := 2) sc_Values_value_of.nd rfl (Or.inl rfl) (pe_mth (pv 0) (ok_Values_form_of T) (hr.mono (by decide)) (pa_cons (pv 1) pa_nil)))
    (Evl.pss_cut (ps_if (pt_cmp (pc_fnotin hr (pv 2) (pe_fld (pv 0) rfl))) (pss_one (ps_fput hr (pe_fld (pv 0) rfl) (pv 2) (pe_mth0 (pv 0) (ok_Values_fresh T) (hr.mono (by decide))) rfl)) pss_nil)
    (pss_one (ps_ret (pe_mth (pv 0) (ok_Values_root T) (hr.mono (by decide)) (pa_cons (pe_fget hr (pe_fld (pv 0) rfl) (pv 2) (fun _ _ => rfl)) pa_nil)))))), ?_⟩
  obtain ⟨v, ok, hn, hk, hf⟩ := v
  have ll := ok.llen
  have lf := ok.flen
  refine ⟨_, rfl, p, dx, _, rfl, v.ob, rfl, _, rfl, p, dx, l, hh, f, B, s, n, t, fo, rfl, ⟨v, ok, hk, hf⟩, fun t' H1 nt s1 hk1 => ?_⟩
  have v1 := v.ext s1
  refine ⟨fun σ H2 => σ = [some (.ref p), some (.ref t), some (.ref t')] ∧ VAtX P w (ga K "Values") B H2 p dx l hh f (s.haveForm fo) ∧ SameT H1 H2, ?_, ?_⟩
  · refine ⟨_, rfl, _, rfl, p, _, dx, _, _, rfl, v1.ob, T.c_Values, T.n_Values_forms, f_forms, f, t', _, _, rfl, rfl, v1.fo, hk1, _, rfl, ?_⟩
    rcases haveForm_cases s fo with ⟨u, h1, e⟩ | ⟨h1, e⟩
    · rw [h1, e]
      exact ⟨rfl, v1, SameT.refl _⟩
    · rw [h1, e]
      refine ⟨_, rfl, p, dx, _, rfl, v1.ob, rfl, p, dx, l, hh, f, B, s, rfl, ⟨v1, by omega⟩, fun H2 v2 t2 => ⟨_, rfl, p, _, dx, _, _, rfl, v2.ob, T.c_Values, T.n_Values_forms, f_forms, _, rfl, f, t', _, _, _, rfl, rfl, rfl, v2.fo, hk1.same t2, h1, by show s.forms.length < _; omega, fun o hd => ⟨rfl, v2.formsd hd, ?_⟩⟩⟩
      obtain ⟨φ, hf2⟩ := fd_ext v2.fo
      exact t2.trans (sameT_upd hf2 fun xs z => by cases z)
  · rintro _ H2 ⟨rfl, v2, t2⟩
    obtain ⟨u, hu⟩ := haveForm_held s fo
    have okf := ok.haveForm hf
    have hul := (okf.forms _ (getN_mem hu)).1
    refine ⟨_, rfl, p, dx, _, rfl, v2.ob, rfl, _, rfl, p, _, dx, _, _, rfl, v2.ob, T.c_Values, T.n_Values_forms, f_forms, _, rfl, f, t', _, _, u, rfl, rfl, v2.fo, hk1.same t2, hu, p, dx, l, hh, f, B, s.haveForm fo, n + 1, u, rfl, ⟨v2, okf, hul⟩, ?_⟩
    have e : s.valOf fo = (s.haveForm fo).root u := by
      unfold VS.valOf
      rw [hu]
      rfl
    rw [← e]
    exact h _ v2 ((SameT.of s1).trans t2)
def sp_Values_are_one (P : Program) (w : World) (K : PySem.W.Frag) : Sp := fun vs H Q _ => ∃ (p dx l h f : Addr) (B : Hp) (s : VS) (n a b : Nat), vs = [.ref p, vn a, vn b] ∧ (VAtX P w (ga K "Values") B H p dx l h f s ∧ s.Ok n ∧ n ≤ 800) ∧
  ∀ H', VAtX P w (ga K "Values") B H' p dx l h f (s.two a b) → SameT H H' → Q (.bl (s.one a b)) H'
-- slots: 0:self 1:box 2:other   level 3
abbrev n_Values_are_one : List Str := ["self", "box", "other"]
theorem sc_Values_are_one : FnScope n_Values_are_one ["self", "box", "other"] SL.d_Values_are_one.scope := ⟨rfl, rfl, rfl, by decide +kernel, rfl, by decide +kernel, by decide +kernel⟩
theorem ok_Values_are_one (T : Tx K mg w) : MCal P w K mg base (ga K "Values") "are_one" 3 ["self", "box", "other"] (sp_Values_are_one P w K) := by
  refine MCal.of T.D_Values_are_one T.c_Values T.m_Values_are_one sc_Values_are_one (fun _ _ _ _ _ _ us hl => match us, hl with | [_, _, _], _ => rfl) (fun vs H Q E h => ?_) fun f cdv A outer s H vs Q E hr h => ?_
  · obtain ⟨p, dx, l, hh, f, B, s, n, a, b, rfl, _⟩ := h
    rfl
  obtain ⟨p, dx, l, hh, f, B, s, n, a, b, rfl, v, h⟩ := h
  refine ⟨_, (pss_one (ps_ret (pe_cmpR op_eq (pe_mth (pv 0) (ok_Values_value_in T) (hr.mono (by decide)) (pa_cons (pv 1) pa_nil)) (pe_mth (pv 0) (ok_Values_value_in T) (hr.mono (by decide)) (pa_cons (pv 2) pa_nil)) (nomark _)))), ?_⟩
  obtain ⟨v, ok, hn⟩ := v
  refine ⟨_, rfl, p, dx, _, rfl, v.ob, rfl, _, rfl, p, dx, l, hh, f, B, s, n, a, rfl, ⟨v, ok, by omega⟩, fun H1 v1 t1 => ⟨_, rfl, p, dx, _, rfl, v1.ob, rfl, _, rfl, p, dx, l, hh, f, B, s.have a, n + 1, b, rfl, ⟨v1, ok.have a, by omega⟩, fun H2 v2 t2 => ⟨rfl, ?_⟩⟩⟩
  rw [vn_dec]
  exact h _ v2 (t1.trans t2)
/-! alike -/
def sp_Values_alike (P : Program) (w : World) (K : PySem.W.Frag) : Sp := fun vs H Q _ => ∃ (p dx l h f : Addr) (B : Hp) (s : VS) (n : Nat), vs = [.ref p] ∧ (VAtX P w (ga K "Values") B H p dx l h f s ∧ s.Ok n ∧ n ≤ 900) ∧
  ∀ q f' H', VAtX P w (ga K "Values") B H' p dx l h f' s.alike.1 → SameT H H' → H q = none → LPairs H' q s.alike.2 → Q (.ref q) H'
theorem rel_vn {q : FX} {p : Form × Nat} {H : Hp} (h : FEnt H p q) : ∃ n : Nat, RelV (vn n) q.2.2 := ⟨p.2, h.2.2⟩
theorem vn_rel {a b : Nat} {u : Value} (h1 : RelV (vn a) u) (h2 : RelV (vn b) u) : a = b := by
  obtain ⟨t, e⟩ := h1
  obtain ⟨t', e'⟩ := h2
  rw [e] at e'
  have : (a : Int) = (b : Int) := by injection e'
  omega
theorem vint_of {y : V} {a : Nat} {u : Value} (h1 : RelV (vn a) u) (h2 : RelV y u) : y = vn a := by
  obtain ⟨t, e⟩ := h1
  subst e
  cases y with
  | int i =>
    obtain ⟨t', e'⟩ := h2
    injection e' with e1
    rw [← e1]
    rfl
  | non => cases h2
  | bl b => cases h2
  | str z => obtain ⟨t', e'⟩ := h2; cases e'
  | byt z => obtain ⟨t', e'⟩ := h2; cases e'
  | flt z => obtain ⟨t', e'⟩ := h2; cases e'
  | ref z => cases h2
  | _ => cases h2
theorem upd_comm {H : Hp} {a b : Addr} {o u : HO} (h : a ≠ b) : upd (upd H a o) b u = upd (upd H b u) a o := by
  funext x
  by_cases e1 : x = a
  · subst e1
    rw [upd_ne h, upd_same, upd_same]
  · by_cases e2 : x = b
    · subst e2
      rw [upd_same, upd_ne e1, upd_same]
    · rw [upd_ne e2, upd_ne e1, upd_ne e1, upd_ne e2]
theorem upd_upd {H : Hp} {a : Addr} {o u : HO} : upd (upd H a o) a u = upd H a u := by
  funext x
  by_cases e1 : x = a
  · subst e1
    rw [upd_same, upd_same]
  · rw [upd_ne e1, upd_ne e1, upd_ne e1]
def AlI (P : Program) (w : World) (C : Addr) (B H0 : Hp) (p dx l hh f : Addr) (s : VS) (kd fl : Addr) (ep : Nat) (xs : List FX) (H2 : Hp) (known : List (Form × Nat)) (found : List (Nat × Nat)) : Prop :=
  ∃ (okd : HO) (as : List Addr), VAtX P w C (upd (upd B kd okd) fl (.lst (as.map V.ref))) H2 p dx l hh f s ∧ FDat P w H2 kd known ∧ Paired (PairAt H2) as found ∧ H2 f = some (FDo P w f ep xs) ∧ SameT H0 H2 ∧ H2 kd = some okd
section
variable {C : Addr} {B H0 H2 H3 : Hp} {p dx l hh f kd fl : Addr} {s : VS} {ep : Nat} {xs : List FX} {known : List (Form × Nat)} {found : List (Nat × Nat)}
theorem AlI.ext (i : AlI P w C B H0 p dx l hh f s kd fl ep xs H2 known found) (e : Same H2 H3) : AlI P w C B H0 p dx l hh f s kd fl ep xs H3 known found :=
  let ⟨okd, as, v, k, r, hf, t, z⟩ := i; ⟨okd, as, v.ext e, k.same (fun o z => e _ _ z) (fun a xs z => e _ _ z), Paired.mapP r fun _ _ z => z.mono (.of e), e _ _ hf, t.trans (.of e), e _ _ z⟩
theorem AlI.know {o : HO} {known' : List (Form × Nat)} (i : AlI P w C B H0 p dx l hh f s kd fl ep xs H2 known found) (hn : kd ≠ fl) (hd : FDat P w (upd H2 kd o) kd known') : AlI P w C B H0 p dx l hh f s kd fl ep xs (upd H2 kd o) known' found := by
  obtain ⟨okd, as, v, k, r, hf, t, z⟩ := i
  obtain ⟨φ, hk⟩ := fd_ext k
  have hb : upd (upd B kd okd) fl (.lst (as.map V.ref)) kd = some okd := by rw [upd_ne hn, upd_same]
  have ht : ∀ ys, okd ≠ .tup ys := fun ys e => by rw [hk, e] at z; cases z
  have v2 := v.put (o' := o) hb ht
  rw [upd_comm hn.symm, upd_upd] at v2
  have st : SameT H2 (upd H2 kd o) := sameT_upd z ht
  have nf : f ≠ kd := fun e => by
    have := v.off.free f (by simp)
    rw [e, hb] at this
    cases this
  exact ⟨o, as, v2, hd, Paired.mapP r fun _ _ z => z.mono st, by rw [upd_ne nf]; exact hf, t.trans st, upd_same⟩
theorem AlI.lst (i : AlI P w C B H0 p dx l hh f s kd fl ep xs H2 known found) : ∃ as : List Addr, H2 fl = some (.lst (as.map V.ref)) ∧ as.length = found.length := by
  obtain ⟨okd, as, v, k, r, hf, t, z⟩ := i
  exact ⟨as, v.off.same _ _ upd_same, paired_len r⟩
theorem AlI.find {ys : List V} {t : Addr} {a b : Nat} (i : AlI P w C B H0 p dx l hh f s kd fl ep xs H2 known found) (hn : kd ≠ fl) (hl : H2 fl = some (.lst ys)) (ht : PairAt H2 t (a, b)) : AlI P w C B H0 p dx l hh f s kd fl ep xs (upd H2 fl (.lst (ys ++ [.ref t]))) known (found ++ [(a, b)]) := by
  obtain ⟨okd, as, v, k, r, hf, tt, z⟩ := i
  have e : ys = as.map V.ref := by
    have h2 := v.off.same _ _ upd_same
    rw [hl] at h2
    injection h2 with h2
    injection h2
  subst e
  have v2 := v.put (a := fl) (o' := .lst ((as ++ [t]).map V.ref)) upd_same fun xs z => by cases z
  rw [upd_upd] at v2
  have st : SameT H2 (upd H2 fl (.lst ((as ++ [t]).map V.ref))) := sameT_upd hl fun xs z => by cases z
  have nf : f ≠ fl := fun e => by
    have := v.off.free f (by simp)
    rw [e, upd_same] at this
    cases this
  have em : as.map V.ref ++ [V.ref t] = (as ++ [t]).map V.ref := by rw [List.map_append]; rfl
  rw [em]
  exact ⟨okd, as ++ [t], v2, k.same (fun o z => by rw [upd_ne hn]; exact z) st, (Paired.mapP r fun _ _ z => z.mono st).snoc (ht.mono st), by rw [upd_ne nf]; exact hf, tt.trans st, by rw [upd_ne hn]; exact z⟩
end
def alH (P : Program) (w : World) (H : Hp) (kd : Addr) (ep0 : Nat) (fl : Addr) : Hp := upd (upd H kd (FDo P w kd ep0 [])) fl (.lst [])
-- slots: 0:self 1:known 2:found 3:form 4:value 5:elder   level 3
abbrev n_Values_alike : List Str := ["self", "known", "found", "form", "value", "elder"]
theorem sc_Values_alike : FnScope n_Values_alike ["self"] SL.d_Values_alike.scope := ⟨rfl, rfl, rfl, by decide +kernel, rfl, by decide +kernel, by decide +kernel⟩
theorem ok_Values_alike (T : Tx K mg w) : MCal P w K mg base (ga K "Values") "alike" 3 ["self"] (sp_Values_alike P w K) := by
  refine MCal.of T.D_Values_alike T.c_Values T.m_Values_alike sc_Values_alike (fun _ _ _ _ _ _ us hl => match us, hl with | [_], _ => rfl) (fun vs H Q E h => ?_) fun f cdv A outer s H vs Q E hr h => ?_
  · obtain ⟨p, dx, l, hh, f, B, s, n, rfl, _⟩ := h
    rfl
  obtain ⟨p, dx, l, hh, f, B, s, n, rfl, v, h⟩ := h
  refine ⟨_, (pss_cons (ps_set (i := 1) sc_Values_alike.nd rfl (Or.inl rfl) pe_dnewF)
    (pss_cons (ps_set (i := 2) sc_Values_alike.nd rfl (Or.inl rfl) (pe_lst pa_nil))
    (pss_cons (ps_for PassesOwn.never rfl (pi_fitems (pe_fld (pv 0) rfl)) (pg_tup rfl (pgs_cons (pg_name (i := 3) sc_Values_alike.nd rfl (Or.inl rfl)) (pgs_cons (pg_name (i := 4) sc_Values_alike.nd rfl (Or.inl rfl)) pgs_nil)))
    (Evl.pss_cut (ps_set (i := 5) sc_Values_alike.nd rfl (Or.inl rfl) (pe_fsetd hr (pv 1) (pe_mth (pv 0) (ok_Values_form_of T) (hr.mono (by decide)) (pa_cons (pv 3) pa_nil)) (pv 4) ⟨rfl, rfl, rfl, rfl⟩))
    (pss_one (ps_if (pt_cmpR op_ne (pe_mth (pv 0) (ok_Values_root T) (hr.mono (by decide)) (pa_cons (pv 5) pa_nil)) (pe_mth (pv 0) (ok_Values_root T) (hr.mono (by decide)) (pa_cons (pv 4) pa_nil)) (nomark _)) (pss_one (ps_expr (pe_bm PySem.F.plainAttrs_list PySem.F.slot_list_append PySem.F.type_list_append mt_append (pv 2) (pa_cons (pe_tup (pa_cons (pv 5) (pa_cons (pv 4) pa_nil))) pa_nil)))) pss_nil))))
    (pss_cons (ps_fld (pv 0) (pv 1) rfl)
    (pss_one (ps_ret (pv 2))))))), ?_⟩
  obtain ⟨v, ok, hn⟩ := v
  have lf := ok.flen
  refine fun kd nk ep0 => ?_
  have v1 := v.grow (o := FDo P w kd ep0 []) nk
  refine ⟨z0, fun fl nf => ?_⟩
  have v2 := v1.grow (o := .lst []) nf
  have nkf : kd ≠ fl := ne_of_none upd_same nf
  obtain ⟨ep, xs, hd, hp⟩ := id v2.fo
  have hBk : B kd = none := v.off.same.free nk
  have i0 : AlI P w (ga K "Values") B H p dx l hh f s kd fl ep xs (upd (upd H kd (FDo P w kd ep0 [])) fl (.lst [])) [] [] :=
    ⟨_, [], v2, ⟨ep0, [], by rw [upd_ne nkf]; exact upd_same, .nil⟩, .nil, hd, (SameT.of (same_new nk)).trans (.of (same_new nf)), by rw [upd_ne nkf]; exact upd_same⟩
  have hlx : xs.length = s.forms.length := (paired_len hp).symm
  have t0 := (SameT.of (same_new (o := FDo P w kd ep0 []) nk)).trans (.of (same_new (o := .lst []) nf))
  refine ⟨_, rfl, p, _, dx, _, _, rfl, v2.ob, T.c_Values, T.n_Values_forms, f_forms, f, ep, xs, rfl, hd, fun q hq => ?_, ?_⟩
  · obtain ⟨i, hi⟩ := List.getElem?_of_mem hq
    obtain ⟨pr, _, hpr⟩ := paired_get hp hi
    exact rel_vn hpr
  refine for_it walk_fitems (fun i σ H2 => ∃ v3 v4 v5 known found, σ = [some (.ref p), some (.ref kd), some (.ref fl), v3, v4, v5] ∧ AlI P w (ga K "Values") B (alH P w H kd ep0 fl) p dx l hh f s kd fl ep xs H2 known found ∧
      alikeF s (s.forms.drop i) known found = alikeF s s.forms [] [] ∧ known.length ≤ i ∧ found.length ≤ i ∧ (∀ q ∈ known, q.2 < s.links.length)) ⟨none, none, none, [], [], rfl, ?_, rfl, Nat.zero_le _, Nat.zero_le _, fun q hq => by cases hq⟩ (fun i σ H2 _ z => ?_) ?_ ?_
  · obtain ⟨okd, as, a1, a2, a3, a4, a5, a6⟩ := i0
    exact ⟨okd, as, a1, a2, a3, a4, SameT.refl _, a6⟩
  · obtain ⟨_, _, _, known, found, _, ⟨okd, as, a1, a2, a3, a4, a5, a6⟩, _⟩ := z
    exact a4
  · rintro i x σ H2 H3 hi ⟨v3, v4, v5, known, found, rfl, I, hA, lk, lfd, hkn⟩ ⟨t, x1, y1, rfl, nt, rfl, q, hq, rfl, ry⟩
    obtain ⟨pr, hpr, e1, e2, e3⟩ := paired_get hp hq
    have ey := vint_of e3 ry
    subst ey
    have hin : pr ∈ s.forms := List.mem_of_getElem? hpr
    obtain ⟨hv, hfo⟩ := ok.forms pr hin
    have hdrop : s.forms.drop i = pr :: s.forms.drop (i + 1) := by
      rw [List.drop_eq_getElem_cons (by omega)]
      congr 1
      rw [List.getElem?_eq_getElem (by omega)] at hpr
      exact Option.some.inj hpr
    have I3 := I.ext (same_new (o := .tup [.ref q.2.1, vn pr.2]) nt)
    have I3' := I3
    generalize hH3 : upd H2 t (.tup [.ref q.2.1, vn pr.2]) = H3 at *
    obtain ⟨okd, as, a1, a2, a3, a4, a5, a6⟩ := id I3
    have hT : H3 t = some (.tup [.ref q.2.1, vn pr.2]) := by rw [← hH3]; exact upd_same
    refine ⟨t, _, rfl, .of hT, rfl, _, _, rfl, _, _, rfl, rfl, ?_⟩
    refine ⟨fun σ5 H5 => σ5 = [some (.ref p), some (.ref kd), some (.ref fl), some (.ref q.2.1), some (vn pr.2), some (vn ((getN known (s.formOf pr.1)).getD pr.2))] ∧
      AlI P w (ga K "Values") B (alH P w H kd ep0 fl) p dx l hh f s kd fl ep xs H5 (match getN known (s.formOf pr.1) with | some _ => known | none => putN known (s.formOf pr.1) pr.2) found, ?_, ?_⟩
    · obtain ⟨epk, xsk, hkd, _⟩ := id a2
      refine ⟨_, rfl, ⟨kd, epk, xsk, rfl, hkd⟩, _, rfl, p, dx, _, rfl, a1.ob, rfl, _, rfl, p, dx, l, hh, f, _, s, n, q.2.1, pr.1, rfl, ⟨a1, ok, e2.same a5, hfo⟩, fun t' H4 nt' s4 hk4 => ⟨_, rfl, kd, t', _, known, pr.2, rfl, rfl, rfl, a2.same (fun o z => s4 _ _ z) (fun a xs z => s4 _ _ z), hk4, by omega, fun u hu => ?_, fun hu o hdo => ?_⟩⟩
      · rw [hu]
        exact ⟨rfl, I3.ext s4⟩
      · rw [hu]
        exact ⟨rfl, (I3.ext s4).know nkf hdo⟩
    · rintro _ H5 ⟨rfl, I5⟩
      have he : (getN known (s.formOf pr.1)).getD pr.2 < s.links.length := by
        cases e : getN known (s.formOf pr.1) with
        | none => exact hv
        | some u => exact hkn _ (getN_mem e)
      have hk2 : ∀ q ∈ (match getN known (s.formOf pr.1) with | some _ => known | none => putN known (s.formOf pr.1) pr.2), q.2 < s.links.length := by
        cases e : getN known (s.formOf pr.1) with
        | none =>
          intro q hq
          rcases putN_mem hq with z | z
          · exact hkn q z
          · rw [z]
            exact hv
        | some u => exact hkn
      have hl2 : (match getN known (s.formOf pr.1) with | some _ => known | none => putN known (s.formOf pr.1) pr.2).length ≤ i + 1 := by
        cases e : getN known (s.formOf pr.1) with
        | none =>
          have := putN_len (k := s.formOf pr.1) (v := pr.2) (l := known)
          show (putN known (s.formOf pr.1) pr.2).length ≤ i + 1
          omega
        | some u => exact Nat.le_succ_of_le lk
      rw [hdrop] at hA
      have hA : alikeF s (s.forms.drop (i + 1)) (match getN known (s.formOf pr.1) with | some _ => known | none => putN known (s.formOf pr.1) pr.2) (if s.root ((getN known (s.formOf pr.1)).getD pr.2) ≠ s.root pr.2 then found ++ [((getN known (s.formOf pr.1)).getD pr.2, pr.2)] else found) = alikeF s s.forms [] [] := hA
      generalize (match getN known (s.formOf pr.1) with | some _ => known | none => putN known (s.formOf pr.1) pr.2) = known' at *
      generalize (getN known (s.formOf pr.1)).getD pr.2 = el at *
      obtain ⟨okd5, as5, b1, b2, b3, b4, b5, b6⟩ := id I5
      refine ⟨_, rfl, p, dx, _, rfl, b1.ob, rfl, _, rfl, p, dx, l, hh, f, _, s, n, el, rfl, ⟨b1, ok, he⟩, _, rfl, p, dx, _, rfl, b1.ob, rfl, _, rfl, p, dx, l, hh, f, _, s, n, pr.2, rfl, ⟨b1, ok, hv⟩, rfl, _, rfl, ?_⟩
      rw [vn_dec]
      by_cases e : s.root el = s.root pr.2
      · rw [decide_eq_true e]
        rw [if_neg (fun z => z e)] at hA
        exact ⟨_, _, _, known', found, rfl, I5, hA, hl2, Nat.le_succ_of_le lfd, hk2⟩
      · rw [decide_eq_false e]
        rw [if_pos e] at hA
        obtain ⟨as6, hl6, hlen6⟩ := I5.lst
        refine ⟨_, rfl, .inl ⟨rfl, _, .of hl6⟩, _, rfl, _, rfl, by show 2 ≤ sizeLine; decide, fun T nT => ⟨fl, _, _, rfl, rfl, same_new nT _ _ hl6, by rw [List.length_map]; exact small_of (by omega), ?_⟩⟩
        have I6 := I5.ext (same_new (o := .tup [vn el, vn pr.2]) nT)
        exact ⟨_, _, _, known', found ++ [(el, pr.2)], rfl, I6.find nkf (same_new nT _ _ hl6) upd_same, hA, hl2, by rw [List.length_append]; show found.length + 1 ≤ i + 1; omega, hk2⟩
  · rintro σ H2 ⟨v3, v4, v5, known, found, rfl, ⟨okd, as, a1, a2, a3, a4, a5, a6⟩, hA, lk, lfd, hkn⟩
    rw [hlx, List.drop_length] at hA
    have e1 : s.alike.1 = { s with forms := known } := by
      unfold VS.alike
      rw [← hA]
      rfl
    have e2 : s.alike.2 = found := by
      unfold VS.alike
      rw [← hA]
      rfl
    have hBf : B fl = none := v.off.same.free (by
      by_cases q : fl = kd
      · exact absurd q.symm nkf
      · rwa [upd_ne q] at nf)
    have sB : Same B (upd (upd B kd okd) fl (.lst (as.map V.ref))) := (same_new hBk).trans (same_new (by rw [upd_ne nkf.symm]; exact hBf))
    have a1' := (a1.le sB).newf a2 hBk
    refine ⟨_, rfl, _, rfl, p, _, dx, _, rfl, a1.ob, T.c_Values, T.n_Values_forms, by show 4 < 1000; decide, _, rfl, ?_⟩
    have hl : H2 fl = some (.lst (as.map V.ref)) := a1.off.same _ _ upd_same
    have st : SameT H2 (upd H2 p (.ins (ga K "Values") dx (vsF l hh kd s.puts))) := sameT_upd a1.ob fun xs z => by cases z
    have np : fl ≠ p := ne_of hl a1.ob (by intro z; cases z)
    refine h fl kd _ (by rw [e1]; exact a1') (t0.trans (a5.trans st)) ?_ ?_
    · by_cases q : fl = kd
      · exact absurd q.symm nkf
      · rwa [upd_ne q] at nf
    · rw [e2]
      exact ⟨as, by rw [upd_ne np]; exact hl, Paired.mapP a3 fun _ _ z => z.mono st⟩
end
end SL

/-! text OkVal3 -/
set_option Elab.async false
set_option linter.all false
set_option maxRecDepth 100000
set_option maxHeartbeats 4000000
namespace SL
open PySem PySem.Spec L2
section
variable {P : Program} {w : World} {K : PySem.W.Frag} {mg : Str → Option Value} {base : Heap}
/-! lists of pairs as data -/
def pdq (ws : List (Nat × Nat)) : List PyData := ws.map fun q => PyData.tuple [.int (q.1 : Int), .int (q.2 : Int)]
theorem dp_pairs {H : Hp} : ∀ {as : List Addr} {ws : List (Nat × Nat)}, Paired (PairAt H) as ws → DpAll K H (as.map V.ref) (pdq ws)
  | [], [], .nil => .nil
  | _ :: _, _ :: _, .cons r t => .cons (.tup (.of r) (.cons (.int _) (.cons (.int _) .nil))) (dp_pairs t)
theorem lay_pdq : ∀ ws : List (Nat × Nat), PyData.canLayAll0 (pdq ws) = true
  | [] => rfl
  | q :: r => by
    show (PyData.canLay0 (.tuple [.int (q.1 : Int), .int (q.2 : Int)]) && PyData.canLayAll0 (pdq r)) = true
    rw [lay_pdq r]
    rfl
theorem depth_pdq : ∀ ws : List (Nat × Nat), PyData.depthAll (pdq ws) ≤ 4
  | [] => by decide
  | q :: r => by
    show max (PyData.depth (.tuple [.int (q.1 : Int), .int (q.2 : Int)])) (PyData.depthAll (pdq r)) ≤ 4
    exact Nat.max_le.mpr ⟨by simp [PyData.depth, PyData.depthAll], depth_pdq r⟩
theorem shaped_pdq (ws : List (Nat × Nat)) : SeqAt.shaped (.list (pdq ws)) = true := by
  unfold SeqAt.shaped
  rw [show PyData.canLay0 (.list (pdq ws)) = PyData.canLayAll0 (pdq ws) from rfl, lay_pdq, Bool.true_and]
  refine decide_eq_true ?_
  show PyData.depthAll (pdq ws) + 1 ≤ 64
  have := depth_pdq ws
  omega
theorem eqv_pdq_nil (ws : List (Nat × Nat)) : PyData.eqv (.list (pdq ws)) (.list (pd [])) = decide (ws = []) := by
  cases ws with
  | nil => rfl
  | cons a r =>
    show false = _
    exact (decide_eq_false (by simp)).symm
theorem ixN_nat {n k : Nat} (h : k < n) : ixN n (k : Int) = some k := by
  unfold ixN
  rw [if_pos (by omega), if_pos (by omega)]
  congr 1
theorem set_vns (l : List Nat) (i v : Nat) : (vns l).set i (vn v) = vns (l.set i v) := by
  unfold vns
  rw [List.map_set]
theorem sortN2 (a b : Nat) : sortN [a, b] = [min a b, max a b] := by
  show (if a ≤ b then [a, b] else [b, a]) = _
  by_cases h : a ≤ b
  · rw [if_pos h, Nat.min_eq_left h, Nat.max_eq_right h]
  · rw [if_neg h, Nat.min_eq_right (by omega), Nat.max_eq_left (by omega)]
theorem joinF_nil (m : Nat) (s : VS) : joinF m s [] = s := by
  cases m with
  | zero => rfl
  | succ m => rfl
def JoI (P : Program) (w : World) (C : Addr) (B H0 : Hp) (p dx l hh W : Addr) (n : Nat) (s : VS) (ws : List (Nat × Nat)) (H2 : Hp) : Prop :=
  ∃ (f : Addr) (as : List Addr), VAtX P w C (upd B W (.lst (as.map V.ref))) H2 p dx l hh f s ∧ Paired (PairAt H2) as ws ∧ s.Ok n ∧ PairsLt s.links.length ws ∧ SameT H0 H2
theorem paired_drop {α β : Type} {F : α → β → Prop} : ∀ {l₁ : List α} {l₂ : List β}, Paired F l₁ l₂ → Paired F l₁.dropLast l₂.dropLast
  | _, _, .nil => .nil
  | [_], [_], .cons _ .nil => .nil
  | _ :: _ :: _, _ :: _ :: _, .cons r (.cons r2 t) => .cons r (paired_drop (.cons r2 t))
theorem paired_app {α β : Type} {F : α → β → Prop} : ∀ {l₁ m₁ : List α} {l₂ m₂ : List β}, Paired F l₁ l₂ → Paired F m₁ m₂ → Paired F (l₁ ++ m₁) (l₂ ++ m₂)
  | _, _, _, _, .nil, h => h
  | _, _, _, _, .cons r t, h => .cons r (paired_app t h)
theorem len_le_mu (s : VS) (ws : List (Nat × Nat)) : ws.length ≤ s.mu ws := Nat.le_add_left _ _
def sp_Values_join (P : Program) (w : World) (K : PySem.W.Frag) : Sp := fun vs H Q _ => ∃ (p dx l h f : Addr) (B : Hp) (s : VS) (n a b : Nat), vs = [.ref p, vn a, vn b] ∧ (VAtX P w (ga K "Values") B H p dx l h f s ∧ s.Ok n ∧ n ≤ 300 ∧ a < s.links.length ∧ b < s.links.length) ∧
  ∀ f' H', VAtX P w (ga K "Values") B H' p dx l h f' (s.join a b) → SameT H H' → Q .non H'
-- slots: 0:self 1:one 2:other 3:waiting 4:first 5:second 6:value   level 4
abbrev n_Values_join : List Str := ["self", "one", "other", "waiting", "first", "second", "value"]
theorem sc_Values_join : FnScope n_Values_join ["self", "one", "other"] SL.d_Values_join.scope := ⟨rfl, rfl, rfl, by decide +kernel, rfl, by decide +kernel, by decide +kernel⟩
theorem ok_Values_join (T : Tx K mg w) : MCal P w K mg base (ga K "Values") "join" 4 ["self", "one", "other"] (sp_Values_join P w K) := by
  refine MCal.of T.D_Values_join T.c_Values T.m_Values_join sc_Values_join (fun _ _ _ _ _ _ us hl => match us, hl with | [_, _, _], _ => rfl) (fun vs H Q E h => ?_) fun f cdv A outer s H vs Q E hr h => ?_
  · obtain ⟨p, dx, l, hh, f, B, s, n, a, b, rfl, _⟩ := h
    rfl
  obtain ⟨p, dx, l, hh, f, B, s, n, a, b, rfl, v, h⟩ := h
  refine ⟨_, (pss_cons (ps_set (i := 3) sc_Values_join.nd rfl (Or.inl rfl) (pe_lst (pa_cons (pe_tup (pa_cons (pv 1) (pa_cons (pv 2) pa_nil))) pa_nil)))
    (pss_one (ps_while PassesOwn.never (pt_cmpR (op_neD hr.units) (pv 3) (pe_lst pa_nil) (nomark _)) (pss_cons (ps_asg (pe_callB cr_sorted (by rfl) T.f_sorted (by decide +kernel) (pa_cons (pe_lc (own := [("value", 6)]) rfl sc_Values_join.nd (pi_tup (pe_bm0 PySem.F.plainAttrs_list PySem.F.slot_list_pop PySem.F.type_list_pop mt_pop (pv 3))) (blkOk_by (own := [("value", 6)]) (N := n_Values_join) (sc := SL.d_Values_join.scope) (by decide +kernel)) (fun _ _ _ _ _ => (pg_name (i := 6) sc_Values_join.nd rfl (Or.inl rfl))) (fun _ _ _ _ _ => pts_nil) (fun _ _ _ _ _ => (pe_mth (pv 0) (ok_Values_root (P := P) T) (hr.mono (by decide)) (pa_cons (pv 6) pa_nil)))) pa_nil)) (pg_unl rfl (pgs_cons (pg_name (i := 4) sc_Values_join.nd rfl (Or.inl rfl)) (pgs_cons (pg_name (i := 5) sc_Values_join.nd rfl (Or.inl rfl)) pgs_nil))))
    (pss_cons (ps_asg (pv 4) (pg_sub (pe_fld (pv 0) rfl) (pv 5) set_list))
    (pss_one (ps_if (pt_cmpR op_ne (pv 4) (pv 5) (nomark _)) (pss_one (ps_expr (pe_bm PySem.F.plainAttrs_list PySem.F.slot_list_extend PySem.F.type_list_extend mt_extend (pv 3) (pa_cons (pe_mth0 (pv 0) (ok_Values_alike T) (hr.mono (by decide))) pa_nil)))) pss_nil))))))), ?_⟩
  obtain ⟨v, ok, hn, ha, hb⟩ := v
  have hmu : s.mu [(a, b)] ≤ 95000 := by
    unfold VS.mu
    have h1 := roots_le s
    have h2 := ok.llen
    have h3 := ok.flen
    have h4 : s.roots * (s.forms.length + 1) ≤ 300 * 301 := Nat.mul_le_mul (by omega) (by omega)
    show s.roots * (s.forms.length + 1) + 1 ≤ 95000
    omega
  refine ⟨_, rfl, _, rfl, by show 2 ≤ sizeLine; decide, fun t nt => ⟨by show 1 ≤ sizeLine; decide, fun W nW => ?_⟩⟩
  have v1 := (v.ext (same_new (o := .tup [vn a, vn b]) nt)).grow (o := .lst ([t].map V.ref)) nW
  have hBW : B W = none := v.off.same.free ((same_new nt).free nW)
  have s1 := (same_new (o := .tup [vn a, vn b]) nt).trans (same_new (o := .lst ([t].map V.ref)) nW)
  refine ⟨fun m σ H2 => ∃ (s' : VS) (ws : List (Nat × Nat)) (o4 o5 o6 : Option V), σ = [some (.ref p), some (vn a), some (vn b), some (.ref W), o4, o5, o6] ∧ JoI P w (ga K "Values") B H p dx l hh W n s' ws H2 ∧ s'.mu ws ≤ m ∧ m ≤ 95000 ∧ joinF m s' ws = s.join a b,
    ⟨s.mu [(a, b)], s, [(a, b)], none, none, none, rfl, ⟨f, [t], v1, .cons (same_new nW _ _ upd_same) .nil, ok, fun q hq => by rw [List.mem_singleton.mp hq]; exact ⟨ha, hb⟩, .of s1⟩, Nat.le_refl _, hmu, rfl⟩, ?_⟩
  rintro m σ H2 ⟨s', ws, o4, o5, o6, rfl, ⟨f2, as, v2, pr, ok2, hlt, t2⟩, hm, hm2, hj⟩
  have hW2 : H2 W = some (.lst (as.map V.ref)) := v2.off.same _ _ upd_same
  refine ⟨_, rfl, z0, fun e ne => ⟨_, _, .lst (.of (same_new ne _ _ hW2)) (dp_pairs (Paired.mapP pr fun _ _ z => z.mono (.of (same_new ne)))), dp_nilL upd_same, shaped_pdq ws, shaped_lst [], _, rfl, ?_⟩⟩
  rw [eqv_pdq_nil]
  have v3 := v2.ext (same_new (o := .lst []) ne)
  have pr3 := Paired.mapP pr fun _ _ z => z.mono (.of (same_new (o := .lst []) ne))
  have t3 := t2.trans (.of (same_new (o := .lst []) ne))
  have hW3 := same_new (o := .lst []) ne _ _ hW2
  generalize upd H2 e (.lst []) = H3 at *
  cases q : ws.getLast? with
  | none =>
    have ew : ws = [] := List.getLast?_eq_none_iff.mp q
    subst ew
    rw [joinF_nil] at hj
    subst hj
    exact h f2 _ (v3.le (same_new hBW)) t3
  | some z =>
    obtain ⟨hne, hz⟩ := getLast_some q
    rw [decide_eq_false hne]
    have hlen : as.length = ws.length := paired_len pr3
    have hwl := len_le_mu s' ws
    have hpos := List.length_pos_iff.mpr hne
    have hzi : ws[ws.length - 1]? = some z := by rw [← List.getLast?_eq_getElem?]; exact q
    obtain ⟨y, hy, hY⟩ := paired_get pr3 hzi
    have hy2 : (as.map V.ref)[(as.map V.ref).length - 1]? = some (.ref y) := by rw [List.length_map, hlen, List.getElem?_map, hy]; rfl
    obtain ⟨hz1, hz2⟩ := hlt z hz
    have v4 := v3.put (a := W) (o' := .lst (as.map V.ref).dropLast) upd_same fun xs z => by cases z
    rw [upd_upd] at v4
    have st4 : SameT H3 (upd H3 W (.lst (as.map V.ref).dropLast)) := sameT_upd hW3 fun xs z => by cases z
    have pr4 := Paired.mapP (paired_drop pr3) fun _ _ z => z.mono st4
    have t4 := t3.trans st4
    have hY4 := hY.mono st4
    have hr1 := ok2.root_lt hz1
    have hr2 := ok2.root_lt hz2
    obtain ⟨k, rfl⟩ : ∃ k, m = k + 1 := ⟨m - 1, by omega⟩
    refine ⟨fun σ' H' => ∃ m', m' < k + 1 ∧ ∃ (s' : VS) (ws : List (Nat × Nat)) (o4 o5 o6 : Option V), σ' = [some (.ref p), some (vn a), some (vn b), some (.ref W), o4, o5, o6] ∧ JoI P w (ga K "Values") B H p dx l hh W n s' ws H' ∧ s'.mu ws ≤ m' ∧ m' ≤ 95000 ∧ joinF m' s' ws = s.join a b, fun σ' H' z => z, ?_⟩
    refine ⟨_, rfl, .inl ⟨rfl, _, .of hW3⟩, W, _, _, rfl, rfl, hW3, hy2, y, rfl, ⟨_, .of hY4⟩, fun D nD => ?_⟩
    refine lc_pure walk_tup [z.1, z.2] (fun u => [vn (s'.root u)]) rfl (by show 2 ≤ 1000; decide) (fun _ => Nat.le_refl _) nD (fun H5 s5 => .of (s5 _ _ hY4)) same_yat ?_ ?_
    · rintro i u x H5 H6 Kq N hi s5 ⟨rfl, hx⟩ hK hN
      have hx : (vns [z.1, z.2])[i]? = some x := hx
      rw [get_vns hi] at hx
      cases hx
      have hu : u < s'.links.length := by
        have := List.mem_of_getElem? hi
        rcases List.mem_cons.mp this with e | e
        · rw [e]
          exact hz1
        · rw [List.mem_singleton.mp e]
          exact hz2
      have v5 := v4.ext s5
      exact ⟨rfl, _, rfl, p, dx, _, rfl, v5.ob, rfl, _, rfl, p, dx, l, hh, f2, _, s', n, u, rfl, ⟨v5, ok2, hu⟩, hK _ _ (Same.refl _) rfl⟩
    · intro H5 s5 hD
      have eD : [z.1, z.2].flatMap (fun u => [vn (s'.root u)]) = vns [s'.root z.1, s'.root z.2] := rfl
      rw [eD] at hD
      refine ⟨D, ni [s'.root z.1, s'.root z.2], rfl, .of (by rw [ni_vns]; exact hD), by show 2 < 64; decide, fun ns' y2 perm srt ny => ?_⟩
      rw [ni_sortN perm srt, ni_vns, sortN2]
      have s6 := same_upd (o := .lst (vns [min (s'.root z.1) (s'.root z.2), max (s'.root z.1) (s'.root z.2)])) s5 ny
      have v6 := v4.ext s6
      have pr6 := Paired.mapP pr4 fun _ _ z => z.mono (.of s6)
      have t6 := t4.trans (.of s6)
      refine ⟨y2, _, rfl, .of upd_same, rfl, _, _, rfl, _, _, rfl, rfl, ?_⟩
      generalize (upd H5 y2 (.lst (vns [min (s'.root z.1) (s'.root z.2), max (s'.root z.1) (s'.root z.2)]))) = H6 at *
      have hmx : max (s'.root z.1) (s'.root z.2) < s'.links.length := by omega
      refine ⟨_, rfl, _, rfl, p, _, dx, _, _, rfl, v6.ob, T.c_Values, T.n_Values_links, f_links, _, rfl, l, _, _, _, rfl, rfl, v6.li, ixN_nat (by rw [len_vns]; exact hmx), ?_⟩
      rw [set_vns]
      have v7 : VAtX P w (ga K "Values") _ (upd H6 l (.lst (vns (s'.links.set (max (s'.root z.1) (s'.root z.2)) (min (s'.root z.1) (s'.root z.2)))))) p dx l hh f2 (s'.link z.1 z.2) := v6.links
      have st7 : SameT H6 (upd H6 l (.lst (vns (s'.links.set (max (s'.root z.1) (s'.root z.2)) (min (s'.root z.1) (s'.root z.2)))))) := sameT_upd v6.li fun xs z => by cases z
      have pr7 := Paired.mapP pr6 fun _ _ z => z.mono st7
      have t7 := t6.trans st7
      generalize (upd H6 l (.lst (vns (s'.links.set (max (s'.root z.1) (s'.root z.2)) (min (s'.root z.1) (s'.root z.2)))))) = H7 at *
      refine ⟨_, rfl, _, rfl, rfl, _, rfl, ?_⟩
      rw [vn_dec]
      have ok7 := ok2.link z.1 z.2
      have hl7 : (s'.link z.1 z.2).links.length = s'.links.length := by simp [VS.link]
      have ej : joinF (k + 1) s' ws = if min (s'.root z.1) (s'.root z.2) = max (s'.root z.1) (s'.root z.2) then joinF k (s'.link z.1 z.2) ws.dropLast else joinF k (s'.link z.1 z.2).alike.1 (ws.dropLast ++ (s'.link z.1 z.2).alike.2) := by
        conv => lhs; unfold joinF
        rw [q]
      rw [ej] at hj
      rw [← List.map_dropLast] at v7
      by_cases e2 : min (s'.root z.1) (s'.root z.2) = max (s'.root z.1) (s'.root z.2)
      · rw [if_pos e2] at hj
        rw [decide_eq_true e2]
        have hmu2 := mu_same ok2 hz1 hz2 hne e2
        exact ⟨k, Nat.lt_succ_self _, s'.link z.1 z.2, ws.dropLast, _, _, _, rfl, ⟨f2, as.dropLast, v7, pr7, ok7, fun q hq => by rw [hl7]; exact hlt q (List.dropLast_subset _ hq), t7⟩, by omega, by omega, hj⟩
      · rw [if_neg e2] at hj
        rw [decide_eq_false e2]
        have hmu2 := mu_more ok2 hz1 hz2 hne e2
        have hW7 : H7 W = some (.lst (as.dropLast.map V.ref)) := v7.off.same _ _ upd_same
        obtain ⟨k1, k2, k3, k4, k5⟩ := ok7.alike
        refine ⟨_, rfl, .inl ⟨rfl, _, .of hW7⟩, _, rfl, p, dx, _, rfl, v7.ob, rfl, p, dx, l, hh, f2, _, _, n, rfl, ⟨v7, ok7, by omega⟩, fun q8 f8 H8 v8 t8 nq8 ⟨as8, hq8, pr8⟩ => ?_⟩
        have hW8 : H8 W = some (.lst (as.dropLast.map V.ref)) := v8.off.same _ _ upd_same
        have hll := len_le_mu (s'.link z.1 z.2).alike.1 (ws.dropLast ++ (s'.link z.1 z.2).alike.2)
        rw [List.length_append, List.length_dropLast] at hll
        have hl8 : as8.length = (s'.link z.1 z.2).alike.2.length := paired_len pr8
        refine ⟨W, q8, _, _, rfl, rfl, hW8, hq8, ?_, ?_⟩
        · rw [List.length_map, List.length_map, List.length_dropLast, sizeLine_eq]
          omega
        · have v9 := v8.put (a := W) (o' := .lst (as.dropLast.map V.ref ++ as8.map V.ref)) upd_same fun xs z => by cases z
          rw [upd_upd, ← List.map_append] at v9
          have st9 : SameT H8 (upd H8 W (.lst ((as.dropLast ++ as8).map V.ref))) := sameT_upd hW8 fun xs z => by cases z
          rw [← List.map_append]
          refine ⟨k, Nat.lt_succ_self _, (s'.link z.1 z.2).alike.1, _, _, _, _, rfl, ⟨f8, as.dropLast ++ as8, v9, paired_app (Paired.mapP pr7 fun _ _ z => z.mono (t8.trans st9)) (Paired.mapP pr8 fun _ _ z => z.mono st9), k1, fun q hq => ?_, t7.trans (t8.trans st9)⟩, by omega, by omega, hj⟩
          rw [k2]
          rcases List.mem_append.mp hq with x | x
          · rw [hl7]
            exact hlt q (List.dropLast_subset _ x)
          · exact k3 q x
end
end SL

/-! text OkVal4 -/
set_option Elab.async false
set_option linter.all false
set_option maxRecDepth 100000
set_option maxHeartbeats 4000000
namespace SL
open PySem PySem.Spec L2
section
variable {P : Program} {w : World} {K : PySem.W.Frag} {mg : Str → Option Value} {base : Heap}
/-! do -/
def Row.cls : Row → Nat
  | .hold _ _ => 0
  | .put2 _ _ _ _ => 1
  | .copy _ _ => 2
  | .set _ _ => 3 | .ask _ _ => 3
  | .bin _ _ _ _ => 4 | .pick _ _ _ _ => 4 | .take _ _ => 4
  | _ => 5
def Row.isTake : Row → Bool
  | .take _ _ => true
  | _ => false
theorem w_hold (r : Row) : decide (V.str r.word = V.str "hold") = decide (r.cls = 0) := by
  cases r with
  | bin o => cases o <;> rfl
  | _ => rfl
theorem w_puts (r : Row) : inV (.str r.word) [.str "put", .str "put2", .str "put3"] = decide (r.cls = 1) := by
  cases r with
  | bin o => cases o <;> rfl
  | _ => rfl
theorem w_copy (r : Row) : decide (V.str r.word = V.str "copy") = decide (r.cls = 2) := by
  cases r with
  | bin o => cases o <;> rfl
  | _ => rfl
theorem w_set (r : Row) : inV (.str r.word) [.str "set", .str "ask"] = decide (r.cls = 3) := by
  cases r with
  | bin o => cases o <;> rfl
  | _ => rfl
theorem w_op (r : Row) : inV (.str r.word) [.str "add", .str "less", .str "same", .str "mix", .str "pick", .str "take"] = decide (r.cls = 4) := by
  cases r with
  | bin o => cases o <;> rfl
  | _ => rfl
theorem w_take (r : Row) : decide (V.str r.word = V.str "take") = r.isTake := by
  cases r with
  | bin o => cases o <;> rfl
  | _ => rfl
theorem cls0 {r : Row} (h : r.cls = 0) : ∃ c d, r = .hold c d := by cases r <;> simp [Row.cls] at h; exact ⟨_, _, rfl⟩
theorem cls1 {r : Row} (h : r.cls = 1) (s : VS) : s.do r = { s with puts := s.puts + 1 } := by cases r <;> simp [Row.cls] at h; rfl
theorem cls2 {r : Row} (h : r.cls = 2) : ∃ c d, r = .copy c d := by cases r <;> simp [Row.cls] at h; exact ⟨_, _, rfl⟩
theorem cls3 {r : Row} (h : r.cls = 3) : ∃ w b n, r.word = Wd.str w ∧ r.parts = [b, n] ∧ ∀ s : VS, s.do r = s.deed b ⟨w, [n], []⟩ := by
  cases r <;> simp [Row.cls] at h
  · exact ⟨.set, _, _, rfl, rfl, fun s => rfl⟩
  · exact ⟨.ask, _, _, rfl, rfl, fun s => rfl⟩
theorem cls4 {r : Row} (h : r.cls = 4) : ∃ w b, r.word = Wd.str w ∧ r.parts[0]? = some b ∧ r.reads.length ≤ 3 ∧ ∀ s : VS, s.do r = (s.haves r.reads).deed b ⟨w, if r.isTake = true then [s.puts] else [], s.vals r.reads⟩ := by
  cases r <;> simp [Row.cls] at h
  · exact ⟨.take, _, rfl, rfl, by simp [Row.reads], fun s => rfl⟩
  · rename_i o b c d
    exact ⟨.bin o, _, rfl, rfl, by simp [Row.reads], fun s => rfl⟩
  · exact ⟨.pick, _, rfl, rfl, by simp [Row.reads], fun s => rfl⟩
theorem cls5 {r : Row} (h0 : r.cls ≠ 0) (h1 : r.cls ≠ 1) (h2 : r.cls ≠ 2) (h3 : r.cls ≠ 3) (h4 : r.cls ≠ 4) (s : VS) : s.do r = s := by
  cases r <;> simp [Row.cls] at h0 h1 h2 h3 h4 <;> rfl
theorem haves_snoc (b : Nat) : ∀ (l : List Nat) (s : VS), s.haves (l ++ [b]) = (s.haves l).have b
  | [], s => rfl
  | a :: l, s => haves_snoc b l (s.have a)
theorem vals_snoc (b : Nat) : ∀ (l : List Nat) (s : VS), s.vals (l ++ [b]) = s.vals l ++ [(s.haves l).val b]
  | [], s => rfl
  | a :: l, s => congrArg (s.val a :: ·) (vals_snoc b l (s.have a))
theorem haves_puts : ∀ (l : List Nat) (s : VS), (s.haves l).puts = s.puts
  | [], s => rfl
  | a :: l, s => by
    show ((s.have a).haves l).puts = s.puts
    rw [haves_puts l]
    rcases have_cases s a with ⟨v, _, e⟩ | ⟨_, e⟩ <;> rw [e] <;> rfl
def sp_Values_do (P : Program) (w : World) (K : PySem.W.Frag) : Sp := fun vs H Q _ => ∃ (p dx l h f : Addr) (B : Hp) (s : VS) (n : Nat) (a : Addr) (r : Row), vs = [.ref p, .ref a] ∧ (VAtX P w (ga K "Values") B H p dx l h f s ∧ s.Ok n ∧ n ≤ 290 ∧ RowAt H a r) ∧
  ∀ f' H', VAtX P w (ga K "Values") B H' p dx l h f' (s.do r) → SameT H H' → Q .non H'
-- slots: 0:self 1:row 2:word 3:numbers 4:box   level 5
abbrev n_Values_do : List Str := ["self", "row", "word", "numbers", "box"]
theorem sc_Values_do : FnScope n_Values_do ["self", "row"] SL.d_Values_do.scope := ⟨rfl, rfl, rfl, by decide +kernel, rfl, by decide +kernel, by decide +kernel⟩
theorem ok_Values_do (T : Tx K mg w) : MCal P w K mg base (ga K "Values") "do" 5 ["self", "row"] (sp_Values_do P w K) := by
  refine MCal.of T.D_Values_do T.c_Values T.m_Values_do sc_Values_do (fun _ _ _ _ _ _ us hl => match us, hl with | [_, _], _ => rfl) (fun vs H Q E h => ?_) fun f cdv A outer s H vs Q E hr h => ?_
  · obtain ⟨p, dx, l, hh, f, B, s, n, a, r, rfl, _⟩ := h
    rfl
  obtain ⟨p, dx, l, hh, f, B, s, n, a, r, rfl, v, h⟩ := h
  refine ⟨_, (pss_cons (ps_set (i := 2) sc_Values_do.nd rfl (Or.inl rfl) (pe_ix ix_tup (pv 1) pe_int (fun _ _ => rfl)))
    (pss_one (ps_if (pt_cmpR op_eq (pv 2) pe_str (nomark _)) (pss_one (ps_expr (pe_mth (pv 0) (ok_Values_join T) (hr.mono (by decide)) (pa_cons (pe_mth (pv 0) (ok_Values_value_in T) (hr.mono (by decide)) (pa_cons (pe_ix ix_tup (pv 1) pe_int (fun _ _ => rfl)) pa_nil)) (pa_cons (pe_mth (pv 0) (ok_Values_value_in T) (hr.mono (by decide)) (pa_cons (pe_ix ix_tup (pv 1) pe_int (fun _ _ => rfl)) pa_nil)) pa_nil))))) (pss_one (ps_if (pt_cmpR op_in_seq (pv 2) (pe_ca (by rfl) T.g_PUTS) (by rfl)) (pss_one (ps_fldaug (pv 0) pe_int in_add)) (pss_one (ps_if (pt_cmpR op_eq (pv 2) pe_str (nomark _)) (pss_one (ps_dput (hu_of hr) (pe_fld (pv 0) rfl) (pe_ix ix_tup (pv 1) pe_int (fun _ _ => rfl)) (pe_mth (pv 0) (ok_Values_value_in T) (hr.mono (by decide)) (pa_cons (pe_ix ix_tup (pv 1) pe_int (fun _ _ => rfl)) pa_nil)) rfl)) (pss_one (ps_if (pt_cmpR op_in_seq (pv 2) (pe_tup (pa_cons pe_str (pa_cons pe_str pa_nil))) (by rfl)) (pss_one (ps_dput (hu_of hr) (pe_fld (pv 0) rfl) (pe_ix ix_tup (pv 1) pe_int (fun _ _ => rfl)) (pe_mth (pv 0) (ok_Values_value_of T) (hr.mono (by decide)) (pa_cons (pe_tup (pa_cons (pv 2) (pa_cons (pe_tup (pa_cons (pe_ix ix_tup (pv 1) pe_int (fun _ _ => rfl)) pa_nil)) (pa_cons (pe_tup pa_nil) pa_nil)))) pa_nil)) rfl)) (pss_one (ps_if (pt_cmpR op_in_seq (pv 2) (pe_tup (pa_cons pe_str (pa_cons pe_str (pa_cons pe_str (pa_cons pe_str (pa_cons pe_str (pa_cons pe_str pa_nil))))))) (by rfl)) (Evl.pss_cut (ps_set (i := 3) sc_Values_do.nd rfl (Or.inl rfl) (pe_ifExp (pt_cmpR op_eq (pv 2) pe_str (nomark _)) (pe_tup (pa_cons (pe_fld (pv 0) rfl) pa_nil)) (pe_tup pa_nil)))
    (pss_one (ps_dput (hu_of hr) (pe_fld (pv 0) rfl) (pe_ix ix_tup (pv 1) pe_int (fun _ _ => rfl)) (pe_mth (pv 0) (ok_Values_value_of T) (hr.mono (by decide)) (pa_cons (pe_tup (pa_cons (pv 2) (pa_cons (pv 3) (pa_cons (pe_callTy call_tuple_of (by rfl) T.f_tuple (by decide +kernel) (pa_cons (pe_lc (own := [("box", 4)]) rfl sc_Values_do.nd (pi_tup (pe_fn (ok_reads T) (hr.mono (by decide)) (by rfl) (pa_cons (pv 1) pa_nil))) (blkOk_by (own := [("box", 4)]) (N := n_Values_do) (sc := SL.d_Values_do.scope) (by decide +kernel)) (fun _ _ _ _ _ => (pg_name (i := 4) sc_Values_do.nd rfl (Or.inl rfl))) (fun _ _ _ _ _ => pts_nil) (fun _ _ _ _ _ => (pe_mth (pv 0) (ok_Values_value_in (P := P) T) (hr.mono (by decide)) (pa_cons (pv 4) pa_nil)))) pa_nil)) pa_nil)))) pa_nil)) rfl))) pss_nil))))))))))), ?_⟩
  obtain ⟨v, ok, hn, hR⟩ := v
  have lh := ok.hlen
  refine ⟨_, rfl, _, _, _, _, rfl, rfl, .of hR, row_at0 r, _, rfl, rfl, _, rfl, ?_⟩
  rw [w_hold]
  by_cases c0 : r.cls = 0
  · rw [decide_eq_true c0]
    obtain ⟨c, d, rfl⟩ := cls0 c0
    have hn2 : n + 2 ≤ 300 := by omega
    refine ⟨_, rfl, p, dx, _, rfl, v.ob, rfl, _, rfl, p, dx, _, rfl, v.ob, rfl, _, rfl, _, _, _, _, rfl, rfl, .of hR, row_at _ (i := 0) rfl, p, dx, l, hh, f, B, s, n, c, rfl, ⟨v, ok, by omega⟩, fun H1 v1 t1 =>
      ⟨_, rfl, p, dx, _, rfl, v1.ob, rfl, _, rfl, _, _, _, _, rfl, rfl, .of (hR.mono t1), row_at _ (i := 1) rfl, p, dx, l, hh, f, B, s.have c, n + 1, d, rfl, ⟨v1, ok.have c, by omega⟩, fun H2 v2 t2 =>
      ⟨p, dx, l, hh, f, B, _, n + 2, _, _, rfl, ⟨v2, (ok.have c).have d, hn2, Nat.lt_of_lt_of_le (ok.val_lt c) (have_links_le _ d), (ok.have c).val_lt d⟩, fun f' H3 v3 t3 => h f' H3 v3 ((t1.trans t2).trans t3)⟩⟩⟩
  rw [decide_eq_false c0]
  refine ⟨_, rfl, _, _, rfl, .inr (T.v_PUTS _), rfl, rfl, _, rfl, ?_⟩
  show if inV (.str r.word) [.str "put", .str "put2", .str "put3"] = true then _ else _
  rw [w_puts]
  by_cases c1 : r.cls = 1
  · rw [decide_eq_true c1]
    refine ⟨_, rfl, p, _, dx, _, _, rfl, v.ob, T.c_Values, T.n_Values_puts, f_puts, _, _, rfl, rfl, dx, _, v.ob, by show 4 < 1000; decide, ?_⟩
    rw [cls1 c1] at h
    exact h f _ v.putsd (sameT_upd v.ob fun xs z => by cases z)
  rw [decide_eq_false c1]
  refine ⟨_, rfl, rfl, _, rfl, ?_⟩
  rw [w_copy]
  by_cases c2 : r.cls = 2
  · rw [decide_eq_true c2]
    obtain ⟨b, c, rfl⟩ := cls2 c2
    refine ⟨_, rfl, p, dx, _, rfl, v.ob, rfl, _, rfl, _, _, _, _, rfl, rfl, .of hR, row_at _ (i := 1) rfl, p, dx, l, hh, f, B, s, n, c, rfl, ⟨v, ok, by omega⟩, fun H1 v1 t1 =>
      ⟨_, rfl, p, _, dx, _, _, rfl, v1.ob, T.c_Values, T.n_Values_held, f_held, _, rfl, _, _, _, _, rfl, rfl, .of (hR.mono t1), row_at _ (i := 0) rfl, hh, _, rfl, DPut.k (k := Sum.inl (b : Int)) v1.he ?_, ?_⟩⟩
    · unfold hk
      rw [List.length_map]
      have := (ok.have c).hlen
      exact small_of (by omega)
    · rw [putK_hk v1.nd]
      exact h f _ (v1.helds (nodup_putN v1.nd)) (t1.trans (sameT_upd v1.he fun xs z => by cases z))
  rw [decide_eq_false c2]
  refine ⟨_, rfl, by show 2 ≤ sizeLine; decide, fun e ne => ⟨e, _, rfl, .inr (.of upd_same), rfl, rfl, _, rfl, ?_⟩⟩
  show if inV (.str r.word) [.str "set", .str "ask"] = true then _ else _
  rw [w_set]
  have v1 := v.ext (same_new (o := .tup [.str "set", .str "ask"]) ne)
  have t1 := SameT.of (same_new (o := .tup [.str "set", .str "ask"]) ne)
  have hR1 := hR.mono t1
  by_cases c3 : r.cls = 3
  · rw [decide_eq_true c3]
    obtain ⟨wd, b, m, ew, ep, ed⟩ := cls3 c3
    rw [ed] at h
    have e0 : r.parts[0]? = some b := by rw [ep]; rfl
    have e1 : r.parts[1]? = some m := by rw [ep]; rfl
    refine ⟨_, rfl, p, dx, _, rfl, v1.ob, rfl, _, rfl, _, rfl, _, _, _, _, rfl, rfl, .of hR1, row_at r (i := 1) e1, by show 1 ≤ sizeLine; decide, fun x1 n1 => ⟨z0, fun x2 n2 => ⟨by show 3 ≤ sizeLine; decide, fun x3 n3 => ?_⟩⟩⟩
    have s3 := ((same_new (o := .tup (vns [m])) n1).trans (same_new (o := .tup (vns [])) n2)).trans (same_new (o := .tup [.str r.word, .ref x1, .ref x2]) n3)
    have k1 := ((same_new (o := .tup (vns [])) n2).trans (same_new (o := .tup [.str r.word, .ref x1, .ref x2]) n3)) _ _ (upd_same (H := _) (a := x1) (o := .tup (vns [m])))
    have k2 := (same_new (o := .tup [.str r.word, .ref x1, .ref x2]) n3) _ _ (upd_same (H := _) (a := x2) (o := .tup (vns [])))
    have hk3 : KeyTup (upd (upd (upd (upd H e (.tup [.str "set", .str "ask"])) x1 (.tup (vns [m]))) x2 (.tup (vns []))) x3 (.tup [.str r.word, .ref x1, .ref x2])) x3 ⟨wd, [m], []⟩ := ⟨x1, x2, by rw [upd_same, ew], k1, k2⟩
    refine ⟨p, dx, l, hh, f, B, s, n, x3, ⟨wd, [m], []⟩, rfl, ⟨v1.ext s3, ok, by omega, hk3, ⟨Nat.le_refl _, Nat.zero_le _, fun v hv => by cases hv⟩⟩, fun H4 v4 t4 => ⟨_, rfl, p, _, dx, _, _, rfl, v4.ob, T.c_Values, T.n_Values_held, f_held, _, rfl, _, _, _, _, rfl, rfl, .of ((hR1.mono (.of s3)).mono t4), row_at r (i := 0) e0, hh, _, rfl, DPut.k (k := Sum.inl (b : Int)) v4.he ?_, ?_⟩⟩
    · unfold hk
      rw [List.length_map]
      have := (ok.haveForm (f := ⟨wd, [m], []⟩) ⟨Nat.le_refl _, Nat.zero_le _, fun v hv => by cases hv⟩).hlen
      exact small_of (by omega)
    · rw [putK_hk v4.nd]
      exact h f _ (v4.helds (nodup_putN v4.nd)) (((t1.trans (.of s3)).trans t4).trans (sameT_upd v4.he fun xs z => by cases z))
  rw [decide_eq_false c3]
  refine ⟨_, rfl, by show 6 ≤ sizeLine; decide, fun e2 ne2 => ⟨e2, _, rfl, .inr (.of upd_same), rfl, rfl, _, rfl, ?_⟩⟩
  show if inV (.str r.word) [.str "add", .str "less", .str "same", .str "mix", .str "pick", .str "take"] = true then _ else _
  rw [w_op]
  have s2 := same_new (o := .tup [.str "add", .str "less", .str "same", .str "mix", .str "pick", .str "take"]) ne2
  have v2 := v1.ext s2
  have t2 := t1.trans (.of s2)
  have hR2 := hR1.mono (.of s2)
  by_cases c4 : r.cls = 4
  · rw [decide_eq_true c4]
    obtain ⟨wd, b, ew, e0, hfew, ed⟩ := cls4 c4
    rw [ed] at h
    refine ⟨fun σ3 H3 => ∃ x, σ3 = [some (.ref p), some (.ref a), some (.str r.word), some (.ref x), none] ∧ VAtX P w (ga K "Values") B H3 p dx l hh f s ∧ SameT H H3 ∧ H3 x = some (.tup (vns (if r.isTake = true then [s.puts] else []))), ?_, ?_⟩
    · refine ⟨_, rfl, rfl, _, rfl, ?_⟩
      rw [w_take]
      cases r.isTake with
      | true => exact ⟨_, rfl, p, _, dx, _, _, rfl, v2.ob, T.c_Values, T.n_Values_puts, f_puts, by show 1 ≤ sizeLine; decide, fun x nx => ⟨x, rfl, v2.ext (same_new nx), t2.trans (.of (same_new nx)), upd_same⟩⟩
      | false => exact ⟨z0, fun x nx => ⟨x, rfl, v2.ext (same_new nx), t2.trans (.of (same_new nx)), upd_same⟩⟩
    · rintro _ H3 ⟨x, rfl, v3, t3, hx⟩
      have hR3 := hR.mono t3
      refine ⟨_, rfl, p, dx, _, rfl, v3.ob, rfl, _, rfl, _, rfl, _, rfl, a, r, rfl, hR3, fun rt H4 nrt s4 hrt => ⟨rt, rfl, ⟨_, .of hrt⟩, fun D nD => ?_⟩⟩
      have v4 := v3.ext s4
      have hBD : B D = none := v4.off.same.free nD
      refine lc_it walk_tup (fun i H5 => VAtX P w (ga K "Values") (upd B D (.lst (vns (s.vals (r.reads.take i))))) H5 p dx l hh f (s.haves (r.reads.take i)) ∧ SameT H4 H5) ⟨v4.grow nD, .of (same_new nD)⟩ (fun i H5 _ z => .of (z.2 _ _ hrt)) ?_ ?_
      · rintro i y H5 H6 hi ⟨v5, t5⟩ ⟨rfl, hy⟩
        have hi2 : i < r.reads.length := by rwa [len_vns] at hi
        have eb : r.reads[i]? = some r.reads[i] := List.getElem?_eq_getElem hi2
        rw [get_vns eb] at hy
        cases hy
        have et : r.reads.take (i + 1) = r.reads.take i ++ [r.reads[i]] := by rw [List.take_succ, eb]; rfl
        have ok5 := ok.haves (l := r.reads.take i)
        have hl5 : (r.reads.take i).length ≤ 3 := by rw [List.length_take]; omega
        refine ⟨rfl, _, rfl, p, dx, _, rfl, v5.ob, rfl, _, rfl, p, dx, l, hh, f, _, _, n + (r.reads.take i).length, r.reads[i], rfl, ⟨v5, ok5, by omega⟩, fun H7 v7 t7 => ⟨_, v7.off.same _ _ upd_same, ?_, ?_, ?_⟩⟩
        · rw [len_vns, vals_len]
          exact small_of (by omega)
        · have v8 := v7.put (a := D) (o' := .lst (vns (s.vals (r.reads.take i)) ++ [vn ((s.haves (r.reads.take i)).val r.reads[i])])) upd_same fun xs z => by cases z
          rw [upd_upd, vns_snoc, ← vals_snoc, ← haves_snoc, ← et] at v8
          rw [vns_snoc, ← vals_snoc, ← et]
          exact v8
        · exact (t5.trans t7).trans (sameT_upd (v7.off.same _ _ upd_same) fun xs z => by cases z)
      · rintro H5 ⟨v5, t5⟩
        rw [len_vns, List.take_length] at v5
        have hD5 := v5.off.same _ _ upd_same
        have v6 := v5.le (same_new hBD)
        refine ⟨D, _, rfl, .inl ⟨.of hD5, fun z nz => ⟨by show 3 ≤ sizeLine; decide, fun y ny => ?_⟩⟩⟩
        have s7 := (same_new (o := .tup (vns (s.vals r.reads))) nz).trans (same_new (o := .tup [.str r.word, .ref x, .ref z]) ny)
        have t45 := (SameT.of s4).trans t5
        have hk7 : KeyTup (upd (upd H5 z (.tup (vns (s.vals r.reads)))) y (.tup [.str r.word, .ref x, .ref z])) y ⟨wd, if r.isTake = true then [s.puts] else [], s.vals r.reads⟩ :=
          ⟨x, z, by rw [upd_same, ew], s7 _ _ (t45 _ _ hx), (same_new (o := .tup [.str r.word, .ref x, .ref z]) ny) _ _ upd_same⟩
        have ok6 := ok.haves (l := r.reads)
        have hfo : (⟨wd, if r.isTake = true then [s.puts] else [], s.vals r.reads⟩ : Form).Ok (s.haves r.reads).links.length := ⟨by show (if r.isTake = true then [s.puts] else []).length ≤ 1; split <;> simp, by show (s.vals r.reads).length ≤ 3; rw [vals_len]; exact hfew, ok.vals_lt⟩
        refine ⟨p, dx, l, hh, f, B, _, n + r.reads.length, y, _, rfl, ⟨v6.ext s7, ok6, by omega, hk7, hfo⟩, fun H8 v8 t8 => ?_⟩
        have t38 := (t45.trans (.of s7)).trans t8
        refine ⟨_, rfl, p, _, dx, _, _, rfl, v8.ob, T.c_Values, T.n_Values_held, f_held, _, rfl, _, _, _, _, rfl, rfl, .of (hR3.mono t38), row_at r (i := 0) e0, hh, _, rfl, DPut.k (k := Sum.inl (b : Int)) v8.he ?_, ?_⟩
        · unfold hk
          rw [List.length_map]
          have := (ok6.haveForm hfo).hlen
          exact small_of (by omega)
        · rw [putK_hk v8.nd]
          exact h f _ (v8.helds (nodup_putN v8.nd)) ((t3.trans t38).trans (sameT_upd v8.he fun xs z => by cases z))
  · rw [decide_eq_false c4]
    rw [cls5 c0 c1 c2 c3 c4] at h
    exact h f _ v2 t2
/-! __init__ -/
def sp_Values_init (P : Program) (w : World) (K : PySem.W.Frag) : Sp := fun vs H Q _ => ∃ (p dx a : Addr) (tw : List (Nat × Nat)) (B : Hp), vs = [.ref p, .ref a] ∧ (H p = some (.ins (ga K "Values") dx []) ∧ TPairs H a tw ∧ tw.length ≤ 100 ∧ Same B H ∧ B p = none) ∧
  ∀ H', VAt P w (ga K "Values") B H' p (VS.init tw) → SameT H H' → Q .non H'
-- slots: 0:self 1:twins 2:one 3:other   level 5
abbrev n_Values_init : List Str := ["self", "twins", "one", "other"]
theorem sc_Values_init : FnScope n_Values_init ["self", "twins"] SL.d_Values_init.scope := ⟨rfl, rfl, rfl, by decide +kernel, rfl, by decide +kernel, by decide +kernel⟩
theorem ok_Values_init (T : Tx K mg w) : KCal P w K mg base "Values" (ga K "Values") 5 ["self", "twins"] (sp_Values_init P w K) := by
  refine KCal.of T.D_Values_init T.g_Values T.k_Values sc_Values_init (fun _ _ _ _ _ _ us hl => match us, hl with | [_, _], _ => rfl) (fun vs H Q E h => ?_) fun f cdv A outer s H vs Q E hr h => ?_
  · obtain ⟨p, dx, a, tw, B, rfl, _⟩ := h
    rfl
  obtain ⟨p, dx, a, tw, B, rfl, hh, h⟩ := h
  refine ⟨_, (pss_cons (ps_fld (pv 0) (pe_lst pa_nil) rfl)
    (pss_cons (ps_fld (pv 0) pe_dnewK rfl)
    (pss_cons (ps_fld (pv 0) pe_dnewF rfl)
    (pss_cons (ps_fld (pv 0) pe_int rfl)
    (pss_one (ps_for PassesOwn.never rfl (pi_tup (pv 1)) (pg_tup rfl (pgs_cons (pg_name (i := 2) sc_Values_init.nd rfl (Or.inl rfl)) (pgs_cons (pg_name (i := 3) sc_Values_init.nd rfl (Or.inl rfl)) pgs_nil)))
    (pss_one (ps_expr (pe_mth (pv 0) (ok_Values_join T) (hr.mono (by decide)) (pa_cons (pe_mth (pv 0) (ok_Values_value_in T) (hr.mono (by decide)) (pa_cons (pv 2) pa_nil)) (pa_cons (pe_mth (pv 0) (ok_Values_value_in T) (hr.mono (by decide)) (pa_cons (pv 3) pa_nil)) pa_nil))))))))))), ?_⟩
  obtain ⟨hp, ⟨as, hA, hP⟩, hl, sB, nB⟩ := hh
  have c1 : ∀ {H1 : Hp} {q : Addr} {o o' u : HO}, H1 q = none → H1 p = some o → (∀ xs, o ≠ .tup xs) → Same B H1 → SameT H H1 → (upd (upd H1 q u) p o') p = some o' ∧ (upd (upd H1 q u) p o') q = some u ∧ Same B (upd (upd H1 q u) p o') ∧ SameT H (upd (upd H1 q u) p o') ∧ B q = none ∧
      (∀ b z, H1 b = some z → b ≠ p → (upd (upd H1 q u) p o') b = some z) := by
    intro H1 q o o' u nq hp1 ht s1 t1
    have npq : q ≠ p := fun e => by rw [e, hp1] at nq; cases nq
    have hp2 := same_new (o := u) nq _ _ hp1
    exact ⟨upd_same, by rw [upd_ne npq, upd_same], same_mut (s1.trans (same_new nq)) nB, (t1.trans (.of (same_new nq))).trans (sameT_upd hp2 ht), s1.free nq, fun b z hb hn => by rw [upd_ne hn]; exact same_new nq _ _ hb⟩
  refine ⟨z0, fun l nl => ⟨_, rfl, p, _, dx, [], rfl, same_new nl _ _ hp, T.c_Values, T.n_Values_links, by show 0 < 1000; decide, ?_⟩⟩
  obtain ⟨p1, l1, s1, t1, nBl, k1⟩ := c1 (o' := .ins (ga K "Values") dx (putF "links" (.ref l) [])) (u := .lst []) nl hp (fun xs z => by cases z) sB (SameT.refl _)
  refine fun d nd => ⟨_, rfl, p, _, dx, _, rfl, same_new nd _ _ p1, T.c_Values, T.n_Values_held, by show 1 < 1000; decide, ?_⟩
  obtain ⟨p2, d2, s2, t2, nBd, k2⟩ := c1 (o' := .ins (ga K "Values") dx (putF "held" (.ref d) (putF "links" (.ref l) []))) (u := .dK []) nd p1 (fun xs z => by cases z) s1 t1
  have l2 := k2 _ _ l1 (ne_of l1 p1 (by intro z; cases z))
  refine fun f nf ep => ⟨_, rfl, p, _, dx, _, rfl, same_new nf _ _ p2, T.c_Values, T.n_Values_forms, by show 2 < 1000; decide, ?_⟩
  obtain ⟨p3, f3, s3, t3, nBf, k3⟩ := c1 (o' := .ins (ga K "Values") dx (putF "forms" (.ref f) (putF "held" (.ref d) (putF "links" (.ref l) [])))) (u := FDo P w f ep []) nf p2 (fun xs z => by cases z) s2 t2
  have l3 := k3 _ _ l2 (ne_of l2 p2 (by intro z; cases z))
  have d3 := k3 _ _ d2 (ne_of d2 p2 (by intro z; cases z))
  refine ⟨_, rfl, p, _, dx, _, rfl, p3, T.c_Values, T.n_Values_puts, by show 3 < 1000; decide, ?_⟩
  have fin : ∀ H3 : Hp, H3 p = some (.ins (ga K "Values") dx (putF "forms" (.ref f) (putF "held" (.ref d) (putF "links" (.ref l) [])))) → H3 f = some (FDo P w f ep []) → H3 l = some (.lst []) → H3 d = some (.dK []) → Same B H3 →
      VAt P w (ga K "Values") B (upd H3 p (.ins (ga K "Values") dx (vsF l d f 0))) p (VS.init []) := by
    intro H3 p3 f3 l3 d3 s3
    refine ⟨dx, l, d, f, upd_same, by rw [upd_ne (ne_of l3 p3 (by intro z; cases z))]; exact l3, by rw [upd_ne (ne_of d3 p3 (by intro z; cases z))]; exact d3, ⟨ep, [], by rw [upd_ne (ne_of f3 p3 (by intro z; cases z))]; exact f3, .nil⟩, List.nodup_nil, same_mut s3 nB, fun b hb => ?_⟩
    rcases List.mem_cons.mp hb with e | hb
    · rw [e]
      exact nB
    rcases List.mem_cons.mp hb with e | hb
    · rw [e]
      exact nBl
    rcases List.mem_cons.mp hb with e | hb
    · rw [e]
      exact nBd
    · rw [List.mem_singleton.mp hb]
      exact nBf
  have v4 := fin _ p3 f3 l3 d3 s3
  have t4 := t3.trans (sameT_upd (o' := .ins (ga K "Values") dx (vsF l d f 0)) p3 fun xs z => by cases z)
  refine ⟨_, rfl, a, rfl, ⟨_, .of (t4 _ _ hA)⟩, ?_⟩
  refine for_it walk_tup (fun i σ H2 => ∃ v2 v3, σ = [some (.ref p), some (.ref a), v2, v3] ∧ VAt P w (ga K "Values") B H2 p (VS.init (tw.take i)) ∧ SameT H H2) ⟨none, none, rfl, v4, t4⟩ (fun i σ H2 _ z => by obtain ⟨_, _, _, _, t⟩ := z; exact .of (t _ _ hA)) ?_ ?_
  · rintro i x σ H2 H3 hi ⟨v2, v3, rfl, ⟨dx, l, hh, f, v⟩, t⟩ ⟨rfl, hx⟩
    have hip : i < tw.length := by
      rw [List.length_map, paired_len hP] at hi
      exact hi
    have e : tw[i]? = some tw[i] := List.getElem?_eq_getElem hip
    obtain ⟨b, hb, hq⟩ := paired_get hP e
    rw [List.getElem?_map, hb] at hx
    cases hx
    have et : tw.take (i + 1) = tw.take i ++ [tw[i]] := by rw [List.take_succ, e]; rfl
    have ei : VS.init (tw.take (i + 1)) = (VS.init (tw.take i)).twin tw[i].1 tw[i].2 := by
      unfold VS.init
      rw [et, List.foldl_append]
      rfl
    have ok := VS.ok_init (tw.take i)
    have hl2 : (tw.take i).length ≤ 100 := by rw [List.length_take]; omega
    generalize VS.init (tw.take i) = s0 at *
    refine ⟨b, _, rfl, .of (hq.mono t), rfl, _, _, rfl, _, _, rfl, rfl, ?_⟩
    refine ⟨_, rfl, p, dx, _, rfl, v.ob, rfl, _, rfl, p, dx, _, rfl, v.ob, rfl, _, rfl, p, dx, l, hh, f, B, s0, _, tw[i].1, rfl, ⟨v, ok, by omega⟩, fun H5 v5 t5 =>
      ⟨_, rfl, p, dx, _, rfl, v5.ob, rfl, _, rfl, p, dx, l, hh, f, B, _, _, tw[i].2, rfl, ⟨v5, ok.have _, by omega⟩, fun H6 v6 t6 =>
      ⟨p, dx, l, hh, f, B, _, _, _, _, rfl, ⟨v6, (ok.have _).have _, by omega, Nat.lt_of_lt_of_le (ok.val_lt _) (have_links_le _ _), (ok.have _).val_lt _⟩, fun f' H7 v7 t7 => ⟨_, _, rfl, ?_, ((t.trans t5).trans t6).trans t7⟩⟩⟩⟩
    rw [ei]
    exact v7.at
  · rintro σ H2 ⟨v2, v3, rfl, v, t⟩
    rw [List.length_map, paired_len hP, List.take_length] at v
    exact h _ v t
end
end SL

/-! text OkHue -/
set_option Elab.async false
set_option linter.all false
set_option maxRecDepth 100000
set_option maxHeartbeats 4000000
namespace SL
open PySem PySem.Spec L2
section
variable {P : Program} {w : World} {K : PySem.W.Frag} {mg : Str → Option Value} {base : Heap}
theorem walk_zipT {K : PySem.W.Frag} {a b : Addr} {xs ys : List V} {n : Nat} (hn : n = min xs.length ys.length) : Walk (RZ.ItzT K a b) n (fun H => SqT K H a xs ∧ SqT K H b ys) (YPair (fun i => xs[i]?) (fun i => ys[i]?)) := by
  subst hn
  refine ⟨fun i _ hi q => ?_, fun _ q => ⟨xs, ys, q.1, q.2, by omega⟩, fun i H v H' _ q y => ?_⟩
  · have h1 : i < xs.length := by omega
    have h2 : i < ys.length := by omega
    exact ⟨xs, ys, xs[i], ys[i], q.1, q.2, by simp [h1], by simp [h2]⟩
  · obtain ⟨T, x, z, h1, h2, h3, h4, h5⟩ := y
    exact ⟨T, x, z, h1, h2, h3, h4 xs q.1, h5 ys q.2⟩
/-- a tuple and its tail -/
theorem tail_go {K : PySem.W.Frag} {H : Hp} {a : Addr} {xs : List V} {Q : VK} (h : H a = some (.tup xs)) (k : ∀ b H1, Same H H1 → H1 b = some (.tup (xs.drop 1)) → Q (.ref b) H1) : rSlA K (.ref a) (some 1) none H Q := by
  refine ⟨a, xs, rfl, .of h, fun hw => ?_, fun _ p np => ?_⟩
  · refine k a H (Same.refl H) ?_
    have h1 := hw.1
    rw [show HT.sIx xs.length 0 (some 1) = min 1 xs.length from HT.sIx_nat _ _ 1] at h1
    have : xs = [] := List.eq_nil_of_length_eq_zero (by omega)
    subst this
    exact h
  · refine k p _ (same_new np) ?_
    rw [cut_drop1, upd_same]
theorem inV_vns (b : Nat) : ∀ l : List Nat, inV (vn b) (vns l) = decide (b ∈ l)
  | [] => rfl
  | a :: r => by
    have e0 : inV (vn b) (vns (a :: r)) = (eqV (vn a) (vn b) || inV (vn b) (vns r)) := by
      unfold inV vns
      rw [List.map_cons, List.any_cons]
    rw [e0, inV_vns b r]
    have e : eqV (vn a) (vn b) = decide (b = a) := by
      show ((a : Int) == (b : Int)) = _
      by_cases h : b = a
      · simp [h]
      · have : ¬ ((a : Int) = (b : Int)) := fun z => h (by omega)
        simp [h, this]
    rw [e]
    by_cases h : b = a
    · simp [h]
    · simp [h]
def Rising (l : List Nat) : Prop := l.Pairwise (· < ·)
theorem rising_next : ∀ {l : List Nat}, Rising l → ∀ {i a b : Nat}, l[i]? = some a → (l.drop 1)[i]? = some b → a < b
  | [], _, i, a, b, h, _ => by simp at h
  | x :: r, hr, i, a, b, h1, h2 => by
    obtain ⟨k1, k2⟩ := List.pairwise_cons.mp hr
    cases i with
    | zero =>
      simp at h1
      subst h1
      have : b ∈ r := List.mem_of_getElem? (i := 0) (by simpa using h2)
      exact k1 b this
    | succ i =>
      refine rising_next (l := r) k2 (i := i) (by simpa using h1) ?_
      simpa using h2
structure HueOk (l : List Nat) : Prop where
  rise : Rising l
  box : ∀ b ∈ l, b < 32
  few : l.length ≤ 4
def sp_is_hue : Sp := fun vs H Q _ => ∃ (a : Addr) (l : List Nat), vs = [.ref a] ∧ (H a = some (.tup (vns l)) ∧ HueOk l) ∧ Rv (.bl true) H Q
theorem all_true {α : Type} (l : List α) : (l.map fun _ => true).all id = true := by simp
theorem flat_true {α : Type} (l : List α) : l.flatMap (fun _ => [V.bl true]) = (l.map fun _ => true).map V.bl := by
  rw [flat_one, List.map_map]
  rfl
-- slots: 0:thing 1:box 2:other   level 3
abbrev n_is_hue : List Str := ["thing", "box", "other"]
theorem sc_is_hue : FnScope n_is_hue ["thing"] SL.d_is_hue.scope := ⟨rfl, rfl, rfl, by decide +kernel, rfl, by decide +kernel, by decide +kernel⟩
theorem ok_is_hue (T : Tx K mg w) : Cal P w K mg base "is_hue" 3 ["thing"] sp_is_hue := by
  refine Cal.of T.D_is_hue T.g_is_hue sc_is_hue (fun _ _ _ _ _ _ us hl => match us, hl with | [_], _ => rfl) (fun vs H Q E h => ?_) fun f cdv A outer s H vs Q E hr h => ?_
  · obtain ⟨a, l, rfl, _⟩ := h
    rfl
  obtain ⟨a, l, rfl, hh, h⟩ := h
  refine ⟨_, (pss_cons (ps_if (PW.pt (pw_or (pt_not (pt_val (pe_callB call_isi (by rfl) T.f_isinstance (by decide +kernel) (pa_cons (pv 0) (pa_cons (pe_bltn (v := .ty "tuple") (by rfl) T.f_tuple (by decide +kernel) rfl) pa_nil))))) (pw_or1 (pt_not (pt_val (pe_callB (cr_all rfl) (by rfl) T.f_all (by decide +kernel) (pa_cons (pe_lc (own := [("box", 1)]) rfl sc_is_hue.nd (pi_tup (pv 0)) (blkOk_by (own := [("box", 1)]) (N := n_is_hue) (sc := SL.d_is_hue.scope) (by decide +kernel)) (fun _ _ _ _ _ => (pg_name (i := 1) sc_is_hue.nd rfl (Or.inl rfl))) (fun _ _ _ _ _ => pts_nil) (fun _ _ _ _ _ => (pe_fn (ok_is_box (P := P) T) (hr.mono (by decide)) (by rfl) (pa_cons (pv 1) pa_nil)))) pa_nil))))))) (pss_one (ps_ret pe_bl)) pss_nil)
    (pss_one (ps_ret (pe_callB (cr_all rfl) (by rfl) T.f_all (by decide +kernel) (pa_cons (pe_lc (own := [("box", 1), ("other", 2)]) rfl sc_is_hue.nd (RZ.pi_zipA (by rfl) T.f_zip (pa_cons (pv 0) (pa_cons (pe_slice sl_tupA (pv 0) (po_some pe_int) po_none) pa_nil))) (blkOk_by (own := [("box", 1), ("other", 2)]) (N := n_is_hue) (sc := SL.d_is_hue.scope) (by decide +kernel)) (fun _ _ _ _ _ => (pg_tupK (n := 2) rfl rfl (pgs_cons (pg_name (i := 1) sc_is_hue.nd rfl (Or.inl rfl)) (pgs_cons (pg_name (i := 2) sc_is_hue.nd rfl (Or.inl rfl)) pgs_nil)))) (fun _ _ _ _ _ => pts_nil) (fun _ _ _ _ _ => (pe_cmpR op_lt (pv 1) (pv 2) (nomark _)))) pa_nil))))), ?_⟩
  obtain ⟨hA, ok⟩ := hh
  have few := ok.few
  refine ⟨_, rfl, _, _, _, _, _, rfl, .ty _, .base (.tup hA), k_tt, true, rfl, _, rfl, a, rfl, ⟨_, .of hA⟩, fun D nD => ?_⟩
  refine lc_pure walk_tup l (fun _ => [.bl true]) (len_vns l) (by omega) (fun _ => Nat.le_refl _) nD (fun H2 s2 => .of (s2 _ _ hA)) same_yat ?_ ?_
  · rintro i b x H2 H3 Kq N hi s2 ⟨rfl, hx⟩ hK hN
    rw [get_vns hi] at hx
    cases hx
    refine ⟨rfl, _, rfl, b, rfl, hK _ _ (Same.refl _) ?_⟩
    rw [decide_eq_true (ok.box b (List.mem_of_getElem? hi))]
  · intro H2 s2 hD
    rw [flat_true] at hD
    refine ⟨D, _, rfl, .of hD, ?_⟩
    rw [all_true]
    refine ⟨true, rfl, _, rfl, _, rfl, 1, rfl, ?_⟩
    dsimp only [tNoPart]
    refine tail_go (s2 _ _ hA) fun b H3 s3 hb => ?_
    have hA3 := s3 _ _ (s2 _ _ hA)
    have el : (vns l).drop 1 = vns (l.drop 1) := by unfold vns; rw [List.map_drop]
    rw [el] at hb
    refine ⟨a, b, _, _, rfl, .inr ⟨.of hA3, .of hb, fun D2 nD2 => ?_⟩⟩
    have hzl : (l.zip (l.drop 1)).length = min (vns l).length (vns (l.drop 1)).length := by rw [List.length_zip, len_vns, len_vns]
    refine lc_pure (walk_zipT hzl) (l.zip (l.drop 1)) (fun _ => [.bl true]) rfl (by rw [List.length_zip]; omega) (fun _ => Nat.le_refl _) nD2 (fun H4 s4 => ⟨.of (s4 _ _ hA3), .of (s4 _ _ hb)⟩) same_ypair ?_ ?_
    · rintro i ⟨u, z⟩ x H4 H5 Kq N hi s4 ⟨t, x1, x2, rfl, nt, rfl, h1, h2⟩ hK hN
      obtain ⟨i1, i2⟩ := List.getElem?_zip_eq_some.mp hi
      have h1 : (vns l)[i]? = some x1 := h1
      have h2 : (vns (l.drop 1))[i]? = some x2 := h2
      rw [get_vns i1] at h1
      rw [get_vns i2] at h2
      cases h1
      cases h2
      refine g2_go upd_same ⟨rfl, _, rfl, _, rfl, _, _, rfl, rfl, hK _ _ (Same.refl _) ?_⟩
      have := rising_next ok.rise i1 i2
      show [V.bl true] = [V.bl (decide ((u : Int) < (z : Int)))]
      rw [decide_eq_true (show (u : Int) < (z : Int) by have : u < z := this; omega)]
    · intro H4 s4 hD4
      rw [flat_true] at hD4
      refine ⟨D2, _, rfl, .of hD4, ?_⟩
      rw [all_true]
      exact h _ ((s2.trans s3).trans s4)
/-! hues -/
structure Hues.Ok (h : Hues) : Prop where
  one : HueOk h.1
  two : HueOk h.2
  apart : ∀ b ∈ h.1, b ∉ h.2
structure HuesAt (H : Hp) (a x y : Addr) (h : Hues) : Prop where
  at_ : H a = some (.tup [.ref x, .ref y])
  one : H x = some (.tup (vns h.1))
  two : H y = some (.tup (vns h.2))
theorem HuesAt.mono {H H' : Hp} {a x y : Addr} {h : Hues} (u : HuesAt H a x y h) (e : SameT H H') : HuesAt H' a x y h := ⟨e _ _ u.at_, e _ _ u.one, e _ _ u.two⟩
def sp_is_hues : Sp := fun vs H Q _ => ∃ (a x y : Addr) (hs : Hues), vs = [.ref a] ∧ (HuesAt H a x y hs ∧ hs.Ok) ∧ Rv (.bl true) H Q
theorem at1 {α : Type} {x y : α} : atI [x, y] 1 = some y := atI_nat (j := 1) rfl
theorem at0 {α : Type} {x : α} {r : List α} : atI (x :: r) 0 = some x := atI_nat (j := 0) rfl
-- slots: 0:thing 1:box 2:one   level 4
abbrev n_is_hues : List Str := ["thing", "box", "one"]
theorem sc_is_hues : FnScope n_is_hues ["thing"] SL.d_is_hues.scope := ⟨rfl, rfl, rfl, by decide +kernel, rfl, by decide +kernel, by decide +kernel⟩
theorem ok_is_hues (T : Tx K mg w) : Cal P w K mg base "is_hues" 4 ["thing"] sp_is_hues := by
  refine Cal.of T.D_is_hues T.g_is_hues sc_is_hues (fun _ _ _ _ _ _ us hl => match us, hl with | [_], _ => rfl) (fun vs H Q E h => ?_) fun f cdv A outer s H vs Q E hr h => ?_
  · obtain ⟨a, x, y, hs, rfl, _⟩ := h
    rfl
  obtain ⟨a, x, y, hs, rfl, hh, h⟩ := h
  refine ⟨_, (pss_cons (ps_if (PW.pt (pw_or (pt_not (pt_val (pe_callB call_isi (by rfl) T.f_isinstance (by decide +kernel) (pa_cons (pv 0) (pa_cons (pe_bltn (v := .ty "tuple") (by rfl) T.f_tuple (by decide +kernel) rfl) pa_nil))))) (pw_or (pt_cmpR op_ne (pe_callB call_len_seq (by rfl) T.f_len PySem.boot_len (pa_cons (pv 0) pa_nil)) pe_int (nomark _)) (pw_or1 (pt_not (pt_val (pe_callB (cr_all rfl) (by rfl) T.f_all (by decide +kernel) (pa_cons (pe_lc (own := [("one", 2)]) rfl sc_is_hues.nd (pi_tup (pv 0)) (blkOk_by (own := [("one", 2)]) (N := n_is_hues) (sc := SL.d_is_hues.scope) (by decide +kernel)) (fun _ _ _ _ _ => (pg_name (i := 2) sc_is_hues.nd rfl (Or.inl rfl))) (fun _ _ _ _ _ => pts_nil) (fun _ _ _ _ _ => (pe_fn (ok_is_hue (P := P) T) (hr.mono (by decide)) (by rfl) (pa_cons (pv 2) pa_nil)))) pa_nil)))))))) (pss_one (ps_ret pe_bl)) pss_nil)
    (pss_one (ps_ret (pe_cmpR (op_eqD hr.units) (pe_lc (own := [("box", 1)]) rfl sc_is_hues.nd (pi_tup (pe_ix ix_tup (pv 0) pe_int (fun _ _ => rfl))) (blkOk_by (own := [("box", 1)]) (N := n_is_hues) (sc := SL.d_is_hues.scope) (by decide +kernel)) (fun _ _ _ _ _ => (pg_name (i := 1) sc_is_hues.nd rfl (Or.inl rfl))) (fun _ _ _ _ _ => (pts_one (pt_cmpR (op_in_seqK rfl) (pv 1) (pe_ix (ix_tupK rfl) (pv 0) pe_int (fun _ _ => rfl)) (by rfl)))) (fun _ _ _ _ _ => (pv 1))) (pe_lst pa_nil) (nomark _))))), ?_⟩
  obtain ⟨hA, ok⟩ := hh
  have few := ok.one.few
  refine ⟨_, rfl, _, _, _, _, _, rfl, .ty _, .base (.tup hA.at_), k_tt, true, rfl, _, rfl, _, _, rfl, len_tup hA.at_, rfl, _, rfl, _, rfl, a, rfl, ⟨_, .of hA.at_⟩, fun D nD => ?_⟩
  refine lc_pure walk_tup [(x, hs.1), (y, hs.2)] (fun _ => [.bl true]) rfl (by show 2 ≤ 1000; decide) (fun _ => Nat.le_refl _) nD (fun H2 s2 => .of (s2 _ _ hA.at_)) same_yat ?_ ?_
  · rintro i ⟨b, hu⟩ z H2 H3 Kq N hi s2 ⟨rfl, hx⟩ hK hN
    have e : ([V.ref x, V.ref y] : List V)[i]? = some (.ref b) ∧ H b = some (.tup (vns hu)) ∧ HueOk hu := by
      cases i with
      | zero =>
        cases hi
        exact ⟨rfl, hA.one, ok.one⟩
      | succ i =>
        cases i with
        | zero =>
          cases hi
          exact ⟨rfl, hA.two, ok.two⟩
        | succ i => simp at hi
    rw [e.1] at hx
    cases hx
    exact ⟨rfl, _, rfl, b, hu, rfl, ⟨s2 _ _ e.2.1, e.2.2⟩, fun H4 s4 => hK _ _ s4 rfl⟩
  · intro H2 s2 hD
    rw [flat_true] at hD
    refine ⟨D, _, rfl, .of hD, ?_⟩
    rw [all_true]
    have hA2 := hA.mono (.of s2)
    refine ⟨true, rfl, _, rfl, _, _, _, _, rfl, rfl, .of hA2.at_, at0, x, rfl, ⟨_, .of hA2.one⟩, fun D2 nD2 => ?_⟩
    refine lc_pure walk_tup hs.1 (fun _ => []) (len_vns _) (by omega) (fun _ => by simp) nD2 (fun H3 s3 => .of (s3 _ _ hA2.one)) same_yat ?_ ?_
    · rintro i b z H3 H4 Kq N hi s3 ⟨rfl, hx⟩ hK hN
      rw [get_vns hi] at hx
      cases hx
      have hA3 := hA2.mono (.of s3)
      refine ⟨rfl, _, rfl, _, rfl, _, _, _, _, rfl, rfl, .of hA3.at_, at1, y, _, rfl, .inr (.of hA3.two), rfl, flat_vns (K := K) _, _, rfl, ?_⟩
      show if inV (vn b) (vns hs.2) = true then _ else _
      rw [inV_vns, decide_eq_false (ok.apart b (List.mem_of_getElem? hi))]
      exact hN _ (Same.refl _) rfl
    · intro H3 s3 hD3
      have ef : hs.1.flatMap (fun _ => ([] : List V)) = [] := by simp
      rw [ef] at hD3
      refine ⟨z0, fun e ne => ⟨_, _, dp_nilL (same_new ne _ _ hD3), dp_nilL upd_same, shaped_lst [], shaped_lst [], ?_⟩⟩
      rw [eqv_lst]
      exact h _ ((s2.trans s3).trans (same_new ne))
def sp_need_hues : Sp := fun vs H Q _ => ∃ (a x y : Addr) (hs : Hues), vs = [.ref a] ∧ (HuesAt H a x y hs ∧ hs.Ok) ∧ Rv .non H Q
-- slots: 0:thing   level 5
abbrev n_need_hues : List Str := ["thing"]
theorem sc_need_hues : FnScope n_need_hues ["thing"] SL.d_need_hues.scope := ⟨rfl, rfl, rfl, by decide +kernel, rfl, by decide +kernel, by decide +kernel⟩
theorem ok_need_hues (T : Tx K mg w) : Cal P w K mg base "need_hues" 5 ["thing"] sp_need_hues := by
  refine Cal.of T.D_need_hues T.g_need_hues sc_need_hues (fun _ _ _ _ _ _ us hl => match us, hl with | [_], _ => rfl) (fun vs H Q E h => ?_) fun f cdv A outer s H vs Q E hr h => ?_
  · obtain ⟨a, x, y, hs, rfl, _⟩ := h
    rfl
  obtain ⟨a, x, y, hs, rfl, hh, h⟩ := h
  refine ⟨_, (pss_one (ps_if (pt_not (pt_val (pe_fn (ok_is_hues T) (hr.mono (by decide)) (by rfl) (pa_cons (pv 0) pa_nil)))) (pss_one ps_never) pss_nil)), ?_⟩
  exact ⟨_, rfl, a, x, y, hs, rfl, hh, fun H1 s1 => ⟨true, rfl, h _ s1⟩⟩
/-! pairs, twins -/
def InHues (h : Hues) (q : Nat × Nat) : Prop := q.1 ∈ h.1 ∧ q.2 ∈ h.2
def sp_is_pair : Sp := fun vs H Q _ => ∃ (a x y b : Addr) (hs : Hues) (q : Nat × Nat), vs = [.ref a, .ref b] ∧ (HuesAt H a x y hs ∧ hs.Ok ∧ PairAt H b q ∧ InHues hs q) ∧ Rv (.bl true) H Q
-- slots: 0:hues 1:thing 2:box   level 3
abbrev n_is_pair : List Str := ["hues", "thing", "box"]
theorem sc_is_pair : FnScope n_is_pair ["hues", "thing"] SL.d_is_pair.scope := ⟨rfl, rfl, rfl, by decide +kernel, rfl, by decide +kernel, by decide +kernel⟩
theorem ok_is_pair (T : Tx K mg w) : Cal P w K mg base "is_pair" 3 ["hues", "thing"] sp_is_pair := by
  refine Cal.of T.D_is_pair T.g_is_pair sc_is_pair (fun _ _ _ _ _ _ us hl => match us, hl with | [_, _], _ => rfl) (fun vs H Q E h => ?_) fun f cdv A outer s H vs Q E hr h => ?_
  · obtain ⟨a, x, y, b, hs, q, rfl, _⟩ := h
    rfl
  obtain ⟨a, x, y, b, hs, q, rfl, hh, h⟩ := h
  refine ⟨_, (pss_cons (ps_if (PW.pt (pw_or (pt_not (pt_val (pe_callB call_isi (by rfl) T.f_isinstance (by decide +kernel) (pa_cons (pv 1) (pa_cons (pe_bltn (v := .ty "tuple") (by rfl) T.f_tuple (by decide +kernel) rfl) pa_nil))))) (pw_or (pt_cmpR op_ne (pe_callB call_len_seq (by rfl) T.f_len PySem.boot_len (pa_cons (pv 1) pa_nil)) pe_int (nomark _)) (pw_or1 (pt_not (pt_val (pe_callB (cr_all rfl) (by rfl) T.f_all (by decide +kernel) (pa_cons (pe_lc (own := [("box", 2)]) rfl sc_is_pair.nd (pi_tup (pv 1)) (blkOk_by (own := [("box", 2)]) (N := n_is_pair) (sc := SL.d_is_pair.scope) (by decide +kernel)) (fun _ _ _ _ _ => (pg_name (i := 2) sc_is_pair.nd rfl (Or.inl rfl))) (fun _ _ _ _ _ => pts_nil) (fun _ _ _ _ _ => (pe_fn (ok_is_box (P := P) T) (hr.mono (by decide)) (by rfl) (pa_cons (pv 2) pa_nil)))) pa_nil)))))))) (pss_one (ps_ret pe_bl)) pss_nil)
    (pss_one (ps_ret (pe_and (pe_cmpR op_in_seq (pe_ix ix_tup (pv 1) pe_int (fun _ _ => rfl)) (pe_ix ix_tup (pv 0) pe_int (fun _ _ => rfl)) (by rfl)) (pe_one (pe_cmpR op_in_seq (pe_ix ix_tup (pv 1) pe_int (fun _ _ => rfl)) (pe_ix ix_tup (pv 0) pe_int (fun _ _ => rfl)) (by rfl))))))), ?_⟩
  obtain ⟨hA, ok, hq, hi1, hi2⟩ := hh
  refine ⟨_, rfl, _, _, _, _, _, rfl, .ty _, .base (.tup hq), k_tt, true, rfl, _, rfl, _, _, rfl, len_tup hq, rfl, _, rfl, _, rfl, b, rfl, ⟨_, .of hq⟩, fun D nD => ?_⟩
  refine lc_pure walk_tup [q.1, q.2] (fun _ => [.bl true]) rfl (by show 2 ≤ 1000; decide) (fun _ => Nat.le_refl _) nD (fun H2 s2 => .of (s2 _ _ hq)) same_yat ?_ ?_
  · rintro i m z H2 H3 Kq N hi s2 ⟨rfl, hx⟩ hK hN
    have hx : (vns [q.1, q.2])[i]? = some z := hx
    rw [get_vns hi] at hx
    cases hx
    refine ⟨rfl, _, rfl, m, rfl, hK _ _ (Same.refl _) ?_⟩
    have hm : m < 32 := by
      rcases List.mem_cons.mp (List.mem_of_getElem? hi) with e | e
      · rw [e]
        exact ok.one.box _ hi1
      · rw [List.mem_singleton.mp e]
        exact ok.two.box _ hi2
    rw [decide_eq_true hm]
  · intro H2 s2 hD
    rw [flat_true] at hD
    refine ⟨D, _, rfl, .of hD, ?_⟩
    rw [all_true]
    have hA2 := hA.mono (.of s2)
    have hq2 := s2 _ _ hq
    refine ⟨true, rfl, _, rfl, _, _, _, _, rfl, rfl, .of hq2, at0, _, rfl, _, _, _, _, rfl, rfl, .of hA2.at_, at0, x, _, rfl, .inr (.of hA2.one), rfl, flat_vns (K := K) _, _, rfl, ?_⟩
    show if inV (vn q.1) (vns hs.1) = true then _ else _
    rw [inV_vns, decide_eq_true hi1]
    refine ⟨_, rfl, _, _, _, _, rfl, rfl, .of hq2, at1, _, rfl, _, _, _, _, rfl, rfl, .of hA2.at_, at1, y, _, rfl, .inr (.of hA2.two), rfl, flat_vns (K := K) _, ?_⟩
    show Q (.bl (inV (vn q.2) (vns hs.2))) _
    rw [inV_vns, decide_eq_true hi2]
    exact h _ s2
/-- pairs one behind another, rising -/
def PLt (p q : Nat × Nat) : Prop := p.1 < q.1 ∨ (p.1 = q.1 ∧ p.2 < q.2)
structure TwOk (h : Hues) (tw : List (Nat × Nat)) : Prop where
  rise : tw.Pairwise PLt
  ins : ∀ q ∈ tw, InHues h q
  few : tw.length ≤ 16
theorem rising_next2 : ∀ {l : List (Nat × Nat)}, l.Pairwise PLt → ∀ {i : Nat} {a b : Nat × Nat}, l[i]? = some a → (l.drop 1)[i]? = some b → PLt a b
  | [], _, i, a, b, h, _ => by simp at h
  | x :: r, hr, i, a, b, h1, h2 => by
    obtain ⟨k1, k2⟩ := List.pairwise_cons.mp hr
    cases i with
    | zero =>
      simp at h1
      subst h1
      have : b ∈ r := List.mem_of_getElem? (i := 0) (by simpa using h2)
      exact k1 b this
    | succ i =>
      refine rising_next2 (l := r) k2 (i := i) (by simpa using h1) ?_
      simpa using h2
theorem lex_pair {a b : Nat × Nat} (h : PLt a b) : HT.lexLt (ni [a.1, a.2]) (ni [b.1, b.2]) = true := by
  show (if (a.1 : Int) = (b.1 : Int) then (if (a.2 : Int) = (b.2 : Int) then false else decide ((a.2 : Int) < (b.2 : Int))) else decide ((a.1 : Int) < (b.1 : Int))) = true
  rcases h with h | ⟨h1, h2⟩
  · rw [if_neg (by omega)]
    exact decide_eq_true (by omega)
  · rw [if_pos (by omega), if_neg (by omega)]
    exact decide_eq_true (by omega)
def sp_are_twins : Sp := fun vs H Q _ => ∃ (a x y b : Addr) (hs : Hues) (tw : List (Nat × Nat)), vs = [.ref a, .ref b] ∧ (HuesAt H a x y hs ∧ hs.Ok ∧ TPairs H b tw ∧ TwOk hs tw) ∧ Rv (.bl true) H Q
theorem zip_len1 {α : Type} (l : List α) : (l.zip (l.drop 1)).length ≤ l.length := by rw [List.length_zip]; omega
-- slots: 0:hues 1:thing 2:one 3:other   level 4
abbrev n_are_twins : List Str := ["hues", "thing", "one", "other"]
theorem sc_are_twins : FnScope n_are_twins ["hues", "thing"] SL.d_are_twins.scope := ⟨rfl, rfl, rfl, by decide +kernel, rfl, by decide +kernel, by decide +kernel⟩
theorem ok_are_twins (T : Tx K mg w) : Cal P w K mg base "are_twins" 4 ["hues", "thing"] sp_are_twins := by
  refine Cal.of T.D_are_twins T.g_are_twins sc_are_twins (fun _ _ _ _ _ _ us hl => match us, hl with | [_, _], _ => rfl) (fun vs H Q E h => ?_) fun f cdv A outer s H vs Q E hr h => ?_
  · obtain ⟨a, x, y, b, hs, tw, rfl, _⟩ := h
    rfl
  obtain ⟨a, x, y, b, hs, tw, rfl, hh, h⟩ := h
  refine ⟨_, (pss_cons (ps_if (PW.pt (pw_or (pt_not (pt_val (pe_callB call_isi (by rfl) T.f_isinstance (by decide +kernel) (pa_cons (pv 1) (pa_cons (pe_bltn (v := .ty "tuple") (by rfl) T.f_tuple (by decide +kernel) rfl) pa_nil))))) (pw_or1 (pt_not (pt_val (pe_callB (cr_all rfl) (by rfl) T.f_all (by decide +kernel) (pa_cons (pe_lc (own := [("one", 2)]) rfl sc_are_twins.nd (pi_tup (pv 1)) (blkOk_by (own := [("one", 2)]) (N := n_are_twins) (sc := SL.d_are_twins.scope) (by decide +kernel)) (fun _ _ _ _ _ => (pg_name (i := 2) sc_are_twins.nd rfl (Or.inl rfl))) (fun _ _ _ _ _ => pts_nil) (fun _ _ _ _ _ => (pe_fn (ok_is_pair (P := P) T) (hr.mono (by decide)) (by rfl) (pa_cons (pv 0) (pa_cons (pv 2) pa_nil))))) pa_nil))))))) (pss_one (ps_ret pe_bl)) pss_nil)
    (pss_one (ps_ret (pe_callB (cr_all rfl) (by rfl) T.f_all (by decide +kernel) (pa_cons (pe_lc (own := [("one", 2), ("other", 3)]) rfl sc_are_twins.nd (RZ.pi_zipA (by rfl) T.f_zip (pa_cons (pv 1) (pa_cons (pe_slice sl_tupA (pv 1) (po_some pe_int) po_none) pa_nil))) (blkOk_by (own := [("one", 2), ("other", 3)]) (N := n_are_twins) (sc := SL.d_are_twins.scope) (by decide +kernel)) (fun _ _ _ _ _ => (pg_tupK (n := 2) rfl rfl (pgs_cons (pg_name (i := 2) sc_are_twins.nd rfl (Or.inl rfl)) (pgs_cons (pg_name (i := 3) sc_are_twins.nd rfl (Or.inl rfl)) pgs_nil)))) (fun _ _ _ _ _ => pts_nil) (fun _ _ _ _ _ => (pe_cmpR (op_ltTK hr.units0 rfl) (pv 2) (pv 3) (nomark _)))) pa_nil))))), ?_⟩
  obtain ⟨hA, ok, ⟨as, hB, hP⟩, tok⟩ := hh
  have few := tok.few
  have hl : (as.map V.ref).length = tw.length := by rw [List.length_map]; exact paired_len hP
  refine ⟨_, rfl, _, _, _, _, _, rfl, .ty _, .base (.tup hB), k_tt, true, rfl, _, rfl, b, rfl, ⟨_, .of hB⟩, fun D nD => ?_⟩
  refine lc_pure walk_tup tw (fun _ => [.bl true]) hl (by omega) (fun _ => Nat.le_refl _) nD (fun H2 s2 => .of (s2 _ _ hB)) same_yat ?_ ?_
  · rintro i q z H2 H3 Kq N hi s2 ⟨rfl, hx⟩ hK hN
    obtain ⟨c, hc, hq⟩ := paired_get hP hi
    rw [List.getElem?_map, hc] at hx
    cases hx
    exact ⟨rfl, _, rfl, _, rfl, a, x, y, c, hs, q, rfl, ⟨hA.mono (.of s2), ok, hq.mono (.of s2), tok.ins q (List.mem_of_getElem? hi)⟩, fun H4 s4 => hK _ _ s4 rfl⟩
  · intro H2 s2 hD
    rw [flat_true] at hD
    refine ⟨D, _, rfl, .of hD, ?_⟩
    rw [all_true]
    refine ⟨true, rfl, _, rfl, _, rfl, 1, rfl, ?_⟩
    dsimp only [tNoPart]
    refine tail_go (s2 _ _ hB) fun c H3 s3 hc => ?_
    have hB3 := s3 _ _ (s2 _ _ hB)
    refine ⟨b, c, _, _, rfl, .inr ⟨.of hB3, .of hc, fun D2 nD2 => ?_⟩⟩
    have hzl : (tw.zip (tw.drop 1)).length = min (as.map V.ref).length ((as.map V.ref).drop 1).length := by rw [List.length_zip, hl, List.length_drop, List.length_drop, hl]
    refine lc_pure (walk_zipT hzl) (tw.zip (tw.drop 1)) (fun _ => [.bl true]) rfl (by have := zip_len1 tw; omega) (fun _ => Nat.le_refl _) nD2 (fun H4 s4 => ⟨.of (s4 _ _ hB3), .of (s4 _ _ hc)⟩) same_ypair ?_ ?_
    · rintro i ⟨u, z⟩ v H4 H5 Kq N hi s4 ⟨t, x1, x2, rfl, nt, rfl, h1, h2⟩ hK hN
      obtain ⟨i1, i2⟩ := List.getElem?_zip_eq_some.mp hi
      have h1 : (as.map V.ref)[i]? = some x1 := h1
      have h2 : ((as.map V.ref).drop 1)[i]? = some x2 := h2
      rw [List.getElem?_drop, Nat.add_comm] at i2 h2
      obtain ⟨c1, hc1, hq1⟩ := paired_get hP i1
      obtain ⟨c2, hc2, hq2⟩ := paired_get hP i2
      rw [List.getElem?_map, hc1] at h1
      rw [List.getElem?_map, hc2] at h2
      cases h1
      cases h2
      have s5 := ((s2.trans s3).trans s4).trans (same_new (o := .tup [.ref c1, .ref c2]) nt)
      refine g2_go upd_same ⟨rfl, _, rfl, _, rfl, c1, c2, ni [u.1, u.2], ni [z.1, z.2], rfl, rfl, .of (by rw [ni_vns]; exact s5 _ _ hq1), .of (by rw [ni_vns]; exact s5 _ _ hq2), hK _ _ (Same.refl _) ?_⟩
      rw [lex_pair (rising_next2 tok.rise i1 (by rw [List.getElem?_drop, Nat.add_comm]; exact i2))]
    · intro H4 s4 hD4
      rw [flat_true] at hD4
      refine ⟨D2, _, rfl, .of hD4, ?_⟩
      rw [all_true]
      exact h _ ((s2.trans s3).trans s4)
/-! the paper -/
def PaperAt (H : Hp) (a : Addr) (pp : List Twins) : Prop := ∃ as : List Addr, H a = some (.tup (as.map V.ref)) ∧ Paired (TPairs H) as pp
theorem PaperAt.mono {H H' : Hp} {a : Addr} {pp : List Twins} (h : PaperAt H a pp) (e : SameT H H') : PaperAt H' a pp := let ⟨as, h1, h2⟩ := h; ⟨as, e _ _ h1, Paired.mapP h2 fun _ _ z => z.mono e⟩
def sp_is_paper : Sp := fun vs H Q _ => ∃ (ap a x y b : Addr) (p : Prog) (hs : Hues) (pp : List Twins), vs = [.ref ap, .ref a, .ref b] ∧ (ProgAt H ap p ∧ p.Ok ∧ HuesAt H a x y hs ∧ hs.Ok ∧ PaperAt H b pp ∧ pp.length = (blocks p).length ∧ ∀ tw ∈ pp, TwOk hs tw) ∧ Rv (.bl true) H Q
theorem blocks_len (p : Prog) : (blocks p).length = (beginnings p).length := by
  unfold blocks
  rw [List.length_zip, List.length_append, List.length_drop]
  have := beginnings_pos p
  simp only [List.length_cons, List.length_nil]
  omega
-- slots: 0:program 1:hues 2:thing 3:one   level 5
abbrev n_is_paper : List Str := ["program", "hues", "thing", "one"]
theorem sc_is_paper : FnScope n_is_paper ["program", "hues", "thing"] SL.d_is_paper.scope := ⟨rfl, rfl, rfl, by decide +kernel, rfl, by decide +kernel, by decide +kernel⟩
theorem ok_is_paper (T : Tx K mg w) : Cal P w K mg base "is_paper" 5 ["program", "hues", "thing"] sp_is_paper := by
  refine Cal.of T.D_is_paper T.g_is_paper sc_is_paper (fun _ _ _ _ _ _ us hl => match us, hl with | [_, _, _], _ => rfl) (fun vs H Q E h => ?_) fun f cdv A outer s H vs Q E hr h => ?_
  · obtain ⟨ap, a, x, y, b, p, hs, pp, rfl, _⟩ := h
    rfl
  obtain ⟨ap, a, x, y, b, p, hs, pp, rfl, hh, h⟩ := h
  refine ⟨_, (pss_cons (ps_if (PW.pt (pw_or (pt_not (pt_val (pe_callB call_isi (by rfl) T.f_isinstance (by decide +kernel) (pa_cons (pv 2) (pa_cons (pe_bltn (v := .ty "tuple") (by rfl) T.f_tuple (by decide +kernel) rfl) pa_nil))))) (pw_or1 (pt_cmpR op_ne (pe_callB call_len_seq (by rfl) T.f_len PySem.boot_len (pa_cons (pv 2) pa_nil)) (pe_callB call_len_seq (by rfl) T.f_len PySem.boot_len (pa_cons (pe_fn (ok_blocks T) (hr.mono (by decide)) (by rfl) (pa_cons (pv 0) pa_nil)) pa_nil)) (nomark _))))) (pss_one (ps_ret pe_bl)) pss_nil)
    (pss_one (ps_ret (pe_callB (cr_all rfl) (by rfl) T.f_all (by decide +kernel) (pa_cons (pe_lc (own := [("one", 3)]) rfl sc_is_paper.nd (pi_tup (pv 2)) (blkOk_by (own := [("one", 3)]) (N := n_is_paper) (sc := SL.d_is_paper.scope) (by decide +kernel)) (fun _ _ _ _ _ => (pg_name (i := 3) sc_is_paper.nd rfl (Or.inl rfl))) (fun _ _ _ _ _ => pts_nil) (fun _ _ _ _ _ => (pe_fn (ok_are_twins (P := P) T) (hr.mono (by decide)) (by rfl) (pa_cons (pv 1) (pa_cons (pv 3) pa_nil))))) pa_nil))))), ?_⟩
  obtain ⟨hP, pok, hA, ok, ⟨as, hB, hBs⟩, hlen, tok⟩ := hh
  have hl : (as.map V.ref).length = pp.length := by rw [List.length_map]; exact paired_len hBs
  have hbl := blocks_len p
  have hb := beginnings_len p
  have pl := pok.len
  refine ⟨_, rfl, _, _, _, _, _, rfl, .ty _, .base (.tup hB), k_tt, true, rfl, _, rfl, _, _, rfl, len_tup hB, _, rfl, ap, p, rfl, ⟨hP, pok⟩, fun q H1 nq s1 ⟨bs, hq, hqs⟩ => ⟨_, _, rfl, len_lst hq, rfl, _, rfl, ?_⟩⟩
  refine iteNS (congrArg V.int ?_) ?_
  · rw [hl, hlen, List.length_map, ← paired_len hqs]
  have hB1 := s1 _ _ hB
  refine ⟨_, rfl, b, rfl, ⟨_, .of hB1⟩, fun D nD => ?_⟩
  refine lc_pure walk_tup pp (fun _ => [.bl true]) hl (by omega) (fun _ => Nat.le_refl _) nD (fun H2 s2 => .of (s2 _ _ hB1)) same_yat ?_ ?_
  · rintro i tw z H2 H3 Kq N hi s2 ⟨rfl, hx⟩ hK hN
    obtain ⟨c, hc, hq⟩ := paired_get hBs hi
    rw [List.getElem?_map, hc] at hx
    cases hx
    have t2 := SameT.of (s1.trans s2)
    exact ⟨rfl, _, rfl, _, rfl, a, x, y, c, hs, tw, rfl, ⟨hA.mono t2, ok, hq.mono t2, tok tw (List.mem_of_getElem? hi)⟩, fun H4 s4 => hK _ _ s4 rfl⟩
  · intro H2 s2 hD
    rw [flat_true] at hD
    refine ⟨D, _, rfl, .of hD, ?_⟩
    rw [all_true]
    exact h _ (s1.trans s2)
end
end SL

/-! text OkLook -/
set_option Elab.async false
set_option linter.all false
set_option maxRecDepth 100000
set_option maxHeartbeats 4000000
namespace SL
open PySem PySem.Spec L2
section
variable {P : Program} {w : World} {K : PySem.W.Frag} {mg : Str → Option Value} {base : Heap}
theorem flat_bl {α : Type} (f : α → Bool) (l : List α) : l.flatMap (fun a => [V.bl (f a)]) = (l.map f).map V.bl := by
  rw [flat_one, List.map_map]
  rfl
theorem in_barred (r : Row) : inV (.str r.word) [.str "tell", .str "put", .str "if", .str "tell3", .str "put3", .str "if3"] = false := by
  cases r with
  | bin o => cases o <;> rfl
  | _ => rfl
def Row.two : Row → Bool
  | .hold _ _ => true | .tell2 _ _ => true | .put2 _ _ _ _ => true | .if2 _ _ _ => true
  | _ => false
theorem in_two (r : Row) : inV (.str r.word) [.str "hold", .str "tell2", .str "put2", .str "if2"] = r.two := by
  cases r with
  | bin o => cases o <;> rfl
  | _ => rfl
theorem in_out (r : Row) : inV (.str r.word) [.str "tell2", .str "put2", .str "if2"] = r.out := by
  cases r with
  | bin o => cases o <;> rfl
  | _ => rfl
def hueAt (h : Hues) (i : Nat) : List Nat := if i % 2 = 0 then h.1 else h.2
theorem careful_two {r : Row} (h : r.two = true) (hs : Hues) : r.careful hs = (r.reads.zipIdx.map fun q => decide (q.1 ∈ hueAt hs q.2)).all id := by
  cases r <;> simp [Row.two] at h <;> simp [Row.careful, Row.reads, hueAt, List.zipIdx]
theorem careful_none {r : Row} (h2 : r.two = false) (h : r.sets = none) (hs : Hues) : r.careful hs = true := by
  cases r <;> simp [Row.two] at h2 <;> simp [Row.sets] at h <;> rfl
theorem careful_some {r : Row} {b : Nat} (h : r.sets = some b) (hs : Hues) : r.careful hs = ([hs.1, hs.2].map fun u => decide (b ∈ u) && (r.reads.map fun c => decide (c ∈ u)).all id).any id := by
  cases r <;> simp [Row.sets] at h <;> subst h <;> simp [Row.careful, Row.reads, Row.sets, List.all_map] <;> rfl
theorem reads_few (r : Row) : r.reads.length ≤ 4 := by cases r <;> simp [Row.reads]
def sp_is_careful : Sp := fun vs H Q _ => ∃ (a x y b : Addr) (hs : Hues) (r : Row), vs = [.ref a, .ref b] ∧ (HuesAt H a x y hs ∧ RowAt H b r) ∧ Rv (.bl (r.careful hs)) H Q
-- slots: 0:hues 1:row 2:read 3:hue 4:place 5:box   level 3
abbrev n_is_careful : List Str := ["hues", "row", "read", "hue", "place", "box"]
theorem sc_is_careful : FnScope n_is_careful ["hues", "row"] SL.d_is_careful.scope := ⟨rfl, rfl, rfl, by decide +kernel, rfl, by decide +kernel, by decide +kernel⟩
theorem ok_is_careful (T : Tx K mg w) : Cal P w K mg base "is_careful" 3 ["hues", "row"] sp_is_careful := by
  refine Cal.of T.D_is_careful T.g_is_careful sc_is_careful (fun _ _ _ _ _ _ us hl => match us, hl with | [_, _], _ => rfl) (fun vs H Q E h => ?_) fun f cdv A outer s H vs Q E hr h => ?_
  · obtain ⟨a, x, y, b, hs, r, rfl, _⟩ := h
    rfl
  obtain ⟨a, x, y, b, hs, r, rfl, hh, h⟩ := h
  refine ⟨_, (pss_cons (ps_set (i := 2) sc_is_careful.nd rfl (Or.inr rfl) (pe_fn (ok_reads T) (hr.mono (by decide)) (by rfl) (pa_cons (pv 1) pa_nil)))
    (pss_cons (ps_if (pt_cmpR op_in_seq (pe_ix ix_tup (pv 1) pe_int (fun _ _ => rfl)) (pe_ca (by rfl) T.g_BARRED) (by rfl)) (pss_one (ps_ret pe_bl)) pss_nil)
    (pss_cons (ps_if (pt_cmpR op_in_seq (pe_ix ix_tup (pv 1) pe_int (fun _ _ => rfl)) (pe_ca (by rfl) T.g_BY_TWO) (by rfl)) (pss_one (ps_ret (pe_callB (cr_all rfl) (by rfl) T.f_all (by decide +kernel) (pa_cons (pe_lc (own := [("place", 4), ("box", 5)]) rfl sc_is_careful.nd (pi_enumT (by rfl) T.f_enumerate (pa_cons (pv 2) pa_nil)) (blkOk_by (own := [("place", 4), ("box", 5)]) (N := n_is_careful) (sc := SL.d_is_careful.scope) (by decide +kernel)) (fun _ _ _ _ _ => (pg_tupK (n := 2) rfl rfl (pgs_cons (pg_name (i := 4) sc_is_careful.nd rfl (Or.inl rfl)) (pgs_cons (pg_name (i := 5) sc_is_careful.nd rfl (Or.inl rfl)) pgs_nil)))) (fun _ _ _ _ _ => pts_nil) (fun _ _ _ _ _ => (pe_cmpR (op_in_seqK rfl) (pv 5) (pe_ix (ix_tupK rfl) (pv 0) (pe_op op_mod (pv 4) pe_int) (fun _ _ => rfl)) (by rfl)))) pa_nil)))) pss_nil)
    (pss_cons (ps_if (pt_cmpR op_isN (pe_fn (ok_sets T) (hr.mono (by decide)) (by rfl) (pa_cons (pv 1) pa_nil)) pe_non (nomark _)) (pss_one (ps_ret pe_bl)) pss_nil)
    (pss_one (ps_ret (pe_callB (cr_any rfl) (by rfl) T.f_any (by decide +kernel) (pa_cons (pe_lc (own := [("hue", 3)]) rfl sc_is_careful.nd (pi_tup (pv 0)) (blkOk_by (own := [("hue", 3)]) (N := n_is_careful) (sc := SL.d_is_careful.scope) (by decide +kernel)) (fun _ _ _ _ _ => (pg_name (i := 3) sc_is_careful.nd rfl (Or.inr rfl))) (fun _ _ _ _ _ => pts_nil) (fun _ _ _ _ _ => (pe_and (pe_cmpR (op_in_seqK rfl) (pe_fn (ok_sets (P := P) T) (hr.mono (by decide)) (by rfl) (pa_cons (pv 1) pa_nil)) (pv 3) (by rfl)) (pe_one (pe_callB (cr_allK rfl rfl) (by rfl) T.f_all (by decide +kernel) (pa_cons (pe_lc (own := [("box", 5)]) rfl sc_is_careful.nd (pi_tupK rfl (pv 2)) (blkOk_by (own := [("box", 5)]) (N := n_is_careful) (sc := (relS _ SL.d_is_careful.scope)) (by decide +kernel)) (fun _ _ _ _ _ => (pg_name (i := 5) sc_is_careful.nd rfl (Or.inl rfl))) (fun _ _ _ _ _ => pts_nil) (fun _ _ _ _ _ => (pe_cmpR (op_in_seqK rfl) (pv 5) (pv 3) (by rfl)))) pa_nil)))))) pa_nil)))))))), ?_⟩
  obtain ⟨hA, hR⟩ := hh
  have few := reads_few r
  refine ⟨_, rfl, b, r, rfl, hR, fun rt H1 nrt s1 hrt => ?_⟩
  have hR1 := hR.mono (.of s1)
  have hA1 := hA.mono (.of s1)
  refine ⟨_, rfl, _, _, _, _, rfl, rfl, .of hR1, row_at0 r, _, _, rfl, .inr (T.v_BARRED _), rfl, rfl, _, rfl, ?_⟩
  show if inV (.str r.word) [.str "tell", .str "put", .str "if", .str "tell3", .str "put3", .str "if3"] = true then _ else _
  rw [in_barred]
  refine ⟨_, rfl, _, _, _, _, rfl, rfl, .of hR1, row_at0 r, _, _, rfl, .inr (T.v_BY_TWO _), rfl, rfl, _, rfl, ?_⟩
  show if inV (.str r.word) [.str "hold", .str "tell2", .str "put2", .str "if2"] = true then _ else _
  rw [in_two]
  cases q : r.two with
  | true =>
    refine ⟨_, rfl, rt, _, rfl, .of hrt, fun D nD => ?_⟩
    have hl : (vns r.reads).length = r.reads.zipIdx.length := by rw [len_vns, List.length_zipIdx]
    refine lc_pure walk_enumT r.reads.zipIdx (fun q => [.bl (decide (q.1 ∈ hueAt hs q.2))]) hl (by rw [List.length_zipIdx]; omega) (fun _ => Nat.le_refl _) nD (fun H2 s2 => .of (s2 _ _ hrt)) same_ypair ?_ ?_
    · rintro i ⟨c, j⟩ z H2 H3 Kq N hi s2 ⟨t, x1, x2, rfl, nt, rfl, h1, h2⟩ hK hN
      rw [List.getElem?_zipIdx] at hi
      cases e : r.reads[i]? with
      | none => rw [e] at hi; cases hi
      | some c' =>
        rw [e] at hi
        cases hi
        have h2 : (vns r.reads)[i]? = some x2 := h2
        rw [get_vns e] at h2
        cases h1
        cases h2
        have hA2 := (hA1.mono (.of s2)).mono (.of (same_new (o := .tup [.int (i : Nat), vn c]) nt))
        have hix : ∃ u, atI [V.ref x, V.ref y] ((i : Int) % 2) = some (.ref u) ∧ (upd H2 t (.tup [.int (i : Nat), vn c])) u = some (.tup (vns (hueAt hs (0 + i)))) := by
          rw [Nat.zero_add]
          unfold hueAt
          by_cases e2 : i % 2 = 0
          · rw [if_pos e2, show ((i : Int) % 2) = ((0 : Nat) : Int) by omega]
            exact ⟨x, atI_nat (j := 0) rfl, hA2.one⟩
          · rw [if_neg e2, show ((i : Int) % 2) = ((1 : Nat) : Int) by omega]
            exact ⟨y, atI_nat (j := 1) rfl, hA2.two⟩
        obtain ⟨u, hu1, hu2⟩ := hix
        refine g2_go upd_same ⟨rfl, _, rfl, _, rfl, _, rfl, _, _, rfl, rfl, by show (0 : Int) < 2; decide, _, _, _, _, rfl, rfl, .of hA2.at_, hu1, u, _, rfl, .inr (.of hu2), rfl, flat_vns (K := K) _, hK _ _ (Same.refl _) ?_⟩
        show [V.bl (decide (c ∈ hueAt hs (0 + i)))] = [V.bl (inV (vn c) (vns (hueAt hs (0 + i))))]
        rw [inV_vns]
    · intro H2 s2 hD
      rw [flat_bl] at hD
      refine ⟨D, _, rfl, .of hD, ?_⟩
      rw [← careful_two q hs]
      exact h _ (s1.trans s2)
  | false =>
    refine ⟨_, rfl, b, r, rfl, hR1, fun H2 s2 => ⟨rfl, _, rfl, ?_⟩⟩
    have s12 := s1.trans s2
    cases q2 : r.sets with
    | none =>
      have := h _ s12
      rw [careful_none q q2] at this
      exact this
    | some b0 =>
      have hA2 := hA.mono (.of s12)
      have hR2 := hR.mono (.of s12)
      have hrt2 := s2 _ _ hrt
      refine ⟨_, rfl, a, rfl, ⟨_, .of hA2.at_⟩, fun D nD => ?_⟩
      refine lc_pure walk_tup [hs.1, hs.2] (fun u => [.bl (decide (b0 ∈ u) && (r.reads.map fun c => decide (c ∈ u)).all id)]) rfl (by show 2 ≤ 1000; decide) (fun _ => Nat.le_refl _) nD (fun H3 s3 => .of (s3 _ _ hA2.at_)) same_yat ?_ ?_
      · rintro i u z H3 H4 Kq N hi s3 ⟨rfl, hx⟩ hK hN
        have e : ∃ ux, ([V.ref x, V.ref y] : List V)[i]? = some (.ref ux) ∧ H4 ux = some (.tup (vns u)) := by
          cases i with
          | zero =>
            cases hi
            exact ⟨x, rfl, s3 _ _ hA2.one⟩
          | succ i =>
            cases i with
            | zero =>
              cases hi
              exact ⟨y, rfl, s3 _ _ hA2.two⟩
            | succ i => simp at hi
        obtain ⟨ux, e1, e2⟩ := e
        rw [e1] at hx
        cases hx
        refine ⟨rfl, _, rfl, b, r, rfl, hR2.mono (.of s3), fun H5 s5 => ?_⟩
        rw [q2]
        refine ⟨_, rfl, ux, _, rfl, .inr (.of (s5 _ _ e2)), rfl, flat_vns (K := K) _, _, rfl, ?_⟩
        show if inV (vn b0) (vns u) = true then _ else _
        rw [inV_vns]
        refine ite2 (fun y1 => ?_) fun y1 => ?_
        · refine ⟨_, rfl, rt, rfl, ⟨_, .of (s5 _ _ (s3 _ _ hrt2))⟩, fun D2 nD2 => ?_⟩
          refine lc_pure walk_tup r.reads (fun c => [.bl (decide (c ∈ u))]) (len_vns _) (by omega) (fun _ => Nat.le_refl _) nD2 (fun H6 s6 => .of (s6 _ _ (s5 _ _ (s3 _ _ hrt2)))) same_yat ?_ ?_
          · rintro j c z2 H6 H7 Kq2 N2 hj s6 ⟨rfl, hx2⟩ hK2 hN2
            rw [get_vns hj] at hx2
            cases hx2
            refine ⟨rfl, _, rfl, _, rfl, ux, _, rfl, .inr (.of (s6 _ _ (s5 _ _ e2))), rfl, flat_vns (K := K) _, hK2 _ _ (Same.refl _) ?_⟩
            show [V.bl (decide (c ∈ u))] = [V.bl (inV (vn c) (vns u))]
            rw [inV_vns]
          · intro H6 s6 hD6
            rw [flat_bl] at hD6
            refine ⟨D2, _, rfl, .of hD6, hK _ _ (s5.trans s6) ?_⟩
            rw [y1, Bool.true_and]
        · refine hK _ _ s5 ?_
          rw [eq_false_of_ne_true y1, Bool.false_and]
      · intro H3 s3 hD
        rw [flat_bl] at hD
        refine ⟨D, _, rfl, .of hD, ?_⟩
        rw [← careful_some q2 hs]
        exact h _ (s12.trans s3)
/-- None, or not -/
def Rn (b : Bool) (H : Hp) (Q : VK) : Prop := ∀ v H', Same H H' → decide (v = .non) = b → Q v H'
def sp_row_fault : Sp := fun vs H Q _ => ∃ (ap a x y : Addr) (p : Prog) (hs : Hues), vs = [.ref ap, .ref a] ∧ (ProgAt H ap p ∧ HuesAt H a x y hs) ∧ Rn (p.all (Row.careful hs)) H Q
-- slots: 0:program 1:hues 2:number 3:row   level 4
abbrev n_row_fault : List Str := ["program", "hues", "number", "row"]
theorem sc_row_fault : FnScope n_row_fault ["program", "hues"] SL.d_row_fault.scope := ⟨rfl, rfl, rfl, by decide +kernel, rfl, by decide +kernel, by decide +kernel⟩
theorem ok_row_fault (T : Tx K mg w) : Cal P w K mg base "row_fault" 4 ["program", "hues"] sp_row_fault := by
  refine Cal.of T.D_row_fault T.g_row_fault sc_row_fault (fun _ _ _ _ _ _ us hl => match us, hl with | [_, _], _ => rfl) (fun vs H Q E h => ?_) fun f cdv A outer s H vs Q E hr h => ?_
  · obtain ⟨ap, a, x, y, p, hs, rfl, _⟩ := h
    rfl
  obtain ⟨ap, a, x, y, p, hs, rfl, hh, h⟩ := h
  refine ⟨_, (pss_cons (ps_for PassesOwn.never rfl (pi_enumT (by rfl) T.f_enumerate (pa_cons (pv 0) pa_nil)) (pg_tup rfl (pgs_cons (pg_name (i := 2) sc_row_fault.nd rfl (Or.inl rfl)) (pgs_cons (pg_name (i := 3) sc_row_fault.nd rfl (Or.inl rfl)) pgs_nil)))
    (pss_one (ps_if (pt_not (pt_val (pe_fn (ok_is_careful T) (hr.mono (by decide)) (by rfl) (pa_cons (pv 1) (pa_cons (pv 3) pa_nil))))) (pss_one (ps_ret (pe_tup (pa_cons pe_str (pa_cons (pv 2) pa_nil))))) pss_nil)))
    (pss_one (ps_ret pe_non))), ?_⟩
  obtain ⟨⟨rs, hP, hRs⟩, hA⟩ := hh
  have hl : (rs.map V.ref).length = p.length := by rw [List.length_map]; exact paired_len hRs
  refine ⟨_, rfl, ap, _, rfl, .of hP, ?_⟩
  refine for_it walk_enumT (fun i σ H2 => ∃ v1 v2, σ = [some (.ref ap), some (.ref a), v1, v2] ∧ Same H H2 ∧ (p.take i).all (Row.careful hs) = true) ⟨none, none, rfl, Same.refl _, rfl⟩ (fun i σ H2 _ z => by obtain ⟨_, _, _, s2, _⟩ := z; exact .of (s2 _ _ hP)) ?_ ?_
  · rintro i x1 σ H2 H3 hi ⟨v1, v2, rfl, s2, hc⟩ ⟨t, x2, x3, rfl, nt, rfl, h1, h2⟩
    have h2 : (rs.map V.ref)[i]? = some x3 := h2
    cases h1
    have hip : i < p.length := by omega
    obtain ⟨b, hb, hR⟩ := paired_get hRs (at_eq hip)
    rw [List.getElem?_map, hb] at h2
    cases h2
    have s3 := same_upd (o := .tup [.int (i : Nat), .ref b]) s2 nt
    have et : p.take (i + 1) = p.take i ++ [p.at i] := by rw [List.take_succ, at_eq hip]; rfl
    refine g2_go upd_same ⟨_, rfl, _, rfl, a, x, y, b, hs, p.at i, rfl, ⟨hA.mono (.of s3), hR.mono (.of s3)⟩, fun H4 s4 => ⟨_, rfl, ?_⟩⟩
    have s34 := s3.trans s4
    cases q : (p.at i).careful hs with
    | true => exact ⟨_, _, rfl, s34, by rw [et, List.all_append, hc, List.all_cons, q]; rfl⟩
    | false =>
      refine ⟨_, rfl, by show 2 ≤ sizeLine; decide, fun u nu => h _ _ (s34.trans (same_new nu)) ?_⟩
      have : p.all (Row.careful hs) = false := by
        rw [List.all_eq_false]
        exact ⟨p.at i, List.mem_of_getElem? (at_eq hip), by rw [q]; decide⟩
      rw [this]
      rfl
  · rintro σ H2 ⟨v1, v2, rfl, s2, hc⟩
    rw [hl, List.take_length] at hc
    exact h _ _ s2 (by rw [hc]; rfl)
end
end SL

/-! text OkLook2 -/
set_option Elab.async false
set_option linter.all false
set_option maxRecDepth 100000
set_option maxHeartbeats 4000000
namespace SL
open PySem PySem.Spec L2
section
variable {P : Program} {w : World} {K : PySem.W.Frag} {mg : Str → Option Value} {base : Heap}
theorem pairs_snoc (a b : Nat) : ∀ (l : List Nat) (s : VS), l.length % 2 = 0 → s.pairs (l ++ [a, b]) = ((s.pairs l).1.two a b, (s.pairs l).2 && (s.pairs l).1.one a b)
  | [], s, _ => by
    show ((s.two a b), (s.one a b && true)) = ((s.two a b), (true && s.one a b))
    rw [Bool.and_true, Bool.true_and]
  | [_], s, h => by simp at h
  | x :: y :: r, s, h => by
    have ih := pairs_snoc a b r (s.two x y) (by simp at h; omega)
    show (((s.two x y).pairs (r ++ [a, b])).1, (s.one x y && ((s.two x y).pairs (r ++ [a, b])).2)) = _
    rw [ih]
    show _ = ((((s.two x y).pairs r).1.two a b), ((s.one x y && ((s.two x y).pairs r).2) && ((s.two x y).pairs r).1.one a b))
    rw [Bool.and_assoc]
theorem rgc2 {n : Nat} (h : n % 2 = 0) (h4 : n ≤ 4) : RgC 0 (n : Int) 2 (n / 2) := by
  rcases (by omega : n = 0 ∨ n = 2 ∨ n = 4) with e | e | e <;> subst e <;> exact ⟨by decide, by decide, by decide +kernel, by decide +kernel⟩
def sp_are_alike (P : Program) (w : World) (K : PySem.W.Frag) : Sp := fun vs H Q _ => ∃ (v dx l h f : Addr) (B : Hp) (s : VS) (n : Nat) (a : Addr) (ms : List Nat), vs = [.ref v, .ref a] ∧ (VAtX P w (ga K "Values") B H v dx l h f s ∧ s.Ok n ∧ n ≤ 700 ∧ H a = some (.tup (vns ms)) ∧ ms.length % 2 = 0 ∧ ms.length ≤ 4) ∧
  ∀ H', VAtX P w (ga K "Values") B H' v dx l h f (s.pairs ms).1 → SameT H H' → Q (.bl (s.pairs ms).2) H'
-- slots: 0:values 1:read 2:place   level 4
abbrev n_are_alike : List Str := ["values", "read", "place"]
theorem sc_are_alike : FnScope n_are_alike ["values", "read"] SL.d_are_alike.scope := ⟨rfl, rfl, rfl, by decide +kernel, rfl, by decide +kernel, by decide +kernel⟩
theorem ok_are_alike (T : Tx K mg w) : Cal P w K mg base "are_alike" 4 ["values", "read"] (sp_are_alike P w K) := by
  refine Cal.of T.D_are_alike T.g_are_alike sc_are_alike (fun _ _ _ _ _ _ us hl => match us, hl with | [_, _], _ => rfl) (fun vs H Q E h => ?_) fun f cdv A outer s H vs Q E hr h => ?_
  · obtain ⟨v, dx, l, hh, f, B, s, n, a, ms, rfl, _⟩ := h
    rfl
  obtain ⟨v, dx, l, hh, f, B, s, n, a, ms, rfl, u, h⟩ := h
  refine ⟨_, (pss_one (ps_ret (pe_callB (cr_all rfl) (by rfl) T.f_all (by decide +kernel) (pa_cons (pe_lc (own := [("place", 2)]) rfl sc_are_alike.nd (pi_range3 rfl T.f_range (pa_cons pe_int (pa_cons (pe_callB call_len_seq (by rfl) T.f_len PySem.boot_len (pa_cons (pv 1) pa_nil)) (pa_cons pe_int pa_nil)))) (blkOk_by (own := [("place", 2)]) (N := n_are_alike) (sc := SL.d_are_alike.scope) (by decide +kernel)) (fun _ _ _ _ _ => (pg_name (i := 2) sc_are_alike.nd rfl (Or.inl rfl))) (fun _ _ _ _ _ => pts_nil) (fun _ _ _ _ _ => (pe_mth (pv 0) (ok_Values_are_one (P := P) T) (hr.mono (by decide)) (pa_cons (pe_ix (ix_tupK rfl) (pv 1) (pv 2) (fun _ _ => rfl)) (pa_cons (pe_ix (ix_tupK rfl) (pv 1) (pe_op op_add (pv 2) pe_int) (fun _ _ => rfl)) pa_nil))))) pa_nil)))), ?_⟩
  obtain ⟨vx, ok, hn, ha, he, h4⟩ := u
  refine ⟨_, rfl, _, _, rfl, len_tup ha, 0, _, 2, _, rfl, by rw [len_vns]; exact rgc2 he h4, fun D nD => ?_⟩
  have hBD : B D = none := vx.off.same.free nD
  refine lc_it (walk_rangeC (lo := 0) (c := 2)) (fun i H2 => ∃ bs : List Bool, VAtX P w (ga K "Values") (upd B D (.lst (bs.map V.bl))) H2 v dx l hh f (s.pairs (ms.take (2 * i))).1 ∧ bs.all id = (s.pairs (ms.take (2 * i))).2 ∧ bs.length = i ∧ SameT H H2)
    ⟨[], vx.grow nD, rfl, rfl, .of (same_new nD)⟩ (fun i H _ _ => trivial) ?_ ?_
  · rintro i x H2 H3 hi ⟨bs, v2, hb, hl, t2⟩ ⟨rfl, rfl⟩
    have e1 : (0 : Int) + (i : Nat) * 2 = ((2 * i : Nat) : Int) := by omega
    have h1 : 2 * i < ms.length := by omega
    have h2 : 2 * i + 1 < ms.length := by omega
    have et : ms.take (2 * (i + 1)) = ms.take (2 * i) ++ [ms.getD (2 * i) 0, ms.getD (2 * i + 1) 0] := by
      rw [show 2 * (i + 1) = 2 * i + 1 + 1 by omega, List.take_succ, List.take_succ, List.append_assoc]
      rw [List.getD_eq_getElem?_getD, List.getD_eq_getElem?_getD, List.getElem?_eq_getElem h1, List.getElem?_eq_getElem h2]
      rfl
    have el : (ms.take (2 * i)).length = 2 * i := by rw [List.length_take]; omega
    have ok2 := ok.pairs (l := ms.take (2 * i))
    have ha2 := t2 _ _ ha
    refine ⟨rfl, _, rfl, v, dx, _, rfl, v2.ob, rfl, _, rfl, _, rfl, _, _, _, _, rfl, rfl, .of ha2, by rw [e1]; exact at_vns h1, _, rfl, _, rfl, _, _, rfl, rfl, _, _, _, _, rfl, rfl, .of ha2, by rw [e1]; exact at_vns h2,
      v, dx, l, hh, f, _, _, _, ms.getD (2 * i) 0, ms.getD (2 * i + 1) 0, rfl, ⟨v2, ok2, by omega⟩, fun H5 v5 t5 => ⟨_, v5.off.same _ _ upd_same, ?_, bs ++ [(s.pairs (ms.take (2 * i))).1.one (ms.getD (2 * i) 0) (ms.getD (2 * i + 1) 0)], ?_, ?_, ?_, ?_⟩⟩
    · rw [List.length_map]
      exact small_of (by omega)
    · have v6 := v5.put (a := D) (o' := .lst (bs.map V.bl ++ [V.bl ((s.pairs (ms.take (2 * i))).1.one (ms.getD (2 * i) 0) (ms.getD (2 * i + 1) 0))])) upd_same fun xs z => by cases z
      rw [upd_upd] at v6
      rw [List.map_append, et, pairs_snoc _ _ _ _ (by omega)]
      exact v6
    · rw [et, pairs_snoc _ _ _ _ (by omega), List.all_append, hb]
      simp
    · rw [List.length_append, hl]
      rfl
    · exact (t2.trans t5).trans (sameT_upd (v5.off.same _ _ upd_same) fun xs z => by cases z)
  · rintro H2 ⟨bs, v2, hb, hl, t2⟩
    have e : ms.take (2 * (ms.length / 2)) = ms := by rw [show 2 * (ms.length / 2) = ms.length by omega, List.take_length]
    rw [e] at v2 hb
    refine ⟨D, bs, rfl, .of (v2.off.same _ _ upd_same), ?_⟩
    rw [hb]
    exact h _ (v2.le (same_new hBD)) t2
/-! twins_fault -/
theorem rowsOk_app : ∀ (l m : List Row) (s : VS), s.rowsOk (l ++ m) = (s.rowsOk l).bind fun t => t.rowsOk m
  | [], m, s => rfl
  | r :: l, m, s => by
    show (match s.rowOk r with | some t => t.rowsOk (l ++ m) | none => none) = (match s.rowOk r with | some t => t.rowsOk l | none => none).bind fun t => t.rowsOk m
    cases s.rowOk r with
    | none => rfl
    | some t => exact rowsOk_app l m t
theorem rowsOk_snoc (l : List Row) (r : Row) (s : VS) : s.rowsOk (l ++ [r]) = (s.rowsOk l).bind fun t => t.rowOk r := by
  rw [rowsOk_app]
  congr 1
  funext t
  show (match t.rowOk r with | some u => some u | none => none) = t.rowOk r
  cases t.rowOk r <;> rfl
theorem cut_at {p : Prog} {b : Nat × Nat} {i : Nat} (h1 : b.1 + i < b.2) (h2 : b.2 ≤ p.length) : (cut p b)[i]? = some (p.at (b.1 + i)) := by
  unfold cut
  rw [List.getElem?_take_of_lt (by omega), List.getElem?_drop]
  exact at_eq (by omega)
theorem cut_len {p : Prog} {b : Nat × Nat} (h2 : b.2 ≤ p.length) : (cut p b).length = b.2 - b.1 := by
  unfold cut
  rw [List.length_take, List.length_drop]
  omega
theorem out_reads {r : Row} (h : r.out = true) : r.reads.length % 2 = 0 ∧ r.reads.length ≤ 4 := by cases r <;> simp [Row.out] at h <;> simp [Row.reads]
def sp_twins_fault (P : Program) (w : World) (K : PySem.W.Frag) : Sp := fun vs H Q _ => ∃ (ap ab v : Addr) (p : Prog) (b : Nat × Nat) (B : Hp) (s : VS) (n : Nat), vs = [.ref ap, .ref ab, .ref v] ∧ (ProgAt H ap p ∧ PairAt H ab b ∧ p.length ≤ 20 ∧ b.1 < b.2 ∧ b.2 ≤ p.length ∧ VAt P w (ga K "Values") B H v s ∧ s.Ok n ∧ n ≤ 100) ∧
  (∀ s' H', s.rowsOk (cut p b) = some s' → s'.Ok (n + 9 * (b.2 - b.1)) → VAt P w (ga K "Values") B H' v s' → SameT H H' → Q .non H') ∧ (s.rowsOk (cut p b) = none → ∀ t H', Same B H' → SameT H H' → Q (.ref t) H')
theorem split_at {l : List Row} {i : Nat} {r : Row} (h : l[i]? = some r) : l = l.take i ++ r :: l.drop (i + 1) := by
  obtain ⟨hi, e⟩ := List.getElem?_eq_some_iff.mp h
  conv => lhs; rw [← List.take_append_drop i l]
  rw [List.drop_eq_getElem_cons hi, e]
-- slots: 0:program 1:block 2:values 3:number 4:row   level 6
abbrev n_twins_fault : List Str := ["program", "block", "values", "number", "row"]
theorem sc_twins_fault : FnScope n_twins_fault ["program", "block", "values"] SL.d_twins_fault.scope := ⟨rfl, rfl, rfl, by decide +kernel, rfl, by decide +kernel, by decide +kernel⟩
theorem ok_twins_fault (T : Tx K mg w) : Cal P w K mg base "twins_fault" 6 ["program", "block", "values"] (sp_twins_fault P w K) := by
  refine Cal.of T.D_twins_fault T.g_twins_fault sc_twins_fault (fun _ _ _ _ _ _ us hl => match us, hl with | [_, _, _], _ => rfl) (fun vs H Q E h => ?_) fun f cdv A outer s H vs Q E hr h => ?_
  · obtain ⟨ap, ab, v, p, b, B, s, n, rfl, _⟩ := h
    rfl
  obtain ⟨ap, ab, v, p, b, B, s, n, rfl, u, h⟩ := h
  refine ⟨_, (pss_cons (ps_for PassesOwn.never rfl (pi_range2 rfl T.f_range (pa_cons (pe_ix ix_tup (pv 1) pe_int (fun _ _ => rfl)) (pa_cons (pe_ix ix_tup (pv 1) pe_int (fun _ _ => rfl)) pa_nil))) (pg_name (i := 3) sc_twins_fault.nd rfl (Or.inl rfl))
    (pss_cons (ps_set (i := 4) sc_twins_fault.nd rfl (Or.inl rfl) (pe_ix ix_tup (pv 0) (pv 3) (fun _ _ => rfl)))
    (Evl.pss_cut (ps_if (PW.pt (pw_and (pt_cmpR op_in_seq (pe_ix ix_tup (pv 4) pe_int (fun _ _ => rfl)) (pe_ca (by rfl) T.g_GOING_OUT) (by rfl)) (pw_and1 (pt_not (pt_val (pe_fn (ok_are_alike T) (hr.mono (by decide)) (by rfl) (pa_cons (pv 2) (pa_cons (pe_fn (ok_reads T) (hr.mono (by decide)) (by rfl) (pa_cons (pv 4) pa_nil)) pa_nil)))))))) (pss_one (ps_ret (pe_tup (pa_cons pe_str (pa_cons (pv 3) pa_nil))))) pss_nil)
    (pss_one (ps_expr (pe_mth (pv 2) (ok_Values_do T) (hr.mono (by decide)) (pa_cons (pv 4) pa_nil)))))))
    (pss_one (ps_ret pe_non))), ?_⟩
  obtain ⟨hP, hb, hl, hb1, hb2, hv, ok, hn⟩ := u
  obtain ⟨rs, hA, hR⟩ := id hP
  obtain ⟨hs, hf⟩ := h
  refine ⟨_, rfl, _, _, _, _, rfl, rfl, .of hb, at0, _, rfl, _, _, _, _, rfl, rfl, .of hb, at1, _, _, rfl, ⟨by omega, by omega, by omega, by omega⟩, ?_⟩
  have en : (((b.2 : Nat) : Int) - ((b.1 : Nat) : Int)).toNat = b.2 - b.1 := by omega
  refine for_it walk_range (fun i σ H2 => ∃ v3 v4 s', σ = [some (.ref ap), some (.ref ab), some (.ref v), v3, v4] ∧ VAt P w (ga K "Values") B H2 v s' ∧ s'.Ok (n + 9 * i) ∧ s.rowsOk ((cut p b).take i) = some s' ∧ SameT H H2) ⟨none, none, s, rfl, hv, ok, rfl, SameT.refl _⟩ (fun _ _ _ _ _ => trivial) ?_ ?_
  · rintro i x σ H2 H3 hi ⟨v3, v4, s', rfl, ⟨dx, l, hh, f, vx⟩, ok2, hrows, t2⟩ ⟨rfl, rfl⟩
    have hi : i < (((b.2 : Nat) : Int) - ((b.1 : Nat) : Int)).toNat := hi
    rw [en] at hi
    have hi2 : b.1 + i < p.length := by omega
    have hi3 : b.1 + i < b.2 := by omega
    obtain ⟨r0, hr0, hR0⟩ := paired_get hR (at_eq hi2)
    have hR2 := hR0.mono t2
    have ec := cut_at hi3 hb2
    have et : (cut p b).take (i + 1) = (cut p b).take i ++ [p.at (b.1 + i)] := by rw [List.take_succ, ec]; rfl
    have esplit := split_at ec
    have e1 : ((b.1 : Nat) : Int) + ((i : Nat) : Int) = ((b.1 + i : Nat) : Int) := by omega
    have eA : atI (rs.map V.ref) (((b.1 : Nat) : Int) + ((i : Nat) : Int)) = some (.ref r0) := by
      rw [e1]
      refine atI_nat ?_
      rw [List.getElem?_map, hr0]
      rfl
    generalize hrr : p.at (b.1 + i) = r at *
    refine ⟨_, rfl, _, rfl, _, _, _, _, rfl, rfl, .of (t2 _ _ hA), eA, ?_⟩
    refine ⟨fun σ4 H4 => ∃ s4, σ4 = [some (.ref ap), some (.ref ab), some (.ref v), some (.int (((b.1 : Nat) : Int) + ((i : Nat) : Int))), some (.ref r0)] ∧ VAtX P w (ga K "Values") B H4 v dx l hh f s4 ∧ s4.Ok (n + 9 * i + 4) ∧ SameT H H4 ∧ s.rowsOk ((cut p b).take (i + 1)) = some (s4.do r), ?_, ?_⟩
    · refine ⟨_, rfl, _, _, _, _, rfl, rfl, .of hR2, row_at0 r, _, _, rfl, .inr (T.v_GOING_OUT _), rfl, rfl, _, rfl, ?_⟩
      show if inV (.str r.word) [.str "tell2", .str "put2", .str "if2"] = true then _ else _
      rw [in_out]
      cases q : r.out with
      | false =>
        refine ⟨s', rfl, vx, ok2.up (by omega), t2, ?_⟩
        rw [et, rowsOk_snoc, hrows]
        show s'.rowOk r = some (s'.do r)
        unfold VS.rowOk
        rw [q]
        rfl
      | true =>
        obtain ⟨ho1, ho2⟩ := out_reads q
        refine ⟨_, rfl, _, rfl, r0, r, rfl, hR2, fun rt H4 nrt s4 hrt => ⟨v, dx, l, hh, f, B, s', _, rt, r.reads, rfl, ⟨vx.ext s4, ok2, by omega, hrt, ho1, ho2⟩, fun H5 v5 t5 => ⟨_, rfl, ?_⟩⟩⟩
        have t25 := (t2.trans (.of s4)).trans t5
        cases q2 : (s'.pairs r.reads).2 with
        | true =>
          refine ⟨_, rfl, v5, ?_, t25, ?_⟩
          · exact (ok2.pairs (l := r.reads)).up (by omega)
          · rw [et, rowsOk_snoc, hrows]
            show s'.rowOk r = some ((s'.pairs r.reads).1.do r)
            unfold VS.rowOk
            rw [q, q2]
            rfl
        | false =>
          refine ⟨_, rfl, by show 2 ≤ sizeLine; decide, fun u nu => hf ?_ _ _ (v5.off.same.trans (same_new nu)) (t25.trans (.of (same_new nu)))⟩
          rw [esplit, rowsOk_app, hrows]
          show (match s'.rowOk r with | some t => t.rowsOk _ | none => none) = none
          unfold VS.rowOk
          rw [q, q2]
          rfl
    · rintro _ H4 ⟨s4, rfl, v4, ok4, t4, hr4⟩
      refine ⟨_, rfl, v, dx, _, rfl, v4.ob, rfl, _, rfl, v, dx, l, hh, f, B, s4, _, r0, r, rfl, ⟨v4, ok4, by omega, hR0.mono t4⟩, fun f' H5 v5 t5 => ⟨_, _, _, rfl, v5.at, ?_, hr4, t4.trans t5⟩⟩
      exact (ok4.do r).up (by omega)
  · rintro σ H2 ⟨v3, v4, s', rfl, v2, ok2, hrows, t2⟩
    have ok2 : s'.Ok (n + 9 * (((b.2 : Nat) : Int) - ((b.1 : Nat) : Int)).toNat) := ok2
    have hrows : s.rowsOk ((cut p b).take (((b.2 : Nat) : Int) - ((b.1 : Nat) : Int)).toNat) = some s' := hrows
    rw [en] at ok2 hrows
    rw [← cut_len hb2, List.take_length] at hrows
    exact hs s' H2 hrows ok2 v2 t2
/-! values_behind -/
theorem slice_go {K : PySem.W.Frag} {H : Hp} {a : Addr} {xs : List V} {lo hi : Nat} {Q : VK} (h : H a = some (.tup xs)) (h1 : lo ≤ hi) (h2 : hi ≤ xs.length) (k : ∀ b H1, Same H H1 → H1 b = some (.tup ((xs.drop lo).take (hi - lo))) → Q (.ref b) H1) : rSlA K (.ref a) (some (lo : Int)) (some (hi : Int)) H Q := by
  have e1 : HT.sIx xs.length 0 (some (lo : Int)) = lo := by rw [HT.sIx_nat]; omega
  have e2 : HT.sIx xs.length xs.length (some (hi : Int)) = hi := by rw [HT.sIx_nat]; omega
  refine ⟨a, xs, rfl, .of h, fun hw => ?_, fun _ p np => ?_⟩
  · rw [e1, e2] at hw
    refine k a H (Same.refl H) ?_
    rw [hw.1, hw.2, List.drop_zero, Nat.sub_zero, List.take_length]
    exact h
  · refine k p _ (same_new np) ?_
    rw [upd_same]
    unfold cutV
    rw [e1, e2]
theorem rows_snoc (r : Row) (l : List Row) (s : VS) : s.rows (l ++ [r]) = (s.rows l).do r := by
  unfold VS.rows
  rw [List.foldl_append]
  rfl
theorem paired_drop_n {α β : Type} {F : α → β → Prop} : ∀ {l₁ : List α} {l₂ : List β} (n : Nat), Paired F l₁ l₂ → Paired F (l₁.drop n) (l₂.drop n)
  | _, _, 0, h => h
  | _, _, n + 1, .nil => .nil
  | _, _, n + 1, .cons r t => paired_drop_n n t
theorem paired_take_n {α β : Type} {F : α → β → Prop} : ∀ {l₁ : List α} {l₂ : List β} (n : Nat), Paired F l₁ l₂ → Paired F (l₁.take n) (l₂.take n)
  | _, _, 0, h => .nil
  | _, _, n + 1, .nil => .nil
  | _, _, n + 1, .cons r t => .cons r (paired_take_n n t)
def sp_values_behind (P : Program) (w : World) (K : PySem.W.Frag) : Sp := fun vs H Q _ => ∃ (ap ab at_ : Addr) (p : Prog) (b : Nat × Nat) (tw : Twins), vs = [.ref ap, .ref ab, .ref at_] ∧ (ProgAt H ap p ∧ PairAt H ab b ∧ TPairs H at_ tw ∧ p.length ≤ 20 ∧ b.1 < b.2 ∧ b.2 ≤ p.length ∧ tw.length ≤ 16) ∧
  ∀ q H', H q = none → VAt P w (ga K "Values") H H' q ((VS.init tw).rows (cut p b)) → SameT H H' → Q (.ref q) H'
-- slots: 0:program 1:block 2:twins 3:found 4:row   level 7
abbrev n_values_behind : List Str := ["program", "block", "twins", "found", "row"]
theorem sc_values_behind : FnScope n_values_behind ["program", "block", "twins"] SL.d_values_behind.scope := ⟨rfl, rfl, rfl, by decide +kernel, rfl, by decide +kernel, by decide +kernel⟩
theorem ok_values_behind (T : Tx K mg w) : Cal P w K mg base "values_behind" 7 ["program", "block", "twins"] (sp_values_behind P w K) := by
  refine Cal.of T.D_values_behind T.g_values_behind sc_values_behind (fun _ _ _ _ _ _ us hl => match us, hl with | [_, _, _], _ => rfl) (fun vs H Q E h => ?_) fun f cdv A outer s H vs Q E hr h => ?_
  · obtain ⟨ap, ab, at_, p, b, tw, rfl, _⟩ := h
    rfl
  obtain ⟨ap, ab, at_, p, b, tw, rfl, u, h⟩ := h
  refine ⟨_, (pss_cons (ps_set (i := 3) sc_values_behind.nd rfl (Or.inl rfl) (pe_mk (ok_Values_init T) (hr.mono (by decide)) (by rfl) (pa_cons (pv 2) pa_nil)))
    (pss_cons (ps_for PassesOwn.never rfl (pi_tup (pe_slice sl_tupA (pv 0) (po_some (pe_ix ix_tup (pv 1) pe_int (fun _ _ => rfl))) (po_some (pe_ix ix_tup (pv 1) pe_int (fun _ _ => rfl))))) (pg_name (i := 4) sc_values_behind.nd rfl (Or.inl rfl))
    (pss_one (ps_expr (pe_mth (pv 3) (ok_Values_do T) (hr.mono (by decide)) (pa_cons (pv 4) pa_nil)))))
    (pss_one (ps_ret (pv 3))))), ?_⟩
  obtain ⟨hP, hb, hT, hl, hb1, hb2, htw⟩ := u
  refine ⟨_, rfl, fun x dx nx ndx nex => ?_⟩
  have s1 : Same H (upd (upd H dx (.own x)) x (.ins (ga K "Values") dx [])) := (same_new ndx).trans (same_new (by rw [upd_ne nex.symm]; exact nx))
  refine ⟨x, dx, at_, tw, H, rfl, ⟨upd_same, hT.mono (.of s1), by omega, s1, nx⟩, fun H2 v2 t2 => ⟨rfl, ?_⟩⟩
  have t12 := (SameT.of s1).trans t2
  have hb2' := hb.mono t12
  obtain ⟨rs, hA, hR⟩ := hP.mono t12
  have hrl : rs.length = p.length := paired_len hR
  refine ⟨_, rfl, _, rfl, _, _, _, _, rfl, rfl, .of hb2', at0, _, rfl, _, rfl, _, _, _, _, rfl, rfl, .of hb2', at1, _, rfl, ?_⟩
  refine (show rSlA _ _ _ _ _ _ from slice_go hA (by omega) (by rw [List.length_map]; omega) fun z H3 s3 hz => ?_)
  have v3 := v2.ext s3
  have t3 := t12.trans (.of s3)
  have hR3 : Paired (RowAt H3) ((rs.drop b.1).take (b.2 - b.1)) (cut p b) := Paired.mapP (paired_take_n _ (paired_drop_n _ hR)) fun _ _ z => z.mono (.of s3)
  rw [← List.map_drop, ← List.map_take] at hz
  have hcl := cut_len hb2
  have hl3 := paired_len hR3
  refine ⟨z, rfl, ⟨_, .of hz⟩, ?_⟩
  refine for_it walk_tup (fun i σ H4 => ∃ v4, σ = [some (.ref ap), some (.ref ab), some (.ref at_), some (.ref x), v4] ∧ VAt P w (ga K "Values") H H4 x ((VS.init tw).rows ((cut p b).take i)) ∧ SameT H H4 ∧ SameT H3 H4) ⟨none, rfl, v3, t3, SameT.refl _⟩ (fun i σ H4 _ z4 => by obtain ⟨_, _, _, _, t⟩ := z4; exact .of (t _ _ hz)) ?_ ?_
  · rintro i y σ H4 H5 hi ⟨v4, rfl, ⟨dx4, l, hh, f, vx⟩, t4, t34⟩ ⟨rfl, hy⟩
    rw [List.length_map, hl3] at hi
    have ec : (cut p b)[i]? = some (cut p b)[i] := List.getElem?_eq_getElem hi
    obtain ⟨r0, hr0, hR0⟩ := paired_get hR3 ec
    rw [List.getElem?_map, hr0] at hy
    cases hy
    have et : (cut p b).take (i + 1) = (cut p b).take i ++ [(cut p b)[i]] := by rw [List.take_succ, ec]; rfl
    have ok := (VS.ok_init tw).rows (l := (cut p b).take i)
    have hlt : ((cut p b).take i).length ≤ 20 := by rw [List.length_take]; omega
    refine ⟨_, rfl, x, dx4, _, rfl, vx.ob, rfl, _, rfl, x, dx4, l, hh, f, H, _, _, r0, _, rfl, ⟨vx, ok, by omega, hR0.mono t34⟩, fun f' H6 v6 t6 => ⟨_, rfl, ?_, t4.trans t6, t34.trans t6⟩⟩
    rw [et, rows_snoc]
    exact v6.at
  · rintro σ H4 ⟨v4, rfl, v5, t4, _⟩
    rw [List.length_map, hl3, List.take_length] at v5
    exact ⟨_, rfl, h x H4 nx v5 t4⟩
end
end SL

/-! text OkLook3 -/
set_option Elab.async false
set_option linter.all false
set_option maxRecDepth 100000
set_option maxHeartbeats 4000000
namespace SL
open PySem PySem.Spec L2
section
variable {P : Program} {w : World} {K : PySem.W.Frag} {mg : Str → Option Value} {base : Heap}
/-! comprehensions of new objects -/
theorem lc_refs {α : Type} {J : It} {n : Nat} {G : Hp → Prop} {Y : Nat → Hp → V → Hp → Prop} (w : Walk J n G Y) {g : TG} {te : TE} {vs : List Nat} {σ : St} {H1 : Hp} {D : Addr} {Qd : Hp → Prop} (l : List α) (F : Hp → Addr → α → Prop)
    (hF : ∀ {H H' a x}, a ≠ D → (∀ b o, b ≠ D → H b = some o → H' b = some o) → SameT H H' → F H a x → F H' a x) (hn : n = l.length) (hz : l.length ≤ 1000)
    (hD : H1 D = none) (hG : ∀ H, Same H1 H → G H) (hY : ∀ i H x H', Y i H x H' → Same H H')
    (hs : ∀ i a x H H' (Kq : V → Hp → Prop), l[i]? = some a → Same H1 H → (∃ o, H D = some o) → Y i H x H' → (∀ y H4, Same H' H4 → y ≠ D → F H4 y a → Kq (.ref y) H4) → g x (wipe σ vs) H' fun σ2 H2 => wipe σ2 vs = wipe σ vs ∧ te σ2 H2 Kq)
    (hd : ∀ H as, Same H1 H → H D = some (.lst (as.map V.ref)) → Paired (F H) as l → (∀ a ∈ as, a ≠ D) → Qd H) :
    ∃ W : Nat → Nat → Hp → Prop, (∃ m, W 0 m (upd H1 D (.lst []))) ∧ ∀ i m H, W i m H →
      (J.stop i H ∧ Qd H) ∨ (J.go i H ∧ ∃ Nx : Hp → Prop, (∀ H', Nx H' → ∃ m', m' < m ∧ W (i + 1) m' H') ∧ ∀ x H', J.yld i H x H' → g x (wipe σ vs) H' fun σ2 H2 => wipe σ2 vs = wipe σ vs ∧ tYes σ2 H2 fun b H3 =>
        if b = true then te σ2 H3 fun y H4 => ∃ acc, H4 D = some (.lst acc) ∧ acc.length < sizeLine ∧ Nx (upd H4 D (.lst (acc ++ [y]))) else Nx H3) := by
  have pm : ∀ {H H' : Hp} {as : List Addr} {ls : List α}, (∀ a ∈ as, a ≠ D) → (∀ b o, b ≠ D → H b = some o → H' b = some o) → SameT H H' → Paired (F H) as ls → Paired (F H') as ls := by
    intro H H' as ls hne h1 h2 p
    induction p with
    | nil => exact .nil
    | cons r t ih => exact .cons (hF (hne _ List.mem_cons_self) h1 h2 r) (ih fun a ha => hne a (List.mem_cons_of_mem _ ha))
  refine lc_it w (fun i H => Same H1 H ∧ ∃ as : List Addr, H D = some (.lst (as.map V.ref)) ∧ Paired (F H) as (l.take i) ∧ ∀ a ∈ as, a ≠ D) ⟨same_new hD, [], upd_same, .nil, fun a ha => (by cases ha)⟩ (fun i H _ p => hG H p.1) (fun i x H H' hi p y => ?_) (fun H p => ?_)
  · obtain ⟨p1, as, p2, p3, p4⟩ := p
    have hi' : i < l.length := by omega
    have ea : l[i]? = some l[i] := List.getElem?_eq_getElem hi'
    have hl := paired_len p3
    have hl2 : (l.take i).length ≤ i := by rw [List.length_take]; omega
    have et : l.take (i + 1) = l.take i ++ [l[i]] := by rw [List.take_succ, ea]; rfl
    have key := hs i l[i] x H H' (fun y H4 => ∃ acc, H4 D = some (.lst acc) ∧ acc.length < sizeLine ∧ (Same H1 (upd H4 D (.lst (acc ++ [y]))) ∧ ∃ as : List Addr, (upd H4 D (.lst (acc ++ [y]))) D = some (.lst (as.map V.ref)) ∧ Paired (F (upd H4 D (.lst (acc ++ [y])))) as (l.take (i + 1)) ∧ ∀ a ∈ as, a ≠ D)) ea p1 ⟨_, p2⟩ y fun z H4 s4 zD ez => by
      have s24 := (hY _ _ _ _ y).trans s4
      have h4 := s24 _ _ p2
      have off : ∀ b o, b ≠ D → H4 b = some o → (upd H4 D (.lst (as.map V.ref ++ [.ref z]))) b = some o := fun b o hb e => by rw [upd_ne hb]; exact e
      have st : SameT H4 (upd H4 D (.lst (as.map V.ref ++ [.ref z]))) := sameT_upd h4 fun xs z => by cases z
      refine ⟨as.map V.ref, h4, by rw [List.length_map]; exact small_of (by omega), same_mut (p1.trans s24) hD, as ++ [z], by rw [upd_same, List.map_append]; rfl, ?_, fun a ha => ?_⟩
      · rw [et]
        exact (pm p4 off st (pm p4 (fun b o _ e => s24 _ _ e) (.of s24) p3)).snoc (hF zD off st ez)
      · rcases List.mem_append.mp ha with q | q
        · exact p4 a q
        · rw [List.mem_singleton.mp q]
          exact zD
    exact key
  · obtain ⟨p1, as, p2, p3, p4⟩ := p
    rw [hn, List.take_length] at p3
    exact hd H as p1 p2 p3 p4
/-! dict of pairs -/
theorem merge_hk : ∀ (l acc : List (Nat × Nat)), (acc.map (·.1)).Nodup → mergeK (hk acc) (hk l) = hk (l.foldl (fun a q => putN a q.1 q.2) acc) ∧ ((l.foldl (fun a q => putN a q.1 q.2) acc).map (·.1)).Nodup
  | [], acc, h => ⟨rfl, h⟩
  | q :: r, acc, h => by
    have h2 := nodup_putN (b := q.1) (v := q.2) h
    obtain ⟨e1, e2⟩ := merge_hk r (putN acc q.1 q.2) h2
    refine ⟨?_, e2⟩
    show mergeK (putK (hk acc) (Sum.inl (q.1 : Int)) (vn q.2)) (hk r) = _
    rw [putK_hk h, e1]
    rfl
theorem getN_fold {r v : Nat} : ∀ (l acc : List (Nat × Nat)), (∀ q ∈ l, q.1 = r → q.2 = v) → ((∃ q ∈ l, q.1 = r) ∨ getN acc r = some v) → getN (l.foldl (fun a q => putN a q.1 q.2) acc) r = some v
  | [], acc, _, h => by
    rcases h with ⟨q, hq, _⟩ | h
    · cases hq
    · exact h
  | q :: l, acc, hu, h => by
    refine getN_fold l (putN acc q.1 q.2) (fun z hz => hu z (List.mem_cons_of_mem _ hz)) ?_
    by_cases e : q.1 = r
    · refine .inr ?_
      rw [getN_putN, if_pos e, hu q List.mem_cons_self e]
    · rcases h with ⟨z, hz, ez⟩ | h
      · rcases List.mem_cons.mp hz with y | y
        · rw [y] at ez
          exact absurd ez e
        · exact .inl ⟨z, y, ez⟩
      · refine .inr ?_
        rw [getN_putN, if_neg e]
        exact h
def numsOf (bs : List (Nat × Nat)) : List (Nat × Nat) := (bs.zipIdx.map fun q => (q.1.1, q.2)).foldl (fun a q => putN a q.1 q.2) []
theorem numsOf_get {p : Prog} {r : Nat} (h : r ∈ beginnings p) : getN (numsOf (blocks p)) r = some (numOf (blocks p) r) := by
  obtain ⟨b, hb, e⟩ := numOf_ok h
  refine getN_fold _ [] (fun q hq eq => ?_) (.inl ⟨(b.1, numOf (blocks p) r), List.mem_map.mpr ⟨(b, numOf (blocks p) r), ?_, rfl⟩, e⟩)
  · obtain ⟨z, hz, ez⟩ := List.mem_map.mp hq
    have hz2 := List.mem_zipIdx_iff_getElem?.mp hz
    rw [← ez] at eq ⊢
    exact blocks_first_inj hz2 hb (by rw [e]; exact eq)
  · exact List.mem_zipIdx_iff_getElem?.mpr hb
/-! lists of lists -/
def LAt (H : Hp) (a : Addr) (l : List Nat) : Prop := H a = some (.lst (vns l))
def LLists (H : Hp) (a : Addr) (ws : List (List Nat)) : Prop := ∃ as : List Addr, H a = some (.lst (as.map V.ref)) ∧ Paired (LAt H) as ws
theorem LLists.mono {H H' : Hp} {a : Addr} {ws : List (List Nat)} (h : LLists H a ws) (e : Same H H') : LLists H' a ws := let ⟨as, h1, h2⟩ := h; ⟨as, e _ _ h1, Paired.mapP h2 fun _ _ z => e _ _ z⟩
theorem behind_few (p : Prog) (i : Nat) : (behind p i).length ≤ 2 := by unfold behind; cases p.at i <;> simp
theorem ways_few {p : Prog} : ∀ l ∈ ways p (blocks p), l.length ≤ 2 := by
  intro l hl
  obtain ⟨b, _, e⟩ := List.mem_map.mp hl
  rw [← e]
  have h1 := sset_len ((behind p (b.2 - 1)).map (numOf (blocks p)))
  have h2 := behind_few p (b.2 - 1)
  rw [List.length_map] at h1
  omega
def sp_ways_between : Sp := fun vs H Q _ => ∃ (ap ab : Addr) (p : Prog), vs = [.ref ap, .ref ab] ∧ (ProgAt H ap p ∧ p.Ok ∧ LPairs H ab (blocks p)) ∧ ∀ q H', H q = none → Same H H' → LLists H' q (ways p (blocks p)) → Q (.ref q) H'
-- slots: 0:program 1:some 2:numbers 3:found 4:block 5:number 6:row   level 4
abbrev n_ways_between : List Str := ["program", "some", "numbers", "found", "block", "number", "row"]
theorem sc_ways_between : FnScope n_ways_between ["program", "some"] SL.d_ways_between.scope := ⟨rfl, rfl, rfl, by decide +kernel, rfl, by decide +kernel, by decide +kernel⟩
theorem ok_ways_between (T : Tx K mg w) : Cal P w K mg base "ways_between" 4 ["program", "some"] sp_ways_between := by
  refine Cal.of T.D_ways_between T.g_ways_between sc_ways_between (fun _ _ _ _ _ _ us hl => match us, hl with | [_, _], _ => rfl) (fun vs H Q E h => ?_) fun f cdv A outer s H vs Q E hr h => ?_
  · obtain ⟨ap, ab, p, rfl, _⟩ := h
    rfl
  obtain ⟨ap, ab, p, rfl, u, h⟩ := h
  refine ⟨_, (pss_cons (ps_set (i := 2) sc_ways_between.nd rfl (Or.inr rfl) (pe_callTy (call_dictP rfl) (by rfl) T.f_dict (by decide +kernel) (pa_cons (pe_lc (own := [("number", 5), ("block", 4)]) rfl sc_ways_between.nd (pi_enum (by rfl) T.f_enumerate (pa_cons (pv 1) pa_nil)) (blkOk_by (own := [("number", 5), ("block", 4)]) (N := n_ways_between) (sc := SL.d_ways_between.scope) (by decide +kernel)) (fun _ _ _ _ _ => (pg_tupK (n := 2) rfl rfl (pgs_cons (pg_name (i := 5) sc_ways_between.nd rfl (Or.inl rfl)) (pgs_cons (pg_name (i := 4) sc_ways_between.nd rfl (Or.inl rfl)) pgs_nil)))) (fun _ _ _ _ _ => pts_nil) (fun _ _ _ _ _ => (pe_tup (pa_cons (pe_ix (ix_tupK rfl) (pv 4) pe_int (fun _ _ => rfl)) (pa_cons (pv 5) pa_nil))))) pa_nil)))
    (pss_cons (ps_set (i := 3) sc_ways_between.nd rfl (Or.inl rfl) (pe_lst pa_nil))
    (pss_cons (ps_for PassesOwn.never rfl (pi_list (pv 1)) (pg_name (i := 4) sc_ways_between.nd rfl (Or.inl rfl))
    (pss_one (ps_expr (pe_bm PySem.F.plainAttrs_list PySem.F.slot_list_append PySem.F.type_list_append mt_append (pv 3) (pa_cons (pe_callB (cr_sortedSet rfl) (by rfl) T.f_sorted (by decide +kernel) (pa_cons (pe_callTy (cr_setL rfl) (by rfl) T.f_set (by decide +kernel) (pa_cons (pe_lc (own := [("row", 6)]) rfl sc_ways_between.nd (pi_list (pe_fn (ok_behind_row T) (hr.mono (by decide)) (by rfl) (pa_cons (pv 0) (pa_cons (pe_op op_sub (pe_ix ix_tup (pv 4) pe_int (fun _ _ => rfl)) pe_int) pa_nil)))) (blkOk_by (own := [("row", 6)]) (N := n_ways_between) (sc := SL.d_ways_between.scope) (by decide +kernel)) (fun _ _ _ _ _ => (pg_name (i := 6) sc_ways_between.nd rfl (Or.inl rfl))) (fun _ _ _ _ _ => pts_nil) (fun _ _ _ _ _ => (pe_dget (hu_of hr) (pv 2) (pv 6) (fun _ _ => rfl)))) pa_nil)) pa_nil)) pa_nil)))))
    (pss_one (ps_ret (pv 3)))))), ?_⟩
  obtain ⟨hP, ok, ⟨bs, hB, hBs⟩⟩ := u
  have pl := ok.len
  have hbl := blocks_len p
  have hbg := beginnings_len p
  have hl : (bs.map V.ref).length = (blocks p).length := by rw [List.length_map]; exact paired_len hBs
  refine ⟨_, rfl, ab, _, rfl, .of hB, fun D nD => ?_⟩
  refine lc_refs walk_enum (blocks p).zipIdx (fun H a q => PairAt H a (q.1.1, q.2)) (fun _ _ t z => z.mono t) (by rw [List.length_zipIdx]; exact hl) (by rw [List.length_zipIdx]; omega) nD (fun H2 s2 => .of (s2 _ _ hB)) same_ypair ?_ ?_
  · rintro i ⟨b, j⟩ z H2 H3 Kq hi s2 ⟨oD, hoD⟩ ⟨t, x1, x2, rfl, nt, rfl, h1, h2⟩ hK
    rw [List.getElem?_zipIdx] at hi
    cases e : (blocks p)[i]? with
    | none => rw [e] at hi; cases hi
    | some b' =>
      rw [e] at hi
      cases hi
      obtain ⟨c, hc, hq⟩ := paired_get hBs e
      have h2 : (bs.map V.ref)[i]? = some x2 := h2
      rw [List.getElem?_map, hc] at h2
      cases h1
      cases h2
      have s3 := s2.trans (same_new (o := .tup [.int (i : Nat), .ref c]) nt)
      refine g2_go upd_same ⟨rfl, _, rfl, _, _, _, _, rfl, rfl, .of (s3 _ _ hq), at0, _, rfl, by show 2 ≤ sizeLine; decide, fun y ny => hK _ _ (same_new ny) (ne_of_none (same_new (o := .tup [.int (i : Nat), .ref c]) nt _ _ hoD) ny).symm ?_⟩
      show (upd _ y (.tup [vn b.1, .int (i : Nat)])) y = some (.tup [vn b.1, vn (0 + i)])
      rw [upd_same, Nat.zero_add]
      rfl
  · intro H2 as s2 hD hp hne
    refine ⟨D, as, hk ((blocks p).zipIdx.map fun q => (q.1.1, q.2)), rfl, .of hD, ?_, fun nd nnd => ?_⟩
    · have : ∀ {as : List Addr} {l : List ((Nat × Nat) × Nat)}, Paired (fun a q => PairAt H2 a (q.1.1, q.2)) as l → Paired (fun p kv => SqT K H2 p [kV kv.1, kv.2]) as (hk (l.map fun q => (q.1.1, q.2))) := by
        intro as l r
        induction r with
        | nil => exact .nil
        | cons r t ih => exact .cons (.of r) ih
      exact this hp
    obtain ⟨em, end_⟩ := merge_hk ((blocks p).zipIdx.map fun q => (q.1.1, q.2)) [] List.nodup_nil
    have em : mergeK [] (hk ((blocks p).zipIdx.map fun q => (q.1.1, q.2))) = hk (numsOf (blocks p)) := em
    rw [em]
    have s3 := same_upd (o := .dK (hk (numsOf (blocks p)))) s2 nnd
    refine ⟨z0, fun fl nfl => ?_⟩
    have s4 := same_upd (o := .lst []) s3 nfl
    have hnd := same_new (o := .lst []) nfl _ _ (upd_same (H := H2) (a := nd) (o := .dK (hk (numsOf (blocks p)))))
    have nHnd : H nd = none := s2.free nnd
    have nHfl : H fl = none := s3.free nfl
    refine ⟨_, rfl, ab, rfl, ⟨_, .of (s4 _ _ hB)⟩, ?_⟩
    refine for_it walk_list (fun i σ H5 => ∃ v4, σ = [some (.ref ap), some (.ref ab), some (.ref nd), some (.ref fl), v4, none, none] ∧ Same H H5 ∧ H5 nd = some (.dK (hk (numsOf (blocks p)))) ∧ ∃ as : List Addr, H5 fl = some (.lst (as.map V.ref)) ∧ Paired (LAt H5) as ((ways p (blocks p)).take i) ∧ ∀ a ∈ as, a ≠ fl)
      ⟨none, rfl, s4, hnd, [], upd_same, .nil, fun a ha => by cases ha⟩ (fun i σ H5 _ z => by obtain ⟨_, _, s5, _⟩ := z; exact .of (s5 _ _ hB)) ?_ ?_
    · rintro i x σ H5 H6 hi ⟨v4, rfl, s5, hn5, as5, hf5, hp5, hne5⟩ ⟨rfl, hx⟩
      have hib : i < (blocks p).length := by omega
      have e : (blocks p)[i]? = some (blocks p)[i] := List.getElem?_eq_getElem hib
      obtain ⟨c, hc, hq⟩ := paired_get hBs e
      rw [List.getElem?_map, hc] at hx
      cases hx
      have hbo := block_ok ok e
      have hbeg := behind_beg ok e
      have ew : (ways p (blocks p))[i]? = some (sset ((behind p ((blocks p)[i].2 - 1)).map (numOf (blocks p)))) := by
        unfold ways
        rw [List.getElem?_map, e]
        rfl
      have et : (ways p (blocks p)).take (i + 1) = (ways p (blocks p)).take i ++ [sset ((behind p ((blocks p)[i].2 - 1)).map (numOf (blocks p)))] := by rw [List.take_succ, ew]; rfl
      have ewl : (ways p (blocks p)).length = (blocks p).length := by unfold ways; rw [List.length_map]
      generalize (blocks p)[i] = b at *
      have hq5 := s5 _ _ hq
      refine ⟨_, rfl, .inl ⟨rfl, _, .of hf5⟩, _, rfl, _, rfl, _, _, _, _, rfl, rfl, .of hq5, at1, _, _, rfl, rfl, ap, p, b.2 - 1, ?_, ⟨hP.mono (.of s5), by omega⟩, fun br H7 nbr s7 hbr => ?_⟩
      · show [V.ref ap, V.int ((b.2 : Int) - 1)] = [V.ref ap, V.int ((b.2 - 1 : Nat) : Int)]
        rw [show ((b.2 : Int) - 1) = ((b.2 - 1 : Nat) : Int) by omega]
      refine ⟨br, rfl, ⟨_, .of hbr⟩, fun D2 nD2 => ?_⟩
      have hb2 := behind_few p (b.2 - 1)
      refine lc_pure walk_list (behind p (b.2 - 1)) (fun r => [vn (numOf (blocks p) r)]) (len_vns _) (by omega) (fun _ => Nat.le_refl _) nD2 (fun H8 s8 => .of (s8 _ _ hbr)) same_yat ?_ ?_
      · rintro j r z H8 H9 Kq N hj s8 ⟨rfl, hz⟩ hK hN
        rw [get_vns hj] at hz
        cases hz
        refine ⟨rfl, _, rfl, _, rfl, nd, _, rfl, ?_, hK _ _ (Same.refl _) rfl⟩
        have := DGet.k (k := (Sum.inl (r : Int) : Key)) (s8 _ _ (s7 _ _ hn5))
        rw [valV_hk, numsOf_get (hbeg r (List.mem_of_getElem? hj))] at this
        exact this
      · intro H8 s8 hD8
        have ef : (behind p (b.2 - 1)).flatMap (fun r => [vn (numOf (blocks p) r)]) = (ni ((behind p (b.2 - 1)).map (numOf (blocks p)))).map V.int := by
          rw [ni_vns, flat_one]
          unfold vns
          rw [List.map_map]
          rfl
        rw [ef] at hD8
        have eln : (ni ((behind p (b.2 - 1)).map (numOf (blocks p)))).length ≤ 2 := by rw [len_ni, List.length_map]; exact hb2
        refine ⟨D2, _, rfl, .of hD8, by omega, fun q c nq hc => ⟨q, _, c, rfl, upd_same, by omega, fun ns' q2 srt mem len new => ?_⟩⟩
        rw [ni_sset srt mem, ni_vns]
        have s57 := s7.trans s8
        have s9 := same_upd (o := SetO w q (fun j => decide (j ∈ ni ((behind p (b.2 - 1)).map (numOf (blocks p))))) c) s57 nq
        have s10 := same_upd (o := .lst (vns (sset ((behind p (b.2 - 1)).map (numOf (blocks p)))))) s9 new
        have hf10 := s10 _ _ hf5
        have hnf : nd ≠ fl := ne_of hn5 hf5 (by intro z; cases z)
        have q2f : q2 ≠ fl := (ne_of_none (s9 _ _ hf5) new).symm
        refine ⟨fl, _, _, rfl, rfl, hf10, ?_, _, rfl, same_mut (s5.trans s10) nHfl, by rw [upd_ne hnf]; exact s10 _ _ hn5, as5 ++ [q2], by rw [upd_same, List.map_append]; rfl, ?_, fun a ha => ?_⟩
        · rw [List.length_map, paired_len hp5, List.length_take]
          exact small_of (by omega)
        · rw [et]
          have pm : ∀ {as : List Addr} {ls : List (List Nat)} {Ha Hb : Hp}, (∀ a ∈ as, a ≠ fl) → (∀ b o, b ≠ fl → Ha b = some o → Hb b = some o) → Paired (LAt Ha) as ls → Paired (LAt Hb) as ls := by
            intro as ls Ha Hb hne h1 p
            induction p with
            | nil => exact .nil
            | cons r t ih => exact .cons (h1 _ _ (hne _ List.mem_cons_self) r) (ih fun a ha => hne a (List.mem_cons_of_mem _ ha))
          refine (pm hne5 (fun b o hb e => by rw [upd_ne hb]; exact s10 _ _ e) hp5).snoc ?_
          show (upd _ fl _) q2 = _
          rw [upd_ne q2f, upd_same]
        · rcases List.mem_append.mp ha with z | z
          · exact hne5 a z
          · rw [List.mem_singleton.mp z]
            exact q2f
    · rintro σ H5 ⟨v4, rfl, s5, hn5, as5, hf5, hp5, hne5⟩
      have ewl : (ways p (blocks p)).length = (bs.map V.ref).length := by unfold ways; rw [List.length_map, hl]
      rw [← ewl, List.take_length] at hp5
      exact ⟨_, rfl, h fl H5 nHfl s5 ⟨as5, hf5, hp5⟩⟩
/-! ends_fault -/
def sp_ends_fault (P : Program) (w : World) (K : PySem.W.Frag) : Sp := fun vs H Q _ => ∃ (aw ap v : Addr) (k : Nat) (ws : List (List Nat)) (pp : List Twins) (B : Hp) (s : VS) (n : Nat), vs = [.ref aw, .ref ap, vn k, .ref v] ∧
  (LLists B aw ws ∧ PaperAt H ap pp ∧ VAt P w (ga K "Values") B H v s ∧ s.Ok n ∧ n ≤ 300 ∧ k < ws.length ∧ (ws.getD k []).length ≤ 2 ∧ (∀ o ∈ ws.getD k [], o < pp.length) ∧ ∀ tw ∈ pp, tw.length ≤ 16) ∧
  (s.ends pp (ws.getD k []) = true → ∀ H', Same B H' → SameT H H' → Q .non H') ∧ (s.ends pp (ws.getD k []) = false → ∀ t H', Same B H' → SameT H H' → Q (.ref t) H')
theorem vat_same {P : Program} {w : World} {C : Addr} {B H : Hp} {p : Addr} {s : VS} (v : VAt P w C B H p s) : Same B H := let ⟨_, _, _, _, x⟩ := v; x.off.same
theorem getD_at {α : Type} {l : List α} {k : Nat} {d : α} (h : k < l.length) : l[k]? = some (l.getD k d) := by
  rw [List.getD_eq_getElem?_getD, List.getElem?_eq_getElem h]
  rfl
-- slots: 0:ways 1:paper 2:number 3:values 4:other 5:one 6:twin   level 4
abbrev n_ends_fault : List Str := ["ways", "paper", "number", "values", "other", "one", "twin"]
theorem sc_ends_fault : FnScope n_ends_fault ["ways", "paper", "number", "values"] SL.d_ends_fault.scope := ⟨rfl, rfl, rfl, by decide +kernel, rfl, by decide +kernel, by decide +kernel⟩
theorem ok_ends_fault (T : Tx K mg w) : Cal P w K mg base "ends_fault" 4 ["ways", "paper", "number", "values"] (sp_ends_fault P w K) := by
  refine Cal.of T.D_ends_fault T.g_ends_fault sc_ends_fault (fun _ _ _ _ _ _ us hl => match us, hl with | [_, _, _, _], _ => rfl) (fun vs H Q E h => ?_) fun f cdv A outer s H vs Q E hr h => ?_
  · obtain ⟨aw, ap, v, k, ws, pp, B, s, n, rfl, _⟩ := h
    rfl
  obtain ⟨aw, ap, v, k, ws, pp, B, s, n, rfl, u, h⟩ := h
  refine ⟨_, (pss_cons (ps_for PassesOwn.never rfl (pi_list (pe_ix ix_list (pv 0) (pv 2) (fun _ _ => rfl))) (pg_name (i := 4) sc_ends_fault.nd rfl (Or.inl rfl))
    (pss_one (ps_for PassesOwn.never rfl (pi_tup (pe_ix ix_tup (pv 1) (pv 4) (fun _ _ => rfl))) (pg_tup rfl (pgs_cons (pg_name (i := 5) sc_ends_fault.nd rfl (Or.inl rfl)) (pgs_cons (pg_name (i := 6) sc_ends_fault.nd rfl (Or.inl rfl)) pgs_nil)))
    (pss_one (ps_if (pt_not (pt_val (pe_mth (pv 3) (ok_Values_are_one T) (hr.mono (by decide)) (pa_cons (pv 5) (pa_cons (pv 6) pa_nil))))) (pss_one (ps_ret (pe_tup (pa_cons pe_str (pa_cons (pv 2) (pa_cons (pv 4) (pa_cons (pv 5) (pa_cons (pv 6) pa_nil)))))))) pss_nil)))))
    (pss_one (ps_ret pe_non))), ?_⟩
  obtain ⟨⟨ls, hW, hL⟩, hPp, hv, ok, hn, hk2, hfew, hlt, h16⟩ := u
  obtain ⟨as, hA, hT⟩ := id hPp
  obtain ⟨ht, hf⟩ := h
  obtain ⟨c, hc, hlc⟩ := paired_get hL (getD_at (d := []) hk2)
  have sB := vat_same hv
  have eW : atI (ls.map V.ref) ((k : Nat) : Int) = some (.ref c) := atI_nat (by rw [List.getElem?_map, hc]; rfl)
  generalize hL' : ws.getD k [] = L at *
  refine ⟨_, rfl, _, rfl, _, _, _, _, rfl, rfl, .of (sB _ _ hW), eW, c, rfl, ⟨_, .of (sB _ _ hlc)⟩, ?_⟩
  refine for_it walk_list (fun i σ H2 => ∃ v4 v5 v6 s', σ = [some (.ref aw), some (.ref ap), some (vn k), some (.ref v), v4, v5, v6] ∧ VAt P w (ga K "Values") B H2 v s' ∧ s'.Ok (n + 32 * i) ∧ SameT H H2 ∧ s.ends pp L = s'.ends pp (L.drop i)) ⟨none, none, none, s, rfl, hv, ok, SameT.refl _, rfl⟩ (fun i σ H2 _ z => by obtain ⟨_, _, _, _, _, v2, _⟩ := z; exact .of (vat_same v2 _ _ hlc)) ?_ ?_
  · rintro i x σ H2 H3 hi ⟨v4, v5, v6, s', rfl, v2, ok2, t2, he⟩ ⟨rfl, hx⟩
    rw [len_vns] at hi
    have e : L[i]? = some L[i] := List.getElem?_eq_getElem hi
    rw [get_vns e] at hx
    cases hx
    have hin := List.mem_of_getElem? e
    have ho := hlt _ hin
    have ed : L.drop i = L[i] :: L.drop (i + 1) := List.drop_eq_getElem_cons hi
    generalize L[i] = o at *
    obtain ⟨d, hd, hTd⟩ := paired_get hT (getD_at (d := []) ho)
    have h16' := h16 _ (List.mem_of_getElem? (getD_at (d := []) ho))
    have eo : s'.ends pp (o :: L.drop (i + 1)) = if (s'.all (pp.getD o [])).2 then (s'.all (pp.getD o [])).1.ends pp (L.drop (i + 1)) else false := rfl
    generalize pp.getD o [] = tw at *
    obtain ⟨qs, hQ, hQs⟩ := id hTd
    have eA : atI (as.map V.ref) ((o : Nat) : Int) = some (.ref d) := atI_nat (by rw [List.getElem?_map, hd]; rfl)
    refine ⟨_, rfl, _, rfl, _, _, _, _, rfl, rfl, .of (t2 _ _ hA), eA, d, rfl, ⟨_, .of (t2 _ _ hQ)⟩, ?_⟩
    refine for_it walk_tup (fun j σ H4 => ∃ v5 v6 s'', σ = [some (.ref aw), some (.ref ap), some (vn k), some (.ref v), some (vn o), v5, v6] ∧ VAt P w (ga K "Values") B H4 v s'' ∧ s''.Ok (n + 32 * i + 2 * j) ∧ SameT H H4 ∧ s'.all tw = s''.all (tw.drop j)) ⟨_, _, s', rfl, v2, ok2, t2, rfl⟩ (fun j σ H4 _ z => by obtain ⟨_, _, _, _, _, _, t4, _⟩ := z; exact .of (t4 _ _ hQ)) ?_ ?_
    · rintro j y σ H4 H5 hj ⟨v5, v6, s'', rfl, ⟨dx, l, hh, f, vx⟩, ok4, t4, ha⟩ ⟨rfl, hy⟩
      rw [List.length_map, paired_len hQs] at hj
      have e2 : tw[j]? = some tw[j] := List.getElem?_eq_getElem hj
      obtain ⟨qa, hqa, hq⟩ := paired_get hQs e2
      rw [List.getElem?_map, hqa] at hy
      cases hy
      have ed2 : tw.drop j = tw[j] :: tw.drop (j + 1) := List.drop_eq_getElem_cons hj
      generalize tw[j] = q at *
      have hq4 := hq.mono t4
      refine ⟨qa, _, rfl, .of hq4, rfl, _, _, rfl, _, _, rfl, rfl, ?_⟩
      refine ⟨_, rfl, v, dx, _, rfl, vx.ob, rfl, _, rfl, _, rfl, v, dx, l, hh, f, B, s'', _, q.1, q.2, rfl, ⟨vx, ok4, by omega⟩, fun H6 v6' t6 => ⟨_, rfl, ?_⟩⟩
      have t46 := t4.trans t6
      rw [ed2] at ha
      have ha2 : s'.all tw = if s''.one q.1 q.2 then (s''.two q.1 q.2).all (tw.drop (j + 1)) else (s''.two q.1 q.2, false) := ha
      cases q2 : s''.one q.1 q.2 with
      | true =>
        rw [q2] at ha2
        exact ⟨_, _, _, rfl, v6'.at, (ok4.two q.1 q.2).up (by omega), t46, ha2⟩
      | false =>
        rw [q2] at ha2
        have ha3 : (s'.all tw).2 = false := by rw [ha2]; rfl
        have hfin : s.ends pp L = false := by
          rw [he, ed, eo, ha3]
          rfl
        refine ⟨_, rfl, _, rfl, _, rfl, _, rfl, by show 5 ≤ sizeLine; decide, fun t nt => hf hfin _ _ (v6'.off.same.trans (same_new nt)) (t46.trans (.of (same_new nt)))⟩
    · rintro σ H4 ⟨v5, v6, s'', rfl, v4', ok4, t4, ha⟩
      have hjl : (qs.map V.ref).length = tw.length := by rw [List.length_map, paired_len hQs]
      rw [hjl, List.drop_length] at ha
      have ha2 : s'.all tw = (s'', true) := ha
      rw [hjl] at ok4
      refine ⟨_, _, _, s'', rfl, v4', ok4.up (by omega), t4, ?_⟩
      rw [he, ed, eo, ha2]
      rfl
  · rintro σ H2 ⟨v4, v5, v6, s', rfl, v2, ok2, t2, he⟩
    rw [len_vns, List.drop_length] at he
    have he2 : s.ends pp L = true := he
    exact ht he2 H2 (vat_same v2) t2
end
end SL

/-! text OkLook4 -/
set_option Elab.async false
set_option linter.all false
set_option maxRecDepth 100000
set_option maxHeartbeats 4000000
namespace SL
open PySem PySem.Spec L2
section
variable {P : Program} {w : World} {K : PySem.W.Frag} {mg : Str → Option Value} {base : Heap}
theorem mem_zero {p : Prog} {k : Nat} {o : Nat} (h : o ∈ (ways p (blocks p)).getD k []) : ∃ b r, (blocks p)[k]? = some b ∧ r ∈ behind p (b.2 - 1) ∧ o = numOf (blocks p) r := by
  rw [List.getD_eq_getElem?_getD] at h
  unfold ways at h
  rw [List.getElem?_map] at h
  cases e : (blocks p)[k]? with
  | none => rw [e] at h; cases h
  | some b =>
    rw [e] at h
    have h : o ∈ sset ((behind p (b.2 - 1)).map (numOf (blocks p))) := h
    obtain ⟨r, hr, er⟩ := List.mem_map.mp (mem_sset.mp h)
    exact ⟨b, r, rfl, hr, er.symm⟩
theorem ways_lt {p : Prog} (ok : p.Ok) {k o : Nat} (h : o ∈ (ways p (blocks p)).getD k []) : o < (blocks p).length := by
  obtain ⟨b, r, hb, hr, e⟩ := mem_zero h
  obtain ⟨c, hc, _⟩ := numOf_ok (behind_beg ok hb r hr)
  rw [e]
  exact (List.getElem?_eq_some_iff.mp hc).1
theorem ways_few2 {p : Prog} (k : Nat) : ((ways p (blocks p)).getD k []).length ≤ 2 := by
  rw [List.getD_eq_getElem?_getD]
  cases e : (ways p (blocks p))[k]? with
  | none => simp
  | some l => exact ways_few l (List.mem_of_getElem? e)
theorem ways_len (p : Prog) : (ways p (blocks p)).length = (blocks p).length := by unfold ways; rw [List.length_map]
def sp_fault_of : Sp := fun vs H Q _ => ∃ (ap a x y b : Addr) (p : Prog) (hs : Hues) (pp : List Twins), vs = [.ref ap, .ref a, .ref b] ∧ (ProgAt H ap p ∧ p.Ok ∧ HuesAt H a x y hs ∧ hs.Ok ∧ PaperAt H b pp ∧ pp.length = (blocks p).length ∧ ∀ tw ∈ pp, TwOk hs tw) ∧ Rn (faultless p hs pp) H Q
def okTo (p : Prog) (hs : Hues) (pp : List Twins) (i : Nat) : Bool := p.all (Row.careful hs) && (List.range i).all fun k => blockOk p (ways p (blocks p)) pp k ((blocks p).getD k (0, 0))
theorem okTo_succ (p : Prog) (hs : Hues) (pp : List Twins) (i : Nat) : okTo p hs pp (i + 1) = (okTo p hs pp i && blockOk p (ways p (blocks p)) pp i ((blocks p).getD i (0, 0))) := by
  unfold okTo
  rw [List.range_succ, List.all_append, Bool.and_assoc]
  simp
theorem okTo_false {p : Prog} {hs : Hues} {pp : List Twins} {i j : Nat} (h : okTo p hs pp i = false) (hij : i ≤ j) : okTo p hs pp j = false := by
  induction hij with
  | refl => exact h
  | step _ ih => rw [okTo_succ, ih, Bool.false_and]
-- slots: 0:program 1:hues 2:paper 3:found 4:some 5:ways 6:number 7:block 8:values   level 7
abbrev n_fault_of : List Str := ["program", "hues", "paper", "found", "some", "ways", "number", "block", "values"]
theorem sc_fault_of : FnScope n_fault_of ["program", "hues", "paper"] SL.d_fault_of.scope := ⟨rfl, rfl, rfl, by decide +kernel, rfl, by decide +kernel, by decide +kernel⟩
theorem ok_fault_of (T : Tx K mg w) : Cal P w K mg base "fault_of" 7 ["program", "hues", "paper"] sp_fault_of := by
  refine Cal.of T.D_fault_of T.g_fault_of sc_fault_of (fun _ _ _ _ _ _ us hl => match us, hl with | [_, _, _], _ => rfl) (fun vs H Q E h => ?_) fun f cdv A outer s H vs Q E hr h => ?_
  · obtain ⟨ap, a, x, y, b, p, hs, pp, rfl, _⟩ := h
    rfl
  obtain ⟨ap, a, x, y, b, p, hs, pp, rfl, u, h⟩ := h
  refine ⟨_, (pss_cons (ps_expr (pe_fn (ok_need_program T) (hr.mono (by decide)) (by rfl) (pa_cons (pv 0) pa_nil)))
    (pss_cons (ps_expr (pe_fn (ok_need_hues T) (hr.mono (by decide)) (by rfl) (pa_cons (pv 1) pa_nil)))
    (pss_cons (ps_if (pt_not (pt_val (pe_fn (ok_is_paper T) (hr.mono (by decide)) (by rfl) (pa_cons (pv 0) (pa_cons (pv 1) (pa_cons (pv 2) pa_nil)))))) (pss_one ps_never) pss_nil)
    (pss_cons (ps_set (i := 3) sc_fault_of.nd rfl (Or.inl rfl) (pe_fn (ok_row_fault T) (hr.mono (by decide)) (by rfl) (pa_cons (pv 0) (pa_cons (pv 1) pa_nil))))
    (pss_cons (ps_set (i := 4) sc_fault_of.nd rfl (Or.inl rfl) (pe_fn (ok_blocks T) (hr.mono (by decide)) (by rfl) (pa_cons (pv 0) pa_nil)))
    (pss_cons (ps_set (i := 5) sc_fault_of.nd rfl (Or.inl rfl) (pe_fn (ok_ways_between T) (hr.mono (by decide)) (by rfl) (pa_cons (pv 0) (pa_cons (pv 4) pa_nil))))
    (pss_cons (ps_for PassesOwn.never rfl (pi_enum (by rfl) T.f_enumerate (pa_cons (pv 4) pa_nil)) (pg_tup rfl (pgs_cons (pg_name (i := 6) sc_fault_of.nd rfl (Or.inl rfl)) (pgs_cons (pg_name (i := 7) sc_fault_of.nd rfl (Or.inl rfl)) pgs_nil)))
    (pss_cons (ps_if (pt_cmpR op_notN (pv 3) pe_non (nomark _)) (pss_one (ps_ret (pv 3))) pss_nil)
    (pss_cons (ps_set (i := 8) sc_fault_of.nd rfl (Or.inl rfl) (pe_mk (ok_Values_init T) (hr.mono (by decide)) (by rfl) (pa_cons (pe_ix ix_tup (pv 2) (pv 6) (fun _ _ => rfl)) pa_nil)))
    (pss_cons (ps_set (i := 3) sc_fault_of.nd rfl (Or.inl rfl) (pe_fn (ok_twins_fault T) (hr.mono (by decide)) (by rfl) (pa_cons (pv 0) (pa_cons (pv 7) (pa_cons (pv 8) pa_nil)))))
    (pss_one (ps_if (pt_cmpR op_isN (pv 3) pe_non (nomark _)) (pss_one (ps_set (i := 3) sc_fault_of.nd rfl (Or.inl rfl) (pe_fn (ok_ends_fault T) (hr.mono (by decide)) (by rfl) (pa_cons (pv 5) (pa_cons (pv 2) (pa_cons (pv 6) (pa_cons (pv 8) pa_nil))))))) pss_nil))))))
    (pss_one (ps_ret (pv 3)))))))))), ?_⟩
  obtain ⟨hP, ok, hA, hok, hB, hlen, tok⟩ := u
  have pl := ok.len
  have hq : ∀ v H', Same H H' → decide (v = .non) = okTo p hs pp (blocks p).length → Q v H' := fun v H' s e => h v H' s e
  refine ⟨_, rfl, ap, p, rfl, ⟨hP, ok⟩, fun H1 s1 => ⟨_, rfl, a, x, y, hs, rfl, ⟨hA.mono (.of s1), hok⟩, fun H2 s2 => ?_⟩⟩
  have s12 := s1.trans s2
  refine ⟨_, rfl, _, rfl, _, rfl, ap, a, x, y, b, p, hs, pp, rfl, ⟨hP.mono (.of s12), ok, hA.mono (.of s12), hok, hB.mono (.of s12), hlen, tok⟩, fun H3 s3 => ⟨true, rfl, ?_⟩⟩
  have s13 := s12.trans s3
  refine ⟨_, rfl, _, rfl, ap, a, x, y, p, hs, rfl, ⟨hP.mono (.of s13), hA.mono (.of s13)⟩, fun v4 H4 s4 hv4 => ?_⟩
  have s14 := s13.trans s4
  refine ⟨_, rfl, ap, p, rfl, ⟨hP.mono (.of s14), ok⟩, fun sb H5 nsb s5 hsb => ?_⟩
  have s15 := s14.trans s5
  refine ⟨_, rfl, _, rfl, ap, sb, p, rfl, ⟨hP.mono (.of s15), ok, hsb⟩, fun wy H6 nwy s6 hwy => ?_⟩
  have s16 := s15.trans s6
  obtain ⟨bs, hS, hBs⟩ := hsb.mono s6
  have hl : (bs.map V.ref).length = (blocks p).length := by rw [List.length_map]; exact paired_len hBs
  obtain ⟨tas, hB6, hT6⟩ := hB.mono (.of s16)
  refine ⟨_, rfl, sb, _, rfl, .of hS, ?_⟩
  refine for_it walk_enum (fun i σ H7 => ∃ vf o6 o7 o8, σ = [some (.ref ap), some (.ref a), some (.ref b), some vf, some (.ref sb), some (.ref wy), o6, o7, o8] ∧ Same H6 H7 ∧ decide (vf = .non) = okTo p hs pp i)
    ⟨v4, none, none, none, rfl, Same.refl _, by rw [hv4]; unfold okTo; simp⟩ (fun i σ H7 _ z => by obtain ⟨_, _, _, _, _, s7, _⟩ := z; exact .of (s7 _ _ hS)) ?_ ?_
  · rintro i z σ H7 H8 hi ⟨vf, o6, o7, o8, rfl, s7, hvf⟩ ⟨t, x1, x2, rfl, nt, rfl, h1, h2⟩
    have h2 : (bs.map V.ref)[i]? = some x2 := h2
    cases h1
    have hib : i < (blocks p).length := by omega
    have e : (blocks p)[i]? = some ((blocks p).getD i (0, 0)) := getD_at hib
    obtain ⟨c, hc, hqc⟩ := paired_get hBs e
    rw [List.getElem?_map, hc] at h2
    cases h2
    have hbo := block_ok ok e
    have s8 := s7.trans (same_new (o := .tup [.int (i : Nat), .ref c]) nt)
    have eT : pp[i]? = some (pp.getD i []) := getD_at (by omega)
    obtain ⟨ta, hta, hTa⟩ := paired_get hT6 eT
    have htok := tok _ (List.mem_of_getElem? eT)
    have few := htok.few
    have esucc := okTo_succ p hs pp i
    have ebl : blockOk p (ways p (blocks p)) pp i ((blocks p).getD i (0, 0)) = match (VS.init (pp.getD i [])).rowsOk (cut p ((blocks p).getD i (0, 0))) with | some s => s.ends pp ((ways p (blocks p)).getD i []) | none => false := rfl
    generalize hbb : (blocks p).getD i (0, 0) = bb at *
    refine g2_go upd_same ⟨_, rfl, rfl, _, rfl, ?_⟩
    generalize hH8 : upd H7 t (.tup [.int (i : Nat), .ref c]) = H8 at *
    cases q : okTo p hs pp i with
    | false =>
      rw [q] at hvf
      rw [hvf]
      exact ⟨_, rfl, hq vf H8 (s16.trans s8) (by rw [hvf, okTo_false q (Nat.le_of_lt hib)])⟩
    | true =>
      rw [q] at hvf esucc
      rw [hvf]
      rw [Bool.true_and] at esucc
      have hTa8 := hTa.mono (.of s8)
      have eA : atI (tas.map V.ref) ((i : Nat) : Int) = some (.ref ta) := atI_nat (by rw [List.getElem?_map, hta]; rfl)
      refine ⟨_, rfl, _, rfl, _, _, _, _, rfl, rfl, .of (s8 _ _ hB6), eA, fun xx dx nx ndx nex => ?_⟩
      have sn : Same H8 (upd (upd H8 dx (.own xx)) xx (.ins (ga K "Values") dx [])) := (same_new ndx).trans (same_new (by rw [upd_ne nex.symm]; exact nx))
      refine ⟨xx, dx, ta, pp.getD i [], H8, rfl, ⟨upd_same, hTa8.mono (.of sn), by omega, sn, nx⟩, fun H9 v9 t9 => ⟨rfl, ?_⟩⟩
      have s9 := vat_same v9
      have s89 := s8.trans s9
      have ok9 := VS.ok_init (pp.getD i [])
      refine ⟨_, rfl, _, rfl, _, rfl, ap, c, xx, p, bb, H8, _, _, rfl, ⟨hP.mono (.of (s16.trans s89)), hqc.mono (.of s89), pl, hbo.1, hbo.2.1, v9, ok9, by omega⟩, fun s' H10 h10 ok10 v10 t10 => ?_, fun h10 tt H10 s10 t10 => ?_⟩
      · rw [h10] at ebl
        have ebl : blockOk p (ways p (blocks p)) pp i bb = s'.ends pp ((ways p (blocks p)).getD i []) := ebl
        refine ⟨_, rfl, rfl, _, rfl, ?_⟩
        refine ⟨_, rfl, _, rfl, _, rfl, _, rfl, wy, b, xx, i, ways p (blocks p), pp, H8, s', _, rfl, ⟨(hwy.mono s8), ⟨tas, (s8.trans (vat_same v10)) _ _ hB6, Paired.mapP hT6 fun _ _ z => z.mono (.of (s8.trans (vat_same v10)))⟩, v10, ok10, by omega, by rw [ways_len]; exact hib, ways_few2 i, fun o ho => by rw [hlen]; exact ways_lt ok ho, fun tw htw => (tok tw htw).few⟩, fun he H11 s11 t11 => ?_, fun he t11 H11 s11 _ => ?_⟩
        · exact ⟨_, _, _, _, rfl, s8.trans s11, by rw [esucc, ebl, he]; rfl⟩
        · exact ⟨_, _, _, _, rfl, s8.trans s11, by rw [esucc, ebl, he]; rfl⟩
      · rw [h10] at ebl
        refine ⟨_, rfl, rfl, _, rfl, ?_⟩
        exact ⟨_, _, _, _, rfl, s8.trans s10, by rw [esucc, ebl]; rfl⟩
  · rintro σ H7 ⟨vf, o6, o7, o8, rfl, s7, hvf⟩
    rw [hl] at hvf
    exact ⟨_, rfl, hq vf H7 (s16.trans s7) hvf⟩
/-! all_pairs -/
def sp_all_pairs : Sp := fun vs H Q _ => ∃ (a x y : Addr) (hs : Hues), vs = [.ref a] ∧ (HuesAt H a x y hs ∧ hs.Ok) ∧ ∀ q H', H q = none → Same H H' → LPairs H' q (allPairs hs) → Q (.ref q) H'
-- slots: 0:hues 1:found 2:box 3:other   level 1
abbrev n_all_pairs : List Str := ["hues", "found", "box", "other"]
theorem sc_all_pairs : FnScope n_all_pairs ["hues"] SL.d_all_pairs.scope := ⟨rfl, rfl, rfl, by decide +kernel, rfl, by decide +kernel, by decide +kernel⟩
theorem ok_all_pairs (T : Tx K mg w) : Cal P w K mg base "all_pairs" 1 ["hues"] sp_all_pairs := by
  refine Cal.of T.D_all_pairs T.g_all_pairs sc_all_pairs (fun _ _ _ _ _ _ us hl => match us, hl with | [_], _ => rfl) (fun vs H Q E h => ?_) fun f cdv A outer s H vs Q E hr h => ?_
  · obtain ⟨a, x, y, hs, rfl, _⟩ := h
    rfl
  obtain ⟨a, x, y, hs, rfl, u, h⟩ := h
  refine ⟨_, (pss_cons (ps_set (i := 1) sc_all_pairs.nd rfl (Or.inl rfl) (pe_lst pa_nil))
    (pss_cons (ps_for PassesOwn.never rfl (pi_tup (pe_ix ix_tup (pv 0) pe_int (fun _ _ => rfl))) (pg_name (i := 2) sc_all_pairs.nd rfl (Or.inr rfl))
    (pss_one (ps_expr (pe_bm PySem.F.plainAttrs_list PySem.F.slot_list_extend PySem.F.type_list_extend mt_extend (pv 1) (pa_cons (pe_lc (own := [("other", 3)]) rfl sc_all_pairs.nd (pi_tup (pe_ix ix_tup (pv 0) pe_int (fun _ _ => rfl))) (blkOk_by (own := [("other", 3)]) (N := n_all_pairs) (sc := SL.d_all_pairs.scope) (by decide +kernel)) (fun _ _ _ _ _ => (pg_name (i := 3) sc_all_pairs.nd rfl (Or.inl rfl))) (fun _ _ _ _ _ => pts_nil) (fun _ _ _ _ _ => (pe_tup (pa_cons (pv 2) (pa_cons (pv 3) pa_nil))))) pa_nil)))))
    (pss_one (ps_ret (pv 1))))), ?_⟩
  obtain ⟨hA, ok⟩ := u
  have f1 := ok.one.few
  have f2 := ok.two.few
  refine ⟨z0, fun fl nfl => ?_⟩
  have s1 := same_new (o := .lst []) nfl
  have hA1 := hA.mono (.of s1)
  refine ⟨_, rfl, _, _, _, _, rfl, rfl, .of hA1.at_, at0, x, rfl, ⟨_, .of hA1.one⟩, ?_⟩
  refine for_it walk_tup (fun i σ H2 => ∃ v2, σ = [some (.ref a), some (.ref fl), v2, none] ∧ Same H H2 ∧ ∃ as : List Addr, H2 fl = some (.lst (as.map V.ref)) ∧ Paired (PairAt H2) as ((hs.1.take i).flatMap fun c => hs.2.map fun d => (c, d)) ∧ as.length ≤ 4 * i)
    ⟨none, rfl, s1, [], upd_same, .nil, Nat.le_refl _⟩ (fun i σ H2 _ z => by obtain ⟨_, _, s2, _⟩ := z; exact .of (s2 _ _ hA.one)) ?_ ?_
  · rintro i z σ H2 H3 hi ⟨v2, rfl, s2, as, hF, hp, hl⟩ ⟨rfl, hx⟩
    rw [len_vns] at hi
    have e : hs.1[i]? = some hs.1[i] := List.getElem?_eq_getElem hi
    rw [get_vns e] at hx
    cases hx
    have et : hs.1.take (i + 1) = hs.1.take i ++ [hs.1[i]] := by rw [List.take_succ, e]; rfl
    generalize hs.1[i] = c at *
    have hA2 := hA.mono (.of s2)
    refine ⟨_, rfl, .inl ⟨rfl, _, .of hF⟩, _, rfl, _, _, _, _, rfl, rfl, .of hA2.at_, at1, y, rfl, ⟨_, .of hA2.two⟩, fun D nD => ?_⟩
    refine lc_refs walk_tup hs.2 (fun H u d => PairAt H u (c, d)) (fun _ _ t z => z.mono t) (len_vns _) (by omega) nD (fun H4 s4 => .of (s4 _ _ hA2.two)) same_yat ?_ ?_
    · rintro j d z H4 H5 Kq hj s4 ⟨oD, hoD⟩ ⟨rfl, hz⟩ hK
      rw [get_vns hj] at hz
      cases hz
      exact ⟨rfl, _, rfl, _, rfl, by show 2 ≤ sizeLine; decide, fun u nu => hK _ _ (same_new nu) (ne_of_none hoD nu).symm upd_same⟩
    · intro H4 bs s4 hD hb _
      have hF4 := s4 _ _ hF
      have hbl := paired_len hb
      have st : SameT H4 (upd H4 fl (.lst (as.map V.ref ++ bs.map V.ref))) := sameT_upd hF4 fun xs z => by cases z
      refine ⟨fl, D, _, _, rfl, rfl, hF4, hD, by rw [List.length_map, List.length_map]; rw [sizeLine_eq]; omega, _, rfl, same_mut (s2.trans s4) nfl, as ++ bs, by rw [upd_same, List.map_append], ?_, by rw [List.length_append]; omega⟩
      rw [et, List.flatMap_append]
      refine paired_app (Paired.mapP hp fun _ _ z => z.mono ((SameT.of s4).trans st)) ?_
      have ef : [c].flatMap (fun c => hs.2.map fun d => (c, d)) = hs.2.map fun d => (c, d) := by simp
      rw [ef]
      have : ∀ {bs : List Addr} {ds : List Nat}, Paired (fun u d => PairAt H4 u (c, d)) bs ds → Paired (PairAt (upd H4 fl (.lst (as.map V.ref ++ (bs : List Addr).map V.ref)))) [] [] := fun _ => .nil
      clear this
      generalize upd H4 fl (.lst (as.map V.ref ++ bs.map V.ref)) = H9 at *
      have key : ∀ {bs : List Addr} {ds : List Nat}, Paired (fun u d => PairAt H4 u (c, d)) bs ds → Paired (PairAt H9) bs (ds.map fun d => (c, d)) := by
        intro bs ds r
        induction r with
        | nil => exact .nil
        | cons r t ih => exact .cons (r.mono st) ih
      exact key hb
  · rintro σ H2 ⟨v2, rfl, s2, as, hF, hp, _⟩
    rw [len_vns, List.take_length] at hp
    exact ⟨_, rfl, h fl H2 nfl s2 ⟨as, hF, hp⟩⟩
end
end SL

/-! text OkPaper -/
set_option Elab.async false
set_option linter.all false
set_option maxRecDepth 100000
set_option maxHeartbeats 4000000
namespace SL
open PySem PySem.Spec L2
section
variable {P : Program} {w : World} {K : PySem.W.Frag} {mg : Str → Option Value} {base : Heap}
/-! the greatest paper: plain mathematics -/
theorem left_sub : ∀ (tw : Twins) (s : VS), (s.left tw).2.Sublist tw
  | [], s => List.Sublist.refl _
  | q :: r, s => by
    have ih := left_sub r (s.two q.1 q.2)
    show (if s.one q.1 q.2 then q :: ((s.two q.1 q.2).left r).2 else ((s.two q.1 q.2).left r).2).Sublist (q :: r)
    split
    · exact ih.cons₂ q
    · exact ih.cons q
theorem TwOk.sub {hs : Hues} {tw l : Twins} (h : TwOk hs tw) (s : l.Sublist tw) : TwOk hs l := ⟨h.rise.sublist s, fun q hq => h.ins q (s.subset hq), Nat.le_trans s.length_le h.few⟩
theorem allPairs_ok {hs : Hues} (h : hs.Ok) : TwOk hs (allPairs hs) := by
  refine ⟨?_, fun q hq => ?_, ?_⟩
  · unfold allPairs
    rw [List.pairwise_flatMap]
    refine ⟨fun a _ => ?_, ?_⟩
    · rw [List.pairwise_map]
      exact h.two.rise.imp fun z => .inr ⟨rfl, z⟩
    · refine h.one.rise.imp fun {a b} z x hx y hy => ?_
      obtain ⟨c, _, e1⟩ := List.mem_map.mp hx
      obtain ⟨d, _, e2⟩ := List.mem_map.mp hy
      rw [← e1, ← e2]
      exact .inl z
  · unfold allPairs at hq
    obtain ⟨a, ha, hx⟩ := List.mem_flatMap.mp hq
    obtain ⟨c, hc, e1⟩ := List.mem_map.mp hx
    rw [← e1]
    exact ⟨ha, hc⟩
  · unfold allPairs
    have key : ∀ l : List Nat, (l.flatMap fun a => hs.2.map fun b => (a, b)).length = l.length * hs.2.length := by
      intro l
      induction l with
      | nil => simp
      | cons a r ih => rw [List.flatMap_cons, List.length_append, List.length_map, ih, List.length_cons, Nat.add_mul, Nat.one_mul, Nat.add_comm]
    rw [key]
    have h1 := h.one.few
    have h2 := h.two.few
    exact Nat.le_trans (Nat.mul_le_mul h1 h2) (by decide)
theorem sum_set {α : Type} (f : α → Nat) (x : α) : ∀ {l : List α} {k : Nat} {a : α}, l[k]? = some a → ((l.set k x).map f).sum + f a = (l.map f).sum + f x
  | [], k, a, h => by simp at h
  | b :: r, 0, a, h => by
    simp at h
    subst h
    simp
    omega
  | b :: r, k + 1, a, h => by
    have ih := sum_set f x (l := r) (k := k) (a := a) (by simpa using h)
    simp only [List.set_cons_succ, List.map_cons, List.sum_cons]
    omega
structure PsOk (p : Prog) (hs : Hues) (st : PS') : Prop where
  len : st.found.length = (blocks p).length
  tws : ∀ tw ∈ st.found, TwOk hs tw
  wait : ∀ k ∈ st.waiting, k < (blocks p).length
/-- one way's step -/
def over1 (s : VS) (st : PS') (k : Nat) : PS' := if (s.left (st.found.getD k [])).2.length < (st.found.getD k []).length then ⟨st.found.set k (s.left (st.found.getD k [])).2, (st.waiting.filter fun j => decide (j ≠ k)) ++ [k]⟩ else st
theorem overs_cons (s : VS) (st : PS') (k : Nat) (r : List Nat) : overs s st (k :: r) = overs (s.left (st.found.getD k [])).1 (over1 s st k) r := rfl
theorem PsOk.over1 {p : Prog} {hs : Hues} {st : PS'} (h : PsOk p hs st) (s : VS) {k : Nat} (hk : k < (blocks p).length) : PsOk p hs (SL.over1 s st k) ∧ (SL.over1 s st k).mu ≤ st.mu := by
  have hg : st.found[k]? = some (st.found.getD k []) := getD_at (by rw [h.len]; exact hk)
  unfold SL.over1
  split
  · rename_i hlt
    refine ⟨⟨by rw [List.length_set]; exact h.len, fun tw htw => ?_, fun j hj => ?_⟩, ?_⟩
    · rcases List.mem_or_eq_of_mem_set htw with z | z
      · exact h.tws tw z
      · rw [z]
        exact (h.tws _ (List.mem_of_getElem? hg)).sub (left_sub _ s)
    · rcases List.mem_append.mp hj with z | z
      · exact h.wait j (List.mem_filter.mp z).1
      · rw [List.mem_singleton.mp z]
        exact hk
    · unfold PS'.mu
      have h1 := sum_set List.length (s.left (st.found.getD k [])).2 hg
      have h2 := List.length_filter_le (fun j => decide (j ≠ k)) st.waiting
      show 2 * ((st.found.set k _).map List.length).sum + ((st.waiting.filter fun j => decide (j ≠ k)) ++ [k]).length ≤ _
      rw [List.length_append]
      simp only [List.length_cons, List.length_nil]
      omega
  · exact ⟨h, Nat.le_refl _⟩
theorem PsOk.overs {p : Prog} {hs : Hues} : ∀ {L : List Nat} {st : PS'} {s : VS}, PsOk p hs st → (∀ k ∈ L, k < (blocks p).length) → PsOk p hs (SL.overs s st L) ∧ (SL.overs s st L).mu ≤ st.mu
  | [], st, s, h, _ => ⟨h, Nat.le_refl _⟩
  | k :: r, st, s, h, hL => by
    obtain ⟨h1, m1⟩ := h.over1 s (hL k List.mem_cons_self)
    rw [overs_cons]
    obtain ⟨h2, m2⟩ := PsOk.overs (L := r) (s := (s.left (st.found.getD k [])).1) h1 (fun j hj => hL j (List.mem_cons_of_mem _ hj))
    exact ⟨h2, Nat.le_trans m2 m1⟩
theorem rising_len : ∀ {l : List Nat} {a n : Nat}, l.Pairwise (· < ·) → (∀ x ∈ l, a ≤ x ∧ x < n) → a ≤ n → l.length ≤ n - a
  | [], _, _, _, _, _ => Nat.zero_le _
  | b :: r, a, n, h, hb, ha => by
    obtain ⟨h1, h2⟩ := List.pairwise_cons.mp h
    obtain ⟨hb1, hb2⟩ := hb b List.mem_cons_self
    have := rising_len (a := b + 1) (n := n) h2 (fun x hx => ⟨h1 x hx, (hb x (List.mem_cons_of_mem _ hx)).2⟩) (by omega)
    simp only [List.length_cons]
    omega
theorem blocks_few {p : Prog} (ok : p.Ok) : (blocks p).length ≤ 20 := by
  rw [blocks_len]
  have := rising_len (a := 0) (n := p.length) (beg_sorted p) (fun x hx => ⟨Nat.zero_le _, beg_lt ok x hx⟩) (Nat.zero_le _)
  have := ok.len
  omega
theorem ps0_ok {p : Prog} {hs : Hues} (ok : p.Ok) (h : hs.Ok) : PsOk p hs (paper0 p hs) ∧ (paper0 p hs).mu ≤ 700 := by
  have hf := (allPairs_ok h).few
  have hb := blocks_few ok
  refine ⟨⟨by unfold paper0; rw [List.length_map], fun tw htw => ?_, fun k hk => List.mem_range.mp hk⟩, ?_⟩
  · obtain ⟨b, _, e⟩ := List.mem_map.mp htw
    rw [← e]
    exact allPairs_ok h
  · unfold PS'.mu paper0
    show 2 * (((blocks p).map fun _ => allPairs hs).map List.length).sum + (List.range (blocks p).length).length ≤ 700
    rw [List.length_range, List.map_map]
    have key : ∀ l : List (Nat × Nat), (l.map (List.length ∘ fun _ => allPairs hs)).sum = l.length * (allPairs hs).length := by
      intro l
      induction l with
      | nil => simp
      | cons a r ih => rw [List.map_cons, List.sum_cons, ih, List.length_cons, Nat.add_mul, Nat.one_mul, Nat.add_comm]; rfl
    rw [key]
    have := Nat.mul_le_mul hb hf
    omega
theorem PsOk.paperF {p : Prog} {hs : Hues} (ok : p.Ok) : ∀ {n : Nat} {st : PS'}, PsOk p hs st → PsOk p hs (SL.paperF p (blocks p) (ways p (blocks p)) n st)
  | 0, st, h => h
  | n + 1, st, h => by
    unfold SL.paperF
    cases e : st.waiting with
    | nil => exact h
    | cons k r =>
      have h2 : PsOk p hs ⟨st.found, r⟩ := ⟨h.len, h.tws, fun j hj => h.wait j (by rw [e]; exact List.mem_cons_of_mem _ hj)⟩
      exact PsOk.paperF ok (h2.overs fun j hj => ways_lt ok hj).1
theorem paperOf_ok {p : Prog} {hs : Hues} (ok : p.Ok) (h : hs.Ok) : (paperOf p hs).length = (blocks p).length ∧ ∀ tw ∈ paperOf p hs, TwOk hs tw :=
  let k := PsOk.paperF ok (ps0_ok ok h).1 (n := (paper0 p hs).mu); ⟨k.len, k.tws⟩
/-! the walk -/
theorem VAt.adopt {C : Addr} {B H H' : Hp} {v a : Addr} {s : VS} {o : HO} (h : VAt P w C B H v s) (e : Same H H') (n : H a = none) (ha : H' a = some o) : VAt P w C (upd B a o) H' v s := by
  obtain ⟨dx, l, hh, f, x⟩ := h
  refine ⟨dx, l, hh, f, e _ _ x.ob, e _ _ x.li, e _ _ x.he, x.fo.same (fun o z => e _ _ z) (fun a xs z => e _ _ z), x.nd, fun b u q => ?_, fun b hb => ?_⟩
  · by_cases z : b = a
    · subst z
      rw [upd_same] at q
      rw [← q]
      exact ha
    · rw [upd_ne z] at q
      exact e _ _ (x.off.same _ _ q)
  · rw [upd_ne (x.ne n b hb)]
    exact x.off.free b hb
/-- the two lists that change stand beside the base B, which holds the lists within -/
structure PaI (B H : Hp) (fo wt : Addr) (st : PS') (as : List Addr) : Prop where
  same : Same B H
  nf : B fo = none
  nw : B wt = none
  ne : fo ≠ wt
  fnd : H fo = some (.lst (as.map V.ref))
  tws : Paired (LPairs B) as st.found
  wait : H wt = some (.lst (vns st.waiting))
def rem (H : Hp) (a : Addr) : Hp := fun b => if b = a then none else H b
theorem rem_self {H : Hp} {a : Addr} : rem H a a = none := if_pos rfl
theorem rem_ne {H : Hp} {a b : Addr} (h : b ≠ a) : rem H a b = H b := if_neg h
theorem rem_same {H : Hp} {a : Addr} : Same (rem H a) H := fun b o e => by
  by_cases q : b = a
  · rw [q, rem_self] at e
    cases e
  · rwa [rem_ne q] at e
theorem same_rem {B H : Hp} {a : Addr} (e : Same B H) (n : B a = none) : Same B (rem H a) := fun b o z => by
  rw [rem_ne (ne_of_none z n)]
  exact e _ _ z
theorem rgV_range (n : Nat) : rgV 0 (n : Int) = vns (List.range n) := by
  unfold rgV vns
  rw [show ((n : Int) - 0).toNat = n by omega]
  refine List.map_congr_left fun i _ => ?_
  show V.int (0 + (i : Int)) = V.int (i : Int)
  rw [Int.zero_add]
theorem left_cons (s : VS) (q : Nat × Nat) (r : Twins) : s.left (q :: r) = (((s.two q.1 q.2).left r).1, if s.one q.1 q.2 then q :: ((s.two q.1 q.2).left r).2 else ((s.two q.1 q.2).left r).2) := rfl
theorem paired_set {α β : Type} {F : α → β → Prop} {a : α} {b : β} : ∀ {l₁ : List α} {l₂ : List β} (k : Nat), Paired F l₁ l₂ → F a b → Paired F (l₁.set k a) (l₂.set k b)
  | _, _, _, .nil, _ => .nil
  | _, _, 0, .cons r t, h => .cons h t
  | _, _, k + 1, .cons r t, h => .cons r (paired_set k t h)
def sp_paper_of : Sp := fun vs H Q _ => ∃ (ap a x y : Addr) (p : Prog) (hs : Hues), vs = [.ref ap, .ref a] ∧ (ProgAt H ap p ∧ p.Ok ∧ HuesAt H a x y hs ∧ hs.Ok) ∧ ∀ q H', H q = none → Same H H' → PaperAt H' q (paperOf p hs) → Q (.ref q) H'
-- slots: 0:program 1:hues 2:some 3:ways 4:found 5:waiting 6:number 7:values 8:other 9:block 10:left 11:twins 12:pair 13:one   level 8
abbrev n_paper_of : List Str := ["program", "hues", "some", "ways", "found", "waiting", "number", "values", "other", "block", "left", "twins", "pair", "one"]
theorem sc_paper_of : FnScope n_paper_of ["program", "hues"] SL.d_paper_of.scope := ⟨rfl, rfl, rfl, by decide +kernel, rfl, by decide +kernel, by decide +kernel⟩
theorem ok_paper_of (T : Tx K mg w) : Cal P w K mg base "paper_of" 8 ["program", "hues"] sp_paper_of := by
  refine Cal.of T.D_paper_of T.g_paper_of sc_paper_of (fun _ _ _ _ _ _ us hl => match us, hl with | [_, _], _ => rfl) (fun vs H Q E h => ?_) fun f cdv A outer s H vs Q E hr h => ?_
  · obtain ⟨ap, a, x, y, p, hs, rfl, _⟩ := h
    rfl
  obtain ⟨ap, a, x, y, p, hs, rfl, u, h⟩ := h
  refine ⟨_, (pss_cons (ps_expr (pe_fn (ok_need_program T) (hr.mono (by decide)) (by rfl) (pa_cons (pv 0) pa_nil)))
    (pss_cons (ps_expr (pe_fn (ok_need_hues T) (hr.mono (by decide)) (by rfl) (pa_cons (pv 1) pa_nil)))
    (pss_cons (ps_set (i := 2) sc_paper_of.nd rfl (Or.inl rfl) (pe_fn (ok_blocks T) (hr.mono (by decide)) (by rfl) (pa_cons (pv 0) pa_nil)))
    (pss_cons (ps_set (i := 3) sc_paper_of.nd rfl (Or.inl rfl) (pe_fn (ok_ways_between T) (hr.mono (by decide)) (by rfl) (pa_cons (pv 0) (pa_cons (pv 2) pa_nil))))
    (pss_cons (ps_setLc (i := 4)  (own := [("block", 9)]) rfl sc_paper_of.nd rfl rfl (sw_true rfl rfl rfl (by decide +kernel)) (pi_list (pv 2)) (blkOk_by (own := [("block", 9)]) (N := n_paper_of) (sc := SL.d_paper_of.scope) (by decide +kernel)) (fun _ _ _ _ _ => (pg_name (i := 9) sc_paper_of.nd rfl (Or.inl rfl))) (fun _ _ _ _ _ => pts_nil) (fun _ _ _ _ _ => (pe_fn (ok_all_pairs (P := P) T) (hr.mono (by decide)) (by rfl) (pa_cons (pv 1) pa_nil))))
    (pss_cons (ps_set (i := 5) sc_paper_of.nd rfl (Or.inl rfl) (pe_listRg rfl (by rfl) T.f_list (prg_1 (by rfl) T.f_range (pe_callB call_len_seq (by rfl) T.f_len PySem.boot_len (pa_cons (pv 2) pa_nil)))))
    (pss_cons (ps_while PassesOwn.never (pt_cmpR (op_neD hr.units) (pv 5) (pe_lst pa_nil) (nomark _)) (pss_cons (ps_set (i := 6) sc_paper_of.nd rfl (Or.inl rfl) (pe_bm PySem.F.plainAttrs_list PySem.F.slot_list_pop PySem.F.type_list_pop mt_popAt (pv 5) (pa_cons pe_int pa_nil)))
    (pss_cons (ps_set (i := 7) sc_paper_of.nd rfl (Or.inr rfl) (pe_fn (ok_values_behind T) (hr.mono (by decide)) (by rfl) (pa_cons (pv 0) (pa_cons (pe_ix ix_list (pv 2) (pv 6) (fun _ _ => rfl)) (pa_cons (pe_callTy call_tuple_of (by rfl) T.f_tuple (by decide +kernel) (pa_cons (pe_ix ix_list (pv 4) (pv 6) (fun _ _ => rfl)) pa_nil)) pa_nil)))))
    (pss_one (ps_for PassesOwn.never rfl (pi_list (pe_ix ix_list (pv 3) (pv 6) (fun _ _ => rfl))) (pg_name (i := 8) sc_paper_of.nd rfl (Or.inr rfl))
    (pss_cons (ps_setLc (i := 10)  (own := [("pair", 12)]) rfl sc_paper_of.nd rfl rfl (sw_true rfl rfl rfl (by decide +kernel)) (pi_list (pe_ix ix_list (pv 4) (pv 8) (fun _ _ => rfl))) (blkOk_by (own := [("pair", 12)]) (N := n_paper_of) (sc := SL.d_paper_of.scope) (by decide +kernel)) (fun _ _ _ _ _ => (pg_name (i := 12) sc_paper_of.nd rfl (Or.inl rfl))) (fun _ _ _ _ _ => (pts_one (pt_val (pe_mth (pv 7) (ok_Values_are_one (P := P) T) (hr.mono (by decide)) (pa_cons (pe_ix (ix_tupK rfl) (pv 12) pe_int (fun _ _ => rfl)) (pa_cons (pe_ix (ix_tupK rfl) (pv 12) pe_int (fun _ _ => rfl)) pa_nil)))))) (fun _ _ _ _ _ => (pv 12)))
    (pss_one (ps_if (pt_cmpR op_lt (pe_callB call_len_seq (by rfl) T.f_len PySem.boot_len (pa_cons (pv 10) pa_nil)) (pe_callB call_len_seq (by rfl) T.f_len PySem.boot_len (pa_cons (pe_ix ix_list (pv 4) (pv 8) (fun _ _ => rfl)) pa_nil)) (nomark _)) (pss_cons (ps_asg (pv 10) (pg_sub (pv 4) (pv 8) set_list))
    (pss_one (ps_set (i := 5) sc_paper_of.nd rfl (Or.inl rfl) (pe_op op_cat (pe_lc (own := [("one", 13)]) rfl sc_paper_of.nd (pi_list (pv 5)) (blkOk_by (own := [("one", 13)]) (N := n_paper_of) (sc := SL.d_paper_of.scope) (by decide +kernel)) (fun _ _ _ _ _ => (pg_name (i := 13) sc_paper_of.nd rfl (Or.inl rfl))) (fun _ _ _ _ _ => (pts_one (pt_cmpR op_ne (pv 13) (pv 8) (nomark _)))) (fun _ _ _ _ _ => (pv 13))) (pe_lst (pa_cons (pv 8) pa_nil)))))) pss_nil))))))))
    (pss_one (ps_ret (pe_callTy call_tuple_of (by rfl) T.f_tuple (by decide +kernel) (pa_cons (pe_lc (own := [("twins", 11)]) rfl sc_paper_of.nd (pi_list (pv 4)) (blkOk_by (own := [("twins", 11)]) (N := n_paper_of) (sc := SL.d_paper_of.scope) (by decide +kernel)) (fun _ _ _ _ _ => (pg_name (i := 11) sc_paper_of.nd rfl (Or.inl rfl))) (fun _ _ _ _ _ => pts_nil) (fun _ _ _ _ _ => (pe_callTy (call_tuple_ofK rfl) (by rfl) T.f_tuple (by decide +kernel) (pa_cons (pv 11) pa_nil)))) pa_nil))))))))))), ?_⟩
  obtain ⟨hP, ok, hA, hok⟩ := u
  have pl := ok.len
  have hbf := blocks_few ok
  refine ⟨_, rfl, ap, p, rfl, ⟨hP, ok⟩, fun H1 s1 => ⟨_, rfl, a, x, y, hs, rfl, ⟨hA.mono (.of s1), hok⟩, fun H2 s2 => ?_⟩⟩
  have s12 := s1.trans s2
  refine ⟨_, rfl, ap, p, rfl, ⟨hP.mono (.of s12), ok⟩, fun sb H3 nsb s3 hsb => ?_⟩
  have s13 := s12.trans s3
  refine ⟨_, rfl, _, rfl, ap, sb, p, rfl, ⟨hP.mono (.of s13), ok, hsb⟩, fun wy H4 nwy s4 hwy => ?_⟩
  have s14 := s13.trans s4
  obtain ⟨bs, hS, hBs⟩ := hsb.mono s4
  have hl : (bs.map V.ref).length = (blocks p).length := by rw [List.length_map]; exact paired_len hBs
  refine ⟨_, rfl, sb, rfl, ⟨_, .of hS⟩, fun fo nfo => ?_⟩
  refine lc_refs walk_list (blocks p) (fun H u _ => LPairs H u (allPairs hs)) (fun {H H' a x} ha h1 t z => ?_) hl (by omega) nfo (fun H5 s5 => .of (s5 _ _ hS)) same_yat ?_ ?_
  · obtain ⟨qs, e1, e2⟩ := z
    exact ⟨qs, h1 _ _ ha e1, Paired.mapP e2 fun _ _ z => z.mono t⟩
  · rintro i b z H5 H6 Kq hi s5 ⟨oD, hoD⟩ ⟨rfl, hz⟩ hK
    obtain ⟨c, hc, hq⟩ := paired_get hBs hi
    rw [List.getElem?_map, hc] at hz
    cases hz
    exact ⟨rfl, _, rfl, a, x, y, hs, rfl, ⟨hA.mono (.of (s14.trans s5)), hok⟩, fun u H7 nu s7 hu => hK _ _ s7 (ne_of_none hoD nu).symm hu⟩
  intro H5 as s5 hfo hp hne
  have hS5 := s5 _ _ hS
  have tws0 : Paired (LPairs (rem H5 fo)) as ((blocks p).map fun _ => allPairs hs) := by
    have key : ∀ {as : List Addr} {bs : List (Nat × Nat)}, (∀ a ∈ as, a ≠ fo) → Paired (fun u _ => LPairs H5 u (allPairs hs)) as bs → Paired (LPairs (rem H5 fo)) as (bs.map fun _ => allPairs hs) := by
      intro as bs hne r
      induction r with
      | nil => exact .nil
      | cons r t ih =>
        obtain ⟨qs, e1, e2⟩ := r
        refine .cons ⟨qs, by rw [rem_ne (hne _ List.mem_cons_self)]; exact e1, Paired.mapP e2 fun u q z => ?_⟩ (ih fun a ha => hne a (List.mem_cons_of_mem _ ha))
        show rem H5 fo u = _
        rw [rem_ne (ne_of z hfo (by intro z; cases z))]
        exact z
    exact key hne hp
  refine ⟨_, rfl, _, _, rfl, len_lst hS5, _, rfl, RgOk.of_le (by omega) (by rw [hl]; omega) (by omega) (by omega), fun wt nwt => ?_⟩
  rw [hl, rgV_range]
  have hnfw : fo ≠ wt := ne_of_none hfo nwt
  have i0 : PaI (rem H5 fo) (upd H5 wt (.lst (vns (List.range (blocks p).length)))) fo wt (paper0 p hs) as := ⟨rem_same.trans (same_new nwt), rem_self, by rw [rem_ne hnfw.symm]; exact nwt, hnfw, by rw [upd_ne hnfw]; exact hfo, tws0, upd_same⟩
  obtain ⟨pok0, hmu0⟩ := ps0_ok ok hok
  have sB0 : Same H4 (rem H5 fo) := same_rem s5 nfo
  refine ⟨fun m σ H6 => ∃ (st : PS') (wt : Addr) (B : Hp) (as : List Addr) (o6 o7 o8 o10 : Option V), σ = [some (.ref ap), some (.ref a), some (.ref sb), some (.ref wy), some (.ref fo), some (.ref wt), o6, o7, o8, none, o10, none, none, none] ∧ PaI B H6 fo wt st as ∧ Same H4 B ∧ PsOk p hs st ∧ st.mu ≤ m ∧ m ≤ 700 ∧ (paperF p (blocks p) (ways p (blocks p)) m st).found = paperOf p hs,
    ⟨(paper0 p hs).mu, paper0 p hs, wt, rem H5 fo, as, none, none, none, none, rfl, i0, sB0, pok0, Nat.le_refl _, hmu0, rfl⟩, ?_⟩
  rintro m σ H6 ⟨st, wt, B, as, o6, o7, o8, o10, rfl, I, sB, pok, hmu, hm7, hfin⟩
  refine ⟨_, rfl, z0, fun e ne => ⟨_, _, dp_lst (same_new ne _ _ I.wait), dp_nilL upd_same, shaped_lst _, shaped_lst [], _, rfl, ?_⟩⟩
  rw [eqv_lst]
  have se := same_new (o := .lst []) ne
  have I1 : PaI B (upd H6 e (.lst [])) fo wt st as := ⟨I.same.trans se, I.nf, I.nw, I.ne, se _ _ I.fnd, I.tws, se _ _ I.wait⟩
  generalize upd H6 e (.lst []) = H7 at *
  cases q : st.waiting with
  | nil =>
    have ef : st.found = paperOf p hs := by
      rw [← hfin]
      cases m with
      | zero => rfl
      | succ m =>
        unfold paperF
        rw [q]
    have tok := pok.tws
    have hlen := pok.len
    refine ⟨_, rfl, fo, rfl, ⟨_, .of I1.fnd⟩, fun D nD => ?_⟩
    have hlf : (as.map V.ref).length = st.found.length := by rw [List.length_map]; exact paired_len I1.tws
    refine lc_refs walk_list st.found (fun H u tw => TPairs H u tw) (fun _ _ t z => z.mono t) hlf (by omega) nD (fun H8 s8 => .of (s8 _ _ I1.fnd)) same_yat ?_ ?_
    · rintro i tw z H8 H9 Kq hi s8 ⟨oD, hoD⟩ ⟨rfl, hz⟩ hK
      obtain ⟨c, hc, qs, hq1, hq2⟩ := paired_get I1.tws hi
      rw [List.getElem?_map, hc] at hz
      cases hz
      have s9 := I1.same.trans s8
      exact ⟨rfl, _, rfl, c, _, rfl, .inl ⟨.of (s9 _ _ hq1), fun u nu => hK _ _ (same_new nu) (ne_of_none hoD nu).symm ⟨qs, upd_same, Paired.mapP hq2 fun _ _ z => z.mono (.of (s9.trans (same_new nu)))⟩⟩⟩
    · intro H8 as8 s8 hD hp8 _
      rw [ef] at hp8
      have sH : Same H H8 := ((s14.trans sB).trans I1.same).trans s8
      exact ⟨D, _, rfl, .inl ⟨.of hD, fun z nz => h z _ (sH.free nz) (sH.trans (same_new nz)) ⟨as8, upd_same, Paired.mapP hp8 fun _ _ z => z.mono (.of (same_new nz))⟩⟩⟩
  | cons k r =>
    have hw7 : H7 wt = some (.lst (vns (k :: r))) := by rw [I1.wait, q]
    have hk : k < (blocks p).length := pok.wait k (by rw [q]; exact List.mem_cons_self)
    have hmpos : 1 ≤ st.mu := by unfold PS'.mu; rw [q]; simp only [List.length_cons]; omega
    obtain ⟨m, rfl⟩ : ∃ m', m = m' + 1 := ⟨m - 1, by omega⟩
    have efin : paperF p (blocks p) (ways p (blocks p)) (m + 1) st = paperF p (blocks p) (ways p (blocks p)) m (overs ((VS.init (st.found.getD k [])).rows (cut p ((blocks p).getD k (0, 0)))) ⟨st.found, r⟩ ((ways p (blocks p)).getD k [])) := by
      conv => lhs; unfold paperF
      rw [q]
    rw [efin] at hfin
    have pok1 : PsOk p hs ⟨st.found, r⟩ := ⟨pok.len, pok.tws, fun j hj => pok.wait j (by rw [q]; exact List.mem_cons_of_mem _ hj)⟩
    have hmu1 : (⟨st.found, r⟩ : PS').mu + 1 ≤ st.mu := by
      unfold PS'.mu
      rw [q]
      simp only [List.length_cons]
      omega
    refine ⟨fun σ' H' => ∃ m', m' < m + 1 ∧ ∃ (st : PS') (wt : Addr) (B : Hp) (as : List Addr) (o6 o7 o8 o10 : Option V), σ' = [some (.ref ap), some (.ref a), some (.ref sb), some (.ref wy), some (.ref fo), some (.ref wt), o6, o7, o8, none, o10, none, none, none] ∧ PaI B H' fo wt st as ∧ Same H4 B ∧ PsOk p hs st ∧ st.mu ≤ m' ∧ m' ≤ 700 ∧ (paperF p (blocks p) (ways p (blocks p)) m' st).found = paperOf p hs, fun σ' H' z => z, ?_⟩
    -- number = waiting.pop(0)
    refine ⟨_, rfl, .inl ⟨rfl, _, .of hw7⟩, wt, _, 0, 0, vn k, rfl, rfl, hw7, by decide, by decide, seqIndex_of (by decide) (by show (0 : Int) < ((vns (k :: r)).length : Int); rw [len_vns]; simp only [List.length_cons]; omega), rfl, ?_⟩
    have I2 : PaI B (upd H7 wt (.lst (vns r))) fo wt ⟨st.found, r⟩ as := ⟨same_mut I1.same I1.nw, I1.nf, I1.nw, I1.ne, by rw [upd_ne I1.ne]; exact I1.fnd, I1.tws, upd_same⟩
    show gName 6 _ _ (upd H7 wt (.lst (vns r))) _
    generalize upd H7 wt (.lst (vns r)) = H8 at *
    -- values = values_behind(program, some[number], tuple(found[number]))
    have s48 := sB.trans I2.same
    have eb : (blocks p)[k]? = some ((blocks p).getD k (0, 0)) := getD_at hk
    obtain ⟨bk, hbk, hqb⟩ := paired_get hBs eb
    have hbo := block_ok ok eb
    have et : st.found[k]? = some (st.found.getD k []) := getD_at (by rw [pok.len]; exact hk)
    obtain ⟨c, hc, qs, hq1, hq2⟩ := paired_get I2.tws et
    have few := (pok.tws _ (List.mem_of_getElem? et)).few
    have eS : atI (bs.map V.ref) ((k : Nat) : Int) = some (.ref bk) := atI_nat (by rw [List.getElem?_map, hbk]; rfl)
    have eF : atI (as.map V.ref) ((k : Nat) : Int) = some (.ref c) := atI_nat (by rw [List.getElem?_map, hc]; rfl)
    obtain ⟨ls, hW, hL⟩ := id hwy
    obtain ⟨lw, hlw, hlL⟩ := paired_get hL (getD_at (d := []) (by rw [ways_len]; exact hk))
    have eW : atI (ls.map V.ref) ((k : Nat) : Int) = some (.ref lw) := atI_nat (by rw [List.getElem?_map, hlw]; rfl)
    have hLlt : ∀ o ∈ (ways p (blocks p)).getD k [], o < (blocks p).length := fun o ho => ways_lt ok ho
    have hLfew := ways_few2 (p := p) k
    generalize (ways p (blocks p)).getD k [] = L at *
    generalize (blocks p).getD k (0, 0) = bb at *
    generalize st.found.getD k [] = tw0 at *
    refine ⟨_, rfl, _, rfl, _, rfl, _, _, _, _, rfl, rfl, .of (s48 _ _ hS), eS, _, rfl, _, rfl, _, _, _, _, rfl, rfl, .of I2.fnd, eF, c, _, rfl, .inl ⟨.of (I2.same _ _ hq1), fun tt ntt => ?_⟩⟩
    have s9 := same_new (o := .tup (qs.map V.ref)) ntt
    have s49 := s48.trans s9
    refine ⟨ap, bk, tt, p, bb, tw0, rfl, ⟨hP.mono (.of (s14.trans s49)), hqb.mono (.of s49), ⟨qs, upd_same, Paired.mapP hq2 fun _ _ z => z.mono (.of (I2.same.trans s9))⟩, pl, hbo.1, hbo.2.1, few⟩, fun v H10 nv hv t10 => ?_⟩
    have I3 : PaI B (upd H8 tt (.tup (qs.map V.ref))) fo wt ⟨st.found, r⟩ as := ⟨I2.same.trans s9, I2.nf, I2.nw, I2.ne, s9 _ _ I2.fnd, I2.tws, s9 _ _ I2.wait⟩
    generalize upd H8 tt (.tup (qs.map V.ref)) = H9 at *
    have ok0 := (VS.ok_init tw0).rows (l := cut p bb)
    have hcl := cut_len hbo.2.1
    have ok0' : ((VS.init tw0).rows (cut p bb)).Ok 200 := ok0.up (by omega)
    have sv := vat_same hv
    generalize (VS.init tw0).rows (cut p bb) = s0 at *
    refine ⟨_, rfl, _, rfl, _, _, _, _, rfl, rfl, .of ((s49.trans sv) _ _ hW), eW, lw, rfl, ⟨_, .of ((s49.trans sv) _ _ hlL)⟩, ?_⟩
    refine for_it walk_list (fun i σ H11 => ∃ (BV : Hp) (s' : VS) (st' : PS') (wt : Addr) (B : Hp) (as : List Addr) (o8 o10 : Option V), σ = [some (.ref ap), some (.ref a), some (.ref sb), some (.ref wy), some (.ref fo), some (.ref wt), some (vn k), some (.ref v), o8, none, o10, none, none, none] ∧
        VAt P w (ga K "Values") BV H11 v s' ∧ PaI B BV fo wt st' as ∧ Same H4 B ∧ s'.Ok (200 + 32 * i) ∧ PsOk p hs st' ∧ overs s0 ⟨st.found, r⟩ L = overs s' st' (L.drop i) ∧ st'.mu ≤ 700)
      ⟨H9, s0, _, wt, B, as, o8, o10, rfl, hv, I3, sB, ok0', pok1, rfl, by omega⟩ (fun i σ H11 _ z => by obtain ⟨BV, _, _, _, B, _, _, _, _, hv', I', sB', _⟩ := z; exact .of (vat_same hv' _ _ (I'.same _ _ (sB' _ _ hlL)))) ?_ ?_
    · rintro i z σ H11 H12 hi ⟨BV, s', st', wt, B, as, o8, o10, rfl, hv', I', sB', ok', pok', hov, hmu7⟩ ⟨rfl, hz⟩
      rw [len_vns] at hi
      have eo : L[i]? = some L[i] := List.getElem?_eq_getElem hi
      rw [get_vns eo] at hz
      cases hz
      have ho := hLlt _ (List.mem_of_getElem? eo)
      have ed : L.drop i = L[i] :: L.drop (i + 1) := List.drop_eq_getElem_cons hi
      generalize L[i] = o at *
      rw [ed, overs_cons] at hov
      have hpo := pok'.over1 s' ho
      have et : st'.found[o]? = some (st'.found.getD o []) := getD_at (by rw [pok'.len]; exact ho)
      obtain ⟨c, hc, qs, hq1, hq2⟩ := paired_get I'.tws et
      have few := (pok'.tws _ (List.mem_of_getElem? et)).few
      have hlq : qs.length = (st'.found.getD o []).length := paired_len hq2
      have eF : atI (as.map V.ref) ((o : Nat) : Int) = some (.ref c) := atI_nat (by rw [List.getElem?_map, hc]; rfl)
      have sv' := vat_same hv'
      have lasl : as.length = st'.found.length := paired_len I'.tws
      have efl := pok'.len
      have hov1 : over1 s' st' o = if (s'.left (st'.found.getD o [])).2.length < (st'.found.getD o []).length then ⟨st'.found.set o (s'.left (st'.found.getD o [])).2, (st'.waiting.filter fun j => decide (j ≠ o)) ++ [o]⟩ else st' := rfl
      generalize htw : st'.found.getD o [] = tw at *
      -- left = [pair for pair in found[other] if values.are_one(pair[0], pair[1])]
      refine ⟨_, rfl, _, rfl, _, _, _, _, rfl, rfl, .of (sv' _ _ I'.fnd), eF, c, rfl, ⟨_, .of (sv' _ _ (I'.same _ _ hq1))⟩, fun D nD => ?_⟩
      have nBVD : BV D = none := sv'.free nD
      refine lc_it (walk_list (xs := qs.map V.ref)) (fun j H13 => ∃ (s'' : VS) (keep : Twins) (as2 : List Addr), VAt P w (ga K "Values") (upd BV D (.lst (as2.map V.ref))) H13 v s'' ∧ Paired (PairAt B) as2 keep ∧ s''.Ok (200 + 32 * i + 2 * j) ∧ s'.left tw = ((s''.left (tw.drop j)).1, keep ++ (s''.left (tw.drop j)).2) ∧ as2.length ≤ j)
        ⟨s', [], [], hv'.grow nD, .nil, ok', rfl, Nat.le_refl _⟩ (fun j H13 _ z => ?_) ?_ ?_
      · obtain ⟨_, _, _, hv'', _⟩ := z
        exact .of (vat_same hv'' _ _ (by rw [upd_ne (ne_of_none (I'.same _ _ hq1) nBVD)]; exact I'.same _ _ hq1))
      · rintro j z H13 H14 hj ⟨s'', keep, as2, ⟨dx, l, hh, f, vx⟩, hkp, ok'', hleft, hl2⟩ ⟨rfl, hz⟩
        rw [List.length_map, hlq] at hj
        have eq0 : tw[j]? = some tw[j] := List.getElem?_eq_getElem hj
        obtain ⟨qa, hqa, hpq⟩ := paired_get hq2 eq0
        rw [List.getElem?_map, hqa] at hz
        cases hz
        have ed2 : tw.drop j = tw[j] :: tw.drop (j + 1) := List.drop_eq_getElem_cons hj
        generalize tw[j] = qq at *
        rw [ed2, left_cons] at hleft
        have sBD : SameT B H14 := fun b xs e => vx.off.same _ _ (by rw [upd_ne (ne_of_none (I'.same _ _ e) nBVD)]; exact I'.same _ _ e)
        have hpq' := hpq.mono sBD
        refine ⟨rfl, _, rfl, v, dx, _, rfl, vx.ob, rfl, _, rfl, _, _, _, _, rfl, rfl, .of hpq', at0, _, rfl, _, _, _, _, rfl, rfl, .of hpq', at1, v, dx, l, hh, f, _, s'', _, qq.1, qq.2, rfl, ⟨vx, ok'', by omega⟩, fun H15 v15 t15 => ⟨_, rfl, ?_⟩⟩
        cases q2 : s''.one qq.1 qq.2 with
        | true =>
          rw [q2] at hleft
          have hD15 := v15.off.same _ _ (upd_same (H := BV) (a := D) (o := .lst (as2.map V.ref)))
          refine ⟨_, rfl, as2.map V.ref, hD15, by rw [List.length_map]; exact small_of (by omega), s''.two qq.1 qq.2, keep ++ [qq], as2 ++ [qa], ?_, hkp.snoc hpq, (ok''.two _ _).up (by omega), ?_, by rw [List.length_append]; show as2.length + 1 ≤ j + 1; omega⟩
          · have v16 := v15.put (a := D) (o' := .lst (as2.map V.ref ++ [.ref qa])) upd_same fun xs z => by cases z
            rw [upd_upd] at v16
            rw [List.map_append]
            exact v16.at
          · rw [hleft, List.append_assoc]
            rfl
        | false =>
          rw [q2] at hleft
          exact ⟨s''.two qq.1 qq.2, keep, as2, v15.at, hkp, (ok''.two _ _).up (by omega), hleft, by omega⟩
      · rintro H13 ⟨s'', keep, as2, hv2, hkp, ok'', hleft, hl2⟩
        rw [List.length_map, hlq] at hleft ok'' hl2
        rw [List.drop_length] at hleft
        have hleft : s'.left tw = (s'', keep) := by rw [hleft]; show (s'', keep ++ []) = _; rw [List.append_nil]
        rw [hleft] at hov1 hov
        have okn : s''.Ok (200 + 32 * (i + 1)) := ok''.up (by omega)
        have sv2 := vat_same hv2
        have hDB : (upd BV D (.lst (as2.map V.ref))) fo = some (.lst (as.map V.ref)) := by rw [upd_ne (ne_of_none I'.fnd nBVD)]; exact I'.fnd
        have hDW : (upd BV D (.lst (as2.map V.ref))) wt = some (.lst (vns st'.waiting)) := by rw [upd_ne (ne_of_none I'.wait nBVD)]; exact I'.wait
        have hDc : (upd BV D (.lst (as2.map V.ref))) c = some (.lst (qs.map V.ref)) := by rw [upd_ne (ne_of_none (I'.same _ _ hq1) nBVD)]; exact I'.same _ _ hq1
        have hDD := sv2 _ _ (upd_same (H := BV) (a := D) (o := .lst (as2.map V.ref)))
        have hklen : as2.length = keep.length := paired_len hkp
        -- if len(left) < len(found[other])
        refine ⟨_, rfl, _, _, rfl, len_lst hDD, _, rfl, _, rfl, _, _, _, _, rfl, rfl, .of (sv2 _ _ hDB), eF, _, _, rfl, len_lst (sv2 _ _ hDc), _, _, rfl, rfl, _, rfl, ?_⟩
        rw [List.length_map, List.length_map, hlq, hklen, show decide (((keep.length : Nat) : Int) < ((tw.length : Nat) : Int)) = decide (keep.length < tw.length) from decide_eq_decide.mpr (by omega)]
        have sBV : Same B (upd BV D (.lst (as2.map V.ref))) := I'.same.trans (same_new nBVD)
        have nBD : B D = none := I'.same.free nBVD
        refine ite2 (fun w1 => ?_) fun w1 => ?_
        · have w1 := of_decide_eq_true w1
          rw [if_pos (show (s'', keep).2.length < tw.length from w1)] at hov1
          have nDfo : D ≠ fo := fun z => by rw [z, I'.fnd] at nBVD; cases nBVD
          have nDwt : D ≠ wt := fun z => by rw [z, I'.wait] at nBVD; cases nBVD
          refine ⟨_, rfl, _, rfl, _, rfl, fo, _, _, o, rfl, rfl, sv2 _ _ hDB, ixN_nat (by rw [List.length_map, lasl, efl]; exact ho), ?_⟩
          have hv3 := hv2.put (o' := .lst ((as.map V.ref).set o (.ref D))) hDB fun xs z => by cases z
          have eset : (as.map V.ref).set o (.ref D) = (as.set o D).map V.ref := by rw [List.map_set]
          rw [eset] at hv3 ⊢
          have tws3 : Paired (LPairs (upd B D (.lst (as2.map V.ref)))) (as.set o D) (st'.found.set o keep) := by
            refine paired_set o (Paired.mapP I'.tws fun u l z => z.mono (same_new nBD)) ⟨as2, upd_same, Paired.mapP hkp fun _ _ z => z.mono (.of (same_new nBD))⟩
          have hD3W : (upd (upd BV D (.lst (as2.map V.ref))) fo (.lst ((as.set o D).map V.ref))) wt = some (.lst (vns st'.waiting)) := by rw [upd_ne I'.ne.symm]; exact hDW
          have sB3 : Same (upd B D (.lst (as2.map V.ref))) (upd (upd BV D (.lst (as2.map V.ref))) fo (.lst ((as.set o D).map V.ref))) := by
            refine same_mut (fun b u e => ?_) (by rw [upd_ne nDfo.symm]; exact I'.nf)
            by_cases zz : b = D
            · rw [zz, upd_same] at e ⊢
              exact e
            · rw [upd_ne zz] at e ⊢
              exact I'.same _ _ e
          generalize hBV3 : upd (upd BV D (.lst (as2.map V.ref))) fo (.lst ((as.set o D).map V.ref)) = BV3 at *
          have hfo3 : BV3 fo = some (.lst ((as.set o D).map V.ref)) := by rw [← hBV3]; exact upd_same
          have sv3 := vat_same hv3
          generalize upd H13 fo (.lst ((as.set o D).map V.ref)) = H14 at *
          -- waiting = [one for one in waiting if one != other] + [other]
          refine ⟨_, rfl, wt, rfl, ⟨_, .of (sv3 _ _ hD3W)⟩, fun D2 nD2 => ?_⟩
          have hwl : st'.waiting.length ≤ 1000 := by
            have : st'.waiting.length ≤ st'.mu := Nat.le_add_left _ _
            omega
          refine lc_pure walk_list st'.waiting (fun j => if decide (j ≠ o) = true then [vn j] else []) (len_vns _) hwl (fun j => by by_cases zz : decide (j ≠ o) = true <;> simp [zz]) nD2 (fun H15 s15 => .of (s15 _ _ (sv3 _ _ hD3W))) same_yat ?_ ?_
          · rintro j jj z H15 H16 Kq N hj s15 ⟨rfl, hz⟩ hK hN
            rw [get_vns hj] at hz
            cases hz
            refine ⟨rfl, _, rfl, _, rfl, rfl, _, rfl, ?_⟩
            rw [vn_dec]
            by_cases zz : jj = o
            · rw [decide_eq_true zz]
              exact hN _ (Same.refl _) (by simp [zz])
            · rw [decide_eq_false zz]
              exact ⟨_, rfl, hK _ _ (Same.refl _) (by simp [zz])⟩
          · intro H15 s15 hD15
            rw [flat_if] at hD15
            have hD15 : H15 D2 = some (.lst (vns (st'.waiting.filter fun j => decide (j ≠ o)))) := hD15
            refine ⟨_, rfl, by show 1 ≤ sizeLine; decide, fun e2 ne2 => ⟨D2, e2, _, _, rfl, rfl, same_new ne2 _ _ hD15, upd_same, ?_, fun wt' nwt' => ?_⟩⟩
            · have := List.length_filter_le (fun j => decide (j ≠ o)) st'.waiting
              rw [len_vns, sizeLine_eq]
              show _ + 1 ≤ _
              omega
            · have s17 := (s15.trans (same_new (o := .lst [vn o]) ne2)).trans (same_new (o := .lst (vns (st'.waiting.filter fun j => decide (j ≠ o)) ++ [vn o])) nwt')
              have n14 : H14 wt' = none := (s15.trans (same_new (o := .lst [vn o]) ne2)).free nwt'
              have hv4 := hv3.adopt s17 n14 upd_same
              have nfw' : fo ≠ wt' := ne_of_none (sv3 _ _ hfo3) n14
              have nB3 : (upd B D (.lst (as2.map V.ref))) wt' = none := (sB3.trans sv3).free n14
              refine ⟨_, s'', over1 s' st' o, wt', upd B D (.lst (as2.map V.ref)), as.set o D, _, _, rfl, hv4, ?_, sB'.trans (same_new nBD), okn, hpo.1, hov, Nat.le_trans hpo.2 hmu7⟩
              rw [hov1]
              exact ⟨sB3.trans (same_new (sv3.free n14)), by rw [upd_ne nDfo.symm]; exact I'.nf, nB3, nfw', by rw [upd_ne nfw']; exact hfo3, tws3, by rw [upd_same, vns_snoc]⟩
        · have w1 : ¬ keep.length < tw.length := fun zz => w1 (decide_eq_true zz)
          rw [if_neg (show ¬ (s'', keep).2.length < tw.length from w1)] at hov1
          refine ⟨upd BV D (.lst (as2.map V.ref)), s'', over1 s' st' o, wt, B, as, _, _, rfl, hv2, ?_, sB', okn, hpo.1, hov, Nat.le_trans hpo.2 hmu7⟩
          rw [hov1]
          exact ⟨sBV, I'.nf, I'.nw, I'.ne, hDB, I'.tws, hDW⟩
    · rintro σ H11 ⟨BV, s', st', wt, B, as, o8, o10, rfl, hv', I', sB', ok', pok', hov, hmu7⟩
      rw [len_vns, List.drop_length] at hov
      have hov : overs s0 ⟨st.found, r⟩ L = st' := hov
      rw [hov] at hfin
      have sv' := vat_same hv'
      have hmu2 := (pok1.overs (L := L) (s := s0) hLlt).2
      rw [hov] at hmu2
      exact ⟨m, Nat.lt_succ_self _, st', wt, B, as, _, _, _, _, rfl, ⟨I'.same.trans sv', I'.nf, I'.nw, I'.ne, sv' _ _ I'.fnd, I'.tws, sv' _ _ I'.wait⟩, sB', pok', by omega, by omega, hfin⟩
end
end SL

/-! text OkSure -/
set_option Elab.async false
set_option linter.all false
set_option maxRecDepth 100000
set_option maxHeartbeats 4000000
namespace SL
open PySem PySem.Spec L2
section
variable {P : Program} {w : World} {K : PySem.W.Frag} {mg : Str → Option Value} {base : Heap}
def sp_sure_paper : Sp := fun vs H Q _ => ∃ (ap a x y : Addr) (p : Prog) (hs : Hues), vs = [.ref ap, .ref a] ∧ (ProgAt H ap p ∧ p.Ok ∧ HuesAt H a x y hs ∧ hs.Ok) ∧
  (surePaper p hs = none → ∀ H', Same H H' → Q .non H') ∧ (∀ pp, surePaper p hs = some pp → ∀ q H', H q = none → Same H H' → PaperAt H' q pp → Q (.ref q) H')
-- slots: 0:program 1:hues 2:paper   level 9
abbrev n_sure_paper : List Str := ["program", "hues", "paper"]
theorem sc_sure_paper : FnScope n_sure_paper ["program", "hues"] SL.d_sure_paper.scope := ⟨rfl, rfl, rfl, by decide +kernel, rfl, by decide +kernel, by decide +kernel⟩
theorem ok_sure_paper (T : Tx K mg w) : Cal P w K mg base "sure_paper" 9 ["program", "hues"] sp_sure_paper := by
  refine Cal.of T.D_sure_paper T.g_sure_paper sc_sure_paper (fun _ _ _ _ _ _ us hl => match us, hl with | [_, _], _ => rfl) (fun vs H Q E h => ?_) fun f cdv A outer s H vs Q E hr h => ?_
  · obtain ⟨ap, a, x, y, p, hs, rfl, _⟩ := h
    rfl
  obtain ⟨ap, a, x, y, p, hs, rfl, u, h⟩ := h
  refine ⟨_, (pss_cons (ps_set (i := 2) sc_sure_paper.nd rfl (Or.inl rfl) (pe_fn (ok_paper_of T) (hr.mono (by decide)) (by rfl) (pa_cons (pv 0) (pa_cons (pv 1) pa_nil))))
    (pss_one (ps_ret (pe_ifExp (pt_cmpR op_isN (pe_fn (ok_fault_of T) (hr.mono (by decide)) (by rfl) (pa_cons (pv 0) (pa_cons (pv 1) (pa_cons (pv 2) pa_nil)))) pe_non (nomark _)) (pv 2) pe_non)))), ?_⟩
  obtain ⟨hP, ok, hA, hok⟩ := u
  obtain ⟨h1, h2⟩ := h
  obtain ⟨k1, k2⟩ := paperOf_ok ok hok
  refine ⟨_, rfl, _, rfl, ap, a, x, y, p, hs, rfl, ⟨hP, ok, hA, hok⟩, fun q H1 nq s1 hq => ⟨_, rfl, _, rfl, _, rfl, ap, a, x, y, q, p, hs, paperOf p hs, rfl, ⟨hP.mono (.of s1), ok, hA.mono (.of s1), hok, hq, k1, k2⟩, fun v H2 s2 hv => ⟨rfl, _, rfl, ?_⟩⟩⟩
  rw [hv]
  unfold surePaper at h1 h2
  cases e : faultless p hs (paperOf p hs) with
  | true => exact ⟨_, rfl, h2 _ (if_pos e) q H2 nq (s1.trans s2) (hq.mono (.of s2))⟩
  | false => exact h1 (if_neg (by rw [e]; decide)) H2 (s1.trans s2)
end
end SL

/-! text OkRepr -/
set_option Elab.async false
set_option linter.all false
set_option maxRecDepth 100000
set_option maxHeartbeats 4000000
namespace SL
open PySem PySem.Spec L2
section
variable {P : Program} {w : World} {K : PySem.W.Frag} {mg : Str → Option Value} {base : Heap}
/-! the paper as data, its text -/
def pdT (tw : Twins) : PyData := .tuple (pdq tw)
def pdP (pp : List Twins) : PyData := .tuple (pp.map pdT)
theorem dp_twins {H : Hp} {a : Addr} {tw : Twins} (h : TPairs H a tw) : Dp K H (.ref a) (pdT tw) := by
  obtain ⟨as, h1, h2⟩ := h
  exact .tup (.of h1) (dp_pairs h2)
theorem dp_all_twins {H : Hp} : ∀ {as : List Addr} {pp : List Twins}, Paired (TPairs H) as pp → DpAll K H (as.map V.ref) (pp.map pdT)
  | [], [], .nil => .nil
  | _ :: _, _ :: _, .cons r t => .cons (dp_twins r) (dp_all_twins t)
theorem dp_paper {H : Hp} {a : Addr} {pp : List Twins} (h : PaperAt H a pp) : Dp K H (.ref a) (pdP pp) := by
  obtain ⟨as, h1, h2⟩ := h
  exact .tup (.of h1) (dp_all_twins h2)
theorem box_text : ∀ n : Nat, n < 32 → (PyData.shown (.int (n : Int))).length ≤ 2 := by decide +kernel
theorem box_show : ∀ n : Nat, n < 32 → PyData.showable (.int (n : Int)) = true := by decide +kernel
theorem all_len {m : Nat} : ∀ {ds : List PyData}, (∀ d ∈ ds, d.shown.length ≤ m) → ((PyData.shownAll ds).map (·.length)).sum ≤ m * ds.length ∧ (PyData.shownAll ds).length = ds.length
  | [], _ => ⟨Nat.zero_le _, rfl⟩
  | d :: r, h => by
    obtain ⟨h1, h2⟩ := all_len (ds := r) fun x hx => h x (List.mem_cons_of_mem _ hx)
    have h3 := h d List.mem_cons_self
    rw [PyData.shownAll, List.map_cons, List.sum_cons, List.length_cons, List.length_cons, Nat.mul_succ]
    exact ⟨by omega, by omega⟩
theorem tup_len {m : Nat} {ds : List PyData} (h : ∀ d ∈ ds, d.shown.length ≤ m) : (PyData.shown (.tuple ds)).length ≤ m * ds.length + 2 * ds.length + 3 := by
  obtain ⟨h1, h2⟩ := all_len h
  have := tupleText_len_le (PyData.shownAll ds)
  rw [PyData.shown]
  omega
theorem showAll_of : ∀ {ds : List PyData}, (∀ d ∈ ds, d.showable = true) → PyData.showableAll ds = true
  | [], _ => rfl
  | d :: r, h => by
    rw [PyData.showableAll, h d List.mem_cons_self, showAll_of fun x hx => h x (List.mem_cons_of_mem _ hx)]
    rfl
theorem depth_all_le {m : Nat} : ∀ {ds : List PyData}, (∀ d ∈ ds, d.depth ≤ m) → PyData.depthAll ds ≤ m
  | [], _ => Nat.zero_le _
  | d :: r, h => Nat.max_le.mpr ⟨h d List.mem_cons_self, depth_all_le fun x hx => h x (List.mem_cons_of_mem _ hx)⟩
structure PapOk (pp : List Twins) : Prop where
  few : pp.length ≤ 20
  tw : ∀ tw ∈ pp, tw.length ≤ 16 ∧ ∀ q ∈ tw, q.1 < 32 ∧ q.2 < 32
theorem pair_of {q : Nat × Nat} (h1 : q.1 < 32) (h2 : q.2 < 32) : (PyData.tuple [.int (q.1 : Int), .int (q.2 : Int)]).showable = true ∧ (PyData.shown (.tuple [.int (q.1 : Int), .int (q.2 : Int)])).length ≤ 11 := by
  refine ⟨?_, ?_⟩
  · rw [PyData.showable]
    refine showAll_of fun d hd => ?_
    rcases List.mem_cons.mp hd with e | hd
    · rw [e]; exact box_show _ h1
    · rw [List.mem_singleton.mp hd]; exact box_show _ h2
  · refine tup_len (m := 2) fun d hd => ?_
    rcases List.mem_cons.mp hd with e | hd
    · rw [e]; exact box_text _ h1
    · rw [List.mem_singleton.mp hd]; exact box_text _ h2
theorem twins_of {tw : Twins} (h : tw.length ≤ 16 ∧ ∀ q ∈ tw, q.1 < 32 ∧ q.2 < 32) : (pdT tw).showable = true ∧ (pdT tw).shown.length ≤ 220 ∧ (pdT tw).depth ≤ 6 := by
  refine ⟨?_, ?_, ?_⟩
  · unfold pdT
    rw [PyData.showable]
    refine showAll_of fun d hd => ?_
    obtain ⟨q, hq, e⟩ := List.mem_map.mp hd
    rw [← e]
    exact (pair_of (h.2 q hq).1 (h.2 q hq).2).1
  · have := tup_len (m := 11) (ds := pdq tw) fun d hd => by
      obtain ⟨q, hq, e⟩ := List.mem_map.mp hd
      rw [← e]
      exact (pair_of (h.2 q hq).1 (h.2 q hq).2).2
    have e : (pdq tw).length = tw.length := List.length_map ..
    have h1 := h.1
    show (PyData.shown (.tuple (pdq tw))).length ≤ 220
    omega
  · have := depth_pdq tw
    show PyData.depthAll (pdq tw) + 1 ≤ 6
    omega
theorem paper_of_ {pp : List Twins} (h : PapOk pp) : (pdP pp).showable = true ∧ (pdP pp).hasDict = false ∧ (pdP pp).depth ≤ 8 ∧ (pdP pp).shown.length ≤ sizeLine := by
  have mem : ∀ d ∈ pp.map pdT, ∃ tw ∈ pp, d = pdT tw := fun d hd => by
    obtain ⟨tw, h1, h2⟩ := List.mem_map.mp hd
    exact ⟨tw, h1, h2.symm⟩
  have lay : PyData.canLayAll0 (pp.map pdT) = true := by
    clear h mem
    induction pp with
    | nil => rfl
    | cons tw r ih =>
      show (PyData.canLay0 (pdT tw) && PyData.canLayAll0 (r.map pdT)) = true
      rw [ih, show PyData.canLay0 (pdT tw) = PyData.canLayAll0 (pdq tw) from rfl, lay_pdq]
      rfl
  refine ⟨?_, ?_, ?_, ?_⟩
  · unfold pdP
    rw [PyData.showable]
    refine showAll_of fun d hd => ?_
    obtain ⟨tw, h1, rfl⟩ := mem d hd
    exact (twins_of (h.tw tw h1)).1
  · exact PyData.hasDict_of_canLay _ lay
  · have : PyData.depthAll (pp.map pdT) ≤ 6 := depth_all_le fun d hd => by
      obtain ⟨tw, h1, rfl⟩ := mem d hd
      exact (twins_of (h.tw tw h1)).2.2
    show PyData.depthAll (pp.map pdT) + 1 ≤ 8
    omega
  · have := tup_len (m := 220) (ds := pp.map pdT) fun d hd => by
      obtain ⟨tw, h1, rfl⟩ := mem d hd
      exact (twins_of (h.tw tw h1)).2.1
    have e : (pp.map pdT).length = pp.length := List.length_map ..
    have h1 := h.few
    show (PyData.shown (.tuple (pp.map pdT))).length ≤ sizeLine
    rw [sizeLine_eq]
    omega
theorem paper_ok {p : Prog} (ok : p.Ok) {hs : Hues} (hok : hs.Ok) {pp : List Twins} (h : surePaper p hs = some pp) : PapOk pp := by
  unfold surePaper at h
  split at h
  · cases h
    obtain ⟨k1, k2⟩ := paperOf_ok ok hok
    refine ⟨?_, fun tw ht => ?_⟩
    · rw [k1]
      exact blocks_few ok
    · have t := k2 tw ht
      exact ⟨t.few, fun q hq => ⟨hok.one.box _ (t.ins q hq).1, hok.two.box _ (t.ins q hq).2⟩⟩
  · cases h
end
end SL

/-! text OkMach -/
set_option Elab.async false
set_option linter.all false
set_option maxRecDepth 100000
set_option maxHeartbeats 4000000
namespace SL
open PySem PySem.Spec L2
section
variable {P : Program} {w : World} {K : PySem.W.Frag} {mg : Str → Option Value} {base : Heap}
/-! the machine in the heap -/
def ovV : Option Over → V
  | none => .non
  | some .fin => .str "end"
  | some .slip => .str "slip"
def stF (s : Stand) (wa sa : Addr) : List (Str × V) := [("at", vn s.at_), ("words", .ref wa), ("store", .ref sa), ("count", vn s.count), ("used", .bl s.used)]
def StandAt (K : PySem.W.Frag) (H : Hp) (a : Addr) (s : Stand) : Prop := ∃ dx wa sa, H a = some (.ins (ga K "Stand") dx (stF s wa sa)) ∧ H wa = some (.tup (vns s.words)) ∧ H sa = some (.tup (vns s.store))
def mF (r g wd st sa sn : Addr) (m : MS) : List (Str × V) := [("rows", .ref r), ("given", .ref g), ("at", vn m.at_), ("words", .ref wd), ("store", .ref st), ("said", .ref sa), ("count", vn m.count), ("stands", .ref sn), ("over", ovV m.over), ("done", vn m.done)]
structure MAtX (K : PySem.W.Frag) (B H : Hp) (p dx r g wd st sa sn : Addr) (as : List Addr) (prog : Prog) (given : List Nat) (m : MS) : Prop where
  ob : H p = some (.ins (ga K "Machine") dx (mF r g wd st sa sn m))
  pr : ProgAt H r prog
  gv : H g = some (.tup (vns given))
  wds : H wd = some (.lst (vns m.words))
  sto : H st = some (.lst (vns m.store))
  sad : H sa = some (.lst (vns m.said))
  sns : H sn = some (.lst (as.map V.ref))
  ss : Paired (StandAt K H) as m.stands
  nd : as.Nodup
  d1 : wd ≠ st
  d2 : wd ≠ sa
  d3 : wd ≠ sn
  d4 : st ≠ sa
  d5 : st ≠ sn
  d6 : sa ≠ sn
  np : p ∉ as
  off : Off B H ([p, wd, st, sa, sn] ++ as)
def MAt (K : PySem.W.Frag) (B H : Hp) (p : Addr) (prog : Prog) (given : List Nat) (m : MS) : Prop := ∃ dx r g wd st sa sn as, MAtX K B H p dx r g wd st sa sn as prog given m
section
variable {B H H' : Hp} {p dx r g wd st sa sn : Addr} {as : List Addr} {prog : Prog} {given : List Nat} {m : MS}
theorem MAtX.at (v : MAtX K B H p dx r g wd st sa sn as prog given m) : MAt K B H p prog given m := ⟨dx, r, g, wd, st, sa, sn, as, v⟩
theorem StandAt.same {a : Addr} {s : Stand} (h : StandAt K H a s) (e : Same H H') : StandAt K H' a s := let ⟨dx, wa, sa, h1, h2, h3⟩ := h; ⟨dx, wa, sa, e _ _ h1, e _ _ h2, e _ _ h3⟩
theorem StandAt.keep {a : Addr} {s : Stand} (h : StandAt K H a s) (h1 : ∀ o, H a = some o → H' a = some o) (t : SameT H H') : StandAt K H' a s := let ⟨dx, wa, sa, k1, k2, k3⟩ := h; ⟨dx, wa, sa, h1 _ k1, t _ _ k2, t _ _ k3⟩
theorem MAtX.ext (v : MAtX K B H p dx r g wd st sa sn as prog given m) (e : Same H H') : MAtX K B H' p dx r g wd st sa sn as prog given m :=
  ⟨e _ _ v.ob, v.pr.mono (.of e), e _ _ v.gv, e _ _ v.wds, e _ _ v.sto, e _ _ v.sad, e _ _ v.sns, Paired.mapP v.ss fun _ _ z => z.same e, v.nd, v.d1, v.d2, v.d3, v.d4, v.d5, v.d6, v.np, v.off.ext e⟩
theorem stands_keep {a : Addr} {o : HO} {ls : List Stand} (h : Paired (StandAt K H) as ls) (hn : a ∉ as) (t : SameT H (upd H a o)) : Paired (StandAt K (upd H a o)) as ls := by
  induction h with
  | nil => exact .nil
  | cons z _ ih => exact .cons (z.keep (fun o h => by rw [upd_ne (fun e => hn (by rw [e]; exact List.mem_cons_self))]; exact h) t) (ih fun e => hn (List.mem_cons_of_mem _ e))
theorem lst_notin {a : Addr} {xs : List V} {ls : List Stand} (h : Paired (StandAt K H) as ls) (ha : H a = some (.lst xs)) : a ∉ as := by
  intro hm
  obtain ⟨i, hi⟩ := List.getElem?_of_mem hm
  induction h generalizing i with
  | nil => cases hm
  | cons z _ ih =>
    cases i with
    | zero =>
      simp at hi
      obtain ⟨_, _, _, h1, _⟩ := z
      rw [hi, ha] at h1
      cases h1
    | succ i =>
      rw [List.getElem?_cons_succ] at hi
      exact ih (List.mem_of_getElem? hi) i hi
/-- a field of the machine itself -/
theorem MAtX.fld {m' : MS} (v : MAtX K B H p dx r g wd st sa sn as prog given m) (h1 : m'.words = m.words) (h2 : m'.store = m.store) (h3 : m'.said = m.said) (h4 : m'.stands = m.stands) :
    MAtX K B (upd H p (.ins (ga K "Machine") dx (mF r g wd st sa sn m'))) p dx r g wd st sa sn as prog given m' ∧ SameT H (upd H p (.ins (ga K "Machine") dx (mF r g wd st sa sn m'))) := by
  have t : SameT H (upd H p (.ins (ga K "Machine") dx (mF r g wd st sa sn m'))) := sameT_upd v.ob fun xs z => by cases z
  have nl : ∀ {a : Addr} {xs : List V}, H a = some (.lst xs) → (upd H p (.ins (ga K "Machine") dx (mF r g wd st sa sn m'))) a = some (.lst xs) := fun e => by rw [upd_ne (ne_of e v.ob (by intro z; cases z))]; exact e
  refine ⟨⟨upd_same, v.pr.mono t, t _ _ v.gv, by rw [h1]; exact nl v.wds, by rw [h2]; exact nl v.sto, by rw [h3]; exact nl v.sad, nl v.sns, by rw [h4]; exact stands_keep v.ss v.np t, v.nd, v.d1, v.d2, v.d3, v.d4, v.d5, v.d6, v.np, v.off.own (by simp)⟩, t⟩
/-- a list of the machine, in its place -/
theorem MAtX.wordsd {ws : List Nat} (v : MAtX K B H p dx r g wd st sa sn as prog given m) : MAtX K B (upd H wd (.lst (vns ws))) p dx r g wd st sa sn as prog given { m with words := ws } ∧ SameT H (upd H wd (.lst (vns ws))) := by
  have t : SameT H (upd H wd (.lst (vns ws))) := sameT_upd v.wds fun xs z => by cases z
  exact ⟨⟨by rw [upd_ne (ne_of v.ob v.wds (by intro z; cases z))]; exact v.ob, v.pr.mono t, t _ _ v.gv, upd_same, by rw [upd_ne v.d1.symm]; exact v.sto, by rw [upd_ne v.d2.symm]; exact v.sad, by rw [upd_ne v.d3.symm]; exact v.sns, stands_keep v.ss (lst_notin v.ss v.wds) t, v.nd, v.d1, v.d2, v.d3, v.d4, v.d5, v.d6, v.np, v.off.own (by simp)⟩, t⟩
theorem MAtX.stored {ws : List Nat} (v : MAtX K B H p dx r g wd st sa sn as prog given m) : MAtX K B (upd H st (.lst (vns ws))) p dx r g wd st sa sn as prog given { m with store := ws } ∧ SameT H (upd H st (.lst (vns ws))) := by
  have t : SameT H (upd H st (.lst (vns ws))) := sameT_upd v.sto fun xs z => by cases z
  exact ⟨⟨by rw [upd_ne (ne_of v.ob v.sto (by intro z; cases z))]; exact v.ob, v.pr.mono t, t _ _ v.gv, by rw [upd_ne v.d1]; exact v.wds, upd_same, by rw [upd_ne v.d4.symm]; exact v.sad, by rw [upd_ne v.d5.symm]; exact v.sns, stands_keep v.ss (lst_notin v.ss v.sto) t, v.nd, v.d1, v.d2, v.d3, v.d4, v.d5, v.d6, v.np, v.off.own (by simp)⟩, t⟩
theorem MAtX.saidd {ws : List Nat} (v : MAtX K B H p dx r g wd st sa sn as prog given m) : MAtX K B (upd H sa (.lst (vns ws))) p dx r g wd st sa sn as prog given { m with said := ws } ∧ SameT H (upd H sa (.lst (vns ws))) := by
  have t : SameT H (upd H sa (.lst (vns ws))) := sameT_upd v.sad fun xs z => by cases z
  exact ⟨⟨by rw [upd_ne (ne_of v.ob v.sad (by intro z; cases z))]; exact v.ob, v.pr.mono t, t _ _ v.gv, by rw [upd_ne v.d2]; exact v.wds, by rw [upd_ne v.d4]; exact v.sto, upd_same, by rw [upd_ne v.d6.symm]; exact v.sns, stands_keep v.ss (lst_notin v.ss v.sad) t, v.nd, v.d1, v.d2, v.d3, v.d4, v.d5, v.d6, v.np, v.off.own (by simp)⟩, t⟩
theorem off_mem {l : List Addr} (h : Off B H l) {l' : List Addr} (hs : ∀ a ∈ l', a ∈ l ∨ B a = none) : Off B H l' := ⟨h.same, fun a ha => (hs a ha).elim (h.free a) id⟩
/-- a new list in the words' place, and so on -/
theorem MAtX.newWords {ws : List Nat} {z : Addr} (v : MAtX K B H p dx r g wd st sa sn as prog given m) (hz : H z = none) :
    MAtX K B (upd (upd H z (.lst (vns ws))) p (.ins (ga K "Machine") dx (mF r g z st sa sn m))) p dx r g z st sa sn as prog given { m with words := ws } ∧ SameT H (upd (upd H z (.lst (vns ws))) p (.ins (ga K "Machine") dx (mF r g z st sa sn m))) := by
  have s := same_new (o := .lst (vns ws)) hz
  have v1 := v.ext s
  have t : SameT (upd H z (.lst (vns ws))) (upd (upd H z (.lst (vns ws))) p (.ins (ga K "Machine") dx (mF r g z st sa sn m))) := sameT_upd v1.ob fun xs z => by cases z
  have nl : ∀ {a : Addr} {xs : List V}, (upd H z (.lst (vns ws))) a = some (.lst xs) → (upd (upd H z (.lst (vns ws))) p (.ins (ga K "Machine") dx (mF r g z st sa sn m))) a = some (.lst xs) := fun e => by rw [upd_ne (ne_of e v1.ob (by intro z; cases z))]; exact e
  refine ⟨⟨upd_same, v1.pr.mono t, t _ _ v1.gv, nl upd_same, nl v1.sto, nl v1.sad, nl v1.sns, stands_keep v1.ss v1.np t, v.nd, (ne_of_none v.sto hz).symm, (ne_of_none v.sad hz).symm, (ne_of_none v.sns hz).symm, v.d4, v.d5, v.d6, v.np, off_mem (v1.off.own (by simp)) fun a ha => ?_⟩, (SameT.of s).trans t⟩
  have nB := v.off.same.free hz
  simp only [List.cons_append, List.mem_cons, List.nil_append] at ha ⊢
  rcases ha with e | e | e | e | e | e
  · exact .inl (.inl e)
  · rw [e]
    exact .inr nB
  · exact .inl (.inr (.inr (.inl e)))
  · exact .inl (.inr (.inr (.inr (.inl e))))
  · exact .inl (.inr (.inr (.inr (.inr (.inl e)))))
  · exact .inl (.inr (.inr (.inr (.inr (.inr e)))))
theorem MAtX.newStore {ws : List Nat} {z : Addr} (v : MAtX K B H p dx r g wd st sa sn as prog given m) (hz : H z = none) :
    MAtX K B (upd (upd H z (.lst (vns ws))) p (.ins (ga K "Machine") dx (mF r g wd z sa sn m))) p dx r g wd z sa sn as prog given { m with store := ws } ∧ SameT H (upd (upd H z (.lst (vns ws))) p (.ins (ga K "Machine") dx (mF r g wd z sa sn m))) := by
  have s := same_new (o := .lst (vns ws)) hz
  have v1 := v.ext s
  have t : SameT (upd H z (.lst (vns ws))) (upd (upd H z (.lst (vns ws))) p (.ins (ga K "Machine") dx (mF r g wd z sa sn m))) := sameT_upd v1.ob fun xs z => by cases z
  have nl : ∀ {a : Addr} {xs : List V}, (upd H z (.lst (vns ws))) a = some (.lst xs) → (upd (upd H z (.lst (vns ws))) p (.ins (ga K "Machine") dx (mF r g wd z sa sn m))) a = some (.lst xs) := fun e => by rw [upd_ne (ne_of e v1.ob (by intro z; cases z))]; exact e
  refine ⟨⟨upd_same, v1.pr.mono t, t _ _ v1.gv, nl v1.wds, nl upd_same, nl v1.sad, nl v1.sns, stands_keep v1.ss v1.np t, v.nd, ne_of_none v.wds hz, v.d2, v.d3, (ne_of_none v.sad hz).symm, (ne_of_none v.sns hz).symm, v.d6, v.np, off_mem (v1.off.own (by simp)) fun a ha => ?_⟩, (SameT.of s).trans t⟩
  have nB := v.off.same.free hz
  simp only [List.cons_append, List.mem_cons, List.nil_append] at ha ⊢
  rcases ha with e | e | e | e | e | e
  · exact .inl (.inl e)
  · exact .inl (.inr (.inl e))
  · rw [e]
    exact .inr nB
  · exact .inl (.inr (.inr (.inr (.inl e))))
  · exact .inl (.inr (.inr (.inr (.inr (.inl e)))))
  · exact .inl (.inr (.inr (.inr (.inr (.inr e)))))
theorem MAtX.newStands {as' : List Addr} {ls : List Stand} {z : Addr} (v : MAtX K B H p dx r g wd st sa sn as prog given m) (hz : H z = none) (hp : Paired (StandAt K H) as' ls) (hn : as'.Nodup) (hb : ∀ a ∈ as', B a = none) (hpn : p ∉ as') :
    MAtX K B (upd (upd H z (.lst (as'.map V.ref))) p (.ins (ga K "Machine") dx (mF r g wd st sa z m))) p dx r g wd st sa z as' prog given { m with stands := ls } ∧ SameT H (upd (upd H z (.lst (as'.map V.ref))) p (.ins (ga K "Machine") dx (mF r g wd st sa z m))) := by
  have s := same_new (o := .lst (as'.map V.ref)) hz
  have v1 := v.ext s
  have t : SameT (upd H z (.lst (as'.map V.ref))) (upd (upd H z (.lst (as'.map V.ref))) p (.ins (ga K "Machine") dx (mF r g wd st sa z m))) := sameT_upd v1.ob fun xs z => by cases z
  have nl : ∀ {a : Addr} {xs : List V}, (upd H z (.lst (as'.map V.ref))) a = some (.lst xs) → (upd (upd H z (.lst (as'.map V.ref))) p (.ins (ga K "Machine") dx (mF r g wd st sa z m))) a = some (.lst xs) := fun e => by rw [upd_ne (ne_of e v1.ob (by intro z; cases z))]; exact e
  refine ⟨⟨upd_same, v1.pr.mono t, t _ _ v1.gv, nl v1.wds, nl v1.sto, nl v1.sad, nl upd_same, stands_keep (Paired.mapP hp fun _ _ z => z.same s) hpn t, hn, v.d1, v.d2, ne_of_none v.wds hz, v.d4, ne_of_none v.sto hz, ne_of_none v.sad hz, hpn, off_mem (v1.off.own (by simp)) fun a ha => ?_⟩, (SameT.of s).trans t⟩
  have nB := v.off.same.free hz
  simp only [List.cons_append, List.mem_cons, List.nil_append] at ha ⊢
  rcases ha with e | e | e | e | e | e
  · exact .inl (.inl e)
  · exact .inl (.inr (.inl e))
  · exact .inl (.inr (.inr (.inl e)))
  · exact .inl (.inr (.inr (.inr (.inl e))))
  · rw [e]
    exact .inr nB
  · exact .inr (hb a e)
/-- the first stand is used -/
theorem MAtX.useIt {a : Addr} {s : Stand} {ls : List Stand} {dxs wa ta : Addr} (v : MAtX K B H p dx r g wd st sa sn (a :: as) prog given m) (hm : m.stands = s :: ls) (ha : H a = some (.ins (ga K "Stand") dxs (stF s wa ta))) (h2 : H wa = some (.tup (vns s.words))) (h3 : H ta = some (.tup (vns s.store))) :
    MAtX K B (upd H a (.ins (ga K "Stand") dxs (stF { s with used := true } wa ta))) p dx r g wd st sa sn (a :: as) prog given { m with stands := { s with used := true } :: ls } ∧ SameT H (upd H a (.ins (ga K "Stand") dxs (stF { s with used := true } wa ta))) := by
  have t : SameT H (upd H a (.ins (ga K "Stand") dxs (stF { s with used := true } wa ta))) := sameT_upd ha fun xs z => by cases z
  have nl : ∀ {b : Addr} {xs : List V}, H b = some (.lst xs) → (upd H a (.ins (ga K "Stand") dxs (stF { s with used := true } wa ta))) b = some (.lst xs) := fun e => by rw [upd_ne (ne_of e ha (by intro z; cases z))]; exact e
  have np : p ≠ a := fun e => v.np (by rw [e]; exact List.mem_cons_self)
  obtain ⟨n1, n2⟩ := List.nodup_cons.mp v.nd
  have ss := v.ss
  rw [hm] at ss
  cases ss with
  | cons z zs => exact ⟨⟨by rw [upd_ne np]; exact v.ob, v.pr.mono t, t _ _ v.gv, nl v.wds, nl v.sto, nl v.sad, nl v.sns, .cons ⟨dxs, wa, ta, upd_same, t _ _ h2, t _ _ h3⟩ (stands_keep zs n1 t), v.nd, v.d1, v.d2, v.d3, v.d4, v.d5, v.d6, v.np, v.off.own (by simp)⟩, t⟩
theorem mat_same (v : MAt K B H p prog given m) : Same B H := let ⟨_, _, _, _, _, _, _, _, x⟩ := v; x.off.same
end
/-! the small methods -/
def sp_Machine_place (K : PySem.W.Frag) : Sp := fun vs H Q _ => ∃ (p dx r g wd st sa sn : Addr) (as : List Addr) (B : Hp) (prog : Prog) (given : List Nat) (m : MS), vs = [.ref p] ∧ MAtX K B H p dx r g wd st sa sn as prog given m ∧ Q (vn m.at_) H
-- slots: 0:self   level 1
abbrev n_Machine_place : List Str := ["self"]
theorem sc_Machine_place : FnScope n_Machine_place ["self"] SL.d_Machine_place.scope := ⟨rfl, rfl, rfl, by decide +kernel, rfl, by decide +kernel, by decide +kernel⟩
theorem ok_Machine_place (T : Tx K mg w) : MCal P w K mg base (ga K "Machine") "place" 1 ["self"] (sp_Machine_place K) := by
  refine MCal.of T.D_Machine_place T.c_Machine T.m_Machine_place sc_Machine_place (fun _ _ _ _ _ _ us hl => match us, hl with | [_], _ => rfl) (fun vs H Q E h => ?_) fun f cdv A outer s H vs Q E hr h => ?_
  · obtain ⟨p, dx, r, g, wd, st, sa, sn, as, B, prog, given, m, rfl, _⟩ := h
    rfl
  obtain ⟨p, dx, r, g, wd, st, sa, sn, as, B, prog, given, m, rfl, v, h⟩ := h
  refine ⟨_, (pss_one (ps_ret (pe_fld (pv 0) rfl))), ?_⟩
  exact ⟨_, rfl, p, _, dx, _, _, rfl, v.ob, T.c_Machine, T.n_Machine_at, rfl, h⟩
def sp_Machine_end (K : PySem.W.Frag) : Sp := fun vs H Q _ => ∃ (p dx r g wd st sa sn : Addr) (as : List Addr) (B : Hp) (prog : Prog) (given : List Nat) (m : MS), vs = [.ref p] ∧ MAtX K B H p dx r g wd st sa sn as prog given m ∧ Q (ovV m.over) H
-- slots: 0:self   level 1
abbrev n_Machine_end : List Str := ["self"]
theorem sc_Machine_end : FnScope n_Machine_end ["self"] SL.d_Machine_end.scope := ⟨rfl, rfl, rfl, by decide +kernel, rfl, by decide +kernel, by decide +kernel⟩
theorem ok_Machine_end (T : Tx K mg w) : MCal P w K mg base (ga K "Machine") "end" 1 ["self"] (sp_Machine_end K) := by
  refine MCal.of T.D_Machine_end T.c_Machine T.m_Machine_end sc_Machine_end (fun _ _ _ _ _ _ us hl => match us, hl with | [_], _ => rfl) (fun vs H Q E h => ?_) fun f cdv A outer s H vs Q E hr h => ?_
  · obtain ⟨p, dx, r, g, wd, st, sa, sn, as, B, prog, given, m, rfl, _⟩ := h
    rfl
  obtain ⟨p, dx, r, g, wd, st, sa, sn, as, B, prog, given, m, rfl, v, h⟩ := h
  refine ⟨_, (pss_one (ps_ret (pe_fld (pv 0) rfl))), ?_⟩
  exact ⟨_, rfl, p, _, dx, _, _, rfl, v.ob, T.c_Machine, T.n_Machine_over, rfl, h⟩
def sp_Machine_boxes (K : PySem.W.Frag) : Sp := fun vs H Q _ => ∃ (p dx r g wd st sa sn : Addr) (as : List Addr) (B : Hp) (prog : Prog) (given : List Nat) (m : MS), vs = [.ref p] ∧ MAtX K B H p dx r g wd st sa sn as prog given m ∧ Rt (vns m.words) H Q
-- slots: 0:self   level 1
abbrev n_Machine_boxes : List Str := ["self"]
theorem sc_Machine_boxes : FnScope n_Machine_boxes ["self"] SL.d_Machine_boxes.scope := ⟨rfl, rfl, rfl, by decide +kernel, rfl, by decide +kernel, by decide +kernel⟩
theorem ok_Machine_boxes (T : Tx K mg w) : MCal P w K mg base (ga K "Machine") "boxes" 1 ["self"] (sp_Machine_boxes K) := by
  refine MCal.of T.D_Machine_boxes T.c_Machine T.m_Machine_boxes sc_Machine_boxes (fun _ _ _ _ _ _ us hl => match us, hl with | [_], _ => rfl) (fun vs H Q E h => ?_) fun f cdv A outer s H vs Q E hr h => ?_
  · obtain ⟨p, dx, r, g, wd, st, sa, sn, as, B, prog, given, m, rfl, _⟩ := h
    rfl
  obtain ⟨p, dx, r, g, wd, st, sa, sn, as, B, prog, given, m, rfl, v, h⟩ := h
  refine ⟨_, (pss_one (ps_ret (pe_callTy call_tuple_of (by rfl) T.f_tuple (by decide +kernel) (pa_cons (pe_fld (pv 0) rfl) pa_nil)))), ?_⟩
  exact ⟨_, rfl, p, _, dx, _, _, rfl, v.ob, T.c_Machine, T.n_Machine_words, rfl, wd, _, rfl, .inl ⟨.of v.wds, fun z nz => h z _ nz (same_new nz) upd_same⟩⟩
def sp_need_inputs : Sp := fun vs H Q _ => ∃ (a : Addr) (g : List Nat), vs = [.ref a] ∧ (H a = some (.tup (vns g)) ∧ g.length = 8 ∧ ∀ x ∈ g, x < 16) ∧ Rv .non H Q
-- slots: 0:thing 1:word   level 3
abbrev n_need_inputs : List Str := ["thing", "word"]
theorem sc_need_inputs : FnScope n_need_inputs ["thing"] SL.d_need_inputs.scope := ⟨rfl, rfl, rfl, by decide +kernel, rfl, by decide +kernel, by decide +kernel⟩
theorem ok_need_inputs (T : Tx K mg w) : Cal P w K mg base "need_inputs" 3 ["thing"] sp_need_inputs := by
  refine Cal.of T.D_need_inputs T.g_need_inputs sc_need_inputs (fun _ _ _ _ _ _ us hl => match us, hl with | [_], _ => rfl) (fun vs H Q E h => ?_) fun f cdv A outer s H vs Q E hr h => ?_
  · obtain ⟨a, g, rfl, _⟩ := h
    rfl
  obtain ⟨a, g, rfl, hh, h⟩ := h
  refine ⟨_, (pss_one (ps_if (PW.pt (pw_or (pt_not (pt_val (pe_callB call_isi (by rfl) T.f_isinstance (by decide +kernel) (pa_cons (pv 0) (pa_cons (pe_bltn (v := .ty "tuple") (by rfl) T.f_tuple (by decide +kernel) rfl) pa_nil))))) (pw_or (pt_cmpR op_ne (pe_callB call_len_seq (by rfl) T.f_len PySem.boot_len (pa_cons (pv 0) pa_nil)) (pe_ci (by rfl) T.i_MANY_INPUTS) (nomark _)) (pw_or1 (pt_not (pt_val (pe_callB (cr_all rfl) (by rfl) T.f_all (by decide +kernel) (pa_cons (pe_lc (own := [("word", 1)]) rfl sc_need_inputs.nd (pi_tup (pv 0)) (blkOk_by (own := [("word", 1)]) (N := n_need_inputs) (sc := SL.d_need_inputs.scope) (by decide +kernel)) (fun _ _ _ _ _ => (pg_name (i := 1) sc_need_inputs.nd rfl (Or.inl rfl))) (fun _ _ _ _ _ => pts_nil) (fun _ _ _ _ _ => (pe_fn (ok_is_word (P := P) T) (hr.mono (by decide)) (by rfl) (pa_cons (pv 1) pa_nil)))) pa_nil)))))))) (pss_one ps_never) pss_nil)), ?_⟩
  obtain ⟨hA, hl, hb⟩ := hh
  refine ⟨_, rfl, _, _, _, _, _, rfl, .ty _, .base (.tup hA), k_tt, true, rfl, _, rfl, _, _, rfl, len_tup hA, rfl, _, rfl, ?_⟩
  refine iteNS (congrArg V.int (by rw [len_vns, hl]; rfl)) ?_
  refine ⟨_, rfl, a, rfl, ⟨_, .of hA⟩, fun D nD => ?_⟩
  refine lc_pure walk_tup g (fun _ => [.bl true]) (len_vns g) (by omega) (fun _ => Nat.le_refl _) nD (fun H2 s2 => .of (s2 _ _ hA)) same_yat ?_ ?_
  · rintro i b x H2 H3 Kq N hi s2 ⟨rfl, hx⟩ hK hN
    rw [get_vns hi] at hx
    cases hx
    refine ⟨rfl, _, rfl, b, rfl, hK _ _ (Same.refl _) ?_⟩
    have := hb b (List.mem_of_getElem? hi)
    rw [decide_eq_true (show b ≤ 15 by omega)]
  · intro H2 s2 hD
    have hD : H2 D = some (.lst ((g.map fun _ => true).map V.bl)) := by rw [hD, flat_one, List.map_map]; rfl
    refine ⟨D, _, rfl, .of hD, ?_⟩
    rw [show (g.map fun _ => true).all id = true by simp]
    exact ⟨true, rfl, h _ s2⟩
def sp_meant : Sp := fun vs H Q _ => ∃ (a : Addr) (x y : Nat), vs = [.ref a] ∧ H a = some (.lst (vns [x, y])) ∧ Rv (if x = y then vn x else .non) H Q
-- slots: 0:words   level 1
abbrev n_meant : List Str := ["words"]
theorem sc_meant : FnScope n_meant ["words"] SL.d_meant.scope := ⟨rfl, rfl, rfl, by decide +kernel, rfl, by decide +kernel, by decide +kernel⟩
theorem ok_meant (T : Tx K mg w) : Cal P w K mg base "meant" 1 ["words"] sp_meant := by
  refine Cal.of T.D_meant T.g_meant sc_meant (fun _ _ _ _ _ _ us hl => match us, hl with | [_], _ => rfl) (fun vs H Q E h => ?_) fun f cdv A outer s H vs Q E hr h => ?_
  · obtain ⟨a, x, y, rfl, _⟩ := h
    rfl
  obtain ⟨a, x, y, rfl, hA, h⟩ := h
  refine ⟨_, (pss_cons (ps_if (PW.pt (pw_and (pt_cmpR op_eq (pe_callB call_len_seq (by rfl) T.f_len PySem.boot_len (pa_cons (pv 0) pa_nil)) pe_int (nomark _)) (pw_and1 (pt_cmpR op_eq (pe_ix ix_list (pv 0) pe_int (fun _ _ => rfl)) (pe_ix ix_list (pv 0) pe_int (fun _ _ => rfl)) (nomark _))))) (pss_one (ps_ret (pe_ix ix_list (pv 0) pe_int (fun _ _ => rfl)))) pss_nil)
    (pss_cons (ps_if (PW.pt (pw_and (pt_cmpR op_eq (pe_callB call_len_seq (by rfl) T.f_len PySem.boot_len (pa_cons (pv 0) pa_nil)) pe_int (nomark _)) (pw_and1 (pt_cmpR op_in_seq (pe_ix ix_list (pv 0) pe_int (fun _ _ => rfl)) (pe_slice sl_list (pv 0) (po_some pe_int) po_none) (by rfl))))) (pss_one (ps_ret (pe_ix ix_list (pv 0) pe_int (fun _ _ => rfl)))) pss_nil)
    (pss_one (ps_ret (pe_ifExp (pt_cmpR (op_eqD hr.units) (pv 0) (pe_op op_rep (pe_slice sl_list (pv 0) po_none (po_some pe_int)) (pe_callB call_len_seq (by rfl) T.f_len PySem.boot_len (pa_cons (pv 0) pa_nil))) (nomark _)) (pe_ix ix_list (pv 0) pe_int (fun _ _ => rfl)) pe_non))))), ?_⟩
  refine ⟨_, rfl, _, _, rfl, len_lst hA, rfl, _, rfl, ?_⟩
  refine ⟨_, rfl, _, _, rfl, len_lst hA, rfl, _, rfl, ?_⟩
  refine ⟨_, rfl, _, rfl, 1, rfl, a, _, rfl, .of hA, fun u nu => ?_⟩
  have e1 : cutV (vns [x, y]) none (some 1) = vns [x] := rfl
  rw [e1]
  have s1 := same_new (o := .lst (vns [x])) nu
  refine ⟨_, rfl, _, _, rfl, len_lst (s1 _ _ hA), u, _, _, rfl, rfl, upd_same, by show -(2 ^ 63) ≤ (2 : Int); decide, by show (2 : Int) < 2 ^ 63; decide, ?_, fun z nz => ?_⟩
  · show 1 * 2 ≤ sizeLine
    decide
  have s2 := same_upd (o := .lst (vns [x, x])) s1 nz
  have e2 : (List.replicate ((vns [x, y]).length : Int).toNat (vns [x])).flatten = vns [x, x] := rfl
  rw [e2]
  refine ⟨_, _, dp_lst (s2 _ _ hA), dp_lst upd_same, shaped_lst _, shaped_lst _, _, rfl, ?_⟩
  rw [eqv_lst]
  by_cases e : x = y
  · subst e
    rw [decide_eq_true rfl]
    have := h _ s2
    rw [if_pos rfl] at this
    exact ⟨_, rfl, _, _, _, _, rfl, rfl, .of (s2 _ _ hA), atI_nat (j := 0) rfl, this⟩
  · rw [decide_eq_false (fun z => e (by injection z with _ z; injection z with z; exact z.symm))]
    have := h _ s2
    rw [if_neg e] at this
    exact this
end
end SL

/-! text OkMach2 -/
set_option Elab.async false
set_option linter.all false
set_option maxRecDepth 100000
set_option maxHeartbeats 4000000
namespace SL
open PySem PySem.Spec L2
section
variable {P : Program} {w : World} {K : PySem.W.Frag} {mg : Str → Option Value} {base : Heap}
section
variable {X : Cx} {o : Expr} {f : Str} {pos : Pos} {ta : TE}
theorem pe_fldK (h : X.K = K) (he : PE X o ta) (hb : attributeBase o f X.env (eval o X.env) = eval o X.env) : PE X (.Attribute o f pos) (tFld K ta f) := h ▸ pe_fld he hb
end
/-! Stand -/
def sp_Stand_init (K : PySem.W.Frag) : Sp := fun vs H Q _ => ∃ (p dx wd st at_ ct : Nat) (ws ss : List Nat), vs = [.ref p, vn at_, .ref wd, .ref st, vn ct] ∧ (H p = some (.ins (ga K "Stand") dx []) ∧ H wd = some (.lst (vns ws)) ∧ H st = some (.lst (vns ss))) ∧
  ∀ H', StandAt K H' p ⟨at_, ws, ss, ct, false⟩ → (∀ b o, b ≠ p → H b = some o → H' b = some o) → Q .non H'
-- slots: 0:self 1:at 2:words 3:store 4:count   level 1
abbrev n_Stand_init : List Str := ["self", "at", "words", "store", "count"]
theorem sc_Stand_init : FnScope n_Stand_init ["self", "at", "words", "store", "count"] SL.d_Stand_init.scope := ⟨rfl, rfl, rfl, by decide +kernel, rfl, by decide +kernel, by decide +kernel⟩
theorem ok_Stand_init (T : Tx K mg w) : KCal P w K mg base "Stand" (ga K "Stand") 1 ["self", "at", "words", "store", "count"] (sp_Stand_init K) := by
  refine KCal.of T.D_Stand_init T.g_Stand T.k_Stand sc_Stand_init (fun _ _ _ _ _ _ us hl => match us, hl with | [_, _, _, _, _], _ => rfl) (fun vs H Q E h => ?_) fun f cdv A outer s H vs Q E hr h => ?_
  · obtain ⟨p, dx, wd, st, at_, ct, ws, ss, rfl, _⟩ := h
    rfl
  obtain ⟨p, dx, wd, st, at_, ct, ws, ss, rfl, u, h⟩ := h
  refine ⟨_, (pss_cons (ps_fld (pv 0) (pv 1) rfl)
    (pss_cons (ps_fld (pv 0) (pe_callTy call_tuple_of (by rfl) T.f_tuple (by decide +kernel) (pa_cons (pv 2) pa_nil)) rfl)
    (pss_cons (ps_fld (pv 0) (pe_callTy call_tuple_of (by rfl) T.f_tuple (by decide +kernel) (pa_cons (pv 3) pa_nil)) rfl)
    (pss_cons (ps_fld (pv 0) (pv 4) rfl)
    (pss_one (ps_fld (pv 0) pe_bl rfl)))))), ?_⟩
  obtain ⟨hp, hw, hs⟩ := u
  have nw : wd ≠ p := ne_of hw hp (by intro z; cases z)
  have ns : st ≠ p := ne_of hs hp (by intro z; cases z)
  refine ⟨_, rfl, _, rfl, p, _, dx, _, rfl, hp, T.c_Stand, T.n_Stand_at, by show 0 < 1000; decide, ?_⟩
  refine ⟨_, rfl, wd, _, rfl, .inl ⟨.of (by rw [upd_ne nw]; exact hw), fun z nz => ⟨_, rfl, p, _, dx, _, rfl, same_new nz _ _ upd_same, T.c_Stand, T.n_Stand_words, by show 1 < 1000; decide, ?_⟩⟩⟩
  have nzp : z ≠ p := (ne_of_none upd_same nz).symm
  have hs2 : (upd (upd (upd H p (.ins (ga K "Stand") dx (putF "at" (vn at_) []))) z (.tup (vns ws))) p (.ins (ga K "Stand") dx (putF "words" (.ref z) (putF "at" (vn at_) [])))) st = some (.lst (vns ss)) := by
    rw [upd_ne ns]
    refine same_new nz _ _ ?_
    rw [upd_ne ns]
    exact hs
  refine ⟨_, rfl, st, _, rfl, .inl ⟨.of hs2, fun y ny => ⟨_, rfl, p, _, dx, _, rfl, same_new ny _ _ upd_same, T.c_Stand, T.n_Stand_store, by show 2 < 1000; decide, ?_⟩⟩⟩
  have nyp : y ≠ p := (ne_of_none upd_same ny).symm
  refine ⟨_, rfl, _, rfl, p, _, dx, _, rfl, upd_same, T.c_Stand, T.n_Stand_count, by show 3 < 1000; decide, ?_⟩
  refine ⟨_, rfl, p, _, dx, _, rfl, upd_same, T.c_Stand, T.n_Stand_used, by show 4 < 1000; decide, ?_⟩
  have nyz : y ≠ z := by
    intro e
    rw [e, upd_ne nzp, upd_same] at ny
    cases ny
  refine h _ ⟨dx, z, y, upd_same, ?_, ?_⟩ fun b o hb e => ?_
  · rw [upd_ne nzp, upd_ne nzp, upd_ne nzp, upd_ne nyz.symm, upd_ne nzp, upd_same]
  · rw [upd_ne nyp, upd_ne nyp, upd_ne nyp, upd_same]
  · rw [upd_ne hb, upd_ne hb, upd_ne hb]
    refine same_new ny _ _ ?_
    rw [upd_ne hb]
    refine same_new nz _ _ ?_
    rw [upd_ne hb]
    exact e
/-! what a machine keeps -/
structure StOk (p : Prog) (said : Nat) (s : Stand) : Prop where
  at_ : s.at_ < p.length
  wl : s.words.length = 32
  wb : ∀ x ∈ s.words, x < 16
  sl : s.store.length = 16
  sb : ∀ x ∈ s.store, x < 16
  cnt : s.count ≤ said
structure MS.Ok (p : Prog) (m : MS) : Prop where
  at_ : m.at_ < p.length
  wl : m.words.length = 32
  wb : ∀ x ∈ m.words, x < 16
  sl : m.store.length = 16
  sb : ∀ x ∈ m.store, x < 16
  cnt : m.count ≤ m.said.length
  few : m.stands.length ≤ 2
  sts : ∀ s ∈ m.stands, StOk p m.said.length s
/-! keep -/
def sp_Machine_keep (K : PySem.W.Frag) : Sp := fun vs H Q _ => ∃ (p dx r g wd st sa sn : Addr) (as : List Addr) (B : Hp) (prog : Prog) (given : List Nat) (m : MS), vs = [.ref p] ∧ (MAtX K B H p dx r g wd st sa sn as prog given m ∧ m.stands.length ≤ 2) ∧
  ∀ H', MAt K B H' p prog given m.keep → SameT H H' → Q .non H'
theorem cut_to1 (xs : List V) : cutV xs none (some 1) = xs.take 1 := by
  unfold cutV
  rw [HT.sIx_none, show HT.sIx xs.length xs.length (some 1) = min 1 xs.length from HT.sIx_nat _ _ 1]
  cases xs with
  | nil => rfl
  | cons x r => simp
theorem ins_free {a : Addr} {H : Hp} {as : List Addr} {ls : List Stand} (h : Paired (StandAt K H) as ls) (hn : H a = none) : a ∉ as := by
  intro hm
  obtain ⟨i, hi⟩ := List.getElem?_of_mem hm
  induction h generalizing i with
  | nil => cases hm
  | cons z _ ih =>
    cases i with
    | zero =>
      simp at hi
      obtain ⟨_, _, _, h1, _⟩ := z
      rw [hi, hn] at h1
      cases h1
    | succ i =>
      rw [List.getElem?_cons_succ] at hi
      exact ih (List.mem_of_getElem? hi) i hi
section
variable {r g wd st sa sn z : Addr} {m : MS}
theorem mp_at (n : Nat) : putF ("at" : Str) (vn n) (mF r g wd st sa sn m) = mF r g wd st sa sn { m with at_ := n } := rfl
theorem mp_at1 : putF ("at" : Str) (V.int ((m.at_ : Int) + 1)) (mF r g wd st sa sn m) = mF r g wd st sa sn { m with at_ := m.at_ + 1 } := rfl
theorem mp_count (n : Nat) : putF ("count" : Str) (vn n) (mF r g wd st sa sn m) = mF r g wd st sa sn { m with count := n } := rfl
theorem mp_count1 : putF ("count" : Str) (V.int ((m.count : Int) + 1)) (mF r g wd st sa sn m) = mF r g wd st sa sn { m with count := m.count + 1 } := rfl
theorem mp_done1 : putF ("done" : Str) (V.int ((m.done : Int) + 1)) (mF r g wd st sa sn m) = mF r g wd st sa sn { m with done := m.done + 1 } := rfl
theorem mp_slip : putF ("over" : Str) (.str "slip") (mF r g wd st sa sn m) = mF r g wd st sa sn { m with over := some .slip } := rfl
theorem mp_fin : putF ("over" : Str) (.str "end") (mF r g wd st sa sn m) = mF r g wd st sa sn { m with over := some .fin } := rfl
theorem mp_words : putF ("words" : Str) (.ref z) (mF r g wd st sa sn m) = mF r g z st sa sn m := rfl
theorem mp_store : putF ("store" : Str) (.ref z) (mF r g wd st sa sn m) = mF r g wd z sa sn m := rfl
theorem mp_stands : putF ("stands" : Str) (.ref z) (mF r g wd st sa sn m) = mF r g wd st sa z m := rfl
theorem mF_stands {ls : List Stand} : mF r g wd st sa sn { m with stands := ls } = mF r g wd st sa sn m := rfl
end
-- slots: 0:self   level 3
abbrev n_Machine_keep : List Str := ["self"]
theorem sc_Machine_keep : FnScope n_Machine_keep ["self"] SL.d_Machine_keep.scope := ⟨rfl, rfl, rfl, by decide +kernel, rfl, by decide +kernel, by decide +kernel⟩
theorem ok_Machine_keep (T : Tx K mg w) : MCal P w K mg base (ga K "Machine") "keep" 3 ["self"] (sp_Machine_keep K) := by
  refine MCal.of T.D_Machine_keep T.c_Machine T.m_Machine_keep sc_Machine_keep (fun _ _ _ _ _ _ us hl => match us, hl with | [_], _ => rfl) (fun vs H Q E h => ?_) fun f cdv A outer s H vs Q E hr h => ?_
  · obtain ⟨p, dx, r, g, wd, st, sa, sn, as, B, prog, given, m, rfl, _⟩ := h
    rfl
  obtain ⟨p, dx, r, g, wd, st, sa, sn, as, B, prog, given, m, rfl, u, h⟩ := h
  refine ⟨_, (pss_cons (ps_fldaug (pv 0) pe_int in_add)
    (pss_one (ps_fld (pv 0) (pe_op op_cat (pe_lst (pa_cons (pe_mk (ok_Stand_init T) (hr.mono (by decide)) (by rfl) (pa_cons (pe_fld (pv 0) rfl) (pa_cons (pe_fld (pv 0) rfl) (pa_cons (pe_fld (pv 0) rfl) (pa_cons (pe_fld (pv 0) rfl) pa_nil))))) pa_nil)) (pe_slice sl_list (pe_fld (pv 0) rfl) po_none (po_some (pe_op op_sub (pe_ci (by rfl) T.i_MOST_KEPT) pe_int)))) rfl))), ?_⟩
  obtain ⟨v, few⟩ := u
  refine ⟨_, rfl, p, _, dx, _, _, rfl, v.ob, T.c_Machine, T.n_Machine_at, rfl, _, _, rfl, rfl, dx, _, v.ob, by show 10 < 1000; decide, ?_⟩
  obtain ⟨v1, t1⟩ := v.fld (m' := { m with at_ := m.at_ + 1 }) rfl rfl rfl rfl
  rw [mp_at1]
  generalize upd H p (.ins (ga K "Machine") dx (mF r g wd st sa sn { m with at_ := m.at_ + 1 })) = H1 at *
  refine ⟨_, rfl, p, _, dx, _, _, rfl, v1.ob, T.c_Machine, T.n_Machine_at, rfl, _, rfl, p, _, dx, _, _, rfl, v1.ob, T.c_Machine, T.n_Machine_words, rfl, _, rfl, p, _, dx, _, _, rfl, v1.ob, T.c_Machine, T.n_Machine_store, rfl, _, rfl, p, _, dx, _, _, rfl, v1.ob, T.c_Machine, T.n_Machine_count, rfl, fun x dxs nx ndx nex => ?_⟩
  have s2 : Same H1 (upd (upd H1 dxs (.own x)) x (.ins (ga K "Stand") dxs [])) := (same_new ndx).trans (same_new (by rw [upd_ne nex.symm]; exact nx))
  refine ⟨x, dxs, wd, st, m.at_ + 1, m.count, m.words, m.store, rfl, ⟨upd_same, s2 _ _ v1.wds, s2 _ _ v1.sto⟩, fun H2 hst hkeep => ⟨rfl, by show 1 ≤ sizeLine; decide, fun l1 nl1 => ?_⟩⟩
  have s3 : Same H1 H2 := fun b o e => hkeep b o (ne_of_none e nx) (s2 _ _ e)
  have s4 := s3.trans (same_new (o := .lst [V.ref x]) nl1)
  have v4 := v1.ext s4
  refine ⟨_, rfl, p, _, dx, _, _, rfl, v4.ob, T.c_Machine, T.n_Machine_stands, rfl, _, _, rfl, rfl, _, rfl, sn, _, rfl, .of v4.sns, fun l2 nl2 => ?_⟩
  have e5 : cutV (as.map V.ref) none (some ((2 : Int) - 1)) = (as.map V.ref).take 1 := cut_to1 _
  rw [e5]
  have s5 := same_new (o := .lst ((as.map V.ref).take 1)) nl2
  have h1 := s5 _ _ (upd_same (H := H2) (a := l1) (o := .lst [V.ref x]))
  refine ⟨l1, l2, _, _, rfl, rfl, h1, upd_same, ?_, fun l3 nl3 => ?_⟩
  · rw [List.length_take, sizeLine_eq]
    show 1 + min 1 _ ≤ _
    omega
  have v5 := v4.ext s5
  have e6 : [V.ref x] ++ (as.map V.ref).take 1 = (x :: as.take 1).map V.ref := by rw [List.map_cons, ← List.map_take]; rfl
  rw [e6]
  have v6 := v5.ext (same_new (o := .lst ((x :: as.take 1).map V.ref)) nl3)
  refine ⟨_, rfl, p, _, dx, _, rfl, v6.ob, T.c_Machine, T.n_Machine_stands, by show 10 < 1000; decide, ?_⟩
  have nxa : x ∉ as := ins_free v1.ss nx
  have nxp : p ≠ x := ne_of_none v1.ob nx
  have s45 : Same H2 (upd (upd H2 l1 (.lst [V.ref x])) l2 (.lst ((as.map V.ref).take 1))) := (same_new nl1).trans s5
  obtain ⟨v7, t7⟩ := v5.newStands (as' := x :: as.take 1) (ls := ⟨m.at_ + 1, m.words, m.store, m.count, false⟩ :: m.stands.take 1) nl3 (.cons (hst.same s45) (by
      have h5 := v5.ss
      have : ∀ {as : List Addr} {ls : List Stand} {H : Hp}, Paired (StandAt K H) as ls → Paired (StandAt K H) (as.take 1) (ls.take 1) := by
        intro as ls H r
        cases r with
        | nil => exact .nil
        | cons r t => exact .cons r .nil
      exact this h5)) (List.nodup_cons.mpr ⟨fun e => nxa (List.mem_of_mem_take e), (List.take_sublist 1 as).nodup v.nd⟩) (fun b hb => by
      rcases List.mem_cons.mp hb with e | e
      · rw [e]
        exact v1.off.same.free nx
      · exact v1.off.free b (by simp [List.mem_of_mem_take e])) (fun e => by
      rcases List.mem_cons.mp e with e | e
      · exact nxp e
      · exact v.np (List.mem_of_mem_take e))
  rw [mp_stands]
  exact h _ v7.at (t1.trans ((SameT.of (s4.trans s5)).trans t7))
end
end SL

/-! text OkMach3 -/
set_option Elab.async false
set_option linter.all false
set_option maxRecDepth 100000
set_option maxHeartbeats 4000000
namespace SL
open PySem PySem.Spec L2
section
variable {P : Program} {w : World} {K : PySem.W.Frag} {mg : Str → Option Value} {base : Heap}
/-! stumble -/
def freshL (ls : List Stand) : List Nat := (ls.zipIdx.filter fun q => !q.1.used).map (·.2)
theorem fresh_head : ∀ (ls : List Stand) (k : Nat), ((ls.zipIdx k).filter fun q => !q.1.used).map (·.2) = [] ∧ freshAt ls = none ∨ ∃ j r, ((ls.zipIdx k).filter fun q => !q.1.used).map (·.2) = (k + j) :: r ∧ freshAt ls = some j ∧ j < ls.length
  | [], k => .inl ⟨rfl, rfl⟩
  | s :: r, k => by
    rw [List.zipIdx_cons, List.filter_cons]
    cases e : s.used with
    | false => 
      refine .inr ⟨0, ((r.zipIdx (k + 1)).filter fun q => !q.1.used).map (·.2), by simp [e], ?_, by simp⟩
      unfold freshAt
      rw [e]
      rfl
    | true =>
      have hf : freshAt (s :: r) = (freshAt r).map (· + 1) := by
        conv => lhs; unfold freshAt
        rw [e]
        rfl
      rcases fresh_head r (k + 1) with ⟨h1, h2⟩ | ⟨j, l, h1, h2, h3⟩
      · refine .inl ⟨by simpa [e] using h1, ?_⟩
        rw [hf, h2]
        rfl
      · refine .inr ⟨j + 1, l, ?_, ?_, by simp only [List.length_cons]; omega⟩
        · rw [show k + (j + 1) = k + 1 + j by omega]
          simpa [e] using h1
        · rw [hf, h2]
          rfl
theorem paired_drop_m {α β : Type} {F : α → β → Prop} : ∀ {l₁ : List α} {l₂ : List β} (n : Nat), Paired F l₁ l₂ → Paired F (l₁.drop n) (l₂.drop n)
  | _, _, 0, h => h
  | _, _, n + 1, .nil => .nil
  | _, _, n + 1, .cons r t => paired_drop_m n t
def sp_Machine_stumble (K : PySem.W.Frag) : Sp := fun vs H Q _ => ∃ (p dx r g wd st sa sn : Addr) (as : List Addr) (B : Hp) (prog : Prog) (given : List Nat) (m : MS), vs = [.ref p] ∧ (MAtX K B H p dx r g wd st sa sn as prog given m ∧ m.stands.length ≤ 2) ∧
  ∀ H', MAt K B H' p prog given m.stumble → SameT H H' → Q .non H'
theorem drop_one {α : Type} {l : List α} {j : Nat} (h : j < l.length) : ∃ a r, l.drop j = a :: r := ⟨l[j], l.drop (j + 1), List.drop_eq_getElem_cons h⟩
theorem cut_from {j : Nat} {xs : List V} (h : j ≤ xs.length) : cutV xs (some (j : Int)) none = xs.drop j := by
  unfold cutV
  rw [HT.sIx_nat, HT.sIx_none, Nat.min_eq_left h, List.take_of_length_le (by rw [List.length_drop]; omega)]
-- slots: 0:self 1:fresh 2:stand 3:number   level 1
abbrev n_Machine_stumble : List Str := ["self", "fresh", "stand", "number"]
theorem sc_Machine_stumble : FnScope n_Machine_stumble ["self"] SL.d_Machine_stumble.scope := ⟨rfl, rfl, rfl, by decide +kernel, rfl, by decide +kernel, by decide +kernel⟩
theorem ok_Machine_stumble (T : Tx K mg w) : MCal P w K mg base (ga K "Machine") "stumble" 1 ["self"] (sp_Machine_stumble K) := by
  refine MCal.of T.D_Machine_stumble T.c_Machine T.m_Machine_stumble sc_Machine_stumble (fun _ _ _ _ _ _ us hl => match us, hl with | [_], _ => rfl) (fun vs H Q E h => ?_) fun f cdv A outer s H vs Q E hr h => ?_
  · obtain ⟨p, dx, r, g, wd, st, sa, sn, as, B, prog, given, m, rfl, _⟩ := h
    rfl
  obtain ⟨p, dx, r, g, wd, st, sa, sn, as, B, prog, given, m, rfl, u, h⟩ := h
  refine ⟨_, (pss_cons (ps_setLc (i := 1)  (own := [("number", 3), ("stand", 2)]) rfl sc_Machine_stumble.nd rfl rfl (sw_true rfl rfl rfl (by decide +kernel)) (pi_enum (by rfl) T.f_enumerate (pa_cons (pe_fld (pv 0) rfl) pa_nil)) (blkOk_by (own := [("number", 3), ("stand", 2)]) (N := n_Machine_stumble) (sc := SL.d_Machine_stumble.scope) (by decide +kernel)) (fun _ _ _ _ _ => (pg_tupK (n := 2) rfl rfl (pgs_cons (pg_name (i := 3) sc_Machine_stumble.nd rfl (Or.inl rfl)) (pgs_cons (pg_name (i := 2) sc_Machine_stumble.nd rfl (Or.inl rfl)) pgs_nil)))) (fun _ _ _ _ _ => (pts_one (pt_not (pt_val (pe_fldK rfl (pv 2) rfl))))) (fun _ _ _ _ _ => (pv 3)))
    (pss_cons (ps_if (pt_cmpR (op_eqD hr.units) (pv 1) (pe_lst pa_nil) (nomark _)) (pss_cons (ps_fld (pv 0) pe_str rfl)
    (pss_one (ps_retN))) pss_nil)
    (pss_cons (ps_fld (pv 0) (pe_slice sl_list (pe_fld (pv 0) rfl) (po_some (pe_ix ix_list (pv 1) pe_int (fun _ _ => rfl))) po_none) rfl)
    (pss_cons (ps_set (i := 2) sc_Machine_stumble.nd rfl (Or.inl rfl) (pe_ix ix_list (pe_fld (pv 0) rfl) pe_int (fun _ _ => rfl)))
    (pss_cons (ps_fld (pv 2) pe_bl rfl)
    (pss_cons (ps_fld (pv 0) (pe_fld (pv 2) rfl) rfl)
    (pss_cons (ps_fld (pv 0) (pe_callTy call_list_of (by rfl) T.f_list (by decide +kernel) (pa_cons (pe_fld (pv 2) rfl) pa_nil)) rfl)
    (pss_cons (ps_fld (pv 0) (pe_callTy call_list_of (by rfl) T.f_list (by decide +kernel) (pa_cons (pe_fld (pv 2) rfl) pa_nil)) rfl)
    (pss_one (ps_fld (pv 0) (pe_fld (pv 2) rfl) rfl)))))))))), ?_⟩
  obtain ⟨v, few⟩ := u
  have hal : as.length = m.stands.length := paired_len v.ss
  refine ⟨_, rfl, p, _, dx, _, _, rfl, v.ob, T.c_Machine, T.n_Machine_stands, rfl, sn, _, rfl, .of v.sns, fun D nD => ?_⟩
  refine lc_pure walk_enum m.stands.zipIdx (fun q => if (!q.1.used) = true then [vn q.2] else []) (by rw [List.length_zipIdx, List.length_map, hal]) (by rw [List.length_zipIdx]; omega) (fun q => by cases q.1.used <;> simp) nD (fun H2 s2 => .of (s2 _ _ v.sns)) same_ypair ?_ ?_
  · rintro i ⟨s, j⟩ z H2 H3 Kq N hi s2 ⟨t, x1, x2, rfl, nt, rfl, h1, h2⟩ hK hN
    rw [List.getElem?_zipIdx] at hi
    cases e : m.stands[i]? with
    | none => rw [e] at hi; cases hi
    | some s' =>
      rw [e] at hi
      cases hi
      obtain ⟨a, ha, dxs, wa, ta, k1, k2, k3⟩ := paired_get v.ss e
      have h2 : (as.map V.ref)[i]? = some x2 := h2
      rw [List.getElem?_map, ha] at h2
      cases h1
      cases h2
      have k1' := (s2.trans (same_new (o := .tup [.int (i : Nat), .ref a]) nt)) _ _ k1
      refine g2_go upd_same ⟨rfl, _, rfl, a, _, dxs, _, _, rfl, k1', T.c_Stand, T.n_Stand_used, rfl, s.used, rfl, ?_⟩
      cases q : s.used with
      | true => exact hN _ (Same.refl _) (by simp [q])
      | false => exact ⟨_, rfl, hK _ _ (Same.refl _) (by simp [q]; rfl)⟩
  · intro H2 s2 hD
    have hD : H2 D = some (.lst (vns (freshL m.stands))) := by
      rw [hD, flat_if (fun q : Stand × Nat => !q.1.used) (fun q => vn q.2)]
      unfold freshL vns
      rw [List.map_map]
      rfl
    have v2 := v.ext s2
    refine ⟨_, rfl, z0, fun e ne => ⟨_, _, dp_lst (same_new ne _ _ hD), dp_nilL upd_same, shaped_lst _, shaped_lst [], _, rfl, ?_⟩⟩
    rw [eqv_lst]
    have s3 := same_new (o := .lst []) ne
    have v3 := v2.ext s3
    have hD3 := s3 _ _ hD
    have t3 := SameT.of (s2.trans s3)
    generalize upd H2 e (.lst []) = H3 at *
    rcases fresh_head m.stands 0 with ⟨f1, f2⟩ | ⟨j, l, f1, f2, f3⟩
    · have f1 : freshL m.stands = [] := f1
      rw [decide_eq_true f1]
      obtain ⟨v4, t4⟩ := v3.fld (m' := { m with over := some .slip }) rfl rfl rfl rfl
      refine ⟨_, rfl, p, _, dx, _, rfl, v3.ob, T.c_Machine, T.n_Machine_over, by show 10 < 1000; decide, ?_⟩
      rw [mp_slip]
      refine h _ ?_ (t3.trans t4)
      unfold MS.stumble
      rw [f2]
      exact v4.at
    · have f1 : freshL m.stands = (0 + j) :: l := f1
      rw [Nat.zero_add] at f1
      rw [decide_eq_false (by rw [f1]; simp)]
      rw [f1] at hD3
      -- self.stands = self.stands[fresh[0]:]
      obtain ⟨s, rr, hs⟩ := drop_one f3
      obtain ⟨a, ar, ha⟩ := drop_one (l := as) (j := j) (by omega)
      refine ⟨_, rfl, p, _, dx, _, _, rfl, v3.ob, T.c_Machine, T.n_Machine_stands, rfl, _, rfl, _, _, _, _, rfl, rfl, .of hD3, atI_nat (j := 0) rfl, _, rfl, sn, _, rfl, .of v3.sns, fun l2 nl2 => ?_⟩
      rw [cut_from (by rw [List.length_map]; omega), ← List.map_drop, ha]
      have hss : Paired (StandAt K H3) (a :: ar) (s :: rr) := by
        have := paired_drop_m j v3.ss
        rw [ha, hs] at this
        exact this
      have v4' := v3.ext (same_new (o := .lst ((a :: ar).map V.ref)) nl2)
      refine ⟨_, rfl, p, _, dx, _, rfl, v4'.ob, T.c_Machine, T.n_Machine_stands, by show 10 < 1000; decide, ?_⟩
      rw [mp_stands]
      have hsub : (a :: ar).Sublist as := by rw [← ha]; exact List.drop_sublist j as
      obtain ⟨v4, t4⟩ := v3.newStands (as' := a :: ar) (ls := s :: rr) nl2 hss (hsub.nodup v.nd) (fun b hb => v3.off.free b (by simp only [List.cons_append, List.mem_cons, List.nil_append]; exact .inr (.inr (.inr (.inr (.inr (hsub.subset hb))))))) (fun e => v.np (hsub.subset e))
      generalize upd (upd H3 l2 (.lst ((a :: ar).map V.ref))) p (.ins (ga K "Machine") dx (mF r g wd st sa l2 m)) = H4 at *
      -- stand = self.stands[0]; stand.used = True
      refine ⟨_, rfl, p, _, dx, _, _, rfl, v4.ob, T.c_Machine, T.n_Machine_stands, rfl, _, _, _, _, rfl, rfl, .of v4.sns, atI_nat (j := 0) rfl, ?_⟩
      have hA4 := v4.ss
      cases hA4 with
      | cons hA4 hR4 =>
        obtain ⟨dxs, wa, ta, k1, k2, k3⟩ := hA4
        refine ⟨_, rfl, a, _, dxs, _, rfl, k1, T.c_Stand, T.n_Stand_used, by show 5 < 1000; decide, ?_⟩
        obtain ⟨v5, t5⟩ := v4.useIt rfl k1 k2 k3
        have eu : putF ("used" : Str) (.bl true) (stF s wa ta) = stF { s with used := true } wa ta := rfl
        rw [eu]
        have k1' : (upd H4 a (.ins (ga K "Stand") dxs (stF { s with used := true } wa ta))) a = some (.ins (ga K "Stand") dxs (stF { s with used := true } wa ta)) := upd_same
        have k2' := t5 _ _ k2
        have k3' := t5 _ _ k3
        generalize upd H4 a (.ins (ga K "Stand") dxs (stF { s with used := true } wa ta)) = H5 at *
        have nap : a ≠ p := fun e => v5.np (by rw [← e]; exact List.mem_cons_self)
        -- self.at = stand.at
        refine ⟨_, rfl, a, _, dxs, _, _, rfl, k1', T.c_Stand, T.n_Stand_at, rfl, _, rfl, p, _, dx, _, rfl, v5.ob, T.c_Machine, T.n_Machine_at, by show 10 < 1000; decide, ?_⟩
        rw [mp_at]
        obtain ⟨v6, t6⟩ := v5.fld (m' := { m with stands := { s with used := true } :: rr, at_ := s.at_ }) rfl rfl rfl rfl
        have k1' : (upd H5 p (.ins (ga K "Machine") dx (mF r g wd st sa l2 { m with stands := { s with used := true } :: rr, at_ := s.at_ }))) a = some (.ins (ga K "Stand") dxs (stF { s with used := true } wa ta)) := by rw [upd_ne nap]; exact k1'
        have k2' := t6 _ _ k2'
        have k3' := t6 _ _ k3'
        show (_ : Prop)
        generalize hH6 : upd H5 p (.ins (ga K "Machine") dx (mF r g wd st sa l2 { m with stands := { s with used := true } :: rr, at_ := s.at_ })) = H6 at *
        -- self.words = list(stand.words)
        refine ⟨_, rfl, a, _, dxs, _, _, rfl, k1', T.c_Stand, T.n_Stand_words, rfl, wa, _, rfl, .inr (.of k2'), fun z1 nz1 => ?_⟩
        have v6' := v6.ext (same_new (o := .lst (vns s.words)) nz1)
        refine ⟨_, rfl, p, _, dx, _, rfl, v6'.ob, T.c_Machine, T.n_Machine_words, by show 10 < 1000; decide, ?_⟩
        rw [mp_words]
        obtain ⟨v7, t7⟩ := v6.newWords (ws := s.words) nz1
        have k1' := same_new (o := .lst (vns s.words)) nz1 _ _ k1'
        have k3' := t7 _ _ k3'
        have k1' : (upd (upd H6 z1 (.lst (vns s.words))) p (.ins (ga K "Machine") dx (mF r g z1 st sa l2 { m with stands := { s with used := true } :: rr, at_ := s.at_ }))) a = some (.ins (ga K "Stand") dxs (stF { s with used := true } wa ta)) := by rw [upd_ne nap]; exact k1'
        generalize hH7 : upd (upd H6 z1 (.lst (vns s.words))) p (.ins (ga K "Machine") dx (mF r g z1 st sa l2 { m with stands := { s with used := true } :: rr, at_ := s.at_ })) = H7 at *
        -- self.store = list(stand.store)
        refine ⟨_, rfl, a, _, dxs, _, _, rfl, k1', T.c_Stand, T.n_Stand_store, rfl, ta, _, rfl, .inr (.of k3'), fun z2 nz2 => ?_⟩
        have v7' := v7.ext (same_new (o := .lst (vns s.store)) nz2)
        refine ⟨_, rfl, p, _, dx, _, rfl, v7'.ob, T.c_Machine, T.n_Machine_store, by show 10 < 1000; decide, ?_⟩
        rw [mp_store]
        obtain ⟨v8, t8⟩ := v7.newStore (ws := s.store) nz2
        have k1' := same_new (o := .lst (vns s.store)) nz2 _ _ k1'
        have k1' : (upd (upd H7 z2 (.lst (vns s.store))) p (.ins (ga K "Machine") dx (mF r g z1 z2 sa l2 { m with stands := { s with used := true } :: rr, at_ := s.at_, words := s.words }))) a = some (.ins (ga K "Stand") dxs (stF { s with used := true } wa ta)) := by rw [upd_ne nap]; exact k1'
        -- self.count = stand.count
        refine ⟨_, rfl, a, _, dxs, _, _, rfl, k1', T.c_Stand, T.n_Stand_count, rfl, _, rfl, p, _, dx, _, rfl, v8.ob, T.c_Machine, T.n_Machine_count, by show 10 < 1000; decide, ?_⟩
        rw [mp_count]
        obtain ⟨v9, t9⟩ := v8.fld (m' := { m with stands := { s with used := true } :: rr, at_ := s.at_, words := s.words, store := s.store, count := s.count }) rfl rfl rfl rfl
        have ems : m.stumble = { m with stands := { s with used := true } :: rr, at_ := s.at_, words := s.words, store := s.store, count := s.count } := by
          unfold MS.stumble
          rw [f2]
          show (match m.stands.drop j with | [] => m | s :: r => { m with stands := { s with used := true } :: r, at_ := s.at_, words := s.words, store := s.store, count := s.count }) = _
          rw [hs]
        rw [ems] at h
        exact h _ v9.at (((((t3.trans t4).trans t5).trans t6).trans t7).trans (t8.trans t9))
end
end SL

/-! text OkMach4 -/
set_option Elab.async false
set_option linter.all false
set_option maxRecDepth 100000
set_option maxHeartbeats 4000000
namespace SL
open PySem PySem.Spec L2
section
variable {P : Program} {w : World} {K : PySem.W.Frag} {mg : Str → Option Value} {base : Heap}
/-! tell -/
def sp_Machine_tell (K : PySem.W.Frag) : Sp := fun vs H Q _ => ∃ (p dx r g wd st sa sn : Addr) (as : List Addr) (B : Hp) (prog : Prog) (given : List Nat) (m : MS) (x : Nat), vs = [.ref p, vn x] ∧ (MAtX K B H p dx r g wd st sa sn as prog given m ∧ m.stands.length ≤ 2 ∧ m.said.length ≤ 900 ∧ m.count ≤ m.said.length) ∧
  ∀ H', MAt K B H' p prog given (m.tell x) → SameT H H' → Q .non H'
-- slots: 0:self 1:word   level 2
abbrev n_Machine_tell : List Str := ["self", "word"]
theorem sc_Machine_tell : FnScope n_Machine_tell ["self", "word"] SL.d_Machine_tell.scope := ⟨rfl, rfl, rfl, by decide +kernel, rfl, by decide +kernel, by decide +kernel⟩
theorem ok_Machine_tell (T : Tx K mg w) : MCal P w K mg base (ga K "Machine") "tell" 2 ["self", "word"] (sp_Machine_tell K) := by
  refine MCal.of T.D_Machine_tell T.c_Machine T.m_Machine_tell sc_Machine_tell (fun _ _ _ _ _ _ us hl => match us, hl with | [_, _], _ => rfl) (fun vs H Q E h => ?_) fun f cdv A outer s H vs Q E hr h => ?_
  · obtain ⟨p, dx, r, g, wd, st, sa, sn, as, B, prog, given, m, x, rfl, _⟩ := h
    rfl
  obtain ⟨p, dx, r, g, wd, st, sa, sn, as, B, prog, given, m, x, rfl, u, h⟩ := h
  refine ⟨_, (pss_cons (ps_if (PW.pt (pw_and (pt_cmpR op_lt (pe_fld (pv 0) rfl) (pe_callB call_len_seq (by rfl) T.f_len PySem.boot_len (pa_cons (pe_fld (pv 0) rfl) pa_nil)) (nomark _)) (pw_and1 (pt_cmpR op_ne (pe_ix ix_list (pe_fld (pv 0) rfl) (pe_fld (pv 0) rfl) (fun _ _ => rfl)) (pv 1) (nomark _))))) (pss_cons (ps_expr (pe_mth0 (pv 0) (ok_Machine_stumble T) (hr.mono (by decide))))
    (pss_one (ps_retN))) pss_nil)
    (Evl.pss_cut (ps_if (pt_cmpR op_eq (pe_fld (pv 0) rfl) (pe_callB call_len_seq (by rfl) T.f_len PySem.boot_len (pa_cons (pe_fld (pv 0) rfl) pa_nil)) (nomark _)) (pss_one (ps_expr (pe_bm PySem.F.plainAttrs_list PySem.F.slot_list_append PySem.F.type_list_append mt_append (pe_fld (pv 0) rfl) (pa_cons (pv 1) pa_nil)))) pss_nil)
    (pss_cons (ps_fldaug (pv 0) pe_int in_add)
    (pss_one (ps_fldaug (pv 0) pe_int in_add))))), ?_⟩
  obtain ⟨v, few, hs9, hcs⟩ := u
  have eC : ∀ (a b : Nat), decide (((a : Nat) : Int) < ((b : Nat) : Int)) = decide (a < b) := fun a b => decide_eq_decide.mpr (by omega)
  -- the way ahead, told once
  have ahead : m.count < m.said.length → m.said.getD m.count 0 = x → m.tell x = { m with said := m.said, count := m.count + 1, at_ := m.at_ + 1 } := fun h1 h2 => by
    unfold MS.tell
    rw [if_neg (by rw [h2]; simp), if_neg (by omega)]
  have more : m.count = m.said.length → m.tell x = { m with said := m.said ++ [x], count := m.count + 1, at_ := m.at_ + 1 } := fun h1 => by
    unfold MS.tell
    rw [if_neg (by omega), if_pos h1]
  refine ⟨_, rfl, p, _, dx, _, _, rfl, v.ob, T.c_Machine, T.n_Machine_count, rfl, _, rfl, p, _, dx, _, _, rfl, v.ob, T.c_Machine, T.n_Machine_said, rfl, _, _, rfl, len_lst v.sad, _, _, rfl, rfl, _, rfl, ?_⟩
  rw [len_vns, eC]
  by_cases c1 : m.count < m.said.length
  · rw [decide_eq_true c1]
    refine ⟨_, rfl, p, _, dx, _, _, rfl, v.ob, T.c_Machine, T.n_Machine_said, rfl, _, rfl, p, _, dx, _, _, rfl, v.ob, T.c_Machine, T.n_Machine_count, rfl, _, _, _, _, rfl, rfl, .of v.sad, at_vns c1, _, rfl, rfl, _, rfl, ?_⟩
    rw [vn_dec]
    by_cases c2 : m.said.getD m.count 0 = x
    · rw [decide_eq_true c2]
      refine ⟨fun σ2 H2 => σ2 = [some (.ref p), some (vn x)] ∧ H2 = H, ?_, ?_⟩
      · refine ⟨_, rfl, p, _, dx, _, _, rfl, v.ob, T.c_Machine, T.n_Machine_count, rfl, _, rfl, p, _, dx, _, _, rfl, v.ob, T.c_Machine, T.n_Machine_said, rfl, _, _, rfl, len_lst v.sad, rfl, _, rfl, ?_⟩
        rw [len_vns]
        have : decide (vn m.count = V.int ((m.said.length : Nat) : Int)) = false := decide_eq_false fun z => by
          have z2 : ((m.count : Nat) : Int) = ((m.said.length : Nat) : Int) := V.int.inj z
          omega
        rw [this]
        exact ⟨rfl, rfl⟩
      · rintro _ _ ⟨rfl, rfl⟩
        obtain ⟨v3, t3⟩ := v.fld (m' := { m with said := m.said, count := m.count + 1 }) rfl rfl rfl rfl
        obtain ⟨v4, t4⟩ := v3.fld (m' := { m with said := m.said, count := m.count + 1, at_ := m.at_ + 1 }) rfl rfl rfl rfl
        rw [ahead c1 c2] at h
        exact ⟨_, rfl, p, _, dx, _, _, rfl, v.ob, T.c_Machine, T.n_Machine_count, rfl, _, _, rfl, rfl, dx, _, v.ob, by show 10 < 1000; decide, _, rfl, p, _, dx, _, _, rfl, v3.ob, T.c_Machine, T.n_Machine_at, rfl, _, _, rfl, rfl, dx, _, v3.ob, by show 10 < 1000; decide, h _ v4.at (t3.trans t4)⟩
    · rw [decide_eq_false c2]
      have et : m.tell x = m.stumble := by
        unfold MS.tell
        rw [if_pos ⟨c1, c2⟩]
      rw [et] at h
      exact ⟨_, rfl, p, dx, _, rfl, v.ob, rfl, p, dx, r, g, wd, st, sa, sn, as, B, prog, given, m, rfl, ⟨v, few⟩, fun H2 v2 t2 => h H2 v2 t2⟩
  · rw [decide_eq_false c1]
    have c3 : m.count = m.said.length := by omega
    refine ⟨fun σ2 H2 => σ2 = [some (.ref p), some (vn x)] ∧ MAtX K B H2 p dx r g wd st sa sn as prog given { m with said := m.said ++ [x] } ∧ SameT H H2, ?_, ?_⟩
    · refine ⟨_, rfl, p, _, dx, _, _, rfl, v.ob, T.c_Machine, T.n_Machine_count, rfl, _, rfl, p, _, dx, _, _, rfl, v.ob, T.c_Machine, T.n_Machine_said, rfl, _, _, rfl, len_lst v.sad, rfl, _, rfl, ?_⟩
      have : decide (vn m.count = V.int (((vns m.said).length : Nat) : Int)) = true := decide_eq_true (by rw [len_vns, c3]; rfl)
      show if decide (vn m.count = V.int (((vns m.said).length : Nat) : Int)) = true then _ else _
      rw [this]
      obtain ⟨v2, t2⟩ := v.saidd (ws := m.said ++ [x])
      refine ⟨_, rfl, p, _, dx, _, _, rfl, v.ob, T.c_Machine, T.n_Machine_said, rfl, .inl ⟨rfl, _, .of v.sad⟩, _, rfl, sa, _, _, rfl, rfl, v.sad, by rw [len_vns]; exact small_of (by omega), ?_⟩
      rw [vns_snoc]
      exact ⟨rfl, v2, t2⟩
    · rintro _ H2 ⟨rfl, v2, t2⟩
      obtain ⟨v3, t3⟩ := v2.fld (m' := { m with said := m.said ++ [x], count := m.count + 1 }) rfl rfl rfl rfl
      obtain ⟨v4, t4⟩ := v3.fld (m' := { m with said := m.said ++ [x], count := m.count + 1, at_ := m.at_ + 1 }) rfl rfl rfl rfl
      rw [more c3] at h
      exact ⟨_, rfl, p, _, dx, _, _, rfl, v2.ob, T.c_Machine, T.n_Machine_count, rfl, _, _, rfl, rfl, dx, _, v2.ob, by show 10 < 1000; decide, _, rfl, p, _, dx, _, _, rfl, v3.ob, T.c_Machine, T.n_Machine_at, rfl, _, _, rfl, rfl, dx, _, v3.ob, by show 10 < 1000; decide, h _ v4.at ((t2.trans t3).trans t4)⟩
end
end SL

/-! text OkMach5 -/
set_option Elab.async false
set_option linter.all false
set_option maxRecDepth 100000
set_option maxHeartbeats 4000000
namespace SL
open PySem PySem.Spec L2
section
variable {P : Program} {w : World} {K : PySem.W.Frag} {mg : Str → Option Value} {base : Heap}
/-! made -/
def Row.nm : Row → Nat
  | .set _ _ => 0 | .ask _ _ => 1 | .copy _ _ => 2 | .take _ _ => 3 | .pick _ _ _ _ => 4
  | .bin .add _ _ _ => 5 | .bin .mix _ _ _ => 6 | .bin .less _ _ _ => 7 | .bin .same _ _ _ => 8
  | _ => 9
theorem nm_set (r : Row) : decide (V.str r.word = V.str "set") = decide (r.nm = 0) := by
  cases r with
  | bin o => cases o <;> rfl
  | _ => rfl
theorem nm_ask (r : Row) : decide (V.str r.word = V.str "ask") = decide (r.nm = 1) := by
  cases r with
  | bin o => cases o <;> rfl
  | _ => rfl
theorem nm_copy (r : Row) : decide (V.str r.word = V.str "copy") = decide (r.nm = 2) := by
  cases r with
  | bin o => cases o <;> rfl
  | _ => rfl
theorem nm_take (r : Row) : decide (V.str r.word = V.str "take") = decide (r.nm = 3) := by
  cases r with
  | bin o => cases o <;> rfl
  | _ => rfl
theorem nm_pick (r : Row) : decide (V.str r.word = V.str "pick") = decide (r.nm = 4) := by
  cases r with
  | bin o => cases o <;> rfl
  | _ => rfl
theorem nm_add (r : Row) : decide (V.str r.word = V.str "add") = decide (r.nm = 5) := by
  cases r with
  | bin o => cases o <;> rfl
  | _ => rfl
theorem nm_mix (r : Row) : decide (V.str r.word = V.str "mix") = decide (r.nm = 6) := by
  cases r with
  | bin o => cases o <;> rfl
  | _ => rfl
theorem nm_less (r : Row) : decide (V.str r.word = V.str "less") = decide (r.nm = 7) := by
  cases r with
  | bin o => cases o <;> rfl
  | _ => rfl
theorem nm0 {r : Row} (h : r.nm = 0) : ∃ b n, r = .set b n := by
  cases r with
  | set b n => exact ⟨b, n, rfl⟩
  | bin o => cases o <;> cases h
  | _ => cases h
theorem nm1 {r : Row} (h : r.nm = 1) : ∃ b n, r = .ask b n := by
  cases r with
  | ask b n => exact ⟨b, n, rfl⟩
  | bin o => cases o <;> cases h
  | _ => cases h
theorem nm2 {r : Row} (h : r.nm = 2) : ∃ b n, r = .copy b n := by
  cases r with
  | copy b n => exact ⟨b, n, rfl⟩
  | bin o => cases o <;> cases h
  | _ => cases h
theorem nm3 {r : Row} (h : r.nm = 3) : ∃ b n, r = .take b n := by
  cases r with
  | take b n => exact ⟨b, n, rfl⟩
  | bin o => cases o <;> cases h
  | _ => cases h
theorem nm4 {r : Row} (h : r.nm = 4) : ∃ a b c d, r = .pick a b c d := by
  cases r with
  | pick a b c d => exact ⟨a, b, c, d, rfl⟩
  | bin o => cases o <;> cases h
  | _ => cases h
theorem nm5 {r : Row} (h : r.nm = 5) : ∃ b c d, r = .bin .add b c d := by
  cases r with
  | bin o b c d =>
    cases o with
    | add => exact ⟨b, c, d, rfl⟩
    | _ => cases h
  | _ => cases h
theorem nm6 {r : Row} (h : r.nm = 6) : ∃ b c d, r = .bin .mix b c d := by
  cases r with
  | bin o b c d =>
    cases o with
    | mix => exact ⟨b, c, d, rfl⟩
    | _ => cases h
  | _ => cases h
theorem nm7 {r : Row} (h : r.nm = 7) : ∃ b c d, r = .bin .less b c d := by
  cases r with
  | bin o b c d =>
    cases o with
    | less => exact ⟨b, c, d, rfl⟩
    | _ => cases h
  | _ => cases h
theorem nm8 {r : Row} (hs : r.sets.isSome = true) (h0 : r.nm ≠ 0) (h1 : r.nm ≠ 1) (h2 : r.nm ≠ 2) (h3 : r.nm ≠ 3) (h4 : r.nm ≠ 4) (h5 : r.nm ≠ 5) (h6 : r.nm ≠ 6) (h7 : r.nm ≠ 7) : ∃ b c d, r = .bin .same b c d := by
  cases r with
  | bin o b c d =>
    cases o with
    | same => exact ⟨b, c, d, rfl⟩
    | add => exact absurd rfl h5
    | mix => exact absurd rfl h6
    | less => exact absurd rfl h7
  | set b n => exact absurd rfl h0
  | ask b n => exact absurd rfl h1
  | copy b n => exact absurd rfl h2
  | take b n => exact absurd rfl h3
  | pick a b c d => exact absurd rfl h4
  | _ => cases hs
theorem reads_box {r : Row} {n : Nat} (ok : r.Ok n) : ∀ c ∈ r.reads, c < 32 := by
  cases r <;> simp [Row.reads] <;> simp [Row.Ok] at ok <;> omega
theorem reads_few' (r : Row) : r.reads.length ≤ 4 := by cases r <;> simp [Row.reads]
def sp_Machine_made (K : PySem.W.Frag) : Sp := fun vs H Q _ => ∃ (p dx r g wd st sa sn : Addr) (as : List Addr) (B : Hp) (prog : Prog) (given : List Nat) (m : MS) (b : Addr) (rw : Row) (n : Nat), vs = [.ref p, .ref b] ∧ (MAtX K B H p dx r g wd st sa sn as prog given m ∧ RowAt H b rw ∧ rw.Ok n ∧ m.words.length = 32 ∧ m.store.length = 16 ∧ (∀ x ∈ m.words, x < 16) ∧ given.length = 8 ∧ rw.sets.isSome = true) ∧
  Rv (vn (madeW given m.words m.store rw)) H Q
theorem getD_lt {l : List Nat} {k n : Nat} (hk : k < l.length) (h : ∀ x ∈ l, x < n) : l.getD k 0 < n := by
  rw [List.getD_eq_getElem?_getD, List.getElem?_eq_getElem hk]
  exact h _ (List.getElem_mem hk)
theorem at_map {f : Nat → Nat} {l : List Nat} {i c : Nat} (h : l[i]? = some c) : atI (vns (l.map f)) (i : Int) = some (vn (f c)) := by
  refine atI_nat (get_vns ?_)
  rw [List.getElem?_map, h]
  rfl
-- slots: 0:self 1:row 2:words 3:box   level 3
abbrev n_Machine_made : List Str := ["self", "row", "words", "box"]
theorem sc_Machine_made : FnScope n_Machine_made ["self", "row"] SL.d_Machine_made.scope := ⟨rfl, rfl, rfl, by decide +kernel, rfl, by decide +kernel, by decide +kernel⟩
theorem ok_Machine_made (T : Tx K mg w) : MCal P w K mg base (ga K "Machine") "made" 3 ["self", "row"] (sp_Machine_made K) := by
  refine MCal.of T.D_Machine_made T.c_Machine T.m_Machine_made sc_Machine_made (fun _ _ _ _ _ _ us hl => match us, hl with | [_, _], _ => rfl) (fun vs H Q E h => ?_) fun f cdv A outer s H vs Q E hr h => ?_
  · obtain ⟨p, dx, r, g, wd, st, sa, sn, as, B, prog, given, m, b, rw, n, rfl, _⟩ := h
    rfl
  obtain ⟨p, dx, r, g, wd, st, sa, sn, as, B, prog, given, m, b, rw, n, rfl, u, h⟩ := h
  refine ⟨_, (pss_cons (ps_if (pt_cmpR op_eq (pe_ix ix_tup (pv 1) pe_int (fun _ _ => rfl)) pe_str (nomark _)) (pss_one (ps_ret (pe_ix ix_tup (pv 1) pe_int (fun _ _ => rfl)))) pss_nil)
    (pss_cons (ps_if (pt_cmpR op_eq (pe_ix ix_tup (pv 1) pe_int (fun _ _ => rfl)) pe_str (nomark _)) (pss_one (ps_ret (pe_ix ix_tup (pe_fld (pv 0) rfl) (pe_ix ix_tup (pv 1) pe_int (fun _ _ => rfl)) (fun _ _ => rfl)))) pss_nil)
    (pss_cons (ps_setLc (i := 2)  (own := [("box", 3)]) rfl sc_Machine_made.nd rfl rfl (sw_true rfl rfl rfl (by decide +kernel)) (pi_tup (pe_fn (ok_reads T) (hr.mono (by decide)) (by rfl) (pa_cons (pv 1) pa_nil))) (blkOk_by (own := [("box", 3)]) (N := n_Machine_made) (sc := SL.d_Machine_made.scope) (by decide +kernel)) (fun _ _ _ _ _ => (pg_name (i := 3) sc_Machine_made.nd rfl (Or.inl rfl))) (fun _ _ _ _ _ => pts_nil) (fun _ _ _ _ _ => (pe_ix (ix_listK rfl) (pe_fldK rfl (pv 0) rfl) (pv 3) (fun _ _ => rfl))))
    (pss_cons (ps_if (pt_cmpR op_eq (pe_ix ix_tup (pv 1) pe_int (fun _ _ => rfl)) pe_str (nomark _)) (pss_one (ps_ret (pe_ix ix_list (pv 2) pe_int (fun _ _ => rfl)))) pss_nil)
    (pss_cons (ps_if (pt_cmpR op_eq (pe_ix ix_tup (pv 1) pe_int (fun _ _ => rfl)) pe_str (nomark _)) (pss_one (ps_ret (pe_ix ix_list (pe_fld (pv 0) rfl) (pe_ix ix_list (pv 2) pe_int (fun _ _ => rfl)) (fun _ _ => rfl)))) pss_nil)
    (pss_cons (ps_if (pt_cmpR op_eq (pe_ix ix_tup (pv 1) pe_int (fun _ _ => rfl)) pe_str (nomark _)) (pss_one (ps_ret (pe_ifExp (pt_cmpR op_ne (pe_ix ix_list (pv 2) pe_int (fun _ _ => rfl)) pe_int (nomark _)) (pe_ix ix_list (pv 2) pe_int (fun _ _ => rfl)) (pe_ix ix_list (pv 2) pe_int (fun _ _ => rfl))))) pss_nil)
    (pss_cons (ps_if (pt_cmpR op_eq (pe_ix ix_tup (pv 1) pe_int (fun _ _ => rfl)) pe_str (nomark _)) (pss_one (ps_ret (pe_op op_mod (pe_op op_add (pe_ix ix_list (pv 2) pe_int (fun _ _ => rfl)) (pe_ix ix_list (pv 2) pe_int (fun _ _ => rfl))) (pe_op op_add (pe_ci (by rfl) T.i_MOST_WORD) pe_int)))) pss_nil)
    (pss_cons (ps_if (pt_cmpR op_eq (pe_ix ix_tup (pv 1) pe_int (fun _ _ => rfl)) pe_str (nomark _)) (pss_one (ps_ret (pe_op op_xor (pe_ix ix_list (pv 2) pe_int (fun _ _ => rfl)) (pe_ix ix_list (pv 2) pe_int (fun _ _ => rfl))))) pss_nil)
    (pss_one (ps_ret (pe_ifExp (pt_cmpR op_eq (pe_ix ix_tup (pv 1) pe_int (fun _ _ => rfl)) pe_str (nomark _)) (pe_callTy call_int1 (by rfl) T.f_int (by decide +kernel) (pa_cons (pe_cmpR op_lt (pe_ix ix_list (pv 2) pe_int (fun _ _ => rfl)) (pe_ix ix_list (pv 2) pe_int (fun _ _ => rfl)) (nomark _)) pa_nil)) (pe_callTy call_int1 (by rfl) T.f_int (by decide +kernel) (pa_cons (pe_cmpR op_eq (pe_ix ix_list (pv 2) pe_int (fun _ _ => rfl)) (pe_ix ix_list (pv 2) pe_int (fun _ _ => rfl)) (nomark _)) pa_nil))))))))))))), ?_⟩
  obtain ⟨v, hR, ok, hw, hs, hb, hg, hset⟩ := u
  have few := reads_few' rw
  have hbox := reads_box ok
  refine ⟨_, rfl, _, _, _, _, rfl, rfl, .of hR, row_at0 rw, rfl, _, rfl, ?_⟩
  rw [nm_set]
  by_cases n0 : rw.nm = 0
  · rw [decide_eq_true n0]
    obtain ⟨c, x, rfl⟩ := nm0 n0
    exact ⟨_, rfl, _, _, _, _, rfl, rfl, .of hR, row_at _ (i := 1) rfl, h _ (Same.refl _)⟩
  rw [decide_eq_false n0]
  refine ⟨_, rfl, _, _, _, _, rfl, rfl, .of hR, row_at0 rw, rfl, _, rfl, ?_⟩
  rw [nm_ask]
  by_cases n1 : rw.nm = 1
  · rw [decide_eq_true n1]
    obtain ⟨c, x, rfl⟩ := nm1 n1
    have hx : x < given.length := by rw [hg]; exact ok.2
    exact ⟨_, rfl, p, _, dx, _, _, rfl, v.ob, T.c_Machine, T.n_Machine_given, rfl, _, rfl, _, _, _, _, rfl, rfl, .of hR, row_at _ (i := 1) rfl, _, _, _, _, rfl, rfl, .of v.gv, at_vns hx, h _ (Same.refl _)⟩
  rw [decide_eq_false n1]
  refine ⟨_, rfl, b, rw, rfl, hR, fun rt H1 nrt s1 hrt => ⟨rt, rfl, ⟨_, .of hrt⟩, fun D nD => ?_⟩⟩
  refine lc_pure walk_tup rw.reads (fun c => [vn (m.words.getD c 0)]) (len_vns _) (by omega) (fun _ => Nat.le_refl _) nD (fun H2 s2 => .of (s2 _ _ hrt)) same_yat ?_ ?_
  · rintro i c x H2 H3 Kq N hi s2 ⟨rfl, hx⟩ hK hN
    rw [get_vns hi] at hx
    cases hx
    have v2 := v.ext (s1.trans s2)
    exact ⟨rfl, _, rfl, p, _, dx, _, _, rfl, v2.ob, T.c_Machine, T.n_Machine_words, rfl, _, rfl, _, _, _, _, rfl, rfl, .of v2.wds, at_vns (by rw [hw]; exact hbox c (List.mem_of_getElem? hi)), hK _ _ (Same.refl _) rfl⟩
  intro H2 s2 hD
  have s12 := s1.trans s2
  have hD : H2 D = some (.lst (vns (rw.reads.map fun c => m.words.getD c 0))) := by
    rw [hD, flat_one]
    unfold vns
    rw [List.map_map]
    rfl
  have hq : Q (vn (madeW given m.words m.store rw)) H2 := h _ s12
  have v2 := v.ext s12
  have hR2 := hR.mono (.of s12)
  refine ⟨_, rfl, _, _, _, _, rfl, rfl, .of hR2, row_at0 rw, rfl, _, rfl, ?_⟩
  rw [nm_copy]
  by_cases n2 : rw.nm = 2
  · rw [decide_eq_true n2]
    obtain ⟨c, x, rfl⟩ := nm2 n2
    exact ⟨_, rfl, _, _, _, _, rfl, rfl, .of hD, at_map (i := 0) rfl, hq⟩
  rw [decide_eq_false n2]
  refine ⟨_, rfl, _, _, _, _, rfl, rfl, .of hR2, row_at0 rw, rfl, _, rfl, ?_⟩
  rw [nm_take]
  by_cases n3 : rw.nm = 3
  · rw [decide_eq_true n3]
    obtain ⟨c, x, rfl⟩ := nm3 n3
    have hx := getD_lt (by rw [hw]; exact ok.2) hb (l := m.words) (k := x)
    exact ⟨_, rfl, p, _, dx, _, _, rfl, v2.ob, T.c_Machine, T.n_Machine_store, rfl, _, rfl, _, _, _, _, rfl, rfl, .of hD, at_map (i := 0) rfl, _, _, _, _, rfl, rfl, .of v2.sto, at_vns (by rw [hs]; exact hx), hq⟩
  rw [decide_eq_false n3]
  refine ⟨_, rfl, _, _, _, _, rfl, rfl, .of hR2, row_at0 rw, rfl, _, rfl, ?_⟩
  rw [nm_pick]
  by_cases n4 : rw.nm = 4
  · rw [decide_eq_true n4]
    obtain ⟨a, c, d, e, rfl⟩ := nm4 n4
    refine ⟨_, rfl, _, _, _, _, rfl, rfl, .of hD, at_map (i := 0) rfl, rfl, _, rfl, ?_⟩
    show if (!decide (vn (m.words.getD c 0) = vn 0)) = true then _ else _
    rw [vn_dec]
    have hq : Q (vn (if m.words.getD c 0 ≠ 0 then m.words.getD d 0 else m.words.getD e 0)) H2 := hq
    by_cases z : m.words.getD c 0 = 0
    · rw [if_neg (fun y => y z)] at hq
      rw [decide_eq_true z]
      exact ⟨_, rfl, _, _, _, _, rfl, rfl, .of hD, at_map (i := 2) rfl, hq⟩
    · rw [if_pos z] at hq
      rw [decide_eq_false z]
      exact ⟨_, rfl, _, _, _, _, rfl, rfl, .of hD, at_map (i := 1) rfl, hq⟩
  rw [decide_eq_false n4]
  refine ⟨_, rfl, _, _, _, _, rfl, rfl, .of hR2, row_at0 rw, rfl, _, rfl, ?_⟩
  rw [nm_add]
  by_cases n5 : rw.nm = 5
  · rw [decide_eq_true n5]
    obtain ⟨a, c, d, rfl⟩ := nm5 n5
    have hq : Q (V.int (((m.words.getD c 0 + m.words.getD d 0) % 16 : Nat) : Int)) H2 := hq
    refine ⟨_, rfl, _, _, _, _, rfl, rfl, .of hD, at_map (i := 0) rfl, _, rfl, _, _, _, _, rfl, rfl, .of hD, at_map (i := 1) rfl, _, _, rfl, rfl, _, _, rfl, rfl, _, _, rfl, rfl, by show (0 : Int) < 15 + 1; decide, ?_⟩
    have e : ((((m.words.getD c 0 : Nat) : Int) + ((m.words.getD d 0 : Nat) : Int)) % (15 + 1)) = (((m.words.getD c 0 + m.words.getD d 0) % 16 : Nat) : Int) := by omega
    show Q (V.int ((((m.words.getD c 0 : Nat) : Int) + ((m.words.getD d 0 : Nat) : Int)) % (15 + 1))) H2
    rw [e]
    exact hq
  rw [decide_eq_false n5]
  refine ⟨_, rfl, _, _, _, _, rfl, rfl, .of hR2, row_at0 rw, rfl, _, rfl, ?_⟩
  rw [nm_mix]
  by_cases n6 : rw.nm = 6
  · rw [decide_eq_true n6]
    obtain ⟨a, c, d, rfl⟩ := nm6 n6
    have hq : Q (V.int ((m.words.getD c 0 ^^^ m.words.getD d 0 : Nat) : Int)) H2 := hq
    refine ⟨_, rfl, _, _, _, _, rfl, rfl, .of hD, at_map (i := 0) rfl, _, rfl, _, _, _, _, rfl, rfl, .of hD, at_map (i := 1) rfl, _, _, rfl, rfl, ?_⟩
    show Q (V.int (Builtin.bitXor ((m.words.getD c 0 : Nat) : Int) ((m.words.getD d 0 : Nat) : Int))) H2
    rw [Bits.bitXor_pp (Int.natCast_nonneg _) (Int.natCast_nonneg _)]
    exact hq
  rw [decide_eq_false n6]
  refine ⟨_, rfl, _, _, _, _, rfl, rfl, .of hR2, row_at0 rw, rfl, _, rfl, ?_⟩
  rw [nm_less]
  by_cases n7 : rw.nm = 7
  · rw [decide_eq_true n7]
    obtain ⟨a, c, d, rfl⟩ := nm7 n7
    have hq : Q (V.int (((if m.words.getD c 0 < m.words.getD d 0 then 1 else 0 : Nat)) : Int)) H2 := hq
    refine ⟨_, rfl, _, _, _, _, rfl, rfl, .of hD, at_map (i := 0) rfl, _, rfl, _, _, _, _, rfl, rfl, .of hD, at_map (i := 1) rfl, _, _, rfl, rfl, .inr ⟨_, rfl, ?_⟩⟩
    show Q (V.int (if decide (((m.words.getD c 0 : Nat) : Int) < ((m.words.getD d 0 : Nat) : Int)) = true then 1 else 0)) H2
    by_cases z : m.words.getD c 0 < m.words.getD d 0
    · rw [if_pos z] at hq
      rw [if_pos (decide_eq_true (by omega))]
      exact hq
    · rw [if_neg z] at hq
      rw [if_neg (fun y => z (by have := of_decide_eq_true y; omega))]
      exact hq
  rw [decide_eq_false n7]
  obtain ⟨a, c, d, rfl⟩ := nm8 hset n0 n1 n2 n3 n4 n5 n6 n7
  have hq : Q (V.int (((if m.words.getD c 0 = m.words.getD d 0 then 1 else 0 : Nat)) : Int)) H2 := hq
  refine ⟨_, rfl, _, _, _, _, rfl, rfl, .of hD, at_map (i := 0) rfl, _, rfl, _, _, _, _, rfl, rfl, .of hD, at_map (i := 1) rfl, rfl, .inr ⟨_, rfl, ?_⟩⟩
  rw [vn_dec]
  by_cases z : m.words.getD c 0 = m.words.getD d 0
  · rw [if_pos z] at hq
    rw [if_pos (decide_eq_true z)]
    exact hq
  · rw [if_neg z] at hq
    rw [if_neg (fun y => z (of_decide_eq_true y))]
    exact hq
end
end SL

/-! text OkMach6 -/
set_option Elab.async false
set_option linter.all false
set_option maxRecDepth 100000
set_option maxHeartbeats 4000000
namespace SL
open PySem PySem.Spec L2
section
variable {P : Program} {w : World} {K : PySem.W.Frag} {mg : Str → Option Value} {base : Heap}
theorem sl_listK {X : Cx} (h : X.K = K) : SlR X (rSlL K) := h ▸ sl_list
/-! go_out -/
theorem rgc2' {n : Nat} (h : n % 2 = 0) (h4 : n ≤ 4) : RgC 0 (n : Int) 2 (n / 2) := by
  rcases (by omega : n = 0 ∨ n = 2 ∨ n = 4) with e | e | e <;> subst e <;> exact ⟨by decide, by decide, by decide +kernel, by decide +kernel⟩
def prs : List Nat → List (Nat × Nat)
  | a :: b :: r => (a, b) :: prs r
  | _ => []
def mnt (q : Nat × Nat) : V := if q.1 = q.2 then vn q.1 else .non
theorem prs_at : ∀ {W : List Nat} {i : Nat} {q : Nat × Nat}, (prs W)[i]? = some q → (W.drop (2 * i)).take 2 = [q.1, q.2] ∧ 2 * i + 2 ≤ W.length
  | a :: b :: r, 0, q, h => by
    simp [prs] at h
    subst h
    exact ⟨rfl, by simp⟩
  | a :: b :: r, i + 1, q, h => by
    have ih := prs_at (W := r) (i := i) (q := q) (by simpa [prs] using h)
    refine ⟨?_, by have := ih.2; simp only [List.length_cons]; omega⟩
    rw [show 2 * (i + 1) = 2 * i + 1 + 1 by omega]
    exact ih.1
  | [], i, q, h => by simp [prs] at h
  | [_], i, q, h => by simp [prs] at h
theorem prs_len : ∀ {W : List Nat}, W.length % 2 = 0 → (prs W).length = W.length / 2
  | [], _ => rfl
  | [_], h => by simp at h
  | a :: b :: r, h => by
    have ih := prs_len (W := r) (by simp at h; omega)
    simp only [prs, List.length_cons, ih]
    omega
theorem in_non : ∀ l : List (Nat × Nat), inV .non (l.map mnt) = l.any fun q => decide (q.1 ≠ q.2)
  | [] => rfl
  | q :: r => by
    have ih := in_non r
    unfold inV at ih ⊢
    rw [List.map_cons, List.any_cons, List.any_cons, ih]
    congr 1
    unfold mnt
    by_cases e : q.1 = q.2
    · rw [if_pos e, decide_eq_false (fun z => z e)]
      rfl
    · rw [if_neg e, decide_eq_true e]
      rfl
theorem flat_mnt (l : List (Nat × Nat)) : (l.map mnt).all flatV = true := by
  rw [List.all_eq_true]
  intro x hx
  obtain ⟨q, _, e⟩ := List.mem_map.mp hx
  rw [← e]
  unfold mnt
  split <;> rfl
theorem cut_mid {xs : List V} {lo hi : Nat} (h1 : lo ≤ hi) (h2 : hi ≤ xs.length) : cutV xs (some (lo : Int)) (some (hi : Int)) = (xs.drop lo).take (hi - lo) := by
  unfold cutV
  rw [HT.sIx_nat, HT.sIx_nat, Nat.min_eq_left h2, Nat.min_eq_left (Nat.le_trans h1 h2)]
theorem copies_two {r : Row} (h : r.two = true) : ([("hold", .int 2), ("tell", .int 1), ("tell2", .int 2), ("tell3", .int 3), ("put", .int 1), ("put2", .int 2), ("put3", .int 3), ("if", .int 1), ("if2", .int 2), ("if3", .int 3)] : List (Str × V)).lookup r.word = some (.int 2) := by
  cases r <;> simp [Row.two] at h <;> rfl
theorem two_reads {r : Row} (h : r.two = true) : r.reads.length % 2 = 0 ∧ r.reads.length ≤ 4 := by cases r <;> simp [Row.two] at h <;> simp [Row.reads]
def Row.isTell : Row → Bool
  | .tell2 _ _ => true
  | _ => false
def Row.isIf : Row → Bool
  | .if2 _ _ _ => true
  | _ => false
def Row.isPut : Row → Bool
  | .put2 _ _ _ _ => true
  | _ => false
theorem in_tells (r : Row) : inV (.str r.word) [.str "tell", .str "tell2", .str "tell3"] = r.isTell := by
  cases r with
  | bin o => cases o <;> rfl
  | _ => rfl
theorem in_ifs (r : Row) : inV (.str r.word) [.str "if", .str "if2", .str "if3"] = r.isIf := by
  cases r with
  | bin o => cases o <;> rfl
  | _ => rfl
theorem in_puts (r : Row) : inV (.str r.word) [.str "put", .str "put2", .str "put3"] = r.isPut := by
  cases r with
  | bin o => cases o <;> rfl
  | _ => rfl
theorem go_hold (m : MS) (c d : Nat) : m.goOut (.hold c d) = if m.w c = m.w d then m.next else m.stumble := rfl
theorem go_tell (m : MS) (c d : Nat) : m.goOut (.tell2 c d) = if m.w c = m.w d then m.tell (m.w c) else m.stumble := rfl
theorem go_put (m : MS) (c d e f : Nat) : m.goOut (.put2 c d e f) = if m.w c = m.w d ∧ m.w e = m.w f then { m with store := m.store.set (m.w c) (m.w e), at_ := m.at_ + 1 } else m.stumble := rfl
theorem go_if (m : MS) (c d t : Nat) : m.goOut (.if2 c d t) = if m.w c = m.w d then (if m.w c ≠ 0 then { m with at_ := t } else m.next) else m.stumble := rfl
theorem goOut_bad {m : MS} {r : Row} (htwo : r.two = true) (c : ((prs (r.reads.map m.w)).any fun q => decide (q.1 ≠ q.2)) = true) : m.goOut r = m.stumble := by
  cases r <;> simp [Row.two] at htwo
  · rename_i a1 a2
    have c : ¬ (m.w a1 = m.w a2) := by simpa [Row.reads, prs] using c
    rw [go_hold, if_neg c]
  · rename_i a1 a2
    have c : ¬ (m.w a1 = m.w a2) := by simpa [Row.reads, prs] using c
    rw [go_tell, if_neg c]
  · rename_i a1 a2 a3 a4
    have c : ¬ (m.w a1 = m.w a2 ∧ m.w a3 = m.w a4) := fun z => by simp [Row.reads, prs, z.1, z.2] at c
    rw [go_put, if_neg c]
  · rename_i a1 a2 tt
    have c : ¬ (m.w a1 = m.w a2) := by simpa [Row.reads, prs] using c
    rw [go_if, if_neg c]
def sp_Machine_go_out (K : PySem.W.Frag) : Sp := fun vs H Q _ => ∃ (p dx r g wd st sa sn : Addr) (as : List Addr) (B : Hp) (prog : Prog) (given : List Nat) (m : MS) (b : Addr) (rw : Row) (n : Nat), vs = [.ref p, .ref b] ∧ (MAtX K B H p dx r g wd st sa sn as prog given m ∧ RowAt H b rw ∧ rw.Ok n ∧ rw.two = true ∧ m.words.length = 32 ∧ (∀ x ∈ m.words, x < 16) ∧ m.store.length = 16 ∧ m.stands.length ≤ 2 ∧ m.said.length ≤ 900 ∧ m.count ≤ m.said.length) ∧
  ∀ H', MAt K B H' p prog given (m.goOut rw) → SameT H H' → Q .non H'
-- slots: 0:self 1:row 2:many 3:words 4:found 5:box 6:k   level 3
abbrev n_Machine_go_out : List Str := ["self", "row", "many", "words", "found", "box", "k"]
theorem sc_Machine_go_out : FnScope n_Machine_go_out ["self", "row"] SL.d_Machine_go_out.scope := ⟨rfl, rfl, rfl, by decide +kernel, rfl, by decide +kernel, by decide +kernel⟩
theorem ok_Machine_go_out (T : Tx K mg w) : MCal P w K mg base (ga K "Machine") "go_out" 3 ["self", "row"] (sp_Machine_go_out K) := by
  refine MCal.of T.D_Machine_go_out T.c_Machine T.m_Machine_go_out sc_Machine_go_out (fun _ _ _ _ _ _ us hl => match us, hl with | [_, _], _ => rfl) (fun vs H Q E h => ?_) fun f cdv A outer s H vs Q E hr h => ?_
  · obtain ⟨p, dx, r, g, wd, st, sa, sn, as, B, prog, given, m, b, rw, n, rfl, _⟩ := h
    rfl
  obtain ⟨p, dx, r, g, wd, st, sa, sn, as, B, prog, given, m, b, rw, n, rfl, u, h⟩ := h
  refine ⟨_, (pss_cons (ps_set (i := 2) sc_Machine_go_out.nd rfl (Or.inr rfl) (pe_ix (ix_kd T.k_COPIES T.v_COPIES) (pe_ca (by rfl) T.g_COPIES) (pe_ix ix_tup (pv 1) pe_int (fun _ _ => rfl)) (fun _ _ => rfl)))
    (pss_cons (ps_set (i := 3) sc_Machine_go_out.nd rfl (Or.inr rfl) (pe_lc (own := [("box", 5)]) rfl sc_Machine_go_out.nd (pi_tup (pe_fn (ok_reads T) (hr.mono (by decide)) (by rfl) (pa_cons (pv 1) pa_nil))) (blkOk_by (own := [("box", 5)]) (N := n_Machine_go_out) (sc := SL.d_Machine_go_out.scope) (by decide +kernel)) (fun _ _ _ _ _ => (pg_name (i := 5) sc_Machine_go_out.nd rfl (Or.inl rfl))) (fun _ _ _ _ _ => pts_nil) (fun _ _ _ _ _ => (pe_ix (ix_listK rfl) (pe_fldK rfl (pv 0) rfl) (pv 5) (fun _ _ => rfl)))))
    (pss_cons (ps_setLc (i := 4)  (own := [("k", 6)]) rfl sc_Machine_go_out.nd rfl rfl (sw_true rfl rfl rfl (by decide +kernel)) (pi_range3 rfl T.f_range (pa_cons pe_int (pa_cons (pe_callB call_len_seq (by rfl) T.f_len PySem.boot_len (pa_cons (pv 3) pa_nil)) (pa_cons (pv 2) pa_nil)))) (blkOk_by (own := [("k", 6)]) (N := n_Machine_go_out) (sc := SL.d_Machine_go_out.scope) (by decide +kernel)) (fun _ _ _ _ _ => (pg_name (i := 6) sc_Machine_go_out.nd rfl (Or.inl rfl))) (fun _ _ _ _ _ => pts_nil) (fun _ _ _ _ _ => (pe_fn (ok_meant (P := P) T) (hr.mono (by decide)) (by rfl) (pa_cons (pe_slice (sl_listK rfl) (pv 3) (po_some (pv 6)) (po_some (pe_op op_add (pv 6) (pv 2)))) pa_nil))))
    (pss_one (ps_if (pt_cmpR op_in_seq pe_non (pv 4) (by rfl)) (pss_one (ps_expr (pe_mth0 (pv 0) (ok_Machine_stumble T) (hr.mono (by decide))))) (pss_one (ps_if (pt_cmpR op_in_seq (pe_ix ix_tup (pv 1) pe_int (fun _ _ => rfl)) (pe_tup (pa_cons pe_str (pa_cons pe_str (pa_cons pe_str pa_nil)))) (by rfl)) (pss_one (ps_expr (pe_mth (pv 0) (ok_Machine_tell T) (hr.mono (by decide)) (pa_cons (pe_ix ix_list (pv 4) pe_int (fun _ _ => rfl)) pa_nil)))) (pss_one (ps_if (PW.pt (pw_and (pt_cmpR op_in_seq (pe_ix ix_tup (pv 1) pe_int (fun _ _ => rfl)) (pe_tup (pa_cons pe_str (pa_cons pe_str (pa_cons pe_str pa_nil)))) (by rfl)) (pw_and1 (pt_cmpR op_ne (pe_ix ix_list (pv 4) pe_int (fun _ _ => rfl)) pe_int (nomark _))))) (pss_one (ps_fld (pv 0) (pe_ix ix_tup (pv 1) (pe_un un_neg pe_int) (fun _ _ => rfl)) rfl)) (Evl.pss_cut (ps_if (pt_cmpR op_in_seq (pe_ix ix_tup (pv 1) pe_int (fun _ _ => rfl)) (pe_tup (pa_cons pe_str (pa_cons pe_str (pa_cons pe_str pa_nil)))) (by rfl)) (pss_one (ps_asg (pe_ix ix_list (pv 4) pe_int (fun _ _ => rfl)) (pg_sub (pe_fld (pv 0) rfl) (pe_ix ix_list (pv 4) pe_int (fun _ _ => rfl)) set_list))) pss_nil)
    (pss_one (ps_fldaug (pv 0) pe_int in_add)))))))))))), ?_⟩
  obtain ⟨v, hR, ok, htwo, hw, hb, hs, few, hs9, hcs⟩ := u
  have hbox := reads_box ok
  obtain ⟨he, h4⟩ := two_reads htwo
  refine ⟨_, rfl, _, _, _, _, rfl, rfl, .of hR, row_at0 rw, _, _, rfl, rfl, copies_two htwo, ?_⟩
  refine ⟨_, rfl, b, rw, rfl, hR, fun rt H1 nrt s1 hrt => ⟨rt, rfl, ⟨_, .of hrt⟩, fun D nD => ?_⟩⟩
  refine lc_pure walk_tup rw.reads (fun c => [vn (m.w c)]) (len_vns _) (by omega) (fun _ => Nat.le_refl _) nD (fun H2 s2 => .of (s2 _ _ hrt)) same_yat ?_ ?_
  · rintro i c x H2 H3 Kq N hi s2 ⟨rfl, hx⟩ hK hN
    rw [get_vns hi] at hx
    cases hx
    have v2 := v.ext (s1.trans s2)
    exact ⟨rfl, _, rfl, p, _, dx, _, _, rfl, v2.ob, T.c_Machine, T.n_Machine_words, rfl, _, rfl, _, _, _, _, rfl, rfl, .of v2.wds, at_vns (by rw [hw]; exact hbox c (List.mem_of_getElem? hi)), hK _ _ (Same.refl _) rfl⟩
  intro H2 s2 hD
  have s12 := s1.trans s2
  have hD : H2 D = some (.lst (vns (rw.reads.map m.w))) := by
    rw [hD, flat_one]
    unfold vns
    rw [List.map_map]
    rfl
  have hWl : (rw.reads.map m.w).length = rw.reads.length := List.length_map ..
  generalize hWW : rw.reads.map m.w = W at *
  have hpl := prs_len (W := W) (by omega)
  refine ⟨_, rfl, _, _, rfl, len_lst hD, _, rfl, 0, _, 2, _, rfl, by rw [len_vns]; exact rgc2' (by omega) (by omega), fun F nF => ?_⟩
  refine lc_pure (walk_rangeC (lo := 0) (c := 2)) (prs W) (fun q => [mnt q]) (by rw [hpl]) (by omega) (fun _ => Nat.le_refl _) nF (fun _ _ => trivial) same_yfn ?_ ?_
  · rintro i q x H3 H4 Kq N hi s3 ⟨rfl, rfl⟩ hK hN
    obtain ⟨e1, e2⟩ := prs_at hi
    have ei : (0 : Int) + (i : Nat) * 2 = ((2 * i : Nat) : Int) := by omega
    have ei2 : (0 : Int) + (i : Nat) * 2 + 2 = ((2 * i + 2 : Nat) : Int) := by omega
    refine ⟨rfl, _, rfl, _, rfl, _, rfl, _, rfl, _, rfl, _, _, rfl, rfl, _, rfl, D, _, rfl, .of (s3 _ _ hD), fun z nz => ?_⟩
    have ec : cutV (vns W) (some ((0 : Int) + (i : Nat) * 2)) (some ((0 : Int) + (i : Nat) * 2 + 2)) = vns [q.1, q.2] := by
      rw [ei2, ei, cut_mid (by omega) (by rw [len_vns]; omega), show 2 * i + 2 - 2 * i = 2 by omega, ← e1]
      unfold vns
      rw [List.map_take, List.map_drop]
    refine ⟨z, q.1, q.2, rfl, ?_, fun H5 s5 => hK _ _ ((same_new nz).trans s5) rfl⟩
    rw [upd_same]
    exact congrArg (fun y => some (HO.lst y)) ec
  intro H3 s3 hF
  rw [flat_one] at hF
  have s13 := s12.trans s3
  have v3 := v.ext s13
  have hR3 := hR.mono (.of s13)
  have t3 := SameT.of s13
  refine ⟨_, rfl, F, _, rfl, .inl (.of hF), rfl, flat_mnt _, _, rfl, ?_⟩
  show if inV .non ((prs W).map mnt) = true then _ else _
  rw [in_non]
  have tupn : ∀ {H4 : Hp} {xs : List V} (e : Addr), H4 e = none → SameT H4 (upd H4 e (.tup xs)) := fun e ne => .of (same_new ne)
  by_cases c : ((prs W).any fun q => decide (q.1 ≠ q.2)) = true
  · rw [c]
    have ego : m.goOut rw = m.stumble := goOut_bad htwo (by rw [← hWW] at c; exact c)
    rw [ego] at h
    exact ⟨_, rfl, p, dx, _, rfl, v3.ob, rfl, p, dx, r, g, wd, st, sa, sn, as, B, prog, given, m, rfl, ⟨v3, few⟩, fun H4 v4 t4 => h H4 v4 (t3.trans t4)⟩
  rw [eq_false_of_ne_true c]
  have c := eq_false_of_ne_true c
  rw [← hWW] at c hF
  have hlt : ∀ x < 32, m.w x < 16 := fun x hx => getD_lt (by rw [hw]; exact hx) hb
  refine ⟨_, rfl, _, _, _, _, rfl, rfl, .of hR3, row_at0 rw, by show 3 ≤ sizeLine; decide, fun e1 ne1 => ⟨e1, _, rfl, .inr (.of upd_same), rfl, rfl, _, rfl, ?_⟩⟩
  show if inV (.str rw.word) [.str "tell", .str "tell2", .str "tell3"] = true then _ else _
  rw [in_tells]
  have s4 := same_new (o := .tup [.str "tell", .str "tell2", .str "tell3"]) ne1
  have v4 := v3.ext s4
  have hF4 := s4 _ _ hF
  have hR4 := hR3.mono (.of s4)
  have t4 := t3.trans (.of s4)
  generalize upd H3 e1 (.tup [.str "tell", .str "tell2", .str "tell3"]) = H4 at *
  cases q1 : rw.isTell with
  | true =>
    cases rw <;> simp [Row.isTell] at q1
    rename_i a1 a2
    have c : m.w a1 = m.w a2 := by simpa [Row.reads, prs] using c
    have ego : m.goOut (.tell2 a1 a2) = m.tell (m.w a1) := by
      rw [go_tell, if_pos c]
    rw [ego] at h
    have em : mnt (m.w a1, m.w a2) = vn (m.w a1) := if_pos c
    refine ⟨_, rfl, p, dx, _, rfl, v4.ob, rfl, _, rfl, _, _, _, _, rfl, rfl, .of hF4, atI_nat (j := 0) rfl, p, dx, r, g, wd, st, sa, sn, as, B, prog, given, m, m.w a1, ?_, ⟨v4, few, hs9, hcs⟩, fun H5 v5 t5 => h H5 v5 (t4.trans t5)⟩
    rw [em]
  | false =>
    refine ⟨_, rfl, _, _, _, _, rfl, rfl, .of hR4, row_at0 rw, by show 3 ≤ sizeLine; decide, fun e2 ne2 => ⟨e2, _, rfl, .inr (.of upd_same), rfl, rfl, _, rfl, ?_⟩⟩
    show if inV (.str rw.word) [.str "if", .str "if2", .str "if3"] = true then _ else _
    rw [in_ifs]
    have s5 := same_new (o := .tup [.str "if", .str "if2", .str "if3"]) ne2
    have v5 := v4.ext s5
    have hF5 := s5 _ _ hF4
    have hR5 := hR4.mono (.of s5)
    have t5 := t4.trans (.of s5)
    generalize upd H4 e2 (.tup [.str "if", .str "if2", .str "if3"]) = H5 at *
    cases q2 : rw.isIf with
    | true =>
      cases rw <;> simp [Row.isIf] at q2
      rename_i a1 a2 tt
      have c : m.w a1 = m.w a2 := by simpa [Row.reads, prs] using c
      have em : mnt (m.w a1, m.w a2) = vn (m.w a1) := if_pos c
      have hF5 : H5 F = some (.lst [mnt (m.w a1, m.w a2)]) := hF5
      rw [em] at hF5
      refine ⟨_, rfl, _, _, _, _, rfl, rfl, .of hF5, atI_nat (j := 0) rfl, rfl, _, rfl, ?_⟩
      show if (!decide (vn (m.w a1) = vn 0)) = true then _ else _
      rw [vn_dec]
      by_cases z : m.w a1 = 0
      · rw [decide_eq_true z]
        have ego : m.goOut (.if2 a1 a2 tt) = m.next := by
          rw [go_if, if_pos c, if_neg (fun y => y z)]
        rw [ego] at h
        refine ⟨fun σ6 H6 => σ6 = [some (V.ref p), some (V.ref b), some (V.int 2), some (V.ref D), some (V.ref F), none, none] ∧ MAtX K B H6 p dx r g wd st sa sn as prog given m ∧ SameT H H6, ?_, ?_⟩
        · exact ⟨_, rfl, _, _, _, _, rfl, rfl, .of hR5, row_at0 _, by show 3 ≤ sizeLine; decide, fun e3 ne3 => ⟨e3, _, rfl, .inr (.of upd_same), rfl, rfl, _, rfl, rfl, v5.ext (same_new ne3), t5.trans (.of (same_new ne3))⟩⟩
        · rintro _ H6 ⟨rfl, v6, t6⟩
          obtain ⟨v7, t7⟩ := v6.fld (m' := { m with at_ := m.at_ + 1 }) rfl rfl rfl rfl
          exact ⟨_, rfl, p, _, dx, _, _, rfl, v6.ob, T.c_Machine, T.n_Machine_at, rfl, _, _, rfl, rfl, dx, _, v6.ob, by show 10 < 1000; decide, h _ v7.at (t6.trans t7)⟩
      · rw [decide_eq_false z]
        have ego : m.goOut (.if2 a1 a2 tt) = { m with at_ := tt } := by
          rw [go_if, if_pos c, if_pos z]
        rw [ego] at h
        obtain ⟨v7, t7⟩ := v5.fld (m' := { m with at_ := tt }) rfl rfl rfl rfl
        exact ⟨_, rfl, _, rfl, _, _, _, _, rfl, rfl, .of hR5, at_last (j := 3) rfl rfl, _, rfl, p, _, dx, _, rfl, v5.ob, T.c_Machine, T.n_Machine_at, by show 10 < 1000; decide, h _ v7.at (t5.trans t7)⟩
    | false =>
      refine ⟨fun σ6 H6 => σ6 = [some (V.ref p), some (V.ref b), some (V.int 2), some (V.ref D), some (V.ref F), none, none] ∧ ∃ ss, MAtX K B H6 p dx r g wd st sa sn as prog given { m with store := ss } ∧ SameT H H6 ∧ m.goOut rw = { m with store := ss, at_ := m.at_ + 1 }, ?_, ?_⟩
      · refine ⟨_, rfl, _, _, _, _, rfl, rfl, .of hR5, row_at0 rw, by show 3 ≤ sizeLine; decide, fun e3 ne3 => ⟨e3, _, rfl, .inr (.of upd_same), rfl, rfl, _, rfl, ?_⟩⟩
        show if inV (.str rw.word) [.str "put", .str "put2", .str "put3"] = true then _ else _
        rw [in_puts]
        have s6 := same_new (o := .tup [.str "put", .str "put2", .str "put3"]) ne3
        have v6 := v5.ext s6
        have hF6 := s6 _ _ hF5
        have t6 := t5.trans (.of s6)
        generalize upd H5 e3 (.tup [.str "put", .str "put2", .str "put3"]) = H6 at *
        cases q3 : rw.isPut with
        | true =>
          cases rw <;> simp [Row.isPut] at q3
          rename_i a1 a2 a3 a4
          have c : m.w a1 = m.w a2 ∧ m.w a3 = m.w a4 := by simpa [Row.reads, prs] using c
          have em : mnt (m.w a1, m.w a2) = vn (m.w a1) := if_pos c.1
          have em2 : mnt (m.w a3, m.w a4) = vn (m.w a3) := if_pos c.2
          have hF6 : H6 F = some (.lst [mnt (m.w a1, m.w a2), mnt (m.w a3, m.w a4)]) := hF6
          rw [em, em2] at hF6
          obtain ⟨v7, t7⟩ := v6.stored (ws := m.store.set (m.w a1) (m.w a3))
          refine ⟨_, rfl, _, _, _, _, rfl, rfl, .of hF6, at1, _, rfl, p, _, dx, _, _, rfl, v6.ob, T.c_Machine, T.n_Machine_store, rfl, _, rfl, _, _, _, _, rfl, rfl, .of hF6, at0, st, _, _, _, rfl, rfl, v6.sto, ixN_nat (by rw [len_vns, hs]; exact hlt a1 ok.1), ?_⟩
          rw [set_vns]
          refine ⟨rfl, _, v7, t6.trans t7, ?_⟩
          rw [go_put, if_pos c]
        | false =>
          cases rw <;> simp [Row.two] at htwo <;> simp [Row.isTell] at q1 <;> simp [Row.isIf] at q2 <;> simp [Row.isPut] at q3
          rename_i a1 a2
          have c : m.w a1 = m.w a2 := by simpa [Row.reads, prs] using c
          refine ⟨rfl, m.store, v6, t6, ?_⟩
          rw [go_hold, if_pos c]
          rfl
      · rintro _ H6 ⟨rfl, ss, v6, t6, ego⟩
        obtain ⟨v7, t7⟩ := v6.fld (m' := { m with store := ss, at_ := m.at_ + 1 }) rfl rfl rfl rfl
        rw [ego] at h
        exact ⟨_, rfl, p, _, dx, _, _, rfl, v6.ob, T.c_Machine, T.n_Machine_at, rfl, _, _, rfl, rfl, dx, _, v6.ob, by show 10 < 1000; decide, h _ v7.at (t6.trans t7)⟩
end
end SL

/-! text OkMach7 -/
set_option Elab.async false
set_option linter.all false
set_option maxRecDepth 100000
set_option maxHeartbeats 4000000
namespace SL
open PySem PySem.Spec L2
section
variable {P : Program} {w : World} {K : PySem.W.Frag} {mg : Str → Option Value} {base : Heap}
/-! what a beat keeps -/
theorem row_ok {p : Prog} (ok : p.Ok) {i : Nat} (h : i < p.length) : (p.at i).Ok p.length := ok.row _ (List.mem_of_getElem? (at_eq h))
theorem not_last {p : Prog} (ok : p.Ok) {i : Nat} (h : i < p.length) (hl : (p.at i).last = false) : i + 1 < p.length := by
  by_cases e : i = p.length - 1
  · rw [e, ok.last] at hl
    cases hl
  · omega
theorem opW_lt {o : Op} {x y : Nat} (hx : x < 16) (hy : y < 16) : opW o x y < 16 := by
  cases o with
  | add => exact Nat.mod_lt _ (by decide)
  | less => show (if x < y then 1 else 0) < 16; split <;> omega
  | same => show (if x = y then 1 else 0) < 16; split <;> omega
  | mix => exact Nat.xor_lt_two_pow (n := 4) hx hy
theorem madeW_lt {g W S : List Nat} {r : Row} {n : Nat} (ok : r.Ok n) (hg : g.length = 8) (hgb : ∀ x ∈ g, x < 16) (hw : W.length = 32) (hwb : ∀ x ∈ W, x < 16) (hs : S.length = 16) (hsb : ∀ x ∈ S, x < 16) : madeW g W S r < 16 := by
  have w : ∀ {c}, c < 32 → W.getD c 0 < 16 := fun hc => getD_lt (by omega) hwb
  cases r with
  | set b n => exact ok.2
  | ask b k => exact getD_lt (by rw [hg]; exact ok.2) hgb
  | copy b c => exact w ok.2
  | take b c => exact getD_lt (by rw [hs]; exact w ok.2) hsb
  | bin o b c d => exact opW_lt (w ok.2.1) (w ok.2.2)
  | pick b c d e =>
    show (if W.getD c 0 ≠ 0 then W.getD d 0 else W.getD e 0) < 16
    split
    · exact w ok.2.2.1
    · exact w ok.2.2.2
  | _ => exact Nat.zero_lt_succ _
theorem mem_set_lt {l : List Nat} {i v n : Nat} (h : ∀ x ∈ l, x < n) (hv : v < n) : ∀ x ∈ l.set i v, x < n := fun x hx => by
  rcases List.mem_or_eq_of_mem_set hx with z | z
  · exact h x z
  · rw [z]
    exact hv
section
variable {p : Prog} {m : MS}
theorem MS.Ok.to {n : Nat} (h : m.Ok p) (hn : n < p.length) : ({ m with at_ := n } : MS).Ok p := ⟨hn, h.wl, h.wb, h.sl, h.sb, h.cnt, h.few, h.sts⟩
theorem MS.Ok.dn {d : Nat} (h : m.Ok p) : ({ m with done := d } : MS).Ok p := ⟨h.at_, h.wl, h.wb, h.sl, h.sb, h.cnt, h.few, h.sts⟩
theorem freshAt_lt : ∀ {l : List Stand} {j : Nat}, freshAt l = some j → j < l.length
  | [], j, h => by cases h
  | s :: r, j, h => by
    unfold freshAt at h
    split at h
    · cases e : freshAt r with
      | none => rw [e] at h; cases h
      | some k =>
        rw [e] at h
        cases h
        have := freshAt_lt e
        simp only [List.length_cons]
        omega
    · cases h
      simp
theorem MS.Ok.stumble (h : m.Ok p) : m.stumble.Ok p ∧ m.stumble.said = m.said := by
  unfold MS.stumble
  cases e : freshAt m.stands with
  | none => exact ⟨⟨h.at_, h.wl, h.wb, h.sl, h.sb, h.cnt, h.few, h.sts⟩, rfl⟩
  | some j =>
    have hj := freshAt_lt e
    show (match m.stands.drop j with | [] => m | s :: r => { m with stands := { s with used := true } :: r, at_ := s.at_, words := s.words, store := s.store, count := s.count }).Ok p ∧ (match m.stands.drop j with | [] => m | s :: r => { m with stands := { s with used := true } :: r, at_ := s.at_, words := s.words, store := s.store, count := s.count }).said = m.said
    have hsub : ∀ x ∈ m.stands.drop j, x ∈ m.stands := fun x hx => List.mem_of_mem_drop hx
    have hlen : (m.stands.drop j).length ≤ 2 := by rw [List.length_drop]; have := h.few; omega
    cases q : m.stands.drop j with
    | nil => exact ⟨h, rfl⟩
    | cons s r =>
      rw [q] at hsub hlen
      have hs := h.sts s (hsub s List.mem_cons_self)
      refine ⟨⟨hs.at_, hs.wl, hs.wb, hs.sl, hs.sb, hs.cnt, hlen, fun x hx => ?_⟩, rfl⟩
      rcases List.mem_cons.mp hx with z | z
      · rw [z]
        exact ⟨hs.at_, hs.wl, hs.wb, hs.sl, hs.sb, hs.cnt⟩
      · exact h.sts x (hsub x (List.mem_cons_of_mem _ z))
theorem MS.Ok.tell {x : Nat} (h : m.Ok p) (hn : m.at_ + 1 < p.length) : (m.tell x).Ok p ∧ (m.tell x).said.length ≤ m.said.length + 1 := by
  unfold MS.tell
  split
  · have := h.stumble
    exact ⟨this.1, by rw [this.2]; omega⟩
  · have hc := h.cnt
    by_cases e : m.count = m.said.length
    · simp only [e, if_true]
      have hl : (m.said ++ [x]).length = m.said.length + 1 := by simp
      refine ⟨⟨hn, h.wl, h.wb, h.sl, h.sb, by show m.said.length + 1 ≤ (m.said ++ [x]).length; omega, h.few, fun s hs => ?_⟩, by show (m.said ++ [x]).length ≤ _; omega⟩
      have := h.sts s hs
      exact ⟨this.at_, this.wl, this.wb, this.sl, this.sb, by have := this.cnt; show s.count ≤ (m.said ++ [x]).length; omega⟩
    · simp only [e, if_false]
      exact ⟨⟨hn, h.wl, h.wb, h.sl, h.sb, by show m.count + 1 ≤ m.said.length; omega, h.few, h.sts⟩, Nat.le_succ _⟩
theorem MS.Ok.goOut {r : Row} {n : Nat} (h : m.Ok p) (hr : r.Ok p.length) (hn : m.at_ + 1 < p.length) : (m.goOut r).Ok p ∧ (m.goOut r).said.length ≤ m.said.length + 1 := by
  have hst := h.stumble
  have st : m.stumble.Ok p ∧ m.stumble.said.length ≤ m.said.length + 1 := ⟨hst.1, by rw [hst.2]; omega⟩
  have hnx : m.next.Ok p ∧ m.next.said.length ≤ m.said.length + 1 := ⟨h.to hn, Nat.le_succ _⟩
  cases r with
  | hold c d => rw [go_hold]; split <;> assumption
  | tell2 c d =>
    rw [go_tell]
    split
    · exact h.tell hn
    · exact st
  | put2 c d e f =>
    rw [go_put]
    split
    · have hw : m.w e < 16 := getD_lt (by rw [h.wl]; exact hr.2.2.1) h.wb
      exact ⟨⟨hn, h.wl, h.wb, by show (m.store.set _ _).length = 16; rw [List.length_set]; exact h.sl, mem_set_lt h.sb hw, h.cnt, h.few, h.sts⟩, Nat.le_succ _⟩
    · exact st
  | if2 c d t =>
    rw [go_if]
    split
    · split
      · exact ⟨h.to hr.2.2.1, Nat.le_succ _⟩
      · exact hnx
    · exact st
  | _ => exact ⟨h, Nat.le_succ _⟩
theorem MS.Ok.keep (h : m.Ok p) (hn : m.at_ + 1 < p.length) : m.keep.Ok p := by
  refine ⟨hn, h.wl, h.wb, h.sl, h.sb, h.cnt, ?_, fun s hs => ?_⟩
  · show (m.stands.take 1).length + 1 ≤ 2
    rw [List.length_take]
    omega
  · rcases List.mem_cons.mp hs with z | z
    · rw [z]
      exact ⟨hn, h.wl, h.wb, h.sl, h.sb, h.cnt⟩
    · exact h.sts s (List.mem_of_mem_take z)
theorem beat_two {r : Row} {given : List Nat} (ho : m.over = none) (hr : p.at m.at_ = r) (h2 : r.two = true) : m.beat p given = { m with done := m.done + 1 }.goOut r := by
  unfold MS.beat
  rw [ho, hr]
  cases r <;> simp [Row.two] at h2 <;> rfl
theorem beat_sets {r : Row} {b : Nat} {given : List Nat} (ho : m.over = none) (hr : p.at m.at_ = r) (h2 : r.sets = some b) : m.beat p given = { m with done := m.done + 1, words := m.words.set b (madeW given m.words m.store r), at_ := m.at_ + 1 } := by
  unfold MS.beat
  rw [ho, hr]
  cases r <;> simp [Row.sets] at h2 <;> subst h2 <;> rfl
theorem sets_part {r : Row} {b : Nat} (h : r.sets = some b) : r.parts[0]? = some b := by cases r <;> simp [Row.sets] at h <;> subst h <;> rfl
theorem sets_box {r : Row} {b n : Nat} (h : r.sets = some b) (ok : r.Ok n) : b < 32 := by cases r <;> simp [Row.sets] at h <;> subst h <;> exact ok.1
theorem MS.Ok.beat {given : List Nat} (ok : p.Ok) (h : m.Ok p) (ho : m.over = none) (hg : given.length = 8) (hgb : ∀ x ∈ given, x < 16) : (m.beat p given).Ok p ∧ (m.beat p given).said.length ≤ m.said.length + 1 := by
  have hr := row_ok ok h.at_
  have hl : (p.at m.at_).last = false → m.at_ + 1 < p.length := not_last ok h.at_
  cases e : p.at m.at_ with
  | fin =>
    have : m.beat p given = { m with done := m.done + 1, over := some .fin } := by unfold MS.beat; rw [ho, e]
    rw [this]
    exact ⟨⟨h.at_, h.wl, h.wb, h.sl, h.sb, h.cnt, h.few, h.sts⟩, Nat.le_succ _⟩
  | go t =>
    have : m.beat p given = { m with done := m.done + 1, at_ := t } := by unfold MS.beat; rw [ho, e]
    rw [this]
    rw [e] at hr
    exact ⟨(h.dn (d := m.done + 1)).to hr.1, Nat.le_succ _⟩
  | keep =>
    have : m.beat p given = { m with done := m.done + 1 }.keep := by unfold MS.beat; rw [ho, e]
    rw [this]
    rw [e] at hl
    exact ⟨h.dn.keep (hl rfl), Nat.le_succ _⟩
  | hold c d =>
    rw [beat_two ho e rfl]
    rw [e] at hl hr
    exact h.dn.goOut (n := 0) hr (hl rfl)
  | tell2 c d =>
    rw [beat_two ho e rfl]
    rw [e] at hl hr
    exact h.dn.goOut (n := 0) hr (hl rfl)
  | put2 c d e' f =>
    rw [beat_two ho e rfl]
    rw [e] at hl hr
    exact h.dn.goOut (n := 0) hr (hl rfl)
  | if2 c d t =>
    rw [beat_two ho e rfl]
    rw [e] at hl hr
    exact h.dn.goOut (n := 0) hr (hl rfl)
  | _ =>
    rw [beat_sets ho e rfl]
    rw [e] at hl hr
    refine ⟨⟨hl rfl, ?_, mem_set_lt h.wb (madeW_lt hr hg hgb h.wl h.wb h.sl h.sb), h.sl, h.sb, h.cnt, h.few, h.sts⟩, Nat.le_succ _⟩
    show (m.words.set _ _).length = 32
    rw [List.length_set]
    exact h.wl
end
/-! beat -/
def Row.isKeep : Row → Bool
  | .keep => true
  | _ => false
theorem word_keep (r : Row) : decide (V.str r.word = V.str "keep") = r.isKeep := by
  cases r with
  | bin o => cases o <;> rfl
  | _ => rfl
theorem in_copies (r : Row) : decide (r.word ∈ (["hold", "tell", "tell2", "tell3", "put", "put2", "put3", "if", "if2", "if3"] : List Str)) = r.two := by
  cases r with
  | bin o => cases o <;> rfl
  | _ => rfl
def sp_Machine_beat (K : PySem.W.Frag) : Sp := fun vs H Q _ => ∃ (p dx r g wd st sa sn : Addr) (as : List Addr) (B : Hp) (prog : Prog) (given : List Nat) (m : MS), vs = [.ref p] ∧ (MAtX K B H p dx r g wd st sa sn as prog given m ∧ prog.Ok ∧ m.Ok prog ∧ m.over = none ∧ given.length = 8 ∧ m.said.length ≤ 900) ∧
  ∀ H', MAt K B H' p prog given (m.beat prog given) → SameT H H' → Q (.bl true) H'
-- slots: 0:self 1:row   level 4
abbrev n_Machine_beat : List Str := ["self", "row"]
theorem sc_Machine_beat : FnScope n_Machine_beat ["self"] SL.d_Machine_beat.scope := ⟨rfl, rfl, rfl, by decide +kernel, rfl, by decide +kernel, by decide +kernel⟩
theorem ok_Machine_beat (T : Tx K mg w) : MCal P w K mg base (ga K "Machine") "beat" 4 ["self"] (sp_Machine_beat K) := by
  refine MCal.of T.D_Machine_beat T.c_Machine T.m_Machine_beat sc_Machine_beat (fun _ _ _ _ _ _ us hl => match us, hl with | [_], _ => rfl) (fun vs H Q E h => ?_) fun f cdv A outer s H vs Q E hr h => ?_
  · obtain ⟨p, dx, r, g, wd, st, sa, sn, as, B, prog, given, m, rfl, _⟩ := h
    rfl
  obtain ⟨p, dx, r, g, wd, st, sa, sn, as, B, prog, given, m, rfl, u, h⟩ := h
  refine ⟨_, (pss_cons (ps_if (pt_cmpR op_notN (pe_fld (pv 0) rfl) pe_non (nomark _)) (pss_one (ps_ret pe_bl)) pss_nil)
    (pss_cons (ps_fldaug (pv 0) pe_int in_add)
    (pss_cons (ps_set (i := 1) sc_Machine_beat.nd rfl (Or.inl rfl) (pe_ix ix_tup (pe_fld (pv 0) rfl) (pe_fld (pv 0) rfl) (fun _ _ => rfl)))
    (Evl.pss_cut (ps_if (pt_cmpR op_eq (pe_ix ix_tup (pv 1) pe_int (fun _ _ => rfl)) pe_str (nomark _)) (pss_one (ps_fld (pv 0) pe_str rfl)) (pss_one (ps_if (pt_cmpR op_eq (pe_ix ix_tup (pv 1) pe_int (fun _ _ => rfl)) pe_str (nomark _)) (pss_one (ps_fld (pv 0) (pe_ix ix_tup (pv 1) pe_int (fun _ _ => rfl)) rfl)) (pss_one (ps_if (pt_cmpR op_eq (pe_ix ix_tup (pv 1) pe_int (fun _ _ => rfl)) pe_str (nomark _)) (pss_one (ps_expr (pe_mth0 (pv 0) (ok_Machine_keep T) (hr.mono (by decide))))) (pss_one (ps_if (pt_cmpR (op_inK T.k_COPIES T.v_COPIES T.w_COPIES rfl) (pe_ix ix_tup (pv 1) pe_int (fun _ _ => rfl)) (pe_ca (by rfl) T.g_COPIES) (by rfl)) (pss_one (ps_expr (pe_mth (pv 0) (ok_Machine_go_out T) (hr.mono (by decide)) (pa_cons (pv 1) pa_nil)))) (pss_cons (ps_asg (pe_mth (pv 0) (ok_Machine_made T) (hr.mono (by decide)) (pa_cons (pv 1) pa_nil)) (pg_sub (pe_fld (pv 0) rfl) (pe_ix ix_tup (pv 1) pe_int (fun _ _ => rfl)) set_list))
    (pss_one (ps_fldaug (pv 0) pe_int in_add))))))))))
    (pss_one (ps_ret pe_bl)))))), ?_⟩
  obtain ⟨v, pok, ok, ho, hg, hs9⟩ := u
  refine ⟨_, rfl, p, _, dx, _, _, rfl, v.ob, T.c_Machine, T.n_Machine_over, rfl, rfl, _, rfl, ?_⟩
  rw [ho]
  refine ⟨_, rfl, p, _, dx, _, _, rfl, v.ob, T.c_Machine, T.n_Machine_done, rfl, _, _, rfl, rfl, dx, _, v.ob, by show 10 < 1000; decide, ?_⟩
  obtain ⟨v1, t1⟩ := v.fld (m' := { m with done := m.done + 1 }) rfl rfl rfl rfl
  rw [mp_done1]
  generalize upd H p (.ins (ga K "Machine") dx (mF r g wd st sa sn { m with done := m.done + 1 })) = H1 at *
  obtain ⟨rs, hA, hRs⟩ := id v1.pr
  obtain ⟨b, hb, hR⟩ := paired_get hRs (at_eq ok.at_)
  have eA : atI (rs.map V.ref) ((m.at_ : Nat) : Int) = some (.ref b) := atI_nat (by rw [List.getElem?_map, hb]; rfl)
  have hrok := row_ok pok ok.at_
  have hbe : ∀ rr, prog.at m.at_ = rr → rr.two = true → m.beat prog given = { m with done := m.done + 1 }.goOut rr := fun rr e h2 => beat_two ho e h2
  have hbs : ∀ rr bb, prog.at m.at_ = rr → rr.sets = some bb → m.beat prog given = { m with done := m.done + 1, words := m.words.set bb (madeW given m.words m.store rr), at_ := m.at_ + 1 } := fun rr bb e h2 => beat_sets ho e h2
  have hbf : prog.at m.at_ = .fin → m.beat prog given = { m with done := m.done + 1, over := some .fin } := fun e => by unfold MS.beat; rw [ho, e]
  have hbg : ∀ t, prog.at m.at_ = .go t → m.beat prog given = { m with done := m.done + 1, at_ := t } := fun t e => by unfold MS.beat; rw [ho, e]
  have hbk : prog.at m.at_ = .keep → m.beat prog given = { m with done := m.done + 1 }.keep := fun e => by unfold MS.beat; rw [ho, e]
  generalize hrr : prog.at m.at_ = rr at *
  refine ⟨_, rfl, p, _, dx, _, _, rfl, v1.ob, T.c_Machine, T.n_Machine_rows, rfl, _, rfl, p, _, dx, _, _, rfl, v1.ob, T.c_Machine, T.n_Machine_at, rfl, _, _, _, _, rfl, rfl, .of hA, eA, ?_⟩
  refine ⟨fun σ2 H2 => σ2 = [some (.ref p), some (.ref b)] ∧ MAt K B H2 p prog given (m.beat prog given) ∧ SameT H H2, ?_, ?_⟩
  · refine ⟨_, rfl, _, _, _, _, rfl, rfl, .of hR, row_at0 rr, rfl, _, rfl, ?_⟩
    rw [word_end]
    by_cases c1 : rr = .fin
    · rw [decide_eq_true c1]
      obtain ⟨v2, t2⟩ := v1.fld (m' := { m with done := m.done + 1, over := some .fin }) rfl rfl rfl rfl
      refine ⟨_, rfl, p, _, dx, _, rfl, v1.ob, T.c_Machine, T.n_Machine_over, by show 10 < 1000; decide, rfl, ?_, t1.trans t2⟩
      rw [hbf c1]
      exact v2.at
    rw [decide_eq_false c1]
    refine ⟨_, rfl, _, _, _, _, rfl, rfl, .of hR, row_at0 rr, rfl, _, rfl, ?_⟩
    rw [word_go]
    cases c2 : rr.isGo with
    | true =>
      cases rr <;> simp [Row.isGo] at c2
      rename_i t
      obtain ⟨v2, t2⟩ := v1.fld (m' := { m with done := m.done + 1, at_ := t }) rfl rfl rfl rfl
      refine ⟨_, rfl, _, _, _, _, rfl, rfl, .of hR, row_at _ (i := 0) rfl, _, rfl, p, _, dx, _, rfl, v1.ob, T.c_Machine, T.n_Machine_at, by show 10 < 1000; decide, rfl, ?_, t1.trans t2⟩
      rw [hbg t rfl]
      exact v2.at
    | false =>
      refine ⟨_, rfl, _, _, _, _, rfl, rfl, .of hR, row_at0 rr, rfl, _, rfl, ?_⟩
      rw [word_keep]
      cases c3 : rr.isKeep with
      | true =>
        cases rr <;> simp [Row.isKeep] at c3
        refine ⟨_, rfl, p, dx, _, rfl, v1.ob, rfl, p, dx, r, g, wd, st, sa, sn, as, B, prog, given, _, rfl, ⟨v1, ok.few⟩, fun H2 v2 t2 => ⟨rfl, ?_, t1.trans t2⟩⟩
        rw [hbk rfl]
        exact v2
      | false =>
        refine ⟨_, rfl, _, _, _, _, rfl, rfl, .of hR, row_at0 rr, _, rfl, rfl, _, rfl, ?_⟩
        show if decide (rr.word ∈ (["hold", "tell", "tell2", "tell3", "put", "put2", "put3", "if", "if2", "if3"] : List Str)) = true then _ else _
        rw [in_copies]
        cases c4 : rr.two with
        | true =>
          refine ⟨_, rfl, p, dx, _, rfl, v1.ob, rfl, _, rfl, p, dx, r, g, wd, st, sa, sn, as, B, prog, given, _, b, rr, prog.length, rfl, ⟨v1, hR, hrok, c4, ok.wl, ok.wb, ok.sl, ok.few, hs9, ok.cnt⟩, fun H2 v2 t2 => ⟨rfl, ?_, t1.trans t2⟩⟩
          rw [hbe rr rfl c4]
          exact v2
        | false =>
          obtain ⟨bb, hbb⟩ : ∃ bb, rr.sets = some bb := by
            cases rr <;> simp [Row.two] at c4 <;> simp [Row.isKeep] at c3 <;> simp [Row.isGo] at c2 <;> first | exact absurd rfl c1 | exact ⟨_, rfl⟩
          have hbb32 := sets_box hbb hrok
          refine ⟨_, rfl, p, dx, _, rfl, v1.ob, rfl, _, rfl, p, dx, r, g, wd, st, sa, sn, as, B, prog, given, _, b, rr, prog.length, rfl, ⟨v1, hR, hrok, ok.wl, ok.sl, ok.wb, hg, by rw [hbb]; rfl⟩, fun H2 s2 => ?_⟩
          have v2 := v1.ext s2
          obtain ⟨v3, t3⟩ := v2.wordsd (ws := m.words.set bb (madeW given m.words m.store rr))
          refine ⟨_, rfl, p, _, dx, _, _, rfl, v2.ob, T.c_Machine, T.n_Machine_words, rfl, _, rfl, _, _, _, _, rfl, rfl, .of (hR.mono (.of s2)), row_at rr (i := 0) (sets_part hbb), wd, _, _, bb, rfl, rfl, v2.wds, ixN_nat (by rw [len_vns]; show bb < m.words.length; rw [ok.wl]; exact hbb32), ?_⟩
          rw [set_vns]
          obtain ⟨v4, t4⟩ := v3.fld (m' := { m with done := m.done + 1, words := m.words.set bb (madeW given m.words m.store rr), at_ := m.at_ + 1 }) rfl rfl rfl rfl
          refine ⟨_, rfl, p, _, dx, _, _, rfl, v3.ob, T.c_Machine, T.n_Machine_at, rfl, _, _, rfl, rfl, dx, _, v3.ob, by show 10 < 1000; decide, rfl, ?_, ((t1.trans (.of s2)).trans t3).trans t4⟩
          rw [hbs rr bb rfl hbb]
          exact v4.at
  · rintro _ H2 ⟨rfl, v2, t2⟩
    exact h H2 v2 t2
end
end SL

/-! text OkWalk -/
set_option Elab.async false
set_option linter.all false
set_option maxRecDepth 100000
set_option maxHeartbeats 4000000
namespace SL
open PySem PySem.Spec L2
section
variable {P : Program} {w : World} {K : PySem.W.Frag} {mg : Str → Option Value} {base : Heap}
/-! Machine.__init__ -/
def sp_Machine_init (K : PySem.W.Frag) : Sp := fun vs H Q _ => ∃ (p dx r g : Addr) (prog : Prog) (given : List Nat) (B : Hp), vs = [.ref p, .ref r, .ref g] ∧ (H p = some (.ins (ga K "Machine") dx []) ∧ ProgAt H r prog ∧ prog.Ok ∧ H g = some (.tup (vns given)) ∧ given.length = 8 ∧ (∀ x ∈ given, x < 16) ∧ Same B H ∧ B p = none) ∧
  ∀ H', MAt K B H' p prog given MS.init → SameT H H' → Q .non H'
theorem rep_zero (n : Nat) : (List.replicate ((n : Int)).toNat [V.int 0]).flatten = vns (List.replicate n 0) := by
  rw [show ((n : Int)).toNat = n by omega]
  induction n with
  | zero => rfl
  | succ n ih =>
    rw [List.replicate_succ, List.flatten_cons, ih, List.replicate_succ]
    rfl
theorem new2 {H : Hp} {l z : Addr} {o1 o2 : HO} (h1 : H l = none) (h2 : (upd H l o1) z = none) : Same H (upd (upd H l o1) z o2) ∧ (upd (upd H l o1) z o2) z = some o2 :=
  ⟨(same_new h1).trans (same_new h2), upd_same⟩
theorem new1 {H : Hp} {l : Addr} {o1 : HO} (h1 : H l = none) : Same H (upd H l o1) ∧ (upd H l o1) l = some o1 :=
  ⟨same_new h1, upd_same⟩
-- slots: 0:self 1:program 2:inputs   level 4
abbrev n_Machine_init : List Str := ["self", "program", "inputs"]
theorem sc_Machine_init : FnScope n_Machine_init ["self", "program", "inputs"] SL.d_Machine_init.scope := ⟨rfl, rfl, rfl, by decide +kernel, rfl, by decide +kernel, by decide +kernel⟩
theorem ok_Machine_init (T : Tx K mg w) : KCal P w K mg base "Machine" (ga K "Machine") 4 ["self", "program", "inputs"] (sp_Machine_init K) := by
  refine KCal.of T.D_Machine_init T.g_Machine T.k_Machine sc_Machine_init (fun _ _ _ _ _ _ us hl => match us, hl with | [_, _, _], _ => rfl) (fun vs H Q E h => ?_) fun f cdv A outer s H vs Q E hr h => ?_
  · obtain ⟨p, dx, r, g, prog, given, B, rfl, _⟩ := h
    rfl
  obtain ⟨p, dx, r, g, prog, given, B, rfl, u, h⟩ := h
  refine ⟨_, (pss_cons (ps_expr (pe_fn (ok_need_program T) (hr.mono (by decide)) (by rfl) (pa_cons (pv 1) pa_nil)))
    (pss_cons (ps_expr (pe_fn (ok_need_inputs T) (hr.mono (by decide)) (by rfl) (pa_cons (pv 2) pa_nil)))
    (pss_cons (ps_fld (pv 0) (pv 1) rfl)
    (pss_cons (ps_fld (pv 0) (pv 2) rfl)
    (pss_cons (ps_fld (pv 0) pe_int rfl)
    (pss_cons (ps_fld (pv 0) (pe_op op_rep (pe_lst (pa_cons pe_int pa_nil)) (pe_ci (by rfl) T.i_MANY_BOXES)) rfl)
    (pss_cons (ps_fld (pv 0) (pe_op op_rep (pe_lst (pa_cons pe_int pa_nil)) (pe_ci (by rfl) T.i_MANY_CELLS)) rfl)
    (pss_cons (ps_fld (pv 0) (pe_lst pa_nil) rfl)
    (pss_cons (ps_fld (pv 0) pe_int rfl)
    (pss_cons (ps_fld (pv 0) (pe_lst pa_nil) rfl)
    (pss_cons (ps_fld (pv 0) pe_non rfl)
    (pss_one (ps_fld (pv 0) pe_int rfl))))))))))))), ?_⟩
  obtain ⟨hp, hP, pok, hg, hgl, hgb, sB, nB⟩ := u
  refine ⟨_, rfl, r, prog, rfl, ⟨hP, pok⟩, fun H1 s1 => ⟨_, rfl, g, given, rfl, ⟨s1 _ _ hg, hgl, hgb⟩, fun H2 s2 => ?_⟩⟩
  have s12 := s1.trans s2
  -- one field written; what stood stands
  have wr : ∀ {Ha : Hp} {fs : List (Str × V)} (fs' : List (Str × V)), Ha p = some (.ins (ga K "Machine") dx fs) → Same B Ha → SameT H Ha →
      (upd Ha p (.ins (ga K "Machine") dx fs')) p = some (.ins (ga K "Machine") dx fs') ∧ Same B (upd Ha p (.ins (ga K "Machine") dx fs')) ∧ SameT H (upd Ha p (.ins (ga K "Machine") dx fs')) ∧ ∀ b xs, Ha b = some (.lst xs) → (upd Ha p (.ins (ga K "Machine") dx fs')) b = some (.lst xs) :=
    fun fs' h1 h2 h3 => ⟨upd_same, same_mut h2 nB, h3.trans (sameT_upd h1 fun xs z => by cases z), fun b xs e => by rw [upd_ne (ne_of e h1 (by intro z; cases z))]; exact e⟩
  have p2 := s12 _ _ hp
  have sB2 := sB.trans s12
  have t2 := SameT.of s12
  refine ⟨_, rfl, _, rfl, p, _, dx, _, rfl, p2, T.c_Machine, T.n_Machine_rows, by show 0 < 1000; decide, ?_⟩
  obtain ⟨p3, sB3, t3, k3⟩ := wr (putF "rows" (.ref r) []) p2 sB2 t2
  refine ⟨_, rfl, _, rfl, p, _, dx, _, rfl, p3, T.c_Machine, T.n_Machine_given, by show 1 < 1000; decide, ?_⟩
  obtain ⟨p4, sB4, t4, k4⟩ := wr (putF "given" (.ref g) (putF "rows" (.ref r) [])) p3 sB3 t3
  refine ⟨_, rfl, p, _, dx, _, rfl, p4, T.c_Machine, T.n_Machine_at, by show 2 < 1000; decide, ?_⟩
  obtain ⟨p5, sB5, t5, k5⟩ := wr (putF "at" (.int 0) (putF "given" (.ref g) (putF "rows" (.ref r) []))) p4 sB4 t4
  -- words
  refine ⟨by show 1 ≤ sizeLine; decide, fun l1 nl1 => ⟨l1, 32, _, rfl, rfl, upd_same, by decide, by decide, by show 1 * 32 ≤ sizeLine; decide, fun z1 nz1 => ?_⟩⟩
  obtain ⟨q5, w1⟩ := new2 (o2 := .lst (List.replicate (32 : Int).toNat [V.int 0]).flatten) nl1 nz1
  refine ⟨_, rfl, p, _, dx, _, rfl, q5 _ _ p5, T.c_Machine, T.n_Machine_words, by show 3 < 1000; decide, ?_⟩
  obtain ⟨p6, sB6, t6, k6⟩ := wr (putF "words" (.ref z1) (putF "at" (.int 0) (putF "given" (.ref g) (putF "rows" (.ref r) [])))) (q5 _ _ p5) (sB5.trans q5) (t5.trans (.of q5))
  have w1 := k6 _ _ w1
  have nB1 : B z1 = none := sB5.free ((same_new nl1).free nz1)
  -- store
  refine ⟨by show 1 ≤ sizeLine; decide, fun l2 nl2 => ⟨l2, 16, _, rfl, rfl, upd_same, by decide, by decide, by show 1 * 16 ≤ sizeLine; decide, fun z2 nz2 => ?_⟩⟩
  obtain ⟨q6, w2⟩ := new2 (o2 := .lst (List.replicate (16 : Int).toNat [V.int 0]).flatten) nl2 nz2
  have d12 : z1 ≠ z2 := ne_of_none (same_new (o := .lst [V.int 0]) nl2 _ _ w1) nz2
  refine ⟨_, rfl, p, _, dx, _, rfl, q6 _ _ p6, T.c_Machine, T.n_Machine_store, by show 4 < 1000; decide, ?_⟩
  obtain ⟨p7, sB7, t7, k7⟩ := wr (putF "store" (.ref z2) (putF "words" (.ref z1) (putF "at" (.int 0) (putF "given" (.ref g) (putF "rows" (.ref r) []))))) (q6 _ _ p6) (sB6.trans q6) (t6.trans (.of q6))
  have w2 := k7 _ _ w2
  have w1 := k7 _ _ (q6 _ _ w1)
  have nB2 : B z2 = none := sB6.free ((same_new nl2).free nz2)
  -- said
  refine ⟨z0, fun z3 nz3 => ?_⟩
  obtain ⟨q7, w3⟩ := new1 (o1 := .lst []) nz3
  have d13 : z1 ≠ z3 := ne_of_none w1 nz3
  have d23 : z2 ≠ z3 := ne_of_none w2 nz3
  refine ⟨_, rfl, p, _, dx, _, rfl, q7 _ _ p7, T.c_Machine, T.n_Machine_said, by show 5 < 1000; decide, ?_⟩
  obtain ⟨p8, sB8, t8, k8⟩ := wr (putF "said" (.ref z3) (putF "store" (.ref z2) (putF "words" (.ref z1) (putF "at" (.int 0) (putF "given" (.ref g) (putF "rows" (.ref r) [])))))) (q7 _ _ p7) (sB7.trans q7) (t7.trans (.of q7))
  have w3 := k8 _ _ w3
  have w1 := k8 _ _ (q7 _ _ w1)
  have w2 := k8 _ _ (q7 _ _ w2)
  have nB3 : B z3 = none := sB7.free nz3
  -- count
  refine ⟨_, rfl, p, _, dx, _, rfl, p8, T.c_Machine, T.n_Machine_count, by show 6 < 1000; decide, ?_⟩
  obtain ⟨p9, sB9, t9, k9⟩ := wr (putF "count" (.int 0) (putF "said" (.ref z3) (putF "store" (.ref z2) (putF "words" (.ref z1) (putF "at" (.int 0) (putF "given" (.ref g) (putF "rows" (.ref r) []))))))) p8 sB8 t8
  have w1 := k9 _ _ w1
  have w2 := k9 _ _ w2
  have w3 := k9 _ _ w3
  -- stands
  refine ⟨z0, fun z4 nz4 => ?_⟩
  obtain ⟨q9, w4⟩ := new1 (o1 := .lst []) nz4
  have d14 : z1 ≠ z4 := ne_of_none w1 nz4
  have d24 : z2 ≠ z4 := ne_of_none w2 nz4
  have d34 : z3 ≠ z4 := ne_of_none w3 nz4
  refine ⟨_, rfl, p, _, dx, _, rfl, q9 _ _ p9, T.c_Machine, T.n_Machine_stands, by show 7 < 1000; decide, ?_⟩
  obtain ⟨p10, sB10, t10, k10⟩ := wr (putF "stands" (.ref z4) (putF "count" (.int 0) (putF "said" (.ref z3) (putF "store" (.ref z2) (putF "words" (.ref z1) (putF "at" (.int 0) (putF "given" (.ref g) (putF "rows" (.ref r) [])))))))) (q9 _ _ p9) (sB9.trans q9) (t9.trans (.of q9))
  have w1 := k10 _ _ (q9 _ _ w1)
  have w2 := k10 _ _ (q9 _ _ w2)
  have w3 := k10 _ _ (q9 _ _ w3)
  have w4 := k10 _ _ w4
  have nB4 : B z4 = none := sB9.free nz4
  -- over, done
  refine ⟨_, rfl, p, _, dx, _, rfl, p10, T.c_Machine, T.n_Machine_over, by show 8 < 1000; decide, ?_⟩
  obtain ⟨p11, sB11, t11, k11⟩ := wr (putF "over" .non (putF "stands" (.ref z4) (putF "count" (.int 0) (putF "said" (.ref z3) (putF "store" (.ref z2) (putF "words" (.ref z1) (putF "at" (.int 0) (putF "given" (.ref g) (putF "rows" (.ref r) []))))))))) p10 sB10 t10
  refine ⟨_, rfl, p, _, dx, _, rfl, p11, T.c_Machine, T.n_Machine_done, by show 9 < 1000; decide, ?_⟩
  obtain ⟨p12, sB12, t12, k12⟩ := wr (mF r g z1 z2 z3 z4 MS.init) p11 sB11 t11
  refine h _ ⟨dx, r, g, z1, z2, z3, z4, [], p12, hP.mono t12, t12 _ _ hg, ?_, ?_, k12 _ _ (k11 _ _ w3), k12 _ _ (k11 _ _ w4), .nil, List.nodup_nil, d12, d13, d14, d23, d24, d34, by simp, sB12, fun b hb => ?_⟩ t12
  · have := k12 _ _ (k11 _ _ w1)
    rw [show (32 : Int) = ((32 : Nat) : Int) from rfl, rep_zero] at this
    exact this
  · have := k12 _ _ (k11 _ _ w2)
    rw [show (16 : Int) = ((16 : Nat) : Int) from rfl, rep_zero] at this
    exact this
  · simp only [List.append_nil, List.mem_cons, List.not_mem_nil, or_false] at hb
    rcases hb with e | e | e | e | e
    · rw [e]; exact nB
    · rw [e]; exact nB1
    · rw [e]; exact nB2
    · rw [e]; exact nB3
    · rw [e]; exact nB4
/-! _law_reads -/
def Row.none_ : Row → Bool
  | .set _ _ => true | .ask _ _ => true | .go _ => true | .fin => true | .keep => true
  | _ => false
def Row.isTH : Row → Bool
  | .tell2 _ _ => true | .hold _ _ => true
  | _ => false
theorem in_none (r : Row) : inV (.str r.word) [.str "set", .str "ask", .str "go", .str "end", .str "keep"] = r.none_ := by
  cases r with
  | bin o => cases o <;> rfl
  | _ => rfl
theorem in_th (r : Row) : inV (.str (cutS r.word none (some 4))) [.str "tell", .str "hold"] = r.isTH := by
  cases r with
  | bin o => cases o <;> rfl
  | _ => rfl
theorem is_put3 (r : Row) : decide (V.str (cutS r.word none (some 3)) = V.str "put") = r.isPut := by
  cases r with
  | bin o => cases o <;> rfl
  | _ => rfl
theorem word_len (r : Row) : r.word.length ≤ 5 := by
  cases r with
  | bin o => cases o <;> exact Nat.le_of_ble_eq_true rfl
  | _ => show _ ≤ 5; exact Nat.le_of_ble_eq_true rfl
def sp_L_reads : Sp := fun vs H Q _ => ∃ (a : Addr) (r : Row), vs = [.ref a] ∧ RowAt H a r ∧ ∀ t H', Same H H' → H' t = some (.tup (vns r.reads)) → Q (.ref t) H'
-- slots: 0:_law_row   level 1
abbrev n_L_reads : List Str := ["_law_row"]
theorem sc_L_reads : FnScope n_L_reads ["_law_row"] SL.d_L_reads.scope := ⟨rfl, rfl, rfl, by decide +kernel, rfl, by decide +kernel, by decide +kernel⟩
theorem ok_L_reads (T : Tx K mg w) : Cal P w K mg base "_law_reads" 1 ["_law_row"] sp_L_reads := by
  refine Cal.of T.D_L_reads T.g_L_reads sc_L_reads (fun _ _ _ _ _ _ us hl => match us, hl with | [_], _ => rfl) (fun vs H Q E h => ?_) fun f cdv A outer s H vs Q E hr h => ?_
  · obtain ⟨a, r, rfl, _⟩ := h
    rfl
  obtain ⟨a, r, rfl, hR, h⟩ := h
  refine ⟨_, (pss_cons (ps_if (pt_cmpR op_in_seq (pe_ix ix_tup (pv 0) pe_int (fun _ _ => rfl)) (pe_tup (pa_cons pe_str (pa_cons pe_str (pa_cons pe_str (pa_cons pe_str (pa_cons pe_str pa_nil)))))) (by rfl)) (pss_one (ps_ret (pe_tup pa_nil))) pss_nil)
    (pss_cons (ps_if (pt_cmpR op_in_seq (pe_ix ix_tup (pv 0) pe_int (fun _ _ => rfl)) (pe_tup (pa_cons pe_str (pa_cons pe_str (pa_cons pe_str pa_nil)))) (by rfl)) (pss_one (ps_ret (pe_slice sl_tupA (pv 0) (po_some pe_int) (po_some (pe_un un_neg pe_int))))) pss_nil)
    (pss_cons (ps_if (PW.pt (pw_or (pt_cmpR op_in_seq (pe_slice sl_str (pe_ix ix_tup (pv 0) pe_int (fun _ _ => rfl)) po_none (po_some pe_int)) (pe_tup (pa_cons pe_str (pa_cons pe_str pa_nil))) (by rfl)) (pw_or1 (pt_cmpR op_eq (pe_slice sl_str (pe_ix ix_tup (pv 0) pe_int (fun _ _ => rfl)) po_none (po_some pe_int)) pe_str (nomark _))))) (pss_one (ps_ret (pe_slice sl_tupA (pv 0) (po_some pe_int) po_none))) pss_nil)
    (pss_one (ps_ret (pe_slice sl_tupA (pv 0) (po_some pe_int) po_none)))))), ?_⟩
  refine ⟨_, rfl, _, _, _, _, rfl, rfl, .of hR, row_at0 r, by show 5 ≤ sizeLine; decide, fun e1 ne1 => ⟨e1, _, rfl, .inr (.of upd_same), rfl, rfl, _, rfl, ?_⟩⟩
  show if inV (.str r.word) [.str "set", .str "ask", .str "go", .str "end", .str "keep"] = true then _ else _
  rw [in_none]
  have s1 := same_new (o := .tup [.str "set", .str "ask", .str "go", .str "end", .str "keep"]) ne1
  have hR1 := hR.mono (.of s1)
  generalize upd H e1 (.tup [.str "set", .str "ask", .str "go", .str "end", .str "keep"]) = H1 at *
  cases q1 : r.none_ with
  | true =>
    have e : r.reads = [] := by cases r <;> simp [Row.none_] at q1 <;> rfl
    refine ⟨z0, fun t nt => h t _ (s1.trans (same_new nt)) ?_⟩
    rw [upd_same, e]
    rfl
  | false =>
    refine ⟨_, rfl, _, _, _, _, rfl, rfl, .of hR1, row_at0 r, by show 3 ≤ sizeLine; decide, fun e2 ne2 => ⟨e2, _, rfl, .inr (.of upd_same), rfl, rfl, _, rfl, ?_⟩⟩
    show if inV (.str r.word) [.str "if", .str "if2", .str "if3"] = true then _ else _
    rw [in_ifs]
    have s2 := s1.trans (same_new (o := .tup [.str "if", .str "if2", .str "if3"]) ne2)
    have hR2 := hR.mono (.of s2)
    generalize upd H1 e2 (.tup [.str "if", .str "if2", .str "if3"]) = H2 at *
    cases q2 : r.isIf with
    | true =>
      cases r <;> simp [Row.isIf] at q2
      exact ⟨_, rfl, 1, rfl, _, rfl, _, rfl, a, _, rfl, .of hR2, ⟨fun hw => absurd (show (1 : Nat) = 0 from hw.1) (by decide), fun _ t nt => h t _ (s2.trans (same_new nt)) upd_same⟩⟩
    | false =>
      have fin1 : ∀ (j : Nat), r.tup.drop j = vns r.reads → 0 < j → j ≤ r.tup.length → ∀ {H3 : Hp}, Same H H3 → RowAt H3 a r → rSlA K (.ref a) (some (j : Int)) none H3 Q := by
        intro j e hj hl H3 s3 hR3
        refine ⟨a, r.tup, rfl, .of hR3, fun hw => ?_, fun _ t nt => h t _ (s3.trans (same_new nt)) ?_⟩
        · have := hw.1
          rw [HT.sIx_nat] at this
          omega
        · rw [upd_same, cut_from hl, e]
      refine ⟨_, rfl, _, _, _, _, rfl, rfl, .of hR2, row_at0 r, ?_⟩
      dsimp only [tNoPart]
      have wl : r.word.length ≤ sizeLine := Nat.le_trans (word_len r) (Nat.le_of_ble_eq_true rfl)
      refine ⟨4, rfl, _, rfl, wl, by show 2 ≤ sizeLine; decide, fun e3 ne3 => ⟨e3, _, rfl, .inr (.of upd_same), rfl, rfl, _, rfl, ?_⟩⟩
      have s3 := s2.trans (same_new (o := .tup [.str "tell", .str "hold"]) ne3)
      have hR3 := hR.mono (.of s3)
      generalize upd H2 e3 (.tup [.str "tell", .str "hold"]) = H3 at *
      show if inV (.str (cutS r.word none (some 4))) [.str "tell", .str "hold"] = true then _ else _
      rw [in_th]
      cases q3 : r.isTH with
      | true =>
        refine ⟨_, rfl, 1, rfl, ?_⟩
        exact fin1 1 (by cases r <;> simp [Row.isTH] at q3 <;> rfl) (by decide) (by cases r <;> simp [Row.isTH] at q3 <;> exact Nat.le_of_ble_eq_true rfl) s3 hR3
      | false =>
        refine ⟨_, rfl, _, _, _, _, rfl, rfl, .of hR3, row_at0 r, ?_⟩
        dsimp only [tNoPart]
        refine ⟨3, rfl, _, rfl, wl, rfl, _, rfl, ?_⟩
        show if decide (V.str (cutS r.word none (some 3)) = V.str "put") = true then _ else _
        rw [is_put3]
        cases q4 : r.isPut with
        | true =>
          refine ⟨_, rfl, 1, rfl, ?_⟩
          exact fin1 1 (by cases r <;> simp [Row.isPut] at q4 <;> rfl) (by decide) (by cases r <;> simp [Row.isPut] at q4 <;> exact Nat.le_of_ble_eq_true rfl) s3 hR3
        | false =>
          refine ⟨_, rfl, 2, rfl, ?_⟩
          exact fin1 2 (by cases r <;> simp [Row.isTH] at q3 <;> simp [Row.isPut] at q4 <;> simp [Row.isIf] at q2 <;> simp [Row.none_] at q1 <;> rfl) (by decide) (by cases r <;> simp [Row.isTH] at q3 <;> simp [Row.isPut] at q4 <;> simp [Row.isIf] at q2 <;> simp [Row.none_] at q1 <;> exact Nat.le_of_ble_eq_true rfl) s3 hR3
end
end SL

/-! text OkWalk2 -/
set_option Elab.async false
set_option linter.all false
set_option maxRecDepth 100000
set_option maxHeartbeats 4000000
namespace SL
open PySem PySem.Spec L2
section
variable {P : Program} {w : World} {K : PySem.W.Frag} {mg : Str → Option Value} {base : Heap}
/-! _law_walked -/
def FoundAt (H : Hp) : V → Option Found → Prop
  | v, none => v = .non
  | v, some (.apart i) => ∃ a, v = .ref a ∧ H a = some (.tup [.str "apart", vn i])
  | v, some (.over o i) => ∃ a, v = .ref a ∧ H a = some (.tup [ovV (some o), vn i])
def sp_L_walked : Sp := fun vs H Q _ => ∃ (ap ag : Addr) (p : Prog) (given : List Nat), vs = [.ref ap, .ref ag] ∧ (ProgAt H ap p ∧ p.Ok ∧ H ag = some (.tup (vns given)) ∧ given.length = 8 ∧ ∀ x ∈ given, x < 16) ∧
  ∀ v H', Same H H' → FoundAt H' v (walked p given) → Q v H'
theorem in_outS (r : Row) : inV (.str r.word) [.str "tell2", .str "put2", .str "if2"] = r.out := by
  cases r with
  | bin o => cases o <;> rfl
  | _ => rfl
theorem init_ok {p : Prog} (h : p.Ok) : MS.init.Ok p where
  at_ := h.pos
  wl := rfl
  wb := fun x hx => by rw [(List.mem_replicate.mp hx).2]; decide
  sl := rfl
  sb := fun x hx => by rw [(List.mem_replicate.mp hx).2]; decide
  cnt := Nat.le_refl _
  few := Nat.zero_le _
  sts := fun _ h => by cases h
theorem pick_2 (a b : V) : pickV [a, b] none none (some 2) = [a] ∧ pickV [a, b] (some 1) none (some 2) = [b] := by
  have e1 : sliceRange (sliceBounds none none (some 2) 2).1 (sliceBounds none none (some 2) 2).2.1 (sliceBounds none none (some 2) 2).2.2 = [0] := by decide +kernel
  have e2 : sliceRange (sliceBounds (some 1) none (some 2) 2).1 (sliceBounds (some 1) none (some 2) 2).2.1 (sliceBounds (some 1) none (some 2) 2).2.2 = [1] := by decide +kernel
  unfold pickV
  exact ⟨by rw [show [a, b].length = 2 from rfl, e1]; rfl, by rw [show [a, b].length = 2 from rfl, e2]; rfl⟩
theorem pick_4 (a b c d : V) : pickV [a, b, c, d] none none (some 2) = [a, c] ∧ pickV [a, b, c, d] (some 1) none (some 2) = [b, d] := by
  have e1 : sliceRange (sliceBounds none none (some 2) 4).1 (sliceBounds none none (some 2) 4).2.1 (sliceBounds none none (some 2) 4).2.2 = [0, 2] := by decide +kernel
  have e2 : sliceRange (sliceBounds (some 1) none (some 2) 4).1 (sliceBounds (some 1) none (some 2) 4).2.1 (sliceBounds (some 1) none (some 2) 4).2.2 = [1, 3] := by decide +kernel
  unfold pickV
  exact ⟨by rw [show [a, b, c, d].length = 4 from rfl, e1]; rfl, by rw [show [a, b, c, d].length = 4 from rfl, e2]; rfl⟩
theorem pick_vns {r : Row} (m : MS) (h : r.out = true) : ∃ xs ys, pickV (vns (r.reads.map m.w)) none none (some 2) = vns xs ∧ pickV (vns (r.reads.map m.w)) (some 1) none (some 2) = vns ys ∧ (!decide (xs = ys)) = apartB m r ∧ xs.length ≤ 2 ∧ ys.length ≤ 2 := by
  cases r with
  | tell2 c d =>
    refine ⟨[m.w c], [m.w d], (pick_2 _ _).1, (pick_2 _ _).2, ?_, Nat.le_of_ble_eq_true rfl, Nat.le_of_ble_eq_true rfl⟩
    show _ = decide (m.w c ≠ m.w d)
    rw [← decide_not]
    exact decide_eq_decide.mpr (by simp)
  | if2 c d t =>
    refine ⟨[m.w c], [m.w d], (pick_2 _ _).1, (pick_2 _ _).2, ?_, Nat.le_of_ble_eq_true rfl, Nat.le_of_ble_eq_true rfl⟩
    show _ = decide (m.w c ≠ m.w d)
    rw [← decide_not]
    exact decide_eq_decide.mpr (by simp)
  | put2 c d e f =>
    refine ⟨[m.w c, m.w e], [m.w d, m.w f], (pick_4 _ _ _ _).1, (pick_4 _ _ _ _).2, ?_, Nat.le_of_ble_eq_true rfl, Nat.le_of_ble_eq_true rfl⟩
    show _ = (decide (m.w c ≠ m.w d) || decide (m.w e ≠ m.w f))
    rw [← decide_not, ← Bool.decide_or]
    refine decide_eq_decide.mpr ?_
    simp
    omega
  | _ => cases h
theorem apart_none {r : Row} (m : MS) (h : r.out = false) : apartB m r = false := by
  cases r <;> first | rfl | cases h
-- slots: 0:_law_program_here 1:_law_given 2:_law_machine 3:_law_beat 4:_law_both 5:_law_is_out 6:_law_row 7:_law_words 8:_law_box   level 6
abbrev n_L_walked : List Str := ["_law_program_here", "_law_given", "_law_machine", "_law_beat", "_law_both", "_law_is_out", "_law_row", "_law_words", "_law_box"]
theorem sc_L_walked : FnScope n_L_walked ["_law_program_here", "_law_given"] SL.d_L_walked.scope := ⟨rfl, rfl, rfl, by decide +kernel, rfl, by decide +kernel, by decide +kernel⟩
theorem ok_L_walked (T : Tx K mg w) : Cal P w K mg base "_law_walked" 6 ["_law_program_here", "_law_given"] sp_L_walked := by
  refine Cal.of T.D_L_walked T.g_L_walked sc_L_walked (fun _ _ _ _ _ _ us hl => match us, hl with | [_, _], _ => rfl) (fun vs H Q E h => ?_) fun f cdv A outer s H vs Q E hr h => ?_
  · obtain ⟨ap, ag, p, given, rfl, _⟩ := h
    rfl
  obtain ⟨ap, ag, p, given, rfl, hh, h⟩ := h
  refine ⟨_, (pss_cons (ps_set (i := 2) sc_L_walked.nd rfl (Or.inl rfl) (pe_mk (ok_Machine_init T) (hr.mono (by decide)) (by rfl) (pa_cons (pv 0) (pa_cons (pv 1) pa_nil))))
    (pss_cons (ps_for PassesOwn.never rfl (pi_range1 rfl T.f_range (pa_cons pe_int pa_nil)) (pg_name (i := 3) sc_L_walked.nd rfl (Or.inl rfl))
    (pss_cons (ps_asg (pe_tup (pa_cons (pe_ix ix_tup (pv 0) (pe_mth0 (pv 2) (ok_Machine_place T) (hr.mono (by decide))) (fun _ _ => rfl)) (pa_cons (pe_mth0 (pv 2) (ok_Machine_boxes T) (hr.mono (by decide))) pa_nil))) (pg_tup rfl (pgs_cons (pg_name (i := 6) sc_L_walked.nd rfl (Or.inl rfl)) (pgs_cons (pg_name (i := 7) sc_L_walked.nd rfl (Or.inr rfl)) pgs_nil))))
    (pss_cons (ps_setLc (i := 4)  (own := [("_law_box", 8)]) rfl sc_L_walked.nd rfl rfl (sw_true rfl rfl rfl (by decide +kernel)) (pi_tup (pe_fn (ok_L_reads T) (hr.mono (by decide)) (by rfl) (pa_cons (pv 6) pa_nil))) (blkOk_by (own := [("_law_box", 8)]) (N := n_L_walked) (sc := SL.d_L_walked.scope) (by decide +kernel)) (fun _ _ _ _ _ => (pg_name (i := 8) sc_L_walked.nd rfl (Or.inl rfl))) (fun _ _ _ _ _ => pts_nil) (fun _ _ _ _ _ => (pe_ix (ix_tupK rfl) (pv 7) (pv 8) (fun _ _ => rfl))))
    (pss_cons (ps_set (i := 5) sc_L_walked.nd rfl (Or.inl rfl) (pe_cmpR op_in_seq (pe_ix ix_tup (pv 6) pe_int (fun _ _ => rfl)) (pe_tup (pa_cons pe_str (pa_cons pe_str (pa_cons pe_str pa_nil)))) (by rfl)))
    (Evl.pss_cut (ps_if (PW.pt (pw_and (pt_val (pv 5)) (pw_and1 (pt_cmpR (op_neD hr.units) (pe_slice3 (pv 4) po_none po_none (po_some pe_int)) (pe_slice3 (pv 4) (po_some pe_int) po_none (po_some pe_int)) (nomark _))))) (pss_one (ps_ret (pe_tup (pa_cons pe_str (pa_cons (pe_mth0 (pv 2) (ok_Machine_place T) (hr.mono (by decide))) pa_nil))))) pss_nil)
    (pss_cons (ps_expr (pe_mth0 (pv 2) (ok_Machine_beat T) (hr.mono (by decide))))
    (pss_one (ps_if (pt_cmpR op_notN (pe_mth0 (pv 2) (ok_Machine_end T) (hr.mono (by decide))) pe_non (nomark _)) (pss_one (ps_ret (pe_tup (pa_cons (pe_mth0 (pv 2) (ok_Machine_end T) (hr.mono (by decide))) (pa_cons (pe_mth0 (pv 2) (ok_Machine_place T) (hr.mono (by decide))) pa_nil))))) pss_nil))))))))
    (pss_one (ps_ret pe_non)))), ?_⟩
  obtain ⟨hP, pok, hg, hgl, hgb⟩ := hh
  refine ⟨_, rfl, _, rfl, fun mc mdx nmc nmdx nex => ?_⟩
  have s0 : Same H (upd (upd H mdx (.own mc)) mc (.ins (ga K "Machine") mdx [])) := (same_new nmdx).trans (same_new (by rw [upd_ne nex.symm]; exact nmc))
  refine ⟨mc, mdx, ap, ag, p, given, H, rfl, ⟨upd_same, hP.mono (.of s0), pok, s0 _ _ hg, hgl, hgb, s0, nmc⟩, fun H1 v1 t1 => ⟨rfl, ?_⟩⟩
  refine ⟨160, rfl, by decide, by decide, ?_⟩
  refine for_it walk_range (fun i σ H2 => ∃ v3 v4 v5 v6 v7 v8 m, σ = [some (.ref ap), some (.ref ag), some (.ref mc), v3, v4, v5, v6, v7, v8] ∧ MAt K H H2 mc p given m ∧ m.Ok p ∧ m.over = none ∧ m.said.length ≤ i ∧ walked p given = walkF p given (160 - i) m) ⟨none, none, none, none, none, none, MS.init, rfl, v1, init_ok pok, rfl, Nat.le_refl _, rfl⟩ (fun _ _ _ _ _ => trivial) ?_ ?_
  · rintro i x σ H2 H3 hi ⟨v3, v4, v5, v6, v7, v8, m, rfl, ⟨dx, r, g, wd, st, sa, sn, as, v⟩, ok, ho, hsd, hwk⟩ ⟨rfl, rfl⟩
    have hi : i < 160 := hi
    have hA0 := v.off.same
    obtain ⟨rs, hA, hRs⟩ := hP.mono (.of hA0)
    obtain ⟨b, hb, hR⟩ := paired_get hRs (at_eq ok.at_)
    have eA : atI (rs.map V.ref) ((m.at_ : Nat) : Int) = some (.ref b) := atI_nat (by rw [List.getElem?_map, hb]; rfl)
    have hrok := row_ok pok ok.at_
    have hwk2 : walked p given = if apartB m (p.at m.at_) then some (.apart m.at_) else
      match (m.beat p given).over with
      | some o => some (.over o (m.beat p given).at_)
      | none => walkF p given (160 - (i + 1)) (m.beat p given) := by
      rw [hwk, show 160 - i = (160 - (i + 1)) + 1 by omega]
      rfl
    generalize hrr : p.at m.at_ = rr at *
    refine ⟨_, rfl, _, rfl, mc, dx, _, rfl, v.ob, rfl, mc, dx, r, g, wd, st, sa, sn, as, H, p, given, m, rfl, v, _, _, _, _, rfl, rfl, .of hA, eA, ?_⟩
    refine ⟨_, rfl, mc, dx, _, rfl, v.ob, rfl, mc, dx, r, g, wd, st, sa, sn, as, H, p, given, m, rfl, v, fun W H4 nW s4 hW => ?_⟩
    refine ⟨by show 2 ≤ sizeLine; decide, fun e ne => ?_⟩
    refine g2_go upd_same ?_
    have s5 := s4.trans (same_new (o := .tup [.ref b, .ref W]) ne)
    have hR5 := hR.mono (.of s5)
    have hW5 := same_new (o := .tup [.ref b, .ref W]) ne _ _ hW
    have v5' := v.ext s5
    generalize upd H4 e (.tup [.ref b, .ref W]) = H5 at *
    refine ⟨_, rfl, b, rr, rfl, hR5, fun rt H6 s6 hrt => ⟨rt, rfl, ⟨_, .of hrt⟩, fun D nD => ?_⟩⟩
    have hbox := reads_box hrok
    have few := reads_few' rr
    refine lc_pure walk_tup rr.reads (fun c => [vn (m.w c)]) (len_vns _) (by omega) (fun _ => Nat.le_refl _) nD (fun H7 s7 => .of (s7 _ _ hrt)) same_yat ?_ ?_
    · rintro i c x H7 H8 Kq N hi s7 ⟨rfl, hx⟩ hK hN
      rw [get_vns hi] at hx
      cases hx
      exact ⟨rfl, _, rfl, _, rfl, _, _, _, _, rfl, rfl, .of ((s6.trans s7) _ _ hW5), at_vns (by rw [ok.wl]; exact hbox c (List.mem_of_getElem? hi)), hK _ _ (Same.refl _) rfl⟩
    intro H7 s7 hD
    have hD : H7 D = some (.lst (vns (rr.reads.map m.w))) := by
      rw [hD, flat_one]
      unfold vns
      rw [List.map_map]
      rfl
    have s57 := s6.trans s7
    refine ⟨_, rfl, _, _, _, _, rfl, rfl, .of (hR5.mono (.of s57)), row_at0 rr, by show 3 ≤ sizeLine; decide, fun e3 ne3 => ⟨e3, _, rfl, .inr (.of upd_same), rfl, rfl, ?_⟩⟩
    have s8 := same_new (o := .tup [.str "tell2", .str "put2", .str "if2"]) ne3
    have v8' := (v5'.ext s57).ext s8
    have hD8 := s8 _ _ hD
    have s58 := s57.trans s8
    generalize upd H7 e3 (.tup [.str "tell2", .str "put2", .str "if2"]) = H8 at *
    have eo : inV (.str rr.word) [.str "tell2", .str "put2", .str "if2"] = rr.out := in_outS rr
    refine ⟨fun σ9 H9 => apartB m rr = false ∧ (∃ x3 x5, σ9 = [some (.ref ap), some (.ref ag), some (.ref mc), x3, some (.ref D), x5, some (.ref b), some (.ref W), v8]) ∧ Same H8 H9, ?_, ?_⟩
    · refine ⟨_, rfl, rr.out, congrArg V.bl eo, ?_⟩
      cases q : rr.out with
      | false => exact ⟨apart_none m q, ⟨_, _, rfl⟩, Same.refl _⟩
      | true =>
        obtain ⟨xs, ys, e1, e2, e3', l1, l2⟩ := pick_vns m q
        refine ⟨_, rfl, ?_⟩
        dsimp only [tNoPart]
        refine ⟨2, rfl, D, _, rfl, .of hD8, by decide, by rw [e1, len_vns, sizeLine_eq]; omega, fun F nF => ?_⟩
        rw [e1]
        refine ⟨_, rfl, 1, rfl, ?_⟩
        dsimp only [tNoPart]
        have s9 := same_new (o := .lst (vns xs)) nF
        refine ⟨2, rfl, D, _, rfl, .of (s9 _ _ hD8), by decide, by rw [e2, len_vns, sizeLine_eq]; omega, fun G nG => ?_⟩
        rw [e2]
        have s10 := same_new (o := .lst (vns ys)) nG
        have hF := s10 _ _ (upd_same (H := H8) (a := F) (o := .lst (vns xs)))
        have hG := upd_same (H := upd H8 F (.lst (vns xs))) (a := G) (o := .lst (vns ys))
        have v11 := v8'.ext (s9.trans s10)
        refine ⟨_, _, dp_lst hF, dp_lst hG, shaped_lst _, shaped_lst _, _, rfl, ?_⟩
        rw [eqv_lst, e3']
        cases qa : apartB m rr with
        | false => exact ⟨rfl, ⟨_, _, rfl⟩, s9.trans s10⟩
        | true =>
          refine ⟨_, rfl, mc, dx, _, rfl, v11.ob, rfl, mc, dx, r, g, wd, st, sa, sn, as, H, p, given, m, rfl, v11, by show 2 ≤ sizeLine; decide, fun t nt => h _ _ (v11.off.same.trans (same_new nt)) ?_⟩
          rw [hwk2, qa]
          exact ⟨t, rfl, upd_same⟩
    · rintro σ9 H9 ⟨hap, ⟨x3, x5, rfl⟩, s9⟩
      have v9 := v8'.ext s9
      refine ⟨_, rfl, mc, dx, _, rfl, v9.ob, rfl, mc, dx, r, g, wd, st, sa, sn, as, H, p, given, m, rfl, ⟨v9, pok, ok, ho, hgl, by omega⟩, fun H10 v10 t10 => ?_⟩
      obtain ⟨ok2, sd2⟩ := ok.beat pok ho hgl hgb
      rw [hap] at hwk2
      obtain ⟨dx', r', g', wd', st', sa', sn', as', v10⟩ := v10
      refine ⟨_, rfl, mc, dx', _, rfl, v10.ob, rfl, mc, dx', r', g', wd', st', sa', sn', as', H, p, given, _, rfl, v10, ?_⟩
      cases qo : (m.beat p given).over with
      | none =>
        refine ⟨rfl, _, rfl, ?_⟩
        refine ⟨_, _, _, _, _, _, m.beat p given, rfl, v10.at, ok2, qo, by omega, ?_⟩
        rw [hwk2, qo]
        rfl
      | some o =>
        have hwk3 : walked p given = some (.over o (m.beat p given).at_) := by
          rw [hwk2, qo]
          rfl
        refine ⟨rfl, _, rfl, ?_⟩
        cases o with
        | fin =>
          refine ⟨_, rfl, mc, dx', _, rfl, v10.ob, rfl, mc, dx', r', g', wd', st', sa', sn', as', H, p, given, _, rfl, v10, ?_⟩
          refine ⟨_, rfl, mc, dx', _, rfl, v10.ob, rfl, mc, dx', r', g', wd', st', sa', sn', as', H, p, given, _, rfl, v10, by show 2 ≤ sizeLine; decide, fun t nt => h _ _ (v10.off.same.trans (same_new nt)) ?_⟩
          rw [hwk3]
          refine ⟨t, rfl, ?_⟩
          rw [upd_same, qo]
        | slip =>
          refine ⟨_, rfl, mc, dx', _, rfl, v10.ob, rfl, mc, dx', r', g', wd', st', sa', sn', as', H, p, given, _, rfl, v10, ?_⟩
          refine ⟨_, rfl, mc, dx', _, rfl, v10.ob, rfl, mc, dx', r', g', wd', st', sa', sn', as', H, p, given, _, rfl, v10, by show 2 ≤ sizeLine; decide, fun t nt => h _ _ (v10.off.same.trans (same_new nt)) ?_⟩
          rw [hwk3]
          refine ⟨t, rfl, ?_⟩
          rw [upd_same, qo]
  · rintro σ H2 ⟨v3, v4, v5, v6, v7, v8, m, rfl, ⟨dx, r, g, wd, st, sa, sn, as, v⟩, ok, ho, hsd, hwk⟩
    refine h _ _ v.off.same ?_
    rw [hwk]
    exact rfl
end
end SL

/-! text OkNext -/
set_option Elab.async false
set_option linter.all false
set_option maxRecDepth 100000
set_option maxHeartbeats 4000000
namespace SL
open PySem PySem.Spec L2
section
variable {P : Program} {w : World} {K : PySem.W.Frag} {mg : Str → Option Value} {base : Heap}
/-! the law's numbers: what _law_m is, and how much it has left -/
def mK (c o : Addr) (k : Int) : List (Key × V) := [(.inr "cells", .ref c), (.inr "at", .int k), (.inr "own", .ref o)]
structure GAt (H : Hp) (a c o : Addr) (n : Nat) : Prop where
  ex : ∃ (cs ow : List Int) (k : Int), H a = some (.dK (mK c o k)) ∧ H c = some (.lst (cs.map V.int)) ∧ H o = some (.lst (ow.map V.int)) ∧ cs.length = ow.length ∧ 0 < cs.length ∧ 0 ≤ k ∧ k + n ≤ 1099511627776
  ne : c ≠ o
def Fr (a o : Addr) (H H' : Hp) : Prop := ∀ b ob, b ≠ a → b ≠ o → H b = some ob → H' b = some ob
theorem Fr.refl {a o : Addr} {H : Hp} : Fr a o H H := fun _ _ _ _ h => h
theorem Fr.of {a o : Addr} {H H' : Hp} (h : Same H H') : Fr a o H H' := fun b ob _ _ e => h b ob e
theorem Fr.trans {a o : Addr} {H H' H'' : Hp} (h : Fr a o H H') (h' : Fr a o H' H'') : Fr a o H H'' := fun b ob n1 n2 e => h' b ob n1 n2 (h b ob n1 n2 e)
theorem GAt.mono {H : Hp} {a c o : Addr} {n m : Nat} (h : GAt H a c o n) (e : m ≤ n) : GAt H a c o m := by
  obtain ⟨⟨cs, ow, k, h1, h2, h3, h4, h5, h6, h7⟩, ne⟩ := h
  exact ⟨⟨cs, ow, k, h1, h2, h3, h4, h5, h6, by omega⟩, ne⟩
theorem GAt.ext {H H' : Hp} {a c o : Addr} {n : Nat} (h : GAt H a c o n) (e : Same H H') : GAt H' a c o n := by
  obtain ⟨⟨cs, ow, k, h1, h2, h3, h4, h5, h6, h7⟩, ne⟩ := h
  exact ⟨⟨cs, ow, k, e _ _ h1, e _ _ h2, e _ _ h3, h4, h5, h6, h7⟩, ne⟩
/-- what is none of the two stands -/
theorem GAt.tup {H : Hp} {a c o b : Addr} {n : Nat} {xs : List V} (h : GAt H a c o n) (e : H b = some (.tup xs)) : b ≠ a ∧ b ≠ o := by
  obtain ⟨⟨cs, ow, k, h1, h2, h3, h4, h5, h6, h7⟩, ne⟩ := h
  exact ⟨ne_of e h1 (by intro z; cases z), ne_of e h3 (by intro z; cases z)⟩
theorem GAt.new {H : Hp} {a c o b : Addr} {n : Nat} (h : GAt H a c o n) (e : H b = none) : b ≠ a ∧ b ≠ o := by
  obtain ⟨⟨cs, ow, k, h1, h2, h3, h4, h5, h6, h7⟩, ne⟩ := h
  exact ⟨(ne_of_none h1 e).symm, (ne_of_none h3 e).symm⟩
theorem GAt.lst {H : Hp} {a c o b : Addr} {n : Nat} {xs : List V} (h : GAt H a c o n) (e : H b = some (.lst xs)) : b ≠ a := by
  obtain ⟨⟨cs, ow, k, h1, h2, h3, h4, h5, h6, h7⟩, ne⟩ := h
  exact ne_of e h1 (by intro z; cases z)
theorem GAt.sameT {H H' : Hp} {a c o : Addr} {n : Nat} (h : GAt H a c o n) (f : Fr a o H H') : SameT H H' := fun b xs e => f b _ (h.tup e).1 (h.tup e).2 e
theorem cut_toN (n : Nat) (xs : List V) : cutV xs none (some (n : Int)) = xs.take n := by
  unfold cutV
  rw [HT.sIx_none, HT.sIx_nat]
  show List.take (min n xs.length - 0) (xs.drop 0) = _
  rw [List.drop_zero, Nat.sub_zero, ← List.take_eq_take_min]
def pdI (l : List Int) : List PyData := l.map fun n => PyData.int n
theorem dp_allI {K : PySem.W.Frag} {H : Hp} : ∀ l : List Int, DpAll K H (l.map V.int) (pdI l)
  | [] => .nil
  | n :: r => .cons (.int _) (dp_allI r)
theorem lay_pdI : ∀ l : List Int, PyData.canLayAll0 (pdI l) = true
  | [] => rfl
  | n :: r => by
    show (PyData.canLay0 (.int n) && PyData.canLayAll0 (pdI r)) = true
    rw [lay_pdI r]
    rfl
theorem depth_pdI : ∀ l : List Int, PyData.depthAll (pdI l) ≤ 1
  | [] => Nat.zero_le _
  | n :: r => by
    have := depth_pdI r
    show max (PyData.depth (.int n)) (PyData.depthAll (pdI r)) ≤ 1
    exact Nat.max_le.mpr ⟨Nat.zero_le _, this⟩
theorem shaped_lstI (l : List Int) : SeqAt.shaped (.list (pdI l)) = true := by
  unfold SeqAt.shaped
  rw [show PyData.canLay0 (.list (pdI l)) = PyData.canLayAll0 (pdI l) from rfl, lay_pdI, Bool.true_and]
  refine decide_eq_true ?_
  show PyData.depthAll (pdI l) + 1 ≤ 64
  have := depth_pdI l
  omega
theorem eqv_nilI (l : List Int) : PyData.eqv (.list (pdI l)) (.list (pd [])) = l.isEmpty := by
  cases l <;> rfl
theorem sql_sm {K : PySem.W.Frag} {H H' : Hp} {a : Addr} {xs : List V} (h : SqL K H a xs) (e : Same H H') : SqL K H' a xs := by
  rcases h with (h | ⟨o, h⟩) | h
  · exact .inl (.inl (e _ _ h))
  · exact .inl (.inr ⟨o, e _ _ h⟩)
  · exact .inr h
theorem flat_map1 (f : Int → Int) (l : List Int) : l.flatMap (fun z => [V.int (f z)]) = (l.map f).map V.int := by
  induction l with
  | nil => rfl
  | cons a r ih =>
    rw [List.flatMap_cons, ih]
    rfl
theorem wlk_len {l : List Int} : (l.map V.int).length = l.length := List.length_map ..
theorem get_int {l : List Int} {i : Nat} {z : Int} (h : l[i]? = some z) : (l.map V.int)[i]? = some (.int z) := by rw [List.getElem?_map, h]; rfl
def sp_L_begin (K : PySem.W.Frag) : Sp := fun vs H Q _ => ∃ (l : Addr) (xs : List Int), vs = [.ref l] ∧ SqL K H l (xs.map V.int) ∧ ∀ a c o H', GAt H' a c o 1099511627776 → Same H H' → Q (.ref a) H'
-- slots: 0:_law_script 1:_law_cells 2:_law_great 3:_law_cell   level 1
abbrev n_L_begin : List Str := ["_law_script", "_law_cells", "_law_great", "_law_cell"]
theorem sc_L_begin : FnScope n_L_begin ["_law_script"] SL.d_L_begin.scope := ⟨rfl, rfl, rfl, by decide +kernel, rfl, by decide +kernel, by decide +kernel⟩
theorem ok_L_begin (T : Tx K mg w) : Cal P w K mg base "_law_begin" 1 ["_law_script"] (sp_L_begin K) := by
  refine Cal.of T.D_L_begin T.g_L_begin sc_L_begin (fun _ _ _ _ _ _ us hl => match us, hl with | [_], _ => rfl) (fun vs H Q E h => ?_) fun f cdv A outer s H vs Q E hr h => ?_
  · obtain ⟨l, xs, rfl, _⟩ := h
    rfl
  obtain ⟨l, xs, rfl, hl, h⟩ := h
  refine ⟨_, (pss_cons (ps_set (i := 1) sc_L_begin.nd rfl (Or.inl rfl) (pe_op op_cat (pe_callTy call_list_of (by rfl) T.f_list (by decide +kernel) (pa_cons (pe_slice sl_list (pv 0) po_none (po_some pe_int)) pa_nil)) (pe_op op_rep (pe_lst (pa_cons pe_int pa_nil)) (pe_callTy call_int1 (by rfl) T.f_int (by decide +kernel) (pa_cons (pe_cmpR (op_eqD hr.units) (pv 0) (pe_lst pa_nil) (nomark _)) pa_nil)))))
    (pss_cons (ps_setLc (i := 2)  (own := [("_law_cell", 3)]) rfl sc_L_begin.nd rfl rfl (sw_true rfl rfl rfl (by decide +kernel)) (pi_list (pv 1)) (blkOk_by (own := [("_law_cell", 3)]) (N := n_L_begin) (sc := SL.d_L_begin.scope) (by decide +kernel)) (fun _ _ _ _ _ => (pg_name (i := 3) sc_L_begin.nd rfl (Or.inl rfl))) (fun _ _ _ _ _ => pts_nil) (fun _ _ _ _ _ => (pe_ifExp (pt_cmpR op_ge (pv 3) (pe_op op_pow pe_int pe_int) (nomark _)) (pv 3) pe_int)))
    (pss_one (ps_ret (pe_disp (pps_cons pe_str (pv 1) (pps_cons pe_str pe_int (pps_cons pe_str (pv 2) pps_nil))) (by rfl) (by rfl) (fun z => by cases z) (by decide)))))), ?_⟩
  refine ⟨_, rfl, ?_⟩
  dsimp only [tNoPart]
  refine ⟨64, rfl, l, _, rfl, hl, fun p1 n1 => ⟨p1, _, rfl, .inl (.of upd_same), fun p2 n2 => ?_⟩⟩
  have e64 : cutV (xs.map V.int) none (some 64) = (xs.take 64).map V.int := by rw [show (64 : Int) = ((64 : Nat) : Int) from rfl, cut_toN, List.map_take]
  rw [e64] at n2 ⊢
  have q2 := (same_new (o := .lst ((xs.take 64).map V.int)) n1).trans (same_new (o := .lst ((xs.take 64).map V.int)) n2)
  have g2 := upd_same (H := upd H p1 (.lst ((xs.take 64).map V.int))) (a := p2) (o := .lst ((xs.take 64).map V.int))
  have lt : (xs.take 64).length ≤ 64 := List.length_take_le _ _
  have ht : (xs.take 64).length = 0 → xs.isEmpty = true := fun e => by
    cases xs with
    | nil => rfl
    | cons => simp at e
  generalize xs.take 64 = ts at *
  generalize upd (upd H p1 (.lst (ts.map V.int))) p2 (.lst (ts.map V.int)) = H2 at *
  refine ⟨by show 1 ≤ sizeLine; decide, fun p3 n3 => ⟨_, rfl, z0, fun p4 n4 => ?_⟩⟩
  have q4 := (same_new (o := .lst [V.int 0]) n3).trans (same_new (o := .lst []) n4)
  have g3 := same_new (o := .lst []) n4 _ _ (upd_same (H := H2) (a := p3) (o := .lst [V.int 0]))
  refine ⟨_, _, .lst ?_ (dp_allI xs), dp_nilL upd_same, shaped_lstI xs, shaped_lst [], .inr ⟨_, rfl, ?_⟩⟩
  · exact sql_sm hl (q2.trans q4)
  rw [eqv_nilI]
  have g2' := q4 _ _ g2
  have q24 := q2.trans q4
  generalize upd (upd H2 p3 (.lst [V.int 0])) p4 (.lst []) = H4 at *
  have tail : ∀ (us : List Int) (H5 : Hp) (p6 : Addr), 0 < us.length → us.length ≤ 65 → Same H H5 → H5 p6 = some (.lst (us.map V.int)) → True := fun _ _ _ _ _ _ _ => trivial
  have e1 : ∃ k : Nat, (if xs.isEmpty = true then (1 : Int) else 0) = (k : Int) ∧ k ≤ 1 ∧ (ts.length = 0 → k = 1) := by
    cases q : xs.isEmpty with
    | true => exact ⟨1, rfl, Nat.le_refl _, fun _ => rfl⟩
    | false => exact ⟨0, rfl, Nat.zero_le _, fun e => by rw [ht e] at q; cases q⟩
  obtain ⟨k, ek, hk1, hk2⟩ := e1
  rw [ek]
  refine ⟨p3, (k : Int), _, rfl, rfl, g3, by omega, by omega, ?_, fun p5 n5 => ?_⟩
  · show 1 * ((k : Int)).toNat ≤ sizeLine
    rw [sizeLine_eq]
    omega
  have er : (List.replicate ((k : Int)).toNat [V.int 0]).flatten = (List.replicate k (0 : Int)).map V.int := by
    rw [show ((k : Int)).toNat = k by omega]
    rcases Nat.le_one_iff_eq_zero_or_eq_one.mp hk1 with e | e <;> rw [e] <;> rfl
  rw [er]
  have q5 := same_new (o := .lst ((List.replicate k (0 : Int)).map V.int)) n5
  have g5 := upd_same (H := H4) (a := p5) (o := .lst ((List.replicate k (0 : Int)).map V.int))
  refine ⟨p2, p5, _, _, rfl, rfl, q5 _ _ g2', g5, ?_, fun p6 n6 => ?_⟩
  · rw [wlk_len, wlk_len, List.length_replicate, sizeLine_eq]
    omega
  rw [← List.map_append]
  have q6 := q24.trans (q5.trans (same_new (o := .lst ((ts ++ List.replicate k (0 : Int)).map V.int)) n6))
  have g6 := upd_same (H := upd H4 p5 (.lst ((List.replicate k (0 : Int)).map V.int))) (a := p6) (o := .lst ((ts ++ List.replicate k (0 : Int)).map V.int))
  have hpos : 0 < (ts ++ List.replicate k (0 : Int)).length := by
    rw [List.length_append, List.length_replicate]
    by_cases e : ts.length = 0
    · rw [hk2 e]; omega
    · omega
  have hfew : (ts ++ List.replicate k (0 : Int)).length ≤ 65 := by rw [List.length_append, List.length_replicate]; omega
  generalize ts ++ List.replicate k (0 : Int) = us at *
  generalize upd (upd H4 p5 (.lst ((List.replicate k (0 : Int)).map V.int))) p6 (.lst (us.map V.int)) = H6 at *
  refine ⟨_, rfl, p6, rfl, ⟨_, .of g6⟩, fun D nD => ?_⟩
  refine lc_pure walk_list us (fun z => [V.int (if decide ((10 : Int) ^ (18 : Int).toNat ≤ z) = true then z else 0)]) wlk_len (by omega) (fun _ => Nat.le_refl _) nD (fun H7 s7 => .of (s7 _ _ g6)) same_yat ?_ ?_
  · rintro i z x H7 H8 Kq N hi s7 ⟨rfl, hx⟩ hK hN
    rw [get_int hi] at hx
    cases hx
    refine ⟨rfl, _, rfl, _, _, rfl, rfl, ⟨by decide, by decide, by decide⟩, _, _, rfl, rfl, _, rfl, ?_⟩
    show if decide ((10 : Int) ^ (18 : Int).toNat ≤ z) = true then _ else _
    cases q : decide ((10 : Int) ^ (18 : Int).toNat ≤ z) with
    | true => exact ⟨_, rfl, hK _ _ (Same.refl _) (by rw [q]; rfl)⟩
    | false => exact hK _ _ (Same.refl _) (by rw [q]; rfl)
  intro H7 s7 hD
  rw [flat_map1] at hD
  have g7 := s7 _ _ g6
  have lD : (us.map fun z => if decide ((10 : Int) ^ (18 : Int).toNat ≤ z) = true then z else 0).length = us.length := List.length_map ..
  generalize us.map (fun z => if decide ((10 : Int) ^ (18 : Int).toNat ≤ z) = true then z else 0) = ow at *
  have nD6 : p6 ≠ D := ne_of_none g6 nD
  refine fun a na => ⟨_, rfl, _, rfl, upd_same, mK p6 D 0, rfl, by show 3 ≤ 15; decide, ?_⟩
  generalize eH8 : upd (upd H7 a _) a _ = H8
  have s8 : Same H7 H8 := fun b ob e => by
    have n := ne_of_none e na
    rw [← eH8, upd_ne n, upd_ne n]
    exact e
  have nac : p6 ≠ a := ne_of_none g7 na
  have naD : D ≠ a := ne_of_none hD na
  refine h a p6 D H8 ⟨⟨us, ow, 0, ?_, s8 _ _ g7, s8 _ _ hD, lD.symm, hpos, Int.le_refl _, by decide⟩, nD6⟩ ((q6.trans s7).trans s8)
  rw [← eH8]
  exact upd_same
theorem put_at {c o : Addr} {k : Int} {v : V} : putK (mK c o k) (.inr "at") v = [(.inr "cells", .ref c), (.inr "at", v), (.inr "own", .ref o)] := rfl
theorem get_at {H : Hp} {a c o : Addr} {k : Int} (h : H a = some (.dK (mK c o k))) : DGet H a (.str "at") (some (.int k)) := DGet.k (k := (Sum.inr "at" : Key)) h
theorem get_cells {H : Hp} {a c o : Addr} {k : Int} (h : H a = some (.dK (mK c o k))) : DGet H a (.str "cells") (some (.ref c)) := DGet.k (k := (Sum.inr "cells" : Key)) h
theorem get_own {H : Hp} {a c o : Addr} {k : Int} (h : H a = some (.dK (mK c o k))) : DGet H a (.str "own") (some (.ref o)) := DGet.k (k := (Sum.inr "own" : Key)) h
def sp_L_next : Sp := fun vs H Q _ => ∃ (a c o : Addr) (n many : Nat), vs = [.ref a, vn many] ∧ (GAt H a c o (n + 1) ∧ 0 < many ∧ many < 1000) ∧ ∀ x H', x < many → GAt H' a c o n → Fr a o H H' → Q (vn x) H'
-- slots: 0:_law_m 1:_law_many 2:_law_k 3:_law_place 4:_law_cell 5:_law_found   level 1
abbrev n_L_next : List Str := ["_law_m", "_law_many", "_law_k", "_law_place", "_law_cell", "_law_found"]
theorem sc_L_next : FnScope n_L_next ["_law_m", "_law_many"] SL.d_L_next.scope := ⟨rfl, rfl, rfl, by decide +kernel, rfl, by decide +kernel, by decide +kernel⟩
theorem ok_L_next (T : Tx K mg w) : Cal P w K mg base "_law_next" 1 ["_law_m", "_law_many"] sp_L_next := by
  refine Cal.of T.D_L_next T.g_L_next sc_L_next (fun _ _ _ _ _ _ us hl => match us, hl with | [_, _], _ => rfl) (fun vs H Q E h => ?_) fun f cdv A outer s H vs Q E hr h => ?_
  · obtain ⟨a, c, o, n, many, rfl, _⟩ := h
    rfl
  obtain ⟨a, c, o, n, many, rfl, hh, h⟩ := h
  refine ⟨_, (pss_cons (ps_set (i := 2) sc_L_next.nd rfl (Or.inl rfl) (pe_dget (hu_of hr) (pv 0) pe_str (fun _ _ => rfl)))
    (pss_cons (ps_dput (hu_of hr) (pv 0) pe_str (pe_op op_add (pv 2) pe_int) rfl)
    (pss_cons (ps_set (i := 3) sc_L_next.nd rfl (Or.inl rfl) (pe_op op_mod (pv 2) (pe_callB call_len_seq (by rfl) T.f_len PySem.boot_len (pa_cons (pe_dget (hu_of hr) (pv 0) pe_str (fun _ _ => rfl)) pa_nil))))
    (pss_cons (ps_if (pt_cmpR op_gt (pe_ix ix_list (pe_dget (hu_of hr) (pv 0) pe_str (fun _ _ => rfl)) (pv 3) (fun _ _ => rfl)) pe_int (nomark _)) (pss_cons (ps_set (i := 5) sc_L_next.nd rfl (Or.inl rfl) (pe_op op_mod (pe_ix ix_list (pe_dget (hu_of hr) (pv 0) pe_str (fun _ _ => rfl)) (pv 3) (fun _ _ => rfl)) (pv 1)))
    (pss_cons (ps_asg (pe_op op_fdiv (pe_ix ix_list (pe_dget (hu_of hr) (pv 0) pe_str (fun _ _ => rfl)) (pv 3) (fun _ _ => rfl)) (pv 1)) (pg_sub (pe_dget (hu_of hr) (pv 0) pe_str (fun _ _ => rfl)) (pv 3) set_list))
    (pss_one (ps_ret (pv 5))))) pss_nil)
    (pss_cons (ps_set (i := 4) sc_L_next.nd rfl (Or.inl rfl) (pe_op op_mod (pe_ix ix_list (pe_dget (hu_of hr) (pv 0) pe_str (fun _ _ => rfl)) (pv 3) (fun _ _ => rfl)) pe_int))
    (pss_one (ps_ret (pe_op op_mod (pe_op op_fdiv (pe_op op_mod (pe_op op_mul (pe_op op_mod (pe_op op_pow (pe_op op_add (pe_op op_add (pv 4) (pe_op op_mul pe_int (pv 2))) pe_int) pe_int) pe_int) (pe_op op_add (pv 2) pe_int)) pe_int) pe_int) (pv 1))))))))), ?_⟩
  obtain ⟨⟨⟨cs, ow, k, h1, h2, h3, h4, h5, h6, h7⟩, nco⟩, hm, hm2⟩ := hh
  refine ⟨_, rfl, a, _, rfl, get_at h1, ?_⟩
  refine ⟨_, rfl, _, _, rfl, rfl, _, rfl, a, _, rfl, DPut.k (k := (Sum.inr "at" : Key)) h1 (by show 3 < sizeLine; decide), ?_⟩
  have na : o ≠ a := ne_of h3 h1 (by intro z; cases z)
  generalize eH1 : upd H a _ = H1
  have fr1 : Fr a o H H1 := fun b ob n1 n2 e => by rw [← eH1, upd_ne n1]; exact e
  have k1 : H1 a = some (.dK (mK c o (k + 1))) := by rw [← eH1]; exact upd_same
  have k2 : H1 c = some (.lst (cs.map V.int)) := by rw [← eH1, upd_ne (ne_of h2 h1 (by intro z; cases z))]; exact h2
  have k3 : H1 o = some (.lst (ow.map V.int)) := by rw [← eH1, upd_ne na]; exact h3
  have hpl : ∃ j : Nat, k % (cs.length : Nat) = (j : Int) ∧ j < cs.length := by
    have b1 := Int.emod_nonneg k (show ((cs.length : Nat) : Int) ≠ 0 by omega)
    have b2 := Int.emod_lt_of_pos k (show (0 : Int) < ((cs.length : Nat) : Int) by omega)
    exact ⟨(k % (cs.length : Nat)).toNat, by omega, by omega⟩
  obtain ⟨j, hj, hjl⟩ := hpl
  have lc : (cs.map V.int).length = cs.length := List.length_map ..
  have lo : (ow.map V.int).length = ow.length := List.length_map ..
  have eo : atI (ow.map V.int) (j : Int) = some (.int (ow[j]'(by omega))) := atI_nat (by rw [List.getElem?_map, List.getElem?_eq_getElem (by omega)]; rfl)
  have ec : atI (cs.map V.int) (j : Int) = some (.int (cs[j]'hjl)) := atI_nat (by rw [List.getElem?_map, List.getElem?_eq_getElem hjl]; rfl)
  have emod : ∀ z : Int, ∃ x : Nat, z % ((many : Nat) : Int) = (x : Int) ∧ x < many := fun z => by
    have b1 := Int.emod_nonneg z (show ((many : Nat) : Int) ≠ 0 by omega)
    have b2 := Int.emod_lt_of_pos z (show (0 : Int) < ((many : Nat) : Int) by omega)
    exact ⟨(z % ((many : Nat) : Int)).toNat, by omega, by omega⟩
  refine ⟨_, rfl, _, rfl, a, _, rfl, get_cells k1, c, _, rfl, .inl (.of k2), k, ((cs.length : Nat) : Int), rfl, by rw [lc], by omega, ?_⟩
  show gName 3 (.int (k % ((cs.length : Nat) : Int))) _ _ _
  rw [hj]
  refine ⟨_, rfl, a, _, rfl, get_own k1, _, rfl, o, _, _, _, rfl, rfl, .of k3, eo, _, _, rfl, rfl, _, rfl, ?_⟩
  by_cases hg : (0 : Int) < ow[j]'(by omega)
  · rw [decide_eq_true hg]
    obtain ⟨x, ex, hx⟩ := emod (ow[j]'(by omega))
    refine ⟨_, rfl, a, _, rfl, get_own k1, _, rfl, o, _, _, _, rfl, rfl, .of k3, eo, _, rfl, _, _, rfl, rfl, by omega, ?_⟩
    refine ⟨_, rfl, a, _, rfl, get_own k1, _, rfl, o, _, _, _, rfl, rfl, .of k3, eo, _, rfl, _, _, rfl, rfl, ⟨by omega, by omega⟩, ?_⟩
    refine ⟨_, rfl, a, _, rfl, get_own k1, _, rfl, o, _, _, j, rfl, rfl, k3, ixN_nat (by rw [lo]; omega), ?_⟩
    refine ⟨_, rfl, ?_⟩
    generalize eH2 : upd H1 o _ = H2
    show Q (.int (ow[j] % ((many : Nat) : Int))) H2
    rw [ex]
    refine h x H2 hx ⟨⟨cs, ow.set j (ow[j] / ((many : Nat) : Int)), k + 1, ?_, ?_, ?_, ?_, h5, by omega, by omega⟩, nco⟩ (fr1.trans fun b ob n1 n2 e => by rw [← eH2, upd_ne n2]; exact e)
    · rw [← eH2, upd_ne na.symm]
      exact k1
    · rw [← eH2, upd_ne nco]
      exact k2
    · rw [← eH2, upd_same, List.map_set]
    · rw [List.length_set]
      exact h4
  · rw [decide_eq_false hg]
    obtain ⟨x, ex, hx⟩ := emod ((((cs[j]'hjl % 2147483629 + 7919 * k + 13) ^ 5 % 2147483647 * (k + 104729)) % 2147483629) / 11)
    refine ⟨_, rfl, a, _, rfl, get_cells k1, _, rfl, c, _, _, _, rfl, rfl, .of k2, ec, _, _, rfl, rfl, by show (0 : Int) < 2147483629; decide, ?_⟩
    have hk2 : k ≤ 1099511627776 := by omega
    have b1 := Int.emod_nonneg (cs[j]'hjl) (show (2147483629 : Int) ≠ 0 by decide)
    have b2 := Int.emod_lt_of_pos (cs[j]'hjl) (show (0 : Int) < 2147483629 by decide)
    refine ⟨_, rfl, _, rfl, _, _, rfl, rfl, .inl ⟨by decide, by decide⟩, _, _, rfl, rfl, _, _, rfl, rfl, _, _, rfl, rfl, ⟨by decide, by decide, ?_⟩, ?_⟩
    · show (cs[j]'hjl % 2147483629 + 7919 * k + 13).natAbs < 2 ^ 64
      omega
    refine ⟨_, _, rfl, rfl, by show (0 : Int) < 2147483647; decide, _, rfl, _, _, rfl, rfl, _, _, rfl, rfl, .inr ?_, _, _, rfl, rfl, by show (0 : Int) < 2147483629; decide, _, _, rfl, rfl, ⟨by decide, by decide⟩, _, rfl, _, _, rfl, rfl, by show (0 : Int) < ((many : Nat) : Int); omega, ?_⟩
    · show -(2 ^ 64) < k + 104729 ∧ k + 104729 < 2 ^ 64
      omega
    show Q (.int ((((cs[j]'hjl % 2147483629 + 7919 * k + 13) ^ 5 % 2147483647 * (k + 104729)) % 2147483629) / 11 % ((many : Nat) : Int))) H1
    rw [ex]
    exact h x H1 hx ⟨⟨cs, ow, k + 1, k1, k2, k3, h4, h5, by omega, by omega⟩, nco⟩ fr1
end
end SL

/-! text OkTwo -/
set_option Elab.async false
set_option linter.all false
set_option maxRecDepth 100000
set_option maxHeartbeats 4000000
namespace SL
open PySem PySem.Spec L2
section
variable {P : Program} {w : World} {K : PySem.W.Frag} {mg : Str → Option Value} {base : Heap}
/-! _law_two_hues -/
structure HuesRaw (l1 l2 : List Nat) : Prop where
  n1 : 0 < l1.length
  n2 : 0 < l2.length
  f1 : l1.length ≤ 4
  f2 : l2.length ≤ 4
  nd : (l1 ++ l2).Nodup
  box : ∀ b ∈ l1 ++ l2, b < 32
def sp_L_two_hues : Sp := fun vs H Q _ => ∃ (a c o : Addr) (n : Nat), vs = [.ref a, vn 4] ∧ GAt H a c o (n + 12) ∧
  ∀ (t x y : Addr) (l1 l2 : List Nat) (H' : Hp), GAt H' a c o n → Fr a o H H' → H' t = some (.lst [.ref x, .ref y]) → H' x = some (.lst (vns l1)) → H' y = some (.lst (vns l2)) → HuesRaw l1 l2 → H x = none → H y = none → Q (.ref t) H'
theorem rg_32 : rgV 0 32 = vns (List.range 32) := rfl
theorem vns_erase (l : List Nat) (k : Nat) : (vns l).eraseIdx k = vns (l.eraseIdx k) := by
  induction l generalizing k with
  | nil => rfl
  | cons x r ih =>
    cases k with
    | zero => rfl
    | succ k => exact congrArg (vn x :: ·) (ih k)
theorem seq_nat {n j : Nat} (h : j < n) : seqIndex? (j : Int) n = some j := (ixN_seq (ixN_nat h)).1
theorem erase_perm {l : List Nat} {k : Nat} (hk : k < l.length) : ([l[k]] ++ l.eraseIdx k).Perm l := by
  induction l generalizing k with
  | nil => cases hk
  | cons x r ih =>
    cases k with
    | zero => exact List.Perm.refl _
    | succ k =>
      have hk2 : k < r.length := Nat.lt_of_succ_lt_succ hk
      exact (List.Perm.swap x r[k] _).trans ((ih hk2).cons x)
theorem paired_two {α β : Type} {F : α → β → Prop} : ∀ {as : List α} {ps : List β}, Paired F as ps → ps.length = 2 → ∃ x y p q, as = [x, y] ∧ ps = [p, q] ∧ F x p ∧ F y q
  | [_, _], [_, _], .cons a (.cons b .nil), _ => ⟨_, _, _, _, rfl, rfl, a, b⟩
  | [], _, .nil, h => by cases h
  | [_], _, .cons _ .nil, h => by cases h
  | _ :: _ :: _ :: _, _, .cons _ (.cons _ (.cons _ _)), h => by cases h
structure Left (fl pc lf : List Nat) : Prop where
  nd : (fl ++ pc ++ lf).Nodup
  box : ∀ b ∈ fl ++ pc ++ lf, b < 32
  tot : fl.length + pc.length + lf.length = 32
theorem Left.pop {fl pc lf : List Nat} {k : Nat} (h : Left fl pc lf) (hk : k < lf.length) : Left fl (pc ++ [lf[k]]) (lf.eraseIdx k) := by
  have p : (fl ++ (pc ++ [lf[k]]) ++ lf.eraseIdx k).Perm (fl ++ pc ++ lf) := by
    rw [List.append_assoc, List.append_assoc, List.append_assoc]
    refine List.Perm.append_left fl (List.Perm.append_left pc ?_)
    exact erase_perm hk
  refine ⟨p.nodup_iff.mpr h.nd, fun b hb => h.box b (p.mem_iff.mp hb), ?_⟩
  have := h.tot
  rw [List.length_append, List.length_eraseIdx_of_lt hk, List.length_singleton]
  omega
theorem Left.next {fl pc lf : List Nat} (h : Left fl pc lf) : Left (fl ++ pc) [] lf :=
  ⟨by rw [List.append_nil]; exact h.nd, by rw [List.append_nil]; exact h.box, by have := h.tot; rw [List.length_append, List.length_nil]; omega⟩
theorem pe_bmK {X : Cx} {K : PySem.W.Frag} {o e : Expr} {es : List Expr} {to : TE} {t : TA} {name : Str} {apos cpos : Pos} {T id : String} {r : V → List V → Hp → VK → Prop} (hK : X.K = K)
    (pa : PlainAttrs T) (slot : Slot T name id) (hty : typeOf (.builtin id) = pure (.type "method_descriptor")) (hm : MtR X id r) (ho : PE X o to) (ha : PA X (e :: es) t)
    (hbase : attributeBase o name X.env (eval o X.env) = eval o X.env := by rfl)
    (hfew : ((backTo cpos (starEach (e :: es) X.env)).all (fun x => !x.1) && (backToKw cpos (keywordEach [] X.env)).all (fun x => x.1.isSome)
      && decide ((e :: es).length + ([] : List Keyword).length + (if ([] : List Keyword).isEmpty then 0 else 1) < 30)) = true := by rfl)
    (hline : (apos.endLine == cpos.line) = true := by rfl) (hs : starEach (e :: es) X.env = (false, eval e X.env) :: starEach es X.env := by rfl) (hplain : (backTo cpos (starEach es X.env)).any (·.1) = false := by rfl) :
    PE X (.Call (.Attribute o name apos) (e :: es) [] cpos) (tBM K T r to t) := hK ▸ pe_bm pa slot hty hm ho ha hbase hfew hline hs hplain
theorem Fr.none {a o b : Addr} {H H' : Hp} (f : Fr a o H H') (n1 : b ≠ a) (n2 : b ≠ o) (h : H' b = none) : H b = none := by
  cases e : H b with
  | none => rfl
  | some ob =>
    rw [f _ _ n1 n2 e] at h
    cases h
theorem GAt.newC {H : Hp} {a c o b : Addr} {n : Nat} (h : GAt H a c o n) (e : H b = none) : b ≠ c := by
  obtain ⟨⟨cs, ow, k, h1, h2, h3, h4, h5, h6, h7⟩, ne⟩ := h
  exact (ne_of_none h2 e).symm
theorem GAt.put {H : Hp} {a c o b : Addr} {n : Nat} {x : HO} (h : GAt H a c o n) (n1 : b ≠ a) (n2 : b ≠ o) (n3 : b ≠ c) : GAt (upd H b x) a c o n := by
  obtain ⟨⟨cs, ow, k, h1, h2, h3, h4, h5, h6, h7⟩, ne⟩ := h
  exact ⟨⟨cs, ow, k, by rw [upd_ne n1.symm]; exact h1, by rw [upd_ne n3.symm]; exact h2, by rw [upd_ne n2.symm]; exact h3, h4, h5, h6, h7⟩, ne⟩
-- slots: 0:_law_m 1:_law_most 2:_law_left 3:_law_sizes 4:_law_found 5:_law_size 6:_law_k   level 2
abbrev n_L_two_hues : List Str := ["_law_m", "_law_most", "_law_left", "_law_sizes", "_law_found", "_law_size", "_law_k"]
theorem sc_L_two_hues : FnScope n_L_two_hues ["_law_m", "_law_most"] SL.d_L_two_hues.scope := ⟨rfl, rfl, rfl, by decide +kernel, rfl, by decide +kernel, by decide +kernel⟩
theorem ok_L_two_hues (T : Tx K mg w) : Cal P w K mg base "_law_two_hues" 2 ["_law_m", "_law_most"] sp_L_two_hues := by
  refine Cal.of T.D_L_two_hues T.g_L_two_hues sc_L_two_hues (fun _ _ _ _ _ _ us hl => match us, hl with | [_, _], _ => rfl) (fun vs H Q E h => ?_) fun f cdv A outer s H vs Q E hr h => ?_
  · obtain ⟨a, c, o, n, rfl, _⟩ := h
    rfl
  obtain ⟨a, c, o, n, rfl, hG, h⟩ := h
  refine ⟨_, (pss_cons (ps_set (i := 2) sc_L_two_hues.nd rfl (Or.inr rfl) (pe_listRg rfl (by rfl) T.f_list (prg_1 (by rfl) T.f_range pe_int)))
    (pss_cons (ps_set (i := 3) sc_L_two_hues.nd rfl (Or.inl rfl) (pe_lst (pa_cons (pe_op op_add pe_int (pe_fn (ok_L_next T) (hr.mono (by decide)) (by rfl) (pa_cons (pv 0) (pa_cons (pv 1) pa_nil)))) (pa_cons (pe_op op_add pe_int (pe_fn (ok_L_next T) (hr.mono (by decide)) (by rfl) (pa_cons (pv 0) (pa_cons (pv 1) pa_nil)))) pa_nil))))
    (pss_cons (ps_set (i := 4) sc_L_two_hues.nd rfl (Or.inl rfl) (pe_lst pa_nil))
    (pss_cons (ps_for PassesOwn.never rfl (pi_list (pv 3)) (pg_name (i := 5) sc_L_two_hues.nd rfl (Or.inl rfl))
    (pss_one (ps_expr (pe_bm PySem.F.plainAttrs_list PySem.F.slot_list_append PySem.F.type_list_append mt_append (pv 4) (pa_cons (pe_lc (own := [("_law_k", 6)]) rfl sc_L_two_hues.nd (pi_range1 rfl T.f_range (pa_cons (pv 5) pa_nil)) (blkOk_by (own := [("_law_k", 6)]) (N := n_L_two_hues) (sc := SL.d_L_two_hues.scope) (by decide +kernel)) (fun _ _ _ _ _ => (pg_name (i := 6) sc_L_two_hues.nd rfl (Or.inl rfl))) (fun _ _ _ _ _ => pts_nil) (fun _ _ _ _ _ => (pe_bmK rfl PySem.F.plainAttrs_list PySem.F.slot_list_pop PySem.F.type_list_pop mt_popAt (pv 2) (pa_cons (pe_fn (ok_L_next (P := P) T) (hr.mono (by decide)) (by rfl) (pa_cons (pv 0) (pa_cons (pe_callB (call_len_seqK rfl) (by rfl) T.f_len PySem.boot_len (pa_cons (pv 2) pa_nil)) pa_nil))) pa_nil)))) pa_nil)))))
    (pss_one (ps_ret (pv 4))))))), ?_⟩
  refine ⟨32, rfl, ⟨by decide, by decide, by decide, by decide, by decide⟩, fun L nL => ?_⟩
  rw [rg_32]
  obtain ⟨nLa, nLo⟩ := hG.new nL
  have nLc := hG.newC nL
  have s1 := same_new (o := .lst (vns (List.range 32))) nL
  have hL1 := upd_same (H := H) (a := L) (o := .lst (vns (List.range 32)))
  generalize upd H L (.lst (vns (List.range 32))) = H1 at *
  refine ⟨_, rfl, _, rfl, a, c, o, n + 11, 4, rfl, ⟨hG.ext s1, by decide, by decide⟩, fun k1 H2 hk1 g2 fr2 => ⟨_, _, rfl, rfl, _, rfl, _, rfl, a, c, o, n + 10, 4, rfl, ⟨g2, by decide, by decide⟩, fun k2 H3 hk2 g3 fr3 => ⟨_, _, rfl, rfl, by show 2 ≤ sizeLine; decide, fun S nS => ⟨z0, fun F nF => ?_⟩⟩⟩⟩
  obtain ⟨nSa, nSo⟩ := g3.new nS
  have hL3 := fr3 _ _ nLa nLo (fr2 _ _ nLa nLo hL1)
  have s4 := (same_new (o := .lst [V.int (1 + (k1 : Int)), V.int (1 + (k2 : Int))]) nS).trans (same_new (o := .lst []) nF)
  have hF5 := upd_same (H := upd H3 S (.lst [V.int (1 + (k1 : Int)), V.int (1 + (k2 : Int))])) (a := F) (o := .lst [])
  have hS5 := same_new (o := .lst []) nF _ _ (upd_same (H := H3) (a := S) (o := .lst [V.int (1 + (k1 : Int)), V.int (1 + (k2 : Int))]))
  have g5 := g3.ext s4
  have hL5 := s4 _ _ hL3
  have nFS : S ≠ F := ne_of_none (same_new (o := .lst [V.int (1 + (k1 : Int)), V.int (1 + (k2 : Int))]) nS |> fun _ => (upd_same (H := H3) (a := S) (o := .lst [V.int (1 + (k1 : Int)), V.int (1 + (k2 : Int))]))) nF
  have nFL : L ≠ F := ne_of_none (same_new nS _ _ hL3) nF
  have nSL : L ≠ S := ne_of_none hL3 nS
  have nFc : F ≠ c := (g3.ext (same_new (o := .lst [V.int (1 + (k1 : Int)), V.int (1 + (k2 : Int))]) nS)).newC nF
  have nFa : F ≠ a ∧ F ≠ o := (g3.ext (same_new (o := .lst [V.int (1 + (k1 : Int)), V.int (1 + (k2 : Int))]) nS)).new nF
  have nF0 : H F = none := (((Fr.of s1).trans (fr2.trans fr3)).trans (.of (same_new (o := .lst [V.int (1 + (k1 : Int)), V.int (1 + (k2 : Int))]) nS))).none nFa.1 nFa.2 nF
  have fr5 : Fr a o H _ := ((Fr.of s1).trans (fr2.trans fr3)).trans (.of s4)
  generalize upd (upd H3 S (.lst [V.int (1 + (k1 : Int)), V.int (1 + (k2 : Int))])) F (.lst []) = H5 at *
  have lev : Left [] [] (List.range 32) := ⟨by simpa using List.nodup_range, fun b hb => by simpa using hb, by simp⟩
  refine ⟨_, rfl, S, rfl, ⟨_, .of hS5⟩, ?_⟩
  refine for_it (walk_list (xs := [V.int (1 + (k1 : Int)), V.int (1 + (k2 : Int))])) (fun i σ H' => ∃ v5 v6 lf pcs as, σ = [some (.ref a), some (vn 4), some (.ref L), some (.ref S), some (.ref F), v5, v6] ∧ H' L = some (.lst (vns lf)) ∧ H' S = some (.lst [V.int (1 + (k1 : Int)), V.int (1 + (k2 : Int))]) ∧ H' F = some (.lst (as.map V.ref)) ∧ Paired (fun x l => H' x = some (.lst (vns l)) ∧ x ≠ L ∧ x ≠ F ∧ x ≠ a ∧ x ≠ o ∧ H x = none) as pcs ∧ pcs.map List.length = [1 + k1, 1 + k2].take i ∧ Left pcs.flatten [] lf ∧ GAt H' a c o (n + ([1 + k1, 1 + k2].drop i).sum) ∧ Fr a o H H')
    ⟨none, none, _, [], [], rfl, hL5, hS5, hF5, .nil, rfl, lev, g5.mono (by show n + (1 + k1 + (1 + k2 + 0)) ≤ _; omega), fr5⟩ (fun i σ H' _ z => ?_) ?_ ?_
  · obtain ⟨_, _, _, _, _, _, _, z, _⟩ := z
    exact .of z
  · rintro i x σ H' H'' hi ⟨v5, v6, lf, pcs, as, rfl, hL, hS, hF, hp, hsz, hlev, hg, hfr⟩ ⟨rfl, hx⟩
    have hi : i < 2 := hi
    obtain ⟨m, ex, hm1, hm4, hsum, htake⟩ : ∃ m, x = vn m ∧ 1 ≤ m ∧ m ≤ 4 ∧ ([1 + k1, 1 + k2].drop i).sum = m + ([1 + k1, 1 + k2].drop (i + 1)).sum ∧ [1 + k1, 1 + k2].take (i + 1) = [1 + k1, 1 + k2].take i ++ [m] := by
      rcases show i = 0 ∨ i = 1 by omega with e | e <;> subst e
      · cases hx
        exact ⟨1 + k1, congrArg V.int (by omega), by omega, by omega, by simp, rfl⟩
      · cases hx
        exact ⟨1 + k2, congrArg V.int (by omega), by omega, by omega, by simp, rfl⟩
    subst ex
    rw [hsum] at hg
    refine ⟨_, rfl, .inl ⟨rfl, _, .of hF⟩, _, rfl, (m : Int), rfl, by omega, by omega, fun D nD => ?_⟩
    obtain ⟨nDa, nDo⟩ := hg.new nD
    have nDc := hg.newC nD
    have nDL : L ≠ D := ne_of_none hL nD
    have s6 := same_new (o := .lst []) nD
    have h8 : pcs.flatten.length ≤ 8 := by
      rw [List.length_flatten, hsz]
      rcases show i = 0 ∨ i = 1 by omega with e | e <;> rw [e] <;> simp <;> omega
    refine lc_it (walk_range (lo := 0) (n := ((m : Int) - 0).toNat)) (fun j H6 => ∃ lf pc, H6 D = some (.lst (vns pc)) ∧ H6 L = some (.lst (vns lf)) ∧ pc.length = j ∧ Left pcs.flatten pc lf ∧ GAt H6 a c o (n + ([1 + k1, 1 + k2].drop (i + 1)).sum + (m - j)) ∧ ∀ b ob, b ≠ a → b ≠ o → b ≠ L → b ≠ D → H'' b = some ob → H6 b = some ob)
      ⟨lf, [], upd_same, s6 _ _ hL, rfl, hlev, (hg.ext s6).mono (by omega), fun b ob _ _ _ n4 e => s6 _ _ e⟩ (fun _ _ _ _ => trivial) ?_ ?_
    · rintro j x H6 H7 hj ⟨lf2, pc, hD, hL6, hpc, hlev2, hg6, hfr6⟩ ⟨rfl, rfl⟩
      have hj : j < m := by
        have hj : j < ((m : Int) - 0).toNat := hj
        omega
      have hlt : 0 < lf2.length := by
        have h3 := hlev2.tot
        omega
      refine ⟨rfl, _, rfl, .inl ⟨rfl, _, .of hL6⟩, _, rfl, _, rfl, L, _, rfl, .inl (.of hL6), a, c, o, n + ([1 + k1, 1 + k2].drop (i + 1)).sum + (m - (j + 1)), lf2.length, by rw [len_vns]; rfl, ⟨hg6.mono (by omega), hlt, by have := hlev2.tot; omega⟩, fun y H8 hy g8 fr8 => ?_⟩
      refine ⟨L, vns lf2, y, y, vn lf2[y], rfl, rfl, fr8 _ _ nLa nLo hL6, by omega, by have := hlev2.tot; omega, seq_nat (by rw [len_vns]; exact hy), get_vns (List.getElem?_eq_getElem hy), ?_⟩
      rw [vns_erase]
      have hD8 : (upd H8 L (.lst (vns (lf2.eraseIdx y)))) D = some (.lst (vns pc)) := by rw [upd_ne nDL.symm]; exact fr8 _ _ nDa nDo hD
      refine ⟨vns pc, hD8, by rw [len_vns, sizeLine_eq]; omega, lf2.eraseIdx y, pc ++ [lf2[y]], ?_, ?_, ?_, hlev2.pop hy, ?_, ?_⟩
      · rw [upd_same, vns_app]
        rfl
      · rw [upd_ne nDL, upd_same]
      · rw [List.length_append, hpc]
        rfl
      · exact (g8.put nLa nLo nLc).put nDa nDo nDc
      · intro b ob b1 b2 b3 b4 e
        rw [upd_ne b4, upd_ne b3]
        exact fr8 _ _ b1 b2 (hfr6 _ _ b1 b2 b3 b4 e)
    · rintro H6 ⟨lf2, pc, hD, hL6, hpc, hlev2, hg6, hfr6⟩
      have hpm : pc.length = m := by rw [hpc]; omega
      have nDF : F ≠ D := ne_of_none hF nD
      have nDS : S ≠ D := ne_of_none hS nD
      refine ⟨F, _, _, rfl, rfl, hfr6 _ _ nFa.1 nFa.2 nFL.symm nDF hF, ?_, ?_⟩
      · rw [List.length_map, paired_len hp, ← List.length_map (f := List.length) (as := pcs), hsz, List.length_take, sizeLine_eq]
        omega
      refine ⟨_, _, lf2, pcs ++ [pc], as ++ [D], rfl, ?_, ?_, ?_, ?_, ?_, ?_, ?_, ?_⟩
      · rw [upd_ne nFL]; exact hL6
      · rw [upd_ne nFS]; exact hfr6 _ _ nSa nSo nSL.symm nDS hS
      · rw [upd_same, List.map_append]; rfl
      · have p1 : ∀ {x l}, (H'' x = some (.lst (vns l)) ∧ x ≠ L ∧ x ≠ F ∧ x ≠ a ∧ x ≠ o ∧ H x = none) → ((upd H6 F (.lst (as.map V.ref ++ [V.ref D]))) x = some (.lst (vns l)) ∧ x ≠ L ∧ x ≠ F ∧ x ≠ a ∧ x ≠ o ∧ H x = none) := fun ⟨z1, z2, z3, z4, z5, z6⟩ => ⟨by rw [upd_ne z3]; exact hfr6 _ _ z4 z5 z2 (ne_of_none z1 nD) z1, z2, z3, z4, z5, z6⟩
        refine Paired.snoc (Paired.mapP hp fun _ _ z => p1 z) ⟨by rw [upd_ne nDF.symm]; exact hD, nDL.symm, nDF.symm, nDa, nDo, hfr.none nDa nDo nD⟩
      · rw [List.map_append, hsz, htake]
        show _ ++ [pc.length] = _
        rw [hpm]
      · rw [List.flatten_append]
        show Left (pcs.flatten ++ (pc ++ [])) [] lf2
        rw [List.append_nil]
        exact hlev2.next
      · exact (hg6.mono (by omega)).put nFa.1 nFa.2 nFc
      · intro b ob b1 b2 e
        have e2 := hfr _ _ b1 b2 e
        have b3 : b ≠ F := fun z => by rw [z, nF0] at e; cases e
        rw [upd_ne b3]
        exact hfr6 _ _ b1 b2 (fun z => by rw [z, nL] at e; cases e) (ne_of_none e2 nD) e2
  · rintro σ H' ⟨v5, v6, lf, pcs, as, rfl, hL, hS, hF, hp, hsz, hlev, hg, hfr⟩
    have hsz : pcs.map List.length = [1 + k1, 1 + k2] := hsz
    obtain ⟨x, y, l1, l2, rfl, rfl, z1, z2⟩ := paired_two hp (by rw [← List.length_map (f := List.length), hsz]; rfl)
    simp only [List.map_cons, List.map_nil, List.cons.injEq, and_true] at hsz
    obtain ⟨e1, e2⟩ := hsz
    have hf : [l1, l2].flatten = l1 ++ l2 := by simp
    rw [hf] at hlev
    have nd := hlev.nd
    have bx := hlev.box
    rw [List.append_nil] at nd bx
    exact ⟨_, rfl, h F x y l1 l2 H' (hg.mono (by omega)) hfr hF z1.1 z2.1 ⟨by omega, by omega, by omega, by omega, (List.nodup_append.mp nd).1, fun b hb => bx b (List.mem_append_left _ hb)⟩ z1.2.2.2.2.2 z2.2.2.2.2.2⟩
end
end SL

/-! text OkPlan -/
set_option Elab.async false
set_option linter.all false
set_option maxRecDepth 100000
set_option maxHeartbeats 4000000
namespace SL
open PySem PySem.Spec L2
section
variable {P : Program} {w : World} {K : PySem.W.Frag} {mg : Str → Option Value} {base : Heap}
/-! _law_hues, _law_pair, _law_deed, _law_plan -/
theorem rising_of {l : List Nat} (h : l.Pairwise (· ≤ ·)) (n : l.Nodup) : Rising l := by
  unfold Rising
  rw [List.nodup_iff_pairwise_ne] at n
  exact (h.and n).imp fun ⟨a, b⟩ => by omega
theorem hues_ok {l1 l2 : List Nat} (h : HuesRaw l1 l2) : Hues.Ok (sortN l1, sortN l2) := by
  obtain ⟨d1, d2, d3⟩ := List.nodup_append.mp h.nd
  have p1 := sortN_perm l1
  have p2 := sortN_perm l2
  refine ⟨⟨rising_of (sortN_sorted l1) (p1.nodup_iff.mpr d1), fun b hb => h.box b (List.mem_append_left _ (p1.mem_iff.mp hb)), by show (sortN l1).length ≤ 4; rw [p1.length_eq]; exact h.f1⟩, ⟨rising_of (sortN_sorted l2) (p2.nodup_iff.mpr d2), fun b hb => h.box b (List.mem_append_right _ (p2.mem_iff.mp hb)), by show (sortN l2).length ≤ 4; rw [p2.length_eq]; exact h.f2⟩, fun b hb hc => ?_⟩
  exact d3 b (p1.mem_iff.mp hb) b (p2.mem_iff.mp hc) rfl
def sp_L_hues : Sp := fun vs H Q _ => ∃ (x y : Addr) (l1 l2 : List Nat), vs = [.ref x, .ref y] ∧ (H x = some (.lst (vns l1)) ∧ H y = some (.lst (vns l2)) ∧ HuesRaw l1 l2) ∧
  ∀ t x' y' H', Same H H' → HuesAt H' t x' y' (sortN l1, sortN l2) → Q (.ref t) H'
-- slots: 0:_law_ones 1:_law_others   level 1
abbrev n_L_hues : List Str := ["_law_ones", "_law_others"]
theorem sc_L_hues : FnScope n_L_hues ["_law_ones", "_law_others"] SL.d_L_hues.scope := ⟨rfl, rfl, rfl, by decide +kernel, rfl, by decide +kernel, by decide +kernel⟩
theorem ok_L_hues (T : Tx K mg w) : Cal P w K mg base "_law_hues" 1 ["_law_ones", "_law_others"] sp_L_hues := by
  refine Cal.of T.D_L_hues T.g_L_hues sc_L_hues (fun _ _ _ _ _ _ us hl => match us, hl with | [_, _], _ => rfl) (fun vs H Q E h => ?_) fun f cdv A outer s H vs Q E hr h => ?_
  · obtain ⟨x, y, l1, l2, rfl, _⟩ := h
    rfl
  obtain ⟨x, y, l1, l2, rfl, u, h⟩ := h
  refine ⟨_, (pss_one (ps_ret (pe_tup (pa_cons (pe_callTy call_tuple_of (by rfl) T.f_tuple (by decide +kernel) (pa_cons (pe_callB cr_sorted (by rfl) T.f_sorted (by decide +kernel) (pa_cons (pv 0) pa_nil)) pa_nil)) (pa_cons (pe_callTy call_tuple_of (by rfl) T.f_tuple (by decide +kernel) (pa_cons (pe_callB cr_sorted (by rfl) T.f_sorted (by decide +kernel) (pa_cons (pv 1) pa_nil)) pa_nil)) pa_nil))))), ?_⟩
  obtain ⟨h1, h2, raw⟩ := u
  have f1 := raw.f1
  have f2 := raw.f2
  have eni : ∀ l : List Nat, (ni l).length = l.length := fun l => List.length_map ..
  refine ⟨_, rfl, x, ni l1, rfl, .of (by rw [ni_vns]; exact h1), by rw [eni]; omega, fun ms p perm srt np => ?_⟩
  rw [ni_sortN perm srt, ni_vns]
  have s1 := same_new (o := .lst (vns (sortN l1))) np
  refine ⟨p, _, rfl, .inl ⟨.of upd_same, fun q nq => ?_⟩⟩
  have s2 := s1.trans (same_new (o := .tup (vns (sortN l1))) nq)
  have hq : (upd (upd H p (.lst (vns (sortN l1)))) q (.tup (vns (sortN l1)))) q = _ := upd_same
  generalize upd (upd H p (.lst (vns (sortN l1)))) q (.tup (vns (sortN l1))) = H2 at *
  refine ⟨_, rfl, y, ni l2, rfl, .of (by rw [ni_vns]; exact s2 _ _ h2), by rw [eni]; omega, fun ms p2 perm srt np2 => ?_⟩
  rw [ni_sortN perm srt, ni_vns]
  refine ⟨p2, _, rfl, .inl ⟨.of upd_same, fun q2 nq2 => ⟨by show 2 ≤ sizeLine; decide, fun t nt => ?_⟩⟩⟩
  have s3 := (same_new (o := .lst (vns (sortN l2))) np2).trans (same_new (o := .tup (vns (sortN l2))) nq2)
  have s4 := same_new (o := .tup [.ref q, .ref q2]) nt
  exact h t q q2 _ ((s2.trans s3).trans s4) ⟨upd_same, s4 _ _ (s3 _ _ hq), s4 _ _ upd_same⟩
def PairIn (H : Hp) (t : Addr) (l1 l2 : List Nat) : Prop := ∃ c d, H t = some (.tup [vn c, vn d]) ∧ c ∈ l1 ∧ d ∈ l2
def sp_L_pair : Sp := fun vs H Q _ => ∃ (a c o x y : Addr) (n : Nat) (l1 l2 : List Nat), vs = [.ref a, .ref x, .ref y] ∧ (GAt H a c o (n + 3) ∧ H x = some (.lst (vns l1)) ∧ H y = some (.lst (vns l2)) ∧ x ≠ o ∧ y ≠ o ∧ 0 < l1.length ∧ 0 < l2.length ∧ l1.length ≤ 4) ∧
  ∀ t H', GAt H' a c o n → Fr a o H H' → PairIn H' t l1 l2 → Q (.ref t) H'
theorem min_if (i j : Nat) : (if ((j : Nat) : Int) < ((i : Nat) : Int) then ((j : Nat) : Int) else ((i : Nat) : Int)) = ((min i j : Nat) : Int) := by
  split <;> omega
-- slots: 0:_law_m 1:_law_ones 2:_law_others 3:_law_many 4:_law_place 5:_law_other   level 2
abbrev n_L_pair : List Str := ["_law_m", "_law_ones", "_law_others", "_law_many", "_law_place", "_law_other"]
theorem sc_L_pair : FnScope n_L_pair ["_law_m", "_law_ones", "_law_others"] SL.d_L_pair.scope := ⟨rfl, rfl, rfl, by decide +kernel, rfl, by decide +kernel, by decide +kernel⟩
theorem ok_L_pair (T : Tx K mg w) : Cal P w K mg base "_law_pair" 2 ["_law_m", "_law_ones", "_law_others"] sp_L_pair := by
  refine Cal.of T.D_L_pair T.g_L_pair sc_L_pair (fun _ _ _ _ _ _ us hl => match us, hl with | [_, _, _], _ => rfl) (fun vs H Q E h => ?_) fun f cdv A outer s H vs Q E hr h => ?_
  · obtain ⟨a, c, o, x, y, n, l1, l2, rfl, _⟩ := h
    rfl
  obtain ⟨a, c, o, x, y, n, l1, l2, rfl, u, h⟩ := h
  refine ⟨_, (pss_cons (ps_set (i := 3) sc_L_pair.nd rfl (Or.inl rfl) (pe_callB (call_min2 rfl) (by rfl) T.f_min (by decide +kernel) (pa_cons (pe_callB call_len_seq (by rfl) T.f_len PySem.boot_len (pa_cons (pv 1) pa_nil)) (pa_cons (pe_callB call_len_seq (by rfl) T.f_len PySem.boot_len (pa_cons (pv 2) pa_nil)) pa_nil))))
    (pss_cons (ps_set (i := 4) sc_L_pair.nd rfl (Or.inl rfl) (pe_fn (ok_L_next T) (hr.mono (by decide)) (by rfl) (pa_cons (pv 0) (pa_cons (pv 3) pa_nil))))
    (pss_cons (ps_set (i := 5) sc_L_pair.nd rfl (Or.inl rfl) (pe_ifExp (pt_cmpR op_gt (pe_fn (ok_L_next T) (hr.mono (by decide)) (by rfl) (pa_cons (pv 0) (pa_cons pe_int pa_nil))) pe_int (nomark _)) (pv 4) (pe_fn (ok_L_next T) (hr.mono (by decide)) (by rfl) (pa_cons (pv 0) (pa_cons (pv 3) pa_nil)))))
    (pss_one (ps_ret (pe_tup (pa_cons (pe_ix ix_list (pv 1) (pv 4) (fun _ _ => rfl)) (pa_cons (pe_ix ix_list (pv 2) (pv 5) (fun _ _ => rfl)) pa_nil)))))))), ?_⟩
  obtain ⟨hG, hx, hy, nxo, nyo, p1, p2, few⟩ := u
  have nxa := hG.lst hx
  have nya := hG.lst hy
  refine ⟨_, rfl, x, _, rfl, .inl (.of hx), _, rfl, y, _, rfl, .inl (.of hy), _, _, rfl, ?_⟩
  rw [len_vns, len_vns, min_if]
  have hm1 : min l1.length l2.length ≤ l1.length := Nat.min_le_left ..
  have hm2 : min l1.length l2.length ≤ l2.length := Nat.min_le_right ..
  have hm0 : 0 < min l1.length l2.length := Nat.lt_min.mpr ⟨p1, p2⟩
  generalize min l1.length l2.length = many at *
  refine ⟨_, rfl, _, rfl, a, c, o, n + 2, many, rfl, ⟨hG, hm0, by omega⟩, fun i H1 hi g1 fr1 => ⟨_, rfl, a, c, o, n + 1, 5, rfl, ⟨g1, by decide, by decide⟩, fun z H2 hz g2 fr2 => ⟨_, _, rfl, rfl, _, rfl, ?_⟩⟩⟩
  have fin1 : ∀ (k : Nat) (H3 : Hp), k < many → GAt H3 a c o n → Fr a o H H3 → tSeq (tRet (tTup (tCons (tOp (rIxL K) (tVar 1) (tVar 4)) (tCons (tOp (rIxL K) (tVar 2) (tVar 5)) tNil)))) tNext { nx := fun x H' => Q V.non H', rt := Q } [some (.ref a), some (.ref x), some (.ref y), some (vn many), some (vn i), some (vn k)] H3 := by
    intro k H3 hk g3 fr3
    refine ⟨_, rfl, _, rfl, _, _, _, _, rfl, rfl, .of (fr3 _ _ nxa nxo hx), atI_nat (get_vns (List.getElem?_eq_getElem (by omega))), _, rfl, _, rfl, _, _, _, _, rfl, rfl, .of (fr3 _ _ nya nyo hy), atI_nat (get_vns (List.getElem?_eq_getElem (by omega))), by show 2 ≤ sizeLine; decide, fun t nt => ?_⟩
    have s4 := same_new (o := .tup [vn l1[i], vn l2[k]]) nt
    exact h t _ (g3.ext s4) (fr3.trans (.of s4)) ⟨_, _, upd_same, List.getElem_mem _, List.getElem_mem _⟩
  by_cases hz0 : (0 : Int) < (z : Int)
  · rw [decide_eq_true hz0]
    exact ⟨_, rfl, fin1 i H2 hi (g2.mono (by omega)) (fr1.trans fr2)⟩
  · rw [decide_eq_false hz0]
    exact ⟨_, rfl, _, rfl, a, c, o, n, many, rfl, ⟨g2, hm0, by omega⟩, fun k H3 hk g3 fr3 => fin1 k H3 hk g3 ((fr1.trans fr2).trans fr3)⟩
structure PlanAt (H : Hp) (t : Addr) (w : Str) (ps ns : List Nat) : Prop where
  ex : ∃ u v, H t = some (.tup [.str w, .ref u, .ref v]) ∧ H u = some (.lst (vns ps)) ∧ H v = some (.lst (vns ns))
theorem PlanAt.ext {H H' : Hp} {t : Addr} {w : Str} {ps ns : List Nat} (h : PlanAt H t w ps ns) (s : Same H H') : PlanAt H' t w ps ns := by
  obtain ⟨u, v, h1, h2, h3⟩ := h.ex
  exact ⟨u, v, s _ _ h1, s _ _ h2, s _ _ h3⟩
def sp_L_deed : Sp := fun vs H Q _ => ∃ (t x : Addr) (w : Str) (ps ns hue : List Nat), vs = [.ref t, .ref x] ∧ (PlanAt H t w ps ns ∧ H x = some (.lst (vns hue)) ∧ (∀ p ∈ ps, p < hue.length) ∧ ps.length ≤ 4 ∧ ns.length ≤ 1) ∧
  ∀ q H', Same H H' → H' q = some (.tup (.str w :: vns (ps.map (fun p => hue.getD p 0) ++ ns))) → Q (.ref q) H'
-- slots: 0:_law_plan_here 1:_law_hue 2:_law_place   level 1
abbrev n_L_deed : List Str := ["_law_plan_here", "_law_hue", "_law_place"]
theorem sc_L_deed : FnScope n_L_deed ["_law_plan_here", "_law_hue"] SL.d_L_deed.scope := ⟨rfl, rfl, rfl, by decide +kernel, rfl, by decide +kernel, by decide +kernel⟩
theorem ok_L_deed (T : Tx K mg w) : Cal P w K mg base "_law_deed" 1 ["_law_plan_here", "_law_hue"] sp_L_deed := by
  refine Cal.of T.D_L_deed T.g_L_deed sc_L_deed (fun _ _ _ _ _ _ us hl => match us, hl with | [_, _], _ => rfl) (fun vs H Q E h => ?_) fun f cdv A outer s H vs Q E hr h => ?_
  · obtain ⟨t, x, w, ps, ns, hue, rfl, _⟩ := h
    rfl
  obtain ⟨t, x, w, ps, ns, hue, rfl, u, h⟩ := h
  refine ⟨_, (pss_one (ps_ret (pe_op op_catA (pe_tup (pa_cons (pe_ix ix_tup (pv 0) pe_int (fun _ _ => rfl)) pa_nil)) (pe_callTy call_tuple_of (by rfl) T.f_tuple (by decide +kernel) (pa_cons (pe_op op_cat (pe_lc (own := [("_law_place", 2)]) rfl sc_L_deed.nd (pi_list (pe_ix ix_tup (pv 0) pe_int (fun _ _ => rfl))) (blkOk_by (own := [("_law_place", 2)]) (N := n_L_deed) (sc := SL.d_L_deed.scope) (by decide +kernel)) (fun _ _ _ _ _ => (pg_name (i := 2) sc_L_deed.nd rfl (Or.inl rfl))) (fun _ _ _ _ _ => pts_nil) (fun _ _ _ _ _ => (pe_ix (ix_listK rfl) (pv 1) (pv 2) (fun _ _ => rfl)))) (pe_ix ix_tup (pv 0) pe_int (fun _ _ => rfl))) pa_nil))))), ?_⟩
  obtain ⟨⟨u, v, h1, h2, h3⟩, hx, hp, f1, f2⟩ := u
  refine ⟨_, rfl, _, _, _, _, rfl, rfl, .of h1, atI_nat (j := 0) rfl, by show 1 ≤ sizeLine; decide, fun e1 n1 => ?_⟩
  have s1 := same_new (o := .tup [.str w]) n1
  have he := upd_same (H := H) (a := e1) (o := .tup [.str w])
  generalize upd H e1 (.tup [.str w]) = H1 at *
  refine ⟨_, rfl, _, _, _, _, rfl, rfl, .of (s1 _ _ h1), atI_nat (j := 1) rfl, u, rfl, ⟨_, .of (s1 _ _ h2)⟩, fun D nD => ?_⟩
  refine lc_pure walk_list ps (fun p => [vn (hue.getD p 0)]) (len_vns _) (by omega) (fun _ => Nat.le_refl _) nD (fun H2 s2 => .of (s2 _ _ (s1 _ _ h2))) same_yat ?_ ?_
  · rintro i p y H2 H3 Kq N hi s2 ⟨rfl, hy⟩ hK hN
    rw [get_vns hi] at hy
    cases hy
    have hlt := hp p (List.mem_of_getElem? hi)
    refine ⟨rfl, _, rfl, _, rfl, _, _, _, _, rfl, rfl, .of (s2 _ _ (s1 _ _ hx)), atI_nat (get_vns (List.getElem?_eq_getElem hlt)), hK _ _ (Same.refl _) ?_⟩
    rw [List.getD_eq_getElem?_getD, List.getElem?_eq_getElem hlt]
    rfl
  intro H2 s2 hD
  have hD : H2 D = some (.lst (vns (ps.map fun p => hue.getD p 0))) := by
    rw [hD, flat_one]
    unfold vns
    rw [List.map_map]
    rfl
  have s12 := s1.trans s2
  have lD : (ps.map fun p => hue.getD p 0).length = ps.length := List.length_map ..
  generalize ps.map (fun p => hue.getD p 0) = bs at *
  refine ⟨_, rfl, _, _, _, _, rfl, rfl, .of (s12 _ _ h1), atI_nat (j := 2) rfl, D, v, _, _, rfl, rfl, hD, s12 _ _ h3, by rw [len_vns, len_vns, sizeLine_eq]; omega, fun L nL => ?_⟩
  rw [← vns_app]
  have s3 := s12.trans (same_new (o := .lst (vns (bs ++ ns))) nL)
  refine ⟨L, _, rfl, .inl ⟨.of upd_same, fun M nM => ?_⟩⟩
  have s4 := s3.trans (same_new (o := .tup (vns (bs ++ ns))) nM)
  have hM : (upd (upd H2 L (.lst (vns (bs ++ ns)))) M (.tup (vns (bs ++ ns)))) M = _ := upd_same
  have he4 := (s2.trans ((same_new (o := .lst (vns (bs ++ ns))) nL).trans (same_new (o := .tup (vns (bs ++ ns))) nM))) _ _ he
  generalize upd (upd H2 L (.lst (vns (bs ++ ns)))) M (.tup (vns (bs ++ ns))) = H4 at *
  refine ⟨e1, M, _, _, rfl, rfl, .of he4, .of hM, ?_, (fun z => by cases z), fun _ z => ?_, fun _ _ q nq => ?_⟩
  · rw [len_vns, List.length_append, sizeLine_eq]
    show 1 + _ ≤ _
    omega
  · refine h e1 H4 s4 ?_
    rw [he4, z]
  · exact h q _ (s4.trans (same_new nq)) upd_same
/-- a plan: what its rows are, over any hue -/
structure PlanOk (many : Nat) (w : Str) (ps ns : List Nat) : Prop where
  few : ps.length ≤ 4
  one : ns.length ≤ 1
  lt : ∀ p ∈ ps, p < many
  row : ∀ hue : List Nat, many ≤ hue.length → (∀ b ∈ hue, b < 32) → ∃ r : Row, r.tup = .str w :: vns (ps.map (fun p => hue.getD p 0) ++ ns) ∧ (∀ n, r.Ok n) ∧ r.leads = none ∧ r ≠ .fin
def sp_L_plan : Sp := fun vs H Q _ => ∃ (a c o : Addr) (n many : Nat), vs = [.ref a, vn many] ∧ (GAt H a c o (n + 6) ∧ 0 < many ∧ many ≤ 4) ∧
  ∀ t w ps ns H', GAt H' a c o n → Fr a o H H' → PlanAt H' t w ps ns → PlanOk many w ps ns → Q (.ref t) H'
def planW : List Str := ["set", "copy", "add", "less", "same", "mix", "pick", "ask", "take"]
def planKs : List (Key × V) := [(.inr "set", .int 1), (.inr "ask", .int 1), (.inr "copy", .int 2), (.inr "take", .int 2), (.inr "pick", .int 4)]
def planK2 : List (Key × V) := [(.inr "set", .int 16), (.inr "ask", .int 8)]
theorem merge1 : mergeK [] planKs = planKs := rfl
theorem merge2 : mergeK [] planK2 = planK2 := rfl
def planN : Nat → Nat
  | 0 => 1 | 7 => 1 | 1 => 2 | 8 => 2 | 6 => 4 | _ => 3
theorem plan_n : ∀ i, i < 9 → (valV planKs (.inr (planW.getD i ""))).getD (.int 3) = vn (planN i)
  | 0, _ => rfl | 1, _ => rfl | 2, _ => rfl | 3, _ => rfl | 4, _ => rfl | 5, _ => rfl | 6, _ => rfl | 7, _ => rfl | 8, _ => rfl
theorem plan_len : ∀ i, planN i ≤ 4 := by
  intro i
  unfold planN
  split <;> decide
theorem plan_num : ∀ i, i < 9 → inV (.str (planW.getD i "")) [.str "set", .str "ask"] = true → (i = 0 ∨ i = 7)
  | 0, _, _ => .inl rfl | 7, _, _ => .inr rfl
  | 1, _, h => by cases h
  | 2, _, h => by cases h
  | 3, _, h => by cases h
  | 4, _, h => by cases h
  | 5, _, h => by cases h
  | 6, _, h => by cases h
  | 8, _, h => by cases h
theorem gd {hue : List Nat} (hb : ∀ b ∈ hue, b < 32) (p : Nat) : hue.getD p 0 < 32 := by
  rw [List.getD_eq_getElem?_getD]
  cases e : hue[p]? with
  | none => decide
  | some b => exact hb b (List.mem_of_getElem? e)
theorem len1 {l : List Nat} (h : l.length = 1) : ∃ a, l = [a] := List.length_eq_one_iff.mp h
theorem len2 {l : List Nat} (h : l.length = 2) : ∃ a b, l = [a, b] := by
  match l, h with
  | [a, b], _ => exact ⟨a, b, rfl⟩
theorem len3 {l : List Nat} (h : l.length = 3) : ∃ a b c, l = [a, b, c] := by
  match l, h with
  | [a, b, c], _ => exact ⟨a, b, c, rfl⟩
theorem len4 {l : List Nat} (h : l.length = 4) : ∃ a b c d, l = [a, b, c, d] := by
  match l, h with
  | [a, b, c, d], _ => exact ⟨a, b, c, d, rfl⟩
theorem plan_ok0 {many i : Nat} {ps : List Nat} (hi : i < 9) (h : inV (.str (planW.getD i "")) [.str "set", .str "ask"] = false) (hl : ps.length = planN i) (hp : ∀ p ∈ ps, p < many) : PlanOk many (planW.getD i "") ps [] := by
  refine ⟨by rw [hl]; exact plan_len i, Nat.zero_le _, hp, fun hue hm hb => ?_⟩
  have g := gd hb
  match i, hi with
  | 0, _ => cases h
  | 7, _ => cases h
  | 1, _ =>
    obtain ⟨a, b, rfl⟩ := len2 hl
    exact ⟨.copy (hue.getD a 0) (hue.getD b 0), rfl, fun _ => ⟨g _, g _⟩, rfl, by intro z; cases z⟩
  | 8, _ =>
    obtain ⟨a, b, rfl⟩ := len2 hl
    exact ⟨.take (hue.getD a 0) (hue.getD b 0), rfl, fun _ => ⟨g _, g _⟩, rfl, by intro z; cases z⟩
  | 2, _ =>
    obtain ⟨a, b, c, rfl⟩ := len3 hl
    exact ⟨.bin .add (hue.getD a 0) (hue.getD b 0) (hue.getD c 0), rfl, fun _ => ⟨g _, g _, g _⟩, rfl, by intro z; cases z⟩
  | 3, _ =>
    obtain ⟨a, b, c, rfl⟩ := len3 hl
    exact ⟨.bin .less (hue.getD a 0) (hue.getD b 0) (hue.getD c 0), rfl, fun _ => ⟨g _, g _, g _⟩, rfl, by intro z; cases z⟩
  | 4, _ =>
    obtain ⟨a, b, c, rfl⟩ := len3 hl
    exact ⟨.bin .same (hue.getD a 0) (hue.getD b 0) (hue.getD c 0), rfl, fun _ => ⟨g _, g _, g _⟩, rfl, by intro z; cases z⟩
  | 5, _ =>
    obtain ⟨a, b, c, rfl⟩ := len3 hl
    exact ⟨.bin .mix (hue.getD a 0) (hue.getD b 0) (hue.getD c 0), rfl, fun _ => ⟨g _, g _, g _⟩, rfl, by intro z; cases z⟩
  | 6, _ =>
    obtain ⟨a, b, c, d, rfl⟩ := len4 hl
    exact ⟨.pick (hue.getD a 0) (hue.getD b 0) (hue.getD c 0) (hue.getD d 0), rfl, fun _ => ⟨g _, g _, g _, g _⟩, rfl, by intro z; cases z⟩
theorem plan_ok1 {many n : Nat} {ps : List Nat} (hl : ps.length = 1) (hp : ∀ p ∈ ps, p < many) (hn : n < 16) : PlanOk many "set" ps [n] := by
  obtain ⟨a, rfl⟩ := len1 hl
  exact ⟨by show 1 ≤ 4; decide, Nat.le_refl _, hp, fun hue hm hb => ⟨.set (hue.getD a 0) n, rfl, fun _ => ⟨gd hb _, hn⟩, rfl, by intro z; cases z⟩⟩
theorem plan_ok2 {many n : Nat} {ps : List Nat} (hl : ps.length = 1) (hp : ∀ p ∈ ps, p < many) (hn : n < 8) : PlanOk many "ask" ps [n] := by
  obtain ⟨a, rfl⟩ := len1 hl
  exact ⟨by show 1 ≤ 4; decide, Nat.le_refl _, hp, fun hue hm hb => ⟨.ask (hue.getD a 0) n, rfl, fun _ => ⟨gd hb _, hn⟩, rfl, by intro z; cases z⟩⟩
-- slots: 0:_law_m 1:_law_many 2:_law_word 3:_law_size 4:_law_places 5:_law_k   level 2
abbrev n_L_plan : List Str := ["_law_m", "_law_many", "_law_word", "_law_size", "_law_places", "_law_k"]
theorem sc_L_plan : FnScope n_L_plan ["_law_m", "_law_many"] SL.d_L_plan.scope := ⟨rfl, rfl, rfl, by decide +kernel, rfl, by decide +kernel, by decide +kernel⟩
theorem ok_L_plan (T : Tx K mg w) : Cal P w K mg base "_law_plan" 2 ["_law_m", "_law_many"] sp_L_plan := by
  refine Cal.of T.D_L_plan T.g_L_plan sc_L_plan (fun _ _ _ _ _ _ us hl => match us, hl with | [_, _], _ => rfl) (fun vs H Q E h => ?_) fun f cdv A outer s H vs Q E hr h => ?_
  · obtain ⟨a, c, o, n, many, rfl, _⟩ := h
    rfl
  obtain ⟨a, c, o, n, many, rfl, u, h⟩ := h
  refine ⟨_, (pss_cons (ps_set (i := 2) sc_L_plan.nd rfl (Or.inl rfl) (pe_ix ix_list (pe_lst (pa_cons pe_str (pa_cons pe_str (pa_cons pe_str (pa_cons pe_str (pa_cons pe_str (pa_cons pe_str (pa_cons pe_str (pa_cons pe_str (pa_cons pe_str pa_nil)))))))))) (pe_fn (ok_L_next T) (hr.mono (by decide)) (by rfl) (pa_cons (pv 0) (pa_cons pe_int pa_nil))) (fun _ _ => rfl)))
    (pss_cons (ps_set (i := 3) sc_L_plan.nd rfl (Or.inl rfl) (pe_dget2 (hu_of hr) (pe_disp (pps_cons pe_str pe_int (pps_cons pe_str pe_int (pps_cons pe_str pe_int (pps_cons pe_str pe_int (pps_cons pe_str pe_int pps_nil))))) (by rfl) (by rfl) (fun z => by cases z) (by decide)) (pv 2) pe_int ⟨rfl, rfl, rfl, rfl⟩))
    (pss_cons (ps_setLc (i := 4)  (own := [("_law_k", 5)]) rfl sc_L_plan.nd rfl rfl (sw_true rfl rfl rfl (by decide +kernel)) (pi_range1 rfl T.f_range (pa_cons (pv 3) pa_nil)) (blkOk_by (own := [("_law_k", 5)]) (N := n_L_plan) (sc := SL.d_L_plan.scope) (by decide +kernel)) (fun _ _ _ _ _ => (pg_name (i := 5) sc_L_plan.nd rfl (Or.inl rfl))) (fun _ _ _ _ _ => pts_nil) (fun _ _ _ _ _ => (pe_fn (ok_L_next (P := P) T) (hr.mono (by decide)) (by rfl) (pa_cons (pv 0) (pa_cons (pv 1) pa_nil)))))
    (pss_cons (ps_if (pt_cmpR op_in_seq (pv 2) (pe_tup (pa_cons pe_str (pa_cons pe_str pa_nil))) (by rfl)) (pss_one (ps_ret (pe_tup (pa_cons (pv 2) (pa_cons (pv 4) (pa_cons (pe_lst (pa_cons (pe_fn (ok_L_next T) (hr.mono (by decide)) (by rfl) (pa_cons (pv 0) (pa_cons (pe_dget (hu_of hr) (pe_disp (pps_cons pe_str pe_int (pps_cons pe_str pe_int pps_nil)) (by rfl) (by rfl) (fun z => by cases z) (by decide)) (pv 2) (fun _ _ => rfl)) pa_nil))) pa_nil)) pa_nil)))))) pss_nil)
    (pss_one (ps_ret (pe_tup (pa_cons (pv 2) (pa_cons (pv 4) (pa_cons (pe_lst pa_nil) pa_nil)))))))))), ?_⟩
  obtain ⟨hG, hm, hm4⟩ := u
  refine ⟨by show 9 ≤ sizeLine; decide, fun W nW => ?_⟩
  have hW : (upd H W (.lst (planW.map V.str))) W = _ := upd_same
  have s1 := same_new (o := .lst (planW.map V.str)) nW
  obtain ⟨nWa, nWo⟩ := hG.new nW
  generalize eH1 : upd H W _ = H1
  have hW : H1 W = some (.lst (planW.map V.str)) := by rw [← eH1]; exact hW
  have s1 : Same H H1 := by rw [← eH1]; exact s1
  refine ⟨_, rfl, a, c, o, n + 5, 9, rfl, ⟨hG.ext s1, by decide, by decide⟩, fun i H2 hi g2 fr2 => ?_⟩
  have hwd : (planW.map V.str)[i]? = some (.str (planW.getD i "")) := by
    rw [List.getElem?_map, List.getD_eq_getElem?_getD, List.getElem?_eq_getElem (show i < planW.length from hi)]
    rfl
  have fr2' := (Fr.of s1).trans fr2
  refine ⟨W, _, _, _, rfl, rfl, .of (fr2 _ _ nWa nWo hW), atI_nat hwd, ?_⟩
  refine fun D1 nD1 => ⟨upd_same, planKs, rfl, by show 5 ≤ 15; decide, ?_⟩
  rw [merge1]
  generalize eH3 : upd (upd H2 D1 _) D1 _ = H3
  have s3 : Same H2 H3 := fun b ob e => by
    have nn := ne_of_none e nD1
    rw [← eH3, upd_ne nn, upd_ne nn]
    exact e
  have hD1 : H3 D1 = some (.dK planKs) := by rw [← eH3]; exact upd_same
  refine ⟨D1, rfl, .inl ⟨_, .of hD1⟩, _, rfl, _, DGet.k (k := (Sum.inr (planW.getD i "") : Key)) hD1, ?_⟩
  rw [plan_n i hi]
  refine ⟨_, rfl, _, rfl, by have := plan_len i; omega, by have := plan_len i; omega, fun D nD => ?_⟩
  have g3 := g2.ext s3
  obtain ⟨nDa, nDo⟩ := g3.new nD
  have nDc := g3.newC nD
  have s4 := same_new (o := .lst []) nD
  have pl := plan_len i
  refine lc_it (walk_range (lo := 0) (n := ((planN i : Int) - 0).toNat)) (fun j H4 => ∃ l, H4 D = some (.lst (vns l)) ∧ l.length = j ∧ (∀ p ∈ l, p < many) ∧ GAt H4 a c o (n + 1 + (planN i - j)) ∧ Fr a o H3 H4)
    ⟨[], upd_same, rfl, fun p hp => (by cases hp), (g3.ext s4).mono (by omega), .of s4⟩ (fun _ _ _ _ => trivial) ?_ ?_
  · rintro j x H4 H5 hj ⟨l, hD, hl, hlm, g4, fr4⟩ ⟨rfl, rfl⟩
    have hj : j < planN i := by
      have hj : j < ((planN i : Int) - 0).toNat := hj
      omega
    refine ⟨rfl, _, rfl, _, rfl, a, c, o, n + 1 + (planN i - (j + 1)), many, rfl, ⟨g4.mono (by omega), hm, by omega⟩, fun y H6 hy g6 fr6 => ?_⟩
    have hD6 := fr6 _ _ nDa nDo hD
    refine ⟨vns l, hD6, by rw [len_vns, sizeLine_eq]; omega, l ++ [y], by rw [upd_same, vns_app]; rfl, by rw [List.length_append, hl]; rfl, fun p hp => ?_, g6.put nDa nDo nDc, fun b ob b1 b2 e => by rw [upd_ne (ne_of_none e nD)]; exact fr6 _ _ b1 b2 (fr4 _ _ b1 b2 e)⟩
    · rcases List.mem_append.mp hp with e | e
      · exact hlm p e
      · rw [List.mem_singleton.mp e]
        exact hy
  rintro H4 ⟨l, hD, hl, hlm, g4, fr4⟩
  have hl : l.length = planN i := by rw [hl]; omega
  have fr4' := (fr2'.trans (.of s3)).trans fr4
  refine ⟨_, rfl, by show 2 ≤ sizeLine; decide, fun e2 ne2 => ⟨e2, _, rfl, .inr (.of upd_same), rfl, rfl, _, rfl, ?_⟩⟩
  have s5 := same_new (o := .tup [.str "set", .str "ask"]) ne2
  have g5 := g4.ext s5
  have hD5 := s5 _ _ hD
  have fr5 := fr4'.trans (.of s5)
  generalize upd H4 e2 (.tup [.str "set", .str "ask"]) = H5 at *
  show if inV (.str (planW.getD i "")) [.str "set", .str "ask"] = true then _ else _
  cases q : inV (.str (planW.getD i "")) [.str "set", .str "ask"] with
  | false =>
    refine ⟨_, rfl, _, rfl, z0, fun v nv => ⟨by show 3 ≤ sizeLine; decide, fun t nt => ?_⟩⟩
    have s6 := (same_new (o := .lst []) nv).trans (same_new (o := .tup [.str (planW.getD i ""), .ref D, .ref v]) nt)
    exact h t (planW.getD i "") l [] _ ((g5.ext s6).mono (by omega)) (fr5.trans (.of s6)) ⟨D, v, upd_same, s6 _ _ hD5, same_new nt _ _ upd_same⟩ (plan_ok0 hi q hl hlm)
  | true =>
    rcases plan_num i hi q with e | e <;> subst e
    · skip
      refine ⟨_, rfl, _, rfl, _, rfl, fun D2 nD2 => ⟨upd_same, planK2, rfl, by show 2 ≤ 15; decide, ?_⟩⟩
      rw [merge2]
      generalize eH6 : upd (upd H5 D2 _) D2 _ = H6
      have s6 : Same H5 H6 := fun b ob e => by
        have nn := ne_of_none e nD2
        rw [← eH6, upd_ne nn, upd_ne nn]
        exact e
      have hD2 : H6 D2 = some (.dK planK2) := by rw [← eH6]; exact upd_same
      refine ⟨_, rfl, D2, _, rfl, DGet.k (k := (Sum.inr "set" : Key)) hD2, a, c, o, n, 16, rfl, ⟨(g5.ext s6).mono (by omega), by decide, by decide⟩, fun y H7 hy g7 fr7 => ⟨by show 1 ≤ sizeLine; decide, fun v nv => ⟨by show 3 ≤ sizeLine; decide, fun t nt => ?_⟩⟩⟩
      have s8 := (same_new (o := .lst [vn y]) nv).trans (same_new (o := .tup [.str "set", .ref D, .ref v]) nt)
      exact h t "set" l [y] _ (g7.ext s8) ((fr5.trans (.of s6)).trans (fr7.trans (.of s8))) ⟨D, v, upd_same, s8 _ _ (fr7 _ _ nDa nDo (s6 _ _ hD5)), same_new nt _ _ upd_same⟩ (plan_ok1 hl hlm hy)
    · skip
      refine ⟨_, rfl, _, rfl, _, rfl, fun D2 nD2 => ⟨upd_same, planK2, rfl, by show 2 ≤ 15; decide, ?_⟩⟩
      rw [merge2]
      generalize eH6 : upd (upd H5 D2 _) D2 _ = H6
      have s6 : Same H5 H6 := fun b ob e => by
        have nn := ne_of_none e nD2
        rw [← eH6, upd_ne nn, upd_ne nn]
        exact e
      have hD2 : H6 D2 = some (.dK planK2) := by rw [← eH6]; exact upd_same
      refine ⟨_, rfl, D2, _, rfl, DGet.k (k := (Sum.inr "ask" : Key)) hD2, a, c, o, n, 8, rfl, ⟨(g5.ext s6).mono (by omega), by decide, by decide⟩, fun y H7 hy g7 fr7 => ⟨by show 1 ≤ sizeLine; decide, fun v nv => ⟨by show 3 ≤ sizeLine; decide, fun t nt => ?_⟩⟩⟩
      have s8 := (same_new (o := .lst [vn y]) nv).trans (same_new (o := .tup [.str "ask", .ref D, .ref v]) nt)
      exact h t "ask" l [y] _ (g7.ext s8) ((fr5.trans (.of s6)).trans (fr7.trans (.of s8))) ⟨D, v, upd_same, s8 _ _ (fr7 _ _ nDa nDo (s6 _ _ hD5)), same_new nt _ _ upd_same⟩ (plan_ok2 hl hlm hy)
end
end SL

/-! text OkStep -/
set_option Elab.async false
set_option linter.all false
set_option maxRecDepth 100000
set_option maxHeartbeats 4000000
namespace SL
open PySem PySem.Spec L2
section
variable {P : Program} {w : World} {K : PySem.W.Frag} {mg : Str → Option Value} {base : Heap}
/-! _law_step -/
inductive PRow where
  | done (r : Row) | goN | ifN (c d : Nat)
def PRow.tup : PRow → List V
  | .done r => r.tup
  | .goN => [.str "go", .non]
  | .ifN c d => [.str "if2", vn c, vn d, .non]
def PRow.Ok : PRow → Prop
  | .done r => (∀ n, r.Ok n) ∧ r.leads = none
  | .goN => True
  | .ifN c d => c < 32 ∧ d < 32
def PRowAt (H : Hp) (a : Addr) (p : PRow) : Prop := H a = some (.tup p.tup) ∧ p.Ok
theorem PRowAt.mono {H H' : Hp} {a : Addr} {p : PRow} (h : PRowAt H a p) (s : SameT H H') : PRowAt H' a p := ⟨s _ _ h.1, h.2⟩
theorem cat_go {K : PySem.W.Frag} {H : Hp} {e t : Addr} {x y : V} {xs ys : List V} {Q : VK} (h1 : H e = some (.tup (x :: xs))) (h2 : H t = some (.tup (y :: ys))) (hz : xs.length + ys.length ≤ 100) (h : ∀ q, H q = none → Q (.ref q) (upd H q (.tup (x :: xs ++ y :: ys)))) : rCatA K (.ref e) (.ref t) H Q :=
  ⟨e, t, _, _, rfl, rfl, .of h1, .of h2, by rw [sizeLine_eq, List.length_cons, List.length_cons]; omega, fun z => (by cases z), fun _ z => (by cases z), fun _ _ => h⟩
theorem rep_go {H : Hp} {F r : Addr} {b : Bool} {Q : VK} (h1 : H F = some (.lst [.ref r])) (h : ∀ G, H G = none → Q (.ref G) (upd H G (.lst ((if b = true then [r] else []).map V.ref)))) : rRep (.ref F) (.int (if b = true then 1 else 0)) H Q := by
  cases b with
  | true => exact ⟨F, 1, _, rfl, rfl, h1, by decide, by decide, by show 1 * (1 : Int).toNat ≤ sizeLine; decide, h⟩
  | false => exact ⟨F, 0, _, rfl, rfl, h1, by decide, by decide, by show 1 * (0 : Int).toNat ≤ sizeLine; decide, h⟩
theorem paired_if {F : Addr → PRow → Prop} {r : Addr} {p : PRow} {b : Bool} (h : F r p) : Paired F (if b = true then [r] else []) (if b = true then [p] else []) := by
  cases b with
  | true => exact .cons h .nil
  | false => exact .nil
theorem len_if {p : PRow} {b : Bool} : (if b = true then [p] else []).length ≤ 2 := by cases b <;> exact Nat.le_of_ble_eq_true rfl
theorem pick_one (a b : V) : pickV [a, b] none none (some 1) = [a, b] ∧ pickV [a, b] none none (some (-1)) = [b, a] := by
  have e1 : sliceRange (sliceBounds none none (some 1) 2).1 (sliceBounds none none (some 1) 2).2.1 (sliceBounds none none (some 1) 2).2.2 = [0, 1] := by decide +kernel
  have e2 : sliceRange (sliceBounds none none (some (-1)) 2).1 (sliceBounds none none (some (-1)) 2).2.1 (sliceBounds none none (some (-1)) 2).2.2 = [1, 0] := by decide +kernel
  unfold pickV
  exact ⟨by rw [show [a, b].length = 2 from rfl, e1]; rfl, by rw [show [a, b].length = 2 from rfl, e2]; rfl⟩
def sp_L_step : Sp := fun vs H Q _ => ∃ (a c o x y : Addr) (n : Nat) (l1 l2 : List Nat) (loose : Nat), vs = [.ref a, .ref x, .ref y, vn loose] ∧ (GAt H a c o (n + 20) ∧ H x = some (.lst (vns l1)) ∧ H y = some (.lst (vns l2)) ∧ x ≠ o ∧ y ≠ o ∧ HuesRaw l1 l2) ∧
  ∀ t as prs H', GAt H' a c o n → Fr a o H H' → H' t = some (.lst (as.map V.ref)) → H t = none → Paired (PRowAt H') as prs → prs.length ≤ 2 → Q (.ref t) H'
-- slots: 0:_law_m 1:_law_ones 2:_law_others 3:_law_loose 4:_law_way 5:_law_many 6:_law_pair_here 7:_law_some 8:_law_plan_here 9:_law_found 10:_law_hue 11:_law_deed_here   level 3
abbrev n_L_step : List Str := ["_law_m", "_law_ones", "_law_others", "_law_loose", "_law_way", "_law_many", "_law_pair_here", "_law_some", "_law_plan_here", "_law_found", "_law_hue", "_law_deed_here"]
theorem sc_L_step : FnScope n_L_step ["_law_m", "_law_ones", "_law_others", "_law_loose"] SL.d_L_step.scope := ⟨rfl, rfl, rfl, by decide +kernel, rfl, by decide +kernel, by decide +kernel⟩
theorem ok_L_step (T : Tx K mg w) : Cal P w K mg base "_law_step" 3 ["_law_m", "_law_ones", "_law_others", "_law_loose"] sp_L_step := by
  refine Cal.of T.D_L_step T.g_L_step sc_L_step (fun _ _ _ _ _ _ us hl => match us, hl with | [_, _, _, _], _ => rfl) (fun vs H Q E h => ?_) fun f cdv A outer s H vs Q E hr h => ?_
  · obtain ⟨a, c, o, x, y, n, l1, l2, loose, rfl, _⟩ := h
    rfl
  obtain ⟨a, c, o, x, y, n, l1, l2, loose, rfl, u, h⟩ := h
  refine ⟨_, (pss_cons (ps_set (i := 4) sc_L_step.nd rfl (Or.inl rfl) (pe_fn (ok_L_next T) (hr.mono (by decide)) (by rfl) (pa_cons (pv 0) (pa_cons pe_int pa_nil))))
    (pss_cons (ps_set (i := 5) sc_L_step.nd rfl (Or.inl rfl) (pe_callB (call_min2 rfl) (by rfl) T.f_min (by decide +kernel) (pa_cons (pe_callB call_len_seq (by rfl) T.f_len PySem.boot_len (pa_cons (pv 1) pa_nil)) (pa_cons (pe_callB call_len_seq (by rfl) T.f_len PySem.boot_len (pa_cons (pv 2) pa_nil)) pa_nil))))
    (pss_cons (ps_if (pt_cmpR op_lt (pv 4) pe_int (nomark _)) (pss_cons (ps_set (i := 8) sc_L_step.nd rfl (Or.inl rfl) (pe_fn (ok_L_plan T) (hr.mono (by decide)) (by rfl) (pa_cons (pv 0) (pa_cons (pv 5) pa_nil))))
    (pss_cons (ps_set (i := 9) sc_L_step.nd rfl (Or.inl rfl) (pe_lst (pa_cons (pe_fn (ok_L_deed T) (hr.mono (by decide)) (by rfl) (pa_cons (pv 8) (pa_cons (pv 1) pa_nil))) (pa_cons (pe_fn (ok_L_deed T) (hr.mono (by decide)) (by rfl) (pa_cons (pv 8) (pa_cons (pv 2) pa_nil))) pa_nil))))
    (pss_one (ps_ret (pe_slice3 (pv 9) po_none po_none (po_some (pe_op op_sub pe_int (pe_op op_mul pe_int (pe_fn (ok_L_next T) (hr.mono (by decide)) (by rfl) (pa_cons (pv 0) (pa_cons pe_int pa_nil))))))))))) pss_nil)
    (pss_cons (ps_if (pt_cmpR op_lt (pv 4) pe_int (nomark _)) (pss_cons (ps_set (i := 10) sc_L_step.nd rfl (Or.inl rfl) (pe_ix ix_list (pe_lst (pa_cons (pv 1) (pa_cons (pv 2) pa_nil))) (pe_fn (ok_L_next T) (hr.mono (by decide)) (by rfl) (pa_cons (pv 0) (pa_cons pe_int pa_nil))) (fun _ _ => rfl)))
    (pss_cons (ps_set (i := 11) sc_L_step.nd rfl (Or.inl rfl) (pe_fn (ok_L_deed T) (hr.mono (by decide)) (by rfl) (pa_cons (pe_fn (ok_L_plan T) (hr.mono (by decide)) (by rfl) (pa_cons (pv 0) (pa_cons (pe_callB call_len_seq (by rfl) T.f_len PySem.boot_len (pa_cons (pv 10) pa_nil)) pa_nil))) (pa_cons (pv 10) pa_nil))))
    (pss_one (ps_ret (pe_op op_rep (pe_lst (pa_cons (pv 11) pa_nil)) (pe_callTy call_int1 (by rfl) T.f_int (by decide +kernel) (pa_cons (pe_cmpR op_lt (pe_fn (ok_L_next T) (hr.mono (by decide)) (by rfl) (pa_cons (pv 0) (pa_cons pe_int pa_nil))) (pv 3) (nomark _)) pa_nil))))))) pss_nil)
    (pss_cons (ps_set (i := 6) sc_L_step.nd rfl (Or.inl rfl) (pe_fn (ok_L_pair T) (hr.mono (by decide)) (by rfl) (pa_cons (pv 0) (pa_cons (pv 1) (pa_cons (pv 2) pa_nil)))))
    (pss_cons (ps_if (pt_cmpR op_eq (pv 4) pe_int (nomark _)) (pss_one (ps_ret (pe_op op_rep (pe_lst (pa_cons (pe_op op_catA (pe_tup (pa_cons pe_str pa_nil)) (pv 6)) pa_nil)) (pe_callTy call_int1 (by rfl) T.f_int (by decide +kernel) (pa_cons (pe_cmpR op_lt (pe_fn (ok_L_next T) (hr.mono (by decide)) (by rfl) (pa_cons (pv 0) (pa_cons pe_int pa_nil))) (pe_op op_add pe_int (pv 3)) (nomark _)) pa_nil))))) pss_nil)
    (pss_cons (ps_if (pt_cmpR op_lt (pv 4) pe_int (nomark _)) (pss_one (ps_ret (pe_lst (pa_cons (pe_op op_catA (pe_tup (pa_cons pe_str pa_nil)) (pv 6)) pa_nil)))) pss_nil)
    (pss_cons (ps_if (pt_cmpR op_eq (pv 4) pe_int (nomark _)) (pss_one (ps_ret (pe_lst (pa_cons (pe_op op_catA (pe_op op_catA (pe_tup (pa_cons pe_str pa_nil)) (pv 6)) (pe_fn (ok_L_pair T) (hr.mono (by decide)) (by rfl) (pa_cons (pv 0) (pa_cons (pv 1) (pa_cons (pv 2) pa_nil))))) pa_nil)))) pss_nil)
    (pss_cons (ps_if (pt_cmpR op_eq (pv 4) pe_int (nomark _)) (pss_one (ps_ret (pe_lst (pa_cons (pe_op op_catA (pe_op op_catA (pe_tup (pa_cons pe_str pa_nil)) (pv 6)) (pe_tup (pa_cons pe_non pa_nil))) pa_nil)))) pss_nil)
    (pss_cons (ps_set (i := 7) sc_L_step.nd rfl (Or.inl rfl) (pe_lst (pa_cons (pe_tup (pa_cons pe_str (pa_cons pe_non pa_nil))) (pa_cons (pe_tup (pa_cons pe_str pa_nil)) (pa_cons (pe_tup (pa_cons pe_str pa_nil)) (pa_cons (pe_tup (pa_cons pe_str pa_nil)) (pa_cons (pe_op op_catA (pe_op op_catA (pe_tup (pa_cons pe_str pa_nil)) (pv 6)) (pe_tup (pa_cons pe_non pa_nil))) pa_nil)))))))
    (pss_one (ps_ret (pe_lst (pa_cons (pe_ix ix_list (pv 7) (pe_fn (ok_L_next T) (hr.mono (by decide)) (by rfl) (pa_cons (pv 0) (pa_cons pe_int pa_nil))) (fun _ _ => rfl)) pa_nil)))))))))))))), ?_⟩
  obtain ⟨hG, hx, hy, nxo, nyo, raw⟩ := u
  have nxa := hG.lst hx
  have nya := hG.lst hy
  have p1 := raw.n1
  have p2 := raw.n2
  have f1 := raw.f1
  have f2 := raw.f2
  have b1 : ∀ b ∈ l1, b < 32 := fun b hb => raw.box b (List.mem_append_left _ hb)
  have b2 : ∀ b ∈ l2, b < 32 := fun b hb => raw.box b (List.mem_append_right _ hb)
  refine ⟨_, rfl, a, c, o, n + 19, 13, rfl, ⟨hG, by decide, by decide⟩, fun way H1 hway g1 fr1 => ?_⟩
  have hx1 := fr1 _ _ nxa nxo hx
  have hy1 := fr1 _ _ nya nyo hy
  refine ⟨_, rfl, x, _, rfl, .inl (.of hx1), _, rfl, y, _, rfl, .inl (.of hy1), _, _, rfl, ?_⟩
  rw [len_vns, len_vns, min_if]
  have hm1 : min l1.length l2.length ≤ l1.length := Nat.min_le_left ..
  have hm2 : min l1.length l2.length ≤ l2.length := Nat.min_le_right ..
  have hm0 : 0 < min l1.length l2.length := Nat.lt_min.mpr ⟨p1, p2⟩
  generalize min l1.length l2.length = many at *
  refine ⟨_, rfl, _, _, rfl, rfl, _, rfl, ?_⟩
  by_cases w1 : (way : Int) < 5
  · rw [decide_eq_true w1]
    refine ⟨_, rfl, _, rfl, a, c, o, n + 13, many, rfl, ⟨g1, hm0, by omega⟩, fun t wd ps ns H2 g2 fr2 hT pok => ?_⟩
    have hx2 := fr2 _ _ nxa nxo hx1
    have hy2 := fr2 _ _ nya nyo hy1
    refine ⟨_, rfl, _, rfl, t, x, wd, ps, ns, l1, rfl, ⟨hT, hx2, fun p hp => by have := pok.lt p hp; omega, pok.few, pok.one⟩, fun r1 H3 s3 hr1 => ?_⟩
    refine ⟨_, rfl, _, rfl, t, y, wd, ps, ns, l2, rfl, ⟨hT.ext s3, s3 _ _ hy2, fun p hp => by have := pok.lt p hp; omega, pok.few, pok.one⟩, fun r2 H4 s4 hr2 => ?_⟩
    refine ⟨by show 2 ≤ sizeLine; decide, fun F nF => ?_⟩
    have s5 := same_new (o := .lst [.ref r1, .ref r2]) nF
    have g4 := (g2.ext s3).ext s4
    obtain ⟨nFa, nFo⟩ := g4.new nF
    have hF : (upd H4 F (.lst [.ref r1, .ref r2])) F = some (.lst [.ref r1, .ref r2]) := upd_same
    have g5 := g4.ext s5
    have hr1' := s5 _ _ (s4 _ _ hr1)
    have hr2' := s5 _ _ hr2
    have fr5 : Fr a o H (upd H4 F (.lst [.ref r1, .ref r2])) := (fr1.trans fr2).trans (.of ((s3.trans s4).trans s5))
    generalize upd H4 F (.lst [.ref r1, .ref r2]) = H5 at *
    obtain ⟨rw1, e1, ok1, ld1, _⟩ := pok.row l1 hm1 b1
    obtain ⟨rw2, e2, ok2, ld2, _⟩ := pok.row l2 hm2 b2
    rw [← e1] at hr1'
    rw [← e2] at hr2'
    refine ⟨_, rfl, ?_⟩
    dsimp only [tNoPart]
    refine ⟨_, rfl, a, c, o, n, 2, rfl, ⟨g5.mono (by omega), by decide, by decide⟩, fun z H6 hz g6 fr6 => ?_⟩
    have hF6 := fr6 _ _ nFa nFo hF
    have fr56 := fr5.trans fr6
    have t56 := g5.sameT fr6
    have done : ∀ (as : List Addr) (prs : List PRow) (H7 : Hp) (G : Addr), H6 G = none → Same H6 H7 → H7 G = some (.lst (as.map V.ref)) → Paired (PRowAt H6) as prs → prs.length ≤ 2 → Q (.ref G) H7 := fun as prs H7 G nG s7 hG7 hp hl =>
      h G as prs H7 (g6.ext s7) (fr56.trans (.of s7)) hG7 (fr56.none (g6.new nG).1 (g6.new nG).2 nG) (Paired.mapP hp fun _ _ z => z.mono (.of s7)) hl
    have q1 : PRowAt H6 r1 (.done rw1) := ⟨t56 _ _ hr1', ok1, ld1⟩
    have q2 : PRowAt H6 r2 (.done rw2) := ⟨t56 _ _ hr2', ok2, ld2⟩
    rcases show z = 0 ∨ z = 1 by omega with e | e <;> subst e
    · refine ⟨_, _, rfl, rfl, .inl ⟨by decide, by decide⟩, _, _, rfl, rfl, _, rfl, F, _, rfl, .of hF6, by decide, ?_, fun G nG => ?_⟩
      · show (pickV [V.ref r1, V.ref r2] none none (some 1)).length ≤ sizeLine
        rw [(pick_one _ _).1]
        show 2 ≤ sizeLine
        decide
      · refine done [r1, r2] [.done rw1, .done rw2] _ G nG (same_new nG) ?_ (.cons q1 (.cons q2 .nil)) (Nat.le_refl _)
        rw [upd_same]
        exact congrArg (fun u => some (HO.lst u)) (pick_one _ _).1
    · refine ⟨_, _, rfl, rfl, .inl ⟨by decide, by decide⟩, _, _, rfl, rfl, _, rfl, F, _, rfl, .of hF6, by decide, ?_, fun G nG => ?_⟩
      · show (pickV [V.ref r1, V.ref r2] none none (some (-1))).length ≤ sizeLine
        rw [(pick_one _ _).2]
        show 2 ≤ sizeLine
        decide
      · refine done [r2, r1] [.done rw2, .done rw1] _ G nG (same_new nG) ?_ (.cons q2 (.cons q1 .nil)) (Nat.le_refl _)
        rw [upd_same]
        exact congrArg (fun u => some (HO.lst u)) (pick_one _ _).2
  · rw [decide_eq_false w1]
    refine ⟨_, rfl, _, _, rfl, rfl, _, rfl, ?_⟩
    by_cases w2 : (way : Int) < 7
    · rw [decide_eq_true w2]
      refine ⟨_, rfl, _, rfl, by show 2 ≤ sizeLine; decide, fun E1 nE1 => ?_⟩
      have s2 := same_new (o := .lst [.ref x, .ref y]) nE1
      obtain ⟨nEa, nEo⟩ := g1.new nE1
      have hE : (upd H1 E1 (.lst [.ref x, .ref y])) E1 = some (.lst [.ref x, .ref y]) := upd_same
      have g2 := g1.ext s2
      have hx2 := s2 _ _ hx1
      have hy2 := s2 _ _ hy1
      have fr2 := fr1.trans (.of s2)
      generalize upd H1 E1 (.lst [.ref x, .ref y]) = H2 at *
      refine ⟨_, rfl, a, c, o, n + 18, 2, rfl, ⟨g2, by decide, by decide⟩, fun z H3 hz g3 fr3 => ?_⟩
      obtain ⟨u, lu, hzu, hu, nuo, pu, fu, bu⟩ : ∃ u lu, [V.ref x, V.ref y][z]? = some (.ref u) ∧ H3 u = some (.lst (vns lu)) ∧ u ≠ o ∧ 0 < lu.length ∧ lu.length ≤ 4 ∧ ∀ b ∈ lu, b < 32 := by
        rcases show z = 0 ∨ z = 1 by omega with e | e <;> subst e
        · exact ⟨x, l1, rfl, fr3 _ _ nxa nxo hx2, nxo, p1, f1, b1⟩
        · exact ⟨y, l2, rfl, fr3 _ _ nya nyo hy2, nyo, p2, f2, b2⟩
      have nua := g3.lst hu
      refine ⟨E1, _, _, _, rfl, rfl, .of (fr3 _ _ nEa nEo hE), atI_nat hzu, ?_⟩
      refine ⟨_, rfl, _, rfl, u, _, rfl, .inl (.of hu), a, c, o, n + 12, lu.length, by rw [len_vns]; rfl, ⟨g3, pu, by omega⟩, fun t wd ps ns H4 g4 fr4 hT pok => ?_⟩
      have hu4 := fr4 _ _ nua nuo hu
      refine ⟨_, rfl, t, u, wd, ps, ns, lu, rfl, ⟨hT, hu4, pok.lt, pok.few, pok.one⟩, fun r1 H5 s5 hr1 => ?_⟩
      obtain ⟨rw1, e1, ok1, ld1, _⟩ := pok.row lu (Nat.le_refl _) bu
      rw [← e1] at hr1
      refine ⟨_, rfl, by show 1 ≤ sizeLine; decide, fun F nF => ?_⟩
      have s6 := same_new (o := .lst [.ref r1]) nF
      have g6 := (g4.ext s5).ext s6
      obtain ⟨nFa, nFo⟩ := (g4.ext s5).new nF
      refine ⟨_, rfl, a, c, o, n, 4, rfl, ⟨g6.mono (by omega), by decide, by decide⟩, fun z H7 hz g7 fr7 => ⟨_, rfl, _, _, rfl, rfl, .inr ⟨_, rfl, rep_go (fr7 _ _ nFa nFo upd_same) fun G nG => ?_⟩⟩⟩
      have fr17 := ((((fr2.trans fr3).trans fr4).trans (.of s5)).trans (.of s6)).trans fr7
      have s8 := same_new (o := .lst ((if decide (((z : Nat) : Int) < ((loose : Nat) : Int)) = true then [r1] else []).map V.ref)) nG
      exact h G _ _ _ (g7.ext s8) (fr17.trans (.of s8)) upd_same (fr17.none (g7.new nG).1 (g7.new nG).2 nG) (paired_if (p := .done rw1) ⟨s8 _ _ (fr7 _ _ ((g4.ext s5).tup hr1).1 ((g4.ext s5).tup hr1).2 (s6 _ _ hr1)), ok1, ld1⟩) len_if
    · rw [decide_eq_false w2]
      refine ⟨_, rfl, _, rfl, _, rfl, a, c, o, x, y, n + 16, l1, l2, rfl, ⟨g1, hx1, hy1, nxo, nyo, p1, p2, f1⟩, fun t H2 g2 fr2 hpair => ?_⟩
      obtain ⟨c1, d1, ht, hc1, hd1⟩ := hpair
      have fr12 := fr1.trans fr2
      have hc32 := b1 c1 hc1
      have hd32 := b2 d1 hd1
      refine ⟨_, rfl, rfl, _, rfl, ?_⟩
      show if decide (V.int (way : Int) = V.int 7) = true then _ else _
      by_cases w3 : V.int (way : Int) = V.int 7
      · rw [decide_eq_true w3]
        refine ⟨by show 1 ≤ sizeLine; decide, fun e ne => ⟨_, rfl, cat_go upd_same (same_new ne _ _ ht) (Nat.le_of_ble_eq_true rfl) fun q nq => ⟨by show 1 ≤ sizeLine; decide, fun F nF => ?_⟩⟩⟩
        have s3 := (same_new (o := .tup [.str "hold"]) ne).trans ((same_new (o := .tup ([.str "hold"] ++ [vn c1, vn d1])) nq).trans (same_new (o := .lst [.ref q]) nF))
        have hq := same_new (o := .lst [.ref q]) nF _ _ (upd_same (H := upd H2 e (.tup [.str "hold"])) (a := q) (o := .tup ([.str "hold"] ++ [vn c1, vn d1])))
        have hF := upd_same (H := upd (upd H2 e (.tup [.str "hold"])) q (.tup ([.str "hold"] ++ [vn c1, vn d1]))) (a := F) (o := .lst [.ref q])
        have g3 := g2.ext s3
        have nF0 := (g2.ext ((same_new (o := .tup [.str "hold"]) ne).trans (same_new (o := .tup ([.str "hold"] ++ [vn c1, vn d1])) nq))).new nF
        generalize eH3 : upd (upd (upd H2 e (.tup [.str "hold"])) q _) F _ = H3
        have s3 : Same H2 H3 := by rw [← eH3]; exact s3
        have g3 : GAt H3 a c o (n + 16) := by rw [← eH3]; exact g3
        have hq : H3 q = some (.tup ([.str "hold"] ++ [vn c1, vn d1])) := by rw [← eH3]; exact hq
        have hF : H3 F = some (.lst [.ref q]) := by rw [← eH3]; exact hF
        refine ⟨_, rfl, a, c, o, n, 4, rfl, ⟨g3.mono (by omega), by decide, by decide⟩, fun z H7 hz g7 fr7 => ⟨_, rfl, _, _, rfl, rfl, _, _, rfl, rfl, .inr ⟨_, rfl, rep_go (fr7 _ _ nF0.1 nF0.2 hF) fun G nG => ?_⟩⟩⟩
        have fr17 := (fr12.trans (.of s3)).trans fr7
        have s8 := same_new (o := .lst ((if decide (((z : Nat) : Int) < 1 + ((loose : Nat) : Int)) = true then [q] else []).map V.ref)) nG
        exact h G _ _ _ (g7.ext s8) (fr17.trans (.of s8)) upd_same (fr17.none (g7.new nG).1 (g7.new nG).2 nG) (paired_if (p := .done (.hold c1 d1)) ⟨s8 _ _ (fr7 _ _ (g3.tup hq).1 (g3.tup hq).2 hq), fun _ => ⟨hc32, hd32⟩, rfl⟩) len_if
      · rw [decide_eq_false w3]
        refine ⟨_, rfl, _, _, rfl, rfl, _, rfl, ?_⟩
        by_cases w4 : (way : Int) < 10
        · rw [decide_eq_true w4]
          refine ⟨by show 1 ≤ sizeLine; decide, fun e ne => ⟨_, rfl, cat_go upd_same (same_new ne _ _ ht) (Nat.le_of_ble_eq_true rfl) fun q nq => ⟨by show 1 ≤ sizeLine; decide, fun F nF => ?_⟩⟩⟩
          have s3 := (same_new (o := .tup [.str "tell2"]) ne).trans ((same_new (o := .tup ([.str "tell2"] ++ [vn c1, vn d1])) nq))
          have s4 := same_new (o := .lst [.ref q]) nF
          exact h F [q] [.done (.tell2 c1 d1)] _ (((g2.ext s3).ext s4).mono (by omega)) (fr12.trans (.of (s3.trans s4))) upd_same ((fr12.trans (.of s3)).none ((g2.ext s3).new nF).1 ((g2.ext s3).new nF).2 nF) (.cons ⟨s4 _ _ upd_same, fun _ => ⟨hc32, hd32⟩, rfl⟩ .nil) (Nat.le_of_ble_eq_true rfl)
        · rw [decide_eq_false w4]
          refine ⟨_, rfl, rfl, _, rfl, ?_⟩
          show if decide (V.int (way : Int) = V.int 10) = true then _ else _
          by_cases w5 : V.int (way : Int) = V.int 10
          · rw [decide_eq_true w5]
            refine ⟨by show 1 ≤ sizeLine; decide, fun e ne => ⟨_, rfl, cat_go upd_same (same_new ne _ _ ht) (Nat.le_of_ble_eq_true rfl) fun q nq => ?_⟩⟩
            have s3 := (same_new (o := .tup [.str "put2"]) ne).trans ((same_new (o := .tup ([.str "put2"] ++ [vn c1, vn d1])) nq))
            have hq : (upd (upd H2 e (.tup [.str "put2"])) q (.tup ([.str "put2"] ++ [vn c1, vn d1]))) q = _ := upd_same
            generalize eH3 : upd (upd H2 e (.tup [.str "put2"])) q _ = H3
            have s3 : Same H2 H3 := by rw [← eH3]; exact s3
            have hq : H3 q = some (.tup [.str "put2", vn c1, vn d1]) := by rw [← eH3]; exact hq
            have g3 := g2.ext s3
            refine ⟨_, rfl, _, rfl, _, rfl, a, c, o, x, y, n, l1, l2, rfl, ⟨g3.mono (by omega), s3 _ _ (fr2 _ _ nxa nxo hx1), s3 _ _ (fr2 _ _ nya nyo hy1), nxo, nyo, p1, p2, f1⟩, fun t2 H4 g4 fr4 hp4 => ?_⟩
            obtain ⟨c2, d2, ht2, hc2, hd2⟩ := hp4
            have hq4 := fr4 _ _ (g3.tup hq).1 (g3.tup hq).2 hq
            refine cat_go hq4 ht2 (Nat.le_of_ble_eq_true rfl) fun q2 nq2 => ⟨by show 1 ≤ sizeLine; decide, fun F nF => ?_⟩
            have s5 := same_new (o := .tup ([.str "put2", vn c1, vn d1] ++ [vn c2, vn d2])) nq2
            have s6 := same_new (o := .lst [.ref q2]) nF
            have fr5 := ((fr12.trans (.of s3)).trans fr4).trans (.of s5)
            exact h F [q2] [.done (.put2 c1 d1 c2 d2)] _ ((g4.ext s5).ext s6) (fr5.trans (.of s6)) upd_same (fr5.none ((g4.ext s5).new nF).1 ((g4.ext s5).new nF).2 nF) (.cons ⟨s6 _ _ upd_same, fun _ => ⟨hc32, hd32, b1 c2 hc2, b2 d2 hd2⟩, rfl⟩ .nil) (Nat.le_of_ble_eq_true rfl)
          · rw [decide_eq_false w5]
            refine ⟨_, rfl, rfl, _, rfl, ?_⟩
            show if decide (V.int (way : Int) = V.int 11) = true then _ else _
            by_cases w6 : V.int (way : Int) = V.int 11
            · rw [decide_eq_true w6]
              refine ⟨by show 1 ≤ sizeLine; decide, fun e ne => ⟨_, rfl, cat_go upd_same (same_new ne _ _ ht) (Nat.le_of_ble_eq_true rfl) fun q nq => ⟨by show 1 ≤ sizeLine; decide, fun e2 ne2 => cat_go (same_new ne2 _ _ upd_same) upd_same (Nat.le_of_ble_eq_true rfl) fun q2 nq2 => ⟨by show 1 ≤ sizeLine; decide, fun F nF => ?_⟩⟩⟩⟩
              have s3 := (same_new (o := .tup [.str "if2"]) ne).trans ((same_new (o := .tup ([.str "if2"] ++ [vn c1, vn d1])) nq).trans ((same_new (o := .tup [.non]) ne2).trans (same_new (o := .tup ([.str "if2"] ++ [vn c1, vn d1] ++ [.non])) nq2)))
              have s4 := same_new (o := .lst [.ref q2]) nF
              exact h F [q2] [.ifN c1 d1] _ (((g2.ext s3).ext s4).mono (by omega)) (fr12.trans (.of (s3.trans s4))) upd_same ((fr12.trans (.of s3)).none ((g2.ext s3).new nF).1 ((g2.ext s3).new nF).2 nF) (.cons ⟨s4 _ _ upd_same, hc32, hd32⟩ .nil) (Nat.le_of_ble_eq_true rfl)
            · rw [decide_eq_false w6]
              refine ⟨by show 2 ≤ sizeLine; decide, fun r1 n1 => ⟨by show 1 ≤ sizeLine; decide, fun r2 n2 => ⟨by show 1 ≤ sizeLine; decide, fun r3 n3 => ⟨by show 1 ≤ sizeLine; decide, fun r4 n4 => ?_⟩⟩⟩⟩
              have t1 := same_new (o := .tup [.str "go", .non]) n1
              have t2 := same_new (o := .tup [.str "end"]) n2
              have t3 := same_new (o := .tup [.str "keep"]) n3
              have t4 := same_new (o := .tup [.str "keep"]) n4
              have s3 := t1.trans (t2.trans (t3.trans t4))
              have h1 := (t2.trans (t3.trans t4)) _ _ (upd_same (H := H2) (a := r1) (o := .tup [.str "go", .non]))
              have h2 := (t3.trans t4) _ _ (upd_same (H := upd H2 r1 (.tup [.str "go", .non])) (a := r2) (o := .tup [.str "end"]))
              have h3 := t4 _ _ (upd_same (H := upd (upd H2 r1 (.tup [.str "go", .non])) r2 (.tup [.str "end"])) (a := r3) (o := .tup [.str "keep"]))
              have h4 := upd_same (H := upd (upd (upd H2 r1 (.tup [.str "go", .non])) r2 (.tup [.str "end"])) r3 (.tup [.str "keep"])) (a := r4) (o := .tup [.str "keep"])
              have ht3 := s3 _ _ ht
              have g3 := g2.ext s3
              generalize upd (upd (upd (upd H2 r1 (.tup [.str "go", .non])) r2 (.tup [.str "end"])) r3 (.tup [.str "keep"])) r4 (.tup [.str "keep"]) = H3 at *
              refine ⟨by show 1 ≤ sizeLine; decide, fun e ne => ⟨_, rfl, cat_go upd_same (same_new ne _ _ ht3) (Nat.le_of_ble_eq_true rfl) fun q nq => ⟨by show 1 ≤ sizeLine; decide, fun e2 ne2 => cat_go (same_new ne2 _ _ upd_same) upd_same (Nat.le_of_ble_eq_true rfl) fun q2 nq2 => ⟨by show 5 ≤ sizeLine; decide, fun F nF => ?_⟩⟩⟩⟩
              have s4 := (same_new (o := .tup [.str "if2"]) ne).trans ((same_new (o := .tup ([.str "if2"] ++ [vn c1, vn d1])) nq).trans ((same_new (o := .tup [.non]) ne2).trans (same_new (o := .tup ([.str "if2"] ++ [vn c1, vn d1] ++ [.non])) nq2)))
              have s5 := same_new (o := .lst [.ref r1, .ref r2, .ref r3, .ref r4, .ref q2]) nF
              have g4 := g3.ext s4
              obtain ⟨nFa, nFo⟩ := g4.new nF
              have g5 := g4.ext s5
              refine ⟨_, rfl, _, rfl, a, c, o, n, 5, rfl, ⟨g5.mono (by omega), by decide, by decide⟩, fun z H6 hz g6 fr6 => ?_⟩
              have hF6 := fr6 _ _ nFa nFo upd_same
              have t56 := g5.sameT fr6
              have key : ∃ r pr, [V.ref r1, .ref r2, .ref r3, .ref r4, .ref q2][z]? = some (.ref r) ∧ PRowAt H6 r pr := by
                rcases show z = 0 ∨ z = 1 ∨ z = 2 ∨ z = 3 ∨ z = 4 by omega with e | e | e | e | e <;> subst e
                · exact ⟨r1, .goN, rfl, t56 _ _ ((s4.trans s5) _ _ h1), trivial⟩
                · exact ⟨r2, .done .fin, rfl, t56 _ _ ((s4.trans s5) _ _ h2), fun _ => trivial, rfl⟩
                · exact ⟨r3, .done .keep, rfl, t56 _ _ ((s4.trans s5) _ _ h3), fun _ => trivial, rfl⟩
                · exact ⟨r4, .done .keep, rfl, t56 _ _ ((s4.trans s5) _ _ h4), fun _ => trivial, rfl⟩
                · exact ⟨q2, .ifN c1 d1, rfl, t56 _ _ (s5 _ _ upd_same), hc32, hd32⟩
              obtain ⟨r, pr, hr, hpr⟩ := key
              refine ⟨F, _, _, _, rfl, rfl, .of hF6, atI_nat hr, by show 1 ≤ sizeLine; decide, fun G nG => ?_⟩
              have s7 := same_new (o := .lst [.ref r]) nG
              have fr17 := (fr12.trans (.of (s3.trans (s4.trans s5)))).trans fr6
              exact h G [r] [pr] _ (g6.ext s7) (fr17.trans (.of s7)) upd_same (fr17.none (g6.new nG).1 (g6.new nG).2 nG) (.cons (hpr.mono (.of s7)) .nil) (Nat.le_of_ble_eq_true rfl)
end
end SL

/-! text OkProg -/
set_option Elab.async false
set_option linter.all false
set_option maxRecDepth 100000
set_option maxHeartbeats 4000000
namespace SL
open PySem PySem.Spec L2
section
variable {P : Program} {w : World} {K : PySem.W.Frag} {mg : Str → Option Value} {base : Heap}
/-! _law_program -/
def Fits (N : Nat) : PRow → Row → Prop
  | .done r, r' => r' = r
  | .goN, r' => ∃ t, r' = .go t ∧ t < N
  | .ifN c d, r' => ∃ t, r' = .if2 c d t ∧ t < N
theorem fits_ok {N : Nat} {q : PRow} {r : Row} (h : q.Ok) (f : Fits N q r) (hN : N ≤ 20) : r.Ok N := by
  cases q with
  | done r' =>
    have f : r = r' := f
    rw [f]
    exact h.1 N
  | goN =>
    obtain ⟨t, rfl, ht⟩ := f
    exact ⟨ht, by omega⟩
  | ifN c d =>
    obtain ⟨t, rfl, ht⟩ := f
    exact ⟨h.1, h.2, ht, by omega⟩
def PRow.ends : PRow → Bool
  | .done r => r.last
  | .goN => true
  | .ifN _ _ => false
theorem fits_last {N : Nat} {q : PRow} {r : Row} (h : q.ends = true) (f : Fits N q r) : r.last = true := by
  cases q with
  | done r' =>
    have f : r = r' := f
    rw [f]
    exact h
  | goN =>
    obtain ⟨t, rfl, ht⟩ := f
    rfl
  | ifN c d => cases h
def PRow.isOpen : PRow → Bool
  | .done _ => false
  | _ => true
theorem vns_nn {l : List Nat} {x : V} (h : x ∈ vns l) : x ≠ .non := by
  obtain ⟨n, _, e⟩ := List.mem_map.mp h
  rw [← e]
  intro z
  cases z
theorem prow_last (q : PRow) : ∃ v, atI q.tup (-1) = some v ∧ decide (v = .non) = q.isOpen := by
  cases q with
  | done r =>
    have hl : (r.tup).length = r.parts.length + 1 := by
      show (V.str r.word :: vns r.parts).length = _
      rw [List.length_cons, len_vns]
    have hlt : r.parts.length < r.tup.length := by omega
    have e := List.getElem?_eq_getElem hlt
    refine ⟨_, at_last e hl, ?_⟩
    refine decide_eq_false ?_
    rcases List.mem_cons.mp (show r.tup[r.parts.length] ∈ V.str r.word :: vns r.parts from List.getElem_mem hlt) with z | z
    · rw [z]
      intro u
      cases u
    · exact vns_nn z
  | goN => exact ⟨_, at_last (j := 1) rfl rfl, decide_eq_true rfl⟩
  | ifN c d => exact ⟨_, at_last (j := 3) rfl rfl, decide_eq_true rfl⟩
theorem cut_but (l : List V) (v : V) : HT.sIx (l ++ [v]).length (l ++ [v]).length (some (-1)) = l.length ∧ cutV (l ++ [v]) none (some (-1)) = l := by
  have e : HT.sIx (l ++ [v]).length (l ++ [v]).length (some (-1)) = l.length := by
    show (if (-1 : Int) < 0 then ((-1 : Int) + ((l ++ [v]).length : Int)).toNat else min (-1 : Int).toNat (l ++ [v]).length) = _
    rw [if_pos (by decide), List.length_append]
    show (-1 + ((l.length + 1 : Nat) : Int)).toNat = _
    omega
  refine ⟨e, ?_⟩
  unfold cutV
  rw [e, HT.sIx_none]
  simp
theorem prow_open {N : Nat} {q : PRow} (h : q.isOpen = true) : ∃ pre : List V, q.tup = pre ++ [.non] ∧ 0 < pre.length ∧ pre.length ≤ 3 ∧ ∀ t, t < N → ∃ r : Row, r.tup = pre ++ [vn t] ∧ Fits N q r := by
  cases q with
  | done r => cases h
  | goN => exact ⟨[.str "go"], rfl, Nat.le_of_ble_eq_true rfl, Nat.le_of_ble_eq_true rfl, fun t ht => ⟨.go t, rfl, t, rfl, ht⟩⟩
  | ifN c d => exact ⟨[.str "if2", vn c, vn d], rfl, Nat.le_of_ble_eq_true rfl, Nat.le_of_ble_eq_true rfl, fun t ht => ⟨.if2 c d t, rfl, t, rfl, ht⟩⟩
def sp_L_program : Sp := fun vs H Q _ => ∃ (a c o x y : Addr) (n : Nat) (l1 l2 : List Nat) (steps loose : Nat), vs = [.ref a, .ref x, .ref y, vn steps, vn loose] ∧ (GAt H a c o (n + 300) ∧ H x = some (.lst (vns l1)) ∧ H y = some (.lst (vns l2)) ∧ x ≠ o ∧ y ≠ o ∧ HuesRaw l1 l2 ∧ steps ≤ 9) ∧
  ∀ t p H', GAt H' a c o n → Fr a o H H' → ProgAt H' t p → p.Ok → Q (.ref t) H'
-- slots: 0:_law_m 1:_law_ones 2:_law_others 3:_law_steps 4:_law_loose 5:_law_rows 6:_law_k 7:_law_found 8:_law_place 9:_law_row 10:_law_far   level 4
abbrev n_L_program : List Str := ["_law_m", "_law_ones", "_law_others", "_law_steps", "_law_loose", "_law_rows", "_law_k", "_law_found", "_law_place", "_law_row", "_law_far"]
theorem sc_L_program : FnScope n_L_program ["_law_m", "_law_ones", "_law_others", "_law_steps", "_law_loose"] SL.d_L_program.scope := ⟨rfl, rfl, rfl, by decide +kernel, rfl, by decide +kernel, by decide +kernel⟩
theorem ok_L_program (T : Tx K mg w) : Cal P w K mg base "_law_program" 4 ["_law_m", "_law_ones", "_law_others", "_law_steps", "_law_loose"] sp_L_program := by
  refine Cal.of T.D_L_program T.g_L_program sc_L_program (fun _ _ _ _ _ _ us hl => match us, hl with | [_, _, _, _, _], _ => rfl) (fun vs H Q E h => ?_) fun f cdv A outer s H vs Q E hr h => ?_
  · obtain ⟨a, c, o, x, y, n, l1, l2, steps, loose, rfl, _⟩ := h
    rfl
  obtain ⟨a, c, o, x, y, n, l1, l2, steps, loose, rfl, u, h⟩ := h
  refine ⟨_, (pss_cons (ps_set (i := 5) sc_L_program.nd rfl (Or.inl rfl) (pe_lst pa_nil))
    (pss_cons (ps_for PassesOwn.never rfl (pi_range1 rfl T.f_range (pa_cons (pv 3) pa_nil)) (pg_name (i := 6) sc_L_program.nd rfl (Or.inl rfl))
    (pss_one (ps_set (i := 5) sc_L_program.nd rfl (Or.inl rfl) (pe_op op_cat (pv 5) (pe_fn (ok_L_step T) (hr.mono (by decide)) (by rfl) (pa_cons (pv 0) (pa_cons (pv 1) (pa_cons (pv 2) (pa_cons (pv 4) pa_nil)))))))))
    (pss_cons (ps_expr (pe_bm PySem.F.plainAttrs_list PySem.F.slot_list_append PySem.F.type_list_append mt_append (pv 5) (pa_cons (pe_ix ix_list (pe_lst (pa_cons (pe_tup (pa_cons pe_str pa_nil)) (pa_cons (pe_tup (pa_cons pe_str pa_nil)) (pa_cons (pe_tup (pa_cons pe_str (pa_cons pe_non pa_nil))) pa_nil)))) (pe_fn (ok_L_next T) (hr.mono (by decide)) (by rfl) (pa_cons (pv 0) (pa_cons pe_int pa_nil))) (fun _ _ => rfl)) pa_nil)))
    (pss_cons (ps_set (i := 7) sc_L_program.nd rfl (Or.inl rfl) (pe_lst pa_nil))
    (pss_cons (ps_for PassesOwn.never rfl (pi_enum (by rfl) T.f_enumerate (pa_cons (pv 5) pa_nil)) (pg_tup rfl (pgs_cons (pg_name (i := 8) sc_L_program.nd rfl (Or.inl rfl)) (pgs_cons (pg_name (i := 9) sc_L_program.nd rfl (Or.inl rfl)) pgs_nil)))
    (Evl.pss_cut (ps_if (pt_cmpR op_isN (pe_ix ix_tup (pv 9) (pe_un un_neg pe_int) (fun _ _ => rfl)) pe_non (nomark _)) (pss_cons (ps_set (i := 10) sc_L_program.nd rfl (Or.inl rfl) (pe_op op_add (pe_op op_add (pv 8) pe_int) (pe_fn (ok_L_next T) (hr.mono (by decide)) (by rfl) (pa_cons (pv 0) (pa_cons (pe_callB call_len_seq (by rfl) T.f_len PySem.boot_len (pa_cons (pv 5) pa_nil)) pa_nil)))))
    (Evl.pss_cut (ps_if (PW.pt (pw_or (pt_cmpR op_ge (pv 10) (pe_callB call_len_seq (by rfl) T.f_len PySem.boot_len (pa_cons (pv 5) pa_nil)) (nomark _)) (pw_or1 (pt_cmpR op_eq (pe_fn (ok_L_next T) (hr.mono (by decide)) (by rfl) (pa_cons (pv 0) (pa_cons pe_int pa_nil))) pe_int (nomark _))))) (pss_one (ps_set (i := 10) sc_L_program.nd rfl (Or.inl rfl) (pe_fn (ok_L_next T) (hr.mono (by decide)) (by rfl) (pa_cons (pv 0) (pa_cons (pe_callB call_len_seq (by rfl) T.f_len PySem.boot_len (pa_cons (pv 5) pa_nil)) pa_nil))))) pss_nil)
    (pss_one (ps_set (i := 9) sc_L_program.nd rfl (Or.inl rfl) (pe_op op_catA (pe_slice sl_tupA (pv 9) po_none (po_some (pe_un un_neg pe_int))) (pe_tup (pa_cons (pv 10) pa_nil))))))) pss_nil)
    (pss_one (ps_expr (pe_bm PySem.F.plainAttrs_list PySem.F.slot_list_append PySem.F.type_list_append mt_append (pv 7) (pa_cons (pv 9) pa_nil))))))
    (pss_one (ps_ret (pe_callTy call_tuple_of (by rfl) T.f_tuple (by decide +kernel) (pa_cons (pv 7) pa_nil))))))))), ?_⟩
  obtain ⟨hG, hx, hy, nxo, nyo, raw, few⟩ := u
  have nxa := hG.lst hx
  have nya := hG.lst hy
  refine ⟨z0, fun R nR => ?_⟩
  have s1 := same_new (o := .lst []) nR
  obtain ⟨nRa, nRo⟩ := hG.new nR
  have nRc := hG.newC nR
  have hR := upd_same (H := H) (a := R) (o := .lst [])
  have g1 := hG.ext s1
  generalize upd H R (.lst []) = H1 at *
  refine ⟨_, rfl, (steps : Int), rfl, by omega, by omega, ?_⟩
  refine for_it walk_range (fun i σ H' => ∃ (R v6 : _) (as : List Addr) (prs : List PRow), σ = [some (.ref a), some (.ref x), some (.ref y), some (vn steps), some (vn loose), some (.ref R), v6, none, none, none, none] ∧ H' R = some (.lst (as.map V.ref)) ∧ R ≠ o ∧ R ≠ c ∧ H R = none ∧ Paired (PRowAt H') as prs ∧ prs.length ≤ 2 * i ∧ GAt H' a c o (n + 100 + 20 * (steps - i)) ∧ Fr a o H H')
    ⟨R, none, [], [], rfl, hR, nRo, nRc, nR, .nil, Nat.le_refl _, g1.mono (by omega), .of s1⟩ (fun _ _ _ _ _ => trivial) ?_ ?_
  · rintro i z σ H2 H3 hi ⟨R, v6, as, prs, rfl, hR, nRo, nRc, nR0, hp, hl, g2, fr2⟩ ⟨rfl, rfl⟩
    have hi : i < steps := by
      have hi : i < ((steps : Int) - 0).toNat := hi
      omega
    have hx2 := fr2 _ _ nxa nxo hx
    have hy2 := fr2 _ _ nya nyo hy
    refine ⟨_, rfl, _, rfl, _, rfl, _, rfl, _, rfl, a, c, o, x, y, n + 100 + 20 * (steps - (i + 1)), l1, l2, loose, rfl, ⟨g2.mono (by omega), hx2, hy2, nxo, nyo, raw⟩, fun t as' prs' H4 g4 fr4 ht nt hp' hl' => ?_⟩
    have hR4 := fr4 _ _ (g2.lst hR) nRo hR
    refine ⟨R, t, _, _, rfl, rfl, hR4, ht, ?_, fun N nN => ?_⟩
    · rw [List.length_map, List.length_map, paired_len hp, paired_len hp', sizeLine_eq]
      omega
    rw [← List.map_append]
    have s5 := same_new (o := .lst ((as ++ as').map V.ref)) nN
    obtain ⟨nNa, nNo⟩ := g4.new nN
    have t5 := (g2.sameT fr4).trans (.of s5)
    refine ⟨N, _, as ++ as', prs ++ prs', rfl, upd_same, nNo, g4.newC nN, (fr2.trans fr4).none nNa nNo nN, ?_, ?_, g4.ext s5, (fr2.trans fr4).trans (.of s5)⟩
    · exact paired_app (Paired.mapP hp fun _ _ z => z.mono t5) (Paired.mapP hp' fun _ _ z => z.mono (.of s5))
    · rw [List.length_append]
      omega
  rintro σ H2 ⟨R, v6, as, prs, rfl, hR, nRo, nRc, nR0, hp, hl, g2, fr2⟩
  have hl : prs.length ≤ 18 := by omega
  have nRa := g2.lst hR
  refine ⟨_, rfl, .inl ⟨rfl, _, .of hR⟩, by show 1 ≤ sizeLine; decide, fun r1 n1 => ⟨by show 1 ≤ sizeLine; decide, fun r2 n2 => ⟨by show 2 ≤ sizeLine; decide, fun r3 n3 => ⟨by show 3 ≤ sizeLine; decide, fun L nL => ?_⟩⟩⟩⟩
  have t1 := same_new (o := .tup [.str "end"]) n1
  have t2 := same_new (o := .tup [.str "end"]) n2
  have t3 := same_new (o := .tup [.str "go", .non]) n3
  have t4 := same_new (o := .lst [.ref r1, .ref r2, .ref r3]) nL
  have h1 := (t2.trans (t3.trans t4)) _ _ (upd_same (H := H2) (a := r1) (o := .tup [.str "end"]))
  have h2 := (t3.trans t4) _ _ (upd_same (H := upd H2 r1 (.tup [.str "end"])) (a := r2) (o := .tup [.str "end"]))
  have h3 := t4 _ _ (upd_same (H := upd (upd H2 r1 (.tup [.str "end"])) r2 (.tup [.str "end"])) (a := r3) (o := .tup [.str "go", .non]))
  have h4 := upd_same (H := upd (upd (upd H2 r1 (.tup [.str "end"])) r2 (.tup [.str "end"])) r3 (.tup [.str "go", .non])) (a := L) (o := .lst [.ref r1, .ref r2, .ref r3])
  have s3 := t1.trans (t2.trans (t3.trans t4))
  have g3 := g2.ext s3
  obtain ⟨nLa, nLo⟩ := (g2.ext (t1.trans (t2.trans t3))).new nL
  have hR3 := s3 _ _ hR
  have hp3 := Paired.mapP hp fun _ _ z => z.mono (.of s3)
  have fr3 := fr2.trans (.of s3)
  generalize upd (upd (upd (upd H2 r1 (.tup [.str "end"])) r2 (.tup [.str "end"])) r3 (.tup [.str "go", .non])) L (.lst [.ref r1, .ref r2, .ref r3]) = H3 at *
  refine ⟨_, rfl, a, c, o, n + 99, 3, rfl, ⟨g3.mono (by omega), by decide, by decide⟩, fun z H4 hz g4 fr4 => ?_⟩
  have t34 := g3.sameT fr4
  have key : ∃ r pr, [V.ref r1, .ref r2, .ref r3][z]? = some (.ref r) ∧ PRowAt H4 r pr ∧ pr.ends = true := by
    rcases show z = 0 ∨ z = 1 ∨ z = 2 by omega with e | e | e <;> subst e
    · exact ⟨r1, .done .fin, rfl, ⟨t34 _ _ h1, fun _ => trivial, rfl⟩, rfl⟩
    · exact ⟨r2, .done .fin, rfl, ⟨t34 _ _ h2, fun _ => trivial, rfl⟩, rfl⟩
    · exact ⟨r3, .goN, rfl, ⟨t34 _ _ h3, trivial⟩, rfl⟩
  obtain ⟨lr, pr, hlr, hpr, hend⟩ := key
  have hL4 := fr4 _ _ nLa nLo h4
  have hR4 := fr4 _ _ nRa nRo hR3
  refine ⟨L, _, _, _, rfl, rfl, .of hL4, atI_nat hlr, R, _, _, rfl, rfl, hR4, ?_, ?_⟩
  · rw [List.length_map, paired_len hp, sizeLine_eq]
    omega
  have t5 : SameT H4 (upd H4 R (.lst (as.map V.ref ++ [V.ref lr]))) := fun b xs e => by
    rw [upd_ne (ne_of e hR4 (by intro z; cases z))]
    exact e
  have hp5 : Paired (PRowAt (upd H4 R (.lst (as.map V.ref ++ [V.ref lr])))) (as ++ [lr]) (prs ++ [pr]) := paired_app (Paired.mapP hp3 fun _ _ z => (z.mono t34).mono t5) (.cons (hpr.mono t5) .nil)
  have g5 := g4.put nRa nRo nRc (x := .lst (as.map V.ref ++ [V.ref lr]))
  have hR5 := upd_same (H := H4) (a := R) (o := .lst (as.map V.ref ++ [V.ref lr]))
  have hR5 : (upd H4 R (.lst (as.map V.ref ++ [V.ref lr]))) R = some (.lst ((as ++ [lr]).map V.ref)) := by rw [upd_same, List.map_append]; rfl
  have fr5 : Fr a o H (upd H4 R (.lst (as.map V.ref ++ [V.ref lr]))) := fun b ob b1 b2 e => by
    have e4 := fr4 _ _ b1 b2 (fr3 _ _ b1 b2 e)
    rw [upd_ne (fun z => by rw [z, nR0] at e; cases e)]
    exact e4
  have hl5 : (prs ++ [pr]).length ≤ 19 := by rw [List.length_append]; show prs.length + 1 ≤ 19; omega
  have hpos5 : 0 < (prs ++ [pr]).length := by rw [List.length_append]; show 0 < prs.length + 1; omega
  have hlast5 : ∃ q, (prs ++ [pr])[(prs ++ [pr]).length - 1]? = some q ∧ q.ends = true := ⟨pr, by simp, hend⟩
  have hbl := paired_len hp5
  generalize upd H4 R (.lst (as.map V.ref ++ [V.ref lr])) = H5 at *
  generalize prs ++ [pr] = ps at *
  generalize as ++ [lr] = bs at *
  refine ⟨z0, fun F nF => ?_⟩
  obtain ⟨nFa, nFo⟩ := g5.new nF
  have nFc := g5.newC nF
  have nFR : R ≠ F := ne_of_none hR5 nF
  have nF0 := fr5.none nFa nFo nF
  have s6 := same_new (o := .lst []) nF
  have hF6 := upd_same (H := H5) (a := F) (o := .lst [])
  have hR6 := s6 _ _ hR5
  have hp6 := Paired.mapP hp5 fun _ _ z => z.mono (.of s6)
  have g6 := g5.ext s6
  have fr6 := fr5.trans (.of s6)
  generalize upd H5 F (.lst []) = H6 at *
  refine ⟨_, rfl, R, _, rfl, .of hR6, ?_⟩
  refine for_it walk_enum (fun i σ H' => ∃ (v8 v9 v10 : _) (fs : List Addr) (rs : List Row), σ = [some (.ref a), some (.ref x), some (.ref y), some (vn steps), some (vn loose), some (.ref R), v6, some (.ref F), v8, v9, v10] ∧ H' F = some (.lst (fs.map V.ref)) ∧ H' R = some (.lst (bs.map V.ref)) ∧ Paired (RowAt H') fs rs ∧ Paired (Fits ps.length) (ps.take i) rs ∧ Paired (PRowAt H') bs ps ∧ GAt H' a c o (n + 3 * (ps.length - i)) ∧ Fr a o H H')
    ⟨none, none, none, [], [], rfl, hF6, hR6, .nil, .nil, hp6, g6.mono (by omega), fr6⟩ (fun i σ H' _ z => by obtain ⟨_, _, _, _, _, _, _, z, _⟩ := z; exact .of z) ?_ ?_
  · rintro i z σ H7 H8 hi ⟨v8, v9, v10, fs, rs, rfl, hF, hR, hfr, hft, hpp, g7, fr7⟩ ⟨t, x1, x2, rfl, nt, rfl, h1, h2⟩
    have h2 : (bs.map V.ref)[i]? = some x2 := h2
    cases h1
    have hi : i < ps.length := by
      rw [List.length_map] at hi
      omega
    obtain ⟨b, hb, hq⟩ := paired_get hpp (List.getElem?_eq_getElem hi)
    rw [List.getElem?_map, hb] at h2
    cases h2
    generalize eq : ps[i] = q at *
    refine g2_go upd_same ?_
    have s8 := same_new (o := .tup [.int (i : Nat), .ref b]) nt
    have g8 := g7.ext s8
    have hq8 := hq.mono (.of s8)
    have hF8 := s8 _ _ hF
    have hR8 := s8 _ _ hR
    have hfr8 := Paired.mapP hfr fun _ _ z => z.mono (.of s8)
    have hpp8 := Paired.mapP hpp fun _ _ z => z.mono (.of s8)
    have fr8 := fr7.trans (.of s8)
    generalize upd H7 t (.tup [.int (i : Nat), .ref b]) = H8 at *
    refine ⟨fun σ9 H9 => ∃ (b' : Addr) (r : Row) (v10' : _), σ9 = [some (.ref a), some (.ref x), some (.ref y), some (vn steps), some (vn loose), some (.ref R), v6, some (.ref F), some (.int (i : Nat)), some (.ref b'), v10'] ∧ RowAt H9 b' r ∧ Fits ps.length q r ∧ GAt H9 a c o (n + 3 * (ps.length - (i + 1))) ∧ Fr a o H8 H9, ?_, ?_⟩
    · obtain ⟨v, hv, ev⟩ := prow_last q
      refine ⟨_, rfl, _, rfl, _, _, _, _, rfl, rfl, .of hq8.1, hv, rfl, _, rfl, ?_⟩
      rw [ev]
      cases qo : q.isOpen with
      | false =>
        cases q with
        | done r' => exact ⟨b, r', _, rfl, hq8.1, rfl, g8.mono (by omega), Fr.refl⟩
        | goN => cases qo
        | ifN c d => cases qo
      | true =>
        obtain ⟨pre, e1, pre0, pre3, hfits⟩ := prow_open (N := ps.length) qo
        have hm : (bs.map V.ref).length = ps.length := by rw [List.length_map, hbl]
        refine ⟨_, rfl, _, _, rfl, rfl, _, rfl, _, rfl, R, _, rfl, .inl (.of hR8), a, c, o, n + 3 * (ps.length - (i + 1)) + 2, (bs.map V.ref).length, rfl, ⟨g8.mono (by omega), by omega, by omega⟩, fun z H9 hz g9 fr9 => ⟨_, _, rfl, rfl, ?_⟩⟩
        have hR9 := fr9 _ _ nRa nRo hR8
        refine ⟨fun σa Ha => ∃ t : Nat, σa = [some (.ref a), some (.ref x), some (.ref y), some (vn steps), some (vn loose), some (.ref R), v6, some (.ref F), some (.int (i : Nat)), some (.ref b), some (vn t)] ∧ t < ps.length ∧ GAt Ha a c o (n + 3 * (ps.length - (i + 1))) ∧ Fr a o H8 Ha, ?_, ?_⟩
        · refine ⟨_, rfl, _, rfl, R, _, rfl, .inl (.of hR9), _, _, rfl, rfl, _, rfl, ?_⟩
          by_cases hge : ((bs.map V.ref).length : Int) ≤ (i : Int) + 1 + (z : Int)
          · rw [decide_eq_true hge]
            refine iteT (iteT ?_)
            refine ⟨_, rfl, _, rfl, R, _, rfl, .inl (.of hR9), a, c, o, n + 3 * (ps.length - (i + 1)), (bs.map V.ref).length, rfl, ⟨g9.mono (by omega), by omega, by omega⟩, fun u H10 hu g10 fr10 => ?_⟩
            exact ⟨u, rfl, by omega, g10, fr9.trans fr10⟩
          · rw [decide_eq_false hge]
            refine iteF ?_
            refine ⟨_, rfl, a, c, o, n + 3 * (ps.length - (i + 1)) + 1, 4, rfl, ⟨g9, by decide, by decide⟩, fun z2 H10 hz2 g10 fr10 => ⟨rfl, _, rfl, ?_⟩⟩
            have hR10 := fr10 _ _ nRa nRo hR9
            show if decide (V.int (z2 : Int) = V.int 0) = true then _ else _
            by_cases hd : V.int (z2 : Int) = V.int 0
            · rw [decide_eq_true hd]
              refine ⟨_, rfl, _, rfl, R, _, rfl, .inl (.of hR10), a, c, o, n + 3 * (ps.length - (i + 1)), (bs.map V.ref).length, rfl, ⟨g10.mono (by omega), by omega, by omega⟩, fun u H11 hu g11 fr11 => ?_⟩
              exact ⟨u, rfl, by omega, g11, (fr9.trans fr10).trans fr11⟩
            · rw [decide_eq_false hd]
              refine ⟨i + 1 + z, ?_, by omega, g10.mono (by omega), fr9.trans fr10⟩
              show [_, _, _, _, _, _, _, _, _, _, some (V.int ((i : Int) + 1 + (z : Int)))] = _
              rw [show ((i : Int) + 1 + (z : Int)) = ((i + 1 + z : Nat) : Int) by omega]
              rfl
        · rintro σa Ha ⟨t, rfl, ht, ga', fra⟩
          obtain ⟨r, hr1, hr2⟩ := hfits t ht
          have ta := g8.sameT fra
          have hqa := ta _ _ hq8.1
          rw [e1] at hqa
          obtain ⟨c1, c2⟩ := cut_but pre .non
          have hnw : ¬ (HT.sIx (pre ++ [V.non]).length 0 none = 0 ∧ HT.sIx (pre ++ [V.non]).length (pre ++ [V.non]).length (some (-1)) = (pre ++ [V.non]).length) := fun ⟨_, z⟩ => by
            rw [c1, List.length_append] at z
            have z : pre.length = pre.length + 1 := z
            omega
          refine ⟨_, rfl, ?_⟩
          dsimp only [tNoPart]
          refine ⟨_, rfl, _, rfl, b, _, rfl, .of hqa, fun z => (hnw z).elim, fun _ p np => ?_⟩
          rw [c2]
          refine ⟨_, rfl, by show 1 ≤ sizeLine; decide, fun p2 np2 => ?_⟩
          cases pre with
          | nil => cases pre0
          | cons u us =>
            have s9 := same_new (o := .tup (u :: us)) np
            have s10 := same_new (o := .tup [vn t]) np2
            have hpre := s10 _ _ (upd_same (H := Ha) (a := p) (o := .tup (u :: us)))
            have lus : (u :: us).length = us.length + 1 := List.length_cons
            refine cat_go hpre upd_same (by show us.length + 0 ≤ 100; omega) fun p3 np3 => ?_
            have s11 := (s9.trans s10).trans (same_new (o := .tup (u :: us ++ [vn t])) np3)
            refine ⟨p3, r, _, rfl, ?_, hr2, ga'.ext s11, fra.trans (.of s11)⟩
            show _ = some (HO.tup r.tup)
            rw [hr1]
            exact upd_same
    · rintro σ9 H9 ⟨b', r, v10', rfl, hr9, hf9, g9, fr9⟩
      have t9 := g8.sameT fr9
      have hF9 := fr9 _ _ nFa nFo hF8
      refine ⟨_, rfl, .inl ⟨rfl, _, .of hF9⟩, _, rfl, F, _, _, rfl, rfl, hF9, ?_, ?_⟩
      · rw [List.length_map, paired_len hfr, ← paired_len hft, List.length_take, sizeLine_eq]
        omega
      have t10 : SameT H9 (upd H9 F (.lst (fs.map V.ref ++ [V.ref b']))) := fun b xs e => by
        rw [upd_ne (ne_of e hF9 (by intro z; cases z))]
        exact e
      refine ⟨_, _, _, fs ++ [b'], rs ++ [r], rfl, ?_, ?_, ?_, ?_, ?_, g9.put nFa nFo nFc, ?_⟩
      · rw [upd_same, List.map_append]
        rfl
      · rw [upd_ne nFR]
        exact fr9 _ _ nRa nRo hR8
      · exact paired_app (Paired.mapP hfr8 fun _ _ z => (z.mono t9).mono t10) (.cons (hr9.mono t10) .nil)
      · rw [List.take_succ, List.getElem?_eq_getElem hi, eq]
        exact paired_app hft (.cons hf9 .nil)
      · exact Paired.mapP hpp8 fun _ _ z => (z.mono t9).mono t10
      · intro u ob b1 b2 e
        have e9 := fr9 _ _ b1 b2 (fr8 _ _ b1 b2 e)
        rw [upd_ne (fun z => by rw [z, nF0] at e; cases e)]
        exact e9
  rintro σ H7 ⟨v8, v9, v10, fs, rs, rfl, hF, hR, hfr, hft, hpp, g7, fr7⟩
  have el : (bs.map V.ref).length = ps.length := by rw [List.length_map, hbl]
  rw [el, List.take_length] at hft
  have hlen := paired_len hft
  refine ⟨_, rfl, F, _, rfl, .inl ⟨.of hF, fun t nt => ?_⟩⟩
  have s8 := same_new (o := .tup (fs.map V.ref)) nt
  refine h t rs _ ((g7.ext s8).mono (by omega)) (fr7.trans (.of s8)) ⟨fs, upd_same, Paired.mapP hfr fun _ _ z => z.mono (.of s8)⟩ ⟨by omega, by omega, fun r hr => ?_, ?_⟩
  · obtain ⟨i, hi⟩ := List.getElem?_of_mem hr
    obtain ⟨q, hq, hf⟩ := paired_get hft hi
    obtain ⟨b, _, hqq⟩ := paired_get hpp hq
    rw [← hlen]
    exact fits_ok hqq.2 hf (by omega)
  · obtain ⟨q, hq, he⟩ := hlast5
    have hlt : rs.length - 1 < rs.length := by omega
    obtain ⟨q', hq', hf⟩ := paired_get hft (List.getElem?_eq_getElem hlt)
    rw [← hlen, hq] at hq'
    cases hq'
    have z := fits_last he hf
    unfold Prog.at
    rw [List.getD_eq_getElem?_getD, List.getElem?_eq_getElem hlt]
    exact z
end
end SL

/-! text SlEnd -/
set_option Elab.async false
set_option linter.all false
set_option maxRecDepth 100000
set_option maxHeartbeats 4000000
namespace SL
open PySem PySem.Spec PyProof.Rows L2
/-! ### the law's own call: the way to it is known, so is what guards stand (repr asks) -/
section
variable {P : Program} {w : World} {K : PySem.W.Frag} {mg : Str → Option Value}
/-- a def is run where the way stands -/
theorem run_here {base : Heap} {d : He.DefD} {f : Addr} {fd : FuncData} {N ps : List Str} {k : Nat} {A : Around} {outer : List Env} {s : Shared} {H : Hp} {us : List Value} {vs : List V} {Q : VK} {E : XK} {args : Args}
    (F : FunD K d.name d.qual d.params d.body d.scope [] [] f fd) (S : FnScope N ps d.scope) (hl : vs.length = ps.length) (hr : Room (k + 1) A) (e0 : Env0 P w K mg base A outer s H) (hb : BindsTo s fd args (ps.zip us)) (rv : Vals vs us)
    (go : ∀ cdv : Value, Room k (A.deeper (envOfC d.qual d.scope s.heap.objs.size f cdv)) → ∃ t, PSs (cxOf CX0 P w K mg base N d.qual d.scope f cdv A outer s H E) d.body t ∧ t { nx := fun _ H' => Q .non H', rt := Q } (start N vs) H) :
    codeAny (model P w) A (.call (.ref f) args) (CR CX0 outer P w H s Q E) s := by
  obtain ⟨c1, c2, c3, c4, c5, c6, c7, cdv, c8, c9, rfl, lk, hcd, _⟩ := F.ex
  have old := fun b o e => (e0.bs b o e).1
  have hK := e0.mod.kin.keeps old
  refine codeAny_call_function hr.depth (hK _ _ lk) rfl S.co S.gen rfl (PySem.W.codeRec_of hK hcd) (hb _ _ _ _ (wpAny_newFunctionEnv_cells S.kind (fun y hy => ?_) fun env e s1 x => ?_))
  · exact (S.par y.1 (List.of_mem_zip hy).1).imp id fun q => ⟨q, PySem.W.cellsFrom_some _ _ _ (.inl q)⟩
  subst e
  obtain ⟨t, ht, q⟩ := go cdv (hr.deeper _)
  refine ⟨(e0.mod.nolimit.keeps old).keeps x.toInCall.keep, codeAny_func (wpAny_mono (ht.run [] s1 _ H _ (inv_start S hr.hd e0 hl rv x) q) (fun fl s2 z => ?_) fun _ _ z => z)⟩
  cases fl with
  | brk => obtain ⟨_, _, _, z⟩ := z; exact z.elim
  | cont => obtain ⟨_, _, _, z⟩ := z; exact z.elim
  | next =>
    obtain ⟨_, H2, J, z⟩ := z
    exact ⟨.non, H2, J.os, J.bare, J.base, J.hok, rfl, z⟩
  | ret u =>
    obtain ⟨v, _, H2, J, r2, z⟩ := z
    exact ⟨v, H2, J.os, J.bare, J.base, J.hok, r2, z⟩
/-- the heap in which the script alone is known -/
def onlyHp (a : Addr) (o : Obj) (xs : List V) (b : Bool) : Hp := fun c => if b = true ∧ c = a then some (.frz o (.lst xs)) else none
theorem onlyHp_off {a c : Addr} {o : Obj} {xs : List V} {b : Bool} (h : ¬ (b = true ∧ c = a)) : onlyHp a o xs b c = none := if_neg h
theorem onlyHp_cases {a c : Addr} {o : Obj} {xs : List V} {b : Bool} {u : HO} (h : onlyHp a o xs b c = some u) : b = true ∧ c = a ∧ u = .frz o (.lst xs) := by
  unfold onlyHp at h
  split at h
  · rename_i q
    exact ⟨q.1, q.2, (Option.some.inj h).symm⟩
  · cases h
theorem law_here {mb : Str → Option Value} {d : He.DefD} {k : Nat} {f a : Addr} {fd : FuncData} {x : Str} {N : List Str} {s : Shared} {us : List Value} {ns : List Int}
    (KX : K.In s.heap) (hns : s.heap.Ns mainGlobals mg) (hb : s.heap.Ns builtinsNs mb) (hbb : ∀ x : Str, x ≠ "__name__" → mb x = bootBuiltins x) (hlim : s.heap.NoLimit) (hg : s.gens = #[])
    (ha : s.heap.get? a = some { cls := .type "list", data := .seq us.toArray }) (hi : IntsAre us ns) (hl : ns.length ≤ sizeLine) (hr : Room (k + 1) callerA)
    (F : FunD K d.name d.qual d.params d.body d.scope [] [] f fd) (S : FnScope N [x] d.scope) (bind : BindsTo s fd ⟨[.ref a], []⟩ [(x, .ref a)])
    (go : ∀ (base : Heap) (H : Hp) (cdv : Value), K.In base → base.Ns mainGlobals mg → SqL K H a (ns.map V.int) → Room k (callerA.deeper (envOfC d.qual d.scope s.heap.objs.size f cdv)) →
      ∃ t, PSs (cxOf CX0 P w K mg base N d.qual d.scope f cdv callerA [] s H fun _ _ _ => False) d.body t ∧ t { nx := fun _ _ => V.non = V.bl true, rt := fun v _ => v = .bl true } (start N [.ref a]) H) :
    codeAny (model P w) callerA (.call (.ref f) ⟨[.ref a], []⟩) (fun r s' => r = .ok (.ret (.bool true)) ∧ OldK s.heap s'.heap ∧ s'.os = s.os ∧ AllBare s'.gens) s := by
  have rv := vals_ints hi
  have len : us.length = ns.length := hi.length
  let ob : Obj := { cls := .type "list", data := .seq us.toArray }
  let tr : Bool := (K.lookup a).isNone
  let H := onlyHp a ob (ns.map V.int) tr
  -- what is told of the script
  have sq : SqL K H a (ns.map V.int) := by
    cases q : K.lookup a with
    | none => exact .inl (.inr ⟨ob, if_pos ⟨by show (K.lookup a).isNone = true; rw [q]; rfl, rfl⟩⟩)
    | some o =>
      have e := KX a o q
      rw [ha] at e
      exact .inr ⟨o, us.toArray, _, q, by rw [← Option.some.inj e], by rw [← Option.some.inj e], by rw [← Option.some.inj e], by rw [List.size_toArray, len]; exact hl, rv⟩
  have hok : HOk P w H s.heap := fun b u e => by
    obtain ⟨_, e2, e3⟩ := onlyHp_cases e
    subst e2 e3
    exact ⟨ha, by rw [List.length_map]; exact hl, us, _, rv, ha⟩
  have dicts : ∀ {b : Addr} {o : Obj} {es : Array DictEntry} {ep : Nat}, s.heap.get? b = some o → o.data = .dict es ep → H b = none := fun {b o es ep} e e2 => onlyHp_off fun ⟨_, z⟩ => by
    rw [z, ha] at e
    rw [← Option.some.inj e] at e2
    cases e2
  have nsB : ∀ {b : Addr} {m : Str → Option Value}, s.heap.Ns b m → (hidT s.heap H).Ns b m := fun ⟨o, es, ep, e, e2, z⟩ => ⟨o, es, ep, hidT_get e (dicts e e2), e2, z⟩
  have inB : K.In (hidT s.heap H) := fun b o e => hidT_get (KX b o e) (onlyHp_off fun ⟨z1, z2⟩ => by
    have z1 : (K.lookup a).isNone = true := z1
    rw [← z2, e] at z1
    cases z1)
  have md : Mod K mg (hidT s.heap H) := by
    obtain ⟨mc, l1, l2⟩ := hlim
    exact ⟨inB, nsB hns, ⟨mb, nsB hb, hbb⟩, ⟨mc, nsB l1, l2⟩⟩
  have e0 : Env0 P w K mg (hidT s.heap H) callerA [] s H := ⟨rfl, md, fun b o e => of_hidT e, Nat.le_of_eq (hidT_size _ _), trivial, (fun b z => nomatch z), hok, .of_eq hg⟩
  refine codeAny_mono (run_here (us := [Value.ref a]) (vs := [V.ref a]) (ps := [x]) (Q := fun v _ => v = .bl true) (E := fun _ _ _ => False) F S rfl hr e0 bind (.cons rfl .nil) fun cdv r => go _ H cdv inB (nsB hns) sq r) fun r s2 z => ?_
  cases r with
  | error e => exact (show False from z).elim
  | ok fl =>
    cases fl with
    | next => exact (show False from z).elim
    | brk => exact (show False from z).elim
    | cont => exact (show False from z).elim
    | ret u =>
      obtain ⟨v, H2, os, bare, un, hok2, rv2, ev⟩ := z
      have ev : v = .bl true := ev
      subst ev
      have eu : u = Value.bool true := rv2
      refine ⟨by rw [eu], OldK.of_keep fun b o e => ?_, os, bare⟩
      cases q : H b with
      | none => exact un.keep b o e q (fun z => nomatch z) (by simp)
      | some ho =>
        obtain ⟨_, z2, z3⟩ := onlyHp_cases q
        subst z3
        have g2 := (hok2 b _ (un.frzs b _ _ q)).1
        have g1 := (hok b _ q).1
        rw [g2, ← g1]
        exact e
end
end SL

/-! text OkLaw -/
set_option Elab.async false
set_option linter.all false
set_option maxRecDepth 100000
set_option maxHeartbeats 4000000
namespace SL
open PySem PySem.Spec L2
section
variable {P : Program} {w : World} {K : PySem.W.Frag} {mg : Str → Option Value} {base : Heap}
/-! law -/
/-- what a walk found, as data -/
def pdF : Option Found → PyData
  | none => .none
  | some (.apart i) => .tuple [.str "apart", .int (i : Int)]
  | some (.over .fin i) => .tuple [.str "end", .int (i : Int)]
  | some (.over .slip i) => .tuple [.str "slip", .int (i : Int)]
theorem dp_found {H : Hp} {v : V} {u : Option Found} (h : FoundAt H v u) : Dp K H v (pdF u) := by
  cases u with
  | none =>
    have h : v = .non := h
    subst h
    exact .non
  | some f =>
    cases f with
    | apart i =>
      obtain ⟨a, e, h⟩ := h
      subst e
      exact .tup (.of h) (.cons (.str _) (.cons (.int _) .nil))
    | over o i =>
      obtain ⟨a, e, h⟩ := h
      subst e
      cases o with
      | fin => exact .tup (.of h) (.cons (.str _) (.cons (.int _) .nil))
      | slip => exact .tup (.of h) (.cons (.str _) (.cons (.int _) .nil))
theorem shaped_word {z : Str} (h : PyData.canLay0 (.str z) = true) (i : Nat) : SeqAt.shaped (.tuple [.str z, .int (i : Int)]) = true := by
  unfold SeqAt.shaped
  rw [show PyData.canLay0 (.tuple [.str z, .int (i : Int)]) = (PyData.canLay0 (.str z) && (PyData.canLay0 (.int (i : Int)) && true)) from rfl, h]
  refine Bool.and_eq_true_iff.mpr ⟨rfl, decide_eq_true ?_⟩
  have e : PyData.depth (.str z) ≤ 1 := by simp [PyData.depth]
  show max (PyData.depth (.str z)) (max (PyData.depth (.int (i : Int))) 0) + 1 ≤ 64
  have e2 : PyData.depth (.int (i : Int)) ≤ 1 := by simp [PyData.depth]
  omega
theorem shaped_found (u : Option Found) : SeqAt.shaped (pdF u) = true := by
  match u with
  | none => decide +kernel
  | some (.apart i) => exact shaped_word (by decide +kernel) i
  | some (.over .fin i) => exact shaped_word (by decide +kernel) i
  | some (.over .slip i) => exact shaped_word (by decide +kernel) i
theorem eqv_found (u : Option Found) : PyData.eqv (pdF u) (pdF u) = true := by
  have e : ∀ (z : Str) (i : Nat), PyData.eqv (.tuple [.str z, .int (i : Int)]) (.tuple [.str z, .int (i : Int)]) = true := fun z i => by
    show (decide (z = z) && (decide ((i : Int) = (i : Int)) && true)) = true
    simp
  match u with
  | none => rfl
  | some (.apart i) => exact e _ _
  | some (.over .fin i) => exact e _ _
  | some (.over .slip i) => exact e _ _
theorem str_ne {z y : Str} (h : z ≠ y) : V.str z ≠ V.str y := fun e => h (by injection e)
theorem w_end_apart : V.str "end" ≠ V.str "apart" := str_ne (by decide +kernel)
theorem w_slip_apart : V.str "slip" ≠ V.str "apart" := str_ne (by decide +kernel)
theorem w_end_slip : V.str "end" ≠ V.str "slip" := str_ne (by decide +kernel)
theorem FoundAt.mono {H H' : Hp} {v : V} {u : Option Found} (h : FoundAt H v u) (e : Same H H') : FoundAt H' v u := by
  cases u with
  | none => exact h
  | some f =>
    cases f with
    | apart i =>
      obtain ⟨a, h1, h2⟩ := h
      exact ⟨a, h1, e _ _ h2⟩
    | over o i =>
      obtain ⟨a, h1, h2⟩ := h
      exact ⟨a, h1, e _ _ h2⟩
/-- what sure_paper gave -/
def SureAt (H : Hp) (v : V) : Option (List Twins) → Prop
  | none => v = .non
  | some pp => ∃ q, v = .ref q ∧ PaperAt H q pp
theorem SureAt.mono {H H' : Hp} {v : V} {o : Option (List Twins)} (h : SureAt H v o) (e : SameT H H') : SureAt H' v o := by
  cases o with
  | none => exact h
  | some pp =>
    obtain ⟨q, h1, h2⟩ := h
    exact ⟨q, h1, h2.mono e⟩
theorem sure_sp {H : Hp} {Q : VK} {E : XK} {ap a x y : Addr} {p : Prog} {hs : Hues} (h1 : ProgAt H ap p) (h2 : p.Ok) (h3 : HuesAt H a x y hs) (h4 : hs.Ok) (h : ∀ v H', Same H H' → SureAt H' v (surePaper p hs) → Q v H') : sp_sure_paper [.ref ap, .ref a] H Q E :=
  ⟨ap, a, x, y, p, hs, rfl, ⟨h1, h2, h3, h4⟩, fun e H' s => h _ _ s (by rw [e]; rfl), fun pp e q H' n s hq => h _ _ s (by rw [e]; exact ⟨q, rfl, hq⟩)⟩
theorem SureAt.none_iff {H : Hp} {v : V} {u : Option (List Twins)} (h : SureAt H v u) : (v = .non) ↔ u = none := by
  cases u with
  | none => exact ⟨fun _ => rfl, fun _ => h⟩
  | some pp =>
    obtain ⟨q, h1, h2⟩ := h
    exact ⟨fun z => (by rw [h1] at z; cases z), fun z => (by cases z)⟩
-- slots: 0:_law_script 1:_law_m 2:_law_turn 3:_law_hues_here 4:_law_program_here 5:_law_sure 6:_law_again 7:_law_ones 8:_law_others 9:_law_steps 10:_law_loose 11:_law_given 12:_law_found 13:_law_k   level 10
abbrev n_law : List Str := ["_law_script", "_law_m", "_law_turn", "_law_hues_here", "_law_program_here", "_law_sure", "_law_again", "_law_ones", "_law_others", "_law_steps", "_law_loose", "_law_given", "_law_found", "_law_k"]
theorem sc_law : FnScope n_law ["_law_script"] SL.d_law.scope := ⟨rfl, rfl, rfl, by decide +kernel, rfl, by decide +kernel, by decide +kernel⟩
theorem go_law (T : Tx K mg w) (f : Addr) (cdv : Value) (s : Shared) (H : Hp) (l : Addr) (xs : List Int) (hS : SqL K H l (xs.map V.int)) (hr : Room 9 (callerA.deeper (PyProof.Rows.envOfC SL.d_law.qual SL.d_law.scope s.heap.objs.size f cdv))) :
    ∃ t, PSs (cxOf CX0 P w K mg base n_law SL.d_law.qual SL.d_law.scope f cdv callerA [] s H fun _ _ _ => False).nox SL.d_law.body t ∧ t { nx := fun _ _ => V.non = V.bl true, rt := fun v _ => v = .bl true } (L2.start n_law [V.ref l]) H := by
  have hg : (cxOf CX0 P w K mg base n_law SL.d_law.qual SL.d_law.scope f cdv callerA [] s H fun _ _ _ => False).nox.A.guards = some [] := rfl
  refine ⟨_, (pss_cons (ps_set (i := 1) sc_law.nd rfl (Or.inr rfl) (pe_fn (ok_L_begin T) (hr.mono (by decide)) (by rfl) (pa_cons (pv 0) pa_nil)))
    (pss_cons (ps_for PassesOwn.never rfl (pi_range1 rfl T.f_range (pa_cons pe_int pa_nil)) (pg_name (i := 2) sc_law.nd rfl (Or.inl rfl))
    (pss_cons (ps_asg (pe_fn (ok_L_two_hues T) (hr.mono (by decide)) (by rfl) (pa_cons (pv 1) (pa_cons pe_int pa_nil))) (pg_unl rfl (pgs_cons (pg_name (i := 7) sc_law.nd rfl (Or.inl rfl)) (pgs_cons (pg_name (i := 8) sc_law.nd rfl (Or.inl rfl)) pgs_nil))))
    (pss_cons (ps_set (i := 3) sc_law.nd rfl (Or.inl rfl) (pe_fn (ok_L_hues T) (hr.mono (by decide)) (by rfl) (pa_cons (pv 7) (pa_cons (pv 8) pa_nil))))
    (pss_cons (ps_par (i := 9) (j := 10) (by rfl) sc_law.nd rfl rfl (by decide) rfl rfl (pa_cons (pe_op op_add pe_int (pe_fn (ok_L_next T) (hr.mono (by decide)) (by rfl) (pa_cons (pv 1) (pa_cons pe_int pa_nil)))) (pa_cons (pe_fn (ok_L_next T) (hr.mono (by decide)) (by rfl) (pa_cons (pv 1) (pa_cons pe_int pa_nil))) pa_nil)) (by rfl))
    (pss_cons (ps_set (i := 4) sc_law.nd rfl (Or.inl rfl) (pe_fn (ok_L_program T) (hr.mono (by decide)) (by rfl) (pa_cons (pv 1) (pa_cons (pv 7) (pa_cons (pv 8) (pa_cons (pv 9) (pa_cons (pv 10) pa_nil)))))))
    (pss_cons (ps_set (i := 5) sc_law.nd rfl (Or.inl rfl) (pe_fn (ok_sure_paper T) (hr.mono (by decide)) (by rfl) (pa_cons (pv 4) (pa_cons (pv 3) pa_nil))))
    (pss_cons (ps_for PassesOwn.never rfl (pi_range1 rfl T.f_range (pa_cons (pe_op op_mul pe_int (pe_callTy call_int1 (by rfl) T.f_int (by decide +kernel) (pa_cons (pe_cmpR op_notN (pv 5) pe_non (nomark _)) pa_nil))) pa_nil)) (pg_name (i := 6) sc_law.nd rfl (Or.inl rfl))
    (pss_cons (ps_set (i := 11) sc_law.nd rfl (Or.inl rfl) (pe_callTy call_tuple_of (by rfl) T.f_tuple (by decide +kernel) (pa_cons (pe_lc (own := [("_law_k", 13)]) rfl sc_law.nd (pi_range1 rfl T.f_range (pa_cons pe_int pa_nil)) (blkOk_by (own := [("_law_k", 13)]) (N := n_law) (sc := SL.d_law.scope) (by decide +kernel)) (fun _ _ _ _ _ => (pg_name (i := 13) sc_law.nd rfl (Or.inl rfl))) (fun _ _ _ _ _ => pts_nil) (fun _ _ _ _ _ => (pe_fn (ok_L_next (P := P) T) (hr.mono (by decide)) (by rfl) (pa_cons (pv 1) (pa_cons pe_int pa_nil))))) pa_nil)))
    (pss_cons (ps_set (i := 12) sc_law.nd rfl (Or.inl rfl) (pe_fn (ok_L_walked T) (hr.mono (by decide)) (by rfl) (pa_cons (pv 4) (pa_cons (pv 11) pa_nil))))
    (Evl.pss_cut (ps_if (PW.pt (pw_and (pt_cmpR op_notN (pv 12) pe_non (nomark _)) (pw_and1 (pt_cmpR op_eq (pe_ix ix_tup (pv 12) pe_int (fun _ _ => rfl)) pe_str (nomark _))))) (pss_one (ps_ret pe_bl)) pss_nil)
    (Evl.pss_cut (ps_if (PW.pt (pw_and (pt_cmpR op_notN (pv 12) pe_non (nomark _)) (pw_and (pt_cmpR op_eq (pe_ix ix_tup (pv 12) pe_int (fun _ _ => rfl)) pe_str (nomark _)) (pw_and1 (pt_cmpR op_ne (pe_ix ix_tup (pe_ix ix_tup (pv 4) (pe_ix ix_tup (pv 12) pe_int (fun _ _ => rfl)) (fun _ _ => rfl)) pe_int (fun _ _ => rfl)) pe_str (nomark _)))))) (pss_one (ps_ret pe_bl)) pss_nil)
    (pss_one (ps_if (pt_cmpR (op_neD hr.units) (pe_fn (ok_L_walked T) (hr.mono (by decide)) (by rfl) (pa_cons (pv 4) (pa_cons (pv 11) pa_nil))) (pv 12) (nomark _)) (pss_one (ps_ret pe_bl)) pss_nil)))))))
    (pss_one (ps_if (pt_cmpR op_ne (pe_callB (cr_repr hr hg) (by rfl) T.f_repr (by decide +kernel) (pa_cons (pe_fn (ok_sure_paper T) (hr.mono (by decide)) (by rfl) (pa_cons (pv 4) (pa_cons (pv 3) pa_nil))) pa_nil)) (pe_callB (cr_repr hr hg) (by rfl) T.f_repr (by decide +kernel) (pa_cons (pv 5) pa_nil)) (nomark _)) (pss_one (ps_ret pe_bl)) pss_nil)))))))))
    (pss_one (ps_ret pe_bl)))), ?_⟩
  refine ⟨_, rfl, l, xs, rfl, hS, fun a c o H1 g1 s1 => ?_⟩
  refine ⟨10, rfl, by decide, by decide, ?_⟩
  refine for_it walk_range (fun i σ H' => ∃ v2 v3 v4 v5 v6 v7 v8 v9 v10 v11 v12 v13, σ = [some (.ref l), some (.ref a), v2, v3, v4, v5, v6, v7, v8, v9, v10, v11, v12, v13] ∧ GAt H' a c o (1000 * (10 - i)))
    ⟨none, none, none, none, none, none, none, none, none, none, none, none, rfl, g1.mono (by decide)⟩ (fun _ _ _ _ _ => trivial) ?_ ?_
  · rintro i z σ H2 H3 hi ⟨v2, v3, v4, v5, v6, v7, v8, v9, v10, v11, v12, v13, rfl, g2⟩ ⟨rfl, rfl⟩
    have hi : i < 10 := hi
    refine ⟨_, rfl, a, c, o, 1000 * (10 - (i + 1)) + 900, rfl, g2.mono (by omega), fun t x y l1 l2 H3 g3 fr3 ht hx hy raw nx ny => ?_⟩
    have nxo := (g2.new nx).2
    have nyo := (g2.new ny).2
    have nxa := (g2.new nx).1
    have nya := (g2.new ny).1
    refine ⟨t, _, rfl, .of ht, rfl, _, _, rfl, _, _, rfl, rfl, ?_⟩
    refine ⟨_, rfl, _, rfl, x, y, l1, l2, rfl, ⟨hx, hy, raw⟩, fun th x' y' H4 s4 hA => ?_⟩
    have hok := hues_ok raw
    have g4 := g3.ext s4
    refine ⟨_, rfl, a, c, o, 1000 * (10 - (i + 1)) + 899, 8, rfl, ⟨g4.mono (by omega), by decide, by decide⟩, fun n1 H5 hn1 g5 fr5 => ⟨_, _, rfl, rfl, _, rfl, a, c, o, 1000 * (10 - (i + 1)) + 898, 2, rfl, ⟨g5, by decide, by decide⟩, fun n2 H6 hn2 g6 fr6 => ?_⟩⟩
    have fr46 := fr5.trans fr6
    have t46 := g4.sameT fr46
    have hx6 := fr46 _ _ nxa nxo (s4 _ _ hx)
    have hy6 := fr46 _ _ nya nyo (s4 _ _ hy)
    have hA6 := hA.mono t46
    have est : 2 + (n1 : Int) = ((2 + n1 : Nat) : Int) := by omega
    refine ⟨_, _, rfl, ?_⟩
    refine ⟨_, rfl, _, rfl, _, rfl, _, rfl, _, rfl, a, c, o, x, y, 1000 * (10 - (i + 1)) + 500, l1, l2, 2 + n1, n2, ?_, ⟨g6.mono (by omega), hx6, hy6, nxo, nyo, raw, by omega⟩, fun ap p H7 g7 fr7 hP pok => ?_⟩
    · show [V.ref a, V.ref x, V.ref y, V.int (2 + (n1 : Int)), V.int (n2 : Int)] = _
      rw [est]
      rfl
    have hA7 := hA6.mono (g6.sameT fr7)
    refine ⟨_, rfl, _, rfl, ?_⟩
    dsimp only [tNil]
    refine sure_sp hP pok hA7 hok fun sv H8 s8 hsv => ?_
    have g8 := g7.ext s8
    have hP8 := hP.mono (.of s8)
    have hA8 := hA7.mono (.of s8)
    refine ⟨_, rfl, rfl, .inr ⟨_, rfl, _, _, rfl, rfl, .inl ⟨by decide, by decide⟩, ?_⟩⟩
    have hm : ∃ m : Nat, (3 : Int) * (if (!decide (sv = V.non)) = true then (1 : Int) else 0) = (m : Int) ∧ m ≤ 3 ∧ (0 < m → sv ≠ .non) := by
      by_cases e : sv = .non
      · exact ⟨0, by rw [decide_eq_true e]; rfl, by decide, fun z => by omega⟩
      · exact ⟨3, by rw [decide_eq_false e]; rfl, by decide, fun _ => e⟩
    obtain ⟨m, em, hm3, hm0⟩ := hm
    refine ⟨(m : Int), congrArg (fun u => [V.int u]) em, by omega, by omega, ?_⟩
    refine for_it walk_range (fun j σ H' => ∃ v6 v11 v12 v13, σ = [some (.ref l), some (.ref a), some (.int (0 + (i : Int))), some (.ref th), some (.ref ap), some sv, v6, some (.ref x), some (.ref y), some (.int (2 + (n1 : Int))), some (vn n2), v11, v12, v13] ∧ GAt H' a c o (1000 * (10 - (i + 1)) + 8 * (3 - j)) ∧ Fr a o H8 H')
      ⟨v6, v11, v12, v13, rfl, g8.mono (by omega), Fr.refl⟩ (fun _ _ _ _ _ => trivial) ?_ ?_
    · rintro j z σ H9 H10 hj ⟨v6, v11, v12, v13, rfl, g9, fr9⟩ ⟨rfl, rfl⟩
      have hj : j < m := by
        have hj : j < ((m : Int) - 0).toNat := hj
        omega
      have hne := hm0 (by omega)
      refine ⟨8, rfl, by decide, by decide, fun D nD => ?_⟩
      obtain ⟨nDa, nDo⟩ := g9.new nD
      have nDc := g9.newC nD
      have s10 := same_new (o := .lst []) nD
      refine lc_it (walk_range (lo := 0) (n := Int.toNat 8)) (fun k H4 => ∃ l, H4 D = some (.lst (vns l)) ∧ l.length = k ∧ (∀ p ∈ l, p < 16) ∧ GAt H4 a c o (1000 * (10 - (i + 1)) + 8 * (3 - (j + 1)) + (8 - k)) ∧ Fr a o H10 H4)
        ⟨[], upd_same, rfl, fun p hp => (by cases hp), (g9.ext s10).mono (by omega), .of s10⟩ (fun _ _ _ _ => trivial) ?_ ?_
      · rintro k z H4 H5 hk ⟨gl, hD, hl, hlm, g4, fr4⟩ ⟨rfl, rfl⟩
        have hk : k < 8 := hk
        refine ⟨rfl, _, rfl, a, c, o, 1000 * (10 - (i + 1)) + 8 * (3 - (j + 1)) + (8 - (k + 1)), 16, rfl, ⟨g4.mono (by omega), by decide, by decide⟩, fun u H6 hu g6 fr6 => ?_⟩
        have hD6 := fr6 _ _ nDa nDo hD
        refine ⟨vns gl, hD6, by rw [len_vns, sizeLine_eq]; omega, gl ++ [u], by rw [upd_same, vns_app]; rfl, by rw [List.length_append, hl]; rfl, fun p hp => ?_, g6.put nDa nDo nDc, fun b ob b1 b2 e => by rw [upd_ne (ne_of_none e nD)]; exact fr6 _ _ b1 b2 (fr4 _ _ b1 b2 e)⟩
        rcases List.mem_append.mp hp with e | e
        · exact hlm p e
        · rw [List.mem_singleton.mp e]
          exact hu
      rintro H4 ⟨given, hD, hgl, hgb, g4, fr4⟩
      have hgl : given.length = 8 := hgl
      refine ⟨D, _, rfl, .inl ⟨.of hD, fun G nG => ?_⟩⟩
      have s5 := same_new (o := .tup (vns given)) nG
      have hG := upd_same (H := H4) (a := G) (o := .tup (vns given))
      have g5 := g4.ext s5
      have fr5 := (fr9.trans fr4).trans (.of s5)
      generalize upd H4 G (.tup (vns given)) = H5 at *
      have hP5 := hP8.mono (g8.sameT fr5)
      refine ⟨_, rfl, _, rfl, ap, G, p, given, rfl, ⟨hP5, pok, hG, hgl, hgb⟩, fun fv H6 s6 hfv => ?_⟩
      have g6 := g5.ext s6
      have fr6 := fr5.trans (.of s6)
      have hG6 := s6 _ _ hG
      have hP6 := hP5.mono (.of s6)
      have hfok : SL.Math.FoundOk p (walked p given) := by
        cases e : surePaper p (sortN l1, sortN l2) with
        | none => exact absurd (hsv.none_iff.mpr e) hne
        | some pp => exact SL.Math.walked_ok pok e given
      have hwg : walked p given = walked p given := rfl
      generalize hw : walked p given = fo at hfv hfok
      refine ⟨fun σ9 H9 => σ9 = [some (.ref l), some (.ref a), some (.int (0 + (i : Int))), some (.ref th), some (.ref ap), some sv, some (.int (0 + (j : Int))), some (.ref x), some (.ref y), some (.int (2 + (n1 : Int))), some (vn n2), some (.ref G), some fv, v13] ∧ Same H6 H9, ?_, ?_⟩
      · refine ⟨_, rfl, rfl, _, rfl, ?_⟩
        show if (!decide (fv = V.non)) = true then _ else _
        match fo, hfv, hfok with
        | none, hfv, _ =>
          rw [decide_eq_true (show fv = .non from hfv)]
          exact iteF (iteF ⟨rfl, Same.refl _⟩)
        | some (.apart _), _, z => exact z.elim
        | some (.over u k), hfv, _ =>
          obtain ⟨b, rfl, hb⟩ := hfv
          rw [decide_eq_false (fun z => by cases z)]
          cases u with
          | fin =>
            refine iteT ⟨_, rfl, _, _, _, _, rfl, rfl, .of hb, atI_nat (j := 0) rfl, rfl, _, rfl, ?_⟩
            show if decide (V.str "end" = V.str "apart") = true then _ else _
            rw [decide_eq_false w_end_apart]
            exact iteF ⟨rfl, Same.refl _⟩
          | slip =>
            refine iteT ⟨_, rfl, _, _, _, _, rfl, rfl, .of hb, atI_nat (j := 0) rfl, rfl, _, rfl, ?_⟩
            show if decide (V.str "slip" = V.str "apart") = true then _ else _
            rw [decide_eq_false w_slip_apart]
            exact iteF ⟨rfl, Same.refl _⟩
      rintro σ9 H7' ⟨rfl, s7⟩
      refine ⟨fun σ9 H9 => σ9 = [some (.ref l), some (.ref a), some (.int (0 + (i : Int))), some (.ref th), some (.ref ap), some sv, some (.int (0 + (j : Int))), some (.ref x), some (.ref y), some (.int (2 + (n1 : Int))), some (vn n2), some (.ref G), some fv, v13] ∧ Same H6 H9, ?_, ?_⟩
      · refine ⟨_, rfl, rfl, _, rfl, ?_⟩
        show if (!decide (fv = V.non)) = true then _ else _
        match fo, hfv, hfok with
        | none, hfv, _ =>
          rw [decide_eq_true (show fv = .non from hfv)]
          exact iteF (iteF ⟨rfl, s7⟩)
        | some (.apart _), _, z => exact z.elim
        | some (.over .fin k), hfv, _ =>
          obtain ⟨b, rfl, hb⟩ := hfv
          rw [decide_eq_false (fun z => by cases z)]
          refine iteT ⟨_, rfl, _, _, _, _, rfl, rfl, .of (s7 _ _ hb), atI_nat (j := 0) rfl, rfl, _, rfl, ?_⟩
          show if decide (V.str "end" = V.str "slip") = true then _ else _
          rw [decide_eq_false w_end_slip]
          exact iteF (iteF ⟨rfl, s7⟩)
        | some (.over .slip k), hfv, hk =>
          obtain ⟨b, rfl, hb⟩ := hfv
          obtain ⟨hc, hd, hrow⟩ := hk
          have hklt : k < p.length := by
            refine Nat.lt_of_not_le fun z => ?_
            unfold Prog.at at hrow
            rw [List.getD_eq_getElem?_getD, List.getElem?_eq_none z] at hrow
            cases hrow
          obtain ⟨rs, hPA, hPR⟩ := hP6.mono (.of s7)
          obtain ⟨rb, hrb, hR⟩ := paired_get hPR (at_eq hklt)
          rw [hrow] at hR
          have eA : atI (rs.map V.ref) ((k : Nat) : Int) = some (.ref rb) := atI_nat (by rw [List.getElem?_map, hrb]; rfl)
          rw [decide_eq_false (fun z => by cases z)]
          refine iteT ⟨_, rfl, _, _, _, _, rfl, rfl, .of (s7 _ _ hb), atI_nat (j := 0) rfl, rfl, _, rfl, ?_⟩
          show if decide (V.str "slip" = V.str "slip") = true then _ else _
          rw [decide_eq_true rfl]
          refine iteT ⟨_, rfl, _, rfl, _, _, _, _, rfl, rfl, .of (s7 _ _ hb), atI_nat (j := 1) rfl, _, _, _, _, rfl, rfl, .of hPA, eA, _, _, _, _, rfl, rfl, .of hR, row_at0 _, rfl, _, rfl, ?_⟩
          show if (!decide (V.str "hold" = V.str "hold")) = true then _ else _
          rw [decide_eq_true rfl]
          exact iteF ⟨rfl, s7⟩
      rintro σ9 H8' ⟨rfl, s8'⟩
      have hw' := hw
      refine ⟨_, rfl, _, rfl, ap, G, p, given, rfl, ⟨hP6.mono (.of s8'), pok, s8' _ _ hG6, hgl, hgb⟩, fun fv2 H9' s9 hfv2 => ?_⟩
      rw [hw] at hfv2
      refine ⟨_, rfl, pdF fo, pdF fo, dp_found hfv2, dp_found (hfv.mono (s8'.trans s9)), shaped_found _, shaped_found _, _, rfl, ?_⟩
      rw [eqv_found]
      refine iteF ⟨_, _, _, _, rfl, (g6.ext (s8'.trans s9)).mono (by omega), fr6.trans (.of (s8'.trans s9))⟩
    · rintro σ H9 ⟨v6, v11, v12, v13, rfl, g9, fr9⟩
      have t9 := g8.sameT fr9
      refine ⟨_, rfl, _, rfl, ?_⟩
      dsimp only [tNil]
      refine sure_sp (hP8.mono t9) pok (hA8.mono t9) hok fun sv2 H10 s10 hsv2 => ?_
      have hsv9 := (hsv.mono t9).mono (.of s10)
      cases e : surePaper p (sortN l1, sortN l2) with
      | none =>
        rw [e] at hsv2 hsv9
        have e1 : sv2 = .non := hsv2
        have e2 : sv = .non := hsv9
        subst e1 e2
        refine .inl ⟨rfl, _, rfl, .inl ⟨rfl, rfl, _, rfl, ?_⟩⟩
        show if (!decide (V.str "None" = V.str "None")) = true then _ else _
        rw [decide_eq_true rfl]
        exact iteF ⟨_, _, _, _, _, _, _, _, _, _, _, _, rfl, (g9.ext s10).mono (by omega)⟩
      | some pp =>
        rw [e] at hsv2 hsv9
        obtain ⟨q1, rfl, hq1⟩ := hsv2
        obtain ⟨q2, rfl, hq2⟩ := hsv9
        obtain ⟨k1, k2, k3, k4⟩ := paper_of_ (paper_ok pok hok e)
        refine .inr ⟨q1, pdP pp, rfl, dp_paper hq1, k1, k2, k3, k4, _, rfl, .inr ⟨q2, pdP pp, rfl, dp_paper hq2, k1, k2, k3, k4, rfl, _, rfl, ?_⟩⟩
        show if (!decide (V.str (pdP pp).shown = V.str (pdP pp).shown)) = true then _ else _
        rw [decide_eq_true rfl]
        exact iteF ⟨_, _, _, _, _, _, _, _, _, _, _, _, rfl, (g9.ext s10).mono (by omega)⟩
  · rintro σ H2 ⟨v2, v3, v4, v5, v6, v7, v8, v9, v10, v11, v12, v13, rfl, g2⟩
    exact rfl
end
end SL

/-! text SlTop -/
set_option Elab.async false
set_option linter.all false
set_option maxRecDepth 100000
set_option maxHeartbeats 0
namespace SL
open PySem PySem.Spec PyProof.Rows L2
theorem law_ends {P : Program} {w : World} {K : PySem.W.Frag} {mg mb : Str → Option Value} {s : Shared} {fa a : Addr} {us : List Value} {ns : List Int}
    (KX : K.In s.heap) (hns : s.heap.Ns mainGlobals mg) (hb : s.heap.Ns builtinsNs mb) (hbb : ∀ x : Str, x ≠ "__name__" → mb x = bootBuiltins x) (hlim : s.heap.NoLimit) (hg : s.gens = #[])
    (ha : s.heap.get? a = some { cls := .type "list", data := .seq us.toArray }) (hi : IntsAre us ns) (hl : ns.length ≤ 63) (c : He.SaysX SL.fa fn ts [] ex w s.heap K) (hm : mg ("law" : Str) = some (.ref fa)) :
    codeAny (model P w) callerA (.call (.ref fa) ⟨[.ref a], []⟩) (fun r s' => r = .ok (.ret (.bool true)) ∧ OldK s.heap s'.heap ∧ s'.os = s.os ∧ AllBare s'.gens) s := by
  have T := Tx.of KX hns c
  have e := hm.symm.trans T.g_law
  cases e
  obtain ⟨fd, F⟩ := T.D_law
  have b := FunD.bindsA (ps := ["_law_script"]) F (fun _ _ _ _ _ _ us hl => match us, hl with | [_], _ => rfl) s [.ref a] rfl
  exact law_here (d := d_law) (k := 9) (N := n_law) KX hns hb hbb hlim hg ha hi (Nat.le_trans hl (by decide)) ⟨rfl, by decide, by decide⟩ F sc_law b fun base H cdv _ _ hS hr => by
    obtain ⟨t, p, q⟩ := go_law (P := P) (base := base) T _ cdv s H a ns hS hr
    exact ⟨t, p.nox, q⟩
end SL
open PySem PySem.W PySem.Calls PyProof.Rows
theorem PySem.Challenge.cw_slipward_k43_whole_stumbles_at_holds_alo_holds : PySem.Challenge.rw_slipward_k43_whole_stumbles_at_holds_alo.Holds := by
  w_on; o_law
  refine HandSHeadRun.head_any (r := OpenLaw.row PySem.Challenge.rw_slipward_k43_whole_stumbles_at_holds_alo) (q := SL.theView) (H := SL.theHook) (ob := SL.theOb) (M := 15000) (loose := SL.lo) (d := HandSHeadRun.topDef (OpenLaw.row PySem.Challenge.rw_slipward_k43_whole_stumbles_at_holds_alo).prog 82) (kwd := []) SL.theOb_eq
    (by kernel_rfl) (fun s => by kernel_rfl) SL.run (by kernel_rfl) (by kernel_rfl) (by kernel_rfl) (by rfl) (by first | assumption | decide +kernel) (by decide +kernel) ⟨rfl, rfl, rfl, rfl, rfl, by decide +kernel⟩ ?hw ?hc
  case hw => w_witness2
  case hc =>
    refine Att.attach_call (l := PySem.Challenge.rw_slipward_k43_whole_stumbles_at_holds_alo) (n := 63) rfl (by kernel_rfl) ?_
    intro w s₀ s₁ mg mb fa o pm cd doc a vs ns G Y ho hd hcd hmg0 hobj hints hlen hg
    obtain ⟨K, KX, c⟩ := Y
    have hmg : mg ("law" : PySem.Str) = some (.ref fa) := by
      have e : (HandSHeadRun.topDef (OpenLaw.row PySem.Challenge.rw_slipward_k43_whole_stumbles_at_holds_alo).prog 82).name = ("law" : PySem.Str) := by kernel_rfl
      rw [← e]
      exact hmg0
    exact SL.law_ends KX G.T.g G.T.b G.T.builtins G.T.nolimit hg hobj hints hlen c hmg
