import PyProof.Rows.All
import Wide.All
import OpenK.AllK
import Wide.FinOn
import KE.KStateDown
import KE.GoesEnum
import KE.GoesNew
import KE.KDictPairs
import KE.KDictWalk
import KE.KDictCopyH
import PyProof.ReprRoads
import HandS.ForMost
import HandS.Exc
import HandS.Defaults
import HandS.Flow
import HandS.Style
import HandS.TupAny
import HandS.NoneIn
import HandS.IsInst
import HandS.Wide
import HandS.Zip
import HandS.Walk
import HandS.Strs
import HandS.SetFor
import HandS.TupSets
import HandS.Evl
import HandS.HeadHook1
import HandS.HeadHook2
import HandS.HeadHook3
import HandS.EndBits
import PySem.Challenge.RW_slipward_k18_whole_slips_hold_together
set_option Elab.async false
set_option maxRecDepth 100000
set_option maxHeartbeats 8000000
/-! SwA -/
namespace Sw
set_option Elab.async false
set_option linter.all false
set_option maxRecDepth 100000
set_option maxHeartbeats 4000000
open PySem PySem.Spec PyProof.Rows L2
/-! the defs by their places (printed by gen_head.py) -/
def top (i : Nat) : Stmt := PySem.Challenge.pw_slipward_k18_whole_slips_hold_together.main.body.getD i (.Pass ⟨0, 0, 0, 0⟩)
abbrev s_is_among : Stmt := top 22
abbrev s_is_word : Stmt := top 23
abbrev s_is_box : Stmt := top 24
abbrev s_is_row : Stmt := top 25
abbrev s_parts_of : Stmt := top 26
abbrev s_reads : Stmt := top 27
abbrev s_sets : Stmt := top 28
abbrev s_leads : Stmt := top 29
abbrev s_is_way : Stmt := top 30
abbrev s_need_program : Stmt := top 31
abbrev s_need_inputs : Stmt := top 36
abbrev s_need_most : Stmt := top 37
abbrev s_meant : Stmt := top 38
abbrev s_Stand_init : Stmt := inClass (top 39) 0
abbrev s_Stand_copied : Stmt := inClass (top 39) 1
abbrev s_Machine_init : Stmt := inClass (top 40) 0
abbrev s_Machine_place : Stmt := inClass (top 40) 1
abbrev s_Machine_beats : Stmt := inClass (top 40) 2
abbrev s_Machine_boxes : Stmt := inClass (top 40) 3
abbrev s_Machine_cells : Stmt := inClass (top 40) 4
abbrev s_Machine_told : Stmt := inClass (top 40) 5
abbrev s_Machine_kept : Stmt := inClass (top 40) 6
abbrev s_Machine_end : Stmt := inClass (top 40) 7
abbrev s_Machine_beat : Stmt := inClass (top 40) 8
abbrev s_Machine_made : Stmt := inClass (top 40) 9
abbrev s_Machine_go_out : Stmt := inClass (top 40) 10
abbrev s_Machine_tell : Stmt := inClass (top 40) 11
abbrev s_Machine_keep : Stmt := inClass (top 40) 12
abbrev s_Machine_stumble : Stmt := inClass (top 40) 13
abbrev s_Machine_slip : Stmt := inClass (top 40) 14
abbrev s_Machine_lead : Stmt := inClass (top 40) 15
abbrev s_Machine_twin : Stmt := inClass (top 40) 16
abbrev s_outcome_of : Stmt := top 41
abbrev s_run : Stmt := top 42
abbrev s_boxes_named : Stmt := top 46
abbrev s_places_named : Stmt := top 47
abbrev s_is_slip : Stmt := top 48
abbrev s_beat_with : Stmt := top 49
abbrev s_go_with : Stmt := top 50
abbrev s_machine_with : Stmt := top 51
abbrev s_run_with : Stmt := top 52
abbrev s_right_stands : Stmt := top 53
abbrev s_slips_among : Stmt := top 54
abbrev s_slips_of : Stmt := top 55
abbrev s_beats_for : Stmt := top 60
abbrev s_word_of : Stmt := top 61
abbrev s_judged : Stmt := top 62
abbrev s_all_judged : Stmt := top 63
abbrev s_tally : Stmt := top 64
abbrev s_first_wrong : Stmt := top 65
abbrev s_law_cell : Stmt := top 67
abbrev s_law_op : Stmt := top 68
abbrev s_law_hued : Stmt := top 69
abbrev s_law_wild : Stmt := top 70
abbrev s_law_program : Stmt := top 71
abbrev s_law_inputs : Stmt := top 72
abbrev s_law_boxes : Stmt := top 73
abbrev s_law_goals : Stmt := top 74
abbrev s_law_stepped : Stmt := top 75
abbrev s_law_idle : Stmt := top 76
abbrev s_law_judged : Stmt := top 77
abbrev s_law_slip_right : Stmt := top 78
abbrev s_law_all_right : Stmt := top 79
abbrev s_law : Stmt := top 80
def mkD (c : Option Str) (x q : Str) (s : Stmt) : He.DefD := ⟨(match c with | none => (x, none) | some k => (k, some x)), x, q, defArgs s, defBody s, defScope s, [], []⟩
def fnL : List He.DefD := [mkD none "is_among" "is_among" s_is_among,
  mkD none "is_word" "is_word" s_is_word,
  mkD none "is_box" "is_box" s_is_box,
  mkD none "is_row" "is_row" s_is_row,
  mkD none "parts_of" "parts_of" s_parts_of,
  mkD none "reads" "reads" s_reads,
  mkD none "sets" "sets" s_sets,
  mkD none "leads" "leads" s_leads,
  mkD none "is_way" "is_way" s_is_way,
  mkD none "need_program" "need_program" s_need_program,
  mkD none "need_inputs" "need_inputs" s_need_inputs,
  mkD none "need_most" "need_most" s_need_most,
  mkD none "meant" "meant" s_meant,
  mkD (some "Stand") "__init__" "Stand.__init__" s_Stand_init,
  mkD (some "Stand") "copied" "Stand.copied" s_Stand_copied,
  mkD (some "Machine") "__init__" "Machine.__init__" s_Machine_init,
  mkD (some "Machine") "place" "Machine.place" s_Machine_place,
  mkD (some "Machine") "beats" "Machine.beats" s_Machine_beats,
  mkD (some "Machine") "boxes" "Machine.boxes" s_Machine_boxes,
  mkD (some "Machine") "cells" "Machine.cells" s_Machine_cells,
  mkD (some "Machine") "told" "Machine.told" s_Machine_told,
  mkD (some "Machine") "kept" "Machine.kept" s_Machine_kept,
  mkD (some "Machine") "end" "Machine.end" s_Machine_end,
  mkD (some "Machine") "beat" "Machine.beat" s_Machine_beat,
  mkD (some "Machine") "made" "Machine.made" s_Machine_made,
  mkD (some "Machine") "go_out" "Machine.go_out" s_Machine_go_out,
  mkD (some "Machine") "tell" "Machine.tell" s_Machine_tell,
  mkD (some "Machine") "keep" "Machine.keep" s_Machine_keep,
  mkD (some "Machine") "stumble" "Machine.stumble" s_Machine_stumble,
  mkD (some "Machine") "slip" "Machine.slip" s_Machine_slip,
  mkD (some "Machine") "lead" "Machine.lead" s_Machine_lead,
  mkD (some "Machine") "twin" "Machine.twin" s_Machine_twin,
  mkD none "outcome_of" "outcome_of" s_outcome_of,
  mkD none "run" "run" s_run,
  mkD none "boxes_named" "boxes_named" s_boxes_named,
  mkD none "places_named" "places_named" s_places_named,
  mkD none "is_slip" "is_slip" s_is_slip,
  mkD none "beat_with" "beat_with" s_beat_with,
  mkD none "go_with" "go_with" s_go_with,
  mkD none "machine_with" "machine_with" s_machine_with,
  mkD none "run_with" "run_with" s_run_with,
  mkD none "right_stands" "right_stands" s_right_stands,
  mkD none "slips_among" "slips_among" s_slips_among,
  mkD none "slips_of" "slips_of" s_slips_of,
  mkD none "beats_for" "beats_for" s_beats_for,
  mkD none "word_of" "word_of" s_word_of,
  mkD none "judged" "judged" s_judged,
  mkD none "all_judged" "all_judged" s_all_judged,
  mkD none "tally" "tally" s_tally,
  mkD none "first_wrong" "first_wrong" s_first_wrong,
  mkD none "_law_cell" "_law_cell" s_law_cell,
  mkD none "_law_op" "_law_op" s_law_op,
  mkD none "_law_hued" "_law_hued" s_law_hued,
  mkD none "_law_wild" "_law_wild" s_law_wild,
  mkD none "_law_program" "_law_program" s_law_program,
  mkD none "_law_inputs" "_law_inputs" s_law_inputs,
  mkD none "_law_boxes" "_law_boxes" s_law_boxes,
  mkD none "_law_goals" "_law_goals" s_law_goals,
  mkD none "_law_stepped" "_law_stepped" s_law_stepped,
  mkD none "_law_idle" "_law_idle" s_law_idle,
  mkD none "_law_judged" "_law_judged" s_law_judged,
  mkD none "_law_slip_right" "_law_slip_right" s_law_slip_right,
  mkD none "_law_all_right" "_law_all_right" s_law_all_right,
  mkD none "law" "law" s_law]
def faL : List He.Fa := [.glo "is_among", .glo "is_word", .glo "is_box", .glo "is_row", .glo "parts_of", .glo "reads", .glo "sets", .glo "leads", .glo "is_way", .glo "need_program", .glo "need_inputs", .glo "need_most", .glo "meant", .glo "outcome_of", .glo "run", .glo "boxes_named", .glo "places_named", .glo "is_slip", .glo "beat_with", .glo "go_with", .glo "machine_with", .glo "run_with", .glo "right_stands", .glo "slips_among", .glo "slips_of", .glo "beats_for", .glo "word_of", .glo "judged", .glo "all_judged", .glo "tally", .glo "first_wrong", .glo "_law_cell", .glo "_law_op", .glo "_law_hued", .glo "_law_wild", .glo "_law_program", .glo "_law_inputs", .glo "_law_boxes", .glo "_law_goals", .glo "_law_stepped", .glo "_law_idle", .glo "_law_judged", .glo "_law_slip_right", .glo "_law_all_right", .glo "law", .glo "Stand", .cls "Stand", .mkr "Stand", .meth "Stand" "copied", .glo "Machine", .cls "Machine", .mkr "Machine", .meth "Machine" "place", .meth "Machine" "beats", .meth "Machine" "boxes", .meth "Machine" "cells", .meth "Machine" "told", .meth "Machine" "kept", .meth "Machine" "end", .meth "Machine" "beat", .meth "Machine" "made", .meth "Machine" "go_out", .meth "Machine" "tell", .meth "Machine" "keep", .meth "Machine" "stumble", .meth "Machine" "slip", .meth "Machine" "lead", .meth "Machine" "twin", .noat "Stand" "at", .noat "Stand" "words", .noat "Stand" "store", .noat "Stand" "count", .noat "Stand" "used", .noat "Machine" "rows", .noat "Machine" "given", .noat "Machine" "at", .noat "Machine" "words", .noat "Machine" "store", .noat "Machine" "said", .noat "Machine" "count", .noat "Machine" "stands", .noat "Machine" "over", .noat "Machine" "done", .int "MOST_WORD" 15, .int "MANY_BOXES" 32, .int "MANY_CELLS" 16, .int "MANY_INPUTS" 8, .int "MOST_ROWS" 400, .str "SET_BOX" "s", .str "READ_BOX" "r", .str "A_WORD" "n", .str "AN_INPUT" "k", .str "A_PLACE" "p", .glo "FORMS", .glo "GREATEST", .glo "WAYS", .glo "LAST_ONES", .int "MOST_BEATS" 100000, .int "MOST_KEPT" 2, .glo "COPIES", .int "MOST_BEAT" 5000, .str "RIGHT" "end", .glo "WORDS", .int "TIMES_MORE" 4, .int "BEATS_MORE" 100, .free "isinstance", .free "len", .free "all", .free "zip", .free "tuple", .free "list", .free "int", .free "str", .free "bool", .free "enumerate", .free "range", .free "sorted", .free "set", .free "dict", .free "sum", .free "repr", .free "min"]
def formsL : List (Str × Str) := [("set", "sn"), ("copy", "sr"), ("add", "srr"), ("less", "srr"), ("same", "srr"), ("mix", "srr"), ("pick", "srrr"), ("ask", "sk"), ("take", "sr"), ("tell", "r"), ("put", "rr"), ("go", "p"), ("if", "rp"), ("end", ""), ("hold", "rr"), ("tell2", "rr"), ("put2", "rrrr"), ("if2", "rrp"), ("tell3", "rrr"), ("put3", "rrrrrr"), ("if3", "rrrp"), ("keep", "")]
def greatL : List (Str × Int) := [("s", 31), ("r", 31), ("n", 15), ("k", 7), ("p", 399)]
def copL : List (Str × Int) := [("hold", 2), ("tell", 1), ("tell2", 2), ("tell3", 3), ("put", 1), ("put2", 2), ("put3", 3), ("if", 1), ("if2", 2), ("if3", 3)]
def nocopL : List Str := ["set", "copy", "add", "less", "same", "mix", "pick", "ask", "take", "go", "end", "keep"]
def waysL : List Str := ["go", "if", "if2", "if3", "end"]
def lastL : List Str := ["go", "end"]
def wordsL : List Str := ["mended", "told", "still", "wrong"]

/-! what the top leaves, by names -/
def absB (K : PySem.W.Frag) (a : Addr) (ks : List Str) : Bool := ks.all fun k => He.eqO (PySem.W.nsIn K a k) (some none)
def exB (K : PySem.W.Frag) : Bool := He.tupB K "WAYS" (waysL.map He.Dv.str) && (He.tupB K "LAST_ONES" (lastL.map He.Dv.str) && (He.tupB K "WORDS" (wordsL.map He.Dv.str) &&
  (He.valsB K (He.ga K "FORMS") (formsL.map fun q => (q.1, He.Dv.str q.2)) && (He.valsB K (He.ga K "GREATEST") (greatL.map fun q => (q.1, He.Dv.int q.2)) && (He.valsB K (He.ga K "COPIES") (copL.map fun q => (q.1, He.Dv.int q.2)) && absB K (He.ga K "COPIES") nocopL)))))
def tsL : List He.Tab := [(fun K => He.ga K "FORMS", formsL.map (·.1)), (fun K => He.ga K "GREATEST", greatL.map (·.1)), (fun K => He.ga K "COPIES", copL.map (·.1))]
structure Tx (w : World) (K : PySem.W.Frag) (mg : Str → Option Value) : Prop where
  says : He.SaysT faL fnL tsL w K
  ex : exB K = true
  at_ : ∃ h : Heap, K.In h ∧ h.Ns mainGlobals mg
section
variable {w : World} {K : PySem.W.Frag} {mg : Str → Option Value}
theorem Tx.fact (T : Tx w K mg) (i : Nat) {f : He.Fa} (h : faL[i]? = some f := by rfl) : f.ok K = true := T.says.d.fact i h
/-- a def of the text at its place -/
abbrev FnP (K : PySem.W.Frag) (x q : Str) (st : Stmt) (f : Addr) (fd : FuncData) : Prop := FunD K x q (defArgs st) (defBody st) (defScope st) [] [] f fd
def Gv (mg : Str → Option Value) (x : Str) (v : V) : Prop := ∃ u, mg x = some u ∧ RelV v u

theorem Tx.d_is_among (T : Tx w K mg) : ∃ fd, FnP K "is_among" "is_among" s_is_among (He.ga K "is_among") fd := T.says.d.def_ 0 (d := mkD none "is_among" "is_among" s_is_among) rfl
theorem Tx.d_is_word (T : Tx w K mg) : ∃ fd, FnP K "is_word" "is_word" s_is_word (He.ga K "is_word") fd := T.says.d.def_ 1 (d := mkD none "is_word" "is_word" s_is_word) rfl
theorem Tx.d_is_box (T : Tx w K mg) : ∃ fd, FnP K "is_box" "is_box" s_is_box (He.ga K "is_box") fd := T.says.d.def_ 2 (d := mkD none "is_box" "is_box" s_is_box) rfl
theorem Tx.d_is_row (T : Tx w K mg) : ∃ fd, FnP K "is_row" "is_row" s_is_row (He.ga K "is_row") fd := T.says.d.def_ 3 (d := mkD none "is_row" "is_row" s_is_row) rfl
theorem Tx.d_parts_of (T : Tx w K mg) : ∃ fd, FnP K "parts_of" "parts_of" s_parts_of (He.ga K "parts_of") fd := T.says.d.def_ 4 (d := mkD none "parts_of" "parts_of" s_parts_of) rfl
theorem Tx.d_reads (T : Tx w K mg) : ∃ fd, FnP K "reads" "reads" s_reads (He.ga K "reads") fd := T.says.d.def_ 5 (d := mkD none "reads" "reads" s_reads) rfl
theorem Tx.d_sets (T : Tx w K mg) : ∃ fd, FnP K "sets" "sets" s_sets (He.ga K "sets") fd := T.says.d.def_ 6 (d := mkD none "sets" "sets" s_sets) rfl
theorem Tx.d_leads (T : Tx w K mg) : ∃ fd, FnP K "leads" "leads" s_leads (He.ga K "leads") fd := T.says.d.def_ 7 (d := mkD none "leads" "leads" s_leads) rfl
theorem Tx.d_is_way (T : Tx w K mg) : ∃ fd, FnP K "is_way" "is_way" s_is_way (He.ga K "is_way") fd := T.says.d.def_ 8 (d := mkD none "is_way" "is_way" s_is_way) rfl
theorem Tx.d_need_program (T : Tx w K mg) : ∃ fd, FnP K "need_program" "need_program" s_need_program (He.ga K "need_program") fd := T.says.d.def_ 9 (d := mkD none "need_program" "need_program" s_need_program) rfl
theorem Tx.d_need_inputs (T : Tx w K mg) : ∃ fd, FnP K "need_inputs" "need_inputs" s_need_inputs (He.ga K "need_inputs") fd := T.says.d.def_ 10 (d := mkD none "need_inputs" "need_inputs" s_need_inputs) rfl
theorem Tx.d_need_most (T : Tx w K mg) : ∃ fd, FnP K "need_most" "need_most" s_need_most (He.ga K "need_most") fd := T.says.d.def_ 11 (d := mkD none "need_most" "need_most" s_need_most) rfl
theorem Tx.d_meant (T : Tx w K mg) : ∃ fd, FnP K "meant" "meant" s_meant (He.ga K "meant") fd := T.says.d.def_ 12 (d := mkD none "meant" "meant" s_meant) rfl
theorem Tx.d_Stand_init (T : Tx w K mg) : ∃ fd, FnP K "__init__" "Stand.__init__" s_Stand_init (He.ma K (He.ga K "Stand") "__init__") fd := T.says.d.def_ 13 (d := mkD (some "Stand") "__init__" "Stand.__init__" s_Stand_init) rfl
theorem Tx.d_Stand_copied (T : Tx w K mg) : ∃ fd, FnP K "copied" "Stand.copied" s_Stand_copied (He.ma K (He.ga K "Stand") "copied") fd := T.says.d.def_ 14 (d := mkD (some "Stand") "copied" "Stand.copied" s_Stand_copied) rfl
theorem Tx.d_Machine_init (T : Tx w K mg) : ∃ fd, FnP K "__init__" "Machine.__init__" s_Machine_init (He.ma K (He.ga K "Machine") "__init__") fd := T.says.d.def_ 15 (d := mkD (some "Machine") "__init__" "Machine.__init__" s_Machine_init) rfl
theorem Tx.d_Machine_place (T : Tx w K mg) : ∃ fd, FnP K "place" "Machine.place" s_Machine_place (He.ma K (He.ga K "Machine") "place") fd := T.says.d.def_ 16 (d := mkD (some "Machine") "place" "Machine.place" s_Machine_place) rfl
theorem Tx.d_Machine_beats (T : Tx w K mg) : ∃ fd, FnP K "beats" "Machine.beats" s_Machine_beats (He.ma K (He.ga K "Machine") "beats") fd := T.says.d.def_ 17 (d := mkD (some "Machine") "beats" "Machine.beats" s_Machine_beats) rfl
theorem Tx.d_Machine_boxes (T : Tx w K mg) : ∃ fd, FnP K "boxes" "Machine.boxes" s_Machine_boxes (He.ma K (He.ga K "Machine") "boxes") fd := T.says.d.def_ 18 (d := mkD (some "Machine") "boxes" "Machine.boxes" s_Machine_boxes) rfl
theorem Tx.d_Machine_cells (T : Tx w K mg) : ∃ fd, FnP K "cells" "Machine.cells" s_Machine_cells (He.ma K (He.ga K "Machine") "cells") fd := T.says.d.def_ 19 (d := mkD (some "Machine") "cells" "Machine.cells" s_Machine_cells) rfl
theorem Tx.d_Machine_told (T : Tx w K mg) : ∃ fd, FnP K "told" "Machine.told" s_Machine_told (He.ma K (He.ga K "Machine") "told") fd := T.says.d.def_ 20 (d := mkD (some "Machine") "told" "Machine.told" s_Machine_told) rfl
theorem Tx.d_Machine_kept (T : Tx w K mg) : ∃ fd, FnP K "kept" "Machine.kept" s_Machine_kept (He.ma K (He.ga K "Machine") "kept") fd := T.says.d.def_ 21 (d := mkD (some "Machine") "kept" "Machine.kept" s_Machine_kept) rfl
theorem Tx.d_Machine_end (T : Tx w K mg) : ∃ fd, FnP K "end" "Machine.end" s_Machine_end (He.ma K (He.ga K "Machine") "end") fd := T.says.d.def_ 22 (d := mkD (some "Machine") "end" "Machine.end" s_Machine_end) rfl
theorem Tx.d_Machine_beat (T : Tx w K mg) : ∃ fd, FnP K "beat" "Machine.beat" s_Machine_beat (He.ma K (He.ga K "Machine") "beat") fd := T.says.d.def_ 23 (d := mkD (some "Machine") "beat" "Machine.beat" s_Machine_beat) rfl
theorem Tx.d_Machine_made (T : Tx w K mg) : ∃ fd, FnP K "made" "Machine.made" s_Machine_made (He.ma K (He.ga K "Machine") "made") fd := T.says.d.def_ 24 (d := mkD (some "Machine") "made" "Machine.made" s_Machine_made) rfl
theorem Tx.d_Machine_go_out (T : Tx w K mg) : ∃ fd, FnP K "go_out" "Machine.go_out" s_Machine_go_out (He.ma K (He.ga K "Machine") "go_out") fd := T.says.d.def_ 25 (d := mkD (some "Machine") "go_out" "Machine.go_out" s_Machine_go_out) rfl
theorem Tx.d_Machine_tell (T : Tx w K mg) : ∃ fd, FnP K "tell" "Machine.tell" s_Machine_tell (He.ma K (He.ga K "Machine") "tell") fd := T.says.d.def_ 26 (d := mkD (some "Machine") "tell" "Machine.tell" s_Machine_tell) rfl
theorem Tx.d_Machine_keep (T : Tx w K mg) : ∃ fd, FnP K "keep" "Machine.keep" s_Machine_keep (He.ma K (He.ga K "Machine") "keep") fd := T.says.d.def_ 27 (d := mkD (some "Machine") "keep" "Machine.keep" s_Machine_keep) rfl
theorem Tx.d_Machine_stumble (T : Tx w K mg) : ∃ fd, FnP K "stumble" "Machine.stumble" s_Machine_stumble (He.ma K (He.ga K "Machine") "stumble") fd := T.says.d.def_ 28 (d := mkD (some "Machine") "stumble" "Machine.stumble" s_Machine_stumble) rfl
theorem Tx.d_Machine_slip (T : Tx w K mg) : ∃ fd, FnP K "slip" "Machine.slip" s_Machine_slip (He.ma K (He.ga K "Machine") "slip") fd := T.says.d.def_ 29 (d := mkD (some "Machine") "slip" "Machine.slip" s_Machine_slip) rfl
theorem Tx.d_Machine_lead (T : Tx w K mg) : ∃ fd, FnP K "lead" "Machine.lead" s_Machine_lead (He.ma K (He.ga K "Machine") "lead") fd := T.says.d.def_ 30 (d := mkD (some "Machine") "lead" "Machine.lead" s_Machine_lead) rfl
theorem Tx.d_Machine_twin (T : Tx w K mg) : ∃ fd, FnP K "twin" "Machine.twin" s_Machine_twin (He.ma K (He.ga K "Machine") "twin") fd := T.says.d.def_ 31 (d := mkD (some "Machine") "twin" "Machine.twin" s_Machine_twin) rfl
theorem Tx.d_outcome_of (T : Tx w K mg) : ∃ fd, FnP K "outcome_of" "outcome_of" s_outcome_of (He.ga K "outcome_of") fd := T.says.d.def_ 32 (d := mkD none "outcome_of" "outcome_of" s_outcome_of) rfl
theorem Tx.d_run (T : Tx w K mg) : ∃ fd, FnP K "run" "run" s_run (He.ga K "run") fd := T.says.d.def_ 33 (d := mkD none "run" "run" s_run) rfl
theorem Tx.d_boxes_named (T : Tx w K mg) : ∃ fd, FnP K "boxes_named" "boxes_named" s_boxes_named (He.ga K "boxes_named") fd := T.says.d.def_ 34 (d := mkD none "boxes_named" "boxes_named" s_boxes_named) rfl
theorem Tx.d_places_named (T : Tx w K mg) : ∃ fd, FnP K "places_named" "places_named" s_places_named (He.ga K "places_named") fd := T.says.d.def_ 35 (d := mkD none "places_named" "places_named" s_places_named) rfl
theorem Tx.d_is_slip (T : Tx w K mg) : ∃ fd, FnP K "is_slip" "is_slip" s_is_slip (He.ga K "is_slip") fd := T.says.d.def_ 36 (d := mkD none "is_slip" "is_slip" s_is_slip) rfl
theorem Tx.d_beat_with (T : Tx w K mg) : ∃ fd, FnP K "beat_with" "beat_with" s_beat_with (He.ga K "beat_with") fd := T.says.d.def_ 37 (d := mkD none "beat_with" "beat_with" s_beat_with) rfl
theorem Tx.d_go_with (T : Tx w K mg) : ∃ fd, FnP K "go_with" "go_with" s_go_with (He.ga K "go_with") fd := T.says.d.def_ 38 (d := mkD none "go_with" "go_with" s_go_with) rfl
theorem Tx.d_machine_with (T : Tx w K mg) : ∃ fd, FnP K "machine_with" "machine_with" s_machine_with (He.ga K "machine_with") fd := T.says.d.def_ 39 (d := mkD none "machine_with" "machine_with" s_machine_with) rfl
theorem Tx.d_run_with (T : Tx w K mg) : ∃ fd, FnP K "run_with" "run_with" s_run_with (He.ga K "run_with") fd := T.says.d.def_ 40 (d := mkD none "run_with" "run_with" s_run_with) rfl
theorem Tx.d_right_stands (T : Tx w K mg) : ∃ fd, FnP K "right_stands" "right_stands" s_right_stands (He.ga K "right_stands") fd := T.says.d.def_ 41 (d := mkD none "right_stands" "right_stands" s_right_stands) rfl
theorem Tx.d_slips_among (T : Tx w K mg) : ∃ fd, FnP K "slips_among" "slips_among" s_slips_among (He.ga K "slips_among") fd := T.says.d.def_ 42 (d := mkD none "slips_among" "slips_among" s_slips_among) rfl
theorem Tx.d_slips_of (T : Tx w K mg) : ∃ fd, FnP K "slips_of" "slips_of" s_slips_of (He.ga K "slips_of") fd := T.says.d.def_ 43 (d := mkD none "slips_of" "slips_of" s_slips_of) rfl
theorem Tx.d_beats_for (T : Tx w K mg) : ∃ fd, FnP K "beats_for" "beats_for" s_beats_for (He.ga K "beats_for") fd := T.says.d.def_ 44 (d := mkD none "beats_for" "beats_for" s_beats_for) rfl
theorem Tx.d_word_of (T : Tx w K mg) : ∃ fd, FnP K "word_of" "word_of" s_word_of (He.ga K "word_of") fd := T.says.d.def_ 45 (d := mkD none "word_of" "word_of" s_word_of) rfl
theorem Tx.d_judged (T : Tx w K mg) : ∃ fd, FnP K "judged" "judged" s_judged (He.ga K "judged") fd := T.says.d.def_ 46 (d := mkD none "judged" "judged" s_judged) rfl
theorem Tx.d_all_judged (T : Tx w K mg) : ∃ fd, FnP K "all_judged" "all_judged" s_all_judged (He.ga K "all_judged") fd := T.says.d.def_ 47 (d := mkD none "all_judged" "all_judged" s_all_judged) rfl
theorem Tx.d_tally (T : Tx w K mg) : ∃ fd, FnP K "tally" "tally" s_tally (He.ga K "tally") fd := T.says.d.def_ 48 (d := mkD none "tally" "tally" s_tally) rfl
theorem Tx.d_first_wrong (T : Tx w K mg) : ∃ fd, FnP K "first_wrong" "first_wrong" s_first_wrong (He.ga K "first_wrong") fd := T.says.d.def_ 49 (d := mkD none "first_wrong" "first_wrong" s_first_wrong) rfl
theorem Tx.d_law_cell (T : Tx w K mg) : ∃ fd, FnP K "_law_cell" "_law_cell" s_law_cell (He.ga K "_law_cell") fd := T.says.d.def_ 50 (d := mkD none "_law_cell" "_law_cell" s_law_cell) rfl
theorem Tx.d_law_op (T : Tx w K mg) : ∃ fd, FnP K "_law_op" "_law_op" s_law_op (He.ga K "_law_op") fd := T.says.d.def_ 51 (d := mkD none "_law_op" "_law_op" s_law_op) rfl
theorem Tx.d_law_hued (T : Tx w K mg) : ∃ fd, FnP K "_law_hued" "_law_hued" s_law_hued (He.ga K "_law_hued") fd := T.says.d.def_ 52 (d := mkD none "_law_hued" "_law_hued" s_law_hued) rfl
theorem Tx.d_law_wild (T : Tx w K mg) : ∃ fd, FnP K "_law_wild" "_law_wild" s_law_wild (He.ga K "_law_wild") fd := T.says.d.def_ 53 (d := mkD none "_law_wild" "_law_wild" s_law_wild) rfl
theorem Tx.d_law_program (T : Tx w K mg) : ∃ fd, FnP K "_law_program" "_law_program" s_law_program (He.ga K "_law_program") fd := T.says.d.def_ 54 (d := mkD none "_law_program" "_law_program" s_law_program) rfl
theorem Tx.d_law_inputs (T : Tx w K mg) : ∃ fd, FnP K "_law_inputs" "_law_inputs" s_law_inputs (He.ga K "_law_inputs") fd := T.says.d.def_ 55 (d := mkD none "_law_inputs" "_law_inputs" s_law_inputs) rfl
theorem Tx.d_law_boxes (T : Tx w K mg) : ∃ fd, FnP K "_law_boxes" "_law_boxes" s_law_boxes (He.ga K "_law_boxes") fd := T.says.d.def_ 56 (d := mkD none "_law_boxes" "_law_boxes" s_law_boxes) rfl
theorem Tx.d_law_goals (T : Tx w K mg) : ∃ fd, FnP K "_law_goals" "_law_goals" s_law_goals (He.ga K "_law_goals") fd := T.says.d.def_ 57 (d := mkD none "_law_goals" "_law_goals" s_law_goals) rfl
theorem Tx.d_law_stepped (T : Tx w K mg) : ∃ fd, FnP K "_law_stepped" "_law_stepped" s_law_stepped (He.ga K "_law_stepped") fd := T.says.d.def_ 58 (d := mkD none "_law_stepped" "_law_stepped" s_law_stepped) rfl
theorem Tx.d_law_idle (T : Tx w K mg) : ∃ fd, FnP K "_law_idle" "_law_idle" s_law_idle (He.ga K "_law_idle") fd := T.says.d.def_ 59 (d := mkD none "_law_idle" "_law_idle" s_law_idle) rfl
theorem Tx.d_law_judged (T : Tx w K mg) : ∃ fd, FnP K "_law_judged" "_law_judged" s_law_judged (He.ga K "_law_judged") fd := T.says.d.def_ 60 (d := mkD none "_law_judged" "_law_judged" s_law_judged) rfl
theorem Tx.d_law_slip_right (T : Tx w K mg) : ∃ fd, FnP K "_law_slip_right" "_law_slip_right" s_law_slip_right (He.ga K "_law_slip_right") fd := T.says.d.def_ 61 (d := mkD none "_law_slip_right" "_law_slip_right" s_law_slip_right) rfl
theorem Tx.d_law_all_right (T : Tx w K mg) : ∃ fd, FnP K "_law_all_right" "_law_all_right" s_law_all_right (He.ga K "_law_all_right") fd := T.says.d.def_ 62 (d := mkD none "_law_all_right" "_law_all_right" s_law_all_right) rfl
theorem Tx.d_law (T : Tx w K mg) : ∃ fd, FnP K "law" "law" s_law (He.ga K "law") fd := T.says.d.def_ 63 (d := mkD none "law" "law" s_law) rfl
theorem Tx.g_is_among (T : Tx w K mg) : mg "is_among" = some (.ref (He.ga K "is_among")) := by
  obtain ⟨h, X, G⟩ := T.at_
  exact He.glo_ok X G (T.fact 0 (f := .glo "is_among"))
theorem Tx.g_is_word (T : Tx w K mg) : mg "is_word" = some (.ref (He.ga K "is_word")) := by
  obtain ⟨h, X, G⟩ := T.at_
  exact He.glo_ok X G (T.fact 1 (f := .glo "is_word"))
theorem Tx.g_is_box (T : Tx w K mg) : mg "is_box" = some (.ref (He.ga K "is_box")) := by
  obtain ⟨h, X, G⟩ := T.at_
  exact He.glo_ok X G (T.fact 2 (f := .glo "is_box"))
theorem Tx.g_is_row (T : Tx w K mg) : mg "is_row" = some (.ref (He.ga K "is_row")) := by
  obtain ⟨h, X, G⟩ := T.at_
  exact He.glo_ok X G (T.fact 3 (f := .glo "is_row"))
theorem Tx.g_parts_of (T : Tx w K mg) : mg "parts_of" = some (.ref (He.ga K "parts_of")) := by
  obtain ⟨h, X, G⟩ := T.at_
  exact He.glo_ok X G (T.fact 4 (f := .glo "parts_of"))
theorem Tx.g_reads (T : Tx w K mg) : mg "reads" = some (.ref (He.ga K "reads")) := by
  obtain ⟨h, X, G⟩ := T.at_
  exact He.glo_ok X G (T.fact 5 (f := .glo "reads"))
theorem Tx.g_sets (T : Tx w K mg) : mg "sets" = some (.ref (He.ga K "sets")) := by
  obtain ⟨h, X, G⟩ := T.at_
  exact He.glo_ok X G (T.fact 6 (f := .glo "sets"))
theorem Tx.g_leads (T : Tx w K mg) : mg "leads" = some (.ref (He.ga K "leads")) := by
  obtain ⟨h, X, G⟩ := T.at_
  exact He.glo_ok X G (T.fact 7 (f := .glo "leads"))
theorem Tx.g_is_way (T : Tx w K mg) : mg "is_way" = some (.ref (He.ga K "is_way")) := by
  obtain ⟨h, X, G⟩ := T.at_
  exact He.glo_ok X G (T.fact 8 (f := .glo "is_way"))
theorem Tx.g_need_program (T : Tx w K mg) : mg "need_program" = some (.ref (He.ga K "need_program")) := by
  obtain ⟨h, X, G⟩ := T.at_
  exact He.glo_ok X G (T.fact 9 (f := .glo "need_program"))
theorem Tx.g_need_inputs (T : Tx w K mg) : mg "need_inputs" = some (.ref (He.ga K "need_inputs")) := by
  obtain ⟨h, X, G⟩ := T.at_
  exact He.glo_ok X G (T.fact 10 (f := .glo "need_inputs"))
theorem Tx.g_need_most (T : Tx w K mg) : mg "need_most" = some (.ref (He.ga K "need_most")) := by
  obtain ⟨h, X, G⟩ := T.at_
  exact He.glo_ok X G (T.fact 11 (f := .glo "need_most"))
theorem Tx.g_meant (T : Tx w K mg) : mg "meant" = some (.ref (He.ga K "meant")) := by
  obtain ⟨h, X, G⟩ := T.at_
  exact He.glo_ok X G (T.fact 12 (f := .glo "meant"))
theorem Tx.g_outcome_of (T : Tx w K mg) : mg "outcome_of" = some (.ref (He.ga K "outcome_of")) := by
  obtain ⟨h, X, G⟩ := T.at_
  exact He.glo_ok X G (T.fact 13 (f := .glo "outcome_of"))
theorem Tx.g_run (T : Tx w K mg) : mg "run" = some (.ref (He.ga K "run")) := by
  obtain ⟨h, X, G⟩ := T.at_
  exact He.glo_ok X G (T.fact 14 (f := .glo "run"))
theorem Tx.g_boxes_named (T : Tx w K mg) : mg "boxes_named" = some (.ref (He.ga K "boxes_named")) := by
  obtain ⟨h, X, G⟩ := T.at_
  exact He.glo_ok X G (T.fact 15 (f := .glo "boxes_named"))
theorem Tx.g_places_named (T : Tx w K mg) : mg "places_named" = some (.ref (He.ga K "places_named")) := by
  obtain ⟨h, X, G⟩ := T.at_
  exact He.glo_ok X G (T.fact 16 (f := .glo "places_named"))
theorem Tx.g_is_slip (T : Tx w K mg) : mg "is_slip" = some (.ref (He.ga K "is_slip")) := by
  obtain ⟨h, X, G⟩ := T.at_
  exact He.glo_ok X G (T.fact 17 (f := .glo "is_slip"))
theorem Tx.g_beat_with (T : Tx w K mg) : mg "beat_with" = some (.ref (He.ga K "beat_with")) := by
  obtain ⟨h, X, G⟩ := T.at_
  exact He.glo_ok X G (T.fact 18 (f := .glo "beat_with"))
theorem Tx.g_go_with (T : Tx w K mg) : mg "go_with" = some (.ref (He.ga K "go_with")) := by
  obtain ⟨h, X, G⟩ := T.at_
  exact He.glo_ok X G (T.fact 19 (f := .glo "go_with"))
theorem Tx.g_machine_with (T : Tx w K mg) : mg "machine_with" = some (.ref (He.ga K "machine_with")) := by
  obtain ⟨h, X, G⟩ := T.at_
  exact He.glo_ok X G (T.fact 20 (f := .glo "machine_with"))
theorem Tx.g_run_with (T : Tx w K mg) : mg "run_with" = some (.ref (He.ga K "run_with")) := by
  obtain ⟨h, X, G⟩ := T.at_
  exact He.glo_ok X G (T.fact 21 (f := .glo "run_with"))
theorem Tx.g_right_stands (T : Tx w K mg) : mg "right_stands" = some (.ref (He.ga K "right_stands")) := by
  obtain ⟨h, X, G⟩ := T.at_
  exact He.glo_ok X G (T.fact 22 (f := .glo "right_stands"))
theorem Tx.g_slips_among (T : Tx w K mg) : mg "slips_among" = some (.ref (He.ga K "slips_among")) := by
  obtain ⟨h, X, G⟩ := T.at_
  exact He.glo_ok X G (T.fact 23 (f := .glo "slips_among"))
theorem Tx.g_slips_of (T : Tx w K mg) : mg "slips_of" = some (.ref (He.ga K "slips_of")) := by
  obtain ⟨h, X, G⟩ := T.at_
  exact He.glo_ok X G (T.fact 24 (f := .glo "slips_of"))
theorem Tx.g_beats_for (T : Tx w K mg) : mg "beats_for" = some (.ref (He.ga K "beats_for")) := by
  obtain ⟨h, X, G⟩ := T.at_
  exact He.glo_ok X G (T.fact 25 (f := .glo "beats_for"))
theorem Tx.g_word_of (T : Tx w K mg) : mg "word_of" = some (.ref (He.ga K "word_of")) := by
  obtain ⟨h, X, G⟩ := T.at_
  exact He.glo_ok X G (T.fact 26 (f := .glo "word_of"))
theorem Tx.g_judged (T : Tx w K mg) : mg "judged" = some (.ref (He.ga K "judged")) := by
  obtain ⟨h, X, G⟩ := T.at_
  exact He.glo_ok X G (T.fact 27 (f := .glo "judged"))
theorem Tx.g_all_judged (T : Tx w K mg) : mg "all_judged" = some (.ref (He.ga K "all_judged")) := by
  obtain ⟨h, X, G⟩ := T.at_
  exact He.glo_ok X G (T.fact 28 (f := .glo "all_judged"))
theorem Tx.g_tally (T : Tx w K mg) : mg "tally" = some (.ref (He.ga K "tally")) := by
  obtain ⟨h, X, G⟩ := T.at_
  exact He.glo_ok X G (T.fact 29 (f := .glo "tally"))
theorem Tx.g_first_wrong (T : Tx w K mg) : mg "first_wrong" = some (.ref (He.ga K "first_wrong")) := by
  obtain ⟨h, X, G⟩ := T.at_
  exact He.glo_ok X G (T.fact 30 (f := .glo "first_wrong"))
theorem Tx.g_law_cell (T : Tx w K mg) : mg "_law_cell" = some (.ref (He.ga K "_law_cell")) := by
  obtain ⟨h, X, G⟩ := T.at_
  exact He.glo_ok X G (T.fact 31 (f := .glo "_law_cell"))
theorem Tx.g_law_op (T : Tx w K mg) : mg "_law_op" = some (.ref (He.ga K "_law_op")) := by
  obtain ⟨h, X, G⟩ := T.at_
  exact He.glo_ok X G (T.fact 32 (f := .glo "_law_op"))
theorem Tx.g_law_hued (T : Tx w K mg) : mg "_law_hued" = some (.ref (He.ga K "_law_hued")) := by
  obtain ⟨h, X, G⟩ := T.at_
  exact He.glo_ok X G (T.fact 33 (f := .glo "_law_hued"))
theorem Tx.g_law_wild (T : Tx w K mg) : mg "_law_wild" = some (.ref (He.ga K "_law_wild")) := by
  obtain ⟨h, X, G⟩ := T.at_
  exact He.glo_ok X G (T.fact 34 (f := .glo "_law_wild"))
theorem Tx.g_law_program (T : Tx w K mg) : mg "_law_program" = some (.ref (He.ga K "_law_program")) := by
  obtain ⟨h, X, G⟩ := T.at_
  exact He.glo_ok X G (T.fact 35 (f := .glo "_law_program"))
theorem Tx.g_law_inputs (T : Tx w K mg) : mg "_law_inputs" = some (.ref (He.ga K "_law_inputs")) := by
  obtain ⟨h, X, G⟩ := T.at_
  exact He.glo_ok X G (T.fact 36 (f := .glo "_law_inputs"))
theorem Tx.g_law_boxes (T : Tx w K mg) : mg "_law_boxes" = some (.ref (He.ga K "_law_boxes")) := by
  obtain ⟨h, X, G⟩ := T.at_
  exact He.glo_ok X G (T.fact 37 (f := .glo "_law_boxes"))
theorem Tx.g_law_goals (T : Tx w K mg) : mg "_law_goals" = some (.ref (He.ga K "_law_goals")) := by
  obtain ⟨h, X, G⟩ := T.at_
  exact He.glo_ok X G (T.fact 38 (f := .glo "_law_goals"))
theorem Tx.g_law_stepped (T : Tx w K mg) : mg "_law_stepped" = some (.ref (He.ga K "_law_stepped")) := by
  obtain ⟨h, X, G⟩ := T.at_
  exact He.glo_ok X G (T.fact 39 (f := .glo "_law_stepped"))
theorem Tx.g_law_idle (T : Tx w K mg) : mg "_law_idle" = some (.ref (He.ga K "_law_idle")) := by
  obtain ⟨h, X, G⟩ := T.at_
  exact He.glo_ok X G (T.fact 40 (f := .glo "_law_idle"))
theorem Tx.g_law_judged (T : Tx w K mg) : mg "_law_judged" = some (.ref (He.ga K "_law_judged")) := by
  obtain ⟨h, X, G⟩ := T.at_
  exact He.glo_ok X G (T.fact 41 (f := .glo "_law_judged"))
theorem Tx.g_law_slip_right (T : Tx w K mg) : mg "_law_slip_right" = some (.ref (He.ga K "_law_slip_right")) := by
  obtain ⟨h, X, G⟩ := T.at_
  exact He.glo_ok X G (T.fact 42 (f := .glo "_law_slip_right"))
theorem Tx.g_law_all_right (T : Tx w K mg) : mg "_law_all_right" = some (.ref (He.ga K "_law_all_right")) := by
  obtain ⟨h, X, G⟩ := T.at_
  exact He.glo_ok X G (T.fact 43 (f := .glo "_law_all_right"))
theorem Tx.g_law (T : Tx w K mg) : mg "law" = some (.ref (He.ga K "law")) := by
  obtain ⟨h, X, G⟩ := T.at_
  exact He.glo_ok X G (T.fact 44 (f := .glo "law"))
theorem Tx.g_Stand (T : Tx w K mg) : mg "Stand" = some (.ref (He.ga K "Stand")) := by
  obtain ⟨h, X, G⟩ := T.at_
  exact He.glo_ok X G (T.fact 45 (f := .glo "Stand"))
theorem Tx.c_Stand (T : Tx w K mg) : Cls K (He.ga K "Stand") := He.cls_ok (T.fact 46 (f := .cls "Stand"))
theorem Tx.k_Stand (T : Tx w K mg) : Mk K (He.ga K "Stand") (He.ma K (He.ga K "Stand") "__init__") := He.mkr_ok (T.fact 47 (f := .mkr "Stand"))
theorem Tx.m_Stand_copied (T : Tx w K mg) : Meth K (He.ga K "Stand") "copied" (He.ma K (He.ga K "Stand") "copied") := He.meth_ok (T.fact 48 (f := .meth "Stand" "copied"))
theorem Tx.g_Machine (T : Tx w K mg) : mg "Machine" = some (.ref (He.ga K "Machine")) := by
  obtain ⟨h, X, G⟩ := T.at_
  exact He.glo_ok X G (T.fact 49 (f := .glo "Machine"))
theorem Tx.c_Machine (T : Tx w K mg) : Cls K (He.ga K "Machine") := He.cls_ok (T.fact 50 (f := .cls "Machine"))
theorem Tx.k_Machine (T : Tx w K mg) : Mk K (He.ga K "Machine") (He.ma K (He.ga K "Machine") "__init__") := He.mkr_ok (T.fact 51 (f := .mkr "Machine"))
theorem Tx.m_Machine_place (T : Tx w K mg) : Meth K (He.ga K "Machine") "place" (He.ma K (He.ga K "Machine") "place") := He.meth_ok (T.fact 52 (f := .meth "Machine" "place"))
theorem Tx.m_Machine_beats (T : Tx w K mg) : Meth K (He.ga K "Machine") "beats" (He.ma K (He.ga K "Machine") "beats") := He.meth_ok (T.fact 53 (f := .meth "Machine" "beats"))
theorem Tx.m_Machine_boxes (T : Tx w K mg) : Meth K (He.ga K "Machine") "boxes" (He.ma K (He.ga K "Machine") "boxes") := He.meth_ok (T.fact 54 (f := .meth "Machine" "boxes"))
theorem Tx.m_Machine_cells (T : Tx w K mg) : Meth K (He.ga K "Machine") "cells" (He.ma K (He.ga K "Machine") "cells") := He.meth_ok (T.fact 55 (f := .meth "Machine" "cells"))
theorem Tx.m_Machine_told (T : Tx w K mg) : Meth K (He.ga K "Machine") "told" (He.ma K (He.ga K "Machine") "told") := He.meth_ok (T.fact 56 (f := .meth "Machine" "told"))
theorem Tx.m_Machine_kept (T : Tx w K mg) : Meth K (He.ga K "Machine") "kept" (He.ma K (He.ga K "Machine") "kept") := He.meth_ok (T.fact 57 (f := .meth "Machine" "kept"))
theorem Tx.m_Machine_end (T : Tx w K mg) : Meth K (He.ga K "Machine") "end" (He.ma K (He.ga K "Machine") "end") := He.meth_ok (T.fact 58 (f := .meth "Machine" "end"))
theorem Tx.m_Machine_beat (T : Tx w K mg) : Meth K (He.ga K "Machine") "beat" (He.ma K (He.ga K "Machine") "beat") := He.meth_ok (T.fact 59 (f := .meth "Machine" "beat"))
theorem Tx.m_Machine_made (T : Tx w K mg) : Meth K (He.ga K "Machine") "made" (He.ma K (He.ga K "Machine") "made") := He.meth_ok (T.fact 60 (f := .meth "Machine" "made"))
theorem Tx.m_Machine_go_out (T : Tx w K mg) : Meth K (He.ga K "Machine") "go_out" (He.ma K (He.ga K "Machine") "go_out") := He.meth_ok (T.fact 61 (f := .meth "Machine" "go_out"))
theorem Tx.m_Machine_tell (T : Tx w K mg) : Meth K (He.ga K "Machine") "tell" (He.ma K (He.ga K "Machine") "tell") := He.meth_ok (T.fact 62 (f := .meth "Machine" "tell"))
theorem Tx.m_Machine_keep (T : Tx w K mg) : Meth K (He.ga K "Machine") "keep" (He.ma K (He.ga K "Machine") "keep") := He.meth_ok (T.fact 63 (f := .meth "Machine" "keep"))
theorem Tx.m_Machine_stumble (T : Tx w K mg) : Meth K (He.ga K "Machine") "stumble" (He.ma K (He.ga K "Machine") "stumble") := He.meth_ok (T.fact 64 (f := .meth "Machine" "stumble"))
theorem Tx.m_Machine_slip (T : Tx w K mg) : Meth K (He.ga K "Machine") "slip" (He.ma K (He.ga K "Machine") "slip") := He.meth_ok (T.fact 65 (f := .meth "Machine" "slip"))
theorem Tx.m_Machine_lead (T : Tx w K mg) : Meth K (He.ga K "Machine") "lead" (He.ma K (He.ga K "Machine") "lead") := He.meth_ok (T.fact 66 (f := .meth "Machine" "lead"))
theorem Tx.m_Machine_twin (T : Tx w K mg) : Meth K (He.ga K "Machine") "twin" (He.ma K (He.ga K "Machine") "twin") := He.meth_ok (T.fact 67 (f := .meth "Machine" "twin"))
theorem Tx.n_Stand_at (T : Tx w K mg) : NoAttr K (He.ga K "Stand") "at" := He.noat_ok (T.fact 68 (f := .noat "Stand" "at"))
theorem Tx.n_Stand_words (T : Tx w K mg) : NoAttr K (He.ga K "Stand") "words" := He.noat_ok (T.fact 69 (f := .noat "Stand" "words"))
theorem Tx.n_Stand_store (T : Tx w K mg) : NoAttr K (He.ga K "Stand") "store" := He.noat_ok (T.fact 70 (f := .noat "Stand" "store"))
theorem Tx.n_Stand_count (T : Tx w K mg) : NoAttr K (He.ga K "Stand") "count" := He.noat_ok (T.fact 71 (f := .noat "Stand" "count"))
theorem Tx.n_Stand_used (T : Tx w K mg) : NoAttr K (He.ga K "Stand") "used" := He.noat_ok (T.fact 72 (f := .noat "Stand" "used"))
theorem Tx.n_Machine_rows (T : Tx w K mg) : NoAttr K (He.ga K "Machine") "rows" := He.noat_ok (T.fact 73 (f := .noat "Machine" "rows"))
theorem Tx.n_Machine_given (T : Tx w K mg) : NoAttr K (He.ga K "Machine") "given" := He.noat_ok (T.fact 74 (f := .noat "Machine" "given"))
theorem Tx.n_Machine_at (T : Tx w K mg) : NoAttr K (He.ga K "Machine") "at" := He.noat_ok (T.fact 75 (f := .noat "Machine" "at"))
theorem Tx.n_Machine_words (T : Tx w K mg) : NoAttr K (He.ga K "Machine") "words" := He.noat_ok (T.fact 76 (f := .noat "Machine" "words"))
theorem Tx.n_Machine_store (T : Tx w K mg) : NoAttr K (He.ga K "Machine") "store" := He.noat_ok (T.fact 77 (f := .noat "Machine" "store"))
theorem Tx.n_Machine_said (T : Tx w K mg) : NoAttr K (He.ga K "Machine") "said" := He.noat_ok (T.fact 78 (f := .noat "Machine" "said"))
theorem Tx.n_Machine_count (T : Tx w K mg) : NoAttr K (He.ga K "Machine") "count" := He.noat_ok (T.fact 79 (f := .noat "Machine" "count"))
theorem Tx.n_Machine_stands (T : Tx w K mg) : NoAttr K (He.ga K "Machine") "stands" := He.noat_ok (T.fact 80 (f := .noat "Machine" "stands"))
theorem Tx.n_Machine_over (T : Tx w K mg) : NoAttr K (He.ga K "Machine") "over" := He.noat_ok (T.fact 81 (f := .noat "Machine" "over"))
theorem Tx.n_Machine_done (T : Tx w K mg) : NoAttr K (He.ga K "Machine") "done" := He.noat_ok (T.fact 82 (f := .noat "Machine" "done"))
theorem Tx.i_MOST_WORD (T : Tx w K mg) : Gv mg "MOST_WORD" (.int 15) := by
  obtain ⟨h, X, G⟩ := T.at_
  obtain ⟨t, e⟩ := He.int_ok X G (T.fact 83 (f := .int "MOST_WORD" 15))
  exact ⟨_, e, t, rfl⟩
theorem Tx.i_MANY_BOXES (T : Tx w K mg) : Gv mg "MANY_BOXES" (.int 32) := by
  obtain ⟨h, X, G⟩ := T.at_
  obtain ⟨t, e⟩ := He.int_ok X G (T.fact 84 (f := .int "MANY_BOXES" 32))
  exact ⟨_, e, t, rfl⟩
theorem Tx.i_MANY_CELLS (T : Tx w K mg) : Gv mg "MANY_CELLS" (.int 16) := by
  obtain ⟨h, X, G⟩ := T.at_
  obtain ⟨t, e⟩ := He.int_ok X G (T.fact 85 (f := .int "MANY_CELLS" 16))
  exact ⟨_, e, t, rfl⟩
theorem Tx.i_MANY_INPUTS (T : Tx w K mg) : Gv mg "MANY_INPUTS" (.int 8) := by
  obtain ⟨h, X, G⟩ := T.at_
  obtain ⟨t, e⟩ := He.int_ok X G (T.fact 86 (f := .int "MANY_INPUTS" 8))
  exact ⟨_, e, t, rfl⟩
theorem Tx.i_MOST_ROWS (T : Tx w K mg) : Gv mg "MOST_ROWS" (.int 400) := by
  obtain ⟨h, X, G⟩ := T.at_
  obtain ⟨t, e⟩ := He.int_ok X G (T.fact 87 (f := .int "MOST_ROWS" 400))
  exact ⟨_, e, t, rfl⟩
theorem Tx.i_SET_BOX (T : Tx w K mg) : Gv mg "SET_BOX" (.str "s") := by
  obtain ⟨h, X, G⟩ := T.at_
  obtain ⟨t, e⟩ := He.str_ok X G (T.fact 88 (f := .str "SET_BOX" "s"))
  exact ⟨_, e, t, rfl⟩
theorem Tx.i_READ_BOX (T : Tx w K mg) : Gv mg "READ_BOX" (.str "r") := by
  obtain ⟨h, X, G⟩ := T.at_
  obtain ⟨t, e⟩ := He.str_ok X G (T.fact 89 (f := .str "READ_BOX" "r"))
  exact ⟨_, e, t, rfl⟩
theorem Tx.i_A_WORD (T : Tx w K mg) : Gv mg "A_WORD" (.str "n") := by
  obtain ⟨h, X, G⟩ := T.at_
  obtain ⟨t, e⟩ := He.str_ok X G (T.fact 90 (f := .str "A_WORD" "n"))
  exact ⟨_, e, t, rfl⟩
theorem Tx.i_AN_INPUT (T : Tx w K mg) : Gv mg "AN_INPUT" (.str "k") := by
  obtain ⟨h, X, G⟩ := T.at_
  obtain ⟨t, e⟩ := He.str_ok X G (T.fact 91 (f := .str "AN_INPUT" "k"))
  exact ⟨_, e, t, rfl⟩
theorem Tx.i_A_PLACE (T : Tx w K mg) : Gv mg "A_PLACE" (.str "p") := by
  obtain ⟨h, X, G⟩ := T.at_
  obtain ⟨t, e⟩ := He.str_ok X G (T.fact 92 (f := .str "A_PLACE" "p"))
  exact ⟨_, e, t, rfl⟩
theorem Tx.g_FORMS (T : Tx w K mg) : mg "FORMS" = some (.ref (He.ga K "FORMS")) := by
  obtain ⟨h, X, G⟩ := T.at_
  exact He.glo_ok X G (T.fact 93 (f := .glo "FORMS"))
theorem Tx.o_FORMS (T : Tx w K mg) : Gv mg "FORMS" (.ref (He.ga K "FORMS")) := ⟨_, T.g_FORMS, rfl⟩
theorem Tx.g_GREATEST (T : Tx w K mg) : mg "GREATEST" = some (.ref (He.ga K "GREATEST")) := by
  obtain ⟨h, X, G⟩ := T.at_
  exact He.glo_ok X G (T.fact 94 (f := .glo "GREATEST"))
theorem Tx.o_GREATEST (T : Tx w K mg) : Gv mg "GREATEST" (.ref (He.ga K "GREATEST")) := ⟨_, T.g_GREATEST, rfl⟩
theorem Tx.g_WAYS (T : Tx w K mg) : mg "WAYS" = some (.ref (He.ga K "WAYS")) := by
  obtain ⟨h, X, G⟩ := T.at_
  exact He.glo_ok X G (T.fact 95 (f := .glo "WAYS"))
theorem Tx.o_WAYS (T : Tx w K mg) : Gv mg "WAYS" (.ref (He.ga K "WAYS")) := ⟨_, T.g_WAYS, rfl⟩
theorem Tx.g_LAST_ONES (T : Tx w K mg) : mg "LAST_ONES" = some (.ref (He.ga K "LAST_ONES")) := by
  obtain ⟨h, X, G⟩ := T.at_
  exact He.glo_ok X G (T.fact 96 (f := .glo "LAST_ONES"))
theorem Tx.o_LAST_ONES (T : Tx w K mg) : Gv mg "LAST_ONES" (.ref (He.ga K "LAST_ONES")) := ⟨_, T.g_LAST_ONES, rfl⟩
theorem Tx.i_MOST_BEATS (T : Tx w K mg) : Gv mg "MOST_BEATS" (.int 100000) := by
  obtain ⟨h, X, G⟩ := T.at_
  obtain ⟨t, e⟩ := He.int_ok X G (T.fact 97 (f := .int "MOST_BEATS" 100000))
  exact ⟨_, e, t, rfl⟩
theorem Tx.i_MOST_KEPT (T : Tx w K mg) : Gv mg "MOST_KEPT" (.int 2) := by
  obtain ⟨h, X, G⟩ := T.at_
  obtain ⟨t, e⟩ := He.int_ok X G (T.fact 98 (f := .int "MOST_KEPT" 2))
  exact ⟨_, e, t, rfl⟩
theorem Tx.g_COPIES (T : Tx w K mg) : mg "COPIES" = some (.ref (He.ga K "COPIES")) := by
  obtain ⟨h, X, G⟩ := T.at_
  exact He.glo_ok X G (T.fact 99 (f := .glo "COPIES"))
theorem Tx.o_COPIES (T : Tx w K mg) : Gv mg "COPIES" (.ref (He.ga K "COPIES")) := ⟨_, T.g_COPIES, rfl⟩
theorem Tx.i_MOST_BEAT (T : Tx w K mg) : Gv mg "MOST_BEAT" (.int 5000) := by
  obtain ⟨h, X, G⟩ := T.at_
  obtain ⟨t, e⟩ := He.int_ok X G (T.fact 100 (f := .int "MOST_BEAT" 5000))
  exact ⟨_, e, t, rfl⟩
theorem Tx.i_RIGHT (T : Tx w K mg) : Gv mg "RIGHT" (.str "end") := by
  obtain ⟨h, X, G⟩ := T.at_
  obtain ⟨t, e⟩ := He.str_ok X G (T.fact 101 (f := .str "RIGHT" "end"))
  exact ⟨_, e, t, rfl⟩
theorem Tx.g_WORDS (T : Tx w K mg) : mg "WORDS" = some (.ref (He.ga K "WORDS")) := by
  obtain ⟨h, X, G⟩ := T.at_
  exact He.glo_ok X G (T.fact 102 (f := .glo "WORDS"))
theorem Tx.o_WORDS (T : Tx w K mg) : Gv mg "WORDS" (.ref (He.ga K "WORDS")) := ⟨_, T.g_WORDS, rfl⟩
theorem Tx.i_TIMES_MORE (T : Tx w K mg) : Gv mg "TIMES_MORE" (.int 4) := by
  obtain ⟨h, X, G⟩ := T.at_
  obtain ⟨t, e⟩ := He.int_ok X G (T.fact 103 (f := .int "TIMES_MORE" 4))
  exact ⟨_, e, t, rfl⟩
theorem Tx.i_BEATS_MORE (T : Tx w K mg) : Gv mg "BEATS_MORE" (.int 100) := by
  obtain ⟨h, X, G⟩ := T.at_
  obtain ⟨t, e⟩ := He.int_ok X G (T.fact 104 (f := .int "BEATS_MORE" 100))
  exact ⟨_, e, t, rfl⟩
theorem Tx.f_isinstance (T : Tx w K mg) : mg "isinstance" = none := by
  obtain ⟨h, X, G⟩ := T.at_
  exact He.free_ok X G (T.fact 105 (f := .free "isinstance"))
theorem Tx.f_len (T : Tx w K mg) : mg "len" = none := by
  obtain ⟨h, X, G⟩ := T.at_
  exact He.free_ok X G (T.fact 106 (f := .free "len"))
theorem Tx.f_all (T : Tx w K mg) : mg "all" = none := by
  obtain ⟨h, X, G⟩ := T.at_
  exact He.free_ok X G (T.fact 107 (f := .free "all"))
theorem Tx.f_zip (T : Tx w K mg) : mg "zip" = none := by
  obtain ⟨h, X, G⟩ := T.at_
  exact He.free_ok X G (T.fact 108 (f := .free "zip"))
theorem Tx.f_tuple (T : Tx w K mg) : mg "tuple" = none := by
  obtain ⟨h, X, G⟩ := T.at_
  exact He.free_ok X G (T.fact 109 (f := .free "tuple"))
theorem Tx.f_list (T : Tx w K mg) : mg "list" = none := by
  obtain ⟨h, X, G⟩ := T.at_
  exact He.free_ok X G (T.fact 110 (f := .free "list"))
theorem Tx.f_int (T : Tx w K mg) : mg "int" = none := by
  obtain ⟨h, X, G⟩ := T.at_
  exact He.free_ok X G (T.fact 111 (f := .free "int"))
theorem Tx.f_str (T : Tx w K mg) : mg "str" = none := by
  obtain ⟨h, X, G⟩ := T.at_
  exact He.free_ok X G (T.fact 112 (f := .free "str"))
theorem Tx.f_bool (T : Tx w K mg) : mg "bool" = none := by
  obtain ⟨h, X, G⟩ := T.at_
  exact He.free_ok X G (T.fact 113 (f := .free "bool"))
theorem Tx.f_enumerate (T : Tx w K mg) : mg "enumerate" = none := by
  obtain ⟨h, X, G⟩ := T.at_
  exact He.free_ok X G (T.fact 114 (f := .free "enumerate"))
theorem Tx.f_range (T : Tx w K mg) : mg "range" = none := by
  obtain ⟨h, X, G⟩ := T.at_
  exact He.free_ok X G (T.fact 115 (f := .free "range"))
theorem Tx.f_sorted (T : Tx w K mg) : mg "sorted" = none := by
  obtain ⟨h, X, G⟩ := T.at_
  exact He.free_ok X G (T.fact 116 (f := .free "sorted"))
theorem Tx.f_set (T : Tx w K mg) : mg "set" = none := by
  obtain ⟨h, X, G⟩ := T.at_
  exact He.free_ok X G (T.fact 117 (f := .free "set"))
theorem Tx.f_dict (T : Tx w K mg) : mg "dict" = none := by
  obtain ⟨h, X, G⟩ := T.at_
  exact He.free_ok X G (T.fact 118 (f := .free "dict"))
theorem Tx.f_sum (T : Tx w K mg) : mg "sum" = none := by
  obtain ⟨h, X, G⟩ := T.at_
  exact He.free_ok X G (T.fact 119 (f := .free "sum"))
theorem Tx.f_repr (T : Tx w K mg) : mg "repr" = none := by
  obtain ⟨h, X, G⟩ := T.at_
  exact He.free_ok X G (T.fact 120 (f := .free "repr"))
theorem Tx.f_min (T : Tx w K mg) : mg "min" = none := by
  obtain ⟨h, X, G⟩ := T.at_
  exact He.free_ok X G (T.fact 121 (f := .free "min"))

theorem Tx.tWAYS (T : Tx w K mg) (H : Hp) : SqT K H (He.ga K "WAYS") (waysL.map V.str) := He.tupB_ok (He.ba T.ex).1 H
theorem Tx.tLAST (T : Tx w K mg) (H : Hp) : SqT K H (He.ga K "LAST_ONES") (lastL.map V.str) := He.tupB_ok (He.ba (He.ba T.ex).2).1 H
theorem Tx.tWORDS (T : Tx w K mg) (H : Hp) : SqT K H (He.ga K "WORDS") (wordsL.map V.str) := He.tupB_ok (He.ba (He.ba (He.ba T.ex).2).2).1 H
theorem Tx.vFORMS (T : Tx w K mg) : He.valsB K (He.ga K "FORMS") (formsL.map fun q => (q.1, He.Dv.str q.2)) = true := (He.ba (He.ba (He.ba (He.ba T.ex).2).2).2).1
theorem Tx.vGREAT (T : Tx w K mg) : He.valsB K (He.ga K "GREATEST") (greatL.map fun q => (q.1, He.Dv.int q.2)) = true := (He.ba (He.ba (He.ba (He.ba (He.ba T.ex).2).2).2).2).1
theorem Tx.vCOP (T : Tx w K mg) : He.valsB K (He.ga K "COPIES") (copL.map fun q => (q.1, He.Dv.int q.2)) = true := (He.ba (He.ba (He.ba (He.ba (He.ba (He.ba T.ex).2).2).2).2).2).1
theorem Tx.aCOP (T : Tx w K mg) : absB K (He.ga K "COPIES") nocopL = true := (He.ba (He.ba (He.ba (He.ba (He.ba (He.ba T.ex).2).2).2).2).2).2
theorem Tx.dFORMS (T : Tx w K mg) : ∃ es n, KDict K w (He.ga K "FORMS") es n := T.says.tab 0 (t := (fun K => He.ga K "FORMS", formsL.map (·.1))) rfl
theorem Tx.dGREAT (T : Tx w K mg) : ∃ es n, KDict K w (He.ga K "GREATEST") es n := T.says.tab 1 (t := (fun K => He.ga K "GREATEST", greatL.map (·.1))) rfl
theorem Tx.dCOP (T : Tx w K mg) : ∃ es n, KDict K w (He.ga K "COPIES") es n := T.says.tab 2 (t := (fun K => He.ga K "COPIES", copL.map (·.1))) rfl
end

end Sw
/-! SwB -/
namespace Sw
set_option Elab.async false
set_option linter.all false
set_option maxRecDepth 100000
set_option maxHeartbeats 4000000
open PySem PySem.Spec PyProof.Rows L2
/-! ### calls by names -/
section
variable {X : Cx}
theorem pe_gx {x : Str} {v : V} {pos : Pos} (hg : Gl X x) (h : Gv X.mg x v) (hd : (x == ("__debug__" : Str)) = false := by decide) : PE X (.Name x pos) (tC v) := by
  obtain ⟨u, e, r⟩ := h
  exact pe_glob hg e r hd
end
/-- a def that keeps its promise, whatever its object is -/
structure Kn (P : Program) (w : World) (K : PySem.W.Frag) (mg : Str → Option Value) (base : Heap) (k : Nat) (f : Addr) (ps : List Str) (sp : Sp) : Prop where
  ex : ∃ fd, FnOk P w K mg base CX0 k f fd ps sp ∧ Binds K fd ps []
  kp : PySem.W.keepIn K (.ref f) = true
section
variable {P : Program} {w : World} {K : PySem.W.Frag} {mg : Str → Option Value} {base : Heap}
theorem kn_of {x qual : Str} {st : Stmt} {f : Addr} {N ps : List Str} {k : Nat} {sp : Sp} (D : ∃ fd, FnP K x qual st f fd) (S : FnScope N ps (defScope st))
    (b : ∀ (kV doc pm : Value) (an : Option Addr) (cdv ct : Value) (us : List Value), us.length = ps.length → bindArgs (PySem.W.fnOf x qual (defArgs st) (defBody st) (defScope st) .none kV doc pm an cdv ct) ⟨us, []⟩ = pure (ps.zip us))
    (len : ∀ vs H Q E, sp vs H Q E → vs.length = ps.length)
    (body : ∀ (cdv : Value) (A : Around) (outer : List Env) (s : Shared) (H : Hp) (vs : List V) (Q : VK) (E : XK), Room k (A.deeper (envOfC qual (defScope st) s.heap.objs.size f cdv)) → sp vs H Q E →
      ∃ t, PSs (cxOf CX0 P w K mg base N qual (defScope st) f cdv A outer s H E).nox (defBody st) t ∧ t { nx := fun _ H' => Q .non H', rt := Q } (start N vs) H) : Kn P w K mg base (k + 1) f ps sp := by
  obtain ⟨fd, F⟩ := D
  refine ⟨⟨fd, F.ok S len fun cdv A outer s H vs Q E hr h => ?_, F.bindsN b⟩, F.kp⟩
  obtain ⟨t, h1, h2⟩ := body cdv A outer s H vs Q E hr h
  exact ⟨t, h1.nox, h2⟩
theorem Kn.mono {j k : Nat} {f : Addr} {ps : List Str} {sp : Sp} (F : Kn P w K mg base j f ps sp) (h : j ≤ k) : Kn P w K mg base k f ps sp := by
  obtain ⟨⟨fd, F1, b⟩, kp⟩ := F
  exact ⟨⟨fd, F1.mono h, b⟩, kp⟩
end
section
variable {X : Cx} {k : Nat} {f : Addr} {ps : List Str} {sp : Sp} {t : TA} {ta : TE}
theorem pe_kn {x : Str} {e : Expr} {es : List Expr} {p pos : Pos} (F : Kn X.prog X.w X.K X.mg X.base k f ps sp) (hr : Room k X.A) (hg : Gl X x) (hm : X.mg x = some (.ref f)) (ha : PA X (e :: es) t)
    (hdb : (x == ("__debug__" : Str)) = false := by decide) (he : starEach (e :: es) X.env = (false, eval e X.env) :: starEach es X.env := by rfl) (hpl : (backTo pos (starEach es X.env)).any (·.1) = false := by rfl) :
    PE X (.Call (.Name x p) (e :: es) [] pos) (tCall sp [] E0 t) := by
  obtain ⟨⟨fd, F1, b⟩, kp⟩ := F
  exact pe_call F1 hr hg hm kp b .nil pass0 ha hdb he hpl
theorem pe_kc {x : Str} {C : Addr} {e : Expr} {es : List Expr} {p pos : Pos} (F : Mk X.K C f ∧ Kn X.prog X.w X.K X.mg X.base k f ps sp) (hr : Room (k + 1) X.A) (hg : Gl X x) (hm : X.mg x = some (.ref C)) (ha : PA X (e :: es) t)
    (hdb : (x == ("__debug__" : Str)) = false := by decide) (he : starEach (e :: es) X.env = (false, eval e X.env) :: starEach es X.env := by rfl) (hpl : (backTo pos (starEach es X.env)).any (·.1) = false := by rfl) :
    PE X (.Call (.Name x p) (e :: es) [] pos) (tMake C sp [] E0 t) := by
  obtain ⟨M, ⟨fd, F1, b⟩, kp⟩ := F
  exact pe_make M F1 hr hg hm b .nil pass0 ha hdb he hpl
theorem pe_km {C : Addr} {o : Expr} {m : Str} {e : Expr} {es : List Expr} {apos pos : Pos} {pl : Sem Bool} (he : PE X o ta) (c : Cls X.K C) (hm : Meth X.K C m f) (F : Kn X.prog X.w X.K X.mg X.base k f ps sp) (hr : Room k X.A) (ha : PA X (e :: es) t)
    (hst : starEach (e :: es) X.env = (false, eval e X.env) :: starEach es X.env := by rfl) (hpl : (backTo pos (starEach es X.env)).any (·.1) = false := by rfl)
    (ht : eval (.Call (.Attribute o m apos) (e :: es) [] pos) X.env = (eval o X.env >>= fun ov => standAt apos.atName >>= fun _ => holding [ov] (getMethod ov m pl) >>= fun q =>
      callWith pos q.1 q.2 (backTo pos (starEach (e :: es) X.env)) (backToKw pos (keywordEach [] X.env))) := by rfl) :
    PE X (.Call (.Attribute o m apos) (e :: es) [] pos) (tMeth C m sp [] E0 ta t) := by
  obtain ⟨⟨fd, F1, b⟩, kp⟩ := F
  exact pe_meth he c hm F1 hr b .nil pass0 ha hst hpl ht
theorem pe_km0 {C : Addr} {o : Expr} {m : Str} {apos pos : Pos} {pl : Sem Bool} (he : PE X o ta) (c : Cls X.K C) (hm : Meth X.K C m f) (F : Kn X.prog X.w X.K X.mg X.base k f ps sp) (hr : Room k X.A)
    (ht : eval (.Call (.Attribute o m apos) [] [] pos) X.env = (eval o X.env >>= fun ov => standAt apos.atName >>= fun _ => holding [ov] (getMethod ov m pl) >>= fun q =>
      callWith pos q.1 q.2 (backTo pos (starEach [] X.env)) (backToKw pos (keywordEach [] X.env))) := by rfl) :
    PE X (.Call (.Attribute o m apos) [] [] pos) (tMeth C m sp [] E0 ta tNil) := by
  obtain ⟨⟨fd, F1, b⟩, kp⟩ := F
  exact pe_meth0 he c hm F1 hr b .nil pass0 ht
end
/-! ### comprehensions whose elements leave what stood -/
theorem range_fm {α : Type} (ys : Nat → Option α) (i : Nat) : (List.range (i + 1)).filterMap ys = (List.range i).filterMap ys ++ (match ys i with | some a => [a] | none => []) := by
  rw [List.range_succ, List.filterMap_append]
  congr 1
  cases h : ys i with
  | none => simp [h]
  | some a => simp [h]
theorem Paired.snoc {α β : Type} {F : α → β → Prop} {a : α} {b : β} (h : F a b) : ∀ {l : List α} {m : List β}, Paired F l m → Paired F (l ++ [a]) (m ++ [b])
  | _, _, .nil => .cons h .nil
  | _, _, .cons r t => .cons r (Paired.snoc h t)
theorem lc_pure {J : It} {n : Nat} {G : Hp → Prop} {Y : Nat → Hp → V → Hp → Prop} (w : Walk J n G Y) {g : TG} {tt : TT} {te : TE} {vs : List Nat} {σ : L2.St} {H1 : Hp} {D : Addr} {Qd : Hp → Prop} {α : Type}
    (ys : Nat → Option α) (R : V → α → Hp → Prop) (hR : ∀ v a H H', R v a H → Same H H' → R v a H') (hU : ∀ v a H (l : Addr) xs zs, R v a H → H l = some (.lst xs) → R v a (upd H l (.lst zs))) (hn : n ≤ 100000) (hD : H1 D = none) (hG : ∀ H, Same H1 H → G H)
    (hs : ∀ i x H H' (Qe : V → Hp → Prop) (Qn : Hp → Prop), i < n → Same H1 H → Y i H x H' → (∀ y H4 a, Same H H4 → ys i = some a → R y a H4 → Qe y H4) → (∀ H3, Same H H3 → ys i = none → Qn H3) →
      g x (wipe σ vs) H' fun σ2 H2 => wipe σ2 vs = wipe σ vs ∧ tt σ2 H2 fun b H3 => if b = true then te σ2 H3 Qe else Qn H3)
    (hd : ∀ H acc, Same H1 H → H D = some (.lst acc) → Paired (fun v a => R v a H) acc ((List.range n).filterMap ys) → Qd H) :
    ∃ W : Nat → Nat → Hp → Prop, (∃ m, W 0 m (upd H1 D (.lst []))) ∧ ∀ i m H, W i m H →
      (J.stop i H ∧ Qd H) ∨ (J.go i H ∧ ∃ Nx : Hp → Prop, (∀ H', Nx H' → ∃ m', m' < m ∧ W (i + 1) m' H') ∧ ∀ x H', J.yld i H x H' → g x (wipe σ vs) H' fun σ2 H2 => wipe σ2 vs = wipe σ vs ∧ tt σ2 H2 fun b H3 =>
        if b = true then te σ2 H3 fun y H4 => ∃ acc, H4 D = some (.lst acc) ∧ acc.length < sizeLine ∧ Nx (upd H4 D (.lst (acc ++ [y]))) else Nx H3) := by
  have s0 : Same H1 (upd H1 D (.lst [])) := fun b o e => by rw [upd_ne (ne_of_none e hD)]; exact e
  refine lc_it w (fun i H => Same H1 H ∧ ∃ acc, H D = some (.lst acc) ∧ acc.length ≤ i ∧ Paired (fun v a => R v a H) acc ((List.range i).filterMap ys)) ⟨s0, [], upd_same, Nat.le_refl _, .nil⟩ (fun i H _ p => hG H p.1) ?_ ?_
  · rintro i x H H' hi ⟨s, acc, ha, hl, hp⟩ y
    refine hs i x H H' _ _ hi s y (fun y4 H4 a s4 ea r4 => ?_) (fun H3 s3 en => ?_)
    · refine ⟨acc, s4 _ _ ha, Nat.lt_of_le_of_lt hl (Nat.lt_of_lt_of_le hi (Nat.le_trans hn (by decide))), ?_, acc ++ [y4], upd_same, ?_, ?_⟩
      · exact fun b o e => by rw [upd_ne (ne_of_none e hD)]; exact s4 _ _ (s _ _ e)
      · rw [List.length_append, List.length_singleton]; omega
      · rw [range_fm, ea]
        refine Paired.snoc (F := fun v a => R v a (upd H4 D (.lst (acc ++ [y4])))) (hU _ _ _ _ _ _ r4 (s4 _ _ ha)) ?_
        exact Paired.mapP hp fun v a r => hU _ _ _ _ _ _ (hR v a _ _ r s4) (s4 _ _ ha)
    · refine ⟨s.trans s3, acc, s3 _ _ ha, Nat.le_succ_of_le hl, ?_⟩
      rw [range_fm, en]
      show Paired _ acc (_ ++ [])
      rw [List.append_nil]
      exact Paired.mapP hp fun v a r => hR v a _ _ r s3
  · rintro H ⟨s, acc, ha, hl, hp⟩
    exact hd H acc s ha hp

/-! ### what stands as data: tuples of ints, rows, programs -/
abbrev Rw := Str × List Int
section
variable {K : PySem.W.Frag}
/-- tuples and written lists stay -/
def Tl (K : PySem.W.Frag) (H H' : Hp) : Prop := ∀ a xs, SqT K H a xs → SqT K H' a xs
theorem Tl.refl (H : Hp) : Tl K H H := fun _ _ h => h
theorem Tl.trans {H H1 H2 : Hp} (a : Tl K H H1) (b : Tl K H1 H2) : Tl K H H2 := fun x xs h => b x xs (a x xs h)
theorem tl_same {H H' : Hp} (s : Same H H') : Tl K H H' := fun a xs h => by
  rcases h with (h | ⟨o, h⟩) | h
  · exact .inl (.inl (s _ _ h))
  · exact .inl (.inr ⟨o, s _ _ h⟩)
  · exact .inr h
theorem tl_lst {H : Hp} {l : Addr} {xs : List V} {o : HO} (h : H l = some (.lst xs)) : Tl K H (upd H l o) := fun a zs q => by
  rcases q with (q | ⟨u, q⟩) | q
  · exact .inl (.inl (by rw [upd_ne (ne_of q h (by intro z; cases z))]; exact q))
  · exact .inl (.inr ⟨u, by rw [upd_ne (ne_of q h (by intro z; cases z))]; exact q⟩)
  · exact .inr q
theorem tl_ins {H : Hp} {l C dx : Addr} {fs : List (Str × V)} {o : HO} (h : H l = some (.ins C dx fs)) : Tl K H (upd H l o) := fun a zs q => by
  rcases q with (q | ⟨u, q⟩) | q
  · exact .inl (.inl (by rw [upd_ne (ne_of q h (by intro z; cases z))]; exact q))
  · exact .inl (.inr ⟨u, by rw [upd_ne (ne_of q h (by intro z; cases z))]; exact q⟩)
  · exact .inr q
def IsAt (K : PySem.W.Frag) (H : Hp) (v : V) (ns : List Int) : Prop := ∃ a, v = .ref a ∧ SqT K H a (ns.map V.int)
def RwAt (K : PySem.W.Frag) (H : Hp) (v : V) (r : Rw) : Prop := ∃ a, v = .ref a ∧ SqT K H a (.str r.1 :: r.2.map V.int)
def PgAt (K : PySem.W.Frag) (H : Hp) (v : V) (p : List Rw) : Prop := ∃ a vs, v = .ref a ∧ SqT K H a vs ∧ Paired (RwAt K H) vs p
theorem IsAt.tl {H H' : Hp} {v : V} {ns : List Int} (h : IsAt K H v ns) (s : Tl K H H') : IsAt K H' v ns := by
  obtain ⟨a, e, h⟩ := h
  exact ⟨a, e, s _ _ h⟩
theorem RwAt.tl {H H' : Hp} {v : V} {r : Rw} (h : RwAt K H v r) (s : Tl K H H') : RwAt K H' v r := by
  obtain ⟨a, e, h⟩ := h
  exact ⟨a, e, s _ _ h⟩
theorem PgAt.tl {H H' : Hp} {v : V} {p : List Rw} (h : PgAt K H v p) (s : Tl K H H') : PgAt K H' v p := by
  obtain ⟨a, vs, e, h, q⟩ := h
  exact ⟨a, vs, e, s _ _ h, Paired.mapP q fun _ _ r => r.tl s⟩
theorem Paired.at_ {α β : Type} {F : α → β → Prop} : ∀ {l : List α} {m : List β} {i : Nat} {b : β}, Paired F l m → m[i]? = some b → ∃ a, l[i]? = some a ∧ F a b
  | _, _, _, _, .nil, h => by simp at h
  | _, _, 0, _, .cons r _, h => by simp at h; subst h; exact ⟨_, rfl, r⟩
  | _, _, i + 1, _, .cons _ t, h => by
    obtain ⟨a, e, f⟩ := Paired.at_ (i := i) t (by simpa using h)
    exact ⟨a, by simpa using e, f⟩
theorem Paired.at1 {α β : Type} {F : α → β → Prop} : ∀ {l : List α} {m : List β} {i : Nat} {a : α}, Paired F l m → l[i]? = some a → ∃ b, m[i]? = some b ∧ F a b
  | _, _, _, _, .nil, h => by simp at h
  | _, _, 0, _, .cons r _, h => by simp at h; subst h; exact ⟨_, rfl, r⟩
  | _, _, i + 1, _, .cons _ t, h => by
    obtain ⟨a, e, f⟩ := Paired.at1 (i := i) t (by simpa using h)
    exact ⟨a, by simpa using e, f⟩
/-- the i-th item of a row -/
theorem row_at0 (r : Rw) : (V.str r.1 :: r.2.map V.int)[0]? = some (.str r.1) := rfl
theorem row_atS {r : Rw} {i : Nat} {z : Int} (h : r.2[i]? = some z) : (V.str r.1 :: r.2.map V.int)[i + 1]? = some (.int z) := by
  show (r.2.map V.int)[i]? = _
  rw [List.getElem?_map, h]
  rfl
end
/-! ### frames -/
/-- all but fp stands -/
def Frm (fp : List Addr) (H H' : Hp) : Prop := ∀ b o, H b = some o → b ∉ fp → H' b = some o
def Nw (fp fp' : List Addr) (H : Hp) : Prop := ∀ b ∈ fp', b ∈ fp ∨ H b = none
theorem Frm.refl (fp : List Addr) (H : Hp) : Frm fp H H := fun _ _ h _ => h
theorem frm_same {fp : List Addr} {H H' : Hp} (s : Same H H') : Frm fp H H' := fun b o h _ => s b o h
theorem Frm.trans {fp fp1 : List Addr} {H H1 H2 : Hp} (a : Frm fp H H1) (b : Frm fp1 H1 H2) (n : Nw fp fp1 H) : Frm fp H H2 := fun c o h hc => b c o (a c o h hc) fun z => by
  rcases n c z with q | q
  · exact hc q
  · rw [q] at h; cases h
theorem Nw.refl (fp : List Addr) (H : Hp) : Nw fp fp H := fun _ h => .inl h
theorem Frm.free {fp : List Addr} {H H' : Hp} (a : Frm fp H H') {b : Addr} (hb : b ∉ fp) (h : H' b = none) : H b = none := by
  cases q : H b with
  | none => rfl
  | some o =>
    rw [a b o q hb] at h
    cases h
theorem Nw.trans {fp fp1 fp2 : List Addr} {H H1 : Hp} (a : Nw fp fp1 H) (b : Nw fp1 fp2 H1) (s : Frm fp H H1) : Nw fp fp2 H := fun c hc => by
  rcases b c hc with q | q
  · exact a c q
  · by_cases hf : c ∈ fp
    · exact .inl hf
    · exact .inr (s.free hf q)
theorem frm_upd {fp : List Addr} {H : Hp} {a : Addr} {o : HO} (h : a ∈ fp) : Frm fp H (upd H a o) := fun b u e hb => by
  rw [upd_ne (fun z => hb (by rw [z]; exact h))]
  exact e
theorem same_new {H : Hp} {p : Addr} {o : HO} (h : H p = none) : Same H (upd H p o) := fun b u e => by
  rw [upd_ne (ne_of_none e h)]
  exact e
theorem Frm.nil {H H' : Hp} (a : Frm [] H H') : Same H H' := fun b o h => a b o h (by simp)

end Sw
/-! SwR -/
namespace Sw
set_option Elab.async false
set_option linter.all false
set_option maxRecDepth 100000
set_option maxHeartbeats 4000000
open PySem PySem.Spec PyProof.Rows L2
/-! ### zip of a text and a tuple -/
def ItzS (K : PySem.W.Frag) (x : Str) (b : Addr) (ys : List V) : It :=
  ⟨fun i H => SqT K H b ys ∧ i < min x.cps.size ys.length,
    fun i H v H' => ∃ T c y, v = .ref T ∧ H T = none ∧ H' = upd H T (.tup [.str ⟨#[c]⟩, y]) ∧ x.cps[i]? = some c ∧ ys[i]? = some y,
    fun i H => SqT K H b ys ∧ i = min x.cps.size ys.length⟩
theorem turn_zipST {P : Program} {w : World} {K : PySem.W.Frag} {elts : List Expr} {kk : Nat} {tpos : Pos} {x : Str} {t : Tok} {b z TI TO i1 i2 : Addr} {ys : List V} (S : ZipSep2 z TI TO i1 i2 [i1] [i2, b]) :
    Turn P w K (.Tuple elts kk tpos) (ItzS K x b ys) [z, TI, TO, i1, i2] z (fun i h => IsZip h z TI TO .none ∧ IsTupOf2 h TI (.ref i1) (.ref i2) ∧ (∃ a1 a2, IsTupOf2 h TO a1 a2) ∧ h.IsStrIter i1 (strIterType x) x t i ∧ h.IsTupleIter i2 b i) where
  mem := by simp
  obj := fun i h st c hc => by
    obtain ⟨hz, hTI, ⟨a1, a2, hTO⟩, ⟨o1, e1, _, d1⟩, ⟨o2, e2, _, d2⟩⟩ := st
    simp only [List.mem_cons, List.not_mem_nil, or_false] at hc
    rcases hc with q | q | q | q | q
    · subst q; exact ⟨_, hz, fun v e => nomatch e⟩
    · subst q; exact ⟨_, hTI, fun v e => nomatch e⟩
    · subst q; exact ⟨_, hTO, fun v e => nomatch e⟩
    · exact ⟨o1, by rw [q]; exact e1, fun v z => by rw [d1] at z; cases z⟩
    · exact ⟨o2, by rw [q]; exact e2, fun v z => by rw [d2] at z; cases z⟩
  keep := fun i h h' st k => by
    obtain ⟨hz, hTI, ⟨a1, a2, hTO⟩, ⟨o1, e1, r1⟩, h2⟩ := st
    exact ⟨k z (by simp) _ hz, k TI (by simp) _ hTI, ⟨a1, a2, k TO (by simp) _ hTO⟩, ⟨o1, k i1 (by simp) _ e1, r1⟩, h2.at fun o q => k i2 (by simp) o q⟩
  item := by
    intro X hP hw hK hc i pins s σ H E I hf st hg
    subst hP hw hK
    obtain ⟨hz, hTI, ⟨a1, a2, hTO⟩, h1, h2⟩ := st
    obtain ⟨hq, hi⟩ := hg
    obtain ⟨its, rv, p, _⟩ := I.tuple hq
    have hl := rv.length
    have hh : X.A.in1.handled = none := I.ok.hd hc
    have hne : b ≠ i2 := fun e => by
      have := S.mem2
      obtain ⟨o2, e2, c2, _⟩ := id h2
      obtain ⟨o3, e3, c3, _⟩ := id p
      rw [e, e2] at e3
      cases e3
      rw [c3] at c2
      exact absurd c2 (by decide)
    have hin : i < min x.cps.size its.toArray.size := by
      have e : its.toArray.size = ys.length := by rw [List.size_toArray]; exact hl.symm
      rw [e]; exact hi
    refine (GoesN.zip2 (A := X.A) (elts := elts) (x1 := kk) (pos := tpos) S (Draws.text hh i1 x t) (Draws.tuple hh i2 b hne its.toArray)).goes i s
      (fun u s2 => ∃ y H', Inv X pins σ H' s2 ∧ RelV y u ∧ (ItzS X.K x b ys).yld i H y H' ∧ (IsZip s2.heap z TI TO .none ∧ IsTupOf2 s2.heap TI (.ref i1) (.ref i2) ∧ (∃ a1 a2, IsTupOf2 s2.heap TO a1 a2) ∧ s2.heap.IsStrIter i1 (strIterType x) x t (i + 1) ∧ s2.heap.IsTupleIter i2 b (i + 1)) ∧ ∀ c ∈ [z, TI, TO, i1, i2], H' c = none)
      E hin ⟨hz, hTI, ⟨a1, a2, hTO⟩, h1, h2, p⟩ fun v h' tk y st' hk htk => ?_
    obtain ⟨T, u1, u2, rfl, hT, ⟨c, tc, hcx, rfl⟩, hu2, hTt⟩ := y
    obtain ⟨z', TI', TO', h1', h2', _⟩ := st'
    have hu2' : its[i]? = some u2 := by simpa using hu2
    have hiy : i < ys.length := by omega
    obtain ⟨y2, hy2⟩ : ∃ y2, ys[i]? = some y2 := ⟨ys[i], List.getElem?_eq_getElem hiy⟩
    obtain ⟨u3, hu3, r3⟩ := rv.get hy2
    rw [hu2'] at hu3
    cases hu3
    have new : ObjOk X.prog X.w (upd H T (.tup [.str ⟨#[c]⟩, y2])) h' T (.tup [.str ⟨#[c]⟩, y2]) :=
      ⟨by show 2 ≤ sizeLine; decide, [.str ⟨#[c]⟩ tc, u2], .cons ⟨tc, rfl⟩ (.cons r3 .nil), hTt⟩
    have I1 : Inv X pins σ (upd H T (.tup [.str ⟨#[c]⟩, y2])) { s with heap := h', toks := tk } :=
      I.turnedNew (t' := tk) (ch := [z, TI, TO, i1, i2]) (fun d o hb q => hk d o (fun m => hb (by
        simp only [List.mem_cons, List.not_mem_nil, or_false] at m ⊢
        rcases m with m | m | m | m
        · exact .inl m
        · exact .inr (.inr (.inl m))
        · exact .inr (.inr (.inr (.inl m)))
        · exact .inr (.inr (.inr (.inr m))))) q) hf hT new
    refine ⟨.ref T, _, I1, rfl, ⟨T, c, y2, rfl, I.hok.fresh hT, rfl, hcx, hy2⟩, ⟨z', TI', TO', h1', h2'⟩, fun d hd => ?_⟩
    have hlt : d < s.heap.objs.size := by
      simp only [List.mem_cons, List.not_mem_nil, or_false] at hd
      rcases hd with q | q | q | q | q
      · rw [q]; exact Heap.lt_size hz
      · rw [q]; exact Heap.lt_size hTI
      · rw [q]; exact Heap.lt_size hTO
      · rw [q]; obtain ⟨_, e1, _⟩ := h1; exact Heap.lt_size e1
      · rw [q]; obtain ⟨_, e2, _⟩ := h2; exact Heap.lt_size e2
    rw [upd_ne (Nat.ne_of_lt (Nat.lt_of_lt_of_le hlt hT))]
    exact (hf d hd).1
  done := by
    intro X hP hw hK hc i pins s σ H E I hf st hg
    subst hP hw hK
    obtain ⟨hz, hTI, ⟨a1, a2, hTO⟩, h1, h2⟩ := st
    obtain ⟨hq, hi⟩ := hg
    obtain ⟨its, rv, p, _⟩ := I.tuple hq
    have hl := rv.length
    have hh : X.A.in1.handled = none := I.ok.hd hc
    have hne : b ≠ i2 := fun e => by
      obtain ⟨o2, e2, c2, _⟩ := id h2
      obtain ⟨o3, e3, c3, _⟩ := id p
      rw [e, e2] at e3
      cases e3
      rw [c3] at c2
      exact absurd c2 (by decide)
    have hn : i = min x.cps.size its.toArray.size := by
      have e : its.toArray.size = ys.length := by rw [List.size_toArray]; exact hl.symm
      rw [e]; exact hi
    subst hn
    refine (GoesN.zip2 (A := X.A) (elts := elts) (x1 := kk) (pos := tpos) S (Draws.text hh i1 x t) (Draws.tuple hh i2 b hne its.toArray)).stops s (fun s1 => Inv X pins σ H s1) E ⟨hz, hTI, ⟨a1, a2, hTO⟩, h1, h2, p⟩ fun h' tk hk htk => ?_
    exact I.turnedL (t' := tk) (ch := [z, TI, TO, i1, i2]) (fun d o hb q => hk d o (fun m => hb (by
        simp only [List.mem_cons, List.not_mem_nil, or_false] at m ⊢
        rcases m with m | m | m | m
        · exact .inl m
        · exact .inr (.inr (.inl m))
        · exact .inr (.inr (.inr (.inl m)))
        · exact .inr (.inr (.inr (.inr m))))) q) hf
  self := fun A i s Q E st h => wpAny_pyIter_zip st.1 h
def iZipST (K : PySem.W.Frag) (ta : TA) : TI := fun σ H R => ta σ H fun vs H1 => ∃ x b ys, vs = [.str x, .ref b] ∧ SqT K H1 b ys ∧ R (ItzS K x b ys) H1
theorem pi_zipST {X : Cx} {e e2 : Expr} {ta : TA} {p pos tpos : Pos} {elts : List Expr} {kk : Nat} (hg : Gl X "zip") (hm : X.mg "zip" = none) (ha : PA X [e, e2] ta)
    (hs : starEach [e, e2] X.env = (false, eval e X.env) :: starEach [e2] X.env := by rfl) (hpl : (backTo pos (starEach [e2] X.env)).any (·.1) = false := by rfl) :
    PI X (.Tuple elts kk tpos) (.Call (.Name "zip" p) [e, e2] [] pos) (iZipST X.K ta) := by
  refine ⟨fun pins s σ H R I h => ?_⟩
  refine Call_ (ld_blt I hg hm PyProof.Rows.boot_zip (PyProof.Rows.callWith_type1 (thn (ha.run pos pins s σ H _ I h) fun us s1 ⟨vs, H1, I1, r1, q1⟩ => ?_) hs hpl))
  obtain ⟨x, b, ys, rfl, hq, q⟩ := q1
  obtain ⟨u1, u2, rfl, r1, r2⟩ := vals2 r1
  obtain ⟨t, rfl⟩ := (show ∃ t, u1 = Value.str x t from r1)
  obtain rfl : u2 = Value.ref b := r2
  obtain ⟨its, rv, p1, _⟩ := I1.tuple hq
  refine zip_begins2 (begins_text x t) (begins_tuple b its.toArray) trivial (show s1.heap.IsTuple b its.toArray from p1) fun h' hz hTI hTO h1 h2 hsz hk => wpAny_pyIter_zip hz ?_
  have hb : b < s1.heap.objs.size := by obtain ⟨o, ho, _⟩ := p1; exact Heap.lt_size ho
  have S : ZipSep2 (s1.heap.objs.size + 4) (s1.heap.objs.size + 2) (s1.heap.objs.size + 3) s1.heap.objs.size (s1.heap.objs.size + 1) [s1.heap.objs.size] [s1.heap.objs.size + 1, b] :=
    zip_sep2 (fp1 := []) (fp2 := [b]) (by simp) (by simpa using hb)
  have fresh5 : ∀ c, c ∈ [s1.heap.objs.size + 4, s1.heap.objs.size + 2, s1.heap.objs.size + 3, s1.heap.objs.size, s1.heap.objs.size + 1] → FpOk X pins H1 c := fun c hcm => by
    have hle : s1.heap.objs.size ≤ c := by
      simp only [List.mem_cons, List.not_mem_nil, or_false] at hcm
      rcases hcm with z | z | z | z | z <;> (rw [z]; first | exact Nat.le_add_right _ _ | exact Nat.le_refl _)
    exact I1.fpOk hle (I1.hok.fresh hle)
  have I2 : Inv X pins σ H1 { s1 with heap := h' } := I1.kept (t' := s1.toks) hk
  exact ⟨s1.heap.objs.size + 4, [s1.heap.objs.size + 4, s1.heap.objs.size + 2, s1.heap.objs.size + 3, s1.heap.objs.size, s1.heap.objs.size + 1], _, _, H1, rfl, I2, turn_zipST (t := t) S, ⟨hz, hTI, ⟨_, _, hTO⟩, ⟨_, h1, rfl, rfl⟩, ⟨_, h2, rfl, rfl⟩⟩, fresh5, q⟩
theorem walk_zipST {K : PySem.W.Frag} {x : Str} {b : Addr} {ys : List V} : Walk (ItzS K x b ys) (min x.cps.size ys.length) (fun H => SqT K H b ys) (fun i H v H' => ∃ T c y, v = .ref T ∧ H T = none ∧ H' = upd H T (.tup [.str ⟨#[c]⟩, y]) ∧ x.cps[i]? = some c ∧ ys[i]? = some y) :=
  ⟨fun _ _ hi q => ⟨q, hi⟩, fun _ q => ⟨q, rfl⟩, fun _ _ _ _ _ _ y => y⟩

end Sw
/-! SwR2 -/
namespace Sw
set_option Elab.async false
set_option linter.all false
set_option maxRecDepth 100000
set_option maxHeartbeats 4000000
open PySem PySem.Spec PyProof.Rows L2
/-! ### d.update(list of pairs), d.values(), sum of such a view -/
section
variable {X : Cx}
theorem pairs2 {pins : List (Addr × Obj)} {σ : L2.St} {H : Hp} {s : Shared} (I : Inv X pins σ H s) : ∀ {ps : List Addr} {kvs : List (Key × V)}, Paired (fun p kv => H p = some (.tup [kV kv.1, kv.2])) ps kvs →
    ∃ vv : List (Value × Value), vv.length = ps.length ∧ Paired (fun kv uv => keyIs kv.1 uv.1 = true ∧ RelV kv.2 uv.2) kvs vv ∧ ∀ (j : Nat) (uv : Value × Value), vv[j]? = some uv → ∃ b, ps[j]? = some b ∧ s.heap.IsTuple b #[uv.1, uv.2]
  | _, _, .nil => ⟨[], rfl, .nil, fun j q e => by simp at e⟩
  | _, _, .cons (a := p) (b := kv) h t => by
    obtain ⟨vv, hl, hp, hq⟩ := pairs2 I t
    obtain ⟨_, its, rv, ht⟩ := (show ObjOk X.prog X.w H s.heap p (.tup [kV kv.1, kv.2]) from I.hok p _ h)
    obtain ⟨u, y, rfl, ru, ry⟩ := vals2 rv
    refine ⟨(u, y) :: vv, by rw [List.length_cons, List.length_cons, hl], .cons ⟨kV_is (P := X.prog) (w := X.w) ru, ry⟩ hp, fun j q e => ?_⟩
    cases j with
    | zero =>
      have e' : (u, y) = q := Option.some.inj e
      subst e'
      exact ⟨p, rfl, ht⟩
    | succ j =>
      obtain ⟨b, e1, e2⟩ := hq j q (by simpa using e)
      exact ⟨b, by simpa using e1, e2⟩
theorem kv_of : ∀ {kvs : List (Key × V)} {vv : List (Value × Value)}, Paired (fun kv uv => keyIs kv.1 uv.1 = true ∧ RelV kv.2 uv.2) kvs vv →
    ∃ prs : List (Key × Value), KV kvs prs ∧ prs.length = vv.length ∧ ∀ (i : Nat) (a b : Value), vv[i]? = some (a, b) → ∃ k, prs[i]? = some (k, b) ∧ keyIs k a = true
  | _, _, .nil => ⟨[], .nil, rfl, fun i a b e => by simp at e⟩
  | _, _, .cons (a := kv) (b := uv) h t => by
    obtain ⟨prs, r, hl, hp⟩ := kv_of t
    refine ⟨(kv.1, uv.2) :: prs, .cons ⟨rfl, h.2⟩ r, by rw [List.length_cons, List.length_cons, hl], fun i a b e => ?_⟩
    cases i with
    | zero =>
      have e' : uv = (a, b) := Option.some.inj e
      subst e'
      exact ⟨kv.1, rfl, h.1⟩
    | succ i =>
      obtain ⟨k, e1, e2⟩ := hp i a b (by simpa using e)
      exact ⟨k, by simpa using e1, e2⟩
def rDUpd : V → List V → Hp → VK → Prop := fun x vs H Q => ∃ (d a : Addr) (ps : List Addr) (kvs acc : List (Key × V)), x = .ref d ∧ vs = [.ref a] ∧ H d = some (.dK acc) ∧ H a = some (.lst (ps.map V.ref)) ∧
  Paired (fun p kv => H p = some (.tup [kV kv.1, kv.2])) ps kvs ∧ acc.length + kvs.length ≤ sizeLine ∧ Q .non (upd H d (.dK (mergeK acc kvs)))
theorem mt_dupd (hc : X.calm = true) : MtR X "dict.update" rDUpd := by
  intro pins s σ H x xs v us Q I rx r h
  obtain ⟨d, a, ps, kvs, acc, rfl, rfl, hd, ha, hp, hz, q⟩ := h
  obtain rfl : v = Value.ref d := rx
  obtain ⟨u, rfl, ru⟩ := vals1 r
  obtain rfl : u = Value.ref a := ru
  obtain ⟨_, its, n, rv, ho⟩ := (show ObjOk X.prog X.w H s.heap a (.lst (ps.map V.ref)) from I.hok a _ ha)
  have ei := refs_at rv
  subst ei
  obtain ⟨vv, hl, pk, hq⟩ := pairs2 I hp
  obtain ⟨prs, rel, hlp, hpr⟩ := kv_of pk
  obtain ⟨za, hds, vs, rela, dd⟩ := dk_of I.hok hd
  have hlk : kvs.length = vv.length := Paired.length pk
  have dT : ∀ p ∈ ps, p ≠ d := fun p hp' e => by
    obtain ⟨i, hi, rfl⟩ := List.mem_iff_getElem.mp hp'
    obtain ⟨kv, _, hT⟩ := Paired.at1 hp (List.getElem?_eq_getElem hi)
    rw [e, hd] at hT
    cases hT
  refine call_update_pairs (knd := mixKind X.prog X.w) (kvs := prs) (acc := vs) (PairArg.list a (ps.map Value.ref).toArray (fun j => ps.getD j 0) vv) (I.ok.hd hc) ⟨⟨_, n, ho, rfl, rfl, rfl⟩, ?_, fun j k w' e => ?_⟩ ?_ ⟨by rw [hlp], fun i a b e => ?_⟩ dd (by rw [← rela.length, ← hlk]; exact hz) fun h' tk hd' hk => ?_
  · simp [hl]
  · obtain ⟨b, e1, e2⟩ := hq j (k, w') e
    have eb : ps.getD j 0 = b := by rw [List.getD_eq_getElem?_getD, e1]; rfl
    show (List.map Value.ref ps).toArray[j]? = some (Value.ref (ps.getD j 0)) ∧ PairAt s.heap (ps.getD j 0) k w'
    rw [eb]
    exact ⟨by simp [e1], .inl e2⟩
  · intro hm
    rcases List.mem_cons.mp hm with e | hm
    · rw [e, ha] at hd
      cases hd
    · obtain ⟨j, hj, e⟩ := List.mem_map.mp hm
      have hj' : j < ps.length := by rw [← hl]; exact List.mem_range.mp hj
      refine dT (ps.getD j 0) ?_ e
      rw [List.getD_eq_getElem?_getD, List.getElem?_eq_getElem hj']
      exact List.getElem_mem hj'
  · exact hpr i a b e
  · have hlen : (mergeK acc kvs).length ≤ sizeLine := Nat.le_trans (length_mergeK kvs acc) hz
    have hgot : ∃ o, h'.get? d = some o := by obtain ⟨o, _, _, e, _⟩ := hd'; exact ⟨o, e⟩
    exact ⟨.non, _, I.write (x := d) (e := d) (t' := tk) (by rw [hd]; trivial) (.inl rfl) (fun b o hb e => hk b o hb (by simp) e) hgot (dk_new hlen hds (KV.merge rel rela) hd'), rfl, q⟩
/-- a view of the values of the dict at d -/
def VwO (v d : Addr) : HO := .ext fun h => h.IsValuesView v d
theorem mt_values : MtR X "dict.values" (fun x vs H Q => ∃ d kvs, x = .ref d ∧ vs = [] ∧ H d = some (.dK kvs) ∧ ∀ v, H v = none → Q (.ref v) (upd H v (VwO v d))) := by
  intro pins s σ H x xs v us Q I rx r h
  obtain ⟨d, kvs, rfl, rfl, hd, q⟩ := h
  obtain rfl : v = Value.ref d := rx
  cases r
  obtain ⟨za, hds, vs, rela, dd⟩ := dk_of I.hok hd
  have ok : ObjOk X.prog X.w (upd H s.heap.objs.size (VwO s.heap.objs.size d)) (s.heap.push { cls := .type "dict_values", data := .fields #[.ref d] }) s.heap.objs.size (VwO s.heap.objs.size d) :=
    ⟨⟨_, Heap.get?_push_size _ rfl, rfl, rfl⟩, ⟨_, Heap.get?_push_size _ rfl⟩, fun h1 h2 ⟨o, e, r⟩ k => ⟨o, k o e, r⟩⟩
  have I2 := I.laid (t' := s.toks) (h' := s.heap.push { cls := .type "dict_values", data := .fields #[.ref d] }) (fun b o e => Heap.get?_push_of_some _ e) (Nat.le_refl _) ok
  exact call_meetsIn PySem.F.slot_dict_values dd.typeIs PySem.F.entry_dict_values (PySem.F.args_dict_values_1 _) (meets_dict_values (mixKind X.prog X.w) d hds) ⟨⟨vs, dd⟩, ⟨.ref s.heap.objs.size, _, I2, rfl, q _ (I.hok.fresh (Nat.le_refl _))⟩⟩
theorem preSum_all : ∀ (ns : List Int) (k : Nat), k ≤ ns.length → preSum (fun i => ns.getD i 0) k = (ns.take k).sum
  | ns, 0, _ => by simp [preSum]
  | ns, k + 1, h => by
    have hk : k < ns.length := h
    rw [preSum, preSum_all ns k (Nat.le_of_lt hk), List.take_add_one, List.sum_append, List.getD_eq_getElem?_getD, List.getElem?_eq_getElem hk]
    simp
theorem call_sumV (hc : X.calm = true) : CallR X (.builtin "sum") (fun xs H Q => ∃ (v d : Addr) (kvs : List (Key × V)) (ns : List Int), xs = [.ref v] ∧ H v = some (VwO v d) ∧ H d = some (.dK kvs) ∧ kvs.map (·.2) = ns.map V.int ∧ Q (.int ns.sum) H) := by
  intro pins s σ H xs us Q I r h
  obtain ⟨v, d, kvs, ns, rfl, hv, hd, hn, q⟩ := h
  obtain ⟨u, rfl, ru⟩ := vals1 r
  obtain rfl : u = Value.ref v := ru
  obtain ⟨za, hds, vs, rela, dd⟩ := dk_of I.hok hd
  obtain ⟨vw, _, _⟩ := (show ObjOk X.prog X.w H s.heap v (VwO v d) from I.hok v _ hv)
  obtain ⟨es, ep, raw, hsz, hes⟩ := PySem.Heap.DictOf.raw (knd := mixKind X.prog X.w) dd
  have K := PySem.KdlSrc.rawValues (prog := X.prog) (w := X.w) (r := v) (d := d) (es := es) (ep := ep)
  have hok : s.heap.IsValuesView v d ∧ s.heap.DictRaw d es ep := ⟨vw, raw⟩
  have hlen : es.size = ns.length := by
    rw [hsz, ← rela.length, ← List.length_map (f := (·.2)), hn, List.length_map]
  refine call_sum_walkAnyS ?_
  obtain ⟨oI, St, hit, W, st⟩ := K.iter X.A.in1 s (I.ok.hd hc) hok
  refine hit _ _ ⟨s.heap.objs.size, _, _, _, es.size, _, _, fun i => ns.getD i 0, rfl, W.toS, st, fun b hb => ?_, fun i u hu => ?_, fun s' t' hm => ?_⟩
  · show b < (s.heap.push oI).objs.size
    rw [Heap.size_push]
    rcases List.mem_cons.mp hb with e | hb
    · rw [e]; exact Nat.lt_succ_self _
    · rw [List.mem_singleton.mp hb]; exact Nat.lt_succ_of_lt (K.there _ hok).2
  · obtain ⟨hi, rfl⟩ := hu
    have hik : i < kvs.length := by rw [rela.length, ← hsz]; exact hi
    obtain ⟨q2, e2, ek, rk⟩ := Paired.at1 (show Paired (fun (p : Key × V) (q : Key × Value) => p.1 = q.1 ∧ RelV p.2 q.2) kvs vs from rela) (List.getElem?_eq_getElem hik)
    have e3 := (hes i hi q2.1 q2.2 e2).2
    have e4 : (kvs.map (·.2))[i]? = some kvs[i].2 := by rw [List.getElem?_map, List.getElem?_eq_getElem hik]; rfl
    rw [hn, List.getElem?_map] at e4
    cases e5 : ns[i]? with
    | none => rw [e5] at e4; cases e4
    | some z =>
      rw [e5] at e4
      have e6 : V.int z = kvs[i].2 := Option.some.inj e4
      rw [← e6] at rk
      obtain ⟨t, et⟩ := rk
      refine ⟨t, ?_⟩
      show es[i].val = Value.int (ns.getD i 0) t
      rw [List.getD_eq_getElem?_getD, e5, e3, et]
      rfl
  · have hk : ∀ b o, s.heap.get? b = some o → s'.heap.get? b = some o := fun b o e =>
      hm.heap b o (fun hI => absurd (Heap.lt_size e) (by rw [List.mem_singleton.mp hI]; exact Nat.lt_irrefl _)) (Heap.get?_push_of_some _ e)
    rw [Moved.eq_with hm, hlen, preSum_all ns ns.length (Nat.le_refl _), List.take_length]
    exact ⟨.int ns.sum, H, I.kept (t' := s'.toks) hk, ⟨t', rfl⟩, q⟩
end

end Sw
/-! SwR3 -/
namespace Sw
set_option Elab.async false
set_option linter.all false
set_option maxRecDepth 100000
set_option maxHeartbeats 4000000
open PySem PySem.Spec PyProof.Rows L2
/-! ### enumerate(tuple) -/
def IteT (K : PySem.W.Frag) (a : Addr) (ys : List V) : It :=
  ⟨fun i H => SqT K H a ys ∧ i < ys.length, fun i H v H' => ∃ T x, v = .ref T ∧ H T = none ∧ H' = upd H T (.tup [.int (i : Nat), x]) ∧ ys[i]? = some x, fun i H => SqT K H a ys ∧ i = ys.length⟩
theorem turn_enumT {P : Program} {w : World} {K : PySem.W.Frag} {elts : List Expr} {kk : Nat} {tpos : Pos} {ys : List V} (a e it : Addr) :
    Turn P w K (.Tuple elts kk tpos) (IteT K a ys) [e, it] e (fun i h => (∃ old, IsEnum h e it ((i : Nat) : Int) old) ∧ h.IsTupleIter it a i ∧ e ≠ it ∧ e ≠ a) where
  mem := by simp
  obj := fun i h st b hb => by
    obtain ⟨⟨old, he⟩, ⟨o, ho, hc, hd⟩, _⟩ := st
    have e' : b = e ∨ b = it := by simpa using hb
    rcases e' with z | z
    · rw [z]; exact ⟨_, he, fun v q => nomatch q⟩
    · rw [z]; exact ⟨o, ho, fun v q => by rw [hd] at q; cases q⟩
  keep := fun i h h' st k => let ⟨⟨old, he⟩, hi, hne⟩ := st; ⟨⟨old, k e (by simp) _ he⟩, hi.at fun o q => k it (by simp) o q, hne⟩
  item := by
    intro X hP hw hK hc i pins s σ H E I hf st hg
    subst hP hw hK
    obtain ⟨⟨old, he⟩, h2, hne, hea⟩ := st
    obtain ⟨hq, hi⟩ := hg
    obtain ⟨its, rv, p, _⟩ := I.tuple hq
    have hl := rv.length
    have hh : X.A.in1.handled = none := I.ok.hd hc
    have hai : a ≠ it := fun e => by
      obtain ⟨o2, e2, c2, _⟩ := id h2
      obtain ⟨o3, e3, c3, _⟩ := id p
      rw [e, e2] at e3
      cases e3
      rw [c3] at c2
      exact absurd c2 (by decide)
    have hin : i < its.toArray.size := by rw [List.size_toArray, ← hl]; exact hi
    refine (GoesN.enumFrom (A := X.A) (elts := elts) (x1 := kk) (pos := tpos) 0 (Draws.tuple hh it a hai its.toArray) e hne (by simp [hne, hea]) (by simp)).goes i s
      (fun u s2 => ∃ y H', Inv X pins σ H' s2 ∧ RelV y u ∧ (IteT X.K a ys).yld i H y H' ∧ ((∃ old, IsEnum s2.heap e it ((i + 1 : Nat) : Int) old) ∧ s2.heap.IsTupleIter it a (i + 1) ∧ e ≠ it ∧ e ≠ a) ∧ ∀ c ∈ [e, it], H' c = none)
      E hin ⟨⟨old, by rw [Int.zero_add]; exact he⟩, h2, p⟩ fun v h' tk y st' hk htk => ?_
    obtain ⟨T, t, u2, rfl, hT, hu2, hTt⟩ := y
    obtain ⟨⟨old', he'⟩, h2', _⟩ := st'
    have hu2' : its[i]? = some u2 := by simpa using hu2
    obtain ⟨y2, hy2⟩ : ∃ y2, ys[i]? = some y2 := ⟨ys[i], List.getElem?_eq_getElem hi⟩
    obtain ⟨u3, hu3, r3⟩ := rv.get hy2
    rw [hu2'] at hu3
    cases hu3
    rw [Int.zero_add] at hTt he'
    have new : ObjOk X.prog X.w (upd H T (.tup [.int (i : Nat), y2])) h' T (.tup [.int (i : Nat), y2]) :=
      ⟨by show 2 ≤ sizeLine; decide, [.int i t, u2], .cons ⟨t, rfl⟩ (.cons r3 .nil), hTt⟩
    have I1 : Inv X pins σ (upd H T (.tup [.int (i : Nat), y2])) { s with heap := h', toks := tk } :=
      I.turnedNew (t' := tk) (ch := [e, it]) (fun d o hb q => hk d o hb q) hf hT new
    refine ⟨.ref T, _, I1, rfl, ⟨T, y2, rfl, I.hok.fresh hT, rfl, hy2⟩, ⟨⟨old', he'⟩, h2', hne, hea⟩, fun d hd => ?_⟩
    have hlt : d < s.heap.objs.size := by
      simp only [List.mem_cons, List.not_mem_nil, or_false] at hd
      rcases hd with q | q
      · rw [q]; exact Heap.lt_size he
      · rw [q]; obtain ⟨_, e2, _⟩ := h2; exact Heap.lt_size e2
    rw [upd_ne (Nat.ne_of_lt (Nat.lt_of_lt_of_le hlt hT))]
    exact (hf d hd).1
  done := by
    intro X hP hw hK hc i pins s σ H E I hf st hg
    subst hP hw hK
    obtain ⟨⟨old, he⟩, h2, hne, hea⟩ := st
    obtain ⟨hq, hi⟩ := hg
    obtain ⟨its, rv, p, _⟩ := I.tuple hq
    have hl := rv.length
    have hh : X.A.in1.handled = none := I.ok.hd hc
    have hai : a ≠ it := fun e => by
      obtain ⟨o2, e2, c2, _⟩ := id h2
      obtain ⟨o3, e3, c3, _⟩ := id p
      rw [e, e2] at e3
      cases e3
      rw [c3] at c2
      exact absurd c2 (by decide)
    have hn : i = its.toArray.size := by rw [List.size_toArray, ← hl]; exact hi
    subst hn
    refine (GoesN.enumFrom (A := X.A) (elts := elts) (x1 := kk) (pos := tpos) 0 (Draws.tuple hh it a hai its.toArray) e hne (by simp [hne, hea]) (by simp)).stops s (fun s1 => Inv X pins σ H s1) E ⟨⟨old, by rw [Int.zero_add]; exact he⟩, h2, p⟩ fun h' tk hk htk => ?_
    exact I.turnedL (t' := tk) (ch := [e, it]) (fun d o hb q => hk d o hb q) hf
  self := fun A i s Q E st h => let ⟨⟨_, he⟩, _⟩ := st; wpAny_pyIter_enum he h
set_option maxHeartbeats 1000000 in
theorem meets_enumerate_new1 {v : Value} {o : Obj} {H : Heap → Prop} (B : Begins v o H) (hv : ∀ c, v ≠ .type c) :
    Meets (Builtin.«enumerate.__new__» ⟨[.type "enumerate", v], []⟩) (fun _ R s => H s.heap ∧
      R (.ok (.ret (.ref (s.heap.push o).objs.size))) { s with heap := (s.heap.push o).push { cls := .type "enumerate", data := .fields #[.none, .bool false, .ref s.heap.objs.size, rawInt 0, .none, .none] } }) :=
  .of_wp fun prog w A R s h => by
    obtain ⟨hp, g, d, tk, os⟩ := s; obtain ⟨h1, h⟩ := h
    have hsub := sub_enumerate
    have q1 : ∀ {A' : Around} {E : Value → Shared → Prop} {Q : Value → Shared → Prop}, Q (.ref hp.objs.size) ⟨hp.push o, g, d, tk, os⟩ → wpAny (model prog w) A' (pyIter v) Q E ⟨hp, g, d, tk, os⟩ :=
      fun q => B.iter prog w _ _ ⟨hp, g, d, tk, os⟩ _ h1 q
    wp_walk using q1
    refine wpAny_stack_any fun st => wpAny_pure ?_
    split
    · rename_i c _ _ _ _ _
      cases (c == Value.type "enumerate")
      · wp_walk using q1
        exact ⟨_, rfl, h⟩
      · wp_walk using q1
        exact ⟨_, rfl, h⟩
    · wp_walk using q1
      exact ⟨_, rfl, h⟩
theorem call_enumerate_tuple {prog : Program} {w : World} {A : Around} {E : Value → Shared → Prop} {s : Shared} {l : Addr} {items : Array Value} {Q : Value → Shared → Prop} (hL : s.heap.IsTuple l items)
    (h : ∀ h', IsEnum h' (s.heap.objs.size + 1) s.heap.objs.size 0 .none → h'.IsTupleIter s.heap.objs.size l 0 → h'.objs.size = s.heap.objs.size + 2 →
      (∀ b o, s.heap.get? b = some o → h'.get? b = some o) → Q (.ref (s.heap.objs.size + 1)) { s with heap := h' }) :
    wpAny (model prog w) A (call (.type "enumerate") [.ref l]) Q E s := by
  refine callType_new F.called_enumerate (by decide) (F.typeCall_enumerate_1 _) (F.newCall_enumerate_1 _) (fun obj => F.args_object_init_2 obj _) F.entry_enumerate_new
    (meets_enumerate_new1 (begins_tuple l items) (fun c e => nomatch e)) ⟨hL, ?_⟩
  have hz : (s.heap.push { cls := .type "tuple_iterator", data := .fields #[.ref l, .int 0 0] }).objs.size = s.heap.objs.size + 1 := Heap.size_push ..
  show _ ∧ _
  rw [hz]
  have he : IsEnum ((s.heap.push { cls := .type "tuple_iterator", data := .fields #[.ref l, .int 0 0] }).push
      { cls := .type "enumerate", data := .fields #[.none, .bool false, .ref s.heap.objs.size, rawInt 0, .none, .none] }) (s.heap.objs.size + 1) s.heap.objs.size 0 .none := by
    have := Heap.get?_push_size (s.heap.push { cls := .type "tuple_iterator", data := .fields #[.ref l, .int 0 0] })
      (o := { cls := .type "enumerate", data := .fields #[.none, .bool false, .ref s.heap.objs.size, rawInt 0, .none, .none] }) rfl
    rw [hz] at this; exact this
  refine ⟨⟨_, he, rfl⟩, h _ he ⟨_, Heap.get?_push_of_some _ (Heap.get?_push_size _ rfl), rfl, rfl⟩ (by rw [Heap.size_push, hz]) fun b o x => Heap.get?_push_of_some _ (Heap.get?_push_of_some _ x)⟩
def iEnumT (K : PySem.W.Frag) (ta : TA) : TI := fun σ H R => ta σ H fun vs H1 => ∃ a ys, vs = [.ref a] ∧ SqT K H1 a ys ∧ R (IteT K a ys) H1
theorem pi_enumT {X : Cx} {e : Expr} {ta : TA} {p pos tpos : Pos} {elts : List Expr} {kk : Nat} (hg : Gl X "enumerate") (hm : X.mg "enumerate" = none) (ha : PA X [e] ta) (hs : starEach [e] X.env = [(false, eval e X.env)] := by rfl) :
    PI X (.Tuple elts kk tpos) (.Call (.Name "enumerate" p) [e] [] pos) (iEnumT X.K ta) := by
  refine ⟨fun pins s σ H R I h => ?_⟩
  refine Call_ (ld_blt I hg hm boot_enumerate (PyProof.Rows.callWith_type1 (thn (ha.run pos pins s σ H _ I h) fun us s1 ⟨vs, H1, I1, r1, q1⟩ => ?_) hs rfl))
  obtain ⟨a, ys, ex, hq, q⟩ := q1
  subst ex
  obtain ⟨u, rfl, ru⟩ := vals1 r1
  obtain rfl : u = Value.ref a := ru
  obtain ⟨its, rv, p', hz⟩ := I1.tuple hq
  refine call_enumerate_tuple p' fun h' he hit hsz hk => wpAny_pyIter_enum he ?_
  have I2 : Inv X pins σ H1 { s1 with heap := h' } := I1.kept (t' := s1.toks) hk
  have hlt : a < s1.heap.objs.size := by obtain ⟨_, q, _⟩ := p'; exact Heap.lt_size q
  refine ⟨s1.heap.objs.size + 1, [s1.heap.objs.size + 1, s1.heap.objs.size], _, _, H1, rfl, I2, turn_enumT a (s1.heap.objs.size + 1) s1.heap.objs.size, ⟨⟨.none, he⟩, hit, Nat.succ_ne_self _, Nat.ne_of_gt (Nat.lt_succ_of_lt hlt)⟩, fun b hb => ?_, q⟩
  have e' : b = s1.heap.objs.size + 1 ∨ b = s1.heap.objs.size := by simpa using hb
  have hle : s1.heap.objs.size ≤ b := by
    rcases e' with z | z
    · rw [z]; exact Nat.le_add_right _ _
    · rw [z]; exact Nat.le_refl _
  exact I1.fpOk hle (I1.hok.fresh hle)
theorem walk_enumT {K : PySem.W.Frag} {a : Addr} {ys : List V} : Walk (IteT K a ys) ys.length (fun H => SqT K H a ys) (YPair (fun i => some (.int (i : Nat))) (fun i => ys[i]?)) := by
  refine ⟨fun i _ hi q => ⟨q, hi⟩, fun _ q => ⟨q, rfl⟩, fun i H v H' _ q y => ?_⟩
  obtain ⟨T, x, h1, h2, h3, h4⟩ := y
  exact ⟨T, .int (i : Nat), x, h1, h2, h3, rfl, h4⟩

end Sw
/-! SwM1 -/
namespace Sw
set_option Elab.async false
set_option linter.all false
set_option maxRecDepth 100000
set_option maxHeartbeats 4000000
open PySem PySem.Spec PyProof.Rows L2
/-! ### rows, plainly -/
def fmO (op : Str) : Str := (formsL.lookup op).getD ""
/-- the parts of a row of the sort c -/
def parts (r : Rw) (c : Nat) : List Int := (List.range (min (fmO r.1).cps.size r.2.length)).filterMap fun i => if (fmO r.1).cps[i]? = some c then r.2[i]? else none
abbrev rds (r : Rw) : List Int := parts r 114
def sts (r : Rw) : Option Int := (parts r 115).head?
def lds (r : Rw) : Option Int := (parts r 112).head?
/-- a row -/
structure RwOk (r : Rw) : Prop where
  fm : formsL.lookup r.1 = some (fmO r.1)
  len : r.2.length = (fmO r.1).cps.size
  rg : ∀ (i c : Nat) (z : Int), (fmO r.1).cps[i]? = some c → r.2[i]? = some z → 0 ≤ z ∧ ∃ g, greatL.lookup ⟨#[c]⟩ = some g ∧ z ≤ g
structure PgOk (p : List Rw) : Prop where
  lo : 1 ≤ p.length
  hi : p.length ≤ 400
  row : ∀ (i : Nat) (r : Rw), p[i]? = some r → RwOk r
  way : ∀ (i : Nat) (r : Rw) (z : Int), p[i]? = some r → lds r = some z → z < p.length
  last : ∃ r, p[p.length - 1]? = some r ∧ (r.1 = "go" ∨ r.1 = "end")
def isWay (r : Rw) : Bool := waysL.contains r.1
/-- options of ints as values -/
def ov : Option Int → V
  | some z => .int z
  | none => .non
theorem fm_small {x f : Str} (h : formsL.lookup x = some f) : f.cps.size ≤ 6 := by
  have key : ∀ q ∈ formsL, q.2.cps.size ≤ 6 := by decide
  have mem : ∀ {l : List (Str × Str)}, l.lookup x = some f → (x, f) ∈ l := by
    intro l
    induction l with
    | nil => intro h; simp at h
    | cons q l ih =>
      obtain ⟨a, b⟩ := q
      intro h
      rw [List.lookup_cons] at h
      cases e : x == a with
      | true =>
        rw [e] at h
        have := eq_of_beq e
        subst this
        injection h with h
        subst h
        exact .head _
      | false =>
        rw [e] at h
        exact .tail _ (ih h)
  exact key _ (mem h)
theorem RwOk.small {r : Rw} (h : RwOk r) : r.2.length ≤ 6 := by rw [h.len]; exact fm_small h.fm
theorem parts_len {r : Rw} {c : Nat} (h : RwOk r) : (parts r c).length ≤ 6 := by
  refine Nat.le_trans (List.length_filterMap_le _ _) ?_
  rw [List.length_range]
  have := fm_small h.fm
  omega

end Sw
/-! SwC -/
namespace Sw
set_option Elab.async false
set_option linter.all false
set_option maxRecDepth 100000
set_option maxHeartbeats 4000000
open PySem PySem.Spec PyProof.Rows L2
section
variable {w : World} {K : PySem.W.Frag} {mg : Str → Option Value}
theorem tyx_tup {H : Hp} {a : Addr} {xs : List V} (h : SqT K H a xs) : TyX K H (.ref a) (.type "tuple") := by
  rcases h with (h | ⟨o, h⟩) | ⟨o, its, n, h, c, _⟩
  · exact .base (.tup h)
  · exact .fTuple h
  · exact .kTuple h c
theorem mem_lookup : ∀ {l : List (Str × Str)} {x z : Str}, l.lookup x = some z → (x, z) ∈ l
  | [], _, _, h => by simp at h
  | (a, b) :: l, x, z, h => by
    rw [List.lookup_cons] at h
    cases e : x == a with
    | true =>
      rw [e] at h
      have := eq_of_beq e
      subst this
      injection h with h
      subst h
      exact .head _
    | false =>
      rw [e] at h
      exact .tail _ (mem_lookup h)
theorem mem_lookupI : ∀ {l : List (Str × Int)} {x : Str} {z : Int}, l.lookup x = some z → (x, z) ∈ l
  | [], _, _, h => by simp at h
  | (a, b) :: l, x, z, h => by
    rw [List.lookup_cons] at h
    cases e : x == a with
    | true =>
      rw [e] at h
      have := eq_of_beq e
      subst this
      injection h with h
      subst h
      exact .head _
    | false =>
      rw [e] at h
      exact .tail _ (mem_lookupI h)
theorem Tx.kF (T : Tx w K mg) {x f : Str} (h : formsL.lookup x = some f) : KDct K w (He.ga K "FORMS") x (.str f) := by
  obtain ⟨es, n, k⟩ := T.dFORMS
  obtain ⟨u, e, r⟩ := He.valsB_ok T.vFORMS (q := (x, He.Dv.str f)) (List.mem_map.mpr ⟨(x, f), mem_lookup h, rfl⟩)
  exact ⟨es, n, u, k.at_, k.lit, e, r⟩
theorem Tx.kG (T : Tx w K mg) {x : Str} {g : Int} (h : greatL.lookup x = some g) : KDct K w (He.ga K "GREATEST") x (.int g) := by
  obtain ⟨es, n, k⟩ := T.dGREAT
  obtain ⟨u, e, r⟩ := He.valsB_ok T.vGREAT (q := (x, He.Dv.int g)) (List.mem_map.mpr ⟨(x, g), mem_lookupI h, rfl⟩)
  exact ⟨es, n, u, k.at_, k.lit, e, r⟩
theorem Tx.kCo (T : Tx w K mg) {x : Str} {g : Int} (h : copL.lookup x = some g) : KDct K w (He.ga K "COPIES") x (.int g) := by
  obtain ⟨es, n, k⟩ := T.dCOP
  obtain ⟨u, e, r⟩ := He.valsB_ok T.vCOP (q := (x, He.Dv.int g)) (List.mem_map.mpr ⟨(x, g), mem_lookupI h, rfl⟩)
  exact ⟨es, n, u, k.at_, k.lit, e, r⟩
theorem Tx.nF (T : Tx w K mg) {x f : Str} (h : formsL.lookup x = some f) : ∃ u, PySem.W.nsIn K (He.ga K "FORMS") x = some (some u) := by
  obtain ⟨_, _, u, _, _, e, _⟩ := T.kF h
  exact ⟨u, e⟩
theorem Tx.nCo (T : Tx w K mg) {x f : Str} (h : formsL.lookup x = some f) : ∃ r, PySem.W.nsIn K (He.ga K "COPIES") x = some r ∧ r.isSome = (copL.lookup x).isSome := by
  cases e : copL.lookup x with
  | some g =>
    obtain ⟨_, _, u, _, _, e, _⟩ := T.kCo e
    exact ⟨_, e, rfl⟩
  | none =>
    have hm : x ∈ nocopL := by
      have := mem_lookup h
      simp only [formsL, List.mem_cons, List.not_mem_nil, or_false, Prod.mk.injEq] at this
      rcases this with ⟨rfl, _⟩ | ⟨rfl, _⟩ | ⟨rfl, _⟩ | ⟨rfl, _⟩ | ⟨rfl, _⟩ | ⟨rfl, _⟩ | ⟨rfl, _⟩ | ⟨rfl, _⟩ | ⟨rfl, _⟩ | ⟨rfl, _⟩ | ⟨rfl, _⟩ | ⟨rfl, _⟩ | ⟨rfl, _⟩ | ⟨rfl, _⟩ | ⟨rfl, _⟩ | ⟨rfl, _⟩ | ⟨rfl, _⟩ | ⟨rfl, _⟩ | ⟨rfl, _⟩ | ⟨rfl, _⟩ | ⟨rfl, _⟩ | ⟨rfl, _⟩ <;> first | (exact absurd e (by decide)) | decide
    have := List.all_eq_true.mp (show nocopL.all _ = true from T.aCOP) x hm
    refine ⟨none, ?_, rfl⟩
    revert this
    generalize PySem.W.nsIn K (He.ga K "COPIES") x = r
    rcases r with _ | _ | _ <;> intro z <;> first | rfl | (exact absurd z (by simp [He.eqO]))
end
theorem paired_map {α : Type} {f : α → V} : ∀ {l : List V} {m : List α}, Paired (fun v a => v = f a) l m → l = m.map f
  | _, _, .nil => rfl
  | _, _, .cons h t => by rw [h, paired_map t]; rfl
theorem sq_lst {K : PySem.W.Frag} {H : Hp} {a : Addr} {xs : List V} (h : H a = some (.lst xs)) : SqL K H a xs := .inl (.inl h)
theorem sq_tup {K : PySem.W.Frag} {H : Hp} {a : Addr} {xs : List V} (h : H a = some (.tup xs)) : SqT K H a xs := .inl (.inl h)
theorem sq_new {K : PySem.W.Frag} {H : Hp} {a : Addr} {xs : List V} : SqT K (upd H a (.tup xs)) a xs := sq_tup upd_same
/-- a comprehension over all that stays as it was: its list -/
theorem cut1 (x : V) (xs : List V) : cutV (x :: xs) (some 1) none = xs := by
  unfold cutV HT.sIx
  simp
theorem atI0 {α : Type} (x : α) (xs : List α) : atI (x :: xs) 0 = some x := by simp [atI, ixN]
theorem atIn {α : Type} {xs : List α} {i : Int} {x : α} (h0 : 0 ≤ i) (h : xs[i.toNat]? = some x) : atI xs i = some x := by
  have hl : i.toNat < xs.length := by
    rcases Nat.lt_or_ge i.toNat xs.length with h' | h'
    · exact h'
    · rw [List.getElem?_eq_none h'] at h; cases h
  unfold atI ixN
  rw [if_pos h0, if_pos (by omega)]
  simpa using h
abbrev rTupOf (K : PySem.W.Frag) : List V → Hp → VK → Prop := fun xs H Q => ∃ p ys, xs = [.ref p] ∧ ((SqL K H p ys ∧ ∀ l, H l = none → Q (.ref l) (upd H l (.tup ys))) ∨ (SqT K H p ys ∧ Q (.ref p) H))
abbrev rLenS (K : PySem.W.Frag) : List V → Hp → VK → Prop := fun xs H Q => ∃ p ys, xs = [.ref p] ∧ (SqL K H p ys ∨ SqT K H p ys) ∧ Q (.int ys.length) H
abbrev rListOf (K : PySem.W.Frag) : List V → Hp → VK → Prop := fun xs H Q => ∃ p ys, xs = [.ref p] ∧ (SqL K H p ys ∨ SqT K H p ys) ∧ ∀ l, H l = none → Q (.ref l) (upd H l (.lst ys))
theorem lc_all {J : It} {n : Nat} {G : Hp → Prop} {Y : Nat → Hp → V → Hp → Prop} (w : Walk J n G Y) {g : TG} {te : TE} {vs : List Nat} {σ : L2.St} {H1 : Hp} {D : Addr} {Qd : Hp → Prop} {α : Type}
    (ys : Nat → α) (R : V → α → Hp → Prop) (hR : ∀ v a H H', R v a H → Same H H' → R v a H') (hU : ∀ v a H (l : Addr) xs zs, R v a H → H l = some (.lst xs) → R v a (upd H l (.lst zs))) (hn : n ≤ 100000) (hD : H1 D = none) (hG : ∀ H, Same H1 H → G H)
    (hs : ∀ i x H H' (Qe : V → Hp → Prop), i < n → Same H1 H → Y i H x H' → (∀ y H4, Same H H4 → R y (ys i) H4 → Qe y H4) → g x (wipe σ vs) H' fun σ2 H2 => wipe σ2 vs = wipe σ vs ∧ te σ2 H2 Qe)
    (hd : ∀ H acc, Same H1 H → H D = some (.lst acc) → Paired (fun v a => R v a H) acc ((List.range n).map ys) → Qd H) :
    ∃ W : Nat → Nat → Hp → Prop, (∃ m, W 0 m (upd H1 D (.lst []))) ∧ ∀ i m H, W i m H →
      (J.stop i H ∧ Qd H) ∨ (J.go i H ∧ ∃ Nx : Hp → Prop, (∀ H', Nx H' → ∃ m', m' < m ∧ W (i + 1) m' H') ∧ ∀ x H', J.yld i H x H' → g x (wipe σ vs) H' fun σ2 H2 => wipe σ2 vs = wipe σ vs ∧ tYes σ2 H2 fun b H3 =>
        if b = true then te σ2 H3 fun y H4 => ∃ acc, H4 D = some (.lst acc) ∧ acc.length < sizeLine ∧ Nx (upd H4 D (.lst (acc ++ [y]))) else Nx H3) := by
  refine lc_pure w (tt := tYes) (fun i => some (ys i)) R hR hU hn hD hG (fun i x H H' Qe Qn hi s y qe qn => ?_) (fun H acc s hl pr => hd H acc s hl ?_)
  · have := hs i x H H' Qe hi s y fun y4 H4 s4 r4 => qe y4 H4 _ s4 rfl r4
    simpa only [tYes, ↓reduceIte] using this
  · rw [List.filterMap_eq_map'] at pr
    exact pr

end Sw
/-! SwR4 -/
namespace Sw
set_option Elab.async false
set_option linter.all false
set_option maxRecDepth 100000
set_option maxHeartbeats 4000000
open PySem PySem.Spec PyProof.Rows L2
/-! ### set(list) by what its loop does -/
section
variable {P : Program} {w : World} {A : Around} {E : Value → Shared → Prop} {s : Shared}
/-- the new set's object -/
abbrev sObj (w : World) : Obj := { cls := .type "set", dict := none, data := .set #[] 0 (.fresh 0 0 (!w.params.followText "set-order")) }
abbrev sIt (l : Addr) : Obj := { cls := .type "list_iterator", data := .fields #[.ref l, .int 0 0] }
set_option maxHeartbeats 3200000 in
theorem call_set_by {l : Addr} {items : Array Value} {Post : Heap → Tok → Prop} {Q : Value → Shared → Prop} (hl : s.heap.IsList l items)
    (loop : ∀ R : Result → Shared → Prop, (∀ h' tk, Post h' tk → (∀ b o, s.heap.get? b = some o → h'.get? b = some o) → R (.ok (.ret .none)) { s with heap := h', toks := tk }) →
      codeAny (model P w) A.in1.in1 (.builtin "set.update.loop" ⟨[.ref s.heap.objs.size, .ref (s.heap.push (sObj w)).objs.size], []⟩) R { s with heap := (s.heap.push (sObj w)).push (sIt l) })
    (h : ∀ h' tk, Post h' tk → (∀ b o, s.heap.get? b = some o → h'.get? b = some o) → Q (.ref s.heap.objs.size) { s with heap := h', toks := tk }) :
    wpAny (model P w) A (call (.type "set") [.ref l]) Q E s := by
  obtain ⟨c, tl, hmro⟩ := F.called_set.mro
  have k1 := F.called_set.made
  have k2 := F.called_set.sub
  have k3 := F.called_set.notType
  have k4 := F.called_set.canCreate
  have k5 := F.typeCall_set_1 (.ref l)
  refine wpAny_call (codeAny_of_tree ?_)
  show wpAny _ _ (callAny (.type "set") _) _ _ _
  refine wpAny_pure ⟨Code.quiet_builtin _ (by decide +kernel), codeAny_builtin F.entry_type_call ?_⟩
  rw [Around.under_plain (weight_type_call_type "set" [.ref l] []) rfl]
  repeat (any_goals (first | assumption | wp_step))

  refine codeAny_mono (code_set_led1 (.ref l) (E := E) (Q₁ := fun u s₁ => u = .ref s.heap.objs.size ∧ s₁ = { s with heap := s.heap.push (sObj w) }) ⟨rfl, rfl⟩) fun r s₁ hr => ?_
  match r, hr with
  | .error e, hr => exact hr
  | .ok (.ret u), hr =>
    obtain ⟨rfl, rfl⟩ := hr
    have g0 : (s.heap.push (sObj w)).get? s.heap.objs.size = some (sObj w) := Heap.get?_push_size _ rfl
    have g1 : Shared.TypeIs { s with heap := s.heap.push (sObj w) } (.ref s.heap.objs.size) "set" := ⟨_, g0, rfl⟩
    have j1 := F.called_set.init.lookup
    have j2 := F.called_set.init.bind (.ref s.heap.objs.size)
    repeat (any_goals (first | assumption | wp_step))

    refine codeAny_mono (codeAny_call_builtin (R := wants (fun u s₂ => u = .none ∧ ∃ h' tk, s₂ = { s with heap := h', toks := tk } ∧ Post h' tk ∧ (∀ b o, s.heap.get? b = some o → h'.get? b = some o)) E) F.called_set.init.plain F.entry_set_init (check_set_init_1 g1 ?_)) fun r₂ s₂ hr₂ => ?_
    · obtain ⟨⟨oc, od, odt, osl⟩, ho, hc, nl, hd⟩ := hl
      simp only at hc hd
      subst hc; subst hd
      have ho' : (s.heap.push (sObj w)).get? l = some { cls := .type "list", dict := od, data := .seq items nl, slots := osl } := Heap.get?_push_of_some _ ho
      have b1 := F.sub_list_set
      have b2 := F.sub_list_frozenset
      have b3 : (Value.type "list" == Value.type "dict") = false := by decide
      have b4 : (s.heap.push (sObj w)).IsList l items := ⟨_, ho', rfl, nl, rfl⟩
      unfold Builtin.«set.__init__» noKeywords Builtin.Frozenset.updateFrom
      generalize hPI : pyIter = PI
      wp_walk
      subst hPI

      refine wpAny_pyIter_list b4 ?_
      refine wpAny_bind (wpAny_runValue ?_)
      refine loop _ fun h' tk hP hk => ?_
      show wpAny _ _ _ _ _ _
      refine wpAny_pure ?_
      show wpAny _ _ (ret Value.none) _ _ _
      exact wpAny_pure ⟨rfl, h', tk, rfl, hP, hk⟩
    · match r₂, hr₂ with
      | .error e, hr₂ => exact hr₂
      | .ok (.ret r), hr₂ =>
        obtain ⟨rfl, h', tk, rfl, hP, hk⟩ := hr₂
        repeat (any_goals (first | assumption | wp_step))
        exact h _ _ hP hk
      | .ok .next, hr₂ => exact hr₂.elim
      | .ok .brk, hr₂ => exact hr₂.elim
      | .ok .cont, hr₂ => exact hr₂.elim
  | .ok .next, hr => exact hr.elim
  | .ok .brk, hr => exact hr.elim
  | .ok .cont, hr => exact hr.elim
end
/-- set(list of ints) -/
def rSetOfI (K : PySem.W.Frag) (w : World) : List V → Hp → VK → Prop := fun xs H Q => ∃ (l : Addr) (ns : List Int), xs = [V.ref l] ∧ SqL K H l (ns.map V.int) ∧ ns.length ≤ 1000 ∧ ∀ p n, H p = none → n ≤ ns.length → Q (.ref p) (upd H p (SetO w p (fun j => decide (j ∈ ns)) n))
theorem cr_setOfI {X : Cx} (hc : X.calm = true) : CallR X (.type "set") (rSetOfI X.K X.w) := by
  intro pins s σ H xs us Q I r h
  obtain ⟨l, ns, rfl, hq, hb, q⟩ := h
  obtain ⟨u, rfl, ru⟩ := vals1 r
  obtain rfl : u = Value.ref l := ru
  obtain ⟨its, rv, p, hz⟩ := I.list hq
  have hi : IntsAre its.toArray.toList ns := ints_of_vals (by simpa using rv)
  have hisz : its.toArray.size = ns.length := by
    have q := IntsAre.length hi
    rw [Array.length_toList] at q
    exact q
  have hlt : l < s.heap.objs.size := by obtain ⟨_, q, _⟩ := p.isList; exact Heap.lt_size q
  have hh : X.A.in1.in1.in1.handled = none := by simp [I.ok.hd hc]
  have z1 : (s.heap.push (sObj X.w)).objs.size = s.heap.objs.size + 1 := Heap.size_push ..
  have n1 : l ≠ (s.heap.push (sObj X.w)).objs.size := by rw [z1]; exact Nat.ne_of_lt (Nat.lt_succ_of_lt hlt)
  have n2 : s.heap.objs.size ∉ [(s.heap.push (sObj X.w)).objs.size, l] := by
    rw [z1]; simp only [List.mem_cons, List.not_mem_nil, or_false, not_or]
    exact ⟨Nat.ne_of_lt (Nat.lt_succ_self _), Nat.ne_of_gt hlt⟩
  have hval : ∀ (i : Nat) (v : Value), its.toArray[i]? = some v → ∃ k t, ns[i]? = some k ∧ v = .int k t := fun i v hv => by
    have hi2 : i < ns.length := by rw [← hisz]; exact (Array.getElem?_eq_some_iff.mp hv).1
    obtain ⟨t, e⟩ := PyProof.Rows.IntsAre.int_at hi i v (by rw [Array.getElem?_toList]; exact hv)
    refine ⟨ns[i], t, List.getElem?_eq_getElem hi2, ?_⟩
    rw [e, List.getD_eq_getElem?_getD, List.getElem?_eq_getElem hi2]
    rfl
  refine call_set_by (Post := fun h' _ => ∃ c, c ≤ ns.length ∧ SetR X.w h' s.heap.objs.size (fun j => decide (j ∈ ns)) c) p.isList (fun R hR => ?_) fun h' tk ⟨c, hc1, hS⟩ hk => ?_
  · have hl1 : (s.heap.push (sObj X.w)).IsList l its.toArray := by
      obtain ⟨o, ho, hcls, n, hdt⟩ := p.isList
      exact ⟨o, Heap.get?_push_of_some _ ho, hcls, n, hdt⟩
    refine set_update_ints ((Walks.list hh _ l n1 its.toArray).toS) s.heap.objs.size n2 ns hisz (by unfold scanBound; omega) hval (its.toArray.size - 0) 0 _ (by omega) (Nat.zero_le _)
      ⟨⟨_, Heap.get?_push_size _ rfl, rfl, rfl⟩, hl1.push _⟩ ⟨0, Nat.le_refl 0, setR_new_at (Heap.get?_push_of_some _ (Heap.get?_push_size _ rfl))⟩ fun s' c hm hc1 hS => ?_
    obtain ⟨h', g2, d', tk', os'⟩ := s'
    obtain rfl : g2 = s.gens := hm.gens
    obtain rfl : d' = s.drawn := hm.drawn
    obtain rfl : os' = s.os := hm.os
    refine hR h' tk' ⟨c, by rw [← hisz]; exact hc1, hS⟩ fun b o e => ?_
    have hb0 : b < s.heap.objs.size := Heap.lt_size e
    exact hm.heap b o (by
      simp only [List.mem_cons, List.not_mem_nil, or_false, not_or, z1]
      exact ⟨Nat.ne_of_lt hb0, Nat.ne_of_lt (Nat.lt_succ_of_lt hb0)⟩) (Heap.get?_push_of_some _ (Heap.get?_push_of_some _ e))
  · exact ⟨.ref s.heap.objs.size, upd H s.heap.objs.size (SetO X.w s.heap.objs.size (fun j => decide (j ∈ ns)) c), I.laid (t' := tk) hk (Nat.le_refl _) (setO_new hS), rfl, q _ _ (I.hok.fresh (Nat.le_refl _)) hc1⟩

end Sw
/-! SwQ -/
namespace Sw
set_option Elab.async false
set_option linter.all false
set_option maxRecDepth 100000
set_option maxHeartbeats 4000000
open PySem PySem.Spec PyProof.Rows L2
/-! ### data that is held against data -/
abbrev dI (ns : List Int) : PyData := .tuple (ns.map .int)
abbrev dR (r : Rw) : PyData := .tuple (.str r.1 :: r.2.map .int)
theorem eqv_ints : ∀ ns ms : List Int, PyData.eqvAll (ns.map PyData.int) (ms.map PyData.int) = decide (ns = ms)
  | [], [] => by simp [PyData.eqvAll]
  | [], _ :: _ => by simp [PyData.eqvAll]
  | _ :: _, [] => by simp [PyData.eqvAll]
  | a :: r, b :: t => by
    simp only [List.map_cons, PyData.eqvAll, PyData.eqv, eqv_ints r t]
    by_cases h : a = b <;> by_cases h' : r = t <;> simp [h, h']
theorem eqv_dI (ns ms : List Int) : PyData.eqv (dI ns) (dI ms) = decide (ns = ms) := by
  unfold dI
  rw [PyData.eqv, eqv_ints]
theorem eqv_dR (r t : Rw) : PyData.eqv (dR r) (dR t) = decide (r = t) := by
  obtain ⟨x, ns⟩ := r
  obtain ⟨y, ms⟩ := t
  unfold dR
  simp only [PyData.eqv, PyData.eqvAll, eqv_ints, Prod.mk.injEq]
  by_cases h : x = y <;> by_cases h' : ns = ms <;> simp [h, h']
theorem can_ints : ∀ ns : List Int, PyData.canLayAll0 (ns.map PyData.int) = true
  | [] => by simp [PyData.canLayAll0]
  | a :: r => by simp [PyData.canLayAll0, PyData.canLay0, can_ints r]
theorem dep_ints : ∀ ns : List Int, PyData.depthAll (ns.map PyData.int) = 0
  | [] => by simp [PyData.depthAll]
  | a :: r => by simp [PyData.depthAll, PyData.depth, dep_ints r]
theorem sh_dI (ns : List Int) : SeqAt.shaped (dI ns) = true := by
  simp [SeqAt.shaped, dI, PyData.canLay0, PyData.depth, can_ints, dep_ints]
theorem can_dR {r : Rw} (h : PyData.strOk r.1 = true) : PyData.canLay0 (dR r) = true := by
  simp [dR, PyData.canLay0, PyData.canLayAll0, can_ints, h]
theorem dep_dR {r : Rw} : PyData.depth (dR r) = 1 := by
  simp [dR, PyData.depth, PyData.depthAll, dep_ints]
theorem can_all {α : Type} {f : α → PyData} : ∀ {l : List α}, (∀ x ∈ l, PyData.canLay0 (f x) = true) → PyData.canLayAll0 (l.map f) = true
  | [], _ => by simp [PyData.canLayAll0]
  | x :: l, h => by simp [PyData.canLayAll0, h x (.head _), can_all (l := l) fun y hy => h y (.tail _ hy)]
theorem dep_all {α : Type} {f : α → PyData} {n : Nat} : ∀ {l : List α}, (∀ x ∈ l, PyData.depth (f x) ≤ n) → PyData.depthAll (l.map f) ≤ n
  | [], _ => by simp [PyData.depthAll]
  | x :: l, h => by
    simp only [List.map_cons, PyData.depthAll]
    exact Nat.max_le.mpr ⟨h x (.head _), dep_all fun y hy => h y (.tail _ hy)⟩
theorem eqv_all {α : Type} {f : α → PyData} [DecidableEq α] (h : ∀ x y, PyData.eqv (f x) (f y) = decide (x = y)) : ∀ l m : List α, PyData.eqvAll (l.map f) (m.map f) = decide (l = m)
  | [], [] => by simp [PyData.eqvAll]
  | [], _ :: _ => by simp [PyData.eqvAll]
  | _ :: _, [] => by simp [PyData.eqvAll]
  | a :: r, b :: t => by
    simp only [List.map_cons, PyData.eqvAll, h, eqv_all h r t]
    by_cases h : a = b <;> by_cases h' : r = t <;> simp [h, h']
theorem RwOk.strOk {r : Rw} (h : RwOk r) : PyData.strOk r.1 = true := by
  have key : ∀ q ∈ formsL, PyData.strOk q.1 = true := by decide +kernel
  exact key _ (mem_lookup h.fm)
theorem sh_dR {r : Rw} (h : PyData.strOk r.1 = true) : SeqAt.shaped (dR r) = true := by
  have := can_dR h
  have d := @dep_dR r
  simp [SeqAt.shaped, this, d]
section
variable {K : PySem.W.Frag}
theorem dp_ints {H : Hp} : ∀ {ns : List Int}, DpAll K H (ns.map V.int) (ns.map .int)
  | [] => .nil
  | _ :: _ => .cons (.int _) dp_ints
theorem dp_dI {H : Hp} {a : Addr} {ns : List Int} (h : SqT K H a (ns.map V.int)) : Dp K H (.ref a) (dI ns) := .tup h dp_ints
theorem dp_dR {H : Hp} {v : V} {r : Rw} (h : RwAt K H v r) : Dp K H v (dR r) := by
  obtain ⟨a, rfl, h⟩ := h
  exact .tup h (.cons (.str _) dp_ints)
theorem dp_all {α : Type} {H : Hp} {R : V → α → Prop} {f : α → PyData} (h : ∀ v x, R v x → Dp K H v (f x)) : ∀ {vs : List V} {l : List α}, Paired R vs l → DpAll K H vs (l.map f)
  | _, _, .nil => .nil
  | _, _, .cons r t => .cons (h _ _ r) (dp_all h t)
end

end Sw
/-! SwD1 -/
namespace Sw
set_option Elab.async false
set_option linter.all false
set_option maxRecDepth 100000
set_option maxHeartbeats 4000000
open PySem PySem.Spec PyProof.Rows L2
abbrev PP : Program := PySem.Challenge.pw_slipward_k18_whole_slips_hold_together
section
variable {w : World} {K : PySem.W.Frag} {mg : Str → Option Value} {base : Heap}
theorem kt_int {H : Hp} {z : Int} : TyX K H (.int z) (.type "int") := .base (.int z)
theorem sc_is_among : FnScope ["thing", "least", "most"] ["thing", "least", "most"] (defScope s_is_among) := ⟨rfl, rfl, rfl, by decide +kernel, rfl, by decide +kernel, by decide +kernel⟩
def sp_is_among : Sp := fun vs H Q _ => ∃ a b c : Int, vs = [.int a, .int b, .int c] ∧ Q (.bl (decide (b ≤ a ∧ a ≤ c))) H
theorem G_is_among (T : Tx w K mg) : Kn PP w K mg base 1 (He.ga K "is_among") ["thing", "least", "most"] sp_is_among := by
  refine kn_of T.d_is_among sc_is_among (fun _ _ _ _ _ _ us hl => match us, hl with | [_, _, _], _ => rfl) (fun vs H Q E h => ?_) fun cdv A outer s H vs Q E hr h => ?_
  · obtain ⟨a, b, c, rfl, _⟩ := h; rfl
  · obtain ⟨a, b, c, rfl, q⟩ := h
    refine ⟨_, (pss_one (ps_ret (pe_and (pe_callB call_isi (by rfl) T.f_isinstance (by decide +kernel) (pa_cons (pv 0) (pa_cons (pe_bltn (v := .ty "int") (by rfl) T.f_int (by decide +kernel) rfl) pa_nil))) (pe_and (pe_not (pe_callB call_isi (by rfl) T.f_isinstance (by decide +kernel) (pa_cons (pv 0) (pa_cons (pe_bltn (v := .ty "bool") (by rfl) T.f_bool (by decide +kernel) rfl) pa_nil)))) (pe_one (pe_chain op_le op_le (pv 1) (pv 0) (pv 2))))))), ?_⟩
    refine ⟨_, rfl, .int a, .ty "int", .type "int", .type "int", true, rfl, .ty _, kt_int, by rfl, true, rfl, ?_⟩
    refine ⟨_, rfl, .int a, .ty "bool", .type "int", .type "bool", false, rfl, .ty _, kt_int, by rfl, false, rfl, true, rfl, ?_⟩
    refine ⟨_, rfl, _, rfl, _, _, rfl, rfl, _, rfl, ?_⟩
    by_cases e : b ≤ a
    · simp only [e, decide_true, if_true]
      refine ⟨_, rfl, _, _, rfl, rfl, ?_⟩
      simpa [e] using q
    · simpa [e] using q
theorem sc_is_word : FnScope ["thing"] ["thing"] (defScope s_is_word) := ⟨rfl, rfl, rfl, by decide +kernel, rfl, by decide +kernel, by decide +kernel⟩
def sp_is_word : Sp := fun vs H Q _ => ∃ a : Int, vs = [.int a] ∧ Q (.bl (decide (0 ≤ a ∧ a ≤ 15))) H
theorem G_is_word (T : Tx w K mg) : Kn PP w K mg base 2 (He.ga K "is_word") ["thing"] sp_is_word := by
  have G_is_among := G_is_among (base := base) T
  refine kn_of T.d_is_word sc_is_word (fun _ _ _ _ _ _ us hl => match us, hl with | [_], _ => rfl) (fun vs H Q E h => ?_) fun cdv A outer s H vs Q E hr h => ?_
  · obtain ⟨a, rfl, _⟩ := h; rfl
  · obtain ⟨a, rfl, q⟩ := h
    refine ⟨_, (pss_one (ps_ret (pe_kn G_is_among (hr.mono (by decide)) (by rfl) T.g_is_among (pa_cons (pv 0) (pa_cons pe_int (pa_cons (pe_gx (by rfl) T.i_MOST_WORD) pa_nil)))))), ?_⟩
    exact ⟨_, rfl, _, _, _, rfl, q⟩
theorem sc_is_box : FnScope ["thing"] ["thing"] (defScope s_is_box) := ⟨rfl, rfl, rfl, by decide +kernel, rfl, by decide +kernel, by decide +kernel⟩
def sp_is_box : Sp := fun vs H Q _ => ∃ a : Int, vs = [.int a] ∧ Q (.bl (decide (0 ≤ a ∧ a ≤ 31))) H
theorem G_is_box (T : Tx w K mg) : Kn PP w K mg base 2 (He.ga K "is_box") ["thing"] sp_is_box := by
  have G_is_among := G_is_among (base := base) T
  refine kn_of T.d_is_box sc_is_box (fun _ _ _ _ _ _ us hl => match us, hl with | [_], _ => rfl) (fun vs H Q E h => ?_) fun cdv A outer s H vs Q E hr h => ?_
  · obtain ⟨a, rfl, _⟩ := h; rfl
  · obtain ⟨a, rfl, q⟩ := h
    refine ⟨_, (pss_one (ps_ret (pe_kn G_is_among (hr.mono (by decide)) (by rfl) T.g_is_among (pa_cons (pv 0) (pa_cons pe_int (pa_cons (pe_op op_sub (pe_gx (by rfl) T.i_MANY_BOXES) pe_int) pa_nil)))))), ?_⟩
    exact ⟨_, rfl, _, _, rfl, rfl, _, _, _, rfl, q⟩
theorem sc_parts_of : FnScope ["row", "sort", "own", "part"] ["row", "sort"] (defScope s_parts_of) := ⟨rfl, rfl, rfl, by decide +kernel, rfl, by decide +kernel, by decide +kernel⟩
/-- a new tuple -/
def gives (K : PySem.W.Frag) (H : Hp) (Q : VK) (xs : List V) : Prop := ∀ H' a, Same H H' → H' a = some (.tup xs) → Q (.ref a) H'
def sp_parts_of (K : PySem.W.Frag) : Sp := fun vs H Q _ => ∃ (v : V) (r : Rw) (c : Nat), vs = [v, .str ⟨#[c]⟩] ∧ RwAt K H v r ∧ RwOk r ∧ gives K H Q ((parts r c).map V.int)
theorem G_parts_of (T : Tx w K mg) : Kn PP w K mg base 1 (He.ga K "parts_of") ["row", "sort"] (sp_parts_of K) := by
  refine kn_of T.d_parts_of sc_parts_of (fun _ _ _ _ _ _ us hl => match us, hl with | [_, _], _ => rfl) (fun vs H Q E h => ?_) fun cdv A outer s H vs Q E hr h => ?_
  · obtain ⟨v, r, c, rfl, _⟩ := h; rfl
  · obtain ⟨_, r, c, rfl, ⟨a, rfl, ha⟩, ok, q⟩ := h
    refine ⟨_, (pss_one (ps_ret (pe_callTy call_tuple_of (by rfl) T.f_tuple (by decide +kernel) (pa_cons (pe_lc (own := [("own", 2), ("part", 3)])  rfl sc_parts_of.nd (pi_zipST (by rfl) T.f_zip (pa_cons (pe_ix ix_kdict (pe_gx (by rfl) T.o_FORMS) (pe_ix ix_tup (pv 0) pe_int (fun _ _ => rfl)) (fun _ _ => rfl)) (pa_cons (pe_slice sl_tupA (pv 0) (po_some pe_int) po_none) pa_nil))) (blkOk_by (own := [("own", 2), ("part", 3)]) (N := ["row", "sort", "own", "part"]) (sc := defScope s_parts_of) (by decide +kernel)) (fun _ _ _ _ _ => (show PG _ _ (gTup K 2 _) from pg_tup rfl (pgs_cons (pg_name (i := 2) sc_parts_of.nd rfl (Or.inl rfl)) (pgs_cons (pg_name (i := 3) sc_parts_of.nd rfl (Or.inl rfl)) pgs_nil)))) (fun _ _ _ _ _ => pts_one (pt_cmpR op_eq (pv 2) (pv 1) (nomark _))) (fun _ _ _ _ _ => (pv 3))) pa_nil)))), ?_⟩
    refine ⟨_, rfl, _, _, _, _, rfl, rfl, ha, atI0 _ _, _, _, _, rfl, rfl, T.kF ok.fm, ?_⟩
    refine ⟨_, rfl, _, rfl, a, _, rfl, ha, (fun h => absurd h.1 (by simp [HT.sIx])), fun _ z hz => ?_⟩
    rw [cut1]
    refine ⟨_, _, _, rfl, sq_new, fun D hD => ?_⟩
    refine lc_pure (G := fun H' => SqT K H' z (r.2.map V.int)) walk_zipST (fun i => if (fmO r.1).cps[i]? = some c then r.2[i]? else none) (fun v a _ => v = .int a) (fun _ _ _ _ h _ => h) (fun _ _ _ _ _ _ h _ => h) (by have := fm_small ok.fm; omega) hD ?_ ?_ ?_
    · exact fun H' s => tl_same s _ _ sq_new
    · rintro i x H3 H4 Qe Qn hi s ⟨U, c1, y, rfl, hU, rfl, hc, hy⟩ qe qn
      refine ⟨_, _, rfl, sq_new, rfl, _, _, rfl, _, _, rfl, rfl, rfl, ?_⟩
      rw [List.getElem?_map] at hy
      obtain ⟨z1, e1, rfl⟩ := Option.map_eq_some_iff.mp hy
      refine ⟨_, rfl, _, rfl, rfl, _, rfl, ?_⟩
      refine ite2 (fun e => ?_) (fun e => ?_)
      · have e : c1 = c := by simpa using e
        subst e
        exact ⟨_, rfl, qe _ _ z1 (same_new hU) (by rw [if_pos hc]; exact e1) rfl⟩
      · exact qn _ (same_new hU) (by rw [if_neg (by rw [hc]; simpa using e)])
    · intro H3 acc s hl pr
      rw [paired_map pr] at hl
      refine ⟨_, _, rfl, .inl ⟨sq_lst hl, fun l hl2 => ?_⟩⟩
      have e : List.filterMap (fun i => if (fmO r.1).cps[i]? = some c then r.2[i]? else none) (List.range (min (fmO r.1).cps.size (List.map V.int r.2).length)) = parts r c := by rw [List.length_map]; rfl
      rw [e]
      exact q _ _ (((same_new hz).trans s).trans (same_new hl2)) upd_same
theorem sc_reads : FnScope ["row"] ["row"] (defScope s_reads) := ⟨rfl, rfl, rfl, by decide +kernel, rfl, by decide +kernel, by decide +kernel⟩
def sp_reads (K : PySem.W.Frag) : Sp := fun vs H Q _ => ∃ (v : V) (r : Rw), vs = [v] ∧ RwAt K H v r ∧ RwOk r ∧ gives K H Q ((rds r).map V.int)
theorem G_reads (T : Tx w K mg) : Kn PP w K mg base 2 (He.ga K "reads") ["row"] (sp_reads K) := by
  have G_parts_of := G_parts_of (base := base) T
  refine kn_of T.d_reads sc_reads (fun _ _ _ _ _ _ us hl => match us, hl with | [_], _ => rfl) (fun vs H Q E h => ?_) fun cdv A outer s H vs Q E hr h => ?_
  · obtain ⟨v, r, rfl, _⟩ := h; rfl
  · obtain ⟨v, r, rfl, ha, ok, q⟩ := h
    refine ⟨_, (pss_one (ps_ret (pe_kn G_parts_of (hr.mono (by decide)) (by rfl) T.g_parts_of (pa_cons (pv 0) (pa_cons (pe_gx (by rfl) T.i_READ_BOX) pa_nil))))), ?_⟩
    exact ⟨_, rfl, _, r, 114, rfl, ha, ok, q⟩
theorem tail_opt {b : Bool} {ns : List Int} {A B : Prop} (hb : b = decide (ns = [])) (h1 : ∀ z l, ns = z :: l → A) (h2 : ns = [] → B) : if (!b) = true then A else B := by
  subst hb
  cases ns with
  | nil => exact h2 rfl
  | cons z l => exact h1 z l rfl
theorem ov_ne {r : Rw} {c : Nat} {H' : Hp} {a : Addr} (h : H' a = some (.tup ((parts r c).map V.int))) : ∃ d, Dp K H' (.ref a) d ∧ SeqAt.shaped d = true ∧ PyData.eqv d (dI []) = decide (parts r c = []) :=
  ⟨dI (parts r c), dp_dI (sq_tup h), sh_dI _, eqv_dI _ _⟩
theorem sc_sets : FnScope ["row", "found"] ["row"] (defScope s_sets) := ⟨rfl, rfl, rfl, by decide +kernel, rfl, by decide +kernel, by decide +kernel⟩
def sp_sets (K : PySem.W.Frag) : Sp := fun vs H Q _ => ∃ (v : V) (r : Rw), vs = [v] ∧ RwAt K H v r ∧ RwOk r ∧ ∀ H', Same H H' → Q (ov (sts r)) H'
theorem G_sets (T : Tx w K mg) : Kn PP w K mg base 2 (He.ga K "sets") ["row"] (sp_sets K) := by
  have G_parts_of := G_parts_of (base := base) T
  refine kn_of T.d_sets sc_sets (fun _ _ _ _ _ _ us hl => match us, hl with | [_], _ => rfl) (fun vs H Q E h => ?_) fun cdv A outer s H vs Q E hr h => ?_
  · obtain ⟨v, r, rfl, _⟩ := h; rfl
  · obtain ⟨v, r, rfl, ha, ok, q⟩ := h
    refine ⟨_, (pss_cons (ps_set (i := 1) sc_sets.nd rfl (Or.inl rfl) (pe_kn G_parts_of (hr.mono (by decide)) (by rfl) T.g_parts_of (pa_cons (pv 0) (pa_cons (pe_gx (by rfl) T.i_SET_BOX) pa_nil))))
      (pss_one (ps_ret (pe_ifExp (pt_cmpR (op_neD hr.units) (pv 1) (pe_tup pa_nil) (nomark _)) (pe_ix ix_tup (pv 1) pe_int (fun _ _ => rfl)) pe_non)))), ?_⟩
    refine ⟨_, rfl, _, r, 115, rfl, ha, ok, fun H1 a s1 h1 => ?_⟩
    refine ⟨_, rfl, by decide, fun p hp => ⟨dI (parts r 115), dI [], dp_dI (tl_same (same_new hp) _ _ (sq_tup h1)), dp_dI (sq_new (xs := [])), sh_dI _, sh_dI _, _, rfl, ?_⟩⟩
    exact tail_opt (by rw [eqv_dI]) (fun z l e => ⟨_, rfl, _, _, _, _, rfl, rfl, sq_tup (by rw [upd_ne (ne_of_none h1 hp)]; exact h1), by rw [e]; exact atI0 _ _, by rw [show (ov (sts r) : V) = .int z by unfold sts; rw [e]; rfl] at q; exact q _ (s1.trans (same_new hp))⟩) (fun e => by rw [show (ov (sts r) : V) = .non by unfold sts; rw [e]; rfl] at q; exact q _ (s1.trans (same_new hp)))
theorem sc_leads : FnScope ["row", "found"] ["row"] (defScope s_leads) := ⟨rfl, rfl, rfl, by decide +kernel, rfl, by decide +kernel, by decide +kernel⟩
def sp_leads (K : PySem.W.Frag) : Sp := fun vs H Q _ => ∃ (v : V) (r : Rw), vs = [v] ∧ RwAt K H v r ∧ RwOk r ∧ ∀ H', Same H H' → Q (ov (lds r)) H'
theorem G_leads (T : Tx w K mg) : Kn PP w K mg base 2 (He.ga K "leads") ["row"] (sp_leads K) := by
  have G_parts_of := G_parts_of (base := base) T
  refine kn_of T.d_leads sc_leads (fun _ _ _ _ _ _ us hl => match us, hl with | [_], _ => rfl) (fun vs H Q E h => ?_) fun cdv A outer s H vs Q E hr h => ?_
  · obtain ⟨v, r, rfl, _⟩ := h; rfl
  · obtain ⟨v, r, rfl, ha, ok, q⟩ := h
    refine ⟨_, (pss_cons (ps_set (i := 1) sc_leads.nd rfl (Or.inl rfl) (pe_kn G_parts_of (hr.mono (by decide)) (by rfl) T.g_parts_of (pa_cons (pv 0) (pa_cons (pe_gx (by rfl) T.i_A_PLACE) pa_nil))))
      (pss_one (ps_ret (pe_ifExp (pt_cmpR (op_neD hr.units) (pv 1) (pe_tup pa_nil) (nomark _)) (pe_ix ix_tup (pv 1) pe_int (fun _ _ => rfl)) pe_non)))), ?_⟩
    refine ⟨_, rfl, _, r, 112, rfl, ha, ok, fun H1 a s1 h1 => ?_⟩
    refine ⟨_, rfl, by decide, fun p hp => ⟨dI (parts r 112), dI [], dp_dI (tl_same (same_new hp) _ _ (sq_tup h1)), dp_dI (sq_new (xs := [])), sh_dI _, sh_dI _, _, rfl, ?_⟩⟩
    exact tail_opt (by rw [eqv_dI]) (fun z l e => ⟨_, rfl, _, _, _, _, rfl, rfl, sq_tup (by rw [upd_ne (ne_of_none h1 hp)]; exact h1), by rw [e]; exact atI0 _ _, by rw [show (ov (lds r) : V) = .int z by unfold lds; rw [e]; rfl] at q; exact q _ (s1.trans (same_new hp))⟩) (fun e => by rw [show (ov (lds r) : V) = .non by unfold lds; rw [e]; rfl] at q; exact q _ (s1.trans (same_new hp)))
end

end Sw
/-! SwD2 -/
namespace Sw
set_option Elab.async false
set_option linter.all false
set_option maxRecDepth 100000
set_option maxHeartbeats 4000000
open PySem PySem.Spec PyProof.Rows L2
section
variable {w : World} {K : PySem.W.Frag} {mg : Str → Option Value} {base : Heap}
theorem sixeqs {xs : List V} {l : List Bool} (h : Paired (fun v a => v = V.bl a) xs l) : xs = l.map V.bl := paired_map h
theorem sc_is_row : FnScope ["thing", "form", "sort", "part"] ["thing"] (defScope s_is_row) := ⟨rfl, rfl, rfl, by decide +kernel, rfl, by decide +kernel, by decide +kernel⟩
def sp_is_row (K : PySem.W.Frag) : Sp := fun vs H Q _ => ∃ (v : V) (r : Rw), vs = [v] ∧ RwAt K H v r ∧ RwOk r ∧ ∀ H', Same H H' → Q (.bl true) H'
theorem G_is_row (T : Tx w K mg) : Kn PP w K mg base 2 (He.ga K "is_row") ["thing"] (sp_is_row K) := by
  have G_is_among := G_is_among (base := base) T
  obtain ⟨_, _, kF⟩ := T.dFORMS
  refine kn_of T.d_is_row sc_is_row (fun _ _ _ _ _ _ us hl => match us, hl with | [_], _ => rfl) (fun vs H Q E h => ?_) fun cdv A outer s H vs Q E hr h => ?_
  · obtain ⟨v, r, rfl, _⟩ := h; rfl
  · obtain ⟨_, r, rfl, ⟨a, rfl, ha⟩, ok, q⟩ := h
    obtain ⟨u, hu⟩ := T.nF ok.fm
    have hsz := fm_small ok.fm
    refine ⟨_, (pss_cons (ps_if (PW.pt (pw_or (pt_not (pt_val (pe_callB call_isi (by rfl) T.f_isinstance (by decide +kernel) (pa_cons (pv 0) (pa_cons (pe_bltn (v := .ty "tuple") (by rfl) T.f_tuple (by decide +kernel) rfl) pa_nil))))) (pw_or (pt_cmpR (op_eqD hr.units) (pv 0) (pe_tup pa_nil) (nomark _)) (pw_or (pt_not (pt_val (pe_callB call_isi (by rfl) T.f_isinstance (by decide +kernel) (pa_cons (pe_ix ix_tup (pv 0) pe_int (fun _ _ => rfl)) (pa_cons (pe_bltn (v := .ty "str") (by rfl) T.f_str (by decide +kernel) rfl) pa_nil))))) (pw_or1 (pt_cmpR (op_notIn_kd kF) (pe_ix ix_tup (pv 0) pe_int (fun _ _ => rfl)) (pe_gx (by rfl) T.o_FORMS) (by rfl)))))))
        (pss_one (ps_ret pe_bl))
        pss_nil)
      (pss_cons (ps_set (i := 1) sc_is_row.nd rfl (Or.inl rfl) (pe_ix ix_kdict (pe_gx (by rfl) T.o_FORMS) (pe_ix ix_tup (pv 0) pe_int (fun _ _ => rfl)) (fun _ _ => rfl)))
      (pss_cons (ps_if (pt_cmpR op_ne (pe_callB call_len_seq (by rfl) T.f_len (by decide +kernel) (pa_cons (pv 0) pa_nil)) (pe_op op_add pe_int (pe_callB call_len_str (by rfl) T.f_len (by decide +kernel) (pa_cons (pv 1) pa_nil))) (nomark _))
        (pss_one (ps_ret pe_bl))
        pss_nil)
      (pss_one (ps_ret (pe_callB (cr_all rfl) (by rfl) T.f_all (by decide +kernel) (pa_cons (pe_lc (own := [("sort", 2), ("part", 3)])  rfl sc_is_row.nd (pi_zipST (by rfl) T.f_zip (pa_cons (pv 1) (pa_cons (pe_slice sl_tupA (pv 0) (po_some pe_int) po_none) pa_nil))) (blkOk_by (own := [("sort", 2), ("part", 3)]) (N := ["thing", "form", "sort", "part"]) (sc := defScope s_is_row) (by decide +kernel)) (fun _ _ _ _ _ => (show PG _ _ (gTup K 2 _) from pg_tup rfl (pgs_cons (pg_name (i := 2) sc_is_row.nd rfl (Or.inl rfl)) (pgs_cons (pg_name (i := 3) sc_is_row.nd rfl (Or.inl rfl)) pgs_nil)))) (fun _ _ _ _ _ => pts_nil) (fun _ _ _ _ _ => (pe_kn G_is_among (hr.mono (by decide)) (by rfl) T.g_is_among (pa_cons (pv 3) (pa_cons pe_int (pa_cons (pe_ix (show IxR _ (rIxD K w) from ix_kdict) (pe_gx (by rfl) T.o_GREATEST) (pv 2) (fun _ _ => rfl)) pa_nil)))))) pa_nil))))))), ?_⟩
    refine ⟨_, rfl, .ref a, .ty "tuple", .type "tuple", .type "tuple", true, rfl, .ty _, tyx_tup ha, by rfl, true, rfl, ?_⟩
    refine iteF ⟨_, rfl, by decide, fun p hp => ⟨dR r, dI [], dp_dR ⟨a, rfl, tl_same (same_new hp) _ _ ha⟩, dp_dI (sq_new (xs := [])), sh_dR ok.strOk, sh_dI _, _, rfl, ?_⟩⟩
    rw [show PyData.eqv (dR r) (dI []) = false by simp [dR, dI, PyData.eqv, PyData.eqvAll]]
    have ha1 := tl_same (same_new (o := .tup []) hp) _ _ ha
    refine iteF ⟨_, rfl, _, _, _, _, rfl, rfl, ha1, atI0 _ _, .str r.1, .ty "str", .type "str", .type "str", true, rfl, .ty _, .base (.str _), by rfl, true, rfl, ?_⟩
    refine iteF ⟨_, rfl, _, _, _, _, rfl, rfl, ha1, atI0 _ _, r.1, some u, rfl, rfl, hu, _, rfl, ?_⟩
    refine iteF ⟨_, rfl, _, _, _, _, rfl, rfl, ha1, atI0 _ _, _, _, _, rfl, rfl, T.kF ok.fm, ?_⟩
    refine ⟨_, rfl, a, _, rfl, .inr ha1, _, rfl, _, rfl, by show (fmO r.1).cps.size ≤ sizeLine; exact Nat.le_trans hsz (by decide), _, _, rfl, rfl, rfl, _, rfl, ?_⟩
    refine ite2 (fun e => absurd e ?_) (fun _ => ?_)
    · have : ((V.str r.1 :: r.2.map V.int).length : Int) = 1 + ((fmO r.1).length : Int) := by
        rw [List.length_cons, List.length_map, ok.len, show (fmO r.1).length = (fmO r.1).cps.size from rfl]
        omega
      rw [this]
      simp
    · refine ⟨_, rfl, _, rfl, _, rfl, a, _, rfl, ha1, (fun h => absurd h.1 (by simp [HT.sIx])), fun _ z hz => ?_⟩
      rw [cut1]
      refine ⟨_, _, _, rfl, sq_new, fun D hD => ?_⟩
      refine lc_all (G := fun H' => SqT K H' z (r.2.map V.int)) walk_zipST (fun i => true) (fun v a _ => v = .bl a) (fun _ _ _ _ h _ => h) (fun _ _ _ _ _ _ h _ => h) (by omega) hD ?_ ?_ ?_
      · exact fun H' s => tl_same s _ _ sq_new
      · rintro i x H3 H4 Qe hi s ⟨U, c1, y, rfl, hU, rfl, hc, hy⟩ qe
        refine ⟨_, _, rfl, sq_new, rfl, _, _, rfl, _, _, rfl, rfl, rfl, ?_⟩
        rw [List.getElem?_map] at hy
        obtain ⟨z1, e1, rfl⟩ := Option.map_eq_some_iff.mp hy
        obtain ⟨h0, g, hg, h1⟩ := ok.rg i c1 z1 hc e1
        refine ⟨_, rfl, _, rfl, _, _, _, rfl, rfl, T.kG hg, _, _, _, rfl, ?_⟩
        exact qe _ _ (same_new hU) (by simp [h0, h1])
      · intro H3 acc s hl pr
        rw [paired_map pr] at hl
        refine ⟨_, _, rfl, sq_lst hl, ?_⟩
        rw [show (List.map (fun _ => true) (List.range (min (fmO r.1).cps.size (List.map V.int r.2).length))).all id = true by simp]
        exact q _ (((same_new hp).trans (same_new hz)).trans s)
theorem sc_is_way : FnScope ["row"] ["row"] (defScope s_is_way) := ⟨rfl, rfl, rfl, by decide +kernel, rfl, by decide +kernel, by decide +kernel⟩
def sp_is_way (K : PySem.W.Frag) : Sp := fun vs H Q _ => ∃ (v : V) (r : Rw), vs = [v] ∧ RwAt K H v r ∧ Q (.bl (isWay r)) H
theorem inV_str (x : Str) : ∀ l : List Str, inV (.str x) (l.map V.str) = l.contains x
  | [] => rfl
  | y :: l => by
    have := inV_str x l
    unfold inV at this ⊢
    rw [List.map_cons, List.any_cons, this, List.contains_cons]
    show (y == x || _) = _
    rw [show (y == x) = (x == y) from Bool.eq_iff_iff.mpr ⟨fun h => by simpa using (eq_of_beq h).symm, fun h => by simpa using (eq_of_beq h).symm⟩]
theorem G_is_way (T : Tx w K mg) : Kn PP w K mg base 1 (He.ga K "is_way") ["row"] (sp_is_way K) := by
  refine kn_of T.d_is_way sc_is_way (fun _ _ _ _ _ _ us hl => match us, hl with | [_], _ => rfl) (fun vs H Q E h => ?_) fun cdv A outer s H vs Q E hr h => ?_
  · obtain ⟨v, r, rfl, _⟩ := h; rfl
  · obtain ⟨_, r, rfl, ⟨a, rfl, ha⟩, q⟩ := h
    refine ⟨_, (pss_one (ps_ret (pe_cmpR op_in_seq (pe_ix ix_tup (pv 0) pe_int (fun _ _ => rfl)) (pe_gx (by rfl) T.o_WAYS) (by rfl)))), ?_⟩
    refine ⟨_, rfl, _, _, _, _, rfl, rfl, ha, atI0 _ _, _, waysL.map V.str, rfl, .inr (T.tWAYS H), rfl, by decide, ?_⟩
    rw [if_neg (by decide), inV_str]
    exact q
theorem sc_need_most : FnScope ["thing"] ["thing"] (defScope s_need_most) := ⟨rfl, rfl, rfl, by decide +kernel, rfl, by decide +kernel, by decide +kernel⟩
def sp_need_most : Sp := fun vs H Q _ => ∃ a : Int, vs = [.int a] ∧ 0 ≤ a ∧ a ≤ 100000 ∧ Q .non H
theorem G_need_most (T : Tx w K mg) : Kn PP w K mg base 2 (He.ga K "need_most") ["thing"] sp_need_most := by
  have G_is_among := G_is_among (base := base) T
  refine kn_of T.d_need_most sc_need_most (fun _ _ _ _ _ _ us hl => match us, hl with | [_], _ => rfl) (fun vs H Q E h => ?_) fun cdv A outer s H vs Q E hr h => ?_
  · obtain ⟨a, rfl, _⟩ := h; rfl
  · obtain ⟨a, rfl, h0, h1, q⟩ := h
    refine ⟨_, (pss_one (ps_if (pt_not (pt_val (pe_kn G_is_among (hr.mono (by decide)) (by rfl) T.g_is_among (pa_cons (pv 0) (pa_cons pe_int (pa_cons (pe_gx (by rfl) T.i_MOST_BEATS) pa_nil))))))
        (pss_one ps_never)
        pss_nil)), ?_⟩
    refine ⟨_, rfl, _, _, _, rfl, true, by simp [h0, h1], ?_⟩
    exact iteF q
end

end Sw
/-! SwD3 -/
namespace Sw
set_option Elab.async false
set_option linter.all false
set_option maxRecDepth 100000
set_option maxHeartbeats 4000000
open PySem PySem.Spec PyProof.Rows L2
section
variable {w : World} {K : PySem.W.Frag} {mg : Str → Option Value} {base : Heap}
theorem PgAt.same {H H' : Hp} {v : V} {p : List Rw} (h : PgAt K H v p) (s : Same H H') : PgAt K H' v p := h.tl (tl_same s)
theorem RwAt.same {H H' : Hp} {v : V} {p : Rw} (h : RwAt K H v p) (s : Same H H') : RwAt K H' v p := h.tl (tl_same s)
theorem IsAt.same {H H' : Hp} {v : V} {p : List Int} (h : IsAt K H v p) (s : Same H H') : IsAt K H' v p := h.tl (tl_same s)
theorem atI_last {α : Type} {xs : List α} {x : α} (h : xs[xs.length - 1]? = some x) : atI xs (-1) = some x := by
  have hl : 0 < xs.length := by
    rcases xs with _ | ⟨y, ys⟩
    · simp at h
    · simp
  have e : ixN xs.length (-1) = some (xs.length - 1) := by
    unfold ixN
    rw [if_neg (by decide)]
    first | (rw [if_pos (by omega)]; congr 1; omega) | simp
  unfold atI
  rw [e]
  exact h
theorem sc_need_program : FnScope ["thing", "number", "row"] ["thing"] (defScope s_need_program) := ⟨rfl, rfl, rfl, by decide +kernel, rfl, by decide +kernel, by decide +kernel⟩
def sp_need_program (K : PySem.W.Frag) : Sp := fun vs H Q _ => ∃ (v : V) (p : List Rw), vs = [v] ∧ PgAt K H v p ∧ PgOk p ∧ ∀ H', Same H H' → Q .non H'
theorem G_need_program (T : Tx w K mg) : Kn PP w K mg base 3 (He.ga K "need_program") ["thing"] (sp_need_program K) := by
  have G_is_row := G_is_row (base := base) T
  have G_leads := G_leads (base := base) T
  refine kn_of T.d_need_program sc_need_program (fun _ _ _ _ _ _ us hl => match us, hl with | [_], _ => rfl) (fun vs H Q E h => ?_) fun cdv A outer s H vs Q E hr h => ?_
  · obtain ⟨v, r, rfl, _⟩ := h; rfl
  · obtain ⟨_, p, rfl, ⟨a, vs, rfl, ha, pr⟩, ok, q⟩ := h
    have hl := Paired.length pr
    have l0 := ok.lo
    have l1 := ok.hi
    refine ⟨_, (pss_cons (ps_if (PW.pt (pw_or (pt_not (pt_val (pe_callB call_isi (by rfl) T.f_isinstance (by decide +kernel) (pa_cons (pv 0) (pa_cons (pe_bltn (v := .ty "tuple") (by rfl) T.f_tuple (by decide +kernel) rfl) pa_nil))))) (pw_or1 (pt_not (pt_chain op_le op_le pe_int (pe_callB call_len_seq (by rfl) T.f_len (by decide +kernel) (pa_cons (pv 0) pa_nil)) (pe_gx (by rfl) T.i_MOST_ROWS))))))
        (pss_one ps_never)
        pss_nil)
      (pss_cons (ps_for PassesOwn.never rfl (pi_enumT (by rfl) T.f_enumerate (pa_cons (pv 0) pa_nil)) (pg_tup rfl (pgs_cons (pg_name (i := 1) sc_need_program.nd rfl (Or.inl rfl)) (pgs_cons (pg_name (i := 2) sc_need_program.nd rfl (Or.inl rfl)) pgs_nil)))
        (pss_one (ps_if (PW.pt (pw_or (pt_not (pt_val (pe_kn G_is_row (hr.mono (by decide)) (by rfl) T.g_is_row (pa_cons (pv 2) pa_nil)))) (pw_or1 (PW.pt (pw_and (pt_cmpR op_notN (pe_kn G_leads (hr.mono (by decide)) (by rfl) T.g_leads (pa_cons (pv 2) pa_nil)) pe_non (nomark _)) (pw_and1 (pt_cmpR op_ge (pe_kn G_leads (hr.mono (by decide)) (by rfl) T.g_leads (pa_cons (pv 2) pa_nil)) (pe_callB call_len_seq (by rfl) T.f_len (by decide +kernel) (pa_cons (pv 0) pa_nil)) (nomark _))))))))
          (pss_one ps_never)
          pss_nil)))
      (pss_one (ps_if (pt_cmpR op_notIn_seq (pe_ix ix_tup (pe_ix ix_tup (pv 0) (pe_un un_neg pe_int) (fun _ _ => rfl)) pe_int (fun _ _ => rfl)) (pe_gx (by rfl) T.o_LAST_ONES) (by rfl))
        (pss_one ps_never)
        pss_nil)))), ?_⟩
    refine ⟨_, rfl, .ref a, .ty "tuple", .type "tuple", .type "tuple", true, rfl, .ty _, tyx_tup ha, by rfl, true, rfl, ?_⟩
    refine iteF ?_
    refine ⟨_, rfl, a, _, rfl, .inr ha, _, _, rfl, rfl, _, rfl, ?_⟩
    refine ite2 (fun _ => ?_) (fun e => absurd ?_ e)
    · refine ⟨_, _, rfl, rfl, true, by simp; omega, iteF ?_⟩
      refine ⟨_, rfl, a, vs, rfl, ha, ?_⟩
      refine for_it walk_enumT (fun i σ H1 => Same H H1 ∧ ∃ x y, σ = [some (.ref a), x, y]) ⟨fun _ _ h => h, _, _, rfl⟩ (fun i σ H1 _ h => tl_same h.1 _ _ ha) ?_ ?_
      · rintro i x σ H1 H2 hi ⟨s, b, c, rfl⟩ ⟨U, x1, y, rfl, hU, rfl, e1, e2⟩
        obtain rfl : V.int (i : Nat) = x1 := Option.some.inj e1
        obtain ⟨r, hr1, ry⟩ := Paired.at1 pr e2
        have rok := ok.row i r hr1
        have s1 := s.trans (same_new (o := .tup [.int (i : Nat), y]) hU)
        refine ⟨_, _, rfl, sq_new, rfl, _, _, rfl, _, _, rfl, rfl, ?_⟩
        refine ⟨_, rfl, _, r, rfl, ry.same s1, rok, fun H3 s3 => ⟨true, rfl, iteF ?_⟩⟩
        refine ⟨_, rfl, _, r, rfl, ry.same (s1.trans s3), rok, fun H4 s4 => ⟨rfl, _, rfl, ?_⟩⟩
        cases e : lds r with
        | none => exact iteF (iteF ⟨(s1.trans s3).trans s4, _, _, rfl⟩)
        | some z =>
          refine iteT ⟨_, rfl, _, r, rfl, ry.same ((s1.trans s3).trans s4), rok, fun H5 s5 => ?_⟩
          rw [e]
          have hz := ok.way i r z hr1 e
          refine ⟨_, rfl, a, vs, rfl, .inr (tl_same (((s1.trans s3).trans s4).trans s5) _ _ ha), _, _, rfl, rfl, _, rfl, ?_⟩
          rw [hl]
          rw [show decide ((p.length : Int) ≤ z) = false by simp; omega]
          exact iteF ⟨((s1.trans s3).trans s4).trans s5, _, _, rfl⟩
      · rintro σ H1 ⟨s, b, c, rfl⟩
        obtain ⟨r, hr1, hl2⟩ := ok.last
        obtain ⟨v, hv, ⟨b1, rfl, hb⟩⟩ := Paired.at_ pr hr1
        refine ⟨_, rfl, _, rfl, _, _, _, _, rfl, rfl, tl_same s _ _ ha, atI_last (by rw [hl]; exact hv), _, _, _, _, rfl, rfl, tl_same s _ _ hb, atI0 _ _, _, _, rfl, .inr (T.tLAST H1), rfl, by decide, _, rfl, ?_⟩
        rw [inV_str]
        refine ite2 (fun e => absurd e ?_) (fun _ => q _ s)
        rcases hl2 with h | h <;> (rw [h]; decide)
    · simp; omega
theorem sc_need_inputs : FnScope ["thing", "word"] ["thing"] (defScope s_need_inputs) := ⟨rfl, rfl, rfl, by decide +kernel, rfl, by decide +kernel, by decide +kernel⟩
def InOk (l : List Int) : Prop := l.length = 8 ∧ ∀ z ∈ l, 0 ≤ z ∧ z ≤ 15
def sp_need_inputs (K : PySem.W.Frag) : Sp := fun vs H Q _ => ∃ (v : V) (l : List Int), vs = [v] ∧ IsAt K H v l ∧ InOk l ∧ ∀ H', Same H H' → Q .non H'
theorem G_need_inputs (T : Tx w K mg) : Kn PP w K mg base 3 (He.ga K "need_inputs") ["thing"] (sp_need_inputs K) := by
  have G_is_word := G_is_word (base := base) T
  refine kn_of T.d_need_inputs sc_need_inputs (fun _ _ _ _ _ _ us hl => match us, hl with | [_], _ => rfl) (fun vs H Q E h => ?_) fun cdv A outer s H vs Q E hr h => ?_
  · obtain ⟨v, r, rfl, _⟩ := h; rfl
  · obtain ⟨_, l, rfl, ⟨a, rfl, ha⟩, ok, q⟩ := h
    refine ⟨_, (pss_one (ps_if (PW.pt (pw_or (pt_not (pt_val (pe_callB call_isi (by rfl) T.f_isinstance (by decide +kernel) (pa_cons (pv 0) (pa_cons (pe_bltn (v := .ty "tuple") (by rfl) T.f_tuple (by decide +kernel) rfl) pa_nil))))) (pw_or (pt_cmpR op_ne (pe_callB call_len_seq (by rfl) T.f_len (by decide +kernel) (pa_cons (pv 0) pa_nil)) (pe_gx (by rfl) T.i_MANY_INPUTS) (nomark _)) (pw_or1 (pt_not (pt_val (pe_callB (cr_all rfl) (by rfl) T.f_all (by decide +kernel) (pa_cons (pe_lc (own := [("word", 1)]) (g := gName 1) rfl sc_need_inputs.nd (pi_tup (pv 0)) (blkOk_by (own := [("word", 1)]) (N := ["thing", "word"]) (sc := defScope s_need_inputs) (by decide +kernel)) (fun _ _ _ _ _ => (pg_name (i := 1) sc_need_inputs.nd rfl (Or.inl rfl))) (fun _ _ _ _ _ => pts_nil) (fun _ _ _ _ _ => (pe_kn G_is_word (hr.mono (by decide)) (by rfl) T.g_is_word (pa_cons (pv 1) pa_nil)))) pa_nil))))))))
        (pss_one ps_never)
        pss_nil)), ?_⟩
    refine ⟨_, rfl, .ref a, .ty "tuple", .type "tuple", .type "tuple", true, rfl, .ty _, tyx_tup ha, by rfl, true, rfl, ?_⟩
    refine iteF ⟨_, rfl, a, _, rfl, .inr ha, rfl, _, rfl, ?_⟩
    rw [List.length_map, ok.1]
    refine iteF ⟨_, rfl, _, rfl, ⟨_, ha⟩, fun D hD => ?_⟩
    refine lc_all (G := fun H' => SqT K H' a (l.map V.int)) walk_tup (fun i => true) (fun v a _ => v = .bl a) (fun _ _ _ _ h _ => h) (fun _ _ _ _ _ _ h _ => h) (by rw [List.length_map, ok.1]; decide) hD (fun H' s => tl_same s _ _ ha) ?_ ?_
    · rintro i x H3 H4 Qe hi s ⟨rfl, e⟩ qe
      rw [List.getElem?_map] at e
      obtain ⟨z, e1, rfl⟩ := Option.map_eq_some_iff.mp e
      obtain ⟨h0, h1⟩ := ok.2 z (List.mem_of_getElem? e1)
      refine ⟨rfl, _, rfl, _, rfl, ?_⟩
      exact qe _ _ (fun _ _ h => h) (by simp [h0, h1])
    · intro H3 acc s hl pr
      rw [paired_map pr] at hl
      refine ⟨_, _, rfl, sq_lst hl, true, by simp, iteF (q _ s)⟩
theorem sc_meant : FnScope ["words"] ["words"] (defScope s_meant) := ⟨rfl, rfl, rfl, by decide +kernel, rfl, by decide +kernel, by decide +kernel⟩
/-- what one, two or three words mean -/
def meantF (l : List Int) : Option Int :=
  match l with
  | [a] => some a
  | [a, b] => if a = b then some a else none
  | [a, b, c] => if b = c then some b else if a = b ∨ a = c then some a else none
  | _ => none
def sp_meant : Sp := fun vs H Q _ => ∃ (a : Addr) (l : List Int), vs = [.ref a] ∧ H a = some (.lst (l.map V.int)) ∧ 1 ≤ l.length ∧ l.length ≤ 3 ∧ ∀ H', Same H H' → Q (ov (meantF l)) H'
theorem inV_int (x : Int) : ∀ l : List Int, inV (.int x) (l.map V.int) = l.contains x
  | [] => rfl
  | y :: l => by
    have := inV_int x l
    unfold inV at this ⊢
    rw [List.map_cons, List.any_cons, this, List.contains_cons]
    show (y == x || _) = _
    rw [show (y == x) = (x == y) from Bool.eq_iff_iff.mpr ⟨fun h => by simpa using (eq_of_beq h).symm, fun h => by simpa using (eq_of_beq h).symm⟩]
theorem cut01 (x : V) (xs : List V) : cutV (x :: xs) none (some 1) = [x] := by
  unfold cutV HT.sIx
  simp
theorem eqv_lI (ns ms : List Int) : PyData.eqv (.list (ns.map .int)) (.list (ms.map .int)) = decide (ns = ms) := by
  rw [PyData.eqv, eqv_ints]
theorem sh_lI (ns : List Int) : SeqAt.shaped (.list (ns.map .int)) = true := by
  simp [SeqAt.shaped, PyData.canLay0, PyData.depth, can_ints, dep_ints]
theorem meant2 (x y : Int) : meantF [x, y] = if x = y then some x else none := rfl
theorem meant3 (a b c : Int) : meantF [a, b, c] = if b = c then some b else if a = b ∨ a = c then some a else none := rfl
theorem G_meant (T : Tx w K mg) : Kn PP w K mg base 1 (He.ga K "meant") ["words"] sp_meant := by
  refine kn_of T.d_meant sc_meant (fun _ _ _ _ _ _ us hl => match us, hl with | [_], _ => rfl) (fun vs H Q E h => ?_) fun cdv A outer s H vs Q E hr h => ?_
  · obtain ⟨v, r, rfl, _⟩ := h; rfl
  · obtain ⟨a, l, rfl, ha, l1, l3, q⟩ := h
    have hs : SqL K H a (l.map V.int) := sq_lst ha
    refine ⟨_, (pss_cons (ps_if (PW.pt (pw_and (pt_cmpR op_eq (pe_callB call_len_seq (by rfl) T.f_len (by decide +kernel) (pa_cons (pv 0) pa_nil)) pe_int (nomark _)) (pw_and1 (pt_cmpR op_eq (pe_ix ix_list (pv 0) pe_int (fun _ _ => rfl)) (pe_ix ix_list (pv 0) pe_int (fun _ _ => rfl)) (nomark _)))))
        (pss_one (ps_ret (pe_ix ix_list (pv 0) pe_int (fun _ _ => rfl))))
        pss_nil)
      (pss_cons (ps_if (PW.pt (pw_and (pt_cmpR op_eq (pe_callB call_len_seq (by rfl) T.f_len (by decide +kernel) (pa_cons (pv 0) pa_nil)) pe_int (nomark _)) (pw_and1 (pt_cmpR op_in_seq (pe_ix ix_list (pv 0) pe_int (fun _ _ => rfl)) (pe_slice sl_list (pv 0) (po_some pe_int) po_none) (by rfl)))))
        (pss_one (ps_ret (pe_ix ix_list (pv 0) pe_int (fun _ _ => rfl))))
        pss_nil)
      (pss_one (ps_ret (pe_ifExp (pt_cmpR (op_eqD hr.units) (pv 0) (pe_op op_rep (pe_slice sl_list (pv 0) po_none (po_some pe_int)) (pe_callB call_len_seq (by rfl) T.f_len (by decide +kernel) (pa_cons (pv 0) pa_nil))) (nomark _)) (pe_ix ix_list (pv 0) pe_int (fun _ _ => rfl)) pe_non))))), ?_⟩
    rcases l with _ | ⟨x, _ | ⟨y, _ | ⟨z, _ | ⟨u, l⟩⟩⟩⟩
    · simp at l1
    · refine ⟨_, rfl, a, _, rfl, .inl hs, rfl, _, rfl, iteF (iteF ?_)⟩
      refine ⟨_, rfl, a, _, rfl, .inl hs, rfl, _, rfl, iteF (iteF ?_)⟩
      refine ⟨_, rfl, _, rfl, _, rfl, a, _, rfl, hs, fun p hp => ?_⟩
      rw [List.map_cons, cut01]
      have hs1 : SqL K (upd H p (.lst [V.int x])) a ([x].map V.int) := sq_lst (by rw [upd_ne (ne_of_none ha hp)]; exact ha)
      refine ⟨_, rfl, a, _, rfl, .inl hs1, p, _, _, rfl, rfl, upd_same, by show -(2 ^ 63) ≤ ((1 : Nat) : Int); decide, by show ((1 : Nat) : Int) < 2 ^ 63; decide, by show 1 * Int.toNat ((1 : Nat) : Int) ≤ sizeLine; decide, fun r hr => ?_⟩
      have hs2 : SqL K (upd (upd H p (.lst [V.int x])) r (.lst (List.replicate (Int.toNat (1 : Nat)) [V.int x]).flatten)) a ([x].map V.int) := sq_lst (by rw [upd_ne (ne_of_none (by rw [upd_ne (ne_of_none ha hp)]; exact ha) hr), upd_ne (ne_of_none ha hp)]; exact ha)
      have sm : Same H (upd (upd H p (.lst [V.int x])) r (.lst (List.replicate (Int.toNat (1 : Nat)) [V.int x]).flatten)) := (same_new hp).trans (same_new hr)
      refine ⟨.list ([x].map .int), .list ((List.replicate 1 x).map .int), .lst hs2 dp_ints, .lst (sq_lst upd_same) (.cons (.int _) .nil), sh_lI _, sh_lI _, _, rfl, ?_⟩
      rw [eqv_lI]
      refine ite2 (fun e => ?_) (fun e => absurd (by simp) e)
      exact ⟨_, rfl, _, _, _, _, rfl, rfl, hs2, atI0 _ _, q _ sm⟩
    · refine ⟨_, rfl, a, _, rfl, .inl hs, rfl, _, rfl, iteF (iteF ?_)⟩
      refine ⟨_, rfl, a, _, rfl, .inl hs, rfl, _, rfl, iteF (iteF ?_)⟩
      refine ⟨_, rfl, _, rfl, _, rfl, a, _, rfl, hs, fun p hp => ?_⟩
      rw [List.map_cons, cut01]
      have hs1 : SqL K (upd H p (.lst [V.int x])) a ([x, y].map V.int) := sq_lst (by rw [upd_ne (ne_of_none ha hp)]; exact ha)
      refine ⟨_, rfl, a, _, rfl, .inl hs1, p, _, _, rfl, rfl, upd_same, by show -(2 ^ 63) ≤ ((2 : Nat) : Int); decide, by show ((2 : Nat) : Int) < 2 ^ 63; decide, by show 1 * Int.toNat ((2 : Nat) : Int) ≤ sizeLine; decide, fun r hr => ?_⟩
      have hs2 : SqL K (upd (upd H p (.lst [V.int x])) r (.lst (List.replicate (Int.toNat (2 : Nat)) [V.int x]).flatten)) a ([x, y].map V.int) := sq_lst (by rw [upd_ne (ne_of_none (by rw [upd_ne (ne_of_none ha hp)]; exact ha) hr), upd_ne (ne_of_none ha hp)]; exact ha)
      have sm : Same H (upd (upd H p (.lst [V.int x])) r (.lst (List.replicate (Int.toNat (2 : Nat)) [V.int x]).flatten)) := (same_new hp).trans (same_new hr)
      refine ⟨.list ([x, y].map .int), .list ((List.replicate 2 x).map .int), .lst hs2 dp_ints, .lst (sq_lst upd_same) (.cons (.int _) (.cons (.int _) .nil)), sh_lI _, sh_lI _, _, rfl, ?_⟩
      rw [eqv_lI]
      have q2 := q _ sm
      rw [meant2] at q2
      refine ite2 (fun e => ?_) (fun e => ?_)
      · have e : y = x := by simpa [List.replicate] using e
        rw [if_pos e.symm] at q2
        exact ⟨_, rfl, _, _, _, _, rfl, rfl, hs2, atI0 _ _, q2⟩
      · have e : ¬ x = y := fun z => e (by simp [List.replicate, z])
        rw [if_neg e] at q2
        exact q2
    · have q1 := q _ (fun _ _ h => h)
      rw [meant3] at q1
      refine ⟨_, rfl, a, _, rfl, .inl hs, rfl, _, rfl, iteT ?_⟩
      refine ⟨_, rfl, _, _, _, _, rfl, rfl, hs, rfl, _, rfl, _, _, _, _, rfl, rfl, hs, rfl, rfl, _, rfl, ?_⟩
      refine ite2 (fun e => ?_) (fun e => ?_)
      · have e : y = z := by simpa using e
        rw [if_pos e] at q1
        exact ⟨_, rfl, _, _, _, _, rfl, rfl, hs, rfl, q1⟩
      · have e : ¬ y = z := fun z => e (by simp [z])
        rw [if_neg e] at q1
        refine ⟨_, rfl, a, _, rfl, .inl hs, rfl, _, rfl, iteT ?_⟩
        refine ⟨_, rfl, _, _, _, _, rfl, rfl, hs, atI0 _ _, _, rfl, _, rfl, a, _, rfl, hs, fun p hp => ?_⟩
        rw [List.map_cons, cut1]
        refine ⟨p, [y, z].map V.int, rfl, .inl (sq_lst upd_same), rfl, rfl, _, rfl, ?_⟩
        have hs1 : SqL K (upd H p (.lst ([y, z].map V.int))) a ([x, y, z].map V.int) := sq_lst (by rw [upd_ne (ne_of_none ha hp)]; exact ha)
        rw [inV_int, if_neg (by decide)]
        have q2 := q _ (same_new (o := .lst ([y, z].map V.int)) hp)
        rw [meant3, if_neg e] at q2
        refine ite2 (fun e => ?_) (fun e2 => ?_)
        · have e : x = y ∨ x = z := by simpa using e
          rw [if_pos e] at q2
          exact ⟨_, rfl, _, _, _, _, rfl, rfl, hs1, atI0 _ _, q2⟩
        · have e2 : ¬ (x = y ∨ x = z) := fun z => e2 (by simpa using z)
          have ha2 : (upd H p (.lst ([y, z].map V.int))) a = some (.lst ([x, y, z].map V.int)) := by rw [upd_ne (ne_of_none ha hp)]; exact ha
          rw [if_neg e2] at q2
          refine ⟨_, rfl, _, rfl, _, rfl, a, _, rfl, hs1, fun p2 hp2 => ?_⟩
          rw [show cutV ([x, y, z].map V.int) none (some 1) = [V.int x] from cut01 _ _]
          have ha3 : (upd (upd H p (.lst ([y, z].map V.int))) p2 (.lst [V.int x])) a = some (.lst ([x, y, z].map V.int)) := by rw [upd_ne (ne_of_none ha2 hp2)]; exact ha2
          refine ⟨_, rfl, a, _, rfl, .inl (sq_lst ha3), p2, _, _, rfl, rfl, upd_same, by show -(2 ^ 63) ≤ ((3 : Nat) : Int); decide, by show ((3 : Nat) : Int) < 2 ^ 63; decide, by show 1 * Int.toNat ((3 : Nat) : Int) ≤ sizeLine; decide, fun r hr => ?_⟩
          have q3 := q _ (((same_new (o := .lst ([y, z].map V.int)) hp).trans (same_new (o := .lst [V.int x]) hp2)).trans (same_new (o := .lst (List.replicate (Int.toNat (3 : Nat)) [V.int x]).flatten) hr))
          rw [meant3, if_neg e, if_neg e2] at q3
          refine ⟨.list ([x, y, z].map .int), .list ((List.replicate 3 x).map .int), .lst (sq_lst (by rw [upd_ne (ne_of_none ha3 hr)]; exact ha3)) dp_ints, .lst (sq_lst upd_same) (.cons (.int _) (.cons (.int _) (.cons (.int _) .nil))), sh_lI _, sh_lI _, _, rfl, ?_⟩
          rw [eqv_lI]
          refine ite2 (fun e => absurd (.inl ?_) e2) (fun e => q3)
          have : y = x ∧ z = x := by simpa [List.replicate] using e
          exact this.1.symm
    · simp at l3
end

end Sw
/-! SwM2 -/
namespace Sw
set_option Elab.async false
set_option linter.all false
set_option maxRecDepth 100000
set_option maxHeartbeats 4000000
open PySem PySem.Spec PyProof.Rows L2
/-! ### the machine, plainly -/
structure SS where
  at_ : Int
  words : List Int
  store : List Int
  count : Int
  used : Bool
deriving DecidableEq
structure MS where
  at_ : Int
  words : List Int
  store : List Int
  said : List Int
  count : Int
  stands : List SS
  over : Option Str
  done : Int
deriving DecidableEq
def getI (l : List Int) (i : Int) : Int := l.getD i.toNat 0
def putI (l : List Int) (i : Int) (z : Int) : List Int := l.set i.toNat z
def rowAt (p : List Rw) (i : Int) : Rw := p.getD i.toNat ("", [])
def wsOf (r : Rw) (st : MS) : List Int := (rds r).map (getI st.words)
def madeF (inp : List Int) (r : Rw) (st : MS) : Int :=
  if r.1 = "set" then r.2.getD 1 0
  else if r.1 = "ask" then getI inp (r.2.getD 1 0)
  else
    let ws := wsOf r st
    if r.1 = "copy" then getI ws 0
    else if r.1 = "take" then getI st.store (getI ws 0)
    else if r.1 = "pick" then (if getI ws 0 ≠ 0 then getI ws 1 else getI ws 2)
    else if r.1 = "add" then (getI ws 0 + getI ws 1) % 16
    else if r.1 = "mix" then Builtin.bitXor (getI ws 0) (getI ws 1)
    else if r.1 = "less" then (if getI ws 0 < getI ws 1 then 1 else 0)
    else (if getI ws 0 = getI ws 1 then 1 else 0)
/-- the first that wasn't gone back to, and those behind it -/
def fresh : List SS → Option (SS × List SS)
  | [] => none
  | s :: r => if s.used then fresh r else some (s, r)
def stumbleF (st : MS) : MS :=
  match fresh st.stands with
  | none => { st with over := some "slip" }
  | some (s, r) => { st with at_ := s.at_, words := s.words, store := s.store, count := s.count, stands := { s with used := true } :: r }
def tellF (z : Int) (st : MS) : MS :=
  if st.count < st.said.length ∧ getI st.said st.count ≠ z then stumbleF st
  else { st with said := if st.count = st.said.length then st.said ++ [z] else st.said, count := st.count + 1, at_ := st.at_ + 1 }
def keepF (st : MS) : MS :=
  { st with at_ := st.at_ + 1, stands := ⟨st.at_ + 1, st.words, st.store, st.count, false⟩ :: st.stands.take 1 }
def manyOf (r : Rw) : Nat := ((copL.lookup r.1).getD 1).toNat
def foundOf (r : Rw) (st : MS) : List (Option Int) := (List.range ((rds r).length / manyOf r)).map fun i => meantF (((wsOf r st).drop (i * manyOf r)).take (manyOf r))
def fnd (l : List (Option Int)) (i : Nat) : Int := ((l.getD i none).getD 0)
def outF (r : Rw) (st : MS) : MS :=
  let f := foundOf r st
  if none ∈ f then stumbleF st
  else if r.1 = "tell" ∨ r.1 = "tell2" ∨ r.1 = "tell3" then tellF (fnd f 0) st
  else if (r.1 = "if" ∨ r.1 = "if2" ∨ r.1 = "if3") ∧ fnd f 0 ≠ 0 then { st with at_ := (lds r).getD 0 }
  else if r.1 = "put" ∨ r.1 = "put2" ∨ r.1 = "put3" then { st with store := putI st.store (fnd f 0) (fnd f 1), at_ := st.at_ + 1 }
  else { st with at_ := st.at_ + 1 }
def stepF (p : List Rw) (inp : List Int) (st : MS) : MS :=
  let r := rowAt p st.at_
  if r.1 = "end" then { st with over := some "end" }
  else if r.1 = "go" then { st with at_ := r.2.getD 0 0 }
  else if r.1 = "keep" then keepF st
  else if (copL.lookup r.1).isSome then outF r st
  else { st with words := putI st.words (r.2.getD 0 0) (madeF inp r st), at_ := st.at_ + 1 }
def bt (p : List Rw) (inp : List Int) (st : MS) : MS := if st.over ≠ none then st else stepF p inp { st with done := st.done + 1 }
def ms0 : MS := ⟨0, List.replicate 32 0, List.replicate 16 0, [], 0, [], none, 0⟩
/-! what always holds -/
def Wds (n : Nat) (l : List Int) : Prop := l.length = n ∧ ∀ z ∈ l, 0 ≤ z ∧ z ≤ 15
structure GoodS (n : Nat) (s : SS) : Prop where
  at0 : 0 ≤ s.at_
  at1 : s.at_ < n
  words : Wds 32 s.words
  store : Wds 16 s.store
  count : 0 ≤ s.count
structure Good (p : List Rw) (st : MS) : Prop where
  at0 : 0 ≤ st.at_
  at1 : st.at_ < p.length
  words : Wds 32 st.words
  store : Wds 16 st.store
  count : 0 ≤ st.count
  stands : ∀ s ∈ st.stands, GoodS p.length s
  two : st.stands.length ≤ 2
  done : 0 ≤ st.done
  said : st.said.length ≤ st.done
  over : st.over = none ∨ st.over = some "end" ∨ st.over = some "slip"
  telled : ∀ z ∈ st.said, 0 ≤ z ∧ z ≤ 15
theorem Wds.get {n : Nat} {l : List Int} (h : Wds n l) {i : Int} (h0 : 0 ≤ i) (h1 : i < n) : l[i.toNat]? = some (getI l i) ∧ 0 ≤ getI l i ∧ getI l i ≤ 15 := by
  have hl : i.toNat < l.length := by rw [h.1]; omega
  have e : l[i.toNat]? = some (getI l i) := by
    unfold getI
    rw [List.getD_eq_getElem?_getD, List.getElem?_eq_getElem hl]
    rfl
  exact ⟨e, h.2 _ (List.mem_of_getElem? e)⟩
theorem Wds.put {n : Nat} {l : List Int} (h : Wds n l) {i z : Int} (h0 : 0 ≤ z) (h1 : z ≤ 15) : Wds n (putI l i z) := by
  refine ⟨by unfold putI; rw [List.length_set]; exact h.1, fun y hy => ?_⟩
  rcases List.mem_or_eq_of_mem_set hy with m | m
  · exact h.2 y m
  · subst m; exact ⟨h0, h1⟩
theorem good0 {p : List Rw} (h : 1 ≤ p.length) : Good p ms0 := by
  refine ⟨by decide, by show (0 : Int) < p.length; omega, ⟨by decide, ?_⟩, ⟨by decide, ?_⟩, by decide, fun s h => by simp [ms0] at h, by decide, by decide, by decide, .inl rfl, fun z h => by simp [ms0] at h⟩
  · intro z hz; have := List.eq_of_mem_replicate hz; subst this; decide
  · intro z hz; have := List.eq_of_mem_replicate hz; subst this; decide
/-- the ops -/
theorem ops {x f : Str} (h : formsL.lookup x = some f) : (x = "set" ∧ f = "sn") ∨ (x = "copy" ∧ f = "sr") ∨ (x = "add" ∧ f = "srr") ∨ (x = "less" ∧ f = "srr") ∨ (x = "same" ∧ f = "srr") ∨ (x = "mix" ∧ f = "srr") ∨ (x = "pick" ∧ f = "srrr") ∨ (x = "ask" ∧ f = "sk") ∨ (x = "take" ∧ f = "sr") ∨
    (x = "tell" ∧ f = "r") ∨ (x = "put" ∧ f = "rr") ∨ (x = "go" ∧ f = "p") ∨ (x = "if" ∧ f = "rp") ∨ (x = "end" ∧ f = "") ∨ (x = "hold" ∧ f = "rr") ∨ (x = "tell2" ∧ f = "rr") ∨ (x = "put2" ∧ f = "rrrr") ∨ (x = "if2" ∧ f = "rrp") ∨ (x = "tell3" ∧ f = "rrr") ∨ (x = "put3" ∧ f = "rrrrrr") ∨ (x = "if3" ∧ f = "rrrp") ∨ (x = "keep" ∧ f = "") := by
  have := mem_lookup h
  simpa only [formsL, List.mem_cons, List.not_mem_nil, or_false, Prod.mk.injEq] using this
/-- the part at i of a row -/
theorem RwOk.part {r : Rw} (h : RwOk r) {i c : Nat} (e : (fmO r.1).cps[i]? = some c) : ∃ z, r.2[i]? = some z ∧ 0 ≤ z ∧ ∃ g, greatL.lookup ⟨#[c]⟩ = some g ∧ z ≤ g := by
  have hl : i < r.2.length := by
    rw [h.len]
    rcases Nat.lt_or_ge i (fmO r.1).cps.size with q | q
    · exact q
    · rw [Array.getElem?_eq_none q] at e; cases e
  obtain ⟨a, b⟩ := h.rg i c r.2[i] e (List.getElem?_eq_getElem hl)
  exact ⟨_, List.getElem?_eq_getElem hl, a, b⟩
theorem RwOk.pm {r : Rw} (h : RwOk r) {c : Nat} {z : Int} (m : z ∈ parts r c) : 0 ≤ z ∧ ∃ g, greatL.lookup ⟨#[c]⟩ = some g ∧ z ≤ g := by
  unfold parts at m
  obtain ⟨i, _, e⟩ := List.mem_filterMap.mp m
  by_cases q : (fmO r.1).cps[i]? = some c
  · rw [if_pos q] at e
    exact h.rg i c z q e
  · rw [if_neg q] at e; cases e
theorem RwOk.box {r : Rw} (h : RwOk r) {z : Int} (m : z ∈ rds r) : 0 ≤ z ∧ z < 32 := by
  obtain ⟨a, g, b, c⟩ := h.pm m
  have : g = 31 := by
    have e : greatL.lookup (⟨#[114]⟩ : Str) = some 31 := by decide
    rw [e] at b; injection b with b; exact b.symm
  subst this
  exact ⟨a, by omega⟩

end Sw
/-! SwM3 -/
namespace Sw
set_option Elab.async false
set_option linter.all false
set_option maxRecDepth 100000
set_option maxHeartbeats 4000000
open PySem PySem.Spec PyProof.Rows L2
theorem rowAt_get {p : List Rw} {i : Int} (h0 : 0 ≤ i) (h1 : i < p.length) : p[i.toNat]? = some (rowAt p i) := by
  have hl : i.toNat < p.length := by omega
  unfold rowAt
  rw [List.getD_eq_getElem?_getD, List.getElem?_eq_getElem hl]
  rfl
theorem row_ok {p : List Rw} {i : Int} (ok : PgOk p) (h0 : 0 ≤ i) (h1 : i < p.length) : RwOk (rowAt p i) := ok.row _ _ (rowAt_get h0 h1)
theorem next_lt {p : List Rw} {i : Int} (ok : PgOk p) (h0 : 0 ≤ i) (h1 : i < p.length) (h2 : (rowAt p i).1 ≠ "go") (h3 : (rowAt p i).1 ≠ "end") : i + 1 < p.length := by
  rcases Int.lt_or_le (i + 1) p.length with h | h
  · exact h
  · exfalso
    obtain ⟨r, e, q⟩ := ok.last
    have e2 := rowAt_get h0 h1
    rw [show i.toNat = p.length - 1 by omega, e] at e2
    injection e2 with e2
    subst e2
    rcases q with q | q
    · exact h2 q
    · exact h3 q
theorem go_row {r : Rw} (h : RwOk r) (e : r.1 = "go") : ∃ z, r.2 = [z] ∧ 0 ≤ z ∧ lds r = some z := by
  have l := h.len
  rw [e] at l
  obtain ⟨x, ns⟩ := r
  obtain rfl : x = "go" := e
  have l : ns.length = 1 := l
  match ns, l with
  | [z], _ =>
    obtain ⟨h0, _⟩ := h.rg 0 112 z rfl rfl
    exact ⟨z, rfl, h0, rfl⟩
theorem xor_rg : ∀ a b : Fin 16, 0 ≤ Builtin.bitXor ((a.val : Nat) : Int) ((b.val : Nat) : Int) ∧ Builtin.bitXor ((a.val : Nat) : Int) ((b.val : Nat) : Int) ≤ 15 := by decide +kernel
theorem xor_w {a b : Int} (h0 : 0 ≤ a) (h1 : a ≤ 15) (h2 : 0 ≤ b) (h3 : b ≤ 15) : 0 ≤ Builtin.bitXor a b ∧ Builtin.bitXor a b ≤ 15 := by
  have := xor_rg ⟨a.toNat, by omega⟩ ⟨b.toNat, by omega⟩
  rw [show ((a.toNat : Nat) : Int) = a by omega, show ((b.toNat : Nat) : Int) = b by omega] at this
  exact this
theorem meantF_mem {l : List Int} {z : Int} (h : meantF l = some z) : z ∈ l := by
  unfold meantF at h
  split at h
  · injection h with h; subst h; simp
  · split at h
    · injection h with h; subst h; simp
    · cases h
  · split at h
    · injection h with h; subst h; simp
    · split at h
      · injection h with h; subst h; simp
      · cases h
  · cases h
theorem getI_w {l : List Int} (h : ∀ z ∈ l, 0 ≤ z ∧ z ≤ 15) (i : Int) : 0 ≤ getI l i ∧ getI l i ≤ 15 := by
  unfold getI
  rw [List.getD_eq_getElem?_getD]
  cases e : l[i.toNat]? with
  | none => decide
  | some z => exact h z (List.mem_of_getElem? e)
section
variable {p : List Rw} {inp : List Int} {st : MS}
theorem ws_w (g : Good p st) {r : Rw} : ∀ z ∈ wsOf r st, 0 ≤ z ∧ z ≤ 15 := fun z h => by
  obtain ⟨i, _, rfl⟩ := List.mem_map.mp h
  exact getI_w g.words.2 i
theorem made_w (g : Good p st) (hi : InOk inp) {r : Rw} (ok : RwOk r) : 0 ≤ madeF inp r st ∧ madeF inp r st ≤ 15 := by
  unfold madeF
  have hw := @getI_w (wsOf r st) (ws_w g)
  by_cases e : r.1 = "set"
  · rw [if_pos e]
    have l := ok.len
    rw [e] at l
    obtain ⟨x, ns⟩ := r
    obtain rfl : x = "set" := e
    have l : ns.length = 2 := l
    match ns, l with
    | [a, z], _ =>
      obtain ⟨h0, q, h1, h2⟩ := ok.rg 1 110 z rfl rfl
      have : q = 15 := by
        have e : greatL.lookup (⟨#[110]⟩ : Str) = some 15 := by decide
        rw [e] at h1; injection h1 with h1; exact h1.symm
      subst this
      exact ⟨h0, h2⟩
  · rw [if_neg e]
    split
    · exact getI_w hi.2 _
    · dsimp only
      have h0 := hw 0
      have h1 := hw 1
      have h2 := hw 2
      split
      · exact h0
      · split
        · exact getI_w g.store.2 _
        · split
          · split
            · exact h1
            · exact h2
          · split
            · omega
            · split
              · exact xor_w h0.1 h0.2 h1.1 h1.2
              · split <;> split <;> decide
theorem good_stumble (g : Good p st) : Good p (stumbleF st) := by
  unfold stumbleF
  have key : ∀ l : List SS, (∀ s ∈ l, GoodS p.length s) → ∀ s r, fresh l = some (s, r) → GoodS p.length s ∧ (∀ t ∈ r, GoodS p.length t) ∧ r.length < l.length := by
    intro l
    induction l with
    | nil => intro _ s r h; cases h
    | cons a l ih =>
      intro hl s r h
      unfold fresh at h
      split at h
      · obtain ⟨h1, h2, h3⟩ := ih (fun s hs => hl s (.tail _ hs)) s r h
        exact ⟨h1, h2, Nat.lt_succ_of_lt h3⟩
      · injection h with h
        injection h with h1 h2
        subst h1 h2
        exact ⟨hl _ (.head _), fun t ht => hl t (.tail _ ht), Nat.lt_succ_self _⟩
  cases e : fresh st.stands with
  | none => exact { g with over := .inr (.inr rfl) }
  | some q =>
    obtain ⟨s, r⟩ := q
    obtain ⟨h1, h2, h3⟩ := key _ g.stands s r e
    have := g.two
    refine ⟨h1.at0, h1.at1, h1.words, h1.store, h1.count, fun t ht => ?_, by show r.length + 1 ≤ 2; omega, g.done, g.said, g.over, g.telled⟩
    rcases List.mem_cons.mp ht with m | m
    · subst m
      exact ⟨h1.at0, h1.at1, h1.words, h1.store, h1.count⟩
    · exact h2 t m
theorem good_tell (g : Good p st) (hs : st.said.length + 1 ≤ st.done) (hn : st.at_ + 1 < p.length) {z : Int} (h0 : 0 ≤ z) (h1 : z ≤ 15) : Good p (tellF z st) := by
  unfold tellF
  split
  · exact good_stumble g
  · refine ⟨by have := g.at0; show 0 ≤ st.at_ + 1; omega, hn, g.words, g.store, by have := g.count; show 0 ≤ st.count + 1; omega, g.stands, g.two, g.done, ?_, g.over, ?_⟩
    · show ((if st.count = st.said.length then st.said ++ [z] else st.said).length : Int) ≤ st.done
      split
      · rw [List.length_append, List.length_singleton]
        omega
      · exact g.said
    · show ∀ y ∈ (if st.count = st.said.length then st.said ++ [z] else st.said), _
      split
      · intro y hy
        rcases List.mem_append.mp hy with m | m
        · exact g.telled y m
        · rw [List.mem_singleton.mp m]; exact ⟨h0, h1⟩
      · exact g.telled
theorem found_w (g : Good p st) {r : Rw} {i : Nat} : 0 ≤ fnd (foundOf r st) i ∧ fnd (foundOf r st) i ≤ 15 := by
  unfold fnd
  rw [List.getD_eq_getElem?_getD]
  cases e : (foundOf r st)[i]? with
  | none => decide
  | some q =>
    cases q with
    | none => decide
    | some z =>
      have := List.mem_of_getElem? e
      unfold foundOf at this
      obtain ⟨j, _, e2⟩ := List.mem_map.mp this
      have := meantF_mem e2
      exact ws_w g _ (List.mem_of_mem_drop (List.mem_of_mem_take this))
theorem good_out (g : Good p st) (ok : PgOk p) (hs : st.said.length + 1 ≤ st.done) (h2 : (rowAt p st.at_).1 ≠ "go") (h3 : (rowAt p st.at_).1 ≠ "end") : Good p (outF (rowAt p st.at_) st) := by
  have hn := next_lt ok g.at0 g.at1 h2 h3
  have ha : 0 ≤ st.at_ + 1 := by have := g.at0; omega
  unfold outF
  dsimp only
  split
  · exact good_stumble g
  · split
    · exact good_tell g hs hn (found_w g).1 (found_w g).2
    · split
      · rename_i h
        have rk := row_ok ok g.at0 g.at1
        cases e : lds (rowAt p st.at_) with
        | none => exact { g with at0 := Int.le_refl _, at1 := by have := ok.lo; show (0 : Int) < _; omega }
        | some z =>
          have hz := ok.way _ _ _ (rowAt_get g.at0 g.at1) e
          unfold lds at e
          have m : z ∈ parts (rowAt p st.at_) 112 := by
            cases l : parts (rowAt p st.at_) 112 with
            | nil => rw [l] at e; cases e
            | cons a b => rw [l] at e; injection e with e; subst e; exact .head _
          exact { g with at0 := (rk.pm m).1, at1 := hz }
      · split
        · exact { g with at0 := ha, at1 := hn, store := g.store.put (found_w g).1 (found_w g).2 }
        · exact { g with at0 := ha, at1 := hn }
theorem good_step (g : Good p st) (ok : PgOk p) (hi : InOk inp) (hs : st.said.length + 1 ≤ st.done) : Good p (stepF p inp st) := by
  unfold stepF
  dsimp only
  split
  · exact { g with over := .inr (.inl rfl) }
  · rename_i h3
    split
    · rename_i h2
      obtain ⟨z, e, h0, e2⟩ := go_row (row_ok ok g.at0 g.at1) h2
      have hz := ok.way _ _ _ (rowAt_get g.at0 g.at1) e2
      refine { g with at0 := ?_, at1 := ?_ }
      · rw [e]; exact h0
      · rw [e]; exact hz
    · rename_i h2
      have hn := next_lt ok g.at0 g.at1 h2 h3
      have ha : 0 ≤ st.at_ + 1 := by have := g.at0; omega
      split
      · refine { g with at0 := ha, at1 := hn, stands := fun s hs => ?_, two := ?_ }
        · rcases List.mem_cons.mp hs with m | m
          · subst m; exact ⟨ha, hn, g.words, g.store, g.count⟩
          · exact g.stands s (List.mem_of_mem_take m)
        · show (st.stands.take 1).length + 1 ≤ 2
          rw [List.length_take]; omega
      · split
        · exact good_out g ok hs h2 h3
        · exact { g with at0 := ha, at1 := hn, words := g.words.put (made_w g hi (row_ok ok g.at0 g.at1)).1 (made_w g hi (row_ok ok g.at0 g.at1)).2 }
theorem good_bt (g : Good p st) (ok : PgOk p) (hi : InOk inp) : Good p (bt p inp st) := by
  unfold bt
  split
  · exact g
  · have g1 : Good p { st with done := st.done + 1 } := { g with done := by have := g.done; show 0 ≤ st.done + 1; omega, said := by have := g.said; show (st.said.length : Int) ≤ st.done + 1; omega }
    exact good_step g1 ok hi (by have := g.said; show (st.said.length : Int) + 1 ≤ st.done + 1; omega)
end

end Sw
/-! SwD4 -/
namespace Sw
set_option Elab.async false
set_option linter.all false
set_option maxRecDepth 100000
set_option maxHeartbeats 4000000
open PySem PySem.Spec PyProof.Rows L2
/-! ### the machine on the heap -/
def sfs (at_ words store count used : V) : List (Str × V) := [("at", at_), ("words", words), ("store", store), ("count", count), ("used", used)]
def mfs (rows given at_ words store said count stands over done : V) : List (Str × V) :=
  [("rows", rows), ("given", given), ("at", at_), ("words", words), ("store", store), ("said", said), ("count", count), ("stands", stands), ("over", over), ("done", done)]
def oS : Option Str → V
  | none => .non
  | some x => .str x
section
variable {w : World} {K : PySem.W.Frag} {mg : Str → Option Value} {base : Heap}
abbrev cS (K : PySem.W.Frag) : Addr := He.ga K "Stand"
abbrev cM (K : PySem.W.Frag) : Addr := He.ga K "Machine"
/-- a Stand at x -/
def StO (K : PySem.W.Frag) (H : Hp) (x : Addr) (s : SS) : Prop := ∃ dx a b, H x = some (.ins (cS K) dx (sfs (.int s.at_) (.ref a) (.ref b) (.int s.count) (.bl s.used))) ∧ SqT K H a (s.words.map V.int) ∧ SqT K H b (s.store.map V.int)
def StAt (K : PySem.W.Frag) (H : Hp) (v : V) (s : SS) : Prop := ∃ x, v = .ref x ∧ StO K H x s
/-- the machine at m, what is its own in fp -/
structure MO (K : PySem.W.Frag) (H : Hp) (m : Addr) (p : List Rw) (inp : List Int) (st : MS) (va vi : V) (dm lw ls ld lt : Addr) (xs : List Addr) : Prop where
  nd : (m :: lw :: ls :: ld :: lt :: xs).Nodup
  o : H m = some (.ins (cM K) dm (mfs va vi (.int st.at_) (.ref lw) (.ref ls) (.ref ld) (.int st.count) (.ref lt) (oS st.over) (.int st.done)))
  rows : PgAt K H va p
  given : IsAt K H vi inp
  w : H lw = some (.lst (st.words.map V.int))
  s : H ls = some (.lst (st.store.map V.int))
  d : H ld = some (.lst (st.said.map V.int))
  t : H lt = some (.lst (xs.map V.ref))
  sts : Paired (StO K H) xs st.stands
def Mch (K : PySem.W.Frag) (H : Hp) (m : Addr) (p : List Rw) (inp : List Int) (st : MS) (fp : List Addr) : Prop := ∃ va vi dm lw ls ld lt xs, fp = m :: lw :: ls :: ld :: lt :: xs ∧ MO K H m p inp st va vi dm lw ls ld lt xs
theorem StO.same {H H' : Hp} {x : Addr} {s : SS} (h : StO K H x s) (q : Same H H') : StO K H' x s := by
  obtain ⟨dx, a, b, h1, h2, h3⟩ := h
  exact ⟨dx, a, b, q _ _ h1, tl_same q _ _ h2, tl_same q _ _ h3⟩
theorem MO.same {H H' : Hp} {m : Addr} {p : List Rw} {inp : List Int} {st : MS} {va vi : V} {dm lw ls ld lt : Addr} {xs : List Addr} (h : MO K H m p inp st va vi dm lw ls ld lt xs) (q : Same H H') : MO K H' m p inp st va vi dm lw ls ld lt xs :=
  ⟨h.nd, q _ _ h.o, h.rows.same q, h.given.same q, q _ _ h.w, q _ _ h.s, q _ _ h.d, q _ _ h.t, Paired.mapP h.sts fun _ _ z => z.same q⟩
theorem Mch.same {H H' : Hp} {m : Addr} {p : List Rw} {inp : List Int} {st : MS} {fp : List Addr} (h : Mch K H m p inp st fp) (q : Same H H') : Mch K H' m p inp st fp := by
  obtain ⟨va, vi, dm, lw, ls, ld, lt, xs, e, h⟩ := h
  exact ⟨va, vi, dm, lw, ls, ld, lt, xs, e, h.same q⟩
/-- all of fp stands in H -/
theorem Mch.there {H : Hp} {m : Addr} {p : List Rw} {inp : List Int} {st : MS} {fp : List Addr} (h : Mch K H m p inp st fp) : ∀ b ∈ fp, ∃ o, H b = some o ∧ ∀ xs, o ≠ .tup xs := by
  obtain ⟨va, vi, dm, lw, ls, ld, lt, xs, rfl, h⟩ := h
  intro b hb
  have : ∀ {l : List Addr} {m : List SS}, Paired (StO K H) l m → ∀ b ∈ l, ∃ o, H b = some o ∧ ∀ xs, o ≠ .tup xs := by
    intro l m r
    induction r with
    | nil => intro b h; simp at h
    | cons h1 t ih =>
      intro b hb
      rcases List.mem_cons.mp hb with e | e
      · subst e; obtain ⟨_, _, _, h1, _⟩ := h1; exact ⟨_, h1, fun xs z => by cases z⟩
      · exact ih b e
  simp only [List.mem_cons] at hb
  rcases hb with e | e | e | e | e | e
  · subst e; exact ⟨_, h.o, fun xs z => by cases z⟩
  · subst e; exact ⟨_, h.w, fun xs z => by cases z⟩
  · subst e; exact ⟨_, h.s, fun xs z => by cases z⟩
  · subst e; exact ⟨_, h.d, fun xs z => by cases z⟩
  · subst e; exact ⟨_, h.t, fun xs z => by cases z⟩
  · exact this h.sts b e
theorem sc_Machine_place : FnScope ["self"] ["self"] (defScope s_Machine_place) := ⟨rfl, rfl, rfl, by decide +kernel, rfl, by decide +kernel, by decide +kernel⟩
def sp_place (K : PySem.W.Frag) : Sp := fun vs H Q _ => ∃ m p inp st fp, vs = [V.ref m] ∧ Mch K H m p inp st fp ∧ Q (.int st.at_) H
theorem G_Machine_place (T : Tx w K mg) : Kn PP w K mg base 1 (He.ma K (He.ga K "Machine") "place") ["self"] (sp_place K) := by
  refine kn_of T.d_Machine_place sc_Machine_place (fun _ _ _ _ _ _ us hl => match us, hl with | [_], _ => rfl) (fun vs H Q E h => ?_) fun cdv A outer s H vs Q E hr h => ?_
  · obtain ⟨m, p, inp, st, fp, rfl, _⟩ := h; rfl
  · obtain ⟨m, p, inp, st, fp, rfl, ⟨va, vi, dm, lw, ls, ld, lt, xs, e, h⟩, q⟩ := h
    refine ⟨_, (pss_one (ps_ret (pe_fld (pv 0) rfl))), ?_⟩
    exact ⟨_, rfl, m, cM K, dm, _, _, rfl, h.o, T.c_Machine, T.n_Machine_at, rfl, q⟩
theorem sc_Machine_beats : FnScope ["self"] ["self"] (defScope s_Machine_beats) := ⟨rfl, rfl, rfl, by decide +kernel, rfl, by decide +kernel, by decide +kernel⟩
def sp_beats (K : PySem.W.Frag) : Sp := fun vs H Q _ => ∃ m p inp st fp, vs = [V.ref m] ∧ Mch K H m p inp st fp ∧ Q (.int st.done) H
theorem G_Machine_beats (T : Tx w K mg) : Kn PP w K mg base 1 (He.ma K (He.ga K "Machine") "beats") ["self"] (sp_beats K) := by
  refine kn_of T.d_Machine_beats sc_Machine_beats (fun _ _ _ _ _ _ us hl => match us, hl with | [_], _ => rfl) (fun vs H Q E h => ?_) fun cdv A outer s H vs Q E hr h => ?_
  · obtain ⟨m, p, inp, st, fp, rfl, _⟩ := h; rfl
  · obtain ⟨m, p, inp, st, fp, rfl, ⟨va, vi, dm, lw, ls, ld, lt, xs, e, h⟩, q⟩ := h
    refine ⟨_, (pss_one (ps_ret (pe_fld (pv 0) rfl))), ?_⟩
    exact ⟨_, rfl, m, cM K, dm, _, _, rfl, h.o, T.c_Machine, T.n_Machine_done, rfl, q⟩
theorem sc_Machine_end : FnScope ["self"] ["self"] (defScope s_Machine_end) := ⟨rfl, rfl, rfl, by decide +kernel, rfl, by decide +kernel, by decide +kernel⟩
def sp_end (K : PySem.W.Frag) : Sp := fun vs H Q _ => ∃ m p inp st fp, vs = [V.ref m] ∧ Mch K H m p inp st fp ∧ Q (oS st.over) H
theorem G_Machine_end (T : Tx w K mg) : Kn PP w K mg base 1 (He.ma K (He.ga K "Machine") "end") ["self"] (sp_end K) := by
  refine kn_of T.d_Machine_end sc_Machine_end (fun _ _ _ _ _ _ us hl => match us, hl with | [_], _ => rfl) (fun vs H Q E h => ?_) fun cdv A outer s H vs Q E hr h => ?_
  · obtain ⟨m, p, inp, st, fp, rfl, _⟩ := h; rfl
  · obtain ⟨m, p, inp, st, fp, rfl, ⟨va, vi, dm, lw, ls, ld, lt, xs, e, h⟩, q⟩ := h
    refine ⟨_, (pss_one (ps_ret (pe_fld (pv 0) rfl))), ?_⟩
    exact ⟨_, rfl, m, cM K, dm, _, _, rfl, h.o, T.c_Machine, T.n_Machine_over, rfl, q⟩
theorem sc_Machine_kept : FnScope ["self"] ["self"] (defScope s_Machine_kept) := ⟨rfl, rfl, rfl, by decide +kernel, rfl, by decide +kernel, by decide +kernel⟩
def sp_kept (K : PySem.W.Frag) : Sp := fun vs H Q _ => ∃ m p inp st fp, vs = [V.ref m] ∧ Mch K H m p inp st fp ∧ Q (.int st.stands.length) H
theorem G_Machine_kept (T : Tx w K mg) : Kn PP w K mg base 1 (He.ma K (He.ga K "Machine") "kept") ["self"] (sp_kept K) := by
  refine kn_of T.d_Machine_kept sc_Machine_kept (fun _ _ _ _ _ _ us hl => match us, hl with | [_], _ => rfl) (fun vs H Q E h => ?_) fun cdv A outer s H vs Q E hr h => ?_
  · obtain ⟨m, p, inp, st, fp, rfl, _⟩ := h; rfl
  · obtain ⟨m, p, inp, st, fp, rfl, ⟨va, vi, dm, lw, ls, ld, lt, xs, e, h⟩, q⟩ := h
    refine ⟨_, (pss_one (ps_ret (pe_callB call_len_seq (by rfl) T.f_len (by decide +kernel) (pa_cons (pe_fld (pv 0) rfl) pa_nil)))), ?_⟩
    refine ⟨_, rfl, m, cM K, dm, _, _, rfl, h.o, T.c_Machine, T.n_Machine_stands, rfl, _, _, rfl, .inl (sq_lst h.t), ?_⟩
    rw [List.length_map, Paired.length h.sts]
    exact q
theorem sc_Machine_boxes : FnScope ["self"] ["self"] (defScope s_Machine_boxes) := ⟨rfl, rfl, rfl, by decide +kernel, rfl, by decide +kernel, by decide +kernel⟩
def sp_boxes (K : PySem.W.Frag) : Sp := fun vs H Q _ => ∃ m p inp st fp, vs = [V.ref m] ∧ Mch K H m p inp st fp ∧ gives K H Q (st.words.map V.int)
theorem G_Machine_boxes (T : Tx w K mg) : Kn PP w K mg base 1 (He.ma K (He.ga K "Machine") "boxes") ["self"] (sp_boxes K) := by
  refine kn_of T.d_Machine_boxes sc_Machine_boxes (fun _ _ _ _ _ _ us hl => match us, hl with | [_], _ => rfl) (fun vs H Q E h => ?_) fun cdv A outer s H vs Q E hr h => ?_
  · obtain ⟨m, p, inp, st, fp, rfl, _⟩ := h; rfl
  · obtain ⟨m, p, inp, st, fp, rfl, ⟨va, vi, dm, lw, ls, ld, lt, xs, e, h⟩, q⟩ := h
    refine ⟨_, (pss_one (ps_ret (pe_callTy call_tuple_of (by rfl) T.f_tuple (by decide +kernel) (pa_cons (pe_fld (pv 0) rfl) pa_nil)))), ?_⟩
    exact ⟨_, rfl, m, cM K, dm, _, _, rfl, h.o, T.c_Machine, T.n_Machine_words, rfl, _, _, rfl, .inl ⟨sq_lst h.w, fun l hl => q _ _ (same_new hl) upd_same⟩⟩
theorem sc_Machine_cells : FnScope ["self"] ["self"] (defScope s_Machine_cells) := ⟨rfl, rfl, rfl, by decide +kernel, rfl, by decide +kernel, by decide +kernel⟩
def sp_cells (K : PySem.W.Frag) : Sp := fun vs H Q _ => ∃ m p inp st fp, vs = [V.ref m] ∧ Mch K H m p inp st fp ∧ gives K H Q (st.store.map V.int)
theorem G_Machine_cells (T : Tx w K mg) : Kn PP w K mg base 1 (He.ma K (He.ga K "Machine") "cells") ["self"] (sp_cells K) := by
  refine kn_of T.d_Machine_cells sc_Machine_cells (fun _ _ _ _ _ _ us hl => match us, hl with | [_], _ => rfl) (fun vs H Q E h => ?_) fun cdv A outer s H vs Q E hr h => ?_
  · obtain ⟨m, p, inp, st, fp, rfl, _⟩ := h; rfl
  · obtain ⟨m, p, inp, st, fp, rfl, ⟨va, vi, dm, lw, ls, ld, lt, xs, e, h⟩, q⟩ := h
    refine ⟨_, (pss_one (ps_ret (pe_callTy call_tuple_of (by rfl) T.f_tuple (by decide +kernel) (pa_cons (pe_fld (pv 0) rfl) pa_nil)))), ?_⟩
    exact ⟨_, rfl, m, cM K, dm, _, _, rfl, h.o, T.c_Machine, T.n_Machine_store, rfl, _, _, rfl, .inl ⟨sq_lst h.s, fun l hl => q _ _ (same_new hl) upd_same⟩⟩
theorem sc_Machine_told : FnScope ["self"] ["self"] (defScope s_Machine_told) := ⟨rfl, rfl, rfl, by decide +kernel, rfl, by decide +kernel, by decide +kernel⟩
def sp_told (K : PySem.W.Frag) : Sp := fun vs H Q _ => ∃ m p inp st fp, vs = [V.ref m] ∧ Mch K H m p inp st fp ∧ gives K H Q (st.said.map V.int)
theorem G_Machine_told (T : Tx w K mg) : Kn PP w K mg base 1 (He.ma K (He.ga K "Machine") "told") ["self"] (sp_told K) := by
  refine kn_of T.d_Machine_told sc_Machine_told (fun _ _ _ _ _ _ us hl => match us, hl with | [_], _ => rfl) (fun vs H Q E h => ?_) fun cdv A outer s H vs Q E hr h => ?_
  · obtain ⟨m, p, inp, st, fp, rfl, _⟩ := h; rfl
  · obtain ⟨m, p, inp, st, fp, rfl, ⟨va, vi, dm, lw, ls, ld, lt, xs, e, h⟩, q⟩ := h
    refine ⟨_, (pss_one (ps_ret (pe_callTy call_tuple_of (by rfl) T.f_tuple (by decide +kernel) (pa_cons (pe_fld (pv 0) rfl) pa_nil)))), ?_⟩
    exact ⟨_, rfl, m, cM K, dm, _, _, rfl, h.o, T.c_Machine, T.n_Machine_said, rfl, _, _, rfl, .inl ⟨sq_lst h.d, fun l hl => q _ _ (same_new hl) upd_same⟩⟩
end

end Sw
/-! SwD5 -/
namespace Sw
set_option Elab.async false
set_option linter.all false
set_option maxRecDepth 100000
set_option maxHeartbeats 4000000
open PySem PySem.Spec PyProof.Rows L2
section
variable {w : World} {K : PySem.W.Frag} {mg : Str → Option Value} {base : Heap}
def SqX (K : PySem.W.Frag) (H : Hp) (a : Addr) (xs : List V) : Prop := SqL K H a xs ∨ SqT K H a xs
theorem SqX.same {H H' : Hp} {a : Addr} {xs : List V} (h : SqX K H a xs) (s : Same H H') : SqX K H' a xs := by
  rcases h with ((h | ⟨o, h⟩) | h) | h
  · exact .inl (.inl (.inl (s _ _ h)))
  · exact .inl (.inl (.inr ⟨o, s _ _ h⟩))
  · exact .inl (.inr h)
  · exact .inr (tl_same s _ _ h)
theorem SqX.ins {H : Hp} {a l C dx : Addr} {xs : List V} {fs : List (Str × V)} {o : HO} (h : SqX K H a xs) (q : H l = some (.ins C dx fs)) : SqX K (upd H l o) a xs := by
  rcases h with ((h | ⟨u, h⟩) | h) | h
  · exact .inl (.inl (.inl (by rw [upd_ne (ne_of h q (by intro z; cases z))]; exact h)))
  · exact .inl (.inl (.inr ⟨u, by rw [upd_ne (ne_of h q (by intro z; cases z))]; exact h⟩))
  · exact .inl (.inr h)
  · exact .inr (tl_ins q _ _ h)
theorem Frm.tr {fp : List Addr} {H H1 H2 : Hp} (a : Frm fp H H1) (b : Frm fp H1 H2) : Frm fp H H2 := fun c o h n => b c o (a c o h n) n
def rTupX (K : PySem.W.Frag) : List V → Hp → VK → Prop := fun xs H Q => ∃ p ys, xs = [V.ref p] ∧ SqX K H p ys ∧ ∀ H' a, Same H H' → SqT K H' a ys → Q (.ref a) H'
theorem call_tuple_X {X : Cx} : CallR X (.type "tuple") (rTupX X.K) := by
  intro pins s σ H xs us Q I r h
  obtain ⟨p, ys, rfl, h, q⟩ := h
  refine call_tuple_of pins s σ H _ us Q I r ⟨p, ys, rfl, ?_⟩
  rcases h with h | h
  · exact .inl ⟨h, fun l hl => q _ _ (same_new hl) sq_new⟩
  · exact .inr ⟨h, q _ _ (fun _ _ z => z) h⟩
/-- an object being made -/
theorem same_mk {H : Hp} {x dx : Addr} {o1 o2 : HO} (hx : H x = none) (hdx : H dx = none) (ne : dx ≠ x) : Same H (upd (upd H dx o1) x o2) := (same_new hdx).trans (same_new (by rw [upd_ne (Ne.symm ne)]; exact hx))
theorem sc_Stand_init : FnScope ["self", "at", "words", "store", "count"] ["self", "at", "words", "store", "count"] (defScope s_Stand_init) := ⟨rfl, rfl, rfl, by decide +kernel, rfl, by decide +kernel, by decide +kernel⟩
def sp_Stand (K : PySem.W.Frag) : Sp := fun vs H Q _ => ∃ (x dx : Addr) (at_ : Int) (wa : Addr) (wl : List Int) (sa : Addr) (sl : List Int) (c : Int), vs = [V.ref x, .int at_, .ref wa, .ref sa, .int c] ∧ H x = some (.ins (cS K) dx []) ∧
  SqX K H wa (wl.map V.int) ∧ SqX K H sa (sl.map V.int) ∧ ∀ H', Frm [x] H H' → StO K H' x ⟨at_, wl, sl, c, false⟩ → Q .non H'
theorem G_Stand0 (T : Tx w K mg) : Kn PP w K mg base 1 (He.ma K (He.ga K "Stand") "__init__") ["self", "at", "words", "store", "count"] (sp_Stand K) := by
  refine kn_of T.d_Stand_init sc_Stand_init (fun _ _ _ _ _ _ us hl => match us, hl with | [_, _, _, _, _], _ => rfl) (fun vs H Q E h => ?_) fun cdv A outer s H vs Q E hr h => ?_
  · obtain ⟨x, dx, at_, wa, wl, sa, sl, c, rfl, _⟩ := h; rfl
  · obtain ⟨x, dx, at_, wa, wl, sa, sl, c, rfl, hx, hw, hs, q⟩ := h
    refine ⟨_, (pss_cons (ps_fld (pv 0) (pv 1) rfl)
      (pss_cons (ps_fld (pv 0) (pe_callTy call_tuple_X (by rfl) T.f_tuple (by decide +kernel) (pa_cons (pv 2) pa_nil)) rfl)
      (pss_cons (ps_fld (pv 0) (pe_callTy call_tuple_X (by rfl) T.f_tuple (by decide +kernel) (pa_cons (pv 3) pa_nil)) rfl)
      (pss_cons (ps_fld (pv 0) (pv 4) rfl)
      (pss_one (ps_fld (pv 0) pe_bl rfl)))))), ?_⟩
    refine ⟨_, rfl, _, rfl, x, cS K, dx, _, rfl, hx, T.c_Stand, T.n_Stand_at, Nat.le_of_ble_eq_true rfl, ?_⟩
    have hw1 := hw.ins (o := .ins (cS K) dx [("at", .int at_)]) hx
    have hs1 := hs.ins (o := .ins (cS K) dx [("at", .int at_)]) hx
    refine ⟨_, rfl, wa, _, rfl, hw1, fun H2 a s2 ha => ?_⟩
    have hx2 := s2 x _ upd_same
    have hs2 := hs1.same s2
    refine ⟨_, rfl, x, cS K, dx, _, rfl, hx2, T.c_Stand, T.n_Stand_words, Nat.le_of_ble_eq_true rfl, ?_⟩
    have hs3 := hs2.ins (o := .ins (cS K) dx [("at", .int at_), ("words", .ref a)]) hx2
    have ha3 := tl_ins (o := .ins (cS K) dx [("at", .int at_), ("words", .ref a)]) hx2 _ _ ha
    refine ⟨_, rfl, sa, _, rfl, hs3, fun H4 b s4 hb => ?_⟩
    have hx4 := s4 x _ upd_same
    have ha4 := tl_same s4 _ _ ha3
    refine ⟨_, rfl, x, cS K, dx, _, rfl, hx4, T.c_Stand, T.n_Stand_store, Nat.le_of_ble_eq_true rfl, ?_⟩
    refine ⟨_, rfl, _, rfl, x, cS K, dx, _, rfl, upd_same, T.c_Stand, T.n_Stand_count, Nat.le_of_ble_eq_true rfl, ?_⟩
    refine ⟨_, rfl, x, cS K, dx, _, rfl, upd_same, T.c_Stand, T.n_Stand_used, Nat.le_of_ble_eq_true rfl, ?_⟩
    refine q _ ?_ ⟨dx, a, b, upd_same, ?_, ?_⟩
    · exact ((((((frm_upd (.head _)).tr (frm_same s2)).tr (frm_upd (.head _))).tr (frm_same s4)).tr (frm_upd (.head _))).tr (frm_upd (.head _))).tr (frm_upd (.head _))
    · exact tl_ins upd_same _ _ (tl_ins upd_same _ _ (tl_ins hx4 _ _ ha4))
    · exact tl_ins upd_same _ _ (tl_ins upd_same _ _ (tl_ins hx4 _ _ hb))
theorem G_Stand (T : Tx w K mg) : Mk K (He.ga K "Stand") (He.ma K (He.ga K "Stand") "__init__") ∧ Kn PP w K mg base 1 (He.ma K (He.ga K "Stand") "__init__") ["self", "at", "words", "store", "count"] (sp_Stand K) := ⟨T.k_Stand, G_Stand0 T⟩
theorem sc_Stand_copied : FnScope ["self", "found"] ["self"] (defScope s_Stand_copied) := ⟨rfl, rfl, rfl, by decide +kernel, rfl, by decide +kernel, by decide +kernel⟩
def sp_copied (K : PySem.W.Frag) : Sp := fun vs H Q _ => ∃ (x : Addr) (s : SS), vs = [V.ref x] ∧ StO K H x s ∧ ∀ H' y, Same H H' → H y = none → StO K H' y s → Q (.ref y) H'
theorem G_Stand_copied (T : Tx w K mg) : Kn PP w K mg base 3 (He.ma K (He.ga K "Stand") "copied") ["self"] (sp_copied K) := by
  have G_Stand := G_Stand (base := base) T
  refine kn_of T.d_Stand_copied sc_Stand_copied (fun _ _ _ _ _ _ us hl => match us, hl with | [_], _ => rfl) (fun vs H Q E h => ?_) fun cdv A outer s H vs Q E hr h => ?_
  · obtain ⟨x, s, rfl, _⟩ := h; rfl
  · obtain ⟨x, s, rfl, ⟨dx, a, b, hx, ha, hb⟩, q⟩ := h
    refine ⟨_, (pss_cons (ps_set (i := 1) sc_Stand_copied.nd rfl (Or.inl rfl) (pe_kc G_Stand (hr.mono (by decide)) (by rfl) T.g_Stand (pa_cons (pe_fld (pv 0) rfl) (pa_cons (pe_fld (pv 0) rfl) (pa_cons (pe_fld (pv 0) rfl) (pa_cons (pe_fld (pv 0) rfl) pa_nil))))))
      (pss_cons (ps_fld (pv 1) (pe_fld (pv 0) rfl) rfl)
      (pss_one (ps_ret (pv 1))))), ?_⟩
    refine ⟨_, rfl, x, cS K, dx, _, _, rfl, hx, T.c_Stand, T.n_Stand_at, rfl, ?_⟩
    refine ⟨_, rfl, x, cS K, dx, _, _, rfl, hx, T.c_Stand, T.n_Stand_words, rfl, ?_⟩
    refine ⟨_, rfl, x, cS K, dx, _, _, rfl, hx, T.c_Stand, T.n_Stand_store, rfl, ?_⟩
    refine ⟨_, rfl, x, cS K, dx, _, _, rfl, hx, T.c_Stand, T.n_Stand_count, rfl, fun y dy hy hdy ne => ?_⟩
    have sy : Same H (upd (upd H dy (.own y)) y (.ins (cS K) dy [])) := same_mk hy hdy ne
    refine ⟨y, dy, _, a, _, b, _, _, rfl, upd_same, .inr (tl_same sy _ _ ha), .inr (tl_same sy _ _ hb), fun H1 f h1 => ⟨rfl, ?_⟩⟩
    have s1 : Same H H1 := fun c o hc => f c o (sy c o hc) (by simpa using ne_of_none hc hy)
    obtain ⟨dx1, a1, b1, hy1, ha1, hb1⟩ := h1
    refine ⟨_, rfl, x, cS K, dx, _, _, rfl, s1 _ _ hx, T.c_Stand, T.n_Stand_used, rfl, ?_⟩
    refine ⟨_, rfl, y, cS K, dx1, _, rfl, hy1, T.c_Stand, T.n_Stand_used, Nat.le_of_ble_eq_true rfl, ?_⟩
    refine ⟨_, rfl, ?_⟩
    refine q _ y (fun c o hc => ?_) hy ⟨dx1, a1, b1, upd_same, tl_ins hy1 _ _ ha1, tl_ins hy1 _ _ hb1⟩
    rw [upd_ne (ne_of_none hc hy)]
    exact s1 c o hc
end

end Sw
/-! SwD6 -/
namespace Sw
set_option Elab.async false
set_option linter.all false
set_option maxRecDepth 100000
set_option maxHeartbeats 4000000
open PySem PySem.Spec PyProof.Rows L2
section
variable {w : World} {K : PySem.W.Frag} {mg : Str → Option Value} {base : Heap}
theorem StO.upd {H : Hp} {x l : Addr} {s : SS} {o : HO} (h : StO K H x s) (n : x ≠ l) (t : Tl K H (upd H l o)) : StO K (upd H l o) x s := by
  obtain ⟨dx, a, b, h1, h2, h3⟩ := h
  exact ⟨dx, a, b, by rw [upd_ne n]; exact h1, t _ _ h2, t _ _ h3⟩
theorem stos_upd {H : Hp} {l : Addr} {o : HO} (t : Tl K H (upd H l o)) : ∀ {xs : List Addr} {ss : List SS}, Paired (StO K H) xs ss → l ∉ xs → Paired (StO K (upd H l o)) xs ss
  | _, _, .nil, _ => .nil
  | _, _, .cons h r, n => .cons (h.upd (fun e => n (by rw [e]; exact .head _)) t) (stos_upd t r fun z => n (.tail _ z))
section
variable {H : Hp} {m : Addr} {p : List Rw} {inp : List Int} {st : MS} {va vi : V} {dm lw ls ld lt : Addr} {xs : List Addr}
/-- the machine's fields, the lists as they were -/
theorem MO.fld (h : MO K H m p inp st va vi dm lw ls ld lt xs) (a c : Int) (ov : Option Str) (d : Int) :
    MO K (upd H m (.ins (cM K) dm (mfs va vi (.int a) (.ref lw) (.ref ls) (.ref ld) (.int c) (.ref lt) (oS ov) (.int d)))) m p inp { st with at_ := a, count := c, over := ov, done := d } va vi dm lw ls ld lt xs := by
  have nd := h.nd
  simp only [List.nodup_cons, List.mem_cons, not_or] at nd
  obtain ⟨⟨n1, n2, n3, n4, n5⟩, _⟩ := nd
  have t := tl_ins (K := K) (o := .ins (cM K) dm (mfs va vi (.int a) (.ref lw) (.ref ls) (.ref ld) (.int c) (.ref lt) (oS ov) (.int d))) h.o
  exact ⟨h.nd, upd_same, h.rows.tl t, h.given.tl t, by rw [upd_ne (Ne.symm n1)]; exact h.w, by rw [upd_ne (Ne.symm n2)]; exact h.s, by rw [upd_ne (Ne.symm n3)]; exact h.d, by rw [upd_ne (Ne.symm n4)]; exact h.t, stos_upd t h.sts n5⟩
theorem MO.setw (h : MO K H m p inp st va vi dm lw ls ld lt xs) (ws : List Int) : MO K (upd H lw (.lst (ws.map V.int))) m p inp { st with words := ws } va vi dm lw ls ld lt xs := by
  have nd := h.nd
  simp only [List.nodup_cons, List.mem_cons, not_or] at nd
  obtain ⟨⟨n1, n2, n3, n4, n5⟩, ⟨n6, n7, n8, n9⟩, _⟩ := nd
  have t := tl_lst (K := K) (o := .lst (ws.map V.int)) h.w
  exact ⟨h.nd, by rw [upd_ne n1]; exact h.o, h.rows.tl t, h.given.tl t, upd_same, by rw [upd_ne (Ne.symm n6)]; exact h.s, by rw [upd_ne (Ne.symm n7)]; exact h.d, by rw [upd_ne (Ne.symm n8)]; exact h.t, stos_upd t h.sts n9⟩
theorem MO.sets (h : MO K H m p inp st va vi dm lw ls ld lt xs) (ws : List Int) : MO K (upd H ls (.lst (ws.map V.int))) m p inp { st with store := ws } va vi dm lw ls ld lt xs := by
  have nd := h.nd
  simp only [List.nodup_cons, List.mem_cons, not_or] at nd
  obtain ⟨⟨n1, n2, n3, n4, n5⟩, ⟨n6, n7, n8, n9⟩, ⟨n10, n11, n12⟩, _⟩ := nd
  have t := tl_lst (K := K) (o := .lst (ws.map V.int)) h.s
  exact ⟨h.nd, by rw [upd_ne n2]; exact h.o, h.rows.tl t, h.given.tl t, by rw [upd_ne n6]; exact h.w, upd_same, by rw [upd_ne (Ne.symm n10)]; exact h.d, by rw [upd_ne (Ne.symm n11)]; exact h.t, stos_upd t h.sts n12⟩
theorem MO.setd (h : MO K H m p inp st va vi dm lw ls ld lt xs) (ws : List Int) : MO K (upd H ld (.lst (ws.map V.int))) m p inp { st with said := ws } va vi dm lw ls ld lt xs := by
  have nd := h.nd
  simp only [List.nodup_cons, List.mem_cons, not_or] at nd
  obtain ⟨⟨n1, n2, n3, n4, n5⟩, ⟨n6, n7, n8, n9⟩, ⟨n10, n11, n12⟩, ⟨n13, n14⟩, _⟩ := nd
  have t := tl_lst (K := K) (o := .lst (ws.map V.int)) h.d
  exact ⟨h.nd, by rw [upd_ne n3]; exact h.o, h.rows.tl t, h.given.tl t, by rw [upd_ne n7]; exact h.w, by rw [upd_ne n10]; exact h.s, upd_same, by rw [upd_ne (Ne.symm n13)]; exact h.t, stos_upd t h.sts n14⟩
theorem MO.mch (h : MO K H m p inp st va vi dm lw ls ld lt xs) : Mch K H m p inp st (m :: lw :: ls :: ld :: lt :: xs) := ⟨_, _, _, _, _, _, _, _, rfl, h⟩
end
theorem reps0 (n : Nat) : (List.replicate n [V.int 0]).flatten = (List.replicate n (0 : Int)).map V.int := by
  induction n with
  | zero => rfl
  | succ n ih => rw [List.replicate_succ, List.flatten_cons, ih]; rfl
theorem sc_Machine_init : FnScope ["self", "program", "inputs"] ["self", "program", "inputs"] (defScope s_Machine_init) := ⟨rfl, rfl, rfl, by decide +kernel, rfl, by decide +kernel, by decide +kernel⟩
def sp_Machine (K : PySem.W.Frag) : Sp := fun vs H Q _ => ∃ (m dm : Addr) (va vi : V) (p : List Rw) (inp : List Int), vs = [V.ref m, va, vi] ∧ H m = some (.ins (cM K) dm []) ∧ PgAt K H va p ∧ PgOk p ∧ IsAt K H vi inp ∧ InOk inp ∧
  ∀ H' fp', Frm [m] H H' → Nw [m] fp' H → (∀ b ∈ fp', b = m ∨ H b = none) → Mch K H' m p inp ms0 fp' → Q .non H'
theorem G_Machine0 (T : Tx w K mg) : Kn PP w K mg base 4 (He.ma K (He.ga K "Machine") "__init__") ["self", "program", "inputs"] (sp_Machine K) := by
  have G_need_program := G_need_program (base := base) T
  have G_need_inputs := G_need_inputs (base := base) T
  refine kn_of T.d_Machine_init sc_Machine_init (fun _ _ _ _ _ _ us hl => match us, hl with | [_, _, _], _ => rfl) (fun vs H Q E h => ?_) fun cdv A outer s H vs Q E hr h => ?_
  · obtain ⟨m, dm, va, vi, p, inp, rfl, _⟩ := h; rfl
  · obtain ⟨m, dm, va, vi, p, inp, rfl, hm, hp, pok, hi, iok, q⟩ := h
    refine ⟨_, (pss_cons (ps_expr (pe_kn G_need_program (hr.mono (by decide)) (by rfl) T.g_need_program (pa_cons (pv 1) pa_nil)))
      (pss_cons (ps_expr (pe_kn G_need_inputs (hr.mono (by decide)) (by rfl) T.g_need_inputs (pa_cons (pv 2) pa_nil)))
      (pss_cons (ps_fld (pv 0) (pv 1) rfl)
      (pss_cons (ps_fld (pv 0) (pv 2) rfl)
      (pss_cons (ps_fld (pv 0) pe_int rfl)
      (pss_cons (ps_fld (pv 0) (pe_op op_rep (pe_lst (pa_cons pe_int pa_nil)) (pe_gx (by rfl) T.i_MANY_BOXES)) rfl)
      (pss_cons (ps_fld (pv 0) (pe_op op_rep (pe_lst (pa_cons pe_int pa_nil)) (pe_gx (by rfl) T.i_MANY_CELLS)) rfl)
      (pss_cons (ps_fld (pv 0) (pe_lst pa_nil) rfl)
      (pss_cons (ps_fld (pv 0) pe_int rfl)
      (pss_cons (ps_fld (pv 0) (pe_lst pa_nil) rfl)
      (pss_cons (ps_fld (pv 0) pe_non rfl)
      (pss_one (ps_fld (pv 0) pe_int rfl))))))))))))), ?_⟩
    refine ⟨_, rfl, _, _, rfl, hp, pok, fun H1 s1 => ?_⟩
    refine ⟨_, rfl, _, _, rfl, hi.same s1, iok, fun H2 s2 => ?_⟩
    have s12 := s1.trans s2
    have hm2 := s12 _ _ hm
    refine ⟨_, rfl, _, rfl, m, cM K, dm, _, rfl, hm2, T.c_Machine, T.n_Machine_rows, Nat.le_of_ble_eq_true rfl, ?_⟩
    refine ⟨_, rfl, _, rfl, m, cM K, dm, _, rfl, upd_same, T.c_Machine, T.n_Machine_given, Nat.le_of_ble_eq_true rfl, ?_⟩
    refine ⟨_, rfl, m, cM K, dm, _, rfl, upd_same, T.c_Machine, T.n_Machine_at, Nat.le_of_ble_eq_true rfl, ?_⟩
    generalize hH3 : upd (upd (upd H2 m _) m _) m _ = H3
    have hm3 : H3 m = some (.ins (cM K) dm [("rows", va), ("given", vi), ("at", .int 0)]) := by rw [← hH3]; exact upd_same
    have f3 : Frm [m] H H3 := by rw [← hH3]; exact (((frm_same s12).tr (frm_upd (.head _))).tr (frm_upd (.head _))).tr (frm_upd (.head _))
    have t3 : Tl K H H3 := by rw [← hH3]; exact ((((tl_same s12).trans (tl_ins hm2)).trans (tl_ins upd_same)).trans (tl_ins upd_same))
    refine ⟨by decide, fun l1 hl1 => ⟨l1, 32, _, rfl, rfl, upd_same, by decide, by decide, by decide, fun lw hlw => ?_⟩⟩
    rw [reps0]
    generalize hH4 : upd (upd H3 l1 _) lw _ = H4
    have s4 : Same H3 H4 := by rw [← hH4]; exact (same_new hl1).trans (same_new hlw)
    have hw4 : H4 lw = some (.lst ((List.replicate (Int.toNat 32) (0 : Int)).map V.int)) := by rw [← hH4]; exact upd_same
    have hlw3 : H3 lw = none := by
      cases e : H3 lw with
      | none => rfl
      | some o => rw [same_new hl1 _ _ e] at hlw; cases hlw
    have hm4 := s4 _ _ hm3
    refine ⟨_, rfl, m, cM K, dm, _, rfl, hm4, T.c_Machine, T.n_Machine_words, Nat.le_of_ble_eq_true rfl, ?_⟩
    generalize hH5 : upd H4 m _ = H5
    have hm5 : H5 m = some (.ins (cM K) dm [("rows", va), ("given", vi), ("at", .int 0), ("words", .ref lw)]) := by rw [← hH5]; exact upd_same
    have hw5 : H5 lw = some (.lst ((List.replicate (Int.toNat 32) (0 : Int)).map V.int)) := by rw [← hH5, upd_ne (ne_of hw4 hm4 (by intro z; cases z))]; exact hw4
    have f5 : Frm [m] H H5 := by rw [← hH5]; exact (f3.tr (frm_same s4)).tr (frm_upd (.head _))
    have t5 : Tl K H H5 := by rw [← hH5]; exact (t3.trans (tl_same s4)).trans (tl_ins hm4)
    refine ⟨by decide, fun l2 hl2 => ⟨l2, 16, _, rfl, rfl, upd_same, by decide, by decide, by decide, fun ls hls => ?_⟩⟩
    rw [reps0]
    generalize hH6 : upd (upd H5 l2 _) ls _ = H6
    have s6 : Same H5 H6 := by rw [← hH6]; exact (same_new hl2).trans (same_new hls)
    have hs6 : H6 ls = some (.lst ((List.replicate (Int.toNat 16) (0 : Int)).map V.int)) := by rw [← hH6]; exact upd_same
    have hls5 : H5 ls = none := by
      cases e : H5 ls with
      | none => rfl
      | some o => rw [same_new hl2 _ _ e] at hls; cases hls
    have hm6 := s6 _ _ hm5
    have hw6 := s6 _ _ hw5
    refine ⟨_, rfl, m, cM K, dm, _, rfl, hm6, T.c_Machine, T.n_Machine_store, Nat.le_of_ble_eq_true rfl, ?_⟩
    refine ⟨by decide, fun ld hld => ?_⟩
    generalize hH7 : upd (upd H6 m _) ld _ = H7
    have hm7 : H7 m = some (.ins (cM K) dm [("rows", va), ("given", vi), ("at", .int 0), ("words", .ref lw), ("store", .ref ls)]) := by rw [← hH7, upd_ne (ne_of_none upd_same hld)]; exact upd_same
    have hd7 : H7 ld = some (.lst []) := by rw [← hH7]; exact upd_same
    have nwm : lw ≠ m := ne_of hw6 hm6 (by intro z; cases z)
    have nsm : ls ≠ m := ne_of hs6 hm6 (by intro z; cases z)
    have x6 : ∀ b o, b ≠ m → H6 b = some o → H7 b = some o := fun b o n e => by
      have e2 : (upd H6 m (.ins (cM K) dm (putF "store" (.ref ls) [("rows", va), ("given", vi), ("at", .int 0), ("words", .ref lw)]))) b = some o := by rw [upd_ne n]; exact e
      rw [← hH7, upd_ne (ne_of_none e2 hld)]; exact e2
    have hw7 := x6 _ _ nwm hw6
    have hs7 := x6 _ _ nsm hs6
    have hld6 : ∀ o, H6 ld ≠ some o := fun o e => by
      by_cases n : ld = m
      · rw [n, upd_same] at hld; cases hld
      · rw [upd_ne n, e] at hld; cases hld
    have f7 : Frm [m] H H7 := by rw [← hH7]; exact ((f5.tr (frm_same s6)).tr (frm_upd (.head _))).tr (frm_same (same_new hld))
    have t7 : Tl K H H7 := by rw [← hH7]; exact ((t5.trans (tl_same s6)).trans (tl_ins hm6)).trans (tl_same (same_new hld))
    have ndm : ld ≠ m := fun e => by rw [e, upd_same] at hld; cases hld
    refine ⟨_, rfl, m, cM K, dm, _, rfl, hm7, T.c_Machine, T.n_Machine_said, Nat.le_of_ble_eq_true rfl, ?_⟩
    refine ⟨_, rfl, m, cM K, dm, _, rfl, upd_same, T.c_Machine, T.n_Machine_count, Nat.le_of_ble_eq_true rfl, ?_⟩
    refine ⟨by decide, fun lt hlt => ?_⟩
    generalize hH8 : upd (upd (upd H7 m _) m _) lt _ = H8
    have ntm : lt ≠ m := fun e => by rw [e, upd_same] at hlt; cases hlt
    have hm8 : H8 m = some (.ins (cM K) dm [("rows", va), ("given", vi), ("at", .int 0), ("words", .ref lw), ("store", .ref ls), ("said", .ref ld), ("count", .int 0)]) := by rw [← hH8, upd_ne (Ne.symm ntm)]; exact upd_same
    have hlt7 : H7 lt = none := by rw [upd_ne ntm, upd_ne ntm] at hlt; exact hlt
    have x7 : ∀ b o, b ≠ m → H7 b = some o → H8 b = some o := fun b o n e => by
      rw [← hH8, upd_ne (ne_of_none e hlt7), upd_ne n, upd_ne n]; exact e
    have f8 : Frm [m] H H8 := by rw [← hH8]; exact ((f7.tr (frm_upd (.head _))).tr (frm_upd (.head _))).tr (frm_same (same_new hlt))
    have t8 : Tl K H H8 := by rw [← hH8]; exact ((t7.trans (tl_ins hm7)).trans (tl_ins upd_same)).trans (tl_same (same_new hlt))
    have ht8 : H8 lt = some (.lst []) := by rw [← hH8]; exact upd_same
    refine ⟨_, rfl, m, cM K, dm, _, rfl, hm8, T.c_Machine, T.n_Machine_stands, Nat.le_of_ble_eq_true rfl, ?_⟩
    refine ⟨_, rfl, m, cM K, dm, _, rfl, upd_same, T.c_Machine, T.n_Machine_over, Nat.le_of_ble_eq_true rfl, ?_⟩
    refine ⟨_, rfl, m, cM K, dm, _, rfl, upd_same, T.c_Machine, T.n_Machine_done, Nat.le_of_ble_eq_true rfl, ?_⟩
    generalize hH9 : upd (upd (upd H8 m _) m _) m _ = H9
    have x8 : ∀ b o, b ≠ m → H8 b = some o → H9 b = some o := fun b o n e => by
      rw [← hH9, upd_ne n, upd_ne n, upd_ne n]; exact e
    have f9 : Frm [m] H H9 := by rw [← hH9]; exact ((f8.tr (frm_upd (.head _))).tr (frm_upd (.head _))).tr (frm_upd (.head _))
    have t9 : Tl K H H9 := by rw [← hH9]; exact ((t8.trans (tl_ins hm8)).trans (tl_ins upd_same)).trans (tl_ins upd_same)
    have hm9 : H9 m = some (.ins (cM K) dm (mfs va vi (.int 0) (.ref lw) (.ref ls) (.ref ld) (.int 0) (.ref lt) .non (.int 0))) := by rw [← hH9]; exact upd_same
    have fre : ∀ b, b ≠ m → ∀ {Hx : Hp}, Frm [m] H Hx → Hx b = none → H b = none := fun b n Hx f e => f.free (by simpa using n) e
    have nw : ∀ b ∈ [m, lw, ls, ld, lt], b = m ∨ H b = none := fun b hb => by
      simp only [List.mem_cons, List.not_mem_nil, or_false] at hb
      rcases hb with e | e | e | e | e
      · exact .inl e
      · exact .inr (by rw [e]; exact fre _ nwm f3 hlw3)
      · exact .inr (by rw [e]; exact fre _ nsm f5 hls5)
      · refine .inr ?_
        rw [e]
        refine fre _ ndm (f5.tr (frm_same s6)) ?_
        cases z : H6 ld with
        | none => rfl
        | some o => exact absurd z (hld6 o)
      · exact .inr (by rw [e]; exact fre _ ntm f7 hlt7)
    refine q H9 [m, lw, ls, ld, lt] f9 (fun b hb => by rcases nw b hb with e | e; exact .inl (by rw [e]; exact .head _); exact .inr e) nw ⟨va, vi, dm, lw, ls, ld, lt, [], rfl, ?_, hm9, hp.tl t9, hi.tl t9, x8 _ _ nwm (x7 _ _ nwm hw7), x8 _ _ nsm (x7 _ _ nsm hs7), x8 _ _ ndm (x7 _ _ ndm hd7), x8 _ _ ntm ht8, .nil⟩
    have a1 : ls ≠ lw := Ne.symm (ne_of_none hw5 hls5)
    have a2 : ld ≠ lw := fun e => hld6 _ (by rw [e]; exact hw6)
    have a3 : ld ≠ ls := fun e => hld6 _ (by rw [e]; exact hs6)
    have a4 : lt ≠ lw := Ne.symm (ne_of_none hw7 hlt7)
    have a5 : lt ≠ ls := Ne.symm (ne_of_none hs7 hlt7)
    have a6 : lt ≠ ld := Ne.symm (ne_of_none hd7 hlt7)
    simp only [List.nodup_cons, List.mem_cons, List.not_mem_nil, not_or, or_false, not_false_eq_true, and_true, List.nodup_nil]
    exact ⟨⟨Ne.symm nwm, Ne.symm nsm, Ne.symm ndm, Ne.symm ntm⟩, ⟨Ne.symm a1, Ne.symm a2, Ne.symm a4⟩, ⟨Ne.symm a3, Ne.symm a5⟩, Ne.symm a6⟩
theorem G_Machine (T : Tx w K mg) : Mk K (He.ga K "Machine") (He.ma K (He.ga K "Machine") "__init__") ∧ Kn PP w K mg base 4 (He.ma K (He.ga K "Machine") "__init__") ["self", "program", "inputs"] (sp_Machine K) := ⟨T.k_Machine, G_Machine0 T⟩
end

end Sw
/-! SwD7 -/
namespace Sw
set_option Elab.async false
set_option linter.all false
set_option maxRecDepth 100000
set_option maxHeartbeats 4000000
open PySem PySem.Spec PyProof.Rows L2
section
variable {w : World} {K : PySem.W.Frag} {mg : Str → Option Value} {base : Heap}
/-- the machine goes on from H as st', its own from fp -/
def Goes (K : PySem.W.Frag) (H : Hp) (m : Addr) (p : List Rw) (inp : List Int) (st' : MS) (fp : List Addr) (R : Hp → Prop) : Prop := ∀ H' fp', Mch K H' m p inp st' fp' → Frm fp H H' → Nw fp fp' H → R H'
theorem ixN_in {n : Nat} {i : Int} (h0 : 0 ≤ i) (h1 : i < n) : ixN n i = some i.toNat := by
  unfold ixN
  rw [if_pos h0, if_pos (by omega)]
theorem set_map {l : List Int} {i : Nat} {z : Int} : (l.map V.int).set i (.int z) = (l.set i z).map V.int := by rw [List.map_set]
theorem sc_Machine_slip : FnScope ["self", "box", "word"] ["self", "box", "word"] (defScope s_Machine_slip) := ⟨rfl, rfl, rfl, by decide +kernel, rfl, by decide +kernel, by decide +kernel⟩
def sp_slip (K : PySem.W.Frag) : Sp := fun vs H Q _ => ∃ m p inp st fp b z, vs = [V.ref m, .int b, .int z] ∧ Mch K H m p inp st fp ∧ st.words.length = 32 ∧ 0 ≤ b ∧ b ≤ 31 ∧ 0 ≤ z ∧ z ≤ 15 ∧ Goes K H m p inp { st with words := putI st.words b z } fp (Q .non)
theorem G_Machine_slip (T : Tx w K mg) : Kn PP w K mg base 3 (He.ma K (He.ga K "Machine") "slip") ["self", "box", "word"] (sp_slip K) := by
  have G_is_box := G_is_box (base := base) T
  have G_is_word := G_is_word (base := base) T
  refine kn_of T.d_Machine_slip sc_Machine_slip (fun _ _ _ _ _ _ us hl => match us, hl with | [_, _, _], _ => rfl) (fun vs H Q E h => ?_) fun cdv A outer s H vs Q E hr h => ?_
  · obtain ⟨m, p, inp, st, fp, b, z, rfl, _⟩ := h; rfl
  · obtain ⟨m, p, inp, st, fp, b, z, rfl, ⟨va, vi, dm, lw, ls, ld, lt, xs, rfl, h⟩, hl, b0, b1, z0, z1, q⟩ := h
    refine ⟨_, (pss_cons (ps_if (PW.pt (pw_or (pt_not (pt_val (pe_kn G_is_box (hr.mono (by decide)) (by rfl) T.g_is_box (pa_cons (pv 1) pa_nil)))) (pw_or1 (pt_not (pt_val (pe_kn G_is_word (hr.mono (by decide)) (by rfl) T.g_is_word (pa_cons (pv 2) pa_nil)))))))
        (pss_one ps_never)
        pss_nil)
      (pss_one (ps_asg (pv 2) (pg_sub (pe_fld (pv 0) rfl) (pv 1) set_list)))), ?_⟩
    refine ⟨_, rfl, _, rfl, true, by simp [b0, b1], iteF ?_⟩
    refine ⟨_, rfl, _, rfl, true, by simp [z0, z1], iteF ?_⟩
    refine ⟨_, rfl, _, rfl, m, cM K, dm, _, _, rfl, h.o, T.c_Machine, T.n_Machine_words, rfl, _, rfl, lw, _, b, _, rfl, rfl, h.w, ixN_in b0 (by rw [List.length_map, hl]; omega), ?_⟩
    rw [set_map]
    exact q _ _ (h.setw (st.words.set b.toNat z)).mch (frm_upd (by simp)) (Nw.refl _ _)
theorem sc_Machine_lead : FnScope ["self", "at"] ["self", "at"] (defScope s_Machine_lead) := ⟨rfl, rfl, rfl, by decide +kernel, rfl, by decide +kernel, by decide +kernel⟩
def sp_lead (K : PySem.W.Frag) : Sp := fun vs H Q _ => ∃ m p inp st fp a, vs = [V.ref m, .int a] ∧ Mch K H m p inp st fp ∧ 0 ≤ a ∧ a < p.length ∧ Goes K H m p inp { st with at_ := a } fp (Q .non)
theorem G_Machine_lead (T : Tx w K mg) : Kn PP w K mg base 2 (He.ma K (He.ga K "Machine") "lead") ["self", "at"] (sp_lead K) := by
  have G_is_among := G_is_among (base := base) T
  refine kn_of T.d_Machine_lead sc_Machine_lead (fun _ _ _ _ _ _ us hl => match us, hl with | [_, _], _ => rfl) (fun vs H Q E h => ?_) fun cdv A outer s H vs Q E hr h => ?_
  · obtain ⟨m, p, inp, st, fp, a, rfl, _⟩ := h; rfl
  · obtain ⟨m, p, inp, st, fp, a, rfl, ⟨va, vi, dm, lw, ls, ld, lt, xs, rfl, h⟩, a0, a1, q⟩ := h
    refine ⟨_, (pss_cons (ps_if (pt_not (pt_val (pe_kn G_is_among (hr.mono (by decide)) (by rfl) T.g_is_among (pa_cons (pv 1) (pa_cons pe_int (pa_cons (pe_op op_sub (pe_callB call_len_seq (by rfl) T.f_len (by decide +kernel) (pa_cons (pe_fld (pv 0) rfl) pa_nil)) pe_int) pa_nil))))))
        (pss_one ps_never)
        pss_nil)
      (pss_one (ps_fld (pv 0) (pv 1) rfl))), ?_⟩
    obtain ⟨pa, vs, rfl, hp, pr⟩ := h.rows
    have hl := Paired.length pr
    refine ⟨_, rfl, _, rfl, m, cM K, dm, _, _, rfl, h.o, T.c_Machine, T.n_Machine_rows, rfl, pa, vs, rfl, .inr hp, _, _, rfl, rfl, a, 0, _, rfl, true, by simp; omega, iteF ?_⟩
    refine ⟨_, rfl, _, rfl, m, cM K, dm, _, rfl, h.o, T.c_Machine, T.n_Machine_at, Nat.le_of_ble_eq_true rfl, ?_⟩
    exact q _ _ (h.fld a st.count st.over st.done).mch (frm_upd (.head _)) (Nw.refl _ _)
theorem fr_new {fp : List Addr} {H : Hp} {l : Addr} (h : ∀ b ∈ fp, ∃ o, H b = some o ∧ ∀ xs, o ≠ .tup xs) (e : H l = none) : l ∉ fp := fun m => by
  obtain ⟨o, z, _⟩ := h l m
  rw [e] at z; cases z
theorem nd_lt {m lw ls ld lt lt' : Addr} {xs xs' : List Addr} (h : (m :: lw :: ls :: ld :: lt :: xs).Nodup) (h1 : lt' ∉ [m, lw, ls, ld]) (h2 : lt' ∉ xs') (h3 : xs'.Nodup) (h4 : ∀ b ∈ xs', b ∉ [m, lw, ls, ld]) : (m :: lw :: ls :: ld :: lt' :: xs').Nodup := by
  simp only [List.nodup_cons, List.mem_cons, not_or, List.not_mem_nil, not_false_eq_true, and_true] at h h1 ⊢
  obtain ⟨⟨n1, n2, n3, n4, n5⟩, ⟨n6, n7, n8, n9⟩, ⟨n10, n11, n12⟩, ⟨n13, n14⟩, _⟩ := h
  obtain ⟨k1, k2, k3, k4⟩ := h1
  have h5 : ∀ b ∈ xs', b ≠ m ∧ b ≠ lw ∧ b ≠ ls ∧ b ≠ ld := fun b hb => by
    have := h4 b hb
    simp only [List.mem_cons, not_or, List.not_mem_nil, not_false_eq_true, and_true] at this
    exact this
  exact ⟨⟨n1, n2, n3, Ne.symm k1, fun z => (h5 _ z).1 rfl⟩, ⟨n6, n7, Ne.symm k2, fun z => (h5 _ z).2.1 rfl⟩, ⟨n10, Ne.symm k3, fun z => (h5 _ z).2.2.1 rfl⟩, ⟨Ne.symm k4, fun z => (h5 _ z).2.2.2 rfl⟩, h2, h3⟩
theorem stos_at {H : Hp} : ∀ {xs : List Addr} {ss : List SS}, Paired (StO K H) xs ss → ∀ b ∈ xs, ∃ s, StO K H b s
  | _, _, .nil, _, hb => absurd hb (by simp)
  | _, _, .cons h r, b, hb => by
    rcases List.mem_cons.mp hb with e | e
    · subst e; exact ⟨_, h⟩
    · exact stos_at r b e
theorem Paired.take {α β : Type} {F : α → β → Prop} : ∀ {l : List α} {m : List β} (n : Nat), Paired F l m → Paired F (l.take n) (m.take n)
  | _, _, 0, _ => by simp; exact .nil
  | _, _, _ + 1, .nil => .nil
  | _, _, n + 1, .cons h t => .cons h (Paired.take n t)
theorem cutTo1 (xs : List V) : cutV xs none (some 1) = xs.take 1 := by
  rcases xs with _ | ⟨x, xs⟩
  · rfl
  · rw [cut01]; rfl
theorem sc_Machine_keep : FnScope ["self"] ["self"] (defScope s_Machine_keep) := ⟨rfl, rfl, rfl, by decide +kernel, rfl, by decide +kernel, by decide +kernel⟩
def sp_keep (K : PySem.W.Frag) : Sp := fun vs H Q _ => ∃ m p inp st fp, vs = [V.ref m] ∧ Mch K H m p inp st fp ∧ Goes K H m p inp (keepF st) fp (Q .non)
theorem G_Machine_keep (T : Tx w K mg) : Kn PP w K mg base 3 (He.ma K (He.ga K "Machine") "keep") ["self"] (sp_keep K) := by
  have G_Stand := G_Stand (base := base) T
  refine kn_of T.d_Machine_keep sc_Machine_keep (fun _ _ _ _ _ _ us hl => match us, hl with | [_], _ => rfl) (fun vs H Q E h => ?_) fun cdv A outer s H vs Q E hr h => ?_
  · obtain ⟨m, p, inp, st, fp, rfl, _⟩ := h; rfl
  · obtain ⟨m, p, inp, st, fp, rfl, ⟨va, vi, dm, lw, ls, ld, lt, xs, rfl, h⟩, q⟩ := h
    refine ⟨_, (pss_cons (ps_fldaug (pv 0) pe_int in_add)
      (pss_one (ps_fld (pv 0) (pe_op op_cat (pe_lst (pa_cons (pe_kc G_Stand (hr.mono (by decide)) (by rfl) T.g_Stand (pa_cons (pe_fld (pv 0) rfl) (pa_cons (pe_fld (pv 0) rfl) (pa_cons (pe_fld (pv 0) rfl) (pa_cons (pe_fld (pv 0) rfl) pa_nil))))) pa_nil)) (pe_slice sl_list (pe_fld (pv 0) rfl) po_none (po_some (pe_op op_sub (pe_gx (by rfl) T.i_MOST_KEPT) pe_int)))) rfl))), ?_⟩
    refine ⟨_, rfl, m, cM K, dm, _, _, rfl, h.o, T.c_Machine, T.n_Machine_at, rfl, _, _, rfl, rfl, dm, _, h.o, Nat.le_of_ble_eq_true rfl, ?_⟩
    have h1 := h.fld (st.at_ + 1) st.count st.over st.done
    have f1 : Frm (m :: lw :: ls :: ld :: lt :: xs) H (upd H m (.ins (cM K) dm (mfs va vi (.int (st.at_ + 1)) (.ref lw) (.ref ls) (.ref ld) (.int st.count) (.ref lt) (oS st.over) (.int st.done)))) := frm_upd (.head _)
    generalize hH1 : upd H m (.ins (cM K) dm (mfs va vi (.int (st.at_ + 1)) (.ref lw) (.ref ls) (.ref ld) (.int st.count) (.ref lt) (oS st.over) (.int st.done))) = H1 at h1 f1
    rw [show upd H m (.ins (cM K) dm (putF "at" (.int (st.at_ + 1)) (mfs va vi (.int st.at_) (.ref lw) (.ref ls) (.ref ld) (.int st.count) (.ref lt) (oS st.over) (.int st.done)))) = H1 from hH1]
    clear hH1
    refine ⟨_, rfl, m, cM K, dm, _, _, rfl, h1.o, T.c_Machine, T.n_Machine_at, rfl, ?_⟩
    refine ⟨_, rfl, m, cM K, dm, _, _, rfl, h1.o, T.c_Machine, T.n_Machine_words, rfl, ?_⟩
    refine ⟨_, rfl, m, cM K, dm, _, _, rfl, h1.o, T.c_Machine, T.n_Machine_store, rfl, ?_⟩
    refine ⟨_, rfl, m, cM K, dm, _, _, rfl, h1.o, T.c_Machine, T.n_Machine_count, rfl, fun y dy hy hdy ne => ?_⟩
    have s2 : Same H1 (upd (upd H1 dy (.own y)) y (.ins (cS K) dy [])) := same_mk hy hdy ne
    have h2 := h1.same s2
    refine ⟨y, dy, _, lw, _, ls, _, _, rfl, upd_same, .inl (sq_lst h2.w), .inl (sq_lst h2.s), fun H3 f3 h3 => ⟨rfl, ?_⟩⟩
    have s3 : Same H1 H3 := fun c o hc => f3 c o (s2 c o hc) (by simpa using ne_of_none hc hy)
    have m3 := h1.same s3
    refine ⟨by show 1 ≤ sizeLine; decide, fun l1 hl1 => ?_⟩
    have s4 : Same H1 (upd H3 l1 (.lst [.ref y])) := s3.trans (same_new hl1)
    have y4 : StO K (upd H3 l1 (.lst [.ref y])) y ⟨st.at_ + 1, st.words, st.store, st.count, false⟩ := h3.same (same_new hl1)
    have m4 := h1.same s4
    refine ⟨_, rfl, m, cM K, dm, _, _, rfl, m4.o, T.c_Machine, T.n_Machine_stands, rfl, _, _, rfl, rfl, _, rfl, lt, _, rfl, sq_lst m4.t, fun l2 hl2 => ?_⟩
    rw [show ((2 : Int) - 1) = 1 from rfl, cutTo1]
    refine ⟨l1, l2, _, _, rfl, rfl, by rw [upd_ne (ne_of_none upd_same hl2)]; exact upd_same, upd_same, ?_, fun l3 hl3 => ?_⟩
    · rw [List.length_singleton, List.length_take]
      exact Nat.le_trans (Nat.add_le_add_left (Nat.min_le_left _ _) 1) (by decide)
    · have s5 : Same (upd H3 l1 (.lst [.ref y])) (upd (upd (upd H3 l1 (.lst [.ref y])) l2 (.lst ((xs.map V.ref).take 1))) l3 (.lst ([V.ref y] ++ (xs.map V.ref).take 1))) := (same_new hl2).trans (same_new hl3)
      generalize hH5 : upd (upd (upd H3 l1 (.lst [.ref y])) l2 (.lst ((xs.map V.ref).take 1))) l3 (.lst ([V.ref y] ++ (xs.map V.ref).take 1)) = H5 at s5
      have l5 : H5 l3 = some (.lst ((y :: xs.take 1).map V.ref)) := by rw [← hH5, List.map_cons, List.map_take]; exact upd_same
      have l3n : H1 l3 = none := by
        cases e : H1 l3 with
        | none => rfl
        | some o =>
          rw [same_new hl2 _ _ (s4 _ _ e)] at hl3
          cases hl3
      have y5 := y4.same s5
      have m5 := m4.same s5
      have yl3 : y ≠ l3 := fun e => by
        obtain ⟨_, _, _, z, _⟩ := y4
        have z := same_new (o := .lst ((xs.map V.ref).take 1)) hl2 _ _ z
        exact ne_of_none z hl3 e
      clear hH5
      refine ⟨_, rfl, m, cM K, dm, _, rfl, m5.o, T.c_Machine, T.n_Machine_stands, Nat.le_of_ble_eq_true rfl, ?_⟩
      have hin := m5.o
      have t6 := tl_ins (K := K) (o := .ins (cM K) dm (mfs va vi (.int (st.at_ + 1)) (.ref lw) (.ref ls) (.ref ld) (.int st.count) (.ref l3) (oS st.over) (.int st.done))) hin
      have m6 := m5.fld (st.at_ + 1) st.count st.over st.done
      have th := h1.mch.there
      have yfp := fr_new th hy
      have l3fp := fr_new th l3n
      have nd := h.nd
      have hx : xs.Nodup := by simp only [List.nodup_cons] at nd; exact nd.2.2.2.2.2
      have nd2 := nd
      simp only [List.nodup_cons, List.mem_cons, not_or] at nd2
      obtain ⟨⟨n1, n2, n3, n4, n5⟩, ⟨n6, n7, n8, n9⟩, ⟨n10, n11, n12⟩, ⟨n13, n14⟩, _⟩ := nd2
      simp only [List.mem_cons, not_or] at yfp l3fp
      obtain ⟨y1, y2, y3, y4', y5', y6⟩ := yfp
      obtain ⟨z1, z2, z3, z4, z5, z6⟩ := l3fp
      refine q _ (m :: lw :: ls :: ld :: l3 :: (y :: xs.take 1)) ⟨va, vi, dm, lw, ls, ld, l3, y :: xs.take 1, rfl, nd_lt nd ?_ ?_ ?_ ?_, upd_same, m5.rows.tl t6, m5.given.tl t6, ?_, ?_, ?_, ?_, .cons (y5.upd y1 t6) (Paired.take 1 (stos_upd t6 m5.sts n5))⟩ ?_ ?_
      · simp only [List.mem_cons, not_or, List.not_mem_nil, not_false_eq_true, and_true]; exact ⟨z1, z2, z3, z4⟩
      · intro z; rcases List.mem_cons.mp z with e | e
        · exact yl3 e.symm
        · exact z6 (List.mem_of_mem_take e)
      · exact List.nodup_cons.mpr ⟨fun z => y6 (List.mem_of_mem_take z), hx.sublist (List.take_sublist _ _)⟩
      · intro b hb
        simp only [List.mem_cons, not_or, List.not_mem_nil, not_false_eq_true, and_true]
        rcases List.mem_cons.mp hb with e | e
        · subst e; exact ⟨y1, y2, y3, y4'⟩
        · have e := List.mem_of_mem_take e
          exact ⟨fun z => n5 (z ▸ e), fun z => n9 (z ▸ e), fun z => n12 (z ▸ e), fun z => n14 (z ▸ e)⟩
      · rw [upd_ne (Ne.symm n1)]; exact m5.w
      · rw [upd_ne (Ne.symm n2)]; exact m5.s
      · rw [upd_ne (Ne.symm n3)]; exact m5.d
      · rw [upd_ne z1]; exact l5
      · exact (f1.tr (frm_same (s4.trans s5))).tr (frm_upd (.head _))
      · intro b hb
        have hf : ∀ c, H1 c = none → c ∉ (m :: lw :: ls :: ld :: lt :: xs) → H c = none := fun c e n => f1.free n e
        simp only [List.mem_cons] at hb ⊢
        rcases hb with e | e | e | e | e | e | e
        · exact .inl (.inl e)
        · exact .inl (.inr (.inl e))
        · exact .inl (.inr (.inr (.inl e)))
        · exact .inl (.inr (.inr (.inr (.inl e))))
        · exact .inr (by rw [e]; exact hf _ l3n (fr_new th l3n))
        · exact .inr (by rw [e]; exact hf _ hy (fr_new th hy))
        · exact .inl (.inr (.inr (.inr (.inr (.inr (List.mem_of_mem_take e))))))
end

end Sw
/-! SwD8 -/
namespace Sw
set_option Elab.async false
set_option linter.all false
set_option maxRecDepth 100000
set_option maxHeartbeats 4000000
open PySem PySem.Spec PyProof.Rows L2
section
variable {w : World} {K : PySem.W.Frag} {mg : Str → Option Value} {base : Heap}
def frsI (l : List SS) (i : Nat) : Option Int := match l[i]? with | some s => if s.used then none else some ((i : Nat) : Int) | none => none
theorem fresh_ix {l : List SS} (h : l.length ≤ 2) : ((List.range l.length).filterMap (frsI l) = [] ∧ fresh l = none) ∨ ∃ (k : Nat) (t : List Int) (s : SS), (List.range l.length).filterMap (frsI l) = (k : Int) :: t ∧ l[k]? = some s ∧ fresh l = some (s, l.drop (k + 1)) := by
  rcases l with _ | ⟨a, _ | ⟨b, _ | ⟨c, l⟩⟩⟩
  · exact .inl ⟨rfl, rfl⟩
  · obtain ⟨a1, a2, a3, a4, a5⟩ := a
    cases a5
    · exact .inr ⟨0, [], _, rfl, rfl, rfl⟩
    · exact .inl ⟨rfl, rfl⟩
  · obtain ⟨a1, a2, a3, a4, a5⟩ := a
    obtain ⟨b1, b2, b3, b4, b5⟩ := b
    cases a5
    · cases b5
      · exact .inr ⟨0, [1], _, rfl, rfl, rfl⟩
      · exact .inr ⟨0, [], _, rfl, rfl, rfl⟩
    · cases b5
      · exact .inr ⟨1, [], _, rfl, rfl, rfl⟩
      · exact .inl ⟨rfl, rfl⟩
  · simp at h
theorem cutFrom (xs : List V) (k : Nat) (h : k ≤ xs.length) : cutV xs (some (k : Int)) none = xs.drop k := by
  unfold cutV
  rw [HT.sIx_nat, HT.sIx_none, Nat.min_eq_left h, List.take_of_length_le]
  rw [List.length_drop]
  exact Nat.le_refl _
theorem Paired.drop {α β : Type} {F : α → β → Prop} : ∀ {l : List α} {m : List β} (n : Nat), Paired F l m → Paired F (l.drop n) (m.drop n)
  | _, _, 0, h => by simpa using h
  | _, _, _ + 1, .nil => .nil
  | _, _, n + 1, .cons h t => Paired.drop n t
theorem sc_Machine_stumble : FnScope ["self", "fresh", "number", "stand"] ["self"] (defScope s_Machine_stumble) := ⟨rfl, rfl, rfl, by decide +kernel, rfl, by decide +kernel, by decide +kernel⟩
def sp_stumble (K : PySem.W.Frag) : Sp := fun vs H Q _ => ∃ m p inp st fp, vs = [V.ref m] ∧ Mch K H m p inp st fp ∧ st.stands.length ≤ 2 ∧ Goes K H m p inp (stumbleF st) fp (Q .non)
theorem G_Machine_stumble (T : Tx w K mg) : Kn PP w K mg base 1 (He.ma K (He.ga K "Machine") "stumble") ["self"] (sp_stumble K) := by
  refine kn_of T.d_Machine_stumble sc_Machine_stumble (fun _ _ _ _ _ _ us hl => match us, hl with | [_], _ => rfl) (fun vs H Q E h => ?_) fun cdv A outer s H vs Q E hr h => ?_
  · obtain ⟨m, p, inp, st, fp, rfl, _⟩ := h; rfl
  · obtain ⟨m, p, inp, st, fp, rfl, ⟨va, vi, dm, lw, ls, ld, lt, xs, rfl, h⟩, two, q⟩ := h
    have hxl := Paired.length h.sts
    refine ⟨_, (pss_cons (ps_setLc (i := 1) (own := [("number", 2), ("stand", 3)])  rfl sc_Machine_stumble.nd rfl rfl (sw_true rfl rfl rfl (by decide +kernel)) (pi_enum (by rfl) T.f_enumerate (pa_cons (pe_fld (pv 0) rfl) pa_nil)) (blkOk_by (own := [("number", 2), ("stand", 3)]) (N := ["self", "fresh", "number", "stand"]) (sc := defScope s_Machine_stumble) (by decide +kernel)) (fun _ _ _ _ _ => (show PG _ _ (gTup K 2 _) from pg_tup rfl (pgs_cons (pg_name (i := 2) sc_Machine_stumble.nd rfl (Or.inl rfl)) (pgs_cons (pg_name (i := 3) sc_Machine_stumble.nd rfl (Or.inl rfl)) pgs_nil)))) (fun _ _ _ _ _ => pts_one (pt_not (pt_val (show PE _ _ (tFld K _ _) from pe_fld (pv 3) rfl)))) (fun _ _ _ _ _ => (pv 2)))
      (pss_cons (ps_if (pt_cmpR (op_eqD hr.units) (pv 1) (pe_lst pa_nil) (nomark _))
        (pss_cons (ps_fld (pv 0) pe_str rfl)
        (pss_one ps_retN))
        pss_nil)
      (pss_cons (ps_fld (pv 0) (pe_slice sl_list (pe_fld (pv 0) rfl) (po_some (pe_ix ix_list (pv 1) pe_int (fun _ _ => rfl))) po_none) rfl)
      (pss_cons (ps_set (i := 3) sc_Machine_stumble.nd rfl (Or.inl rfl) (pe_ix ix_list (pe_fld (pv 0) rfl) pe_int (fun _ _ => rfl)))
      (pss_cons (ps_fld (pv 3) pe_bl rfl)
      (pss_cons (ps_fld (pv 0) (pe_fld (pv 3) rfl) rfl)
      (pss_cons (ps_fld (pv 0) (pe_callTy call_list_of (by rfl) T.f_list (by decide +kernel) (pa_cons (pe_fld (pv 3) rfl) pa_nil)) rfl)
      (pss_cons (ps_fld (pv 0) (pe_callTy call_list_of (by rfl) T.f_list (by decide +kernel) (pa_cons (pe_fld (pv 3) rfl) pa_nil)) rfl)
      (pss_one (ps_fld (pv 0) (pe_fld (pv 3) rfl) rfl)))))))))), ?_⟩
    refine ⟨_, rfl, m, cM K, dm, _, _, rfl, h.o, T.c_Machine, T.n_Machine_stands, rfl, lt, _, rfl, sq_lst h.t, fun D hD => ?_⟩
    refine lc_pure (G := fun H' => SqL K H' lt (xs.map V.ref)) walk_enum (frsI st.stands) (fun v a _ => v = .int a) (fun _ _ _ _ h _ => h) (fun _ _ _ _ _ _ h _ => h) (by rw [List.length_map, hxl]; omega) hD (fun H' s => sq_lst (s _ _ h.t)) ?_ ?_
    · rintro i x H3 H4 Qe Qn hi s ⟨U, c1, y, rfl, hU, rfl, e1, e2⟩ qe qn
      obtain rfl : V.int (i : Nat) = c1 := Option.some.inj e1
      have e2 : (xs.map V.ref)[i]? = some y := e2
      rw [List.getElem?_map] at e2
      obtain ⟨z1, e3, rfl⟩ := Option.map_eq_some_iff.mp e2
      obtain ⟨ss, e4, o1⟩ := Paired.at1 h.sts e3
      obtain ⟨dx, a1, b1, ho, _, _⟩ := o1.same (s.trans (same_new (o := .tup [.int (i : Nat), .ref z1]) hU))
      refine ⟨_, _, rfl, sq_new, rfl, _, _, rfl, _, _, rfl, rfl, rfl, ?_⟩
      refine ⟨_, rfl, z1, cS K, dx, _, _, rfl, ho, T.c_Stand, T.n_Stand_used, rfl, _, rfl, ?_⟩
      have ef : frsI st.stands i = if ss.used then none else some ((i : Nat) : Int) := by unfold frsI; rw [e4]
      refine ite2 (fun e => ?_) (fun e => ?_)
      · have e : ss.used = false := by simpa using e
        exact ⟨_, rfl, qe _ _ (i : Nat) (same_new hU) (by rw [ef, e]; rfl) rfl⟩
      · have e : ss.used = true := by simpa using e
        exact qn _ (same_new hU) (by rw [ef, e]; rfl)
    · intro H1 acc s1 hl pr
      rw [paired_map pr, List.length_map, hxl] at hl
      refine ⟨_, rfl, by decide, fun l0 hl0 => ?_⟩
      have s2 : Same H (upd H1 l0 (.lst [])) := s1.trans (same_new hl0)
      have hD2 : (upd H1 l0 (.lst [])) D = some (.lst (((List.range st.stands.length).filterMap (frsI st.stands)).map V.int)) := by rw [upd_ne (ne_of_none hl hl0)]; exact hl
      generalize hH2 : upd H1 l0 (.lst []) = H2 at s2 hD2
      have hl02 : H2 l0 = some (.lst []) := by rw [← hH2]; exact upd_same
      clear hH2
      refine ⟨.list ((((List.range st.stands.length).filterMap (frsI st.stands))).map .int), .list (([] : List Int).map .int), .lst (sq_lst hD2) dp_ints, .lst (sq_lst hl02) .nil, sh_lI _, sh_lI _, _, rfl, ?_⟩
      rw [eqv_lI]
      have m2 := h.same s2
      rcases fresh_ix two with ⟨e1, e2⟩ | ⟨k, t, ss, e1, e2, e3⟩
      · refine ite2 (fun _ => ?_) (fun e => absurd (by rw [e1]; decide) e)
        refine ⟨_, rfl, m, cM K, dm, _, rfl, m2.o, T.c_Machine, T.n_Machine_over, Nat.le_of_ble_eq_true rfl, ?_⟩
        have es : stumbleF st = { st with over := some "slip" } := by unfold stumbleF; rw [e2]
        rw [es] at q
        exact q _ _ (m2.fld st.at_ st.count (some "slip") st.done).mch ((frm_same s2).tr (frm_upd (.head _))) (Nw.refl _ _)
      · refine ite2 (fun e => absurd e (by rw [e1]; simp)) (fun _ => ?_)
        have es : stumbleF st = { st with at_ := ss.at_, words := ss.words, store := ss.store, count := ss.count, stands := { ss with used := true } :: st.stands.drop (k + 1) } := by unfold stumbleF; rw [e3]
        rw [es] at q
        have hk : k < st.stands.length := by
          rcases Nat.lt_or_ge k st.stands.length with z | z
          · exact z
          · rw [List.getElem?_eq_none z] at e2; cases e2
        obtain ⟨x0, ex0, so0⟩ := Paired.at_ h.sts e2
        have hsl : st.stands.drop k = ss :: st.stands.drop (k + 1) := by
          rw [List.drop_eq_getElem_cons hk]
          rw [List.getElem?_eq_getElem hk] at e2
          injection e2 with e2
          rw [e2]
        have hxd : xs.drop k = x0 :: xs.drop (k + 1) := by
          rw [List.drop_eq_getElem_cons (by omega)]
          rw [List.getElem?_eq_getElem (by omega)] at ex0
          injection ex0 with ex0
          rw [ex0]
        refine ⟨_, rfl, m, cM K, dm, _, _, rfl, m2.o, T.c_Machine, T.n_Machine_stands, rfl, ?_⟩
        refine ⟨_, rfl, _, _, _, _, rfl, rfl, sq_lst hD2, by rw [e1]; exact atI0 _ _, _, rfl, lt, _, rfl, sq_lst m2.t, fun l1 hl1 => ?_⟩
        rw [cutFrom _ _ (by rw [List.length_map]; omega)]
        have s3 : Same H (upd H2 l1 (.lst ((xs.map V.ref).drop k))) := s2.trans (same_new hl1)
        have m3 := h.same s3
        have l1H : H l1 = none := by
          cases e : H l1 with
          | none => rfl
          | some o => rw [s2 _ _ e] at hl1; cases hl1
        have hl3 : (upd H2 l1 (.lst ((xs.map V.ref).drop k))) l1 = some (.lst ((xs.drop k).map V.ref)) := by rw [List.map_drop]; exact upd_same
        generalize upd H2 l1 (.lst ((xs.map V.ref).drop k)) = H3 at s3 m3 hl3
        refine ⟨_, rfl, m, cM K, dm, _, rfl, m3.o, T.c_Machine, T.n_Machine_stands, Nat.le_of_ble_eq_true rfl, ?_⟩
        have th := h.mch.there
        have z1 := fr_new th l1H
        have nd := h.nd
        have nd2 := nd
        simp only [List.mem_cons, not_or] at z1
        simp only [List.nodup_cons, List.mem_cons, not_or] at nd2
        obtain ⟨z1, z2, z3, z4, z5, z6⟩ := z1
        obtain ⟨⟨n1, n2, n3, n4, n5⟩, ⟨n6, n7, n8, n9⟩, ⟨n10, n11, n12⟩, ⟨n13, n14⟩, n15, n16⟩ := nd2
        -- the new list of stands
        have m4 : MO K (upd H3 m (.ins (cM K) dm (mfs va vi (.int st.at_) (.ref lw) (.ref ls) (.ref ld) (.int st.count) (.ref l1) (oS st.over) (.int st.done)))) m p inp { st with stands := st.stands.drop k } va vi dm lw ls ld l1 (xs.drop k) := by
          have t := tl_ins (K := K) (o := .ins (cM K) dm (mfs va vi (.int st.at_) (.ref lw) (.ref ls) (.ref ld) (.int st.count) (.ref l1) (oS st.over) (.int st.done))) m3.o
          refine ⟨nd_lt nd (by simp only [List.mem_cons, not_or, List.not_mem_nil, not_false_eq_true, and_true]; exact ⟨z1, z2, z3, z4⟩) (fun z => z6 (List.mem_of_mem_drop z)) (n16.sublist (List.drop_sublist _ _)) (fun b hb => ?_), upd_same, m3.rows.tl t, m3.given.tl t, ?_, ?_, ?_, ?_, Paired.drop k (stos_upd t m3.sts n5)⟩
          · have e := List.mem_of_mem_drop hb
            simp only [List.mem_cons, not_or, List.not_mem_nil, not_false_eq_true, and_true]
            exact ⟨fun z => n5 (z ▸ e), fun z => n9 (z ▸ e), fun z => n12 (z ▸ e), fun z => n14 (z ▸ e)⟩
          · rw [upd_ne (Ne.symm n1)]; exact m3.w
          · rw [upd_ne (Ne.symm n2)]; exact m3.s
          · rw [upd_ne (Ne.symm n3)]; exact m3.d
          · rw [upd_ne z1]; exact hl3
        have f4 : Frm (m :: lw :: ls :: ld :: lt :: xs) H (upd H3 m (.ins (cM K) dm (mfs va vi (.int st.at_) (.ref lw) (.ref ls) (.ref ld) (.int st.count) (.ref l1) (oS st.over) (.int st.done)))) := (frm_same s3).tr (frm_upd (.head _))
        generalize hH4 : upd H3 m (.ins (cM K) dm (mfs va vi (.int st.at_) (.ref lw) (.ref ls) (.ref ld) (.int st.count) (.ref l1) (oS st.over) (.int st.done))) = H4 at m4 f4
        rw [show upd H3 m (.ins (cM K) dm (putF "stands" (.ref l1) (mfs va vi (.int st.at_) (.ref lw) (.ref ls) (.ref ld) (.int st.count) (.ref lt) (oS st.over) (.int st.done)))) = H4 from hH4]
        clear hH4 m3 hl3
        rw [hsl, hxd] at m4
        -- the stand that is gone back to
        refine ⟨_, rfl, m, cM K, dm, _, _, rfl, m4.o, T.c_Machine, T.n_Machine_stands, rfl, _, _, _, _, rfl, rfl, sq_lst m4.t, atI0 _ _, ?_⟩
        have nd4 := m4.nd
        simp only [List.nodup_cons, List.mem_cons, not_or] at nd4
        obtain ⟨⟨_, _, _, _, k1, _⟩, ⟨_, _, _, k2, _⟩, ⟨_, _, k3, _⟩, ⟨_, k4, _⟩, ⟨k5, _⟩, ⟨k6, _⟩⟩ := nd4
        obtain ⟨dx, a, b, hx, ha, hb⟩ : StO K H4 x0 ss := by cases m4.sts with | cons h _ => exact h
        refine ⟨_, rfl, x0, cS K, dx, _, rfl, hx, T.c_Stand, T.n_Stand_used, Nat.le_of_ble_eq_true rfl, ?_⟩
        have m5 : MO K (upd H4 x0 (.ins (cS K) dx (sfs (.int ss.at_) (.ref a) (.ref b) (.int ss.count) (.bl true)))) m p inp { st with stands := { ss with used := true } :: st.stands.drop (k + 1) } va vi dm lw ls ld l1 (x0 :: xs.drop (k + 1)) := by
          have t := tl_ins (K := K) (o := .ins (cS K) dx (sfs (.int ss.at_) (.ref a) (.ref b) (.int ss.count) (.bl true))) hx
          refine ⟨m4.nd, by rw [upd_ne k1]; exact m4.o, m4.rows.tl t, m4.given.tl t, by rw [upd_ne k2]; exact m4.w, by rw [upd_ne k3]; exact m4.s, by rw [upd_ne k4]; exact m4.d, by rw [upd_ne k5]; exact m4.t, ?_⟩
          cases m4.sts with
          | cons _ r => exact .cons ⟨dx, a, b, upd_same, t _ _ ha, t _ _ hb⟩ (stos_upd t r k6)
        have f5 : Frm (m :: lw :: ls :: ld :: lt :: xs) H (upd H4 x0 (.ins (cS K) dx (sfs (.int ss.at_) (.ref a) (.ref b) (.int ss.count) (.bl true)))) := f4.tr (frm_upd (by
          simp only [List.mem_cons]
          exact .inr (.inr (.inr (.inr (.inr (List.mem_of_getElem? ex0)))))))
        generalize hH5 : upd H4 x0 (.ins (cS K) dx (sfs (.int ss.at_) (.ref a) (.ref b) (.int ss.count) (.bl true))) = H5 at m5 f5
        rw [show upd H4 x0 (.ins (cS K) dx (putF "used" (.bl true) (sfs (.int ss.at_) (.ref a) (.ref b) (.int ss.count) (.bl ss.used)))) = H5 from hH5]
        have hx5 : H5 x0 = some (.ins (cS K) dx (sfs (.int ss.at_) (.ref a) (.ref b) (.int ss.count) (.bl true))) := by rw [← hH5]; exact upd_same
        have ha5 : SqT K H5 a (ss.words.map V.int) := by rw [← hH5]; exact tl_ins hx _ _ ha
        have hb5 : SqT K H5 b (ss.store.map V.int) := by rw [← hH5]; exact tl_ins hx _ _ hb
        clear hH5 m4 f4 hx ha hb
        -- at
        refine ⟨_, rfl, x0, cS K, dx, _, _, rfl, hx5, T.c_Stand, T.n_Stand_at, rfl, ?_⟩
        refine ⟨_, rfl, m, cM K, dm, _, rfl, m5.o, T.c_Machine, T.n_Machine_at, Nat.le_of_ble_eq_true rfl, ?_⟩
        have m6 := m5.fld ss.at_ st.count st.over st.done
        have f6 : Frm (m :: lw :: ls :: ld :: lt :: xs) H (upd H5 m (.ins (cM K) dm (mfs va vi (.int ss.at_) (.ref lw) (.ref ls) (.ref ld) (.int st.count) (.ref l1) (oS st.over) (.int st.done)))) := f5.tr (frm_upd (.head _))
        have hx6 : (upd H5 m (.ins (cM K) dm (mfs va vi (.int ss.at_) (.ref lw) (.ref ls) (.ref ld) (.int st.count) (.ref l1) (oS st.over) (.int st.done)))) x0 = some (.ins (cS K) dx (sfs (.int ss.at_) (.ref a) (.ref b) (.int ss.count) (.bl true))) := by rw [upd_ne (Ne.symm k1)]; exact hx5
        have ha6 := tl_ins (o := .ins (cM K) dm (mfs va vi (.int ss.at_) (.ref lw) (.ref ls) (.ref ld) (.int st.count) (.ref l1) (oS st.over) (.int st.done))) m5.o _ _ ha5
        have hb6 := tl_ins (o := .ins (cM K) dm (mfs va vi (.int ss.at_) (.ref lw) (.ref ls) (.ref ld) (.int st.count) (.ref l1) (oS st.over) (.int st.done))) m5.o _ _ hb5
        generalize hH6 : upd H5 m (.ins (cM K) dm (mfs va vi (.int ss.at_) (.ref lw) (.ref ls) (.ref ld) (.int st.count) (.ref l1) (oS st.over) (.int st.done))) = H6 at m6 f6 hx6 ha6 hb6
        rw [show upd H5 m (.ins (cM K) dm (putF "at" (.int ss.at_) (mfs va vi (.int st.at_) (.ref lw) (.ref ls) (.ref ld) (.int st.count) (.ref l1) (oS st.over) (.int st.done)))) = H6 from hH6]
        clear hH6 m5 f5 hx5 ha5 hb5
        -- words
        refine ⟨_, rfl, x0, cS K, dx, _, _, rfl, hx6, T.c_Stand, T.n_Stand_words, rfl, a, _, rfl, .inr ha6, fun lw2 hlw2 => ?_⟩
        have s7 := same_new (o := .lst (ss.words.map V.int)) hlw2
        have m7 := m6.same s7
        have lw2H : H lw2 = none ∨ lw2 ∈ (m :: lw :: ls :: ld :: lt :: xs) := by
          by_cases e : lw2 ∈ (m :: lw :: ls :: ld :: lt :: xs)
          · exact .inr e
          · exact .inl (f6.free e hlw2)
        have g7 := fr_new m6.mch.there hlw2
        have hx7 := s7 _ _ hx6
        have hb7 := tl_same s7 _ _ hb6
        have hw7 : (upd H6 lw2 (.lst (ss.words.map V.int))) lw2 = some (.lst (ss.words.map V.int)) := upd_same
        have f7 := f6.tr (frm_same s7)
        generalize upd H6 lw2 (.lst (ss.words.map V.int)) = H7 at s7 m7 hx7 hb7 hw7 f7
        refine ⟨_, rfl, m, cM K, dm, _, rfl, m7.o, T.c_Machine, T.n_Machine_words, Nat.le_of_ble_eq_true rfl, ?_⟩
        simp only [List.mem_cons, not_or] at g7
        obtain ⟨g1, g2, g3, g4, g5, g6, g7'⟩ := g7
        have m8 : MO K (upd H7 m (.ins (cM K) dm (mfs va vi (.int ss.at_) (.ref lw2) (.ref ls) (.ref ld) (.int st.count) (.ref l1) (oS st.over) (.int st.done)))) m p inp { st with at_ := ss.at_, words := ss.words, stands := { ss with used := true } :: st.stands.drop (k + 1) } va vi dm lw2 ls ld l1 (x0 :: xs.drop (k + 1)) := by
          have t := tl_ins (K := K) (o := .ins (cM K) dm (mfs va vi (.int ss.at_) (.ref lw2) (.ref ls) (.ref ld) (.int st.count) (.ref l1) (oS st.over) (.int st.done))) m7.o
          have nd := m7.nd
          simp only [List.nodup_cons, List.mem_cons, not_or] at nd
          obtain ⟨⟨q1, q2, q3, q4, q5, q6⟩, ⟨q7, q8, q9, q10, q11⟩, r⟩ := nd
          refine ⟨?_, upd_same, m7.rows.tl t, m7.given.tl t, by rw [upd_ne g1]; exact hw7, by rw [upd_ne (Ne.symm q2)]; exact m7.s, by rw [upd_ne (Ne.symm q3)]; exact m7.d, by rw [upd_ne (Ne.symm q4)]; exact m7.t, stos_upd t m7.sts (by simp only [List.mem_cons, not_or]; exact ⟨q5, q6⟩)⟩
          simp only [List.nodup_cons, List.mem_cons, not_or]
          exact ⟨⟨Ne.symm g1, q2, q3, q4, q5, q6⟩, ⟨g3, g4, g5, g6, g7'⟩, r⟩
        have f8 : Frm (m :: lw :: ls :: ld :: lt :: xs) H (upd H7 m (.ins (cM K) dm (mfs va vi (.int ss.at_) (.ref lw2) (.ref ls) (.ref ld) (.int st.count) (.ref l1) (oS st.over) (.int st.done)))) := f7.tr (frm_upd (.head _))
        have hx8 : (upd H7 m (.ins (cM K) dm (mfs va vi (.int ss.at_) (.ref lw2) (.ref ls) (.ref ld) (.int st.count) (.ref l1) (oS st.over) (.int st.done)))) x0 = some (.ins (cS K) dx (sfs (.int ss.at_) (.ref a) (.ref b) (.int ss.count) (.bl true))) := by rw [upd_ne (Ne.symm k1)]; exact hx7
        have hb8 := tl_ins (o := .ins (cM K) dm (mfs va vi (.int ss.at_) (.ref lw2) (.ref ls) (.ref ld) (.int st.count) (.ref l1) (oS st.over) (.int st.done))) m7.o _ _ hb7
        generalize hH8 : upd H7 m (.ins (cM K) dm (mfs va vi (.int ss.at_) (.ref lw2) (.ref ls) (.ref ld) (.int st.count) (.ref l1) (oS st.over) (.int st.done))) = H8 at m8 f8 hx8 hb8
        rw [show upd H7 m (.ins (cM K) dm (putF "words" (.ref lw2) (mfs va vi (.int ss.at_) (.ref lw) (.ref ls) (.ref ld) (.int st.count) (.ref l1) (oS st.over) (.int st.done)))) = H8 from hH8]
        clear hH8 m7 hx7 hb7 hw7 f7 s7
        -- store
        refine ⟨_, rfl, x0, cS K, dx, _, _, rfl, hx8, T.c_Stand, T.n_Stand_store, rfl, b, _, rfl, .inr hb8, fun ls2 hls2 => ?_⟩
        have s9 := same_new (o := .lst (ss.store.map V.int)) hls2
        have m9 := m8.same s9
        have ls2H : H ls2 = none ∨ ls2 ∈ (m :: lw :: ls :: ld :: lt :: xs) := by
          by_cases e : ls2 ∈ (m :: lw :: ls :: ld :: lt :: xs)
          · exact .inr e
          · exact .inl (f8.free e hls2)
        have c7 := fr_new m8.mch.there hls2
        have hx9 := s9 _ _ hx8
        have hw9 : (upd H8 ls2 (.lst (ss.store.map V.int))) ls2 = some (.lst (ss.store.map V.int)) := upd_same
        have f9 := f8.tr (frm_same s9)
        generalize upd H8 ls2 (.lst (ss.store.map V.int)) = H9 at s9 m9 hx9 hw9 f9
        refine ⟨_, rfl, m, cM K, dm, _, rfl, m9.o, T.c_Machine, T.n_Machine_store, Nat.le_of_ble_eq_true rfl, ?_⟩
        simp only [List.mem_cons, not_or] at c7
        obtain ⟨c1, c2, c3, c4, c5, c6, c7'⟩ := c7
        have ma : MO K (upd H9 m (.ins (cM K) dm (mfs va vi (.int ss.at_) (.ref lw2) (.ref ls2) (.ref ld) (.int st.count) (.ref l1) (oS st.over) (.int st.done)))) m p inp { st with at_ := ss.at_, words := ss.words, store := ss.store, stands := { ss with used := true } :: st.stands.drop (k + 1) } va vi dm lw2 ls2 ld l1 (x0 :: xs.drop (k + 1)) := by
          have t := tl_ins (K := K) (o := .ins (cM K) dm (mfs va vi (.int ss.at_) (.ref lw2) (.ref ls2) (.ref ld) (.int st.count) (.ref l1) (oS st.over) (.int st.done))) m9.o
          have nd := m9.nd
          simp only [List.nodup_cons, List.mem_cons, not_or] at nd
          obtain ⟨⟨q1, q2, q3, q4, q5, q6⟩, ⟨q7, q8, q9, q10, q11⟩, ⟨q12, q13, q14, q15⟩, r⟩ := nd
          refine ⟨?_, upd_same, m9.rows.tl t, m9.given.tl t, by rw [upd_ne (Ne.symm q1)]; exact m9.w, by rw [upd_ne c1]; exact hw9, by rw [upd_ne (Ne.symm q3)]; exact m9.d, by rw [upd_ne (Ne.symm q4)]; exact m9.t, stos_upd t m9.sts (by simp only [List.mem_cons, not_or]; exact ⟨q5, q6⟩)⟩
          simp only [List.nodup_cons, List.mem_cons, not_or]
          exact ⟨⟨q1, Ne.symm c1, q3, q4, q5, q6⟩, ⟨Ne.symm c2, q8, q9, q10, q11⟩, ⟨c4, c5, c6, c7'⟩, r⟩
        have fa : Frm (m :: lw :: ls :: ld :: lt :: xs) H (upd H9 m (.ins (cM K) dm (mfs va vi (.int ss.at_) (.ref lw2) (.ref ls2) (.ref ld) (.int st.count) (.ref l1) (oS st.over) (.int st.done)))) := f9.tr (frm_upd (.head _))
        have hxa : (upd H9 m (.ins (cM K) dm (mfs va vi (.int ss.at_) (.ref lw2) (.ref ls2) (.ref ld) (.int st.count) (.ref l1) (oS st.over) (.int st.done)))) x0 = some (.ins (cS K) dx (sfs (.int ss.at_) (.ref a) (.ref b) (.int ss.count) (.bl true))) := by rw [upd_ne (Ne.symm k1)]; exact hx9
        generalize hHa : upd H9 m (.ins (cM K) dm (mfs va vi (.int ss.at_) (.ref lw2) (.ref ls2) (.ref ld) (.int st.count) (.ref l1) (oS st.over) (.int st.done))) = Ha at ma fa hxa
        rw [show upd H9 m (.ins (cM K) dm (putF "store" (.ref ls2) (mfs va vi (.int ss.at_) (.ref lw2) (.ref ls) (.ref ld) (.int st.count) (.ref l1) (oS st.over) (.int st.done)))) = Ha from hHa]
        clear hHa
        -- count
        refine ⟨_, rfl, x0, cS K, dx, _, _, rfl, hxa, T.c_Stand, T.n_Stand_count, rfl, ?_⟩
        refine ⟨_, rfl, m, cM K, dm, _, rfl, ma.o, T.c_Machine, T.n_Machine_count, Nat.le_of_ble_eq_true rfl, ?_⟩
        refine q _ _ (ma.fld ss.at_ ss.count st.over st.done).mch (fa.tr (frm_upd (.head _))) ?_
        intro c hc
        simp only [List.mem_cons] at hc ⊢
        rcases hc with e | e | e | e | e | e | e
        · exact .inl (.inl e)
        · subst e
          rcases lw2H with z | z
          · exact .inr z
          · exact .inl (by simpa only [List.mem_cons] using z)
        · subst e
          rcases ls2H with z | z
          · exact .inr z
          · exact .inl (by simpa only [List.mem_cons] using z)
        · exact .inl (.inr (.inr (.inr (.inl e))))
        · exact .inr (by rw [e]; exact l1H)
        · exact .inl (.inr (.inr (.inr (.inr (.inr (by rw [e]; exact List.mem_of_getElem? ex0))))))
        · exact .inl (.inr (.inr (.inr (.inr (.inr (List.mem_of_mem_drop e))))))
end

end Sw
/-! SwD9 -/
namespace Sw
set_option Elab.async false
set_option linter.all false
set_option maxRecDepth 100000
set_option maxHeartbeats 4000000
open PySem PySem.Spec PyProof.Rows L2
section
variable {w : World} {K : PySem.W.Frag} {mg : Str → Option Value} {base : Heap}
theorem Goes.of {H H1 : Hp} {m : Addr} {p : List Rw} {inp : List Int} {st' : MS} {fp fp1 : List Addr} {R : Hp → Prop} (q : Goes K H m p inp st' fp R) (f : Frm fp H H1) (n : Nw fp fp1 H) : Goes K H1 m p inp st' fp1 R :=
  fun H' fp' h f2 n2 => q H' fp' h (f.trans f2 n) (n.trans n2 f)
theorem sc_Machine_tell : FnScope ["self", "word"] ["self", "word"] (defScope s_Machine_tell) := ⟨rfl, rfl, rfl, by decide +kernel, rfl, by decide +kernel, by decide +kernel⟩
def sp_tell (K : PySem.W.Frag) : Sp := fun vs H Q _ => ∃ m p inp st fp z, vs = [V.ref m, .int z] ∧ Mch K H m p inp st fp ∧ st.stands.length ≤ 2 ∧ 0 ≤ st.count ∧ st.said.length < 200000 ∧ Goes K H m p inp (tellF z st) fp (Q .non)
theorem G_Machine_tell (T : Tx w K mg) : Kn PP w K mg base 2 (He.ma K (He.ga K "Machine") "tell") ["self", "word"] (sp_tell K) := by
  have G_Machine_stumble := G_Machine_stumble (base := base) T
  refine kn_of T.d_Machine_tell sc_Machine_tell (fun _ _ _ _ _ _ us hl => match us, hl with | [_, _], _ => rfl) (fun vs H Q E h => ?_) fun cdv A outer s H vs Q E hr h => ?_
  · obtain ⟨m, p, inp, st, fp, z, rfl, _⟩ := h; rfl
  · obtain ⟨m, p, inp, st, fp, z, rfl, ⟨va, vi, dm, lw, ls, ld, lt, xs, rfl, h⟩, two, c0, big, q⟩ := h
    refine ⟨_, (pss_cons (ps_if (PW.pt (pw_and (pt_cmpR op_lt (pe_fld (pv 0) rfl) (pe_callB call_len_seq (by rfl) T.f_len (by decide +kernel) (pa_cons (pe_fld (pv 0) rfl) pa_nil)) (nomark _)) (pw_and1 (pt_cmpR op_ne (pe_ix ix_list (pe_fld (pv 0) rfl) (pe_fld (pv 0) rfl) (fun _ _ => rfl)) (pv 1) (nomark _)))))
        (pss_cons (ps_expr (pe_km0 (pv 0) T.c_Machine T.m_Machine_stumble G_Machine_stumble (hr.mono (by decide))))
        (pss_one ps_retN))
        pss_nil)
      (pss_cons (ps_if (pt_cmpR op_eq (pe_fld (pv 0) rfl) (pe_callB call_len_seq (by rfl) T.f_len (by decide +kernel) (pa_cons (pe_fld (pv 0) rfl) pa_nil)) (nomark _))
        (pss_one (ps_expr (pe_bm PySem.F.plainAttrs_list PySem.F.slot_list_append PySem.F.type_list_append mt_append (pe_fld (pv 0) rfl) (pa_cons (pv 1) pa_nil))))
        pss_nil)
      (pss_cons (ps_fldaug (pv 0) pe_int in_add)
      (pss_one (ps_fldaug (pv 0) pe_int in_add))))), ?_⟩
    -- what comes behind the first test
    have rest : ¬ (st.count < st.said.length ∧ getI st.said st.count ≠ z) → Goes K H m p inp { st with said := if st.count = st.said.length then st.said ++ [z] else st.said, count := st.count + 1, at_ := st.at_ + 1 } (m :: lw :: ls :: ld :: lt :: xs) (Q .non) := fun e => by
      unfold tellF at q
      rw [if_neg e] at q
      exact q
    have fin : ∀ (sd : List Int) (H1 : Hp), MO K H1 m p inp { st with said := sd } va vi dm lw ls ld lt xs → Frm (m :: lw :: ls :: ld :: lt :: xs) H H1 → Goes K H m p inp { st with said := sd, count := st.count + 1, at_ := st.at_ + 1 } (m :: lw :: ls :: ld :: lt :: xs) (Q .non) →
        tSeq (sFldAug K (tVar 0) (tC (.int 1)) rAdd "count") (sFldAug K (tVar 0) (tC (.int 1)) rAdd "at") { nx := fun _ H' => Q .non H', rt := Q } (L2.start ["self", "word"] [V.ref m, .int z]) H1 := fun sd H1 h1 f1 q1 => by
      refine ⟨_, rfl, m, cM K, dm, _, _, rfl, h1.o, T.c_Machine, T.n_Machine_count, rfl, _, _, rfl, rfl, dm, _, h1.o, Nat.le_of_ble_eq_true rfl, ?_⟩
      have h2 := h1.fld st.at_ (st.count + 1) st.over st.done
      refine ⟨_, rfl, m, cM K, dm, _, _, rfl, h2.o, T.c_Machine, T.n_Machine_at, rfl, _, _, rfl, rfl, dm, _, h2.o, Nat.le_of_ble_eq_true rfl, ?_⟩
      exact q1 _ _ (h2.fld (st.at_ + 1) (st.count + 1) st.over st.done).mch ((f1.tr (frm_upd (.head _))).tr (frm_upd (.head _))) (Nw.refl _ _)
    refine ⟨_, rfl, m, cM K, dm, _, _, rfl, h.o, T.c_Machine, T.n_Machine_count, rfl, _, rfl, m, cM K, dm, _, _, rfl, h.o, T.c_Machine, T.n_Machine_said, rfl, _, _, rfl, .inl (sq_lst h.d), _, _, rfl, rfl, _, rfl, ?_⟩
    rw [List.length_map]
    refine ite2 (fun e => ?_) (fun e => ?_)
    · have e : st.count < st.said.length := by simpa using e
      have eg : st.said[st.count.toNat]? = some (getI st.said st.count) := by
        unfold getI
        rw [List.getD_eq_getElem?_getD, List.getElem?_eq_getElem (by omega)]
        rfl
      refine ⟨_, rfl, m, cM K, dm, _, _, rfl, h.o, T.c_Machine, T.n_Machine_said, rfl, _, rfl, m, cM K, dm, _, _, rfl, h.o, T.c_Machine, T.n_Machine_count, rfl, _, _, _, _, rfl, rfl, sq_lst h.d, atIn (x := V.int (getI st.said st.count)) c0 (by rw [List.getElem?_map, eg]; rfl), _, rfl, rfl, _, rfl, ?_⟩
      refine ite2 (fun e2 => ?_) (fun e2 => ?_)
      · have e2 : getI st.said st.count ≠ z := by simpa using e2
        have es : tellF z st = stumbleF st := by unfold tellF; rw [if_pos ⟨e, e2⟩]
        rw [es] at q
        exact ⟨_, rfl, m, dm, _, rfl, h.o, rfl, m, p, inp, st, _, rfl, h.mch, two, q⟩
      · have e2 : getI st.said st.count = z := by simpa using e2
        have hn : ¬ (st.count < st.said.length ∧ getI st.said st.count ≠ z) := fun x => x.2 e2
        have q2 := rest hn
        refine ⟨_, rfl, m, cM K, dm, _, _, rfl, h.o, T.c_Machine, T.n_Machine_count, rfl, _, rfl, m, cM K, dm, _, _, rfl, h.o, T.c_Machine, T.n_Machine_said, rfl, _, _, rfl, .inl (sq_lst h.d), rfl, _, rfl, ?_⟩
        rw [List.length_map]
        have hne : st.count ≠ st.said.length := by omega
        rw [if_neg hne] at q2
        refine ite2 (fun e3 => absurd e3 (by simp; omega)) (fun _ => fin st.said H h (Frm.refl _ _) q2)
    · have e : ¬ st.count < st.said.length := by simpa using e
      have hn : ¬ (st.count < st.said.length ∧ getI st.said st.count ≠ z) := fun x => e x.1
      have q2 := rest hn
      refine ⟨_, rfl, m, cM K, dm, _, _, rfl, h.o, T.c_Machine, T.n_Machine_count, rfl, _, rfl, m, cM K, dm, _, _, rfl, h.o, T.c_Machine, T.n_Machine_said, rfl, _, _, rfl, .inl (sq_lst h.d), rfl, _, rfl, ?_⟩
      rw [List.length_map]
      refine ite2 (fun e3 => ?_) (fun e3 => ?_)
      · have e3 : st.count = st.said.length := by simpa using e3
        rw [if_pos e3] at q2
        refine ⟨_, rfl, m, cM K, dm, _, _, rfl, h.o, T.c_Machine, T.n_Machine_said, rfl, .inl ⟨rfl, _, sq_lst h.d⟩, _, rfl, ld, _, _, rfl, rfl, h.d, by rw [List.length_map]; exact Nat.lt_of_lt_of_le big (by decide), ?_⟩
        rw [show st.said.map V.int ++ [V.int z] = (st.said ++ [z]).map V.int by simp]
        exact fin (st.said ++ [z]) _ (h.setd (st.said ++ [z])) (frm_upd (by simp)) q2
      · have e3 : st.count ≠ st.said.length := by simpa using e3
        rw [if_neg e3] at q2
        exact fin st.said H h (Frm.refl _ _) q2
end

end Sw
/-! SwD10 -/
namespace Sw
set_option Elab.async false
set_option linter.all false
set_option maxRecDepth 100000
set_option maxHeartbeats 4000000
open PySem PySem.Spec PyProof.Rows L2
section
variable {w : World} {K : PySem.W.Frag} {mg : Str → Option Value} {base : Heap}
theorem atI_get {l : List Int} {i : Int} (h0 : 0 ≤ i) (h1 : i < l.length) : atI (l.map V.int) i = some (.int (getI l i)) := by
  refine atIn h0 ?_
  have hl : i.toNat < l.length := by omega
  unfold getI
  rw [List.getElem?_map, List.getD_eq_getElem?_getD, List.getElem?_eq_getElem hl]
  rfl
theorem ws_range {r : Rw} {st : MS} : (List.range (rds r).length).map (fun i => getI st.words ((rds r).getD i 0)) = wsOf r st := by
  unfold wsOf
  refine List.ext_getElem? fun i => ?_
  rw [List.getElem?_map, List.getElem?_map]
  rcases Nat.lt_or_ge i (rds r).length with h | h
  · rw [List.getElem?_range h, List.getElem?_eq_getElem h]
    simp only [Option.map_some, List.getD_eq_getElem?_getD, List.getElem?_eq_getElem h, Option.getD_some]
  · rw [List.getElem?_eq_none (by simpa using h), List.getElem?_eq_none h]
    rfl
theorem ws_len {r : Rw} {st : MS} : (wsOf r st).length = (rds r).length := by unfold wsOf; rw [List.length_map]
theorem rds_len {r : Rw} (ok : RwOk r) : (r.1 = "copy" ∨ r.1 = "take" → (rds r).length = 1) ∧ (r.1 = "add" ∨ r.1 = "less" ∨ r.1 = "same" ∨ r.1 = "mix" → (rds r).length = 2) ∧ (r.1 = "pick" → (rds r).length = 3) := by
  have hl := ok.len
  obtain ⟨x, ns⟩ := r
  refine ⟨fun h => ?_, fun h => ?_, fun h => ?_⟩
  · rcases h with h | h
    all_goals
      obtain rfl : x = _ := h
      have hl : ns.length = 2 := hl
      match ns, hl with
      | [a, b], _ => rfl
  · rcases h with h | h | h | h
    all_goals
      obtain rfl : x = _ := h
      have hl : ns.length = 3 := hl
      match ns, hl with
      | [a, b, c], _ => rfl
  · obtain rfl : x = _ := h
    have hl : ns.length = 4 := hl
    match ns, hl with
    | [a, b, c, d], _ => rfl
theorem two_parts {r : Rw} (ok : RwOk r) (h : r.1 = "set" ∨ r.1 = "ask") : ∃ a b, r.2 = [a, b] ∧ 0 ≤ b ∧ (r.1 = "ask" → b < 8) := by
  have hl := ok.len
  obtain ⟨x, ns⟩ := r
  rcases h with h | h
  · obtain rfl : x = _ := h
    have hl : ns.length = 2 := hl
    match ns, hl with
    | [a, b], _ => exact ⟨a, b, rfl, (ok.rg 1 110 b rfl rfl).1, fun h => absurd (show ("set" : Str) = "ask" from h) (by decide)⟩
  · obtain rfl : x = _ := h
    have hl : ns.length = 2 := hl
    match ns, hl with
    | [a, b], _ =>
      obtain ⟨h0, g, h1, h2⟩ := ok.rg 1 107 b rfl rfl
      have : g = 7 := by
        have e : greatL.lookup (⟨#[107]⟩ : Str) = some 7 := by decide
        rw [e] at h1; injection h1 with h1; exact h1.symm
      subst this
      exact ⟨a, b, rfl, h0, fun _ => by omega⟩
def deed (r : Rw) : Prop := r.1 ≠ "end" ∧ r.1 ≠ "go" ∧ r.1 ≠ "keep" ∧ copL.lookup r.1 = none
theorem deeds {r : Rw} (ok : RwOk r) (d : deed r) : r.1 = "set" ∨ r.1 = "copy" ∨ r.1 = "add" ∨ r.1 = "less" ∨ r.1 = "same" ∨ r.1 = "mix" ∨ r.1 = "pick" ∨ r.1 = "ask" ∨ r.1 = "take" := by
  obtain ⟨d1, d2, d3, d4⟩ := d
  have h := ops ok.fm
  generalize r.1 = x at *
  rcases h with ⟨e, _⟩ | ⟨e, _⟩ | ⟨e, _⟩ | ⟨e, _⟩ | ⟨e, _⟩ | ⟨e, _⟩ | ⟨e, _⟩ | ⟨e, _⟩ | ⟨e, _⟩ | ⟨e, _⟩ | ⟨e, _⟩ | ⟨e, _⟩ | ⟨e, _⟩ | ⟨e, _⟩ | ⟨e, _⟩ | ⟨e, _⟩ | ⟨e, _⟩ | ⟨e, _⟩ | ⟨e, _⟩ | ⟨e, _⟩ | ⟨e, _⟩ | ⟨e, _⟩ <;> subst e
  all_goals first
    | simp
    | (exact absurd rfl d1)
    | (exact absurd rfl d2)
    | (exact absurd rfl d3)
    | (exact absurd d4 (by decide))
theorem str_ne {x y : Str} (e : ¬ (decide (V.str x = V.str y)) = true) : x ≠ y := fun z => e (by simp [z])
theorem str_eq {x y : Str} (e : (decide (V.str x = V.str y)) = true) : x = y := by simpa using e
theorem sq_int (l : List Int) (i : Nat) (x : Int) (h : l[i]? = some x) : (l.map V.int)[i]? = some (.int x) := by rw [List.getElem?_map, h]; rfl
theorem sc_Machine_made : FnScope ["self", "row", "words", "box"] ["self", "row"] (defScope s_Machine_made) := ⟨rfl, rfl, rfl, by decide +kernel, rfl, by decide +kernel, by decide +kernel⟩
def sp_made (K : PySem.W.Frag) : Sp := fun vs H Q _ => ∃ m p inp st fp v r, vs = [V.ref m, v] ∧ Mch K H m p inp st fp ∧ Wds 32 st.words ∧ Wds 16 st.store ∧ InOk inp ∧ RwAt K H v r ∧ RwOk r ∧ deed r ∧ ∀ H', Same H H' → Q (.int (madeF inp r st)) H'
theorem G_Machine_made (T : Tx w K mg) : Kn PP w K mg base 3 (He.ma K (He.ga K "Machine") "made") ["self", "row"] (sp_made K) := by
  have G_reads := G_reads (base := base) T
  refine kn_of T.d_Machine_made sc_Machine_made (fun _ _ _ _ _ _ us hl => match us, hl with | [_, _], _ => rfl) (fun vs H Q E h => ?_) fun cdv A outer s H vs Q E hr h => ?_
  · obtain ⟨m, p, inp, st, fp, v, r, rfl, _⟩ := h; rfl
  · obtain ⟨m, p, inp, st, fp, v, r, rfl, ⟨va, vi, dm, lw, ls, ld, lt, xs, rfl, h⟩, hw, hs, hi, ⟨ra, rfl, hra⟩, ok, dd, q⟩ := h
    refine ⟨_, (pss_cons (ps_if (pt_cmpR op_eq (pe_ix ix_tup (pv 1) pe_int (fun _ _ => rfl)) pe_str (nomark _))
        (pss_one (ps_ret (pe_ix ix_tup (pv 1) pe_int (fun _ _ => rfl))))
        pss_nil)
      (pss_cons (ps_if (pt_cmpR op_eq (pe_ix ix_tup (pv 1) pe_int (fun _ _ => rfl)) pe_str (nomark _))
        (pss_one (ps_ret (pe_ix ix_tup (pe_fld (pv 0) rfl) (pe_ix ix_tup (pv 1) pe_int (fun _ _ => rfl)) (fun _ _ => rfl))))
        pss_nil)
      (pss_cons (ps_setLc (i := 2) (own := [("box", 3)]) (g := gName 3) rfl sc_Machine_made.nd rfl rfl (sw_true rfl rfl rfl (by decide +kernel)) (pi_tup (pe_kn G_reads (hr.mono (by decide)) (by rfl) T.g_reads (pa_cons (pv 1) pa_nil))) (blkOk_by (own := [("box", 3)]) (N := ["self", "row", "words", "box"]) (sc := defScope s_Machine_made) (by decide +kernel)) (fun _ _ _ _ _ => (pg_name (i := 3) sc_Machine_made.nd rfl (Or.inl rfl))) (fun _ _ _ _ _ => pts_nil) (fun _ _ _ _ _ => (pe_ix (show IxR _ (rIxL K) from ix_list) (show PE _ _ (tFld K _ _) from pe_fld (pv 0) rfl) (pv 3) (fun _ _ => rfl))))
      (pss_cons (ps_if (pt_cmpR op_eq (pe_ix ix_tup (pv 1) pe_int (fun _ _ => rfl)) pe_str (nomark _))
        (pss_one (ps_ret (pe_ix ix_list (pv 2) pe_int (fun _ _ => rfl))))
        pss_nil)
      (pss_cons (ps_if (pt_cmpR op_eq (pe_ix ix_tup (pv 1) pe_int (fun _ _ => rfl)) pe_str (nomark _))
        (pss_one (ps_ret (pe_ix ix_list (pe_fld (pv 0) rfl) (pe_ix ix_list (pv 2) pe_int (fun _ _ => rfl)) (fun _ _ => rfl))))
        pss_nil)
      (pss_cons (ps_if (pt_cmpR op_eq (pe_ix ix_tup (pv 1) pe_int (fun _ _ => rfl)) pe_str (nomark _))
        (pss_one (ps_ret (pe_ifExp (pt_cmpR op_ne (pe_ix ix_list (pv 2) pe_int (fun _ _ => rfl)) pe_int (nomark _)) (pe_ix ix_list (pv 2) pe_int (fun _ _ => rfl)) (pe_ix ix_list (pv 2) pe_int (fun _ _ => rfl)))))
        pss_nil)
      (pss_cons (ps_if (pt_cmpR op_eq (pe_ix ix_tup (pv 1) pe_int (fun _ _ => rfl)) pe_str (nomark _))
        (pss_one (ps_ret (pe_op op_mod (pe_op op_add (pe_ix ix_list (pv 2) pe_int (fun _ _ => rfl)) (pe_ix ix_list (pv 2) pe_int (fun _ _ => rfl))) (pe_op op_add (pe_gx (by rfl) T.i_MOST_WORD) pe_int))))
        pss_nil)
      (pss_cons (ps_if (pt_cmpR op_eq (pe_ix ix_tup (pv 1) pe_int (fun _ _ => rfl)) pe_str (nomark _))
        (pss_one (ps_ret (pe_op op_xor (pe_ix ix_list (pv 2) pe_int (fun _ _ => rfl)) (pe_ix ix_list (pv 2) pe_int (fun _ _ => rfl)))))
        pss_nil)
      (pss_one (ps_ret (pe_ifExp (pt_cmpR op_eq (pe_ix ix_tup (pv 1) pe_int (fun _ _ => rfl)) pe_str (nomark _)) (pe_callTy call_int1 (by rfl) T.f_int (by decide +kernel) (pa_cons (pe_cmpR op_lt (pe_ix ix_list (pv 2) pe_int (fun _ _ => rfl)) (pe_ix ix_list (pv 2) pe_int (fun _ _ => rfl)) (nomark _)) pa_nil)) (pe_callTy call_int1 (by rfl) T.f_int (by decide +kernel) (pa_cons (pe_cmpR op_eq (pe_ix ix_list (pv 2) pe_int (fun _ _ => rfl)) (pe_ix ix_list (pv 2) pe_int (fun _ _ => rfl)) (nomark _)) pa_nil))))))))))))), ?_⟩
    have i0 : ∀ H', Same H H' → SqT K H' ra (.str r.1 :: r.2.map V.int) := fun H' s => tl_same s _ _ hra
    refine ⟨_, rfl, _, _, _, _, rfl, rfl, hra, atI0 _ _, rfl, _, rfl, ?_⟩
    refine ite2 (fun e => ?_) (fun e => ?_)
    · have e := str_eq e
      obtain ⟨a, b, e2, _⟩ := two_parts ok (.inl e)
      refine ⟨_, rfl, _, _, _, _, rfl, rfl, hra, by rw [e2]; rfl, ?_⟩
      have := q _ (fun _ _ z => z)
      rw [show madeF inp r st = b by unfold madeF; rw [if_pos e, e2]; rfl] at this
      exact this
    have n1 := str_ne e
    refine ⟨_, rfl, _, _, _, _, rfl, rfl, hra, atI0 _ _, rfl, _, rfl, ?_⟩
    refine ite2 (fun e => ?_) (fun e => ?_)
    · have e := str_eq e
      obtain ⟨a, b, e2, b0, b1⟩ := two_parts ok (.inr e)
      obtain ⟨ia, rfl, hia⟩ := h.given
      refine ⟨_, rfl, m, cM K, dm, _, _, rfl, h.o, T.c_Machine, T.n_Machine_given, rfl, _, rfl, _, _, _, _, rfl, rfl, hra, by rw [e2]; rfl, _, _, _, _, rfl, rfl, hia, atI_get b0 (by rw [hi.1]; exact b1 e), ?_⟩
      have := q _ (fun _ _ z => z)
      rw [show madeF inp r st = getI inp b by unfold madeF; rw [if_neg n1, if_pos e, e2]; rfl] at this
      exact this
    have n2 := str_ne e
    refine ⟨_, rfl, _, r, rfl, ⟨ra, rfl, hra⟩, ok, fun H1 t s1 ht => ?_⟩
    refine ⟨t, rfl, ⟨_, sq_tup ht⟩, fun D hD => ?_⟩
    refine lc_all (G := fun H' => SqT K H' t ((rds r).map V.int)) walk_tup (fun i => getI st.words ((rds r).getD i 0)) (fun v a _ => v = .int a) (fun _ _ _ _ h _ => h) (fun _ _ _ _ _ _ h _ => h) (by rw [List.length_map]; have : (rds r).length ≤ 6 := parts_len ok; omega) hD (fun H' s => tl_same s _ _ (sq_tup ht)) ?_ ?_
    · rintro i x H3 H4 Qe hi s ⟨rfl, e⟩ qe
      rw [List.getElem?_map] at e
      obtain ⟨z, e1, rfl⟩ := Option.map_eq_some_iff.mp e
      have hb := ok.box (List.mem_of_getElem? e1)
      have h3 := h.same (s1.trans s)
      refine ⟨rfl, _, rfl, m, cM K, dm, _, _, rfl, h3.o, T.c_Machine, T.n_Machine_words, rfl, _, rfl, _, _, _, _, rfl, rfl, sq_lst h3.w, atI_get hb.1 (by rw [hw.1]; omega), ?_⟩
      exact qe _ _ (fun _ _ z => z) (by rw [List.getD_eq_getElem?_getD, e1]; rfl)
    · intro H3 acc s3 hl pr
      rw [paired_map pr, List.length_map, ws_range] at hl
      have s03 := s1.trans s3
      have h3 := h.same s03
      have sl : SqL K H3 D ((wsOf r st).map V.int) := sq_lst hl
      have hra3 := i0 _ s03
      have hq := q _ s03
      clear q
      obtain ⟨r1, r2, r3⟩ := rds_len ok
      rw [← @ws_len r st] at r1 r2 r3
      have sw := deeds ok dd
      refine ⟨_, rfl, _, _, _, _, rfl, rfl, hra3, atI0 _ _, rfl, _, rfl, ?_⟩
      refine ite2 (fun e => ?_) (fun e => ?_)
      · have e := str_eq e
        rw [show madeF inp r st = getI (wsOf r st) 0 by unfold madeF; rw [if_neg n1, if_neg n2]; dsimp only; rw [if_pos e]] at hq
        exact ⟨_, rfl, _, _, _, _, rfl, rfl, sl, atI_get (by decide) (by rw [r1 (.inl e)]; decide), hq⟩
      have n3 := str_ne e
      refine ⟨_, rfl, _, _, _, _, rfl, rfl, hra3, atI0 _ _, rfl, _, rfl, ?_⟩
      refine ite2 (fun e => ?_) (fun e => ?_)
      · have e := str_eq e
        rw [show madeF inp r st = getI st.store (getI (wsOf r st) 0) by unfold madeF; rw [if_neg n1, if_neg n2]; dsimp only; rw [if_neg n3, if_pos e]] at hq
        have wb := getI_w (l := wsOf r st) (fun z hz => by
          obtain ⟨i, _, rfl⟩ := List.mem_map.mp hz
          exact getI_w hw.2 i) 0
        exact ⟨_, rfl, m, cM K, dm, _, _, rfl, h3.o, T.c_Machine, T.n_Machine_store, rfl, _, rfl, _, _, _, _, rfl, rfl, sl, atI_get (by decide) (by rw [r1 (.inr e)]; decide), _, _, _, _, rfl, rfl, sq_lst h3.s, atI_get wb.1 (by rw [hs.1]; omega), hq⟩
      have n4 := str_ne e
      refine ⟨_, rfl, _, _, _, _, rfl, rfl, hra3, atI0 _ _, rfl, _, rfl, ?_⟩
      refine ite2 (fun e => ?_) (fun e => ?_)
      · have e := str_eq e
        have l3 := r3 e
        rw [show madeF inp r st = (if getI (wsOf r st) 0 ≠ 0 then getI (wsOf r st) 1 else getI (wsOf r st) 2) by unfold madeF; rw [if_neg n1, if_neg n2]; dsimp only; rw [if_neg n3, if_neg n4, if_pos e]] at hq
        refine ⟨_, rfl, _, _, _, _, rfl, rfl, sl, atI_get (by decide) (by rw [l3]; decide), rfl, _, rfl, ?_⟩
        refine ite2 (fun e => ?_) (fun e => ?_)
        · rw [if_pos (by simpa using e)] at hq
          exact ⟨_, rfl, _, _, _, _, rfl, rfl, sl, atI_get (by decide) (by rw [l3]; decide), hq⟩
        · rw [if_neg (by simpa using e)] at hq
          exact ⟨_, rfl, _, _, _, _, rfl, rfl, sl, atI_get (by decide) (by rw [l3]; decide), hq⟩
      have n5 := str_ne e
      have l2 : (wsOf r st).length = 2 := by
        refine r2 ?_
        rcases sw with e | e | e | e | e | e | e | e | e
        · exact absurd e n1
        · exact absurd e n3
        · exact .inl e
        · exact .inr (.inl e)
        · exact .inr (.inr (.inl e))
        · exact .inr (.inr (.inr e))
        · exact absurd e n5
        · exact absurd e n2
        · exact absurd e n4
      refine ⟨_, rfl, _, _, _, _, rfl, rfl, hra3, atI0 _ _, rfl, _, rfl, ?_⟩
      refine ite2 (fun e => ?_) (fun e => ?_)
      · have e := str_eq e
        rw [show madeF inp r st = (getI (wsOf r st) 0 + getI (wsOf r st) 1) % 16 by unfold madeF; rw [if_neg n1, if_neg n2]; dsimp only; rw [if_neg n3, if_neg n4, if_neg n5, if_pos e]] at hq
        exact ⟨_, rfl, _, _, _, _, rfl, rfl, sl, atI_get (by decide) (by rw [l2]; decide), _, rfl, _, _, _, _, rfl, rfl, sl, atI_get (by decide) (by rw [l2]; decide), _, _, rfl, rfl, _, _, rfl, rfl, _, _, rfl, rfl, by show (0 : Int) < 15 + 1; decide, hq⟩
      have n6 := str_ne e
      refine ⟨_, rfl, _, _, _, _, rfl, rfl, hra3, atI0 _ _, rfl, _, rfl, ?_⟩
      refine ite2 (fun e => ?_) (fun e => ?_)
      · have e := str_eq e
        rw [show madeF inp r st = Builtin.bitXor (getI (wsOf r st) 0) (getI (wsOf r st) 1) by unfold madeF; rw [if_neg n1, if_neg n2]; dsimp only; rw [if_neg n3, if_neg n4, if_neg n5, if_neg n6, if_pos e]] at hq
        exact ⟨_, rfl, _, _, _, _, rfl, rfl, sl, atI_get (by decide) (by rw [l2]; decide), _, rfl, _, _, _, _, rfl, rfl, sl, atI_get (by decide) (by rw [l2]; decide), _, _, rfl, rfl, hq⟩
      have n7 := str_ne e
      refine ⟨_, rfl, _, _, _, _, rfl, rfl, hra3, atI0 _ _, rfl, _, rfl, ?_⟩
      refine ite2 (fun e => ?_) (fun e => ?_)
      · have e := str_eq e
        rw [show madeF inp r st = (if getI (wsOf r st) 0 < getI (wsOf r st) 1 then 1 else 0) by unfold madeF; rw [if_neg n1, if_neg n2]; dsimp only; rw [if_neg n3, if_neg n4, if_neg n5, if_neg n6, if_neg n7, if_pos e]] at hq
        refine ⟨_, rfl, _, _, _, _, rfl, rfl, sl, atI_get (by decide) (by rw [l2]; decide), _, rfl, _, _, _, _, rfl, rfl, sl, atI_get (by decide) (by rw [l2]; decide), _, _, rfl, rfl, .inr ⟨_, rfl, ?_⟩⟩
        rw [show (if decide (getI (wsOf r st) 0 < getI (wsOf r st) 1) = true then (1 : Int) else 0) = (if getI (wsOf r st) 0 < getI (wsOf r st) 1 then 1 else 0) by simp]
        exact hq
      have n8 := str_ne e
      rw [show madeF inp r st = (if getI (wsOf r st) 0 = getI (wsOf r st) 1 then 1 else 0) by unfold madeF; rw [if_neg n1, if_neg n2]; dsimp only; rw [if_neg n3, if_neg n4, if_neg n5, if_neg n6, if_neg n7, if_neg n8]] at hq
      refine ⟨_, rfl, _, _, _, _, rfl, rfl, sl, atI_get (by decide) (by rw [l2]; decide), _, rfl, _, _, _, _, rfl, rfl, sl, atI_get (by decide) (by rw [l2]; decide), rfl, .inr ⟨_, rfl, ?_⟩⟩
      rw [show (if decide (V.int (getI (wsOf r st) 0) = V.int (getI (wsOf r st) 1)) = true then (1 : Int) else 0) = (if getI (wsOf r st) 0 = getI (wsOf r st) 1 then 1 else 0) by simp]
      exact hq
end

end Sw
/-! SwD11 -/
namespace Sw
set_option Elab.async false
set_option linter.all false
set_option maxRecDepth 100000
set_option maxHeartbeats 4000000
open PySem PySem.Spec PyProof.Rows L2
section
variable {w : World} {K : PySem.W.Frag} {mg : Str → Option Value} {base : Heap}
def isTell (r : Rw) : Prop := r.1 = "tell" ∨ r.1 = "tell2" ∨ r.1 = "tell3"
def isIf (r : Rw) : Prop := r.1 = "if" ∨ r.1 = "if2" ∨ r.1 = "if3"
def isPut (r : Rw) : Prop := r.1 = "put" ∨ r.1 = "put2" ∨ r.1 = "put3"
structure OutOk (r : Rw) (many n : Nat) : Prop where
  c : copL.lookup r.1 = some (many : Int)
  len : (rds r).length = n * many
  m1 : 1 ≤ many
  m3 : many ≤ 3
  n1 : 1 ≤ n
  n2 : n ≤ 2
  rg : RgC 0 ((rds r).length : Int) many n
  put : isPut r → n = 2
  lst : isIf r → ∃ z, r.2[r.2.length - 1]? = some z ∧ lds r = some z
  ne : r.2 ≠ []
theorem rgc_of {l many n : Nat} (h : RgC 0 (l : Int) many n) {r : Rw} (e : (rds r).length = l) : RgC 0 ((rds r).length : Int) many n := by rw [e]; exact h
theorem rgc1 : RgC 0 ((1 : Nat) : Int) (1 : Nat) 1 := ⟨by decide, by decide, by decide, by decide⟩
theorem rgc2 : RgC 0 ((2 : Nat) : Int) (1 : Nat) 2 := ⟨by decide, by decide, by decide, by decide⟩
theorem rgc3 : RgC 0 ((2 : Nat) : Int) (2 : Nat) 1 := ⟨by decide, by decide, by decide, by decide⟩
theorem rgc4 : RgC 0 ((4 : Nat) : Int) (2 : Nat) 2 := ⟨by decide, by decide, by decide, by decide⟩
theorem rgc5 : RgC 0 ((3 : Nat) : Int) (3 : Nat) 1 := ⟨by decide, by decide, by decide, by decide⟩
theorem rgc6 : RgC 0 ((6 : Nat) : Int) (3 : Nat) 2 := ⟨by decide, by decide, by decide, by decide⟩
theorem outs_ok {r : Rw} (ok : RwOk r) (h : (copL.lookup r.1).isSome = true) : ∃ many n, OutOk r many n := by
  have hl := ok.len
  have o := ops ok.fm
  clear ok
  obtain ⟨x, ns⟩ := r
  dsimp only at *
  have nput : ∀ {y : Str}, ¬ (y = "put" ∨ y = "put2" ∨ y = "put3") → ∀ {ns : List Int}, isPut (y, ns) → (1 : Nat) = 2 := fun h _ z => absurd z h
  have nif : ∀ {y : Str}, ¬ (y = "if" ∨ y = "if2" ∨ y = "if3") → ∀ {ns : List Int} {P : Prop}, isIf (y, ns) → P := fun h _ _ z => absurd z h
  rcases o with ⟨e, _⟩ | ⟨e, _⟩ | ⟨e, _⟩ | ⟨e, _⟩ | ⟨e, _⟩ | ⟨e, _⟩ | ⟨e, _⟩ | ⟨e, _⟩ | ⟨e, _⟩ | ⟨e, _⟩ | ⟨e, _⟩ | ⟨e, _⟩ | ⟨e, _⟩ | ⟨e, _⟩ | ⟨e, _⟩ | ⟨e, _⟩ | ⟨e, _⟩ | ⟨e, _⟩ | ⟨e, _⟩ | ⟨e, _⟩ | ⟨e, _⟩ | ⟨e, _⟩ <;> subst e
  all_goals try exact absurd h (by decide)
  · have hl : ns.length = 1 := hl
    match ns, hl with
    | [a], _ => exact ⟨1, 1, rfl, rfl, by decide, by decide, by decide, by decide, rgc1, nput (by decide), nif (by decide), by simp⟩
  · have hl : ns.length = 2 := hl
    match ns, hl with
    | [a, b], _ => exact ⟨1, 2, rfl, rfl, by decide, by decide, by decide, by decide, rgc2, fun _ => rfl, nif (by decide), by simp⟩
  · have hl : ns.length = 2 := hl
    match ns, hl with
    | [a, b], _ => exact ⟨1, 1, rfl, rfl, by decide, by decide, by decide, by decide, rgc1, nput (by decide), fun _ => ⟨b, rfl, rfl⟩, by simp⟩
  · have hl : ns.length = 2 := hl
    match ns, hl with
    | [a, b], _ => exact ⟨2, 1, rfl, rfl, by decide, by decide, by decide, by decide, rgc3, nput (by decide), nif (by decide), by simp⟩
  · have hl : ns.length = 2 := hl
    match ns, hl with
    | [a, b], _ => exact ⟨2, 1, rfl, rfl, by decide, by decide, by decide, by decide, rgc3, nput (by decide), nif (by decide), by simp⟩
  · have hl : ns.length = 4 := hl
    match ns, hl with
    | [a, b, c, d], _ => exact ⟨2, 2, rfl, rfl, by decide, by decide, by decide, by decide, rgc4, fun _ => rfl, nif (by decide), by simp⟩
  · have hl : ns.length = 3 := hl
    match ns, hl with
    | [a, b, c], _ => exact ⟨2, 1, rfl, rfl, by decide, by decide, by decide, by decide, rgc3, nput (by decide), fun _ => ⟨c, rfl, rfl⟩, by simp⟩
  · have hl : ns.length = 3 := hl
    match ns, hl with
    | [a, b, c], _ => exact ⟨3, 1, rfl, rfl, by decide, by decide, by decide, by decide, rgc5, nput (by decide), nif (by decide), by simp⟩
  · have hl : ns.length = 6 := hl
    match ns, hl with
    | [a, b, c, d, e, f], _ => exact ⟨3, 2, rfl, rfl, by decide, by decide, by decide, by decide, rgc6, fun _ => rfl, nif (by decide), by simp⟩
  · have hl : ns.length = 4 := hl
    match ns, hl with
    | [a, b, c, d], _ => exact ⟨3, 1, rfl, rfl, by decide, by decide, by decide, by decide, rgc5, nput (by decide), fun _ => ⟨d, rfl, rfl⟩, by simp⟩
theorem cutMid (l : List Int) (i k : Nat) (h : i ≤ l.length) : cutV (l.map V.int) (some (i : Int)) (some ((i : Int) + k)) = (((l.drop i).take k).map V.int) := by
  unfold cutV
  rw [show (i : Int) + k = ((i + k : Nat) : Int) by omega, HT.sIx_nat, HT.sIx_nat, List.length_map, Nat.min_eq_left h, List.map_take, List.map_drop]
  rcases Nat.le_total (i + k) l.length with q | q
  · rw [Nat.min_eq_left q]
    congr 1; omega
  · rw [Nat.min_eq_right q, List.take_of_length_le (by simp), List.take_of_length_le (by simp; omega)]
theorem inV_non : ∀ l : List (Option Int), inV .non (l.map ov) = decide (none ∈ l)
  | [] => rfl
  | y :: l => by
    have := inV_non l
    unfold inV at this ⊢
    rw [List.map_cons, List.any_cons, this]
    cases y with
    | none => simp [ov, eqV]
    | some z => simp [ov, eqV]
theorem flat_ov : ∀ l : List (Option Int), (l.map ov).all flatV = true
  | [] => rfl
  | none :: l => by rw [List.map_cons, List.all_cons, flat_ov l]; rfl
  | some z :: l => by rw [List.map_cons, List.all_cons, flat_ov l]; rfl
theorem flat_str : ∀ l : List Str, (l.map V.str).all flatV = true
  | [] => rfl
  | z :: l => by rw [List.map_cons, List.all_cons, flat_str l]; rfl
theorem in3 (x a b c : Str) : inV (.str x) [.str a, .str b, .str c] = decide (x = a ∨ x = b ∨ x = c) := by
  have := inV_str x [a, b, c]
  rw [show [V.str a, .str b, .str c] = [a, b, c].map V.str from rfl, this]
  by_cases h1 : x = a <;> by_cases h2 : x = b <;> by_cases h3 : x = c <;> simp [h1, h2, h3]
theorem found_at {l : List (Option Int)} {i : Nat} (hl : i < l.length) (h : none ∉ l) : atI (l.map ov) (i : Int) = some (.int (fnd l i)) := by
  refine atIn (by omega) ?_
  have e : l[i]? = some l[i] := List.getElem?_eq_getElem hl
  cases q : l[i] with
  | none => exact absurd (by rw [← q]; exact List.getElem_mem hl) h
  | some z =>
    rw [show ((i : Nat) : Int).toNat = i by omega, List.getElem?_map, e, q]
    unfold fnd
    rw [List.getD_eq_getElem?_getD, e, q]
    rfl
theorem sc_Machine_go_out : FnScope ["self", "row", "many", "words", "box", "found", "k"] ["self", "row"] (defScope s_Machine_go_out) := ⟨rfl, rfl, rfl, by decide +kernel, rfl, by decide +kernel, by decide +kernel⟩
def sp_go_out (K : PySem.W.Frag) : Sp := fun vs H Q _ => ∃ m p inp st fp v r, vs = [V.ref m, v] ∧ Mch K H m p inp st fp ∧ Good p st ∧ st.said.length < 200000 ∧ RwAt K H v r ∧ RwOk r ∧ (copL.lookup r.1).isSome = true ∧ Goes K H m p inp (outF r st) fp (Q .non)
theorem G_Machine_go_out (T : Tx w K mg) : Kn PP w K mg base 3 (He.ma K (He.ga K "Machine") "go_out") ["self", "row"] (sp_go_out K) := by
  have G_reads := G_reads (base := base) T
  have G_meant := G_meant (base := base) T
  have G_Machine_stumble := G_Machine_stumble (base := base) T
  have G_Machine_tell := G_Machine_tell (base := base) T
  refine kn_of T.d_Machine_go_out sc_Machine_go_out (fun _ _ _ _ _ _ us hl => match us, hl with | [_, _], _ => rfl) (fun vs H Q E h => ?_) fun cdv A outer s H vs Q E hr h => ?_
  · obtain ⟨m, p, inp, st, fp, v, r, rfl, _⟩ := h; rfl
  · obtain ⟨m, p, inp, st, fp, v, r, rfl, ⟨va, vi, dm, lw, ls, ld, lt, xs, rfl, h⟩, g, big, ⟨ra, rfl, hra⟩, ok, hc, q⟩ := h
    obtain ⟨many, n, oo⟩ := outs_ok ok hc
    refine ⟨_, (pss_cons (ps_set (i := 2) sc_Machine_go_out.nd rfl (Or.inr rfl) (pe_ix ix_kdict (pe_gx (by rfl) T.o_COPIES) (pe_ix ix_tup (pv 1) pe_int (fun _ _ => rfl)) (fun _ _ => rfl)))
      (pss_cons (ps_set (i := 3) sc_Machine_go_out.nd rfl (Or.inr rfl) (pe_lc (own := [("box", 4)]) (g := gName 4) rfl sc_Machine_go_out.nd (pi_tup (pe_kn G_reads (hr.mono (by decide)) (by rfl) T.g_reads (pa_cons (pv 1) pa_nil))) (blkOk_by (own := [("box", 4)]) (N := ["self", "row", "many", "words", "box", "found", "k"]) (sc := defScope s_Machine_go_out) (by decide +kernel)) (fun _ _ _ _ _ => (pg_name (i := 4) sc_Machine_go_out.nd rfl (Or.inl rfl))) (fun _ _ _ _ _ => pts_nil) (fun _ _ _ _ _ => (pe_ix (show IxR _ (rIxL K) from ix_list) (show PE _ _ (tFld K _ _) from pe_fld (pv 0) rfl) (pv 4) (fun _ _ => rfl)))))
      (pss_cons (ps_setLc (i := 5) (own := [("k", 6)]) (g := gName 6) rfl sc_Machine_go_out.nd rfl rfl (sw_true rfl rfl rfl (by decide +kernel)) (pi_range3 (by rfl) T.f_range (pa_cons pe_int (pa_cons (pe_callB call_len_seq (by rfl) T.f_len (by decide +kernel) (pa_cons (pv 3) pa_nil)) (pa_cons (pv 2) pa_nil)))) (blkOk_by (own := [("k", 6)]) (N := ["self", "row", "many", "words", "box", "found", "k"]) (sc := defScope s_Machine_go_out) (by decide +kernel)) (fun _ _ _ _ _ => (pg_name (i := 6) sc_Machine_go_out.nd rfl (Or.inl rfl))) (fun _ _ _ _ _ => pts_nil) (fun _ _ _ _ _ => (pe_kn G_meant (hr.mono (by decide)) (by rfl) T.g_meant (pa_cons (pe_slice (show SlR _ (rSlL K) from sl_list) (pv 3) (po_some (pv 6)) (po_some (pe_op op_add (pv 6) (pv 2)))) pa_nil))))
      (pss_one (ps_if (pt_cmpR op_in_seq pe_non (pv 5) (by rfl))
        (pss_one (ps_expr (pe_km0 (pv 0) T.c_Machine T.m_Machine_stumble G_Machine_stumble (hr.mono (by decide)))))
        (pss_one (ps_if (pt_cmpR op_in_seq (pe_ix ix_tup (pv 1) pe_int (fun _ _ => rfl)) (pe_tup (pa_cons pe_str (pa_cons pe_str (pa_cons pe_str pa_nil)))) (by rfl))
          (pss_one (ps_expr (pe_km (pv 0) T.c_Machine T.m_Machine_tell G_Machine_tell (hr.mono (by decide)) (pa_cons (pe_ix ix_list (pv 5) pe_int (fun _ _ => rfl)) pa_nil))))
          (pss_one (ps_if (PW.pt (pw_and (pt_cmpR op_in_seq (pe_ix ix_tup (pv 1) pe_int (fun _ _ => rfl)) (pe_tup (pa_cons pe_str (pa_cons pe_str (pa_cons pe_str pa_nil)))) (by rfl)) (pw_and1 (pt_cmpR op_ne (pe_ix ix_list (pv 5) pe_int (fun _ _ => rfl)) pe_int (nomark _)))))
            (pss_one (ps_fld (pv 0) (pe_ix ix_tup (pv 1) (pe_un un_neg pe_int) (fun _ _ => rfl)) rfl))
            (pss_cons (ps_if (pt_cmpR op_in_seq (pe_ix ix_tup (pv 1) pe_int (fun _ _ => rfl)) (pe_tup (pa_cons pe_str (pa_cons pe_str (pa_cons pe_str pa_nil)))) (by rfl))
              (pss_one (ps_asg (pe_ix ix_list (pv 5) pe_int (fun _ _ => rfl)) (pg_sub (pe_fld (pv 0) rfl) (pe_ix ix_list (pv 5) pe_int (fun _ _ => rfl)) set_list)))
              pss_nil)
            (pss_one (ps_fldaug (pv 0) pe_int in_add)))))))))))), ?_⟩
    have i0 : ∀ H', Same H H' → SqT K H' ra (.str r.1 :: r.2.map V.int) := fun H' s => tl_same s _ _ hra
    refine ⟨_, rfl, _, _, _, _, rfl, rfl, hra, atI0 _ _, _, _, _, rfl, rfl, T.kCo oo.c, ?_⟩
    refine ⟨_, rfl, _, r, rfl, ⟨ra, rfl, hra⟩, ok, fun H1 t s1 ht => ?_⟩
    refine ⟨t, rfl, ⟨_, sq_tup ht⟩, fun D hD => ?_⟩
    refine lc_all (G := fun H' => SqT K H' t ((rds r).map V.int)) walk_tup (fun i => getI st.words ((rds r).getD i 0)) (fun v a _ => v = .int a) (fun _ _ _ _ h _ => h) (fun _ _ _ _ _ _ h _ => h) (by rw [List.length_map]; have : (rds r).length ≤ 6 := parts_len ok; omega) hD (fun H' s => tl_same s _ _ (sq_tup ht)) ?_ ?_
    · rintro i x H3 H4 Qe hi s ⟨rfl, e⟩ qe
      rw [List.getElem?_map] at e
      obtain ⟨z, e1, rfl⟩ := Option.map_eq_some_iff.mp e
      have hb := ok.box (List.mem_of_getElem? e1)
      have h3 := h.same (s1.trans s)
      refine ⟨rfl, _, rfl, m, cM K, dm, _, _, rfl, h3.o, T.c_Machine, T.n_Machine_words, rfl, _, rfl, _, _, _, _, rfl, rfl, sq_lst h3.w, atI_get hb.1 (by rw [g.words.1]; omega), ?_⟩
      exact qe _ _ (fun _ _ z => z) (by rw [List.getD_eq_getElem?_getD, e1]; rfl)
    · intro H3 acc s3 hl pr
      rw [paired_map pr, List.length_map, ws_range] at hl
      have s03 := s1.trans s3
      have hwl : (wsOf r st).length = n * many := by rw [ws_len, oo.len]
      have sl3 : SqL K H3 D ((wsOf r st).map V.int) := sq_lst hl
      have m1 := oo.m1
      have m3 := oo.m3
      have nn1 := oo.n1
      have nn2 := oo.n2
      have hmany : manyOf r = many := by unfold manyOf; rw [oo.c]; rfl
      have hn : (rds r).length / manyOf r = n := by rw [hmany, oo.len, Nat.mul_div_cancel _ (by omega)]
      refine ⟨_, rfl, D, _, rfl, .inl sl3, _, rfl, 0, _, _, n, rfl, by rw [List.length_map, ws_len]; exact oo.rg, fun D2 hD2 => ?_⟩
      refine lc_all (G := fun _ => True) walk_rangeC (fun i => meantF (((wsOf r st).drop (i * many)).take many)) (fun v a _ => v = ov a) (fun _ _ _ _ h _ => h) (fun _ _ _ _ _ _ h _ => h) (by omega) hD2 (fun _ _ => trivial) ?_ ?_
      · rintro i x H4 H5 Qe hi s ⟨rfl, rfl⟩ qe
        have hl5 := s _ _ hl
        have him : i * many ≤ (wsOf r st).length := by rw [hwl]; exact Nat.mul_le_mul_right _ (Nat.le_of_lt hi)
        have ei : (0 : Int) + (i : Nat) * (many : Nat) = ((i * many : Nat) : Int) := by simp
        refine ⟨rfl, _, rfl, _, rfl, _, rfl, _, rfl, _, rfl, _, _, rfl, rfl, _, rfl, D, _, rfl, sq_lst hl5, fun l1 hl1 => ?_⟩
        rw [ei, cutMid _ _ _ him]
        refine ⟨l1, _, rfl, upd_same, ?_, ?_, fun H6 s6 => ?_⟩
        · rw [List.length_take, List.length_drop, hwl]
          have : (i + 1) * many ≤ n * many := Nat.mul_le_mul_right _ hi
          rw [Nat.add_mul] at this
          omega
        · rw [List.length_take]; omega
        · exact qe _ _ ((same_new hl1).trans s6) rfl
      · intro H4 acc2 s4 hl4 pr4
        rw [paired_map pr4] at hl4
        have ef : (List.range n).map (fun i => meantF (((wsOf r st).drop (i * many)).take many)) = foundOf r st := by unfold foundOf; rw [hn, hmany]
        rw [ef] at hl4
        have s04 := s03.trans s4
        have h4 := h.same s04
        have hfl : (foundOf r st).length = n := by rw [← ef]; simp
        have hq : Goes K H4 m p inp (outF r st) (m :: lw :: ls :: ld :: lt :: xs) (Q .non) := q.of (frm_same s04) (Nw.refl _ _)
        have sf : SqL K H4 D2 ((foundOf r st).map ov) := sq_lst hl4
        have hra4 := i0 _ s04
        clear q hl pr pr4 ef sl3
        unfold outF at hq
        dsimp only at hq
        refine ⟨_, rfl, D2, _, rfl, .inl sf, rfl, flat_ov _, _, rfl, ?_⟩
        rw [if_neg (by decide), inV_non]
        refine ite2 (fun e => ?_) (fun e => ?_)
        · have e : none ∈ foundOf r st := by simpa using e
          rw [if_pos e] at hq
          exact ⟨_, rfl, m, dm, _, rfl, h4.o, rfl, m, p, inp, st, _, rfl, h4.mch, g.two, hq⟩
        have en : none ∉ foundOf r st := fun z => e (by simpa using z)
        rw [if_neg en] at hq
        have f0 := found_at (l := foundOf r st) (i := 0) (by omega) en
        have g0 := @found_w p st g r 0
        have g1 := @found_w p st g r 1
        -- tell
        refine ⟨_, rfl, _, _, _, _, rfl, rfl, hra4, atI0 _ _, by show 3 ≤ sizeLine; decide, fun p5 hp5 => ?_⟩
        have s5 := same_new (o := .tup [V.str "tell", .str "tell2", .str "tell3"]) hp5
        refine ⟨p5, _, rfl, .inr sq_new, rfl, rfl, _, rfl, ?_⟩
        rw [if_neg (by decide), in3]
        have h5 := h4.same s5
        have sf5 : SqL K _ D2 _ := sq_lst (s5 _ _ hl4)
        have hra5 := i0 _ (s04.trans s5)
        have hq5 := hq.of (frm_same s5) (Nw.refl _ _)
        have hl5 := s5 _ _ hl4
        generalize upd H4 p5 (.tup [V.str "tell", .str "tell2", .str "tell3"]) = H5 at s5 h5 sf5 hra5 hq5 hl5
        have s05 := s04.trans s5
        refine ite2 (fun e => ?_) (fun e => ?_)
        · have e : r.1 = "tell" ∨ r.1 = "tell2" ∨ r.1 = "tell3" := by simpa using e
          rw [if_pos e] at hq5
          exact ⟨_, rfl, m, dm, _, rfl, h5.o, rfl, _, rfl, _, _, _, _, rfl, rfl, sf5, f0, m, p, inp, st, _, _, rfl, h5.mch, g.two, g.count, big, hq5⟩
        have e1 : ¬ (r.1 = "tell" ∨ r.1 = "tell2" ∨ r.1 = "tell3") := fun z => e (by simpa using z)
        rw [if_neg e1] at hq5
        -- if
        refine ⟨_, rfl, _, _, _, _, rfl, rfl, hra5, atI0 _ _, by show 3 ≤ sizeLine; decide, fun p6 hp6 => ?_⟩
        have s6 := same_new (o := .tup [V.str "if", .str "if2", .str "if3"]) hp6
        refine ⟨p6, _, rfl, .inr sq_new, rfl, rfl, _, rfl, ?_⟩
        rw [if_neg (by decide), in3]
        have h6 := h5.same s6
        have sf6 : SqL K _ D2 _ := sq_lst (s6 _ _ hl5)
        have hra6 := i0 _ (s05.trans s6)
        have hq6 := hq5.of (frm_same s6) (Nw.refl _ _)
        have hl6 := s6 _ _ hl5
        generalize upd H5 p6 (.tup [V.str "if", .str "if2", .str "if3"]) = H6 at s6 h6 sf6 hra6 hq6 hl6
        have s06 := s05.trans s6
        -- what comes behind both tests
        have last : ¬ ((r.1 = "if" ∨ r.1 = "if2" ∨ r.1 = "if3") ∧ fnd (foundOf r st) 0 ≠ 0) →
          tSeq (tIfS (tTest (tOp (rIn K false) (tOp (rIxT K) (tVar 1) (tC (.int 0))) (tTup (tCons (tC (.str "put")) (tCons (tC (.str "put2")) (tCons (tC (.str "put3")) tNil))))))
              (tAsg (tOp (rIxL K) (tVar 5) (tC (.int 1))) (gSub (tFld K (tVar 0) "store") (tOp (rIxL K) (tVar 5) (tC (.int 0))) rSetL)) tNext)
            (sFldAug K (tVar 0) (tC (.int 1)) rAdd "at") { nx := fun _ H' => Q .non H', rt := Q } [some (V.ref m), some (.ref ra), some (.int many), some (.ref D), none, some (.ref D2), none] H6 := fun e => by
          rw [if_neg e] at hq6
          refine ⟨_, rfl, _, _, _, _, rfl, rfl, hra6, atI0 _ _, by show 3 ≤ sizeLine; decide, fun p7 hp7 => ?_⟩
          have s7 := same_new (o := .tup [V.str "put", .str "put2", .str "put3"]) hp7
          refine ⟨p7, _, rfl, .inr sq_new, rfl, rfl, _, rfl, ?_⟩
          rw [if_neg (by decide), in3]
          have h7 := h6.same s7
          have sf7 : SqL K _ D2 _ := sq_lst (s7 _ _ hl6)
          have hq7 := hq6.of (frm_same s7) (Nw.refl _ _)
          generalize upd H6 p7 (.tup [V.str "put", .str "put2", .str "put3"]) = H7 at s7 h7 sf7 hq7
          refine ite2 (fun e2 => ?_) (fun e2 => ?_)
          · have e2 : r.1 = "put" ∨ r.1 = "put2" ∨ r.1 = "put3" := by simpa using e2
            rw [if_pos e2] at hq7
            have hn2 := oo.put e2
            have f1 := found_at (l := foundOf r st) (i := 1) (by omega) en
            refine ⟨_, rfl, _, _, _, _, rfl, rfl, sf7, f1, _, rfl, m, cM K, dm, _, _, rfl, h7.o, T.c_Machine, T.n_Machine_store, rfl, _, rfl, _, _, _, _, rfl, rfl, sf7, f0, ls, _, _, _, rfl, rfl, h7.s, ixN_in g0.1 (by rw [List.length_map, g.store.1]; omega), ?_⟩
            rw [set_map]
            have h8 := h7.sets (st.store.set (fnd (foundOf r st) 0).toNat (fnd (foundOf r st) 1))
            refine ⟨_, rfl, m, cM K, dm, _, _, rfl, h8.o, T.c_Machine, T.n_Machine_at, rfl, _, _, rfl, rfl, dm, _, h8.o, Nat.le_of_ble_eq_true rfl, ?_⟩
            exact hq7 _ _ (h8.fld (st.at_ + 1) st.count st.over st.done).mch ((frm_upd (by simp)).tr (frm_upd (.head _))) (Nw.refl _ _)
          · have e2 : ¬ (r.1 = "put" ∨ r.1 = "put2" ∨ r.1 = "put3") := fun z => e2 (by simpa using z)
            rw [if_neg e2] at hq7
            refine ⟨_, rfl, m, cM K, dm, _, _, rfl, h7.o, T.c_Machine, T.n_Machine_at, rfl, _, _, rfl, rfl, dm, _, h7.o, Nat.le_of_ble_eq_true rfl, ?_⟩
            exact hq7 _ _ (h7.fld (st.at_ + 1) st.count st.over st.done).mch (frm_upd (.head _)) (Nw.refl _ _)
        refine ite2 (fun e => ?_) (fun e => ?_)
        · have e : r.1 = "if" ∨ r.1 = "if2" ∨ r.1 = "if3" := by simpa using e
          refine ⟨_, rfl, _, _, _, _, rfl, rfl, sf6, f0, rfl, _, rfl, ?_⟩
          refine ite2 (fun e2 => ?_) (fun e2 => ?_)
          · have e2 : fnd (foundOf r st) 0 ≠ 0 := by simpa using e2
            rw [if_pos ⟨e, e2⟩] at hq6
            obtain ⟨z, ez, el⟩ := oo.lst e
            have hrl : r.2.length ≠ 0 := fun z => oo.ne (List.length_eq_zero_iff.mp z)
            refine ⟨_, rfl, _, rfl, _, _, _, _, rfl, rfl, hra6, atI_last (x := V.int z) ?_, _, rfl, m, cM K, dm, _, rfl, h6.o, T.c_Machine, T.n_Machine_at, Nat.le_of_ble_eq_true rfl, ?_⟩
            · rw [List.length_cons, List.length_map, Nat.add_sub_cancel]
              obtain ⟨k, hk⟩ : ∃ k, r.2.length = k + 1 := ⟨r.2.length - 1, by omega⟩
              rw [hk, List.getElem?_cons_succ]
              rw [hk, Nat.add_sub_cancel] at ez
              exact sq_int _ _ _ ez
            · rw [el] at hq6
              exact hq6 _ _ (h6.fld z st.count st.over st.done).mch (frm_upd (.head _)) (Nw.refl _ _)
          · exact last fun z => e2 (by simpa using z.2)
        · exact last fun z => e (by simpa using z.1)
end

end Sw
/-! SwD12 -/
namespace Sw
set_option Elab.async false
set_option linter.all false
set_option maxRecDepth 100000
set_option maxHeartbeats 4000000
open PySem PySem.Spec PyProof.Rows L2
section
variable {w : World} {K : PySem.W.Frag} {mg : Str → Option Value} {base : Heap}
theorem MO.row {H : Hp} {m : Addr} {p : List Rw} {inp : List Int} {st : MS} {va vi : V} {dm lw ls ld lt : Addr} {xs : List Addr} (h : MO K H m p inp st va vi dm lw ls ld lt xs) (g : Good p st) :
    ∃ pa vs ra, va = .ref pa ∧ SqT K H pa vs ∧ vs.length = p.length ∧ atI vs st.at_ = some (.ref ra) ∧ SqT K H ra (.str (rowAt p st.at_).1 :: (rowAt p st.at_).2.map V.int) := by
  obtain ⟨pa, vs, e, hp, pr⟩ := h.rows
  obtain ⟨v, hv, ra, rfl, hr⟩ := Paired.at_ pr (rowAt_get g.at0 g.at1)
  exact ⟨pa, vs, ra, e, hp, Paired.length pr, atIn g.at0 hv, hr⟩
theorem sc_Machine_beat : FnScope ["self", "row"] ["self"] (defScope s_Machine_beat) := ⟨rfl, rfl, rfl, by decide +kernel, rfl, by decide +kernel, by decide +kernel⟩
def sp_beat (K : PySem.W.Frag) : Sp := fun vs H Q _ => ∃ m p inp st fp, vs = [V.ref m] ∧ Mch K H m p inp st fp ∧ Good p st ∧ PgOk p ∧ InOk inp ∧ st.done < 150000 ∧ Goes K H m p inp (bt p inp st) fp (Q (.bl (decide (st.over = none))))
theorem G_Machine_beat (T : Tx w K mg) : Kn PP w K mg base 4 (He.ma K (He.ga K "Machine") "beat") ["self"] (sp_beat K) := by
  have G_Machine_keep := G_Machine_keep (base := base) T
  have G_Machine_go_out := G_Machine_go_out (base := base) T
  have G_Machine_made := G_Machine_made (base := base) T
  obtain ⟨_, _, kC⟩ := T.dCOP
  refine kn_of T.d_Machine_beat sc_Machine_beat (fun _ _ _ _ _ _ us hl => match us, hl with | [_], _ => rfl) (fun vs H Q E h => ?_) fun cdv A outer s H vs Q E hr h => ?_
  · obtain ⟨m, p, inp, st, fp, rfl, _⟩ := h; rfl
  · obtain ⟨m, p, inp, st, fp, rfl, ⟨va, vi, dm, lw, ls, ld, lt, xs, rfl, h⟩, g, pok, iok, big, q⟩ := h
    refine ⟨_, (pss_cons (ps_if (pt_cmpR op_notN (pe_fld (pv 0) rfl) pe_non (nomark _))
        (pss_one (ps_ret pe_bl))
        pss_nil)
      (pss_cons (ps_fldaug (pv 0) pe_int in_add)
      (pss_cons (ps_set (i := 1) sc_Machine_beat.nd rfl (Or.inl rfl) (pe_ix ix_tup (pe_fld (pv 0) rfl) (pe_fld (pv 0) rfl) (fun _ _ => rfl)))
      (pss_cons (ps_if (pt_cmpR op_eq (pe_ix ix_tup (pv 1) pe_int (fun _ _ => rfl)) pe_str (nomark _))
        (pss_one (ps_fld (pv 0) pe_str rfl))
        (pss_one (ps_if (pt_cmpR op_eq (pe_ix ix_tup (pv 1) pe_int (fun _ _ => rfl)) pe_str (nomark _))
          (pss_one (ps_fld (pv 0) (pe_ix ix_tup (pv 1) pe_int (fun _ _ => rfl)) rfl))
          (pss_one (ps_if (pt_cmpR op_eq (pe_ix ix_tup (pv 1) pe_int (fun _ _ => rfl)) pe_str (nomark _))
            (pss_one (ps_expr (pe_km0 (pv 0) T.c_Machine T.m_Machine_keep G_Machine_keep (hr.mono (by decide)))))
            (pss_one (ps_if (pt_cmpR (op_in_kd kC) (pe_ix ix_tup (pv 1) pe_int (fun _ _ => rfl)) (pe_gx (by rfl) T.o_COPIES) (by rfl))
              (pss_one (ps_expr (pe_km (pv 0) T.c_Machine T.m_Machine_go_out G_Machine_go_out (hr.mono (by decide)) (pa_cons (pv 1) pa_nil))))
              (pss_cons (ps_asg (pe_km (pv 0) T.c_Machine T.m_Machine_made G_Machine_made (hr.mono (by decide)) (pa_cons (pv 1) pa_nil)) (pg_sub (pe_fld (pv 0) rfl) (pe_ix ix_tup (pv 1) pe_int (fun _ _ => rfl)) set_list))
              (pss_one (ps_fldaug (pv 0) pe_int in_add))))))))))
      (pss_one (ps_ret pe_bl)))))), ?_⟩
    refine ⟨_, rfl, m, cM K, dm, _, _, rfl, h.o, T.c_Machine, T.n_Machine_over, rfl, rfl, _, rfl, ?_⟩
    cases ho : st.over with
    | some x =>
      have e : bt p inp st = st := by unfold bt; rw [if_pos (by rw [ho]; simp)]
      rw [e, ho] at q
      exact iteT (q H _ h.mch (Frm.refl _ _) (Nw.refl _ _))
    | none =>
      have e : bt p inp st = stepF p inp { st with done := st.done + 1 } := by unfold bt; rw [if_neg (by rw [ho]; simp)]
      rw [e, show decide (st.over = none) = true by rw [ho]; decide] at q
      refine iteF ?_
      refine ⟨_, rfl, m, cM K, dm, _, _, rfl, h.o, T.c_Machine, T.n_Machine_done, rfl, _, _, rfl, rfl, dm, _, h.o, Nat.le_of_ble_eq_true rfl, ?_⟩
      have h1 := h.fld st.at_ st.count st.over (st.done + 1)
      have q1 : Goes K _ m p inp (stepF p inp { st with done := st.done + 1 }) (m :: lw :: ls :: ld :: lt :: xs) (Q (.bl true)) := q.of (frm_upd (o := .ins (cM K) dm (mfs va vi (.int st.at_) (.ref lw) (.ref ls) (.ref ld) (.int st.count) (.ref lt) (oS st.over) (.int (st.done + 1)))) (.head _)) (Nw.refl _ _)
      generalize hH1 : upd H m (.ins (cM K) dm (mfs va vi (.int st.at_) (.ref lw) (.ref ls) (.ref ld) (.int st.count) (.ref lt) (oS st.over) (.int (st.done + 1)))) = H1 at h1 q1
      rw [show upd H m (.ins (cM K) dm (putF "done" (.int (st.done + 1)) (mfs va vi (.int st.at_) (.ref lw) (.ref ls) (.ref ld) (.int st.count) (.ref lt) (oS st.over) (.int st.done)))) = H1 from hH1]
      clear hH1 q h
      have g1 : Good p { st with done := st.done + 1 } := { g with done := by have := g.done; show 0 ≤ st.done + 1; omega, said := by have := g.said; show (st.said.length : Int) ≤ st.done + 1; omega }
      have bs : st.said.length < 200000 := by have := g.said; omega
      obtain ⟨pa, vs, ra, rfl, hp, hpl, hat, hra⟩ := h1.row g1
      have rk := row_ok pok g.at0 g.at1
      have hat : atI vs st.at_ = some (.ref ra) := hat
      have hra : SqT K H1 ra (.str (rowAt p st.at_).1 :: (rowAt p st.at_).2.map V.int) := hra
      have q1 : Goes K H1 m p inp (stepF p inp { st with done := st.done + 1 }) (m :: lw :: ls :: ld :: lt :: xs) (Q (.bl true)) := q1
      unfold stepF at q1
      dsimp only at q1
      refine ⟨_, rfl, m, cM K, dm, _, _, rfl, h1.o, T.c_Machine, T.n_Machine_rows, rfl, _, rfl, m, cM K, dm, _, _, rfl, h1.o, T.c_Machine, T.n_Machine_at, rfl, _, _, _, _, rfl, rfl, hp, hat, ?_⟩
      refine ⟨_, rfl, _, _, _, _, rfl, rfl, hra, atI0 _ _, rfl, _, rfl, ?_⟩
      refine ite2 (fun e => ?_) (fun e => ?_)
      · rw [if_pos (str_eq e)] at q1
        refine ⟨_, rfl, m, cM K, dm, _, rfl, h1.o, T.c_Machine, T.n_Machine_over, Nat.le_of_ble_eq_true rfl, ?_⟩
        exact q1 _ _ (h1.fld st.at_ st.count (some "end") (st.done + 1)).mch (frm_upd (.head _)) (Nw.refl _ _)
      have n1 := str_ne e
      rw [if_neg n1] at q1
      refine ⟨_, rfl, _, _, _, _, rfl, rfl, hra, atI0 _ _, rfl, _, rfl, ?_⟩
      refine ite2 (fun e => ?_) (fun e => ?_)
      · have e := str_eq e
        rw [if_pos e] at q1
        obtain ⟨z, ez, _, _⟩ := go_row rk e
        refine ⟨_, rfl, _, _, _, _, rfl, rfl, hra, by rw [ez]; rfl, _, rfl, m, cM K, dm, _, rfl, h1.o, T.c_Machine, T.n_Machine_at, Nat.le_of_ble_eq_true rfl, ?_⟩
        rw [ez] at q1
        exact q1 _ _ (h1.fld z st.count st.over (st.done + 1)).mch (frm_upd (.head _)) (Nw.refl _ _)
      have n2 := str_ne e
      rw [if_neg n2] at q1
      refine ⟨_, rfl, _, _, _, _, rfl, rfl, hra, atI0 _ _, rfl, _, rfl, ?_⟩
      refine ite2 (fun e => ?_) (fun e => ?_)
      · rw [if_pos (str_eq e)] at q1
        exact ⟨_, rfl, m, dm, _, rfl, h1.o, rfl, m, p, inp, _, _, rfl, h1.mch, q1⟩
      have n3 := str_ne e
      rw [if_neg n3] at q1
      obtain ⟨rr, e4, e5⟩ := T.nCo rk.fm
      refine ⟨_, rfl, _, _, _, _, rfl, rfl, hra, atI0 _ _, _, rr, rfl, rfl, e4, _, rfl, ?_⟩
      rw [e5]
      refine ite2 (fun e => ?_) (fun e => ?_)
      · rw [if_pos e] at q1
        exact ⟨_, rfl, m, dm, _, rfl, h1.o, rfl, _, rfl, m, p, inp, _, _, _, _, rfl, h1.mch, g1, bs, ⟨ra, rfl, hra⟩, rk, e, q1⟩
      · rw [if_neg e] at q1
        have dd : deed (rowAt p st.at_) := ⟨n1, n2, n3, by cases z : copL.lookup (rowAt p st.at_).1 with | none => rfl | some y => rw [z] at e; exact absurd rfl e⟩
        refine ⟨_, rfl, m, dm, _, rfl, h1.o, rfl, _, rfl, m, p, inp, _, _, _, _, rfl, h1.mch, g.words, g.store, iok, ⟨ra, rfl, hra⟩, rk, dd, fun H2 s2 => ?_⟩
        have h2 := h1.same s2
        have hra2 := tl_same s2 _ _ hra
        have q2 := q1.of (frm_same s2) (Nw.refl _ _)
        obtain ⟨b, bs', eb, b0, b1⟩ : ∃ b bs, (rowAt p st.at_).2 = b :: bs ∧ 0 ≤ b ∧ b < 32 := by
          have e0 : (fmO (rowAt p st.at_).1).cps[0]? = some 115 := by
            rcases deeds rk dd with e | e | e | e | e | e | e | e | e <;> rw [e] <;> rfl
          obtain ⟨z, ez, z0, gg, e1, e2⟩ := rk.part e0
          have : gg = 31 := by
            have e : greatL.lookup (⟨#[115]⟩ : Str) = some 31 := by decide
            rw [e] at e1; injection e1 with e1; exact e1.symm
          subst this
          cases er : (rowAt p st.at_).2 with
          | nil => rw [er] at ez; simp at ez
          | cons y ys =>
            rw [er] at ez
            obtain rfl : y = z := by simpa using ez
            exact ⟨y, ys, rfl, z0, by omega⟩
        refine ⟨_, rfl, m, cM K, dm, _, _, rfl, h2.o, T.c_Machine, T.n_Machine_words, rfl, _, rfl, _, _, _, _, rfl, rfl, hra2, by rw [eb]; exact atIn (by decide) rfl, lw, _, b, _, rfl, rfl, h2.w, ixN_in b0 (by rw [List.length_map, g.words.1]; exact b1), ?_⟩
        rw [set_map]
        have h3 := h2.setw (st.words.set b.toNat (madeF inp (rowAt p st.at_) { st with done := st.done + 1 }))
        refine ⟨_, rfl, m, cM K, dm, _, _, rfl, h3.o, T.c_Machine, T.n_Machine_at, rfl, _, _, rfl, rfl, dm, _, h3.o, Nat.le_of_ble_eq_true rfl, ?_⟩
        rw [eb] at q2
        exact q2 _ _ (h3.fld (st.at_ + 1) st.count st.over (st.done + 1)).mch ((frm_upd (by simp)).tr (frm_upd (.head _))) (Nw.refl _ _)
end

end Sw
/-! SwD13 -/
namespace Sw
set_option Elab.async false
set_option linter.all false
set_option maxRecDepth 100000
set_option maxHeartbeats 4000000
open PySem PySem.Spec PyProof.Rows L2
/-- so many beats -/
def itb (p : List Rw) (inp : List Int) : Nat → MS → MS
  | 0, st => st
  | n + 1, st => itb p inp n (bt p inp st)
structure Oc where
  told : List Int
  cells : List Int
  end_ : Str
  beats : Int
deriving DecidableEq
def outc (st : MS) : Oc := ⟨st.said, st.store, st.over.getD "dry", st.done⟩
theorem bt_over {p : List Rw} {inp : List Int} {st : MS} (h : st.over ≠ none) : bt p inp st = st := by unfold bt; rw [if_pos h]
theorem itb_over {p : List Rw} {inp : List Int} {st : MS} (h : st.over ≠ none) : ∀ n, itb p inp n st = st
  | 0 => rfl
  | n + 1 => by unfold itb; rw [bt_over h]; exact itb_over h n
section
variable {p : List Rw} {inp : List Int} {st : MS}
theorem stumble_done : (stumbleF st).done = st.done := by
  unfold stumbleF
  split <;> rfl
theorem tell_done {z : Int} : (tellF z st).done = st.done := by
  unfold tellF
  split
  · exact stumble_done
  · rfl
theorem out_done {r : Rw} : (outF r st).done = st.done := by
  unfold outF
  dsimp only
  split
  · exact stumble_done
  · split
    · exact tell_done
    · split
      · rfl
      · split <;> rfl
theorem step_done : (stepF p inp st).done = st.done := by
  unfold stepF
  dsimp only
  split
  · rfl
  · split
    · rfl
    · split
      · rfl
      · split
        · exact out_done
        · rfl
theorem bt_done (h : st.over = none) : (bt p inp st).done = st.done + 1 := by
  unfold bt
  rw [if_neg (by rw [h]; simp), step_done]
theorem good_itb (ok : PgOk p) (hi : InOk inp) : ∀ (n : Nat) {st : MS}, Good p st → Good p (itb p inp n st)
  | 0, _, g => g
  | n + 1, _, g => good_itb ok hi n (good_bt g ok hi)
end
section
variable {w : World} {K : PySem.W.Frag} {mg : Str → Option Value} {base : Heap}
theorem yes_if {σ : L2.St} {H : Hp} {A B : Hp → Prop} (h : A H) : tYes σ H fun b H3 => if b = true then A H3 else B H3 := by
  show (if true = true then A H else B H)
  rw [if_pos rfl]
  exact h
theorem sc_Machine_twin : FnScope ["self", "found", "stand"] ["self"] (defScope s_Machine_twin) := ⟨rfl, rfl, rfl, by decide +kernel, rfl, by decide +kernel, by decide +kernel⟩
def sp_twin (K : PySem.W.Frag) : Sp := fun vs H Q _ => ∃ m p inp st fp, vs = [V.ref m] ∧ Mch K H m p inp st fp ∧ st.stands.length ≤ 2 ∧ PgOk p ∧ InOk inp ∧ ∀ H' m' fp', Same H H' → (∀ b ∈ fp', H b = none) → Mch K H' m' p inp st fp' → Q (.ref m') H'
theorem G_Machine_twin (T : Tx w K mg) : Kn PP w K mg base 6 (He.ma K (He.ga K "Machine") "twin") ["self"] (sp_twin K) := by
  have G_Machine := G_Machine (base := base) T
  have G_Stand_copied := G_Stand_copied (base := base) T
  refine kn_of T.d_Machine_twin sc_Machine_twin (fun _ _ _ _ _ _ us hl => match us, hl with | [_], _ => rfl) (fun vs H Q E h => ?_) fun cdv A outer s H vs Q E hr h => ?_
  · obtain ⟨m, p, inp, st, fp, rfl, _⟩ := h; rfl
  · obtain ⟨m, p, inp, st, fp, rfl, ⟨va, vi, dm, lw, ls, ld, lt, xs, rfl, h⟩, two, pok, iok, q⟩ := h
    refine ⟨_, (pss_cons (ps_set (i := 1) sc_Machine_twin.nd rfl (Or.inl rfl) (pe_kc G_Machine (hr.mono (by decide)) (by rfl) T.g_Machine (pa_cons (pe_fld (pv 0) rfl) (pa_cons (pe_fld (pv 0) rfl) pa_nil))))
      (pss_cons (ps_fld (pv 1) (pe_fld (pv 0) rfl) rfl)
      (pss_cons (ps_fld (pv 1) (pe_callTy call_list_of (by rfl) T.f_list (by decide +kernel) (pa_cons (pe_fld (pv 0) rfl) pa_nil)) rfl)
      (pss_cons (ps_fld (pv 1) (pe_callTy call_list_of (by rfl) T.f_list (by decide +kernel) (pa_cons (pe_fld (pv 0) rfl) pa_nil)) rfl)
      (pss_cons (ps_fld (pv 1) (pe_callTy call_list_of (by rfl) T.f_list (by decide +kernel) (pa_cons (pe_fld (pv 0) rfl) pa_nil)) rfl)
      (pss_cons (ps_fld (pv 1) (pe_fld (pv 0) rfl) rfl)
      (pss_cons (ps_fld (pv 1) (pe_lc (own := [("stand", 2)]) (g := gName 2) rfl sc_Machine_twin.nd (pi_list (pe_fld (pv 0) rfl)) (blkOk_by (own := [("stand", 2)]) (N := ["self", "found", "stand"]) (sc := defScope s_Machine_twin) (by decide +kernel)) (fun _ _ _ _ _ => (pg_name (i := 2) sc_Machine_twin.nd rfl (Or.inl rfl))) (fun _ _ _ _ _ => pts_nil) (fun _ _ _ _ _ => (pe_km0 (pv 2) T.c_Stand T.m_Stand_copied G_Stand_copied (hr.mono (by decide))))) rfl)
      (pss_cons (ps_fld (pv 1) (pe_fld (pv 0) rfl) rfl)
      (pss_cons (ps_fld (pv 1) (pe_fld (pv 0) rfl) rfl)
      (pss_one (ps_ret (pv 1)))))))))))), ?_⟩
    have upx : ∀ {H' : Hp} {x : Addr} {o : HO}, H x = none → Same H H' → Same H (upd H' x o) := fun hx s b o e => by rw [upd_ne (ne_of_none e hx)]; exact s b o e
    refine ⟨_, rfl, m, cM K, dm, _, _, rfl, h.o, T.c_Machine, T.n_Machine_rows, rfl, ?_⟩
    refine ⟨_, rfl, m, cM K, dm, _, _, rfl, h.o, T.c_Machine, T.n_Machine_given, rfl, fun x dx hx hdx ne => ?_⟩
    have s0 : Same H (upd (upd H dx (.own x)) x (.ins (cM K) dx [])) := same_mk hx hdx ne
    refine ⟨x, dx, va, vi, p, inp, rfl, upd_same, h.rows.same s0, pok, h.given.same s0, iok, fun H1 fp1 f1 n1 n2 hM => ⟨rfl, ?_⟩⟩
    have s1 : Same H H1 := fun c o hc => f1 c o (s0 c o hc) (by simpa using ne_of_none hc hx)
    obtain ⟨va1, vi1, dm1, lw1, ls1, ld1, lt1, xs1, e1, h1⟩ := hM
    have hr1 := h1.rows
    have hi1 := h1.given
    have hx1 : H1 x = some (.ins (cM K) dm1 (mfs va1 vi1 (.int 0) (.ref lw1) (.ref ls1) (.ref ld1) (.int 0) (.ref lt1) .non (.int 0))) := h1.o
    clear e1 n2 n1 h1
    have m1 := h.same s1
    refine ⟨_, rfl, m, cM K, dm, _, _, rfl, m1.o, T.c_Machine, T.n_Machine_at, rfl, _, rfl, x, cM K, dm1, _, rfl, hx1, T.c_Machine, T.n_Machine_at, Nat.le_of_ble_eq_true rfl, ?_⟩
    have s2 := upx (o := .ins (cM K) dm1 (mfs va1 vi1 (.int st.at_) (.ref lw1) (.ref ls1) (.ref ld1) (.int 0) (.ref lt1) .non (.int 0))) hx s1
    have t2 := tl_ins (K := K) (o := .ins (cM K) dm1 (mfs va1 vi1 (.int st.at_) (.ref lw1) (.ref ls1) (.ref ld1) (.int 0) (.ref lt1) .non (.int 0))) hx1
    have hx2 : (upd H1 x (.ins (cM K) dm1 (mfs va1 vi1 (.int st.at_) (.ref lw1) (.ref ls1) (.ref ld1) (.int 0) (.ref lt1) .non (.int 0)))) x = _ := upd_same
    have hr2 := hr1.tl t2
    have hi2 := hi1.tl t2
    generalize hH2 : upd H1 x (.ins (cM K) dm1 (mfs va1 vi1 (.int st.at_) (.ref lw1) (.ref ls1) (.ref ld1) (.int 0) (.ref lt1) .non (.int 0))) = H2 at s2 t2 hx2 hr2 hi2
    rw [show upd H1 x (.ins (cM K) dm1 (putF "at" (.int st.at_) (mfs va1 vi1 (.int 0) (.ref lw1) (.ref ls1) (.ref ld1) (.int 0) (.ref lt1) .non (.int 0)))) = H2 from hH2]
    clear hH2 m1
    have m2 := h.same s2
    -- words
    refine ⟨_, rfl, m, cM K, dm, _, _, rfl, m2.o, T.c_Machine, T.n_Machine_words, rfl, _, _, rfl, .inl (sq_lst m2.w), fun l1 hl1 => ?_⟩
    have s3a := same_new (o := .lst (st.words.map V.int)) hl1
    have l1H : H l1 = none := by cases e : H l1 with | none => rfl | some o => rw [s2 _ _ e] at hl1; cases hl1
    have l1x : l1 ≠ x := Ne.symm (ne_of_none hx2 hl1)
    have hx3a := s3a _ _ hx2
    refine ⟨_, rfl, x, cM K, dm1, _, rfl, hx3a, T.c_Machine, T.n_Machine_words, Nat.le_of_ble_eq_true rfl, ?_⟩
    have s3 := upx (o := .ins (cM K) dm1 (mfs va1 vi1 (.int st.at_) (.ref l1) (.ref ls1) (.ref ld1) (.int 0) (.ref lt1) .non (.int 0))) hx (s2.trans s3a)
    have t3 := (tl_same (K := K) s3a).trans (tl_ins (o := .ins (cM K) dm1 (mfs va1 vi1 (.int st.at_) (.ref l1) (.ref ls1) (.ref ld1) (.int 0) (.ref lt1) .non (.int 0))) hx3a)
    have w3 : (upd (upd H2 l1 (.lst (st.words.map V.int))) x (.ins (cM K) dm1 (mfs va1 vi1 (.int st.at_) (.ref l1) (.ref ls1) (.ref ld1) (.int 0) (.ref lt1) .non (.int 0)))) l1 = some (.lst (st.words.map V.int)) := by rw [upd_ne l1x]; exact upd_same
    have hx3 : (upd (upd H2 l1 (.lst (st.words.map V.int))) x (.ins (cM K) dm1 (mfs va1 vi1 (.int st.at_) (.ref l1) (.ref ls1) (.ref ld1) (.int 0) (.ref lt1) .non (.int 0)))) x = _ := upd_same
    have hr3 := hr2.tl t3
    have hi3 := hi2.tl t3
    generalize hH3 : upd (upd H2 l1 (.lst (st.words.map V.int))) x (.ins (cM K) dm1 (mfs va1 vi1 (.int st.at_) (.ref l1) (.ref ls1) (.ref ld1) (.int 0) (.ref lt1) .non (.int 0))) = H3 at s3 t3 hx3 hr3 hi3 w3
    rw [show upd (upd H2 l1 (.lst (st.words.map V.int))) x (.ins (cM K) dm1 (putF "words" (.ref l1) (mfs va1 vi1 (.int st.at_) (.ref lw1) (.ref ls1) (.ref ld1) (.int 0) (.ref lt1) .non (.int 0)))) = H3 from hH3]
    clear hH3 m2
    have m3 := h.same s3
    -- store
    refine ⟨_, rfl, m, cM K, dm, _, _, rfl, m3.o, T.c_Machine, T.n_Machine_store, rfl, _, _, rfl, .inl (sq_lst m3.s), fun l2 hl2 => ?_⟩
    have s4a := same_new (o := .lst (st.store.map V.int)) hl2
    have l2H : H l2 = none := by cases e : H l2 with | none => rfl | some o => rw [s3 _ _ e] at hl2; cases hl2
    have l2x : l2 ≠ x := Ne.symm (ne_of_none hx3 hl2)
    have l12 : l1 ≠ l2 := ne_of_none w3 hl2
    have hx4a := s4a _ _ hx3
    have w4a := s4a _ _ w3
    refine ⟨_, rfl, x, cM K, dm1, _, rfl, hx4a, T.c_Machine, T.n_Machine_store, Nat.le_of_ble_eq_true rfl, ?_⟩
    have s4 := upx (o := .ins (cM K) dm1 (mfs va1 vi1 (.int st.at_) (.ref l1) (.ref l2) (.ref ld1) (.int 0) (.ref lt1) .non (.int 0))) hx (s3.trans s4a)
    have t4 := (tl_same (K := K) s4a).trans (tl_ins (o := .ins (cM K) dm1 (mfs va1 vi1 (.int st.at_) (.ref l1) (.ref l2) (.ref ld1) (.int 0) (.ref lt1) .non (.int 0))) hx4a)
    have w4 : (upd (upd H3 l2 (.lst (st.store.map V.int))) x (.ins (cM K) dm1 (mfs va1 vi1 (.int st.at_) (.ref l1) (.ref l2) (.ref ld1) (.int 0) (.ref lt1) .non (.int 0)))) l1 = some (.lst (st.words.map V.int)) := by rw [upd_ne l1x]; exact w4a
    have v4 : (upd (upd H3 l2 (.lst (st.store.map V.int))) x (.ins (cM K) dm1 (mfs va1 vi1 (.int st.at_) (.ref l1) (.ref l2) (.ref ld1) (.int 0) (.ref lt1) .non (.int 0)))) l2 = some (.lst (st.store.map V.int)) := by rw [upd_ne l2x]; exact upd_same
    have hx4 : (upd (upd H3 l2 (.lst (st.store.map V.int))) x (.ins (cM K) dm1 (mfs va1 vi1 (.int st.at_) (.ref l1) (.ref l2) (.ref ld1) (.int 0) (.ref lt1) .non (.int 0)))) x = _ := upd_same
    have hr4 := hr3.tl t4
    have hi4 := hi3.tl t4
    generalize hH4 : upd (upd H3 l2 (.lst (st.store.map V.int))) x (.ins (cM K) dm1 (mfs va1 vi1 (.int st.at_) (.ref l1) (.ref l2) (.ref ld1) (.int 0) (.ref lt1) .non (.int 0))) = H4 at s4 t4 hx4 hr4 hi4 w4 v4
    rw [show upd (upd H3 l2 (.lst (st.store.map V.int))) x (.ins (cM K) dm1 (putF "store" (.ref l2) (mfs va1 vi1 (.int st.at_) (.ref l1) (.ref ls1) (.ref ld1) (.int 0) (.ref lt1) .non (.int 0)))) = H4 from hH4]
    clear hH4 m3
    have m4 := h.same s4
    -- said
    refine ⟨_, rfl, m, cM K, dm, _, _, rfl, m4.o, T.c_Machine, T.n_Machine_said, rfl, _, _, rfl, .inl (sq_lst m4.d), fun l3 hl3 => ?_⟩
    have s5a := same_new (o := .lst (st.said.map V.int)) hl3
    have l3H : H l3 = none := by cases e : H l3 with | none => rfl | some o => rw [s4 _ _ e] at hl3; cases hl3
    have l3x : l3 ≠ x := Ne.symm (ne_of_none hx4 hl3)
    have l13 : l1 ≠ l3 := ne_of_none w4 hl3
    have l23 : l2 ≠ l3 := ne_of_none v4 hl3
    have hx5a := s5a _ _ hx4
    have w5a := s5a _ _ w4
    have v5a := s5a _ _ v4
    refine ⟨_, rfl, x, cM K, dm1, _, rfl, hx5a, T.c_Machine, T.n_Machine_said, Nat.le_of_ble_eq_true rfl, ?_⟩
    -- count
    have o5 : ∀ {o : HO} (b : Addr) (u : HO), b ≠ x → (upd H4 l3 (.lst (st.said.map V.int))) b = some u → (upd (upd H4 l3 (.lst (st.said.map V.int))) x o) b = some u := fun b u n e => by rw [upd_ne n]; exact e
    have s5b := upx (o := .ins (cM K) dm1 (putF "said" (.ref l3) (mfs va1 vi1 (.int st.at_) (.ref l1) (.ref l2) (.ref ld1) (.int 0) (.ref lt1) .non (.int 0)))) hx (s4.trans s5a)
    have m5 := h.same s5b
    refine ⟨_, rfl, m, cM K, dm, _, _, rfl, m5.o, T.c_Machine, T.n_Machine_count, rfl, _, rfl, x, cM K, dm1, _, rfl, upd_same, T.c_Machine, T.n_Machine_count, Nat.le_of_ble_eq_true rfl, ?_⟩
    have s6 := upx (o := .ins (cM K) dm1 (mfs va1 vi1 (.int st.at_) (.ref l1) (.ref l2) (.ref l3) (.int st.count) (.ref lt1) .non (.int 0))) hx s5b
    have t6 := ((tl_same (K := K) s5a).trans (tl_ins (o := .ins (cM K) dm1 (putF "said" (.ref l3) (mfs va1 vi1 (.int st.at_) (.ref l1) (.ref l2) (.ref ld1) (.int 0) (.ref lt1) .non (.int 0)))) hx5a)).trans (tl_ins (o := .ins (cM K) dm1 (mfs va1 vi1 (.int st.at_) (.ref l1) (.ref l2) (.ref l3) (.int st.count) (.ref lt1) .non (.int 0))) upd_same)
    generalize hH5 : upd (upd H4 l3 (.lst (st.said.map V.int))) x (.ins (cM K) dm1 (putF "said" (.ref l3) (mfs va1 vi1 (.int st.at_) (.ref l1) (.ref l2) (.ref ld1) (.int 0) (.ref lt1) .non (.int 0)))) = H5 at s5b m5 s6 t6
    have w6 : (upd H5 x (.ins (cM K) dm1 (mfs va1 vi1 (.int st.at_) (.ref l1) (.ref l2) (.ref l3) (.int st.count) (.ref lt1) .non (.int 0)))) l1 = some (.lst (st.words.map V.int)) := by rw [upd_ne l1x, ← hH5, upd_ne l1x]; exact w5a
    have v6 : (upd H5 x (.ins (cM K) dm1 (mfs va1 vi1 (.int st.at_) (.ref l1) (.ref l2) (.ref l3) (.int st.count) (.ref lt1) .non (.int 0)))) l2 = some (.lst (st.store.map V.int)) := by rw [upd_ne l2x, ← hH5, upd_ne l2x]; exact v5a
    have u6 : (upd H5 x (.ins (cM K) dm1 (mfs va1 vi1 (.int st.at_) (.ref l1) (.ref l2) (.ref l3) (.int st.count) (.ref lt1) .non (.int 0)))) l3 = some (.lst (st.said.map V.int)) := by rw [upd_ne l3x, ← hH5, upd_ne l3x]; exact upd_same
    have hx6 : (upd H5 x (.ins (cM K) dm1 (mfs va1 vi1 (.int st.at_) (.ref l1) (.ref l2) (.ref l3) (.int st.count) (.ref lt1) .non (.int 0)))) x = _ := upd_same
    have hr6 := hr4.tl t6
    have hi6 := hi4.tl t6
    clear hH5
    generalize hH6 : upd H5 x (.ins (cM K) dm1 (mfs va1 vi1 (.int st.at_) (.ref l1) (.ref l2) (.ref l3) (.int st.count) (.ref lt1) .non (.int 0))) = H6 at s6 t6 w6 v6 u6 hx6 hr6 hi6
    rw [show upd H5 x (.ins (cM K) dm1 (putF "count" (.int st.count) (putF "said" (.ref l3) (mfs va1 vi1 (.int st.at_) (.ref l1) (.ref l2) (.ref ld1) (.int 0) (.ref lt1) .non (.int 0))))) = H6 from hH6]
    clear hH6 m5 s5b w5a v5a hx5a hx4a hx3a w4a
    have m6 := h.same s6
    -- stands
    refine ⟨_, rfl, m, cM K, dm, _, _, rfl, m6.o, T.c_Machine, T.n_Machine_stands, rfl, lt, rfl, ⟨_, sq_lst m6.t⟩, fun D hD => ?_⟩
    have hxl := Paired.length h.sts
    refine lc_it (walk_list (xs := xs.map V.ref)) (fun i H' => Same H6 H' ∧ ∃ ys, H' D = some (.lst (ys.map V.ref)) ∧ ys.length = i ∧ Paired (StO K H') ys (st.stands.take i) ∧ (D :: ys).Nodup ∧ ∀ y ∈ ys, H6 y = none) ⟨same_new hD, [], upd_same, rfl, by rw [List.take_zero]; exact .nil, by simp, fun y hy => by simp at hy⟩ (fun i H' _ hh => sq_lst (hh.1 _ _ m6.t)) ?_ ?_
    · rintro i y Ha Hb hi ⟨sa, ys, hDa, hyl, hp, hnd, hyf⟩ ⟨rfl, ey⟩
      have ey2 : (xs.map V.ref)[i]? = some y := ey
      rw [List.getElem?_map] at ey2
      obtain ⟨z, e2, rfl⟩ := Option.map_eq_some_iff.mp ey2
      obtain ⟨ss, e3, so⟩ := Paired.at1 m6.sts e2
      have soa := so.same sa
      refine ⟨rfl, yes_if ?_⟩
      have soa' := soa
      obtain ⟨dz, az, bz, hz, _, _⟩ := soa'
      refine ⟨_, rfl, z, dz, _, rfl, hz, rfl, z, ss, rfl, soa, fun Hc y1 sc hy1 so1 => ?_⟩
      have yD : y1 ≠ D := fun e => by rw [e, hDa] at hy1; cases hy1
      have t7 := tl_lst (K := K) (o := .lst (ys.map V.ref ++ [V.ref y1])) (sc _ _ hDa)
      refine ⟨_, sc _ _ hDa, by rw [List.length_map, hyl]; have : i < 2 := by rw [List.length_map, hxl] at hi; omega
                                exact Nat.lt_of_lt_of_le this (by decide), fun b o e => ?_, ys ++ [y1], ?_, by rw [List.length_append, hyl]; rfl, ?_, ?_, ?_⟩
      · rw [upd_ne (ne_of_none e hD)]
        exact sc _ _ (sa _ _ e)
      · rw [upd_same, List.map_append]; rfl
      · rw [List.take_add_one, e3]
        have hDy : D ∉ ys := (List.nodup_cons.mp hnd).1
        exact Paired.snoc (F := StO K _) (so1.upd yD t7) (stos_upd t7 (Paired.mapP hp fun _ _ q => q.same sc) hDy)
      · have n := List.nodup_cons.mp hnd
        refine List.nodup_cons.mpr ⟨fun q => ?_, List.nodup_append.mpr ⟨n.2, by simp, fun a ha b hb => ?_⟩⟩
        · rcases List.mem_append.mp q with q | q
          · exact n.1 q
          · exact yD (List.mem_singleton.mp q).symm
        · rw [List.mem_singleton.mp hb]
          intro e
          obtain ⟨_, dd, _, _, q, _⟩ := stos_at hp a ha
          rw [e, hy1] at q
          cases q
      · intro y hy
        rcases List.mem_append.mp hy with q | q
        · exact hyf y q
        · rw [List.mem_singleton.mp q]
          cases e : H6 y1 with
          | none => rfl
          | some o => rw [sa _ _ e] at hy1; cases hy1
    · rintro H7 ⟨s7, ys, hD7, hyl, hp, hnd, hyf⟩
      rw [List.length_map, hxl, List.take_length] at hp
      have hx7 := s7 _ _ hx6
      have s07 := s6.trans s7
      refine ⟨_, rfl, x, cM K, dm1, _, rfl, hx7, T.c_Machine, T.n_Machine_stands, Nat.le_of_ble_eq_true rfl, ?_⟩
      have s8 := upx (o := .ins (cM K) dm1 (putF "stands" (.ref D) (mfs va1 vi1 (.int st.at_) (.ref l1) (.ref l2) (.ref l3) (.int st.count) (.ref lt1) .non (.int 0)))) hx s07
      have m8 := h.same s8
      refine ⟨_, rfl, m, cM K, dm, _, _, rfl, m8.o, T.c_Machine, T.n_Machine_over, rfl, _, rfl, x, cM K, dm1, _, rfl, upd_same, T.c_Machine, T.n_Machine_over, Nat.le_of_ble_eq_true rfl, ?_⟩
      have s9 := upx (o := .ins (cM K) dm1 (putF "over" (oS st.over) (putF "stands" (.ref D) (mfs va1 vi1 (.int st.at_) (.ref l1) (.ref l2) (.ref l3) (.int st.count) (.ref lt1) .non (.int 0))))) hx s8
      have m9 := h.same s9
      refine ⟨_, rfl, m, cM K, dm, _, _, rfl, m9.o, T.c_Machine, T.n_Machine_done, rfl, _, rfl, x, cM K, dm1, _, rfl, upd_same, T.c_Machine, T.n_Machine_done, Nat.le_of_ble_eq_true rfl, ?_⟩
      refine ⟨_, rfl, ?_⟩
      have xD : D ≠ x := Ne.symm (ne_of_none hx6 hD)
      have ax : ∀ (o1 o2 o3 : HO) (b : Addr) (u : HO), b ≠ x → H7 b = some u → (upd (upd (upd H7 x o1) x o2) x o3) b = some u := fun o1 o2 o3 b u n e => by rw [upd_ne n, upd_ne n, upd_ne n]; exact e
      have t10 := ((tl_ins (K := K) (o := .ins (cM K) dm1 (putF "stands" (.ref D) (mfs va1 vi1 (.int st.at_) (.ref l1) (.ref l2) (.ref l3) (.int st.count) (.ref lt1) .non (.int 0)))) hx7).trans (tl_ins (o := .ins (cM K) dm1 (putF "over" (oS st.over) (putF "stands" (.ref D) (mfs va1 vi1 (.int st.at_) (.ref l1) (.ref l2) (.ref l3) (.int st.count) (.ref lt1) .non (.int 0))))) upd_same)).trans (tl_ins (o := .ins (cM K) dm1 (putF "done" (.int st.done) (putF "over" (oS st.over) (putF "stands" (.ref D) (mfs va1 vi1 (.int st.at_) (.ref l1) (.ref l2) (.ref l3) (.int st.count) (.ref lt1) .non (.int 0)))))) upd_same)
      have xys : x ∉ ys := fun z => by rw [hyf x z] at hx6; cases hx6
      have n := List.nodup_cons.mp hnd
      have hD6 : ∀ {b : Addr} {u : HO}, H6 b = some u → b ≠ D := fun e => ne_of_none e hD
      have hy6 : ∀ {b : Addr} {u : HO}, H6 b = some u → b ∉ ys := fun e z => by rw [hyf _ z] at e; cases e
      refine q _ x (x :: l1 :: l2 :: l3 :: D :: ys) (upx hx s9) ?_ ⟨va1, vi1, dm1, l1, l2, l3, D, ys, rfl, ?_, upd_same, (hr6.same s7).tl t10, (hi6.same s7).tl t10, ax _ _ _ _ _ l1x (s7 _ _ w6), ax _ _ _ _ _ l2x (s7 _ _ v6), ax _ _ _ _ _ l3x (s7 _ _ u6), ax _ _ _ _ _ xD hD7, stos_upd (tl_ins upd_same) (stos_upd (tl_ins upd_same) (stos_upd (tl_ins hx7) hp xys) xys) xys⟩
      · intro b hb
        have hh : ∀ {c : Addr}, H6 c = none → H c = none := fun {c} e => by
          cases z : H c with
          | none => rfl
          | some o => rw [s6 _ _ z] at e; cases e
        simp only [List.mem_cons] at hb
        rcases hb with e | e | e | e | e | e
        · rw [e]; exact hx
        · rw [e]; exact l1H
        · rw [e]; exact l2H
        · rw [e]; exact l3H
        · rw [e]; exact hh hD
        · exact hh (hyf b e)
      · simp only [List.nodup_cons, List.mem_cons, not_or]
        exact ⟨⟨Ne.symm l1x, Ne.symm l2x, Ne.symm l3x, Ne.symm xD, xys⟩, ⟨l12, l13, hD6 w6, hy6 w6⟩, ⟨l23, hD6 v6, hy6 v6⟩, ⟨hD6 u6, hy6 u6⟩, n.1, n.2⟩
end

end Sw
/-! SwD14 -/
namespace Sw
set_option Elab.async false
set_option linter.all false
set_option maxRecDepth 100000
set_option maxHeartbeats 4000000
open PySem PySem.Spec PyProof.Rows L2
section
variable {w : World} {K : PySem.W.Frag} {mg : Str → Option Value} {base : Heap}
def OcAt (K : PySem.W.Frag) (H : Hp) (v : V) (o : Oc) : Prop := ∃ a t c, v = .ref a ∧ SqT K H a [.ref t, .ref c, .str o.end_, .int o.beats] ∧ SqT K H t (o.told.map V.int) ∧ SqT K H c (o.cells.map V.int)
theorem OcAt.tl {H H' : Hp} {v : V} {o : Oc} (h : OcAt K H v o) (s : Tl K H H') : OcAt K H' v o := by
  obtain ⟨a, t, c, e, h1, h2, h3⟩ := h
  exact ⟨a, t, c, e, s _ _ h1, s _ _ h2, s _ _ h3⟩
theorem OcAt.same {H H' : Hp} {v : V} {o : Oc} (h : OcAt K H v o) (s : Same H H') : OcAt K H' v o := h.tl (tl_same s)
theorem sc_outcome_of : FnScope ["machine", "end"] ["machine"] (defScope s_outcome_of) := ⟨rfl, rfl, rfl, by decide +kernel, rfl, by decide +kernel, by decide +kernel⟩
def sp_outcome (K : PySem.W.Frag) : Sp := fun vs H Q _ => ∃ m p inp st fp, vs = [V.ref m] ∧ Mch K H m p inp st fp ∧ ∀ H' v, Same H H' → OcAt K H' v (outc st) → Q v H'
theorem G_outcome_of (T : Tx w K mg) : Kn PP w K mg base 2 (He.ga K "outcome_of") ["machine"] (sp_outcome K) := by
  have G_Machine_end := G_Machine_end (base := base) T
  have G_Machine_told := G_Machine_told (base := base) T
  have G_Machine_cells := G_Machine_cells (base := base) T
  have G_Machine_beats := G_Machine_beats (base := base) T
  refine kn_of T.d_outcome_of sc_outcome_of (fun _ _ _ _ _ _ us hl => match us, hl with | [_], _ => rfl) (fun vs H Q E h => ?_) fun cdv A outer s H vs Q E hr h => ?_
  · obtain ⟨m, p, inp, st, fp, rfl, _⟩ := h; rfl
  · obtain ⟨m, p, inp, st, fp, rfl, hm, q⟩ := h
    obtain ⟨va, vi, dm, lw, ls, ld, lt, xs, e, h⟩ := id hm
    have ho : ∀ H', Same H H' → ∃ dm fs, H' m = some (.ins (cM K) dm fs) ∧ fs.lookup ("end" : Str) = none ∧ fs.lookup ("told" : Str) = none ∧ fs.lookup ("cells" : Str) = none ∧ fs.lookup ("beats" : Str) = none := fun H' s => ⟨_, _, s _ _ h.o, rfl, rfl, rfl, rfl⟩
    clear e h
    refine ⟨_, (pss_cons (ps_set (i := 1) sc_outcome_of.nd rfl (Or.inl rfl) (pe_km0 (pv 0) T.c_Machine T.m_Machine_end G_Machine_end (hr.mono (by decide))))
      (pss_one (ps_ret (pe_tup (pa_cons (pe_km0 (pv 0) T.c_Machine T.m_Machine_told G_Machine_told (hr.mono (by decide))) (pa_cons (pe_km0 (pv 0) T.c_Machine T.m_Machine_cells G_Machine_cells (hr.mono (by decide))) (pa_cons (pe_ifExp (pt_cmpR op_isN (pv 1) pe_non (nomark _)) pe_str (pv 1)) (pa_cons (pe_km0 (pv 0) T.c_Machine T.m_Machine_beats G_Machine_beats (hr.mono (by decide))) pa_nil)))))))), ?_⟩
    obtain ⟨d1, f1, o1, k1, _⟩ := ho H (fun _ _ z => z)
    refine ⟨_, rfl, m, d1, f1, rfl, o1, k1, m, p, inp, st, fp, rfl, hm, ?_⟩
    obtain ⟨d1, f1, o1, _, k1, _⟩ := ho H (fun _ _ z => z)
    refine ⟨_, rfl, m, d1, f1, rfl, o1, k1, m, p, inp, st, fp, rfl, hm, fun H1 t s1 ht => ?_⟩
    obtain ⟨d1, f1, o1, _, _, k1, _⟩ := ho H1 s1
    refine ⟨_, rfl, m, d1, f1, rfl, o1, k1, m, p, inp, st, fp, rfl, hm.same s1, fun H2 c s2 hc => ?_⟩
    obtain ⟨d1, f1, o1, _, _, _, k1⟩ := ho H2 (s1.trans s2)
    refine ⟨_, rfl, rfl, _, rfl, ?_⟩
    have fin : ∀ (x : Str), st.over.getD "dry" = x → tCons (tMeth (cM K) "beats" (sp_beats K) [] E0 (tVar 0) tNil) tNil [some (V.ref m), some (oS st.over)] H2 fun xs H3 => ([V.ref t, .ref c, .str x] ++ xs).length ≤ sizeLine ∧ ∀ a, H3 a = none → Q (.ref a) (upd H3 a (.tup ([V.ref t, .ref c, .str x] ++ xs))) := fun x ex => by
      refine ⟨_, rfl, m, d1, f1, rfl, o1, k1, m, p, inp, st, fp, rfl, (hm.same s1).same s2, by show 4 ≤ sizeLine; decide, fun a ha => ?_⟩
      refine q _ _ ((s1.trans s2).trans (same_new ha)) ⟨a, t, c, rfl, by show SqT K _ a [.ref t, .ref c, .str (st.over.getD "dry"), .int st.done]; rw [ex]; exact sq_new, ?_, ?_⟩
      · exact tl_same (s2.trans (same_new ha)) _ _ (sq_tup ht)
      · exact tl_same (same_new ha) _ _ (sq_tup hc)
    cases e : st.over with
    | none => exact iteT (by have := fin "dry" (by rw [e]; rfl); rw [e] at this; exact this)
    | some x => exact iteF ⟨_, rfl, by have := fin x (by rw [e]; rfl); rw [e] at this; exact this⟩
theorem sc_run : FnScope ["program", "inputs", "most", "machine"] ["program", "inputs", "most"] (defScope s_run) := ⟨rfl, rfl, rfl, by decide +kernel, rfl, by decide +kernel, by decide +kernel⟩
def sp_run (K : PySem.W.Frag) : Sp := fun vs H Q _ => ∃ vp vi p inp most, vs = [vp, vi, V.int most] ∧ PgAt K H vp p ∧ PgOk p ∧ IsAt K H vi inp ∧ InOk inp ∧ 0 ≤ most ∧ most ≤ 100000 ∧ ∀ H' v, Same H H' → OcAt K H' v (outc (itb p inp most.toNat ms0)) → Q v H'
theorem mch_o {H : Hp} {m : Addr} {p : List Rw} {inp : List Int} {st : MS} {fp : List Addr} (h : Mch K H m p inp st fp) : ∃ dm va vi lw ls ld lt, H m = some (.ins (cM K) dm (mfs va vi (.int st.at_) (.ref lw) (.ref ls) (.ref ld) (.int st.count) (.ref lt) (oS st.over) (.int st.done))) := by
  obtain ⟨va, vi, dm, lw, ls, ld, lt, xs, e, h⟩ := h
  exact ⟨dm, va, vi, lw, ls, ld, lt, h.o⟩
/-- all of fp is new since H -/
def New (fp : List Addr) (H : Hp) : Prop := ∀ b ∈ fp, H b = none
theorem New.step {fp fp' : List Addr} {H H1 H2 : Hp} (n : New fp H) (s : Same H H1) (f : Frm fp H1 H2) (k : Nw fp fp' H1) : Same H H2 ∧ New fp' H := by
  refine ⟨fun b o e => f b o (s b o e) (fun z => by rw [n b z] at e; cases e), fun b hb => ?_⟩
  rcases k b hb with z | z
  · exact n b z
  · cases e : H b with
    | none => rfl
    | some o => rw [s b o e] at z; cases z
theorem new_mk {H H1 : Hp} {x dx : Addr} {o1 o2 : HO} {fp' : List Addr} (hx : H x = none) (hdx : H dx = none) (ne : dx ≠ x) (f : Frm [x] (upd (upd H dx o1) x o2) H1) (n : ∀ b ∈ fp', b = x ∨ (upd (upd H dx o1) x o2) b = none) : Same H H1 ∧ New fp' H := by
  have s0 : Same H (upd (upd H dx o1) x o2) := same_mk hx hdx ne
  refine ⟨fun c o hc => f c o (s0 c o hc) (by simpa using ne_of_none hc hx), fun b hb => ?_⟩
  rcases n b hb with e | e
  · rw [e]; exact hx
  · cases z : H b with
    | none => rfl
    | some o => rw [s0 b o z] at e; cases e
theorem G_run (T : Tx w K mg) : Kn PP w K mg base 6 (He.ga K "run") ["program", "inputs", "most"] (sp_run K) := by
  have G_Machine := G_Machine (base := base) T
  have G_need_most := G_need_most (base := base) T
  have G_Machine_beats := G_Machine_beats (base := base) T
  have G_Machine_beat := G_Machine_beat (base := base) T
  have G_outcome_of := G_outcome_of (base := base) T
  refine kn_of T.d_run sc_run (fun _ _ _ _ _ _ us hl => match us, hl with | [_, _, _], _ => rfl) (fun vs H Q E h => ?_) fun cdv A outer s H vs Q E hr h => ?_
  · obtain ⟨vp, vi, p, inp, most, rfl, _⟩ := h; rfl
  · obtain ⟨vp, vi, p, inp, most, rfl, hp, pok, hi, iok, m0, m1, q⟩ := h
    refine ⟨_, (pss_cons (ps_set (i := 3) sc_run.nd rfl (Or.inl rfl) (pe_kc G_Machine (hr.mono (by decide)) (by rfl) T.g_Machine (pa_cons (pv 0) (pa_cons (pv 1) pa_nil))))
      (pss_cons (ps_expr (pe_kn G_need_most (hr.mono (by decide)) (by rfl) T.g_need_most (pa_cons (pv 2) pa_nil)))
      (pss_cons (ps_while PassesOwn.never (PW.pt (pw_and (pt_cmpR op_lt (pe_km0 (pv 3) T.c_Machine T.m_Machine_beats G_Machine_beats (hr.mono (by decide))) (pv 2) (nomark _)) (pw_and1 (pt_val (pe_km0 (pv 3) T.c_Machine T.m_Machine_beat G_Machine_beat (hr.mono (by decide)))))))
        (pss_one ps_pass))
      (pss_one (ps_ret (pe_kn G_outcome_of (hr.mono (by decide)) (by rfl) T.g_outcome_of (pa_cons (pv 3) pa_nil))))))), ?_⟩
    refine ⟨_, rfl, _, rfl, fun x dx hx hdx ne => ?_⟩
    have s0 : Same H (upd (upd H dx (.own x)) x (.ins (cM K) dx [])) := same_mk hx hdx ne
    refine ⟨x, dx, vp, vi, p, inp, rfl, upd_same, hp.same s0, pok, hi.same s0, iok, fun H1 fp1 f1 _ n2 hM => ⟨rfl, ?_⟩⟩
    obtain ⟨s1, nw1⟩ := new_mk hx hdx ne f1 n2
    refine ⟨_, rfl, most, rfl, m0, m1, ?_⟩
    refine ⟨fun k σ H' => ∃ st fp, σ = [some vp, some vi, some (.int most), some (.ref x)] ∧ Mch K H' x p inp st fp ∧ Same H H' ∧ New fp H ∧ Good p st ∧ st.done ≤ most ∧ k = (most - st.done).toNat ∧ itb p inp (most - st.done).toNat st = itb p inp most.toNat ms0,
      ⟨_, ms0, fp1, rfl, hM, s1, nw1, good0 pok.lo, m0, rfl, by rw [show most - ms0.done = most from Int.sub_zero _]⟩, ?_⟩
    rintro k σ H2 ⟨st, fp, rfl, hm, s2, nw2, g, dl, rfl, eq⟩
    obtain ⟨dm, va, vi', lw, ls, ld, lt, ho⟩ := mch_o hm
    refine ⟨_, rfl, x, dm, _, rfl, ho, rfl, x, p, inp, st, fp, rfl, hm, _, rfl, _, _, rfl, rfl, _, rfl, ?_⟩
    refine ite2 (fun e => ?_) (fun e => ?_)
    · have e : st.done < most := by simpa using e
      refine ⟨_, rfl, x, dm, _, rfl, ho, rfl, x, p, inp, st, fp, rfl, hm, g, pok, iok, by omega, fun H3 fp3 hm3 f3 n3 => ⟨_, rfl, ?_⟩⟩
      obtain ⟨s3, nw3⟩ := nw2.step s2 f3 n3
      refine ite2 (fun e2 => ?_) (fun e2 => ?_)
      · have e2 : st.over = none := by simpa using e2
        have ed := @bt_done p inp st e2
        refine ⟨_, fun σ' H' z => z, ?_⟩
        refine ⟨(most - (st.done + 1)).toNat, by omega, bt p inp st, fp3, rfl, hm3, s3, nw3, good_bt g pok iok, by omega, by rw [ed], ?_⟩
        rw [← eq, ed, show (most - st.done).toNat = (most - (st.done + 1)).toNat + 1 by omega]
        rfl
      · have e2 : st.over ≠ none := by simpa using e2
        rw [itb_over e2] at eq
        rw [bt_over e2] at hm3
        refine ⟨_, rfl, x, p, inp, st, fp3, rfl, hm3, fun H4 v s4 ho4 => q H4 v (s3.trans s4) ?_⟩
        rw [← eq]
        exact ho4
    · have e : ¬ st.done < most := by simpa using e
      rw [show (most - st.done).toNat = 0 by omega] at eq
      refine ⟨_, rfl, x, p, inp, st, fp, rfl, hm, fun H4 v s4 ho4 => q H4 v (s2.trans s4) ?_⟩
      rw [← eq]
      exact ho4
end

end Sw
/-! SwD15 -/
namespace Sw
set_option Elab.async false
set_option linter.all false
set_option maxRecDepth 100000
set_option maxHeartbeats 4000000
open PySem PySem.Spec PyProof.Rows L2
/-! ### boxes and places that rows name -/
def nmB (r : Rw) (b : Int) : Bool := (rds r).contains b || sts r == some b
def bxs (p : List Rw) : List Int := (List.range 32).filterMap fun i => if p.any (fun r => nmB r (i : Nat)) then some ((i : Nat) : Int) else none
def pls (p : List Rw) : List Int := (List.range 400).filterMap fun i => if p.any (fun r => lds r == some ((i : Nat) : Int)) then some ((i : Nat) : Int) else none
theorem filt_lt (P : Nat → Bool) : ∀ n, ((List.range n).filterMap fun i => if P i = true then some ((i : Nat) : Int) else none).Pairwise (· < ·) ∧ ∀ x ∈ ((List.range n).filterMap fun i => if P i = true then some ((i : Nat) : Int) else none), 0 ≤ x ∧ x < n
  | 0 => ⟨.nil, fun x h => by simp at h⟩
  | n + 1 => by
    obtain ⟨h1, h2⟩ := filt_lt P n
    rw [List.range_succ, List.filterMap_append]
    refine ⟨List.pairwise_append.mpr ⟨h1, ?_, ?_⟩, ?_⟩
    · cases h : P n <;> simp [h]
    · intro a ha b hb
      cases h : P n
      · simp [h] at hb
      · simp [h] at hb
        subst hb
        exact (h2 a ha).2
    · intro x hx
      rcases List.mem_append.mp hx with m | m
      · have := h2 x m; omega
      · cases h : P n
        · simp [h] at m
        · simp [h] at m
          omega
theorem mem_pls {p : List Rw} (ok : PgOk p) (x : Int) : x ∈ pls p ↔ ∃ r ∈ p, lds r = some x := by
  unfold pls
  rw [List.mem_filterMap]
  constructor
  · rintro ⟨i, _, h⟩
    by_cases e : (p.any (fun r => lds r == some ((i : Nat) : Int))) = true
    · rw [if_pos e] at h
      injection h with h
      subst h
      obtain ⟨r, hr, h2⟩ := List.any_eq_true.mp e
      exact ⟨r, hr, by simpa using h2⟩
    · rw [if_neg e] at h; cases h
  · rintro ⟨r, hr, h⟩
    obtain ⟨i, hi⟩ := List.getElem?_of_mem hr
    have h1 := ok.way i r x hi h
    have h2 := ok.hi
    have rk := ok.row i r hi
    have m : x ∈ parts r 112 := by
      unfold lds at h
      cases l : parts r 112 with
      | nil => rw [l] at h; cases h
      | cons a b => rw [l] at h; injection h with h; subst h; exact .head _
    have h0 := (rk.pm m).1
    refine ⟨x.toNat, List.mem_range.mpr (by omega), ?_⟩
    rw [show ((x.toNat : Nat) : Int) = x by omega, if_pos (List.any_eq_true.mpr ⟨r, hr, by simpa using h⟩)]
theorem sorted_eq : ∀ {l m : List Int}, l.Pairwise (· < ·) → m.Pairwise (· < ·) → (∀ x, x ∈ l ↔ x ∈ m) → l = m
  | [], [], _, _, _ => rfl
  | [], b :: m, _, _, h => absurd ((h b).mpr (.head _)) (by simp)
  | a :: l, [], _, _, h => absurd ((h a).mp (.head _)) (by simp)
  | a :: l, b :: m, hl, hm, h => by
    have l1 := List.pairwise_cons.mp hl
    have m1 := List.pairwise_cons.mp hm
    have e : a = b := by
      rcases List.mem_cons.mp ((h a).mp (.head _)) with e | e
      · exact e
      · rcases List.mem_cons.mp ((h b).mpr (.head _)) with e2 | e2
        · exact e2.symm
        · have := m1.1 a e; have := l1.1 b e2; omega
    subst e
    rw [sorted_eq l1.2 m1.2 fun x => ⟨fun hx => ?_, fun hx => ?_⟩]
    · rcases List.mem_cons.mp ((h x).mp (.tail _ hx)) with e | e
      · subst e; have := l1.1 x hx; omega
      · exact e
    · rcases List.mem_cons.mp ((h x).mpr (.tail _ hx)) with e | e
      · subst e; have := m1.1 x hx; omega
      · exact e
theorem pls_unique {p : List Rw} (ok : PgOk p) {ns : List Int} (h1 : ns.Pairwise (· < ·)) (h2 : ∀ k : Int, k ∈ ns ↔ k ∈ p.filterMap lds) : ns = pls p := by
  refine sorted_eq h1 (filt_lt _ 400).1 fun x => ?_
  rw [h2, mem_pls ok, List.mem_filterMap]
section
variable {w : World} {K : PySem.W.Frag} {mg : Str → Option Value} {base : Heap}
/-- a new list -/
def givesL (H : Hp) (Q : VK) (xs : List V) : Prop := ∀ H' a, Same H H' → H a = none → H' a = some (.lst xs) → Q (.ref a) H'
theorem getlist {vs : List V} {p : List Rw} {H : Hp} (pr : Paired (RwAt K H) vs p) {i : Nat} {v : V} (h : vs[i]? = some v) : ∃ r, p[i]? = some r ∧ RwAt K H v r := Paired.at1 pr h
theorem fm_range {α β : Type} (f : α → Option β) (l : List α) : (List.range l.length).filterMap (fun i => (l[i]?).bind f) = l.filterMap f := by
  induction l with
  | nil => rfl
  | cons a l ih =>
    rw [List.length_cons, List.range_succ_eq_map, List.filterMap_cons, List.filterMap_map]
    have : (List.range l.length).filterMap ((fun i => ((a :: l)[i]?).bind f) ∘ Nat.succ) = l.filterMap f := by
      rw [← ih]
      rfl
    rw [this, List.filterMap_cons]
    rfl
theorem sc_places_named : FnScope ["program", "row"] ["program"] (defScope s_places_named) := ⟨rfl, rfl, rfl, by decide +kernel, rfl, by decide +kernel, by decide +kernel⟩
def sp_places (K : PySem.W.Frag) : Sp := fun vs H Q _ => ∃ v p, vs = [v] ∧ PgAt K H v p ∧ PgOk p ∧ p.length < 64 ∧ givesL H Q ((pls p).map V.int)
theorem G_places_named (T : Tx w K mg) : Kn PP w K mg base 3 (He.ga K "places_named") ["program"] (sp_places K) := by
  have G_leads := G_leads (base := base) T
  refine kn_of T.d_places_named sc_places_named (fun _ _ _ _ _ _ us hl => match us, hl with | [_], _ => rfl) (fun vs H Q E h => ?_) fun cdv A outer s H vs Q E hr h => ?_
  · obtain ⟨v, p, rfl, _⟩ := h; rfl
  · obtain ⟨_, p, rfl, ⟨a, vs, rfl, ha, pr⟩, ok, few, q⟩ := h
    have hl := Paired.length pr
    refine ⟨_, (pss_one (ps_ret (pe_callB (cr_sortedSet rfl) (by rfl) T.f_sorted (by decide +kernel) (pa_cons (pe_callTy (cr_setOfI rfl) (by rfl) T.f_set (by decide +kernel) (pa_cons (pe_lc (own := [("row", 1)]) (g := gName 1) rfl sc_places_named.nd (pi_tup (pv 0)) (blkOk_by (own := [("row", 1)]) (N := ["program", "row"]) (sc := defScope s_places_named) (by decide +kernel)) (fun _ _ _ _ _ => (pg_name (i := 1) sc_places_named.nd rfl (Or.inl rfl))) (fun _ _ _ _ _ => pts_one (pt_cmpR op_notN (pe_kn G_leads (hr.mono (by decide)) (by rfl) T.g_leads (pa_cons (pv 1) pa_nil)) pe_non (nomark _))) (fun _ _ _ _ _ => (pe_kn G_leads (hr.mono (by decide)) (by rfl) T.g_leads (pa_cons (pv 1) pa_nil)))) pa_nil)) pa_nil)))), ?_⟩
    refine ⟨_, rfl, a, rfl, ⟨_, ha⟩, fun D hD => ?_⟩
    refine lc_pure (G := fun H' => SqT K H' a vs) walk_tup (fun i => (p[i]?).bind lds) (fun v x _ => v = .int x) (fun _ _ _ _ h _ => h) (fun _ _ _ _ _ _ h _ => h) (by omega) hD (fun H' s => tl_same s _ _ ha) ?_ ?_
    · rintro i x H3 H4 Qe Qn hi s ⟨rfl, e⟩ qe qn
      obtain ⟨r, hr1, hv⟩ := Paired.at1 pr e
      have rk := ok.row i r hr1
      refine ⟨rfl, _, rfl, x, r, rfl, hv.same s, rk, fun H5 s5 => ⟨rfl, _, rfl, ?_⟩⟩
      cases el : lds r with
      | none => exact iteF (qn _ s5 (by rw [hr1]; exact el))
      | some z =>
        refine iteT ⟨_, rfl, x, r, rfl, (hv.same s).same s5, rk, fun H6 s6 => ?_⟩
        rw [el]
        exact qe _ _ z (s5.trans s6) (by rw [hr1]; exact el) rfl
    · intro H1 acc s1 hl1 pr1
      rw [paired_map pr1, hl, fm_range] at hl1
      have l2 : (p.filterMap lds).length ≤ p.length := List.length_filterMap_le _ _
      refine ⟨D, p.filterMap lds, rfl, sq_lst hl1, by omega, fun b n hb hn => ⟨b, _, n, rfl, upd_same, by omega, fun ns c h1 h2 h3 h4 => ?_⟩⟩
      rw [pls_unique ok h1 fun k => by rw [h2]; simp]
      refine q _ c ((s1.trans (same_new hb)).trans (same_new h4)) ?_ upd_same
      cases e : H c with
      | none => rfl
      | some o => rw [same_new hb _ _ (s1 c o e)] at h4; cases h4
theorem sc_boxes_named : FnScope ["program", "found", "row", "box"] ["program"] (defScope s_boxes_named) := ⟨rfl, rfl, rfl, by decide +kernel, rfl, by decide +kernel, by decide +kernel⟩
def dset (kvs : List (Key × V)) (b : Int) : Bool := (valV kvs (Sum.inl b)).isSome
theorem dset_put (kvs : List (Key × V)) (a b : Int) (v : V) : dset (putK kvs (Sum.inl a) v) b = (decide (b = a) || dset kvs b) := by
  unfold dset
  rw [valV_put]
  by_cases e : b = a
  · subst e; simp
  · have : ¬ (Sum.inl b : Key) = Sum.inl a := fun z => e (by injection z)
    simp [this, e]
theorem dset_merge : ∀ (ns : List Int) (kvs : List (Key × V)) (b : Int), dset (mergeK kvs (ns.map fun n => (Sum.inl n, V.bl true))) b = (ns.contains b || dset kvs b)
  | [], kvs, b => by simp [mergeK]
  | n :: ns, kvs, b => by
    have := dset_merge ns (putK kvs (Sum.inl n) (V.bl true)) b
    unfold mergeK at this ⊢
    rw [List.map_cons, List.foldl_cons, this, dset_put, List.contains_cons]
    by_cases e : b = n
    · subst e; simp
    · have h : (b == n) = false := by simpa using e
      simp [h, e]
def sp_boxes_named (K : PySem.W.Frag) : Sp := fun vs H Q _ => ∃ v p, vs = [v] ∧ PgAt K H v p ∧ PgOk p ∧ givesL H Q ((bxs p).map V.int)
theorem G_boxes_named (T : Tx w K mg) : Kn PP w K mg base 3 (He.ga K "boxes_named") ["program"] (sp_boxes_named K) := by
  have G_reads := G_reads (base := base) T
  have G_sets := G_sets (base := base) T
  refine kn_of T.d_boxes_named sc_boxes_named (fun _ _ _ _ _ _ us hl => match us, hl with | [_], _ => rfl) (fun vs H Q E h => ?_) fun cdv A outer s H vs Q E hr h => ?_
  · obtain ⟨v, p, rfl, _⟩ := h; rfl
  · obtain ⟨_, p, rfl, ⟨a, vs, rfl, ha, pr⟩, ok, q⟩ := h
    have hl := Paired.length pr
    have hi := ok.hi
    refine ⟨_, (pss_cons (ps_set (i := 1) sc_boxes_named.nd rfl (Or.inr rfl) pe_dnewK)
      (pss_cons (ps_for PassesOwn.never rfl (pi_tup (pv 0)) (pg_name (i := 2) sc_boxes_named.nd rfl (Or.inl rfl))
        (pss_cons (ps_expr (pe_bm PySem.F.plainAttrs_dict PySem.F.slot_dict_update PySem.F.type_dict_update (mt_dupd rfl) (pv 1) (pa_cons (pe_lc (own := [("box", 3)]) (g := gName 3) rfl sc_boxes_named.nd (pi_tup (pe_kn G_reads (hr.mono (by decide)) (by rfl) T.g_reads (pa_cons (pv 2) pa_nil))) (blkOk_by (own := [("box", 3)]) (N := ["program", "found", "row", "box"]) (sc := defScope s_boxes_named) (by decide +kernel)) (fun _ _ _ _ _ => (pg_name (i := 3) sc_boxes_named.nd rfl (Or.inl rfl))) (fun _ _ _ _ _ => pts_nil) (fun _ _ _ _ _ => (pe_tup (pa_cons (pv 3) (pa_cons pe_bl pa_nil))))) pa_nil)))
        (pss_one (ps_if (pt_cmpR op_notN (pe_kn G_sets (hr.mono (by decide)) (by rfl) T.g_sets (pa_cons (pv 2) pa_nil)) pe_non (nomark _))
          (pss_one (ps_dput (hu_of hr) (pv 1) (pe_kn G_sets (hr.mono (by decide)) (by rfl) T.g_sets (pa_cons (pv 2) pa_nil)) pe_bl rfl))
          pss_nil))))
      (pss_one (ps_ret (pe_lc (own := [("box", 3)]) (g := gName 3) rfl sc_boxes_named.nd (pi_range1 (by rfl) T.f_range (pa_cons (pe_gx (by rfl) T.i_MANY_BOXES) pa_nil)) (blkOk_by (own := [("box", 3)]) (N := ["program", "found", "row", "box"]) (sc := defScope s_boxes_named) (by decide +kernel)) (fun _ _ _ _ _ => (pg_name (i := 3) sc_boxes_named.nd rfl (Or.inl rfl))) (fun _ _ _ _ _ => pts_one (pt_cmp (pc_din (hu_of hr) (pv 3) (pv 1)) rfl)) (fun _ _ _ _ _ => (pv 3))))))), ?_⟩
    refine fun d hd => ?_
    have ha0 := tl_same (same_new (o := .dK []) hd) _ _ ha
    have sz : 10000 ≤ sizeLine := by decide
    refine ⟨_, rfl, a, rfl, ⟨_, ha0⟩, ?_⟩
    refine for_it walk_tup (fun i σ H1 => ∃ x, σ = [some (.ref a), some (.ref d), x, none] ∧ Same H H1 ∧ ∃ kvs, H1 d = some (.dK kvs) ∧ kvs.length ≤ 7 * i ∧ ∀ b, dset kvs b = (p.take i).any fun r => nmB r b)
      ⟨none, rfl, same_new hd, [], upd_same, Nat.zero_le _, fun b => by simp [dset, valV_nil]⟩ (fun i σ H1 _ h => by obtain ⟨_, _, s1, _⟩ := h; exact tl_same s1 _ _ ha) ?_ ?_
    · rintro i x σ H1 H2 hi2 ⟨x0, rfl, s1, kvs, hd1, hk, hb⟩ ⟨rfl, e⟩
      obtain ⟨r, hr1, hv⟩ := Paired.at1 pr e
      have rk := ok.row i r hr1
      have hv1 := hv.same s1
      have hi2 : i < vs.length := hi2
      have r6 : (rds r).length ≤ 6 := parts_len rk
      have fr : ∀ {H' : Hp} {o : HO}, Same H H' → Same H (upd H' d o) := fun s b u e2 => by rw [upd_ne (ne_of_none e2 hd)]; exact s b u e2
      refine ⟨_, rfl, .inr (.inr (.inl ⟨rfl, .inl ⟨_, hd1⟩⟩)), ?_⟩
      refine ⟨_, rfl, x, r, rfl, hv1, rk, fun H3 t s3 ht => ?_⟩
      refine ⟨t, rfl, ⟨_, sq_tup ht⟩, fun D hD => ?_⟩
      refine lc_all (G := fun H' => SqT K H' t ((rds r).map V.int)) walk_tup (fun i => (rds r).getD i 0) (fun v n H' => ∃ q, v = .ref q ∧ H' q = some (.tup [.int n, .bl true])) (fun v n H' H'' h s => by obtain ⟨q, e, h⟩ := h; exact ⟨q, e, s _ _ h⟩) (fun v n H' l xs zs h hl => by obtain ⟨q, e, h⟩ := h; exact ⟨q, e, by rw [upd_ne (ne_of h hl (by intro z; cases z))]; exact h⟩) (by rw [List.length_map]; omega) hD (fun H' s => tl_same s _ _ (sq_tup ht)) ?_ ?_
      · rintro j y H4 H5 Qe hj s4 ⟨rfl, e4⟩ qe
        rw [List.getElem?_map] at e4
        obtain ⟨z, e5, rfl⟩ := Option.map_eq_some_iff.mp e4
        refine ⟨rfl, _, rfl, by show 2 ≤ sizeLine; decide, fun q2 hq2 => ?_⟩
        exact qe _ _ (same_new hq2) ⟨q2, rfl, by rw [List.getD_eq_getElem?_getD, e5]; exact upd_same⟩
      · intro H4 acc s4 hl4 pr4
        rw [List.length_map, show (List.range (rds r).length).map (fun i => (rds r).getD i 0) = rds r by
          refine List.ext_getElem? fun i => ?_
          rw [List.getElem?_map]
          rcases Nat.lt_or_ge i (rds r).length with h | h
          · rw [List.getElem?_range h, List.getElem?_eq_getElem h]
            simp [List.getD_eq_getElem?_getD, h]
          · rw [List.getElem?_eq_none (by simpa using h), List.getElem?_eq_none h]; rfl] at pr4
        obtain ⟨ps, rfl, pp⟩ : ∃ ps : List Addr, acc = ps.map V.ref ∧ Paired (fun q (kv : Key × V) => H4 q = some (.tup [kV kv.1, kv.2])) ps ((rds r).map fun n => (Sum.inl n, V.bl true)) := by
          clear hl4
          revert pr4
          generalize rds r = ns
          intro pr4
          induction pr4 with
          | nil => exact ⟨[], rfl, .nil⟩
          | cons h t ih =>
            obtain ⟨q, e, h⟩ := h
            obtain ⟨ps, e2, pp⟩ := ih
            exact ⟨q :: ps, by rw [e, e2]; rfl, .cons h pp⟩
        have s14 := s3.trans s4
        have hd4 := s14 _ _ hd1
        refine ⟨d, D, ps, _, kvs, rfl, rfl, hd4, hl4, pp, by rw [List.length_map]; omega, ?_⟩
        have hb5 := fun b => dset_merge (rds r) kvs b
        have hk5 : (mergeK kvs ((rds r).map fun n => (Sum.inl n, V.bl true))).length ≤ 7 * i + 6 := Nat.le_trans (length_mergeK _ _) (by rw [List.length_map]; omega)
        generalize mergeK kvs ((rds r).map fun n => (Sum.inl n, V.bl true)) = kv5 at hb5 hk5
        have s5 : Same H (upd H4 d (.dK kv5)) := fr (s1.trans s14)
        have hd5 : (upd H4 d (.dK kv5)) d = some (.dK kv5) := upd_same
        generalize upd H4 d (.dK kv5) = H5 at s5 hd5
        refine ⟨_, rfl, x, r, rfl, hv.same s5, rk, fun H6 s6 => ⟨rfl, _, rfl, ?_⟩⟩
        have hd6 := s6 _ _ hd5
        have s06 := s5.trans s6
        have tk : ∀ b, (p.take (i + 1)).any (fun r => nmB r b) = ((p.take i).any (fun r => nmB r b) || nmB r b) := fun b => by
          rw [List.take_add_one, hr1, List.any_append]
          simp
        cases es : sts r with
        | none =>
          refine iteF ⟨_, rfl, s06, kv5, hd6, by omega, fun b => ?_⟩
          rw [hb5, tk, hb]
          unfold nmB
          rw [es]
          simp [Bool.or_comm]
        | some z =>
          refine iteT ⟨_, rfl, _, rfl, x, r, rfl, hv.same s06, rk, fun H7 s7 => ?_⟩
          rw [es]
          have hd7 := s7 _ _ hd6
          refine ⟨d, _, rfl, DPut.k (k := Sum.inl z) hd7 (by omega), ⟨_, rfl, fr (s06.trans s7), _, upd_same, by have := length_putK kv5 (Sum.inl z : Key) (V.bl true); omega, fun b => ?_⟩⟩
          rw [dset_put, hb5, tk, hb]
          unfold nmB
          rw [es]
          by_cases e : b = z
          · subst e; simp
          · have h1 : (some z == some b) = false := by simpa using fun h => e h.symm
            simp [h1, e, Bool.or_comm]
    · rintro σ H1 ⟨x0, rfl, s1, kvs, hd1, hk, hb⟩
      refine ⟨32, rfl, by decide, by decide, fun D hD => ?_⟩
      refine lc_pure (G := fun _ => True) walk_range (fun i => if p.any (fun r => nmB r (i : Nat)) then some ((i : Nat) : Int) else none) (fun v x _ => v = .int x) (fun _ _ _ _ h _ => h) (fun _ _ _ _ _ _ h _ => h) (by decide) hD (fun _ _ => trivial) ?_ ?_
      · rintro i x H3 H4 Qe Qn hi s ⟨rfl, rfl⟩ qe qn
        have hd3 := s _ _ hd1
        refine ⟨rfl, _, rfl, _, rfl, d, _, rfl, DGet.k (k := Sum.inl ((0 : Int) + (i : Nat))) hd3, ?_⟩
        have hq : (valV kvs (Sum.inl ((0 : Int) + (i : Nat)))).isSome = p.any fun r => nmB r (i : Nat) := by
          have h := hb ((0 : Int) + (i : Nat))
          rw [hl, List.take_length, Int.zero_add] at h
          rw [Int.zero_add]
          exact h
        rw [hq]
        refine ⟨_, rfl, ite2 (fun e => ?_) (fun e => ?_)⟩
        · refine ⟨_, rfl, qe _ _ ((i : Nat) : Int) (fun _ _ h => h) (if_pos e) (congrArg V.int (Int.zero_add _))⟩
        · exact qn _ (fun _ _ h => h) (if_neg e)
      · intro H3 acc s3 hl3 pr3
        rw [paired_map pr3] at hl3
        have : H D = none := by cases e : H D with | none => rfl | some o => rw [s1 _ _ e] at hD; cases hD
        exact q _ D (s1.trans s3) this hl3
end

end Sw
/-! SwD16 -/
namespace Sw
set_option Elab.async false
set_option linter.all false
set_option maxRecDepth 100000
set_option maxHeartbeats 4000000
open PySem PySem.Spec PyProof.Rows L2
/-! ### slips -/
inductive SlOk (p : List Rw) : Rw → Prop
  | box (b x z : Int) (b0 : 0 ≤ b) (b1 : b ≤ 5000) (x0 : 0 ≤ x) (x1 : x ≤ 31) (z0 : 0 ≤ z) (z1 : z ≤ 15) : SlOk p ("box", [b, x, z])
  | way (b a : Int) (b0 : 0 ≤ b) (b1 : b ≤ 5000) (h : a ∈ pls p) : SlOk p ("way", [b, a])
theorem pls_lt {p : List Rw} (ok : PgOk p) {a : Int} (h : a ∈ pls p) : 0 ≤ a ∧ a < p.length := by
  obtain ⟨r, hr, e⟩ := (mem_pls ok a).mp h
  obtain ⟨i, hi⟩ := List.getElem?_of_mem hr
  exact ⟨((filt_lt _ 400).2 a h).1, ok.way i r a hi e⟩
def beatW (p : List Rw) (inp : List Int) (s : Rw) (st : MS) : MS :=
  if s.1 = "box" then bt p inp (if st.done = s.2.getD 0 0 then { st with words := putI st.words (s.2.getD 1 0) (s.2.getD 2 0) } else st)
  else if st.done = s.2.getD 0 0 ∧ isWay (rowAt p st.at_) = true ∧ (bt p inp st).over = none then { bt p inp st with at_ := s.2.getD 1 0 } else bt p inp st
def itw (p : List Rw) (inp : List Int) (s : Rw) : Nat → MS → MS
  | 0, st => st
  | n + 1, st => if st.over = none then itw p inp s n (beatW p inp s st) else st
def goW (p : List Rw) (inp : List Int) (s : Rw) (most : Int) (st : MS) : MS := itw p inp s (most - st.done).toNat st
section
variable {p : List Rw} {inp : List Int} {st : MS} {s : Rw}
theorem good_w (g : Good p st) {l : List Int} (h : Wds 32 l) : Good p { st with words := l } := { g with words := h }
theorem good_beatW (g : Good p st) (ok : PgOk p) (hi : InOk inp) (h : SlOk p s) : Good p (beatW p inp s st) := by
  cases h with
  | box b x z b0 b1 x0 x1 z0 z1 =>
    unfold beatW
    rw [if_pos rfl]
    refine good_bt ?_ ok hi
    split
    · exact good_w g (g.words.put z0 z1)
    · exact g
  | way b a b0 b1 h =>
    unfold beatW
    rw [if_neg (show ¬ ("way" : Str) = "box" by decide)]
    have g2 := good_bt g ok hi
    split
    · obtain ⟨a0, a1⟩ := pls_lt ok h
      exact { g2 with at0 := a0, at1 := a1 }
    · exact g2
theorem beatW_done (h : st.over = none) : (beatW p inp s st).done = st.done + 1 := by
  unfold beatW
  split
  · split
    · exact bt_done h
    · exact bt_done h
  · split
    · exact bt_done h
    · exact bt_done h
end
section
variable {w : World} {K : PySem.W.Frag} {mg : Str → Option Value} {base : Heap}
theorem flat_int : ∀ l : List Int, (l.map V.int).all flatV = true
  | [] => rfl
  | z :: l => by rw [List.map_cons, List.all_cons, flat_int l]; rfl
theorem Mch.kind {H : Hp} {m : Addr} {p : List Rw} {inp : List Int} {st : MS} {fp : List Addr} (h : Mch K H m p inp st fp) : ∀ b ∈ fp, (∃ C dx fs, H b = some (.ins C dx fs)) ∨ ∃ xs, H b = some (.lst xs) := by
  obtain ⟨va, vi, dm, lw, ls, ld, lt, xs, rfl, h⟩ := h
  intro b hb
  simp only [List.mem_cons] at hb
  rcases hb with e | e | e | e | e | e
  · subst e; exact .inl ⟨_, _, _, h.o⟩
  · subst e; exact .inr ⟨_, h.w⟩
  · subst e; exact .inr ⟨_, h.s⟩
  · subst e; exact .inr ⟨_, h.d⟩
  · subst e; exact .inr ⟨_, h.t⟩
  · obtain ⟨_, _, _, _, q, _⟩ := stos_at h.sts b e
    exact .inl ⟨_, _, _, q⟩
theorem tl_frm {H H' : Hp} {m : Addr} {p : List Rw} {inp : List Int} {st : MS} {fp : List Addr} (h : Mch K H m p inp st fp) (f : Frm fp H H') : Tl K H H' := fun a xs q => by
  have no : ∀ o, H a = some o → (∃ ys, o = .tup ys) ∨ (∃ u ys, o = .frz u (.tup ys)) → H' a = some o := fun o e k => f a o e fun hm => by
    rcases h.kind a hm with ⟨C, dx, fs, z⟩ | ⟨ys, z⟩
    · rw [e] at z; injection z with z; subst z
      rcases k with ⟨_, k⟩ | ⟨_, _, k⟩ <;> cases k
    · rw [e] at z; injection z with z; subst z
      rcases k with ⟨_, k⟩ | ⟨_, _, k⟩ <;> cases k
  rcases q with (q | ⟨u, q⟩) | q
  · exact .inl (.inl (no _ q (.inl ⟨_, rfl⟩)))
  · exact .inl (.inr ⟨u, no _ q (.inr ⟨_, _, rfl⟩)⟩)
  · exact .inr q
theorem sc_is_slip : FnScope ["program", "thing"] ["program", "thing"] (defScope s_is_slip) := ⟨rfl, rfl, rfl, by decide +kernel, rfl, by decide +kernel, by decide +kernel⟩
def sp_is_slip (K : PySem.W.Frag) : Sp := fun vs H Q _ => ∃ v u p s, vs = [v, u] ∧ PgAt K H v p ∧ PgOk p ∧ p.length < 64 ∧ RwAt K H u s ∧ SlOk p s ∧ ∀ H', Same H H' → Q (.bl true) H'
theorem G_is_slip (T : Tx w K mg) : Kn PP w K mg base 4 (He.ga K "is_slip") ["program", "thing"] (sp_is_slip K) := by
  have G_is_among := G_is_among (base := base) T
  have G_is_box := G_is_box (base := base) T
  have G_is_word := G_is_word (base := base) T
  have G_places_named := G_places_named (base := base) T
  refine kn_of T.d_is_slip sc_is_slip (fun _ _ _ _ _ _ us hl => match us, hl with | [_, _], _ => rfl) (fun vs H Q E h => ?_) fun cdv A outer s H vs Q E hr h => ?_
  · obtain ⟨v, u, p, s, rfl, _⟩ := h; rfl
  · obtain ⟨v, u, p, s, rfl, hp, ok, few, ⟨a, rfl, ha⟩, sok, q⟩ := h
    refine ⟨_, (pss_cons (ps_if (PW.pt (pw_or (pt_not (pt_val (pe_callB call_isi (by rfl) T.f_isinstance (by decide +kernel) (pa_cons (pv 1) (pa_cons (pe_bltn (v := .ty "tuple") (by rfl) T.f_tuple (by decide +kernel) rfl) pa_nil))))) (pw_or (pt_cmpR op_lt (pe_callB call_len_seq (by rfl) T.f_len (by decide +kernel) (pa_cons (pv 1) pa_nil)) pe_int (nomark _)) (pw_or1 (pt_not (pt_val (pe_kn G_is_among (hr.mono (by decide)) (by rfl) T.g_is_among (pa_cons (pe_ix ix_tup (pv 1) pe_int (fun _ _ => rfl)) (pa_cons pe_int (pa_cons (pe_gx (by rfl) T.i_MOST_BEAT) pa_nil))))))))))
        (pss_one (ps_ret pe_bl))
        pss_nil)
      (pss_cons (ps_if (PW.pt (pw_and (pt_val (pe_callB call_isi (by rfl) T.f_isinstance (by decide +kernel) (pa_cons (pe_ix ix_tup (pv 1) pe_int (fun _ _ => rfl)) (pa_cons (pe_bltn (v := .ty "str") (by rfl) T.f_str (by decide +kernel) rfl) pa_nil)))) (pw_and1 (pt_cmpR op_eq (pe_ix ix_tup (pv 1) pe_int (fun _ _ => rfl)) pe_str (nomark _)))))
        (pss_one (ps_ret (pe_and (pe_cmpR op_eq (pe_callB call_len_seq (by rfl) T.f_len (by decide +kernel) (pa_cons (pv 1) pa_nil)) pe_int (nomark _)) (pe_and (pe_kn G_is_box (hr.mono (by decide)) (by rfl) T.g_is_box (pa_cons (pe_ix ix_tup (pv 1) pe_int (fun _ _ => rfl)) pa_nil)) (pe_one (pe_kn G_is_word (hr.mono (by decide)) (by rfl) T.g_is_word (pa_cons (pe_ix ix_tup (pv 1) pe_int (fun _ _ => rfl)) pa_nil)))))))
        pss_nil)
      (pss_cons (ps_if (PW.pt (pw_or (pt_not (pt_val (pe_callB call_isi (by rfl) T.f_isinstance (by decide +kernel) (pa_cons (pe_ix ix_tup (pv 1) pe_int (fun _ _ => rfl)) (pa_cons (pe_bltn (v := .ty "str") (by rfl) T.f_str (by decide +kernel) rfl) pa_nil))))) (pw_or (pt_cmpR op_ne (pe_ix ix_tup (pv 1) pe_int (fun _ _ => rfl)) pe_str (nomark _)) (pw_or1 (pt_cmpR op_ne (pe_callB call_len_seq (by rfl) T.f_len (by decide +kernel) (pa_cons (pv 1) pa_nil)) pe_int (nomark _))))))
        (pss_one (ps_ret pe_bl))
        pss_nil)
      (pss_one (ps_ret (pe_and (pe_kn G_is_among (hr.mono (by decide)) (by rfl) T.g_is_among (pa_cons (pe_ix ix_tup (pv 1) pe_int (fun _ _ => rfl)) (pa_cons pe_int (pa_cons (pe_op op_sub (pe_callB call_len_seq (by rfl) T.f_len (by decide +kernel) (pa_cons (pv 0) pa_nil)) pe_int) pa_nil)))) (pe_one (pe_cmpR op_in_seq (pe_ix ix_tup (pv 1) pe_int (fun _ _ => rfl)) (pe_kn G_places_named (hr.mono (by decide)) (by rfl) T.g_places_named (pa_cons (pv 0) pa_nil)) (by rfl))))))))), ?_⟩
    refine ⟨_, rfl, .ref a, .ty "tuple", .type "tuple", .type "tuple", true, rfl, .ty _, tyx_tup ha, by rfl, true, rfl, iteF ?_⟩
    refine ⟨_, rfl, a, _, rfl, .inr ha, _, _, rfl, rfl, _, rfl, ?_⟩
    cases sok with
    | box b x z b0 b1 x0 x1 z0 z1 =>
      refine iteF ⟨_, rfl, _, _, _, _, rfl, rfl, ha, atIn (x := V.int b) (by decide) rfl, _, _, _, rfl, true, by simp [b0, b1], iteF ?_⟩
      refine ⟨_, rfl, _, _, _, _, rfl, rfl, ha, atI0 _ _, .str "box", .ty "str", .type "str", .type "str", true, rfl, .ty _, .base (.str _), by rfl, true, rfl, iteT ?_⟩
      refine ⟨_, rfl, _, _, _, _, rfl, rfl, ha, atI0 _ _, rfl, _, rfl, iteT ?_⟩
      refine ⟨_, rfl, a, _, rfl, .inr ha, rfl, true, rfl, iteT ?_⟩
      refine ⟨_, rfl, _, _, _, _, rfl, rfl, ha, atIn (x := V.int x) (by decide) rfl, _, rfl, true, by simp [x0, x1], iteT ?_⟩
      refine ⟨_, rfl, _, _, _, _, rfl, rfl, ha, atIn (x := V.int z) (by decide) rfl, _, rfl, ?_⟩
      rw [show decide (0 ≤ z ∧ z ≤ 15) = true by simp [z0, z1]]
      exact q _ (fun _ _ h => h)
    | way b c b0 b1 hc =>
      refine iteF ⟨_, rfl, _, _, _, _, rfl, rfl, ha, atIn (x := V.int b) (by decide) rfl, _, _, _, rfl, true, by simp [b0, b1], iteF ?_⟩
      refine ⟨_, rfl, _, _, _, _, rfl, rfl, ha, atI0 _ _, .str "way", .ty "str", .type "str", .type "str", true, rfl, .ty _, .base (.str _), by rfl, true, rfl, iteT ?_⟩
      refine ⟨_, rfl, _, _, _, _, rfl, rfl, ha, atI0 _ _, rfl, _, rfl, iteF ?_⟩
      refine ⟨_, rfl, _, _, _, _, rfl, rfl, ha, atI0 _ _, .str "way", .ty "str", .type "str", .type "str", true, rfl, .ty _, .base (.str _), by rfl, true, rfl, iteF ?_⟩
      refine ⟨_, rfl, _, _, _, _, rfl, rfl, ha, atI0 _ _, rfl, _, rfl, iteF ?_⟩
      refine ⟨_, rfl, a, _, rfl, .inr ha, rfl, _, rfl, iteF ?_⟩
      obtain ⟨pa, vs, rfl, hpa, pr⟩ := hp
      have hl := Paired.length pr
      obtain ⟨c0, c1⟩ := pls_lt ok hc
      refine ⟨_, rfl, _, _, _, _, rfl, rfl, ha, atIn (x := V.int c) (by decide) rfl, _, rfl, pa, vs, rfl, .inr hpa, _, _, rfl, rfl, _, _, _, rfl, true, by simp; omega, iteT ?_⟩
      refine ⟨_, rfl, _, _, _, _, rfl, rfl, ha, atIn (x := V.int c) (by decide) rfl, _, rfl, _, p, rfl, ⟨pa, vs, rfl, hpa, pr⟩, ok, few, fun H1 l s1 _ hl1 => ?_⟩
      refine ⟨l, _, rfl, .inl (sq_lst hl1), rfl, flat_int _, ?_⟩
      rw [if_neg (by decide), inV_int, show (pls p).contains c = true by simpa using hc]
      exact q _ s1
theorem sc_beat_with : FnScope ["machine", "program", "slip", "is_now", "row"] ["machine", "program", "slip"] (defScope s_beat_with) := ⟨rfl, rfl, rfl, by decide +kernel, rfl, by decide +kernel, by decide +kernel⟩
def sp_beat_with (K : PySem.W.Frag) : Sp := fun vs H Q _ => ∃ m p inp st fp v u s, vs = [V.ref m, v, u] ∧ Mch K H m p inp st fp ∧ Good p st ∧ PgOk p ∧ InOk inp ∧ st.done < 150000 ∧ st.over = none ∧ PgAt K H v p ∧ RwAt K H u s ∧ SlOk p s ∧ Goes K H m p inp (beatW p inp s st) fp (Q .non)
theorem G_beat_with (T : Tx w K mg) : Kn PP w K mg base 5 (He.ga K "beat_with") ["machine", "program", "slip"] (sp_beat_with K) := by
  have G_Machine_beats := G_Machine_beats (base := base) T
  have G_Machine_slip := G_Machine_slip (base := base) T
  have G_Machine_place := G_Machine_place (base := base) T
  have G_Machine_beat := G_Machine_beat (base := base) T
  have G_Machine_end := G_Machine_end (base := base) T
  have G_Machine_lead := G_Machine_lead (base := base) T
  have G_is_way := G_is_way (base := base) T
  refine kn_of T.d_beat_with sc_beat_with (fun _ _ _ _ _ _ us hl => match us, hl with | [_, _, _], _ => rfl) (fun vs H Q E h => ?_) fun cdv A outer s H vs Q E hr h => ?_
  · obtain ⟨m, p, inp, st, fp, v, u, s, rfl, _⟩ := h; rfl
  · obtain ⟨m, p, inp, st, fp, v, u, s, rfl, hm, g, pok, iok, big, ho, hp, ⟨a, rfl, ha⟩, sok, q⟩ := h
    refine ⟨_, (pss_cons (ps_set (i := 3) sc_beat_with.nd rfl (Or.inl rfl) (pe_cmpR op_eq (pe_km0 (pv 0) T.c_Machine T.m_Machine_beats G_Machine_beats (hr.mono (by decide))) (pe_ix ix_tup (pv 2) pe_int (fun _ _ => rfl)) (nomark _)))
      (pss_cons (ps_if (PW.pt (pw_and (pt_val (pv 3)) (pw_and1 (pt_cmpR op_eq (pe_ix ix_tup (pv 2) pe_int (fun _ _ => rfl)) pe_str (nomark _)))))
        (pss_one (ps_expr (pe_km (pv 0) T.c_Machine T.m_Machine_slip G_Machine_slip (hr.mono (by decide)) (pa_cons (pe_ix ix_tup (pv 2) pe_int (fun _ _ => rfl)) (pa_cons (pe_ix ix_tup (pv 2) pe_int (fun _ _ => rfl)) pa_nil)))))
        pss_nil)
      (pss_cons (ps_set (i := 4) sc_beat_with.nd rfl (Or.inl rfl) (pe_ix ix_tup (pv 1) (pe_km0 (pv 0) T.c_Machine T.m_Machine_place G_Machine_place (hr.mono (by decide))) (fun _ _ => rfl)))
      (pss_cons (ps_expr (pe_km0 (pv 0) T.c_Machine T.m_Machine_beat G_Machine_beat (hr.mono (by decide))))
      (pss_one (ps_if (PW.pt (pw_and (pt_val (pv 3)) (pw_and (pt_cmpR op_eq (pe_ix ix_tup (pv 2) pe_int (fun _ _ => rfl)) pe_str (nomark _)) (pw_and (pt_val (pe_kn G_is_way (hr.mono (by decide)) (by rfl) T.g_is_way (pa_cons (pv 4) pa_nil))) (pw_and1 (pt_cmpR op_isN (pe_km0 (pv 0) T.c_Machine T.m_Machine_end G_Machine_end (hr.mono (by decide))) pe_non (nomark _)))))))
        (pss_one (ps_expr (pe_km (pv 0) T.c_Machine T.m_Machine_lead G_Machine_lead (hr.mono (by decide)) (pa_cons (pe_ix ix_tup (pv 2) pe_int (fun _ _ => rfl)) pa_nil))))
        pss_nil)))))), ?_⟩
    obtain ⟨dm, va, vi, lw, ls, ld, lt, o0⟩ := mch_o hm
    have s1i : ∃ b, (V.str s.1 :: s.2.map V.int)[1]? = some (V.int b) ∧ s.2.getD 0 0 = b := by
      cases sok with
      | box b x z => exact ⟨b, rfl, rfl⟩
      | way b c => exact ⟨b, rfl, rfl⟩
    obtain ⟨b, eb, eb2⟩ := s1i
    refine ⟨_, rfl, m, dm, _, rfl, o0, rfl, m, p, inp, st, fp, rfl, hm, _, rfl, _, _, _, _, rfl, rfl, ha, atIn (by decide) eb, rfl, ?_⟩
    rw [show decide (V.int st.done = V.int b) = decide (st.done = b) by simp]
    refine ⟨_, rfl, _, rfl, ?_⟩
    -- behind the beat
    have hrow : ∀ {H' : Hp}, PgAt K H' v p → ∃ pa vs ra, v = .ref pa ∧ SqT K H' pa vs ∧ atI vs st.at_ = some (.ref ra) ∧ SqT K H' ra (.str (rowAt p st.at_).1 :: (rowAt p st.at_).2.map V.int) := fun hp => by
      obtain ⟨pa, vs, e, hp, pr⟩ := hp
      obtain ⟨v, hv, ra, rfl, hr⟩ := Paired.at_ pr (rowAt_get g.at0 g.at1)
      exact ⟨pa, vs, ra, e, hp, atIn g.at0 hv, hr⟩
    cases sok with
    | box b' x z b0 b1 x0 x1 z0 z1 =>
      obtain rfl : b' = b := by simpa using eb2
      have q1 := q
      unfold beatW at q1
      rw [if_pos (show (("box" : Str), [b', x, z]).1 = "box" from rfl)] at q1
      refine ite2 (fun e => ?_) (fun e => ?_)
      · have e : st.done = b' := by simpa using e
        rw [if_pos (show st.done = (("box" : Str), [b', x, z]).2.getD 0 0 from e)] at q1
        refine ⟨_, rfl, _, _, _, _, rfl, rfl, ha, atI0 _ _, rfl, _, rfl, iteT ?_⟩
        refine ⟨_, rfl, m, dm, _, rfl, o0, rfl, _, rfl, _, _, _, _, rfl, rfl, ha, atIn (x := V.int x) (by decide) rfl, _, rfl, _, _, _, _, rfl, rfl, ha, atIn (x := V.int z) (by decide) rfl, m, p, inp, st, fp, x, z, rfl, hm, g.words.1, x0, x1, z0, z1, fun H1 fp1 hm1 f1 n1 => ?_⟩
        have t1 := tl_frm hm f1
        have g1 : Good p { st with words := putI st.words x z } := good_w g (g.words.put z0 z1)
        obtain ⟨dm1, va1, vi1, lw1, ls1, ld1, lt1, o1⟩ := mch_o hm1
        have hp1 := hp.tl t1
        obtain ⟨pa, vs, ra, rfl, hpa, hat, hra⟩ := hrow (H' := H1) hp1
        refine ⟨_, rfl, _, rfl, m, _, _, rfl, o1, rfl, m, p, inp, { st with words := putI st.words x z }, fp1, rfl, hm1, _, _, _, _, rfl, rfl, hpa, hat, ?_⟩
        refine ⟨_, rfl, m, _, _, rfl, o1, rfl, m, p, inp, { st with words := putI st.words x z }, fp1, rfl, hm1, g1, pok, iok, big, fun H2 fp2 hm2 f2 n2 => ?_⟩
        have t2 := t1.trans (tl_frm hm1 f2)
        have q2 := q1.of f1 n1
        refine ⟨_, rfl, _, rfl, ?_⟩
        rw [show decide (st.done = b') = true by simpa using e]
        refine iteT ⟨_, rfl, _, _, _, _, rfl, rfl, t2 _ _ ha, atI0 _ _, rfl, _, rfl, iteF ?_⟩
        exact q2 H2 fp2 hm2 f2 n2
      · have e : ¬ st.done = b' := by simpa using e
        rw [if_neg (show ¬ st.done = (("box" : Str), [b', x, z]).2.getD 0 0 from e)] at q1
        obtain ⟨pa, vs, ra, rfl, hpa, hat, hra⟩ := hrow (H' := H) hp
        refine ⟨_, rfl, _, rfl, m, _, _, rfl, o0, rfl, m, p, inp, st, fp, rfl, hm, _, _, _, _, rfl, rfl, hpa, hat, ?_⟩
        refine ⟨_, rfl, m, _, _, rfl, o0, rfl, m, p, inp, st, fp, rfl, hm, g, pok, iok, big, fun H2 fp2 hm2 f2 n2 => ?_⟩
        refine ⟨_, rfl, _, rfl, ?_⟩
        rw [show decide (st.done = b') = false by simpa using e]
        exact iteF (q1 H2 fp2 hm2 f2 n2)
    | way b' c b0 b1 hc =>
      obtain rfl : b' = b := by simpa using eb2
      have q1 := q
      unfold beatW at q1
      rw [if_neg (show ¬ (("way" : Str), [b', c]).1 = "box" by show ¬ ("way" : Str) = "box"; decide)] at q1
      have beh : ∀ {A : Prop} (_ : A), A := fun h => h
      have bd := @bt_done p inp st ho
      refine ite2 (fun e => ?_) (fun e => ?_)
      · have e : st.done = b' := by simpa using e
        refine ⟨_, rfl, _, _, _, _, rfl, rfl, ha, atI0 _ _, rfl, _, rfl, iteF ?_⟩
        obtain ⟨pa, vs, ra, rfl, hpa, hat, hra⟩ := hrow (H' := H) hp
        refine ⟨_, rfl, _, rfl, m, _, _, rfl, o0, rfl, m, p, inp, st, fp, rfl, hm, _, _, _, _, rfl, rfl, hpa, hat, ?_⟩
        refine ⟨_, rfl, m, _, _, rfl, o0, rfl, m, p, inp, st, fp, rfl, hm, g, pok, iok, big, fun H2 fp2 hm2 f2 n2 => ?_⟩
        have t2 := tl_frm hm f2
        obtain ⟨dm2, va2, vi2, lw2, ls2, ld2, lt2, o2⟩ := mch_o hm2
        refine ⟨_, rfl, _, rfl, ?_⟩
        rw [show decide (st.done = b') = true by simpa using e]
        refine iteT ⟨_, rfl, _, _, _, _, rfl, rfl, t2 _ _ ha, atI0 _ _, rfl, _, rfl, iteT ?_⟩
        refine ⟨_, rfl, _, rowAt p st.at_, rfl, ⟨ra, rfl, t2 _ _ hra⟩, _, rfl, ?_⟩
        refine ite2 (fun e3 => ?_) (fun e3 => ?_)
        · refine ⟨_, rfl, m, _, _, rfl, o2, rfl, m, p, inp, _, fp2, rfl, hm2, rfl, _, rfl, ?_⟩
          cases ho2 : (bt p inp st).over with
          | none =>
            rw [if_pos ⟨e, e3, ho2⟩] at q1
            obtain ⟨c0, c1⟩ := pls_lt pok hc
            refine iteT ⟨_, rfl, m, _, _, rfl, o2, rfl, _, rfl, _, _, _, _, rfl, rfl, t2 _ _ ha, atIn (x := V.int c) (by decide) rfl, m, p, inp, _, fp2, c, rfl, hm2, c0, c1, ?_⟩
            exact q1.of f2 n2
          | some y =>
            rw [if_neg (fun z => by rw [ho2] at z; exact absurd z.2.2 (by simp))] at q1
            exact iteF (q1 H2 fp2 hm2 f2 n2)
        · rw [if_neg (fun z => e3 z.2.1)] at q1
          exact q1 H2 fp2 hm2 f2 n2
      · have e : ¬ st.done = b' := by simpa using e
        obtain ⟨pa, vs, ra, rfl, hpa, hat, hra⟩ := hrow (H' := H) hp
        refine ⟨_, rfl, _, rfl, m, _, _, rfl, o0, rfl, m, p, inp, st, fp, rfl, hm, _, _, _, _, rfl, rfl, hpa, hat, ?_⟩
        refine ⟨_, rfl, m, _, _, rfl, o0, rfl, m, p, inp, st, fp, rfl, hm, g, pok, iok, big, fun H2 fp2 hm2 f2 n2 => ?_⟩
        refine ⟨_, rfl, _, rfl, ?_⟩
        rw [show decide (st.done = b') = false by simpa using e]
        rw [if_neg (fun z => e z.1)] at q1
        exact iteF (q1 H2 fp2 hm2 f2 n2)
end

end Sw
/-! SwD17 -/
namespace Sw
set_option Elab.async false
set_option linter.all false
set_option maxRecDepth 100000
set_option maxHeartbeats 4000000
open PySem PySem.Spec PyProof.Rows L2
section
variable {p : List Rw} {inp : List Int}
theorem itw_succ (s : Rw) (n : Nat) (st : MS) : itw p inp s (n + 1) st = if st.over = none then itw p inp s n (beatW p inp s st) else st := rfl
theorem itb_succ : ∀ (n : Nat) (st : MS), itb p inp (n + 1) st = bt p inp (itb p inp n st)
  | 0, st => rfl
  | n + 1, st => itb_succ n (bt p inp st)
/-- the right run ends by itself at its N-th beat -/
structure RunOk (p : List Rw) (inp : List Int) (N : Nat) : Prop where
  over : (itb p inp N ms0).over = some ("end" : Str)
  none : ∀ k, k < N → (itb p inp k ms0).over = none
theorem run_done {N : Nat} (r : RunOk p inp N) : ∀ k, k ≤ N → (itb p inp k ms0).done = k
  | 0, _ => rfl
  | k + 1, h => by
    rw [itb_succ, bt_done (r.none k h), run_done r k (Nat.le_of_lt h)]
    rfl
theorem run_pos {N : Nat} (r : RunOk p inp N) : 1 ≤ N := by
  rcases N with _ | N
  · have := r.over
    cases this
  · omega
theorem itb_add (a b : Nat) (st : MS) : itb p inp (a + b) st = itb p inp b (itb p inp a st) := by
  induction a generalizing st with
  | zero => rw [Nat.zero_add]; rfl
  | succ a ih => rw [show a + 1 + b = (a + b) + 1 by omega]; exact ih _
theorem run_stay {N : Nat} (r : RunOk p inp N) {m : Nat} (h : N ≤ m) : itb p inp m ms0 = itb p inp N ms0 := by
  rw [show m = N + (m - N) by omega, itb_add, itb_over (by rw [r.over]; simp)]
/-- the stands of the right run -/
def stL (p : List Rw) (inp : List Int) (N : Nat) : List MS := (List.range (N + 1)).map fun k => itb p inp k ms0
theorem stL_succ (N : Nat) : stL p inp (N + 1) = stL p inp N ++ [itb p inp (N + 1) ms0] := by
  unfold stL
  rw [List.range_succ, List.map_append]
  rfl
end
section
variable {w : World} {K : PySem.W.Frag} {mg : Str → Option Value} {base : Heap}
theorem sc_go_with : FnScope ["machine", "program", "slip", "most"] ["machine", "program", "slip", "most"] (defScope s_go_with) := ⟨rfl, rfl, rfl, by decide +kernel, rfl, by decide +kernel, by decide +kernel⟩
def sp_go_with (K : PySem.W.Frag) : Sp := fun vs H Q _ => ∃ m p inp st fp v u s most, vs = [V.ref m, v, u, .int most] ∧ Mch K H m p inp st fp ∧ Good p st ∧ PgOk p ∧ InOk inp ∧ PgAt K H v p ∧ RwAt K H u s ∧ SlOk p s ∧ most ≤ 100000 ∧
  ∀ H' v, Frm fp H H' → OcAt K H' v (outc (goW p inp s most st)) → Q v H'
theorem G_go_with (T : Tx w K mg) : Kn PP w K mg base 6 (He.ga K "go_with") ["machine", "program", "slip", "most"] (sp_go_with K) := by
  have G_Machine_beats := G_Machine_beats (base := base) T
  have G_Machine_end := G_Machine_end (base := base) T
  have G_beat_with := G_beat_with (base := base) T
  have G_outcome_of := G_outcome_of (base := base) T
  refine kn_of T.d_go_with sc_go_with (fun _ _ _ _ _ _ us hl => match us, hl with | [_, _, _, _], _ => rfl) (fun vs H Q E h => ?_) fun cdv A outer s H vs Q E hr h => ?_
  · obtain ⟨m, p, inp, st, fp, v, u, s, most, rfl, _⟩ := h; rfl
  · obtain ⟨m, p, inp, st0, fp0, v, u, sl, most, rfl, hm0, g0, pok, iok, hp, hu, sok, m1, q⟩ := h
    refine ⟨_, (pss_cons (ps_while PassesOwn.never (PW.pt (pw_and (pt_cmpR op_lt (pe_km0 (pv 0) T.c_Machine T.m_Machine_beats G_Machine_beats (hr.mono (by decide))) (pv 3) (nomark _)) (pw_and1 (pt_cmpR op_isN (pe_km0 (pv 0) T.c_Machine T.m_Machine_end G_Machine_end (hr.mono (by decide))) pe_non (nomark _)))))
        (pss_one (ps_expr (pe_kn G_beat_with (hr.mono (by decide)) (by rfl) T.g_beat_with (pa_cons (pv 0) (pa_cons (pv 1) (pa_cons (pv 2) pa_nil)))))))
      (pss_one (ps_ret (pe_kn G_outcome_of (hr.mono (by decide)) (by rfl) T.g_outcome_of (pa_cons (pv 0) pa_nil))))), ?_⟩
    have q0 : ∀ H' v, Frm fp0 H H' → OcAt K H' v (outc (goW p inp sl most st0)) → Q v H' := q
    refine ⟨fun k σ H' => ∃ st fp, σ = [some (.ref m), some v, some u, some (.int most)] ∧ Mch K H' m p inp st fp ∧ Frm fp0 H H' ∧ Nw fp0 fp H ∧ Good p st ∧ Tl K H H' ∧ k = (most - st.done).toNat ∧ itw p inp sl (most - st.done).toNat st = goW p inp sl most st0,
      ⟨_, st0, fp0, rfl, hm0, Frm.refl _ _, Nw.refl _ _, g0, Tl.refl H, rfl, rfl⟩, ?_⟩
    rintro k σ H2 ⟨st, fp, rfl, hm, f2, nw2, g, t2, rfl, eq⟩
    obtain ⟨dm, va, vi', lw, ls, ld, lt, ho⟩ := mch_o hm
    refine ⟨_, rfl, m, dm, _, rfl, ho, rfl, m, p, inp, st, fp, rfl, hm, _, rfl, _, _, rfl, rfl, _, rfl, ?_⟩
    refine ite2 (fun e => ?_) (fun e => ?_)
    · have e : st.done < most := by simpa using e
      refine ⟨_, rfl, m, dm, _, rfl, ho, rfl, m, p, inp, st, fp, rfl, hm, rfl, _, rfl, ?_⟩
      cases eo : st.over with
      | none =>
        refine iteT ⟨_, fun σ' H' z => z, ?_⟩
        refine ⟨_, rfl, _, rfl, _, rfl, m, p, inp, st, fp, v, u, sl, rfl, hm, g, pok, iok, by omega, eo, hp.tl t2, hu.tl t2, sok, fun H3 fp3 hm3 f3 n3 => ?_⟩
        have ed := @beatW_done p inp st sl eo
        refine ⟨(most - (st.done + 1)).toNat, by omega, beatW p inp sl st, fp3, rfl, hm3, f2.trans f3 nw2, nw2.trans n3 f2, good_beatW g pok iok sok, t2.trans (tl_frm hm f3), by rw [ed], ?_⟩
        rw [← eq, ed, show (most - st.done).toNat = (most - (st.done + 1)).toNat + 1 by omega]
        rw [itw_succ, if_pos eo]
      | some y =>
        refine iteF ?_
        rw [show itw p inp sl (most - st.done).toNat st = st by
          cases (most - st.done).toNat with
          | zero => rfl
          | succ n => rw [itw_succ, if_neg (by rw [eo]; simp)]] at eq
        refine ⟨_, rfl, m, p, inp, st, fp, rfl, hm, fun H4 v s4 ho4 => q H4 v (f2.trans (frm_same (fp := fp) s4) nw2) ?_⟩
        rw [← eq]; exact ho4
    · have e : ¬ st.done < most := by simpa using e
      rw [show (most - st.done).toNat = 0 by omega] at eq
      refine ⟨_, rfl, m, p, inp, st, fp, rfl, hm, fun H4 v s4 ho4 => q H4 v (f2.trans (frm_same (fp := fp) s4) nw2) ?_⟩
      rw [← eq]; exact ho4
theorem sc_machine_with : FnScope ["program", "inputs", "slip", "most", "machine"] ["program", "inputs", "slip", "most"] (defScope s_machine_with) := ⟨rfl, rfl, rfl, by decide +kernel, rfl, by decide +kernel, by decide +kernel⟩
def sp_machine_with (K : PySem.W.Frag) : Sp := fun vs H Q _ => ∃ vp vi u p inp s most, vs = [vp, vi, u, V.int most] ∧ PgAt K H vp p ∧ PgOk p ∧ p.length < 64 ∧ IsAt K H vi inp ∧ InOk inp ∧ RwAt K H u s ∧ SlOk p s ∧ 0 ≤ most ∧ most ≤ 100000 ∧
  ∀ H' m fp', Same H H' → New fp' H → Mch K H' m p inp ms0 fp' → Q (.ref m) H'
theorem G_machine_with (T : Tx w K mg) : Kn PP w K mg base 6 (He.ga K "machine_with") ["program", "inputs", "slip", "most"] (sp_machine_with K) := by
  have G_Machine := G_Machine (base := base) T
  have G_is_slip := G_is_slip (base := base) T
  have G_need_most := G_need_most (base := base) T
  refine kn_of T.d_machine_with sc_machine_with (fun _ _ _ _ _ _ us hl => match us, hl with | [_, _, _, _], _ => rfl) (fun vs H Q E h => ?_) fun cdv A outer s H vs Q E hr h => ?_
  · obtain ⟨vp, vi, u, p, inp, s, most, rfl, _⟩ := h; rfl
  · obtain ⟨vp, vi, u, p, inp, sl, most, rfl, hp, pok, few, hi, iok, hu, sok, m0, m1, q⟩ := h
    refine ⟨_, (pss_cons (ps_set (i := 4) sc_machine_with.nd rfl (Or.inl rfl) (pe_kc G_Machine (hr.mono (by decide)) (by rfl) T.g_Machine (pa_cons (pv 0) (pa_cons (pv 1) pa_nil))))
      (pss_cons (ps_if (pt_not (pt_val (pe_kn G_is_slip (hr.mono (by decide)) (by rfl) T.g_is_slip (pa_cons (pv 0) (pa_cons (pv 2) pa_nil)))))
        (pss_one ps_never)
        pss_nil)
      (pss_cons (ps_expr (pe_kn G_need_most (hr.mono (by decide)) (by rfl) T.g_need_most (pa_cons (pv 3) pa_nil)))
      (pss_one (ps_ret (pv 4)))))), ?_⟩
    refine ⟨_, rfl, _, rfl, fun x dx hx hdx ne => ?_⟩
    have s0 : Same H (upd (upd H dx (.own x)) x (.ins (cM K) dx [])) := same_mk hx hdx ne
    refine ⟨x, dx, vp, vi, p, inp, rfl, upd_same, hp.same s0, pok, hi.same s0, iok, fun H1 fp1 f1 _ n2 hM => ⟨rfl, ?_⟩⟩
    obtain ⟨s1, nw1⟩ := new_mk hx hdx ne f1 n2
    refine ⟨_, rfl, _, rfl, _, _, p, sl, rfl, hp.same s1, pok, few, hu.same s1, sok, fun H2 s2 => ⟨true, rfl, iteF ?_⟩⟩
    refine ⟨_, rfl, most, rfl, m0, m1, ?_⟩
    exact ⟨_, rfl, q H2 x fp1 (s1.trans s2) nw1 (hM.same s2)⟩
theorem sc_run_with : FnScope ["program", "inputs", "slip", "most"] ["program", "inputs", "slip", "most"] (defScope s_run_with) := ⟨rfl, rfl, rfl, by decide +kernel, rfl, by decide +kernel, by decide +kernel⟩
def sp_run_with (K : PySem.W.Frag) : Sp := fun vs H Q _ => ∃ vp vi u p inp s most, vs = [vp, vi, u, V.int most] ∧ PgAt K H vp p ∧ PgOk p ∧ p.length < 64 ∧ IsAt K H vi inp ∧ InOk inp ∧ RwAt K H u s ∧ SlOk p s ∧ 0 ≤ most ∧ most ≤ 100000 ∧
  ∀ H' v, Same H H' → OcAt K H' v (outc (goW p inp s most ms0)) → Q v H'
theorem New.frm {fp : List Addr} {H H1 H2 : Hp} (n : New fp H) (s : Same H H1) (f : Frm fp H1 H2) : Same H H2 := (n.step s f (Nw.refl fp H1)).1
theorem G_run_with (T : Tx w K mg) : Kn PP w K mg base 7 (He.ga K "run_with") ["program", "inputs", "slip", "most"] (sp_run_with K) := by
  have G_machine_with := G_machine_with (base := base) T
  have G_go_with := G_go_with (base := base) T
  refine kn_of T.d_run_with sc_run_with (fun _ _ _ _ _ _ us hl => match us, hl with | [_, _, _, _], _ => rfl) (fun vs H Q E h => ?_) fun cdv A outer s H vs Q E hr h => ?_
  · obtain ⟨vp, vi, u, p, inp, s, most, rfl, _⟩ := h; rfl
  · obtain ⟨vp, vi, u, p, inp, sl, most, rfl, hp, pok, few, hi, iok, hu, sok, m0, m1, q⟩ := h
    refine ⟨_, (pss_one (ps_ret (pe_kn G_go_with (hr.mono (by decide)) (by rfl) T.g_go_with (pa_cons (pe_kn G_machine_with (hr.mono (by decide)) (by rfl) T.g_machine_with (pa_cons (pv 0) (pa_cons (pv 1) (pa_cons (pv 2) (pa_cons (pv 3) pa_nil))))) (pa_cons (pv 0) (pa_cons (pv 2) (pa_cons (pv 3) pa_nil))))))), ?_⟩
    refine ⟨_, rfl, _, rfl, _, rfl, _, rfl, vp, vi, u, p, inp, sl, most, rfl, hp, pok, few, hi, iok, hu, sok, m0, m1, fun H1 m fp1 s1 n1 hm => ?_⟩
    exact ⟨_, rfl, _, rfl, _, rfl, m, p, inp, ms0, fp1, vp, u, sl, most, rfl, hm, good0 pok.lo, pok, iok, hp.same s1, hu.same s1, sok, m1, fun H2 v f2 ho => q H2 v (n1.frm s1 f2) ho⟩
/-- machines at the items of a list -/
def MsAt (K : PySem.W.Frag) (H : Hp) (p : List Rw) (inp : List Int) (v : V) (st : MS) : Prop := ∃ m fp, v = .ref m ∧ Mch K H m p inp st fp
def StsAt (K : PySem.W.Frag) (H : Hp) (v : V) (p : List Rw) (inp : List Int) (sts : List MS) : Prop := ∃ a vs, v = .ref a ∧ H a = some (.lst vs) ∧ Paired (MsAt K H p inp) vs sts
theorem Mch.frm {H H' : Hp} {m : Addr} {p : List Rw} {inp : List Int} {st : MS} {fp fq : List Addr} (h : Mch K H m p inp st fq) (d : ∀ b ∈ fq, b ∉ fp) (f : Frm fp H H') (t : Tl K H H') : Mch K H' m p inp st fq := by
  obtain ⟨va, vi, dm, lw, ls, ld, lt, xs, rfl, h⟩ := h
  have k : ∀ {b : Addr} {o : HO}, b ∈ m :: lw :: ls :: ld :: lt :: xs → H b = some o → H' b = some o := fun hb e => f _ _ e (d _ hb)
  have st' : ∀ {ys : List Addr} {ss : List SS}, Paired (StO K H) ys ss → (∀ y ∈ ys, y ∈ xs) → Paired (StO K H') ys ss := by
    intro ys ss pr
    induction pr with
    | nil => intro _; exact .nil
    | cons a r ih =>
      intro hy
      obtain ⟨dx, a1, b1, h1, h2, h3⟩ := a
      exact .cons ⟨dx, a1, b1, k (by have := hy _ (.head _); simp [this]) h1, t _ _ h2, t _ _ h3⟩ (ih fun y z => hy y (.tail _ z))
  exact ⟨va, vi, dm, lw, ls, ld, lt, xs, rfl, h.nd, k (by simp) h.o, h.rows.tl t, h.given.tl t, k (by simp) h.w, k (by simp) h.s, k (by simp) h.d, k (by simp) h.t, st' h.sts fun _ z => z⟩
theorem MsAt.same {H H' : Hp} {p : List Rw} {inp : List Int} {v : V} {st : MS} (h : MsAt K H p inp v st) (s : Same H H') : MsAt K H' p inp v st := by
  obtain ⟨m, fp, e, h⟩ := h
  exact ⟨m, fp, e, h.same s⟩
theorem StsAt.same {H H' : Hp} {v : V} {p : List Rw} {inp : List Int} {sts : List MS} (h : StsAt K H v p inp sts) (s : Same H H') : StsAt K H' v p inp sts := by
  obtain ⟨a, vs, e, h, pr⟩ := h
  exact ⟨a, vs, e, s _ _ h, Paired.mapP pr fun _ _ q => q.same s⟩
theorem sc_right_stands : FnScope ["program", "inputs", "most", "machine", "found"] ["program", "inputs", "most"] (defScope s_right_stands) := ⟨rfl, rfl, rfl, by decide +kernel, rfl, by decide +kernel, by decide +kernel⟩
def sp_right_stands (K : PySem.W.Frag) : Sp := fun vs H Q _ => ∃ vp vi p inp most N, vs = [vp, vi, V.int most] ∧ PgAt K H vp p ∧ PgOk p ∧ IsAt K H vi inp ∧ InOk inp ∧ RunOk p inp N ∧ N ≤ most ∧ most ≤ 100000 ∧
  ∀ H' v, Same H H' → StsAt K H' v p inp (stL p inp N) → Q v H'
theorem G_right_stands (T : Tx w K mg) : Kn PP w K mg base 7 (He.ga K "right_stands") ["program", "inputs", "most"] (sp_right_stands K) := by
  have G_Machine := G_Machine (base := base) T
  have G_need_most := G_need_most (base := base) T
  have G_Machine_twin := G_Machine_twin (base := base) T
  have G_Machine_beats := G_Machine_beats (base := base) T
  have G_Machine_beat := G_Machine_beat (base := base) T
  have G_Machine_end := G_Machine_end (base := base) T
  refine kn_of T.d_right_stands sc_right_stands (fun _ _ _ _ _ _ us hl => match us, hl with | [_, _, _], _ => rfl) (fun vs H Q E h => ?_) fun cdv A outer s H vs Q E hr h => ?_
  · obtain ⟨vp, vi, p, inp, most, N, rfl, _⟩ := h; rfl
  · obtain ⟨vp, vi, p, inp, most, N, rfl, hp, pok, hi, iok, rok, hN, m1, q⟩ := h
    refine ⟨_, (pss_cons (ps_set (i := 3) sc_right_stands.nd rfl (Or.inl rfl) (pe_kc G_Machine (hr.mono (by decide)) (by rfl) T.g_Machine (pa_cons (pv 0) (pa_cons (pv 1) pa_nil))))
      (pss_cons (ps_expr (pe_kn G_need_most (hr.mono (by decide)) (by rfl) T.g_need_most (pa_cons (pv 2) pa_nil)))
      (pss_cons (ps_set (i := 4) sc_right_stands.nd rfl (Or.inl rfl) (pe_lst (pa_cons (pe_km0 (pv 3) T.c_Machine T.m_Machine_twin G_Machine_twin (hr.mono (by decide))) pa_nil)))
      (pss_cons (ps_while PassesOwn.never (PW.pt (pw_and (pt_cmpR op_lt (pe_km0 (pv 3) T.c_Machine T.m_Machine_beats G_Machine_beats (hr.mono (by decide))) (pv 2) (nomark _)) (pw_and1 (pt_val (pe_km0 (pv 3) T.c_Machine T.m_Machine_beat G_Machine_beat (hr.mono (by decide)))))))
        (pss_one (ps_expr (pe_bm PySem.F.plainAttrs_list PySem.F.slot_list_append PySem.F.type_list_append mt_append (pv 4) (pa_cons (pe_km0 (pv 3) T.c_Machine T.m_Machine_twin G_Machine_twin (hr.mono (by decide))) pa_nil)))))
      (pss_cons (ps_if (pt_cmpR op_ne (pe_km0 (pv 3) T.c_Machine T.m_Machine_end G_Machine_end (hr.mono (by decide))) (pe_gx (by rfl) T.i_RIGHT) (nomark _))
        (pss_one ps_never)
        pss_nil)
      (pss_one (ps_ret (pv 4)))))))), ?_⟩
    refine ⟨_, rfl, _, rfl, fun x dx hx hdx ne => ?_⟩
    have s0 : Same H (upd (upd H dx (.own x)) x (.ins (cM K) dx [])) := same_mk hx hdx ne
    refine ⟨x, dx, vp, vi, p, inp, rfl, upd_same, hp.same s0, pok, hi.same s0, iok, fun H1 fp1 f1 _ n2 hM => ⟨rfl, ?_⟩⟩
    obtain ⟨s1, nw1⟩ := new_mk hx hdx ne f1 n2
    refine ⟨_, rfl, most, rfl, by omega, m1, ?_⟩
    obtain ⟨dm, va, vi', lw, ls, ld, lt, ho⟩ := mch_o hM
    refine ⟨_, rfl, x, dm, _, rfl, ho, rfl, x, p, inp, ms0, fp1, rfl, hM, by decide, pok, iok, fun H2 t fpt s2 nt hT => ?_⟩
    refine ⟨by show 1 ≤ sizeLine; decide, fun l hl => ?_⟩
    have hM2 := (hM.same s2).same (same_new (o := .lst [.ref t]) hl)
    have hT2 := hT.same (same_new (o := .lst [.ref t]) hl)
    have s3 : Same H (upd H2 l (.lst [.ref t])) := (s1.trans s2).trans (same_new hl)
    have lH : H l = none := by cases e : H l with | none => rfl | some o => rw [(s1.trans s2) _ _ e] at hl; cases hl
    have lfp : ∀ b ∈ fp1, b ≠ l := fun b hb e => by
      obtain ⟨o, z, _⟩ := (hM.same s2).there b hb
      rw [e, hl] at z; cases z
    have dj : ∀ b ∈ fpt, b ∉ fp1 := fun b hb hb2 => by
      obtain ⟨o, z, _⟩ := hM.there b hb2
      rw [nt b hb] at z; cases z
    have dl : l ∉ fpt := fun z => by
      obtain ⟨o, z, _⟩ := hT.there l z
      rw [hl] at z; cases z
    have sz : 200000 ≤ sizeLine := by decide
    refine ⟨fun k σ H' => ∃ (j : Nat) (fp : List Addr) (vs : List V), σ = [some vp, some vi, some (.int most), some (.ref x), some (.ref l)] ∧ k = N - j ∧ j ≤ N ∧ Mch K H' x p inp (itb p inp j ms0) fp ∧ Same H H' ∧ New fp H ∧ l ∉ fp ∧ H' l = some (.lst vs) ∧ Paired (fun v st => ∃ m fq, v = V.ref m ∧ Mch K H' m p inp st fq ∧ (∀ b ∈ fq, b ∉ fp) ∧ l ∉ fq) vs (stL p inp j),
      ⟨_, 0, fp1, [.ref t], rfl, rfl, Nat.zero_le _, hM2, s3, nw1, fun z => lfp l z rfl, upd_same, .cons ⟨t, fpt, rfl, hT2, dj, dl⟩ .nil⟩, ?_⟩
    rintro k σ H3 ⟨j, fp, vs, rfl, rfl, hj, hm, s3, nw, lf, hl3, pr⟩
    have g := good_itb (p := p) (inp := inp) pok iok j (good0 pok.lo)
    have ed := run_done rok j hj
    obtain ⟨dm, va, vi', lw, ls, ld, lt, ho⟩ := mch_o hm
    -- the end
    have fin : ∀ H4, j = N → Same H3 H4 → tSeq (tIfS (tTest (tOp rNe (tMeth (cM K) "end" (sp_end K) [] E0 (tVar 3) tNil) (tC (.str "end")))) tNever tNext) (tRet (tVar 4)) { nx := fun _ H' => Q .non H', rt := Q } [some vp, some vi, some (.int most), some (.ref x), some (.ref l)] H4 := fun H4 e s4 => by
      subst e
      have hm4 := hm.same s4
      obtain ⟨dm, va, vi', lw, ls, ld, lt, ho⟩ := mch_o hm4
      refine ⟨_, rfl, x, dm, _, rfl, ho, rfl, x, p, inp, _, fp, rfl, hm4, ?_, _, rfl, ?_⟩
      · rw [rok.over]; rfl
      · rw [rok.over]
        refine iteF ⟨_, rfl, q H4 _ (s3.trans s4) ⟨l, vs, rfl, s4 _ _ hl3, Paired.mapP pr fun _ _ ⟨m, fq, e, h, _⟩ => ⟨m, fq, e, h.same s4⟩⟩⟩
    refine ⟨_, rfl, x, dm, _, rfl, ho, rfl, x, p, inp, _, fp, rfl, hm, _, rfl, _, _, rfl, rfl, _, rfl, ?_⟩
    refine ite2 (fun e => ?_) (fun e => ?_)
    · refine ⟨_, rfl, x, dm, _, rfl, ho, rfl, x, p, inp, _, fp, rfl, hm, g, pok, iok, by omega, fun H4 fp4 hm4 f4 n4 => ⟨_, rfl, ?_⟩⟩
      by_cases ej : j = N
      · have eo : (itb p inp j ms0).over ≠ none := by rw [ej, rok.over]; simp
        rw [bt_over eo] at hm4
        rw [show decide ((itb p inp j ms0).over = none) = false by simpa using eo]
        refine iteF ?_
        obtain ⟨s4, nw4⟩ := nw.step s3 f4 n4
        have tl4 := tl_frm hm f4
        have pr4 : Paired (MsAt K H4 p inp) vs (stL p inp j) := Paired.mapP pr fun _ _ ⟨m, fq, e, h, d, _⟩ => ⟨m, fq, e, h.frm d f4 tl4⟩
        have hl4 := f4 _ _ hl3 lf
        subst ej
        obtain ⟨dm, va, vi', lw, ls, ld, lt, ho⟩ := mch_o hm4
        refine ⟨_, rfl, x, dm, _, rfl, ho, rfl, x, p, inp, _, fp4, rfl, hm4, ?_, _, rfl, ?_⟩
        · rw [rok.over]; rfl
        · rw [rok.over]
          exact iteF ⟨_, rfl, q H4 _ s4 ⟨l, vs, rfl, hl4, pr4⟩⟩
      · have eo := rok.none j (by omega)
        rw [show decide ((itb p inp j ms0).over = none) = true by simpa using eo]
        rw [← itb_succ] at hm4
        obtain ⟨s4, nw4⟩ := nw.step s3 f4 n4
        have tl4 := tl_frm hm f4
        have hl4 := f4 _ _ hl3 lf
        have lf4 : l ∉ fp4 := fun z => by
          rcases n4 l z with y | y
          · exact lf y
          · rw [hl3] at y; cases y
        have dd : ∀ {fq : List Addr} {m : Addr} {st : MS}, Mch K H3 m p inp st fq → (∀ b ∈ fq, b ∉ fp) → ∀ b ∈ fq, b ∉ fp4 := fun h d b hb hb2 => by
          rcases n4 b hb2 with y | y
          · exact d b hb y
          · obtain ⟨o, z, _⟩ := h.there b hb
            rw [y] at z
            cases z
        have pr4 : Paired (fun v st => ∃ m fq, v = V.ref m ∧ Mch K H4 m p inp st fq ∧ (∀ b ∈ fq, b ∉ fp4) ∧ l ∉ fq) vs (stL p inp j) := Paired.mapP pr fun _ _ ⟨m, fq, e, h, d, z⟩ => ⟨m, fq, e, h.frm d f4 tl4, dd h d, z⟩
        have g4 := good_itb (p := p) (inp := inp) pok iok (j + 1) (good0 pok.lo)
        obtain ⟨dm, va, vi', lw, ls, ld, lt, ho⟩ := mch_o hm4
        refine iteT ⟨_, fun σ' H' z => z, ?_⟩
        refine ⟨_, rfl, .inl ⟨rfl, _, sq_lst hl4⟩, _, rfl, x, dm, _, rfl, ho, rfl, x, p, inp, _, fp4, rfl, hm4, g4.two, pok, iok, fun H5 t5 ft5 s5 nt5 hT5 => ?_⟩
        have hl5 := s5 _ _ hl4
        have hlen : vs.length = j + 1 := by rw [Paired.length pr4]; unfold stL; rw [List.length_map, List.length_range]
        refine ⟨l, vs, _, rfl, rfl, hl5, by omega, ?_⟩
        have t6 := tl_lst (K := K) (o := .lst (vs ++ [.ref t5])) hl5
        have f6 : Frm [l] H5 (upd H5 l (.lst (vs ++ [.ref t5]))) := frm_upd (.head _)
        have n6 : ∀ {fq : List Addr}, l ∉ fq → ∀ b ∈ fq, b ∉ [l] := fun h b hb z => h (by rw [← List.mem_singleton.mp z]; exact hb)
        have lft : l ∉ ft5 := fun z => by
          have := nt5 l z
          rw [hl4] at this; cases this
        refine ⟨N - (j + 1), by omega, j + 1, fp4, vs ++ [.ref t5], rfl, rfl, by omega, (hm4.same s5).frm (n6 lf4) f6 t6, ?_, nw4, lf4, upd_same, ?_⟩
        · exact fun b o e => by
            rw [upd_ne (ne_of_none e lH)]
            exact s5 b o (s4 b o e)
        · rw [stL_succ]
          refine Paired.snoc (F := fun v st => ∃ m fq, v = V.ref m ∧ Mch K _ m p inp st fq ∧ (∀ b ∈ fq, b ∉ fp4) ∧ l ∉ fq) ⟨t5, ft5, rfl, hT5.frm (n6 lft) f6 t6, fun b hb hb2 => ?_, lft⟩ (Paired.mapP pr4 fun _ _ ⟨m, fq, e, h, d, z⟩ => ⟨m, fq, e, (h.same s5).frm (n6 z) f6 t6, d, z⟩)
          obtain ⟨o, z, _⟩ := hm4.there b hb2
          rw [nt5 b hb] at z; cases z
    · have e : ¬ (itb p inp j ms0).done < most := by simpa using e
      exact fin H3 (by rw [ed] at e; omega) (fun _ _ z => z)
end

end Sw
/-! SwD18 -/
namespace Sw
set_option Elab.async false
set_option linter.all false
set_option maxRecDepth 100000
set_option maxHeartbeats 4000000
open PySem PySem.Spec PyProof.Rows L2
/-! ### all slips -/
def boxSl (words : List Int) (beat box : Int) : List Rw := (List.range 16).filterMap fun z => if ((z : Nat) : Int) ≠ getI words box then some ("box", [beat, box, ((z : Nat) : Int)]) else none
def boxesSl (p : List Rw) (words : List Int) (beat : Int) : List Rw := (bxs p).flatMap fun box => boxSl words beat box
def waySl (p : List Rw) (next beat : Int) : List Rw := (pls p).filterMap fun a => if a ≠ next then some ("way", [beat, a]) else none
def slB (p : List Rw) (inp : List Int) (N : Nat) : List Rw := (List.range N).flatMap fun b => boxesSl p (itb p inp b ms0).words ((b : Nat) : Int)
def slW (p : List Rw) (inp : List Int) (N : Nat) : List Rw := (List.range N).flatMap fun b => if isWay (rowAt p (itb p inp b ms0).at_) = true then waySl p (itb p inp (b + 1) ms0).at_ ((b : Nat) : Int) else []
def slL (p : List Rw) (inp : List Int) (N : Nat) : List Rw := slB p inp N ++ slW p inp (N - 1)
theorem flat_succ {α : Type} (f : Nat → List α) (i : Nat) : (List.range (i + 1)).flatMap f = (List.range i).flatMap f ++ f i := by
  rw [List.range_succ, List.flatMap_append]
  simp
theorem flat_take {α β : Type} (f : α → List β) (l : List α) (i : Nat) (x : α) (h : l[i]? = some x) : (l.take (i + 1)).flatMap f = (l.take i).flatMap f ++ f x := by
  rw [List.take_add_one, h, List.flatMap_append]
  simp
theorem flat_len {α β : Type} (f : α → List β) (n : Nat) : ∀ (l : List α), (∀ x ∈ l, (f x).length ≤ n) → (l.flatMap f).length ≤ l.length * n
  | [], _ => by simp
  | x :: l, h => by
    rw [List.flatMap_cons, List.length_append, List.length_cons, Nat.add_mul, Nat.one_mul]
    have h1 := h x (.head _)
    have h2 := flat_len f n l fun y hy => h y (.tail _ hy)
    omega
theorem boxSl_len (words : List Int) (beat box : Int) : (boxSl words beat box).length ≤ 16 := by
  refine Nat.le_trans (List.length_filterMap_le _ _) ?_
  rw [List.length_range]
  exact Nat.le_refl _
theorem bxs_len (p : List Rw) : (bxs p).length ≤ 32 := by
  refine Nat.le_trans (List.length_filterMap_le _ _) ?_
  rw [List.length_range]
  exact Nat.le_refl _
theorem boxesSl_len (p : List Rw) (words : List Int) (beat : Int) : (boxesSl p words beat).length ≤ 512 := by
  have := flat_len (fun box => boxSl words beat box) 16 (bxs p) fun x _ => boxSl_len _ _ _
  have h2 := bxs_len p
  unfold boxesSl
  omega
theorem pls_len (p : List Rw) : (pls p).length ≤ 400 := by
  refine Nat.le_trans (List.length_filterMap_le _ _) ?_
  rw [List.length_range]
  exact Nat.le_refl _
theorem waySl_len (p : List Rw) (next beat : Int) : (waySl p next beat).length ≤ 400 := Nat.le_trans (List.length_filterMap_le _ _) (pls_len p)
section
variable {w : World} {K : PySem.W.Frag} {mg : Str → Option Value} {base : Heap}
theorem tl_frm1 {H H' : Hp} {l : Addr} {xs : List V} (h : H l = some (.lst xs)) (f : Frm [l] H H') : Tl K H H' := fun a ys q => by
  have k : ∀ o, H a = some o → (∀ zs, o ≠ .lst zs) → H' a = some o := fun o e z => f a o e fun m => by
    rw [List.mem_singleton.mp m, h] at e
    injection e with e
    exact z xs e.symm
  rcases q with (q | ⟨u, q⟩) | q
  · exact .inl (.inl (k _ q fun zs z => by cases z))
  · exact .inl (.inr ⟨u, k _ q fun zs z => by cases z⟩)
  · exact .inr q
theorem cutBut (xs : List V) (k : Nat) (h : k ≤ xs.length) (hk : 1 ≤ k) : cutV xs none (some (-(k : Int))) = xs.take (xs.length - k) := by
  unfold cutV
  have e : HT.sIx xs.length xs.length (some (-(k : Int))) = xs.length - k := by
    show (if -(k : Int) < 0 then (-(k : Int) + xs.length).toNat else min (-(k : Int)).toNat xs.length) = _
    rw [if_pos (by omega)]
    omega
  rw [e, HT.sIx_none, List.drop_zero, Nat.sub_zero]
theorem rws_append {H : Hp} : ∀ {a : List V} {b : List Rw} {c : List V} {d : List Rw}, Paired (RwAt K H) a b → Paired (RwAt K H) c d → Paired (RwAt K H) (a ++ c) (b ++ d)
  | _, _, _, _, .nil, h => h
  | _, _, _, _, .cons x t, h => .cons x (rws_append t h)
theorem sc_slips_among : FnScope ["program", "stands", "found", "boxes", "places", "beat", "stand", "words", "box", "word", "at"] ["program", "stands"] (defScope s_slips_among) := ⟨rfl, rfl, rfl, by decide +kernel, rfl, by decide +kernel, by decide +kernel⟩
def sp_slips_among (K : PySem.W.Frag) : Sp := fun vs H Q _ => ∃ vp v p inp N, vs = [vp, v] ∧ PgAt K H vp p ∧ PgOk p ∧ p.length < 64 ∧ InOk inp ∧ StsAt K H v p inp (stL p inp N) ∧ 1 ≤ N ∧ N ≤ 100 ∧
  ∀ H' a us, Same H H' → H a = none → H' a = some (.lst us) → Paired (RwAt K H') us (slL p inp N) → Q (.ref a) H'
theorem G_slips_among (T : Tx w K mg) : Kn PP w K mg base 4 (He.ga K "slips_among") ["program", "stands"] (sp_slips_among K) := by
  have G_boxes_named := G_boxes_named (base := base) T
  have G_places_named := G_places_named (base := base) T
  have G_Machine_boxes := G_Machine_boxes (base := base) T
  have G_Machine_place := G_Machine_place (base := base) T
  have G_is_way := G_is_way (base := base) T
  refine kn_of T.d_slips_among sc_slips_among (fun _ _ _ _ _ _ us hl => match us, hl with | [_, _], _ => rfl) (fun vs H Q E h => ?_) fun cdv A outer s H vs Q E hr h => ?_
  · obtain ⟨vp, v, p, inp, N, rfl, _⟩ := h; rfl
  · obtain ⟨vp, v, p, inp, N, rfl, hp, pok, few, iok, ⟨sa, svs, rfl, hsa, spr⟩, n1, n2, q⟩ := h
    have hsl : svs.length = N + 1 := by rw [Paired.length spr]; unfold stL; rw [List.length_map, List.length_range]
    have gd := fun k => good_itb (p := p) (inp := inp) pok iok k (good0 pok.lo)
    have sz : 200000 ≤ sizeLine := by decide
    refine ⟨_, (pss_cons (ps_set (i := 2) sc_slips_among.nd rfl (Or.inl rfl) (pe_lst pa_nil))
      (pss_cons (ps_par (i := 3) (j := 4) rfl sc_slips_among.nd rfl rfl (by decide) rfl rfl (pa_cons (pe_kn G_boxes_named (hr.mono (by decide)) (by rfl) T.g_boxes_named (pa_cons (pv 0) pa_nil)) (pa_cons (pe_kn G_places_named (hr.mono (by decide)) (by rfl) T.g_places_named (pa_cons (pv 0) pa_nil)) pa_nil)) (by rfl))
      (pss_cons (ps_for PassesOwn.never rfl (pi_enum (by rfl) T.f_enumerate (pa_cons (pe_slice sl_list (pv 1) po_none (po_some (pe_un un_neg pe_int))) pa_nil)) (pg_tup rfl (pgs_cons (pg_name (i := 5) sc_slips_among.nd rfl (Or.inr rfl)) (pgs_cons (pg_name (i := 6) sc_slips_among.nd rfl (Or.inl rfl)) pgs_nil)))
        (pss_cons (ps_set (i := 7) sc_slips_among.nd rfl (Or.inr rfl) (pe_km0 (pv 6) T.c_Machine T.m_Machine_boxes G_Machine_boxes (hr.mono (by decide))))
        (pss_one (ps_for PassesOwn.never rfl (pi_list (pv 3)) (pg_name (i := 8) sc_slips_among.nd rfl (Or.inr rfl))
          (pss_one (ps_expr (pe_bm PySem.F.plainAttrs_list PySem.F.slot_list_extend PySem.F.type_list_extend mt_extend (pv 2) (pa_cons (pe_lc (own := [("word", 9)]) (g := gName 9) rfl sc_slips_among.nd (pi_range1 (by rfl) T.f_range (pa_cons (pe_op op_add (pe_gx (by rfl) T.i_MOST_WORD) pe_int) pa_nil)) (blkOk_by (own := [("word", 9)]) (N := ["program", "stands", "found", "boxes", "places", "beat", "stand", "words", "box", "word", "at"]) (sc := defScope s_slips_among) (by decide +kernel)) (fun _ _ _ _ _ => (pg_name (i := 9) sc_slips_among.nd rfl (Or.inl rfl))) (fun _ _ _ _ _ => pts_one (pt_cmpR op_ne (pv 9) (pe_ix (show IxR _ (rIxT K) from ix_tup) (pv 7) (pv 8) (fun _ _ => rfl)) (nomark _))) (fun _ _ _ _ _ => (pe_tup (pa_cons pe_str (pa_cons (pv 5) (pa_cons (pv 8) (pa_cons (pv 9) pa_nil))))))) pa_nil))))))))
      (pss_cons (ps_for PassesOwn.never rfl (pi_enum (by rfl) T.f_enumerate (pa_cons (pe_slice sl_list (pv 1) po_none (po_some (pe_un un_neg pe_int))) pa_nil)) (pg_tup rfl (pgs_cons (pg_name (i := 5) sc_slips_among.nd rfl (Or.inr rfl)) (pgs_cons (pg_name (i := 6) sc_slips_among.nd rfl (Or.inl rfl)) pgs_nil)))
        (pss_one (ps_if (pt_val (pe_kn G_is_way (hr.mono (by decide)) (by rfl) T.g_is_way (pa_cons (pe_ix ix_tup (pv 0) (pe_km0 (pv 6) T.c_Machine T.m_Machine_place G_Machine_place (hr.mono (by decide))) (fun _ _ => rfl)) pa_nil)))
          (pss_one (ps_expr (pe_bm PySem.F.plainAttrs_list PySem.F.slot_list_extend PySem.F.type_list_extend mt_extend (pv 2) (pa_cons (pe_lc (own := [("at", 10)]) (g := gName 10) rfl sc_slips_among.nd (pi_list (pv 4)) (blkOk_by (own := [("at", 10)]) (N := ["program", "stands", "found", "boxes", "places", "beat", "stand", "words", "box", "word", "at"]) (sc := defScope s_slips_among) (by decide +kernel)) (fun _ _ _ _ _ => (pg_name (i := 10) sc_slips_among.nd rfl (Or.inl rfl))) (fun _ _ _ _ _ => pts_one (pt_cmpR op_ne (pv 10) (pe_km0 (pe_ix (show IxR _ (rIxL K) from ix_list) (pv 1) (pe_op op_add (pv 5) pe_int) (fun _ _ => rfl)) T.c_Machine T.m_Machine_place G_Machine_place (hr.mono (by decide))) (nomark _))) (fun _ _ _ _ _ => (pe_tup (pa_cons pe_str (pa_cons (pv 5) (pa_cons (pv 10) pa_nil)))))) pa_nil))))
          pss_nil)))
      (pss_one (ps_ret (pv 2))))))), ?_⟩
    refine ⟨by decide, fun l hl => ?_⟩
    have s1 := same_new (o := .lst []) hl
    have hl1 : (upd H l (.lst [])) l = some (.lst []) := upd_same
    have spr1 : Paired (fun v st => ∃ m fq, v = V.ref m ∧ Mch K (upd H l (.lst [])) m p inp st fq ∧ l ∉ fq) svs (stL p inp N) := Paired.mapP spr fun _ _ ⟨m, fq, e, h⟩ => ⟨m, fq, e, h.same s1, fun z => by
      obtain ⟨o, y, _⟩ := h.there l z
      rw [hl] at y; cases y⟩
    generalize upd H l (.lst []) = H1 at s1 hl1 spr1
    refine ⟨_, rfl, vp, p, rfl, hp.same s1, pok, fun H2 lb s2 nb hlb => ?_⟩
    refine ⟨_, rfl, vp, p, rfl, (hp.same s1).same s2, pok, few, fun H3 lp s3 np hlp => ⟨_, _, rfl, ?_⟩⟩
    have hlb3 := s3 _ _ hlb
    have s13 := s2.trans s3
    have hl3 := s13 _ _ hl1
    have lbl : lb ≠ l := fun e => by rw [e, hl1] at nb; cases nb
    have lpl : lp ≠ l := fun e => by rw [e, s2 _ _ hl1] at np; cases np
    have spr3 : Paired (fun v st => ∃ m fq, v = V.ref m ∧ Mch K H3 m p inp st fq ∧ l ∉ fq) svs (stL p inp N) := Paired.mapP spr1 fun _ _ ⟨m, fq, e, h, z⟩ => ⟨m, fq, e, h.same s13, z⟩
    have hp3 := hp.same (s1.trans s13)
    have hsa3 := (s1.trans s13) _ _ hsa
    have s03 := s1.trans s13
    have sal : sa ≠ l := fun e => by rw [e, hl] at hsa; cases hsa
    clear spr spr1 s2 s3 nb np hlb s13 hl1 s1
    -- stands[:-1]
    refine ⟨_, rfl, _, rfl, _, rfl, sa, _, rfl, sq_lst hsa3, fun a1 ha1 => ?_⟩
    rw [show (-(1 : Int)) = -((1 : Nat) : Int) from rfl, cutBut _ 1 (by omega) (by omega), hsl, show N + 1 - 1 = N from rfl]
    have s4 := same_new (o := .lst (svs.take N)) ha1
    have a1l : a1 ≠ l := fun e => by rw [e, hl3] at ha1; cases ha1
    have ha14 : (upd H3 a1 (.lst (svs.take N))) a1 = some (.lst (svs.take N)) := upd_same
    have hl4 := s4 _ _ hl3
    have hlb4 := s4 _ _ hlb3
    have hlp4 := s4 _ _ hlp
    have hsa4 := s4 _ _ hsa3
    have hp4 := hp3.same s4
    have spr4 : Paired (fun v st => ∃ m fq, v = V.ref m ∧ Mch K (upd H3 a1 (.lst (svs.take N))) m p inp st fq ∧ l ∉ fq) svs (stL p inp N) := Paired.mapP spr3 fun _ _ ⟨m, fq, e, h, z⟩ => ⟨m, fq, e, h.same s4, z⟩
    have s04 := s03.trans s4
    generalize upd H3 a1 (.lst (svs.take N)) = H4 at s4 ha14 hl4 hlb4 hlp4 hsa4 hp4 spr4 s04
    clear spr3 hp3 hsa3 hlb3 hlp hl3 s03 s4 ha1
    refine ⟨a1, _, rfl, sq_lst ha14, ?_⟩
    have fk : ∀ {H' : Hp} {b : Addr} {o : HO}, Frm [l] H4 H' → b ≠ l → H4 b = some o → H' b = some o := fun f n e => f _ _ e (by simpa using n)
    have mk : ∀ {H' : Hp} {i : Nat} {v : V}, Frm [l] H4 H' → svs[i]? = some v → ∃ m fq, v = V.ref m ∧ Mch K H' m p inp (itb p inp i ms0) fq := fun {H' i v} f e => by
      obtain ⟨st, e2, m, fq, ev, h, z⟩ := Paired.at1 spr4 e
      have hi : i < N + 1 := by
        rcases Nat.lt_or_ge i (N + 1) with y | y
        · exact y
        · rw [List.getElem?_eq_none (by omega)] at e; cases e
      have : st = itb p inp i ms0 := by
        unfold stL at e2
        rw [List.getElem?_map, List.getElem?_range hi] at e2
        exact (Option.some.inj e2).symm
      subst this
      exact ⟨m, fq, ev, h.frm (fun b hb hb2 => z (by rw [← List.mem_singleton.mp hb2]; exact hb)) f (tl_frm1 hl4 f)⟩
    refine for_it walk_enum (fun i σ H' => ∃ x5 x6 x7 x8, σ = [some vp, some (.ref sa), some (.ref l), some (.ref lb), some (.ref lp), x5, x6, x7, x8, none, none] ∧ Frm [l] H4 H' ∧ ∃ us, H' l = some (.lst us) ∧ Paired (RwAt K H') us (slB p inp i) ∧ us.length ≤ 512 * i)
      ⟨none, none, none, none, rfl, Frm.refl _ _, [], hl4, .nil, Nat.zero_le _⟩ (fun i σ H' _ h => by obtain ⟨_, _, _, _, _, f, _⟩ := h; exact sq_lst (fk f a1l ha14)) ?_ ?_
    · rintro i x σ H5 H6 hi ⟨x5, x6, x7, x8, rfl, f5, us, hl5, pr5, len5⟩ ⟨U, c1, y, rfl, hU, rfl, e1, e2⟩
      obtain rfl : V.int (i : Nat) = c1 := Option.some.inj e1
      have hi : i < N := by rw [List.length_take, hsl] at hi; omega
      have e2 : (svs.take N)[i]? = some y := e2
      rw [List.getElem?_take, if_pos hi] at e2
      have sU := same_new (o := .tup [.int (i : Nat), y]) hU
      have f6 := f5.tr (frm_same (fp := [l]) sU)
      obtain ⟨m, fq, rfl, hm⟩ := mk f6 e2
      obtain ⟨dm, va, vi, lw, ls, ld, lt, ho⟩ := mch_o hm
      refine ⟨_, _, rfl, sq_new, rfl, _, _, rfl, _, _, rfl, rfl, ?_⟩
      refine ⟨_, rfl, m, dm, _, rfl, ho, rfl, m, p, inp, _, fq, rfl, hm, fun H7 t s7 ht => ?_⟩
      have f7 := f6.tr (frm_same (fp := [l]) s7)
      have g := gd i
      refine ⟨_, rfl, lb, rfl, ⟨_, sq_lst (fk f7 lbl hlb4)⟩, ?_⟩
      have hl7 := s7 _ _ (sU _ _ hl5)
      have pr7 : Paired (RwAt K H7) us (slB p inp i) := Paired.mapP pr5 fun _ _ z => (z.same sU).same s7
      refine for_it walk_list (fun j σ H' => ∃ x8, σ = [some vp, some (.ref sa), some (.ref l), some (.ref lb), some (.ref lp), some (.int (i : Nat)), some (.ref m), some (.ref t), x8, none, none] ∧ Frm [l] H4 H' ∧ Frm [l] H7 H' ∧ ∃ us, H' l = some (.lst us) ∧ Paired (RwAt K H') us (slB p inp i ++ ((bxs p).take j).flatMap fun box => boxSl (itb p inp i ms0).words ((i : Nat) : Int) box) ∧ us.length ≤ 512 * i + 16 * j)
        ⟨x8, rfl, f7, Frm.refl _ _, us, hl7, by simpa using pr7, by omega⟩ (fun j σ H' _ h => by obtain ⟨_, _, f, _⟩ := h; exact sq_lst (fk f lbl hlb4)) ?_ ?_
      · rintro j x σ H8 H9 hj ⟨x8, rfl, f8, f78, us, hl8, pr8, len8⟩ ⟨rfl, e⟩
        rw [List.length_map] at hj
        have hb32 := bxs_len p
        rw [List.getElem?_map] at e
        obtain ⟨bx, eb, rfl⟩ := Option.map_eq_some_iff.mp e
        have bx0 := (filt_lt _ 32).2 bx (List.mem_of_getElem? eb)
        have htl := tl_frm1 (K := K) hl7 f78 _ _ (sq_tup ht)
        refine ⟨_, rfl, .inl ⟨rfl, _, sq_lst hl8⟩, ?_⟩
        refine ⟨_, _, rfl, rfl, _, rfl, by decide, by decide, fun D hD => ?_⟩
        refine lc_pure (G := fun _ => True) walk_range (fun z => if ((z : Nat) : Int) ≠ getI (itb p inp i ms0).words bx then some (("box", [((i : Nat) : Int), bx, ((z : Nat) : Int)]) : Rw) else none) (fun v r H' => RwAt K H' v r) (fun _ _ _ _ h s => h.same s) (fun _ _ _ l xs zs h hl => h.tl (tl_lst hl)) (by decide) hD (fun _ _ => trivial) ?_ ?_
        · rintro z x Ha Hb Qe Qn hz s ⟨rfl, rfl⟩ qe qn
          refine ⟨rfl, _, rfl, _, rfl, _, rfl, _, _, _, _, rfl, rfl, tl_same s _ _ htl, atI_get bx0.1 (by rw [g.words.1]; exact bx0.2), rfl, _, rfl, ?_⟩
          refine ite2 (fun e => ?_) (fun e => ?_)
          · have e : ((z : Nat) : Int) ≠ getI (itb p inp i ms0).words bx := by simpa using e
            refine ⟨_, rfl, _, rfl, _, rfl, by show 4 ≤ sizeLine; decide, fun q2 hq2 => ?_⟩
            refine qe _ _ (("box", [((i : Nat) : Int), bx, ((z : Nat) : Int)]) : Rw) (same_new hq2) (if_pos e) ⟨q2, rfl, ?_⟩
            show SqT K (upd Hb q2 (.tup [V.str "box", .int (i : Nat), .int bx, .int (0 + ((z : Nat) : Int))])) q2 [V.str "box", .int (i : Nat), .int bx, .int ((z : Nat) : Int)]
            rw [Int.zero_add]
            exact sq_new
          · have e : ((z : Nat) : Int) = getI (itb p inp i ms0).words bx := by simpa using e
            exact qn _ (fun _ _ h => h) (if_neg (by simpa using e))
        · intro Ha acc sa' hDa pra
          have hl9 := sa' _ _ hl8
          have la : acc.length ≤ 16 := by
            rw [Paired.length pra]
            exact boxSl_len (itb p inp i ms0).words i bx
          refine ⟨l, D, us, acc, rfl, rfl, hl9, hDa, by omega, ?_⟩
          have fl : Frm [l] Ha (upd Ha l (.lst (us ++ acc))) := frm_upd (.head _)
          have tl := tl_lst (K := K) (o := .lst (us ++ acc)) hl9
          refine ⟨_, rfl, (f8.tr (frm_same (fp := [l]) sa')).tr fl, (f78.tr (frm_same (fp := [l]) sa')).tr fl, us ++ acc, upd_same, ?_, by rw [List.length_append]; omega⟩
          rw [flat_take _ _ _ _ eb, ← List.append_assoc]
          exact rws_append (Paired.mapP pr8 fun _ _ z => (z.same sa').tl tl) (Paired.mapP pra fun _ _ z => z.tl tl)
      · rintro σ H8 ⟨x8, rfl, f8, f78, us, hl8, pr8, len8⟩
        have hb32 := bxs_len p
        rw [List.length_map] at pr8 len8
        refine ⟨_, _, _, _, rfl, f8, us, hl8, ?_, by omega⟩
        unfold slB
        rw [flat_succ]
        rw [List.take_length] at pr8
        exact pr8
    · rintro σ H5 ⟨x5, x6, x7, x8, rfl, f5, us, hl5, pr5, len5⟩
      rw [List.length_take, hsl, show min N (N + 1) = N by omega] at pr5 len5
      have lenB : us.length ≤ 512 * N := len5
      -- stands[:-2]
      refine ⟨_, rfl, _, rfl, _, rfl, sa, _, rfl, sq_lst (fk f5 sal hsa4), fun a2 ha2 => ?_⟩
      rw [show (-(2 : Int)) = -((2 : Nat) : Int) from rfl, cutBut _ 2 (by omega) (by omega), hsl, show N + 1 - 2 = N - 1 by omega]
      have sA := same_new (o := .lst (svs.take (N - 1))) ha2
      have a2l : a2 ≠ l := fun e => by rw [e, hl5] at ha2; cases ha2
      have hA : (upd H5 a2 (.lst (svs.take (N - 1)))) a2 = some (.lst (svs.take (N - 1))) := upd_same
      have fA := f5.tr (frm_same (fp := [l]) sA)
      have hlA := sA _ _ hl5
      have prA : Paired (RwAt K (upd H5 a2 (.lst (svs.take (N - 1))))) us (slB p inp N) := Paired.mapP pr5 fun _ _ z => z.same sA
      generalize upd H5 a2 (.lst (svs.take (N - 1))) = HA at sA hA fA hlA prA
      refine ⟨a2, _, rfl, sq_lst hA, ?_⟩
      refine for_it walk_enum (fun i σ H' => ∃ x5 x6 x7 x8, σ = [some vp, some (.ref sa), some (.ref l), some (.ref lb), some (.ref lp), x5, x6, x7, x8, none, none] ∧ Frm [l] H4 H' ∧ Frm [l] HA H' ∧ ∃ us, H' l = some (.lst us) ∧ Paired (RwAt K H') us (slB p inp N ++ slW p inp i) ∧ us.length ≤ 512 * N + 400 * i)
        ⟨x5, x6, x7, x8, rfl, fA, Frm.refl _ _, us, hlA, by simpa [slW] using prA, by omega⟩ (fun i σ H' _ h => by obtain ⟨_, _, _, _, _, _, f, _⟩ := h; exact sq_lst (f _ _ hA (by simpa using a2l))) ?_ ?_
      · rintro i x σ H5 H6 hi ⟨x5, x6, x7, x8, rfl, f5, fA5, us, hl5, pr5, len5⟩ ⟨U, c1, y, rfl, hU, rfl, e1, e2⟩
        obtain rfl : V.int (i : Nat) = c1 := Option.some.inj e1
        have hi : i < N - 1 := by rw [List.length_take, hsl] at hi; omega
        have e2 : (svs.take (N - 1))[i]? = some y := e2
        rw [List.getElem?_take, if_pos hi] at e2
        have sU := same_new (o := .tup [.int (i : Nat), y]) hU
        have f6 := f5.tr (frm_same (fp := [l]) sU)
        have fA6 := fA5.tr (frm_same (fp := [l]) sU)
        have hl6 := sU _ _ hl5
        have pr6 : Paired (RwAt K (upd H5 U (.tup [.int (i : Nat), y]))) us (slB p inp N ++ slW p inp i) := Paired.mapP pr5 fun _ _ z => z.same sU
        obtain ⟨m, fq, rfl, hm⟩ := mk f6 e2
        obtain ⟨dm, va, vi, lw, ls, ld, lt, ho⟩ := mch_o hm
        refine ⟨_, _, rfl, sq_new, rfl, _, _, rfl, _, _, rfl, rfl, ?_⟩
        generalize upd H5 U (.tup [.int (i : Nat), .ref m]) = H6 at sU f6 fA6 hl6 pr6 hm ho
        have g := gd i
        have hp6 := hp4.tl (tl_frm1 hl4 f6)
        obtain ⟨pa, pvs, rfl, hpa, ppr⟩ := hp6
        obtain ⟨rv, hrv, hrw⟩ := Paired.at_ ppr (rowAt_get g.at0 g.at1)
        refine ⟨_, rfl, _, rfl, m, dm, _, rfl, ho, rfl, m, p, inp, _, fq, rfl, hm, _, _, _, _, rfl, rfl, hpa, atIn g.at0 hrv, ?_⟩
        refine ⟨rv, rowAt p (itb p inp i ms0).at_, rfl, hrw, _, rfl, ?_⟩
        have step : slW p inp (i + 1) = slW p inp i ++ (if isWay (rowAt p (itb p inp i ms0).at_) = true then waySl p (itb p inp (i + 1) ms0).at_ ((i : Nat) : Int) else []) := flat_succ _ i
        refine ite2 (fun e => ?_) (fun e => ?_)
        · rw [if_pos e] at step
          have e3 : svs[i + 1]? = some (svs[i + 1]'(by omega)) := List.getElem?_eq_getElem (by omega)
          refine ⟨_, rfl, .inl ⟨rfl, _, sq_lst hl6⟩, ?_⟩
          have hlpH : H6 lp = some (.lst ((pls p).map V.int)) := fk f6 lpl hlp4
          have hp400 := pls_len p
          refine ⟨_, rfl, lp, rfl, ⟨_, sq_lst hlpH⟩, fun D hD => ?_⟩
          refine lc_pure (G := fun H' => SqL K H' lp ((pls p).map V.int)) walk_list (fun j => ((pls p)[j]?).bind fun a => if a ≠ (itb p inp (i + 1) ms0).at_ then some (("way", [((i : Nat) : Int), a]) : Rw) else none) (fun v r H' => RwAt K H' v r) (fun _ _ _ _ h s => h.same s) (fun _ _ _ l xs zs h hl => h.tl (tl_lst hl)) (by rw [List.length_map]; omega) hD (fun H' s => sq_lst (s _ _ hlpH)) ?_ ?_
          · rintro j x Ha Hb Qe Qn hj s ⟨rfl, ex⟩ qe qn
            rw [List.getElem?_map] at ex
            obtain ⟨a, ea, rfl⟩ := Option.map_eq_some_iff.mp ex
            obtain ⟨m2, fq2, ev2, hm2⟩ := mk (f6.tr (frm_same (fp := [l]) s)) e3
            obtain ⟨dm2, va2, vi2, lw2, ls2, ld2, lt2, ho2⟩ := mch_o hm2
            refine ⟨rfl, _, rfl, _, rfl, _, rfl, _, _, rfl, rfl, _, _, _, _, rfl, rfl, sq_lst (s _ _ (fk f6 sal hsa4)), atIn (i := ((i : Nat) : Int) + 1) (by omega) (by rw [show (((i : Nat) : Int) + 1).toNat = i + 1 by omega]; exact e3), m2, dm2, _, ev2, ho2, rfl, m2, p, inp, _, fq2, by rw [ev2]; rfl, hm2, rfl, _, rfl, ?_⟩
            refine ite2 (fun e => ?_) (fun e => ?_)
            · have e : a ≠ (itb p inp (i + 1) ms0).at_ := by simpa using e
              refine ⟨_, rfl, _, rfl, by show 3 ≤ sizeLine; decide, fun q2 hq2 => ?_⟩
              exact qe _ _ _ (same_new hq2) (by rw [ea]; exact if_pos e) ⟨q2, rfl, sq_new⟩
            · have e : a = (itb p inp (i + 1) ms0).at_ := by simpa using e
              exact qn _ (fun _ _ h => h) (by rw [ea]; exact if_neg (by simpa using e))
          · intro Ha acc sa' hDa pra
            rw [List.length_map, fm_range] at pra
            have hl9 := sa' _ _ hl6
            have la : acc.length ≤ 400 := by
              rw [Paired.length pra]
              exact waySl_len p (itb p inp (i + 1) ms0).at_ i
            refine ⟨l, D, us, acc, rfl, rfl, hl9, hDa, by omega, ?_⟩
            have fl : Frm [l] Ha (upd Ha l (.lst (us ++ acc))) := frm_upd (.head _)
            have tl := tl_lst (K := K) (o := .lst (us ++ acc)) hl9
            refine ⟨_, _, _, _, rfl, (f6.tr (frm_same (fp := [l]) sa')).tr fl, (fA6.tr (frm_same (fp := [l]) sa')).tr fl, us ++ acc, upd_same, ?_, by rw [List.length_append]; omega⟩
            rw [step, ← List.append_assoc]
            exact rws_append (Paired.mapP pr6 fun _ _ z => (z.same sa').tl tl) (Paired.mapP pra fun _ _ z => z.tl tl)
        · rw [if_neg e, List.append_nil] at step
          refine ⟨_, _, _, _, rfl, f6, fA6, us, hl6, ?_, by omega⟩
          rw [step]
          exact pr6
      · rintro σ H6 ⟨x5, x6, x7, x8, rfl, f6, fA6, us, hl6, pr6, len6⟩
        rw [List.length_take, hsl, show min (N - 1) (N + 1) = N - 1 by omega] at pr6
        refine ⟨_, rfl, q H6 l us ?_ hl hl6 pr6⟩
        intro b o e
        exact f6 b o (s04 b o e) (by simpa using ne_of_none e hl)
end

end Sw
/-! SwD19 -/
namespace Sw
set_option Elab.async false
set_option linter.all false
set_option maxRecDepth 100000
set_option maxHeartbeats 4000000
open PySem PySem.Spec PyProof.Rows L2
/-! ### judging -/
def rSlX (K : PySem.W.Frag) : V → Option Int → Option Int → Hp → VK → Prop := fun x lo hi H Q => ∃ a xs, x = .ref a ∧ SqT K H a xs ∧ ∀ H' d, Same H H' → SqT K H' d (cutV xs lo hi) → Q (.ref d) H'
theorem sl_tupX {X : Cx} : SlR X (rSlX X.K) := by
  intro pins s σ H x v vl vu lo hi sl Q I rx hs pl pu h
  obtain ⟨a, xs, rfl, hx, q⟩ := h
  refine sl_tupA pins s σ H (.ref a) v vl vu lo hi sl Q I rx hs pl pu ⟨a, xs, rfl, hx, fun e => q H a (fun _ _ z => z) ?_, fun _ p hp => q _ p (same_new hp) sq_new⟩
  have : cutV xs lo hi = xs := by unfold cutV; rw [e.1, e.2, List.drop_zero, Nat.sub_zero, List.take_length]
  rw [this]
  exact hx
theorem cutTo (xs : List V) (k : Nat) : cutV xs none (some (k : Int)) = xs.take k := by
  unfold cutV
  rw [HT.sIx_none, HT.sIx_nat, List.drop_zero, Nat.sub_zero]
  rcases Nat.le_total k xs.length with h | h
  · rw [Nat.min_eq_left h]
  · rw [Nat.min_eq_right h, List.take_of_length_le (Nat.le_refl _), List.take_of_length_le h]
def wordF (r f : Oc) : Str :=
  if f.end_ = "end" then (if f.told = r.told ∧ f.cells = r.cells then "mended" else "wrong")
  else if f.told ≠ r.told.take f.told.length then "wrong"
  else if f.end_ = "slip" then "told" else "still"
def mostF (N : Nat) : Int := 4 * (N : Int) + 100
def rightF (p : List Rw) (inp : List Int) (N : Nat) : Oc := outc (itb p inp N ms0)
/-- how a slip is judged from the stand at its beat -/
def jdF (p : List Rw) (inp : List Int) (N : Nat) (s : Rw) : Str := wordF (rightF p inp N) (outc (goW p inp s (mostF N) (itb p inp (s.2.getD 0 0).toNat ms0)))
def jdL (p : List Rw) (inp : List Int) (N : Nat) : List (Rw × Str) := (slL p inp N).map fun s => (s, jdF p inp N s)
def cntL (js : List (Rw × Str)) : List (Key × V) := wordsL.map fun x => (Sum.inr x, V.int ((js.countP fun q => decide (q.2 = x) : Nat) : Int))
def fstW (x : Str) (js : List (Rw × Str)) : List Rw := js.filterMap fun q => if q.2 = x then some q.1 else none
def fwF (js : List (Rw × Str)) : Option Rw := match fstW "wrong" js with
  | s :: _ => some s
  | [] => (fstW "still" js).head?
theorem slL_ok {p : List Rw} (ok : PgOk p) {inp : List Int} {N : Nat} (hN : N ≤ 5000) {s : Rw} (h : s ∈ slL p inp N) : SlOk p s ∧ ∃ b : Nat, s.2.getD 0 0 = (b : Int) ∧ b < N := by
  unfold slL at h
  rcases List.mem_append.mp h with h | h
  · unfold slB at h
    obtain ⟨b, hb, h⟩ := List.mem_flatMap.mp h
    have hb := List.mem_range.mp hb
    unfold boxesSl at h
    obtain ⟨x, hx, h⟩ := List.mem_flatMap.mp h
    unfold boxSl at h
    obtain ⟨z, hz, h⟩ := List.mem_filterMap.mp h
    have hz := List.mem_range.mp hz
    have hx := (filt_lt _ 32).2 x hx
    split at h
    · injection h with h
      subst h
      exact ⟨.box _ _ _ (by omega) (by omega) hx.1 (by omega) (by omega) (by omega), b, rfl, hb⟩
    · cases h
  · unfold slW at h
    obtain ⟨b, hb, h⟩ := List.mem_flatMap.mp h
    have hb := List.mem_range.mp hb
    split at h
    · unfold waySl at h
      obtain ⟨a, ha, h⟩ := List.mem_filterMap.mp h
      split at h
      · injection h with h
        subst h
        exact ⟨.way _ _ (by omega) (by omega) ha, b, rfl, by omega⟩
      · cases h
    · simp at h
theorem slL_len {p : List Rw} {inp : List Int} {N : Nat} : (slL p inp N).length ≤ 512 * N + 400 * N := by
  unfold slL
  rw [List.length_append]
  have h1 : (slB p inp N).length ≤ (List.range N).length * 512 := flat_len _ 512 _ fun b _ => boxesSl_len _ _ _
  have h2 : (slW p inp (N - 1)).length ≤ (List.range (N - 1)).length * 400 := flat_len _ 400 _ fun b _ => by
    show (if isWay (rowAt p (itb p inp b ms0).at_) = true then waySl p (itb p inp (b + 1) ms0).at_ ((b : Nat) : Int) else []).length ≤ 400
    split
    · exact waySl_len _ _ _
    · simp
  rw [List.length_range] at h1 h2
  omega
theorem SlOk.strOk {p : List Rw} {s : Rw} (h : SlOk p s) : PyData.strOk s.1 = true := by
  cases h with
  | box => show PyData.strOk "box" = true; decide +kernel
  | way => show PyData.strOk "way" = true; decide +kernel
section
variable {w : World} {K : PySem.W.Frag} {mg : Str → Option Value} {base : Heap}
theorem sc_slips_of : FnScope ["program", "inputs", "most"] ["program", "inputs", "most"] (defScope s_slips_of) := ⟨rfl, rfl, rfl, by decide +kernel, rfl, by decide +kernel, by decide +kernel⟩
def sp_slips_of (K : PySem.W.Frag) : Sp := fun vs H Q _ => ∃ vp vi p inp most N, vs = [vp, vi, V.int most] ∧ PgAt K H vp p ∧ PgOk p ∧ p.length < 64 ∧ IsAt K H vi inp ∧ InOk inp ∧ RunOk p inp N ∧ N ≤ most ∧ most ≤ 100000 ∧ N ≤ 100 ∧
  ∀ H' a us, Same H H' → H a = none → H' a = some (.lst us) → Paired (RwAt K H') us (slL p inp N) → Q (.ref a) H'
theorem G_slips_of (T : Tx w K mg) : Kn PP w K mg base 8 (He.ga K "slips_of") ["program", "inputs", "most"] (sp_slips_of K) := by
  have G_right_stands := G_right_stands (base := base) T
  have G_slips_among := G_slips_among (base := base) T
  refine kn_of T.d_slips_of sc_slips_of (fun _ _ _ _ _ _ us hl => match us, hl with | [_, _, _], _ => rfl) (fun vs H Q E h => ?_) fun cdv A outer s H vs Q E hr h => ?_
  · obtain ⟨vp, vi, p, inp, most, N, rfl, _⟩ := h; rfl
  · obtain ⟨vp, vi, p, inp, most, N, rfl, hp, pok, few, hi, iok, rok, hN, m1, n100, q⟩ := h
    refine ⟨_, (pss_one (ps_ret (pe_kn G_slips_among (hr.mono (by decide)) (by rfl) T.g_slips_among (pa_cons (pv 0) (pa_cons (pe_kn G_right_stands (hr.mono (by decide)) (by rfl) T.g_right_stands (pa_cons (pv 0) (pa_cons (pv 1) (pa_cons (pv 2) pa_nil)))) pa_nil))))), ?_⟩
    refine ⟨_, rfl, _, rfl, _, rfl, _, rfl, vp, vi, p, inp, most, N, rfl, hp, pok, hi, iok, rok, hN, m1, fun H1 v s1 hst => ?_⟩
    exact ⟨vp, v, p, inp, N, rfl, hp.same s1, pok, few, iok, hst, run_pos rok, n100, fun H2 a us s2 ha h1 h2 => q H2 a us (s1.trans s2) (by
      cases e : H a with
      | none => rfl
      | some o => rw [s1 _ _ e] at ha; cases ha) h1 h2⟩
theorem sc_beats_for : FnScope ["right"] ["right"] (defScope s_beats_for) := ⟨rfl, rfl, rfl, by decide +kernel, rfl, by decide +kernel, by decide +kernel⟩
def sp_beats_for (K : PySem.W.Frag) : Sp := fun vs H Q _ => ∃ v o, vs = [v] ∧ OcAt K H v o ∧ 0 ≤ o.beats ∧ o.beats ≤ 100000 ∧ Q (.int (4 * o.beats + 100)) H
theorem G_beats_for (T : Tx w K mg) : Kn PP w K mg base 1 (He.ga K "beats_for") ["right"] (sp_beats_for K) := by
  refine kn_of T.d_beats_for sc_beats_for (fun _ _ _ _ _ _ us hl => match us, hl with | [_], _ => rfl) (fun vs H Q E h => ?_) fun cdv A outer s H vs Q E hr h => ?_
  · obtain ⟨v, o, rfl, _⟩ := h; rfl
  · obtain ⟨_, o, rfl, ⟨a, t, c, rfl, h1, h2, h3⟩, b0, b1, q⟩ := h
    refine ⟨_, (pss_one (ps_ret (pe_op op_add (pe_op op_mul (pe_gx (by rfl) T.i_TIMES_MORE) (pe_ix ix_tup (pv 0) pe_int (fun _ _ => rfl))) (pe_gx (by rfl) T.i_BEATS_MORE)))), ?_⟩
    exact ⟨_, rfl, _, _, _, _, rfl, rfl, h1, atIn (x := V.int o.beats) (by decide) rfl, _, _, rfl, rfl, by left; show -(2 ^ 64) < (4 : Int) ∧ (4 : Int) < 2 ^ 64; decide, _, _, rfl, rfl, q⟩
theorem sc_word_of : FnScope ["right", "found", "told", "cells", "end", "beats"] ["right", "found"] (defScope s_word_of) := ⟨rfl, rfl, rfl, by decide +kernel, rfl, by decide +kernel, by decide +kernel⟩
def sp_word_of (K : PySem.W.Frag) : Sp := fun vs H Q _ => ∃ v u r f, vs = [v, u] ∧ OcAt K H v r ∧ OcAt K H u f ∧ ∀ H', Same H H' → Q (.str (wordF r f)) H'
theorem G_word_of (T : Tx w K mg) : Kn PP w K mg base 1 (He.ga K "word_of") ["right", "found"] (sp_word_of K) := by
  refine kn_of T.d_word_of sc_word_of (fun _ _ _ _ _ _ us hl => match us, hl with | [_, _], _ => rfl) (fun vs H Q E h => ?_) fun cdv A outer s H vs Q E hr h => ?_
  · obtain ⟨v, u, r, f, rfl, _⟩ := h; rfl
  · obtain ⟨_, _, r, f, rfl, ⟨a, t, c, rfl, h1, h2, h3⟩, ⟨b, t2, c2, rfl, k1, k2, k3⟩, q⟩ := h
    refine ⟨_, (pss_cons (ps_asg (pv 1) (pg_tup rfl (pgs_cons (pg_name (i := 2) sc_word_of.nd rfl (Or.inl rfl)) (pgs_cons (pg_name (i := 3) sc_word_of.nd rfl (Or.inl rfl)) (pgs_cons (pg_name (i := 4) sc_word_of.nd rfl (Or.inl rfl)) (pgs_cons (pg_name (i := 5) sc_word_of.nd rfl (Or.inl rfl)) pgs_nil))))))
      (pss_cons (ps_if (pt_cmpR op_eq (pv 4) (pe_gx (by rfl) T.i_RIGHT) (nomark _))
        (pss_one (ps_ret (pe_ifExp (PW.pt (pw_and (pt_cmpR (op_eqD hr.units) (pv 2) (pe_ix ix_tup (pv 0) pe_int (fun _ _ => rfl)) (nomark _)) (pw_and1 (pt_cmpR (op_eqD hr.units) (pv 3) (pe_ix ix_tup (pv 0) pe_int (fun _ _ => rfl)) (nomark _))))) pe_str pe_str)))
        pss_nil)
      (pss_cons (ps_if (pt_cmpR (op_neD hr.units) (pv 2) (pe_slice sl_tupX (pe_ix ix_tup (pv 0) pe_int (fun _ _ => rfl)) po_none (po_some (pe_callB call_len_seq (by rfl) T.f_len (by decide +kernel) (pa_cons (pv 2) pa_nil)))) (nomark _))
        (pss_one (ps_ret pe_str))
        pss_nil)
      (pss_one (ps_ret (pe_ifExp (pt_cmpR op_eq (pv 4) pe_str (nomark _)) pe_str pe_str)))))), ?_⟩
    have q0 := q H (fun _ _ z => z)
    unfold wordF at q q0
    refine ⟨_, rfl, b, _, rfl, k1, rfl, _, _, rfl, _, _, rfl, _, _, rfl, _, _, rfl, rfl, ?_⟩
    refine ⟨_, rfl, rfl, _, rfl, ?_⟩
    refine ite2 (fun e => ?_) (fun e => ?_)
    · have e := str_eq e
      rw [if_pos e] at q0
      refine ⟨_, rfl, _, rfl, _, _, _, _, rfl, rfl, h1, atI0 _ _, dI f.told, dI r.told, dp_dI k2, dp_dI h2, sh_dI _, sh_dI _, _, rfl, ?_⟩
      rw [eqv_dI]
      refine ite2 (fun e1 => ?_) (fun e1 => ?_)
      · have e1 : f.told = r.told := by simpa using e1
        refine ⟨_, rfl, _, rfl, _, _, _, _, rfl, rfl, h1, atIn (x := V.ref c) (by decide) rfl, dI f.cells, dI r.cells, dp_dI k3, dp_dI h3, sh_dI _, sh_dI _, _, rfl, ?_⟩
        rw [eqv_dI]
        refine ite2 (fun e2 => ?_) (fun e2 => ?_)
        · have e2 : f.cells = r.cells := by simpa using e2
          rw [if_pos ⟨e1, e2⟩] at q0
          exact q0
        · rw [if_neg (fun z => e2 (by simpa using z.2))] at q0
          exact q0
      · rw [if_neg (fun z => e1 (by simpa using z.1))] at q0
        exact q0
    · have e := str_ne e
      rw [if_neg e] at q
      refine ⟨_, rfl, _, rfl, _, _, _, _, rfl, rfl, h1, atI0 _ _, _, rfl, t2, _, rfl, .inr k2, _, rfl, t, _, rfl, h2, fun H1 d s1 hd => ?_⟩
      rw [List.length_map, cutTo, ← List.map_take] at hd
      refine ⟨dI f.told, dI (r.told.take f.told.length), dp_dI (tl_same s1 _ _ k2), dp_dI hd, sh_dI _, sh_dI _, _, rfl, ?_⟩
      rw [eqv_dI]
      refine ite2 (fun e1 => ?_) (fun e1 => ?_)
      · have e1 : f.told ≠ r.told.take f.told.length := by simpa using e1
        rw [if_pos e1] at q
        exact q _ s1
      · have e1 : f.told = r.told.take f.told.length := by simpa using e1
        rw [if_neg (by simpa using e1)] at q
        refine ⟨_, rfl, rfl, _, rfl, ?_⟩
        refine ite2 (fun e2 => ?_) (fun e2 => ?_)
        · rw [if_pos (str_eq e2)] at q
          exact q _ s1
        · rw [if_neg (str_ne e2)] at q
          exact q _ s1
theorem sc_judged : FnScope ["program", "inputs", "slip", "most", "machine", "right"] ["program", "inputs", "slip", "most"] (defScope s_judged) := ⟨rfl, rfl, rfl, by decide +kernel, rfl, by decide +kernel, by decide +kernel⟩
def sp_judged (K : PySem.W.Frag) : Sp := fun vs H Q _ => ∃ vp vi u p inp s most N, vs = [vp, vi, u, V.int most] ∧ PgAt K H vp p ∧ PgOk p ∧ p.length < 64 ∧ IsAt K H vi inp ∧ InOk inp ∧ RwAt K H u s ∧ SlOk p s ∧ RunOk p inp N ∧ N ≤ most ∧ most ≤ 100000 ∧ N ≤ 100 ∧
  ∀ H', Same H H' → Q (.str (wordF (rightF p inp N) (outc (goW p inp s (mostF N) ms0)))) H'
theorem right_beats {p : List Rw} {inp : List Int} {N : Nat} (r : RunOk p inp N) : (rightF p inp N).beats = N := run_done r N (Nat.le_refl _)
theorem right_end {p : List Rw} {inp : List Int} {N : Nat} (r : RunOk p inp N) : (rightF p inp N).end_ = "end" := by
  show (itb p inp N ms0).over.getD "dry" = "end"
  rw [r.over]
  rfl
theorem run_most {p : List Rw} {inp : List Int} {N : Nat} (r : RunOk p inp N) {most : Int} (h : N ≤ most) : outc (itb p inp most.toNat ms0) = rightF p inp N := by
  unfold rightF
  rw [run_stay r (show N ≤ most.toNat by omega)]
theorem G_judged (T : Tx w K mg) : Kn PP w K mg base 7 (He.ga K "judged") ["program", "inputs", "slip", "most"] (sp_judged K) := by
  have G_machine_with := G_machine_with (base := base) T
  have G_run := G_run (base := base) T
  have G_go_with := G_go_with (base := base) T
  have G_word_of := G_word_of (base := base) T
  have G_beats_for := G_beats_for (base := base) T
  refine kn_of T.d_judged sc_judged (fun _ _ _ _ _ _ us hl => match us, hl with | [_, _, _, _], _ => rfl) (fun vs H Q E h => ?_) fun cdv A outer s H vs Q E hr h => ?_
  · obtain ⟨vp, vi, u, p, inp, s, most, N, rfl, _⟩ := h; rfl
  · obtain ⟨vp, vi, u, p, inp, sl, most, N, rfl, hp, pok, few, hi, iok, hu, sok, rok, hN, m1, n100, q⟩ := h
    refine ⟨_, (pss_cons (ps_set (i := 4) sc_judged.nd rfl (Or.inl rfl) (pe_kn G_machine_with (hr.mono (by decide)) (by rfl) T.g_machine_with (pa_cons (pv 0) (pa_cons (pv 1) (pa_cons (pv 2) (pa_cons (pv 3) pa_nil))))))
      (pss_cons (ps_set (i := 5) sc_judged.nd rfl (Or.inl rfl) (pe_kn G_run (hr.mono (by decide)) (by rfl) T.g_run (pa_cons (pv 0) (pa_cons (pv 1) (pa_cons (pv 3) pa_nil)))))
      (pss_cons (ps_if (pt_cmpR op_ne (pe_ix ix_tup (pv 5) pe_int (fun _ _ => rfl)) (pe_gx (by rfl) T.i_RIGHT) (nomark _))
        (pss_one ps_never)
        pss_nil)
      (pss_one (ps_ret (pe_kn G_word_of (hr.mono (by decide)) (by rfl) T.g_word_of (pa_cons (pv 5) (pa_cons (pe_kn G_go_with (hr.mono (by decide)) (by rfl) T.g_go_with (pa_cons (pv 4) (pa_cons (pv 0) (pa_cons (pv 2) (pa_cons (pe_kn G_beats_for (hr.mono (by decide)) (by rfl) T.g_beats_for (pa_cons (pv 5) pa_nil)) pa_nil))))) pa_nil)))))))), ?_⟩
    refine ⟨_, rfl, _, rfl, _, rfl, _, rfl, vp, vi, u, p, inp, sl, most, rfl, hp, pok, few, hi, iok, hu, sok, by omega, m1, fun H1 m fp1 s1 n1 hm => ?_⟩
    refine ⟨_, rfl, _, rfl, _, rfl, vp, vi, p, inp, most, rfl, hp.same s1, pok, hi.same s1, iok, by omega, m1, fun H2 v s2 hv => ?_⟩
    rw [run_most rok hN] at hv
    have hv' := hv
    obtain ⟨a, t, c, rfl, h1, h2, h3⟩ := hv'
    rw [right_end rok, right_beats rok] at h1
    refine ⟨_, rfl, _, _, _, _, rfl, rfl, h1, atIn (x := V.str "end") (by decide) rfl, rfl, _, rfl, iteF ?_⟩
    have s12 := s1.trans s2
    refine ⟨_, rfl, _, rfl, _, rfl, _, rfl, _, rfl, _, rightF p inp N, rfl, hv, by rw [right_beats rok]; omega, by rw [right_beats rok]; omega, ?_⟩
    rw [right_beats rok]
    refine ⟨m, p, inp, ms0, fp1, vp, u, sl, mostF N, rfl, hm.same s2, good0 pok.lo, pok, iok, hp.same s12, hu.same s12, sok, by unfold mostF; omega, fun H3 v3 f3 ho => ?_⟩
    have n12 : Same H H3 := n1.frm s1 ((frm_same (fp := fp1) s2).tr f3)
    exact ⟨_, _, rightF p inp N, _, rfl, hv.tl (tl_frm (hm.same s2) f3), ho, fun H4 s4 => q H4 (n12.trans s4)⟩
end

end Sw
/-! SwD20 -/
namespace Sw
set_option Elab.async false
set_option linter.all false
set_option maxRecDepth 100000
set_option maxHeartbeats 4000000
open PySem PySem.Spec PyProof.Rows L2
section
variable {w : World} {K : PySem.W.Frag} {mg : Str → Option Value} {base : Heap}
/-- a pair of a slip and its word -/
def PrAt (K : PySem.W.Frag) (H : Hp) (v : V) (q : Rw × Str) : Prop := ∃ a u, v = .ref a ∧ SqT K H a [u, .str q.2] ∧ RwAt K H u q.1
theorem PrAt.tl {H H' : Hp} {v : V} {q : Rw × Str} (h : PrAt K H v q) (t : Tl K H H') : PrAt K H' v q := by
  obtain ⟨a, u, e, h1, h2⟩ := h
  exact ⟨a, u, e, t _ _ h1, h2.tl t⟩
theorem PrAt.same {H H' : Hp} {v : V} {q : Rw × Str} (h : PrAt K H v q) (s : Same H H') : PrAt K H' v q := h.tl (tl_same s)
theorem map_take1 {α β : Type} (f : α → β) (l : List α) (i : Nat) (x : α) (h : l[i]? = some x) : (l.take (i + 1)).map f = (l.take i).map f ++ [f x] := by
  rw [List.take_add_one, h, List.map_append]
  rfl
theorem sc_all_judged : FnScope ["program", "inputs", "most", "stands", "right", "found", "slip", "outcome"] ["program", "inputs", "most"] (defScope s_all_judged) := ⟨rfl, rfl, rfl, by decide +kernel, rfl, by decide +kernel, by decide +kernel⟩
def sp_all_judged (K : PySem.W.Frag) : Sp := fun vs H Q _ => ∃ vp vi p inp most N, vs = [vp, vi, V.int most] ∧ PgAt K H vp p ∧ PgOk p ∧ p.length < 64 ∧ IsAt K H vi inp ∧ InOk inp ∧ RunOk p inp N ∧ N ≤ most ∧ most ≤ 100000 ∧ N ≤ 100 ∧
  ∀ H' a us, Same H H' → H a = none → H' a = some (.lst us) → Paired (PrAt K H') us (jdL p inp N) → Q (.ref a) H'
theorem G_all_judged (T : Tx w K mg) : Kn PP w K mg base 8 (He.ga K "all_judged") ["program", "inputs", "most"] (sp_all_judged K) := by
  have G_right_stands := G_right_stands (base := base) T
  have G_outcome_of := G_outcome_of (base := base) T
  have G_slips_among := G_slips_among (base := base) T
  have G_Machine_twin := G_Machine_twin (base := base) T
  have G_go_with := G_go_with (base := base) T
  have G_beats_for := G_beats_for (base := base) T
  have G_word_of := G_word_of (base := base) T
  refine kn_of T.d_all_judged sc_all_judged (fun _ _ _ _ _ _ us hl => match us, hl with | [_, _, _], _ => rfl) (fun vs H Q E h => ?_) fun cdv A outer s H vs Q E hr h => ?_
  · obtain ⟨vp, vi, p, inp, most, N, rfl, _⟩ := h; rfl
  · obtain ⟨vp, vi, p, inp, most, N, rfl, hp, pok, few, hi, iok, rok, hN, m1, n100, q⟩ := h
    have sz : 200000 ≤ sizeLine := by decide
    refine ⟨_, (pss_cons (ps_set (i := 3) sc_all_judged.nd rfl (Or.inl rfl) (pe_kn G_right_stands (hr.mono (by decide)) (by rfl) T.g_right_stands (pa_cons (pv 0) (pa_cons (pv 1) (pa_cons (pv 2) pa_nil)))))
      (pss_cons (ps_set (i := 4) sc_all_judged.nd rfl (Or.inl rfl) (pe_kn G_outcome_of (hr.mono (by decide)) (by rfl) T.g_outcome_of (pa_cons (pe_ix ix_list (pv 3) (pe_un un_neg pe_int) (fun _ _ => rfl)) pa_nil)))
      (pss_cons (ps_set (i := 5) sc_all_judged.nd rfl (Or.inl rfl) (pe_lst pa_nil))
      (pss_cons (ps_for PassesOwn.never rfl (pi_list (pe_kn G_slips_among (hr.mono (by decide)) (by rfl) T.g_slips_among (pa_cons (pv 0) (pa_cons (pv 3) pa_nil)))) (pg_name (i := 6) sc_all_judged.nd rfl (Or.inl rfl))
        (pss_cons (ps_set (i := 7) sc_all_judged.nd rfl (Or.inl rfl) (pe_kn G_go_with (hr.mono (by decide)) (by rfl) T.g_go_with (pa_cons (pe_km0 (pe_ix ix_list (pv 3) (pe_ix ix_tup (pv 6) pe_int (fun _ _ => rfl)) (fun _ _ => rfl)) T.c_Machine T.m_Machine_twin G_Machine_twin (hr.mono (by decide))) (pa_cons (pv 0) (pa_cons (pv 6) (pa_cons (pe_kn G_beats_for (hr.mono (by decide)) (by rfl) T.g_beats_for (pa_cons (pv 4) pa_nil)) pa_nil))))))
        (pss_one (ps_expr (pe_bm PySem.F.plainAttrs_list PySem.F.slot_list_append PySem.F.type_list_append mt_append (pv 5) (pa_cons (pe_tup (pa_cons (pv 6) (pa_cons (pe_kn G_word_of (hr.mono (by decide)) (by rfl) T.g_word_of (pa_cons (pv 4) (pa_cons (pv 7) pa_nil))) pa_nil))) pa_nil))))))
      (pss_one (ps_ret (pv 5))))))), ?_⟩
    refine ⟨_, rfl, _, rfl, _, rfl, vp, vi, p, inp, most, N, rfl, hp, pok, hi, iok, rok, hN, m1, fun H1 v s1 hst => ?_⟩
    obtain ⟨sa, svs, rfl, hsa, spr⟩ := id hst
    have hsl : svs.length = N + 1 := by rw [Paired.length spr]; unfold stL; rw [List.length_map, List.length_range]
    have mk : ∀ {H' : Hp} {i : Nat}, Same H1 H' → i ≤ N → ∃ m fq, svs[i]? = some (V.ref m) ∧ Mch K H' m p inp (itb p inp i ms0) fq := fun {H' i} s hi => by
      have e : (stL p inp N)[i]? = some (itb p inp i ms0) := by
        unfold stL
        rw [List.getElem?_map, List.getElem?_range (by omega)]
        rfl
      obtain ⟨v, ev, m, fq, rfl, h⟩ := Paired.at_ spr e
      exact ⟨m, fq, ev, h.same s⟩
    obtain ⟨mN, fN, eN, hmN⟩ := mk (fun _ _ z => z) (Nat.le_refl N)
    refine ⟨_, rfl, _, rfl, _, _, _, _, rfl, rfl, sq_lst hsa, atI_last (by rw [hsl]; exact eN), mN, p, inp, _, fN, rfl, hmN, fun H2 vr s2 hr => ?_⟩
    have hr : OcAt K H2 vr (rightF p inp N) := hr
    refine ⟨by decide, fun l hl => ?_⟩
    have s3 := same_new (o := .lst []) hl
    have hl3 : (upd H2 l (.lst [])) l = some (.lst []) := upd_same
    have s13 := s2.trans s3
    have hr3 := hr.same s3
    have lH : H l = none := by cases e : H l with | none => rfl | some o => rw [s2 _ _ (s1 _ _ e)] at hl; cases hl
    generalize upd H2 l (.lst []) = H3 at s3 hl3 s13 hr3
    have s03 := s1.trans s13
    refine ⟨_, rfl, _, rfl, vp, _, p, inp, N, rfl, hp.same s03, pok, few, iok, hst.same s13, run_pos rok, n100, fun H4 b us s4 hb hb4 upr => ?_⟩
    have hl4 := s4 _ _ hl3
    have bl : b ≠ l := fun e => by rw [e, hl3] at hb; cases hb
    have s14 := s13.trans s4
    have s04 := s03.trans s4
    have hr4 := hr3.same s4
    have hp4 := hp.same s04
    have hsa4 := s14 _ _ hsa
    have sal : sa ≠ l := fun e => by rw [e] at hsa; rw [s2 _ _ hsa] at hl; cases hl
    have ulen : us.length ≤ 91200 := by
      rw [Paired.length upr]
      have := @slL_len p inp N
      omega
    refine ⟨b, rfl, ⟨_, sq_lst hb4⟩, ?_⟩
    have lf : ∀ {m : Addr} {st : MS} {fq : List Addr}, Mch K H1 m p inp st fq → l ∉ fq := fun h z => by
      obtain ⟨o, y, _⟩ := h.there l z
      rw [s2 _ _ y] at hl; cases hl
    refine for_it walk_list (fun i σ H' => ∃ x6 x7, σ = [some vp, some vi, some (.int most), some (.ref sa), some vr, some (.ref l), x6, x7] ∧ Frm [l] H4 H' ∧ ∃ ws, H' l = some (.lst ws) ∧ Paired (PrAt K H') ws (((slL p inp N).take i).map fun s => (s, jdF p inp N s)))
      ⟨none, none, rfl, Frm.refl _ _, [], hl4, .nil⟩ (fun i σ H' _ h => by obtain ⟨_, _, _, f, _⟩ := h; exact sq_lst (f _ _ hb4 (by simpa using bl))) ?_ ?_
    · rintro i x σ Hx H5 hi ⟨x6, x7, rfl, f5, ws, hl5, pr5⟩ ⟨rfl, e⟩
      obtain ⟨sl, esl, hx4⟩ := Paired.at1 upr e
      obtain ⟨sok, bt, ebt, hbt⟩ := slL_ok pok (by omega) (List.mem_of_getElem? esl)
      have t5 := tl_frm1 (K := K) hl4 f5
      have hx5 := hx4.tl t5
      obtain ⟨xa, rfl, hxa⟩ := id hx5
      obtain ⟨mb, fb, emb, hmb⟩ := mk (fun _ _ z => z) (Nat.le_of_lt hbt)
      have hmb5 := (hmb.same s14).frm (fun c hc hc2 => lf hmb (by rw [← List.mem_singleton.mp hc2]; exact hc)) f5 t5
      obtain ⟨dm, va, vi', lw, ls, ld, lt, ho⟩ := mch_o hmb5
      have es1 : (V.str sl.1 :: sl.2.map V.int)[1]? = some (V.int ((bt : Nat) : Int)) := by
        cases sok with
        | box b x z => rw [← ebt]; rfl
        | way b c => rw [← ebt]; rfl
      have g := good_itb (p := p) (inp := inp) pok iok bt (good0 pok.lo)
      refine ⟨_, rfl, _, rfl, _, _, _, _, rfl, rfl, hxa, atIn (by decide) es1, _, _, _, _, rfl, rfl, sq_lst (f5 _ _ hsa4 (by simpa using sal)), atIn (x := V.ref mb) (by omega) (by rw [show ((bt : Nat) : Int).toNat = bt by omega]; exact emb), mb, dm, _, rfl, ho, rfl, mb, p, inp, _, fb, rfl, hmb5, g.two, pok, iok, fun H6 m' fp' s6 n6 hm6 => ?_⟩
      have hr6 := (hr4.tl t5).same s6
      refine ⟨_, rfl, _, rfl, _, rfl, _, rightF p inp N, rfl, hr6, by rw [right_beats rok]; omega, by rw [right_beats rok]; omega, ?_⟩
      rw [right_beats rok]
      refine ⟨m', p, inp, itb p inp bt ms0, fp', vp, _, sl, mostF N, rfl, hm6, g, pok, iok, (hp4.tl t5).same s6, hx5.same s6, sok, by unfold mostF; omega, fun H7 v7 f7 ho7 => ?_⟩
      have s67 : Same H5 H7 := New.frm (H := H5) n6 s6 f7
      have t57 := t5.trans (tl_same (K := K) s67)
      have hl7 := s67 _ _ hl5
      refine ⟨_, rfl, .inl ⟨rfl, _, sq_lst hl7⟩, _, rfl, _, rfl, _, rfl, _, _, rightF p inp N, _, rfl, hr4.tl t57, ho7, fun H8 s8 => ?_⟩
      refine ⟨by show 2 ≤ sizeLine; decide, fun pa hpa => ?_⟩
      have s58 := s67.trans s8
      have ew : wordF (rightF p inp N) (outc (goW p inp sl (mostF N) (itb p inp bt ms0))) = jdF p inp N sl := by unfold jdF; rw [ebt]; rfl
      rw [ew]
      have s9 := s58.trans (same_new (o := .tup [.ref xa, .str (jdF p inp N sl)]) hpa)
      have hl9 := s9 _ _ hl5
      have pa9 : (upd H8 pa (.tup [V.ref xa, .str (jdF p inp N sl)])) pa = some (.tup [V.ref xa, .str (jdF p inp N sl)]) := upd_same
      generalize upd H8 pa (.tup [V.ref xa, .str (jdF p inp N sl)]) = H9 at s9 hl9 pa9
      have hwl : ws.length ≤ i := by rw [Paired.length pr5, List.length_map, List.length_take]; omega
      refine ⟨l, ws, _, rfl, rfl, hl9, by omega, ?_⟩
      have tl := tl_lst (K := K) (o := .lst (ws ++ [V.ref pa])) hl9
      refine ⟨_, _, rfl, (f5.tr (frm_same (fp := [l]) s9)).tr (frm_upd (.head _)), ws ++ [V.ref pa], upd_same, ?_⟩
      rw [map_take1 _ _ _ _ esl]
      exact Paired.snoc (F := PrAt K _) ⟨pa, _, rfl, tl _ _ (sq_tup pa9), (hx5.same s9).tl tl⟩ (Paired.mapP pr5 fun _ _ z => (z.same s9).tl tl)
    · rintro σ H5 ⟨x6, x7, rfl, f5, ws, hl5, pr5⟩
      rw [Paired.length upr, List.take_length] at pr5
      refine ⟨_, rfl, q H5 l ws (fun b o e => f5 b o (s04 b o e) (by simpa using ne_of_none e lH)) lH hl5 pr5⟩
end

end Sw
/-! SwD21 -/
namespace Sw
set_option Elab.async false
set_option linter.all false
set_option maxRecDepth 100000
set_option maxHeartbeats 4000000
open PySem PySem.Spec PyProof.Rows L2
def cnt4 (a b c d : Nat) : List (Key × V) := [(Sum.inr "mended", .int (a : Nat)), (Sum.inr "told", .int (b : Nat)), (Sum.inr "still", .int (c : Nat)), (Sum.inr "wrong", .int (d : Nat))]
def cw (x : Str) (js : List (Rw × Str)) : Nat := js.countP fun q => decide (q.2 = x)
theorem cnt_eq (js : List (Rw × Str)) : cntL js = cnt4 (cw "mended" js) (cw "told" js) (cw "still" js) (cw "wrong" js) := rfl
theorem cw_snoc (x : Str) (js : List (Rw × Str)) (q : Rw × Str) : cw x (js ++ [q]) = cw x js + (if q.2 = x then 1 else 0) := by
  unfold cw
  rw [List.countP_append, List.countP_cons, List.countP_nil]
  by_cases h : q.2 = x <;> simp [h]
theorem word4 (r f : Oc) : wordF r f = "mended" ∨ wordF r f = "told" ∨ wordF r f = "still" ∨ wordF r f = "wrong" := by
  unfold wordF
  split
  · split <;> simp
  · split
    · simp
    · split <;> simp
theorem cnt_step (js : List (Rw × Str)) (q : Rw × Str) (h : q.2 = "mended" ∨ q.2 = "told" ∨ q.2 = "still" ∨ q.2 = "wrong") : ∃ n : Int, valV (cntL js) (Sum.inr q.2) = some (.int n) ∧ putK (cntL js) (Sum.inr q.2) (.int (n + 1)) = cntL (js ++ [q]) := by
  rw [cnt_eq, cnt_eq, cw_snoc, cw_snoc, cw_snoc, cw_snoc]
  generalize cw "mended" js = a
  generalize cw "told" js = b
  generalize cw "still" js = c
  generalize cw "wrong" js = d
  rcases h with h | h | h | h
  · rw [h]; exact ⟨(a : Nat), rfl, rfl⟩
  · rw [h]; exact ⟨(b : Nat), rfl, rfl⟩
  · rw [h]; exact ⟨(c : Nat), rfl, rfl⟩
  · rw [h]; exact ⟨(d : Nat), rfl, rfl⟩
section
variable {w : World} {K : PySem.W.Frag} {mg : Str → Option Value} {base : Heap}
theorem jd_word {p : List Rw} {inp : List Int} {N : Nat} {q : Rw × Str} (h : q ∈ jdL p inp N) : q.2 = "mended" ∨ q.2 = "told" ∨ q.2 = "still" ∨ q.2 = "wrong" := by
  obtain ⟨s, _, rfl⟩ := List.mem_map.mp h
  exact word4 _ _
theorem sc_tally : FnScope ["program", "inputs", "most", "found", "word", "slip"] ["program", "inputs", "most"] (defScope s_tally) := ⟨rfl, rfl, rfl, by decide +kernel, rfl, by decide +kernel, by decide +kernel⟩
def sp_tally (K : PySem.W.Frag) : Sp := fun vs H Q _ => ∃ vp vi p inp most N, vs = [vp, vi, V.int most] ∧ PgAt K H vp p ∧ PgOk p ∧ p.length < 64 ∧ IsAt K H vi inp ∧ InOk inp ∧ RunOk p inp N ∧ N ≤ most ∧ most ≤ 100000 ∧ N ≤ 100 ∧
  ∀ H' d, Same H H' → H d = none → H' d = some (.dK (cntL (jdL p inp N))) → Q (.ref d) H'
theorem G_tally (T : Tx w K mg) : Kn PP w K mg base 9 (He.ga K "tally") ["program", "inputs", "most"] (sp_tally K) := by
  have G_all_judged := G_all_judged (base := base) T
  refine kn_of T.d_tally sc_tally (fun _ _ _ _ _ _ us hl => match us, hl with | [_, _, _], _ => rfl) (fun vs H Q E h => ?_) fun cdv A outer s H vs Q E hr h => ?_
  · obtain ⟨vp, vi, p, inp, most, N, rfl, _⟩ := h; rfl
  · obtain ⟨vp, vi, p, inp, most, N, rfl, hp, pok, few, hi, iok, rok, hN, m1, n100, q⟩ := h
    have sz : 200000 ≤ sizeLine := by decide
    refine ⟨_, (pss_cons (ps_set (i := 3) sc_tally.nd rfl (Or.inl rfl) (pe_callTy (call_dictP rfl) (by rfl) T.f_dict (by decide +kernel) (pa_cons (pe_lc (own := [("word", 4)]) (g := gName 4) rfl sc_tally.nd (pi_tup (pe_gx (by rfl) T.o_WORDS)) (blkOk_by (own := [("word", 4)]) (N := ["program", "inputs", "most", "found", "word", "slip"]) (sc := defScope s_tally) (by decide +kernel)) (fun _ _ _ _ _ => (pg_name (i := 4) sc_tally.nd rfl (Or.inl rfl))) (fun _ _ _ _ _ => pts_nil) (fun _ _ _ _ _ => (pe_tup (pa_cons (pv 4) (pa_cons pe_int pa_nil))))) pa_nil)))
      (pss_cons (ps_for PassesOwn.never rfl (pi_list (pe_kn G_all_judged (hr.mono (by decide)) (by rfl) T.g_all_judged (pa_cons (pv 0) (pa_cons (pv 1) (pa_cons (pv 2) pa_nil))))) (pg_tup rfl (pgs_cons (pg_name (i := 5) sc_tally.nd rfl (Or.inl rfl)) (pgs_cons (pg_name (i := 4) sc_tally.nd rfl (Or.inl rfl)) pgs_nil)))
        (pss_one (ps_daug (hu_of hr) (pv 3) (pv 4) pe_int in_add (fun _ _ _ => rfl))))
      (pss_one (ps_ret (pv 3))))), ?_⟩
    refine ⟨_, rfl, ⟨_, T.tWORDS H⟩, fun D hD => ?_⟩
    refine lc_all (G := fun H' => SqT K H' (He.ga K "WORDS") (wordsL.map V.str)) walk_tup (fun i => wordsL.getD i "") (fun v x H' => ∃ q, v = .ref q ∧ H' q = some (.tup [.str x, .int 0])) (fun v n H' H'' h s => by obtain ⟨q, e, h⟩ := h; exact ⟨q, e, s _ _ h⟩) (fun v n H' l xs zs h hl => by obtain ⟨q, e, h⟩ := h; exact ⟨q, e, by rw [upd_ne (ne_of h hl (by intro z; cases z))]; exact h⟩) (by decide) hD (fun H' _ => T.tWORDS H') ?_ ?_
    · rintro j y H4 H5 Qe hj s4 ⟨rfl, e4⟩ qe
      rw [List.getElem?_map] at e4
      obtain ⟨z, e5, rfl⟩ := Option.map_eq_some_iff.mp e4
      refine ⟨rfl, _, rfl, by show 2 ≤ sizeLine; decide, fun q2 hq2 => ?_⟩
      exact qe _ _ (same_new hq2) ⟨q2, rfl, by rw [List.getD_eq_getElem?_getD, e5]; exact upd_same⟩
    · intro H1 acc s1 hl1 pr1
      rw [show (List.range (wordsL.map V.str).length).map (fun i => wordsL.getD i "") = wordsL from rfl] at pr1
      obtain ⟨ps, rfl, pp⟩ : ∃ ps : List Addr, acc = ps.map V.ref ∧ Paired (fun q (kv : Key × V) => SqT K H1 q [kV kv.1, kv.2]) ps (wordsL.map fun n => (Sum.inr n, V.int 0)) := by
        clear hl1
        revert pr1
        generalize wordsL = ns
        intro pr1
        induction pr1 with
        | nil => exact ⟨[], rfl, .nil⟩
        | cons h t ih =>
          obtain ⟨q, e, h⟩ := h
          obtain ⟨ps, e2, pp⟩ := ih
          exact ⟨q :: ps, by rw [e, e2]; rfl, .cons (sq_tup h) pp⟩
      refine ⟨D, ps, _, rfl, sq_lst hl1, pp, fun d hd => ?_⟩
      rw [show mergeK [] (wordsL.map fun n => ((Sum.inr n : Key), V.int 0)) = cntL [] from rfl]
      have s2 := same_new (o := .dK (cntL [])) hd
      have hd2 : (upd H1 d (.dK (cntL []))) d = some (.dK (cntL [])) := upd_same
      have dH : H d = none := by cases e : H d with | none => rfl | some o => rw [s1 _ _ e] at hd; cases hd
      generalize upd H1 d (.dK (cntL [])) = H2 at s2 hd2
      have s02 := s1.trans s2
      refine ⟨_, rfl, _, rfl, _, rfl, vp, vi, p, inp, most, N, rfl, hp.same s02, pok, few, hi.same s02, iok, rok, hN, m1, n100, fun H3 a us s3 ha ha3 upr => ?_⟩
      have hd3 := s3 _ _ hd2
      have ad : a ≠ d := fun e => by rw [e, hd2] at ha; cases ha
      have s03 := s02.trans s3
      have fk : ∀ {H' : Hp}, Frm [d] H3 H' → Tl K H3 H' := fun {H'} f x ys z => by
        have k : ∀ o, H3 x = some o → (∀ zs, o ≠ .dK zs) → H' x = some o := fun o e y => f x o e fun m => by
          rw [List.mem_singleton.mp m, hd3] at e
          injection e with e
          exact y _ e.symm
        rcases z with (z | ⟨u, z⟩) | z
        · exact .inl (.inl (k _ z fun zs y => by cases y))
        · exact .inl (.inr ⟨u, k _ z fun zs y => by cases y⟩)
        · exact .inr z
      refine ⟨a, rfl, ⟨_, sq_lst ha3⟩, ?_⟩
      refine for_it walk_list (fun i σ H' => ∃ x4 x5, σ = [some vp, some vi, some (.int most), some (.ref d), x4, x5] ∧ Frm [d] H3 H' ∧ H' d = some (.dK (cntL ((jdL p inp N).take i)))) ⟨_, _, rfl, Frm.refl _ _, hd3⟩
        (fun i σ H' _ h => by obtain ⟨_, _, _, f, _⟩ := h; exact sq_lst (f _ _ ha3 (by simpa using ad))) ?_ ?_
      · rintro i x σ Hx H5 hi ⟨x4, x5, rfl, f5, hd5⟩ ⟨rfl, e⟩
        obtain ⟨js, ejs, hx⟩ := Paired.at1 upr e
        obtain ⟨xa, u, rfl, hxa, _⟩ := hx.tl (fk f5)
        obtain ⟨n, en, ep⟩ := cnt_step ((jdL p inp N).take i) js (jd_word (List.mem_of_getElem? ejs))
        refine ⟨xa, _, rfl, hxa, rfl, _, _, rfl, _, _, rfl, rfl, ?_⟩
        refine ⟨_, rfl, _, rfl, d, _, rfl, by have := DGet.k (k := Sum.inr js.2) hd5; rw [en] at this; exact this, n, 1, rfl, rfl, _, DPut.k (k := Sum.inr js.2) hd5 (by rw [cnt_eq]; show 4 < sizeLine; decide), ?_⟩
        rw [ep]
        refine ⟨_, _, rfl, f5.tr (frm_upd (.head _)), ?_⟩
        rw [upd_same, List.take_add_one, ejs]
        rfl
      · rintro σ H5 ⟨x4, x5, rfl, f5, hd5⟩
        rw [Paired.length upr, List.take_length] at hd5
        exact ⟨_, rfl, q H5 d (fun b o e => f5 b o (s03 b o e) (by simpa using ne_of_none e dH)) dH hd5⟩
theorem sc_first_wrong : FnScope ["program", "inputs", "most", "some", "wanted", "fit", "slip", "word"] ["program", "inputs", "most"] (defScope s_first_wrong) := ⟨rfl, rfl, rfl, by decide +kernel, rfl, by decide +kernel, by decide +kernel⟩
def sp_first_wrong (K : PySem.W.Frag) : Sp := fun vs H Q _ => ∃ vp vi p inp most N, vs = [vp, vi, V.int most] ∧ PgAt K H vp p ∧ PgOk p ∧ p.length < 64 ∧ IsAt K H vi inp ∧ InOk inp ∧ RunOk p inp N ∧ N ≤ most ∧ most ≤ 100000 ∧ N ≤ 100 ∧
  ∀ H' v, Same H H' → (match fwF (jdL p inp N) with | none => v = .non | some s => RwAt K H' v s) → Q v H'
theorem fst_mem {x : Str} {js : List (Rw × Str)} {s : Rw} (h : s ∈ fstW x js) : (s, x) ∈ js := by
  unfold fstW at h
  obtain ⟨q, hq, e⟩ := List.mem_filterMap.mp h
  split at e
  · rename_i h2
    injection e with e
    subst e; subst h2
    exact hq
  · cases e
theorem G_first_wrong (T : Tx w K mg) : Kn PP w K mg base 9 (He.ga K "first_wrong") ["program", "inputs", "most"] (sp_first_wrong K) := by
  have G_all_judged := G_all_judged (base := base) T
  refine kn_of T.d_first_wrong sc_first_wrong (fun _ _ _ _ _ _ us hl => match us, hl with | [_, _, _], _ => rfl) (fun vs H Q E h => ?_) fun cdv A outer s H vs Q E hr h => ?_
  · obtain ⟨vp, vi, p, inp, most, N, rfl, _⟩ := h; rfl
  · obtain ⟨vp, vi, p, inp, most, N, rfl, hp, pok, few, hi, iok, rok, hN, m1, n100, q⟩ := h
    have sz : 200000 ≤ sizeLine := by decide
    refine ⟨_, (pss_cons (ps_set (i := 3) sc_first_wrong.nd rfl (Or.inl rfl) (pe_kn G_all_judged (hr.mono (by decide)) (by rfl) T.g_all_judged (pa_cons (pv 0) (pa_cons (pv 1) (pa_cons (pv 2) pa_nil)))))
      (pss_cons (ps_for PassesOwn.never rfl (pi_tup (pe_tup (pa_cons pe_str (pa_cons pe_str pa_nil)))) (pg_name (i := 4) sc_first_wrong.nd rfl (Or.inr rfl))
        (pss_cons (ps_setLc (i := 5) (own := [("slip", 6), ("word", 7)])  rfl sc_first_wrong.nd rfl rfl (sw_true rfl rfl rfl (by decide +kernel)) (pi_list (pv 3)) (blkOk_by (own := [("slip", 6), ("word", 7)]) (N := ["program", "inputs", "most", "some", "wanted", "fit", "slip", "word"]) (sc := defScope s_first_wrong) (by decide +kernel)) (fun _ _ _ _ _ => (show PG _ _ (gTup K 2 _) from pg_tup rfl (pgs_cons (pg_name (i := 6) sc_first_wrong.nd rfl (Or.inl rfl)) (pgs_cons (pg_name (i := 7) sc_first_wrong.nd rfl (Or.inl rfl)) pgs_nil)))) (fun _ _ _ _ _ => pts_one (pt_cmpR op_eq (pv 7) (pv 4) (nomark _))) (fun _ _ _ _ _ => (pv 6)))
        (pss_one (ps_if (pt_cmpR (op_neD hr.units) (pv 5) (pe_lst pa_nil) (nomark _))
          (pss_one (ps_ret (pe_ix ix_list (pv 5) pe_int (fun _ _ => rfl))))
          pss_nil))))
      (pss_one (ps_ret pe_non)))), ?_⟩
    refine ⟨_, rfl, _, rfl, _, rfl, vp, vi, p, inp, most, N, rfl, hp, pok, few, hi, iok, rok, hN, m1, n100, fun H1 a us s1 ha ha1 upr => ?_⟩
    have ulen : us.length ≤ 91200 := by
      rw [Paired.length upr]
      unfold jdL
      rw [List.length_map]
      have := @slL_len p inp N
      omega
    refine ⟨by show 2 ≤ sizeLine; decide, fun tp htp => ?_⟩
    have s2 := same_new (o := .tup [V.str "wrong", .str "still"]) htp
    have htp2 : (upd H1 tp (.tup [V.str "wrong", .str "still"])) tp = some (.tup [V.str "wrong", .str "still"]) := upd_same
    generalize upd H1 tp (.tup [V.str "wrong", .str "still"]) = H2 at s2 htp2
    refine ⟨tp, rfl, ⟨_, sq_tup htp2⟩, ?_⟩
    have ha2 := s2 _ _ ha1
    have s02 := s1.trans s2
    have upr2 : Paired (PrAt K H2) us (jdL p inp N) := Paired.mapP upr fun _ _ z => z.same s2
    refine for_it walk_tup (fun i σ H' => ∃ x4 x5, σ = [some vp, some vi, some (.int most), some (.ref a), x4, x5, none, none] ∧ Same H2 H' ∧ (1 ≤ i → fstW "wrong" (jdL p inp N) = []) ∧ (2 ≤ i → fstW "still" (jdL p inp N) = []))
      ⟨none, none, rfl, fun _ _ z => z, fun h => by omega, fun h => by omega⟩ (fun i σ H' _ h => by obtain ⟨_, _, _, s, _⟩ := h; exact sq_tup (s _ _ htp2)) ?_ ?_
    · rintro i x σ Hx H5 hi ⟨x4, x5, rfl, s5, w1, w2⟩ ⟨rfl, e⟩
      have hi : i < 2 := hi
      obtain ⟨wd, rfl, hwd⟩ : ∃ wd : Str, x = .str wd ∧ ((i = 0 ∧ wd = "wrong") ∨ (i = 1 ∧ wd = "still")) := by
        rcases i with _ | _ | i
        · exact ⟨"wrong", (Option.some.inj e).symm, .inl ⟨rfl, rfl⟩⟩
        · exact ⟨"still", (Option.some.inj e).symm, .inr ⟨rfl, rfl⟩⟩
        · omega
      have ha5 := s5 _ _ ha2
      refine ⟨_, rfl, a, rfl, ⟨_, sq_lst ha5⟩, fun D hD => ?_⟩
      refine lc_pure (G := fun H' => SqL K H' a us) walk_list (fun j => ((jdL p inp N)[j]?).bind fun q => if q.2 = wd then some q.1 else none) (fun v r H' => RwAt K H' v r) (fun _ _ _ _ h s => h.same s) (fun _ _ _ l xs zs h hl => h.tl (tl_lst hl)) (by omega) hD (fun H' s => sq_lst (s _ _ ha5)) ?_ ?_
      · rintro j x Ha Hb Qe Qn hj s ⟨rfl, ex⟩ qe qn
        obtain ⟨jq, ejq, hx⟩ := Paired.at1 upr2 ex
        obtain ⟨xa, u, rfl, hxa, hu⟩ := hx.same (s5.trans s)
        refine ⟨xa, _, rfl, hxa, rfl, _, _, rfl, _, _, rfl, rfl, rfl, ?_⟩
        refine ⟨_, rfl, _, rfl, rfl, _, rfl, ?_⟩
        refine ite2 (fun e => ?_) (fun e => ?_)
        · have e := str_eq e
          exact ⟨_, rfl, qe _ _ jq.1 (fun _ _ z => z) (by rw [ejq]; exact if_pos e) hu⟩
        · exact qn _ (fun _ _ z => z) (by rw [ejq]; exact if_neg (str_ne e))
      · intro Ha acc sa hDa pra
        rw [Paired.length upr2, fm_range] at pra
        have pra : Paired (RwAt K Ha) acc (fstW wd (jdL p inp N)) := pra
        refine ⟨_, rfl, by decide, fun l0 hl0 => ?_⟩
        have s6 := same_new (o := .lst []) hl0
        have h0 : (upd Ha l0 (.lst [])) l0 = some (.lst []) := upd_same
        have hD6 := s6 _ _ hDa
        have pr6 : Paired (RwAt K (upd Ha l0 (.lst []))) acc (fstW wd (jdL p inp N)) := Paired.mapP pra fun _ _ z => z.same s6
        generalize upd Ha l0 (.lst []) = H6 at s6 h0 hD6 pr6
        have sok : ∀ s ∈ fstW wd (jdL p inp N), PyData.strOk s.1 = true := fun s hs => by
          have := fst_mem hs
          obtain ⟨s', hs', e⟩ := List.mem_map.mp this
          injection e with e1 e2
          subst e1
          exact (slL_ok pok (by omega) hs').1.strOk
        refine ⟨.list ((fstW wd (jdL p inp N)).map dR), .list [], .lst (sq_lst hD6) (dp_all (fun _ _ z => dp_dR z) pr6), .lst (sq_lst h0) .nil, ?_, by decide, _, rfl, ?_⟩
        · have h1 := can_all (f := dR) (l := fstW wd (jdL p inp N)) fun s hs => can_dR (sok s hs)
          have h2 := dep_all (f := dR) (n := 1) (l := fstW wd (jdL p inp N)) fun s _ => Nat.le_of_eq dep_dR
          show (PyData.canLay0 (.list _) && decide (PyData.depth (.list _) ≤ 64)) = true
          rw [PyData.canLay0, PyData.depth, h1, Bool.true_and, decide_eq_true_eq]
          exact Nat.le_trans (Nat.add_le_add_right h2 1) (show 1 + 1 ≤ 64 by decide)
        · have s06 := s02.trans (s5.trans (sa.trans s6))
          cases ef : fstW wd (jdL p inp N) with
          | nil =>
            rw [show PyData.eqv (.list (([] : List Rw).map dR)) (.list []) = true by simp [PyData.eqv, PyData.eqvAll]]
            refine iteF ⟨_, _, rfl, s5.trans (sa.trans s6), fun _ => ?_, fun _ => ?_⟩
            · rcases hwd with ⟨rfl, rfl⟩ | ⟨rfl, rfl⟩
              · exact ef
              · exact w1 (Nat.le_refl _)
            · rcases hwd with ⟨rfl, rfl⟩ | ⟨rfl, rfl⟩
              · omega
              · exact ef
          | cons y ys =>
            rw [show PyData.eqv (.list ((y :: ys).map dR)) (.list []) = false by simp [PyData.eqv, PyData.eqvAll]]
            rw [ef] at pr6
            cases pr6 with
            | cons hy ty =>
              refine iteT ⟨_, rfl, _, _, _, _, rfl, rfl, sq_lst hD6, atI0 _ _, q H6 _ s06 ?_⟩
              have : fwF (jdL p inp N) = some y := by
                unfold fwF
                rcases hwd with ⟨rfl, rfl⟩ | ⟨rfl, rfl⟩
                · rw [ef]
                · rw [w1 (Nat.le_refl _), ef]; rfl
              rw [this]
              exact hy
    · rintro σ H5 ⟨x4, x5, rfl, s5, w1, w2⟩
      refine q H5 .non (s02.trans s5) ?_
      have : fwF (jdL p inp N) = none := by
        unfold fwF
        rw [w1 (by decide), w2 (by decide)]
        rfl
      rw [this]
end

end Sw
/-! SwL1 -/
namespace Sw
set_option Elab.async false
set_option linter.all false
set_option maxRecDepth 100000
set_option maxHeartbeats 4000000
open PySem PySem.Spec PyProof.Rows L2
section
variable {w : World} {K : PySem.W.Frag} {mg : Str → Option Value} {base : Heap}
/-- the numbers of the script, and how many were taken -/
structure Scr (K : PySem.W.Frag) (H : Hp) (a b : Addr) (cs : List Int) (k : Int) : Prop where
  c0 : (Rd H a (.lst (cs.map V.int)) ∧ a ≠ b) ∨ ∀ H', SqL K H' a (cs.map V.int)
  len : cs.length ≤ 63
  s : H b = some (.lst [.int k])
  k0 : 0 ≤ k
  k1 : k ≤ 1000
theorem Scr.c {H : Hp} {a b : Addr} {cs : List Int} {k : Int} (h : Scr K H a b cs k) : SqL K H a (cs.map V.int) := by
  rcases h.c0 with q | q
  · exact .inl q.1
  · exact q H
theorem Scr.same {H H' : Hp} {a b : Addr} {cs : List Int} {k : Int} (h : Scr K H a b cs k) (s : Same H H') : Scr K H' a b cs k := by
  refine ⟨?_, h.len, s _ _ h.s, h.k0, h.k1⟩
  rcases h.c0 with ⟨q | ⟨u, q⟩, e⟩ | q
  · exact .inl ⟨.inl (s _ _ q), e⟩
  · exact .inl ⟨.inr ⟨u, s _ _ q⟩, e⟩
  · exact .inr q
theorem Scr.next {H : Hp} {a b : Addr} {cs : List Int} {k k' : Int} (h : Scr K H a b cs k) (h0 : 0 ≤ k') (h1 : k' ≤ 1000) : Scr K (upd H b (.lst [.int k'])) a b cs k' := by
  refine ⟨?_, h.len, upd_same, h0, h1⟩
  rcases h.c0 with ⟨q | ⟨u, q⟩, e⟩ | q
  · exact .inl ⟨.inl (by rw [upd_ne e]; exact q), e⟩
  · exact .inl ⟨.inr ⟨u, by rw [upd_ne e]; exact q⟩, e⟩
  · exact .inr q
/-- the script and a new place -/
theorem scr_new {H : Hp} {a b : Addr} {cs : List Int} (h : SqL K H a (cs.map V.int)) (len : cs.length ≤ 63) (hb : H b = none) : Scr K (upd H b (.lst [.int 0])) a b cs 0 := by
  refine ⟨?_, len, upd_same, by decide, by decide⟩
  rcases h with (q | ⟨u, q⟩) | q
  · exact .inl ⟨.inl (same_new hb _ _ q), ne_of_none q hb⟩
  · exact .inl ⟨.inr ⟨u, same_new hb _ _ q⟩, ne_of_none q hb⟩
  · exact .inr fun H' => .inr q
theorem sc_law_cell : FnScope ["_law_cells", "_law_spot", "_law_k", "_law_own", "_law_turn", "_law_prime", "_law_cell_here", "_law_times", "_law_number"] ["_law_cells", "_law_spot"] (defScope s_law_cell) := ⟨rfl, rfl, rfl, by decide +kernel, rfl, by decide +kernel, by decide +kernel⟩
def sp_cell (K : PySem.W.Frag) : Sp := fun vs H Q _ => ∃ a b cs k, vs = [V.ref a, .ref b] ∧ Scr K H a b cs k ∧ k + 1 ≤ 1000 ∧ ∀ n, 0 ≤ n → n < 306783379 → Q (.int n) (upd H b (.lst [.int (k + 1)]))
theorem G_law_cell (T : Tx w K mg) : Kn PP w K mg base 1 (He.ga K "_law_cell") ["_law_cells", "_law_spot"] (sp_cell K) := by
  refine kn_of T.d_law_cell sc_law_cell (fun _ _ _ _ _ _ us hl => match us, hl with | [_, _], _ => rfl) (fun vs H Q E h => ?_) fun cdv A outer s H vs Q E hr h => ?_
  · obtain ⟨a, b, cs, k, rfl, _⟩ := h; rfl
  · obtain ⟨a, b, cs, k, rfl, hs, k1, q⟩ := h
    have k0 := hs.k0
    have hn := hs.next (k' := k + 1) (by omega) k1
    refine ⟨_, (pss_cons (ps_asg (pe_op op_add (pe_ix ix_list (pv 1) pe_int (fun _ _ => rfl)) pe_int) (pg_sub (pv 1) pe_int set_list))
      (pss_cons (ps_set (i := 2) sc_law_cell.nd rfl (Or.inl rfl) (pe_ix ix_list (pv 1) pe_int (fun _ _ => rfl)))
      (Evl.pss_cut (ps_if (PW.pt (pw_and (pt_cmpR op_gt (pe_callB call_len_seq (by rfl) T.f_len (by decide +kernel) (pa_cons (pv 0) pa_nil)) pe_int (nomark _)) (pw_and (pt_cmpR op_ge (pe_ix ix_list (pv 0) (pe_op op_mod (pv 2) (pe_callB call_len_seq (by rfl) T.f_len (by decide +kernel) (pa_cons (pv 0) pa_nil))) (fun _ _ => rfl)) (pe_op op_pow pe_int pe_int) (nomark _)) (pw_and1 (pt_cmpR op_lt (pe_op op_fdiv (pv 2) (pe_callB call_len_seq (by rfl) T.f_len (by decide +kernel) (pa_cons (pv 0) pa_nil))) pe_int (nomark _))))))
        (pss_cons (ps_set (i := 3) sc_law_cell.nd rfl (Or.inl rfl) (pe_ix ix_list (pv 0) (pe_op op_mod (pv 2) (pe_callB call_len_seq (by rfl) T.f_len (by decide +kernel) (pa_cons (pv 0) pa_nil))) (fun _ _ => rfl)))
        (pss_cons (ps_for PassesOwn.never rfl (pi_range1 (by rfl) T.f_range (pa_cons (pe_op op_fdiv (pv 2) (pe_callB call_len_seq (by rfl) T.f_len (by decide +kernel) (pa_cons (pv 0) pa_nil))) pa_nil)) (pg_name (i := 4) sc_law_cell.nd rfl (Or.inl rfl))
          (pss_one (ps_set (i := 3) sc_law_cell.nd rfl (Or.inl rfl) (pe_op op_fdiv (pv 3) pe_int))))
        (pss_one (ps_if (pt_cmpR op_gt (pv 3) pe_int (nomark _))
          (pss_one (ps_ret (pe_op op_mod (pv 3) pe_int)))
          pss_nil))))
        pss_nil)
      (pss_cons (ps_set (i := 5) sc_law_cell.nd rfl (Or.inl rfl) pe_int)
      (Evl.pss_cut (ps_set (i := 6) sc_law_cell.nd rfl (Or.inl rfl) (pe_ifExp (pt_cmpR op_gt (pe_callB call_len_seq (by rfl) T.f_len (by decide +kernel) (pa_cons (pv 0) pa_nil)) pe_int (nomark _)) (pe_op op_mod (pe_ix ix_list (pv 0) (pe_op op_mod (pv 2) (pe_callB call_len_seq (by rfl) T.f_len (by decide +kernel) (pa_cons (pv 0) pa_nil))) (fun _ _ => rfl)) (pv 5)) pe_int))
      (pss_cons (ps_set (i := 7) sc_law_cell.nd rfl (Or.inl rfl) (pe_op op_add pe_int (pe_op op_mul (pe_op op_mul pe_int (pv 2)) (pv 2))))
      (pss_cons (ps_set (i := 8) sc_law_cell.nd rfl (Or.inl rfl) (pe_op op_mod (pe_op op_mulW (pe_op op_add (pe_op op_add (pv 6) (pe_op op_mul pe_int (pv 2))) pe_int) (pv 7)) (pv 5)))
      (pss_cons (ps_set (i := 8) sc_law_cell.nd rfl (Or.inl rfl) (pe_op op_mod (pe_op op_mulW (pv 8) (pe_op op_add (pv 8) pe_int)) (pv 5)))
      (pss_one (ps_ret (pe_op op_mod (pe_op op_fdivW (pv 8) pe_int) pe_int))))))))))), ?_⟩
    refine ⟨_, rfl, _, _, _, _, rfl, rfl, sq_lst hs.s, atI0 _ _, _, _, rfl, rfl, _, rfl, b, _, 0, 0, rfl, rfl, hs.s, rfl, ?_⟩
    rw [show ([V.int k] : List V).set 0 (.int (k + 1)) = [.int (k + 1)] from rfl]
    generalize upd H b (.lst [.int (k + 1)]) = H1 at q hn
    refine ⟨_, rfl, _, _, _, _, rfl, rfl, sq_lst hn.s, atI0 _ _, ?_⟩
    have len0 := hs.len
    have big : ∀ {x : Int}, 0 ≤ x → x < 170141183460469231731687303715884105727 → x.natAbs < 2 ^ 127 := fun h0 h1 => by
      have : (2 : Nat) ^ 127 = 170141183460469231731687303715884105728 := by decide
      omega
    refine ⟨fun σ H' => H' = H1 ∧ ∃ x y, σ = [some (.ref a), some (.ref b), some (.int (k + 1)), x, y, none, none, none, none], ?_, ?_⟩
    · refine ⟨_, rfl, a, _, rfl, .inl hn.c, _, _, rfl, rfl, _, rfl, ?_⟩
      rw [List.length_map]
      refine ite2 (fun e => ?_) (fun e => ⟨rfl, _, _, rfl⟩)
      have e : (0 : Int) < cs.length := by simpa using e
      have m0 : 0 ≤ (k + 1) % (cs.length : Int) := Int.emod_nonneg _ (by omega)
      have m1 : (k + 1) % (cs.length : Int) < cs.length := Int.emod_lt_of_pos _ e
      have d0 : 0 ≤ (k + 1) / (cs.length : Int) := Int.ediv_nonneg (by omega) (by omega)
      refine ⟨_, rfl, _, rfl, _, rfl, a, _, rfl, .inl hn.c, _, _, rfl, rfl, by rw [List.length_map]; exact e, _, _, _, _, rfl, rfl, hn.c, by rw [List.length_map]; exact atI_get m0 m1, _, _, rfl, rfl, ⟨by decide, by decide, by decide⟩, _, _, rfl, rfl, _, rfl, ?_⟩
      refine ite2 (fun _ => ?_) (fun _ => ⟨rfl, _, _, rfl⟩)
      refine ⟨_, rfl, _, rfl, a, _, rfl, .inl hn.c, _, _, rfl, rfl, ⟨by rw [List.length_map]; exact e, by rw [List.length_map]; omega⟩, _, _, rfl, rfl, _, rfl, ?_⟩
      rw [List.length_map]
      refine ite2 (fun e3 => ?_) (fun _ => ⟨rfl, _, _, rfl⟩)
      have e3 : (k + 1) / (cs.length : Int) < 60 := by simpa using e3
      refine ⟨_, rfl, _, rfl, _, rfl, a, _, rfl, .inl hn.c, _, _, rfl, rfl, by rw [List.length_map]; exact e, _, _, _, _, rfl, rfl, hn.c, by rw [List.length_map]; exact atI_get m0 m1, ?_⟩
      refine ⟨_, rfl, _, rfl, a, _, rfl, .inl hn.c, _, _, rfl, rfl, ⟨by rw [List.length_map]; exact e, by rw [List.length_map]; omega⟩, _, rfl, by rw [List.length_map]; omega, by rw [List.length_map]; omega, ?_⟩
      refine for_it walk_range (fun i σ H' => H' = H1 ∧ ∃ (o : Int) (y : Option V), σ = [some (.ref a), some (.ref b), some (.int (k + 1)), some (.int o), y, none, none, none, none]) ⟨rfl, _, _, rfl⟩ (fun _ _ _ _ _ => trivial) ?_ ?_
      · rintro i x σ Hx Hy _ ⟨rfl, o, y, rfl⟩ ⟨rfl, rfl⟩
        exact ⟨_, rfl, _, _, rfl, rfl, ⟨by decide, by decide⟩, rfl, _, _, rfl⟩
      · rintro σ _ ⟨rfl, o, y, rfl⟩
        refine ⟨_, rfl, _, _, rfl, rfl, _, rfl, ?_⟩
        refine ite2 (fun e4 => ?_) (fun _ => ⟨rfl, _, _, rfl⟩)
        exact ⟨_, rfl, _, _, rfl, rfl, by show (0 : Int) < 306783379; decide, q _ (Int.emod_nonneg _ (by decide)) (Int.emod_lt_of_pos _ (by decide))⟩
    · rintro σ H2 ⟨rfl, x, y, rfl⟩
      refine ⟨fun σ H' => H' = H2 ∧ ∃ h : Int, 0 ≤ h ∧ h < 170141183460469231731687303715884105727 ∧ σ = [some (.ref a), some (.ref b), some (.int (k + 1)), x, y, some (.int 170141183460469231731687303715884105727), some (.int h), none, none], ?_, ?_⟩
      · refine ⟨_, rfl, a, _, rfl, .inl hn.c, _, _, rfl, rfl, _, rfl, ?_⟩
        rw [List.length_map]
        refine ite2 (fun e => ?_) (fun e => ⟨rfl, 5, by decide, by decide, rfl⟩)
        have e : (0 : Int) < cs.length := by simpa using e
        have m0 : 0 ≤ (k + 1) % (cs.length : Int) := Int.emod_nonneg _ (by omega)
        have m1 : (k + 1) % (cs.length : Int) < cs.length := Int.emod_lt_of_pos _ e
        exact ⟨_, rfl, _, rfl, _, rfl, a, _, rfl, .inl hn.c, _, _, rfl, rfl, by rw [List.length_map]; exact e, _, _, _, _, rfl, rfl, hn.c, by rw [List.length_map]; exact atI_get m0 m1, _, rfl, _, _, rfl, rfl, by show (0 : Int) < 170141183460469231731687303715884105727; decide, rfl, _, Int.emod_nonneg _ (by decide), Int.emod_lt_of_pos _ (by decide), rfl⟩
      · rintro σ _ ⟨rfl, h, h0, h1, rfl⟩
        have kk0 : 0 ≤ 2 * (k + 1) * (k + 1) := Int.mul_nonneg (by omega) (by omega)
        have kk1 : 2 * (k + 1) * (k + 1) ≤ 2000 * 1000 := Int.mul_le_mul (by omega) (by omega) (by omega) (by omega)
        have p120 : (2 : Nat) ^ 120 = 1329227995784915872903807060280344576 := by decide
        have p128 : (2 : Nat) ^ 128 = 340282366920938463463374607431768211456 := by decide
        have hm0 : ∀ z : Int, 0 ≤ z % 170141183460469231731687303715884105727 := fun z => Int.emod_nonneg _ (by decide)
        have hm1 : ∀ z : Int, z % 170141183460469231731687303715884105727 < 170141183460469231731687303715884105727 := fun z => Int.emod_lt_of_pos _ (by decide)
        refine ⟨_, rfl, _, _, rfl, rfl, .inl ⟨by decide, by decide⟩, _, rfl, _, _, rfl, rfl, .inl ⟨by omega, by omega⟩, _, _, rfl, rfl, ?_⟩
        refine ⟨_, rfl, _, rfl, _, _, rfl, rfl, .inl ⟨by decide, by decide⟩, _, _, rfl, rfl, _, _, rfl, rfl, _, rfl, _, _, rfl, rfl, wide_mul (a := 128) (b := 120) (by omega) (by omega) (by decide) (by decide) (by decide), _, rfl, _, _, rfl, rfl, by show (0 : Int) < 170141183460469231731687303715884105727; decide, ?_⟩
        refine ⟨_, rfl, _, rfl, _, _, rfl, rfl, _, _, rfl, rfl, wide_mul (a := 127) (b := 128) (big (hm0 _) (hm1 _)) (by have := hm0 ((h + 7919 * (k + 1) + 11) * (91520834467120936671528473920164857 + 2 * (k + 1) * (k + 1))); have := hm1 ((h + 7919 * (k + 1) + 11) * (91520834467120936671528473920164857 + 2 * (k + 1) * (k + 1))); omega) (by decide) (by decide) (by decide), _, rfl, _, _, rfl, rfl, by show (0 : Int) < 170141183460469231731687303715884105727; decide, ?_⟩
        refine ⟨_, rfl, _, _, rfl, rfl, wide_div (b := 65) (by decide) (by decide) (by decide) (by decide), _, _, rfl, rfl, by show (0 : Int) < 306783379; decide, ?_⟩
        exact q _ (Int.emod_nonneg _ (by decide)) (Int.emod_lt_of_pos _ (by decide))
end

end Sw
/-! SwL2 -/
namespace Sw
set_option Elab.async false
set_option linter.all false
set_option maxRecDepth 100000
set_option maxHeartbeats 4000000
open PySem PySem.Spec PyProof.Rows L2
/-- a thing to do -/
inductive OpOk (many : Int) : Rw → Prop
  | set (b z : Int) (hb : 0 ≤ b ∧ b < 6) (hz : 0 ≤ z ∧ z ≤ 15) : OpOk many ("set", [b, z])
  | copy (b c : Int) (hb : 0 ≤ b ∧ b < 6) (hc : 0 ≤ c ∧ c < 6) : OpOk many ("copy", [b, c])
  | tri (x : Str) (b c d : Int) (hx : x = "add" ∨ x = "less" ∨ x = "same" ∨ x = "mix") (hb : 0 ≤ b ∧ b < 6) (hc : 0 ≤ c ∧ c < 6) (hd : 0 ≤ d ∧ d < 6) : OpOk many (x, [b, c, d])
  | pick (b c d e : Int) (hb : 0 ≤ b ∧ b < 6) (hc : 0 ≤ c ∧ c < 6) (hd : 0 ≤ d ∧ d < 6) (he : 0 ≤ e ∧ e < 6) : OpOk many ("pick", [b, c, d, e])
  | ask (b z : Int) (hb : 0 ≤ b ∧ b < 6) (hz : 0 ≤ z ∧ z ≤ 7) : OpOk many ("ask", [b, z])
  | take (b c : Int) (hb : 0 ≤ b ∧ b < 6) (hc : 0 ≤ c ∧ c < 6) : OpOk many ("take", [b, c])
  | tell (c : Int) (hc : 0 ≤ c ∧ c < 6) : OpOk many ("tell", [c])
  | put (c d : Int) (hc : 0 ≤ c ∧ c < 6) (hd : 0 ≤ d ∧ d < 6) : OpOk many ("put", [c, d])
  | go (g : Int) (hg : 0 ≤ g ∧ g ≤ many) : OpOk many ("go", [g])
  | iff (c g : Int) (hc : 0 ≤ c ∧ c < 6) (hg : 0 ≤ g ∧ g ≤ many) : OpOk many ("if", [c, g])
  | hold (b : Int) (hb : 0 ≤ b ∧ b < 6) : OpOk many ("hold", [b])
  | keep : OpOk many ("keep", [])
  | fin : OpOk many ("end", [])
section
variable {w : World} {K : PySem.W.Frag} {mg : Str → Option Value} {base : Heap}
theorem Scr.frm {H H' : Hp} {a b : Addr} {cs : List Int} {k k' : Int} (h : Scr K H a b cs k) (f : Frm [b] H H') (e : H' b = some (.lst [.int k'])) (h0 : 0 ≤ k') (h1 : k' ≤ 1000) : Scr K H' a b cs k' := by
  refine ⟨?_, h.len, e, h0, h1⟩
  rcases h.c0 with ⟨q | ⟨u, q⟩, ne⟩ | q
  · exact .inl ⟨.inl (f _ _ q (by simpa using ne)), ne⟩
  · exact .inl ⟨.inr ⟨u, f _ _ q (by simpa using ne)⟩, ne⟩
  · exact .inr q
theorem mod_rg (z : Int) {m : Int} (h : 0 < m) : 0 ≤ z % m ∧ z % m < m := ⟨Int.emod_nonneg _ (by omega), Int.emod_lt_of_pos _ h⟩
theorem sc_law_inputs : FnScope ["_law_cells", "_law_spot", "_law_found", "_law_turn", "_law_n"] ["_law_cells", "_law_spot"] (defScope s_law_inputs) := ⟨rfl, rfl, rfl, by decide +kernel, rfl, by decide +kernel, by decide +kernel⟩
def sp_inputs (K : PySem.W.Frag) : Sp := fun vs H Q _ => ∃ a b cs k, vs = [V.ref a, .ref b] ∧ Scr K H a b cs k ∧ k + 2 ≤ 1000 ∧ ∀ H' v inp, Frm [b] H H' → Scr K H' a b cs (k + 2) → InOk inp → IsAt K H' v inp → Q v H'
theorem G_law_inputs (T : Tx w K mg) : Kn PP w K mg base 2 (He.ga K "_law_inputs") ["_law_cells", "_law_spot"] (sp_inputs K) := by
  have G_law_cell := G_law_cell (base := base) T
  refine kn_of T.d_law_inputs sc_law_inputs (fun _ _ _ _ _ _ us hl => match us, hl with | [_, _], _ => rfl) (fun vs H Q E h => ?_) fun cdv A outer s H vs Q E hr h => ?_
  · obtain ⟨a, b, cs, k, rfl, _⟩ := h; rfl
  · obtain ⟨a, b, cs, k, rfl, hs, k1, q⟩ := h
    have k0 := hs.k0
    refine ⟨_, (pss_cons (ps_set (i := 2) sc_law_inputs.nd rfl (Or.inl rfl) (pe_lst pa_nil))
      (pss_cons (ps_for PassesOwn.never rfl (pi_range1 (by rfl) T.f_range (pa_cons pe_int pa_nil)) (pg_name (i := 3) sc_law_inputs.nd rfl (Or.inl rfl))
        (pss_cons (ps_set (i := 4) sc_law_inputs.nd rfl (Or.inl rfl) (pe_kn G_law_cell (hr.mono (by decide)) (by rfl) T.g_law_cell (pa_cons (pv 0) (pa_cons (pv 1) pa_nil))))
        (pss_one (ps_set (i := 2) sc_law_inputs.nd rfl (Or.inl rfl) (pe_op op_cat (pv 2) (pe_lst (pa_cons (pe_op op_mod (pv 4) pe_int) (pa_cons (pe_op op_mod (pe_op op_fdiv (pv 4) pe_int) pe_int) (pa_cons (pe_op op_mod (pe_op op_fdiv (pv 4) pe_int) pe_int) (pa_cons (pe_op op_mod (pe_op op_fdiv (pv 4) pe_int) pe_int) pa_nil))))))))))
      (pss_one (ps_ret (pe_callTy call_tuple_of (by rfl) T.f_tuple (by decide +kernel) (pa_cons (pv 2) pa_nil)))))), ?_⟩
    refine ⟨by decide, fun l0 hl0 => ?_⟩
    have s1 := same_new (o := .lst []) hl0
    refine ⟨2, rfl, by decide, by decide, ?_⟩
    refine for_it walk_range (fun i σ H' => ∃ l x3 x4 ns, σ = [some (.ref a), some (.ref b), some (.ref l), x3, x4] ∧ Frm [b] H H' ∧ Scr K H' a b cs (k + i) ∧ l ≠ b ∧ H' l = some (.lst (ns.map V.int)) ∧ ns.length = 4 * i ∧ ∀ z ∈ ns, 0 ≤ z ∧ z ≤ 15)
      ⟨l0, none, none, [], rfl, frm_same s1, by simpa using hs.same s1, (fun e => by rw [e, hs.s] at hl0; cases hl0), upd_same, rfl, fun z h => by simp at h⟩ (fun _ _ _ _ _ => trivial) ?_ ?_
    · rintro i x σ Hx H1 hi ⟨l, x3, x4, ns, rfl, f1, sc1, lb, hl, len, rg⟩ ⟨rfl, rfl⟩
      refine ⟨_, rfl, _, rfl, a, b, cs, k + i, rfl, sc1, by omega, fun n n0 n1 => ?_⟩
      have f2 : Frm [b] H (upd H1 b (.lst [.int (k + i + 1)])) := f1.tr (frm_upd (.head _))
      have sc2 := sc1.next (k' := k + i + 1) (by omega) (by omega)
      have hl2 : (upd H1 b (.lst [.int (k + i + 1)])) l = some (.lst (ns.map V.int)) := by rw [upd_ne lb]; exact hl
      generalize upd H1 b (.lst [.int (k + i + 1)]) = H2 at f2 sc2 hl2
      have m16 : (0 : Int) < 16 := by decide
      refine ⟨_, rfl, _, rfl, _, _, rfl, rfl, m16, _, rfl, _, _, rfl, rfl, ⟨by decide, by decide⟩, _, _, rfl, rfl, m16, _, rfl, _, _, rfl, rfl, ⟨by decide, by decide⟩, _, _, rfl, rfl, m16, _, rfl, _, _, rfl, rfl, ⟨by decide, by decide⟩, _, _, rfl, rfl, m16, by show 4 ≤ sizeLine; decide, fun l2 hl2' => ?_⟩
      have s3 := same_new (o := .lst [V.int (n % 16), .int (n / 16 % 16), .int (n / 256 % 16), .int (n / 4096 % 16)]) hl2'
      refine ⟨l, l2, _, _, rfl, rfl, s3 _ _ hl2, upd_same, by rw [List.length_map, len]; show 4 * i + 4 ≤ sizeLine; exact Nat.le_trans (show 4 * i + 4 ≤ 8 by omega) (by decide), fun l3 hl3 => ?_⟩
      have s4 := s3.trans (same_new (o := .lst (ns.map V.int ++ [V.int (n % 16), .int (n / 16 % 16), .int (n / 256 % 16), .int (n / 4096 % 16)])) hl3)
      refine ⟨l3, _, _, ns ++ [n % 16, n / 16 % 16, n / 256 % 16, n / 4096 % 16], rfl, f2.tr (frm_same s4), by have := sc2.same s4; rw [show k + (i : Int) + 1 = k + ((i + 1 : Nat) : Int) by omega] at this; exact this, (fun e => by rw [e, s3 _ _ sc2.s] at hl3; cases hl3), by rw [upd_same, List.map_append]; rfl, by rw [List.length_append, len]; show 4 * i + 4 = 4 * (i + 1); omega, fun z hz => ?_⟩
      rcases List.mem_append.mp hz with y | y
      · exact rg z y
      · simp only [List.mem_cons, List.not_mem_nil, or_false] at y
        have m := fun z : Int => mod_rg z m16
        rcases y with y | y | y | y <;> (rw [y]; have := m n; have := m (n / 16); have := m (n / 256); have := m (n / 4096); omega)
    · rintro σ H1 ⟨l, x3, x4, ns, rfl, f1, sc1, lb, hl, len, rg⟩
      refine ⟨_, rfl, _, _, rfl, .inl ⟨sq_lst hl, fun t ht => ?_⟩⟩
      exact q _ _ ns (f1.tr (frm_same (same_new ht))) (sc1.same (same_new ht)) ⟨len, rg⟩ ⟨t, rfl, sq_new⟩
theorem mkT {H : Hp} {p : Addr} {x : Str} {ns : List Int} : RwAt K (upd H p (.tup (V.str x :: ns.map V.int))) (.ref p) (x, ns) := ⟨p, rfl, sq_new⟩
theorem sc_law_op : FnScope ["_law_n", "_law_k", "_law_many", "_law_boxes_here", "_law_is_on", "_law_way", "_law_more", "_law_b", "_law_c", "_law_d", "_law_e", "_law_part", "_law_some", "_law_goal"] ["_law_n", "_law_k", "_law_many", "_law_boxes_here", "_law_is_on"] (defScope s_law_op) := ⟨rfl, rfl, rfl, by decide +kernel, rfl, by decide +kernel, by decide +kernel⟩
def sp_op (K : PySem.W.Frag) : Sp := fun vs H Q _ => ∃ (n k many bh : Int) (on : Bool), vs = [.int n, .int k, .int many, .int bh, .bl on] ∧ 0 ≤ n ∧ 0 ≤ k ∧ k < many ∧ many < 1000 ∧ 2 ≤ bh ∧ bh ≤ 6 ∧ ∀ H' v o, Same H H' → RwAt K H' v o → OpOk many o → Q v H'
theorem G_law_op (T : Tx w K mg) : Kn PP w K mg base 1 (He.ga K "_law_op") ["_law_n", "_law_k", "_law_many", "_law_boxes_here", "_law_is_on"] (sp_op K) := by
  refine kn_of T.d_law_op sc_law_op (fun _ _ _ _ _ _ us hl => match us, hl with | [_, _, _, _, _], _ => rfl) (fun vs H Q E h => ?_) fun cdv A outer s H vs Q E hr h => ?_
  · obtain ⟨n, k, many, bh, on, rfl, _⟩ := h; rfl
  · obtain ⟨n, k, many, bh, on, rfl, n0, k0, km, m1, b2, b6, q⟩ := h
    refine ⟨_, (pss_cons (ps_par (i := 5) (j := 6) rfl sc_law_op.nd rfl rfl (by decide) rfl rfl (pa_cons (pe_op op_mod (pv 0) pe_int) (pa_cons (pe_op op_fdiv (pv 0) pe_int) pa_nil)) (by rfl))
      (pss_cons (ps_asg (pe_lc (own := [("_law_part", 11)]) (g := gName 11) rfl sc_law_op.nd (pi_tup (pe_tup (pa_cons pe_int (pa_cons pe_int (pa_cons pe_int (pa_cons pe_int pa_nil)))))) (blkOk_by (own := [("_law_part", 11)]) (N := ["_law_n", "_law_k", "_law_many", "_law_boxes_here", "_law_is_on", "_law_way", "_law_more", "_law_b", "_law_c", "_law_d", "_law_e", "_law_part", "_law_some", "_law_goal"]) (sc := defScope s_law_op) (by decide +kernel)) (fun _ _ _ _ _ => (pg_name (i := 11) sc_law_op.nd rfl (Or.inl rfl))) (fun _ _ _ _ _ => pts_nil) (fun _ _ _ _ _ => (pe_op op_mod (pe_op op_fdiv (pv 0) (pv 11)) (pv 3)))) (pg_unl rfl (pgs_cons (pg_name (i := 7) sc_law_op.nd rfl (Or.inl rfl)) (pgs_cons (pg_name (i := 8) sc_law_op.nd rfl (Or.inl rfl)) (pgs_cons (pg_name (i := 9) sc_law_op.nd rfl (Or.inl rfl)) (pgs_cons (pg_name (i := 10) sc_law_op.nd rfl (Or.inl rfl)) pgs_nil))))))
      (pss_cons (ps_if (pt_cmpR op_lt (pv 5) pe_int (nomark _))
        (pss_cons (ps_set (i := 12) sc_law_op.nd rfl (Or.inl rfl) (pe_lst (pa_cons (pe_tup (pa_cons pe_str (pa_cons (pv 7) (pa_cons (pe_op op_mod (pv 6) pe_int) pa_nil)))) (pa_cons (pe_tup (pa_cons pe_str (pa_cons (pv 7) (pa_cons (pv 8) pa_nil)))) (pa_cons (pe_tup (pa_cons pe_str (pa_cons (pv 7) (pa_cons (pv 8) (pa_cons (pv 9) pa_nil))))) (pa_cons (pe_tup (pa_cons pe_str (pa_cons (pv 7) (pa_cons (pv 8) (pa_cons (pv 9) pa_nil))))) (pa_cons (pe_tup (pa_cons pe_str (pa_cons (pv 7) (pa_cons (pv 8) (pa_cons (pv 9) pa_nil))))) pa_nil)))))))
        (pss_one (ps_ret (pe_ix ix_list (pe_op op_cat (pv 12) (pe_lst (pa_cons (pe_tup (pa_cons pe_str (pa_cons (pv 7) (pa_cons (pv 8) (pa_cons (pv 9) pa_nil))))) (pa_cons (pe_tup (pa_cons pe_str (pa_cons (pv 7) (pa_cons (pv 8) (pa_cons (pv 9) (pa_cons (pv 10) pa_nil)))))) (pa_cons (pe_tup (pa_cons pe_str (pa_cons (pv 7) (pa_cons (pe_op op_mod (pv 6) pe_int) pa_nil)))) (pa_cons (pe_tup (pa_cons pe_str (pa_cons (pv 7) (pa_cons (pv 8) pa_nil)))) pa_nil)))))) (pv 5) (fun _ _ => rfl)))))
        pss_nil)
      (pss_cons (ps_if (pt_cmpR op_lt (pv 5) pe_int (nomark _))
        (pss_one (ps_ret (pe_ix ix_list (pe_lst (pa_cons (pe_tup (pa_cons pe_str (pa_cons (pv 8) pa_nil))) (pa_cons (pe_tup (pa_cons pe_str (pa_cons (pv 8) (pa_cons (pv 9) pa_nil)))) pa_nil))) (pe_op op_fdiv (pv 5) pe_int) (fun _ _ => rfl))))
        pss_nil)
      (pss_cons (ps_set (i := 13) sc_law_op.nd rfl (Or.inl rfl) (pe_op op_add (pe_op op_add (pv 1) pe_int) (pe_op op_mod (pv 6) (pe_op op_sub (pv 2) (pv 1)))))
      (Evl.pss_cut (ps_if (PW.pt (pw_and (pt_not (pt_val (pv 4))) (pw_and1 (pt_cmpR op_eq (pe_op op_mod (pe_op op_fdiv (pv 6) pe_int) pe_int) pe_int (nomark _)))))
        (pss_one (ps_set (i := 13) sc_law_op.nd rfl (Or.inl rfl) (pe_op op_mod (pe_op op_fdiv (pv 6) pe_int) (pe_op op_add (pv 2) pe_int))))
        pss_nil)
      (pss_cons (ps_if (pt_cmpR op_lt (pv 5) pe_int (nomark _))
        (pss_one (ps_ret (pe_ifExp (pt_cmpR op_eq (pv 5) pe_int (nomark _)) (pe_tup (pa_cons pe_str (pa_cons (pv 13) pa_nil))) (pe_tup (pa_cons pe_str (pa_cons (pv 8) (pa_cons (pv 13) pa_nil)))))))
        pss_nil)
      (pss_one (ps_ret (pe_ifExp (pt_cmpR op_eq (pv 5) pe_int (nomark _)) (pe_tup (pa_cons pe_str (pa_cons (pv 7) pa_nil))) (pe_tup (pa_cons pe_str pa_nil)))))))))))), ?_⟩
    have m20 : (0 : Int) < 20 := by decide
    have w := mod_rg n m20
    refine ⟨_, rfl, _, _, rfl, rfl, m20, _, rfl, _, _, rfl, rfl, ⟨by decide, by decide⟩, _, _, rfl, ?_⟩
    refine ⟨by show 4 ≤ sizeLine; decide, fun tp htp => ?_⟩
    have s1 := same_new (o := .tup [V.int 20, .int 160, .int 1280, .int 10240]) htp
    have htp1 : (upd H tp (.tup [V.int 20, .int 160, .int 1280, .int 10240])) tp = some (.tup ([20, 160, 1280, 10240].map V.int)) := upd_same
    generalize upd H tp (.tup [V.int 20, .int 160, .int 1280, .int 10240]) = H1 at s1 htp1
    refine ⟨tp, rfl, ⟨_, sq_tup htp1⟩, fun D hD => ?_⟩
    refine lc_all (G := fun H' => SqT K H' tp ([20, 160, 1280, 10240].map V.int)) walk_tup (fun i => n / ([20, 160, 1280, 10240].getD i 0) % bh) (fun v x _ => v = .int x) (fun _ _ _ _ h _ => h) (fun _ _ _ _ _ _ h _ => h) (by decide) hD (fun H' s => sq_tup (s _ _ htp1)) ?_ ?_
    · rintro i x Ha Hb Qe hi s ⟨rfl, e⟩ qe
      have hi : i < 4 := hi
      rw [List.getElem?_map] at e
      obtain ⟨z, e1, rfl⟩ := Option.map_eq_some_iff.mp e
      have zz : 0 < z ∧ z < 1073741824 := by
        have := List.mem_of_getElem? e1
        simp only [List.mem_cons, List.not_mem_nil, or_false] at this
        rcases this with y | y | y | y <;> (rw [y]; decide)
      refine ⟨rfl, _, rfl, _, rfl, _, _, rfl, rfl, zz, _, rfl, _, _, rfl, rfl, by show 0 < bh; omega, ?_⟩
      exact qe _ _ (fun _ _ h => h) (by rw [List.getD_eq_getElem?_getD, e1]; rfl)
    · intro H2 acc s2 hl2 pr
      rw [paired_map pr] at hl2
      have hl2 : H2 D = some (.lst [V.int (n / 20 % bh), .int (n / 160 % bh), .int (n / 1280 % bh), .int (n / 10240 % bh)]) := hl2
      have bb := fun z : Int => mod_rg z (show 0 < bh by omega)
      have hb := bb (n / 20)
      have hc := bb (n / 160)
      have hd := bb (n / 1280)
      have he := bb (n / 10240)
      generalize n / 20 % bh = b at *
      generalize n / 160 % bh = c at *
      generalize n / 1280 % bh = d at *
      generalize n / 10240 % bh = e at *
      have hb : 0 ≤ b ∧ b < 6 := ⟨hb.1, by omega⟩
      have hc : 0 ≤ c ∧ c < 6 := ⟨hc.1, by omega⟩
      have hd : 0 ≤ d ∧ d < 6 := ⟨hd.1, by omega⟩
      have he : 0 ≤ e ∧ e < 6 := ⟨he.1, by omega⟩
      have s02 := s1.trans s2
      have q := fun H' v o (s : Same H2 H') => q H' v o (s02.trans s)
      refine ⟨D, _, rfl, sq_lst hl2, rfl, _, _, rfl, _, _, rfl, _, _, rfl, _, _, rfl, rfl, ?_⟩
      clear hl2 pr hD
      have m16 := mod_rg (n / 81920) (show (0 : Int) < 16 by decide)
      have m8 := mod_rg (n / 81920) (show (0 : Int) < 8 by decide)
      refine ⟨_, rfl, _, _, rfl, rfl, _, rfl, ?_⟩
      refine ite2 (fun ew => ?_) (fun ew => ?_)
      · have ew : (n % 20) < 9 := by simpa using ew
        have c16 : (0 : Int) < 16 := by decide
        refine ⟨_, rfl, _, rfl, _, _, rfl, rfl, c16, by show 3 ≤ sizeLine; decide, fun p1 h1 => ?_⟩
        refine ⟨_, rfl, _, rfl, by show 3 ≤ sizeLine; decide, fun p2 h2 => ?_⟩
        refine ⟨_, rfl, _, rfl, _, rfl, by show 4 ≤ sizeLine; decide, fun p3 h3 => ?_⟩
        refine ⟨_, rfl, _, rfl, _, rfl, by show 4 ≤ sizeLine; decide, fun p4 h4 => ?_⟩
        refine ⟨_, rfl, _, rfl, _, rfl, by show 4 ≤ sizeLine; decide, fun p5 h5 => ?_⟩
        refine ⟨by show 5 ≤ sizeLine; decide, fun l1 k1 => ?_⟩
        have t1 := same_new (o := .tup [V.str "set", .int b, .int ((n / 81920) % 16)]) h1
        have t2 := same_new (o := .tup [V.str "copy", .int b, .int c]) h2
        have t3 := same_new (o := .tup [V.str "add", .int b, .int c, .int d]) h3
        have t4 := same_new (o := .tup [V.str "less", .int b, .int c, .int d]) h4
        have t5 := same_new (o := .tup [V.str "same", .int b, .int c, .int d]) h5
        have t6 := same_new (o := .lst [V.ref p1, .ref p2, .ref p3, .ref p4, .ref p5]) k1
        have r1 : RwAt K _ (.ref p1) ("set", [b, (n / 81920) % 16]) := (mkT (K := K) (H := H2) (p := p1)).same ((((t2.trans t3).trans t4).trans t5).trans t6)
        have r2 : RwAt K _ (.ref p2) ("copy", [b, c]) := (mkT (K := K) (p := p2)).same (((t3.trans t4).trans t5).trans t6)
        have r3 : RwAt K _ (.ref p3) ("add", [b, c, d]) := (mkT (K := K) (p := p3)).same ((t4.trans t5).trans t6)
        have r4 : RwAt K _ (.ref p4) ("less", [b, c, d]) := (mkT (K := K) (p := p4)).same (t5.trans t6)
        have r5 : RwAt K _ (.ref p5) ("same", [b, c, d]) := (mkT (K := K) (p := p5)).same t6
        have ss := ((((t1.trans t2).trans t3).trans t4).trans t5).trans t6
        clear t1 t2 t3 t4 t5 t6
        generalize hH3 : upd _ l1 (HO.lst [V.ref p1, .ref p2, .ref p3, .ref p4, .ref p5]) = H3 at r1 r2 r3 r4 r5 ss
        have hl : H3 l1 = some (HO.lst [V.ref p1, .ref p2, .ref p3, .ref p4, .ref p5]) := by rw [← hH3]; exact upd_same
        clear h1 h2 h3 h4 h5 k1
        refine ⟨_, rfl, _, rfl, _, rfl, _, rfl, by show 4 ≤ sizeLine; decide, fun p6 h6 => ?_⟩
        refine ⟨_, rfl, _, rfl, _, rfl, _, rfl, by show 5 ≤ sizeLine; decide, fun p7 h7 => ?_⟩
        refine ⟨_, rfl, _, rfl, _, _, rfl, rfl, by show (0 : Int) < 8; decide, by show 3 ≤ sizeLine; decide, fun p8 h8 => ?_⟩
        refine ⟨_, rfl, _, rfl, by show 3 ≤ sizeLine; decide, fun p9 h9 => ?_⟩
        refine ⟨by show 4 ≤ sizeLine; decide, fun l2 k2 => ?_⟩
        have t6 := same_new (o := .tup [V.str "mix", .int b, .int c, .int d]) h6
        have t7 := same_new (o := .tup [V.str "pick", .int b, .int c, .int d, .int e]) h7
        have t8 := same_new (o := .tup [V.str "ask", .int b, .int ((n / 81920) % 8)]) h8
        have t9 := same_new (o := .tup [V.str "take", .int b, .int c]) h9
        have ta := same_new (o := .lst [V.ref p6, .ref p7, .ref p8, .ref p9]) k2
        have r6 : RwAt K _ (.ref p6) ("mix", [b, c, d]) := (mkT (K := K) (H := H3) (p := p6)).same (((t7.trans t8).trans t9).trans ta)
        have r7 : RwAt K _ (.ref p7) ("pick", [b, c, d, e]) := (mkT (K := K) (p := p7)).same ((t8.trans t9).trans ta)
        have r8 : RwAt K _ (.ref p8) ("ask", [b, (n / 81920) % 8]) := (mkT (K := K) (p := p8)).same (t9.trans ta)
        have r9 : RwAt K _ (.ref p9) ("take", [b, c]) := (mkT (K := K) (p := p9)).same ta
        have s3 := (((t6.trans t7).trans t8).trans t9).trans ta
        clear t6 t7 t8 t9 ta
        generalize hH4 : upd _ l2 (HO.lst [V.ref p6, .ref p7, .ref p8, .ref p9]) = H4 at r6 r7 r8 r9 s3
        have hl2 : H4 l2 = some (HO.lst [V.ref p6, .ref p7, .ref p8, .ref p9]) := by rw [← hH4]; exact upd_same
        clear h6 h7 h8 h9 k2
        refine ⟨l1, l2, _, _, rfl, rfl, s3 _ _ hl, hl2, by show 5 + 4 ≤ sizeLine; decide, fun l3 k3 => ?_⟩
        have s4 := same_new (o := .lst ([V.ref p1, .ref p2, .ref p3, .ref p4, .ref p5] ++ [V.ref p6, .ref p7, .ref p8, .ref p9])) k3
        have s34 := s3.trans s4
        have sf := ss.trans s34
        have fin : ∀ (i : Nat) (v : V) (o : Rw), (n % 20) = i → ([V.ref p1, .ref p2, .ref p3, .ref p4, .ref p5] ++ [V.ref p6, .ref p7, .ref p8, .ref p9])[i]? = some v → RwAt K _ v o → OpOk many o → _ := fun i v o ei ev hv ho => q (upd H4 l3 (.lst ([V.ref p1, .ref p2, .ref p3, .ref p4, .ref p5] ++ [V.ref p6, .ref p7, .ref p8, .ref p9]))) v o sf hv ho
        have pick : ∃ (i : Nat) (v : V) (o : Rw), (n % 20) = i ∧ ([V.ref p1, .ref p2, .ref p3, .ref p4, .ref p5] ++ [V.ref p6, .ref p7, .ref p8, .ref p9])[i]? = some v ∧ RwAt K (upd H4 l3 (.lst ([V.ref p1, .ref p2, .ref p3, .ref p4, .ref p5] ++ [V.ref p6, .ref p7, .ref p8, .ref p9]))) v o ∧ OpOk many o := by
          obtain ⟨i, eiw⟩ : ∃ i : Nat, (n % 20) = i := ⟨(n % 20).toNat, by omega⟩
          have hi : i < 9 := by omega
          match i, hi, eiw with
          | 0, _, eiw => exact ⟨0, _, _, eiw, rfl, r1.same s34, .set b _ hb ⟨m16.1, by omega⟩⟩
          | 1, _, eiw => exact ⟨1, _, _, eiw, rfl, r2.same s34, .copy b c hb hc⟩
          | 2, _, eiw => exact ⟨2, _, _, eiw, rfl, r3.same s34, .tri _ b c d (.inl rfl) hb hc hd⟩
          | 3, _, eiw => exact ⟨3, _, _, eiw, rfl, r4.same s34, .tri _ b c d (.inr (.inl rfl)) hb hc hd⟩
          | 4, _, eiw => exact ⟨4, _, _, eiw, rfl, r5.same s34, .tri _ b c d (.inr (.inr (.inl rfl))) hb hc hd⟩
          | 5, _, eiw => exact ⟨5, _, _, eiw, rfl, r6.same s4, .tri _ b c d (.inr (.inr (.inr rfl))) hb hc hd⟩
          | 6, _, eiw => exact ⟨6, _, _, eiw, rfl, r7.same s4, .pick b c d e hb hc hd he⟩
          | 7, _, eiw => exact ⟨7, _, _, eiw, rfl, r8.same s4, .ask b _ hb ⟨m8.1, by omega⟩⟩
          | 8, _, eiw => exact ⟨8, _, _, eiw, rfl, r9.same s4, .take b c hb hc⟩
        obtain ⟨i, v, o, ei, ev, hv, ho⟩ := pick
        exact ⟨_, rfl, _, _, _, _, rfl, rfl, sq_lst upd_same, atIn (by omega) (by rw [ei]; exact ev), q _ v o sf hv ho⟩
      · have ew : 9 ≤ (n % 20) := by simpa using ew
        refine ⟨_, rfl, _, _, rfl, rfl, _, rfl, ?_⟩
        refine ite2 (fun ew2 => ?_) (fun ew2 => ?_)
        · have ew2 : (n % 20) < 14 := by simpa using ew2
          refine ⟨_, rfl, by show 2 ≤ sizeLine; decide, fun p1 h1 => ?_⟩
          refine ⟨_, rfl, _, rfl, by show 3 ≤ sizeLine; decide, fun p2 h2 => ?_⟩
          refine ⟨by show 2 ≤ sizeLine; decide, fun l1 k1 => ?_⟩
          have t1 := same_new (o := .tup [V.str "tell", .int c]) h1
          have t2 := same_new (o := .tup [V.str "put", .int c, .int d]) h2
          have t3 := same_new (o := .lst [V.ref p1, .ref p2]) k1
          have r1 : RwAt K _ (.ref p1) ("tell", [c]) := (mkT (K := K) (H := H2) (p := p1)).same (t2.trans t3)
          have r2 : RwAt K _ (.ref p2) ("put", [c, d]) := (mkT (K := K) (p := p2)).same t3
          have ss := (t1.trans t2).trans t3
          refine ⟨_, rfl, _, _, rfl, rfl, ⟨by decide, by decide⟩, ?_⟩
          by_cases e12 : (n % 20) < 12
          · refine ⟨_, _, _, _, rfl, rfl, sq_lst upd_same, atIn (x := V.ref p1) (by omega) (by rw [show ((n % 20) / 12).toNat = 0 by omega]; rfl), q _ _ _ ss r1 (.tell c hc)⟩
          · refine ⟨_, _, _, _, rfl, rfl, sq_lst upd_same, atIn (x := V.ref p2) (by omega) (by rw [show ((n % 20) / 12).toNat = 1 by omega]; rfl), q _ _ _ ss r2 (.put c d hc hd)⟩
        · have ew2 : 14 ≤ (n % 20) := by simpa using ew2
          have g1 := mod_rg (n / 81920) (show 0 < many - k by omega)
          refine ⟨_, rfl, _, _, rfl, rfl, _, rfl, _, rfl, _, rfl, _, _, rfl, rfl, _, _, rfl, rfl, by show 0 < many - k; omega, _, _, rfl, rfl, ?_⟩
          refine ⟨fun σ H' => H' = H2 ∧ ∃ g : Int, 0 ≤ g ∧ g ≤ many ∧ σ = [some (.int n), some (.int k), some (.int many), some (.int bh), some (.bl on), some (.int (n % 20)), some (.int (n / 81920)), some (.int b), some (.int c), some (.int d), some (.int e), none, none, some (.int g)], ?_, ?_⟩
          · refine ⟨_, rfl, on, rfl, ?_⟩
            have base : (fun (σ : L2.St) (H' : Hp) => H' = H2 ∧ ∃ g : Int, 0 ≤ g ∧ g ≤ many ∧ σ = [some (.int n), some (.int k), some (.int many), some (.int bh), some (.bl on), some (.int (n % 20)), some (.int (n / 81920)), some (.int b), some (.int c), some (.int d), some (.int e), none, none, some (.int g)]) [some (.int n), some (.int k), some (.int many), some (.int bh), some (.bl on), some (.int (n % 20)), some (.int (n / 81920)), some (.int b), some (.int c), some (.int d), some (.int e), none, none, some (.int (k + 1 + (n / 81920) % (many - k)))] H2 := ⟨rfl, _, by omega, by omega, rfl⟩
            refine ite2 (fun _ => ?_) (fun _ => base)
            refine ⟨_, rfl, _, _, rfl, rfl, ⟨by decide, by decide⟩, _, _, rfl, rfl, by show (0 : Int) < 3; decide, rfl, _, rfl, ?_⟩
            refine ite2 (fun _ => ?_) (fun _ => base)
            have g2 := mod_rg ((n / 81920) / 8) (show 0 < many + 1 by omega)
            exact ⟨_, rfl, _, _, rfl, rfl, ⟨by decide, by decide⟩, _, rfl, _, _, rfl, rfl, _, _, rfl, rfl, by show 0 < many + 1; omega, rfl, _, g2.1, by omega, rfl⟩
          · rintro σ H3 ⟨rfl, g, g0, gm, rfl⟩
            refine ⟨_, rfl, _, _, rfl, rfl, _, rfl, ?_⟩
            refine ite2 (fun _ => ?_) (fun _ => ?_)
            · refine ⟨_, rfl, rfl, _, rfl, ?_⟩
              refine ite2 (fun _ => ?_) (fun _ => ?_)
              · exact ⟨_, rfl, by show 2 ≤ sizeLine; decide, fun p1 h1 => q _ _ _ (same_new h1) (mkT (x := "go") (ns := [g])) (.go g ⟨g0, gm⟩)⟩
              · exact ⟨_, rfl, _, rfl, by show 3 ≤ sizeLine; decide, fun p1 h1 => q _ _ _ (same_new h1) (mkT (x := "if") (ns := [c, g])) (.iff c g hc ⟨g0, gm⟩)⟩
            · refine ⟨_, rfl, rfl, _, rfl, ?_⟩
              refine ite2 (fun _ => ?_) (fun _ => ?_)
              · exact ⟨_, rfl, by show 2 ≤ sizeLine; decide, fun p1 h1 => q _ _ _ (same_new h1) (mkT (x := "hold") (ns := [b])) (.hold b hb)⟩
              · exact ⟨by show 1 ≤ sizeLine; decide, fun p1 h1 => q _ _ _ (same_new h1) (mkT (x := "keep") (ns := [])) .keep⟩
end

end Sw
/-! SwL3 -/
namespace Sw
set_option Elab.async false
set_option linter.all false
set_option maxRecDepth 100000
set_option maxHeartbeats 4000000
open PySem PySem.Spec PyProof.Rows L2
def topOf (c : Nat) : Int := if c = 110 then 15 else if c = 107 then 7 else if c = 112 then 399 else 31
theorem form_sorts : ∀ q ∈ formsL, ∀ c ∈ q.2.cps.toList, greatL.lookup (⟨#[c]⟩ : Str) = some (topOf c) := by decide +kernel
theorem RwOk_of {x f : Str} {ns : List Int} (h : formsL.lookup x = some f) (len : ns.length = f.cps.size) (rg : ∀ (i c : Nat) (z : Int), f.cps[i]? = some c → ns[i]? = some z → 0 ≤ z ∧ z ≤ topOf c) : RwOk (x, ns) := by
  have e : fmO x = f := by unfold fmO; rw [h]; rfl
  refine ⟨by rw [e]; exact h, by rw [e]; exact len, fun i c z h1 h2 => ?_⟩
  rw [e] at h1
  obtain ⟨a, b⟩ := rg i c z h1 h2
  refine ⟨a, topOf c, form_sorts _ (mem_lookup h) c ?_, b⟩
  have := List.mem_of_getElem? (l := f.cps.toList) (i := i) (a := c) (by simpa using h1)
  exact this
theorem RwOk_boxes {x f : Str} {ns : List Int} (h : formsL.lookup x = some f) (len : ns.length = f.cps.size) (hs : f.cps.toList.all (fun c => c == 114 || c == 115) = true) (rg : ∀ z ∈ ns, 0 ≤ z ∧ z ≤ 31) : RwOk (x, ns) := by
  refine RwOk_of h len fun i c z h1 h2 => ?_
  obtain ⟨a, b⟩ := rg z (List.mem_of_getElem? h2)
  have hc := List.all_eq_true.mp hs c (List.mem_of_getElem? (i := i) (by simpa using h1))
  refine ⟨a, ?_⟩
  unfold topOf
  have : c = 114 ∨ c = 115 := by simpa using hc
  rcases this with e | e <;> (subst e; simpa using b)
/-- the hues -/
def hu (w : Nat) (f : Int) : List Int := (List.range w).map fun j => f + 8 * ((j : Nat) : Int)
theorem hu_rg {w : Nat} {f : Int} (hw : w ≤ 3) (h0 : 0 ≤ f) (h1 : f ≤ 8) : ∀ z ∈ hu w f, 0 ≤ z ∧ z ≤ 24 := fun z hz => by
  obtain ⟨j, hj, rfl⟩ := List.mem_map.mp hz
  have := List.mem_range.mp hj
  omega
def deedL : List Str := ["set", "copy", "add", "less", "same", "mix", "pick", "ask", "take"]
def isDeedOp (x : Str) : Bool := deedL.contains x
structure HuOk (ss : List Int) (many : Int) (o : Rw) (w : Nat) (rs : List Rw) : Prop where
  len : rs.length = if isDeedOp o.1 = true then w else 1
  ok : ∀ r ∈ rs, RwOk r ∧ ∀ z, lds r = some z → ∃ g : Int, 0 ≤ g ∧ g ≤ many ∧ z = getI ss g
  fin : o.1 = "end" → rs = [(("end" : Str), ([] : List Int))]
theorem lds_none {r : Rw} (ok : RwOk r) (h : (fmO r.1).cps.toList.all (fun c => c != 112) = true) : lds r = none := by
  unfold lds
  cases e : parts r 112 with
  | nil => rfl
  | cons a l =>
    exfalso
    have : a ∈ parts r 112 := by rw [e]; exact .head _
    unfold parts at this
    obtain ⟨i, _, h2⟩ := List.mem_filterMap.mp this
    split at h2
    · rename_i h3
      have := List.all_eq_true.mp h 112 (List.mem_of_getElem? (i := i) (by simpa using h3))
      exact absurd this (by decide)
    · cases h2
section
variable {w : World} {K : PySem.W.Frag} {mg : Str → Option Value} {base : Heap}
theorem in2 (x a b : Str) : inV (.str x) [.str a, .str b] = decide (x = a ∨ x = b) := by
  have := inV_str x [a, b]
  rw [show [V.str a, .str b] = [a, b].map V.str from rfl, this]
  by_cases h1 : x = a <;> by_cases h2 : x = b <;> simp [h1, h2]
theorem if_key (wd : Nat) (w1 : 1 ≤ wd) (w3 : wd ≤ 3) (hs : List Int) (g : Int) (hl : hs.length = wd) (hr : ∀ z ∈ hs, 0 ≤ z ∧ z ≤ 31) (hg : 0 ≤ g ∧ g ≤ 399) (sg : Str) (e : (wd = 1 ∧ sg = "") ∨ (wd = 2 ∧ sg = "2") ∨ (wd = 3 ∧ sg = "3")) :
    RwOk ("if" ++ sg, hs ++ [g]) ∧ lds ("if" ++ sg, hs ++ [g]) = some g := by
  rcases e with ⟨rfl, rfl⟩ | ⟨rfl, rfl⟩ | ⟨rfl, rfl⟩
  · rw [show ("if" : Str) ++ ("" : Str) = "if" by decide]
    match hs, hl with
    | [u], _ =>
      refine ⟨RwOk_of (f := "rp") (by decide) rfl fun j c y h1 h2 => ?_, rfl⟩
      rcases j with _ | _ | j
      · cases Option.some.inj h1; cases Option.some.inj h2; exact hr _ (by simp)
      · cases Option.some.inj h1; cases Option.some.inj h2; exact hg
      · simp at h2
  · rw [show ("if" : Str) ++ ("2" : Str) = "if2" by decide]
    match hs, hl with
    | [u, v], _ =>
      refine ⟨RwOk_of (f := "rrp") (by decide) rfl fun j c y h1 h2 => ?_, rfl⟩
      rcases j with _ | _ | _ | j
      · cases Option.some.inj h1; cases Option.some.inj h2; exact hr _ (by simp)
      · cases Option.some.inj h1; cases Option.some.inj h2; exact hr _ (by simp)
      · cases Option.some.inj h1; cases Option.some.inj h2; exact hg
      · simp at h2
  · rw [show ("if" : Str) ++ ("3" : Str) = "if3" by decide]
    match hs, hl with
    | [u, v, x], _ =>
      refine ⟨RwOk_of (f := "rrrp") (by decide) rfl fun j c y h1 h2 => ?_, rfl⟩
      rcases j with _ | _ | _ | _ | j
      · cases Option.some.inj h1; cases Option.some.inj h2; exact hr _ (by simp)
      · cases Option.some.inj h1; cases Option.some.inj h2; exact hr _ (by simp)
      · cases Option.some.inj h1; cases Option.some.inj h2; exact hr _ (by simp)
      · cases Option.some.inj h1; cases Option.some.inj h2; exact hg
      · simp at h2
def rCatX (K : PySem.W.Frag) : R2 := fun x y H Q => ∃ a b xs ys, x = .ref a ∧ y = .ref b ∧ SqT K H a xs ∧ SqT K H b ys ∧ xs.length + ys.length ≤ sizeLine ∧ ∀ H' p, Same H H' → SqT K H' p (xs ++ ys) → Q (.ref p) H'
theorem op_catX {X : Cx} : OpR X (binaryOp .Add) (rCatX X.K) := by
  intro pins s σ H x y v u Q I rx ry h
  obtain ⟨a, b, xs, ys, rfl, rfl, ha, hb, hz, q⟩ := h
  refine op_catA pins s σ H _ _ v u Q I rx ry ⟨a, b, xs, ys, rfl, rfl, ha, hb, hz, fun e => ?_, fun _ e => ?_, fun _ _ p hp => q _ p (same_new hp) sq_new⟩
  · subst e; exact q H b (fun _ _ z => z) hb
  · subst e; exact q H a (fun _ _ z => z) (by rw [List.append_nil]; exact ha)
def B5 (b : Int) : Prop := 0 ≤ b ∧ b < 6
/-- by what a thing to do becomes -/
inductive OpKind (many : Int) : Rw → Prop
  | sa (x : Str) (b z : Int) (hx : (x = "set" ∧ z ≤ 15) ∨ (x = "ask" ∧ z ≤ 7)) (hb : B5 b) (hz : 0 ≤ z) : OpKind many (x, [b, z])
  | tp (x : Str) (ns : List Int) (hx : (x = "tell" ∧ ns.length = 1) ∨ (x = "put" ∧ ns.length = 2)) (hn : ∀ z ∈ ns, B5 z) : OpKind many (x, ns)
  | iff (c g : Int) (hc : B5 c) (hg : 0 ≤ g ∧ g ≤ many) : OpKind many ("if", [c, g])
  | go (g : Int) (hg : 0 ≤ g ∧ g ≤ many) : OpKind many ("go", [g])
  | hold (b : Int) (hb : B5 b) : OpKind many ("hold", [b])
  | ke (x : Str) (hx : x = "keep" ∨ x = "end") : OpKind many (x, [])
  | box (x : Str) (ns : List Int) (f : Str) (h : formsL.lookup x = some f) (hl : ns.length = f.cps.size) (hs : f.cps.toList.all (fun c => c == 114 || c == 115) = true) (hd : isDeedOp x = true) (n1 : x ≠ "set") (n2 : x ≠ "ask") (n3 : x ≠ "tell") (n4 : x ≠ "put") (n5 : x ≠ "if") (n6 : x ≠ "go") (n7 : x ≠ "hold") (n8 : x ≠ "keep") (n9 : x ≠ "end") (hn : ∀ z ∈ ns, B5 z) : OpKind many (x, ns)
theorem op_kind {many : Int} {o : Rw} (h : OpOk many o) : OpKind many o := by
  cases h with
  | set b z hb hz => exact .sa _ b z (.inl ⟨rfl, hz.2⟩) hb hz.1
  | ask b z hb hz => exact .sa _ b z (.inr ⟨rfl, hz.2⟩) hb hz.1
  | copy b c hb hc => exact .box _ _ "sr" (by decide) rfl (by decide) (by decide) (by decide) (by decide) (by decide) (by decide) (by decide) (by decide) (by decide) (by decide) (by decide) (by simp; exact ⟨hb, hc⟩)
  | tri x b c d hx hb hc hd =>
    have hn : ∀ z ∈ [b, c, d], B5 z := by simp; exact ⟨hb, hc, hd⟩
    rcases hx with rfl | rfl | rfl | rfl <;> exact .box _ _ "srr" (by decide) rfl (by decide) (by decide) (by decide) (by decide) (by decide) (by decide) (by decide) (by decide) (by decide) (by decide) (by decide) hn
  | pick b c d e hb hc hd he => exact .box _ _ "srrr" (by decide) rfl (by decide) (by decide) (by decide) (by decide) (by decide) (by decide) (by decide) (by decide) (by decide) (by decide) (by decide) (by simp; exact ⟨hb, hc, hd, he⟩)
  | take b c hb hc => exact .box _ _ "sr" (by decide) rfl (by decide) (by decide) (by decide) (by decide) (by decide) (by decide) (by decide) (by decide) (by decide) (by decide) (by decide) (by simp; exact ⟨hb, hc⟩)
  | tell c hc => exact .tp _ _ (.inl ⟨rfl, rfl⟩) (by simp; exact hc)
  | put c d hc hd => exact .tp _ _ (.inr ⟨rfl, rfl⟩) (by simp; exact ⟨hc, hd⟩)
  | go g hg => exact .go g hg
  | iff c g hc hg => exact .iff c g hc hg
  | hold b hb => exact .hold b hb
  | keep => exact .ke _ (.inl rfl)
  | fin => exact .ke _ (.inr rfl)
theorem hu_len (w : Nat) (f : Int) : (hu w f).length = w := by unfold hu; rw [List.length_map, List.length_range]
theorem hu_at {w : Nat} {f : Int} {j : Nat} (h : j < w) : (hu w f)[j]? = some (f + 8 * ((j : Nat) : Int)) := by
  unfold hu
  rw [List.getElem?_map, List.getElem?_range h]
  rfl
/-- a comprehension over ints that stand in a list: its list -/
theorem lc_ints {l : Addr} {xs : List Int} {H1 : Hp} (hl : SqL K H1 l (xs.map V.int)) (few : xs.length ≤ 1000) {g : TG} {te : TE} {vs : List Nat} {σ : L2.St} {D : Addr} {Qd : Hp → Prop} (hD : H1 D = none) (F : Int → Int) (keep : ∀ H', Same H1 H' → SqL K H' l (xs.map V.int))
    (hs : ∀ z H (Qe : V → Hp → Prop), z ∈ xs → Same H1 H → Qe (.int (F z)) H → g (.int z) (wipe σ vs) H fun σ2 H2 => wipe σ2 vs = wipe σ vs ∧ te σ2 H2 Qe)
    (hd : ∀ H, Same H1 H → H D = some (.lst ((xs.map F).map V.int)) → Qd H) :
    ∃ W : Nat → Nat → Hp → Prop, (∃ m, W 0 m (upd H1 D (.lst []))) ∧ ∀ i m H, W i m H →
      ((Itl K l).stop i H ∧ Qd H) ∨ ((Itl K l).go i H ∧ ∃ Nx : Hp → Prop, (∀ H', Nx H' → ∃ m', m' < m ∧ W (i + 1) m' H') ∧ ∀ x H', (Itl K l).yld i H x H' → g x (wipe σ vs) H' fun σ2 H2 => wipe σ2 vs = wipe σ vs ∧ tYes σ2 H2 fun b H3 =>
        if b = true then te σ2 H3 fun y H4 => ∃ acc, H4 D = some (.lst acc) ∧ acc.length < sizeLine ∧ Nx (upd H4 D (.lst (acc ++ [y]))) else Nx H3) := by
  refine lc_all (G := fun H' => SqL K H' l (xs.map V.int)) walk_list (fun i => F (xs.getD i 0)) (fun v x _ => v = .int x) (fun _ _ _ _ h _ => h) (fun _ _ _ _ _ _ h _ => h) (by rw [List.length_map]; omega) hD keep ?_ ?_
  · rintro i x Ha Hb Qe hi s ⟨rfl, e⟩ qe
    rw [List.getElem?_map] at e
    obtain ⟨z, e1, rfl⟩ := Option.map_eq_some_iff.mp e
    refine hs z _ Qe (List.mem_of_getElem? e1) s (qe _ _ (fun _ _ h => h) ?_)
    rw [List.getD_eq_getElem?_getD, e1]
    rfl
  · intro H acc s hl2 pr
    rw [paired_map pr, List.length_map] at hl2
    refine hd H s ?_
    rw [hl2]
    congr 3
    refine List.ext_getElem? fun i => ?_
    rw [List.getElem?_map, List.getElem?_map]
    rcases Nat.lt_or_ge i xs.length with h | h
    · rw [List.getElem?_range h, List.getElem?_eq_getElem h]
      simp [List.getD_eq_getElem?_getD, h]
    · rw [List.getElem?_eq_none (by simpa using h), List.getElem?_eq_none h]; rfl
end

end Sw
/-! SwL4 -/
namespace Sw
set_option Elab.async false
set_option linter.all false
set_option maxRecDepth 100000
set_option maxHeartbeats 4000000
open PySem PySem.Spec PyProof.Rows L2
section
variable {w : World} {K : PySem.W.Frag} {mg : Str → Option Value} {base : Heap}
theorem keepL {H1 : Hp} {l : Addr} {xs : List V} (h : H1 l = some (.lst xs)) : ∀ H', Same H1 H' → SqL K H' l xs := fun H' s => sq_lst (s _ _ h)
theorem in2F {x a b : Str} (h1 : x ≠ a) (h2 : x ≠ b) : inV (.str x) [.str a, .str b] = false := by rw [in2]; simp [h1, h2]
def signOf (w : Nat) : Str := if w = 1 then "" else if w = 2 then "2" else "3"
theorem starts_g {ss : List Int} {many : Int} (hs : ∀ g, 0 ≤ g → g ≤ many → 0 ≤ getI ss g ∧ getI ss g ≤ 399) {g : Int} (hg : 0 ≤ g ∧ g ≤ many) : 0 ≤ getI ss g ∧ getI ss g ≤ 399 := hs g hg.1 hg.2
theorem sc_law_hued : FnScope ["_law_op_here", "_law_width", "_law_first", "_law_starts", "_law_word", "_law_sign", "_law_hues", "_law_j", "_law_hue", "_law_parts", "_law_box"] ["_law_op_here", "_law_width", "_law_first", "_law_starts"] (defScope s_law_hued) := ⟨rfl, rfl, rfl, by decide +kernel, rfl, by decide +kernel, by decide +kernel⟩
def sp_hued (K : PySem.W.Frag) : Sp := fun vs H Q _ => ∃ (v : V) (o : Rw) (many : Int) (wd : Nat) (first : Int) (sa : Addr) (ss : List Int), vs = [v, .int (wd : Nat), .int first, .ref sa] ∧ RwAt K H v o ∧ OpOk many o ∧ 1 ≤ wd ∧ wd ≤ 3 ∧ 0 ≤ first ∧ first ≤ 8 ∧
  H sa = some (.lst (ss.map V.int)) ∧ many < ss.length ∧ (∀ g, 0 ≤ g → g ≤ many → 0 ≤ getI ss g ∧ getI ss g ≤ 399) ∧ ∀ H' a us rs, Same H H' → H' a = some (.lst us) → Paired (RwAt K H') us rs → HuOk ss many o wd rs → Q (.ref a) H'
theorem G_law_hued (T : Tx w K mg) : Kn PP w K mg base 1 (He.ga K "_law_hued") ["_law_op_here", "_law_width", "_law_first", "_law_starts"] (sp_hued K) := by
  refine kn_of T.d_law_hued sc_law_hued (fun _ _ _ _ _ _ us hl => match us, hl with | [_, _, _, _], _ => rfl) (fun vs H Q E h => ?_) fun cdv A outer s H vs Q E hr h => ?_
  · obtain ⟨v, o, many, wd, first, sa, ss, rfl, _⟩ := h; rfl
  · obtain ⟨_, o, many, wd, first, sa, ss, rfl, ⟨a, rfl, ha⟩, ho, w1, w3, f0, f8, hsa, hml, hss, q⟩ := h
    refine ⟨_, (pss_cons (ps_asg (pe_tup (pa_cons (pe_ix ix_tup (pv 0) pe_int (fun _ _ => rfl)) (pa_cons (pe_ix ix_list (pe_lst (pa_cons pe_str (pa_cons pe_str (pa_cons pe_str pa_nil)))) (pe_op op_sub (pv 1) pe_int) (fun _ _ => rfl)) pa_nil))) (pg_tup rfl (pgs_cons (pg_name (i := 4) sc_law_hued.nd rfl (Or.inr rfl)) (pgs_cons (pg_name (i := 5) sc_law_hued.nd rfl (Or.inl rfl)) pgs_nil))))
      (pss_cons (ps_setLc (i := 6) (own := [("_law_j", 7)]) (g := gName 7) rfl sc_law_hued.nd rfl rfl (sw_true rfl rfl rfl (by decide +kernel)) (pi_range1 (by rfl) T.f_range (pa_cons (pv 1) pa_nil)) (blkOk_by (own := [("_law_j", 7)]) (N := ["_law_op_here", "_law_width", "_law_first", "_law_starts", "_law_word", "_law_sign", "_law_hues", "_law_j", "_law_hue", "_law_parts", "_law_box"]) (sc := defScope s_law_hued) (by decide +kernel)) (fun _ _ _ _ _ => (pg_name (i := 7) sc_law_hued.nd rfl (Or.inl rfl))) (fun _ _ _ _ _ => pts_nil) (fun _ _ _ _ _ => (pe_op op_add (pv 2) (pe_op op_mul pe_int (pv 7)))))
      (pss_cons (ps_if (pt_cmpR op_in_seq (pv 4) (pe_tup (pa_cons pe_str (pa_cons pe_str pa_nil))) (by rfl))
        (pss_one (ps_ret (pe_lc (own := [("_law_hue", 8)]) (g := gName 8) rfl sc_law_hued.nd (pi_list (pv 6)) (blkOk_by (own := [("_law_hue", 8)]) (N := ["_law_op_here", "_law_width", "_law_first", "_law_starts", "_law_word", "_law_sign", "_law_hues", "_law_j", "_law_hue", "_law_parts", "_law_box"]) (sc := defScope s_law_hued) (by decide +kernel)) (fun _ _ _ _ _ => (pg_name (i := 8) sc_law_hued.nd rfl (Or.inl rfl))) (fun _ _ _ _ _ => pts_nil) (fun _ _ _ _ _ => (pe_tup (pa_cons (pv 4) (pa_cons (pe_op op_add (pe_ix (show IxR _ (rIxT K) from ix_tup) (pv 0) pe_int (fun _ _ => rfl)) (pv 8)) (pa_cons (pe_ix (show IxR _ (rIxT K) from ix_tup) (pv 0) pe_int (fun _ _ => rfl)) pa_nil))))))))
        pss_nil)
      (pss_cons (ps_if (pt_cmpR op_in_seq (pv 4) (pe_tup (pa_cons pe_str (pa_cons pe_str pa_nil))) (by rfl))
        (pss_cons (ps_set (i := 9) sc_law_hued.nd rfl (Or.inl rfl) (pe_tup (pa_cons (pe_op op_add_str (pv 4) (pv 5)) pa_nil)))
        (pss_cons (ps_for PassesOwn.never rfl (pi_tup (pe_slice sl_tupX (pv 0) (po_some pe_int) po_none)) (pg_name (i := 10) sc_law_hued.nd rfl (Or.inr rfl))
          (pss_one (ps_set (i := 9) sc_law_hued.nd rfl (Or.inl rfl) (pe_op op_catX (pv 9) (pe_callTy call_tuple_of (by rfl) T.f_tuple (by decide +kernel) (pa_cons (pe_lc (own := [("_law_hue", 8)]) (g := gName 8) rfl sc_law_hued.nd (pi_list (pv 6)) (blkOk_by (own := [("_law_hue", 8)]) (N := ["_law_op_here", "_law_width", "_law_first", "_law_starts", "_law_word", "_law_sign", "_law_hues", "_law_j", "_law_hue", "_law_parts", "_law_box"]) (sc := defScope s_law_hued) (by decide +kernel)) (fun _ _ _ _ _ => (pg_name (i := 8) sc_law_hued.nd rfl (Or.inl rfl))) (fun _ _ _ _ _ => pts_nil) (fun _ _ _ _ _ => (pe_op op_add (pv 10) (pv 8)))) pa_nil))))))
        (pss_one (ps_ret (pe_lst (pa_cons (pv 9) pa_nil))))))
        pss_nil)
      (pss_cons (ps_if (pt_cmpR op_eq (pv 4) pe_str (nomark _))
        (pss_one (ps_ret (pe_lst (pa_cons (pe_op op_catX (pe_op op_catX (pe_tup (pa_cons (pe_op op_add_str (pv 4) (pv 5)) pa_nil)) (pe_callTy call_tuple_of (by rfl) T.f_tuple (by decide +kernel) (pa_cons (pe_lc (own := [("_law_hue", 8)]) (g := gName 8) rfl sc_law_hued.nd (pi_list (pv 6)) (blkOk_by (own := [("_law_hue", 8)]) (N := ["_law_op_here", "_law_width", "_law_first", "_law_starts", "_law_word", "_law_sign", "_law_hues", "_law_j", "_law_hue", "_law_parts", "_law_box"]) (sc := defScope s_law_hued) (by decide +kernel)) (fun _ _ _ _ _ => (pg_name (i := 8) sc_law_hued.nd rfl (Or.inl rfl))) (fun _ _ _ _ _ => pts_nil) (fun _ _ _ _ _ => (pe_op op_add (pe_ix (show IxR _ (rIxT K) from ix_tup) (pv 0) pe_int (fun _ _ => rfl)) (pv 8)))) pa_nil))) (pe_tup (pa_cons (pe_ix ix_list (pv 3) (pe_ix ix_tup (pv 0) pe_int (fun _ _ => rfl)) (fun _ _ => rfl)) pa_nil))) pa_nil))))
        pss_nil)
      (pss_cons (ps_if (pt_cmpR op_eq (pv 4) pe_str (nomark _))
        (pss_one (ps_ret (pe_lst (pa_cons (pe_tup (pa_cons pe_str (pa_cons (pe_ix ix_list (pv 3) (pe_ix ix_tup (pv 0) pe_int (fun _ _ => rfl)) (fun _ _ => rfl)) pa_nil))) pa_nil))))
        pss_nil)
      (pss_cons (ps_if (pt_cmpR op_eq (pv 4) pe_str (nomark _))
        (pss_one (ps_ret (pe_lst (pa_cons (pe_tup (pa_cons pe_str (pa_cons (pe_op op_add (pe_ix ix_tup (pv 0) pe_int (fun _ _ => rfl)) (pe_ix ix_list (pv 6) pe_int (fun _ _ => rfl))) (pa_cons (pe_op op_add (pe_ix ix_tup (pv 0) pe_int (fun _ _ => rfl)) (pe_ix ix_list (pv 6) (pe_un un_neg pe_int) (fun _ _ => rfl))) pa_nil)))) pa_nil))))
        pss_nil)
      (pss_cons (ps_if (pt_cmpR op_in_seq (pv 4) (pe_tup (pa_cons pe_str (pa_cons pe_str pa_nil))) (by rfl))
        (pss_one (ps_ret (pe_lst (pa_cons (pe_tup (pa_cons (pv 4) pa_nil)) pa_nil))))
        pss_nil)
      (pss_one (ps_ret (pe_lc (own := [("_law_hue", 8)]) (g := gName 8) rfl sc_law_hued.nd (pi_list (pv 6)) (blkOk_by (own := [("_law_hue", 8)]) (N := ["_law_op_here", "_law_width", "_law_first", "_law_starts", "_law_word", "_law_sign", "_law_hues", "_law_j", "_law_hue", "_law_parts", "_law_box"]) (sc := defScope s_law_hued) (by decide +kernel)) (fun _ _ _ _ _ => (pg_name (i := 8) sc_law_hued.nd rfl (Or.inr rfl))) (fun _ _ _ _ _ => pts_nil) (fun _ _ _ _ _ => (pe_op (show OpR _ _ (rCatX K) from op_catX) (pe_tup (pa_cons (pv 4) pa_nil)) (pe_callTy (show CallR _ _ (rTupOf K) from call_tuple_of) (by rfl) T.f_tuple (by decide +kernel) (pa_cons (pe_lc (own := [("_law_box", 10)]) (g := gName 10) rfl sc_law_hued.nd (show PI _ _ _ (iTup K _) from pi_tup (pe_slice (show SlR _ (rSlX K) from sl_tupX) (pv 0) (po_some pe_int) po_none)) (blkOk_by (own := [("_law_box", 10)]) (N := ["_law_op_here", "_law_width", "_law_first", "_law_starts", "_law_word", "_law_sign", "_law_hues", "_law_j", "_law_hue", "_law_parts", "_law_box"]) (by rfl)) (fun _ _ _ _ _ => (pg_name (i := 10) sc_law_hued.nd rfl (Or.inl rfl))) (fun _ _ _ _ _ => pts_nil) (fun _ _ _ _ _ => (pe_op op_add (pv 10) (pv 8)))) pa_nil))))))))))))))), ?_⟩
    have sz : 200000 ≤ sizeLine := by decide
    -- word, sign
    refine ⟨_, rfl, _, _, _, _, rfl, rfl, ha, atI0 _ _, by show 3 ≤ sizeLine; decide, fun l1 hl1 => ?_⟩
    have s1 := same_new (o := .lst [V.str "", .str "2", .str "3"]) hl1
    have hsg : ∃ sg : Str, atI [V.str "", .str "2", .str "3"] ((wd : Int) - 1) = some (.str sg) ∧ sg = signOf wd := by
      refine ⟨_, atIn (by omega) ?_, rfl⟩
      match wd, w1, w3 with
      | 1, _, _ => rfl
      | 2, _, _ => rfl
      | 3, _, _ => rfl
    obtain ⟨sg, esg, esg2⟩ := hsg
    refine ⟨_, rfl, _, _, rfl, rfl, _, _, _, _, rfl, rfl, sq_lst upd_same, esg, by show 2 ≤ sizeLine; decide, fun tp htp => ?_⟩
    have s2 := s1.trans (same_new (o := .tup [V.str o.1, .str sg]) htp)
    have ha2 := tl_same s2 _ _ ha
    have hsa2 := s2 _ _ hsa
    refine ⟨tp, _, rfl, sq_new, rfl, _, _, rfl, _, _, rfl, rfl, ?_⟩
    generalize upd (upd H l1 _) tp _ = H2 at s2 ha2 hsa2
    clear esg hl1 s1 htp
    -- the hues
    refine ⟨_, rfl, _, rfl, by omega, by omega, fun D hD => ?_⟩
    refine lc_all (G := fun _ => True) walk_range (fun i => first + 8 * ((i : Nat) : Int)) (fun v x _ => v = .int x) (fun _ _ _ _ h _ => h) (fun _ _ _ _ _ _ h _ => h) (by omega) hD (fun _ _ => trivial) ?_ ?_
    · rintro i x Ha Hb Qe hi s ⟨rfl, rfl⟩ qe
      refine ⟨rfl, _, rfl, _, rfl, _, _, rfl, rfl, .inl ⟨by decide, by decide⟩, _, _, rfl, rfl, ?_⟩
      exact qe _ _ (fun _ _ h => h) (congrArg V.int (by rw [Int.zero_add]))
    · intro H3 acc s3 hl3 pr
      rw [paired_map pr, show ((wd : Nat) : Int).toNat = wd by omega] at hl3
      have hh : H3 D = some (.lst ((hu wd first).map V.int)) := hl3
      clear hl3 pr acc
      have s03 := s2.trans s3
      have ha3 := tl_same s3 _ _ ha2
      have hsa3 := s3 _ _ hsa2
      have hg := hu_rg w3 f0 f8
      have hl := hu_len wd first
      have q := fun H' a us rs (s : Same H3 H') => q H' a us rs (s03.trans s)
      have ok := op_kind ho
      have nofin : ∀ {r : Rw}, RwOk r → (fmO r.1).cps.toList.all (fun c => c != 112) = true → ∀ z, lds r = some z → ∃ g : Int, 0 ≤ g ∧ g ≤ many ∧ z = getI ss g := fun ok h z e => by rw [lds_none ok h] at e; cases e
      clear ho s2 s3 hD
      refine ⟨_, rfl, by show 2 ≤ sizeLine; decide, fun t1 ht1 => ?_⟩
      have sA := same_new (o := .tup [V.str "set", .str "ask"]) ht1
      refine ⟨t1, _, rfl, .inr sq_new, rfl, rfl, _, rfl, ?_⟩
      rw [if_neg (by decide)]
      have haA := tl_same sA _ _ ha3
      have hhA := sA _ _ hh
      have hsaA := sA _ _ hsa3
      have q := fun H' a us rs (s : Same _ H') => q H' a us rs (sA.trans s)
      generalize upd H3 t1 _ = HA at sA haA hhA hsaA q
      cases ok with
      | sa x b z hx hb hz =>
        rw [in2, show decide (x = "set" ∨ x = "ask") = true by rcases hx with ⟨h, _⟩ | ⟨h, _⟩ <;> simp [h]]
        refine iteT ⟨_, rfl, D, rfl, ⟨_, sq_lst hhA⟩, fun D2 hD2 => ?_⟩
        refine lc_all (G := fun H' => SqL K H' D ((hu wd first).map V.int)) walk_list (fun i => ((x, [b + (hu wd first).getD i 0, z]) : Rw)) (fun v r H' => RwAt K H' v r) (fun _ _ _ _ h s => h.same s) (fun _ _ _ l xs zs h hl => h.tl (tl_lst hl)) (by rw [List.length_map]; omega) hD2 (keepL hhA) ?_ ?_
        · rintro i y Ha Hb Qe hi s ⟨rfl, e⟩ qe
          rw [List.getElem?_map] at e
          obtain ⟨h1, e1, rfl⟩ := Option.map_eq_some_iff.mp e
          have haB := tl_same s _ _ haA
          refine ⟨rfl, _, rfl, _, rfl, _, _, _, _, rfl, rfl, haB, atIn (x := V.int b) (by decide) rfl, _, rfl, _, _, rfl, rfl, _, rfl, _, _, _, _, rfl, rfl, haB, atIn (x := V.int z) (by decide) rfl, by show 3 ≤ sizeLine; decide, fun p hp => ?_⟩
          refine qe _ _ (same_new hp) ?_
          rw [List.getD_eq_getElem?_getD, e1]
          show RwAt K (upd Hb p (.tup [V.str x, .int (b + h1), .int z])) (.ref p) (x, [b + h1, z])
          exact mkT (x := x) (ns := [b + h1, z])
        · intro H4 acc s4 hl4 pr
          rw [List.length_map, hl] at pr
          refine q H4 D2 acc _ s4 hl4 pr ⟨?_, fun r hr => ?_, fun e => ?_⟩
          · rw [List.length_map, List.length_range]
            rcases hx with ⟨h, _⟩ | ⟨h, _⟩ <;> (subst h; rfl)
          · obtain ⟨i, hi, rfl⟩ := List.mem_map.mp hr
            have hi := List.mem_range.mp hi
            have e1 := hu_at (f := first) hi
            have e2 := hg _ (List.mem_of_getElem? e1)
            have e3 : (hu wd first).getD i 0 = first + 8 * ((i : Nat) : Int) := by rw [List.getD_eq_getElem?_getD, e1]; rfl
            rw [e3]
            have hb1 := hb.1
            have hb2 := hb.2
            have rk : RwOk (x, [b + (first + 8 * ((i : Nat) : Int)), z]) := by
              rcases hx with ⟨h, hz2⟩ | ⟨h, hz2⟩
              · subst h
                refine RwOk_of (f := "sn") (by decide) rfl fun j c y h1 h2 => ?_
                rcases j with _ | _ | j
                · cases Option.some.inj h1; cases Option.some.inj h2; exact ⟨by omega, by show _ ≤ (31 : Int); omega⟩
                · cases Option.some.inj h1; cases Option.some.inj h2; exact ⟨hz, by show _ ≤ (15 : Int); omega⟩
                · simp at h2
              · subst h
                refine RwOk_of (f := "sk") (by decide) rfl fun j c y h1 h2 => ?_
                rcases j with _ | _ | j
                · cases Option.some.inj h1; cases Option.some.inj h2; exact ⟨by omega, by show _ ≤ (31 : Int); omega⟩
                · cases Option.some.inj h1; cases Option.some.inj h2; exact ⟨hz, by show _ ≤ (7 : Int); omega⟩
                · simp at h2
            refine ⟨rk, nofin rk ?_⟩
            rcases hx with ⟨h, _⟩ | ⟨h, _⟩ <;> (subst h; rfl)
          · rcases hx with ⟨h, _⟩ | ⟨h, _⟩ <;> (rw [show ((x, [b, z]) : Rw).1 = x from rfl, h] at e; exact absurd e (by decide))
      | tp x ns hx hn =>
        have xn : x ≠ "set" ∧ x ≠ "ask" := by rcases hx with ⟨h, _⟩ | ⟨h, _⟩ <;> (subst h; decide)
        rw [in2F xn.1 xn.2]
        refine iteF ?_
        refine ⟨_, rfl, by show 2 ≤ sizeLine; decide, fun t2 ht2 => ?_⟩
        have sB := same_new (o := .tup [V.str "tell", .str "put"]) ht2
        refine ⟨t2, _, rfl, .inr sq_new, rfl, rfl, _, rfl, ?_⟩
        rw [if_neg (by decide)]
        have haB := tl_same sB _ _ haA
        have hhB := sB _ _ hhA
        have q := fun H' a us rs (s : Same _ H') => q H' a us rs (sB.trans s)
        generalize upd HA t2 _ = HB at sB haB hhB q
        rw [in2, show decide (x = "tell" ∨ x = "put") = true by rcases hx with ⟨h, _⟩ | ⟨h, _⟩ <;> simp [h]]
        have xl : x.length + sg.length ≤ sizeLine := by
          rw [esg2]
          have h1 : x.length ≤ 4 := by rcases hx with ⟨h, _⟩ | ⟨h, _⟩ <;> (subst h; decide)
          have h2 : (signOf wd).length ≤ 1 := by unfold signOf; split; decide; split <;> decide
          omega
        refine iteT ⟨_, rfl, _, rfl, _, _, rfl, rfl, xl, by show 1 ≤ sizeLine; decide, fun p0 hp0 => ?_⟩
        have sC := same_new (o := .tup [V.str (x ++ sg)]) hp0
        have hC : (upd HB p0 (.tup [V.str (x ++ sg)])) p0 = some (.tup (V.str (x ++ sg) :: (([] : List Int)).map V.int)) := upd_same
        have haC := tl_same sC _ _ haB
        have hhC := sC _ _ hhB
        generalize upd HB p0 (.tup [V.str (x ++ sg)]) = HC at sC hC haC hhC
        refine ⟨_, rfl, _, rfl, a, _, rfl, haC, fun HD d sD hd => ?_⟩
        rw [cut1] at hd
        refine ⟨d, rfl, ⟨_, hd⟩, ?_⟩
        have haD := tl_same sD _ _ haC
        have hhD := sD _ _ hhC
        refine for_it walk_tup (fun i σ H' => ∃ p ms y, σ = [some (.ref a), some (.int (wd : Nat)), some (.int first), some (.ref sa), some (.str x), some (.str sg), some (.ref D), none, none, some (.ref p), y] ∧ Same HD H' ∧ SqT K H' p (V.str (x ++ sg) :: ms.map V.int) ∧ ms.length = i * wd ∧ ∀ z ∈ ms, 0 ≤ z ∧ z ≤ 31)
          ⟨p0, [], none, rfl, fun _ _ z => z, sq_tup (sD _ _ hC), by simp, fun z h => by simp at h⟩ (fun i σ H' _ h => by obtain ⟨_, _, _, _, s, _⟩ := h; exact tl_same s _ _ hd) ?_ ?_
        · rintro i y σ Hx HE hi ⟨p, ms, y0, rfl, sE, hp, hml, hrg⟩ ⟨rfl, e⟩
          rw [List.getElem?_map] at e
          obtain ⟨b, e1, rfl⟩ := Option.map_eq_some_iff.mp e
          have hb := hn b (List.mem_of_getElem? e1)
          have hil : i < 2 := by
            have : ns.length ≤ 2 := by rcases hx with ⟨_, h⟩ | ⟨_, h⟩ <;> omega
            have hi : i < (ns.map V.int).length := hi
            rw [List.length_map] at hi
            omega
          have hhE := sE _ _ hhD
          refine ⟨_, rfl, _, rfl, D, rfl, ⟨_, sq_lst hhE⟩, fun D2 hD2 => ?_⟩
          refine lc_ints (F := fun z => b + z) (sq_lst hhE) (by omega) hD2 (keepL hhE) ?_ ?_
          · intro z Ha Qe hz s qe
            exact ⟨rfl, _, rfl, _, rfl, _, _, rfl, rfl, qe⟩
          · intro HF sF hF
            refine ⟨D2, _, rfl, .inl ⟨sq_lst hF, fun t3 ht3 => ?_⟩⟩
            have sG := sF.trans (same_new (o := .tup (((hu wd first).map fun z => b + z).map V.int)) ht3)
            refine ⟨p, t3, _, _, rfl, rfl, tl_same sG _ _ hp, sq_new, ?_, fun HG p3 s3 hp3 => ?_⟩
            · rw [List.length_cons, List.length_map, List.length_map, List.length_map, hml, hl]
              have : i * wd ≤ 6 := Nat.le_trans (Nat.mul_le_mul (show i ≤ 2 by omega) w3) (by decide)
              omega
            · refine ⟨p3, ms ++ (hu wd first).map fun z => b + z, some (.int b), rfl, (sE.trans sG).trans s3, by rw [List.cons_append, ← List.map_append] at hp3; exact hp3, by rw [List.length_append, List.length_map, hl, hml, Nat.add_mul, Nat.one_mul], fun z hz => ?_⟩
              rcases List.mem_append.mp hz with m | m
              · exact hrg z m
              · obtain ⟨z2, m2, rfl⟩ := List.mem_map.mp m
                have h1 := hg z2 m2
                have h2 := hb.1
                have h3 := hb.2
                omega
        · rintro σ HE ⟨p, ms, y0, rfl, sE, hp, hml, hrg⟩
          rw [List.length_map] at hml
          refine ⟨_, rfl, by show 1 ≤ sizeLine; decide, fun lr hlr => ?_⟩
          have sR := same_new (o := .lst [V.ref p]) hlr
          have rk : RwOk (x ++ sg, ms) := by
            rw [esg2]
            rcases hx with ⟨h, h2⟩ | ⟨h, h2⟩
            · subst h
              rw [h2, Nat.one_mul] at hml
              match wd, w1, w3, hml with
              | 1, _, _, hml => exact RwOk_boxes (f := "r") (by decide) hml (by decide) hrg
              | 2, _, _, hml => exact RwOk_boxes (f := "rr") (by decide) hml (by decide) hrg
              | 3, _, _, hml => exact RwOk_boxes (f := "rrr") (by decide) hml (by decide) hrg
            · subst h
              rw [h2] at hml
              match wd, w1, w3, hml with
              | 1, _, _, hml => exact RwOk_boxes (f := "rr") (by decide) hml (by decide) hrg
              | 2, _, _, hml => exact RwOk_boxes (f := "rrrr") (by decide) hml (by decide) hrg
              | 3, _, _, hml => exact RwOk_boxes (f := "rrrrrr") (by decide) hml (by decide) hrg
          have fk : (fmO (x ++ sg)).cps.toList.all (fun c => c != 112) = true := by
            rw [esg2]
            rcases hx with ⟨h, _⟩ | ⟨h, _⟩
            · subst h
              match wd, w1, w3 with
              | 1, _, _ => decide
              | 2, _, _ => decide
              | 3, _, _ => decide
            · subst h
              match wd, w1, w3 with
              | 1, _, _ => decide
              | 2, _, _ => decide
              | 3, _, _ => decide
          refine q _ lr [.ref p] [(x ++ sg, ms)] (((sC.trans sD).trans sE).trans sR) upd_same (.cons ⟨p, rfl, tl_same sR _ _ hp⟩ .nil) ⟨?_, fun r hr => ?_, fun e => ?_⟩
          · rcases hx with ⟨h, _⟩ | ⟨h, _⟩ <;> (subst h; rfl)
          · rw [List.mem_singleton.mp hr]
            exact ⟨rk, nofin rk fk⟩
          · rcases hx with ⟨h, _⟩ | ⟨h, _⟩ <;> (rw [show ((x, ns) : Rw).1 = x from rfl, h] at e; exact absurd e (by decide))
      | iff c g hc hgo =>
        refine iteF ⟨_, rfl, by show 2 ≤ sizeLine; decide, fun t2 ht2 => ?_⟩
        have sB := same_new (o := .tup [V.str "tell", .str "put"]) ht2
        refine ⟨t2, _, rfl, .inr sq_new, rfl, rfl, _, rfl, ?_⟩
        rw [if_neg (by decide)]
        have haB := tl_same sB _ _ haA
        have hhB := sB _ _ hhA
        have hsaB := sB _ _ hsaA
        have q := fun H' a us rs (s : Same _ H') => q H' a us rs (sB.trans s)
        generalize upd HA t2 _ = HB at sB haB hhB hsaB q
        refine iteF ⟨_, rfl, rfl, _, rfl, iteT ?_⟩
        have xl : ("if" : Str).length + sg.length ≤ sizeLine := by
          rw [esg2]
          have h1 : ("if" : Str).length ≤ 4 := by decide
          have h2 : (signOf wd).length ≤ 1 := by unfold signOf; split; decide; split <;> decide
          omega
        refine ⟨_, rfl, _, rfl, _, _, rfl, rfl, xl, by show 1 ≤ sizeLine; decide, fun p0 hp0 => ?_⟩
        have sC := same_new (o := .tup [V.str ("if" ++ sg)]) hp0
        have hC : (upd HB p0 (.tup [V.str ("if" ++ sg)])) p0 = some (.tup [V.str ("if" ++ sg)]) := upd_same
        have haC := tl_same sC _ _ haB
        have hhC := sC _ _ hhB
        have hsaC := sC _ _ hsaB
        generalize upd HB p0 (.tup [V.str ("if" ++ sg)]) = HC at sC hC haC hhC hsaC
        refine ⟨_, rfl, D, rfl, ⟨_, sq_lst hhC⟩, fun D2 hD2 => ?_⟩
        refine lc_ints (F := fun z => c + z) (sq_lst hhC) (by omega) hD2 (keepL hhC) ?_ ?_
        · intro z Ha Qe hz s qe
          exact ⟨rfl, _, rfl, _, _, _, _, rfl, rfl, tl_same s _ _ haC, atIn (x := V.int c) (by decide) rfl, _, rfl, _, _, rfl, rfl, qe⟩
        · intro HF sF hF
          refine ⟨D2, _, rfl, .inl ⟨sq_lst hF, fun t3 ht3 => ?_⟩⟩
          have sG := sF.trans (same_new (o := .tup (((hu wd first).map fun z => c + z).map V.int)) ht3)
          refine ⟨p0, t3, _, _, rfl, rfl, sq_tup (sG _ _ hC), sq_new, ?_, fun HG p3 s3 hp3 => ?_⟩
          · rw [List.length_map, List.length_map, hl]; show 1 + wd ≤ sizeLine; omega
          have sCG := sG.trans s3
          refine ⟨_, rfl, _, rfl, _, _, _, _, rfl, rfl, tl_same sCG _ _ haC, atIn (x := V.int g) (by decide) rfl, _, _, _, _, rfl, rfl, sq_lst (sCG _ _ hsaC), atI_get hgo.1 (by omega), by show 1 ≤ sizeLine; decide, fun t4 ht4 => ?_⟩
          have s4 := same_new (o := .tup [V.int (getI ss g)]) ht4
          refine ⟨p3, t4, _, _, rfl, rfl, tl_same s4 _ _ hp3, sq_new, ?_, fun HI p5 s5 hp5 => ?_⟩
          · rw [List.length_append, List.length_map, List.length_map, hl]; show 1 + wd + 1 ≤ sizeLine; omega
          refine ⟨by show 1 ≤ sizeLine; decide, fun lr hlr => ?_⟩
          have sR := same_new (o := .lst [V.ref p5]) hlr
          have hp5 : SqT K HI p5 (V.str ("if" ++ sg) :: (((hu wd first).map fun z => c + z) ++ [getI ss g]).map V.int) := by
            rw [List.map_append, ← List.cons_append]; exact hp5
          have hsg := hss g hgo.1 hgo.2
          have hrg : ∀ z ∈ (hu wd first).map (fun z => c + z), 0 ≤ z ∧ z ≤ 31 := fun z hz => by
            obtain ⟨z2, m2, rfl⟩ := List.mem_map.mp hz
            have h1 := hg z2 m2
            have h2 := hc.1
            have h3 := hc.2
            omega
          obtain ⟨k1, k2⟩ := if_key wd w1 w3 _ (getI ss g) (by rw [List.length_map, hl]) hrg hsg sg (by
            rw [esg2]
            have : wd = 1 ∨ wd = 2 ∨ wd = 3 := by omega
            rcases this with h | h | h
            · exact .inl ⟨h, by rw [h]; rfl⟩
            · exact .inr (.inl ⟨h, by rw [h]; rfl⟩)
            · exact .inr (.inr ⟨h, by rw [h]; rfl⟩))
          refine q _ lr [.ref p5] [("if" ++ sg, ((hu wd first).map fun z => c + z) ++ [getI ss g])] ((((sC.trans sCG).trans s4).trans s5).trans sR) upd_same (.cons ⟨p5, rfl, tl_same sR _ _ hp5⟩ .nil) ⟨rfl, fun r hr => ?_, fun e => absurd (show ("if" : Str) = "end" from e) (by decide)⟩
          rw [List.mem_singleton.mp hr]
          refine ⟨k1, fun z e => ⟨g, hgo.1, hgo.2, ?_⟩⟩
          rw [k2] at e
          exact (Option.some.inj e).symm
      | go g hgo =>
        refine iteF ⟨_, rfl, by show 2 ≤ sizeLine; decide, fun t2 ht2 => ?_⟩
        have sB := same_new (o := .tup [V.str "tell", .str "put"]) ht2
        refine ⟨t2, _, rfl, .inr sq_new, rfl, rfl, _, rfl, ?_⟩
        rw [if_neg (by decide)]
        have haB := tl_same sB _ _ haA
        have hhB := sB _ _ hhA
        have hsaB := sB _ _ hsaA
        have q := fun H' a us rs (s : Same _ H') => q H' a us rs (sB.trans s)
        generalize upd HA t2 _ = HB at sB haB hhB hsaB q
        refine iteF ⟨_, rfl, rfl, _, rfl, iteF ?_⟩
        refine ⟨_, rfl, rfl, _, rfl, iteT ?_⟩
        refine ⟨_, rfl, _, rfl, _, _, _, _, rfl, rfl, haB, atIn (x := V.int g) (by decide) rfl, _, _, _, _, rfl, rfl, sq_lst hsaB, atI_get hgo.1 (by omega), by show 2 ≤ sizeLine; decide, fun p hp => ?_⟩
        refine ⟨by show 1 ≤ sizeLine; decide, fun lr hlr => ?_⟩
        have s1 := same_new (o := .tup [V.str "go", .int (getI ss g)]) hp
        have s2 := same_new (o := .lst [V.ref p]) hlr
        have hsg := hss g hgo.1 hgo.2
        have rk : RwOk ("go", [getI ss g]) := RwOk_of (f := "p") (by decide) rfl fun j c y h1 h2 => by
          rcases j with _ | j
          · cases Option.some.inj h1; cases Option.some.inj h2; exact hsg
          · simp at h2
        refine q _ lr [.ref p] [("go", [getI ss g])] (s1.trans s2) upd_same (.cons ((mkT (x := "go") (ns := [getI ss g])).same s2) .nil) ⟨rfl, fun r hr => ?_, fun e => absurd (show ("go" : Str) = "end" from e) (by decide)⟩
        rw [List.mem_singleton.mp hr]
        refine ⟨rk, fun z e => ⟨g, hgo.1, hgo.2, ?_⟩⟩
        have e2 : lds (("go" : Str), [getI ss g]) = some (getI ss g) := rfl
        rw [e2] at e
        exact (Option.some.inj e).symm
      | hold b hb =>
        refine iteF ⟨_, rfl, by show 2 ≤ sizeLine; decide, fun t2 ht2 => ?_⟩
        have sB := same_new (o := .tup [V.str "tell", .str "put"]) ht2
        refine ⟨t2, _, rfl, .inr sq_new, rfl, rfl, _, rfl, ?_⟩
        rw [if_neg (by decide)]
        have haB := tl_same sB _ _ haA
        have hhB := sB _ _ hhA
        have hsaB := sB _ _ hsaA
        have q := fun H' a us rs (s : Same _ H') => q H' a us rs (sB.trans s)
        generalize upd HA t2 _ = HB at sB haB hhB hsaB q
        refine iteF ⟨_, rfl, rfl, _, rfl, iteF ?_⟩
        refine ⟨_, rfl, rfl, _, rfl, iteF ?_⟩
        refine ⟨_, rfl, rfl, _, rfl, iteT ?_⟩
        have h0 := hu_at (w := wd) (f := first) (j := 0) (by omega)
        have h9 := hu_at (w := wd) (f := first) (j := wd - 1) (by omega)
        refine ⟨_, rfl, _, _, _, _, rfl, rfl, haB, atIn (x := V.int b) (by decide) rfl, _, rfl, _, _, _, _, rfl, rfl, sq_lst hhB, atIn (by decide) (sq_int _ _ _ h0), _, _, rfl, rfl, _, rfl, _, _, _, _, rfl, rfl, haB, atIn (x := V.int b) (by decide) rfl, _, rfl, _, rfl, _, _, _, _, rfl, rfl, sq_lst hhB, atI_last (by rw [List.length_map, hl]; exact sq_int _ _ _ h9), _, _, rfl, rfl, by show 3 ≤ sizeLine; decide, fun p hp => ?_⟩
        refine ⟨by show 1 ≤ sizeLine; decide, fun lr hlr => ?_⟩
        have s1 := same_new (o := .tup [V.str "hold", .int (b + (first + 8 * ((0 : Nat) : Int))), .int (b + (first + 8 * ((wd - 1 : Nat) : Int)))]) hp
        have s2 := same_new (o := .lst [V.ref p]) hlr
        have hb1 := hb.1
        have hb2 := hb.2
        have rk : RwOk ("hold", [b + (first + 8 * ((0 : Nat) : Int)), b + (first + 8 * ((wd - 1 : Nat) : Int))]) := RwOk_boxes (f := "rr") (by decide) rfl (by decide) (by simp; omega)
        refine q _ lr [.ref p] [("hold", [b + (first + 8 * ((0 : Nat) : Int)), b + (first + 8 * ((wd - 1 : Nat) : Int))])] (s1.trans s2) upd_same (.cons ((mkT (x := "hold") (ns := [b + (first + 8 * ((0 : Nat) : Int)), b + (first + 8 * ((wd - 1 : Nat) : Int))])).same s2) .nil) ⟨rfl, fun r hr => ?_, fun e => absurd (show ("hold" : Str) = "end" from e) (by decide)⟩
        rw [List.mem_singleton.mp hr]
        exact ⟨rk, nofin rk (show (fmO ("hold" : Str)).cps.toList.all (fun c => c != 112) = true by decide)⟩
      | ke x hx =>
        have xn : x ≠ "set" ∧ x ≠ "ask" ∧ x ≠ "tell" ∧ x ≠ "put" ∧ x ≠ "if" ∧ x ≠ "go" ∧ x ≠ "hold" := by rcases hx with h | h <;> (subst h; decide)
        obtain ⟨n1, n2, n3, n4, n5, n6, n7⟩ := xn
        rw [in2F n1 n2]
        refine iteF ⟨_, rfl, by show 2 ≤ sizeLine; decide, fun t2 ht2 => ?_⟩
        have sB := same_new (o := .tup [V.str "tell", .str "put"]) ht2
        refine ⟨t2, _, rfl, .inr sq_new, rfl, rfl, _, rfl, ?_⟩
        rw [if_neg (by decide)]
        have haB := tl_same sB _ _ haA
        have hhB := sB _ _ hhA
        have hsaB := sB _ _ hsaA
        have q := fun H' a us rs (s : Same _ H') => q H' a us rs (sB.trans s)
        generalize upd HA t2 _ = HB at sB haB hhB hsaB q
        rw [in2F n3 n4]
        refine iteF ⟨_, rfl, rfl, _, rfl, ?_⟩
        rw [show decide (V.str x = V.str "if") = false by simpa using n5]
        refine iteF ⟨_, rfl, rfl, _, rfl, ?_⟩
        rw [show decide (V.str x = V.str "go") = false by simpa using n6]
        refine iteF ⟨_, rfl, rfl, _, rfl, ?_⟩
        rw [show decide (V.str x = V.str "hold") = false by simpa using n7]
        refine iteF ⟨_, rfl, by show 2 ≤ sizeLine; decide, fun t3 ht3 => ?_⟩
        have sC := same_new (o := .tup [V.str "keep", .str "end"]) ht3
        refine ⟨t3, _, rfl, .inr sq_new, rfl, rfl, _, rfl, ?_⟩
        rw [if_neg (by decide), in2, show decide (x = "keep" ∨ x = "end") = true by simpa using hx]
        refine iteT ⟨_, rfl, by show 1 ≤ sizeLine; decide, fun p hp => ?_⟩
        refine ⟨by show 1 ≤ sizeLine; decide, fun lr hlr => ?_⟩
        have s1 := same_new (o := .tup [V.str x]) hp
        have s2 := same_new (o := .lst [V.ref p]) hlr
        have rk : RwOk (x, []) := by rcases hx with h | h <;> (subst h; exact RwOk_boxes (f := "") (by decide) rfl (by decide) (by simp))
        refine q _ lr [.ref p] [(x, [])] ((sC.trans s1).trans s2) upd_same (.cons ((mkT (x := x) (ns := [])).same s2) .nil) ⟨?_, fun r hr => ?_, fun e => ?_⟩
        · rcases hx with h | h <;> (subst h; rfl)
        · rw [List.mem_singleton.mp hr]
          exact ⟨rk, nofin rk (by show (fmO x).cps.toList.all (fun c => c != 112) = true; rcases hx with h | h <;> (subst h; decide))⟩
        · rw [show x = "end" from e]
      | box x ns f hf hfl hs hd n1 n2 n3 n4 n5 n6 n7 n8 n9 hn =>
        rw [in2F n1 n2]
        refine iteF ⟨_, rfl, by show 2 ≤ sizeLine; decide, fun t2 ht2 => ?_⟩
        have sB := same_new (o := .tup [V.str "tell", .str "put"]) ht2
        refine ⟨t2, _, rfl, .inr sq_new, rfl, rfl, _, rfl, ?_⟩
        rw [if_neg (by decide)]
        have haB := tl_same sB _ _ haA
        have hhB := sB _ _ hhA
        have hsaB := sB _ _ hsaA
        have q := fun H' a us rs (s : Same _ H') => q H' a us rs (sB.trans s)
        generalize upd HA t2 _ = HB at sB haB hhB hsaB q
        rw [in2F n3 n4]
        refine iteF ⟨_, rfl, rfl, _, rfl, ?_⟩
        rw [show decide (V.str x = V.str "if") = false by simpa using n5]
        refine iteF ⟨_, rfl, rfl, _, rfl, ?_⟩
        rw [show decide (V.str x = V.str "go") = false by simpa using n6]
        refine iteF ⟨_, rfl, rfl, _, rfl, ?_⟩
        rw [show decide (V.str x = V.str "hold") = false by simpa using n7]
        refine iteF ⟨_, rfl, by show 2 ≤ sizeLine; decide, fun t3 ht3 => ?_⟩
        have sC := same_new (o := .tup [V.str "keep", .str "end"]) ht3
        refine ⟨t3, _, rfl, .inr sq_new, rfl, rfl, _, rfl, ?_⟩
        rw [if_neg (by decide), in2F n8 n9]
        have haC := tl_same sC _ _ haB
        have hhC := sC _ _ hhB
        have q := fun H' a us rs (s : Same _ H') => q H' a us rs (sC.trans s)
        generalize upd HB t3 _ = HC at sC haC hhC q
        refine iteF ⟨_, rfl, D, rfl, ⟨_, sq_lst hhC⟩, fun D2 hD2 => ?_⟩
        have nl6 : ns.length ≤ 6 := by rw [hfl]; exact fm_small hf
        refine lc_all (G := fun H' => SqL K H' D ((hu wd first).map V.int)) walk_list (fun i => ((x, ns.map fun z => z + (hu wd first).getD i 0) : Rw)) (fun v r H' => RwAt K H' v r) (fun _ _ _ _ h s => h.same s) (fun _ _ _ l xs zs h hl => h.tl (tl_lst hl)) (by rw [List.length_map]; omega) hD2 (keepL hhC) ?_ ?_
        · rintro i y Ha Hb Qe hi s ⟨rfl, e⟩ qe
          rw [List.getElem?_map] at e
          obtain ⟨h1, e1, rfl⟩ := Option.map_eq_some_iff.mp e
          have haD := tl_same s _ _ haC
          refine ⟨rfl, _, rfl, by show 1 ≤ sizeLine; decide, fun p0 hp0 => ?_⟩
          have sE := same_new (o := .tup [V.str x]) hp0
          refine ⟨_, rfl, _, rfl, a, _, rfl, tl_same sE _ _ haD, fun HE d sF hd => ?_⟩
          rw [cut1] at hd
          refine ⟨d, rfl, ⟨_, hd⟩, fun D3 hD3 => ?_⟩
          refine lc_all (G := fun H' => SqT K H' d (ns.map V.int)) walk_tup (fun j => ns.getD j 0 + h1) (fun v z _ => v = .int z) (fun _ _ _ _ h _ => h) (fun _ _ _ _ _ _ h _ => h) (by rw [List.length_map]; omega) hD3 (fun H' s => tl_same s _ _ hd) ?_ ?_
          · rintro j y Hc Hd Qe2 hj s2 ⟨rfl, e2⟩ qe2
            rw [List.getElem?_map] at e2
            obtain ⟨z, e3, rfl⟩ := Option.map_eq_some_iff.mp e2
            refine ⟨rfl, _, rfl, _, rfl, _, _, rfl, rfl, ?_⟩
            exact qe2 _ _ (fun _ _ h => h) (by rw [List.getD_eq_getElem?_getD, e3]; rfl)
          · intro HG acc sG hlG pr
            rw [paired_map pr, List.length_map] at hlG
            refine ⟨D3, _, rfl, .inl ⟨sq_lst hlG, fun t4 ht4 => ?_⟩⟩
            have sH := (sF.trans sG).trans (same_new (o := .tup (((List.range ns.length).map fun j => ns.getD j 0 + h1).map V.int)) ht4)
            refine ⟨p0, t4, _, _, rfl, rfl, tl_same sH _ _ (sq_new (xs := [V.str x])), sq_new, ?_, fun HI p5 s5 hp5 => ?_⟩
            · rw [List.length_map, List.length_map, List.length_range]; show 1 + ns.length ≤ sizeLine; omega
            refine qe _ _ ((sE.trans sH).trans s5) ⟨p5, rfl, ?_⟩
            have e5 : (List.range ns.length).map (fun j => ns.getD j 0 + h1) = ns.map fun z => z + (hu wd first).getD i 0 := by
              rw [List.getD_eq_getElem?_getD (l := hu wd first), e1]
              refine List.ext_getElem? fun j => ?_
              rw [List.getElem?_map, List.getElem?_map]
              rcases Nat.lt_or_ge j ns.length with h | h
              · rw [List.getElem?_range h, List.getElem?_eq_getElem h]
                simp [List.getD_eq_getElem?_getD, h]
              · rw [List.getElem?_eq_none (by simpa using h), List.getElem?_eq_none h]; rfl
            rw [e5] at hp5
            exact hp5
        · intro H4 acc s4 hl4 pr
          rw [List.length_map, hl] at pr
          refine q H4 D2 acc _ s4 hl4 pr ⟨?_, fun r hr => ?_, fun e => absurd e n9⟩
          · rw [List.length_map, List.length_range, show isDeedOp ((x, ns) : Rw).1 = true from hd, if_pos rfl]
          · obtain ⟨i, hi, rfl⟩ := List.mem_map.mp hr
            have hi := List.mem_range.mp hi
            have e1 := hu_at (f := first) hi
            have e2 := hg _ (List.mem_of_getElem? e1)
            have e3 : (hu wd first).getD i 0 = first + 8 * ((i : Nat) : Int) := by rw [List.getD_eq_getElem?_getD, e1]; rfl
            rw [e3]
            have rk : RwOk (x, ns.map fun z => z + (first + 8 * ((i : Nat) : Int))) := RwOk_boxes hf (by rw [List.length_map]; exact hfl) hs fun z hz => by
              obtain ⟨z2, m2, rfl⟩ := List.mem_map.mp hz
              have := hn z2 m2
              have h1 := this.1
              have h2 := this.2
              omega
            refine ⟨rk, nofin rk ?_⟩
            show (fmO x).cps.toList.all (fun c => c != 112) = true
            rw [show fmO x = f by unfold fmO; rw [hf]; rfl]
            refine List.all_eq_true.mpr fun c hc => ?_
            have := List.all_eq_true.mp hs c hc
            have : c = 114 ∨ c = 115 := by simpa using this
            rcases this with h | h <;> (subst h; rfl)
end

end Sw
/-! SwL5 -/
namespace Sw
set_option Elab.async false
set_option linter.all false
set_option maxRecDepth 100000
set_option maxHeartbeats 4000000
open PySem PySem.Spec PyProof.Rows L2
def wayW : List Str := ["if", "if2", "if3", "go"]
def saW : List Str := ["set", "ask"]
def wl1 : List Str := ["tell 1", "tell2 2", "tell3 3", "put 2", "put2 4", "put3 6", "hold 2", "copy 2", "add 3", "less 3"]
def wl2 : List Str := ["same 3", "mix 3", "pick 4", "take 2", "if 1", "if2 2", "if3 3", "set 1", "ask 1", "go 0"]
def wl3 : List Str := ["keep 0", "end 0"]
def wl4 : List Str := ["tell3 3", "if2 2", "put3 6"]
def wildF : List Str := wl1 ++ wl2 ++ wl3 ++ wl4
def wchk (s : Str) : Bool :=
  match Txt.split s " " with
  | [x, c] => (match PySem.intText? c with
    | some m => decide (c.length ≤ 640) && decide (0 ≤ m ∧ m ≤ 6) && (match formsL.lookup x with
      | some f => if wayW.contains x = true then decide (f.cps.toList = List.replicate m.toNat 114 ++ [112])
          else if saW.contains x = true then decide (m = 1 ∧ (f.cps.toList = [115, 110] ∨ f.cps.toList = [115, 107]))
          else decide (f.cps.size = m.toNat) && f.cps.toList.all (fun c => c == 114 || c == 115)
      | none => false)
    | none => false)
  | _ => false
theorem wild_chk : ∀ s ∈ wildF, wchk s = true := by decide +kernel
theorem wild_of {s : Str} (h : s ∈ wildF) : ∃ (x c : Str) (m : Int) (f : Str), Txt.split s " " = [x, c] ∧ PySem.intText? c = some m ∧ c.length ≤ 640 ∧ 0 ≤ m ∧ m ≤ 6 ∧ formsL.lookup x = some f ∧
    ((wayW.contains x = true ∧ f.cps.toList = List.replicate m.toNat 114 ++ [112]) ∨
     (wayW.contains x = false ∧ saW.contains x = true ∧ m = 1 ∧ (f.cps.toList = [115, 110] ∨ f.cps.toList = [115, 107])) ∨
     (wayW.contains x = false ∧ saW.contains x = false ∧ f.cps.size = m.toNat ∧ f.cps.toList.all (fun c => c == 114 || c == 115) = true)) := by
  have := wild_chk s h
  unfold wchk at this
  split at this
  · rename_i x c e1
    split at this
    · rename_i m e2
      split at this
      · rename_i f e3
        simp only [Bool.and_eq_true, decide_eq_true_eq] at this
        obtain ⟨⟨h1, h2⟩, h3⟩ := this
        refine ⟨x, c, m, f, e1, e2, h1, h2.1, h2.2, e3, ?_⟩
        split at h3
        · exact .inl ⟨by assumption, by simpa using h3⟩
        · rename_i n1
          have n1 : wayW.contains x = false := by simpa using n1
          split at h3
          · have h3 : m = 1 ∧ (f.cps.toList = [115, 110] ∨ f.cps.toList = [115, 107]) := by simpa using h3
            exact .inr (.inl ⟨n1, by assumption, h3.1, h3.2⟩)
          · rename_i n2
            have n2 : saW.contains x = false := by simpa using n2
            rw [Bool.and_eq_true] at h3
            exact .inr (.inr ⟨n1, n2, by simpa using h3.1, h3.2⟩)
      · simp at this
    · cases this
  · cases this
theorem size_list {f : Str} {l : List Nat} (h : f.cps.toList = l) : f.cps.size = l.length := by rw [← h]; simp
theorem at_list {f : Str} {l : List Nat} {i c : Nat} (h : f.cps.toList = l) (e : f.cps[i]? = some c) : l[i]? = some c := by rw [← h]; simpa using e
section
variable {w : World} {K : PySem.W.Frag} {mg : Str → Option Value} {base : Heap}
theorem in_str (x : Str) (l : List Str) : inV (.str x) (l.map V.str) = l.contains x := inV_str x l
theorem sc_law_wild : FnScope ["_law_n", "_law_many", "_law_some", "_law_forms", "_law_word", "_law_count", "_law_row"] ["_law_n", "_law_many"] (defScope s_law_wild) := ⟨rfl, rfl, rfl, by decide +kernel, rfl, by decide +kernel, by decide +kernel⟩
def sp_wild (K : PySem.W.Frag) : Sp := fun vs H Q _ => ∃ n many : Int, vs = [.int n, .int many] ∧ 0 ≤ n ∧ 1 ≤ many ∧ many ≤ 400 ∧ ∀ H' v r, Same H H' → RwAt K H' v r → RwOk r → (∀ z, lds r = some z → z < many) → Q v H'
theorem G_law_wild (T : Tx w K mg) : Kn PP w K mg base 1 (He.ga K "_law_wild") ["_law_n", "_law_many"] (sp_wild K) := by
  refine kn_of T.d_law_wild sc_law_wild (fun _ _ _ _ _ _ us hl => match us, hl with | [_, _], _ => rfl) (fun vs H Q E h => ?_) fun cdv A outer s H vs Q E hr h => ?_
  · obtain ⟨n, many, rfl, _⟩ := h; rfl
  · obtain ⟨n, many, rfl, n0, m1, m4, q⟩ := h
    refine ⟨_, (pss_cons (ps_set (i := 2) sc_law_wild.nd rfl (Or.inl rfl) (pe_lst (pa_cons (pe_op op_mod (pe_op op_fdiv (pv 0) pe_int) pe_int) (pa_cons (pe_op op_mod (pe_op op_fdiv (pv 0) pe_int) pe_int) (pa_cons (pe_op op_mod (pe_op op_fdiv (pv 0) pe_int) pe_int) (pa_cons (pe_op op_mod (pe_op op_fdiv (pv 0) pe_int) pe_int) (pa_cons (pe_op op_mod (pe_op op_fdiv (pv 0) pe_int) pe_int) (pa_cons (pe_op op_mod (pe_op op_fdiv (pv 0) pe_int) pe_int) pa_nil))))))))
      (pss_cons (ps_set (i := 3) sc_law_wild.nd rfl (Or.inl rfl) (pe_lst (pa_cons pe_str (pa_cons pe_str (pa_cons pe_str (pa_cons pe_str (pa_cons pe_str (pa_cons pe_str (pa_cons pe_str (pa_cons pe_str (pa_cons pe_str (pa_cons pe_str pa_nil))))))))))))
      (pss_cons (ps_set (i := 3) sc_law_wild.nd rfl (Or.inl rfl) (pe_op op_cat (pv 3) (pe_lst (pa_cons pe_str (pa_cons pe_str (pa_cons pe_str (pa_cons pe_str (pa_cons pe_str (pa_cons pe_str (pa_cons pe_str (pa_cons pe_str (pa_cons pe_str (pa_cons pe_str pa_nil)))))))))))))
      (pss_cons (ps_set (i := 3) sc_law_wild.nd rfl (Or.inl rfl) (pe_op op_cat (pv 3) (pe_lst (pa_cons pe_str (pa_cons pe_str pa_nil)))))
      (pss_cons (ps_asg (pe_split (pe_ix ix_list (pe_op op_cat (pv 3) (pe_lst (pa_cons pe_str (pa_cons pe_str (pa_cons pe_str pa_nil))))) (pe_op op_mod (pv 0) pe_int) (fun _ _ => rfl)) pe_str) (pg_unl rfl (pgs_cons (pg_name (i := 4) sc_law_wild.nd rfl (Or.inl rfl)) (pgs_cons (pg_name (i := 5) sc_law_wild.nd rfl (Or.inl rfl)) pgs_nil))))
      (pss_cons (ps_set (i := 6) sc_law_wild.nd rfl (Or.inl rfl) (pe_op op_catX (pe_tup (pa_cons (pv 4) pa_nil)) (pe_callTy call_tuple_of (by rfl) T.f_tuple (by decide +kernel) (pa_cons (pe_slice sl_list (pv 2) po_none (po_some (pe_callTy call_int_str (by rfl) T.f_int (by decide +kernel) (pa_cons (pv 5) pa_nil)))) pa_nil))))
      (pss_cons (ps_if (pt_cmpR op_in_seq (pv 4) (pe_tup (pa_cons pe_str (pa_cons pe_str (pa_cons pe_str (pa_cons pe_str pa_nil))))) (by rfl))
        (pss_one (ps_ret (pe_op op_catX (pv 6) (pe_tup (pa_cons (pe_op op_mod (pe_op op_fdiv (pv 0) pe_int) (pv 1)) pa_nil)))))
        pss_nil)
      (pss_one (ps_ret (pe_ifExp (pt_cmpR op_in_seq (pv 4) (pe_tup (pa_cons pe_str (pa_cons pe_str pa_nil))) (by rfl)) (pe_op op_catX (pv 6) (pe_tup (pa_cons (pe_op op_mod (pe_op op_fdiv (pv 0) pe_int) pe_int) pa_nil))) (pv 6))))))))))), ?_⟩
    have c32 : (0 : Int) < 32 := by decide
    have cd : ∀ {x y : Int}, 0 < y → y < 1073741824 → CDiv x y := fun h1 h2 => ⟨h1, h2⟩
    refine ⟨_, rfl, _, _, rfl, rfl, cd (by decide) (by decide), _, _, rfl, rfl, c32, _, rfl, _, _, rfl, rfl, cd (by decide) (by decide), _, _, rfl, rfl, c32, _, rfl, _, _, rfl, rfl, cd (by decide) (by decide), _, _, rfl, rfl, c32, _, rfl, _, _, rfl, rfl, cd (by decide) (by decide), _, _, rfl, rfl, c32, _, rfl, _, _, rfl, rfl, cd (by decide) (by decide), _, _, rfl, rfl, c32, _, rfl, _, _, rfl, rfl, cd (by decide) (by decide), _, _, rfl, rfl, c32, by show 6 ≤ sizeLine; decide, fun l0 hl0 => ?_⟩
    have s0 := same_new (o := .lst ([n / 25 % 32, n / 800 % 32, n / 25600 % 32, n / 819200 % 32, n / 37 % 32, n / 1037 % 32].map V.int)) hl0
    have hrg : ∀ z ∈ [n / 25 % 32, n / 800 % 32, n / 25600 % 32, n / 819200 % 32, n / 37 % 32, n / 1037 % 32], 0 ≤ z ∧ z ≤ 31 := fun z hz => by
      have m := fun z : Int => mod_rg z c32
      simp only [List.mem_cons, List.not_mem_nil, or_false] at hz
      rcases hz with y | y | y | y | y | y <;> (rw [y]; have := m (n / 25); have := m (n / 800); have := m (n / 25600); have := m (n / 819200); have := m (n / 37); have := m (n / 1037); omega)
    obtain ⟨some6, hso⟩ : ∃ l, l = [n / 25 % 32, n / 800 % 32, n / 25600 % 32, n / 819200 % 32, n / 37 % 32, n / 1037 % 32] := ⟨_, rfl⟩
    have len6 : some6.length = 6 := by rw [hso]; rfl
    have hl : (upd H l0 (.lst ([n / 25 % 32, n / 800 % 32, n / 25600 % 32, n / 819200 % 32, n / 37 % 32, n / 1037 % 32].map V.int))) l0 = some (.lst (some6.map V.int)) := by rw [hso]; exact upd_same
    rw [← hso] at hrg
    refine ⟨by show 10 ≤ sizeLine; decide, fun l1 h1 => ?_⟩
    refine ⟨_, rfl, by show 10 ≤ sizeLine; decide, fun l2 h2 => ?_⟩
    have h1' := same_new (o := .lst (wl1.map V.str)) h1
    have h2' := same_new (o := .lst (wl2.map V.str)) h2
    refine ⟨l1, l2, wl1.map V.str, wl2.map V.str, rfl, rfl, h2' _ _ upd_same, upd_same, by show 20 ≤ sizeLine; decide, fun l3 h3 => ?_⟩
    have h3' := same_new (o := .lst (wl1.map V.str ++ wl2.map V.str)) h3
    refine ⟨_, rfl, by show 2 ≤ sizeLine; decide, fun l4 h4 => ?_⟩
    have h4' := same_new (o := .lst (wl3.map V.str)) h4
    refine ⟨l3, l4, wl1.map V.str ++ wl2.map V.str, wl3.map V.str, rfl, rfl, h4' _ _ upd_same, upd_same, by show 22 ≤ sizeLine; decide, fun l5 h5 => ?_⟩
    have h5' := same_new (o := .lst (wl1.map V.str ++ wl2.map V.str ++ wl3.map V.str)) h5
    refine ⟨_, rfl, by show 3 ≤ sizeLine; decide, fun l6 h6 => ?_⟩
    have h6' := same_new (o := .lst (wl4.map V.str)) h6
    refine ⟨l5, l6, wl1.map V.str ++ wl2.map V.str ++ wl3.map V.str, wl4.map V.str, rfl, rfl, h6' _ _ upd_same, upd_same, by show 25 ≤ sizeLine; decide, fun l7 h7 => ?_⟩
    have h7' := same_new (o := .lst (wl1.map V.str ++ wl2.map V.str ++ wl3.map V.str ++ wl4.map V.str)) h7
    have sAll := (((((h1'.trans h2').trans h3').trans h4').trans h5').trans h6').trans h7'
    have hF : wl1.map V.str ++ wl2.map V.str ++ wl3.map V.str ++ wl4.map V.str = wildF.map V.str := by unfold wildF; simp only [List.map_append]
    have m25 := mod_rg n (show (0 : Int) < 25 by decide)
    have flen : wildF.length = 25 := by decide
    obtain ⟨fs, efs⟩ : ∃ fs, wildF[(n % 25).toNat]? = some fs := ⟨_, List.getElem?_eq_getElem (by rw [flen]; omega)⟩
    refine ⟨_, rfl, _, _, rfl, rfl, by show (0 : Int) < 25; decide, _, _, _, _, rfl, rfl, sq_lst upd_same, by rw [hF]; exact atIn m25.1 (by rw [List.getElem?_map, efs]; rfl), ⟨fs, rfl⟩, ?_⟩
    obtain ⟨x, c, m, f, e1, e2, c640, mm0, mm6, ef, hk⟩ := wild_of (List.mem_of_getElem? efs)
    have hlA := sAll _ _ hl
    have s0A := s0.trans sAll
    clear h1 h2 h3 h4 h5 h6 h1' h2' h3' h4' h5' h6' sAll
    generalize upd _ l7 _ = HA at hlA s0A
    have q := fun H' v r (s : Same HA H') => q H' v r (s0A.trans s)
    refine ⟨fs, " ", rfl, rfl, by decide, ?_, fun p hp => ?_⟩
    · have : ∀ s ∈ wildF, s.length + 2 ≤ sizeLine := by decide +kernel
      exact this _ (List.mem_of_getElem? efs)
    rw [e1]
    have sP := same_new (o := .lst ([x, c].map V.str)) hp
    have hlP := sP _ _ hlA
    refine ⟨p, _, rfl, sq_lst upd_same, rfl, _, _, rfl, _, _, rfl, rfl, ?_⟩
    have q := fun H' v r (s : Same _ H') => q H' v r (sP.trans s)
    generalize upd HA p _ = HB at sP hlP q
    refine ⟨_, rfl, by show 1 ≤ sizeLine; decide, fun t1 ht1 => ?_⟩
    have s1 := same_new (o := .tup [V.str x]) ht1
    have ht : (upd HB t1 (.tup [V.str x])) t1 = some (.tup [V.str x]) := upd_same
    have hl1 := s1 _ _ hlP
    have q := fun H' v r (s : Same _ H') => q H' v r (s1.trans s)
    generalize upd HB t1 _ = HC at s1 ht hl1 q
    refine ⟨_, rfl, _, rfl, c, m, rfl, e2, c640, _, rfl, l0, _, rfl, sq_lst hl1, fun p2 hp2 => ?_⟩
    rw [show (m : Int) = ((m.toNat : Nat) : Int) by omega, cutTo, ← List.map_take]
    have s2 := same_new (o := .lst ((some6.take m.toNat).map V.int)) hp2
    refine ⟨p2, _, rfl, .inl ⟨sq_lst upd_same, fun t2 ht2 => ?_⟩⟩
    have s3 := same_new (o := .tup ((some6.take m.toNat).map V.int)) ht2
    have tl : (some6.take m.toNat).length = m.toNat := by rw [List.length_take, len6]; omega
    refine ⟨t1, t2, _, _, rfl, rfl, sq_tup (s3 _ _ (s2 _ _ ht)), sq_new, by rw [List.length_map, tl]; exact Nat.le_trans (show 1 + m.toNat ≤ 7 by omega) (by decide), fun HD p3 s4 hp3 => ?_⟩
    have hp3 : SqT K HD p3 (V.str x :: (some6.take m.toNat).map V.int) := hp3
    have q := fun H' v r (s : Same HD H') => q H' v r (((s2.trans s3).trans s4).trans s)
    have trg : ∀ z ∈ some6.take m.toNat, 0 ≤ z ∧ z ≤ 31 := fun z hz => hrg z (List.mem_of_mem_take hz)
    generalize some6.take m.toNat = ts at hp3 trg tl
    clear s2 s3 s4 hl1 hlP hlA hl
    have sz : 200000 ≤ sizeLine := by decide
    have m1000 := mod_rg (n / 1000) (show 0 < many by omega)
    have m8 := mod_rg (n / 1000) (show (0 : Int) < 8 by decide)
    refine ⟨_, rfl, by show 4 ≤ sizeLine; decide, fun t4 ht4 => ?_⟩
    have s5 := same_new (o := .tup [V.str "if", .str "if2", .str "if3", .str "go"]) ht4
    refine ⟨t4, wayW.map V.str, rfl, .inr sq_new, rfl, flat_str _, _, rfl, ?_⟩
    rw [if_neg (by decide), inV_str]
    have hp5 := tl_same s5 _ _ hp3
    have q := fun H' v r (s : Same _ H') => q H' v r (s5.trans s)
    generalize upd HD t4 _ = HE at s5 hp5 q
    rcases hk with ⟨k1, k2⟩ | ⟨k1, k2, k3, k4⟩ | ⟨k1, k2, k3, k4⟩
    · rw [k1]
      refine iteT ⟨_, rfl, _, rfl, _, _, rfl, rfl, cd (by decide) (by decide), _, rfl, _, _, rfl, rfl, by show 0 < many; omega, by show 1 ≤ sizeLine; decide, fun t6 ht6 => ?_⟩
      have s6 := same_new (o := .tup [V.int (n / 1000 % many)]) ht6
      refine ⟨p3, t6, _, _, rfl, rfl, tl_same s6 _ _ hp5, sq_new, by rw [List.length_cons, List.length_map, tl]; show m.toNat + 1 + 1 ≤ sizeLine; omega, fun HF p7 s7 hp7 => ?_⟩
      have rk : RwOk (x, ts ++ [n / 1000 % many]) := RwOk_of ef (by rw [size_list k2, List.length_append, List.length_append, List.length_replicate, tl]; rfl) fun j c y h1 h2 => by
        have h1 := at_list k2 h1
        rcases Nat.lt_or_ge j m.toNat with hj | hj
        · rw [List.getElem?_append_left (by rw [List.length_replicate]; exact hj), List.getElem?_replicate, if_pos hj] at h1
          rw [List.getElem?_append_left (by omega)] at h2
          cases Option.some.inj h1
          exact trg y (List.mem_of_getElem? h2)
        · rw [List.getElem?_append_right (by rw [List.length_replicate]; exact hj), List.length_replicate] at h1
          rw [List.getElem?_append_right (by omega), tl] at h2
          rcases hj' : j - m.toNat with _ | k
          · rw [hj'] at h1 h2
            cases Option.some.inj h1
            cases Option.some.inj h2
            exact ⟨m1000.1, by show _ ≤ (399 : Int); omega⟩
          · rw [hj'] at h1
            simp at h1
      refine q HF _ (x, ts ++ [n / 1000 % many]) (s6.trans s7) ⟨p7, rfl, by rw [List.map_append, ← List.cons_append]; exact hp7⟩ rk fun z hz => ?_
      have : z ∈ parts (x, ts ++ [n / 1000 % many]) 112 := by
        unfold lds at hz
        cases e : parts (x, ts ++ [n / 1000 % many]) 112 with
        | nil => rw [e] at hz; cases hz
        | cons a b => rw [e] at hz; injection hz with hz; subst hz; exact .head _
      unfold parts at this
      obtain ⟨j, _, h2⟩ := List.mem_filterMap.mp this
      split at h2
      · rename_i h1
        rw [show fmO ((x, ts ++ [n / 1000 % many]) : Rw).1 = f by unfold fmO; rw [show ((x, ts ++ [n / 1000 % many]) : Rw).1 = x from rfl, ef]; rfl] at h1
        have h1 := at_list k2 h1
        rcases Nat.lt_or_ge j m.toNat with hj | hj
        · rw [List.getElem?_append_left (by rw [List.length_replicate]; exact hj), List.getElem?_replicate, if_pos hj] at h1
          cases h1
        · have h2 : (ts ++ [n / 1000 % many])[j]? = some z := h2
          rw [List.getElem?_append_right (by omega), tl] at h2
          rcases hj' : j - m.toNat with _ | k
          · rw [hj'] at h2
            cases Option.some.inj h2
            exact m1000.2
          · rw [hj'] at h2
            simp at h2
      · cases h2
    · rw [k1]
      subst k3
      refine iteF ⟨_, rfl, by show 2 ≤ sizeLine; decide, fun t6 ht6 => ?_⟩
      have s6 := same_new (o := .tup [V.str "set", .str "ask"]) ht6
      refine ⟨t6, saW.map V.str, rfl, .inr sq_new, rfl, flat_str _, _, rfl, ?_⟩
      rw [if_neg (by decide), inV_str, k2]
      refine iteT ⟨_, rfl, _, rfl, _, _, rfl, rfl, cd (by decide) (by decide), _, _, rfl, rfl, by show (0 : Int) < 8; decide, by show 1 ≤ sizeLine; decide, fun t7 ht7 => ?_⟩
      have s7 := same_new (o := .tup [V.int (n / 1000 % 8)]) ht7
      refine ⟨p3, t7, _, _, rfl, rfl, tl_same (s6.trans s7) _ _ hp5, sq_new, by rw [List.length_cons, List.length_map, tl]; show 1 + 1 + 1 ≤ sizeLine; omega, fun HF p7 s8 hp7 => ?_⟩
      obtain ⟨b, rfl⟩ : ∃ b, ts = [b] := by
        match ts, tl with
        | [b], _ => exact ⟨b, rfl⟩
      have hb := trg b (by simp)
      have rk : RwOk (x, [b, n / 1000 % 8]) := RwOk_of ef (by rcases k4 with k | k <;> rw [size_list k] <;> rfl) fun j c y h1 h2 => by
        rcases k4 with k | k
        · have h1 := at_list k h1
          rcases j with _ | _ | j
          · cases Option.some.inj h1; cases Option.some.inj h2; exact hb
          · cases Option.some.inj h1; cases Option.some.inj h2; exact ⟨m8.1, by show _ ≤ (15 : Int); omega⟩
          · simp at h2
        · have h1 := at_list k h1
          rcases j with _ | _ | j
          · cases Option.some.inj h1; cases Option.some.inj h2; exact hb
          · cases Option.some.inj h1; cases Option.some.inj h2; exact ⟨m8.1, by show _ ≤ (7 : Int); omega⟩
          · simp at h2
      refine q HF _ (x, [b, n / 1000 % 8]) ((s6.trans s7).trans s8) ⟨p7, rfl, hp7⟩ rk fun z hz => ?_
      rw [lds_none rk] at hz
      · cases hz
      · rw [show fmO ((x, [b, n / 1000 % 8]) : Rw).1 = f by unfold fmO; rw [show ((x, [b, n / 1000 % 8]) : Rw).1 = x from rfl, ef]; rfl]
        rcases k4 with k | k <;> rw [k] <;> rfl
    · rw [k1]
      refine iteF ⟨_, rfl, by show 2 ≤ sizeLine; decide, fun t6 ht6 => ?_⟩
      have s6 := same_new (o := .tup [V.str "set", .str "ask"]) ht6
      refine ⟨t6, saW.map V.str, rfl, .inr sq_new, rfl, flat_str _, _, rfl, ?_⟩
      rw [if_neg (by decide), inV_str, k2]
      have rk : RwOk (x, ts) := RwOk_boxes ef (by rw [tl, k3]) k4 trg
      refine iteF ⟨_, rfl, q _ _ (x, ts) s6 ⟨p3, rfl, tl_same s6 _ _ hp5⟩ rk fun z hz => ?_⟩
      rw [lds_none rk] at hz
      · cases hz
      · rw [show fmO ((x, ts) : Rw).1 = f by unfold fmO; rw [show ((x, ts) : Rw).1 = x from rfl, ef]; rfl]
        refine List.all_eq_true.mpr fun c hc => ?_
        have := List.all_eq_true.mp k4 c hc
        have : c = 114 ∨ c = 115 := by simpa using this
        rcases this with h | h <;> (subst h; rfl)
end

end Sw
/-! SwL6 -/
namespace Sw
set_option Elab.async false
set_option linter.all false
set_option maxRecDepth 100000
set_option maxHeartbeats 4000000
open PySem PySem.Spec PyProof.Rows L2
def cn (w : Nat) (os : List Rw) : Nat := (os.map fun o => if isDeedOp o.1 = true then w else 1).sum
theorem cn_snoc (w : Nat) (os : List Rw) (o : Rw) : cn w (os ++ [o]) = cn w os + (if isDeedOp o.1 = true then w else 1) := by
  unfold cn
  rw [List.map_append, List.sum_append]
  simp
theorem cn_take {w : Nat} {os : List Rw} {i : Nat} {o : Rw} (h : os[i]? = some o) : cn w (os.take (i + 1)) = cn w (os.take i) + (if isDeedOp o.1 = true then w else 1) := by
  rw [List.take_add_one, h]
  exact cn_snoc _ _ _
theorem cn_mono {w : Nat} (hw : 1 ≤ w) {os : List Rw} {g : Nat} (h : g < os.length) : cn w (os.take g) < cn w os := by
  have e : cn w os = cn w (os.take g) + cn w (os.drop g) := by
    unfold cn
    rw [← List.sum_append, ← List.map_append, List.take_append_drop]
  have : 1 ≤ cn w (os.drop g) := by
    rw [List.drop_eq_getElem_cons h]
    unfold cn
    rw [List.map_cons, List.sum_cons]
    split <;> omega
  omega
theorem cn_le {w : Nat} (hw : 1 ≤ w) (os : List Rw) : cn w os ≤ w * os.length := by
  induction os with
  | nil => simp [cn]
  | cons o os ih =>
    unfold cn at ih ⊢
    rw [List.map_cons, List.sum_cons, List.length_cons, Nat.mul_add, Nat.mul_one]
    split <;> omega
def stF (w : Nat) (os : List Rw) (n : Nat) : List Int := (List.range n).map fun g => ((cn w (os.take g) : Nat) : Int)
theorem stF_succ (w : Nat) (os : List Rw) (n : Nat) : stF w os (n + 1) = stF w os n ++ [((cn w (os.take n) : Nat) : Int)] := by
  unfold stF
  rw [List.range_succ, List.map_append]
  rfl
theorem stF_len (w : Nat) (os : List Rw) (n : Nat) : (stF w os n).length = n := by unfold stF; rw [List.length_map, List.length_range]
theorem stF_at {w : Nat} {os : List Rw} {n g : Nat} (h : g < n) : (stF w os n)[g]? = some ((cn w (os.take g) : Nat) : Int) := by
  unfold stF
  rw [List.getElem?_map, List.getElem?_range h]
  rfl
theorem stF_get {w : Nat} {os : List Rw} {n : Nat} {g : Int} (h0 : 0 ≤ g) (h : g < n) : getI (stF w os n) g = ((cn w (os.take g.toNat) : Nat) : Int) := by
  unfold getI
  rw [List.getD_eq_getElem?_getD, stF_at (by omega)]
  rfl
theorem frm_fresh {fp : List Addr} {H H' : Hp} {l : Addr} {o : HO} (h : H l = none) (f : Frm fp H H') : Frm fp H (upd H' l o) := fun y u e ny => by
  rw [upd_ne (ne_of_none e h)]
  exact f y u e ny
/-- rows that a program is made of -/
structure RsOk (rs : List Rw) (L : Nat) : Prop where
  ok : ∀ r ∈ rs, RwOk r ∧ ∀ z, lds r = some z → z < L
section
variable {w : World} {K : PySem.W.Frag} {mg : Str → Option Value} {base : Heap}
theorem sc_law_program : FnScope ["_law_cells", "_law_spot", "_law_most", "_law_is_on", "_law_n", "_law_more", "_law_many", "_law_width", "_law_boxes_here", "_law_first", "_law_bends", "_law_ops", "_law_k", "_law_deeds", "_law_starts", "_law_op_here", "_law_rows", "_law_turn", "_law_at"] ["_law_cells", "_law_spot", "_law_most", "_law_is_on"] (defScope s_law_program) := ⟨rfl, rfl, rfl, by decide +kernel, rfl, by decide +kernel, by decide +kernel⟩
def sp_program (K : PySem.W.Frag) : Sp := fun vs H Q _ => ∃ a b cs k most on, vs = [V.ref a, .ref b, .int most, .bl on] ∧ Scr K H a b cs k ∧ k + 10 ≤ 1000 ∧ 1 ≤ most ∧ most ≤ 6 ∧
  ∀ H' v p k', Frm [b] H H' → Scr K H' a b cs k' → k' ≤ k + 10 → PgOk p → p.length ≤ 19 → PgAt K H' v p → Q v H'
theorem G_law_program (T : Tx w K mg) : Kn PP w K mg base 2 (He.ga K "_law_program") ["_law_cells", "_law_spot", "_law_most", "_law_is_on"] (sp_program K) := by
  have G_law_cell := G_law_cell (base := base) T
  have G_law_op := G_law_op (base := base) T
  have G_law_hued := G_law_hued (base := base) T
  have G_law_wild := G_law_wild (base := base) T
  refine kn_of T.d_law_program sc_law_program (fun _ _ _ _ _ _ us hl => match us, hl with | [_, _, _, _], _ => rfl) (fun vs H Q E h => ?_) fun cdv A outer s H vs Q E hr h => ?_
  · obtain ⟨a, b, cs, k, most, on, rfl, _⟩ := h; rfl
  · obtain ⟨a, b, cs, k, most, on, rfl, sc, k10, mo1, mo6, q⟩ := h
    have k0 := sc.k0
    have sz : 200000 ≤ sizeLine := by decide
    have cd : ∀ {x y : Int}, 0 < y → y < 1073741824 → CDiv x y := fun h1 h2 => ⟨h1, h2⟩
    refine ⟨_, (pss_cons (ps_par (i := 4) (j := 5) rfl sc_law_program.nd rfl rfl (by decide) rfl rfl (pa_cons (pe_kn G_law_cell (hr.mono (by decide)) (by rfl) T.g_law_cell (pa_cons (pv 0) (pa_cons (pv 1) pa_nil))) (pa_cons (pe_kn G_law_cell (hr.mono (by decide)) (by rfl) T.g_law_cell (pa_cons (pv 0) (pa_cons (pv 1) pa_nil))) pa_nil)) (by rfl))
      (pss_cons (ps_par (i := 6) (j := 7) rfl sc_law_program.nd rfl rfl (by decide) rfl rfl (pa_cons (pe_op op_add pe_int (pe_op op_mod (pv 4) (pv 2))) (pa_cons (pe_op op_add pe_int (pe_op op_mod (pe_op op_fdiv (pv 4) pe_int) pe_int)) pa_nil)) (by rfl))
      (pss_cons (ps_par (i := 8) (j := 9) rfl sc_law_program.nd rfl rfl (by decide) rfl rfl (pa_cons (pe_op op_add pe_int (pe_op op_mod (pe_op op_fdiv (pv 4) pe_int) pe_int)) (pa_cons (pe_op op_mod (pe_op op_fdiv (pv 4) pe_int) pe_int) pa_nil)) (by rfl))
      (pss_cons (ps_set (i := 10) sc_law_program.nd rfl (Or.inl rfl) (pe_ix ix_list (pe_lst (pa_cons pe_int (pa_cons pe_int (pa_cons pe_int (pa_cons pe_int pa_nil))))) (pe_op op_mod (pe_op op_fdiv (pv 4) pe_int) pe_int) (fun _ _ => rfl)))
      (pss_cons (ps_set (i := 11) sc_law_program.nd rfl (Or.inl rfl) (pe_lst pa_nil))
      (pss_cons (ps_for PassesOwn.never rfl (pi_range1 (by rfl) T.f_range (pa_cons (pv 6) pa_nil)) (pg_name (i := 12) sc_law_program.nd rfl (Or.inl rfl))
        (pss_one (ps_expr (pe_bm PySem.F.plainAttrs_list PySem.F.slot_list_append PySem.F.type_list_append mt_append (pv 11) (pa_cons (pe_kn G_law_op (hr.mono (by decide)) (by rfl) T.g_law_op (pa_cons (pe_kn G_law_cell (hr.mono (by decide)) (by rfl) T.g_law_cell (pa_cons (pv 0) (pa_cons (pv 1) pa_nil))) (pa_cons (pv 12) (pa_cons (pv 6) (pa_cons (pv 8) (pa_cons (pv 3) pa_nil)))))) pa_nil)))))
      (pss_cons (ps_expr (pe_bm PySem.F.plainAttrs_list PySem.F.slot_list_append PySem.F.type_list_append mt_append (pv 11) (pa_cons (pe_tup (pa_cons pe_str pa_nil)) pa_nil)))
      (pss_cons (ps_set (i := 13) sc_law_program.nd rfl (Or.inl rfl) (pe_tup (pa_cons pe_str (pa_cons pe_str (pa_cons pe_str (pa_cons pe_str (pa_cons pe_str (pa_cons pe_str (pa_cons pe_str (pa_cons pe_str (pa_cons pe_str pa_nil)))))))))))
      (pss_cons (ps_set (i := 14) sc_law_program.nd rfl (Or.inl rfl) (pe_lst (pa_cons pe_int pa_nil)))
      (pss_cons (ps_for PassesOwn.never rfl (pi_list (pv 11)) (pg_name (i := 15) sc_law_program.nd rfl (Or.inl rfl))
        (pss_one (ps_expr (pe_bm PySem.F.plainAttrs_list PySem.F.slot_list_append PySem.F.type_list_append mt_append (pv 14) (pa_cons (pe_op op_add (pe_ix ix_list (pv 14) (pe_un un_neg pe_int) (fun _ _ => rfl)) (pe_ifExp (pt_cmpR op_in_seq (pe_ix ix_tup (pv 15) pe_int (fun _ _ => rfl)) (pv 13) (by rfl)) (pv 7) pe_int)) pa_nil)))))
      (pss_cons (ps_set (i := 16) sc_law_program.nd rfl (Or.inl rfl) (pe_lst pa_nil))
      (pss_cons (ps_for PassesOwn.never rfl (pi_list (pv 11)) (pg_name (i := 15) sc_law_program.nd rfl (Or.inl rfl))
        (pss_one (ps_set (i := 16) sc_law_program.nd rfl (Or.inl rfl) (pe_op op_cat (pv 16) (pe_kn G_law_hued (hr.mono (by decide)) (by rfl) T.g_law_hued (pa_cons (pv 15) (pa_cons (pv 7) (pa_cons (pv 9) (pa_cons (pv 14) pa_nil)))))))))
      (pss_cons (ps_for PassesOwn.never rfl (pi_range1 (by rfl) T.f_range (pa_cons (pv 10) pa_nil)) (pg_name (i := 17) sc_law_program.nd rfl (Or.inl rfl))
        (pss_cons (ps_set (i := 18) sc_law_program.nd rfl (Or.inl rfl) (pe_op op_mod (pe_op op_fdiv (pv 5) pe_int) (pe_callB call_len_seq (by rfl) T.f_len (by decide +kernel) (pa_cons (pv 16) pa_nil))))
        (pss_cons (ps_if (pt_cmpR op_lt (pv 18) (pe_op op_sub (pe_callB call_len_seq (by rfl) T.f_len (by decide +kernel) (pa_cons (pv 16) pa_nil)) pe_int) (nomark _))
          (pss_one (ps_asg (pe_kn G_law_wild (hr.mono (by decide)) (by rfl) T.g_law_wild (pa_cons (pv 5) (pa_cons (pe_callB call_len_seq (by rfl) T.f_len (by decide +kernel) (pa_cons (pv 16) pa_nil)) pa_nil))) (pg_sub (pv 16) (pv 18) set_list)))
          pss_nil)
        (pss_one (ps_set (i := 5) sc_law_program.nd rfl (Or.inl rfl) (pe_kn G_law_cell (hr.mono (by decide)) (by rfl) T.g_law_cell (pa_cons (pv 0) (pa_cons (pv 1) pa_nil))))))))
      (pss_one (ps_ret (pe_callTy call_tuple_of (by rfl) T.f_tuple (by decide +kernel) (pa_cons (pv 16) pa_nil))))))))))))))))), ?_⟩
    refine ⟨_, rfl, _, rfl, a, b, cs, k, rfl, sc, by omega, fun n n0 n1 => ?_⟩
    have sc1 := sc.next (k' := k + 1) (by omega) (by omega)
    have f1 : Frm [b] H (upd H b (.lst [.int (k + 1)])) := frm_upd (.head _)
    generalize upd H b (.lst [.int (k + 1)]) = H1 at sc1 f1
    refine ⟨_, rfl, _, rfl, a, b, cs, k + 1, rfl, sc1, by omega, fun more m0 m1 => ⟨_, _, rfl, ?_⟩⟩
    have sc2 := sc1.next (k' := k + 1 + 1) (by omega) (by omega)
    have f2 : Frm [b] H (upd H1 b (.lst [.int (k + 1 + 1)])) := f1.tr (frm_upd (.head _))
    generalize upd H1 b (.lst [.int (k + 1 + 1)]) = H2 at sc2 f2
    have hmany := mod_rg n (show 0 < most by omega)
    have hwd := mod_rg (n / 64) (show (0 : Int) < 3 by decide)
    have hbh := mod_rg (n / 192) (show (0 : Int) < 5 by decide)
    have hfi := mod_rg (n / 960) (show (0 : Int) < 9 by decide)
    have hbe := mod_rg (n / 8640) (show (0 : Int) < 4 by decide)
    obtain ⟨wd, hwd2⟩ : ∃ wd : Nat, ((wd : Nat) : Int) = 1 + n / 64 % 3 := ⟨(1 + n / 64 % 3).toNat, by omega⟩
    refine ⟨_, rfl, _, rfl, _, _, rfl, rfl, by show 0 < most; omega, _, _, rfl, rfl, _, rfl, _, _, rfl, rfl, cd (by decide) (by decide), _, _, rfl, rfl, by show (0 : Int) < 3; decide, _, _, rfl, rfl, _, _, rfl, ?_⟩
    refine ⟨_, rfl, _, _, rfl, rfl, cd (by decide) (by decide), _, _, rfl, rfl, by show (0 : Int) < 5; decide, _, _, rfl, rfl, _, rfl, _, _, rfl, rfl, cd (by decide) (by decide), _, _, rfl, rfl, by show (0 : Int) < 9; decide, _, _, rfl, ?_⟩
    refine ⟨by show 4 ≤ sizeLine; decide, fun lb hlb => ?_⟩
    have s3 := same_new (o := .lst ([0, 0, 1, 2].map V.int)) hlb
    have hbn : getI [0, 0, 1, 2] (n / 8640 % 4) = 0 ∨ getI [0, 0, 1, 2] (n / 8640 % 4) = 1 ∨ getI [0, 0, 1, 2] (n / 8640 % 4) = 2 := by
      have : n / 8640 % 4 = 0 ∨ n / 8640 % 4 = 1 ∨ n / 8640 % 4 = 2 ∨ n / 8640 % 4 = 3 := by omega
      rcases this with h | h | h | h <;> (rw [h]; decide)
    refine ⟨_, rfl, _, _, rfl, rfl, cd (by decide) (by decide), _, _, rfl, rfl, by show (0 : Int) < 4; decide, _, _, _, _, rfl, rfl, sq_lst (xs := [0, 0, 1, 2].map V.int) upd_same, atI_get hbe.1 (by show _ < (4 : Int); omega), ?_⟩
    have sc3 := sc2.same s3
    have f3 := f2.tr (frm_same (fp := [b]) s3)
    refine ⟨by decide, fun lo hlo => ?_⟩
    have s4 := same_new (o := .lst []) hlo
    have sc4 := sc3.same s4
    have f4 := f3.tr (frm_same (fp := [b]) s4)
    have lob : lo ≠ b := fun e => by have z := sc3.s; rw [← e] at z; exact absurd (z.symm.trans hlo) (by simp)
    have loH : H lo = none := f3.free (by simpa using lob) hlo
    refine ⟨_, rfl, 1 + n % most, rfl, by omega, by omega, ?_⟩
    refine for_it walk_range (fun i σ H' => ∃ x12 us os, σ = [some (V.ref a), some (.ref b), some (.int most), some (.bl on), some (.int n), some (.int more), some (.int (1 + n % most)), some (.int (1 + n / 64 % 3)), some (.int (2 + n / 192 % 5)), some (.int (n / 960 % 9)), some (.int (getI [0, 0, 1, 2] (n / 8640 % 4))), some (.ref lo), x12, none, none, none, none, none, none] ∧ Frm [b] H H' ∧ Scr K H' a b cs (k + 1 + 1 + ((i : Nat) : Int)) ∧ H' lo = some (.lst us) ∧ Paired (RwAt K H') us os ∧ os.length = i ∧ ∀ o ∈ os, OpOk (1 + n % most) o)
      ⟨none, [], [], rfl, f4, by simpa using sc4, upd_same, .nil, rfl, fun o h => by simp at h⟩ (fun _ _ _ _ _ => trivial) ?_ ?_
    · rintro i x σ Hx HA hi ⟨x12, us, os, rfl, fA, scA, hA, prA, lenA, okA⟩ ⟨rfl, rfl⟩
      refine ⟨_, rfl, .inl ⟨rfl, _, sq_lst hA⟩, ?_⟩
      refine ⟨_, rfl, _, rfl, a, b, cs, _, rfl, scA, by omega, fun c c0 c1 => ?_⟩
      have scB := scA.next (k' := k + 1 + 1 + ((i : Nat) : Int) + 1) (by omega) (by omega)
      have fB : Frm [b] H (upd HA b (.lst [.int (k + 1 + 1 + ((i : Nat) : Int) + 1)])) := fA.tr (frm_upd (.head _))
      have hB : (upd HA b (.lst [.int (k + 1 + 1 + ((i : Nat) : Int) + 1)])) lo = some (.lst us) := by rw [upd_ne lob]; exact hA
      have tB := tl_lst (K := K) (o := .lst [.int (k + 1 + 1 + ((i : Nat) : Int) + 1)]) scA.s
      have prB : Paired (RwAt K (upd HA b (.lst [.int (k + 1 + 1 + ((i : Nat) : Int) + 1)]))) us os := Paired.mapP prA fun _ _ z => z.tl tB
      generalize upd HA b (.lst [.int (k + 1 + 1 + ((i : Nat) : Int) + 1)]) = HB at scB fB hB prB
      refine ⟨_, rfl, _, rfl, _, rfl, _, rfl, c, _, 1 + n % most, 2 + n / 192 % 5, on, rfl, c0, by omega, by omega, by omega, by omega, by omega, fun HC v o sC hv ho => ?_⟩
      have hC := sC _ _ hB
      refine ⟨lo, us, v, rfl, rfl, hC, by rw [Paired.length prB, lenA]; omega, ?_⟩
      have tD := tl_lst (K := K) (o := .lst (us ++ [v])) hC
      have sD : Frm [b] H (upd HC lo (.lst (us ++ [v]))) := frm_fresh loH (fB.tr (frm_same (fp := [b]) sC))
      refine ⟨_, us ++ [v], os ++ [o], rfl, sD, ?_, upd_same, ?_, by rw [List.length_append, lenA]; rfl, ?_⟩
      · refine sc.frm sD ?_ (by omega) (by omega)
        rw [upd_ne (Ne.symm lob), (scB.same sC).s]
        congr 4; omega
      · exact Paired.snoc (F := RwAt K _) (hv.tl tD) (Paired.mapP prB fun _ _ z => (z.same sC).tl tD)
      · intro o2 h2
        rcases List.mem_append.mp h2 with m | m
        · exact okA o2 m
        · rw [List.mem_singleton.mp m]; exact ho
    · rintro σ HA ⟨x12, us0, os0, rfl, fA, scA, hA, prA, lenA, okA⟩
      have nm : ((1 + n % most).toNat : Int) = 1 + n % most := by omega
      have nm6 : (1 + n % most).toNat ≤ 6 := by omega
      generalize hmn : (1 + n % most).toNat = mn at *
      refine ⟨_, rfl, .inl ⟨rfl, _, sq_lst hA⟩, ?_⟩
      refine ⟨by show 1 ≤ sizeLine; decide, fun pe hpe => ?_⟩
      have sE := same_new (o := .tup [V.str "end"]) hpe
      have hE := sE _ _ hA
      have fE := fA.tr (frm_same (fp := [b]) sE)
      have prE : Paired (RwAt K (upd HA pe (.tup [V.str "end"]))) (us0 ++ [.ref pe]) (os0 ++ [(("end" : Str), ([] : List Int))]) := Paired.snoc (F := RwAt K _) (mkT (x := "end") (ns := [])) (Paired.mapP prA fun _ _ z => z.same sE)
      have bE := (scA.same sE).s
      generalize upd HA pe (.tup [V.str "end"]) = HE at sE hE fE prE bE
      refine ⟨lo, us0, _, rfl, rfl, hE, by rw [Paired.length prA, lenA]; omega, ?_⟩
      have tF := tl_lst (K := K) (o := .lst (us0 ++ [.ref pe])) hE
      have fF : Frm [b] H (upd HE lo (.lst (us0 ++ [.ref pe]))) := frm_fresh loH fE
      have hF : (upd HE lo (.lst (us0 ++ [.ref pe]))) lo = some (.lst (us0 ++ [.ref pe])) := upd_same
      have prF : Paired (RwAt K (upd HE lo (.lst (us0 ++ [.ref pe])))) (us0 ++ [.ref pe]) (os0 ++ [(("end" : Str), ([] : List Int))]) := Paired.mapP prE fun _ _ z => z.tl tF
      have bF : (upd HE lo (.lst (us0 ++ [.ref pe]))) b = some (.lst [.int (k + 1 + 1 + ((mn : Nat) : Int))]) := by rw [upd_ne (Ne.symm lob)]; exact bE
      have osl : (os0 ++ [(("end" : Str), ([] : List Int))]).length = mn + 1 := by rw [List.length_append, lenA]; rfl
      have okF : ∀ o ∈ os0 ++ [(("end" : Str), ([] : List Int))], OpOk (1 + n % most) o := fun o h => by
        rcases List.mem_append.mp h with m | m
        · exact okA o m
        · rw [List.mem_singleton.mp m]; exact .fin
      have lastF : (os0 ++ [(("end" : Str), ([] : List Int))])[mn]? = some (("end" : Str), ([] : List Int)) := by rw [List.getElem?_append_right (by omega), lenA]; simp
      generalize upd HE lo (.lst (us0 ++ [.ref pe])) = HF at tF fF hF prF bF
      generalize us0 ++ [V.ref pe] = us at hF prF
      generalize os0 ++ [(("end" : Str), ([] : List Int))] = os at prF osl okF lastF
      clear prA prE hE hA bE scA tF sE
      have ul : us.length = mn + 1 := by rw [Paired.length prF, osl]
      -- the words of deeds
      refine ⟨by show 9 ≤ sizeLine; decide, fun td htd => ?_⟩
      have sG := same_new (o := .tup (deedL.map V.str)) htd
      have hdL : (upd HF td (.tup (deedL.map V.str))) td = some (.tup (deedL.map V.str)) := upd_same
      have tG := tl_same (K := K) sG
      have fG := fF.tr (frm_same (fp := [b]) sG)
      have hG := sG _ _ hF
      have bG := sG _ _ bF
      have prG : Paired (RwAt K (upd HF td (.tup (deedL.map V.str)))) us os := Paired.mapP prF fun _ _ z => z.same sG
      refine ⟨by show 1 ≤ sizeLine; decide, fun ls hls => ?_⟩
      have hls2 : (upd HF td (.tup (deedL.map V.str))) ls = none := hls
      have sH := same_new (o := .lst [V.int 0]) hls2
      have lsb : ls ≠ b := fun e => by rw [e, bG] at hls2; cases hls2
      have lslo : ls ≠ lo := fun e => by rw [e, hG] at hls2; cases hls2
      have lsH : H ls = none := fG.free (by simpa using lsb) hls2
      have hH : (upd (upd HF td (.tup (deedL.map V.str))) ls (.lst [V.int 0])) lo = some (.lst us) := sH _ _ hG
      have bH := sH _ _ bG
      have hdH := sH _ _ hdL
      have fH := fG.tr (frm_same (fp := [b]) sH)
      have prH : Paired (RwAt K (upd (upd HF td (.tup (deedL.map V.str))) ls (.lst [V.int 0]))) us os := Paired.mapP prG fun _ _ z => z.same sH
      have hsH : (upd (upd HF td (.tup (deedL.map V.str))) ls (.lst [V.int 0])) ls = some (.lst ((stF wd os 1).map V.int)) := upd_same
      have hwd1 : 1 ≤ wd := by omega
      have hwd3 : wd ≤ 3 := by omega
      refine ⟨_, rfl, lo, rfl, ⟨_, sq_lst hH⟩, ?_⟩
      generalize hHH : upd (upd HF td (.tup (deedL.map V.str))) ls (.lst [V.int 0]) = HH at hH bH hdH fH prH hsH
      rw [show upd (upd HF td (.tup [V.str "set", .str "copy", .str "add", .str "less", .str "same", .str "mix", .str "pick", .str "ask", .str "take"])) ls (.lst [V.int 0]) = HH from hHH]
      clear hHH sG sH
      refine for_it walk_list (fun i σ H' => ∃ x12 x15, σ = [some (V.ref a), some (.ref b), some (.int most), some (.bl on), some (.int n), some (.int more), some (.int (1 + n % most)), some (.int (1 + n / 64 % 3)), some (.int (2 + n / 192 % 5)), some (.int (n / 960 % 9)), some (.int (getI [0, 0, 1, 2] (n / 8640 % 4))), some (.ref lo), x12, some (.ref td), some (.ref ls), x15, none, none, none] ∧ Frm [b] H H' ∧ H' b = some (.lst [.int (k + 1 + 1 + ((mn : Nat) : Int))]) ∧ H' lo = some (.lst us) ∧ Paired (RwAt K H') us os ∧ H' td = some (.tup (deedL.map V.str)) ∧ H' ls = some (.lst ((stF wd os (i + 1)).map V.int)))
        ⟨x12, none, rfl, fH, bH, hH, prH, hdH, hsH⟩ (fun i σ H' _ h => by obtain ⟨_, _, _, _, _, h, _⟩ := h; exact sq_lst h) ?_ ?_
      · rintro i x σ Hx HI hi ⟨x12, x15, rfl, fI, bI, hI, prI, hdI, hsI⟩ ⟨rfl, e⟩
        obtain ⟨o, eo, ⟨oa, rfl, ho⟩⟩ := Paired.at1 prI e
        have hi : i < us.length := hi
        have e1 := stF_at (w := wd) (os := os) (n := i + 1) (g := i) (by omega)
        refine ⟨_, rfl, .inl ⟨rfl, _, sq_lst hsI⟩, ?_⟩
        refine ⟨_, rfl, _, rfl, _, _, _, _, rfl, rfl, sq_lst hsI, atI_last (x := V.int ((cn wd (os.take i) : Nat) : Int)) (by rw [List.length_map, stF_len]; exact sq_int _ _ _ e1), ?_⟩
        refine ⟨_, rfl, _, _, _, _, rfl, rfl, ho, atI0 _ _, _, rfl, td, deedL.map V.str, rfl, .inr (sq_tup hdI), rfl, flat_str _, _, rfl, ?_⟩
        rw [if_neg (by decide), inV_str]
        have eoi : os[i]? = some o := eo
        have fin : ∀ z : Int, z = (((if isDeedOp o.1 = true then wd else 1) : Nat) : Int) → ∃ x12' x15', [some (V.ref a), some (.ref b), some (.int most), some (.bl on), some (.int n), some (.int more), some (.int (1 + n % most)), some (.int (1 + n / 64 % 3)), some (.int (2 + n / 192 % 5)), some (.int (n / 960 % 9)), some (.int (getI [0, 0, 1, 2] (n / 8640 % 4))), some (.ref lo), x12, some (.ref td), some (.ref ls), some (.ref oa), none, none, none] = [some (V.ref a), some (.ref b), some (.int most), some (.bl on), some (.int n), some (.int more), some (.int (1 + n % most)), some (.int (1 + n / 64 % 3)), some (.int (2 + n / 192 % 5)), some (.int (n / 960 % 9)), some (.int (getI [0, 0, 1, 2] (n / 8640 % 4))), some (.ref lo), x12', some (.ref td), some (.ref ls), x15', none, none, none] ∧ Frm [b] H (upd HI ls (.lst ((stF wd os (i + 1)).map V.int ++ [V.int (((cn wd (os.take i) : Nat) : Int) + z)]))) ∧ (upd HI ls (.lst ((stF wd os (i + 1)).map V.int ++ [V.int (((cn wd (os.take i) : Nat) : Int) + z)]))) b = some (.lst [.int (k + 1 + 1 + ((mn : Nat) : Int))]) ∧ (upd HI ls (.lst ((stF wd os (i + 1)).map V.int ++ [V.int (((cn wd (os.take i) : Nat) : Int) + z)]))) lo = some (.lst us) ∧ Paired (RwAt K (upd HI ls (.lst ((stF wd os (i + 1)).map V.int ++ [V.int (((cn wd (os.take i) : Nat) : Int) + z)])))) us os ∧ (upd HI ls (.lst ((stF wd os (i + 1)).map V.int ++ [V.int (((cn wd (os.take i) : Nat) : Int) + z)]))) td = some (.tup (deedL.map V.str)) ∧ (upd HI ls (.lst ((stF wd os (i + 1)).map V.int ++ [V.int (((cn wd (os.take i) : Nat) : Int) + z)]))) ls = some (.lst ((stF wd os (i + 1 + 1)).map V.int)) := fun z ez => by
          refine ⟨x12, some (.ref oa), rfl, frm_fresh lsH fI, by rw [upd_ne (Ne.symm lsb)]; exact bI, by rw [upd_ne (Ne.symm lslo)]; exact hI, Paired.mapP prI fun _ _ z => z.tl (tl_lst hsI), by rw [upd_ne (ne_of hdI hsI (by intro z; cases z))]; exact hdI, ?_⟩
          rw [upd_same, stF_succ wd os (i + 1), cn_take eoi, List.map_append, ez]
          simp only [Int.natCast_add, List.map_cons, List.map_nil]
        have szs : ((stF wd os (i + 1)).map V.int).length < sizeLine := by rw [List.length_map, stF_len]; omega
        refine ite2 (fun ed => ?_) (fun ed => ?_)
        · have ed : isDeedOp o.1 = true := ed
          exact ⟨_, rfl, _, _, rfl, rfl, ls, _, _, rfl, rfl, hsI, szs, fin (1 + n / 64 % 3) (by rw [if_pos ed, hwd2])⟩
        · have ed : ¬ isDeedOp o.1 = true := ed
          exact ⟨_, _, rfl, rfl, ls, _, _, rfl, rfl, hsI, szs, fin 1 (by rw [if_neg ed]; rfl)⟩
      · rintro σ HJ ⟨x12, x15, rfl, fJ, bJ, hJ, prJ, hdJ, hsJ⟩
        rw [ul] at hsJ
        refine ⟨by decide, fun lr0 hlr0 => ?_⟩
        have sK := same_new (o := .lst []) hlr0
        have fK := fJ.tr (frm_same (fp := [b]) sK)
        have bK := sK _ _ bJ
        have hK := sK _ _ hJ
        have prK : Paired (RwAt K (upd HJ lr0 (.lst []))) us os := Paired.mapP prJ fun _ _ z => z.same sK
        have hsK := sK _ _ hsJ
        have hrK : (upd HJ lr0 (.lst [])) lr0 = some (.lst []) := upd_same
        have lrb : lr0 ≠ b := fun e => by rw [e, bJ] at hlr0; cases hlr0
        have lrH : H lr0 = none := fJ.free (by simpa using lrb) hlr0
        refine ⟨_, rfl, lo, rfl, ⟨_, sq_lst hK⟩, ?_⟩
        generalize upd HJ lr0 (.lst []) = HK at fK bK hK prK hsK hrK
        have tot : cn wd os ≤ 21 := by
          have h1 := cn_le hwd1 os
          rw [osl] at h1
          have : wd * (mn + 1) ≤ 3 * 7 := Nat.mul_le_mul hwd3 (by omega)
          omega
        have gss : ∀ g : Int, 0 ≤ g → g ≤ 1 + n % most → 0 ≤ getI (stF wd os (mn + 1 + 1)) g ∧ getI (stF wd os (mn + 1 + 1)) g < cn wd os := fun g g0 g1 => by
          rw [stF_get g0 (by omega)]
          have := cn_mono hwd1 (os := os) (g := g.toNat) (by rw [osl]; omega)
          omega
        have tot19 : cn wd os ≤ 19 := by
          have e : cn wd os = cn wd (os.take mn) + cn wd (os.drop mn) := by
            unfold cn
            rw [← List.sum_append, ← List.map_append, List.take_append_drop]
          have h1 := cn_le hwd1 (os.take mn)
          have h2 : cn wd (os.drop mn) = 1 := by
            have hh : mn < os.length := by omega
            rw [List.drop_eq_getElem_cons hh, List.drop_of_length_le (by omega)]
            have : os[mn] = (("end" : Str), ([] : List Int)) := by
              rw [List.getElem?_eq_getElem hh] at lastF
              exact Option.some.inj lastF
            rw [this]
            rfl
          rw [List.length_take, osl, show min mn (mn + 1) = mn by omega] at h1
          have : wd * mn ≤ 3 * 6 := Nat.mul_le_mul hwd3 nm6
          omega
        refine for_it walk_list (fun i σ H' => ∃ x12 x15 lr rs vs, σ = [some (V.ref a), some (.ref b), some (.int most), some (.bl on), some (.int n), some (.int more), some (.int (1 + n % most)), some (.int (1 + n / 64 % 3)), some (.int (2 + n / 192 % 5)), some (.int (n / 960 % 9)), some (.int (getI [0, 0, 1, 2] (n / 8640 % 4))), some (.ref lo), x12, some (.ref td), some (.ref ls), x15, some (.ref lr), none, none] ∧ Frm [b] H H' ∧ H' b = some (.lst [.int (k + 1 + 1 + ((mn : Nat) : Int))]) ∧ H' lo = some (.lst us) ∧ Paired (RwAt K H') us os ∧ H' ls = some (.lst ((stF wd os (mn + 1 + 1)).map V.int)) ∧ lr ≠ b ∧ H lr = none ∧ H' lr = some (.lst vs) ∧ Paired (RwAt K H') vs rs ∧ rs.length = cn wd (os.take i) ∧ (∀ r ∈ rs, RwOk r ∧ ∀ z, lds r = some z → z < cn wd os) ∧ (i = mn + 1 → rs[rs.length - 1]? = some (("end" : Str), ([] : List Int))))
          ⟨x12, x15, lr0, [], [], rfl, fK, bK, hK, prK, hsK, lrb, lrH, hrK, .nil, by simp [cn], fun r h => by simp at h, fun h => by omega⟩ (fun i σ H' _ h => by obtain ⟨_, _, _, _, _, _, _, _, h, _⟩ := h; exact sq_lst h) ?_ ?_
        · rintro i x σ Hx HL hi ⟨x12, x15, lr, rs, vs, rfl, fL, bL, hL, prL, hsL, lrb, lrH, hrL, prv, len, rok, fin⟩ ⟨rfl, e⟩
          obtain ⟨o, eo, ho⟩ := Paired.at1 prL e
          have hi : i < us.length := hi
          have vlen : vs.length ≤ 21 := by
            rw [Paired.length prv, len]
            have : cn wd (os.take i) ≤ cn wd os := Nat.le_of_lt (cn_mono hwd1 (by omega))
            omega
          refine ⟨_, rfl, _, rfl, _, rfl, _, rfl, _, rfl, x, o, 1 + n % most, wd, n / 960 % 9, ls, stF wd os (mn + 1 + 1), by rw [hwd2]; rfl, ho, okF o (List.mem_of_getElem? eo), hwd1, hwd3, hfi.1, by omega, hsL, by rw [stF_len]; omega, fun g g0 g1 => ⟨(gss g g0 g1).1, by have := (gss g g0 g1).2; omega⟩, fun HM la ws rs2 sM hla prw hk => ?_⟩
          have rlen : rs2.length ≤ 3 := by rw [hk.len]; split <;> omega
          refine ⟨lr, la, vs, ws, rfl, rfl, sM _ _ hrL, hla, by have := Paired.length prw; omega, fun l3 hl3 => ?_⟩
          have sN := sM.trans (same_new (o := .lst (vs ++ ws)) hl3)
          have l3b : l3 ≠ b := fun e => by rw [e, sM _ _ bL] at hl3; cases hl3
          refine ⟨x12, _, l3, rs ++ rs2, vs ++ ws, rfl, fL.tr (frm_same (fp := [b]) sN), sN _ _ bL, sN _ _ hL, Paired.mapP prL fun _ _ z => z.same sN, sN _ _ hsL, l3b, (fL.tr (frm_same (fp := [b]) sM)).free (by simpa using l3b) hl3, upd_same, rws_append (Paired.mapP prv fun _ _ z => z.same sN) (Paired.mapP prw fun _ _ z => z.same (same_new hl3)), by rw [List.length_append, len, hk.len, cn_take eo], fun r hr => ?_, fun e => ?_⟩
          · rcases List.mem_append.mp hr with m | m
            · exact rok r m
            · obtain ⟨h1, h2⟩ := hk.ok r m
              refine ⟨h1, fun z hz => ?_⟩
              obtain ⟨g, g0, g1, rfl⟩ := h2 z hz
              exact (gss g g0 g1).2
          · have : i = mn := by omega
            subst this
            rw [lastF] at eo
            injection eo with eo
            subst eo
            have := hk.fin rfl
            subst this
            rw [List.length_append, List.getElem?_append_right (by simp)]
            simp
        · rintro σ HL ⟨x12, x15, lr, rs, vs, rfl, fL, bL, hL, prL, hsL, lrb, lrH, hrL, prv, len, rok, fin⟩
          rw [ul, show os.take (mn + 1) = os by rw [← osl]; exact List.take_length] at len
          have fin := fin ul
          have lpos : 1 ≤ rs.length := by
            rcases rs with _ | ⟨r, rs⟩
            · simp at fin
            · simp
          have pOk : ∀ rs' : List Rw, rs'.length = cn wd os → (∀ r ∈ rs', RwOk r ∧ ∀ z, lds r = some z → z < cn wd os) → rs'[rs'.length - 1]? = some (("end" : Str), ([] : List Int)) → PgOk rs' := fun rs' l ok fi => by
            refine ⟨by omega, by omega, fun i r hi => (ok r (List.mem_of_getElem? hi)).1, fun i r z hi hz => ?_, _, fi, .inr rfl⟩
            have := (ok r (List.mem_of_getElem? hi)).2 z hz
            omega
          generalize hbn' : getI [0, 0, 1, 2] (n / 8640 % 4) = bn at hbn
          refine ⟨_, rfl, bn, rfl, by omega, by omega, ?_⟩
          refine for_it walk_range (fun i σ H' => ∃ x12 x15 x17 x18 mo rs vs, σ = [some (V.ref a), some (.ref b), some (.int most), some (.bl on), some (.int n), some (.int mo), some (.int (1 + n % most)), some (.int (1 + n / 64 % 3)), some (.int (2 + n / 192 % 5)), some (.int (n / 960 % 9)), some (.int (bn)), some (.ref lo), x12, some (.ref td), some (.ref ls), x15, some (.ref lr), x17, x18] ∧ 0 ≤ mo ∧ Frm [b] H H' ∧ H' b = some (.lst [.int (k + 1 + 1 + ((mn : Nat) : Int) + ((i : Nat) : Int))]) ∧ H' lr = some (.lst vs) ∧ Paired (RwAt K H') vs rs ∧ rs.length = cn wd os ∧ (∀ r ∈ rs, RwOk r ∧ ∀ z, lds r = some z → z < cn wd os) ∧ rs[rs.length - 1]? = some (("end" : Str), ([] : List Int)))
            ⟨x12, x15, none, none, more, rs, vs, rfl, m0, fL, by simpa using bL, hrL, prv, len, rok, fin⟩ (fun _ _ _ _ _ => trivial) ?_ ?_
          · rintro i x σ Hx HP hi ⟨x12, x15, x17, x18, mo, rs, vs, rfl, mo0, fP, bP, hP, prP, lenP, okP, finP⟩ ⟨rfl, rfl⟩
            have vl : vs.length = cn wd os := by rw [Paired.length prP, lenP]
            have at_ := mod_rg (mo / 100) (show (0 : Int) < vs.length by omega)
            refine ⟨_, rfl, _, _, rfl, rfl, cd (by decide) (by decide), _, rfl, lr, _, rfl, .inl (sq_lst hP), _, _, rfl, rfl, by show (0 : Int) < vs.length; omega, ?_⟩
            -- behind the row that was put
            have rest : ∀ (HQ : Hp) (x18 : Option V) (rs : List Rw) (vs : List V), Frm [b] H HQ → HQ b = some (.lst [.int (k + 1 + 1 + ((mn : Nat) : Int) + ((i : Nat) : Int))]) → HQ lr = some (.lst vs) → Paired (RwAt K HQ) vs rs → rs.length = cn wd os → (∀ r ∈ rs, RwOk r ∧ ∀ z, lds r = some z → z < cn wd os) → rs[rs.length - 1]? = some (("end" : Str), ([] : List Int)) →
                tAsg (tCall (sp_cell K) [] E0 (tCons (tVar 0) (tCons (tVar 1) tNil))) (gName 5) { nx := (fun σ H' => ∃ x12 x15 x17 x18 mo rs vs, σ = [some (V.ref a), some (.ref b), some (.int most), some (.bl on), some (.int n), some (.int mo), some (.int (1 + n % most)), some (.int (1 + n / 64 % 3)), some (.int (2 + n / 192 % 5)), some (.int (n / 960 % 9)), some (.int (bn)), some (.ref lo), x12, some (.ref td), some (.ref ls), x15, some (.ref lr), x17, x18] ∧ 0 ≤ mo ∧ Frm [b] H H' ∧ H' b = some (.lst [.int (k + 1 + 1 + ((mn : Nat) : Int) + ((i + 1 : Nat) : Int))]) ∧ H' lr = some (.lst vs) ∧ Paired (RwAt K H') vs rs ∧ rs.length = cn wd os ∧ (∀ r ∈ rs, RwOk r ∧ ∀ z, lds r = some z → z < cn wd os) ∧ rs[rs.length - 1]? = some (("end" : Str), ([] : List Int))), rt := Q } [some (V.ref a), some (.ref b), some (.int most), some (.bl on), some (.int n), some (.int mo), some (.int (1 + n % most)), some (.int (1 + n / 64 % 3)), some (.int (2 + n / 192 % 5)), some (.int (n / 960 % 9)), some (.int (bn)), some (.ref lo), x12, some (.ref td), some (.ref ls), x15, some (.ref lr), some (.int (0 + ((i : Nat) : Int))), x18] HQ := fun HQ x18 rs vs fQ bQ hQ prQ lenQ okQ finQ => by
              have scQ := sc.frm fQ bQ (by omega) (by omega)
              refine ⟨_, rfl, _, rfl, a, b, cs, _, rfl, scQ, by omega, fun c c0 c1 => ?_⟩
              have tR := tl_lst (K := K) (o := .lst [.int (k + 1 + 1 + ((mn : Nat) : Int) + ((i : Nat) : Int) + 1)]) bQ
              refine ⟨x12, x15, _, x18, c, rs, vs, rfl, c0, fQ.tr (frm_upd (.head _)), by rw [upd_same]; congr 4; omega, by rw [upd_ne lrb]; exact hQ, Paired.mapP prQ fun _ _ z => z.tl tR, lenQ, okQ, finQ⟩
            refine ⟨_, rfl, _, rfl, lr, _, rfl, .inl (sq_lst hP), _, _, rfl, rfl, _, _, rfl, rfl, _, rfl, ?_⟩
            refine ite2 (fun e => ?_) (fun _ => rest HP _ rs vs fP bP hP prP lenP okP finP)
            have e : mo / 100 % (vs.length : Int) < vs.length - 1 := by simpa using e
            refine ⟨_, rfl, _, rfl, lr, _, rfl, .inl (sq_lst hP), mo, _, rfl, mo0, by omega, by omega, fun HQ v r sQ hv rk rz => ?_⟩
            have hQ := sQ _ _ hP
            refine ⟨_, rfl, _, rfl, lr, vs, _, _, rfl, rfl, hQ, ixN_in at_.1 at_.2, ?_⟩
            have tR := tl_lst (K := K) (o := .lst (vs.set (mo / 100 % (vs.length : Int)).toNat v)) hQ
            refine rest _ _ (rs.set (mo / 100 % (vs.length : Int)).toNat r) (vs.set (mo / 100 % (vs.length : Int)).toNat v) (frm_fresh lrH (fP.tr (frm_same (fp := [b]) sQ))) (by rw [upd_ne (Ne.symm lrb)]; exact sQ _ _ bP) upd_same ?_ (by rw [List.length_set]; exact lenP) (fun r2 hr2 => ?_) ?_
            · have hs : ∀ {vs : List V} {rs : List Rw} {H' : Hp} (j : Nat), Paired (RwAt K H') vs rs → RwAt K H' v r → Paired (RwAt K H') (vs.set j v) (rs.set j r) := by
                intro vs rs H' j pr
                induction pr generalizing j with
                | nil => intro _; simp; exact .nil
                | cons h t ih =>
                  intro hv
                  rcases j with _ | j
                  · exact .cons hv t
                  · exact .cons h (ih j hv)
              exact hs _ (Paired.mapP prP fun _ _ z => (z.same sQ).tl tR) (hv.tl tR)
            · rcases List.mem_or_eq_of_mem_set hr2 with m | m
              · exact okP r2 m
              · subst m
                exact ⟨rk, fun z hz => by have := rz z hz; omega⟩
            · rw [List.length_set, List.getElem?_set_ne (by omega)]
              exact finP
          · rintro σ HP ⟨x12, x15, x17, x18, mo, rs, vs, rfl, mo0, fP, bP, hP, prP, lenP, okP, finP⟩
            refine ⟨_, rfl, lr, _, rfl, .inl ⟨sq_lst hP, fun tp htp => ?_⟩⟩
            have sT := same_new (o := .tup vs) htp
            have fT := fP.tr (frm_same (fp := [b]) sT)
            refine q _ _ rs (k + 1 + 1 + ((mn : Nat) : Int) + ((bn.toNat : Nat) : Int)) fT (sc.frm fT (sT _ _ bP) (by omega) (by omega)) (by omega) (pOk rs lenP okP finP) (by omega) ⟨tp, vs, rfl, sq_new, Paired.mapP prP fun _ _ z => z.same sT⟩
end

end Sw
/-! SwR5 -/
namespace Sw
set_option Elab.async false
set_option linter.all false
set_option maxRecDepth 100000
set_option maxHeartbeats 4000000
open PySem PySem.Spec PyProof.Rows L2
theorem nodup_sub : ∀ {l m : List Int}, l.Nodup → (∀ x ∈ l, x ∈ m) → l.length ≤ m.length
  | [], _, _, _ => Nat.zero_le _
  | x :: l, m, hn, h => by
    have n := List.nodup_cons.mp hn
    have hm := h x (.head _)
    have := nodup_sub (m := m.erase x) n.2 fun y hy => by
      have ne : y ≠ x := fun e => n.1 (e ▸ hy)
      exact (List.mem_erase_of_ne ne).mpr (h y (.tail _ hy))
    rw [List.length_erase_of_mem hm] at this
    have : 0 < m.length := List.length_pos_of_mem hm
    rw [List.length_cons]
    omega
/-- set(list of ints) -/
def rSetOfJ (K : PySem.W.Frag) (w : World) : List V → Hp → VK → Prop := fun xs H Q => ∃ (l : Addr) (ns : List Int), xs = [V.ref l] ∧ SqL K H l (ns.map V.int) ∧ ns.length ≤ 1000 ∧ ∀ p n, H p = none → n ≤ ns.length → (∀ D : List Int, (∀ x ∈ ns, x ∈ D) → n ≤ D.length) → Q (.ref p) (upd H p (SetO w p (fun j => decide (j ∈ ns)) n))
theorem cr_setOfJ {X : Cx} (hc : X.calm = true) : CallR X (.type "set") (rSetOfJ X.K X.w) := by
  intro pins s σ H xs us Q I r h
  obtain ⟨l, ns, rfl, hq, hb, q⟩ := h
  obtain ⟨u, rfl, ru⟩ := vals1 r
  obtain rfl : u = Value.ref l := ru
  obtain ⟨its, rv, p, hz⟩ := I.list hq
  have hi : IntsAre its.toArray.toList ns := ints_of_vals (by simpa using rv)
  have hisz : its.toArray.size = ns.length := by
    have q := IntsAre.length hi
    rw [Array.length_toList] at q
    exact q
  have hlt : l < s.heap.objs.size := by obtain ⟨_, q, _⟩ := p.isList; exact Heap.lt_size q
  have hh : X.A.in1.in1.in1.handled = none := by simp [I.ok.hd hc]
  have z1 : (s.heap.push (sObj X.w)).objs.size = s.heap.objs.size + 1 := Heap.size_push ..
  have n1 : l ≠ (s.heap.push (sObj X.w)).objs.size := by rw [z1]; exact Nat.ne_of_lt (Nat.lt_succ_of_lt hlt)
  have n2 : s.heap.objs.size ∉ [(s.heap.push (sObj X.w)).objs.size, l] := by
    rw [z1]; simp only [List.mem_cons, List.not_mem_nil, or_false, not_or]
    exact ⟨Nat.ne_of_lt (Nat.lt_succ_self _), Nat.ne_of_gt hlt⟩
  have hval : ∀ (i : Nat) (v : Value), its.toArray[i]? = some v → ∃ k t, ns[i]? = some k ∧ v = .int k t := fun i v hv => by
    have hi2 : i < ns.length := by rw [← hisz]; exact (Array.getElem?_eq_some_iff.mp hv).1
    obtain ⟨t, e⟩ := PyProof.Rows.IntsAre.int_at hi i v (by rw [Array.getElem?_toList]; exact hv)
    refine ⟨ns[i], t, List.getElem?_eq_getElem hi2, ?_⟩
    rw [e, List.getD_eq_getElem?_getD, List.getElem?_eq_getElem hi2]
    rfl
  refine call_set_by (Post := fun h' _ => ∃ c, c ≤ ns.length ∧ SetR X.w h' s.heap.objs.size (fun j => decide (j ∈ ns)) c) p.isList (fun R hR => ?_) fun h' tk ⟨c, hc1, hS⟩ hk => ?_
  · have hl1 : (s.heap.push (sObj X.w)).IsList l its.toArray := by
      obtain ⟨o, ho, hcls, n, hdt⟩ := p.isList
      exact ⟨o, Heap.get?_push_of_some _ ho, hcls, n, hdt⟩
    refine set_update_ints ((Walks.list hh _ l n1 its.toArray).toS) s.heap.objs.size n2 ns hisz (by unfold scanBound; omega) hval (its.toArray.size - 0) 0 _ (by omega) (Nat.zero_le _)
      ⟨⟨_, Heap.get?_push_size _ rfl, rfl, rfl⟩, hl1.push _⟩ ⟨0, Nat.le_refl 0, setR_new_at (Heap.get?_push_of_some _ (Heap.get?_push_size _ rfl))⟩ fun s' c hm hc1 hS => ?_
    obtain ⟨h', g2, d', tk', os'⟩ := s'
    obtain rfl : g2 = s.gens := hm.gens
    obtain rfl : d' = s.drawn := hm.drawn
    obtain rfl : os' = s.os := hm.os
    refine hR h' tk' ⟨c, by rw [← hisz]; exact hc1, hS⟩ fun b o e => ?_
    have hb0 : b < s.heap.objs.size := Heap.lt_size e
    exact hm.heap b o (by
      simp only [List.mem_cons, List.not_mem_nil, or_false, not_or, z1]
      exact ⟨Nat.ne_of_lt hb0, Nat.ne_of_lt (Nat.lt_succ_of_lt hb0)⟩) (Heap.get?_push_of_some _ (Heap.get?_push_of_some _ e))
  · refine ⟨.ref s.heap.objs.size, upd H s.heap.objs.size (SetO X.w s.heap.objs.size (fun j => decide (j ∈ ns)) c), I.laid (t' := tk) hk (Nat.le_refl _) (setO_new hS), rfl, q _ _ (I.hok.fresh (Nat.le_refl _)) hc1 fun D hD => ?_⟩
    obtain ⟨o, es, ep, t, ho, hex, hd, g, nd, hm, hb, hf, hn, hr, hl⟩ := hS
    rw [← hn]
    have := nodup_sub nd (m := D) fun x hx => hD x (by simpa using (hm x).mpr hx)
    simpa using this

end Sw
/-! SwL7 -/
namespace Sw
set_option Elab.async false
set_option linter.all false
set_option maxRecDepth 100000
set_option maxHeartbeats 4000000
open PySem PySem.Spec PyProof.Rows L2
section
variable {w : World} {K : PySem.W.Frag} {mg : Str → Option Value} {base : Heap}
/-- ways that name a row: its last part -/
theorem noway : ∀ q ∈ formsL, wayW.contains q.1 = false → (fmO q.1).cps.toList.all (fun c => c != 112) = true := by decide +kernel
theorem lds_last {r : Rw} (ok : RwOk r) : if wayW.contains r.1 = true then ∃ z, r.2[r.2.length - 1]? = some z ∧ r.2 ≠ [] ∧ lds r = some z else lds r = none := by
  refine ite2 (fun h => ?_) (fun h => lds_none ok (noway _ (mem_lookup ok.fm) (by simpa using h)))
  have hl := ok.len
  have h : r.1 = "if" ∨ r.1 = "if2" ∨ r.1 = "if3" ∨ r.1 = "go" := by simpa [wayW] using h
  clear ok
  obtain ⟨x, ns⟩ := r
  dsimp only at *
  rcases h with h | h | h | h <;> subst h
  · have hl : ns.length = 2 := hl
    match ns, hl with
    | [a, b], _ => exact ⟨b, rfl, by simp, rfl⟩
  · have hl : ns.length = 3 := hl
    match ns, hl with
    | [a, b, c], _ => exact ⟨c, rfl, by simp, rfl⟩
  · have hl : ns.length = 4 := hl
    match ns, hl with
    | [a, b, c, d], _ => exact ⟨d, rfl, by simp, rfl⟩
  · have hl : ns.length = 1 := hl
    match ns, hl with
    | [a], _ => exact ⟨a, rfl, by simp, rfl⟩
theorem in4 (x a b c d : Str) : inV (.str x) [.str a, .str b, .str c, .str d] = ([a, b, c, d] : List Str).contains x := inV_str x [a, b, c, d]
theorem sc_law_goals : FnScope ["_law_program_here", "_law_row"] ["_law_program_here"] (defScope s_law_goals) := ⟨rfl, rfl, rfl, by decide +kernel, rfl, by decide +kernel, by decide +kernel⟩
theorem G_law_goals (T : Tx w K mg) : Kn PP w K mg base 1 (He.ga K "_law_goals") ["_law_program_here"] (sp_places K) := by
  refine kn_of T.d_law_goals sc_law_goals (fun _ _ _ _ _ _ us hl => match us, hl with | [_], _ => rfl) (fun vs H Q E h => ?_) fun cdv A outer s H vs Q E hr h => ?_
  · obtain ⟨v, p, rfl, _⟩ := h; rfl
  · obtain ⟨_, p, rfl, ⟨a, vs, rfl, ha, pr⟩, ok, few, q⟩ := h
    have hl := Paired.length pr
    refine ⟨_, (pss_one (ps_ret (pe_callB (cr_sortedSet rfl) (by rfl) T.f_sorted (by decide +kernel) (pa_cons (pe_callTy (cr_setOfI rfl) (by rfl) T.f_set (by decide +kernel) (pa_cons (pe_lc (own := [("_law_row", 1)]) (g := gName 1) rfl sc_law_goals.nd (pi_tup (pv 0)) (blkOk_by (own := [("_law_row", 1)]) (N := ["_law_program_here", "_law_row"]) (sc := defScope s_law_goals) (by decide +kernel)) (fun _ _ _ _ _ => (pg_name (i := 1) sc_law_goals.nd rfl (Or.inl rfl))) (fun _ _ _ _ _ => pts_one (pt_cmpR (show OpR _ _ (rIn K false) from op_in_seq) (pe_ix (show IxR _ (rIxT K) from ix_tup) (pv 1) pe_int (fun _ _ => rfl)) (pe_tup (pa_cons pe_str (pa_cons pe_str (pa_cons pe_str (pa_cons pe_str pa_nil))))) (by rfl))) (fun _ _ _ _ _ => (pe_ix (show IxR _ (rIxT K) from ix_tup) (pv 1) (pe_un un_neg pe_int) (fun _ _ => rfl)))) pa_nil)) pa_nil)))), ?_⟩
    refine ⟨_, rfl, a, rfl, ⟨_, ha⟩, fun D hD => ?_⟩
    refine lc_pure (G := fun H' => SqT K H' a vs) walk_tup (fun i => (p[i]?).bind lds) (fun v x _ => v = .int x) (fun _ _ _ _ h _ => h) (fun _ _ _ _ _ _ h _ => h) (by omega) hD (fun H' s => tl_same s _ _ ha) ?_ ?_
    · rintro i x H3 H4 Qe Qn hi s ⟨rfl, e⟩ qe qn
      obtain ⟨r, hr1, hv⟩ := Paired.at1 pr e
      have rk := ok.row i r hr1
      obtain ⟨xa, rfl, hx⟩ := hv.same s
      have ll := lds_last rk
      refine ⟨rfl, _, rfl, _, _, _, _, rfl, rfl, hx, atI0 _ _, by show 4 ≤ sizeLine; decide, fun tp htp => ?_⟩
      have st := same_new (o := .tup [V.str "go", .str "if", .str "if2", .str "if3"]) htp
      refine ⟨tp, _, rfl, .inr sq_new, rfl, rfl, _, rfl, ?_⟩
      rw [if_neg (by decide), in4, show (([("go" : Str), "if", "if2", "if3"] : List Str).contains r.1) = wayW.contains r.1 by
        show _ = ([("if" : Str), "if2", "if3", "go"] : List Str).contains r.1
        by_cases h1 : r.1 = "go" <;> by_cases h2 : r.1 = "if" <;> by_cases h3 : r.1 = "if2" <;> by_cases h4 : r.1 = "if3" <;> simp [h1, h2, h3, h4]]
      refine ite2 (fun ew => ?_) (fun ew => ?_)
      · rw [if_pos ew] at ll
        obtain ⟨z, e1, ne, e2⟩ := ll
        refine ⟨_, rfl, _, rfl, _, _, _, _, rfl, rfl, tl_same st _ _ hx, atI_last (x := V.int z) ?_, ?_⟩
        · rw [List.length_cons, List.length_map, Nat.add_sub_cancel]
          have hrl : r.2.length ≠ 0 := fun z => ne (List.length_eq_zero_iff.mp z)
          obtain ⟨k, hk⟩ : ∃ k, r.2.length = k + 1 := ⟨r.2.length - 1, by omega⟩
          rw [hk, List.getElem?_cons_succ]
          rw [hk, Nat.add_sub_cancel] at e1
          exact sq_int _ _ _ e1
        · exact qe _ _ z st (by rw [hr1]; exact e2) rfl
      · rw [if_neg ew] at ll
        exact qn _ st (by rw [hr1]; exact ll)
    · intro H1 acc s1 hl1 pr1
      rw [paired_map pr1, hl, fm_range] at hl1
      have l2 : (p.filterMap lds).length ≤ p.length := List.length_filterMap_le _ _
      refine ⟨D, p.filterMap lds, rfl, sq_lst hl1, by omega, fun b n hb hn => ⟨b, _, n, rfl, upd_same, by omega, fun ns c h1 h2 h3 h4 => ?_⟩⟩
      rw [pls_unique ok h1 fun k => by rw [h2]; simp]
      refine q _ c ((s1.trans (same_new hb)).trans (same_new h4)) ?_ upd_same
      cases e : H c with
      | none => rfl
      | some o => rw [same_new hb _ _ (s1 c o e)] at h4; cases h4
end

end Sw
/-! SwL8 -/
namespace Sw
set_option Elab.async false
set_option linter.all false
set_option maxRecDepth 100000
set_option maxHeartbeats 4000000
open PySem PySem.Spec PyProof.Rows L2
def iffW : List Str := ["if", "if2", "if3"]
/-- the boxes of a row, as the law has them -/
def blF (r : Rw) : List Int := if iffW.contains r.1 = true then r.2.dropLast else if r.1 = "go" then [] else if saW.contains r.1 = true then r.2.take 1 else r.2
def blN (x : Str) (f : Str) : Nat := if iffW.contains x = true then f.cps.size - 1 else if x = "go" then 0 else if saW.contains x = true then 1 else f.cps.size
theorem bl_chk : ∀ q ∈ formsL, ((q.2.cps.toList.take (blN q.1 q.2)).all (fun c => c == 114 || c == 115) && ((q.2.cps.toList.drop (blN q.1 q.2)).all (fun c => c != 114 && c != 115) && q.2.cps.toList.tail.all (fun c => c != 115))) = true := by decide +kernel
theorem blF_take {r : Rw} (ok : RwOk r) : blF r = r.2.take (blN r.1 (fmO r.1)) := by
  unfold blF blN
  rw [← ok.len]
  split
  · exact List.dropLast_eq_take
  · split
    · simp
    · split
      · rfl
      · rw [List.take_length]
theorem mem_parts {r : Rw} (ok : RwOk r) {c : Nat} {x : Int} : x ∈ parts r c ↔ ∃ i : Nat, (fmO r.1).cps.toList[i]? = some c ∧ r.2[i]? = some x := by
  unfold parts
  rw [List.mem_filterMap]
  constructor
  · rintro ⟨i, _, h⟩
    split at h
    · exact ⟨i, by simpa using ‹_›, h⟩
    · cases h
  · rintro ⟨i, h1, h2⟩
    have hi : i < r.2.length := by
      rcases Nat.lt_or_ge i r.2.length with z | z
      · exact z
      · rw [List.getElem?_eq_none z] at h2; cases h2
    refine ⟨i, List.mem_range.mpr (by rw [ok.len] at *; omega), ?_⟩
    rw [if_pos (by simpa using h1)]
    exact h2
theorem mem_bl {r : Rw} (ok : RwOk r) (x : Int) : x ∈ blF r ↔ nmB r x = true := by
  rw [blF_take ok]
  have chk := bl_chk _ (mem_lookup ok.fm)
  simp only [Bool.and_eq_true] at chk
  obtain ⟨c1, c2, c3⟩ := chk
  generalize blN r.1 (fmO r.1) = m at c1 c2
  have a1 : ∀ (i c : Nat), i < m → (fmO r.1).cps.toList[i]? = some c → c = 114 ∨ c = 115 := fun i c hi h => by
    have := List.all_eq_true.mp c1 c (List.mem_of_getElem? (i := i) (by rw [List.getElem?_take, if_pos hi]; exact h))
    simpa using this
  have a2 : ∀ (i c : Nat), m ≤ i → (fmO r.1).cps.toList[i]? = some c → c ≠ 114 ∧ c ≠ 115 := fun i c hi h => by
    have := List.all_eq_true.mp c2 c (List.mem_of_getElem? (i := i - m) (by rw [List.getElem?_drop, show m + (i - m) = i by omega]; exact h))
    simpa using this
  have a3 : ∀ i : Nat, (fmO r.1).cps.toList[i + 1]? ≠ some 115 := fun i h => by
    have := List.all_eq_true.mp c3 115 (List.mem_of_getElem? (i := i) (by rw [List.getElem?_tail]; exact h))
    exact absurd this (by decide)
  have hs : ∀ y, sts r = some y ↔ (fmO r.1).cps.toList[0]? = some 115 ∧ r.2[0]? = some y := fun y => by
    constructor
    · intro h
      have m : y ∈ parts r 115 := by
        unfold sts at h
        cases l : parts r 115 with
        | nil => rw [l] at h; cases h
        | cons a b => rw [l] at h; injection h with h; subst h; exact .head _
      obtain ⟨i, h1, h2⟩ := (mem_parts ok).mp m
      rcases i with _ | i
      · exact ⟨h1, h2⟩
      · exact absurd h1 (a3 i)
    · rintro ⟨h1, h2⟩
      unfold sts parts
      have hn : 0 < min (fmO r.1).cps.size r.2.length := by
        have hi : 0 < r.2.length := by
          rcases Nat.lt_or_ge 0 r.2.length with z | z
          · exact z
          · rw [List.getElem?_eq_none z] at h2; cases h2
        rw [ok.len] at *; omega
      obtain ⟨n, hn⟩ : ∃ n, min (fmO r.1).cps.size r.2.length = n + 1 := ⟨_, (Nat.succ_pred_eq_of_pos hn).symm⟩
      have h0 : (if (fmO r.1).cps[0]? = some 115 then r.2[0]? else none) = some y := by rw [if_pos (by simpa using h1)]; exact h2
      rw [hn, List.range_succ_eq_map, List.filterMap_cons, h0]
      rfl
  unfold nmB
  rw [Bool.or_eq_true, List.contains_iff_mem, show (sts r == some x) = true ↔ sts r = some x by simp, hs, mem_parts ok]
  constructor
  · intro h
    obtain ⟨i, hi⟩ := List.getElem?_of_mem h
    rw [List.getElem?_take] at hi
    split at hi
    · rename_i him
      have hl : i < (fmO r.1).cps.toList.length := by
        have : i < r.2.length := by
          rcases Nat.lt_or_ge i r.2.length with z | z
          · exact z
          · rw [List.getElem?_eq_none z] at hi; cases hi
        rw [ok.len] at this
        simpa using this
      have hc := List.getElem?_eq_getElem hl
      rcases a1 i _ him hc with e | e
      · rw [e] at hc; exact .inl ⟨i, hc, hi⟩
      · rw [e] at hc
        rcases i with _ | i
        · exact .inr ⟨hc, hi⟩
        · exact absurd hc (a3 i)
    · cases hi
  · intro h
    have : ∃ (i c : Nat), (fmO r.1).cps.toList[i]? = some c ∧ (c = 114 ∨ c = 115) ∧ r.2[i]? = some x := by
      rcases h with ⟨i, h1, h2⟩ | ⟨h1, h2⟩
      · exact ⟨i, 114, h1, .inl rfl, h2⟩
      · exact ⟨0, 115, h1, .inr rfl, h2⟩
    obtain ⟨i, c, h1, h2, h3⟩ := this
    have him : i < m := by
      rcases Nat.lt_or_ge i m with z | z
      · exact z
      · obtain ⟨n1, n2⟩ := a2 i c z h1
        rcases h2 with h2 | h2
        · exact absurd h2 n1
        · exact absurd h2 n2
    exact List.mem_of_getElem? (i := i) (by rw [List.getElem?_take, if_pos him]; exact h3)
theorem bl_len (r : Rw) (ok : RwOk r) : (blF r).length ≤ 6 := by
  have := ok.small
  unfold blF
  split
  · rw [List.length_dropLast]; omega
  · split
    · simp
    · split
      · rw [List.length_take]; omega
      · exact this
theorem bxs_mem {p : List Rw} (x : Int) : x ∈ bxs p ↔ (0 ≤ x ∧ x < 32) ∧ ∃ r ∈ p, nmB r x = true := by
  unfold bxs
  rw [List.mem_filterMap]
  constructor
  · rintro ⟨i, hi, h⟩
    have hi := List.mem_range.mp hi
    by_cases e : (p.any fun r => nmB r (i : Nat)) = true
    · rw [if_pos e] at h
      injection h with h
      subst h
      obtain ⟨r, hr, h2⟩ := List.any_eq_true.mp e
      exact ⟨⟨by omega, by omega⟩, r, hr, h2⟩
    · rw [if_neg e] at h; cases h
  · rintro ⟨⟨h0, h1⟩, r, hr, h⟩
    refine ⟨x.toNat, List.mem_range.mpr (by omega), ?_⟩
    rw [show ((x.toNat : Nat) : Int) = x by omega, if_pos (List.any_eq_true.mpr ⟨r, hr, h⟩)]
theorem nm_rg {r : Rw} (ok : RwOk r) {x : Int} (h : nmB r x = true) : 0 ≤ x ∧ x < 32 := by
  unfold nmB at h
  rcases Bool.or_eq_true _ _ |>.mp h with h | h
  · exact ok.box (by simpa using h)
  · have h : sts r = some x := by simpa using h
    have m : x ∈ parts r 115 := by
      unfold sts at h
      cases l : parts r 115 with
      | nil => rw [l] at h; cases h
      | cons a b => rw [l] at h; injection h with h; subst h; exact .head _
    obtain ⟨a, g, b, c⟩ := ok.pm m
    have : g = 31 := by
      have e : greatL.lookup (⟨#[115]⟩ : Str) = some 31 := by decide
      rw [e] at b; injection b with b; exact b.symm
    omega
theorem cut1m (x : V) (xs : List V) : cutV (x :: xs) (some 1) (some (-1)) = xs.dropLast := by
  unfold cutV
  have e1 : HT.sIx (x :: xs).length 0 (some 1) = 1 := by have := HT.sIx_nat (x :: xs).length 0 1; rw [show ((1 : Nat) : Int) = 1 from rfl] at this; rw [this]; simp
  have e2 : HT.sIx (x :: xs).length (x :: xs).length (some (-1)) = xs.length := by
    show (if (-1 : Int) < 0 then (-1 + ((x :: xs).length : Int)).toNat else min (-1 : Int).toNat (x :: xs).length) = _
    rw [if_pos (by decide), List.length_cons]
    omega
  rw [e1, e2, List.drop_succ_cons, List.drop_zero, List.dropLast_eq_take]
theorem cut12 (x : V) (xs : List V) : cutV (x :: xs) (some 1) (some 2) = xs.take 1 := by
  unfold cutV
  have e1 : HT.sIx (x :: xs).length 0 (some 1) = 1 := by have := HT.sIx_nat (x :: xs).length 0 1; rw [show ((1 : Nat) : Int) = 1 from rfl] at this; rw [this]; simp
  have e2 : HT.sIx (x :: xs).length (x :: xs).length (some 2) = min 2 (xs.length + 1) := by have := HT.sIx_nat (x :: xs).length (x :: xs).length 2; rw [show ((2 : Nat) : Int) = 2 from rfl] at this; rw [this, List.length_cons]
  rw [e1, e2, List.drop_succ_cons, List.drop_zero]
  rcases xs with _ | ⟨y, ys⟩
  · rfl
  · rw [show min 2 ((y :: ys).length + 1) - 1 = 1 by simp]
section
variable {w : World} {K : PySem.W.Frag} {mg : Str → Option Value} {base : Heap}
theorem sc_law_boxes : FnScope ["_law_program_here", "_law_found", "_law_row", "_law_parts"] ["_law_program_here"] (defScope s_law_boxes) := ⟨rfl, rfl, rfl, by decide +kernel, rfl, by decide +kernel, by decide +kernel⟩
def sp_boxes_law (K : PySem.W.Frag) : Sp := fun vs H Q _ => ∃ v p, vs = [v] ∧ PgAt K H v p ∧ PgOk p ∧ p.length < 64 ∧ givesL H Q ((bxs p).map V.int)
theorem G_law_boxes (T : Tx w K mg) : Kn PP w K mg base 1 (He.ga K "_law_boxes") ["_law_program_here"] (sp_boxes_law K) := by
  refine kn_of T.d_law_boxes sc_law_boxes (fun _ _ _ _ _ _ us hl => match us, hl with | [_], _ => rfl) (fun vs H Q E h => ?_) fun cdv A outer s H vs Q E hr h => ?_
  · obtain ⟨v, p, rfl, _⟩ := h; rfl
  · obtain ⟨_, p, rfl, ⟨a, vs, rfl, ha, pr⟩, ok, few, q⟩ := h
    have hl := Paired.length pr
    have sz : 200000 ≤ sizeLine := by decide
    refine ⟨_, (pss_cons (ps_set (i := 1) sc_law_boxes.nd rfl (Or.inl rfl) (pe_lst pa_nil))
      (pss_cons (ps_for PassesOwn.never rfl (pi_tup (pv 0)) (pg_name (i := 2) sc_law_boxes.nd rfl (Or.inl rfl))
        (pss_cons (ps_set (i := 3) sc_law_boxes.nd rfl (Or.inl rfl) (pe_disp (pps_cons pe_str (pe_slice sl_tupX (pv 2) (po_some pe_int) (po_some (pe_un un_neg pe_int))) (pps_cons pe_str (pe_slice sl_tupX (pv 2) (po_some pe_int) (po_some (pe_un un_neg pe_int))) (pps_cons pe_str (pe_slice sl_tupX (pv 2) (po_some pe_int) (po_some (pe_un un_neg pe_int))) (pps_cons pe_str (pe_tup pa_nil) (pps_cons pe_str (pe_slice sl_tupX (pv 2) (po_some pe_int) (po_some pe_int)) (pps_cons pe_str (pe_slice sl_tupX (pv 2) (po_some pe_int) (po_some pe_int)) pps_nil)))))) (by rfl) (by rfl) (fun z => by cases z) (by decide)))
        (pss_one (ps_set (i := 1) sc_law_boxes.nd rfl (Or.inl rfl) (pe_op op_cat (pv 1) (pe_callTy call_list_of (by rfl) T.f_list (by decide +kernel) (pa_cons (pe_dget2 (hu_of hr) (pv 3) (pe_ix ix_tup (pv 2) pe_int (fun _ _ => rfl)) (pe_slice sl_tupX (pv 2) (po_some pe_int) po_none) ⟨by rfl, by rfl, by rfl, by rfl⟩) pa_nil)))))))
      (pss_one (ps_ret (pe_callB (cr_sortedSet rfl) (by rfl) T.f_sorted (by decide +kernel) (pa_cons (pe_callTy (cr_setOfJ rfl) (by rfl) T.f_set (by decide +kernel) (pa_cons (pv 1) pa_nil)) pa_nil)))))), ?_⟩
    refine ⟨by decide, fun l0 hl0 => ?_⟩
    have s0 := same_new (o := .lst []) hl0
    have h00 : (upd H l0 (.lst [])) l0 = some (.lst []) := upd_same
    have l0H := hl0
    generalize upd H l0 (.lst []) = H0 at s0 h00
    refine ⟨_, rfl, a, rfl, ⟨_, tl_same s0 _ _ ha⟩, ?_⟩
    refine for_it walk_tup (fun i σ H' => ∃ l x2 x3, σ = [some (.ref a), some (.ref l), x2, x3] ∧ Same H H' ∧ H' l = some (.lst (((p.take i).flatMap blF).map V.int)) ∧ ((p.take i).flatMap blF).length ≤ 6 * i)
      ⟨l0, none, none, rfl, s0, h00, by simp⟩ (fun i σ H' _ h => by obtain ⟨_, _, _, _, s, _⟩ := h; exact tl_same s _ _ ha) ?_ ?_
    · rintro i x σ Hx H1 hi ⟨l, x2, x3, rfl, s1, h1, len⟩ ⟨rfl, e⟩
      obtain ⟨r, hr1, hv⟩ := Paired.at1 pr e
      have rk := ok.row i r hr1
      obtain ⟨xa, rfl, hx⟩ := hv.same s1
      refine fun pd hpd => ?_
      have sA := same_new (o := .dK []) hpd
      have hdA : (upd H1 pd (.dK [])) pd = some (.dK []) := upd_same
      have hxA := tl_same sA _ _ hx
      generalize upd H1 pd (.dK []) = HA at sA hdA hxA
      refine ⟨_, rfl, _, rfl, _, rfl, _, rfl, xa, _, rfl, hxA, fun HB d1 sB k1 => ?_⟩
      have hxB := tl_same sB _ _ hxA
      refine ⟨_, rfl, _, rfl, _, rfl, _, rfl, xa, _, rfl, hxB, fun HC d2 sC k2 => ?_⟩
      have hxC := tl_same sC _ _ hxB
      refine ⟨_, rfl, _, rfl, _, rfl, _, rfl, xa, _, rfl, hxC, fun HD d3 sD k3 => ?_⟩
      have hxD := tl_same sD _ _ hxC
      refine ⟨by decide, fun d4 hd4 => ?_⟩
      have sE := same_new (o := .tup []) hd4
      have k4 : SqT K (upd HD d4 (.tup [])) d4 [] := sq_new
      have hxE := tl_same sE _ _ hxD
      generalize upd HD d4 (.tup []) = HE at sE k4 hxE
      refine ⟨_, rfl, _, rfl, _, rfl, xa, _, rfl, hxE, fun HF d5 sF k5 => ?_⟩
      have hxF := tl_same sF _ _ hxE
      refine ⟨_, rfl, _, rfl, _, rfl, xa, _, rfl, hxF, fun HG d6 sG k6 => ?_⟩
      rw [cut1m] at k1 k2 k3
      rw [cut12] at k5 k6
      have sBG := ((((sB.trans sC).trans sD).trans sE).trans sF).trans sG
      have g1 := tl_same (((((sC.trans sD).trans sE).trans sF).trans sG)) _ _ k1
      have g2 := tl_same ((((sD.trans sE).trans sF).trans sG)) _ _ k2
      have g3 := tl_same (((sE.trans sF).trans sG)) _ _ k3
      have g4 := tl_same ((sF.trans sG)) _ _ k4
      have g5 := tl_same sG _ _ k5
      refine ⟨sBG _ _ hdA, [(Sum.inr "if", .ref d1), (Sum.inr "if2", .ref d2), (Sum.inr "if3", .ref d3), (Sum.inr "go", .ref d4), (Sum.inr "set", .ref d5), (Sum.inr "ask", .ref d6)], rfl, by show 6 ≤ 15; decide, ?_⟩
      rw [show mergeK [] [((Sum.inr "if" : Key), V.ref d1), (Sum.inr "if2", .ref d2), (Sum.inr "if3", .ref d3), (Sum.inr "go", .ref d4), (Sum.inr "set", .ref d5), (Sum.inr "ask", .ref d6)] = [((Sum.inr "if" : Key), V.ref d1), (Sum.inr "if2", .ref d2), (Sum.inr "if3", .ref d3), (Sum.inr "go", .ref d4), (Sum.inr "set", .ref d5), (Sum.inr "ask", .ref d6)] from rfl]
      have pdH1 : H1 pd = none := hpd
      have sH1 : Same H1 (upd HG pd (.dK [((Sum.inr "if" : Key), V.ref d1), (Sum.inr "if2", .ref d2), (Sum.inr "if3", .ref d3), (Sum.inr "go", .ref d4), (Sum.inr "set", .ref d5), (Sum.inr "ask", .ref d6)])) := fun b o e => by rw [upd_ne (ne_of_none e pdH1)]; exact (sA.trans sBG) b o e
      have tH : Tl K HG (upd HG pd (.dK [((Sum.inr "if" : Key), V.ref d1), (Sum.inr "if2", .ref d2), (Sum.inr "if3", .ref d3), (Sum.inr "go", .ref d4), (Sum.inr "set", .ref d5), (Sum.inr "ask", .ref d6)])) := fun y ys z => by
        have hd := sBG _ _ hdA
        rcases z with (z | ⟨u, z⟩) | z
        · exact .inl (.inl (by rw [upd_ne (ne_of z hd (by intro z; cases z))]; exact z))
        · exact .inl (.inr ⟨u, by rw [upd_ne (ne_of z hd (by intro z; cases z))]; exact z⟩)
        · exact .inr z
      have hdH : (upd HG pd (.dK [((Sum.inr "if" : Key), V.ref d1), (Sum.inr "if2", .ref d2), (Sum.inr "if3", .ref d3), (Sum.inr "go", .ref d4), (Sum.inr "set", .ref d5), (Sum.inr "ask", .ref d6)])) pd = some (.dK [((Sum.inr "if" : Key), V.ref d1), (Sum.inr "if2", .ref d2), (Sum.inr "if3", .ref d3), (Sum.inr "go", .ref d4), (Sum.inr "set", .ref d5), (Sum.inr "ask", .ref d6)]) := upd_same
      replace g1 := tH _ _ g1
      replace g2 := tH _ _ g2
      replace g3 := tH _ _ g3
      replace g4 := tH _ _ g4
      replace g5 := tH _ _ g5
      replace k6 := tH _ _ k6
      generalize upd HG pd (.dK [((Sum.inr "if" : Key), V.ref d1), (Sum.inr "if2", .ref d2), (Sum.inr "if3", .ref d3), (Sum.inr "go", .ref d4), (Sum.inr "set", .ref d5), (Sum.inr "ask", .ref d6)]) = HH at sH1 tH hdH g1 g2 g3 g4 g5 k6
      have hxH := tl_same sH1 _ _ hx
      refine ⟨_, rfl, _, rfl, pd, rfl, .inl ⟨_, .inl hdH⟩, _, rfl, _, _, _, _, rfl, rfl, hxH, atI0 _ _, _, rfl, _, rfl, xa, _, rfl, hxH, fun HI d7 sI k7 => ?_⟩
      rw [cut1] at k7
      have hdI := sI _ _ hdH
      refine ⟨_, DGet.k (k := Sum.inr r.1) hdI, ?_⟩
      have got : ∃ dq, (valV [((Sum.inr "if" : Key), V.ref d1), (Sum.inr "if2", .ref d2), (Sum.inr "if3", .ref d3), (Sum.inr "go", .ref d4), (Sum.inr "set", .ref d5), (Sum.inr "ask", .ref d6)] (Sum.inr r.1)).getD (.ref d7) = .ref dq ∧ SqT K HI dq ((blF r).map V.int) := by
        by_cases e1 : r.1 = "if"
        · exact ⟨d1, by rw [e1]; rfl, by rw [show blF r = r.2.dropLast by unfold blF; rw [e1]; rfl, List.map_dropLast]; exact tl_same sI _ _ g1⟩
        by_cases e2 : r.1 = "if2"
        · exact ⟨d2, by rw [e2]; rfl, by rw [show blF r = r.2.dropLast by unfold blF; rw [e2]; rfl, List.map_dropLast]; exact tl_same sI _ _ g2⟩
        by_cases e3 : r.1 = "if3"
        · exact ⟨d3, by rw [e3]; rfl, by rw [show blF r = r.2.dropLast by unfold blF; rw [e3]; rfl, List.map_dropLast]; exact tl_same sI _ _ g3⟩
        by_cases e4 : r.1 = "go"
        · exact ⟨d4, by rw [e4]; rfl, by rw [show blF r = [] by unfold blF; rw [e4]; rfl]; exact tl_same sI _ _ g4⟩
        by_cases e5 : r.1 = "set"
        · exact ⟨d5, by rw [e5]; rfl, by rw [show blF r = r.2.take 1 by unfold blF; rw [e5]; rfl, List.map_take]; exact tl_same sI _ _ g5⟩
        by_cases e6 : r.1 = "ask"
        · exact ⟨d6, by rw [e6]; rfl, by rw [show blF r = r.2.take 1 by unfold blF; rw [e6]; rfl, List.map_take]; exact tl_same sI _ _ k6⟩
        · have nn : ∀ {y : Str}, r.1 ≠ y → ¬ (Sum.inr y : Key) = Sum.inr r.1 := fun h z => h (by injection z with z; exact z.symm)
          refine ⟨d7, ?_, ?_⟩
          · rw [valV_neg (nn e1), valV_neg (nn e2), valV_neg (nn e3), valV_neg (nn e4), valV_neg (nn e5), valV_neg (nn e6)]
            rfl
          · have i1 : iffW.contains r.1 = false := by simp [iffW, e1, e2, e3]
            have i2 : saW.contains r.1 = false := by simp [saW, e5, e6]
            rw [show blF r = r.2 by unfold blF; rw [if_neg (by rw [i1]; decide), if_neg e4, if_neg (by rw [i2]; decide)]]
            exact k7
      obtain ⟨dq, eq, hq⟩ := got
      rw [eq]
      have h1I := (sH1.trans sI) _ _ h1
      refine ⟨dq, _, rfl, .inr hq, fun l2 hl2 => ?_⟩
      have sJ := same_new (o := .lst ((blF r).map V.int)) hl2
      have b6 := bl_len r rk
      refine ⟨l, l2, _, _, rfl, rfl, sJ _ _ h1I, upd_same, by rw [List.length_map, List.length_map]; have : i < vs.length := hi; omega, fun l3 hl3 => ?_⟩
      refine ⟨l3, _, _, rfl, ((s1.trans (sH1.trans sI)).trans sJ).trans (same_new hl3), ?_, ?_⟩
      · rw [upd_same, flat_take _ _ _ _ hr1, List.map_append]
      · rw [flat_take _ _ _ _ hr1, List.length_append]; omega
    · rintro σ H1 ⟨l, x2, x3, rfl, s1, h1, len⟩
      rw [hl, List.take_length] at h1 len
      have m1 : ∀ x, x ∈ p.flatMap blF ↔ ∃ r ∈ p, nmB r x = true := fun x => by
        rw [List.mem_flatMap]
        constructor
        · rintro ⟨r, hr, h⟩
          obtain ⟨i, hi⟩ := List.getElem?_of_mem hr
          exact ⟨r, hr, (mem_bl (ok.row i r hi) x).mp h⟩
        · rintro ⟨r, hr, h⟩
          obtain ⟨i, hi⟩ := List.getElem?_of_mem hr
          exact ⟨r, hr, (mem_bl (ok.row i r hi) x).mpr h⟩
      refine ⟨_, rfl, l, _, rfl, sq_lst h1, by omega, fun b n hb hn hD => ⟨b, _, n, rfl, upd_same, ?_, fun ns c h2 h3 h4 h5 => ?_⟩⟩
      · have := hD ((List.range 32).map fun i => ((i : Nat) : Int)) fun x hx => by
          obtain ⟨r, hr, h⟩ := (m1 x).mp hx
          obtain ⟨i, hi⟩ := List.getElem?_of_mem hr
          have := nm_rg (ok.row i r hi) h
          exact List.mem_map.mpr ⟨x.toNat, List.mem_range.mpr (by omega), by omega⟩
        rw [List.length_map, List.length_range] at this
        omega
      · have : ns = bxs p := sorted_eq h2 (filt_lt _ 32).1 fun x => by
          rw [h3, decide_eq_true_eq, m1, bxs_mem]
          constructor
          · rintro ⟨r, hr, h⟩
            obtain ⟨i, hi⟩ := List.getElem?_of_mem hr
            exact ⟨nm_rg (ok.row i r hi) h, r, hr, h⟩
          · exact fun h => h.2
        rw [this]
        refine q _ c ((s1.trans (same_new hb)).trans (same_new h5)) ?_ upd_same
        cases e : H c with
        | none => rfl
        | some o => rw [same_new hb _ _ (s1 c o e)] at h5; cases h5
end

end Sw
/-! SwL9 -/
namespace Sw
set_option Elab.async false
set_option linter.all false
set_option maxRecDepth 100000
set_option maxHeartbeats 4000000
open PySem PySem.Spec PyProof.Rows L2
section
variable {w : World} {K : PySem.W.Frag} {mg : Str → Option Value} {base : Heap}
/-- ((told, cells), as data -/
theorem eqv_pair (a b c d : List Int) : PyData.eqv (.tuple [dI a, dI b]) (.tuple [dI c, dI d]) = decide (a = c ∧ b = d) := by
  rw [PyData.eqv, PyData.eqvAll, PyData.eqvAll, PyData.eqvAll, eqv_dI, eqv_dI]
  by_cases h1 : a = c <;> by_cases h2 : b = d <;> simp [h1, h2]
theorem sh_pair (a b : List Int) : SeqAt.shaped (.tuple [dI a, dI b]) = true := by
  simp [SeqAt.shaped, dI, PyData.canLay0, PyData.canLayAll0, PyData.depth, PyData.depthAll, can_ints, dep_ints]
theorem sc_law_judged : FnScope ["_law_right", "_law_found", "_law_told", "_law_cells", "_law_end", "_law_beats"] ["_law_right", "_law_found"] (defScope s_law_judged) := ⟨rfl, rfl, rfl, by decide +kernel, rfl, by decide +kernel, by decide +kernel⟩
def sp_law_judged (K : PySem.W.Frag) : Sp := fun vs H Q _ => ∃ v u r f, vs = [v, u] ∧ OcAt K H v r ∧ OcAt K H u f ∧ (f.end_ = "end" ∨ f.end_ = "slip" ∨ f.end_ = "dry") ∧ ∀ H', Same H H' → Q (.str (wordF r f)) H'
theorem G_law_judged (T : Tx w K mg) : Kn PP w K mg base 1 (He.ga K "_law_judged") ["_law_right", "_law_found"] (sp_law_judged K) := by
  refine kn_of T.d_law_judged sc_law_judged (fun _ _ _ _ _ _ us hl => match us, hl with | [_, _], _ => rfl) (fun vs H Q E h => ?_) fun cdv A outer s H vs Q E hr h => ?_
  · obtain ⟨v, u, r, f, rfl, _⟩ := h; rfl
  · obtain ⟨_, _, r, f, rfl, ⟨a, t, c, rfl, h1, h2, h3⟩, ⟨b, t2, c2, rfl, k1, k2, k3⟩, hend, q⟩ := h
    refine ⟨_, (pss_cons (ps_asg (pv 1) (pg_tup rfl (pgs_cons (pg_name (i := 2) sc_law_judged.nd rfl (Or.inl rfl)) (pgs_cons (pg_name (i := 3) sc_law_judged.nd rfl (Or.inl rfl)) (pgs_cons (pg_name (i := 4) sc_law_judged.nd rfl (Or.inl rfl)) (pgs_cons (pg_name (i := 5) sc_law_judged.nd rfl (Or.inl rfl)) pgs_nil))))))
      (pss_cons (ps_if (pt_cmpR op_eq (pv 4) pe_str (nomark _))
        (pss_one (ps_ret (pe_ifExp (pt_cmpR (op_eqD hr.units) (pe_tup (pa_cons (pv 2) (pa_cons (pv 3) pa_nil))) (pe_slice sl_tupX (pv 0) po_none (po_some pe_int)) (nomark _)) pe_str pe_str)))
        pss_nil)
      (pss_cons (ps_if (pt_cmpR (op_neD hr.units) (pv 2) (pe_slice sl_tupX (pe_ix ix_tup (pv 0) pe_int (fun _ _ => rfl)) po_none (po_some (pe_callB call_len_seq (by rfl) T.f_len (by decide +kernel) (pa_cons (pv 2) pa_nil)))) (nomark _))
        (pss_one (ps_ret pe_str))
        pss_nil)
      (pss_one (ps_ret (pe_dget (hu_of hr) (pe_disp (pps_cons pe_str pe_str (pps_cons pe_str pe_str pps_nil)) (by rfl) (by rfl) (fun z => by cases z) (by decide)) (pv 4) (fun _ _ => rfl))))))), ?_⟩
    unfold wordF at q
    refine ⟨_, rfl, b, _, rfl, k1, rfl, _, _, rfl, _, _, rfl, _, _, rfl, _, _, rfl, rfl, ?_⟩
    refine ⟨_, rfl, rfl, _, rfl, ?_⟩
    refine ite2 (fun e => ?_) (fun e => ?_)
    · have e := str_eq e
      rw [if_pos e] at q
      refine ⟨_, rfl, _, rfl, by show 2 ≤ sizeLine; decide, fun p hp => ?_⟩
      have s1 := same_new (o := .tup [V.ref t2, .ref c2]) hp
      refine ⟨_, rfl, _, rfl, a, _, rfl, tl_same s1 _ _ h1, fun H2 d s2 hd => ?_⟩
      rw [show ((2 : Int)) = ((2 : Nat) : Int) from rfl, cutTo] at hd
      have s12 := s1.trans s2
      have hd : SqT K H2 d [V.ref t, .ref c] := hd
      refine ⟨.tuple [dI f.told, dI f.cells], .tuple [dI r.told, dI r.cells], .tup (tl_same s2 _ _ sq_new) (.cons (dp_dI (tl_same s12 _ _ k2)) (.cons (dp_dI (tl_same s12 _ _ k3)) .nil)), .tup hd (.cons (dp_dI (tl_same s12 _ _ h2)) (.cons (dp_dI (tl_same s12 _ _ h3)) .nil)), sh_pair _ _, sh_pair _ _, _, rfl, ?_⟩
      rw [eqv_pair]
      have q := q _ s12
      refine ite2 (fun e1 => ?_) (fun e1 => ?_)
      · rw [if_pos (by simpa using e1)] at q
        exact q
      · rw [if_neg (by simpa using e1)] at q
        exact q
    · have e := str_ne e
      rw [if_neg e] at q
      refine ⟨_, rfl, _, rfl, _, _, _, _, rfl, rfl, h1, atI0 _ _, _, rfl, t2, _, rfl, .inr k2, _, rfl, t, _, rfl, h2, fun H1 d s1 hd => ?_⟩
      rw [List.length_map, cutTo, ← List.map_take] at hd
      refine ⟨dI f.told, dI (r.told.take f.told.length), dp_dI (tl_same s1 _ _ k2), dp_dI hd, sh_dI _, sh_dI _, _, rfl, ?_⟩
      rw [eqv_dI]
      refine ite2 (fun e1 => ?_) (fun e1 => ?_)
      · have e1 : f.told ≠ r.told.take f.told.length := by simpa using e1
        rw [if_pos e1] at q
        exact q _ s1
      · have e1 : f.told = r.told.take f.told.length := by simpa using e1
        rw [if_neg (by simpa using e1)] at q
        intro p hp
        refine ⟨upd_same, [((Sum.inr "slip" : Key), V.str "told"), (Sum.inr "dry", .str "still")], rfl, by show 2 ≤ 15; decide, ?_⟩
        rw [show mergeK [] [((Sum.inr "slip" : Key), V.str "told"), (Sum.inr "dry", .str "still")] = [((Sum.inr "slip" : Key), V.str "told"), (Sum.inr "dry", .str "still")] from rfl]
        have s2 : Same H (upd (upd H1 p (.dK [])) p (.dK [((Sum.inr "slip" : Key), V.str "told"), (Sum.inr "dry", .str "still")])) := fun y o z => by
          have z1 := s1 y o z
          rw [upd_ne (ne_of_none z1 hp), upd_ne (ne_of_none z1 hp)]
          exact z1
        have q := q _ s2
        have hd2 : (upd (upd H1 p (.dK [])) p (.dK [((Sum.inr "slip" : Key), V.str "told"), (Sum.inr "dry", .str "still")])) p = some (.dK [((Sum.inr "slip" : Key), V.str "told"), (Sum.inr "dry", .str "still")]) := upd_same
        rcases hend with h | h | h
        · exact absurd h e
        · rw [if_pos h] at q
          refine ⟨_, rfl, p, .str "told", rfl, ?_, q⟩
          rw [h]
          exact DGet.k (k := Sum.inr "slip") hd2
        · rw [if_neg (by rw [h]; decide)] at q
          refine ⟨_, rfl, p, .str "still", rfl, ?_, q⟩
          rw [h]
          exact DGet.k (k := Sum.inr "dry") hd2
end

end Sw
/-! SwL10 -/
namespace Sw
set_option Elab.async false
set_option linter.all false
set_option maxRecDepth 100000
set_option maxHeartbeats 4000000
open PySem PySem.Spec PyProof.Rows L2
/-- the beat of a slip -/
def bOf (s : Rw) : Int := s.2.getD 0 0
section
variable {p : List Rw} {inp : List Int} {s : Rw}
theorem beatW_not {st : MS} (h : st.done ≠ bOf s) : beatW p inp s st = bt p inp st := by
  unfold beatW
  split
  · rw [if_neg (show ¬ st.done = s.2.getD 0 0 from h)]
  · rw [if_neg (fun z => h z.1)]
end
section
variable {w : World} {K : PySem.W.Frag} {mg : Str → Option Value} {base : Heap}
/-- what a machine shows -/
def ShAt (K : PySem.W.Frag) (H : Hp) (v : V) (st : MS) : Prop := ∃ a t1 t2 t3, v = .ref a ∧ SqT K H a [.int st.at_, .ref t1, .ref t2, .ref t3, .int (st.stands.length : Nat)] ∧ SqT K H t1 (st.words.map V.int) ∧ SqT K H t2 (st.store.map V.int) ∧ SqT K H t3 (st.said.map V.int)
theorem ShAt.tl {H H' : Hp} {v : V} {st : MS} (h : ShAt K H v st) (t : Tl K H H') : ShAt K H' v st := by
  obtain ⟨a, t1, t2, t3, e, h0, h1, h2, h3⟩ := h
  exact ⟨a, t1, t2, t3, e, t _ _ h0, t _ _ h1, t _ _ h2, t _ _ h3⟩
def dSh (st : MS) : PyData := .tuple [.int st.at_, dI st.words, dI st.store, dI st.said, .int (st.stands.length : Nat)]
theorem ShAt.dp {H : Hp} {v : V} {st : MS} (h : ShAt K H v st) : Dp K H v (dSh st) := by
  obtain ⟨a, t1, t2, t3, rfl, h0, h1, h2, h3⟩ := h
  exact .tup h0 (.cons (.int _) (.cons (dp_dI h1) (.cons (dp_dI h2) (.cons (dp_dI h3) (.cons (.int _) .nil)))))
theorem sh_dSh (st : MS) : SeqAt.shaped (dSh st) = true := by
  simp [SeqAt.shaped, dSh, dI, PyData.canLay0, PyData.canLayAll0, PyData.depth, PyData.depthAll, can_ints, dep_ints]
theorem eq_dSh (st : MS) : PyData.eqv (dSh st) (dSh st) = true := by
  unfold dSh
  simp only [PyData.eqv, PyData.eqvAll, eqv_ints, beq_self_eq_true, decide_true, Bool.and_self]
abbrev rIsNN : R2 := fun x y H Q => y = .non ∧ Q (.bl (decide (x = .non))) H
def PvS (K : PySem.W.Frag) (H H' : Hp) (p : List Rw) (inp : List Int) (m o : Addr) (st so : MS) (fm fo : List Addr) : Prop :=
  Mch K H' m p inp st fm ∧ Mch K H' o p inp so fo ∧ (∀ b ∈ fm, b ∉ fo) ∧ Same H H' ∧ New fm H ∧ New fo H ∧ Good p st ∧ Good p so
theorem mch_m {H : Hp} {m : Addr} {p : List Rw} {inp : List Int} {st : MS} {fp : List Addr} (h : Mch K H m p inp st fp) : ∃ dm fs, H m = some (.ins (cM K) dm fs) ∧ fs.lookup ("end" : Str) = none ∧ fs.lookup ("told" : Str) = none ∧ fs.lookup ("cells" : Str) = none ∧ fs.lookup ("beats" : Str) = none ∧
    fs.lookup ("place" : Str) = none ∧ fs.lookup ("boxes" : Str) = none ∧ fs.lookup ("kept" : Str) = none ∧ fs.lookup ("beat" : Str) = none ∧ fs.lookup ("slip" : Str) = none ∧ fs.lookup ("lead" : Str) = none := by
  obtain ⟨va, vi, dm, lw, ls, ld, lt, xs, e, h⟩ := h
  exact ⟨_, _, h.o, rfl, rfl, rfl, rfl, rfl, rfl, rfl, rfl, rfl, rfl⟩
/-- the one goes on, the other stands -/
theorem pv_left {H H1 H2 : Hp} {p : List Rw} {inp : List Int} {m o : Addr} {st so st' : MS} {fm fo fm' : List Addr} (h : PvS K H H1 p inp m o st so fm fo) (hm : Mch K H2 m p inp st' fm') (f : Frm fm H1 H2) (n : Nw fm fm' H1) (g : Good p st') : PvS K H H2 p inp m o st' so fm' fo := by
  obtain ⟨h1, h2, h3, h4, h5, h6, h7, h8⟩ := h
  obtain ⟨s, nw⟩ := h5.step h4 f n
  refine ⟨hm, h2.frm (fun b hb hb2 => h3 b hb2 hb) f (tl_frm h1 f), fun b hb hb2 => ?_, s, nw, h6, g, h8⟩
  rcases n b hb with z | z
  · exact h3 b z hb2
  · obtain ⟨o, y, _⟩ := h2.there b hb2
    rw [z] at y; cases y
theorem pv_right {H H1 H2 : Hp} {p : List Rw} {inp : List Int} {m o : Addr} {st so so' : MS} {fm fo fo' : List Addr} (h : PvS K H H1 p inp m o st so fm fo) (hm : Mch K H2 o p inp so' fo') (f : Frm fo H1 H2) (n : Nw fo fo' H1) (g : Good p so') : PvS K H H2 p inp m o st so' fm fo' := by
  obtain ⟨h1, h2, h3, h4, h5, h6, h7, h8⟩ := h
  obtain ⟨s, nw⟩ := h6.step h4 f n
  refine ⟨h1.frm h3 f (tl_frm h2 f), hm, fun b hb hb2 => ?_, s, h5, nw, h7, g⟩
  rcases n b hb2 with z | z
  · exact h3 b hb z
  · obtain ⟨o, y, _⟩ := h1.there b hb
    rw [z] at y; cases y
theorem pv_same {H H1 H2 : Hp} {p : List Rw} {inp : List Int} {m o : Addr} {st so : MS} {fm fo : List Addr} (h : PvS K H H1 p inp m o st so fm fo) (s : Same H1 H2) : PvS K H H2 p inp m o st so fm fo := by
  obtain ⟨h1, h2, h3, h4, h5, h6, h7, h8⟩ := h
  exact ⟨h1.same s, h2.same s, h3, h4.trans s, h5, h6, h7, h8⟩
theorem sc_law_stepped : FnScope ["_law_program_here", "_law_inputs_here", "_law_slip", "_law_most", "_law_machine", "_law_other", "_law_is_same", "_law_now", "_law_some", "_law_one", "_law_goes_on", "_law_end"] ["_law_program_here", "_law_inputs_here", "_law_slip", "_law_most"] (defScope s_law_stepped) := ⟨rfl, rfl, rfl, by decide +kernel, rfl, by decide +kernel, by decide +kernel⟩
def sp_stepped (K : PySem.W.Frag) : Sp := fun vs H Q _ => ∃ vp vi u p inp s most, vs = [vp, vi, u, V.int most] ∧ PgAt K H vp p ∧ PgOk p ∧ IsAt K H vi inp ∧ InOk inp ∧ RwAt K H u s ∧ SlOk p s ∧ 0 ≤ most ∧ most ≤ 100000 ∧
  ∀ H' a oc, Same H H' → SqT K H' a [oc, .bl true] → OcAt K H' oc (outc (goW p inp s most ms0)) → Q (.ref a) H'
theorem G_law_stepped (T : Tx w K mg) : Kn PP w K mg base 6 (He.ga K "_law_stepped") ["_law_program_here", "_law_inputs_here", "_law_slip", "_law_most"] (sp_stepped K) := by
  have G_Machine := G_Machine (base := base) T
  have G_Machine_beats := G_Machine_beats (base := base) T
  have G_Machine_end := G_Machine_end (base := base) T
  have G_Machine_place := G_Machine_place (base := base) T
  have G_Machine_boxes := G_Machine_boxes (base := base) T
  have G_Machine_cells := G_Machine_cells (base := base) T
  have G_Machine_told := G_Machine_told (base := base) T
  have G_Machine_kept := G_Machine_kept (base := base) T
  have G_Machine_beat := G_Machine_beat (base := base) T
  have G_Machine_slip := G_Machine_slip (base := base) T
  have G_Machine_lead := G_Machine_lead (base := base) T
  refine kn_of T.d_law_stepped sc_law_stepped (fun _ _ _ _ _ _ us hl => match us, hl with | [_, _, _, _], _ => rfl) (fun vs H Q E h => ?_) fun cdv A outer s H vs Q E hr h => ?_
  · obtain ⟨vp, vi, u, p, inp, s, most, rfl, _⟩ := h; rfl
  · obtain ⟨vp, vi, u, p, inp, sl, most, rfl, hp, pok, hi, iok, hu, sok, m0, m1, q⟩ := h
    refine ⟨_, (pss_cons (ps_par (i := 4) (j := 5) rfl sc_law_stepped.nd rfl rfl (by decide) rfl rfl (pa_cons (pe_kc G_Machine (hr.mono (by decide)) (by rfl) T.g_Machine (pa_cons (pv 0) (pa_cons (pv 1) pa_nil))) (pa_cons (pe_kc G_Machine (hr.mono (by decide)) (by rfl) T.g_Machine (pa_cons (pv 0) (pa_cons (pv 1) pa_nil))) pa_nil)) (by rfl))
      (pss_cons (ps_set (i := 6) sc_law_stepped.nd rfl (Or.inl rfl) pe_bl)
      (pss_cons (ps_while PassesOwn.never (PW.pt (pw_and (pt_cmpR op_lt (pe_km0 (pv 4) T.c_Machine T.m_Machine_beats G_Machine_beats (hr.mono (by decide))) (pv 3) (nomark _)) (pw_and1 (pt_cmpR op_isN (pe_km0 (pv 4) T.c_Machine T.m_Machine_end G_Machine_end (hr.mono (by decide))) pe_non (nomark _)))))
        (pss_cons (ps_set (i := 7) sc_law_stepped.nd rfl (Or.inl rfl) (pe_km0 (pv 4) T.c_Machine T.m_Machine_beats G_Machine_beats (hr.mono (by decide))))
        (Evl.pss_cut (ps_if (pt_cmpR op_le (pv 7) (pe_ix ix_tup (pv 2) pe_int (fun _ _ => rfl)) (nomark _))
          (pss_cons (ps_setLc (i := 8) (own := [("_law_one", 9)]) (g := gName 9) rfl sc_law_stepped.nd rfl rfl (sw_true rfl rfl rfl (by decide +kernel)) (pi_tup (pe_tup (pa_cons (pv 4) (pa_cons (pv 5) pa_nil)))) (blkOk_by (own := [("_law_one", 9)]) (N := ["_law_program_here", "_law_inputs_here", "_law_slip", "_law_most", "_law_machine", "_law_other", "_law_is_same", "_law_now", "_law_some", "_law_one", "_law_goes_on", "_law_end"]) (sc := defScope s_law_stepped) (by decide +kernel)) (fun _ _ _ _ _ => (pg_name (i := 9) sc_law_stepped.nd rfl (Or.inl rfl))) (fun _ _ _ _ _ => pts_nil) (fun _ _ _ _ _ => (pe_tup (pa_cons (pe_km0 (pv 9) T.c_Machine T.m_Machine_place G_Machine_place (hr.mono (by decide))) (pa_cons (pe_km0 (pv 9) T.c_Machine T.m_Machine_boxes G_Machine_boxes (hr.mono (by decide))) (pa_cons (pe_km0 (pv 9) T.c_Machine T.m_Machine_cells G_Machine_cells (hr.mono (by decide))) (pa_cons (pe_km0 (pv 9) T.c_Machine T.m_Machine_told G_Machine_told (hr.mono (by decide))) (pa_cons (pe_km0 (pv 9) T.c_Machine T.m_Machine_kept G_Machine_kept (hr.mono (by decide))) pa_nil))))))))
          (pss_cons (ps_set (i := 6) sc_law_stepped.nd rfl (Or.inl rfl) (pe_and (pv 6) (pe_one (pe_cmpR (op_eqD hr.units) (pe_ix ix_list (pv 8) pe_int (fun _ _ => rfl)) (pe_ix ix_list (pv 8) pe_int (fun _ _ => rfl)) (nomark _)))))
          (pss_one (ps_expr (pe_km0 (pv 5) T.c_Machine T.m_Machine_beat G_Machine_beat (hr.mono (by decide)))))))
          pss_nil)
        (Evl.pss_cut (ps_if (PW.pt (pw_and (pt_cmpR op_eq (pe_ix ix_tup (pv 2) pe_int (fun _ _ => rfl)) pe_str (nomark _)) (pw_and1 (pt_cmpR op_eq (pe_ix ix_tup (pv 2) pe_int (fun _ _ => rfl)) (pv 7) (nomark _)))))
          (pss_one (ps_expr (pe_km (pv 4) T.c_Machine T.m_Machine_slip G_Machine_slip (hr.mono (by decide)) (pa_cons (pe_ix ix_tup (pv 2) pe_int (fun _ _ => rfl)) (pa_cons (pe_ix ix_tup (pv 2) pe_int (fun _ _ => rfl)) pa_nil)))))
          pss_nil)
        (pss_cons (ps_set (i := 10) sc_law_stepped.nd rfl (Or.inl rfl) (pe_cmpR op_in_seq (pe_ix ix_tup (pe_ix ix_tup (pv 0) (pe_km0 (pv 4) T.c_Machine T.m_Machine_place G_Machine_place (hr.mono (by decide))) (fun _ _ => rfl)) pe_int (fun _ _ => rfl)) (pe_tup (pa_cons pe_str (pa_cons pe_str (pa_cons pe_str (pa_cons pe_str (pa_cons pe_str pa_nil)))))) (by rfl)))
        (pss_cons (ps_expr (pe_km0 (pv 4) T.c_Machine T.m_Machine_beat G_Machine_beat (hr.mono (by decide))))
        (pss_one (ps_if (PW.pt (pw_and (pt_cmpR op_eq (pe_ix ix_tup (pv 2) pe_int (fun _ _ => rfl)) pe_str (nomark _)) (pw_and (pt_cmpR op_eq (pe_ix ix_tup (pv 2) pe_int (fun _ _ => rfl)) (pv 7) (nomark _)) (pw_and (pt_val (pv 10)) (pw_and1 (pt_cmpR op_isN (pe_km0 (pv 4) T.c_Machine T.m_Machine_end G_Machine_end (hr.mono (by decide))) pe_non (nomark _)))))))
          (pss_one (ps_expr (pe_km (pv 4) T.c_Machine T.m_Machine_lead G_Machine_lead (hr.mono (by decide)) (pa_cons (pe_ix ix_tup (pv 2) pe_int (fun _ _ => rfl)) pa_nil))))
          pss_nil))))))))
      (pss_cons (ps_set (i := 11) sc_law_stepped.nd rfl (Or.inl rfl) (pe_ifExp (pt_cmpR op_isN (pe_km0 (pv 4) T.c_Machine T.m_Machine_end G_Machine_end (hr.mono (by decide))) pe_non (nomark _)) pe_str (pe_km0 (pv 4) T.c_Machine T.m_Machine_end G_Machine_end (hr.mono (by decide)))))
      (pss_one (ps_ret (pe_tup (pa_cons (pe_tup (pa_cons (pe_km0 (pv 4) T.c_Machine T.m_Machine_told G_Machine_told (hr.mono (by decide))) (pa_cons (pe_km0 (pv 4) T.c_Machine T.m_Machine_cells G_Machine_cells (hr.mono (by decide))) (pa_cons (pv 11) (pa_cons (pe_km0 (pv 4) T.c_Machine T.m_Machine_beats G_Machine_beats (hr.mono (by decide))) pa_nil))))) (pa_cons (pv 6) pa_nil))))))))), ?_⟩
    refine ⟨_, rfl, _, rfl, fun x dx hx hdx ne => ?_⟩
    have s0 : Same H (upd (upd H dx (.own x)) x (.ins (cM K) dx [])) := same_mk hx hdx ne
    refine ⟨x, dx, vp, vi, p, inp, rfl, upd_same, hp.same s0, pok, hi.same s0, iok, fun H1 fm f1 _ n2 hM => ⟨rfl, ?_⟩⟩
    obtain ⟨s1, nw1⟩ := new_mk hx hdx ne f1 n2
    refine ⟨_, rfl, _, rfl, fun y dy hy hdy ney => ?_⟩
    have s0' : Same H1 (upd (upd H1 dy (.own y)) y (.ins (cM K) dy [])) := same_mk hy hdy ney
    refine ⟨y, dy, vp, vi, p, inp, rfl, upd_same, (hp.same s1).same s0', pok, (hi.same s1).same s0', iok, fun H2 fo f2 _ n3 hO => ⟨rfl, ?_⟩⟩
    obtain ⟨s2, nw2⟩ := new_mk hy hdy ney f2 n3
    have dj : ∀ b ∈ fm, b ∉ fo := fun b hb hb2 => by
      obtain ⟨o, z, _⟩ := hM.there b hb
      rw [nw2 b hb2] at z; cases z
    have nwo : New fo H := fun b hb => by
      cases e : H b with
      | none => rfl
      | some o => have := s1 _ _ e; rw [nw2 b hb] at this; cases this
    have g0 : Good p ms0 := good0 pok.lo
    have pv0 : PvS K H H2 p inp x y ms0 ms0 fm fo := ⟨hM.same s2, hO, dj, s1.trans s2, nw1, nwo, g0, g0⟩
    refine ⟨_, _, rfl, ?_⟩
    clear s0 s0' f1 f2 n2 n3 hM hO dj nwo nw1 nw2 s1 s2
    refine ⟨fun k σ H' => ∃ st so fm fo x7 x8 x10, σ = [some vp, some vi, some u, some (.int most), some (.ref x), some (.ref y), some (.bl true), x7, x8, none, x10, none] ∧ PvS K H H' p inp x y st so fm fo ∧ k = (most - st.done).toNat ∧ itw p inp sl (most - st.done).toNat st = goW p inp sl most ms0 ∧ (st.done ≤ bOf sl → so = st),
      ⟨_, ms0, ms0, fm, fo, none, none, none, rfl, pv0, rfl, rfl, fun _ => rfl⟩, ?_⟩
    rintro k σ H3 ⟨st, so, fm, fo, x7, x8, x10, rfl, pv, rfl, eq, hso⟩
    obtain ⟨d1, fs1, o1, e_end, e_told, e_cells, e_beats, e_place, e_boxes, e_kept, e_beat, e_slip, e_lead⟩ := mch_m pv.1
    have g := pv.2.2.2.2.2.2.1
    refine ⟨_, rfl, x, d1, fs1, rfl, o1, e_beats, x, p, inp, st, fm, rfl, pv.1, _, rfl, _, _, rfl, rfl, _, rfl, ?_⟩
    -- the end
    have fin : ∀ (x7 x8 x10 : Option V), goW p inp sl most ms0 = st → tSeq (tAsg (tIf (tTest (tOp rIsNN (tMeth (cM K) "end" (sp_end K) [] E0 (tVar 4) tNil) (tC .non))) (tC (.str "dry")) (tMeth (cM K) "end" (sp_end K) [] E0 (tVar 4) tNil)) (gName 11))
        (tRet (tTup (tCons (tTup (tCons (tMeth (cM K) "told" (sp_told K) [] E0 (tVar 4) tNil) (tCons (tMeth (cM K) "cells" (sp_cells K) [] E0 (tVar 4) tNil) (tCons (tVar 11) (tCons (tMeth (cM K) "beats" (sp_beats K) [] E0 (tVar 4) tNil) tNil))))) (tCons (tVar 6) tNil)))) { nx := fun _ H' => Q .non H', rt := Q } [some vp, some vi, some u, some (.int most), some (.ref x), some (.ref y), some (.bl true), x7, x8, none, x10, none] H3 := fun x7 x8 x10 e => by
      have hm := pv.1
      have s3 := pv.2.2.2.1
      have tail : ∀ z : Str, st.over.getD "dry" = z → tRet (tTup (tCons (tTup (tCons (tMeth (cM K) "told" (sp_told K) [] E0 (tVar 4) tNil) (tCons (tMeth (cM K) "cells" (sp_cells K) [] E0 (tVar 4) tNil) (tCons (tVar 11) (tCons (tMeth (cM K) "beats" (sp_beats K) [] E0 (tVar 4) tNil) tNil))))) (tCons (tVar 6) tNil))) { nx := fun _ H' => Q .non H', rt := Q } [some vp, some vi, some u, some (.int most), some (.ref x), some (.ref y), some (.bl true), x7, x8, none, x10, some (.str z)] H3 := fun z ez => by
        refine ⟨_, rfl, x, d1, fs1, rfl, o1, e_told, x, p, inp, st, fm, rfl, hm, fun H4 t s4 ht => ?_⟩
        refine ⟨_, rfl, x, d1, fs1, rfl, s4 _ _ o1, e_cells, x, p, inp, st, fm, rfl, hm.same s4, fun H5 c s5 hc => ?_⟩
        refine ⟨_, rfl, _, rfl, x, d1, fs1, rfl, s5 _ _ (s4 _ _ o1), e_beats, x, p, inp, st, fm, rfl, (hm.same s4).same s5, by show 4 ≤ sizeLine; decide, fun a ha => ?_⟩
        have s6 := same_new (o := .tup [V.ref t, .ref c, .str z, .int st.done]) ha
        refine ⟨_, rfl, by show 2 ≤ sizeLine; decide, fun a2 ha2 => ?_⟩
        have s7 := same_new (o := .tup [V.ref a, .bl true]) ha2
        refine q _ a2 (.ref a) ((((s3.trans s4).trans s5).trans s6).trans s7) sq_new ?_
        rw [e]
        refine ⟨a, t, c, rfl, ?_, tl_same ((s5.trans s6).trans s7) _ _ (sq_tup ht), tl_same (s6.trans s7) _ _ (sq_tup hc)⟩
        show SqT K _ a [.ref t, .ref c, .str (st.over.getD "dry"), .int st.done]
        rw [ez]
        exact tl_same s7 _ _ sq_new
      refine ⟨_, rfl, x, d1, fs1, rfl, o1, e_end, x, p, inp, st, fm, rfl, hm, rfl, _, rfl, ?_⟩
      cases eo : st.over with
      | none => exact iteT (tail "dry" (by rw [eo]; rfl))
      | some z => exact iteF ⟨_, rfl, x, d1, fs1, rfl, o1, e_end, x, p, inp, st, fm, rfl, hm, by rw [eo]; exact tail z (by rw [eo]; rfl)⟩
    refine ite2 (fun e => ?_) (fun e => ?_)
    · have e : st.done < most := by simpa using e
      refine ⟨_, rfl, x, d1, fs1, rfl, o1, e_end, x, p, inp, st, fm, rfl, pv.1, rfl, _, rfl, ?_⟩
      cases eo : st.over with
      | some z =>
        refine iteF (fin _ _ _ ?_)
        rw [← eq]
        cases (most - st.done).toNat with
        | zero => rfl
        | succ n => rw [itw_succ, if_neg (by rw [eo]; simp)]
      | none =>
        refine iteT ⟨_, fun σ' H' z => z, ?_⟩
        refine ⟨_, rfl, x, d1, fs1, rfl, o1, e_beats, x, p, inp, st, fm, rfl, pv.1, ?_⟩
        have hb1 : ∃ b, (V.str sl.1 :: sl.2.map V.int)[1]? = some (V.int b) ∧ bOf sl = b := by
          cases sok with
          | box b x z => exact ⟨b, rfl, rfl⟩
          | way b c => exact ⟨b, rfl, rfl⟩
        obtain ⟨b, eb, eb2⟩ := hb1
        obtain ⟨ua, rfl, hua⟩ := hu
        have s3 := pv.2.2.2.1
        have hua3 := tl_same s3 _ _ hua
        -- the first if: the other one goes on
        refine ⟨fun σ H' => ∃ so fo x8, σ = [some vp, some vi, some (.ref ua), some (.int most), some (.ref x), some (.ref y), some (.bl true), some (.int st.done), x8, none, x10, none] ∧ PvS K H H' p inp x y st so fm fo ∧ (st.done ≤ b → so = bt p inp st), ?_, ?_⟩
        · refine ⟨_, rfl, _, rfl, _, _, _, _, rfl, rfl, hua3, atIn (by decide) eb, _, _, rfl, rfl, _, rfl, ?_⟩
          refine ite2 (fun e2 => ?_) (fun e2 => ⟨so, fo, x8, rfl, pv, fun z => absurd z (by simpa using e2)⟩)
          have e2 : st.done ≤ b := by simpa using e2
          have eso := hso (by rw [eb2]; exact e2)
          subst eso
          refine ⟨_, rfl, _, rfl, by show 2 ≤ sizeLine; decide, fun tp htp => ?_⟩
          have s4 := same_new (o := .tup [V.ref x, .ref y]) htp
          have htp4 : (upd H3 tp (.tup [V.ref x, .ref y])) tp = some (.tup [V.ref x, .ref y]) := upd_same
          have pv4 := pv_same pv s4
          generalize upd H3 tp (.tup [V.ref x, .ref y]) = H4 at s4 htp4 pv4
          refine ⟨tp, rfl, ⟨_, sq_tup htp4⟩, fun D hD => ?_⟩
          refine lc_all (G := fun H' => SqT K H' tp [V.ref x, .ref y]) walk_tup (fun _ => so) (fun v st H' => ShAt K H' v st) (fun _ _ _ _ h s => h.tl (tl_same s)) (fun _ _ _ l xs zs h hl => h.tl (tl_lst hl)) (by show 2 ≤ 100000; decide) hD (fun H' s => sq_tup (s _ _ htp4)) ?_ ?_
          · rintro j z Ha Hb Qe hj s ⟨rfl, ez⟩ qe
            have pv5 := pv_same pv4 s
            obtain ⟨m, fq, rfl, hm⟩ : ∃ m fq, z = .ref m ∧ Mch K Hb m p inp so fq := by
              have hj : j < 2 := hj
              rcases j with _ | _ | j
              · exact ⟨x, fm, (Option.some.inj ez).symm, pv5.1⟩
              · exact ⟨y, fo, (Option.some.inj ez).symm, pv5.2.1⟩
              · omega
            obtain ⟨d, fs, o, _, f_told, f_cells, _, f_place, f_boxes, f_kept, _⟩ := mch_m hm
            refine ⟨rfl, _, rfl, m, d, fs, rfl, o, f_place, m, p, inp, so, fq, rfl, hm, ?_⟩
            refine ⟨_, rfl, m, d, fs, rfl, o, f_boxes, m, p, inp, so, fq, rfl, hm, fun H5 t1 s5 h1 => ?_⟩
            refine ⟨_, rfl, m, d, fs, rfl, s5 _ _ o, f_cells, m, p, inp, so, fq, rfl, hm.same s5, fun H6 t2 s6 h2 => ?_⟩
            refine ⟨_, rfl, m, d, fs, rfl, s6 _ _ (s5 _ _ o), f_told, m, p, inp, so, fq, rfl, (hm.same s5).same s6, fun H7 t3 s7 h3 => ?_⟩
            refine ⟨_, rfl, m, d, fs, rfl, s7 _ _ (s6 _ _ (s5 _ _ o)), f_kept, m, p, inp, so, fq, rfl, ((hm.same s5).same s6).same s7, by show 5 ≤ sizeLine; decide, fun a ha => ?_⟩
            have s8 := same_new (o := .tup [V.int so.at_, .ref t1, .ref t2, .ref t3, .int (so.stands.length : Nat)]) ha
            exact qe _ _ (((s5.trans s6).trans s7).trans s8) ⟨a, t1, t2, t3, rfl, sq_new, tl_same ((s6.trans s7).trans s8) _ _ (sq_tup h1), tl_same (s7.trans s8) _ _ (sq_tup h2), tl_same s8 _ _ (sq_tup h3)⟩
          · intro H5 acc s5 hl5 pr5
            obtain ⟨v1, v2, rfl, c1, c2⟩ : ∃ v1 v2, acc = [v1, v2] ∧ ShAt K H5 v1 so ∧ ShAt K H5 v2 so := by
              have pr5 : Paired (fun v st => ShAt K H5 v st) acc [so, so] := pr5
              cases pr5 with
              | cons h t => cases t with
                | cons h2 t2 => cases t2; exact ⟨_, _, rfl, h, h2⟩
            refine ⟨_, rfl, true, rfl, iteT ?_⟩
            refine ⟨_, rfl, _, _, _, _, rfl, rfl, sq_lst hl5, atI0 _ _, _, rfl, _, _, _, _, rfl, rfl, sq_lst hl5, atIn (x := v2) (by decide) rfl, dSh so, dSh so, c1.dp, c2.dp, sh_dSh _, sh_dSh _, ?_⟩
            rw [eq_dSh]
            have pv5 := pv_same pv4 s5
            obtain ⟨d, fs, o, _, _, _, _, _, _, _, f_beat, _⟩ := mch_m pv5.2.1
            refine ⟨_, rfl, y, d, fs, rfl, o, f_beat, y, p, inp, so, fo, rfl, pv5.2.1, g, pok, iok, by omega, fun H6 fo' hm6 f6 n6 => ?_⟩
            exact ⟨bt p inp so, fo', _, rfl, pv_right pv5 hm6 f6 n6 (good_bt g pok iok), fun _ => rfl⟩
        · rintro σ H4 ⟨so', fo', x8', rfl, pv4, hso'⟩
          have hua4 := tl_same pv4.2.2.2.1 _ _ hua
          have ed : bOf sl = sl.2.getD 0 0 := rfl
          -- the slip
          refine ⟨fun σ H' => ∃ st1 fm1, σ = [some vp, some vi, some (.ref ua), some (.int most), some (.ref x), some (.ref y), some (.bl true), some (.int st.done), x8', none, x10, none] ∧ PvS K H H' p inp x y st1 so' fm1 fo' ∧ st1 = (if sl.1 = "box" ∧ st.done = b then { st with words := putI st.words (sl.2.getD 1 0) (sl.2.getD 2 0) } else st), ?_, ?_⟩
          · refine ⟨_, rfl, _, _, _, _, rfl, rfl, hua4, atI0 _ _, rfl, _, rfl, ?_⟩
            refine ite2 (fun e3 => ?_) (fun e3 => ⟨st, fm, rfl, pv4, by rw [if_neg (fun z => str_ne e3 z.1)]⟩)
            have e3 := str_eq e3
            refine ⟨_, rfl, _, _, _, _, rfl, rfl, hua4, atIn (by decide) eb, _, rfl, rfl, _, rfl, ?_⟩
            refine ite2 (fun e4 => ?_) (fun e4 => ⟨st, fm, rfl, pv4, by rw [if_neg (fun z => e4 (by simpa using z.2.symm))]⟩)
            have e4 : b = st.done := by simpa using e4
            cases sok with
            | way => exact absurd (show ("way" : Str) = "box" from e3) (by decide)
            | box b' bx z b0 b1 x0 x1 z0 z1 =>
              obtain ⟨d, fs, o, _, _, _, _, _, _, _, _, f_slip, _⟩ := mch_m pv4.1
              refine ⟨_, rfl, x, d, fs, rfl, o, f_slip, _, rfl, _, _, _, _, rfl, rfl, hua4, atIn (x := V.int bx) (by decide) rfl, _, rfl, _, _, _, _, rfl, rfl, hua4, atIn (x := V.int z) (by decide) rfl, x, p, inp, st, fm, bx, z, rfl, pv4.1, g.words.1, x0, x1, z0, z1, fun H5 fm5 hm5 f5 n5 => ?_⟩
              refine ⟨_, fm5, rfl, pv_left pv4 hm5 f5 n5 (good_w g (g.words.put z0 z1)), ?_⟩
              rw [if_pos ⟨rfl, e4.symm⟩]
              rfl
          · rintro σ H5 ⟨st1, fm1, rfl, pv5, est⟩
            have hua5 := tl_same pv5.2.2.2.1 _ _ hua
            have a1 : st1.at_ = st.at_ ∧ st1.over = st.over ∧ st1.done = st.done := by rw [est]; split <;> exact ⟨rfl, rfl, rfl⟩
            obtain ⟨a1, a2, a3⟩ := a1
            have g1 : Good p st1 := pv5.2.2.2.2.2.2.1
            obtain ⟨d, fs, o, f_end, _, _, _, f_place, _, _, f_beat, _, f_lead⟩ := mch_m pv5.1
            obtain ⟨pa, pvs, rfl, hpa, ppr⟩ := hp.same pv5.2.2.2.1
            obtain ⟨rv, hrv, ra, rfl, hra⟩ := Paired.at_ ppr (rowAt_get g.at0 g.at1)
            refine ⟨_, rfl, _, rfl, x, d, fs, rfl, o, f_place, x, p, inp, st1, fm1, rfl, pv5.1, _, _, _, _, rfl, rfl, hpa, by rw [a1]; exact atIn g.at0 hrv, _, _, _, _, rfl, rfl, hra, atI0 _ _, by show 5 ≤ sizeLine; decide, fun tp htp => ?_⟩
            have s6 := same_new (o := .tup [V.str "go", .str "if", .str "if2", .str "if3", .str "end"]) htp
            refine ⟨tp, waysL.map V.str, rfl, .inr sq_new, rfl, by decide, ?_⟩
            rw [if_neg (by decide), inV_str]
            have pv6 := pv_same pv5 s6
            have hua6 := tl_same s6 _ _ hua5
            have o6 := s6 _ _ o
            generalize upd H5 tp (.tup [V.str "go", .str "if", .str "if2", .str "if3", .str "end"]) = H6 at s6 pv6 hua6 o6
            refine ⟨_, rfl, x, d, fs, rfl, o6, f_beat, x, p, inp, st1, fm1, rfl, pv6.1, g1, pok, iok, by omega, fun H7 fm7 hm7 f7 n7 => ?_⟩
            have pv7 := pv_left pv6 hm7 f7 n7 (good_bt g1 pok iok)
            have hua7 := tl_same pv7.2.2.2.1 _ _ hua
            have dn : (bt p inp st1).done = st.done + 1 := by rw [bt_done (by rw [a2, eo]), a3]
            -- the turn's end, in each case
            have done_ : ∀ (H8 : Hp) (st2 : MS) (fm8 : List Addr), PvS K H H8 p inp x y st2 so' fm8 fo' → st2 = beatW p inp sl st → ∃ m', m' < (most - st.done).toNat ∧ ∃ sN so fm fo x7 x8 x10, [some (V.ref pa), some vi, some (.ref ua), some (.int most), some (.ref x), some (.ref y), some (.bl true), some (.int st.done), x8', none, some (.bl (waysL.contains (rowAt p st.at_).1)), none] = [some (V.ref pa), some vi, some (.ref ua), some (.int most), some (.ref x), some (.ref y), some (.bl true), x7, x8, none, x10, none] ∧ PvS K H H8 p inp x y sN so fm fo ∧ m' = (most - sN.done).toNat ∧ itw p inp sl (most - sN.done).toNat sN = goW p inp sl most ms0 ∧ (sN.done ≤ bOf sl → so = sN) := fun H8 st2 fm8 pv8 e2 => by
              have d2 : st2.done = st.done + 1 := by rw [e2, beatW_done eo]
              refine ⟨(most - (st.done + 1)).toNat, by omega, st2, so', fm8, fo', _, _, _, rfl, pv8, by rw [d2], ?_, fun hb => ?_⟩
              · rw [← eq, d2, show (most - st.done).toNat = (most - (st.done + 1)).toNat + 1 by omega, itw_succ, if_pos eo, e2]
              · rw [d2, eb2] at hb
                rw [hso' (by omega), e2, beatW_not (by rw [eb2]; omega)]
            have e0 : sl.2.getD 0 0 = b := by rw [← eb2]; rfl
            refine ⟨_, rfl, _, _, _, _, rfl, rfl, hua7, atI0 _ _, rfl, _, rfl, ?_⟩
            refine ite2 (fun e3 => ?_) (fun e3 => ?_)
            · have e3 := str_eq e3
              have nb : ¬ sl.1 = "box" := by rw [e3]; decide
              have est : st1 = st := by rw [est, if_neg (fun z => nb z.1)]
              subst est
              have ebw : beatW p inp sl st1 = if st1.done = b ∧ isWay (rowAt p st1.at_) = true ∧ (bt p inp st1).over = none then { bt p inp st1 with at_ := sl.2.getD 1 0 } else bt p inp st1 := by
                unfold beatW
                rw [if_neg nb, e0]
              refine ⟨_, rfl, _, _, _, _, rfl, rfl, hua7, atIn (by decide) eb, _, rfl, rfl, _, rfl, ?_⟩
              refine ite2 (fun e4 => ?_) (fun e4 => ?_)
              · have e4 : b = st1.done := by simpa using e4
                refine ⟨_, rfl, _, rfl, ?_⟩
                refine ite2 (fun e5 => ?_) (fun e5 => ?_)
                · have e5 : isWay (rowAt p st1.at_) = true := e5
                  obtain ⟨d8, fs8, o8, f_end8, _, _, _, _, _, _, _, _, f_lead8⟩ := mch_m pv7.1
                  refine ⟨_, rfl, x, d8, fs8, rfl, o8, f_end8, x, p, inp, _, fm7, rfl, pv7.1, rfl, _, rfl, ?_⟩
                  cases eo2 : (bt p inp st1).over with
                  | none =>
                    cases sok with
                    | box => exact absurd rfl nb
                    | way b' c b0 b1 hc =>
                      obtain ⟨c0, c1⟩ := pls_lt pok hc
                      refine iteT ⟨_, rfl, x, d8, fs8, rfl, o8, f_lead8, _, rfl, _, _, _, _, rfl, rfl, hua7, atIn (x := V.int c) (by decide) rfl, x, p, inp, _, fm7, c, rfl, pv7.1, c0, c1, fun H9 fm9 hm9 f9 n9 => ?_⟩
                      have g7 := good_bt (inp := inp) g1 pok iok
                      refine done_ H9 _ fm9 (pv_left pv7 hm9 f9 n9 { g7 with at0 := c0, at1 := c1 }) ?_
                      rw [ebw, if_pos ⟨e4.symm, e5, eo2⟩]
                      rfl
                  | some z =>
                    refine iteF (done_ H7 _ fm7 pv7 ?_)
                    rw [ebw, if_neg (fun q => by rw [eo2] at q; exact absurd q.2.2 (by simp))]
                · refine iteF (done_ H7 _ fm7 pv7 ?_)
                  rw [ebw, if_neg (fun q => e5 q.2.1)]
              · refine iteF (done_ H7 _ fm7 pv7 ?_)
                rw [ebw, if_neg (fun q => e4 (by simpa using q.1.symm))]
            · have e3 := str_ne e3
              refine iteF (done_ H7 _ fm7 pv7 ?_)
              have bx : sl.1 = "box" := by
                cases sok with
                | box => rfl
                | way => exact absurd rfl e3
              unfold beatW
              rw [if_pos bx, e0, est]
              by_cases hb : st.done = b
              · rw [if_pos ⟨bx, hb⟩, if_pos hb]
              · rw [if_neg (fun z => hb z.2), if_neg hb]
    · have e : ¬ st.done < most := by simpa using e
      refine fin _ _ _ ?_
      rw [← eq, show (most - st.done).toNat = 0 by omega]
      rfl
end

end Sw
/-! SwL11 -/
namespace Sw
set_option Elab.async false
set_option linter.all false
set_option maxRecDepth 100000
set_option maxHeartbeats 4000000
open PySem PySem.Spec PyProof.Rows L2
def dO (o : Oc) : PyData := .tuple [dI o.told, dI o.cells, .str o.end_, .int o.beats]
theorem eqv_dO (a b : Oc) : PyData.eqv (dO a) (dO b) = decide (a = b) := by
  obtain ⟨a1, a2, a3, a4⟩ := a
  obtain ⟨b1, b2, b3, b4⟩ := b
  unfold dO
  simp only [PyData.eqv, PyData.eqvAll, eqv_ints, Oc.mk.injEq]
  by_cases h1 : a1 = b1 <;> by_cases h2 : a2 = b2 <;> by_cases h3 : a3 = b3 <;> by_cases h4 : a4 = b4 <;> simp [h1, h2, h3, h4]
def EndOk (o : Oc) : Prop := o.end_ = "end" ∨ o.end_ = "slip" ∨ o.end_ = "dry"
theorem end_str {o : Oc} (h : EndOk o) : PyData.strOk o.end_ = true := by
  rcases h with h | h | h <;> (rw [h]; decide +kernel)
theorem sh_dO {o : Oc} (h : EndOk o) : SeqAt.shaped (dO o) = true := by
  have := end_str h
  simp [SeqAt.shaped, dO, dI, PyData.canLay0, PyData.canLayAll0, PyData.depth, PyData.depthAll, can_ints, dep_ints, this]
theorem end_outc {p : List Rw} {st : MS} (g : Good p st) : EndOk (outc st) := by
  unfold EndOk outc
  rcases g.over with h | h | h <;> (rw [h]; simp)
theorem good_itw {p : List Rw} {inp : List Int} {s : Rw} (ok : PgOk p) (hi : InOk inp) (h : SlOk p s) : ∀ (n : Nat) {st : MS}, Good p st → Good p (itw p inp s n st)
  | 0, _, g => g
  | n + 1, st, g => by
    rw [itw_succ]
    split
    · exact good_itw ok hi h n (good_beatW g ok hi h)
    · exact g
theorem end_go {p : List Rw} {inp : List Int} {s : Rw} (ok : PgOk p) (hi : InOk inp) (h : SlOk p s) (m : Int) : EndOk (outc (goW p inp s m ms0)) := end_outc (good_itw ok hi h _ (good0 ok.lo))
section
variable {w : World} {K : PySem.W.Frag} {mg : Str → Option Value} {base : Heap}
theorem OcAt.dp {H : Hp} {v : V} {o : Oc} (h : OcAt K H v o) : Dp K H v (dO o) := by
  obtain ⟨a, t, c, rfl, h1, h2, h3⟩ := h
  exact .tup h1 (.cons (dp_dI h2) (.cons (dp_dI h3) (.cons (.str _) (.cons (.int _) .nil))))
theorem sc_law_slip_right : FnScope ["_law_program_here", "_law_inputs_here", "_law_right", "_law_slip", "_law_most", "_law_found", "_law_is_same"] ["_law_program_here", "_law_inputs_here", "_law_right", "_law_slip"] (defScope s_law_slip_right) := ⟨rfl, rfl, rfl, by decide +kernel, rfl, by decide +kernel, by decide +kernel⟩
def sp_slip_right (K : PySem.W.Frag) : Sp := fun vs H Q _ => ∃ vp vi vr u p inp s N, vs = [vp, vi, vr, u] ∧ PgAt K H vp p ∧ PgOk p ∧ p.length < 64 ∧ IsAt K H vi inp ∧ InOk inp ∧ OcAt K H vr (rightF p inp N) ∧ RwAt K H u s ∧ SlOk p s ∧ RunOk p inp N ∧ N ≤ 100 ∧
  ∀ H', Same H H' → Q (.bl true) H'
theorem G_law_slip_right (T : Tx w K mg) : Kn PP w K mg base 8 (He.ga K "_law_slip_right") ["_law_program_here", "_law_inputs_here", "_law_right", "_law_slip"] (sp_slip_right K) := by
  have G_law_stepped := G_law_stepped (base := base) T
  have G_is_slip := G_is_slip (base := base) T
  have G_run_with := G_run_with (base := base) T
  have G_judged := G_judged (base := base) T
  have G_law_judged := G_law_judged (base := base) T
  refine kn_of T.d_law_slip_right sc_law_slip_right (fun _ _ _ _ _ _ us hl => match us, hl with | [_, _, _, _], _ => rfl) (fun vs H Q E h => ?_) fun cdv A outer s H vs Q E hr h => ?_
  · obtain ⟨vp, vi, vr, u, p, inp, s, N, rfl, _⟩ := h; rfl
  · obtain ⟨vp, vi, vr, u, p, inp, sl, N, rfl, hp, pok, few, hi, iok, hv, hu, sok, rok, n100, q⟩ := h
    refine ⟨_, (pss_cons (ps_set (i := 4) sc_law_slip_right.nd rfl (Or.inl rfl) (pe_op op_add (pe_op op_mul pe_int (pe_ix ix_tup (pv 2) pe_int (fun _ _ => rfl))) pe_int))
      (pss_cons (ps_asg (pe_kn G_law_stepped (hr.mono (by decide)) (by rfl) T.g_law_stepped (pa_cons (pv 0) (pa_cons (pv 1) (pa_cons (pv 3) (pa_cons (pv 4) pa_nil))))) (pg_tup rfl (pgs_cons (pg_name (i := 5) sc_law_slip_right.nd rfl (Or.inl rfl)) (pgs_cons (pg_name (i := 6) sc_law_slip_right.nd rfl (Or.inl rfl)) pgs_nil))))
      (pss_cons (ps_if (PW.pt (pw_or (pt_not (pt_val (pv 6))) (pw_or (pt_cmpR op_notBl (pe_kn G_is_slip (hr.mono (by decide)) (by rfl) T.g_is_slip (pa_cons (pv 0) (pa_cons (pv 3) pa_nil))) pe_bl (nomark _)) (pw_or1 (pt_cmpR (op_neD hr.units) (pe_kn G_run_with (hr.mono (by decide)) (by rfl) T.g_run_with (pa_cons (pv 0) (pa_cons (pv 1) (pa_cons (pv 3) (pa_cons (pv 4) pa_nil))))) (pv 5) (nomark _))))))
        (pss_one (ps_ret pe_bl))
        pss_nil)
      (pss_one (ps_ret (pe_cmpR op_eq (pe_kn G_judged (hr.mono (by decide)) (by rfl) T.g_judged (pa_cons (pv 0) (pa_cons (pv 1) (pa_cons (pv 3) (pa_cons (pe_ix ix_tup (pv 2) pe_int (fun _ _ => rfl)) pa_nil))))) (pe_kn G_law_judged (hr.mono (by decide)) (by rfl) T.g_law_judged (pa_cons (pv 2) (pa_cons (pv 5) pa_nil))) (nomark _))))))), ?_⟩
    obtain ⟨ra, rt, rc, rfl, r1, r2, r3⟩ := id hv
    have r1 := r1
    rw [right_end rok, right_beats rok] at r1
    have em : 4 * ((N : Nat) : Int) + 100 = mostF N := rfl
    have mm : 0 ≤ mostF N ∧ mostF N ≤ 100000 := by unfold mostF; omega
    refine ⟨_, rfl, _, _, _, _, rfl, rfl, r1, atIn (x := V.int ((N : Nat) : Int)) (by decide) rfl, _, _, rfl, rfl, .inl ⟨by decide, by decide⟩, _, _, rfl, rfl, ?_⟩
    refine ⟨_, rfl, _, rfl, _, rfl, _, rfl, vp, vi, u, p, inp, sl, mostF N, rfl, hp, pok, hi, iok, hu, sok, mm.1, mm.2, fun H1 a oc s1 ha hoc => ?_⟩
    refine ⟨a, _, rfl, ha, rfl, _, _, rfl, _, _, rfl, rfl, ?_⟩
    refine ⟨_, rfl, true, rfl, iteF ?_⟩
    refine ⟨_, rfl, _, rfl, vp, u, p, sl, rfl, hp.same s1, pok, few, hu.same s1, sok, fun H2 s2 => ⟨true, true, rfl, rfl, _, rfl, iteF ?_⟩⟩
    have s12 := s1.trans s2
    refine ⟨_, rfl, _, rfl, _, rfl, _, rfl, vp, vi, u, p, inp, sl, mostF N, rfl, hp.same s12, pok, few, hi.same s12, iok, hu.same s12, sok, mm.1, mm.2, fun H3 v s3 hv3 => ?_⟩
    have s13 := s12.trans s3
    have hoc3 := hoc.same (s2.trans s3)
    refine ⟨_, rfl, dO (outc (goW p inp sl (mostF N) ms0)), dO (outc (goW p inp sl (mostF N) ms0)), hv3.dp, hoc3.dp, sh_dO (end_go pok iok sok _), sh_dO (end_go pok iok sok _), _, rfl, ?_⟩
    rw [eqv_dO, show decide (outc (goW p inp sl (mostF N) ms0) = outc (goW p inp sl (mostF N) ms0)) = true by simp]
    refine iteF ?_
    refine ⟨_, rfl, _, rfl, _, rfl, _, rfl, _, _, _, _, rfl, rfl, tl_same s13 _ _ r1, atIn (x := V.int ((N : Nat) : Int)) (by decide) rfl, vp, vi, u, p, inp, sl, ((N : Nat) : Int), N, rfl, hp.same s13, pok, few, hi.same s13, iok, hu.same s13, sok, rok, Int.le_refl _, by omega, n100, fun H4 s4 => ?_⟩
    refine ⟨_, rfl, _, rfl, _, _, rightF p inp N, _, rfl, hv.same (s13.trans s4), hoc3.same s4, end_go pok iok sok _, fun H5 s5 => ⟨rfl, ?_⟩⟩
    rw [show decide (V.str (wordF (rightF p inp N) (outc (goW p inp sl (mostF N) ms0))) = V.str (wordF (rightF p inp N) (outc (goW p inp sl (mostF N) ms0)))) = true by simp]
    exact q _ ((s13.trans s4).trans s5)
end

end Sw
/-! SwL12 -/
namespace Sw
set_option Elab.async false
set_option linter.all false
set_option maxRecDepth 100000
set_option maxHeartbeats 4000000
open PySem PySem.Spec PyProof.Rows L2
def bxR (a b c : Int) : Rw := ("box", [a, b, c])
def wyR (a b : Int) : Rw := ("way", [a, b])
def idL (p : List Rw) (inp : List Int) (N : Nat) (n : Int) : List Rw :=
  [bxR (n % N) (n / 40 % 32) (getI (itb p inp (n % N).toNat ms0).words (n / 40 % 32)), bxR (N : Int) (n / 40 % 32) (n / 1280 % 16)] ++
  ((if (itb p inp ((n % N).toNat + 1) ms0).at_ ∈ pls p then [wyR (n % N) (itb p inp ((n % N).toNat + 1) ms0).at_] else []) ++ [bxR 5000 (n / 40 % 32) (n / 1280 % 16)])
section
variable {w : World} {K : PySem.W.Frag} {mg : Str → Option Value} {base : Heap}
theorem sc_law_idle : FnScope ["_law_program_here", "_law_inputs_here", "_law_n", "_law_machine", "_law_beat", "_law_turn", "_law_box", "_law_found"] ["_law_program_here", "_law_inputs_here", "_law_n"] (defScope s_law_idle) := ⟨rfl, rfl, rfl, by decide +kernel, rfl, by decide +kernel, by decide +kernel⟩
def sp_idle (K : PySem.W.Frag) : Sp := fun vs H Q _ => ∃ vp vi n p inp N, vs = [vp, vi, V.int n] ∧ PgAt K H vp p ∧ PgOk p ∧ p.length < 64 ∧ IsAt K H vi inp ∧ InOk inp ∧ RunOk p inp N ∧ N ≤ 40 ∧ 0 ≤ n ∧
  ∀ H' a us, Same H H' → H' a = some (.lst us) → Paired (RwAt K H') us (idL p inp N n) → Q (.ref a) H'
theorem G_law_idle (T : Tx w K mg) : Kn PP w K mg base 8 (He.ga K "_law_idle") ["_law_program_here", "_law_inputs_here", "_law_n"] (sp_idle K) := by
  have G_Machine := G_Machine (base := base) T
  have G_run := G_run (base := base) T
  have G_Machine_beat := G_Machine_beat (base := base) T
  have G_Machine_boxes := G_Machine_boxes (base := base) T
  have G_Machine_place := G_Machine_place (base := base) T
  have G_law_goals := G_law_goals (base := base) T
  refine kn_of T.d_law_idle sc_law_idle (fun _ _ _ _ _ _ us hl => match us, hl with | [_, _, _], _ => rfl) (fun vs H Q E h => ?_) fun cdv A outer s H vs Q E hr h => ?_
  · obtain ⟨vp, vi, n, p, inp, N, rfl, _⟩ := h; rfl
  · obtain ⟨vp, vi, n, p, inp, N, rfl, hp, pok, few, hi, iok, rok, n40, n0, q⟩ := h
    refine ⟨_, (pss_cons (ps_set (i := 3) sc_law_idle.nd rfl (Or.inl rfl) (pe_kc G_Machine (hr.mono (by decide)) (by rfl) T.g_Machine (pa_cons (pv 0) (pa_cons (pv 1) pa_nil))))
      (pss_cons (ps_set (i := 4) sc_law_idle.nd rfl (Or.inl rfl) (pe_op op_mod (pv 2) (pe_ix ix_tup (pe_kn G_run (hr.mono (by decide)) (by rfl) T.g_run (pa_cons (pv 0) (pa_cons (pv 1) (pa_cons pe_int pa_nil)))) pe_int (fun _ _ => rfl))))
      (pss_cons (ps_for PassesOwn.never rfl (pi_range1 (by rfl) T.f_range (pa_cons (pv 4) pa_nil)) (pg_name (i := 5) sc_law_idle.nd rfl (Or.inl rfl))
        (pss_one (ps_expr (pe_km0 (pv 3) T.c_Machine T.m_Machine_beat G_Machine_beat (hr.mono (by decide))))))
      (pss_cons (ps_set (i := 6) sc_law_idle.nd rfl (Or.inl rfl) (pe_op op_mod (pe_op op_fdiv (pv 2) pe_int) pe_int))
      (pss_cons (ps_set (i := 7) sc_law_idle.nd rfl (Or.inl rfl) (pe_lst (pa_cons (pe_tup (pa_cons pe_str (pa_cons (pv 4) (pa_cons (pv 6) (pa_cons (pe_ix ix_tup (pe_km0 (pv 3) T.c_Machine T.m_Machine_boxes G_Machine_boxes (hr.mono (by decide))) (pv 6) (fun _ _ => rfl)) pa_nil))))) (pa_cons (pe_tup (pa_cons pe_str (pa_cons (pe_ix ix_tup (pe_kn G_run (hr.mono (by decide)) (by rfl) T.g_run (pa_cons (pv 0) (pa_cons (pv 1) (pa_cons pe_int pa_nil)))) pe_int (fun _ _ => rfl)) (pa_cons (pv 6) (pa_cons (pe_op op_mod (pe_op op_fdiv (pv 2) pe_int) pe_int) pa_nil))))) pa_nil))))
      (pss_cons (ps_expr (pe_km0 (pv 3) T.c_Machine T.m_Machine_beat G_Machine_beat (hr.mono (by decide))))
      (pss_cons (ps_if (pt_cmpR op_in_seq (pe_km0 (pv 3) T.c_Machine T.m_Machine_place G_Machine_place (hr.mono (by decide))) (pe_kn G_law_goals (hr.mono (by decide)) (by rfl) T.g_law_goals (pa_cons (pv 0) pa_nil)) (by rfl))
        (pss_one (ps_expr (pe_bm PySem.F.plainAttrs_list PySem.F.slot_list_append PySem.F.type_list_append mt_append (pv 7) (pa_cons (pe_tup (pa_cons pe_str (pa_cons (pv 4) (pa_cons (pe_km0 (pv 3) T.c_Machine T.m_Machine_place G_Machine_place (hr.mono (by decide))) pa_nil)))) pa_nil))))
        pss_nil)
      (pss_one (ps_ret (pe_op op_cat (pv 7) (pe_lst (pa_cons (pe_tup (pa_cons pe_str (pa_cons pe_int (pa_cons (pv 6) (pa_cons (pe_op op_mod (pe_op op_fdiv (pv 2) pe_int) pe_int) pa_nil))))) pa_nil)))))))))))), ?_⟩
    have N1 := run_pos rok
    have bt_ := mod_rg n (show (0 : Int) < (N : Nat) by omega)
    obtain ⟨B, hB⟩ : ∃ B : Nat, ((B : Nat) : Int) = n % N := ⟨(n % N).toNat, by omega⟩
    have hBN : B < N := by omega
    have cd : ∀ {x y : Int}, 0 < y → y < 1073741824 → CDiv x y := fun h1 h2 => ⟨h1, h2⟩
    have bx := mod_rg (n / 40) (show (0 : Int) < 32 by decide)
    have wd := mod_rg (n / 1280) (show (0 : Int) < 16 by decide)
    refine ⟨_, rfl, _, rfl, fun x dx hx hdx ne => ?_⟩
    have s0 : Same H (upd (upd H dx (.own x)) x (.ins (cM K) dx [])) := same_mk hx hdx ne
    refine ⟨x, dx, vp, vi, p, inp, rfl, upd_same, hp.same s0, pok, hi.same s0, iok, fun H1 fm f1 _ n2 hM => ⟨rfl, ?_⟩⟩
    obtain ⟨s1, nw1⟩ := new_mk hx hdx ne f1 n2
    refine ⟨_, rfl, _, rfl, _, rfl, vp, vi, p, inp, 40, rfl, hp.same s1, pok, hi.same s1, iok, by decide, by decide, fun H2 v s2 hv => ?_⟩
    rw [run_most rok (show ((N : Nat) : Int) ≤ 40 by omega)] at hv
    obtain ⟨ra, rt, rc, rfl, r1, r2, r3⟩ := hv
    rw [right_end rok, right_beats rok] at r1
    refine ⟨_, _, _, _, rfl, rfl, r1, atIn (x := V.int ((N : Nat) : Int)) (by decide) rfl, _, _, rfl, rfl, by show (0 : Int) < (N : Nat); omega, ?_⟩
    have s12 := s1.trans s2
    have hM2 := hM.same s2
    refine ⟨_, rfl, n % N, rfl, by omega, by omega, ?_⟩
    refine for_it walk_range (fun i σ H' => ∃ x5 fm, σ = [some vp, some vi, some (.int n), some (.ref x), some (.int (n % N)), x5, none, none] ∧ Mch K H' x p inp (itb p inp i ms0) fm ∧ Same H H' ∧ New fm H) ⟨none, fm, rfl, hM2, s12, nw1⟩ (fun _ _ _ _ _ => trivial) ?_ ?_
    · rintro i z σ Hx H3 hi2 ⟨x5, fm, rfl, hm, s3, nw⟩ ⟨rfl, rfl⟩
      have hi2 : i < B := by omega
      have g := good_itb (p := p) (inp := inp) pok iok i (good0 pok.lo)
      obtain ⟨d, fs, o, _, _, _, _, _, _, _, f_beat, _⟩ := mch_m hm
      refine ⟨_, rfl, x, d, fs, rfl, o, f_beat, x, p, inp, _, fm, rfl, hm, g, pok, iok, by rw [run_done rok i (by omega)]; omega, fun H4 fm4 hm4 f4 n4 => ?_⟩
      obtain ⟨s4, nw4⟩ := nw.step s3 f4 n4
      rw [← itb_succ] at hm4
      exact ⟨_, fm4, rfl, hm4, s4, nw4⟩
    · rintro σ H3 ⟨x5, fm, rfl, hm, s3, nw⟩
      rw [show (n % (N : Int)).toNat = B by omega] at hm
      have g := good_itb (p := p) (inp := inp) pok iok B (good0 pok.lo)
      obtain ⟨d, fs, o, _, _, _, _, f_place, f_boxes, _, f_beat, _⟩ := mch_m hm
      refine ⟨_, rfl, _, _, rfl, rfl, cd (by decide) (by decide), _, _, rfl, rfl, by show (0 : Int) < 32; decide, ?_⟩
      refine ⟨_, rfl, _, rfl, _, rfl, x, d, fs, rfl, o, f_boxes, x, p, inp, _, fm, rfl, hm, fun H4 t s4 ht => ?_⟩
      refine ⟨_, rfl, _, _, _, _, rfl, rfl, sq_tup ht, atI_get bx.1 (by rw [g.words.1]; exact bx.2), by show 4 ≤ sizeLine; decide, fun p1 hp1 => ?_⟩
      have s5 := same_new (o := .tup [V.str "box", .int (n % N), .int (n / 40 % 32), .int (getI (itb p inp B ms0).words (n / 40 % 32))]) hp1
      have k1 : RwAt K (upd H4 p1 (.tup [V.str "box", .int (n % N), .int (n / 40 % 32), .int (getI (itb p inp B ms0).words (n / 40 % 32))])) (.ref p1) (bxR (n % N) (n / 40 % 32) (getI (itb p inp B ms0).words (n / 40 % 32))) := ⟨p1, rfl, sq_new⟩
      have s35 := s4.trans s5
      have s05 := s3.trans s35
      have hm5 := hm.same s35
      generalize upd H4 p1 (.tup [V.str "box", .int (n % N), .int (n / 40 % 32), .int (getI (itb p inp B ms0).words (n / 40 % 32))]) = H5 at s5 k1 s35 s05 hm5
      refine ⟨_, rfl, _, rfl, vp, vi, p, inp, 40, rfl, hp.same s05, pok, hi.same s05, iok, by decide, by decide, fun H6 v s6 hv => ?_⟩
      rw [run_most rok (show ((N : Nat) : Int) ≤ 40 by omega)] at hv
      obtain ⟨ra, rt, rc, rfl, r1, r2, r3⟩ := hv
      rw [right_end rok, right_beats rok] at r1
      refine ⟨_, _, _, _, rfl, rfl, r1, atIn (x := V.int ((N : Nat) : Int)) (by decide) rfl, _, rfl, _, rfl, _, _, rfl, rfl, cd (by decide) (by decide), _, _, rfl, rfl, by show (0 : Int) < 16; decide, by show 4 ≤ sizeLine; decide, fun p2 hp2 => ?_⟩
      have s7 := same_new (o := .tup [V.str "box", .int ((N : Nat) : Int), .int (n / 40 % 32), .int (n / 1280 % 16)]) hp2
      have k2 : RwAt K (upd H6 p2 (.tup [V.str "box", .int ((N : Nat) : Int), .int (n / 40 % 32), .int (n / 1280 % 16)])) (.ref p2) (bxR ((N : Nat) : Int) (n / 40 % 32) (n / 1280 % 16)) := ⟨p2, rfl, sq_new⟩
      refine ⟨by show 2 ≤ sizeLine; decide, fun l hl => ?_⟩
      have s8 := s7.trans (same_new (o := .lst [V.ref p1, .ref p2]) hl)
      have s58 := s6.trans s8
      have s08 := s05.trans s58
      have hm8 := hm5.same s58
      have hl8 : (upd (upd H6 p2 (.tup [V.str "box", .int ((N : Nat) : Int), .int (n / 40 % 32), .int (n / 1280 % 16)])) l (.lst [V.ref p1, .ref p2])) l = some (.lst [V.ref p1, .ref p2]) := upd_same
      have pr8 : Paired (RwAt K (upd (upd H6 p2 (.tup [V.str "box", .int ((N : Nat) : Int), .int (n / 40 % 32), .int (n / 1280 % 16)])) l (.lst [V.ref p1, .ref p2]))) [V.ref p1, .ref p2] [bxR (n % N) (n / 40 % 32) (getI (itb p inp B ms0).words (n / 40 % 32)), bxR ((N : Nat) : Int) (n / 40 % 32) (n / 1280 % 16)] := .cons (k1.same s58) (.cons (k2.same (same_new hl)) .nil)
      have lfm : l ∉ fm := fun z => by
        obtain ⟨o, y, _⟩ := (hm5.same (s6.trans s7)).there l z
        rw [hl] at y; cases y
      have lH : H l = none := by
        cases e : H l with
        | none => rfl
        | some o => have := (s05.trans (s6.trans s7)) _ _ e; rw [hl] at this; cases this
      generalize upd (upd H6 p2 (.tup [V.str "box", .int ((N : Nat) : Int), .int (n / 40 % 32), .int (n / 1280 % 16)])) l (.lst [V.ref p1, .ref p2]) = H8 at s8 s58 s08 hm8 hl8 pr8
      obtain ⟨d8, fs8, o8, _, _, _, _, _, _, _, f_beat8, _⟩ := mch_m hm8
      refine ⟨_, rfl, x, d8, fs8, rfl, o8, f_beat8, x, p, inp, _, fm, rfl, hm8, g, pok, iok, by rw [run_done rok B (by omega)]; omega, fun H9 fm9 hm9 f9 n9 => ?_⟩
      obtain ⟨s9, nw9⟩ := nw.step s08 f9 n9
      have t9 := tl_frm hm8 f9
      have hl9 := f9 _ _ hl8 lfm
      have pr9 := Paired.mapP pr8 fun _ _ z => RwAt.tl z t9
      rw [← itb_succ] at hm9
      obtain ⟨d9, fs9, o9, _, _, _, _, f_place9, _⟩ := mch_m hm9
      have eB : (n % (N : Int)).toNat = B := by omega
      -- the end
      have fin : ∀ (Ha : Hp) (us : List V) (rs : List Rw), Same H Ha → Ha l = some (.lst us) → us.length ≤ 3 → Paired (RwAt K Ha) us rs → rs ++ [bxR 5000 (n / 40 % 32) (n / 1280 % 16)] = idL p inp N n →
          tRet (tOp rCat (tVar 7) (tLst (tCons (tTup (tCons (tC (.str "box")) (tCons (tC (.int 5000)) (tCons (tVar 6) (tCons (tOp (rI (fun _ j => 0 < j) fun i j => .int (i % j)) (tOp (rI CDiv fun i j => .int (i / j)) (tVar 2) (tC (.int 1280))) (tC (.int 16))) tNil))))) tNil))) { nx := fun _ H' => Q .non H', rt := Q } [some vp, some vi, some (.int n), some (.ref x), some (.int (n % N)), x5, some (.int (n / 40 % 32)), some (.ref l)] Ha := fun Ha us rs sa ha ul pr e => by
        refine ⟨_, rfl, _, rfl, _, rfl, _, _, rfl, rfl, cd (by decide) (by decide), _, _, rfl, rfl, by show (0 : Int) < 16; decide, by show 4 ≤ sizeLine; decide, fun p3 hp3 => ?_⟩
        have sb := same_new (o := .tup [V.str "box", .int 5000, .int (n / 40 % 32), .int (n / 1280 % 16)]) hp3
        refine ⟨by show 1 ≤ sizeLine; decide, fun l2 hl2 => ?_⟩
        have sc := sb.trans (same_new (o := .lst [V.ref p3]) hl2)
        have sz : 200000 ≤ sizeLine := by decide
        refine ⟨l, l2, us, _, rfl, rfl, sc _ _ ha, upd_same, by show us.length + 1 ≤ sizeLine; omega, fun l3 hl3 => ?_⟩
        have sd := sc.trans (same_new (o := .lst (us ++ [V.ref p3])) hl3)
        refine q _ l3 _ (sa.trans sd) upd_same ?_
        rw [← e]
        exact rws_append (Paired.mapP pr fun _ _ z => z.same sd) (.cons (RwAt.same ⟨p3, rfl, sq_new⟩ ((same_new (o := .lst [V.ref p3]) hl2).trans (same_new hl3))) .nil)
      refine ⟨_, rfl, x, d9, fs9, rfl, o9, f_place9, x, p, inp, _, fm9, rfl, hm9, ?_⟩
      refine ⟨_, rfl, vp, p, rfl, hp.same s9, pok, few, fun Ha lg sa _ hlg => ?_⟩
      refine ⟨lg, _, rfl, .inl (sq_lst hlg), rfl, flat_int _, _, rfl, ?_⟩
      rw [if_neg (by decide), inV_int]
      have hla := sa _ _ hl9
      have pra := Paired.mapP pr9 fun _ _ z => RwAt.same z sa
      refine ite2 (fun e => ?_) (fun e => ?_)
      · have e : (itb p inp (B + 1) ms0).at_ ∈ pls p := by simpa using e
        refine ⟨_, rfl, .inl ⟨rfl, _, sq_lst hla⟩, _, rfl, _, rfl, x, d9, fs9, rfl, sa _ _ o9, f_place9, x, p, inp, _, fm9, rfl, hm9.same sa, by show 3 ≤ sizeLine; decide, fun p4 hp4 => ?_⟩
        have sb := same_new (o := .tup [V.str "way", .int (n % N), .int (itb p inp (B + 1) ms0).at_]) hp4
        refine ⟨l, _, _, rfl, rfl, sb _ _ hla, by show 2 < sizeLine; decide, ?_⟩
        have tl := tl_lst (K := K) (o := .lst ([V.ref p1, .ref p2] ++ [V.ref p4])) (sb _ _ hla)
        refine fin _ ([V.ref p1, .ref p2] ++ [V.ref p4]) _ ?_ upd_same (by simp) (rws_append (Paired.mapP pra fun _ _ z => (RwAt.same z sb).tl tl) (.cons (RwAt.tl ⟨p4, rfl, sq_new⟩ tl : RwAt K _ (.ref p4) (wyR (n % N) (itb p inp (B + 1) ms0).at_)) .nil)) ?_
        · exact fun b o z => by
            rw [upd_ne (ne_of_none z lH)]
            exact sb _ _ (sa _ _ (s9 _ _ z))
        · unfold idL
          rw [eB, if_pos e]
          simp
      · have e : (itb p inp (B + 1) ms0).at_ ∉ pls p := by simpa using e
        refine fin _ _ _ (s9.trans sa) hla (by simp) pra ?_
        unfold idL
        rw [eB, if_neg e]
        simp
end

end Sw
/-! SwM4 -/
namespace Sw
set_option Elab.async false
set_option linter.all false
set_option maxRecDepth 100000
set_option maxHeartbeats 4000000
open PySem PySem.Spec PyProof.Rows L2
/-! ### the plain law -/
section
variable {p : List Rw} {inp : List Int} {s : Rw} {N : Nat}
/-- while each beat is a plain one, it stands as the right one -/
theorem itw_plain (r : RunOk p inp N) : ∀ (b m : Nat), b ≤ N → (∀ j, j < b → beatW p inp s (itb p inp j ms0) = bt p inp (itb p inp j ms0)) → itw p inp s (b + m) ms0 = itw p inp s m (itb p inp b ms0)
  | 0, m, _, _ => by rw [Nat.zero_add]; rfl
  | b + 1, m, hb, h => by
    rw [show b + 1 + m = b + (m + 1) by omega, itw_plain r b (m + 1) (by omega) fun j hj => h j (by omega), itw_succ, if_pos (r.none b (by omega)), h b (by omega), itb_succ]
theorem go_from (r : RunOk p inp N) {b : Nat} (hb : b ≤ N) (e : bOf s = b) {most : Int} (hm : (N : Int) ≤ most) : goW p inp s most ms0 = goW p inp s most (itb p inp b ms0) := by
  unfold goW
  rw [run_done r b hb, show (most - ms0.done).toNat = b + (most - (b : Int)).toNat by show (most - 0).toNat = _; omega]
  refine itw_plain r b _ hb fun j hj => beatW_not ?_
  rw [run_done r j (by omega), e]
  omega
theorem itw_over {st : MS} (h : st.over ≠ none) : ∀ n, itw p inp s n st = st
  | 0 => rfl
  | n + 1 => by rw [itw_succ, if_neg h]
/-- a slip that does nothing -/
theorem go_idle (r : RunOk p inp N) (h : ∀ j, j < N → beatW p inp s (itb p inp j ms0) = bt p inp (itb p inp j ms0)) {most : Int} (hm : (N : Int) ≤ most) : outc (goW p inp s most ms0) = rightF p inp N := by
  unfold goW rightF
  rw [show (most - ms0.done).toNat = N + (most - (N : Int)).toNat by show (most - 0).toNat = _; omega, itw_plain r N _ (Nat.le_refl _) h, itw_over (by rw [r.over]; simp)]
theorem put_get {l : List Int} {i : Int} (h0 : 0 ≤ i) (h : i < l.length) : putI l i (getI l i) = l := by
  unfold putI getI
  have hl : i.toNat < l.length := by omega
  rw [List.getD_eq_getElem?_getD, List.getElem?_eq_getElem hl]
  simp
theorem idle_box (r : RunOk p inp N) (ok : PgOk p) (hi : InOk inp) {B : Nat} {x : Int} (x0 : 0 ≤ x) (x1 : x < 32) : ∀ j, j < N → beatW p inp (bxR (B : Int) x (getI (itb p inp B ms0).words x)) (itb p inp j ms0) = bt p inp (itb p inp j ms0) := fun j hj => by
  by_cases e : j = B
  · subst e
    have g := good_itb (p := p) (inp := inp) ok hi j (good0 ok.lo)
    unfold beatW
    rw [if_pos (show (bxR (j : Int) x (getI (itb p inp j ms0).words x)).1 = "box" from rfl)]
    rw [show (bxR (j : Int) x (getI (itb p inp j ms0).words x)).2.getD 1 0 = x from rfl, show (bxR (j : Int) x (getI (itb p inp j ms0).words x)).2.getD 2 0 = getI (itb p inp j ms0).words x from rfl, put_get x0 (by rw [g.words.1]; exact x1)]
    split <;> rfl
  · refine beatW_not ?_
    rw [run_done r j (by omega)]
    show (j : Int) ≠ (B : Int)
    omega
theorem idle_late (r : RunOk p inp N) {b x z : Int} (hb : (N : Int) ≤ b) : ∀ j, j < N → beatW p inp (bxR b x z) (itb p inp j ms0) = bt p inp (itb p inp j ms0) := fun j hj => by
  refine beatW_not ?_
  rw [run_done r j (by omega)]
  show (j : Int) ≠ b
  omega
theorem idle_way (r : RunOk p inp N) {B : Nat} : ∀ j, j < N → beatW p inp (wyR (B : Int) (itb p inp (B + 1) ms0).at_) (itb p inp j ms0) = bt p inp (itb p inp j ms0) := fun j hj => by
  by_cases e : j = B
  · subst e
    unfold beatW
    rw [if_neg (show ¬ (wyR (j : Int) (itb p inp (j + 1) ms0).at_).1 = "box" by show ¬ ("way" : Str) = "box"; decide)]
    rw [show (wyR (j : Int) (itb p inp (j + 1) ms0).at_).2.getD 1 0 = (itb p inp (j + 1) ms0).at_ from rfl, itb_succ]
    split <;> rfl
  · refine beatW_not ?_
    rw [run_done r j (by omega)]
    show (j : Int) ≠ (B : Int)
    omega
theorem idle_all (r : RunOk p inp N) (ok : PgOk p) (hi : InOk inp) (n40 : N ≤ 40) {n : Int} (n0 : 0 ≤ n) {t : Rw} (h : t ∈ idL p inp N n) : SlOk p t ∧ ∀ most : Int, (N : Int) ≤ most → outc (goW p inp t most ms0) = rightF p inp N := by
  have N1 := run_pos r
  have bt_ := mod_rg n (show (0 : Int) < (N : Nat) by omega)
  have bx := mod_rg (n / 40) (show (0 : Int) < 32 by decide)
  have wd := mod_rg (n / 1280) (show (0 : Int) < 16 by decide)
  obtain ⟨B, hB⟩ : ∃ B : Nat, n % N = ((B : Nat) : Int) := ⟨(n % N).toNat, by omega⟩
  have g := good_itb (p := p) (inp := inp) ok hi B (good0 ok.lo)
  have gw := getI_w g.words.2 (n / 40 % 32)
  unfold idL at h
  rw [hB, show ((B : Nat) : Int).toNat = B by omega] at h
  rcases List.mem_append.mp h with h | h
  · rcases List.mem_cons.mp h with h | h
    · subst h
      exact ⟨.box _ _ _ (by omega) (by omega) bx.1 (by omega) gw.1 gw.2, fun most hm => go_idle r (idle_box r ok hi bx.1 bx.2) hm⟩
    · rw [List.mem_singleton.mp h]
      exact ⟨.box _ _ _ (by omega) (by omega) bx.1 (by omega) wd.1 (by omega), fun most hm => go_idle r (idle_late r (Int.le_refl _)) hm⟩
  · rcases List.mem_append.mp h with h | h
    · split at h
      · rename_i hp
        rw [List.mem_singleton.mp h]
        exact ⟨.way _ _ (by omega) (by omega) hp, fun most hm => go_idle r (idle_way r) hm⟩
      · simp at h
    · rw [List.mem_singleton.mp h]
      exact ⟨.box _ _ _ (by decide) (by decide) bx.1 (by omega) wd.1 (by omega), fun most hm => go_idle r (idle_late r (by omega)) hm⟩
/-- the slip is judged the same from the stand at its beat as from the beginning -/
theorem jd_judged (r : RunOk p inp N) (ok : PgOk p) (hN : N ≤ 5000) {t : Rw} (h : t ∈ slL p inp N) : wordF (rightF p inp N) (outc (goW p inp t (mostF N) ms0)) = jdF p inp N t := by
  obtain ⟨_, b, eb, hb⟩ := slL_ok ok hN h
  unfold jdF
  rw [go_from r (b := b) (by omega) eb (by unfold mostF; omega), eb]
  rfl
theorem cw_sum (js : List (Rw × Str)) (h : ∀ q ∈ js, q.2 = "mended" ∨ q.2 = "told" ∨ q.2 = "still" ∨ q.2 = "wrong") : cw "mended" js + cw "told" js + cw "still" js + cw "wrong" js = js.length := by
  induction js with
  | nil => rfl
  | cons q js ih =>
    have := ih fun x hx => h x (.tail _ hx)
    have e : ∀ x : Str, cw x (q :: js) = cw x js + (if q.2 = x then 1 else 0) := fun x => by
      unfold cw
      rw [List.countP_cons]
      by_cases h : q.2 = x <;> simp [h]
    rw [e, e, e, e, List.length_cons]
    generalize cw "mended" js = a at *
    generalize cw "told" js = b at *
    generalize cw "still" js = c at *
    generalize cw "wrong" js = d at *
    have t : ∀ {x y : Str}, x = y → (if x = y then 1 else 0 : Nat) = 1 := fun h => if_pos h
    have f : ∀ {x y : Str}, x ≠ y → (if x = y then 1 else 0 : Nat) = 0 := fun h => if_neg h
    rcases h q (.head _) with h | h | h | h <;> rw [h]
    · rw [t rfl, f (by decide), f (by decide), f (by decide)]; omega
    · rw [f (by decide), t rfl, f (by decide), f (by decide)]; omega
    · rw [f (by decide), f (by decide), t rfl, f (by decide)]; omega
    · rw [f (by decide), f (by decide), f (by decide), t rfl]; omega
theorem fst_nil {x : Str} {js : List (Rw × Str)} : fstW x js = [] ↔ cw x js = 0 := by
  unfold fstW cw
  rw [List.countP_eq_zero, List.filterMap_eq_nil_iff]
  constructor
  · intro h q hq e
    have := h q hq
    rw [if_pos (by simpa using e)] at this
    cases this
  · intro h q hq
    rw [if_neg (by simpa using h q hq)]
/-- the worst word -/
def worstW (js : List (Rw × Str)) : Option Str := if 0 < cw "wrong" js then some "wrong" else if 0 < cw "still" js then some "still" else none
theorem fw_word (js : List (Rw × Str)) : match fwF js with
    | none => worstW js = none
    | some s => ∃ x, worstW js = some x ∧ (s, x) ∈ js := by
  unfold fwF worstW
  cases e : fstW "wrong" js with
  | nil =>
    have h0 := fst_nil.mp e
    rw [h0, if_neg (by omega)]
    cases e2 : fstW "still" js with
    | nil =>
      have h1 := fst_nil.mp e2
      simp [h1]
    | cons a l =>
      have h1 : cw "still" js ≠ 0 := fun z => by rw [fst_nil.mpr z] at e2; cases e2
      rw [if_pos (by omega)]
      exact ⟨_, rfl, fst_mem (by rw [e2]; exact .head _)⟩
  | cons a l =>
    have h1 : cw "wrong" js ≠ 0 := fun z => by rw [fst_nil.mpr z] at e; cases e
    rw [if_pos (by omega)]
    exact ⟨_, rfl, fst_mem (by rw [e]; exact .head _)⟩
end

end Sw
/-! SwM5 -/
namespace Sw
set_option Elab.async false
set_option linter.all false
set_option maxRecDepth 100000
set_option maxHeartbeats 4000000
open PySem PySem.Spec PyProof.Rows L2
theorem flat_nodup {α β : Type} (f : α → List β) : ∀ {l : List α}, l.Nodup → (∀ x ∈ l, (f x).Nodup) → (∀ x ∈ l, ∀ y ∈ l, x ≠ y → ∀ z ∈ f x, z ∉ f y) → (l.flatMap f).Nodup
  | [], _, _, _ => by simp
  | x :: l, hn, h1, h2 => by
    rw [List.flatMap_cons]
    have n := List.nodup_cons.mp hn
    refine List.nodup_append.mpr ⟨h1 x (.head _), flat_nodup f n.2 (fun y hy => h1 y (.tail _ hy)) (fun y hy z hz => h2 y (.tail _ hy) z (.tail _ hz)), fun a ha b hb e => ?_⟩
    subst e
    obtain ⟨y, hy, hb⟩ := List.mem_flatMap.mp hb
    exact h2 x (.head _) y (.tail _ hy) (fun e => n.1 (e ▸ hy)) a ha hb
theorem fm_nodup {α β : Type} (g : α → Option β) (hg : ∀ x y z, g x = some z → g y = some z → x = y) : ∀ {l : List α}, l.Nodup → (l.filterMap g).Nodup
  | [], _ => by simp
  | x :: l, hn => by
    have n := List.nodup_cons.mp hn
    rw [List.filterMap_cons]
    cases e : g x with
    | none => exact fm_nodup g hg n.2
    | some z =>
      refine List.nodup_cons.mpr ⟨fun hz => ?_, fm_nodup g hg n.2⟩
      obtain ⟨y, hy, e2⟩ := List.mem_filterMap.mp hz
      exact n.1 (hg x y z e e2 ▸ hy)
theorem lt_nodup {l : List Int} (h : l.Pairwise (· < ·)) : l.Nodup := List.Pairwise.imp (fun h e => by omega) h
section
variable {p : List Rw} {inp : List Int} {N : Nat}
theorem box_inj {a b c a' b' c' : Int} (h : bxR a b c = bxR a' b' c') : a = a' ∧ b = b' ∧ c = c' := by
  unfold bxR at h
  injection h with _ h
  injection h with h1 h
  injection h with h2 h
  injection h with h3 _
  exact ⟨h1, h2, h3⟩
theorem way_inj {a b a' b' : Int} (h : wyR a b = wyR a' b') : a = a' ∧ b = b' := by
  unfold wyR at h
  injection h with _ h
  injection h with h1 h
  injection h with h2 _
  exact ⟨h1, h2⟩
theorem boxSl_mem {ws : List Int} {b x : Int} {s : Rw} (h : s ∈ boxSl ws b x) : ∃ z : Int, s = bxR b x z := by
  unfold boxSl at h
  obtain ⟨z, _, h⟩ := List.mem_filterMap.mp h
  split at h
  · injection h with h; exact ⟨_, h.symm⟩
  · cases h
theorem boxesSl_mem {ws : List Int} {b : Int} {s : Rw} (h : s ∈ boxesSl p ws b) : ∃ x z : Int, s = bxR b x z := by
  unfold boxesSl at h
  obtain ⟨x, _, h⟩ := List.mem_flatMap.mp h
  obtain ⟨z, e⟩ := boxSl_mem h
  exact ⟨x, z, e⟩
theorem boxesSl_nodup {ws : List Int} {b : Int} : (boxesSl p ws b).Nodup := by
  refine flat_nodup _ (lt_nodup (filt_lt _ 32).1) (fun x _ => ?_) fun x _ y _ ne s hs ht => ?_
  · refine fm_nodup _ (fun z z' s h1 h2 => ?_) List.nodup_range
    split at h1
    · split at h2
      · injection h1 with h1
        injection h2 with h2
        have := (box_inj (h1.trans h2.symm)).2.2
        omega
      · cases h2
    · cases h1
  · obtain ⟨z, e⟩ := boxSl_mem hs
    obtain ⟨z', e'⟩ := boxSl_mem ht
    exact ne (box_inj (e.symm.trans e')).2.1
theorem waySl_mem {nx b : Int} {s : Rw} (h : s ∈ waySl p nx b) : ∃ a : Int, s = wyR b a := by
  unfold waySl at h
  obtain ⟨z, _, h⟩ := List.mem_filterMap.mp h
  split at h
  · injection h with h; exact ⟨_, h.symm⟩
  · cases h
theorem waySl_nodup {nx b : Int} : (waySl p nx b).Nodup := by
  refine fm_nodup _ (fun z z' s h1 h2 => ?_) (lt_nodup (filt_lt _ 400).1)
  split at h1
  · split at h2
    · injection h1 with h1
      injection h2 with h2
      exact (way_inj (h1.trans h2.symm)).2
    · cases h2
  · cases h1
theorem slL_nodup : (slL p inp N).Nodup := by
  unfold slL
  have hw : ∀ b : Nat, ∀ s, s ∈ (if isWay (rowAt p (itb p inp b ms0).at_) = true then waySl p (itb p inp (b + 1) ms0).at_ ((b : Nat) : Int) else []) → ∃ a : Int, s = wyR ((b : Nat) : Int) a := fun b s h => by
    split at h
    · exact waySl_mem h
    · simp at h
  refine List.nodup_append.mpr ⟨?_, ?_, fun a ha b hb e => ?_⟩
  · refine flat_nodup _ List.nodup_range (fun _ _ => boxesSl_nodup) fun x _ y _ ne s hs ht => ?_
    obtain ⟨_, _, e⟩ := boxesSl_mem hs
    obtain ⟨_, _, e'⟩ := boxesSl_mem ht
    have := (box_inj (e.symm.trans e')).1
    omega
  · refine flat_nodup _ List.nodup_range (fun b _ => ?_) fun x _ y _ ne s hs ht => ?_
    · split
      · exact waySl_nodup
      · exact List.nodup_nil
    · obtain ⟨_, e⟩ := hw x s hs
      obtain ⟨_, e'⟩ := hw y s ht
      have := (way_inj (e.symm.trans e')).1
      omega
  · subst e
    obtain ⟨b1, _, h1⟩ := List.mem_flatMap.mp ha
    obtain ⟨_, _, e1⟩ := boxesSl_mem h1
    obtain ⟨b2, _, h2⟩ := List.mem_flatMap.mp hb
    obtain ⟨_, e2⟩ := hw b2 _ h2
    rw [e1] at e2
    unfold bxR wyR at e2
    injection e2 with e2 _
    exact absurd e2 (by decide)
/-- how many there are -/
theorem pls_few (ok : PgOk p) : (pls p).length ≤ p.length := by
  have := nodup_sub (lt_nodup (filt_lt _ 400).1 : (pls p).Nodup) (m := p.filterMap lds) fun x hx => by
    obtain ⟨r, hr, e⟩ := (mem_pls ok x).mp hx
    exact List.mem_filterMap.mpr ⟨r, hr, e⟩
  exact Nat.le_trans this (List.length_filterMap_le _ _)
theorem slL_few (ok : PgOk p) : (slL p inp N).length ≤ 16 * ((bxs p).length * N) + (N - 1) * p.length := by
  unfold slL
  rw [List.length_append]
  have h1 : (slB p inp N).length ≤ (List.range N).length * ((bxs p).length * 16) := flat_len _ _ _ fun b _ => flat_len _ 16 (bxs p) fun x _ => boxSl_len _ _ _
  have h2 : (slW p inp (N - 1)).length ≤ (List.range (N - 1)).length * p.length := flat_len _ _ _ fun b _ => by
    show (if isWay (rowAt p (itb p inp b ms0).at_) = true then waySl p (itb p inp (b + 1) ms0).at_ ((b : Nat) : Int) else []).length ≤ p.length
    split
    · exact Nat.le_trans (List.length_filterMap_le _ _) (pls_few ok)
    · simp
  rw [List.length_range] at h1 h2
  have e : N * ((bxs p).length * 16) = 16 * ((bxs p).length * N) := by rw [Nat.mul_comm N, Nat.mul_assoc, Nat.mul_comm 16 N, ← Nat.mul_assoc, Nat.mul_comm 16]
  omega
end

end Sw
/-! SwG -/
namespace Sw
set_option Elab.async false
set_option linter.all false
set_option maxRecDepth 100000
set_option maxHeartbeats 4000000
open PySem PySem.Spec PyProof.Rows L2
structure FnOkG (P : Program) (w : World) (K : PySem.W.Frag) (mg : Str → Option Value) (base : Heap) (CX : CXT) (k : Nat) (f : Addr) (fd : FuncData) (ps : List Str) (sp : Sp) : Prop where
  len : ∀ vs H Q E, sp vs H Q E → vs.length = ps.length
  run : ∀ (A : Around) (outer : List Env) (s : Shared) (H : Hp) (args : Args) (us : List Value) (vs : List V) (Q : VK) (E : XK), Room k A → A.guards = some [] → Env0 P w K mg base A outer s H → BindsTo s fd args (ps.zip us) → Vals vs us → sp vs H Q E →
    codeAny (model P w) A (.call (.ref f) args) (CR CX outer P w H s Q E) s
theorem fn_ofG {CX : CXT} {P : Program} {w : World} {K : PySem.W.Frag} {mg : Str → Option Value} {base : Heap} {k : Nat} {f : Addr} {name qual : Str} {params : Arguments} {body : List Stmt} {scope : Scope} {dV kV doc pm cdv ct oc : Value} {an od : Option Addr}
    {osl : Array (Option Value)} {N ps : List Str} {sp : Sp} (lk : K.lookup f = some ⟨oc, od, .func (PySem.W.fnOf name qual params body scope dV kV doc pm an cdv ct), osl⟩) (hcd : PySem.W.codeIn K cdv qual = true) (S : FnScope N ps scope)
    (len : ∀ vs H Q E, sp vs H Q E → vs.length = ps.length)
    (hbody : ∀ (A : Around) (outer : List Env) (s : Shared) (H : Hp) (vs : List V) (Q : VK) (E : XK), Room k (A.deeper (envOfC qual scope s.heap.objs.size f cdv)) → (A.deeper (envOfC qual scope s.heap.objs.size f cdv)).guards = some [] → sp vs H Q E →
      ∃ t, PSs (cxOf CX P w K mg base N qual scope f cdv A outer s H E) body t ∧ t { nx := fun _ H' => Q .non H', rt := Q } (start N vs) H) :
    FnOkG P w K mg base CX (k + 1) f (PySem.W.fnOf name qual params body scope dV kV doc pm an cdv ct) ps sp := by
  refine ⟨len, fun A outer s H args us vs Q E hr hg e0 hb r hsp => ?_⟩
  have hl := len _ _ _ _ hsp
  have KX : K.In s.heap := e0.mod.kin.keeps fun b o e => (e0.bs b o e).1
  have lim : s.heap.NoLimit := e0.mod.nolimit.keeps fun b o e => (e0.bs b o e).1
  have hkind : ∀ y ∈ ps.zip us, scope.names.lookup y.1 = some .local ∨ (scope.names.lookup y.1 = some .cell ∧ ((cellsFrom (s.heap.objs.size + 1) scope.names []).lookup y.1).isSome = true) := fun ⟨n, v⟩ hy => by
    rcases S.par n (List.of_mem_zip hy).1 with q | q
    · exact .inl q
    · exact .inr ⟨q, PySem.W.cellsFrom_some _ _ _ (.inl q)⟩
  refine codeAny_call_function hr.depth (KX _ _ lk) rfl S.co S.gen rfl (PySem.W.codeRec_of KX hcd) (hb _ _ _ _ ?_)
  refine wpAny_newFunctionEnv_cells S.kind hkind fun env he s1 x => ?_
  subst he
  refine ⟨lim.keeps x.toInCall.keep, codeAny_func ?_⟩
  obtain ⟨t, ht, hq⟩ := hbody A outer s H vs Q E (hr.deeper _) hg hsp
  have I : Inv (cxOf CX P w K mg base N qual scope f cdv A outer s H E) [] (start N vs) H s1 := inv_start S hr.hd e0 hl r x
  refine wpAny_mono (ht.run [] s1 (start N vs) H _ I hq) (fun fl s' hs => ?_) fun e s' hs => hs
  have fin : ∀ {σ' : L2.St} {H' : Hp} {v : V} {u : Value}, Inv (cxOf CX P w K mg base N qual scope f cdv A outer s H E) [] σ' H' s' → RelV v u → Q v H' → CE outer P w H s Q u s' :=
    fun {σ' H' v u} J rv q => ⟨v, H', J.os, J.bare, J.base, J.hok, rv, q⟩
  cases fl with
  | ret u =>
    obtain ⟨v, σ', H', J, rv, q⟩ := hs
    exact fin J rv q
  | next =>
    obtain ⟨σ', H', J, q⟩ := hs
    exact fin (v := V.non) (u := Value.none) J rfl q
  | brk =>
    obtain ⟨_, _, _, q⟩ := hs
    exact False.elim q
  | cont =>
    obtain ⟨_, _, _, q⟩ := hs
    exact False.elim q
section
variable {X : Cx} {CX : CXT} {k : Nat} {f : Addr} {fd : FuncData} {ps : List Str} {sp : Sp} {dvs : List V} {ds : List Value} {E : XK} {x : Str} {p pos : Pos} {e : Expr} {es : List Expr} {t : TA}
theorem run_fnG {pins : List (Addr × Obj)} {σ : L2.St} {H : Hp} {s : Shared} {Q : VK} {us : List Value} {vs : List V} (F : FnOkG X.prog X.w X.K X.mg X.base CX k f fd ps sp) (hr : Room k X.A) (hG : X.A.guards = some []) (hb : Binds X.K fd ps ds) (hd : Vals dvs ds) (hx : Passes CX X E)
    (I : Inv X pins σ H s) (r : Vals vs us) (h : sp (vs ++ dvs) H Q E) : wpAny (model X.prog X.w) X.A (call (.ref f) us) (EP X pins σ Q) X.xe s := by
  have r2 : Vals (vs ++ dvs) (us ++ ds) := r.append hd
  have hl : (us ++ ds).length = ps.length := by rw [← r2.length]; exact F.len _ _ _ _ h
  refine wpAny_call (codeAny_mono (F.run X.A X.stack s H ⟨us, []⟩ (us ++ ds) (vs ++ dvs) Q E hr hG I.env0 (hb s us I.kIn hl) r2 h) fun r s' hq => ?_)
  cases r with
  | error e => exact hx pins σ H s e s' I hq
  | ok fl =>
    cases fl with
    | ret u => exact I.after hq
    | next => exact False.elim hq
    | brk => exact False.elim hq
    | cont => exact False.elim hq
theorem pe_callG (F : FnOkG X.prog X.w X.K X.mg X.base CX k f fd ps sp) (hr : Room k X.A) (hG : X.A.guards = some []) (hg : Gl X x) (hm : X.mg x = some (.ref f)) (hk : PySem.W.keepIn X.K (.ref f) = true) (hb : Binds X.K fd ps ds) (hd : Vals dvs ds) (hx : Passes CX X E)
    (ha : PA X (e :: es) t) (hdb : (x == ("__debug__" : Str)) = false := by decide) (he : starEach (e :: es) X.env = (false, eval e X.env) :: starEach es X.env := by rfl) (hpl : (backTo pos (starEach es X.env)).any (·.1) = false := by rfl) :
    PE X (.Call (.Name x p) (e :: es) [] pos) (tCall sp dvs E t) := by
  refine ⟨fun pins s σ H Q I h => ?_⟩
  refine wpAny_Call_Name_kw (ld_glob I hg hm ?_ hdb)
  refine PySem.W.callWith_K (h₀ := X.base) I.ok.mod.kin hk (thn (ha.run pos pins s σ H _ I h) fun us s1 ⟨vs, H1, I1, r, q⟩ => ⟨I1.kIn, ?_⟩) he hpl
  exact run_fnG F hr hG hb hd hx I1 r q
/-- repr of a tuple of plain data -/
def rReprD (K : PySem.W.Frag) : List V → Hp → VK → Prop := fun xs H Q => ∃ (a : Addr) (d : PyData), xs = [.ref a] ∧ Dp K H (.ref a) d ∧ d.showable = true ∧ d.hasDict = false ∧ d.depth ≤ 40 ∧ d.shown.length ≤ sizeLine ∧ Q (.str d.shown) H
theorem call_reprD (hr : Room k X.A) (hG : X.A.guards = some []) : CallR X (.builtin "repr") (rReprD X.K) := by
  intro pins s σ H xs us Q I r h
  obtain ⟨a, d, rfl, hd, sh, nd, dp, sz, q⟩ := h
  cases r with
  | cons r1 r2 =>
    cases r2
    rename_i u
    obtain rfl : u = .ref a := r1
    obtain ⟨as, rd⟩ := Dp.reads I d _ _ hd rfl
    refine PySem.repr_of_reads' rd sh (fun e => by rw [nd] at e; cases e) hG (by have := hr.un; omega) (fun b o e => e) (fun h' u tk hk => ?_) sz
    exact ⟨.str d.shown, H, I.kept hk, ⟨_, rfl⟩, q⟩
end

end Sw
/-! SwS1 -/
namespace Sw
set_option Elab.async false
set_option linter.all false
set_option maxRecDepth 100000
set_option maxHeartbeats 4000000
open PySem PySem.Spec PyProof.Rows L2
/-! ### the round of i -> 5 i + 1 for every power of two -/
def orb : Nat → Nat
  | 0 => 0
  | b + 1 => 5 * orb b + 1
theorem orb_pow : ∀ b, 5 ^ b = 4 * orb b + 1
  | 0 => rfl
  | b + 1 => by
    rw [Nat.pow_succ, orb_pow b]
    show (4 * orb b + 1) * 5 = 4 * (5 * orb b + 1) + 1
    omega
theorem orb_add (a : Nat) : ∀ b, orb (a + b) = 5 ^ b * orb a + orb b
  | 0 => by rw [Nat.add_zero, Nat.pow_zero, Nat.one_mul]; rfl
  | b + 1 => by
    show 5 * orb (a + b) + 1 = 5 ^ (b + 1) * orb a + (5 * orb b + 1)
    rw [orb_add a b, Nat.pow_succ, Nat.mul_add, Nat.mul_comm (5 ^ b) 5, Nat.mul_assoc]
    omega
theorem orb_two : ∀ k, ∃ q, orb (2 ^ k) = 2 ^ k * (2 * q + 1)
  | 0 => ⟨0, rfl⟩
  | k + 1 => by
    obtain ⟨q, e⟩ := orb_two k
    have e1 : orb (2 ^ (k + 1)) = 2 * (orb (2 ^ k) * (2 * orb (2 ^ k) + 1)) := by
      have h : 2 ^ (k + 1) = 2 ^ k + 2 ^ k := by rw [Nat.pow_succ]; omega
      rw [h, orb_add, orb_pow]
      generalize orb (2 ^ k) = u
      rw [Nat.add_mul, Nat.mul_add, Nat.mul_one, Nat.mul_assoc, Nat.mul_left_comm u 2 u]
      omega
    refine ⟨q * (2 * orb (2 ^ k) + 1) + orb (2 ^ k), ?_⟩
    rw [e1]
    generalize hv : 2 * orb (2 ^ k) + 1 = v
    rw [e, Nat.pow_succ, Nat.mul_comm (2 ^ k) 2, Nat.mul_assoc, Nat.mul_assoc]
    have h2 : (2 * q + 1) * v = 2 * (q * v + 2 ^ k * (2 * q + 1)) + 1 := by
      rw [← e, Nat.add_mul, Nat.mul_assoc, Nat.one_mul]
      omega
    rw [h2]
theorem mod_two {P a r : Nat} (hr : r < P) : (P * a + r) % (2 * P) = P * (a % 2) + r := by
  have e : P * a + r = 2 * P * (a / 2) + (P * (a % 2) + r) := by
    have h := Nat.div_add_mod a 2
    rw [← Nat.add_assoc, Nat.mul_comm 2 P, Nat.mul_assoc, ← Nat.mul_add, h]
  have hl : P * (a % 2) + r < 2 * P := by
    have : P * (a % 2) ≤ P * 1 := Nat.mul_le_mul_left _ (by omega)
    omega
  rw [e, Nat.mul_add_mod, Nat.mod_eq_of_lt hl]
theorem orb_step (P o n : Nat) : (4 * (P * o) + 1) * n + P * o = P * (o * (4 * n + 1)) + n := by
  have h4 : 4 * (P * o) * n = P * (o * (4 * n)) := by ac_rfl
  have h5 : P * (o * (4 * n + 1)) = P * (o * (4 * n)) + P * o := by rw [Nat.mul_add o, Nat.mul_one, Nat.mul_add P]
  rw [Nat.add_mul, Nat.one_mul, h4, h5]
  omega
theorem par_flip {a b z : Nat} (h : ¬ a % 2 = b % 2) (hz : z % 2 = 1) : (a + z) % 2 = b % 2 := by omega
theorem orb_all : ∀ (k j : Nat), ∃ b, b < 2 ^ k ∧ orb b % 2 ^ k = j % 2 ^ k
  | 0, j => ⟨0, Nat.one_pos, by rw [Nat.pow_zero, Nat.mod_one, Nat.mod_one]⟩
  | k + 1, j => by
    obtain ⟨b, hb, e⟩ := orb_all k j
    have hp : 0 < 2 ^ k := Nat.pow_pos (by decide)
    have h2 : 2 ^ (k + 1) = 2 * 2 ^ k := by rw [Nat.pow_succ, Nat.mul_comm]
    obtain ⟨q, hq⟩ := orb_two k
    have hr : j % 2 ^ k < 2 ^ k := Nat.mod_lt _ hp
    have ej : j = 2 ^ k * (j / 2 ^ k) + j % 2 ^ k := (Nat.div_add_mod j _).symm
    have eb : orb b = 2 ^ k * (orb b / 2 ^ k) + j % 2 ^ k := by rw [← e]; exact (Nat.div_add_mod _ _).symm
    have mj : j % (2 * 2 ^ k) = 2 ^ k * (j / 2 ^ k % 2) + j % 2 ^ k := by
      have := mod_two (a := j / 2 ^ k) hr
      rw [← ej] at this
      exact this
    have mb : orb b % (2 * 2 ^ k) = 2 ^ k * (orb b / 2 ^ k % 2) + j % 2 ^ k := by
      have := mod_two (a := orb b / 2 ^ k) hr
      rw [← eb] at this
      exact this
    rw [h2]
    rcases Classical.em (orb b / 2 ^ k % 2 = j / 2 ^ k % 2) with c | c
    · exact ⟨b, by omega, by rw [mj, mb, c]⟩
    · refine ⟨b + 2 ^ k, by omega, ?_⟩
      have es : orb (b + 2 ^ k) = 2 ^ k * (orb b / 2 ^ k + (2 * q + 1) * (4 * orb b + 1)) + j % 2 ^ k := by
        rw [orb_add, orb_pow, hq]
        rw [orb_step]
        generalize (2 * q + 1) * (4 * orb b + 1) = z
        rw [Nat.mul_add, Nat.add_right_comm, ← eb, Nat.add_comm]
      rw [mj, es, mod_two hr]
      have h5 : (orb b / 2 ^ k + (2 * q + 1) * (4 * orb b + 1)) % 2 = j / 2 ^ k % 2 := by
        have h6 : ((2 * q + 1) * (4 * orb b + 1)) % 2 = 1 := by
          rw [Nat.mul_mod]
          have a1 : (2 * q + 1) % 2 = 1 := by omega
          have a2 : (4 * orb b + 1) % 2 = 1 := by omega
          rw [a1, a2]
        exact par_flip c h6
      rw [h5]
/-- the masks -/
def MaskG (m : Nat) : Prop := ∃ k, m + 1 = 2 ^ k ∧ 1 ≤ k ∧ k ≤ 11
theorem lcgI_orb (m i : Nat) : ∀ k, lcgI m i k % (m + 1) = (5 ^ k * i + orb k) % (m + 1)
  | 0 => by show i % (m + 1) = _; rw [Nat.pow_zero, Nat.one_mul]; rfl
  | k + 1 => by
    show (lcgI m i k * 5 + 1) % (m + 1) % (m + 1) = (5 ^ (k + 1) * i + (5 * orb k + 1)) % (m + 1)
    rw [Nat.mod_mod, Nat.add_mod, Nat.mul_mod, lcgI_orb m i k, ← Nat.mul_mod, ← Nat.add_mod, Nat.pow_succ]
    congr 1
    rw [Nat.add_mul, Nat.mul_right_comm (5 ^ k) 5 i]
    omega
theorem lcg_meets {m : Nat} (hm : MaskG m) {i j : Nat} (hi : i ≤ m) (hj : j ≤ m) : ∃ k, k ≤ m ∧ lcgI m i k = j := by
  obtain ⟨e, he, _⟩ := hm
  -- i = orb a, j = orb b
  obtain ⟨a, ha, ea⟩ := orb_all e i
  rw [← he] at ha ea
  have fold : ∀ k, lcgI m i k % (m + 1) = orb (a + k) % (m + 1) := fun k => by
    rw [lcgI_orb, orb_add, Nat.add_mod, Nat.mul_mod, ← ea, ← Nat.mul_mod, ← Nat.add_mod]
  have lt : ∀ k, lcgI m i k ≤ m := fun k => by
    cases k with
    | zero => exact hi
    | succ k => exact Nat.le_of_lt_succ (Nat.mod_lt _ (Nat.succ_pos _))
  have per : ∀ n, orb (n + 2 ^ e) % (m + 1) = orb n % (m + 1) := fun n => by
    obtain ⟨q, hq⟩ := orb_two e
    rw [orb_add, orb_pow, hq, he]
    rw [orb_step, Nat.mul_add_mod]
  obtain ⟨b, hb, eb⟩ := orb_all e j
  rw [← he] at hb eb
  have fin : ∀ k, orb (a + k) % (m + 1) = orb b % (m + 1) → lcgI m i k = j := fun k h => by
    have h1 := fold k
    rw [h, eb, Nat.mod_eq_of_lt (Nat.lt_succ_of_le (lt k)), Nat.mod_eq_of_lt (Nat.lt_succ_of_le hj)] at h1
    exact h1
  rcases Nat.lt_or_ge b a with c | c
  · refine ⟨b + (m + 1) - a, by omega, fin _ ?_⟩
    rw [show a + (b + (m + 1) - a) = b + 2 ^ e by omega]
    exact per b
  · exact ⟨b - a, by omega, fin _ (by rw [show a + (b - a) = b by omega])⟩
theorem run_meetsG {m : Nat} (hm : MaskG m) (h : Int) {j : Nat} (hj : j ≤ m) : ∃ n, n ≤ m + 12 ∧ runI m (SetTable.bits h) n = j := by
  obtain ⟨k, hk, e⟩ := lcg_meets hm (runI_le m (SetTable.bits h) 12) hj
  exact ⟨12 + k, by omega, by rw [runI_tail (bits_lt h)]; exact e⟩

end Sw
/-! SwS2 -/
namespace Sw
set_option Elab.async false
set_option linter.all false
set_option maxRecDepth 100000
set_option maxHeartbeats 4000000
open PySem PySem.Spec PyProof.Rows L2
/-! ### a table of n members, none of them ever equal to what comes -/
structure Tb (t : SetTable) (n : Nat) : Prop where
  ris : Ris t.place.toList
  dm : t.dummies = #[]
  sz : t.place.size = n
  mok : MaskG t.mask
theorem Tb.first {t : SetTable} {n : Nat} (T : Tb t n) (hl : n ≤ t.mask) (h : Int) : ∃ K, K < 10 * SetTable.turns t.mask ∧ way t.mask h K ∉ t.place.toList ∧ ∀ k, k < K → way t.mask h k ∈ t.place.toList := by
  obtain ⟨j, hj, hn⟩ := st_missing t.place.toList (t.mask + 1) (by rw [Array.length_toList, T.sz]; omega)
  obtain ⟨r, hr, e⟩ := run_meetsG T.mok h (Nat.le_of_lt_succ hj)
  obtain ⟨k, hk, e2⟩ := run_nth t.mask (SetTable.bits h) r
  have ew : way t.mask h k = j := by
    show (nth _ _ k).j = j
    rw [e2]
    exact e
  obtain ⟨K, h1, h2, h3⟩ := st_least (p := fun k => way t.mask h k ∉ t.place.toList) k (by show way t.mask h k ∉ _; rw [ew]; exact hn)
  refine ⟨K, by unfold SetTable.turns; omega, h2, fun k' hk' => Classical.byContradiction fun c => h3 k' hk' c⟩
theorem Tb.add {t : SetTable} {n : Nat} (T : Tb t n) {j : Nat} (hj : j ∉ t.place.toList) :
    (t.put j).2 = SetTable.below t.place j ∧ SetTable.below t.place j ≤ n ∧ Tb (t.put j).1 (n + 1) ∧ (t.put j).1.fill = n + 1 := by
  have c1 := (below_cut T.ris j).1
  have hnp : t.place[SetTable.below t.place j]? ≠ some j := fun e => hj (List.mem_of_getElem? (by rw [Array.getElem?_toList]; exact e))
  have hsize : (t.put j).1.place.size = n + 1 := by
    rw [← Array.length_toList, put_place, len_ins _ (by rw [Array.length_toList]; exact c1), Array.length_toList, T.sz]
  have hd := put_dm T.dm j
  refine ⟨rfl, by rw [← T.sz]; exact c1, ⟨ris_insert T.ris hnp, hd, hsize, T.mok⟩, ?_⟩
  show (t.put j).1.place.size + (t.put j).1.dummies.size = n + 1
  rw [hsize, hd]
  rfl
/-- who sits where, as far as the count goes -/
structure Seats (m n : Nat) (owner : Array (Option Nat)) : Prop where
  sz : owner.size = m + 1
  all : ∀ k, k < n → ∃ j, j ≤ m ∧ oAt owner j = some k
  ps : ∃ ps : List Nat, ps.length = n ∧ ∀ j, j ≤ m → oAt owner j ≠ none → j ∈ ps
theorem Seats.init (m : Nat) : Seats m 0 (Array.replicate (m + 1) none) :=
  ⟨by simp, fun k hk => absurd hk (Nat.not_lt_zero _), [], rfl, fun j hj e => absurd (oAt_init hj) e⟩
theorem Seats.next {m n : Nat} (hm : MaskG m) {owner : Array (Option Nat)} (W : Seats m n owner) (hl : n ≤ m) (h : Int) :
    ∃ j, SetTable.layClean.free m owner (SetTable.turns m) (SetTable.bits h % (m + 1)) (SetTable.bits h) = some j ∧ Seats m (n + 1) (owner.setIfInBounds j (some n)) := by
  obtain ⟨ps, hps, hin⟩ := W.ps
  obtain ⟨j0, h0, hn0⟩ := st_missing ps (m + 1) (by omega)
  have f0 : oAt owner j0 = none := Classical.byContradiction fun c => hn0 (hin j0 (Nat.le_of_lt_succ h0) c)
  obtain ⟨r, hr, e⟩ := run_meetsG hm h (Nat.le_of_lt_succ h0)
  have hw : way m h (off m (SetTable.bits h % (m + 1)) (SetTable.bits h) r) = j0 := by
    show (nth _ _ _).j = j0
    rw [nth_off, itL_run]
    exact e
  obtain ⟨K, k1, k2, k3⟩ := st_least (p := fun k => oAt owner (way m h k) = none) (off m (SetTable.bits h % (m + 1)) (SetTable.bits h) r) (by
    show oAt owner (way m h (off m (SetTable.bits h % (m + 1)) (SetTable.bits h) r)) = none
    rw [hw]; exact f0)
  have hfree := free_spec m owner (SetTable.turns m) r _ _ K (by unfold SetTable.turns; omega) k1 (fun k hk => by
    cases z : oAt owner (way m h k) with
    | none => exact absurd z (k3 k hk)
    | some _ => rfl) (by rw [show oAt owner (way m h K) = none from k2]; rfl)
  have hjm : way m h K < owner.size := Classical.byContradiction fun c => by
    have z : oAt owner (way m h K) = none := k2
    have : owner.getD (way m h K) (some 0) = some 0 := by
      rw [Array.getD_eq_getD_getElem?, Array.getElem?_eq_none (by omega)]; rfl
    exact absurd (this.symm.trans z) (fun z => nomatch z)
  refine ⟨way m h K, hfree, ?_⟩
  have hself := oAt_set_self (some n) hjm
  generalize way m h K = j at hself hjm k2
  have hsz := W.sz
  refine ⟨by rw [Array.size_setIfInBounds]; exact hsz, fun k hk => ?_, j :: ps, by rw [List.length_cons, hps], fun i hi e => ?_⟩
  · rcases Nat.lt_or_ge k n with c | c
    · obtain ⟨i, hi, e⟩ := W.all k c
      exact ⟨i, hi, by rw [oAt_set_ne _ (fun z => by rw [z, k2] at e; cases e)]; exact e⟩
    · obtain rfl : k = n := by omega
      exact ⟨j, by omega, hself⟩
  · by_cases c : i = j
    · rw [c]; exact List.mem_cons_self
    · rw [oAt_set_ne _ c] at e
      exact List.mem_cons_of_mem _ (hin i hi e)
theorem seats_all {m : Nat} (hm : MaskG m) : ∀ (rest : List Int) (n : Nat) (owner : Array (Option Nat)), Seats m n owner → n + rest.length ≤ m →
    ∃ owner', rest.foldl (L2.stepF m) (some (owner, n)) = some (owner', n + rest.length) ∧ Seats m (n + rest.length) owner'
  | [], n, owner, W, _ => ⟨owner, rfl, W⟩
  | h :: rest, n, owner, W, hl => by
    rw [List.length_cons] at hl
    obtain ⟨j, e, W'⟩ := W.next hm (by omega) h
    obtain ⟨o', f, W2⟩ := seats_all hm rest (n + 1) _ W' (by omega)
    have en : n + 1 + rest.length = n + (h :: rest).length := by rw [List.length_cons]; omega
    rw [en] at f W2
    exact ⟨o', by rw [List.foldl_cons, L2.stepF_some e]; exact f, W2⟩
theorem relaidG (t : SetTable) {hs : Array Int} {wanted M : Nat} (hw : SetTable.sizeAbove wanted - 1 = M) (hM : MaskG M) (hn : hs.size ≤ M) :
    ∃ t' order, t.relaid hs wanted = some (t', order) ∧ order.toList.Perm (List.range hs.size) ∧ Tb t' hs.size ∧ t'.mask = M ∧ t'.led = t.led ∧ t'.plain = t.plain := by
  obtain ⟨owner, f, W⟩ := seats_all hM hs.toList 0 _ (Seats.init M) (by rw [Array.length_toList]; omega)
  rw [Nat.zero_add, Array.length_toList] at f W
  have e : SetTable.layClean M hs = some owner := by rw [layClean_eq, f]; rfl
  have hr : t.relaid hs wanted = some (tabOf t M owner, ((liveOf M owner).map (·.2)).toArray) := by rw [relaid_eq, hw, e]; rfl
  have ris := ris_live (fun j => owner.getD j none) (List.range (M + 1)) List.pairwise_lt_range
  have r1 : Ris ((liveOf M owner).map (·.1)) := ris.1
  have got : ∀ k, k < hs.size → k ∈ (liveOf M owner).map (·.2) := fun k hk => by
    obtain ⟨j, a, b⟩ := W.all k hk
    exact List.mem_map.mpr ⟨(j, k), (mem_live W.sz).2 ⟨a, b⟩, rfl⟩
  have hlen : (liveOf M owner).length = hs.size := by
    obtain ⟨ps, p1, p2⟩ := W.ps
    have nd : ((liveOf M owner).map (·.1)).Nodup := List.Pairwise.imp (fun h => Nat.ne_of_lt h) r1
    have a := nat_nodup_len ((liveOf M owner).map (·.1)) ps nd fun x hx => by
      obtain ⟨⟨y, k⟩, hq, rfl⟩ := List.mem_map.mp hx
      have z := (mem_live W.sz).1 hq
      exact p2 y z.1 (by rw [z.2]; exact fun z => nomatch z)
    have b := nat_nodup_len (List.range hs.size) ((liveOf M owner).map (·.2)) List.nodup_range fun k hk => got k (List.mem_range.mp hk)
    rw [List.length_map, p1] at a
    rw [List.length_map, List.length_range] at b
    omega
  refine ⟨_, _, hr, perm_range hs.size _ ?_ got, ⟨r1, rfl, ?_, hM⟩, rfl, rfl, rfl⟩
  · show ((liveOf M owner).map (·.2)).length = hs.size
    rw [List.length_map, hlen]
  · show ((liveOf M owner).map (·.1)).toArray.size = hs.size
    rw [List.size_toArray, List.length_map, hlen]
theorem grown_5 : SetTable.sizeAbove (SetTable.grown 5) = 32 := by decide +kernel
theorem grown_19 : SetTable.sizeAbove (SetTable.grown 19) = 128 := by decide +kernel
theorem grown_77 : SetTable.sizeAbove (SetTable.grown 77) = 512 := by decide +kernel
theorem grown_307 : SetTable.sizeAbove (SetTable.grown 307) = 2048 := by decide +kernel

end Sw
/-! SwS3 -/
namespace Sw
set_option Elab.async false
set_option linter.all false
set_option maxRecDepth 100000
set_option maxHeartbeats 4000000
open PySem PySem.Spec PyProof.Rows L2
/-! ### sets of tuples of texts and ints -/
abbrev IsK (P : Program) (w : World) (h : Heap) (k : List Key) (a : Addr) : Prop := IsTupleKey (mixKind P w) h k a
abbrev kh (P : Program) (w : World) (k : List Key) : Int := tupleKeyHash (mixKind P w) k
section
variable {P : Program} {w : World} {A : Around} {E : Value → Shared → Prop} {s : Shared}
def Plain2 (v : Value) : Prop := (∃ i t, v = Value.int i t) ∨ ∃ x t, v = Value.str x t
theorem items_two {k : List Key} {vs : List Value} (h : ItemsAre (mixKind P w) k vs) : ∀ v ∈ vs, Plain2 v := by
  induction h with
  | nil => intro v hv; cases hv
  | cons h1 _ ih =>
    intro v hv
    rcases List.mem_cons.mp hv with e | hv
    · subst e
      rcases keyIs_shape h1 with ⟨i, t, _, e⟩ | ⟨x, t, _, e⟩
      · exact .inl ⟨i, t, e⟩
      · exact .inr ⟨x, t, e⟩
    · exact ih v hv
theorem two_ofA {v : Value} (h : Plain2 v) (n : Nat) : ofAClassStatement n v = pure false := by
  rcases h with ⟨i, t, rfl⟩ | ⟨x, t, rfl⟩ <;> cases n <;> rfl
theorem two_hash {v : Value} (h : Plain2 v) (n : Nat) : ∃ b, hashByValue n v = pure b := by
  rcases h with ⟨i, t, rfl⟩ | ⟨x, t, rfl⟩
  · exact ⟨true, by cases n <;> rfl⟩
  · exact ⟨false, by cases n <;> rfl⟩
theorem mix_ofA {k : List Key} {b : Addr} {Q : Bool → Shared → Prop} (hk : IsK P w s.heap k b) (h : Q false s) : wpAny (model P w) A (ofAClassStatement 8 (.ref b)) Q E s := by
  have hT := hk.typeIs
  obtain ⟨o, items, n, ho, _, hd, hi⟩ := hk
  unfold ofAClassStatement
  refine wpAny_bind (wpAny_typeOf hT ?_)
  dsimp only
  have e : (("tuple" : String) == "tuple") = true := by decide
  simp only [e, if_true, Bool.not_true, Bool.false_eq_true, if_false]
  try refine wpAny_bind (wpAny_pure ?_)
  try simp only [Bool.not_true, Bool.false_eq_true, if_false]
  show wpAny _ _ (seqItems? (.ref b) >>= _) _ _ s
  refine wpAny_bind (wpAny_seqItems ho hd ?_)
  dsimp only
  refine wpAny_bind ?_
  show wpAny _ _ (forIn items _ _) _ _ s
  rw [← Array.forIn_toList]
  refine wpAny_forIn_list _ (fun rest r s' => r.1 = none ∧ s' = s ∧ ∀ v ∈ rest, Plain2 v) _ ?_ ?_ _ _ ⟨rfl, rfl, items_two hi⟩
  · rintro v rest r s' ⟨hr, rfl, all⟩
    rw [two_ofA (all v List.mem_cons_self)]
    refine wpAny_bind (wpAny_pure ?_)
    simp only [Bool.false_eq_true, if_false]
    exact wpAny_pure ⟨rfl, rfl, fun u z => all u (List.mem_cons_of_mem _ z)⟩
  · rintro ⟨r1, r2⟩ s' ⟨hr, rfl, _⟩
    simp only at hr
    subst hr
    exact wpAny_pure h
theorem mix_hashBy {k : List Key} {b : Addr} {Q : Bool → Shared → Prop} (hk : IsK P w s.heap k b) (h : ∀ c, Q c s) : wpAny (model P w) A (hashByValue 8 (.ref b)) Q E s := by
  have hT := hk.typeIs
  obtain ⟨o, items, n, ho, _, hd, hi⟩ := hk
  unfold hashByValue
  refine wpAny_bind (wpAny_specialOf hT F.slot_tuple_hash.lookup ?_)
  show wpAny _ _ (seqItems? (.ref b) >>= _) _ _ s
  refine wpAny_bind (wpAny_seqItems ho hd ?_)
  refine wpAny_bind ?_
  show wpAny _ _ (forIn items _ _) _ _ s
  rw [← Array.forIn_toList]
  refine wpAny_forIn_list _ (fun rest r s' => r.1 = none ∧ s' = s ∧ ∀ v ∈ rest, Plain2 v) _ ?_ ?_ _ _ ⟨rfl, rfl, items_two hi⟩
  · rintro v rest r s' ⟨hr, rfl, all⟩
    obtain ⟨c, e⟩ := two_hash (all v List.mem_cons_self) 7
    rw [e]
    refine wpAny_bind (wpAny_pure ?_)
    cases c with
    | true =>
      simp only [Bool.not_true, Bool.false_eq_true, if_false]
      exact wpAny_pure ⟨rfl, rfl, fun u z => all u (List.mem_cons_of_mem _ z)⟩
    | false =>
      simp only [Bool.not_false, if_true]
      exact wpAny_pure (wpAny_pure (h false))
  · rintro ⟨r1, r2⟩ s' ⟨hr, rfl, _⟩
    simp only at hr
    subst hr
    exact wpAny_pure (h true)
theorem mix_seen {k : List Key} {b : Addr} {Q : Bool → Shared → Prop} (hk : IsK P w s.heap k b) {ys : List Value} (hy : ∀ y ∈ ys, ∃ k' c, y = Value.ref c ∧ IsK P w s.heap k' c) (h : Q false s) :
    wpAny (model P w) A (searchCouldBeSeen (.ref b) ys) Q E s := by
  unfold searchCouldBeSeen
  refine wpAny_bind ?_
  refine wpAny_forIn_list _ (fun rest r s' => r.1 = none ∧ s' = s ∧ ∀ y ∈ rest, ∃ k' c, y = Value.ref c ∧ IsK P w s.heap k' c) _ ?_ ?_ _ _ ⟨rfl, rfl, hy⟩
  · rintro v rest r s' ⟨hr, rfl, all⟩
    obtain ⟨k', c, rfl, hc⟩ := all v List.mem_cons_self
    have more : ∀ y ∈ rest, ∃ k' c, y = Value.ref c ∧ IsK P w s'.heap k' c := fun u z => all u (List.mem_cons_of_mem _ z)
    dsimp only
    by_cases hv : (b == c || (carriedByValue (.ref b) && carriedByValue (.ref c))) = true
    · refine wp_if_pos hv ?_
      exact wpAny_pure ⟨rfl, rfl, more⟩
    · refine wp_if_neg hv ?_
      refine wpAny_bind (wpAny_eqIsQuiet_tuple hk ?_)
      simp only [Bool.not_true, Bool.false_eq_true, if_false]
      refine wpAny_bind (wpAny_eqIsQuiet_tuple hc ?_)
      simp only [Bool.not_true, Bool.false_eq_true, if_false]
      refine wpAny_bind (mix_ofA hk ?_)
      simp only [Bool.false_eq_true, if_false]
      refine wpAny_bind (mix_ofA hc ?_)
      simp only [Bool.false_eq_true, if_false]
      exact wpAny_pure ⟨rfl, rfl, more⟩
  · rintro ⟨r1, r2⟩ s' ⟨hr, rfl, _⟩
    simp only at hr
    subst hr
    exact wpAny_pure h
end

end Sw
/-! SwS4 -/
namespace Sw
set_option Elab.async false
set_option linter.all false
set_option maxRecDepth 100000
set_option maxHeartbeats 4000000
open PySem PySem.Spec PyProof.Rows L2
section
variable {P : Program} {w : World} {A : Around} {E : Value → Shared → Prop} {s : Shared}
/-- the set at a holds the tuples of L, none of which is met twice -/
structure SK (P : Program) (w : World) (h : Heap) (a : Addr) (L : List (Addr × List Key)) (es : Array (Int × Value)) (ep : Nat) (t : SetTable) : Prop where
  ob : ∃ o, h.get? a = some o ∧ o.ExactSet ∧ o.data = .set es ep t
  rows : es.toList = L.map fun p => (kh P w p.2, Value.ref p.1)
  tab : Tb t L.length
  tup : ∀ p ∈ L, IsK P w h p.2 p.1
  room : L.length * 5 < t.mask * 3
  five : t.mask = 7 ∨ t.mask = 31 ∨ t.mask = 127 ∨ t.mask = 511 ∨ t.mask = 2047
variable {a : Addr} {L : List (Addr × List Key)} {es : Array (Int × Value)} {ep : Nat} {t : SetTable}
theorem SK.size (R : SK P w s.heap a L es ep t) : es.size = L.length := by
  have h := congrArg List.length R.rows
  rw [Array.length_toList, List.length_map] at h
  exact h
theorem SK.fits (R : SK P w s.heap a L es ep t) : t.fits es.size = true := by
  have h1 := R.tab.sz
  have h2 := R.size
  have h3 := R.room
  unfold SetTable.fits SetTable.fill
  rw [R.tab.dm, Bool.and_eq_true, beq_iff_eq, decide_eq_true_eq]
  show t.place.size = es.size ∧ t.place.size + 0 ≤ t.mask
  omega
theorem SK.entry (R : SK P w s.heap a L es ep t) {i : Nat} {p : Addr × List Key} (h : L[i]? = some p) : es[i]? = some (kh P w p.2, Value.ref p.1) := by
  rw [← Array.getElem?_toList, R.rows, List.getElem?_map, h]
  rfl
theorem MaskG.odd {m : Nat} (h : MaskG m) : m % 2 = 1 := by
  obtain ⟨k, e, h1, _⟩ := h
  obtain ⟨j, rfl⟩ : ∃ j, k = j + 1 := ⟨k - 1, by omega⟩
  rw [Nat.pow_succ] at e
  omega
theorem MaskG.le {m : Nat} (h : MaskG m) : m ≤ 2047 := by
  obtain ⟨k, e, _, h2⟩ := h
  have : 2 ^ k ≤ 2 ^ 11 := Nat.pow_le_pow_right (by decide) h2
  have e2 : (2 : Nat) ^ 11 = 2048 := by decide
  omega
theorem SK.gw (R : SK P w s.heap a L es ep t) : ¬ t.gaveWay = true := by
  unfold SetTable.gaveWay
  rw [R.tab.mok.odd]
  decide
theorem nth_clean (m : Nat) : ∀ (n : Nat) (p : SetTable.Probe), p.dummy = none → (nth m p n).dummy = none
  | 0, _, h => h
  | n + 1, p, h => nth_clean m n (adv m p) (by unfold adv; split <;> exact h)
/-- a search for what isn't there ends at an empty slot -/
theorem search_new_from (R : SK P w s.heap a L es ep t) {x : Addr} {k : List Key} (hx : IsK P w s.heap k x) (hu : A.units < cLine) (hn : k ∉ L.map (·.2)) {Q : SetFound → Shared → Prop}
    (hQ : ∀ j, j ∉ t.place.toList → Q (.free j false) s) :
    ∀ (f K : Nat) (stand : Option SetTable.Probe), K < f → K < 10 * SetTable.turns t.mask → (stand.getD (t.probeStart (kh P w k))).dummy = none →
      (∀ q, q < K → (nth t.mask (stand.getD (t.probeStart (kh P w k))) q).j ∈ t.place.toList) → (nth t.mask (stand.getD (t.probeStart (kh P w k))) K).j ∉ t.place.toList →
      wpAny (model P w) A (setSearchFrom a (.ref x) (kh P w k) true f stand) Q E s
  | 0, _, _, hf, _, _, _, _ => absurd hf (Nat.not_lt_zero _)
  | f + 1, K, stand, hf, ht, hd, hin, hout => by
    obtain ⟨o, ho, hex, hdt⟩ := R.ob
    rw [setSearchFrom_succ]
    refine wpAny_bind (wpAny_setState_of ho hdt R.fits ?_)
    dsimp only
    refine wp_if_neg R.gw ?_
    try refine wpAny_bind (wpAny_pure ?_)
    generalize stand.getD (t.probeStart (kh P w k)) = p at hd hin hout ⊢
    rcases go_spec t R.tab.ris R.tab.dm (fun i => (es[i]?.map (·.1)).getD 0) (kh P w k) (10 * SetTable.turns t.mask) K p hd ht hin hout with ⟨q, i, hq, hi, hh, _, hpr⟩ | ⟨_, hpr⟩
    · have hpr' : t.probe (fun i => (es[i]?.map (·.1)).getD 0) (kh P w k) p = some (.candidate (nth t.mask p q).j i (nth t.mask p (q + 1))) := hpr
      rw [hpr']
      dsimp only
      have hil : i < L.length := by
        have h1 := (List.getElem?_eq_some_iff.mp hi).1
        rw [Array.length_toList, R.tab.sz] at h1
        exact h1
      obtain ⟨p1, hp1⟩ : ∃ p1, L[i]? = some p1 := ⟨_, List.getElem?_eq_getElem hil⟩
      have hmem := List.mem_of_getElem? hp1
      have hne : ¬ p1.2 = k := fun e => hn (List.mem_map.mpr ⟨p1, hmem, e⟩)
      have hsl : t.slot (nth t.mask p q).j = .live i := slot_live R.tab.ris hi
      have on : wpAny (model P w) A (searchRest a (.ref x) (kh P w k) true f es t (nth t.mask p q).j i (nth t.mask p (q + 1))) Q E s := by
        unfold searchRest
        rw [R.entry hp1]
        dsimp only
        refine wpAny_bind (wpAny_holding (wpAny_eqBool_tuple hu (R.tup p1 hmem) hx ?_))
        refine wpAny_bind (wpAny_setState_of ho hdt R.fits ?_)
        dsimp only
        refine wp_if_neg (by simp [hne]) ?_
        try refine wpAny_bind (wpAny_pure ?_)
        rw [sameMem]
        dsimp only
        simp only [if_true, hsl, R.entry hp1]
        refine wpAny_bind (wpAny_isSame_ref_self (wpAny_bind (wpAny_pure ?_)))
        simp only [if_true]
        refine wp_if_neg (by simp [hne]) ?_
        refine search_new_from R hx hu hn hQ f (K - (q + 1)) (some (nth t.mask p (q + 1))) (by omega) (by omega) (nth_clean _ _ _ hd) (fun r hr => ?_) ?_
        · show (nth t.mask (nth t.mask p (q + 1)) r).j ∈ _
          rw [← nth_add]
          exact hin _ (by omega)
        · show (nth t.mask (nth t.mask p (q + 1)) (K - (q + 1))).j ∉ _
          rw [← nth_add, show q + 1 + (K - (q + 1)) = K by omega]
          exact hout
      by_cases hl : t.led = true
      · refine wp_if_neg (by simp [hl]) ?_
        try refine wpAny_bind (wpAny_pure ?_)
        exact on
      · refine wp_if_pos (by simp [hl]) ?_
        refine wpAny_bind (mix_seen hx (fun y hy => ?_) ?_)
        · obtain ⟨e, he, ee⟩ := List.mem_map.mp hy
          have he1 : e ∈ es ∧ e.1 = kh P w k := by simpa using he
          have he2 : e ∈ es.toList := by simpa using he1.1
          rw [R.rows] at he2
          obtain ⟨p2, hp2, e2⟩ := List.mem_map.mp he2
          exact ⟨p2.2, p2.1, by rw [← ee, ← e2], R.tup p2 hp2⟩
        · refine wp_if_neg (by decide) ?_
          try refine wpAny_bind (wpAny_pure ?_)
          exact on
    · have hpr' : t.probe (fun i => (es[i]?.map (·.1)).getD 0) (kh P w k) p = some (.empty (nth t.mask p K).j none) := hpr
      rw [hpr']
      dsimp only
      exact wpAny_pure (hQ _ hout)
theorem search_new (R : SK P w s.heap a L es ep t) {x : Addr} {k : List Key} (hx : IsK P w s.heap k x) (hu : A.units < cLine) (hn : k ∉ L.map (·.2)) {Q : SetFound → Shared → Prop}
    (hQ : ∀ j, j ∉ t.place.toList → Q (.free j false) s) : wpAny (model P w) A (setSearch a (.ref x) (kh P w k) true) Q E s := by
  have hroom := R.room
  obtain ⟨K, h1, h2, h3⟩ := R.tab.first (by omega) (kh P w k)
  have hle := R.tab.mok.le
  unfold setSearch
  exact search_new_from R hx hu hn hQ 100000 K none (by unfold SetTable.turns at h1; omega) h1 rfl h3 h2
end

end Sw
/-! SwS5 -/
namespace Sw
set_option Elab.async false
set_option linter.all false
set_option maxRecDepth 100000
set_option maxHeartbeats 4000000
open PySem PySem.Spec PyProof.Rows L2
section
variable {P : Program} {w : World} {A : Around} {E : Value → Shared → Prop} {s : Shared}
theorem isK_but {h h' : Heap} {k : List Key} {a b : Addr} {o : Obj} {es : Array (Int × Value)} {ep : Nat} {t : SetTable} (hb : IsK P w h k b) (ho : h.get? a = some o) (hd : o.data = .set es ep t) (hs : Heap.SameBut a h h') : IsK P w h' k b := by
  obtain ⟨o', items, n, ho', hc, hd', hi⟩ := hb
  have hne : b ≠ a := fun e => by
    rw [e, ho] at ho'
    injection ho' with ho'
    rw [← ho', hd] at hd'
    exact nomatch hd'
  exact ⟨o', items, n, (hs.2 b hne).trans ho', hc, hd', hi⟩
theorem ins_perm {α : Type} (L : List α) (p : Nat) (x : α) : (L.take p ++ x :: L.drop p).Perm (x :: L) := by
  have h : (L.take p ++ x :: L.drop p).Perm (x :: (L.take p ++ L.drop p)) := List.perm_middle
  rwa [List.take_append_drop] at h
theorem pick_all {α : Type} (L : List α) : (List.range L.length).filterMap (fun i => L[i]?) = L := by
  have key : ∀ n, n ≤ L.length → (List.range n).filterMap (fun i => L[i]?) = L.take n := by
    intro n
    induction n with
    | zero => intro _; rfl
    | succ n ih =>
      intro hn
      rw [List.range_succ, List.filterMap_append, ih (Nat.le_of_lt hn), List.take_succ, List.getElem?_eq_getElem hn]
      rw [List.filterMap_cons_some (List.getElem?_eq_getElem hn)]
      rfl
  rw [key L.length (Nat.le_refl _), List.take_length]
variable {a : Addr} {L : List (Addr × List Key)} {es : Array (Int × Value)} {ep : Nat} {t : SetTable}
theorem relay_new {o : Obj} (ho : s.heap.get? a = some o) (hex : o.ExactSet) (hd : o.data = .set es ep t) (hrows : es.toList = L.map fun p => (kh P w p.2, Value.ref p.1)) (T : Tb t L.length) (hfl : L.length ≤ t.mask)
    (tup : ∀ p ∈ L, IsK P w s.heap p.2 p.1) {wanted M : Nat} (hw : SetTable.sizeAbove wanted = M + 1) (hM : MaskG M) (h5 : M = 7 ∨ M = 31 ∨ M = 127 ∨ M = 511 ∨ M = 2047) (hn : L.length * 5 < M * 3) {Q : Unit → Shared → Prop}
    (hQ : ∀ h' L' es' ep' t', Heap.SameBut a s.heap h' → SK P w h' a L' es' ep' t' → L'.Perm L → Q () { s with heap := h' }) : wpAny (model P w) A (setRelay a wanted) Q E s := by
  have hsl : es.size = L.length := by
    have h := congrArg List.length hrows
    rw [Array.length_toList, List.length_map] at h
    exact h
  have hfits : t.fits es.size = true := by
    unfold SetTable.fits SetTable.fill
    rw [T.dm, Bool.and_eq_true, beq_iff_eq, decide_eq_true_eq]
    have := T.sz
    show t.place.size = es.size ∧ t.place.size + 0 ≤ t.mask
    omega
  have hML := hM.le
  obtain ⟨t', order, e, hp, T', em, _, _⟩ := relaidG t (hs := es.map (·.1)) (wanted := wanted) (M := M) (by omega) hM (by rw [Array.size_map, hsl]; omega)
  rw [Array.size_map, hsl] at hp T'
  have rowAt : ∀ i, es.toList[i]? = (L[i]?).map fun (p : Addr × List Key) => (kh P w p.2, Value.ref p.1) := fun i => by rw [hrows, List.getElem?_map]
  have r1 : (order.filterMap (es[·]?)).toList = (order.toList.filterMap fun i => L[i]?).map fun (p : Addr × List Key) => (kh P w p.2, Value.ref p.1) := by
    rw [Array.toList_filterMap, List.map_filterMap]
    congr 1
    funext i
    rw [← Array.getElem?_toList, rowAt i]
  have r2 : (order.toList.filterMap fun i => L[i]?).Perm L := by
    have h := hp.filterMap fun i => L[i]?
    rwa [pick_all] at h
  generalize order.toList.filterMap (fun i => L[i]?) = L2 at r1 r2
  have hs2 : (order.filterMap (es[·]?)).size = es.size := by
    have h := congrArg List.length r1
    rw [Array.length_toList, List.length_map, r2.length_eq] at h
    rw [h, hsl]
  rw [setRelay_eq]
  refine wpAny_bind (wpAny_setState_of ho hd hfits ?_)
  dsimp only
  refine wp_if_neg (by rw [sizeLine_eq]; omega) ?_
  try refine wpAny_bind (wpAny_pure ?_)
  rw [e]
  dsimp only
  refine wpAny_bind ?_
  refine wp_if_neg (by rw [hs2]; simp) ?_
  try refine wpAny_bind (wpAny_pure ?_)
  refine wpAny_pure ?_
  dsimp only
  refine wpAny_storeSet_of ho hd ?_ (by rw [hs2, hsl, sizeLine_eq]; omega)
  have sb : Heap.SameBut a s.heap (s.heap.update a (Obj.putSet (order.filterMap (es[·]?)) t')) := Heap.SameBut.update ..
  refine hQ _ L2 (order.filterMap (es[·]?)) (ep + 1) t' sb ?_ r2
  exact ⟨⟨_, store_at ho hd, ⟨hex.1, hex.2.1, hex.2.2⟩, rfl⟩, r1, by rw [r2.length_eq]; exact T', fun p hpm => isK_but (tup p (r2.mem_iff.mp hpm)) ho hd sb, by rw [r2.length_eq, em]; exact hn, by rw [em]; exact h5⟩
end
section
variable {P : Program} {w : World} {A : Around} {E : Value → Shared → Prop} {s : Shared}
variable {a : Addr} {L : List (Addr × List Key)} {es : Array (Int × Value)} {ep : Nat} {t : SetTable}
theorem add_new (R : SK P w s.heap a L es ep t) {x : Addr} {k : List Key} (hx : IsK P w s.heap k x) (hu : A.units < cLine) (hn : k ∉ L.map (·.2)) (hfew : L.length + 1 ≤ 1228) {Q : Bool → Shared → Prop}
    (hQ : ∀ b h' L' es' ep' t', Heap.SameBut a s.heap h' → SK P w h' a L' es' ep' t' → L'.Perm ((x, k) :: L) → Q b { s with heap := h' }) : wpAny (model P w) A (setAddHashed a (.ref x) (kh P w k)) Q E s := by
  obtain ⟨o, ho, hex, hd⟩ := R.ob
  have hsl := R.size
  have hroom := R.room
  unfold setAddHashed
  refine wpAny_holding ?_
  rw [show (100000 : Nat) = 99999 + 1 from rfl, setAddHashedIn_succ]
  refine wpAny_bind (wpAny_setState_of ho hd R.fits ?_)
  dsimp only
  refine wp_if_neg (by simp [byScan, Value.scannable]) ?_
  try refine wpAny_bind (wpAny_pure ?_)
  refine wpAny_bind (search_new R hx hu hn fun j hj => ?_)
  dsimp only
  refine wpAny_bind (wpAny_setState_of ho hd R.fits ?_)
  dsimp only
  obtain ⟨q1, q2, q3, q9⟩ := R.tab.add hj
  have q4 : (t.put j).1.mask = t.mask := rfl
  generalize hpt : t.put j = pt at q1 q3 q4 q9 ⊢
  obtain ⟨t1, p⟩ := pt
  dsimp only at q1 q3 q4 q9 ⊢
  subst q1
  have five := R.five
  have hes : (SetTable.insertAt es (SetTable.below t.place j) (kh P w k, Value.ref x)).toList = (L.take (SetTable.below t.place j) ++ (x, k) :: L.drop (SetTable.below t.place j)).map fun (p : Addr × List Key) => (kh P w p.2, Value.ref p.1) := by
    rw [SetTable.toList_insertAt, R.rows, List.map_append, List.map_cons, List.map_take, List.map_drop]
  have pm := ins_perm L (SetTable.below t.place j) (x, k)
  generalize SetTable.insertAt es (SetTable.below t.place j) (kh P w k, Value.ref x) = es1 at hes ⊢
  generalize L.take (SetTable.below t.place j) ++ (x, k) :: L.drop (SetTable.below t.place j) = L1 at hes pm
  have hlen : L1.length = L.length + 1 := pm.length_eq
  have hez : es1.size = L.length + 1 := by
    have h := congrArg List.length hes
    rwa [Array.length_toList, List.length_map, hlen] at h
  have on : ∀ t2 : SetTable, Tb t2 (L.length + 1) → t2.mask = t.mask → t2.fill = L.length + 1 →
      wpAny (model P w) A (storeSet a es1 t2) (fun _ s' => wpAny (model P w) A (if (!false && t2.tooFull) = true then (setRelay a (SetTable.grown (es.size + 1)) >>= fun _ => pure true) else pure true) Q E s') E s := fun t2 T2 m2 f2 => by
    refine wpAny_storeSet_of ho hd ?_ (by rw [hez, sizeLine_eq]; omega)
    have sb : Heap.SameBut a s.heap (s.heap.update a (Obj.putSet es1 t2)) := Heap.SameBut.update ..
    have ho1 := store_at (es' := es1) (t' := t2) ho hd
    generalize s.heap.update a (Obj.putSet es1 t2) = h1 at sb ho1 ⊢
    have tup1 : ∀ p ∈ L1, IsK P w h1 p.2 p.1 := fun p hp => by
      rcases List.mem_cons.mp (pm.mem_iff.mp hp) with e | hp
      · rw [e]; exact isK_but hx ho hd sb
      · exact isK_but (R.tup p hp) ho hd sb
    rw [← hlen] at T2
    have full : t2.tooFull = decide ((L.length + 1) * 5 ≥ t.mask * 3) := by
      unfold SetTable.tooFull
      rw [f2, m2]
    by_cases hf : (L.length + 1) * 5 ≥ t.mask * 3
    · refine wp_if_pos (by rw [full]; simp [hf]) ?_
      refine wpAny_bind ?_
      have go : ∀ M, SetTable.sizeAbove (SetTable.grown (L.length + 1)) = M + 1 → MaskG M → (M = 7 ∨ M = 31 ∨ M = 127 ∨ M = 511 ∨ M = 2047) → (L.length + 1) * 5 < M * 3 →
          wpAny (model P w) A (setRelay a (SetTable.grown (es.size + 1))) (fun _ s' => wpAny (model P w) A (pure true) Q E s') E { s with heap := h1 } := fun M e1 e2 e3 e4 => by
        rw [hsl]
        refine relay_new (s := { s with heap := h1 }) ho1 ⟨hex.1, hex.2.1, hex.2.2⟩ rfl hes T2 (by rw [hlen, m2]; omega) tup1 e1 e2 e3 (by rw [hlen]; exact e4) fun h2 L2 es2 ep2 t3 sb2 R2 pm2 => ?_
        exact wpAny_pure (hQ true h2 L2 es2 ep2 t3 (sb.trans sb2) R2 (pm2.trans pm))
      rcases five with e | e | e | e | e <;> rw [e] at hf hroom
      · obtain z : L.length = 4 := by omega
        exact go 31 (by rw [z, grown_5]) ⟨5, by decide, by decide, by decide⟩ (by decide) (by omega)
      · obtain z : L.length = 18 := by omega
        exact go 127 (by rw [z, grown_19]) ⟨7, by decide, by decide, by decide⟩ (by decide) (by omega)
      · obtain z : L.length = 76 := by omega
        exact go 511 (by rw [z, grown_77]) ⟨9, by decide, by decide, by decide⟩ (by decide) (by omega)
      · obtain z : L.length = 306 := by omega
        exact go 2047 (by rw [z, grown_307]) ⟨11, by decide, by decide, by decide⟩ (by decide) (by omega)
      · omega
    · refine wp_if_neg (by rw [full]; simp [hf]) ?_
      refine wpAny_pure (hQ true h1 L1 es1 (ep + 1) t2 sb ⟨⟨_, ho1, ⟨hex.1, hex.2.1, hex.2.2⟩, rfl⟩, hes, T2, tup1, by rw [hlen, m2]; omega, by rw [m2]; exact five⟩ pm)
  have T1 : Tb t1 (L.length + 1) := q3
  have on1 := on t1 T1 q4 q9
  have on0 := on { t1 with plain := false } ⟨T1.ris, T1.dm, T1.sz, T1.mok⟩ q4 q9
  have both : ∀ c : Bool, wpAny (model P w) A (storeSet a es1 (if c = true then t1 else { t1 with plain := false })) (fun _ s' => wpAny (model P w) A (if (!false && (if c = true then t1 else { t1 with plain := false }).tooFull) = true then (setRelay a (SetTable.grown (es.size + 1)) >>= fun _ => pure true) else pure true) Q E s') E s := fun c => by
    cases c
    · exact on0
    · exact on1
  by_cases hp : t1.plain = true
  · first
      | (refine wpAny_bind ?_; refine wp_if_pos hp ?_; refine mix_hashBy hx fun c => ?_)
      | refine wp_if_pos hp (wpAny_bind (mix_hashBy hx fun c => ?_))
    exact wpAny_bind (both c)
  · first
      | (refine wpAny_bind ?_; refine wp_if_neg hp ?_; refine wpAny_pure ?_)
      | refine wp_if_neg hp (wpAny_bind (wpAny_pure ?_))
    exact wpAny_bind (both true)
end

end Sw
/-! SwS6 -/
namespace Sw
set_option Elab.async false
set_option linter.all false
set_option maxRecDepth 100000
set_option maxHeartbeats 4000000
open PySem PySem.Spec PyProof.Rows L2
section
variable {P : Program} {w : World} {A : Around} {E : Value → Shared → Prop} {s : Shared}
theorem isK_keep {h h' : Heap} {k : List Key} {b : Addr} (x : IsK P w h k b) (hk : ∀ c o, h.get? c = some o → h'.get? c = some o) : IsK P w h' k b := by
  obtain ⟨o, items, n, ho, r⟩ := x
  exact ⟨o, items, n, hk b o ho, r⟩
theorem SK.keep {h h' : Heap} {a : Addr} {L : List (Addr × List Key)} {es : Array (Int × Value)} {ep : Nat} {t : SetTable} (R : SK P w h a L es ep t) (ha : ∀ o, h.get? a = some o → h'.get? a = some o) (ht : ∀ p ∈ L, IsK P w h' p.2 p.1) : SK P w h' a L es ep t := by
  obtain ⟨o, ho, r⟩ := R.ob
  exact ⟨⟨o, ha o ho, r⟩, R.rows, R.tab, ht, R.room, R.five⟩
theorem sk_fresh {h : Heap} {a : Addr} (ho : h.get? a = some (sObj w)) : SK P w h a [] #[] 0 (.fresh 0 0 (!w.params.followText "set-order")) where
  ob := ⟨_, ho, ⟨rfl, rfl, rfl⟩, rfl⟩
  rows := rfl
  tab := ⟨List.Pairwise.nil, rfl, rfl, 3, rfl, by decide, by decide⟩
  tup := fun p hp => (by cases hp)
  room := by
    show 0 * 5 < 7 * 3
    decide
  five := .inl rfl
theorem loop_new {I : Addr} {fp wr : List Addr} {G : Array GenState → Array GenState → Prop} {n : Nat} {Pv : Nat → Value → Prop} {St : Nat → Shared → Prop} {R : Result → Shared → Prop}
    (W : WalksS P w A.in1 I fp wr G n Pv St) (S : Addr) (hSf : S ∉ fp) (ks : List (Addr × List Key)) (hn : n = ks.length) (hfew : ks.length ≤ 1228) (nd : (ks.map (·.2)).Nodup) (hval : ∀ i v, Pv i v → ∃ p, ks[i]? = some p ∧ v = .ref p.1)
    (h0 : Heap) (hk : ∀ p ∈ ks, IsK P w h0 p.2 p.1) (hS0 : h0.get? S = none) (hw0 : ∀ b ∈ wr, h0.get? b = none) (hu : A.in1.units < cLine) :
    ∀ (k i : Nat) (s : Shared), n - i = k → i ≤ n → St i s → (∀ b o, h0.get? b = some o → s.heap.get? b = some o) → (∃ L es ep t, SK P w s.heap S L es ep t ∧ L.Perm (ks.take i)) →
      (∀ s' L es ep t, Moved (S :: wr) G s s' → SK P w s'.heap S L es ep t → L.Perm ks → (∀ b o, h0.get? b = some o → s'.heap.get? b = some o) → R (.ok (.ret .none)) s') →
      codeAny (model P w) A (.builtin "set.update.loop" ⟨[.ref S, .ref I], []⟩) R s := by
  have hSw : S ∉ wr := fun h => hSf (W.sub _ h)
  have hsub : ∀ b ∈ wr, b ∈ S :: wr := fun b hb => List.mem_cons_of_mem _ hb
  have old : ∀ {s s' : Shared}, Moved wr G s s' → (∀ b o, h0.get? b = some o → s.heap.get? b = some o) → ∀ b o, h0.get? b = some o → s'.heap.get? b = some o := fun hm hkp b o e =>
    hm.heap b o (fun hb => by rw [hw0 b hb] at e; cases e) (hkp b o e)
  intro k
  induction k with
  | zero =>
    intro i s hk' hi hst hkp ⟨L, es, ep, t, hS, g⟩ hR
    obtain rfl : i = n := by omega
    refine codeAny_builtin F.entry_set_update_loop ?_
    rw [Around.under_plainId F.plain_set_update_loop _]
    show wpAny _ A.in1 (pyNext (.ref I) >>= _) _ _ s
    refine wpAny_bind (W.done s _ _ hst fun s' hm => ?_)
    show wpAny _ A.in1 (ret Value.none) _ _ s'
    have hkp' := old hm hkp
    rw [hn, List.take_length] at g
    exact wpAny_pure (hR s' L es ep t (hm.mono hsub) (hS.keep (fun o e => hm.heap S o hSw e) fun p hp => isK_keep (hk p (g.mem_iff.mp hp)) hkp') g hkp')
  | succ k ih =>
    intro i s hk' hi hst hkp ⟨L, es, ep, t, hS, g⟩ hR
    have hlt : i < n := by omega
    refine codeAny_builtin F.entry_set_update_loop ?_
    rw [Around.under_plainId F.plain_set_update_loop _]
    show wpAny _ A.in1 (pyNext (.ref I) >>= _) _ _ s
    refine wpAny_bind (W.item i s _ _ hlt hst fun v s' hP hst' hm => ?_)
    obtain ⟨p, hp, rfl⟩ := hval i v hP
    have hkp' := old hm hkp
    have sub : ∀ p ∈ L, p ∈ ks := fun p hp => List.mem_of_mem_take (g.mem_iff.mp hp)
    have hS' : SK P w s'.heap S L es ep t := hS.keep (fun o e => hm.heap S o hSw e) fun q hq => isK_keep (hk q (sub q hq)) hkp'
    have hx : IsK P w s'.heap p.2 p.1 := isK_keep (hk p (List.mem_of_getElem? hp)) hkp'
    have htk : ks.take (i + 1) = ks.take i ++ [p] := by rw [List.take_succ, hp]; rfl
    have hnew : p.2 ∉ L.map (·.2) := fun z => by
      have z1 := (g.map (·.2)).mem_iff.mp z
      have z2 : ((ks.take (i + 1)).map (·.2)).Nodup := by rw [List.map_take]; exact nd.sublist (List.take_sublist _ _)
      rw [htk, List.map_append] at z2
      exact (List.nodup_append.mp z2).2.2 _ z1 _ (by simp) rfl
    have hll : L.length = i := by rw [g.length_eq, List.length_take]; omega
    show wpAny _ A.in1 (holding [Value.ref p.1] (setAdd S (.ref p.1)) >>= _) _ _ s'
    refine wpAny_bind (wpAny_holding ?_)
    unfold setAdd
    refine wpAny_holding ?_
    refine wpAny_bind (wpAny_pyHash_tuple hu hx ?_)
    refine add_new (s := { s' with toks := s'.toks + (p.2.length + 1) }) hS' hx hu hnew (by omega) fun b h' L' es' ep' t' hsb hS2 pm => ?_
    have g' : L'.Perm (ks.take (i + 1)) := by
      rw [htk]
      exact (pm.trans (g.cons p)).trans (List.perm_append_singleton p _).symm
    have hkp2 : ∀ b o, h0.get? b = some o → h'.get? b = some o := fun b o e => (hsb.2 b (fun z => by rw [z, hS0] at e; cases e)).trans (hkp' b o e)
    refine wpAny_pure ⟨plainId_quiet F.plain_set_update_loop _, ih (i + 1) _ (by omega) hlt (W.frame _ s' _ _ hst' (Nat.le_add_right _ _) fun b hb o e => ?_) hkp2 ⟨L', es', ep', t', hS2, g'⟩ fun s'' L2 es2 ep2 t2 hm'' hS'' g'' hkp'' => ?_⟩
    · rw [hsb.2 b (fun h : b = S => hSf (by rw [← h]; exact hb))]; exact e
    · refine hR s'' L2 es2 ep2 t2 (Moved.trans W.gtrans ((hm.mono hsub).then_heap (Nat.le_add_right _ _) fun b o hb e => ?_) hm'') hS'' g'' hkp''
      rw [hsb.2 b (fun h : b = S => hb (by rw [h]; exact List.mem_cons_self))]; exact e
end

end Sw
/-! SwS7 -/
namespace Sw
set_option Elab.async false
set_option linter.all false
set_option maxRecDepth 100000
set_option maxHeartbeats 4000000
open PySem PySem.Spec PyProof.Rows L2
def keyR (r : Rw) : List Key := .inr r.1 :: r.2.map .inl
theorem keyR_inj {a b : Rw} (h : keyR a = keyR b) : a = b := by
  unfold keyR at h
  injection h with h1 h2
  injection h1 with h1
  have h3 : a.2 = b.2 := List.map_inj_right (f := (Sum.inl : Int → Key)) (fun _ _ e => Sum.inl.inj e) |>.mp h2
  exact Prod.ext h1 h3
section
variable {X : Cx}
/-- set(list of rows that differ), then its length -/
theorem set_rows {pins : List (Addr × Obj)} {s : Shared} {σ : L2.St} {H : Hp} {l : Addr} {us : List V} {rs : List Rw} {Q : Value → Shared → Prop} {E : Value → Shared → Prop} (I : Inv X pins σ H s) (hh : X.A.handled = none) (hu : X.A.units + 8 < cLine)
    (hl : SqL X.K H l us) (hp : Paired (RwAt X.K H) us rs) (nd : rs.Nodup) (hz : rs.length ≤ 1228)
    (h : ∀ h' tk L es ep t, SK X.prog X.w h' s.heap.objs.size L es ep t → L.length = rs.length → (∀ b o, s.heap.get? b = some o → h'.get? b = some o) → Q (.ref s.heap.objs.size) { s with heap := h', toks := tk }) :
    wpAny (model X.prog X.w) X.A (call (.type "set") [.ref l]) Q E s := by
  obtain ⟨its, rv, p, _⟩ := I.list hl
  have row : ∀ {us : List V} {rs : List Rw} {its : List Value}, Paired (RwAt X.K H) us rs → Vals us its → ∃ ks : List (Addr × List Key), its = ks.map (fun q => Value.ref q.1) ∧ ks.map (·.2) = rs.map keyR ∧ ∀ q ∈ ks, IsK X.prog X.w s.heap q.2 q.1 := by
    intro us rs its hp
    induction hp generalizing its with
    | nil => intro r; cases r; exact ⟨[], rfl, rfl, fun q z => nomatch z⟩
    | @cons u0 r0 us0 rs0 h1 _ ih =>
      intro r
      cases r with
      | cons r1 r2 =>
        obtain ⟨ks, e1, e2, e3⟩ := ih r2
        obtain ⟨a, rfl, sq⟩ := h1
        rename_i v vs
        have ev : v = .ref a := r1
        subst ev
        obtain ⟨it, rv2, ⟨o, ho, hc, n, hd⟩, _⟩ := I.tuple sq
        refine ⟨(a, keyR r0) :: ks, by rw [e1]; rfl, by rw [List.map_cons, e2]; rfl, fun q hq => ?_⟩
        rcases List.mem_cons.mp hq with e | hq
        · subst e
          refine ⟨o, it.toArray, n, ho, hc, hd, ?_⟩
          have e4 : V.str r0.1 :: r0.2.map V.int = (keyR r0).map kV := by
            unfold keyR
            rw [List.map_cons, List.map_map]
            rfl
          rw [e4] at rv2
          exact items_are rv2
        · exact e3 q hq
  obtain ⟨ks, ei, ek, hk⟩ := row hp rv
  have kl : ks.length = rs.length := by
    have := congrArg List.length ek
    rwa [List.length_map, List.length_map] at this
  have ndk : (ks.map (·.2)).Nodup := by
    rw [ek]
    exact List.Pairwise.map _ (fun a b hne e => hne (keyR_inj e)) nd
  have hlt : l < s.heap.objs.size := by obtain ⟨_, q, _⟩ := p.isList; exact Heap.lt_size q
  have z1 : (s.heap.push (sObj X.w)).objs.size = s.heap.objs.size + 1 := Heap.size_push ..
  have n1 : l ≠ (s.heap.push (sObj X.w)).objs.size := by rw [z1]; exact Nat.ne_of_lt (Nat.lt_succ_of_lt hlt)
  have n2 : s.heap.objs.size ∉ [(s.heap.push (sObj X.w)).objs.size, l] := by
    rw [z1]; simp only [List.mem_cons, List.not_mem_nil, or_false, not_or]
    exact ⟨Nat.ne_of_lt (Nat.lt_succ_self _), Nat.ne_of_gt hlt⟩
  have isz : its.toArray.size = ks.length := by rw [List.size_toArray, ei, List.length_map]
  have hval : ∀ (i : Nat) (v : Value), its.toArray[i]? = some v → ∃ q, ks[i]? = some q ∧ v = .ref q.1 := fun i v hv => by
    rw [← Array.getElem?_toList, List.toList_toArray, ei, List.getElem?_map] at hv
    cases e : ks[i]? with
    | none => rw [e] at hv; cases hv
    | some q => rw [e] at hv; cases hv; exact ⟨q, rfl, rfl⟩
  have no : ∀ b, s.heap.objs.size ≤ b → s.heap.get? b = none := fun b hb => by
    cases e : s.heap.get? b with
    | none => rfl
    | some o => exact absurd (Heap.lt_size e) (Nat.not_lt.mpr hb)
  refine call_set_by (Post := fun h' _ => ∃ L es ep t, SK X.prog X.w h' s.heap.objs.size L es ep t ∧ L.Perm ks) p.isList (fun R hR => ?_) fun h' tk ⟨L, es, ep, t, hS, pm⟩ hkp => ?_
  · have hl1 : (s.heap.push (sObj X.w)).IsList l its.toArray := by
      obtain ⟨o, ho, hcls, n, hdt⟩ := p.isList
      exact ⟨o, Heap.get?_push_of_some _ ho, hcls, n, hdt⟩
    refine loop_new ((Walks.list (by simp [hh]) _ l n1 its.toArray).toS) s.heap.objs.size n2 ks isz (by omega) ndk hval s.heap hk (no _ (Nat.le_refl _)) (fun b hb => ?_) (by show X.A.units + 1 + 1 + 1 < cLine; omega) (its.toArray.size - 0) 0 _ rfl (Nat.zero_le _)
      ⟨⟨_, Heap.get?_push_size _ rfl, rfl, rfl⟩, hl1.push _⟩ (fun b o e => Heap.get?_push_of_some _ (Heap.get?_push_of_some _ e)) ⟨[], _, _, _, sk_fresh (Heap.get?_push_of_some _ (Heap.get?_push_size _ rfl)), List.Perm.refl _⟩ fun s' L es ep t hm hS pm hkp => ?_
    · simp only [List.mem_cons, List.not_mem_nil, or_false] at hb
      exact no b (by first | (rw [hb, z1]; exact Nat.le_succ _) | (rcases hb with hb | hb <;> rw [hb] <;> omega))
    · obtain ⟨h', g2, d', tk', os'⟩ := s'
      obtain rfl : g2 = s.gens := hm.gens
      obtain rfl : d' = s.drawn := hm.drawn
      obtain rfl : os' = s.os := hm.os
      exact hR h' tk' ⟨L, es, ep, t, hS, pm⟩ hkp
  · exact h h' tk L es ep t hS (by rw [pm.length_eq, kl]) hkp
end

end Sw
/-! SwS8 -/
namespace Sw
set_option Elab.async false
set_option linter.all false
set_option maxRecDepth 100000
set_option maxHeartbeats 4000000
open PySem PySem.Spec PyProof.Rows L2
/-- a set of which only the number of members is kept -/
def NumO (a : Addr) (n : Nat) : HO := .ext fun h => ∃ o es ep t, h.get? a = some o ∧ o.ExactSet ∧ o.data = .set es ep t ∧ t.fits es.size = true ∧ es.size = n
def rSetRows (K : PySem.W.Frag) : List V → Hp → VK → Prop := fun xs H Q => ∃ (l : Addr) (us : List V) (rs : List Rw), xs = [.ref l] ∧ SqL K H l us ∧ Paired (RwAt K H) us rs ∧ rs.Nodup ∧ rs.length ≤ 1228 ∧ ∀ p, H p = none → Q (.ref p) (upd H p (NumO p rs.length))
theorem cr_setRows {X : Cx} {k : Nat} (hr : Room k X.A) : CallR X (.type "set") (rSetRows X.K) := by
  intro pins s σ H xs us Q I r h
  obtain ⟨l, vs, rs, rfl, sq, hp, nd, hz, q⟩ := h
  obtain ⟨u, rfl, ru⟩ := vals1 r
  obtain rfl : u = Value.ref l := ru
  refine set_rows I hr.hd (by have := hr.un; omega) sq hp nd hz fun h' tk L es ep t S hL hk => ?_
  obtain ⟨o, ho, hex, hd⟩ := S.ob
  have n0 := I.hok.fresh (Nat.le_refl s.heap.objs.size)
  have fits := SK.fits (s := { s with heap := h', toks := tk }) S
  have size := SK.size (s := { s with heap := h', toks := tk }) S
  refine ⟨.ref s.heap.objs.size, _, I.laid (t' := tk) hk (Nat.le_refl _) (o := NumO s.heap.objs.size rs.length) ⟨⟨o, es, ep, t, ho, hex, hd, fits, by rw [size, hL]⟩, ⟨o, ho⟩, fun h1 h2 ⟨o1, es1, ep1, t1, e1, r1⟩ keep => ⟨o1, es1, ep1, t1, keep _ e1, r1⟩⟩, rfl, q _ n0⟩
def rLenNum : List V → Hp → VK → Prop := fun xs H Q => ∃ (p : Addr) (n : Nat), xs = [.ref p] ∧ H p = some (NumO p n) ∧ n ≤ 100000 ∧ Q (.int n) H
theorem cr_lenNum {X : Cx} : CallR X (.builtin "len") rLenNum := by
  intro pins s σ H xs us Q I r h
  obtain ⟨p, n, rfl, hp, hn, q⟩ := h
  obtain ⟨u, rfl, ru⟩ := vals1 r
  obtain rfl : u = Value.ref p := ru
  obtain ⟨⟨o, es, ep, t, ho, hex, hd, hf, e⟩, _⟩ := I.hok p _ hp
  refine PySem.call_len_set ho hex hd hf (by rw [e]; omega) ?_
  exact ⟨.int n, H, I.kept fun b u e => e, ⟨_, by rw [e]⟩, q⟩

end Sw
/-! SwE -/
namespace Sw
set_option Elab.async false
set_option linter.all false
set_option maxRecDepth 100000
set_option maxHeartbeats 4000000
open PySem PySem.Spec PyProof.Rows L2
/-! ### defs that are called while no repr runs: by names, and the law's own call -/
structure KnG (P : Program) (w : World) (K : PySem.W.Frag) (mg : Str → Option Value) (base : Heap) (k : Nat) (f : Addr) (ps : List Str) (sp : Sp) : Prop where
  ex : ∃ fd, FnOkG P w K mg base CX0 k f fd ps sp ∧ Binds K fd ps []
  kp : PySem.W.keepIn K (.ref f) = true
section
variable {P : Program} {w : World} {K : PySem.W.Frag} {mg : Str → Option Value} {base : Heap}
theorem fdG_of {x qual : Str} {st : Stmt} {f : Addr} {fd : FuncData} {N ps : List Str} {k : Nat} {sp : Sp} (F : FnP K x qual st f fd) (S : FnScope N ps (defScope st))
    (len : ∀ vs H Q E, sp vs H Q E → vs.length = ps.length)
    (body : ∀ (cdv : Value) (A : Around) (outer : List Env) (s : Shared) (H : Hp) (vs : List V) (Q : VK) (E : XK), Room k (A.deeper (envOfC qual (defScope st) s.heap.objs.size f cdv)) → (A.deeper (envOfC qual (defScope st) s.heap.objs.size f cdv)).guards = some [] → sp vs H Q E →
      ∃ t, PSs (cxOf CX0 P w K mg base N qual (defScope st) f cdv A outer s H E).nox (defBody st) t ∧ t { nx := fun _ H' => Q .non H', rt := Q } (start N vs) H) : FnOkG P w K mg base CX0 (k + 1) f fd ps sp := by
  obtain ⟨oc, od, dV, kV, doc, pm, an, cdv, ct, osl, rfl, lk, hcd, _⟩ := F.ex
  refine fn_ofG lk hcd S len fun A outer s H vs Q E hr hg h => ?_
  obtain ⟨t, h1, h2⟩ := body cdv A outer s H vs Q E hr hg h
  exact ⟨t, h1.nox, h2⟩
theorem knG_of {x qual : Str} {st : Stmt} {f : Addr} {N ps : List Str} {k : Nat} {sp : Sp} (D : ∃ fd, FnP K x qual st f fd) (S : FnScope N ps (defScope st))
    (b : ∀ (kV doc pm : Value) (an : Option Addr) (cdv ct : Value) (us : List Value), us.length = ps.length → bindArgs (PySem.W.fnOf x qual (defArgs st) (defBody st) (defScope st) .none kV doc pm an cdv ct) ⟨us, []⟩ = pure (ps.zip us))
    (len : ∀ vs H Q E, sp vs H Q E → vs.length = ps.length)
    (body : ∀ (cdv : Value) (A : Around) (outer : List Env) (s : Shared) (H : Hp) (vs : List V) (Q : VK) (E : XK), Room k (A.deeper (envOfC qual (defScope st) s.heap.objs.size f cdv)) → (A.deeper (envOfC qual (defScope st) s.heap.objs.size f cdv)).guards = some [] → sp vs H Q E →
      ∃ t, PSs (cxOf CX0 P w K mg base N qual (defScope st) f cdv A outer s H E).nox (defBody st) t ∧ t { nx := fun _ H' => Q .non H', rt := Q } (start N vs) H) : KnG P w K mg base (k + 1) f ps sp := by
  obtain ⟨fd, F⟩ := D
  exact ⟨⟨fd, fdG_of F S len body, F.bindsN b⟩, F.kp⟩
end
theorem pe_knG {X : Cx} {k : Nat} {f : Addr} {ps : List Str} {sp : Sp} {t : TA} {x : Str} {e : Expr} {es : List Expr} {p pos : Pos} (F : KnG X.prog X.w X.K X.mg X.base k f ps sp) (hr : Room k X.A) (hG : X.A.guards = some []) (hg : Gl X x) (hm : X.mg x = some (.ref f)) (ha : PA X (e :: es) t)
    (hdb : (x == ("__debug__" : Str)) = false := by decide) (he : starEach (e :: es) X.env = (false, eval e X.env) :: starEach es X.env := by rfl) (hpl : (backTo pos (starEach es X.env)).any (·.1) = false := by rfl) :
    PE X (.Call (.Name x p) (e :: es) [] pos) (tCall sp [] E0 t) := by
  obtain ⟨⟨fd, F1, b⟩, kp⟩ := F
  exact pe_callG F1 hr hG hg hm kp b .nil pass0 ha hdb he hpl
/-- the object of a script -/
def scrObj (us : List Value) : Obj := { cls := .type "list", data := .seq us.toArray }
/-- what is tracked at the beginning: the script, where it isn't an object of the module -/
def hp0 (K : PySem.W.Frag) (a : Addr) (us : List Value) (ns : List Int) : Hp := fun b => if b = a ∧ K.lookup a = none then some (.frz (scrObj us) (.lst (ns.map V.int))) else none
theorem hp0_some {K : PySem.W.Frag} {a b : Addr} {us : List Value} {ns : List Int} {u : HO} (h : hp0 K a us ns b = some u) : b = a ∧ K.lookup a = none ∧ u = .frz (scrObj us) (.lst (ns.map V.int)) := by
  unfold hp0 at h
  split at h
  · rename_i q
    injection h with h
    exact ⟨q.1, q.2, h.symm⟩
  · cases h
/-- the law's call, from its promise, where no repr runs -/
theorem law_callG {P : Program} {w : World} {K : PySem.W.Frag} {mg mb : Str → Option Value} {k : Nat} {fa a : Addr} {fd : FuncData} {x : Str} {sp : Sp} {z : Shared} {us : List Value} {ns : List Int}
    (hk : K.In z.heap) (hns : z.heap.Ns mainGlobals mg) (hb : z.heap.Ns builtinsNs mb) (hbb : ∀ x : Str, x ≠ "__name__" → mb x = bootBuiltins x) (hlim : z.heap.NoLimit) (hg : z.gens = #[])
    (ha : z.heap.get? a = some (scrObj us)) (hi : IntsAre us ns) (hl : ns.length ≤ sizeLine) (hr : Room k callerA)
    (F : ∀ base : Heap, K.In base → base.Ns mainGlobals mg → FnOkG P w K mg base CX0 k fa fd [x] sp) (hbind : ∀ (s : Shared) (u : Value), BindsTo s fd ⟨[u], []⟩ [(x, u)])
    (hsp : ∀ H : Hp, SqL K H a (ns.map V.int) → sp [.ref a] H (fun v _ => v = .bl true) fun _ _ _ => False) :
    codeAny (model P w) callerA (.call (.ref fa) ⟨[.ref a], []⟩) (fun r s' => r = .ok (.ret (.bool true)) ∧ OldK z.heap s'.heap ∧ s'.os = z.os ∧ AllBare s'.gens) z := by
  have rv := vals_ints hi
  have ul := hi.length
  -- what is tracked stands as it is told
  have ok : HOk P w (hp0 K a us ns) z.heap := fun b u hu => by
    obtain ⟨rfl, _, rfl⟩ := hp0_some hu
    exact ⟨ha, by rw [List.length_map]; exact hl, us, _, rv, ha⟩
  have sq : SqL K (hp0 K a us ns) a (ns.map V.int) := by
    cases q : K.lookup a with
    | none => exact .inl (.inr ⟨scrObj us, if_pos ⟨rfl, q⟩⟩)
    | some o =>
      obtain rfl : o = scrObj us := Option.some.inj ((hk a o q).symm.trans ha)
      exact .inr ⟨_, us.toArray, _, q, rfl, rfl, rfl, by rw [List.size_toArray, ul]; exact hl, by simpa using rv⟩
  -- what lies beneath: all but the script
  have under : ∀ {b : Addr} {o : Obj}, z.heap.get? b = some o → (b = a → K.lookup a ≠ none) → (hidT z.heap (hp0 K a us ns)).get? b = some o := fun {b o} e q => hidT_get e (if_neg fun y => q y.1 y.2)
  have dict : ∀ {b : Addr} {m : Str → Option Value}, z.heap.Ns b m → (hidT z.heap (hp0 K a us ns)).Ns b m := fun {b m} ⟨o, es, ep, e, d, r⟩ => by
    refine ⟨o, es, ep, under e fun y => ?_, d, r⟩
    rw [y, ha] at e
    injection e with e
    rw [← e] at d
    exact nomatch (show Data.seq us.toArray _ = Data.dict es ep from d)
  have hkB : K.In (hidT z.heap (hp0 K a us ns)) := fun b o e => under (hk b o e) fun y => by rw [← y, e]; simp
  obtain ⟨ml, l1, l2⟩ := hlim
  have env : Env0 P w K mg (hidT z.heap (hp0 K a us ns)) callerA [] z (hp0 K a us ns) :=
    { frames := rfl, mod := ⟨hkB, dict hns, ⟨mb, dict hb, hbb⟩, ⟨ml, dict l1, l2⟩⟩, bs := fun b o e => of_hidT e, bsz := Nat.le_of_eq (hidT_size _ _), funs := trivial, frf := fun b y => absurd (show b ∈ ([] : List Addr) from y) (by simp), hok := ok, bare := .of_eq hg }
  have go := (F _ hkB (dict hns)).run callerA [] z (hp0 K a us ns) ⟨[.ref a], []⟩ [.ref a] [.ref a] (fun v _ => v = .bl true) (fun _ _ _ => False) hr rfl env (hbind z (.ref a)) (.cons rfl .nil) (hsp _ sq)
  refine codeAny_mono go fun r s' h => ?_
  match r, h with
  | .error e, h => exact (show False from h).elim
  | .ok .next, h => exact (show False from h).elim
  | .ok .brk, h => exact (show False from h).elim
  | .ok .cont, h => exact (show False from h).elim
  | .ok (.ret u), h =>
    obtain ⟨v, H', os, bare, un, ok', rv', q⟩ := h
    obtain rfl : v = .bl true := q
    obtain rfl : u = Value.bool true := rv'
    refine ⟨rfl, OldK.of_keep fun b o e => ?_, os, bare⟩
    cases q : hp0 K a us ns b with
    | none => exact un.keep b o e q (fun y => absurd (show b ∈ ([] : List Addr) from y) (by simp)) (by simp)
    | some u =>
      obtain ⟨rfl, _, rfl⟩ := hp0_some q
      obtain ⟨e1, _⟩ := ok' b _ (un.frzs b _ _ q)
      rw [← e, ha]
      exact e1
/-- the end of the row -/
theorem walk_ofG {l : PySem.W.OpenLaw} {n k : Nat} {q : Program} {loose : List Str} {XP : (Str → Option Value) → Heap → Prop} {YP : World → Heap → Prop} {d : DefRec} {K : Params → PySem.W.Frag} {sp : World → Sp} {x : Str}
    (hn : l.most = some n) (hn2 : n ≤ sizeLine) (hdf : d.params.defaults = []) (hr : Room k callerA)
    (hY : ∀ (w : World) (h : Heap), YP w h → (K w.params).In h)
    (F : ∀ (w : World) (mg : Str → Option Value) (fa : Addr) (h : Heap), (K w.params).In h → h.Ns mainGlobals mg → mg d.name = some (.ref fa) →
      ∃ fd : FuncData, (∀ (s : Shared) (u : Value), BindsTo s fd ⟨[u], []⟩ [(x, u)]) ∧
        ∀ base : Heap, (K w.params).In base → base.Ns mainGlobals mg → FnOkG l.prog w (K w.params) mg base CX0 k fa fd [x] (sp w))
    (hsp : ∀ (w : World) (H : Hp) (a : Addr) (ns : List Int), ns.length ≤ n → (∀ z ∈ ns, Builtin.Int.intBits z ≤ 1048576) → SqL (K w.params) H a (ns.map V.int) → sp w [.ref a] H (fun v _ => v = .bl true) fun _ _ _ => False) :
    PySem.W.WalkO q loose XP YP l.row.toRowW d [] (fun f vs => PySem.call f vs) :=
  Att.attach_callB hn hdf fun w _ s₁ mg _ fa _ _ _ _ a us ns G Y _ _ _ hmg hobj hints hlen hbits hg => by
    obtain ⟨fd, hb, hF⟩ := F w mg fa _ (hY w _ Y) G.T.g hmg
    exact law_callG (hY w _ Y) G.T.g G.T.b G.T.builtins G.T.nolimit hg hobj hints (Nat.le_trans hlen hn2) hr hF hb fun H hS => hsp w H a ns hlen hbits hS

end Sw
/-! SwM6 -/
namespace Sw
set_option Elab.async false
set_option linter.all false
set_option maxRecDepth 100000
set_option maxHeartbeats 4000000
open PySem PySem.Spec PyProof.Rows L2
/-! ### what the law asks to be shown, the run that ends, the program by hand -/
section
variable {p : List Rw} {inp : List Int}
theorem run_exists : ∀ {M : Nat}, (itb p inp M ms0).over = some "end" → ∃ N, N ≤ M ∧ RunOk p inp N
  | 0, h => by cases (show (none : Option Str) = some "end" from h)
  | M + 1, h => by
    cases e : (itb p inp M ms0).over with
    | none =>
      refine ⟨M + 1, Nat.le_refl _, h, fun k hk => ?_⟩
      cases ek : (itb p inp k ms0).over with
      | none => rfl
      | some y =>
        have : itb p inp M ms0 = itb p inp k ms0 := by
          rw [show M = k + (M - k) by omega, itb_add, itb_over (by rw [ek]; simp)]
        rw [this, ek] at e; cases e
    | some z =>
      rw [itb_succ, bt_over (by rw [e]; simp)] at h
      obtain ⟨N, h1, h2⟩ := run_exists (M := M) h
      exact ⟨N, by omega, h2⟩
theorem over_end {st : MS} (h : (outc st).end_ = "end") : st.over = some "end" := by
  have h : st.over.getD "dry" = "end" := h
  cases e : st.over with
  | none => rw [e] at h; exact absurd (show ("dry" : Str) = "end" from h) (by decide)
  | some z => rw [e] at h; exact congrArg some h
end
/-- what is shown of a machine -/
def dM (st : MS) : PyData := .tuple [.int st.at_, .int st.done, dI st.words, dI st.store, dI st.said, .int (st.stands.length : Nat)]
theorem bulk_ints : ∀ ns : List Int, PyData.bulkAll (ns.map PyData.int) = ns.length
  | [] => rfl
  | n :: r => by
    rw [List.map_cons, PyData.bulkAll, bulk_ints r, PyData.bulk, List.length_cons]
    omega
theorem dM_can (st : MS) : PyData.canLay0 (dM st) = true := by
  simp [dM, dI, PyData.canLay0, PyData.canLayAll0, can_ints]
theorem dM_nd (st : MS) : (dM st).hasDict = false := by
  have key : ∀ ns : List Int, PyData.hasDictAll (ns.map PyData.int) = false := fun ns => by
    induction ns with
    | nil => rfl
    | cons n r ih => simp [PyData.hasDictAll, PyData.hasDict, ih]
  simp [dM, dI, PyData.hasDict, PyData.hasDictAll, key]
theorem dM_dep (st : MS) : (dM st).depth ≤ 40 := by
  simp [dM, dI, PyData.depth, PyData.depthAll, dep_ints]
theorem log_small {n : Nat} (h : n < 10 ^ 12) : n.log2 < 1920 := by
  by_cases e : n = 0
  · subst e; decide
  · rw [Nat.log2_lt e]
    exact Nat.lt_trans h (by decide)
theorem dM_show {st : MS} (h1 : st.at_.natAbs < 10 ^ 12) (h2 : st.done.natAbs < 10 ^ 12) (hw : ∀ z ∈ st.words, z.natAbs < 10 ^ 12) (hs : ∀ z ∈ st.store, z.natAbs < 10 ^ 12) (ht : ∀ z ∈ st.said, z.natAbs < 10 ^ 12) (hk : st.stands.length < 10 ^ 12) : (dM st).showable = true := by
  have key : ∀ ns : List Int, (∀ z ∈ ns, z.natAbs < 10 ^ 12) → PyData.showableAll (ns.map PyData.int) = true := fun ns h => by
    induction ns with
    | nil => rfl
    | cons n r ih =>
      rw [List.map_cons, PyData.showableAll, PyData.showable, ih fun z hz => h z (.tail _ hz), Bool.and_true]
      exact decide_eq_true (log_small (h n (.head _)))
  have one : ∀ i : Int, i.natAbs < 10 ^ 12 → (PyData.int i).showable = true := fun i h => by
    rw [PyData.showable]
    exact decide_eq_true (log_small h)
  have tup : ∀ ns : List Int, (∀ z ∈ ns, z.natAbs < 10 ^ 12) → (dI ns).showable = true := fun ns h => by
    rw [PyData.showable]
    exact key ns h
  rw [dM, PyData.showable]
  simp only [PyData.showableAll, one _ h1, one _ h2, tup _ hw, tup _ hs, tup _ ht, one (st.stands.length : Nat) (by simpa using hk), Bool.and_self]
theorem dM_len {st : MS} (h1 : st.at_.natAbs < 10 ^ 12) (h2 : st.done.natAbs < 10 ^ 12) (hw : ∀ z ∈ st.words, z.natAbs < 10 ^ 12) (hs : ∀ z ∈ st.store, z.natAbs < 10 ^ 12) (ht : ∀ z ∈ st.said, z.natAbs < 10 ^ 12) (hk : st.stands.length < 10 ^ 12) (hb : st.words.length + st.store.length + st.said.length ≤ 100000) : (dM st).shown.length ≤ sizeLine := by
  have tup : ∀ ns : List Int, (∀ z ∈ ns, z.natAbs < 10 ^ 12) → (dI ns).intsShort 13 = true := fun ns h => by
    rw [PyData.intsShort]
    exact PyData.intsShortAll_ints ns h
  have one : ∀ i : Int, i.natAbs < 10 ^ 12 → (PyData.int i).intsShort 13 = true := fun i h => by
    rw [PyData.intsShort]
    exact decide_eq_true (PyData.shown_int_le h)
  have sh : (dM st).intsShort 13 = true := by
    rw [dM, PyData.intsShort]
    simp only [PyData.intsShortAll, one _ h1, one _ h2, tup _ hw, tup _ hs, tup _ ht, one (st.stands.length : Nat) (by simpa using hk), Bool.and_self]
  have := PyData.shown_le_bulk 13 (by decide) (dM st) (PyData.leavesShort_of_canLay0 13 _ (dM_can st) sh)
  have e : (dM st).bulk = 6 + (st.words.length + st.store.length + st.said.length) := by
    simp only [dM, dI, PyData.bulk, PyData.bulkAll, bulk_ints]
    omega
  rw [e] at this
  have z : 2000000 ≤ sizeLine := by decide
  omega
/-- three beats of one box -/
def handP : List Rw := [(("set" : Str), [0, 1]), (("tell" : Str), [0]), (("end" : Str), [])]
theorem hand_rows {i : Nat} {r : Rw} (h : handP[i]? = some r) : r = (("set" : Str), [0, 1]) ∨ r = (("tell" : Str), [0]) ∨ r = (("end" : Str), []) := by
  have := List.mem_of_getElem? h
  simpa [handP] using this
theorem hand_ok : PgOk handP := by
  refine ⟨by decide, by decide, fun i r h => ?_, fun i r z h hz => ?_, (("end" : Str), []), rfl, .inr rfl⟩
  · rcases hand_rows h with rfl | rfl | rfl
    · refine RwOk_of (f := "sn") (by decide) (by decide) fun i c z h1 h2 => ?_
      rcases i with _ | _ | i
      · cases Option.some.inj (show some 115 = some c from h1); cases Option.some.inj (show some (0 : Int) = some z from h2); decide
      · cases Option.some.inj (show some 110 = some c from h1); cases Option.some.inj (show some (1 : Int) = some z from h2); decide
      · simp at h2
    · refine RwOk_of (f := "r") (by decide) (by decide) fun i c z h1 h2 => ?_
      rcases i with _ | i
      · cases Option.some.inj (show some 114 = some c from h1); cases Option.some.inj (show some (0 : Int) = some z from h2); decide
      · simp at h2
    · refine RwOk_of (f := "") (by decide) (by decide) fun i c z h1 h2 => ?_
      simp at h2
  · rcases hand_rows h with rfl | rfl | rfl
    · rw [show lds (("set" : Str), [0, 1]) = none by decide +kernel] at hz; cases hz
    · rw [show lds (("tell" : Str), [0]) = none by decide +kernel] at hz; cases hz
    · rw [show lds (("end" : Str), []) = none by decide +kernel] at hz; cases hz
theorem hand_run (inp : List Int) : RunOk handP inp 3 := by
  refine ⟨by kernel_rfl, fun k hk => ?_⟩
  rcases k with _ | _ | _ | k
  · rfl
  · kernel_rfl
  · kernel_rfl
  · omega
theorem hand_len (inp : List Int) : (slL handP inp 3).length = 45 := by
  kernel_rfl

end Sw
/-! SwL13 -/
namespace Sw
set_option Elab.async false
set_option linter.all false
set_option maxRecDepth 100000
set_option maxHeartbeats 4000000
open PySem PySem.Spec PyProof.Rows L2
section
variable {w : World} {K : PySem.W.Frag} {mg : Str → Option Value} {base : Heap}
/-- what is shown of a machine stands at v -/
def MvAt (K : PySem.W.Frag) (H : Hp) (v : V) (st : MS) : Prop := ∃ a t1 t2 t3, v = .ref a ∧ SqT K H a [.int st.at_, .int st.done, .ref t1, .ref t2, .ref t3, .int (st.stands.length : Nat)] ∧ SqT K H t1 (st.words.map V.int) ∧ SqT K H t2 (st.store.map V.int) ∧ SqT K H t3 (st.said.map V.int)
theorem MvAt.tl {H H' : Hp} {v : V} {st : MS} (h : MvAt K H v st) (t : Tl K H H') : MvAt K H' v st := by
  obtain ⟨a, t1, t2, t3, e, h0, h1, h2, h3⟩ := h
  exact ⟨a, t1, t2, t3, e, t _ _ h0, t _ _ h1, t _ _ h2, t _ _ h3⟩
theorem MvAt.dp {H : Hp} {v : V} {st : MS} (h : MvAt K H v st) : Dp K H v (dM st) := by
  obtain ⟨a, t1, t2, t3, rfl, h0, h1, h2, h3⟩ := h
  exact .tup h0 (.cons (.int _) (.cons (.int _) (.cons (dp_dI h1) (.cons (dp_dI h2) (.cons (dp_dI h3) (.cons (.int _) .nil))))))
theorem ms_new {H H5 H6 H7 : Hp} {t1 t2 t3 a : Addr} {st : MS} (s5 : Same H H5) (h1 : H5 t1 = some (.tup (st.words.map V.int))) (s6 : Same H5 H6) (h2 : H6 t2 = some (.tup (st.store.map V.int))) (s7 : Same H6 H7) (h3 : H7 t3 = some (.tup (st.said.map V.int))) (ha : H7 a = none) :
    Same H (upd H7 a (.tup [V.int st.at_, .int st.done, .ref t1, .ref t2, .ref t3, .int (st.stands.length : Nat)])) ∧ MvAt K (upd H7 a (.tup [V.int st.at_, .int st.done, .ref t1, .ref t2, .ref t3, .int (st.stands.length : Nat)])) (.ref a) st := by
  have s8 := same_new (o := .tup [V.int st.at_, .int st.done, .ref t1, .ref t2, .ref t3, .int (st.stands.length : Nat)]) ha
  exact ⟨((s5.trans s6).trans s7).trans s8, a, t1, t2, t3, rfl, sq_new, tl_same ((s6.trans s7).trans s8) _ _ (sq_tup h1), tl_same (s7.trans s8) _ _ (sq_tup h2), tl_same s8 _ _ (sq_tup h3)⟩
theorem w_abs {n : Nat} {l : List Int} (h : Wds n l) : ∀ z ∈ l, z.natAbs < 10 ^ 12 := fun z hz => by
  have := h.2 z hz
  have e : (10 : Nat) ^ 12 = 1000000000000 := by decide
  omega
/-- it can be shown -/
theorem ms_show {p : List Rw} {st : MS} (g : Good p st) (h : p.length ≤ 400) (d : st.done ≤ 5000) : (dM st).showable = true ∧ (dM st).shown.length ≤ sizeLine := by
  have e : (10 : Nat) ^ 12 = 1000000000000 := by decide
  have h1 : st.at_.natAbs < 10 ^ 12 := by have := g.at0; have := g.at1; omega
  have h2 : st.done.natAbs < 10 ^ 12 := by have := g.done; omega
  have ht : ∀ z ∈ st.said, z.natAbs < 10 ^ 12 := fun z hz => by have := g.telled z hz; omega
  have hk : st.stands.length < 10 ^ 12 := by have := g.two; omega
  refine ⟨dM_show h1 h2 (w_abs g.words) (w_abs g.store) ht hk, dM_len h1 h2 (w_abs g.words) (w_abs g.store) ht hk ?_⟩
  have := g.said
  have := g.words.1
  have := g.store.1
  omega
/-- the worst word as a value -/
def wV (js : List (Rw × Str)) : V := match worstW js with
  | none => .non
  | some z => .str z
theorem wV_w {js : List (Rw × Str)} (h : 0 < cw "wrong" js) : wV js = .str "wrong" := by unfold wV worstW; rw [if_pos h]
theorem wV_s {js : List (Rw × Str)} (h : ¬ 0 < cw "wrong" js) (h2 : 0 < cw "still" js) : wV js = .str "still" := by unfold wV worstW; rw [if_neg h, if_pos h2]
theorem wV_n {js : List (Rw × Str)} (h : ¬ 0 < cw "wrong" js) (h2 : ¬ 0 < cw "still" js) : wV js = .non := by unfold wV worstW; rw [if_neg h, if_neg h2]
/-- a list of rows as data -/
abbrev dL (l : List Rw) : PyData := .list (l.map dR)
theorem sh_dL {l : List Rw} (h : ∀ s ∈ l, PyData.strOk s.1 = true) : SeqAt.shaped (dL l) = true := by
  have h1 := can_all (f := dR) (l := l) fun s hs => can_dR (h s hs)
  have h2 := dep_all (f := dR) (n := 1) (l := l) fun s _ => Nat.le_of_eq dep_dR
  show (PyData.canLay0 (.list _) && decide (PyData.depth (.list _) ≤ 64)) = true
  rw [PyData.canLay0, PyData.depth, h1, Bool.true_and, decide_eq_true_eq]
  exact Nat.le_trans (Nat.add_le_add_right h2 1) (show 1 + 1 ≤ 64 by decide)
theorem dp_dL {H : Hp} {l : Addr} {us : List V} {rs : List Rw} (h : H l = some (.lst us)) (pr : Paired (RwAt K H) us rs) : Dp K H (.ref l) (dL rs) := .lst (sq_lst h) (dp_all (fun _ _ z => dp_dR z) pr)
theorem eqv_dL (a b : List Rw) : PyData.eqv (dL a) (dL b) = decide (a = b) := by
  rw [dL, dL, PyData.eqv, eqv_all eqv_dR]
theorem get_w {H : Hp} {d : Addr} {js : List (Rw × Str)} (h : H d = some (.dK (cntL js))) : DGet H d (.str "wrong") (some (.int (cw "wrong" js : Nat))) := by
  have := DGet.k (k := Sum.inr "wrong") h
  rw [cnt_eq] at this
  exact this
theorem get_s {H : Hp} {d : Addr} {js : List (Rw × Str)} (h : H d = some (.dK (cntL js))) : DGet H d (.str "still") (some (.int (cw "still" js : Nat))) := by
  have := DGet.k (k := Sum.inr "still") h
  rw [cnt_eq] at this
  exact this
theorem sc_law_all_right : FnScope ["_law_program_here", "_law_inputs_here", "_law_right", "_law_n", "_law_machine", "_law_turn", "_law_stood", "_law_slips", "_law_counts", "_law_worst", "_law_word", "_law_slip", "_law_found"] ["_law_program_here", "_law_inputs_here", "_law_right", "_law_n"] (defScope s_law_all_right) := ⟨rfl, rfl, rfl, by decide +kernel, rfl, by decide +kernel, by decide +kernel⟩
def sp_all_right (K : PySem.W.Frag) : Sp := fun vs H Q _ => ∃ vp vi vr n p inp N, vs = [vp, vi, vr, V.int n] ∧ PgAt K H vp p ∧ PgOk p ∧ p.length ≤ 19 ∧ IsAt K H vi inp ∧ InOk inp ∧ OcAt K H vr (rightF p inp N) ∧ RunOk p inp N ∧ N ≤ 40 ∧ (bxs p).length * N < 30 ∧ 0 ≤ n ∧ n < 2147483648 ∧
  ∀ H', Same H H' → Q (.bl true) H'
theorem G_law_all_right (T : Tx w K mg) : KnG PP w K mg base 10 (He.ga K "_law_all_right") ["_law_program_here", "_law_inputs_here", "_law_right", "_law_n"] (sp_all_right K) := by
  have G_Machine := G_Machine (base := base) T
  have G_Machine_place := G_Machine_place (base := base) T
  have G_Machine_beats := G_Machine_beats (base := base) T
  have G_Machine_boxes := G_Machine_boxes (base := base) T
  have G_Machine_cells := G_Machine_cells (base := base) T
  have G_Machine_told := G_Machine_told (base := base) T
  have G_Machine_kept := G_Machine_kept (base := base) T
  have G_Machine_beat := G_Machine_beat (base := base) T
  have G_Machine_end := G_Machine_end (base := base) T
  have G_slips_of := G_slips_of (base := base) T
  have G_tally := G_tally (base := base) T
  have G_first_wrong := G_first_wrong (base := base) T
  have G_judged := G_judged (base := base) T
  have G_law_slip_right := G_law_slip_right (base := base) T
  have G_law_idle := G_law_idle (base := base) T
  have G_run_with := G_run_with (base := base) T
  refine knG_of T.d_law_all_right sc_law_all_right (fun _ _ _ _ _ _ us hl => match us, hl with | [_, _, _, _], _ => rfl) (fun vs H Q E h => ?_) fun cdv A outer s H vs Q E hr hG h => ?_
  · obtain ⟨vp, vi, vr, n, p, inp, N, rfl, _⟩ := h; rfl
  · obtain ⟨vp, vi, vr, n, p, inp, N, rfl, hp, pok, p19, hi, iok, hv, rok, n40, b30, n0, n1, q⟩ := h
    refine ⟨_, (pss_cons (ps_set (i := 4) sc_law_all_right.nd rfl (Or.inl rfl) (pe_kc G_Machine (hr.mono (by decide)) (by rfl) T.g_Machine (pa_cons (pv 0) (pa_cons (pv 1) pa_nil))))
      (pss_cons (ps_for PassesOwn.never rfl (pi_range1 (by rfl) T.f_range (pa_cons (pe_op op_fdiv (pe_ix ix_tup (pv 2) pe_int (fun _ _ => rfl)) pe_int) pa_nil)) (pg_name (i := 5) sc_law_all_right.nd rfl (Or.inl rfl))
        (pss_one (ps_expr (pe_km0 (pv 4) T.c_Machine T.m_Machine_beat G_Machine_beat (hr.mono (by decide))))))
      (pss_cons (ps_set (i := 6) sc_law_all_right.nd rfl (Or.inl rfl) (pe_callB (call_reprD hr hG) (by rfl) T.f_repr (by decide +kernel) (pa_cons (pe_tup (pa_cons (pe_km0 (pv 4) T.c_Machine T.m_Machine_place G_Machine_place (hr.mono (by decide))) (pa_cons (pe_km0 (pv 4) T.c_Machine T.m_Machine_beats G_Machine_beats (hr.mono (by decide))) (pa_cons (pe_km0 (pv 4) T.c_Machine T.m_Machine_boxes G_Machine_boxes (hr.mono (by decide))) (pa_cons (pe_km0 (pv 4) T.c_Machine T.m_Machine_cells G_Machine_cells (hr.mono (by decide))) (pa_cons (pe_km0 (pv 4) T.c_Machine T.m_Machine_told G_Machine_told (hr.mono (by decide))) (pa_cons (pe_km0 (pv 4) T.c_Machine T.m_Machine_kept G_Machine_kept (hr.mono (by decide))) pa_nil))))))) pa_nil)))
      (pss_cons (ps_set (i := 7) sc_law_all_right.nd rfl (Or.inl rfl) (pe_kn G_slips_of (hr.mono (by decide)) (by rfl) T.g_slips_of (pa_cons (pv 0) (pa_cons (pv 1) (pa_cons (pe_ix ix_tup (pv 2) pe_int (fun _ _ => rfl)) pa_nil)))))
      (pss_cons (ps_par (i := 8) (j := 9) rfl sc_law_all_right.nd rfl rfl (by decide) rfl rfl (pa_cons (pe_kn G_tally (hr.mono (by decide)) (by rfl) T.g_tally (pa_cons (pv 0) (pa_cons (pv 1) (pa_cons (pe_ix ix_tup (pv 2) pe_int (fun _ _ => rfl)) pa_nil)))) (pa_cons (pe_kn G_first_wrong (hr.mono (by decide)) (by rfl) T.g_first_wrong (pa_cons (pv 0) (pa_cons (pv 1) (pa_cons (pe_ix ix_tup (pv 2) pe_int (fun _ _ => rfl)) pa_nil)))) pa_nil)) (by rfl))
      (pss_cons (ps_if (PW.pt (pw_or (pt_cmpR op_ne (pe_callB (call_sumV rfl) (by rfl) T.f_sum (by decide +kernel) (pa_cons (pe_bm0 PySem.F.plainAttrs_dict PySem.F.slot_dict_values PySem.F.type_dict_values mt_values (pv 8)) pa_nil)) (pe_callB call_len_seq (by rfl) T.f_len (by decide +kernel) (pa_cons (pv 7) pa_nil)) (nomark _)) (pw_or1 (pt_cmpR op_ne (pe_callB cr_lenNum (by rfl) T.f_len (by decide +kernel) (pa_cons (pe_callTy (cr_setRows hr) (by rfl) T.f_set (by decide +kernel) (pa_cons (pv 7) pa_nil)) pa_nil)) (pe_callB call_len_seq (by rfl) T.f_len (by decide +kernel) (pa_cons (pv 7) pa_nil)) (nomark _)))))
        (pss_one (ps_ret pe_bl))
        pss_nil)
      (Evl.pss_cut (ps_set (i := 10) sc_law_all_right.nd rfl (Or.inl rfl) (pe_ifExp (pt_cmpR op_isN (pv 9) pe_non (nomark _)) pe_non (pe_kn G_judged (hr.mono (by decide)) (by rfl) T.g_judged (pa_cons (pv 0) (pa_cons (pv 1) (pa_cons (pv 9) (pa_cons (pe_ix ix_tup (pv 2) pe_int (fun _ _ => rfl)) pa_nil)))))))
      (Evl.pss_cut (ps_if (pt_cmpR op_ne (pv 10) (pe_ifExp (pt_cmpR op_gt (pe_dget (hu_of hr) (pv 8) pe_str (fun _ _ => rfl)) pe_int (nomark _)) pe_str (pe_ifExp (pt_cmpR op_gt (pe_dget (hu_of hr) (pv 8) pe_str (fun _ _ => rfl)) pe_int (nomark _)) pe_str pe_non)) (nomark _))
        (pss_one (ps_ret pe_bl))
        pss_nil)
      (pss_cons (ps_for PassesOwn.never rfl (pi_range1 (by rfl) T.f_range (pa_cons (pe_op op_mul pe_int (pe_callTy call_int1 (by rfl) T.f_int (by decide +kernel) (pa_cons (pe_cmpR (op_neD hr.units) (pv 7) (pe_lst pa_nil) (nomark _)) pa_nil))) pa_nil)) (pg_name (i := 5) sc_law_all_right.nd rfl (Or.inl rfl))
        (pss_cons (ps_set (i := 3) sc_law_all_right.nd rfl (Or.inl rfl) (pe_op op_mod (pe_op op_mul (pv 3) pe_int) pe_int))
        (pss_one (ps_if (pt_not (pt_val (pe_kn G_law_slip_right (hr.mono (by decide)) (by rfl) T.g_law_slip_right (pa_cons (pv 0) (pa_cons (pv 1) (pa_cons (pv 2) (pa_cons (pe_ix ix_list (pv 7) (pe_op op_mod (pe_op op_fdiv (pv 3) pe_int) (pe_callB call_len_seq (by rfl) T.f_len (by decide +kernel) (pa_cons (pv 7) pa_nil))) (fun _ _ => rfl)) pa_nil)))))))
          (pss_one (ps_ret pe_bl))
          pss_nil))))
      (pss_cons (ps_for PassesOwn.never rfl (pi_list (pe_kn G_law_idle (hr.mono (by decide)) (by rfl) T.g_law_idle (pa_cons (pv 0) (pa_cons (pv 1) (pa_cons (pe_op op_fdiv (pv 3) pe_int) pa_nil))))) (pg_name (i := 11) sc_law_all_right.nd rfl (Or.inl rfl))
        (pss_one (ps_if (pt_cmpR (op_neD hr.units) (pe_kn G_run_with (hr.mono (by decide)) (by rfl) T.g_run_with (pa_cons (pv 0) (pa_cons (pv 1) (pa_cons (pv 11) (pa_cons (pe_op op_add (pe_op op_mul pe_int (pe_ix ix_tup (pv 2) pe_int (fun _ _ => rfl))) pe_int) pa_nil))))) (pv 2) (nomark _))
          (pss_one (ps_ret pe_bl))
          pss_nil)))
      (pss_cons (ps_set (i := 12) sc_law_all_right.nd rfl (Or.inl rfl) (pe_tup (pa_cons (pe_km0 (pv 4) T.c_Machine T.m_Machine_place G_Machine_place (hr.mono (by decide))) (pa_cons (pe_km0 (pv 4) T.c_Machine T.m_Machine_beats G_Machine_beats (hr.mono (by decide))) (pa_cons (pe_km0 (pv 4) T.c_Machine T.m_Machine_boxes G_Machine_boxes (hr.mono (by decide))) (pa_cons (pe_km0 (pv 4) T.c_Machine T.m_Machine_cells G_Machine_cells (hr.mono (by decide))) (pa_cons (pe_km0 (pv 4) T.c_Machine T.m_Machine_told G_Machine_told (hr.mono (by decide))) (pa_cons (pe_km0 (pv 4) T.c_Machine T.m_Machine_kept G_Machine_kept (hr.mono (by decide))) pa_nil))))))))
      (pss_cons (ps_while PassesOwn.never (PW.pt (pw_and (pt_cmpR op_isN (pe_km0 (pv 4) T.c_Machine T.m_Machine_end G_Machine_end (hr.mono (by decide))) pe_non (nomark _)) (pw_and1 (pt_cmpR op_lt (pe_km0 (pv 4) T.c_Machine T.m_Machine_beats G_Machine_beats (hr.mono (by decide))) (pe_ix ix_tup (pv 2) pe_int (fun _ _ => rfl)) (nomark _)))))
        (pss_one (ps_expr (pe_km0 (pv 4) T.c_Machine T.m_Machine_beat G_Machine_beat (hr.mono (by decide))))))
      (pss_cons (ps_if (PW.pt (pw_or (pt_cmpR op_ne (pe_callB (call_reprD hr hG) (by rfl) T.f_repr (by decide +kernel) (pa_cons (pv 12) pa_nil)) (pv 6) (nomark _)) (pw_or1 (pt_cmpR (op_neD hr.units) (pe_tup (pa_cons (pe_km0 (pv 4) T.c_Machine T.m_Machine_told G_Machine_told (hr.mono (by decide))) (pa_cons (pe_km0 (pv 4) T.c_Machine T.m_Machine_cells G_Machine_cells (hr.mono (by decide))) (pa_cons (pe_km0 (pv 4) T.c_Machine T.m_Machine_end G_Machine_end (hr.mono (by decide))) (pa_cons (pe_km0 (pv 4) T.c_Machine T.m_Machine_beats G_Machine_beats (hr.mono (by decide))) pa_nil))))) (pv 2) (nomark _)))))
        (pss_one (ps_ret pe_bl))
        pss_nil)
      (pss_one (ps_ret (pe_and (pe_cmpR (op_eqD hr.units) (pe_kn G_slips_of (hr.mono (by decide)) (by rfl) T.g_slips_of (pa_cons (pv 0) (pa_cons (pv 1) (pa_cons (pe_ix ix_tup (pv 2) pe_int (fun _ _ => rfl)) pa_nil)))) (pv 7) (nomark _)) (pe_one (pe_cmpR (op_eq_dict (Nat.lt_of_le_of_lt (Nat.le_add_right _ 64) hr.units)) (pe_kn G_tally (hr.mono (by decide)) (by rfl) T.g_tally (pa_cons (pv 0) (pa_cons (pv 1) (pa_cons (pe_ix ix_tup (pv 2) pe_int (fun _ _ => rfl)) pa_nil)))) (pv 8) (nomark _))))))))))))))))))), ?_⟩
    have N1 := run_pos rok
    have few : p.length < 64 := by omega
    have cd : ∀ {x y : Int}, 0 < y → y < 1073741824 → CDiv x y := fun h1 h2 => ⟨h1, h2⟩
    obtain ⟨ra, rt, rc, rfl, r1, r2, r3⟩ := id hv
    rw [right_end rok, right_beats rok] at r1
    have hN3 : atI [V.ref rt, .ref rc, .str "end", .int ((N : Nat) : Int)] 3 = some (V.int ((N : Nat) : Int)) := atIn (by decide) rfl
    refine ⟨_, rfl, _, rfl, fun x dx hx hdx ne => ?_⟩
    have s0 : Same H (upd (upd H dx (.own x)) x (.ins (cM K) dx [])) := same_mk hx hdx ne
    refine ⟨x, dx, vp, vi, p, inp, rfl, upd_same, hp.same s0, pok, hi.same s0, iok, fun H1 fm f1 _ n2 hM => ⟨rfl, ?_⟩⟩
    obtain ⟨s1, nw1⟩ := new_mk hx hdx ne f1 n2
    refine ⟨_, rfl, _, _, _, _, rfl, rfl, tl_same s1 _ _ r1, hN3, _, _, rfl, rfl, cd (by decide) (by decide), _, rfl, ?_⟩
    refine ⟨by omega, by omega, ?_⟩
    refine for_it walk_range (fun i σ H' => ∃ x5 fm, σ = [some vp, some vi, some (.ref ra), some (.int n), some (.ref x), x5, none, none, none, none, none, none, none] ∧ Mch K H' x p inp (itb p inp i ms0) fm ∧ Same H H' ∧ New fm H) ⟨none, fm, rfl, hM, s1, nw1⟩ (fun _ _ _ _ _ => trivial) ?_ ?_
    · rintro i z σ Hx H3 hi2 ⟨x5, fm, rfl, hm, s3, nw⟩ ⟨rfl, rfl⟩
      have g := good_itb (p := p) (inp := inp) pok iok i (good0 pok.lo)
      obtain ⟨d, fs, o, _, _, _, _, _, _, _, f_beat, _⟩ := mch_m hm
      refine ⟨_, rfl, x, d, fs, rfl, o, f_beat, x, p, inp, _, fm, rfl, hm, g, pok, iok, by rw [run_done rok i (by omega)]; omega, fun H4 fm4 hm4 f4 n4 => ?_⟩
      obtain ⟨s4, nw4⟩ := nw.step s3 f4 n4
      rw [← itb_succ] at hm4
      exact ⟨_, fm4, rfl, hm4, s4, nw4⟩
    rintro σ H3 ⟨x5, fm, rfl, hm, s3, nw⟩
    obtain ⟨B, hB⟩ : ∃ B : Nat, ((B : Nat) : Int) = (N : Int) / 2 := ⟨((N : Int) / 2).toNat, by omega⟩
    rw [show ((N : Int) / 2).toNat = B by omega] at hm
    have hBN : B ≤ N := by omega
    have g := good_itb (p := p) (inp := inp) pok iok B (good0 pok.lo)
    obtain ⟨sh1, sh2⟩ := ms_show g pok.hi (by rw [run_done rok B hBN]; omega)
    -- what is shown of it
    obtain ⟨d, fs, o, _, f_told, f_cells, f_beats, f_place, f_boxes, f_kept, _⟩ := mch_m hm
    refine ⟨_, rfl, x, d, fs, rfl, o, f_place, x, p, inp, _, fm, rfl, hm, ?_⟩
    refine ⟨_, rfl, x, d, fs, rfl, o, f_beats, x, p, inp, _, fm, rfl, hm, ?_⟩
    refine ⟨_, rfl, x, d, fs, rfl, o, f_boxes, x, p, inp, _, fm, rfl, hm, fun I5 t1 c5 h1 => ?_⟩
    refine ⟨_, rfl, x, d, fs, rfl, c5 _ _ o, f_cells, x, p, inp, _, fm, rfl, hm.same c5, fun I6 t2 c6 h2 => ?_⟩
    refine ⟨_, rfl, x, d, fs, rfl, c6 _ _ (c5 _ _ o), f_told, x, p, inp, _, fm, rfl, (hm.same c5).same c6, fun I7 t3 c7 h3 => ?_⟩
    refine ⟨_, rfl, x, d, fs, rfl, c7 _ _ (c6 _ _ (c5 _ _ o)), f_kept, x, p, inp, _, fm, rfl, ((hm.same c5).same c6).same c7, by show 6 ≤ sizeLine; decide, fun a4 ha => ?_⟩
    obtain ⟨s4, hv4⟩ := ms_new (K := K) c5 h1 c6 h2 c7 h3 ha
    generalize upd I7 a4 _ = H4 at s4 hv4
    refine ⟨a4, dM (itb p inp B ms0), rfl, hv4.dp, sh1, dM_nd _, dM_dep _, sh2, ?_⟩
    have s04 := s3.trans s4
    have hm4 := hm.same s4
    clear f1 n2 hM nw1 s1 s0 hv4 c5 h1 c6 h2 c7 h3 ha o
    -- the slips
    refine ⟨_, rfl, _, rfl, _, rfl, _, _, _, _, rfl, rfl, tl_same s04 _ _ r1, hN3, vp, vi, p, inp, _, N, rfl, hp.same s04, pok, few, hi.same s04, iok, rok, Int.le_refl _, by omega, by omega, fun H5 l us s5 hl hl5 upr => ?_⟩
    have s05 := s04.trans s5
    refine ⟨_, rfl, _, rfl, _, rfl, _, _, _, _, rfl, rfl, tl_same s05 _ _ r1, hN3, vp, vi, p, inp, _, N, rfl, hp.same s05, pok, few, hi.same s05, iok, rok, Int.le_refl _, by omega, by omega, fun H6 dc s6 hdc hdc6 => ?_⟩
    have s06 := s05.trans s6
    refine ⟨_, rfl, _, rfl, _, rfl, _, _, _, _, rfl, rfl, tl_same s06 _ _ r1, hN3, vp, vi, p, inp, _, N, rfl, hp.same s06, pok, few, hi.same s06, iok, rok, Int.le_refl _, by omega, by omega, fun H7 vw s7 hvw => ?_⟩
    have s07 := s06.trans s7
    -- as many as are told, all different
    have ln : us.length = (slL p inp N).length := Paired.length upr
    have few2 : (slL p inp N).length ≤ 1228 := by
      have h1 := @slL_few p inp N pok
      have h2 : (N - 1) * p.length ≤ 39 * 19 := Nat.mul_le_mul (by omega) p19
      omega
    have hcnt := cw_sum (jdL p inp N) fun q hq => jd_word hq
    rw [show (jdL p inp N).length = (slL p inp N).length by unfold jdL; rw [List.length_map], ← ln] at hcnt
    have hdc7 := s7 _ _ hdc6
    have hl7 := s7 _ _ (s6 _ _ hl5)
    have upr7 : Paired (RwAt K H7) us (slL p inp N) := Paired.mapP upr fun _ _ z => RwAt.same z (s6.trans s7)
    refine ⟨_, _, rfl, _, rfl, .inr (.inr (.inl ⟨rfl, .inl ⟨_, hdc7⟩⟩)), dc, _, rfl, rfl, hdc7, fun v hv8 => ⟨v, dc, _, [((cw "mended" (jdL p inp N) : Nat) : Int), ((cw "told" (jdL p inp N) : Nat) : Int), ((cw "still" (jdL p inp N) : Nat) : Int), ((cw "wrong" (jdL p inp N) : Nat) : Int)], rfl, upd_same, same_new hv8 _ _ hdc7, rfl, ?_⟩⟩
    have s8 := same_new (o := VwO v dc) hv8
    generalize upd H7 v (VwO v dc) = H8 at s8
    refine ⟨_, rfl, l, us, rfl, .inl (sq_lst (s8 _ _ hl7)), ?_⟩
    refine ⟨rfl, _, rfl, ?_⟩
    rw [show (!decide (V.int ([((cw "mended" (jdL p inp N) : Nat) : Int), ((cw "told" (jdL p inp N) : Nat) : Int), ((cw "still" (jdL p inp N) : Nat) : Int), ((cw "wrong" (jdL p inp N) : Nat) : Int)].sum) = V.int ((us.length : Nat) : Int))) = false by
      simp only [List.sum_cons, List.sum_nil, V.int.injEq, Bool.not_eq_false', decide_eq_true_eq]
      omega]
    refine iteF ?_
    have upr8 : Paired (RwAt K H8) us (slL p inp N) := Paired.mapP upr7 fun _ _ z => RwAt.same z s8
    refine ⟨_, rfl, l, us, slL p inp N, rfl, sq_lst (s8 _ _ hl7), upr8, slL_nodup, few2, fun ps hps => ⟨ps, _, rfl, upd_same, by omega, ?_⟩⟩
    have s9 := s8.trans (same_new (o := NumO ps (slL p inp N).length) hps)
    generalize upd H8 ps (NumO ps (slL p inp N).length) = H9 at s9
    refine ⟨_, rfl, l, us, rfl, .inl (sq_lst (s9 _ _ hl7)), rfl, _, rfl, ?_⟩
    rw [show (!decide (V.int (((slL p inp N).length : Nat) : Int) = V.int ((us.length : Nat) : Int))) = false by rw [ln]; simp]
    refine iteF ?_
    clear s8 upr8 hps
    have hl9 := s9 _ _ hl7
    have hdc9 := s9 _ _ hdc7
    have s09 := s07.trans s9
    have s49 := ((s5.trans s6).trans s7).trans s9
    have hm9 := hm4.same s49
    have upr9 : Paired (RwAt K H9) us (slL p inp N) := Paired.mapP upr7 fun _ _ z => RwAt.same z s9
    generalize hjs : jdL p inp N = js at hvw hcnt hdc9
    -- the worst
    refine ⟨fun σ H' => ∃ x9, σ = [some vp, some vi, some (.ref ra), some (.int n), some (.ref x), x5, some (.str (dM (itb p inp B ms0)).shown), some (.ref l), some (.ref dc), x9, some (wV js), none, none] ∧ Same H9 H', ?_, ?_⟩
    · refine ⟨_, rfl, rfl, _, rfl, ?_⟩
      cases ef : fwF js with
      | none =>
        rw [ef] at hvw
        have hvw : vw = .non := hvw
        subst hvw
        have fw := fw_word js
        rw [ef] at fw
        have fw : worstW js = none := fw
        refine iteT ⟨some .non, ?_, fun _ _ z => z⟩
        unfold wV
        rw [fw]
        rfl
      | some sl =>
        rw [ef] at hvw
        obtain ⟨wa, rfl, hwa⟩ := (show RwAt K H7 vw sl from hvw)
        have fw := fw_word js
        rw [ef] at fw
        obtain ⟨z, ez, mz⟩ := (show ∃ x, worstW js = some x ∧ (sl, x) ∈ js from fw)
        rw [← hjs] at mz
        obtain ⟨s', ms', es'⟩ := List.mem_map.mp mz
        injection es' with e1 e2
        subst e1
        refine iteF ?_
        refine ⟨_, rfl, _, rfl, _, rfl, _, rfl, _, _, _, _, rfl, rfl, tl_same s09 _ _ r1, hN3, vp, vi, _, p, inp, s', _, N, rfl, hp.same s09, pok, few, hi.same s09, iok, RwAt.same ⟨wa, rfl, hwa⟩ s9, (slL_ok pok (by omega) ms').1, rok, Int.le_refl _, by omega, by omega, fun Ha sa => ?_⟩
        rw [jd_judged rok pok (by omega) ms', e2]
        refine ⟨some (.ref wa), ?_, sa⟩
        unfold wV
        rw [ez]
        rfl
    rintro σ H10 ⟨x9, rfl, s10⟩
    have hdc10 := s10 _ _ hdc9
    refine ⟨fun σ H' => σ = [some vp, some vi, some (.ref ra), some (.int n), some (.ref x), x5, some (.str (dM (itb p inp B ms0)).shown), some (.ref l), some (.ref dc), x9, some (wV js), none, none] ∧ Same H9 H', ?_, ?_⟩
    · refine ⟨_, rfl, _, rfl, dc, _, rfl, get_w hdc10, _, _, rfl, rfl, _, rfl, ?_⟩
      refine ite2 (fun e => ?_) (fun e => ?_)
      · have e := wV_w (js := js) (by simpa using e)
        refine ⟨by rw [e]; rfl, _, rfl, ?_⟩
        rw [e]
        exact ⟨rfl, s10⟩
      · refine ⟨_, rfl, dc, _, rfl, get_s hdc10, _, _, rfl, rfl, _, rfl, ?_⟩
        refine ite2 (fun e2 => ?_) (fun e2 => ?_)
        · have e := wV_s (js := js) (by simpa using e) (by simpa using e2)
          refine ⟨by rw [e]; rfl, _, rfl, ?_⟩
          rw [e]
          exact ⟨rfl, s10⟩
        · have e := wV_n (js := js) (by simpa using e) (by simpa using e2)
          refine ⟨by rw [e]; rfl, _, rfl, ?_⟩
          rw [e]
          exact ⟨rfl, s10⟩
    rintro σ H11 ⟨rfl, s11⟩
    -- six of them
    have upr11 : Paired (RwAt K H11) us (slL p inp N) := Paired.mapP upr9 fun _ _ z => RwAt.same z s11
    have hl11 := s11 _ _ hl9
    have sok : ∀ s ∈ slL p inp N, SlOk p s := fun s hs => (slL_ok pok (by omega) hs).1
    have s011 := s09.trans s11
    refine ⟨_, rfl, by decide, fun l0 hl0 => ?_⟩
    have s12 := same_new (o := .lst []) hl0
    have h0 : (upd H11 l0 (.lst [])) l0 = some (.lst []) := upd_same
    generalize upd H11 l0 (.lst []) = H12 at s12 h0
    have upr12 : Paired (RwAt K H12) us (slL p inp N) := Paired.mapP upr11 fun _ _ z => RwAt.same z s12
    refine ⟨dL (slL p inp N), dL [], dp_dL (s12 _ _ hl11) upr12, dp_dL h0 .nil, sh_dL fun s hs => (sok s hs).strOk, by decide, .inr ⟨_, rfl, ?_⟩⟩
    rw [eqv_dL]
    have s012 := s011.trans s12
    refine ⟨_, _, rfl, rfl, .inl ⟨by decide, by decide⟩, _, rfl, by split <;> decide, by split <;> decide, ?_⟩
    refine for_it walk_range (fun i σ H' => ∃ n' x5 x11, σ = [some vp, some vi, some (.ref ra), some (.int n'), some (.ref x), x5, some (.str (dM (itb p inp B ms0)).shown), some (.ref l), some (.ref dc), x9, some (wV js), x11, none] ∧ 0 ≤ n' ∧ n' < 2147483648 ∧ Same H12 H') ⟨n, x5, none, rfl, n0, n1, fun _ _ z => z⟩ (fun _ _ _ _ _ => trivial) ?_ ?_
    · rintro i z σ Hx H13 hi2 ⟨n', x5, x11, rfl, m0, m1, s13⟩ ⟨rfl, rfl⟩
      have ne : slL p inp N ≠ [] := fun e => by
        rw [e] at hi2
        simp at hi2
      have lpos : 0 < us.length := by rw [ln]; exact List.length_pos_iff.mpr ne
      have md := mod_rg (n' * 48271) (show (0 : Int) < 2147483647 by decide)
      refine ⟨_, rfl, _, _, rfl, rfl, .inr ⟨by decide, by decide⟩, _, _, rfl, rfl, by show (0 : Int) < 2147483647; decide, ?_⟩
      have ix := mod_rg (n' * 48271 % 2147483647 / 7) (show (0 : Int) < (us.length : Nat) by omega)
      have sl13 := s12.trans s13
      have upr13 : Paired (RwAt K H13) us (slL p inp N) := Paired.mapP upr11 fun _ _ z => RwAt.same z sl13
      obtain ⟨sl, esl⟩ : ∃ sl, (slL p inp N)[(n' * 48271 % 2147483647 / 7 % ((us.length : Nat) : Int)).toNat]? = some sl := ⟨_, List.getElem?_eq_getElem (by rw [← ln]; omega)⟩
      obtain ⟨u, eu, hu⟩ := Paired.at_ upr13 esl
      have s013 := s012.trans s13
      have hl13 := sl13 _ _ hl11
      refine ⟨_, rfl, _, rfl, _, rfl, _, rfl, _, rfl, _, _, rfl, rfl, cd (by decide) (by decide), _, rfl, l, us, rfl, .inl (sq_lst hl13), _, _, rfl, rfl, (show (0 : Int) < ((us.length : Nat) : Int) by omega), _, _, _, _, rfl, rfl, sq_lst hl13, atIn ix.1 eu, vp, vi, _, u, p, inp, sl, N, rfl, hp.same s013, pok, few, hi.same s013, iok, hv.same s013, hu, sok _ (List.mem_of_getElem? esl), rok, by omega, fun H14 s14 => ⟨true, rfl, iteF ?_⟩⟩
      exact ⟨_, _, _, rfl, md.1, by omega, s13.trans s14⟩
    rintro σ H13 ⟨n', x5, x11, rfl, m0, m1, s13⟩
    clear upr11 upr12 h0
    have s1113 := s12.trans s13
    have s013 := s012.trans s13
    have hdc13 := s1113 _ _ (s11 _ _ hdc9)
    have hl13 := s1113 _ _ hl11
    have upr13 : Paired (RwAt K H13) us (slL p inp N) := Paired.mapP upr9 fun _ _ z => RwAt.same z (s11.trans s1113)
    have hm13 := hm9.same (s11.trans s1113)
    -- slips that do nothing
    have nq : 0 ≤ n' / 7 := by omega
    refine ⟨_, rfl, _, rfl, _, rfl, _, _, rfl, rfl, cd (by decide) (by decide), vp, vi, _, p, inp, N, rfl, hp.same s013, pok, few, hi.same s013, iok, rok, n40, nq, fun H14 la ui s14 hla ipr => ?_⟩
    refine ⟨la, rfl, ⟨_, sq_lst hla⟩, ?_⟩
    refine for_it walk_list (fun i σ H' => ∃ x11, σ = [some vp, some vi, some (.ref ra), some (.int n'), some (.ref x), x5, some (.str (dM (itb p inp B ms0)).shown), some (.ref l), some (.ref dc), x9, some (wV js), x11, none] ∧ Same H14 H') ⟨x11, rfl, fun _ _ z => z⟩ (fun i σ H' _ h => by obtain ⟨_, _, s⟩ := h; exact sq_lst (s _ _ hla)) ?_ ?_
    · rintro i z σ Hx H15 hi2 ⟨x11, rfl, s15⟩ ⟨rfl, ez⟩
      obtain ⟨t, et, ht⟩ := Paired.at1 ipr ez
      obtain ⟨tok, tid⟩ := idle_all rok pok iok n40 nq (List.mem_of_getElem? et)
      have s015 := (s013.trans s14).trans s15
      refine ⟨_, rfl, _, rfl, _, rfl, _, rfl, _, _, _, _, rfl, rfl, tl_same s015 _ _ r1, hN3, _, _, rfl, rfl, .inl ⟨by decide, by decide⟩, _, _, rfl, rfl, vp, vi, _, p, inp, t, mostF N, rfl, hp.same s015, pok, few, hi.same s015, iok, RwAt.same ht s15, tok, by unfold mostF; omega, by unfold mostF; omega, fun H16 v16 s16 hv16 => ?_⟩
      rw [tid _ (by unfold mostF; omega)] at hv16
      have ec : EndOk (rightF p inp N) := .inl (right_end rok)
      refine ⟨_, rfl, dO (rightF p inp N), dO (rightF p inp N), hv16.dp, (hv.same (s015.trans s16)).dp, sh_dO ec, sh_dO ec, _, rfl, ?_⟩
      rw [eqv_dO, show (!decide (rightF p inp N = rightF p inp N)) = false by simp]
      exact iteF ⟨_, rfl, s15.trans s16⟩
    rintro σ H15 ⟨x11, rfl, s15⟩
    have s1315 := s14.trans s15
    have s015 := s013.trans s1315
    have hdc15 := s1315 _ _ hdc13
    have hl15 := s1315 _ _ hl13
    have upr15 : Paired (RwAt K H15) us (slL p inp N) := Paired.mapP upr13 fun _ _ z => RwAt.same z s1315
    have hm15 := hm13.same s1315
    clear upr13 hm13 hl13 hdc13 s1315 s1113 upr9 hm9 hdc9 hl9 hdc7 hl7 upr7
    -- what is shown of it now
    obtain ⟨d, fs, o, _, f_told, f_cells, f_beats, f_place, f_boxes, f_kept, _⟩ := mch_m hm15
    refine ⟨_, rfl, x, d, fs, rfl, o, f_place, x, p, inp, _, fm, rfl, hm15, ?_⟩
    refine ⟨_, rfl, x, d, fs, rfl, o, f_beats, x, p, inp, _, fm, rfl, hm15, ?_⟩
    refine ⟨_, rfl, x, d, fs, rfl, o, f_boxes, x, p, inp, _, fm, rfl, hm15, fun I5 t1 c5 h1 => ?_⟩
    refine ⟨_, rfl, x, d, fs, rfl, c5 _ _ o, f_cells, x, p, inp, _, fm, rfl, hm15.same c5, fun I6 t2 c6 h2 => ?_⟩
    refine ⟨_, rfl, x, d, fs, rfl, c6 _ _ (c5 _ _ o), f_told, x, p, inp, _, fm, rfl, (hm15.same c5).same c6, fun I7 t3 c7 h3 => ?_⟩
    refine ⟨_, rfl, x, d, fs, rfl, c7 _ _ (c6 _ _ (c5 _ _ o)), f_kept, x, p, inp, _, fm, rfl, ((hm15.same c5).same c6).same c7, by show 6 ≤ sizeLine; decide, fun a6 ha => ?_⟩
    obtain ⟨s16, hv16⟩ := ms_new (K := K) c5 h1 c6 h2 c7 h3 ha
    generalize upd I7 a6 _ = H16 at s16 hv16
    have s016 := s015.trans s16
    have hdc16 := s16 _ _ hdc15
    have hl16 := s16 _ _ hl15
    have upr16 : Paired (RwAt K H16) us (slL p inp N) := Paired.mapP upr15 fun _ _ z => RwAt.same z s16
    have hm16 := hm15.same s16
    clear c5 h1 c6 h2 c7 h3 ha o upr15 hm15 hl15 hdc15
    -- it goes on to its end; what isn't its own stands
    obtain ⟨Hb, eb1, eb2⟩ : ∃ Hb : Hp, (∀ b ∈ fm, Hb b = none) ∧ ∀ b, b ∉ fm → Hb b = H16 b := ⟨fun b => if b ∈ fm then none else H16 b, fun b h => if_pos h, fun b h => if_neg h⟩
    have lnf : l ∉ fm := fun z => by
      obtain ⟨o, y, _⟩ := hm4.there l z
      rw [hl] at y; cases y
    have dnf : dc ∉ fm := fun z => by
      obtain ⟨o, y, _⟩ := (hm4.same s5).there dc z
      rw [hdc] at y; cases y
    have hlb : Hb l = some (.lst us) := (eb2 l lnf).trans hl16
    have hdb : Hb dc = some (.dK (cntL js)) := (eb2 dc dnf).trans hdc16
    have sb : Same Hb H16 := fun b o e => by
      by_cases h : b ∈ fm
      · rw [eb1 b h] at e; cases e
      · rw [← eb2 b h]; exact e
    have s0b : Same H Hb := fun b o e => by
      have hn : b ∉ fm := fun z => by rw [nw b z] at e; cases e
      rw [eb2 b hn]
      exact s016 _ _ e
    refine ⟨fun k σ H' => ∃ j fm', σ = [some vp, some vi, some (.ref ra), some (.int n'), some (.ref x), x5, some (.str (dM (itb p inp B ms0)).shown), some (.ref l), some (.ref dc), x9, some (wV js), x11, some (.ref a6)] ∧ j ≤ N ∧ k = N - j ∧ Mch K H' x p inp (itb p inp j ms0) fm' ∧ Same Hb H' ∧ New fm' Hb ∧ Tl K H16 H', ⟨_, B, fm, rfl, hBN, rfl, hm16, sb, fun b hb => eb1 b hb, Tl.refl _⟩, ?_⟩
    rintro k σ H17 ⟨j, fm', rfl, jN, rfl, hm17, s17, nw17, t17⟩
    obtain ⟨d, fs, o, f_end, f_told, f_cells, f_beats, f_place, f_boxes, f_kept, f_beat, _⟩ := mch_m hm17
    have s017 := s0b.trans s17
    have g17 := good_itb (p := p) (inp := inp) pok iok j (good0 pok.lo)
    refine ⟨_, rfl, x, d, fs, rfl, o, f_end, x, p, inp, _, fm', rfl, hm17, rfl, _, rfl, ?_⟩
    by_cases hj : j < N
    · rw [rok.none j hj]
      refine iteT ⟨_, rfl, x, d, fs, rfl, o, f_beats, x, p, inp, _, fm', rfl, hm17, _, rfl, _, _, _, _, rfl, rfl, tl_same s017 _ _ r1, hN3, _, _, rfl, rfl, _, rfl, ?_⟩
      rw [run_done rok j jN, show decide (((j : Nat) : Int) < ((N : Nat) : Int)) = true by simpa using hj]
      refine iteT ⟨_, fun σ' H' z => z, ?_⟩
      refine ⟨_, rfl, x, d, fs, rfl, o, f_beat, x, p, inp, _, fm', rfl, hm17, g17, pok, iok, by rw [run_done rok j jN]; omega, fun H18 fm8 hm18 f18 n18 => ?_⟩
      obtain ⟨s18, nw18⟩ := nw17.step s17 f18 n18
      rw [← itb_succ] at hm18
      exact ⟨N - (j + 1), by omega, j + 1, fm8, rfl, hj, rfl, hm18, s18, nw18, t17.trans (tl_frm hm17 f18)⟩
    have hj : j = N := by omega
    rw [hj] at hm17
    rw [hj, rok.over]
    refine iteF (iteF ?_)
    -- the end
    have hv17 := hv16.tl t17
    obtain ⟨sh1, sh2⟩ := ms_show (good_itb (p := p) (inp := inp) pok iok B (good0 pok.lo)) pok.hi (by rw [run_done rok B hBN]; omega)
    refine ⟨_, rfl, a6, dM (itb p inp B ms0), rfl, hv17.dp, sh1, dM_nd _, dM_dep _, sh2, _, rfl, rfl, _, rfl, ?_⟩
    rw [show (!decide (V.str (dM (itb p inp B ms0)).shown = V.str (dM (itb p inp B ms0)).shown)) = false by simp]
    refine iteF ?_
    refine ⟨_, rfl, x, d, fs, rfl, o, f_told, x, p, inp, _, fm', rfl, hm17, fun I1 t1 c1 h1 => ?_⟩
    refine ⟨_, rfl, x, d, fs, rfl, c1 _ _ o, f_cells, x, p, inp, _, fm', rfl, hm17.same c1, fun I2 t2 c2 h2 => ?_⟩
    have c02 := c1.trans c2
    refine ⟨_, rfl, x, d, fs, rfl, c02 _ _ o, f_end, x, p, inp, _, fm', rfl, hm17.same c02, ?_⟩
    refine ⟨_, rfl, x, d, fs, rfl, c02 _ _ o, f_beats, x, p, inp, _, fm', rfl, hm17.same c02, by show 4 ≤ sizeLine; decide, fun a7 ha => ?_⟩
    have s18 := c02.trans (same_new (o := .tup [V.ref t1, .ref t2, oS (itb p inp N ms0).over, .int (itb p inp N ms0).done]) ha)
    have hv18 : OcAt K (upd I2 a7 (.tup [V.ref t1, .ref t2, oS (itb p inp N ms0).over, .int (itb p inp N ms0).done])) (.ref a7) (rightF p inp N) := by
      refine ⟨a7, t1, t2, rfl, ?_, tl_same (c2.trans (same_new ha)) _ _ (sq_tup h1), tl_same (same_new ha) _ _ (sq_tup h2)⟩
      rw [right_end rok]
      have := sq_new (K := K) (H := I2) (a := a7) (xs := [V.ref t1, .ref t2, oS (itb p inp N ms0).over, .int (itb p inp N ms0).done])
      rw [show oS (itb p inp N ms0).over = .str "end" by rw [rok.over]; rfl] at this ⊢
      exact this
    generalize upd I2 a7 (.tup [V.ref t1, .ref t2, oS (itb p inp N ms0).over, .int (itb p inp N ms0).done]) = H18 at s18 hv18
    have s018 := s017.trans s18
    have ec : EndOk (rightF p inp N) := .inl (right_end rok)
    refine ⟨_, rfl, dO (rightF p inp N), dO (rightF p inp N), hv18.dp, (hv.same s018).dp, sh_dO ec, sh_dO ec, _, rfl, ?_⟩
    rw [eqv_dO, show (!decide (rightF p inp N = rightF p inp N)) = false by simp]
    refine iteF ?_
    have hl18 := s18 _ _ (s17 _ _ hlb)
    have hdc18 := s18 _ _ (s17 _ _ hdb)
    have t18 := t17.trans (tl_same (K := K) s18)
    have upr18 : Paired (RwAt K H18) us (slL p inp N) := Paired.mapP upr16 fun _ _ z => RwAt.tl z t18
    -- all told again
    refine ⟨_, rfl, _, rfl, _, rfl, _, _, _, _, rfl, rfl, tl_same s018 _ _ r1, hN3, vp, vi, p, inp, _, N, rfl, hp.same s018, pok, few, hi.same s018, iok, rok, Int.le_refl _, by omega, by omega, fun H19 l2 us2 s19 hl2 hl19 upr2 => ?_⟩
    have upr19 : Paired (RwAt K H19) us (slL p inp N) := Paired.mapP upr18 fun _ _ z => RwAt.same z s19
    refine ⟨_, rfl, dL (slL p inp N), dL (slL p inp N), dp_dL hl19 upr2, dp_dL (s19 _ _ hl18) upr19, sh_dL fun s hs => (sok s hs).strOk, sh_dL fun s hs => (sok s hs).strOk, ?_⟩
    rw [eqv_dL, show decide (slL p inp N = slL p inp N) = true by simp]
    refine ⟨true, rfl, iteT ?_⟩
    have s019 := s018.trans s19
    refine ⟨_, rfl, _, rfl, _, rfl, _, _, _, _, rfl, rfl, tl_same s019 _ _ r1, hN3, vp, vi, p, inp, _, N, rfl, hp.same s019, pok, few, hi.same s019, iok, rok, Int.le_refl _, by omega, by omega, fun H20 d2 s20 hd2 hd20 => ?_⟩
    rw [hjs] at hd20
    refine ⟨_, rfl, d2, dc, cntL js, rfl, rfl, hd20, (s19.trans s20) _ _ hdc18, ?_, ?_, q H20 (s019.trans s20)⟩
    · rw [cnt_eq]
      show List.Nodup [(Sum.inr ("mended" : Str) : Key), Sum.inr "told", Sum.inr "still", Sum.inr "wrong"]
      decide
    · rw [cnt_eq]
      intro y hy
      simp only [cnt4, List.mem_cons, List.not_mem_nil, or_false] at hy
      rcases hy with rfl | rfl | rfl | rfl <;> rfl
end

end Sw
/-! SwL14 -/
namespace Sw
set_option Elab.async false
set_option linter.all false
set_option maxRecDepth 100000
set_option maxHeartbeats 4000000
open PySem PySem.Spec PyProof.Rows L2
section
variable {w : World} {K : PySem.W.Frag} {mg : Str → Option Value} {base : Heap}
theorem sc_law : FnScope ["_law_script", "_law_spot", "_law_k", "_law_inputs_here", "_law_n", "_law_most", "_law_program_here", "_law_right"] ["_law_script"] (defScope s_law) := ⟨rfl, rfl, rfl, by decide +kernel, rfl, by decide +kernel, by decide +kernel⟩
def sp_law (K : PySem.W.Frag) : Sp := fun vs H Q _ => ∃ (a : Addr) (cs : List Int), vs = [V.ref a] ∧ SqL K H a (cs.map V.int) ∧ cs.length ≤ 63 ∧ ∀ H', Q (.bl true) H'
theorem hand_at {H1 H2 H3 : Hp} {p1 p2 p3 pg : Addr} (s1 : Same H1 H2) (s2 : Same H2 H3) (h1 : H1 p1 = some (.tup [.str "set", .int 0, .int 1])) (h2 : H2 p2 = some (.tup [.str "tell", .int 0])) (h3 : H3 p3 = some (.tup [.str "end"])) (hpg : H3 pg = none) :
    PgAt K (upd H3 pg (.tup [V.ref p1, .ref p2, .ref p3])) (.ref pg) handP := by
  have s4 := same_new (o := .tup [V.ref p1, .ref p2, .ref p3]) hpg
  exact ⟨pg, _, rfl, sq_new, .cons ⟨p1, rfl, sq_tup (s4 _ _ (s2 _ _ (s1 _ _ h1)))⟩ (.cons ⟨p2, rfl, sq_tup (s4 _ _ (s2 _ _ h2))⟩ (.cons ⟨p3, rfl, sq_tup (s4 _ _ h3)⟩ .nil))⟩
theorem G_law (T : Tx w K mg) {fd : FuncData} (F : FnP K "law" "law" s_law (He.ga K "law") fd) : FnOkG PP w K mg base CX0 11 (He.ga K "law") fd ["_law_script"] (sp_law K) := by
  have G_law_inputs := G_law_inputs (base := base) T
  have G_law_cell := G_law_cell (base := base) T
  have G_law_program := G_law_program (base := base) T
  have G_run := G_run (base := base) T
  have G_law_boxes := G_law_boxes (base := base) T
  have G_law_all_right := G_law_all_right (base := base) T
  have G_tally := G_tally (base := base) T
  refine fdG_of F sc_law (fun vs H Q E h => ?_) fun cdv A outer s H vs Q E hr hG h => ?_
  · obtain ⟨a, cs, rfl, _⟩ := h; rfl
  · obtain ⟨a, cs, rfl, hq, len, q⟩ := h
    refine ⟨_, (pss_cons (ps_set (i := 1) sc_law.nd rfl (Or.inl rfl) (pe_lst (pa_cons pe_int pa_nil)))
      (pss_cons (ps_for PassesOwn.never rfl (pi_range1 (by rfl) T.f_range (pa_cons (pe_op op_add pe_int (pe_callB (call_min2 rfl) (by rfl) T.f_min (by decide +kernel) (pa_cons pe_int (pa_cons (pe_callB call_len_seq (by rfl) T.f_len (by decide +kernel) (pa_cons (pv 0) pa_nil)) pa_nil)))) pa_nil)) (pg_name (i := 2) sc_law.nd rfl (Or.inl rfl))
        (pss_cons (ps_par (i := 3) (j := 4) rfl sc_law.nd rfl rfl (by decide) rfl rfl (pa_cons (pe_kn G_law_inputs (hr.mono (by decide)) (by rfl) T.g_law_inputs (pa_cons (pv 0) (pa_cons (pv 1) pa_nil))) (pa_cons (pe_kn G_law_cell (hr.mono (by decide)) (by rfl) T.g_law_cell (pa_cons (pv 0) (pa_cons (pv 1) pa_nil))) pa_nil)) (by rfl))
        (pss_one (ps_for PassesOwn.never rfl (pi_tup (pe_tup (pa_cons pe_int (pa_cons pe_int pa_nil)))) (pg_name (i := 5) sc_law.nd rfl (Or.inl rfl))
          (pss_cons (ps_set (i := 6) sc_law.nd rfl (Or.inl rfl) (pe_kn G_law_program (hr.mono (by decide)) (by rfl) T.g_law_program (pa_cons (pv 0) (pa_cons (pv 1) (pa_cons (pv 5) (pa_cons (pe_cmpR op_eq (pe_op op_mod (pv 4) pe_int) pe_int (nomark _)) pa_nil))))))
          (pss_cons (ps_set (i := 7) sc_law.nd rfl (Or.inl rfl) (pe_kn G_run (hr.mono (by decide)) (by rfl) T.g_run (pa_cons (pv 6) (pa_cons (pv 3) (pa_cons pe_int pa_nil)))))
          (pss_one (ps_if (PW.pt (pw_and (pt_cmpR op_eq (pe_ix ix_tup (pv 7) pe_int (fun _ _ => rfl)) pe_str (nomark _)) (pw_and1 (pt_cmpR op_lt (pe_op op_mul (pe_callB call_len_seq (by rfl) T.f_len (by decide +kernel) (pa_cons (pe_kn G_law_boxes (hr.mono (by decide)) (by rfl) T.g_law_boxes (pa_cons (pv 6) pa_nil)) pa_nil)) (pe_ix ix_tup (pv 7) pe_int (fun _ _ => rfl))) pe_int (nomark _)))))
            (pss_one (ps_if (pt_not (pt_val (pe_knG G_law_all_right (hr.mono (by decide)) hG (by rfl) T.g_law_all_right (pa_cons (pv 6) (pa_cons (pv 3) (pa_cons (pv 7) (pa_cons (pe_op op_add pe_int (pv 4)) pa_nil)))))))
              (pss_one (ps_ret pe_bl))
              pss_nil))
            pss_nil))))))))
      (pss_one (ps_ret (pe_cmpR op_eq (pe_callB (call_sumV rfl) (by rfl) T.f_sum (by decide +kernel) (pa_cons (pe_bm0 PySem.F.plainAttrs_dict PySem.F.slot_dict_values PySem.F.type_dict_values mt_values (pe_kn G_tally (hr.mono (by decide)) (by rfl) T.g_tally (pa_cons (pe_tup (pa_cons (pe_tup (pa_cons pe_str (pa_cons pe_int (pa_cons pe_int pa_nil)))) (pa_cons (pe_tup (pa_cons pe_str (pa_cons pe_int pa_nil))) (pa_cons (pe_tup (pa_cons pe_str pa_nil)) pa_nil)))) (pa_cons (pv 3) (pa_cons pe_int pa_nil))))) pa_nil)) pe_int (nomark _)))))), ?_⟩
    refine ⟨by decide, fun b hb => ?_⟩
    have hs := scr_new hq len hb
    generalize upd H b (.lst [.int 0]) = H1 at hs
    have cd : ∀ {x y : Int}, 0 < y → y < 1073741824 → CDiv x y := fun h1 h2 => ⟨h1, h2⟩
    refine ⟨_, rfl, a, _, rfl, .inl hs.c, _, _, rfl, _, _, rfl, rfl, _, rfl, ?_⟩
    rw [List.length_map]
    refine ⟨by split <;> omega, by split <;> omega, ?_⟩
    refine for_it walk_range (fun i σ H' => ∃ x2 x3 x4 x5 x6 x7 k, σ = [some (.ref a), some (.ref b), x2, x3, x4, x5, x6, x7] ∧ Scr K H' a b cs k ∧ k ≤ 23 * i ∧ (1 ≤ i → ∃ v inp, x3 = some v ∧ IsAt K H' v inp ∧ InOk inp)) ⟨none, none, none, none, none, none, 0, rfl, hs, by decide, fun z => by omega⟩ (fun _ _ _ _ _ => trivial) ?_ ?_
    · rintro i z σ Hx H2 hi2 ⟨x2, x3, x4, x5, x6, x7, k, rfl, hs2, hk, _⟩ ⟨rfl, rfl⟩
      have i1 : i ≤ 1 := by
        have : ((1 + if ((cs.length : Nat) : Int) < 1 then ((cs.length : Nat) : Int) else 1)).toNat ≤ 2 := by split <;> omega
        omega
      have k0 := hs2.k0
      refine ⟨_, rfl, _, rfl, a, b, cs, k, rfl, hs2, by omega, fun H3 v inp f3 hs3 iok hi => ?_⟩
      refine ⟨_, rfl, _, rfl, a, b, cs, _, rfl, hs3, by omega, fun n n0 n1 => ⟨_, _, rfl, ?_⟩⟩
      have hs4 := hs3.next (k' := k + 2 + 1) (by omega) (by omega)
      have hi4 : IsAt K (upd H3 b (.lst [.int (k + 2 + 1)])) v inp := hi.tl (tl_lst hs3.s)
      generalize upd H3 b (.lst [.int (k + 2 + 1)]) = H4 at hs4 hi4
      refine ⟨by decide, fun tp htp => ?_⟩
      have s5 := same_new (o := .tup [V.int 6, .int 3]) htp
      have hs5 := hs4.same s5
      have hi5 := hi4.same s5
      have ht5 : SqT K (upd H4 tp (.tup [V.int 6, .int 3])) tp [V.int 6, .int 3] := sq_new
      generalize upd H4 tp (.tup [V.int 6, .int 3]) = H5 at hs5 hi5 ht5
      refine ⟨tp, rfl, ⟨_, ht5⟩, ?_⟩
      refine for_it walk_tup (fun j σ H' => ∃ x2 x5 x6 x7 k', σ = [some (.ref a), some (.ref b), x2, some v, some (.int n), x5, x6, x7] ∧ Scr K H' a b cs k' ∧ k' ≤ k + 3 + 10 * j ∧ IsAt K H' v inp ∧ SqT K H' tp [V.int 6, .int 3]) ⟨_, x5, x6, x7, _, rfl, hs5, by omega, hi5, ht5⟩ (fun _ _ _ _ h => by obtain ⟨_, _, _, _, _, _, _, _, _, h⟩ := h; exact h) ?_ ?_
      · rintro j y σ Hy H6 hj ⟨x2, x5, x6, x7, k', rfl, hs6, hk', hi6, ht6⟩ ⟨rfl, ey⟩
        have hj : j < 2 := hj
        obtain ⟨most, rfl, m1, m6⟩ : ∃ most : Int, y = .int most ∧ 1 ≤ most ∧ most ≤ 6 := by
          rcases j with _ | _ | j
          · exact ⟨6, (Option.some.inj ey).symm, by decide, by decide⟩
          · exact ⟨3, (Option.some.inj ey).symm, by decide, by decide⟩
          · omega
        have nn := mod_rg n (show (0 : Int) < 2 by decide)
        refine ⟨_, rfl, _, rfl, _, rfl, _, rfl, _, _, rfl, rfl, by show (0 : Int) < 2; decide, rfl, ?_⟩
        refine ⟨a, b, cs, k', most, _, rfl, hs6, by omega, m1, m6, fun H7 vp p k7 f7 hs7 hk7 pok p19 hp => ?_⟩
        have t67 : Tl K H6 H7 := tl_frm1 hs6.s f7
        have hi7 := hi6.tl t67
        refine ⟨_, rfl, _, rfl, vp, v, p, inp, 40, rfl, hp, pok, hi7, iok, by decide, by decide, fun H8 vr s8 hv => ?_⟩
        have hs8 := hs7.same s8
        have hi8 := hi7.same s8
        have hp8 := hp.same s8
        have ht8 := tl_same s8 _ _ (t67 _ _ ht6)
        obtain ⟨ra, rt, rc, rfl, r1, r2, r3⟩ := id hv
        have done_ : ∀ H', Same H8 H' → ∃ x2' x5' x6' x7' k'', [some (V.ref a), some (.ref b), x2, some v, some (.int n), some (.int most), some vp, some (.ref ra)] = [some (V.ref a), some (.ref b), x2', some v, some (.int n), x5', x6', x7'] ∧ Scr K H' a b cs k'' ∧ k'' ≤ k + 3 + 10 * ((j + 1 : Nat) : Int) ∧ IsAt K H' v inp ∧ SqT K H' tp [V.int 6, .int 3] := fun H' s => ⟨_, _, _, _, k7, rfl, hs8.same s, by omega, hi8.same s, tl_same s _ _ ht8⟩
        refine ⟨_, rfl, _, _, _, _, rfl, rfl, r1, atIn (x := V.str (outc (itb p inp (40 : Int).toNat ms0)).end_) (by decide) rfl, rfl, _, rfl, ?_⟩
        refine ite2 (fun e => ?_) (fun e => iteF (done_ _ fun _ _ z => z))
        have e := over_end (str_eq e)
        obtain ⟨N, N40, rok⟩ := run_exists e
        have N40 : N ≤ 40 := N40
        have ho : outc (itb p inp (40 : Int).toNat ms0) = rightF p inp N := run_most rok (by omega)
        rw [ho] at r1 hv
        rw [right_end rok, right_beats rok] at r1
        refine ⟨_, rfl, vp, p, rfl, hp8, pok, by omega, fun H9 lg s9 _ hlg => ⟨lg, _, rfl, .inl (sq_lst hlg), ?_⟩⟩
        refine ⟨_, rfl, _, _, _, _, rfl, rfl, tl_same s9 _ _ r1, atIn (x := V.int ((N : Nat) : Int)) (by decide) rfl, _, _, rfl, rfl, .inr ⟨by omega, by omega⟩, _, _, rfl, rfl, _, rfl, ?_⟩
        rw [List.length_map]
        refine ite2 (fun e2 => ?_) (fun e2 => done_ _ s9)
        have e2 : (((bxs p).length : Nat) : Int) * ((N : Nat) : Int) < 30 := by simpa using e2
        have e2 : (bxs p).length * N < 30 := by
          rw [← Int.natCast_mul] at e2
          omega
        refine ⟨_, rfl, _, rfl, _, rfl, _, rfl, _, _, rfl, rfl, vp, v, _, _, p, inp, N, rfl, hp8.same s9, pok, p19, hi8.same s9, iok, hv.same s9, rok, N40, e2, by omega, by omega, fun H10 s10 => ⟨true, rfl, iteF ?_⟩⟩
        exact done_ _ (s9.trans s10)
      · rintro σ H6 ⟨x2, x5, x6, x7, k', rfl, hs6, hk', hi6, ht6⟩
        have hk' : k' ≤ k + 3 + 10 * (2 : Nat) := hk'
        exact ⟨_, _, _, _, _, _, k', rfl, hs6, by omega, fun _ => ⟨v, inp, rfl, hi6, iok⟩⟩
    rintro σ H2 ⟨x2, x3, x4, x5, x6, x7, k, rfl, hs2, hk, hin⟩
    obtain ⟨v, inp, rfl, hi, iok⟩ := hin (by split <;> omega)
    have sz : ∀ n : Nat, n ≤ 3 → n ≤ sizeLine := fun n h => Nat.le_trans h (by decide)
    refine ⟨by decide, fun p1 h1 => ⟨by decide, fun p2 h2 => ⟨by decide, fun p3 h3 => ⟨by show 3 ≤ sizeLine; decide, fun pg hpg => ?_⟩⟩⟩⟩
    have s1 := same_new (o := .tup [V.str "set", .int 0, .int 1]) h1
    have s2 := same_new (o := .tup [V.str "tell", .int 0]) h2
    have s3 := same_new (o := .tup [V.str "end"]) h3
    have s4 := same_new (o := .tup [V.ref p1, .ref p2, .ref p3]) hpg
    have hp := hand_at (K := K) s2 s3 upd_same upd_same upd_same hpg
    have hi := hi.same (((s1.trans s2).trans s3).trans s4)
    refine ⟨_, rfl, .ref pg, v, handP, inp, 3, 3, rfl, hp, hand_ok, by decide, hi, iok, hand_run inp, by decide, by decide, by decide, fun H3 d _ hd hd3 => ?_⟩
    have hc := cw_sum (jdL handP inp 3) fun q hq => jd_word hq
    rw [show (jdL handP inp 3).length = 45 by unfold jdL; rw [List.length_map, hand_len]] at hc
    refine ⟨.inr (.inr (.inl ⟨rfl, .inl ⟨_, hd3⟩⟩)), d, _, rfl, rfl, hd3, fun y hy => ⟨y, d, _, [((cw "mended" (jdL handP inp 3) : Nat) : Int), ((cw "told" (jdL handP inp 3) : Nat) : Int), ((cw "still" (jdL handP inp 3) : Nat) : Int), ((cw "wrong" (jdL handP inp 3) : Nat) : Int)], rfl, upd_same, same_new hy _ _ hd3, rfl, rfl, ?_⟩⟩
    rw [show decide (V.int ([((cw "mended" (jdL handP inp 3) : Nat) : Int), ((cw "told" (jdL handP inp 3) : Nat) : Int), ((cw "still" (jdL handP inp 3) : Nat) : Int), ((cw "wrong" (jdL handP inp 3) : Nat) : Int)].sum) = V.int 45) = true by
      simp only [List.sum_cons, List.sum_nil, V.int.injEq, decide_eq_true_eq]
      omega]
    exact q _
end

end Sw
/-! SwK -/
namespace Sw
set_option Elab.async false
set_option linter.all false
set_option maxRecDepth 100000
set_option maxHeartbeats 4000000
open PySem PySem.Spec PyProof.Rows L2
/-! ### the end -/
def Says (w : World) (K : PySem.W.Frag) : Prop := He.SaysT faL fnL tsL w K ∧ exB K = true
theorem says_mk {w : World} {K : PySem.W.Frag} (h : He.obsT faL fnL tsL K = He.valT fnL tsL w) (h2 : exB K = true) : Says w K := ⟨h, h2⟩
theorem room_law : Room 11 callerA := ⟨rfl, by decide, by decide⟩
theorem walk {q : Program} {loose : List Str} {XP : (Str → Option Value) → Heap → Prop} {YP : World → Heap → Prop} {d : DefRec} {K : Params → PySem.W.Frag} (hdf : d.params.defaults = []) (hdn : d.name = "law")
    (hY : ∀ (w : World) (h : Heap), YP w h → (K w.params).In h) (F : ∀ w : World, Says w (K w.params)) :
    PySem.W.WalkO q loose XP YP (PySem.Challenge.rw_slipward_k18_whole_slips_hold_together).row.toRowW d [] (fun f vs => PySem.call f vs) := by
  refine walk_ofG (l := PySem.Challenge.rw_slipward_k18_whole_slips_hold_together) (n := 63) (k := 11) (sp := fun w => sp_law (K w.params)) (x := "_law_script") rfl (by decide) hdf room_law hY (fun w mg fa h hK hns hm => ?_) fun w H a ns hl _ hs => ?_
  · rw [hdn] at hm
    have T : Tx w (K w.params) mg := ⟨(F w).1, (F w).2, h, hK, hns⟩
    have e := T.g_law
    rw [hm] at e
    injection e with e
    injection e with e
    subst e
    obtain ⟨fd, D⟩ := T.d_law
    exact ⟨fd, fun s u => D.bindsA (ps := ["_law_script"]) (fun _ _ _ _ _ _ us hl => match us, hl with | [_], _ => rfl) s [u] rfl, fun base _ _ => G_law (base := base) T D⟩
  · exact ⟨a, ns, rfl, hs, hl, fun _ => rfl⟩

end Sw
open PySem PySem.W PyProof.Rows
set_option maxHeartbeats 0 in
theorem PySem.Challenge.cw_slipward_k18_whole_slips_hold_together_holds : PySem.Challenge.rw_slipward_k18_whole_slips_hold_together.Holds := by
  w_on; o_law; k_head; (case hw => w_witness2)
  k_fill
  refine Sw.walk rfl rfl (fun w h Y => PySem.W.kIn_of Y) ?F
  case F =>
    intro w
    exact Sw.says_mk (by kernel_rfl) (by kernel_rfl)
