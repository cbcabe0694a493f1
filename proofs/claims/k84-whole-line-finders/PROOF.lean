import PyProof.Rows.All
import Wide.All
import OpenK.AllK
import Wide.FinOn
import KE.KStateDown
import KE.KExcIs
import HandS.ForMost
import HandS.ForExc
import HandS.Evl
import HandS.Defaults
import HandS.Zip
import HandS.Conv
import HandS.TupAny
import HandS.NoneIn
import HandS.Style
import HandS.IsInst
import HandS.ExcIs
import HandS.ExcInit
import HandS.Small
import HandS.SortInts
import HandS.GenList
import HandS.Head0
import HandS.Head1
import HandS.Head2
import HandS.HeadEnd
import HandS.HeadHook1
import HandS.HeadHook2
import HandS.HeadHook3
import KE.GoesMore
import KE.OsArith
import HandS.WideBits
import HandS.Steps
import HandS.Walk
import HandS.Rev
import PySem.Challenge.RW_truealarms_k84_whole_line_finders_refuse
/-! TaTop -/
section
set_option Elab.async false
set_option linter.all false
set_option maxRecDepth 100000
set_option maxHeartbeats 4000000
namespace TA
open PySem PySem.Spec PyProof.Rows L2
/-! the text by places -/
def top (i : Nat) : Stmt := PySem.Challenge.pw_truealarms_k84_whole_line_finders_refuse.main.body.getD i (.Pass ⟨0, 0, 0, 0⟩)
abbrev s__wall : Stmt := top 0
abbrev s_BadProgram_init : Stmt := inClass (top 10) 0
abbrev s_is_sequence : Stmt := top 12
abbrev s_is_whole : Stmt := top 13
abbrev s_check_stands : Stmt := top 15
abbrev s_all_stands : Stmt := top 16
abbrev s_check_lot : Stmt := top 17
abbrev s_is_within : Stmt := top 18
abbrev s_has_shape : Stmt := top 24
abbrev s_inner_programs : Stmt := top 25
abbrev s_check_node : Stmt := top 26
abbrev s_check_program : Stmt := top 27
abbrev s_check_row : Stmt := top 29
abbrev s_next_lot : Stmt := top 30
abbrev s_Met_init : Stmt := inClass (top 32) 0
abbrev s_end_of : Stmt := top 33
abbrev s_put_met : Stmt := top 34
abbrev s_true_end : Stmt := top 35
abbrev s_true_run : Stmt := top 36
abbrev s_check_alike : Stmt := top 38
abbrev s_rounded_alike : Stmt := top 40
abbrev s_sharp_at : Stmt := top 41
abbrev s_put_line : Stmt := top 43
abbrev s_put_rounds : Stmt := top 44
abbrev s_put_lines : Stmt := top 45
abbrev s_true_lines : Stmt := top 46
abbrev s_runs_sharp : Stmt := top 47
abbrev s_find_lines : Stmt := top 48
abbrev s_has_line : Stmt := top 49
abbrev s_least_ends : Stmt := top 50
abbrev s_least_starts : Stmt := top 51
abbrev s_starts_with_line : Stmt := top 52
abbrev s_first_unmet : Stmt := top 54
abbrev s_Glasses_init : Stmt := inClass (top 55) 0
abbrev s_Glasses_rounded : Stmt := inClass (top 55) 3
abbrev s_is_name : Stmt := top 60
abbrev s_entry_fault : Stmt := top 61
abbrev s_Steps_init : Stmt := inClass (top 62) 0
abbrev s_Steps_contains : Stmt := inClass (top 62) 2
abbrev s_Steps_row_of : Stmt := inClass (top 62) 3
abbrev s__law_hand : Stmt := top 64
abbrev s__law_mixed : Stmt := top 65
abbrev s__law_take : Stmt := top 66
abbrev s__law_stands : Stmt := top 67
abbrev s__law_every : Stmt := top 68
abbrev s__law_within : Stmt := top 69
abbrev s__law_met : Stmt := top 70
abbrev s__law_members : Stmt := top 71
abbrev s__law_rounded : Stmt := top 72
abbrev s__law_single : Stmt := top 73
abbrev s__law_drawn_row : Stmt := top 74
abbrev s__law_next : Stmt := top 75
abbrev s__law_back : Stmt := top 76
abbrev s__law_names : Stmt := top 77
abbrev s__law_rows_of : Stmt := top 78
abbrev s__law_program : Stmt := top 79
abbrev s__law_run : Stmt := top 80
abbrev s__law_true : Stmt := top 81
abbrev s__law_list : Stmt := top 82
abbrev s__law_int : Stmt := top 83
abbrev s__law_exact : Stmt := top 84
abbrev s__law_sharp : Stmt := top 85
abbrev s__law_first_blur : Stmt := top 86
abbrev s__law_met_steps : Stmt := top 87
abbrev s__law_world : Stmt := top 88
abbrev s__law_start : Stmt := top 89
abbrev s__law_refined : Stmt := top 90
abbrev s__law_steered : Stmt := top 91
abbrev s__law_make : Stmt := top 92
abbrev s__law_no_program : Stmt := top 93
abbrev s__law_no_lot : Stmt := top 94
abbrev s__law_ask : Stmt := top 95
abbrev s__law_told : Stmt := top 96
abbrev s__law_least : Stmt := top 97
abbrev s__law_answer_good : Stmt := top 98
abbrev s__law_due : Stmt := top 99
abbrev s_law : Stmt := top 100
/-! the defs and facts that the head tells -/
def mkD (a : Str × Option Str) (x q : Str) (st : Stmt) (d : List He.Dv) : He.DefD := ⟨a, x, q, defArgs st, defBody st, defScope st, d, []⟩
def d_BadProgram_init : He.DefD := mkD ("BadProgram", some "__init__") "__init__" "BadProgram.__init__" s_BadProgram_init []
def d_is_sequence : He.DefD := mkD ("is_sequence", none) "is_sequence" "is_sequence" s_is_sequence []
def d_is_whole : He.DefD := mkD ("is_whole", none) "is_whole" "is_whole" s_is_whole [.non, .non]
def d_check_stands : He.DefD := mkD ("check_stands", none) "check_stands" "check_stands" s_check_stands []
def d_all_stands : He.DefD := mkD ("all_stands", none) "all_stands" "all_stands" s_all_stands []
def d_check_lot : He.DefD := mkD ("check_lot", none) "check_lot" "check_lot" s_check_lot []
def d_is_within : He.DefD := mkD ("is_within", none) "is_within" "is_within" s_is_within []
def d_has_shape : He.DefD := mkD ("has_shape", none) "has_shape" "has_shape" s_has_shape []
def d_inner_programs : He.DefD := mkD ("inner_programs", none) "inner_programs" "inner_programs" s_inner_programs []
def d_check_node : He.DefD := mkD ("check_node", none) "check_node" "check_node" s_check_node []
def d_check_program : He.DefD := mkD ("check_program", none) "check_program" "check_program" s_check_program []
def d_check_row : He.DefD := mkD ("check_row", none) "check_row" "check_row" s_check_row []
def d_next_lot : He.DefD := mkD ("next_lot", none) "next_lot" "next_lot" s_next_lot []
def d_Met_init : He.DefD := mkD ("Met", some "__init__") "__init__" "Met.__init__" s_Met_init []
def d_end_of : He.DefD := mkD ("end_of", none) "end_of" "end_of" s_end_of []
def d_put_met : He.DefD := mkD ("put_met", none) "put_met" "put_met" s_put_met []
def d_true_end : He.DefD := mkD ("true_end", none) "true_end" "true_end" s_true_end []
def d_true_run : He.DefD := mkD ("true_run", none) "true_run" "true_run" s_true_run []
def d_check_alike : He.DefD := mkD ("check_alike", none) "check_alike" "check_alike" s_check_alike []
def d_rounded_alike : He.DefD := mkD ("rounded_alike", none) "rounded_alike" "rounded_alike" s_rounded_alike []
def d_sharp_at : He.DefD := mkD ("sharp_at", none) "sharp_at" "sharp_at" s_sharp_at []
def d_put_line : He.DefD := mkD ("put_line", none) "put_line" "put_line" s_put_line []
def d_put_rounds : He.DefD := mkD ("put_rounds", none) "put_rounds" "put_rounds" s_put_rounds []
def d_put_lines : He.DefD := mkD ("put_lines", none) "put_lines" "put_lines" s_put_lines []
def d_true_lines : He.DefD := mkD ("true_lines", none) "true_lines" "true_lines" s_true_lines []
def d_runs_sharp : He.DefD := mkD ("runs_sharp", none) "runs_sharp" "runs_sharp" s_runs_sharp []
def d_find_lines : He.DefD := mkD ("find_lines", none) "find_lines" "find_lines" s_find_lines []
def d_has_line : He.DefD := mkD ("has_line", none) "has_line" "has_line" s_has_line []
def d_least_ends : He.DefD := mkD ("least_ends", none) "least_ends" "least_ends" s_least_ends []
def d_least_starts : He.DefD := mkD ("least_starts", none) "least_starts" "least_starts" s_least_starts []
def d_starts_with_line : He.DefD := mkD ("starts_with_line", none) "starts_with_line" "starts_with_line" s_starts_with_line []
def d_first_unmet : He.DefD := mkD ("first_unmet", none) "first_unmet" "first_unmet" s_first_unmet []
def d_Glasses_init : He.DefD := mkD ("Glasses", some "__init__") "__init__" "Glasses.__init__" s_Glasses_init []
def d_Glasses_rounded : He.DefD := mkD ("Glasses", some "rounded") "rounded" "Glasses.rounded" s_Glasses_rounded []
def d_is_name : He.DefD := mkD ("is_name", none) "is_name" "is_name" s_is_name []
def d_entry_fault : He.DefD := mkD ("entry_fault", none) "entry_fault" "entry_fault" s_entry_fault []
def d_Steps_init : He.DefD := mkD ("Steps", some "__init__") "__init__" "Steps.__init__" s_Steps_init []
def d_Steps_contains : He.DefD := mkD ("Steps", some "__contains__") "__contains__" "Steps.__contains__" s_Steps_contains []
def d_Steps_row_of : He.DefD := mkD ("Steps", some "row_of") "row_of" "Steps.row_of" s_Steps_row_of []
def d__law_hand : He.DefD := mkD ("_law_hand", none) "_law_hand" "_law_hand" s__law_hand []
def d__law_mixed : He.DefD := mkD ("_law_mixed", none) "_law_mixed" "_law_mixed" s__law_mixed []
def d__law_take : He.DefD := mkD ("_law_take", none) "_law_take" "_law_take" s__law_take []
def d__law_stands : He.DefD := mkD ("_law_stands", none) "_law_stands" "_law_stands" s__law_stands []
def d__law_every : He.DefD := mkD ("_law_every", none) "_law_every" "_law_every" s__law_every []
def d__law_within : He.DefD := mkD ("_law_within", none) "_law_within" "_law_within" s__law_within []
def d__law_met : He.DefD := mkD ("_law_met", none) "_law_met" "_law_met" s__law_met []
def d__law_members : He.DefD := mkD ("_law_members", none) "_law_members" "_law_members" s__law_members []
def d__law_rounded : He.DefD := mkD ("_law_rounded", none) "_law_rounded" "_law_rounded" s__law_rounded []
def d__law_single : He.DefD := mkD ("_law_single", none) "_law_single" "_law_single" s__law_single []
def d__law_drawn_row : He.DefD := mkD ("_law_drawn_row", none) "_law_drawn_row" "_law_drawn_row" s__law_drawn_row []
def d__law_next : He.DefD := mkD ("_law_next", none) "_law_next" "_law_next" s__law_next []
def d__law_back : He.DefD := mkD ("_law_back", none) "_law_back" "_law_back" s__law_back []
def d__law_names : He.DefD := mkD ("_law_names", none) "_law_names" "_law_names" s__law_names []
def d__law_rows_of : He.DefD := mkD ("_law_rows_of", none) "_law_rows_of" "_law_rows_of" s__law_rows_of []
def d__law_program : He.DefD := mkD ("_law_program", none) "_law_program" "_law_program" s__law_program []
def d__law_run : He.DefD := mkD ("_law_run", none) "_law_run" "_law_run" s__law_run []
def d__law_true : He.DefD := mkD ("_law_true", none) "_law_true" "_law_true" s__law_true []
def d__law_list : He.DefD := mkD ("_law_list", none) "_law_list" "_law_list" s__law_list []
def d__law_int : He.DefD := mkD ("_law_int", none) "_law_int" "_law_int" s__law_int []
def d__law_exact : He.DefD := mkD ("_law_exact", none) "_law_exact" "_law_exact" s__law_exact []
def d__law_sharp : He.DefD := mkD ("_law_sharp", none) "_law_sharp" "_law_sharp" s__law_sharp []
def d__law_first_blur : He.DefD := mkD ("_law_first_blur", none) "_law_first_blur" "_law_first_blur" s__law_first_blur []
def d__law_met_steps : He.DefD := mkD ("_law_met_steps", none) "_law_met_steps" "_law_met_steps" s__law_met_steps []
def d__law_world : He.DefD := mkD ("_law_world", none) "_law_world" "_law_world" s__law_world []
def d__law_start : He.DefD := mkD ("_law_start", none) "_law_start" "_law_start" s__law_start []
def d__law_refined : He.DefD := mkD ("_law_refined", none) "_law_refined" "_law_refined" s__law_refined []
def d__law_steered : He.DefD := mkD ("_law_steered", none) "_law_steered" "_law_steered" s__law_steered []
def d__law_make : He.DefD := mkD ("_law_make", none) "_law_make" "_law_make" s__law_make []
def d__law_no_program : He.DefD := mkD ("_law_no_program", none) "_law_no_program" "_law_no_program" s__law_no_program []
def d__law_no_lot : He.DefD := mkD ("_law_no_lot", none) "_law_no_lot" "_law_no_lot" s__law_no_lot []
def d__law_ask : He.DefD := mkD ("_law_ask", none) "_law_ask" "_law_ask" s__law_ask []
def d__law_told : He.DefD := mkD ("_law_told", none) "_law_told" "_law_told" s__law_told []
def d__law_least : He.DefD := mkD ("_law_least", none) "_law_least" "_law_least" s__law_least []
def d__law_answer_good : He.DefD := mkD ("_law_answer_good", none) "_law_answer_good" "_law_answer_good" s__law_answer_good []
def d__law_due : He.DefD := mkD ("_law_due", none) "_law_due" "_law_due" s__law_due []
def d_law : He.DefD := mkD ("law", none) "law" "law" s_law []
def fn : List He.DefD := [d_BadProgram_init, d_is_sequence, d_is_whole, d_check_stands, d_all_stands, d_check_lot, d_is_within, d_has_shape, d_inner_programs, d_check_node, d_check_program, d_check_row, d_next_lot, d_Met_init, d_end_of, d_put_met, d_true_end, d_true_run, d_check_alike, d_rounded_alike, d_sharp_at, d_put_line, d_put_rounds, d_put_lines, d_true_lines, d_runs_sharp, d_find_lines, d_has_line, d_least_ends, d_least_starts, d_starts_with_line, d_first_unmet, d_Glasses_init, d_Glasses_rounded, d_is_name, d_entry_fault, d_Steps_init, d_Steps_contains, d_Steps_row_of, d__law_hand, d__law_mixed, d__law_take, d__law_stands, d__law_every, d__law_within, d__law_met, d__law_members, d__law_rounded, d__law_single, d__law_drawn_row, d__law_next, d__law_back, d__law_names, d__law_rows_of, d__law_program, d__law_run, d__law_true, d__law_list, d__law_int, d__law_exact, d__law_sharp, d__law_first_blur, d__law_met_steps, d__law_world, d__law_start, d__law_refined, d__law_steered, d__law_make, d__law_no_program, d__law_no_lot, d__law_ask, d__law_told, d__law_least, d__law_answer_good, d__law_due, d_law]
def fa : List He.Fa := [.glo "is_sequence", .glo "is_whole", .glo "check_stands", .glo "all_stands", .glo "check_lot", .glo "is_within", .glo "has_shape", .glo "inner_programs", .glo "check_node", .glo "check_program", .glo "check_row", .glo "next_lot", .glo "end_of", .glo "put_met", .glo "true_end", .glo "true_run", .glo "check_alike", .glo "rounded_alike", .glo "sharp_at", .glo "put_line", .glo "put_rounds", .glo "put_lines", .glo "true_lines", .glo "runs_sharp", .glo "find_lines", .glo "has_line", .glo "least_ends", .glo "least_starts", .glo "starts_with_line", .glo "first_unmet", .glo "is_name", .glo "entry_fault", .glo "_law_hand", .glo "_law_mixed", .glo "_law_take", .glo "_law_stands", .glo "_law_every", .glo "_law_within", .glo "_law_met", .glo "_law_members", .glo "_law_rounded", .glo "_law_single", .glo "_law_drawn_row", .glo "_law_next", .glo "_law_back", .glo "_law_names", .glo "_law_rows_of", .glo "_law_program", .glo "_law_run", .glo "_law_true", .glo "_law_list", .glo "_law_int", .glo "_law_exact", .glo "_law_sharp", .glo "_law_first_blur", .glo "_law_met_steps", .glo "_law_world", .glo "_law_start", .glo "_law_refined", .glo "_law_steered", .glo "_law_make", .glo "_law_no_program", .glo "_law_no_lot", .glo "_law_ask", .glo "_law_told", .glo "_law_least", .glo "_law_answer_good", .glo "_law_due", .glo "law", .glo "CheckerError", .glo "BadStands", .glo "BadLot", .glo "BadGlasses", .glo "UnlikeStands", .glo "BadRow", .glo "BadSteps", .glo "NoStep", .glo "BadProgram", .glo "Met", .glo "Glasses", .glo "Steps", .free "isinstance", .free "bool", .free "int", .free "list", .free "tuple", .free "str", .free "len", .free "enumerate", .free "zip", .free "range", .free "reversed", .free "any", .free "sorted", .free "abs", .free "min", .free "ValueError", .int "MOST_DEEP" 12, .int "MOST_LONG" 60, .int "MOST_AGAINS" 4, .int "MOST_STEPS" 20, .int "MOST_STANDS" 6, .str "LETTERS" "abcdefghijklmnopqrstuvwxyz", .glo "SIZES", .cls "Glasses", .cls "Steps", .cls "Met", .noat "Glasses" "stands", .noat "Glasses" "members", .noat "Steps" "stands", .noat "Steps" "names", .noat "Steps" "rows", .noat "Met" "path", .noat "Met" "name", .noat "Met" "lot", .meth "Glasses" "rounded", .meth "Steps" "row_of", .meth "Steps" "__contains__", .mkr "Glasses", .mkr "Steps", .mkr "Met", .exc "BadLot", .exc "UnlikeStands", .exm "BadLot" "CheckerError" true, .exm "UnlikeStands" "CheckerError" true, .exm "BadProgram" "CheckerError" true]
def loose0 : List PySem.Str := ["_wall", "__name__", "CheckerError", "BadStands", "BadLot", "BadGlasses", "UnlikeStands", "BadRow", "BadSteps", "NoStep", "BadProgram", "is_sequence", "is_whole", "check_stands", "all_stands", "check_lot", "is_within", "MOST_DEEP", "MOST_LONG", "MOST_AGAINS", "SIZES", "has_shape", "inner_programs", "check_node", "check_program", "check_row", "next_lot", "Met", "end_of", "put_met"]
def loose1 : List PySem.Str := ["true_end", "true_run", "check_alike", "rounded_alike", "sharp_at", "put_line", "put_rounds", "put_lines", "true_lines", "runs_sharp", "find_lines", "has_line", "least_ends", "least_starts", "starts_with_line", "first_unmet", "Glasses", "MOST_STEPS", "MOST_STANDS", "LETTERS", "is_name", "entry_fault", "Steps", "_law_hand", "_law_mixed", "_law_take", "_law_stands", "_law_every", "_law_within", "_law_met"]
def loose2 : List PySem.Str := ["_law_members", "_law_rounded", "_law_single", "_law_drawn_row", "_law_next", "_law_back", "_law_names", "_law_rows_of", "_law_program", "_law_run", "_law_true", "_law_list", "_law_int", "_law_exact", "_law_sharp", "_law_first_blur", "_law_met_steps", "_law_world", "_law_start", "_law_refined", "_law_steered", "_law_make", "_law_no_program", "_law_no_lot", "_law_ask", "_law_told", "_law_least", "_law_answer_good", "_law_due"]
def loose : List PySem.Str := loose0 ++ loose1 ++ loose2
/-- the table of sizes -/
def tabs : List He.Tab := [(fun K => He.ga K "SIZES", ["step", "nothing", "behind", "either", "again"])]
/-! more facts -/
def sizesKV : List (Str × He.Dv) := [("step", .int 2), ("nothing", .int 1), ("behind", .int 3), ("either", .int 3), ("again", .int 2)]
/-- the class of an exception with an own __init__ -/
def oexB (K : PySem.W.Frag) (C : Addr) : Bool := (match K.lookup C with
  | some ⟨.type "type", _, .cls cd, sl⟩ => (match cd.mro, sl.toList with
    | .ref D :: bm, [_, _, _, _, some (.builtin n), _] => D == C && (n == "ValueError.__new__" && (!cd.hasDel && (cd.hasDict && PySem.HandSPX.refsVE bm)))
    | _, _ => false)
  | _ => false) && (He.eqO (PySem.W.findIn K (.ref C) "__setattr__") (some (some (.builtin "object.__setattr__"))) && (decide (PySem.W.subIn K (.ref C) (.type "BaseException") = some true) &&
    (decide (PySem.W.typeIn K (.ref C) = some (.type "type")) && PySem.W.keepIn K (.ref C))))
def excCB (K : PySem.W.Frag) (D : Addr) : Bool := He.eqO (PySem.W.findIn K (.ref D) "__getattribute__") (some (some (.builtin "BaseException.__getattribute__"))) && (He.eqO (PySem.W.findIn K (.ref D) "__getattr__") (some none) &&
  (decide (PySem.W.subIn K (.ref D) (.type "BaseException") = some true) && (PySem.W.hasDictIn K D && (He.eqO (PySem.W.findIn K (.ref D) "__class__") (some (some (.builtin "object.__class__"))) &&
  (He.eqO (PySem.W.specialIn K (.builtin "object.__class__") "__get__") (some (some (.builtin "getset_descriptor.__get__"))) && (decide (PySem.W.takesIn K (.builtin "object.__class__") = some true) && decide (PySem.W.mroIn K D (.type "object") = some true)))))))
def kitB3 (K : PySem.W.Frag) (D : Str) : Bool := ["UnlikeStands", "BadProgram", "BadLot"].all fun x => decide (PySem.W.kitOne K (.ref (He.ga K D)) (.ref (He.ga K x)) = some (decide (D = x)))
def more (K : PySem.W.Frag) : Bool := He.valsB K (He.ga K "SIZES") sizesKV && (oexB K (He.ga K "BadProgram") && (He.eqO (PySem.W.findIn K (.ref (He.ga K "BadProgram")) "what") (some none) &&
  (He.eqO (PySem.W.findIn K (.ref (He.ga K "BadProgram")) "__init__") (some (some (.ref (He.ma K (He.ga K "BadProgram") "__init__")))) && (decide (PySem.W.typeIn K (.ref (He.ma K (He.ga K "BadProgram") "__init__")) = some (.type "function")) &&
  (excCB K (He.ga K "BadProgram") && (excCB K (He.ga K "BadLot") && (excCB K (He.ga K "UnlikeStands") && (kitB3 K "BadProgram" && (kitB3 K "BadLot" && kitB3 K "UnlikeStands")))))))))
/-! the Hook -/
def frO {α : Type} (o : Obj) (k : Obj → α) : α := match o with
  | ⟨c, d, dt, sl⟩ => k ⟨c, d, dt, sl⟩
theorem frO_eq {α : Type} (o : Obj) (k : Obj → α) : frO o k = k o := rfl
def frK {α : Type} : List (Addr × Obj) → (List (Addr × Obj) → α) → α
  | [], k => k []
  | (a, o) :: r, k => HandSHeadRun.frNat a fun a => frO o fun o => frK r fun r => k ((a, o) :: r)
theorem frK_eq {α : Type} : ∀ (l : List (Addr × Obj)) (k : List (Addr × Obj) → α), frK l k = k l
  | [], _ => rfl
  | (a, o) :: r, k => by
    show HandSHeadRun.frNat a (fun a => frO o fun o => frK r fun r => k ((a, o) :: r)) = _
    rw [HandSHeadRun.frNat_eq, frO_eq, frK_eq r]
def keepO (o : Obj) : Bool := match o.data with
  | .func _ => true
  | .cls _ => true
  | .dict _ _ => true
  | .seq _ _ => true
  | .fields vs => Nat.ble 5 vs.size
  | _ => false
/-- the objects from a on, n of them -/
def news (g : Addr → Option Obj) : Nat → Addr → List (Addr × Obj)
  | 0, _ => []
  | n + 1, a => match g a with
    | some o => (match keepO o with
      | true => (a, o) :: news g n (a + 1)
      | false => news g n (a + 1))
    | none => news g n (a + 1)
theorem news_mem {g : Addr → Option Obj} {b : Addr} {u : Obj} : ∀ (n : Nat) (a : Addr), (b, u) ∈ news g n a → g b = some u
  | 0, a, h => nomatch h
  | n + 1, a, h => by
    unfold news at h
    split at h
    · rename_i o e
      split at h
      · rcases List.mem_cons.mp h with h | h
        · cases h
          exact e
        · exact news_mem n (a + 1) h
      · exact news_mem n (a + 1) h
    · exact news_mem n (a + 1) h
theorem look_mem {a : Addr} {o : Obj} : ∀ {l : List (Addr × Obj)}, l.lookup a = some o → (a, o) ∈ l
  | [], h => nomatch h
  | (b, u) :: r, h => by
    rw [List.lookup_cons] at h
    split at h
    · rename_i e
      have e1 : u = o := Option.some.inj h
      have e2 : a = b := eq_of_beq e
      rw [e1, e2]
      exact List.mem_cons_self
    · exact List.mem_cons_of_mem _ (look_mem h)
theorem news_in {n : Nat} {h : Heap} : PySem.W.Frag.In (news h.get? n 0) h := fun _ _ e => news_mem n 0 (look_mem e)
abbrev AlM : Type := He.AlT × Bool
def obsM (n : Nat) (g : Addr → Option Obj) : AlM := frK (news g n 0) fun K => (He.obsT fa fn tabs K, more K)
def valM (w : World) : AlM := (He.valT fn tabs w, true)
def hookM : PySem.W.Hook where
  α := AlM
  obs := fun s => obsM s.heap.objs.size s.heap.get?
  val := fun w => valM w
  says := fun w h => ∃ K : PySem.W.Frag, K.In h ∧ He.SaysT fa fn tabs w K ∧ more K = true
  of := fun w s e => by
    have e2 : (He.obsT fa fn tabs (news s.heap.get? s.heap.objs.size 0), more (news s.heap.get? s.heap.objs.size 0)) = valM w := (frK_eq _ _).symm.trans e
    exact ⟨_, news_in, congrArg (fun z : AlM => z.1) e2, congrArg (fun z : AlM => z.2) e2⟩
  keeps := fun _ _ _ ⟨K, hK, c⟩ k => ⟨K, PySem.W.Frag.In.keeps hK k, c⟩
theorem obsM_eq {n : Nat} {g : Addr → Option Obj} {s : Shared} (h : ∀ a, g a = s.heap.get? a) (hn : n = s.heap.objs.size) : obsM n g = hookM.obs s := by
  have e : g = s.heap.get? := funext h
  rw [e, hn] <;> rfl
abbrev R : PySem.W.OpenRow := PySem.W.OpenLaw.row PySem.Challenge.rw_truealarms_k84_whole_line_finders_refuse
end TA
end
/-! TaHead -/
section
set_option Elab.async false
set_option linter.all false
set_option maxRecDepth 100000
set_option maxHeartbeats 0
namespace TA
open PySem PySem.Spec PyProof.Rows L2
def obs (s : PySem.W.SharedT) : AlM := obsM s.n (HandSHeadRun.getT s)
theorem obs_eq (s : PySem.W.SharedT) : obs s = hookM.obs s.abs := obsM_eq (HandSHeadRun.getT_eq s) (PySem.W.absHeap_size s.tree s.n _).symm
theorem run0 (w : World) : HandSHeadRun.RunEq R (PySem.W.view R.prog [100]) hookM obs 8000 loose (w.withFollow "special-get-raises" false) := by
  intro os
  kernel_rfl
theorem run1 (w : World) : HandSHeadRun.RunEq R (PySem.W.view R.prog [100]) hookM obs 8000 loose (w.withFollow "special-get-raises" true) := by
  intro os
  kernel_rfl
theorem run (w : World) : HandSHeadRun.RunEq R (PySem.W.view R.prog [100]) hookM obs 8000 loose w :=
  PySem.W.byRow2 "special-get-raises" (P := fun w => HandSHeadRun.RunEq R (PySem.W.view R.prog [100]) hookM obs 8000 loose w) run0 run1 w
end TA
end
/-! TaGen1 -/
section
set_option Elab.async false
set_option linter.all false
set_option maxRecDepth 100000
set_option maxHeartbeats 4000000
/-! A run that may not wake the sleeping generators leaves them as they are: all that sleep are made such that a wake stops the run. -/
namespace TAG
open PySem
def poison : GenState → GenState
  | .suspended _ l c p fs cl => .suspended (fun _ => .unsupported "") l c p fs cl
  | x => x
theorem poison_seen (x : GenState) : (poison x).seen = x.seen := by cases x <;> rfl
theorem no_unsup {M : Model} {Γ : Ctx} {p : Pos} {w : String} {fs : List Frame} {s s' : Shared} {e : End} : ¬ Runs M Γ p (.unsupported w) fs s e s' := by
  have z : ∀ {Γ : Ctx} {e : End} {s' : Shared}, ¬ Runs M Γ p (.unsupported w) [] s e s' := fun h => by cases h
  intro h
  cases h with
  | segRet h1 _ => exact z h1
  | segGen h1 _ => exact z h1
  | segSuspOut _ h1 => exact z h1
  | segSuspGen _ h1 _ _ => exact z h1
def okSt : GenState → Prop
  | .suspended _ _ _ _ fs _ => splitAtGen fs = none
  | _ => True
def okEnd : End → Prop
  | .susp _ _ _ _ _ _ fs => splitAtGen fs = none
  | _ => True
theorem okEnd_gen {e : End} (h : okEnd e) : okSt e.genState := by
  cases e with
  | ret r => trivial
  | susp v g l k c p fs => exact h
theorem split_app : ∀ {a b : List Frame}, splitAtGen a = none → splitAtGen b = none → splitAtGen (a ++ b) = none
  | [], b, _, h => h
  | .gen .. :: r, b, h, _ => by cases h
  | .ret .. :: r, b, h, h2 => by
    have h3 : splitAtGen r = none := by
      have h4 : (splitAtGen r).map _ = none := h
      exact Option.map_eq_none_iff.mp h4
    show (splitAtGen (r ++ b)).map _ = none
    rw [split_app h3 h2]
    rfl
theorem split_ret {k : Result → Sem Fin} {h : Option Value} {g : Bool} {l kp : List Value} {c : Code} {p : Pos} {fs : List Frame} (e : splitAtGen (.ret k h g l c p kp :: fs) = none) : splitAtGen fs = none := by
  have h4 : (splitAtGen fs).map _ = none := e
  exact Option.map_eq_none_iff.mp h4
/-- pz: the generators that slept, as they were; in s they are poisoned -/
structure Rl (pz : Nat → Option GenState) (s : Shared) : Prop where
  pz_ : ∀ i G, pz i = some G → (∃ k l c p fs cl, G = .suspended k l c p fs cl) ∧ s.gens[i]? = some (poison G)
  ok : ∀ i st, s.gens[i]? = some st → pz i = none → okSt st
def unG (pz : Nat → Option GenState) (g : Array GenState) : Array GenState := g.mapIdx fun i x => (pz i).getD x
def un (pz : Nat → Option GenState) (s : Shared) : Shared := { s with gens := unG pz s.gens }
theorem unG_at (pz : Nat → Option GenState) (g : Array GenState) (i : Nat) : (unG pz g)[i]? = (g[i]?).map fun x => (pz i).getD x := by
  unfold unG
  rw [Array.getElem?_mapIdx]
theorem unG_size (pz : Nat → Option GenState) (g : Array GenState) : (unG pz g).size = g.size := by
  unfold unG
  rw [Array.size_mapIdx]
theorem unG_set {pz : Nat → Option GenState} {g : Array GenState} {i : Nat} {x : GenState} (h : pz i = none) : unG pz (g.setIfInBounds i x) = (unG pz g).setIfInBounds i x := by
  apply Array.ext_getElem?
  intro j
  rw [unG_at, Array.getElem?_setIfInBounds, Array.getElem?_setIfInBounds, unG_at, unG_size]
  by_cases e : i = j
  · subst e
    rw [if_pos rfl, if_pos rfl]
    by_cases q : i < g.size
    · rw [if_pos q, Option.map_some, h]; rfl
    · rw [if_neg q]; rfl
  · rw [if_neg e, if_neg e]
theorem unG_push {pz : Nat → Option GenState} {g : Array GenState} {x : GenState} (h : pz g.size = none) : unG pz (g.push x) = (unG pz g).push x := by
  apply Array.ext_getElem?
  intro j
  rw [unG_at, Array.getElem?_push, Array.getElem?_push, unG_at, unG_size]
  by_cases e : j = g.size
  · subst e
    rw [if_pos rfl, if_pos rfl, Option.map_some, h]; rfl
  · rw [if_neg e, if_neg e]
theorem un_set {pz : Nat → Option GenState} {s : Shared} {i : Nat} {x : GenState} (h : pz i = none) : un pz (s.setGen i x) = (un pz s).setGen i x := by
  unfold un Shared.setGen
  simp only [unG_set h]
theorem Rl.set {pz : Nat → Option GenState} {s : Shared} {i : Nat} {x : GenState} (R : Rl pz s) (h : pz i = none) (hx : okSt x) : Rl pz (s.setGen i x) := by
  refine ⟨fun j G e => ⟨(R.pz_ j G e).1, ?_⟩, fun j st e1 e2 => ?_⟩
  · have ne : i ≠ j := fun z => by rw [z, e] at h; cases h
    show (s.gens.setIfInBounds i x)[j]? = _
    rw [Array.getElem?_setIfInBounds_ne ne]
    exact (R.pz_ j G e).2
  · have e1' : (s.gens.setIfInBounds i x)[j]? = some st := e1
    rw [Array.getElem?_setIfInBounds] at e1'
    by_cases z : i = j
    · rw [if_pos z] at e1'
      split at e1'
      · cases e1'
        exact hx
      · cases e1'
    · rw [if_neg z] at e1'
      exact R.ok j st e1' e2
theorem Rl.same {pz : Nat → Option GenState} {s s' : Shared} (R : Rl pz s) (h : s'.gens = s.gens) : Rl pz s' := ⟨fun i G e => by rw [h]; exact R.pz_ i G e, fun i st e => by rw [h] at e; exact R.ok i st e⟩
theorem Rl.size {pz : Nat → Option GenState} {s : Shared} (R : Rl pz s) : pz s.gens.size = none := by
  cases e : pz s.gens.size with
  | none => rfl
  | some G =>
    have q := (R.pz_ _ G e).2
    rw [Array.getElem?_eq_none (Nat.le_refl _)] at q
    cases q
theorem Rl.push {pz : Nat → Option GenState} {s : Shared} {c : Code} (R : Rl pz s) : Rl pz { s with gens := s.gens.push (.fresh c) } := by
  refine ⟨fun j G e => ⟨(R.pz_ j G e).1, ?_⟩, fun j st e1 e2 => ?_⟩
  · have q := (R.pz_ j G e).2
    have lt : j < s.gens.size := (Array.getElem?_eq_some_iff.mp q).1
    show (s.gens.push (.fresh c))[j]? = _
    rw [Array.getElem?_push, if_neg (Nat.ne_of_lt lt)]
    exact q
  · have e1' : (s.gens.push (.fresh c))[j]? = some st := e1
    rw [Array.getElem?_push] at e1'
    by_cases z : j = s.gens.size
    · rw [if_pos z] at e1'
      cases e1'
      trivial
    · rw [if_neg z] at e1'
      exact R.ok j st e1' e2
/-- what a run sees of a generator -/
theorem Rl.seen {pz : Nat → Option GenState} {s : Shared} {i : Nat} {st : GenState} (R : Rl pz s) (h : s.gens[i]? = some st) : ∃ st', (un pz s).gens[i]? = some st' ∧ st'.seen = st.seen := by
  refine ⟨(pz i).getD st, ?_, ?_⟩
  · show (unG pz s.gens)[i]? = _
    rw [unG_at, h]
    rfl
  · cases e : pz i with
    | none => rfl
    | some G =>
      have q := (R.pz_ i G e).2
      rw [h] at q
      rw [Option.some.inj q]
      exact (poison_seen G).symm
theorem Rl.free {pz : Nat → Option GenState} {s : Shared} {i : Nat} {st : GenState} (R : Rl pz s) (h : s.gens[i]? = some st) (hn : ∀ k l c p fs cl, st ≠ .suspended k l c p fs cl) : pz i = none := by
  cases e : pz i with
  | none => rfl
  | some G =>
    obtain ⟨⟨k, l, c, p, fs, cl, rfl⟩, q⟩ := R.pz_ i G e
    rw [h] at q
    exact absurd (Option.some.inj q) (hn _ _ _ _ _ _)
theorem Rl.at_ {pz : Nat → Option GenState} {s : Shared} {i : Nat} {st : GenState} (h : s.gens[i]? = some st) (e : pz i = none) : (un pz s).gens[i]? = some st := by
  show (unG pz s.gens)[i]? = _
  rw [unG_at, h, e]
  rfl
theorem sim {M : Model} {pz : Nat → Option GenState} {Γ : Ctx} {p : Pos} {t : Sem Fin} {fs : List Frame} {s s' : Shared} {e : End} (h : Runs M Γ p t fs s e s') :
    splitAtGen fs = none → Rl pz s → Runs M Γ p t fs (un pz s) e (un pz s') ∧ Rl pz s' ∧ okEnd e := by
  induction h with
  | done => exact fun _ R => ⟨.done, R, trivial⟩
  | raise => exact fun _ R => ⟨.raise, R, trivial⟩
  | again hq _ ih => exact fun hf R => let ⟨a, b, c⟩ := ih hf R; ⟨.again hq a, b, c⟩
  | rule _ ih => exact fun hf R => let ⟨a, b, c⟩ := ih hf R; ⟨.rule a, b, c⟩
  | «at» _ ih => exact fun hf R => let ⟨a, b, c⟩ := ih hf R; ⟨.at a, b, c⟩
  | load ho _ ih => exact fun hf R => let ⟨a, b, c⟩ := ih hf R; ⟨.load ho a, b, c⟩
  | update ho _ ih => exact fun hf R => let ⟨a, b, c⟩ := ih hf (R.same rfl); ⟨.update ho a, b, c⟩
  | loadIfAlive _ ih => exact fun hf R => let ⟨a, b, c⟩ := ih hf R; ⟨.loadIfAlive a, b, c⟩
  | point _ ih => exact fun hf R => let ⟨a, b, c⟩ := ih hf R; ⟨.point a, b, c⟩
  | alloc _ ih => exact fun hf R => let ⟨a, b, c⟩ := ih hf (R.same rfl); ⟨.alloc a, b, c⟩
  | fresh _ ih => exact fun hf R => let ⟨a, b, c⟩ := ih hf (R.same rfl); ⟨.fresh a, b, c⟩
  | ask _ ih => exact fun hf R => let ⟨a, b, c⟩ := ih hf R; ⟨.ask a, b, c⟩
  | choose hn _ ih => exact fun hf R => let ⟨a, b, c⟩ := ih hf (R.same rfl); ⟨.choose hn a, b, c⟩
  | os _ ih => exact fun hf R => let ⟨a, b, c⟩ := ih hf (R.same rfl); ⟨.os a, b, c⟩
  | handled _ ih => exact fun hf R => let ⟨a, b, c⟩ := ih hf R; ⟨.handled a, b, c⟩
  | genState hg _ ih =>
    intro hf R
    obtain ⟨a, b, c⟩ := ih hf R
    obtain ⟨st', h1, h2⟩ := R.seen hg
    rw [← h2] at a
    exact ⟨.genState h1 a, b, c⟩
  | stack _ ih => exact fun hf R => let ⟨a, b, c⟩ := ih hf R; ⟨.stack a, b, c⟩
  | thread _ ih => exact fun hf R => let ⟨a, b, c⟩ := ih hf R; ⟨.thread a, b, c⟩
  | @newGen Γ p k s e s' c _ ih =>
    intro hf R
    obtain ⟨a, b, c2⟩ := ih hf R.push
    refine ⟨.newGen ?_, b, c2⟩
    have e1 : un pz { s with gens := s.gens.push (.fresh c) } = { un pz s with gens := (un pz s).gens.push (.fresh c) } := by
      show ({ s with gens := unG pz (s.gens.push (.fresh c)) } : Shared) = { s with gens := (unG pz s.gens).push (.fresh c) }
      rw [unG_push R.size]
    rw [e1] at a
    have e2 : (un pz s).gens.size = s.gens.size := unG_size pz s.gens
    rw [e2]
    exact a
  | call _ _ ih1 ih2 =>
    intro hf R
    obtain ⟨a, b, _⟩ := ih1 rfl R
    obtain ⟨a2, b2, c2⟩ := ih2 hf b
    exact ⟨.call a a2, b2, c2⟩
  | callSusp _ ih =>
    intro hf R
    obtain ⟨a, b, c⟩ := ih rfl R
    exact ⟨.callSusp a, b, split_app c rfl⟩
  | yield => exact fun _ R => ⟨.yield, R, rfl⟩
  | resumeFresh hg _ hq _ ih1 ih2 =>
    intro hf R
    have hz := R.free hg (fun _ _ _ _ _ _ z => nomatch z)
    obtain ⟨a, b, c⟩ := ih1 rfl (R.set hz trivial)
    obtain ⟨a2, b2, c2⟩ := ih2 hf (b.set hz (okEnd_gen c))
    rw [un_set hz] at a a2
    exact ⟨.resumeFresh (Rl.at_ hg hz) a hq a2, b2, c2⟩
  | @resumeSuspended Γ p g r l k s k₀ l₀ c₀ p₀ fs cl e₁ s₁ e s' hg hr hq _ ih1 ih2 =>
    intro hf R
    cases hz : pz g with
    | some G =>
      obtain ⟨⟨k, l, c, p, fs, cl, rfl⟩, q⟩ := R.pz_ g G hz
      rw [hg] at q
      have q2 := Option.some.inj q
      unfold poison at q2
      injection q2 with q3
      rw [q3] at hr
      exact (no_unsup hr).elim
    | none =>
      have hfs : splitAtGen fs = none := R.ok g _ hg hz
      obtain ⟨a, b, c⟩ := ih1 hfs (R.set hz trivial)
      obtain ⟨a2, b2, c2⟩ := ih2 hf (b.set hz (okEnd_gen c))
      rw [un_set hz] at a a2
      exact ⟨.resumeSuspended (Rl.at_ hg hz) a hq a2, b2, c2⟩
  | resumeJustStarted hg hv _ ih =>
    intro hf R
    have hz := R.free hg (fun _ _ _ _ _ _ z => nomatch z)
    obtain ⟨a, b, c⟩ := ih hf R
    exact ⟨.resumeJustStarted (Rl.at_ hg hz) hv a, b, c⟩
  | resumeThrowFresh hg _ ih =>
    intro hf R
    have hz := R.free hg (fun _ _ _ _ _ _ z => nomatch z)
    obtain ⟨a, b, c⟩ := ih hf (R.set hz trivial)
    rw [un_set hz] at a
    exact ⟨.resumeThrowFresh (Rl.at_ hg hz) a, b, c⟩
  | resumeRunning hg _ ih =>
    intro hf R
    have hz := R.free hg (fun _ _ _ _ _ _ z => nomatch z)
    obtain ⟨a, b, c⟩ := ih hf R
    exact ⟨.resumeRunning (Rl.at_ hg hz) a, b, c⟩
  | resumeFinished hg _ ih =>
    intro hf R
    have hz := R.free hg (fun _ _ _ _ _ _ z => nomatch z)
    obtain ⟨a, b, c⟩ := ih hf R
    exact ⟨.resumeFinished (Rl.at_ hg hz) a, b, c⟩
  | segRet _ _ ih1 ih2 =>
    intro hf R
    obtain ⟨a, b, _⟩ := ih1 rfl R
    obtain ⟨a2, b2, c2⟩ := ih2 (split_ret hf) b
    exact ⟨.segRet a a2, b2, c2⟩
  | segGen _ _ ih1 ih2 => exact fun hf _ => by cases hf
  | segSuspOut hs _ ih =>
    intro hf R
    obtain ⟨a, b, c⟩ := ih rfl R
    exact ⟨.segSuspOut hs a, b, split_app c hf⟩
  | segSuspGen hs _ _ _ _ _ => exact fun hf _ => by rw [hs] at hf; cases hf
theorem simW {M : Model} {pz : Nat → Option GenState} {Γ : Ctx} {p : Pos} {g : Nat} {r : Resume} {s s' : Shared} {res : GenResult} (h : Wakes M Γ p g r s res s') (R : Rl pz s) :
    Wakes M Γ p g r (un pz s) res (un pz s') ∧ Rl pz s' := by
  unfold Wakes at h
  split at h
  · exact h.elim
  · rename_i c hg
    have hz := R.free hg (fun _ _ _ _ _ _ z => nomatch z)
    have hg' := Rl.at_ (pz := pz) hg hz
    cases r with
    | throw x =>
      obtain ⟨rfl, rfl⟩ := h
      refine ⟨?_, R.set hz trivial⟩
      unfold Wakes
      rw [hg', un_set hz]
      exact ⟨rfl, rfl⟩
    | send v =>
      cases v with
      | none =>
        obtain ⟨e₁, s₁, hr, hq, rfl, rfl⟩ := h
        obtain ⟨a, b, c2⟩ := sim hr rfl (R.set hz trivial)
        rw [un_set hz] at a
        refine ⟨?_, b.set hz (okEnd_gen c2)⟩
        unfold Wakes
        rw [hg', un_set hz]
        exact ⟨e₁, _, a, hq, rfl, rfl⟩
      | _ =>
        obtain ⟨rfl, rfl⟩ := h
        refine ⟨?_, R⟩
        unfold Wakes
        rw [hg']
        exact ⟨rfl, rfl⟩
  · rename_i k₀ l c₀ p₀ fs cl hg
    obtain ⟨e₁, s₁, hr, hq, rfl, rfl⟩ := h
    cases hz : pz g with
    | some G =>
      obtain ⟨⟨k, l, c, p, fs, cl, rfl⟩, q⟩ := R.pz_ g G hz
      rw [hg] at q
      have q2 := Option.some.inj q
      unfold poison at q2
      injection q2 with q3
      rw [q3] at hr
      exact (no_unsup hr).elim
    | none =>
      have hfs : splitAtGen fs = none := R.ok g _ hg hz
      obtain ⟨a, b, c⟩ := sim hr hfs (R.set hz trivial)
      rw [un_set hz] at a
      refine ⟨?_, b.set hz (okEnd_gen c)⟩
      unfold Wakes
      rw [Rl.at_ (pz := pz) hg hz, un_set hz]
      exact ⟨e₁, _, a, hq, rfl, rfl⟩
  · rename_i hg
    have hz := R.free hg (fun _ _ _ _ _ _ z => nomatch z)
    obtain ⟨rfl, rfl⟩ := h
    refine ⟨?_, R⟩
    unfold Wakes
    rw [Rl.at_ (pz := pz) hg hz]
    exact ⟨rfl, rfl⟩
  · rename_i hg
    have hz := R.free hg (fun _ _ _ _ _ _ z => nomatch z)
    obtain ⟨rfl, rfl⟩ := h
    refine ⟨?_, R⟩
    unfold Wakes
    rw [Rl.at_ (pz := pz) hg hz]
    exact ⟨rfl, rfl⟩
/-- the same of what is wanted behind a tree -/
theorem wp_un {α : Type} (M : Model) (pz : Nat → Option GenState) (Γ : Ctx) (t : Sem α) : ∀ (Q : α → Pos → Shared → Prop) (E : Value → Pos → Shared → Prop) (p : Pos) (s : Shared), Rl pz s → Sem.wp M Γ t Q E p s →
    Sem.wp M Γ t (fun a p' s' => ∃ s2, s' = un pz s2 ∧ Rl pz s2 ∧ Q a p' s2) (fun e p' s' => ∃ s2, s' = un pz s2 ∧ Rl pz s2 ∧ E e p' s2) p (un pz s) := by
  induction t with
  | pure a => intro Q E p s R h; exact ⟨s, rfl, R, h⟩
  | raise e => intro Q E p s R h; exact ⟨s, rfl, R, h⟩
  | unsupported _ => intro Q E p s _ h; exact h
  | finish _ => intro Q E p s _ h; exact h
  | rule _ k ih => intro Q E p s R h; exact ih () Q E p s R h
  | «at» p' k ih => intro Q E p s R h; exact ih () Q E p' s R h
  | load a _ k ih => intro Q E p s R h; obtain ⟨o, ho, h⟩ := h; exact ⟨o, ho, ih o Q E p s R h⟩
  | update a _ f k ih => intro Q E p s R h; exact ⟨h.1, ih () Q E p _ (Rl.same (s' := { s with heap := s.heap.update a f }) R rfl) h.2⟩
  | loadIfAlive a k ih => intro Q E p s R h; exact ih _ Q E p s R h
  | point _ k ih => intro Q E p s R h; exact ih () Q E p s R h
  | register _ _ => intro Q E p s _ h; exact h
  | alloc o k ih => intro Q E p s R h; exact ih _ Q E p _ (Rl.same (s' := { s with heap := s.heap.push o }) R rfl) h
  | fresh k ih => intro Q E p s R h; exact ih _ Q E p _ (Rl.same (s' := { s with toks := s.toks + 1 }) R rfl) h
  | ask k ih => intro Q E p s R h; exact ih _ Q E p s R h
  | choose src m k ih => intro Q E p s R h; exact ⟨h.1, ih _ Q E p _ (Rl.same (s' := { s with drawn := s.drawn.bump src }) R rfl) h.2⟩
  | os q _ k ih => intro Q E p s R h; exact ih _ Q E p _ (Rl.same (s' := { s with os := (Os.step s.os q).1 }) R rfl) h
  | call c hd _ _ k ih =>
    intro Q E p s R h
    obtain ⟨r, s', hr, h⟩ := h
    obtain ⟨a, b, _⟩ := sim hr rfl R
    exact ⟨r, _, a, ih r Q E p s' b h⟩
  | handled own k ih => intro Q E p s R h; exact ih _ Q E p s R h
  | genState g k ih =>
    intro Q E p s R h
    obtain ⟨st, hs, h⟩ := h
    obtain ⟨st', h1, h2⟩ := R.seen hs
    exact ⟨st', h1, by rw [h2]; exact ih _ Q E p s R h⟩
  | newGen c k ih =>
    intro Q E p s R h
    have q := ih _ Q E p _ (R.push (c := c)) h
    show Sem.wp M Γ (k (unG pz s.gens).size) _ _ p { un pz s with gens := (unG pz s.gens).push (.fresh c) }
    rw [unG_size, ← unG_push R.size]
    exact q
  | resume g r _ k ih =>
    intro Q E p s R h
    obtain ⟨res, s', hw, h⟩ := h
    obtain ⟨a, b⟩ := simW hw R
    exact ⟨res, _, a, ih res Q E p s' b h⟩
  | yield _ _ _ _ => intro Q E p s _ h; exact h
  | stack k ih => intro Q E p s R h; exact ih _ Q E p s R h
  | fork _ _ => intro Q E p s _ h; exact h
  | thread k ih => intro Q E p s R h; exact ih _ Q E p s R h
  | await _ _ _ _ _ => intro Q E p s _ h; exact h
/-- the sleepers of a state -/
def slp (g : Array GenState) (i : Nat) : Option GenState := match g[i]? with
  | some (.suspended k l c p fs cl) => some (.suspended k l c p fs cl)
  | _ => none
def psn (s : Shared) : Shared := { s with gens := s.gens.map poison }
theorem psn_rl (s : Shared) : Rl (slp s.gens) (psn s) := by
  refine ⟨fun i G e => ?_, fun i st e1 e2 => ?_⟩
  · unfold slp at e
    split at e
    · rename_i k l c p fs cl hg
      cases e
      refine ⟨⟨k, l, c, p, fs, cl, rfl⟩, ?_⟩
      show (s.gens.map poison)[i]? = _
      rw [Array.getElem?_map, hg]
      rfl
    · cases e
  · have e1' : (s.gens.map poison)[i]? = some st := e1
    rw [Array.getElem?_map] at e1'
    cases hg : s.gens[i]? with
    | none => rw [hg] at e1'; cases e1'
    | some x =>
      rw [hg] at e1'
      have e3 : poison x = st := Option.some.inj e1'
      subst e3
      unfold slp at e2
      rw [hg] at e2
      cases x with
      | suspended => cases e2
      | _ => trivial
theorem psn_un (s : Shared) : un (slp s.gens) (psn s) = s := by
  have e : unG (slp s.gens) (s.gens.map poison) = s.gens := by
    apply Array.ext_getElem?
    intro i
    rw [unG_at, Array.getElem?_map]
    cases hg : s.gens[i]? with
    | none => rfl
    | some x =>
      unfold slp
      rw [hg]
      cases x <;> rfl
  unfold un psn
  simp only [e]
/-- a sleeper stays -/
theorem un_kept {g : Array GenState} {s2 : Shared} {i : Nat} {G : GenState} (R : Rl (slp g) s2) (h : g[i]? = some G) (hs : ∃ k l c p fs cl, G = .suspended k l c p fs cl) : (un (slp g) s2).gens[i]? = some G := by
  obtain ⟨k, l, c, p, fs, cl, rfl⟩ := hs
  have e : slp g i = some (.suspended k l c p fs cl) := by unfold slp; rw [h]
  have q := (R.pz_ i _ e).2
  show (unG _ s2.gens)[i]? = _
  rw [unG_at, q, e]
  rfl
theorem un_bare {g : Array GenState} {s2 : Shared} (R : Rl (slp g) s2) (h : PyProof.Rows.AllBare g) (h2 : PyProof.Rows.AllBare s2.gens) : PyProof.Rows.AllBare (un (slp g) s2).gens := fun y hy => by
  obtain ⟨i, hi, e⟩ := Array.mem_iff_getElem.mp hy
  have q : (unG (slp g) s2.gens)[i]? = some y := by rw [← e]; exact Array.getElem?_eq_getElem hi
  rw [unG_at] at q
  cases hx : s2.gens[i]? with
  | none => rw [hx] at q; cases q
  | some x =>
    rw [hx] at q
    have q2 : (slp g i).getD x = y := Option.some.inj q
    cases hz : slp g i with
    | none =>
      rw [hz] at q2
      subst q2
      exact h2 _ (Array.mem_of_getElem? hx)
    | some G =>
      rw [hz] at q2
      subst q2
      unfold slp at hz
      split at hz
      · rename_i k l c p fs cl hg
        cases hz
        exact h _ (Array.mem_of_getElem? hg)
      · cases hz
theorem psn_bare {s : Shared} (h : PyProof.Rows.AllBare s.gens) : PyProof.Rows.AllBare (psn s).gens := fun y hy => by
  have hy' : y ∈ s.gens.map poison := hy
  obtain ⟨x, hx, e⟩ := Array.mem_map.mp hy'
  subst e
  have q := h x hx
  cases x <;> exact q
/-- THE RULE: what holds of a run from the poisoned state holds of the run from the state itself, the sleepers stay -/
theorem wpAny_asleep {α : Type} {M : Model} {A : Around} {t : Sem α} {Q : α → Shared → Prop} {E : Value → Shared → Prop} {s : Shared} (h : wpAny M A t Q E (psn s)) :
    wpAny M A t (fun a s' => ∃ s2, s' = un (slp s.gens) s2 ∧ Rl (slp s.gens) s2 ∧ Q a s2) (fun e s' => ∃ s2, s' = un (slp s.gens) s2 ∧ Rl (slp s.gens) s2 ∧ E e s2) s := by
  intro Γ p hΓ
  have q := wp_un M (slp s.gens) Γ t _ _ p (psn s) (psn_rl s) (h Γ p hΓ)
  rw [psn_un] at q
  exact q
end TAG
end
/-! TaGen2 -/
section
set_option Elab.async false
set_option linter.all false
set_option maxRecDepth 100000
set_option maxHeartbeats 4000000
/-! A generator whose end is «for one in met: yield one», walked by a for that may leave it. -/
namespace TAG
open PySem PySem.Spec PyProof.Rows L2 GenW
abbrev NoE : Value → Shared → Prop := fun _ _ => False
/-- the run of a frame's tree comes to an end of which Φ holds -/
def RT (M : Model) (A : Around) (Φ : End → Shared → Prop) (c : Code) (t : Sem PySem.Fin) (fs : List Frame) (s : Shared) : Prop := ∀ Γ p, Γ.code = c → Γ.Woken A → ∃ e s', Runs M Γ p t fs s e s' ∧ Φ e s'
section
variable {M : Model} {A : Around} {Φ : End → Shared → Prop} {c : Code} {fs : List Frame} {s : Shared}
theorem noE {α : Type} {M : Model} {A : Around} {t : Sem α} {Q : α → Shared → Prop} {E : Value → Shared → Prop} {s : Shared} (h : wpAny M A t Q NoE s) : wpAny M A t Q E s := wpAny_mono h (fun _ _ q => q) fun _ _ z => False.elim z
theorem rt_wrap {α : Type} {m : Sem α} {K : α → Sem PySem.Fin} {H : Value → Sem PySem.Fin} {gd : Bool → Bool} {lv : List Value → List Value} (h : wpAny M (A.over c fs) m (fun a s' => RT M A Φ c (K a) fs s') NoE s) : RT M A Φ c (m.wrap K H gd lv) fs s := by
  intro Γ p hc hΓ
  subst hc
  have z := (noE (E := fun x s' => RT M A Φ Γ.code (H x) fs s') h) (Γ.over fs) p (hΓ.over fs)
  exact runs_wrap_of_wp K H gd lv m z (fun a p' s' h' => h' Γ p' rfl hΓ) fun x p' s' h' => h' Γ p' rfl hΓ
theorem rt_bw {α β : Type} {m : Sem α} {f : α → Sem β} {K : β → Sem PySem.Fin} {H : Value → Sem PySem.Fin} {gd : Bool → Bool} {lv : List Value → List Value} (h : wpAny M (A.over c fs) m (fun a s' => RT M A Φ c ((f a).wrap K H gd lv) fs s') NoE s) : RT M A Φ c ((m >>= f).wrap K H gd lv) fs s := by
  rw [Sem.bind_eq_wrap', Sem.wrap_wrap]
  exact rt_wrap h
theorem rt_b {α : Type} {m : Sem α} {f : α → Sem PySem.Fin} (h : wpAny M (A.over c fs) m (fun a s' => RT M A Φ c (f a) fs s') NoE s) : RT M A Φ c (m >>= f) fs s := by
  rw [Sem.bind_eq_wrap']
  exact rt_wrap h
theorem rt_call {c' : Code} {h : Option Value} {g : Bool} {l : List Value} {k : Result → Sem PySem.Fin} (hc : ∀ p, RT M A Φ c' (M.den c') (.ret k h g l c p [] :: fs) s) : RT M A Φ c (.call c' h g l k) fs s := by
  intro Γ p hk hΓ
  subst hk
  obtain ⟨e, s', hr, he⟩ := hc p (Γ.goto c') p rfl (hΓ.goto c')
  exact ⟨e, s', runs_call_seg hr, he⟩
theorem rt_leaf {k : Result → Sem PySem.Fin} {h : Option Value} {g : Bool} {l kp : List Value} {c₁ : Code} {p₁ : Pos} (r : Result) (hk : RT M A Φ c₁ (k r) fs s) : RT M A Φ c (leafOf r) (.ret k h g l c₁ p₁ kp :: fs) s := by
  intro Γ p hc hΓ
  obtain ⟨e, s', hr, he⟩ := hk (Γ.goto c₁) p₁ rfl (hΓ.goto c₁)
  exact ⟨e, s', Runs.pop r hr, he⟩
theorem rt_again {c' : Code} (hq : c'.quiet = true) (hc : RT M A Φ c' (M.den c') fs s) : RT M A Φ c (.pure (.again c')) fs s := by
  intro Γ p hk hΓ
  obtain ⟨e, s', hr, he⟩ := hc (Γ.goto c') p rfl (hΓ.goto c')
  exact ⟨e, s', Runs.head (c₁ := c') (fun _ _ x => .again hq x) hr, he⟩
theorem rt_end (r : Result) (h : Φ (.ret r) s) : RT M A Φ c (leafOf r) [] s := fun Γ p _ _ => ⟨.ret r, s, Runs.leaf r, h⟩
theorem rt_yield {v : Value} {g : Bool} {l : List Value} {k : Resume → Sem PySem.Fin} (hfs : splitAtGen fs = none) (h : ∀ p, Φ (.susp v g l k c p fs) s) : RT M A Φ c (.yield v g l k) fs s := by
  intro Γ p hc _
  subst hc
  exact ⟨_, s, Runs.yield' fs hfs, h p⟩
end
section
variable {P : Program} {w : World} {A : Around} {Φ : End → Shared → Prop} {s : Shared} {c : Code} {fs : List Frame} {env : Env} {K : Flow → Sem PySem.Fin} {H : Value → Sem PySem.Fin} {gd : Bool → Bool} {lv : List Value → List Value}
/-- what stands behind a loop's call -/
abbrev backK (env : Env) (K : Flow → Sem PySem.Fin) (H : Value → Sem PySem.Fin) (gd : Bool → Bool) (lv : List Value → List Value) : Result → Sem PySem.Fin := fun r =>
  ((match r with | .ok f => (.pure f : Sem Flow) | .error e => .raise e).onRaise (cameBack env)).wrap K H gd lv
theorem rt_For {target iter : Expr} {body : List Stmt} {pos : Pos} (hs : ∀ x, foldedSetIterable iter env x = pure x)
    (h : wpAny (model P w) (A.over c fs) (eval iter env) (fun x s1 => wpAny (model P w) (A.over c fs) (pyIter x) (fun it s2 =>
      ∀ p, RT (model P w) A Φ (.forLoop target it body [] env) ((model P w).den (.forLoop target it body [] env)) (.ret (backK env K H gd lv) none (gd false) (lv []) c p [] :: fs) s2) NoE s1) NoE s) :
    RT (model P w) A Φ c ((exec (.For target iter body [] pos) env).wrap K H gd lv) fs s := by
  rw [exec_For]
  refine rt_bw (wpAny_standAt ?_)
  refine rt_bw (wpAny_mono h (fun x s1 h1 => ?_) fun _ _ z => z)
  refine rt_bw (wpAny_of_eq (hs x) ?_)
  refine rt_bw (wpAny_standAt ?_)
  refine rt_bw (wpAny_holding (wpAny_mono h1 (fun it s2 h2 => ?_) fun _ _ z => z))
  exact rt_call h2
abbrev loopK (target : Expr) (it : Value) (body : List Stmt) (env : Env) : Flow → Sem PySem.Fin := fun f => match f with
  | .next | .cont => .pure (.again (.forLoop target it body [] env))
  | .brk => .pure (.done .next)
  | .ret v => .pure (.done (.ret v))
abbrev loopH (env : Env) : Value → Sem PySem.Fin := fun e => (do noteFrame e env; theTreesLotGoes e : Sem Unit).wrap (fun _ => .raise e) .raise id id
theorem rt_forLoop {target : Expr} {it : Value} {body : List Stmt}
    (h : wpAny (model P w) (A.over (.forLoop target it body [] env) fs) (pyNext it) (fun r s1 => match r with
      | none => RT (model P w) A Φ (.block [] env) (.pure (.done .next)) fs s1
      | some v => wpAny (model P w) (A.over (.forLoop target it body [] env) fs) (letOwnedTupleGo target it v) (fun _ s2 => wpAny (model P w) (A.over (.forLoop target it body [] env) fs) (assign target env v) (fun _ s3 =>
          RT (model P w) A Φ (.forLoop target it body [] env) ((execs body env).wrap (loopK target it body env) (loopH env) id id) fs s3) NoE s2) NoE s1) NoE s) :
    RT (model P w) A Φ (.forLoop target it body [] env) ((model P w).den (.forLoop target it body [] env)) fs s := by
  show RT _ A Φ _ ((forTurn target it body [] env).onRaise (fun x => do noteFrame x env; theTreesLotGoes x)) fs s
  unfold forTurn
  rw [Sem.onRaise_eq_wrap]
  refine rt_bw (wpAny_standAt ?_)
  refine rt_bw (wpAny_onRaise (wpAny_mono h (fun r s1 h1 => ?_) fun _ _ z => False.elim z))
  cases r with
  | none =>
    refine rt_again rfl ?_
    exact h1
  | some v =>
    refine rt_bw (wpAny_mono h1 (fun _ s2 h2 => ?_) fun _ _ z => z)
    refine rt_bw (wpAny_mono h2 (fun _ s3 h3 => ?_) fun _ _ z => z)
    rw [Sem.bind_eq_wrap', Sem.wrap_wrap]
    rw [Sem.wrap_congr (execs body env) _ _ (K' := loopK target it body env) (H' := loopH env) (fun f => by cases f <;> rfl) fun e => by
      first
        | exact Sem.bind_eq_wrap _ _
        | (show (do noteFrame e env; theTreesLotGoes e : Sem Unit).bind (fun _ => .raise e) = _
           rw [Sem.bind_eq_wrap])]
    exact h3
theorem rt_execs_cons {st : Stmt} {rest : List Stmt} (h : RT (model P w) A Φ c ((exec st env).wrap (fun f => match f with
      | .next => (execs rest env).wrap K H gd lv
      | f => K f) H gd lv) fs s) : RT (model P w) A Φ c ((execs (st :: rest) env).wrap K H gd lv) fs s := by
  rw [execs_cons_wrap]
  exact h
/-- «yield e», alone in a row -/
theorem rt_Yield {e : Expr} {yp pos : Pos} (hco : env.scope.isCoroutine = false) (hi : interactive env = false)
    (h : wpAny (model P w) (A.over c fs) (eval e env) (fun v s' => RT (model P w) A Φ c (.yield v (gd false) (lv []) fun r => (match r with
      | .send x => (.pure x : Sem Value)
      | .throw x => raiseThrown x).wrap (fun x => (dropValue (.Yield (some e) yp) pos x).wrap K H gd lv) H gd lv) fs s') NoE s) :
    RT (model P w) A Φ c ((exec (.Expr (.Yield (some e) yp) pos) env).wrap K H gd lv) fs s := by
  have hy : ∀ v, yieldOut env v = yieldValue v := fun v => by
    unfold yieldOut
    rw [hco, if_neg Bool.false_ne_true]
  rw [exec_Expr env (.Yield (some e) yp) pos hi rfl]
  refine rt_bw (wpAny_standAt ?_)
  show RT (model P w) A Φ c (((eval e env >>= fun v => (standAt yp >>= fun _ => yieldOut env v)) >>= fun x => dropValue (.Yield (some e) yp) pos x).wrap K H gd lv) fs s
  rw [Sem.bind_eq_wrap', Sem.wrap_wrap]
  refine rt_bw (wpAny_mono h (fun v s' h' => ?_) fun _ _ z => z)
  refine rt_bw (wpAny_standAt ?_)
  rw [hy]
  exact h'
theorem rt_func {body : List Stmt}
    (h : RT (model P w) A Φ (.func body env) ((execs body env).wrap (fun f => .pure (.done (.ret (match f with | .ret v => v | _ => .none)))) (fun e => (leaving env e).wrap (fun _ => .raise e) .raise id id) id id) fs s) :
    RT (model P w) A Φ (.func body env) ((model P w).den (.func body env)) fs s := by
  show RT _ A Φ _ (.point [] fun _ => ((execs body env).onRaise (leaving env)) >>= _) fs s
  refine rt_wrap (m := point) (H := .raise) (gd := id) (lv := fun _ => []) (wpAny_point ?_)
  rw [Sem.onRaise_eq_wrap, Sem.bind_eq_wrap', Sem.wrap_wrap]
  rw [Sem.wrap_congr (execs body env) _ _ (K' := fun f => .pure (.done (.ret (match f with | .ret v => v | _ => .none)))) (H' := fun e => (leaving env e).wrap (fun _ => .raise e) .raise id id) (fun f => by cases f <;> rfl) fun e => by
    rw [Sem.bind_eq_wrap, Sem.wrap_wrap]
    rfl]
  exact h
end
end TAG
end
/-! TaGen3 -/
section
set_option Elab.async false
set_option linter.all false
set_option maxRecDepth 100000
set_option maxHeartbeats 4000000
/-! A generator whose end is «for one in met: yield one»: its wakes, each told by the run to its next end. -/
namespace TAG
open PySem PySem.Spec PyProof.Rows L2 GenW
/-- the run of a woken generator (None sent) comes to an end of which Φ holds -/
def GoRT (M : Model) (A : Around) (Φ : End → Shared → Prop) (gs : GenState) (s : Shared) : Prop := match gs with
  | .fresh c => RT M A Φ c (M.den c) [] s
  | .suspended k _ c _ fs _ => RT M A Φ c (k (.send .none)) fs s
  | _ => False
theorem rt_mono {M : Model} {A : Around} {Φ Φ' : End → Shared → Prop} {c : Code} {t : Sem PySem.Fin} {fs : List Frame} {s : Shared} (h : RT M A Φ c t fs s) (k : ∀ e s', Φ e s' → Φ' e s') : RT M A Φ' c t fs s := fun Γ p hc hΓ => let ⟨e, s', hr, he⟩ := h Γ p hc hΓ; ⟨e, s', hr, k e s' he⟩
theorem rt_gsz {M : Model} {A : Around} {Φ : End → Shared → Prop} {c : Code} {t : Sem PySem.Fin} {fs : List Frame} {s : Shared} {n : Nat} (hn : n ≤ s.gens.size) (h : RT M A Φ c t fs s) : RT M A (fun e s' => n ≤ s'.gens.size ∧ Φ e s') c t fs s := fun Γ p hc hΓ => let ⟨e, s', hr, he⟩ := h Γ p hc hΓ; ⟨e, s', hr, Nat.le_trans hn (runs_gsz hr), he⟩
theorem gort_mono {M : Model} {A : Around} {Φ Φ' : End → Shared → Prop} {gs : GenState} {s : Shared} (h : GoRT M A Φ gs s) (k : ∀ e s', Φ e s' → Φ' e s') : GoRT M A Φ' gs s := by
  cases gs with
  | fresh c => exact rt_mono h k
  | suspended k₀ l₀ c₀ p₀ fs₀ cl => exact rt_mono h k
  | running => exact h
  | finished => exact h
theorem gort_gsz {M : Model} {A : Around} {Φ : End → Shared → Prop} {gs : GenState} {s : Shared} {n : Nat} (hn : n ≤ s.gens.size) (h : GoRT M A Φ gs s) : GoRT M A (fun e s' => n ≤ s'.gens.size ∧ Φ e s') gs s := by
  cases gs with
  | fresh c => exact rt_gsz hn h
  | suspended k₀ l₀ c₀ p₀ fs₀ cl => exact rt_gsz hn h
  | running => exact h
  | finished => exact h
theorem wpAny_resumeRT {M : Model} {A : Around} {α : Type} {Φ : End → Shared → Prop} {gs : GenState} {g : Nat} {l : List Value} {k : GenResult → Sem α} {Q : α → Shared → Prop} {E : Value → Shared → Prop} {s : Shared} (hg : s.gens[g]? = some gs) (hgo : GoRT M A Φ gs (s.setGen g .running))
    (hΦ : ∀ e s1, Φ e s1 → e.quiet = true ∧ wpAny M A (k e.result) Q E (s1.setGen g e.genState)) : wpAny M A (.resume g (.send .none) l k) Q E s := by
  intro Γ p hΓ
  rw [Sem.wp_resume]
  cases gs with
  | fresh c =>
    obtain ⟨e₁, s₁, hr, he⟩ := hgo (Γ.wake c p) p rfl (hΓ.wake c p)
    obtain ⟨q1, q2⟩ := hΦ e₁ s₁ he
    exact ⟨_, _, by unfold Wakes; rw [hg]; exact ⟨e₁, s₁, hr, q1, rfl, rfl⟩, q2 Γ p hΓ⟩
  | suspended k₀ l₀ c₀ p₀ fs₀ cl =>
    obtain ⟨e₁, s₁, hr, he⟩ := hgo (Γ.wake c₀ p) p₀ rfl (hΓ.wake c₀ p)
    obtain ⟨q1, q2⟩ := hΦ e₁ s₁ he
    exact ⟨_, _, by unfold Wakes; rw [hg]; exact ⟨e₁, s₁, hr, q1, rfl, rfl⟩, q2 Γ p hΓ⟩
  | running => exact hgo.elim
  | finished => exact hgo.elim
section
variable {P : Program} {w : World} {A : Around} {E : Value → Shared → Prop} {s : Shared}
/-- next(g) -/
theorem next_RT {a : Addr} {g : Nat} {gs : GenState} {Φ : End → Shared → Prop} {Q : Option Value → Shared → Prop} (hh : A.handled = none)
    (hl : s.heap.NoLimit) (hroom : A.depth < recursionLimit) (hg : s.heap.IsGen a g) (hgs : s.gens[g]? = some gs) (hgo : GoRT (model P w) A.in1 Φ gs (s.setGen g .running))
    (hΦ : ∀ e s1, Φ e s1 → (e = .ret (.ok (.ret .none)) ∧ ∀ h', (∀ b o, s1.heap.get? b = some o → h'.get? b = some o) → Q none { s1.setGen g .finished with heap := h' }) ∨
      (∃ v gd l k c p fs, e = .susp v gd l k c p fs ∧ e.quiet = true ∧ Q (some v) (s1.setGen g e.genState))) :
    wpAny (model P w) A (pyNext (.ref a)) Q E s := by
  unfold pyNext
  refine wpAny_bind (wpAny_attempt (wpAny_callSpecial?_slot (name := Str.ofString "__next__") hg.typeIs slot_gen_next
    (wpAny_call_entry slot_gen_next hg.typeIs entry_gen_next ?_ (args_gen_next _))))
  show wpAny _ A.in1 (Builtin.Generator.genWake (.ref a) (.send .none)) _ _ s
  unfold Builtin.Generator.genWake
  refine wpAny_bind (wpAny_holding (wpAny_genNumber hg (wpAny_bind (wpAny_genState hgs ?_))))
  cases gs with
  | running => exact hgo.elim
  | finished => exact hgo.elim
  | _ =>
    refine wpAny_bind (wpAny_roomToWake hl hroom ?_)
    show wpAny _ A.in1 (.resume g (.send .none) [] _) _ _ s
    refine wpAny_resumeRT hgs hgo (fun e s₁ he => ?_)
    rcases hΦ e s₁ he with ⟨rfl, hp⟩ | ⟨v, gd, l, k, c, p, fs, rfl, hq, hv⟩
    · refine ⟨rfl, ?_⟩
      show wpAny _ A.in1 (newExc (.type "StopIteration") [] >>= _) _ _ _
      refine wpAny_bind ?_
      simp only [newExc, newTuple]
      refine wpAny_bind (wpAny_newObj_type ?_ (by size_fits))
      refine wpAny_bind (m := firstArgMember _ _) (wpAny_of_eq (a := Value.none) (by first | rfl | (simp only [firstArgMember]; rfl)) ?_)
      refine wpAny_newObj_type ?_ (by size_fits)
      simp only [raiseNew]
      refine wpAny_bind (wpAny_bind (wpAny_handled ?_))
      first | rw [show A.in1.handled = none from hh] | rw [hh]
      refine wpAny_throw ?_
      refine wpAny_bind (wpAny_isInstance (T := "StopIteration") (b := true) ⟨_, Heap.get?_push_size _ rfl, rfl⟩ isSubtype_stop ?_)
      exact wpAny_pure (hp _ fun b o hb => Heap.get?_push_of_some _ (Heap.get?_push_of_some _ hb))
    · exact ⟨hq, wpAny_pure ⟨v, rfl, wpAny_pure hv⟩⟩
end
/-! ### the loop «for one in met: yield one» -/
/-- the iterator stands at place i, the frame has its names -/
structure Cd (L it m : Addr) (i : Nat) (h : Heap) : Prop where
  ns : ∃ mp, h.Ns L mp
  it : h.IsListIter it m i
/-- the list -/
def LsAt (ms : List V) (m : Addr) (h : Heap) : Prop := ∃ its, h.IsList m its ∧ Vals ms its.toList
/-- only the iterator and the frame have turned -/
structure Ch (L it : Addr) (s s' : Shared) : Prop where
  os : s'.os = s.os
  gens : s'.gens = s.gens
  keep : ∀ b o, b ≠ L → b ≠ it → s.heap.get? b = some o → s'.heap.get? b = some o
/-- what a wake comes to: the items that are left, rest, one by one -/
def GW (M : Model) (A : Around) (L it m : Addr) (ms : List V) : List V → Nat → GenState → Prop
  | [], i, gs => ∀ s, Cd L it m i s.heap → LsAt ms m s.heap → GoRT M A (fun e s' => Ch L it s s' ∧ e = .ret (.ok (.ret .none))) gs s
  | x :: r, i, gs => ∀ s, Cd L it m i s.heap → LsAt ms m s.heap → GoRT M A (fun e s' => Ch L it s s' ∧ Cd L it m (i + 1) s'.heap ∧ ∃ v gd l k c p fs, e = .susp v gd l k c p fs ∧ e.quiet = true ∧ RelV x v ∧ GW M A L it m ms r (i + 1) e.genState) gs s
/-- the same of a run that has begun -/
def GWr (M : Model) (A : Around) (L it m : Addr) (ms : List V) (rest : List V) (i : Nat) (s : Shared) (e : End) (s' : Shared) : Prop := match rest with
  | [] => Ch L it s s' ∧ e = .ret (.ok (.ret .none))
  | x :: r => Ch L it s s' ∧ Cd L it m (i + 1) s'.heap ∧ ∃ v gd l k c p fs, e = .susp v gd l k c p fs ∧ e.quiet = true ∧ RelV x v ∧ GW M A L it m ms r (i + 1) e.genState
theorem gw_go {M : Model} {A : Around} {L it m : Addr} {ms rest : List V} {i : Nat} {gs : GenState} {s : Shared} (h : GW M A L it m ms rest i gs) (c : Cd L it m i s.heap) (l : LsAt ms m s.heap) : GoRT M A (GWr M A L it m ms rest i s) gs s := by
  cases rest with
  | nil => exact h s c l
  | cons x r => exact h s c l
theorem gw_of {M : Model} {A : Around} {L it m : Addr} {ms rest : List V} {i : Nat} {gs : GenState} (h : ∀ s, Cd L it m i s.heap → LsAt ms m s.heap → GoRT M A (GWr M A L it m ms rest i s) gs s) : GW M A L it m ms rest i gs := by
  cases rest with
  | nil => exact h
  | cons x r => exact h
section
variable {P : Program} {w : World} {A : Around} {env : Env} {K : Flow → Sem PySem.Fin} {H : Value → Sem PySem.Fin} {gd : Bool → Bool} {lv : List Value → List Value}
theorem Ch.trans {L it : Addr} {s s1 s2 : Shared} (a : Ch L it s s1) (b : Ch L it s1 s2) : Ch L it s s2 := ⟨b.os.trans a.os, b.gens.trans a.gens, fun c o n1 n2 q => b.keep c o n1 n2 (a.keep c o n1 n2 q)⟩
theorem Ch.refl {L it : Addr} (s : Shared) : Ch L it s s := ⟨rfl, rfl, fun _ _ _ _ q => q⟩
theorem loop_run {x : Str} {p1 p2 p3 p4 : Pos} {c : Code} {p : Pos} {it m : Addr} {ms : List V} (hh : A.handled = none) (hk : env.scope.kind = .function) (hl : env.kindOf x = some .local) (hco : env.scope.isCoroutine = false) (hd : (x == ("__debug__" : Str)) = false) (hgd : gd false = false) (hK : K .next = .pure (.done (.ret .none)))
    (hne : env.locals ≠ it) (hmi : m ≠ it) (hmL : m ≠ env.locals) : ∀ (rest : List V) (i : Nat) (s : Shared), ms.drop i = rest → Cd env.locals it m i s.heap → LsAt ms m s.heap →
    RT (model P w) A (GWr (model P w) A env.locals it m ms rest i s) (.forLoop (.Name x p1) (.ref it) [.Expr (.Yield (some (.Name x p2)) p3) p4] [] env) ((model P w).den (.forLoop (.Name x p1) (.ref it) [.Expr (.Yield (some (.Name x p2)) p3) p4] [] env)) [.ret (backK env K H gd lv) none (gd false) (lv []) c p []] s := by
  intro rest
  induction rest with
  | nil =>
    intro i s hr hc hs
    obtain ⟨its, h1, h2⟩ := hs
    have hlen : ms.length ≤ i := List.drop_eq_nil_iff.mp hr
    have hx : its[i]? = none := by
      rw [← Array.getElem?_toList]
      exact List.getElem?_eq_none (by rw [← Vals.length h2]; exact hlen)
    refine rt_forLoop (wpAny_pyNext_list_end (by exact hh) hc.it h1 hx fun h' k => ?_)
    show RT (model P w) A _ _ (leafOf (.ok .next)) _ _
    refine rt_leaf (.ok .next) ?_
    show RT (model P w) A _ _ (K .next) [] _
    rw [hK]
    exact rt_end (.ok (.ret .none)) ⟨⟨rfl, rfl, fun b o _ n2 q => k b o n2 q⟩, rfl⟩
  | cons y r ih =>
    intro i s hr hc hs
    obtain ⟨its, h1, h2⟩ := id hs
    obtain ⟨mp, hns⟩ := hc.ns
    have hy : ms[i]? = some y := by
      have q := congrArg (fun l => l[0]?) hr
      rw [List.getElem?_drop] at q
      exact q
    have hdr : ms.drop (i + 1) = r := by
      have q := congrArg List.tail hr
      rw [List.tail_drop] at q
      exact q
    obtain ⟨v, hv, rv⟩ := h2.get hy
    have hx : its[i]? = some v := by rw [← Array.getElem?_toList]; exact hv
    refine rt_forLoop (wpAny_pyNext_list_item hc.it h1 hx fun h' hit' sb => ?_)
    refine wpAny_of_eq (a := ()) rfl ?_
    have hns' : ({ s with heap := h' } : Shared).heap.Ns env.locals mp := hns.sameBut sb hne
    refine wpAny_assign_Name (wpAny_storeName_local hl hns' (fun h'' hns'' sb2 => ?_) (by rw [hk]; rfl))
    refine rt_execs_cons (rt_Yield hco (by simp [interactive, hk]) (wpAny_Name (wpAny_loadName_local hk hl hns'' (if_pos rfl) ?_) hd))
    have keep : ∀ b o, b ≠ env.locals → b ≠ it → s.heap.get? b = some o → h''.get? b = some o := fun b o n1 n2 q => (sb2.2 b n1).trans ((sb.2 b n2).trans q)
    have hit'' : h''.IsListIter it m (i + 1) := let ⟨o, ho, r⟩ := hit'; ⟨o, (sb2.2 it (Ne.symm hne)).trans ho, r⟩
    refine rt_yield (by rfl) fun q => ⟨⟨rfl, rfl, keep⟩, ⟨⟨_, hns''⟩, hit''⟩, v, _, _, _, _, _, _, rfl, ?_, rv, ?_⟩
    · show (!((id false) || ([Frame.ret (backK env K H gd lv) none (gd false) (lv []) c p []].any Frame.guarded))) = true
      show (!(false || (gd false || false))) = true
      rw [hgd]
      rfl
    · refine gw_of fun s2 c2 l2 => ?_
      show RT (model P w) A _ _ (.pure (.again _)) _ s2
      exact rt_again rfl (ih (i + 1) s2 hdr c2 l2)
end
end TAG
end
/-! TaGen4 -/
section
set_option Elab.async false
set_option linter.all false
set_option maxRecDepth 100000
set_option maxHeartbeats 4000000
/-! The promise of a generator def whose body is some statements and «for one in met: yield one». -/
namespace TAG
open PySem PySem.Spec PyProof.Rows L2 GenW
abbrev EF : XK := fun _ _ _ => False
/-- the generator def's own context -/
abbrev gX (P : Program) (w : World) (K : PySem.W.Frag) (mg : Str → Option Value) (base : Heap) (N : List Str) (qual : Str) (scope : Scope) (f : Addr) (cd : Value) (A : Around) (outer : List Env) (s : Shared) (H : Hp) (pn : List (Addr × Obj)) : Cx := (gcxOf P w K mg base N qual scope f cd A outer s H EF pn).nox
/-- what a generator def hands out: the list ms, which stands at m -/
abbrev SpL := List V → Hp → (List V → Addr → Hp → Prop) → Prop
/-- all that is not tracked stays, but two records of the frame's own -/
theorem hok_but {P : Program} {w : World} {H : Hp} {h h' : Heap} {a b : Addr} (x : HOk P w H h) (k : ∀ c o, c ≠ a → c ≠ b → h.get? c = some o → h'.get? c = some o) (ha : H a = none) (hb : H b = none) : HOk P w H h' := fun c u e =>
  (x c u e).stay (fun d v hc q => k d v (fun z => by
      subst z
      rcases hc with z | z
      · rw [z, e] at ha; cases ha
      · rw [z] at ha; cases ha) (fun z => by
      subst z
      rcases hc with z | z
      · rw [z, e] at hb; cases hb
      · rw [z] at hb; cases hb) q) (fun _ q => q) fun _ _ q => q
theorem un_old {fs : List Addr} {H H' : Hp} {h h1 h2 : Heap} (u : Un fs [] H H' h h1) (k : ∀ c o, c < h.objs.size → h1.get? c = some o → h2.get? c = some o) : Un fs [] H H' h h2 :=
  ⟨fun b o e n hb hx => k b o (Heap.lt_size e) (u.keep b o e n hb hx), fun b o e n hb hx => let ⟨sl, q⟩ := u.slot b o e n hb hx; ⟨sl, k b _ (Heap.lt_size e) q⟩, u.free, fun b o e hx => let ⟨o', q⟩ := u.there b o e hx; ⟨o', k b o' (Heap.lt_size e) q⟩, u.tups, u.frzs, u.tbls⟩
/-- what a wake comes to, seen from outside -/
def GWe (M : Model) (A : Around) (L it m : Addr) (ms : List V) (rest : List V) (i : Nat) (e : End) (h' : Heap) : Prop := match rest with
  | [] => e = .ret (.ok (.ret .none))
  | x :: r => Cd L it m (i + 1) h' ∧ ∃ v gd l k c p fs, e = .susp v gd l k c p fs ∧ e.quiet = true ∧ RelV x v ∧ GW M A L it m ms r (i + 1) e.genState
theorem gwr_e {M : Model} {A : Around} {L it m : Addr} {ms rest : List V} {i : Nat} {s s' : Shared} {e : End} (h : GWr M A L it m ms rest i s e s') : Ch L it s s' ∧ GWe M A L it m ms rest i e s'.heap := by
  cases rest with
  | nil => exact h
  | cons x r => exact h
/-- the end of the first wake -/
structure FirstAt (P : Program) (w : World) (A : Around) (outer : List Env) (H : Hp) (s0 : Shared) (a : Addr) (g : Nat) (R : List V → Addr → Hp → Prop) (e : End) (s' : Shared) (H' : Hp) (ms : List V) (m L it : Addr) : Prop where
  os : s'.os = s0.os
  bare : AllBare s'.gens
  un : Un (frs outer) [] H H' s0.heap s'.heap
  hok : HOk P w H' s'.heap
  R : R ms m H'
  hm : H' m = some (.lst ms)
  gen : s'.heap.IsGen a g
  az : s0.heap.objs.size ≤ a
  an : H' a = none
  lz : s0.heap.objs.size ≤ L
  ln : H' L = none
  iz : s0.heap.objs.size ≤ it
  inn : H' it = none
  al : a ≠ L
  ai : a ≠ it
  li : L ≠ it
  e : GWe (model P w) A L it m ms ms 0 e s'.heap
def First (P : Program) (w : World) (A : Around) (outer : List Env) (H : Hp) (s0 : Shared) (a : Addr) (g : Nat) (R : List V → Addr → Hp → Prop) (e : End) (s' : Shared) : Prop := ∃ H' ms m L it, FirstAt P w A outer H s0 a g R e s' H' ms m L it
/-- what a call gives: a generator that has not begun -/
def GMk (P : Program) (w : World) (A : Around) (outer : List Env) (H : Hp) (s0 : Shared) (R : List V → Addr → Hp → Prop) (u : Value) (s' : Shared) : Prop :=
  ∃ (a : Addr) (g : Nat) (c : Code), u = .ref a ∧ s'.heap.IsGen a g ∧ s'.gens[g]? = some (.fresh c) ∧ s'.os = s0.os ∧ AllBare s'.gens ∧ s'.heap.NoLimit ∧ (∀ b o, s0.heap.get? b = some o → s'.heap.get? b = some o) ∧
    GoRT (model P w) A.in1 (First P w A.in1 outer H s0 a g R) (.fresh c) (s'.setGen g .running)
structure GnOk (P : Program) (w : World) (K : PySem.W.Frag) (mg : Str → Option Value) (base : Heap) (k : Nat) (f : Addr) (fd : FuncData) (ps : List Str) (sp : SpL) : Prop where
  len : ∀ vs H R, sp vs H R → vs.length = ps.length
  run : ∀ (A : Around) (outer : List Env) (s : Shared) (H : Hp) (args : Args) (us : List Value) (vs : List V) (R : List V → Addr → Hp → Prop), Room k A → Env0 P w K mg base A outer s H → BindsTo s fd args (ps.zip us) → Vals vs us → sp vs H R →
    codeAny (model P w) A (.call (.ref f) args) (fun r s' => match r with | .ok (.ret u) => GMk P w A outer H s R u s' | _ => False) s
theorem execs_app_wrap {env : Env} {K : Flow → Sem PySem.Fin} {H : Value → Sem PySem.Fin} {gd : Bool → Bool} {lv : List Value → List Value} (post : List Stmt) : ∀ pre : List Stmt, (execs (pre ++ post) env).wrap K H gd lv = (execs pre env).wrap (fun f => match f with | .next => (execs post env).wrap K H gd lv | f => K f) H gd lv
  | [] => rfl
  | st :: pre => by
    show (execs (st :: (pre ++ post)) env).wrap K H gd lv = _
    rw [execs_cons_wrap, execs_cons_wrap]
    refine Sem.wrap_congr _ _ _ (fun f => ?_) fun _ => rfl
    cases f with
    | next => exact execs_app_wrap post pre
    | _ => rfl
theorem gn_of {P : Program} {w : World} {K : PySem.W.Frag} {mg : Str → Option Value} {base : Heap} {k : Nat} {f : Addr} {name qual : Str} {params : Arguments} {scope : Scope} {dV kV doc pm cdv ct oc : Value} {an od : Option Addr} {osl : Array (Option Value)} {N ps : List Str} {sp : SpL}
    {pre : List Stmt} {x : Str} {jm : Nat} {iter : Expr} {p1 p2 p3 p4 p5 : Pos} (lk : K.lookup f = some ⟨oc, od, .func (PySem.W.fnOf name qual params (pre ++ [.For (.Name x p1) iter [.Expr (.Yield (some (.Name x p2)) p3) p4] [] p5]) scope dV kV doc pm an cdv ct), osl⟩)
    (hcd : PySem.W.codeIn K cdv qual = true) (S : GScope N ps scope) (len : ∀ vs H R, sp vs H R → vs.length = ps.length) (hx : scope.names.lookup x = some .local) (hxd : (x == ("__debug__" : Str)) = false)
    (hit : ∀ (A : Around) (outer : List Env) (s : Shared) (H : Hp) (pn : List (Addr × Obj)), PE (gX P w K mg base N qual scope f cdv A outer s H pn) iter (tVar jm)) (hfs : ∀ env y, foldedSetIterable iter env y = pure y)
    (hbody : ∀ (A : Around) (outer : List Env) (s : Shared) (H : Hp) (vs : List V) (R : List V → Addr → Hp → Prop) (pn : List (Addr × Obj)), Room k (A.deeper (envOfC qual scope s.heap.objs.size f cdv)) → sp vs H R →
      ∃ t, PSs (gX P w K mg base N qual scope f cdv A outer s H pn) pre t ∧ t { nx := fun σ' H' => ∃ m ms, σ'[jm]? = some (some (.ref m)) ∧ H' m = some (.lst ms) ∧ R ms m H', rt := fun _ _ => False } (start N vs) H) :
    GnOk P w K mg base (k + 2) f (PySem.W.fnOf name qual params (pre ++ [.For (.Name x p1) iter [.Expr (.Yield (some (.Name x p2)) p3) p4] [] p5]) scope dV kV doc pm an cdv ct) ps sp := by
  refine ⟨len, fun A outer s H args us vs R hr e0 hb r hsp => ?_⟩
  have hl := len _ _ _ hsp
  have KX : K.In s.heap := e0.mod.kin.keeps fun b o e => (e0.bs b o e).1
  have lim : s.heap.NoLimit := e0.mod.nolimit.keeps fun b o e => (e0.bs b o e).1
  have hkind : ∀ y ∈ ps.zip us, scope.names.lookup y.1 = some .local ∨ (scope.names.lookup y.1 = some .cell ∧ ((cellsFrom (s.heap.objs.size + 1) scope.names []).lookup y.1).isSome = true) := fun ⟨n, v⟩ hy => by
    rcases S.par n (List.of_mem_zip hy).1 with q | q
    · exact .inl q
    · exact .inr ⟨q, PySem.W.cellsFrom_some _ _ _ (.inl q)⟩
  refine codeAny_call_generator hr.depth (KX _ _ lk) rfl S.co S.gen rfl (PySem.W.codeRec_of KX hcd) (hb _ _ _ _ ?_)
  refine wpAny_newFunctionEnv_cells S.kind hkind fun env he s1 x1 => ?_
  subst he
  have lim1 : s1.heap.NoLimit := lim.keeps x1.toInCall.keep
  refine ⟨lim1, ?_⟩
  obtain ⟨h1, tk, es1, hk1⟩ := x1.done
  have os1 : s1.os = s.os := by rw [es1]
  have gen1 : s1.gens = s.gens := by rw [es1]
  have lt1 : s.heap.objs.size < s1.heap.objs.size := x1.toInCall.ns.lt
  have sz1 : s.heap.objs.size ≤ s1.heap.objs.size := Nat.le_of_lt lt1
  have kp1 : ∀ b o, s.heap.get? b = some o → s1.heap.get? b = some o := x1.toInCall.keep
  have main : ∀ (go : Obj) (nm qn : Value) (tk2 : Nat), go.cls = .type "generator" → go.data = .fields #[.int s1.gens.size 0, nm, qn] → go.slots = #[] → (∀ h : Heap, (h.push go).get? h.objs.size = some go) →
      GMk P w A outer H s R (.ref s1.heap.objs.size) { s1 with gens := s1.gens.push (.fresh (.func (pre ++ [.For (.Name x p1) iter [.Expr (.Yield (some (.Name x p2)) p3) p4] [] p5]) (envOfC qual scope s.heap.objs.size f cdv))), toks := tk2, heap := s1.heap.push go } := by
    intro go nm qn tk2 hgc hgd0 hgs hgp
    have hgen : ∀ h : Heap, h.get? s1.heap.objs.size = some go → h.IsGen s1.heap.objs.size s1.gens.size := fun h e => ⟨go, nm, qn, e, hgc, hgd0, hgs⟩
    have hpushed : (s1.heap.push go).get? s1.heap.objs.size = some go := hgp _
    have ab : AllBare (s1.gens.push (.fresh (.func (pre ++ [.For (.Name x p1) iter [.Expr (.Yield (some (.Name x p2)) p3) p4] [] p5]) (envOfC qual scope s.heap.objs.size f cdv)))) := AllBare.push (by rw [gen1]; exact e0.bare) rfl
    refine ⟨s1.heap.objs.size, s1.gens.size, _, rfl, hgen _ hpushed, Array.getElem?_push_size .., os1, ab, lim1.keeps fun b o e => Heap.get?_push_of_some _ e, fun b o e => Heap.get?_push_of_some _ (kp1 b o e), ?_⟩
    generalize hs2 : ({ s1 with gens := s1.gens.push (.fresh (.func (pre ++ [.For (.Name x p1) iter [.Expr (.Yield (some (.Name x p2)) p3) p4] [] p5]) (envOfC qual scope s.heap.objs.size f cdv))), toks := tk2, heap := s1.heap.push go } : Shared).setGen s1.gens.size .running = s2
    have h2h : s2.heap = s1.heap.push go := by rw [← hs2]; rfl
    have h2o : s2.os = s1.os := by rw [← hs2]; rfl
    have h2b : AllBare s2.gens := by rw [← hs2]; exact allBare_setGen ab rfl
    have e0w : Env0 P w K mg base A.in1 outer s H := ⟨e0.frames, e0.mod, e0.bs, e0.bsz, e0.funs, e0.frf, e0.hok, e0.bare⟩
    obtain ⟨t, ht, hq⟩ := hbody A.in1 outer s H vs R [(s1.heap.objs.size, go)] (hr.in1.deeper _) hsp
    have I1 : Inv (gcxOf P w K mg base N qual scope f cdv A.in1 outer s H EF []) [] (start N vs) H s1 := inv_startG S hr.hd e0w hl r x1
    have kp2 : ∀ b o, s1.heap.get? b = some o → s2.heap.get? b = some o := fun b o e => by rw [h2h]; exact Heap.get?_push_of_some _ e
    have I2 : Inv (gcxOf P w K mg base N qual scope f cdv A.in1 outer s H EF []) [] (start N vs) H s2 :=
      I1.call' (ch := []) h2o (Un.kept kp2) (I1.hok.kept kp2) h2b fun b z => by simp at z
    have hea : s2.heap.get? s1.heap.objs.size = some go := by rw [h2h]; exact hpushed
    have hgd : ∀ v, go.data ≠ .cell v := fun v q => by rw [hgd0] at q; cases q
    have I3 : Inv (gX P w K mg base N qual scope f cdv A.in1 outer s H [(s1.heap.objs.size, go)]) [] (start N vs) H s2 := by
      refine (Inv.pinnedG I2 fun p hp => ?_).wish _
      have hp2 : p ∈ [(s1.heap.objs.size, go)] := by simpa using hp
      rw [List.mem_singleton.mp hp2]
      exact ⟨hea, I1.hok.fresh (Nat.le_refl _), Nat.ne_of_gt lt1, I1.nofs (Nat.le_refl _), hgd⟩
    show RT (model P w) A.in1 _ _ _ [] s2
    refine rt_func ?_
    rw [execs_app_wrap]
    refine rt_wrap ?_
    rw [over_func]
    refine wpAny_mono (ht.run [] s2 _ H _ I3 hq) (fun fl s3 hsp3 => ?_) fun _ _ z => z
    cases fl with
    | brk => obtain ⟨_, _, _, q⟩ := hsp3; exact q.elim
    | cont => obtain ⟨_, _, _, q⟩ := hsp3; exact q.elim
    | ret u => obtain ⟨_, _, _, _, _, q⟩ := hsp3; exact q.elim
    | next =>
      obtain ⟨σ3, H3, J3, m, ms, hσ, hm, hR⟩ := hsp3
      refine rt_execs_cons (rt_For (hfs _) ?_)
      rw [over_func]
      refine wpAny_mono ((hit A.in1 outer s H [(s1.heap.objs.size, go)]).run [] s3 σ3 H3 (fun v H' => v = .ref m ∧ H' = H3) J3 ⟨_, hσ, rfl, rfl⟩) (fun v s4 hv => ?_) fun _ _ z => z
      obtain ⟨_, H4, J4, rv, rfl, eH⟩ := hv
      rw [eH] at J4
      obtain rfl : v = Value.ref m := rv
      obtain ⟨_, its, n, hvals, _, hget⟩ := J4.lstM hm
      have hil : s4.heap.IsList m its.toArray := ⟨_, hget, rfl, n, rfl⟩
      refine wpAny_pyIter_list hil fun p => ?_
      have hmn : m ≠ s4.heap.objs.size := Nat.ne_of_lt (Heap.lt_size hget)
      have hLn : s.heap.objs.size ≠ s4.heap.objs.size := Nat.ne_of_lt J4.lt
      have hmL : m ≠ s.heap.objs.size := fun z => by
        have q := J4.free
        have q2 : H3 s.heap.objs.size = none := q
        rw [z, q2] at hm
        cases hm
      obtain ⟨mp, hns, _⟩ := J4.loc
      have hns2 : s4.heap.Ns s.heap.objs.size mp := hns
      have pin := J4.pin (s1.heap.objs.size, go) (List.mem_append_left _ (List.mem_singleton.mpr rfl))
      have ha4 : s4.heap.get? s1.heap.objs.size = some go := pin.1
      have hLa : s.heap.objs.size ≠ s1.heap.objs.size := Nat.ne_of_lt lt1
      have han : s1.heap.objs.size ≠ s4.heap.objs.size := Nat.ne_of_lt (Heap.lt_size ha4)
      refine rt_mono (loop_run (A := A.in1) (env := envOfC qual scope s.heap.objs.size f cdv) hr.hd S.kind hx S.co hxd rfl rfl hLn hmn hmL ms 0 _ rfl ⟨⟨mp, hns2.push _⟩, ⟨_, Heap.get?_push_size _ rfl, rfl, rfl⟩⟩ ⟨_, hil.push _, hvals⟩) fun e s' he => ?_
      obtain ⟨hch, hge⟩ := gwr_e he
      have kp5 : ∀ b o, b ≠ s.heap.objs.size → b ≠ s4.heap.objs.size → s4.heap.get? b = some o → s'.heap.get? b = some o := fun b o n1 n2 q => hch.keep b o n1 n2 (Heap.get?_push_of_some _ q)
      have g5 : s'.gens = s4.gens := hch.gens
      refine ⟨H3, ms, m, s.heap.objs.size, s4.heap.objs.size, ⟨?_, ?_, ?_, ?_, hR, hm, hgen _ (kp5 _ _ hLa.symm han ha4), sz1, pin.2.1, Nat.le_refl _, J4.free, J4.sz, J4.fresh, hLa.symm, han, hLn, hge⟩⟩
      · exact (show s'.os = s4.os from hch.os).trans J4.os
      · rw [g5]; exact J4.bare
      · exact un_old (h1 := s4.heap) J4.base fun b o hb q => kp5 b o (Nat.ne_of_lt hb) (Nat.ne_of_lt (Nat.lt_of_lt_of_le hb J4.sz)) q
      · exact hok_but J4.hok kp5 J4.free J4.fresh
  exact main _ _ _ _ rfl rfl rfl fun h => Heap.get?_push_size _ rfl
end TAG
end
/-! TaGen5 -/
section
set_option Elab.async false
set_option linter.all false
set_option maxRecDepth 100000
set_option maxHeartbeats 4000000
/-! «for x in g(..): body» of such a generator def, which may be left early. -/
namespace TAG
open PySem PySem.Spec PyProof.Rows L2 GenW
section
variable {X : Cx} {pins : List (Addr × Obj)} {σ : L2.St} {H : Hp} {s : Shared}
theorem inv_gens {g' : Array GenState} (I : Inv X pins σ H s) (hb : AllBare g') : Inv X pins σ H { s with gens := g' } := ⟨I.ok, I.os, hb, I.base, I.loc, I.cell, I.free, I.freeC, I.pin, I.hok, I.len⟩
theorem inv_psn (I : Inv X pins σ H s) : Inv X pins σ H (psn s) := inv_gens I (psn_bare I.bare)
theorem inv_un {g : Array GenState} (I : Inv X pins σ H s) (R : Rl (slp g) s) (hb : AllBare g) : Inv X pins σ H (un (slp g) s) := inv_gens I (un_bare R hb I.bare)
/-- the iterator and the generator's frame have turned -/
theorem inv_ch {L it : Addr} {s' : Shared} {g' : Array GenState} (I : Inv X pins σ H s) (c : Ch L it s s') (hb : AllBare g') (fl : FpOk X pins H L) (fi : FpOk X pins H it) : Inv X pins σ H { s' with gens := g' } := by
  have ne : ∀ b, b ∉ [L, it] → b ≠ L ∧ b ≠ it := fun b hb => ⟨fun z => hb (by rw [z]; simp), fun z => hb (by rw [z]; simp)⟩
  refine I.call' (s' := { s' with gens := g' }) (ch := [L, it]) c.os ⟨fun b o e _ _ hx => c.keep b o (ne b hx).1 (ne b hx).2 e, fun b o e _ _ hx => ⟨o.slots, c.keep b o (ne b hx).1 (ne b hx).2 e⟩, fun _ _ _ n _ => n, fun b o e hx => ⟨o, c.keep b o (ne b hx).1 (ne b hx).2 e⟩, fun _ _ e => e, fun _ _ _ e => e, fun b ps e => ⟨#[], by rw [e]; simp⟩⟩
    (hok_but I.hok c.keep fl.1 fi.1) hb fun b hb => ?_
  have z : b = L ∨ b = it := by simpa using hb
  rcases z with rfl | rfl
  · exact ⟨fl.2.2.2.1, fl.2.1, fl.2.2.2.2.1, fl.2.2.2.2.2⟩
  · exact ⟨fi.2.2.2.1, fi.2.1, fi.2.2.2.2.1, fi.2.2.2.2.2⟩
end
/-- between two turns -/
structure LoopAt (X : Cx) (pins : List (Addr × Obj)) (a : Addr) (g : Nat) (ms : List V) (m L it : Addr) (i : Nat) (σ : L2.St) (H : Hp) (s : Shared) : Prop where
  inv : Inv X pins σ H s
  gen : s.heap.IsGen a g
  gs : ∃ k l c p fs cl, s.gens[g]? = some (.suspended k l c p fs cl) ∧ GW (model X.prog X.w) X.A.in1 L it m ms (ms.drop i) i (.suspended k l c p fs cl)
  cd : Cd L it m i s.heap
  fa : FpOk X pins H a
  fl : FpOk X pins H L
  fi : FpOk X pins H it
  al : a ≠ L
  ai : a ≠ it
def tForG (sp : SpL) (t : TA) (g : TG) (tb : TS) : TS := fun D σ H => t σ H fun vs H1 => sp vs H1 fun ms m H2 => ms.length ≤ 100000 ∧ ∃ W : Nat → L2.St → Hp → Prop, W 0 σ H2 ∧ (∀ i σ' H', i ≤ ms.length → W i σ' H' → H' m = some (.lst ms)) ∧
  (∀ i x σ' H', ms[i]? = some x → W i σ' H' → g x σ' H' fun σ2 H3 => tb { D with nx := W (i + 1), ct := W (i + 1), bk := D.nx } σ2 H3) ∧ ∀ σ' H', W ms.length σ' H' → D.nx σ' H'
section
variable {X : Cx} {pins : List (Addr × Obj)} {tg : Expr} {g : TG} {body : List Stmt} {tb : TS}
theorem turn_item {a : Addr} {gi : Nat} {ms : List V} {m L it : Addr} {i : Nat} {σ : L2.St} {H : Hp} {s : Shared} {x : V} {v : Value} {D : Ends} {Nx : L2.St → Hp → Prop} {Q : Flow → Shared → Prop} {E1 E2 E3 : Value → Shared → Prop} (hg : PG X.nox tg g) (hb : PSs X.nox body tb) (la : LoopAt X pins a gi ms m L it i σ H s) (rv : RelV x v)
    (q : g x σ H fun σ2 H3 => tb { D with nx := Nx, ct := Nx } σ2 H3) (hN : ∀ σ' H' s', LoopAt X pins a gi ms m L it i σ' H' s' → Nx σ' H' → Q .next s' ∧ Q .cont s') (hbk : ∀ σ' H' s', Inv X pins σ' H' s' → D.bk σ' H' → Q .brk s') (hrt : ∀ y u σ' H' s', Inv X pins σ' H' s' → RelV y u → D.rt y H' → Q (.ret u) s') :
    wpAny (model X.prog X.w) X.A (letOwnedTupleGo tg (.ref a) v) (fun _ s1 => wpAny (model X.prog X.w) X.A (assign tg X.env v) (fun _ s2 => wpAny (model X.prog X.w) X.A (execs body X.env) Q E3 s2) E2 s1) E1 s := by
  obtain ⟨I, gen, ⟨k, l, c, p, fs, cl, hgs, hgw⟩, cd, fa, fl, fi, al, ai⟩ := la
  obtain ⟨o, nm, qn, ho, hc, hd, hsl⟩ := id gen
  obtain ⟨mp, oL, es, ep, hoL, hdL, _⟩ := id cd.ns
  obtain ⟨oi, hoi, hci, hdi⟩ := id cd.it
  refine go_of ho hc hd (by decide) ?_
  have ft : ∀ b ∈ [a, L, it], FpOk X pins H b := fun b hb => by
    have z : b = a ∨ b = L ∨ b = it := by simpa using hb
    rcases z with rfl | rfl | rfl <;> assumption
  have ob : ∀ b ∈ [a, L, it], ∃ o, s.heap.get? b = some o ∧ ∀ v, o.data ≠ .cell v := fun b hb => by
    have z : b = a ∨ b = L ∨ b = it := by simpa using hb
    rcases z with rfl | rfl | rfl
    · exact ⟨o, ho, fun v q => by rw [hd] at q; cases q⟩
    · exact ⟨oL, hoL, fun v q => by rw [hdL] at q; cases q⟩
    · exact ⟨oi, hoi, fun v q => by rw [hdi] at q; cases q⟩
  have I5 := I.pinned ft ob
  refine wpAny_mono (wpAny_asleep (hg.run _ (psn s) σ H x v _ ((inv_psn I5).wish _) rv q)) (fun _ s6 h6 => ?_) fun _ _ z => ?_
  · obtain ⟨s6', rfl, R6, σ6, H6, J6, q6⟩ := h6
    have I6 := inv_un J6 R6 I.bare
    have g6 := un_kept R6 hgs ⟨_, _, _, _, _, _, rfl⟩
    refine wpAny_mono (wpAny_asleep (hb.run _ (psn (un (slp s.gens) s6')) σ6 H6 _ (inv_psn I6) q6)) (fun f s7 h7 => ?_) fun _ _ z => ?_
    · obtain ⟨s7', rfl, R7, h7⟩ := h7
      have g7 := un_kept R7 g6 ⟨_, _, _, _, _, _, rfl⟩
      have ag : ∀ {σ7 : L2.St} {H7 : Hp}, Inv X.nox (pins ++ pinsAt [a, L, it] s.heap) σ7 H7 s7' → LoopAt X pins a gi ms m L it i σ7 H7 (un (slp (un (slp s.gens) s6').gens) s7') := fun {σ7 H7} J7 => by
        have I7 := inv_un J7 R7 I6.bare
        have pin : ∀ b o, b ∈ [a, L, it] → s.heap.get? b = some o → (un (slp (un (slp s.gens) s6').gens) s7').heap.get? b = some o ∧ H7 b = none := fun b o hb e =>
          let z := I7.pin (b, o) (List.mem_append_right _ (List.mem_append_right _ (mem_pinsAt hb e)))
          ⟨z.1, z.2.1⟩
        have pa := pin a o (by simp) ho
        have pl := pin L oL (by simp) hoL
        have pi := pin it oi (by simp) hoi
        exact ⟨I7.unwish.unpinned, ⟨o, nm, qn, pa.1, hc, hd, hsl⟩, ⟨k, l, c, p, fs, cl, g7, hgw⟩, ⟨⟨mp, oL, es, ep, pl.1, hdL, by assumption⟩, ⟨oi, pi.1, hci, hdi⟩⟩, ⟨pa.2, fa.2⟩, ⟨pl.2, fl.2⟩, ⟨pi.2, fi.2⟩, al, ai⟩
      cases f with
      | next => obtain ⟨σ7, H7, J7, q7⟩ := h7; exact (hN _ _ _ (ag J7) q7).1
      | cont => obtain ⟨σ7, H7, J7, q7⟩ := h7; exact (hN _ _ _ (ag J7) q7).2
      | brk => obtain ⟨σ7, H7, J7, q7⟩ := h7; exact hbk _ _ _ (ag J7).inv q7
      | ret u => obtain ⟨y, σ7, H7, J7, r7, q7⟩ := h7; exact hrt _ _ _ _ _ (ag J7).inv r7 q7
    · obtain ⟨_, _, _, z⟩ := z
      exact False.elim z
  · obtain ⟨_, _, _, z⟩ := z
    exact False.elim z
/-- what a wake leaves to the consumer: the end, or an item -/
theorem wake_at {a : Addr} {gi : Nat} {ms : List V} {m L it : Addr} {i : Nat} {σ : L2.St} {H : Hp} {s : Shared} {Q : Option Value → Shared → Prop} {E : Value → Shared → Prop} (hr : Room 1 X.A) (la : LoopAt X pins a gi ms m L it i σ H s) (hm : H m = some (.lst ms))
    (hend : ms.length ≤ i → ∀ s', Inv X pins σ H s' → Q none s') (hit : ∀ x v s', ms[i]? = some x → RelV x v → LoopAt X pins a gi ms m L it (i + 1) σ H s' → Q (some v) s') : wpAny (model X.prog X.w) X.A (pyNext (.ref a)) Q E s := by
  obtain ⟨I, gen, ⟨k, l, c, p, fs, cl, hgs, hgw⟩, cd, fa, fl, fi, al, ai⟩ := la
  obtain ⟨_, its, n, hvals, _, hget⟩ := I.lstM hm
  have hls : LsAt ms m (s.setGen gi .running).heap := ⟨its.toArray, ⟨_, hget, rfl, n, rfl⟩, hvals⟩
  have hcd : Cd L it m i (s.setGen gi .running).heap := cd
  have hsz : gi + 1 ≤ (s.setGen gi .running).gens.size := by
    rw [setGen_size]
    exact (Array.getElem?_eq_some_iff.mp hgs).1
  have go := gort_gsz hsz (gw_go hgw hcd hls)
  have b0 : AllBare (s.setGen gi .running).gens := allBare_setGen I.bare rfl
  refine next_RT hr.hd I.nolimit hr.depth gen hgs go fun e s1 he => ?_
  obtain ⟨hs1, hw⟩ := he
  obtain ⟨ch, hge⟩ := gwr_e hw
  have ch' : Ch L it s { s1 with gens := s.gens } := ⟨ch.os, rfl, ch.keep⟩
  have b1 : AllBare s1.gens := by rw [ch.gens]; exact b0
  cases hd : ms.drop i with
  | nil =>
    rw [hd] at hge
    refine .inl ⟨hge, fun h' hk => hend (List.drop_eq_nil_iff.mp hd) _ ?_⟩
    have I1 : Inv X pins σ H (s1.setGen gi .finished) := inv_ch (s' := { s1 with gens := s.gens }) (g' := (s1.setGen gi .finished).gens) I ch' (allBare_setGen b1 rfl) fl fi
    exact I1.kept (t' := s1.toks) hk
  | cons x r =>
    rw [hd] at hge
    obtain ⟨cd1, v, gd, l, k, c, p, fs, rfl, hq, rv, gw⟩ := hge
    refine .inr ⟨v, gd, l, k, c, p, fs, rfl, hq, hit x v _ ?_ rv ?_⟩
    · have q := congrArg (fun l => l[0]?) hd
      rw [List.getElem?_drop] at q
      exact q
    · have hdr : ms.drop (i + 1) = r := by
        have q := congrArg List.tail hd
        rw [List.tail_drop] at q
        exact q
      obtain ⟨o, nm, qn, ho, hc, hdd, hsl⟩ := id gen
      refine ⟨inv_ch (s' := { s1 with gens := s.gens }) (g' := (s1.setGen gi (End.susp v gd l k c p fs).genState).gens) I ch' (allBare_setGen b1 (End.bare_of_quiet hq)) fl fi, ⟨o, nm, qn, ch.keep _ _ al ai ho, hc, hdd, hsl⟩, ⟨_, _, _, _, _, _, setGen_at hs1, ?_⟩, cd1, fa, fl, fi, al, ai⟩
      rw [hdr]
      exact gw
theorem first_at {a : Addr} {gi : Nat} {σ : L2.St} {H : Hp} {s0 s : Shared} {c : Code} {R : List V → Addr → Hp → Prop} {Q : Option Value → Shared → Prop} {E : Value → Shared → Prop} (hr : Room 1 X.A) (I : Inv X pins σ H s0) (gen : s.heap.IsGen a gi) (hl : s.heap.NoLimit) (hgs : s.gens[gi]? = some (.fresh c)) (hba : AllBare s.gens)
    (go : GoRT (model X.prog X.w) X.A.in1 (First X.prog X.w X.A.in1 X.stack H s0 a gi R) (.fresh c) (s.setGen gi .running))
    (hend : ∀ H' m s', Inv X pins σ H' s' → R [] m H' → H' m = some (.lst []) → Q none s') (hit : ∀ H' x r m L it v s', RelV x v → R (x :: r) m H' → H' m = some (.lst (x :: r)) → LoopAt X pins a gi (x :: r) m L it 1 σ H' s' → Q (some v) s') : wpAny (model X.prog X.w) X.A (pyNext (.ref a)) Q E s := by
  have hsz : gi + 1 ≤ (s.setGen gi .running).gens.size := by
    rw [setGen_size]
    exact (Array.getElem?_eq_some_iff.mp hgs).1
  refine next_RT hr.hd hl hr.depth gen hgs (gort_gsz hsz go) fun e s1 he => ?_
  obtain ⟨hs1, H', ms, m, L, it, F⟩ := he
  have mk : ∀ {x : GenState}, x.bare = true → Inv X pins σ H' (s1.setGen gi x) := fun {x} hx => I.call' (s' := s1.setGen gi x) (ch := []) F.os F.un F.hok (allBare_setGen F.bare hx) fun b z => by simp at z
  have hge := F.e
  cases ms with
  | nil => exact .inl ⟨hge, fun h' hk => hend H' m _ ((mk (x := .finished) rfl).kept (t' := s1.toks) hk) F.R F.hm⟩
  | cons x r =>
    obtain ⟨cd1, v, gd, l, k, c, p, fs, rfl, hq, rv, gw⟩ := hge
    exact .inr ⟨v, gd, l, k, c, p, fs, rfl, hq, hit H' x r m L it v _ rv F.R F.hm ⟨mk (End.bare_of_quiet hq), F.gen, ⟨_, _, _, _, _, _, setGen_at hs1, gw⟩, cd1, I.fpOk F.az F.an, I.fpOk F.lz F.ln, I.fpOk F.iz F.inn, F.al, F.ai⟩⟩
theorem ps_forG {k : Nat} {f : Addr} {fd : FuncData} {ps : List Str} {sp : SpL} {x : Str} {p pos pos' : Pos} {e : Expr} {es : List Expr} {t : TA} (F : GnOk X.prog X.w X.K X.mg X.base k f fd ps sp) (hr : Room (k + 1) X.A) (b : Binds X.K fd ps []) (hm : X.mg x = some (.ref f)) (hk : PySem.W.keepIn X.K (.ref f) = true)
    (ha : PA X (e :: es) t) (hg : PG X.nox tg g) (hb : PSs X.nox body tb) (hgl : Gl X x := by rfl) (hdb : (x == ("__debug__" : Str)) = false := by decide) (he : starEach (e :: es) X.env = (false, eval e X.env) :: starEach es X.env := by rfl) (hpl : (backTo pos' (starEach es X.env)).any (·.1) = false := by rfl)
    (hs : ∀ y, foldedSetIterable (.Call (.Name x p) (e :: es) [] pos') X.env y = pure y := by intro _; rfl) : PS X (.For tg (.Call (.Name x p) (e :: es) [] pos') body [] pos) (tForG sp t g tb) := by
  refine ⟨fun pins s σ H D I h => ?_⟩
  refine wpAny_For (wpAny_mono (Q := fun u s' => ∃ H1 s0, Inv X pins σ H1 s0 ∧ GMk X.prog X.w X.A X.stack H1 s0 (fun ms m H2 => ms.length ≤ 100000 ∧ ∃ W : Nat → L2.St → Hp → Prop, W 0 σ H2 ∧ (∀ i σ' H', i ≤ ms.length → W i σ' H' → H' m = some (.lst ms)) ∧
    (∀ i x σ' H', ms[i]? = some x → W i σ' H' → g x σ' H' fun σ2 H3 => tb { D with nx := W (i + 1), ct := W (i + 1), bk := D.nx } σ2 H3) ∧ ∀ σ' H', W ms.length σ' H' → D.nx σ' H') u s') ?_ (fun u s1 hu => ?_) fun _ _ z => z) hs
  · refine wpAny_Call_Name_kw (ld_glob I hgl hm ?_ hdb)
    refine PySem.W.callWith_K (h₀ := X.base) I.ok.mod.kin hk (thn (ha.run pos' pins s σ H _ I h) fun us s1 ⟨vs, H1, I1, r, q⟩ => ⟨I1.kIn, ?_⟩) he hpl
    have hl : us.length = ps.length := by rw [← r.length]; exact F.len _ _ _ q
    have b1 := b s1 us I1.kIn (by rw [List.append_nil]; exact hl)
    rw [List.append_nil] at b1
    refine wpAny_call (codeAny_mono (F.run X.A X.stack s1 H1 ⟨us, []⟩ us vs _ (hr.mono (Nat.le_succ k)) I1.env0 b1 r q) fun r s' hq => ?_)
    cases r with
    | error e => exact False.elim hq
    | ok fl =>
      cases fl with
      | ret u => exact ⟨H1, s1, I1, hq⟩
      | next => exact False.elim hq
      | brk => exact False.elim hq
      | cont => exact False.elim hq
  · obtain ⟨H1, s0, I0, a, gi, c, rfl, gen, hgs, hos, hba, hlim, hkp, go⟩ := hu
    have hr1 : Room 1 X.A := hr.mono (by omega)
    refine wpAny_pyIter_gen gen ?_
    refine codeAny_forLoop_any (fun n s' => (n = 100001 ∧ s' = s1) ∨ ∃ (i : Nat) (σ' : L2.St) (H' : Hp) (ms : List V) (m L it : Addr) (W : Nat → L2.St → Hp → Prop), LoopAt X pins a gi ms m L it i σ' H' s' ∧ i ≤ ms.length ∧ n = ms.length - i ∧ ms.length ≤ 100000 ∧ W i σ' H' ∧ (∀ i σ' H', i ≤ ms.length → W i σ' H' → H' m = some (.lst ms)) ∧
      (∀ i x σ' H', ms[i]? = some x → W i σ' H' → g x σ' H' fun σ2 H3 => tb { D with nx := W (i + 1), ct := W (i + 1), bk := D.nx } σ2 H3) ∧ ∀ σ' H', W ms.length σ' H' → D.nx σ' H') (fun n s' hI => ?_) 100001 (.inl ⟨rfl, rfl⟩)
    rcases hI with ⟨rfl, rfl⟩ | ⟨i, σ', H', ms, m, L, it, W, la, hle, rfl, hz, w, hl, hst, hdn⟩
    · refine first_at hr1 I0 gen hlim hgs hba go (fun H' m s5 I' R' _ => ?_) (fun H' x r m L it v s5 rv R' hm' la => ?_)
      · obtain ⟨_, W, w0, _, _, hdn⟩ := R'
        exact wpAny_execs_nil ⟨σ, H', I', hdn σ H' w0⟩
      · obtain ⟨hz, W, w0, hl, hst, hdn⟩ := R'
        refine turn_item (Nx := W 1) (D := { D with bk := D.nx }) hg hb la rv (hst 0 x σ H' rfl w0) (fun σ7 H7 s7 la7 w7 => ?_) (fun σ7 H7 s7 I7 q7 => ⟨σ7, H7, I7, q7⟩) (fun y u σ7 H7 s7 I7 r7 q7 => ⟨y, σ7, H7, I7, r7, q7⟩)
        have hh : ∃ m', m' < 100001 ∧ ((m' = 100001 ∧ s7 = s') ∨ ∃ (i : Nat) (σ' : L2.St) (H' : Hp) (ms : List V) (m L it : Addr) (W : Nat → L2.St → Hp → Prop), LoopAt X pins a gi ms m L it i σ' H' s7 ∧ i ≤ ms.length ∧ m' = ms.length - i ∧ ms.length ≤ 100000 ∧ W i σ' H' ∧ (∀ i σ' H', i ≤ ms.length → W i σ' H' → H' m = some (.lst ms)) ∧
          (∀ i x σ' H', ms[i]? = some x → W i σ' H' → g x σ' H' fun σ2 H3 => tb { D with nx := W (i + 1), ct := W (i + 1), bk := D.nx } σ2 H3) ∧ ∀ σ' H', W ms.length σ' H' → D.nx σ' H') :=
          ⟨(x :: r).length - 1, by omega, .inr ⟨1, σ7, H7, x :: r, m, L, it, W, la7, by simp, rfl, hz, w7, hl, hst, hdn⟩⟩
        exact ⟨hh, hh⟩
    · refine wake_at hr1 la (hl i σ' H' hle w) (fun hlen s2 I2 => ?_) (fun x v s2 hx rv la2 => ?_)
      · have ei : i = ms.length := by omega
        subst ei
        exact wpAny_execs_nil ⟨σ', H', I2, hdn σ' H' w⟩
      · have hlt : i < ms.length := (List.getElem?_eq_some_iff.mp hx).1
        refine turn_item (Nx := W (i + 1)) (D := { D with bk := D.nx }) hg hb la2 rv (hst i x σ' H' hx w) (fun σ7 H7 s7 la7 w7 => ?_) (fun σ7 H7 s7 I7 q7 => ⟨σ7, H7, I7, q7⟩) (fun y u σ7 H7 s7 I7 r7 q7 => ⟨y, σ7, H7, I7, r7, q7⟩)
        have hh : ∃ m', m' < ms.length - i ∧ ((m' = 100001 ∧ s7 = s1) ∨ ∃ (i : Nat) (σ' : L2.St) (H' : Hp) (ms : List V) (m L it : Addr) (W : Nat → L2.St → Hp → Prop), LoopAt X pins a gi ms m L it i σ' H' s7 ∧ i ≤ ms.length ∧ m' = ms.length - i ∧ ms.length ≤ 100000 ∧ W i σ' H' ∧ (∀ i σ' H', i ≤ ms.length → W i σ' H' → H' m = some (.lst ms)) ∧
          (∀ i x σ' H', ms[i]? = some x → W i σ' H' → g x σ' H' fun σ2 H3 => tb { D with nx := W (i + 1), ct := W (i + 1), bk := D.nx } σ2 H3) ∧ ∀ σ' H', W ms.length σ' H' → D.nx σ' H') :=
          ⟨ms.length - (i + 1), by omega, .inr ⟨i + 1, σ7, H7, ms, m, L, it, W, la7, hlt, rfl, hz, w7, hl, hst, hdn⟩⟩
        exact ⟨hh, hh⟩
end
end TAG
end
/-! TaMath -/
section
set_option Elab.async false
set_option linter.all false
set_option autoImplicit false
set_option maxRecDepth 100000
set_option maxHeartbeats 4000000
namespace TA
open PySem
/-! The mathematics: lots are numbers, their stands the bits. -/
/-- the next lot, the first i stands looked at -/
def nextTo (rs : List Nat) (lot : Nat) : Nat → Nat
  | 0 => 0
  | i + 1 => if lot >>> i &&& 1 = 1 then nextTo rs lot i ||| rs.getD i 0 else nextTo rs lot i
theorem nextTo_yes {rs : List Nat} {lot i : Nat} (h : lot >>> i &&& 1 = 1) : nextTo rs lot (i + 1) = nextTo rs lot i ||| rs.getD i 0 := by
  show (if lot >>> i &&& 1 = 1 then _ else _) = _
  rw [if_pos h]
theorem nextTo_no {rs : List Nat} {lot i : Nat} (h : ¬ lot >>> i &&& 1 = 1) : nextTo rs lot (i + 1) = nextTo rs lot i := by
  show (if lot >>> i &&& 1 = 1 then _ else _) = _
  rw [if_neg h]
def nextN (rs : List Nat) (lot : Nat) : Nat := nextTo rs lot rs.length
theorem nextTo_lt {rs : List Nat} {v lot : Nat} (h : ∀ r ∈ rs, r < 2 ^ v) : ∀ i, nextTo rs lot i < 2 ^ v
  | 0 => Nat.two_pow_pos v
  | i + 1 => by
    unfold nextTo
    have ih := nextTo_lt (lot := lot) h i
    split
    · refine Nat.or_lt_two_pow ih ?_
      by_cases hi : i < rs.length
      · rw [List.getD_eq_getElem?_getD, List.getElem?_eq_getElem hi]
        exact h _ (List.getElem_mem hi)
      · rw [List.getD_eq_getElem?_getD, List.getElem?_eq_none (by omega)]
        exact Nat.two_pow_pos v
    · exact ih
theorem nextN_lt {rs : List Nat} {v lot : Nat} (h : ∀ r ∈ rs, r < 2 ^ v) : nextN rs lot < 2 ^ v := nextTo_lt h _
/-- the rounded lot, the first i members looked at -/
def rndTo (ms : List Nat) (lot : Nat) : Nat → Nat
  | 0 => ms.getLastD 0
  | i + 1 => if lot &&& ms.getD i 0 = lot then rndTo ms lot i &&& ms.getD i 0 else rndTo ms lot i
theorem rndTo_yes {ms : List Nat} {lot i : Nat} (h : lot &&& ms.getD i 0 = lot) : rndTo ms lot (i + 1) = rndTo ms lot i &&& ms.getD i 0 := by
  show (if lot &&& ms.getD i 0 = lot then _ else _) = _
  rw [if_pos h]
theorem rndTo_no {ms : List Nat} {lot i : Nat} (h : ¬ lot &&& ms.getD i 0 = lot) : rndTo ms lot (i + 1) = rndTo ms lot i := by
  show (if lot &&& ms.getD i 0 = lot then _ else _) = _
  rw [if_neg h]
def roundN (ms : List Nat) (lot : Nat) : Nat := rndTo ms lot ms.length
theorem rndTo_lt {ms : List Nat} {v lot : Nat} (h : ms.getLastD 0 < 2 ^ v) : ∀ i, rndTo ms lot i < 2 ^ v
  | 0 => h
  | i + 1 => by
    unfold rndTo
    have ih := rndTo_lt (lot := lot) h i
    split
    · exact Nat.lt_of_le_of_lt Nat.and_le_left ih
    · exact ih
theorem roundN_lt {ms : List Nat} {v lot : Nat} (h : ms.getLastD 0 < 2 ^ v) : roundN ms lot < 2 ^ v := rndTo_lt h _


def sharpB (ms row : List Nat) (lot : Nat) : Bool := decide (roundN ms (nextN row lot) = roundN ms (nextN row (roundN ms lot)))
/-! ### programs -/
inductive Pg where
  | no
  | st (nm : Str)
  | be (a b : Pg)
  | ei (a b : Pg)
  | ag (a : Pg)
/-- the row of a name: the first that bears it -/
def rowOf : List Str → List (List Nat) → Str → List Nat
  | n :: ns, r :: rs, x => if n = x then r else rowOf ns rs x
  | _, _, _ => []
theorem rowOf_lt {v : Nat} : ∀ {ns : List Str} {rs : List (List Nat)} {x : Str}, (∀ r ∈ rs, ∀ y ∈ r, y < 2 ^ v) → ∀ y ∈ rowOf ns rs x, y < 2 ^ v
  | [], _, _, _ => fun y hy => by unfold rowOf at hy; cases hy
  | _ :: _, [], _, _ => fun y hy => by unfold rowOf at hy; cases hy
  | n :: ns, r :: rs, x, h => fun y hy => by
    unfold rowOf at hy
    split at hy
    · exact h r (List.mem_cons_self ..) y hy
    · exact rowOf_lt (fun r' hr => h r' (List.mem_cons_of_mem _ hr)) y hy
/-- again: at most n turns -/
def agR {α : Type} : Nat → (Nat → Nat × List α) → Nat → Nat × List α
  | 0, _, r => (r, [])
  | n + 1, f, r => if r ||| (f r).1 = r then (r, (f r).2) else ((agR n f (r ||| (f r).1)).1, (f r).2 ++ (agR n f (r ||| (f r).1)).2)
/-- the end of a run and the steps met in it, with the lots that they met -/
def runN (row : Str → List Nat) : Pg → Nat → Nat × List (Str × Nat)
  | .no, r => (r, [])
  | .st nm, r => (nextN (row nm) r, [(nm, r)])
  | .be a b, r => ((runN row b (runN row a r).1).1, (runN row a r).2 ++ (runN row b (runN row a r).1).2)
  | .ei a b, r => ((runN row a r).1 ||| (runN row b r).1, (runN row a r).2 ++ (runN row b r).2)
  | .ag a, r => agR 8 (runN row a) r
theorem agR_lt {α : Type} {f : Nat → Nat × List α} {v : Nat} (h : ∀ r, r < 2 ^ v → (f r).1 < 2 ^ v) : ∀ n r, r < 2 ^ v → (agR n f r).1 < 2 ^ v
  | 0, r, hr => hr
  | n + 1, r, hr => by
    unfold agR
    split
    · exact hr
    · exact agR_lt h n _ (Nat.or_lt_two_pow hr (h r hr))
theorem runN_lt {row : Str → List Nat} {v : Nat} (h : ∀ nm, ∀ y ∈ row nm, y < 2 ^ v) : ∀ (p : Pg) (r : Nat), r < 2 ^ v → (runN row p r).1 < 2 ^ v
  | .no, r, hr => hr
  | .st nm, r, hr => nextN_lt (h nm)
  | .be a b, r, hr => runN_lt h b _ (runN_lt h a r hr)
  | .ei a b, r, hr => Nat.or_lt_two_pow (runN_lt h a r hr) (runN_lt h b r hr)
  | .ag a, r, hr => agR_lt (fun r hr => runN_lt h a r hr) 8 r hr
/-- the steps met lie below 2 ^ v -/
theorem agR_mem {f : Nat → Nat × List (Str × Nat)} {v : Nat} (h : ∀ r, r < 2 ^ v → (f r).1 < 2 ^ v) (h2 : ∀ r, r < 2 ^ v → ∀ q ∈ (f r).2, q.2 < 2 ^ v) : ∀ n r, r < 2 ^ v → ∀ q ∈ (agR n f r).2, q.2 < 2 ^ v
  | 0, r, hr, q, hq => by unfold agR at hq; cases hq
  | n + 1, r, hr, q, hq => by
    unfold agR at hq
    split at hq
    · exact h2 r hr q hq
    · rcases List.mem_append.mp hq with z | z
      · exact h2 r hr q z
      · exact agR_mem h h2 n _ (Nat.or_lt_two_pow hr (h r hr)) q z
theorem runN_mem {row : Str → List Nat} {v : Nat} (h : ∀ nm, ∀ y ∈ row nm, y < 2 ^ v) : ∀ (p : Pg) (r : Nat), r < 2 ^ v → ∀ q ∈ (runN row p r).2, q.2 < 2 ^ v
  | .no, r, hr, q, hq => by cases hq
  | .st nm, r, hr, q, hq => by
    rcases List.mem_singleton.mp hq with rfl
    exact hr
  | .be a b, r, hr, q, hq => by
    rcases List.mem_append.mp hq with z | z
    · exact runN_mem h a r hr q z
    · exact runN_mem h b _ (runN_lt h a r hr) q z
  | .ei a b, r, hr, q, hq => by
    rcases List.mem_append.mp hq with z | z
    · exact runN_mem h a r hr q z
    · exact runN_mem h b r hr q z
  | .ag a, r, hr, q, hq => agR_mem (fun r hr => runN_lt h a r hr) (fun r hr => runN_mem h a r hr) 8 r hr q hq
/-- the stands in a lot below 64 -/
def bits (r : Nat) : Nat := (List.range 6).countP fun i => r.testBit i
theorem bits_le (r : Nat) : bits r ≤ 6 := by
  unfold bits
  have h := List.countP_le_length (p := fun i => r.testBit i) (l := List.range 6)
  rw [List.length_range] at h
  exact h
theorem bits_grow : ∀ r < 64, ∀ x < 64, r ||| x ≠ r → bits r < bits (r ||| x) := by decide +kernel
/-- the names that a program speaks of -/
def Pg.uses : Pg → List Str
  | .no => []
  | .st nm => [nm]
  | .be a b => a.uses ++ b.uses
  | .ei a b => a.uses ++ b.uses
  | .ag a => a.uses
/-- the steps met at depth: their names are the program's -/
theorem agR_uses {f : Nat → Nat × List (Str × Nat)} {l : List Str} (h : ∀ r, ∀ q ∈ (f r).2, q.1 ∈ l) : ∀ n r, ∀ q ∈ (agR n f r).2, q.1 ∈ l
  | 0, r, q, hq => by unfold agR at hq; cases hq
  | n + 1, r, q, hq => by
    unfold agR at hq
    split at hq
    · exact h r q hq
    · rcases List.mem_append.mp hq with z | z
      · exact h r q z
      · exact agR_uses h n _ q z
theorem runN_uses {row : Str → List Nat} : ∀ (p : Pg) (r : Nat), ∀ q ∈ (runN row p r).2, q.1 ∈ p.uses
  | .no, r, q, hq => by cases hq
  | .st nm, r, q, hq => by
    rcases List.mem_singleton.mp hq with rfl
    exact List.mem_singleton.mpr rfl
  | .be a b, r, q, hq => by
    rcases List.mem_append.mp hq with z | z
    · exact List.mem_append_left _ (runN_uses a r q z)
    · exact List.mem_append_right _ (runN_uses b _ q z)
  | .ei a b, r, q, hq => by
    rcases List.mem_append.mp hq with z | z
    · exact List.mem_append_left _ (runN_uses a r q z)
    · exact List.mem_append_right _ (runN_uses b _ q z)
  | .ag a, r, q, hq => agR_uses (fun r => runN_uses a r) 8 r q hq
/-- its height -/
def Pg.ht : Pg → Nat
  | .no => 1
  | .st _ => 1
  | .be a b => max a.ht b.ht + 1
  | .ei a b => max a.ht b.ht + 1
  | .ag a => a.ht + 1
/-- how many steps a run may meet -/
def Pg.wt : Pg → Nat
  | .no => 0
  | .st _ => 1
  | .be a b => a.wt + b.wt
  | .ei a b => a.wt + b.wt
  | .ag a => 8 * a.wt
theorem agR_wt {f : Nat → Nat × List (Str × Nat)} {k : Nat} (h : ∀ r, (f r).2.length ≤ k) : ∀ n r, (agR n f r).2.length ≤ n * k
  | 0, r => by unfold agR; simp
  | n + 1, r => by
    have a := h r
    have b := agR_wt h n (r ||| (f r).1)
    unfold agR
    rw [Nat.succ_mul]
    split
    · exact Nat.le_trans a (Nat.le_add_left _ _)
    · show ((f r).2 ++ _).length ≤ _
      rw [List.length_append]
      omega
theorem runN_wt {row : Str → List Nat} : ∀ (p : Pg) (r : Nat), (runN row p r).2.length ≤ p.wt
  | .no, r => Nat.le_refl _
  | .st nm, r => Nat.le_refl _
  | .be a b, r => by
    show ((runN row a r).2 ++ _).length ≤ a.wt + b.wt
    rw [List.length_append]
    exact Nat.add_le_add (runN_wt a r) (runN_wt b _)
  | .ei a b, r => by
    show ((runN row a r).2 ++ _).length ≤ a.wt + b.wt
    rw [List.length_append]
    exact Nat.add_le_add (runN_wt a r) (runN_wt b r)
  | .ag a, r => agR_wt (fun r => runN_wt a r) 8 r
end TA
end
/-! TaBase -/
section
set_option Elab.async false
set_option linter.all false
set_option maxRecDepth 100000
set_option maxHeartbeats 4000000
/-! The facts of the text by name; the rule of a def; the rule of a call. -/
namespace TA
open PySem PySem.Spec PyProof.Rows L2
structure Txt (w : World) (K : PySem.W.Frag) (mg : Str → Option Value) : Prop where
  says : He.SaysT fa fn tabs w K
  mo : more K = true
  ns : ∃ h : Heap, K.In h ∧ h.Ns mainGlobals mg
section
variable {w : World} {K : PySem.W.Frag} {mg : Str → Option Value}
theorem Txt.glo (T : Txt w K mg) (i : Nat) {x : Str} (h : fa[i]? = some (.glo x) := by rfl) : mg x = some (.ref (He.ga K x)) := let ⟨_, X, G⟩ := T.ns; He.glo_ok X G (T.says.d.fact i h)
theorem Txt.free (T : Txt w K mg) (i : Nat) {x : Str} (h : fa[i]? = some (.free x) := by rfl) : mg x = none := let ⟨_, X, G⟩ := T.ns; He.free_ok X G (T.says.d.fact i h)
theorem Txt.int (T : Txt w K mg) (i : Nat) {x : Str} {n : Int} (h : fa[i]? = some (.int x n) := by rfl) : ∃ t, mg x = some (.int n t) := let ⟨_, X, G⟩ := T.ns; He.int_ok X G (T.says.d.fact i h)
theorem Txt.str (T : Txt w K mg) (i : Nat) {x z : Str} (h : fa[i]? = some (.str x z) := by rfl) : ∃ t, mg x = some (.str z t) := let ⟨_, X, G⟩ := T.ns; He.str_ok X G (T.says.d.fact i h)
theorem Txt.cls (T : Txt w K mg) (i : Nat) {x : Str} (h : fa[i]? = some (.cls x) := by rfl) : Cls K (He.ga K x) := He.cls_ok (T.says.d.fact i h)
theorem Txt.noat (T : Txt w K mg) (i : Nat) {x f : Str} (h : fa[i]? = some (.noat x f) := by rfl) : NoAttr K (He.ga K x) f := He.noat_ok (T.says.d.fact i h)
theorem Txt.meth (T : Txt w K mg) (i : Nat) {x m : Str} (h : fa[i]? = some (.meth x m) := by rfl) : Meth K (He.ga K x) m (He.ma K (He.ga K x) m) := He.meth_ok (T.says.d.fact i h)
theorem Txt.mkr (T : Txt w K mg) (i : Nat) {x : Str} (h : fa[i]? = some (.mkr x) := by rfl) : Mk K (He.ga K x) (He.ma K (He.ga K x) "__init__") := He.mkr_ok (T.says.d.fact i h)
theorem Txt.exm (T : Txt w K mg) (i : Nat) {x y : Str} {b : Bool} (h : fa[i]? = some (.exm x y b) := by rfl) : PySem.W.exmOne K (.ref (He.ga K x)) (.ref (He.ga K y)) = some b := He.exm_ok (T.says.d.fact i h)
end
/-- how a def is called -/
structure Cal (K : PySem.W.Frag) (mg : Str → Option Value) (x : Str) (f : Addr) : Prop where
  gl : mg x = some (.ref f)
  kp : PySem.W.keepIn K (.ref f) = true
/-- a def keeps its promise, by at most k frames -/
structure Fok (P : Program) (w : World) (K : PySem.W.Frag) (mg : Str → Option Value) (base : Heap) (k : Nat) (f : Addr) (ps : List Str) (sp : Sp) : Prop where
  ex : ∃ fd : FuncData, FnOk P w K mg base (L2.CX P w) k f fd ps sp ∧ Binds K fd ps []
section
variable {P : Program} {w : World} {K : PySem.W.Frag} {mg : Str → Option Value} {base : Heap}
theorem Fok.mono {j k : Nat} {f : Addr} {ps : List Str} {sp : Sp} (F : Fok P w K mg base j f ps sp) (h : j ≤ k) : Fok P w K mg base k f ps sp := let ⟨fd, a, b⟩ := F.ex; ⟨fd, a.mono h, b⟩
theorem Fok.imp {k : Nat} {f : Addr} {ps : List Str} {sp sp' : Sp} (F : Fok P w K mg base k f ps sp) (h : ∀ vs H Q E, sp' vs H Q E → sp vs H Q E) : Fok P w K mg base k f ps sp' := let ⟨fd, a, b⟩ := F.ex; ⟨fd, a.imp h, b⟩
/-- THE RULE of a def: its names, its arguments, its body's walk -/
theorem fok {x qual : Str} {st : Stmt} {f : Addr} {N ps : List Str} {k : Nat} {sp : Sp} (F : ∃ fd : FuncData, FunD K x qual (defArgs st) (defBody st) (defScope st) [] [] f fd) (S : FnScope N ps (defScope st))
    (hb : ∀ (kV doc pm : Value) (an : Option Addr) (cdv ct : Value) (us : List Value), us.length = ps.length → bindArgs (PySem.W.fnOf x qual (defArgs st) (defBody st) (defScope st) .none kV doc pm an cdv ct) ⟨us, []⟩ = pure (ps.zip us))
    (len : ∀ vs H Q E, sp vs H Q E → vs.length = ps.length)
    (hbody : ∀ (cdv : Value) (A : Around) (outer : List Env) (s : Shared) (H : Hp) (vs : List V) (Q : VK) (E : XK), Room k (A.deeper (envOfC qual (defScope st) s.heap.objs.size f cdv)) → sp vs H Q E →
      ∃ t, PSs (cxOf (L2.CX P w) P w K mg base N qual (defScope st) f cdv A outer s H E) (defBody st) t ∧ t { nx := fun _ H' => Q .non H', rt := Q } (start N vs) H) : Fok P w K mg base (k + 1) f ps sp := by
  obtain ⟨fd, F⟩ := F
  exact ⟨fd, F.ok S len hbody, F.bindsN hb⟩
end
section
variable {X : Cx} {k : Nat} {f C : Addr} {ps : List Str} {sp : Sp} {E : XK} {x m : Str} {p pos apos : Pos} {e o : Expr} {es : List Expr} {ta : TE} {t : TA}
/-- x(e, ..) of a def -/
theorem pe_f (F : Fok X.prog X.w X.K X.mg X.base k f ps sp) (c : Cal X.K X.mg x f) (hr : Room k X.A) (hx : Passes (L2.CX X.prog X.w) X E) (ha : PA X (e :: es) t) (hg : Gl X x := by rfl) (hdb : (x == ("__debug__" : Str)) = false := by decide)
    (he : starEach (e :: es) X.env = (false, eval e X.env) :: starEach es X.env := by rfl) (hpl : (backTo pos (starEach es X.env)).any (·.1) = false := by rfl) : PE X (.Call (.Name x p) (e :: es) [] pos) (tCall sp [] E t) := by
  obtain ⟨fd, F1, b⟩ := F.ex
  exact pe_call F1 hr hg c.gl c.kp b .nil hx ha hdb he hpl
/-- the same in a try's body -/
theorem pe_fS {Es : L2.St → XK} (F : Fok X.prog X.w X.K X.mg X.base k f ps sp) (c : Cal X.K X.mg x f) (hr : Room k X.A) (hx : ∀ σ, PassesAt (L2.CX X.prog X.w) X σ (Es σ)) (ha : PA X (e :: es) t) (hg : Gl X x := by rfl) (hdb : (x == ("__debug__" : Str)) = false := by decide)
    (he : starEach (e :: es) X.env = (false, eval e X.env) :: starEach es X.env := by rfl) (hpl : (backTo pos (starEach es X.env)).any (·.1) = false := by rfl) : PE X (.Call (.Name x p) (e :: es) [] pos) (tCallS sp Es t) := by
  obtain ⟨fd, F1, b⟩ := F.ex
  exact pe_callS F1 hr hg c.gl c.kp b hx ha hdb he hpl
/-- o.m(e, ..) -/
theorem pe_m {pl : Sem Bool} (F : Fok X.prog X.w X.K X.mg X.base k f ps sp) (he : PE X o ta) (c : Cls X.K C) (hm : Meth X.K C m f) (hr : Room k X.A) (hx : Passes (L2.CX X.prog X.w) X E) (ha : PA X (e :: es) t)
    (hst : starEach (e :: es) X.env = (false, eval e X.env) :: starEach es X.env := by rfl) (hpl : (backTo pos (starEach es X.env)).any (·.1) = false := by rfl)
    (ht : eval (.Call (.Attribute o m apos) (e :: es) [] pos) X.env = (do
      let ov ← eval o X.env
      standAt apos.atName
      let (f, first) ← holding [ov] (getMethod ov m pl)
      callWith pos f first (backTo pos (starEach (e :: es) X.env)) (backToKw pos (keywordEach [] X.env))) := by rfl) : PE X (.Call (.Attribute o m apos) (e :: es) [] pos) (tMeth C m sp [] E ta t) := by
  obtain ⟨fd, F1, b⟩ := F.ex
  exact pe_meth he c hm F1 hr b .nil hx ha hst hpl ht
/-- C(e, ..) -/
theorem pe_new (F : Fok X.prog X.w X.K X.mg X.base k f ps sp) (M : Mk X.K C f) (hm : X.mg x = some (.ref C)) (hr : Room (k + 1) X.A) (hx : Passes (L2.CX X.prog X.w) X E) (ha : PA X (e :: es) t) (hg : Gl X x := by rfl) (hdb : (x == ("__debug__" : Str)) = false := by decide)
    (he : starEach (e :: es) X.env = (false, eval e X.env) :: starEach es X.env := by rfl) (hpl : (backTo pos (starEach es X.env)).any (·.1) = false := by rfl) : PE X (.Call (.Name x p) (e :: es) [] pos) (tMake C sp [] E t) := by
  obtain ⟨fd, F1, b⟩ := F.ex
  exact pe_make M F1 hr hg hm b .nil hx ha hdb he hpl
/-- what a callee lets out leaves this def too -/
theorem px {E : XK} {E₁ : Value → Shared → Prop} (hs : X.stack = X.env :: X.outer) (hf : X.env.frame = some X.env.locals) (hex : X.ex = [])
    (hx : X.xe = fun e s' => wpAny (model X.prog X.w) X.A (leaving X.env e) (fun _ s'' => L2.CX X.prog X.w X.outer X.H_0 X.s_0 E e s'') E₁ s') : Passes (L2.CX X.prog X.w) X E := passes_call (takes_of hs hf hex hx) (fun _ _ _ _ h => h)
/-- two walks of one piece -/
theorem pe_2w {e : Expr} {t u : TE} (a : PE X e t) (b : PE X e u) : PE X e (fun σ H Q => t σ H Q ∨ u σ H Q) := ⟨fun pins s σ H Q I h => h.elim (a.run pins s σ H Q I) (b.run pins s σ H Q I)⟩
theorem pss_2w {st : List Stmt} {t u : TS} (a : PSs X st t) (b : PSs X st u) : PSs X st (fun D σ H => t D σ H ∨ u D σ H) := ⟨fun pins s σ H D I h => h.elim (a.run pins s σ H D I) (b.run pins s σ H D I)⟩
theorem ps_2w {st : Stmt} {t u : TS} (a : PS X st t) (b : PS X st u) : PS X st (fun D σ H => t D σ H ∨ u D σ H) := ⟨fun pins s σ H D I h => h.elim (a.run pins s σ H D I) (b.run pins s σ H D I)⟩
end
/-! facts -/
section
variable {w : World} {K : PySem.W.Frag} {mg : Str → Option Value}
theorem Txt.g_is_sequence (T : Txt w K mg) : mg "is_sequence" = some (.ref (He.ga K "is_sequence")) := T.glo 0
theorem Txt.g_is_whole (T : Txt w K mg) : mg "is_whole" = some (.ref (He.ga K "is_whole")) := T.glo 1
theorem Txt.g_check_stands (T : Txt w K mg) : mg "check_stands" = some (.ref (He.ga K "check_stands")) := T.glo 2
theorem Txt.g_all_stands (T : Txt w K mg) : mg "all_stands" = some (.ref (He.ga K "all_stands")) := T.glo 3
theorem Txt.g_check_lot (T : Txt w K mg) : mg "check_lot" = some (.ref (He.ga K "check_lot")) := T.glo 4
theorem Txt.g_is_within (T : Txt w K mg) : mg "is_within" = some (.ref (He.ga K "is_within")) := T.glo 5
theorem Txt.g_has_shape (T : Txt w K mg) : mg "has_shape" = some (.ref (He.ga K "has_shape")) := T.glo 6
theorem Txt.g_inner_programs (T : Txt w K mg) : mg "inner_programs" = some (.ref (He.ga K "inner_programs")) := T.glo 7
theorem Txt.g_check_node (T : Txt w K mg) : mg "check_node" = some (.ref (He.ga K "check_node")) := T.glo 8
theorem Txt.g_check_program (T : Txt w K mg) : mg "check_program" = some (.ref (He.ga K "check_program")) := T.glo 9
theorem Txt.g_check_row (T : Txt w K mg) : mg "check_row" = some (.ref (He.ga K "check_row")) := T.glo 10
theorem Txt.g_next_lot (T : Txt w K mg) : mg "next_lot" = some (.ref (He.ga K "next_lot")) := T.glo 11
theorem Txt.g_end_of (T : Txt w K mg) : mg "end_of" = some (.ref (He.ga K "end_of")) := T.glo 12
theorem Txt.g_put_met (T : Txt w K mg) : mg "put_met" = some (.ref (He.ga K "put_met")) := T.glo 13
theorem Txt.g_true_end (T : Txt w K mg) : mg "true_end" = some (.ref (He.ga K "true_end")) := T.glo 14
theorem Txt.g_true_run (T : Txt w K mg) : mg "true_run" = some (.ref (He.ga K "true_run")) := T.glo 15
theorem Txt.g_check_alike (T : Txt w K mg) : mg "check_alike" = some (.ref (He.ga K "check_alike")) := T.glo 16
theorem Txt.g_rounded_alike (T : Txt w K mg) : mg "rounded_alike" = some (.ref (He.ga K "rounded_alike")) := T.glo 17
theorem Txt.g_sharp_at (T : Txt w K mg) : mg "sharp_at" = some (.ref (He.ga K "sharp_at")) := T.glo 18
theorem Txt.g_put_line (T : Txt w K mg) : mg "put_line" = some (.ref (He.ga K "put_line")) := T.glo 19
theorem Txt.g_put_rounds (T : Txt w K mg) : mg "put_rounds" = some (.ref (He.ga K "put_rounds")) := T.glo 20
theorem Txt.g_put_lines (T : Txt w K mg) : mg "put_lines" = some (.ref (He.ga K "put_lines")) := T.glo 21
theorem Txt.g_true_lines (T : Txt w K mg) : mg "true_lines" = some (.ref (He.ga K "true_lines")) := T.glo 22
theorem Txt.g_runs_sharp (T : Txt w K mg) : mg "runs_sharp" = some (.ref (He.ga K "runs_sharp")) := T.glo 23
theorem Txt.g_find_lines (T : Txt w K mg) : mg "find_lines" = some (.ref (He.ga K "find_lines")) := T.glo 24
theorem Txt.g_has_line (T : Txt w K mg) : mg "has_line" = some (.ref (He.ga K "has_line")) := T.glo 25
theorem Txt.g_least_ends (T : Txt w K mg) : mg "least_ends" = some (.ref (He.ga K "least_ends")) := T.glo 26
theorem Txt.g_least_starts (T : Txt w K mg) : mg "least_starts" = some (.ref (He.ga K "least_starts")) := T.glo 27
theorem Txt.g_starts_with_line (T : Txt w K mg) : mg "starts_with_line" = some (.ref (He.ga K "starts_with_line")) := T.glo 28
theorem Txt.g_first_unmet (T : Txt w K mg) : mg "first_unmet" = some (.ref (He.ga K "first_unmet")) := T.glo 29
theorem Txt.g_is_name (T : Txt w K mg) : mg "is_name" = some (.ref (He.ga K "is_name")) := T.glo 30
theorem Txt.g_entry_fault (T : Txt w K mg) : mg "entry_fault" = some (.ref (He.ga K "entry_fault")) := T.glo 31
theorem Txt.g__law_hand (T : Txt w K mg) : mg "_law_hand" = some (.ref (He.ga K "_law_hand")) := T.glo 32
theorem Txt.g__law_mixed (T : Txt w K mg) : mg "_law_mixed" = some (.ref (He.ga K "_law_mixed")) := T.glo 33
theorem Txt.g__law_take (T : Txt w K mg) : mg "_law_take" = some (.ref (He.ga K "_law_take")) := T.glo 34
theorem Txt.g__law_stands (T : Txt w K mg) : mg "_law_stands" = some (.ref (He.ga K "_law_stands")) := T.glo 35
theorem Txt.g__law_every (T : Txt w K mg) : mg "_law_every" = some (.ref (He.ga K "_law_every")) := T.glo 36
theorem Txt.g__law_within (T : Txt w K mg) : mg "_law_within" = some (.ref (He.ga K "_law_within")) := T.glo 37
theorem Txt.g__law_met (T : Txt w K mg) : mg "_law_met" = some (.ref (He.ga K "_law_met")) := T.glo 38
theorem Txt.g__law_members (T : Txt w K mg) : mg "_law_members" = some (.ref (He.ga K "_law_members")) := T.glo 39
theorem Txt.g__law_rounded (T : Txt w K mg) : mg "_law_rounded" = some (.ref (He.ga K "_law_rounded")) := T.glo 40
theorem Txt.g__law_single (T : Txt w K mg) : mg "_law_single" = some (.ref (He.ga K "_law_single")) := T.glo 41
theorem Txt.g__law_drawn_row (T : Txt w K mg) : mg "_law_drawn_row" = some (.ref (He.ga K "_law_drawn_row")) := T.glo 42
theorem Txt.g__law_next (T : Txt w K mg) : mg "_law_next" = some (.ref (He.ga K "_law_next")) := T.glo 43
theorem Txt.g__law_back (T : Txt w K mg) : mg "_law_back" = some (.ref (He.ga K "_law_back")) := T.glo 44
theorem Txt.g__law_names (T : Txt w K mg) : mg "_law_names" = some (.ref (He.ga K "_law_names")) := T.glo 45
theorem Txt.g__law_rows_of (T : Txt w K mg) : mg "_law_rows_of" = some (.ref (He.ga K "_law_rows_of")) := T.glo 46
theorem Txt.g__law_program (T : Txt w K mg) : mg "_law_program" = some (.ref (He.ga K "_law_program")) := T.glo 47
theorem Txt.g__law_run (T : Txt w K mg) : mg "_law_run" = some (.ref (He.ga K "_law_run")) := T.glo 48
theorem Txt.g__law_true (T : Txt w K mg) : mg "_law_true" = some (.ref (He.ga K "_law_true")) := T.glo 49
theorem Txt.g__law_list (T : Txt w K mg) : mg "_law_list" = some (.ref (He.ga K "_law_list")) := T.glo 50
theorem Txt.g__law_int (T : Txt w K mg) : mg "_law_int" = some (.ref (He.ga K "_law_int")) := T.glo 51
theorem Txt.g__law_exact (T : Txt w K mg) : mg "_law_exact" = some (.ref (He.ga K "_law_exact")) := T.glo 52
theorem Txt.g__law_sharp (T : Txt w K mg) : mg "_law_sharp" = some (.ref (He.ga K "_law_sharp")) := T.glo 53
theorem Txt.g__law_first_blur (T : Txt w K mg) : mg "_law_first_blur" = some (.ref (He.ga K "_law_first_blur")) := T.glo 54
theorem Txt.g__law_met_steps (T : Txt w K mg) : mg "_law_met_steps" = some (.ref (He.ga K "_law_met_steps")) := T.glo 55
theorem Txt.g__law_world (T : Txt w K mg) : mg "_law_world" = some (.ref (He.ga K "_law_world")) := T.glo 56
theorem Txt.g__law_start (T : Txt w K mg) : mg "_law_start" = some (.ref (He.ga K "_law_start")) := T.glo 57
theorem Txt.g__law_refined (T : Txt w K mg) : mg "_law_refined" = some (.ref (He.ga K "_law_refined")) := T.glo 58
theorem Txt.g__law_steered (T : Txt w K mg) : mg "_law_steered" = some (.ref (He.ga K "_law_steered")) := T.glo 59
theorem Txt.g__law_make (T : Txt w K mg) : mg "_law_make" = some (.ref (He.ga K "_law_make")) := T.glo 60
theorem Txt.g__law_no_program (T : Txt w K mg) : mg "_law_no_program" = some (.ref (He.ga K "_law_no_program")) := T.glo 61
theorem Txt.g__law_no_lot (T : Txt w K mg) : mg "_law_no_lot" = some (.ref (He.ga K "_law_no_lot")) := T.glo 62
theorem Txt.g__law_ask (T : Txt w K mg) : mg "_law_ask" = some (.ref (He.ga K "_law_ask")) := T.glo 63
theorem Txt.g__law_told (T : Txt w K mg) : mg "_law_told" = some (.ref (He.ga K "_law_told")) := T.glo 64
theorem Txt.g__law_least (T : Txt w K mg) : mg "_law_least" = some (.ref (He.ga K "_law_least")) := T.glo 65
theorem Txt.g__law_answer_good (T : Txt w K mg) : mg "_law_answer_good" = some (.ref (He.ga K "_law_answer_good")) := T.glo 66
theorem Txt.g__law_due (T : Txt w K mg) : mg "_law_due" = some (.ref (He.ga K "_law_due")) := T.glo 67
theorem Txt.g_law (T : Txt w K mg) : mg "law" = some (.ref (He.ga K "law")) := T.glo 68
theorem Txt.g_CheckerError (T : Txt w K mg) : mg "CheckerError" = some (.ref (He.ga K "CheckerError")) := T.glo 69
theorem Txt.g_BadStands (T : Txt w K mg) : mg "BadStands" = some (.ref (He.ga K "BadStands")) := T.glo 70
theorem Txt.g_BadLot (T : Txt w K mg) : mg "BadLot" = some (.ref (He.ga K "BadLot")) := T.glo 71
theorem Txt.g_BadGlasses (T : Txt w K mg) : mg "BadGlasses" = some (.ref (He.ga K "BadGlasses")) := T.glo 72
theorem Txt.g_UnlikeStands (T : Txt w K mg) : mg "UnlikeStands" = some (.ref (He.ga K "UnlikeStands")) := T.glo 73
theorem Txt.g_BadRow (T : Txt w K mg) : mg "BadRow" = some (.ref (He.ga K "BadRow")) := T.glo 74
theorem Txt.g_BadSteps (T : Txt w K mg) : mg "BadSteps" = some (.ref (He.ga K "BadSteps")) := T.glo 75
theorem Txt.g_NoStep (T : Txt w K mg) : mg "NoStep" = some (.ref (He.ga K "NoStep")) := T.glo 76
theorem Txt.g_BadProgram (T : Txt w K mg) : mg "BadProgram" = some (.ref (He.ga K "BadProgram")) := T.glo 77
theorem Txt.g_Met (T : Txt w K mg) : mg "Met" = some (.ref (He.ga K "Met")) := T.glo 78
theorem Txt.g_Glasses (T : Txt w K mg) : mg "Glasses" = some (.ref (He.ga K "Glasses")) := T.glo 79
theorem Txt.g_Steps (T : Txt w K mg) : mg "Steps" = some (.ref (He.ga K "Steps")) := T.glo 80
theorem Txt.m_isinstance (T : Txt w K mg) : mg "isinstance" = none := T.free 81
theorem Txt.m_bool (T : Txt w K mg) : mg "bool" = none := T.free 82
theorem Txt.m_int (T : Txt w K mg) : mg "int" = none := T.free 83
theorem Txt.m_list (T : Txt w K mg) : mg "list" = none := T.free 84
theorem Txt.m_tuple (T : Txt w K mg) : mg "tuple" = none := T.free 85
theorem Txt.m_str (T : Txt w K mg) : mg "str" = none := T.free 86
theorem Txt.m_len (T : Txt w K mg) : mg "len" = none := T.free 87
theorem Txt.m_enumerate (T : Txt w K mg) : mg "enumerate" = none := T.free 88
theorem Txt.m_zip (T : Txt w K mg) : mg "zip" = none := T.free 89
theorem Txt.m_range (T : Txt w K mg) : mg "range" = none := T.free 90
theorem Txt.m_reversed (T : Txt w K mg) : mg "reversed" = none := T.free 91
theorem Txt.m_any (T : Txt w K mg) : mg "any" = none := T.free 92
theorem Txt.m_sorted (T : Txt w K mg) : mg "sorted" = none := T.free 93
theorem Txt.m_abs (T : Txt w K mg) : mg "abs" = none := T.free 94
theorem Txt.m_min (T : Txt w K mg) : mg "min" = none := T.free 95
theorem Txt.m_ValueError (T : Txt w K mg) : mg "ValueError" = none := T.free 96
theorem Txt.i_MOST_DEEP (T : Txt w K mg) : ∃ t, mg "MOST_DEEP" = some (.int 12 t) := T.int 97
theorem Txt.i_MOST_LONG (T : Txt w K mg) : ∃ t, mg "MOST_LONG" = some (.int 60 t) := T.int 98
theorem Txt.i_MOST_AGAINS (T : Txt w K mg) : ∃ t, mg "MOST_AGAINS" = some (.int 4 t) := T.int 99
theorem Txt.i_MOST_STEPS (T : Txt w K mg) : ∃ t, mg "MOST_STEPS" = some (.int 20 t) := T.int 100
theorem Txt.i_MOST_STANDS (T : Txt w K mg) : ∃ t, mg "MOST_STANDS" = some (.int 6 t) := T.int 101
theorem Txt.s_LETTERS (T : Txt w K mg) : ∃ t, mg "LETTERS" = some (.str "abcdefghijklmnopqrstuvwxyz" t) := T.str 102
theorem Txt.g_SIZES (T : Txt w K mg) : mg "SIZES" = some (.ref (He.ga K "SIZES")) := T.glo 103
theorem Txt.k_Glasses (T : Txt w K mg) : Cls K (He.ga K "Glasses") := T.cls 104
theorem Txt.k_Steps (T : Txt w K mg) : Cls K (He.ga K "Steps") := T.cls 105
theorem Txt.k_Met (T : Txt w K mg) : Cls K (He.ga K "Met") := T.cls 106
theorem Txt.n_Glasses_stands (T : Txt w K mg) : NoAttr K (He.ga K "Glasses") "stands" := T.noat 107
theorem Txt.n_Glasses_members (T : Txt w K mg) : NoAttr K (He.ga K "Glasses") "members" := T.noat 108
theorem Txt.n_Steps_stands (T : Txt w K mg) : NoAttr K (He.ga K "Steps") "stands" := T.noat 109
theorem Txt.n_Steps_names (T : Txt w K mg) : NoAttr K (He.ga K "Steps") "names" := T.noat 110
theorem Txt.n_Steps_rows (T : Txt w K mg) : NoAttr K (He.ga K "Steps") "rows" := T.noat 111
theorem Txt.n_Met_path (T : Txt w K mg) : NoAttr K (He.ga K "Met") "path" := T.noat 112
theorem Txt.n_Met_name (T : Txt w K mg) : NoAttr K (He.ga K "Met") "name" := T.noat 113
theorem Txt.n_Met_lot (T : Txt w K mg) : NoAttr K (He.ga K "Met") "lot" := T.noat 114
theorem Txt.me_Glasses_rounded (T : Txt w K mg) : Meth K (He.ga K "Glasses") "rounded" (He.ma K (He.ga K "Glasses") "rounded") := T.meth 115
theorem Txt.me_Steps_row_of (T : Txt w K mg) : Meth K (He.ga K "Steps") "row_of" (He.ma K (He.ga K "Steps") "row_of") := T.meth 116
theorem Txt.me_Steps_contains (T : Txt w K mg) : Meth K (He.ga K "Steps") "__contains__" (He.ma K (He.ga K "Steps") "__contains__") := T.meth 117
theorem Txt.mk_Glasses (T : Txt w K mg) : Mk K (He.ga K "Glasses") (He.ma K (He.ga K "Glasses") "__init__") := T.mkr 118
theorem Txt.mk_Steps (T : Txt w K mg) : Mk K (He.ga K "Steps") (He.ma K (He.ga K "Steps") "__init__") := T.mkr 119
theorem Txt.mk_Met (T : Txt w K mg) : Mk K (He.ga K "Met") (He.ma K (He.ga K "Met") "__init__") := T.mkr 120
theorem Txt.e_BadLot (T : Txt w K mg) : PySem.W.excIn K (He.ga K "BadLot") He.veBase "ValueError.__new__" = true ∧ PySem.W.keepIn K (.ref (He.ga K "BadLot")) = true ∧ PySem.W.subIn K (.ref (He.ga K "BadLot")) (.type "BaseException") = some true ∧ PySem.W.typeIn K (.ref (He.ga K "BadLot")) = some (.type "type") := He.exc_ok (T.says.d.fact 121)
theorem Txt.e_UnlikeStands (T : Txt w K mg) : PySem.W.excIn K (He.ga K "UnlikeStands") He.veBase "ValueError.__new__" = true ∧ PySem.W.keepIn K (.ref (He.ga K "UnlikeStands")) = true ∧ PySem.W.subIn K (.ref (He.ga K "UnlikeStands")) (.type "BaseException") = some true ∧ PySem.W.typeIn K (.ref (He.ga K "UnlikeStands")) = some (.type "type") := He.exc_ok (T.says.d.fact 122)
theorem Txt.x_BadLot (T : Txt w K mg) : PySem.W.exmOne K (.ref (He.ga K "BadLot")) (.ref (He.ga K "CheckerError")) = some true := T.exm 123
theorem Txt.x_UnlikeStands (T : Txt w K mg) : PySem.W.exmOne K (.ref (He.ga K "UnlikeStands")) (.ref (He.ga K "CheckerError")) = some true := T.exm 124
theorem Txt.x_BadProgram (T : Txt w K mg) : PySem.W.exmOne K (.ref (He.ga K "BadProgram")) (.ref (He.ga K "CheckerError")) = some true := T.exm 125
abbrev a_BadProgram_init (K : PySem.W.Frag) : Addr := He.ma K (He.ga K "BadProgram") "__init__"
theorem Txt.f_BadProgram_init (T : Txt w K mg) : ∃ fd, FunD K "__init__" "BadProgram.__init__" (defArgs s_BadProgram_init) (defBody s_BadProgram_init) (defScope s_BadProgram_init) [] [] (a_BadProgram_init K) fd := T.says.d.def_ 0
abbrev a_is_sequence (K : PySem.W.Frag) : Addr := He.ga K "is_sequence"
theorem Txt.f_is_sequence (T : Txt w K mg) : ∃ fd, FunD K "is_sequence" "is_sequence" (defArgs s_is_sequence) (defBody s_is_sequence) (defScope s_is_sequence) [] [] (a_is_sequence K) fd := T.says.d.def_ 1
theorem Txt.c_is_sequence (T : Txt w K mg) : Cal K mg "is_sequence" (a_is_sequence K) := ⟨T.g_is_sequence, let ⟨_, F⟩ := T.f_is_sequence; F.kp⟩
abbrev a_is_whole (K : PySem.W.Frag) : Addr := He.ga K "is_whole"
theorem Txt.f_is_whole (T : Txt w K mg) : ∃ fd, FunD K "is_whole" "is_whole" (defArgs s_is_whole) (defBody s_is_whole) (defScope s_is_whole) [.non, .non] [] (a_is_whole K) fd := T.says.d.def_ 2
theorem Txt.c_is_whole (T : Txt w K mg) : Cal K mg "is_whole" (a_is_whole K) := ⟨T.g_is_whole, let ⟨_, F⟩ := T.f_is_whole; F.kp⟩
abbrev a_check_stands (K : PySem.W.Frag) : Addr := He.ga K "check_stands"
theorem Txt.f_check_stands (T : Txt w K mg) : ∃ fd, FunD K "check_stands" "check_stands" (defArgs s_check_stands) (defBody s_check_stands) (defScope s_check_stands) [] [] (a_check_stands K) fd := T.says.d.def_ 3
theorem Txt.c_check_stands (T : Txt w K mg) : Cal K mg "check_stands" (a_check_stands K) := ⟨T.g_check_stands, let ⟨_, F⟩ := T.f_check_stands; F.kp⟩
abbrev a_all_stands (K : PySem.W.Frag) : Addr := He.ga K "all_stands"
theorem Txt.f_all_stands (T : Txt w K mg) : ∃ fd, FunD K "all_stands" "all_stands" (defArgs s_all_stands) (defBody s_all_stands) (defScope s_all_stands) [] [] (a_all_stands K) fd := T.says.d.def_ 4
theorem Txt.c_all_stands (T : Txt w K mg) : Cal K mg "all_stands" (a_all_stands K) := ⟨T.g_all_stands, let ⟨_, F⟩ := T.f_all_stands; F.kp⟩
abbrev a_check_lot (K : PySem.W.Frag) : Addr := He.ga K "check_lot"
theorem Txt.f_check_lot (T : Txt w K mg) : ∃ fd, FunD K "check_lot" "check_lot" (defArgs s_check_lot) (defBody s_check_lot) (defScope s_check_lot) [] [] (a_check_lot K) fd := T.says.d.def_ 5
theorem Txt.c_check_lot (T : Txt w K mg) : Cal K mg "check_lot" (a_check_lot K) := ⟨T.g_check_lot, let ⟨_, F⟩ := T.f_check_lot; F.kp⟩
abbrev a_is_within (K : PySem.W.Frag) : Addr := He.ga K "is_within"
theorem Txt.f_is_within (T : Txt w K mg) : ∃ fd, FunD K "is_within" "is_within" (defArgs s_is_within) (defBody s_is_within) (defScope s_is_within) [] [] (a_is_within K) fd := T.says.d.def_ 6
theorem Txt.c_is_within (T : Txt w K mg) : Cal K mg "is_within" (a_is_within K) := ⟨T.g_is_within, let ⟨_, F⟩ := T.f_is_within; F.kp⟩
abbrev a_has_shape (K : PySem.W.Frag) : Addr := He.ga K "has_shape"
theorem Txt.f_has_shape (T : Txt w K mg) : ∃ fd, FunD K "has_shape" "has_shape" (defArgs s_has_shape) (defBody s_has_shape) (defScope s_has_shape) [] [] (a_has_shape K) fd := T.says.d.def_ 7
theorem Txt.c_has_shape (T : Txt w K mg) : Cal K mg "has_shape" (a_has_shape K) := ⟨T.g_has_shape, let ⟨_, F⟩ := T.f_has_shape; F.kp⟩
abbrev a_inner_programs (K : PySem.W.Frag) : Addr := He.ga K "inner_programs"
theorem Txt.f_inner_programs (T : Txt w K mg) : ∃ fd, FunD K "inner_programs" "inner_programs" (defArgs s_inner_programs) (defBody s_inner_programs) (defScope s_inner_programs) [] [] (a_inner_programs K) fd := T.says.d.def_ 8
theorem Txt.c_inner_programs (T : Txt w K mg) : Cal K mg "inner_programs" (a_inner_programs K) := ⟨T.g_inner_programs, let ⟨_, F⟩ := T.f_inner_programs; F.kp⟩
abbrev a_check_node (K : PySem.W.Frag) : Addr := He.ga K "check_node"
theorem Txt.f_check_node (T : Txt w K mg) : ∃ fd, FunD K "check_node" "check_node" (defArgs s_check_node) (defBody s_check_node) (defScope s_check_node) [] [] (a_check_node K) fd := T.says.d.def_ 9
theorem Txt.c_check_node (T : Txt w K mg) : Cal K mg "check_node" (a_check_node K) := ⟨T.g_check_node, let ⟨_, F⟩ := T.f_check_node; F.kp⟩
abbrev a_check_program (K : PySem.W.Frag) : Addr := He.ga K "check_program"
theorem Txt.f_check_program (T : Txt w K mg) : ∃ fd, FunD K "check_program" "check_program" (defArgs s_check_program) (defBody s_check_program) (defScope s_check_program) [] [] (a_check_program K) fd := T.says.d.def_ 10
theorem Txt.c_check_program (T : Txt w K mg) : Cal K mg "check_program" (a_check_program K) := ⟨T.g_check_program, let ⟨_, F⟩ := T.f_check_program; F.kp⟩
abbrev a_check_row (K : PySem.W.Frag) : Addr := He.ga K "check_row"
theorem Txt.f_check_row (T : Txt w K mg) : ∃ fd, FunD K "check_row" "check_row" (defArgs s_check_row) (defBody s_check_row) (defScope s_check_row) [] [] (a_check_row K) fd := T.says.d.def_ 11
theorem Txt.c_check_row (T : Txt w K mg) : Cal K mg "check_row" (a_check_row K) := ⟨T.g_check_row, let ⟨_, F⟩ := T.f_check_row; F.kp⟩
abbrev a_next_lot (K : PySem.W.Frag) : Addr := He.ga K "next_lot"
theorem Txt.f_next_lot (T : Txt w K mg) : ∃ fd, FunD K "next_lot" "next_lot" (defArgs s_next_lot) (defBody s_next_lot) (defScope s_next_lot) [] [] (a_next_lot K) fd := T.says.d.def_ 12
theorem Txt.c_next_lot (T : Txt w K mg) : Cal K mg "next_lot" (a_next_lot K) := ⟨T.g_next_lot, let ⟨_, F⟩ := T.f_next_lot; F.kp⟩
abbrev a_Met_init (K : PySem.W.Frag) : Addr := He.ma K (He.ga K "Met") "__init__"
theorem Txt.f_Met_init (T : Txt w K mg) : ∃ fd, FunD K "__init__" "Met.__init__" (defArgs s_Met_init) (defBody s_Met_init) (defScope s_Met_init) [] [] (a_Met_init K) fd := T.says.d.def_ 13
abbrev a_end_of (K : PySem.W.Frag) : Addr := He.ga K "end_of"
theorem Txt.f_end_of (T : Txt w K mg) : ∃ fd, FunD K "end_of" "end_of" (defArgs s_end_of) (defBody s_end_of) (defScope s_end_of) [] [] (a_end_of K) fd := T.says.d.def_ 14
theorem Txt.c_end_of (T : Txt w K mg) : Cal K mg "end_of" (a_end_of K) := ⟨T.g_end_of, let ⟨_, F⟩ := T.f_end_of; F.kp⟩
abbrev a_put_met (K : PySem.W.Frag) : Addr := He.ga K "put_met"
theorem Txt.f_put_met (T : Txt w K mg) : ∃ fd, FunD K "put_met" "put_met" (defArgs s_put_met) (defBody s_put_met) (defScope s_put_met) [] [] (a_put_met K) fd := T.says.d.def_ 15
theorem Txt.c_put_met (T : Txt w K mg) : Cal K mg "put_met" (a_put_met K) := ⟨T.g_put_met, let ⟨_, F⟩ := T.f_put_met; F.kp⟩
abbrev a_true_end (K : PySem.W.Frag) : Addr := He.ga K "true_end"
theorem Txt.f_true_end (T : Txt w K mg) : ∃ fd, FunD K "true_end" "true_end" (defArgs s_true_end) (defBody s_true_end) (defScope s_true_end) [] [] (a_true_end K) fd := T.says.d.def_ 16
theorem Txt.c_true_end (T : Txt w K mg) : Cal K mg "true_end" (a_true_end K) := ⟨T.g_true_end, let ⟨_, F⟩ := T.f_true_end; F.kp⟩
abbrev a_true_run (K : PySem.W.Frag) : Addr := He.ga K "true_run"
theorem Txt.f_true_run (T : Txt w K mg) : ∃ fd, FunD K "true_run" "true_run" (defArgs s_true_run) (defBody s_true_run) (defScope s_true_run) [] [] (a_true_run K) fd := T.says.d.def_ 17
theorem Txt.c_true_run (T : Txt w K mg) : Cal K mg "true_run" (a_true_run K) := ⟨T.g_true_run, let ⟨_, F⟩ := T.f_true_run; F.kp⟩
abbrev a_check_alike (K : PySem.W.Frag) : Addr := He.ga K "check_alike"
theorem Txt.f_check_alike (T : Txt w K mg) : ∃ fd, FunD K "check_alike" "check_alike" (defArgs s_check_alike) (defBody s_check_alike) (defScope s_check_alike) [] [] (a_check_alike K) fd := T.says.d.def_ 18
theorem Txt.c_check_alike (T : Txt w K mg) : Cal K mg "check_alike" (a_check_alike K) := ⟨T.g_check_alike, let ⟨_, F⟩ := T.f_check_alike; F.kp⟩
abbrev a_rounded_alike (K : PySem.W.Frag) : Addr := He.ga K "rounded_alike"
theorem Txt.f_rounded_alike (T : Txt w K mg) : ∃ fd, FunD K "rounded_alike" "rounded_alike" (defArgs s_rounded_alike) (defBody s_rounded_alike) (defScope s_rounded_alike) [] [] (a_rounded_alike K) fd := T.says.d.def_ 19
theorem Txt.c_rounded_alike (T : Txt w K mg) : Cal K mg "rounded_alike" (a_rounded_alike K) := ⟨T.g_rounded_alike, let ⟨_, F⟩ := T.f_rounded_alike; F.kp⟩
abbrev a_sharp_at (K : PySem.W.Frag) : Addr := He.ga K "sharp_at"
theorem Txt.f_sharp_at (T : Txt w K mg) : ∃ fd, FunD K "sharp_at" "sharp_at" (defArgs s_sharp_at) (defBody s_sharp_at) (defScope s_sharp_at) [] [] (a_sharp_at K) fd := T.says.d.def_ 20
theorem Txt.c_sharp_at (T : Txt w K mg) : Cal K mg "sharp_at" (a_sharp_at K) := ⟨T.g_sharp_at, let ⟨_, F⟩ := T.f_sharp_at; F.kp⟩
abbrev a_put_line (K : PySem.W.Frag) : Addr := He.ga K "put_line"
theorem Txt.f_put_line (T : Txt w K mg) : ∃ fd, FunD K "put_line" "put_line" (defArgs s_put_line) (defBody s_put_line) (defScope s_put_line) [] [] (a_put_line K) fd := T.says.d.def_ 21
theorem Txt.c_put_line (T : Txt w K mg) : Cal K mg "put_line" (a_put_line K) := ⟨T.g_put_line, let ⟨_, F⟩ := T.f_put_line; F.kp⟩
abbrev a_put_rounds (K : PySem.W.Frag) : Addr := He.ga K "put_rounds"
theorem Txt.f_put_rounds (T : Txt w K mg) : ∃ fd, FunD K "put_rounds" "put_rounds" (defArgs s_put_rounds) (defBody s_put_rounds) (defScope s_put_rounds) [] [] (a_put_rounds K) fd := T.says.d.def_ 22
theorem Txt.c_put_rounds (T : Txt w K mg) : Cal K mg "put_rounds" (a_put_rounds K) := ⟨T.g_put_rounds, let ⟨_, F⟩ := T.f_put_rounds; F.kp⟩
abbrev a_put_lines (K : PySem.W.Frag) : Addr := He.ga K "put_lines"
theorem Txt.f_put_lines (T : Txt w K mg) : ∃ fd, FunD K "put_lines" "put_lines" (defArgs s_put_lines) (defBody s_put_lines) (defScope s_put_lines) [] [] (a_put_lines K) fd := T.says.d.def_ 23
theorem Txt.c_put_lines (T : Txt w K mg) : Cal K mg "put_lines" (a_put_lines K) := ⟨T.g_put_lines, let ⟨_, F⟩ := T.f_put_lines; F.kp⟩
abbrev a_true_lines (K : PySem.W.Frag) : Addr := He.ga K "true_lines"
theorem Txt.f_true_lines (T : Txt w K mg) : ∃ fd, FunD K "true_lines" "true_lines" (defArgs s_true_lines) (defBody s_true_lines) (defScope s_true_lines) [] [] (a_true_lines K) fd := T.says.d.def_ 24
theorem Txt.c_true_lines (T : Txt w K mg) : Cal K mg "true_lines" (a_true_lines K) := ⟨T.g_true_lines, let ⟨_, F⟩ := T.f_true_lines; F.kp⟩
abbrev a_runs_sharp (K : PySem.W.Frag) : Addr := He.ga K "runs_sharp"
theorem Txt.f_runs_sharp (T : Txt w K mg) : ∃ fd, FunD K "runs_sharp" "runs_sharp" (defArgs s_runs_sharp) (defBody s_runs_sharp) (defScope s_runs_sharp) [] [] (a_runs_sharp K) fd := T.says.d.def_ 25
theorem Txt.c_runs_sharp (T : Txt w K mg) : Cal K mg "runs_sharp" (a_runs_sharp K) := ⟨T.g_runs_sharp, let ⟨_, F⟩ := T.f_runs_sharp; F.kp⟩
abbrev a_find_lines (K : PySem.W.Frag) : Addr := He.ga K "find_lines"
theorem Txt.f_find_lines (T : Txt w K mg) : ∃ fd, FunD K "find_lines" "find_lines" (defArgs s_find_lines) (defBody s_find_lines) (defScope s_find_lines) [] [] (a_find_lines K) fd := T.says.d.def_ 26
theorem Txt.c_find_lines (T : Txt w K mg) : Cal K mg "find_lines" (a_find_lines K) := ⟨T.g_find_lines, let ⟨_, F⟩ := T.f_find_lines; F.kp⟩
abbrev a_has_line (K : PySem.W.Frag) : Addr := He.ga K "has_line"
theorem Txt.f_has_line (T : Txt w K mg) : ∃ fd, FunD K "has_line" "has_line" (defArgs s_has_line) (defBody s_has_line) (defScope s_has_line) [] [] (a_has_line K) fd := T.says.d.def_ 27
theorem Txt.c_has_line (T : Txt w K mg) : Cal K mg "has_line" (a_has_line K) := ⟨T.g_has_line, let ⟨_, F⟩ := T.f_has_line; F.kp⟩
abbrev a_least_ends (K : PySem.W.Frag) : Addr := He.ga K "least_ends"
theorem Txt.f_least_ends (T : Txt w K mg) : ∃ fd, FunD K "least_ends" "least_ends" (defArgs s_least_ends) (defBody s_least_ends) (defScope s_least_ends) [] [] (a_least_ends K) fd := T.says.d.def_ 28
theorem Txt.c_least_ends (T : Txt w K mg) : Cal K mg "least_ends" (a_least_ends K) := ⟨T.g_least_ends, let ⟨_, F⟩ := T.f_least_ends; F.kp⟩
abbrev a_least_starts (K : PySem.W.Frag) : Addr := He.ga K "least_starts"
theorem Txt.f_least_starts (T : Txt w K mg) : ∃ fd, FunD K "least_starts" "least_starts" (defArgs s_least_starts) (defBody s_least_starts) (defScope s_least_starts) [] [] (a_least_starts K) fd := T.says.d.def_ 29
theorem Txt.c_least_starts (T : Txt w K mg) : Cal K mg "least_starts" (a_least_starts K) := ⟨T.g_least_starts, let ⟨_, F⟩ := T.f_least_starts; F.kp⟩
abbrev a_starts_with_line (K : PySem.W.Frag) : Addr := He.ga K "starts_with_line"
theorem Txt.f_starts_with_line (T : Txt w K mg) : ∃ fd, FunD K "starts_with_line" "starts_with_line" (defArgs s_starts_with_line) (defBody s_starts_with_line) (defScope s_starts_with_line) [] [] (a_starts_with_line K) fd := T.says.d.def_ 30
theorem Txt.c_starts_with_line (T : Txt w K mg) : Cal K mg "starts_with_line" (a_starts_with_line K) := ⟨T.g_starts_with_line, let ⟨_, F⟩ := T.f_starts_with_line; F.kp⟩
abbrev a_first_unmet (K : PySem.W.Frag) : Addr := He.ga K "first_unmet"
theorem Txt.f_first_unmet (T : Txt w K mg) : ∃ fd, FunD K "first_unmet" "first_unmet" (defArgs s_first_unmet) (defBody s_first_unmet) (defScope s_first_unmet) [] [] (a_first_unmet K) fd := T.says.d.def_ 31
theorem Txt.c_first_unmet (T : Txt w K mg) : Cal K mg "first_unmet" (a_first_unmet K) := ⟨T.g_first_unmet, let ⟨_, F⟩ := T.f_first_unmet; F.kp⟩
abbrev a_Glasses_init (K : PySem.W.Frag) : Addr := He.ma K (He.ga K "Glasses") "__init__"
theorem Txt.f_Glasses_init (T : Txt w K mg) : ∃ fd, FunD K "__init__" "Glasses.__init__" (defArgs s_Glasses_init) (defBody s_Glasses_init) (defScope s_Glasses_init) [] [] (a_Glasses_init K) fd := T.says.d.def_ 32
abbrev a_Glasses_rounded (K : PySem.W.Frag) : Addr := He.ma K (He.ga K "Glasses") "rounded"
theorem Txt.f_Glasses_rounded (T : Txt w K mg) : ∃ fd, FunD K "rounded" "Glasses.rounded" (defArgs s_Glasses_rounded) (defBody s_Glasses_rounded) (defScope s_Glasses_rounded) [] [] (a_Glasses_rounded K) fd := T.says.d.def_ 33
abbrev a_is_name (K : PySem.W.Frag) : Addr := He.ga K "is_name"
theorem Txt.f_is_name (T : Txt w K mg) : ∃ fd, FunD K "is_name" "is_name" (defArgs s_is_name) (defBody s_is_name) (defScope s_is_name) [] [] (a_is_name K) fd := T.says.d.def_ 34
theorem Txt.c_is_name (T : Txt w K mg) : Cal K mg "is_name" (a_is_name K) := ⟨T.g_is_name, let ⟨_, F⟩ := T.f_is_name; F.kp⟩
abbrev a_entry_fault (K : PySem.W.Frag) : Addr := He.ga K "entry_fault"
theorem Txt.f_entry_fault (T : Txt w K mg) : ∃ fd, FunD K "entry_fault" "entry_fault" (defArgs s_entry_fault) (defBody s_entry_fault) (defScope s_entry_fault) [] [] (a_entry_fault K) fd := T.says.d.def_ 35
theorem Txt.c_entry_fault (T : Txt w K mg) : Cal K mg "entry_fault" (a_entry_fault K) := ⟨T.g_entry_fault, let ⟨_, F⟩ := T.f_entry_fault; F.kp⟩
abbrev a_Steps_init (K : PySem.W.Frag) : Addr := He.ma K (He.ga K "Steps") "__init__"
theorem Txt.f_Steps_init (T : Txt w K mg) : ∃ fd, FunD K "__init__" "Steps.__init__" (defArgs s_Steps_init) (defBody s_Steps_init) (defScope s_Steps_init) [] [] (a_Steps_init K) fd := T.says.d.def_ 36
abbrev a_Steps_contains (K : PySem.W.Frag) : Addr := He.ma K (He.ga K "Steps") "__contains__"
theorem Txt.f_Steps_contains (T : Txt w K mg) : ∃ fd, FunD K "__contains__" "Steps.__contains__" (defArgs s_Steps_contains) (defBody s_Steps_contains) (defScope s_Steps_contains) [] [] (a_Steps_contains K) fd := T.says.d.def_ 37
abbrev a_Steps_row_of (K : PySem.W.Frag) : Addr := He.ma K (He.ga K "Steps") "row_of"
theorem Txt.f_Steps_row_of (T : Txt w K mg) : ∃ fd, FunD K "row_of" "Steps.row_of" (defArgs s_Steps_row_of) (defBody s_Steps_row_of) (defScope s_Steps_row_of) [] [] (a_Steps_row_of K) fd := T.says.d.def_ 38
abbrev a__law_hand (K : PySem.W.Frag) : Addr := He.ga K "_law_hand"
theorem Txt.f__law_hand (T : Txt w K mg) : ∃ fd, FunD K "_law_hand" "_law_hand" (defArgs s__law_hand) (defBody s__law_hand) (defScope s__law_hand) [] [] (a__law_hand K) fd := T.says.d.def_ 39
theorem Txt.c__law_hand (T : Txt w K mg) : Cal K mg "_law_hand" (a__law_hand K) := ⟨T.g__law_hand, let ⟨_, F⟩ := T.f__law_hand; F.kp⟩
abbrev a__law_mixed (K : PySem.W.Frag) : Addr := He.ga K "_law_mixed"
theorem Txt.f__law_mixed (T : Txt w K mg) : ∃ fd, FunD K "_law_mixed" "_law_mixed" (defArgs s__law_mixed) (defBody s__law_mixed) (defScope s__law_mixed) [] [] (a__law_mixed K) fd := T.says.d.def_ 40
theorem Txt.c__law_mixed (T : Txt w K mg) : Cal K mg "_law_mixed" (a__law_mixed K) := ⟨T.g__law_mixed, let ⟨_, F⟩ := T.f__law_mixed; F.kp⟩
abbrev a__law_take (K : PySem.W.Frag) : Addr := He.ga K "_law_take"
theorem Txt.f__law_take (T : Txt w K mg) : ∃ fd, FunD K "_law_take" "_law_take" (defArgs s__law_take) (defBody s__law_take) (defScope s__law_take) [] [] (a__law_take K) fd := T.says.d.def_ 41
theorem Txt.c__law_take (T : Txt w K mg) : Cal K mg "_law_take" (a__law_take K) := ⟨T.g__law_take, let ⟨_, F⟩ := T.f__law_take; F.kp⟩
abbrev a__law_stands (K : PySem.W.Frag) : Addr := He.ga K "_law_stands"
theorem Txt.f__law_stands (T : Txt w K mg) : ∃ fd, FunD K "_law_stands" "_law_stands" (defArgs s__law_stands) (defBody s__law_stands) (defScope s__law_stands) [] [] (a__law_stands K) fd := T.says.d.def_ 42
theorem Txt.c__law_stands (T : Txt w K mg) : Cal K mg "_law_stands" (a__law_stands K) := ⟨T.g__law_stands, let ⟨_, F⟩ := T.f__law_stands; F.kp⟩
abbrev a__law_every (K : PySem.W.Frag) : Addr := He.ga K "_law_every"
theorem Txt.f__law_every (T : Txt w K mg) : ∃ fd, FunD K "_law_every" "_law_every" (defArgs s__law_every) (defBody s__law_every) (defScope s__law_every) [] [] (a__law_every K) fd := T.says.d.def_ 43
theorem Txt.c__law_every (T : Txt w K mg) : Cal K mg "_law_every" (a__law_every K) := ⟨T.g__law_every, let ⟨_, F⟩ := T.f__law_every; F.kp⟩
abbrev a__law_within (K : PySem.W.Frag) : Addr := He.ga K "_law_within"
theorem Txt.f__law_within (T : Txt w K mg) : ∃ fd, FunD K "_law_within" "_law_within" (defArgs s__law_within) (defBody s__law_within) (defScope s__law_within) [] [] (a__law_within K) fd := T.says.d.def_ 44
theorem Txt.c__law_within (T : Txt w K mg) : Cal K mg "_law_within" (a__law_within K) := ⟨T.g__law_within, let ⟨_, F⟩ := T.f__law_within; F.kp⟩
abbrev a__law_met (K : PySem.W.Frag) : Addr := He.ga K "_law_met"
theorem Txt.f__law_met (T : Txt w K mg) : ∃ fd, FunD K "_law_met" "_law_met" (defArgs s__law_met) (defBody s__law_met) (defScope s__law_met) [] [] (a__law_met K) fd := T.says.d.def_ 45
theorem Txt.c__law_met (T : Txt w K mg) : Cal K mg "_law_met" (a__law_met K) := ⟨T.g__law_met, let ⟨_, F⟩ := T.f__law_met; F.kp⟩
abbrev a__law_members (K : PySem.W.Frag) : Addr := He.ga K "_law_members"
theorem Txt.f__law_members (T : Txt w K mg) : ∃ fd, FunD K "_law_members" "_law_members" (defArgs s__law_members) (defBody s__law_members) (defScope s__law_members) [] [] (a__law_members K) fd := T.says.d.def_ 46
theorem Txt.c__law_members (T : Txt w K mg) : Cal K mg "_law_members" (a__law_members K) := ⟨T.g__law_members, let ⟨_, F⟩ := T.f__law_members; F.kp⟩
abbrev a__law_rounded (K : PySem.W.Frag) : Addr := He.ga K "_law_rounded"
theorem Txt.f__law_rounded (T : Txt w K mg) : ∃ fd, FunD K "_law_rounded" "_law_rounded" (defArgs s__law_rounded) (defBody s__law_rounded) (defScope s__law_rounded) [] [] (a__law_rounded K) fd := T.says.d.def_ 47
theorem Txt.c__law_rounded (T : Txt w K mg) : Cal K mg "_law_rounded" (a__law_rounded K) := ⟨T.g__law_rounded, let ⟨_, F⟩ := T.f__law_rounded; F.kp⟩
abbrev a__law_single (K : PySem.W.Frag) : Addr := He.ga K "_law_single"
theorem Txt.f__law_single (T : Txt w K mg) : ∃ fd, FunD K "_law_single" "_law_single" (defArgs s__law_single) (defBody s__law_single) (defScope s__law_single) [] [] (a__law_single K) fd := T.says.d.def_ 48
theorem Txt.c__law_single (T : Txt w K mg) : Cal K mg "_law_single" (a__law_single K) := ⟨T.g__law_single, let ⟨_, F⟩ := T.f__law_single; F.kp⟩
abbrev a__law_drawn_row (K : PySem.W.Frag) : Addr := He.ga K "_law_drawn_row"
theorem Txt.f__law_drawn_row (T : Txt w K mg) : ∃ fd, FunD K "_law_drawn_row" "_law_drawn_row" (defArgs s__law_drawn_row) (defBody s__law_drawn_row) (defScope s__law_drawn_row) [] [] (a__law_drawn_row K) fd := T.says.d.def_ 49
theorem Txt.c__law_drawn_row (T : Txt w K mg) : Cal K mg "_law_drawn_row" (a__law_drawn_row K) := ⟨T.g__law_drawn_row, let ⟨_, F⟩ := T.f__law_drawn_row; F.kp⟩
abbrev a__law_next (K : PySem.W.Frag) : Addr := He.ga K "_law_next"
theorem Txt.f__law_next (T : Txt w K mg) : ∃ fd, FunD K "_law_next" "_law_next" (defArgs s__law_next) (defBody s__law_next) (defScope s__law_next) [] [] (a__law_next K) fd := T.says.d.def_ 50
theorem Txt.c__law_next (T : Txt w K mg) : Cal K mg "_law_next" (a__law_next K) := ⟨T.g__law_next, let ⟨_, F⟩ := T.f__law_next; F.kp⟩
abbrev a__law_back (K : PySem.W.Frag) : Addr := He.ga K "_law_back"
theorem Txt.f__law_back (T : Txt w K mg) : ∃ fd, FunD K "_law_back" "_law_back" (defArgs s__law_back) (defBody s__law_back) (defScope s__law_back) [] [] (a__law_back K) fd := T.says.d.def_ 51
theorem Txt.c__law_back (T : Txt w K mg) : Cal K mg "_law_back" (a__law_back K) := ⟨T.g__law_back, let ⟨_, F⟩ := T.f__law_back; F.kp⟩
abbrev a__law_names (K : PySem.W.Frag) : Addr := He.ga K "_law_names"
theorem Txt.f__law_names (T : Txt w K mg) : ∃ fd, FunD K "_law_names" "_law_names" (defArgs s__law_names) (defBody s__law_names) (defScope s__law_names) [] [] (a__law_names K) fd := T.says.d.def_ 52
theorem Txt.c__law_names (T : Txt w K mg) : Cal K mg "_law_names" (a__law_names K) := ⟨T.g__law_names, let ⟨_, F⟩ := T.f__law_names; F.kp⟩
abbrev a__law_rows_of (K : PySem.W.Frag) : Addr := He.ga K "_law_rows_of"
theorem Txt.f__law_rows_of (T : Txt w K mg) : ∃ fd, FunD K "_law_rows_of" "_law_rows_of" (defArgs s__law_rows_of) (defBody s__law_rows_of) (defScope s__law_rows_of) [] [] (a__law_rows_of K) fd := T.says.d.def_ 53
theorem Txt.c__law_rows_of (T : Txt w K mg) : Cal K mg "_law_rows_of" (a__law_rows_of K) := ⟨T.g__law_rows_of, let ⟨_, F⟩ := T.f__law_rows_of; F.kp⟩
abbrev a__law_program (K : PySem.W.Frag) : Addr := He.ga K "_law_program"
theorem Txt.f__law_program (T : Txt w K mg) : ∃ fd, FunD K "_law_program" "_law_program" (defArgs s__law_program) (defBody s__law_program) (defScope s__law_program) [] [] (a__law_program K) fd := T.says.d.def_ 54
theorem Txt.c__law_program (T : Txt w K mg) : Cal K mg "_law_program" (a__law_program K) := ⟨T.g__law_program, let ⟨_, F⟩ := T.f__law_program; F.kp⟩
abbrev a__law_run (K : PySem.W.Frag) : Addr := He.ga K "_law_run"
theorem Txt.f__law_run (T : Txt w K mg) : ∃ fd, FunD K "_law_run" "_law_run" (defArgs s__law_run) (defBody s__law_run) (defScope s__law_run) [] [] (a__law_run K) fd := T.says.d.def_ 55
theorem Txt.c__law_run (T : Txt w K mg) : Cal K mg "_law_run" (a__law_run K) := ⟨T.g__law_run, let ⟨_, F⟩ := T.f__law_run; F.kp⟩
abbrev a__law_true (K : PySem.W.Frag) : Addr := He.ga K "_law_true"
theorem Txt.f__law_true (T : Txt w K mg) : ∃ fd, FunD K "_law_true" "_law_true" (defArgs s__law_true) (defBody s__law_true) (defScope s__law_true) [] [] (a__law_true K) fd := T.says.d.def_ 56
theorem Txt.c__law_true (T : Txt w K mg) : Cal K mg "_law_true" (a__law_true K) := ⟨T.g__law_true, let ⟨_, F⟩ := T.f__law_true; F.kp⟩
abbrev a__law_list (K : PySem.W.Frag) : Addr := He.ga K "_law_list"
theorem Txt.f__law_list (T : Txt w K mg) : ∃ fd, FunD K "_law_list" "_law_list" (defArgs s__law_list) (defBody s__law_list) (defScope s__law_list) [] [] (a__law_list K) fd := T.says.d.def_ 57
theorem Txt.c__law_list (T : Txt w K mg) : Cal K mg "_law_list" (a__law_list K) := ⟨T.g__law_list, let ⟨_, F⟩ := T.f__law_list; F.kp⟩
abbrev a__law_int (K : PySem.W.Frag) : Addr := He.ga K "_law_int"
theorem Txt.f__law_int (T : Txt w K mg) : ∃ fd, FunD K "_law_int" "_law_int" (defArgs s__law_int) (defBody s__law_int) (defScope s__law_int) [] [] (a__law_int K) fd := T.says.d.def_ 58
theorem Txt.c__law_int (T : Txt w K mg) : Cal K mg "_law_int" (a__law_int K) := ⟨T.g__law_int, let ⟨_, F⟩ := T.f__law_int; F.kp⟩
abbrev a__law_exact (K : PySem.W.Frag) : Addr := He.ga K "_law_exact"
theorem Txt.f__law_exact (T : Txt w K mg) : ∃ fd, FunD K "_law_exact" "_law_exact" (defArgs s__law_exact) (defBody s__law_exact) (defScope s__law_exact) [] [] (a__law_exact K) fd := T.says.d.def_ 59
theorem Txt.c__law_exact (T : Txt w K mg) : Cal K mg "_law_exact" (a__law_exact K) := ⟨T.g__law_exact, let ⟨_, F⟩ := T.f__law_exact; F.kp⟩
abbrev a__law_sharp (K : PySem.W.Frag) : Addr := He.ga K "_law_sharp"
theorem Txt.f__law_sharp (T : Txt w K mg) : ∃ fd, FunD K "_law_sharp" "_law_sharp" (defArgs s__law_sharp) (defBody s__law_sharp) (defScope s__law_sharp) [] [] (a__law_sharp K) fd := T.says.d.def_ 60
theorem Txt.c__law_sharp (T : Txt w K mg) : Cal K mg "_law_sharp" (a__law_sharp K) := ⟨T.g__law_sharp, let ⟨_, F⟩ := T.f__law_sharp; F.kp⟩
abbrev a__law_first_blur (K : PySem.W.Frag) : Addr := He.ga K "_law_first_blur"
theorem Txt.f__law_first_blur (T : Txt w K mg) : ∃ fd, FunD K "_law_first_blur" "_law_first_blur" (defArgs s__law_first_blur) (defBody s__law_first_blur) (defScope s__law_first_blur) [] [] (a__law_first_blur K) fd := T.says.d.def_ 61
theorem Txt.c__law_first_blur (T : Txt w K mg) : Cal K mg "_law_first_blur" (a__law_first_blur K) := ⟨T.g__law_first_blur, let ⟨_, F⟩ := T.f__law_first_blur; F.kp⟩
abbrev a__law_met_steps (K : PySem.W.Frag) : Addr := He.ga K "_law_met_steps"
theorem Txt.f__law_met_steps (T : Txt w K mg) : ∃ fd, FunD K "_law_met_steps" "_law_met_steps" (defArgs s__law_met_steps) (defBody s__law_met_steps) (defScope s__law_met_steps) [] [] (a__law_met_steps K) fd := T.says.d.def_ 62
theorem Txt.c__law_met_steps (T : Txt w K mg) : Cal K mg "_law_met_steps" (a__law_met_steps K) := ⟨T.g__law_met_steps, let ⟨_, F⟩ := T.f__law_met_steps; F.kp⟩
abbrev a__law_world (K : PySem.W.Frag) : Addr := He.ga K "_law_world"
theorem Txt.f__law_world (T : Txt w K mg) : ∃ fd, FunD K "_law_world" "_law_world" (defArgs s__law_world) (defBody s__law_world) (defScope s__law_world) [] [] (a__law_world K) fd := T.says.d.def_ 63
theorem Txt.c__law_world (T : Txt w K mg) : Cal K mg "_law_world" (a__law_world K) := ⟨T.g__law_world, let ⟨_, F⟩ := T.f__law_world; F.kp⟩
abbrev a__law_start (K : PySem.W.Frag) : Addr := He.ga K "_law_start"
theorem Txt.f__law_start (T : Txt w K mg) : ∃ fd, FunD K "_law_start" "_law_start" (defArgs s__law_start) (defBody s__law_start) (defScope s__law_start) [] [] (a__law_start K) fd := T.says.d.def_ 64
theorem Txt.c__law_start (T : Txt w K mg) : Cal K mg "_law_start" (a__law_start K) := ⟨T.g__law_start, let ⟨_, F⟩ := T.f__law_start; F.kp⟩
abbrev a__law_refined (K : PySem.W.Frag) : Addr := He.ga K "_law_refined"
theorem Txt.f__law_refined (T : Txt w K mg) : ∃ fd, FunD K "_law_refined" "_law_refined" (defArgs s__law_refined) (defBody s__law_refined) (defScope s__law_refined) [] [] (a__law_refined K) fd := T.says.d.def_ 65
theorem Txt.c__law_refined (T : Txt w K mg) : Cal K mg "_law_refined" (a__law_refined K) := ⟨T.g__law_refined, let ⟨_, F⟩ := T.f__law_refined; F.kp⟩
abbrev a__law_steered (K : PySem.W.Frag) : Addr := He.ga K "_law_steered"
theorem Txt.f__law_steered (T : Txt w K mg) : ∃ fd, FunD K "_law_steered" "_law_steered" (defArgs s__law_steered) (defBody s__law_steered) (defScope s__law_steered) [] [] (a__law_steered K) fd := T.says.d.def_ 66
theorem Txt.c__law_steered (T : Txt w K mg) : Cal K mg "_law_steered" (a__law_steered K) := ⟨T.g__law_steered, let ⟨_, F⟩ := T.f__law_steered; F.kp⟩
abbrev a__law_make (K : PySem.W.Frag) : Addr := He.ga K "_law_make"
theorem Txt.f__law_make (T : Txt w K mg) : ∃ fd, FunD K "_law_make" "_law_make" (defArgs s__law_make) (defBody s__law_make) (defScope s__law_make) [] [] (a__law_make K) fd := T.says.d.def_ 67
theorem Txt.c__law_make (T : Txt w K mg) : Cal K mg "_law_make" (a__law_make K) := ⟨T.g__law_make, let ⟨_, F⟩ := T.f__law_make; F.kp⟩
abbrev a__law_no_program (K : PySem.W.Frag) : Addr := He.ga K "_law_no_program"
theorem Txt.f__law_no_program (T : Txt w K mg) : ∃ fd, FunD K "_law_no_program" "_law_no_program" (defArgs s__law_no_program) (defBody s__law_no_program) (defScope s__law_no_program) [] [] (a__law_no_program K) fd := T.says.d.def_ 68
theorem Txt.c__law_no_program (T : Txt w K mg) : Cal K mg "_law_no_program" (a__law_no_program K) := ⟨T.g__law_no_program, let ⟨_, F⟩ := T.f__law_no_program; F.kp⟩
abbrev a__law_no_lot (K : PySem.W.Frag) : Addr := He.ga K "_law_no_lot"
theorem Txt.f__law_no_lot (T : Txt w K mg) : ∃ fd, FunD K "_law_no_lot" "_law_no_lot" (defArgs s__law_no_lot) (defBody s__law_no_lot) (defScope s__law_no_lot) [] [] (a__law_no_lot K) fd := T.says.d.def_ 69
theorem Txt.c__law_no_lot (T : Txt w K mg) : Cal K mg "_law_no_lot" (a__law_no_lot K) := ⟨T.g__law_no_lot, let ⟨_, F⟩ := T.f__law_no_lot; F.kp⟩
abbrev a__law_ask (K : PySem.W.Frag) : Addr := He.ga K "_law_ask"
theorem Txt.f__law_ask (T : Txt w K mg) : ∃ fd, FunD K "_law_ask" "_law_ask" (defArgs s__law_ask) (defBody s__law_ask) (defScope s__law_ask) [] [] (a__law_ask K) fd := T.says.d.def_ 70
theorem Txt.c__law_ask (T : Txt w K mg) : Cal K mg "_law_ask" (a__law_ask K) := ⟨T.g__law_ask, let ⟨_, F⟩ := T.f__law_ask; F.kp⟩
abbrev a__law_told (K : PySem.W.Frag) : Addr := He.ga K "_law_told"
theorem Txt.f__law_told (T : Txt w K mg) : ∃ fd, FunD K "_law_told" "_law_told" (defArgs s__law_told) (defBody s__law_told) (defScope s__law_told) [] [] (a__law_told K) fd := T.says.d.def_ 71
theorem Txt.c__law_told (T : Txt w K mg) : Cal K mg "_law_told" (a__law_told K) := ⟨T.g__law_told, let ⟨_, F⟩ := T.f__law_told; F.kp⟩
abbrev a__law_least (K : PySem.W.Frag) : Addr := He.ga K "_law_least"
theorem Txt.f__law_least (T : Txt w K mg) : ∃ fd, FunD K "_law_least" "_law_least" (defArgs s__law_least) (defBody s__law_least) (defScope s__law_least) [] [] (a__law_least K) fd := T.says.d.def_ 72
theorem Txt.c__law_least (T : Txt w K mg) : Cal K mg "_law_least" (a__law_least K) := ⟨T.g__law_least, let ⟨_, F⟩ := T.f__law_least; F.kp⟩
abbrev a__law_answer_good (K : PySem.W.Frag) : Addr := He.ga K "_law_answer_good"
theorem Txt.f__law_answer_good (T : Txt w K mg) : ∃ fd, FunD K "_law_answer_good" "_law_answer_good" (defArgs s__law_answer_good) (defBody s__law_answer_good) (defScope s__law_answer_good) [] [] (a__law_answer_good K) fd := T.says.d.def_ 73
theorem Txt.c__law_answer_good (T : Txt w K mg) : Cal K mg "_law_answer_good" (a__law_answer_good K) := ⟨T.g__law_answer_good, let ⟨_, F⟩ := T.f__law_answer_good; F.kp⟩
abbrev a__law_due (K : PySem.W.Frag) : Addr := He.ga K "_law_due"
theorem Txt.f__law_due (T : Txt w K mg) : ∃ fd, FunD K "_law_due" "_law_due" (defArgs s__law_due) (defBody s__law_due) (defScope s__law_due) [] [] (a__law_due K) fd := T.says.d.def_ 74
theorem Txt.c__law_due (T : Txt w K mg) : Cal K mg "_law_due" (a__law_due K) := ⟨T.g__law_due, let ⟨_, F⟩ := T.f__law_due; F.kp⟩
abbrev a_law (K : PySem.W.Frag) : Addr := He.ga K "law"
theorem Txt.f_law (T : Txt w K mg) : ∃ fd, FunD K "law" "law" (defArgs s_law) (defBody s_law) (defScope s_law) [] [] (a_law K) fd := T.says.d.def_ 75
theorem Txt.c_law (T : Txt w K mg) : Cal K mg "law" (a_law K) := ⟨T.g_law, let ⟨_, F⟩ := T.f_law; F.kp⟩
end
/-! the names of each def -/
abbrev N_BadProgram_init : List Str := ["self", "what"]
abbrev P_BadProgram_init : List Str := ["self", "what"]
theorem sc_BadProgram_init : FnScope N_BadProgram_init P_BadProgram_init (defScope s_BadProgram_init) := ⟨rfl, rfl, rfl, by decide +kernel, rfl, by decide +kernel, by decide +kernel⟩
abbrev N_is_sequence : List Str := ["thing"]
abbrev P_is_sequence : List Str := ["thing"]
theorem sc_is_sequence : FnScope N_is_sequence P_is_sequence (defScope s_is_sequence) := ⟨rfl, rfl, rfl, by decide +kernel, rfl, by decide +kernel, by decide +kernel⟩
abbrev N_is_whole : List Str := ["thing", "low", "high"]
abbrev P_is_whole : List Str := ["thing", "low", "high"]
theorem sc_is_whole : FnScope N_is_whole P_is_whole (defScope s_is_whole) := ⟨rfl, rfl, rfl, by decide +kernel, rfl, by decide +kernel, by decide +kernel⟩
abbrev N_check_stands : List Str := ["v"]
abbrev P_check_stands : List Str := ["v"]
theorem sc_check_stands : FnScope N_check_stands P_check_stands (defScope s_check_stands) := ⟨rfl, rfl, rfl, by decide +kernel, rfl, by decide +kernel, by decide +kernel⟩
abbrev N_all_stands : List Str := ["v"]
abbrev P_all_stands : List Str := ["v"]
theorem sc_all_stands : FnScope N_all_stands P_all_stands (defScope s_all_stands) := ⟨rfl, rfl, rfl, by decide +kernel, rfl, by decide +kernel, by decide +kernel⟩
abbrev N_check_lot : List Str := ["v", "lot"]
abbrev P_check_lot : List Str := ["v", "lot"]
theorem sc_check_lot : FnScope N_check_lot P_check_lot (defScope s_check_lot) := ⟨rfl, rfl, rfl, by decide +kernel, rfl, by decide +kernel, by decide +kernel⟩
abbrev N_is_within : List Str := ["one", "other"]
abbrev P_is_within : List Str := ["one", "other"]
theorem sc_is_within : FnScope N_is_within P_is_within (defScope s_is_within) := ⟨rfl, rfl, rfl, by decide +kernel, rfl, by decide +kernel, by decide +kernel⟩
abbrev N_has_shape : List Str := ["thing", "word"]
abbrev P_has_shape : List Str := ["thing"]
theorem sc_has_shape : FnScope N_has_shape P_has_shape (defScope s_has_shape) := ⟨rfl, rfl, rfl, by decide +kernel, rfl, by decide +kernel, by decide +kernel⟩
abbrev N_inner_programs : List Str := ["program"]
abbrev P_inner_programs : List Str := ["program"]
theorem sc_inner_programs : FnScope N_inner_programs P_inner_programs (defScope s_inner_programs) := ⟨rfl, rfl, rfl, by decide +kernel, rfl, by decide +kernel, by decide +kernel⟩
abbrev N_check_node : List Str := ["steps", "node", "deep", "agains", "had", "met", "below", "inner"]
abbrev P_check_node : List Str := ["steps", "node", "deep", "agains", "had"]
theorem sc_check_node : FnScope N_check_node P_check_node (defScope s_check_node) := ⟨rfl, rfl, rfl, by decide +kernel, rfl, by decide +kernel, by decide +kernel⟩
abbrev N_check_program : List Str := ["steps", "program"]
abbrev P_check_program : List Str := ["steps", "program"]
theorem sc_check_program : FnScope N_check_program P_check_program (defScope s_check_program) := ⟨rfl, rfl, rfl, by decide +kernel, rfl, by decide +kernel, by decide +kernel⟩
abbrev N_check_row : List Str := ["stands", "row", "place", "lot"]
abbrev P_check_row : List Str := ["stands", "row"]
theorem sc_check_row : FnScope N_check_row P_check_row (defScope s_check_row) := ⟨rfl, rfl, rfl, by decide +kernel, rfl, by decide +kernel, by decide +kernel⟩
abbrev N_next_lot : List Str := ["row", "lot", "found", "stand", "reached"]
abbrev P_next_lot : List Str := ["row", "lot"]
theorem sc_next_lot : FnScope N_next_lot P_next_lot (defScope s_next_lot) := ⟨rfl, rfl, rfl, by decide +kernel, rfl, by decide +kernel, by decide +kernel⟩
abbrev N_Met_init : List Str := ["self", "path", "name", "lot"]
abbrev P_Met_init : List Str := ["self", "path", "name", "lot"]
theorem sc_Met_init : FnScope N_Met_init P_Met_init (defScope s_Met_init) := ⟨rfl, rfl, rfl, by decide +kernel, rfl, by decide +kernel, by decide +kernel⟩
abbrev N_end_of : List Str := ["steps", "program", "lot", "word", "reached", "grown"]
abbrev P_end_of : List Str := ["steps", "program", "lot"]
theorem sc_end_of : FnScope N_end_of P_end_of (defScope s_end_of) := ⟨rfl, rfl, rfl, by decide +kernel, rfl, by decide +kernel, by decide +kernel⟩
abbrev N_put_met : List Str := ["steps", "program", "lot", "path", "met", "word", "middle", "left", "reached", "number", "grown"]
abbrev P_put_met : List Str := ["steps", "program", "lot", "path", "met"]
theorem sc_put_met : FnScope N_put_met P_put_met (defScope s_put_met) := ⟨rfl, rfl, rfl, by decide +kernel, rfl, by decide +kernel, by decide +kernel⟩
abbrev N_true_end : List Str := ["steps", "program", "lot"]
abbrev P_true_end : List Str := ["steps", "program", "lot"]
theorem sc_true_end : FnScope N_true_end P_true_end (defScope s_true_end) := ⟨rfl, rfl, rfl, by decide +kernel, rfl, by decide +kernel, by decide +kernel⟩
abbrev N_true_run : List Str := ["steps", "program", "lot", "met", "one"]
abbrev P_true_run : List Str := ["steps", "program", "lot"]
abbrev N_check_alike : List Str := ["one", "other"]
abbrev P_check_alike : List Str := ["one", "other"]
theorem sc_check_alike : FnScope N_check_alike P_check_alike (defScope s_check_alike) := ⟨rfl, rfl, rfl, by decide +kernel, rfl, by decide +kernel, by decide +kernel⟩
abbrev N_rounded_alike : List Str := ["glasses", "row", "lot", "ahead"]
abbrev P_rounded_alike : List Str := ["glasses", "row", "lot"]
theorem sc_rounded_alike : FnScope N_rounded_alike P_rounded_alike (defScope s_rounded_alike) := ⟨rfl, rfl, rfl, by decide +kernel, rfl, by decide +kernel, by decide +kernel⟩
abbrev N_sharp_at : List Str := ["glasses", "row", "lot"]
abbrev P_sharp_at : List Str := ["glasses", "row", "lot"]
theorem sc_sharp_at : FnScope N_sharp_at P_sharp_at (defScope s_sharp_at) := ⟨rfl, rfl, rfl, by decide +kernel, rfl, by decide +kernel, by decide +kernel⟩
abbrev N_put_line : List Str := ["lines", "line"]
abbrev P_put_line : List Str := ["lines", "line"]
theorem sc_put_line : FnScope N_put_line P_put_line (defScope s_put_line) := ⟨rfl, rfl, rfl, by decide +kernel, rfl, by decide +kernel, by decide +kernel⟩
abbrev N_put_rounds : List Str := ["steps", "program", "lot", "lines", "numbers", "reached", "going", "number", "grown", "top"]
abbrev P_put_rounds : List Str := ["steps", "program", "lot", "lines"]
theorem sc_put_rounds : FnScope N_put_rounds P_put_rounds (defScope s_put_rounds) := ⟨rfl, rfl, rfl, by decide +kernel, rfl, by decide +kernel, by decide +kernel⟩
abbrev N_put_lines : List Str := ["steps", "program", "lot", "lines", "word", "one", "other", "end"]
abbrev P_put_lines : List Str := ["steps", "program", "lot", "lines"]
theorem sc_put_lines : FnScope N_put_lines P_put_lines (defScope s_put_lines) := ⟨rfl, rfl, rfl, by decide +kernel, rfl, by decide +kernel, by decide +kernel⟩
abbrev N_true_lines : List Str := ["steps", "program", "lot", "lines"]
abbrev P_true_lines : List Str := ["steps", "program", "lot"]
theorem sc_true_lines : FnScope N_true_lines P_true_lines (defScope s_true_lines) := ⟨rfl, rfl, rfl, by decide +kernel, rfl, by decide +kernel, by decide +kernel⟩
abbrev N_runs_sharp : List Str := ["glasses", "steps", "program", "lot", "met"]
abbrev P_runs_sharp : List Str := ["glasses", "steps", "program", "lot"]
theorem sc_runs_sharp : FnScope N_runs_sharp P_runs_sharp (defScope s_runs_sharp) := ⟨rfl, rfl, rfl, by decide +kernel, rfl, by decide +kernel, by decide +kernel⟩
abbrev N_find_lines : List Str := ["glasses", "steps", "program", "lot"]
abbrev P_find_lines : List Str := ["glasses", "steps", "program", "lot"]
theorem sc_find_lines : FnScope N_find_lines P_find_lines (defScope s_find_lines) := ⟨rfl, rfl, rfl, by decide +kernel, rfl, by decide +kernel, by decide +kernel⟩
abbrev N_has_line : List Str := ["glasses", "steps", "program", "lot", "end", "reached"]
abbrev P_has_line : List Str := ["glasses", "steps", "program", "lot", "end"]
theorem sc_has_line : FnScope N_has_line P_has_line (defScope s_has_line) := ⟨rfl, rfl, rfl, by decide +kernel, rfl, by decide +kernel, by decide +kernel⟩
abbrev N_least_ends : List Str := ["glasses", "steps", "program", "lot", "reached", "found", "end", "one"]
abbrev P_least_ends : List Str := ["glasses", "steps", "program", "lot"]
theorem sc_least_ends : FnScope N_least_ends P_least_ends (defScope s_least_ends) := ⟨rfl, rfl, rfl, by decide +kernel, rfl, by decide +kernel, by decide +kernel⟩
abbrev N_least_starts : List Str := ["glasses", "steps", "program", "lot", "found", "start", "one"]
abbrev P_least_starts : List Str := ["glasses", "steps", "program", "lot"]
theorem sc_least_starts : FnScope N_least_starts P_least_starts (defScope s_least_starts) := ⟨rfl, rfl, rfl, by decide +kernel, rfl, by decide +kernel, by decide +kernel⟩
abbrev N_starts_with_line : List Str := ["glasses", "steps", "program", "lot"]
abbrev P_starts_with_line : List Str := ["glasses", "steps", "program"]
theorem sc_starts_with_line : FnScope N_starts_with_line P_starts_with_line (defScope s_starts_with_line) := ⟨rfl, rfl, rfl, by decide +kernel, rfl, by decide +kernel, by decide +kernel⟩
abbrev N_first_unmet : List Str := ["members", "i", "j"]
abbrev P_first_unmet : List Str := ["members"]
theorem sc_first_unmet : FnScope N_first_unmet P_first_unmet (defScope s_first_unmet) := ⟨rfl, rfl, rfl, by decide +kernel, rfl, by decide +kernel, by decide +kernel⟩
abbrev N_Glasses_init : List Str := ["self", "stands", "members", "every", "last", "place", "member", "unmet"]
abbrev P_Glasses_init : List Str := ["self", "stands", "members"]
theorem sc_Glasses_init : FnScope N_Glasses_init P_Glasses_init (defScope s_Glasses_init) := ⟨rfl, rfl, rfl, by decide +kernel, rfl, by decide +kernel, by decide +kernel⟩
abbrev N_Glasses_rounded : List Str := ["self", "lot", "found", "member"]
abbrev P_Glasses_rounded : List Str := ["self", "lot"]
theorem sc_Glasses_rounded : FnScope N_Glasses_rounded P_Glasses_rounded (defScope s_Glasses_rounded) := ⟨rfl, rfl, rfl, by decide +kernel, rfl, by decide +kernel, by decide +kernel⟩
abbrev N_is_name : List Str := ["thing", "sign"]
abbrev P_is_name : List Str := ["thing"]
theorem sc_is_name : FnScope N_is_name P_is_name (defScope s_is_name) := ⟨rfl, rfl, rfl, by decide +kernel, rfl, by decide +kernel, by decide +kernel⟩
abbrev N_entry_fault : List Str := ["stands", "entry", "had", "lot"]
abbrev P_entry_fault : List Str := ["stands", "entry", "had"]
theorem sc_entry_fault : FnScope N_entry_fault P_entry_fault (defScope s_entry_fault) := ⟨rfl, rfl, rfl, by decide +kernel, rfl, by decide +kernel, by decide +kernel⟩
abbrev N_Steps_init : List Str := ["self", "stands", "entries", "names", "place", "entry", "word"]
abbrev P_Steps_init : List Str := ["self", "stands", "entries"]
theorem sc_Steps_init : FnScope N_Steps_init P_Steps_init (defScope s_Steps_init) := ⟨rfl, rfl, rfl, by decide +kernel, rfl, by decide +kernel, by decide +kernel⟩
abbrev N_Steps_contains : List Str := ["self", "name"]
abbrev P_Steps_contains : List Str := ["self", "name"]
theorem sc_Steps_contains : FnScope N_Steps_contains P_Steps_contains (defScope s_Steps_contains) := ⟨rfl, rfl, rfl, by decide +kernel, rfl, by decide +kernel, by decide +kernel⟩
abbrev N_Steps_row_of : List Str := ["self", "name", "known", "row"]
abbrev P_Steps_row_of : List Str := ["self", "name"]
theorem sc_Steps_row_of : FnScope N_Steps_row_of P_Steps_row_of (defScope s_Steps_row_of) := ⟨rfl, rfl, rfl, by decide +kernel, rfl, by decide +kernel, by decide +kernel⟩
abbrev N__law_hand : List Str := ["_law_script", "_law_total", "_law_cells", "_law_cell"]
abbrev P__law_hand : List Str := ["_law_script"]
theorem sc__law_hand : FnScope N__law_hand P__law_hand (defScope s__law_hand) := ⟨rfl, rfl, rfl, by decide +kernel, rfl, by decide +kernel, by decide +kernel⟩
abbrev N__law_mixed : List Str := ["_law_number", "_law_turn", "_law_once", "_law_twice"]
abbrev P__law_mixed : List Str := ["_law_number", "_law_turn"]
theorem sc__law_mixed : FnScope N__law_mixed P__law_mixed (defScope s__law_mixed) := ⟨rfl, rfl, rfl, by decide +kernel, rfl, by decide +kernel, by decide +kernel⟩
abbrev N__law_take : List Str := ["_law_hand_here", "_law_many", "_law_cell", "_law_rest"]
abbrev P__law_take : List Str := ["_law_hand_here", "_law_many"]
theorem sc__law_take : FnScope N__law_take P__law_take (defScope s__law_take) := ⟨rfl, rfl, rfl, by decide +kernel, rfl, by decide +kernel, by decide +kernel⟩
abbrev N__law_stands : List Str := ["_law_hand_here"]
abbrev P__law_stands : List Str := ["_law_hand_here"]
theorem sc__law_stands : FnScope N__law_stands P__law_stands (defScope s__law_stands) := ⟨rfl, rfl, rfl, by decide +kernel, rfl, by decide +kernel, by decide +kernel⟩
abbrev N__law_every : List Str := ["_law_v"]
abbrev P__law_every : List Str := ["_law_v"]
theorem sc__law_every : FnScope N__law_every P__law_every (defScope s__law_every) := ⟨rfl, rfl, rfl, by decide +kernel, rfl, by decide +kernel, by decide +kernel⟩
abbrev N__law_within : List Str := ["_law_one", "_law_other"]
abbrev P__law_within : List Str := ["_law_one", "_law_other"]
theorem sc__law_within : FnScope N__law_within P__law_within (defScope s__law_within) := ⟨rfl, rfl, rfl, by decide +kernel, rfl, by decide +kernel, by decide +kernel⟩
abbrev N__law_met : List Str := ["_law_v", "_law_lots", "_law_found", "_law_lot", "_law_one"]
abbrev P__law_met : List Str := ["_law_v", "_law_lots"]
theorem sc__law_met : FnScope N__law_met P__law_met (defScope s__law_met) := ⟨rfl, rfl, rfl, by decide +kernel, rfl, by decide +kernel, by decide +kernel⟩
abbrev N__law_members : List Str := ["_law_hand_here", "_law_v", "_law_way", "_law_lots", "_law_k"]
abbrev P__law_members : List Str := ["_law_hand_here", "_law_v"]
theorem sc__law_members : FnScope N__law_members P__law_members (defScope s__law_members) := ⟨rfl, rfl, rfl, by decide +kernel, rfl, by decide +kernel, by decide +kernel⟩
abbrev N__law_rounded : List Str := ["_law_members_here", "_law_lot", "_law_found", "_law_member"]
abbrev P__law_rounded : List Str := ["_law_members_here", "_law_lot"]
theorem sc__law_rounded : FnScope N__law_rounded P__law_rounded (defScope s__law_rounded) := ⟨rfl, rfl, rfl, by decide +kernel, rfl, by decide +kernel, by decide +kernel⟩
abbrev N__law_single : List Str := ["_law_hand_here", "_law_v", "_law_s"]
abbrev P__law_single : List Str := ["_law_hand_here", "_law_v"]
theorem sc__law_single : FnScope N__law_single P__law_single (defScope s__law_single) := ⟨rfl, rfl, rfl, by decide +kernel, rfl, by decide +kernel, by decide +kernel⟩
abbrev N__law_drawn_row : List Str := ["_law_hand_here", "_law_v", "_law_way", "_law_kept", "_law_one", "_law_s"]
abbrev P__law_drawn_row : List Str := ["_law_hand_here", "_law_v"]
theorem sc__law_drawn_row : FnScope N__law_drawn_row P__law_drawn_row (defScope s__law_drawn_row) := ⟨rfl, rfl, rfl, by decide +kernel, rfl, by decide +kernel, by decide +kernel⟩
abbrev N__law_next : List Str := ["_law_row", "_law_lot", "_law_found", "_law_s"]
abbrev P__law_next : List Str := ["_law_row", "_law_lot"]
theorem sc__law_next : FnScope N__law_next P__law_next (defScope s__law_next) := ⟨rfl, rfl, rfl, by decide +kernel, rfl, by decide +kernel, by decide +kernel⟩
abbrev N__law_back : List Str := ["_law_row", "_law_lot", "_law_found", "_law_s"]
abbrev P__law_back : List Str := ["_law_row", "_law_lot"]
theorem sc__law_back : FnScope N__law_back P__law_back (defScope s__law_back) := ⟨rfl, rfl, rfl, by decide +kernel, rfl, by decide +kernel, by decide +kernel⟩
abbrev N__law_names : List Str := ["_law_hand_here", "_law_many", "_law_pool", "_law_names_here", "_law_k", "_law_at"]
abbrev P__law_names : List Str := ["_law_hand_here", "_law_many"]
theorem sc__law_names : FnScope N__law_names P__law_names (defScope s__law_names) := ⟨rfl, rfl, rfl, by decide +kernel, rfl, by decide +kernel, by decide +kernel⟩
abbrev N__law_rows_of : List Str := ["_law_entries", "_law_rows", "_law_name", "_law_row"]
abbrev P__law_rows_of : List Str := ["_law_entries"]
theorem sc__law_rows_of : FnScope N__law_rows_of P__law_rows_of (defScope s__law_rows_of) := ⟨rfl, rfl, rfl, by decide +kernel, rfl, by decide +kernel, by decide +kernel⟩
abbrev N__law_program : List Str := ["_law_hand_here", "_law_names_here", "_law_leaves", "_law_deep", "_law_way", "_law_left", "_law_word", "_law_one"]
abbrev P__law_program : List Str := ["_law_hand_here", "_law_names_here", "_law_leaves", "_law_deep"]
theorem sc__law_program : FnScope N__law_program P__law_program (defScope s__law_program) := ⟨rfl, rfl, rfl, by decide +kernel, rfl, by decide +kernel, by decide +kernel⟩
abbrev N__law_run : List Str := ["_law_rows", "_law_program_here", "_law_lot", "_law_path", "_law_out", "_law_word", "_law_middle", "_law_one", "_law_k", "_law_grown"]
abbrev P__law_run : List Str := ["_law_rows", "_law_program_here", "_law_lot", "_law_path", "_law_out"]
theorem sc__law_run : FnScope N__law_run P__law_run (defScope s__law_run) := ⟨rfl, rfl, rfl, by decide +kernel, rfl, by decide +kernel, by decide +kernel⟩
abbrev N__law_true : List Str := ["_law_rows", "_law_program_here", "_law_lot"]
abbrev P__law_true : List Str := ["_law_rows", "_law_program_here", "_law_lot"]
theorem sc__law_true : FnScope N__law_true P__law_true (defScope s__law_true) := ⟨rfl, rfl, rfl, by decide +kernel, rfl, by decide +kernel, by decide +kernel⟩
abbrev N__law_list : List Str := ["_law_hand_here", "_law_items"]
abbrev P__law_list : List Str := ["_law_hand_here", "_law_items"]
theorem sc__law_list : FnScope N__law_list P__law_list (defScope s__law_list) := ⟨rfl, rfl, rfl, by decide +kernel, rfl, by decide +kernel, by decide +kernel⟩
abbrev N__law_int : List Str := ["_law_thing"]
abbrev P__law_int : List Str := ["_law_thing"]
theorem sc__law_int : FnScope N__law_int P__law_int (defScope s__law_int) := ⟨rfl, rfl, rfl, by decide +kernel, rfl, by decide +kernel, by decide +kernel⟩
abbrev N__law_exact : List Str := ["_law_told_here", "_law_due_here", "_law_k"]
abbrev P__law_exact : List Str := ["_law_told_here", "_law_due_here"]
theorem sc__law_exact : FnScope N__law_exact P__law_exact (defScope s__law_exact) := ⟨rfl, rfl, rfl, by decide +kernel, rfl, by decide +kernel, by decide +kernel⟩
abbrev N__law_sharp : List Str := ["_law_members_here", "_law_row", "_law_lot", "_law_wide"]
abbrev P__law_sharp : List Str := ["_law_members_here", "_law_row", "_law_lot"]
theorem sc__law_sharp : FnScope N__law_sharp P__law_sharp (defScope s__law_sharp) := ⟨rfl, rfl, rfl, by decide +kernel, rfl, by decide +kernel, by decide +kernel⟩
abbrev N__law_first_blur : List Str := ["_law_members_here", "_law_rows", "_law_run_here", "_law_k"]
abbrev P__law_first_blur : List Str := ["_law_members_here", "_law_rows", "_law_run_here"]
theorem sc__law_first_blur : FnScope N__law_first_blur P__law_first_blur (defScope s__law_first_blur) := ⟨rfl, rfl, rfl, by decide +kernel, rfl, by decide +kernel, by decide +kernel⟩
abbrev N__law_met_steps : List Str := ["_law_rows", "_law_program_here", "_law_lot", "_law_run_here"]
abbrev P__law_met_steps : List Str := ["_law_rows", "_law_program_here", "_law_lot"]
theorem sc__law_met_steps : FnScope N__law_met_steps P__law_met_steps (defScope s__law_met_steps) := ⟨rfl, rfl, rfl, by decide +kernel, rfl, by decide +kernel, by decide +kernel⟩
abbrev N__law_world : List Str := ["_law_hand_here", "_law_most", "_law_v", "_law_members_here", "_law_names_here", "_law_entries", "_law_name", "_law_k"]
abbrev P__law_world : List Str := ["_law_hand_here", "_law_most"]
theorem sc__law_world : FnScope N__law_world P__law_world (defScope s__law_world) := ⟨rfl, rfl, rfl, by decide +kernel, rfl, by decide +kernel, by decide +kernel⟩
abbrev N__law_start : List Str := ["_law_hand_here", "_law_v"]
abbrev P__law_start : List Str := ["_law_hand_here", "_law_v"]
theorem sc__law_start : FnScope N__law_start P__law_start (defScope s__law_start) := ⟨rfl, rfl, rfl, by decide +kernel, rfl, by decide +kernel, by decide +kernel⟩
abbrev N__law_refined : List Str := ["_law_v", "_law_members_here", "_law_entries", "_law_found", "_law_turn", "_law_more", "_law_name", "_law_row", "_law_grown", "_law_lot"]
abbrev P__law_refined : List Str := ["_law_v", "_law_members_here", "_law_entries"]
theorem sc__law_refined : FnScope N__law_refined P__law_refined (defScope s__law_refined) := ⟨rfl, rfl, rfl, by decide +kernel, rfl, by decide +kernel, by decide +kernel⟩
abbrev N__law_steered : List Str := ["_law_hand_here", "_law_world_here", "_law_program_here", "_law_lot", "_law_way", "_law_lots", "_law_met_here"]
abbrev P__law_steered : List Str := ["_law_hand_here", "_law_world_here", "_law_program_here", "_law_lot"]
theorem sc__law_steered : FnScope N__law_steered P__law_steered (defScope s__law_steered) := ⟨rfl, rfl, rfl, by decide +kernel, rfl, by decide +kernel, by decide +kernel⟩
abbrev N__law_make : List Str := ["_law_hand_here", "_law_world_here", "_law_members_here", "_law_rows", "_law_name", "_law_row"]
abbrev P__law_make : List Str := ["_law_hand_here", "_law_world_here"]
theorem sc__law_make : FnScope N__law_make P__law_make (defScope s__law_make) := ⟨rfl, rfl, rfl, by decide +kernel, rfl, by decide +kernel, by decide +kernel⟩
abbrev N__law_no_program : List Str := ["_law_hand_here", "_law_name", "_law_long", "_law_k", "_law_deep", "_law_loops"]
abbrev P__law_no_program : List Str := ["_law_hand_here", "_law_name"]
theorem sc__law_no_program : FnScope N__law_no_program P__law_no_program (defScope s__law_no_program) := ⟨rfl, rfl, rfl, by decide +kernel, rfl, by decide +kernel, by decide +kernel⟩
abbrev N__law_no_lot : List Str := ["_law_hand_here", "_law_v"]
abbrev P__law_no_lot : List Str := ["_law_hand_here", "_law_v"]
theorem sc__law_no_lot : FnScope N__law_no_lot P__law_no_lot (defScope s__law_no_lot) := ⟨rfl, rfl, rfl, by decide +kernel, rfl, by decide +kernel, by decide +kernel⟩
abbrev N__law_ask : List Str := ["_law_number", "_law_made", "_law_program_here", "_law_lot", "_law_end"]
abbrev P__law_ask : List Str := ["_law_number", "_law_made", "_law_program_here", "_law_lot", "_law_end"]
theorem sc__law_ask : FnScope N__law_ask P__law_ask (defScope s__law_ask) := ⟨rfl, rfl, rfl, by decide +kernel, rfl, by decide +kernel, by decide +kernel⟩
abbrev N__law_told : List Str := ["_law_number", "_law_made", "_law_program_here", "_law_lot", "_law_end", "_law_told_here", "e", "_law_words"]
abbrev P__law_told : List Str := ["_law_number", "_law_made", "_law_program_here", "_law_lot", "_law_end"]
theorem sc__law_told : FnScope N__law_told P__law_told (defScope s__law_told) := ⟨rfl, rfl, rfl, by decide +kernel, rfl, by decide +kernel, by decide +kernel⟩
abbrev N__law_least : List Str := ["_law_lots", "_law_lot", "_law_one"]
abbrev P__law_least : List Str := ["_law_lots"]
theorem sc__law_least : FnScope N__law_least P__law_least (defScope s__law_least) := ⟨rfl, rfl, rfl, by decide +kernel, rfl, by decide +kernel, by decide +kernel⟩
abbrev N__law_answer_good : List Str := ["_law_number", "_law_world_here", "_law_program_here", "_law_lot", "_law_end", "_law_free", "_law_told_here", "_law_members_here", "_law_reached", "_law_ends", "_law_one"]
abbrev P__law_answer_good : List Str := ["_law_number", "_law_world_here", "_law_program_here", "_law_lot", "_law_end", "_law_free", "_law_told_here"]
theorem sc__law_answer_good : FnScope N__law_answer_good P__law_answer_good (defScope s__law_answer_good) := ⟨rfl, rfl, rfl, by decide +kernel, rfl, by decide +kernel, by decide +kernel⟩
abbrev N__law_due : List Str := ["_law_number", "_law_faults"]
abbrev P__law_due : List Str := ["_law_number", "_law_faults"]
theorem sc__law_due : FnScope N__law_due P__law_due (defScope s__law_due) := ⟨rfl, rfl, rfl, by decide +kernel, rfl, by decide +kernel, by decide +kernel⟩
abbrev N_law : List Str := ["_law_script", "_law_hand_here", "_law_world_here", "_law_v", "_law_names_here", "_law_good", "_law_first", "_law_made", "_law_other", "_law_lot", "_law_free", "_law_number", "_law_turn", "_law_faults", "_law_program_here", "_law_end", "_law_used", "_law_words", "_law_told_here", "_law_due_here", "_law_entry", "_law_name"]
abbrev P_law : List Str := ["_law_script"]
theorem sc_law : FnScope N_law P_law (defScope s_law) := ⟨rfl, rfl, rfl, by decide +kernel, rfl, by decide +kernel, by decide +kernel⟩
end TA
end
/-! TaOwn1 -/
section
set_option Elab.async false
set_option linter.all false
set_option maxRecDepth 100000
set_option maxHeartbeats 4000000
/-! enumerate(t), t a tuple. -/
namespace TAE
open PySem
open PySem.Sem (wp)
theorem new_of {v : Value} {ob : Obj} {OK : Heap → Prop} (B : Begins v ob OK) :
    Meets (Builtin.«enumerate.__new__» ⟨[.type "enumerate", v], []⟩) (fun _ R st => OK st.heap ∧
      R (.ok (.ret (.ref (st.heap.push ob).objs.size))) { st with heap := (st.heap.push ob).push { cls := .type "enumerate", data := .fields #[.none, .bool false, .ref st.heap.objs.size, rawInt 0, .none, .none] } }) :=
  .of_wp fun P w A R st hh => by
    obtain ⟨hp, gs, dr, n, os⟩ := st
    obtain ⟨ok, z⟩ := hh
    have sb := sub_enumerate
    have it : ∀ {A' : Around} {E : Value → Shared → Prop} {Q : Value → Shared → Prop}, Q (.ref hp.objs.size) ⟨hp.push ob, gs, dr, n, os⟩ → wpAny (model P w) A' (pyIter v) Q E ⟨hp, gs, dr, n, os⟩ :=
      fun k => B.iter P w _ _ ⟨hp, gs, dr, n, os⟩ _ ok k
    wp_walk using it
    refine wpAny_stack_any fun fr => wpAny_pure ?_
    split
    · rename_i kk _ _ _ _ _
      cases (kk == Value.type "enumerate")
      · wp_walk using it
        exact ⟨_, rfl, z⟩
      · wp_walk using it
        exact ⟨_, rfl, z⟩
    · wp_walk using it
      exact ⟨_, rfl, z⟩
section
variable {P : Program} {w : World} {A : Around} {E : Value → Shared → Prop} {st : Shared}
theorem made {v : Value} {ob : Obj} {OK : Heap → Prop} {Q : Value → Shared → Prop} (B : Begins v ob OK) (ok : OK st.heap)
    (k : ∀ h', IsEnum h' (st.heap.objs.size + 1) st.heap.objs.size 0 .none → h'.get? st.heap.objs.size = some ob → h'.objs.size = st.heap.objs.size + 2 →
      (∀ a u, st.heap.get? a = some u → h'.get? a = some u) → Q (.ref (st.heap.objs.size + 1)) { st with heap := h' }) :
    wpAny (model P w) A (call (.type "enumerate") [v]) Q E st := by
  refine callType_new F.called_enumerate (by decide) (F.typeCall_enumerate_1 _) (F.newCall_enumerate_1 _) (fun x => F.args_object_init_2 x _) F.entry_enumerate_new (new_of B) ⟨ok, ?_⟩
  have sz : (st.heap.push ob).objs.size = st.heap.objs.size + 1 := Heap.size_push ..
  show _ ∧ _
  rw [sz]
  have en : IsEnum ((st.heap.push ob).push { cls := .type "enumerate", data := .fields #[.none, .bool false, .ref st.heap.objs.size, rawInt 0, .none, .none] }) (st.heap.objs.size + 1) st.heap.objs.size 0 .none := by
    have q := Heap.get?_push_size (st.heap.push ob) (o := { cls := .type "enumerate", data := .fields #[.none, .bool false, .ref st.heap.objs.size, rawInt 0, .none, .none] }) rfl
    rw [sz] at q
    exact q
  exact ⟨⟨_, en, rfl⟩, k _ en (Heap.get?_push_of_some _ (Heap.get?_push_size _ B.free)) (by rw [Heap.size_push, sz]) fun a u z => Heap.get?_push_of_some _ (Heap.get?_push_of_some _ z)⟩
end
end TAE
namespace L2
open PySem PySem.Spec PyProof.Rows
/-- the tuple at a, each item in a new pair -/
def IteT (K : PySem.W.Frag) (a : Addr) : It :=
  ⟨fun i H => ∃ (xs : List V) (x : V), SqT K H a xs ∧ xs[i]? = some x, fun i H v H1 => ∃ T x, v = .ref T ∧ H T = none ∧ H1 = upd H T (.tup [.int (i : Nat), x]) ∧ ∀ xs, SqT K H a xs → xs[i]? = some x, fun i H => ∃ xs : List V, SqT K H a xs ∧ xs.length ≤ i⟩
theorem turn_enumT {P : Program} {w : World} {K : PySem.W.Frag} {els : List Expr} {kk : Nat} {tp : Pos} (a e it : Addr) (hai : a ≠ it) (hae : a ≠ e) :
    Turn P w K (.Tuple els kk tp) (IteT K a) [e, it] e (fun i h => (∃ old, IsEnum h e it ((i : Nat) : Int) old) ∧ h.IsTupleIter it a i ∧ e ≠ it) where
  mem := by simp
  obj := fun i h st b hb => by
    obtain ⟨⟨old, he⟩, ⟨o, ho, hc, hd⟩, _⟩ := st
    rcases (show b = e ∨ b = it by simpa using hb) with z | z
    · subst z; exact ⟨_, he, fun v q => nomatch q⟩
    · subst z; exact ⟨o, ho, fun v q => by rw [hd] at q; cases q⟩
  keep := fun i h h' ⟨⟨old, he⟩, hi, hne⟩ k => ⟨⟨old, k e (by simp) _ he⟩, hi.at fun o q => k it (by simp) o q, hne⟩
  item := by
    intro X hP hw hK hc i pins s σ H E I hf st hg
    subst hP hw hK
    obtain ⟨⟨old, he⟩, hit, hne⟩ := st
    obtain ⟨xs, x, hq, hx⟩ := hg
    obtain ⟨its, rv, p, hz⟩ := I.tuple hq
    obtain ⟨u, hu, ru⟩ := rv.get hx
    have el : e < s.heap.objs.size := Heap.lt_size he
    have il : it < s.heap.objs.size := by obtain ⟨_, q, _⟩ := hit; exact Heap.lt_size q
    have D := PySem.Draws.tuple (prog := X.prog) (w := X.w) (A := X.A.in1) (I.ok.hd hc) it a hai its.toArray
    have lt : i < its.toArray.size := by
      have q := (List.getElem?_eq_some_iff.mp hu).1
      simpa using q
    refine wpAny_pyNext_enum_itemD D he ⟨hit, (show s.heap.IsTuple a its.toArray from p)⟩ lt hne (by simp [hne, Ne.symm hae]) fun y h' tk hy ho hst hT hsz hk => ?_
    have ey : y = u := by
      have q : its[i]? = some y := by simpa using hy
      rw [hu] at q
      exact (Option.some.inj q).symm
    subst ey
    refine ⟨_, rfl, wpAny_letOwnedTupleGo_enum (s := { s with heap := h', toks := tk + 1 }) ho fun h'' he' sb => ?_⟩
    have hT2 : h''.get? s.heap.objs.size = some { cls := .type "tuple", data := .seq #[.int i tk, y] } := (sb.2 _ (Nat.ne_of_gt el)).trans hT
    have new : ObjOk X.prog X.w (upd H s.heap.objs.size (.tup [.int (i : Nat), x])) h'' s.heap.objs.size (.tup [.int (i : Nat), x]) :=
      ⟨by show 2 ≤ sizeLine; decide, [.int i tk, y], .cons ⟨_, rfl⟩ (.cons ru .nil), ⟨_, hT2, rfl, _, rfl⟩⟩
    have J : Inv X pins σ (upd H s.heap.objs.size (.tup [.int (i : Nat), x])) { s with heap := h'', toks := tk + 1 } :=
      I.turnedNew (ch := [e, it]) (fun b ob hb q => (sb.2 b (fun z => hb (by simp [z]))).trans (hk b ob (fun z => hb (by simp [z])) (fun z => hb (by simp [z])) q)) hf (Nat.le_refl _) new
    refine ⟨.ref s.heap.objs.size, _, J, rfl, ⟨_, x, rfl, I.hok.fresh (Nat.le_refl _), rfl, fun ys hy => by rw [I.tuple_inj hy hq]; exact hx⟩, ⟨⟨y, ?_⟩, hst.1.at fun o q => (sb.2 it (Ne.symm hne)).trans q, hne⟩, fun b hb => ?_⟩
    · have e1 : ((i + 1 : Nat) : Int) = (i : Int) + 1 := by omega
      rw [e1]; exact he'
    · have lb : b < s.heap.objs.size := by
        rcases (show b = e ∨ b = it by simpa using hb) with z | z
        · subst z; exact el
        · subst z; exact il
      rw [upd_ne (Nat.ne_of_lt lb)]
      exact (hf b hb).1
  done := by
    intro X hP hw hK hc i pins s σ H E I hf st hg
    subst hP hw hK
    obtain ⟨⟨old, he⟩, hit, hne⟩ := st
    obtain ⟨xs, hq, hx⟩ := hg
    obtain ⟨its, rv, p, hz⟩ := I.tuple hq
    obtain ⟨f0, f1, f2, f3, f4, f5⟩ := hf it (by simp)
    have hl := rv.length
    unfold pyNext
    have ty : s.TypeIs (.ref e) "enumerate" := ⟨_, he, rfl⟩
    refine wpAny_bind (wpAny_attempt (wpAny_callSpecial?_slot (name := Str.ofString "__next__") ty F.slot_enumerate_next
      (wpAny_call_entry F.slot_enumerate_next ty F.entry_enumerate_next ?_ (F.args_enumerate_next_1 _))))
    show wpAny _ _ (field (.ref e) 2 >>= _) _ _ _
    refine wpAny_bind (wpAny_field he rfl (x := .ref it) rfl ?_)
    refine wpAny_bind (wpAny_nextOf_tuple_end (I.ok.hd hc) hit (show s.heap.IsTuple a its.toArray from p) (by simp; omega) fun h' x hb ⟨o, ho, ho2⟩ => ?_)
    refine wpAny_bind (wpAny_isInstance (T := "StopIteration") (b := true) ⟨o, ho, ho2⟩ isSubtype_stop ?_)
    exact wpAny_pure ⟨rfl, I.turned (t' := s.toks) (fun b o hb' q => hb b o hb' q) f0 f1 f3 f4 f5⟩
  self := fun A i s Q E ⟨⟨_, he⟩, _⟩ h => wpAny_pyIter_enum he h
def iEnumA (K : PySem.W.Frag) (ta : TA) : TI := fun σ H R => ta σ H fun vs H1 => ∃ a xs, vs = [.ref a] ∧ ((SqL K H1 a xs ∧ R (Ite K a) H1) ∨ (SqT K H1 a xs ∧ R (IteT K a) H1))
theorem pi_enumA {X : Cx} {e : Expr} {ta : TA} {p pos tp : Pos} {els : List Expr} {kk : Nat} (hg : Gl X "enumerate") (hm : X.mg "enumerate" = none) (ha : PA X [e] ta) (hs : starEach [e] X.env = [(false, eval e X.env)] := by rfl) :
    PI X (.Tuple els kk tp) (.Call (.Name "enumerate" p) [e] [] pos) (iEnumA X.K ta) := by
  refine ⟨fun pins s σ H R I h => ?_⟩
  refine Call_ (ld_blt I hg hm boot_enumerate (PyProof.Rows.callWith_type1 (thn (ha.run pos pins s σ H _ I h) fun us s1 ⟨vs, H1, I1, r1, q1⟩ => ?_) hs rfl))
  obtain ⟨a, xs, ex, q1⟩ := q1
  subst ex
  have old : ∀ b ∈ [s1.heap.objs.size + 1, s1.heap.objs.size], FpOk X pins H1 b := fun b hb => by
    have le : s1.heap.objs.size ≤ b := by
      rcases (show b = s1.heap.objs.size + 1 ∨ b = s1.heap.objs.size by simpa using hb) with z | z
      · rw [z]; exact Nat.le_succ _
      · rw [z]; exact Nat.le_refl _
    exact I1.fpOk le (I1.hok.fresh le)
  cases r1 with
  | cons r rr =>
    cases rr
    cases r
    rcases q1 with ⟨hq, q⟩ | ⟨hq, q⟩
    · obtain ⟨its, rv, pl, hz⟩ := I1.list hq
      refine call_enumerate_list pl.isList fun h' he hit sz hk => wpAny_pyIter_enum he ?_
      exact ⟨s1.heap.objs.size + 1, [s1.heap.objs.size + 1, s1.heap.objs.size], _, _, H1, rfl, I1.kept (t' := s1.toks) hk, turn_enum a _ _, ⟨⟨.none, he⟩, hit, Nat.succ_ne_self _⟩, old, q⟩
    · obtain ⟨its, rv, pl, hz⟩ := I1.tuple hq
      have lt : a < s1.heap.objs.size := pl.lt
      refine TAE.made (begins_tuple a its.toArray) pl fun h' he hit sz hk => wpAny_pyIter_enum he ?_
      exact ⟨s1.heap.objs.size + 1, [s1.heap.objs.size + 1, s1.heap.objs.size], _, _, H1, rfl, I1.kept (t' := s1.toks) hk, turn_enumT a _ _ (Nat.ne_of_lt lt) (Nat.ne_of_lt (Nat.lt_succ_of_lt lt)), ⟨⟨.none, he⟩, ⟨_, hit, rfl, rfl⟩, Nat.succ_ne_self _⟩, old, q⟩
end L2
end
/-! TaOwn2 -/
section
set_option Elab.async false
set_option linter.all false
set_option maxRecDepth 100000
set_option maxHeartbeats 4000000
/-! Rules of my own: list(d.keys()), the own «in», raise X(), isinstance of a caught error, sums of rules. -/
namespace L2
open PySem PySem.Spec PyProof.Rows
section
variable {X : Cx} {pos : Pos}
/-! ### sums -/
def rOr (r q : R2) : R2 := fun x y H Q => r x y H Q ∨ q x y H Q
def rAddA (K : PySem.W.Frag) : R2 := rOr (rI0 fun i j => .int (i + j)) (rOr rCat (rCatA K))
theorem op_addA : OpR X (binaryOp .Add) (rAddA X.K) := OpR.or op_add (OpR.or op_cat op_catA)
def rEqA (K : PySem.W.Frag) : R2 := rOr rEq (rEqD K)
def rNeA (K : PySem.W.Frag) : R2 := rOr rNe (rNeD K)
theorem op_eqA (hu : X.A.units + 64 < cLine) : OpR X (compareOp .Eq) (rEqA X.K) := OpR.or op_eq (op_eqD hu)
theorem op_neA (hu : X.A.units + 64 < cLine) : OpR X (compareOp .NotEq) (rNeA X.K) := OpR.or op_ne (op_neD hu)
def rIxA (K : PySem.W.Frag) : R2 := rOr (rIxL K) (rIxT K)
theorem ix_A : IxR X (rIxA X.K) := IxR.or ix_list ix_tup
theorem sl_A : SlR X (fun x lo hi H Q => rSlL X.K x lo hi H Q ∨ rSlA X.K x lo hi H Q) := by
  intro pins s σ H x v vl vu lo hi sl Q I rx hs pl pu h
  rcases h with h | h
  · exact sl_list pins s σ H x v vl vu lo hi sl Q I rx hs pl pu h
  · exact sl_tupA pins s σ H x v vl vu lo hi sl Q I rx hs pl pu h
/-! ### constants of the module -/
theorem pe_ci {x : Str} {n : Int} {p : Pos} (h : ∃ t, X.mg x = some (.int n t)) (hg : Gl X x := by rfl) (hd : (x == ("__debug__" : Str)) = false := by decide) : PE X (.Name x p) (tC (.int n)) := by
  obtain ⟨t, h⟩ := h
  exact pe_glob hg h ⟨t, rfl⟩ hd
theorem pe_cs {x z : Str} {p : Pos} (h : ∃ t, X.mg x = some (.str z t)) (hg : Gl X x := by rfl) (hd : (x == ("__debug__" : Str)) = false := by decide) : PE X (.Name x p) (tC (.str z)) := by
  obtain ⟨t, h⟩ := h
  exact pe_glob hg h ⟨t, rfl⟩ hd
theorem pe_cr {x : Str} {a : Addr} {p : Pos} (h : X.mg x = some (.ref a)) (hg : Gl X x := by rfl) (hd : (x == ("__debug__" : Str)) = false := by decide) : PE X (.Name x p) (tC (.ref a)) := pe_glob hg h rfl hd
theorem pe_ct {x : Str} {n : String} {p : Pos} (hm : X.mg x = none) (hv : bootBuiltins x = some (.type n)) (hg : Gl X x := by rfl) (hn : x ≠ "__name__" := by decide) (hd : (x == ("__debug__" : Str)) = false := by decide) : PE X (.Name x p) (tC (.ty n)) := pe_bltn hg hm hv rfl hn hd
/-! ### a written dict's item -/
def rItemK (K : PySem.W.Frag) (d : Addr) : R2 := fun x y H Q => ∃ (z : Str) (u0 : Value) (v0 : V), x = .ref d ∧ y = .str z ∧ PySem.W.nsIn K d z = some (some u0) ∧ RelV v0 u0 ∧ Q v0 H
theorem pe_ixK {a b : Expr} {ta tb : TE} {d : Addr} {es : Array DictEntry} {n : Nat} (D : KDict X.K X.w d es n) (ha : PE X a ta) (hb : PE X b tb) (hs : NoSl b) : PE X (.Subscript a b pos) (tOp (rItemK X.K d) ta tb) := by
  refine ⟨fun pins s σ H Q I h => ?_⟩
  refine subD_of PySem.F.slot_dict_getitem.lookup hs (thn (ha.run pins s σ H _ I h) fun u s1 ⟨x, H1, I1, rx, q1⟩ => thn (hb.run pins s1 σ H1 _ I1 q1) fun v s2 ⟨y, H2, I2, ry, q2⟩ => ?_)
  obtain ⟨z, u0, v0, ex, ey, e, r, q⟩ := id q2
  subst ex
  obtain rfl : u = Value.ref d := rx
  exact ⟨kd_type D I2, op_item_kd D pins s2 σ H2 (V.ref d) y (Value.ref d) v Q I2 rfl ry q2⟩
/-! ### list(d.keys()) -/
def tKeysL (td : TE) : TE := fun σ H Q => td σ H fun x H1 => ∃ d kvs, x = .ref d ∧ H1 d = some (.dK kvs) ∧ ∀ q, H1 q = none → Q (.ref q) (upd H1 q (.lst (kvs.map fun kv => kV kv.1)))
theorem keys_value {e : Expr} {td : TE} {ap cp : Pos} {pins : List (Addr × Obj)} {s : Shared} {σ : St} {H : Hp} {R : VK} {Qv : Value → Shared → Prop} (he : PE X e td) (I : Inv X pins σ H s) (h : td σ H R)
    (k : ∀ x H1, R x H1 → ∃ d kvs, x = .ref d ∧ H1 d = some (.dK kvs) ∧ ∀ (s1 : Shared) (r : Addr) (vs : List (Key × Value)) (ep : Nat), Inv X pins σ H1 s1 → KV kvs vs → PySem.W.KdlKeysView s1.heap r d → s1.heap.DictAt (mixKind X.prog X.w) d vs ep → kvs.length ≤ sizeLine → Qv (.ref r) s1)
    (hb : attributeBase e "keys" X.env (eval e X.env) = eval e X.env := by rfl) (hl : (ap.endLine == cp.line) = true := by rfl) : wpAny (model X.prog X.w) X.A (eval (.Call (.Attribute e "keys" ap) [] [] cp) X.env) Qv X.xe s := by
  refine wpAny_Call_method (T := "dict") (id := "dict.keys") hb rfl hl F.plainAttrs_dict F.slot_dict_keys F.type_dict_keys (thn (he.run pins s σ H _ I h) fun u s1 ⟨x, H1, I1, rx, q0⟩ => ?_)
  obtain ⟨d, kvs, ex, hd, q⟩ := k x H1 q0
  subst ex
  obtain rfl : u = Value.ref d := rx
  obtain ⟨z, lo, vs, rk, dd⟩ := (show ObjOk X.prog X.w H1 s1.heap d (.dK kvs) from I1.hok d _ hd)
  have J : Inv X pins σ H1 { s1 with heap := s1.heap.push { cls := .type "dict_keys", data := .fields #[.ref d] } } := I1.kept (t' := s1.toks) fun b ob y => Heap.get?_push_of_some _ y
  obtain ⟨ep, da⟩ := dd.dictAt
  have fin := q { s1 with heap := s1.heap.push { cls := .type "dict_keys", data := .fields #[.ref d] } } s1.heap.objs.size vs ep J rk ⟨_, Heap.get?_push_size _ rfl, rfl, rfl⟩ (da.push _) z
  refine ⟨dd.typeIs, dd.mapOf.noDict, ?_⟩
  show wpAny _ _ (callWith cp (.builtin "dict.keys") [.ref d] [] []) _ X.xe s1
  exact method_meetsIn F.slot_dict_keys F.entry_dict_keys rfl (PySem.evalArgs_none ⟨rfl, dd.typeIs, F.args_dict_keys_1 _, _, PySem.W.kdl_meets_keys (mixKind X.prog X.w) d lo, ⟨vs, dd⟩, fin⟩)
theorem pe_keysL {e : Expr} {td : TE} {p ap cp : Pos} (hc : X.calm = true) (he : PE X e td) (hm : X.mg "list" = none) (hg : Gl X "list" := by rfl)
    (na : starEach [.Call (.Attribute e "keys" ap) [] [] cp] X.env = (false, eval (.Call (.Attribute e "keys" ap) [] [] cp) X.env) :: starEach [] X.env := by rfl)
    (hb : attributeBase e "keys" X.env (eval e X.env) = eval e X.env := by rfl) (hl : (ap.endLine == cp.line) = true := by rfl) : PE X (.Call (.Name "list" p) [.Call (.Attribute e "keys" ap) [] [] cp] [] pos) (tKeysL td) := by
  refine ⟨fun pins s σ H Q I h => ?_⟩
  refine Call_ (ld_blt I hg hm boot_list (PyProof.Rows.callWith_type1 (args_cons (keys_value he I h (fun x H1 q => ?_) hb hl) na) na))
  obtain ⟨d, kvs, ex, hd, q⟩ := q
  refine ⟨d, kvs, ex, hd, fun s1 r vs ep J rk vw da z => args_nil ?_⟩
  have hl : kvs.length = vs.length := Paired.length rk
  refine PySem.W.kdl_call (PySem.W.kdl_keys (knd := mixKind X.prog X.w) (kvs := vs) (ep := ep)) (J.ok.hd hc) ⟨vw, da⟩ (by rw [← hl]; exact z) fun h' tk acc c kp eS ia => ?_
  refine ⟨.ref s1.heap.objs.size, upd H1 s1.heap.objs.size (.lst (kvs.map fun kv => kV kv.1)), J.laid kp (Nat.le_refl _) (show ObjOk X.prog X.w _ _ _ (.lst (kvs.map fun kv => kV kv.1)) from ⟨?_, acc.toList, c, ?_, ?_⟩), rfl, q _ (J.hok.fresh (Nat.le_refl _))⟩
  · rw [List.length_map]; exact z
  · have el : acc.toList.length = acc.size := by simp
    refine vals_of_at (by rw [List.length_map, el, ia.1, hl]) fun j x w h1 h2 => ?_
    obtain ⟨k, y, e1, e2⟩ := ia.2 j w (by rw [← Array.getElem?_toList]; exact h2)
    have e3 : (kvs.map (·.1))[j]? = some k := by rw [KV.keys rk, List.getElem?_map, e1] <;> rfl
    have e4 : (kvs.map fun kv => kV kv.1)[j]? = some (kV k) := by
      rw [show (kvs.map fun kv => kV kv.1) = (kvs.map (·.1)).map kV by rw [List.map_map] <;> rfl, List.getElem?_map, e3] <;> rfl
    rw [e4] at h1
    cases h1
    exact keyIs_rel e2
  · rw [Array.toArray_toList]; exact eS
/-! ### «in» by an own __contains__ -/
def rOwnIn (C : Addr) (m : Str) (sp : Sp) (E : XK) (neg : Bool) : R2 := fun x y H Q => ∃ (a dx : Addr) (fs : List (Str × V)), y = .ref a ∧ H a = some (.ins C dx fs) ∧ fs.lookup m = none ∧ sp [y, x] H (fun v H1 => ∃ b, v = .bl b ∧ Q (.bl (if neg then !b else b)) H1) E
theorem op_notInOwn {C f : Addr} {k : Nat} {fd : FuncData} {ps : List Str} {sp : Sp} {E : XK} (c : Cls X.K C) (hm : Meth X.K C "__contains__" f) (F : FnOk X.prog X.w X.K X.mg X.base (L2.CX X.prog X.w) k f fd ps sp) (hr : Room k X.A) (hb : Binds X.K fd ps []) (hx : Passes (L2.CX X.prog X.w) X E) :
    OpR X (compareOp .NotIn) (rOwnIn C "__contains__" sp E true) := by
  intro pins s σ H x y v u Q I rx ry h
  obtain ⟨a, dx, fs, ey, ea, l, q⟩ := h
  subst ey
  obtain rfl : u = Value.ref a := ry
  obtain ⟨mA, O, _, _, _, _⟩ := ins_get I.hok ea
  obtain ⟨od, J, _⟩ := O.look
  obtain ⟨m, fr⟩ := I.fr
  refine PySem.W.notIn_K fr I.ok.mod.kin J hm.at_ hm.fn (thn (run_fn (us := [.ref a, v]) (vs := [.ref a, x]) F hr hb .nil hx I (.cons rfl (.cons rx .nil)) q) fun r s1 ⟨b, H1, I1, rb, b', eb, q1⟩ => ?_)
  subst eb
  obtain rfl : r = Value.bool b' := rb
  exact wpAny_truthy_bool ⟨.bl (!b'), H1, I1, rfl, q1⟩
/-! ### raise X() -/
theorem pmk_own0 {C : Addr} {bmB : List Value} {B newId initId : String} {x : Str} {p : Pos} (F : ExcBaseFacts B newId initId bmB) (q : PySem.W.excIn X.K C bmB newId = true) (gC : X.mg x = some (.ref C))
    (kC : PySem.W.keepIn X.K (.ref C) = true) (r : Raises X (.ref C)) (hg : Gl X x) (hdb : (x == ("__debug__" : Str)) = false := by decide) : PMk X (.Call (.Name x p) [] [] pos) (fun _ H Q => Q (.ref C) none H) := by
  intro pins s σ H Q I h
  refine wpAny_Call_Name_kw (ld_glob I hg gC ?_ hdb)
  refine PySem.W.callWith_K0 I.kIn kC ?_
  show wpAny _ _ (call (.ref C) []) _ _ _
  obtain ⟨bm, N, nm, qn, bs, hdct, sn, sub, ab, col, dd, k0, k1, k2, k3, k5, mN, hC, hN, hni, T⟩ := exc_obj I.kIn q
  refine wpAny_call_exc_subT F T hC hN hni (fun h' e hm => ?_) (Nat.zero_le _)
  exact mk_of I hm r h (I.hok.gone hm.new)
/-! ### isinstance of a caught error -/
theorem call_isEd {a D : Addr} {d : Option Addr} {oe : Obj} {pn : List (Addr × Obj)} (C : ExcC X.K D) (hz : Zc (.ref D) d oe) (hf : ∃ vs, oe.data = .fields vs) :
    CallR (X.suite a ((a, oe) :: pn)) (.builtin "isinstance") (fun xs H Q => (∀ dx, d = some dx → ∃ fs, H dx = some (.xd fs)) ∧ rIsE X.K D a xs H Q) := by
  intro pins s σ H xs us Q I r h
  obtain ⟨hd, c, cv, b, rfl, hcv, e, q⟩ := h
  cases r with
  | cons rx rr =>
    cases rr with
    | cons rt rr =>
      cases rr
      cases rx
      have ec := hcv _ rt
      subst ec
      obtain ⟨hget, _⟩ := I.pin (a, oe) (List.mem_append.mpr (.inl List.mem_cons_self))
      obtain ⟨vs, hv⟩ := hf
      obtain ⟨od, J⟩ : ∃ od, PySem.W.InstAt s.heap a oe D od := by
        obtain ⟨oc, odx, oda, osl⟩ := oe
        obtain ⟨h1, h2⟩ := hz
        dsimp only at h1 h2 hv
        subst h1 h2 hv
        cases odx with
        | none => exact ⟨none, hget, rfl, rfl, trivial⟩
        | some dx =>
          obtain ⟨fs, hx⟩ := hd dx rfl
          obtain ⟨mA, ⟨o, _, _, ho, _⟩, _⟩ := (show ObjOk X.prog X.w H s.heap dx (.xd fs) from I.hok dx _ hx)
          exact ⟨some o, hget, rfl, rfl, ho⟩
      have hcl : (PySem.W.clsIn X.K D).isSome = true := by
        obtain ⟨cd, hc, _⟩ := PySem.W.any_some C.hd
        rw [hc]; rfl
      exact PySem.W.kia_one (PySem.W.kitx_exc hcl C.hg C.hk C.hs C.ha C.hn C.ht C.hm) I.kIn J e (fun z => nomatch z) fun tk => ⟨.bl b, H, I.kept (t' := tk) fun _ _ z => z, rfl, q⟩
end
end L2
end
/-! TaOwn3 -/
section
set_option Elab.async false
set_option linter.all false
set_option autoImplicit false
set_option maxRecDepth 100000
set_option maxHeartbeats 4000000
/-! Readings: names of the built-ins, sums of walks, values that only grow the heap. -/
namespace TA
open PySem PySem.Spec PyProof.Rows L2 Evl
theorem bt_isinstance : bootBuiltins "isinstance" = some (.builtin "isinstance") := by decide +kernel
theorem bt_bool : bootBuiltins "bool" = some (.type "bool") := by decide +kernel
theorem bt_int : bootBuiltins "int" = some (.type "int") := by decide +kernel
theorem bt_list : bootBuiltins "list" = some (.type "list") := by decide +kernel
theorem bt_tuple : bootBuiltins "tuple" = some (.type "tuple") := by decide +kernel
theorem bt_str : bootBuiltins "str" = some (.type "str") := by decide +kernel
theorem bt_len : bootBuiltins "len" = some (.builtin "len") := by decide +kernel
theorem bt_any : bootBuiltins "any" = some (.builtin "any") := by decide +kernel
theorem bt_sorted : bootBuiltins "sorted" = some (.builtin "sorted") := by decide +kernel
theorem bt_abs : bootBuiltins "abs" = some (.builtin "abs") := by decide +kernel
theorem bt_min : bootBuiltins "min" = some (.builtin "min") := by decide +kernel
section
variable {X : Cx} {tg l : Expr}
theorem pi_2w {wi wj : TI} (a : PI X tg l wi) (b : PI X tg l wj) : PI X tg l (fun σ H R => wi σ H R ∨ wj σ H R) := ⟨fun pins s σ H R I h => h.elim (a.run pins s σ H R I) (b.run pins s σ H R I)⟩
/-- a list or a tuple that is walked -/
def iA (K : PySem.W.Frag) (tl : TE) : TI := fun σ H R => iList K tl σ H R ∨ iTup K tl σ H R
theorem pi_A {tl : TE} (h : PE X l tl) : PI X tg l (iA X.K tl) := pi_2w (pi_list h) (pi_tup h)
end
section
variable {w : World} {K : PySem.W.Frag} {mg : Str → Option Value}
theorem Txt.moA (T : Txt w K mg) : He.valsB K (He.ga K "SIZES") sizesKV = true ∧ oexB K (He.ga K "BadProgram") = true ∧ PySem.W.findIn K (.ref (He.ga K "BadProgram")) "what" = some none ∧
    PySem.W.findIn K (.ref (He.ga K "BadProgram")) "__init__" = some (some (.ref (He.ma K (He.ga K "BadProgram") "__init__"))) ∧ PySem.W.typeIn K (.ref (He.ma K (He.ga K "BadProgram") "__init__")) = some (.type "function") ∧
    excCB K (He.ga K "BadProgram") = true ∧ excCB K (He.ga K "BadLot") = true ∧ excCB K (He.ga K "UnlikeStands") = true ∧ kitB3 K "BadProgram" = true ∧ kitB3 K "BadLot" = true ∧ kitB3 K "UnlikeStands" = true := by
  have h := T.mo
  unfold more at h
  simp only [Bool.and_eq_true, decide_eq_true_eq] at h
  obtain ⟨a, b, c, d, e, f, g, i, j, k, l⟩ := h
  exact ⟨a, b, He.eqO_ok c, He.eqO_ok d, e, f, g, i, j, k, l⟩
theorem Txt.oC (T : Txt w K mg) : OexC K (He.ga K "BadProgram") := by
  have h := T.moA.2.1
  unfold oexB at h
  simp only [Bool.and_eq_true, decide_eq_true_eq] at h
  obtain ⟨h1, h2, h3, h4, h5⟩ := h
  refine ⟨?_, He.eqO_ok h2, h3, h4, h5⟩
  split at h1
  · rename_i od cd sl ho
    split at h1
    · rename_i D bm s0 s1 s2 s3 n s5 hm hs
      simp only [Bool.and_eq_true, beq_iff_eq, Bool.not_eq_true'] at h1
      obtain ⟨e1, e2, e3, e4, e5⟩ := h1
      obtain ⟨cn, cb, cm, cns, cq, chd, csn, csub, cab, ccol, chdel⟩ := cd
      dsimp only at hm e3 e4
      subst e1 e2 e3 e4 hm
      have es : sl = #[s0, s1, s2, s3, some (.builtin "ValueError.__new__"), s5] := by
        have q := congrArg List.toArray hs
        simpa using q
      subst es
      exact ⟨_, _, _, _, _, _, _, _, _, _, _, _, _, _, _, ho, e5⟩
    · cases h1
  · cases h1
theorem Txt.oI (T : Txt w K mg) : PySem.W.findIn K (.ref (He.ga K "BadProgram")) "__init__" = some (some (.ref (a_BadProgram_init K))) := T.moA.2.2.2.1
theorem Txt.oT (T : Txt w K mg) : PySem.W.typeIn K (.ref (a_BadProgram_init K)) = some (.type "function") := T.moA.2.2.2.2.1
theorem Txt.oW (T : Txt w K mg) : PySem.W.findIn K (.ref (He.ga K "BadProgram")) "what" = some none := T.moA.2.2.1
theorem excC_of {D : Addr} (h : excCB K D = true) : ExcC K D := by
  unfold excCB at h
  simp only [Bool.and_eq_true, decide_eq_true_eq] at h
  obtain ⟨a, b, c, d, e, f, g, i⟩ := h
  exact ⟨He.eqO_ok a, He.eqO_ok b, c, d, He.eqO_ok e, He.eqO_ok f, g, i⟩
theorem Txt.exC_BadProgram (T : Txt w K mg) : ExcC K (He.ga K "BadProgram") := excC_of T.moA.2.2.2.2.2.1
theorem Txt.exC_BadLot (T : Txt w K mg) : ExcC K (He.ga K "BadLot") := excC_of T.moA.2.2.2.2.2.2.1
theorem Txt.exC_UnlikeStands (T : Txt w K mg) : ExcC K (He.ga K "UnlikeStands") := excC_of T.moA.2.2.2.2.2.2.2.1
theorem kit3 {D : Str} {x : String} (h : kitB3 K D = true) (hx : x ∈ (["UnlikeStands", "BadProgram", "BadLot"] : List String)) : PySem.W.kitOne K (.ref (He.ga K D)) (.ref (He.ga K x)) = some (decide (D = x)) := by
  unfold kitB3 at h
  exact of_decide_eq_true (List.all_eq_true.mp h x hx)
theorem Txt.kt_BadProgram (T : Txt w K mg) : kitB3 K "BadProgram" = true := T.moA.2.2.2.2.2.2.2.2.1
theorem Txt.kt_BadLot (T : Txt w K mg) : kitB3 K "BadLot" = true := T.moA.2.2.2.2.2.2.2.2.2.1
theorem Txt.kt_UnlikeStands (T : Txt w K mg) : kitB3 K "UnlikeStands" = true := T.moA.2.2.2.2.2.2.2.2.2.2
theorem Txt.kd (T : Txt w K mg) : ∃ es n, KDict K w (He.ga K "SIZES") es n := T.says.tab 0
theorem Txt.sz (T : Txt w K mg) {q : Str × He.Dv} (hq : q ∈ sizesKV) : ∃ u, PySem.W.nsIn K (He.ga K "SIZES") q.1 = some (some u) ∧ RelV (q.2.v K) u := He.valsB_ok T.moA.1 hq
end
/-- a lot, a number of a thing -/
abbrev vn (n : Nat) : V := .int (n : Int)
section
variable {K : PySem.W.Frag} {σ : L2.St} {H H' : Hp} {ta tb te tx : TE} {t u : TT} {x y z v : V} {r : R2} {i j : Int} {a b n m : Nat}
theorem rv_or1 {r q : R2} (h : RV r x y H z) : RV (rOr r q) x y H z := fun H1 e Q k => .inl (h H1 e Q k)
theorem rv_or2 {r q : R2} (h : RV q x y H z) : RV (rOr r q) x y H z := fun H1 e Q k => .inr (h H1 e Q k)
/-- ints -/
theorem ev_add (ha : Ev ta σ H (.int i)) (hb : Ev tb σ H (.int j)) : Ev (tOp (rAddA K) ta tb) σ H (.int (i + j)) := ev_op ha hb (rv_or1 rv_I0)
theorem ev_sub (ha : Ev ta σ H (.int i)) (hb : Ev tb σ H (.int j)) : Ev (tOp (rI0 fun i j => .int (i - j)) ta tb) σ H (.int (i - j)) := ev_op ha hb rv_I0
theorem ev_neg (ha : Ev ta σ H (.int i)) : Ev (tUn (rU fun i => .int (-i)) ta) σ H (.int (-i)) := ev_un ha ru_neg
theorem ev_and (ha : Ev ta σ H (vn a)) (hb : Ev tb σ H (vn b)) : Ev (tOp (rI0 fun i j => .int (Builtin.bitAnd i j)) ta tb) σ H (vn (a &&& b)) := ev_is (ev_op ha hb rv_I0) (congrArg V.int (PySem.W.os_band a b))
theorem bor_nat (a b : Nat) : Builtin.bitOr (a : Int) (b : Int) = ((a ||| b : Nat) : Int) := by
  have h := bitOr_nn (x := (a : Int)) (y := (b : Int)) (Int.natCast_nonneg a) (Int.natCast_nonneg b)
  simpa using h
theorem ev_or (ha : Ev ta σ H (vn a)) (hb : Ev tb σ H (vn b)) : Ev (tOp (rI0 fun i j => .int (Builtin.bitOr i j)) ta tb) σ H (vn (a ||| b)) := ev_is (ev_op ha hb rv_I0) (congrArg V.int (bor_nat a b))
theorem ev_shl (ha : Ev ta σ H (vn a)) (hb : Ev tb σ H (vn b)) (h1 : a < 2 ^ 64) (h2 : b ≤ 1000000) : Ev (tOp (rI CPow fun i j => .int (i * 2 ^ j.toNat)) ta tb) σ H (vn (a <<< b)) :=
  ev_is (ev_op ha hb (rv_I ⟨Int.natCast_nonneg b, by omega, by show (a : Int).natAbs < 2 ^ 64; simpa using h1⟩)) (congrArg V.int (by rw [Int.toNat_natCast, Nat.shiftLeft_eq]; push_cast; rfl))
theorem ev_shr (ha : Ev ta σ H (vn a)) (hb : Ev tb σ H (vn b)) : Ev (tOp (rI (fun _ j => 0 ≤ j) fun i j => .int (i / 2 ^ j.toNat)) ta tb) σ H (vn (a >>> b)) :=
  ev_is (ev_op ha hb (rv_I (Int.natCast_nonneg b))) (congrArg V.int (by rw [Int.toNat_natCast, Nat.shiftRight_eq_div_pow]; push_cast; rfl))
theorem ev_mod (ha : Ev ta σ H (.int i)) (hb : Ev tb σ H (.int j)) (h : 0 < j) : Ev (tOp (rI (fun _ j => 0 < j) fun i j => .int (i % j)) ta tb) σ H (.int (i % j)) := ev_op ha hb (rv_I h)
theorem ev_fdiv (ha : Ev ta σ H (.int i)) (hb : Ev tb σ H (.int j)) (h : CDiv i j) : Ev (tOp (rI CDiv fun i j => .int (i / j)) ta tb) σ H (.int (i / j)) := ev_op ha hb (rv_I h)
theorem ev_mul (ha : Ev ta σ H (.int i)) (hb : Ev tb σ H (.int j)) (h : CMul i j) : Ev (tOp (rI CMul fun i j => .int (i * j)) ta tb) σ H (.int (i * j)) := ev_op ha hb (rv_I h)
theorem ev_lt (ha : Ev ta σ H (.int i)) (hb : Ev tb σ H (.int j)) : Ev (tOp (rI0 fun i j => .bl (decide (i < j))) ta tb) σ H (.bl (decide (i < j))) := ev_op ha hb rv_I0
theorem ev_le (ha : Ev ta σ H (.int i)) (hb : Ev tb σ H (.int j)) : Ev (tOp (rI0 fun i j => .bl (decide (i ≤ j))) ta tb) σ H (.bl (decide (i ≤ j))) := ev_op ha hb rv_I0
theorem ev_gt (ha : Ev ta σ H (.int i)) (hb : Ev tb σ H (.int j)) : Ev (tOp (rI0 fun i j => .bl (decide (j < i))) ta tb) σ H (.bl (decide (j < i))) := ev_op ha hb rv_I0
theorem ev_ge (ha : Ev ta σ H (.int i)) (hb : Ev tb σ H (.int j)) : Ev (tOp (rI0 fun i j => .bl (decide (j ≤ i))) ta tb) σ H (.bl (decide (j ≤ i))) := ev_op ha hb rv_I0
/-- == of plain values -/
theorem ev_eq (ha : Ev ta σ H x) (hb : Ev tb σ H y) (h : scal x y = true) : Ev (tOp (rEqA K) ta tb) σ H (.bl (decide (x = y))) := ev_op ha hb (rv_or1 (rv_eq h))
theorem ev_ne (ha : Ev ta σ H x) (hb : Ev tb σ H y) (h : scal x y = true) : Ev (tOp (rNeA K) ta tb) σ H (.bl (!decide (x = y))) := ev_op ha hb (rv_or1 (rv_ne h))
theorem dec_vn : decide (vn a = vn b) = decide (a = b) := by
  by_cases e : a = b
  · subst e; simp
  · have q : ¬ (vn a = vn b) := fun z => e (Int.ofNat.inj (V.int.inj z))
    rw [decide_eq_false q, decide_eq_false e]
theorem ev_eqN (ha : Ev ta σ H (vn a)) (hb : Ev tb σ H (vn b)) : Ev (tOp (rEqA K) ta tb) σ H (.bl (decide (a = b))) := ev_is (ev_eq ha hb rfl) (congrArg V.bl dec_vn)
theorem ev_neN (ha : Ev ta σ H (vn a)) (hb : Ev tb σ H (vn b)) : Ev (tOp (rNeA K) ta tb) σ H (.bl (!decide (a = b))) := ev_is (ev_ne ha hb rfl) (by rw [dec_vn])
theorem ev_eqS {s1 s2 : Str} (ha : Ev ta σ H (.str s1)) (hb : Ev tb σ H (.str s2)) : Ev (tOp (rEqA K) ta tb) σ H (.bl (decide (s1 = s2))) := ev_is (ev_eq ha hb rfl) (by
  by_cases e : s1 = s2
  · subst e; simp
  · rw [decide_eq_false e, decide_eq_false (fun z => e (V.str.inj z))])
theorem ev_isN (ha : Ev ta σ H x) : Ev (tOp L2.rIsN ta (tC .non)) σ H (.bl (decide (x = .non))) := ev_op ha ev_c fun H1 _ Q q => And.intro rfl (q H1 (Ex.refl H1))
theorem ev_notN (ha : Ev ta σ H x) : Ev (tOp L2.rNotN ta (tC .non)) σ H (.bl (!decide (x = .non))) := ev_op ha ev_c fun H1 _ Q q => And.intro rfl (q H1 (Ex.refl H1))
theorem ev_isB {p q : Bool} (ha : Ev ta σ H (.bl p)) (hb : Ev tb σ H (.bl q)) : Ev (tOp rIsB ta tb) σ H (.bl (decide (p = q))) := ev_op ha hb fun H1 _ Q k => ⟨p, q, rfl, rfl, k H1 (Ex.refl H1)⟩
/-- items -/
theorem ev_ixT {p : Addr} {xs : List V} (ha : Ev ta σ H (.ref p)) (hb : Ev tb σ H (.int i)) (hp : H p = some (.tup xs)) (hx : atI xs i = some v) : Ev (tOp (rIxA K) ta tb) σ H v := ev_op ha hb (rv_or2 (rv_ixT (st_of hp) hx))
theorem ev_ixL {p : Addr} {xs : List V} (ha : Ev ta σ H (.ref p)) (hb : Ev tb σ H (.int i)) (hp : H p = some (.lst xs)) (hx : atI xs i = some v) : Ev (tOp (rIxA K) ta tb) σ H v := ev_op ha hb (rv_or1 (rv_ixL (sq_of hp) hx))
/-- fields -/
theorem ev_fld {o C dx : Addr} {fs : List (Str × V)} {f : Str} (ha : Ev ta σ H (.ref o)) (ho : H o = some (.ins C dx fs)) (hc : Cls K C) (hn : NoAttr K C f) (hl : fs.lookup f = some v) : Ev (tFld K ta f) σ H v := fun H1 e Q q =>
  ha H1 e _ fun H2 e2 => ⟨o, C, dx, fs, v, rfl, e2 _ _ (e _ _ ho), hc, hn, hl, q H2 e2⟩
/-- len -/
theorem ev_lenL {p : Addr} {xs : List V} (ha : Ev ta σ H (.ref p)) (hp : H p = some (.lst xs)) : Ev (tCB (fun ws H Q => ∃ p ys, ws = [.ref p] ∧ (SqL K H p ys ∨ SqT K H p ys) ∧ Q (.int ys.length) H) (tCons ta tNil)) σ H (vn xs.length) := fun H1 e Q q =>
  ha H1 e _ fun H2 e2 => ⟨p, xs, rfl, .inl (sq_of (e2 _ _ (e _ _ hp))), q H2 e2⟩
theorem ev_lenT {p : Addr} {xs : List V} (ha : Ev ta σ H (.ref p)) (hp : H p = some (.tup xs)) : Ev (tCB (fun ws H Q => ∃ p ys, ws = [.ref p] ∧ (SqL K H p ys ∨ SqT K H p ys) ∧ Q (.int ys.length) H) (tCons ta tNil)) σ H (vn xs.length) := fun H1 e Q q =>
  ha H1 e _ fun H2 e2 => ⟨p, xs, rfl, .inr (st_of (e2 _ _ (e _ _ hp))), q H2 e2⟩
theorem ev_int (ha : Ev ta σ H (.int i)) : Ev (tCB (fun xs H Q => (∃ i, xs = [.int i] ∧ Q (.int i) H) ∨ ∃ k, xs = [.bl k] ∧ Q (.int (if k then 1 else 0)) H) (tCons ta tNil)) σ H (.int i) := fun H1 e Q q =>
  ha H1 e _ fun H2 e2 => .inl ⟨i, rfl, q H2 e2⟩
/-- what kind of value -/
inductive Kd (H : Hp) : V → String → Prop where
  | non : Kd H .non "NoneType"
  | bl (b : Bool) : Kd H (.bl b) "bool"
  | int (i : Int) : Kd H (.int i) "int"
  | str (s : Str) : Kd H (.str s) "str"
  | lst {a : Addr} {xs : List V} (e : H a = some (.lst xs)) : Kd H (.ref a) "list"
  | tup {a : Addr} {xs : List V} (e : H a = some (.tup xs)) : Kd H (.ref a) "tuple"
theorem Kd.mono {ty : String} (e : Ex H H') (h : Kd H x ty) : Kd H' x ty := by
  cases h with
  | non => exact .non
  | bl b => exact .bl b
  | int i => exact .int i
  | str s => exact .str s
  | lst q => exact .lst (e _ _ q)
  | tup q => exact .tup (e _ _ q)
theorem Kd.ty {ty : String} (h : Kd H x ty) : TyX K H x (.type ty) := by
  cases h with
  | non => exact .base .non
  | bl b => exact .base (.bl b)
  | int i => exact .base (.int i)
  | str s => exact .base (.str s)
  | lst q => exact .base (.lst q)
  | tup q => exact .base (.tup q)
theorem Kd.in6 {ty : String} (h : Kd H x ty) : ty ∈ ["NoneType", "bool", "int", "str", "list", "tuple"] := by
  cases h <;> decide
/-- isinstance of built-in types: bool counts as int -/
def isa (a b : String) : Bool := a == b || (a == "bool" && b == "int")
theorem kit6 (a b : String) (ha : a ∈ ["NoneType", "bool", "int", "str", "list", "tuple"]) (hb : b ∈ ["bool", "int", "str", "list", "tuple"]) : kitB a b = some (isa a b) := by
  have h : (["NoneType", "bool", "int", "str", "list", "tuple"].all fun a => ["bool", "int", "str", "list", "tuple"].all fun b => decide (kitB a b = some (isa a b))) = true := by decide +kernel
  exact of_decide_eq_true (List.all_eq_true.mp (List.all_eq_true.mp h a ha) b hb)
theorem ev_isi {ty n : String} (ha : Ev ta σ H x) (hk : Kd H x ty) (hn : n ∈ ["bool", "int", "str", "list", "tuple"]) : Ev (tCB (rIsi K) (tCons ta (tCons (tC (.ty n)) tNil))) σ H (.bl (isa ty n)) := fun H1 e Q q =>
  ha H1 e _ fun H2 e2 => ⟨x, .ty n, .type ty, .type n, _, rfl, .ty n, (hk.mono (e.trans e2)).ty, kit_ty (kit6 ty n hk.in6 hn), q H2 e2⟩
theorem ev_isLT {ty : String} (ha : Ev ta σ H x) (hk : Kd H x ty) : Ev (tCB (rIsiT K) (tCons ta (tCons (tTup (tCons (tC (.ty "list")) (tCons (tC (.ty "tuple")) tNil))) tNil))) σ H (.bl (isa ty "list" || isa ty "tuple")) := fun H1 e Q q =>
  ha H1 e _ fun H2 e2 => ⟨by show 2 ≤ sizeLine; decide, fun p hp => ⟨x, p, [.ty "list", .ty "tuple"], .type ty, [.type "list", .type "tuple"], _, rfl, upd_same, .cons (.ty _) (.cons (.ty _) .nil), (hk.mono ((e.trans e2).trans (Ex.new hp))).ty, by
    have h1 := kit_ty (K := K) (kit6 ty "list" hk.in6 (by decide))
    have h2 := kit_ty (K := K) (kit6 ty "tuple" hk.in6 (by decide))
    refine kitAny_cons h1 (fun q1 => kitAny_cons h2 (fun q2 => ?_) fun q2 => ?_) fun q1 => ?_
    · rw [q1, q2]; exact kitAny_nil
    · rw [q2, Bool.or_true]
    · rw [q1, Bool.true_or], q _ (e2.trans (Ex.new hp))⟩⟩
/-- calls -/
theorem ev_f {sp : Sp} {vs : List V} {E : XK} {tr : TA} (h : EvA tr σ H vs) (hs : SpV sp vs H z) : Ev (tCall sp [] E tr) σ H z := ev_call h (by rw [List.append_nil]; exact hs)
theorem ev_m {C o dx : Addr} {m : Str} {fs : List (Str × V)} {sp : Sp} {vs : List V} {E : XK} {tr : TA} (ho : Ev ta σ H (.ref o)) (hi : H o = some (.ins C dx fs)) (hl : fs.lookup m = none) (h : EvA tr σ H vs) (hs : SpV sp (.ref o :: vs) H z) :
    Ev (tMeth C m sp [] E ta tr) σ H z := fun H1 e Q q =>
  ho H1 e _ fun H2 e2 => ⟨o, dx, fs, rfl, e2 _ _ (e _ _ hi), hl, h H2 (e.trans e2) _ fun H3 e3 => by
    rw [List.append_nil]
    exact hs H3 ((e.trans e2).trans e3) _ (fun H4 e4 => q H4 ((e2.trans e3).trans e4)) E⟩
/-- tests -/
theorem et_tru {b : Bool} (ha : Ev ta σ H (.int i)) (e : (i != 0) = b) : EvT (fun σ H Q => ta σ H fun x H' => ∃ k, TruV K x H' k ∧ Q k H') σ H b := fun H1 e1 Q q => ha H1 e1 _ fun H2 e2 => ⟨b, e.symm, q H2 e2⟩
theorem go {Q : VK} (h : Ev te σ H v) (k : ∀ H2, Ex H H2 → Q v H2) : te σ H Q := h H (Ex.refl H) Q k
theorem got {Q : Bool → Hp → Prop} {b : Bool} (h : EvT t σ H b) (k : ∀ H2, Ex H H2 → Q b H2) : t σ H Q := h H (Ex.refl H) Q k
end
end TA
end
/-! TaP1 -/
section
set_option Elab.async false
set_option linter.all false
set_option autoImplicit false
set_option maxRecDepth 100000
set_option maxHeartbeats 4000000
namespace TA
open PySem PySem.Spec PyProof.Rows L2 Evl
section
variable {P : Program} {w : World} {K : PySem.W.Frag} {mg : Str → Option Value} {base : Heap}
/-! ### wholes -/
/-- is it a list or a tuple -/
def spIsSeq (_ : PySem.W.Frag) : Sp := fun vs H Q _ => ∃ (x : V) (ty : String), vs = [x] ∧ Kd H x ty ∧ RetV (.bl (isa ty "list" || isa ty "tuple")) H Q
theorem ok_is_sequence (T : Txt w K mg) : Fok P w K mg base 1 (a_is_sequence K) P_is_sequence (spIsSeq K) := by
  refine fok T.f_is_sequence sc_is_sequence (fun _ _ _ _ _ _ us hl => match us, hl with | [_], _ => rfl) (fun vs H Q E h => ?_) (fun cdv A outer s H vs Q E hr h => ?_)
  · obtain ⟨x, ty, rfl, _⟩ := h
    rfl
  · obtain ⟨x, ty, rfl, hk, k⟩ := h
    refine ⟨_, (pss_one (ps_ret (pe_callB call_isiT rfl T.m_isinstance bt_isinstance (pa_cons (pv 0) (pa_cons (pe_tup (pa_cons (pe_ct T.m_list bt_list) (pa_cons (pe_ct T.m_tuple bt_tuple) pa_nil))) pa_nil))))), ?_⟩
    exact s_ret (ev_isLT (ev_var rfl) hk) k
def wholeB (x : V) (lo hi : Int) : Bool := match x with
  | .int i => decide (lo ≤ i) && decide (i ≤ hi)
  | _ => false
def spIsWhole (_ : PySem.W.Frag) : Sp := fun vs H Q _ => ∃ (x : V) (lo hi : Int) (ty : String), vs = [x, .int lo, .int hi] ∧ Kd H x ty ∧ RetV (.bl (wholeB x lo hi)) H Q
theorem ok_is_whole (T : Txt w K mg) : Fok P w K mg base 1 (a_is_whole K) P_is_whole (spIsWhole K) := by
  obtain ⟨fd, F⟩ := T.f_is_whole
  have hb : Binds K fd P_is_whole [] := by
    obtain ⟨ds, hv, hb⟩ := F.binds1 (ps := P_is_whole) 3 2 (by decide) rfl (fun TT kV doc pm an cdv ct us its hl hi => by
      match us, hl, its, hi with
      | [a, b, c], _, [d, e], _ => exact ⟨_, rfl, rfl⟩)
    have e : ds = [] := by
      cases hv
      rfl
    subst e
    exact hb
  refine ⟨fd, F.ok sc_is_whole (fun vs H Q E h => ?_) (fun cdv A outer s H vs Q E hr h => ?_), hb⟩
  · obtain ⟨x, lo, hi, ty, rfl, _⟩ := h
    rfl
  · obtain ⟨x, lo, hi, ty, rfl, hk, k⟩ := h
    refine ⟨_, (pss_cons (ps_if (PW.pt (pw_or (pt_val (pe_callB call_isi rfl T.m_isinstance bt_isinstance (pa_cons (pv 0) (pa_cons (pe_ct T.m_bool bt_bool) pa_nil)))) (pw_or1 (pt_not (pt_val (pe_callB call_isi rfl T.m_isinstance bt_isinstance (pa_cons (pv 0) (pa_cons (pe_ct T.m_int bt_int) pa_nil)))))))) (pss_one (ps_ret pe_bl)) pss_nil)
      (pss_cons (ps_if (PW.pt (pw_and (pt_cmpR op_notN1 (pv 1) pe_non (nomark _)) (pw_and1 (pt_cmpR op_lt (pv 0) (pv 1) (nomark _))))) (pss_one (ps_ret pe_bl)) pss_nil)
      (pss_one (ps_ret (pe_or (pe_cmpR op_isN1 (pv 2) pe_non (nomark _)) (pe_one (pe_cmpR op_le (pv 0) (pv 2) (nomark _)))))))), ?_⟩
    refine q_when (et_or (et_B (ev_isi (ev_var rfl) hk (by decide))) (fun _ => et_not (et_B (ev_isi (ev_var rfl) hk (by decide))))) (fun hb H1 e1 => ?_) (fun hb H1 e1 => ?_)
    · refine s_ret ev_c fun H2 e2 => ?_
      have e : wholeB x lo hi = false := by
        cases hk with
        | int i => exact absurd hb (by decide)
        | _ => rfl
      have q := k H2 (e1.trans e2)
      rw [e] at q
      exact q
    · cases hk with
      | int i =>
        refine q_when (et_and (et_test (ev_notN (ev_var rfl))) (fun _ => et_test (ev_lt (ev_var rfl) (ev_var rfl)))) (fun hb2 H2 e2 => ?_) (fun hb2 H2 e2 => ?_)
        · refine s_ret ev_c fun H3 e3 => ?_
          have hlt : i < lo := by simpa using hb2
          have q := k H3 ((e1.trans e2).trans e3)
          have e : wholeB (.int i) lo hi = false := by
            show (decide (lo ≤ i) && decide (i ≤ hi)) = false
            rw [decide_eq_false (by omega), Bool.false_and]
          rw [e] at q
          exact q
        · refine s_ret (ev_orV (ev_isN (ev_var rfl)) (fun _ => ev_le (ev_var rfl) (ev_var rfl))) fun H3 e3 => ?_
          have hge : ¬ i < lo := by simpa using hb2
          have q := k H3 ((e1.trans e2).trans e3)
          have e : wholeB (.int i) lo hi = (decide (V.int hi = V.non) || decide (i ≤ hi)) := by
            show (decide (lo ≤ i) && decide (i ≤ hi)) = _
            rw [decide_eq_true (by omega : lo ≤ i), Bool.true_and, decide_eq_false (fun z => V.noConfusion z), Bool.false_or]
          rw [e] at q
          exact q
      | non => exact absurd hb (by decide)
      | bl b => exact absurd hb (by decide)
      | str z => exact absurd hb (by decide)
      | lst z => exact absurd hb (by decide)
      | tup z => exact absurd hb (by decide)
theorem sv_is_whole {H : Hp} {x : V} {lo hi : Int} {ty : String} (hk : Kd H x ty) : SpV (spIsWhole K) [x, .int lo, .int hi] H (.bl (wholeB x lo hi)) := fun H1 e Q q E => ⟨x, lo, hi, ty, rfl, hk.mono e, q⟩
/-! ### lots -/
/-- 1 to 6 stands -/
abbrev Vok (v : Nat) : Prop := 1 ≤ v ∧ v ≤ 6
theorem wholeB_ok {v : Nat} (h : Vok v) : wholeB (vn v) 1 6 = true := by
  show (decide ((1 : Int) ≤ v) && decide ((v : Int) ≤ 6)) = true
  rw [decide_eq_true (by omega : (1 : Int) ≤ v), decide_eq_true (by omega : (v : Int) ≤ 6), Bool.true_and]
def spCheckStands (_ : PySem.W.Frag) : Sp := fun vs H Q _ => ∃ v : Nat, vs = [vn v] ∧ Vok v ∧ RetV (vn v) H Q
theorem ok_check_stands (T : Txt w K mg) : Fok P w K mg base 2 (a_check_stands K) P_check_stands (spCheckStands K) := by
  have F_is_whole := ok_is_whole (P := P) (base := base) T
  refine fok T.f_check_stands sc_check_stands (fun _ _ _ _ _ _ us hl => match us, hl with | [_], _ => rfl) (fun vs H Q E h => ?_) (fun cdv A outer s H vs Q E hr h => ?_)
  · obtain ⟨v, rfl, _⟩ := h
    rfl
  · obtain ⟨v, rfl, hv, k⟩ := h
    refine ⟨_, (pss_cons (ps_if (pt_not (pt_val (pe_f F_is_whole T.c_is_whole (hr.mono (by omega)) (px rfl rfl rfl rfl) (pa_cons (pv 0) (pa_cons pe_int (pa_cons pe_int pa_nil)))))) (pss_one ps_never) pss_nil)
      (pss_one (ps_ret (pv 0)))), ?_⟩
    refine q_when (b := false) (et_is (et_not (et_B (ev_f (ea_cons (ev_var rfl) (ea_cons ev_c (ea_cons ev_c ea_nil))) (sv_is_whole (.int _))))) (by rw [wholeB_ok hv]; rfl)) (fun hb => nomatch hb) (fun _ H1 e1 => ?_)
    exact s_ret (ev_var rfl) fun H2 e2 => k H2 (e1.trans e2)
theorem sv_check_stands {H : Hp} {v : Nat} (h : Vok v) : SpV (spCheckStands K) [vn v] H (vn v) := fun H1 e Q q E => ⟨v, rfl, h, q⟩
def spAllStands (_ : PySem.W.Frag) : Sp := fun vs H Q _ => ∃ v : Nat, vs = [vn v] ∧ Vok v ∧ RetV (.int (2 ^ v - 1)) H Q
theorem shl_one (v : Nat) : ((1 <<< v : Nat) : Int) = 2 ^ v := by
  rw [Nat.shiftLeft_eq, Nat.one_mul]
  push_cast
  rfl
theorem ok_all_stands (T : Txt w K mg) : Fok P w K mg base 3 (a_all_stands K) P_all_stands (spAllStands K) := by
  have F_check_stands := ok_check_stands (P := P) (base := base) T
  refine fok T.f_all_stands sc_all_stands (fun _ _ _ _ _ _ us hl => match us, hl with | [_], _ => rfl) (fun vs H Q E h => ?_) (fun cdv A outer s H vs Q E hr h => ?_)
  · obtain ⟨v, rfl, _⟩ := h
    rfl
  · obtain ⟨v, rfl, hv, k⟩ := h
    refine ⟨_, (pss_one (ps_ret (pe_op op_sub (pe_op op_shl pe_int (pe_f F_check_stands T.c_check_stands (hr.mono (by omega)) (px rfl rfl rfl rfl) (pa_cons (pv 0) pa_nil))) pe_int))), ?_⟩
    refine s_ret (ev_is (ev_sub (ev_shl (a := 1) ev_c (ev_f (ea_cons (ev_var rfl) ea_nil) (sv_check_stands hv)) (by decide) (by omega)) ev_c) ?_) k
    rw [shl_one]
theorem sv_all_stands {H : Hp} {v : Nat} (h : Vok v) : SpV (spAllStands K) [vn v] H (.int (2 ^ v - 1)) := fun H1 e Q q E => ⟨v, rfl, h, q⟩
/-- is it a lot of v stands -/
abbrev lotB (v : Nat) (x : V) : Bool := wholeB x 0 (2 ^ v - 1)
def spCheckLot (K : PySem.W.Frag) : Sp := fun vs H Q E => ∃ (v : Nat) (x : V) (ty : String), vs = [vn v, x] ∧ Vok v ∧ Kd H x ty ∧ (lotB v x = true → RetV x H Q) ∧ (lotB v x = false → ∀ H2, Ex H H2 → E (.ref (He.ga K "BadLot")) none H2)
theorem ok_check_lot (T : Txt w K mg) : Fok P w K mg base 4 (a_check_lot K) P_check_lot (spCheckLot K) := by
  have F_is_whole := ok_is_whole (P := P) (base := base) T
  have F_all_stands := ok_all_stands (P := P) (base := base) T
  refine fok T.f_check_lot sc_check_lot (fun _ _ _ _ _ _ us hl => match us, hl with | [_, _], _ => rfl) (fun vs H Q E h => ?_) (fun cdv A outer s H vs Q E hr h => ?_)
  · obtain ⟨v, x, ty, rfl, _⟩ := h
    rfl
  · obtain ⟨v, x, ty, rfl, hv, hk, k1, k2⟩ := h
    refine ⟨_, (pss_cons (ps_if (pt_not (pt_val (pe_f F_is_whole T.c_is_whole (hr.mono (by omega)) (px rfl rfl rfl rfl) (pa_cons (pv 1) (pa_cons pe_int (pa_cons (pe_f F_all_stands T.c_all_stands (hr.mono (by omega)) (px rfl rfl rfl rfl) (pa_cons (pv 0) pa_nil)) pa_nil)))))) (pss_one (ps_raise rfl (takes_of rfl rfl rfl rfl) (pmk_own0 PySem.F.excBase_ValueError T.e_BadLot.1 T.g_BadLot T.e_BadLot.2.1 (raises_own T.e_BadLot.2.2.1 T.e_BadLot.2.2.2) rfl))) pss_nil)
      (pss_one (ps_ret (pv 1)))), ?_⟩
    refine q_when (et_not (et_B (ev_f (ea_cons (ev_var rfl) (ea_cons ev_c (ea_cons (ev_f (ea_cons (ev_var rfl) ea_nil) (sv_all_stands hv)) ea_nil))) (sv_is_whole hk)))) (fun hb H1 e1 => ?_) (fun hb H1 e1 => ?_)
    · exact k2 (by simpa using hb) H1 e1
    · exact s_ret (ev_var rfl) fun H2 e2 => k1 (by simpa using hb) H2 (e1.trans e2)
theorem lotB_nat {v n : Nat} : lotB v (vn n) = decide (n < 2 ^ v) := by
  show (decide ((0 : Int) ≤ n) && decide ((n : Int) ≤ 2 ^ v - 1)) = _
  rw [decide_eq_true (Int.natCast_nonneg n), Bool.true_and]
  have e : ((2 ^ v : Nat) : Int) = 2 ^ v := by push_cast; rfl
  by_cases h : n < 2 ^ v
  · rw [decide_eq_true h, decide_eq_true]
    omega
  · rw [decide_eq_false h, decide_eq_false]
    omega
/-- a good lot passes -/
theorem sv_check_lot {H : Hp} {v n : Nat} (h : Vok v) (hn : n < 2 ^ v) : SpV (spCheckLot K) [vn v, vn n] H (vn n) := fun H1 e Q q E =>
  ⟨v, _, _, rfl, h, .int _, fun _ => q, fun z => by rw [lotB_nat, decide_eq_true hn] at z; cases z⟩
def spIsWithin (_ : PySem.W.Frag) : Sp := fun vs H Q _ => ∃ a b : Nat, vs = [vn a, vn b] ∧ a < 64 ∧ b < 64 ∧ RetV (.bl (decide (a &&& b = a))) H Q
theorem ok_is_within (T : Txt w K mg) : Fok P w K mg base 5 (a_is_within K) P_is_within (spIsWithin K) := by
  have F_check_lot := ok_check_lot (P := P) (base := base) T
  refine fok T.f_is_within sc_is_within (fun _ _ _ _ _ _ us hl => match us, hl with | [_, _], _ => rfl) (fun vs H Q E h => ?_) (fun cdv A outer s H vs Q E hr h => ?_)
  · obtain ⟨a, b, rfl, _⟩ := h
    rfl
  · obtain ⟨a, b, rfl, ha, hb, k⟩ := h
    have H64 := hr.units
    refine ⟨_, (pss_cons (ps_expr (pe_f F_check_lot T.c_check_lot (hr.mono (by omega)) (px rfl rfl rfl rfl) (pa_cons pe_int (pa_cons (pv 0) pa_nil))))
      (pss_cons (ps_expr (pe_f F_check_lot T.c_check_lot (hr.mono (by omega)) (px rfl rfl rfl rfl) (pa_cons pe_int (pa_cons (pv 1) pa_nil))))
      (pss_one (ps_ret (pe_cmpR (op_eqA H64) (pe_op op_and (pv 0) (pv 1)) (pv 0) (nomark _)))))), ?_⟩
    refine q_drop (ev_f (ea_cons (ev_c (v := vn 6)) (ea_cons (ev_var rfl) ea_nil)) (sv_check_lot (by decide) ha)) fun H1 e1 => ?_
    refine q_drop (ev_f (ea_cons (ev_c (v := vn 6)) (ea_cons (ev_var rfl) ea_nil)) (sv_check_lot (by decide) hb)) fun H2 e2 => ?_
    exact s_ret (ev_eqN (ev_and (ev_var rfl) (ev_var rfl)) (ev_var rfl)) fun H3 e3 => k H3 ((e1.trans e2).trans e3)
theorem sv_is_within {H : Hp} {a b : Nat} (ha : a < 64) (hb : b < 64) : SpV (spIsWithin K) [vn a, vn b] H (.bl (decide (a &&& b = a))) := fun H1 e Q q E => ⟨a, b, rfl, ha, hb, q⟩
end
end TA
end
/-! TaWalk -/
section
set_option Elab.async false
set_option linter.all false
set_option autoImplicit false
set_option maxRecDepth 100000
set_option maxHeartbeats 4000000
namespace TA
open PySem PySem.Spec PyProof.Rows L2 Evl RZ
section
variable {K : PySem.W.Frag} {a b : Addr} {xs ys : List V}
theorem walk_enumT : Walk (IteT K a) xs.length (fun H => SqT K H a xs) (YPair (fun i => some (.int (i : Nat))) (fun i => xs[i]?)) := by
  refine ⟨fun i _ hi q => ⟨xs, xs[i], q, by simp [hi]⟩, fun _ q => ⟨xs, q, Nat.le_refl _⟩, fun i H v H1 _ q y => ?_⟩
  obtain ⟨T, x, e1, e2, e3, e4⟩ := y
  exact ⟨T, .int (i : Nat), x, e1, e2, e3, rfl, e4 xs q⟩
theorem walk_zipT {n : Nat} (hn : n = min xs.length ys.length) : Walk (ItzT K a b) n (fun H => SqT K H a xs ∧ SqT K H b ys) (YPair (fun i => xs[i]?) (fun i => ys[i]?)) := by
  subst hn
  refine ⟨fun i _ hi q => ?_, fun _ q => ⟨xs, ys, q.1, q.2, by omega⟩, fun i H v H1 _ q y => ?_⟩
  · have l1 : i < xs.length := by omega
    have l2 : i < ys.length := by omega
    exact ⟨xs, ys, xs[i], ys[i], q.1, q.2, by simp [l1], by simp [l2]⟩
  · obtain ⟨T, x, z, e1, e2, e3, e4, e5⟩ := y
    exact ⟨T, x, z, e1, e2, e3, e4 xs q.1, e5 ys q.2⟩
variable {σ : L2.St} {H : Hp} {te tf : TE} {D : Ends} {tb tz : TS} {j j2 : Nat}
/-- two names from a pair -/
abbrev g2 (K : PySem.W.Frag) (j j2 : Nat) : TG := gTup K 2 (gCons (gName j) (gCons (gName j2) gNil))
theorem g2_at {σ : L2.St} {H : Hp} {p : Addr} {x y : V} {Q : L2.St → Hp → Prop} (h : H p = some (.tup [x, y])) (q : Q ((σ.set j (some x)).set j2 (some y)) H) : g2 K j j2 (.ref p) σ H Q :=
  ⟨p, [x, y], rfl, st_of h, rfl, x, [y], rfl, y, [], rfl, rfl, q⟩
/-- for i, x in enumerate(t), t a tuple -/
theorem s_enumT (h : Ev te σ H (.ref a)) (hx : H a = some (.tup xs)) (Pv : Nat → L2.St → Hp → Prop) (h0 : ∀ H1, Ex H H1 → Pv 0 σ H1) (hl : ∀ i σ' H', i ≤ xs.length → Pv i σ' H' → H' a = some (.tup xs))
    (hs : ∀ i x σ' H', xs[i]? = some x → Pv i σ' H' → ∀ H2, Ex H' H2 → tb { D with nx := Pv (i + 1), ct := Pv (i + 1), bk := D.nx } ((σ'.set j (some (vn i))).set j2 (some x)) H2) (hd : ∀ σ' H', Pv xs.length σ' H' → D.nx σ' H') :
    tFor (iEnumA K (tCons te tNil)) (g2 K j j2) tb D σ H := h H (Ex.refl H) _ fun H1 e1 =>
  ⟨a, xs, rfl, .inr ⟨st_of (e1 _ _ hx), for_it walk_enumT Pv (h0 H1 e1) (fun i σ' H' hi p => st_of (hl i σ' H' hi p)) (fun i x σ' H' H2 hi p y => by
    obtain ⟨T, x1, x2, ev, hT, e2, y1, y2⟩ := y
    have e3 := Option.some.inj y1
    subst ev e2 e3
    exact g2_at (j := j) (j2 := j2) upd_same (hs i x2 σ' H' y2 p _ (Ex.new hT))) (fun σ' H' p => hd σ' H' p)⟩⟩
theorem s_enumL (h : Ev te σ H (.ref a)) (hx : H a = some (.lst xs)) (Pv : Nat → L2.St → Hp → Prop) (h0 : ∀ H1, Ex H H1 → Pv 0 σ H1) (hl : ∀ i σ' H', i ≤ xs.length → Pv i σ' H' → H' a = some (.lst xs))
    (hs : ∀ i x σ' H', xs[i]? = some x → Pv i σ' H' → ∀ H2, Ex H' H2 → tb { D with nx := Pv (i + 1), ct := Pv (i + 1), bk := D.nx } ((σ'.set j (some (vn i))).set j2 (some x)) H2) (hd : ∀ σ' H', Pv xs.length σ' H' → D.nx σ' H') :
    tFor (iEnumA K (tCons te tNil)) (g2 K j j2) tb D σ H := h H (Ex.refl H) _ fun H1 e1 =>
  ⟨a, xs, rfl, .inl ⟨sq_of (e1 _ _ hx), for_it walk_enum Pv (h0 H1 e1) (fun i σ' H' hi p => sq_of (hl i σ' H' hi p)) (fun i x σ' H' H2 hi p y => by
    obtain ⟨T, x1, x2, ev, hT, e2, y1, y2⟩ := y
    have e3 := Option.some.inj y1
    subst ev e2 e3
    exact g2_at (j := j) (j2 := j2) upd_same (hs i x2 σ' H' y2 p _ (Ex.new hT))) (fun σ' H' p => hd σ' H' p)⟩⟩
/-- for x, y in zip(t, u), tuples of one length -/
theorem s_zipT (h : Ev te σ H (.ref a)) (h2 : Ev tf σ H (.ref b)) (hx : H a = some (.tup xs)) (hy : H b = some (.tup ys)) (hn : xs.length = ys.length) (Pv : Nat → L2.St → Hp → Prop) (h0 : ∀ H1, Ex H H1 → Pv 0 σ H1)
    (hl : ∀ i σ' H', i ≤ xs.length → Pv i σ' H' → H' a = some (.tup xs) ∧ H' b = some (.tup ys))
    (hs : ∀ i x y σ' H', xs[i]? = some x → ys[i]? = some y → Pv i σ' H' → ∀ H2, Ex H' H2 → tb { D with nx := Pv (i + 1), ct := Pv (i + 1), bk := D.nx } ((σ'.set j (some x)).set j2 (some y)) H2) (hd : ∀ σ' H', Pv xs.length σ' H' → D.nx σ' H') :
    tFor (iZipA K (tCons te (tCons tf tNil))) (g2 K j j2) tb D σ H := h H (Ex.refl H) _ fun H1 e1 => h2 H1 e1 _ fun H2 e2 =>
  ⟨a, b, xs, ys, rfl, .inr ⟨st_of (e2 _ _ (e1 _ _ hx)), st_of (e2 _ _ (e1 _ _ hy)), for_it (walk_zipT (n := xs.length) (by omega)) Pv (h0 H2 (e1.trans e2)) (fun i σ' H' hi p => ⟨st_of (hl i σ' H' hi p).1, st_of (hl i σ' H' hi p).2⟩) (fun i x σ' H' H2 hi p y => by
    obtain ⟨T, x1, x2, ev, hT, e2, y1, y2⟩ := y
    subst ev e2
    exact g2_at (j := j) (j2 := j2) upd_same (hs i x1 x2 σ' H' y1 y2 p _ (Ex.new hT))) (fun σ' H' p => hd σ' H' p)⟩⟩
/-- for x in t, t a tuple -/
theorem s_tupA (h : Ev te σ H (.ref a)) (hx : H a = some (.tup xs)) (Pv : Nat → L2.St → Hp → Prop) (h0 : ∀ H1, Ex H H1 → Pv 0 σ H1) (hl : ∀ i σ' H', i ≤ xs.length → Pv i σ' H' → H' a = some (.tup xs))
    (hs : ∀ i x σ' H', xs[i]? = some x → Pv i σ' H' → tb { D with nx := Pv (i + 1), ct := Pv (i + 1), bk := D.nx } (σ'.set j (some x)) H') (hd : ∀ σ' H', Pv xs.length σ' H' → D.nx σ' H') :
    tFor (iA K te) (gName j) tb D σ H := .inr (h H (Ex.refl H) _ fun H1 e1 =>
  ⟨a, rfl, ⟨xs, st_of (e1 _ _ hx)⟩, for_it walk_tup Pv (h0 H1 e1) (fun i σ' H' hi p => st_of (hl i σ' H' hi p)) (fun i x σ' H' H2 hi p y => by
    obtain ⟨e2, y2⟩ := y
    subst e2
    exact hs i x σ' _ y2 p) (fun σ' H' p => hd σ' H' p)⟩)
/-- for x in l, l a list -/
theorem s_lstA {g : TG} (h : Ev te σ H (.ref a)) (hx : H a = some (.lst xs)) (Pv : Nat → L2.St → Hp → Prop) (h0 : ∀ H1, Ex H H1 → Pv 0 σ H1) (hl : ∀ i σ' H', i ≤ xs.length → Pv i σ' H' → H' a = some (.lst xs))
    (hs : ∀ i x σ' H', xs[i]? = some x → Pv i σ' H' → g x σ' H' fun σ2 H2 => tb { D with nx := Pv (i + 1), ct := Pv (i + 1), bk := D.nx } σ2 H2) (hd : ∀ σ' H', Pv xs.length σ' H' → D.nx σ' H') :
    tFor (iA K te) g tb D σ H := .inl (h H (Ex.refl H) _ fun H1 e1 =>
  ⟨a, rfl, ⟨xs, sq_of (e1 _ _ hx)⟩, for_it walk_list Pv (h0 H1 e1) (fun i σ' H' hi p => sq_of (hl i σ' H' hi p)) (fun i x σ' H' H2 hi p y => by
    obtain ⟨e2, y2⟩ := y
    subst e2
    exact hs i x σ' _ y2 p) (fun σ' H' p => hd σ' H' p)⟩)
/-- a statement ahead of others -/
theorem q_of {t : TS} (h : t { D with nx := tz D } σ H) : tSeq t tz D σ H := h
end
section
variable {K : PySem.W.Frag} {σ : L2.St} {H : Hp} {ta : TE} {p : Addr} {xs : List V}
/-- a def is called, its arguments only grow the heap -/
theorem callA {sp : Sp} {E : XK} {tr : TA} {vs : List V} {Q : VK} (h : EvA tr σ H vs) (k : ∀ H1, Ex H H1 → sp (vs ++ []) H1 Q E) : tCall sp [] E tr σ H Q := h H (Ex.refl H) _ k
/-- tuple(t) is t -/
theorem ev_tupT (h : Ev ta σ H (.ref p)) (hp : H p = some (.tup xs)) : Ev (tCB (fun vs H Q => ∃ p ys, vs = [.ref p] ∧ ((SqL K H p ys ∧ ∀ l, H l = none → Q (.ref l) (upd H l (.tup ys))) ∨ (SqT K H p ys ∧ Q (.ref p) H))) (tCons ta tNil)) σ H (.ref p) := fun H1 e Q q =>
  h H1 e _ fun H2 e2 => ⟨p, xs, rfl, .inr ⟨st_of (e2 _ _ (e _ _ hp)), q H2 e2⟩⟩
/-- tuple(l) of a list is new -/
theorem eu_tupL (h : Ev ta σ H (.ref p)) (hp : H p = some (.lst xs)) : EvU (tCB (fun vs H Q => ∃ p ys, vs = [.ref p] ∧ ((SqL K H p ys ∧ ∀ l, H l = none → Q (.ref l) (upd H l (.tup ys))) ∨ (SqT K H p ys ∧ Q (.ref p) H))) (tCons ta tNil)) σ H xs := fun H1 e Q q =>
  h H1 e _ fun H2 e2 => ⟨p, xs, rfl, .inl ⟨sq_of (e2 _ _ (e _ _ hp)), fun l hl => q l _ (fresh_back e2 hl) (e2.trans (Ex.new hl)) upd_same⟩⟩
end
/-! ### rules within a comprehension: the written part by name -/
section
variable {X : Cx} {K : PySem.W.Frag} {tg l a : Expr} {tl ta : TE}
theorem ixK (h : X.K = K) : IxR X (rIxA K) := by subst h; exact ix_A
theorem slK (h : X.K = K) : SlR X (fun x lo hi H Q => rSlL K x lo hi H Q ∨ rSlA K x lo hi H Q) := by subst h; exact sl_A
theorem addK (h : X.K = K) : OpR X (binaryOp .Add) (rAddA K) := by subst h; exact op_addA
theorem eqK (h : X.K = K) (hu : X.A.units + 64 < cLine) : OpR X (compareOp .Eq) (rEqA K) := by subst h; exact op_eqA hu
theorem neK (h : X.K = K) (hu : X.A.units + 64 < cLine) : OpR X (compareOp .NotEq) (rNeA K) := by subst h; exact op_neA hu
theorem inK (h : X.K = K) : OpR X (compareOp .In) (rIn K false) := by subst h; exact op_in_seq
theorem ninK (h : X.K = K) : OpR X (compareOp .NotIn) (rIn K true) := by subst h; exact op_notIn_seq
theorem lenK (h : X.K = K) : CallR X (.builtin "len") (fun ws H Q => ∃ p ys, ws = [.ref p] ∧ (SqL K H p ys ∨ SqT K H p ys) ∧ Q (.int ys.length) H) := by subst h; exact call_len_seq
theorem tupK (h : X.K = K) : CallR X (.type "tuple") (fun vs H Q => ∃ p ys, vs = [.ref p] ∧ ((SqL K H p ys ∧ ∀ l, H l = none → Q (.ref l) (upd H l (.tup ys))) ∨ (SqT K H p ys ∧ Q (.ref p) H))) := by subst h; exact call_tuple_of
theorem listK (h : X.K = K) : CallR X (.type "list") (fun xs H Q => ∃ p ys, xs = [.ref p] ∧ (SqL K H p ys ∨ SqT K H p ys) ∧ ∀ l, H l = none → Q (.ref l) (upd H l (.lst ys))) := by subst h; exact call_list_of
theorem piK (h : X.K = K) (hl : PE X l tl) : PI X tg l (iA K tl) := by subst h; exact pi_A hl
theorem trK (h : X.K = K) (ha : PE X a ta) (he : ∀ whole, isTrue a X.env whole = (do let v ← whole; standAt a.pos; holding [v] (truthy v))) : PT X a (fun σ H Q => ta σ H fun x H' => ∃ k, TruV K x H' k ∧ Q k H') := by subst h; exact pt_truth ha he
theorem dgK {o i : Expr} {td ty : TE} {pos : Pos} (hu : X.A.units + 1 < cLine) (ho : PE X o td) (hi : PE X i ty) (hs : NoSl i) : PE X (.Subscript o i pos) (tDGet td ty) := pe_dget hu ho hi hs
end
/-! ### all but the lists, all but one -/
/-- what is no list stays -/
def ExN (H H' : Hp) : Prop := ∀ a o, (∀ xs, o ≠ .lst xs) → H a = some o → H' a = some o
/-- all but what stands at m stays -/
def XO (m : Addr) (H H' : Hp) : Prop := ∀ a o, a ≠ m → H a = some o → H' a = some o
section
variable {H H1 H2 : Hp} {m a : Addr} {xs ys : List V} {ho : HO}
theorem ExN.refl (H : Hp) : ExN H H := fun _ _ _ h => h
theorem ExN.trans (a : ExN H H1) (b : ExN H1 H2) : ExN H H2 := fun x o n h => b x o n (a x o n h)
theorem _root_.Evl.Ex.n (e : Ex H H1) : ExN H H1 := fun x o _ h => e x o h
theorem XO.refl (H : Hp) : XO m H H := fun _ _ _ h => h
theorem XO.trans (a : XO m H H1) (b : XO m H1 H2) : XO m H H2 := fun x o n h => b x o n (a x o n h)
theorem _root_.Evl.Ex.o (e : Ex H H1) : XO m H H1 := fun x o _ h => e x o h
theorem XO.n (e : XO m H H1) (h : H m = some (.lst xs)) : ExN H H1 := fun x o n q => e x o (fun z => by
  subst z
  rw [h] at q
  exact n xs (Option.some.inj q).symm) q
theorem XO.upd : XO m H (upd H m ho) := fun x u n h => by rw [upd_ne n]; exact h
theorem XO.ne (h : H m = some (.lst xs)) {b : Addr} {u : HO} (hb : H b = some u) (n : ∀ xs, u ≠ .lst xs) : b ≠ m := fun z => by
  subst z
  rw [h] at hb
  exact n xs (Option.some.inj hb).symm
end
end TA
end
/-! TaP2 -/
section
set_option Elab.async false
set_option linter.all false
set_option autoImplicit false
set_option maxRecDepth 100000
set_option maxHeartbeats 4000000
namespace TA
open PySem PySem.Spec PyProof.Rows L2 Evl
/-! ### glasses, steps, programs as they stand in memory -/
abbrev stFs (v : Nat) (a b : Addr) : List (Str × V) := [("stands", vn v), ("names", .ref a), ("rows", .ref b)]
abbrev glFs (v : Nat) (a : Addr) : List (Str × V) := [("stands", vn v), ("members", .ref a)]
/-- a list of lots as a tuple -/
def TupN (H : Hp) (a : Addr) (ns : List Nat) : Prop := H a = some (.tup (ns.map vn))
def GlAt (K : PySem.W.Frag) (H : Hp) (G : Addr) (v : Nat) (ms : List Nat) : Prop := ∃ dx a, H G = some (.ins (He.ga K "Glasses") dx (glFs v a)) ∧ TupN H a ms
def StAt (K : PySem.W.Frag) (H : Hp) (S : Addr) (v : Nat) (ns : List Str) (rs : List (List Nat)) : Prop :=
  ∃ dx a b ras, H S = some (.ins (He.ga K "Steps") dx (stFs v a b)) ∧ H a = some (.tup (ns.map V.str)) ∧ H b = some (.tup (ras.map V.ref)) ∧ Paired (TupN H) ras rs ∧ ns.length = rs.length
/-- a program -/
def PrAt (H : Hp) : Pg → Addr → Prop
  | .no, a => H a = some (.tup [.str "nothing"])
  | .st nm, a => H a = some (.tup [.str "step", .str nm])
  | .be p q, a => ∃ b c, H a = some (.tup [.str "behind", .ref b, .ref c]) ∧ PrAt H p b ∧ PrAt H q c
  | .ei p q, a => ∃ b c, H a = some (.tup [.str "either", .ref b, .ref c]) ∧ PrAt H p b ∧ PrAt H q c
  | .ag p, a => ∃ b, H a = some (.tup [.str "again", .ref b]) ∧ PrAt H p b
def MetAt (K : PySem.W.Frag) (H : Hp) (x : V) (q : Str × Nat) : Prop := ∃ a dx fs, x = .ref a ∧ H a = some (.ins (He.ga K "Met") dx fs) ∧ fs.lookup ("name" : Str) = some (.str q.1) ∧ fs.lookup ("lot" : Str) = some (vn q.2)
section
variable {K : PySem.W.Frag} {H H' : Hp}
theorem TupN.n {a : Addr} {ns : List Nat} (e : ExN H H') (h : TupN H a ns) : TupN H' a ns := e _ _ (fun _ z => nomatch z) h
theorem paired_n {ras : List Addr} {rs : List (List Nat)} (e : ExN H H') (h : Paired (TupN H) ras rs) : Paired (TupN H') ras rs := Paired.mapP h fun _ _ q => q.n e
theorem GlAt.n {G : Addr} {v : Nat} {ms : List Nat} (e : ExN H H') (h : GlAt K H G v ms) : GlAt K H' G v ms := let ⟨dx, a, h1, h2⟩ := h; ⟨dx, a, e _ _ (fun _ z => nomatch z) h1, h2.n e⟩
theorem StAt.n {S : Addr} {v : Nat} {ns : List Str} {rs : List (List Nat)} (e : ExN H H') (h : StAt K H S v ns rs) : StAt K H' S v ns rs :=
  let ⟨dx, a, b, ras, h1, h2, h3, h4, h5⟩ := h; ⟨dx, a, b, ras, e _ _ (fun _ z => nomatch z) h1, e _ _ (fun _ z => nomatch z) h2, e _ _ (fun _ z => nomatch z) h3, paired_n e h4, h5⟩
theorem PrAt.n (e : ExN H H') : ∀ {p : Pg} {a : Addr}, PrAt H p a → PrAt H' p a
  | .no, _, h => e _ _ (fun _ z => nomatch z) h
  | .st _, _, h => e _ _ (fun _ z => nomatch z) h
  | .be _ _, _, h => let ⟨b, c, h1, h2, h3⟩ := h; ⟨b, c, e _ _ (fun _ z => nomatch z) h1, PrAt.n e h2, PrAt.n e h3⟩
  | .ei _ _, _, h => let ⟨b, c, h1, h2, h3⟩ := h; ⟨b, c, e _ _ (fun _ z => nomatch z) h1, PrAt.n e h2, PrAt.n e h3⟩
  | .ag _, _, h => let ⟨b, h1, h2⟩ := h; ⟨b, e _ _ (fun _ z => nomatch z) h1, PrAt.n e h2⟩
theorem MetAt.n {x : V} {q : Str × Nat} (e : ExN H H') (h : MetAt K H x q) : MetAt K H' x q := let ⟨a, dx, fs, h0, h1, h2, h3⟩ := h; ⟨a, dx, fs, h0, e _ _ (fun _ z => nomatch z) h1, h2, h3⟩
theorem map_at {ns : List Nat} {i : Nat} {x : V} (h : (ns.map vn)[i]? = some x) : i < ns.length ∧ x = vn (ns.getD i 0) := by
  rw [List.getElem?_map] at h
  obtain ⟨y, h1, h2⟩ := Option.map_eq_some_iff.mp h
  have lt := (List.getElem?_eq_some_iff.mp h1).1
  refine ⟨lt, ?_⟩
  rw [← h2, List.getD_eq_getElem?_getD, h1]
  rfl
theorem paired_at {ras : List Addr} {rs : List (List Nat)} : ∀ {i : Nat} {b : Addr}, Paired (TupN H) ras rs → ras[i]? = some b → ∃ r, rs[i]? = some r ∧ TupN H b r := by
  intro i b h
  induction h generalizing i with
  | nil => intro e; cases e
  | cons h1 _ ih =>
    intro e
    cases i with
    | zero =>
      have e2 := Option.some.inj e
      subst e2
      exact ⟨_, rfl, h1⟩
    | succ i => exact ih e
theorem last_of : ∀ {ns : List Nat}, ns ≠ [] → ∃ l, ns = l ++ [ns.getLastD 0]
  | [], h => absurd rfl h
  | [a], _ => ⟨[], rfl⟩
  | a :: b :: r, _ => by
    obtain ⟨l, e⟩ := last_of (ns := b :: r) (fun z => nomatch z)
    refine ⟨a :: l, ?_⟩
    show a :: (b :: r) = a :: (l ++ [(b :: r).getLastD 0])
    exact congrArg (List.cons a) e
theorem getLastD_at {ns : List Nat} (h : ns ≠ []) : atI (ns.map vn) (-1) = some (vn (ns.getLastD 0)) := by
  obtain ⟨l, e⟩ := last_of h
  generalize ns.getLastD 0 = x at e
  subst e
  rw [List.map_append]
  exact atI_last (l.map vn) (vn x)
end
section
variable {P : Program} {w : World} {K : PySem.W.Frag} {mg : Str → Option Value} {base : Heap}
/-! ### next_lot -/
def spNextLot (_ : PySem.W.Frag) : Sp := fun vs H Q _ => ∃ (a : Addr) (rs : List Nat) (lot : Nat), vs = [.ref a, vn lot] ∧ TupN H a rs ∧ RetV (vn (nextN rs lot)) H Q
theorem ok_next_lot (T : Txt w K mg) : Fok P w K mg base 1 (a_next_lot K) P_next_lot (spNextLot K) := by
  refine fok T.f_next_lot sc_next_lot (fun _ _ _ _ _ _ us hl => match us, hl with | [_, _], _ => rfl) (fun vs H Q E h => ?_) (fun cdv A outer s H vs Q E hr h => ?_)
  · obtain ⟨a, rs, lot, rfl, _⟩ := h
    rfl
  · obtain ⟨a, rs, lot, rfl, ha, k⟩ := h
    have H64 := hr.units
    refine ⟨_, (pss_cons (ps_set (i := 2) sc_next_lot.nd rfl (Or.inl rfl) pe_int)
      (pss_cons (ps_for (passes_of rfl) rfl (pi_enumA rfl T.m_enumerate (pa_cons (pv 0) pa_nil)) (pg_tup rfl (pgs_cons (pg_name (i := 3) sc_next_lot.nd rfl (Or.inl rfl)) (pgs_cons (pg_name (i := 4) sc_next_lot.nd rfl (Or.inl rfl)) pgs_nil))) (pss_one (ps_if (pt_cmpR (op_eqA H64) (pe_op op_and (pe_op op_shr (pv 1) (pv 3)) pe_int) pe_int (nomark _)) (pss_one (ps_set (i := 2) sc_next_lot.nd rfl (Or.inl rfl) (pe_op op_or (pv 2) (pv 4)))) pss_nil)))
      (pss_one (ps_ret (pv 2))))), ?_⟩
    refine q_asg ev_c fun H1 e1 => ?_
    refine q_of (s_enumT (ev_var rfl) (e1 _ _ ha) (fun i σ' H' => Ex H H' ∧ ∃ s3 s4, σ' = [some (.ref a), some (vn lot), some (vn (nextTo rs lot i)), s3, s4]) (fun H2 e2 => ⟨e1.trans e2, none, none, rfl⟩) (fun i σ' H' _ p => p.1 _ _ ha) (fun i x σ' H' hx p H2 e2 => ?_) fun σ' H' p => ?_)
    · obtain ⟨e3, s3, s4, rfl⟩ := p
      obtain ⟨lt, rfl⟩ := map_at hx
      refine s_when (et_test (ev_eqN (ev_and (ev_shr (ev_var rfl) (ev_var rfl)) (ev_c (v := vn 1))) (ev_c (v := vn 1)))) (fun hb H3 e4 => ?_) (fun hb H3 e4 => ?_)
      · refine s_asg (ev_or (ev_var rfl) (ev_var rfl)) fun H4 e5 => ⟨((e3.trans e2).trans e4).trans e5, some (vn i), some (vn (rs.getD i 0)), ?_⟩
        rw [nextTo_yes (of_decide_eq_true hb)] <;> rfl
      · refine ⟨(e3.trans e2).trans e4, some (vn i), some (vn (rs.getD i 0)), ?_⟩
        rw [nextTo_no (of_decide_eq_false hb)] <;> rfl
    · obtain ⟨e3, s3, s4, rfl⟩ := p
      rw [List.length_map]
      exact s_ret (ev_var rfl) fun H4 e4 => k H4 (e3.trans e4)
theorem sv_next_lot {H : Hp} {a : Addr} {rs : List Nat} {lot : Nat} (h : TupN H a rs) : SpV (spNextLot K) [.ref a, vn lot] H (vn (nextN rs lot)) := fun H1 e Q q E => ⟨a, rs, lot, rfl, h.n e.n, q⟩
/-! ### rounded -/
def spRounded (K : PySem.W.Frag) : Sp := fun vs H Q _ => ∃ (G : Addr) (v : Nat) (ms : List Nat) (lot : Nat), vs = [.ref G, vn lot] ∧ GlAt K H G v ms ∧ Vok v ∧ ms ≠ [] ∧ lot < 2 ^ v ∧ RetV (vn (roundN ms lot)) H Q
theorem ok_rounded (T : Txt w K mg) : Fok P w K mg base 5 (a_Glasses_rounded K) P_Glasses_rounded (spRounded K) := by
  have F_check_lot := ok_check_lot (P := P) (base := base) T
  refine fok T.f_Glasses_rounded sc_Glasses_rounded (fun _ _ _ _ _ _ us hl => match us, hl with | [_, _], _ => rfl) (fun vs H Q E h => ?_) (fun cdv A outer s H vs Q E hr h => ?_)
  · obtain ⟨G, v, ms, lot, rfl, _⟩ := h
    rfl
  · obtain ⟨G, v, ms, lot, rfl, ⟨dx, a, hG, ha⟩, hv, hm, hlt, k⟩ := h
    have H64 := hr.units
    refine ⟨_, (pss_cons (ps_expr (pe_f F_check_lot T.c_check_lot (hr.mono (by omega)) (px rfl rfl rfl rfl) (pa_cons (pe_fld (pv 0) rfl) (pa_cons (pv 1) pa_nil))))
      (pss_cons (ps_set (i := 2) sc_Glasses_rounded.nd rfl (Or.inl rfl) (pe_ix ix_A (pe_fld (pv 0) rfl) (pe_un un_neg pe_int) (fun _ _ => rfl)))
      (pss_cons (ps_for (passes_of rfl) rfl (pi_A (pe_fld (pv 0) rfl)) (pg_name (i := 3) sc_Glasses_rounded.nd rfl (Or.inl rfl)) (pss_one (ps_if (pt_cmpR (op_eqA H64) (pe_op op_and (pv 1) (pv 3)) (pv 1) (nomark _)) (pss_one (ps_set (i := 2) sc_Glasses_rounded.nd rfl (Or.inl rfl) (pe_op op_and (pv 2) (pv 3)))) pss_nil)))
      (pss_one (ps_ret (pv 2)))))), ?_⟩
    refine q_drop (ev_f (ea_cons (ev_fld (ev_var rfl) hG T.k_Glasses T.n_Glasses_stands rfl) (ea_cons (ev_var rfl) ea_nil)) (sv_check_lot hv hlt)) fun H1 e1 => ?_
    refine q_asg (ev_ixT (ev_fld (ev_var rfl) (e1 _ _ hG) T.k_Glasses T.n_Glasses_members rfl) (ev_neg (ev_c (v := .int 1))) (e1 _ _ ha) (getLastD_at hm)) fun H2 e2 => ?_
    have e12 := e1.trans e2
    refine q_of (s_tupA (ev_fld (ev_var rfl) (e12 _ _ hG) T.k_Glasses T.n_Glasses_members rfl) (e12 _ _ ha) (fun i σ' H' => Ex H H' ∧ ∃ s3, σ' = [some (.ref G), some (vn lot), some (vn (rndTo ms lot i)), s3]) (fun H3 e3 => ⟨e12.trans e3, none, rfl⟩) (fun i σ' H' _ p => p.1 _ _ ha) (fun i x σ' H' hx p => ?_) fun σ' H' p => ?_)
    · obtain ⟨e3, s3, rfl⟩ := p
      obtain ⟨lt, rfl⟩ := map_at hx
      refine s_when (et_test (ev_eqN (ev_and (ev_var rfl) (ev_var rfl)) (ev_var rfl))) (fun hb H3 e4 => ?_) (fun hb H3 e4 => ?_)
      · refine s_asg (ev_and (ev_var rfl) (ev_var rfl)) fun H4 e5 => ⟨(e3.trans e4).trans e5, some (vn (ms.getD i 0)), ?_⟩
        rw [rndTo_yes (of_decide_eq_true hb)] <;> rfl
      · refine ⟨e3.trans e4, some (vn (ms.getD i 0)), ?_⟩
        rw [rndTo_no (of_decide_eq_false hb)] <;> rfl
    · obtain ⟨e3, s3, rfl⟩ := p
      rw [List.length_map]
      exact s_ret (ev_var rfl) fun H4 e4 => k H4 (e3.trans e4)
theorem sv_rounded {H : Hp} {G : Addr} {v : Nat} {ms : List Nat} {lot : Nat} (h : GlAt K H G v ms) (hv : Vok v) (hm : ms ≠ []) (hl : lot < 2 ^ v) : SpV (spRounded K) [.ref G, vn lot] H (vn (roundN ms lot)) := fun H1 e Q q E => ⟨G, v, ms, lot, rfl, h.n e.n, hv, hm, hl, q⟩
/-! ### sharpness -/
/-- a row that may be read off such steps -/
structure RowOk (v : Nat) (rs : List Nat) : Prop where
  len : rs.length = v
  lt : ∀ r ∈ rs, r < 2 ^ v
structure MsOk (v : Nat) (ms : List Nat) : Prop where
  ne : ms ≠ []
  last : ms.getLastD 0 < 2 ^ v
def spSharp (K : PySem.W.Frag) : Sp := fun vs H Q _ => ∃ (G a : Addr) (v : Nat) (ms rs : List Nat) (lot : Nat), vs = [.ref G, .ref a, vn lot] ∧ GlAt K H G v ms ∧ TupN H a rs ∧ Vok v ∧ MsOk v ms ∧ RowOk v rs ∧ lot < 2 ^ v ∧ RetV (.bl (sharpB ms rs lot)) H Q
theorem ok_rounded_alike (T : Txt w K mg) : Fok P w K mg base 6 (a_rounded_alike K) P_rounded_alike (spSharp K) := by
  have F_Glasses_rounded := ok_rounded (P := P) (base := base) T
  have F_next_lot := ok_next_lot (P := P) (base := base) T
  refine fok T.f_rounded_alike sc_rounded_alike (fun _ _ _ _ _ _ us hl => match us, hl with | [_, _, _], _ => rfl) (fun vs H Q E h => ?_) (fun cdv A outer s H vs Q E hr h => ?_)
  · obtain ⟨G, a, v, ms, rs, lot, rfl, _⟩ := h
    rfl
  · obtain ⟨G, a, v, ms, rs, lot, rfl, hG, ha, hv, hm, hrw, hlt, k⟩ := h
    have H64 := hr.units
    obtain ⟨dx, b, hG1, hb⟩ := id hG
    refine ⟨_, (pss_cons (ps_set (i := 3) sc_rounded_alike.nd rfl (Or.inl rfl) (pe_m F_Glasses_rounded (pv 0) T.k_Glasses T.me_Glasses_rounded (hr.mono (by omega)) (px rfl rfl rfl rfl) (pa_cons (pe_f F_next_lot T.c_next_lot (hr.mono (by omega)) (px rfl rfl rfl rfl) (pa_cons (pv 1) (pa_cons (pv 2) pa_nil))) pa_nil)))
      (pss_one (ps_ret (pe_cmpR (op_eqA H64) (pv 3) (pe_m F_Glasses_rounded (pv 0) T.k_Glasses T.me_Glasses_rounded (hr.mono (by omega)) (px rfl rfl rfl rfl) (pa_cons (pe_f F_next_lot T.c_next_lot (hr.mono (by omega)) (px rfl rfl rfl rfl) (pa_cons (pv 1) (pa_cons (pe_m F_Glasses_rounded (pv 0) T.k_Glasses T.me_Glasses_rounded (hr.mono (by omega)) (px rfl rfl rfl rfl) (pa_cons (pv 2) pa_nil)) pa_nil))) pa_nil)) (nomark _))))), ?_⟩
    refine q_asg (ev_m (ev_var rfl) hG1 rfl (ea_cons (ev_f (ea_cons (ev_var rfl) (ea_cons (ev_var rfl) ea_nil)) (sv_next_lot ha)) ea_nil) (sv_rounded hG hv hm.ne (nextN_lt hrw.lt))) fun H1 e1 => ?_
    refine s_ret (ev_eqN (ev_var rfl) (ev_m (ev_var rfl) (e1 _ _ hG1) rfl (ea_cons (ev_f (ea_cons (ev_var rfl) (ea_cons (ev_m (ev_var rfl) (e1 _ _ hG1) rfl (ea_cons (ev_var rfl) ea_nil) (sv_rounded (hG.n e1.n) hv hm.ne hlt)) ea_nil)) (sv_next_lot (ha.n e1.n))) ea_nil)
      (sv_rounded (hG.n e1.n) hv hm.ne (nextN_lt hrw.lt)))) fun H2 e2 => k H2 (e1.trans e2)
theorem sv_rounded_alike {H : Hp} {G a : Addr} {v : Nat} {ms rs : List Nat} {lot : Nat} (h1 : GlAt K H G v ms) (h2 : TupN H a rs) (hv : Vok v) (hm : MsOk v ms) (hr : RowOk v rs) (hl : lot < 2 ^ v) : SpV (spSharp K) [.ref G, .ref a, vn lot] H (.bl (sharpB ms rs lot)) :=
  fun H1 e Q q E => ⟨G, a, v, ms, rs, lot, rfl, h1.n e.n, h2.n e.n, hv, hm, hr, hl, q⟩
/-- a good row is itself -/
def spCheckRow (_ : PySem.W.Frag) : Sp := fun vs H Q _ => ∃ (a : Addr) (v : Nat) (rs : List Nat), vs = [vn v, .ref a] ∧ TupN H a rs ∧ Vok v ∧ RowOk v rs ∧ RetV (.ref a) H Q
theorem ok_check_row (T : Txt w K mg) : Fok P w K mg base 4 (a_check_row K) P_check_row (spCheckRow K) := by
  have F_check_stands := ok_check_stands (P := P) (base := base) T
  have F_is_sequence := ok_is_sequence (P := P) (base := base) T
  have F_is_whole := ok_is_whole (P := P) (base := base) T
  have F_all_stands := ok_all_stands (P := P) (base := base) T
  refine fok T.f_check_row sc_check_row (fun _ _ _ _ _ _ us hl => match us, hl with | [_, _], _ => rfl) (fun vs H Q E h => ?_) (fun cdv A outer s H vs Q E hr h => ?_)
  · obtain ⟨a, v, rs, rfl, _⟩ := h
    rfl
  · obtain ⟨a, v, rs, rfl, ha, hv, hrw, k⟩ := h
    have H64 := hr.units
    refine ⟨_, (pss_cons (ps_expr (pe_f F_check_stands T.c_check_stands (hr.mono (by omega)) (px rfl rfl rfl rfl) (pa_cons (pv 0) pa_nil)))
      (pss_cons (ps_if (PW.pt (pw_or (pt_not (pt_val (pe_f F_is_sequence T.c_is_sequence (hr.mono (by omega)) (px rfl rfl rfl rfl) (pa_cons (pv 1) pa_nil)))) (pw_or1 (pt_cmpR (op_neA H64) (pe_callB call_len_seq rfl T.m_len bt_len (pa_cons (pv 1) pa_nil)) (pv 0) (nomark _))))) (pss_one ps_never) pss_nil)
      (pss_cons (ps_for (passes_of rfl) rfl (pi_enumA rfl T.m_enumerate (pa_cons (pv 1) pa_nil)) (pg_tup rfl (pgs_cons (pg_name (i := 2) sc_check_row.nd rfl (Or.inl rfl)) (pgs_cons (pg_name (i := 3) sc_check_row.nd rfl (Or.inl rfl)) pgs_nil))) (pss_one (ps_if (pt_not (pt_val (pe_f F_is_whole T.c_is_whole (hr.mono (by omega)) (px rfl rfl rfl rfl) (pa_cons (pv 3) (pa_cons pe_int (pa_cons (pe_f F_all_stands T.c_all_stands (hr.mono (by omega)) (px rfl rfl rfl rfl) (pa_cons (pv 0) pa_nil)) pa_nil)))))) (pss_one ps_never) pss_nil)))
      (pss_one (ps_ret (pe_callTy call_tuple_of rfl T.m_tuple bt_tuple (pa_cons (pv 1) pa_nil))))))), ?_⟩
    refine q_drop (ev_f (ea_cons (ev_var rfl) ea_nil) (sv_check_stands hv)) fun H1 e1 => ?_
    refine q_when (b := false) (et_is (et_or (et_not (et_B (ev_f (vs := [.ref a]) (ea_cons (ev_var rfl) ea_nil) fun H2 e2 Q q E => ⟨_, _, rfl, .tup (e2 _ _ (e1 _ _ ha)), q⟩))) (fun _ => et_test (ev_neN (ev_lenT (ev_var rfl) (e1 _ _ ha)) (ev_var rfl)))) ?_) (fun hb => nomatch hb) (fun _ H2 e2 => ?_)
    · rw [List.length_map, hrw.len]
      simp [isa]
    have e12 := e1.trans e2
    refine q_of (s_enumT (ev_var rfl) (e12 _ _ ha) (fun i σ' H' => Ex H H' ∧ ∃ s3 s4, σ' = [some (vn v), some (.ref a), s3, s4]) (fun H3 e3 => ⟨e12.trans e3, none, none, rfl⟩) (fun i σ' H' _ p => p.1 _ _ ha) (fun i x σ' H' hx p H3 e3 => ?_) fun σ' H' p => ?_)
    · obtain ⟨e4, s3, s4, rfl⟩ := p
      obtain ⟨lt, rfl⟩ := map_at hx
      have hn : rs.getD i 0 < 2 ^ v := by
        rw [List.getD_eq_getElem?_getD, List.getElem?_eq_getElem lt]
        exact hrw.lt _ (List.getElem_mem lt)
      refine s_when (b := false) (et_is (et_not (et_B (ev_f (ea_cons (ev_var rfl) (ea_cons ev_c (ea_cons (ev_f (ea_cons (ev_var rfl) ea_nil) (sv_all_stands hv)) ea_nil))) (sv_is_whole (.int _))))) ?_) (fun hb => nomatch hb) (fun _ H4 e5 => ⟨(e4.trans e3).trans e5, some (vn i), some (vn (rs.getD i 0)), rfl⟩)
      show (!lotB v (vn (rs.getD i 0))) = false
      rw [lotB_nat, decide_eq_true hn]
      rfl
    · obtain ⟨e3, s3, s4, rfl⟩ := p
      exact s_ret (ev_tupT (ev_var rfl) (e3 _ _ ha)) fun H4 e4 => k H4 (e3.trans e4)
theorem sv_check_row {H : Hp} {a : Addr} {v : Nat} {rs : List Nat} (h : TupN H a rs) (hv : Vok v) (hr : RowOk v rs) : SpV (spCheckRow K) [vn v, .ref a] H (.ref a) := fun H1 e Q q E => ⟨a, v, rs, rfl, h.n e.n, hv, hr, q⟩
theorem ok_sharp_at (T : Txt w K mg) : Fok P w K mg base 7 (a_sharp_at K) P_sharp_at (spSharp K) := by
  have F_check_row := ok_check_row (P := P) (base := base) T
  have F_rounded_alike := ok_rounded_alike (P := P) (base := base) T
  have F_check_lot := ok_check_lot (P := P) (base := base) T
  refine fok T.f_sharp_at sc_sharp_at (fun _ _ _ _ _ _ us hl => match us, hl with | [_, _, _], _ => rfl) (fun vs H Q E h => ?_) (fun cdv A outer s H vs Q E hr h => ?_)
  · obtain ⟨G, a, v, ms, rs, lot, rfl, _⟩ := h
    rfl
  · obtain ⟨G, a, v, ms, rs, lot, rfl, hG, ha, hv, hm, hrw, hlt, k⟩ := h
    obtain ⟨dx, b, hG1, hb⟩ := id hG
    refine ⟨_, (pss_cons (ps_set (i := 1) sc_sharp_at.nd rfl (Or.inl rfl) (pe_f F_check_row T.c_check_row (hr.mono (by omega)) (px rfl rfl rfl rfl) (pa_cons (pe_fld (pv 0) rfl) (pa_cons (pv 1) pa_nil))))
      (pss_one (ps_ret (pe_f F_rounded_alike T.c_rounded_alike (hr.mono (by omega)) (px rfl rfl rfl rfl) (pa_cons (pv 0) (pa_cons (pv 1) (pa_cons (pe_f F_check_lot T.c_check_lot (hr.mono (by omega)) (px rfl rfl rfl rfl) (pa_cons (pe_fld (pv 0) rfl) (pa_cons (pv 2) pa_nil))) pa_nil))))))), ?_⟩
    refine q_asg (ev_f (ea_cons (ev_fld (ev_var rfl) hG1 T.k_Glasses T.n_Glasses_stands rfl) (ea_cons (ev_var rfl) ea_nil)) (sv_check_row ha hv hrw)) fun H1 e1 => ?_
    exact s_ret (ev_f (ea_cons (ev_var rfl) (ea_cons (ev_var rfl) (ea_cons (ev_f (ea_cons (ev_fld (ev_var rfl) (e1 _ _ hG1) T.k_Glasses T.n_Glasses_stands rfl) (ea_cons (ev_var rfl) ea_nil)) (sv_check_lot hv hlt)) ea_nil))) (sv_rounded_alike (hG.n e1.n) (ha.n e1.n) hv hm hrw hlt)) fun H2 e2 => k H2 (e1.trans e2)
theorem sv_sharp_at {H : Hp} {G a : Addr} {v : Nat} {ms rs : List Nat} {lot : Nat} (h1 : GlAt K H G v ms) (h2 : TupN H a rs) (hv : Vok v) (hm : MsOk v ms) (hr : RowOk v rs) (hl : lot < 2 ^ v) : SpV (spSharp K) [.ref G, .ref a, vn lot] H (.bl (sharpB ms rs lot)) :=
  fun H1 e Q q E => ⟨G, a, v, ms, rs, lot, rfl, h1.n e.n, h2.n e.n, hv, hm, hr, hl, q⟩
end
end TA
end
/-! TaP3 -/
section
set_option Elab.async false
set_option linter.all false
set_option autoImplicit false
set_option maxRecDepth 100000
set_option maxHeartbeats 4000000
namespace TA
open PySem PySem.Spec PyProof.Rows L2 Evl
/-- the address of a name's row: the first that bears it -/
def rowAd : List Str → List Addr → Str → Addr
  | n :: ns, r :: rs, x => if n = x then r else rowAd ns rs x
  | _, _, _ => 0
theorem rowAd_first : ∀ {i : Nat} {ns : List Str} {ras : List Addr} {x : Str} {r : Addr}, (∀ j < i, ns[j]? ≠ some x) → ns[i]? = some x → ras[i]? = some r → rowAd ns ras x = r
  | 0, n :: ns, q :: ras, x, r, _, h1, h2 => by
    have e1 : n = x := Option.some.inj h1
    have e2 : q = r := Option.some.inj h2
    unfold rowAd
    rw [if_pos e1, e2]
  | i + 1, n :: ns, q :: ras, x, r, h0, h1, h2 => by
    have ne : n ≠ x := fun e => h0 0 (Nat.succ_pos i) (by rw [e]; rfl)
    unfold rowAd
    rw [if_neg ne]
    exact rowAd_first (fun j hj => h0 (j + 1) (Nat.succ_lt_succ hj)) h1 h2
  | 0, [], _, _, _, _, h1, _ => nomatch h1
  | _ + 1, [], _, _, _, _, h1, _ => nomatch h1
  | 0, _ :: _, [], _, _, _, _, h2 => nomatch h2
  | _ + 1, _ :: _, [], _, _, _, _, h2 => nomatch h2
theorem rowAd_at {H : Hp} : ∀ {ns : List Str} {ras : List Addr} {rs : List (List Nat)} {x : Str}, Paired (TupN H) ras rs → ns.length = rs.length → x ∈ ns → TupN H (rowAd ns ras x) (rowOf ns rs x) ∧ rowOf ns rs x ∈ rs
  | [], _, _, _, _, _, h => nomatch h
  | n :: ns, _, _, x, .nil, e, _ => nomatch e
  | n :: ns, _, _, x, .cons (a := q) (b := r) h t, e, hx => by
    unfold rowAd rowOf
    by_cases z : n = x
    · rw [if_pos z, if_pos z]
      exact ⟨h, List.mem_cons_self ..⟩
    · rw [if_neg z, if_neg z]
      have hx2 : x ∈ ns := (List.mem_cons.mp hx).resolve_left fun y => z y.symm
      obtain ⟨a, b⟩ := rowAd_at t (by simpa using e) hx2
      exact ⟨a, List.mem_cons_of_mem _ b⟩
/-- is it one of the names -/
def inNames (ns : List Str) : V → Bool
  | .str s => decide (s ∈ ns)
  | _ => false
theorem inV_str (ns : List Str) (s : Str) : inV (.str s) (ns.map V.str) = decide (s ∈ ns) := by
  unfold inV
  rw [List.any_map]
  by_cases h : s ∈ ns
  · rw [decide_eq_true h]
    exact List.any_eq_true.mpr ⟨s, h, by show (s == s) = true; simp⟩
  · rw [decide_eq_false h]
    refine List.any_eq_false.mpr fun y hy z => h ?_
    have e : (y == s) = true := z
    rw [← eq_of_beq e]
    exact hy
theorem flat_str (ns : List Str) : (ns.map V.str).all flatV = true := by
  rw [List.all_map]
  exact List.all_eq_true.mpr fun _ _ => rfl
section
variable {P : Program} {w : World} {K : PySem.W.Frag} {mg : Str → Option Value} {base : Heap}
/-! ### steps -/
def spContains (K : PySem.W.Frag) : Sp := fun vs H Q _ => ∃ (S : Addr) (v : Nat) (ns : List Str) (rs : List (List Nat)) (x : V) (ty : String), vs = [.ref S, x] ∧ StAt K H S v ns rs ∧ Kd H x ty ∧ RetV (.bl (inNames ns x)) H Q
theorem ok_contains (T : Txt w K mg) : Fok P w K mg base 1 (a_Steps_contains K) P_Steps_contains (spContains K) := by
  refine fok T.f_Steps_contains sc_Steps_contains (fun _ _ _ _ _ _ us hl => match us, hl with | [_, _], _ => rfl) (fun vs H Q E h => ?_) (fun cdv A outer s H vs Q E hr h => ?_)
  · obtain ⟨S, v, ns, rs, x, ty, rfl, _⟩ := h
    rfl
  · obtain ⟨S, v, ns, rs, x, ty, rfl, ⟨dx, a, b, ras, h1, h2, h3, h4, h5⟩, hk, k⟩ := h
    refine ⟨_, (pss_one (ps_ret (pe_and (pe_callB call_isi rfl T.m_isinstance bt_isinstance (pa_cons (pv 1) (pa_cons (pe_ct T.m_str bt_str) pa_nil))) (pe_one (pe_cmpR op_in_seq (pv 1) (pe_fld (pv 0) rfl) (by rfl)))))), ?_⟩
    have e : (isa ty "str" && inNames ns x) = inNames ns x := by
      cases hk <;> first | rfl | (show (true && _) = _; rw [Bool.true_and])
    refine s_ret (ev_is (ev_andV (b := inNames ns x) (ev_isi (ev_var rfl) hk (by decide)) (fun hb => ?_)) (congrArg V.bl e)) k
    cases hk with
    | str z => exact ev_is (ev_op (ev_var rfl) (ev_fld (ev_var rfl) h1 T.k_Steps T.n_Steps_names rfl) (rv_isT (st_of h2) rfl (flat_str ns))) (congrArg V.bl (inV_str ns z))
    | _ => exact absurd hb (by decide)
def spRowOf (K : PySem.W.Frag) : Sp := fun vs H Q _ => ∃ (S dx a b : Addr) (v : Nat) (ns : List Str) (ras : List Addr) (x : Str), vs = [.ref S, .str x] ∧ H S = some (.ins (He.ga K "Steps") dx (stFs v a b)) ∧ H a = some (.tup (ns.map V.str)) ∧ H b = some (.tup (ras.map V.ref)) ∧
  ns.length = ras.length ∧ x ∈ ns ∧ RetV (.ref (rowAd ns ras x)) H Q
theorem ok_row_of (T : Txt w K mg) : Fok P w K mg base 1 (a_Steps_row_of K) P_Steps_row_of (spRowOf K) := by
  refine fok T.f_Steps_row_of sc_Steps_row_of (fun _ _ _ _ _ _ us hl => match us, hl with | [_, _], _ => rfl) (fun vs H Q E h => ?_) (fun cdv A outer s H vs Q E hr h => ?_)
  · obtain ⟨S, dx, a, b, v, ns, ras, x, rfl, _⟩ := h
    rfl
  · obtain ⟨S, dx, a, b, v, ns, ras, x, rfl, h1, h2, h3, h4, h5, k⟩ := h
    have H64 := hr.units
    refine ⟨_, (pss_cons (ps_for (passes_of rfl) rfl (RZ.pi_zipA rfl T.m_zip (pa_cons (pe_fld (pv 0) rfl) (pa_cons (pe_fld (pv 0) rfl) pa_nil))) (pg_tup rfl (pgs_cons (pg_name (i := 2) sc_Steps_row_of.nd rfl (Or.inl rfl)) (pgs_cons (pg_name (i := 3) sc_Steps_row_of.nd rfl (Or.inl rfl)) pgs_nil))) (pss_one (ps_if (PW.pt (pw_and (pt_val (pe_callB call_isi rfl T.m_isinstance bt_isinstance (pa_cons (pv 1) (pa_cons (pe_ct T.m_str bt_str) pa_nil)))) (pw_and1 (pt_cmpR (op_eqA H64) (pv 2) (pv 1) (nomark _))))) (pss_one (ps_ret (pv 3))) pss_nil)))
      (pss_one ps_never)), ?_⟩
    refine q_of (s_zipT (ev_fld (ev_var rfl) h1 T.k_Steps T.n_Steps_names rfl) (ev_fld (ev_var rfl) h1 T.k_Steps T.n_Steps_rows rfl) h2 h3 (by rw [List.length_map, List.length_map]; exact h4)
      (fun i σ' H' => Ex H H' ∧ (∀ j < i, ns[j]? ≠ some x) ∧ ∃ s2 s3, σ' = [some (.ref S), some (.str x), s2, s3]) (fun H1 e1 => ⟨e1, fun j hj => absurd hj (Nat.not_lt_zero j), none, none, rfl⟩) (fun i σ' H' _ p => ⟨p.1 _ _ h2, p.1 _ _ h3⟩) (fun i y z σ' H' hy hz p H2 e2 => ?_) fun σ' H' p => ?_)
    · obtain ⟨e1, hn, s2, s3, rfl⟩ := p
      rw [List.getElem?_map] at hy hz
      obtain ⟨n, hn1, rfl⟩ := Option.map_eq_some_iff.mp hy
      obtain ⟨r, hr1, rfl⟩ := Option.map_eq_some_iff.mp hz
      refine s_when (b := decide (n = x)) (et_is (et_and (et_B (ev_isi (ev_var rfl) (.str x) (by decide))) (fun _ => et_test (ev_eqS (ev_var rfl) (ev_var rfl)))) (by show (true && _) = _; rw [Bool.true_and])) (fun hb H3 e3 => ?_) (fun hb H3 e3 => ?_)
      · have e := of_decide_eq_true hb
        subst e
        refine s_ret (ev_var rfl) fun H4 e4 => ?_
        have q := k H4 (((e1.trans e2).trans e3).trans e4)
        rw [rowAd_first hn hn1 hr1] at q
        exact q
      · refine ⟨(e1.trans e2).trans e3, fun j hj => ?_, some (.str n), some (.ref r), rfl⟩
        by_cases z : j = i
        · subst z
          intro y
          rw [hn1] at y
          exact of_decide_eq_false hb (Option.some.inj y)
        · exact hn j (by omega)
    · obtain ⟨e1, hn, s2, s3, rfl⟩ := p
      rw [List.length_map] at hn
      obtain ⟨j, hj, e⟩ := List.mem_iff_getElem.mp h5
      exact hn j hj (by rw [List.getElem?_eq_getElem hj, e])
theorem sv_row_of {H : Hp} {S dx a b : Addr} {v : Nat} {ns : List Str} {ras : List Addr} {x : Str} (h1 : H S = some (.ins (He.ga K "Steps") dx (stFs v a b))) (h2 : H a = some (.tup (ns.map V.str))) (h3 : H b = some (.tup (ras.map V.ref))) (h4 : ns.length = ras.length) (h5 : x ∈ ns) :
    SpV (spRowOf K) [.ref S, .str x] H (.ref (rowAd ns ras x)) := fun H1 e Q q E => ⟨S, dx, a, b, v, ns, ras, x, rfl, e _ _ h1, e _ _ h2, e _ _ h3, h4, h5, q⟩
/-! ### unlike stands -/
def spAlike (K : PySem.W.Frag) : Sp := fun vs H Q E => ∃ (G S : Addr) (v v2 : Nat) (ms : List Nat) (ns : List Str) (rs : List (List Nat)), vs = [.ref G, .ref S] ∧ GlAt K H G v ms ∧ StAt K H S v2 ns rs ∧ (v = v2 → RetV .non H Q) ∧ (v ≠ v2 → ∀ H2, Ex H H2 → E (.ref (He.ga K "UnlikeStands")) none H2)
theorem ok_check_alike (T : Txt w K mg) : Fok P w K mg base 1 (a_check_alike K) P_check_alike (spAlike K) := by
  refine fok T.f_check_alike sc_check_alike (fun _ _ _ _ _ _ us hl => match us, hl with | [_, _], _ => rfl) (fun vs H Q E h => ?_) (fun cdv A outer s H vs Q E hr h => ?_)
  · obtain ⟨G, S, v, v2, ms, ns, rs, rfl, _⟩ := h
    rfl
  · obtain ⟨G, S, v, v2, ms, ns, rs, rfl, ⟨dx, a, h1, _⟩, ⟨dy, c, d, ras, h2, _⟩, k1, k2⟩ := h
    have H64 := hr.units
    refine ⟨_, (pss_one (ps_if (pt_cmpR (op_neA H64) (pe_fld (pv 0) rfl) (pe_fld (pv 1) rfl) (nomark _)) (pss_one (ps_raise rfl (takes_of rfl rfl rfl rfl) (pmk_own0 PySem.F.excBase_ValueError T.e_UnlikeStands.1 T.g_UnlikeStands T.e_UnlikeStands.2.1 (raises_own T.e_UnlikeStands.2.2.1 T.e_UnlikeStands.2.2.2) rfl))) pss_nil)), ?_⟩
    refine s_when (et_test (ev_neN (ev_fld (ev_var rfl) h1 T.k_Glasses T.n_Glasses_stands rfl) (ev_fld (ev_var rfl) h2 T.k_Steps T.n_Steps_stands rfl))) (fun hb H1 e1 => ?_) (fun hb H1 e1 => ?_)
    · exact k2 (by simpa using hb) H1 e1
    · exact k1 (by simpa using hb) H1 e1
/-! ### a step met -/
abbrev metFs (p n l : V) : List (Str × V) := [("path", p), ("name", n), ("lot", l)]
def spMetInit (K : PySem.W.Frag) : Sp := fun vs H Q _ => ∃ (x dx : Addr) (p n l : V), vs = [.ref x, p, n, l] ∧ H x = some (.ins (He.ga K "Met") dx []) ∧ Q .non (upd H x (.ins (He.ga K "Met") dx (metFs p n l)))
theorem ok_Met_init (T : Txt w K mg) : Fok P w K mg base 1 (a_Met_init K) P_Met_init (spMetInit K) := by
  refine fok T.f_Met_init sc_Met_init (fun _ _ _ _ _ _ us hl => match us, hl with | [_, _, _, _], _ => rfl) (fun vs H Q E h => ?_) (fun cdv A outer s H vs Q E hr h => ?_)
  · obtain ⟨x, dx, p, n, l, rfl, _⟩ := h
    rfl
  · obtain ⟨x, dx, p, n, l, rfl, hx, k⟩ := h
    refine ⟨_, (pss_cons (ps_fld (pv 0) (pv 1) rfl)
      (pss_cons (ps_fld (pv 0) (pv 2) rfl)
      (pss_one (ps_fld (pv 0) (pv 3) rfl)))), ?_⟩
    refine ⟨_, rfl, _, rfl, x, _, dx, [], rfl, hx, T.k_Met, T.n_Met_path, (by show 0 < 1000; decide), ?_⟩
    refine ⟨_, rfl, _, rfl, x, _, dx, _, rfl, upd_same, T.k_Met, T.n_Met_name, (by show 1 < 1000; decide), ?_⟩
    refine ⟨_, rfl, _, rfl, x, _, dx, _, rfl, upd_same, T.k_Met, T.n_Met_lot, (by show 2 < 1000; decide), ?_⟩
    rw [upd_upd, upd_upd]
    exact k
/-! ### the end of a run -/
/-- steps and a program that fit -/
structure Fit (v : Nat) (ns : List Str) (rs : List (List Nat)) (p : Pg) : Prop where
  vok : Vok v
  rows : ∀ r ∈ rs, RowOk v r
  use : ∀ x ∈ p.uses, x ∈ ns
theorem Fit.lt {v : Nat} {ns : List Str} {rs : List (List Nat)} {p : Pg} (f : Fit v ns rs p) : ∀ nm, ∀ y ∈ rowOf ns rs nm, y < 2 ^ v := fun nm => rowOf_lt fun r hr => (f.rows r hr).lt
def spEnd (K : PySem.W.Frag) (n : Nat) : Sp := fun vs H Q _ => ∃ (S p : Addr) (v : Nat) (ns : List Str) (rs : List (List Nat)) (pg : Pg) (lot : Nat), vs = [.ref S, .ref p, vn lot] ∧ StAt K H S v ns rs ∧ PrAt H pg p ∧ pg.ht ≤ n ∧ Fit v ns rs pg ∧ lot < 2 ^ v ∧
  RetV (vn (runN (rowOf ns rs) pg lot).1) H Q
theorem ht_pos : ∀ p : Pg, 0 < p.ht
  | .no => Nat.one_pos
  | .st _ => Nat.one_pos
  | .be _ _ => Nat.succ_pos _
  | .ei _ _ => Nat.succ_pos _
  | .ag _ => Nat.succ_pos _
theorem sv_end {H : Hp} {n : Nat} {S p : Addr} {v : Nat} {ns : List Str} {rs : List (List Nat)} {pg : Pg} {lot : Nat} (h1 : StAt K H S v ns rs) (h2 : PrAt H pg p) (h3 : pg.ht ≤ n) (h4 : Fit v ns rs pg) (h5 : lot < 2 ^ v) :
    SpV (spEnd K n) [.ref S, .ref p, vn lot] H (vn (runN (rowOf ns rs) pg lot).1) := fun H1 e Q q E => ⟨S, p, v, ns, rs, pg, lot, rfl, h1.n e.n, h2.n e.n, h3, h4, h5, q⟩
theorem ok_end_of (T : Txt w K mg) : ∀ n, Fok P w K mg base (n + 10) (a_end_of K) P_end_of (spEnd K n)
  | 0 => by
    refine fok T.f_end_of sc_end_of (fun _ _ _ _ _ _ us hl => match us, hl with | [_, _, _], _ => rfl) (fun vs H Q E h => ?_) (fun cdv A outer s H vs Q E hr h => ?_)
    · obtain ⟨S, p, v, ns, rs, pg, lot, rfl, _⟩ := h
      rfl
    · obtain ⟨S, p, v, ns, rs, pg, lot, rfl, _, _, h, _⟩ := h
      have := ht_pos pg
      omega
  | n + 1 => by
    have F_end_of := ok_end_of T n
    have F_next_lot := ok_next_lot (P := P) (base := base) T
    have F_Steps_row_of := ok_row_of (P := P) (base := base) T
    refine fok T.f_end_of sc_end_of (fun _ _ _ _ _ _ us hl => match us, hl with | [_, _, _], _ => rfl) (fun vs H Q E h => ?_) (fun cdv A outer s H vs Q E hr h => ?_)
    · obtain ⟨S, p, v, ns, rs, pg, lot, rfl, _⟩ := h
      rfl
    · obtain ⟨S, p, v, ns, rs, pg, lot, rfl, hS, hp, hh, hF, hl, k⟩ := h
      have H64 := hr.units
      refine ⟨_, (pss_cons (ps_set (i := 3) sc_end_of.nd rfl (Or.inl rfl) (pe_ix ix_A (pv 1) pe_int (fun _ _ => rfl)))
      (pss_cons (ps_if (pt_cmpR (op_eqA H64) (pv 3) pe_str (nomark _)) (pss_one (ps_ret (pe_f F_next_lot T.c_next_lot (hr.mono (by omega)) (px rfl rfl rfl rfl) (pa_cons (pe_m F_Steps_row_of (pv 0) T.k_Steps T.me_Steps_row_of (hr.mono (by omega)) (px rfl rfl rfl rfl) (pa_cons (pe_ix ix_A (pv 1) pe_int (fun _ _ => rfl)) pa_nil)) (pa_cons (pv 2) pa_nil))))) pss_nil)
      (pss_cons (ps_if (pt_cmpR (op_eqA H64) (pv 3) pe_str (nomark _)) (pss_one (ps_ret (pv 2))) pss_nil)
      (pss_cons (ps_if (pt_cmpR (op_eqA H64) (pv 3) pe_str (nomark _)) (pss_one (ps_ret (pe_f F_end_of T.c_end_of (hr.mono (by omega)) (px rfl rfl rfl rfl) (pa_cons (pv 0) (pa_cons (pe_ix ix_A (pv 1) pe_int (fun _ _ => rfl)) (pa_cons (pe_f F_end_of T.c_end_of (hr.mono (by omega)) (px rfl rfl rfl rfl) (pa_cons (pv 0) (pa_cons (pe_ix ix_A (pv 1) pe_int (fun _ _ => rfl)) (pa_cons (pv 2) pa_nil)))) pa_nil)))))) pss_nil)
      (pss_cons (ps_if (pt_cmpR (op_eqA H64) (pv 3) pe_str (nomark _)) (pss_one (ps_ret (pe_op op_or (pe_f F_end_of T.c_end_of (hr.mono (by omega)) (px rfl rfl rfl rfl) (pa_cons (pv 0) (pa_cons (pe_ix ix_A (pv 1) pe_int (fun _ _ => rfl)) (pa_cons (pv 2) pa_nil)))) (pe_f F_end_of T.c_end_of (hr.mono (by omega)) (px rfl rfl rfl rfl) (pa_cons (pv 0) (pa_cons (pe_ix ix_A (pv 1) pe_int (fun _ _ => rfl)) (pa_cons (pv 2) pa_nil))))))) pss_nil)
      (pss_cons (ps_set (i := 4) sc_end_of.nd rfl (Or.inl rfl) (pv 2))
      (pss_one (ps_while (passes_of rfl) (pt_val pe_bl) (pss_cons (ps_set (i := 5) sc_end_of.nd rfl (Or.inl rfl) (pe_op op_or (pv 4) (pe_f F_end_of T.c_end_of (hr.mono (by omega)) (px rfl rfl rfl rfl) (pa_cons (pv 0) (pa_cons (pe_ix ix_A (pv 1) pe_int (fun _ _ => rfl)) (pa_cons (pv 4) pa_nil))))))
      (pss_cons (ps_if (pt_cmpR (op_eqA H64) (pv 5) (pv 4) (nomark _)) (pss_one (ps_ret (pv 4))) pss_nil)
      (pss_one (ps_set (i := 4) sc_end_of.nd rfl (Or.inl rfl) (pv 5))))))))))))), ?_⟩
      have no : ∀ {z y : Str} {σ : L2.St} {H2 : Hp} {t u : TS} {D : Ends}, σ[3]? = some (some (.str z)) → decide (z = y) = false → (∀ H3, Ex H2 H3 → u D σ H3) → tSeq (tIfS (tTest (tOp (rEqA K) (tVar 3) (tC (.str y)))) t tNext) u D σ H2 := fun h1 h2 h3 =>
        q_when (b := false) (et_is (et_test (ev_eqS (ev_var h1) ev_c)) h2) (fun z => nomatch z) (fun _ => h3)
      cases pg with
      | no =>
        refine q_asg (ev_ixT (ev_var rfl) (ev_c (v := .int 0)) hp rfl) fun H1 e1 => ?_
        refine no rfl (by decide +kernel) fun H2 e2 => ?_
        refine q_when (b := true) (et_is (et_test (ev_eqS (ev_var rfl) ev_c)) (by decide +kernel)) (fun _ H3 e3 => ?_) (fun z => nomatch z)
        exact s_ret (ev_var rfl) fun H4 e4 => k H4 (((e1.trans e2).trans e3).trans e4)
      | st nm =>
        obtain ⟨dx, a, b, ras, h1, h2, h3, h4, h5⟩ := id hS
        have hnm : nm ∈ ns := hF.use nm (List.mem_singleton.mpr rfl)
        have hra := rowAd_at h4 h5 hnm
        refine q_asg (ev_ixT (ev_var rfl) (ev_c (v := .int 0)) hp rfl) fun H1 e1 => ?_
        refine q_when (b := true) (et_is (et_test (ev_eqS (ev_var rfl) ev_c)) (by decide +kernel)) (fun _ H2 e2 => ?_) (fun z => nomatch z)
        have e12 := e1.trans e2
        have hl2 : ns.length = ras.length := h5.trans (Paired.length h4).symm
        exact s_ret (ev_f (ea_cons (ev_m (ev_var rfl) (e12 _ _ h1) rfl (ea_cons (ev_ixT (ev_var rfl) (ev_c (v := .int 1)) (e12 _ _ hp) rfl) ea_nil) (sv_row_of (e12 _ _ h1) (e12 _ _ h2) (e12 _ _ h3) hl2 hnm)) (ea_cons (ev_var rfl) ea_nil)) (sv_next_lot (hra.1.n e12.n))) fun H3 e3 => k H3 (e12.trans e3)
      | be p1 p2 =>
        obtain ⟨b, c, hp, hb, hc⟩ := hp
        have hh2 : max p1.ht p2.ht + 1 ≤ n + 1 := hh
        have F1 : Fit v ns rs p1 := ⟨hF.vok, hF.rows, fun x hx => hF.use x (List.mem_append_left _ hx)⟩
        have F2 : Fit v ns rs p2 := ⟨hF.vok, hF.rows, fun x hx => hF.use x (List.mem_append_right _ hx)⟩
        refine q_asg (ev_ixT (ev_var rfl) (ev_c (v := .int 0)) hp rfl) fun H1 e1 => ?_
        refine no rfl (by decide +kernel) fun H2 e2 => ?_
        refine no rfl (by decide +kernel) fun H3 e3 => ?_
        refine q_when (b := true) (et_is (et_test (ev_eqS (ev_var rfl) ev_c)) (by decide +kernel)) (fun _ H4 e4 => ?_) (fun z => nomatch z)
        have e := ((e1.trans e2).trans e3).trans e4
        exact s_ret (ev_f (ea_cons (ev_var rfl) (ea_cons (ev_ixT (ev_var rfl) (ev_c (v := .int 2)) (e _ _ hp) rfl) (ea_cons (ev_f (ea_cons (ev_var rfl) (ea_cons (ev_ixT (ev_var rfl) (ev_c (v := .int 1)) (e _ _ hp) rfl) (ea_cons (ev_var rfl) ea_nil))) (sv_end (hS.n e.n) (hb.n e.n) (by omega) F1 hl)) ea_nil)))
          (sv_end (hS.n e.n) (hc.n e.n) (by omega) F2 (runN_lt F1.lt p1 lot hl))) fun H5 e5 => k H5 (e.trans e5)
      | ei p1 p2 =>
        obtain ⟨b, c, hp, hb, hc⟩ := hp
        have hh2 : max p1.ht p2.ht + 1 ≤ n + 1 := hh
        have F1 : Fit v ns rs p1 := ⟨hF.vok, hF.rows, fun x hx => hF.use x (List.mem_append_left _ hx)⟩
        have F2 : Fit v ns rs p2 := ⟨hF.vok, hF.rows, fun x hx => hF.use x (List.mem_append_right _ hx)⟩
        refine q_asg (ev_ixT (ev_var rfl) (ev_c (v := .int 0)) hp rfl) fun H1 e1 => ?_
        refine no rfl (by decide +kernel) fun H2 e2 => ?_
        refine no rfl (by decide +kernel) fun H3 e3 => ?_
        refine no rfl (by decide +kernel) fun H3' e3' => ?_
        refine q_when (b := true) (et_is (et_test (ev_eqS (ev_var rfl) ev_c)) (by decide +kernel)) (fun _ H4 e4 => ?_) (fun z => nomatch z)
        have e := (((e1.trans e2).trans e3).trans e3').trans e4
        exact s_ret (ev_or (ev_f (ea_cons (ev_var rfl) (ea_cons (ev_ixT (ev_var rfl) (ev_c (v := .int 1)) (e _ _ hp) rfl) (ea_cons (ev_var rfl) ea_nil))) (sv_end (hS.n e.n) (hb.n e.n) (by omega) F1 hl))
          (ev_f (ea_cons (ev_var rfl) (ea_cons (ev_ixT (ev_var rfl) (ev_c (v := .int 2)) (e _ _ hp) rfl) (ea_cons (ev_var rfl) ea_nil))) (sv_end (hS.n e.n) (hc.n e.n) (by omega) F2 hl))) fun H5 e5 => k H5 (e.trans e5)
      | ag p1 =>
        obtain ⟨b, hp, hb⟩ := hp
        have hh2 : p1.ht + 1 ≤ n + 1 := hh
        have F1 : Fit v ns rs p1 := ⟨hF.vok, hF.rows, hF.use⟩
        refine q_asg (ev_ixT (ev_var rfl) (ev_c (v := .int 0)) hp rfl) fun H1 e1 => ?_
        refine no rfl (by decide +kernel) fun H2 e2 => ?_
        refine no rfl (by decide +kernel) fun H3 e3 => ?_
        refine no rfl (by decide +kernel) fun H3' e3' => ?_
        refine no rfl (by decide +kernel) fun H4 e4 => ?_
        have e := (((e1.trans e2).trans e3).trans e3').trans e4
        refine q_asg (ev_var rfl) fun H5 e5 => ?_
        have v6 : (2 : Nat) ^ v ≤ 64 := Nat.pow_le_pow_right (by decide) hF.vok.2
        refine s_while (fun m σ' H' => Ex H H' ∧ ∃ (r : Nat) (s5 : Option V), r < 2 ^ v ∧ (runN (rowOf ns rs) (.ag p1) lot).1 = (agR m (runN (rowOf ns rs) p1) r).1 ∧ 8 ≤ bits r + m ∧ σ' = [some (.ref S), some (.ref p), some (vn lot), some (.str "again"), some (vn r), s5]) 8
          ⟨e.trans e5, lot, none, hl, rfl, Nat.le_add_left _ _, rfl⟩ fun m σ' H' ⟨e6, r, s5, hr1, hv, hbm, eσ⟩ => ?_
        subst eσ
        refine ⟨true, et_B ev_c, fun _ H7 e7 => ?_, fun z => nomatch z⟩
        obtain ⟨m, rfl⟩ : ∃ j, m = j + 1 := ⟨m - 1, by have := bits_le r; omega⟩
        have e67 := e6.trans e7
        have hlt := runN_lt F1.lt p1 r hr1
        refine ⟨fun σ2 H2 => ∃ m', m' < m + 1 ∧ (Ex H H2 ∧ ∃ (r : Nat) (s5 : Option V), r < 2 ^ v ∧ (runN (rowOf ns rs) (.ag p1) lot).1 = (agR m' (runN (rowOf ns rs) p1) r).1 ∧ 8 ≤ bits r + m' ∧ σ2 = [some (.ref S), some (.ref p), some (vn lot), some (.str "again"), some (vn r), s5]), fun σ2 H2 q => q, ?_⟩
        refine q_asg (ev_or (ev_var rfl) (ev_f (ea_cons (ev_var rfl) (ea_cons (ev_ixT (ev_var rfl) (ev_c (v := .int 1)) (e67 _ _ hp) rfl) (ea_cons (ev_var rfl) ea_nil))) (sv_end (hS.n e67.n) (hb.n e67.n) (by omega) F1 hr1))) fun H8 e8 => ?_
        refine q_when (et_test (ev_eqN (ev_var rfl) (ev_var rfl))) (fun hb2 H9 e9 => ?_) (fun hb2 H9 e9 => ?_)
        · have q := of_decide_eq_true hb2
          refine s_ret (ev_var rfl) fun H10 e10 => ?_
          have z := k H10 (((e67.trans e8).trans e9).trans e10)
          rw [hv] at z
          unfold agR at z
          rw [if_pos q] at z
          exact z
        · have q := of_decide_eq_false hb2
          refine s_asg (ev_var rfl) fun H10 e10 => ⟨m, Nat.lt_succ_self m, ((e67.trans e8).trans e9).trans e10, _, some (vn (r ||| (runN (rowOf ns rs) p1 r).1)), Nat.or_lt_two_pow hr1 hlt, ?_, ?_, rfl⟩
          · rw [hv]
            conv => lhs; unfold agR
            rw [if_neg q]
          · have g := bits_grow r (by omega) _ (Nat.lt_of_lt_of_le hlt v6) q
            omega
end
end TA
end
/-! TaP4 -/
section
set_option Elab.async false
set_option linter.all false
set_option autoImplicit false
set_option maxRecDepth 100000
set_option maxHeartbeats 4000000
namespace TA
open PySem PySem.Spec PyProof.Rows L2 Evl
theorem paired_app {α β : Type} {F : α → β → Prop} : ∀ {a : List α} {b : List β} {c : List α} {d : List β}, Paired F a b → Paired F c d → Paired F (a ++ c) (b ++ d)
  | _, _, _, _, .nil, h => h
  | _, _, _, _, .cons r t, h => .cons r (paired_app t h)
section
variable {K : PySem.W.Frag} {σ : L2.St} {H : Hp} {te tp : TE} {Q : VK}
/-- path + (v,) -/
theorem catT {pa : Addr} {xs : List V} {v : V} (hp : Ev tp σ H (.ref pa)) (hx : H pa = some (.tup xs)) (hz : xs.length ≤ 10000) (hv : ∀ H1, Ex H H1 → Ev te σ H1 v) (k : ∀ q H2, Ex H H2 → H2 q = some (.tup (xs ++ [v])) → Q (.ref q) H2) :
    tOp (rAddA K) tp (tTup (tCons te tNil)) σ H Q := hp H (Ex.refl H) _ fun H1 e1 => (hv H1 e1) H1 (Ex.refl H1) _ fun H2 e2 => ⟨by show 1 ≤ sizeLine; decide, fun b hb => by
    have e12 := e1.trans e2
    have e3 := e12.trans (Ex.new (o := .tup [v]) hb)
    refine .inr (.inr ⟨pa, b, xs, [v], rfl, rfl, st_of (e3 _ _ hx), st_of upd_same, ?_, fun h => ?_, fun _ h => absurd h (List.cons_ne_nil _ _), fun _ _ p hp => ?_⟩)
    · exact sz_of (by show xs.length + 1 ≤ 100000; omega)
    · subst h
      exact k b _ e3 upd_same
    · exact k p _ (e3.trans (Ex.new hp)) upd_same⟩
theorem r_bor {a b : Nat} (h : Q (vn (a ||| b)) H) : rI0 (fun i j => .int (Builtin.bitOr i j)) (vn a) (vn b) H Q := ⟨_, _, rfl, rfl, by
  show Q (.int (Builtin.bitOr (a : Int) (b : Int))) H
  rw [bor_nat]
  exact h⟩
end
def spPut (K : PySem.W.Frag) (n : Nat) : Sp := fun vs H Q _ => ∃ (S p pa M : Addr) (v : Nat) (ns : List Str) (rs : List (List Nat)) (pg : Pg) (lot : Nat) (xs ms : List V), vs = [.ref S, .ref p, vn lot, .ref pa, .ref M] ∧ StAt K H S v ns rs ∧ PrAt H pg p ∧ pg.ht ≤ n ∧ Fit v ns rs pg ∧ lot < 2 ^ v ∧
  H pa = some (.tup xs) ∧ xs.length + n ≤ 1000 ∧ H M = some (.lst ms) ∧ ms.length + pg.wt < 100000 ∧
  ∀ H2 new, XO M H H2 → H2 M = some (.lst (ms ++ new)) → Paired (MetAt K H2) new (runN (rowOf ns rs) pg lot).2 → Q (vn (runN (rowOf ns rs) pg lot).1) H2
section
variable {P : Program} {w : World} {K : PySem.W.Frag} {mg : Str → Option Value} {base : Heap}
theorem put_at {n : Nat} {σ : L2.St} {H : Hp} {Q : VK} {E : XK} {S p pa M : Addr} {v : Nat} {ns : List Str} {rs : List (List Nat)} {pg : Pg} {lot : Nat} {xs ms : List V} {tb tl te : TE} {z : V} (h0 : σ[0]? = some (some (.ref S))) (hb : Ev tb σ H (.ref p)) (hl : Ev tl σ H (vn lot)) (h3 : σ[3]? = some (some (.ref pa)))
    (he : ∀ H1, Ex H H1 → Ev te σ H1 z) (h4 : σ[4]? = some (some (.ref M))) (hS : StAt K H S v ns rs) (hp : PrAt H pg p) (hh : pg.ht ≤ n) (hF : Fit v ns rs pg) (hlt : lot < 2 ^ v) (hx : H pa = some (.tup xs)) (hz : xs.length + n < 1000) (hM : H M = some (.lst ms)) (hw : ms.length + pg.wt < 100000)
    (k : ∀ H2 new, XO M H H2 → H2 M = some (.lst (ms ++ new)) → Paired (MetAt K H2) new (runN (rowOf ns rs) pg lot).2 → Q (vn (runN (rowOf ns rs) pg lot).1) H2) :
    tCall (spPut K n) [] E (tCons (tVar 0) (tCons tb (tCons tl (tCons (tOp (rAddA K) (tVar 3) (tTup (tCons te tNil))) (tCons (tVar 4) tNil))))) σ H Q := by
  refine ⟨_, h0, ?_⟩
  refine go hb fun H1 e1 => ?_
  refine hl H1 e1 _ fun H2 e2 => ?_
  have e12 := e1.trans e2
  refine catT (xs := xs) (v := z) (ev_var h3) (e12 _ _ hx) (by omega) (fun H3 e3 => he H3 (e12.trans e3)) fun q H3 e3 hq => ?_
  have e := e12.trans e3
  refine ⟨_, h4, S, p, q, M, v, ns, rs, pg, lot, xs ++ [z], ms, rfl, hS.n e.n, hp.n e.n, hh, hF, hlt, hq, ?_, e _ _ hM, hw, fun H4 new x4 hM4 hp4 => k H4 new (e.o.trans x4) hM4 hp4⟩
  rw [List.length_append, List.length_singleton]
  omega
theorem ok_put_met (T : Txt w K mg) : ∀ n, Fok P w K mg base (n + 10) (a_put_met K) P_put_met (spPut K n)
  | 0 => by
    refine fok T.f_put_met sc_put_met (fun _ _ _ _ _ _ us hl => match us, hl with | [_, _, _, _, _], _ => rfl) (fun vs H Q E h => ?_) (fun cdv A outer s H vs Q E hr h => ?_)
    · obtain ⟨S, p, pa, M, v, ns, rs, pg, lot, xs, ms, rfl, _⟩ := h
      rfl
    · obtain ⟨S, p, pa, M, v, ns, rs, pg, lot, xs, ms, rfl, _, _, h, _⟩ := h
      have := ht_pos pg
      omega
  | n + 1 => by
    have F_put_met := ok_put_met T n
    have F_next_lot := ok_next_lot (P := P) (base := base) T
    have F_Steps_row_of := ok_row_of (P := P) (base := base) T
    have F_Met_init := ok_Met_init (P := P) (base := base) T
    refine fok T.f_put_met sc_put_met (fun _ _ _ _ _ _ us hl => match us, hl with | [_, _, _, _, _], _ => rfl) (fun vs H Q E h => ?_) (fun cdv A outer s H vs Q E hr h => ?_)
    · obtain ⟨S, p, pa, M, v, ns, rs, pg, lot, xs, ms, rfl, _⟩ := h
      rfl
    · obtain ⟨S, p, pa, M, v, ns, rs, pg, lot, xs, ms, rfl, hS, hp, hh, hF, hl, hpa, hxz, hM, hwt, k⟩ := h
      have H64 := hr.units
      refine ⟨_, (pss_cons (ps_set (i := 5) sc_put_met.nd rfl (Or.inl rfl) (pe_ix ix_A (pv 1) pe_int (fun _ _ => rfl)))
      (pss_cons (ps_if (pt_cmpR (op_eqA H64) (pv 5) pe_str (nomark _)) (pss_cons (ps_expr (pe_bm PySem.F.plainAttrs_list PySem.F.slot_list_append PySem.F.type_list_append mt_append (pv 4) (pa_cons (pe_new F_Met_init T.mk_Met T.g_Met (hr.mono (by omega)) (px rfl rfl rfl rfl) (pa_cons (pv 3) (pa_cons (pe_ix ix_A (pv 1) pe_int (fun _ _ => rfl)) (pa_cons (pv 2) pa_nil)))) pa_nil)))
      (pss_one (ps_ret (pe_f F_next_lot T.c_next_lot (hr.mono (by omega)) (px rfl rfl rfl rfl) (pa_cons (pe_m F_Steps_row_of (pv 0) T.k_Steps T.me_Steps_row_of (hr.mono (by omega)) (px rfl rfl rfl rfl) (pa_cons (pe_ix ix_A (pv 1) pe_int (fun _ _ => rfl)) pa_nil)) (pa_cons (pv 2) pa_nil)))))) pss_nil)
      (pss_cons (ps_if (pt_cmpR (op_eqA H64) (pv 5) pe_str (nomark _)) (pss_one (ps_ret (pv 2))) pss_nil)
      (pss_cons (ps_if (pt_cmpR (op_eqA H64) (pv 5) pe_str (nomark _)) (pss_cons (ps_set (i := 6) sc_put_met.nd rfl (Or.inl rfl) (pe_f F_put_met T.c_put_met (hr.mono (by omega)) (px rfl rfl rfl rfl) (pa_cons (pv 0) (pa_cons (pe_ix ix_A (pv 1) pe_int (fun _ _ => rfl)) (pa_cons (pv 2) (pa_cons (pe_op op_addA (pv 3) (pe_tup (pa_cons pe_int pa_nil))) (pa_cons (pv 4) pa_nil)))))))
      (pss_one (ps_ret (pe_f F_put_met T.c_put_met (hr.mono (by omega)) (px rfl rfl rfl rfl) (pa_cons (pv 0) (pa_cons (pe_ix ix_A (pv 1) pe_int (fun _ _ => rfl)) (pa_cons (pv 6) (pa_cons (pe_op op_addA (pv 3) (pe_tup (pa_cons pe_int pa_nil))) (pa_cons (pv 4) pa_nil))))))))) pss_nil)
      (pss_cons (ps_if (pt_cmpR (op_eqA H64) (pv 5) pe_str (nomark _)) (pss_cons (ps_set (i := 7) sc_put_met.nd rfl (Or.inl rfl) (pe_f F_put_met T.c_put_met (hr.mono (by omega)) (px rfl rfl rfl rfl) (pa_cons (pv 0) (pa_cons (pe_ix ix_A (pv 1) pe_int (fun _ _ => rfl)) (pa_cons (pv 2) (pa_cons (pe_op op_addA (pv 3) (pe_tup (pa_cons pe_int pa_nil))) (pa_cons (pv 4) pa_nil)))))))
      (pss_one (ps_ret (pe_op op_or (pv 7) (pe_f F_put_met T.c_put_met (hr.mono (by omega)) (px rfl rfl rfl rfl) (pa_cons (pv 0) (pa_cons (pe_ix ix_A (pv 1) pe_int (fun _ _ => rfl)) (pa_cons (pv 2) (pa_cons (pe_op op_addA (pv 3) (pe_tup (pa_cons pe_int pa_nil))) (pa_cons (pv 4) pa_nil)))))))))) pss_nil)
      (pss_cons (ps_set (i := 8) sc_put_met.nd rfl (Or.inl rfl) (pv 2))
      (pss_cons (ps_set (i := 9) sc_put_met.nd rfl (Or.inl rfl) pe_int)
      (pss_one (ps_while (passes_of rfl) (pt_val pe_bl) (pss_cons (ps_set (i := 10) sc_put_met.nd rfl (Or.inl rfl) (pe_op op_or (pv 8) (pe_f F_put_met T.c_put_met (hr.mono (by omega)) (px rfl rfl rfl rfl) (pa_cons (pv 0) (pa_cons (pe_ix ix_A (pv 1) pe_int (fun _ _ => rfl)) (pa_cons (pv 8) (pa_cons (pe_op op_addA (pv 3) (pe_tup (pa_cons (pv 9) pa_nil))) (pa_cons (pv 4) pa_nil))))))))
      (pss_cons (ps_if (pt_cmpR (op_eqA H64) (pv 10) (pv 8) (nomark _)) (pss_one (ps_ret (pv 8))) pss_nil)
      (pss_cons (ps_set (i := 8) sc_put_met.nd rfl (Or.inl rfl) (pv 10))
      (pss_one (ps_aug (i := 9) sc_put_met.nd rfl (Or.inl rfl) pe_int ip_add)))))))))))))), ?_⟩
      have no : ∀ {z y : Str} {σ : L2.St} {H2 : Hp} {t u : TS} {D : Ends}, σ[5]? = some (some (.str z)) → decide (z = y) = false → (∀ H3, Ex H2 H3 → u D σ H3) → tSeq (tIfS (tTest (tOp (rEqA K) (tVar 5) (tC (.str y)))) t tNext) u D σ H2 := fun h1 h2 h3 =>
        q_when (b := false) (et_is (et_test (ev_eqS (ev_var h1) ev_c)) h2) (fun z => nomatch z) (fun _ => h3)
      cases pg with
      | no =>
        refine q_asg (ev_ixT (ev_var rfl) (ev_c (v := .int 0)) hp rfl) fun H1 e1 => ?_
        refine no rfl (by decide +kernel) fun H2 e2 => ?_
        refine q_when (b := true) (et_is (et_test (ev_eqS (ev_var rfl) ev_c)) (by decide +kernel)) (fun _ H3 e3 => ?_) (fun z => nomatch z)
        have e := (e1.trans e2).trans e3
        exact s_ret (ev_var rfl) fun H4 e4 => k H4 [] (e.trans e4).o (by rw [List.append_nil]; exact (e.trans e4) _ _ hM) .nil
      | st nm =>
        obtain ⟨dx, a, b, ras, h1, h2, h3, h4, h5⟩ := id hS
        have hnm : nm ∈ ns := hF.use nm (List.mem_singleton.mpr rfl)
        have hra := rowAd_at h4 h5 hnm
        refine q_asg (ev_ixT (ev_var rfl) (ev_c (v := .int 0)) hp rfl) fun H1 e1 => ?_
        refine q_when (b := true) (et_is (et_test (ev_eqS (ev_var rfl) ev_c)) (by decide +kernel)) (fun _ H2 e2 => ?_) (fun z => nomatch z)
        have e12 := e1.trans e2
        have hl2 : ns.length = ras.length := h5.trans (Paired.length h4).symm
        refine ⟨_, rfl, .inl ⟨rfl, _, .inl (.inl (e12 _ _ hM))⟩, ?_⟩
        refine ⟨_, rfl, ?_⟩
        refine go (ev_ixT (ev_var rfl) (ev_c (v := .int 1)) (e12 _ _ hp) rfl) fun H3 e3 => ?_
        refine ⟨_, rfl, fun x dx hx hdx hne => ?_⟩
        have e13 := e12.trans e3
        refine ⟨x, dx, _, _, _, rfl, upd_same, rfl, ?_⟩
        have xm : M ≠ x := ne_of_none (e13 _ _ hM) hx
        have xd : M ≠ dx := ne_of_none (e13 _ _ hM) hdx
        refine ⟨M, ms, .ref x, rfl, rfl, ?_, sz_lt (by omega), ?_⟩
        · rw [upd_ne xm, upd_ne xm, upd_ne xd]
          exact e13 _ _ hM
        · rw [upd_upd]
          have X : XO M H3 (upd (upd (upd H3 dx (.own x)) x (.ins (He.ga K "Met") dx (metFs (.ref pa) (.str nm) (vn lot)))) M (.lst (ms ++ [.ref x]))) := fun b o nb q => by
            rw [upd_ne nb, upd_ne (ne_of_none q hx), upd_ne (ne_of_none q hdx)]
            exact q
          have hn := X.n (e13 _ _ hM)
          have en := e13.n.trans hn
          have keep : ∀ {b : Addr} {o : HO}, (∀ ys, o ≠ .lst ys) → H b = some o → (upd (upd (upd H3 dx (.own x)) x (.ins (He.ga K "Met") dx (metFs (.ref pa) (.str nm) (vn lot)))) M (.lst (ms ++ [.ref x]))) b = some o := fun n q => en _ _ n q
          refine s_ret (ev_f (ea_cons (ev_m (ev_var rfl) (keep (fun _ z => nomatch z) h1) rfl (ea_cons (ev_ixT (ev_var rfl) (ev_c (v := .int 1)) (keep (fun _ z => nomatch z) hp) rfl) ea_nil)
            (sv_row_of (keep (fun _ z => nomatch z) h1) (keep (fun _ z => nomatch z) h2) (keep (fun _ z => nomatch z) h3) hl2 hnm)) (ea_cons (ev_var rfl) ea_nil)) (sv_next_lot (hra.1.n en))) fun H5 e5 => ?_
          refine k H5 [.ref x] ((e13.o.trans X).trans e5.o) (e5 _ _ upd_same) (.cons ⟨x, dx, metFs (.ref pa) (.str nm) (vn lot), rfl, e5 _ _ ?_, rfl, rfl⟩ .nil)
          rw [upd_ne xm.symm, upd_same]
      | be p1 p2 =>
        obtain ⟨b, c, hp, hb, hc⟩ := hp
        have hh2 : max p1.ht p2.ht + 1 ≤ n + 1 := hh
        have hw2 : ms.length + (p1.wt + p2.wt) < 100000 := hwt
        have F1 : Fit v ns rs p1 := ⟨hF.vok, hF.rows, fun x hx => hF.use x (List.mem_append_left _ hx)⟩
        have F2 : Fit v ns rs p2 := ⟨hF.vok, hF.rows, fun x hx => hF.use x (List.mem_append_right _ hx)⟩
        refine q_asg (ev_ixT (ev_var rfl) (ev_c (v := .int 0)) hp rfl) fun H1 e1 => ?_
        refine no rfl (by decide +kernel) fun H2 e2 => ?_
        refine no rfl (by decide +kernel) fun H3 e3 => ?_
        refine q_when (b := true) (et_is (et_test (ev_eqS (ev_var rfl) ev_c)) (by decide +kernel)) (fun _ H4 e4 => ?_) (fun z => nomatch z)
        have e := ((e1.trans e2).trans e3).trans e4
        refine put_at rfl (ev_ixT (ev_var rfl) (ev_c (v := .int 1)) (e _ _ hp) rfl) (ev_var rfl) rfl (fun _ _ => ev_c) rfl (hS.n e.n) (hb.n e.n) (by omega) F1 hl (e _ _ hpa) (by omega) (e _ _ hM) (by omega) fun H5 new x5 hM5 hp5 => ?_
        have x15 : XO M H H5 := e.o.trans x5
        have n5 : ExN H H5 := x15.n hM
        have wl : new.length ≤ p1.wt := by rw [Paired.length hp5]; exact runN_wt p1 lot
        refine put_at rfl (ev_ixT (ev_var rfl) (ev_c (v := .int 2)) (n5 _ _ (fun _ z => nomatch z) hp) rfl) (ev_var rfl) rfl (fun _ _ => ev_c) rfl (hS.n n5) (hc.n n5) (by omega) F2 (runN_lt F1.lt p1 lot hl) (n5 _ _ (fun _ z => nomatch z) hpa) (by omega) hM5 (by rw [List.length_append]; omega) fun H6 new2 x6 hM6 hp6 => ?_
        refine k H6 (new ++ new2) (x15.trans x6) (by rw [← List.append_assoc]; exact hM6) (paired_app (Paired.mapP hp5 fun _ _ q => q.n (x6.n hM5)) hp6)
      | ei p1 p2 =>
        obtain ⟨b, c, hp, hb, hc⟩ := hp
        have hh2 : max p1.ht p2.ht + 1 ≤ n + 1 := hh
        have hw2 : ms.length + (p1.wt + p2.wt) < 100000 := hwt
        have F1 : Fit v ns rs p1 := ⟨hF.vok, hF.rows, fun x hx => hF.use x (List.mem_append_left _ hx)⟩
        have F2 : Fit v ns rs p2 := ⟨hF.vok, hF.rows, fun x hx => hF.use x (List.mem_append_right _ hx)⟩
        refine q_asg (ev_ixT (ev_var rfl) (ev_c (v := .int 0)) hp rfl) fun H1 e1 => ?_
        refine no rfl (by decide +kernel) fun H2 e2 => ?_
        refine no rfl (by decide +kernel) fun H3 e3 => ?_
        refine no rfl (by decide +kernel) fun H3' e3' => ?_
        refine q_when (b := true) (et_is (et_test (ev_eqS (ev_var rfl) ev_c)) (by decide +kernel)) (fun _ H4 e4 => ?_) (fun z => nomatch z)
        have e := (((e1.trans e2).trans e3).trans e3').trans e4
        refine put_at rfl (ev_ixT (ev_var rfl) (ev_c (v := .int 1)) (e _ _ hp) rfl) (ev_var rfl) rfl (fun _ _ => ev_c) rfl (hS.n e.n) (hb.n e.n) (by omega) F1 hl (e _ _ hpa) (by omega) (e _ _ hM) (by omega) fun H5 new x5 hM5 hp5 => ?_
        have x15 : XO M H H5 := e.o.trans x5
        have n5 : ExN H H5 := x15.n hM
        have wl : new.length ≤ p1.wt := by rw [Paired.length hp5]; exact runN_wt p1 lot
        refine ⟨_, rfl, ?_⟩
        refine put_at rfl (ev_ixT (ev_var rfl) (ev_c (v := .int 2)) (n5 _ _ (fun _ z => nomatch z) hp) rfl) (ev_var rfl) rfl (fun _ _ => ev_c) rfl (hS.n n5) (hc.n n5) (by omega) F2 hl (n5 _ _ (fun _ z => nomatch z) hpa) (by omega) hM5 (by rw [List.length_append]; omega) fun H6 new2 x6 hM6 hp6 => ?_
        refine r_bor ?_
        refine k H6 (new ++ new2) (x15.trans x6) (by rw [← List.append_assoc]; exact hM6) (paired_app (Paired.mapP hp5 fun _ _ q => q.n (x6.n hM5)) hp6)
      | ag p1 =>
        obtain ⟨b, hp, hb⟩ := hp
        have hh2 : p1.ht + 1 ≤ n + 1 := hh
        have hw2 : ms.length + 8 * p1.wt < 100000 := hwt
        have F1 : Fit v ns rs p1 := ⟨hF.vok, hF.rows, hF.use⟩
        refine q_asg (ev_ixT (ev_var rfl) (ev_c (v := .int 0)) hp rfl) fun H1 e1 => ?_
        refine no rfl (by decide +kernel) fun H2 e2 => ?_
        refine no rfl (by decide +kernel) fun H3 e3 => ?_
        refine no rfl (by decide +kernel) fun H3' e3' => ?_
        refine no rfl (by decide +kernel) fun H4 e4 => ?_
        have e := (((e1.trans e2).trans e3).trans e3').trans e4
        refine q_asg (ev_var rfl) fun H5 e5 => ?_
        refine q_asg ev_c fun H6 e6 => ?_
        have e06 := (e.trans e5).trans e6
        have v6 : (2 : Nat) ^ v ≤ 64 := Nat.pow_le_pow_right (by decide) hF.vok.2
        refine s_while (fun m σ' H' => ∃ (r i : Nat) (s10 : Option V) (acc : List V) (tr : List (Str × Nat)), XO M H H' ∧ H' M = some (.lst (ms ++ acc)) ∧ Paired (MetAt K H') acc tr ∧ acc.length + m * p1.wt ≤ 8 * p1.wt ∧ r < 2 ^ v ∧
            (runN (rowOf ns rs) (.ag p1) lot) = ((agR m (runN (rowOf ns rs) p1) r).1, tr ++ (agR m (runN (rowOf ns rs) p1) r).2) ∧ 8 ≤ bits r + m ∧ σ' = [some (.ref S), some (.ref p), some (vn lot), some (.ref pa), some (.ref M), some (.str "again"), none, none, some (vn r), some (vn i), s10]) 8
          ⟨lot, 0, none, [], [], e06.o, by rw [List.append_nil]; exact e06 _ _ hM, .nil, by simp, hl, rfl, Nat.le_add_left _ _, rfl⟩ fun m σ' H' ⟨r, i, s10, acc, tr, x1, hM1, hp1, hz1, hr1, hv, hbm, eσ⟩ => ?_
        subst eσ
        refine ⟨true, et_B ev_c, fun _ H7 e7 => ?_, fun z => nomatch z⟩
        obtain ⟨m, rfl⟩ : ∃ j, m = j + 1 := ⟨m - 1, by have := bits_le r; omega⟩
        have n1 : ExN H H7 := (x1.n hM).trans e7.n
        have hlt := runN_lt F1.lt p1 r hr1
        rw [Nat.succ_mul] at hz1
        refine ⟨fun σ2 H2 => ∃ m', m' < m + 1 ∧ ∃ (r i : Nat) (s10 : Option V) (acc : List V) (tr : List (Str × Nat)), XO M H H2 ∧ H2 M = some (.lst (ms ++ acc)) ∧ Paired (MetAt K H2) acc tr ∧ acc.length + m' * p1.wt ≤ 8 * p1.wt ∧ r < 2 ^ v ∧
            (runN (rowOf ns rs) (.ag p1) lot) = ((agR m' (runN (rowOf ns rs) p1) r).1, tr ++ (agR m' (runN (rowOf ns rs) p1) r).2) ∧ 8 ≤ bits r + m' ∧ σ2 = [some (.ref S), some (.ref p), some (vn lot), some (.ref pa), some (.ref M), some (.str "again"), none, none, some (vn r), some (vn i), s10], fun σ2 H2 q => q, ?_⟩
        refine ⟨_, rfl, ?_⟩
        refine put_at rfl (ev_ixT (ev_var rfl) (ev_c (v := .int 1)) (n1 _ _ (fun _ z => nomatch z) hp) rfl) (ev_var rfl) rfl (fun _ _ => ev_var rfl) rfl (hS.n n1) (hb.n n1) (by omega) F1 hr1 (n1 _ _ (fun _ z => nomatch z) hpa) (by omega) (e7 _ _ hM1) (by rw [List.length_append]; omega) fun H8 new x8 hM8 hp8 => ?_
        have x18 : XO M H H8 := (x1.trans e7.o).trans x8
        have wl : new.length ≤ p1.wt := by rw [Paired.length hp8]; exact runN_wt p1 r
        have hp18 : Paired (MetAt K H8) (acc ++ new) (tr ++ (runN (rowOf ns rs) p1 r).2) := paired_app (Paired.mapP hp1 fun _ _ q => q.n (e7.n.trans (x8.n (e7 _ _ hM1)))) hp8
        rw [List.append_assoc] at hM8
        refine r_bor ?_
        refine q_when (et_test (ev_eqN (ev_var rfl) (ev_var rfl))) (fun hb2 H9 e9 => ?_) (fun hb2 H9 e9 => ?_)
        · have q := of_decide_eq_true hb2
          refine s_ret (ev_var rfl) fun H10 e10 => ?_
          have e80 := e9.trans e10
          have z := k H10 (acc ++ new) (x18.trans e80.o) (e80 _ _ hM8)
          rw [hv] at z
          unfold agR at z
          rw [if_pos q] at z
          exact z (Paired.mapP hp18 fun _ _ q => q.n e80.n)
        · have q := of_decide_eq_false hb2
          refine q_asg (ev_var rfl) fun H10 e10 => ?_
          refine s_aug (a := (i : Int)) (b := 1) rfl ev_c fun H11 e11 => ?_
          have e81 := (e9.trans e10).trans e11
          refine ⟨m, Nat.lt_succ_self m, _, i + 1, some (vn (r ||| (runN (rowOf ns rs) p1 r).1)), acc ++ new, tr ++ (runN (rowOf ns rs) p1 r).2, x18.trans e81.o, e81 _ _ hM8, Paired.mapP hp18 fun _ _ q => q.n e81.n, ?_, Nat.or_lt_two_pow hr1 hlt, ?_, ?_, rfl⟩
          · rw [List.length_append]
            omega
          · rw [hv, List.append_assoc]
            conv => lhs; unfold agR
            rw [if_neg q]
          · have g := bits_grow r (by omega) _ (Nat.lt_of_lt_of_le hlt v6) q
            omega
end
end TA
end
/-! TaP5 -/
section
set_option Elab.async false
set_option linter.all false
set_option autoImplicit false
set_option maxRecDepth 100000
set_option maxHeartbeats 4000000
namespace TA
open PySem PySem.Spec PyProof.Rows L2 Evl
/-- the five words and the sizes of their shapes -/
def szOf (z : Str) : Option Nat := if z = "step" then some 2 else if z = "nothing" then some 1 else if z = "behind" then some 3 else if z = "either" then some 3 else if z = "again" then some 2 else none
/-- does it have the shape of a program -/
inductive Shp (H : Hp) : V → Bool → Prop where
  | no {x : V} {ty : String} (h : Kd H x ty) (n : ty ≠ "tuple") : Shp H x false
  | nil {a : Addr} (h : H a = some (.tup [])) : Shp H (.ref a) false
  | head {a : Addr} {y : V} {ys : List V} {ty : String} (h : H a = some (.tup (y :: ys))) (k : Kd H y ty) (n : ty ≠ "str") : Shp H (.ref a) false
  | word {a : Addr} {z : Str} {ys : List V} {n : Nat} (h : H a = some (.tup (.str z :: ys))) (k : szOf z = some n) : Shp H (.ref a) (decide (ys.length + 1 = n))
theorem Shp.mono {H H' : Hp} {x : V} {b : Bool} (e : Ex H H') (h : Shp H x b) : Shp H' x b := by
  cases h with
  | no h n => exact .no (h.mono e) n
  | nil h => exact .nil (e _ _ h)
  | head h k n => exact .head (e _ _ h) (k.mono e) n
  | word h k => exact .word (e _ _ h) k
theorem at0 (y : V) (ys : List V) : atI (y :: ys) 0 = some y := atI_nat (j := 0) rfl
section
variable {P : Program} {w : World} {K : PySem.W.Frag} {mg : Str → Option Value} {base : Heap}
theorem sz_ns (T : Txt w K mg) {z : Str} {n : Nat} (h : szOf z = some n) : ∃ u, PySem.W.nsIn K (He.ga K "SIZES") z = some (some u) ∧ RelV (vn n) u := by
  unfold szOf at h
  split at h
  · rename_i e
    subst e
    cases h
    exact T.sz (q := ("step", .int 2)) (List.mem_cons_self ..)
  · split at h
    · rename_i e
      subst e
      cases h
      exact T.sz (q := ("nothing", .int 1)) (by unfold sizesKV; simp)
    · split at h
      · rename_i e
        subst e
        cases h
        exact T.sz (q := ("behind", .int 3)) (by unfold sizesKV; simp)
      · split at h
        · rename_i e
          subst e
          cases h
          exact T.sz (q := ("either", .int 3)) (by unfold sizesKV; simp)
        · split at h
          · rename_i e
            subst e
            cases h
            exact T.sz (q := ("again", .int 2)) (by unfold sizesKV; simp)
          · cases h
/-! ### the error of a program -/
def spBpInit (K : PySem.W.Frag) : Sp := fun vs H Q _ => ∃ (a : Addr) (wv : V), vs = [.ref a, wv] ∧ H a = some (exo a (He.ga K "BadProgram") none) ∧ ∀ dx, H dx = none → dx ≠ a → Q .non (upd (upd H dx (exd dx [("what", wv)])) a (exo a (He.ga K "BadProgram") (some dx)))
theorem ok_bp_init (T : Txt w K mg) : Fok P w K mg base 1 (a_BadProgram_init K) P_BadProgram_init (spBpInit K) := by
  refine fok T.f_BadProgram_init sc_BadProgram_init (fun _ _ _ _ _ _ us hl => match us, hl with | [_, _], _ => rfl) (fun vs H Q E h => ?_) (fun cdv A outer s H vs Q E hr h => ?_)
  · obtain ⟨a, wv, rfl, _⟩ := h
    rfl
  · obtain ⟨a, wv, rfl, ha, k⟩ := h
    refine ⟨_, (pss_one (ps_ost (pv 0) (pv 1))), ?_⟩
    exact ⟨_, rfl, _, rfl, a, He.ga K "BadProgram", rfl, T.oC, T.oW, .inl ⟨ha, fun dx hx hne => k dx hx hne⟩⟩
/-- BadProgram('..') -/
theorem bp_made {σ : L2.St} {H : Hp} {E : XK} {z : Str} (k : ∀ d H2, Ex H H2 → H2 d = some (.xd [("what", .str z)]) → E (.ref (He.ga K "BadProgram")) (some d) H2) :
    tMkO (He.ga K "BadProgram") (spBpInit K) [] (tCons (tC (.str z)) tNil) σ H (fun cls d H' => E cls d H') := by
  refine ⟨by show 1 ≤ 1000; decide, fun a ha => ⟨a, .str z, rfl, upd_same, fun dx hx hne => ⟨rfl, dx, [("what", .str z)], upd_same, ?_, ?_, ?_⟩⟩⟩
  · rw [upd_ne hne, upd_same]
  · rw [upd_ne hne] at hx
    exact hx
  · rw [upd_ne hne] at hx
    refine k dx _ (fun b o q => ?_) upd_same
    have n1 := ne_of_none q ha
    have n2 := ne_of_none q hx
    rw [upd_ne n2, del_ne n1, upd_ne n1, upd_ne n2, upd_ne n1]
    exact q
/-! ### shapes -/
def spHasShape (_ : PySem.W.Frag) : Sp := fun vs H Q _ => ∃ (x : V) (b : Bool), vs = [x] ∧ Shp H x b ∧ RetV (.bl b) H Q
theorem ok_has_shape (T : Txt w K mg) : Fok P w K mg base 1 (a_has_shape K) P_has_shape (spHasShape K) := by
  obtain ⟨es, nn, KD⟩ := T.kd
  refine fok T.f_has_shape sc_has_shape (fun _ _ _ _ _ _ us hl => match us, hl with | [_], _ => rfl) (fun vs H Q E h => ?_) (fun cdv A outer s H vs Q E hr h => ?_)
  · obtain ⟨x, b, rfl, _⟩ := h
    rfl
  · obtain ⟨x, b, rfl, hs, k⟩ := h
    have H64 := hr.units
    refine ⟨_, (pss_cons (ps_if (PW.pt (pw_or (pt_not (pt_val (pe_callB call_isi rfl T.m_isinstance bt_isinstance (pa_cons (pv 0) (pa_cons (pe_ct T.m_tuple bt_tuple) pa_nil))))) (pw_or1 (pt_cmpR (op_eqA H64) (pe_callB call_len_seq rfl T.m_len bt_len (pa_cons (pv 0) pa_nil)) pe_int (nomark _))))) (pss_one (ps_ret pe_bl)) pss_nil)
      (pss_cons (ps_set (i := 1) sc_has_shape.nd rfl (Or.inl rfl) (pe_ix ix_A (pv 0) pe_int (fun _ _ => rfl)))
      (pss_one (ps_ret (pe_and (pe_callB call_isi rfl T.m_isinstance bt_isinstance (pa_cons (pv 1) (pa_cons (pe_ct T.m_str bt_str) pa_nil))) (pe_and (pe_cmpR (op_in_kd KD) (pv 1) (pe_cr T.g_SIZES) (by rfl)) (pe_one (pe_cmpR (op_eqA H64) (pe_callB call_len_seq rfl T.m_len bt_len (pa_cons (pv 0) pa_nil)) (pe_ixK KD (pe_cr T.g_SIZES) (pv 1) (fun _ _ => rfl)) (nomark _))))))))), ?_⟩
    cases hs with
    | @no _ ty h n =>
      refine q_when (b := true) (et_is (b := true) (et_or (a := true) (b := true) (et_is (et_not (et_B (ev_isi (ev_var rfl) h (by decide)))) ?_) (fun z => nomatch z)) rfl) (fun _ H1 e1 => s_ret ev_c fun H2 e2 => k H2 (e1.trans e2)) (fun z => nomatch z)
      cases h <;> first | rfl | exact absurd rfl n
    | nil h =>
      refine q_when (b := true) (et_is (et_or (et_not (et_B (ev_isi (ev_var rfl) (.tup h) (by decide)))) (fun _ => et_test (ev_eqN (ev_lenT (ev_var rfl) h) (ev_c (v := vn 0))))) (by decide)) (fun _ H1 e1 => s_ret ev_c fun H2 e2 => k H2 (e1.trans e2)) (fun z => nomatch z)
    | @head a y ys ty h hk n =>
      refine q_when (b := false) (et_is (et_or (et_not (et_B (ev_isi (ev_var rfl) (.tup h) (by decide)))) (fun _ => et_test (ev_eqN (ev_lenT (ev_var rfl) h) (ev_c (v := vn 0))))) (by simp [isa])) (fun z => nomatch z) (fun _ H1 e1 => ?_)
      refine q_asg (ev_ixT (ev_var rfl) (ev_c (v := .int 0)) (e1 _ _ h) (at0 _ _)) fun H2 e2 => ?_
      have e12 := e1.trans e2
      have hi : isa ty "str" = false := by cases hk <;> first | rfl | exact absurd rfl n
      refine s_ret (ev_is (ev_andV (b := true) (ev_isi (ev_var rfl) (hk.mono e12) (by decide)) (fun z => ?_)) (by rw [hi]; rfl)) fun H3 e3 => k H3 (e12.trans e3)
      rw [hi] at z
      cases z
    | @word a z ys n h hk =>
      obtain ⟨u, hu, ru⟩ := sz_ns T hk
      refine q_when (b := false) (et_is (et_or (et_not (et_B (ev_isi (ev_var rfl) (.tup h) (by decide)))) (fun _ => et_test (ev_eqN (ev_lenT (ev_var rfl) h) (ev_c (v := vn 0))))) (by simp [isa])) (fun z => nomatch z) (fun _ H1 e1 => ?_)
      refine q_asg (ev_ixT (ev_var rfl) (ev_c (v := .int 0)) (e1 _ _ h) (at0 _ _)) fun H2 e2 => ?_
      have e12 := e1.trans e2
      refine s_ret (ev_is (ev_andV (b := decide (ys.length + 1 = n)) (ev_isi (ev_var rfl) (.str z) (by decide)) (fun _ => ev_is (ev_andV (a := true) (b := decide (ys.length + 1 = n))
        (ev_op (ev_var rfl) ev_c fun H3 _ Q q => ⟨z, some u, rfl, rfl, hu, q H3 (Ex.refl H3)⟩) (fun _ => ev_eqN (ev_lenT (ev_var rfl) (e12 _ _ h)) (ev_op ev_c (ev_var rfl) fun H3 _ Q q => ⟨z, u, vn n, rfl, rfl, hu, ru, q H3 (Ex.refl H3)⟩)))
          (by rw [Bool.true_and]))) (by rw [show isa "str" "str" = true from rfl, Bool.true_and])) fun H3 e3 => k H3 (e12.trans e3)
theorem sv_has_shape {H : Hp} {x : V} {b : Bool} (h : Shp H x b) : SpV (spHasShape K) [x] H (.bl b) := fun H1 e Q q E => ⟨x, b, rfl, h.mono e, q⟩
/-- the programs within -/
def spInner (_ : PySem.W.Frag) : Sp := fun vs H Q _ => ∃ (a : Addr) (z : Str) (ys : List V), vs = [.ref a] ∧ H a = some (.tup (.str z :: ys)) ∧ ∀ q H2, H q = none → Ex H H2 → H2 q = some (.tup (if z = "step" then [] else ys)) → Q (.ref q) H2
theorem cut1 (y : V) (ys : List V) : cutV (y :: ys) (some 1) none = ys := by
  unfold cutV HT.sIx
  simp
theorem ok_inner (T : Txt w K mg) : Fok P w K mg base 1 (a_inner_programs K) P_inner_programs (spInner K) := by
  refine fok T.f_inner_programs sc_inner_programs (fun _ _ _ _ _ _ us hl => match us, hl with | [_], _ => rfl) (fun vs H Q E h => ?_) (fun cdv A outer s H vs Q E hr h => ?_)
  · obtain ⟨a, z, ys, rfl, _⟩ := h
    rfl
  · obtain ⟨a, z, ys, rfl, ha, k⟩ := h
    have H64 := hr.units
    refine ⟨_, (pss_cons (ps_if (pt_cmpR (op_eqA H64) (pe_ix ix_A (pv 0) pe_int (fun _ _ => rfl)) pe_str (nomark _)) (pss_one (ps_ret (pe_tup pa_nil))) pss_nil)
      (pss_one (ps_ret (pe_slice sl_A (pv 0) (po_some pe_int) po_none)))), ?_⟩
    refine q_when (et_test (ev_eqS (ev_ixT (ev_var rfl) (ev_c (v := .int 0)) ha (at0 _ _)) ev_c)) (fun hb H1 e1 => ?_) (fun hb H1 e1 => ?_)
    · rw [if_pos (of_decide_eq_true hb)] at k
      exact ⟨Nat.zero_le _, fun q hq => k q _ (fresh_back e1 hq) (e1.trans (Ex.new hq)) upd_same⟩
    · rw [if_neg (of_decide_eq_false hb)] at k
      refine ⟨_, rfl, _, rfl, ?_⟩
      refine .inr ⟨a, _, rfl, st_of (e1 _ _ ha), fun h => ?_, fun _ q hq => ?_⟩
      · exfalso
        have h1 := h.1
        unfold HT.sIx at h1
        simp at h1
      · rw [cut1]
        exact k q _ (fresh_back e1 hq) (e1.trans (Ex.new hq)) upd_same
/-! ### what is checked of a program -/
/-- a value as check_node looks at it -/
inductive Nd where
  | bad
  | no
  | st (y : V)
  | be (a b : Nd)
  | ei (a b : Nd)
  | ag (a : Nd)
def NdAt (H : Hp) : Nd → V → Prop
  | .bad, x => Shp H x false
  | .no, x => ∃ a, x = .ref a ∧ H a = some (.tup [.str "nothing"])
  | .st y, x => ∃ a ty, x = .ref a ∧ H a = some (.tup [.str "step", y]) ∧ Kd H y ty
  | .be p q, x => ∃ a y z, x = .ref a ∧ H a = some (.tup [.str "behind", y, z]) ∧ NdAt H p y ∧ NdAt H q z
  | .ei p q, x => ∃ a y z, x = .ref a ∧ H a = some (.tup [.str "either", y, z]) ∧ NdAt H p y ∧ NdAt H q z
  | .ag p, x => ∃ a y, x = .ref a ∧ H a = some (.tup [.str "again", y]) ∧ NdAt H p y
theorem NdAt.mono {H H' : Hp} (e : Ex H H') : ∀ {nd : Nd} {x : V}, NdAt H nd x → NdAt H' nd x
  | .bad, _, h => Shp.mono e h
  | .no, _, ⟨a, h0, h1⟩ => ⟨a, h0, e _ _ h1⟩
  | .st _, _, ⟨a, ty, h0, h1, h2⟩ => ⟨a, ty, h0, e _ _ h1, h2.mono e⟩
  | .be _ _, _, ⟨a, y, z, h0, h1, h2, h3⟩ => ⟨a, y, z, h0, e _ _ h1, NdAt.mono e h2, NdAt.mono e h3⟩
  | .ei _ _, _, ⟨a, y, z, h0, h1, h2, h3⟩ => ⟨a, y, z, h0, e _ _ h1, NdAt.mono e h2, NdAt.mono e h3⟩
  | .ag _, _, ⟨a, y, h0, h1, h2⟩ => ⟨a, y, h0, e _ _ h1, NdAt.mono e h2⟩
/-- how many programs were met, or none: it is refused -/
def chk (ns : List Str) : Nd → Nat → Nat → Nat → Option Nat
  | .bad, _, _, _ => none
  | .no, deep, _, had => if 12 < deep then none else if 60 ≤ had then none else some (had + 1)
  | .st y, deep, _, had => if 12 < deep then none else if 60 ≤ had then none else if inNames ns y = true then some (had + 1) else none
  | .be a b, deep, ag, had => if 12 < deep then none else if 60 ≤ had then none else (chk ns a (deep + 1) ag (had + 1)).bind fun m => chk ns b (deep + 1) ag m
  | .ei a b, deep, ag, had => if 12 < deep then none else if 60 ≤ had then none else (chk ns a (deep + 1) ag (had + 1)).bind fun m => chk ns b (deep + 1) ag m
  | .ag a, deep, ag, had => if 12 < deep then none else if 60 ≤ had then none else if 4 ≤ ag then none else chk ns a (deep + 1) (ag + 1) (had + 1)
def chkL (ns : List Str) (deep ag : Nat) : List Nd → Option Nat → Option Nat
  | [], o => o
  | k :: ks, o => chkL ns deep ag ks (o.bind fun m => chk ns k deep ag m)
theorem chkL_none {ns : List Str} {deep ag : Nat} : ∀ ks, chkL ns deep ag ks none = none
  | [] => rfl
  | _ :: ks => chkL_none ks
def Nd.word : Nd → Str
  | .bad => ""
  | .no => "nothing"
  | .st _ => "step"
  | .be _ _ => "behind"
  | .ei _ _ => "either"
  | .ag _ => "again"
def Nd.kids : Nd → List Nd
  | .be a b => [a, b]
  | .ei a b => [a, b]
  | .ag a => [a]
  | _ => []
def Nd.isBad : Nd → Bool
  | .bad => true
  | _ => false
def Nd.noName (ns : List Str) : Nd → Bool
  | .st y => !inNames ns y
  | _ => false
/-- the refusals ahead of the walk, then the walk -/
theorem chk_eq (ns : List Str) (nd : Nd) (deep ag had : Nat) : chk ns nd deep ag had = if 12 < deep then none else if 60 ≤ had then none else if nd.isBad = true then none else
    if (decide (nd.word = "again") && decide (4 ≤ ag)) = true then none else if nd.noName ns = true then none else chkL ns (deep + 1) (ag + if nd.word = "again" then 1 else 0) nd.kids (some (had + 1)) := by
  cases nd with
  | bad =>
    show none = _
    split
    · rfl
    · split <;> rfl
  | no =>
    have e : decide (Nd.no.word = "again") = false := by decide +kernel
    rw [e]
    rfl
  | st y =>
    have e : decide ((Nd.st y).word = "again") = false := by show decide (("step" : Str) = "again") = false; decide +kernel
    rw [e]
    show (if 12 < deep then none else if 60 ≤ had then none else if inNames ns y = true then some (had + 1) else none) = if 12 < deep then none else if 60 ≤ had then none else if false = true then none else if (false && decide (4 ≤ ag)) = true then none else if (!inNames ns y) = true then none else some (had + 1)
    cases inNames ns y <;> simp
  | be a b =>
    have e : ¬ ((Nd.be a b).word = "again") := by show ¬ (("behind" : Str) = "again"); decide +kernel
    rw [decide_eq_false e, if_neg e]
    rfl
  | ei a b =>
    have e : ¬ ((Nd.ei a b).word = "again") := by show ¬ (("either" : Str) = "again"); decide +kernel
    rw [decide_eq_false e, if_neg e]
    rfl
  | ag a =>
    have e : (Nd.ag a).word = "again" := rfl
    rw [decide_eq_true e, if_pos e]
    show (if 12 < deep then none else if 60 ≤ had then none else if 4 ≤ ag then none else chk ns a (deep + 1) (ag + 1) (had + 1)) = if 12 < deep then none else if 60 ≤ had then none else if false = true then none else if (true && decide (4 ≤ ag)) = true then none else if false = true then none else chk ns a (deep + 1) (ag + 1) (had + 1)
    by_cases h : 4 ≤ ag
    · simp [h]
    · simp [h]
/-- what stands at such a value, if it has the shape -/
theorem NdAt.tup {H : Hp} : ∀ {nd : Nd} {x : V}, NdAt H nd x → nd.isBad = false → ∃ a ys, x = .ref a ∧ H a = some (.tup (.str nd.word :: ys)) ∧ Shp H x true ∧ (nd.word ≠ "step" → Paired (NdAt H) nd.kids ys) ∧ (nd.word = "step" → nd.kids = [] ∧ ∃ y ty, nd = .st y ∧ ys = [y] ∧ Kd H y ty)
  | .bad, _, _, h => nomatch h
  | .no, _, ⟨a, h0, h1⟩, _ => ⟨a, [], h0, h1, by rw [h0]; exact .word (n := 1) h1 (by decide +kernel), fun _ => .nil, fun z => absurd z (by show ¬ (("nothing" : Str) = "step"); decide +kernel)⟩
  | .st y, _, ⟨a, ty, h0, h1, h2⟩, _ => ⟨a, [y], h0, h1, by rw [h0]; exact .word (n := 2) h1 (by decide +kernel), fun z => absurd rfl z, fun _ => ⟨rfl, y, ty, rfl, rfl, h2⟩⟩
  | .be _ _, _, ⟨a, y, z, h0, h1, h2, h3⟩, _ => ⟨a, [y, z], h0, h1, by rw [h0]; exact .word (n := 3) h1 (by decide +kernel), fun _ => .cons h2 (.cons h3 .nil), fun z => absurd z (by show ¬ (("behind" : Str) = "step"); decide +kernel)⟩
  | .ei _ _, _, ⟨a, y, z, h0, h1, h2, h3⟩, _ => ⟨a, [y, z], h0, h1, by rw [h0]; exact .word (n := 3) h1 (by decide +kernel), fun _ => .cons h2 (.cons h3 .nil), fun z => absurd z (by show ¬ (("either" : Str) = "step"); decide +kernel)⟩
  | .ag _, _, ⟨a, y, h0, h1, h2⟩, _ => ⟨a, [y], h0, h1, by rw [h0]; exact .word (n := 2) h1 (by decide +kernel), fun _ => .cons h2 .nil, fun z => absurd z (by show ¬ (("again" : Str) = "step"); decide +kernel)⟩
theorem paired_nd {H : Hp} {ks : List Nd} {ys : List V} : ∀ {i : Nat} {y : V}, Paired (NdAt H) ks ys → ys[i]? = some y → ∃ k, ks[i]? = some k ∧ NdAt H k y := by
  intro i y h
  induction h generalizing i with
  | nil => intro e; cases e
  | cons h1 _ ih =>
    intro e
    cases i with
    | zero =>
      have e2 := Option.some.inj e
      subst e2
      exact ⟨_, rfl, h1⟩
    | succ i => exact ih e
/-- refused -/
def BpX (K : PySem.W.Frag) (H : Hp) (E : XK) : Prop := ∀ d H2 z, Ex H H2 → H2 d = some (.xd [("what", .str z)]) → E (.ref (He.ga K "BadProgram")) (some d) H2
theorem BpX.go {H H1 : Hp} {E : XK} (h : BpX K H E) (e : Ex H H1) : BpX K H1 E := fun d H2 z e2 => h d H2 z (e.trans e2)
def spChk (K : PySem.W.Frag) (n : Nat) : Sp := fun vs H Q E => ∃ (S : Addr) (v : Nat) (ns : List Str) (rs : List (List Nat)) (nd : Nd) (x : V) (deep ag had : Nat), vs = [.ref S, x, vn deep, vn ag, vn had] ∧ StAt K H S v ns rs ∧ NdAt H nd x ∧ 13 ≤ deep + n ∧
  (∀ m, chk ns nd deep ag had = some m → RetV (vn m) H Q) ∧ (chk ns nd deep ag had = none → BpX K H E)
/-- one turn deeper -/
def spChkB (K : PySem.W.Frag) : Nat → Sp
  | 0 => fun _ _ _ _ => False
  | m + 1 => spChk K m
theorem ok_check_node (T : Txt w K mg) : ∀ n, Fok P w K mg base (n + 10) (a_check_node K) P_check_node (spChk K n) := by
  intro n
  have hF : Fok P w K mg base (n + 9) (a_check_node K) P_check_node (spChkB K n) := by
    cases n with
    | zero =>
      refine fok (k := 8) T.f_check_node sc_check_node (fun _ _ _ _ _ _ us hl => match us, hl with | [_, _, _, _, _], _ => rfl) (fun vs H Q E h => False.elim h) (fun cdv A outer s H vs Q E hr h => False.elim h)
    | succ m => exact ok_check_node T m
  have F_check_node := hF
  have F_has_shape := ok_has_shape (P := P) (base := base) T
  have F_inner_programs := ok_inner (P := P) (base := base) T
  obtain ⟨fb, F1_BadProgram_init, B_BadProgram_init⟩ := (ok_bp_init (P := P) (base := base) T).ex
  obtain ⟨fc, F1_Steps_contains, B_Steps_contains⟩ := (ok_contains (P := P) (base := base) T).ex
  refine fok T.f_check_node sc_check_node (fun _ _ _ _ _ _ us hl => match us, hl with | [_, _, _, _, _], _ => rfl) (fun vs H Q E h => ?_) (fun cdv A outer s H vs Q E hr h => ?_)
  · obtain ⟨S, v, ns, rs, nd, x, deep, ag, had, rfl, _⟩ := h
    rfl
  · obtain ⟨S, v, ns, rs, nd, x, deep, ag, had, rfl, hS, hN, hd, k1, k2⟩ := h
    have H64 := hr.units
    refine ⟨_, (pss_cons (ps_if (pt_cmpR op_gt (pv 2) (pe_ci T.i_MOST_DEEP) (nomark _)) (pss_one (ps_raise rfl (takes_of rfl rfl rfl rfl) (pmk_oex T.oC T.oI T.oT F1_BadProgram_init (hr.mono (by omega)) B_BadProgram_init .nil passL rfl T.g_BadProgram (pa_cons pe_str pa_nil)))) pss_nil)
      (pss_cons (ps_if (pt_cmpR op_ge (pv 4) (pe_ci T.i_MOST_LONG) (nomark _)) (pss_one (ps_raise rfl (takes_of rfl rfl rfl rfl) (pmk_oex T.oC T.oI T.oT F1_BadProgram_init (hr.mono (by omega)) B_BadProgram_init .nil passL rfl T.g_BadProgram (pa_cons pe_str pa_nil)))) pss_nil)
      (pss_cons (ps_if (pt_not (pt_val (pe_f F_has_shape T.c_has_shape (hr.mono (by omega)) (px rfl rfl rfl rfl) (pa_cons (pv 1) pa_nil)))) (pss_one (ps_raise rfl (takes_of rfl rfl rfl rfl) (pmk_oex T.oC T.oI T.oT F1_BadProgram_init (hr.mono (by omega)) B_BadProgram_init .nil passL rfl T.g_BadProgram (pa_cons pe_str pa_nil)))) pss_nil)
      (pss_cons (ps_if (PW.pt (pw_and (pt_cmpR (op_eqA H64) (pe_ix ix_A (pv 1) pe_int (fun _ _ => rfl)) pe_str (nomark _)) (pw_and1 (pt_cmpR op_ge (pv 3) (pe_ci T.i_MOST_AGAINS) (nomark _))))) (pss_one (ps_raise rfl (takes_of rfl rfl rfl rfl) (pmk_oex T.oC T.oI T.oT F1_BadProgram_init (hr.mono (by omega)) B_BadProgram_init .nil passL rfl T.g_BadProgram (pa_cons pe_str pa_nil)))) pss_nil)
      (pss_cons (ps_if (PW.pt (pw_and (pt_cmpR (op_eqA H64) (pe_ix ix_A (pv 1) pe_int (fun _ _ => rfl)) pe_str (nomark _)) (pw_and1 (pt_cmpR (op_notInOwn T.k_Steps T.me_Steps_contains F1_Steps_contains (hr.mono (by omega)) B_Steps_contains (px rfl rfl rfl rfl)) (pe_ix ix_A (pv 1) pe_int (fun _ _ => rfl)) (pv 0) (by rfl))))) (pss_one (ps_raise rfl (takes_of rfl rfl rfl rfl) (pmk_oex T.oC T.oI T.oT F1_BadProgram_init (hr.mono (by omega)) B_BadProgram_init .nil passL rfl T.g_BadProgram (pa_cons pe_str pa_nil)))) pss_nil)
      (pss_cons (ps_set (i := 5) sc_check_node.nd rfl (Or.inl rfl) (pe_op op_addA (pv 4) pe_int))
      (pss_cons (ps_set (i := 6) sc_check_node.nd rfl (Or.inl rfl) (pe_op op_addA (pv 3) (pe_ifExp (pt_cmpR (op_eqA H64) (pe_ix ix_A (pv 1) pe_int (fun _ _ => rfl)) pe_str (nomark _)) pe_int pe_int)))
      (pss_cons (ps_for (passes_of rfl) rfl (pi_A (pe_f F_inner_programs T.c_inner_programs (hr.mono (by omega)) (px rfl rfl rfl rfl) (pa_cons (pv 1) pa_nil))) (pg_name (i := 7) sc_check_node.nd rfl (Or.inl rfl)) (pss_one (ps_set (i := 5) sc_check_node.nd rfl (Or.inl rfl) (pe_f F_check_node T.c_check_node (hr.mono (by omega)) (px rfl rfl rfl rfl) (pa_cons (pv 0) (pa_cons (pv 7) (pa_cons (pe_op op_addA (pv 2) pe_int) (pa_cons (pv 6) (pa_cons (pv 5) pa_nil)))))))))
      (pss_one (ps_ret (pv 5))))))))))), ?_⟩
    rw [chk_eq] at k1 k2
    refine q_when (b := decide (12 < deep)) (et_is (et_test (ev_gt (ev_var rfl) ev_c)) (by
      by_cases z : 12 < deep
      · rw [decide_eq_true z, decide_eq_true (by omega)]
      · rw [decide_eq_false z, decide_eq_false (by omega)])) (fun hb H1 e1 => ?_) (fun hb H1 e1 => ?_)
    · rw [if_pos (of_decide_eq_true hb)] at k2
      exact bp_made fun d H2 e2 hx => k2 rfl d H2 _ (e1.trans e2) hx
    rw [if_neg (of_decide_eq_false hb)] at k1 k2
    refine q_when (b := decide (60 ≤ had)) (et_is (et_test (ev_ge (ev_var rfl) ev_c)) (by
      by_cases z : 60 ≤ had
      · rw [decide_eq_true z, decide_eq_true (by omega)]
      · rw [decide_eq_false z, decide_eq_false (by omega)])) (fun hb2 H2 e2 => ?_) (fun hb2 H2 e2 => ?_)
    · rw [if_pos (of_decide_eq_true hb2)] at k2
      exact bp_made fun d H3 e3 hx => k2 rfl d H3 _ ((e1.trans e2).trans e3) hx
    rw [if_neg (of_decide_eq_false hb2)] at k1 k2
    have e02 := e1.trans e2
    by_cases hbad : nd.isBad = true
    · rw [if_pos hbad] at k2
      have hs : Shp H x false := by
        cases nd with
        | bad => exact hN
        | _ => cases hbad
      refine q_when (b := true) (et_is (et_not (et_B (ev_f (ea_cons (ev_var rfl) ea_nil) (sv_has_shape (hs.mono e02))))) rfl) (fun _ H3 e3 => bp_made fun d H4 e4 hx => k2 rfl d H4 _ ((e02.trans e3).trans e4) hx) (fun z => nomatch z)
    rw [if_neg hbad] at k1 k2
    obtain ⟨a, ys, hx, ha, hs, hk1, hk2⟩ := hN.tup (by simpa using hbad)
    subst hx
    refine q_when (b := false) (et_is (et_not (et_B (ev_f (ea_cons (ev_var rfl) ea_nil) (sv_has_shape (hs.mono e02))))) rfl) (fun z => nomatch z) (fun _ H3 e3 => ?_)
    have e03 := e02.trans e3
    refine q_when (b := decide (nd.word = "again") && decide (4 ≤ ag)) (et_is (et_and (et_test (ev_eqS (ev_ixT (ev_var rfl) (ev_c (v := .int 0)) (e03 _ _ ha) (at0 _ _)) ev_c)) (fun _ => et_test (ev_ge (ev_var rfl) ev_c))) (by
      congr 1
      by_cases z : 4 ≤ ag
      · rw [decide_eq_true z, decide_eq_true (by omega)]
      · rw [decide_eq_false z, decide_eq_false (by omega)])) (fun hb4 H4 e4 => ?_) (fun hb4 H4 e4 => ?_)
    · rw [if_pos hb4] at k2
      exact bp_made fun d H5 e5 hx => k2 rfl d H5 _ ((e03.trans e4).trans e5) hx
    rw [if_neg (by rw [hb4]; exact Bool.false_ne_true)] at k1 k2
    have e04 := e03.trans e4
    obtain ⟨dx, na, nb, ras, hS1, hS2, hS3, hS4, hS5⟩ := id hS
    refine q_when (b := nd.noName ns) (et_is (et_and (a := decide (nd.word = "step")) (b := nd.noName ns) (et_test (ev_eqS (ev_ixT (ev_var rfl) (ev_c (v := .int 0)) (e04 _ _ ha) (at0 _ _)) ev_c)) (fun hw => ?_)) ?_) (fun hb5 H5 e5 => ?_) (fun hb5 H5 e5 => ?_)
    · obtain ⟨_, y, ty, e, e2, hy⟩ := hk2 (of_decide_eq_true hw)
      subst e e2
      exact et_test (ev_op (ev_ixT (ev_var rfl) (ev_c (v := .int 1)) (e04 _ _ ha) rfl) (ev_var rfl) fun H6 e6 Q q => ⟨S, dx, _, rfl, e6 _ _ (e04 _ _ hS1), rfl, S, v, ns, rs, y, ty, rfl, hS.n (e04.trans e6).n, hy.mono (e04.trans e6), fun H7 e7 => ⟨_, rfl, q H7 e7⟩⟩)
    · cases nd with
      | st y => exact Bool.true_and _
      | _ => exact Bool.and_false _
    · rw [if_pos hb5] at k2
      exact bp_made fun d H6 e6 hx => k2 rfl d H6 _ ((e04.trans e5).trans e6) hx
    rw [if_neg (by rw [hb5]; exact Bool.false_ne_true)] at k1 k2
    have e05 := e04.trans e5
    refine q_asg (v := vn (had + 1)) (ev_add (i := (had : Int)) (j := 1) (ev_var rfl) ev_c) fun H6 e6 => ?_
    have e06 := e05.trans e6
    refine q_asg (v := vn (ag + if nd.word = "again" then 1 else 0)) (ev_is (ev_add (i := (ag : Int)) (j := ((if nd.word = "again" then 1 else 0 : Nat) : Int)) (ev_var rfl) (ev_if (et_test (ev_eqS (ev_ixT (ev_var rfl) (ev_c (v := .int 0)) (e06 _ _ ha) (at0 _ _)) ev_c)) (fun z => ?_) (fun z => ?_))) (by push_cast; rfl)) fun H7 e7 => ?_
    · rw [if_pos (of_decide_eq_true z)]
      exact ev_c
    · rw [if_neg (of_decide_eq_false z)]
      exact ev_c
    have e07 := e06.trans e7
    have hkids : Paired (NdAt H) nd.kids (if nd.word = "step" then [] else ys) := by
      by_cases z : nd.word = "step"
      · rw [if_pos z, (hk2 z).1]
        exact .nil
      · rw [if_neg z]
        exact hk1 z
    obtain ⟨bl, hbl⟩ : ∃ bl, bl = ag + if nd.word = "again" then 1 else 0 := ⟨_, rfl⟩
    rw [← hbl] at k1 k2 ⊢
    have hlen := Paired.length hkids
    refine q_of (.inr ⟨_, rfl, a, nd.word, ys, rfl, e07 _ _ ha, fun q H8 _ e8 hq => ⟨q, rfl, ⟨_, st_of hq⟩, for_it walk_tup (fun i σ' H' => Ex H8 H' ∧ ∃ (m : Nat) (s7 : Option V), chkL ns (deep + 1) bl (nd.kids.drop i) (some m) = chkL ns (deep + 1) bl nd.kids (some (had + 1)) ∧
      σ' = [some (.ref S), some (.ref a), some (vn deep), some (vn ag), some (vn had), some (vn m), some (vn bl), s7]) ⟨Ex.refl _, had + 1, none, rfl, rfl⟩ (fun i σ' H' _ p => st_of (p.1 _ _ hq)) (fun i y σ' H' H'' hi p y1 => ?_) (fun σ' H' p => ?_)⟩⟩)
    · obtain ⟨rfl, hy⟩ := y1
      obtain ⟨e9, m, s7, hc, rfl⟩ := p
      have hi2 : i < nd.kids.length := by rw [hlen]; exact hi
      obtain ⟨kd, hkd, hNk⟩ := paired_nd hkids hy
      have hdrop : nd.kids.drop i = kd :: nd.kids.drop (i + 1) := by
        rw [List.drop_eq_getElem_cons hi2]
        congr 1
        rw [List.getElem?_eq_getElem hi2] at hkd
        exact Option.some.inj hkd
      rw [hdrop] at hc
      have hc2 : chkL ns (deep + 1) bl (nd.kids.drop (i + 1)) (chk ns kd (deep + 1) bl m) = chkL ns (deep + 1) bl nd.kids (some (had + 1)) := hc
      have e08 := (e07.trans e8).trans e9
      have hdn : ¬ 12 < deep := of_decide_eq_false hb
      obtain ⟨n, rfl⟩ : ∃ j, n = j + 1 := ⟨n - 1, by omega⟩
      refine callA (ea_cons (ev_var rfl) (ea_cons (ev_var rfl) (ea_cons (ev_add (i := (deep : Int)) (j := 1) (ev_var rfl) ev_c) (ea_cons (ev_var rfl) (ea_cons (ev_var rfl) ea_nil))))) fun H9 e10 => ?_
      have e09 := e08.trans e10
      refine ⟨S, v, ns, rs, kd, y, deep + 1, bl, m, rfl, hS.n e09.n, hNk.mono e09, by omega, fun m' hm H10 e11 => ?_, fun hm => ?_⟩
      · rw [hm] at hc2
        exact ⟨(e9.trans e10).trans e11, m', some y, hc2, rfl⟩
      · rw [hm, chkL_none] at hc2
        exact (k2 hc2.symm).go e09
    · obtain ⟨e9, m, s7, hc, rfl⟩ := p
      rw [← hlen, List.drop_length] at hc
      exact s_ret (ev_var rfl) fun H9 e10 => k1 m hc.symm H9 (((e07.trans e8).trans e9).trans e10)
/-! ### a program is checked -/
def spCheckProgram (K : PySem.W.Frag) : Sp := fun vs H Q E => ∃ (S : Addr) (v : Nat) (ns : List Str) (rs : List (List Nat)) (nd : Nd) (x : V), vs = [.ref S, x] ∧ StAt K H S v ns rs ∧ NdAt H nd x ∧
  ((chk ns nd 1 0 0).isSome = true → RetV x H Q) ∧ (chk ns nd 1 0 0 = none → BpX K H E)
theorem ok_check_program (T : Txt w K mg) : Fok P w K mg base 23 (a_check_program K) P_check_program (spCheckProgram K) := by
  have F_check_node := ok_check_node (P := P) (base := base) T 12
  refine fok T.f_check_program sc_check_program (fun _ _ _ _ _ _ us hl => match us, hl with | [_, _], _ => rfl) (fun vs H Q E h => ?_) (fun cdv A outer s H vs Q E hr h => ?_)
  · obtain ⟨S, v, ns, rs, nd, x, rfl, _⟩ := h
    rfl
  · obtain ⟨S, v, ns, rs, nd, x, rfl, hS, hN, k1, k2⟩ := h
    refine ⟨_, (pss_cons (ps_expr (pe_f F_check_node T.c_check_node (hr.mono (by omega)) (px rfl rfl rfl rfl) (pa_cons (pv 0) (pa_cons (pv 1) (pa_cons pe_int (pa_cons pe_int (pa_cons pe_int pa_nil)))))))
      (pss_one (ps_ret (pv 1)))), ?_⟩
    refine callA (ea_cons (ev_var rfl) (ea_cons (ev_var rfl) (ea_cons ev_c (ea_cons ev_c (ea_cons ev_c ea_nil))))) fun H1 e1 => ?_
    refine ⟨S, v, ns, rs, nd, x, 1, 0, 0, rfl, hS.n e1.n, hN.mono e1, by decide, fun m hm H2 e2 => ?_, fun hm => (k2 hm).go e1⟩
    exact s_ret (ev_var rfl) fun H3 e3 => k1 (by rw [hm]; rfl) H3 ((e1.trans e2).trans e3)
end
end TA
end
/-! TaP6 -/
section
set_option Elab.async false
set_option linter.all false
set_option autoImplicit false
set_option maxRecDepth 100000
set_option maxHeartbeats 4000000
namespace TA
open PySem PySem.Spec PyProof.Rows L2 Evl
/-- a line: its start, its program, its end -/
def LineAt (H : Hp) (x : V) (lot : Nat) (p : Addr) (e : Nat) : Prop := ∃ t k s, x = .ref t ∧ H t = some (.tup [vn lot, .ref p, vn e, k, s])
theorem LineAt.n {H H' : Hp} {x : V} {lot e : Nat} {p : Addr} (h : LineAt H x lot p e) (en : ExN H H') : LineAt H' x lot p e := let ⟨t, k, s, h0, h1⟩ := h; ⟨t, k, s, h0, en _ _ (fun _ z => nomatch z) h1⟩
def Pg.lw : Pg → Nat
  | .no => 1
  | .st _ => 1
  | .be a b => a.lw + b.lw + 1
  | .ei a b => a.lw + b.lw + 1
  | .ag a => 8 * a.lw + 8
theorem last_at {α : Type} (xs ini : List α) (x : α) : (xs ++ (ini ++ [x]))[xs.length + ini.length]? = some x := by
  rw [← List.append_assoc, List.getElem?_append_right (by rw [List.length_append]; exact Nat.le_refl _), List.length_append, Nat.sub_self]
  rfl
section
variable {P : Program} {w : World} {K : PySem.W.Frag} {mg : Str → Option Value} {base : Heap}
def spPutLine (_ : PySem.W.Frag) : Sp := fun vs H Q _ => ∃ (L : Addr) (x : V) (xs : List V), vs = [.ref L, x] ∧ H L = some (.lst xs) ∧ xs.length < 100000 ∧ RetV (vn xs.length) (upd H L (.lst (xs ++ [x]))) Q
theorem ok_put_line (T : Txt w K mg) : Fok P w K mg base 1 (a_put_line K) P_put_line (spPutLine K) := by
  refine fok T.f_put_line sc_put_line (fun _ _ _ _ _ _ us hl => match us, hl with | [_, _], _ => rfl) (fun vs H Q E h => ?_) (fun cdv A outer s H vs Q E hr h => ?_)
  · obtain ⟨L, x, xs, rfl, _⟩ := h
    rfl
  · obtain ⟨L, x, xs, rfl, hL, hz, k⟩ := h
    refine ⟨_, (pss_cons (ps_expr (pe_bm PySem.F.plainAttrs_list PySem.F.slot_list_append PySem.F.type_list_append mt_append (pv 0) (pa_cons (pv 1) pa_nil)))
      (pss_one (ps_ret (pe_op op_sub (pe_callB call_len_seq rfl T.m_len bt_len (pa_cons (pv 0) pa_nil)) pe_int)))), ?_⟩
    refine ⟨_, rfl, .inl ⟨rfl, _, .inl (.inl hL)⟩, _, rfl, L, xs, x, rfl, rfl, hL, sz_lt hz, ?_⟩
    refine s_ret (v := vn xs.length) (ev_is (ev_sub (ev_lenL (ev_var rfl) upd_same) (ev_c (v := .int 1))) ?_) k
    rw [List.length_append, List.length_singleton]
    push_cast
    congr 1
    omega
/-- what a call that puts lines leaves -/
def Put (H : Hp) (L : Addr) (xs : List V) (lot : Nat) (p : Addr) (e N : Nat) (Q : VK) : Prop := ∀ H2 ini x, XO L H H2 → H2 L = some (.lst (xs ++ (ini ++ [x]))) → ini.length < N → LineAt H2 x lot p e → Q (vn (xs.length + ini.length)) H2
def spLines (K : PySem.W.Frag) (n : Nat) : Sp := fun vs H Q _ => ∃ (S p L : Addr) (v : Nat) (ns : List Str) (rs : List (List Nat)) (pg : Pg) (lot : Nat) (xs : List V), vs = [.ref S, .ref p, vn lot, .ref L] ∧ StAt K H S v ns rs ∧ PrAt H pg p ∧ pg.ht ≤ n ∧ Fit v ns rs pg ∧ lot < 2 ^ v ∧
  H L = some (.lst xs) ∧ xs.length + pg.lw < 100000 ∧ Put H L xs lot p (runN (rowOf ns rs) pg lot).1 pg.lw Q
/-- of an again -/
def spRounds (K : PySem.W.Frag) (n : Nat) : Sp := fun vs H Q _ => ∃ (S p L : Addr) (v : Nat) (ns : List Str) (rs : List (List Nat)) (pg : Pg) (lot : Nat) (xs : List V), vs = [.ref S, .ref p, vn lot, .ref L] ∧ StAt K H S v ns rs ∧ PrAt H (.ag pg) p ∧ pg.ht ≤ n ∧ Fit v ns rs pg ∧ lot < 2 ^ v ∧
  H L = some (.lst xs) ∧ xs.length + (8 * pg.lw + 8) < 100000 ∧ Put H L xs lot p (runN (rowOf ns rs) (.ag pg) lot).1 (8 * pg.lw + 8) Q
theorem lines_at {n : Nat} {σ : L2.St} {H : Hp} {Q : VK} {E : XK} {S p L : Addr} {v : Nat} {ns : List Str} {rs : List (List Nat)} {pg : Pg} {lot : Nat} {xs : List V} {tb tl : TE} (h0 : σ[0]? = some (some (.ref S))) (hb : Ev tb σ H (.ref p)) (hl : Ev tl σ H (vn lot)) (h3 : σ[3]? = some (some (.ref L)))
    (hS : StAt K H S v ns rs) (hp : PrAt H pg p) (hh : pg.ht ≤ n) (hF : Fit v ns rs pg) (hlt : lot < 2 ^ v) (hL : H L = some (.lst xs)) (hw : xs.length + pg.lw < 100000) (k : Put H L xs lot p (runN (rowOf ns rs) pg lot).1 pg.lw Q) :
    tCall (spLines K n) [] E (tCons (tVar 0) (tCons tb (tCons tl (tCons (tVar 3) tNil)))) σ H Q := by
  refine callA (ea_cons (ev_var h0) (ea_cons hb (ea_cons hl (ea_cons (ev_var h3) ea_nil)))) fun H1 e1 => ?_
  exact ⟨S, p, L, v, ns, rs, pg, lot, xs, rfl, hS.n e1.n, hp.n e1.n, hh, hF, hlt, e1 _ _ hL, hw, fun H2 ini x x2 hL2 hi hx => k H2 ini x (e1.o.trans x2) hL2 hi hx⟩
/-- lines[i][2], lines[i][0] -/
theorem ev_line {σ : L2.St} {H : Hp} {tl ti : TE} {L : Addr} {xs : List V} {i : Nat} {x : V} {lot e : Nat} {p : Addr} (hl : Ev tl σ H (.ref L)) (hi : Ev ti σ H (vn i)) (hL : H L = some (.lst xs)) (hx : xs[i]? = some x) (h : LineAt H x lot p e) : Ev (tOp (rIxA K) (tOp (rIxA K) tl ti) (tC (.int 2))) σ H (vn e) := by
  obtain ⟨t, k, s, rfl, ht⟩ := h
  exact ev_ixT (ev_ixL hl hi hL (atI_nat hx)) ev_c ht rfl
theorem ev_line0 {σ : L2.St} {H : Hp} {tl ti : TE} {L : Addr} {xs : List V} {i : Nat} {x : V} {lot e : Nat} {p : Addr} (hl : Ev tl σ H (.ref L)) (hi : Ev ti σ H (vn i)) (hL : H L = some (.lst xs)) (hx : xs[i]? = some x) (h : LineAt H x lot p e) : Ev (tOp (rIxA K) (tOp (rIxA K) tl ti) (tC (.int 0))) σ H (vn lot) := by
  obtain ⟨t, k, s, rfl, ht⟩ := h
  exact ev_ixT (ev_ixL hl hi hL (atI_nat hx)) ev_c ht rfl
/-- put_line(lines, (a, program, b, word, (..))) -/
theorem put1 {σ : L2.St} {H : Hp} {Q : VK} {E : XK} {L p : Addr} {xs ws : List V} {lot e : Nat} {tl ta tp te tk : TE} {tr : TA} {kv : V} (hl : Ev tl σ H (.ref L)) (ha : Ev ta σ H (vn lot)) (hp : Ev tp σ H (.ref p)) (he : Ev te σ H (vn e)) (hk : Ev tk σ H kv) (hr : EvA tr σ H ws) (hz : ws.length ≤ 1000)
    (hL : H L = some (.lst xs)) (hw : xs.length < 100000) (k : ∀ H2 x, XO L H H2 → H2 L = some (.lst (xs ++ [x])) → LineAt H2 x lot p e → Q (vn xs.length) H2) :
    tCall (spPutLine K) [] E (tCons tl (tCons (tTup (tCons ta (tCons tp (tCons te (tCons tk (tCons (tTup tr) tNil)))))) tNil)) σ H Q := by
  refine hl H (Ex.refl H) _ fun H1 e1 => ?_
  refine ha H1 e1 _ fun H2 e2 => hp H2 (e1.trans e2) _ fun H3 e3 => he H3 ((e1.trans e2).trans e3) _ fun H4 e4 => hk H4 (((e1.trans e2).trans e3).trans e4) _ fun H5 e5 => hr H5 ((((e1.trans e2).trans e3).trans e4).trans e5) _ fun H6 e6 => ?_
  have e06 := (((((e1.trans e2).trans e3).trans e4).trans e5).trans e6)
  refine ⟨Nat.le_trans hz (by decide), fun q hq => ⟨by show 5 ≤ sizeLine; decide, fun t ht => ?_⟩⟩
  have e7 := e06.trans (Ex.new (o := .tup ws) hq)
  have e8 := e7.trans (Ex.new (o := .tup [vn lot, .ref p, vn e, kv, .ref q]) ht)
  refine ⟨L, .ref t, xs, rfl, e8 _ _ hL, hw, fun H9 e9 => ?_⟩
  have hne : t ≠ L := fun z => by
    subst z
    rw [e7 _ _ hL] at ht
    cases ht
  refine k H9 (.ref t) ((e8.o.trans XO.upd).trans e9.o) (e9 _ _ upd_same) ⟨t, kv, .ref q, rfl, e9 _ _ ?_⟩
  rw [upd_ne hne, upd_same]
theorem ok_put_rounds (T : Txt w K mg) {j n : Nat} (F : Fok P w K mg base (j + 5) (a_put_lines K) P_put_lines (spLines K n)) : Fok P w K mg base (j + 6) (a_put_rounds K) P_put_rounds (spRounds K n) := by
  have F_put_lines := F
  have F_put_line := ok_put_line (P := P) (base := base) T
  refine fok T.f_put_rounds sc_put_rounds (fun _ _ _ _ _ _ us hl => match us, hl with | [_, _, _, _], _ => rfl) (fun vs H Q E h => ?_) (fun cdv A outer s H vs Q E hr h => ?_)
  · obtain ⟨S, p, L, v, ns, rs, pg, lot, xs, rfl, _⟩ := h
    rfl
  · obtain ⟨S, p, L, v, ns, rs, pg, lot, xs, rfl, hS, ⟨b, hp, hb⟩, hh, hF, hlt, hL, hwt, k⟩ := h
    have H64 := hr.units
    refine ⟨_, (pss_cons (ps_set (i := 4) sc_put_rounds.nd rfl (Or.inl rfl) (pe_lst pa_nil))
      (pss_cons (ps_set (i := 5) sc_put_rounds.nd rfl (Or.inl rfl) (pv 2))
      (pss_cons (ps_set (i := 6) sc_put_rounds.nd rfl (Or.inl rfl) pe_bl)
      (pss_cons (ps_while (passes_of rfl) (pt_truth (pv 6) (fun _ => rfl)) (pss_cons (ps_set (i := 7) sc_put_rounds.nd rfl (Or.inl rfl) (pe_f F_put_lines T.c_put_lines (hr.mono (by omega)) (px rfl rfl rfl rfl) (pa_cons (pv 0) (pa_cons (pe_ix ix_A (pv 1) pe_int (fun _ _ => rfl)) (pa_cons (pv 5) (pa_cons (pv 3) pa_nil))))))
      (pss_cons (ps_expr (pe_bm PySem.F.plainAttrs_list PySem.F.slot_list_append PySem.F.type_list_append mt_append (pv 4) (pa_cons (pv 7) pa_nil)))
      (pss_cons (ps_set (i := 8) sc_put_rounds.nd rfl (Or.inl rfl) (pe_op op_or (pv 5) (pe_ix ix_A (pe_ix ix_A (pv 3) (pv 7) (fun _ _ => rfl)) pe_int (fun _ _ => rfl))))
      (pss_cons (ps_set (i := 6) sc_put_rounds.nd rfl (Or.inl rfl) (pe_cmpR (op_neA H64) (pv 8) (pv 5) (nomark _)))
      (pss_one (ps_set (i := 5) sc_put_rounds.nd rfl (Or.inl rfl) (pv 8))))))))
      (pss_cons (ps_set (i := 9) sc_put_rounds.nd rfl (Or.inl rfl) (pe_f F_put_line T.c_put_line (hr.mono (by omega)) (px rfl rfl rfl rfl) (pa_cons (pv 3) (pa_cons (pe_tup (pa_cons (pv 5) (pa_cons (pv 1) (pa_cons (pv 5) (pa_cons pe_str (pa_cons (pe_tup (pa_cons (pe_ix ix_A (pv 4) (pe_un un_neg pe_int) (fun _ _ => rfl)) pa_nil)) pa_nil)))))) pa_nil))))
      (pss_cons (ps_for (passes_of rfl) rfl (RT.pi_revA rfl T.m_reversed (pe_slice sl_A (pv 4) po_none (po_some (pe_un un_neg pe_int)))) (pg_name (i := 7) sc_put_rounds.nd rfl (Or.inl rfl)) (pss_one (ps_set (i := 9) sc_put_rounds.nd rfl (Or.inl rfl) (pe_f F_put_line T.c_put_line (hr.mono (by omega)) (px rfl rfl rfl rfl) (pa_cons (pv 3) (pa_cons (pe_tup (pa_cons (pe_ix ix_A (pe_ix ix_A (pv 3) (pv 7) (fun _ _ => rfl)) pe_int (fun _ _ => rfl)) (pa_cons (pv 1) (pa_cons (pv 5) (pa_cons pe_str (pa_cons (pe_tup (pa_cons (pv 7) (pa_cons (pv 9) pa_nil))) pa_nil)))))) pa_nil))))))
      (pss_one (ps_ret (pv 9))))))))), ?_⟩
    refine ⟨Nat.zero_le _, fun N hN => ?_⟩
    have eN : Ex H (upd H N (.lst [])) := Ex.new hN
    have nNL : L ≠ N := ne_of_none hL hN
    refine q_asg (ev_var rfl) fun H1 e1 => ?_
    refine q_asg ev_c fun H2 e2 => ?_
    have e02 := (eN.trans e1).trans e2
    have hN2 : H2 N = some (.lst []) := e2 _ _ (e1 _ _ upd_same)
    have v6 : (2 : Nat) ^ v ≤ 64 := Nat.pow_le_pow_right (by decide) hF.vok.2
    -- the turns
    refine q_while (fun m σ' H' => ∃ (r : Nat) (s7 s8 : Option V) (acc : List Nat) (new : List V), XO L H H' ∧ H' N = some (.lst (acc.map vn)) ∧ H' L = some (.lst (xs ++ new)) ∧ new.length + m * pg.lw ≤ 8 * pg.lw ∧ acc.length + m ≤ 8 ∧ r < 2 ^ v ∧
        (∀ i y, acc[i]? = some y → ∃ x st e, (xs ++ new)[y]? = some x ∧ LineAt H' x st b e ∧ (i = 0 → st = lot)) ∧
        ((σ'[6]? = some (some (.bl true)) ∧ (runN (rowOf ns rs) (.ag pg) lot).1 = (agR m (runN (rowOf ns rs) pg) r).1 ∧ 8 ≤ bits r + m ∧ (acc = [] → r = lot)) ∨ (σ'[6]? = some (some (.bl false)) ∧ (runN (rowOf ns rs) (.ag pg) lot).1 = r ∧ acc ≠ [] ∧ (acc.length = 1 → r = lot))) ∧
        ∃ s6, σ' = [some (.ref S), some (.ref p), some (vn lot), some (.ref L), some (.ref N), some (vn r), s6, s7, s8, none]) 8
      ⟨lot, none, none, [], [], e02.o, hN2, by rw [List.append_nil]; exact e02 _ _ hL, by simp, by simp, hlt, (fun i y h => nomatch h), .inl ⟨rfl, rfl, Nat.le_add_left _ _, fun _ => rfl⟩, _, rfl⟩ fun m σ' H' W => ?_
    obtain ⟨r, s7, s8, acc, new, x1, hN1, hL1, hz1, hz2, hr1, hacc, hgo, s6, rfl⟩ := W
    rcases hgo with ⟨g6, hv, hbm, hr0⟩ | ⟨g6, hv, hne, hr0⟩
    · have e6 : s6 = some (.bl true) := Option.some.inj g6
      subst e6
      refine ⟨true, fun H3 e3 Q' q => ⟨_, rfl, true, rfl, q H3 (Ex.refl H3)⟩, fun _ H3 e3 => ?_, fun z => nomatch z⟩
      obtain ⟨m, rfl⟩ : ∃ i, m = i + 1 := ⟨m - 1, by have := bits_le r; omega⟩
      have n3 : ExN H H3 := (x1.n hL).trans e3.n
      rw [Nat.succ_mul] at hz1
      have hlt2 := runN_lt hF.lt pg r hr1
      refine ⟨_, fun σ2 H2 q => q, ?_⟩
      refine lines_at rfl (ev_ixT (ev_var rfl) (ev_c (v := .int 1)) (n3 _ _ (fun _ z => nomatch z) hp) rfl) (ev_var rfl) rfl (hS.n n3) (hb.n n3) hh hF hr1 (e3 _ _ hL1) (by rw [List.length_append]; omega) fun H4 ini x x4 hL4 hi hx => ?_
      have hN4 : H4 N = some (.lst (acc.map vn)) := x4 _ _ (Ne.symm nNL) (e3 _ _ hN1)
      -- numbers.append(number)
      refine ⟨_, rfl, .inl ⟨rfl, _, .inl (.inl hN4)⟩, _, rfl, N, _, _, rfl, rfl, hN4, sz_lt (by rw [List.length_map]; omega), ?_⟩
      have hNe : (upd H4 N (.lst (acc.map vn ++ [vn ((xs ++ new).length + ini.length)]))) L = some (.lst (xs ++ new ++ (ini ++ [x]))) := by
        rw [upd_ne nNL]
        exact hL4
      have n5 : ExN H4 (upd H4 N (.lst (acc.map vn ++ [vn ((xs ++ new).length + ini.length)]))) := (XO.upd (m := N)).n hN4
      refine q_asg (ev_or (ev_var rfl) (ev_line (ev_var rfl) (ev_var rfl) hNe (last_at _ _ _) (hx.n n5))) fun H5 e5 => ?_
      refine q_asg (ev_neN (ev_var rfl) (ev_var rfl)) fun H6 e6 => ?_
      refine s_asg (ev_var rfl) fun H7 e7 => ?_
      have e57 := (e5.trans e6).trans e7
      have hL7 : H7 L = some (.lst (xs ++ (new ++ (ini ++ [x])))) := by
        rw [← List.append_assoc]
        exact e57 _ _ hNe
      have nn7 : ExN H' H7 := ((e3.n.trans (x4.n (e3 _ _ hL1))).trans n5).trans e57.n
      refine ⟨m, Nat.lt_succ_self m, r ||| (runN (rowOf ns rs) pg r).1, some (vn ((xs ++ new).length + ini.length)), some (vn (r ||| (runN (rowOf ns rs) pg r).1)), acc ++ [(xs ++ new).length + ini.length], new ++ (ini ++ [x]), ?_, ?_, hL7, ?_, ?_, Nat.or_lt_two_pow hr1 hlt2, ?_, ?_, _, rfl⟩
      · intro c o hc q
        have q4 := x4 c o hc (e3 _ _ (x1 c o hc q))
        refine e57 _ _ ?_
        rw [upd_ne (ne_of_none q hN)]
        exact q4
      · rw [List.map_append]
        exact e57 _ _ upd_same
      · rw [List.length_append, List.length_append, List.length_singleton]
        omega
      · rw [List.length_append, List.length_singleton]
        omega
      · intro i y hy
        by_cases hi2 : i < acc.length
        · rw [List.getElem?_append_left hi2] at hy
          obtain ⟨x', st, e', h1, h2, h3⟩ := hacc i y hy
          refine ⟨x', st, e', ?_, h2.n nn7, h3⟩
          rw [← List.append_assoc, List.getElem?_append_left (List.getElem?_eq_some_iff.mp h1).1]
          exact h1
        · rw [List.getElem?_append_right (by omega)] at hy
          have hi3 : i - acc.length = 0 := by
            have := (List.getElem?_eq_some_iff.mp hy).1
            simp at this
            omega
          rw [hi3] at hy
          have ey := Option.some.inj hy
          subst ey
          refine ⟨x, r, _, ?_, (hx.n n5).n e57.n, fun hi0 => hr0 ?_⟩
          · rw [← List.append_assoc]
            exact last_at _ _ _
          · exact List.length_eq_zero_iff.mp (by omega)
      · by_cases q : r ||| (runN (rowOf ns rs) pg r).1 = r
        · refine .inr ⟨?_, ?_, by simp, fun hl1 => ?_⟩
          · show some (some (V.bl (!decide (r ||| (runN (rowOf ns rs) pg r).1 = r)))) = _
            rw [decide_eq_true q]
            rfl
          · rw [hv]
            conv => lhs; unfold agR
            rw [if_pos q, q]
          · rw [q]
            refine hr0 (List.length_eq_zero_iff.mp ?_)
            rw [List.length_append, List.length_singleton] at hl1
            omega
        · refine .inl ⟨?_, ?_, ?_, by simp⟩
          · show some (some (V.bl (!decide (r ||| (runN (rowOf ns rs) pg r).1 = r)))) = _
            rw [decide_eq_false q]
            rfl
          · rw [hv]
            conv => lhs; unfold agR
            rw [if_neg q]
          · have g := bits_grow r (by omega) _ (Nat.lt_of_lt_of_le hlt2 v6) q
            omega
    · have e6 : s6 = some (.bl false) := Option.some.inj g6
      subst e6
      refine ⟨false, fun H3 e3 Q' q => ⟨_, rfl, false, rfl, q H3 (Ex.refl H3)⟩, fun z => (nomatch z), fun _ H3 e3 => ?_⟩
      -- the last lines
      have n3 : ExN H' H3 := e3.n
      refine put1 (ws := [vn (acc.getLastD 0)]) (ev_var rfl) (ev_var rfl) (ev_var rfl) (ev_var rfl) ev_c (ea_cons (ev_ixL (ev_var rfl) (ev_neg (ev_c (v := .int 1))) (e3 _ _ hN1) (getLastD_at hne)) ea_nil) (show 1 ≤ 1000 by decide) (e3 _ _ hL1) (by rw [List.length_append]; omega) fun H4 x x4 hL4 hx => ?_
      have hN4 : H4 N = some (.lst (acc.map vn)) := x4 _ _ (Ne.symm nNL) (e3 _ _ hN1)
      have n4 : ExN H' H4 := n3.trans (x4.n (e3 _ _ hL1))
      have x04 : XO L H H4 := (x1.trans e3.o).trans x4
      have hcut : cutV (acc.map vn) none (some (-1)) = acc.dropLast.map vn := by
        show ((acc.map vn).drop 0).take ((if (-1 : Int) < 0 then ((-1 : Int) + ((acc.map vn).length : Int)).toNat else min (-1 : Int).toNat (acc.map vn).length) - 0) = _
        rw [if_pos (by decide : (-1 : Int) < 0), List.length_map, List.dropLast_eq_take, List.map_take, List.drop_zero]
        congr 1
        omega
      refine ⟨_, rfl, 1, rfl, -1, rfl, .inl ⟨N, acc.map vn, rfl, sq_of hN4, fun R hR => ?_⟩⟩
      rw [hcut]
      have nNR : L ≠ R := ne_of_none hL4 hR
      refine ⟨R, acc.dropLast.map vn, rfl, .inl ⟨sq_of upd_same, for_it walk_rev (fun i σ' H' => ∃ (ini more : List V) (x : V) (st : Nat) (s7 : Option V), ExN H4 H' ∧ XO L H H' ∧ H' R = some (.lst (acc.dropLast.map vn)) ∧ H' L = some (.lst (xs ++ (ini ++ [x]))) ∧ ini ++ [x] = new ++ more ∧ ini.length = new.length + i ∧
        LineAt H' x st p r ∧ (i = 0 → st = r) ∧ (0 < i → i + 1 = acc.length → st = lot) ∧ σ' = [some (.ref S), some (.ref p), some (vn lot), some (.ref L), some (.ref N), some (vn r), some (.bl false), s7, s8, some (vn (xs.length + ini.length))])
        ⟨new, [x], x, r, s7, (Ex.new hR).n, x04.trans (Ex.new hR).o, upd_same, by rw [upd_ne nNR, ← List.append_assoc]; exact hL4, rfl, rfl, hx.n (Ex.new hR).n, fun _ => rfl, fun z => absurd z (Nat.lt_irrefl 0), by rw [List.length_append] <;> rfl⟩
        (fun i σ' H' _ W => by obtain ⟨_, _, _, _, _, _, _, h, _⟩ := W; exact sq_of h) (fun i y σ' H' H'' hi W hy => ?_) (fun σ' H' W => ?_)⟩⟩
      · obtain ⟨rfl, hy⟩ := hy
        obtain ⟨ini, more, x', st, s7', n5, x5, hR5, hL5, em, el, hx5, _, _, rfl⟩ := W
        obtain ⟨lt, rfl⟩ := map_at hy
        rw [List.length_map, List.length_dropLast] at hi hy lt ⊢
        have hidx : acc.length - 1 - 1 - i < acc.length := by omega
        have hget : acc[acc.length - 1 - 1 - i]? = some (acc.dropLast.getD (acc.length - 1 - 1 - i) 0) := by
          rw [List.getD_eq_getElem?_getD, List.getElem?_dropLast, if_pos (by omega), List.getElem?_eq_getElem hidx]
          rfl
        obtain ⟨xl, st2, e2, h1, h2, h3⟩ := hacc _ _ hget
        have h1' : (xs ++ (ini ++ [x']))[acc.dropLast.getD (acc.length - 1 - 1 - i) 0]? = some xl := by
          rw [em, ← List.append_assoc, List.getElem?_append_left (List.getElem?_eq_some_iff.mp h1).1]
          exact h1
        have hxl := (h2.n n4).n n5
        refine put1 (ws := [vn (acc.dropLast.getD (acc.length - 1 - 1 - i) 0), vn (xs.length + ini.length)]) (ev_var rfl) (ev_line0 (ev_var rfl) (ev_var rfl) hL5 h1' hxl) (ev_var rfl) (ev_var rfl) ev_c (ea_cons (ev_var rfl) (ea_cons (ev_var rfl) ea_nil)) (show 2 ≤ 1000 by decide) hL5 (by rw [List.length_append, List.length_append, List.length_singleton]; omega) fun H6 x6 xo6 hL6 hx6 => ?_
        refine ⟨ini ++ [x'], more ++ [x6], x6, st2, some (vn (acc.dropLast.getD (acc.length - 1 - 1 - i) 0)), n5.trans (xo6.n hL5), x5.trans xo6, xo6 _ _ (Ne.symm nNR) hR5, ?_, ?_, ?_, hx6, fun z => absurd z (Nat.succ_ne_zero i), fun _ z => h3 (by omega), ?_⟩
        · rw [← List.append_assoc]
          exact hL6
        · rw [em, List.append_assoc]
        · rw [List.length_append, List.length_singleton]
          omega
        · rw [List.length_append]
          rfl
      · obtain ⟨ini, more, x', st, s7', n5, x5, hR5, hL5, em, el, hx5, hi0, hi1, rfl⟩ := W
        rw [List.length_map, List.length_dropLast] at el hi0 hi1
        have hst : st = lot := by
          have hp : 0 < acc.length := List.length_pos_iff.mpr hne
          by_cases z : acc.length = 1
          · rw [hi0 (by omega), hr0 z]
          · exact hi1 (by omega) (by omega)
        rw [hst] at hx5
        refine s_ret (ev_var rfl) fun H6 e6 => ?_
        rw [← hv] at hx5
        exact k H6 ini x' (x5.trans e6.o) (e6 _ _ hL5) (by omega) (hx5.n e6.n)
theorem ok_put_lines (T : Txt w K mg) : ∀ n, Fok P w K mg base (2 * n + 10) (a_put_lines K) P_put_lines (spLines K n)
  | 0 => by
    refine fok T.f_put_lines sc_put_lines (fun _ _ _ _ _ _ us hl => match us, hl with | [_, _, _, _], _ => rfl) (fun vs H Q E h => ?_) (fun cdv A outer s H vs Q E hr h => ?_)
    · obtain ⟨S, p, L, v, ns, rs, pg, lot, xs, rfl, _⟩ := h
      rfl
    · obtain ⟨S, p, L, v, ns, rs, pg, lot, xs, rfl, _, _, h, _⟩ := h
      have := ht_pos pg
      omega
  | n + 1 => by
    have F_put_lines := ok_put_lines T n
    have F_put_line := ok_put_line (P := P) (base := base) T
    have F_next_lot := ok_next_lot (P := P) (base := base) T
    have F_Steps_row_of := ok_row_of (P := P) (base := base) T
    have F_put_rounds := ok_put_rounds (j := 2 * n + 5) T F_put_lines
    refine fok T.f_put_lines sc_put_lines (fun _ _ _ _ _ _ us hl => match us, hl with | [_, _, _, _], _ => rfl) (fun vs H Q E h => ?_) (fun cdv A outer s H vs Q E hr h => ?_)
    · obtain ⟨S, p, L, v, ns, rs, pg, lot, xs, rfl, _⟩ := h
      rfl
    · obtain ⟨S, p, L, v, ns, rs, pg, lot, xs, rfl, hS, hp, hh, hF, hlt, hL, hwt, k⟩ := h
      have H64 := hr.units
      refine ⟨_, (pss_cons (ps_set (i := 4) sc_put_lines.nd rfl (Or.inl rfl) (pe_ix ix_A (pv 1) pe_int (fun _ _ => rfl)))
      (pss_cons (ps_if (pt_cmpR (op_eqA H64) (pv 4) pe_str (nomark _)) (pss_one (ps_ret (pe_f F_put_line T.c_put_line (hr.mono (by omega)) (px rfl rfl rfl rfl) (pa_cons (pv 3) (pa_cons (pe_tup (pa_cons (pv 2) (pa_cons (pv 1) (pa_cons (pe_f F_next_lot T.c_next_lot (hr.mono (by omega)) (px rfl rfl rfl rfl) (pa_cons (pe_m F_Steps_row_of (pv 0) T.k_Steps T.me_Steps_row_of (hr.mono (by omega)) (px rfl rfl rfl rfl) (pa_cons (pe_ix ix_A (pv 1) pe_int (fun _ _ => rfl)) pa_nil)) (pa_cons (pv 2) pa_nil))) (pa_cons pe_str (pa_cons (pe_tup pa_nil) pa_nil)))))) pa_nil))))) pss_nil)
      (pss_cons (ps_if (pt_cmpR (op_eqA H64) (pv 4) pe_str (nomark _)) (pss_one (ps_ret (pe_f F_put_line T.c_put_line (hr.mono (by omega)) (px rfl rfl rfl rfl) (pa_cons (pv 3) (pa_cons (pe_tup (pa_cons (pv 2) (pa_cons (pv 1) (pa_cons (pv 2) (pa_cons pe_str (pa_cons (pe_tup pa_nil) pa_nil)))))) pa_nil))))) pss_nil)
      (pss_cons (ps_if (pt_cmpR (op_eqA H64) (pv 4) pe_str (nomark _)) (pss_one (ps_ret (pe_f F_put_rounds T.c_put_rounds (hr.mono (by omega)) (px rfl rfl rfl rfl) (pa_cons (pv 0) (pa_cons (pv 1) (pa_cons (pv 2) (pa_cons (pv 3) pa_nil))))))) pss_nil)
      (pss_cons (ps_set (i := 5) sc_put_lines.nd rfl (Or.inl rfl) (pe_f F_put_lines T.c_put_lines (hr.mono (by omega)) (px rfl rfl rfl rfl) (pa_cons (pv 0) (pa_cons (pe_ix ix_A (pv 1) pe_int (fun _ _ => rfl)) (pa_cons (pv 2) (pa_cons (pv 3) pa_nil))))))
      (pss_cons (ps_if (pt_cmpR (op_eqA H64) (pv 4) pe_str (nomark _)) (pss_cons (ps_set (i := 6) sc_put_lines.nd rfl (Or.inl rfl) (pe_f F_put_lines T.c_put_lines (hr.mono (by omega)) (px rfl rfl rfl rfl) (pa_cons (pv 0) (pa_cons (pe_ix ix_A (pv 1) pe_int (fun _ _ => rfl)) (pa_cons (pe_ix ix_A (pe_ix ix_A (pv 3) (pv 5) (fun _ _ => rfl)) pe_int (fun _ _ => rfl)) (pa_cons (pv 3) pa_nil))))))
      (pss_one (ps_set (i := 7) sc_put_lines.nd rfl (Or.inl rfl) (pe_ix ix_A (pe_ix ix_A (pv 3) (pv 6) (fun _ _ => rfl)) pe_int (fun _ _ => rfl))))) (pss_cons (ps_set (i := 6) sc_put_lines.nd rfl (Or.inl rfl) (pe_f F_put_lines T.c_put_lines (hr.mono (by omega)) (px rfl rfl rfl rfl) (pa_cons (pv 0) (pa_cons (pe_ix ix_A (pv 1) pe_int (fun _ _ => rfl)) (pa_cons (pv 2) (pa_cons (pv 3) pa_nil))))))
      (pss_one (ps_set (i := 7) sc_put_lines.nd rfl (Or.inl rfl) (pe_op op_or (pe_ix ix_A (pe_ix ix_A (pv 3) (pv 5) (fun _ _ => rfl)) pe_int (fun _ _ => rfl)) (pe_ix ix_A (pe_ix ix_A (pv 3) (pv 6) (fun _ _ => rfl)) pe_int (fun _ _ => rfl)))))))
      (pss_one (ps_ret (pe_f F_put_line T.c_put_line (hr.mono (by omega)) (px rfl rfl rfl rfl) (pa_cons (pv 3) (pa_cons (pe_tup (pa_cons (pv 2) (pa_cons (pv 1) (pa_cons (pv 7) (pa_cons (pv 4) (pa_cons (pe_tup (pa_cons (pv 5) (pa_cons (pv 6) pa_nil))) pa_nil)))))) pa_nil))))))))))), ?_⟩
      have no : ∀ {z y : Str} {σ : L2.St} {H2 : Hp} {t u : TS} {D : Ends}, σ[4]? = some (some (.str z)) → decide (z = y) = false → (∀ H3, Ex H2 H3 → u D σ H3) → tSeq (tIfS (tTest (tOp (rEqA K) (tVar 4) (tC (.str y)))) t tNext) u D σ H2 := fun h1 h2 h3 =>
        q_when (b := false) (et_is (et_test (ev_eqS (ev_var h1) ev_c)) h2) (fun z => nomatch z) (fun _ => h3)
      cases pg with
      | no =>
        refine q_asg (ev_ixT (ev_var rfl) (ev_c (v := .int 0)) hp rfl) fun H1 e1 => ?_
        refine no rfl (by decide +kernel) fun H2 e2 => ?_
        refine q_when (b := true) (et_is (et_test (ev_eqS (ev_var rfl) ev_c)) (by decide +kernel)) (fun _ H3 e3 => ?_) (fun z => nomatch z)
        have e := (e1.trans e2).trans e3
        exact put1 (ws := []) (ev_var rfl) (ev_var rfl) (ev_var rfl) (ev_var rfl) ev_c ea_nil (by decide) (e _ _ hL) (Nat.lt_of_le_of_lt (Nat.le_add_right _ _) hwt) fun H4 x x4 hL4 hx => k H4 [] x (e.o.trans x4) hL4 Nat.one_pos hx
      | st nm =>
        obtain ⟨dx, a, b, ras, h1, h2, h3, h4, h5⟩ := id hS
        have hnm : nm ∈ ns := hF.use nm (List.mem_singleton.mpr rfl)
        have hra := rowAd_at h4 h5 hnm
        have hl2 : ns.length = ras.length := h5.trans (Paired.length h4).symm
        refine q_asg (ev_ixT (ev_var rfl) (ev_c (v := .int 0)) hp rfl) fun H1 e1 => ?_
        refine q_when (b := true) (et_is (et_test (ev_eqS (ev_var rfl) ev_c)) (by decide +kernel)) (fun _ H2 e2 => ?_) (fun z => nomatch z)
        have e := e1.trans e2
        exact put1 (ws := []) (ev_var rfl) (ev_var rfl) (ev_var rfl) (ev_f (ea_cons (ev_m (ev_var rfl) (e _ _ h1) rfl (ea_cons (ev_ixT (ev_var rfl) (ev_c (v := .int 1)) (e _ _ hp) rfl) ea_nil) (sv_row_of (e _ _ h1) (e _ _ h2) (e _ _ h3) hl2 hnm)) (ea_cons (ev_var rfl) ea_nil)) (sv_next_lot (hra.1.n e.n)))
          ev_c ea_nil (by decide) (e _ _ hL) (Nat.lt_of_le_of_lt (Nat.le_add_right _ _) hwt) fun H4 x x4 hL4 hx => k H4 [] x (e.o.trans x4) hL4 Nat.one_pos hx
      | ag p1 =>
        obtain ⟨b, hp0, hb⟩ := id hp
        have hh2 : p1.ht + 1 ≤ n + 1 := hh
        refine q_asg (ev_ixT (ev_var rfl) (ev_c (v := .int 0)) hp0 rfl) fun H1 e1 => ?_
        refine no rfl (by decide +kernel) fun H2 e2 => ?_
        refine no rfl (by decide +kernel) fun H3 e3 => ?_
        refine q_when (b := true) (et_is (et_test (ev_eqS (ev_var rfl) ev_c)) (by decide +kernel)) (fun _ H4 e4 => ?_) (fun z => nomatch z)
        have e := ((e1.trans e2).trans e3).trans e4
        refine callA (ea_cons (ev_var rfl) (ea_cons (ev_var rfl) (ea_cons (ev_var rfl) (ea_cons (ev_var rfl) ea_nil)))) fun H5 e5 => ?_
        have e05 := e.trans e5
        exact ⟨S, p, L, v, ns, rs, p1, lot, xs, rfl, hS.n e05.n, PrAt.n e05.n hp, by omega, ⟨hF.vok, hF.rows, hF.use⟩, hlt, e05 _ _ hL, hwt, fun H6 ini x x6 hL6 hi hx => k H6 ini x (e05.o.trans x6) hL6 hi hx⟩
      | be p1 p2 =>
        obtain ⟨b, c, hp, hb, hc⟩ := hp
        have hh2 : max p1.ht p2.ht + 1 ≤ n + 1 := hh
        have hw2 : xs.length + (p1.lw + p2.lw + 1) < 100000 := hwt
        have F1 : Fit v ns rs p1 := ⟨hF.vok, hF.rows, fun x hx => hF.use x (List.mem_append_left _ hx)⟩
        have F2 : Fit v ns rs p2 := ⟨hF.vok, hF.rows, fun x hx => hF.use x (List.mem_append_right _ hx)⟩
        refine q_asg (ev_ixT (ev_var rfl) (ev_c (v := .int 0)) hp rfl) fun H1 e1 => ?_
        refine no rfl (by decide +kernel) fun H2 e2 => ?_
        refine no rfl (by decide +kernel) fun H3 e3 => ?_
        refine no rfl (by decide +kernel) fun H4 e4 => ?_
        have e := ((e1.trans e2).trans e3).trans e4
        refine lines_at rfl (ev_ixT (ev_var rfl) (ev_c (v := .int 1)) (e _ _ hp) rfl) (ev_var rfl) rfl (hS.n e.n) (hb.n e.n) (by omega) F1 hlt (e _ _ hL) (by omega) fun H5 ini x x5 hL5 hi hx => ?_
        have n5 : ExN H H5 := e.n.trans (x5.n (e _ _ hL))
        refine q_if (b := true) (et_is (et_test (ev_eqS (ev_var rfl) ev_c)) (by decide +kernel)) (fun _ H6 e6 => ?_) (fun z => nomatch z)
        have n6 := n5.trans e6.n
        refine lines_at rfl (ev_ixT (ev_var rfl) (ev_c (v := .int 2)) (n6 _ _ (fun _ z => nomatch z) hp) rfl) (ev_line (ev_var rfl) (ev_var rfl) (e6 _ _ hL5) (last_at _ _ _) (hx.n e6.n)) rfl (hS.n n6) (hc.n n6) (by omega) F2 (runN_lt F1.lt p1 lot hlt) (e6 _ _ hL5) (by rw [List.length_append, List.length_append, List.length_singleton]; omega) fun H7 ini2 x2 x7 hL7 hi2 hx2 => ?_
        refine s_asg (ev_line (ev_var rfl) (ev_var rfl) hL7 (last_at _ _ _) hx2) fun H8 e8 => ?_
        refine put1 (ws := [vn (xs.length + ini.length), vn ((xs ++ (ini ++ [x])).length + ini2.length)]) (ev_var rfl) (ev_var rfl) (ev_var rfl) (ev_var rfl) (ev_var rfl) (ea_cons (ev_var rfl) (ea_cons (ev_var rfl) ea_nil)) (show 2 ≤ 1000 by decide) (e8 _ _ hL7) (by simp only [List.length_append, List.length_singleton]; omega) fun H9 x9 xo9 hL9 hx9 => ?_
        have xo : XO L H H9 := ((((e.o.trans x5).trans e6.o).trans x7).trans e8.o).trans xo9
        have q := k H9 ((ini ++ [x]) ++ (ini2 ++ [x2])) x9 xo (by simpa only [List.append_assoc] using hL9) (by show _ < p1.lw + p2.lw + 1; simp only [List.length_append, List.length_singleton]; omega) hx9
        simpa only [List.length_append, List.length_singleton, Nat.add_assoc] using q
      | ei p1 p2 =>
        obtain ⟨b, c, hp, hb, hc⟩ := hp
        have hh2 : max p1.ht p2.ht + 1 ≤ n + 1 := hh
        have hw2 : xs.length + (p1.lw + p2.lw + 1) < 100000 := hwt
        have F1 : Fit v ns rs p1 := ⟨hF.vok, hF.rows, fun x hx => hF.use x (List.mem_append_left _ hx)⟩
        have F2 : Fit v ns rs p2 := ⟨hF.vok, hF.rows, fun x hx => hF.use x (List.mem_append_right _ hx)⟩
        refine q_asg (ev_ixT (ev_var rfl) (ev_c (v := .int 0)) hp rfl) fun H1 e1 => ?_
        refine no rfl (by decide +kernel) fun H2 e2 => ?_
        refine no rfl (by decide +kernel) fun H3 e3 => ?_
        refine no rfl (by decide +kernel) fun H4 e4 => ?_
        have e := ((e1.trans e2).trans e3).trans e4
        refine lines_at rfl (ev_ixT (ev_var rfl) (ev_c (v := .int 1)) (e _ _ hp) rfl) (ev_var rfl) rfl (hS.n e.n) (hb.n e.n) (by omega) F1 hlt (e _ _ hL) (by omega) fun H5 ini x x5 hL5 hi hx => ?_
        have n5 : ExN H H5 := e.n.trans (x5.n (e _ _ hL))
        refine q_if (b := false) (et_is (et_test (ev_eqS (ev_var rfl) ev_c)) (by decide +kernel)) (fun z => nomatch z) (fun _ H6 e6 => ?_)
        have n6 := n5.trans e6.n
        refine lines_at rfl (ev_ixT (ev_var rfl) (ev_c (v := .int 2)) (n6 _ _ (fun _ z => nomatch z) hp) rfl) (ev_var rfl) rfl (hS.n n6) (hc.n n6) (by omega) F2 hlt (e6 _ _ hL5) (by rw [List.length_append, List.length_append, List.length_singleton]; omega) fun H7 ini2 x2 x7 hL7 hi2 hx2 => ?_
        have hx7 : (xs ++ (ini ++ [x]) ++ (ini2 ++ [x2]))[xs.length + ini.length]? = some x := by
          rw [List.getElem?_append_left (by simp only [List.length_append, List.length_singleton]; omega)]
          exact last_at _ _ _
        refine s_asg (ev_or (ev_line (ev_var rfl) (ev_var rfl) hL7 hx7 ((hx.n e6.n).n (x7.n (e6 _ _ hL5)))) (ev_line (ev_var rfl) (ev_var rfl) hL7 (last_at _ _ _) hx2)) fun H8 e8 => ?_
        refine put1 (ws := [vn (xs.length + ini.length), vn ((xs ++ (ini ++ [x])).length + ini2.length)]) (ev_var rfl) (ev_var rfl) (ev_var rfl) (ev_var rfl) (ev_var rfl) (ea_cons (ev_var rfl) (ea_cons (ev_var rfl) ea_nil)) (show 2 ≤ 1000 by decide) (e8 _ _ hL7) (by simp only [List.length_append, List.length_singleton]; omega) fun H9 x9 xo9 hL9 hx9 => ?_
        have xo : XO L H H9 := ((((e.o.trans x5).trans e6.o).trans x7).trans e8.o).trans xo9
        have q := k H9 ((ini ++ [x]) ++ (ini2 ++ [x2])) x9 xo (by simpa only [List.append_assoc] using hL9) (by show _ < p1.lw + p2.lw + 1; simp only [List.length_append, List.length_singleton]; omega) hx9
        simpa only [List.length_append, List.length_singleton, Nat.add_assoc] using q
end
end TA
end
/-! TaP7 -/
section
set_option Elab.async false
set_option linter.all false
set_option autoImplicit false
set_option maxRecDepth 100000
set_option maxHeartbeats 4000000
namespace TA
open PySem PySem.Spec PyProof.Rows L2 Evl
/-- the look of a program to check_node -/
def ndOf : Pg → Nd
  | .no => .no
  | .st nm => .st (.str nm)
  | .be a b => .be (ndOf a) (ndOf b)
  | .ei a b => .ei (ndOf a) (ndOf b)
  | .ag a => .ag (ndOf a)
theorem ndOf_at {H : Hp} : ∀ {p : Pg} {a : Addr}, PrAt H p a → NdAt H (ndOf p) (.ref a)
  | .no, a, h => ⟨a, rfl, h⟩
  | .st nm, a, h => ⟨a, "str", rfl, h, .str nm⟩
  | .be _ _, a, ⟨b, c, h1, h2, h3⟩ => ⟨a, .ref b, .ref c, rfl, h1, ndOf_at h2, ndOf_at h3⟩
  | .ei _ _, a, ⟨b, c, h1, h2, h3⟩ => ⟨a, .ref b, .ref c, rfl, h1, ndOf_at h2, ndOf_at h3⟩
  | .ag _, a, ⟨b, h1, h2⟩ => ⟨a, .ref b, rfl, h1, ndOf_at h2⟩
/-- a program that the law draws fits such steps -/
structure Goods (v : Nat) (ns : List Str) (rs : List (List Nat)) (pg : Pg) : Prop where
  fit : Fit v ns rs pg
  ht : pg.ht ≤ 8
  wt : pg.wt ≤ 1000
  lw : pg.lw ≤ 1000
  ok : (chk ns (ndOf pg) 1 0 0).isSome = true
/-- BadLot -/
def BlX (K : PySem.W.Frag) (H : Hp) (E : XK) : Prop := ∀ H2, Ex H H2 → E (.ref (He.ga K "BadLot")) none H2
def UlX (K : PySem.W.Frag) (H : Hp) (E : XK) : Prop := ∀ H2, Ex H H2 → E (.ref (He.ga K "UnlikeStands")) none H2
/-- a new tuple is given -/
def RetU (xs : List V) (H : Hp) (Q : VK) : Prop := ∀ t H2, Ex H H2 → H2 t = some (.tup xs) → Q (.ref t) H2
/-- all steps met are sharp -/
def runSharp (ms : List Nat) (row : Str → List Nat) (pg : Pg) (lot : Nat) : Bool := (runN row pg lot).2.all fun q => sharpB ms (row q.1) q.2
/-- a lot of which nothing was found yet that lies within -/
def lsTo (ok sh : Nat → Bool) : Nat → List Nat
  | 0 => []
  | n + 1 => if ok n = true ∧ ((!(lsTo ok sh n).any fun o => decide (o &&& n = o)) && sh n) = true then lsTo ok sh n ++ [n] else lsTo ok sh n
theorem lsTo_le (ok sh : Nat → Bool) : ∀ n, (lsTo ok sh n).length ≤ n
  | 0 => Nat.le_refl _
  | n + 1 => by
    have h := lsTo_le ok sh n
    unfold lsTo
    split
    · rw [List.length_append, List.length_singleton]
      omega
    · omega
theorem lsTo_lt (ok sh : Nat → Bool) : ∀ n, ∀ y ∈ lsTo ok sh n, y < n
  | 0, y, h => nomatch h
  | n + 1, y, h => by
    unfold lsTo at h
    split at h
    · rcases List.mem_append.mp h with z | z
      · exact Nat.lt_succ_of_lt (lsTo_lt ok sh n y z)
      · rw [List.mem_singleton.mp z]
        exact Nat.lt_succ_self n
    · exact Nat.lt_succ_of_lt (lsTo_lt ok sh n y h)
/-- lies within reached, and reached within what it is rounded to -/
def endB (ms : List Nat) (reached e : Nat) : Bool := decide (e &&& reached = e) && decide (reached &&& roundN ms e = reached)
section
variable {P : Program} {w : World} {K : PySem.W.Frag} {mg : Str → Option Value} {base : Heap}
variable {σ : L2.St} {H : Hp} {D : Ends} {tz : TS} {E : XK}
theorem q_alike {i j : Nat} {G S : Addr} {v v2 : Nat} {ms : List Nat} {ns : List Str} {rs : List (List Nat)} (h0 : σ[i]? = some (some (.ref G))) (h1 : σ[j]? = some (some (.ref S))) (hG : GlAt K H G v ms) (hS : StAt K H S v2 ns rs) (hx : v ≠ v2 → UlX K H E) (k : v = v2 → ∀ H2, Ex H H2 → tz D σ H2) :
    tSeq (tDrop (tCall (spAlike K) [] E (tCons (tVar i) (tCons (tVar j) tNil)))) tz D σ H :=
  callA (ea_cons (ev_var h0) (ea_cons (ev_var h1) ea_nil)) fun H1 e1 => ⟨G, S, v, v2, ms, ns, rs, rfl, hG.n e1.n, hS.n e1.n, fun hv H2 e2 => k hv H2 (e1.trans e2), fun hv H2 e2 => hx hv H2 (e1.trans e2)⟩
theorem q_program {i j : Nat} {S : Addr} {v : Nat} {ns : List Str} {rs : List (List Nat)} {nd : Nd} {x : V} (h0 : σ[i]? = some (some (.ref S))) (h1 : σ[j]? = some (some x)) (hS : StAt K H S v ns rs) (hN : NdAt H nd x) (hx : chk ns nd 1 0 0 = none → BpX K H E) (k : (chk ns nd 1 0 0).isSome = true → ∀ H2, Ex H H2 → tz D σ H2) :
    tSeq (tDrop (tCall (spCheckProgram K) [] E (tCons (tVar i) (tCons (tVar j) tNil)))) tz D σ H :=
  callA (ea_cons (ev_var h0) (ea_cons (ev_var h1) ea_nil)) fun H1 e1 => ⟨S, v, ns, rs, nd, x, rfl, hS.n e1.n, hN.mono e1, fun hv H2 e2 => k hv H2 (e1.trans e2), fun hv => (hx hv).go e1⟩
theorem q_lot {i j : Nat} {S : Addr} {v : Nat} {ns : List Str} {rs : List (List Nat)} {y : V} {ty : String} (T : Txt w K mg) (h0 : σ[i]? = some (some (.ref S))) (h1 : σ[j]? = some (some y)) (hS : StAt K H S v ns rs) (hv : Vok v) (hy : Kd H y ty) (hx : lotB v y = false → BlX K H E) (k : lotB v y = true → ∀ H2, Ex H H2 → tz D σ H2) :
    tSeq (tDrop (tCall (spCheckLot K) [] E (tCons (tFld K (tVar i) "stands") (tCons (tVar j) tNil)))) tz D σ H := by
  obtain ⟨dx, a, b, ras, hS1, _⟩ := hS
  exact callA (ea_cons (ev_fld (ev_var h0) hS1 T.k_Steps T.n_Steps_stands rfl) (ea_cons (ev_var h1) ea_nil)) fun H1 e1 => ⟨v, y, ty, rfl, hv, hy.mono e1, fun hb H2 e2 => k hb H2 (e1.trans e2), fun hb H2 e2 => hx hb H2 (e1.trans e2)⟩
/-! ### true_end, true_lines -/
def spTrueEnd (K : PySem.W.Frag) : Sp := fun vs H Q _ => ∃ (S p : Addr) (v : Nat) (ns : List Str) (rs : List (List Nat)) (pg : Pg) (lot : Nat), vs = [.ref S, .ref p, vn lot] ∧ StAt K H S v ns rs ∧ PrAt H pg p ∧ Goods v ns rs pg ∧ lot < 2 ^ v ∧ RetV (vn (runN (rowOf ns rs) pg lot).1) H Q
theorem ok_true_end (T : Txt w K mg) : Fok P w K mg base 24 (a_true_end K) P_true_end (spTrueEnd K) := by
  have F_check_program := ok_check_program (P := P) (base := base) T
  have F_check_lot := ok_check_lot (P := P) (base := base) T
  have F_end_of := ok_end_of (P := P) (base := base) T 8
  refine fok T.f_true_end sc_true_end (fun _ _ _ _ _ _ us hl => match us, hl with | [_, _, _], _ => rfl) (fun vs H Q E h => ?_) (fun cdv A outer s H vs Q E hr h => ?_)
  · obtain ⟨S, p, v, ns, rs, pg, lot, rfl, _⟩ := h
    rfl
  · obtain ⟨S, p, v, ns, rs, pg, lot, rfl, hS, hp, hg, hl, k⟩ := h
    refine ⟨_, (pss_cons (ps_expr (pe_f F_check_program T.c_check_program (hr.mono (by omega)) (px rfl rfl rfl rfl) (pa_cons (pv 0) (pa_cons (pv 1) pa_nil))))
      (pss_cons (ps_expr (pe_f F_check_lot T.c_check_lot (hr.mono (by omega)) (px rfl rfl rfl rfl) (pa_cons (pe_fld (pv 0) rfl) (pa_cons (pv 2) pa_nil))))
      (pss_one (ps_ret (pe_f F_end_of T.c_end_of (hr.mono (by omega)) (px rfl rfl rfl rfl) (pa_cons (pv 0) (pa_cons (pv 1) (pa_cons (pv 2) pa_nil)))))))), ?_⟩
    refine q_program rfl rfl hS (ndOf_at hp) (fun z => absurd z (Option.isSome_iff_ne_none.mp hg.ok)) fun _ H1 e1 => ?_
    refine q_lot T rfl rfl (hS.n e1.n) hg.fit.vok (.int _) (fun z => by rw [lotB_nat, decide_eq_true hl] at z; cases z) fun _ H2 e2 => ?_
    have e := e1.trans e2
    exact s_ret (ev_f (ea_cons (ev_var rfl) (ea_cons (ev_var rfl) (ea_cons (ev_var rfl) ea_nil))) (sv_end (hS.n e.n) (hp.n e.n) hg.ht hg.fit hl)) fun H3 e3 => k H3 (e.trans e3)
theorem sv_true_end {H : Hp} {S p : Addr} {v : Nat} {ns : List Str} {rs : List (List Nat)} {pg : Pg} {lot : Nat} (hS : StAt K H S v ns rs) (hp : PrAt H pg p) (hg : Goods v ns rs pg) (hl : lot < 2 ^ v) : SpV (spTrueEnd K) [.ref S, .ref p, vn lot] H (vn (runN (rowOf ns rs) pg lot).1) :=
  fun H1 e Q q E => ⟨S, p, v, ns, rs, pg, lot, rfl, hS.n e.n, hp.n e.n, hg, hl, q⟩
/-- what true_lines gives of good things: lines, the last of which is the whole -/
def RetLines (H : Hp) (lot : Nat) (p : Addr) (e : Nat) (Q : VK) : Prop := ∀ t H2 ini x, Ex H H2 → H2 t = some (.tup (ini ++ [x])) → ini.length ≤ 1000 → LineAt H2 x lot p e → Q (.ref t) H2
def spTrueLines (K : PySem.W.Frag) : Sp := fun vs H Q E => ∃ (S : Addr) (v : Nat) (ns : List Str) (rs : List (List Nat)) (nd : Nd) (x y : V) (ty : String), vs = [.ref S, x, y] ∧ StAt K H S v ns rs ∧ NdAt H nd x ∧ Kd H y ty ∧ Vok v ∧
  (chk ns nd 1 0 0 = none → BpX K H E) ∧ ((chk ns nd 1 0 0).isSome = true → lotB v y = false → BlX K H E) ∧ ((chk ns nd 1 0 0).isSome = true → lotB v y = true → ∃ (p : Addr) (pg : Pg) (lot : Nat), x = .ref p ∧ y = vn lot ∧ PrAt H pg p ∧ Goods v ns rs pg ∧ lot < 2 ^ v ∧ RetLines H lot p (runN (rowOf ns rs) pg lot).1 Q)
theorem ok_true_lines (T : Txt w K mg) : Fok P w K mg base 27 (a_true_lines K) P_true_lines (spTrueLines K) := by
  have F_check_program := ok_check_program (P := P) (base := base) T
  have F_check_lot := ok_check_lot (P := P) (base := base) T
  have F_put_lines := ok_put_lines (P := P) (base := base) T 8
  refine fok T.f_true_lines sc_true_lines (fun _ _ _ _ _ _ us hl => match us, hl with | [_, _, _], _ => rfl) (fun vs H Q E h => ?_) (fun cdv A outer s H vs Q E hr h => ?_)
  · obtain ⟨S, v, ns, rs, nd, x, y, ty, rfl, _⟩ := h
    rfl
  · obtain ⟨S, v, ns, rs, nd, x, y, ty, rfl, hS, hN, hy, hv, k1, k2, k3⟩ := h
    refine ⟨_, (pss_cons (ps_expr (pe_f F_check_program T.c_check_program (hr.mono (by omega)) (px rfl rfl rfl rfl) (pa_cons (pv 0) (pa_cons (pv 1) pa_nil))))
      (pss_cons (ps_expr (pe_f F_check_lot T.c_check_lot (hr.mono (by omega)) (px rfl rfl rfl rfl) (pa_cons (pe_fld (pv 0) rfl) (pa_cons (pv 2) pa_nil))))
      (pss_cons (ps_set (i := 3) sc_true_lines.nd rfl (Or.inl rfl) (pe_lst pa_nil))
      (pss_cons (ps_expr (pe_f F_put_lines T.c_put_lines (hr.mono (by omega)) (px rfl rfl rfl rfl) (pa_cons (pv 0) (pa_cons (pv 1) (pa_cons (pv 2) (pa_cons (pv 3) pa_nil))))))
      (pss_one (ps_ret (pe_callTy call_tuple_of rfl T.m_tuple bt_tuple (pa_cons (pv 3) pa_nil)))))))), ?_⟩
    refine q_program rfl rfl hS hN k1 fun hc H1 e1 => ?_
    refine q_lot T rfl rfl (hS.n e1.n) hv (hy.mono e1) (fun z H2 e2 => k2 hc z H2 (e1.trans e2)) fun hb H2 e2 => ?_
    obtain ⟨p, pg, lot, rfl, rfl, hp, hg, hl, k⟩ := k3 hc hb
    have e := e1.trans e2
    refine ⟨Nat.zero_le _, fun L hL => ?_⟩
    have e3 := e.trans (Ex.new (o := .lst []) hL)
    refine callA (ea_cons (ev_var rfl) (ea_cons (ev_var rfl) (ea_cons (ev_var rfl) (ea_cons (ev_var rfl) ea_nil)))) fun H4 e4 => ?_
    have e04 := e3.trans e4
    have hw := hg.lw
    refine ⟨S, p, L, v, ns, rs, pg, lot, [], rfl, hS.n e04.n, hp.n e04.n, hg.ht, hg.fit, hl, e4 _ _ upd_same, by simp; omega, fun H5 ini x x5 hL5 hi hx => ?_⟩
    have x05 : Ex H H5 := fun b o q => by
      refine x5 b o (fun z => ?_) (e04 b o q)
      subst z
      rw [e b o q] at hL
      cases hL
    refine s_retU (eu_tupL (ev_var rfl) hL5) fun t H6 _ e6 ht => k t H6 ini x (x05.trans e6) ht (by omega) (hx.n e6.n)
/-! ### runs that are sharp -/
def spRunsSharp (K : PySem.W.Frag) : Sp := fun vs H Q _ => ∃ (G S p : Addr) (v : Nat) (ms : List Nat) (ns : List Str) (rs : List (List Nat)) (pg : Pg) (lot : Nat), vs = [.ref G, .ref S, .ref p, vn lot] ∧ GlAt K H G v ms ∧ StAt K H S v ns rs ∧ PrAt H pg p ∧ MsOk v ms ∧ Goods v ns rs pg ∧ lot < 2 ^ v ∧
  RetV (.bl (runSharp ms (rowOf ns rs) pg lot)) H Q
theorem sv_runs_sharp {H : Hp} {G S p : Addr} {v : Nat} {ms : List Nat} {ns : List Str} {rs : List (List Nat)} {pg : Pg} {lot : Nat} (hG : GlAt K H G v ms) (hS : StAt K H S v ns rs) (hp : PrAt H pg p) (hm : MsOk v ms) (hg : Goods v ns rs pg) (hl : lot < 2 ^ v) :
    SpV (spRunsSharp K) [.ref G, .ref S, .ref p, vn lot] H (.bl (runSharp ms (rowOf ns rs) pg lot)) := fun H1 e Q q E => ⟨G, S, p, v, ms, ns, rs, pg, lot, rfl, hG.n e.n, hS.n e.n, hp.n e.n, hm, hg, hl, q⟩
/-- what is asked of the six, in order: k is what follows where all is good -/
def Gate (K : PySem.W.Frag) (H : Hp) (E : XK) (v v2 : Nat) (ns : List Str) (nd : Nd) : Prop := (v ≠ v2 → UlX K H E) ∧ (v = v2 → chk ns nd 1 0 0 = none → BpX K H E)
def GateL (K : PySem.W.Frag) (H : Hp) (E : XK) (v v2 : Nat) (ns : List Str) (nd : Nd) (y : V) : Prop := Gate K H E v v2 ns nd ∧ (v = v2 → (chk ns nd 1 0 0).isSome = true → lotB v2 y = false → BlX K H E)
/-- all is good -/
structure AllGood (K : PySem.W.Frag) (H : Hp) (v v2 : Nat) (ms : List Nat) (ns : List Str) (rs : List (List Nat)) (x : V) (p : Addr) (pg : Pg) : Prop where
  x : x = .ref p
  pr : PrAt H pg p
  ms : MsOk v ms
  gd : Goods v ns rs pg
def spFind (K : PySem.W.Frag) : Sp := fun vs H Q E => ∃ (G S : Addr) (v v2 : Nat) (ms : List Nat) (ns : List Str) (rs : List (List Nat)) (nd : Nd) (x y : V) (ty : String), vs = [.ref G, .ref S, x, y] ∧ GlAt K H G v ms ∧ StAt K H S v2 ns rs ∧ NdAt H nd x ∧ Kd H y ty ∧ Vok v2 ∧
  GateL K H E v v2 ns nd y ∧ (v = v2 → (chk ns nd 1 0 0).isSome = true → lotB v2 y = true → ∃ (p : Addr) (pg : Pg) (lot : Nat), AllGood K H v v2 ms ns rs x p pg ∧ y = vn lot ∧ lot < 2 ^ v ∧
    (runSharp ms (rowOf ns rs) pg lot = false → RetV .non H Q) ∧ (runSharp ms (rowOf ns rs) pg lot = true → RetLines H lot p (runN (rowOf ns rs) pg lot).1 Q))
theorem ok_find_lines (T : Txt w K mg) (F_runs_sharp : Fok P w K mg base 40 (a_runs_sharp K) P_runs_sharp (spRunsSharp K)) : Fok P w K mg base 41 (a_find_lines K) P_find_lines (spFind K) := by
  have F_check_alike := ok_check_alike (P := P) (base := base) T
  have F_check_program := ok_check_program (P := P) (base := base) T
  have F_check_lot := ok_check_lot (P := P) (base := base) T
  have F_true_lines := ok_true_lines (P := P) (base := base) T
  refine fok T.f_find_lines sc_find_lines (fun _ _ _ _ _ _ us hl => match us, hl with | [_, _, _, _], _ => rfl) (fun vs H Q E h => ?_) (fun cdv A outer s H vs Q E hr h => ?_)
  · obtain ⟨G, S, v, v2, ms, ns, rs, nd, x, y, ty, rfl, _⟩ := h
    rfl
  · obtain ⟨G, S, v, v2, ms, ns, rs, nd, x, y, ty, rfl, hG, hS, hN, hy, hv2, ⟨⟨k1, k2⟩, k3⟩, k4⟩ := h
    refine ⟨_, (pss_cons (ps_expr (pe_f F_check_alike T.c_check_alike (hr.mono (by omega)) (px rfl rfl rfl rfl) (pa_cons (pv 0) (pa_cons (pv 1) pa_nil))))
      (pss_cons (ps_expr (pe_f F_check_program T.c_check_program (hr.mono (by omega)) (px rfl rfl rfl rfl) (pa_cons (pv 1) (pa_cons (pv 2) pa_nil))))
      (pss_cons (ps_expr (pe_f F_check_lot T.c_check_lot (hr.mono (by omega)) (px rfl rfl rfl rfl) (pa_cons (pe_fld (pv 1) rfl) (pa_cons (pv 3) pa_nil))))
      (pss_cons (ps_if (pt_not (pt_val (pe_f F_runs_sharp T.c_runs_sharp (hr.mono (by omega)) (px rfl rfl rfl rfl) (pa_cons (pv 0) (pa_cons (pv 1) (pa_cons (pv 2) (pa_cons (pv 3) pa_nil))))))) (pss_one (ps_ret pe_non)) pss_nil)
      (pss_one (ps_ret (pe_f F_true_lines T.c_true_lines (hr.mono (by omega)) (px rfl rfl rfl rfl) (pa_cons (pv 1) (pa_cons (pv 2) (pa_cons (pv 3) pa_nil)))))))))), ?_⟩
    refine q_alike rfl rfl hG hS k1 fun hv H1 e1 => ?_
    refine q_program rfl rfl (hS.n e1.n) (hN.mono e1) (fun z => (k2 hv z).go e1) fun hc H2 e2 => ?_
    have e12 := e1.trans e2
    refine q_lot T rfl rfl (hS.n e12.n) hv2 (hy.mono e12) (fun z H3 e3 => k3 hv hc z H3 (e12.trans e3)) fun hb H3 e3 => ?_
    have e := e12.trans e3
    obtain ⟨p, pg, lot, hg, rfl, hl, ka, kb⟩ := k4 hv hc hb
    obtain ⟨rfl, hp, hm, hgd⟩ := hg
    subst hv
    refine q_when (et_not (et_B (ev_f (ea_cons (ev_var rfl) (ea_cons (ev_var rfl) (ea_cons (ev_var rfl) (ea_cons (ev_var rfl) ea_nil)))) (sv_runs_sharp (hG.n e.n) (hS.n e.n) (hp.n e.n) hm hgd hl)))) (fun hb2 H4 e4 => ?_) (fun hb2 H4 e4 => ?_)
    · exact s_ret ev_c fun H5 e5 => ka (by simpa using hb2) H5 ((e.trans e4).trans e5)
    · have e04 := e.trans e4
      refine callA (ea_cons (ev_var rfl) (ea_cons (ev_var rfl) (ea_cons (ev_var rfl) ea_nil))) fun H5 e5 => ?_
      have e05 := e04.trans e5
      refine ⟨S, v, ns, rs, ndOf pg, .ref p, vn lot, "int", rfl, hS.n e05.n, ndOf_at (hp.n e05.n), .int _, hv2, fun z => absurd z (Option.isSome_iff_ne_none.mp hgd.ok), fun _ z => ?_, fun _ _ => ⟨p, pg, lot, rfl, rfl, hp.n e05.n, hgd, hl, fun t H6 ini x e6 h1 h2 h3 => kb (by simpa using hb2) t H6 ini x (e05.trans e6) h1 h2 h3⟩⟩
      rw [lotB_nat, decide_eq_true hl] at z
      cases z
def spHas (K : PySem.W.Frag) : Sp := fun vs H Q E => ∃ (G S : Addr) (v v2 : Nat) (ms : List Nat) (ns : List Str) (rs : List (List Nat)) (nd : Nd) (x y z : V) (ty ty2 : String), vs = [.ref G, .ref S, x, y, z] ∧ GlAt K H G v ms ∧ StAt K H S v2 ns rs ∧ NdAt H nd x ∧ Kd H y ty ∧ Kd H z ty2 ∧ Vok v2 ∧
  GateL K H E v v2 ns nd y ∧ (v = v2 → (chk ns nd 1 0 0).isSome = true → lotB v2 y = true → lotB v2 z = false → BlX K H E) ∧ (v = v2 → (chk ns nd 1 0 0).isSome = true → lotB v2 y = true → lotB v2 z = true → ∃ (p : Addr) (pg : Pg) (lot e : Nat), AllGood K H v v2 ms ns rs x p pg ∧ y = vn lot ∧ z = vn e ∧ lot < 2 ^ v ∧ e < 2 ^ v ∧
    RetV (.bl (runSharp ms (rowOf ns rs) pg lot && endB ms (runN (rowOf ns rs) pg lot).1 e)) H Q)
theorem v64 {v n : Nat} (hv : Vok v) (h : n < 2 ^ v) : n < 64 := Nat.lt_of_lt_of_le h (Nat.pow_le_pow_right (by decide) hv.2)
theorem ok_has_line (T : Txt w K mg) (F_runs_sharp : Fok P w K mg base 40 (a_runs_sharp K) P_runs_sharp (spRunsSharp K)) : Fok P w K mg base 41 (a_has_line K) P_has_line (spHas K) := by
  have F_check_alike := ok_check_alike (P := P) (base := base) T
  have F_check_program := ok_check_program (P := P) (base := base) T
  have F_check_lot := ok_check_lot (P := P) (base := base) T
  have F_true_end := ok_true_end (P := P) (base := base) T
  have F_is_within := ok_is_within (P := P) (base := base) T
  have F_Glasses_rounded := ok_rounded (P := P) (base := base) T
  refine fok T.f_has_line sc_has_line (fun _ _ _ _ _ _ us hl => match us, hl with | [_, _, _, _, _], _ => rfl) (fun vs H Q E h => ?_) (fun cdv A outer s H vs Q E hr h => ?_)
  · obtain ⟨G, S, v, v2, ms, ns, rs, nd, x, y, z, ty, ty2, rfl, _⟩ := h
    rfl
  · obtain ⟨G, S, v, v2, ms, ns, rs, nd, x, y, z, ty, ty2, rfl, hG, hS, hN, hy, hz, hv2, ⟨⟨k1, k2⟩, k3⟩, k4, k5⟩ := h
    refine ⟨_, (pss_cons (ps_expr (pe_f F_check_alike T.c_check_alike (hr.mono (by omega)) (px rfl rfl rfl rfl) (pa_cons (pv 0) (pa_cons (pv 1) pa_nil))))
      (pss_cons (ps_expr (pe_f F_check_program T.c_check_program (hr.mono (by omega)) (px rfl rfl rfl rfl) (pa_cons (pv 1) (pa_cons (pv 2) pa_nil))))
      (pss_cons (ps_expr (pe_f F_check_lot T.c_check_lot (hr.mono (by omega)) (px rfl rfl rfl rfl) (pa_cons (pe_fld (pv 1) rfl) (pa_cons (pv 3) pa_nil))))
      (pss_cons (ps_expr (pe_f F_check_lot T.c_check_lot (hr.mono (by omega)) (px rfl rfl rfl rfl) (pa_cons (pe_fld (pv 1) rfl) (pa_cons (pv 4) pa_nil))))
      (pss_cons (ps_if (pt_not (pt_val (pe_f F_runs_sharp T.c_runs_sharp (hr.mono (by omega)) (px rfl rfl rfl rfl) (pa_cons (pv 0) (pa_cons (pv 1) (pa_cons (pv 2) (pa_cons (pv 3) pa_nil))))))) (pss_one (ps_ret pe_bl)) pss_nil)
      (pss_cons (ps_set (i := 5) sc_has_line.nd rfl (Or.inl rfl) (pe_f F_true_end T.c_true_end (hr.mono (by omega)) (px rfl rfl rfl rfl) (pa_cons (pv 1) (pa_cons (pv 2) (pa_cons (pv 3) pa_nil)))))
      (pss_one (ps_ret (pe_and (pe_f F_is_within T.c_is_within (hr.mono (by omega)) (px rfl rfl rfl rfl) (pa_cons (pv 4) (pa_cons (pv 5) pa_nil))) (pe_one (pe_f F_is_within T.c_is_within (hr.mono (by omega)) (px rfl rfl rfl rfl) (pa_cons (pv 5) (pa_cons (pe_m F_Glasses_rounded (pv 0) T.k_Glasses T.me_Glasses_rounded (hr.mono (by omega)) (px rfl rfl rfl rfl) (pa_cons (pv 4) pa_nil)) pa_nil))))))))))))), ?_⟩
    refine q_alike rfl rfl hG hS k1 fun hv H1 e1 => ?_
    refine q_program rfl rfl (hS.n e1.n) (hN.mono e1) (fun z => (k2 hv z).go e1) fun hc H2 e2 => ?_
    have e12 := e1.trans e2
    refine q_lot T rfl rfl (hS.n e12.n) hv2 (hy.mono e12) (fun z H3 e3 => k3 hv hc z H3 (e12.trans e3)) fun hb H3 e3 => ?_
    have e13 := e12.trans e3
    refine q_lot T rfl rfl (hS.n e13.n) hv2 (hz.mono e13) (fun z H3 e3 => k4 hv hc hb z H3 (e13.trans e3)) fun hb2 H4 e4 => ?_
    have e := e13.trans e4
    obtain ⟨p, pg, lot, en, hg, rfl, rfl, hl, hen, k⟩ := k5 hv hc hb hb2
    obtain ⟨rfl, hp, hm, hgd⟩ := hg
    subst hv
    refine q_when (et_not (et_B (ev_f (ea_cons (ev_var rfl) (ea_cons (ev_var rfl) (ea_cons (ev_var rfl) (ea_cons (ev_var rfl) ea_nil)))) (sv_runs_sharp (hG.n e.n) (hS.n e.n) (hp.n e.n) hm hgd hl)))) (fun hb3 H5 e5 => ?_) (fun hb3 H5 e5 => ?_)
    · have hf : runSharp ms (rowOf ns rs) pg lot = false := by simpa using hb3
      rw [hf, Bool.false_and] at k
      exact s_ret ev_c fun H6 e6 => k H6 ((e.trans e5).trans e6)
    · have hf : runSharp ms (rowOf ns rs) pg lot = true := by simpa using hb3
      rw [hf, Bool.true_and] at k
      have e05 := e.trans e5
      have hlt := runN_lt hgd.fit.lt pg lot hl
      refine q_asg (ev_f (ea_cons (ev_var rfl) (ea_cons (ev_var rfl) (ea_cons (ev_var rfl) ea_nil))) (sv_true_end (hS.n e05.n) (hp.n e05.n) hgd hl)) fun H6 e6 => ?_
      have e06 := e05.trans e6
      obtain ⟨dx, b, hG1, _⟩ := id hG
      exact s_ret (ev_andV (ev_f (ea_cons (ev_var rfl) (ea_cons (ev_var rfl) ea_nil)) (sv_is_within (v64 hv2 hen) (v64 hv2 hlt))) (fun _ => ev_f (ea_cons (ev_var rfl) (ea_cons (ev_m (ev_var rfl) (e06 _ _ hG1) rfl (ea_cons (ev_var rfl) ea_nil) (sv_rounded (hG.n e06.n) hv2 hm.ne hen)) ea_nil)) (sv_is_within (v64 hv2 hlt) (v64 hv2 (roundN_lt hm.last)))))
        fun H7 e7 => k H7 (e06.trans e7)
end
end TA
end
/-! TaP8 -/
section
set_option Elab.async false
set_option linter.all false
set_option autoImplicit false
set_option maxRecDepth 100000
set_option maxHeartbeats 4000000
namespace TA
open PySem PySem.Spec PyProof.Rows L2 Evl
section
variable {K : PySem.W.Frag} {σ : L2.St} {H : Hp} {tl te : TE} {a : Addr} {xs : List V} {j : Nat} {vs : List Nat}
/-- a comprehension over a list, in the sum of walks -/
theorem el_A {g : TG} {t : TT} (h : EvL (tLc (iList K tl) g t te vs) σ H xs) : EvL (tLc (iA K tl) g t te vs) σ H xs := fun H1 e Q q => .inl (h H1 e Q q)
theorem eu_tupE (h : EvL tl σ H xs) : EvU (tCB (fun vs H Q => ∃ p ys, vs = [.ref p] ∧ ((SqL K H p ys ∧ ∀ l, H l = none → Q (.ref l) (upd H l (.tup ys))) ∨ (SqT K H p ys ∧ Q (.ref p) H))) (tCons tl tNil)) σ H xs := fun H1 e Q q =>
  h H1 e _ fun p H2 _ e2 hp => ⟨p, xs, rfl, .inl ⟨sq_of hp, fun l hl => q l _ (fresh_back e2 hl) (e2.trans (Ex.new hl)) upd_same⟩⟩
theorem ev_any {bs : List Bool} (h : EvL tl σ H (bs.map V.bl)) : Ev (tCB (rAny K) (tCons tl tNil)) σ H (.bl (bs.any id)) := fun H1 e Q q => h H1 e _ fun p H2 _ e2 hp => ⟨p, bs, rfl, sq_of hp, q H2 e2⟩
theorem given_all (n : Nat) (v : Nat → V) : given n (fun _ => true) v = (List.range n).map v := by
  unfold given
  rw [List.filter_eq_self.mpr (fun _ _ => rfl)]
/-- any of the found lots within -/
theorem ev_anyW {tw : TE} {f : Nat → Bool} {ns : List Nat} (ha : Ev tl σ H (.ref a)) (hx : H a = some (.lst (ns.map vn))) (hz : ns.length ≤ 100) (hw : ∀ x, wipe ((wipe σ vs).set j (some x)) vs = wipe σ vs)
    (he : ∀ n ∈ ns, ∀ H1, Ex H H1 → Ev tw ((wipe σ vs).set j (some (vn n))) H1 (.bl (f n))) : Ev (tCB (rAny K) (tCons (tLc (iA K tl) (gName j) tYes tw vs) tNil)) σ H (.bl (ns.any f)) := by
  have q : EvL (tLc (iA K tl) (gName j) tYes tw vs) σ H ((ns.map f).map V.bl) := by
    have z := el_lcL (t := tYes) (te := tw) (j := j) (vs := vs) (K := K) (xs := ns.map vn) (fun _ => true) (fun i => V.bl (f (ns.getD i 0))) ha (sq_of hx) (by rw [List.length_map]; omega) hw (fun i x H1 e hi => fun H2 e2 Q q => q H2 (Ex.refl H2)) (fun i x H1 e hi _ => by
      obtain ⟨lt, rfl⟩ := map_at hi
      refine he _ ?_ H1 e
      rw [List.getD_eq_getElem?_getD, List.getElem?_eq_getElem lt]
      exact List.getElem_mem lt)
    rw [given_all, List.length_map] at z
    have e : (List.range ns.length).map (fun i => V.bl (f (ns.getD i 0))) = (ns.map f).map V.bl := by
      apply List.ext_getElem?
      intro i
      rw [List.getElem?_map, List.getElem?_map, List.getElem?_map]
      by_cases h : i < ns.length
      · rw [List.getElem?_range h, List.getElem?_eq_getElem h]
        show some (V.bl (f (ns.getD i 0))) = some (V.bl (f ns[i]))
        rw [List.getD_eq_getElem?_getD, List.getElem?_eq_getElem h]
        rfl
      · rw [List.getElem?_eq_none (by rw [List.length_range]; omega), List.getElem?_eq_none (by omega)]
        rfl
    rw [e] at z
    exact el_A z
  have r := ev_any (K := K) q
  rw [List.any_map] at r
  exact r
end
section
variable {P : Program} {w : World} {K : PySem.W.Frag} {mg : Str → Option Value} {base : Heap}
def spEnds (K : PySem.W.Frag) : Sp := fun vs H Q E => ∃ (G S : Addr) (v v2 : Nat) (ms : List Nat) (ns : List Str) (rs : List (List Nat)) (nd : Nd) (x y : V) (ty : String), vs = [.ref G, .ref S, x, y] ∧ GlAt K H G v ms ∧ StAt K H S v2 ns rs ∧ NdAt H nd x ∧ Kd H y ty ∧ Vok v2 ∧
  GateL K H E v v2 ns nd y ∧ (v = v2 → (chk ns nd 1 0 0).isSome = true → lotB v2 y = true → ∃ (p : Addr) (pg : Pg) (lot : Nat), AllGood K H v v2 ms ns rs x p pg ∧ y = vn lot ∧ lot < 2 ^ v ∧
    RetU ((if runSharp ms (rowOf ns rs) pg lot = true then lsTo (endB ms (runN (rowOf ns rs) pg lot).1) (fun _ => true) ((runN (rowOf ns rs) pg lot).1 + 1) else []).map vn) H Q)
theorem ok_least_ends (T : Txt w K mg) (F_runs_sharp : Fok P w K mg base 40 (a_runs_sharp K) P_runs_sharp (spRunsSharp K)) : Fok P w K mg base 41 (a_least_ends K) P_least_ends (spEnds K) := by
  have F_check_alike := ok_check_alike (P := P) (base := base) T
  have F_check_program := ok_check_program (P := P) (base := base) T
  have F_check_lot := ok_check_lot (P := P) (base := base) T
  have F_true_end := ok_true_end (P := P) (base := base) T
  have F_is_within := ok_is_within (P := P) (base := base) T
  have F_Glasses_rounded := ok_rounded (P := P) (base := base) T
  refine fok T.f_least_ends sc_least_ends (fun _ _ _ _ _ _ us hl => match us, hl with | [_, _, _, _], _ => rfl) (fun vs H Q E h => ?_) (fun cdv A outer s H vs Q E hr h => ?_)
  · obtain ⟨G, S, v, v2, ms, ns, rs, nd, x, y, ty, rfl, _⟩ := h
    rfl
  · obtain ⟨G, S, v, v2, ms, ns, rs, nd, x, y, ty, rfl, hG, hS, hN, hy, hv2, ⟨⟨k1, k2⟩, k3⟩, k4⟩ := h
    refine ⟨_, (pss_cons (ps_expr (pe_f F_check_alike T.c_check_alike (hr.mono (by omega)) (px rfl rfl rfl rfl) (pa_cons (pv 0) (pa_cons (pv 1) pa_nil))))
      (pss_cons (ps_expr (pe_f F_check_program T.c_check_program (hr.mono (by omega)) (px rfl rfl rfl rfl) (pa_cons (pv 1) (pa_cons (pv 2) pa_nil))))
      (pss_cons (ps_expr (pe_f F_check_lot T.c_check_lot (hr.mono (by omega)) (px rfl rfl rfl rfl) (pa_cons (pe_fld (pv 1) rfl) (pa_cons (pv 3) pa_nil))))
      (pss_cons (ps_if (pt_not (pt_val (pe_f F_runs_sharp T.c_runs_sharp (hr.mono (by omega)) (px rfl rfl rfl rfl) (pa_cons (pv 0) (pa_cons (pv 1) (pa_cons (pv 2) (pa_cons (pv 3) pa_nil))))))) (pss_one (ps_ret (pe_tup pa_nil))) pss_nil)
      (pss_cons (ps_set (i := 4) sc_least_ends.nd rfl (Or.inl rfl) (pe_f F_true_end T.c_true_end (hr.mono (by omega)) (px rfl rfl rfl rfl) (pa_cons (pv 1) (pa_cons (pv 2) (pa_cons (pv 3) pa_nil)))))
      (pss_cons (ps_set (i := 5) sc_least_ends.nd rfl (Or.inl rfl) (pe_lst pa_nil))
      (pss_cons (ps_for (passes_of rfl) rfl (pi_range1 rfl T.m_range (pa_cons (pe_op op_addA (pv 4) pe_int) pa_nil)) (pg_name (i := 6) sc_least_ends.nd rfl (Or.inr rfl)) (pss_one (ps_if (PW.pt (pw_and (pt_val (pe_f F_is_within T.c_is_within (hr.mono (by omega)) (px rfl rfl rfl rfl) (pa_cons (pv 6) (pa_cons (pv 4) pa_nil)))) (pw_and1 (pt_val (pe_f F_is_within T.c_is_within (hr.mono (by omega)) (px rfl rfl rfl rfl) (pa_cons (pv 4) (pa_cons (pe_m F_Glasses_rounded (pv 0) T.k_Glasses T.me_Glasses_rounded (hr.mono (by omega)) (px rfl rfl rfl rfl) (pa_cons (pv 6) pa_nil)) pa_nil))))))) (pss_one (ps_if (pt_not (pt_val (pe_callB (cr_any rfl) rfl T.m_any bt_any (pa_cons (pe_lc (own := [("one", 7)]) (g := (gName 7)) (tt := tYes) rfl sc_least_ends.nd (pi_A (pv 5)) (blkOk_by (N := N_least_ends) (sc := defScope s_least_ends) (by decide +kernel)) (fun _ _ _ _ _ => (pg_name (i := 7) sc_least_ends.nd rfl (Or.inl rfl))) (fun _ _ _ _ _ => pts_nil) (fun _ _ _ _ _ => (pe_f F_is_within T.c_is_within (hr.mono (by omega)) passL (pa_cons (pv 7) (pa_cons (pv 6) pa_nil))))) pa_nil)))) (pss_one (ps_expr (pe_bm PySem.F.plainAttrs_list PySem.F.slot_list_append PySem.F.type_list_append mt_append (pv 5) (pa_cons (pv 6) pa_nil)))) pss_nil)) pss_nil)))
      (pss_one (ps_ret (pe_callTy call_tuple_of rfl T.m_tuple bt_tuple (pa_cons (pv 5) pa_nil))))))))))), ?_⟩
    refine q_alike rfl rfl hG hS k1 fun hv H1 e1 => ?_
    refine q_program rfl rfl (hS.n e1.n) (hN.mono e1) (fun z => (k2 hv z).go e1) fun hc H2 e2 => ?_
    have e12 := e1.trans e2
    refine q_lot T rfl rfl (hS.n e12.n) hv2 (hy.mono e12) (fun z H3 e3 => k3 hv hc z H3 (e12.trans e3)) fun hb H3 e3 => ?_
    have e := e12.trans e3
    obtain ⟨p, pg, lot, hg, rfl, hl, k⟩ := k4 hv hc hb
    obtain ⟨rfl, hp, hm, hgd⟩ := hg
    subst hv
    refine q_when (et_not (et_B (ev_f (ea_cons (ev_var rfl) (ea_cons (ev_var rfl) (ea_cons (ev_var rfl) (ea_cons (ev_var rfl) ea_nil)))) (sv_runs_sharp (hG.n e.n) (hS.n e.n) (hp.n e.n) hm hgd hl)))) (fun hb3 H5 e5 => ?_) (fun hb3 H5 e5 => ?_)
    · have hf : runSharp ms (rowOf ns rs) pg lot = false := by simpa using hb3
      rw [hf, if_neg Bool.false_ne_true] at k
      exact ⟨Nat.zero_le _, fun q hq => k q _ ((e.trans e5).trans (Ex.new hq)) upd_same⟩
    · have hf : runSharp ms (rowOf ns rs) pg lot = true := by simpa using hb3
      rw [hf, if_pos rfl] at k
      have e05 := e.trans e5
      have hlt := runN_lt hgd.fit.lt pg lot hl
      generalize hrc : (runN (rowOf ns rs) pg lot).1 = rc at k hlt
      refine q_asg (v := vn rc) (by rw [← hrc]; exact ev_f (ea_cons (ev_var rfl) (ea_cons (ev_var rfl) (ea_cons (ev_var rfl) ea_nil))) (sv_true_end (hS.n e05.n) (hp.n e05.n) hgd hl)) fun H6 e6 => ?_
      refine ⟨Nat.zero_le _, fun L hL => ?_⟩
      have e06 := e05.trans e6
      have hr64 := v64 hv2 hlt
      refine q_forR1 (n := ((rc + 1 : Nat) : Int)) (ea_cons (ev_add (i := (rc : Int)) (j := 1) (ev_var rfl) ev_c) ea_nil) (by omega) (fun i σ' H' => XO L H H' ∧ ExN H6 H' ∧ H L = none ∧ H' L = some (.lst ((lsTo (endB ms rc) (fun _ => true) i).map vn)) ∧
        ∃ s6 s7, σ' = [some (.ref G), some (.ref S), some (.ref p), some (vn lot), some (vn rc), some (.ref L), s6, s7]) (fun H7 e7 => ⟨(e06.trans ((Ex.new hL).trans e7)).o, ((Ex.new hL).trans e7).n, fresh_back e06 hL, e7 _ _ upd_same, none, none, rfl⟩) (fun i σ' H' hi p => ?_) (fun σ' H' p => ?_)
      · obtain ⟨x1, n1, hn, hL1, s6, s7, rfl⟩ := p
        have hi2 : i < rc + 1 := by omega
        have nG : GlAt K H' G v ms := (hG.n e06.n).n n1
        obtain ⟨dx, b, hG1, _⟩ := id nG
        have i64 : i < 64 := by omega
        have iv : i < 2 ^ v := by omega
        have hlen := lsTo_le (endB ms rc) (fun _ => true) i
        refine s_when (b := endB ms rc i) (et_and (et_B (ev_f (ea_cons (ev_var rfl) (ea_cons (ev_var rfl) ea_nil)) (sv_is_within i64 hr64))) (fun _ => et_B (ev_f (ea_cons (ev_var rfl) (ea_cons (ev_m (ev_var rfl) hG1 rfl (ea_cons (ev_var rfl) ea_nil) (sv_rounded nG hv2 hm.ne iv)) ea_nil)) (sv_is_within hr64 (v64 hv2 (roundN_lt hm.last)))))) (fun hok H7 e7 => ?_) (fun hok H7 e7 => ?_)
        · refine s_when (b := !((lsTo (endB ms rc) (fun _ => true) i).any fun o => decide (o &&& i = o))) (et_not (et_B (ev_anyW (ev_var rfl) (e7 _ _ hL1) (by omega) (fun x => rfl) (fun n hn H8 e8 => ev_f (ea_cons (ev_var rfl) (ea_cons (ev_var rfl) ea_nil)) (sv_is_within (by have := lsTo_lt _ _ _ n hn; omega) i64))))) (fun ha H8 e8 => ?_) (fun ha H8 e8 => ?_)
          · have e78 := e7.trans e8
            refine ⟨_, rfl, .inl ⟨rfl, _, .inl (.inl (e78 _ _ hL1))⟩, _, rfl, L, _, _, rfl, rfl, e78 _ _ hL1, sz_lt (by rw [List.length_map]; omega), (x1.trans e78.o).trans XO.upd, (n1.trans e78.n).trans ((XO.upd (m := L)).n (e78 _ _ hL1)), hn, ?_, some (vn i), s7, rfl⟩
            rw [upd_same]
            show _ = some (HO.lst ((if endB ms rc i = true ∧ ((!(lsTo (endB ms rc) (fun _ => true) i).any fun o => decide (o &&& i = o)) && true) = true then lsTo (endB ms rc) (fun _ => true) i ++ [i] else lsTo (endB ms rc) (fun _ => true) i).map vn))
            rw [if_pos ⟨hok, by rw [ha]; rfl⟩, List.map_append]
            rfl
          · refine ⟨x1.trans (e7.trans e8).o, n1.trans (e7.trans e8).n, hn, ?_, some (vn i), s7, rfl⟩
            show _ = some (HO.lst ((if endB ms rc i = true ∧ ((!(lsTo (endB ms rc) (fun _ => true) i).any fun o => decide (o &&& i = o)) && true) = true then lsTo (endB ms rc) (fun _ => true) i ++ [i] else lsTo (endB ms rc) (fun _ => true) i).map vn))
            rw [if_neg (fun z => by rw [ha] at z; cases z.2)]
            exact (e7.trans e8) _ _ hL1
        · refine ⟨x1.trans e7.o, n1.trans e7.n, hn, ?_, some (vn i), s7, rfl⟩
          show _ = some (HO.lst ((if endB ms rc i = true ∧ ((!(lsTo (endB ms rc) (fun _ => true) i).any fun o => decide (o &&& i = o)) && true) = true then lsTo (endB ms rc) (fun _ => true) i ++ [i] else lsTo (endB ms rc) (fun _ => true) i).map vn))
          rw [if_neg (fun z => by rw [hok] at z; cases z.1)]
          exact e7 _ _ hL1
      · obtain ⟨x1, n1, hn, hL1, s6, s7, rfl⟩ := p
        have x2 : Ex H H' := fun b o q => x1 b o (ne_of_none q hn) q
        refine s_retU (eu_tupL (ev_var rfl) hL1) fun t H7 _ e7 ht => k t H7 (x2.trans e7) ht
def spStarts (K : PySem.W.Frag) : Sp := fun vs H Q E => ∃ (G S : Addr) (v v2 : Nat) (ms : List Nat) (ns : List Str) (rs : List (List Nat)) (nd : Nd) (x y : V) (ty : String), vs = [.ref G, .ref S, x, y] ∧ GlAt K H G v ms ∧ StAt K H S v2 ns rs ∧ NdAt H nd x ∧ Kd H y ty ∧ Vok v2 ∧
  GateL K H E v v2 ns nd y ∧ (v = v2 → (chk ns nd 1 0 0).isSome = true → lotB v2 y = true → ∃ (p : Addr) (pg : Pg) (lot : Nat), AllGood K H v v2 ms ns rs x p pg ∧ y = vn lot ∧ lot < 2 ^ v ∧
    RetU ((lsTo (endB ms lot) (runSharp ms (rowOf ns rs) pg) (lot + 1)).map vn) H Q)
theorem ok_least_starts (T : Txt w K mg) (F_runs_sharp : Fok P w K mg base 40 (a_runs_sharp K) P_runs_sharp (spRunsSharp K)) : Fok P w K mg base 41 (a_least_starts K) P_least_starts (spStarts K) := by
  have F_check_alike := ok_check_alike (P := P) (base := base) T
  have F_check_program := ok_check_program (P := P) (base := base) T
  have F_check_lot := ok_check_lot (P := P) (base := base) T
  have F_is_within := ok_is_within (P := P) (base := base) T
  have F_Glasses_rounded := ok_rounded (P := P) (base := base) T
  refine fok T.f_least_starts sc_least_starts (fun _ _ _ _ _ _ us hl => match us, hl with | [_, _, _, _], _ => rfl) (fun vs H Q E h => ?_) (fun cdv A outer s H vs Q E hr h => ?_)
  · obtain ⟨G, S, v, v2, ms, ns, rs, nd, x, y, ty, rfl, _⟩ := h
    rfl
  · obtain ⟨G, S, v, v2, ms, ns, rs, nd, x, y, ty, rfl, hG, hS, hN, hy, hv2, ⟨⟨k1, k2⟩, k3⟩, k4⟩ := h
    refine ⟨_, (pss_cons (ps_expr (pe_f F_check_alike T.c_check_alike (hr.mono (by omega)) (px rfl rfl rfl rfl) (pa_cons (pv 0) (pa_cons (pv 1) pa_nil))))
      (pss_cons (ps_expr (pe_f F_check_program T.c_check_program (hr.mono (by omega)) (px rfl rfl rfl rfl) (pa_cons (pv 1) (pa_cons (pv 2) pa_nil))))
      (pss_cons (ps_expr (pe_f F_check_lot T.c_check_lot (hr.mono (by omega)) (px rfl rfl rfl rfl) (pa_cons (pe_fld (pv 1) rfl) (pa_cons (pv 3) pa_nil))))
      (pss_cons (ps_set (i := 4) sc_least_starts.nd rfl (Or.inl rfl) (pe_lst pa_nil))
      (pss_cons (ps_for (passes_of rfl) rfl (pi_range1 rfl T.m_range (pa_cons (pe_op op_addA (pv 3) pe_int) pa_nil)) (pg_name (i := 5) sc_least_starts.nd rfl (Or.inr rfl)) (pss_one (ps_if (PW.pt (pw_and (pt_val (pe_f F_is_within T.c_is_within (hr.mono (by omega)) (px rfl rfl rfl rfl) (pa_cons (pv 5) (pa_cons (pv 3) pa_nil)))) (pw_and1 (pt_val (pe_f F_is_within T.c_is_within (hr.mono (by omega)) (px rfl rfl rfl rfl) (pa_cons (pv 3) (pa_cons (pe_m F_Glasses_rounded (pv 0) T.k_Glasses T.me_Glasses_rounded (hr.mono (by omega)) (px rfl rfl rfl rfl) (pa_cons (pv 5) pa_nil)) pa_nil))))))) (pss_one (ps_if (PW.pt (pw_and (pt_not (pt_val (pe_callB (cr_any rfl) rfl T.m_any bt_any (pa_cons (pe_lc (own := [("one", 6)]) (g := (gName 6)) (tt := tYes) rfl sc_least_starts.nd (pi_A (pv 4)) (blkOk_by (N := N_least_starts) (sc := defScope s_least_starts) (by decide +kernel)) (fun _ _ _ _ _ => (pg_name (i := 6) sc_least_starts.nd rfl (Or.inl rfl))) (fun _ _ _ _ _ => pts_nil) (fun _ _ _ _ _ => (pe_f F_is_within T.c_is_within (hr.mono (by omega)) passL (pa_cons (pv 6) (pa_cons (pv 5) pa_nil))))) pa_nil)))) (pw_and1 (pt_val (pe_f F_runs_sharp T.c_runs_sharp (hr.mono (by omega)) (px rfl rfl rfl rfl) (pa_cons (pv 0) (pa_cons (pv 1) (pa_cons (pv 2) (pa_cons (pv 5) pa_nil))))))))) (pss_one (ps_expr (pe_bm PySem.F.plainAttrs_list PySem.F.slot_list_append PySem.F.type_list_append mt_append (pv 4) (pa_cons (pv 5) pa_nil)))) pss_nil)) pss_nil)))
      (pss_one (ps_ret (pe_callTy call_tuple_of rfl T.m_tuple bt_tuple (pa_cons (pv 4) pa_nil))))))))), ?_⟩
    refine q_alike rfl rfl hG hS k1 fun hv H1 e1 => ?_
    refine q_program rfl rfl (hS.n e1.n) (hN.mono e1) (fun z => (k2 hv z).go e1) fun hc H2 e2 => ?_
    have e12 := e1.trans e2
    refine q_lot T rfl rfl (hS.n e12.n) hv2 (hy.mono e12) (fun z H3 e3 => k3 hv hc z H3 (e12.trans e3)) fun hb H3 e3 => ?_
    have e := e12.trans e3
    obtain ⟨p, pg, lot, hg, rfl, hl, k⟩ := k4 hv hc hb
    obtain ⟨rfl, hp, hm, hgd⟩ := hg
    subst hv
    have hr64 := v64 hv2 hl
    refine ⟨Nat.zero_le _, fun L hL => ?_⟩
    refine q_forR1 (n := ((lot + 1 : Nat) : Int)) (ea_cons (ev_add (i := (lot : Int)) (j := 1) (ev_var rfl) ev_c) ea_nil) (by omega) (fun i σ' H' => XO L H H' ∧ ExN H H' ∧ H L = none ∧ H' L = some (.lst ((lsTo (endB ms lot) (runSharp ms (rowOf ns rs) pg) i).map vn)) ∧
      ∃ s5 s6, σ' = [some (.ref G), some (.ref S), some (.ref p), some (vn lot), some (.ref L), s5, s6]) (fun H7 e7 => ⟨(e.trans ((Ex.new hL).trans e7)).o, (e.trans ((Ex.new hL).trans e7)).n, fresh_back e hL, e7 _ _ upd_same, none, none, rfl⟩) (fun i σ' H' hi p => ?_) (fun σ' H' p => ?_)
    · obtain ⟨x1, n1, hn, hL1, s5, s6, rfl⟩ := p
      have hi2 : i < lot + 1 := by omega
      have nG : GlAt K H' G v ms := hG.n n1
      obtain ⟨dx, b, hG1, _⟩ := id nG
      have i64 : i < 64 := by omega
      have iv : i < 2 ^ v := by omega
      have hlen := lsTo_le (endB ms lot) (runSharp ms (rowOf ns rs) pg) i
      refine s_when (b := endB ms lot i) (et_and (et_B (ev_f (ea_cons (ev_var rfl) (ea_cons (ev_var rfl) ea_nil)) (sv_is_within i64 hr64))) (fun _ => et_B (ev_f (ea_cons (ev_var rfl) (ea_cons (ev_m (ev_var rfl) hG1 rfl (ea_cons (ev_var rfl) ea_nil) (sv_rounded nG hv2 hm.ne iv)) ea_nil)) (sv_is_within hr64 (v64 hv2 (roundN_lt hm.last)))))) (fun hok H7 e7 => ?_) (fun hok H7 e7 => ?_)
      · have n7 := n1.trans e7.n
        refine s_when (b := (!((lsTo (endB ms lot) (runSharp ms (rowOf ns rs) pg) i).any fun o => decide (o &&& i = o))) && runSharp ms (rowOf ns rs) pg i) (et_and (et_not (et_B (ev_anyW (ev_var rfl) (e7 _ _ hL1) (by omega) (fun x => rfl) (fun n hn H8 e8 => ev_f (ea_cons (ev_var rfl) (ea_cons (ev_var rfl) ea_nil)) (sv_is_within (by have := lsTo_lt _ _ _ n hn; omega) i64)))))
          (fun _ => et_B (ev_f (ea_cons (ev_var rfl) (ea_cons (ev_var rfl) (ea_cons (ev_var rfl) (ea_cons (ev_var rfl) ea_nil)))) (sv_runs_sharp (hG.n n7) (hS.n n7) (hp.n n7) hm hgd iv)))) (fun ha H8 e8 => ?_) (fun ha H8 e8 => ?_)
        · have e78 := e7.trans e8
          refine ⟨_, rfl, .inl ⟨rfl, _, .inl (.inl (e78 _ _ hL1))⟩, _, rfl, L, _, _, rfl, rfl, e78 _ _ hL1, sz_lt (by rw [List.length_map]; omega), (x1.trans e78.o).trans XO.upd, (n1.trans e78.n).trans ((XO.upd (m := L)).n (e78 _ _ hL1)), hn, ?_, some (vn i), s6, rfl⟩
          rw [upd_same]
          show _ = some (HO.lst ((if endB ms lot i = true ∧ ((!(lsTo (endB ms lot) (runSharp ms (rowOf ns rs) pg) i).any fun o => decide (o &&& i = o)) && runSharp ms (rowOf ns rs) pg i) = true then lsTo (endB ms lot) (runSharp ms (rowOf ns rs) pg) i ++ [i] else lsTo (endB ms lot) (runSharp ms (rowOf ns rs) pg) i).map vn))
          rw [if_pos ⟨hok, ha⟩, List.map_append]
          rfl
        · refine ⟨x1.trans (e7.trans e8).o, n1.trans (e7.trans e8).n, hn, ?_, some (vn i), s6, rfl⟩
          show _ = some (HO.lst ((if endB ms lot i = true ∧ ((!(lsTo (endB ms lot) (runSharp ms (rowOf ns rs) pg) i).any fun o => decide (o &&& i = o)) && runSharp ms (rowOf ns rs) pg i) = true then lsTo (endB ms lot) (runSharp ms (rowOf ns rs) pg) i ++ [i] else lsTo (endB ms lot) (runSharp ms (rowOf ns rs) pg) i).map vn))
          rw [if_neg (fun z => by rw [ha] at z; cases z.2)]
          exact (e7.trans e8) _ _ hL1
      · refine ⟨x1.trans e7.o, n1.trans e7.n, hn, ?_, some (vn i), s6, rfl⟩
        show _ = some (HO.lst ((if endB ms lot i = true ∧ ((!(lsTo (endB ms lot) (runSharp ms (rowOf ns rs) pg) i).any fun o => decide (o &&& i = o)) && runSharp ms (rowOf ns rs) pg i) = true then lsTo (endB ms lot) (runSharp ms (rowOf ns rs) pg) i ++ [i] else lsTo (endB ms lot) (runSharp ms (rowOf ns rs) pg) i).map vn))
        rw [if_neg (fun z => by rw [hok] at z; cases z.1)]
        exact e7 _ _ hL1
    · obtain ⟨x1, n1, hn, hL1, s5, s6, rfl⟩ := p
      have x2 : Ex H H' := fun b o q => x1 b o (ne_of_none q hn) q
      refine s_retU (eu_tupL (ev_var rfl) hL1) fun t H7 _ e7 ht => k t H7 (x2.trans e7) ht
/-- the sharp starts -/
def spSharpStarts (K : PySem.W.Frag) : Sp := fun vs H Q E => ∃ (G S : Addr) (v v2 : Nat) (ms : List Nat) (ns : List Str) (rs : List (List Nat)) (nd : Nd) (x : V), vs = [.ref G, .ref S, x] ∧ GlAt K H G v ms ∧ StAt K H S v2 ns rs ∧ NdAt H nd x ∧ Vok v2 ∧
  Gate K H E v v2 ns nd ∧ (v = v2 → (chk ns nd 1 0 0).isSome = true → ∃ (p : Addr) (pg : Pg), AllGood K H v v2 ms ns rs x p pg ∧ RetU (((List.range (2 ^ v)).filter (runSharp ms (rowOf ns rs) pg)).map vn) H Q)
theorem ok_starts_with_line (T : Txt w K mg) (F_runs_sharp : Fok P w K mg base 40 (a_runs_sharp K) P_runs_sharp (spRunsSharp K)) : Fok P w K mg base 41 (a_starts_with_line K) P_starts_with_line (spSharpStarts K) := by
  have F_check_alike := ok_check_alike (P := P) (base := base) T
  have F_check_program := ok_check_program (P := P) (base := base) T
  refine fok T.f_starts_with_line sc_starts_with_line (fun _ _ _ _ _ _ us hl => match us, hl with | [_, _, _], _ => rfl) (fun vs H Q E h => ?_) (fun cdv A outer s H vs Q E hr h => ?_)
  · obtain ⟨G, S, v, v2, ms, ns, rs, nd, x, rfl, _⟩ := h
    rfl
  · obtain ⟨G, S, v, v2, ms, ns, rs, nd, x, rfl, hG, hS, hN, hv2, ⟨k1, k2⟩, k4⟩ := h
    refine ⟨_, (pss_cons (ps_expr (pe_f F_check_alike T.c_check_alike (hr.mono (by omega)) (px rfl rfl rfl rfl) (pa_cons (pv 0) (pa_cons (pv 1) pa_nil))))
      (pss_cons (ps_expr (pe_f F_check_program T.c_check_program (hr.mono (by omega)) (px rfl rfl rfl rfl) (pa_cons (pv 1) (pa_cons (pv 2) pa_nil))))
      (pss_one (ps_ret (pe_callTy call_tuple_of rfl T.m_tuple bt_tuple (pa_cons (pe_lc (own := [("lot", 3)]) (g := (gName 3)) rfl sc_starts_with_line.nd (pi_range1 rfl T.m_range (pa_cons (pe_op op_shl pe_int (pe_fld (pv 1) rfl)) pa_nil)) (blkOk_by (N := N_starts_with_line) (sc := defScope s_starts_with_line) (by decide +kernel)) (fun _ _ _ _ _ => (pg_name (i := 3) sc_starts_with_line.nd rfl (Or.inl rfl))) (fun _ _ _ _ _ => (pts_one (pt_val (pe_f F_runs_sharp T.c_runs_sharp (hr.mono (by omega)) passL (pa_cons (pv 0) (pa_cons (pv 1) (pa_cons (pv 2) (pa_cons (pv 3) pa_nil)))))))) (fun _ _ _ _ _ => (pv 3))) pa_nil)))))), ?_⟩
    refine q_alike rfl rfl hG hS k1 fun hv H1 e1 => ?_
    refine q_program rfl rfl (hS.n e1.n) (hN.mono e1) (fun z => (k2 hv z).go e1) fun hc H2 e2 => ?_
    have e := e1.trans e2
    obtain ⟨p, pg, hg, k⟩ := k4 hv hc
    obtain ⟨rfl, hp, hm, hgd⟩ := hg
    subst hv
    obtain ⟨dx, a, b, ras, hS1, _⟩ := id hS
    have v6 : (2 : Nat) ^ v ≤ 64 := Nat.pow_le_pow_right (by decide) hv2.2
    have hshl : 1 <<< v = 2 ^ v := by rw [Nat.shiftLeft_eq, Nat.one_mul]
    obtain ⟨m, em⟩ : ∃ m, m = 2 ^ v := ⟨_, rfl⟩
    rw [← em] at v6 hshl k
    have z := el_lcR1 (t := tB (tCall (spRunsSharp K) [] E0 (tCons (tVar 0) (tCons (tVar 1) (tCons (tVar 2) (tCons (tVar 3) tNil)))))) (te := tVar 3) (ta := tCons (tOp (rI CPow fun i j => .int (i * 2 ^ j.toNat)) (tC (.int 1)) (tFld K (tVar 1) "stands")) tNil) (j := 3) (vs := [3]) (σ := [some (.ref G), some (.ref S), some (.ref p), none]) (H := H2) (n := (m : Int)) (runSharp ms (rowOf ns rs) pg) vn (ea_cons (ev_is (ev_shl (a := 1) ev_c (ev_fld (ev_var rfl) (e _ _ hS1) T.k_Steps T.n_Steps_stands rfl) (by decide) (by have := hv2.2; omega)) (by rw [hshl])) ea_nil) ⟨Int.natCast_nonneg m, by omega⟩ (fun x => rfl)
      (fun i H3 e3 hi => et_B (ev_f (ea_cons (ev_var rfl) (ea_cons (ev_var rfl) (ea_cons (ev_var rfl) (ea_cons (ev_var rfl) ea_nil)))) (sv_runs_sharp (hG.n (e.trans e3).n) (hS.n (e.trans e3).n) (hp.n (e.trans e3).n) hm hgd (by omega)))) (fun i H3 e3 hi _ => ev_var rfl)
    rw [Int.toNat_natCast] at z
    exact s_retU (eu_tupE z) fun t H3 _ e3 ht => k t H3 (e.trans e3) ht
end
end TA
end
/-! TaP9 -/
section
set_option Elab.async false
set_option linter.all false
set_option autoImplicit false
set_option maxRecDepth 100000
set_option maxHeartbeats 4000000
namespace TA
open PySem PySem.Spec PyProof.Rows L2 Evl
/-- a list or a tuple -/
def SqA (H : Hp) (a : Addr) (xs : List V) : Prop := H a = some (.lst xs) ∨ H a = some (.tup xs)
theorem SqA.mono {H H' : Hp} {a : Addr} {xs : List V} (e : Ex H H') (h : SqA H a xs) : SqA H' a xs := h.imp (e _ _) (e _ _)
theorem SqA.kd {H : Hp} {a : Addr} {xs : List V} (h : SqA H a xs) : ∃ ty, Kd H (.ref a) ty ∧ (isa ty "list" || isa ty "tuple") = true := by
  rcases h with h | h
  · exact ⟨_, .lst h, rfl⟩
  · exact ⟨_, .tup h, rfl⟩
section
variable {K : PySem.W.Frag} {σ : L2.St} {H : Hp} {ta tb te : TE} {a : Addr} {xs : List V} {v : V} {i : Int} {D : Ends} {tu : TS} {j j2 : Nat}
theorem ev_ixA (ha : Ev ta σ H (.ref a)) (hb : Ev tb σ H (.int i)) (hp : SqA H a xs) (hx : atI xs i = some v) : Ev (tOp (rIxA K) ta tb) σ H v := hp.elim (fun h => ev_ixL ha hb h hx) fun h => ev_ixT ha hb h hx
theorem ev_lenA (ha : Ev ta σ H (.ref a)) (hp : SqA H a xs) : Ev (tCB (fun ws H Q => ∃ p ys, ws = [.ref p] ∧ (SqL K H p ys ∨ SqT K H p ys) ∧ Q (.int ys.length) H) (tCons ta tNil)) σ H (vn xs.length) := hp.elim (fun h => ev_lenL ha h) fun h => ev_lenT ha h
/-- it gives a tuple of xs, an old one or a new one -/
def EvW (te : TE) (σ : L2.St) (H : Hp) (xs : List V) : Prop := ∀ H1, Ex H H1 → ∀ Q : VK, (∀ p H2, Ex H1 H2 → H2 p = some (.tup xs) → Q (.ref p) H2) → te σ H1 Q
theorem ew_tup (h : Ev ta σ H (.ref a)) (hp : SqA H a xs) : EvW (tCB (fun vs H Q => ∃ p ys, vs = [.ref p] ∧ ((SqL K H p ys ∧ ∀ l, H l = none → Q (.ref l) (upd H l (.tup ys))) ∨ (SqT K H p ys ∧ Q (.ref p) H))) (tCons ta tNil)) σ H xs := by
  rcases hp with hp | hp
  · exact fun H1 e Q q => eu_tupL (K := K) h hp H1 e Q fun p H2 _ e2 h2 => q p H2 e2 h2
  · exact fun H1 e Q q => ev_tupT (K := K) h hp H1 e Q fun H2 e2 => q a H2 e2 (e2 _ _ (e _ _ hp))
theorem s_fldW {f : Str} {x : Addr} {i : Nat} (h : EvW te σ H xs) (h0 : σ[i]? = some (some (.ref x))) (k : ∀ b H1, Ex H H1 → H1 b = some (.tup xs) → ∃ C dx fs, H1 x = some (.ins C dx fs) ∧ Cls K C ∧ NoAttr K C f ∧ fs.length < 1000 ∧ D.nx σ (upd H1 x (.ins C dx (putF f (.ref b) fs)))) :
    sFld K (tVar i) te f D σ H := h H (Ex.refl H) _ fun b H1 e hb => by
  obtain ⟨C, dx, fs, h1, h2, h3, h4, h5⟩ := k b H1 e hb
  exact ⟨_, h0, x, C, dx, fs, rfl, h1, h2, h3, h4, h5⟩
theorem ev_seq {E : XK} (ha : Ev ta σ H (.ref a)) (hp : SqA H a xs) : Ev (tCall (spIsSeq K) [] E (tCons ta tNil)) σ H (.bl true) := by
  obtain ⟨ty, hk, e⟩ := hp.kd
  exact ev_f (vs := [.ref a]) (ea_cons ha ea_nil) fun H2 e2 Q q E => ⟨_, ty, rfl, hk.mono e2, by rw [e]; exact q⟩
theorem s_enumA (h : Ev te σ H (.ref a)) (hx : SqA H a xs) (Pv : Nat → L2.St → Hp → Prop) (h0 : ∀ H1, Ex H H1 → Pv 0 σ H1) (hl : ∀ i σ' H', i ≤ xs.length → Pv i σ' H' → ∀ o, H a = some o → H' a = some o)
    (hs : ∀ i x σ' H', xs[i]? = some x → Pv i σ' H' → ∀ H2, Ex H' H2 → tu { D with nx := Pv (i + 1), ct := Pv (i + 1), bk := D.nx } ((σ'.set j (some (vn i))).set j2 (some x)) H2) (hd : ∀ σ' H', Pv xs.length σ' H' → D.nx σ' H') :
    tFor (iEnumA K (tCons te tNil)) (g2 K j j2) tu D σ H := by
  rcases hx with hx | hx
  · exact s_enumL h hx Pv h0 (fun i σ' H' hi p => hl i σ' H' hi p _ hx) hs hd
  · exact s_enumT h hx Pv h0 (fun i σ' H' hi p => hl i σ' H' hi p _ hx) hs hd
theorem inV_n (ns : List Nat) (n : Nat) : inV (vn n) (ns.map vn) = decide (n ∈ ns) := by
  unfold inV
  rw [List.any_map]
  by_cases h : n ∈ ns
  · rw [decide_eq_true h]
    exact List.any_eq_true.mpr ⟨n, h, by show ((n : Int) == (n : Int)) = true; simp⟩
  · rw [decide_eq_false h]
    refine List.any_eq_false.mpr fun y hy z => h ?_
    have e : ((y : Int) == (n : Int)) = true := z
    have e2 : (y : Int) = (n : Int) := eq_of_beq e
    rw [← Int.ofNat.inj e2]
    exact hy
theorem flat_n (ns : List Nat) : (ns.map vn).all flatV = true := by
  rw [List.all_map]
  exact List.all_eq_true.mpr fun _ _ => rfl
/-- n not in l -/
theorem ev_niN {n : Nat} {ns : List Nat} (hn : Ev ta σ H (vn n)) (ha : Ev tb σ H (.ref a)) (hp : SqA H a (ns.map vn)) : Ev (tOp (rIn K true) ta tb) σ H (.bl (!decide (n ∈ ns))) := by
  refine ev_is (ev_op hn ha (hp.elim (fun h => rv_niL (sq_of h) rfl (flat_n ns)) fun h => rv_niT (st_of h) rfl (flat_n ns))) ?_
  rw [inV_n]
theorem ev_isNn {n : Nat} {ns : List Nat} (hn : Ev ta σ H (vn n)) (ha : Ev tb σ H (.ref a)) (hp : SqA H a (ns.map vn)) : Ev (tOp (rIn K false) ta tb) σ H (.bl (decide (n ∈ ns))) := by
  refine ev_is (ev_op hn ha (hp.elim (fun h => rv_isL (sq_of h) rfl (flat_n ns)) fun h => rv_isT (st_of h) rfl (flat_n ns))) ?_
  rw [inV_n]
end
/-- members of glasses of v stands -/
structure MsFull (v : Nat) (ms : List Nat) : Prop where
  ne : ms ≠ []
  asc : ms.Pairwise (· < ·)
  last : ms.getLastD 0 = 2 ^ v - 1
  meet : ∀ x ∈ ms, ∀ y ∈ ms, x &&& y ∈ ms
theorem MsFull.le {v : Nat} {ms : List Nat} (h : MsFull v ms) : ∀ x ∈ ms, x < 2 ^ v := by
  obtain ⟨l, e⟩ := last_of h.ne
  have p := h.asc
  rw [e, h.last, List.pairwise_append] at p
  intro x hx
  have hp := Nat.two_pow_pos v
  rw [e, h.last] at hx
  rcases List.mem_append.mp hx with z | z
  · have q := p.2.2 x z _ (List.mem_singleton.mpr rfl)
    omega
  · rw [List.mem_singleton.mp z]
    omega
theorem MsFull.ok {v : Nat} {ms : List Nat} (h : MsFull v ms) : MsOk v ms := ⟨h.ne, by rw [h.last]; have := Nat.two_pow_pos v; omega⟩
theorem asc_len : ∀ {l : List Nat} {m b : Nat}, l.Pairwise (· < ·) → (∀ x ∈ l, b ≤ x ∧ x < m) → l.length ≤ m - b
  | [], _, _, _, _ => Nat.zero_le _
  | a :: l, m, b, p, h => by
    obtain ⟨p1, p2⟩ := List.pairwise_cons.mp p
    have ha := h a (List.mem_cons_self ..)
    have q := asc_len (l := l) (m := m) (b := a + 1) p2 fun x hx => ⟨p1 x hx, (h x (List.mem_cons_of_mem _ hx)).2⟩
    rw [List.length_cons]
    omega
theorem MsFull.len {v : Nat} {ms : List Nat} (h : MsFull v ms) : ms.length ≤ 2 ^ v := by
  have q := asc_len (m := 2 ^ v) (b := 0) h.asc fun x hx => ⟨Nat.zero_le x, h.le x hx⟩
  omega
theorem getD_mem {l : List Nat} {i : Nat} (h : i < l.length) : l.getD i 0 ∈ l := by
  rw [List.getD_eq_getElem?_getD, List.getElem?_eq_getElem h]
  exact List.getElem_mem h
theorem at_map {l : List Nat} {i : Nat} (h : i < l.length) : atI (l.map vn) (i : Int) = some (vn (l.getD i 0)) := by
  refine atI_nat ?_
  rw [List.getElem?_map, List.getElem?_eq_getElem h, List.getD_eq_getElem?_getD, List.getElem?_eq_getElem h]
  rfl
section
variable {P : Program} {w : World} {K : PySem.W.Frag} {mg : Str → Option Value} {base : Heap}
def spUnmet (_ : PySem.W.Frag) : Sp := fun vs H Q _ => ∃ (a : Addr) (ms : List Nat), vs = [.ref a] ∧ SqA H a (ms.map vn) ∧ (∀ x ∈ ms, ∀ y ∈ ms, x &&& y ∈ ms) ∧ ms.length ≤ 64 ∧ RetV .non H Q
theorem ok_first_unmet (T : Txt w K mg) : Fok P w K mg base 1 (a_first_unmet K) P_first_unmet (spUnmet K) := by
  refine fok T.f_first_unmet sc_first_unmet (fun _ _ _ _ _ _ us hl => match us, hl with | [_], _ => rfl) (fun vs H Q E h => ?_) (fun cdv A outer s H vs Q E hr h => ?_)
  · obtain ⟨a, ms, rfl, _⟩ := h
    rfl
  · obtain ⟨a, ms, rfl, ha, hm, hz, k⟩ := h
    refine ⟨_, (pss_cons (ps_for (passes_of rfl) rfl (pi_range1 rfl T.m_range (pa_cons (pe_callB call_len_seq rfl T.m_len bt_len (pa_cons (pv 0) pa_nil)) pa_nil)) (pg_name (i := 1) sc_first_unmet.nd rfl (Or.inl rfl)) (pss_one (ps_for (passes_of rfl) rfl (pi_range2 rfl T.m_range (pa_cons (pe_op op_addA (pv 1) pe_int) (pa_cons (pe_callB call_len_seq rfl T.m_len bt_len (pa_cons (pv 0) pa_nil)) pa_nil))) (pg_name (i := 2) sc_first_unmet.nd rfl (Or.inl rfl)) (pss_one (ps_if (pt_cmpR op_notIn_seq (pe_op op_and (pe_ix ix_A (pv 0) (pv 1) (fun _ _ => rfl)) (pe_ix ix_A (pv 0) (pv 2) (fun _ _ => rfl))) (pv 0) (by rfl)) (pss_one (ps_ret (pe_tup (pa_cons (pv 1) (pa_cons (pv 2) pa_nil))))) pss_nil)))))
      (pss_one (ps_ret pe_non))), ?_⟩
    refine q_forR1 (n := ((ms.map vn).length : Int)) (ea_cons (ev_lenA (ev_var rfl) ha) ea_nil) (by rw [List.length_map]; omega) (fun i σ' H' => Ex H H' ∧ ∃ s1 s2, σ' = [some (.ref a), s1, s2]) (fun H1 e1 => ⟨e1, none, none, rfl⟩) (fun i σ' H' hi p => ?_) (fun σ' H' p => ?_)
    · obtain ⟨e1, s1, s2, rfl⟩ := p
      rw [List.length_map] at hi
      refine s_forR2 (lo := ((i + 1 : Nat) : Int)) (n := ((ms.map vn).length : Int)) (ea_cons (ev_add (i := (i : Int)) (j := 1) (ev_var rfl) ev_c) (ea_cons (ev_lenA (ev_var rfl) (ha.mono e1)) ea_nil)) (by rw [List.length_map]; omega) (fun j σ' H' => Ex H H' ∧ ∃ s2, σ' = [some (.ref a), some (vn i), s2]) (fun H2 e2 => ⟨e1.trans e2, s2, rfl⟩) (fun j σ' H' hj p => ?_) (fun σ' H' p => ?_)
      · obtain ⟨e2, s2, rfl⟩ := p
        rw [List.length_map] at hj
        have hi2 : i < ms.length := by omega
        have hj2 : i + 1 + j < ms.length := by omega
        have ej : ((i + 1 : Nat) : Int) + (j : Int) = ((i + 1 + j : Nat) : Int) := by push_cast; rfl
        rw [ej]
        refine s_when (b := false) (et_is (et_test (ev_niN (ev_and (ev_ixA (ev_var rfl) (ev_var rfl) (ha.mono e2) (at_map hi2)) (ev_ixA (ev_var rfl) (ev_var rfl) (ha.mono e2) (at_map hj2))) (ev_var rfl) (ha.mono e2))) ?_) (fun z => nomatch z) (fun _ H3 e3 => ⟨e2.trans e3, some (vn (i + 1 + j)), rfl⟩)
        rw [decide_eq_true (hm _ (getD_mem hi2) _ (getD_mem hj2))]
        rfl
      · obtain ⟨e2, s2, rfl⟩ := p
        exact ⟨e2, some (vn i), s2, rfl⟩
    · obtain ⟨e1, s1, s2, rfl⟩ := p
      exact s_ret ev_c fun H2 e2 => k H2 (e1.trans e2)
/-- what an __init__ leaves -/
def spGlInit (K : PySem.W.Frag) : Sp := fun vs H Q _ => ∃ (x dx a : Addr) (v : Nat) (ms : List Nat), vs = [.ref x, vn v, .ref a] ∧ H x = some (.ins (He.ga K "Glasses") dx []) ∧ SqA H a (ms.map vn) ∧ Vok v ∧ MsFull v ms ∧ (∀ H2 b, XO x H H2 → H2 x = some (.ins (He.ga K "Glasses") dx (glFs v b)) → TupN H2 b ms → Q .non H2)
theorem ok_Glasses_init (T : Txt w K mg) : Fok P w K mg base 4 (a_Glasses_init K) P_Glasses_init (spGlInit K) := by
  have F_is_whole := ok_is_whole (P := P) (base := base) T
  have F_is_sequence := ok_is_sequence (P := P) (base := base) T
  have F_first_unmet := ok_first_unmet (P := P) (base := base) T
  refine fok T.f_Glasses_init sc_Glasses_init (fun _ _ _ _ _ _ us hl => match us, hl with | [_, _, _], _ => rfl) (fun vs H Q E h => ?_) (fun cdv A outer s H vs Q E hr h => ?_)
  · obtain ⟨x, dx, a, v, ms, rfl, _⟩ := h
    rfl
  · obtain ⟨x, dx, a, v, ms, rfl, hx, ha, hv, hm, k⟩ := h
    have H64 := hr.units
    refine ⟨_, (pss_cons (ps_if (pt_not (pt_val (pe_f F_is_whole T.c_is_whole (hr.mono (by omega)) (px rfl rfl rfl rfl) (pa_cons (pv 1) (pa_cons pe_int (pa_cons pe_int pa_nil)))))) (pss_one ps_never) pss_nil)
      (pss_cons (ps_if (PW.pt (pw_or (pt_not (pt_val (pe_f F_is_sequence T.c_is_sequence (hr.mono (by omega)) (px rfl rfl rfl rfl) (pa_cons (pv 2) pa_nil)))) (pw_or1 (pt_cmpR (op_eqA H64) (pe_callB call_len_seq rfl T.m_len bt_len (pa_cons (pv 2) pa_nil)) pe_int (nomark _))))) (pss_one ps_never) pss_nil)
      (pss_cons (ps_set (i := 3) sc_Glasses_init.nd rfl (Or.inl rfl) (pe_op op_sub (pe_op op_shl pe_int (pv 1)) pe_int))
      (pss_cons (ps_set (i := 4) sc_Glasses_init.nd rfl (Or.inl rfl) (pe_un un_neg pe_int))
      (pss_cons (ps_for (passes_of rfl) rfl (pi_enumA rfl T.m_enumerate (pa_cons (pv 2) pa_nil)) (pg_tup rfl (pgs_cons (pg_name (i := 5) sc_Glasses_init.nd rfl (Or.inl rfl)) (pgs_cons (pg_name (i := 6) sc_Glasses_init.nd rfl (Or.inl rfl)) pgs_nil))) (pss_cons (ps_if (pt_not (pt_val (pe_f F_is_whole T.c_is_whole (hr.mono (by omega)) (px rfl rfl rfl rfl) (pa_cons (pv 6) (pa_cons pe_int (pa_cons (pv 3) pa_nil)))))) (pss_one ps_never) pss_nil)
      (pss_cons (ps_if (pt_cmpR op_le (pv 6) (pv 4) (nomark _)) (pss_one ps_never) pss_nil)
      (pss_one (ps_set (i := 4) sc_Glasses_init.nd rfl (Or.inl rfl) (pv 6))))))
      (pss_cons (ps_if (pt_cmpR (op_neA H64) (pv 4) (pv 3) (nomark _)) (pss_one ps_never) pss_nil)
      (pss_cons (ps_set (i := 7) sc_Glasses_init.nd rfl (Or.inl rfl) (pe_f F_first_unmet T.c_first_unmet (hr.mono (by omega)) (px rfl rfl rfl rfl) (pa_cons (pv 2) pa_nil)))
      (pss_cons (ps_if (pt_cmpR op_notN1 (pv 7) pe_non (nomark _)) (pss_one ps_never) pss_nil)
      (pss_cons (ps_fld (pv 0) (pv 1) rfl)
      (pss_one (ps_fld (pv 0) (pe_callTy call_tuple_of rfl T.m_tuple bt_tuple (pa_cons (pv 2) pa_nil)) rfl))))))))))), ?_⟩
    have hlen := hm.len
    have v6 : (2 : Nat) ^ v ≤ 64 := Nat.pow_le_pow_right (by decide) hv.2
    have vp := Nat.two_pow_pos v
    refine q_when (b := false) (et_is (et_not (et_B (ev_f (ea_cons (ev_var rfl) (ea_cons ev_c (ea_cons ev_c ea_nil))) (sv_is_whole (.int _))))) (by rw [wholeB_ok hv]; rfl)) (fun z => nomatch z) (fun _ H1 e1 => ?_)
    refine q_when (b := false) (et_is (et_or (et_not (et_B (ev_seq (ev_var rfl) (ha.mono e1)))) (fun _ => et_test (ev_eqN (ev_lenA (ev_var rfl) (ha.mono e1)) (ev_c (v := vn 0))))) (by
      rw [List.length_map, decide_eq_false (fun z => hm.ne (List.length_eq_zero_iff.mp z))]
      rfl)) (fun z => nomatch z) (fun _ H2 e2 => ?_)
    have e12 := e1.trans e2
    refine q_asg (v := vn (2 ^ v - 1)) (ev_is (ev_sub (i := ((1 <<< v : Nat) : Int)) (j := 1) (ev_shl (a := 1) ev_c (ev_var rfl) (by decide) (by have := hv.2; omega)) ev_c) (by rw [Nat.shiftLeft_eq, Nat.one_mul]; congr 1; omega)) fun H3 e3 => ?_
    refine q_asg (ev_neg (ev_c (v := .int 1))) fun H4 e4 => ?_
    have e14 := (e12.trans e3).trans e4
    refine q_of (s_enumA (ev_var rfl) (ha.mono e14) (fun i σ' H' => Ex H H' ∧ ∃ (l : Int) (s5 s6 : Option V), (∀ j, i ≤ j → j < ms.length → l < (ms.getD j 0 : Nat)) ∧ (0 < i → l = (ms.getD (i - 1) 0 : Nat)) ∧ σ' = [some (.ref x), some (vn v), some (.ref a), some (vn (2 ^ v - 1)), some (.int l), s5, s6, none])
      (fun H5 e5 => ⟨e14.trans e5, -1, none, none, fun j _ _ => by omega, fun z => absurd z (Nat.lt_irrefl 0), rfl⟩) (fun i σ' H' _ p o ho => ?_) (fun i y σ' H' hy p H5 e5 => ?_) fun σ' H' p => ?_)
    · rcases ha with q | q
      · rw [e14 _ _ q] at ho
        rw [← ho]
        exact p.1 _ _ q
      · rw [e14 _ _ q] at ho
        rw [← ho]
        exact p.1 _ _ q
    · obtain ⟨e6, l, s5, s6, hl, _, rfl⟩ := p
      obtain ⟨lt, rfl⟩ := map_at hy
      have hin := hm.le _ (getD_mem lt)
      refine q_when (b := false) (et_is (et_not (et_B (ev_f (ea_cons (ev_var rfl) (ea_cons ev_c (ea_cons (ev_var rfl) ea_nil))) (sv_is_whole (.int _))))) ?_) (fun z => nomatch z) (fun _ H6 e7 => ?_)
      · show (!(decide ((0 : Int) ≤ (ms.getD i 0 : Nat)) && decide (((ms.getD i 0 : Nat) : Int) ≤ ((2 ^ v - 1 : Nat) : Int)))) = false
        rw [decide_eq_true (Int.natCast_nonneg _), decide_eq_true (by omega)]
        rfl
      · refine q_when (b := false) (et_is (et_test (ev_le (ev_var rfl) (ev_var rfl))) (decide_eq_false (by have := hl i (Nat.le_refl _) lt; omega))) (fun z => nomatch z) (fun _ H7 e8 => ?_)
        refine s_asg (ev_var rfl) fun H8 e9 => ⟨(((e6.trans e5).trans e7).trans e8).trans e9, (ms.getD i 0 : Nat), some (vn i), some (vn (ms.getD i 0)), fun j hj hj2 => ?_, fun _ => rfl, rfl⟩
        have q := List.pairwise_iff_getElem.mp hm.asc i j lt hj2 (by omega)
        rw [List.getD_eq_getElem?_getD, List.getD_eq_getElem?_getD, List.getElem?_eq_getElem lt, List.getElem?_eq_getElem hj2]
        exact Int.ofNat_lt.mpr q
    · obtain ⟨e6, l, s5, s6, _, hl, rfl⟩ := p
      rw [List.length_map] at hl
      have hpos : 0 < ms.length := List.length_pos_iff.mpr hm.ne
      have el : l = ((2 ^ v - 1 : Nat) : Int) := by
        rw [hl hpos, ← hm.last]
        obtain ⟨r, er⟩ := last_of hm.ne
        congr 1
        conv => lhs; rw [er]
        rw [List.getD_eq_getElem?_getD, er, List.length_append, List.length_singleton, Nat.add_sub_cancel, List.getElem?_append_right (Nat.le_refl _), Nat.sub_self]
        rw [← er]
        rfl
      subst el
      refine q_when (b := false) (et_is (et_test (ev_neN (ev_var rfl) (ev_var rfl))) (by simp)) (fun z => nomatch z) (fun _ H5 e5 => ?_)
      have e05 := e6.trans e5
      refine q_asg (v := .non) (ev_f (vs := [.ref a]) (ea_cons (ev_var rfl) ea_nil) fun H6 e7 Q q E => ⟨a, ms, rfl, ha.mono (e05.trans e7), hm.meet, by omega, q⟩) fun H6 e7 => ?_
      refine q_when (b := false) (et_is (et_test (ev_notN (x := .non) (ev_var rfl))) rfl) (fun z => nomatch z) (fun _ H7 e8 => ?_)
      have e07 := (e05.trans e7).trans e8
      refine ⟨_, rfl, _, rfl, x, _, dx, [], rfl, e07 _ _ hx, T.k_Glasses, T.n_Glasses_stands, (by show 0 < 1000; decide), ?_⟩
      have hax : SqA (upd H7 x (.ins (He.ga K "Glasses") dx [("stands", vn v)])) a (ms.map vn) := by
        have n : a ≠ x := by
          rcases ha with q | q
          · exact ne_of q hx (by intro z; cases z)
          · exact ne_of q hx (by intro z; cases z)
        rcases ha with q | q
        · exact .inl (by rw [upd_ne n]; exact e07 _ _ q)
        · exact .inr (by rw [upd_ne n]; exact e07 _ _ q)
      refine s_fldW (ew_tup (ev_var rfl) hax) rfl fun b H8 e9 hb => ⟨_, dx, [("stands", vn v)], e9 _ _ upd_same, T.k_Glasses, T.n_Glasses_members, (by show 1 < 1000; decide), ?_⟩
      have hbx : b ≠ x := fun z => by
        subst z
        rw [e9 _ _ upd_same] at hb
        cases hb
      refine k _ b ?_ upd_same (by show upd H8 x _ b = _; rw [upd_ne hbx]; exact hb)
      exact ((e07.o.trans XO.upd).trans e9.o).trans XO.upd
end
end TA
end
/-! TaEq -/
section
set_option Elab.async false
set_option linter.all false
set_option autoImplicit false
set_option maxRecDepth 100000
set_option maxHeartbeats 4000000
namespace TA
open PySem PySem.Spec PyProof.Rows L2 Evl
/-! == of lists of ints, of texts, of programs -/
theorem eqvAll_int : ∀ (xs ys : List Int), PyData.eqvAll (xs.map .int) (ys.map .int) = decide (xs = ys)
  | [], [] => by simp [PyData.eqvAll]
  | [], _ :: _ => by simp [PyData.eqvAll]
  | _ :: _, [] => by simp [PyData.eqvAll]
  | x :: xs, y :: ys => by
    show PyData.eqvAll (.int x :: xs.map .int) (.int y :: ys.map .int) = _
    rw [PyData.eqvAll, eqvAll_int xs ys, PyData.eqv]
    by_cases h : x = y
    · subst h
      simp
    · simp [h]
theorem eqvAll_str : ∀ (xs ys : List Str), PyData.eqvAll (xs.map .str) (ys.map .str) = decide (xs = ys)
  | [], [] => by simp [PyData.eqvAll]
  | [], _ :: _ => by simp [PyData.eqvAll]
  | _ :: _, [] => by simp [PyData.eqvAll]
  | x :: xs, y :: ys => by
    show PyData.eqvAll (.str x :: xs.map .str) (.str y :: ys.map .str) = _
    rw [PyData.eqvAll, eqvAll_str xs ys, PyData.eqv]
    by_cases h : x = y
    · subst h
      simp
    · simp [h]
theorem lay_int : ∀ xs : List Int, PyData.canLayAll0 (xs.map .int) = true ∧ PyData.depthAll (xs.map .int) = 0
  | [] => by simp [PyData.canLayAll0, PyData.depthAll]
  | x :: xs => by
    obtain ⟨a, b⟩ := lay_int xs
    simp [PyData.canLayAll0, PyData.depthAll, PyData.canLay0, PyData.depth, a, b]
theorem lay_str : ∀ xs : List Str, (∀ x ∈ xs, PyData.canLay0 (.str x) = true) → PyData.canLayAll0 (xs.map .str) = true ∧ PyData.depthAll (xs.map .str) = 0
  | [], _ => by simp [PyData.canLayAll0, PyData.depthAll]
  | x :: xs, h => by
    obtain ⟨a, b⟩ := lay_str xs fun y hy => h y (List.mem_cons_of_mem _ hy)
    have c := h x (List.mem_cons_self ..)
    simp [PyData.canLayAll0, PyData.depthAll, PyData.depth, a, b, c]
theorem sh_int (xs : List Int) : SeqAt.shaped (.list (xs.map .int)) = true := by
  obtain ⟨a, b⟩ := lay_int xs
  simp [SeqAt.shaped, PyData.canLay0, PyData.depth, a, b]
theorem sh_str {xs : List Str} (h : ∀ x ∈ xs, PyData.canLay0 (.str x) = true) : SeqAt.shaped (.list (xs.map .str)) = true := by
  obtain ⟨a, b⟩ := lay_str xs h
  simp [SeqAt.shaped, PyData.canLay0, PyData.depth, a, b]
section
variable {K : PySem.W.Frag} {σ : L2.St} {H : Hp} {ta tb : TE} {a b : Addr}
theorem dp_int : ∀ xs : List Int, DpAll K H (xs.map .int) (xs.map .int)
  | [] => .nil
  | x :: xs => .cons (.int x) (dp_int xs)
theorem dp_str : ∀ xs : List Str, DpAll K H (xs.map .str) (xs.map .str)
  | [] => .nil
  | x :: xs => .cons (.str x) (dp_str xs)
theorem rv_eqI {xs ys : List Int} (ha : H a = some (.lst (xs.map .int))) (hb : H b = some (.lst (ys.map .int))) : RV (rEqA K) (.ref a) (.ref b) H (.bl (decide (xs = ys))) := rv_or2 fun H1 e Q q =>
  ⟨.list (xs.map .int), .list (ys.map .int), .lst (sq_of (e _ _ ha)) (dp_int xs), .lst (sq_of (e _ _ hb)) (dp_int ys), sh_int xs, sh_int ys, by
    rw [PyData.eqv, eqvAll_int]
    exact q H1 (Ex.refl H1)⟩
theorem rv_eqS {xs ys : List Str} (hx : ∀ x ∈ xs, PyData.canLay0 (.str x) = true) (hy : ∀ x ∈ ys, PyData.canLay0 (.str x) = true) (ha : H a = some (.lst (xs.map .str))) (hb : H b = some (.lst (ys.map .str))) : RV (rEqA K) (.ref a) (.ref b) H (.bl (decide (xs = ys))) := rv_or2 fun H1 e Q q =>
  ⟨.list (xs.map .str), .list (ys.map .str), .lst (sq_of (e _ _ ha)) (dp_str xs), .lst (sq_of (e _ _ hb)) (dp_str ys), sh_str hx, sh_str hy, by
    rw [PyData.eqv, eqvAll_str]
    exact q H1 (Ex.refl H1)⟩
theorem rv_neS {xs ys : List Str} (hx : ∀ x ∈ xs, PyData.canLay0 (.str x) = true) (hy : ∀ x ∈ ys, PyData.canLay0 (.str x) = true) (ha : H a = some (.lst (xs.map .str))) (hb : H b = some (.lst (ys.map .str))) : RV (rNeA K) (.ref a) (.ref b) H (.bl (!decide (xs = ys))) := rv_or2 fun H1 e Q q =>
  ⟨.list (xs.map .str), .list (ys.map .str), .lst (sq_of (e _ _ ha)) (dp_str xs), .lst (sq_of (e _ _ hb)) (dp_str ys), sh_str hx, sh_str hy, by
    rw [PyData.eqv, eqvAll_str]
    exact q H1 (Ex.refl H1)⟩
/-- [..] == [], both empty -/
theorem ev_eq00 (ha : EvL ta σ H []) (hb : EvL tb σ H []) : Ev (tOp (rEqA K) ta tb) σ H (.bl true) := ev_opLL ha hb fun p q H1 hp hq _ => rv_eqI (xs := []) (ys := []) hp hq
theorem ev_ne00 (ha : EvL ta σ H []) (hb : EvL tb σ H []) : Ev (tOp (rNeA K) ta tb) σ H (.bl false) := ev_opLL ha hb fun p q H1 hp hq _ => rv_neS (xs := []) (ys := []) (fun _ h => nomatch h) (fun _ h => nomatch h) hp hq
end
/-- the data of a program -/
def pgD : Pg → PyData
  | .no => .tuple [.str "nothing"]
  | .st nm => .tuple [.str "step", .str nm]
  | .be a b => .tuple [.str "behind", pgD a, pgD b]
  | .ei a b => .tuple [.str "either", pgD a, pgD b]
  | .ag a => .tuple [.str "again", pgD a]
theorem pgD_eqv : ∀ p : Pg, PyData.eqv (pgD p) (pgD p) = true
  | .no => by simp [pgD, PyData.eqv, PyData.eqvAll]
  | .st nm => by simp [pgD, PyData.eqv, PyData.eqvAll]
  | .be a b => by simp [pgD, PyData.eqv, PyData.eqvAll, pgD_eqv a, pgD_eqv b]
  | .ei a b => by simp [pgD, PyData.eqv, PyData.eqvAll, pgD_eqv a, pgD_eqv b]
  | .ag a => by simp [pgD, PyData.eqv, PyData.eqvAll, pgD_eqv a]
theorem words_ok : ∀ x ∈ (["nothing", "step", "behind", "either", "again"] : List Str), PyData.canLay0 (.str x) = true := by decide +kernel
theorem pgD_lay : ∀ {p : Pg}, (∀ x ∈ p.uses, PyData.canLay0 (.str x) = true) → PyData.canLay0 (pgD p) = true ∧ PyData.depth (pgD p) ≤ p.ht
  | .no, _ => by
    have w := words_ok "nothing" (by simp)
    simp [pgD, PyData.canLay0, PyData.canLayAll0, PyData.depth, PyData.depthAll, Pg.ht] at w ⊢
    exact w
  | .st nm, h => by
    have w := words_ok "step" (by simp)
    have n := h nm (List.mem_singleton.mpr rfl)
    simp [pgD, PyData.canLay0, PyData.canLayAll0, PyData.depth, PyData.depthAll, Pg.ht] at w n ⊢
    exact ⟨w, n⟩
  | .be a b, h => by
    have w := words_ok "behind" (by simp)
    obtain ⟨a1, a2⟩ := pgD_lay (p := a) fun x hx => h x (List.mem_append_left _ hx)
    obtain ⟨b1, b2⟩ := pgD_lay (p := b) fun x hx => h x (List.mem_append_right _ hx)
    simp only [pgD, PyData.canLay0, PyData.canLayAll0, PyData.depth, PyData.depthAll, Pg.ht, a1, b1, Bool.and_true, Bool.true_and] at w ⊢
    exact ⟨w, by omega⟩
  | .ei a b, h => by
    have w := words_ok "either" (by simp)
    obtain ⟨a1, a2⟩ := pgD_lay (p := a) fun x hx => h x (List.mem_append_left _ hx)
    obtain ⟨b1, b2⟩ := pgD_lay (p := b) fun x hx => h x (List.mem_append_right _ hx)
    simp only [pgD, PyData.canLay0, PyData.canLayAll0, PyData.depth, PyData.depthAll, Pg.ht, a1, b1, Bool.and_true, Bool.true_and] at w ⊢
    exact ⟨w, by omega⟩
  | .ag a, h => by
    have w := words_ok "again" (by simp)
    obtain ⟨a1, a2⟩ := pgD_lay (p := a) h
    simp only [pgD, PyData.canLay0, PyData.canLayAll0, PyData.depth, PyData.depthAll, Pg.ht, a1, Bool.and_true, Bool.true_and] at w ⊢
    exact ⟨w, by omega⟩
theorem pgD_dp {K : PySem.W.Frag} {H : Hp} : ∀ {p : Pg} {a : Addr}, PrAt H p a → Dp K H (.ref a) (pgD p)
  | .no, _, h => .tup (st_of h) (.cons (.str _) .nil)
  | .st nm, _, h => .tup (st_of h) (.cons (.str _) (.cons (.str _) .nil))
  | .be _ _, _, ⟨_, _, h, h1, h2⟩ => .tup (st_of h) (.cons (.str _) (.cons (pgD_dp h1) (.cons (pgD_dp h2) .nil)))
  | .ei _ _, _, ⟨_, _, h, h1, h2⟩ => .tup (st_of h) (.cons (.str _) (.cons (pgD_dp h1) (.cons (pgD_dp h2) .nil)))
  | .ag _, _, ⟨_, h, h1⟩ => .tup (st_of h) (.cons (.str _) (.cons (pgD_dp h1) .nil))
/-- a program equals itself -/
theorem rv_eqP {K : PySem.W.Frag} {H : Hp} {p : Pg} {a : Addr} (h : PrAt H p a) (hu : ∀ x ∈ p.uses, PyData.canLay0 (.str x) = true) (ht : p.ht ≤ 60) : RV (rEqA K) (.ref a) (.ref a) H (.bl true) := rv_or2 fun H1 e Q q => by
  obtain ⟨l1, l2⟩ := pgD_lay hu
  have sh : SeqAt.shaped (pgD p) = true := by
    unfold SeqAt.shaped
    rw [l1, decide_eq_true (by omega)]
    rfl
  exact ⟨pgD p, pgD p, pgD_dp (h.n e.n), pgD_dp (h.n e.n), sh, sh, by
    rw [pgD_eqv]
    exact q H1 (Ex.refl H1)⟩
end TA
end
/-! TaP10 -/
section
set_option Elab.async false
set_option linter.all false
set_option autoImplicit false
set_option maxRecDepth 100000
set_option maxHeartbeats 4000000
namespace TA
open PySem PySem.Spec PyProof.Rows L2 Evl
abbrev abc : Str := "abcdefghijklmnopqrstuvwxyz"
/-- a step's name -/
structure NameOk (s : Str) : Prop where
  lo : 1 ≤ s.length
  hi : s.length ≤ 8
  no : s ≠ "nothing"
  abc : ∀ c ∈ s.cps.toList, c ∈ abc.cps.toList
  lay : PyData.canLay0 (.str s) = true
section
variable {K : PySem.W.Frag} {σ : L2.St} {H : Hp} {tl te : TE} {t : TT} {a : Addr} {xs : List V} {j : Nat} {vs : List Nat}
theorem given_none (n : Nat) (v : Nat → V) : given n (fun _ => false) v = [] := by
  unfold given
  rw [List.filter_eq_nil_iff.mpr (fun _ _ => Bool.false_ne_true)]
  rfl
theorem el_lcT (f : Nat → Bool) (v : Nat → V) (h : Ev tl σ H (.ref a)) (hx : H a = some (.tup xs)) (hz : xs.length ≤ 40000) (hw : ∀ x, wipe ((wipe σ vs).set j (some x)) vs = wipe σ vs)
    (ht : ∀ i x H1, Ex H H1 → xs[i]? = some x → EvT t ((wipe σ vs).set j (some x)) H1 (f i)) (he : ∀ i x H1, Ex H H1 → xs[i]? = some x → f i = true → Ev te ((wipe σ vs).set j (some x)) H1 (v i)) : EvL (tLc (iTup K tl) (gName j) t te vs) σ H (given xs.length f v) := fun H0 e Q q => h H0 e _ fun H1 e1 =>
  ⟨a, rfl, ⟨xs, st_of (e1 _ _ (e _ _ hx))⟩, fun Dl hD => lc_tup (xs := xs) (Cw H1 f v Dl) ⟨hD, Ex.new hD, upd_same⟩ (fun i H' _ p => st_of (p.2.1 _ _ (e1 _ _ (e _ _ hx)))) (fun i x H' hi p => ⟨hw _, cw_turn p (by have := (List.getElem?_eq_some_iff.mp hi).1; omega) (ht i x H1 (e.trans e1) hi) (fun hf => he i x H1 (e.trans e1) hi hf)⟩)
    (fun H' p => q Dl H' (fresh_back e1 p.1) (e1.trans p.2.1) p.2.2)⟩
/-- the bare rule of a comprehension over a list or a tuple: Pv by the new list's place, the turn and the heap -/
theorem lc_A {g : TG} {Q : VK} (h : Ev tl σ H (.ref a)) (hx : SqA H a xs) (Pv : Addr → Nat → Hp → Prop) (h0 : ∀ D H1, Ex H H1 → H1 D = none → Pv D 0 (upd H1 D (.lst []))) (hl : ∀ D i H', Pv D i H' → ∀ o, H a = some o → H' a = some o)
    (hs : ∀ D i x H', xs[i]? = some x → Pv D i H' → (g x (wipe σ vs) H' fun σ2 H2 => wipe σ2 vs = wipe σ vs ∧ t σ2 H2 fun b H3 => if b = true then te σ2 H3 fun y H4 => ∃ acc, H4 D = some (.lst acc) ∧ acc.length < sizeLine ∧ Pv D (i + 1) (upd H4 D (.lst (acc ++ [y]))) else Pv D (i + 1) H3))
    (hd : ∀ D H', Pv D xs.length H' → Q (.ref D) H') : tLc (iA K tl) g t te vs σ H Q := by
  rcases hx with hx | hx
  · exact .inl (h H (Ex.refl H) _ fun H1 e1 => ⟨a, rfl, ⟨xs, sq_of (e1 _ _ hx)⟩, fun D hD => lc_list (xs := xs) (Pv D) (h0 D H1 e1 hD) (fun i H' _ p => sq_of (hl D i H' p _ hx)) (fun i x H' hi p => hs D i x H' hi p) (fun H' p => hd D H' p)⟩)
  · exact .inr (h H (Ex.refl H) _ fun H1 e1 => ⟨a, rfl, ⟨xs, st_of (e1 _ _ hx)⟩, fun D hD => lc_tup (xs := xs) (Pv D) (h0 D H1 e1 hD) (fun i H' _ p => st_of (hl D i H' p _ hx)) (fun i x H' hi p => hs D i x H' hi p) (fun H' p => hd D H' p)⟩)
theorem yesT {A R : Hp → Prop} (h : A H) : tYes σ H fun b H3 => if b = true then A H3 else R H3 := by
  show (if true = true then A H else R H)
  exact iteT h
theorem s_fldC {D : Ends} {i : Nat} {f : Str} {r : List V → Hp → VK → Prop} (h : tl σ H fun v H1 => r [v] H1 fun y H2 => ∃ v0, σ[i]? = some (some v0) ∧ ∃ a C dx fs, v0 = .ref a ∧ H2 a = some (.ins C dx fs) ∧ Cls K C ∧ NoAttr K C f ∧ fs.length < 1000 ∧ D.nx σ (upd H2 a (.ins C dx (putF f y fs)))) :
    sFld K (tVar i) (tCB r (tCons tl tNil)) f D σ H := h
/-- the same over range(n) -/
theorem lc_R {g : TG} {Q : VK} {ta : TA} {n : Nat} (h : EvA ta σ H [vn n]) (hz : n ≤ 100000) (Pv : Addr → Nat → Hp → Prop) (h0 : ∀ D H1, Ex H H1 → H1 D = none → Pv D 0 (upd H1 D (.lst [])))
    (hs : ∀ D i H', i < n → Pv D i H' → (g (vn i) (wipe σ vs) H' fun σ2 H2 => wipe σ2 vs = wipe σ vs ∧ t σ2 H2 fun b H3 => if b = true then te σ2 H3 fun y H4 => ∃ acc, H4 D = some (.lst acc) ∧ acc.length < sizeLine ∧ Pv D (i + 1) (upd H4 D (.lst (acc ++ [y]))) else Pv D (i + 1) H3))
    (hd : ∀ D H', Pv D n H' → Q (.ref D) H') : tLc (iRng1 ta) g t te vs σ H Q := h H (Ex.refl H) _ fun H1 e1 => ⟨(n : Int), rfl, by omega, by omega, fun D hD => by
  rw [Int.toNat_natCast]
  exact lc_it (walk_range (lo := 0) (n := n)) (Pv D) (h0 D H1 e1 hD) (fun _ _ _ _ => trivial) (fun i x H' H'' hi p y => by
    obtain ⟨e1, e2⟩ := y
    subst e1 e2
    have e0 : (0 : Int) + (i : Int) = (i : Int) := Int.zero_add _
    show g (V.int ((0 : Int) + (i : Int))) (wipe σ vs) _ _
    rw [e0]
    exact hs D i _ hi p) (fun H' p => hd D H' p)⟩
/-- over a list or a tuple -/
theorem el_lcA (f : Nat → Bool) (v : Nat → V) (h : Ev tl σ H (.ref a)) (hx : SqA H a xs) (hz : xs.length ≤ 40000) (hw : ∀ x, wipe ((wipe σ vs).set j (some x)) vs = wipe σ vs)
    (ht : ∀ i x H1, Ex H H1 → xs[i]? = some x → EvT t ((wipe σ vs).set j (some x)) H1 (f i)) (he : ∀ i x H1, Ex H H1 → xs[i]? = some x → f i = true → Ev te ((wipe σ vs).set j (some x)) H1 (v i)) : EvL (tLc (iA K tl) (gName j) t te vs) σ H (given xs.length f v) := by
  rcases hx with hx | hx
  · exact fun H1 e Q q => .inl (el_lcL f v h (sq_of hx) hz hw ht he H1 e Q q)
  · exact fun H1 e Q q => .inr (el_lcT f v h hx hz hw ht he H1 e Q q)
end
section
variable {P : Program} {w : World} {K : PySem.W.Frag} {mg : Str → Option Value} {base : Heap}
theorem ev_lenS {σ : L2.St} {H : Hp} {ta : TE} {z : Str} (ha : Ev ta σ H (.str z)) (hz : z.length ≤ sizeLine) : Ev (tCB (fun xs H Q => ∃ z, xs = [.str z] ∧ z.length ≤ sizeLine ∧ Q (.int z.length) H) (tCons ta tNil)) σ H (vn z.length) := fun H1 e Q q => ha H1 e _ fun H2 e2 => ⟨z, rfl, hz, q H2 e2⟩
theorem et_chain {σ : L2.St} {H : Hp} {ta tb tc : TE} {i j k : Int} (ha : Ev ta σ H (.int i)) (hb : Ev tb σ H (.int j)) (hc : Ev tc σ H (.int k)) (h1 : i ≤ j) (h2 : j ≤ k) :
    EvT (tTest (tChain (rI0 fun i j => .bl (decide (i ≤ j))) (rI0 fun i j => .bl (decide (i ≤ j))) ta tb tc)) σ H true := fun H1 e1 Q q => ha H1 e1 _ fun H2 e2 => hb H2 (e1.trans e2) _ fun H3 e3 => ⟨i, j, rfl, rfl, true, congrArg V.bl (decide_eq_true h1), by
  rw [if_pos rfl]
  exact hc H3 ((e1.trans e2).trans e3) _ fun H4 e4 => ⟨j, k, rfl, rfl, true, congrArg V.bl (decide_eq_true h2), q H4 ((e2.trans e3).trans e4)⟩⟩
def spIsName (_ : PySem.W.Frag) : Sp := fun vs H Q _ => ∃ s : Str, vs = [.str s] ∧ NameOk s ∧ RetV (.bl true) H Q
theorem ok_is_name (T : Txt w K mg) : Fok P w K mg base 1 (a_is_name K) P_is_name (spIsName K) := by
  refine fok T.f_is_name sc_is_name (fun _ _ _ _ _ _ us hl => match us, hl with | [_], _ => rfl) (fun vs H Q E h => ?_) (fun cdv A outer s H vs Q E hr h => ?_)
  · obtain ⟨z, rfl, _⟩ := h
    rfl
  · obtain ⟨z, rfl, hz, k⟩ := h
    have H64 := hr.units
    refine ⟨_, (pss_cons (ps_if (PW.pt (pw_or (pt_not (pt_val (pe_callB call_isi rfl T.m_isinstance bt_isinstance (pa_cons (pv 0) (pa_cons (pe_ct T.m_str bt_str) pa_nil))))) (pw_or (pt_not (pt_chain op_le op_le pe_int (pe_callB call_len_str rfl T.m_len bt_len (pa_cons (pv 0) pa_nil)) pe_int)) (pw_or1 (pt_cmpR (op_eqA H64) (pv 0) pe_str (nomark _)))))) (pss_one (ps_ret pe_bl)) pss_nil)
      (pss_one (ps_ret (pe_cmpR (op_eqA H64) (pe_lc (own := [("sign", 1)]) (g := (gName 1)) rfl sc_is_name.nd (pi_str (pv 0)) (blkOk_by (N := N_is_name) (sc := defScope s_is_name) (by decide +kernel)) (fun _ _ _ _ _ => (pg_name (i := 1) sc_is_name.nd rfl (Or.inl rfl))) (fun _ _ _ _ _ => (pts_one (pt_cmpR op_notInS (pv 1) (pe_cs T.s_LETTERS) (by rfl)))) (fun _ _ _ _ _ => (pv 1))) (pe_lst pa_nil) (nomark _))))), ?_⟩
    have h1 := hz.lo
    have h2 := hz.hi
    refine q_when (b := false) (et_is (et_or (et_not (et_B (ev_isi (ev_var rfl) (.str z) (by decide)))) (fun _ => et_or (et_not (et_chain ev_c (ev_lenS (ev_var rfl) (sz_of (by omega))) ev_c (by omega) (by omega))) (fun _ => et_test (ev_eqS (ev_var rfl) ev_c)))) (by rw [decide_eq_false hz.no]; rfl)) (fun z => nomatch z) (fun _ H1 e1 => ?_)
    refine s_ret (ev_eq00 (fun H2 e2 Q' q => ⟨.str z, rfl, z, rfl, fun D hD => lc_it walk_str (fun i H' => Ex H2 H' ∧ H' D = some (.lst [])) ⟨Ex.new hD, upd_same⟩ (fun i H' _ _ => trivial) (fun i x H' H'' hi p y => ?_) (fun H' p => q D H' hD p.1 p.2)⟩) (el_lst ea_nil (by decide))) fun H2 e2 => k H2 (e1.trans e2)
    obtain ⟨rfl, c, hc, rfl⟩ := y
    refine ⟨rfl, _, rfl, c, abc, rfl, rfl, ?_⟩
    have hm : c ∈ abc.cps.toList := hz.abc c (by
      rw [Array.mem_toList_iff]
      exact Array.mem_of_getElem? hc)
    refine ⟨false, by rw [decide_eq_true hm]; rfl, ?_⟩
    exact iteF p
theorem sv_is_name {H : Hp} {s : Str} (h : NameOk s) : SpV (spIsName K) [.str s] H (.bl true) := fun H1 e Q q E => ⟨s, rfl, h, q⟩
/-- an entry: a name and its row -/
def EntAt (H : Hp) (x : V) (q : Str × List Nat) : Prop := ∃ a r, x = .ref a ∧ SqA H a [.str q.1, .ref r] ∧ SqA H r (q.2.map vn)
theorem EntAt.mono {H H' : Hp} {x : V} {q : Str × List Nat} (e : Ex H H') (h : EntAt H x q) : EntAt H' x q := let ⟨a, r, h0, h1, h2⟩ := h; ⟨a, r, h0, h1.mono e, h2.mono e⟩
def spEntry (_ : PySem.W.Frag) : Sp := fun vs H Q _ => ∃ (N : Addr) (x : V) (v : Nat) (q : Str × List Nat) (had : List Str), vs = [vn v, x, .ref N] ∧ EntAt H x q ∧ H N = some (.lst (had.map V.str)) ∧ Vok v ∧ NameOk q.1 ∧ q.1 ∉ had ∧ RowOk v q.2 ∧ RetV .non H Q
theorem ok_entry_fault (T : Txt w K mg) : Fok P w K mg base 4 (a_entry_fault K) P_entry_fault (spEntry K) := by
  have F_is_whole := ok_is_whole (P := P) (base := base) T
  have F_is_sequence := ok_is_sequence (P := P) (base := base) T
  have F_all_stands := ok_all_stands (P := P) (base := base) T
  have F_is_name := ok_is_name (P := P) (base := base) T
  refine fok T.f_entry_fault sc_entry_fault (fun _ _ _ _ _ _ us hl => match us, hl with | [_, _, _], _ => rfl) (fun vs H Q E h => ?_) (fun cdv A outer s H vs Q E hr h => ?_)
  · obtain ⟨N, x, v, q, had, rfl, _⟩ := h
    rfl
  · obtain ⟨N, x, v, ⟨nm, row⟩, had, rfl, ⟨a, r, rfl, ha, hrw⟩, hN, hv, hn, hnot, hro, k⟩ := h
    have H64 := hr.units
    refine ⟨_, (pss_cons (ps_if (PW.pt (pw_or (pt_not (pt_val (pe_f F_is_sequence T.c_is_sequence (hr.mono (by omega)) (px rfl rfl rfl rfl) (pa_cons (pv 1) pa_nil)))) (pw_or (pt_cmpR (op_neA H64) (pe_callB call_len_seq rfl T.m_len bt_len (pa_cons (pv 1) pa_nil)) pe_int (nomark _)) (pw_or (pt_not (pt_val (pe_f F_is_name T.c_is_name (hr.mono (by omega)) (px rfl rfl rfl rfl) (pa_cons (pe_ix ix_A (pv 1) pe_int (fun _ _ => rfl)) pa_nil)))) (pw_or1 (pt_cmpR op_in_seq (pe_ix ix_A (pv 1) pe_int (fun _ _ => rfl)) (pv 2) (by rfl))))))) (pss_one (ps_ret pe_str)) pss_nil)
      (pss_cons (ps_if (PW.pt (pw_or (pt_not (pt_val (pe_f F_is_sequence T.c_is_sequence (hr.mono (by omega)) (px rfl rfl rfl rfl) (pa_cons (pe_ix ix_A (pv 1) pe_int (fun _ _ => rfl)) pa_nil)))) (pw_or1 (pt_cmpR (op_neA H64) (pe_callB call_len_seq rfl T.m_len bt_len (pa_cons (pe_ix ix_A (pv 1) pe_int (fun _ _ => rfl)) pa_nil)) (pv 0) (nomark _))))) (pss_one (ps_ret pe_str)) pss_nil)
      (pss_cons (ps_if (pt_cmpR (op_neA H64) (pe_lc (own := [("lot", 3)]) (g := (gName 3)) rfl sc_entry_fault.nd (pi_A (pe_ix ix_A (pv 1) pe_int (fun _ _ => rfl))) (blkOk_by (N := N_entry_fault) (sc := defScope s_entry_fault) (by decide +kernel)) (fun _ _ _ _ _ => (pg_name (i := 3) sc_entry_fault.nd rfl (Or.inl rfl))) (fun _ _ _ _ _ => (pts_one (pt_not (pt_val (pe_f F_is_whole T.c_is_whole (hr.mono (by omega)) passL (pa_cons (pv 3) (pa_cons pe_int (pa_cons (pe_f F_all_stands T.c_all_stands (hr.mono (by omega)) passL (pa_cons (pv 0) pa_nil)) pa_nil)))))))) (fun _ _ _ _ _ => (pv 3))) (pe_lst pa_nil) (nomark _)) (pss_one (ps_ret pe_str)) pss_nil)
      (pss_one (ps_ret pe_non))))), ?_⟩
    have ix0 : ∀ {H1 : Hp} {σ : L2.St}, Ex H H1 → σ[1]? = some (some (.ref a)) → Ev (tOp (rIxA K) (tVar 1) (tC (.int 0))) σ H1 (.str nm) := fun e h => ev_ixA (ev_var h) ev_c (ha.mono e) rfl
    have ix1 : ∀ {H1 : Hp} {σ : L2.St}, Ex H H1 → σ[1]? = some (some (.ref a)) → Ev (tOp (rIxA K) (tVar 1) (tC (.int 1))) σ H1 (.ref r) := fun e h => ev_ixA (ev_var h) ev_c (ha.mono e) rfl
    refine q_when (b := false) (et_is (et_or (et_not (et_B (ev_seq (ev_var rfl) ha))) (fun _ => et_or (et_test (ev_neN (b := 2) (ev_lenA (ev_var rfl) ha) ev_c)) (fun _ => et_or (et_not (et_B (ev_f (ea_cons (ix0 (Ex.refl H) rfl) ea_nil) (sv_is_name hn)))) (fun _ => et_test (ev_op (ix0 (Ex.refl H) rfl) (ev_var rfl) (rv_isL (sq_of hN) rfl (flat_str had))))))) (by
        rw [inV_str, decide_eq_false hnot]
        rfl)) (fun z => nomatch z) (fun _ H1 e1 => ?_)
    refine q_when (b := false) (et_is (et_or (et_not (et_B (ev_seq (ix1 e1 rfl) (hrw.mono e1)))) (fun _ => et_test (ev_neN (ev_lenA (ix1 e1 rfl) (hrw.mono e1)) (ev_var rfl)))) (by
        rw [List.length_map, hro.len]
        simp)) (fun z => nomatch z) (fun _ H2 e2 => ?_)
    have e12 := e1.trans e2
    have hcomp : EvL (tLc (iA K (tOp (rIxA K) (tVar 1) (tC (.int 1)))) (gName 3) (tNot (tB (tCall (spIsWhole K) [] E0 (tCons (tVar 3) (tCons (tC (.int 0)) (tCons (tCall (spAllStands K) [] E0 (tCons (tVar 0) tNil)) tNil)))))) (tVar 3) [3]) [some (vn v), some (.ref a), some (.ref N), none] H2 [] := by
      have z := el_lcA (K := K) (t := tNot (tB (tCall (spIsWhole K) [] E0 (tCons (tVar 3) (tCons (tC (.int 0)) (tCons (tCall (spAllStands K) [] E0 (tCons (tVar 0) tNil)) tNil)))))) (te := tVar 3) (j := 3) (vs := [3]) (fun _ => false) (fun _ => V.non) (ix1 (σ := [some (vn v), some (.ref a), some (.ref N), none]) e12 rfl) (hrw.mono e12) (by rw [List.length_map, hro.len]; have := hv.2; omega) (fun x => rfl) (fun i x H3 e3 hx => by
        obtain ⟨lt, rfl⟩ := map_at hx
        refine et_is (et_not (et_B (ev_f (ea_cons (ev_var rfl) (ea_cons ev_c (ea_cons (ev_f (ea_cons (ev_var rfl) ea_nil) (sv_all_stands hv)) ea_nil))) (sv_is_whole (.int _))))) ?_
        show (!lotB v (vn (row.getD i 0))) = false
        rw [lotB_nat, decide_eq_true (hro.lt _ (getD_mem lt))]
        rfl) (fun i x H3 e3 hx z => nomatch z)
      rw [given_none] at z
      exact z
    refine q_when (b := false) (et_test (ev_ne00 hcomp (el_lst ea_nil (by decide)))) (fun z => nomatch z) (fun _ H3 e3 => ?_)
    exact s_ret ev_c fun H4 e4 => k H4 ((e12.trans e3).trans e4)
/-- entries of steps of v stands -/
structure EsOk (v : Nat) (es : List (Str × List Nat)) : Prop where
  len : es.length ≤ 20
  nm : ∀ q ∈ es, NameOk q.1
  row : ∀ q ∈ es, RowOk v q.2
  nd : (es.map (·.1)).Nodup
def spStInit (K : PySem.W.Frag) : Sp := fun vs H Q _ => ∃ (x dx a : Addr) (v : Nat) (xs : List V) (es : List (Str × List Nat)), vs = [.ref x, vn v, .ref a] ∧ H x = some (.ins (He.ga K "Steps") dx []) ∧ SqA H a xs ∧ Paired (EntAt H) xs es ∧ Vok v ∧ EsOk v es ∧
  (∀ H2, XO x H H2 → StAt K H2 x v (es.map (·.1)) (es.map (·.2)) → Q .non H2)
theorem paired_ix {α β : Type} {F : α → β → Prop} {xs : List α} {ys : List β} : ∀ {i : Nat} {x : α}, Paired F xs ys → xs[i]? = some x → ∃ y, ys[i]? = some y ∧ F x y := by
  intro i x h
  induction h generalizing i with
  | nil => intro e; cases e
  | cons h1 _ ih =>
    intro e
    cases i with
    | zero =>
      have e2 := Option.some.inj e
      subst e2
      exact ⟨_, rfl, h1⟩
    | succ i => exact ih e
theorem ok_Steps_init (T : Txt w K mg) : Fok P w K mg base 5 (a_Steps_init K) P_Steps_init (spStInit K) := by
  have F_is_whole := ok_is_whole (P := P) (base := base) T
  have F_is_sequence := ok_is_sequence (P := P) (base := base) T
  have F_entry_fault := ok_entry_fault (P := P) (base := base) T
  refine fok T.f_Steps_init sc_Steps_init (fun _ _ _ _ _ _ us hl => match us, hl with | [_, _, _], _ => rfl) (fun vs H Q E h => ?_) (fun cdv A outer s H vs Q E hr h => ?_)
  · obtain ⟨x, dx, a, v, xs, es, rfl, _⟩ := h
    rfl
  · obtain ⟨x, dx, a, v, xs, es, rfl, hx, ha, hp, hv, hes, k⟩ := h
    have H64 := hr.units
    refine ⟨_, (pss_cons (ps_if (pt_not (pt_val (pe_f F_is_whole T.c_is_whole (hr.mono (by omega)) (px rfl rfl rfl rfl) (pa_cons (pv 1) (pa_cons pe_int (pa_cons (pe_ci T.i_MOST_STANDS) pa_nil)))))) (pss_one ps_never) pss_nil)
      (pss_cons (ps_if (PW.pt (pw_or (pt_not (pt_val (pe_f F_is_sequence T.c_is_sequence (hr.mono (by omega)) (px rfl rfl rfl rfl) (pa_cons (pv 2) pa_nil)))) (pw_or1 (pt_cmpR op_gt (pe_callB call_len_seq rfl T.m_len bt_len (pa_cons (pv 2) pa_nil)) (pe_ci T.i_MOST_STEPS) (nomark _))))) (pss_one ps_never) pss_nil)
      (pss_cons (ps_set (i := 3) sc_Steps_init.nd rfl (Or.inl rfl) (pe_lst pa_nil))
      (pss_cons (ps_for (passes_of rfl) rfl (pi_enumA rfl T.m_enumerate (pa_cons (pv 2) pa_nil)) (pg_tup rfl (pgs_cons (pg_name (i := 4) sc_Steps_init.nd rfl (Or.inl rfl)) (pgs_cons (pg_name (i := 5) sc_Steps_init.nd rfl (Or.inl rfl)) pgs_nil))) (pss_cons (ps_set (i := 6) sc_Steps_init.nd rfl (Or.inl rfl) (pe_f F_entry_fault T.c_entry_fault (hr.mono (by omega)) (px rfl rfl rfl rfl) (pa_cons (pv 1) (pa_cons (pv 5) (pa_cons (pv 3) pa_nil)))))
      (pss_cons (ps_if (pt_cmpR op_notN1 (pv 6) pe_non (nomark _)) (pss_one ps_never) pss_nil)
      (pss_one (ps_expr (pe_bm PySem.F.plainAttrs_list PySem.F.slot_list_append PySem.F.type_list_append mt_append (pv 3) (pa_cons (pe_ix ix_A (pv 5) pe_int (fun _ _ => rfl)) pa_nil)))))))
      (pss_cons (ps_fld (pv 0) (pv 1) rfl)
      (pss_cons (ps_fld (pv 0) (pe_callTy call_tuple_of rfl T.m_tuple bt_tuple (pa_cons (pv 3) pa_nil)) rfl)
      (pss_one (ps_fld (pv 0) (pe_callTy call_tuple_of rfl T.m_tuple bt_tuple (pa_cons (pe_lc (own := [("entry", 5)]) (g := (gName 5)) (tt := tYes) rfl sc_Steps_init.nd (pi_A (pv 2)) (blkOk_by (N := N_Steps_init) (sc := defScope s_Steps_init) (by decide +kernel)) (fun _ _ _ _ _ => (pg_name (i := 5) sc_Steps_init.nd rfl (Or.inl rfl))) (fun _ _ _ _ _ => pts_nil) (fun _ _ _ _ _ => (pe_callTy (tupK (K := K) rfl) rfl T.m_tuple bt_tuple (pa_cons (pe_ix (ixK (K := K) rfl) (pv 5) pe_int (fun _ _ => rfl)) pa_nil)))) pa_nil)) rfl)))))))), ?_⟩
    have hlen := Paired.length hp
    have hes20 := hes.len
    refine q_when (b := false) (et_is (et_not (et_B (ev_f (ea_cons (ev_var rfl) (ea_cons ev_c (ea_cons ev_c ea_nil))) (sv_is_whole (.int _))))) (by rw [wholeB_ok hv]; rfl)) (fun z => nomatch z) (fun _ H1 e1 => ?_)
    refine q_when (b := false) (et_is (et_or (et_not (et_B (ev_seq (ev_var rfl) (ha.mono e1)))) (fun _ => et_test (ev_gt (ev_lenA (ev_var rfl) (ha.mono e1)) ev_c))) (by
      rw [decide_eq_false (by omega)]
      rfl)) (fun z => nomatch z) (fun _ H2 e2 => ?_)
    have e12 := e1.trans e2
    refine ⟨Nat.zero_le _, fun N hN => ?_⟩
    have e13 := e12.trans (Ex.new (o := .lst []) hN)
    refine q_of (s_enumA (ev_var rfl) (ha.mono e13) (fun i σ' H' => (∀ b o, b ≠ N → H2 b = some o → H' b = some o) ∧ H' N = some (.lst (((es.take i).map (·.1)).map V.str)) ∧ ∃ s4 s5 s6, σ' = [some (.ref x), some (vn v), some (.ref a), some (.ref N), s4, s5, s6])
      (fun H4 e4 => ⟨fun b o n q => e4 _ _ (by rw [upd_ne n]; exact q), e4 _ _ upd_same, none, none, none, rfl⟩) (fun i σ' H' _ p o ho => ?_) (fun i y σ' H' hy p H4 e4 => ?_) fun σ' H' p => ?_)
    · have q : H2 a = some o := by
        have n : a ≠ N := by
          rcases ha with q | q
          · exact ne_of_none (e12 _ _ q) hN
          · exact ne_of_none (e12 _ _ q) hN
        rw [upd_ne n] at ho
        exact ho
      have n : a ≠ N := ne_of_none q hN
      exact p.1 _ _ n q
    · obtain ⟨x1, hN1, s4, s5, s6, rfl⟩ := p
      have ex : Ex H2 H4 := fun b o q => e4 _ _ (x1 b o (ne_of_none q hN) q)
      have e04 := e12.trans ex
      obtain ⟨q, hq, hqa⟩ := paired_ix hp hy
      have hqm : q ∈ es := List.mem_of_getElem? hq
      have hi : i < es.length := (List.getElem?_eq_some_iff.mp hq).1
      have hnot : q.1 ∉ (es.take i).map (·.1) := fun hm => by
        obtain ⟨j, hj, ej⟩ := List.mem_iff_getElem.mp hm
        rw [List.getElem_map] at ej
        rw [List.length_map, List.length_take] at hj
        rw [List.getElem_take] at ej
        have q1 : (es.map (·.1))[j]? = some q.1 := by rw [List.getElem?_map, List.getElem?_eq_getElem (by omega)]; exact congrArg some ej
        have q2 : (es.map (·.1))[i]? = some q.1 := by rw [List.getElem?_map, hq]; rfl
        have := nd_ix hes.nd q1 q2
        omega
      refine q_asg (v := .non) (ev_f (vs := [vn v, y, .ref N]) (ea_cons (ev_var rfl) (ea_cons (ev_var rfl) (ea_cons (ev_var rfl) ea_nil))) fun H5 e5 Q q' E => ⟨N, y, v, q, _, rfl, hqa.mono (e04.trans e5), e5 _ _ (e4 _ _ hN1), hv, hes.nm q hqm, hnot, hes.row q hqm, q'⟩) fun H5 e5 => ?_
      refine q_when (b := false) (et_is (et_test (ev_notN (x := .non) (ev_var rfl))) rfl) (fun z => nomatch z) (fun _ H6 e6 => ?_)
      have e46 := e5.trans e6
      obtain ⟨ea, ra, rfl, hea, _⟩ := hqa
      refine ⟨_, rfl, .inl ⟨rfl, _, .inl (.inl (e46 _ _ (e4 _ _ hN1)))⟩, ?_⟩
      refine go (ev_ixA (ev_var rfl) (ev_c (v := .int 0)) (hea.mono (e04.trans e46)) (at0 _ _)) fun H7 e7 => ?_
      refine ⟨N, _, _, rfl, rfl, e7 _ _ (e46 _ _ (e4 _ _ hN1)), sz_lt (by rw [List.length_map, List.length_map, List.length_take]; omega), fun b o n q => ?_, ?_, some (vn i), some (.ref ea), some .non, rfl⟩
      · rw [upd_ne n]
        exact e7 _ _ (e46 _ _ (e4 _ _ (x1 b o n q)))
      · rw [upd_same, List.take_succ, hq, List.map_append, List.map_append]
        rfl
    · obtain ⟨x1, hN1, s4, s5, s6, rfl⟩ := p
      rw [hlen, List.take_length] at hN1
      have ex : Ex H2 H' := fun b o q => x1 b o (ne_of_none q hN) q
      have e0 := e12.trans ex
      have nxN : x ≠ N := ne_of_none (e12 _ _ hx) hN
      refine ⟨_, rfl, _, rfl, x, _, dx, [], rfl, e0 _ _ hx, T.k_Steps, T.n_Steps_stands, (by show 0 < 1000; decide), ?_⟩
      have hN2 : (upd H' x (.ins (He.ga K "Steps") dx [("stands", vn v)])) N = some (.lst ((es.map (·.1)).map V.str)) := by
        rw [upd_ne nxN.symm]
        exact hN1
      refine s_fldW (ew_tup (ev_var rfl) (.inl hN2)) rfl fun b H5 e5 hb => ⟨_, dx, [("stands", vn v)], e5 _ _ upd_same, T.k_Steps, T.n_Steps_names, (by show 1 < 1000; decide), ?_⟩
      have hbx : b ≠ x := fun z => by
        subst z
        rw [e5 _ _ upd_same] at hb
        cases hb
      have hac : SqA (upd H5 x (.ins (He.ga K "Steps") dx [("stands", vn v), ("names", .ref b)])) a xs := by
        have n : a ≠ x := by
          rcases ha with q | q
          · exact ne_of q hx (by intro z; cases z)
          · exact ne_of q hx (by intro z; cases z)
        have q : SqA H5 a xs := by
          rcases ha with q | q
          · exact .inl (e5 _ _ (by rw [upd_ne n]; exact e0 _ _ q))
          · exact .inr (e5 _ _ (by rw [upd_ne n]; exact e0 _ _ q))
        rcases q with q | q
        · exact .inl (by rw [upd_ne n]; exact q)
        · exact .inr (by rw [upd_ne n]; exact q)
      have X5 : XO x H (upd H5 x (.ins (He.ga K "Steps") dx [("stands", vn v), ("names", .ref b)])) := ((e0.o.trans XO.upd).trans e5.o).trans XO.upd
      dsimp only
      refine s_fldC ?_
      refine lc_A (ev_var rfl) hac (fun D i H' => (∀ c o, c ≠ D → (upd H5 x (.ins (He.ga K "Steps") dx [("stands", vn v), ("names", .ref b)])) c = some o → H' c = some o) ∧ (upd H5 x (.ins (He.ga K "Steps") dx [("stands", vn v), ("names", .ref b)])) D = none ∧ ∃ ras : List Addr, H' D = some (.lst (ras.map V.ref)) ∧ Paired (TupN H') ras ((es.take i).map (·.2)))
        (fun D H6 e6 hD => ⟨fun c o n q => by rw [upd_ne n]; exact e6 _ _ q, fresh_back e6 hD, [], upd_same, .nil⟩) (fun D i H' p o q => p.1 _ _ (ne_of_none q p.2.1) q) (fun D i y H' hy p => ?_) (fun D H' p => ?_)
      · obtain ⟨x6, hD, ras, hD6, hp6⟩ := p
        obtain ⟨q, hq, hqa⟩ := paired_ix hp hy
        obtain ⟨ea, ra, rfl, hea, hra⟩ := hqa
        have ex6 : Ex (upd H5 x (.ins (He.ga K "Steps") dx [("stands", vn v), ("names", .ref b)])) H' := fun c o q => x6 c o (ne_of_none q hD) q
        have seqk : ∀ {c : Addr} {ys : List V}, SqA H c ys → SqA H' c ys := fun h => by
          rcases h with h | h
          · exact .inl (ex6 _ _ (X5 _ _ (ne_of h hx (by intro z; cases z)) h))
          · exact .inr (ex6 _ _ (X5 _ _ (ne_of h hx (by intro z; cases z)) h))
        have hi : i < es.length := (List.getElem?_eq_some_iff.mp hq).1
        refine ⟨rfl, ?_⟩
        refine yesT ?_
        refine (ew_tup (K := K) (ta := tOp (rIxA K) (tVar 5) (tC (.int 1))) (a := ra) (ev_ixA (a := ea) (i := 1) (ev_var rfl) ev_c (seqk hea) rfl) (seqk hra)) _ (Ex.refl _) _ fun t H7 e7 ht => ?_
        have ntD : t ≠ D := ne_of ht (e7 _ _ hD6) (by intro z; cases z)
        refine ⟨_, e7 _ _ hD6, sz_lt (by rw [List.length_map, Paired.length hp6, List.length_map, List.length_take]; omega), fun c o n q => ?_, hD, ras ++ [t], ?_, ?_⟩
        · rw [upd_ne n]
          exact e7 _ _ (x6 c o n q)
        · rw [upd_same, List.map_append]
          rfl
        · rw [List.take_succ, hq, List.map_append]
          refine paired_app (paired_n (e7.n.trans ((XO.upd (m := D)).n (e7 _ _ hD6))) hp6) (.cons ?_ .nil)
          show upd H7 D _ t = _
          rw [upd_ne ntD]
          exact ht
      · obtain ⟨x6, hD, ras, hD6, hp6⟩ := p
        rw [hlen, List.take_length] at hp6
        refine ⟨D, _, rfl, .inl ⟨sq_of hD6, fun l hl => ?_⟩⟩
        have ex6 : Ex (upd H5 x (.ins (He.ga K "Steps") dx [("stands", vn v), ("names", .ref b)])) H' := fun c o q => x6 c o (ne_of_none q hD) q
        have hx6 : H' x = some (.ins (He.ga K "Steps") dx [("stands", vn v), ("names", .ref b)]) := ex6 _ _ upd_same
        have nlx : x ≠ l := ne_of_none hx6 hl
        refine ⟨_, rfl, x, _, dx, [("stands", vn v), ("names", .ref b)], rfl, (by rw [upd_ne nlx]; exact hx6), T.k_Steps, T.n_Steps_rows, (by show 2 < 1000; decide), ?_⟩
        have en : ExN H' (upd (upd H' l (.tup (ras.map V.ref))) x (.ins (He.ga K "Steps") dx (stFs v b l))) ∨ True := .inr trivial
        refine k _ (((X5.trans ex6.o).trans (Ex.new hl).o).trans XO.upd) ⟨dx, b, l, ras, upd_same, ?_, ?_, ?_, by rw [List.length_map, List.length_map]⟩
        · rw [upd_ne hbx, upd_ne (ne_of_none (ex6 _ _ (by rw [upd_ne hbx]; exact hb)) hl)]
          exact ex6 _ _ (by rw [upd_ne hbx]; exact hb)
        · rw [upd_ne nlx.symm, upd_same]
        · refine Paired.mapP hp6 fun r row q => ?_
          show upd (upd H' l _) x _ r = _
          rw [upd_ne (ne_of q hx6 (by intro z; cases z)), upd_ne (ne_of_none q hl)]
          exact q
end
end TA
end
/-! TaL1 -/
section
set_option Elab.async false
set_option linter.all false
set_option autoImplicit false
set_option maxRecDepth 100000
set_option maxHeartbeats 4000000
namespace TA
open PySem PySem.Spec PyProof.Rows L2 Evl
/-! ### the hand: where the law's draws come from -/
def HandAt (H : Hp) (h c : Addr) : Prop := ∃ (ns : List Int) (p : Nat) (r t : Int), H h = some (.lst [.ref c, vn p, .int r, .int t]) ∧ H c = some (.lst (ns.map V.int)) ∧ c ≠ h
theorem HandAt.mono {H H' : Hp} {h c : Addr} (e : Ex H H') (d : HandAt H h c) : HandAt H' h c := let ⟨ns, p, r, t, h1, h2, h3⟩ := d; ⟨ns, p, r, t, e _ _ h1, e _ _ h2, h3⟩
section
variable {P : Program} {w : World} {K : PySem.W.Frag} {mg : Str → Option Value} {base : Heap}
def spMixed (_ : PySem.W.Frag) : Sp := fun vs H Q _ => ∃ a b : Int, vs = [.int a, .int b] ∧ ∀ c : Int, RetV (.int c) H Q
theorem ok__law_mixed (T : Txt w K mg) : Fok P w K mg base 1 (a__law_mixed K) P__law_mixed (spMixed K) := by
  refine fok T.f__law_mixed sc__law_mixed (fun _ _ _ _ _ _ us hl => match us, hl with | [_, _], _ => rfl) (fun vs H Q E h => ?_) (fun cdv A outer s H vs Q E hr h => ?_)
  · obtain ⟨a, b, rfl, _⟩ := h
    rfl
  · obtain ⟨a, b, rfl, k⟩ := h
    refine ⟨_, (pss_cons (ps_set (i := 2) sc__law_mixed.nd rfl (Or.inl rfl) (pe_op op_mod (pe_callTy call_int1 rfl T.m_int bt_int (pa_cons (pe_op op_addA (pe_op op_addA (pe_op op_mul (pv 0) pe_int) (pe_op op_mul (pv 1) pe_int)) pe_int) pa_nil)) pe_int))
      (pss_cons (ps_set (i := 3) sc__law_mixed.nd rfl (Or.inl rfl) (pe_op op_mod (pe_callTy call_int1 rfl T.m_int bt_int (pa_cons (pe_op op_addA (pe_op op_addA (pe_op op_mul (pv 2) (pv 2)) (pe_op op_mul (pv 1) pe_int)) (pe_op op_fdiv (pv 2) pe_int)) pa_nil)) pe_int))
      (pss_one (ps_ret (pe_op op_fdiv (pe_callTy call_int1 rfl T.m_int bt_int (pa_cons (pe_op op_mod (pe_callTy call_int1 rfl T.m_int bt_int (pa_cons (pe_op op_addA (pe_op op_mul (pv 3) pe_int) (pe_op op_fdiv (pv 2) pe_int)) pa_nil)) pe_int) pa_nil)) pe_int))))), ?_⟩
    have c1 : ∀ i : Int, CMul i 48271 := fun i => .inr ⟨by decide, by decide⟩
    have c2 : ∀ i : Int, CMul i 7919 := fun i => .inr ⟨by decide, by decide⟩
    have c3 : ∀ i : Int, CMul i 92821 := fun i => .inr ⟨by decide, by decide⟩
    have c4 : ∀ i : Int, CMul i 69621 := fun i => .inr ⟨by decide, by decide⟩
    refine q_asg (ev_mod (ev_int (ev_add (ev_add (ev_mul (ev_var rfl) ev_c (c1 _)) (ev_mul (ev_var rfl) ev_c (c2 _))) ev_c)) ev_c (by decide)) fun H1 e1 => ?_
    have hb := Int.emod_nonneg (a * 48271 + b * 7919 + 30011) (b := 2147483399) (by decide)
    have hb2 := Int.emod_lt_of_pos (a * 48271 + b * 7919 + 30011) (b := 2147483399) (by decide)
    generalize (a * 48271 + b * 7919 + 30011) % 2147483399 = once at hb hb2
    refine q_asg (ev_mod (ev_int (ev_add (ev_add (ev_mul (ev_var rfl) (ev_var rfl) (.inl ⟨by omega, by omega⟩)) (ev_mul (ev_var rfl) ev_c (c3 _))) (ev_fdiv (ev_var rfl) ev_c ⟨by decide, by decide⟩))) ev_c (by decide)) fun H2 e2 => ?_
    exact s_ret (ev_fdiv (ev_int (ev_mod (ev_int (ev_add (ev_mul (ev_var rfl) ev_c (c4 _)) (ev_fdiv (ev_var rfl) ev_c ⟨by decide, by decide⟩))) ev_c (by decide))) ev_c ⟨by decide, by decide⟩) fun H3 e3 => k _ H3 ((e1.trans e2).trans e3)
def spTake (_ : PySem.W.Frag) : Sp := fun vs H Q _ => ∃ (h c : Addr) (m : Nat), vs = [.ref h, vn m] ∧ 0 < m ∧ m ≤ 100000 ∧ HandAt H h c ∧ ∀ H2 r, XO h H H2 → HandAt H2 h c → r < m → Q (vn r) H2
theorem mod_nat (i : Int) {m : Nat} (h : 0 < m) : ∃ r : Nat, i % (m : Int) = (r : Int) ∧ r < m := by
  have h1 := Int.emod_nonneg i (b := (m : Int)) (by omega)
  have h2 := Int.emod_lt_of_pos i (b := (m : Int)) (by omega)
  exact ⟨(i % (m : Int)).toNat, by omega, by omega⟩
theorem ok__law_take (T : Txt w K mg) : Fok P w K mg base 2 (a__law_take K) P__law_take (spTake K) := by
  have F__law_mixed := ok__law_mixed (P := P) (base := base) T
  refine fok T.f__law_take sc__law_take (fun _ _ _ _ _ _ us hl => match us, hl with | [_, _], _ => rfl) (fun vs H Q E h => ?_) (fun cdv A outer s H vs Q E hr h => ?_)
  · obtain ⟨h, c, m, rfl, _⟩ := h
    rfl
  · obtain ⟨h, c, m, rfl, hm, hm2, ⟨ns, p, r, t, h1, h2, h3⟩, k⟩ := h
    have H64 := hr.units
    refine ⟨_, (pss_cut (ps_if (PW.pt (pw_and (pt_cmpR (op_eqA H64) (pe_ix ix_A (pv 0) pe_int (fun _ _ => rfl)) pe_int (nomark _)) (pw_and1 (pt_cmpR op_lt (pe_ix ix_A (pv 0) pe_int (fun _ _ => rfl)) (pe_callB call_len_seq rfl T.m_len bt_len (pa_cons (pe_ix ix_A (pv 0) pe_int (fun _ _ => rfl)) pa_nil)) (nomark _))))) (pss_cons (ps_set (i := 2) sc__law_take.nd rfl (Or.inl rfl) (pe_ix ix_A (pe_ix ix_A (pv 0) pe_int (fun _ _ => rfl)) (pe_ix ix_A (pv 0) pe_int (fun _ _ => rfl)) (fun _ _ => rfl)))
      (pss_cons (ps_asg (pe_op op_addA (pe_ix ix_A (pv 0) pe_int (fun _ _ => rfl)) pe_int) (pg_sub (pv 0) pe_int set_list))
      (pss_cons (ps_if (pt_cmpR op_lt (pv 2) (pe_op op_pow pe_int pe_int) (nomark _)) (pss_one (ps_ret (pe_op op_mod (pe_callTy call_int1 rfl T.m_int bt_int (pa_cons (pe_f F__law_mixed T.c__law_mixed (hr.mono (by omega)) (px rfl rfl rfl rfl) (pa_cons (pe_op op_mod (pe_callTy call_int1 rfl T.m_int bt_int (pa_cons (pv 2) pa_nil)) pe_int) (pa_cons (pe_ix ix_A (pv 0) pe_int (fun _ _ => rfl)) pa_nil))) pa_nil)) (pv 1)))) pss_nil)
      (pss_one (ps_asg (pv 2) (pg_sub (pv 0) pe_int set_list)))))) pss_nil)
      (pss_cons (ps_if (pt_cmpR op_gt (pe_ix ix_A (pv 0) pe_int (fun _ _ => rfl)) pe_int (nomark _)) (pss_cons (ps_set (i := 3) sc__law_take.nd rfl (Or.inl rfl) (pe_ix ix_A (pv 0) pe_int (fun _ _ => rfl)))
      (pss_cons (ps_asg (pe_op op_fdiv (pe_callTy call_int1 rfl T.m_int bt_int (pa_cons (pv 3) pa_nil)) (pv 1)) (pg_sub (pv 0) pe_int set_list))
      (pss_one (ps_ret (pe_op op_mod (pe_callTy call_int1 rfl T.m_int bt_int (pa_cons (pv 3) pa_nil)) (pv 1)))))) pss_nil)
      (pss_cons (ps_asg (pe_op op_mod (pe_callTy call_int1 rfl T.m_int bt_int (pa_cons (pe_op op_addA (pe_ix ix_A (pv 0) pe_int (fun _ _ => rfl)) pe_int) pa_nil)) pe_int) (pg_sub (pv 0) pe_int set_list))
      (pss_one (ps_ret (pe_op op_mod (pe_callTy call_int1 rfl T.m_int bt_int (pa_cons (pe_f F__law_mixed T.c__law_mixed (hr.mono (by omega)) (px rfl rfl rfl rfl) (pa_cons (pe_ix ix_A (pv 0) pe_int (fun _ _ => rfl)) (pa_cons (pe_ix ix_A (pv 0) pe_int (fun _ _ => rfl)) pa_nil))) pa_nil)) (pv 1))))))), ?_⟩
    have mixed : ∀ {σ : L2.St} {H1 : Hp} {ta tb : TE} {a b : Int} {Q : VK} {E : XK}, Ev ta σ H1 (.int a) → Ev tb σ H1 (.int b) → (∀ (c : Int) H2, Ex H1 H2 → Q (.int c) H2) → tCall (spMixed K) [] E (tCons ta (tCons tb tNil)) σ H1 Q := fun ha hb k =>
      callA (ea_cons ha (ea_cons hb ea_nil)) fun H2 e2 => ⟨_, _, rfl, fun c H3 e3 => k c H3 (e2.trans e3)⟩
    refine ⟨fun σ' H' => XO h H H' ∧ HandAt H' h c ∧ ∃ s2 s3, σ' = [some (.ref h), some (vn m), s2, s3], ?_, fun σ' H' M => ?_⟩
    · refine s_when (b := decide (r = 0) && decide (p < ns.length)) (et_is (et_and (et_test (ev_eq (ev_ixL (ev_var rfl) (ev_c (v := .int 2)) h1 rfl) ev_c rfl)) (fun _ => et_test (ev_lt (ev_ixL (ev_var rfl) (ev_c (v := .int 1)) h1 rfl) (ev_lenL (ev_ixL (ev_var rfl) (ev_c (v := .int 0)) h1 rfl) h2)))) ?_) (fun hb H1 e1 => ?_) (fun hb H1 e1 => ⟨e1.o, ⟨ns, p, r, t, e1 _ _ h1, e1 _ _ h2, h3⟩, none, none, rfl⟩)
      · rw [List.length_map]
        congr 1
        · by_cases z : r = 0
          · subst z; simp
          · rw [decide_eq_false z, decide_eq_false (fun y => z (V.int.inj y))]
        · by_cases z : p < ns.length
          · rw [decide_eq_true z, decide_eq_true (by omega)]
          · rw [decide_eq_false z, decide_eq_false (by omega)]
      · have hp : p < ns.length := by
          have q := (Bool.and_eq_true_iff.mp hb).2
          exact of_decide_eq_true q
        have hc : atI (ns.map V.int) (p : Int) = some (.int ns[p]) := atI_nat (by rw [List.getElem?_map, List.getElem?_eq_getElem hp]; rfl)
        refine q_asg (ev_ixL (ev_ixL (ev_var rfl) (ev_c (v := .int 0)) (e1 _ _ h1) rfl) (ev_ixL (ev_var rfl) (ev_c (v := .int 1)) (e1 _ _ h1) rfl) (e1 _ _ h2) hc) fun H2 e2 => ?_
        have e12 := e1.trans e2
        refine q_setL (v := vn (p + 1)) (j := 1) (e12 _ _ h1) (ev_add (i := (p : Int)) (j := 1) (ev_ixL (ev_var rfl) (ev_c (v := .int 1)) (e12 _ _ h1) rfl) ev_c) (ev_var rfl) (ev_c (v := .int 1)) (by show 1 < 4; decide) fun H3 e3 => ?_
        have e13 := e12.trans e3
        have x3 : XO h H (upd H3 h (.lst [.ref c, vn (p + 1), .int r, .int t])) := e13.o.trans XO.upd
        have hc3 : (upd H3 h (.lst [.ref c, vn (p + 1), .int r, .int t])) c = some (.lst (ns.map V.int)) := by rw [upd_ne h3]; exact e13 _ _ h2
        refine s_when (b := decide (ns[p] < 10 ^ 18)) (et_test (ev_lt (ev_var rfl) (ev_op ev_c ev_c (rv_I (C := CPow) (g := fun i j => .int (i ^ j.toNat)) (i := 10) (j := 18) ⟨by decide, by decide, by decide⟩)))) (fun hb2 H4 e4 => ?_) (fun hb2 H4 e4 => ?_)
        · refine mixed (ev_mod (ev_int (ev_var rfl)) ev_c (by decide)) (ev_ixL (ev_var rfl) (ev_c (v := .int 1)) (e4 _ _ upd_same) rfl) fun c2 H5 e5 => ?_
          refine .inl ⟨c2, rfl, ?_⟩
          refine ⟨_, rfl, c2, (m : Int), rfl, rfl, by omega, ?_⟩
          obtain ⟨rr, er, lt⟩ := mod_nat c2 hm
          show Q (.int (c2 % (m : Int))) H5
          rw [er]
          have e45 := e4.trans e5
          exact k H5 rr (x3.trans e45.o) ⟨ns, p + 1, r, t, e45 _ _ upd_same, e45 _ _ hc3, h3⟩ lt
        · refine s_setL (v := .int ns[p]) (j := 2) (e4 _ _ upd_same) (ev_var rfl) (ev_var rfl) (ev_c (v := .int 2)) (by show 2 < 4; decide) fun H5 e5 => ?_
          have e45 := e4.trans e5
          exact ⟨(x3.trans e45.o).trans XO.upd, ⟨ns, p + 1, ns[p], t, upd_same, by rw [upd_ne h3]; exact e45 _ _ hc3, h3⟩, _, none, rfl⟩
    · obtain ⟨x1, ⟨ns, p, r, t, h1, h2, h3⟩, s2, s3, rfl⟩ := M
      refine q_when (b := decide (0 < r)) (et_test (ev_gt (ev_ixL (ev_var rfl) (ev_c (v := .int 2)) h1 rfl) ev_c)) (fun hb H2 e2 => ?_) (fun hb H2 e2 => ?_)
      · refine q_asg (ev_ixL (ev_var rfl) (ev_c (v := .int 2)) (e2 _ _ h1) rfl) fun H3 e3 => ?_
        have e23 := e2.trans e3
        refine q_setL (v := .int (r / (m : Int))) (j := 2) (e23 _ _ h1) (ev_fdiv (ev_int (ev_var rfl)) (ev_var rfl) ⟨by omega, by omega⟩) (ev_var rfl) (ev_c (v := .int 2)) (by show 2 < 4; decide) fun H4 e4 => ?_
        have e24 := e23.trans e4
        obtain ⟨rr, er, lt⟩ := mod_nat r hm
        refine s_ret (v := vn rr) (ev_is (ev_mod (ev_int (ev_var rfl)) (ev_var rfl) (by omega)) (congrArg V.int er)) fun H5 e5 => ?_
        exact k H5 rr (((x1.trans e24.o).trans XO.upd).trans e5.o) ⟨ns, p, r / (m : Int), t, e5 _ _ upd_same, e5 _ _ (by rw [upd_ne h3]; exact e24 _ _ h2), h3⟩ lt
      · refine q_setL (v := .int ((t + 1) % 2147483549)) (j := 3) (e2 _ _ h1) (ev_mod (ev_int (ev_add (ev_ixL (ev_var rfl) (ev_c (v := .int 3)) (e2 _ _ h1) rfl) ev_c)) ev_c (by decide)) (ev_var rfl) (ev_c (v := .int 3)) (by show 3 < 4; decide) fun H3 e3 => ?_
        have e23 := e2.trans e3
        refine mixed (ev_ixL (ev_var rfl) (ev_c (v := .int 3)) upd_same rfl) (ev_ixL (ev_var rfl) (ev_c (v := .int 1)) upd_same rfl) fun c2 H5 e5 => ?_
        refine .inl ⟨c2, rfl, ?_⟩
        refine ⟨_, rfl, c2, (m : Int), rfl, rfl, by omega, ?_⟩
        obtain ⟨rr, er, lt⟩ := mod_nat c2 hm
        show Q (.int (c2 % (m : Int))) H5
        rw [er]
        exact k H5 rr (((x1.trans e23.o).trans XO.upd).trans e5.o) ⟨ns, p, r, (t + 1) % 2147483549, e5 _ _ upd_same, e5 _ _ (by rw [upd_ne h3]; exact e23 _ _ h2), h3⟩ lt
/-- a draw -/
theorem take_at {σ : L2.St} {H : Hp} {Q : VK} {E : XK} {i m : Nat} {h c : Addr} {tm : TE} (h0 : σ[i]? = some (some (.ref h))) (hm : Ev tm σ H (vn m)) (h1 : 0 < m) (h2 : m ≤ 100000) (hH : HandAt H h c) (k : ∀ H2 r, XO h H H2 → HandAt H2 h c → r < m → Q (vn r) H2) :
    tCall (spTake K) [] E (tCons (tVar i) (tCons tm tNil)) σ H Q := callA (ea_cons (ev_var h0) (ea_cons hm ea_nil)) fun H1 e1 => ⟨h, c, m, rfl, h1, h2, hH.mono e1, fun H2 r x hh lt => k H2 r (e1.o.trans x) hh lt⟩
def spHand (K : PySem.W.Frag) : Sp := fun vs H Q _ => ∃ (a : Addr) (ns : List Int), vs = [.ref a] ∧ SqL K H a (ns.map V.int) ∧ ns.length ≤ 63 ∧ ∀ h c H2, Ex H H2 → HandAt H2 h c → H h = none → Q (.ref h) H2
theorem ok__law_hand (T : Txt w K mg) : Fok P w K mg base 1 (a__law_hand K) P__law_hand (spHand K) := by
  refine fok T.f__law_hand sc__law_hand (fun _ _ _ _ _ _ us hl => match us, hl with | [_], _ => rfl) (fun vs H Q E h => ?_) (fun cdv A outer s H vs Q E hr h => ?_)
  · obtain ⟨a, ns, rfl, _⟩ := h
    rfl
  · obtain ⟨a, ns, rfl, ha, hz, k⟩ := h
    refine ⟨_, (pss_cons (ps_set (i := 1) sc__law_hand.nd rfl (Or.inl rfl) (pe_op op_addA (pe_callB call_len_seq rfl T.m_len bt_len (pa_cons (pv 0) pa_nil)) pe_int))
      (pss_cons (ps_set (i := 2) sc__law_hand.nd rfl (Or.inl rfl) (pe_lst pa_nil))
      (pss_cons (ps_for (passes_of rfl) rfl (pi_A (pv 0)) (pg_name (i := 3) sc__law_hand.nd rfl (Or.inl rfl)) (pss_cons (ps_set (i := 1) sc__law_hand.nd rfl (Or.inl rfl) (pe_op op_mod (pe_callTy call_int1 rfl T.m_int bt_int (pa_cons (pe_op op_addA (pe_op op_mul (pv 1) pe_int) (pe_callTy call_int1 rfl T.m_int bt_int (pa_cons (pv 3) pa_nil))) pa_nil)) pe_int))
      (pss_one (ps_expr (pe_bm PySem.F.plainAttrs_list PySem.F.slot_list_append PySem.F.type_list_append mt_append (pv 2) (pa_cons (pe_callB call_abs rfl T.m_abs bt_abs (pa_cons (pe_callTy call_int1 rfl T.m_int bt_int (pa_cons (pv 3) pa_nil)) pa_nil)) pa_nil))))))
      (pss_one (ps_ret (pe_lst (pa_cons (pv 2) (pa_cons pe_int (pa_cons pe_int (pa_cons (pv 1) pa_nil)))))))))), ?_⟩
    refine q_asg (v := .int ((ns.map V.int).length + 41)) (ev_add (i := ((ns.map V.int).length : Int)) (fun H1 e Q q => ⟨_, rfl, a, _, rfl, .inl (ex_l e ha), q H1 (Ex.refl H1)⟩) ev_c) fun H1 e1 => ?_
    refine ⟨Nat.zero_le _, fun C hC => ?_⟩
    have hC0 := fresh_back e1 hC
    refine .inl ⟨_, rfl, a, rfl, ⟨_, ex_l (e1.trans (Ex.new hC)) ha⟩, for_it walk_list (fun i σ' H' => XO C H H' ∧ (∃ cs : List Int, cs.length = i ∧ H' C = some (.lst (cs.map V.int))) ∧ ∃ (t : Int) (s3 : Option V), σ' = [some (.ref a), some (.int t), some (.ref C), s3])
      ⟨(e1.trans (Ex.new hC)).o, ⟨[], rfl, upd_same⟩, _, none, rfl⟩ (fun i σ' H' _ p => ex_l (fun b o q => p.1 b o (ne_of_none q hC0) q) ha) (fun i x σ' H' H'' hi p y => ?_) (fun σ' H' p => ?_)⟩
    · obtain ⟨rfl, hy⟩ := y
      obtain ⟨x1, ⟨cs, el, hcs⟩, t, s3, rfl⟩ := p
      rw [List.getElem?_map] at hy
      obtain ⟨n, hn, rfl⟩ := Option.map_eq_some_iff.mp hy
      refine q_asg (ev_mod (ev_int (ev_add (ev_mul (ev_var rfl) ev_c (.inr ⟨by decide, by decide⟩)) (ev_int (ev_var rfl)))) ev_c (by decide)) fun H3 e3 => ?_
      refine ⟨_, rfl, .inl ⟨rfl, _, .inl (.inl (e3 _ _ hcs))⟩, _, rfl, .inl ⟨n, rfl, n, rfl, C, _, _, rfl, rfl, e3 _ _ hcs, sz_lt (by rw [List.length_map, el]; rw [List.length_map] at hi; omega), (x1.trans e3.o).trans XO.upd, ⟨cs ++ [if n < 0 then -n else n], by rw [List.length_append, el]; rfl, ?_⟩, _, _, rfl⟩⟩
      rw [upd_same, List.map_append]
      rfl
    · obtain ⟨x1, ⟨cs, el, hcs⟩, t, s3, rfl⟩ := p
      refine ⟨_, rfl, _, rfl, by show 4 ≤ sizeLine; decide, fun h hh => ?_⟩
      have ex : Ex H H' := fun b o q => x1 b o (ne_of_none q hC0) q
      have hne : C ≠ h := ne_of_none hcs hh
      exact k h C _ (ex.trans (Ex.new hh)) ⟨cs, 0, 0, t, upd_same, by rw [upd_ne hne]; exact hcs, hne⟩ (fresh_back ex hh)
def spStands (_ : PySem.W.Frag) : Sp := fun vs H Q _ => ∃ h c, vs = [.ref h] ∧ HandAt H h c ∧ ∀ H2 v, XO h H H2 → HandAt H2 h c → Vok v → Q (vn v) H2
theorem ok__law_stands (T : Txt w K mg) : Fok P w K mg base 3 (a__law_stands K) P__law_stands (spStands K) := by
  have F__law_take := ok__law_take (P := P) (base := base) T
  refine fok T.f__law_stands sc__law_stands (fun _ _ _ _ _ _ us hl => match us, hl with | [_], _ => rfl) (fun vs H Q E h => ?_) (fun cdv A outer s H vs Q E hr h => ?_)
  · obtain ⟨h, c, rfl, _⟩ := h
    rfl
  · obtain ⟨h, c, rfl, hh, k⟩ := h
    refine ⟨_, (pss_one (ps_ret (pe_ix ix_A (pe_tup (pa_cons pe_int (pa_cons pe_int (pa_cons pe_int (pa_cons pe_int (pa_cons pe_int (pa_cons pe_int (pa_cons pe_int (pa_cons pe_int (pa_cons pe_int (pa_cons pe_int (pa_cons pe_int (pa_cons pe_int (pa_cons pe_int (pa_cons pe_int (pa_cons pe_int (pa_cons pe_int pa_nil))))))))))))))))) (pe_f F__law_take T.c__law_take (hr.mono (by omega)) (px rfl rfl rfl rfl) (pa_cons (pv 0) (pa_cons pe_int pa_nil))) (fun _ _ => rfl)))), ?_⟩
    refine ⟨by show 16 ≤ sizeLine; decide, fun t ht => ?_⟩
    have e1 : Ex H (upd H t (.tup (([3, 4, 3, 4, 3, 4, 3, 4, 2, 2, 5, 5, 6, 6, 3, 1] : List Nat).map vn))) := Ex.new ht
    refine take_at (m := 16) rfl ev_c (by decide) (by decide) (hh.mono e1) fun H2 r x2 hh2 lt => ?_
    have nth : t ≠ h := fun z => by
      subst z
      obtain ⟨_, _, _, _, q, _⟩ := hh
      rw [q] at ht
      cases ht
    have ht2 : H2 t = some (.tup (([3, 4, 3, 4, 3, 4, 3, 4, 2, 2, 5, 5, 6, 6, 3, 1] : List Nat).map vn)) := x2 _ _ nth upd_same
    refine .inr ⟨t, _, (r : Int), _, rfl, rfl, st_of ht2, at_map (by show r < 16; exact lt), ?_⟩
    refine k H2 _ (e1.o.trans x2) hh2 ?_
    have q : ∀ v ∈ ([3, 4, 3, 4, 3, 4, 3, 4, 2, 2, 5, 5, 6, 6, 3, 1] : List Nat), Vok v := by decide
    exact q _ (getD_mem (by show r < 16; exact lt))
end
end TA
end
/-! TaL2 -/
section
set_option Elab.async false
set_option linter.all false
set_option autoImplicit false
set_option maxRecDepth 100000
set_option maxHeartbeats 4000000
namespace TA
open PySem PySem.Spec PyProof.Rows L2 Evl
section
variable {P : Program} {w : World} {K : PySem.W.Frag} {mg : Str → Option Value} {base : Heap}
/-! ### the law's own lots -/
def spEvery (_ : PySem.W.Frag) : Sp := fun vs H Q _ => ∃ v : Nat, vs = [vn v] ∧ Vok v ∧ RetV (vn (2 ^ v - 1)) H Q
theorem ok__law_every (T : Txt w K mg) : Fok P w K mg base 1 (a__law_every K) P__law_every (spEvery K) := by
  refine fok T.f__law_every sc__law_every (fun _ _ _ _ _ _ us hl => match us, hl with | [_], _ => rfl) (fun vs H Q E h => ?_) (fun cdv A outer s H vs Q E hr h => ?_)
  · obtain ⟨v, rfl, _⟩ := h
    rfl
  · obtain ⟨v, rfl, hv, k⟩ := h
    refine ⟨_, (pss_one (ps_ret (pe_op op_sub (pe_op op_shl pe_int (pv 0)) pe_int))), ?_⟩
    have vp := Nat.two_pow_pos v
    exact s_ret (v := vn (2 ^ v - 1)) (ev_is (ev_sub (i := ((1 <<< v : Nat) : Int)) (j := 1) (ev_shl (a := 1) ev_c (ev_var rfl) (by decide) (by have := hv.2; omega)) ev_c) (by rw [Nat.shiftLeft_eq, Nat.one_mul]; congr 1; omega)) k
theorem sv_every {H : Hp} {v : Nat} (h : Vok v) : SpV (spEvery K) [vn v] H (vn (2 ^ v - 1)) := fun H1 e Q q E => ⟨v, rfl, h, q⟩
def spWithin (_ : PySem.W.Frag) : Sp := fun vs H Q _ => ∃ a b : Nat, vs = [vn a, vn b] ∧ RetV (.bl (decide (a &&& b = a))) H Q
theorem ok__law_within (T : Txt w K mg) : Fok P w K mg base 1 (a__law_within K) P__law_within (spWithin K) := by
  refine fok T.f__law_within sc__law_within (fun _ _ _ _ _ _ us hl => match us, hl with | [_, _], _ => rfl) (fun vs H Q E h => ?_) (fun cdv A outer s H vs Q E hr h => ?_)
  · obtain ⟨a, b, rfl, _⟩ := h
    rfl
  · obtain ⟨a, b, rfl, k⟩ := h
    have H64 := hr.units
    refine ⟨_, (pss_one (ps_ret (pe_cmpR (op_eqA H64) (pe_op op_and (pv 0) (pv 1)) (pv 0) (nomark _)))), ?_⟩
    exact s_ret (ev_eqN (ev_and (ev_var rfl) (ev_var rfl)) (ev_var rfl)) k
theorem sv_within {H : Hp} {a b : Nat} : SpV (spWithin K) [vn a, vn b] H (.bl (decide (a &&& b = a))) := fun H1 e Q q E => ⟨a, b, rfl, q⟩
/-- a list of lots -/
def LstN (H : Hp) (a : Addr) (ns : List Nat) : Prop := H a = some (.lst (ns.map vn))
def spLRound (_ : PySem.W.Frag) : Sp := fun vs H Q _ => ∃ (a : Addr) (ms : List Nat) (lot : Nat), vs = [.ref a, vn lot] ∧ LstN H a ms ∧ ms ≠ [] ∧ RetV (vn (roundN ms lot)) H Q
theorem ok__law_rounded (T : Txt w K mg) : Fok P w K mg base 1 (a__law_rounded K) P__law_rounded (spLRound K) := by
  refine fok T.f__law_rounded sc__law_rounded (fun _ _ _ _ _ _ us hl => match us, hl with | [_, _], _ => rfl) (fun vs H Q E h => ?_) (fun cdv A outer s H vs Q E hr h => ?_)
  · obtain ⟨a, ms, lot, rfl, _⟩ := h
    rfl
  · obtain ⟨a, ms, lot, rfl, ha, hm, k⟩ := h
    have H64 := hr.units
    refine ⟨_, (pss_cons (ps_set (i := 2) sc__law_rounded.nd rfl (Or.inl rfl) (pe_ix ix_A (pv 0) (pe_un un_neg pe_int) (fun _ _ => rfl)))
      (pss_cons (ps_for (passes_of rfl) rfl (pi_A (pv 0)) (pg_name (i := 3) sc__law_rounded.nd rfl (Or.inl rfl)) (pss_one (ps_if (pt_cmpR (op_eqA H64) (pe_op op_and (pv 1) (pv 3)) (pv 1) (nomark _)) (pss_one (ps_set (i := 2) sc__law_rounded.nd rfl (Or.inl rfl) (pe_op op_and (pv 2) (pv 3)))) pss_nil)))
      (pss_one (ps_ret (pv 2))))), ?_⟩
    refine q_asg (ev_ixL (ev_var rfl) (ev_neg (ev_c (v := .int 1))) ha (getLastD_at hm)) fun H2 e2 => ?_
    refine q_of (s_lstA (g := gName 3) (ev_var rfl) (e2 _ _ ha) (fun i σ' H' => Ex H H' ∧ ∃ s3, σ' = [some (.ref a), some (vn lot), some (vn (rndTo ms lot i)), s3]) (fun H3 e3 => ⟨e2.trans e3, none, rfl⟩) (fun i σ' H' _ p => p.1 _ _ ha) (fun i x σ' H' hx p => ?_) fun σ' H' p => ?_)
    · obtain ⟨e3, s3, rfl⟩ := p
      obtain ⟨lt, rfl⟩ := map_at hx
      refine s_when (et_test (ev_eqN (ev_and (ev_var rfl) (ev_var rfl)) (ev_var rfl))) (fun hb H3 e4 => ?_) (fun hb H3 e4 => ?_)
      · refine s_asg (ev_and (ev_var rfl) (ev_var rfl)) fun H4 e5 => ⟨(e3.trans e4).trans e5, some (vn (ms.getD i 0)), ?_⟩
        rw [rndTo_yes (of_decide_eq_true hb)] <;> rfl
      · refine ⟨e3.trans e4, some (vn (ms.getD i 0)), ?_⟩
        rw [rndTo_no (of_decide_eq_false hb)] <;> rfl
    · obtain ⟨e3, s3, rfl⟩ := p
      rw [List.length_map]
      exact s_ret (ev_var rfl) fun H4 e4 => k H4 (e3.trans e4)
theorem sv_lround {H : Hp} {a : Addr} {ms : List Nat} {lot : Nat} (h : LstN H a ms) (hm : ms ≠ []) : SpV (spLRound K) [.ref a, vn lot] H (vn (roundN ms lot)) := fun H1 e Q q E => ⟨a, ms, lot, rfl, e _ _ h, hm, q⟩
def spLNext (_ : PySem.W.Frag) : Sp := fun vs H Q _ => ∃ (a : Addr) (rs : List Nat) (lot : Nat), vs = [.ref a, vn lot] ∧ LstN H a rs ∧ rs.length ≤ 6 ∧ RetV (vn (nextN rs lot)) H Q
theorem ok__law_next (T : Txt w K mg) : Fok P w K mg base 1 (a__law_next K) P__law_next (spLNext K) := by
  refine fok T.f__law_next sc__law_next (fun _ _ _ _ _ _ us hl => match us, hl with | [_, _], _ => rfl) (fun vs H Q E h => ?_) (fun cdv A outer s H vs Q E hr h => ?_)
  · obtain ⟨a, rs, lot, rfl, _⟩ := h
    rfl
  · obtain ⟨a, rs, lot, rfl, ha, hz, k⟩ := h
    have H64 := hr.units
    refine ⟨_, (pss_cons (ps_set (i := 2) sc__law_next.nd rfl (Or.inl rfl) pe_int)
      (pss_cons (ps_for (passes_of rfl) rfl (pi_range1 rfl T.m_range (pa_cons (pe_callB call_len_seq rfl T.m_len bt_len (pa_cons (pv 0) pa_nil)) pa_nil)) (pg_name (i := 3) sc__law_next.nd rfl (Or.inl rfl)) (pss_one (ps_if (pt_cmpR (op_eqA H64) (pe_op op_mod (pe_callTy call_int1 rfl T.m_int bt_int (pa_cons (pe_op op_shr (pv 1) (pv 3)) pa_nil)) pe_int) pe_int (nomark _)) (pss_one (ps_set (i := 2) sc__law_next.nd rfl (Or.inl rfl) (pe_op op_or (pv 2) (pe_ix ix_A (pv 0) (pv 3) (fun _ _ => rfl))))) pss_nil)))
      (pss_one (ps_ret (pv 2))))), ?_⟩
    refine q_asg ev_c fun H1 e1 => ?_
    refine q_forR1 (n := ((rs.map vn).length : Int)) (ea_cons (ev_lenL (ev_var rfl) (e1 _ _ ha)) ea_nil) (by rw [List.length_map]; omega) (fun i σ' H' => Ex H H' ∧ ∃ s3, σ' = [some (.ref a), some (vn lot), some (vn (nextTo rs lot i)), s3]) (fun H2 e2 => ⟨e1.trans e2, none, rfl⟩) (fun i σ' H' hi p => ?_) (fun σ' H' p => ?_)
    · obtain ⟨e3, s3, rfl⟩ := p
      rw [List.length_map] at hi
      have lt : i < rs.length := by omega
      refine s_when (b := decide (lot >>> i &&& 1 = 1)) (et_is (et_test (ev_eqN (a := (lot >>> i) % 2) (b := 1) (ev_is (ev_mod (i := ((lot >>> i : Nat) : Int)) (j := 2) (ev_int (ev_shr (ev_var rfl) (ev_var rfl))) ev_c (by decide)) (congrArg V.int (by push_cast; rfl))) ev_c)) (by rw [Nat.and_one_is_mod])) (fun hb H3 e4 => ?_) (fun hb H3 e4 => ?_)
      · refine s_asg (ev_or (ev_var rfl) (ev_ixL (ev_var rfl) (ev_var rfl) ((e3.trans e4) _ _ ha) (at_map lt))) fun H4 e5 => ⟨(e3.trans e4).trans e5, some (vn i), ?_⟩
        rw [nextTo_yes (of_decide_eq_true hb)] <;> rfl
      · refine ⟨e3.trans e4, some (vn i), ?_⟩
        rw [nextTo_no (of_decide_eq_false hb)] <;> rfl
    · obtain ⟨e3, s3, rfl⟩ := p
      rw [Int.toNat_natCast, List.length_map]
      exact s_ret (ev_var rfl) fun H4 e4 => k H4 (e3.trans e4)
theorem sv_lnext {H : Hp} {a : Addr} {rs : List Nat} {lot : Nat} (h : LstN H a rs) (hz : rs.length ≤ 6) : SpV (spLNext K) [.ref a, vn lot] H (vn (nextN rs lot)) := fun H1 e Q q E => ⟨a, rs, lot, rfl, e _ _ h, hz, q⟩
/-- back: some lot -/
def backTo (rs : List Nat) (lot : Nat) : Nat → Nat
  | 0 => 0
  | i + 1 => if rs.getD i 0 &&& lot = rs.getD i 0 then backTo rs lot i ||| 2 ^ i else backTo rs lot i
theorem backTo_lt (rs : List Nat) (lot : Nat) : ∀ i, backTo rs lot i < 2 ^ i
  | 0 => Nat.one_pos
  | i + 1 => by
    have ih := backTo_lt rs lot i
    have h1 : (2 : Nat) ^ i < 2 ^ (i + 1) := Nat.pow_lt_pow_right (by decide) (Nat.lt_succ_self i)
    unfold backTo
    split
    · exact Nat.or_lt_two_pow (Nat.lt_trans ih h1) h1
    · exact Nat.lt_trans ih h1
def spLBack (_ : PySem.W.Frag) : Sp := fun vs H Q _ => ∃ (a : Addr) (rs : List Nat) (lot : Nat), vs = [.ref a, vn lot] ∧ LstN H a rs ∧ rs.length ≤ 6 ∧ RetV (vn (backTo rs lot rs.length)) H Q
theorem ok__law_back (T : Txt w K mg) : Fok P w K mg base 1 (a__law_back K) P__law_back (spLBack K) := by
  refine fok T.f__law_back sc__law_back (fun _ _ _ _ _ _ us hl => match us, hl with | [_, _], _ => rfl) (fun vs H Q E h => ?_) (fun cdv A outer s H vs Q E hr h => ?_)
  · obtain ⟨a, rs, lot, rfl, _⟩ := h
    rfl
  · obtain ⟨a, rs, lot, rfl, ha, hz, k⟩ := h
    have H64 := hr.units
    refine ⟨_, (pss_cons (ps_set (i := 2) sc__law_back.nd rfl (Or.inl rfl) pe_int)
      (pss_cons (ps_for (passes_of rfl) rfl (pi_range1 rfl T.m_range (pa_cons (pe_callB call_len_seq rfl T.m_len bt_len (pa_cons (pv 0) pa_nil)) pa_nil)) (pg_name (i := 3) sc__law_back.nd rfl (Or.inl rfl)) (pss_one (ps_if (pt_cmpR (op_eqA H64) (pe_op op_and (pe_ix ix_A (pv 0) (pv 3) (fun _ _ => rfl)) (pv 1)) (pe_ix ix_A (pv 0) (pv 3) (fun _ _ => rfl)) (nomark _)) (pss_one (ps_set (i := 2) sc__law_back.nd rfl (Or.inl rfl) (pe_op op_or (pv 2) (pe_op op_shl pe_int (pv 3))))) pss_nil)))
      (pss_one (ps_ret (pv 2))))), ?_⟩
    refine q_asg ev_c fun H1 e1 => ?_
    refine q_forR1 (n := ((rs.map vn).length : Int)) (ea_cons (ev_lenL (ev_var rfl) (e1 _ _ ha)) ea_nil) (by rw [List.length_map]; omega) (fun i σ' H' => Ex H H' ∧ ∃ s3, σ' = [some (.ref a), some (vn lot), some (vn (backTo rs lot i)), s3]) (fun H2 e2 => ⟨e1.trans e2, none, rfl⟩) (fun i σ' H' hi p => ?_) (fun σ' H' p => ?_)
    · obtain ⟨e3, s3, rfl⟩ := p
      rw [List.length_map] at hi
      have lt : i < rs.length := by omega
      refine s_when (b := decide (rs.getD i 0 &&& lot = rs.getD i 0)) (et_test (ev_eqN (ev_and (ev_ixL (ev_var rfl) (ev_var rfl) (e3 _ _ ha) (at_map lt)) (ev_var rfl)) (ev_ixL (ev_var rfl) (ev_var rfl) (e3 _ _ ha) (at_map lt)))) (fun hb H3 e4 => ?_) (fun hb H3 e4 => ?_)
      · refine s_asg (v := vn (backTo rs lot (i + 1))) (ev_is (ev_or (ev_var rfl) (ev_shl (a := 1) ev_c (ev_var rfl) (by decide) (by omega))) ?_) fun H4 e5 => ⟨(e3.trans e4).trans e5, some (vn i), rfl⟩
        have e : backTo rs lot (i + 1) = backTo rs lot i ||| 2 ^ i := by
          show (if rs.getD i 0 &&& lot = rs.getD i 0 then _ else _) = _
          rw [if_pos (of_decide_eq_true hb)]
        rw [e, Nat.shiftLeft_eq, Nat.one_mul]
      · refine ⟨e3.trans e4, some (vn i), ?_⟩
        have e : backTo rs lot (i + 1) = backTo rs lot i := by
          show (if rs.getD i 0 &&& lot = rs.getD i 0 then _ else _) = _
          rw [if_neg (of_decide_eq_false hb)]
        rw [e] <;> rfl
    · obtain ⟨e3, s3, rfl⟩ := p
      rw [Int.toNat_natCast, List.length_map]
      exact s_ret (ev_var rfl) fun H4 e4 => k H4 (e3.trans e4)
/-! ### drawn lists -/
theorem r_shl1 {H : Hp} {Q : VK} {r : Nat} (hr : r ≤ 1000) (h : Q (vn (2 ^ r)) H) : rI CPow (fun i j => .int (i * 2 ^ j.toNat)) (.int 1) (vn r) H Q := ⟨1, (r : Int), rfl, rfl, ⟨Int.natCast_nonneg r, by omega, by decide⟩, by
  show Q (.int (1 * 2 ^ ((r : Int)).toNat)) H
  have e : (1 : Int) * 2 ^ ((r : Int)).toNat = ((2 ^ r : Nat) : Int) := by rw [Int.toNat_natCast, Int.one_mul]; push_cast; rfl
  rw [e]
  exact h⟩
/-- one item a turn, drawn -/
theorem lc_draw {σ : L2.St} {H : Hp} {Q : VK} {te : TE} {ta : TA} {n b j : Nat} {h c : Addr} {vs : List Nat} (ha : EvA ta σ H [vn n]) (hn : n ≤ 1000) (hH : HandAt H h c) (hw : ∀ x, wipe ((wipe σ vs).set j (some x)) vs = wipe σ vs)
    (he : ∀ i H1, i < n → XO h H H1 → HandAt H1 h c → ∀ Q : VK, (∀ H2 r, XO h H1 H2 → HandAt H2 h c → r < b → Q (vn r) H2) → te ((wipe σ vs).set j (some (vn i))) H1 Q)
    (k : ∀ D H2 (ns : List Nat), XO h H H2 → HandAt H2 h c → H D = none → H2 D = some (.lst (ns.map vn)) → ns.length = n → (∀ x ∈ ns, x < b) → Q (.ref D) H2) : tLc (iRng1 ta) (gName j) tYes te vs σ H Q := by
  obtain ⟨ns0, p0, r0, t0, hh0, hc0, hne0⟩ := id hH
  refine lc_R ha (by omega) (fun D i H' => XO h H H' ∧ HandAt H' h c ∧ H D = none ∧ ∃ ns : List Nat, H' D = some (.lst (ns.map vn)) ∧ ns.length = i ∧ ∀ x ∈ ns, x < b) (fun D H1 e1 hD => ?_) (fun D i H' hi p => ?_) (fun D H' p => ?_)
  · have hD0 := fresh_back e1 hD
    exact ⟨(e1.trans (Ex.new hD)).o, hH.mono (e1.trans (Ex.new hD)), hD0, [], upd_same, rfl, fun x hx => nomatch hx⟩
  · obtain ⟨x1, hh, hD, ns, hns, hl, hb⟩ := p
    have nDh : D ≠ h := fun z => by subst z; rw [hh0] at hD; cases hD
    have nDc : D ≠ c := fun z => by subst z; rw [hc0] at hD; cases hD
    refine ⟨hw _, ?_⟩
    refine yesT ?_
    refine he i H' hi x1 hh _ fun H2 r x2 hh2 hr => ?_
    have hD2 : H2 D = some (.lst (ns.map vn)) := x2 _ _ nDh hns
    obtain ⟨ms, p, r', t, q1, q2, q3⟩ := hh2
    refine ⟨_, hD2, sz_lt (by rw [List.length_map]; omega), fun a o na q => ?_, ⟨ms, p, r', t, by rw [upd_ne nDh.symm]; exact q1, by rw [upd_ne nDc.symm]; exact q2, q3⟩, hD, ns ++ [r], ?_, by rw [List.length_append, hl]; rfl, fun x hx => ?_⟩
    · rw [upd_ne (ne_of_none q hD)]
      exact x2 _ _ na (x1 _ _ na q)
    · rw [upd_same, List.map_append]
      rfl
    · rcases List.mem_append.mp hx with z | z
      · exact hb x z
      · rw [List.mem_singleton.mp z]
        exact hr
  · obtain ⟨x1, hh, hD, ns, hns, hl, hb⟩ := p
    exact k D H' ns x1 hh hD hns hl hb
theorem fresh_xo {h c D : Addr} {H H2 : Hp} (x : XO h H H2) (hh : HandAt H2 h c) (hD : H2 D = none) : H D = none := by
  cases q : H D with
  | none => rfl
  | some o =>
    by_cases z : D = h
    · subst z
      obtain ⟨_, _, _, _, q1, _⟩ := hh
      rw [q1] at hD
      cases hD
    · rw [x _ _ z q] at hD
      cases hD
theorem i_if {σ : L2.St} {H : Hp} {t : TT} {ta tb : TE} {b : Bool} {Q : VK} (h : EvT t σ H b) (h1 : b = true → ∀ H1, Ex H H1 → ta σ H1 Q) (h2 : b = false → ∀ H1, Ex H H1 → tb σ H1 Q) : tIf t ta tb σ H Q := h H (Ex.refl H) _ fun H1 e => by
  cases b with
  | true => exact (if_pos rfl).mpr (h1 rfl H1 e)
  | false => exact (if_neg (by decide)).mpr (h2 rfl H1 e)
/-- a drawn row is given -/
def RetRow (H : Hp) (h c : Addr) (v : Nat) (Q : VK) : Prop := ∀ D H2 row, XO h H H2 → HandAt H2 h c → H D = none → LstN H2 D row → RowOk v row → Q (.ref D) H2
def spDrawnRow (_ : PySem.W.Frag) : Sp := fun vs H Q _ => ∃ (h c : Addr) (v : Nat), vs = [.ref h, vn v] ∧ HandAt H h c ∧ Vok v ∧ RetRow H h c v Q
theorem ok__law_single (T : Txt w K mg) : Fok P w K mg base 3 (a__law_single K) P__law_single (spDrawnRow K) := by
  have F__law_take := ok__law_take (P := P) (base := base) T
  refine fok T.f__law_single sc__law_single (fun _ _ _ _ _ _ us hl => match us, hl with | [_, _], _ => rfl) (fun vs H Q E h => ?_) (fun cdv A outer s H vs Q E hr h => ?_)
  · obtain ⟨h, c, v, rfl, _⟩ := h
    rfl
  · obtain ⟨h, c, v, rfl, hh, hv, k⟩ := h
    refine ⟨_, (pss_one (ps_ret (pe_lc (own := [("_law_s", 2)]) (g := (gName 2)) (tt := tYes) rfl sc__law_single.nd (pi_range1 rfl T.m_range (pa_cons (pv 1) pa_nil)) (blkOk_by (N := N__law_single) (sc := defScope s__law_single) (by decide +kernel)) (fun _ _ _ _ _ => (pg_name (i := 2) sc__law_single.nd rfl (Or.inl rfl))) (fun _ _ _ _ _ => pts_nil) (fun _ _ _ _ _ => (pe_op op_shl pe_int (pe_f F__law_take T.c__law_take (hr.mono (by omega)) passL (pa_cons (pv 0) (pa_cons (pv 1) pa_nil)))))))), ?_⟩
    refine lc_draw (b := 2 ^ v) (ea_cons (ev_var rfl) ea_nil) (by have := hv.2; omega) hh (fun x => rfl) (fun i H1 hi _ hh1 Q' q => ?_) fun D H2 ns x2 hh2 hD hns hl hb => k D H2 ns x2 hh2 hD hns ⟨hl, hb⟩
    exact take_at rfl (ev_var rfl) (by have := hv.1; omega) (by have := hv.2; omega) hh1 fun H2 r x2 hh2 hr => r_shl1 (by have := hv.2; omega) (q H2 _ x2 hh2 (Nat.pow_lt_pow_right (by decide) hr))
theorem ok__law_drawn_row (T : Txt w K mg) : Fok P w K mg base 4 (a__law_drawn_row K) P__law_drawn_row (spDrawnRow K) := by
  have F__law_take := ok__law_take (P := P) (base := base) T
  have F__law_single := ok__law_single (P := P) (base := base) T
  refine fok T.f__law_drawn_row sc__law_drawn_row (fun _ _ _ _ _ _ us hl => match us, hl with | [_, _], _ => rfl) (fun vs H Q E h => ?_) (fun cdv A outer s H vs Q E hr h => ?_)
  · obtain ⟨h, c, v, rfl, _⟩ := h
    rfl
  · obtain ⟨h, c, v, rfl, hh, hv, k⟩ := h
    have H64 := hr.units
    have v1 := hv.1
    have v2 := hv.2
    have vp := Nat.two_pow_pos v
    have v6 : (2 : Nat) ^ v ≤ 64 := Nat.pow_le_pow_right (by decide) hv.2
    have hshl : 1 <<< v = 2 ^ v := by rw [Nat.shiftLeft_eq, Nat.one_mul]
    have ev2 : ∀ {σ : L2.St} {H1 : Hp}, σ[1]? = some (some (vn v)) → Ev (tOp (rI CPow fun i j => .int (i * 2 ^ j.toNat)) (tC (.int 1)) (tVar 1)) σ H1 (vn (2 ^ v)) := fun h1 => ev_is (ev_shl (a := 1) ev_c (ev_var h1) (by decide) (by omega)) (by rw [hshl])
    refine ⟨_, (pss_cons (ps_set (i := 2) sc__law_drawn_row.nd rfl (Or.inl rfl) (pe_f F__law_take T.c__law_take (hr.mono (by omega)) (px rfl rfl rfl rfl) (pa_cons (pv 0) (pa_cons pe_int pa_nil))))
      (pss_cons (ps_if (pt_cmpR op_lt (pv 2) pe_int (nomark _)) (pss_one (ps_ret (pe_f F__law_single T.c__law_single (hr.mono (by omega)) (px rfl rfl rfl rfl) (pa_cons (pv 0) (pa_cons (pv 1) pa_nil))))) pss_nil)
      (pss_cons (ps_if (pt_cmpR (op_eqA H64) (pv 2) pe_int (nomark _)) (pss_cons (ps_set (i := 3) sc__law_drawn_row.nd rfl (Or.inr rfl) (pe_f F__law_take T.c__law_take (hr.mono (by omega)) (px rfl rfl rfl rfl) (pa_cons (pv 0) (pa_cons (pe_op op_shl pe_int (pv 1)) pa_nil))))
      (pss_one (ps_ret (pe_lc (own := [("_law_s", 5)]) (g := (gName 5)) (tt := tYes) rfl sc__law_drawn_row.nd (pi_range1 rfl T.m_range (pa_cons (pv 1) pa_nil)) (blkOk_by (N := N__law_drawn_row) (sc := defScope s__law_drawn_row) (by decide +kernel)) (fun _ _ _ _ _ => (pg_name (i := 5) sc__law_drawn_row.nd rfl (Or.inl rfl))) (fun _ _ _ _ _ => pts_nil) (fun _ _ _ _ _ => (pe_op op_and (pe_op op_shl pe_int (pv 5)) (pv 3))))))) pss_nil)
      (pss_cons (ps_if (pt_cmpR (op_eqA H64) (pv 2) pe_int (nomark _)) (pss_cons (ps_set (i := 4) sc__law_drawn_row.nd rfl (Or.inr rfl) (pe_f F__law_take T.c__law_take (hr.mono (by omega)) (px rfl rfl rfl rfl) (pa_cons (pv 0) (pa_cons (pv 1) pa_nil))))
      (pss_one (ps_ret (pe_lc (own := [("_law_s", 5)]) (g := (gName 5)) (tt := tYes) rfl sc__law_drawn_row.nd (pi_range1 rfl T.m_range (pa_cons (pv 1) pa_nil)) (blkOk_by (N := N__law_drawn_row) (sc := defScope s__law_drawn_row) (by decide +kernel)) (fun _ _ _ _ _ => (pg_name (i := 5) sc__law_drawn_row.nd rfl (Or.inl rfl))) (fun _ _ _ _ _ => pts_nil) (fun _ _ _ _ _ => (pe_op op_shl pe_int (pe_ifExp (pt_cmpR (neK (K := K) rfl H64) (pv 5) (pv 4) (nomark _)) (pv 5) (pe_f F__law_take T.c__law_take (hr.mono (by omega)) passL (pa_cons (pv 0) (pa_cons (pv 1) pa_nil)))))))))) pss_nil)
      (pss_cons (ps_if (pt_cmpR (op_eqA H64) (pv 2) pe_int (nomark _)) (pss_one (ps_ret (pe_lc (own := [("_law_s", 5)]) (g := (gName 5)) (tt := tYes) rfl sc__law_drawn_row.nd (pi_range1 rfl T.m_range (pa_cons (pv 1) pa_nil)) (blkOk_by (N := N__law_drawn_row) (sc := defScope s__law_drawn_row) (by decide +kernel)) (fun _ _ _ _ _ => (pg_name (i := 5) sc__law_drawn_row.nd rfl (Or.inl rfl))) (fun _ _ _ _ _ => pts_nil) (fun _ _ _ _ _ => (pe_ifExp (trK (K := K) rfl (pe_f F__law_take T.c__law_take (hr.mono (by omega)) passL (pa_cons (pv 0) (pa_cons pe_int pa_nil))) (fun _ => rfl)) (pe_op op_shl pe_int (pe_f F__law_take T.c__law_take (hr.mono (by omega)) passL (pa_cons (pv 0) (pa_cons (pv 1) pa_nil)))) pe_int))))) pss_nil)
      (pss_one (ps_ret (pe_lc (own := [("_law_s", 5)]) (g := (gName 5)) (tt := tYes) rfl sc__law_drawn_row.nd (pi_range1 rfl T.m_range (pa_cons (pv 1) pa_nil)) (blkOk_by (N := N__law_drawn_row) (sc := defScope s__law_drawn_row) (by decide +kernel)) (fun _ _ _ _ _ => (pg_name (i := 5) sc__law_drawn_row.nd rfl (Or.inl rfl))) (fun _ _ _ _ _ => pts_nil) (fun _ _ _ _ _ => (pe_f F__law_take T.c__law_take (hr.mono (by omega)) passL (pa_cons (pv 0) (pa_cons (pe_op op_shl pe_int (pv 1)) pa_nil)))))))))))), ?_⟩
    refine take_at (m := 8) rfl ev_c (by decide) (by decide) hh fun H1 way x1 hh1 _ => ?_
    have kr : ∀ {H2 : Hp}, XO h H H2 → HandAt H2 h c → RetRow H2 h c v Q := fun x2 h2 D H3 row x3 hh3 hD hr ho => k D H3 row (x2.trans x3) hh3 (fresh_xo x2 h2 hD) hr ho
    have pw : ∀ {r : Nat}, r < v → (2 : Nat) ^ r < 2 ^ v := fun h => Nat.pow_lt_pow_right (by decide) h
    have sh1 : ∀ {r : Nat}, 1 <<< r = 2 ^ r := by intro r; rw [Nat.shiftLeft_eq, Nat.one_mul]
    have fin : ∀ {H2 : Hp} {D : Addr} {H3 : Hp} {ns : List Nat}, XO h H H2 → HandAt H2 h c → XO h H2 H3 → HandAt H3 h c → H2 D = none → H3 D = some (.lst (ns.map vn)) → ns.length = v → (∀ x ∈ ns, x < 2 ^ v) → Q (.ref D) H3 := fun x2 h2 x3 h3 hD hns hl hb => kr x2 h2 _ _ _ x3 h3 hD hns ⟨hl, hb⟩
    refine q_when (et_test (ev_lt (i := (way : Int)) (j := 3) (ev_var rfl) ev_c)) (fun hb H2 e2 => ?_) (fun hb H2 e2 => ?_)
    · refine callA (ea_cons (ev_var rfl) (ea_cons (ev_var rfl) ea_nil)) fun H3 e3 => ?_
      have x3 := x1.trans (e2.trans e3).o
      exact ⟨h, c, v, rfl, hh1.mono (e2.trans e3), hv, kr x3 (hh1.mono (e2.trans e3))⟩
    have x2 := x1.trans e2.o
    have hh2 := hh1.mono e2
    refine q_when (et_test (ev_eqN (a := way) (b := 3) (ev_var rfl) ev_c)) (fun hb H3 e3 => ?_) (fun hb H3 e3 => ?_)
    · refine take_at (m := 2 ^ v) rfl (ev2 rfl) vp (by omega) (hh2.mono e3) fun H4 kept x4 hh4 hk => ?_
      have x24 := (x2.trans e3.o).trans x4
      refine lc_draw (b := 2 ^ v) (ea_cons (ev_var rfl) ea_nil) (by omega) hh4 (fun x => rfl) (fun i H5 hi _ hh5 Q' q => ?_) fun D H5 ns x5 hh5 hD hns hl hb => fin x24 hh4 x5 hh5 hD hns hl hb
      exact (ev_and (ev_shl (a := 1) ev_c (ev_var rfl) (by decide) (by omega)) (ev_var rfl)) H5 (Ex.refl H5) _ fun H6 e6 => q H6 _ e6.o (hh5.mono e6) (Nat.and_lt_two_pow _ hk)
    have x3 := x2.trans e3.o
    have hh3 := hh2.mono e3
    refine q_when (et_test (ev_eqN (a := way) (b := 4) (ev_var rfl) ev_c)) (fun hb H4 e4 => ?_) (fun hb H4 e4 => ?_)
    · refine take_at (m := v) rfl (ev_var rfl) (by omega) (by omega) (hh3.mono e4) fun H5 one x5 hh5 hk => ?_
      have x35 := (x3.trans e4.o).trans x5
      refine lc_draw (b := 2 ^ v) (ea_cons (ev_var rfl) ea_nil) (by omega) hh5 (fun x => rfl) (fun i H6 hi _ hh6 Q' q => ?_) fun D H6 ns x6 hh6 hD hns hl hb => fin x35 hh5 x6 hh6 hD hns hl hb
      refine i_if (et_test (ev_neN (a := i) (b := one) (ev_var rfl) (ev_var rfl))) (fun hb H7 e7 => ?_) (fun hb H7 e7 => ?_)
      · exact (ev_var (v := vn i) rfl) H7 (Ex.refl H7) _ fun H8 e8 => r_shl1 (by omega) (q H8 _ (e7.trans e8).o (hh6.mono (e7.trans e8)) (pw hi))
      · exact take_at rfl (ev_var rfl) (by omega) (by omega) (hh6.mono e7) fun H8 r x8 hh8 hr => r_shl1 (by omega) (q H8 _ (e7.o.trans x8) hh8 (pw hr))
    have x4 := x3.trans e4.o
    have hh4 := hh3.mono e4
    refine q_when (et_test (ev_eqN (a := way) (b := 5) (ev_var rfl) ev_c)) (fun hb H5 e5 => ?_) (fun hb H5 e5 => ?_)
    · have x5 := x4.trans e5.o
      refine lc_draw (b := 2 ^ v) (ea_cons (ev_var rfl) ea_nil) (by omega) (hh4.mono e5) (fun x => rfl) (fun i H6 hi _ hh6 Q' q => ?_) fun D H6 ns x6 hh6 hD hns hl hb => fin x5 (hh4.mono e5) x6 hh6 hD hns hl hb
      refine take_at (m := 3) rfl ev_c (by decide) (by decide) hh6 fun H7 r x7 hh7 _ => ⟨_, rfl, ?_⟩
      by_cases z : ((r : Int) != 0) = true
      · refine (if_pos z).mpr ?_
        exact take_at rfl (ev_var rfl) (by omega) (by omega) hh7 fun H8 r2 x8 hh8 hr => r_shl1 (by omega) (q H8 _ (x7.trans x8) hh8 (pw hr))
      · refine (if_neg z).mpr ?_
        exact q H7 0 x7 hh7 vp
    have x5 := x4.trans e5.o
    refine lc_draw (b := 2 ^ v) (ea_cons (ev_var rfl) ea_nil) (by omega) (hh4.mono e5) (fun x => rfl) (fun i H6 hi _ hh6 Q' q => ?_) fun D H6 ns x6 hh6 hD hns hl hb => fin x5 (hh4.mono e5) x6 hh6 hD hns hl hb
    exact take_at rfl (ev2 rfl) vp (by omega) hh6 fun H8 r x8 hh8 hr => q H8 _ x8 hh8 hr
end
end TA
end
/-! TaL3 -/
section
set_option Elab.async false
set_option linter.all false
set_option autoImplicit false
set_option maxRecDepth 100000
set_option maxHeartbeats 4000000
namespace TA
open PySem PySem.Spec PyProof.Rows L2 Evl
/-! ### met: the plain part -/
/-- the keys of a dict of ints -/
def KsAt (H : Hp) (d : Addr) (ks : List Nat) : Prop := ∃ kvs : List (Key × V), H d = some (.dK kvs) ∧ kvs.map (·.1) = ks.map fun n : Nat => (Sum.inl (n : Int) : Key)
structure KsOk (v : Nat) (ks : List Nat) : Prop where
  nd : ks.Nodup
  top : 2 ^ v - 1 ∈ ks
  lt : ∀ x ∈ ks, x < 2 ^ v
  meet : ∀ x ∈ ks, ∀ y ∈ ks, x &&& y ∈ ks
structure KsMid (lot : Nat) (k0 : List Nat) (i : Nat) (ks : List Nat) : Prop where
  nd : ks.Nodup
  iff : ∀ x, x ∈ ks ↔ x ∈ k0 ∨ ∃ j, j < i ∧ x = k0.getD j 0 &&& lot
theorem nd_len {ks : List Nat} {m : Nat} (h : ks.Nodup) (lt : ∀ x ∈ ks, x < m) : ks.length ≤ m := by
  have q := List.Nodup.length_le_of_subset h (l₂ := List.range m) fun x hx => List.mem_range.mpr (lt x hx)
  rwa [List.length_range] at q
theorem KsOk.one (v : Nat) : KsOk v [2 ^ v - 1] := by
  have p := Nat.two_pow_pos v
  refine ⟨List.nodup_cons.mpr ⟨List.not_mem_nil, List.nodup_nil⟩, List.mem_singleton.mpr rfl, fun x hx => ?_, fun x hx y hy => ?_⟩
  · rw [List.mem_singleton.mp hx]; omega
  · rw [List.mem_singleton.mp hx, List.mem_singleton.mp hy, Nat.and_self]; exact List.mem_singleton.mpr rfl
theorem KsMid.zero {lot : Nat} {k0 : List Nat} (h : k0.Nodup) : KsMid lot k0 0 k0 := ⟨h, fun x => ⟨.inl, fun q => q.elim id fun ⟨_, lt, _⟩ => absurd lt (Nat.not_lt_zero _)⟩⟩
theorem KsMid.lt {v lot i : Nat} {k0 ks : List Nat} (h : KsMid lot k0 i ks) (h0 : KsOk v k0) (hi : i ≤ k0.length) : ∀ x ∈ ks, x < 2 ^ v := fun x hx => by
  rcases (h.iff x).mp hx with q | ⟨j, lt, rfl⟩
  · exact h0.lt x q
  · exact Nat.lt_of_le_of_lt Nat.and_le_left (h0.lt _ (getD_mem (by omega)))
theorem KsMid.step {lot i : Nat} {k0 ks : List Nat} (h : KsMid lot k0 i ks) : KsMid lot k0 (i + 1) (if k0.getD i 0 &&& lot ∈ ks then ks else ks ++ [k0.getD i 0 &&& lot]) := by
  have key : ∀ x, (x ∈ ks ∨ x = k0.getD i 0 &&& lot) ↔ (x ∈ k0 ∨ ∃ j, j < i + 1 ∧ x = k0.getD j 0 &&& lot) := fun x => by
    rw [h.iff x]
    constructor
    · rintro ((q | ⟨j, lt, e⟩) | e)
      · exact .inl q
      · exact .inr ⟨j, by omega, e⟩
      · exact .inr ⟨i, by omega, e⟩
    · rintro (q | ⟨j, lt, e⟩)
      · exact .inl (.inl q)
      · by_cases z : j = i
        · subst z; exact .inr e
        · exact .inl (.inr ⟨j, by omega, e⟩)
  split
  · rename_i hm
    exact ⟨h.nd, fun x => ⟨fun q => (key x).mp (.inl q), fun q => ((key x).mpr q).elim id fun e => e ▸ hm⟩⟩
  · rename_i hm
    refine ⟨List.nodup_append.mpr ⟨h.nd, List.nodup_cons.mpr ⟨List.not_mem_nil, List.nodup_nil⟩, fun a ha b hb => ?_⟩, fun x => ?_⟩
    · rw [List.mem_singleton.mp hb]
      intro e
      exact hm (e ▸ ha)
    · rw [List.mem_append, List.mem_singleton]
      exact key x
theorem getD_of_mem {l : List Nat} {x : Nat} (h : x ∈ l) : ∃ j, j < l.length ∧ l.getD j 0 = x := by
  obtain ⟨j, hj, e⟩ := List.mem_iff_getElem.mp h
  exact ⟨j, hj, by rw [List.getD_eq_getElem?_getD, List.getElem?_eq_getElem hj]; exact e⟩
theorem KsMid.done {v lot : Nat} {k0 ks : List Nat} (h : KsMid lot k0 k0.length ks) (h0 : KsOk v k0) : KsOk v ks := by
  have key : ∀ x, x ∈ ks ↔ x ∈ k0 ∨ ∃ y ∈ k0, x = y &&& lot := fun x => by
    rw [h.iff x]
    constructor
    · rintro (q | ⟨j, lt, e⟩)
      · exact .inl q
      · exact .inr ⟨_, getD_mem lt, e⟩
    · rintro (q | ⟨y, hy, e⟩)
      · exact .inl q
      · obtain ⟨j, lt, e2⟩ := getD_of_mem hy
        exact .inr ⟨j, lt, by rw [e2]; exact e⟩
  refine ⟨h.nd, (key _).mpr (.inl h0.top), h.lt h0 (Nat.le_refl _), fun x hx y hy => (key _).mpr ?_⟩
  rcases (key x).mp hx with q | ⟨a, ha, rfl⟩
  · rcases (key y).mp hy with r | ⟨b, hb, rfl⟩
    · exact .inl (h0.meet _ q _ r)
    · exact .inr ⟨x &&& b, h0.meet _ q _ hb, (Nat.and_assoc ..).symm⟩
  · rcases (key y).mp hy with r | ⟨b, hb, rfl⟩
    · exact .inr ⟨a &&& y, h0.meet _ ha _ r, by rw [Nat.and_assoc, Nat.and_comm lot y, Nat.and_assoc]⟩
    · refine .inr ⟨a &&& b, h0.meet _ ha _ hb, ?_⟩
      rw [Nat.and_assoc, Nat.and_comm b lot, ← Nat.and_assoc lot lot b, Nat.and_self, Nat.and_comm lot b, Nat.and_assoc]
theorem asc_last : ∀ {l : List Nat} {m : Nat}, l.Pairwise (· < ·) → m ∈ l → (∀ x ∈ l, x ≤ m) → l.getLastD 0 = m
  | [], m, _, h, _ => nomatch h
  | [a], m, _, h, _ => (List.mem_singleton.mp h).symm
  | a :: b :: l, m, p, h, hm => by
    obtain ⟨p1, p2⟩ := List.pairwise_cons.mp p
    have hb := p1 b (List.mem_cons_self ..)
    have hbm := hm b (List.mem_cons_of_mem _ (List.mem_cons_self ..))
    have h2 : m ∈ b :: l := by
      rcases List.mem_cons.mp h with z | z
      · omega
      · exact z
    exact asc_last (l := b :: l) p2 h2 fun x hx => hm x (List.mem_cons_of_mem _ hx)
/-- sorted keys -/
theorem full_of {v : Nat} {ks : List Nat} {ns : List Int} (h : KsOk v ks) (hp : ns.Perm (ks.map fun n : Nat => (n : Int))) (hs : ns.Pairwise (· ≤ ·)) : ∃ ms : List Nat, ns = ms.map (fun n : Nat => (n : Int)) ∧ MsFull v ms := by
  have hnn : ∀ x ∈ ns, ∃ n : Nat, n ∈ ks ∧ x = (n : Int) := fun x hx => by
    obtain ⟨n, hn, e⟩ := List.mem_map.mp ((hp.mem_iff).mp hx)
    exact ⟨n, hn, e.symm⟩
  have e : ns = (ns.map Int.toNat).map fun n : Nat => (n : Int) := by
    rw [List.map_map]
    refine (List.map_id ns).symm.trans (List.map_congr_left fun x hx => ?_)
    obtain ⟨n, _, rfl⟩ := hnn x hx
    rfl
  have pm : (ns.map Int.toNat).Perm ks := by
    have q := hp.map Int.toNat
    rw [List.map_map] at q
    have e2 : ks.map (Int.toNat ∘ fun n : Nat => (n : Int)) = ks := (List.map_congr_left fun n _ => (rfl : (Int.toNat ∘ fun n : Nat => (n : Int)) n = n)).trans (List.map_id' ks)
    rwa [e2] at q
  have nd : (ns.map Int.toNat).Nodup := pm.nodup_iff.mpr h.nd
  have mem : ∀ x, x ∈ ns.map Int.toNat ↔ x ∈ ks := fun x => pm.mem_iff
  have asc : (ns.map Int.toNat).Pairwise (· < ·) := by
    have le : (ns.map Int.toNat).Pairwise (· ≤ ·) := List.pairwise_map.mpr (hs.imp fun {a b} (h : a ≤ b) => (by omega : a.toNat ≤ b.toNat))
    exact (le.and nd).imp fun {a b} h => Nat.lt_of_le_of_ne h.1 h.2
  have p := Nat.two_pow_pos v
  refine ⟨_, e, ⟨fun z => ?_, asc, asc_last asc ((mem _).mpr h.top) fun x hx => ?_, fun x hx y hy => (mem _).mpr (h.meet _ ((mem x).mp hx) _ ((mem y).mp hy))⟩⟩
  · have q := (mem _).mpr h.top
    rw [z] at q
    cases q
  · have := h.lt x ((mem x).mp hx)
    omega
theorem full_range (v : Nat) : MsFull v (List.range (2 ^ v)) := by
  have p := Nat.two_pow_pos v
  refine ⟨fun z => ?_, List.pairwise_lt_range, asc_last List.pairwise_lt_range (List.mem_range.mpr (by omega)) fun x hx => ?_, fun x hx y hy => ?_⟩
  · have q := congrArg List.length z
    rw [List.length_range] at q
    rw [List.length_nil] at q
    omega
  · have := List.mem_range.mp hx
    omega
  · exact List.mem_range.mpr (Nat.lt_of_le_of_lt Nat.and_le_left (List.mem_range.mp hx))
theorem full_one (v : Nat) : MsFull v [2 ^ v - 1] := ⟨(fun z => nomatch z), List.pairwise_singleton _ _, rfl, fun x hx y hy => by rw [List.mem_singleton.mp hx, List.mem_singleton.mp hy, Nat.and_self]; exact List.mem_singleton.mpr rfl⟩
/-! ### keys in a heap -/
theorem inl_mem {ks : List Nat} {n : Nat} : (Sum.inl (n : Int) : Key) ∈ (ks.map fun n : Nat => (Sum.inl (n : Int) : Key)) ↔ n ∈ ks := by
  constructor
  · intro h
    obtain ⟨m, hm, e⟩ := List.mem_map.mp h
    have := Sum.inl.inj e
    have : m = n := by omega
    exact this ▸ hm
  · exact fun h => List.mem_map.mpr ⟨n, h, rfl⟩
theorem ks_put {kvs : List (Key × V)} {ks : List Nat} (h : kvs.map (·.1) = ks.map fun n : Nat => (Sum.inl (n : Int) : Key)) (n : Nat) (x : V) : (putK kvs (.inl (n : Int)) x).map (·.1) = (if n ∈ ks then ks else ks ++ [n]).map fun n : Nat => (Sum.inl (n : Int) : Key) := by
  have hm : ((kvs.any fun kv => decide (kv.1 = .inl (n : Int))) = true) ↔ n ∈ ks := by
    rw [List.any_eq_true, ← inl_mem, ← h]
    constructor
    · rintro ⟨kv, hk, e⟩
      exact List.mem_map.mpr ⟨kv, hk, of_decide_eq_true e⟩
    · intro q
      obtain ⟨kv, hk, e⟩ := List.mem_map.mp q
      exact ⟨kv, hk, decide_eq_true e⟩
  unfold putK
  by_cases z : n ∈ ks
  · rw [if_pos (hm.mpr z), if_pos z, List.map_map, ← h]
    refine List.map_congr_left fun kv _ => ?_
    show (if kv.1 = _ then (kv.1, x) else kv).1 = kv.1
    split <;> rfl
  · rw [if_neg (fun q => z (hm.mp q)), if_neg z, List.map_append, List.map_append, h]
    rfl
section
variable {K : PySem.W.Frag} {σ : L2.St} {H : Hp} {D : Ends} {td te : TE} {tb : TS} {d : Addr} {xs : List V}
theorem el_keys {kvs : List (Key × V)} (h : Ev td σ H (.ref d)) (hd : H d = some (.dK kvs)) : EvL (tKeysL td) σ H (kvs.map fun kv => kV kv.1) := fun H1 e Q q => h H1 e _ fun H2 e2 => ⟨d, kvs, rfl, e2 _ _ (e _ _ hd), fun p hp => q p _ (fresh_back e2 hp) (e2.trans (Ex.new hp)) upd_same⟩
theorem keys_vn {kvs : List (Key × V)} {ks : List Nat} (h : kvs.map (·.1) = ks.map fun n : Nat => (Sum.inl (n : Int) : Key)) : (kvs.map fun kv => kV kv.1) = ks.map vn := by
  have q := congrArg (List.map kV) h
  rw [List.map_map, List.map_map] at q
  exact q
theorem s_retSort {ns : List Int} (h : EvL te σ H (ns.map V.int)) (k : ∀ (ns' : List Int) q H2, Ex H H2 → H q = none → ns'.Perm ns → ns'.Pairwise (· ≤ ·) → H2 q = some (.lst (ns'.map V.int)) → D.rt (.ref q) H2) : tRet (tCB (rSortedI K) (tCons te tNil)) D σ H :=
  h H (Ex.refl H) _ fun p H1 hp e1 h1 => ⟨p, ns, rfl, sq_of h1, fun ns' q hpm hs hq => k ns' q _ (e1.trans (Ex.new hq)) (fresh_back e1 hq) hpm hs upd_same⟩
/-- for x in a fresh list -/
theorem s_lstN {g : TG} (h : EvL te σ H xs) (Pv : Addr → Nat → L2.St → Hp → Prop) (h0 : ∀ p H1, H p = none → Ex H H1 → H1 p = some (.lst xs) → Pv p 0 σ H1) (hl : ∀ p i σ' H', i ≤ xs.length → Pv p i σ' H' → H' p = some (.lst xs))
    (hs : ∀ p i x σ' H', xs[i]? = some x → Pv p i σ' H' → g x σ' H' fun σ2 H2 => tb { D with nx := Pv p (i + 1), ct := Pv p (i + 1), bk := D.nx } σ2 H2) (hd : ∀ p σ' H', Pv p xs.length σ' H' → D.nx σ' H') :
    tFor (iA K te) g tb D σ H := .inl (h H (Ex.refl H) _ fun p H1 hp e1 h1 =>
  ⟨p, rfl, ⟨xs, sq_of h1⟩, for_it walk_list (Pv p) (h0 p H1 hp e1 h1) (fun i σ' H' hi q => sq_of (hl p i σ' H' hi q)) (fun i x σ' H' H2 hi q y => by
    obtain ⟨e2, y2⟩ := y
    subst e2
    exact hs p i x σ' _ y2 q) (fun σ' H' q => hd p σ' H' q)⟩)
end
section
variable {P : Program} {w : World} {K : PySem.W.Frag} {mg : Str → Option Value} {base : Heap}
/-- a full list of members, fresh -/
def RetMs (H : Hp) (v : Nat) (Q : VK) : Prop := ∀ D H2 ms, Ex H H2 → H D = none → LstN H2 D ms → MsFull v ms → Q (.ref D) H2
def spMet (_ : PySem.W.Frag) : Sp := fun vs H Q _ => ∃ (v : Nat) (a : Addr) (lots : List Nat), vs = [vn v, .ref a] ∧ Vok v ∧ LstN H a lots ∧ RetMs H v Q
theorem ok__law_met (T : Txt w K mg) : Fok P w K mg base 2 (a__law_met K) P__law_met (spMet K) := by
  have F__law_every := ok__law_every (P := P) (base := base) T
  refine fok T.f__law_met sc__law_met (fun _ _ _ _ _ _ us hl => match us, hl with | [_, _], _ => rfl) (fun vs H Q E h => ?_) (fun cdv A outer s H vs Q E hr h => ?_)
  · obtain ⟨v, a, lots, rfl, _⟩ := h
    rfl
  · obtain ⟨v, a, lots, rfl, hv, ha, k⟩ := h
    have HU := hu_of hr
    have v6 : (2 : Nat) ^ v ≤ 64 := Nat.pow_le_pow_right (by decide) hv.2
    refine ⟨_, (pss_cons (ps_set (i := 2) sc__law_met.nd rfl (Or.inl rfl) (pe_disp (pps_cons (pe_f F__law_every T.c__law_every (hr.mono (by omega)) (px rfl rfl rfl rfl) (pa_cons (pv 0) pa_nil)) pe_bl pps_nil) rfl rfl (by simp) (by decide)))
      (pss_cons (ps_for (passes_of rfl) rfl (pi_A (pv 1)) (pg_name (i := 3) sc__law_met.nd rfl (Or.inl rfl)) (pss_one (ps_for (passes_of rfl) rfl (pi_A (pe_keysL rfl (pv 2) T.m_list)) (pg_name (i := 4) sc__law_met.nd rfl (Or.inl rfl)) (pss_one (ps_dput HU (pv 2) (pe_op op_and (pv 4) (pv 3)) pe_bl rfl)))))
      (pss_one (ps_ret (pe_callB cr_sortedI rfl T.m_sorted bt_sorted (pa_cons (pe_keysL rfl (pv 2) T.m_list) pa_nil)))))), ?_⟩
    refine fun d hd => callA (ea_cons (ev_var rfl) ea_nil) fun H1 e1 => ⟨v, rfl, hv, fun H2 e2 => ⟨(e1.trans e2) _ _ upd_same, [(.inl ((2 ^ v - 1 : Nat) : Int), .bl true)], rfl, by show 1 ≤ 15; decide, ?_⟩⟩
    have ex0 : Ex H (upd H2 d (.dK [(.inl ((2 ^ v - 1 : Nat) : Int), .bl true)])) := fun b o q => by
      rw [upd_ne (ne_of_none q hd)]
      exact (e1.trans e2) _ _ (by rw [upd_ne (ne_of_none q hd)]; exact q)
    refine q_of (s_lstA (g := gName 3) (ev_var rfl) (ex0 _ _ ha) (fun i σ' H' => Ex H H' ∧ ∃ ks s3 s4, KsAt H' d ks ∧ KsOk v ks ∧ σ' = [some (vn v), some (.ref a), some (.ref d), s3, s4]) (fun H3 e3 => ⟨ex0.trans e3, [2 ^ v - 1], none, none, ⟨_, e3 _ _ upd_same, rfl⟩, KsOk.one v, rfl⟩) (fun i σ' H' _ p => p.1 _ _ ha) (fun i x σ' H' hx p => ?_) fun σ' H' p => ?_)
    · obtain ⟨e3, k0, s3, s4, ⟨kvs, hk, hkk⟩, ok0, rfl⟩ := p
      obtain ⟨lt, rfl⟩ := map_at hx
      have ek := keys_vn hkk
      generalize lots.getD i 0 = lot
      refine s_lstN (g := gName 4) (el_keys (ev_var rfl) hk) (fun p i σ' H' => Ex H H' ∧ H' p = some (.lst (kvs.map fun kv => kV kv.1)) ∧ ∃ ks s4, KsAt H' d ks ∧ KsMid lot k0 i ks ∧ σ' = [some (vn v), some (.ref a), some (.ref d), some (vn lot), s4]) (fun p H4 hp e4 h4 => ⟨e3.trans e4, h4, k0, s4, ⟨kvs, e4 _ _ hk, hkk⟩, KsMid.zero ok0.nd, rfl⟩) (fun p i σ' H' _ q => q.2.1) (fun p i x σ' H' hx q => ?_) fun p σ' H' q => ?_
      · obtain ⟨e4, hp, ks, s4, ⟨kvs2, hk2, hkk2⟩, mid, rfl⟩ := q
        rw [ek] at hx
        obtain ⟨lt2, rfl⟩ := map_at hx
        have nd : p ≠ d := fun z => by subst z; rw [hp] at hk2; cases hk2
        have hv2 := ev_and (ta := tVar 4) (tb := tVar 3) (H := H') (σ := [some (vn v), some (.ref a), some (.ref d), some (vn lot), some (vn (k0.getD i 0))]) (ev_var rfl) (ev_var rfl)
        have e5 := Ex.refl H'
        refine ⟨_, rfl, ?_⟩
        refine hv2 H' (Ex.refl H') _ fun H6 e6 => ⟨d, _, rfl, DPut.k (k := .inl _) (e6 _ _ (e5 _ _ hk2)) ?_, ?_, ?_, _, _, ⟨_, upd_same, ks_put hkk2 _ _⟩, mid.step, rfl⟩
        · have q1 := congrArg List.length hkk2
          rw [List.length_map, List.length_map] at q1
          have q2 := nd_len mid.nd (mid.lt ok0 (by omega))
          rw [q1]
          exact sz_lt (by omega)
        · exact fun b o q => by
            rw [upd_ne (ne_of_none q hd)]
            exact e6 _ _ (e5 _ _ (e4 _ _ q))
        · rw [upd_ne nd]
          exact e6 _ _ (e5 _ _ hp)
      · obtain ⟨e4, hp, ks, s4, hk2, mid, rfl⟩ := q
        rw [List.length_map] at mid
        have q1 := congrArg List.length hkk
        rw [List.length_map, List.length_map] at q1
        rw [q1] at mid
        exact ⟨e4, ks, _, s4, hk2, mid.done ok0, rfl⟩
    · obtain ⟨e3, ks, s3, s4, ⟨kvs, hk, hkk⟩, ok, rfl⟩ := p
      have ek : (kvs.map fun kv => kV kv.1) = (ks.map fun n : Nat => (n : Int)).map V.int := by rw [keys_vn hkk, List.map_map]; rfl
      have hq : EvL (tKeysL (tVar 2)) [some (vn v), some (.ref a), some (.ref d), s3, s4] H' (kvs.map fun kv => kV kv.1) := el_keys (ev_var rfl) hk
      rw [ek] at hq
      refine s_retSort hq fun ns' D H4 e4 hD hpm hs h4 => ?_
      obtain ⟨ms, rfl, full⟩ := full_of ok hpm hs
      rw [List.map_map] at h4
      exact k D _ ms (e3.trans e4) (fresh_back e3 hD) h4 full
end
end TA
end
/-! TaL4 -/
section
set_option Elab.async false
set_option linter.all false
set_option autoImplicit false
set_option maxRecDepth 100000
set_option maxHeartbeats 4000000
namespace TA
open PySem PySem.Spec PyProof.Rows L2 Evl
theorem paired_get {α β : Type} {F : α → β → Prop} : ∀ {xs : List α} {ys : List β} {i : Nat} {x : α}, Paired F xs ys → xs[i]? = some x → ∃ y, ys[i]? = some y ∧ F x y
  | _, _, _, _, .nil, h => by cases h
  | _, _, 0, _, .cons h _, e => by cases e; exact ⟨_, rfl, h⟩
  | _, _, i + 1, _, .cons _ t, e => paired_get (i := i) t e
/-! ### names -/
abbrev pool0 : List Str := ["f", "g", "h", "ab", "zz", "go", "longname", "n", "nothings", "a", "again", "step", "grow", "either", "r", "s"]
theorem pool_ok : ∀ s ∈ pool0, NameOk s ∧ s ≠ "nosuch" := by
  have f : ∀ s ∈ pool0, (1 ≤ s.length ∧ s.length ≤ 8 ∧ s ≠ "nothing" ∧ (∀ c ∈ s.cps.toList, c ∈ abc.cps.toList) ∧ PyData.canLay0 (.str s) = true) ∧ s ≠ "nosuch" := by decide +kernel
  exact fun s h => let ⟨⟨a, b, c, d, e⟩, g⟩ := f s h; ⟨⟨a, b, c, d, e⟩, g⟩
theorem pool_nd : pool0.Nodup := by decide +kernel
theorem pick_perm {α : Type} {l : List α} {i : Nat} (h : i < l.length) : (l[i] :: (l.take i ++ l.drop (i + 1))).Perm l := by
  have e : l.take i ++ l[i] :: l.drop (i + 1) = l := by rw [← List.drop_eq_getElem_cons h, List.take_append_drop]
  exact List.perm_middle.symm.trans (List.Perm.of_eq e)
theorem cut_lo {xs : List V} {k : Nat} : cutV xs none (some (k : Int)) = xs.take k := by
  unfold cutV
  rw [HT.sIx_none, HT.sIx_nat]
  show (xs.drop 0).take (min k xs.length - 0) = _
  rw [List.drop_zero, Nat.sub_zero, List.take_eq_take_iff]
  omega
theorem cut_hi {xs : List V} {k : Nat} : cutV xs (some (k : Int)) none = xs.drop k := by
  unfold cutV
  rw [HT.sIx_none, HT.sIx_nat]
  by_cases h : k ≤ xs.length
  · rw [Nat.min_eq_left h]
    exact List.take_of_length_le (by rw [List.length_drop]; omega)
  · rw [Nat.min_eq_right (by omega), Nat.sub_self, List.take_zero, List.drop_eq_nil_of_le (by omega)]
section
variable {K : PySem.W.Frag} {σ : L2.St} {H : Hp} {D : Ends} {ta tb te : TE} {xs ys : List V} {a : Addr}
theorem el_slA {tl th : TO} {lo hi : Option Int} (h : Ev te σ H (.ref a)) (h1 : EvO tl σ H lo) (h2 : EvO th σ H hi) (hs : H a = some (.lst xs)) : EvL (tSl (fun x lo hi H Q => rSlL K x lo hi H Q ∨ rSlA K x lo hi H Q) te tl th) σ H (cutV xs lo hi) := fun H1 e _ q =>
  h H1 e _ fun H2 e2 => h1 H2 (e.trans e2) _ fun H3 e3 => h2 H3 ((e.trans e2).trans e3) _ fun H4 e4 =>
    .inl ⟨a, xs, rfl, sq_of ((((e.trans e2).trans e3).trans e4) _ _ hs), fun p hp => q p _ (fresh_back ((e2.trans e3).trans e4) hp) (((e2.trans e3).trans e4).trans (Ex.new hp)) upd_same⟩
theorem el_cat (ha : EvL ta σ H xs) (hb : EvL tb σ H ys) (hz : xs.length + ys.length ≤ 100000) : EvL (tOp (rAddA K) ta tb) σ H (xs ++ ys) := fun H1 e Q q =>
  ha H1 e _ fun p H2 hp e2 h2 => hb H2 (e.trans e2) _ fun r H3 hr e3 h3 => .inr (.inl ⟨p, r, xs, ys, rfl, rfl, e3 _ _ h2, h3, sz_of hz, fun s hs => q s _ (fresh_back (e2.trans e3) hs) ((e2.trans e3).trans (Ex.new hs)) upd_same⟩)
/-- list(range(n)) is given -/
theorem s_retRange {n : Nat} (h : Ev te σ H (vn n)) (hn : n ≤ 100000) (k : ∀ q H2, Ex H H2 → H q = none → H2 q = some (.lst ((List.range n).map vn)) → D.rt (.ref q) H2) : tRet (tLstRg (tRg1 te)) D σ H := h H (Ex.refl H) _ fun H1 e1 =>
  ⟨(n : Int), rfl, RgOk.of_le (by omega) (by omega) (by omega) (by omega), fun q hq => k q _ (e1.trans (Ex.new hq)) (fresh_back e1 hq) (by
    have e : rgV 0 (n : Int) = (List.range n).map vn := by
      unfold rgV
      rw [Int.sub_zero, Int.toNat_natCast]
      exact List.map_congr_left fun i _ => by rw [Int.zero_add]
    rw [e]
    exact upd_same)⟩
/-- the argument of range first -/
theorem lc_pre {ta : TA} {g : TG} {t : TT} {vs : List Nat} {Q : VK} (h : ta σ H fun us H1 => tLc (iRng1 fun _ H R => R us H) g t te vs σ H1 Q) : tLc (iRng1 ta) g t te vs σ H Q := h
theorem ea_pre {us : List V} : EvA (fun _ H R => R us H) σ H us := fun H1 _ Q q => q H1 (Ex.refl H1)
end
section
variable {P : Program} {w : World} {K : PySem.W.Frag} {mg : Str → Option Value} {base : Heap}
/-- a fresh list of texts -/
def RetNames (H : Hp) (h c : Addr) (n : Nat) (Q : VK) : Prop := ∀ D H2 (ns : List Str), XO h H H2 → HandAt H2 h c → H D = none → H2 D = some (.lst (ns.map V.str)) → ns.length = n → ns.Nodup → (∀ s ∈ ns, NameOk s ∧ s ≠ "nosuch") → Q (.ref D) H2
def spNames (_ : PySem.W.Frag) : Sp := fun vs H Q _ => ∃ (h c : Addr) (n : Nat), vs = [.ref h, vn n] ∧ HandAt H h c ∧ n ≤ 15 ∧ RetNames H h c n Q
theorem ok__law_names (T : Txt w K mg) : Fok P w K mg base 3 (a__law_names K) P__law_names (spNames K) := by
  have F__law_take := ok__law_take (P := P) (base := base) T
  refine fok T.f__law_names sc__law_names (fun _ _ _ _ _ _ us hl => match us, hl with | [_, _], _ => rfl) (fun vs H Q E h => ?_) (fun cdv A outer s H vs Q E hr h => ?_)
  · obtain ⟨h, c, n, rfl, _⟩ := h
    rfl
  · obtain ⟨h, c, n, rfl, hh, hn, k⟩ := h
    obtain ⟨ns0, p0, r0, t0, hh0, hc0, hne0⟩ := id hh
    refine ⟨_, (pss_cons (ps_set (i := 2) sc__law_names.nd rfl (Or.inl rfl) (pe_lst (pa_cons pe_str (pa_cons pe_str (pa_cons pe_str (pa_cons pe_str (pa_cons pe_str (pa_cons pe_str (pa_cons pe_str (pa_cons pe_str (pa_cons pe_str (pa_cons pe_str (pa_cons pe_str (pa_cons pe_str (pa_cons pe_str (pa_cons pe_str (pa_cons pe_str (pa_cons pe_str pa_nil))))))))))))))))))
      (pss_cons (ps_set (i := 3) sc__law_names.nd rfl (Or.inl rfl) (pe_lst pa_nil))
      (pss_cons (ps_for (passes_of rfl) rfl (pi_range1 rfl T.m_range (pa_cons (pv 1) pa_nil)) (pg_name (i := 4) sc__law_names.nd rfl (Or.inl rfl)) (pss_cons (ps_set (i := 5) sc__law_names.nd rfl (Or.inl rfl) (pe_f F__law_take T.c__law_take (hr.mono (by omega)) (px rfl rfl rfl rfl) (pa_cons (pv 0) (pa_cons (pe_callB call_len_seq rfl T.m_len bt_len (pa_cons (pv 2) pa_nil)) pa_nil))))
      (pss_cons (ps_expr (pe_bm PySem.F.plainAttrs_list PySem.F.slot_list_append PySem.F.type_list_append mt_append (pv 3) (pa_cons (pe_ix ix_A (pv 2) (pv 5) (fun _ _ => rfl)) pa_nil)))
      (pss_one (ps_set (i := 2) sc__law_names.nd rfl (Or.inl rfl) (pe_op op_addA (pe_slice sl_A (pv 2) po_none (po_some (pv 5))) (pe_slice sl_A (pv 2) (po_some (pe_op op_addA (pv 5) pe_int)) po_none)))))))
      (pss_one (ps_ret (pv 3)))))), ?_⟩
    refine q_asgL (xs := pool0.map V.str) (el_lst (ea_cons ev_c (ea_cons ev_c (ea_cons ev_c (ea_cons ev_c (ea_cons ev_c (ea_cons ev_c (ea_cons ev_c (ea_cons ev_c (ea_cons ev_c (ea_cons ev_c (ea_cons ev_c (ea_cons ev_c (ea_cons ev_c (ea_cons ev_c (ea_cons ev_c (ea_cons ev_c ea_nil)))))))))))))))) (by decide)) fun Pa H1 hPa e1 hp1 => ?_
    refine q_asgL (xs := []) (el_lst ea_nil (by decide)) fun D H2 hD e2 hD2 => ?_
    have hD0 := fresh_back e1 hD
    have e12 := e1.trans e2
    refine q_forR1 (n := (n : Int)) (ea_cons (ev_var rfl) ea_nil) (by omega) (fun i σ' H' => XO h H H' ∧ HandAt H' h c ∧ ∃ (Pa : Addr) (nms pool : List Str) (s4 s5 : Option V), H' D = some (.lst (nms.map V.str)) ∧ H' Pa = some (.lst (pool.map V.str)) ∧ Pa ≠ D ∧ Pa ≠ h ∧ nms.length = i ∧ (nms ++ pool).Perm pool0 ∧ σ' = [some (.ref h), some (vn n), some (.ref Pa), some (.ref D), s4, s5]) (fun H3 e3 => ⟨(e12.trans e3).o, hh.mono (e12.trans e3), Pa, [], pool0, none, none, e3 _ _ hD2, e3 _ _ (e2 _ _ hp1), (fun z => by subst z; rw [hD] at hp1; cases hp1), (fun z => by subst z; rw [hh0] at hPa; cases hPa), rfl, List.Perm.refl _, rfl⟩) (fun i σ' H' hi p => ?_) (fun σ' H' p => ?_)
    · obtain ⟨x1, hh1, Pa, nms, pool, s4, s5, hD1, hp1, nPD, nPh, hl, pm, rfl⟩ := p
      have nDh : D ≠ h := fun z => by subst z; rw [hh0] at hD0; cases hD0
      have nDc : D ≠ c := fun z => by subst z; rw [hc0] at hD0; cases hD0
      have pl := pm.length_eq
      rw [List.length_append, hl] at pl
      have pl16 : pool0.length = 16 := rfl
      refine take_at (m := (pool.map V.str).length) rfl (ev_lenL (ev_var rfl) hp1) (by rw [List.length_map]; omega) (by rw [List.length_map]; omega) hh1 fun H3 at_ x3 hh3 lt => ?_
      rw [List.length_map] at lt
      have hp3 := x3 _ _ nPh hp1
      have hD3 := x3 _ _ nDh hD1
      refine q_app hD3 (ev_var rfl) (ev_ixL (i := (at_ : Int)) (v := .str pool[at_]) (ev_var rfl) (ev_var rfl) hp3 (atI_nat (by rw [List.getElem?_map, List.getElem?_eq_getElem lt]; rfl))) (by rw [List.length_map]; omega) fun H4 e4 => ?_
      have hp4 : (upd H4 D (.lst (nms.map V.str ++ [.str pool[at_]]))) Pa = some (.lst (pool.map V.str)) := by rw [upd_ne nPD]; exact e4 _ _ hp3
      refine s_asgL (el_cat (el_slA (ev_var rfl) eo_none (eo_some (ev_var rfl)) hp4) (el_slA (lo := some ((at_ + 1 : Nat) : Int)) (ev_var rfl) (eo_some (ev_add (i := (at_ : Int)) (j := 1) (ev_var rfl) ev_c)) eo_none hp4) ?_) fun Pb H5 hPb e5 hp5 => ?_
      · rw [cut_lo, cut_hi, List.length_take, List.length_drop, List.length_map]
        omega
      · rw [cut_lo, cut_hi, ← List.map_take, ← List.map_drop, ← List.map_append] at hp5
        have hu : upd H4 D (.lst (nms.map V.str ++ [.str pool[at_]])) D = some (.lst (nms.map V.str ++ [.str pool[at_]])) := upd_same
        refine ⟨fun b o nb q => e5 _ _ ?_, ?_, Pb, nms ++ [pool[at_]], _, _, _, ?_, hp5, ?_, ?_, by rw [List.length_append, hl]; rfl, ?_, rfl⟩
        · rw [upd_ne (ne_of_none q hD0)]
          exact e4 _ _ (x3 _ _ nb (x1 _ _ nb q))
        · obtain ⟨ms, p, r', t, q1, q2, q3⟩ := hh3
          exact ⟨ms, p, r', t, e5 _ _ (by rw [upd_ne nDh.symm]; exact e4 _ _ q1), e5 _ _ (by rw [upd_ne nDc.symm]; exact e4 _ _ q2), q3⟩
        · rw [List.map_append]
          exact e5 _ _ hu
        · exact fun z => by subst z; rw [hu] at hPb; cases hPb
        · obtain ⟨ms, p, r', t, q1, q2, q3⟩ := hh3
          exact fun z => by
            subst z
            rw [upd_ne nDh.symm, e4 _ _ q1] at hPb
            cases hPb
        · rw [List.append_assoc]
          exact ((pick_perm lt).append_left nms).trans pm
    · obtain ⟨x1, hh1, Pa, nms, pool, s4, s5, hD1, hp1, nPD, nPh, hl, pm, rfl⟩ := p
      rw [Int.toNat_natCast] at hl
      have nd := (pm.nodup_iff).mpr pool_nd
      refine s_ret (ev_var rfl) fun H3 e3 => k D H3 nms (x1.trans e3.o) (hh1.mono e3) hD0 (e3 _ _ hD1) hl (List.nodup_append.mp nd).1 fun s hs => pool_ok s ((pm.mem_iff).mp (List.mem_append_left _ hs))
end
end TA
end
/-! TaL5 -/
section
set_option Elab.async false
set_option linter.all false
set_option autoImplicit false
set_option maxRecDepth 100000
set_option maxHeartbeats 4000000
namespace TA
open PySem PySem.Spec PyProof.Rows L2 Evl
/-! ### what the hand leaves alone -/
section
variable {H H' : Hp} {h c : Addr}
theorem XO.keep {D : Addr} {o : HO} (x : XO h H H') (hh : HandAt H h c) (hD : H D = some o) (ne : ∀ (c : Addr) (p : Nat) (r t : Int), o ≠ .lst [.ref c, vn p, .int r, .int t]) : H' D = some o := x _ _ (fun z => by
  subst z
  obtain ⟨_, p, r, t, q, _⟩ := hh
  rw [q] at hD
  exact ne c p r t (Option.some.inj hD).symm) hD
theorem HandAt.nx (hh : HandAt H h c) (x : XO h H H') : ExN H H' := let ⟨_, _, _, _, q, _⟩ := hh; x.n q
theorem LstN.mono {D : Addr} {ns : List Nat} (e : Ex H H') (d : LstN H D ns) : LstN H' D ns := e _ _ d
theorem LstN.x {D : Addr} {ns : List Nat} (x : XO h H H') (hh : HandAt H h c) (d : LstN H D ns) : LstN H' D ns := x.keep hh d fun c p r t z => by
  cases ns with
  | nil => cases z
  | cons a l => cases z
theorem strs_x {D : Addr} {ns : List Str} (x : XO h H H') (hh : HandAt H h c) (d : H D = some (.lst (ns.map V.str))) : H' D = some (.lst (ns.map V.str)) := x.keep hh d fun c p r t z => by
  cases ns with
  | nil => cases z
  | cons a l => cases z
end
/-- a name is set to what is not pure -/
theorem q_val {σ : L2.St} {H : Hp} {D : Ends} {te : TE} {tz : TS} {i : Nat} (h : te σ H fun v H' => tz D (σ.set i (some v)) H') : tSeq (tAsg te (gName i)) tz D σ H := h
/-- an entry of the law's world -/
def EnT (H : Hp) (x : V) (q : Str × List Nat) : Prop := ∃ t D, x = .ref t ∧ H t = some (.tup [.str q.1, .ref D]) ∧ LstN H D q.2
def EsAt (H : Hp) (a : Addr) (es : List (Str × List Nat)) : Prop := ∃ xs, H a = some (.lst xs) ∧ Paired (EnT H) xs es
def RwAt (H : Hp) (d : Addr) (es : List (Str × List Nat)) : Prop := ∃ kvs : List (Key × V), H d = some (.dK kvs) ∧ ∀ q ∈ es, ∃ r, valV kvs (.inr q.1) = some (.ref r) ∧ LstN H r q.2
section
variable {H H' : Hp} {h c : Addr}
theorem EnT.mono {x : V} {q : Str × List Nat} (e : Ex H H') (d : EnT H x q) : EnT H' x q := let ⟨t, D, h0, h1, h2⟩ := d; ⟨t, D, h0, e _ _ h1, h2.mono e⟩
theorem EnT.x {x : V} {q : Str × List Nat} (e : XO h H H') (hh : HandAt H h c) (d : EnT H x q) : EnT H' x q := let ⟨t, D, h0, h1, h2⟩ := d; ⟨t, D, h0, e.keep hh h1 (fun _ _ _ _ z => nomatch z), h2.x e hh⟩
theorem EsAt.mono {a : Addr} {es : List (Str × List Nat)} (e : Ex H H') (d : EsAt H a es) : EsAt H' a es := let ⟨xs, h1, h2⟩ := d; ⟨xs, e _ _ h1, Paired.mapP h2 fun _ _ q => q.mono e⟩
theorem EsAt.x {a : Addr} {es : List (Str × List Nat)} (e : XO h H H') (hh : HandAt H h c) (d : EsAt H a es) : EsAt H' a es := by
  obtain ⟨xs, h1, h2⟩ := d
  refine ⟨xs, e.keep hh h1 fun c p r t z => ?_, Paired.mapP h2 fun _ _ q => q.x e hh⟩
  have z1 : xs = [.ref c, vn p, .int r, .int t] := by cases z; rfl
  subst z1
  obtain ⟨y, _, f⟩ := paired_get (i := 1) h2 rfl
  obtain ⟨_, _, f0, _⟩ := f
  cases f0
theorem RwAt.mono {a : Addr} {es : List (Str × List Nat)} (e : Ex H H') (d : RwAt H a es) : RwAt H' a es := let ⟨xs, h1, h2⟩ := d; ⟨xs, e _ _ h1, fun q hq => let ⟨r, r1, r2⟩ := h2 q hq; ⟨r, r1, r2.mono e⟩⟩
theorem RwAt.x {a : Addr} {es : List (Str × List Nat)} (e : XO h H H') (hh : HandAt H h c) (d : RwAt H a es) : RwAt H' a es := let ⟨xs, h1, h2⟩ := d; ⟨xs, e.keep hh h1 (fun _ _ _ _ z => nomatch z), fun q hq => let ⟨r, r1, r2⟩ := h2 q hq; ⟨r, r1, r2.x e hh⟩⟩
end
section
variable {P : Program} {w : World} {K : PySem.W.Frag} {mg : Str → Option Value} {base : Heap}
def spRows (_ : PySem.W.Frag) : Sp := fun vs H Q _ => ∃ (a : Addr) (es : List (Str × List Nat)), vs = [.ref a] ∧ EsAt H a es ∧ (es.map (·.1)).Nodup ∧ es.length ≤ 100 ∧ ∀ d H2, Ex H H2 → H d = none → RwAt H2 d es → Q (.ref d) H2
theorem ok__law_rows_of (T : Txt w K mg) : Fok P w K mg base 1 (a__law_rows_of K) P__law_rows_of (spRows K) := by
  refine fok T.f__law_rows_of sc__law_rows_of (fun _ _ _ _ _ _ us hl => match us, hl with | [_], _ => rfl) (fun vs H Q E h => ?_) (fun cdv A outer s H vs Q E hr h => ?_)
  · obtain ⟨a, es, rfl, _⟩ := h
    rfl
  · obtain ⟨a, es, rfl, ⟨xs, hxs, hp⟩, hnd, hz, k⟩ := h
    have HU := hu_of hr
    have hl := Paired.length hp
    refine ⟨_, (pss_cons (ps_set (i := 1) sc__law_rows_of.nd rfl (Or.inl rfl) pe_dnewK)
      (pss_cons (ps_for (passes_of rfl) rfl (pi_A (pv 0)) (pg_tup rfl (pgs_cons (pg_name (i := 2) sc__law_rows_of.nd rfl (Or.inl rfl)) (pgs_cons (pg_name (i := 3) sc__law_rows_of.nd rfl (Or.inl rfl)) pgs_nil))) (pss_one (ps_dput HU (pv 1) (pv 2) (pv 3) rfl)))
      (pss_one (ps_ret (pv 1))))), ?_⟩
    refine fun d hd => ?_
    refine q_of (s_lstA (g := g2 K 2 3) (a := a) (ev_var rfl) ((Ex.new hd) _ _ hxs) (fun i σ' H' => Ex H H' ∧ ∃ kvs s2 s3, H' d = some (.dK kvs) ∧ kvs.length ≤ i ∧ (∀ j q, j < i → es[j]? = some q → ∃ r, valV kvs (.inr q.1) = some (.ref r) ∧ LstN H' r q.2) ∧ σ' = [some (.ref a), some (.ref d), s2, s3]) (fun H1 e1 => ⟨(Ex.new hd).trans e1, [], none, none, e1 _ _ upd_same, Nat.zero_le _, (fun j q lt => absurd lt (Nat.not_lt_zero _)), rfl⟩) (fun i σ' H' _ p => p.1 _ _ hxs) (fun i x σ' H' hx p => ?_) fun σ' H' p => ?_)
    · obtain ⟨e1, kvs, s2, s3, hk, hkl, hv, rfl⟩ := p
      obtain ⟨q, hq, t, r, rfl, ht, hr2⟩ := paired_get hp hx
      have hi : i < xs.length := (List.getElem?_eq_some_iff.mp hx).1
      refine g2_at (e1 _ _ ht) ?_
      refine ⟨_, rfl, ⟨_, rfl, ⟨_, rfl, d, _, rfl, DPut.k (k := .inr q.1) hk (sz_lt (by omega)), ?_⟩⟩⟩
      have e2 : Ex H (upd H' d (.dK (putK kvs (.inr q.1) (.ref r)))) := fun b o z => by
        rw [upd_ne (ne_of_none z hd)]
        exact e1 _ _ z
      refine ⟨e2, _, _, _, upd_same, Nat.le_trans (length_putK _ _ _) (Nat.succ_le_succ hkl), fun j q2 lt hq2 => ?_, rfl⟩
      rw [valV_put]
      by_cases z : j = i
      · subst z
        rw [hq] at hq2
        cases hq2
        exact ⟨r, if_pos rfl, hr2.mono e2⟩
      · obtain ⟨r2, v1, v2⟩ := hv j q2 (by omega) hq2
        have nd : r2 ≠ d := fun y => by
          subst y
          have v3 : H' r2 = some (.lst (q2.2.map vn)) := v2
          rw [hk] at v3
          cases v3
        refine ⟨r2, ?_, ?_⟩
        · rw [if_neg (fun y => z ?_)]
          · exact v1
          · have y2 := Sum.inr.inj y
            have l1 : j < (es.map (·.1)).length := by rw [List.length_map]; omega
            have l2 : i < (es.map (·.1)).length := by rw [List.length_map]; omega
            refine (List.getElem_inj (h₀ := l1) (h₁ := l2) hnd).mp ?_
            rw [List.getElem_map, List.getElem_map, (List.getElem?_eq_some_iff.mp hq2).2, (List.getElem?_eq_some_iff.mp hq).2]
            exact y2
        · show upd _ _ _ _ = _
          rw [upd_ne nd]
          exact v2
    · obtain ⟨e1, kvs, s2, s3, hk, hkl, hv, rfl⟩ := p
      refine s_ret (ev_var rfl) fun H2 e2 => k d H2 (e1.trans e2) hd ⟨kvs, e2 _ _ hk, fun q hq => ?_⟩
      obtain ⟨j, lt, e⟩ := List.mem_iff_getElem.mp hq
      obtain ⟨r, r1, r2⟩ := hv j q (by omega) (by rw [List.getElem?_eq_getElem lt, e])
      exact ⟨r, r1, r2.mono e2⟩
/-- full members, drawn -/
def RetMsX (H : Hp) (h c : Addr) (v : Nat) (Q : VK) : Prop := ∀ D H2 ms, XO h H H2 → HandAt H2 h c → H D = none → LstN H2 D ms → MsFull v ms → Q (.ref D) H2
def spMembers (_ : PySem.W.Frag) : Sp := fun vs H Q _ => ∃ (h c : Addr) (v : Nat), vs = [.ref h, vn v] ∧ HandAt H h c ∧ Vok v ∧ RetMsX H h c v Q
theorem ok__law_members (T : Txt w K mg) : Fok P w K mg base 3 (a__law_members K) P__law_members (spMembers K) := by
  have F__law_take := ok__law_take (P := P) (base := base) T
  have F__law_every := ok__law_every (P := P) (base := base) T
  have F__law_met := ok__law_met (P := P) (base := base) T
  refine fok T.f__law_members sc__law_members (fun _ _ _ _ _ _ us hl => match us, hl with | [_, _], _ => rfl) (fun vs H Q E h => ?_) (fun cdv A outer s H vs Q E hr h => ?_)
  · obtain ⟨h, c, v, rfl, _⟩ := h
    rfl
  · obtain ⟨h, c, v, rfl, hh, hv, k⟩ := h
    have H64 := hr.units
    have vp := Nat.two_pow_pos v
    have v6 : (2 : Nat) ^ v ≤ 64 := Nat.pow_le_pow_right (by decide) hv.2
    have hshl : 1 <<< v = 2 ^ v := by rw [Nat.shiftLeft_eq, Nat.one_mul]
    have ev2 : ∀ {σ : L2.St} {H1 : Hp}, σ[1]? = some (some (vn v)) → Ev (tOp (rI CPow fun i j => .int (i * 2 ^ j.toNat)) (tC (.int 1)) (tVar 1)) σ H1 (vn (2 ^ v)) := fun h1 => ev_is (ev_shl (a := 1) ev_c (ev_var h1) (by decide) (by have := hv.2; omega)) (by rw [hshl])
    have kr : ∀ {H2 : Hp} {D : Addr} {H3 : Hp} {ms : List Nat}, XO h H H2 → HandAt H2 h c → Ex H2 H3 → H2 D = none → LstN H3 D ms → MsFull v ms → Q (.ref D) H3 := fun x2 h2 e3 hD h3 f => k _ _ _ (x2.trans e3.o) (h2.mono e3) (fresh_xo x2 h2 hD) h3 f
    refine ⟨_, (pss_cons (ps_set (i := 2) sc__law_members.nd rfl (Or.inl rfl) (pe_f F__law_take T.c__law_take (hr.mono (by omega)) (px rfl rfl rfl rfl) (pa_cons (pv 0) (pa_cons pe_int pa_nil))))
      (pss_cons (ps_if (pt_cmpR (op_eqA H64) (pv 2) pe_int (nomark _)) (pss_one (ps_ret (pe_listRg rfl rfl T.m_list (prg_1 rfl T.m_range (pe_op op_shl pe_int (pv 1)))))) pss_nil)
      (pss_cons (ps_if (pt_cmpR (op_eqA H64) (pv 2) pe_int (nomark _)) (pss_one (ps_ret (pe_lst (pa_cons (pe_f F__law_every T.c__law_every (hr.mono (by omega)) (px rfl rfl rfl rfl) (pa_cons (pv 1) pa_nil)) pa_nil)))) pss_nil)
      (pss_cons (ps_setLc (i := 3) (own := [("_law_k", 4)]) (g := (gName 4)) (tt := tYes) rfl sc__law_members.nd rfl rfl (sw_true rfl rfl rfl (by decide +kernel)) (pi_range1 rfl T.m_range (pa_cons (pe_op op_addA pe_int (pe_f F__law_take T.c__law_take (hr.mono (by omega)) (px rfl rfl rfl rfl) (pa_cons (pv 0) (pa_cons pe_int pa_nil)))) pa_nil)) (blkOk_by (N := N__law_members) (sc := defScope s__law_members) (by decide +kernel)) (fun _ _ _ _ _ => (pg_name (i := 4) sc__law_members.nd rfl (Or.inl rfl))) (fun _ _ _ _ _ => pts_nil) (fun _ _ _ _ _ => (pe_f F__law_take T.c__law_take (hr.mono (by omega)) passL (pa_cons (pv 0) (pa_cons (pe_op op_shl pe_int (pv 1)) pa_nil)))))
      (pss_cons (ps_if (pt_truth (pe_f F__law_take T.c__law_take (hr.mono (by omega)) (px rfl rfl rfl rfl) (pa_cons (pv 0) (pa_cons pe_int pa_nil))) (fun _ => rfl)) (pss_one (ps_expr (pe_bm PySem.F.plainAttrs_list PySem.F.slot_list_append PySem.F.type_list_append mt_append (pv 3) (pa_cons pe_int pa_nil)))) pss_nil)
      (pss_one (ps_ret (pe_f F__law_met T.c__law_met (hr.mono (by omega)) (px rfl rfl rfl rfl) (pa_cons (pv 1) (pa_cons (pv 3) pa_nil)))))))))), ?_⟩
    refine take_at (m := 16) rfl ev_c (by decide) (by decide) hh fun H1 way x1 hh1 _ => ?_
    refine q_when (et_test (ev_eqN (a := way) (b := 0) (ev_var rfl) ev_c)) (fun hb H2 e2 => ?_) (fun hb H2 e2 => ?_)
    · exact s_retRange (ev2 rfl) (by omega) fun q H3 e3 hq h3 => kr (x1.trans e2.o) (hh1.mono e2) e3 hq h3 (full_range v)
    have x2 := x1.trans e2.o
    have hh2 := hh1.mono e2
    refine q_when (et_test (ev_eqN (a := way) (b := 1) (ev_var rfl) ev_c)) (fun hb H3 e3 => ?_) (fun hb H3 e3 => ?_)
    · exact s_retL (el_lst (ea_cons (ev_f (ea_cons (ev_var rfl) ea_nil) (sv_every hv)) ea_nil) (by show 1 ≤ 100000; decide)) fun q H4 hq e4 h4 => kr (ms := [2 ^ v - 1]) (x2.trans e3.o) (hh2.mono e3) e4 hq h4 (full_one v)
    have x3 := x2.trans e3.o
    have hh3 := hh2.mono e3
    refine q_val (lc_pre ?_)
    refine take_at (m := 4) rfl ev_c (by decide) (by decide) hh3 fun H4 r x4 hh4 hr4 => .inl ⟨1, (r : Int), rfl, rfl, ?_⟩
    have x34 := x3.trans x4
    have hea : EvA (fun (_ : L2.St) (H : Hp) (R : List V → Hp → Prop) => R [V.int (1 + (r : Int))] H) (List.set (L2.start N__law_members [V.ref h, vn v]) 2 (some (vn way))) H4 [vn (1 + r)] := by
      have e : (vn (1 + r)) = V.int (1 + (r : Int)) := congrArg V.int (by omega)
      rw [e]
      exact ea_pre
    dsimp only [tNil]
    refine lc_draw (b := 2 ^ v) (n := 1 + r) (j := 4) (vs := [4]) hea (by omega) hh4 (by intro x; rfl) (fun i H5 hi _ hh5 Q' q => ?_) fun D H5 ns x5 hh5 hD hns hl hb => ?_
    · exact take_at rfl (ev2 rfl) vp (by omega) hh5 fun H6 r x6 hh6 hr => q H6 _ x6 hh6 hr
    have x35 := x34.trans x5
    refine take_at (m := 2) rfl ev_c (by decide) (by decide) hh5 fun H6 b x6 hh6 _ => ⟨_, rfl, ?_⟩
    have x36 := x35.trans x6
    have hns6 : LstN H6 D ns := LstN.x x6 hh5 hns
    have fin : ∀ {σ : L2.St} {H7 : Hp} {lots : List Nat}, σ[1]? = some (some (vn v)) → σ[3]? = some (some (.ref D)) → XO h H H7 → HandAt H7 h c → LstN H7 D lots → ∀ {E : XK}, tRet (tCall (spMet K) [] E (tCons (tVar 1) (tCons (tVar 3) tNil))) { nx := fun _ H' => Q .non H', rt := Q } σ H7 := fun h1 h3 x7 hh7 hl7 E =>
      callA (ea_cons (ev_var h1) (ea_cons (ev_var h3) ea_nil)) fun H8 e8 => ⟨v, D, _, rfl, hv, hl7.mono e8, fun D2 H9 ms e9 hD2 hms full => kr x7 hh7 (e8.trans e9) (fresh_back e8 hD2) hms full⟩
    by_cases z : ((b : Int) != 0) = true
    · refine (if_pos z).mpr ?_
      have nDh : D ≠ h := fun y => by subst y; obtain ⟨_, _, _, _, q, _⟩ := hh4; rw [q] at hD; cases hD
      have nDc : D ≠ c := fun y => by subst y; obtain ⟨_, _, _, _, _, q, _⟩ := hh4; rw [q] at hD; cases hD
      have hD0 := fresh_xo x34 hh4 hD
      refine s_app (v := .int 0) hns6 (ev_var rfl) ev_c (by rw [List.length_map]; omega) fun H7 e7 => ?_
      refine fin (lots := ns ++ [0]) rfl rfl ?_ ?_ ?_
      · exact fun a o na q => by
          rw [upd_ne (ne_of_none q hD0)]
          exact e7 _ _ (x36 _ _ na q)
      · obtain ⟨ms, p, r', t, q1, q2, q3⟩ := hh6
        exact ⟨ms, p, r', t, by rw [upd_ne nDh.symm]; exact e7 _ _ q1, by rw [upd_ne nDc.symm]; exact e7 _ _ q2, q3⟩
      · show upd _ _ _ _ = _
        rw [upd_same, List.map_append]
        rfl
    · refine (if_neg z).mpr ?_
      exact fin rfl rfl x36 hh6 hns6
end
end TA
end
/-! TaL6 -/
section
set_option Elab.async false
set_option linter.all false
set_option autoImplicit false
set_option maxRecDepth 100000
set_option maxHeartbeats 4000000
namespace TA
open PySem PySem.Spec PyProof.Rows L2 Evl
/-! ### the program that the law draws -/
structure Drawn (ns : List Str) (lv dp : Nat) (pg : Pg) : Prop where
  use : ∀ x ∈ pg.uses, x ∈ ns
  ht : pg.ht ≤ lv + dp
  wt : pg.wt ≤ lv * (1 + 7 * dp)
  lw : pg.lw + 1 ≤ lv * (2 + 16 * dp)
  ok : ∀ deep ag had, deep + lv + dp ≤ 13 → ag + dp ≤ 4 → had + lv * (2 + dp) ≤ 61 → ∃ m, chk ns (ndOf pg) deep ag had = some m ∧ m + 1 ≤ had + lv * (2 + dp)
theorem inNames_mem {ns : List Str} {s : Str} (h : s ∈ ns) : inNames ns (.str s) = true := decide_eq_true h
section
variable {ns : List Str} {lv l2 dp : Nat} {p q : Pg}
theorem Drawn.nope (h : 1 ≤ lv) (hd : dp ≤ 1) : Drawn ns lv dp .no := by
  refine ⟨fun x hx => (nomatch hx), by show 1 ≤ _; omega, Nat.zero_le _, ?_, fun deep ag had h1 h2 h3 => ⟨had + 1, ?_, ?_⟩⟩
  · show 1 + 1 ≤ _
    rcases (by omega : dp = 0 ∨ dp = 1) with rfl | rfl <;> omega
  · show (if 12 < deep then none else if 60 ≤ had then none else some (had + 1)) = _
    rw [if_neg (by omega), if_neg (by rcases (by omega : dp = 0 ∨ dp = 1) with rfl | rfl <;> omega)]
  · rcases (by omega : dp = 0 ∨ dp = 1) with rfl | rfl <;> omega
theorem Drawn.step {s : Str} (hs : s ∈ ns) (h : 1 ≤ lv) (hd : dp ≤ 1) : Drawn ns lv dp (.st s) := by
  refine ⟨fun x hx => by rw [List.mem_singleton.mp hx]; exact hs, by show 1 ≤ _; omega, ?_, ?_, fun deep ag had h1 h2 h3 => ⟨had + 1, ?_, ?_⟩⟩
  · show 1 ≤ _
    rcases (by omega : dp = 0 ∨ dp = 1) with rfl | rfl <;> omega
  · show 1 + 1 ≤ _
    rcases (by omega : dp = 0 ∨ dp = 1) with rfl | rfl <;> omega
  · show (if 12 < deep then none else if 60 ≤ had then none else if inNames ns (.str s) = true then some (had + 1) else none) = _
    rw [if_neg (by omega), if_neg (by rcases (by omega : dp = 0 ∨ dp = 1) with rfl | rfl <;> omega), if_pos (inNames_mem hs)]
  · rcases (by omega : dp = 0 ∨ dp = 1) with rfl | rfl <;> omega
theorem Drawn.again (h : 1 ≤ lv) (a : Drawn ns lv 0 p) : Drawn ns lv 1 (.ag p) := by
  obtain ⟨u, ht, wt, lw, ok⟩ := a
  refine ⟨u, by show p.ht + 1 ≤ _; omega, by show 8 * p.wt ≤ _; omega, by show 8 * p.lw + 8 + 1 ≤ _; omega, fun deep ag had h1 h2 h3 => ?_⟩
  obtain ⟨m, e, le⟩ := ok (deep + 1) (ag + 1) (had + 1) (by omega) (by omega) (by omega)
  refine ⟨m, ?_, by omega⟩
  show (if 12 < deep then none else if 60 ≤ had then none else if 4 ≤ ag then none else chk ns (ndOf p) (deep + 1) (ag + 1) (had + 1)) = _
  rw [if_neg (by omega), if_neg (by omega), if_neg (by omega)]
  exact e
theorem Drawn.two (h : 1 ≤ lv) (h2 : 1 ≤ l2) (hd : dp ≤ 1) (a : Drawn ns lv dp p) (b : Drawn ns l2 dp q) : Drawn ns (lv + l2) dp (.be p q) ∧ Drawn ns (lv + l2) dp (.ei p q) := by
  obtain ⟨u, ht, wt, lw, ok⟩ := a
  obtain ⟨u2, ht2, wt2, lw2, ok2⟩ := b
  have uu : ∀ x ∈ p.uses ++ q.uses, x ∈ ns := fun x hx => (List.mem_append.mp hx).elim (u x) (u2 x)
  have hh : max p.ht q.ht + 1 ≤ lv + l2 + dp := by omega
  have ww : p.wt + q.wt ≤ (lv + l2) * (1 + 7 * dp) := by rw [Nat.add_mul]; omega
  have ll : p.lw + q.lw + 1 + 1 ≤ (lv + l2) * (2 + 16 * dp) := by rw [Nat.add_mul]; omega
  have kk : ∀ deep ag had, deep + (lv + l2) + dp ≤ 13 → ag + dp ≤ 4 → had + (lv + l2) * (2 + dp) ≤ 61 → ∃ m, (if 12 < deep then none else if 60 ≤ had then none else (chk ns (ndOf p) (deep + 1) ag (had + 1)).bind fun m => chk ns (ndOf q) (deep + 1) ag m) = some m ∧ m + 1 ≤ had + (lv + l2) * (2 + dp) := fun deep ag had h3 h4 h5 => by
    rw [Nat.add_mul] at h5 ⊢
    have x1 : 2 ≤ lv * (2 + dp) := by rcases (by omega : dp = 0 ∨ dp = 1) with rfl | rfl <;> omega
    have x2 : 2 ≤ l2 * (2 + dp) := by rcases (by omega : dp = 0 ∨ dp = 1) with rfl | rfl <;> omega
    obtain ⟨m, e, le⟩ := ok (deep + 1) ag (had + 1) (by omega) h4 (by omega)
    obtain ⟨m2, e2, le2⟩ := ok2 (deep + 1) ag m (by omega) h4 (by omega)
    refine ⟨m2, ?_, by omega⟩
    rw [if_neg (by omega), if_neg (by omega), e]
    exact e2
  exact ⟨⟨uu, hh, ww, ll, kk⟩, ⟨uu, hh, ww, ll, kk⟩⟩
theorem Drawn.goods {v : Nat} {rs : List (List Nat)} (d : Drawn ns lv dp p) (h : lv ≤ 3) (hd : dp ≤ 1) (hv : Vok v) (hr : ∀ r ∈ rs, RowOk v r) : Goods v ns rs p := by
  obtain ⟨u, ht, wt, lw, ok⟩ := d
  refine ⟨⟨hv, hr, u⟩, by omega, ?_, ?_, ?_⟩
  · rcases (by omega : dp = 0 ∨ dp = 1) with rfl | rfl <;> omega
  · rcases (by omega : dp = 0 ∨ dp = 1) with rfl | rfl <;> omega
  · obtain ⟨m, e, _⟩ := ok 1 0 0 (by omega) (by omega) (by rcases (by omega : dp = 0 ∨ dp = 1) with rfl | rfl <;> omega)
    rw [e]
    rfl
end
/-- if a and b, b not pure -/
theorem q_whenAnd {σ : L2.St} {H : Hp} {D : Ends} {t u : TT} {tu tz : TS} {b : Bool} (h : EvT t σ H b) (h1 : b = true → ∀ H1, Ex H H1 → tSeq (tIfS u tu tNext) tz D σ H1) (h2 : b = false → ∀ H1, Ex H H1 → tz D σ H1) : tSeq (tIfS (tAnd t u) tu tNext) tz D σ H := h H (Ex.refl H) _ fun H1 e => by
  cases b with
  | true => exact (if_pos rfl).mpr (h1 rfl H1 e)
  | false => exact (if_neg (by decide)).mpr ((if_neg (by decide)).mpr (h2 rfl H1 e))
section
variable {P : Program} {w : World} {K : PySem.W.Frag} {mg : Str → Option Value} {base : Heap}
def RetPg (H : Hp) (h c : Addr) (ns : List Str) (lv dp : Nat) (Q : VK) : Prop := ∀ p H2 pg, XO h H H2 → HandAt H2 h c → PrAt H2 pg p → Drawn ns lv dp pg → Q (.ref p) H2
def spProg (_ : PySem.W.Frag) (n : Nat) : Sp := fun vs H Q _ => ∃ (h c N : Addr) (lv dp : Nat) (ns : List Str), vs = [.ref h, .ref N, vn lv, vn dp] ∧ HandAt H h c ∧ H N = some (.lst (ns.map V.str)) ∧ ns ≠ [] ∧ ns.length ≤ 100 ∧ 1 ≤ lv ∧ dp ≤ 1 ∧ lv + dp ≤ n ∧ n ≤ 10 ∧ RetPg H h c ns lv dp Q
theorem ok__law_program (T : Txt w K mg) : ∀ n, Fok P w K mg base (n + 4) (a__law_program K) P__law_program (spProg K n)
  | 0 => by
    refine fok T.f__law_program sc__law_program (fun _ _ _ _ _ _ us hl => match us, hl with | [_, _, _, _], _ => rfl) (fun vs H Q E h => ?_) (fun cdv A outer s H vs Q E hr h => ?_)
    · obtain ⟨h, c, N, lv, dp, ns, rfl, _⟩ := h
      rfl
    · obtain ⟨h, c, N, lv, dp, ns, rfl, _, _, _, _, h1, _, h2, _⟩ := h
      omega
  | n + 1 => by
    have F__law_program := ok__law_program T n
    have F__law_take := ok__law_take (P := P) (base := base) T
    refine fok T.f__law_program sc__law_program (fun _ _ _ _ _ _ us hl => match us, hl with | [_, _, _, _], _ => rfl) (fun vs H Q E h => ?_) (fun cdv A outer s H vs Q E hr h => ?_)
    · obtain ⟨h, c, N, lv, dp, ns, rfl, _⟩ := h
      rfl
    · obtain ⟨h, c, N, lv, dp, ns, rfl, hh, hN, hne, hz, h1, hd, hm, hn, k⟩ := h
      have H64 := hr.units
      refine ⟨_, (pss_cons (ps_set (i := 4) sc__law_program.nd rfl (Or.inl rfl) (pe_f F__law_take T.c__law_take (hr.mono (by omega)) (px rfl rfl rfl rfl) (pa_cons (pv 0) (pa_cons pe_int pa_nil))))
      (pss_cons (ps_if (PW.pt (pw_and (pt_cmpR op_gt (pv 3) pe_int (nomark _)) (pw_and1 (pt_cmpR op_lt (pv 4) pe_int (nomark _))))) (pss_one (ps_ret (pe_tup (pa_cons pe_str (pa_cons (pe_f F__law_program T.c__law_program (hr.mono (by omega)) (px rfl rfl rfl rfl) (pa_cons (pv 0) (pa_cons (pv 1) (pa_cons (pv 2) (pa_cons (pe_op op_sub (pv 3) pe_int) pa_nil))))) pa_nil))))) pss_nil)
      (pss_cons (ps_if (pt_cmpR op_lt (pv 2) pe_int (nomark _)) (pss_cons (ps_if (PW.pt (pw_and (pt_cmpR (op_eqA H64) (pv 4) pe_int (nomark _)) (pw_and1 (pt_cmpR (op_eqA H64) (pe_f F__law_take T.c__law_take (hr.mono (by omega)) (px rfl rfl rfl rfl) (pa_cons (pv 0) (pa_cons pe_int pa_nil))) pe_int (nomark _))))) (pss_one (ps_ret (pe_tup (pa_cons pe_str pa_nil)))) pss_nil)
      (pss_one (ps_ret (pe_tup (pa_cons pe_str (pa_cons (pe_ix ix_A (pv 1) (pe_f F__law_take T.c__law_take (hr.mono (by omega)) (px rfl rfl rfl rfl) (pa_cons (pv 0) (pa_cons (pe_callB call_len_seq rfl T.m_len bt_len (pa_cons (pv 1) pa_nil)) pa_nil))) (fun _ _ => rfl)) pa_nil)))))) pss_nil)
      (pss_cons (ps_set (i := 5) sc__law_program.nd rfl (Or.inl rfl) (pe_op op_addA pe_int (pe_f F__law_take T.c__law_take (hr.mono (by omega)) (px rfl rfl rfl rfl) (pa_cons (pv 0) (pa_cons (pe_op op_sub (pv 2) pe_int) pa_nil)))))
      (pss_cons (ps_set (i := 6) sc__law_program.nd rfl (Or.inl rfl) (pe_ifExp (pt_cmpR op_lt (pv 4) pe_int (nomark _)) pe_str pe_str))
      (pss_cons (ps_set (i := 7) sc__law_program.nd rfl (Or.inl rfl) (pe_f F__law_program T.c__law_program (hr.mono (by omega)) (px rfl rfl rfl rfl) (pa_cons (pv 0) (pa_cons (pv 1) (pa_cons (pv 5) (pa_cons (pv 3) pa_nil))))))
      (pss_one (ps_ret (pe_tup (pa_cons (pv 6) (pa_cons (pv 7) (pa_cons (pe_f F__law_program T.c__law_program (hr.mono (by omega)) (px rfl rfl rfl rfl) (pa_cons (pv 0) (pa_cons (pv 1) (pa_cons (pe_op op_sub (pv 2) (pv 5)) (pa_cons (pv 3) pa_nil))))) pa_nil)))))))))))), ?_⟩
      have kr : ∀ {H2 H3 : Hp} {p : Addr} {pg : Pg}, XO h H H2 → HandAt H2 h c → Ex H2 H3 → PrAt H3 pg p → Drawn ns lv dp pg → Q (.ref p) H3 := fun x2 h2 e3 hp d => k _ _ _ (x2.trans e3.o) (h2.mono e3) hp d
      refine take_at (m := 8) rfl ev_c (by decide) (by decide) hh fun H1 way x1 hh1 _ => ?_
      have hN1 := strs_x x1 hh hN
      refine q_when (b := decide (0 < dp) && decide (way < 2)) (et_is (et_and (et_test (ev_gt (i := (dp : Int)) (j := 0) (ev_var rfl) ev_c)) (fun _ => et_test (ev_lt (i := (way : Int)) (j := 2) (ev_var rfl) ev_c))) ?_) (fun hb H2 e2 => ?_) (fun hb H2 e2 => ?_)
      · congr 1
        · exact decide_eq_decide.mpr (by omega)
        · exact decide_eq_decide.mpr (by omega)
      · have hd1 : dp = 1 := by
          have := of_decide_eq_true (Bool.and_eq_true_iff.mp hb).1
          omega
        subst hd1
        refine callA (ea_cons (ev_var rfl) (ea_cons (ev_var rfl) (ea_cons (ev_var rfl) (ea_cons (x := vn 0) (ev_is (ev_sub (i := ((1 : Nat) : Int)) (j := 1) (ev_var rfl) ev_c) rfl) ea_nil)))) fun H3 e3 => ?_
        have x3 := x1.trans (e2.trans e3).o
        refine ⟨h, c, N, lv, 0, ns, rfl, hh1.mono (e2.trans e3), (e2.trans e3) _ _ hN1, hne, hz, h1, by omega, by omega, by omega, fun p H4 pg x4 hh4 hp dr => ?_⟩
        refine ⟨by show 2 ≤ sizeLine; decide, fun t ht => ?_⟩
        exact kr (pg := .ag pg) (x3.trans x4) hh4 (Ex.new ht) ⟨p, upd_same, hp.n (Ex.new ht).n⟩ (dr.again h1)
      have x2 := x1.trans e2.o
      have hh2 := hh1.mono e2
      have hN2 := e2 _ _ hN1
      refine q_when (et_test (ev_lt (i := (lv : Int)) (j := 2) (ev_var rfl) ev_c)) (fun hb H3 e3 => ?_) (fun hb H3 e3 => ?_)
      · have x3 := x2.trans e3.o
        have hh3 := hh2.mono e3
        have hN3 := e3 _ _ hN2
        have stp : ∀ {H4 : Hp}, XO h H H4 → HandAt H4 h c → H4 N = some (.lst (ns.map V.str)) → ∀ {E : XK} {t : Nat}, tRet (tTup (tCons (tC (.str "step")) (tCons (tOp (rIxA K) (tVar 1) (tCall (spTake K) [] E (tCons (tVar 0) (tCons (tCB (fun ws H Q => ∃ p ys, ws = [.ref p] ∧ (SqL K H p ys ∨ SqT K H p ys) ∧ Q (.int ys.length) H) (tCons (tVar 1) tNil)) tNil)))) tNil))) { nx := fun _ H' => Q .non H', rt := Q } [some (.ref h), some (.ref N), some (vn lv), some (vn dp), some (vn way), none, none, none] H4 := fun x4 hh4 hN4 E t => by
          have hp : 0 < ns.length := List.length_pos_iff.mpr hne
          refine ⟨_, rfl, ?_⟩
          refine take_at (m := (ns.map V.str).length) rfl (ev_lenL (ev_var rfl) hN4) (by rw [List.length_map]; exact hp) (by rw [List.length_map]; omega) hh4 fun H5 r x5 hh5 lt => ?_
          rw [List.length_map] at lt
          have hN5 := strs_x x5 hh4 hN4
          refine (rv_or1 (rv_ixL (i := (r : Int)) (v := .str ns[r]) (sq_of hN5) (atI_nat (by rw [List.getElem?_map, List.getElem?_eq_getElem lt]; rfl)))) H5 (Ex.refl H5) _ fun H6 e6 => ?_
          refine ⟨by show 2 ≤ sizeLine; decide, fun q hq => ?_⟩
          exact kr (pg := .st ns[r]) (x4.trans x5) hh5 (e6.trans (Ex.new hq)) upd_same (Drawn.step (List.getElem_mem lt) h1 hd)
        refine q_whenAnd (et_test (ev_eqN (a := way) (b := 7) (ev_var rfl) ev_c)) (fun hb H4 e4 => ?_) (fun hb H4 e4 => stp (x3.trans e4.o) (hh3.mono e4) (e4 _ _ hN3) (t := 0))
        refine take_at (m := 3) rfl ev_c (by decide) (by decide) (hh3.mono e4) fun H5 r x5 hh5 _ => ?_
        have x35 := (x3.trans e4.o).trans x5
        have hN5 := strs_x x5 (hh3.mono e4) (e4 _ _ hN3)
        refine (rv_or1 (rv_eq (x := vn r) (y := .int 0) rfl)) H5 (Ex.refl H5) _ fun H6 e6 => ⟨_, rfl, ?_⟩
        by_cases z : decide (vn r = .int 0) = true
        · refine (if_pos z).mpr ?_
          refine ⟨by show 1 ≤ sizeLine; decide, fun q hq => ?_⟩
          exact kr (pg := .no) x35 hh5 (e6.trans (Ex.new hq)) upd_same (Drawn.nope h1 hd)
        · refine (if_neg z).mpr ?_
          exact stp (x35.trans e6.o) (hh5.mono e6) (e6 _ _ hN5) (t := 0)
      · have x3 := x2.trans e3.o
        have hh3 := hh2.mono e3
        have hN3 := e3 _ _ hN2
        have l2 : 2 ≤ lv := by
          have := of_decide_eq_false hb
          omega
        refine q_val ?_
        refine take_at (m := lv - 1) rfl (ev_is (ev_sub (i := (lv : Int)) (j := 1) (ev_var rfl) ev_c) (congrArg V.int (by omega))) (by omega) (by omega) hh3 fun H4 r x4 hh4 lt => .inl ⟨1, (r : Int), rfl, rfl, ?_⟩
        have x34 := x3.trans x4
        have hN4 := strs_x x4 hh3 hN3
        have er : V.int (1 + (r : Int)) = vn (1 + r) := congrArg V.int (by omega)
        dsimp only
        rw [er]
        have two : ∀ {z : Str} {H5 : Hp}, Ex H4 H5 → (∀ {p q pg qg t H7 H8}, XO h H H7 → HandAt H7 h c → Ex H7 H8 → PrAt H8 pg p → PrAt H8 qg q → H8 t = some (.tup [.str z, .ref p, .ref q]) → Drawn ns (1 + r) dp pg → Drawn ns (lv - (1 + r)) dp qg → Q (.ref t) H8) → ∀ {E : XK} {tz : TS}, tSeq (tAsg (tCall (spProg K n) [] E (tCons (tVar 0) (tCons (tVar 1) (tCons (tVar 5) (tCons (tVar 3) tNil))))) (gName 7)) (tRet (tTup (tCons (tVar 6) (tCons (tVar 7) (tCons (tCall (spProg K n) [] E (tCons (tVar 0) (tCons (tVar 1) (tCons (tOp (rI0 fun i j => .int (i - j)) (tVar 2) (tVar 5)) (tCons (tVar 3) tNil))))) tNil))))) { nx := fun _ H' => Q .non H', rt := Q } [some (.ref h), some (.ref N), some (vn lv), some (vn dp), some (vn way), some (vn (1 + r)), some (.str z), none] H5 := fun e5 kk E tz => by
          refine q_val ?_
          refine callA (ea_cons (ev_var rfl) (ea_cons (ev_var rfl) (ea_cons (ev_var rfl) (ea_cons (ev_var rfl) ea_nil)))) fun H6 e6 => ?_
          refine ⟨h, c, N, 1 + r, dp, ns, rfl, hh4.mono (e5.trans e6), (e5.trans e6) _ _ hN4, hne, hz, by omega, hd, by omega, by omega, fun p H7 pg x7 hh7 hp dr => ?_⟩
          have hN7 := strs_x x7 (hh4.mono (e5.trans e6)) ((e5.trans e6) _ _ hN4)
          refine ⟨_, rfl, _, rfl, ?_⟩
          refine callA (ea_cons (ev_var rfl) (ea_cons (ev_var rfl) (ea_cons (x := vn (lv - (1 + r))) (ev_is (ev_sub (i := (lv : Int)) (j := ((1 + r : Nat) : Int)) (ev_var rfl) (ev_var rfl)) (congrArg V.int (by omega))) (ea_cons (ev_var rfl) ea_nil)))) fun H8 e8 => ?_
          refine ⟨h, c, N, lv - (1 + r), dp, ns, rfl, hh7.mono e8, e8 _ _ hN7, hne, hz, by omega, hd, by omega, by omega, fun q H9 qg x9 hh9 hq dr2 => ?_⟩
          refine ⟨by show 3 ≤ sizeLine; decide, fun t ht => ?_⟩
          exact kk ((((x34.trans (e5.trans e6).o).trans x7).trans e8.o).trans x9) hh9 (Ex.new ht) ((hp.n (e8.n.trans (HandAt.nx (hh7.mono e8) x9))).n (Ex.new ht).n) (hq.n (Ex.new ht).n) upd_same dr dr2
        have el : (1 + r) + (lv - (1 + r)) = lv := by omega
        by_cases z : way < 5
        · refine q_asg (v := .str "behind") (ev_if (b := true) (et_is (et_test (ev_lt (i := (way : Int)) (j := 5) (ev_var rfl) ev_c)) (decide_eq_true (by omega))) (fun _ => ev_c) (fun q => nomatch q)) fun H5 e5 => two e5 (fun {p q pg qg t H7 H8} x7 hh7 e8 hp hq ht d1 d2 => ?_) (tz := tNext)
          refine kr (pg := .be pg qg) x7 hh7 e8 ⟨p, q, ht, hp, hq⟩ ?_
          have := (Drawn.two (by omega) (by omega) hd d1 d2).1
          rwa [el] at this
        · refine q_asg (v := .str "either") (ev_if (b := false) (et_is (et_test (ev_lt (i := (way : Int)) (j := 5) (ev_var rfl) ev_c)) (decide_eq_false (by omega))) (fun q => nomatch q) (fun _ => ev_c)) fun H5 e5 => two e5 (fun {p q pg qg t H7 H8} x7 hh7 e8 hp hq ht d1 d2 => ?_) (tz := tNext)
          refine kr (pg := .ei pg qg) x7 hh7 e8 ⟨p, q, ht, hp, hq⟩ ?_
          have := (Drawn.two (by omega) (by omega) hd d1 d2).2
          rwa [el] at this
end
end TA
end
/-! TaL7 -/
section
set_option Elab.async false
set_option linter.all false
set_option autoImplicit false
set_option maxRecDepth 100000
set_option maxHeartbeats 4000000
namespace TA
open PySem PySem.Spec PyProof.Rows L2 Evl
/-- a step met: its path, its name, its lot -/
def RnAt (H : Hp) (x : V) (q : Str × Nat) : Prop := ∃ t pa, x = .ref t ∧ H t = some (.tup [.ref pa, .str q.1, vn q.2])
theorem RnAt.n {H H' : Hp} {x : V} {q : Str × Nat} (d : RnAt H x q) (e : ExN H H') : RnAt H' x q := let ⟨t, pa, h0, h1⟩ := d; ⟨t, pa, h0, e _ _ (fun _ z => nomatch z) h1⟩
/-- the rows, none of them the list M -/
def RwM (H : Hp) (d M : Addr) (es : List (Str × List Nat)) : Prop := ∃ kvs : List (Key × V), H d = some (.dK kvs) ∧ ∀ q ∈ es, ∃ r, valV kvs (.inr q.1) = some (.ref r) ∧ LstN H r q.2 ∧ r ≠ M
theorem RwM.x {H H' : Hp} {d M : Addr} {es : List (Str × List Nat)} {ms : List V} (a : RwM H d M es) (e : XO M H H') (hM : H M = some (.lst ms)) : RwM H' d M es := let ⟨kvs, h1, h2⟩ := a; ⟨kvs, e.n hM _ _ (fun _ z => nomatch z) h1, fun q hq => let ⟨r, r1, r2, r3⟩ := h2 q hq; ⟨r, r1, e _ _ r3 r2, r3⟩⟩
theorem RwM.mono {H H' : Hp} {d M : Addr} {es : List (Str × List Nat)} (a : RwM H d M es) (e : Ex H H') : RwM H' d M es := let ⟨kvs, h1, h2⟩ := a; ⟨kvs, e _ _ h1, fun q hq => let ⟨r, r1, r2, r3⟩ := h2 q hq; ⟨r, r1, r2.mono e, r3⟩⟩
abbrev nms (es : List (Str × List Nat)) : List Str := es.map (·.1)
abbrev rws (es : List (Str × List Nat)) : List (List Nat) := es.map (·.2)
theorem row_mem : ∀ {es : List (Str × List Nat)} {x : Str}, x ∈ nms es → (x, rowOf (nms es) (rws es) x) ∈ es
  | [], _, h => nomatch h
  | q :: es, x, h => by
    show (x, if q.1 = x then q.2 else rowOf (nms es) (rws es) x) ∈ _
    by_cases z : q.1 = x
    · rw [if_pos z, ← z]
      exact List.mem_cons_self ..
    · rw [if_neg z]
      refine List.mem_cons_of_mem _ (row_mem ?_)
      rcases List.mem_cons.mp h with y | y
      · exact absurd y.symm z
      · exact y
theorem ev_dget {σ : L2.St} {H : Hp} {td ty : TE} {d : Addr} {kvs : List (Key × V)} {k : Key} {v : V} (hd : Ev td σ H (.ref d)) (hk : Ev ty σ H (kV k)) (h : H d = some (.dK kvs)) (hv : valV kvs k = some v) : Ev (tDGet td ty) σ H v := fun H1 e Q q =>
  hd H1 e _ fun H2 e2 => hk H2 (e.trans e2) _ fun H3 e3 => ⟨d, v, rfl, hv ▸ DGet.k (((e.trans e2).trans e3) _ _ h), q H3 (e2.trans e3)⟩
def spRun (_ : PySem.W.Frag) (n : Nat) : Sp := fun vs H Q _ => ∃ (d p pa M : Addr) (v : Nat) (es : List (Str × List Nat)) (pg : Pg) (lot : Nat) (xs ms : List V), vs = [.ref d, .ref p, vn lot, .ref pa, .ref M] ∧ RwM H d M es ∧ PrAt H pg p ∧ pg.ht ≤ n ∧ Fit v (nms es) (rws es) pg ∧ lot < 2 ^ v ∧
  H pa = some (.tup xs) ∧ xs.length + n ≤ 1000 ∧ H M = some (.lst ms) ∧ ms.length + pg.wt < 100000 ∧
  ∀ H2 new, XO M H H2 → H2 M = some (.lst (ms ++ new)) → Paired (RnAt H2) new (runN (rowOf (nms es) (rws es)) pg lot).2 → Q (vn (runN (rowOf (nms es) (rws es)) pg lot).1) H2
section
variable {P : Program} {w : World} {K : PySem.W.Frag} {mg : Str → Option Value} {base : Heap}
theorem run_at {n : Nat} {σ : L2.St} {H : Hp} {Q : VK} {E : XK} {d p pa M : Addr} {v : Nat} {es : List (Str × List Nat)} {pg : Pg} {lot : Nat} {xs ms : List V} {tb tl te : TE} {z : V} (h0 : σ[0]? = some (some (.ref d))) (hb : Ev tb σ H (.ref p)) (hl : Ev tl σ H (vn lot)) (h3 : σ[3]? = some (some (.ref pa)))
    (he : ∀ H1, Ex H H1 → Ev te σ H1 z) (h4 : σ[4]? = some (some (.ref M))) (hS : RwM H d M es) (hp : PrAt H pg p) (hh : pg.ht ≤ n) (hF : Fit v (nms es) (rws es) pg) (hlt : lot < 2 ^ v) (hx : H pa = some (.tup xs)) (hz : xs.length + n < 1000) (hM : H M = some (.lst ms)) (hw : ms.length + pg.wt < 100000)
    (k : ∀ H2 new, XO M H H2 → H2 M = some (.lst (ms ++ new)) → Paired (RnAt H2) new (runN (rowOf (nms es) (rws es)) pg lot).2 → Q (vn (runN (rowOf (nms es) (rws es)) pg lot).1) H2) :
    tCall (spRun K n) [] E (tCons (tVar 0) (tCons tb (tCons tl (tCons (tOp (rAddA K) (tVar 3) (tTup (tCons te tNil))) (tCons (tVar 4) tNil))))) σ H Q := by
  refine ⟨_, h0, ?_⟩
  refine go hb fun H1 e1 => ?_
  refine hl H1 e1 _ fun H2 e2 => ?_
  have e12 := e1.trans e2
  refine catT (xs := xs) (v := z) (ev_var h3) (e12 _ _ hx) (by omega) (fun H3 e3 => he H3 (e12.trans e3)) fun q H3 e3 hq => ?_
  have e := e12.trans e3
  refine ⟨_, h4, d, p, q, M, v, es, pg, lot, xs ++ [z], ms, rfl, hS.mono e, hp.n e.n, hh, hF, hlt, hq, ?_, e _ _ hM, hw, fun H4 new x4 hM4 hp4 => k H4 new (e.o.trans x4) hM4 hp4⟩
  rw [List.length_append, List.length_singleton]
  omega
theorem ok__law_run (T : Txt w K mg) : ∀ n, Fok P w K mg base (n + 10) (a__law_run K) P__law_run (spRun K n)
  | 0 => by
    refine fok T.f__law_run sc__law_run (fun _ _ _ _ _ _ us hl => match us, hl with | [_, _, _, _, _], _ => rfl) (fun vs H Q E h => ?_) (fun cdv A outer s H vs Q E hr h => ?_)
    · obtain ⟨d, p, pa, M, v, es, pg, lot, xs, ms, rfl, _⟩ := h
      rfl
    · obtain ⟨d, p, pa, M, v, es, pg, lot, xs, ms, rfl, _, _, h, _⟩ := h
      have := ht_pos pg
      omega
  | n + 1 => by
    have F__law_run := ok__law_run T n
    have F__law_next := ok__law_next (P := P) (base := base) T
    refine fok T.f__law_run sc__law_run (fun _ _ _ _ _ _ us hl => match us, hl with | [_, _, _, _, _], _ => rfl) (fun vs H Q E h => ?_) (fun cdv A outer s H vs Q E hr h => ?_)
    · obtain ⟨d, p, pa, M, v, es, pg, lot, xs, ms, rfl, _⟩ := h
      rfl
    · obtain ⟨d, p, pa, M, v, es, pg, lot, xs, ms, rfl, hS, hp, hh, hF, hl, hpa, hxz, hM, hwt, k⟩ := h
      have H64 := hr.units
      have HU := hu_of hr
      refine ⟨_, (pss_cons (ps_set (i := 5) sc__law_run.nd rfl (Or.inl rfl) (pe_ix ix_A (pv 1) pe_int (fun _ _ => rfl)))
      (pss_cons (ps_if (pt_cmpR (op_eqA H64) (pv 5) pe_str (nomark _)) (pss_one (ps_ret (pv 2))) pss_nil)
      (pss_cons (ps_if (pt_cmpR (op_eqA H64) (pv 5) pe_str (nomark _)) (pss_cons (ps_expr (pe_bm PySem.F.plainAttrs_list PySem.F.slot_list_append PySem.F.type_list_append mt_append (pv 4) (pa_cons (pe_tup (pa_cons (pv 3) (pa_cons (pe_ix ix_A (pv 1) pe_int (fun _ _ => rfl)) (pa_cons (pv 2) pa_nil)))) pa_nil)))
      (pss_one (ps_ret (pe_f F__law_next T.c__law_next (hr.mono (by omega)) (px rfl rfl rfl rfl) (pa_cons (pe_dget HU (pv 0) (pe_ix ix_A (pv 1) pe_int (fun _ _ => rfl)) (fun _ _ => rfl)) (pa_cons (pv 2) pa_nil)))))) pss_nil)
      (pss_cons (ps_if (pt_cmpR (op_eqA H64) (pv 5) pe_str (nomark _)) (pss_cons (ps_set (i := 6) sc__law_run.nd rfl (Or.inl rfl) (pe_f F__law_run T.c__law_run (hr.mono (by omega)) (px rfl rfl rfl rfl) (pa_cons (pv 0) (pa_cons (pe_ix ix_A (pv 1) pe_int (fun _ _ => rfl)) (pa_cons (pv 2) (pa_cons (pe_op op_addA (pv 3) (pe_tup (pa_cons pe_int pa_nil))) (pa_cons (pv 4) pa_nil)))))))
      (pss_one (ps_ret (pe_f F__law_run T.c__law_run (hr.mono (by omega)) (px rfl rfl rfl rfl) (pa_cons (pv 0) (pa_cons (pe_ix ix_A (pv 1) pe_int (fun _ _ => rfl)) (pa_cons (pv 6) (pa_cons (pe_op op_addA (pv 3) (pe_tup (pa_cons pe_int pa_nil))) (pa_cons (pv 4) pa_nil))))))))) pss_nil)
      (pss_cons (ps_if (pt_cmpR (op_eqA H64) (pv 5) pe_str (nomark _)) (pss_cons (ps_set (i := 7) sc__law_run.nd rfl (Or.inl rfl) (pe_f F__law_run T.c__law_run (hr.mono (by omega)) (px rfl rfl rfl rfl) (pa_cons (pv 0) (pa_cons (pe_ix ix_A (pv 1) pe_int (fun _ _ => rfl)) (pa_cons (pv 2) (pa_cons (pe_op op_addA (pv 3) (pe_tup (pa_cons pe_int pa_nil))) (pa_cons (pv 4) pa_nil)))))))
      (pss_one (ps_ret (pe_op op_or (pv 7) (pe_f F__law_run T.c__law_run (hr.mono (by omega)) (px rfl rfl rfl rfl) (pa_cons (pv 0) (pa_cons (pe_ix ix_A (pv 1) pe_int (fun _ _ => rfl)) (pa_cons (pv 2) (pa_cons (pe_op op_addA (pv 3) (pe_tup (pa_cons pe_int pa_nil))) (pa_cons (pv 4) pa_nil)))))))))) pss_nil)
      (pss_cons (ps_for (passes_of rfl) rfl (pi_range1 rfl T.m_range (pa_cons pe_int pa_nil)) (pg_name (i := 8) sc__law_run.nd rfl (Or.inl rfl)) (pss_cons (ps_set (i := 9) sc__law_run.nd rfl (Or.inl rfl) (pe_op op_or (pv 2) (pe_f F__law_run T.c__law_run (hr.mono (by omega)) (px rfl rfl rfl rfl) (pa_cons (pv 0) (pa_cons (pe_ix ix_A (pv 1) pe_int (fun _ _ => rfl)) (pa_cons (pv 2) (pa_cons (pe_op op_addA (pv 3) (pe_tup (pa_cons (pv 8) pa_nil))) (pa_cons (pv 4) pa_nil))))))))
      (pss_cons (ps_if (pt_cmpR (op_eqA H64) (pv 9) (pv 2) (nomark _)) (pss_one (ps_ret (pv 2))) pss_nil)
      (pss_one (ps_set (i := 2) sc__law_run.nd rfl (Or.inl rfl) (pv 9))))))
      (pss_one (ps_ret (pv 2))))))))), ?_⟩
      have no : ∀ {z y : Str} {σ : L2.St} {H2 : Hp} {t u : TS} {D : Ends}, σ[5]? = some (some (.str z)) → decide (z = y) = false → (∀ H3, Ex H2 H3 → u D σ H3) → tSeq (tIfS (tTest (tOp (rEqA K) (tVar 5) (tC (.str y)))) t tNext) u D σ H2 := fun h1 h2 h3 =>
        q_when (b := false) (et_is (et_test (ev_eqS (ev_var h1) ev_c)) h2) (fun z => nomatch z) (fun _ => h3)
      cases pg with
      | no =>
        refine q_asg (ev_ixT (ev_var rfl) (ev_c (v := .int 0)) hp rfl) fun H1 e1 => ?_
        refine q_when (b := true) (et_is (et_test (ev_eqS (ev_var rfl) ev_c)) (by decide +kernel)) (fun _ H3 e3 => ?_) (fun z => nomatch z)
        have e := e1.trans e3
        exact s_ret (ev_var rfl) fun H4 e4 => k H4 [] (e.trans e4).o (by rw [List.append_nil]; exact (e.trans e4) _ _ hM) .nil
      | st nm =>
        have hnm : nm ∈ nms es := hF.use nm (List.mem_singleton.mpr rfl)
        have hq := row_mem hnm
        refine q_asg (ev_ixT (ev_var rfl) (ev_c (v := .int 0)) hp rfl) fun H1 e1 => ?_
        refine no rfl (by decide +kernel) fun H1' e1' => ?_
        refine q_when (b := true) (et_is (et_test (ev_eqS (ev_var rfl) ev_c)) (by decide +kernel)) (fun _ H2 e2 => ?_) (fun z => nomatch z)
        have e12 := (e1.trans e1').trans e2
        refine q_appU (ys := [.ref pa, .str nm, vn lot]) (e12 _ _ hM) (ev_var rfl) (eu_tup (ea_cons (ev_var rfl) (ea_cons (ev_ixT (ev_var rfl) (ev_c (v := .int 1)) (e12 _ _ hp) rfl) (ea_cons (ev_var rfl) ea_nil))) (by show 3 ≤ 100000; decide)) (by omega) fun t H3 ht e3 ht3 => ?_
        have e13 := e12.trans e3
        have X : XO M H (upd H3 M (.lst (ms ++ [.ref t]))) := e13.o.trans XO.upd
        have n3 := X.n hM
        obtain ⟨kvs, hk, hv⟩ := hS.x X hM
        obtain ⟨r, r1, r2, r3⟩ := hv _ hq
        have ro := hF.rows _ (List.mem_map.mpr ⟨_, hq, rfl⟩)
        refine s_ret (ev_f (ea_cons (ev_dget (k := .inr nm) (ev_var rfl) (ev_ixT (ev_var rfl) (ev_c (v := .int 1)) (n3 _ _ (fun _ z => nomatch z) hp) rfl) hk r1) (ea_cons (ev_var rfl) ea_nil)) (sv_lnext r2 (by have := ro.len; have := hF.vok.2; omega))) fun H5 e5 => ?_
        have tm : t ≠ M := fun z => by subst z; rw [(e12 _ _ hM)] at ht; cases ht
        exact k H5 [.ref t] (X.trans e5.o) (e5 _ _ upd_same) (.cons ⟨t, pa, rfl, e5 _ _ (by rw [upd_ne tm]; exact ht3)⟩ .nil)
      | be p1 p2 =>
        obtain ⟨b, c, hp, hb, hc⟩ := hp
        have hh2 : max p1.ht p2.ht + 1 ≤ n + 1 := hh
        have hw2 : ms.length + (p1.wt + p2.wt) < 100000 := hwt
        have F1 : Fit v (nms es) (rws es) p1 := ⟨hF.vok, hF.rows, fun x hx => hF.use x (List.mem_append_left _ hx)⟩
        have F2 : Fit v (nms es) (rws es) p2 := ⟨hF.vok, hF.rows, fun x hx => hF.use x (List.mem_append_right _ hx)⟩
        refine q_asg (ev_ixT (ev_var rfl) (ev_c (v := .int 0)) hp rfl) fun H1 e1 => ?_
        refine no rfl (by decide +kernel) fun H2 e2 => ?_
        refine no rfl (by decide +kernel) fun H3 e3 => ?_
        refine q_when (b := true) (et_is (et_test (ev_eqS (ev_var rfl) ev_c)) (by decide +kernel)) (fun _ H4 e4 => ?_) (fun z => nomatch z)
        have e := ((e1.trans e2).trans e3).trans e4
        refine run_at rfl (ev_ixT (ev_var rfl) (ev_c (v := .int 1)) (e _ _ hp) rfl) (ev_var rfl) rfl (fun _ _ => ev_c) rfl (hS.mono e) (hb.n e.n) (by omega) F1 hl (e _ _ hpa) (by omega) (e _ _ hM) (by omega) fun H5 new x5 hM5 hp5 => ?_
        have x15 : XO M H H5 := e.o.trans x5
        have n5 : ExN H H5 := x15.n hM
        have wl : new.length ≤ p1.wt := by rw [Paired.length hp5]; exact runN_wt p1 lot
        refine run_at rfl (ev_ixT (ev_var rfl) (ev_c (v := .int 2)) (n5 _ _ (fun _ z => nomatch z) hp) rfl) (ev_var rfl) rfl (fun _ _ => ev_c) rfl (hS.x x15 hM) (hc.n n5) (by omega) F2 (runN_lt F1.lt p1 lot hl) (n5 _ _ (fun _ z => nomatch z) hpa) (by omega) hM5 (by rw [List.length_append]; omega) fun H6 new2 x6 hM6 hp6 => ?_
        refine k H6 (new ++ new2) (x15.trans x6) (by rw [← List.append_assoc]; exact hM6) (paired_app (Paired.mapP hp5 fun _ _ q => q.n (x6.n hM5)) hp6)
      | ei p1 p2 =>
        obtain ⟨b, c, hp, hb, hc⟩ := hp
        have hh2 : max p1.ht p2.ht + 1 ≤ n + 1 := hh
        have hw2 : ms.length + (p1.wt + p2.wt) < 100000 := hwt
        have F1 : Fit v (nms es) (rws es) p1 := ⟨hF.vok, hF.rows, fun x hx => hF.use x (List.mem_append_left _ hx)⟩
        have F2 : Fit v (nms es) (rws es) p2 := ⟨hF.vok, hF.rows, fun x hx => hF.use x (List.mem_append_right _ hx)⟩
        refine q_asg (ev_ixT (ev_var rfl) (ev_c (v := .int 0)) hp rfl) fun H1 e1 => ?_
        refine no rfl (by decide +kernel) fun H2 e2 => ?_
        refine no rfl (by decide +kernel) fun H3 e3 => ?_
        refine no rfl (by decide +kernel) fun H3' e3' => ?_
        refine q_when (b := true) (et_is (et_test (ev_eqS (ev_var rfl) ev_c)) (by decide +kernel)) (fun _ H4 e4 => ?_) (fun z => nomatch z)
        have e := (((e1.trans e2).trans e3).trans e3').trans e4
        refine run_at rfl (ev_ixT (ev_var rfl) (ev_c (v := .int 1)) (e _ _ hp) rfl) (ev_var rfl) rfl (fun _ _ => ev_c) rfl (hS.mono e) (hb.n e.n) (by omega) F1 hl (e _ _ hpa) (by omega) (e _ _ hM) (by omega) fun H5 new x5 hM5 hp5 => ?_
        have x15 : XO M H H5 := e.o.trans x5
        have n5 : ExN H H5 := x15.n hM
        have wl : new.length ≤ p1.wt := by rw [Paired.length hp5]; exact runN_wt p1 lot
        refine ⟨_, rfl, ?_⟩
        refine run_at rfl (ev_ixT (ev_var rfl) (ev_c (v := .int 2)) (n5 _ _ (fun _ z => nomatch z) hp) rfl) (ev_var rfl) rfl (fun _ _ => ev_c) rfl (hS.x x15 hM) (hc.n n5) (by omega) F2 hl (n5 _ _ (fun _ z => nomatch z) hpa) (by omega) hM5 (by rw [List.length_append]; omega) fun H6 new2 x6 hM6 hp6 => ?_
        refine r_bor ?_
        refine k H6 (new ++ new2) (x15.trans x6) (by rw [← List.append_assoc]; exact hM6) (paired_app (Paired.mapP hp5 fun _ _ q => q.n (x6.n hM5)) hp6)
      | ag p1 =>
        obtain ⟨b, hp, hb⟩ := hp
        have hh2 : p1.ht + 1 ≤ n + 1 := hh
        have hw2 : ms.length + 8 * p1.wt < 100000 := hwt
        have F1 : Fit v (nms es) (rws es) p1 := ⟨hF.vok, hF.rows, hF.use⟩
        refine q_asg (ev_ixT (ev_var rfl) (ev_c (v := .int 0)) hp rfl) fun H1 e1 => ?_
        refine no rfl (by decide +kernel) fun H2 e2 => ?_
        refine no rfl (by decide +kernel) fun H3 e3 => ?_
        refine no rfl (by decide +kernel) fun H3' e3' => ?_
        refine no rfl (by decide +kernel) fun H4 e4 => ?_
        have e := (((e1.trans e2).trans e3).trans e3').trans e4
        refine q_forR1 (n := 8) (ea_cons ev_c ea_nil) (by omega) (fun i σ' H' => ∃ (r m : Nat) (s8 s9 : Option V) (acc : List V) (tr : List (Str × Nat)), m + i = 8 ∧ XO M H H' ∧ H' M = some (.lst (ms ++ acc)) ∧ Paired (RnAt H') acc tr ∧ acc.length + m * p1.wt ≤ 8 * p1.wt ∧ r < 2 ^ v ∧
            (runN (rowOf (nms es) (rws es)) (.ag p1) lot) = ((agR m (runN (rowOf (nms es) (rws es)) p1) r).1, tr ++ (agR m (runN (rowOf (nms es) (rws es)) p1) r).2) ∧ σ' = [some (.ref d), some (.ref p), some (vn r), some (.ref pa), some (.ref M), some (.str "again"), none, none, s8, s9])
          (fun H5 e5 => ⟨lot, 8, none, none, [], [], rfl, (e.trans e5).o, by rw [List.append_nil]; exact (e.trans e5) _ _ hM, .nil, by simp, hl, rfl, rfl⟩) (fun i σ' H' hi q => ?_) (fun σ' H' q => ?_)
        · obtain ⟨r, m, s8, s9, acc, tr, hm, x1, hM1, hp1, hz1, hr1, hv, rfl⟩ := q
          have hi8 : i < 8 := by omega
          obtain ⟨m, rfl⟩ : ∃ j, m = j + 1 := ⟨m - 1, by omega⟩
          have n1 : ExN H H' := x1.n hM
          have hlt := runN_lt F1.lt p1 r hr1
          rw [Nat.succ_mul] at hz1
          refine ⟨_, rfl, ?_⟩
          refine run_at rfl (ev_ixT (ev_var rfl) (ev_c (v := .int 1)) (n1 _ _ (fun _ z => nomatch z) hp) rfl) (ev_var rfl) rfl (fun _ _ => ev_var rfl) rfl (hS.x x1 hM) (hb.n n1) (by omega) F1 hr1 (n1 _ _ (fun _ z => nomatch z) hpa) (by omega) hM1 (by rw [List.length_append]; omega) fun H8 new x8 hM8 hp8 => ?_
          have x18 : XO M H H8 := x1.trans x8
          have wl : new.length ≤ p1.wt := by rw [Paired.length hp8]; exact runN_wt p1 r
          have hp18 : Paired (RnAt H8) (acc ++ new) (tr ++ (runN (rowOf (nms es) (rws es)) p1 r).2) := paired_app (Paired.mapP hp1 fun _ _ q => q.n (x8.n hM1)) hp8
          rw [List.append_assoc] at hM8
          refine r_bor ?_
          refine q_when (et_test (ev_eqN (ev_var rfl) (ev_var rfl))) (fun hb2 H9 e9 => ?_) (fun hb2 H9 e9 => ?_)
          · have q := of_decide_eq_true hb2
            refine s_ret (ev_var rfl) fun H10 e10 => ?_
            have e80 := e9.trans e10
            have z := k H10 (acc ++ new) (x18.trans e80.o) (e80 _ _ hM8)
            rw [hv] at z
            unfold agR at z
            rw [if_pos q] at z
            exact z (Paired.mapP hp18 fun _ _ q => q.n e80.n)
          · have q := of_decide_eq_false hb2
            refine s_asg (ev_var rfl) fun H10 e10 => ?_
            have e81 := e9.trans e10
            refine ⟨_, m, _, _, acc ++ new, tr ++ (runN (rowOf (nms es) (rws es)) p1 r).2, by omega, x18.trans e81.o, e81 _ _ hM8, Paired.mapP hp18 fun _ _ q => q.n e81.n, ?_, Nat.or_lt_two_pow hr1 hlt, ?_, rfl⟩
            · rw [List.length_append]
              omega
            · rw [hv, List.append_assoc]
              conv => lhs; unfold agR
              rw [if_neg q]
        · obtain ⟨r, m, s8, s9, acc, tr, hm, x1, hM1, hp1, hz1, hr1, hv, rfl⟩ := q
          have hm0 : m = 0 := by have : m + 8 = 8 := hm; omega
          subst hm0
          refine s_ret (ev_var rfl) fun H10 e10 => ?_
          have z := k H10 acc (x1.trans e10.o) (e10 _ _ hM1)
          rw [hv] at z
          unfold agR at z
          rw [List.append_nil] at z
          exact z (Paired.mapP hp1 fun _ _ q => q.n e10.n)
end
end TA
end
/-! TaL8 -/
section
set_option Elab.async false
set_option linter.all false
set_option autoImplicit false
set_option maxRecDepth 100000
set_option maxHeartbeats 4000000
namespace TA
open PySem PySem.Spec PyProof.Rows L2 Evl
section
variable {P : Program} {w : World} {K : PySem.W.Frag} {mg : Str → Option Value} {base : Heap}
/-! ### start, list, int, exact -/
def spStart (_ : PySem.W.Frag) : Sp := fun vs H Q _ => ∃ (h c : Addr) (v : Nat), vs = [.ref h, vn v] ∧ HandAt H h c ∧ Vok v ∧ ∀ H2 r, XO h H H2 → HandAt H2 h c → r < 2 ^ v → Q (vn r) H2
theorem ok__law_start (T : Txt w K mg) : Fok P w K mg base 3 (a__law_start K) P__law_start (spStart K) := by
  have F__law_take := ok__law_take (P := P) (base := base) T
  refine fok T.f__law_start sc__law_start (fun _ _ _ _ _ _ us hl => match us, hl with | [_, _], _ => rfl) (fun vs H Q E h => ?_) (fun cdv A outer s H vs Q E hr h => ?_)
  · obtain ⟨h, c, v, rfl, _⟩ := h
    rfl
  · obtain ⟨h, c, v, rfl, hh, hv, k⟩ := h
    have v1 := hv.1
    have v2 := hv.2
    have vp := Nat.two_pow_pos v
    have v6 : (2 : Nat) ^ v ≤ 64 := Nat.pow_le_pow_right (by decide) hv.2
    have hshl : 1 <<< v = 2 ^ v := by rw [Nat.shiftLeft_eq, Nat.one_mul]
    refine ⟨_, (pss_cons (ps_if (pt_truth (pe_f F__law_take T.c__law_take (hr.mono (by omega)) (px rfl rfl rfl rfl) (pa_cons (pv 0) (pa_cons pe_int pa_nil))) (fun _ => rfl)) (pss_one (ps_ret (pe_op op_shl pe_int (pe_f F__law_take T.c__law_take (hr.mono (by omega)) (px rfl rfl rfl rfl) (pa_cons (pv 0) (pa_cons (pv 1) pa_nil)))))) pss_nil)
      (pss_one (ps_ret (pe_f F__law_take T.c__law_take (hr.mono (by omega)) (px rfl rfl rfl rfl) (pa_cons (pv 0) (pa_cons (pe_op op_shl pe_int (pv 1)) pa_nil)))))), ?_⟩
    refine take_at (m := 2) rfl ev_c (by decide) (by decide) hh fun H1 b x1 hh1 _ => ⟨_, rfl, ?_⟩
    by_cases z : ((b : Int) != 0) = true
    · refine (if_pos z).mpr ?_
      exact take_at rfl (ev_var rfl) (by omega) (by omega) hh1 fun H2 r x2 hh2 hr => r_shl1 (by omega) (k H2 _ (x1.trans x2) hh2 (Nat.pow_lt_pow_right (by decide) hr))
    · refine (if_neg z).mpr ?_
      exact take_at (m := 2 ^ v) rfl (ev_is (ev_shl (a := 1) ev_c (ev_var rfl) (by decide) (by omega)) (by rw [hshl])) vp (by omega) hh1 fun H2 r x2 hh2 hr => k H2 r (x1.trans x2) hh2 hr
def spList (_ : PySem.W.Frag) : Sp := fun vs H Q _ => ∃ (h c a : Addr) (xs : List V), vs = [.ref h, .ref a] ∧ HandAt H h c ∧ H a = some (.lst xs) ∧ a ≠ h ∧ ∀ D H2, XO h H H2 → HandAt H2 h c → H D = none → SqA H2 D xs → Q (.ref D) H2
theorem ok__law_list (T : Txt w K mg) : Fok P w K mg base 3 (a__law_list K) P__law_list (spList K) := by
  have F__law_take := ok__law_take (P := P) (base := base) T
  refine fok T.f__law_list sc__law_list (fun _ _ _ _ _ _ us hl => match us, hl with | [_, _], _ => rfl) (fun vs H Q E h => ?_) (fun cdv A outer s H vs Q E hr h => ?_)
  · obtain ⟨h, c, a, xs, rfl, _⟩ := h
    rfl
  · obtain ⟨h, c, a, xs, rfl, hh, ha, ne, k⟩ := h
    refine ⟨_, (pss_one (ps_ret (pe_ifExp (pt_truth (pe_f F__law_take T.c__law_take (hr.mono (by omega)) (px rfl rfl rfl rfl) (pa_cons (pv 0) (pa_cons pe_int pa_nil))) (fun _ => rfl)) (pe_callTy call_list_of rfl T.m_list bt_list (pa_cons (pv 1) pa_nil)) (pe_callTy call_tuple_of rfl T.m_tuple bt_tuple (pa_cons (pv 1) pa_nil))))), ?_⟩
    refine take_at (m := 2) rfl ev_c (by decide) (by decide) hh fun H1 b x1 hh1 _ => ⟨_, rfl, ?_⟩
    have ha1 := x1 _ _ ne ha
    by_cases z : ((b : Int) != 0) = true
    · refine (if_pos z).mpr ?_
      refine ⟨_, rfl, a, xs, rfl, .inl (sq_of ha1), fun l hl => ?_⟩
      exact k l _ (x1.trans (Ex.new hl).o) (hh1.mono (Ex.new hl)) (fresh_xo x1 hh1 hl) (.inl upd_same)
    · refine (if_neg z).mpr ?_
      refine ⟨_, rfl, a, xs, rfl, .inl ⟨sq_of ha1, fun l hl => ?_⟩⟩
      exact k l _ (x1.trans (Ex.new hl).o) (hh1.mono (Ex.new hl)) (fresh_xo x1 hh1 hl) (.inr upd_same)
def spInt (_ : PySem.W.Frag) : Sp := fun vs H Q _ => ∃ i : Nat, vs = [vn i] ∧ RetV (.bl true) H Q
theorem ok__law_int (T : Txt w K mg) : Fok P w K mg base 1 (a__law_int K) P__law_int (spInt K) := by
  refine fok T.f__law_int sc__law_int (fun _ _ _ _ _ _ us hl => match us, hl with | [_], _ => rfl) (fun vs H Q E h => ?_) (fun cdv A outer s H vs Q E hr h => ?_)
  · obtain ⟨i, rfl, _⟩ := h
    rfl
  · obtain ⟨i, rfl, k⟩ := h
    refine ⟨_, (pss_one (ps_ret (pe_and (pe_callB call_isi rfl T.m_isinstance bt_isinstance (pa_cons (pv 0) (pa_cons (pe_ct T.m_int bt_int) pa_nil))) (pe_one (pe_not (pe_callB call_isi rfl T.m_isinstance bt_isinstance (pa_cons (pv 0) (pa_cons (pe_ct T.m_bool bt_bool) pa_nil)))))))), ?_⟩
    exact s_ret (ev_andV (a := true) (b := true) (ev_isi (ty := "int") (ev_var rfl) (.int _) (by simp)) (fun _ => ev_notV (a := false) (ev_isi (ty := "int") (ev_var rfl) (.int _) (by simp)))) k
def spExact (_ : PySem.W.Frag) (n : Nat) : Sp := fun vs H Q _ => 0 < n ∧ ((∃ b : Bool, vs = [.bl b, .bl b]) ∨ (∃ i : Nat, vs = [vn i, vn i]) ∨ (1 < n ∧ ∃ (a b : Addr) (ns : List Nat), vs = [.ref a, .ref b] ∧ TupN H a ns ∧ TupN H b ns ∧ ns.length ≤ 100)) ∧ RetV (.bl true) H Q
theorem ok__law_exact (T : Txt w K mg) : ∀ n, Fok P w K mg base (n + 4) (a__law_exact K) P__law_exact (spExact K n)
  | 0 => by
    refine fok T.f__law_exact sc__law_exact (fun _ _ _ _ _ _ us hl => match us, hl with | [_, _], _ => rfl) (fun vs H Q E h => ?_) (fun cdv A outer s H vs Q E hr h => ?_)
    · exact absurd h.1 (Nat.lt_irrefl _)
    · exact absurd h.1 (Nat.lt_irrefl _)
  | n + 1 => by
    have F__law_exact := ok__law_exact T n
    have F__law_int := ok__law_int (P := P) (base := base) T
    refine fok T.f__law_exact sc__law_exact (fun _ _ _ _ _ _ us hl => match us, hl with | [_, _], _ => rfl) (fun vs H Q E h => ?_) (fun cdv A outer s H vs Q E hr h => ?_)
    · obtain ⟨_, h, _⟩ := h
      rcases h with ⟨b, rfl⟩ | ⟨i, rfl⟩ | ⟨_, a, b, ns, rfl, _⟩ <;> rfl
    · obtain ⟨_, h, k⟩ := h
      have H64 := hr.units
      refine ⟨_, (pss_cons (ps_if (pt_val (pe_callB call_isi rfl T.m_isinstance bt_isinstance (pa_cons (pv 1) (pa_cons (pe_ct T.m_tuple bt_tuple) pa_nil)))) (pss_cons (ps_if (PW.pt (pw_or (pt_not (pt_val (pe_callB call_isi rfl T.m_isinstance bt_isinstance (pa_cons (pv 0) (pa_cons (pe_ct T.m_tuple bt_tuple) pa_nil))))) (pw_or1 (pt_cmpR (op_neA H64) (pe_callB call_len_seq rfl T.m_len bt_len (pa_cons (pv 0) pa_nil)) (pe_callB call_len_seq rfl T.m_len bt_len (pa_cons (pv 1) pa_nil)) (nomark _))))) (pss_one (ps_ret pe_bl)) pss_nil)
      (pss_one (ps_ret (pe_cmpR (op_eqA H64) (pe_lc (own := [("_law_k", 2)]) (g := (gName 2)) rfl sc__law_exact.nd (pi_range1 rfl T.m_range (pa_cons (pe_callB call_len_seq rfl T.m_len bt_len (pa_cons (pv 1) pa_nil)) pa_nil)) (blkOk_by (N := N__law_exact) (sc := defScope s__law_exact) (by decide +kernel)) (fun _ _ _ _ _ => (pg_name (i := 2) sc__law_exact.nd rfl (Or.inl rfl))) (fun _ _ _ _ _ => (pts_one (pt_not (pt_val (pe_f F__law_exact T.c__law_exact (hr.mono (by omega)) passL (pa_cons (pe_ix (ixK (K := K) rfl) (pv 0) (pv 2) (fun _ _ => rfl)) (pa_cons (pe_ix (ixK (K := K) rfl) (pv 1) (pv 2) (fun _ _ => rfl)) pa_nil))))))) (fun _ _ _ _ _ => (pv 2))) (pe_lst pa_nil) (nomark _))))) pss_nil)
      (pss_cons (ps_if (pt_cmpR op_isN1 (pv 1) pe_non (nomark _)) (pss_one (ps_ret (pe_cmpR op_isN1 (pv 0) pe_non (nomark _)))) pss_nil)
      (pss_cons (ps_if (pt_val (pe_callB call_isi rfl T.m_isinstance bt_isinstance (pa_cons (pv 1) (pa_cons (pe_ct T.m_bool bt_bool) pa_nil)))) (pss_one (ps_ret (pe_ifExp (pt_truth (pv 1) (fun _ => rfl)) (pe_cmpR op_isBl (pv 0) pe_bl (nomark _)) (pe_cmpR op_isBl (pv 0) pe_bl (nomark _))))) pss_nil)
      (pss_cons (ps_if (pt_val (pe_callB call_isi rfl T.m_isinstance bt_isinstance (pa_cons (pv 1) (pa_cons (pe_ct T.m_str bt_str) pa_nil)))) (pss_one (ps_ret (pe_and (pe_callB call_isi rfl T.m_isinstance bt_isinstance (pa_cons (pv 0) (pa_cons (pe_ct T.m_str bt_str) pa_nil))) (pe_one (pe_cmpR (op_eqA H64) (pv 0) (pv 1) (nomark _)))))) pss_nil)
      (pss_one (ps_ret (pe_and (pe_f F__law_int T.c__law_int (hr.mono (by omega)) (px rfl rfl rfl rfl) (pa_cons (pv 0) pa_nil)) (pe_one (pe_cmpR (op_eqA H64) (pv 0) (pv 1) (nomark _)))))))))), ?_⟩
      rcases h with ⟨b, rfl⟩ | ⟨i, rfl⟩ | ⟨hn, a, b, ns, rfl, ha, hb, hz⟩
      · refine q_when (b := false) (et_B (ev_isi (ty := "bool") (ev_var rfl) (.bl _) (by simp))) (fun z => nomatch z) fun _ H1 e1 => ?_
        refine q_when (b := false) (et_test (ev_isN (x := .bl b) (ev_var rfl))) (fun z => nomatch z) fun _ H2 e2 => ?_
        refine q_when (b := true) (et_B (ev_isi (ty := "bool") (ev_var rfl) (.bl _) (by simp))) (fun _ H3 e3 => ?_) (fun z => nomatch z)
        have e := (e1.trans e2).trans e3
        cases b with
        | true =>
          refine ⟨_, rfl, _, rfl, (if_pos rfl).mpr ?_⟩
          exact (ev_isB (p := true) (q := true) (σ := L2.start N__law_exact [.bl true, .bl true]) (ta := tVar 0) (tb := tC (.bl true)) (ev_var rfl) ev_c) H3 (Ex.refl H3) _ fun H4 e4 => k H4 (e.trans e4)
        | false =>
          refine ⟨_, rfl, _, rfl, (if_neg (by decide)).mpr ?_⟩
          exact (ev_isB (p := false) (q := false) (σ := L2.start N__law_exact [.bl false, .bl false]) (ta := tVar 0) (tb := tC (.bl false)) (ev_var rfl) ev_c) H3 (Ex.refl H3) _ fun H4 e4 => k H4 (e.trans e4)
      · refine q_when (b := false) (et_B (ev_isi (ty := "int") (ev_var rfl) (.int _) (by simp))) (fun z => nomatch z) fun _ H1 e1 => ?_
        refine q_when (b := false) (et_test (ev_isN (x := vn i) (ev_var rfl))) (fun z => nomatch z) fun _ H2 e2 => ?_
        refine q_when (b := false) (et_B (ev_isi (ty := "int") (ev_var rfl) (.int _) (by simp))) (fun z => nomatch z) fun _ H3 e3 => ?_
        refine q_when (b := false) (et_B (ev_isi (ty := "int") (ev_var rfl) (.int _) (by simp))) (fun z => nomatch z) fun _ H4 e4 => ?_
        have e := ((e1.trans e2).trans e3).trans e4
        refine s_ret (ev_andV (a := true) (b := true) (ev_f (z := .bl true) (ea_cons (ev_var rfl) ea_nil) (fun H5 e5 Q q E => ⟨i, rfl, q⟩)) (fun _ => ev_is (ev_eqN (a := i) (b := i) (ev_var rfl) (ev_var rfl)) (congrArg V.bl (decide_eq_true rfl)))) fun H5 e5 => k H5 (e.trans e5)
      · refine q_when (b := true) (et_B (ev_isi (ty := "tuple") (ev_var rfl) (.tup hb) (by simp))) (fun _ H1 e1 => ?_) (fun z => nomatch z)
        refine q_when (b := false) (et_is (et_or (a := false) (b := false) (et_not (a := true) (et_B (ev_isi (ty := "tuple") (ev_var rfl) (.tup (e1 _ _ ha)) (by simp)))) (fun _ => et_is (et_test (ev_neN (ev_lenT (ev_var rfl) (e1 _ _ ha)) (ev_lenT (ev_var rfl) (e1 _ _ hb)))) (by simp))) rfl) (fun z => nomatch z) fun _ H2 e2 => ?_
        have e12 := e1.trans e2
        have ha2 := e12 _ _ ha
        have hb2 := e12 _ _ hb
        have hlen : EvA (tCons (tCB (fun ws H Q => ∃ p ys, ws = [.ref p] ∧ (SqL K H p ys ∨ SqT K H p ys) ∧ Q (.int ys.length) H) (tCons (tVar 1) tNil)) tNil) (L2.start N__law_exact [.ref a, .ref b]) H2 [.int ((ns.map vn).length : Int)] := ea_cons (ev_lenT (ev_var rfl) hb2) ea_nil
        have cmp : EvL (tLc (iRng1 (tCons (tCB (fun ws H Q => ∃ p ys, ws = [.ref p] ∧ (SqL K H p ys ∨ SqT K H p ys) ∧ Q (.int ys.length) H) (tCons (tVar 1) tNil)) tNil)) (gName 2) (tNot (tB (tCall (spExact K n) [] E0 (tCons (tOp (rIxA K) (tVar 0) (tVar 2)) (tCons (tOp (rIxA K) (tVar 1) (tVar 2)) tNil))))) (tVar 2) [2]) (L2.start N__law_exact [.ref a, .ref b]) H2 [] := by
          have q := el_lcR1 (σ := L2.start N__law_exact [.ref a, .ref b]) (H := H2) (j := 2) (vs := [2]) (n := ((ns.map vn).length : Int)) (t := tNot (tB (tCall (spExact K n) [] E0 (tCons (tOp (rIxA K) (tVar 0) (tVar 2)) (tCons (tOp (rIxA K) (tVar 1) (tVar 2)) tNil))))) (te := tVar 2) (fun _ => false) (fun i => vn i) hlen (by rw [List.length_map]; omega) (fun x => rfl) (fun i H3 e3 hi => et_not (a := true) (et_B (ev_f (ea_cons (ev_ixT (v := vn (ns.getD i 0)) (ev_var rfl) (ev_var rfl) (e3 _ _ ha2) (at_map (by rw [List.length_map] at hi; omega))) (ea_cons (ev_ixT (v := vn (ns.getD i 0)) (ev_var rfl) (ev_var rfl) (e3 _ _ hb2) (at_map (by rw [List.length_map] at hi; omega))) ea_nil)) (fun H5 e5 Q q E => ⟨by omega, .inr (.inl ⟨ns.getD i 0, rfl⟩), q⟩)))) (fun i H3 e3 hi z => nomatch z)
          rw [given_none] at q
          exact q
        exact s_ret (ev_eq00 cmp (el_lst ea_nil (by decide))) fun H5 e5 => k H5 (e12.trans e5)
end
end TA
end
/-! TaL9 -/
section
set_option Elab.async false
set_option linter.all false
set_option autoImplicit false
set_option maxRecDepth 100000
set_option maxHeartbeats 4000000
namespace TA
open PySem PySem.Spec PyProof.Rows L2 Evl
section
variable {P : Program} {w : World} {K : PySem.W.Frag} {mg : Str → Option Value} {base : Heap}
/-! ### the law's run and its sharpness -/
def spTrueL (_ : PySem.W.Frag) : Sp := fun vs H Q _ => ∃ (d p : Addr) (v : Nat) (es : List (Str × List Nat)) (pg : Pg) (lot : Nat), vs = [.ref d, .ref p, vn lot] ∧ RwAt H d es ∧ PrAt H pg p ∧ pg.ht ≤ 8 ∧ pg.wt ≤ 1000 ∧ Fit v (nms es) (rws es) pg ∧ lot < 2 ^ v ∧ RetV (vn (runN (rowOf (nms es) (rws es)) pg lot).1) H Q
theorem RwAt.fresh {H H1 : Hp} {d M : Addr} {es : List (Str × List Nat)} (h : RwAt H d es) (hM : H M = none) (e : Ex H H1) : RwM H1 d M es := let ⟨kvs, h1, h2⟩ := h; ⟨kvs, e _ _ h1, fun q hq => let ⟨r, r1, r2⟩ := h2 q hq; ⟨r, r1, r2.mono e, fun z => by subst z; rw [show H r = some (.lst (q.2.map vn)) from r2] at hM; cases hM⟩⟩
theorem ok__law_true (T : Txt w K mg) : Fok P w K mg base 19 (a__law_true K) P__law_true (spTrueL K) := by
  have F__law_run := ok__law_run (P := P) (base := base) T 8
  refine fok T.f__law_true sc__law_true (fun _ _ _ _ _ _ us hl => match us, hl with | [_, _, _], _ => rfl) (fun vs H Q E h => ?_) (fun cdv A outer s H vs Q E hr h => ?_)
  · obtain ⟨d, p, v, es, pg, lot, rfl, _⟩ := h
    rfl
  · obtain ⟨d, p, v, es, pg, lot, rfl, hd, hp, h8, hw, hF, hl, k⟩ := h
    refine ⟨_, (pss_one (ps_ret (pe_f F__law_run T.c__law_run (hr.mono (by omega)) (px rfl rfl rfl rfl) (pa_cons (pv 0) (pa_cons (pv 1) (pa_cons (pv 2) (pa_cons (pe_tup pa_nil) (pa_cons (pe_lst pa_nil) pa_nil)))))))), ?_⟩
    refine ⟨_, rfl, _, rfl, _, rfl, ?_⟩
    refine ⟨by show 0 ≤ sizeLine; decide, fun pa hpa => ?_⟩
    refine ⟨by show 0 ≤ sizeLine; decide, fun M hM => ?_⟩
    have e1 : Ex H (upd H pa (.tup [])) := Ex.new hpa
    have e2 := e1.trans (Ex.new (o := .lst []) hM)
    have hM0 := fresh_back e1 hM
    refine ⟨d, p, pa, M, v, es, pg, lot, [], [], rfl, hd.fresh hM0 e2, hp.n e2.n, h8, hF, hl, (Ex.new hM) _ _ upd_same, by simp, upd_same, by simp; omega, fun H2 new x2 hM2 hp2 => ?_⟩
    exact k H2 fun b o q => x2 b o (ne_of_none q hM0) (e2 _ _ q)
def spSteps (_ : PySem.W.Frag) : Sp := fun vs H Q _ => ∃ (d p : Addr) (v : Nat) (es : List (Str × List Nat)) (pg : Pg) (lot : Nat), vs = [.ref d, .ref p, vn lot] ∧ RwAt H d es ∧ PrAt H pg p ∧ pg.ht ≤ 8 ∧ pg.wt ≤ 1000 ∧ Fit v (nms es) (rws es) pg ∧ lot < 2 ^ v ∧
  ∀ D H2 xs, Ex H H2 → H D = none → H2 D = some (.lst xs) → Paired (RnAt H2) xs (runN (rowOf (nms es) (rws es)) pg lot).2 → Q (.ref D) H2
theorem ok__law_met_steps (T : Txt w K mg) : Fok P w K mg base 19 (a__law_met_steps K) P__law_met_steps (spSteps K) := by
  have F__law_run := ok__law_run (P := P) (base := base) T 8
  refine fok T.f__law_met_steps sc__law_met_steps (fun _ _ _ _ _ _ us hl => match us, hl with | [_, _, _], _ => rfl) (fun vs H Q E h => ?_) (fun cdv A outer s H vs Q E hr h => ?_)
  · obtain ⟨d, p, v, es, pg, lot, rfl, _⟩ := h
    rfl
  · obtain ⟨d, p, v, es, pg, lot, rfl, hd, hp, h8, hw, hF, hl, k⟩ := h
    refine ⟨_, (pss_cons (ps_set (i := 3) sc__law_met_steps.nd rfl (Or.inl rfl) (pe_lst pa_nil))
      (pss_cons (ps_expr (pe_f F__law_run T.c__law_run (hr.mono (by omega)) (px rfl rfl rfl rfl) (pa_cons (pv 0) (pa_cons (pv 1) (pa_cons (pv 2) (pa_cons (pe_tup pa_nil) (pa_cons (pv 3) pa_nil)))))))
      (pss_one (ps_ret (pv 3))))), ?_⟩
    refine q_asgL (xs := []) (el_lst ea_nil (by decide)) fun M H1 hM e1 hM1 => ?_
    refine ⟨_, rfl, _, rfl, _, rfl, ?_⟩
    refine ⟨by show 0 ≤ sizeLine; decide, fun pa hpa => ?_⟩
    have e2 := e1.trans (Ex.new (o := .tup []) hpa)
    refine ⟨_, rfl, ?_⟩
    refine ⟨d, p, pa, M, v, es, pg, lot, [], [], rfl, hd.fresh hM e2, hp.n e2.n, h8, hF, hl, upd_same, by simp, (Ex.new hpa) _ _ hM1, by simp; omega, fun H2 new x2 hM2 hp2 => ?_⟩
    exact s_ret (ev_var rfl) fun H3 e3 => k M H3 new (fun b o q => e3 _ _ (x2 b o (ne_of_none q hM) (e2 _ _ q))) hM (e3 _ _ hM2) (Paired.mapP hp2 fun _ _ q => q.n e3.n)
def spSharpL (_ : PySem.W.Frag) : Sp := fun vs H Q _ => ∃ (m r : Addr) (ms row : List Nat) (lot : Nat), vs = [.ref m, .ref r, vn lot] ∧ LstN H m ms ∧ ms ≠ [] ∧ LstN H r row ∧ row.length ≤ 6 ∧ RetV (.bl (sharpB ms row lot)) H Q
theorem ok__law_sharp (T : Txt w K mg) : Fok P w K mg base 2 (a__law_sharp K) P__law_sharp (spSharpL K) := by
  have F__law_next := ok__law_next (P := P) (base := base) T
  have F__law_rounded := ok__law_rounded (P := P) (base := base) T
  refine fok T.f__law_sharp sc__law_sharp (fun _ _ _ _ _ _ us hl => match us, hl with | [_, _, _], _ => rfl) (fun vs H Q E h => ?_) (fun cdv A outer s H vs Q E hr h => ?_)
  · obtain ⟨m, r, ms, row, lot, rfl, _⟩ := h
    rfl
  · obtain ⟨m, r, ms, row, lot, rfl, hm, hne, hr2, hz, k⟩ := h
    have H64 := hr.units
    refine ⟨_, (pss_cons (ps_set (i := 3) sc__law_sharp.nd rfl (Or.inl rfl) (pe_f F__law_next T.c__law_next (hr.mono (by omega)) (px rfl rfl rfl rfl) (pa_cons (pv 1) (pa_cons (pe_f F__law_rounded T.c__law_rounded (hr.mono (by omega)) (px rfl rfl rfl rfl) (pa_cons (pv 0) (pa_cons (pv 2) pa_nil))) pa_nil))))
      (pss_one (ps_ret (pe_cmpR (op_eqA H64) (pe_f F__law_rounded T.c__law_rounded (hr.mono (by omega)) (px rfl rfl rfl rfl) (pa_cons (pv 0) (pa_cons (pe_f F__law_next T.c__law_next (hr.mono (by omega)) (px rfl rfl rfl rfl) (pa_cons (pv 1) (pa_cons (pv 2) pa_nil))) pa_nil))) (pe_f F__law_rounded T.c__law_rounded (hr.mono (by omega)) (px rfl rfl rfl rfl) (pa_cons (pv 0) (pa_cons (pv 3) pa_nil))) (nomark _))))), ?_⟩
    refine q_asg (ev_f (ea_cons (ev_var rfl) (ea_cons (ev_f (ea_cons (ev_var rfl) (ea_cons (ev_var rfl) ea_nil)) (sv_lround hm hne)) ea_nil)) (sv_lnext hr2 hz)) fun H1 e1 => ?_
    exact s_ret (ev_eqN (ev_f (ea_cons (ev_var rfl) (ea_cons (ev_f (ea_cons (ev_var rfl) (ea_cons (ev_var rfl) ea_nil)) (sv_lnext (hr2.mono e1) hz)) ea_nil)) (sv_lround (hm.mono e1) hne)) (ev_f (ea_cons (ev_var rfl) (ea_cons (ev_var rfl) ea_nil)) (sv_lround (hm.mono e1) hne))) fun H2 e2 => k H2 (e1.trans e2)
theorem sv_sharpL {H : Hp} {m r : Addr} {ms row : List Nat} {lot : Nat} (h1 : LstN H m ms) (h2 : ms ≠ []) (h3 : LstN H r row) (h4 : row.length ≤ 6) : SpV (spSharpL K) [.ref m, .ref r, vn lot] H (.bl (sharpB ms row lot)) := fun H1 e Q q E => ⟨m, r, ms, row, lot, rfl, h1.mono e, h2, h3.mono e, h4, q⟩
def spBlur (_ : PySem.W.Frag) : Sp := fun vs H Q _ => ∃ (m d a : Addr) (ms : List Nat) (es : List (Str × List Nat)) (xs : List V) (tr : List (Str × Nat)), vs = [.ref m, .ref d, .ref a] ∧ LstN H m ms ∧ ms ≠ [] ∧ RwAt H d es ∧ (∀ q ∈ es, q.2.length ≤ 6) ∧ H a = some (.lst xs) ∧ Paired (RnAt H) xs tr ∧ (∀ q ∈ tr, q.1 ∈ nms es) ∧ tr.length ≤ 100000 ∧
  ∀ i : Int, decide (i < 0) = (tr.all fun q => sharpB ms (rowOf (nms es) (rws es) q.1) q.2) → RetV (.int i) H Q
theorem ok__law_first_blur (T : Txt w K mg) : Fok P w K mg base 3 (a__law_first_blur K) P__law_first_blur (spBlur K) := by
  have F__law_sharp := ok__law_sharp (P := P) (base := base) T
  refine fok T.f__law_first_blur sc__law_first_blur (fun _ _ _ _ _ _ us hl => match us, hl with | [_, _, _], _ => rfl) (fun vs H Q E h => ?_) (fun cdv A outer s H vs Q E hr h => ?_)
  · obtain ⟨m, d, a, ms, es, xs, tr, rfl, _⟩ := h
    rfl
  · obtain ⟨m, d, a, ms, es, xs, tr, rfl, hm, hne, hd, h6, ha, hp, hu, hz, k⟩ := h
    have HU := hu_of hr
    have hlen := Paired.length hp
    obtain ⟨kvs, hk, hv⟩ := id hd
    refine ⟨_, (pss_cons (ps_for (passes_of rfl) rfl (pi_range1 rfl T.m_range (pa_cons (pe_callB call_len_seq rfl T.m_len bt_len (pa_cons (pv 2) pa_nil)) pa_nil)) (pg_name (i := 3) sc__law_first_blur.nd rfl (Or.inl rfl)) (pss_one (ps_if (pt_not (pt_val (pe_f F__law_sharp T.c__law_sharp (hr.mono (by omega)) (px rfl rfl rfl rfl) (pa_cons (pv 0) (pa_cons (pe_dget HU (pv 1) (pe_ix ix_A (pe_ix ix_A (pv 2) (pv 3) (fun _ _ => rfl)) pe_int (fun _ _ => rfl)) (fun _ _ => rfl)) (pa_cons (pe_ix ix_A (pe_ix ix_A (pv 2) (pv 3) (fun _ _ => rfl)) pe_int (fun _ _ => rfl)) pa_nil)))))) (pss_one (ps_ret (pv 3))) pss_nil)))
      (pss_one (ps_ret (pe_un un_neg pe_int)))), ?_⟩
    refine q_forR1 (n := (xs.length : Int)) (ea_cons (ev_lenL (ev_var rfl) ha) ea_nil) (by omega) (fun i σ' H' => Ex H H' ∧ (∀ j q, j < i → tr[j]? = some q → sharpB ms (rowOf (nms es) (rws es) q.1) q.2 = true) ∧ ∃ s3, σ' = [some (.ref m), some (.ref d), some (.ref a), s3]) (fun H1 e1 => ⟨e1, (fun j q lt => absurd lt (Nat.not_lt_zero _)), none, rfl⟩) (fun i σ' H' hi p => ?_) (fun σ' H' p => ?_)
    · obtain ⟨e1, hs, s3, rfl⟩ := p
      have lt : i < xs.length := by omega
      obtain ⟨q, hq, t, pa, hx, ht⟩ := paired_get (i := i) hp (List.getElem?_eq_getElem lt)
      have hmem : q ∈ tr := List.mem_of_getElem? hq
      obtain ⟨r, r1, r2⟩ := hv _ (row_mem (hu q hmem))
      have hat : atI xs (i : Int) = some (.ref t) := atI_nat (by rw [List.getElem?_eq_getElem lt, hx])
      have item : ∀ {H1 : Hp}, Ex H H1 → ∀ {j : Int} {z : V}, atI [.ref pa, .str q.1, vn q.2] j = some z → Ev (tOp (rIxA K) (tOp (rIxA K) (tVar 2) (tVar 3)) (tC (.int j))) [some (.ref m), some (.ref d), some (.ref a), some (vn i)] H1 z := by
        intro H1 e j z hz
        exact ev_ixT (ev_ixL (ev_var rfl) (ev_var rfl) (e _ _ ha) hat) ev_c (e _ _ ht) hz
      refine s_when (et_not (et_B (ev_f (ea_cons (ev_var rfl) (ea_cons (ev_dget (k := .inr q.1) (ev_var rfl) (item e1 rfl) (e1 _ _ hk) r1) (ea_cons (item e1 rfl) ea_nil))) (sv_sharpL (hm.mono e1) hne (r2.mono e1) (h6 _ (row_mem (hu q hmem))))))) (fun hb H2 e2 => ?_) (fun hb H2 e2 => ?_)
      · refine s_ret (ev_var rfl) fun H3 e3 => k (i : Int) ?_ H3 ((e1.trans e2).trans e3)
        rw [decide_eq_false (by omega)]
        symm
        refine List.all_eq_false.mpr ⟨q, hmem, ?_⟩
        rw [Bool.not_eq_true'] at hb
        rw [hb]
        decide
      · refine ⟨e1.trans e2, fun j q2 lj hq2 => ?_, _, rfl⟩
        by_cases z : j = i
        · subst z
          rw [hq] at hq2
          cases hq2
          rw [Bool.not_eq_false'] at hb
          exact hb
        · exact hs j q2 (by omega) hq2
    · obtain ⟨e1, hs, s3, rfl⟩ := p
      refine s_ret (ev_neg ev_c) fun H2 e2 => k (-1) ?_ H2 (e1.trans e2)
      rw [decide_eq_true (by decide)]
      symm
      refine List.all_eq_true.mpr fun q hq => ?_
      obtain ⟨j, lj, e⟩ := List.mem_iff_getElem.mp hq
      exact hs j q (by rw [Int.toNat_natCast, hlen]; exact lj) (by rw [List.getElem?_eq_getElem lj, e])
end
end TA
end
/-! TaL10 -/
section
set_option Elab.async false
set_option linter.all false
set_option autoImplicit false
set_option maxRecDepth 100000
set_option maxHeartbeats 4000000
namespace TA
open PySem PySem.Spec PyProof.Rows L2 Evl
/-! ### the law's world -/
def WoAt (H : Hp) (W : Addr) (v : Nat) (ms : List Nat) (es : List (Str × List Nat)) : Prop := ∃ m d a, H W = some (.lst [vn v, .ref m, .ref d, .ref a]) ∧ LstN H m ms ∧ RwAt H d es ∧ EsAt H a es
structure WoOk (v : Nat) (ms : List Nat) (es : List (Str × List Nat)) : Prop where
  vok : Vok v
  full : MsFull v ms
  ne : es ≠ []
  len : es.length ≤ 3
  nm : ∀ q ∈ es, NameOk q.1 ∧ q.1 ≠ "nosuch"
  row : ∀ q ∈ es, RowOk v q.2
  nd : (nms es).Nodup
section
variable {H H' : Hp} {h c W : Addr} {v : Nat} {ms : List Nat} {es : List (Str × List Nat)}
theorem WoAt.mono (e : Ex H H') (d : WoAt H W v ms es) : WoAt H' W v ms es := let ⟨m, d, a, h1, h2, h3, h4⟩ := d; ⟨m, d, a, e _ _ h1, h2.mono e, h3.mono e, h4.mono e⟩
theorem WoAt.x (e : XO h H H') (hh : HandAt H h c) (d : WoAt H W v ms es) : WoAt H' W v ms es := let ⟨m, d, a, h1, h2, h3, h4⟩ := d; ⟨m, d, a, e.keep hh h1 (fun _ _ _ _ z => by cases z), h2.x e hh, h3.x e hh, h4.x e hh⟩
end
theorem cons_op {σ : L2.St} {H : Hp} {ta tb : TE} {r : R2} {tr : TA} {R : List V → Hp → Prop} (h : ta σ H fun x H1 => tb σ H1 fun y H2 => r x y H2 fun v H3 => tr σ H3 fun vs H4 => R (v :: vs) H4) : tCons (tOp r ta tb) tr σ H R := h
theorem ent_upd {H : Hp} {D : Addr} {xs : List V} {es : List (Str × List Nat)} {v : Nat} {o : HO} (hv : 1 ≤ v) (hD : H D = some (.lst xs)) (p : Paired (fun x q => EnT H x q ∧ RowOk v q.2) xs es) : Paired (fun x q => EnT (upd H D o) x q ∧ RowOk v q.2) xs es := by
  refine Paired.mapP p fun x q z => ?_
  obtain ⟨⟨t, r, rfl, ht, hr⟩, ro⟩ := z
  refine ⟨⟨t, r, rfl, ?_, ?_⟩, ro⟩
  · rw [upd_ne (fun z => by subst z; rw [hD] at ht; cases ht)]
    exact ht
  · show upd _ _ _ _ = _
    rw [upd_ne (fun z => ?_)]
    · exact hr
    · subst z
      have hr : H r = some (.lst (q.2.map vn)) := hr
      rw [hD] at hr
      have e : xs = q.2.map vn := by cases hr; rfl
      have hl := ro.len
      cases p with
      | nil =>
        cases q2 : q.2 with
        | nil => rw [q2] at hl; simp at hl; omega
        | cons y l => rw [q2] at e; cases e
      | cons f t =>
        obtain ⟨⟨_, _, f0, _⟩, _⟩ := f
        cases q2 : q.2 with
        | nil => rw [q2] at e; cases e
        | cons y l => rw [q2] at e; subst f0; cases e
section
variable {P : Program} {w : World} {K : PySem.W.Frag} {mg : Str → Option Value} {base : Heap}
def spWorld (_ : PySem.W.Frag) : Sp := fun vs H Q _ => ∃ (h c : Addr), vs = [.ref h, vn 6] ∧ HandAt H h c ∧ ∀ W H2 v ms es, XO h H H2 → HandAt H2 h c → WoAt H2 W v ms es → WoOk v ms es → Q (.ref W) H2
theorem ok__law_world (T : Txt w K mg) : Fok P w K mg base 5 (a__law_world K) P__law_world (spWorld K) := by
  have F__law_take := ok__law_take (P := P) (base := base) T
  have F__law_stands := ok__law_stands (P := P) (base := base) T
  have F__law_members := ok__law_members (P := P) (base := base) T
  have F__law_met := ok__law_met (P := P) (base := base) T
  have F__law_names := ok__law_names (P := P) (base := base) T
  have F__law_single := ok__law_single (P := P) (base := base) T
  have F__law_drawn_row := ok__law_drawn_row (P := P) (base := base) T
  have F__law_rows_of := ok__law_rows_of (P := P) (base := base) T
  refine fok T.f__law_world sc__law_world (fun _ _ _ _ _ _ us hl => match us, hl with | [_, _], _ => rfl) (fun vs H Q E h => ?_) (fun cdv A outer s H vs Q E hr h => ?_)
  · obtain ⟨h, c, rfl, _⟩ := h
    rfl
  · obtain ⟨h, c, rfl, hh, k⟩ := h
    refine ⟨_, (pss_cons (ps_set (i := 2) sc__law_world.nd rfl (Or.inr rfl) (pe_callB (call_min2 rfl) rfl T.m_min bt_min (pa_cons (pv 1) (pa_cons (pe_f F__law_stands T.c__law_stands (hr.mono (by omega)) (px rfl rfl rfl rfl) (pa_cons (pv 0) pa_nil)) pa_nil))))
      (pss_cons (ps_set (i := 3) sc__law_world.nd rfl (Or.inl rfl) (pe_f F__law_members T.c__law_members (hr.mono (by omega)) (px rfl rfl rfl rfl) (pa_cons (pv 0) (pa_cons (pv 2) pa_nil))))
      (pss_cut (ps_if (pt_truth (pe_f F__law_take T.c__law_take (hr.mono (by omega)) (px rfl rfl rfl rfl) (pa_cons (pv 0) (pa_cons pe_int pa_nil))) (fun _ => rfl)) (pss_one (ps_set (i := 3) sc__law_world.nd rfl (Or.inl rfl) (pe_f F__law_met T.c__law_met (hr.mono (by omega)) (px rfl rfl rfl rfl) (pa_cons (pv 2) (pa_cons (pe_op op_addA (pe_lc (own := [("_law_k", 7)]) (g := (gName 7)) (tt := tYes) rfl sc__law_world.nd (pi_range1 rfl T.m_range (pa_cons (pe_op op_addA pe_int (pe_f F__law_take T.c__law_take (hr.mono (by omega)) (px rfl rfl rfl rfl) (pa_cons (pv 0) (pa_cons pe_int pa_nil)))) pa_nil)) (blkOk_by (N := N__law_world) (sc := defScope s__law_world) (by decide +kernel)) (fun _ _ _ _ _ => (pg_name (i := 7) sc__law_world.nd rfl (Or.inl rfl))) (fun _ _ _ _ _ => pts_nil) (fun _ _ _ _ _ => (pe_f F__law_take T.c__law_take (hr.mono (by omega)) passL (pa_cons (pv 0) (pa_cons (pe_op op_shl pe_int (pv 2)) pa_nil))))) (pe_lst (pa_cons pe_int pa_nil))) pa_nil))))) pss_nil)
      (pss_cons (ps_set (i := 4) sc__law_world.nd rfl (Or.inl rfl) (pe_f F__law_names T.c__law_names (hr.mono (by omega)) (px rfl rfl rfl rfl) (pa_cons (pv 0) (pa_cons (pe_op op_addA pe_int (pe_f F__law_take T.c__law_take (hr.mono (by omega)) (px rfl rfl rfl rfl) (pa_cons (pv 0) (pa_cons pe_int pa_nil)))) pa_nil))))
      (pss_cons (ps_setLc (i := 5) (own := [("_law_name", 6)]) (g := (gName 6)) (tt := tYes) rfl sc__law_world.nd rfl rfl (sw_true rfl rfl rfl (by decide +kernel)) (pi_A (pv 4)) (blkOk_by (N := N__law_world) (sc := defScope s__law_world) (by decide +kernel)) (fun _ _ _ _ _ => (pg_name (i := 6) sc__law_world.nd rfl (Or.inl rfl))) (fun _ _ _ _ _ => pts_nil) (fun _ _ _ _ _ => (pe_tup (pa_cons (pv 6) (pa_cons (pe_ifExp (trK (K := K) rfl (pe_f F__law_take T.c__law_take (hr.mono (by omega)) passL (pa_cons (pv 0) (pa_cons pe_int pa_nil))) (fun _ => rfl)) (pe_f F__law_single T.c__law_single (hr.mono (by omega)) passL (pa_cons (pv 0) (pa_cons (pv 2) pa_nil))) (pe_f F__law_drawn_row T.c__law_drawn_row (hr.mono (by omega)) passL (pa_cons (pv 0) (pa_cons (pv 2) pa_nil)))) pa_nil)))))
      (pss_one (ps_ret (pe_lst (pa_cons (pv 2) (pa_cons (pv 3) (pa_cons (pe_f F__law_rows_of T.c__law_rows_of (hr.mono (by omega)) (px rfl rfl rfl rfl) (pa_cons (pv 5) pa_nil)) (pa_cons (pv 5) pa_nil)))))))))))), ?_⟩
    refine q_val ?_
    refine ⟨_, rfl, ?_⟩
    refine callA (ea_cons (ev_var rfl) ea_nil) fun H1 e1 => ⟨h, c, rfl, hh.mono e1, fun H2 v x2 hh2 hv => ?_⟩
    have x12 := e1.o.trans x2
    have v1 := hv.1
    have v2 := hv.2
    have vp := Nat.two_pow_pos v
    have v6 : (2 : Nat) ^ v ≤ 64 := Nat.pow_le_pow_right (by decide) hv.2
    have hshl : 1 <<< v = 2 ^ v := by rw [Nat.shiftLeft_eq, Nat.one_mul]
    have em : (if (v : Int) < 6 then (v : Int) else 6) = (v : Int) := by split <;> omega
    refine ⟨6, (v : Int), rfl, ?_⟩
    rw [em]
    refine q_val ?_
    refine callA (ea_cons (ev_var rfl) (ea_cons (x := vn v) (ev_var rfl) ea_nil)) fun H3 e3 => ⟨h, c, v, rfl, hh2.mono e3, hv, fun D H4 ms x4 hh4 hD hms full => ?_⟩
    have x14 := (x12.trans e3.o).trans x4
    refine q_cut (M := fun σ' H' => ∃ D ms, XO h H H' ∧ HandAt H' h c ∧ LstN H' D ms ∧ MsFull v ms ∧ σ' = [some (.ref h), some (vn 6), some (vn v), some (.ref D), none, none, none, none]) ?_ fun σ' H' M => ?_
    · refine take_at (m := 2) rfl ev_c (by decide) (by decide) hh4 fun H5 b x5 hh5 _ => ⟨_, rfl, ?_⟩
      have x15 := x14.trans x5
      by_cases z : ((b : Int) != 0) = true
      · refine (if_pos z).mpr ?_
        refine ⟨_, rfl, ?_⟩
        refine cons_op (lc_pre ?_)
        refine take_at (m := 5) rfl ev_c (by decide) (by decide) hh5 fun H6 r x6 hh6 hr6 => .inl ⟨2, (r : Int), rfl, rfl, ?_⟩
        have hea : EvA (fun (_ : L2.St) (H : Hp) (R : List V → Hp → Prop) => R [V.int (2 + (r : Int))] H) (((L2.start N__law_world [V.ref h, vn 6]).set 2 (some (vn v))).set 3 (some (.ref D))) H6 [vn (2 + r)] := by
          have e : (vn (2 + r)) = V.int (2 + (r : Int)) := congrArg V.int (by omega)
          rw [e]
          exact ea_pre
        dsimp only [tNil]
        refine lc_draw (b := 2 ^ v) (n := 2 + r) (j := 7) (vs := [7]) hea (by omega) hh6 (by intro x; rfl) (fun i H7 hi _ hh7 Q' q => ?_) fun D2 H7 ns x7 hh7 hD2 hns hl hb => ?_
        · exact take_at (m := 2 ^ v) rfl (ev_is (ev_shl (a := 1) ev_c (ev_var rfl) (by decide) (by omega)) (by rw [hshl])) vp (by omega) hh7 fun H8 r x8 hh8 hr => q H8 _ x8 hh8 hr
        refine ⟨by show 1 ≤ sizeLine; decide, fun b2 hb2 => ?_⟩
        have e7 : Ex H7 (upd H7 b2 (.lst [.int 0])) := Ex.new hb2
        refine .inr (.inl ⟨D2, b2, ns.map vn, [.int 0], rfl, rfl, e7 _ _ hns, upd_same, sz_of (by rw [List.length_map]; show ns.length + 1 ≤ 100000; omega), fun q hq => ?_⟩)
        have e8 := e7.trans (Ex.new (o := .lst (ns.map vn ++ [.int 0])) hq)
        refine ⟨v, q, ns ++ [0], rfl, hv, ?_, fun D3 H9 ms3 e9 hD3 hms3 full3 => ?_⟩
        · show upd _ _ _ _ = _
          rw [upd_same, List.map_append]
          rfl
        · exact ⟨D3, ms3, ((x15.trans x6).trans x7).trans (e8.trans e9).o, hh7.mono (e8.trans e9), hms3, full3, rfl⟩
      · refine (if_neg z).mpr ?_
        exact ⟨D, ms, x15, hh5, hms.x x5 hh4, full, rfl⟩
    · obtain ⟨D, ms, x1, hh1, hms, full, rfl⟩ := M
      refine q_val ?_
      refine ⟨_, rfl, ?_⟩
      refine take_at (m := 3) rfl ev_c (by decide) (by decide) hh1 fun H2 r x2 hh2 hr => .inl ⟨1, (r : Int), rfl, rfl, ?_⟩
      refine ⟨h, c, 1 + r, congrArg (fun i => [V.ref h, V.int i]) (by omega), hh2, by omega, fun N H3 ns x3 hh3 hN hN3 hnl hnd hnm => ?_⟩
      have x13 := (x1.trans x2).trans x3
      have hms3 := (hms.x x2 hh1).x x3 hh2
      refine q_val ?_
      have nNh : N ≠ h := fun z => by
        subst z
        obtain ⟨_, p, r', t, q, _⟩ := hh3
        rw [q] at hN3
        cases ns with
        | nil => cases hN3
        | cons a l => cases hN3
      refine lc_A (a := N) (ev_var rfl) (.inl hN3) (fun D2 i H' => XO h H3 H' ∧ HandAt H' h c ∧ H3 D2 = none ∧ ∃ xs es, H' D2 = some (.lst xs) ∧ Paired (fun x q => EnT H' x q ∧ RowOk v q.2) xs es ∧ nms es = ns.take i) (fun D2 H4 e4 hD2 => ?_) (fun D2 i H' p o q => ?_) (fun D2 i x H' hx p => ?_) (fun D2 H' p => ?_)
      · exact ⟨(e4.trans (Ex.new hD2)).o, hh3.mono (e4.trans (Ex.new hD2)), fresh_back e4 hD2, [], [], upd_same, .nil, rfl⟩
      · exact p.1 _ _ nNh q
      · obtain ⟨x1, hh1, hD2, xs, es, hxs, hp, hnm2⟩ := p
        rw [List.getElem?_map] at hx
        obtain ⟨s1, hs1, rfl⟩ := Option.map_eq_some_iff.mp hx
        have hi : i < ns.length := (List.getElem?_eq_some_iff.mp hs1).1
        have nDh : D2 ≠ h := fun z => by subst z; obtain ⟨_, _, _, _, q, _⟩ := hh3; rw [q] at hD2; cases hD2
        have nDc : D2 ≠ c := fun z => by subst z; obtain ⟨_, _, _, _, _, q, _⟩ := hh3; rw [q] at hD2; cases hD2
        have hlx : xs.length = i := by
          have := congrArg List.length hnm2
          rw [List.length_map, List.length_take] at this
          rw [Paired.length hp]
          omega
        refine ⟨rfl, yesT ?_⟩
        refine ⟨_, rfl, ?_⟩
        have fin : ∀ {H5 H6 : Hp} {Dr : Addr} {row : List Nat}, XO h H' H5 → HandAt H5 h c → XO h H5 H6 → HandAt H6 h c → H5 Dr = none → LstN H6 Dr row → RowOk v row → 2 ≤ sizeLine ∧ ∀ t, H6 t = none → ∃ acc, (upd H6 t (.tup [.str s1, .ref Dr])) D2 = some (.lst acc) ∧ acc.length < sizeLine ∧ (XO h H3 (upd (upd H6 t (.tup [.str s1, .ref Dr])) D2 (.lst (acc ++ [.ref t]))) ∧ HandAt (upd (upd H6 t (.tup [.str s1, .ref Dr])) D2 (.lst (acc ++ [.ref t]))) h c ∧ H3 D2 = none ∧ ∃ xs es, (upd (upd H6 t (.tup [.str s1, .ref Dr])) D2 (.lst (acc ++ [.ref t]))) D2 = some (.lst xs) ∧ Paired (fun x q => EnT (upd (upd H6 t (.tup [.str s1, .ref Dr])) D2 (.lst (acc ++ [.ref t]))) x q ∧ RowOk v q.2) xs es ∧ nms es = ns.take (i + 1)) := by
          intro H5 H6 Dr row x5 hh5 x6 hh6 hDr hrow ro
          refine ⟨by show 2 ≤ sizeLine; decide, fun t ht => ?_⟩
          have hxs5 := x5 _ _ nDh hxs
          have hxs6 := x6 _ _ nDh hxs5
          have et : Ex H6 (upd H6 t (.tup [.str s1, .ref Dr])) := Ex.new ht
          have nDr : Dr ≠ D2 := fun z => by subst z; rw [hxs5] at hDr; cases hDr
          have ntD : t ≠ D2 := fun z => by subst z; rw [hxs6] at ht; cases ht
          refine ⟨xs, et _ _ hxs6, sz_lt (by omega), ?_, ?_, hD2, xs ++ [.ref t], es ++ [(s1, row)], upd_same, ?_, ?_⟩
          · exact fun b o nb q => by
              rw [upd_ne (ne_of_none q hD2)]
              exact et _ _ (x6 _ _ nb (x5 _ _ nb (x1 _ _ nb q)))
          · obtain ⟨ms, p, r', t', q1, q2, q3⟩ := hh6
            exact ⟨ms, p, r', t', by rw [upd_ne nDh.symm]; exact et _ _ q1, by rw [upd_ne nDc.symm]; exact et _ _ q2, q3⟩
          · refine paired_app (ent_upd v1 (et _ _ hxs6) (Paired.mapP hp fun x q z => ⟨((z.1.x x5 hh1).x x6 hh5).mono et, z.2⟩)) (.cons ⟨⟨t, Dr, rfl, ?_, ?_⟩, ro⟩ .nil)
            · rw [upd_ne ntD]
              exact upd_same
            · show upd _ _ _ _ = _
              rw [upd_ne nDr]
              exact et _ _ hrow
          · show (es ++ [(s1, row)]).map (·.1) = _
            rw [List.map_append, List.take_add_one, hs1]
            exact congrArg (· ++ [s1]) hnm2
        refine take_at (m := 2) rfl ev_c (by decide) (by decide) hh1 fun H5 b x5 hh5 _ => ⟨_, rfl, ?_⟩
        by_cases z : ((b : Int) != 0) = true
        · refine (if_pos z).mpr ?_
          refine callA (ea_cons (ev_var rfl) (ea_cons (ev_var rfl) ea_nil)) fun H6 e6 => ?_
          exact ⟨h, c, v, rfl, hh5.mono e6, hv, fun Dr H7 row x7 hh7 hDr hrow ro => fin (x5.trans e6.o) (hh5.mono e6) x7 hh7 hDr hrow ro⟩
        · refine (if_neg z).mpr ?_
          refine callA (ea_cons (ev_var rfl) (ea_cons (ev_var rfl) ea_nil)) fun H6 e6 => ?_
          exact ⟨h, c, v, rfl, hh5.mono e6, hv, fun Dr H7 row x7 hh7 hDr hrow ro => fin (x5.trans e6.o) (hh5.mono e6) x7 hh7 hDr hrow ro⟩
      · obtain ⟨x4, hh4', hD2, xs, es, hxs, hp, hnm2⟩ := p
        rw [List.length_map, List.take_length] at hnm2
        have hes : EsAt H' D2 es := ⟨xs, hxs, Paired.mapP hp fun _ _ z => z.1⟩
        have hrow : ∀ q ∈ es, RowOk v q.2 := fun q hq => by
          obtain ⟨_, _, ro⟩ := Paired.right hp q hq
          exact ro
        have hel : es.length = 1 + r := by
          rw [← hnl, ← hnm2, List.length_map]
        have hok : WoOk v ms es := ⟨hv, full, fun z => by rw [z] at hel; simp at hel; omega, by omega, fun q hq => hnm q.1 (by rw [← hnm2]; exact List.mem_map.mpr ⟨q, hq, rfl⟩), hrow, by rw [hnm2]; exact hnd⟩
        refine ⟨_, rfl, _, rfl, ?_⟩
        refine callA (ea_cons (ev_var rfl) ea_nil) fun H8 e8 => ⟨D2, es, rfl, hes.mono e8, by show (nms es).Nodup; rw [hnm2]; exact hnd, by omega, fun d H9 e9 hd hrw => ?_⟩
        have e89 := e8.trans e9
        refine ⟨_, rfl, by show 4 ≤ sizeLine; decide, fun W hW => ?_⟩
        have e10 := e89.trans (Ex.new (o := .lst [vn v, .ref D, .ref d, .ref D2]) hW)
        exact k W _ v ms es ((x13.trans x4).trans e10.o) (hh4'.mono e10) ⟨D, d, D2, upd_same, (hms3.x x4 hh3).mono e10, hrw.mono (Ex.new hW), hes.mono e10⟩ hok
end
end TA
end
/-! TaL11 -/
section
set_option Elab.async false
set_option linter.all false
set_option autoImplicit false
set_option maxRecDepth 100000
set_option maxHeartbeats 4000000
namespace TA
open PySem PySem.Spec PyProof.Rows L2 Evl
section
variable {K : PySem.W.Frag} {σ : L2.St} {H : Hp} {ta tb : TE} {xs ys : List V} {p : Addr}
theorem el_listA (h : Ev ta σ H (.ref p)) (hp : H p = some (.lst xs)) : EvL (tCB (fun vs H Q => ∃ p ys, vs = [.ref p] ∧ (SqL K H p ys ∨ SqT K H p ys) ∧ ∀ l, H l = none → Q (.ref l) (upd H l (.lst ys))) (tCons ta tNil)) σ H xs := fun H1 e Q q =>
  h H1 e _ fun H2 e2 => ⟨p, xs, rfl, .inl (sq_of (e2 _ _ (e _ _ hp))), fun l hl => q l _ (fresh_back e2 hl) (e2.trans (Ex.new hl)) upd_same⟩
theorem el_catV (ha : Ev ta σ H (.ref p)) (hp : H p = some (.lst xs)) (hb : EvL tb σ H ys) (hz : xs.length + ys.length ≤ 100000) : EvL (tOp (rAddA K) ta tb) σ H (xs ++ ys) := fun H1 e Q q =>
  ha H1 e _ fun H2 e2 => hb H2 (e.trans e2) _ fun r H3 hr e3 h3 => .inr (.inl ⟨p, r, xs, ys, rfl, rfl, ((e.trans e2).trans e3) _ _ hp, h3, sz_of hz, fun s hs => q s _ (fresh_back (e2.trans e3) hs) ((e2.trans e3).trans (Ex.new hs)) upd_same⟩)
theorem et_yes : EvT tYes σ H true := fun H1 e Q q => q H1 (Ex.refl H1)
theorem vn_ints (ms : List Nat) : ms.map vn = (ms.map fun n : Nat => (n : Int)).map V.int := by rw [List.map_map]; rfl
end
section
variable {P : Program} {w : World} {K : PySem.W.Frag} {mg : Str → Option Value} {base : Heap}
def spRefined (_ : PySem.W.Frag) : Sp := fun vs H Q _ => ∃ (v : Nat) (m a : Addr) (ms : List Nat) (es : List (Str × List Nat)), vs = [vn v, .ref m, .ref a] ∧ Vok v ∧ LstN H m ms ∧ MsFull v ms ∧ EsAt H a es ∧ es.length ≤ 3 ∧ (∀ q ∈ es, RowOk v q.2) ∧ ∀ D H2 ms2, Ex H H2 → LstN H2 D ms2 → MsFull v ms2 → Q (.ref D) H2
theorem ok__law_refined (T : Txt w K mg) : Fok P w K mg base 3 (a__law_refined K) P__law_refined (spRefined K) := by
  have F__law_back := ok__law_back (P := P) (base := base) T
  have F__law_met := ok__law_met (P := P) (base := base) T
  refine fok T.f__law_refined sc__law_refined (fun _ _ _ _ _ _ us hl => match us, hl with | [_, _, _], _ => rfl) (fun vs H Q E h => ?_) (fun cdv A outer s H vs Q E hr h => ?_)
  · obtain ⟨v, m, a, ms, es, rfl, _⟩ := h
    rfl
  · obtain ⟨v, m, a, ms, es, rfl, hv, hm, full, hes, hel, hro, k⟩ := h
    have H64 := hr.units
    have v6 : (2 : Nat) ^ v ≤ 64 := Nat.pow_le_pow_right (by decide) hv.2
    obtain ⟨exs, hexs, hep⟩ := id hes
    have hexl := Paired.length hep
    refine ⟨_, (pss_cons (ps_set (i := 3) sc__law_refined.nd rfl (Or.inl rfl) (pe_callTy call_list_of rfl T.m_list bt_list (pa_cons (pv 1) pa_nil)))
      (pss_cons (ps_for (passes_of rfl) rfl (pi_range1 rfl T.m_range (pa_cons pe_int pa_nil)) (pg_name (i := 4) sc__law_refined.nd rfl (Or.inl rfl)) (pss_cons (ps_set (i := 5) sc__law_refined.nd rfl (Or.inl rfl) (pe_callTy call_list_of rfl T.m_list bt_list (pa_cons (pv 3) pa_nil)))
      (pss_cons (ps_for (passes_of rfl) rfl (pi_A (pv 2)) (pg_tup rfl (pgs_cons (pg_name (i := 6) sc__law_refined.nd rfl (Or.inl rfl)) (pgs_cons (pg_name (i := 7) sc__law_refined.nd rfl (Or.inr rfl)) pgs_nil))) (pss_one (ps_set (i := 5) sc__law_refined.nd rfl (Or.inl rfl) (pe_op op_addA (pv 5) (pe_lc (own := [("_law_lot", 9)]) (g := (gName 9)) (tt := tYes) rfl sc__law_refined.nd (pi_A (pv 3)) (blkOk_by (N := N__law_refined) (sc := defScope s__law_refined) (by decide +kernel)) (fun _ _ _ _ _ => (pg_name (i := 9) sc__law_refined.nd rfl (Or.inl rfl))) (fun _ _ _ _ _ => pts_nil) (fun _ _ _ _ _ => (pe_f F__law_back T.c__law_back (hr.mono (by omega)) passL (pa_cons (pv 7) (pa_cons (pv 9) pa_nil)))))))))
      (pss_cons (ps_set (i := 8) sc__law_refined.nd rfl (Or.inl rfl) (pe_f F__law_met T.c__law_met (hr.mono (by omega)) (px rfl rfl rfl rfl) (pa_cons (pv 0) (pa_cons (pv 5) pa_nil))))
      (pss_cons (ps_if (pt_cmpR (op_eqA H64) (pv 8) (pv 3) (nomark _)) (pss_one (ps_ret (pv 3))) pss_nil)
      (pss_one (ps_set (i := 3) sc__law_refined.nd rfl (Or.inl rfl) (pv 8))))))))
      (pss_one (ps_ret (pv 3))))), ?_⟩
    refine q_asgL (el_listA (ev_var rfl) hm) fun F0 H1 _ e1 hF0 => ?_
    refine q_forR1 (n := 64) (ea_cons ev_c ea_nil) (by omega) (fun i σ' H' => Ex H H' ∧ ∃ F fs s4 s5 s6 s7 s8 s9, LstN H' F fs ∧ MsFull v fs ∧ σ' = [some (vn v), some (.ref m), some (.ref a), some (.ref F), s4, s5, s6, s7, s8, s9]) (fun H2 e2 => ⟨e1.trans e2, F0, ms, _, _, _, _, _, _, e2 _ _ hF0, full, rfl⟩) (fun i σ' H' hi p => ?_) (fun σ' H' p => ?_)
    · obtain ⟨e2, F, fs, s4, s5, s6, s7, s8, s9, hF, ff, rfl⟩ := p
      have fl := ff.len
      refine q_asgL (el_listA (ev_var rfl) hF) fun M0 H3 _ e3 hM0 => ?_
      have hF3 := e3 _ _ hF
      refine q_of (s_lstA (g := g2 K 6 7) (a := a) (ev_var rfl) (e3 _ _ (e2 _ _ hexs)) (fun j σ' H' => Ex H3 H' ∧ ∃ M mm s6 s7, LstN H' M mm ∧ mm.length ≤ (j + 1) * 64 ∧ σ' = [some (vn v), some (.ref m), some (.ref a), some (.ref F), some (vn i), some (.ref M), s6, s7, s8, s9]) (fun H4 e4 => ⟨e4, M0, fs, _, _, e4 _ _ hM0, by omega, rfl⟩) (fun j σ' H' _ p => p.1 _ _ (e3 _ _ (e2 _ _ hexs))) (fun j x σ' H' hx p => ?_) fun σ' H' p => ?_)
      · obtain ⟨e4, M, mm, s6, s7, hM, hml, rfl⟩ := p
        obtain ⟨q, hq, t, r, rfl, ht, hr2⟩ := paired_get hep hx
        have hj : j < exs.length := (List.getElem?_eq_some_iff.mp hx).1
        have e24 := (e2.trans e3).trans e4
        have ro := hro q (List.mem_of_getElem? hq)
        refine g2_at (e24 _ _ ht) ?_
        have hr4 := hr2.mono e24
        have cmp : EvL (tLc (iA K (tVar 3)) (gName 9) tYes (tCall (spLBack K) [] E0 (tCons (tVar 7) (tCons (tVar 9) tNil))) [9]) [some (vn v), some (.ref m), some (.ref a), some (.ref F), some (vn i), some (.ref M), some (.str q.1), some (.ref r), s8, s9] H' ((List.range fs.length).map fun i => vn (backTo q.2 (fs.getD i 0) q.2.length)) := by
          have z := el_lcA (K := K) (tl := tVar 3) (t := tYes) (te := tCall (spLBack K) [] E0 (tCons (tVar 7) (tCons (tVar 9) tNil))) (σ := [some (vn v), some (.ref m), some (.ref a), some (.ref F), some (vn i), some (.ref M), some (.str q.1), some (.ref r), s8, s9]) (H := H') (a := F) (xs := fs.map vn) (j := 9) (vs := [9]) (fun _ => true) (fun i => vn (backTo q.2 (fs.getD i 0) q.2.length)) (ev_var rfl) (.inl (e4 _ _ hF3)) (by rw [List.length_map]; omega) (fun x => rfl) (fun i x H1 e hx => et_yes) (fun i x H1 e hx _ => by
            obtain ⟨lt, rfl⟩ := map_at hx
            exact ev_f (ea_cons (ev_var rfl) (ea_cons (ev_var rfl) ea_nil)) fun H5 e5 Q q' E => ⟨r, q.2, _, rfl, (hr4.mono e).mono e5, by have := ro.len; have := hv.2; omega, q'⟩)
          rw [given_all, List.length_map] at z
          exact z
        refine s_asgL (el_catV (xs := mm.map vn) (ev_var rfl) hM cmp (by simp only [List.length_map, List.length_range]; omega)) fun M2 H5 _ e5 hM2 => ⟨e4.trans e5, M2, mm ++ (List.range fs.length).map (fun i => backTo q.2 (fs.getD i 0) q.2.length), _, _, ?_, ?_, rfl⟩
        · show H5 M2 = some (HO.lst (List.map vn _))
          rw [List.map_append, List.map_map]
          exact hM2
        · rw [List.length_append, List.length_map, List.length_range]
          omega
      · obtain ⟨e4, M, mm, s6, s7, hM, hml, rfl⟩ := p
        dsimp only
        refine q_val ?_
        refine callA (ea_cons (ev_var rfl) (ea_cons (ev_var rfl) ea_nil)) fun H5 e5 => ⟨v, M, mm, rfl, hv, hM.mono e5, fun G H6 gs e6 _ hG gfull => ?_⟩
        have e46 := (e4.trans e5).trans e6
        refine q_when (et_test (ev_op (ev_var rfl) (ev_var rfl) (rv_eqI (xs := gs.map fun n : Nat => (n : Int)) (ys := fs.map fun n : Nat => (n : Int)) (by rw [← vn_ints]; exact hG) (by rw [← vn_ints]; exact e46 _ _ hF3)))) (fun hb H7 e7 => ?_) (fun hb H7 e7 => ?_)
        · exact s_ret (ev_var rfl) fun H8 e8 => k F H8 fs ((((e2.trans e3).trans e46).trans e7).trans e8) (e8 _ _ (e7 _ _ (e46 _ _ hF3))) ff
        · exact s_asg (ev_var rfl) fun H8 e8 => ⟨(((e2.trans e3).trans e46).trans e7).trans e8, G, gs, _, _, _, _, _, _, e8 _ _ (e7 _ _ hG), gfull, rfl⟩
    · obtain ⟨e2, F, fs, s4, s5, s6, s7, s8, s9, hF, ff, rfl⟩ := p
      exact s_ret (ev_var rfl) fun H8 e8 => k F H8 fs (e2.trans e8) (e8 _ _ hF) ff
end
end TA
end
/-! TaL12 -/
section
set_option Elab.async false
set_option linter.all false
set_option autoImplicit false
set_option maxRecDepth 100000
set_option maxHeartbeats 4000000
namespace TA
open PySem PySem.Spec PyProof.Rows L2 Evl
section
variable {H H' : Hp} {h c W m d a D : Addr} {v : Nat} {ms ms2 : List Nat} {es : List (Str × List Nat)}
/-- the world's list is none of the others -/
theorem lst_ne {ns : List Nat} (hW : H W = some (.lst [vn v, .ref m, .ref d, .ref a])) (hD : LstN H D ns) : D ≠ W := fun z => by
  subst z
  have hD : H D = some (.lst (ns.map vn)) := hD
  rw [hW] at hD
  cases ns with
  | nil => cases hD
  | cons x l => cases l with
    | nil => cases hD
    | cons y l => cases hD
theorem WoAt.put {o : HO} (hW : H W = some (.lst [vn v, .ref m, .ref d, .ref a])) (h3 : RwAt H d es) (h4 : EsAt H a es) (hD : LstN H D ms2) (ho : o = .lst [vn v, .ref D, .ref d, .ref a]) : WoAt (upd H W o) W v ms2 es := by
  subst ho
  refine ⟨D, d, a, upd_same, ?_, ?_, ?_⟩
  · show upd _ _ _ _ = _
    rw [upd_ne (lst_ne hW hD)]
    exact hD
  · obtain ⟨kvs, k1, k2⟩ := h3
    refine ⟨kvs, ?_, fun q hq => ?_⟩
    · rw [upd_ne (fun z => by subst z; rw [hW] at k1; cases k1)]
      exact k1
    · obtain ⟨r, r1, r2⟩ := k2 q hq
      refine ⟨r, r1, ?_⟩
      show upd _ _ _ _ = _
      rw [upd_ne (lst_ne hW r2)]
      exact r2
  · obtain ⟨xs, k1, k2⟩ := h4
    refine ⟨xs, ?_, Paired.mapP k2 fun x q z => ?_⟩
    · rw [upd_ne (fun z => ?_)]
      · exact k1
      · subst z
        rw [hW] at k1
        cases k1
        cases k2 with
        | cons f _ =>
          obtain ⟨_, _, f0, _⟩ := f
          cases f0
    · obtain ⟨t, r, rfl, ht, hr⟩ := z
      refine ⟨t, r, rfl, ?_, ?_⟩
      · rw [upd_ne (fun z => by subst z; rw [hW] at ht; cases ht)]
        exact ht
      · show upd _ _ _ _ = _
        rw [upd_ne (lst_ne hW hr)]
        exact hr
theorem HandAt.put {o : HO} (hh : HandAt H h c) (hW : H W = some (.lst [vn v, .ref m, .ref d, .ref a])) : HandAt (upd H W o) h c := by
  obtain ⟨ns, p, r, t, h1, h2, h3⟩ := hh
  refine ⟨ns, p, r, t, ?_, ?_, h3⟩
  · rw [upd_ne (fun z => by subst z; rw [hW] at h1; cases h1)]
    exact h1
  · rw [upd_ne (fun z => ?_)]
    · exact h2
    · subst z
      rw [hW] at h2
      cases ns with
      | nil => cases h2
      | cons x l => cases l with
        | nil => cases h2
        | cons y l => cases h2
/-- all kept but two -/
def XX (h W : Addr) (H H' : Hp) : Prop := ∀ a o, a ≠ h → a ≠ W → H a = some o → H' a = some o
end
section
variable {K : PySem.W.Frag} {σ : L2.St} {H : Hp} {D : Ends} {ta tb te : TE} {tz : TS} {v : V}
theorem ev_k : Ev (fun _ H Q => Q v H) σ H v := fun H1 _ Q q => q H1 (Ex.refl H1)
theorem s_setX (h : te σ H fun v H' => tAsg (fun _ H Q => Q v H) (gSub ta tb rSetL) D σ H') : tAsg te (gSub ta tb rSetL) D σ H := h
theorem lc_preA {g : TG} {t : TT} {vs : List Nat} {Q : VK} {tl : TE} (h : tl σ H fun v H1 => tLc (iList K fun _ H Q => Q v H) g t te vs σ H1 Q) : tLc (iA K tl) g t te vs σ H Q := .inl h
theorem el_catVV {xs ys : List V} {p q : Addr} (ha : Ev ta σ H (.ref p)) (hp : H p = some (.lst xs)) (hb : Ev tb σ H (.ref q)) (hq : H q = some (.lst ys)) (hz : xs.length + ys.length ≤ 100000) : EvL (tOp (rAddA K) ta tb) σ H (xs ++ ys) := fun H1 e Q k =>
  ha H1 e _ fun H2 e2 => hb H2 (e.trans e2) _ fun H3 e3 => .inr (.inl ⟨p, q, xs, ys, rfl, rfl, ((e.trans e2).trans e3) _ _ hp, ((e.trans e2).trans e3) _ _ hq, sz_of hz, fun s hs => k s _ (fresh_back (e2.trans e3) hs) ((e2.trans e3).trans (Ex.new hs)) upd_same⟩)
theorem call2L {sp : Sp} {E : XK} {x : V} {ys : List V} {Q : VK} (ha : Ev ta σ H x) (hb : EvL tb σ H ys) (k : ∀ q H1, Ex H H1 → H q = none → H1 q = some (.lst ys) → sp [x, .ref q] H1 Q E) : tCall sp [] E (tCons ta (tCons tb tNil)) σ H Q :=
  ha H (Ex.refl H) _ fun H1 e1 => hb H1 e1 _ fun q H2 hq e2 h2 => k q H2 (e1.trans e2) (fresh_back e1 hq) h2
theorem range_getD (l : List Nat) : ((List.range l.length).map fun i => vn (l.getD i 0)) = l.map vn := by
  refine List.ext_getElem (by simp) fun i h1 h2 => ?_
  rw [List.getElem_map, List.getElem_map, List.getElem_range, List.getD_eq_getElem?_getD, List.getElem?_eq_getElem (by simpa using h2)]
  rfl
end
section
variable {P : Program} {w : World} {K : PySem.W.Frag} {mg : Str → Option Value} {base : Heap}
def spSteered (_ : PySem.W.Frag) : Sp := fun vs H Q _ => ∃ (h c W p : Addr) (v : Nat) (ms : List Nat) (es : List (Str × List Nat)) (pg : Pg) (lot : Nat), vs = [.ref h, .ref W, .ref p, vn lot] ∧ HandAt H h c ∧ WoAt H W v ms es ∧ WoOk v ms es ∧ PrAt H pg p ∧ pg.ht ≤ 8 ∧ pg.wt ≤ 1000 ∧ Fit v (nms es) (rws es) pg ∧ lot < 2 ^ v ∧
  ∀ H2 ms2, XX h W H H2 → HandAt H2 h c → WoAt H2 W v ms2 es → WoOk v ms2 es → Q (.ref W) H2
theorem ok__law_steered (T : Txt w K mg) : Fok P w K mg base 20 (a__law_steered K) P__law_steered (spSteered K) := by
  have F__law_take := ok__law_take (P := P) (base := base) T
  have F__law_refined := ok__law_refined (P := P) (base := base) T
  have F__law_met_steps := ok__law_met_steps (P := P) (base := base) T
  have F__law_met := ok__law_met (P := P) (base := base) T
  refine fok T.f__law_steered sc__law_steered (fun _ _ _ _ _ _ us hl => match us, hl with | [_, _, _, _], _ => rfl) (fun vs H Q E h => ?_) (fun cdv A outer s H vs Q E hr h => ?_)
  · obtain ⟨h, c, W, p, v, ms, es, pg, lot, rfl, _⟩ := h
    rfl
  · obtain ⟨h, c, W, p, v, ms, es, pg, lot, rfl, hh, hW, ok, hp, h8, hw, hF, hl, k⟩ := h
    have H64 := hr.units
    refine ⟨_, (pss_cons (ps_set (i := 4) sc__law_steered.nd rfl (Or.inl rfl) (pe_f F__law_take T.c__law_take (hr.mono (by omega)) (px rfl rfl rfl rfl) (pa_cons (pv 0) (pa_cons pe_int pa_nil))))
      (pss_cons (ps_if (pt_cmpR (op_eqA H64) (pv 4) pe_int (nomark _)) (pss_one (ps_asg (pe_f F__law_refined T.c__law_refined (hr.mono (by omega)) (px rfl rfl rfl rfl) (pa_cons (pe_ix ix_A (pv 1) pe_int (fun _ _ => rfl)) (pa_cons (pe_ix ix_A (pv 1) pe_int (fun _ _ => rfl)) (pa_cons (pe_ix ix_A (pv 1) pe_int (fun _ _ => rfl)) pa_nil)))) (pg_sub (pv 1) pe_int set_list))) pss_nil)
      (pss_cons (ps_if (PW.pt (pw_or (pt_cmpR (op_eqA H64) (pv 4) pe_int (nomark _)) (pw_or1 (pt_cmpR (op_eqA H64) (pv 4) pe_int (nomark _))))) (pss_cons (ps_setLc (i := 5) (own := [("_law_met_here", 6)]) (g := (gName 6)) (tt := tYes) rfl sc__law_steered.nd rfl rfl (sw_true rfl rfl rfl (by decide +kernel)) (pi_A (pe_f F__law_met_steps T.c__law_met_steps (hr.mono (by omega)) (px rfl rfl rfl rfl) (pa_cons (pe_ix ix_A (pv 1) pe_int (fun _ _ => rfl)) (pa_cons (pv 2) (pa_cons (pv 3) pa_nil))))) (blkOk_by (N := N__law_steered) (sc := defScope s__law_steered) (by decide +kernel)) (fun _ _ _ _ _ => (pg_name (i := 6) sc__law_steered.nd rfl (Or.inl rfl))) (fun _ _ _ _ _ => pts_nil) (fun _ _ _ _ _ => (pe_ix (ixK (K := K) rfl) (pv 6) pe_int (fun _ _ => rfl))))
      (pss_cons (ps_if (PW.pt (pw_and (pt_cmpR (op_eqA H64) (pv 4) pe_int (nomark _)) (pw_and1 (pt_truth (pv 5) (fun _ => rfl))))) (pss_one (ps_expr (pe_bm PySem.F.plainAttrs_list PySem.F.slot_list_pop PySem.F.type_list_pop mt_popAt (pv 5) (pa_cons (pe_f F__law_take T.c__law_take (hr.mono (by omega)) (px rfl rfl rfl rfl) (pa_cons (pv 0) (pa_cons (pe_callB call_len_seq rfl T.m_len bt_len (pa_cons (pv 5) pa_nil)) pa_nil))) pa_nil)))) pss_nil)
      (pss_one (ps_asg (pe_f F__law_met T.c__law_met (hr.mono (by omega)) (px rfl rfl rfl rfl) (pa_cons (pe_ix ix_A (pv 1) pe_int (fun _ _ => rfl)) (pa_cons (pe_op op_addA (pe_ix ix_A (pv 1) pe_int (fun _ _ => rfl)) (pv 5)) pa_nil))) (pg_sub (pv 1) pe_int set_list))))) pss_nil)
      (pss_one (ps_ret (pv 1)))))), ?_⟩
    refine take_at (m := 6) rfl ev_c (by decide) (by decide) hh fun H1 way x1 hh1 _ => ?_
    have hW1 := hW.x x1 hh
    have hp1 := hp.n (hh.nx x1)
    have okk : ∀ {ms2 : List Nat}, MsFull v ms2 → WoOk v ms2 es := fun f => ⟨ok.vok, f, ok.ne, ok.len, ok.nm, ok.row, ok.nd⟩
    by_cases z0 : way = 0
    · refine q_when (b := true) (et_is (et_test (ev_eqN (a := way) (b := 0) (ev_var rfl) ev_c)) (decide_eq_true z0)) (fun _ H2 e2 => ?_) (fun q => nomatch q)
      obtain ⟨m, d, a, w1, w2, w3, w4⟩ := hW1.mono e2
      refine s_setX ?_
      refine callA (ea_cons (ev_ixL (ev_var rfl) (ev_c (v := .int 0)) w1 rfl) (ea_cons (ev_ixL (ev_var rfl) (ev_c (v := .int 1)) w1 rfl) (ea_cons (ev_ixL (ev_var rfl) (ev_c (v := .int 3)) w1 rfl) ea_nil))) fun H3 e3 => ⟨v, m, a, ms, es, rfl, ok.vok, w2.mono e3, ok.full, w4.mono e3, ok.len, ok.row, fun D H4 ms2 e4 hD full2 => ?_⟩
      have e34 := e3.trans e4
      refine s_setL (v := .ref D) (j := 1) (e34 _ _ w1) ev_k (ev_var rfl) (ev_c (v := .int 1)) (by show 1 < 4; decide) fun H5 e5 => ?_
      have e35 := e34.trans e5
      have w15 := e35 _ _ w1
      refine q_when (b := false) (et_is (et_or (et_test (ev_eqN (a := way) (b := 1) (ev_var rfl) ev_c)) (fun _ => et_test (ev_eqN (a := way) (b := 2) (ev_var rfl) ev_c))) (by subst z0; rfl)) (fun q => nomatch q) fun _ H6 e6 => ?_
      refine s_ret (ev_var rfl) fun H7 e7 => ?_
      have e67 := e6.trans e7
      refine k H7 ms2 (fun b o n1 n2 q => e67 _ _ ?_) (HandAt.mono e67 (HandAt.put (hh1.mono (e2.trans e35)) w15)) (WoAt.mono e67 (WoAt.put w15 (w3.mono e35) (w4.mono e35) (hD.mono e5) rfl)) (okk full2)
      rw [upd_ne n2]
      exact e35 _ _ (e2 _ _ (x1 _ _ n1 q))
    · refine q_when (b := false) (et_is (et_test (ev_eqN (a := way) (b := 0) (ev_var rfl) ev_c)) (decide_eq_false z0)) (fun q => nomatch q) (fun _ H2 e2 => ?_)
      refine q_when (et_or (et_test (ev_eqN (a := way) (b := 1) (ev_var rfl) ev_c)) (fun _ => et_test (ev_eqN (a := way) (b := 2) (ev_var rfl) ev_c))) (fun _ H3 e3 => ?_) (fun _ H3 e3 => ?_)
      · have e23 := e2.trans e3
        obtain ⟨m, d, a, w1, w2, w3, w4⟩ := hW1.mono e23
        have hh3 := hh1.mono e23
        refine q_val (lc_preA ?_)
        refine callA (ea_cons (ev_ixL (ev_var rfl) (ev_c (v := .int 2)) w1 rfl) (ea_cons (ev_var rfl) (ea_cons (ev_var rfl) ea_nil))) fun H4 e4 => ⟨d, p, v, es, pg, lot, rfl, w3.mono e4, hp1.n (e23.trans e4).n, h8, hw, hF, hl, fun S H5 xs e5 hS hSx hpr => ?_⟩
        have e45 := e4.trans e5
        have hlen := Paired.length hpr
        have hz0 := runN_wt (row := rowOf (nms es) (rws es)) pg lot
        generalize (runN (rowOf (nms es) (rws es)) pg lot).2 = tr at hpr hlen hz0
        have hz : tr.length ≤ 40000 := by omega
        have cmp : EvL (tLc (iList K fun _ H Q => Q (.ref S) H) (gName 6) tYes (tOp (rIxA K) (tVar 6) (tC (.int 2))) [6]) [some (.ref h), some (.ref W), some (.ref p), some (vn lot), some (vn way), none, none] H5 ((tr.map (·.2)).map vn) := by
          have z := el_lcL (K := K) (tl := fun _ H Q => Q (.ref S) H) (t := tYes) (te := tOp (rIxA K) (tVar 6) (tC (.int 2))) (σ := [some (.ref h), some (.ref W), some (.ref p), some (vn lot), some (vn way), none, none]) (H := H5) (a := S) (xs := xs) (j := 6) (vs := [6]) (fun _ => true) (fun i => vn ((tr.map (·.2)).getD i 0)) ev_k (sq_of hSx) (by omega) (fun x => rfl) (fun i x H1 e hx => et_yes) (fun i x H1 e hx _ => by
            obtain ⟨q, hq, t, pa, rfl, ht⟩ := paired_get hpr hx
            have eq : (tr.map (·.2)).getD i 0 = q.2 := by rw [List.getD_eq_getElem?_getD, List.getElem?_map, hq]; rfl
            rw [eq]
            exact ev_ixT (ev_var rfl) ev_c (e _ _ ht) rfl)
          rw [given_all, hlen, ← List.length_map (as := tr) (f := fun q => q.2), range_getD] at z
          exact z
        refine cmp H5 (Ex.refl H5) _ fun L H6 hL e6 hL6 => ?_
        have hlz : (tr.map (·.2)).length ≤ 1000 := by rw [List.length_map]; omega
        generalize tr.map (·.2) = lots at hL6 hlz
        have e36 := e45.trans e6
        have nLh : L ≠ h := fun y => by subst y; obtain ⟨_, _, _, _, q, _⟩ := hh3.mono e45; rw [q] at hL; cases hL
        have nLc : L ≠ c := fun y => by subst y; obtain ⟨_, _, _, _, _, q, _⟩ := hh3.mono e45; rw [q] at hL; cases hL
        have fin : ∀ {H7 : Hp} {l2 : List Nat}, XO h H H7 → HandAt H7 h c → H7 W = some (.lst [vn v, .ref m, .ref d, .ref a]) → LstN H7 m ms → RwAt H7 d es → EsAt H7 a es → LstN H7 L l2 → l2.length ≤ 1000 → ∀ {E : XK} {s6 : Option V}, tAsg (tCall (spMet K) [] E (tCons (tOp (rIxA K) (tVar 1) (tC (.int 0))) (tCons (tOp (rAddA K) (tOp (rIxA K) (tVar 1) (tC (.int 1))) (tVar 5)) tNil))) (gSub (tVar 1) (tC (.int 1)) rSetL) { nx := tRet (tVar 1) { nx := fun _ H' => Q .non H', rt := Q }, rt := Q } [some (.ref h), some (.ref W), some (.ref p), some (vn lot), some (vn way), some (.ref L), s6] H7 := by
          intro H7 l2 x7 hh7 w7 hm7 hd7 ha7 hl7 hz7 E s6
          have fl := ok.full.len
          have v6 : (2 : Nat) ^ v ≤ 64 := Nat.pow_le_pow_right (by decide) ok.vok.2
          refine s_setX ?_
          refine call2L (x := vn v) (ev_ixL (ev_var rfl) (ev_c (v := .int 0)) w7 rfl) (el_catVV (xs := ms.map vn) (ys := l2.map vn) (p := m) (q := L) (ev_ixL (ev_var rfl) (ev_c (v := .int 1)) w7 rfl) hm7 (ev_var rfl) hl7 (by simp only [List.length_map]; omega)) fun q H8 e8 _ hq8 => ⟨v, q, ms ++ l2, rfl, ok.vok, by rw [← List.map_append] at hq8; exact hq8, fun G H9 gs e9 _ hG gfull => ?_⟩
          have e89 := e8.trans e9
          refine s_setL (v := .ref G) (j := 1) (e89 _ _ w7) ev_k (ev_var rfl) (ev_c (v := .int 1)) (by show 1 < 4; decide) fun H10 e10 => ?_
          have e810 := e89.trans e10
          have w10 := e810 _ _ w7
          refine s_ret (ev_var rfl) fun H11 e11 => ?_
          refine k H11 gs (fun b o n1 n2 q => e11 _ _ ?_) (HandAt.mono e11 (HandAt.put (hh7.mono e810) w10)) (WoAt.mono e11 (WoAt.put w10 (hd7.mono e810) (ha7.mono e810) (hG.mono e10) rfl)) (okk gfull)
          rw [upd_ne n2]
          exact e810 _ _ (x7 _ _ n1 q)
        have x6 := x1.trans (e23.trans e36).o
        have hh6 := hh3.mono e36
        refine q_when (b := decide (way = 2) && !(lots.map vn).isEmpty) (et_and (et_test (ev_eqN (a := way) (b := 2) (ev_var rfl) ev_c)) (fun _ => fun H1 e Q q => ⟨_, rfl, _, .inl ⟨_, sq_of (e _ _ hL6), rfl⟩, q H1 (Ex.refl H1)⟩)) (fun hb H7 e7 => ?_) (fun hb H7 e7 => fin (x6.trans e7.o) (hh6.mono e7) (e7 _ _ (e36 _ _ w1)) (w2.mono (e36.trans e7)) (w3.mono (e36.trans e7)) (w4.mono (e36.trans e7)) (e7 _ _ hL6) hlz)
        have hne : 0 < lots.length := by
          have := (Bool.and_eq_true_iff.mp hb).2
          cases lots with
          | nil => exact absurd this (by decide)
          | cons x l => exact Nat.succ_pos _
        have hL7 := e7 _ _ hL6
        refine ⟨_, rfl, .inl ⟨rfl, _, .inl (.inl hL7)⟩, ?_⟩
        refine take_at (m := (lots.map vn).length) rfl (ev_lenL (ev_var rfl) hL7) (by rw [List.length_map]; exact hne) (by rw [List.length_map]; omega) (hh6.mono e7) fun H8 r x8 hh8 lt => ?_
        rw [List.length_map] at lt
        have hL8 := x8 _ _ nLh hL7
        obtain ⟨j, j1, j2, j3, _⟩ := atI_get (at_map lt)
        refine ⟨L, lots.map vn, (r : Int), j, _, rfl, rfl, hL8, by omega, by omega, j1, j2, ?_⟩
        have hh7 := hh6.mono e7
        have e37 := e36.trans e7
        have xu : ∀ {b : Addr} {o : HO}, H3 b = some o → H8 b = some o → (upd H8 L (.lst ((lots.map vn).eraseIdx j))) b = some o := fun {b o} q3 q8 => by
          rw [upd_ne (fun z => by subst z; rw [e45 _ _ q3] at hL; cases hL)]
          exact q8
        have x3 : XO h H3 (upd H8 L (.lst ((lots.map vn).eraseIdx j))) := fun b o nb q => xu q (x8 _ _ nb (e37 _ _ q))
        have hhL : HandAt (upd H8 L (.lst ((lots.map vn).eraseIdx j))) h c := by
          obtain ⟨ns, p, r', t, q1, q2, q3⟩ := hh8
          exact ⟨ns, p, r', t, by rw [upd_ne nLh.symm]; exact q1, by rw [upd_ne nLc.symm]; exact q2, q3⟩
        refine fin (l2 := lots.eraseIdx j) ((x1.trans e23.o).trans x3) hhL (x3.keep hh3 w1 fun _ _ _ _ z => by cases z) (w2.x x3 hh3) (w3.x x3 hh3) (w4.x x3 hh3) ?_ ?_
        · show upd _ _ _ _ = _
          rw [upd_same]
          exact congrArg (fun l => some (HO.lst l)) (by rw [List.eraseIdx_eq_take_drop_succ, List.eraseIdx_eq_take_drop_succ, List.map_append, List.map_take, List.map_drop])
        · exact Nat.le_trans (List.length_eraseIdx_le ..) hlz
      · have e23 := e2.trans e3
        refine s_ret (ev_var rfl) fun H4 e4 => k H4 ms (fun b o n1 n2 q => e4 _ _ (e23 _ _ (x1 _ _ n1 q))) (hh1.mono (e23.trans e4)) (hW1.mono (e23.trans e4)) ok
end
end TA
end
/-! TaL13 -/
section
set_option Elab.async false
set_option linter.all false
set_option autoImplicit false
set_option maxRecDepth 100000
set_option maxHeartbeats 4000000
namespace TA
open PySem PySem.Spec PyProof.Rows L2 Evl
theorem pgtK {X : Cx} {K : PySem.W.Frag} {es : List Expr} {k : Nat} {t : TGs} {n : Nat} {pos : Pos} (h : X.K = K) (hc : X.calm = true) (hg : PGs X es t) (hn : (assignEach es X.env).length = n := by rfl) (hst : (assignEach es X.env).findIdx? (·.1) = none := by rfl) : PG X (.Tuple es k pos) (gTup K n t) := by
  subst h
  exact pg_tup hc hg hn hst
section
variable {P : Program} {w : World} {K : PySem.W.Frag} {mg : Str → Option Value} {base : Heap}
theorem SqA.x {H H' : Hp} {h D : Addr} {xs : List V} (x : XO h H H') (hn : D ≠ h) (d : SqA H D xs) : SqA H' D xs := d.imp (x _ _ hn) (x _ _ hn)
/-- an entry, drawn: none of its parts is the hand or the list itself -/
def EntH (H : Hp) (h D : Addr) (x : V) (q : Str × List Nat) : Prop := ∃ a r, x = .ref a ∧ SqA H a [.str q.1, .ref r] ∧ SqA H r (q.2.map vn) ∧ a ≠ h ∧ r ≠ h ∧ a ≠ D ∧ r ≠ D
theorem EntH.x {H H' : Hp} {h D : Addr} {x : V} {q : Str × List Nat} (e : ∀ b o, b ≠ h → b ≠ D → H b = some o → H' b = some o) (d : EntH H h D x q) : EntH H' h D x q := let ⟨a, r, h0, h1, h2, n1, n2, n3, n4⟩ := d; ⟨a, r, h0, h1.imp (e _ _ n1 n3) (e _ _ n1 n3), h2.imp (e _ _ n2 n4) (e _ _ n2 n4), n1, n2, n3, n4⟩
theorem EntH.at {H : Hp} {h D : Addr} {x : V} {q : Str × List Nat} (d : EntH H h D x q) : EntAt H x q := let ⟨a, r, h0, h1, h2, _, _, _, _⟩ := d; ⟨a, r, h0, h1, h2⟩
theorem lst_nh {H : Hp} {h c D : Addr} {ns : List Nat} (hh : HandAt H h c) (d : LstN H D ns) : D ≠ h := fun z => by
  subst z
  obtain ⟨_, _, _, _, q, _⟩ := hh
  have d : H D = some (.lst (ns.map vn)) := d
  rw [q] at d
  cases ns with
  | nil => cases d
  | cons x l => cases d
theorem hand_ne {H : Hp} {h c D : Addr} (hh : HandAt H h c) (hD : H D = none) : D ≠ h ∧ D ≠ c := by
  obtain ⟨_, _, _, _, q1, q2, _⟩ := hh
  exact ⟨fun z => (by subst z; rw [q1] at hD; cases hD), fun z => (by subst z; rw [q2] at hD; cases hD)⟩
theorem es_nh {H : Hp} {h c a : Addr} {xs : List V} {es : List (Str × List Nat)} (hh : HandAt H h c) (h1 : H a = some (.lst xs)) (h2 : Paired (EnT H) xs es) : a ≠ h := fun z => by
  subst z
  obtain ⟨_, p, r, t, q, _⟩ := hh
  rw [q] at h1
  have z1 : xs = [.ref c, vn p, .int r, .int t] := by cases h1; rfl
  subst z1
  obtain ⟨y, _, f⟩ := paired_get (i := 1) h2 rfl
  obtain ⟨_, _, f0, _⟩ := f
  cases f0
theorem cons_te {σ : L2.St} {H : Hp} {t : TE} {tr : TA} {R : List V → Hp → Prop} (h : t σ H fun v H1 => tr σ H1 fun vs H2 => R (v :: vs) H2) : tCons t tr σ H R := h
theorem ret_tup {σ : L2.St} {H : Hp} {D : Ends} {ta : TA} (h : ta σ H fun vs H1 => vs.length ≤ sizeLine ∧ ∀ t, H1 t = none → D.rt (.ref t) (upd H1 t (.tup vs))) : tRet (tTup ta) D σ H := h
theorem make_te {σ : L2.St} {H : Hp} {C : Addr} {sp : Sp} {E : XK} {t : TA} {vs : List V} {Q : VK} (h : EvA t σ H vs) (k : ∀ H1, Ex H H1 → ∀ x dx, H1 x = none → H1 dx = none → dx ≠ x → sp (.ref x :: (vs ++ [])) (upd (upd H1 dx (.own x)) x (.ins C dx [])) (fun v H2 => v = .non ∧ Q (.ref x) H2) E) : tMake C sp [] E t σ H Q := h H (Ex.refl H) _ k
def spMake (K : PySem.W.Frag) : Sp := fun vs H Q _ => ∃ (h c W : Addr) (v : Nat) (ms : List Nat) (es : List (Str × List Nat)), vs = [.ref h, .ref W] ∧ HandAt H h c ∧ WoAt H W v ms es ∧ WoOk v ms es ∧
  ∀ t G S H2, XO h H H2 → HandAt H2 h c → H2 t = some (.tup [.ref G, .ref S]) → GlAt K H2 G v ms → StAt K H2 S v (nms es) (rws es) → Q (.ref t) H2
theorem ok__law_make (T : Txt w K mg) : Fok P w K mg base 7 (a__law_make K) P__law_make (spMake K) := by
  have F__law_list := ok__law_list (P := P) (base := base) T
  have F_Glasses_init := ok_Glasses_init (P := P) (base := base) T
  have F_Steps_init := ok_Steps_init (P := P) (base := base) T
  refine fok T.f__law_make sc__law_make (fun _ _ _ _ _ _ us hl => match us, hl with | [_, _], _ => rfl) (fun vs H Q E h => ?_) (fun cdv A outer s H vs Q E hr h => ?_)
  · obtain ⟨h, c, W, v, ms, es, rfl, _⟩ := h
    rfl
  · obtain ⟨h, c, W, v, ms, es, rfl, hh, hW, ok, k⟩ := h
    refine ⟨_, (pss_cons (ps_set (i := 2) sc__law_make.nd rfl (Or.inl rfl) (pe_f F__law_list T.c__law_list (hr.mono (by omega)) (px rfl rfl rfl rfl) (pa_cons (pv 0) (pa_cons (pe_ix ix_A (pv 1) pe_int (fun _ _ => rfl)) pa_nil))))
      (pss_cons (ps_set (i := 3) sc__law_make.nd rfl (Or.inl rfl) (pe_f F__law_list T.c__law_list (hr.mono (by omega)) (px rfl rfl rfl rfl) (pa_cons (pv 0) (pa_cons (pe_lc (own := [("_law_name", 4), ("_law_row", 5)]) (g := (g2 K 4 5)) (tt := tYes) rfl sc__law_make.nd (pi_A (pe_ix ix_A (pv 1) pe_int (fun _ _ => rfl))) (blkOk_by (N := N__law_make) (sc := defScope s__law_make) (by decide +kernel)) (fun _ _ _ _ _ => (pgtK (K := K) rfl rfl (pgs_cons (pg_name (i := 4) sc__law_make.nd rfl (Or.inl rfl)) (pgs_cons (pg_name (i := 5) sc__law_make.nd rfl (Or.inl rfl)) pgs_nil)))) (fun _ _ _ _ _ => pts_nil) (fun _ _ _ _ _ => (pe_f F__law_list T.c__law_list (hr.mono (by omega)) passL (pa_cons (pv 0) (pa_cons (pe_lst (pa_cons (pv 4) (pa_cons (pe_f F__law_list T.c__law_list (hr.mono (by omega)) passL (pa_cons (pv 0) (pa_cons (pv 5) pa_nil))) pa_nil))) pa_nil))))) pa_nil))))
      (pss_one (ps_ret (pe_tup (pa_cons (pe_new F_Glasses_init T.mk_Glasses T.g_Glasses (hr.mono (by omega)) (px rfl rfl rfl rfl) (pa_cons (pe_ix ix_A (pv 1) pe_int (fun _ _ => rfl)) (pa_cons (pv 2) pa_nil))) (pa_cons (pe_new F_Steps_init T.mk_Steps T.g_Steps (hr.mono (by omega)) (px rfl rfl rfl rfl) (pa_cons (pe_ix ix_A (pv 1) pe_int (fun _ _ => rfl)) (pa_cons (pv 3) pa_nil))) pa_nil))))))), ?_⟩
    obtain ⟨m, d, a, w1, w2, w3, w4⟩ := id hW
    have nmh := lst_nh hh w2
    refine q_val ?_
    refine callA (ea_cons (ev_var rfl) (ea_cons (ev_ixL (ev_var rfl) (ev_c (v := .int 1)) w1 rfl) ea_nil)) fun H1 e1 => ⟨h, c, m, _, rfl, hh.mono e1, e1 _ _ w2, nmh, fun M H2 x2 hh2 hM hMs => ?_⟩
    have x12 := e1.o.trans x2
    have hh1 := hh.mono e1
    obtain ⟨exs, hexs, hep⟩ := id w4
    obtain ⟨m', d', a', v1, v2, v3, v4⟩ := (hW.mono e1).x x2 hh1
    have va : H2 W = some (.lst [vn v, .ref m, .ref d, .ref a]) := x2.keep hh1 (e1 _ _ w1) fun _ _ _ _ z => by cases z
    have hexs2 : H2 a = some (.lst exs) := x2 _ _ (es_nh hh hexs hep) (e1 _ _ hexs)
    have hep2 : Paired (EnT H2) exs es := Paired.mapP hep fun _ _ z => (z.mono e1).x x2 hh1
    have nah := es_nh hh hexs hep
    refine q_val ?_
    refine ⟨_, rfl, ?_⟩
    refine cons_te (lc_A (a := a) (xs := exs) (ev_ixL (ev_var rfl) (ev_c (v := .int 3)) va rfl) (.inl hexs2) (fun D i H' => XO h H2 H' ∧ HandAt H' h c ∧ H2 D = none ∧ ∃ xs, H' D = some (.lst xs) ∧ Paired (EntH H' h D) xs (es.take i)) (fun D H3 e3 hD => ?_) (fun D i H' p o q => ?_) (fun D i x H' hx p => ?_) (fun D H' p => ?_))
    · have e4 := e3.trans (Ex.new (o := .lst []) hD)
      exact ⟨e4.o, hh2.mono e4, fresh_back e3 hD, [], upd_same, by rw [List.take_zero]; exact .nil⟩
    · exact p.1 _ _ nah q
    · obtain ⟨x3, hh3, hD, xs, hxs, hp⟩ := p
      obtain ⟨q, hq, t, r, rfl, ht, hr2⟩ := paired_get hep2 hx
      have nD := hand_ne hh2 hD
      have ht3 := x3.keep hh2 ht fun _ _ _ _ z => nomatch z
      have hr3 := hr2.x x3 hh2
      have hi : i < es.length := (List.getElem?_eq_some_iff.mp hq).1
      have hlx : xs.length ≤ 3 := by
        rw [Paired.length hp, List.length_take]
        have := ok.len
        omega
      refine g2_at ht3 ⟨rfl, yesT ?_⟩
      refine ⟨_, rfl, ?_⟩
      refine cons_te ?_
      refine ⟨_, rfl, ?_⟩
      refine cons_te (callA (ea_cons (ev_var rfl) (ea_cons (ev_var rfl) ea_nil)) fun H5 e5 => ⟨h, c, r, _, rfl, hh3.mono e5, e5 _ _ hr3, lst_nh hh3 hr3, fun R H6 x6 hh6 hR hRs => ?_⟩)
      have x36 := e5.o.trans x6
      have hxs6 := x36 _ _ nD.1 hxs
      refine ⟨by show 2 ≤ sizeLine; decide, fun L hL => ?_⟩
      have e7 : Ex H6 (upd H6 L (.lst [.str q.1, .ref R])) := Ex.new hL
      have nL := hand_ne hh6 hL
      have hh7 := hh6.mono e7
      refine ⟨h, c, L, _, rfl, hh7, upd_same, nL.1, fun Z H8 x8 hh8 hZ hZs => ?_⟩
      have x68 := e7.o.trans x8
      have hxs7 := e7 _ _ hxs6
      have hxs8 := x8 _ _ nD.1 hxs7
      have nZD : Z ≠ D := fun z => by subst z; rw [hxs7] at hZ; cases hZ
      have nRD : R ≠ D := fun z => by subst z; rw [e5 _ _ hxs] at hR; cases hR
      have nR := hand_ne (hh3.mono e5) hR
      have nZ := hand_ne hh7 hZ
      have keep : ∀ b o, b ≠ h → b ≠ D → H' b = some o → (upd H8 D (.lst (xs ++ [.ref Z]))) b = some o := fun b o n1 n2 z => by
        rw [upd_ne n2]
        exact x68 _ _ n1 (x36 _ _ n1 z)
      refine ⟨xs, hxs8, sz_lt (by omega), fun b o nb z => ?_, ?_, hD, xs ++ [.ref Z], upd_same, ?_⟩
      · exact keep b o nb (ne_of_none z hD) (x3 _ _ nb z)
      · obtain ⟨ms', p, r', t', q1, q2, q3⟩ := hh8
        exact ⟨ms', p, r', t', by rw [upd_ne nD.1.symm]; exact q1, by rw [upd_ne nD.2.symm]; exact q2, q3⟩
      · rw [List.take_add_one, hq]
        refine paired_app (Paired.mapP hp fun _ _ z => z.x keep) (.cons ⟨Z, R, rfl, ?_, ?_, nZ.1, nR.1, nZD, nRD⟩ .nil)
        · exact hZs.imp (fun y => by rw [upd_ne nZD]; exact y) (fun y => by rw [upd_ne nZD]; exact y)
        · exact hRs.imp (fun y => by rw [upd_ne nRD]; exact x68 _ _ nR.1 y) (fun y => by rw [upd_ne nRD]; exact x68 _ _ nR.1 y)
    · obtain ⟨x3, hh3, hD, xs, hxs, hp⟩ := p
      rw [show exs.length = es.length from Paired.length hep, List.take_length] at hp
      refine ⟨h, c, D, xs, rfl, hh3, hxs, (hand_ne hh2 hD).1, fun R H4 x4 hh4 hR hRs => ?_⟩
      have nD := hand_ne hh2 hD
      have hM0 := (hand_ne hh1 hM).1
      have x24 := x3.trans x4
      have hp4 : Paired (EntAt H4) xs es := Paired.mapP hp fun _ _ z => (z.x fun b o n1 n2 y => x4 _ _ n1 y).at
      have hM4 : SqA H4 M (ms.map vn) := hMs.x x24 hM0
      have va4 := x24.keep hh2 va fun _ _ _ _ z => by cases z
      have eok : EsOk v es := ⟨by have := ok.len; omega, fun q hq => (ok.nm q hq).1, ok.row, ok.nd⟩
      refine ret_tup (cons_te (make_te (vs := [vn v, .ref M]) (ea_cons (ev_ixL (ev_var rfl) (ev_c (v := .int 0)) va4 rfl) (ea_cons (ev_var rfl) ea_nil)) fun H5 e5 x dx hx hdx hne => ?_))
      have e6 : Ex H5 (upd (upd H5 dx (.own x)) x (.ins (He.ga K "Glasses") dx [])) := (Ex.new hdx).trans (Ex.new (by rw [upd_ne hne.symm]; exact hx))
      refine ⟨x, dx, M, v, ms, rfl, upd_same, hM4.mono (e5.trans e6), ok.vok, ok.full, fun H6 b x6 hx6 hb => ⟨rfl, ?_⟩⟩
      have e46 : Ex H4 H6 := e5.trans fun b o q => x6 b o (ne_of_none q hx) (e6 _ _ q)
      have hG : GlAt K H6 x v ms := ⟨dx, b, hx6, hb⟩
      refine cons_te (make_te (vs := [vn v, .ref R]) (ea_cons (ev_ixL (ev_var rfl) (ev_c (v := .int 0)) (e46 _ _ va4) rfl) (ea_cons (ev_var rfl) ea_nil)) fun H7 e7 y dy hy hdy hne2 => ?_)
      have e8 : Ex H7 (upd (upd H7 dy (.own y)) y (.ins (He.ga K "Steps") dy [])) := (Ex.new hdy).trans (Ex.new (by rw [upd_ne hne2.symm]; exact hy))
      refine ⟨y, dy, R, v, xs, es, rfl, upd_same, hRs.mono (e46.trans (e7.trans e8)), Paired.mapP hp4 fun _ _ z => z.mono (e46.trans (e7.trans e8)), ok.vok, eok, fun H8 x8 hS => ⟨rfl, ?_⟩⟩
      have e68 : Ex H6 H8 := e7.trans fun b o q => x8 b o (ne_of_none q hy) (e8 _ _ q)
      refine ⟨by show 2 ≤ sizeLine; decide, fun t ht => ?_⟩
      have e9 : Ex H8 (upd H8 t (.tup [.ref x, .ref y])) := Ex.new ht
      have e49 := (e46.trans e68).trans e9
      exact k t x y _ ((x12.trans x24).trans e49.o) (hh4.mono e49) upd_same (hG.n (e68.trans e9).n) (hS.n e9.n)
end
end TA
end
/-! TaL14 -/
section
set_option Elab.async false
set_option linter.all false
set_option autoImplicit false
set_option maxRecDepth 100000
set_option maxHeartbeats 4000000
namespace TA
open PySem PySem.Spec PyProof.Rows L2 Evl
section
variable {P : Program} {w : World} {K : PySem.W.Frag} {mg : Str → Option Value} {base : Heap}
/-- what the law expects of a call with these faults -/
def dueL (n : Nat) (f0 f1 f2 f3 : Bool) : List Str := if (f0 && !decide (n = 1)) = true then ["unlike"] else if f1 = true then ["program"] else if ((f2 && !decide (n = 5)) || (f3 && decide (n = 2))) = true then ["lot"] else []
def spDue (_ : PySem.W.Frag) : Sp := fun vs H Q _ => ∃ (n : Nat) (a : Addr) (f0 f1 f2 f3 : Bool), vs = [vn n, .ref a] ∧ H a = some (.lst [.bl f0, .bl f1, .bl f2, .bl f3]) ∧ ∀ D H2, Ex H H2 → H D = none → H2 D = some (.lst ((dueL n f0 f1 f2 f3).map V.str)) → Q (.ref D) H2
theorem et_bl {σ : L2.St} {H : Hp} {ta : TE} {b : Bool} (ha : Ev ta σ H (.bl b)) : EvT (fun σ H Q => ta σ H fun x H' => ∃ k, TruV K x H' k ∧ Q k H') σ H b := fun H1 e1 Q q => ha H1 e1 _ fun H2 e2 => ⟨b, rfl, q H2 e2⟩
theorem ok__law_due (T : Txt w K mg) : Fok P w K mg base 1 (a__law_due K) P__law_due (spDue K) := by
  refine fok T.f__law_due sc__law_due (fun _ _ _ _ _ _ us hl => match us, hl with | [_, _], _ => rfl) (fun vs H Q E h => ?_) (fun cdv A outer s H vs Q E hr h => ?_)
  · obtain ⟨n, a, f0, f1, f2, f3, rfl, _⟩ := h
    rfl
  · obtain ⟨n, a, f0, f1, f2, f3, rfl, ha, k⟩ := h
    have H64 := hr.units
    refine ⟨_, (pss_cons (ps_if (PW.pt (pw_and (pt_truth (pe_ix ix_A (pv 1) pe_int (fun _ _ => rfl)) (fun _ => rfl)) (pw_and1 (pt_cmpR (op_neA H64) (pv 0) pe_int (nomark _))))) (pss_one (ps_ret (pe_lst (pa_cons pe_str pa_nil)))) pss_nil)
      (pss_cons (ps_if (pt_truth (pe_ix ix_A (pv 1) pe_int (fun _ _ => rfl)) (fun _ => rfl)) (pss_one (ps_ret (pe_lst (pa_cons pe_str pa_nil)))) pss_nil)
      (pss_cons (ps_if (PW.pt (pw_or (PW.pt (pw_and (pt_truth (pe_ix ix_A (pv 1) pe_int (fun _ _ => rfl)) (fun _ => rfl)) (pw_and1 (pt_cmpR (op_neA H64) (pv 0) pe_int (nomark _))))) (pw_or1 (PW.pt (pw_and (pt_truth (pe_ix ix_A (pv 1) pe_int (fun _ _ => rfl)) (fun _ => rfl)) (pw_and1 (pt_cmpR (op_eqA H64) (pv 0) pe_int (nomark _)))))))) (pss_one (ps_ret (pe_lst (pa_cons pe_str pa_nil)))) pss_nil)
      (pss_one (ps_ret (pe_lst pa_nil)))))), ?_⟩
    have eN : ∀ {m : Nat} {H1 : Hp}, Ev (tOp (rEqA K) (tVar 0) (tC (vn m))) [some (vn n), some (.ref a)] H1 (.bl (decide (n = m))) := ev_eqN (ev_var rfl) ev_c
    have eM : ∀ {m : Nat} {H1 : Hp}, Ev (tOp (rNeA K) (tVar 0) (tC (vn m))) [some (vn n), some (.ref a)] H1 (.bl (!decide (n = m))) := ev_neN (ev_var rfl) ev_c
    have f : ∀ {H1 : Hp}, Ex H H1 → ∀ {j : Int} {b : Bool}, atI [V.bl f0, .bl f1, .bl f2, .bl f3] j = some (.bl b) → EvT (fun σ H Q => tOp (rIxA K) (tVar 1) (tC (.int j)) σ H fun x H' => ∃ k, TruV K x H' k ∧ Q k H') [some (vn n), some (.ref a)] H1 b := by
      intro H1 e j b hb
      exact et_bl (ev_ixL (ev_var rfl) ev_c (e _ _ ha) hb)
    unfold dueL at k
    refine q_when (b := f0 && !decide (n = 1)) (et_and (f (Ex.refl H) rfl) fun _ => et_test eM) (fun hb H1 e1 => ?_) (fun hb H1 e1 => ?_)
    · rw [if_pos hb] at k
      exact s_retL (el_lst (vs := [.str "unlike"]) (ea_cons ev_c ea_nil) (by show 1 ≤ 100000; decide)) fun D H2 hD e2 h2 => k D H2 (e1.trans e2) (fresh_back e1 hD) h2
    rw [if_neg (fun z => by rw [z] at hb; cases hb)] at k
    refine q_when (b := f1) (f e1 rfl) (fun hb H2 e2 => ?_) (fun hb H2 e2 => ?_)
    · rw [if_pos hb] at k
      exact s_retL (el_lst (vs := [.str "program"]) (ea_cons ev_c ea_nil) (by show 1 ≤ 100000; decide)) fun D H3 hD e3 h3 => k D H3 ((e1.trans e2).trans e3) (fresh_back (e1.trans e2) hD) h3
    rw [if_neg (fun z => by rw [z] at hb; cases hb)] at k
    have e12 := e1.trans e2
    refine q_when (b := (f2 && !decide (n = 5)) || (f3 && decide (n = 2))) (et_or (et_and (f e12 rfl) fun _ => et_test eM) fun _ => et_and (f e12 rfl) fun _ => et_test eN) (fun hb H3 e3 => ?_) (fun hb H3 e3 => ?_)
    · rw [if_pos hb] at k
      exact s_retL (el_lst (vs := [.str "lot"]) (ea_cons ev_c ea_nil) (by show 1 ≤ 100000; decide)) fun D H4 hD e4 h4 => k D H4 ((e12.trans e3).trans e4) (fresh_back (e12.trans e3) hD) h4
    rw [if_neg (fun z => by rw [z] at hb; cases hb)] at k
    exact s_retL (el_lst ea_nil (by decide)) fun D H4 hD e4 h4 => k D H4 ((e12.trans e3).trans e4) (fresh_back (e12.trans e3) hD) h4
end
end TA
end
/-! TaL15 -/
section
set_option Elab.async false
set_option linter.all false
set_option autoImplicit false
set_option maxRecDepth 100000
set_option maxHeartbeats 4000000
namespace TA
open PySem PySem.Spec PyProof.Rows L2 Evl
section
variable {P : Program} {w : World} {K : PySem.W.Frag} {mg : Str → Option Value} {base : Heap}
theorem op_te {σ : L2.St} {H : Hp} {ta tb : TE} {r : R2} {Q : VK} (h : ta σ H fun x H1 => tb σ H1 fun y H2 => r x y H2 Q) : tOp r ta tb σ H Q := h
theorem tup_te {σ : L2.St} {H : Hp} {ta : TA} {Q : VK} (h : ta σ H fun vs H1 => vs.length ≤ sizeLine ∧ ∀ t, H1 t = none → Q (.ref t) (upd H1 t (.tup vs))) : tTup ta σ H Q := h
theorem ev_te {σ : L2.St} {H : Hp} {t : TE} {tr : TA} {v : V} {R : List V → Hp → Prop} (h : Ev t σ H v) (k : ∀ H1, Ex H H1 → tr σ H1 fun vs H2 => R (v :: vs) H2) : tCons t tr σ H R := h H (Ex.refl H) _ k
def spNoLot (_ : PySem.W.Frag) : Sp := fun vs H Q _ => ∃ (h c : Addr) (v : Nat), vs = [.ref h, vn v] ∧ HandAt H h c ∧ Vok v ∧ ∀ H2 x ty, XO h H H2 → HandAt H2 h c → Kd H2 x ty → lotB v x = false → Q x H2
theorem ok__law_no_lot (T : Txt w K mg) : Fok P w K mg base 3 (a__law_no_lot K) P__law_no_lot (spNoLot K) := by
  have F__law_take := ok__law_take (P := P) (base := base) T
  refine fok T.f__law_no_lot sc__law_no_lot (fun _ _ _ _ _ _ us hl => match us, hl with | [_, _], _ => rfl) (fun vs H Q E h => ?_) (fun cdv A outer s H vs Q E hr h => ?_)
  · obtain ⟨h, c, v, rfl, _⟩ := h
    rfl
  · obtain ⟨h, c, v, rfl, hh, hv, k⟩ := h
    have v2 := hv.2
    have vp := Nat.two_pow_pos v
    have v6 : (2 : Nat) ^ v ≤ 64 := Nat.pow_le_pow_right (by decide) hv.2
    have hshl : 1 <<< v = 2 ^ v := by rw [Nat.shiftLeft_eq, Nat.one_mul]
    refine ⟨_, (pss_one (ps_ret (pe_ix ix_A (pe_tup (pa_cons pe_non (pa_cons pe_str (pa_cons pe_bl (pa_cons (pe_un un_neg pe_int) (pa_cons (pe_op op_shl pe_int (pv 1)) (pa_cons (pe_op op_pow pe_int pe_int) (pa_cons (pe_tup (pa_cons pe_int pa_nil)) (pa_cons pe_bl pa_nil))))))))) (pe_f F__law_take T.c__law_take (hr.mono (by omega)) (px rfl rfl rfl rfl) (pa_cons (pv 0) (pa_cons pe_int pa_nil))) (fun _ _ => rfl)))), ?_⟩
    refine op_te (tup_te (ev_te (v := .non) ev_c fun H1 e1 => ev_te (v := .str "ab") ev_c fun H2 e2 => ev_te (v := .bl true) ev_c fun H3 e3 => ev_te (v := .int (-1)) (ev_neg ev_c) fun H4 e4 => ev_te (v := vn (2 ^ v)) (ev_is (ev_shl (a := 1) ev_c (ev_var rfl) (by decide) (by omega)) (by rw [hshl])) fun H5 e5 =>
      ev_te (v := .int (10 ^ 30)) (ev_op ev_c ev_c (rv_I (C := CPow) (g := fun i j => .int (i ^ j.toNat)) (i := 10) (j := 30) ⟨by decide, by decide, by decide⟩)) fun H6 e6 => cons_te (tup_te (ev_te (v := .int 1) ev_c fun H7 e7 => ⟨by show 1 ≤ sizeLine; decide, fun u hu => ev_te (v := .bl false) ev_c fun H8 e8 => ⟨by show 8 ≤ sizeLine; decide, fun t ht => ?_⟩⟩))))
    have e17 := ((((((e1.trans e2).trans e3).trans e4).trans e5).trans e6).trans e7)
    have e18 := (e17.trans (Ex.new (o := .tup [.int 1]) hu)).trans e8
    have hu8 := e8 _ _ (upd_same (H := H7) (a := u) (o := .tup [.int 1]))
    have e19 := e18.trans (Ex.new (o := .tup [.non, .str "ab", .bl true, .int (-1), vn (2 ^ v), .int (10 ^ 30), .ref u, .bl false]) ht)
    have nt := hand_ne (hh.mono e18) ht
    refine take_at (m := 8) rfl ev_c (by decide) (by decide) (hh.mono e19) fun H9 r x9 hh9 lt => ?_
    have ht9 := x9 _ _ nt.1 upd_same
    have hu9 : H9 u = some (.tup [.int 1]) := x9.keep (hh.mono e19) ((Ex.new ht) _ _ hu8) fun _ _ _ _ z => nomatch z
    have x19 := e19.o.trans x9
    have fin : ∀ {x : V} {ty : String}, atI [V.non, .str "ab", .bl true, .int (-1), vn (2 ^ v), .int (10 ^ 30), .ref u, .bl false] (r : Int) = some x → Kd H9 x ty → lotB v x = false → rIxA K (.ref t) (vn r) H9 Q := fun hx hk hl => (rv_or2 (rv_ixT (st_of ht9) hx)) H9 (Ex.refl H9) _ fun H10 e10 => k H10 _ _ (x19.trans e10.o) (hh9.mono e10) (hk.mono e10) hl
    have big : ∀ i : Int, (i < 0 ∨ 2 ^ v - 1 < i) → lotB v (.int i) = false := fun i hi => by
      show (decide (0 ≤ i) && decide (i ≤ 2 ^ v - 1)) = false
      rcases hi with z | z
      · rw [decide_eq_false (by omega), Bool.false_and]
      · rw [decide_eq_false (p := i ≤ 2 ^ v - 1) (by omega), Bool.and_false]
    rcases (by omega : r = 0 ∨ r = 1 ∨ r = 2 ∨ r = 3 ∨ r = 4 ∨ r = 5 ∨ r = 6 ∨ r = 7) with rfl | rfl | rfl | rfl | rfl | rfl | rfl | rfl
    · exact fin rfl .non rfl
    · exact fin rfl (.str _) rfl
    · exact fin rfl (.bl _) rfl
    · exact fin rfl (.int _) (big _ (.inl (by decide)))
    · exact fin rfl (.int _) (big _ (.inr (by push_cast; omega)))
    · exact fin rfl (.int _) (big _ (.inr (by have : ((2 ^ v : Nat) : Int) ≤ 64 := by exact_mod_cast v6
                                              push_cast at this
                                              omega)))
    · exact fin rfl (.tup hu9) rfl
    · exact fin rfl (.bl _) rfl
end
end TA
end
/-! TaL16 -/
section
set_option Elab.async false
set_option linter.all false
set_option autoImplicit false
set_option maxRecDepth 100000
set_option maxHeartbeats 4000000
namespace TA
open PySem PySem.Spec PyProof.Rows L2 Evl
/-! ### programs that are refused -/
def longN : Nat → Nd
  | 0 => .no
  | i + 1 => .ei (longN i) (longN i)
def deepN (nm : Str) : Nat → Nd
  | 0 => .st (.str nm)
  | i + 1 => .be .no (deepN nm i)
def loopN (nm : Str) : Nat → Nd
  | 0 => .st (.str nm)
  | i + 1 => .ag (loopN nm i)
theorem chk_long (ns : List Str) : chk ns (longN 5) 1 0 0 = none := rfl
theorem chk_deep (ns : List Str) (nm : Str) : chk ns (deepN nm 12) 1 0 0 = none := rfl
theorem chk_loop (ns : List Str) (nm : Str) : chk ns (loopN nm 5) 1 0 0 = none := rfl
/-- a term that gives such a program, the heap only grows -/
def EvN (te : TE) (σ : L2.St) (H : Hp) (nd : Nd) : Prop := ∀ H1, Ex H H1 → ∀ Q : VK, (∀ x H2, Ex H1 H2 → NdAt H2 nd x → Q x H2) → te σ H1 Q
def EvNs (ta : TA) (σ : L2.St) (H : Hp) (nds : List Nd) : Prop := ∀ H1, Ex H H1 → ∀ Q : List V → Hp → Prop, (∀ xs H2, Ex H1 H2 → Paired (fun nd x => NdAt H2 nd x) nds xs → Q xs H2) → ta σ H1 Q
section
variable {σ : L2.St} {H : Hp} {te : TE} {ta : TA} {nd : Nd} {nds : List Nd} {x : V}
theorem en_nil : EvNs tNil σ H [] := fun H1 e Q q => q [] H1 (Ex.refl H1) .nil
theorem en_cons (h : EvN te σ H nd) (hr : EvNs ta σ H nds) : EvNs (tCons te ta) σ H (nd :: nds) := fun H1 e Q q => h H1 e _ fun x H2 e2 hx => hr H2 (e.trans e2) _ fun xs H3 e3 hp => q (x :: xs) H3 (e2.trans e3) (.cons (hx.mono e3) hp)
theorem n_v (h : Ev te σ H x) (hn : NdAt H nd x) : EvN te σ H nd := fun H1 e Q q => h H1 e _ fun H2 e2 => q x H2 e2 (hn.mono (e.trans e2))
theorem n_u {xs : List V} (h : EvU te σ H xs) (hn : ∀ p H2, Ex H H2 → H2 p = some (.tup xs) → NdAt H2 nd (.ref p)) : EvN te σ H nd := fun H1 e Q q => h H1 e _ fun p H2 _ e2 hp => q _ H2 e2 (hn p H2 (e.trans e2) hp)
theorem n_l {xs : List V} (h : EvL te σ H xs) (hn : ∀ p H2, Ex H H2 → H2 p = some (.lst xs) → NdAt H2 nd (.ref p)) : EvN te σ H nd := fun H1 e Q q => h H1 e _ fun p H2 _ e2 hp => q _ H2 e2 (hn p H2 (e.trans e2) hp)
/-- a value that check_program refuses -/
def Refused (ns : List Str) (H : Hp) (x : V) : Prop := ∃ nd, NdAt H nd x ∧ chk ns nd 1 0 0 = none
theorem Refused.mono {ns : List Str} {H' : Hp} (e : Ex H H') (r : Refused ns H x) : Refused ns H' x := let ⟨nd, h1, h2⟩ := r; ⟨nd, h1.mono e, h2⟩
def EvR (ns : List Str) (te : TE) (σ : L2.St) (H : Hp) : Prop := ∀ H1, Ex H H1 → ∀ Q : VK, (∀ x H2, Ex H1 H2 → Refused ns H2 x → Q x H2) → te σ H1 Q
def EvRs (ns : List Str) (ta : TA) (σ : L2.St) (H : Hp) (n : Nat) : Prop := ∀ H1, Ex H H1 → ∀ Q : List V → Hp → Prop, (∀ xs H2, Ex H1 H2 → xs.length = n → (∀ x ∈ xs, Refused ns H2 x) → Q xs H2) → ta σ H1 Q
theorem er_nil {ns : List Str} : EvRs ns tNil σ H 0 := fun H1 e Q q => q [] H1 (Ex.refl H1) rfl fun _ z => nomatch z
theorem er_cons {ns : List Str} {n : Nat} (h : EvR ns te σ H) (hr : EvRs ns ta σ H n) : EvRs ns (tCons te ta) σ H (n + 1) := fun H1 e Q q => h H1 e _ fun x H2 e2 hx => hr H2 (e.trans e2) _ fun xs H3 e3 hl hp => q (x :: xs) H3 (e2.trans e3) (congrArg Nat.succ hl) fun y hy => (List.mem_cons.mp hy).elim (fun z => z ▸ hx.mono e3) (hp y)
theorem r_of {ns : List Str} (h : EvN te σ H nd) (hc : chk ns nd 1 0 0 = none) : EvR ns te σ H := fun H1 e Q q => h H1 e _ fun x H2 e2 hx => q x H2 e2 ⟨nd, hx, hc⟩
theorem n_3 {ta tb : TE} {z : Str} {a b : Nd} (h1 : EvN ta σ H a) (h2 : EvN tb σ H b) (hn : ∀ p y w H3, H3 p = some (.tup [.str z, y, w]) → NdAt H3 a y → NdAt H3 b w → NdAt H3 nd (.ref p)) : EvN (tTup (tCons (tC (.str z)) (tCons ta (tCons tb tNil)))) σ H nd := fun H1 e Q q =>
  h1 H1 e _ fun y H2 e2 hy => h2 H2 (e.trans e2) _ fun w H3 e3 hw => ⟨by show 3 ≤ sizeLine; decide, fun p hp => q _ _ ((e2.trans e3).trans (Ex.new hp)) (hn p y w _ upd_same (hy.mono (e3.trans (Ex.new hp))) (hw.mono (Ex.new hp)))⟩
theorem n_2 {ta : TE} {z : Str} {a : Nd} (h1 : EvN ta σ H a) (hn : ∀ p y H3, H3 p = some (.tup [.str z, y]) → NdAt H3 a y → NdAt H3 nd (.ref p)) : EvN (tTup (tCons (tC (.str z)) (tCons ta tNil))) σ H nd := fun H1 e Q q =>
  h1 H1 e _ fun y H2 e2 hy => ⟨by show 2 ≤ sizeLine; decide, fun p hp => q _ _ (e2.trans (Ex.new hp)) (hn p y _ upd_same (hy.mono (Ex.new hp)))⟩
/-- (['step'], nm) -/
theorem n_head {s : Str} {j : Nat} {ta : TA} {vs : List V} (hv : EvA ta σ H vs) (hz : vs.length ≤ 100000) (h1 : σ[j]? = some (some (.str s))) : EvN (tTup (tCons (tLst ta) (tCons (tVar j) tNil))) σ H .bad := fun H1 e Q q =>
  tup_te (cons_te ((el_lst hv hz) H1 e _ fun L H2 _ e2 hL => ⟨_, h1, by show 2 ≤ sizeLine; decide, fun p hp => q _ _ (e2.trans (Ex.new hp)) (Shp.head upd_same (Kd.lst ((Ex.new hp) _ _ hL)) (by decide))⟩))
/-- ('step', [nm]) -/
theorem r_list {ns : List Str} {ta : TA} {vs : List V} (hv : EvA ta σ H vs) (hz : vs.length ≤ 100000) : EvR ns (tTup (tCons (tC (.str "step")) (tCons (tLst ta) tNil))) σ H := fun H1 e Q q =>
  tup_te (ev_te (v := .str "step") ev_c fun H0 e0 => cons_te ((el_lst hv hz) H0 (e.trans e0) _ fun L H2 _ e2 hL => ⟨by show 2 ≤ sizeLine; decide, fun p hp => q _ _ ((e0.trans e2).trans (Ex.new hp)) ⟨.st (.ref L), ⟨p, "list", rfl, upd_same, Kd.lst ((Ex.new hp) _ _ hL)⟩, rfl⟩⟩))
/-- a tuple of parts, made one by one -/
theorem n_t {ta : TA} (h : ∀ H1, Ex H H1 → ∀ Q : List V → Hp → Prop, (∀ xs H2, Ex H1 H2 → xs.length ≤ 100000 → (∀ p H3, Ex H2 H3 → H3 p = some (.tup xs) → NdAt H3 nd (.ref p)) → Q xs H2) → ta σ H1 Q) : EvN (tTup ta) σ H nd := fun H1 e Q q =>
  h H1 e _ fun xs H2 e2 hz hn => ⟨sz_of hz, fun p hp => q _ _ (e2.trans (Ex.new hp)) (hn p _ (Ex.new hp) upd_same)⟩
end
end TA
end
/-! TaL17 -/
section
set_option Elab.async false
set_option linter.all false
set_option autoImplicit false
set_option maxRecDepth 100000
set_option maxHeartbeats 4000000
namespace TA
open PySem PySem.Spec PyProof.Rows L2 Evl
theorem Kd.x {H H' : Hp} {h c : Addr} {x : V} {ty : String} (e : XO h H H') (hh : HandAt H h c) (hh2 : HandAt H' h c) (d : Kd H x ty) : Kd H' x ty := by
  cases d with
  | non => exact .non
  | bl b => exact .bl b
  | int i => exact .int i
  | str s => exact .str s
  | @lst a xs q =>
    by_cases z : a = h
    · subst z
      obtain ⟨_, _, _, _, q2, _⟩ := hh2
      exact .lst q2
    · exact .lst (e _ _ z q)
  | tup q => exact .tup (e.keep hh q fun _ _ _ _ z => nomatch z)
theorem Shp.x {H H' : Hp} {h c : Addr} {x : V} {b : Bool} (e : XO h H H') (hh : HandAt H h c) (hh2 : HandAt H' h c) (d : Shp H x b) : Shp H' x b := by
  cases d with
  | no h n => exact .no (h.x e hh hh2) n
  | nil h => exact .nil (e.keep hh h fun _ _ _ _ z => nomatch z)
  | head h k n => exact .head (e.keep hh h fun _ _ _ _ z => nomatch z) (k.x e hh hh2) n
  | word h k => exact .word (e.keep hh h fun _ _ _ _ z => nomatch z) k
theorem NdAt.x {H H' : Hp} {h c : Addr} (e : XO h H H') (hh : HandAt H h c) (hh2 : HandAt H' h c) : ∀ {nd : Nd} {x : V}, NdAt H nd x → NdAt H' nd x
  | .bad, _, d => Shp.x e hh hh2 d
  | .no, _, ⟨a, h0, h1⟩ => ⟨a, h0, e.keep hh h1 (fun _ _ _ _ z => (nomatch z))⟩
  | .st _, _, ⟨a, ty, h0, h1, h2⟩ => ⟨a, ty, h0, e.keep hh h1 (fun _ _ _ _ z => (nomatch z)), h2.x e hh hh2⟩
  | .be _ _, _, ⟨a, y, z, h0, h1, h2, h3⟩ => ⟨a, y, z, h0, e.keep hh h1 (fun _ _ _ _ z => (nomatch z)), NdAt.x e hh hh2 h2, NdAt.x e hh hh2 h3⟩
  | .ei _ _, _, ⟨a, y, z, h0, h1, h2, h3⟩ => ⟨a, y, z, h0, e.keep hh h1 (fun _ _ _ _ z => (nomatch z)), NdAt.x e hh hh2 h2, NdAt.x e hh hh2 h3⟩
  | .ag _, _, ⟨a, y, h0, h1, h2⟩ => ⟨a, y, h0, e.keep hh h1 (fun _ _ _ _ z => (nomatch z)), NdAt.x e hh hh2 h2⟩
theorem q_nd {σ : L2.St} {H : Hp} {D : Ends} {te : TE} {i : Nat} {nd : Nd} (h : EvN te σ H nd) (k : ∀ x H1, Ex H H1 → NdAt H1 nd x → D.nx (σ.set i (some x)) H1) : tAsg te (gName i) D σ H := h H (Ex.refl H) _ k
section
variable {P : Program} {w : World} {K : PySem.W.Frag} {mg : Str → Option Value} {base : Heap}
def spNoProg (_ : PySem.W.Frag) : Sp := fun vs H Q _ => ∃ (h c : Addr) (nm : Str) (ns : List Str), vs = [.ref h, .str nm] ∧ HandAt H h c ∧ ("nosuch" : Str) ∉ ns ∧ ∀ H2 x nd, XO h H H2 → HandAt H2 h c → NdAt H2 nd x → chk ns nd 1 0 0 = none → Q x H2
theorem ok__law_no_program (T : Txt w K mg) : Fok P w K mg base 3 (a__law_no_program K) P__law_no_program (spNoProg K) := by
  have F__law_take := ok__law_take (P := P) (base := base) T
  refine fok T.f__law_no_program sc__law_no_program (fun _ _ _ _ _ _ us hl => match us, hl with | [_, _], _ => rfl) (fun vs H Q E h => ?_) (fun cdv A outer s H vs Q E hr h => ?_)
  · obtain ⟨h, c, nm, ns, rfl, _⟩ := h
    rfl
  · obtain ⟨h, c, nm, ns, rfl, hh, hno, k⟩ := h
    refine ⟨_, (pss_cons (ps_set (i := 2) sc__law_no_program.nd rfl (Or.inl rfl) (pe_tup (pa_cons pe_str pa_nil)))
      (pss_cons (ps_for (passes_of rfl) rfl (pi_range1 rfl T.m_range (pa_cons pe_int pa_nil)) (pg_name (i := 3) sc__law_no_program.nd rfl (Or.inl rfl)) (pss_one (ps_set (i := 2) sc__law_no_program.nd rfl (Or.inl rfl) (pe_tup (pa_cons pe_str (pa_cons (pv 2) (pa_cons (pv 2) pa_nil)))))))
      (pss_cons (ps_set (i := 4) sc__law_no_program.nd rfl (Or.inl rfl) (pe_tup (pa_cons pe_str (pa_cons (pv 1) pa_nil))))
      (pss_cons (ps_for (passes_of rfl) rfl (pi_range1 rfl T.m_range (pa_cons pe_int pa_nil)) (pg_name (i := 3) sc__law_no_program.nd rfl (Or.inl rfl)) (pss_one (ps_set (i := 4) sc__law_no_program.nd rfl (Or.inl rfl) (pe_tup (pa_cons pe_str (pa_cons (pe_tup (pa_cons pe_str pa_nil)) (pa_cons (pv 4) pa_nil)))))))
      (pss_cons (ps_set (i := 5) sc__law_no_program.nd rfl (Or.inl rfl) (pe_tup (pa_cons pe_str (pa_cons (pv 1) pa_nil))))
      (pss_cons (ps_for (passes_of rfl) rfl (pi_range1 rfl T.m_range (pa_cons pe_int pa_nil)) (pg_name (i := 3) sc__law_no_program.nd rfl (Or.inl rfl)) (pss_one (ps_set (i := 5) sc__law_no_program.nd rfl (Or.inl rfl) (pe_tup (pa_cons pe_str (pa_cons (pv 5) pa_nil))))))
      (pss_one (ps_ret (pe_ix ix_A (pe_tup (pa_cons pe_non (pa_cons (pe_lst (pa_cons pe_str (pa_cons (pv 1) pa_nil))) (pa_cons (pe_tup (pa_cons pe_str (pa_cons pe_str pa_nil))) (pa_cons (pe_tup (pa_cons pe_str (pa_cons (pv 1) (pa_cons pe_int pa_nil)))) (pa_cons (pe_tup (pa_cons pe_str pa_nil)) (pa_cons (pe_tup pa_nil) (pa_cons pe_str (pa_cons (pe_tup (pa_cons pe_str (pa_cons pe_int pa_nil))) (pa_cons (pe_tup (pa_cons pe_str pa_nil)) (pa_cons (pe_tup (pa_cons pe_str (pa_cons (pe_tup (pa_cons pe_str pa_nil)) (pa_cons (pe_lst (pa_cons pe_str pa_nil)) pa_nil)))) (pa_cons (pe_tup (pa_cons (pe_lst (pa_cons pe_str pa_nil)) (pa_cons (pv 1) pa_nil))) (pa_cons (pe_tup (pa_cons pe_str (pa_cons (pe_lst (pa_cons (pv 1) pa_nil)) pa_nil))) (pa_cons (pv 2) (pa_cons (pv 4) (pa_cons (pv 5) (pa_cons (pe_tup (pa_cons pe_str (pa_cons (pe_tup (pa_cons pe_str (pa_cons (pv 1) pa_nil))) (pa_cons (pe_tup (pa_cons pe_str (pa_cons (pe_tup (pa_cons pe_str (pa_cons pe_str pa_nil))) pa_nil))) pa_nil)))) pa_nil))))))))))))))))) (pe_f F__law_take T.c__law_take (hr.mono (by omega)) (px rfl rfl rfl rfl) (pa_cons (pv 0) (pa_cons pe_int pa_nil))) (fun _ _ => rfl)))))))))), ?_⟩
    refine q_asgU (xs := [.str "nothing"]) (eu_tup (ea_cons ev_c ea_nil) (by show 1 ≤ 100000; decide)) fun p0 H1 _ e1 hp0 => ?_
    refine q_forR1 (n := 5) (ea_cons ev_c ea_nil) (by omega) (fun i σ' H' => Ex H H' ∧ ∃ x s3, NdAt H' (longN i) x ∧ σ' = [some (.ref h), some (.str nm), some x, s3, none, none]) (fun H2 e2 => ⟨e1.trans e2, .ref p0, none, ⟨p0, rfl, e2 _ _ hp0⟩, rfl⟩) (fun i σ' H' hi p => ?_) (fun σ' H' p => ?_)
    · obtain ⟨e2, x, s3, hx, rfl⟩ := p
      exact s_asgU (xs := [.str "either", x, x]) (eu_tup (ea_cons ev_c (ea_cons (ev_var rfl) (ea_cons (ev_var rfl) ea_nil))) (by show 3 ≤ 100000; decide)) fun p H3 _ e3 hp => ⟨e2.trans e3, .ref p, some (vn i), ⟨p, x, x, rfl, hp, hx.mono e3, hx.mono e3⟩, rfl⟩
    obtain ⟨e2, x2, s3, hx2, rfl⟩ := p
    refine q_asgU (xs := [.str "step", .str nm]) (eu_tup (ea_cons ev_c (ea_cons (ev_var rfl) ea_nil)) (by show 2 ≤ 100000; decide)) fun p4 H4 _ e4 hp4 => ?_
    refine q_forR1 (n := 12) (ea_cons ev_c ea_nil) (by omega) (fun i σ' H' => Ex H4 H' ∧ ∃ x s3, NdAt H' (deepN nm i) x ∧ σ' = [some (.ref h), some (.str nm), some x2, s3, some x, none]) (fun H5 e5 => ⟨e5, .ref p4, s3, ⟨p4, "str", rfl, e5 _ _ hp4, .str _⟩, rfl⟩) (fun i σ' H' hi p => ?_) (fun σ' H' p => ?_)
    · obtain ⟨e5, x, s3, hx, rfl⟩ := p
      refine q_nd (n_3 (a := .no) (b := deepN nm i) (nd := deepN nm (i + 1)) (n_u (xs := [.str "nothing"]) (eu_tup (ea_cons ev_c ea_nil) (by show 1 ≤ 100000; decide)) fun p H2 _ hp => ⟨p, rfl, hp⟩) (n_v (ev_var rfl) hx) fun p y w H3 hp hy hw => ⟨p, y, w, rfl, hp, hy, hw⟩) fun y H6 e6 hy => ⟨e5.trans e6, y, some (vn i), hy, rfl⟩
    obtain ⟨e5, x4, s3', hx4, rfl⟩ := p
    refine q_asgU (xs := [.str "step", .str nm]) (eu_tup (ea_cons ev_c (ea_cons (ev_var rfl) ea_nil)) (by show 2 ≤ 100000; decide)) fun p7 H7 _ e7 hp7 => ?_
    refine q_forR1 (n := 5) (ea_cons ev_c ea_nil) (by omega) (fun i σ' H' => Ex H7 H' ∧ ∃ x s3, NdAt H' (loopN nm i) x ∧ σ' = [some (.ref h), some (.str nm), some x2, s3, some x4, some x]) (fun H8 e8 => ⟨e8, .ref p7, s3', ⟨p7, "str", rfl, e8 _ _ hp7, .str _⟩, rfl⟩) (fun i σ' H' hi p => ?_) (fun σ' H' p => ?_)
    · obtain ⟨e8, x, s3, hx, rfl⟩ := p
      exact s_asgU (xs := [.str "again", x]) (eu_tup (ea_cons ev_c (ea_cons (ev_var rfl) ea_nil)) (by show 2 ≤ 100000; decide)) fun p H3 _ e3 hp => ⟨e8.trans e3, .ref p, some (vn i), ⟨p, x, rfl, hp, hx.mono e3⟩, rfl⟩
    obtain ⟨e8, x5, s3'', hx5, rfl⟩ := p
    have hN : inNames ns (.str "nosuch") = false := decide_eq_false hno
    have c3 : chk ns (.st (.str "nosuch")) 1 0 0 = none := by
      show (if inNames ns (.str "nosuch") = true then some 1 else none) = none
      rw [hN]
      rfl
    have c16 : chk ns (.ei (.st (.str nm)) (.ag (.st (.str "nosuch")))) 1 0 0 = none := by
      show ((if inNames ns (.str nm) = true then some 2 else none).bind fun m => chk ns (.ag (.st (.str "nosuch"))) 2 0 m) = none
      split
      · show (if inNames ns (.str "nosuch") = true then some 4 else none) = none
        rw [hN]
        rfl
      · rfl
    have hx2' := hx2.mono (((e4.trans e5).trans e7).trans e8)
    have hx4' := hx4.mono (e7.trans e8)
    have e18 := (((e2.trans e4).trans e5).trans e7).trans e8
    refine op_te (tup_te ?_)
    refine (er_cons (r_of (n_v (nd := .bad) ev_c (Shp.no .non (by decide))) rfl) (er_cons (r_of (n_l (nd := .bad) (xs := [.str "step", .str nm]) (el_lst (ea_cons ev_c (ea_cons (ev_var rfl) ea_nil)) (by show 2 ≤ 100000; decide)) fun p H2 _ hp => Shp.no (.lst hp) (by decide)) rfl) (er_cons (r_of (n_u (nd := .st (.str "nosuch")) (xs := [.str "step", .str "nosuch"]) (eu_tup (ea_cons ev_c (ea_cons ev_c ea_nil)) (by show 2 ≤ 100000; decide)) fun p H2 _ hp => ⟨p, "str", rfl, hp, .str _⟩) c3) (er_cons (r_of (n_u (nd := .bad) (xs := [.str "step", .str nm, .int 1]) (eu_tup (ea_cons ev_c (ea_cons (ev_var rfl) (ea_cons ev_c ea_nil))) (by show 3 ≤ 100000; decide)) fun p H2 _ hp => Shp.word (z := "step") (n := 2) hp rfl) rfl) (er_cons (r_of (n_u (nd := .bad) (xs := [.str "step"]) (eu_tup (ea_cons ev_c ea_nil) (by show 1 ≤ 100000; decide)) fun p H2 _ hp => Shp.word (z := "step") (n := 2) hp rfl) rfl) (er_cons (r_of (n_u (nd := .bad) (xs := []) (eu_tup ea_nil (by show 0 ≤ 100000; decide)) fun p H2 _ hp => Shp.nil hp) rfl) (er_cons (r_of (n_v (nd := .bad) (x := .str "nothing") ev_c (Shp.no (.str _) (by decide))) rfl) (er_cons (r_of (n_u (nd := .bad) (xs := [.str "nothing", .int 1]) (eu_tup (ea_cons ev_c (ea_cons ev_c ea_nil)) (by show 2 ≤ 100000; decide)) fun p H2 _ hp => Shp.word (z := "nothing") (n := 1) hp rfl) rfl) (er_cons (r_of (n_u (nd := .bad) (xs := [.str "again"]) (eu_tup (ea_cons ev_c ea_nil) (by show 1 ≤ 100000; decide)) fun p H2 _ hp => Shp.word (z := "again") (n := 2) hp rfl) rfl) (er_cons (r_of (n_3 (a := .no) (b := .bad) (nd := .be .no .bad) (n_u (nd := .no) (xs := [.str "nothing"]) (eu_tup (ea_cons ev_c ea_nil) (by show 1 ≤ 100000; decide)) fun p H2 _ hp => ⟨p, rfl, hp⟩) (n_l (nd := .bad) (xs := [.str "nothing"]) (el_lst (ea_cons ev_c ea_nil) (by show 1 ≤ 100000; decide)) fun p H2 _ hp => Shp.no (.lst hp) (by decide)) fun p y w H3 hp hy hw => ⟨p, y, w, rfl, hp, hy, hw⟩) rfl) (er_cons (r_of (n_head (s := nm) (j := 1) (vs := [.str "step"]) (ea_cons ev_c ea_nil) (by show 1 ≤ 100000; decide) rfl) rfl) (er_cons (r_list (vs := [.str nm]) (ea_cons (ev_var rfl) ea_nil) (by show 1 ≤ 100000; decide)) (er_cons (r_of (n_v (ev_var rfl) hx2') (chk_long ns)) (er_cons (r_of (n_v (ev_var rfl) hx4') (chk_deep ns nm)) (er_cons (r_of (n_v (ev_var rfl) hx5) (chk_loop ns nm)) (er_cons (r_of (n_3 (a := .st (.str nm)) (b := .ag (.st (.str "nosuch"))) (nd := .ei (.st (.str nm)) (.ag (.st (.str "nosuch")))) (n_u (nd := .st (.str nm)) (xs := [.str "step", .str nm]) (eu_tup (ea_cons ev_c (ea_cons (ev_var rfl) ea_nil)) (by show 2 ≤ 100000; decide)) fun p H2 _ hp => ⟨p, "str", rfl, hp, .str _⟩) (n_2 (a := .st (.str "nosuch")) (nd := .ag (.st (.str "nosuch"))) (n_u (nd := .st (.str "nosuch")) (xs := [.str "step", .str "nosuch"]) (eu_tup (ea_cons ev_c (ea_cons ev_c ea_nil)) (by show 2 ≤ 100000; decide)) fun p H2 _ hp => ⟨p, "str", rfl, hp, .str _⟩) fun p y H3 hp hy => ⟨p, y, rfl, hp, hy⟩) fun p y w H3 hp hy hw => ⟨p, y, w, rfl, hp, hy, hw⟩) c16) er_nil)))))))))))))))) _ (Ex.refl _) _ fun xs H9 e9 hxl hxr => ⟨by rw [hxl]; show 16 ≤ sizeLine; decide, fun t ht => ?_⟩
    have e10 := (e18.trans e9).trans (Ex.new (o := .tup xs) ht)
    have nt := hand_ne (hh.mono (e18.trans e9)) ht
    refine take_at (m := 16) rfl ev_c (by decide) (by decide) (hh.mono e10) fun H11 r x11 hh11 lt => ?_
    have ht11 := x11 _ _ nt.1 upd_same
    have lt2 : r < xs.length := by omega
    obtain ⟨nd, hn, hc⟩ := hxr _ (List.getElem_mem lt2)
    refine (rv_or2 (rv_ixT (i := (r : Int)) (v := xs[r]) (st_of ht11) (atI_nat (List.getElem?_eq_getElem lt2)))) H11 (Ex.refl H11) _ fun H12 e12 => ?_
    exact k H12 _ nd ((e10.o.trans x11).trans e12.o) (hh11.mono e12) (((hn.mono (Ex.new ht)).x x11 (hh.mono e10) hh11).mono e12) hc
end
end TA
end
/-! TaL18 -/
section
set_option Elab.async false
set_option linter.all false
set_option autoImplicit false
set_option maxRecDepth 100000
set_option maxHeartbeats 4000000
namespace TA
open PySem PySem.Spec PyProof.Rows L2 Evl
/-! ### the law's least lots -/
theorem blkK {X : Cx} {N : List Str} {sc scope : Scope} {own : List (Str × Nat)} (hN : X.N = N) (hs : X.env.scope = sc) (h : blkC N sc scope own = true) : BlkOk X.N X.env.scope scope own := by
  rw [hN, hs]
  exact blkOk_by h
def leastL (ls : List Nat) : List Nat := ls.filter fun x => (ls.filter fun y => !decide (y = x) && decide (y &&& x = y)).isEmpty
theorem given_filter (l : List Nat) (f : Nat → Bool) : given l.length (fun i => f (l.getD i 0)) (fun i => vn (l.getD i 0)) = (l.filter f).map vn := by
  unfold given
  have e : ((List.range l.length).map fun i => l.getD i 0) = l := by
    refine List.ext_getElem (by simp) fun i h1 h2 => ?_
    rw [List.getElem_map, List.getElem_range, List.getD_eq_getElem?_getD, List.getElem?_eq_getElem h2]
    rfl
  conv => rhs; rw [← e, List.filter_map, List.map_map]
  rfl
section
variable {P : Program} {w : World} {K : PySem.W.Frag} {mg : Str → Option Value} {base : Heap}
def spLeast (_ : PySem.W.Frag) : Sp := fun vs H Q _ => ∃ (a : Addr) (ls : List Nat), vs = [.ref a] ∧ LstN H a ls ∧ ls.length ≤ 1000 ∧ RetU ((leastL ls).map vn) H Q
theorem ok__law_least (T : Txt w K mg) : Fok P w K mg base 2 (a__law_least K) P__law_least (spLeast K) := by
  have F__law_within := ok__law_within (P := P) (base := base) T
  refine fok T.f__law_least sc__law_least (fun _ _ _ _ _ _ us hl => match us, hl with | [_], _ => rfl) (fun vs H Q E h => ?_) (fun cdv A outer s H vs Q E hr h => ?_)
  · obtain ⟨a, ls, rfl, _⟩ := h
    rfl
  · obtain ⟨a, ls, rfl, ha, hz, k⟩ := h
    have H64 := hr.units
    refine ⟨_, (pss_one (ps_ret (pe_callTy call_tuple_of rfl T.m_tuple bt_tuple (pa_cons (pe_lc (own := [("_law_lot", 1)]) (g := (gName 1)) rfl sc__law_least.nd (pi_A (pv 0)) (blkOk_by (N := N__law_least) (sc := defScope s__law_least) (by decide +kernel)) (fun _ _ _ _ _ => (pg_name (i := 1) sc__law_least.nd rfl (Or.inr rfl))) (fun _ _ _ _ _ => (pts_one (pt_cmpR (eqK (K := K) rfl H64) (pe_lc (own := [("_law_one", 2)]) (g := (gName 2)) rfl sc__law_least.nd (piK (K := K) rfl (pv 0)) (blkK (N := N__law_least) (sc := { kind := .function, names := [(".0", .local), ("_law_lot", .cell), ("_law_lots", .cell)], isGenerator := false, isCoroutine := false }) rfl rfl (by decide +kernel)) (fun _ _ _ _ _ => (pg_name (i := 2) sc__law_least.nd rfl (Or.inl rfl))) (fun _ _ _ _ _ => (pts_one (PW.pt (pw_and (pt_cmpR (neK (K := K) rfl H64) (pv 2) (pv 1) (nomark _)) (pw_and1 (pt_val (pe_f F__law_within T.c__law_within (hr.mono (by omega)) passL (pa_cons (pv 2) (pa_cons (pv 1) pa_nil))))))))) (fun _ _ _ _ _ => (pv 2))) (pe_lst pa_nil) (nomark _)))) (fun _ _ _ _ _ => (pv 1))) pa_nil)))), ?_⟩
    have inner : ∀ (x : Nat) (H1 : Hp), LstN H1 a ls → EvL (tLc (iA K (tVar 0)) (gName 2) (tAnd (tTest (tOp (rNeA K) (tVar 2) (tVar 1))) (tB (tCall (spWithin K) [] E0 (tCons (tVar 2) (tCons (tVar 1) tNil))))) (tVar 2) [2]) [some (.ref a), some (vn x), none] H1 ((ls.filter fun y => !decide (y = x) && decide (y &&& x = y)).map vn) := fun x H1 h1 => by
      have z := el_lcA (K := K) (tl := tVar 0) (t := tAnd (tTest (tOp (rNeA K) (tVar 2) (tVar 1))) (tB (tCall (spWithin K) [] E0 (tCons (tVar 2) (tCons (tVar 1) tNil))))) (te := tVar 2) (σ := [some (.ref a), some (vn x), none]) (H := H1) (a := a) (xs := ls.map vn) (j := 2) (vs := [2]) (fun i => (fun y => !decide (y = x) && decide (y &&& x = y)) (ls.getD i 0)) (fun i => vn (ls.getD i 0)) (ev_var rfl) (.inl h1) (by rw [List.length_map]; omega) (fun x => rfl) (fun i y H2 e hy => by
        obtain ⟨lt, rfl⟩ := map_at hy
        exact et_and (et_test (ev_neN (ev_var rfl) (ev_var rfl))) fun _ => et_B (ev_f (ea_cons (ev_var rfl) (ea_cons (ev_var rfl) ea_nil)) sv_within)) (fun i y H2 e hy _ => by
        obtain ⟨lt, rfl⟩ := map_at hy
        exact ev_var rfl)
      rw [List.length_map, given_filter ls fun y => !decide (y = x) && decide (y &&& x = y)] at z
      exact z
    have outer : EvL (tLc (iA K (tVar 0)) (gName 1) (tTest (tOp (rEqA K) (tLc (iA K (tVar 0)) (gName 2) (tAnd (tTest (tOp (rNeA K) (tVar 2) (tVar 1))) (tB (tCall (spWithin K) [] E0 (tCons (tVar 2) (tCons (tVar 1) tNil))))) (tVar 2) [2]) (tLst tNil))) (tVar 1) [1]) [some (.ref a), none, none] H ((leastL ls).map vn) := by
      have z := el_lcA (K := K) (tl := tVar 0) (t := tTest (tOp (rEqA K) (tLc (iA K (tVar 0)) (gName 2) (tAnd (tTest (tOp (rNeA K) (tVar 2) (tVar 1))) (tB (tCall (spWithin K) [] E0 (tCons (tVar 2) (tCons (tVar 1) tNil))))) (tVar 2) [2]) (tLst tNil))) (te := tVar 1) (σ := [some (.ref a), none, none]) (H := H) (a := a) (xs := ls.map vn) (j := 1) (vs := [1]) (fun i => (fun x => (ls.filter fun y => !decide (y = x) && decide (y &&& x = y)).isEmpty) (ls.getD i 0)) (fun i => vn (ls.getD i 0)) (ev_var rfl) (.inl ha) (by rw [List.length_map]; omega) (fun x => rfl) (fun i y H2 e hy => by
        obtain ⟨lt, rfl⟩ := map_at hy
        refine et_test (ev_is (ev_opLL (inner (ls.getD i 0) H2 (ha.mono e)) (el_lst (vs := []) ea_nil (by decide)) fun p q H3 hp hq _ => rv_eqI (xs := (ls.filter fun y => !decide (y = ls.getD i 0) && decide (y &&& ls.getD i 0 = y)).map fun n : Nat => (n : Int)) (ys := []) (by rw [← vn_ints]; exact hp) hq) ?_)
        congr 1
        dsimp only
        cases (ls.filter fun y => !decide (y = ls.getD i 0) && decide (y &&& ls.getD i 0 = y)) <;> rfl) (fun i y H2 e hy _ => by
        obtain ⟨lt, rfl⟩ := map_at hy
        exact ev_var rfl)
      rw [List.length_map, given_filter ls fun x => (ls.filter fun y => !decide (y = x) && decide (y &&& x = y)).isEmpty] at z
      exact z
    exact s_retU (eu_tupE outer) fun t H1 _ e1 ht => k t H1 e1 ht
end
end TA
end
/-! TaL19 -/
section
set_option Elab.async false
set_option linter.all false
set_option autoImplicit false
set_option maxRecDepth 100000
set_option maxHeartbeats 4000000
namespace TA
open PySem PySem.Spec PyProof.Rows L2 Evl
section
variable {P : Program} {w : World} {K : PySem.W.Frag} {mg : Str → Option Value} {base : Heap}
/-- one of the six calls -/
def Asked (K : PySem.W.Frag) (n : Nat) (G S : Addr) (x y z : V) (H1 : Hp) (Q : VK) (E : XK) : Prop :=
  (n = 0 → spFind K [.ref G, .ref S, x, y] H1 Q E) ∧ (n = 1 → spTrueLines K [.ref S, x, y] H1 Q E) ∧ (n = 2 → spHas K [.ref G, .ref S, x, y, z] H1 Q E) ∧ (n = 3 → spEnds K [.ref G, .ref S, x, y] H1 Q E) ∧ (n = 4 → spStarts K [.ref G, .ref S, x, y] H1 Q E) ∧ (5 ≤ n → spSharpStarts K [.ref G, .ref S, x] H1 Q E)
def spAsk (K : PySem.W.Frag) : Sp := fun vs H Q E => ∃ (n : Nat) (t G S : Addr) (x y z : V), vs = [vn n, .ref t, x, y, z] ∧ H t = some (.tup [.ref G, .ref S]) ∧ ∀ H1, Ex H H1 → Asked K n G S x y z H1 Q E
theorem ok__law_ask (T : Txt w K mg) (F_runs_sharp : Fok P w K mg base 40 (a_runs_sharp K) P_runs_sharp (spRunsSharp K)) : Fok P w K mg base 42 (a__law_ask K) P__law_ask (spAsk K) := by
  have F_find_lines := ok_find_lines T F_runs_sharp
  have F_true_lines := ok_true_lines (P := P) (base := base) T
  have F_has_line := ok_has_line T F_runs_sharp
  have F_least_ends := ok_least_ends T F_runs_sharp
  have F_least_starts := ok_least_starts T F_runs_sharp
  have F_starts_with_line := ok_starts_with_line T F_runs_sharp
  refine fok T.f__law_ask sc__law_ask (fun _ _ _ _ _ _ us hl => match us, hl with | [_, _, _, _, _], _ => rfl) (fun vs H Q E h => ?_) (fun cdv A outer s H vs Q E hr h => ?_)
  · obtain ⟨n, t, G, S, x, y, z, rfl, _⟩ := h
    rfl
  · obtain ⟨n, t, G, S, x, y, z, rfl, ht, k⟩ := h
    have H64 := hr.units
    refine ⟨_, (pss_cons (ps_if (pt_cmpR (op_eqA H64) (pv 0) pe_int (nomark _)) (pss_one (ps_ret (pe_f F_find_lines T.c_find_lines (hr.mono (by omega)) (px rfl rfl rfl rfl) (pa_cons (pe_ix ix_A (pv 1) pe_int (fun _ _ => rfl)) (pa_cons (pe_ix ix_A (pv 1) pe_int (fun _ _ => rfl)) (pa_cons (pv 2) (pa_cons (pv 3) pa_nil))))))) pss_nil)
      (pss_cons (ps_if (pt_cmpR (op_eqA H64) (pv 0) pe_int (nomark _)) (pss_one (ps_ret (pe_f F_true_lines T.c_true_lines (hr.mono (by omega)) (px rfl rfl rfl rfl) (pa_cons (pe_ix ix_A (pv 1) pe_int (fun _ _ => rfl)) (pa_cons (pv 2) (pa_cons (pv 3) pa_nil)))))) pss_nil)
      (pss_cons (ps_if (pt_cmpR (op_eqA H64) (pv 0) pe_int (nomark _)) (pss_one (ps_ret (pe_f F_has_line T.c_has_line (hr.mono (by omega)) (px rfl rfl rfl rfl) (pa_cons (pe_ix ix_A (pv 1) pe_int (fun _ _ => rfl)) (pa_cons (pe_ix ix_A (pv 1) pe_int (fun _ _ => rfl)) (pa_cons (pv 2) (pa_cons (pv 3) (pa_cons (pv 4) pa_nil)))))))) pss_nil)
      (pss_cons (ps_if (pt_cmpR (op_eqA H64) (pv 0) pe_int (nomark _)) (pss_one (ps_ret (pe_f F_least_ends T.c_least_ends (hr.mono (by omega)) (px rfl rfl rfl rfl) (pa_cons (pe_ix ix_A (pv 1) pe_int (fun _ _ => rfl)) (pa_cons (pe_ix ix_A (pv 1) pe_int (fun _ _ => rfl)) (pa_cons (pv 2) (pa_cons (pv 3) pa_nil))))))) pss_nil)
      (pss_cons (ps_if (pt_cmpR (op_eqA H64) (pv 0) pe_int (nomark _)) (pss_one (ps_ret (pe_f F_least_starts T.c_least_starts (hr.mono (by omega)) (px rfl rfl rfl rfl) (pa_cons (pe_ix ix_A (pv 1) pe_int (fun _ _ => rfl)) (pa_cons (pe_ix ix_A (pv 1) pe_int (fun _ _ => rfl)) (pa_cons (pv 2) (pa_cons (pv 3) pa_nil))))))) pss_nil)
      (pss_one (ps_ret (pe_f F_starts_with_line T.c_starts_with_line (hr.mono (by omega)) (px rfl rfl rfl rfl) (pa_cons (pe_ix ix_A (pv 1) pe_int (fun _ _ => rfl)) (pa_cons (pe_ix ix_A (pv 1) pe_int (fun _ _ => rfl)) (pa_cons (pv 2) pa_nil))))))))))), ?_⟩
    have ix0 : ∀ {H1 : Hp}, Ex H H1 → Ev (tOp (rIxA K) (tVar 1) (tC (.int 0))) [some (vn n), some (.ref t), some x, some y, some z] H1 (.ref G) := by
      intro H1 e
      exact ev_ixT (ev_var rfl) ev_c (e _ _ ht) rfl
    have ix1 : ∀ {H1 : Hp}, Ex H H1 → Ev (tOp (rIxA K) (tVar 1) (tC (.int 1))) [some (vn n), some (.ref t), some x, some y, some z] H1 (.ref S) := by
      intro H1 e
      exact ev_ixT (ev_var rfl) ev_c (e _ _ ht) rfl
    refine q_when (et_test (ev_eqN (a := n) (b := 0) (ev_var rfl) ev_c)) (fun hb H1 e1 => ?_) (fun hb H1 e1 => ?_)
    · exact callA (ea_cons (ix0 e1) (ea_cons (ix1 e1) (ea_cons (ev_var rfl) (ea_cons (ev_var rfl) ea_nil)))) fun H2 e2 => (k H2 (e1.trans e2)).1 (of_decide_eq_true hb)
    have n0 := of_decide_eq_false hb
    refine q_when (et_test (ev_eqN (a := n) (b := 1) (ev_var rfl) ev_c)) (fun hb H2 e2 => ?_) (fun hb H2 e2 => ?_)
    · exact callA (ea_cons (ix1 (e1.trans e2)) (ea_cons (ev_var rfl) (ea_cons (ev_var rfl) ea_nil))) fun H3 e3 => (k H3 ((e1.trans e2).trans e3)).2.1 (of_decide_eq_true hb)
    have n1 := of_decide_eq_false hb
    have e12 := e1.trans e2
    refine q_when (et_test (ev_eqN (a := n) (b := 2) (ev_var rfl) ev_c)) (fun hb H3 e3 => ?_) (fun hb H3 e3 => ?_)
    · exact callA (ea_cons (ix0 (e12.trans e3)) (ea_cons (ix1 (e12.trans e3)) (ea_cons (ev_var rfl) (ea_cons (ev_var rfl) (ea_cons (ev_var rfl) ea_nil))))) fun H4 e4 => (k H4 ((e12.trans e3).trans e4)).2.2.1 (of_decide_eq_true hb)
    have n2 := of_decide_eq_false hb
    have e13 := e12.trans e3
    refine q_when (et_test (ev_eqN (a := n) (b := 3) (ev_var rfl) ev_c)) (fun hb H4 e4 => ?_) (fun hb H4 e4 => ?_)
    · exact callA (ea_cons (ix0 (e13.trans e4)) (ea_cons (ix1 (e13.trans e4)) (ea_cons (ev_var rfl) (ea_cons (ev_var rfl) ea_nil)))) fun H5 e5 => (k H5 ((e13.trans e4).trans e5)).2.2.2.1 (of_decide_eq_true hb)
    have n3 := of_decide_eq_false hb
    have e14 := e13.trans e4
    refine q_when (et_test (ev_eqN (a := n) (b := 4) (ev_var rfl) ev_c)) (fun hb H5 e5 => ?_) (fun hb H5 e5 => ?_)
    · exact callA (ea_cons (ix0 (e14.trans e5)) (ea_cons (ix1 (e14.trans e5)) (ea_cons (ev_var rfl) (ea_cons (ev_var rfl) ea_nil)))) fun H6 e6 => (k H6 ((e14.trans e5).trans e6)).2.2.2.2.1 (of_decide_eq_true hb)
    have n4 := of_decide_eq_false hb
    have e15 := e14.trans e5
    exact callA (ea_cons (ix0 e15) (ea_cons (ix1 e15) (ea_cons (ev_var rfl) ea_nil))) fun H6 e6 => (k H6 (e15.trans e6)).2.2.2.2.2 (by omega)
end
end TA
end
/-! TaL20 -/
section
set_option Elab.async false
set_option linter.all false
set_option autoImplicit false
set_option maxRecDepth 100000
set_option maxHeartbeats 4000000
namespace TA
open PySem PySem.Spec PyProof.Rows L2 Evl
section
variable {P : Program} {w : World} {K : PySem.W.Frag} {mg : Str → Option Value} {base : Heap}
/-- isinstance of what was caught, its class known when it is read -/
theorem call_isG {X : Cx} {K : PySem.W.Frag} {a : Addr} {cls : Value} {d : Option Addr} {oe : Obj} {pn : List (Addr × Obj)} (hK : X.K = K) (hz : Zc cls d oe) (hf : ∃ vs, oe.data = .fields vs) :
    CallR (X.suite a ((a, oe) :: pn)) (.builtin "isinstance") (fun xs H Q => ∃ D : Addr, cls = .ref D ∧ ExcC K D ∧ (∀ dx, d = some dx → ∃ fs, H dx = some (.xd fs)) ∧ rIsE K D a xs H Q) := by
  subst hK
  intro pins s σ H xs us Q I r h
  obtain ⟨D, rfl, C, h1, h2⟩ := h
  exact call_isEd C hz hf pins s σ H xs us Q I r ⟨h1, h2⟩
theorem bmK {X : Cx} {K : PySem.W.Frag} {o e : Expr} {es : List Expr} {to : TE} {t : TA} {name : Str} {apos cpos : Pos} {T id : String} {r : V → List V → Hp → VK → Prop} (hK : X.K = K) (pa : PlainAttrs T) (slot : Slot T name id) (hty : typeOf (.builtin id) = pure (.type "method_descriptor")) (hm : MtR X id r) (ho : PE X o to) (ha : PA X (e :: es) t)
    (hbase : attributeBase o name X.env (eval o X.env) = eval o X.env := by rfl)
    (hfew : ((PySem.backTo cpos (starEach (e :: es) X.env)).all (fun x => !x.1) && (backToKw cpos (keywordEach [] X.env)).all (fun x => x.1.isSome)
      && decide ((e :: es).length + ([] : List Keyword).length + (if ([] : List Keyword).isEmpty then 0 else 1) < 30)) = true := by rfl)
    (hline : (apos.endLine == cpos.line) = true := by rfl) (hs : starEach (e :: es) X.env = (false, eval e X.env) :: starEach es X.env := by rfl) (hplain : (PySem.backTo cpos (starEach es X.env)).any (·.1) = false := by rfl) :
    PE X (.Call (.Attribute o name apos) (e :: es) [] cpos) (tBM K T r to t) := by
  subst hK
  exact pe_bm pa slot hty hm ho ha hbase hfew hline hs hplain
theorem callAS {σ : L2.St} {H : Hp} {sp : Sp} {E : L2.St → XK} {tr : TA} {vs : List V} {Q : VK} (h : EvA tr σ H vs) (k : ∀ H1, Ex H H1 → sp vs H1 Q (E σ)) : tCallS sp E tr σ H Q := h H (Ex.refl H) _ k
theorem ev_isE {σ : L2.St} {H : Hp} {i : Nat} {a D C : Addr} {d : Option Addr} {b : Bool} (h6 : σ[i]? = some (some (.ref a))) (C1 : L2.ExcC K D) (hk : PySem.W.kitOne K (.ref D) (.ref C) = some b) (hd : ∀ dx, d = some dx → ∃ fs, H dx = some (.xd fs)) :
    Ev (tCB (fun xs H Q => ∃ D' : Addr, Value.ref D = .ref D' ∧ L2.ExcC K D' ∧ (∀ dx, d = some dx → ∃ fs, H dx = some (.xd fs)) ∧ rIsE K D' a xs H Q) (tCons (tVar i) (tCons (tC (.ref C)) tNil))) σ H (.bl b) := fun H1 e Q q =>
  ⟨_, h6, D, rfl, C1, fun dx hx => let ⟨fs, h⟩ := hd dx hx; ⟨fs, e _ _ h⟩, .ref C, .ref C, b, rfl, fun u r => r, hk, q H1 (Ex.refl H1)⟩
theorem told_if {σ : L2.St} {H : Hp} {De : Ends} {tz : TS} {a D C L : Addr} {d : Option Addr} {ws : List Str} {wd : Str} {b : Bool} (h6 : σ[6]? = some (some (.ref a))) (h7 : σ[7]? = some (some (.ref L))) (hL : H L = some (.lst (ws.map V.str))) (hz : ws.length ≤ 3) (C1 : L2.ExcC K D) (hk : PySem.W.kitOne K (.ref D) (.ref C) = some b)
    (hd : ∀ dx, d = some dx → ∃ fs, H dx = some (.xd fs)) (k : ∀ H2, XO L H H2 → H2 L = some (.lst ((if b = true then ws ++ [wd] else ws).map V.str)) → (∀ dx, d = some dx → ∃ fs, H2 dx = some (.xd fs)) → tz De σ H2) :
    tSeq (tIfS (tB (tCB (fun xs H Q => ∃ D' : Addr, Value.ref D = .ref D' ∧ L2.ExcC K D' ∧ (∀ dx, d = some dx → ∃ fs, H dx = some (.xd fs)) ∧ rIsE K D' a xs H Q) (tCons (tVar 6) (tCons (tC (.ref C)) tNil)))) (tDrop (tBM K "list" rAppend (tVar 7) (tCons (tC (.str wd)) tNil))) tNext) tz De σ H := by
  refine q_when (et_B (ev_isE h6 C1 hk hd)) (fun hb H1 e1 => ?_) (fun hb H1 e1 => ?_)
  · subst hb
    have hL1 := e1 _ _ hL
    refine ⟨_, h7, .inl ⟨rfl, _, .inl (.inl hL1)⟩, L, _, _, rfl, rfl, hL1, sz_lt (by rw [List.length_map]; omega), ?_⟩
    refine k _ (e1.o.trans XO.upd) ?_ fun dx hx => ?_
    · rw [upd_same, if_pos rfl, List.map_append]
      rfl
    · obtain ⟨fs, h⟩ := hd dx hx
      exact ⟨fs, by rw [upd_ne (fun z => by subst z; rw [hL] at h; cases h)]; exact e1 _ _ h⟩
  · subst hb
    exact k H1 e1.o (by rw [if_neg Bool.false_ne_true]; exact e1 _ _ hL) fun dx hx => let ⟨fs, h⟩ := hd dx hx; ⟨fs, e1 _ _ h⟩
/-- [words, answer] is given -/
def RetW (ws : List Str) (v : V) (H : Hp) (Q : VK) : Prop := ∀ R L H2, Ex H H2 → H2 R = some (.lst [.ref L, v]) → H2 L = some (.lst (ws.map V.str)) → Q (.ref R) H2
/-- what an error is told as -/
def ToldE (K : PySem.W.Frag) (Q : VK) (c : Value) (d : Option Addr) (H : Hp) : Prop := (c = .ref (He.ga K "UnlikeStands") ∧ d = none ∧ RetW ["unlike"] .non H Q) ∨ (c = .ref (He.ga K "BadProgram") ∧ (∃ a fs, d = some a ∧ H a = some (.xd fs)) ∧ RetW ["program"] .non H Q) ∨ (c = .ref (He.ga K "BadLot") ∧ d = none ∧ RetW ["lot"] .non H Q)
def spTold (K : PySem.W.Frag) : Sp := fun vs H Q _ => ∃ (n : Nat) (t G S : Addr) (x y z : V), vs = [vn n, .ref t, x, y, z] ∧ H t = some (.tup [.ref G, .ref S]) ∧ ∀ H1 Q' E', Ex H H1 → (∀ v H2, RetW [] v H2 Q → Q' v H2) → (∀ c d H2, ToldE K Q c d H2 → E' c d H2) → Asked K n G S x y z H1 Q' E'
theorem ok__law_told (T : Txt w K mg) (F_runs_sharp : Fok P w K mg base 40 (a_runs_sharp K) P_runs_sharp (spRunsSharp K)) : Fok P w K mg base 43 (a__law_told K) P__law_told (spTold K) := by
  have F__law_ask := ok__law_ask T F_runs_sharp
  refine fok T.f__law_told sc__law_told (fun _ _ _ _ _ _ us hl => match us, hl with | [_, _, _, _, _], _ => rfl) (fun vs H Q E h => ?_) (fun cdv A outer s H vs Q E hr h => ?_)
  · obtain ⟨n, t, G, S, x, y, z, rfl, _⟩ := h
    rfl
  obtain ⟨n, t, G, S, x, y, z, rfl, ht, k⟩ := h
  refine ⟨_, (pss_cons (ps_try_as (i := 6) rfl rfl sc__law_told.nd rfl rfl ⟨rfl, by decide, Or.inl T.g_CheckerError⟩ (takes_of rfl rfl rfl rfl)
      (fun W pn xe tk _ => pss_one (ps_set (i := 5) sc__law_told.nd rfl (Or.inl rfl) (pe_fS F__law_ask T.c__law_ask (hr.mono (by omega)) (fun σ => passAt tk σ) (pa_cons (pv 0) (pa_cons (pv 1) (pa_cons (pv 2) (pa_cons (pv 3) (pa_cons (pv 4) pa_nil))))))))
      (fun a oe cls d pn hz hf => pss_cons (ps_set (i := 7) sc__law_told.nd rfl (Or.inl rfl) (pe_lst pa_nil))
        (pss_cons (ps_if (pt_val (pe_callB (call_isG (K := K) rfl hz hf) rfl T.m_isinstance bt_isinstance (pa_cons (pv 6) (pa_cons (pe_cr T.g_UnlikeStands) pa_nil)))) (pss_one (ps_expr (bmK (K := K) rfl PySem.F.plainAttrs_list PySem.F.slot_list_append PySem.F.type_list_append mt_append (pv 7) (pa_cons pe_str pa_nil)))) pss_nil)
        (pss_cons (ps_if (pt_val (pe_callB (call_isG (K := K) rfl hz hf) rfl T.m_isinstance bt_isinstance (pa_cons (pv 6) (pa_cons (pe_cr T.g_BadProgram) pa_nil)))) (pss_one (ps_expr (bmK (K := K) rfl PySem.F.plainAttrs_list PySem.F.slot_list_append PySem.F.type_list_append mt_append (pv 7) (pa_cons pe_str pa_nil)))) pss_nil)
        (pss_cons (ps_if (pt_val (pe_callB (call_isG (K := K) rfl hz hf) rfl T.m_isinstance bt_isinstance (pa_cons (pv 6) (pa_cons (pe_cr T.g_BadLot) pa_nil)))) (pss_one (ps_expr (bmK (K := K) rfl PySem.F.plainAttrs_list PySem.F.slot_list_append PySem.F.type_list_append mt_append (pv 7) (pa_cons pe_str pa_nil)))) pss_nil)
        (pss_one (ps_ret (pe_lst (pa_cons (pe_ifExp (trK (K := K) rfl (pv 7) (fun _ => rfl)) (pv 7) (pe_lst (pa_cons pe_str pa_nil))) (pa_cons pe_non pa_nil))))))))))
    (pss_one (ps_ret (pe_lst (pa_cons (pe_lst pa_nil) (pa_cons (pv 5) pa_nil)))))), ?_⟩
  have key : ∀ c d H2, ToldE K Q c d H2 → ∃ (D wd : Str), c = .ref (He.ga K D) ∧ L2.ExcC K (He.ga K D) ∧ PySem.W.exmOne K (.ref (He.ga K D)) (.ref (He.ga K "CheckerError")) = some true ∧ kitB3 K D = true ∧ (∀ dx, d = some dx → ∃ fs, H2 dx = some (.xd fs)) ∧ RetW [wd] .non H2 Q ∧
      ((D = "UnlikeStands" ∧ wd = "unlike") ∨ (D = "BadProgram" ∧ wd = "program") ∨ (D = "BadLot" ∧ wd = "lot")) := by
    intro c d H2 h
    rcases h with ⟨rfl, rfl, h⟩ | ⟨rfl, ⟨dx, fs, rfl, hx⟩, h⟩ | ⟨rfl, rfl, h⟩
    · exact ⟨"UnlikeStands", "unlike", rfl, T.exC_UnlikeStands, T.x_UnlikeStands, T.kt_UnlikeStands, (fun _ z => nomatch z), h, .inl ⟨rfl, rfl⟩⟩
    · exact ⟨"BadProgram", "program", rfl, T.exC_BadProgram, T.x_BadProgram, T.kt_BadProgram, (fun y z => by cases z; exact ⟨fs, hx⟩), h, .inr (.inl ⟨rfl, rfl⟩)⟩
    · exact ⟨"BadLot", "lot", rfl, T.exC_BadLot, T.x_BadLot, T.kt_BadLot, (fun _ z => nomatch z), h, .inr (.inr ⟨rfl, rfl⟩)⟩
  refine callAS (ea_cons (ev_var rfl) (ea_cons (ev_var rfl) (ea_cons (ev_var rfl) (ea_cons (ev_var rfl) (ea_cons (ev_var rfl) ea_nil))))) fun H1 e1 => ?_
  refine ⟨n, t, G, S, x, y, z, rfl, e1 _ _ ht, fun H2 e2 => k H2 _ _ (e1.trans e2) (fun v H3 hv => ?_) (fun c d H3 hE => ?_)⟩
  · refine ⟨Nat.zero_le _, fun L hL => ⟨_, rfl, by show 2 ≤ sizeLine; decide, fun R hR => ?_⟩⟩
    exact hv R L _ ((Ex.new hL).trans (Ex.new hR)) upd_same ((Ex.new hR) _ _ upd_same)
  · obtain ⟨D, wd, rfl, C1, hx, hk, hd, hr, hw⟩ := key c d H3 hE
    refine ⟨true, hx, fun _ a ha => ?_, fun q => nomatch q⟩
    refine ⟨Nat.zero_le _, fun L hL => ?_⟩
    have e4 : Ex H3 (upd H3 L (.lst [])) := Ex.new hL
    have ev : ∀ {H4 : Hp}, XO L H3 H4 → Ex H3 H4 := fun x b o q => x b o (ne_of_none q hL) q
    refine told_if (ws := []) rfl rfl upd_same (by decide) C1 (kit3 hk (x := "UnlikeStands") (by decide)) (fun dx hx => let ⟨fs, h⟩ := hd dx hx; ⟨fs, e4 _ _ h⟩) fun H4 x4 hL4 hd4 => ?_
    refine told_if rfl rfl hL4 (by split <;> simp) C1 (kit3 hk (x := "BadProgram") (by decide)) hd4 fun H5 x5 hL5 hd5 => ?_
    refine told_if rfl rfl hL5 (by split <;> split <;> simp) C1 (kit3 hk (x := "BadLot") (by decide)) hd5 fun H6 x6 hL6 hd6 => ?_
    have e6 : Ex H3 H6 := ev (((e4.o.trans x4).trans x5).trans x6)
    have hL7 : H6 L = some (.lst ([wd].map V.str)) := by
      rw [hL6]
      rcases hw with ⟨rfl, rfl⟩ | ⟨rfl, rfl⟩ | ⟨rfl, rfl⟩ <;> rfl
    refine ⟨_, rfl, true, .inl ⟨_, sq_of hL7, rfl⟩, ?_⟩
    refine (if_pos rfl).mpr ⟨_, rfl, by show 2 ≤ sizeLine; decide, fun R hR => ?_⟩
    exact hr R L _ (e6.trans (Ex.new hR)) upd_same ((Ex.new hR) _ _ hL7)
end
end TA
end
/-! TaL21 -/
section
set_option Elab.async false
set_option linter.all false
set_option autoImplicit false
set_option maxRecDepth 100000
set_option maxHeartbeats 4000000
namespace TA
open PySem PySem.Spec PyProof.Rows L2 Evl
/-! ### the least lots, both ways -/
def mnB (P : Nat → Bool) (x : Nat) : Bool := P x && (List.range x).all fun y => !(P y && decide (y &&& x = y))
theorem sub_le {a b : Nat} (h : a &&& b = a) : a ≤ b := by
  rw [← h]
  exact Nat.and_le_right
theorem sub_trans {a b c : Nat} (h1 : a &&& b = a) (h2 : b &&& c = b) : a &&& c = a := by
  have e : (a &&& b) &&& c = a &&& (b &&& c) := Nat.and_assoc ..
  rw [h1, h2] at e
  rw [e, h1]
theorem mnB_iff {P : Nat → Bool} {x : Nat} : mnB P x = true ↔ P x = true ∧ ∀ y, y < x → P y = true → y &&& x ≠ y := by
  unfold mnB
  rw [Bool.and_eq_true, List.all_eq_true]
  refine and_congr Iff.rfl ⟨fun h y hy hp e => ?_, fun h y hy => ?_⟩
  · have q := h y (List.mem_range.mpr hy)
    rw [hp, decide_eq_true e] at q
    cases q
  · have lt := List.mem_range.mp hy
    cases hp : P y with
    | false => rfl
    | true => rw [decide_eq_false (h y lt hp)]; rfl
/-- below every one lies a least one -/
theorem mnB_below {P : Nat → Bool} : ∀ (n y : Nat), y < n → P y = true → ∃ o, mnB P o = true ∧ o &&& y = o
  | 0, y, h, _ => absurd h (Nat.not_lt_zero y)
  | n + 1, y, h, hp => by
    by_cases q : mnB P y = true
    · exact ⟨y, q, Nat.and_self y⟩
    · have q2 : ¬ ∀ z, z < y → P z = true → z &&& y ≠ z := fun z => q (mnB_iff.mpr ⟨hp, z⟩)
      have q3 : ∃ z, z < y ∧ P z = true ∧ z &&& y = z := Classical.byContradiction fun c => q2 fun z h1 h2 h3 => c ⟨z, h1, h2, h3⟩
      obtain ⟨z, h1, h2, h3⟩ := q3
      obtain ⟨o, o1, o2⟩ := mnB_below n z (by omega) h2
      exact ⟨o, o1, sub_trans o2 h3⟩
theorem lsTo_eq (ok sh : Nat → Bool) : ∀ n, lsTo ok sh n = (List.range n).filter (mnB fun x => ok x && sh x)
  | 0 => rfl
  | n + 1 => by
    have ih := lsTo_eq ok sh n
    have c : (ok n = true ∧ ((!(lsTo ok sh n).any fun o => decide (o &&& n = o)) && sh n) = true) ↔ mnB (fun x => ok x && sh x) n = true := by
      rw [mnB_iff, Bool.and_eq_true, Bool.and_eq_true, Bool.not_eq_true', ih, List.any_eq_false]
      refine ⟨fun ⟨h1, h2, h3⟩ => ⟨⟨h1, h3⟩, fun y hy hp e => ?_⟩, fun ⟨⟨h1, h3⟩, h2⟩ => ⟨h1, fun o ho e => ?_, h3⟩⟩
      · obtain ⟨o, o1, o2⟩ := mnB_below (P := fun x => ok x && sh x) n y hy hp
        have le := sub_le o2
        exact h2 o (List.mem_filter.mpr ⟨List.mem_range.mpr (by omega), o1⟩) (decide_eq_true (sub_trans o2 e))
      · obtain ⟨m1, m2⟩ := List.mem_filter.mp ho
        exact h2 o (List.mem_range.mp m1) (mnB_iff.mp m2).1 (of_decide_eq_true e)
    rw [List.range_succ, List.filter_append, ← ih]
    show (if ok n = true ∧ ((!(lsTo ok sh n).any fun o => decide (o &&& n = o)) && sh n) = true then lsTo ok sh n ++ [n] else lsTo ok sh n) = _
    by_cases z : mnB (fun x => ok x && sh x) n = true
    · rw [if_pos (c.mpr z), List.filter_cons, if_pos z]
      rfl
    · rw [if_neg (fun y => z (c.mp y)), List.filter_cons, if_neg z]
      show _ = _ ++ []
      rw [List.append_nil]
theorem leastL_eq (P : Nat → Bool) (n : Nat) : leastL ((List.range n).filter P) = (List.range n).filter (mnB P) := by
  unfold leastL
  rw [List.filter_filter]
  refine List.filter_congr fun x hx => ?_
  have lt := List.mem_range.mp hx
  rw [Bool.eq_iff_iff, Bool.and_eq_true, mnB_iff, List.isEmpty_iff, List.filter_eq_nil_iff]
  refine ⟨fun ⟨h1, h2⟩ => ⟨h2, fun y hy hp e => ?_⟩, fun ⟨h1, h2⟩ => ⟨fun y hy q => ?_, h1⟩⟩
  · refine h1 y (List.mem_filter.mpr ⟨List.mem_range.mpr (by omega), hp⟩) ?_
    rw [decide_eq_false (by omega), decide_eq_true e]
    rfl
  · obtain ⟨m1, m2⟩ := List.mem_filter.mp hy
    rw [Bool.and_eq_true, Bool.not_eq_true'] at q
    have ne := of_decide_eq_false q.1
    have e := of_decide_eq_true q.2
    have le := sub_le e
    exact h2 y (by omega) m2 e
theorem filter_upto {f : Nat → Bool} {m : Nat} (h : ∀ x, m ≤ x → f x = false) : ∀ k, (List.range (m + k)).filter f = (List.range m).filter f
  | 0 => rfl
  | k + 1 => by
    rw [← Nat.add_assoc, List.range_succ, List.filter_append, filter_upto h k, List.filter_cons, if_neg (by rw [h (m + k) (by omega)]; decide)]
    show _ ++ [] = _
    rw [List.append_nil]
theorem endB_le {ms : List Nat} {r e : Nat} (h : endB ms r e = true) : e ≤ r := sub_le (of_decide_eq_true (Bool.and_eq_true_iff.mp h).1)
/-- the law's least starts are the program's -/
theorem least_starts_eq {ms : List Nat} {sh : Nat → Bool} {lot n : Nat} (h : lot < n) : leastL (((List.range n).filter sh).filter (endB ms lot)) = lsTo (endB ms lot) sh (lot + 1) := by
  rw [List.filter_filter, leastL_eq, lsTo_eq]
  obtain ⟨k, rfl⟩ : ∃ k, n = lot + 1 + k := ⟨n - (lot + 1), by omega⟩
  refine filter_upto (fun x hx => ?_) k
  refine Bool.eq_false_iff.mpr fun q => ?_
  have := endB_le (Bool.and_eq_true_iff.mp (mnB_iff.mp q).1).1
  omega
theorem least_ends_eq {ms : List Nat} {r : Nat} : leastL ((List.range (r + 1)).filter (endB ms r)) = lsTo (endB ms r) (fun _ => true) (r + 1) := by
  rw [leastL_eq, lsTo_eq]
  congr 2
  funext x
  rw [Bool.and_true]
theorem flat_vn (ns : List Nat) : (ns.map vn).all flatV = true := by
  rw [List.all_map]
  exact List.all_eq_true.mpr fun _ _ => rfl
theorem inV_vn (ns : List Nat) (n : Nat) : inV (vn n) (ns.map vn) = decide (n ∈ ns) := by
  unfold inV
  rw [List.any_map]
  by_cases h : n ∈ ns
  · rw [decide_eq_true h]
    exact List.any_eq_true.mpr ⟨n, h, by show ((n : Int) == (n : Int)) = true; simp⟩
  · rw [decide_eq_false h]
    refine List.any_eq_false.mpr fun y hy z => h ?_
    have e : ((y : Int) == (n : Int)) = true := z
    have e2 := eq_of_beq e
    have e3 : y = n := by omega
    rw [← e3]
    exact hy
section
variable {P : Program} {w : World} {K : PySem.W.Frag} {mg : Str → Option Value} {base : Heap}
/-- a new or an old tuple -/
def EvTu (te : TE) (σ : L2.St) (H : Hp) (xs : List V) : Prop := ∀ H1, Ex H H1 → ∀ Q : VK, (∀ p H2, Ex H1 H2 → H2 p = some (.tup xs) → Q (.ref p) H2) → te σ H1 Q
theorem er_u {te : TE} {σ : L2.St} {H : Hp} {xs : List V} (h : EvU te σ H xs) : EvTu te σ H xs := fun H1 e Q q => h H1 e Q fun p H2 _ e2 hp => q p H2 e2 hp
theorem er_least {ta : TE} {σ : L2.St} {H : Hp} {E : XK} {a : Addr} {ls : List Nat} (h : Ev ta σ H (.ref a)) (ha : LstN H a ls) (hz : ls.length ≤ 1000) : EvTu (tCall (spLeast K) [] E (tCons ta tNil)) σ H ((leastL ls).map vn) := fun H1 e Q q =>
  h H1 e _ fun H2 e2 => ⟨a, ls, rfl, ha.mono (e.trans e2), hz, fun t H3 e3 ht => q t H3 (e2.trans e3) ht⟩
theorem er_leastL {ta : TE} {σ : L2.St} {H : Hp} {E : XK} {ls : List Nat} (h : EvL ta σ H (ls.map vn)) (hz : ls.length ≤ 1000) : EvTu (tCall (spLeast K) [] E (tCons ta tNil)) σ H ((leastL ls).map vn) := fun H1 e Q q =>
  h H1 e _ fun a H2 _ e2 ha => ⟨a, ls, rfl, ha, hz, fun t H3 e3 ht => q t H3 (e2.trans e3) ht⟩
theorem ev_exactT {ta tb : TE} {σ : L2.St} {H : Hp} {E : XK} {t : Addr} {ns : List Nat} (h : Ev ta σ H (.ref t)) (ht : TupN H t ns) (hb : EvTu tb σ H (ns.map vn)) (hz : ns.length ≤ 100) : Ev (tCall (spExact K 2) [] E (tCons ta (tCons tb tNil))) σ H (.bl true) := fun H1 e Q q =>
  h H1 e _ fun H2 e2 => hb H2 (e.trans e2) _ fun p H3 e3 hp => ⟨by decide, .inr (.inr ⟨by decide, t, p, ns, rfl, ht.n ((e.trans e2).trans e3).n, hp, hz⟩), fun H4 e4 => q H4 ((e2.trans e3).trans e4)⟩
theorem et_notFree {σ : L2.St} {H : Hp} {i j v lot : Nat} {F : Addr} {sh : Nat → Bool} (h1 : σ[i]? = some (some (vn lot))) (h2 : σ[j]? = some (some (.ref F))) (hF : LstN H F ((List.range (2 ^ v)).filter sh)) (hl : lot < 2 ^ v) : EvT (tTest (tOp (rIn K true) (tVar i) (tVar j))) σ H (!sh lot) :=
  et_is (et_test (ev_op (ev_var h1) (ev_var h2) (rv_niL (sq_of hF) rfl (flat_vn _)))) (by
    rw [inV_vn]
    congr 1
    rw [Bool.eq_iff_iff, decide_eq_true_eq, List.mem_filter, List.mem_range]
    exact ⟨fun z => z.2, fun z => ⟨hl, z⟩⟩)
theorem sv_trueL {H : Hp} {d p : Addr} {v : Nat} {es : List (Str × List Nat)} {pg : Pg} {lot : Nat} (hd : RwAt H d es) (hp : PrAt H pg p) (h8 : pg.ht ≤ 8) (hw : pg.wt ≤ 1000) (hF : Fit v (nms es) (rws es) pg) (hl : lot < 2 ^ v) :
    SpV (spTrueL K) [.ref d, .ref p, vn lot] H (vn (runN (rowOf (nms es) (rws es)) pg lot).1) := fun H1 e Q q E => ⟨d, p, v, es, pg, lot, rfl, hd.mono e, hp.n e.n, h8, hw, hF, hl, q⟩
/-- a tuple of lines, the last of which is the whole -/
def LinesAt (H : Hp) (x : V) (lot : Nat) (p : Addr) (e : Nat) : Prop := ∃ t ini y, x = .ref t ∧ H t = some (.tup (ini ++ [y])) ∧ ini.length ≤ 1000 ∧ LineAt H y lot p e
/-- the program's own answer of a good call -/
structure AnsOk (H : Hp) (n v : Nat) (ms : List Nat) (row : Str → List Nat) (pg : Pg) (p : Addr) (lot : Nat) (z x : V) : Prop where
  a0 : n = 0 → (runSharp ms row pg lot = false → x = .non) ∧ (runSharp ms row pg lot = true → LinesAt H x lot p (runN row pg lot).1)
  a1 : n = 1 → LinesAt H x lot p (runN row pg lot).1
  a2 : n = 2 → ∃ e, z = vn e ∧ x = .bl (runSharp ms row pg lot && endB ms (runN row pg lot).1 e)
  a3 : n = 3 → ∃ t, x = .ref t ∧ TupN H t (if runSharp ms row pg lot = true then lsTo (endB ms (runN row pg lot).1) (fun _ => true) ((runN row pg lot).1 + 1) else [])
  a4 : n = 4 → ∃ t, x = .ref t ∧ TupN H t (lsTo (endB ms lot) (runSharp ms row pg) (lot + 1))
  a5 : 5 ≤ n → ∃ t, x = .ref t ∧ TupN H t ((List.range (2 ^ v)).filter (runSharp ms row pg))
def spGood (_ : PySem.W.Frag) : Sp := fun vs H Q _ => ∃ (n : Nat) (W p F : Addr) (v : Nat) (ms : List Nat) (es : List (Str × List Nat)) (pg : Pg) (lot : Nat) (z x : V), vs = [vn n, .ref W, .ref p, vn lot, z, .ref F, x] ∧ WoAt H W v ms es ∧ WoOk v ms es ∧ PrAt H pg p ∧ pg.ht ≤ 8 ∧ pg.wt ≤ 1000 ∧ Fit v (nms es) (rws es) pg ∧ lot < 2 ^ v ∧
  LstN H F ((List.range (2 ^ v)).filter (runSharp ms (rowOf (nms es) (rws es)) pg)) ∧ AnsOk H n v ms (rowOf (nms es) (rws es)) pg p lot z x ∧ RetV (.bl true) H Q
theorem ok__law_answer_good (T : Txt w K mg) : Fok P w K mg base 20 (a__law_answer_good K) P__law_answer_good (spGood K) := by
  have F__law_true := ok__law_true (P := P) (base := base) T
  have F__law_within := ok__law_within (P := P) (base := base) T
  have F__law_rounded := ok__law_rounded (P := P) (base := base) T
  have F__law_least := ok__law_least (P := P) (base := base) T
  have F__law_exact := ok__law_exact (P := P) (base := base) T 2
  refine fok T.f__law_answer_good sc__law_answer_good (fun _ _ _ _ _ _ us hl => match us, hl with | [_, _, _, _, _, _, _], _ => rfl) (fun vs H Q E h => ?_) (fun cdv A outer s H vs Q E hr h => ?_)
  · obtain ⟨n, W, p, F, v, ms, es, pg, lot, z, x, rfl, _⟩ := h
    rfl
  · obtain ⟨n, W, p, F, v, ms, es, pg, lot, z, x, rfl, hW, ok, hp, h8, hw, hF, hl, hFr, ha, k⟩ := h
    have H64 := hr.units
    refine ⟨_, (pss_cons (ps_set (i := 7) sc__law_answer_good.nd rfl (Or.inr rfl) (pe_ix ix_A (pv 1) pe_int (fun _ _ => rfl)))
      (pss_cons (ps_set (i := 8) sc__law_answer_good.nd rfl (Or.inr rfl) (pe_f F__law_true T.c__law_true (hr.mono (by omega)) (px rfl rfl rfl rfl) (pa_cons (pe_ix ix_A (pv 1) pe_int (fun _ _ => rfl)) (pa_cons (pv 2) (pa_cons (pv 3) pa_nil)))))
      (pss_cons (ps_if (pt_cmpR op_lt (pv 0) pe_int (nomark _)) (pss_cons (ps_if (PW.pt (pw_and (pt_cmpR (op_eqA H64) (pv 0) pe_int (nomark _)) (pw_and1 (pt_cmpR op_notIn_seq (pv 3) (pv 5) (by rfl))))) (pss_one (ps_ret (pe_cmpR op_isN1 (pv 6) pe_non (nomark _)))) pss_nil)
      (pss_cons (ps_if (PW.pt (pw_or (pt_not (pt_val (pe_callB call_isi rfl T.m_isinstance bt_isinstance (pa_cons (pv 6) (pa_cons (pe_ct T.m_tuple bt_tuple) pa_nil))))) (pw_or1 (pt_cmpR (op_eqA H64) (pe_callB call_len_seq rfl T.m_len bt_len (pa_cons (pv 6) pa_nil)) pe_int (nomark _))))) (pss_one (ps_ret pe_bl)) pss_nil)
      (pss_one (ps_ret (pe_and (pe_cmpR (op_eqA H64) (pe_ix ix_A (pe_ix ix_A (pv 6) (pe_un un_neg pe_int) (fun _ _ => rfl)) pe_int (fun _ _ => rfl)) (pv 3) (nomark _)) (pe_and (pe_cmpR (op_eqA H64) (pe_ix ix_A (pe_ix ix_A (pv 6) (pe_un un_neg pe_int) (fun _ _ => rfl)) pe_int (fun _ _ => rfl)) (pv 2) (nomark _)) (pe_one (pe_cmpR (op_eqA H64) (pe_ix ix_A (pe_ix ix_A (pv 6) (pe_un un_neg pe_int) (fun _ _ => rfl)) pe_int (fun _ _ => rfl)) (pv 8) (nomark _))))))))) pss_nil)
      (pss_cons (ps_setLc (i := 9) (own := [("_law_one", 10)]) (g := (gName 10)) rfl sc__law_answer_good.nd rfl rfl (sw_true rfl rfl rfl (by decide +kernel)) (pi_range1 rfl T.m_range (pa_cons (pe_op op_addA (pv 8) pe_int) pa_nil)) (blkOk_by (N := N__law_answer_good) (sc := defScope s__law_answer_good) (by decide +kernel)) (fun _ _ _ _ _ => (pg_name (i := 10) sc__law_answer_good.nd rfl (Or.inl rfl))) (fun _ _ _ _ _ => (pts_one (PW.pt (pw_and (pt_val (pe_f F__law_within T.c__law_within (hr.mono (by omega)) passL (pa_cons (pv 10) (pa_cons (pv 8) pa_nil)))) (pw_and1 (pt_val (pe_f F__law_within T.c__law_within (hr.mono (by omega)) passL (pa_cons (pv 8) (pa_cons (pe_f F__law_rounded T.c__law_rounded (hr.mono (by omega)) passL (pa_cons (pv 7) (pa_cons (pv 10) pa_nil))) pa_nil))))))))) (fun _ _ _ _ _ => (pv 10)))
      (pss_cut (ps_if (pt_cmpR op_notIn_seq (pv 3) (pv 5) (by rfl)) (pss_one (ps_set (i := 9) sc__law_answer_good.nd rfl (Or.inl rfl) (pe_lst pa_nil))) pss_nil)
      (pss_cons (ps_if (pt_cmpR (op_eqA H64) (pv 0) pe_int (nomark _)) (pss_one (ps_ret (pe_f F__law_exact T.c__law_exact (hr.mono (by omega)) (px rfl rfl rfl rfl) (pa_cons (pv 6) (pa_cons (pe_cmpR op_in_seq (pv 4) (pv 9) (by rfl)) pa_nil))))) pss_nil)
      (pss_cons (ps_if (pt_cmpR (op_eqA H64) (pv 0) pe_int (nomark _)) (pss_one (ps_ret (pe_f F__law_exact T.c__law_exact (hr.mono (by omega)) (px rfl rfl rfl rfl) (pa_cons (pv 6) (pa_cons (pe_f F__law_least T.c__law_least (hr.mono (by omega)) (px rfl rfl rfl rfl) (pa_cons (pv 9) pa_nil)) pa_nil))))) pss_nil)
      (pss_cons (ps_if (pt_cmpR (op_eqA H64) (pv 0) pe_int (nomark _)) (pss_one (ps_ret (pe_f F__law_exact T.c__law_exact (hr.mono (by omega)) (px rfl rfl rfl rfl) (pa_cons (pv 6) (pa_cons (pe_f F__law_least T.c__law_least (hr.mono (by omega)) (px rfl rfl rfl rfl) (pa_cons (pe_lc (own := [("_law_one", 10)]) (g := (gName 10)) rfl sc__law_answer_good.nd (pi_A (pv 5)) (blkOk_by (N := N__law_answer_good) (sc := defScope s__law_answer_good) (by decide +kernel)) (fun _ _ _ _ _ => (pg_name (i := 10) sc__law_answer_good.nd rfl (Or.inl rfl))) (fun _ _ _ _ _ => (pts_one (PW.pt (pw_and (pt_val (pe_f F__law_within T.c__law_within (hr.mono (by omega)) passL (pa_cons (pv 10) (pa_cons (pv 3) pa_nil)))) (pw_and1 (pt_val (pe_f F__law_within T.c__law_within (hr.mono (by omega)) passL (pa_cons (pv 3) (pa_cons (pe_f F__law_rounded T.c__law_rounded (hr.mono (by omega)) passL (pa_cons (pv 7) (pa_cons (pv 10) pa_nil))) pa_nil))))))))) (fun _ _ _ _ _ => (pv 10))) pa_nil)) pa_nil))))) pss_nil)
      (pss_one (ps_ret (pe_f F__law_exact T.c__law_exact (hr.mono (by omega)) (px rfl rfl rfl rfl) (pa_cons (pv 6) (pa_cons (pe_callTy call_tuple_of rfl T.m_tuple bt_tuple (pa_cons (pv 5) pa_nil)) pa_nil))))))))))))), ?_⟩
    have v6 : (2 : Nat) ^ v ≤ 64 := Nat.pow_le_pow_right (by decide) ok.vok.2
    obtain ⟨m, d, a, w1, w2, w3, w4⟩ := id hW
    have mne := ok.full.ne
    refine q_asg (ev_ixL (ev_var rfl) (ev_c (v := .int 1)) w1 rfl) fun H1 e1 => ?_
    refine q_asg (ev_f (ea_cons (ev_ixL (ev_var rfl) (ev_c (v := .int 2)) (e1 _ _ w1) rfl) (ea_cons (ev_var rfl) (ea_cons (ev_var rfl) ea_nil))) (sv_trueL (w3.mono e1) (hp.n e1.n) h8 hw hF hl)) fun H2 e2 => ?_
    have hlt := runN_lt hF.lt pg lot hl
    obtain ⟨a0, a1, a2, a3, a4, a5⟩ := ha
    generalize (runN (rowOf (nms es) (rws es)) pg lot).1 = rc at a0 a1 a2 a3 hlt ⊢
    generalize runSharp ms (rowOf (nms es) (rws es)) pg = sh at a0 a2 a3 a4 a5 hFr
    have e12 := e1.trans e2
    refine q_when (b := decide ((n : Int) < 2)) (et_test (ev_lt (i := (n : Int)) (j := 2) (ev_var rfl) ev_c)) (fun hb H3 e3 => ?_) (fun hb H3 e3 => ?_)
    · have hn : n < 2 := by have := of_decide_eq_true hb; omega
      have e03 := e12.trans e3
      refine q_when (b := decide (n = 0) && !sh lot) (et_and (et_test (ev_eqN (a := n) (b := 0) (ev_var rfl) ev_c)) (fun _ => et_notFree rfl rfl (hFr.mono e03) hl)) (fun hb H4 e4 => ?_) (fun hb H4 e4 => ?_)
      · obtain ⟨b0, b1⟩ := Bool.and_eq_true_iff.mp hb
        have hx := (a0 (of_decide_eq_true b0)).1 (by rw [Bool.not_eq_true'] at b1; exact b1)
        subst hx
        exact s_ret (ev_is (ev_isN (ev_var rfl)) (congrArg V.bl (decide_eq_true rfl))) fun H5 e5 => k H5 ((e03.trans e4).trans e5)
      · have hL : LinesAt H x lot p rc := by
          by_cases z : n = 0
          · refine (a0 z).2 ?_
            rw [decide_eq_true z, Bool.true_and] at hb
            simpa using hb
          · exact a1 (by omega)
        obtain ⟨t, ini, y, rfl, ht, hz, t2, kk, ss, rfl, ht2⟩ := hL
        have e04 := e03.trans e4
        refine q_when (b := false) (et_is (et_or (a := false) (b := false) (et_not (a := true) (et_B (ev_isi (ty := "tuple") (ev_var rfl) (.tup (e04 _ _ ht)) (by simp)))) (fun _ => et_is (et_test (ev_eqN (b := 0) (ev_lenT (ev_var rfl) (e04 _ _ ht)) ev_c)) (by simp))) rfl) (fun z => nomatch z) fun _ H5 e5 => ?_
        have e05 := e04.trans e5
        have lst : ∀ {H6 : Hp}, Ex H5 H6 → Ev (tOp (rIxA K) (tVar 6) (tUn (rU fun i => .int (-i)) (tC (.int 1)))) [some (vn n), some (.ref W), some (.ref p), some (vn lot), some z, some (.ref F), some (.ref t), some (.ref m), some (vn rc), none, none] H6 (.ref t2) := fun e6 =>
          ev_ixT (ev_var rfl) (ev_neg (ev_c (v := .int 1))) ((e05.trans e6) _ _ ht) (atI_last ini (.ref t2))
        refine s_ret (v := .bl true) (ev_andV (a := true) (b := true) (ev_is (ev_eqN (a := lot) (b := lot) (ev_ixT (lst (Ex.refl H5)) ev_c (e05 _ _ ht2) rfl) (ev_var rfl)) (congrArg V.bl (decide_eq_true rfl))) (fun _ => ev_andV (a := true) (b := true)
          (ev_op (ev_ixT (v := .ref p) (lst (Ex.refl H5)) (ev_c (v := .int 1)) (e05 _ _ ht2) rfl) (ev_var rfl) (rv_eqP (hp.n e05.n) (fun s hs => ?_) (by omega))) (fun _ => ev_is (ev_eqN (a := rc) (b := rc) (ev_ixT (lst (Ex.refl H5)) (ev_c (v := .int 2)) (e05 _ _ ht2) rfl) (ev_var rfl)) (congrArg V.bl (decide_eq_true rfl))))) fun H6 e6 => k H6 (e05.trans e6)
        obtain ⟨q, hq, rfl⟩ := List.mem_map.mp (hF.use s hs)
        exact (ok.nm q hq).1.lay
    · have hn : 2 ≤ n := by have := of_decide_eq_false hb; omega
      have e03 := e12.trans e3
      have cmp : EvL (tLc (iRng1 (tCons (tOp (rAddA K) (tVar 8) (tC (.int 1))) tNil)) (gName 10) (tAnd (tB (tCall (spWithin K) [] E0 (tCons (tVar 10) (tCons (tVar 8) tNil)))) (tB (tCall (spWithin K) [] E0 (tCons (tVar 8) (tCons (tCall (spLRound K) [] E0 (tCons (tVar 7) (tCons (tVar 10) tNil))) tNil))))) (tVar 10) [10])
          [some (vn n), some (.ref W), some (.ref p), some (vn lot), some z, some (.ref F), some x, some (.ref m), some (vn rc), none, none] H3 (((List.range (rc + 1)).filter (endB ms rc)).map vn) := by
        have q := el_lcR1 (ta := tCons (tOp (rAddA K) (tVar 8) (tC (.int 1))) tNil) (t := tAnd (tB (tCall (spWithin K) [] E0 (tCons (tVar 10) (tCons (tVar 8) tNil)))) (tB (tCall (spWithin K) [] E0 (tCons (tVar 8) (tCons (tCall (spLRound K) [] E0 (tCons (tVar 7) (tCons (tVar 10) tNil))) tNil))))) (te := tVar 10)
          (σ := [some (vn n), some (.ref W), some (.ref p), some (vn lot), some z, some (.ref F), some x, some (.ref m), some (vn rc), none, none]) (H := H3) (j := 10) (vs := [10]) (n := ((rc + 1 : Nat) : Int)) (endB ms rc) vn (ea_cons (ev_add (i := (rc : Int)) (j := 1) (ev_var rfl) ev_c) ea_nil) (by omega) (fun x => rfl)
          (fun i H4 e4 hi => et_and (et_B (ev_f (ea_cons (ev_var rfl) (ea_cons (ev_var rfl) ea_nil)) sv_within)) (fun _ => et_B (ev_f (ea_cons (ev_var rfl) (ea_cons (ev_f (ea_cons (ev_var rfl) (ea_cons (ev_var rfl) ea_nil)) (sv_lround (w2.mono (e03.trans e4)) mne)) ea_nil)) sv_within))) (fun i H4 e4 hi _ => ev_var rfl)
        rw [Int.toNat_natCast] at q
        exact q
      refine q_asgL cmp fun D9 H4 _ e4 hD9 => ?_
      have e04 := e03.trans e4
      refine q_cut (M := fun σ' H' => Ex H H' ∧ ∃ D9, LstN H' D9 (if sh lot = true then (List.range (rc + 1)).filter (endB ms rc) else []) ∧ σ' = [some (vn n), some (.ref W), some (.ref p), some (vn lot), some z, some (.ref F), some x, some (.ref m), some (vn rc), some (.ref D9), none]) ?_ fun σ' H' M => ?_
      · refine s_when (et_notFree rfl rfl (hFr.mono e04) hl) (fun hb H5 e5 => ?_) (fun hb H5 e5 => ?_)
        · refine s_asgL (xs := []) (el_lst ea_nil (by decide)) fun D H6 _ e6 hD => ⟨(e04.trans e5).trans e6, D, ?_, rfl⟩
          rw [if_neg (fun y => by rw [y] at hb; cases hb)]
          exact hD
        · refine ⟨e04.trans e5, D9, ?_, rfl⟩
          rw [if_pos (by simpa using hb)]
          exact LstN.mono e5 hD9
      · obtain ⟨e05, D9, hD9, rfl⟩ := M
        refine q_when (et_test (ev_eqN (a := n) (b := 2) (ev_var rfl) ev_c)) (fun hb H6 e6 => ?_) (fun hb H6 e6 => ?_)
        · obtain ⟨e, rfl, rfl⟩ := a2 (of_decide_eq_true hb)
          refine s_ret (v := .bl true) (ev_f (vs := [.bl (sh lot && endB ms rc e), .bl (sh lot && endB ms rc e)]) (ea_cons (ev_var rfl) (ea_cons (ev_is (ev_op (ev_var rfl) (ev_var rfl) (rv_isL (sq_of (e6 _ _ hD9)) rfl (flat_vn _))) ?_) ea_nil)) (fun H7 e7 Q q E => ⟨by decide, .inl ⟨_, rfl⟩, q⟩)) fun H7 e7 => k H7 ((e05.trans e6).trans e7)
          rw [inV_vn]
          congr 1
          rw [Bool.eq_iff_iff, decide_eq_true_eq, Bool.and_eq_true]
          cases sh lot with
          | true =>
            rw [if_pos rfl, List.mem_filter, List.mem_range]
            exact ⟨fun y => ⟨rfl, y.2⟩, fun y => ⟨Nat.lt_succ_of_le (endB_le y.2), y.2⟩⟩
          | false =>
            rw [if_neg (by decide)]
            exact ⟨fun y => (nomatch y), fun y => (nomatch y.1)⟩
        have n2 := of_decide_eq_false hb
        have e06 := e05.trans e6
        refine q_when (et_test (ev_eqN (a := n) (b := 3) (ev_var rfl) ev_c)) (fun hb H7 e7 => ?_) (fun hb H7 e7 => ?_)
        · obtain ⟨t, rfl, ht⟩ := a3 (of_decide_eq_true hb)
          have e07 := e06.trans e7
          have eq : leastL (if sh lot = true then (List.range (rc + 1)).filter (endB ms rc) else []) = if sh lot = true then lsTo (endB ms rc) (fun _ => true) (rc + 1) else [] := by
            split
            · exact least_ends_eq
            · rfl
          have z1 : (if sh lot = true then (List.range (rc + 1)).filter (endB ms rc) else []).length ≤ 1000 := by
            split
            · have h1 := List.length_filter_le (endB ms rc) (List.range (rc + 1))
              rw [List.length_range] at h1
              omega
            · exact Nat.zero_le _
          have z2 : (if sh lot = true then lsTo (endB ms rc) (fun _ => true) (rc + 1) else []).length ≤ 100 := by
            split
            · have h1 := lsTo_le (endB ms rc) (fun _ => true) (rc + 1)
              omega
            · exact Nat.zero_le _
          exact s_ret (ev_exactT (ev_var rfl) (ht.n e07.n) (by rw [← eq]; exact er_least (ev_var rfl) (LstN.mono (e6.trans e7) hD9) z1) z2) fun H8 e8 => k H8 (e07.trans e8)
        have n3 := of_decide_eq_false hb
        have e07 := e06.trans e7
        have frz : ((List.range (2 ^ v)).filter sh).length ≤ 64 := by
          have h1 := List.length_filter_le sh (List.range (2 ^ v))
          rw [List.length_range] at h1
          omega
        refine q_when (et_test (ev_eqN (a := n) (b := 4) (ev_var rfl) ev_c)) (fun hb H8 e8 => ?_) (fun hb H8 e8 => ?_)
        · obtain ⟨t, rfl, ht⟩ := a4 (of_decide_eq_true hb)
          have e08 := e07.trans e8
          have cmp : EvL (tLc (iA K (tVar 5)) (gName 10) (tAnd (tB (tCall (spWithin K) [] E0 (tCons (tVar 10) (tCons (tVar 3) tNil)))) (tB (tCall (spWithin K) [] E0 (tCons (tVar 3) (tCons (tCall (spLRound K) [] E0 (tCons (tVar 7) (tCons (tVar 10) tNil))) tNil))))) (tVar 10) [10])
              [some (vn n), some (.ref W), some (.ref p), some (vn lot), some z, some (.ref F), some (.ref t), some (.ref m), some (vn rc), some (.ref D9), none] H8 ((((List.range (2 ^ v)).filter sh).filter (endB ms lot)).map vn) := by
            generalize (List.range (2 ^ v)).filter sh = fr at hFr frz ⊢
            have q := el_lcA (K := K) (tl := tVar 5) (t := tAnd (tB (tCall (spWithin K) [] E0 (tCons (tVar 10) (tCons (tVar 3) tNil)))) (tB (tCall (spWithin K) [] E0 (tCons (tVar 3) (tCons (tCall (spLRound K) [] E0 (tCons (tVar 7) (tCons (tVar 10) tNil))) tNil))))) (te := tVar 10)
              (σ := [some (vn n), some (.ref W), some (.ref p), some (vn lot), some z, some (.ref F), some (.ref t), some (.ref m), some (vn rc), some (.ref D9), none]) (H := H8) (a := F) (xs := fr.map vn) (j := 10) (vs := [10]) (fun i => endB ms lot (fr.getD i 0)) (fun i => vn (fr.getD i 0)) (ev_var rfl) (.inl (e08 _ _ hFr)) (by rw [List.length_map]; omega) (fun x => rfl)
              (fun i y H9 e9 hy => by
                obtain ⟨lt, rfl⟩ := map_at hy
                exact et_and (et_B (ev_f (ea_cons (ev_var rfl) (ea_cons (ev_var rfl) ea_nil)) sv_within)) (fun _ => et_B (ev_f (ea_cons (ev_var rfl) (ea_cons (ev_f (ea_cons (ev_var rfl) (ea_cons (ev_var rfl) ea_nil)) (sv_lround (w2.mono (e08.trans e9)) mne)) ea_nil)) sv_within)))
              (fun i y H9 e9 hy _ => by
                obtain ⟨lt, rfl⟩ := map_at hy
                exact ev_var rfl)
            rw [List.length_map, given_filter fr (endB ms lot)] at q
            exact q
          have eq := least_starts_eq (ms := ms) (sh := sh) hl
          have z1 : (((List.range (2 ^ v)).filter sh).filter (endB ms lot)).length ≤ 1000 := by
            have h1 := List.length_filter_le (endB ms lot) ((List.range (2 ^ v)).filter sh)
            omega
          have z2 : (lsTo (endB ms lot) sh (lot + 1)).length ≤ 100 := by
            have h1 := lsTo_le (endB ms lot) sh (lot + 1)
            omega
          exact s_ret (ev_exactT (ev_var rfl) (ht.n e08.n) (by rw [← eq]; exact er_leastL cmp z1) z2) fun H9 e9 => k H9 (e08.trans e9)
        have n4 := of_decide_eq_false hb
        have e08 := e07.trans e8
        obtain ⟨t, rfl, ht⟩ := a5 (by omega)
        exact s_ret (ev_exactT (ev_var rfl) (ht.n e08.n) (er_u (eu_tupL (ev_var rfl) (e08 _ _ hFr))) (by omega)) fun H9 e9 => k H9 (e08.trans e9)
end
end TA
end
/-! TaL22 -/
section
set_option Elab.async false
set_option linter.all false
set_option autoImplicit false
set_option maxRecDepth 100000
set_option maxHeartbeats 4000000
namespace TA
open PySem PySem.Spec PyProof.Rows L2 Evl
section
variable {K : PySem.W.Frag} {H H' : Hp}
theorem LinesAt.mono {x : V} {lot e : Nat} {p : Addr} (ex : Ex H H') (h : LinesAt H x lot p e) : LinesAt H' x lot p e := by
  obtain ⟨t, ini, y, rfl, ht, hz, t2, k, s, rfl, h2⟩ := h
  exact ⟨t, ini, _, rfl, ex _ _ ht, hz, t2, k, s, rfl, ex _ _ h2⟩
theorem AnsOk.mono {n v : Nat} {ms : List Nat} {row : Str → List Nat} {pg : Pg} {p : Addr} {lot : Nat} {z x : V} (ex : Ex H H') (h : AnsOk H n v ms row pg p lot z x) : AnsOk H' n v ms row pg p lot z x := by
  obtain ⟨a0, a1, a2, a3, a4, a5⟩ := h
  exact ⟨fun e => ⟨(a0 e).1, fun s => ((a0 e).2 s).mono ex⟩, fun e => (a1 e).mono ex, a2, fun e => let ⟨t, h0, h1⟩ := a3 e; ⟨t, h0, h1.n ex.n⟩, fun e => let ⟨t, h0, h1⟩ := a4 e; ⟨t, h0, h1.n ex.n⟩, fun e => let ⟨t, h0, h1⟩ := a5 e; ⟨t, h0, h1.n ex.n⟩⟩
/-- at the sixth the lot counts for nothing -/
theorem AnsOk.five {n v : Nat} {ms : List Nat} {row : Str → List Nat} {pg : Pg} {p : Addr} {lot lot2 : Nat} {z x : V} (hn : 5 ≤ n) (h : AnsOk H n v ms row pg p lot z x) : AnsOk H n v ms row pg p lot2 z x :=
  ⟨fun e => absurd e (by omega), fun e => absurd e (by omega), fun e => absurd e (by omega), fun e => absurd e (by omega), fun e => absurd e (by omega), h.a5⟩
/-- the six calls by what is wrong of them -/
theorem asked_of {n : Nat} {G S : Addr} {v v2 : Nat} {ms : List Nat} {ns : List Str} {rs : List (List Nat)} {nd : Nd} {x y z : V} {ty ty2 : String} {Q : VK} {E : XK}
    (hG : GlAt K H G v ms) (hS : StAt K H S v2 ns rs) (hN : NdAt H nd x) (hy : Kd H y ty) (hz : Kd H z ty2) (hv2 : Vok v2)
    (g1 : v ≠ v2 → n ≠ 1 ∧ UlX K H E) (g2 : v = v2 → chk ns nd 1 0 0 = none → BpX K H E) (g3 : v = v2 → n ≤ 4 → (chk ns nd 1 0 0).isSome = true → lotB v2 y = false → BlX K H E)
    (g4 : v = v2 → n = 2 → (chk ns nd 1 0 0).isSome = true → lotB v2 y = true → lotB v2 z = false → BlX K H E)
    (g5 : v = v2 → (chk ns nd 1 0 0).isSome = true → (n ≤ 4 → lotB v2 y = true) → (n = 2 → lotB v2 z = true) → ∃ (p : Addr) (pg : Pg) (lot : Nat), AllGood K H v v2 ms ns rs x p pg ∧ lot < 2 ^ v ∧ (n ≤ 4 → y = vn lot) ∧ (n = 2 → ∃ e, e < 2 ^ v ∧ z = vn e) ∧
      ∀ u H2, Ex H H2 → AnsOk H2 n v ms (rowOf ns rs) pg p lot z u → Q u H2) : Asked K n G S x y z H Q E := by
  have gate : n ≤ 4 → GateL K H E v v2 ns nd y := fun h4 => ⟨⟨fun e => (g1 e).2, g2⟩, fun e a b => g3 e h4 a b⟩
  refine ⟨fun hn => ?_, fun hn => ?_, fun hn => ?_, fun hn => ?_, fun hn => ?_, fun hn => ?_⟩
  · refine ⟨G, S, v, v2, ms, ns, rs, nd, x, y, ty, rfl, hG, hS, hN, hy, hv2, gate (by omega), fun e a b => ?_⟩
    obtain ⟨p, pg, lot, hg, hl, h1, _, k⟩ := g5 e a (fun _ => b) (fun z => absurd z (by omega))
    refine ⟨p, pg, lot, hg, h1 (by omega), hl, fun hs H2 e2 => k _ H2 e2 ⟨fun _ => ⟨fun _ => rfl, fun z => (by rw [hs] at z; cases z)⟩, fun e => absurd e (by omega), fun e => absurd e (by omega), fun e => absurd e (by omega), fun e => absurd e (by omega), fun e => absurd e (by omega)⟩,
      fun hs t H2 ini y e2 ht hz hx => k _ H2 e2 ⟨fun _ => ⟨fun z => (by rw [hs] at z; cases z), fun _ => ⟨t, ini, y, rfl, ht, hz, hx⟩⟩, fun e => absurd e (by omega), fun e => absurd e (by omega), fun e => absurd e (by omega), fun e => absurd e (by omega), fun e => absurd e (by omega)⟩⟩
  · have e : v = v2 := Classical.byContradiction fun c => (g1 c).1 hn
    refine ⟨S, v2, ns, rs, nd, x, y, ty, rfl, hS, hN, hy, hv2, g2 e, g3 e (by omega), fun a b => ?_⟩
    obtain ⟨p, pg, lot, ⟨hx, hp, hm, hgd⟩, hl, h1, _, k⟩ := g5 e a (fun _ => b) (fun z => absurd z (by omega))
    subst e
    exact ⟨p, pg, lot, hx, h1 (by omega), hp, hgd, hl, fun t H2 ini y e2 ht hz hx => k _ H2 e2 ⟨fun e => absurd e (by omega), fun _ => ⟨t, ini, y, rfl, ht, hz, hx⟩, fun e => absurd e (by omega), fun e => absurd e (by omega), fun e => absurd e (by omega), fun e => absurd e (by omega)⟩⟩
  · refine ⟨G, S, v, v2, ms, ns, rs, nd, x, y, z, ty, ty2, rfl, hG, hS, hN, hy, hz, hv2, gate (by omega), fun e a b c => g4 e hn a b c, fun e a b c => ?_⟩
    obtain ⟨p, pg, lot, hg, hl, h1, h2, k⟩ := g5 e a (fun _ => b) (fun _ => c)
    obtain ⟨en, he, hze⟩ := h2 hn
    exact ⟨p, pg, lot, en, hg, h1 (by omega), hze, hl, he, fun H2 e2 => k _ H2 e2 ⟨fun e => absurd e (by omega), fun e => absurd e (by omega), fun _ => ⟨en, hze, rfl⟩, fun e => absurd e (by omega), fun e => absurd e (by omega), fun e => absurd e (by omega)⟩⟩
  · refine ⟨G, S, v, v2, ms, ns, rs, nd, x, y, ty, rfl, hG, hS, hN, hy, hv2, gate (by omega), fun e a b => ?_⟩
    obtain ⟨p, pg, lot, hg, hl, h1, _, k⟩ := g5 e a (fun _ => b) (fun z => absurd z (by omega))
    exact ⟨p, pg, lot, hg, h1 (by omega), hl, fun t H2 e2 ht => k _ H2 e2 ⟨fun e => absurd e (by omega), fun e => absurd e (by omega), fun e => absurd e (by omega), fun _ => ⟨t, rfl, ht⟩, fun e => absurd e (by omega), fun e => absurd e (by omega)⟩⟩
  · refine ⟨G, S, v, v2, ms, ns, rs, nd, x, y, ty, rfl, hG, hS, hN, hy, hv2, gate (by omega), fun e a b => ?_⟩
    obtain ⟨p, pg, lot, hg, hl, h1, _, k⟩ := g5 e a (fun _ => b) (fun z => absurd z (by omega))
    exact ⟨p, pg, lot, hg, h1 (by omega), hl, fun t H2 e2 ht => k _ H2 e2 ⟨fun e => absurd e (by omega), fun e => absurd e (by omega), fun e => absurd e (by omega), fun e => absurd e (by omega), fun _ => ⟨t, rfl, ht⟩, fun e => absurd e (by omega)⟩⟩
  · refine ⟨G, S, v, v2, ms, ns, rs, nd, x, rfl, hG, hS, hN, hv2, ⟨fun e => (g1 e).2, g2⟩, fun e a => ?_⟩
    obtain ⟨p, pg, lot, hg, hl, _, _, k⟩ := g5 e a (fun z => absurd z (by omega)) (fun z => absurd z (by omega))
    exact ⟨p, pg, hg, fun t H2 e2 ht => k _ H2 e2 ⟨fun e => absurd e (by omega), fun e => absurd e (by omega), fun e => absurd e (by omega), fun e => absurd e (by omega), fun e => absurd e (by omega), fun _ => ⟨t, rfl, ht⟩⟩⟩
/-! ### what the law keeps between its turns -/
structure Keep (K : PySem.W.Frag) (H : Hp) (h c W N p t G S O F : Addr) (v : Nat) (ms : List Nat) (es : List (Str × List Nat)) (pg : Pg) (rs2 : List (List Nat)) : Prop where
  hh : HandAt H h c
  wo : WoAt H W v ms es
  nm : H N = some (.lst ((nms es).map V.str))
  pr : PrAt H pg p
  tp : H t = some (.tup [.ref G, .ref S])
  gl : GlAt K H G v ms
  st : StAt K H S v (nms es) (rws es)
  ot : StAt K H O (v % 6 + 1) (nms es) rs2
  fr : LstN H F ((List.range (2 ^ v)).filter (runSharp ms (rowOf (nms es) (rws es)) pg))
theorem Keep.x {h c W N p t G S O F : Addr} {v : Nat} {ms : List Nat} {es : List (Str × List Nat)} {pg : Pg} {rs2 : List (List Nat)} (k : Keep K H h c W N p t G S O F v ms es pg rs2) (x : XO h H H') (hh : HandAt H' h c) : Keep K H' h c W N p t G S O F v ms es pg rs2 :=
  ⟨hh, k.wo.x x k.hh, strs_x x k.hh k.nm, k.pr.n (k.hh.nx x), k.hh.nx x _ _ (fun _ z => nomatch z) k.tp, k.gl.n (k.hh.nx x), k.st.n (k.hh.nx x), k.ot.n (k.hh.nx x), k.fr.x x k.hh⟩
theorem Keep.mono {h c W N p t G S O F : Addr} {v : Nat} {ms : List Nat} {es : List (Str × List Nat)} {pg : Pg} {rs2 : List (List Nat)} (k : Keep K H h c W N p t G S O F v ms es pg rs2) (e : Ex H H') : Keep K H' h c W N p t G S O F v ms es pg rs2 := k.x e.o (k.hh.mono e)
end
end TA
end
/-! TaL23 -/
section
set_option Elab.async false
set_option linter.all false
set_option autoImplicit false
set_option maxRecDepth 100000
set_option maxHeartbeats 4000000
namespace TA
open PySem PySem.Spec PyProof.Rows L2 Evl
section
variable {H H' : Hp} {h c W N : Addr} {v : Nat} {ms : List Nat} {es : List (Str × List Nat)} {ns : List Str}
theorem range_getS (l : List Str) : ((List.range l.length).map fun i => V.str (l.getD i "")) = l.map V.str := by
  refine List.ext_getElem (by simp) fun i h1 h2 => ?_
  rw [List.getElem_map, List.getElem_map, List.getElem_range, List.getD_eq_getElem?_getD, List.getElem?_eq_getElem (by simpa using h2)]
  rfl
theorem xx_n (x : XX h W H H') (hh : HandAt H h c) (hW : WoAt H W v ms es) : ExN H H' := fun a o n q => by
  obtain ⟨_, _, _, _, h1, _⟩ := hh
  obtain ⟨_, _, _, w1, _⟩ := hW
  refine x a o (fun z => ?_) (fun z => ?_) q
  · subst z
    rw [h1] at q
    exact n _ (Option.some.inj q).symm
  · subst z
    rw [w1] at q
    exact n _ (Option.some.inj q).symm
theorem strs_xx (x : XX h W H H') (hh : HandAt H h c) (hW : WoAt H W v ms es) (hne : ns ≠ []) (q : H N = some (.lst (ns.map V.str))) : H' N = some (.lst (ns.map V.str)) := by
  obtain ⟨_, _, _, _, h1, _⟩ := hh
  obtain ⟨_, _, _, w1, _⟩ := hW
  cases ns with
  | nil => exact absurd rfl hne
  | cons s l =>
    refine x _ _ (fun z => ?_) (fun z => ?_) q
    · subst z
      rw [h1] at q
      cases q
    · subst z
      rw [w1] at q
      cases q
end
theorem make_raw {σ : L2.St} {H : Hp} {C : Addr} {sp : Sp} {E : XK} {t : TA} {Q : VK} (h : t σ H fun vs H1 => ∀ x dx, H1 x = none → H1 dx = none → dx ≠ x → sp (.ref x :: (vs ++ [])) (upd (upd H1 dx (.own x)) x (.ins C dx [])) (fun v H2 => v = .non ∧ Q (.ref x) H2) E) : tMake C sp [] E t σ H Q := h
/-- an entry: none of its parts is the list itself -/
def EntD (H : Hp) (D : Addr) (x : V) (q : Str × List Nat) : Prop := ∃ a r, x = .ref a ∧ H a = some (.tup [.str q.1, .ref r]) ∧ H r = some (.lst (q.2.map vn)) ∧ a ≠ D ∧ r ≠ D
theorem EntD.go {H H' : Hp} {D : Addr} {x : V} {q : Str × List Nat} (d : EntD H D x q) (e : ∀ b o, b ≠ D → H b = some o → H' b = some o) : EntD H' D x q := let ⟨a, r, h0, h1, h2, n1, n2⟩ := d; ⟨a, r, h0, e _ _ n1 h1, e _ _ n2 h2, n1, n2⟩
theorem EntD.at {H : Hp} {D : Addr} {x : V} {q : Str × List Nat} (d : EntD H D x q) : EntAt H x q := let ⟨a, r, h0, h1, h2, _, _⟩ := d; ⟨a, r, h0, .inr h1, .inl h2⟩
theorem test_te {σ : L2.St} {H : Hp} {te : TE} {Q : Bool → Hp → Prop} (h : te σ H fun x H1 => ∃ k, x = .bl k ∧ Q k H1) : tTest te σ H Q := h
theorem call_te {σ : L2.St} {H : Hp} {sp : Sp} {E : XK} {t : TA} {Q : VK} (h : t σ H fun vs H1 => sp (vs ++ []) H1 Q E) : tCall sp [] E t σ H Q := h
theorem et_blur {K : PySem.W.Frag} {σ : L2.St} {H : Hp} {W m d a p : Addr} {v : Nat} {ms : List Nat} {es : List (Str × List Nat)} {pg : Pg} {lot : Nat} (s2 : σ[2]? = some (some (.ref W))) (s5 : σ[5]? = some (some (.ref p))) (s9 : σ[9]? = some (some (vn lot))) (w1 : H W = some (.lst [vn v, .ref m, .ref d, .ref a])) (hm : LstN H m ms) (hne : ms ≠ []) (hd : RwAt H d es)
    (h6 : ∀ q ∈ es, q.2.length ≤ 6) (hp : PrAt H pg p) (gd : Goods v (nms es) (rws es) pg) (hl : lot < 2 ^ v) :
    EvT (tTest (tOp (rI0 fun i j => .bl (decide (i < j))) (tCall (spBlur K) [] E0 (tCons (tOp (rIxA K) (tVar 2) (tC (.int 1))) (tCons (tOp (rIxA K) (tVar 2) (tC (.int 2))) (tCons (tCall (spSteps K) [] E0 (tCons (tOp (rIxA K) (tVar 2) (tC (.int 2))) (tCons (tVar 5) (tCons (tVar 9) tNil)))) tNil)))) (tC (.int 0)))) σ H (runSharp ms (rowOf (nms es) (rws es)) pg lot) := by
  intro H1 e Q q
  refine test_te (op_te (call_te (ev_te (ev_ixL (ev_var s2) (ev_c (v := .int 1)) (e _ _ w1) rfl) fun H2 e2 => ?_)))
  refine ev_te (ev_ixL (ev_var s2) (ev_c (v := .int 2)) ((e.trans e2) _ _ w1) rfl) fun H3 e3 => ?_
  have e03 := (e.trans e2).trans e3
  refine cons_te (callA (ea_cons (ev_ixL (ev_var s2) (ev_c (v := .int 2)) (e03 _ _ w1) rfl) (ea_cons (ev_var s5) (ea_cons (ev_var s9) ea_nil))) fun H4 e4 => ⟨d, p, v, es, pg, lot, rfl, hd.mono (e03.trans e4), hp.n (e03.trans e4).n, gd.ht, gd.wt, gd.fit, hl, fun S H5 xs e5 hS hSx hpr => ?_⟩)
  have e05 := (e03.trans e4).trans e5
  have hz := runN_wt (row := rowOf (nms es) (rws es)) pg lot
  have gw := gd.wt
  refine ⟨m, d, S, ms, es, xs, (runN (rowOf (nms es) (rws es)) pg lot).2, rfl, hm.mono e05, hne, hd.mono e05, h6, hSx, hpr, fun q hq => gd.fit.use _ (runN_uses pg lot q hq), by omega, fun i hi H6 e6 => ?_⟩
  refine ⟨i, 0, rfl, rfl, _, rfl, ?_⟩
  rw [hi]
  exact q H6 ((((e2.trans e3).trans e4).trans e5).trans e6)
theorem take_eq {K : PySem.W.Frag} {σ : L2.St} {H : Hp} {E : XK} {Q : VK} {h c : Addr} {m : Nat} (h0 : σ[1]? = some (some (.ref h))) (h1 : 0 < m) (h2 : m ≤ 100000) (hH : HandAt H h c) (k : ∀ H2 b, XO h H H2 → HandAt H2 h c → Q (.bl b) H2) :
    tOp (rEqA K) (tCall (spTake K) [] E (tCons (tVar 1) (tCons (tC (vn m)) tNil))) (tC (.int 0)) σ H Q := take_at h0 ev_c h1 h2 hH fun H2 r x2 hh2 hr => (rv_or1 (rv_eq (x := vn r) (y := .int 0) rfl)) H2 (Ex.refl H2) Q fun H3 e3 => k H3 _ (x2.trans e3.o) (hh2.mono e3)
theorem if_te {σ : L2.St} {H : Hp} {t : TT} {ta tb : TE} {Q : VK} {c : Bool} (h : EvT t σ H c) (h1 : c = true → ∀ H1, Ex H H1 → ta σ H1 Q) (h2 : c = false → ∀ H1, Ex H H1 → tb σ H1 Q) : tIf t ta tb σ H Q := h H (Ex.refl H) _ fun H1 e => by
  cases c with
  | true => exact (if_pos rfl).mpr (h1 rfl H1 e)
  | false => exact (if_neg Bool.false_ne_true).mpr (h2 rfl H1 e)
theorem lst_te {σ : L2.St} {H : Hp} {ta : TA} {Q : VK} (h : ta σ H fun vs H1 => vs.length ≤ sizeLine ∧ ∀ p, H1 p = none → Q (.ref p) (upd H1 p (.lst vs))) : tLst ta σ H Q := h
theorem s_val {σ : L2.St} {H : Hp} {D : Ends} {te : TE} {i : Nat} (h : te σ H fun v H' => D.nx (σ.set i (some v)) H') : tAsg te (gName i) D σ H := h
/-- told, by what it comes to -/
theorem sp_told {K : PySem.W.Frag} {n : Nat} {t G S : Addr} {x y z : V} {H : Hp} {Q : VK} {E : XK} (R : List Str → V → Hp → Prop) (ht : H t = some (.tup [.ref G, .ref S])) (fin : ∀ ws u H3, Ex H H3 → R ws u H3 → RetW ws u H3 Q)
    (A : ∀ (H1 : Hp) (Q' : VK) (E' : XK), Ex H H1 → (∀ u H2, Ex H1 H2 → R [] u H2 → Q' u H2) → (∀ H2, Ex H1 H2 → R ["unlike"] .non H2 → E' (.ref (He.ga K "UnlikeStands")) none H2) →
      (∀ (d : Addr) H2 fs, Ex H1 H2 → H2 d = some (.xd fs) → R ["program"] .non H2 → E' (.ref (He.ga K "BadProgram")) (some d) H2) → (∀ H2, Ex H1 H2 → R ["lot"] .non H2 → E' (.ref (He.ga K "BadLot")) none H2) → Asked K n G S x y z H1 Q' E') : spTold K [vn n, .ref t, x, y, z] H Q E :=
  ⟨n, t, G, S, x, y, z, rfl, ht, fun H1 Q' E' e hQ hE => A H1 Q' E' e (fun u H2 e2 r => hQ u H2 (fin [] u H2 (e.trans e2) r)) (fun H2 e2 r => hE _ _ _ (.inl ⟨rfl, rfl, fin _ _ H2 (e.trans e2) r⟩))
    (fun d H2 fs e2 hd r => hE _ _ _ (.inr (.inl ⟨rfl, ⟨d, fs, rfl, hd⟩, fin _ _ H2 (e.trans e2) r⟩))) (fun H2 e2 r => hE _ _ _ (.inr (.inr ⟨rfl, rfl, fin _ _ H2 (e.trans e2) r⟩)))⟩
theorem words3 : ∀ x ∈ (["unlike", "program", "lot"] : List Str), PyData.canLay0 (.str x) = true := by decide +kernel
section
variable {n : Nat} {f0 f1 f2 f3 : Bool}
theorem due_lay : ∀ x ∈ dueL n f0 f1 f2 f3, PyData.canLay0 (.str x) = true := fun x hx => by
  refine words3 x ?_
  unfold dueL at hx
  split at hx
  · rw [List.mem_singleton.mp hx]; simp
  · split at hx
    · rw [List.mem_singleton.mp hx]; simp
    · split at hx
      · rw [List.mem_singleton.mp hx]; simp
      · cases hx
theorem due_u (h : (f0 && !decide (n = 1)) = true) : dueL n f0 f1 f2 f3 = (["unlike"] : List Str) := by
  unfold dueL
  rw [if_pos h]
theorem due_p (h : (f0 && !decide (n = 1)) = false) (h1 : f1 = true) : dueL n f0 f1 f2 f3 = (["program"] : List Str) := by
  unfold dueL
  rw [h, if_neg Bool.false_ne_true, if_pos h1]
theorem due_l (h : (f0 && !decide (n = 1)) = false) (h1 : f1 = false) (h2 : ((f2 && !decide (n = 5)) || (f3 && decide (n = 2))) = true) : dueL n f0 f1 f2 f3 = (["lot"] : List Str) := by
  unfold dueL
  rw [h, if_neg Bool.false_ne_true, h1, if_neg Bool.false_ne_true, if_pos h2]
theorem due_0 (h : (f0 && !decide (n = 1)) = false) (h1 : f1 = false) (h2 : ((f2 && !decide (n = 5)) || (f3 && decide (n = 2))) = false) : dueL n f0 f1 f2 f3 = [] := by
  unfold dueL
  rw [h, if_neg Bool.false_ne_true, h1, if_neg Bool.false_ne_true, h2, if_neg Bool.false_ne_true]
end
section
variable {P : Program} {w : World} {K : PySem.W.Frag} {mg : Str → Option Value} {base : Heap}
def spLaw (K : PySem.W.Frag) : Sp := fun vs H Q _ => ∃ (a : Addr) (ns : List Int), vs = [.ref a] ∧ SqL K H a (ns.map V.int) ∧ ns.length ≤ 63 ∧ Only H ∧ ∀ H', Q (.bl true) H'
theorem ok_law (T : Txt w K mg) (F_runs_sharp : Fok P w K mg base 40 (a_runs_sharp K) P_runs_sharp (spRunsSharp K)) {fdl : FuncData} (FL : L2.FunD K "law" "law" (defArgs s_law) (defBody s_law) (defScope s_law) [] [] (a_law K) fdl) : FnOk P w K mg base (L2.CX P w) 60 (a_law K) fdl P_law (spLaw K) := by
  have F__law_hand := ok__law_hand (P := P) (base := base) T
  have F__law_world := ok__law_world (P := P) (base := base) T
  have F__law_program := ok__law_program (P := P) (base := base) T 4
  have F__law_take := ok__law_take (P := P) (base := base) T
  have F__law_start := ok__law_start (P := P) (base := base) T
  have F__law_steered := ok__law_steered (P := P) (base := base) T
  have F__law_make := ok__law_make (P := P) (base := base) T
  have F_Steps_init := ok_Steps_init (P := P) (base := base) T
  have F__law_first_blur := ok__law_first_blur (P := P) (base := base) T
  have F__law_met_steps := ok__law_met_steps (P := P) (base := base) T
  have F__law_no_program := ok__law_no_program (P := P) (base := base) T
  have F__law_no_lot := ok__law_no_lot (P := P) (base := base) T
  have F__law_told := ok__law_told T F_runs_sharp
  have F__law_due := ok__law_due (P := P) (base := base) T
  have F__law_answer_good := ok__law_answer_good (P := P) (base := base) T
  refine FL.ok sc_law (fun vs H Q E h => ?_) (fun cdv A outer s H vs Q E hr h => ?_)
  · obtain ⟨a, ns, rfl, _⟩ := h
    rfl
  · obtain ⟨a, ns, rfl, ha, hz, _, k⟩ := h
    have H64 := hr.units
    refine ⟨_, (pss_cons (ps_set (i := 1) sc_law.nd rfl (Or.inl rfl) (pe_f F__law_hand T.c__law_hand (hr.mono (by omega)) (px rfl rfl rfl rfl) (pa_cons (pv 0) pa_nil)))
      (pss_cons (ps_set (i := 2) sc_law.nd rfl (Or.inr rfl) (pe_f F__law_world T.c__law_world (hr.mono (by omega)) (px rfl rfl rfl rfl) (pa_cons (pv 1) (pa_cons pe_int pa_nil))))
      (pss_cons (ps_set (i := 3) sc_law.nd rfl (Or.inr rfl) (pe_ix ix_A (pv 2) pe_int (fun _ _ => rfl)))
      (pss_cons (ps_setLc (i := 4) (own := [("_law_entry", 20)]) (g := (gName 20)) (tt := tYes) rfl sc_law.nd rfl rfl (sw_true rfl rfl rfl (by decide +kernel)) (pi_A (pe_ix ix_A (pv 2) pe_int (fun _ _ => rfl))) (blkOk_by (N := N_law) (sc := defScope s_law) (by decide +kernel)) (fun _ _ _ _ _ => (pg_name (i := 20) sc_law.nd rfl (Or.inl rfl))) (fun _ _ _ _ _ => pts_nil) (fun _ _ _ _ _ => (pe_ix (ixK (K := K) rfl) (pv 20) pe_int (fun _ _ => rfl))))
      (pss_cons (ps_set (i := 5) sc_law.nd rfl (Or.inr rfl) (pe_f F__law_program T.c__law_program (hr.mono (by omega)) (px rfl rfl rfl rfl) (pa_cons (pv 1) (pa_cons (pv 4) (pa_cons (pe_op op_addA pe_int (pe_f F__law_take T.c__law_take (hr.mono (by omega)) (px rfl rfl rfl rfl) (pa_cons (pv 1) (pa_cons pe_int pa_nil)))) (pa_cons pe_int pa_nil))))))
      (pss_cons (ps_set (i := 6) sc_law.nd rfl (Or.inl rfl) (pe_f F__law_start T.c__law_start (hr.mono (by omega)) (px rfl rfl rfl rfl) (pa_cons (pv 1) (pa_cons (pv 3) pa_nil))))
      (pss_cons (ps_set (i := 2) sc_law.nd rfl (Or.inr rfl) (pe_f F__law_steered T.c__law_steered (hr.mono (by omega)) (px rfl rfl rfl rfl) (pa_cons (pv 1) (pa_cons (pv 2) (pa_cons (pv 5) (pa_cons (pv 6) pa_nil))))))
      (pss_cons (ps_set (i := 7) sc_law.nd rfl (Or.inl rfl) (pe_f F__law_make T.c__law_make (hr.mono (by omega)) (px rfl rfl rfl rfl) (pa_cons (pv 1) (pa_cons (pv 2) pa_nil))))
      (pss_cons (ps_set (i := 8) sc_law.nd rfl (Or.inl rfl) (pe_new F_Steps_init T.mk_Steps T.g_Steps (hr.mono (by omega)) (px rfl rfl rfl rfl) (pa_cons (pe_op op_addA (pe_op op_mod (pe_callTy call_int1 rfl T.m_int bt_int (pa_cons (pv 3) pa_nil)) pe_int) pe_int) (pa_cons (pe_lc (own := [("_law_name", 21)]) (g := (gName 21)) (tt := tYes) rfl sc_law.nd (pi_A (pv 4)) (blkOk_by (N := N_law) (sc := defScope s_law) (by decide +kernel)) (fun _ _ _ _ _ => (pg_name (i := 21) sc_law.nd rfl (Or.inl rfl))) (fun _ _ _ _ _ => pts_nil) (fun _ _ _ _ _ => (pe_tup (pa_cons (pv 21) (pa_cons (pe_op op_rep (pe_lst (pa_cons pe_int pa_nil)) (pe_op (addK (K := K) rfl) (pe_op op_mod (pe_callTy call_int1 rfl T.m_int bt_int (pa_cons (pv 3) pa_nil)) pe_int) pe_int)) pa_nil))))) pa_nil))))
      (pss_cons (ps_setLc (i := 10) (own := [("_law_lot", 9)]) (g := (gName 9)) rfl sc_law.nd rfl rfl (sw_true rfl rfl rfl (by decide +kernel)) (pi_range1 rfl T.m_range (pa_cons (pe_op op_shl pe_int (pv 3)) pa_nil)) (blkOk_by (N := N_law) (sc := defScope s_law) (by decide +kernel)) (fun _ _ _ _ _ => (pg_name (i := 9) sc_law.nd rfl (Or.inl rfl))) (fun _ _ _ _ _ => (pts_one (pt_cmpR op_lt (pe_f F__law_first_blur T.c__law_first_blur (hr.mono (by omega)) passL (pa_cons (pe_ix (ixK (K := K) rfl) (pv 2) pe_int (fun _ _ => rfl)) (pa_cons (pe_ix (ixK (K := K) rfl) (pv 2) pe_int (fun _ _ => rfl)) (pa_cons (pe_f F__law_met_steps T.c__law_met_steps (hr.mono (by omega)) passL (pa_cons (pe_ix (ixK (K := K) rfl) (pv 2) pe_int (fun _ _ => rfl)) (pa_cons (pv 5) (pa_cons (pv 9) pa_nil)))) pa_nil)))) pe_int (nomark _)))) (fun _ _ _ _ _ => (pv 9)))
      (pss_cons (ps_for (passes_of rfl) rfl (pi_range1 rfl T.m_range (pa_cons pe_int pa_nil)) (pg_name (i := 11) sc_law.nd rfl (Or.inl rfl)) (pss_one (ps_for (passes_of rfl) rfl (pi_range1 rfl T.m_range (pa_cons pe_int pa_nil)) (pg_name (i := 12) sc_law.nd rfl (Or.inl rfl)) (pss_cons (ps_set (i := 13) sc_law.nd rfl (Or.inl rfl) (pe_lst (pa_cons pe_bl (pa_cons pe_bl (pa_cons pe_bl (pa_cons pe_bl pa_nil))))))
      (pss_cut (ps_if (pt_cmpR (op_eqA H64) (pv 12) pe_int (nomark _)) (pss_one (ps_set (i := 13) sc_law.nd rfl (Or.inl rfl) (pe_lst (pa_cons (pe_cmpR (op_eqA H64) (pe_f F__law_take T.c__law_take (hr.mono (by omega)) (px rfl rfl rfl rfl) (pa_cons (pv 1) (pa_cons pe_int pa_nil))) pe_int (nomark _)) (pa_cons (pe_cmpR (op_eqA H64) (pe_f F__law_take T.c__law_take (hr.mono (by omega)) (px rfl rfl rfl rfl) (pa_cons (pv 1) (pa_cons pe_int pa_nil))) pe_int (nomark _)) (pa_cons (pe_cmpR (op_eqA H64) (pe_f F__law_take T.c__law_take (hr.mono (by omega)) (px rfl rfl rfl rfl) (pa_cons (pv 1) (pa_cons pe_int pa_nil))) pe_int (nomark _)) (pa_cons (pe_cmpR (op_eqA H64) (pe_f F__law_take T.c__law_take (hr.mono (by omega)) (px rfl rfl rfl rfl) (pa_cons (pv 1) (pa_cons pe_int pa_nil))) pe_int (nomark _)) pa_nil))))))) pss_nil)
      (pss_cut (ps_set (i := 14) sc_law.nd rfl (Or.inl rfl) (pe_ifExp (pt_truth (pe_ix ix_A (pv 13) pe_int (fun _ _ => rfl)) (fun _ => rfl)) (pe_f F__law_no_program T.c__law_no_program (hr.mono (by omega)) (px rfl rfl rfl rfl) (pa_cons (pv 1) (pa_cons (pe_ix ix_A (pv 4) pe_int (fun _ _ => rfl)) pa_nil))) (pv 5)))
      (pss_cut (ps_set (i := 9) sc_law.nd rfl (Or.inl rfl) (pe_ifExp (pt_truth (pe_ix ix_A (pv 13) pe_int (fun _ _ => rfl)) (fun _ => rfl)) (pe_f F__law_no_lot T.c__law_no_lot (hr.mono (by omega)) (px rfl rfl rfl rfl) (pa_cons (pv 1) (pa_cons (pv 3) pa_nil))) (pe_ifExp (pt_truth (pe_f F__law_take T.c__law_take (hr.mono (by omega)) (px rfl rfl rfl rfl) (pa_cons (pv 1) (pa_cons pe_int pa_nil))) (fun _ => rfl)) (pv 6) (pe_f F__law_take T.c__law_take (hr.mono (by omega)) (px rfl rfl rfl rfl) (pa_cons (pv 1) (pa_cons (pe_op op_shl pe_int (pv 3)) pa_nil))))))
      (pss_cut (ps_set (i := 15) sc_law.nd rfl (Or.inl rfl) (pe_ifExp (pt_truth (pe_ix ix_A (pv 13) pe_int (fun _ _ => rfl)) (fun _ => rfl)) (pe_f F__law_no_lot T.c__law_no_lot (hr.mono (by omega)) (px rfl rfl rfl rfl) (pa_cons (pv 1) (pa_cons (pv 3) pa_nil))) (pe_f F__law_take T.c__law_take (hr.mono (by omega)) (px rfl rfl rfl rfl) (pa_cons (pv 1) (pa_cons (pe_op op_shl pe_int (pv 3)) pa_nil)))))
      (pss_cut (ps_set (i := 16) sc_law.nd rfl (Or.inl rfl) (pe_ifExp (PW.pt (pw_and (pt_truth (pe_ix ix_A (pv 13) pe_int (fun _ _ => rfl)) (fun _ => rfl)) (pw_and1 (pt_cmpR (op_neA H64) (pv 11) pe_int (nomark _))))) (pe_tup (pa_cons (pe_ix ix_A (pv 7) pe_int (fun _ _ => rfl)) (pa_cons (pv 8) pa_nil))) (pv 7)))
      (pss_cons (ps_asg (pe_f F__law_told T.c__law_told (hr.mono (by omega)) (px rfl rfl rfl rfl) (pa_cons (pv 11) (pa_cons (pv 16) (pa_cons (pv 14) (pa_cons (pv 9) (pa_cons (pv 15) pa_nil)))))) (pg_unl rfl (pgs_cons (pg_name (i := 17) sc_law.nd rfl (Or.inl rfl)) (pgs_cons (pg_name (i := 18) sc_law.nd rfl (Or.inl rfl)) pgs_nil))))
      (pss_cons (ps_set (i := 19) sc_law.nd rfl (Or.inl rfl) (pe_f F__law_due T.c__law_due (hr.mono (by omega)) (px rfl rfl rfl rfl) (pa_cons (pv 11) (pa_cons (pv 13) pa_nil))))
      (pss_cons (ps_if (pt_cmpR (op_neA H64) (pv 17) (pv 19) (nomark _)) (pss_one (ps_ret pe_bl)) pss_nil)
      (pss_cut (ps_if (pt_cmpR (op_eqA H64) (pv 11) pe_int (nomark _)) (pss_one (ps_set (i := 9) sc_law.nd rfl (Or.inl rfl) (pv 6))) pss_nil)
      (pss_one (ps_if (PW.pt (pw_and (pt_cmpR (op_eqA H64) (pv 19) (pe_lst pa_nil) (nomark _)) (pw_and1 (pt_not (pt_val (pe_f F__law_answer_good T.c__law_answer_good (hr.mono (by omega)) (px rfl rfl rfl rfl) (pa_cons (pv 11) (pa_cons (pv 2) (pa_cons (pv 5) (pa_cons (pv 9) (pa_cons (pv 15) (pa_cons (pv 10) (pa_cons (pv 18) pa_nil))))))))))))) (pss_one (ps_ret pe_bl)) pss_nil)))))))))))))))
      (pss_one (ps_ret pe_bl))))))))))))), ?_⟩
    --SETUP
    refine q_val (callA (ea_cons (ev_var rfl) ea_nil) fun H1 e1 => ⟨a, ns, rfl, ex_l e1 ha, hz, fun h c H2 e2 hh0 _ => ?_⟩)
    refine q_val (callA (ea_cons (ev_var rfl) (ea_cons ev_c ea_nil)) fun H3 e3 => ⟨h, c, rfl, hh0.mono e3, fun W H4 v ms0 es x4 hh4 hW4 ok0 => ?_⟩)
    obtain ⟨m0, d0, a0, w1, w2, w3, w4⟩ := id hW4
    have hel := ok0.len
    have v1 := ok0.vok.1
    have v2 := ok0.vok.2
    have vp := Nat.two_pow_pos v
    have v6 : (2 : Nat) ^ v ≤ 64 := Nat.pow_le_pow_right (by decide) ok0.vok.2
    have hshl : 1 <<< v = 2 ^ v := by rw [Nat.shiftLeft_eq, Nat.one_mul]
    refine q_asg (ev_ixL (ev_var rfl) (ev_c (v := .int 0)) w1 rfl) fun H5 e5 => ?_
    obtain ⟨exs, hexs, hep⟩ := id w4
    have hexl := Paired.length hep
    have cmpN : EvL (tLc (iA K (tOp (rIxA K) (tVar 2) (tC (.int 3)))) (gName 20) tYes (tOp (rIxA K) (tVar 20) (tC (.int 0))) [20]) [some (.ref a), some (.ref h), some (.ref W), some (vn v), none, none, none, none, none, none, none, none, none, none, none, none, none, none, none, none, none, none] H5 ((nms es).map V.str) := by
      have z := el_lcA (K := K) (tl := tOp (rIxA K) (tVar 2) (tC (.int 3))) (t := tYes) (te := tOp (rIxA K) (tVar 20) (tC (.int 0))) (σ := [some (.ref a), some (.ref h), some (.ref W), some (vn v), none, none, none, none, none, none, none, none, none, none, none, none, none, none, none, none, none, none]) (H := H5) (a := a0) (xs := exs) (j := 20) (vs := [20])
        (fun _ => true) (fun i => V.str ((nms es).getD i "")) (ev_ixL (ev_var rfl) ev_c (e5 _ _ w1) rfl) (.inl (e5 _ _ hexs)) (by omega) (fun x => rfl) (fun i x H1 e hx => et_yes) (fun i x H6 e hx _ => by
          obtain ⟨q, hq, t, r, rfl, ht, hr2⟩ := paired_get hep hx
          have eq : (nms es).getD i "" = q.1 := by rw [List.getD_eq_getElem?_getD, List.getElem?_map, hq]; rfl
          rw [eq]
          exact ev_ixT (ev_var rfl) ev_c (e _ _ (e5 _ _ ht)) rfl)
      rw [given_all, hexl, ← List.length_map (as := es) (f := fun q => q.1), range_getS] at z
      exact z
    refine q_asgL cmpN fun N H6 _ e6 hN6 => ?_
    have hh6 := hh4.mono (e5.trans e6)
    refine q_val ?_
    refine ⟨_, rfl, _, rfl, ?_⟩
    refine take_at (m := 3) rfl ev_c (by decide) (by decide) hh6 fun H7 r x7 hh7 hr3 => .inl ⟨1, (r : Int), rfl, rfl, ?_⟩
    have hN7 := strs_x x7 hh6 hN6
    have hne : nms es ≠ [] := fun z => ok0.ne (List.map_eq_nil_iff.mp z)
    refine ⟨h, c, N, 1 + r, 1, nms es, congrArg (fun i => [V.ref h, V.ref N, V.int i, V.int 1]) (by omega), hh7, hN7, hne, by rw [List.length_map]; omega, by omega, by decide, by omega, by decide, fun p H8 pg x8 hh8 hp8 dr => ?_⟩
    have hrows : ∀ r ∈ rws es, RowOk v r := fun r hr => by
      obtain ⟨q, hq, rfl⟩ := List.mem_map.mp hr
      exact ok0.row q hq
    have gd : Goods v (nms es) (rws es) pg := dr.goods (by omega) (by decide) ok0.vok hrows
    have hN8 := strs_x x8 hh7 hN7
    have hW8 := ((hW4.mono (e5.trans e6)).x x7 hh6).x x8 hh7
    refine q_val (callA (ea_cons (ev_var rfl) (ea_cons (ev_var rfl) ea_nil)) fun H9 e9 => ⟨h, c, v, rfl, hh8.mono e9, ok0.vok, fun H10 lot0 x10 hh10 hl0 => ?_⟩)
    have hh9 := hh8.mono e9
    have hN10 := strs_x x10 hh9 (e9 _ _ hN8)
    have hW10 := (hW8.mono e9).x x10 hh9
    have hp10 := (hp8.n e9.n).n (hh9.nx x10)
    refine q_val (callA (ea_cons (ev_var rfl) (ea_cons (ev_var rfl) (ea_cons (ev_var rfl) (ea_cons (ev_var rfl) ea_nil)))) fun H11 e11 => ⟨h, c, W, p, v, ms0, es, pg, lot0, rfl, hh10.mono e11, hW10.mono e11, ok0, hp10.n e11.n, gd.ht, gd.wt, gd.fit, hl0, fun H12 ms x12 hh12 hW12 ok => ?_⟩)
    have hN12 := strs_xx x12 (hh10.mono e11) (hW10.mono e11) hne (e11 _ _ hN10)
    have hp12 := hp10.n (e11.n.trans (xx_n x12 (hh10.mono e11) (hW10.mono e11)))
    refine q_val (callA (ea_cons (ev_var rfl) (ea_cons (ev_var rfl) ea_nil)) fun H13 e13 => ⟨h, c, W, v, ms, es, rfl, hh12.mono e13, hW12.mono e13, ok, fun t G S H14 x14 hh14 ht14 hG14 hS14 => ?_⟩)
    have hh13 := hh12.mono e13
    have hN14 := strs_x x14 hh13 (e13 _ _ hN12)
    have hW14 := (hW12.mono e13).x x14 hh13
    have hp14 := (hp12.n e13.n).n (hh13.nx x14)
    -- the other steps
    obtain ⟨m1, d1, a1, u1, u2, u3, u4⟩ := id hW14
    obtain ⟨vo, hvo⟩ : ∃ n : Nat, n = v % 6 + 1 := ⟨_, rfl⟩
    have hvo1 : Vok vo := ⟨by omega, by omega⟩
    have hvne : v ≠ vo := by omega
    obtain ⟨es2, hes2⟩ : ∃ l : List (Str × List Nat), l = (nms es).map fun s => (s, List.replicate vo 0) := ⟨_, rfl⟩
    have n1 : nms es2 = nms es := by rw [hes2]; show ((nms es).map fun s => (s, List.replicate vo 0)).map (·.1) = _; rw [List.map_map]; exact List.map_id _
    have evo : ∀ {σ : L2.St} {H1 : Hp}, σ[3]? = some (some (vn v)) → Ev (tOp (rAddA K) (tOp (rI (fun _ j => 0 < j) fun i j => .int (i % j)) (tCB (fun xs H Q => (∃ i, xs = [.int i] ∧ Q (.int i) H) ∨ ∃ k, xs = [.bl k] ∧ Q (.int (if k then 1 else 0)) H) (tCons (tVar 3) tNil)) (tC (.int 6))) (tC (.int 1))) σ H1 (vn vo) := fun h3 =>
      ev_is (ev_add (i := (v : Int) % 6) (j := 1) (ev_mod (ev_int (ev_var h3)) ev_c (by decide)) ev_c) (congrArg V.int (by omega))
    refine q_val (make_raw ?_)
    refine ev_te (evo rfl) fun H15 e15 => ?_
    refine cons_te (lc_A (a := N) (xs := (nms es).map V.str) (ev_var rfl) (.inl (e15 _ _ hN14)) (fun D i H' => Ex H15 H' ∧ H15 D = none ∧ ∃ xs, H' D = some (.lst xs) ∧ Paired (EntD H' D) xs (es2.take i)) (fun D H1 e1 hD => ⟨e1.trans (Ex.new hD), fresh_back e1 hD, [], upd_same, by rw [List.take_zero]; exact .nil⟩) (fun D i H' p o q => p.1 _ _ q) (fun D i x H' hx p => ?_) (fun D H' p => ?_))
    · obtain ⟨e16, hD, xs, hxs, hpx⟩ := p
      rw [List.getElem?_map] at hx
      obtain ⟨s1, hs1, rfl⟩ := Option.map_eq_some_iff.mp hx
      have hi : i < (nms es).length := (List.getElem?_eq_some_iff.mp hs1).1
      rw [List.length_map] at hi
      have hlx : xs.length ≤ 3 := by
        rw [Paired.length hpx, List.length_take]
        omega
      refine ⟨rfl, yesT ?_⟩
      refine tup_te (ev_te (v := .str s1) (ev_var rfl) fun H1 e1 => ?_)
      refine cons_op ⟨by show 1 ≤ sizeLine; decide, fun z0 hz0 => ?_⟩
      have e1z : Ex H' (upd H1 z0 (.lst [.int 0])) := e1.trans (Ex.new hz0)
      refine go (evo rfl) fun H2 e2 => ?_
      refine ⟨z0, (vo : Int), [.int 0], rfl, rfl, e2 _ _ upd_same, by omega, by omega, by show 1 * (vo : Int).toNat ≤ sizeLine; rw [Int.toNat_natCast, Nat.one_mul]; exact Nat.le_trans hvo1.2 (by decide), fun r hr => ?_⟩
      rw [show (List.replicate (vo : Int).toNat [V.int 0]).flatten = (List.replicate vo 0).map vn by rw [Int.toNat_natCast, List.flatten_replicate_singleton, List.map_replicate] <;> rfl]
      refine ⟨by show 2 ≤ sizeLine; decide, fun t2 ht2 => ?_⟩
      have e3 := (e1z.trans e2).trans (Ex.new (o := .lst ((List.replicate vo 0).map vn)) hr)
      have e4 := e3.trans (Ex.new (o := .tup [.str s1, .ref r]) ht2)
      have nrD : r ≠ D := fun z => by subst z; rw [(e1z.trans e2) _ _ hxs] at hr; cases hr
      have ntD : t2 ≠ D := fun z => by subst z; rw [e3 _ _ hxs] at ht2; cases ht2
      have nrt : r ≠ t2 := fun z => by subst z; rw [upd_same] at ht2; cases ht2
      refine ⟨xs, e4 _ _ hxs, sz_lt (by omega), fun b o q => ?_, hD, xs ++ [.ref t2], upd_same, ?_⟩
      · rw [upd_ne (ne_of_none q hD)]
        exact e4 _ _ (e16 _ _ q)
      · have hq : es2[i]? = some (s1, List.replicate vo 0) := by rw [hes2, List.getElem?_map, hs1]; rfl
        rw [List.take_add_one, hq]
        refine paired_app (Paired.mapP hpx fun _ _ z => z.go fun b o nb q => by rw [upd_ne nb]; exact e4 _ _ q) (.cons ⟨t2, r, rfl, ?_, ?_, ntD, nrD⟩ .nil)
        · rw [upd_ne ntD]
          exact upd_same
        · rw [upd_ne nrD, upd_ne nrt]
          exact upd_same
    obtain ⟨e16, hD, xs, hxs, hpx⟩ := p
    rw [List.length_map, ← n1, List.length_map, List.take_length] at hpx
    intro O dO hO hdO hneO
    have e17 : Ex H' (upd (upd H' dO (.own O)) O (.ins (He.ga K "Steps") dO [])) := (Ex.new hdO).trans (Ex.new (by rw [upd_ne hneO.symm]; exact hO))
    have eok2 : EsOk vo es2 := by
      refine ⟨by rw [hes2, List.length_map, List.length_map]; omega, fun q hq => ?_, fun q hq => ?_, ?_⟩
      · rw [hes2] at hq
        obtain ⟨s, hs, rfl⟩ := List.mem_map.mp hq
        obtain ⟨q3, hq3, rfl⟩ := List.mem_map.mp hs
        exact (ok.nm q3 hq3).1
      · rw [hes2] at hq
        obtain ⟨s, hs, rfl⟩ := List.mem_map.mp hq
        exact ⟨List.length_replicate, fun y hy => by rw [(List.mem_replicate.mp hy).2]; exact Nat.two_pow_pos vo⟩
      · show (nms es2).Nodup
        rw [n1]
        exact ok.nd
    refine ⟨O, dO, D, vo, xs, es2, rfl, upd_same, .inl (e17 _ _ hxs), Paired.mapP hpx fun _ _ z => z.at.mono e17, hvo1, eok2, fun H18 x18 hO18 => ⟨rfl, ?_⟩⟩
    have e1418 : Ex H14 H18 := (e15.trans e16).trans fun b o q => x18 b o (ne_of_none q hO) (e17 _ _ q)
    have hO18 : StAt K H18 O vo (nms es) (rws es2) := by
      rw [← n1]
      exact hO18
    generalize rws es2 = rs2 at hO18
    -- the starts without a blur
    have hh18 := hh14.mono e1418
    have b1 := e1418 _ _ u1
    have cmpF : EvL (tLc (iRng1 (tCons (tOp (rI CPow fun i j => .int (i * 2 ^ j.toNat)) (tC (.int 1)) (tVar 3)) tNil)) (gName 9) (tTest (tOp (rI0 fun i j => .bl (decide (i < j))) (tCall (spBlur K) [] E0 (tCons (tOp (rIxA K) (tVar 2) (tC (.int 1))) (tCons (tOp (rIxA K) (tVar 2) (tC (.int 2))) (tCons (tCall (spSteps K) [] E0 (tCons (tOp (rIxA K) (tVar 2) (tC (.int 2))) (tCons (tVar 5) (tCons (tVar 9) tNil)))) tNil)))) (tC (.int 0)))) (tVar 9) [9])
        [some (.ref a), some (.ref h), some (.ref W), some (vn v), some (.ref N), some (.ref p), some (vn lot0), some (.ref t), some (.ref O), none, none, none, none, none, none, none, none, none, none, none, none, none] H18 (((List.range (2 ^ v)).filter (runSharp ms (rowOf (nms es) (rws es)) pg)).map vn) := by
      have q := el_lcR1 (ta := tCons (tOp (rI CPow fun i j => .int (i * 2 ^ j.toNat)) (tC (.int 1)) (tVar 3)) tNil) (t := tTest (tOp (rI0 fun i j => .bl (decide (i < j))) (tCall (spBlur K) [] E0 (tCons (tOp (rIxA K) (tVar 2) (tC (.int 1))) (tCons (tOp (rIxA K) (tVar 2) (tC (.int 2))) (tCons (tCall (spSteps K) [] E0 (tCons (tOp (rIxA K) (tVar 2) (tC (.int 2))) (tCons (tVar 5) (tCons (tVar 9) tNil)))) tNil)))) (tC (.int 0)))) (te := tVar 9)
        (σ := [some (.ref a), some (.ref h), some (.ref W), some (vn v), some (.ref N), some (.ref p), some (vn lot0), some (.ref t), some (.ref O), none, none, none, none, none, none, none, none, none, none, none, none, none]) (H := H18) (j := 9) (vs := [9]) (n := ((2 ^ v : Nat) : Int)) (runSharp ms (rowOf (nms es) (rws es)) pg) vn
        (ea_cons (ev_is (ev_shl (a := 1) ev_c (ev_var rfl) (by decide) (by omega)) (by rw [hshl])) ea_nil) (by omega) (fun x => rfl)
        (fun i H1 e1 hi => et_blur rfl rfl rfl (e1 _ _ b1) (u2.mono (e1418.trans e1)) ok.full.ne (u3.mono (e1418.trans e1)) (fun q hq => by have := (ok.row q hq).len; omega) (hp14.n (e1418.trans e1).n) gd (by omega)) (fun i H1 e1 hi _ => ev_var rfl)
      rw [Int.toNat_natCast] at q
      exact q
    refine q_asgL cmpF fun F H19 _ e19 hF19 => ?_
    have e1419 := e1418.trans e19
    have kp19 : Keep K H19 h c W N p t G S O F v ms es pg rs2 := ⟨hh14.mono e1419, hW14.mono e1419, e1419 _ _ hN14, hp14.n e1419.n, e1419 _ _ ht14, hG14.n e1419.n, hS14.n e1419.n, by rw [← hvo]; exact hO18.n e19.n, hF19⟩
    obtain ⟨nm0, hnm0⟩ : ∃ s, atI ((nms es).map V.str) 0 = some (.str s) := by
      cases hq : nms es with
      | nil => exact absurd hq hne
      | cons s l => exact ⟨s, at0 _ _⟩
    have nosuch : ("nosuch" : Str) ∉ nms es := fun z => by
      obtain ⟨q, hq, e⟩ := List.mem_map.mp z
      exact (ok.nm q hq).2 e
    refine q_forR1 (n := 6) (ea_cons ev_c ea_nil) (by omega) (fun i σ' H' => Keep K H' h c W N p t G S O F v ms es pg rs2 ∧ ∃ s9 s11 s12 s13 s14 s15 s16 s17 s18 s19, σ' = [some (.ref a), some (.ref h), some (.ref W), some (vn v), some (.ref N), some (.ref p), some (vn lot0), some (.ref t), some (.ref O), s9, some (.ref F), s11, s12, s13, s14, s15, s16, s17, s18, s19, none, none])
      (fun H1 e1 => ⟨kp19.mono e1, _, _, _, _, _, _, _, _, _, _, rfl⟩) (fun i σ' H' hi P => ?_) (fun σ' H' P => ?_)
    · obtain ⟨kp, s9, s11, s12, s13, s14, s15, s16, s17, s18, s19, rfl⟩ := P
      refine s_forR1 (n := 2) (ea_cons ev_c ea_nil) (by omega) (fun j σ' H' => Keep K H' h c W N p t G S O F v ms es pg rs2 ∧ ∃ s9 s12 s13 s14 s15 s16 s17 s18 s19, σ' = [some (.ref a), some (.ref h), some (.ref W), some (vn v), some (.ref N), some (.ref p), some (vn lot0), some (.ref t), some (.ref O), s9, some (.ref F), some (vn i), s12, s13, s14, s15, s16, s17, s18, s19, none, none])
        (fun H1 e1 => ⟨kp.mono e1, _, _, _, _, _, _, _, _, _, rfl⟩) (fun j σ' H' hj P => ?_) (fun σ' H' P => ?_)
      · obtain ⟨kp, s9, s12, s13, s14, s15, s16, s17, s18, s19, rfl⟩ := P
        have hi6 : i < 6 := by omega
        refine q_asgL (xs := [.bl false, .bl false, .bl false, .bl false]) (el_lst (ea_cons ev_c (ea_cons ev_c (ea_cons ev_c (ea_cons ev_c ea_nil)))) (by decide)) fun D13 H20 _ e20 hD13 => ?_
        have kp20 := kp.mono e20
        refine q_cut (M := fun σ' H' => Keep K H' h c W N p t G S O F v ms es pg rs2 ∧ ∃ (f0 f1 f2 f3 : Bool) (Fa : Addr), H' Fa = some (.lst [.bl f0, .bl f1, .bl f2, .bl f3]) ∧ σ' = [some (.ref a), some (.ref h), some (.ref W), some (vn v), some (.ref N), some (.ref p), some (vn lot0), some (.ref t), some (.ref O), s9, some (.ref F), some (vn i), some (vn j), some (.ref Fa), s14, s15, s16, s17, s18, s19, none, none]) ?_ fun σ' H' M => ?_
        · refine s_when (et_test (ev_eqN (a := j) (b := 0) (ev_var rfl) ev_c)) (fun _ H21 e21 => ?_) (fun _ H21 e21 => ⟨kp20.mono e21, false, false, false, false, D13, e21 _ _ hD13, rfl⟩)
          have kp21 := kp20.mono e21
          refine s_val (lst_te (cons_te (take_eq (m := 3) rfl (by decide) (by decide) kp21.hh fun H22 f0 x22 hh22 => cons_te (take_eq (m := 3) rfl (by decide) (by decide) hh22 fun H23 f1 x23 hh23 => cons_te (take_eq (m := 3) rfl (by decide) (by decide) hh23 fun H24 f2 x24 hh24 => cons_te (take_eq (m := 2) rfl (by decide) (by decide) hh24 fun H25 f3 x25 hh25 => ⟨by show 4 ≤ sizeLine; decide, fun L hL => ?_⟩))))))
          exact ⟨((((kp21.x x22 hh22).x x23 hh23).x x24 hh24).x x25 hh25).mono (Ex.new hL), f0, f1, f2, f3, L, upd_same, rfl⟩
        obtain ⟨kp21, f0, f1, f2, f3, Fa, hFa, rfl⟩ := M
        have fx : ∀ {H1 H2 : Hp}, H1 Fa = some (.lst [.bl f0, .bl f1, .bl f2, .bl f3]) → HandAt H1 h c → XO h H1 H2 → H2 Fa = some (.lst [.bl f0, .bl f1, .bl f2, .bl f3]) := fun q hh x => x.keep hh q fun _ _ _ _ z => by cases z
        refine q_cut (M := fun σ' H' => Keep K H' h c W N p t G S O F v ms es pg rs2 ∧ H' Fa = some (.lst [.bl f0, .bl f1, .bl f2, .bl f3]) ∧ ∃ (nd : Nd) (x : V), NdAt H' nd x ∧ (f1 = true → chk (nms es) nd 1 0 0 = none) ∧ (f1 = false → x = .ref p ∧ nd = ndOf pg) ∧ σ' = [some (.ref a), some (.ref h), some (.ref W), some (vn v), some (.ref N), some (.ref p), some (vn lot0), some (.ref t), some (.ref O), s9, some (.ref F), some (vn i), some (vn j), some (.ref Fa), some x, s15, s16, s17, s18, s19, none, none]) ?_ fun σ' H' M => ?_
        · refine s_val (if_te (c := f1) (et_bl (ev_ixL (ev_var rfl) (ev_c (v := .int 1)) hFa rfl)) (fun hf H22 e22 => ?_) (fun hf H22 e22 => ?_))
          · have kp22 := kp21.mono e22
            refine callA (ea_cons (ev_var rfl) (ea_cons (ev_ixL (ev_var rfl) (ev_c (v := .int 0)) kp22.nm hnm0) ea_nil)) fun H23 e23 => ⟨h, c, nm0, nms es, rfl, kp22.hh.mono e23, nosuch, fun H24 x nd x24 hh24 hN hc => ?_⟩
            exact ⟨(kp22.mono e23).x x24 hh24, fx ((e22.trans e23) _ _ hFa) (kp22.hh.mono e23) x24, nd, x, hN, fun _ => hc, (fun z => by rw [hf] at z; cases z), rfl⟩
          · exact (ev_var rfl) H22 (Ex.refl H22) _ fun H23 e23 => ⟨kp21.mono (e22.trans e23), (e22.trans e23) _ _ hFa, ndOf pg, .ref p, ndOf_at (kp21.mono (e22.trans e23)).pr, (fun z => by rw [hf] at z; cases z), fun _ => ⟨rfl, rfl⟩, rfl⟩
        obtain ⟨kp22, hFa, nd, x, hN, hc1, hc0, rfl⟩ := M
        refine q_cut (M := fun σ' H' => Keep K H' h c W N p t G S O F v ms es pg rs2 ∧ H' Fa = some (.lst [.bl f0, .bl f1, .bl f2, .bl f3]) ∧ NdAt H' nd x ∧ ∃ (y : V) (ty : String), Kd H' y ty ∧ (f2 = true → lotB v y = false) ∧ (f2 = false → ∃ l : Nat, l < 2 ^ v ∧ y = vn l) ∧ σ' = [some (.ref a), some (.ref h), some (.ref W), some (vn v), some (.ref N), some (.ref p), some (vn lot0), some (.ref t), some (.ref O), some y, some (.ref F), some (vn i), some (vn j), some (.ref Fa), some x, s15, s16, s17, s18, s19, none, none]) ?_ fun σ' H' M => ?_
        · refine s_val (if_te (c := f2) (et_bl (ev_ixL (ev_var rfl) (ev_c (v := .int 2)) hFa rfl)) (fun hf H23 e23 => ?_) (fun hf H23 e23 => ?_))
          · have kp23 := kp22.mono e23
            refine callA (ea_cons (ev_var rfl) (ea_cons (ev_var rfl) ea_nil)) fun H24 e24 => ⟨h, c, v, rfl, kp23.hh.mono e24, ok.vok, fun H25 y ty x25 hh25 hy hl => ?_⟩
            have kp24 := kp23.mono e24
            exact ⟨kp24.x x25 hh25, fx ((e23.trans e24) _ _ hFa) kp24.hh x25, NdAt.x x25 kp24.hh hh25 (hN.mono (e23.trans e24)), y, ty, hy, fun _ => hl, (fun z => by rw [hf] at z; cases z), rfl⟩
          · have kp23 := kp22.mono e23
            refine take_at (m := 2) rfl ev_c (by decide) (by decide) kp23.hh fun H24 b x24 hh24 _ => ⟨_, rfl, ?_⟩
            have kp24 := kp23.x x24 hh24
            have hFa24 := fx (e23 _ _ hFa) kp23.hh x24
            have hN24 := NdAt.x x24 kp23.hh hh24 (hN.mono e23)
            by_cases z : ((b : Int) != 0) = true
            · refine (if_pos z).mpr ?_
              exact (ev_var rfl) H24 (Ex.refl H24) _ fun H25 e25 => ⟨kp24.mono e25, e25 _ _ hFa24, hN24.mono e25, vn lot0, "int", .int _, (fun z => by rw [hf] at z; cases z), fun _ => ⟨lot0, hl0, rfl⟩, rfl⟩
            · refine (if_neg z).mpr ?_
              refine take_at (m := 2 ^ v) rfl (ev_is (ev_shl (a := 1) ev_c (ev_var rfl) (by decide) (by omega)) (by rw [hshl])) vp (by omega) hh24 fun H25 l x25 hh25 hl => ?_
              exact ⟨kp24.x x25 hh25, fx hFa24 hh24 x25, NdAt.x x25 hh24 hh25 hN24, vn l, "int", .int _, (fun z => by rw [hf] at z; cases z), fun _ => ⟨l, hl, rfl⟩, rfl⟩
        obtain ⟨kp23, hFa, hN, y, ty, hy, hy1, hy0, rfl⟩ := M
        refine q_cut (M := fun σ' H' => Keep K H' h c W N p t G S O F v ms es pg rs2 ∧ H' Fa = some (.lst [.bl f0, .bl f1, .bl f2, .bl f3]) ∧ NdAt H' nd x ∧ Kd H' y ty ∧ ∃ (z : V) (ty2 : String), Kd H' z ty2 ∧ (f3 = true → lotB v z = false) ∧ (f3 = false → ∃ l : Nat, l < 2 ^ v ∧ z = vn l) ∧ σ' = [some (.ref a), some (.ref h), some (.ref W), some (vn v), some (.ref N), some (.ref p), some (vn lot0), some (.ref t), some (.ref O), some y, some (.ref F), some (vn i), some (vn j), some (.ref Fa), some x, some z, s16, s17, s18, s19, none, none]) ?_ fun σ' H' M => ?_
        · refine s_val (if_te (c := f3) (et_bl (ev_ixL (ev_var rfl) (ev_c (v := .int 3)) hFa rfl)) (fun hf H24 e24 => ?_) (fun hf H24 e24 => ?_))
          · have kp24 := kp23.mono e24
            refine callA (ea_cons (ev_var rfl) (ea_cons (ev_var rfl) ea_nil)) fun H25 e25 => ⟨h, c, v, rfl, kp24.hh.mono e25, ok.vok, fun H26 z ty2 x26 hh26 hz hl => ?_⟩
            have kp25 := kp24.mono e25
            have e45 := e24.trans e25
            exact ⟨kp25.x x26 hh26, fx (e45 _ _ hFa) kp25.hh x26, NdAt.x x26 kp25.hh hh26 (hN.mono e45), Kd.x x26 kp25.hh hh26 (hy.mono e45), z, ty2, hz, fun _ => hl, (fun z => by rw [hf] at z; cases z), rfl⟩
          · have kp24 := kp23.mono e24
            refine take_at (m := 2 ^ v) rfl (ev_is (ev_shl (a := 1) ev_c (ev_var rfl) (by decide) (by omega)) (by rw [hshl])) vp (by omega) kp24.hh fun H25 l x25 hh25 hl => ?_
            exact ⟨kp24.x x25 hh25, fx (e24 _ _ hFa) kp24.hh x25, NdAt.x x25 kp24.hh hh25 (hN.mono e24), Kd.x x25 kp24.hh hh25 (hy.mono e24), vn l, "int", .int _, (fun z => by rw [hf] at z; cases z), fun _ => ⟨l, hl, rfl⟩, rfl⟩
        obtain ⟨kp24, hFa, hN, hy, z, ty2, hz2, hz1, hz0, rfl⟩ := M
        refine q_cut (M := fun σ' H' => Keep K H' h c W N p t G S O F v ms es pg rs2 ∧ H' Fa = some (.lst [.bl f0, .bl f1, .bl f2, .bl f3]) ∧ NdAt H' nd x ∧ Kd H' y ty ∧ Kd H' z ty2 ∧ ∃ (u S2 : Addr), H' u = some (.tup [.ref G, .ref S2]) ∧ ((f0 && !decide (i = 1)) = true → S2 = O) ∧ ((f0 && !decide (i = 1)) = false → S2 = S) ∧
            σ' = [some (.ref a), some (.ref h), some (.ref W), some (vn v), some (.ref N), some (.ref p), some (vn lot0), some (.ref t), some (.ref O), some y, some (.ref F), some (vn i), some (vn j), some (.ref Fa), some x, some z, some (.ref u), s17, s18, s19, none, none]) ?_ fun σ' H' M => ?_
        · refine s_val (if_te (c := f0 && !decide (i = 1)) (et_and (et_bl (ev_ixL (ev_var rfl) (ev_c (v := .int 0)) hFa rfl)) (fun _ => et_test (ev_neN (a := i) (b := 1) (ev_var rfl) ev_c))) (fun hf H25 e25 => ?_) (fun hf H25 e25 => ?_))
          · have kp25 := kp24.mono e25
            refine (eu_tup (vs := [.ref G, .ref O]) (ea_cons (ev_ixT (ev_var rfl) (ev_c (v := .int 0)) kp25.tp rfl) (ea_cons (ev_var rfl) ea_nil)) (by show 2 ≤ 100000; decide)) H25 (Ex.refl H25) _ fun u H26 _ e26 hu => ?_
            have e := e25.trans e26
            exact ⟨kp24.mono e, e _ _ hFa, hN.mono e, hy.mono e, hz2.mono e, u, O, hu, fun _ => rfl, (fun q => by rw [hf] at q; cases q), rfl⟩
          · refine (ev_var rfl) H25 (Ex.refl H25) _ fun H26 e26 => ?_
            have e := e25.trans e26
            exact ⟨kp24.mono e, e _ _ hFa, hN.mono e, hy.mono e, hz2.mono e, t, S, (kp24.mono e).tp, (fun q => by rw [hf] at q; cases q), fun _ => rfl, rfl⟩
        obtain ⟨kp25, hFa, hN, hy, hz2, u, S2, hu, hS1, hS0, rfl⟩ := M
        have gok := gd.ok
        have gnn : chk (nms es) (ndOf pg) 1 0 0 ≠ none := Option.isSome_iff_ne_none.mp gok
        have good : ∀ {l : Nat}, l < 2 ^ v → lotB v (vn l) = true := fun hl => by rw [lotB_nat, decide_eq_true hl]
        refine callA (ea_cons (ev_var rfl) (ea_cons (ev_var rfl) (ea_cons (ev_var rfl) (ea_cons (ev_var rfl) (ea_cons (ev_var rfl) ea_nil))))) fun H26 e26 => ?_
        have kp26 := kp25.mono e26
        refine sp_told (K := K) (fun ws a H3 => ws = dueL i f0 f1 f2 f3 ∧ (ws = [] → ∃ lot, lot < 2 ^ v ∧ (i ≤ 4 → y = vn lot) ∧ AnsOk H3 i v ms (rowOf (nms es) (rws es)) pg p lot z a)) (e26 _ _ hu) (fun ws ans H27 e27 R Rl L H28 e28 hR hL => ?_) (fun H1 Q' E' e1 kQ kU kP kL => ?_)
        · obtain ⟨hws, hans⟩ := R
          refine ⟨Rl, [.ref L, ans], rfl, sq_of hR, rfl, .ref L, [ans], rfl, ans, [], rfl, rfl, ?_⟩
          have e2528 := (e26.trans e27).trans e28
          have kp28 := kp25.mono e2528
          refine q_val (callA (ea_cons (ev_var rfl) (ea_cons (ev_var rfl) ea_nil)) fun H29 e29 => ⟨i, Fa, f0, f1, f2, f3, rfl, (e2528.trans e29) _ _ hFa, fun D H30 e30 _ hD => ?_⟩)
          have e2830 := e29.trans e30
          rw [← hws] at hD
          have lay : ∀ x ∈ ws, PyData.canLay0 (.str x) = true := fun x hx => due_lay x (by rw [← hws]; exact hx)
          have kp30 := kp28.mono e2830
          refine q_when (b := false) (et_is (et_test (ev_op (ev_var rfl) (ev_var rfl) (rv_neS lay lay (e2830 _ _ hL) hD))) (by simp)) (fun z => nomatch z) fun _ H31 e31 => ?_
          have kp31 := kp30.mono e31
          refine q_cut (M := fun σ' H' => Keep K H' h c W N p t G S O F v ms es pg rs2 ∧ H' D = some (.lst (ws.map V.str)) ∧ ∃ y2 : V, (ws = [] → ∃ lot, lot < 2 ^ v ∧ y2 = vn lot ∧ AnsOk H' i v ms (rowOf (nms es) (rws es)) pg p lot z ans) ∧
              σ' = [some (.ref a), some (.ref h), some (.ref W), some (vn v), some (.ref N), some (.ref p), some (vn lot0), some (.ref t), some (.ref O), some y2, some (.ref F), some (vn i), some (vn j), some (.ref Fa), some x, some z, some (.ref u), some (.ref L), some ans, some (.ref D), none, none]) ?_ fun σ' H' M => ?_
          · have e2831 := e2830.trans e31
            refine s_when (et_test (ev_eqN (a := i) (b := 5) (ev_var rfl) ev_c)) (fun hb H32 e32 => ?_) (fun hb H32 e32 => ?_)
            · have h5 := of_decide_eq_true hb
              refine s_asg (ev_var rfl) fun H33 e33 => ⟨kp31.mono (e32.trans e33), ((e31.trans e32).trans e33) _ _ hD, vn lot0, fun hw => ?_, rfl⟩
              obtain ⟨lot, _, _, an⟩ := hans hw
              exact ⟨lot0, hl0, rfl, (an.mono (e28.trans (e2831.trans (e32.trans e33)))).five (by omega)⟩
            · have h5 := of_decide_eq_false hb
              refine ⟨kp31.mono e32, (e31.trans e32) _ _ hD, y, fun hw => ?_, rfl⟩
              obtain ⟨lot, hl, hy5, an⟩ := hans hw
              exact ⟨lot, hl, hy5 (by omega), an.mono (e28.trans (e2831.trans e32))⟩
          · obtain ⟨kp33, hD33, y2, hy2, rfl⟩ := M
            refine s_when (b := false) (et_is (et_and (a := decide (ws = [])) (b := false) (et_test (ev_opL (ev_var rfl) (el_lst (vs := []) ea_nil (by decide)) fun q H1 hq e1 => rv_eqS (ys := []) lay (fun _ z => nomatch z) (e1 _ _ hD33) hq)) (fun hw => ?_)) (Bool.and_false _)) (fun z => nomatch z) fun _ H34 e34 => ⟨kp33.mono e34, _, _, _, _, _, _, _, _, _, rfl⟩
            obtain ⟨lot, hl, rfl, an⟩ := hy2 (of_decide_eq_true hw)
            exact et_not (a := true) (et_B (ev_f (ea_cons (ev_var rfl) (ea_cons (ev_var rfl) (ea_cons (ev_var rfl) (ea_cons (ev_var rfl) (ea_cons (ev_var rfl) (ea_cons (ev_var rfl) (ea_cons (ev_var rfl) ea_nil)))))))
              (fun H1 e1 Q q E => ⟨i, W, p, F, v, ms, es, pg, lot, z, ans, rfl, kp33.wo.mono e1, ok, kp33.pr.n e1.n, gd.ht, gd.wt, gd.fit, hl, kp33.fr.mono e1, an.mono e1, q⟩)))
        · have kp1 := kp26.mono e1
          have hN1 := hN.mono (e26.trans e1)
          have hy1' := hy.mono (e26.trans e1)
          have hz1' := hz2.mono (e26.trans e1)
          by_cases hf : (f0 && !decide (i = 1)) = true
          · obtain rfl := hS1 hf
            refine asked_of kp1.gl kp1.ot hN1 hy1' hz1' (by rw [← hvo]; exact hvo1) (fun _ => ⟨fun q => ?_, fun H2 e2 => kU H2 e2 ⟨(due_u hf).symm, fun q => nomatch q⟩⟩) (fun q => absurd q (by omega)) (fun q => absurd q (by omega)) (fun q => absurd q (by omega)) (fun q => absurd q (by omega))
            rw [decide_eq_true q] at hf
            cases f0 <;> cases hf
          · have hf0 : (f0 && !decide (i = 1)) = false := by simpa using hf
            obtain rfl := hS0 hf0
            have nf1 : (chk (nms es) nd 1 0 0).isSome = true → f1 = false := fun q => by
              cases q1 : f1 with
              | false => rfl
              | true => rw [hc1 q1] at q; cases q
            refine asked_of kp1.gl kp1.st hN1 hy1' hz1' ok.vok (fun q => absurd rfl q) (fun _ hc d H2 s e2 hd => kP d H2 _ e2 hd ⟨(due_p hf0 ?_).symm, fun q => nomatch q⟩) (fun _ h4 hc hl H2 e2 => kL H2 e2 ⟨(due_l hf0 (nf1 hc) ?_).symm, fun q => nomatch q⟩)
              (fun _ h2 hc hl hl2 H2 e2 => kL H2 e2 ⟨(due_l hf0 (nf1 hc) ?_).symm, fun q => nomatch q⟩) (fun _ hc hl hl2 => ?_)
            · cases q1 : f1 with
              | true => rfl
              | false =>
                obtain ⟨_, rfl⟩ := hc0 q1
                exact absurd hc gnn
            · cases q2 : f2 with
              | true => rw [decide_eq_false (by omega : ¬ i = 5)]; rfl
              | false =>
                obtain ⟨l, l1, rfl⟩ := hy0 q2
                rw [good l1] at hl
                cases hl
            · cases q3 : f3 with
              | true => rw [decide_eq_true h2, Bool.and_self, Bool.or_true]
              | false =>
                obtain ⟨l, l1, rfl⟩ := hz0 q3
                rw [good l1] at hl2
                cases hl2
            · have h1 := nf1 hc
              obtain ⟨rfl, rfl⟩ := hc0 h1
              have nf2 : i ≤ 4 → f2 = false := fun h4 => by
                cases q2 : f2 with
                | false => rfl
                | true => have := hl h4; rw [hy1 q2] at this; cases this
              have nf3 : i = 2 → f3 = false := fun h2 => by
                cases q3 : f3 with
                | false => rfl
                | true => have := hl2 h2; rw [hz1 q3] at this; cases this
              have d0 : ((f2 && !decide (i = 5)) || (f3 && decide (i = 2))) = false := by
                rw [Bool.or_eq_false_iff]
                constructor
                · by_cases q5 : i = 5
                  · rw [decide_eq_true q5, Bool.not_true, Bool.and_false]
                  · rw [nf2 (by omega), Bool.false_and]
                · by_cases q2 : i = 2
                  · rw [nf3 q2, Bool.false_and]
                  · rw [decide_eq_false q2, Bool.and_false]
              have lt4 : ∃ lot, lot < 2 ^ v ∧ (i ≤ 4 → y = vn lot) := by
                by_cases h4 : i ≤ 4
                · obtain ⟨l, l1, l2⟩ := hy0 (nf2 h4)
                  exact ⟨l, l1, fun _ => l2⟩
                · exact ⟨lot0, hl0, fun q => absurd q h4⟩
              obtain ⟨lot, l1, l2⟩ := lt4
              refine ⟨p, pg, lot, ⟨rfl, kp1.pr, ok.full.ok, gd⟩, l1, l2, fun q2 => ?_, fun ans H2 e2 an => kQ ans H2 e2 ⟨(due_0 hf0 h1 d0).symm, fun _ => ⟨lot, l1, l2, an⟩⟩⟩
              exact hz0 (nf3 q2)
      · obtain ⟨kp, s9, s12, s13, s14, s15, s16, s17, s18, s19, rfl⟩ := P
        exact ⟨kp, _, _, _, _, _, _, _, _, _, _, rfl⟩
    · exact s_ret ev_c fun H1 _ => k H1
end
end TA
end
/-! TaL24 -/
section
set_option Elab.async false
set_option linter.all false
set_option autoImplicit false
set_option maxRecDepth 100000
set_option maxHeartbeats 4000000
namespace TA
open PySem PySem.Spec PyProof.Rows L2 Evl TAG
section
variable {P : Program} {w : World} {K : PySem.W.Frag} {mg : Str → Option Value} {base : Heap}
/-! ### the generator of the steps met -/
def spTrueRun (K : PySem.W.Frag) : SpL := fun vs H R => ∃ (S p : Addr) (v : Nat) (ns : List Str) (rs : List (List Nat)) (pg : Pg) (lot : Nat), vs = [.ref S, .ref p, vn lot] ∧ StAt K H S v ns rs ∧ PrAt H pg p ∧ Goods v ns rs pg ∧ lot < 2 ^ v ∧
  ∀ H2 M new, Ex H H2 → H2 M = some (.lst new) → Paired (MetAt K H2) new (runN (rowOf ns rs) pg lot).2 → R new M H2
theorem gsc_true_run : L2.GScope N_true_run P_true_run (defScope s_true_run) := ⟨rfl, rfl, rfl, by decide +kernel, rfl, by decide +kernel, by decide +kernel⟩
structure Gok (P : Program) (w : World) (K : PySem.W.Frag) (mg : Str → Option Value) (base : Heap) (k : Nat) (f : Addr) (ps : List Str) (sp : SpL) : Prop where
  ex : ∃ fd : FuncData, GnOk P w K mg base k f fd ps sp ∧ Binds K fd ps []
theorem ok_true_run (T : Txt w K mg) : Gok P w K mg base 26 (a_true_run K) P_true_run (spTrueRun K) := by
  have F_check_program := ok_check_program (P := P) (base := base) T
  have F_check_lot := ok_check_lot (P := P) (base := base) T
  have F_put_met := ok_put_met (P := P) (base := base) T 8
  obtain ⟨fd, F⟩ := T.f_true_run
  have b : Binds K fd P_true_run [] := F.bindsN (fun _ _ _ _ _ _ us hl => match us, hl with | [_, _, _], _ => rfl)
  obtain ⟨oc, od, dV, kV, doc, pm, an, cdv, ct, osl, rfl, lk, hcd, _, _⟩ := F.ex
  refine ⟨_, ?_, b⟩
  refine gn_of (N := N_true_run) (pre := (defBody s_true_run).take 4) (jm := 3) (k := 24) lk hcd gsc_true_run (fun vs H R h => ?_) rfl rfl (fun A outer s H pn => pv 3) (fun _ _ => rfl) (fun A outer s H vs R pn hr h => ?_)
  · obtain ⟨S, p, v, ns, rs, pg, lot, rfl, _⟩ := h
    rfl
  · obtain ⟨S, p, v, ns, rs, pg, lot, rfl, hS, hp, hg, hl, k⟩ := h
    refine ⟨_, (pss_cons (ps_expr (pe_f F_check_program T.c_check_program (hr.mono (by omega)) passL (pa_cons (pv 0) (pa_cons (pv 1) pa_nil))))
      (pss_cons (ps_expr (pe_f F_check_lot T.c_check_lot (hr.mono (by omega)) passL (pa_cons (pe_fld (pv 0) rfl) (pa_cons (pv 2) pa_nil))))
      (pss_cons (ps_set (i := 3) gsc_true_run.nd rfl (Or.inl rfl) (pe_lst pa_nil))
      (pss_one (ps_expr (pe_f F_put_met T.c_put_met (hr.mono (by omega)) passL (pa_cons (pv 0) (pa_cons (pv 1) (pa_cons (pv 2) (pa_cons (pe_tup pa_nil) (pa_cons (pv 3) pa_nil)))))))))) ), ?_⟩
    refine q_program rfl rfl hS (ndOf_at hp) (fun z => absurd z (Option.isSome_iff_ne_none.mp hg.ok)) fun _ H1 e1 => ?_
    refine q_lot T rfl rfl (hS.n e1.n) hg.fit.vok (.int _) (fun z => by rw [lotB_nat, decide_eq_true hl] at z; cases z) fun _ H2 e2 => ?_
    have e12 := e1.trans e2
    have hw := hg.wt
    refine ⟨Nat.zero_le _, fun M hM => ?_⟩
    have e3 := e12.trans (Ex.new (o := .lst []) hM)
    refine ⟨_, rfl, _, rfl, _, rfl, Nat.zero_le _, fun pa hpa => ?_⟩
    have e4 := e3.trans (Ex.new (o := .tup []) hpa)
    refine ⟨_, rfl, S, p, pa, M, v, ns, rs, pg, lot, [], [], rfl, hS.n e4.n, hp.n e4.n, hg.ht, hg.fit, hl, upd_same, by simp, (Ex.new hpa) _ _ upd_same, by simp; omega, fun H5 new x5 hM5 hpr => ?_⟩
    exact ⟨M, new, rfl, hM5, k H5 M new (fun b o q => x5 b o (ne_of_none q (fresh_back e12 hM)) (e4 b o q)) hM5 hpr⟩
theorem q_forG {σ : L2.St} {H : Hp} {D : Ends} {sp : SpL} {t : TA} {g : TG} {tb tz : TS} {vs : List V} (h : EvA t σ H vs) (k : ∀ H1, Ex H H1 → sp vs H1 fun ms m H2 => ms.length ≤ 100000 ∧ ∃ W : Nat → L2.St → Hp → Prop, W 0 σ H2 ∧ (∀ i σ' H', i ≤ ms.length → W i σ' H' → H' m = some (.lst ms)) ∧
  (∀ i x σ' H', ms[i]? = some x → W i σ' H' → g x σ' H' fun σ2 H3 => tb { D with nx := W (i + 1), ct := W (i + 1), bk := tz D } σ2 H3) ∧ ∀ σ' H', W ms.length σ' H' → tz D σ' H') : tSeq (tForG sp t g tb) tz D σ H := h H (Ex.refl H) _ k
theorem ok_runs_sharp (T : Txt w K mg) : Fok P w K mg base 40 (a_runs_sharp K) P_runs_sharp (spRunsSharp K) := by
  have F_sharp_at := ok_sharp_at (P := P) (base := base) T
  have F_Steps_row_of := ok_row_of (P := P) (base := base) T
  obtain ⟨fdt, Ft, bt⟩ := (ok_true_run (P := P) (base := base) T).ex
  refine Fok.mono (j := 29) ?_ (by decide)
  refine fok T.f_runs_sharp sc_runs_sharp (fun _ _ _ _ _ _ us hl => match us, hl with | [_, _, _, _], _ => rfl) (fun vs H Q E h => ?_) (fun cdv A outer s H vs Q E hr h => ?_)
  · obtain ⟨G, S, p, v, ms, ns, rs, pg, lot, rfl, _⟩ := h
    rfl
  · obtain ⟨G, S, p, v, ms, ns, rs, pg, lot, rfl, hG, hS, hp, hm, hg, hl, k⟩ := h
    refine ⟨_, (pss_cons (ps_forG Ft (hr.mono (by omega)) bt T.g_true_run T.c_true_run.kp (pa_cons (pv 1) (pa_cons (pv 2) (pa_cons (pv 3) pa_nil))) (pg_name (i := 4) sc_runs_sharp.nd rfl (Or.inl rfl)) (pss_one (ps_if (pt_not (pt_val (pe_f F_sharp_at T.c_sharp_at (hr.mono (by omega)) passL (pa_cons (pv 0) (pa_cons (pe_m F_Steps_row_of (pv 1) T.k_Steps T.me_Steps_row_of (hr.mono (by omega)) passL (pa_cons (pe_fld (pv 4) rfl) pa_nil)) (pa_cons (pe_fld (pv 4) rfl) pa_nil)))))) (pss_one (ps_ret pe_bl)) pss_nil)))
      (pss_one (ps_ret pe_bl))), ?_⟩
    obtain ⟨dx, a, b, ras, hS1, hS2, hS3, hS4, hS5⟩ := id hS
    refine q_forG (ea_cons (ev_var rfl) (ea_cons (ev_var rfl) (ea_cons (ev_var rfl) ea_nil))) fun H1 e1 => ?_
    refine ⟨S, p, v, ns, rs, pg, lot, rfl, hS.n e1.n, hp.n e1.n, hg, hl, fun H2 M new e2 hM hpr => ?_⟩
    have e02 := e1.trans e2
    have hlen := Paired.length hpr
    have hwt := runN_wt (row := rowOf ns rs) pg lot
    have hw := hg.wt
    have huse : ∀ q ∈ (runN (rowOf ns rs) pg lot).2, q.1 ∈ ns := fun q hq => hg.fit.use _ (runN_uses pg lot q hq)
    have hlt : ∀ q ∈ (runN (rowOf ns rs) pg lot).2, q.2 < 2 ^ v := runN_mem hg.fit.lt pg lot hl
    have hsh : runSharp ms (rowOf ns rs) pg lot = (runN (rowOf ns rs) pg lot).2.all fun q => sharpB ms (rowOf ns rs q.1) q.2 := rfl
    rw [hsh] at k
    generalize (runN (rowOf ns rs) pg lot).2 = tr at hpr hlen hwt huse hlt k
    refine ⟨by omega, fun i σ' H' => Ex H2 H' ∧ ((tr.take i).all fun q => sharpB ms (rowOf ns rs q.1) q.2) = true ∧ ∃ s4, σ' = [some (.ref G), some (.ref S), some (.ref p), some (vn lot), s4], ⟨Ex.refl H2, by rw [List.take_zero]; rfl, none, rfl⟩, fun i σ' H' _ w => w.1 _ _ hM, fun i x σ' H' hx w => ?_, fun σ' H' w => ?_⟩
    · obtain ⟨e3, hall, s4, rfl⟩ := w
      obtain ⟨q, hq, a4, dx4, fs, rfl, hins, hnm, hlo⟩ := paired_get hpr hx
      have e03 := e02.trans e3
      have hmem := List.mem_of_getElem? hq
      have hra := rowAd_at hS4 hS5 (huse q hmem)
      have hl2 : ns.length = ras.length := hS5.trans (Paired.length hS4).symm
      have hins' := e3 _ _ hins
      refine s_when (b := !sharpB ms (rowOf ns rs q.1) q.2) (et_not (et_B (ev_f (ea_cons (ev_var rfl) (ea_cons (ev_m (ev_var rfl) (e03 _ _ hS1) rfl (ea_cons (ev_fld (ev_var rfl) hins' T.k_Met T.n_Met_name hnm) ea_nil) (sv_row_of (e03 _ _ hS1) (e03 _ _ hS2) (e03 _ _ hS3) hl2 (huse q hmem))) (ea_cons (ev_fld (ev_var rfl) hins' T.k_Met T.n_Met_lot hlo) ea_nil)))
        (sv_sharp_at (hG.n e03.n) (hra.1.n e03.n) hg.fit.vok hm (hg.fit.rows _ hra.2) (hlt q hmem))))) (fun hb H4 e4 => ?_) (fun hb H4 e4 => ?_)
      · refine s_ret ev_c fun H5 e5 => ?_
        have hf : (tr.all fun q => sharpB ms (rowOf ns rs q.1) q.2) = false := List.all_eq_false.mpr ⟨q, hmem, by simpa using hb⟩
        rw [hf] at k
        exact k H5 ((e03.trans e4).trans e5)
      · refine ⟨e3.trans e4, ?_, some (.ref a4), rfl⟩
        rw [List.take_add_one, hq, List.all_append, hall]
        show (true && (sharpB ms (rowOf ns rs q.1) q.2 && true)) = true
        rw [Bool.true_and, Bool.and_true]
        simpa using hb
    · obtain ⟨e3, hall, s4, rfl⟩ := w
      rw [hlen, List.take_length] at hall
      rw [hall] at k
      exact s_ret ev_c fun H4 e4 => k H4 ((e02.trans e3).trans e4)
end
end TA
end
/-! TaEnd2 -/
section
set_option Elab.async false
set_option linter.all false
set_option maxRecDepth 100000
set_option maxHeartbeats 0
namespace TA
open PySem PySem.Spec PyProof.Rows L2
/-- an exception that leaves, whatever the world -/
def CXW (P : Program) : CXT := fun outer H s E u s' => ∃ w : World, L2.CX P w outer H s E u s'
theorem fn_cxw {P : Program} {w : World} {K : PySem.W.Frag} {mg : Str → Option Value} {base : Heap} {k : Nat} {f : Addr} {fd : FuncData} {ps : List Str} {sp : Sp} (F : FnOk P w K mg base (L2.CX P w) k f fd ps sp) : FnOk P w K mg base (CXW P) k f fd ps sp :=
  ⟨F.len, fun A outer s H args us vs Q E hr he hb hv hs => codeAny_mono (F.run A outer s H args us vs Q E hr he hb hv hs) fun r s' h => by
    cases r with
    | error e => exact ⟨w, h⟩
    | ok fl => cases fl <;> exact h⟩
theorem facts {P : Program} {w : World} {K : PySem.W.Frag} {h : Heap} {mg : Str → Option Value} {f : Addr} (X : K.In h) (G : h.Ns mainGlobals mg) (hfa : mg ("law" : Str) = some (.ref f)) (c : He.SaysT fa fn tabs w K) (cm : more K = true) :
    ∃ fd : FuncData, (∀ (s : Shared) (v : Value), BindsTo s fd ⟨[v], []⟩ [("_law_script", v)]) ∧ ∀ base : Heap, FnOk P w K mg base (CXW P) 100 f fd ["_law_script"] (spLaw K) := by
  have T : Txt w K mg := ⟨c, cm, h, X, G⟩
  obtain ⟨fd, FL⟩ := T.f_law
  have e : f = a_law K := by
    have q := T.g_law
    rw [hfa] at q
    exact Value.ref.inj (Option.some.inj q)
  subst e
  exact ⟨fd, fun s v => FL.bindsA (ps := P_law) (fun _ _ _ _ _ _ us hl => match us, hl with | [_], _ => rfl) s [v] rfl, fun base => fn_cxw ((ok_law (base := base) T (ok_runs_sharp T) FL).mono (by decide))⟩
end TA
open PySem PySem.W PySem.Calls PyProof.Rows
theorem PySem.Challenge.cw_truealarms_k84_whole_line_finders_refuse_holds : PySem.Challenge.rw_truealarms_k84_whole_line_finders_refuse.Holds := by
  w_on; o_law
  refine HandSHeadRun.head_any (r := TA.R) (q := view TA.R.prog [100]) (H := TA.hookM) (ob := TA.obs) (M := 8000) (loose := TA.loose) (d := HandSHeadRun.topDef TA.R.prog 100) (kwd := []) TA.obs_eq
    (by kernel_rfl) (fun s => by kernel_rfl) TA.run (by kernel_rfl) (by kernel_rfl) (by kernel_rfl) (by rfl) (by first | assumption | decide +kernel) (by decide +kernel) ⟨rfl, rfl, rfl, rfl, rfl, by decide +kernel⟩ ?hw ?hc
  case hw => w_witness2
  case hc =>
    refine L2.walk_ofE (l := PySem.Challenge.rw_truealarms_k84_whole_line_finders_refuse) (n := 63) (k := 100) (x := "_law_script") (CX := TA.CXW PySem.Challenge.rw_truealarms_k84_whole_line_finders_refuse.prog) rfl (by decide) (by kernel_rfl) ⟨rfl, by decide, by decide⟩ ?F (fun H s e s' z => ?G)
    case G =>
      obtain ⟨w, z⟩ := z
      obtain ⟨_, _, _, _, _, _, _, _, _, _, _, _, q⟩ := z
      exact q
    case F =>
      intro w mg fa h Y G hmg0
      obtain ⟨K, KX, c, cm⟩ := Y
      have hmg : mg ("law" : PySem.Str) = some (.ref fa) := by
        have e : (HandSHeadRun.topDef TA.R.prog 100).name = ("law" : PySem.Str) := by kernel_rfl
        rw [← e]
        exact hmg0
      obtain ⟨fd, hb, hF⟩ := TA.facts KX G hmg c cm
      exact ⟨K, fd, TA.spLaw K, KX, hb, fun H a ns hl hO hS => ⟨a, ns, rfl, hS, hl, hO, fun _ => rfl⟩, fun base _ _ => hF base⟩
end
