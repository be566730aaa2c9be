import PyProof.Rows.All
import Wide.All
import OpenK.AllK
import Wide.FinOn
import KE.KStateDown
import Lean
import HandS.ForMost
import HandS.ForExc
import HandS.Defaults
import HandS.Head0
import HandS.Head1
import HandS.Head2
import HandS.HeadEnd
import HandS.HeadHook1
import HandS.HeadHook2
import HandS.Wide
import HandS.WideMore
import HandS.WideBits
import HandS.EndBits
import HandS.IsInst
import HandS.Flow
import HandS.Style
import HandS.Conv
import HandS.SetFor
import HandS.Strs
import HandS.SortInts
import HandS.SortRule
import HandS.TupLe
import HandS.DictTup
import HandS.Zip
import HandS.ClsMeth
import HandS.ListEq
import HandS.DeepEq
import HandS.Walk
import HandS.Deep
import KE.KSortTupG
import PySem.Challenge.RW_dueyard_k42_whole_settled
set_option Elab.async false
set_option linter.all false
set_option maxRecDepth 100000
set_option maxHeartbeats 4000000
namespace Due
open PySem PySem.Spec PyProof.Rows L2
/-! ### the text by places -/
def topS (i : Nat) : Stmt := PySem.Challenge.pw_dueyard_k42_whole_settled.main.body.getD i (.Pass ⟨0, 0, 0, 0⟩)
abbrev s_is_whole : Stmt := topS 12
abbrev s_is_span : Stmt := topS 13
abbrev s_merged : Stmt := topS 14
abbrev s_tidy : Stmt := topS 15
abbrev s_turn_count_in : Stmt := topS 16
abbrev s_is_name : Stmt := topS 25
abbrev s_is_within : Stmt := topS 26
abbrev s_has_numbers : Stmt := topS 27
abbrev s_check_load : Stmt := topS 28
abbrev s_turns_of : Stmt := topS 29
abbrev s_within : Stmt := topS 30
abbrev s_outside : Stmt := topS 31
abbrev s_excess : Stmt := topS 32
abbrev s_marks_of : Stmt := topS 34
abbrev s_is_wanted : Stmt := topS 35
abbrev s_cells : Stmt := topS 36
abbrev s_cells_within : Stmt := topS 37
abbrev s_Flow_init : Stmt := inClass (topS 39) 0
abbrev s_Flow_most : Stmt := inClass (topS 39) 1
abbrev s_Flow_search : Stmt := inClass (topS 39) 2
abbrev s_Flow_holders : Stmt := inClass (topS 39) 3
abbrev s_Flow_narrowest : Stmt := inClass (topS 39) 4
abbrev s_Flow_push : Stmt := inClass (topS 39) 5
abbrev s_Flow_share : Stmt := inClass (topS 39) 6
abbrev s_Flow_lacking : Stmt := inClass (topS 39) 10
abbrev s_Flow_cut : Stmt := inClass (topS 39) 11
abbrev s_cell_rows : Stmt := topS 41
abbrev s_laid : Stmt := topS 42
abbrev s_job_named : Stmt := topS 44
abbrev s_Walk_init : Stmt := inClass (topS 45) 0
abbrev s_Walk_word_for : Stmt := inClass (topS 45) 1
abbrev s_Walk_go_past : Stmt := inClass (topS 45) 2
abbrev s_faults : Stmt := topS 46
abbrev s_undone : Stmt := topS 47
abbrev s_overflow : Stmt := topS 49
abbrev s_crowded : Stmt := topS 50
abbrev s_Verdict_init : Stmt := inClass (topS 51) 0
abbrev s_Verdict_kept : Stmt := inClass (topS 51) 1
abbrev s_Verdict_word : Stmt := inClass (topS 51) 2
abbrev s_Verdict_told : Stmt := inClass (topS 51) 3
abbrev s_Verdict_holds : Stmt := inClass (topS 51) 4
abbrev s_Verdict_left_by_plan : Stmt := inClass (topS 51) 5
abbrev s_Kept_kept : Stmt := inClass (topS 52) 0
abbrev s_Kept_word : Stmt := inClass (topS 52) 1
abbrev s_Kept_holds : Stmt := inClass (topS 52) 2
abbrev s_Full_init : Stmt := inClass (topS 53) 0
abbrev s_Full_word : Stmt := inClass (topS 53) 1
abbrev s_Full_told : Stmt := inClass (topS 53) 2
abbrev s_Full_holds : Stmt := inClass (topS 53) 3
abbrev s_settled : Stmt := topS 54
abbrev s_is_number : Stmt := topS 59
abbrev s_is_row : Stmt := topS 60
abbrev s_tidied : Stmt := topS 61
abbrev s_Calendar_init : Stmt := inClass (topS 62) 0
abbrev s_Calendar_keep : Stmt := inClass (topS 62) 1
abbrev s_Calendar_pieces : Stmt := inClass (topS 62) 5
abbrev s_Calendar_at : Stmt := inClass (topS 62) 6
abbrev s_Calendar_over : Stmt := inClass (topS 62) 7
abbrev s_Calendar_over_spans : Stmt := inClass (topS 62) 8
abbrev s_Calendar_changes : Stmt := inClass (topS 62) 9
abbrev s_law_cell_at : Stmt := topS 65
abbrev s_law_whole : Stmt := topS 66
abbrev s_law_mixed : Stmt := topS 67
abbrev s_law_names : Stmt := topS 68
abbrev s_law_rows : Stmt := topS 69
abbrev s_law_load : Stmt := topS 70
abbrev s_law_over : Stmt := topS 71
abbrev s_law_inside : Stmt := topS 72
abbrev s_law_excess : Stmt := topS 73
abbrev s_law_overflow : Stmt := topS 74
abbrev s_law_row_right : Stmt := topS 75
abbrev s_law_undone : Stmt := topS 76
abbrev s_law_formed : Stmt := topS 77
abbrev s_law_full_right : Stmt := topS 78
abbrev s_law_copied : Stmt := topS 79
abbrev s_law : Stmt := topS 80
abbrev s_Kept_init : Stmt := inClass (topS 51) 0
abbrev s_Kept_told : Stmt := inClass (topS 51) 3
abbrev s_Kept_left_by_plan : Stmt := inClass (topS 51) 5
abbrev s_Full_kept : Stmt := inClass (topS 51) 1
abbrev s_Full_left_by_plan : Stmt := inClass (topS 51) 5
def isBu (o : Option (Option Value)) (n : String) : Bool := match o with
  | some (some (.builtin m)) => decide (m = n)
  | _ => false
def isVf (o : Option PySem.W.CFound) (g : Addr) : Bool := match o with
  | some (.val (.ref a)) => decide (a = g)
  | _ => false
def ownB (K : PySem.W.Frag) (C : Addr) : Bool := isBu (PySem.W.findIn K (.ref C) "__class__") "object.__class__" && decide (PySem.W.mroIn K C (.type "object") = some true)
def isaB (K : PySem.W.Frag) (C D : Addr) (b : Bool) : Bool := decide (PySem.W.kitOne K (.ref C) (.ref D) = some b)
def exB (K : PySem.W.Frag) : Bool := (PySem.W.readsIn K (He.ga K "Verdict") (.type "type") && (isBu (PySem.W.specialIn K (.ref (He.ga K "Verdict")) "__getattribute__") "type.__getattribute__" && isVf (PySem.W.findCls K (.ref (He.ga K "Verdict")) (.type "type") "__init__") (He.ma K (He.ga K "Verdict") "__init__")))
  && ((ownB K (He.ga K "Kept") && ownB K (He.ga K "Full")) && ((isBu (PySem.W.specialIn K (.builtin "object.__class__") "__get__") "getset_descriptor.__get__" && decide (PySem.W.takesIn K (.builtin "object.__class__") = some true))
  && ((isaB K (He.ga K "Kept") (He.ga K "Verdict") true && isaB K (He.ga K "Full") (He.ga K "Verdict") true) && ((isaB K (He.ga K "Kept") (He.ga K "Kept") true && isaB K (He.ga K "Full") (He.ga K "Kept") false) && (isaB K (He.ga K "Kept") (He.ga K "Full") false && isaB K (He.ga K "Full") (He.ga K "Full") true)))))
/-- what the walk asks of the text as the top has left it -/
structure Tx (K : PySem.W.Frag) (mg : Str → Option Value) : Prop where
  F_is_whole : ∃ fd, FunD K "is_whole" "is_whole" (defArgs s_is_whole) (defBody s_is_whole) (defScope s_is_whole) [] [] (He.fAd K ("is_whole", none)) fd
  g_is_whole : mg "is_whole" = some (.ref (He.ga K "is_whole"))
  F_is_span : ∃ fd, FunD K "is_span" "is_span" (defArgs s_is_span) (defBody s_is_span) (defScope s_is_span) [] [] (He.fAd K ("is_span", none)) fd
  g_is_span : mg "is_span" = some (.ref (He.ga K "is_span"))
  F_merged : ∃ fd, FunD K "merged" "merged" (defArgs s_merged) (defBody s_merged) (defScope s_merged) [] [] (He.fAd K ("merged", none)) fd
  g_merged : mg "merged" = some (.ref (He.ga K "merged"))
  F_tidy : ∃ fd, FunD K "tidy" "tidy" (defArgs s_tidy) (defBody s_tidy) (defScope s_tidy) [] [] (He.fAd K ("tidy", none)) fd
  g_tidy : mg "tidy" = some (.ref (He.ga K "tidy"))
  F_turn_count_in : ∃ fd, FunD K "turn_count_in" "turn_count_in" (defArgs s_turn_count_in) (defBody s_turn_count_in) (defScope s_turn_count_in) [] [] (He.fAd K ("turn_count_in", none)) fd
  g_turn_count_in : mg "turn_count_in" = some (.ref (He.ga K "turn_count_in"))
  F_is_name : ∃ fd, FunD K "is_name" "is_name" (defArgs s_is_name) (defBody s_is_name) (defScope s_is_name) [] [] (He.fAd K ("is_name", none)) fd
  g_is_name : mg "is_name" = some (.ref (He.ga K "is_name"))
  F_is_within : ∃ fd, FunD K "is_within" "is_within" (defArgs s_is_within) (defBody s_is_within) (defScope s_is_within) [] [] (He.fAd K ("is_within", none)) fd
  g_is_within : mg "is_within" = some (.ref (He.ga K "is_within"))
  F_has_numbers : ∃ fd, FunD K "has_numbers" "has_numbers" (defArgs s_has_numbers) (defBody s_has_numbers) (defScope s_has_numbers) [] [] (He.fAd K ("has_numbers", none)) fd
  g_has_numbers : mg "has_numbers" = some (.ref (He.ga K "has_numbers"))
  F_check_load : ∃ fd, FunD K "check_load" "check_load" (defArgs s_check_load) (defBody s_check_load) (defScope s_check_load) [] [] (He.fAd K ("check_load", none)) fd
  g_check_load : mg "check_load" = some (.ref (He.ga K "check_load"))
  F_turns_of : ∃ fd, FunD K "turns_of" "turns_of" (defArgs s_turns_of) (defBody s_turns_of) (defScope s_turns_of) [] [] (He.fAd K ("turns_of", none)) fd
  g_turns_of : mg "turns_of" = some (.ref (He.ga K "turns_of"))
  F_within : ∃ fd, FunD K "within" "within" (defArgs s_within) (defBody s_within) (defScope s_within) [] [] (He.fAd K ("within", none)) fd
  g_within : mg "within" = some (.ref (He.ga K "within"))
  F_outside : ∃ fd, FunD K "outside" "outside" (defArgs s_outside) (defBody s_outside) (defScope s_outside) [] [] (He.fAd K ("outside", none)) fd
  g_outside : mg "outside" = some (.ref (He.ga K "outside"))
  F_excess : ∃ fd, FunD K "excess" "excess" (defArgs s_excess) (defBody s_excess) (defScope s_excess) [] [] (He.fAd K ("excess", none)) fd
  g_excess : mg "excess" = some (.ref (He.ga K "excess"))
  F_marks_of : ∃ fd, FunD K "marks_of" "marks_of" (defArgs s_marks_of) (defBody s_marks_of) (defScope s_marks_of) [] [] (He.fAd K ("marks_of", none)) fd
  g_marks_of : mg "marks_of" = some (.ref (He.ga K "marks_of"))
  F_is_wanted : ∃ fd, FunD K "is_wanted" "is_wanted" (defArgs s_is_wanted) (defBody s_is_wanted) (defScope s_is_wanted) [] [] (He.fAd K ("is_wanted", none)) fd
  g_is_wanted : mg "is_wanted" = some (.ref (He.ga K "is_wanted"))
  F_cells : ∃ fd, FunD K "cells" "cells" (defArgs s_cells) (defBody s_cells) (defScope s_cells) [] [] (He.fAd K ("cells", none)) fd
  g_cells : mg "cells" = some (.ref (He.ga K "cells"))
  F_cells_within : ∃ fd, FunD K "cells_within" "cells_within" (defArgs s_cells_within) (defBody s_cells_within) (defScope s_cells_within) [] [] (He.fAd K ("cells_within", none)) fd
  g_cells_within : mg "cells_within" = some (.ref (He.ga K "cells_within"))
  F_Flow_init : ∃ fd, FunD K "__init__" "Flow.__init__" (defArgs s_Flow_init) (defBody s_Flow_init) (defScope s_Flow_init) [] [] (He.fAd K ("Flow", some "__init__")) fd
  F_Flow_most : ∃ fd, FunD K "most" "Flow.most" (defArgs s_Flow_most) (defBody s_Flow_most) (defScope s_Flow_most) [] [] (He.fAd K ("Flow", some "most")) fd
  F_Flow_search : ∃ fd, FunD K "search" "Flow.search" (defArgs s_Flow_search) (defBody s_Flow_search) (defScope s_Flow_search) [] [] (He.fAd K ("Flow", some "search")) fd
  F_Flow_holders : ∃ fd, FunD K "holders" "Flow.holders" (defArgs s_Flow_holders) (defBody s_Flow_holders) (defScope s_Flow_holders) [] [] (He.fAd K ("Flow", some "holders")) fd
  F_Flow_narrowest : ∃ fd, FunD K "narrowest" "Flow.narrowest" (defArgs s_Flow_narrowest) (defBody s_Flow_narrowest) (defScope s_Flow_narrowest) [] [] (He.fAd K ("Flow", some "narrowest")) fd
  F_Flow_push : ∃ fd, FunD K "push" "Flow.push" (defArgs s_Flow_push) (defBody s_Flow_push) (defScope s_Flow_push) [] [] (He.fAd K ("Flow", some "push")) fd
  F_Flow_share : ∃ fd, FunD K "share" "Flow.share" (defArgs s_Flow_share) (defBody s_Flow_share) (defScope s_Flow_share) [] [] (He.fAd K ("Flow", some "share")) fd
  F_Flow_lacking : ∃ fd, FunD K "lacking" "Flow.lacking" (defArgs s_Flow_lacking) (defBody s_Flow_lacking) (defScope s_Flow_lacking) [] [] (He.fAd K ("Flow", some "lacking")) fd
  F_Flow_cut : ∃ fd, FunD K "cut" "Flow.cut" (defArgs s_Flow_cut) (defBody s_Flow_cut) (defScope s_Flow_cut) [] [] (He.fAd K ("Flow", some "cut")) fd
  F_cell_rows : ∃ fd, FunD K "cell_rows" "cell_rows" (defArgs s_cell_rows) (defBody s_cell_rows) (defScope s_cell_rows) [] [] (He.fAd K ("cell_rows", none)) fd
  g_cell_rows : mg "cell_rows" = some (.ref (He.ga K "cell_rows"))
  F_laid : ∃ fd, FunD K "laid" "laid" (defArgs s_laid) (defBody s_laid) (defScope s_laid) [] [] (He.fAd K ("laid", none)) fd
  g_laid : mg "laid" = some (.ref (He.ga K "laid"))
  F_job_named : ∃ fd, FunD K "job_named" "job_named" (defArgs s_job_named) (defBody s_job_named) (defScope s_job_named) [] [] (He.fAd K ("job_named", none)) fd
  g_job_named : mg "job_named" = some (.ref (He.ga K "job_named"))
  F_Walk_init : ∃ fd, FunD K "__init__" "Walk.__init__" (defArgs s_Walk_init) (defBody s_Walk_init) (defScope s_Walk_init) [] [] (He.fAd K ("Walk", some "__init__")) fd
  F_Walk_word_for : ∃ fd, FunD K "word_for" "Walk.word_for" (defArgs s_Walk_word_for) (defBody s_Walk_word_for) (defScope s_Walk_word_for) [] [] (He.fAd K ("Walk", some "word_for")) fd
  F_Walk_go_past : ∃ fd, FunD K "go_past" "Walk.go_past" (defArgs s_Walk_go_past) (defBody s_Walk_go_past) (defScope s_Walk_go_past) [] [] (He.fAd K ("Walk", some "go_past")) fd
  F_faults : ∃ fd, FunD K "faults" "faults" (defArgs s_faults) (defBody s_faults) (defScope s_faults) [] [] (He.fAd K ("faults", none)) fd
  g_faults : mg "faults" = some (.ref (He.ga K "faults"))
  F_undone : ∃ fd, FunD K "undone" "undone" (defArgs s_undone) (defBody s_undone) (defScope s_undone) [] [] (He.fAd K ("undone", none)) fd
  g_undone : mg "undone" = some (.ref (He.ga K "undone"))
  F_overflow : ∃ fd, FunD K "overflow" "overflow" (defArgs s_overflow) (defBody s_overflow) (defScope s_overflow) [] [] (He.fAd K ("overflow", none)) fd
  g_overflow : mg "overflow" = some (.ref (He.ga K "overflow"))
  F_crowded : ∃ fd, FunD K "crowded" "crowded" (defArgs s_crowded) (defBody s_crowded) (defScope s_crowded) [] [] (He.fAd K ("crowded", none)) fd
  g_crowded : mg "crowded" = some (.ref (He.ga K "crowded"))
  F_Verdict_init : ∃ fd, FunD K "__init__" "Verdict.__init__" (defArgs s_Verdict_init) (defBody s_Verdict_init) (defScope s_Verdict_init) [] [] (He.fAd K ("Verdict", some "__init__")) fd
  F_Verdict_kept : ∃ fd, FunD K "kept" "Verdict.kept" (defArgs s_Verdict_kept) (defBody s_Verdict_kept) (defScope s_Verdict_kept) [] [] (He.fAd K ("Verdict", some "kept")) fd
  F_Verdict_word : ∃ fd, FunD K "word" "Verdict.word" (defArgs s_Verdict_word) (defBody s_Verdict_word) (defScope s_Verdict_word) [] [] (He.fAd K ("Verdict", some "word")) fd
  F_Verdict_told : ∃ fd, FunD K "told" "Verdict.told" (defArgs s_Verdict_told) (defBody s_Verdict_told) (defScope s_Verdict_told) [] [] (He.fAd K ("Verdict", some "told")) fd
  F_Verdict_holds : ∃ fd, FunD K "holds" "Verdict.holds" (defArgs s_Verdict_holds) (defBody s_Verdict_holds) (defScope s_Verdict_holds) [] [] (He.fAd K ("Verdict", some "holds")) fd
  F_Verdict_left_by_plan : ∃ fd, FunD K "left_by_plan" "Verdict.left_by_plan" (defArgs s_Verdict_left_by_plan) (defBody s_Verdict_left_by_plan) (defScope s_Verdict_left_by_plan) [] [] (He.fAd K ("Verdict", some "left_by_plan")) fd
  F_Kept_kept : ∃ fd, FunD K "kept" "Kept.kept" (defArgs s_Kept_kept) (defBody s_Kept_kept) (defScope s_Kept_kept) [] [] (He.fAd K ("Kept", some "kept")) fd
  F_Kept_word : ∃ fd, FunD K "word" "Kept.word" (defArgs s_Kept_word) (defBody s_Kept_word) (defScope s_Kept_word) [] [] (He.fAd K ("Kept", some "word")) fd
  F_Kept_holds : ∃ fd, FunD K "holds" "Kept.holds" (defArgs s_Kept_holds) (defBody s_Kept_holds) (defScope s_Kept_holds) [] [] (He.fAd K ("Kept", some "holds")) fd
  F_Full_init : ∃ fd, FunD K "__init__" "Full.__init__" (defArgs s_Full_init) (defBody s_Full_init) (defScope s_Full_init) [] [] (He.fAd K ("Full", some "__init__")) fd
  F_Full_word : ∃ fd, FunD K "word" "Full.word" (defArgs s_Full_word) (defBody s_Full_word) (defScope s_Full_word) [] [] (He.fAd K ("Full", some "word")) fd
  F_Full_told : ∃ fd, FunD K "told" "Full.told" (defArgs s_Full_told) (defBody s_Full_told) (defScope s_Full_told) [] [] (He.fAd K ("Full", some "told")) fd
  F_Full_holds : ∃ fd, FunD K "holds" "Full.holds" (defArgs s_Full_holds) (defBody s_Full_holds) (defScope s_Full_holds) [] [] (He.fAd K ("Full", some "holds")) fd
  F_settled : ∃ fd, FunD K "settled" "settled" (defArgs s_settled) (defBody s_settled) (defScope s_settled) [] [] (He.fAd K ("settled", none)) fd
  g_settled : mg "settled" = some (.ref (He.ga K "settled"))
  F_is_number : ∃ fd, FunD K "is_number" "is_number" (defArgs s_is_number) (defBody s_is_number) (defScope s_is_number) [] [] (He.fAd K ("is_number", none)) fd
  g_is_number : mg "is_number" = some (.ref (He.ga K "is_number"))
  F_is_row : ∃ fd, FunD K "is_row" "is_row" (defArgs s_is_row) (defBody s_is_row) (defScope s_is_row) [] [] (He.fAd K ("is_row", none)) fd
  g_is_row : mg "is_row" = some (.ref (He.ga K "is_row"))
  F_tidied : ∃ fd, FunD K "tidied" "tidied" (defArgs s_tidied) (defBody s_tidied) (defScope s_tidied) [] [] (He.fAd K ("tidied", none)) fd
  g_tidied : mg "tidied" = some (.ref (He.ga K "tidied"))
  F_Calendar_init : ∃ fd, FunD K "__init__" "Calendar.__init__" (defArgs s_Calendar_init) (defBody s_Calendar_init) (defScope s_Calendar_init) [] [] (He.fAd K ("Calendar", some "__init__")) fd
  F_Calendar_keep : ∃ fd, FunD K "keep" "Calendar.keep" (defArgs s_Calendar_keep) (defBody s_Calendar_keep) (defScope s_Calendar_keep) [] [] (He.fAd K ("Calendar", some "keep")) fd
  F_Calendar_pieces : ∃ fd, FunD K "pieces" "Calendar.pieces" (defArgs s_Calendar_pieces) (defBody s_Calendar_pieces) (defScope s_Calendar_pieces) [] [] (He.fAd K ("Calendar", some "pieces")) fd
  F_Calendar_at : ∃ fd, FunD K "at" "Calendar.at" (defArgs s_Calendar_at) (defBody s_Calendar_at) (defScope s_Calendar_at) [] [] (He.fAd K ("Calendar", some "at")) fd
  F_Calendar_over : ∃ fd, FunD K "over" "Calendar.over" (defArgs s_Calendar_over) (defBody s_Calendar_over) (defScope s_Calendar_over) [] [] (He.fAd K ("Calendar", some "over")) fd
  F_Calendar_over_spans : ∃ fd, FunD K "over_spans" "Calendar.over_spans" (defArgs s_Calendar_over_spans) (defBody s_Calendar_over_spans) (defScope s_Calendar_over_spans) [] [] (He.fAd K ("Calendar", some "over_spans")) fd
  F_Calendar_changes : ∃ fd, FunD K "changes" "Calendar.changes" (defArgs s_Calendar_changes) (defBody s_Calendar_changes) (defScope s_Calendar_changes) [] [] (He.fAd K ("Calendar", some "changes")) fd
  F_law_cell_at : ∃ fd, FunD K "_law_cell_at" "_law_cell_at" (defArgs s_law_cell_at) (defBody s_law_cell_at) (defScope s_law_cell_at) [] [] (He.fAd K ("_law_cell_at", none)) fd
  g_law_cell_at : mg "_law_cell_at" = some (.ref (He.ga K "_law_cell_at"))
  F_law_whole : ∃ fd, FunD K "_law_whole" "_law_whole" (defArgs s_law_whole) (defBody s_law_whole) (defScope s_law_whole) [] [] (He.fAd K ("_law_whole", none)) fd
  g_law_whole : mg "_law_whole" = some (.ref (He.ga K "_law_whole"))
  F_law_mixed : ∃ fd, FunD K "_law_mixed" "_law_mixed" (defArgs s_law_mixed) (defBody s_law_mixed) (defScope s_law_mixed) [] [] (He.fAd K ("_law_mixed", none)) fd
  g_law_mixed : mg "_law_mixed" = some (.ref (He.ga K "_law_mixed"))
  F_law_names : ∃ fd, FunD K "_law_names" "_law_names" (defArgs s_law_names) (defBody s_law_names) (defScope s_law_names) [] [] (He.fAd K ("_law_names", none)) fd
  g_law_names : mg "_law_names" = some (.ref (He.ga K "_law_names"))
  F_law_rows : ∃ fd, FunD K "_law_rows" "_law_rows" (defArgs s_law_rows) (defBody s_law_rows) (defScope s_law_rows) [] [] (He.fAd K ("_law_rows", none)) fd
  g_law_rows : mg "_law_rows" = some (.ref (He.ga K "_law_rows"))
  F_law_load : ∃ fd, FunD K "_law_load" "_law_load" (defArgs s_law_load) (defBody s_law_load) (defScope s_law_load) [] [] (He.fAd K ("_law_load", none)) fd
  g_law_load : mg "_law_load" = some (.ref (He.ga K "_law_load"))
  F_law_over : ∃ fd, FunD K "_law_over" "_law_over" (defArgs s_law_over) (defBody s_law_over) (defScope s_law_over) [] [] (He.fAd K ("_law_over", none)) fd
  g_law_over : mg "_law_over" = some (.ref (He.ga K "_law_over"))
  F_law_inside : ∃ fd, FunD K "_law_inside" "_law_inside" (defArgs s_law_inside) (defBody s_law_inside) (defScope s_law_inside) [] [] (He.fAd K ("_law_inside", none)) fd
  g_law_inside : mg "_law_inside" = some (.ref (He.ga K "_law_inside"))
  F_law_excess : ∃ fd, FunD K "_law_excess" "_law_excess" (defArgs s_law_excess) (defBody s_law_excess) (defScope s_law_excess) [] [] (He.fAd K ("_law_excess", none)) fd
  g_law_excess : mg "_law_excess" = some (.ref (He.ga K "_law_excess"))
  F_law_overflow : ∃ fd, FunD K "_law_overflow" "_law_overflow" (defArgs s_law_overflow) (defBody s_law_overflow) (defScope s_law_overflow) [] [] (He.fAd K ("_law_overflow", none)) fd
  g_law_overflow : mg "_law_overflow" = some (.ref (He.ga K "_law_overflow"))
  F_law_row_right : ∃ fd, FunD K "_law_row_right" "_law_row_right" (defArgs s_law_row_right) (defBody s_law_row_right) (defScope s_law_row_right) [] [] (He.fAd K ("_law_row_right", none)) fd
  g_law_row_right : mg "_law_row_right" = some (.ref (He.ga K "_law_row_right"))
  F_law_undone : ∃ fd, FunD K "_law_undone" "_law_undone" (defArgs s_law_undone) (defBody s_law_undone) (defScope s_law_undone) [] [] (He.fAd K ("_law_undone", none)) fd
  g_law_undone : mg "_law_undone" = some (.ref (He.ga K "_law_undone"))
  F_law_formed : ∃ fd, FunD K "_law_formed" "_law_formed" (defArgs s_law_formed) (defBody s_law_formed) (defScope s_law_formed) [] [] (He.fAd K ("_law_formed", none)) fd
  g_law_formed : mg "_law_formed" = some (.ref (He.ga K "_law_formed"))
  F_law_full_right : ∃ fd, FunD K "_law_full_right" "_law_full_right" (defArgs s_law_full_right) (defBody s_law_full_right) (defScope s_law_full_right) [] [] (He.fAd K ("_law_full_right", none)) fd
  g_law_full_right : mg "_law_full_right" = some (.ref (He.ga K "_law_full_right"))
  F_law_copied : ∃ fd, FunD K "_law_copied" "_law_copied" (defArgs s_law_copied) (defBody s_law_copied) (defScope s_law_copied) [] [] (He.fAd K ("_law_copied", none)) fd
  g_law_copied : mg "_law_copied" = some (.ref (He.ga K "_law_copied"))
  F_law : ∃ fd, FunD K "law" "law" (defArgs s_law) (defBody s_law) (defScope s_law) [] [] (He.fAd K ("law", none)) fd
  g_law : mg "law" = some (.ref (He.ga K "law"))
  F_Kept_init : ∃ fd, FunD K "__init__" "Verdict.__init__" (defArgs s_Kept_init) (defBody s_Kept_init) (defScope s_Kept_init) [] [] (He.fAd K ("Kept", some "__init__")) fd
  F_Kept_told : ∃ fd, FunD K "told" "Verdict.told" (defArgs s_Kept_told) (defBody s_Kept_told) (defScope s_Kept_told) [] [] (He.fAd K ("Kept", some "told")) fd
  F_Kept_left_by_plan : ∃ fd, FunD K "left_by_plan" "Verdict.left_by_plan" (defArgs s_Kept_left_by_plan) (defBody s_Kept_left_by_plan) (defScope s_Kept_left_by_plan) [] [] (He.fAd K ("Kept", some "left_by_plan")) fd
  F_Full_kept : ∃ fd, FunD K "kept" "Verdict.kept" (defArgs s_Full_kept) (defBody s_Full_kept) (defScope s_Full_kept) [] [] (He.fAd K ("Full", some "kept")) fd
  F_Full_left_by_plan : ∃ fd, FunD K "left_by_plan" "Verdict.left_by_plan" (defArgs s_Full_left_by_plan) (defBody s_Full_left_by_plan) (defScope s_Full_left_by_plan) [] [] (He.fAd K ("Full", some "left_by_plan")) fd
  g_Flow : mg "Flow" = some (.ref (He.ga K "Flow"))
  c_Flow : Cls K (He.ga K "Flow")
  g_Walk : mg "Walk" = some (.ref (He.ga K "Walk"))
  c_Walk : Cls K (He.ga K "Walk")
  g_Calendar : mg "Calendar" = some (.ref (He.ga K "Calendar"))
  c_Calendar : Cls K (He.ga K "Calendar")
  g_Kept : mg "Kept" = some (.ref (He.ga K "Kept"))
  c_Kept : Cls K (He.ga K "Kept")
  g_Full : mg "Full" = some (.ref (He.ga K "Full"))
  c_Full : Cls K (He.ga K "Full")
  g_Verdict : mg "Verdict" = some (.ref (He.ga K "Verdict"))
  c_Verdict : Cls K (He.ga K "Verdict")
  k_Flow : Mk K (He.ga K "Flow") (He.ma K (He.ga K "Flow") "__init__")
  n_Flow_load : NoAttr K (He.ga K "Flow") "load"
  n_Flow_cells : NoAttr K (He.ga K "Flow") "cells"
  n_Flow_rooms : NoAttr K (He.ga K "Flow") "rooms"
  n_Flow_shares : NoAttr K (He.ga K "Flow") "shares"
  n_Flow_spare : NoAttr K (He.ga K "Flow") "spare"
  n_Flow_wanting : NoAttr K (He.ga K "Flow") "wanting"
  n_Flow_reached : NoAttr K (He.ga K "Flow") "reached"
  m_Flow_search : Meth K (He.ga K "Flow") "search" (He.ma K (He.ga K "Flow") "search")
  m_Flow_push : Meth K (He.ga K "Flow") "push" (He.ma K (He.ga K "Flow") "push")
  m_Flow_narrowest : Meth K (He.ga K "Flow") "narrowest" (He.ma K (He.ga K "Flow") "narrowest")
  m_Flow_most : Meth K (He.ga K "Flow") "most" (He.ma K (He.ga K "Flow") "most")
  m_Flow_holders : Meth K (He.ga K "Flow") "holders" (He.ma K (He.ga K "Flow") "holders")
  m_Flow_share : Meth K (He.ga K "Flow") "share" (He.ma K (He.ga K "Flow") "share")
  m_Flow_lacking : Meth K (He.ga K "Flow") "lacking" (He.ma K (He.ga K "Flow") "lacking")
  m_Flow_cut : Meth K (He.ga K "Flow") "cut" (He.ma K (He.ga K "Flow") "cut")
  k_Walk : Mk K (He.ga K "Walk") (He.ma K (He.ga K "Walk") "__init__")
  n_Walk_load : NoAttr K (He.ga K "Walk") "load"
  n_Walk_calendar : NoAttr K (He.ga K "Walk") "calendar"
  n_Walk_seats : NoAttr K (He.ga K "Walk") "seats"
  n_Walk_side : NoAttr K (He.ga K "Walk") "side"
  n_Walk_worked : NoAttr K (He.ga K "Walk") "worked"
  m_Walk_word_for : Meth K (He.ga K "Walk") "word_for" (He.ma K (He.ga K "Walk") "word_for")
  m_Walk_go_past : Meth K (He.ga K "Walk") "go_past" (He.ma K (He.ga K "Walk") "go_past")
  k_Calendar : Mk K (He.ga K "Calendar") (He.ma K (He.ga K "Calendar") "__init__")
  n_Calendar_strips : NoAttr K (He.ga K "Calendar") "strips"
  n_Calendar_for_ever : NoAttr K (He.ga K "Calendar") "for_ever"
  m_Calendar_keep : Meth K (He.ga K "Calendar") "keep" (He.ma K (He.ga K "Calendar") "keep")
  m_Calendar_pieces : Meth K (He.ga K "Calendar") "pieces" (He.ma K (He.ga K "Calendar") "pieces")
  m_Calendar_at : Meth K (He.ga K "Calendar") "at" (He.ma K (He.ga K "Calendar") "at")
  m_Calendar_over : Meth K (He.ga K "Calendar") "over" (He.ma K (He.ga K "Calendar") "over")
  m_Calendar_over_spans : Meth K (He.ga K "Calendar") "over_spans" (He.ma K (He.ga K "Calendar") "over_spans")
  m_Calendar_changes : Meth K (He.ga K "Calendar") "changes" (He.ma K (He.ga K "Calendar") "changes")
  k_Kept : Mk K (He.ga K "Kept") (He.ma K (He.ga K "Kept") "__init__")
  n_Kept_load : NoAttr K (He.ga K "Kept") "load"
  n_Kept_calendar : NoAttr K (He.ga K "Kept") "calendar"
  n_Kept_plan : NoAttr K (He.ga K "Kept") "plan"
  m_Kept_kept : Meth K (He.ga K "Kept") "kept" (He.ma K (He.ga K "Kept") "kept")
  m_Kept_word : Meth K (He.ga K "Kept") "word" (He.ma K (He.ga K "Kept") "word")
  m_Kept_told : Meth K (He.ga K "Kept") "told" (He.ma K (He.ga K "Kept") "told")
  m_Kept_holds : Meth K (He.ga K "Kept") "holds" (He.ma K (He.ga K "Kept") "holds")
  m_Kept_left_by_plan : Meth K (He.ga K "Kept") "left_by_plan" (He.ma K (He.ga K "Kept") "left_by_plan")
  k_Full : Mk K (He.ga K "Full") (He.ma K (He.ga K "Full") "__init__")
  n_Full_load : NoAttr K (He.ga K "Full") "load"
  n_Full_calendar : NoAttr K (He.ga K "Full") "calendar"
  n_Full_plan : NoAttr K (He.ga K "Full") "plan"
  n_Full_lack : NoAttr K (He.ga K "Full") "lack"
  n_Full_spans : NoAttr K (He.ga K "Full") "spans"
  n_Full_names : NoAttr K (He.ga K "Full") "names"
  m_Full_kept : Meth K (He.ga K "Full") "kept" (He.ma K (He.ga K "Full") "kept")
  m_Full_word : Meth K (He.ga K "Full") "word" (He.ma K (He.ga K "Full") "word")
  m_Full_told : Meth K (He.ga K "Full") "told" (He.ma K (He.ga K "Full") "told")
  m_Full_holds : Meth K (He.ga K "Full") "holds" (He.ma K (He.ga K "Full") "holds")
  m_Full_left_by_plan : Meth K (He.ga K "Full") "left_by_plan" (He.ma K (He.ga K "Full") "left_by_plan")
  i_LAST_TURN : ∃ t, mg "LAST_TURN" = some (.int 10000000000 t)
  i_MOST_SPANS : ∃ t, mg "MOST_SPANS" = some (.int 200 t)
  i_MOST_JOBS : ∃ t, mg "MOST_JOBS" = some (.int 12 t)
  i_MOST_FIRST : ∃ t, mg "MOST_FIRST" = some (.int 1000000000 t)
  i_MOST_LAST : ∃ t, mg "MOST_LAST" = some (.int 10000000000 t)
  i_MOST_WORK : ∃ t, mg "MOST_WORK" = some (.int 60 t)
  i_MOST_BREADTH : ∃ t, mg "MOST_BREADTH" = some (.int 16 t)
  i_MOST_ROWS : ∃ t, mg "MOST_ROWS" = some (.int 16 t)
  i_MOST_TURNS : ∃ t, mg "MOST_TURNS" = some (.int 1000000 t)
  i_MOST_MACHINES : ∃ t, mg "MOST_MACHINES" = some (.int 16 t)
  t_LETTERS : ∃ t, mg "LETTERS" = some (.str "abcdefghijklmnopqrstuvwxyz" t)
  t_FIGURES : ∃ t, mg "FIGURES" = some (.str "0123456789" t)
  b_isinstance : mg "isinstance" = none
  b_int : mg "int" = none
  b_bool : mg "bool" = none
  b_tuple : mg "tuple" = none
  b_list : mg "list" = none
  b_str : mg "str" = none
  b_len : mg "len" = none
  b_sorted : mg "sorted" = none
  b_sum : mg "sum" = none
  b_max : mg "max" = none
  b_min : mg "min" = none
  b_set : mg "set" = none
  b_zip : mg "zip" = none
  b_enumerate : mg "enumerate" = none
  b_range : mg "range" = none
  b_divmod : mg "divmod" = none
  ex : exB K = true
end Due

set_option Elab.async false
set_option linter.all false
set_option maxRecDepth 100000
set_option maxHeartbeats 4000000
namespace Due
open PySem PySem.Spec PyProof.Rows L2
def dd_is_whole : He.DefD := ⟨("is_whole", none), "is_whole", "is_whole", defArgs s_is_whole, defBody s_is_whole, defScope s_is_whole, [], []⟩
def dd_is_span : He.DefD := ⟨("is_span", none), "is_span", "is_span", defArgs s_is_span, defBody s_is_span, defScope s_is_span, [], []⟩
def dd_merged : He.DefD := ⟨("merged", none), "merged", "merged", defArgs s_merged, defBody s_merged, defScope s_merged, [], []⟩
def dd_tidy : He.DefD := ⟨("tidy", none), "tidy", "tidy", defArgs s_tidy, defBody s_tidy, defScope s_tidy, [], []⟩
def dd_turn_count_in : He.DefD := ⟨("turn_count_in", none), "turn_count_in", "turn_count_in", defArgs s_turn_count_in, defBody s_turn_count_in, defScope s_turn_count_in, [], []⟩
def dd_is_name : He.DefD := ⟨("is_name", none), "is_name", "is_name", defArgs s_is_name, defBody s_is_name, defScope s_is_name, [], []⟩
def dd_is_within : He.DefD := ⟨("is_within", none), "is_within", "is_within", defArgs s_is_within, defBody s_is_within, defScope s_is_within, [], []⟩
def dd_has_numbers : He.DefD := ⟨("has_numbers", none), "has_numbers", "has_numbers", defArgs s_has_numbers, defBody s_has_numbers, defScope s_has_numbers, [], []⟩
def dd_check_load : He.DefD := ⟨("check_load", none), "check_load", "check_load", defArgs s_check_load, defBody s_check_load, defScope s_check_load, [], []⟩
def dd_turns_of : He.DefD := ⟨("turns_of", none), "turns_of", "turns_of", defArgs s_turns_of, defBody s_turns_of, defScope s_turns_of, [], []⟩
def dd_within : He.DefD := ⟨("within", none), "within", "within", defArgs s_within, defBody s_within, defScope s_within, [], []⟩
def dd_outside : He.DefD := ⟨("outside", none), "outside", "outside", defArgs s_outside, defBody s_outside, defScope s_outside, [], []⟩
def dd_excess : He.DefD := ⟨("excess", none), "excess", "excess", defArgs s_excess, defBody s_excess, defScope s_excess, [], []⟩
def dd_marks_of : He.DefD := ⟨("marks_of", none), "marks_of", "marks_of", defArgs s_marks_of, defBody s_marks_of, defScope s_marks_of, [], []⟩
def dd_is_wanted : He.DefD := ⟨("is_wanted", none), "is_wanted", "is_wanted", defArgs s_is_wanted, defBody s_is_wanted, defScope s_is_wanted, [], []⟩
def dd_cells : He.DefD := ⟨("cells", none), "cells", "cells", defArgs s_cells, defBody s_cells, defScope s_cells, [], []⟩
def dd_cells_within : He.DefD := ⟨("cells_within", none), "cells_within", "cells_within", defArgs s_cells_within, defBody s_cells_within, defScope s_cells_within, [], []⟩
def dd_Flow_init : He.DefD := ⟨("Flow", some "__init__"), "__init__", "Flow.__init__", defArgs s_Flow_init, defBody s_Flow_init, defScope s_Flow_init, [], []⟩
def dd_Flow_most : He.DefD := ⟨("Flow", some "most"), "most", "Flow.most", defArgs s_Flow_most, defBody s_Flow_most, defScope s_Flow_most, [], []⟩
def dd_Flow_search : He.DefD := ⟨("Flow", some "search"), "search", "Flow.search", defArgs s_Flow_search, defBody s_Flow_search, defScope s_Flow_search, [], []⟩
def dd_Flow_holders : He.DefD := ⟨("Flow", some "holders"), "holders", "Flow.holders", defArgs s_Flow_holders, defBody s_Flow_holders, defScope s_Flow_holders, [], []⟩
def dd_Flow_narrowest : He.DefD := ⟨("Flow", some "narrowest"), "narrowest", "Flow.narrowest", defArgs s_Flow_narrowest, defBody s_Flow_narrowest, defScope s_Flow_narrowest, [], []⟩
def dd_Flow_push : He.DefD := ⟨("Flow", some "push"), "push", "Flow.push", defArgs s_Flow_push, defBody s_Flow_push, defScope s_Flow_push, [], []⟩
def dd_Flow_share : He.DefD := ⟨("Flow", some "share"), "share", "Flow.share", defArgs s_Flow_share, defBody s_Flow_share, defScope s_Flow_share, [], []⟩
def dd_Flow_lacking : He.DefD := ⟨("Flow", some "lacking"), "lacking", "Flow.lacking", defArgs s_Flow_lacking, defBody s_Flow_lacking, defScope s_Flow_lacking, [], []⟩
def dd_Flow_cut : He.DefD := ⟨("Flow", some "cut"), "cut", "Flow.cut", defArgs s_Flow_cut, defBody s_Flow_cut, defScope s_Flow_cut, [], []⟩
def dd_cell_rows : He.DefD := ⟨("cell_rows", none), "cell_rows", "cell_rows", defArgs s_cell_rows, defBody s_cell_rows, defScope s_cell_rows, [], []⟩
def dd_laid : He.DefD := ⟨("laid", none), "laid", "laid", defArgs s_laid, defBody s_laid, defScope s_laid, [], []⟩
def dd_job_named : He.DefD := ⟨("job_named", none), "job_named", "job_named", defArgs s_job_named, defBody s_job_named, defScope s_job_named, [], []⟩
def dd_Walk_init : He.DefD := ⟨("Walk", some "__init__"), "__init__", "Walk.__init__", defArgs s_Walk_init, defBody s_Walk_init, defScope s_Walk_init, [], []⟩
def dd_Walk_word_for : He.DefD := ⟨("Walk", some "word_for"), "word_for", "Walk.word_for", defArgs s_Walk_word_for, defBody s_Walk_word_for, defScope s_Walk_word_for, [], []⟩
def dd_Walk_go_past : He.DefD := ⟨("Walk", some "go_past"), "go_past", "Walk.go_past", defArgs s_Walk_go_past, defBody s_Walk_go_past, defScope s_Walk_go_past, [], []⟩
def dd_faults : He.DefD := ⟨("faults", none), "faults", "faults", defArgs s_faults, defBody s_faults, defScope s_faults, [], []⟩
def dd_undone : He.DefD := ⟨("undone", none), "undone", "undone", defArgs s_undone, defBody s_undone, defScope s_undone, [], []⟩
def dd_overflow : He.DefD := ⟨("overflow", none), "overflow", "overflow", defArgs s_overflow, defBody s_overflow, defScope s_overflow, [], []⟩
def dd_crowded : He.DefD := ⟨("crowded", none), "crowded", "crowded", defArgs s_crowded, defBody s_crowded, defScope s_crowded, [], []⟩
def dd_Verdict_init : He.DefD := ⟨("Verdict", some "__init__"), "__init__", "Verdict.__init__", defArgs s_Verdict_init, defBody s_Verdict_init, defScope s_Verdict_init, [], []⟩
def dd_Verdict_kept : He.DefD := ⟨("Verdict", some "kept"), "kept", "Verdict.kept", defArgs s_Verdict_kept, defBody s_Verdict_kept, defScope s_Verdict_kept, [], []⟩
def dd_Verdict_word : He.DefD := ⟨("Verdict", some "word"), "word", "Verdict.word", defArgs s_Verdict_word, defBody s_Verdict_word, defScope s_Verdict_word, [], []⟩
def dd_Verdict_told : He.DefD := ⟨("Verdict", some "told"), "told", "Verdict.told", defArgs s_Verdict_told, defBody s_Verdict_told, defScope s_Verdict_told, [], []⟩
def dd_Verdict_holds : He.DefD := ⟨("Verdict", some "holds"), "holds", "Verdict.holds", defArgs s_Verdict_holds, defBody s_Verdict_holds, defScope s_Verdict_holds, [], []⟩
def dd_Verdict_left_by_plan : He.DefD := ⟨("Verdict", some "left_by_plan"), "left_by_plan", "Verdict.left_by_plan", defArgs s_Verdict_left_by_plan, defBody s_Verdict_left_by_plan, defScope s_Verdict_left_by_plan, [], []⟩
def dd_Kept_kept : He.DefD := ⟨("Kept", some "kept"), "kept", "Kept.kept", defArgs s_Kept_kept, defBody s_Kept_kept, defScope s_Kept_kept, [], []⟩
def dd_Kept_word : He.DefD := ⟨("Kept", some "word"), "word", "Kept.word", defArgs s_Kept_word, defBody s_Kept_word, defScope s_Kept_word, [], []⟩
def dd_Kept_holds : He.DefD := ⟨("Kept", some "holds"), "holds", "Kept.holds", defArgs s_Kept_holds, defBody s_Kept_holds, defScope s_Kept_holds, [], []⟩
def dd_Full_init : He.DefD := ⟨("Full", some "__init__"), "__init__", "Full.__init__", defArgs s_Full_init, defBody s_Full_init, defScope s_Full_init, [], []⟩
def dd_Full_word : He.DefD := ⟨("Full", some "word"), "word", "Full.word", defArgs s_Full_word, defBody s_Full_word, defScope s_Full_word, [], []⟩
def dd_Full_told : He.DefD := ⟨("Full", some "told"), "told", "Full.told", defArgs s_Full_told, defBody s_Full_told, defScope s_Full_told, [], []⟩
def dd_Full_holds : He.DefD := ⟨("Full", some "holds"), "holds", "Full.holds", defArgs s_Full_holds, defBody s_Full_holds, defScope s_Full_holds, [], []⟩
def dd_settled : He.DefD := ⟨("settled", none), "settled", "settled", defArgs s_settled, defBody s_settled, defScope s_settled, [], []⟩
def dd_is_number : He.DefD := ⟨("is_number", none), "is_number", "is_number", defArgs s_is_number, defBody s_is_number, defScope s_is_number, [], []⟩
def dd_is_row : He.DefD := ⟨("is_row", none), "is_row", "is_row", defArgs s_is_row, defBody s_is_row, defScope s_is_row, [], []⟩
def dd_tidied : He.DefD := ⟨("tidied", none), "tidied", "tidied", defArgs s_tidied, defBody s_tidied, defScope s_tidied, [], []⟩
def dd_Calendar_init : He.DefD := ⟨("Calendar", some "__init__"), "__init__", "Calendar.__init__", defArgs s_Calendar_init, defBody s_Calendar_init, defScope s_Calendar_init, [], []⟩
def dd_Calendar_keep : He.DefD := ⟨("Calendar", some "keep"), "keep", "Calendar.keep", defArgs s_Calendar_keep, defBody s_Calendar_keep, defScope s_Calendar_keep, [], []⟩
def dd_Calendar_pieces : He.DefD := ⟨("Calendar", some "pieces"), "pieces", "Calendar.pieces", defArgs s_Calendar_pieces, defBody s_Calendar_pieces, defScope s_Calendar_pieces, [], []⟩
def dd_Calendar_at : He.DefD := ⟨("Calendar", some "at"), "at", "Calendar.at", defArgs s_Calendar_at, defBody s_Calendar_at, defScope s_Calendar_at, [], []⟩
def dd_Calendar_over : He.DefD := ⟨("Calendar", some "over"), "over", "Calendar.over", defArgs s_Calendar_over, defBody s_Calendar_over, defScope s_Calendar_over, [], []⟩
def dd_Calendar_over_spans : He.DefD := ⟨("Calendar", some "over_spans"), "over_spans", "Calendar.over_spans", defArgs s_Calendar_over_spans, defBody s_Calendar_over_spans, defScope s_Calendar_over_spans, [], []⟩
def dd_Calendar_changes : He.DefD := ⟨("Calendar", some "changes"), "changes", "Calendar.changes", defArgs s_Calendar_changes, defBody s_Calendar_changes, defScope s_Calendar_changes, [], []⟩
def dd_law_cell_at : He.DefD := ⟨("_law_cell_at", none), "_law_cell_at", "_law_cell_at", defArgs s_law_cell_at, defBody s_law_cell_at, defScope s_law_cell_at, [], []⟩
def dd_law_whole : He.DefD := ⟨("_law_whole", none), "_law_whole", "_law_whole", defArgs s_law_whole, defBody s_law_whole, defScope s_law_whole, [], []⟩
def dd_law_mixed : He.DefD := ⟨("_law_mixed", none), "_law_mixed", "_law_mixed", defArgs s_law_mixed, defBody s_law_mixed, defScope s_law_mixed, [], []⟩
def dd_law_names : He.DefD := ⟨("_law_names", none), "_law_names", "_law_names", defArgs s_law_names, defBody s_law_names, defScope s_law_names, [], []⟩
def dd_law_rows : He.DefD := ⟨("_law_rows", none), "_law_rows", "_law_rows", defArgs s_law_rows, defBody s_law_rows, defScope s_law_rows, [], []⟩
def dd_law_load : He.DefD := ⟨("_law_load", none), "_law_load", "_law_load", defArgs s_law_load, defBody s_law_load, defScope s_law_load, [], []⟩
def dd_law_over : He.DefD := ⟨("_law_over", none), "_law_over", "_law_over", defArgs s_law_over, defBody s_law_over, defScope s_law_over, [], []⟩
def dd_law_inside : He.DefD := ⟨("_law_inside", none), "_law_inside", "_law_inside", defArgs s_law_inside, defBody s_law_inside, defScope s_law_inside, [], []⟩
def dd_law_excess : He.DefD := ⟨("_law_excess", none), "_law_excess", "_law_excess", defArgs s_law_excess, defBody s_law_excess, defScope s_law_excess, [], []⟩
def dd_law_overflow : He.DefD := ⟨("_law_overflow", none), "_law_overflow", "_law_overflow", defArgs s_law_overflow, defBody s_law_overflow, defScope s_law_overflow, [], []⟩
def dd_law_row_right : He.DefD := ⟨("_law_row_right", none), "_law_row_right", "_law_row_right", defArgs s_law_row_right, defBody s_law_row_right, defScope s_law_row_right, [], []⟩
def dd_law_undone : He.DefD := ⟨("_law_undone", none), "_law_undone", "_law_undone", defArgs s_law_undone, defBody s_law_undone, defScope s_law_undone, [], []⟩
def dd_law_formed : He.DefD := ⟨("_law_formed", none), "_law_formed", "_law_formed", defArgs s_law_formed, defBody s_law_formed, defScope s_law_formed, [], []⟩
def dd_law_full_right : He.DefD := ⟨("_law_full_right", none), "_law_full_right", "_law_full_right", defArgs s_law_full_right, defBody s_law_full_right, defScope s_law_full_right, [], []⟩
def dd_law_copied : He.DefD := ⟨("_law_copied", none), "_law_copied", "_law_copied", defArgs s_law_copied, defBody s_law_copied, defScope s_law_copied, [], []⟩
def dd_law : He.DefD := ⟨("law", none), "law", "law", defArgs s_law, defBody s_law, defScope s_law, [], []⟩
def dd_Kept_init : He.DefD := ⟨("Kept", some "__init__"), "__init__", "Verdict.__init__", defArgs s_Kept_init, defBody s_Kept_init, defScope s_Kept_init, [], []⟩
def dd_Kept_told : He.DefD := ⟨("Kept", some "told"), "told", "Verdict.told", defArgs s_Kept_told, defBody s_Kept_told, defScope s_Kept_told, [], []⟩
def dd_Kept_left_by_plan : He.DefD := ⟨("Kept", some "left_by_plan"), "left_by_plan", "Verdict.left_by_plan", defArgs s_Kept_left_by_plan, defBody s_Kept_left_by_plan, defScope s_Kept_left_by_plan, [], []⟩
def dd_Full_kept : He.DefD := ⟨("Full", some "kept"), "kept", "Verdict.kept", defArgs s_Full_kept, defBody s_Full_kept, defScope s_Full_kept, [], []⟩
def dd_Full_left_by_plan : He.DefD := ⟨("Full", some "left_by_plan"), "left_by_plan", "Verdict.left_by_plan", defArgs s_Full_left_by_plan, defBody s_Full_left_by_plan, defScope s_Full_left_by_plan, [], []⟩
def hfn : List He.DefD := [dd_is_whole, dd_is_span, dd_merged, dd_tidy, dd_turn_count_in, dd_is_name, dd_is_within, dd_has_numbers, dd_check_load, dd_turns_of, dd_within, dd_outside, dd_excess, dd_marks_of, dd_is_wanted, dd_cells, dd_cells_within, dd_Flow_init, dd_Flow_most, dd_Flow_search, dd_Flow_holders, dd_Flow_narrowest, dd_Flow_push, dd_Flow_share, dd_Flow_lacking, dd_Flow_cut, dd_cell_rows, dd_laid, dd_job_named, dd_Walk_init, dd_Walk_word_for, dd_Walk_go_past, dd_faults, dd_undone, dd_overflow, dd_crowded, dd_Verdict_init, dd_Verdict_kept, dd_Verdict_word, dd_Verdict_told, dd_Verdict_holds, dd_Verdict_left_by_plan, dd_Kept_kept, dd_Kept_word, dd_Kept_holds, dd_Full_init, dd_Full_word, dd_Full_told, dd_Full_holds, dd_settled, dd_is_number, dd_is_row, dd_tidied, dd_Calendar_init, dd_Calendar_keep, dd_Calendar_pieces, dd_Calendar_at, dd_Calendar_over, dd_Calendar_over_spans, dd_Calendar_changes, dd_law_cell_at, dd_law_whole, dd_law_mixed, dd_law_names, dd_law_rows, dd_law_load, dd_law_over, dd_law_inside, dd_law_excess, dd_law_overflow, dd_law_row_right, dd_law_undone, dd_law_formed, dd_law_full_right, dd_law_copied, dd_law, dd_Kept_init, dd_Kept_told, dd_Kept_left_by_plan, dd_Full_kept, dd_Full_left_by_plan]
def hfa0 : List He.Fa := [.glo "is_whole", .glo "is_span", .glo "merged", .glo "tidy", .glo "turn_count_in", .glo "is_name", .glo "is_within", .glo "has_numbers", .glo "check_load", .glo "turns_of", .glo "within", .glo "outside", .glo "excess", .glo "marks_of", .glo "is_wanted", .glo "cells", .glo "cells_within", .glo "cell_rows", .glo "laid", .glo "job_named", .glo "faults", .glo "undone", .glo "overflow", .glo "crowded", .glo "settled", .glo "is_number", .glo "is_row", .glo "tidied", .glo "_law_cell_at", .glo "_law_whole", .glo "_law_mixed", .glo "_law_names", .glo "_law_rows", .glo "_law_load", .glo "_law_over", .glo "_law_inside", .glo "_law_excess", .glo "_law_overflow", .glo "_law_row_right", .glo "_law_undone"]
def hfa1 : List He.Fa := [.glo "_law_formed", .glo "_law_full_right", .glo "_law_copied", .glo "law", .glo "Flow", .cls "Flow", .glo "Walk", .cls "Walk", .glo "Calendar", .cls "Calendar", .glo "Kept", .cls "Kept", .glo "Full", .cls "Full", .glo "Verdict", .cls "Verdict", .mkr "Flow", .noat "Flow" "load", .noat "Flow" "cells", .noat "Flow" "rooms", .noat "Flow" "shares", .noat "Flow" "spare", .noat "Flow" "wanting", .noat "Flow" "reached", .meth "Flow" "search", .meth "Flow" "push", .meth "Flow" "narrowest", .meth "Flow" "most", .meth "Flow" "holders", .meth "Flow" "share", .meth "Flow" "lacking", .meth "Flow" "cut", .mkr "Walk", .noat "Walk" "load", .noat "Walk" "calendar", .noat "Walk" "seats", .noat "Walk" "side", .noat "Walk" "worked", .meth "Walk" "word_for", .meth "Walk" "go_past"]
def hfa2 : List He.Fa := [.mkr "Calendar", .noat "Calendar" "strips", .noat "Calendar" "for_ever", .meth "Calendar" "keep", .meth "Calendar" "pieces", .meth "Calendar" "at", .meth "Calendar" "over", .meth "Calendar" "over_spans", .meth "Calendar" "changes", .mkr "Kept", .noat "Kept" "load", .noat "Kept" "calendar", .noat "Kept" "plan", .meth "Kept" "kept", .meth "Kept" "word", .meth "Kept" "told", .meth "Kept" "holds", .meth "Kept" "left_by_plan", .mkr "Full", .noat "Full" "load", .noat "Full" "calendar", .noat "Full" "plan", .noat "Full" "lack", .noat "Full" "spans", .noat "Full" "names", .meth "Full" "kept", .meth "Full" "word", .meth "Full" "told", .meth "Full" "holds", .meth "Full" "left_by_plan", .int "LAST_TURN" 10000000000, .int "MOST_SPANS" 200, .int "MOST_JOBS" 12, .int "MOST_FIRST" 1000000000, .int "MOST_LAST" 10000000000, .int "MOST_WORK" 60, .int "MOST_BREADTH" 16, .int "MOST_ROWS" 16, .int "MOST_TURNS" 1000000, .int "MOST_MACHINES" 16]
def hfa3 : List He.Fa := [.str "LETTERS" "abcdefghijklmnopqrstuvwxyz", .str "FIGURES" "0123456789", .free "isinstance", .free "int", .free "bool", .free "tuple", .free "list", .free "str", .free "len", .free "sorted", .free "sum", .free "max", .free "min", .free "set", .free "zip", .free "enumerate", .free "range", .free "divmod"]
def hfa : List He.Fa := hfa0 ++ (hfa1 ++ (hfa2 ++ (hfa3)))
theorem tx_of {K : PySem.W.Frag} {h : Heap} {mg : Str → Option Value} (X : K.In h) (G : h.Ns mainGlobals mg) (c : He.SaysD hfa hfn K) (cx : exB K = true) : Tx K mg where
  F_is_whole := c.def_ 0 (d := dd_is_whole) rfl
  g_is_whole := He.glo_ok X G (c.fact 0 (f := .glo "is_whole") rfl)
  F_is_span := c.def_ 1 (d := dd_is_span) rfl
  g_is_span := He.glo_ok X G (c.fact 1 (f := .glo "is_span") rfl)
  F_merged := c.def_ 2 (d := dd_merged) rfl
  g_merged := He.glo_ok X G (c.fact 2 (f := .glo "merged") rfl)
  F_tidy := c.def_ 3 (d := dd_tidy) rfl
  g_tidy := He.glo_ok X G (c.fact 3 (f := .glo "tidy") rfl)
  F_turn_count_in := c.def_ 4 (d := dd_turn_count_in) rfl
  g_turn_count_in := He.glo_ok X G (c.fact 4 (f := .glo "turn_count_in") rfl)
  F_is_name := c.def_ 5 (d := dd_is_name) rfl
  g_is_name := He.glo_ok X G (c.fact 5 (f := .glo "is_name") rfl)
  F_is_within := c.def_ 6 (d := dd_is_within) rfl
  g_is_within := He.glo_ok X G (c.fact 6 (f := .glo "is_within") rfl)
  F_has_numbers := c.def_ 7 (d := dd_has_numbers) rfl
  g_has_numbers := He.glo_ok X G (c.fact 7 (f := .glo "has_numbers") rfl)
  F_check_load := c.def_ 8 (d := dd_check_load) rfl
  g_check_load := He.glo_ok X G (c.fact 8 (f := .glo "check_load") rfl)
  F_turns_of := c.def_ 9 (d := dd_turns_of) rfl
  g_turns_of := He.glo_ok X G (c.fact 9 (f := .glo "turns_of") rfl)
  F_within := c.def_ 10 (d := dd_within) rfl
  g_within := He.glo_ok X G (c.fact 10 (f := .glo "within") rfl)
  F_outside := c.def_ 11 (d := dd_outside) rfl
  g_outside := He.glo_ok X G (c.fact 11 (f := .glo "outside") rfl)
  F_excess := c.def_ 12 (d := dd_excess) rfl
  g_excess := He.glo_ok X G (c.fact 12 (f := .glo "excess") rfl)
  F_marks_of := c.def_ 13 (d := dd_marks_of) rfl
  g_marks_of := He.glo_ok X G (c.fact 13 (f := .glo "marks_of") rfl)
  F_is_wanted := c.def_ 14 (d := dd_is_wanted) rfl
  g_is_wanted := He.glo_ok X G (c.fact 14 (f := .glo "is_wanted") rfl)
  F_cells := c.def_ 15 (d := dd_cells) rfl
  g_cells := He.glo_ok X G (c.fact 15 (f := .glo "cells") rfl)
  F_cells_within := c.def_ 16 (d := dd_cells_within) rfl
  g_cells_within := He.glo_ok X G (c.fact 16 (f := .glo "cells_within") rfl)
  F_Flow_init := c.def_ 17 (d := dd_Flow_init) rfl
  F_Flow_most := c.def_ 18 (d := dd_Flow_most) rfl
  F_Flow_search := c.def_ 19 (d := dd_Flow_search) rfl
  F_Flow_holders := c.def_ 20 (d := dd_Flow_holders) rfl
  F_Flow_narrowest := c.def_ 21 (d := dd_Flow_narrowest) rfl
  F_Flow_push := c.def_ 22 (d := dd_Flow_push) rfl
  F_Flow_share := c.def_ 23 (d := dd_Flow_share) rfl
  F_Flow_lacking := c.def_ 24 (d := dd_Flow_lacking) rfl
  F_Flow_cut := c.def_ 25 (d := dd_Flow_cut) rfl
  F_cell_rows := c.def_ 26 (d := dd_cell_rows) rfl
  g_cell_rows := He.glo_ok X G (c.fact 17 (f := .glo "cell_rows") rfl)
  F_laid := c.def_ 27 (d := dd_laid) rfl
  g_laid := He.glo_ok X G (c.fact 18 (f := .glo "laid") rfl)
  F_job_named := c.def_ 28 (d := dd_job_named) rfl
  g_job_named := He.glo_ok X G (c.fact 19 (f := .glo "job_named") rfl)
  F_Walk_init := c.def_ 29 (d := dd_Walk_init) rfl
  F_Walk_word_for := c.def_ 30 (d := dd_Walk_word_for) rfl
  F_Walk_go_past := c.def_ 31 (d := dd_Walk_go_past) rfl
  F_faults := c.def_ 32 (d := dd_faults) rfl
  g_faults := He.glo_ok X G (c.fact 20 (f := .glo "faults") rfl)
  F_undone := c.def_ 33 (d := dd_undone) rfl
  g_undone := He.glo_ok X G (c.fact 21 (f := .glo "undone") rfl)
  F_overflow := c.def_ 34 (d := dd_overflow) rfl
  g_overflow := He.glo_ok X G (c.fact 22 (f := .glo "overflow") rfl)
  F_crowded := c.def_ 35 (d := dd_crowded) rfl
  g_crowded := He.glo_ok X G (c.fact 23 (f := .glo "crowded") rfl)
  F_Verdict_init := c.def_ 36 (d := dd_Verdict_init) rfl
  F_Verdict_kept := c.def_ 37 (d := dd_Verdict_kept) rfl
  F_Verdict_word := c.def_ 38 (d := dd_Verdict_word) rfl
  F_Verdict_told := c.def_ 39 (d := dd_Verdict_told) rfl
  F_Verdict_holds := c.def_ 40 (d := dd_Verdict_holds) rfl
  F_Verdict_left_by_plan := c.def_ 41 (d := dd_Verdict_left_by_plan) rfl
  F_Kept_kept := c.def_ 42 (d := dd_Kept_kept) rfl
  F_Kept_word := c.def_ 43 (d := dd_Kept_word) rfl
  F_Kept_holds := c.def_ 44 (d := dd_Kept_holds) rfl
  F_Full_init := c.def_ 45 (d := dd_Full_init) rfl
  F_Full_word := c.def_ 46 (d := dd_Full_word) rfl
  F_Full_told := c.def_ 47 (d := dd_Full_told) rfl
  F_Full_holds := c.def_ 48 (d := dd_Full_holds) rfl
  F_settled := c.def_ 49 (d := dd_settled) rfl
  g_settled := He.glo_ok X G (c.fact 24 (f := .glo "settled") rfl)
  F_is_number := c.def_ 50 (d := dd_is_number) rfl
  g_is_number := He.glo_ok X G (c.fact 25 (f := .glo "is_number") rfl)
  F_is_row := c.def_ 51 (d := dd_is_row) rfl
  g_is_row := He.glo_ok X G (c.fact 26 (f := .glo "is_row") rfl)
  F_tidied := c.def_ 52 (d := dd_tidied) rfl
  g_tidied := He.glo_ok X G (c.fact 27 (f := .glo "tidied") rfl)
  F_Calendar_init := c.def_ 53 (d := dd_Calendar_init) rfl
  F_Calendar_keep := c.def_ 54 (d := dd_Calendar_keep) rfl
  F_Calendar_pieces := c.def_ 55 (d := dd_Calendar_pieces) rfl
  F_Calendar_at := c.def_ 56 (d := dd_Calendar_at) rfl
  F_Calendar_over := c.def_ 57 (d := dd_Calendar_over) rfl
  F_Calendar_over_spans := c.def_ 58 (d := dd_Calendar_over_spans) rfl
  F_Calendar_changes := c.def_ 59 (d := dd_Calendar_changes) rfl
  F_law_cell_at := c.def_ 60 (d := dd_law_cell_at) rfl
  g_law_cell_at := He.glo_ok X G (c.fact 28 (f := .glo "_law_cell_at") rfl)
  F_law_whole := c.def_ 61 (d := dd_law_whole) rfl
  g_law_whole := He.glo_ok X G (c.fact 29 (f := .glo "_law_whole") rfl)
  F_law_mixed := c.def_ 62 (d := dd_law_mixed) rfl
  g_law_mixed := He.glo_ok X G (c.fact 30 (f := .glo "_law_mixed") rfl)
  F_law_names := c.def_ 63 (d := dd_law_names) rfl
  g_law_names := He.glo_ok X G (c.fact 31 (f := .glo "_law_names") rfl)
  F_law_rows := c.def_ 64 (d := dd_law_rows) rfl
  g_law_rows := He.glo_ok X G (c.fact 32 (f := .glo "_law_rows") rfl)
  F_law_load := c.def_ 65 (d := dd_law_load) rfl
  g_law_load := He.glo_ok X G (c.fact 33 (f := .glo "_law_load") rfl)
  F_law_over := c.def_ 66 (d := dd_law_over) rfl
  g_law_over := He.glo_ok X G (c.fact 34 (f := .glo "_law_over") rfl)
  F_law_inside := c.def_ 67 (d := dd_law_inside) rfl
  g_law_inside := He.glo_ok X G (c.fact 35 (f := .glo "_law_inside") rfl)
  F_law_excess := c.def_ 68 (d := dd_law_excess) rfl
  g_law_excess := He.glo_ok X G (c.fact 36 (f := .glo "_law_excess") rfl)
  F_law_overflow := c.def_ 69 (d := dd_law_overflow) rfl
  g_law_overflow := He.glo_ok X G (c.fact 37 (f := .glo "_law_overflow") rfl)
  F_law_row_right := c.def_ 70 (d := dd_law_row_right) rfl
  g_law_row_right := He.glo_ok X G (c.fact 38 (f := .glo "_law_row_right") rfl)
  F_law_undone := c.def_ 71 (d := dd_law_undone) rfl
  g_law_undone := He.glo_ok X G (c.fact 39 (f := .glo "_law_undone") rfl)
  F_law_formed := c.def_ 72 (d := dd_law_formed) rfl
  g_law_formed := He.glo_ok X G (c.fact 40 (f := .glo "_law_formed") rfl)
  F_law_full_right := c.def_ 73 (d := dd_law_full_right) rfl
  g_law_full_right := He.glo_ok X G (c.fact 41 (f := .glo "_law_full_right") rfl)
  F_law_copied := c.def_ 74 (d := dd_law_copied) rfl
  g_law_copied := He.glo_ok X G (c.fact 42 (f := .glo "_law_copied") rfl)
  F_law := c.def_ 75 (d := dd_law) rfl
  g_law := He.glo_ok X G (c.fact 43 (f := .glo "law") rfl)
  F_Kept_init := c.def_ 76 (d := dd_Kept_init) rfl
  F_Kept_told := c.def_ 77 (d := dd_Kept_told) rfl
  F_Kept_left_by_plan := c.def_ 78 (d := dd_Kept_left_by_plan) rfl
  F_Full_kept := c.def_ 79 (d := dd_Full_kept) rfl
  F_Full_left_by_plan := c.def_ 80 (d := dd_Full_left_by_plan) rfl
  g_Flow := He.glo_ok X G (c.fact 44 (f := .glo "Flow") rfl)
  c_Flow := He.cls_ok (c.fact 45 (f := .cls "Flow") rfl)
  g_Walk := He.glo_ok X G (c.fact 46 (f := .glo "Walk") rfl)
  c_Walk := He.cls_ok (c.fact 47 (f := .cls "Walk") rfl)
  g_Calendar := He.glo_ok X G (c.fact 48 (f := .glo "Calendar") rfl)
  c_Calendar := He.cls_ok (c.fact 49 (f := .cls "Calendar") rfl)
  g_Kept := He.glo_ok X G (c.fact 50 (f := .glo "Kept") rfl)
  c_Kept := He.cls_ok (c.fact 51 (f := .cls "Kept") rfl)
  g_Full := He.glo_ok X G (c.fact 52 (f := .glo "Full") rfl)
  c_Full := He.cls_ok (c.fact 53 (f := .cls "Full") rfl)
  g_Verdict := He.glo_ok X G (c.fact 54 (f := .glo "Verdict") rfl)
  c_Verdict := He.cls_ok (c.fact 55 (f := .cls "Verdict") rfl)
  k_Flow := He.mkr_ok (c.fact 56 (f := .mkr "Flow") rfl)
  n_Flow_load := He.noat_ok (c.fact 57 (f := .noat "Flow" "load") rfl)
  n_Flow_cells := He.noat_ok (c.fact 58 (f := .noat "Flow" "cells") rfl)
  n_Flow_rooms := He.noat_ok (c.fact 59 (f := .noat "Flow" "rooms") rfl)
  n_Flow_shares := He.noat_ok (c.fact 60 (f := .noat "Flow" "shares") rfl)
  n_Flow_spare := He.noat_ok (c.fact 61 (f := .noat "Flow" "spare") rfl)
  n_Flow_wanting := He.noat_ok (c.fact 62 (f := .noat "Flow" "wanting") rfl)
  n_Flow_reached := He.noat_ok (c.fact 63 (f := .noat "Flow" "reached") rfl)
  m_Flow_search := He.meth_ok (c.fact 64 (f := .meth "Flow" "search") rfl)
  m_Flow_push := He.meth_ok (c.fact 65 (f := .meth "Flow" "push") rfl)
  m_Flow_narrowest := He.meth_ok (c.fact 66 (f := .meth "Flow" "narrowest") rfl)
  m_Flow_most := He.meth_ok (c.fact 67 (f := .meth "Flow" "most") rfl)
  m_Flow_holders := He.meth_ok (c.fact 68 (f := .meth "Flow" "holders") rfl)
  m_Flow_share := He.meth_ok (c.fact 69 (f := .meth "Flow" "share") rfl)
  m_Flow_lacking := He.meth_ok (c.fact 70 (f := .meth "Flow" "lacking") rfl)
  m_Flow_cut := He.meth_ok (c.fact 71 (f := .meth "Flow" "cut") rfl)
  k_Walk := He.mkr_ok (c.fact 72 (f := .mkr "Walk") rfl)
  n_Walk_load := He.noat_ok (c.fact 73 (f := .noat "Walk" "load") rfl)
  n_Walk_calendar := He.noat_ok (c.fact 74 (f := .noat "Walk" "calendar") rfl)
  n_Walk_seats := He.noat_ok (c.fact 75 (f := .noat "Walk" "seats") rfl)
  n_Walk_side := He.noat_ok (c.fact 76 (f := .noat "Walk" "side") rfl)
  n_Walk_worked := He.noat_ok (c.fact 77 (f := .noat "Walk" "worked") rfl)
  m_Walk_word_for := He.meth_ok (c.fact 78 (f := .meth "Walk" "word_for") rfl)
  m_Walk_go_past := He.meth_ok (c.fact 79 (f := .meth "Walk" "go_past") rfl)
  k_Calendar := He.mkr_ok (c.fact 80 (f := .mkr "Calendar") rfl)
  n_Calendar_strips := He.noat_ok (c.fact 81 (f := .noat "Calendar" "strips") rfl)
  n_Calendar_for_ever := He.noat_ok (c.fact 82 (f := .noat "Calendar" "for_ever") rfl)
  m_Calendar_keep := He.meth_ok (c.fact 83 (f := .meth "Calendar" "keep") rfl)
  m_Calendar_pieces := He.meth_ok (c.fact 84 (f := .meth "Calendar" "pieces") rfl)
  m_Calendar_at := He.meth_ok (c.fact 85 (f := .meth "Calendar" "at") rfl)
  m_Calendar_over := He.meth_ok (c.fact 86 (f := .meth "Calendar" "over") rfl)
  m_Calendar_over_spans := He.meth_ok (c.fact 87 (f := .meth "Calendar" "over_spans") rfl)
  m_Calendar_changes := He.meth_ok (c.fact 88 (f := .meth "Calendar" "changes") rfl)
  k_Kept := He.mkr_ok (c.fact 89 (f := .mkr "Kept") rfl)
  n_Kept_load := He.noat_ok (c.fact 90 (f := .noat "Kept" "load") rfl)
  n_Kept_calendar := He.noat_ok (c.fact 91 (f := .noat "Kept" "calendar") rfl)
  n_Kept_plan := He.noat_ok (c.fact 92 (f := .noat "Kept" "plan") rfl)
  m_Kept_kept := He.meth_ok (c.fact 93 (f := .meth "Kept" "kept") rfl)
  m_Kept_word := He.meth_ok (c.fact 94 (f := .meth "Kept" "word") rfl)
  m_Kept_told := He.meth_ok (c.fact 95 (f := .meth "Kept" "told") rfl)
  m_Kept_holds := He.meth_ok (c.fact 96 (f := .meth "Kept" "holds") rfl)
  m_Kept_left_by_plan := He.meth_ok (c.fact 97 (f := .meth "Kept" "left_by_plan") rfl)
  k_Full := He.mkr_ok (c.fact 98 (f := .mkr "Full") rfl)
  n_Full_load := He.noat_ok (c.fact 99 (f := .noat "Full" "load") rfl)
  n_Full_calendar := He.noat_ok (c.fact 100 (f := .noat "Full" "calendar") rfl)
  n_Full_plan := He.noat_ok (c.fact 101 (f := .noat "Full" "plan") rfl)
  n_Full_lack := He.noat_ok (c.fact 102 (f := .noat "Full" "lack") rfl)
  n_Full_spans := He.noat_ok (c.fact 103 (f := .noat "Full" "spans") rfl)
  n_Full_names := He.noat_ok (c.fact 104 (f := .noat "Full" "names") rfl)
  m_Full_kept := He.meth_ok (c.fact 105 (f := .meth "Full" "kept") rfl)
  m_Full_word := He.meth_ok (c.fact 106 (f := .meth "Full" "word") rfl)
  m_Full_told := He.meth_ok (c.fact 107 (f := .meth "Full" "told") rfl)
  m_Full_holds := He.meth_ok (c.fact 108 (f := .meth "Full" "holds") rfl)
  m_Full_left_by_plan := He.meth_ok (c.fact 109 (f := .meth "Full" "left_by_plan") rfl)
  i_LAST_TURN := He.int_ok X G (c.fact 110 (f := .int "LAST_TURN" 10000000000) rfl)
  i_MOST_SPANS := He.int_ok X G (c.fact 111 (f := .int "MOST_SPANS" 200) rfl)
  i_MOST_JOBS := He.int_ok X G (c.fact 112 (f := .int "MOST_JOBS" 12) rfl)
  i_MOST_FIRST := He.int_ok X G (c.fact 113 (f := .int "MOST_FIRST" 1000000000) rfl)
  i_MOST_LAST := He.int_ok X G (c.fact 114 (f := .int "MOST_LAST" 10000000000) rfl)
  i_MOST_WORK := He.int_ok X G (c.fact 115 (f := .int "MOST_WORK" 60) rfl)
  i_MOST_BREADTH := He.int_ok X G (c.fact 116 (f := .int "MOST_BREADTH" 16) rfl)
  i_MOST_ROWS := He.int_ok X G (c.fact 117 (f := .int "MOST_ROWS" 16) rfl)
  i_MOST_TURNS := He.int_ok X G (c.fact 118 (f := .int "MOST_TURNS" 1000000) rfl)
  i_MOST_MACHINES := He.int_ok X G (c.fact 119 (f := .int "MOST_MACHINES" 16) rfl)
  t_LETTERS := He.str_ok X G (c.fact 120 (f := .str "LETTERS" "abcdefghijklmnopqrstuvwxyz") rfl)
  t_FIGURES := He.str_ok X G (c.fact 121 (f := .str "FIGURES" "0123456789") rfl)
  b_isinstance := He.free_ok X G (c.fact 122 (f := .free "isinstance") rfl)
  b_int := He.free_ok X G (c.fact 123 (f := .free "int") rfl)
  b_bool := He.free_ok X G (c.fact 124 (f := .free "bool") rfl)
  b_tuple := He.free_ok X G (c.fact 125 (f := .free "tuple") rfl)
  b_list := He.free_ok X G (c.fact 126 (f := .free "list") rfl)
  b_str := He.free_ok X G (c.fact 127 (f := .free "str") rfl)
  b_len := He.free_ok X G (c.fact 128 (f := .free "len") rfl)
  b_sorted := He.free_ok X G (c.fact 129 (f := .free "sorted") rfl)
  b_sum := He.free_ok X G (c.fact 130 (f := .free "sum") rfl)
  b_max := He.free_ok X G (c.fact 131 (f := .free "max") rfl)
  b_min := He.free_ok X G (c.fact 132 (f := .free "min") rfl)
  b_set := He.free_ok X G (c.fact 133 (f := .free "set") rfl)
  b_zip := He.free_ok X G (c.fact 134 (f := .free "zip") rfl)
  b_enumerate := He.free_ok X G (c.fact 135 (f := .free "enumerate") rfl)
  b_range := He.free_ok X G (c.fact 136 (f := .free "range") rfl)
  b_divmod := He.free_ok X G (c.fact 137 (f := .free "divmod") rfl)
  ex := cx
abbrev RR : PySem.W.OpenRow := PySem.W.OpenLaw.row PySem.Challenge.rw_dueyard_k42_whole_settled
/-- the program's heap holds fewer than 1024 objects behind the top -/
def asL : List Addr := List.range 1024
def obsM (g : Addr → Option Obj) : He.AlD × Bool := (He.obsD hfa hfn (He.frG g asL), exB (He.frG g asL))
def hk : PySem.W.Hook where
  α := He.AlD × Bool
  obs := fun s => obsM s.heap.get?
  val := fun _ => (He.valD hfn, true)
  says := fun _ h => ∃ K : PySem.W.Frag, K.In h ∧ He.SaysD hfa hfn K ∧ exB K = true
  of := fun _ _ e => ⟨_, He.frG_in, congrArg (fun z : He.AlD × Bool => z.1) e, congrArg (fun z : He.AlD × Bool => z.2) e⟩
  keeps := fun _ _ _ ⟨K, hK, c⟩ k => ⟨K, PySem.W.Frag.In.keeps hK k, c⟩
def hob (s : PySem.W.SharedT) : He.AlD × Bool := obsM (HandSHeadRun.getT s)
theorem hob_eq (s : PySem.W.SharedT) : hob s = hk.obs s.abs := by
  have e : HandSHeadRun.getT s = s.abs.heap.get? := funext (HandSHeadRun.getT_eq s)
  unfold hob
  rw [e]; rfl
def loose1 : List Str := [("_wall" : Str), ("YardError" : Str), ("NoName" : Str), ("NoNumber" : Str), ("NoCalendar" : Str), ("NoSpans" : Str), ("TooMany" : Str), ("Twice" : Str), ("LAST_TURN" : Str), ("MOST_SPANS" : Str), ("is_whole" : Str), ("is_span" : Str), ("merged" : Str), ("tidy" : Str), ("turn_count_in" : Str), ("LETTERS" : Str), ("FIGURES" : Str), ("MOST_JOBS" : Str), ("MOST_FIRST" : Str), ("MOST_LAST" : Str), ("MOST_WORK" : Str), ("MOST_BREADTH" : Str), ("is_name" : Str), ("is_within" : Str), ("has_numbers" : Str), ("check_load" : Str), ("turns_of" : Str), ("within" : Str), ("outside" : Str), ("excess" : Str), ("marks_of" : Str), ("is_wanted" : Str), ("cells" : Str), ("cells_within" : Str), ("Flow" : Str), ("cell_rows" : Str)]
def loose2 : List Str := [("laid" : Str), ("job_named" : Str), ("Walk" : Str), ("faults" : Str), ("undone" : Str), ("overflow" : Str), ("crowded" : Str), ("Verdict" : Str), ("Kept" : Str), ("Full" : Str), ("settled" : Str), ("MOST_ROWS" : Str), ("MOST_TURNS" : Str), ("MOST_MACHINES" : Str), ("is_number" : Str), ("is_row" : Str), ("tidied" : Str), ("Calendar" : Str), ("made" : Str), ("_law_cell_at" : Str), ("_law_whole" : Str), ("_law_mixed" : Str), ("_law_names" : Str), ("_law_rows" : Str), ("_law_load" : Str), ("_law_over" : Str), ("_law_inside" : Str), ("_law_excess" : Str), ("_law_overflow" : Str), ("_law_row_right" : Str), ("_law_undone" : Str), ("_law_formed" : Str), ("_law_full_right" : Str), ("_law_copied" : Str)]
def looseA : List Str := loose1 ++ loose2
end Due

set_option Elab.async false
set_option linter.all false
set_option maxRecDepth 100000
set_option maxHeartbeats 4000000
namespace Due
open PySem PySem.Spec PyProof.Rows L2
theorem runA (w : World) (os : OsState) : (HandSHeadRun.endF (HandSHeadRun.stepQ (HandSHeadRun.denQ HandSHeadRun.tabQ) RR.prog w) 8000 RR.prog w os).map (fun s => (HandSHeadRun.looksF RR.prog (PySem.W.boot_heap w.params) s.abs, HandSHeadRun.seenQ (PySem.W.view RR.prog [80]) looseA (importedModules RR.prog.main.body) (fun s => PySem.W.xlAt (PySem.W.view RR.prog [80]) [] s && PySem.W.recOk RR.toRowW.records s) s.abs)) = some (true, PySem.W.openGood (PySem.W.view RR.prog [80]) looseA) := by kernel_rfl
end Due

set_option Elab.async false
set_option linter.all false
set_option maxRecDepth 100000
set_option maxHeartbeats 4000000
namespace Due
open PySem PySem.Spec PyProof.Rows L2
theorem runB (w : World) (os : OsState) : (HandSHeadRun.endF (HandSHeadRun.stepQ (HandSHeadRun.denQ HandSHeadRun.tabQ) RR.prog w) 8000 RR.prog w os).map (fun s => hfa.all fun f => f.ok (He.frG (HandSHeadRun.getT s) asL)) = some true := by kernel_rfl
theorem runC (w : World) (os : OsState) : (HandSHeadRun.endF (HandSHeadRun.stepQ (HandSHeadRun.denQ HandSHeadRun.tabQ) RR.prog w) 8000 RR.prog w os).map (fun s => (hfn.all fun d => d.ok (He.frG (HandSHeadRun.getT s) asL)) && exB (He.frG (HandSHeadRun.getT s) asL)) = some true := by kernel_rfl
theorem runD (w : World) (os : OsState) : (HandSHeadRun.endF (HandSHeadRun.stepQ (HandSHeadRun.denQ HandSHeadRun.tabQ) RR.prog w) 8000 RR.prog w os).map (fun s => hfn.map fun d => He.fnW (He.frG (HandSHeadRun.getT s) asL) d.at_) = some (hfn.map He.DefD.val) := by kernel_rfl
end Due

set_option Elab.async false
set_option linter.all false
set_option maxRecDepth 100000
set_option maxHeartbeats 4000000
namespace Due
open PySem PySem.Spec PyProof.Rows L2
theorem opt_all {α β γ ε : Type} {x : Option α} {f : α → β × γ} {A B E : α → Bool} {m : α → ε} {b : β} {c : γ} {v : ε} (h1 : x.map f = some (b, c)) (h2 : x.map A = some true) (h3 : x.map (fun s => B s && E s) = some true) (h4 : x.map m = some v) :
    x.map (fun s => ((f s).1, (f s).2, (((A s && B s), m s), E s))) = some (b, c, ((true, v), true)) := by
  cases x with
  | none => cases h1
  | some a =>
    have e1 : f a = (b, c) := Option.some.inj h1
    have e2 : A a = true := Option.some.inj h2
    obtain ⟨e3, e4⟩ := Bool.and_eq_true_iff.mp (Option.some.inj h3)
    have e5 : m a = v := Option.some.inj h4
    show some ((f a).1, (f a).2, (((A a && B a), m a), E a)) = _
    rw [e1, e2, e3, e4, e5]; rfl
theorem run (w : World) : HandSHeadRun.RunEq RR (PySem.W.view RR.prog [80]) hk hob 8000 looseA w := by
  intro os
  have a := runA w os
  have b := runB w os
  have c := runC w os
  have d := runD w os
  revert a b c d
  generalize HandSHeadRun.endF (HandSHeadRun.stepQ (HandSHeadRun.denQ HandSHeadRun.tabQ) RR.prog w) 8000 RR.prog w os = x
  intro a b c d
  have h := opt_all a b c d
  exact h
end Due

set_option Elab.async false
set_option linter.all false
set_option maxRecDepth 100000
set_option maxHeartbeats 4000000
namespace Due
open PySem PySem.Spec PyProof.Rows L2

/-! ### heaps -/
theorem Same.at {H H' : Hp} {b : Addr} {o : HO} (s : Same H H') (h : H b = some o) : H' b = some o := s b o h
theorem Same.new {H : Hp} {p : Addr} {o : HO} (h : H p = none) : Same H (upd H p o) := fun b u e => by
  rw [upd_ne (ne_of_none e h)]
  exact e
/-- all but l stands -/
def But (l : Addr) (H H' : Hp) : Prop := ∀ b o, b ≠ l → H b = some o → H' b = some o
theorem But.upd {H : Hp} {l : Addr} {o : HO} : But l H (upd H l o) := fun b u n e => by
  rw [upd_ne n]
  exact e
theorem Same.but {H0 H H' : Hp} {l : Addr} (s : Same H0 H) (n : H0 l = none) (b : But l H H') : Same H0 H' := fun c o e => b c o (fun q => by rw [q, n] at e; cases e) (s c o e)
theorem But.free {H H' : Hp} {l p : Addr} (b : But l H H') (n : p ≠ l) (h : H' p = none) : H p = none := by
  cases q : H p with
  | none => rfl
  | some o =>
    rw [b p o n q] at h
    cases h
theorem But.tup {H H' : Hp} {l q : Addr} {o : HO} {xs : List V} (b : But l H H') (hl : H l = some o) (d : ∀ ys, o ≠ .tup ys) (h : H q = some (.tup xs)) : H' q = some (.tup xs) :=
  b q _ (ne_of h hl fun e => d _ e.symm) h
theorem Same.tot {H H' : Hp} {l : Addr} (b : But l H H') (h : ∀ o, H l = some o → H' l = some o) : Same H H' := fun c o e => by
  by_cases q : c = l
  · rw [q] at e ⊢
    exact h o e
  · exact b c o q e

/-! ### lists of flat tuples -/
/-- at the addresses ps stand the tuples rs -/
def TA' (H : Hp) (ps : List Addr) (rs : List (List V)) : Prop := Paired (fun q r => H q = some (.tup r)) ps rs
theorem prd_imp {α β : Type} {F G : α → β → Prop} : ∀ {l₁ : List α} {l₂ : List β}, Paired F l₁ l₂ → (∀ a b, F a b → G a b) → Paired G l₁ l₂
  | _, _, .nil, _ => .nil
  | _, _, .cons r t, f => .cons (f _ _ r) (prd_imp t f)
theorem prd_len {α β : Type} {F : α → β → Prop} : ∀ {l₁ : List α} {l₂ : List β}, Paired F l₁ l₂ → l₁.length = l₂.length
  | _, _, .nil => rfl
  | _, _, .cons _ t => congrArg Nat.succ (prd_len t)
theorem prd_at {α β : Type} {F : α → β → Prop} : ∀ {l₁ : List α} {l₂ : List β}, Paired F l₁ l₂ → ∀ {i : Nat} {a : α}, l₁[i]? = some a → ∃ b, l₂[i]? = some b ∧ F a b
  | _, _, .nil, i, a, h => by simp at h
  | _, _, .cons r t, 0, a, h => by
    have e : _ = a := Option.some.inj h
    exact ⟨_, rfl, e ▸ r⟩
  | _, _, .cons r t, i + 1, a, h => prd_at t (i := i) (by simpa using h)
theorem prd_at2 {α β : Type} {F : α → β → Prop} : ∀ {l₁ : List α} {l₂ : List β}, Paired F l₁ l₂ → ∀ {i : Nat} {b : β}, l₂[i]? = some b → ∃ a, l₁[i]? = some a ∧ F a b
  | _, _, .nil, i, a, h => by simp at h
  | _, _, .cons r t, 0, a, h => by
    have e : _ = a := Option.some.inj h
    exact ⟨_, rfl, e ▸ r⟩
  | _, _, .cons r t, i + 1, a, h => prd_at2 t (i := i) (by simpa using h)
/-- a list of tuples -/
structure LT (H : Hp) (l : Addr) (ps : List Addr) (rs : List (List V)) : Prop where
  at_ : H l = some (.lst (ps.map V.ref))
  tt : TA' H ps rs
theorem TA'.same {H H' : Hp} {ps : List Addr} {rs : List (List V)} (s : Same H H') (h : TA' H ps rs) : TA' H' ps rs := prd_imp h fun _ _ e => s _ _ e
theorem TA'.but {H H' : Hp} {l : Addr} {o : HO} {ps : List Addr} {rs : List (List V)} (b : But l H H') (hl : H l = some o) (d : ∀ ys, o ≠ .tup ys) (h : TA' H ps rs) : TA' H' ps rs := prd_imp h fun _ _ e => b.tup hl d e
theorem LT.same {H H' : Hp} {l : Addr} {ps : List Addr} {rs : List (List V)} (s : Same H H') (h : LT H l ps rs) : LT H' l ps rs := ⟨s _ _ h.at_, h.tt.same s⟩
theorem LT.but {H H' : Hp} {l p : Addr} {o : HO} {ps : List Addr} {rs : List (List V)} (b : But l H H') (hl : H l = some o) (d : ∀ ys, o ≠ .tup ys) (n : p ≠ l) (h : LT H p ps rs) : LT H' p ps rs := ⟨b _ _ n h.at_, h.tt.but b hl d⟩
theorem LT.len {H : Hp} {l : Addr} {ps : List Addr} {rs : List (List V)} (h : LT H l ps rs) : ps.length = rs.length := (prd_len h.tt)
theorem LT.item {H : Hp} {l : Addr} {ps : List Addr} {rs : List (List V)} (h : LT H l ps rs) {i : Nat} {x : V} (e : (ps.map V.ref)[i]? = some x) : ∃ q r, x = .ref q ∧ ps[i]? = some q ∧ rs[i]? = some r ∧ H q = some (.tup r) := by
  rw [List.getElem?_map] at e
  cases e2 : ps[i]? with
  | none => rw [e2] at e; cases e
  | some q =>
    rw [e2] at e
    obtain ⟨r, h1, h2⟩ := prd_at h.tt e2
    exact ⟨q, r, (Option.some.inj e).symm, rfl, h1, h2⟩
theorem LT.get {H : Hp} {l : Addr} {ps : List Addr} {rs : List (List V)} (h : LT H l ps rs) {i : Nat} {r : List V} (e : rs[i]? = some r) : ∃ q, ps[i]? = some q ∧ (ps.map V.ref)[i]? = some (.ref q) ∧ H q = some (.tup r) := by
  obtain ⟨q, h1, h2⟩ := prd_at2 h.tt e
  exact ⟨q, h1, by rw [List.getElem?_map, h1]; rfl, h2⟩
theorem TA'.snoc {H : Hp} {ps : List Addr} {rs : List (List V)} {q : Addr} {r : List V} (h : TA' H ps rs) (e : H q = some (.tup r)) : TA' H (ps ++ [q]) (rs ++ [r]) := PySem.Paired.snoc h e
theorem TA'.append {H : Hp} : ∀ {ps qs : List Addr} {rs ss : List (List V)}, TA' H ps rs → TA' H qs ss → TA' H (ps ++ qs) (rs ++ ss)
  | _, _, _, _, .nil, h => h
  | _, _, _, _, .cons r t, h => .cons r (TA'.append t h)

/-! ### the readings' rules: weakest preconditions by the heads -/
section
variable {K : PySem.W.Frag} {σ : L2.St} {H : Hp} {Q : VK} {QT : Bool → Hp → Prop} {QS : L2.St → Hp → Prop} {QA : List V → Hp → Prop} {nx bk ct : L2.St → Hp → Prop} {rt : VK} {t u : TS} {te ta tb tc : TE} {c c' : TT} {g : TG} {i : Nat} {v x y : V}
theorem w_seq (h : t ⟨fun σ' H' => u ⟨nx, rt, bk, ct⟩ σ' H', rt, bk, ct⟩ σ H) : tSeq t u ⟨nx, rt, bk, ct⟩ σ H := h
theorem w_next (h : nx σ H) : tNext ⟨nx, rt, bk, ct⟩ σ H := h
theorem w_brk (h : bk σ H) : tBreak ⟨nx, rt, bk, ct⟩ σ H := h
theorem w_cont (h : ct σ H) : tCont ⟨nx, rt, bk, ct⟩ σ H := h
theorem w_asg (h : te σ H fun x H1 => g x σ H1 nx) : tAsg te g ⟨nx, rt, bk, ct⟩ σ H := h
theorem w_name (h : QS (σ.set i (some v)) H) : gName i v σ H QS := h
theorem w_ret (h : te σ H rt) : tRet te ⟨nx, rt, bk, ct⟩ σ H := h
theorem w_retN (h : rt .non H) : tRetN ⟨nx, rt, bk, ct⟩ σ H := h
theorem w_drop (h : te σ H fun _ H1 => nx σ H1) : tDrop te ⟨nx, rt, bk, ct⟩ σ H := h
theorem w_ifs (h : c σ H fun b H1 => if b = true then t ⟨nx, rt, bk, ct⟩ σ H1 else u ⟨nx, rt, bk, ct⟩ σ H1) : tIfS c t u ⟨nx, rt, bk, ct⟩ σ H := h
theorem w_aug {ti : TIp} (e : σ[i]? = some (some x)) (h : te σ H fun y H1 => ti x y H1 fun z H2 => nx (σ.set i (some z)) H2) : tAug i te ti ⟨nx, rt, bk, ct⟩ σ H := ⟨x, e, h⟩
theorem w_ipI {f : Int → Int → Int} {a b : Int} (h : Q (.int (f a b)) H) : ipI f (.int a) (.int b) H Q := ⟨a, b, rfl, rfl, h⟩
theorem w_gtup {n : Nat} {gs : TGs} {a : Addr} {xs : List V} (e : H a = some (.tup xs)) (hn : xs.length = n) (h : gs xs σ H QS) : gTup K n gs (.ref a) σ H QS := ⟨a, xs, rfl, SqT.of e, hn, h⟩
theorem w_gcons {gs : TGs} {r : List V} (h : g v σ H fun σ' H' => gs r σ' H' QS) : gCons g gs (v :: r) σ H QS := ⟨v, r, rfl, h⟩
theorem w_gnil (h : QS σ H) : gNil [] σ H QS := ⟨rfl, h⟩
/-! expressions -/
theorem w_var (e : σ[i]? = some (some v)) (h : Q v H) : tVar i σ H Q := ⟨v, e, h⟩
theorem w_c (h : Q v H) : tC v σ H Q := h
theorem w_op {r : R2} (h : ta σ H fun x H1 => tb σ H1 fun y H2 => r x y H2 Q) : tOp r ta tb σ H Q := h
theorem w_un {r : V → Hp → VK → Prop} (h : ta σ H fun x H1 => r x H1 Q) : tUn r ta σ H Q := h
theorem w_I0 {f : Int → Int → V} {a b : Int} (h : Q (f a b) H) : rI0 f (.int a) (.int b) H Q := ⟨a, b, rfl, rfl, h⟩
theorem w_I {C : Int → Int → Prop} {f : Int → Int → V} {a b : Int} (hc : C a b) (h : Q (f a b) H) : rI C f (.int a) (.int b) H Q := ⟨a, b, rfl, rfl, hc, h⟩
theorem w_U {f : Int → V} {a : Int} (h : Q (f a) H) : rU f (.int a) H Q := ⟨a, rfl, h⟩
theorem w_eq (e : scal x y = true) (h : Q (.bl (decide (x = y))) H) : rEq x y H Q := ⟨e, h⟩
theorem w_ne (e : scal x y = true) (h : Q (.bl (!decide (x = y))) H) : rNe x y H Q := ⟨e, h⟩
theorem w_cmp {p : Int → Int → Bool} (h : ta σ H fun x H1 => tb σ H1 fun y H2 => rI0 (fun i j => .bl (p i j)) x y H2 Q) : tCmp p ta tb σ H Q := h
theorem w_isN (h : ta σ H fun x H1 => Q (.bl (decide (x = .non))) H1) : tIsN ta σ H Q := h
theorem w_notN (h : ta σ H fun x H1 => Q (.bl (!decide (x = .non))) H1) : tNotN ta σ H Q := h
def rBl (QT : Bool → Hp → Prop) (x : V) (H : Hp) : Prop := ∃ c, x = .bl c ∧ QT c H
theorem w_rBl {b : Bool} (h : QT b H) : rBl QT (.bl b) H := ⟨b, rfl, h⟩
theorem w_B (h : te σ H fun x H1 => rBl QT x H1) : tB te σ H QT := h
theorem w_test (h : te σ H fun x H1 => rBl QT x H1) : tTest te σ H QT := h
theorem w_and (h : c σ H fun b H1 => if b = true then c' σ H1 QT else QT false H1) : tAnd c c' σ H QT := h
theorem w_or (h : c σ H fun b H1 => if b = true then QT true H1 else c' σ H1 QT) : tOr c c' σ H QT := h
theorem w_not (h : c σ H fun b H1 => QT (!b) H1) : tNot c σ H QT := h
theorem w_andV (h : ta σ H fun x H1 => rBl (fun b H1 => if b = true then tb σ H1 Q else Q (.bl false) H1) x H1) : tAndV ta tb σ H Q := h
theorem w_orV (h : ta σ H fun x H1 => rBl (fun b H1 => if b = true then Q (.bl true) H1 else tb σ H1 Q) x H1) : tOrV ta tb σ H Q := h
theorem w_notV (h : ta σ H fun x H1 => rBl (fun b H1 => Q (.bl (!b)) H1) x H1) : tNotV ta σ H Q := h
theorem w_chain {r r' : R2} (h : ta σ H fun x H1 => tb σ H1 fun y H2 => r x y H2 fun z H3 => rBl (fun k H3 => if k = true then tc σ H3 fun w' H4 => r' y w' H4 Q else Q (.bl false) H3) z H3) : tChain r r' ta tb tc σ H Q := h
/-! fields -/
def rFld (K : PySem.W.Frag) (f : Str) (x : V) (H : Hp) (Q : VK) : Prop := ∃ a C dx fs v, x = .ref a ∧ H a = some (.ins C dx fs) ∧ Cls K C ∧ NoAttr K C f ∧ fs.lookup f = some v ∧ Q v H
theorem w_fld {f : Str} (h : ta σ H fun x H1 => rFld K f x H1 Q) : tFld K ta f σ H Q := h
theorem w_rFld {f : Str} {a C dx : Addr} {fs : List (Str × V)} (ho : H a = some (.ins C dx fs)) (hc : Cls K C) (hn : NoAttr K C f) (hl : fs.lookup f = some v) (h : Q v H) : rFld K f (.ref a) H Q := ⟨a, C, dx, fs, v, rfl, ho, hc, hn, hl, h⟩
def rSetF (K : PySem.W.Frag) (f : Str) (y x : V) (H : Hp) (σ : L2.St) (QS : L2.St → Hp → Prop) : Prop := ∃ a C dx fs, x = .ref a ∧ H a = some (.ins C dx fs) ∧ Cls K C ∧ NoAttr K C f ∧ fs.length < 1000 ∧ QS σ (upd H a (.ins C dx (putF f y fs)))
theorem w_sfld {f : Str} (h : tb σ H fun y H1 => ta σ H1 fun x H2 => rSetF K f y x H2 σ nx) : sFld K ta tb f ⟨nx, rt, bk, ct⟩ σ H := h
theorem w_rSetF {f : Str} {a C dx : Addr} {fs : List (Str × V)} (ho : H a = some (.ins C dx fs)) (hc : Cls K C) (hn : NoAttr K C f) (hl : fs.length < 1000)
    (h : ∀ H', But a H H' → H' a = some (.ins C dx (putF f y fs)) → QS σ H') : rSetF K f y (.ref a) H σ QS := ⟨a, C, dx, fs, rfl, ho, hc, hn, hl, h _ But.upd upd_same⟩
/-! arguments, calls -/
theorem w_nil (h : QA [] H) : tNil σ H QA := h
theorem w_cons {tr : TA} (h : ta σ H fun x H1 => tr σ H1 fun xs H2 => QA (x :: xs) H2) : tCons ta tr σ H QA := h
theorem w_call {sp : Sp} {E : XK} {tr : TA} (h : tr σ H fun vs H1 => sp vs H1 Q E) : tCall sp [] E tr σ H Q := by
  unfold tCall
  simp only [List.append_nil]
  exact h
def rMeth (C : Addr) (m : Str) (x : V) (H : Hp) : Prop := ∃ a dx fs, x = .ref a ∧ H a = some (.ins C dx fs) ∧ fs.lookup m = none
theorem w_rMeth {C : Addr} {m : Str} {a dx : Addr} {fs : List (Str × V)} (ho : H a = some (.ins C dx fs)) (hl : fs.lookup m = none) : rMeth C m (.ref a) H := ⟨a, dx, fs, rfl, ho, hl⟩
def rRecv (C : Addr) (m : Str) (x : V) (H : Hp) (R : Hp → Prop) : Prop := ∃ a dx fs, x = .ref a ∧ H a = some (.ins C dx fs) ∧ fs.lookup m = none ∧ R H
theorem w_rRecv {C : Addr} {m : Str} {a dx : Addr} {fs : List (Str × V)} {R : Hp → Prop} (ho : H a = some (.ins C dx fs)) (hl : fs.lookup m = none) (h : R H) : rRecv C m (.ref a) H R := ⟨a, dx, fs, rfl, ho, hl, h⟩
theorem w_meth {C : Addr} {m : Str} {sp : Sp} {E : XK} {tr : TA} (h : ta σ H fun x H1 => rRecv C m x H1 fun H1 => tr σ H1 fun vs H2 => sp (x :: vs) H2 Q E) : tMeth C m sp [] E ta tr σ H Q := by
  unfold tMeth
  simp only [List.append_nil]
  exact h
def rNewI (C : Addr) (sp : Sp) (E : XK) (vs : List V) (H : Hp) (Q : VK) : Prop := ∀ x dx, H x = none → H dx = none → dx ≠ x → sp (.ref x :: vs) (upd (upd H dx (.own x)) x (.ins C dx [])) (fun v H2 => v = .non ∧ Q (.ref x) H2) E
theorem w_make {C : Addr} {sp : Sp} {E : XK} {tr : TA} (h : tr σ H fun vs H1 => rNewI C sp E vs H1 Q) : tMake C sp [] E tr σ H Q := by
  unfold tMake
  simp only [List.append_nil]
  exact h
theorem w_rNewI {C : Addr} {sp : Sp} {E : XK} {vs : List V} (h : ∀ x dx H', H x = none → Same H H' → H' x = some (.ins C dx []) → sp (.ref x :: vs) H' (fun v H2 => v = .non ∧ Q (.ref x) H2) E) : rNewI C sp E vs H Q := fun x dx nx nd ne =>
  h x dx _ nx (fun b o e => by rw [upd_ne (ne_of_none e nx), upd_ne (ne_of_none e nd)]; exact e) upd_same
theorem w_CB {r : List V → Hp → VK → Prop} {tr : TA} (h : tr σ H fun vs H1 => r vs H1 Q) : tCB r tr σ H Q := h
def rTy (K : PySem.W.Frag) (T : String) (x : V) (H : Hp) (R : Prop) : Prop := tyV K T x H ∧ R
theorem w_BM0 {T : String} {r : V → List V → Hp → VK → Prop} (h : ta σ H fun x H1 => rTy K T x H1 (r x [] H1 Q)) : tBM0 K T r ta σ H Q := h
theorem w_BM {T : String} {r : V → List V → Hp → VK → Prop} {tr : TA} (h : ta σ H fun x H1 => rTy K T x H1 (tr σ H1 fun xs H2 => r x xs H2 Q)) : tBM K T r ta tr σ H Q := h
theorem w_rTyL {l : Addr} {xs : List V} {R : Prop} (e : H l = some (.lst xs)) (h : R) : rTy K "list" (.ref l) H R := ⟨.inl ⟨rfl, _, SqL.of e⟩, h⟩
theorem w_append {l : Addr} {xs : List V} (e : H l = some (.lst xs)) (hz : xs.length < sizeLine) (h : ∀ H', But l H H' → H' l = some (.lst (xs ++ [y])) → Q .non H') : rAppend (.ref l) [y] H Q :=
  ⟨l, xs, y, rfl, rfl, e, hz, h _ But.upd upd_same⟩
/-! new tuples and lists -/
def rNewT (xs : List V) (H : Hp) (Q : VK) : Prop := xs.length ≤ sizeLine ∧ ∀ p, H p = none → Q (.ref p) (upd H p (.tup xs))
def rNewL (xs : List V) (H : Hp) (Q : VK) : Prop := xs.length ≤ sizeLine ∧ ∀ p, H p = none → Q (.ref p) (upd H p (.lst xs))
theorem w_tup {tr : TA} (h : tr σ H fun xs H1 => rNewT xs H1 Q) : tTup tr σ H Q := h
theorem w_lst {tr : TA} (h : tr σ H fun xs H1 => rNewL xs H1 Q) : tLst tr σ H Q := h
theorem w_newT {xs : List V} (hz : xs.length ≤ sizeLine) (h : ∀ p H', H p = none → Same H H' → H' p = some (.tup xs) → Q (.ref p) H') : rNewT xs H Q := ⟨hz, fun p hp => h p _ hp (Same.new hp) upd_same⟩
theorem w_newL {xs : List V} (hz : xs.length ≤ sizeLine) (h : ∀ p H', H p = none → Same H H' → H' p = some (.lst xs) → Q (.ref p) H') : rNewL xs H Q := ⟨hz, fun p hp => h p _ hp (Same.new hp) upd_same⟩
/-! indices -/
theorem w_ixL {p : Addr} {xs : List V} {k : Int} (e : H p = some (.lst xs)) (ha : atI xs k = some v) (h : Q v H) : rIxL K (.ref p) (.int k) H Q := ⟨p, xs, k, v, rfl, rfl, SqL.of e, ha, h⟩
theorem w_ixT {p : Addr} {xs : List V} {k : Int} (e : H p = some (.tup xs)) (ha : atI xs k = some v) (h : Q v H) : rIxT K (.ref p) (.int k) H Q := ⟨p, xs, k, v, rfl, rfl, SqT.of e, ha, h⟩
/-! for -/
def Lp (J : It) (g : TG) (tb : TS) (nx : L2.St → Hp → Prop) (rt : VK) (σ : L2.St) (H : Hp) : Prop := ∃ W : Nat → Nat → L2.St → Hp → Prop, (∃ m, W 0 m σ H) ∧ ∀ i m σ H, W i m σ H →
  (J.stop i H ∧ nx σ H) ∨ (J.go i H ∧ ∃ N : L2.St → Hp → Prop, (∀ σ' H', N σ' H' → ∃ m', m' < m ∧ W (i + 1) m' σ' H') ∧ ∀ x H', J.yld i H x H' → g x σ H' fun σ2 H2 => tb ⟨N, rt, nx, N⟩ σ2 H2)
theorem w_for {wi : TI} (h : wi σ H fun J H1 => Lp J g t nx rt σ H1) : tFor wi g t ⟨nx, rt, bk, ct⟩ σ H := h
def rIt (K : PySem.W.Frag) (x : V) (H : Hp) (R : It → Hp → Prop) : Prop := ∃ a, x = .ref a ∧ (∃ xs, SqL K H a xs) ∧ R (Itl K a) H
theorem w_iList {R : It → Hp → Prop} (h : te σ H fun x H1 => rIt K x H1 R) : iList K te σ H R := h
theorem w_rIt {R : It → Hp → Prop} {a : Addr} {xs : List V} (e : H a = some (.lst xs)) (h : R (Itl K a) H) : rIt K (.ref a) H R := ⟨a, rfl, ⟨xs, SqL.of e⟩, h⟩
def rItT (K : PySem.W.Frag) (x : V) (H : Hp) (R : It → Hp → Prop) : Prop := ∃ a, x = .ref a ∧ (∃ xs, SqT K H a xs) ∧ R (Itt K a) H
theorem w_iTup {R : It → Hp → Prop} (h : te σ H fun x H1 => rItT K x H1 R) : iTup K te σ H R := h
theorem w_rItT {R : It → Hp → Prop} {a : Addr} {xs : List V} (e : H a = some (.tup xs)) (h : R (Itt K a) H) : rItT K (.ref a) H R := ⟨a, rfl, ⟨xs, SqT.of e⟩, h⟩
theorem lp_walk {J : It} {n : Nat} {G : Hp → Prop} {Y : Nat → Hp → V → Hp → Prop} (w : Walk J n G Y) (Pv : Nat → L2.St → Hp → Prop) (h0 : Pv 0 σ H) (hG : ∀ i σ H, i ≤ n → Pv i σ H → G H)
    (hs : ∀ i x σ H H', i < n → Pv i σ H → Y i H x H' → g x σ H' fun σ2 H2 => t ⟨Pv (i + 1), rt, nx, Pv (i + 1)⟩ σ2 H2) (hd : ∀ σ H, Pv n σ H → nx σ H) : Lp J g t nx rt σ H :=
  for_it (D := ⟨nx, rt, fun _ _ => False, fun _ _ => False⟩) w Pv h0 hG hs hd
theorem lp_list {a : Addr} {xs : List V} (Pv : Nat → L2.St → Hp → Prop) (h0 : Pv 0 σ H) (hG : ∀ i σ H, i ≤ xs.length → Pv i σ H → H a = some (.lst xs))
    (hs : ∀ i x σ H, i < xs.length → xs[i]? = some x → Pv i σ H → g x σ H fun σ2 H2 => t ⟨Pv (i + 1), rt, nx, Pv (i + 1)⟩ σ2 H2) (hd : ∀ σ H, Pv xs.length σ H → nx σ H) : Lp (Itl K a) g t nx rt σ H :=
  lp_walk (walk_list (xs := xs)) Pv h0 (fun i σ H hi p => SqL.of (hG i σ H hi p)) (fun i x σ H H' hi p y => by obtain ⟨rfl, e⟩ := y; exact hs i x σ H' hi e p) hd
theorem lp_tup {a : Addr} {xs : List V} (Pv : Nat → L2.St → Hp → Prop) (h0 : Pv 0 σ H) (hG : ∀ i σ H, i ≤ xs.length → Pv i σ H → H a = some (.tup xs))
    (hs : ∀ i x σ H, i < xs.length → xs[i]? = some x → Pv i σ H → g x σ H fun σ2 H2 => t ⟨Pv (i + 1), rt, nx, Pv (i + 1)⟩ σ2 H2) (hd : ∀ σ H, Pv xs.length σ H → nx σ H) : Lp (Itt K a) g t nx rt σ H :=
  lp_walk (walk_tup (xs := xs)) Pv h0 (fun i σ H hi p => SqT.of (hG i σ H hi p)) (fun i x σ H H' hi p y => by obtain ⟨rfl, e⟩ := y; exact hs i x σ H' hi e p) hd
/-- over a list of tuples: the items are tuples -/
theorem lp_LT {a : Addr} {ps : List Addr} {rs : List (List V)} (Pv : Nat → L2.St → Hp → Prop) (h0 : Pv 0 σ H) (hG : ∀ i σ H, i ≤ rs.length → Pv i σ H → LT H a ps rs)
    (hs : ∀ i q r σ H, i < rs.length → ps[i]? = some q → rs[i]? = some r → H q = some (.tup r) → Pv i σ H → g (.ref q) σ H fun σ2 H2 => t ⟨Pv (i + 1), rt, nx, Pv (i + 1)⟩ σ2 H2) (hd : ∀ σ H, Pv rs.length σ H → nx σ H) : Lp (Itl K a) g t nx rt σ H := by
  have L := hG 0 σ H (Nat.zero_le _) h0
  have hl : (ps.map V.ref).length = rs.length := by rw [List.length_map]; exact L.len
  refine lp_list (xs := ps.map V.ref) Pv h0 (fun i σ H hi p => (hG i σ H (by omega) p).at_) (fun i x σ H hi e p => ?_) (fun σ H p => hd σ H (by rw [hl] at p; exact p))
  obtain ⟨q, r, rfl, e1, e2, e3⟩ := (hG i σ H (by omega) p).item e
  exact hs i q r σ H (by omega) e1 e2 e3 p
/-! comprehensions -/
def LpC (J : It) (g : TG) (tt : TT) (te : TE) (vs : List Nat) (D : Addr) (Qd : Hp → Prop) (σ : L2.St) (H1 : Hp) : Prop := ∃ W : Nat → Nat → Hp → Prop, (∃ m, W 0 m (upd H1 D (.lst []))) ∧ ∀ i m H, W i m H →
  (J.stop i H ∧ Qd H) ∨ (J.go i H ∧ ∃ Nx : Hp → Prop, (∀ H', Nx H' → ∃ m', m' < m ∧ W (i + 1) m' H') ∧ ∀ x H', J.yld i H x H' → g x (wipe σ vs) H' fun σ2 H2 => wipe σ2 vs = wipe σ vs ∧ tt σ2 H2 fun b H3 =>
    if b = true then te σ2 H3 fun y H4 => ∃ acc, H4 D = some (.lst acc) ∧ acc.length < sizeLine ∧ Nx (upd H4 D (.lst (acc ++ [y]))) else Nx H3)
theorem w_lc {wi : TI} {tt : TT} {vs : List Nat} (h : wi σ H fun J H1 => ∀ D, H1 D = none → LpC J g tt te vs D (fun H => Q (.ref D) H) σ H1) : tLc wi g tt te vs σ H Q := h
def rAcc (D : Addr) (N : List V → V → Hp → Prop) (y : V) (H : Hp) : Prop := ∃ acc, H D = some (.lst acc) ∧ acc.length < sizeLine ∧ N acc y H
theorem w_yes (h : QT true H) : tYes σ H QT := h
end
theorem ifT {p : Prop} [Decidable p] {A B : Prop} (h : p) (a : A) : if decide p = true then A else B := by
  rw [decide_eq_true h]
  exact iteT a
theorem ifF {p : Prop} [Decidable p] {A B : Prop} (h : ¬ p) (a : B) : if decide p = true then A else B := by
  rw [decide_eq_false h]
  exact iteF a
theorem ifD {p : Prop} [Decidable p] {A B : Prop} (h1 : p → A) (h2 : ¬ p → B) : if decide p = true then A else B := by
  by_cases h : p
  · exact ifT h (h1 h)
  · exact ifF h (h2 h)
theorem ifnT {p : Prop} [Decidable p] {A B : Prop} (h : ¬ p) (a : A) : if (!decide p) = true then A else B := by
  rw [decide_eq_false h]
  exact iteT a
theorem ifnF {p : Prop} [Decidable p] {A B : Prop} (h : p) (a : B) : if (!decide p) = true then A else B := by
  rw [decide_eq_true h]
  exact iteF a
theorem ifnD {p : Prop} [Decidable p] {A B : Prop} (h1 : ¬ p → A) (h2 : p → B) : if (!decide p) = true then A else B := by
  by_cases h : p
  · exact ifnF h (h2 h)
  · exact ifnT h (h1 h)
theorem ifB {b : Bool} {A B : Prop} (h1 : b = true → A) (h2 : b = false → B) : if b = true then A else B := by
  cases b with
  | true => exact iteT (h1 rfl)
  | false => exact iteF (h2 rfl)
/-! ### built-ins by name -/
def rLenL (K : PySem.W.Frag) : List V → Hp → VK → Prop := fun xs H Q => ∃ p ys, xs = [.ref p] ∧ (SqL K H p ys ∨ SqT K H p ys) ∧ Q (.int ys.length) H
def rMax2 : List V → Hp → VK → Prop := fun xs H Q => ∃ i j, xs = [.int i, .int j] ∧ Q (.int (if j > i then j else i)) H
def rMin2 : List V → Hp → VK → Prop := fun xs H Q => ∃ i j, xs = [.int i, .int j] ∧ Q (.int (if j < i then j else i)) H
def rDm : List V → Hp → VK → Prop := fun xs H Q => ∃ i j, xs = [.int i, .int j] ∧ CDiv i j ∧ ∀ p, H p = none → Q (.ref p) (upd H p (.tup [.int (i / j), .int (i % j)]))
def rListOf (K : PySem.W.Frag) : List V → Hp → VK → Prop := fun xs H Q => ∃ p ys, xs = [.ref p] ∧ (SqL K H p ys ∨ SqT K H p ys) ∧ ∀ l, H l = none → Q (.ref l) (upd H l (.lst ys))
section
variable {X : Cx} {K : PySem.W.Frag} {H : Hp} {Q : VK}
theorem c_len : CallR X (.builtin "len") (rLenL X.K) := call_len_seq
theorem c_max2 (hc : X.calm = true) : CallR X (.builtin "max") rMax2 := call_max2 hc
theorem c_min2 (hc : X.calm = true) : CallR X (.builtin "min") rMin2 := call_min2 hc
theorem c_divmod : CallR X (.builtin "divmod") rDm := call_divmod
theorem c_list : CallR X (.type "list") (rListOf X.K) := call_list_of
theorem w_lenL {p : Addr} {xs : List V} (e : H p = some (.lst xs)) (h : Q (.int xs.length) H) : rLenL K [.ref p] H Q := ⟨p, xs, rfl, .inl (SqL.of e), h⟩
theorem w_lenT {p : Addr} {xs : List V} (e : H p = some (.tup xs)) (h : Q (.int xs.length) H) : rLenL K [.ref p] H Q := ⟨p, xs, rfl, .inr (SqT.of e), h⟩
theorem w_max2 {i j : Int} (h : Q (.int (max i j)) H) : rMax2 [.int i, .int j] H Q := ⟨i, j, rfl, by
  have e : (if j > i then j else i) = max i j := by split <;> omega
  rw [e]
  exact h⟩
theorem w_min2 {i j : Int} (h : Q (.int (min i j)) H) : rMin2 [.int i, .int j] H Q := ⟨i, j, rfl, by
  have e : (if j < i then j else i) = min i j := by split <;> omega
  rw [e]
  exact h⟩
theorem w_listL {p : Addr} {xs : List V} (e : H p = some (.lst xs)) (h : ∀ l H', H l = none → Same H H' → H' l = some (.lst xs) → Q (.ref l) H') : rListOf K [.ref p] H Q :=
  ⟨p, xs, rfl, .inl (SqL.of e), fun l hl => h l _ hl (Same.new hl) upd_same⟩
theorem w_listT {p : Addr} {xs : List V} (e : H p = some (.tup xs)) (h : ∀ l H', H l = none → Same H H' → H' l = some (.lst xs) → Q (.ref l) H') : rListOf K [.ref p] H Q :=
  ⟨p, xs, rfl, .inr (SqT.of e), fun l hl => h l _ hl (Same.new hl) upd_same⟩
theorem w_isi {x : V} {n m : String} {b : Bool} (ty : TyOf K H x (.type n)) (e : kitB n m = some b) (h : Q (.bl b) H) : rIsi K [x, .ty m] H Q := ⟨x, .ty m, .type n, .type m, b, rfl, .ty m, .base ty, kit_ty e, h⟩
theorem w_sum {a : Addr} {ns : List Int} (e : H a = some (.lst (ns.map V.int))) (h : Q (.int ns.sum) H) : rSum K [.ref a] H Q := ⟨a, ns, rfl, SqL.of e, h⟩
end
/-! ### a def of the text with its promise -/
structure Cd (P : Program) (w : World) (K : PySem.W.Frag) (mg : Str → Option Value) (base : Heap) (k : Nat) (f : Addr) (ps : List Str) (sp : Sp) (fd : FuncData) : Prop where
  ok : FnOk P w K mg base CX0 k f fd ps sp
  bn : Binds K fd ps []
  kp : PySem.W.keepIn K (.ref f) = true
end Due

set_option Elab.async false
set_option linter.all false
set_option maxRecDepth 100000
set_option maxHeartbeats 4000000
namespace Due
open PySem PySem.Spec PyProof.Rows L2
section
variable {K : PySem.W.Frag} {σ : L2.St} {H1 : Hp} {D : Addr} {Qd : Hp → Prop} {g : TG} {tt : TT} {te : TE} {vs : List Nat}
theorem lpc_walk {J : It} {n : Nat} {G : Hp → Prop} {Y : Nat → Hp → V → Hp → Prop} (w : Walk J n G Y) (Pv : Nat → Hp → Prop) (h0 : Pv 0 (upd H1 D (.lst []))) (hG : ∀ i H, i ≤ n → Pv i H → G H)
    (hs : ∀ i x H H', i < n → Pv i H → Y i H x H' → g x (wipe σ vs) H' fun σ2 H2 => wipe σ2 vs = wipe σ vs ∧ tt σ2 H2 fun b H3 =>
      if b = true then te σ2 H3 fun y H4 => ∃ acc, H4 D = some (.lst acc) ∧ acc.length < sizeLine ∧ Pv (i + 1) (upd H4 D (.lst (acc ++ [y]))) else Pv (i + 1) H3) (hd : ∀ H, Pv n H → Qd H) : LpC J g tt te vs D Qd σ H1 :=
  lc_it w Pv h0 hG hs hd
def sel (n : Nat) (keep : Nat → Bool) (f : Nat → V) : List V := ((List.range n).filter keep).map f
theorem sel_succ {n : Nat} {keep : Nat → Bool} {f : Nat → V} : sel (n + 1) keep f = sel n keep f ++ (if keep n = true then [f n] else []) := by
  unfold sel
  rw [List.range_succ, List.filter_append, List.map_append]
  by_cases h : keep n = true
  · rw [if_pos h, List.filter_cons_of_pos h]; rfl
  · rw [if_neg h, List.filter_cons_of_neg h]; rfl
theorem sel_length {n : Nat} {keep : Nat → Bool} {f : Nat → V} : (sel n keep f).length ≤ n := by
  unfold sel
  rw [List.length_map]
  have := List.length_filter_le keep (List.range n)
  rw [List.length_range] at this
  exact this
theorem sel_all {n : Nat} {f : Nat → V} : sel n (fun _ => true) f = (List.range n).map f := by
  unfold sel
  rw [List.filter_eq_self.mpr (fun _ _ => rfl)]
/-- a comprehension of values told by the turn -/
theorem lpc_sel {J : It} {n : Nat} {G : Hp → Prop} {Y : Nat → Hp → V → Hp → Prop} (w : Walk J n G Y) (keep : Nat → Bool) (f : Nat → V) (hD : H1 D = none) (hz : n < sizeLine) (gS : ∀ H, Same H1 H → G H)
    (hY : ∀ i x H H', Y i H x H' → Same H H')
    (hs : ∀ i x H H' (N : VK) (Z : Hp → Prop), i < n → Same H1 H → Same H1 H' → Y i H x H' → (keep i = true → ∀ H4, Same H' H4 → N (f i) H4) → (keep i = false → ∀ H4, Same H' H4 → Z H4) →
      g x (wipe σ vs) H' fun σ2 H2 => wipe σ2 vs = wipe σ vs ∧ tt σ2 H2 fun b H3 => if b = true then te σ2 H3 N else Z H3)
    (hd : ∀ H', Same H1 H' → H' D = some (.lst (sel n keep f)) → Qd H') : LpC J g tt te vs D Qd σ H1 := by
  refine lpc_walk w (fun i H => Same H1 H ∧ H D = some (.lst (sel i keep f))) ⟨Same.new hD, upd_same⟩ (fun i H _ p => gS H p.1) ?_ (fun H p => hd H p.1 p.2)
  rintro i x H H' hi ⟨s1, hl⟩ y
  have sY := hY i x H H' y
  refine hs i x H H' _ _ hi s1 (s1.trans sY) y (fun k H4 s4 => ?_) (fun k H4 s4 => ?_)
  · have e4 := s4 _ _ (sY _ _ hl)
    refine ⟨_, e4, Nat.lt_of_le_of_lt (Nat.le_trans sel_length (Nat.le_of_lt hi)) hz, Same.but ((s1.trans sY).trans s4) hD But.upd, ?_⟩
    rw [upd_same, sel_succ, if_pos k]
  · refine ⟨(s1.trans sY).trans s4, ?_⟩
    rw [sel_succ, if_neg (by rw [k]; exact Bool.false_ne_true), List.append_nil]
    exact s4 _ _ (sY _ _ hl)
theorem lpc_map {J : It} {n : Nat} {G : Hp → Prop} {Y : Nat → Hp → V → Hp → Prop} (w : Walk J n G Y) (f : Nat → V) (hD : H1 D = none) (hz : n < sizeLine) (gS : ∀ H, Same H1 H → G H)
    (hY : ∀ i x H H', Y i H x H' → Same H H')
    (hs : ∀ i x H H' (N : VK), i < n → Same H1 H → Same H1 H' → Y i H x H' → (∀ H4, Same H' H4 → N (f i) H4) → g x (wipe σ vs) H' fun σ2 H2 => wipe σ2 vs = wipe σ vs ∧ te σ2 H2 N)
    (mono : ∀ x H' (N N' : L2.St → Hp → Prop), (∀ σ2 H2, N σ2 H2 → N' σ2 H2) → g x (wipe σ vs) H' N → g x (wipe σ vs) H' N')
    (hd : ∀ H', Same H1 H' → H' D = some (.lst ((List.range n).map f)) → Qd H') : LpC J g tYes te vs D Qd σ H1 := by
  refine lpc_sel w (fun _ => true) f hD hz gS hY ?_ (fun H' s e => hd H' s (by rw [e, sel_all]))
  intro i x H H' N Z hi s1 s2 y h1 _
  refine mono _ _ _ _ (fun σ2 H2 h => ?_) (hs i x H H' N hi s1 s2 y (h1 rfl))
  refine ⟨h.1, ?_⟩
  show (if true = true then te σ2 H2 N else Z H2)
  rw [if_pos rfl]
  exact h.2
theorem range_map {α : Type} {ss : List α} {f : Nat → V} {h : α → V} (e : ∀ i a, ss[i]? = some a → f i = h a) : (List.range ss.length).map f = ss.map h := by
  refine List.ext_getElem? fun i => ?_
  rw [List.getElem?_map, List.getElem?_map]
  by_cases hi : i < ss.length
  · rw [List.getElem?_range hi, List.getElem?_eq_getElem hi]
    exact congrArg some (e i _ (List.getElem?_eq_getElem hi))
  · rw [List.getElem?_eq_none (by simpa using hi), List.getElem?_eq_none (by simpa using hi)]; rfl
/-- [e for x in l], l a list of tuples, e a plain value -/
theorem lpc_LT {α : Type} {a : Addr} {ps : List Addr} {ss : List α} {enc : α → List V} (L : LT H1 a ps (ss.map enc)) (f : α → V) (hD : H1 D = none) (hz : ss.length ≤ 100000)
    (hs : ∀ (i : Nat) (q : Addr) (r : α) (H : Hp) (N : VK), ss[i]? = some r → H q = some (.tup (enc r)) → Same H1 H → (∀ H4, Same H H4 → N (f r) H4) → g (.ref q) (wipe σ vs) H fun σ2 H2 => wipe σ2 vs = wipe σ vs ∧ te σ2 H2 N)
    (mono : ∀ x H' (N N' : L2.St → Hp → Prop), (∀ σ2 H2, N σ2 H2 → N' σ2 H2) → g x (wipe σ vs) H' N → g x (wipe σ vs) H' N')
    (hd : ∀ H', Same H1 H' → H' D = some (.lst (ss.map f)) → Qd H') : LpC (Itl K a) g tYes te vs D Qd σ H1 := by
  have hl : (ps.map V.ref).length = ss.length := by rw [List.length_map, L.len, List.length_map]
  refine lpc_map (walk_list (xs := ps.map V.ref)) (fun i => match ss[i]? with | some r => f r | none => .non) hD (Nat.lt_of_le_of_lt (by omega : _ ≤ 100000) (by decide)) (fun H s => SqL.of (s _ _ L.at_)) (fun i x H H' y => by rw [y.1]; exact Same.refl _) ?_ mono ?_
  · rintro i x H H' N hi s1 s2 ⟨rfl, y⟩ h1
    obtain ⟨q, r, rfl, e1, e2, e3⟩ := (L.same s1).item y
    rw [List.getElem?_map] at e2
    cases e : ss[i]? with
    | none => rw [e] at e2; cases e2
    | some z =>
      rw [e] at e2 h1
      have e2 : enc z = r := Option.some.inj e2
      rw [← e2] at e3
      exact hs i q z H' N e e3 s1 h1
  · intro H' s e
    refine hd H' s ?_
    rw [e, hl, range_map (h := f)]
    intro i r z
    show (match ss[i]? with | some r => f r | none => .non) = f r
    rw [z]
end
theorem mono_name {i : Nat} {x : V} {σ : L2.St} {H : Hp} (N N' : L2.St → Hp → Prop) (h : ∀ σ2 H2, N σ2 H2 → N' σ2 H2) (k : gName i x σ H N) : gName i x σ H N' := h _ _ k
theorem mono_tup2 {K : PySem.W.Frag} {i j : Nat} {x : V} {σ : L2.St} {H : Hp} (N N' : L2.St → Hp → Prop) (h : ∀ σ2 H2, N σ2 H2 → N' σ2 H2) (k : gTup K 2 (gCons (gName i) (gCons (gName j) gNil)) x σ H N) : gTup K 2 (gCons (gName i) (gCons (gName j) gNil)) x σ H N' := by
  obtain ⟨a, xs, e1, e2, e3, v, r, e4, v', r', e5, e6, k⟩ := k
  exact ⟨a, xs, e1, e2, e3, v, r, e4, v', r', e5, e6, h _ _ k⟩
theorem mono_tup3 {K : PySem.W.Frag} {i j l : Nat} {x : V} {σ : L2.St} {H : Hp} (N N' : L2.St → Hp → Prop) (h : ∀ σ2 H2, N σ2 H2 → N' σ2 H2) (k : gTup K 3 (gCons (gName i) (gCons (gName j) (gCons (gName l) gNil))) x σ H N) : gTup K 3 (gCons (gName i) (gCons (gName j) (gCons (gName l) gNil))) x σ H N' := by
  obtain ⟨a, xs, e1, e2, e3, v, r, e4, v', r', e5, v2, r2, e6, e7, k⟩ := k
  exact ⟨a, xs, e1, e2, e3, v, r, e4, v', r', e5, v2, r2, e6, e7, h _ _ k⟩
end Due

set_option Elab.async false
set_option linter.all false
set_option maxRecDepth 100000
set_option maxHeartbeats 4000000
namespace Due
open PySem PySem.Spec PyProof.Rows L2
section
variable {X : Cx} {σ : L2.St} {H : Hp} {Q : VK}
theorem pe_gi {x : Str} {i : Int} {pos : Pos} (hg : Gl X x) (hm : ∃ t, X.mg x = some (.int i t)) (hd : (x == ("__debug__" : Str)) = false := by decide) : PE X (.Name x pos) (tC (.int i)) := by
  obtain ⟨t, e⟩ := hm
  exact pe_glob hg e ⟨t, rfl⟩ hd
theorem pe_gs {x : Str} {z : Str} {pos : Pos} (hg : Gl X x) (hm : ∃ t, X.mg x = some (.str z t)) (hd : (x == ("__debug__" : Str)) = false := by decide) : PE X (.Name x pos) (tC (.str z)) := by
  obtain ⟨t, e⟩ := hm
  exact pe_glob hg e ⟨t, rfl⟩ hd
/-! a op b op c op d -/
def tChain3 (r r' r2 : R2) (ta tb tc td : TE) : TE := fun σ H Q => ta σ H fun x H1 => tb σ H1 fun y H2 => r x y H2 fun z H3 => rBl (fun k H3 => if k = true then tc σ H3 fun u H4 => r' y u H4 fun z' H5 => rBl (fun k H5 => if k = true then td σ H5 fun v H6 => r2 u v H6 Q else Q (.bl false) H5) z' H5
  else Q (.bl false) H3) z H3
theorem w_chain3 {r r' r2 : R2} {ta tb tc td : TE} (h : ta σ H fun x H1 => tb σ H1 fun y H2 => r x y H2 fun z H3 => rBl (fun k H3 => if k = true then tc σ H3 fun u H4 => r' y u H4 fun z' H5 => rBl (fun k H5 => if k = true then td σ H5 fun v H6 => r2 u v H6 Q else Q (.bl false) H5) z' H5
  else Q (.bl false) H3) z H3) : tChain3 r r' r2 ta tb tc td σ H Q := h
theorem pe_chain3 {a b c d : Expr} {ta tb tc td : TE} {pos : Pos} {op op' op2 : CmpOp} {r r' r2 : R2} (ho : OpR X (compareOp op) r) (ho' : OpR X (compareOp op') r') (ho2 : OpR X (compareOp op2) r2) (ha : PE X a ta) (hb : PE X b tb) (hc : PE X c tc) (hd : PE X d td)
    (hm : lastMarks [op, op', op2] [b, c, d] = false := by with_unfolding_all rfl) : PE X (.Compare a [op, op', op2] [b, c, d] pos) (tChain3 r r' r2 ta tb tc td) := by
  refine ⟨fun pins s σ H Q I h => ?_⟩
  refine Compare_chain (thn (ha.run pins s σ H _ I h) fun v s1 ⟨x, H1, I1, r1, q1⟩ => chain_link (thn (hb.run pins s1 σ H1 _ I1 q1) fun u s2 ⟨y, H2, I2, r2, q2⟩ =>
    thn (ho pins s2 σ H2 x y v u _ I2 r1 r2 q2) fun d s3 ⟨z, H3, I3, r3, k, e, q3⟩ => ?_)) hm
  subst e
  cases r3
  refine wpAny_truthy_bool ?_
  cases k with
  | false => exact ite_ff ⟨.bl false, H3, I3, rfl, q3⟩
  | true =>
    refine ite_tt (chain_link (thn (hc.run pins s3 σ H3 _ I3 q3) fun w' s4 ⟨z', H4, I4, r4, q4⟩ => thn (ho' pins s4 σ H4 y z' u w' _ I4 r2 r4 q4) fun d s5 ⟨z2, H5, I5, r5, k, e, q5⟩ => ?_))
    subst e
    cases r5
    refine wpAny_truthy_bool ?_
    cases k with
    | false => exact ite_ff ⟨.bl false, H5, I5, rfl, q5⟩
    | true => exact ite_tt (chain_last (thn (hd.run pins s5 σ H5 _ I5 q5) fun w2 s6 ⟨z3, H6, I6, r6, q6⟩ => ho2 pins s6 σ H6 z' z3 w' w2 Q I6 r4 r6 q6))
/-! xs[i] of a tracked list, by values -/
def rGetL : V → V → Hp → VK → Prop := fun o i H Q => ∃ p xs k v, o = .ref p ∧ i = .int k ∧ H p = some (.lst xs) ∧ 0 ≤ k ∧ xs[k.toNat]? = some v ∧ Q v H
theorem get_list : PGet X rGetL := by
  intro pins s σ H o i ov iv Q I ro ri h
  obtain ⟨p, xs, k, v, rfl, rfl, hp, h0, hx, q⟩ := h
  cases ro
  obtain ⟨t, rfl⟩ := ri
  obtain ⟨its, r, pl, hz⟩ := I.list (SqL.of hp)
  obtain ⟨w, ew, rw'⟩ := r.get hx
  have hk : k.toNat < xs.length := (List.getElem?_eq_some_iff.mp hx).1
  have hn := line63
  have hl := r.length
  exact wpAny_getItem_list pl.isList h0 (by omega) (by simpa using ew) ⟨v, H, I, rw', q⟩
theorem w_getL {p : Addr} {xs : List V} {k : Int} {v : V} (e : H p = some (.lst xs)) (h0 : 0 ≤ k) (hx : xs[k.toNat]? = some v) (h : Q v H) : rGetL (.ref p) (.int k) H Q := ⟨p, xs, k, v, rfl, rfl, e, h0, hx, h⟩
theorem w_augS {nx bk ct : L2.St → Hp → Prop} {rt : VK} {to ti te : TE} {tget : V → V → Hp → VK → Prop} {tip : TIp} {tset : TSet} (h : to σ H fun o H1 => ti σ H1 fun i H2 => tget o i H2 fun x H3 => te σ H3 fun y H4 => tip x y H4 fun z H5 => tset o i z H5 fun H6 => nx σ H6) :
    tAugS to ti te tget tip tset ⟨nx, rt, bk, ct⟩ σ H := h
theorem w_setL {R : Hp → Prop} {p : Addr} {xs : List V} {k : Int} {j : Nat} {v : V} (e : H p = some (.lst xs)) (hj : ixN xs.length k = some j) (h : ∀ H', But p H H' → H' p = some (.lst (xs.set j v)) → R H') : rSetL (.ref p) (.int k) v H R :=
  ⟨p, xs, k, j, rfl, rfl, e, hj, h _ But.upd upd_same⟩
theorem w_gsub {v : V} {QS : L2.St → Hp → Prop} {to ti : TE} {t : TSet} (h : to σ H fun o H1 => ti σ H1 fun i H2 => t o i v H2 fun H3 => QS σ H3) : gSub to ti t v σ H QS := h
theorem ixN_nat {n j : Nat} (h : j < n) : ixN n (j : Int) = some j := by
  unfold ixN
  rw [if_pos (Int.natCast_nonneg j), if_pos (by omega)]
  rfl
theorem ixN_last {n : Nat} (h : 0 < n) : ixN n (-1) = some (n - 1) := by
  unfold ixN
  rw [if_neg (by decide), if_pos (by omega)]
  congr 1
  omega
/-! flat data compared -/
def toPD : V → PyData
  | .non => .none
  | .bl b => .bool b
  | .int i => .int i
  | .str x => .str x
  | _ => .none
def FlatOk (v : V) : Prop := (∃ i, v = .int i) ∨ ∃ x, v = .str x ∧ PyData.strOk x = true
def rowPD (r : List V) : PyData := .tuple (r.map toPD)
theorem FlatOk.dp {K : PySem.W.Frag} {v : V} (h : FlatOk v) : Dp K H v (toPD v) := by
  rcases h with ⟨i, rfl⟩ | ⟨x, rfl, _⟩
  · exact .int i
  · exact .str x
theorem FlatOk.lay {v : V} (h : FlatOk v) : (toPD v).canLay0 = true ∧ (toPD v).depth = 0 := by
  rcases h with ⟨i, rfl⟩ | ⟨x, rfl, e⟩
  · exact ⟨rfl, rfl⟩
  · exact ⟨e, rfl⟩
theorem dpAll_flat {K : PySem.W.Frag} : ∀ {r : List V}, (∀ v ∈ r, FlatOk v) → DpAll K H r (r.map toPD)
  | [], _ => .nil
  | v :: r, h => .cons (h v List.mem_cons_self).dp (dpAll_flat fun u hu => h u (List.mem_cons_of_mem _ hu))
theorem layAll_flat : ∀ {r : List V}, (∀ v ∈ r, FlatOk v) → PyData.canLayAll0 (r.map toPD) = true ∧ PyData.depthAll (r.map toPD) = 0
  | [], _ => ⟨rfl, rfl⟩
  | v :: r, h => by
    obtain ⟨h1, h2⟩ := (h v List.mem_cons_self).lay
    obtain ⟨h3, h4⟩ := layAll_flat (r := r) fun u hu => h u (List.mem_cons_of_mem _ hu)
    refine ⟨?_, ?_⟩
    · rw [List.map_cons, PyData.canLayAll0, h1, h3]; rfl
    · rw [List.map_cons, PyData.depthAll, h2, h4]; rfl
theorem shaped_of {d : PyData} (h : d.canLay0 = true) (k : d.depth ≤ 64) : SeqAt.shaped d = true := by
  unfold SeqAt.shaped
  rw [h, decide_eq_true k]; rfl
def flatsPD (xs : List V) : PyData := .list (xs.map toPD)
def rowsPD (rs : List (List V)) : PyData := .list (rs.map rowPD)
theorem dp_flats {K : PySem.W.Frag} {p : Addr} {xs : List V} (e : H p = some (.lst xs)) (h : ∀ v ∈ xs, FlatOk v) : Dp K H (.ref p) (flatsPD xs) := .lst (SqL.of e) (dpAll_flat h)
theorem dp_tup {K : PySem.W.Frag} {p : Addr} {xs : List V} (e : H p = some (.tup xs)) (h : ∀ v ∈ xs, FlatOk v) : Dp K H (.ref p) (rowPD xs) := .tup (SqT.of e) (dpAll_flat h)
theorem dpAll_rows {K : PySem.W.Frag} : ∀ {ps : List Addr} {rs : List (List V)}, TA' H ps rs → (∀ r ∈ rs, ∀ v ∈ r, FlatOk v) → DpAll K H (ps.map V.ref) (rs.map rowPD)
  | _, _, .nil, _ => .nil
  | _, _, .cons r t, h => .cons (dp_tup r (h _ List.mem_cons_self)) (dpAll_rows t fun u hu => h u (List.mem_cons_of_mem _ hu))
theorem dp_rows {K : PySem.W.Frag} {p : Addr} {ps : List Addr} {rs : List (List V)} (L : LT H p ps rs) (h : ∀ r ∈ rs, ∀ v ∈ r, FlatOk v) : Dp K H (.ref p) (rowsPD rs) := .lst (SqL.of L.at_) (dpAll_rows L.tt h)
theorem lay_flats {xs : List V} (h : ∀ v ∈ xs, FlatOk v) : (flatsPD xs).canLay0 = true ∧ (flatsPD xs).depth = 1 := by
  obtain ⟨h1, h2⟩ := layAll_flat h
  exact ⟨h1, by show PyData.depthAll (xs.map toPD) + 1 = 1; rw [h2]⟩
theorem lay_row {xs : List V} (h : ∀ v ∈ xs, FlatOk v) : (rowPD xs).canLay0 = true ∧ (rowPD xs).depth = 1 := by
  obtain ⟨h1, h2⟩ := layAll_flat h
  exact ⟨h1, by show PyData.depthAll (xs.map toPD) + 1 = 1; rw [h2]⟩
theorem layAll_rows : ∀ {rs : List (List V)}, (∀ r ∈ rs, ∀ v ∈ r, FlatOk v) → PyData.canLayAll0 (rs.map rowPD) = true ∧ PyData.depthAll (rs.map rowPD) ≤ 1
  | [], _ => ⟨rfl, Nat.zero_le _⟩
  | r :: rs, h => by
    obtain ⟨h1, h2⟩ := lay_row (h r List.mem_cons_self)
    obtain ⟨h3, h4⟩ := layAll_rows (rs := rs) fun u hu => h u (List.mem_cons_of_mem _ hu)
    refine ⟨?_, ?_⟩
    · rw [List.map_cons, PyData.canLayAll0, h1, h3]; rfl
    · rw [List.map_cons, PyData.depthAll, h2]; omega
theorem lay_rows {rs : List (List V)} (h : ∀ r ∈ rs, ∀ v ∈ r, FlatOk v) : (rowsPD rs).canLay0 = true ∧ (rowsPD rs).depth ≤ 2 := by
  obtain ⟨h1, h2⟩ := layAll_rows h
  exact ⟨h1, by show PyData.depthAll (rs.map rowPD) + 1 ≤ 2; omega⟩
theorem sh_flats {xs : List V} (h : ∀ v ∈ xs, FlatOk v) : SeqAt.shaped (flatsPD xs) = true := shaped_of (lay_flats h).1 (by rw [(lay_flats h).2]; decide)
theorem sh_rows {rs : List (List V)} (h : ∀ r ∈ rs, ∀ v ∈ r, FlatOk v) : SeqAt.shaped (rowsPD rs) = true := shaped_of (lay_rows h).1 (Nat.le_trans (lay_rows h).2 (by decide))
theorem eqvAll_nil : ∀ (xs : List PyData), PyData.eqvAll xs [] = xs.isEmpty
  | [] => rfl
  | _ :: _ => rfl
/-- l != [] -/
theorem w_neNil {K : PySem.W.Frag} {x : V} {p : Addr} {ds : List PyData} (d1 : Dp K H x (.list ds)) (s1 : SeqAt.shaped (.list ds) = true) (e : H p = some (.lst [])) (h : Q (.bl (!ds.isEmpty)) H) : rNeD K x (.ref p) H Q :=
  ⟨_, .list [], d1, .lst (SqL.of e) .nil, s1, by decide +kernel, by rw [show PyData.eqv (.list ds) (.list []) = ds.isEmpty by rw [PyData.eqv]; exact eqvAll_nil ds]; exact h⟩
theorem w_neSame {K : PySem.W.Frag} {x y : V} {d : PyData} (d1 : Dp K H x d) (d2 : Dp K H y d) (s1 : SeqAt.shaped d = true) (h : Q (.bl false) H) : rNeD K x y H Q :=
  ⟨d, d, d1, d2, s1, s1, by rw [SeqAt.eqv_refl d (SeqAt.canLay_of_shaped s1)]; exact h⟩
theorem w_eqSame {K : PySem.W.Frag} {x y : V} {d : PyData} (d1 : Dp K H x d) (d2 : Dp K H y d) (s1 : SeqAt.shaped d = true) (h : Q (.bl true) H) : rEqD K x y H Q :=
  ⟨d, d, d1, d2, s1, s1, by rw [SeqAt.eqv_refl d (SeqAt.canLay_of_shaped s1)]; exact h⟩
/-! list.count of texts -/
def eqz (z : Str) (v : Value) : Bool := match v with
  | .str x _ => x == z
  | _ => false
theorem eqz_at {z : Str} {t : Tok} {A : Around} {s : Shared} : ∀ {us : List Value} {ns : List Str}, Vals (ns.map V.str) us → ∀ y ∈ us, SeqAt.EqAt A s y (.str z t) (eqz z y)
  | [], [], .nil => fun y hy => by cases hy
  | u :: us, n :: ns, .cons r h => fun y hy => by
    obtain ⟨t', e'⟩ := r
    rcases List.mem_cons.mp hy with e | e
    · rw [e, e']
      exact SeqAt.EqAt.str_str n t' z t
    · exact eqz_at h y e
theorem eqz_count {z : Str} : ∀ {us : List Value} {ns : List Str}, Vals (ns.map V.str) us → us.countP (eqz z) = ns.countP (· == z)
  | [], [], .nil => rfl
  | u :: us, n :: ns, .cons r h => by
    have ih := eqz_count (z := z) h
    obtain ⟨t', e'⟩ := r
    rw [e', List.countP_cons, List.countP_cons, ih]; rfl
def rCntS (K : PySem.W.Frag) : V → List V → Hp → VK → Prop := fun x xs H Q => ∃ (p : Addr) (ns : List Str) (z : Str), x = .ref p ∧ xs = [.str z] ∧ SqL K H p (ns.map V.str) ∧ Q (.int (ns.countP (· == z) : Nat)) H
theorem mt_lcountS : MtR X "list.count" (rCntS X.K) := by
  intro pins s σ H x xs v us Q I rx rxs h
  obtain ⟨p, ns, z, rfl, rfl, hs, q⟩ := h
  cases rx
  obtain ⟨u, rfl, ru⟩ := rxs.one
  obtain ⟨t, rfl⟩ := ru
  obtain ⟨its, rv, ⟨⟨cls, dd, data, sl⟩, n, ho, hc, hdn, hd⟩, hlen⟩ := I.list hs
  simp only at hc hd
  subst hc hd
  refine call_meets PySem.F.slot_list_count ⟨_, ho, rfl⟩ PySem.F.entry_list_count (PySem.F.args_list_count_2 _ _) (SeqAt.list_countAt p its.toArray n dd sl (.str z t) (eqz z)) ⟨ho, fun y hy => eqz_at rv y (by simpa using hy), ?_⟩
  have ec : its.toArray.toList.countP (eqz z) = ns.countP (· == z) := eqz_count rv
  refine ⟨.int (ns.countP (· == z) : Nat), H, I.tok _, ⟨s.toks, ?_⟩, q⟩
  show Value.int ((its.toArray.toList.countP (eqz z) : Nat) : Int) s.toks = _
  rw [ec]
theorem w_cntS {K : PySem.W.Frag} {p : Addr} {ns : List Str} {z : Str} (e : H p = some (.lst (ns.map V.str))) (h : Q (.int (ns.countP (· == z) : Nat)) H) : rCntS K (.ref p) [.str z] H Q := ⟨p, ns, z, rfl, rfl, SqL.of e, h⟩
end
theorem TA'.snoc_inv {H : Hp} : ∀ {rs : List (List V)} {qs : List Addr} {r : List V}, TA' H qs (rs ++ [r]) → ∃ qs' q, qs = qs' ++ [q] ∧ TA' H qs' rs ∧ H q = some (.tup r)
  | [], _, _, .cons h t => by
    cases t
    exact ⟨[], _, rfl, .nil, h⟩
  | _ :: rs, _, _, .cons h t => by
    obtain ⟨qs', q, e, h1, h2⟩ := TA'.snoc_inv (rs := rs) t
    exact ⟨_ :: qs', q, by rw [e]; rfl, .cons h h1, h2⟩
theorem set_last {α : Type} (l : List α) (a b : α) : (l ++ [a]).set l.length b = l ++ [b] := by
  induction l with
  | nil => rfl
  | cons x l ih => show x :: (l ++ [a]).set l.length b = _; rw [ih]; rfl
theorem take_succ_of {α : Type} {l : List α} {i : Nat} {a : α} (h : l[i]? = some a) : l.take (i + 1) = l.take i ++ [a] := by
  rw [List.take_add_one, h]; rfl
theorem map_get {α β : Type} {l : List α} {f : α → β} {i : Nat} {b : β} (h : (l.map f)[i]? = some b) : ∃ a, l[i]? = some a ∧ f a = b := by
  rw [List.getElem?_map] at h
  cases e : l[i]? with
  | none => rw [e] at h; cases h
  | some a => rw [e] at h; exact ⟨a, rfl, Option.some.inj h⟩
theorem iteNT {A B : Prop} (h : B) : if (!true) = true then A else B := iteF h
theorem iteNF {A B : Prop} (h : A) : if (!false) = true then A else B := iteT h
theorem szl {n : Nat} (h : n ≤ 100000) : n ≤ sizeLine := Nat.le_trans h (by decide)
theorem szlt {n : Nat} (h : n < 100000) : n < sizeLine := Nat.lt_of_lt_of_le h (by decide)
theorem LT.snoc {H H' : Hp} {l t : Addr} {qs : List Addr} {rs : List (List V)} {r : List V} (L : LT H l qs rs) (e : H t = some (.tup r)) (b : But l H H') (e4 : H' l = some (.lst (qs.map V.ref ++ [.ref t]))) : LT H' l (qs ++ [t]) (rs ++ [r]) :=
  ⟨by rw [e4, List.map_append]; rfl, TA'.snoc (L.tt.but b L.at_ (fun ys => by intro h; cases h)) (b _ _ (ne_of e L.at_ (by intro h; cases h)) e)⟩
end Due

set_option Elab.async false
set_option linter.all false
set_option maxRecDepth 100000
set_option maxHeartbeats 4000000
namespace Due
open PySem PySem.Spec PyProof.Rows L2
theorem lk_eq {k : Str} {v : V} {r : List (Str × V)} : List.lookup k ((k, v) :: r) = some v := by
  rw [List.lookup_cons, beq_self_eq_true]
theorem lk_ne {a k : Str} {v : V} {r : List (Str × V)} {o : Option V} (h : (a == k) = false) (e : List.lookup a r = o) : List.lookup a ((k, v) :: r) = o := by
  rw [List.lookup_cons, h]; exact e
theorem pf_eq {f : Str} {y x : V} {r : List (Str × V)} : putF f y ((f, x) :: r) = (f, y) :: r := by
  show (if f = f then _ else _) = _
  rw [if_pos rfl]
theorem pf_ne {f g : Str} {y x : V} {r r' : List (Str × V)} (h : (g == f) = false) (e : putF f y r = r') : putF f y ((g, x) :: r) = (g, x) :: r' := by
  show (if g = f then _ else (g, x) :: putF f y r) = _
  rw [if_neg (beq_eq_false_iff_ne.mp h), e]
theorem pf_nil {f : Str} {y : V} : putF f y [] = [(f, y)] := rfl
abbrev fl_Flow (x0 x1 x2 x3 x4 x5 x6 : V) : List (Str × V) := [(("load" : Str), x0), (("cells" : Str), x1), (("rooms" : Str), x2), (("shares" : Str), x3), (("spare" : Str), x4), (("wanting" : Str), x5), (("reached" : Str), x6)]
theorem lk_Flow_load {x0 x1 x2 x3 x4 x5 x6 : V} : (fl_Flow x0 x1 x2 x3 x4 x5 x6).lookup ("load" : Str) = some x0 := lk_eq
theorem pf_Flow_load {x0 x1 x2 x3 x4 x5 x6 y : V} : putF ("load" : Str) y (fl_Flow x0 x1 x2 x3 x4 x5 x6) = fl_Flow y x1 x2 x3 x4 x5 x6 := pf_eq
theorem pi_Flow_load {x0 : V} : putF ("load" : Str) x0 [] = [(("load" : Str), x0)] := pf_nil
theorem lk_Flow_cells {x0 x1 x2 x3 x4 x5 x6 : V} : (fl_Flow x0 x1 x2 x3 x4 x5 x6).lookup ("cells" : Str) = some x1 := (lk_ne (by decide +kernel) lk_eq)
theorem pf_Flow_cells {x0 x1 x2 x3 x4 x5 x6 y : V} : putF ("cells" : Str) y (fl_Flow x0 x1 x2 x3 x4 x5 x6) = fl_Flow x0 y x2 x3 x4 x5 x6 := (pf_ne (by decide +kernel) pf_eq)
theorem pi_Flow_cells {x0 x1 : V} : putF ("cells" : Str) x1 [(("load" : Str), x0)] = [(("load" : Str), x0), (("cells" : Str), x1)] := (pf_ne (by decide +kernel) pf_nil)
theorem lk_Flow_rooms {x0 x1 x2 x3 x4 x5 x6 : V} : (fl_Flow x0 x1 x2 x3 x4 x5 x6).lookup ("rooms" : Str) = some x2 := (lk_ne (by decide +kernel) (lk_ne (by decide +kernel) lk_eq))
theorem pf_Flow_rooms {x0 x1 x2 x3 x4 x5 x6 y : V} : putF ("rooms" : Str) y (fl_Flow x0 x1 x2 x3 x4 x5 x6) = fl_Flow x0 x1 y x3 x4 x5 x6 := (pf_ne (by decide +kernel) (pf_ne (by decide +kernel) pf_eq))
theorem pi_Flow_rooms {x0 x1 x2 : V} : putF ("rooms" : Str) x2 [(("load" : Str), x0), (("cells" : Str), x1)] = [(("load" : Str), x0), (("cells" : Str), x1), (("rooms" : Str), x2)] := (pf_ne (by decide +kernel) (pf_ne (by decide +kernel) pf_nil))
theorem lk_Flow_shares {x0 x1 x2 x3 x4 x5 x6 : V} : (fl_Flow x0 x1 x2 x3 x4 x5 x6).lookup ("shares" : Str) = some x3 := (lk_ne (by decide +kernel) (lk_ne (by decide +kernel) (lk_ne (by decide +kernel) lk_eq)))
theorem pf_Flow_shares {x0 x1 x2 x3 x4 x5 x6 y : V} : putF ("shares" : Str) y (fl_Flow x0 x1 x2 x3 x4 x5 x6) = fl_Flow x0 x1 x2 y x4 x5 x6 := (pf_ne (by decide +kernel) (pf_ne (by decide +kernel) (pf_ne (by decide +kernel) pf_eq)))
theorem pi_Flow_shares {x0 x1 x2 x3 : V} : putF ("shares" : Str) x3 [(("load" : Str), x0), (("cells" : Str), x1), (("rooms" : Str), x2)] = [(("load" : Str), x0), (("cells" : Str), x1), (("rooms" : Str), x2), (("shares" : Str), x3)] := (pf_ne (by decide +kernel) (pf_ne (by decide +kernel) (pf_ne (by decide +kernel) pf_nil)))
theorem lk_Flow_spare {x0 x1 x2 x3 x4 x5 x6 : V} : (fl_Flow x0 x1 x2 x3 x4 x5 x6).lookup ("spare" : Str) = some x4 := (lk_ne (by decide +kernel) (lk_ne (by decide +kernel) (lk_ne (by decide +kernel) (lk_ne (by decide +kernel) lk_eq))))
theorem pf_Flow_spare {x0 x1 x2 x3 x4 x5 x6 y : V} : putF ("spare" : Str) y (fl_Flow x0 x1 x2 x3 x4 x5 x6) = fl_Flow x0 x1 x2 x3 y x5 x6 := (pf_ne (by decide +kernel) (pf_ne (by decide +kernel) (pf_ne (by decide +kernel) (pf_ne (by decide +kernel) pf_eq))))
theorem pi_Flow_spare {x0 x1 x2 x3 x4 : V} : putF ("spare" : Str) x4 [(("load" : Str), x0), (("cells" : Str), x1), (("rooms" : Str), x2), (("shares" : Str), x3)] = [(("load" : Str), x0), (("cells" : Str), x1), (("rooms" : Str), x2), (("shares" : Str), x3), (("spare" : Str), x4)] := (pf_ne (by decide +kernel) (pf_ne (by decide +kernel) (pf_ne (by decide +kernel) (pf_ne (by decide +kernel) pf_nil))))
theorem lk_Flow_wanting {x0 x1 x2 x3 x4 x5 x6 : V} : (fl_Flow x0 x1 x2 x3 x4 x5 x6).lookup ("wanting" : Str) = some x5 := (lk_ne (by decide +kernel) (lk_ne (by decide +kernel) (lk_ne (by decide +kernel) (lk_ne (by decide +kernel) (lk_ne (by decide +kernel) lk_eq)))))
theorem pf_Flow_wanting {x0 x1 x2 x3 x4 x5 x6 y : V} : putF ("wanting" : Str) y (fl_Flow x0 x1 x2 x3 x4 x5 x6) = fl_Flow x0 x1 x2 x3 x4 y x6 := (pf_ne (by decide +kernel) (pf_ne (by decide +kernel) (pf_ne (by decide +kernel) (pf_ne (by decide +kernel) (pf_ne (by decide +kernel) pf_eq)))))
theorem pi_Flow_wanting {x0 x1 x2 x3 x4 x5 : V} : putF ("wanting" : Str) x5 [(("load" : Str), x0), (("cells" : Str), x1), (("rooms" : Str), x2), (("shares" : Str), x3), (("spare" : Str), x4)] = [(("load" : Str), x0), (("cells" : Str), x1), (("rooms" : Str), x2), (("shares" : Str), x3), (("spare" : Str), x4), (("wanting" : Str), x5)] := (pf_ne (by decide +kernel) (pf_ne (by decide +kernel) (pf_ne (by decide +kernel) (pf_ne (by decide +kernel) (pf_ne (by decide +kernel) pf_nil)))))
theorem lk_Flow_reached {x0 x1 x2 x3 x4 x5 x6 : V} : (fl_Flow x0 x1 x2 x3 x4 x5 x6).lookup ("reached" : Str) = some x6 := (lk_ne (by decide +kernel) (lk_ne (by decide +kernel) (lk_ne (by decide +kernel) (lk_ne (by decide +kernel) (lk_ne (by decide +kernel) (lk_ne (by decide +kernel) lk_eq))))))
theorem pf_Flow_reached {x0 x1 x2 x3 x4 x5 x6 y : V} : putF ("reached" : Str) y (fl_Flow x0 x1 x2 x3 x4 x5 x6) = fl_Flow x0 x1 x2 x3 x4 x5 y := (pf_ne (by decide +kernel) (pf_ne (by decide +kernel) (pf_ne (by decide +kernel) (pf_ne (by decide +kernel) (pf_ne (by decide +kernel) (pf_ne (by decide +kernel) pf_eq))))))
theorem pi_Flow_reached {x0 x1 x2 x3 x4 x5 x6 : V} : putF ("reached" : Str) x6 [(("load" : Str), x0), (("cells" : Str), x1), (("rooms" : Str), x2), (("shares" : Str), x3), (("spare" : Str), x4), (("wanting" : Str), x5)] = [(("load" : Str), x0), (("cells" : Str), x1), (("rooms" : Str), x2), (("shares" : Str), x3), (("spare" : Str), x4), (("wanting" : Str), x5), (("reached" : Str), x6)] := (pf_ne (by decide +kernel) (pf_ne (by decide +kernel) (pf_ne (by decide +kernel) (pf_ne (by decide +kernel) (pf_ne (by decide +kernel) (pf_ne (by decide +kernel) pf_nil))))))
theorem no_Flow_search {x0 x1 x2 x3 x4 x5 x6 : V} : (fl_Flow x0 x1 x2 x3 x4 x5 x6).lookup ("search" : Str) = none := (lk_ne (by decide +kernel) (lk_ne (by decide +kernel) (lk_ne (by decide +kernel) (lk_ne (by decide +kernel) (lk_ne (by decide +kernel) (lk_ne (by decide +kernel) (lk_ne (by decide +kernel) rfl)))))))
theorem no_Flow_push {x0 x1 x2 x3 x4 x5 x6 : V} : (fl_Flow x0 x1 x2 x3 x4 x5 x6).lookup ("push" : Str) = none := (lk_ne (by decide +kernel) (lk_ne (by decide +kernel) (lk_ne (by decide +kernel) (lk_ne (by decide +kernel) (lk_ne (by decide +kernel) (lk_ne (by decide +kernel) (lk_ne (by decide +kernel) rfl)))))))
theorem no_Flow_narrowest {x0 x1 x2 x3 x4 x5 x6 : V} : (fl_Flow x0 x1 x2 x3 x4 x5 x6).lookup ("narrowest" : Str) = none := (lk_ne (by decide +kernel) (lk_ne (by decide +kernel) (lk_ne (by decide +kernel) (lk_ne (by decide +kernel) (lk_ne (by decide +kernel) (lk_ne (by decide +kernel) (lk_ne (by decide +kernel) rfl)))))))
theorem no_Flow_most {x0 x1 x2 x3 x4 x5 x6 : V} : (fl_Flow x0 x1 x2 x3 x4 x5 x6).lookup ("most" : Str) = none := (lk_ne (by decide +kernel) (lk_ne (by decide +kernel) (lk_ne (by decide +kernel) (lk_ne (by decide +kernel) (lk_ne (by decide +kernel) (lk_ne (by decide +kernel) (lk_ne (by decide +kernel) rfl)))))))
theorem no_Flow_holders {x0 x1 x2 x3 x4 x5 x6 : V} : (fl_Flow x0 x1 x2 x3 x4 x5 x6).lookup ("holders" : Str) = none := (lk_ne (by decide +kernel) (lk_ne (by decide +kernel) (lk_ne (by decide +kernel) (lk_ne (by decide +kernel) (lk_ne (by decide +kernel) (lk_ne (by decide +kernel) (lk_ne (by decide +kernel) rfl)))))))
theorem no_Flow_share {x0 x1 x2 x3 x4 x5 x6 : V} : (fl_Flow x0 x1 x2 x3 x4 x5 x6).lookup ("share" : Str) = none := (lk_ne (by decide +kernel) (lk_ne (by decide +kernel) (lk_ne (by decide +kernel) (lk_ne (by decide +kernel) (lk_ne (by decide +kernel) (lk_ne (by decide +kernel) (lk_ne (by decide +kernel) rfl)))))))
theorem no_Flow_lacking {x0 x1 x2 x3 x4 x5 x6 : V} : (fl_Flow x0 x1 x2 x3 x4 x5 x6).lookup ("lacking" : Str) = none := (lk_ne (by decide +kernel) (lk_ne (by decide +kernel) (lk_ne (by decide +kernel) (lk_ne (by decide +kernel) (lk_ne (by decide +kernel) (lk_ne (by decide +kernel) (lk_ne (by decide +kernel) rfl)))))))
theorem no_Flow_cut {x0 x1 x2 x3 x4 x5 x6 : V} : (fl_Flow x0 x1 x2 x3 x4 x5 x6).lookup ("cut" : Str) = none := (lk_ne (by decide +kernel) (lk_ne (by decide +kernel) (lk_ne (by decide +kernel) (lk_ne (by decide +kernel) (lk_ne (by decide +kernel) (lk_ne (by decide +kernel) (lk_ne (by decide +kernel) rfl)))))))
abbrev fl_Walk (x0 x1 x2 x3 x4 : V) : List (Str × V) := [(("load" : Str), x0), (("calendar" : Str), x1), (("seats" : Str), x2), (("side" : Str), x3), (("worked" : Str), x4)]
theorem lk_Walk_load {x0 x1 x2 x3 x4 : V} : (fl_Walk x0 x1 x2 x3 x4).lookup ("load" : Str) = some x0 := lk_eq
theorem pf_Walk_load {x0 x1 x2 x3 x4 y : V} : putF ("load" : Str) y (fl_Walk x0 x1 x2 x3 x4) = fl_Walk y x1 x2 x3 x4 := pf_eq
theorem pi_Walk_load {x0 : V} : putF ("load" : Str) x0 [] = [(("load" : Str), x0)] := pf_nil
theorem lk_Walk_calendar {x0 x1 x2 x3 x4 : V} : (fl_Walk x0 x1 x2 x3 x4).lookup ("calendar" : Str) = some x1 := (lk_ne (by decide +kernel) lk_eq)
theorem pf_Walk_calendar {x0 x1 x2 x3 x4 y : V} : putF ("calendar" : Str) y (fl_Walk x0 x1 x2 x3 x4) = fl_Walk x0 y x2 x3 x4 := (pf_ne (by decide +kernel) pf_eq)
theorem pi_Walk_calendar {x0 x1 : V} : putF ("calendar" : Str) x1 [(("load" : Str), x0)] = [(("load" : Str), x0), (("calendar" : Str), x1)] := (pf_ne (by decide +kernel) pf_nil)
theorem lk_Walk_seats {x0 x1 x2 x3 x4 : V} : (fl_Walk x0 x1 x2 x3 x4).lookup ("seats" : Str) = some x2 := (lk_ne (by decide +kernel) (lk_ne (by decide +kernel) lk_eq))
theorem pf_Walk_seats {x0 x1 x2 x3 x4 y : V} : putF ("seats" : Str) y (fl_Walk x0 x1 x2 x3 x4) = fl_Walk x0 x1 y x3 x4 := (pf_ne (by decide +kernel) (pf_ne (by decide +kernel) pf_eq))
theorem pi_Walk_seats {x0 x1 x2 : V} : putF ("seats" : Str) x2 [(("load" : Str), x0), (("calendar" : Str), x1)] = [(("load" : Str), x0), (("calendar" : Str), x1), (("seats" : Str), x2)] := (pf_ne (by decide +kernel) (pf_ne (by decide +kernel) pf_nil))
theorem lk_Walk_side {x0 x1 x2 x3 x4 : V} : (fl_Walk x0 x1 x2 x3 x4).lookup ("side" : Str) = some x3 := (lk_ne (by decide +kernel) (lk_ne (by decide +kernel) (lk_ne (by decide +kernel) lk_eq)))
theorem pf_Walk_side {x0 x1 x2 x3 x4 y : V} : putF ("side" : Str) y (fl_Walk x0 x1 x2 x3 x4) = fl_Walk x0 x1 x2 y x4 := (pf_ne (by decide +kernel) (pf_ne (by decide +kernel) (pf_ne (by decide +kernel) pf_eq)))
theorem pi_Walk_side {x0 x1 x2 x3 : V} : putF ("side" : Str) x3 [(("load" : Str), x0), (("calendar" : Str), x1), (("seats" : Str), x2)] = [(("load" : Str), x0), (("calendar" : Str), x1), (("seats" : Str), x2), (("side" : Str), x3)] := (pf_ne (by decide +kernel) (pf_ne (by decide +kernel) (pf_ne (by decide +kernel) pf_nil)))
theorem lk_Walk_worked {x0 x1 x2 x3 x4 : V} : (fl_Walk x0 x1 x2 x3 x4).lookup ("worked" : Str) = some x4 := (lk_ne (by decide +kernel) (lk_ne (by decide +kernel) (lk_ne (by decide +kernel) (lk_ne (by decide +kernel) lk_eq))))
theorem pf_Walk_worked {x0 x1 x2 x3 x4 y : V} : putF ("worked" : Str) y (fl_Walk x0 x1 x2 x3 x4) = fl_Walk x0 x1 x2 x3 y := (pf_ne (by decide +kernel) (pf_ne (by decide +kernel) (pf_ne (by decide +kernel) (pf_ne (by decide +kernel) pf_eq))))
theorem pi_Walk_worked {x0 x1 x2 x3 x4 : V} : putF ("worked" : Str) x4 [(("load" : Str), x0), (("calendar" : Str), x1), (("seats" : Str), x2), (("side" : Str), x3)] = [(("load" : Str), x0), (("calendar" : Str), x1), (("seats" : Str), x2), (("side" : Str), x3), (("worked" : Str), x4)] := (pf_ne (by decide +kernel) (pf_ne (by decide +kernel) (pf_ne (by decide +kernel) (pf_ne (by decide +kernel) pf_nil))))
theorem no_Walk_word_for {x0 x1 x2 x3 x4 : V} : (fl_Walk x0 x1 x2 x3 x4).lookup ("word_for" : Str) = none := (lk_ne (by decide +kernel) (lk_ne (by decide +kernel) (lk_ne (by decide +kernel) (lk_ne (by decide +kernel) (lk_ne (by decide +kernel) rfl)))))
theorem no_Walk_go_past {x0 x1 x2 x3 x4 : V} : (fl_Walk x0 x1 x2 x3 x4).lookup ("go_past" : Str) = none := (lk_ne (by decide +kernel) (lk_ne (by decide +kernel) (lk_ne (by decide +kernel) (lk_ne (by decide +kernel) (lk_ne (by decide +kernel) rfl)))))
abbrev fl_Calendar (x0 x1 : V) : List (Str × V) := [(("strips" : Str), x0), (("for_ever" : Str), x1)]
theorem lk_Calendar_strips {x0 x1 : V} : (fl_Calendar x0 x1).lookup ("strips" : Str) = some x0 := lk_eq
theorem pf_Calendar_strips {x0 x1 y : V} : putF ("strips" : Str) y (fl_Calendar x0 x1) = fl_Calendar y x1 := pf_eq
theorem pi_Calendar_strips {x0 : V} : putF ("strips" : Str) x0 [] = [(("strips" : Str), x0)] := pf_nil
theorem lk_Calendar_for_ever {x0 x1 : V} : (fl_Calendar x0 x1).lookup ("for_ever" : Str) = some x1 := (lk_ne (by decide +kernel) lk_eq)
theorem pf_Calendar_for_ever {x0 x1 y : V} : putF ("for_ever" : Str) y (fl_Calendar x0 x1) = fl_Calendar x0 y := (pf_ne (by decide +kernel) pf_eq)
theorem pi_Calendar_for_ever {x0 x1 : V} : putF ("for_ever" : Str) x1 [(("strips" : Str), x0)] = [(("strips" : Str), x0), (("for_ever" : Str), x1)] := (pf_ne (by decide +kernel) pf_nil)
theorem no_Calendar_keep {x0 x1 : V} : (fl_Calendar x0 x1).lookup ("keep" : Str) = none := (lk_ne (by decide +kernel) (lk_ne (by decide +kernel) rfl))
theorem no_Calendar_pieces {x0 x1 : V} : (fl_Calendar x0 x1).lookup ("pieces" : Str) = none := (lk_ne (by decide +kernel) (lk_ne (by decide +kernel) rfl))
theorem no_Calendar_at {x0 x1 : V} : (fl_Calendar x0 x1).lookup ("at" : Str) = none := (lk_ne (by decide +kernel) (lk_ne (by decide +kernel) rfl))
theorem no_Calendar_over {x0 x1 : V} : (fl_Calendar x0 x1).lookup ("over" : Str) = none := (lk_ne (by decide +kernel) (lk_ne (by decide +kernel) rfl))
theorem no_Calendar_over_spans {x0 x1 : V} : (fl_Calendar x0 x1).lookup ("over_spans" : Str) = none := (lk_ne (by decide +kernel) (lk_ne (by decide +kernel) rfl))
theorem no_Calendar_changes {x0 x1 : V} : (fl_Calendar x0 x1).lookup ("changes" : Str) = none := (lk_ne (by decide +kernel) (lk_ne (by decide +kernel) rfl))
abbrev fl_Kept (x0 x1 x2 : V) : List (Str × V) := [(("load" : Str), x0), (("calendar" : Str), x1), (("plan" : Str), x2)]
theorem lk_Kept_load {x0 x1 x2 : V} : (fl_Kept x0 x1 x2).lookup ("load" : Str) = some x0 := lk_eq
theorem pf_Kept_load {x0 x1 x2 y : V} : putF ("load" : Str) y (fl_Kept x0 x1 x2) = fl_Kept y x1 x2 := pf_eq
theorem pi_Kept_load {x0 : V} : putF ("load" : Str) x0 [] = [(("load" : Str), x0)] := pf_nil
theorem lk_Kept_calendar {x0 x1 x2 : V} : (fl_Kept x0 x1 x2).lookup ("calendar" : Str) = some x1 := (lk_ne (by decide +kernel) lk_eq)
theorem pf_Kept_calendar {x0 x1 x2 y : V} : putF ("calendar" : Str) y (fl_Kept x0 x1 x2) = fl_Kept x0 y x2 := (pf_ne (by decide +kernel) pf_eq)
theorem pi_Kept_calendar {x0 x1 : V} : putF ("calendar" : Str) x1 [(("load" : Str), x0)] = [(("load" : Str), x0), (("calendar" : Str), x1)] := (pf_ne (by decide +kernel) pf_nil)
theorem lk_Kept_plan {x0 x1 x2 : V} : (fl_Kept x0 x1 x2).lookup ("plan" : Str) = some x2 := (lk_ne (by decide +kernel) (lk_ne (by decide +kernel) lk_eq))
theorem pf_Kept_plan {x0 x1 x2 y : V} : putF ("plan" : Str) y (fl_Kept x0 x1 x2) = fl_Kept x0 x1 y := (pf_ne (by decide +kernel) (pf_ne (by decide +kernel) pf_eq))
theorem pi_Kept_plan {x0 x1 x2 : V} : putF ("plan" : Str) x2 [(("load" : Str), x0), (("calendar" : Str), x1)] = [(("load" : Str), x0), (("calendar" : Str), x1), (("plan" : Str), x2)] := (pf_ne (by decide +kernel) (pf_ne (by decide +kernel) pf_nil))
theorem no_Kept_kept {x0 x1 x2 : V} : (fl_Kept x0 x1 x2).lookup ("kept" : Str) = none := (lk_ne (by decide +kernel) (lk_ne (by decide +kernel) (lk_ne (by decide +kernel) rfl)))
theorem no_Kept_word {x0 x1 x2 : V} : (fl_Kept x0 x1 x2).lookup ("word" : Str) = none := (lk_ne (by decide +kernel) (lk_ne (by decide +kernel) (lk_ne (by decide +kernel) rfl)))
theorem no_Kept_told {x0 x1 x2 : V} : (fl_Kept x0 x1 x2).lookup ("told" : Str) = none := (lk_ne (by decide +kernel) (lk_ne (by decide +kernel) (lk_ne (by decide +kernel) rfl)))
theorem no_Kept_holds {x0 x1 x2 : V} : (fl_Kept x0 x1 x2).lookup ("holds" : Str) = none := (lk_ne (by decide +kernel) (lk_ne (by decide +kernel) (lk_ne (by decide +kernel) rfl)))
theorem no_Kept_left_by_plan {x0 x1 x2 : V} : (fl_Kept x0 x1 x2).lookup ("left_by_plan" : Str) = none := (lk_ne (by decide +kernel) (lk_ne (by decide +kernel) (lk_ne (by decide +kernel) rfl)))
abbrev fl_Full (x0 x1 x2 x3 x4 x5 : V) : List (Str × V) := [(("load" : Str), x0), (("calendar" : Str), x1), (("plan" : Str), x2), (("lack" : Str), x3), (("spans" : Str), x4), (("names" : Str), x5)]
theorem lk_Full_load {x0 x1 x2 x3 x4 x5 : V} : (fl_Full x0 x1 x2 x3 x4 x5).lookup ("load" : Str) = some x0 := lk_eq
theorem pf_Full_load {x0 x1 x2 x3 x4 x5 y : V} : putF ("load" : Str) y (fl_Full x0 x1 x2 x3 x4 x5) = fl_Full y x1 x2 x3 x4 x5 := pf_eq
theorem pi_Full_load {x0 : V} : putF ("load" : Str) x0 [] = [(("load" : Str), x0)] := pf_nil
theorem lk_Full_calendar {x0 x1 x2 x3 x4 x5 : V} : (fl_Full x0 x1 x2 x3 x4 x5).lookup ("calendar" : Str) = some x1 := (lk_ne (by decide +kernel) lk_eq)
theorem pf_Full_calendar {x0 x1 x2 x3 x4 x5 y : V} : putF ("calendar" : Str) y (fl_Full x0 x1 x2 x3 x4 x5) = fl_Full x0 y x2 x3 x4 x5 := (pf_ne (by decide +kernel) pf_eq)
theorem pi_Full_calendar {x0 x1 : V} : putF ("calendar" : Str) x1 [(("load" : Str), x0)] = [(("load" : Str), x0), (("calendar" : Str), x1)] := (pf_ne (by decide +kernel) pf_nil)
theorem lk_Full_plan {x0 x1 x2 x3 x4 x5 : V} : (fl_Full x0 x1 x2 x3 x4 x5).lookup ("plan" : Str) = some x2 := (lk_ne (by decide +kernel) (lk_ne (by decide +kernel) lk_eq))
theorem pf_Full_plan {x0 x1 x2 x3 x4 x5 y : V} : putF ("plan" : Str) y (fl_Full x0 x1 x2 x3 x4 x5) = fl_Full x0 x1 y x3 x4 x5 := (pf_ne (by decide +kernel) (pf_ne (by decide +kernel) pf_eq))
theorem pi_Full_plan {x0 x1 x2 : V} : putF ("plan" : Str) x2 [(("load" : Str), x0), (("calendar" : Str), x1)] = [(("load" : Str), x0), (("calendar" : Str), x1), (("plan" : Str), x2)] := (pf_ne (by decide +kernel) (pf_ne (by decide +kernel) pf_nil))
theorem lk_Full_lack {x0 x1 x2 x3 x4 x5 : V} : (fl_Full x0 x1 x2 x3 x4 x5).lookup ("lack" : Str) = some x3 := (lk_ne (by decide +kernel) (lk_ne (by decide +kernel) (lk_ne (by decide +kernel) lk_eq)))
theorem pf_Full_lack {x0 x1 x2 x3 x4 x5 y : V} : putF ("lack" : Str) y (fl_Full x0 x1 x2 x3 x4 x5) = fl_Full x0 x1 x2 y x4 x5 := (pf_ne (by decide +kernel) (pf_ne (by decide +kernel) (pf_ne (by decide +kernel) pf_eq)))
theorem pi_Full_lack {x0 x1 x2 x3 : V} : putF ("lack" : Str) x3 [(("load" : Str), x0), (("calendar" : Str), x1), (("plan" : Str), x2)] = [(("load" : Str), x0), (("calendar" : Str), x1), (("plan" : Str), x2), (("lack" : Str), x3)] := (pf_ne (by decide +kernel) (pf_ne (by decide +kernel) (pf_ne (by decide +kernel) pf_nil)))
theorem lk_Full_spans {x0 x1 x2 x3 x4 x5 : V} : (fl_Full x0 x1 x2 x3 x4 x5).lookup ("spans" : Str) = some x4 := (lk_ne (by decide +kernel) (lk_ne (by decide +kernel) (lk_ne (by decide +kernel) (lk_ne (by decide +kernel) lk_eq))))
theorem pf_Full_spans {x0 x1 x2 x3 x4 x5 y : V} : putF ("spans" : Str) y (fl_Full x0 x1 x2 x3 x4 x5) = fl_Full x0 x1 x2 x3 y x5 := (pf_ne (by decide +kernel) (pf_ne (by decide +kernel) (pf_ne (by decide +kernel) (pf_ne (by decide +kernel) pf_eq))))
theorem pi_Full_spans {x0 x1 x2 x3 x4 : V} : putF ("spans" : Str) x4 [(("load" : Str), x0), (("calendar" : Str), x1), (("plan" : Str), x2), (("lack" : Str), x3)] = [(("load" : Str), x0), (("calendar" : Str), x1), (("plan" : Str), x2), (("lack" : Str), x3), (("spans" : Str), x4)] := (pf_ne (by decide +kernel) (pf_ne (by decide +kernel) (pf_ne (by decide +kernel) (pf_ne (by decide +kernel) pf_nil))))
theorem lk_Full_names {x0 x1 x2 x3 x4 x5 : V} : (fl_Full x0 x1 x2 x3 x4 x5).lookup ("names" : Str) = some x5 := (lk_ne (by decide +kernel) (lk_ne (by decide +kernel) (lk_ne (by decide +kernel) (lk_ne (by decide +kernel) (lk_ne (by decide +kernel) lk_eq)))))
theorem pf_Full_names {x0 x1 x2 x3 x4 x5 y : V} : putF ("names" : Str) y (fl_Full x0 x1 x2 x3 x4 x5) = fl_Full x0 x1 x2 x3 x4 y := (pf_ne (by decide +kernel) (pf_ne (by decide +kernel) (pf_ne (by decide +kernel) (pf_ne (by decide +kernel) (pf_ne (by decide +kernel) pf_eq)))))
theorem pi_Full_names {x0 x1 x2 x3 x4 x5 : V} : putF ("names" : Str) x5 [(("load" : Str), x0), (("calendar" : Str), x1), (("plan" : Str), x2), (("lack" : Str), x3), (("spans" : Str), x4)] = [(("load" : Str), x0), (("calendar" : Str), x1), (("plan" : Str), x2), (("lack" : Str), x3), (("spans" : Str), x4), (("names" : Str), x5)] := (pf_ne (by decide +kernel) (pf_ne (by decide +kernel) (pf_ne (by decide +kernel) (pf_ne (by decide +kernel) (pf_ne (by decide +kernel) pf_nil)))))
theorem no_Full_kept {x0 x1 x2 x3 x4 x5 : V} : (fl_Full x0 x1 x2 x3 x4 x5).lookup ("kept" : Str) = none := (lk_ne (by decide +kernel) (lk_ne (by decide +kernel) (lk_ne (by decide +kernel) (lk_ne (by decide +kernel) (lk_ne (by decide +kernel) (lk_ne (by decide +kernel) rfl))))))
theorem no_Full_word {x0 x1 x2 x3 x4 x5 : V} : (fl_Full x0 x1 x2 x3 x4 x5).lookup ("word" : Str) = none := (lk_ne (by decide +kernel) (lk_ne (by decide +kernel) (lk_ne (by decide +kernel) (lk_ne (by decide +kernel) (lk_ne (by decide +kernel) (lk_ne (by decide +kernel) rfl))))))
theorem no_Full_told {x0 x1 x2 x3 x4 x5 : V} : (fl_Full x0 x1 x2 x3 x4 x5).lookup ("told" : Str) = none := (lk_ne (by decide +kernel) (lk_ne (by decide +kernel) (lk_ne (by decide +kernel) (lk_ne (by decide +kernel) (lk_ne (by decide +kernel) (lk_ne (by decide +kernel) rfl))))))
theorem no_Full_holds {x0 x1 x2 x3 x4 x5 : V} : (fl_Full x0 x1 x2 x3 x4 x5).lookup ("holds" : Str) = none := (lk_ne (by decide +kernel) (lk_ne (by decide +kernel) (lk_ne (by decide +kernel) (lk_ne (by decide +kernel) (lk_ne (by decide +kernel) (lk_ne (by decide +kernel) rfl))))))
theorem no_Full_left_by_plan {x0 x1 x2 x3 x4 x5 : V} : (fl_Full x0 x1 x2 x3 x4 x5).lookup ("left_by_plan" : Str) = none := (lk_ne (by decide +kernel) (lk_ne (by decide +kernel) (lk_ne (by decide +kernel) (lk_ne (by decide +kernel) (lk_ne (by decide +kernel) (lk_ne (by decide +kernel) rfl))))))
end Due

set_option Elab.async false
set_option linter.all false
set_option maxRecDepth 100000
set_option maxHeartbeats 4000000
namespace PySem
open PySem.Spec PyProof.Rows L2
section
variable {P : Program} {w : World} {A : Around} {E : Value → Shared → Prop} {s : Shared}
/-- the empty set as set() lays it -/
abbrev nset (w : World) : Obj := { cls := .type "set", dict := none, data := .set #[] 0 (.fresh 0 0 (!w.params.followText "set-order")) }
set_option maxHeartbeats 8000000 in
/-- set(xs) of a list of ints, with its order kept in sight (the proof is the library's own for a tuple, turned to a list) -/
theorem due_set_list {l : Addr} {items : Array Value} (ns : List Int) {Q : Value → Shared → Prop} (hh : A.handled = none) (hl : s.heap.IsList l items) (hit : IntsAre items.toList ns) (hb : ns.length + 1 < scanBound)
    (h : ∀ (h' : Heap) (tk c : Nat), SetR w h' s.heap.objs.size (fun j => decide (j ∈ ns)) c → c ≤ ns.length → (∀ b o, s.heap.get? b = some o → h'.get? b = some o) → Q (.ref s.heap.objs.size) { s with heap := h', toks := tk }) :
    wpAny (model P w) A (call (.type "set") [.ref l]) Q E s := by
  have hisz : items.size = ns.length := by
    have q := IntsAre.length hit
    rwa [Array.length_toList] at q
  obtain ⟨c, tl, hmro⟩ := F.called_set.mro
  have hmade := F.called_set.made
  have hsub := F.called_set.sub
  refine wpAny_call (codeAny_of_tree ?_)
  show wpAny _ _ (callAny (.type "set") _) _ _ _
  refine wpAny_pure ⟨Code.quiet_builtin _ (by decide +kernel), codeAny_builtin PySem.F.entry_type_call ?_⟩
  rw [Around.under_plain (weight_type_call_type "set" [.ref l] []) rfl]
  have g1 := F.called_set.notType
  have g2 := F.called_set.canCreate
  have g3 := F.typeCall_set_1 (.ref l)
  repeat (any_goals (first | assumption | wp_step))
  refine codeAny_mono (code_set_led1 (.ref l) (E := E) (Q₁ := fun obj s₁ => obj = .ref s.heap.objs.size ∧ s₁ = { s with heap := s.heap.push (nset w) }) ⟨rfl, rfl⟩) fun r s₁ hr => ?_
  cases r with
  | error e => exact hr
  | ok fl =>
    cases fl with
    | ret obj =>
      obtain ⟨rfl, rfl⟩ := hr
      have hS : (s.heap.push (nset w)).get? s.heap.objs.size = some (nset w) := Heap.get?_push_size _ rfl
      have hT : Shared.TypeIs { s with heap := s.heap.push (nset w) } (.ref s.heap.objs.size) "set" := ⟨_, hS, rfl⟩
      have hli := F.called_set.init.lookup
      have hbi := F.called_set.init.bind (.ref s.heap.objs.size)
      repeat (any_goals (first | assumption | wp_step))
      refine codeAny_mono (codeAny_call_builtin (R := wants (fun r s₂ => r = .none ∧ ∃ h' tk c, s₂ = { s with heap := h', toks := tk } ∧ SetR w h' s.heap.objs.size (fun j => decide (j ∈ ns)) c ∧ c ≤ ns.length ∧
          (∀ b o, s.heap.get? b = some o → h'.get? b = some o)) E) F.called_set.init.plain F.entry_set_init (check_set_init_1 hT ?_)) fun r₂ s₂ hr₂ => ?_
      · obtain ⟨⟨k1, k2, k3, k4⟩, hol, hcl, nl, hdl⟩ := hl
        obtain rfl : k1 = .type "list" := hcl
        simp only at hdl
        subst hdl
        have hol' : (s.heap.push (nset w)).get? l = some { cls := .type "list", dict := k2, data := .seq items nl, slots := k4 } := Heap.get?_push_of_some _ hol
        have b1 := F.sub_list_set
        have b2 := F.sub_list_frozenset
        have b3 : (Value.type "list" == Value.type "dict") = false := by decide
        have hl1 : (s.heap.push (nset w)).IsList l items := ⟨_, hol', rfl, nl, rfl⟩
        unfold Builtin.«set.__init__» noKeywords Builtin.Frozenset.updateFrom
        generalize hPI : pyIter = PI
        wp_walk
        subst hPI
        refine wpAny_pyIter_list hl1 ?_
        refine wpAny_bind (wpAny_runValue ?_)
        have lt : l < s.heap.objs.size := Heap.lt_size hol
        have hh3 : A.in1.in1.in1.handled = none := by simp [hh]
        have nI : l ≠ (s.heap.push (nset w)).objs.size := by rw [Heap.size_push]; exact Nat.ne_of_lt (Nat.lt_succ_of_lt lt)
        have nF : s.heap.objs.size ∉ [(s.heap.push (nset w)).objs.size, l] := by
          rw [Heap.size_push]
          intro z
          rcases List.mem_cons.mp z with z | z
          · exact absurd z (Nat.ne_of_lt (Nat.lt_succ_self _))
          · exact absurd (List.mem_singleton.mp z) (Nat.ne_of_gt lt)
        have hval : ∀ (i : Nat) (v : Value), items[i]? = some v → ∃ k t, ns[i]? = some k ∧ v = .int k t := fun i v hv => by
          have hi : i < ns.length := by rw [← hisz]; exact (Array.getElem?_eq_some_iff.mp hv).1
          obtain ⟨t, e⟩ := PyProof.Rows.IntsAre.int_at hit i v (by rw [Array.getElem?_toList]; exact hv)
          refine ⟨ns[i], t, List.getElem?_eq_getElem hi, ?_⟩
          rw [e, List.getD_eq_getElem?_getD, List.getElem?_eq_getElem hi]; rfl
        refine set_update_ints ((Walks.list hh3 _ l nI items).toS) s.heap.objs.size nF ns hisz hb hval (items.size - 0) 0 _ (by omega) (Nat.zero_le _) ⟨⟨_, Heap.get?_push_size _ rfl, rfl, rfl⟩, (hl1.push _)⟩ ?s0 ?sR
        case s0 => exact ⟨0, Nat.le_refl 0, setR_new_at (Heap.get?_push_of_some _ hS)⟩
        case sR =>
          intro s' c' hm hc' hS'
          obtain ⟨h', g2, d', tk', os'⟩ := s'
          obtain rfl : g2 = s.gens := hm.gens
          obtain rfl : d' = s.drawn := hm.drawn
          obtain rfl : os' = s.os := hm.os
          show wpAny _ _ _ _ _ _
          refine wpAny_pure ?_
          show wpAny _ _ (ret Value.none) _ _ _
          rw [hisz] at hc'
          refine wpAny_pure ⟨rfl, h', tk', c', rfl, hS', hc', fun b o e => ?_⟩
          have q0 : b < s.heap.objs.size := Heap.lt_size e
          refine hm.heap b o (fun z => ?_) (Heap.get?_push_of_some _ (Heap.get?_push_of_some _ e))
          rcases List.mem_cons.mp z with z | z
          · exact absurd z (Nat.ne_of_lt q0)
          · have z := List.mem_singleton.mp z
            rw [Heap.size_push] at z
            exact absurd z (Nat.ne_of_lt (Nat.lt_succ_of_lt q0))
      · cases r₂ with
        | error e => exact hr₂
        | ok fl₂ =>
          cases fl₂ with
          | ret r =>
            obtain ⟨rfl, h', tk, c', rfl, hS', hc', hk'⟩ := hr₂
            repeat (any_goals (first | assumption | wp_step))
            exact h _ _ _ hS' hc' hk'
          | _ => exact hr₂.elim
    | _ => exact hr.elim
end
end PySem
namespace Due
open PySem PySem.Spec PyProof.Rows L2
def rSetL' (K : PySem.W.Frag) (w : World) : List V → Hp → VK → Prop := fun vs H Q => ∃ (a : Addr) (ns : List Int), vs = [.ref a] ∧ SqL K H a (ns.map V.int) ∧ ns.length < 1000 ∧ ∀ p c, H p = none → c ≤ ns.length → Q (.ref p) (upd H p (SetO w p (fun j => decide (j ∈ ns)) c))
section
variable {X : Cx}
theorem c_setL (hc : X.calm = true) : CallR X (.type "set") (rSetL' X.K X.w) := by
  intro pins s σ H vs us Q I r h
  obtain ⟨a, ns, rfl, hs, hz, q⟩ := h
  obtain ⟨u, rfl, rx⟩ := vals1 r
  cases rx
  obtain ⟨its, rv, pl, hlen⟩ := I.list hs
  have hh : X.A.handled = none := I.ok.hd hc
  refine due_set_list ns hh pl.isList (ints_of_vals rv) (by unfold scanBound; omega) fun h' tk c R hcl k => ?_
  exact ⟨.ref _, _, I.laid (t' := tk) k (Nat.le_refl _) (setO_new R), rfl, q _ c (I.hok.fresh (Nat.le_refl _)) hcl⟩
end
end Due

set_option Elab.async false
set_option linter.all false
set_option maxRecDepth 100000
set_option maxHeartbeats 4000000
namespace Due
open PySem PySem.Spec PyProof.Rows L2
section
variable {K : PySem.W.Frag} {σ : L2.St} {H : Hp} {Q : VK} {te : TE} {nx : L2.St → Hp → Prop} {rt : VK} {g : TG} {t : TS}
theorem w_sl {r : V → Option Int → Option Int → Hp → VK → Prop} {tl th : TO} (h : te σ H fun x H1 => tl σ H1 fun l H2 => th σ H2 fun u H3 => r x l u H3 Q) : tSl r te tl th σ H Q := h
theorem w_noPart {R : Option Int → Hp → Prop} (h : R none H) : tNoPart σ H R := h
def rPart (x : V) (H : Hp) (R : Option Int → Hp → Prop) : Prop := ∃ i, x = .int i ∧ R (some i) H
theorem w_part {R : Option Int → Hp → Prop} (h : te σ H fun x H1 => rPart x H1 R) : tPart te σ H R := h
theorem w_rPart {R : Option Int → Hp → Prop} {i : Int} (h : R (some i) H) : rPart (.int i) H R := ⟨i, rfl, h⟩
theorem w_slL {a : Addr} {xs : List V} {lo hi : Option Int} (e : H a = some (.lst xs)) (h : ∀ p H', H p = none → Same H H' → H' p = some (.lst (cutV xs lo hi)) → Q (.ref p) H') : rSlL K (.ref a) lo hi H Q := ⟨a, xs, rfl, SqL.of e, fun p hp => h p _ hp (Same.new hp) upd_same⟩
def rZip (K : PySem.W.Frag) (vs : List V) (H : Hp) (R : It → Hp → Prop) : Prop := ∃ a b xs ys, vs = [.ref a, .ref b] ∧ SqL K H a xs ∧ SqL K H b ys ∧ R (Itz K a b) H
theorem w_iZip {ta : TA} {R : It → Hp → Prop} (h : ta σ H fun vs H1 => rZip K vs H1 R) : iZip K ta σ H R := h
theorem w_rZip {a b : Addr} {xs ys : List V} {R : It → Hp → Prop} (e1 : H a = some (.lst xs)) (e2 : H b = some (.lst ys)) (h : R (Itz K a b) H) : rZip K [.ref a, .ref b] H R := ⟨a, b, xs, ys, rfl, SqL.of e1, SqL.of e2, h⟩
def rEnum (K : PySem.W.Frag) (vs : List V) (H : Hp) (R : It → Hp → Prop) : Prop := ∃ a xs, vs = [.ref a] ∧ SqL K H a xs ∧ R (Ite K a) H
theorem w_iEnum {ta : TA} {R : It → Hp → Prop} (h : ta σ H fun vs H1 => rEnum K vs H1 R) : iEnum K ta σ H R := h
theorem w_rEnum {a : Addr} {xs : List V} {R : It → Hp → Prop} (e1 : H a = some (.lst xs)) (h : R (Ite K a) H) : rEnum K [.ref a] H R := ⟨a, xs, rfl, SqL.of e1, h⟩
def rRng (vs : List V) (H : Hp) (R : It → Hp → Prop) : Prop := ∃ j : Int, vs = [.int j] ∧ -(2 ^ 62) ≤ j ∧ j < 2 ^ 62 ∧ R (Itr 0 j.toNat) H
theorem w_iRng {ta : TA} {R : It → Hp → Prop} (h : ta σ H fun vs H1 => rRng vs H1 R) : iRng1 ta σ H R := h
theorem w_rRng {n : Nat} {R : It → Hp → Prop} (hn : n ≤ 1000000) (h : R (Itr 0 n) H) : rRng [.int (n : Int)] H R := ⟨n, rfl, by omega, by omega, h⟩
theorem lp_range {n : Nat} (Pv : Nat → L2.St → Hp → Prop) (h0 : Pv 0 σ H) (hs : ∀ i σ H, i < n → Pv i σ H → g (.int (i : Int)) σ H fun σ2 H2 => t ⟨Pv (i + 1), rt, nx, Pv (i + 1)⟩ σ2 H2) (hd : ∀ σ H, Pv n σ H → nx σ H) : Lp (Itr 0 n) g t nx rt σ H :=
  lp_walk walk_range Pv h0 (fun _ _ _ _ _ => trivial) (fun i x σ H H' hi p y => by
    obtain ⟨rfl, rfl⟩ := y
    have e : (0 : Int) + (i : Int) = (i : Int) := Int.zero_add _
    show g (.int ((0 : Int) + (i : Int))) σ H' _
    rw [e]
    exact hs i σ H' hi p) hd
theorem lp_zip {a b : Addr} {xs ys : List V} {n : Nat} (hn : n = min xs.length ys.length) (Pv : Nat → L2.St → Hp → Prop) (h0 : Pv 0 σ H) (hG : ∀ i σ H, i ≤ n → Pv i σ H → H a = some (.lst xs) ∧ H b = some (.lst ys))
    (hs : ∀ i x y T σ H H', i < n → xs[i]? = some x → ys[i]? = some y → Pv i σ H → H T = none → Same H H' → H' T = some (.tup [x, y]) → g (.ref T) σ H' fun σ2 H2 => t ⟨Pv (i + 1), rt, nx, Pv (i + 1)⟩ σ2 H2) (hd : ∀ σ H, Pv n σ H → nx σ H) : Lp (Itz K a b) g t nx rt σ H :=
  lp_walk (walk_zip hn) Pv h0 (fun i σ H hi p => ⟨SqL.of (hG i σ H hi p).1, SqL.of (hG i σ H hi p).2⟩) (fun i x σ H H' hi p y => by
    obtain ⟨T, x1, y1, rfl, h1, rfl, h3, h4⟩ := y
    exact hs i x1 y1 T σ H _ hi h3 h4 p h1 (Same.new h1) upd_same) hd
theorem lp_enum {a : Addr} {xs : List V} (Pv : Nat → L2.St → Hp → Prop) (h0 : Pv 0 σ H) (hG : ∀ i σ H, i ≤ xs.length → Pv i σ H → H a = some (.lst xs))
    (hs : ∀ i y T σ H H', i < xs.length → xs[i]? = some y → Pv i σ H → H T = none → Same H H' → H' T = some (.tup [.int (i : Nat), y]) → g (.ref T) σ H' fun σ2 H2 => t ⟨Pv (i + 1), rt, nx, Pv (i + 1)⟩ σ2 H2) (hd : ∀ σ H, Pv xs.length σ H → nx σ H) : Lp (Ite K a) g t nx rt σ H :=
  lp_walk (walk_enum (xs := xs)) Pv h0 (fun i σ H hi p => SqL.of (hG i σ H hi p)) (fun i x σ H H' hi p y => by
    obtain ⟨T, x1, y1, rfl, h1, rfl, h3, h4⟩ := y
    cases h3
    exact hs i y1 T σ H _ hi h4 p h1 (Same.new h1) upd_same) hd
theorem w_cat {l b : Addr} {xs zs : List V} (e1 : H l = some (.lst xs)) (e2 : H b = some (.lst zs)) (hz : xs.length + zs.length ≤ 100000) (h : ∀ p H', H p = none → Same H H' → H' p = some (.lst (xs ++ zs)) → Q (.ref p) H') : rCat (.ref l) (.ref b) H Q :=
  ⟨l, b, xs, zs, rfl, rfl, e1, e2, szl hz, fun p hp => h p _ hp (Same.new hp) upd_same⟩
end
theorem cut_init (xs : List V) : cutV xs none (some (-1)) = xs.dropLast := by
  have h : HT.sIx xs.length xs.length (some (-1)) = xs.length - 1 := by
    show (if (-1 : Int) < 0 then ((-1 : Int) + (xs.length : Int)).toNat else min (-1 : Int).toNat xs.length) = xs.length - 1
    rw [if_pos (by decide)]
    omega
  have h0 : HT.sIx xs.length 0 none = 0 := rfl
  unfold cutV
  rw [h, h0, List.drop_zero, Nat.sub_zero, List.dropLast_eq_take]
theorem cut_tail (xs : List V) : cutV xs (some 1) none = xs.drop 1 := by
  have h : HT.sIx xs.length xs.length none = xs.length := rfl
  have h0 : HT.sIx xs.length 0 (some 1) = min 1 xs.length := by
    show (if (1 : Int) < 0 then ((1 : Int) + (xs.length : Int)).toNat else min (1 : Int).toNat xs.length) = min 1 xs.length
    rw [if_neg (by decide)]
    rfl
  unfold cutV
  rw [h, h0]
  by_cases e : xs.length = 0
  · rw [List.eq_nil_of_length_eq_zero e]; rfl
  · rw [show min 1 xs.length = 1 by omega]
    exact List.take_of_length_le (by rw [List.length_drop]; omega)
/-- neighbours -/
def cons2 (ms : List Int) : List (Int × Int) := ms.zip (ms.drop 1)
theorem cons2_len (ms : List Int) : (cons2 ms).length = ms.length - 1 := by
  unfold cons2
  rw [List.length_zip, List.length_drop]
  omega
theorem cons2_at {ms : List Int} {i : Nat} {x y : V} (h1 : ((ms.map V.int).dropLast)[i]? = some x) (h2 : ((ms.map V.int).drop 1)[i]? = some y) : ∃ p, (cons2 ms)[i]? = some p ∧ x = .int p.1 ∧ y = .int p.2 := by
  have k1 : (ms.map V.int)[i]? = some x := by
    rw [List.getElem?_dropLast] at h1
    split at h1
    · exact h1
    · cases h1
  rw [List.getElem?_drop] at h2
  obtain ⟨a, ea, rfl⟩ := map_get k1
  obtain ⟨b, eb, rfl⟩ := map_get h2
  refine ⟨(a, b), ?_, rfl, rfl⟩
  unfold cons2
  rw [List.getElem?_zip_eq_some]
  exact ⟨ea, by rw [List.getElem?_drop]; exact eb⟩
end Due

set_option linter.all false
/-! M1: finite sums, the flow theory: feasible states, pushing along a way, the cut. -/
namespace Due

/-! ### sums -/
def sm : Nat → (Nat → Int) → Int
  | 0, _ => 0
  | n + 1, f => sm n f + f n
theorem sm_congr {f g : Nat → Int} : ∀ {n : Nat}, (∀ i, i < n → f i = g i) → sm n f = sm n g
  | 0, _ => rfl
  | n + 1, h => by
    show sm n f + f n = sm n g + g n
    rw [sm_congr (n := n) fun i hi => h i (Nat.lt_succ_of_lt hi), h n (Nat.lt_succ_self n)]
theorem sm_add (f g : Nat → Int) : ∀ (n : Nat), sm n (fun i => f i + g i) = sm n f + sm n g
  | 0 => rfl
  | n + 1 => by
    show sm n (fun i => f i + g i) + (f n + g n) = sm n f + f n + (sm n g + g n)
    rw [sm_add f g n]; omega
theorem sm_sub (f g : Nat → Int) : ∀ (n : Nat), sm n (fun i => f i - g i) = sm n f - sm n g
  | 0 => rfl
  | n + 1 => by
    show sm n (fun i => f i - g i) + (f n - g n) = sm n f + f n - (sm n g + g n)
    rw [sm_sub f g n]; omega
theorem sm_mul (k : Int) (f : Nat → Int) : ∀ (n : Nat), sm n (fun i => k * f i) = k * sm n f
  | 0 => by show (0 : Int) = k * 0; omega
  | n + 1 => by
    show sm n (fun i => k * f i) + k * f n = k * (sm n f + f n)
    rw [sm_mul k f n, Int.mul_add]
theorem sm_zero : ∀ (n : Nat), sm n (fun _ => 0) = 0
  | 0 => rfl
  | n + 1 => by show sm n (fun _ => 0) + 0 = 0; rw [sm_zero n]; rfl
theorem sm_zero' {f : Nat → Int} {n : Nat} (h : ∀ i, i < n → f i = 0) : sm n f = 0 := by
  rw [sm_congr h]; exact sm_zero n
theorem sm_nonneg {f : Nat → Int} : ∀ {n : Nat}, (∀ i, i < n → 0 ≤ f i) → 0 ≤ sm n f
  | 0, _ => Int.le_refl 0
  | n + 1, h => by
    have h1 := sm_nonneg (n := n) fun i hi => h i (Nat.lt_succ_of_lt hi)
    have h2 := h n (Nat.lt_succ_self n)
    show 0 ≤ sm n f + f n
    omega
theorem sm_le {f g : Nat → Int} : ∀ {n : Nat}, (∀ i, i < n → f i ≤ g i) → sm n f ≤ sm n g
  | 0, _ => Int.le_refl 0
  | n + 1, h => by
    have h1 := sm_le (n := n) fun i hi => h i (Nat.lt_succ_of_lt hi)
    have h2 := h n (Nat.lt_succ_self n)
    show sm n f + f n ≤ sm n g + g n
    omega
theorem sm_ge_one {f : Nat → Int} : ∀ {n : Nat}, (∀ i, i < n → 0 ≤ f i) → ∀ {i : Nat}, i < n → f i ≤ sm n f
  | 0, _, i, hi => absurd hi (Nat.not_lt_zero i)
  | n + 1, h, i, hi => by
    have h1 : ∀ i, i < n → 0 ≤ f i := fun i hi => h i (Nat.lt_succ_of_lt hi)
    have h2 := h n (Nat.lt_succ_self n)
    show f i ≤ sm n f + f n
    by_cases e : i = n
    · have := sm_nonneg h1
      rw [e]; omega
    · have := sm_ge_one h1 (i := i) (by omega)
      omega
theorem sm_swap (f : Nat → Nat → Int) : ∀ (n m : Nat), sm n (fun i => sm m (fun k => f i k)) = sm m (fun k => sm n (fun i => f i k))
  | 0, m => by show (0 : Int) = sm m (fun k => 0); rw [sm_zero]
  | n + 1, m => by
    show sm n (fun i => sm m (fun k => f i k)) + sm m (fun k => f n k) = sm m (fun k => sm n (fun i => f i k) + f n k)
    rw [sm_swap f n m, sm_add]
def set1 (f : Nat → Int) (i : Nat) (v : Int) : Nat → Int := fun x => if x = i then v else f x
theorem set1_same {f : Nat → Int} {i : Nat} {v : Int} : set1 f i v i = v := by unfold set1; rw [if_pos rfl]
theorem set1_ne {f : Nat → Int} {i x : Nat} {v : Int} (h : x ≠ i) : set1 f i v x = f x := by unfold set1; rw [if_neg h]
theorem sm_set1_ge {f : Nat → Int} {i : Nat} {v : Int} {n : Nat} (h : n ≤ i) : sm n (set1 f i v) = sm n f :=
  sm_congr fun x hx => set1_ne (by omega)
theorem sm_set1 {f : Nat → Int} {i : Nat} {v : Int} : ∀ {n : Nat}, i < n → sm n (set1 f i v) = sm n f - f i + v
  | 0, h => absurd h (Nat.not_lt_zero i)
  | n + 1, h => by
    show sm n (set1 f i v) + set1 f i v n = sm n f + f n - f i + v
    by_cases e : i = n
    · rw [e, sm_set1_ge (Nat.le_refl n), set1_same]; omega
    · rw [sm_set1 (n := n) (by omega), set1_ne (fun z => e z.symm)]; omega
theorem sm_split (f : Nat → Int) (n : Nat) : ∀ (k : Nat), sm (n + k) f = sm n f + sm k (fun i => f (n + i))
  | 0 => by show sm n f = sm n f + 0; omega
  | k + 1 => by
    show sm (n + k) f + f (n + k) = sm n f + (sm k (fun i => f (n + i)) + f (n + k))
    rw [sm_split f n k]; omega
theorem sm_mono_n {f : Nat → Int} {n m : Nat} (h : ∀ i, i < m → 0 ≤ f i) (l : n ≤ m) : sm n f ≤ sm m f := by
  obtain ⟨k, rfl⟩ : ∃ k, m = n + k := ⟨m - n, by omega⟩
  rw [sm_split]
  have := sm_nonneg (f := fun i => f (n + i)) (n := k) fun i hi => h (n + i) (by omega)
  omega
/-- the sum of a list of ints -/
theorem sum_range_map (f : Nat → Int) : ∀ (n : Nat), ((List.range n).map f).sum = sm n f
  | 0 => rfl
  | n + 1 => by
    rw [List.range_succ, List.map_append, List.sum_append, sum_range_map f n]
    show sm n f + (f n + 0) = sm n f + f n
    omega

/-! ### the instance and the state -/
structure Inst where
  n : Nat
  m : Nat
  br : Nat → Int
  wk : Nat → Int
  ln : Nat → Int
  cp : Nat → Int
  rm : Nat → List Nat
def Inst.most (I : Inst) (j c : Nat) : Int := I.br j * I.ln c
structure Inst.Ok (I : Inst) : Prop where
  br1 : ∀ j, j < I.n → 1 ≤ I.br j
  ln1 : ∀ c, c < I.m → 1 ≤ I.ln c
  wk0 : ∀ j, j < I.n → 0 ≤ I.wk j
  cp0 : ∀ c, c < I.m → 0 ≤ I.cp c
  rmm : ∀ j, j < I.n → ∀ c ∈ I.rm j, c < I.m
structure FS where
  sh : Nat → Nat → Int
  sp : Nat → Int
  wa : Nat → Int
structure Feas (I : Inst) (S : FS) : Prop where
  sh0 : ∀ j, j < I.n → ∀ c, c < I.m → 0 ≤ S.sh j c
  shm : ∀ j, j < I.n → ∀ c, c < I.m → S.sh j c ≤ I.most j c
  shr : ∀ j, j < I.n → ∀ c, c < I.m → 0 < S.sh j c → c ∈ I.rm j
  row : ∀ j, j < I.n → sm I.m (S.sh j) + S.wa j = I.wk j
  wa0 : ∀ j, j < I.n → 0 ≤ S.wa j
  col : ∀ c, c < I.m → sm I.n (fun j => S.sh j c) + S.sp c = I.cp c
  sp0 : ∀ c, c < I.m → 0 ≤ S.sp c
def FS.start (I : Inst) : FS := ⟨fun _ _ => 0, I.cp, I.wk⟩
theorem most_nonneg {I : Inst} (O : I.Ok) {j c : Nat} (hj : j < I.n) (hc : c < I.m) : 0 ≤ I.most j c := by
  have h1 := O.br1 j hj
  have h2 := O.ln1 c hc
  exact Int.mul_nonneg (by omega) (by omega)
theorem Feas.start {I : Inst} (O : I.Ok) : Feas I (FS.start I) where
  sh0 := fun _ _ _ _ => Int.le_refl 0
  shm := fun j hj c hc => most_nonneg O hj hc
  shr := fun _ _ _ _ h => absurd h (Int.lt_irrefl 0)
  row := fun j hj => by
    show sm I.m (fun _ => 0) + I.wk j = I.wk j
    rw [sm_zero]; omega
  wa0 := O.wk0
  col := fun c hc => by
    show sm I.n (fun _ => 0) + I.cp c = I.cp c
    rw [sm_zero]; omega
  sp0 := O.cp0

/-! ### changing one entry -/
def FS.addSh (S : FS) (j c : Nat) (d : Int) : FS := { S with sh := fun a b => if a = j ∧ b = c then S.sh j c + d else S.sh a b }
def FS.subWa (S : FS) (j : Nat) (d : Int) : FS := { S with wa := set1 S.wa j (S.wa j - d) }
def FS.subSp (S : FS) (c : Nat) (d : Int) : FS := { S with sp := set1 S.sp c (S.sp c - d) }
theorem addSh_row_same {S : FS} {j c : Nat} {d : Int} : (S.addSh j c d).sh j = set1 (S.sh j) c (S.sh j c + d) := by
  funext x
  show (if j = j ∧ x = c then S.sh j c + d else S.sh j x) = if x = c then S.sh j c + d else S.sh j x
  by_cases e : x = c
  · rw [if_pos ⟨rfl, e⟩, if_pos e]
  · rw [if_neg (fun z => e z.2), if_neg e]
theorem addSh_row_ne {S : FS} {j c a : Nat} {d : Int} (h : a ≠ j) : (S.addSh j c d).sh a = S.sh a := by
  funext x
  show (if a = j ∧ x = c then S.sh j c + d else S.sh a x) = S.sh a x
  rw [if_neg (fun z => h z.1)]
theorem addSh_col_same {S : FS} {j c : Nat} {d : Int} : (fun a => (S.addSh j c d).sh a c) = set1 (fun a => S.sh a c) j (S.sh j c + d) := by
  funext x
  show (if x = j ∧ c = c then S.sh j c + d else S.sh x c) = if x = j then S.sh j c + d else S.sh x c
  by_cases e : x = j
  · rw [if_pos ⟨e, rfl⟩, if_pos e]
  · rw [if_neg (fun z => e z.1), if_neg e]
theorem addSh_col_ne {S : FS} {j c b : Nat} {d : Int} (h : b ≠ c) : (fun a => (S.addSh j c d).sh a b) = (fun a => S.sh a b) := by
  funext x
  show (if x = j ∧ b = c then S.sh j c + d else S.sh x b) = S.sh x b
  rw [if_neg (fun z => h z.2)]
theorem addSh_at {S : FS} {j c : Nat} {d : Int} : (S.addSh j c d).sh j c = S.sh j c + d := if_pos ⟨rfl, rfl⟩
theorem addSh_ge {S : FS} {j c a b : Nat} {d : Int} (h : 0 ≤ d) : S.sh a b ≤ (S.addSh j c d).sh a b := by
  show S.sh a b ≤ if a = j ∧ b = c then S.sh j c + d else S.sh a b
  by_cases e : a = j ∧ b = c
  · rw [if_pos e, e.1, e.2]; omega
  · rw [if_neg e]; omega
/-- feasible, but that the column c lacks d -/
structure FeasD (I : Inst) (S : FS) (c : Nat) (d : Int) : Prop where
  sh0 : ∀ j, j < I.n → ∀ c, c < I.m → 0 ≤ S.sh j c
  shm : ∀ j, j < I.n → ∀ c, c < I.m → S.sh j c ≤ I.most j c
  shr : ∀ j, j < I.n → ∀ c, c < I.m → 0 < S.sh j c → c ∈ I.rm j
  row : ∀ j, j < I.n → sm I.m (S.sh j) + S.wa j = I.wk j
  wa0 : ∀ j, j < I.n → 0 ≤ S.wa j
  col : ∀ x, x < I.m → sm I.n (fun j => S.sh j x) + S.sp x = I.cp x - (if x = c then d else 0)
  sp0 : ∀ c, c < I.m → 0 ≤ S.sp c
theorem Feas.subSp {I : Inst} {S : FS} (F : Feas I S) {c : Nat} {d : Int} (hd : d ≤ S.sp c) : FeasD I (S.subSp c d) c d where
  sh0 := F.sh0
  shm := F.shm
  shr := F.shr
  row := F.row
  wa0 := F.wa0
  col := fun x hx => by
    have h := F.col x hx
    show sm I.n (fun j => S.sh j x) + set1 S.sp c (S.sp c - d) x = _
    by_cases e : x = c
    · rw [e, set1_same, if_pos rfl]; rw [e] at h; omega
    · rw [set1_ne e, if_neg e]; omega
  sp0 := fun x hx => by
    show 0 ≤ set1 S.sp c (S.sp c - d) x
    by_cases e : x = c
    · rw [e, set1_same]; omega
    · rw [set1_ne e]; exact F.sp0 x hx
/-- the way: pairs (job, cell), from the cell with room on back -/
def Res (I : Inst) (S : FS) (d : Int) : List (Nat × Nat) → Prop
  | [] => False
  | (j, c) :: r => j < I.n ∧ c < I.m ∧ c ∈ I.rm j ∧ d ≤ I.most j c - S.sh j c ∧ (∀ p ∈ r, p.1 ≠ j) ∧
    match r with
    | [] => d ≤ S.wa j
    | (_, c2) :: _ => c2 < I.m ∧ d ≤ S.sh j c2 ∧ Res I S d r
def pushed (d : Int) : FS → List (Nat × Nat) → FS
  | S, [] => S
  | S, (j, c) :: r => match r with
    | [] => (S.addSh j c d).subWa j d
    | (_, c2) :: _ => pushed d ((S.addSh j c d).addSh j c2 (-d)) r
theorem Res.congr {I : Inst} {S S' : FS} {d : Int} : ∀ {L : List (Nat × Nat)}, Res I S d L → (∀ p ∈ L, S'.sh p.1 = S.sh p.1 ∧ S'.wa p.1 = S.wa p.1) → Res I S' d L
  | [], h, _ => h
  | [(j, c)], ⟨h1, h2, h3, h4, h5, h6⟩, k => by
    have e := k (j, c) List.mem_cons_self
    refine ⟨h1, h2, h3, ?_, h5, ?_⟩
    · rw [e.1]; exact h4
    · show d ≤ S'.wa j
      rw [e.2]; exact h6
  | (j, c) :: (j2, c2) :: r, ⟨h1, h2, h3, h4, h5, h6⟩, k => by
    have e := k (j, c) List.mem_cons_self
    refine ⟨h1, h2, h3, ?_, h5, h6.1, ?_, ?_⟩
    · rw [e.1]; exact h4
    · rw [e.1]; exact h6.2.1
    · exact Res.congr (L := (j2, c2) :: r) h6.2.2 fun p hp => k p (List.mem_cons_of_mem _ hp)
theorem FeasD.add {I : Inst} {S : FS} {j c : Nat} {d : Int} (F : FeasD I S c d) (hd : 0 < d) (hj : j < I.n) (hc : c < I.m) (hr : c ∈ I.rm j) (hm : d ≤ I.most j c - S.sh j c) :
    (∀ a, a < I.n → ∀ b, b < I.m → 0 ≤ (S.addSh j c d).sh a b) ∧ (∀ a, a < I.n → ∀ b, b < I.m → (S.addSh j c d).sh a b ≤ I.most a b) ∧ (∀ a, a < I.n → ∀ b, b < I.m → 0 < (S.addSh j c d).sh a b → b ∈ I.rm a) ∧
    (∀ a, a < I.n → sm I.m ((S.addSh j c d).sh a) + S.wa a = I.wk a + (if a = j then d else 0)) ∧ (∀ x, x < I.m → sm I.n (fun a => (S.addSh j c d).sh a x) + S.sp x = I.cp x) := by
  refine ⟨fun a ha b hb => ?_, fun a ha b hb => ?_, fun a ha b hb => ?_, fun a ha => ?_, fun x hx => ?_⟩
  · have := F.sh0 a ha b hb
    have := addSh_ge (S := S) (j := j) (c := c) (a := a) (b := b) (d := d) (by omega)
    omega
  · show (if a = j ∧ b = c then S.sh j c + d else S.sh a b) ≤ I.most a b
    by_cases e : a = j ∧ b = c
    · rw [if_pos e, e.1, e.2]; omega
    · rw [if_neg e]; exact F.shm a ha b hb
  · show 0 < (if a = j ∧ b = c then S.sh j c + d else S.sh a b) → b ∈ I.rm a
    by_cases e : a = j ∧ b = c
    · rw [if_pos e, e.1, e.2]; exact fun _ => hr
    · rw [if_neg e]; exact F.shr a ha b hb
  · by_cases e : a = j
    · rw [e, addSh_row_same, sm_set1 hc, if_pos rfl]
      have := F.row j hj
      omega
    · rw [addSh_row_ne e, if_neg e]
      have := F.row a ha
      omega
  · have h := F.col x hx
    by_cases e : x = c
    · rw [e, addSh_col_same, sm_set1 hj]
      rw [e, if_pos rfl] at h
      omega
    · rw [addSh_col_ne e]
      rw [if_neg e] at h
      omega
theorem pushed_feas {I : Inst} {d : Int} (hd : 0 < d) : ∀ {L : List (Nat × Nat)} {S : FS} {j c : Nat} {r : List (Nat × Nat)}, L = (j, c) :: r → FeasD I S c d → Res I S d L →
    Feas I (pushed d S L) ∧ sm I.n (pushed d S L).wa = sm I.n S.wa - d
  | [], _, _, _, _, e, _, _ => by cases e
  | [(j, c)], S, _, _, _, e, F, ⟨h1, h2, h3, h4, h5, h6⟩ => by
    cases e
    have h6 : d ≤ S.wa j := h6
    obtain ⟨a1, a2, a3, a4, a5⟩ := F.add hd h1 h2 h3 h4
    refine ⟨⟨a1, a2, a3, fun a ha => ?_, fun a ha => ?_, a5, F.sp0⟩, ?_⟩
    · have := a4 a ha
      show sm I.m ((S.addSh j c d).sh a) + set1 S.wa j (S.wa j - d) a = I.wk a
      by_cases e : a = j
      · rw [e, set1_same]; rw [e, if_pos rfl] at this; omega
      · rw [set1_ne e]; rw [if_neg e] at this; omega
    · show 0 ≤ set1 S.wa j (S.wa j - d) a
      by_cases e : a = j
      · rw [e, set1_same]; omega
      · rw [set1_ne e]; exact F.wa0 a ha
    · show sm I.n (set1 S.wa j (S.wa j - d)) = _
      rw [sm_set1 h1]; omega
  | (j, c) :: (j2, c2) :: r, S, _, _, _, e, F, ⟨h1, h2, h3, h4, h5, h6⟩ => by
    cases e
    obtain ⟨k1, k2, k3⟩ := h6
    obtain ⟨a1, a2, a3, a4, a5⟩ := F.add hd h1 h2 h3 h4
    let S1 := S.addSh j c d
    have hS1 : S1.sh j c2 ≥ d := by
      have := addSh_ge (S := S) (j := j) (c := c) (a := j) (b := c2) (d := d) (by omega)
      show d ≤ (S.addSh j c d).sh j c2
      omega
    have F2 : FeasD I (S1.addSh j c2 (-d)) c2 d := by
      refine ⟨fun a ha b hb => ?_, fun a ha b hb => ?_, fun a ha b hb => ?_, fun a ha => ?_, F.wa0, fun x hx => ?_, F.sp0⟩
      · show 0 ≤ (if a = j ∧ b = c2 then S1.sh j c2 + -d else S1.sh a b)
        by_cases e : a = j ∧ b = c2
        · rw [if_pos e]; omega
        · rw [if_neg e]; exact a1 a ha b hb
      · show (if a = j ∧ b = c2 then S1.sh j c2 + -d else S1.sh a b) ≤ I.most a b
        by_cases e : a = j ∧ b = c2
        · rw [if_pos e, e.1, e.2]
          have := a2 j h1 c2 k1
          show (S.addSh j c d).sh j c2 + -d ≤ _
          omega
        · rw [if_neg e]; exact a2 a ha b hb
      · show 0 < (if a = j ∧ b = c2 then S1.sh j c2 + -d else S1.sh a b) → b ∈ I.rm a
        by_cases e : a = j ∧ b = c2
        · rw [if_pos e, e.1, e.2]
          intro z
          exact a3 j h1 c2 k1 (show 0 < S1.sh j c2 by omega)
        · rw [if_neg e]; exact a3 a ha b hb
      · have := a4 a ha
        show sm I.m ((S1.addSh j c2 (-d)).sh a) + S.wa a = I.wk a
        by_cases e : a = j
        · rw [e, addSh_row_same, sm_set1 k1]
          rw [e, if_pos rfl] at this
          show sm I.m ((S.addSh j c d).sh j) - (S.addSh j c d).sh j c2 + ((S.addSh j c d).sh j c2 + -d) + S.wa j = I.wk j
          omega
        · rw [addSh_row_ne e]
          rw [if_neg e] at this
          show sm I.m ((S.addSh j c d).sh a) + S.wa a = I.wk a
          omega
      · have := a5 x hx
        show sm I.n (fun a => (S1.addSh j c2 (-d)).sh a x) + S.sp x = _
        by_cases e : x = c2
        · rw [e, addSh_col_same, sm_set1 h1, if_pos rfl]
          rw [e] at this
          show sm I.n (fun a => (S.addSh j c d).sh a c2) - (S.addSh j c d).sh j c2 + ((S.addSh j c d).sh j c2 + -d) + S.sp c2 = _
          omega
        · rw [addSh_col_ne e, if_neg e]
          show sm I.n (fun a => (S.addSh j c d).sh a x) + S.sp x = _
          omega
    have R2 : Res I (S1.addSh j c2 (-d)) d ((j2, c2) :: r) := Res.congr k3 fun p hp => by
      have ne : p.1 ≠ j := h5 p hp
      refine ⟨?_, rfl⟩
      rw [addSh_row_ne ne]
      exact addSh_row_ne ne
    have z := pushed_feas hd (L := (j2, c2) :: r) rfl F2 R2
    exact z

/-! ### the narrowest place of a way -/
def narrow (I : Inst) (S : FS) : Int → List (Nat × Nat) → Int
  | m, [] => m
  | m, (j, c) :: r => match r with
    | [] => min (min m (I.most j c - S.sh j c)) (S.wa j)
    | (_, c2) :: _ => narrow I S (min (min m (I.most j c - S.sh j c)) (S.sh j c2)) r
theorem narrow_le {I : Inst} {S : FS} : ∀ (L : List (Nat × Nat)) (m : Int), narrow I S m L ≤ m
  | [], m => Int.le_refl m
  | [(j, c)], m => by
    show min (min m (I.most j c - S.sh j c)) (S.wa j) ≤ m
    omega
  | (j, c) :: (j2, c2) :: r, m => by
    have := narrow_le ((j2, c2) :: r) (min (min m (I.most j c - S.sh j c)) (S.sh j c2)) (I := I) (S := S)
    show narrow I S (min (min m (I.most j c - S.sh j c)) (S.sh j c2)) ((j2, c2) :: r) ≤ m
    omega
/-- a way along which something can be pushed -/
theorem Res.narrow {I : Inst} {S : FS} : ∀ {L : List (Nat × Nat)} {m : Int}, 0 < m → Res I S 1 L → 0 < narrow I S m L ∧ ∀ d, d ≤ narrow I S m L → Res I S d L
  | [], _, _, h => h.elim
  | [(j, c)], m, hm, ⟨h1, h2, h3, h4, h5, h6⟩ => by
    have h6 : 1 ≤ S.wa j := h6
    refine ⟨?_, fun d hd => ⟨h1, h2, h3, ?_, h5, ?_⟩⟩
    · show 0 < min (min m (I.most j c - S.sh j c)) (S.wa j)
      omega
    · have hd : d ≤ min (min m (I.most j c - S.sh j c)) (S.wa j) := hd
      omega
    · have hd : d ≤ min (min m (I.most j c - S.sh j c)) (S.wa j) := hd
      show d ≤ S.wa j
      omega
  | (j, c) :: (j2, c2) :: r, m, hm, ⟨h1, h2, h3, h4, h5, h6⟩ => by
    obtain ⟨k1, k2, k3⟩ := h6
    have z := Res.narrow (L := (j2, c2) :: r) (m := min (min m (I.most j c - S.sh j c)) (S.sh j c2)) (by omega) k3
    refine ⟨z.1, fun d hd => ?_⟩
    have hd' : d ≤ Due.narrow I S (min (min m (I.most j c - S.sh j c)) (S.sh j c2)) ((j2, c2) :: r) := hd
    have l := narrow_le ((j2, c2) :: r) (min (min m (I.most j c - S.sh j c)) (S.sh j c2)) (I := I) (S := S)
    exact ⟨h1, h2, h3, by omega, h5, k1, by omega, z.2 d hd'⟩
/-- one round: found a way, pushed -/
theorem round {I : Inst} {S : FS} (F : Feas I S) {L : List (Nat × Nat)} {j c : Nat} {r : List (Nat × Nat)} (e : L = (j, c) :: r) (h : Res I S 1 L) (hs : 0 < S.sp c) :
    Feas I (pushed (narrow I S (S.sp c) L) (S.subSp c (narrow I S (S.sp c) L)) L) ∧ sm I.n (pushed (narrow I S (S.sp c) L) (S.subSp c (narrow I S (S.sp c) L)) L).wa < sm I.n S.wa ∧ 0 < narrow I S (S.sp c) L := by
  obtain ⟨z1, z2⟩ := h.narrow hs
  have l := narrow_le (I := I) (S := S) L (S.sp c)
  have F2 := F.subSp (c := c) (d := narrow I S (S.sp c) L) l
  have R : Res I (S.subSp c (narrow I S (S.sp c) L)) (narrow I S (S.sp c) L) L := (z2 _ (Int.le_refl _)).congr fun p _ => ⟨rfl, rfl⟩
  have z := pushed_feas z1 e F2 R
  refine ⟨z.1, ?_, z1⟩
  rw [z.2]
  show sm I.n S.wa - _ < _
  omega

/-! ### the cut -/
/-- what is reached (cells C, jobs J) when no way was found -/
structure Cut (I : Inst) (S : FS) (C J : Nat → Bool) : Prop where
  lack : ∀ j, j < I.n → 0 < S.wa j → J j = true
  go : ∀ j, j < I.n → J j = true → ∀ c ∈ I.rm j, S.sh j c ≠ I.most j c → C c = true
  full : ∀ c, c < I.m → C c = true → S.sp c ≤ 0
  back : ∀ c, c < I.m → C c = true → ∀ j, j < I.n → 0 < S.sh j c → J j = true
/-- the turns of a job outside of the cut -/
def Inst.out (I : Inst) (C : Nat → Bool) (j : Nat) : Int := sm I.m fun c => if c ∈ I.rm j ∧ C c = false then I.ln c else 0
def Inst.ex (I : Inst) (C : Nat → Bool) (j : Nat) : Int := max 0 (I.wk j - I.br j * I.out C j)
theorem Cut.ex {I : Inst} (O : I.Ok) {S : FS} (F : Feas I S) {C J : Nat → Bool} (K : Cut I S C J) {j : Nat} (hj : j < I.n) : I.ex C j = sm I.m (fun c => if C c = true then S.sh j c else 0) + S.wa j := by
  have hrow := F.row j hj
  have split : sm I.m (S.sh j) = sm I.m (fun c => if C c = true then S.sh j c else 0) + sm I.m (fun c => if C c = true then 0 else S.sh j c) := by
    rw [← sm_add]
    refine sm_congr fun c _ => ?_
    by_cases e : C c = true
    · rw [if_pos e, if_pos e]; omega
    · rw [if_neg e, if_neg e]; omega
  have hin : 0 ≤ sm I.m (fun c => if C c = true then S.sh j c else 0) := sm_nonneg fun c hc => by
    show 0 ≤ if C c = true then S.sh j c else 0
    by_cases e : C c = true
    · rw [if_pos e]; exact F.sh0 j hj c hc
    · rw [if_neg e]; omega
  have hw := F.wa0 j hj
  have hmul : I.br j * I.out C j = sm I.m (fun c => if c ∈ I.rm j ∧ C c = false then I.most j c else 0) := by
    unfold Inst.out
    rw [← sm_mul]
    refine sm_congr fun c _ => ?_
    by_cases e : c ∈ I.rm j ∧ C c = false
    · show I.br j * (if c ∈ I.rm j ∧ C c = false then I.ln c else 0) = (if c ∈ I.rm j ∧ C c = false then I.most j c else 0)
      rw [if_pos e, if_pos e]; rfl
    · show I.br j * (if c ∈ I.rm j ∧ C c = false then I.ln c else 0) = (if c ∈ I.rm j ∧ C c = false then I.most j c else 0)
      rw [if_neg e, if_neg e]; omega
  by_cases hJ : J j = true
  · have he : sm I.m (fun c => if C c = true then 0 else S.sh j c) = I.br j * I.out C j := by
      rw [hmul]
      refine sm_congr fun c hc => ?_
      by_cases e : C c = true
      · have e' : ¬ (c ∈ I.rm j ∧ C c = false) := fun z => by rw [e] at z; exact Bool.noConfusion z.2
        rw [if_pos e, if_neg e']
      · rw [if_neg e]
        have ef : C c = false := by cases h : C c; rfl; exact absurd h e
        by_cases hm : c ∈ I.rm j
        · rw [if_pos ⟨hm, ef⟩]
          by_cases q : S.sh j c = I.most j c
          · exact q
          · exact absurd (K.go j hj hJ c hm q) e
        · rw [if_neg (fun z => hm z.1)]
          have := F.sh0 j hj c hc
          by_cases q : 0 < S.sh j c
          · exact absurd (F.shr j hj c hc q) hm
          · omega
    unfold Inst.ex
    rw [← he]
    omega
  · have hw0 : S.wa j = 0 := by
      by_cases q : 0 < S.wa j
      · exact absurd (K.lack j hj q) hJ
      · omega
    have hin0 : sm I.m (fun c => if C c = true then S.sh j c else 0) = 0 := sm_zero' fun c hc => by
      by_cases e : C c = true
      · rw [if_pos e]
        have := F.sh0 j hj c hc
        by_cases q : 0 < S.sh j c
        · exact absurd (K.back c hc e j hj q) hJ
        · omega
      · rw [if_neg e]
    have hle : sm I.m (fun c => if C c = true then 0 else S.sh j c) ≤ I.br j * I.out C j := by
      rw [hmul]
      refine sm_le fun c hc => ?_
      by_cases e : C c = true
      · have e' : ¬ (c ∈ I.rm j ∧ C c = false) := fun z => by rw [e] at z; exact Bool.noConfusion z.2
        rw [if_pos e, if_neg e']; omega
      · rw [if_neg e]
        have ef : C c = false := by cases h : C c; rfl; exact absurd h e
        by_cases hm : c ∈ I.rm j
        · rw [if_pos ⟨hm, ef⟩]
          exact F.shm j hj c hc
        · rw [if_neg (fun z => hm z.1)]
          by_cases q : 0 < S.sh j c
          · exact absurd (F.shr j hj c hc q) hm
          · omega
    unfold Inst.ex
    omega
/-- THE CUT: its overflow is what is lacking -/
theorem Cut.overflow {I : Inst} (O : I.Ok) {S : FS} (F : Feas I S) {C J : Nat → Bool} (K : Cut I S C J) : sm I.n (I.ex C) - sm I.m (fun c => if C c = true then I.cp c else 0) = sm I.n S.wa := by
  have e1 : sm I.n (I.ex C) = sm I.n (fun j => sm I.m (fun c => if C c = true then S.sh j c else 0)) + sm I.n S.wa := by
    rw [← sm_add]
    exact sm_congr fun j hj => K.ex O F hj
  rw [e1, sm_swap]
  have e2 : sm I.m (fun c => sm I.n (fun j => if C c = true then S.sh j c else 0)) = sm I.m (fun c => if C c = true then I.cp c else 0) := by
    refine sm_congr fun c hc => ?_
    by_cases e : C c = true
    · rw [if_pos e]
      have h1 : sm I.n (fun j => if C c = true then S.sh j c else 0) = sm I.n (fun j => S.sh j c) := sm_congr fun j _ => if_pos e
      rw [h1]
      have := F.col c hc
      have := K.full c hc e
      have := F.sp0 c hc
      omega
    · rw [if_neg e]
      exact sm_zero' fun j _ => if_neg e
  rw [e2]
  omega
end Due

set_option linter.all false
/-! M2: the search's invariant -/
namespace Due
theorem nodup_len : ∀ (n : Nat) (l : List Nat), l.Nodup → (∀ x ∈ l, x < n) → l.length ≤ n
  | 0, l, _, h => by
    cases l with
    | nil => exact Nat.le_refl _
    | cons a r => exact absurd (h a List.mem_cons_self) (Nat.not_lt_zero _)
  | n + 1, l, hN, h => by
    by_cases hn : n ∈ l
    · have h1 := nodup_len n (l.erase n) (hN.erase n) fun x hx => by
        have := (hN.mem_erase_iff).mp hx
        have := h x this.2
        omega
      rw [List.length_erase_of_mem hn] at h1
      omega
    · have h1 := nodup_len n l hN fun x hx => by
        have := h x hx
        have : x ≠ n := fun e => hn (by rw [← e]; exact hx)
        omega
      omega
theorem lookup_snoc {β : Type} {k : Nat} {v : β} : ∀ {l : List (Nat × β)} {x : Nat} {y : β}, l.lookup x = some y → (l ++ [(k, v)]).lookup x = some y
  | [], _, _, h => by cases h
  | p :: r, x, y, h => by
    rw [List.cons_append, List.lookup_cons]
    rw [List.lookup_cons] at h
    cases e : x == p.1 with
    | true => rw [e] at h; exact h
    | false => rw [e] at h; exact lookup_snoc h
theorem lookup_new {β : Type} {k : Nat} {v : β} : ∀ {l : List (Nat × β)}, k ∉ l.map (·.1) → (l ++ [(k, v)]).lookup k = some v
  | [], _ => by rw [List.nil_append, List.lookup_cons, beq_self_eq_true]
  | p :: r, h => by
    rw [List.cons_append, List.lookup_cons]
    have h1 : (k == p.1) = false := beq_eq_false_iff_ne.mpr fun e => h (by rw [e]; exact List.mem_cons_self)
    rw [h1]
    exact lookup_new fun e => h (List.mem_cons_of_mem _ e)
theorem lookup_mem {β : Type} {k : Nat} : ∀ {l : List (Nat × β)} {y : β}, l.lookup k = some y → k ∈ l.map (·.1)
  | [], _, h => by cases h
  | p :: r, y, h => by
    rw [List.lookup_cons] at h
    rw [List.map_cons, List.mem_cons]
    cases e : k == p.1 with
    | true => exact .inl (beq_iff_eq.mp e)
    | false => rw [e] at h; exact .inr (lookup_mem h)
theorem lookup_none {β : Type} {k : Nat} : ∀ {l : List (Nat × β)}, l.lookup k = none → k ∉ l.map (·.1)
  | [], _ => by simp
  | p :: r, h => by
    rw [List.lookup_cons] at h
    rw [List.map_cons, List.mem_cons]
    cases e : k == p.1 with
    | true => rw [e] at h; cases h
    | false =>
      rw [e] at h
      rintro (q | q)
      · rw [q, beq_self_eq_true] at e; cases e
      · exact lookup_none h q
theorem lookup_of_not {β : Type} {k : Nat} {l : List (Nat × β)} (h : k ∉ l.map (·.1)) : l.lookup k = none := by
  cases e : l.lookup k with
  | none => rfl
  | some y => exact absurd (lookup_mem e) h
inductive WayJ (I : Inst) (S : FS) (bc : List (Nat × Nat)) (bj : List (Nat × Option Nat)) : Nat → List (Nat × Nat) → Prop
  | lack {j : Nat} : bj.lookup j = some none → 1 ≤ S.wa j → WayJ I S bc bj j []
  | step {j j2 c2 : Nat} {r : List (Nat × Nat)} : bj.lookup j = some (some c2) → c2 < I.m → 1 ≤ S.sh j c2 → bc.lookup c2 = some j2 → j2 < I.n → c2 ∈ I.rm j2 → 1 ≤ I.most j2 c2 - S.sh j2 c2 → WayJ I S bc bj j2 r → (∀ p ∈ r, p.1 ≠ j2) → WayJ I S bc bj j ((j2, c2) :: r)
theorem WayJ.mono {I : Inst} {S : FS} {bc bc' : List (Nat × Nat)} {bj bj' : List (Nat × Option Nat)} (h1 : ∀ x y, bc.lookup x = some y → bc'.lookup x = some y) (h2 : ∀ x y, bj.lookup x = some y → bj'.lookup x = some y) {j : Nat} {r : List (Nat × Nat)} (w : WayJ I S bc bj j r) : WayJ I S bc' bj' j r := by
  induction w with
  | lack a b => exact .lack (h2 _ _ a) b
  | step a b c d e f g _ i ih => exact .step (h2 _ _ a) b c (h1 _ _ d) e f g ih i
theorem WayJ.res {I : Inst} {S : FS} {bc : List (Nat × Nat)} {bj : List (Nat × Option Nat)} {j : Nat} {r : List (Nat × Nat)} (w : WayJ I S bc bj j r) : ∀ {c : Nat}, j < I.n → c < I.m → c ∈ I.rm j → 1 ≤ I.most j c - S.sh j c → (∀ p ∈ r, p.1 ≠ j) → Res I S 1 ((j, c) :: r) := by
  induction w with
  | lack a b => intro c h1 h2 h3 h4 h5; exact ⟨h1, h2, h3, h4, h5, b⟩
  | step a b c0 d e f g w i ih => intro c h1 h2 h3 h4 h5; exact ⟨h1, h2, h3, h4, h5, b, c0, ih e b f g i⟩
def Pth (bc : List (Nat × Nat)) (bj : List (Nat × Option Nat)) : List (Nat × Nat) → Prop
  | [] => True
  | (j, c) :: r => bc.lookup c = some j ∧ Pth bc bj r ∧ match r with
    | [] => bj.lookup j = some none
    | (_, c2) :: _ => bj.lookup j = some (some c2)
theorem WayJ.pth {I : Inst} {S : FS} {bc : List (Nat × Nat)} {bj : List (Nat × Option Nat)} {j : Nat} {r : List (Nat × Nat)} (w : WayJ I S bc bj j r) : ∀ {c : Nat}, bc.lookup c = some j → Pth bc bj ((j, c) :: r) := by
  induction w with
  | lack a b => intro c h; exact ⟨h, trivial, a⟩
  | step a b c0 d e f g w i ih => intro c h; exact ⟨h, ih d, a⟩
structure SrI (I : Inst) (S : FS) (bc : List (Nat × Nat)) (bj : List (Nat × Option Nat)) (line : List Nat) (ex : Option Nat) (pre : List Nat) (cc : Option Nat) : Prop where
  jn : ∀ j ∈ bj.map (·.1), j < I.n
  jnd : (bj.map (·.1)).Nodup
  cnd : (bc.map (·.1)).Nodup
  cm : ∀ c ∈ bc.map (·.1), c < I.m
  lin : ∀ j ∈ line, j ∈ bj.map (·.1)
  lack : ∀ j, j < I.n → 0 < S.wa j → j ∈ bj.map (·.1)
  done : ∀ j ∈ bj.map (·.1), j ∉ line → ex ≠ some j → ∀ c ∈ I.rm j, S.sh j c = I.most j c ∨ c ∈ bc.map (·.1)
  cur : ∀ j, ex = some j → j ∈ bj.map (·.1) ∧ ∀ c ∈ pre, S.sh j c = I.most j c ∨ c ∈ bc.map (·.1)
  full : ∀ c ∈ bc.map (·.1), cc ≠ some c → S.sp c ≤ 0 ∧ ∀ j, j < I.n → 0 < S.sh j c → j ∈ bj.map (·.1)
  way : ∀ j ∈ bj.map (·.1), ∃ r, WayJ I S bc bj j r ∧ (∀ p ∈ r, p.1 ≠ j) ∧ ∀ p ∈ r, p.1 ∈ bj.map (·.1)
section
variable {I : Inst} {S : FS} {bc : List (Nat × Nat)} {bj : List (Nat × Option Nat)} {line : List Nat} {ex : Option Nat} {pre : List Nat} {cc : Option Nat}
theorem SrI.blen (h : SrI I S bc bj line ex pre cc) : bj.length ≤ I.n := by
  have := nodup_len I.n (bj.map (·.1)) h.jnd h.jn
  rwa [List.length_map] at this
theorem SrI.clen (h : SrI I S bc bj line ex pre cc) : bc.length ≤ I.m := by
  have := nodup_len I.m (bc.map (·.1)) h.cnd h.cm
  rwa [List.length_map] at this
theorem SrI.start (bj : List (Nat × Option Nat)) (h1 : ∀ j, j ∈ bj.map (·.1) ↔ j < I.n ∧ 0 < S.wa j) (h2 : (bj.map (·.1)).Nodup) (h3 : ∀ j ∈ bj.map (·.1), bj.lookup j = some none) : SrI I S [] bj (bj.map (·.1)) none [] none where
  jn := fun j hj => ((h1 j).mp hj).1
  jnd := h2
  cnd := List.nodup_nil
  cm := fun c hc => by simp at hc
  lin := fun j hj => hj
  lack := fun j a b => (h1 j).mpr ⟨a, b⟩
  done := fun j a b => absurd a b
  cur := fun j h => by cases h
  full := fun c hc => by simp at hc
  way := fun j hj => ⟨[], .lack (h3 j hj) (by have := ((h1 j).mp hj).2; omega), fun p hp => by simp at hp, fun p hp => by simp at hp⟩
theorem SrI.pop {j : Nat} (h : SrI I S bc bj (j :: line) none [] none) : SrI I S bc bj line (some j) [] none where
  jn := h.jn
  jnd := h.jnd
  cnd := h.cnd
  cm := h.cm
  lin := fun k hk => h.lin k (List.mem_cons_of_mem _ hk)
  lack := h.lack
  done := fun k hk h1 h2 => h.done k hk (fun e => (List.mem_cons.mp e).elim (fun e => h2 (by rw [e])) h1) (fun e => by cases e)
  cur := fun k e => by
    cases e
    exact ⟨h.lin _ List.mem_cons_self, fun c hc => by simp at hc⟩
  full := h.full
  way := h.way
theorem SrI.skip {j c : Nat} (h : SrI I S bc bj line (some j) pre none) (k : S.sh j c = I.most j c ∨ c ∈ bc.map (·.1)) : SrI I S bc bj line (some j) (pre ++ [c]) none := by
  refine { h with cur := ?_ }
  intro i e
  obtain ⟨h1, h2⟩ := h.cur i e
  cases e
  refine ⟨h1, fun d hd => ?_⟩
  rcases List.mem_append.mp hd with hd | hd
  · exact h2 d hd
  · rw [List.mem_singleton.mp hd]; exact k
theorem SrI.cell {j c : Nat} (h : SrI I S bc bj line (some j) pre none) (hc : c ∉ bc.map (·.1)) (hm : c < I.m) : SrI I S (bc ++ [(c, j)]) bj line (some j) (pre ++ [c]) (some c) := by
  have up : ∀ d, d ∈ bc.map (·.1) → d ∈ (bc ++ [(c, j)]).map (·.1) := fun d hd => by rw [List.map_append]; exact List.mem_append_left _ hd
  refine ⟨h.jn, h.jnd, ?_, fun d hd => ?_, h.lin, h.lack, fun k hk h1 h2 d hd => ?_, fun i e => ?_, fun d hd hne => ?_, fun k hk => ?_⟩
  · rw [List.map_append]
    refine List.nodup_append.mpr ⟨h.cnd, by simp, fun a ha b hb e => ?_⟩
    have hb : b = c := by simpa using hb
    rw [e, hb] at ha
    exact hc ha
  · rw [List.map_append] at hd
    rcases List.mem_append.mp hd with hd | hd
    · exact h.cm d hd
    · have : d = c := by simpa using hd
      rw [this]; exact hm
  · rcases h.done k hk h1 h2 d hd with q | q
    · exact .inl q
    · exact .inr (up d q)
  · obtain ⟨h1, h2⟩ := h.cur i e
    refine ⟨h1, fun d hd => ?_⟩
    rcases List.mem_append.mp hd with hd | hd
    · rcases h2 d hd with q | q
      · exact .inl q
      · exact .inr (up d q)
    · rw [List.mem_singleton.mp hd]
      refine .inr ?_
      rw [List.map_append]
      exact List.mem_append_right _ (by simp)
  · rw [List.map_append] at hd
    rcases List.mem_append.mp hd with hd | hd
    · exact h.full d hd (fun e => by cases e)
    · have : d = c := by simpa using hd
      exact absurd (by rw [this]) hne
  · obtain ⟨r, w, h1, h2⟩ := h.way k hk
    exact ⟨r, w.mono (fun x y => lookup_snoc) (fun _ _ e => e), h1, h2⟩
/-- the way that was found -/
theorem SrI.found {j c : Nat} (h : SrI I S bc bj line (some j) pre none) (hc : c ∉ bc.map (·.1)) (hm : c < I.m) (hr : c ∈ I.rm j) (hs : S.sh j c ≠ I.most j c) (hle : S.sh j c ≤ I.most j c) : ∃ r, Pth (bc ++ [(c, j)]) bj ((j, c) :: r) ∧ Res I S 1 ((j, c) :: r) := by
  obtain ⟨hj, _⟩ := h.cur j rfl
  obtain ⟨r, w, h1, h2⟩ := h.way j hj
  have w2 := w.mono (bc' := bc ++ [(c, j)]) (bj' := bj) (fun x y => lookup_snoc) (fun _ _ e => e)
  exact ⟨r, w2.pth (lookup_new hc), w.res (h.jn j hj) hm hr (by omega) h1⟩
theorem SrI.add {j c o : Nat} (h : SrI I S bc bj line (some j) pre (some c)) (hl : bc.lookup c = some j) (hm : c < I.m) (hr : c ∈ I.rm j) (hs : S.sh j c ≠ I.most j c) (hle : S.sh j c ≤ I.most j c) (ho : o ∉ bj.map (·.1)) (hn : o < I.n) (hp : 0 < S.sh o c) :
    SrI I S bc (bj ++ [(o, some c)]) (line ++ [o]) (some j) pre (some c) := by
  have up : ∀ d, d ∈ bj.map (·.1) → d ∈ (bj ++ [(o, some c)]).map (·.1) := fun d hd => by rw [List.map_append]; exact List.mem_append_left _ hd
  have ino : o ∈ (bj ++ [(o, some c)]).map (·.1) := by rw [List.map_append]; exact List.mem_append_right _ (by simp)
  have inv : ∀ d, d ∈ (bj ++ [(o, some c)]).map (·.1) → d ∈ bj.map (·.1) ∨ d = o := fun d hd => by
    rw [List.map_append] at hd
    rcases List.mem_append.mp hd with hd | hd
    · exact .inl hd
    · exact .inr (by simpa using hd)
  refine ⟨fun k hk => ?_, ?_, h.cnd, h.cm, fun k hk => ?_, fun k a b => up k (h.lack k a b), fun k hk h1 h2 => ?_, fun i e => ?_, fun d hd hne => ?_, fun k hk => ?_⟩
  · rcases inv k hk with q | q
    · exact h.jn k q
    · rw [q]; exact hn
  · rw [List.map_append]
    refine List.nodup_append.mpr ⟨h.jnd, by simp, fun a ha b hb e => ?_⟩
    have hb : b = o := by simpa using hb
    rw [e, hb] at ha
    exact ho ha
  · rcases List.mem_append.mp hk with hk | hk
    · exact up k (h.lin k hk)
    · rw [List.mem_singleton.mp hk]; exact ino
  · rcases inv k hk with q | q
    · exact h.done k q (fun e => h1 (List.mem_append_left _ e)) h2
    · exact absurd (List.mem_append_right _ (by rw [q]; simp)) h1
  · obtain ⟨h1, h2⟩ := h.cur i e
    exact ⟨up i h1, h2⟩
  · obtain ⟨h1, h2⟩ := h.full d hd hne
    exact ⟨h1, fun k a b => up k (h2 k a b)⟩
  · rcases inv k hk with q | q
    · obtain ⟨r, w, h1, h2⟩ := h.way k q
      exact ⟨r, w.mono (fun _ _ e => e) (fun x y => lookup_snoc), h1, fun p hp => up _ (h2 p hp)⟩
    · rw [q]
      obtain ⟨hj, _⟩ := h.cur j rfl
      obtain ⟨r, w, h1, h2⟩ := h.way j hj
      refine ⟨(j, c) :: r, .step (lookup_new ho) hm (by omega) hl (h.jn j hj) hr (by omega) (w.mono (fun _ _ e => e) (fun x y => lookup_snoc)) h1, fun p hp => ?_, fun p hp => ?_⟩
      · rcases List.mem_cons.mp hp with rfl | hp
        · exact fun e => ho (by rw [← e]; exact hj)
        · exact fun e => ho (by rw [← e]; exact h2 p hp)
      · rcases List.mem_cons.mp hp with rfl | hp
        · exact up _ hj
        · exact up _ (h2 p hp)
theorem SrI.held {j c : Nat} (h : SrI I S bc bj line (some j) pre (some c)) (hs : S.sp c ≤ 0) (hh : ∀ o, o < I.n → 0 < S.sh o c → o ∈ bj.map (·.1)) : SrI I S bc bj line (some j) pre none := by
  refine { h with full := ?_ }
  intro d hd _
  by_cases e : d = c
  · rw [e]; exact ⟨hs, hh⟩
  · exact h.full d hd (fun z => e (Option.some.inj z).symm)
theorem SrI.end {j : Nat} (h : SrI I S bc bj line (some j) pre none) (hp : ∀ c ∈ I.rm j, c ∈ pre) : SrI I S bc bj line none [] none := by
  refine { h with done := ?_, cur := ?_ }
  · intro k hk h1 _ c hc
    by_cases e : k = j
    · rw [e] at hc ⊢
      exact (h.cur j rfl).2 c (hp c hc)
    · exact h.done k hk h1 (fun z => e (Option.some.inj z).symm) c hc
  · intro i e
    cases e
/-- nothing was found -/
theorem SrI.cut (h : SrI I S bc bj [] none [] none) : Cut I S (fun c => decide (c ∈ bc.map (·.1))) (fun j => decide (j ∈ bj.map (·.1))) where
  lack := fun j a b => decide_eq_true (h.lack j a b)
  go := fun j _ hJ c hc hne => by
    rcases h.done j (of_decide_eq_true hJ) (by simp) (by intro e; cases e) c hc with q | q
    · exact absurd q hne
    · exact decide_eq_true q
  full := fun c _ hC => (h.full c (of_decide_eq_true hC) (by intro e; cases e)).1
  back := fun c _ hC j hj hs => decide_eq_true ((h.full c (of_decide_eq_true hC) (by intro e; cases e)).2 j hj hs)
end
end Due

set_option Elab.async false
set_option linter.all false
set_option maxRecDepth 100000
set_option maxHeartbeats 4000000
namespace Due
open PySem PySem.Spec PyProof.Rows L2
/-! ### while, dicts, lists by the place -/
section
variable {K : PySem.W.Frag} {σ : L2.St} {H : Hp} {Q : VK} {te td ty tv : TE} {nx bk ct : L2.St → Hp → Prop} {rt : VK} {g : TG} {t : TS}
def rWh (W : Nat → L2.St → Hp → Prop) (m : Nat) (tb : TS) (rt : VK) (nx : L2.St → Hp → Prop) (σ : L2.St) (H : Hp) : Prop := ∃ N : L2.St → Hp → Prop, (∀ σ' H', N σ' H' → ∃ m', m' < m ∧ W m' σ' H') ∧ tb ⟨N, rt, nx, N⟩ σ H
theorem w_while {c : TT} {tb : TS} (W : Nat → L2.St → Hp → Prop) (m0 : Nat) (h0 : W m0 σ H) (hs : ∀ m σ H, W m σ H → c σ H fun b H1 => if b = true then rWh W m tb rt nx σ H1 else nx σ H1) : tWhile c tb ⟨nx, rt, bk, ct⟩ σ H := ⟨W, ⟨m0, h0⟩, hs⟩
theorem w_rWh {tb : TS} {W : Nat → L2.St → Hp → Prop} {m : Nat} (h : tb ⟨fun σ' H' => ∃ m', m' < m ∧ W m' σ' H', rt, nx, fun σ' H' => ∃ m', m' < m ∧ W m' σ' H'⟩ σ H) : rWh W m tb rt nx σ H := ⟨_, fun _ _ h => h, h⟩
theorem w_dnewK (h : ∀ p H', H p = none → Same H H' → H' p = some (.dK []) → Q (.ref p) H') : tDNewK σ H Q := fun p hp => h p _ hp (Same.new hp) upd_same
theorem w_dnewT (h : ∀ p H', H p = none → Same H H' → H' p = some (.dT []) → Q (.ref p) H') : tDNewT σ H Q := fun p hp => h p _ hp (Same.new hp) upd_same
def rDGet (x y : V) (H : Hp) (Q : VK) : Prop := ∃ a v, x = .ref a ∧ DGet H a y (some v) ∧ Q v H
theorem w_dget (h : td σ H fun x H1 => ty σ H1 fun y H2 => rDGet x y H2 Q) : tDGet td ty σ H Q := h
theorem w_rDGet {a : Addr} {kvs : List (Key × V)} {k : Key} {v : V} (e : H a = some (.dK kvs)) (hv : valV kvs k = some v) (h : Q v H) : rDGet (.ref a) (kV k) H Q := ⟨a, v, rfl, by rw [← hv]; exact DGet.k e, h⟩
theorem w_rDGetI {a : Addr} {kvs : List (Key × V)} {k : Int} {v : V} (e : H a = some (.dK kvs)) (hv : valV kvs (Sum.inl k) = some v) (h : Q v H) : rDGet (.ref a) (.int k) H Q := w_rDGet (k := Sum.inl k) e hv h
theorem w_rDGetS {a : Addr} {kvs : List (Key × V)} {k : Str} {v : V} (e : H a = some (.dK kvs)) (hv : valV kvs (Sum.inr k) = some v) (h : Q v H) : rDGet (.ref a) (.str k) H Q := w_rDGet (k := Sum.inr k) e hv h
def rDIn (y x : V) (H : Hp) (Q : VK) : Prop := ∃ a o, x = .ref a ∧ DGet H a y o ∧ Q (.bl o.isSome) H
def rDNotIn (y x : V) (H : Hp) (Q : VK) : Prop := ∃ a o, x = .ref a ∧ DGet H a y o ∧ Q (.bl (!o.isSome)) H
theorem w_din (h : ty σ H fun y H1 => td σ H1 fun x H2 => rDIn y x H2 Q) : tDIn ty td σ H Q := h
theorem w_dnotin (h : ty σ H fun y H1 => td σ H1 fun x H2 => rDNotIn y x H2 Q) : tDNotIn ty td σ H Q := h
theorem w_rDInI {a : Addr} {kvs : List (Key × V)} {k : Int} (e : H a = some (.dK kvs)) (h : Q (.bl (valV kvs (Sum.inl k : Key)).isSome) H) : rDIn (.int k) (.ref a) H Q := ⟨a, _, rfl, DGet.k (k := Sum.inl k) e, h⟩
theorem w_rDNotInI {a : Addr} {kvs : List (Key × V)} {k : Int} (e : H a = some (.dK kvs)) (h : Q (.bl (!(valV kvs (Sum.inl k : Key)).isSome)) H) : rDNotIn (.int k) (.ref a) H Q := ⟨a, _, rfl, DGet.k (k := Sum.inl k) e, h⟩
theorem w_rDNotInS {a : Addr} {kvs : List (Key × V)} {k : Str} (e : H a = some (.dK kvs)) (h : Q (.bl (!(valV kvs (Sum.inr k : Key)).isSome)) H) : rDNotIn (.str k) (.ref a) H Q := ⟨a, _, rfl, DGet.k (k := Sum.inr k) e, h⟩
theorem w_rDInT {a b : Addr} {kvs : List (List Key × V)} {k : List Key} (e : H a = some (.dT kvs)) (eb : H b = some (.tup (k.map kV))) (h : Q (.bl (valV kvs k).isSome) H) : rDIn (.ref b) (.ref a) H Q := ⟨a, _, rfl, DGet.t e eb, h⟩
def rDPut (v x y : V) (H : Hp) (R : Hp → Prop) : Prop := ∃ a H', x = .ref a ∧ DPut H a y v H' ∧ R H'
theorem w_dput (h : tv σ H fun v H1 => td σ H1 fun x H2 => ty σ H2 fun y H3 => rDPut v x y H3 fun H4 => nx σ H4) : sDPut td ty tv ⟨nx, rt, bk, ct⟩ σ H := h
theorem w_rDPutI {v : V} {a : Addr} {kvs : List (Key × V)} {k : Int} {R : Hp → Prop} (e : H a = some (.dK kvs)) (hl : kvs.length < sizeLine) (h : ∀ H', But a H H' → H' a = some (.dK (putK kvs (Sum.inl k) v)) → R H') : rDPut v (.ref a) (.int k) H R := ⟨a, _, rfl, DPut.k (k := Sum.inl k) e hl, h _ But.upd upd_same⟩
theorem w_rDPutS {v : V} {a : Addr} {kvs : List (Key × V)} {k : Str} {R : Hp → Prop} (e : H a = some (.dK kvs)) (hl : kvs.length < sizeLine) (h : ∀ H', But a H H' → H' a = some (.dK (putK kvs (Sum.inr k) v)) → R H') : rDPut v (.ref a) (.str k) H R := ⟨a, _, rfl, DPut.k (k := Sum.inr k) e hl, h _ But.upd upd_same⟩
theorem w_rDPutT {v : V} {a b : Addr} {kvs : List (List Key × V)} {k : List Key} {R : Hp → Prop} (e : H a = some (.dT kvs)) (eb : H b = some (.tup (k.map kV))) (hl : kvs.length < sizeLine) (h : ∀ H', But a H H' → H' a = some (.dT (putK kvs k v)) → R H') : rDPut v (.ref a) (.ref b) H R := ⟨a, _, rfl, DPut.t e eb hl, h _ But.upd upd_same⟩
theorem w_popAt {l : Addr} {x : V} {xs : List V} (e : H l = some (.lst (x :: xs))) (h : ∀ H', But l H H' → H' l = some (.lst xs) → Q x H') : rPopAt (.ref l) [.int 0] H Q :=
  ⟨l, x :: xs, 0, 0, x, rfl, rfl, e, by decide, by decide, by show seqIndex? 0 (xs.length + 1) = some 0; exact (seqIndex_of (by decide) (by omega)), rfl, h _ But.upd upd_same⟩
def rLstD : List V → Hp → VK → Prop := fun xs H Q => ∃ (a : Addr) (kvs : List (Key × V)), xs = [.ref a] ∧ Rd H a (.dK kvs) ∧ ∀ p, H p = none → Q (.ref p) (upd H p (.lst (kvs.map fun kv => kV kv.1)))
theorem c_listD {X : Cx} (hc : X.calm = true) : CallR X (.type "list") rLstD := call_listD hc
theorem w_listD {a : Addr} {kvs : List (Key × V)} (e : H a = some (.dK kvs)) (h : ∀ l H', H l = none → Same H H' → H' l = some (.lst (kvs.map fun kv => kV kv.1)) → Q (.ref l) H') : rLstD [.ref a] H Q := ⟨a, kvs, rfl, .inl e, fun p hp => h p _ hp (Same.new hp) upd_same⟩
end
theorem rng_get {α : Type} {n i : Nat} {f : Nat → α} (h : i < n) : ((List.range n).map f)[i]? = some (f i) := by
  rw [List.getElem?_map, List.getElem?_range h]; rfl
theorem rng_at {α : Type} {n i : Nat} {f : Nat → α} (h : i < n) : atI ((List.range n).map f) (i : Int) = some (f i) := atI_nat (rng_get h)
theorem rng_set {α : Type} {n i : Nat} {f : Nat → α} {v : α} (h : i < n) : ((List.range n).map f).set i v = (List.range n).map fun x => if x = i then v else f x := by
  refine List.ext_getElem? fun k => ?_
  rw [List.getElem?_set, List.length_map, List.length_range, List.getElem?_map, List.getElem?_map]
  by_cases hk : k < n
  · rw [List.getElem?_range hk]
    by_cases e : i = k
    · rw [if_pos e, if_pos (by omega)]
      show some v = some (if k = i then v else f k)
      rw [if_pos e.symm]
    · rw [if_neg e]
      show some (f k) = some (if k = i then v else f k)
      rw [if_neg (fun z => e z.symm)]
  · rw [List.getElem?_eq_none (by simpa using hk)]
    by_cases e : i = k
    · omega
    · rw [if_neg e]; rfl
theorem valV_enc {β : Type} {f : β → V} {k : Nat} : ∀ (l : List (Nat × β)), valV (l.map fun p => ((Sum.inl (p.1 : Int) : Key), f p.2)) (Sum.inl (k : Int)) = (l.lookup k).map f
  | [] => rfl
  | p :: r => by
    rw [List.map_cons, List.lookup_cons]
    by_cases e : p.1 = k
    · rw [valV_pos (by show (Sum.inl (p.1 : Int) : Key) = Sum.inl (k : Int); rw [e]), show (k == p.1) = true by rw [e]; exact beq_self_eq_true k]
      rfl
    · rw [valV_neg (by intro h; exact e (by have := Sum.inl.inj h; omega)), valV_enc r, show (k == p.1) = false from beq_eq_false_iff_ne.mpr fun h => e h.symm]
end Due

set_option Elab.async false
set_option linter.all false
set_option maxRecDepth 100000
set_option maxHeartbeats 4000000
namespace Due
open PySem PySem.Spec PyProof.Rows L2
section
variable {K : PySem.W.Frag} {σ : L2.St} {H : Hp} {Q : VK} {H1 : Hp} {D : Addr} {Qd : Hp → Prop} {g : TG} {te : TE} {vs : List Nat}
theorem But.trans {p : Addr} {H H1 H2 : Hp} (a : But p H H1) (b : But p H1 H2) : But p H H2 := fun c o n e => b c o n (a c o n e)
theorem But.same {p : Addr} {H H1 : Hp} (a : Same H H1) : But p H H1 := fun c o _ e => a c o e
theorem But.upd_at {p : Addr} {H H1 : Hp} {x : Addr} {o o' : HO} (b : But p H H1) (hx : H x = some o) (hp : H p = some o') (n : o ≠ o') : H1 x = some o := b _ _ (ne_of hx hp n) hx
/-- a comprehension of new objects -/
theorem lpc_obj {J : It} {n : Nat} {G : Hp → Prop} {Y : Nat → Hp → V → Hp → Prop} (w : Walk J n G Y) (f : Nat → HO) (hD : H1 D = none) (hz : n < sizeLine) (gS : ∀ H, Same H1 H → G H)
    (hY : ∀ i x H H', Y i H x H' → Same H H')
    (hs : ∀ i x H H' (N : VK), i < n → Same H1 H → Same H1 H' → Y i H x H' → (∀ H4 a, Same H' H4 → H' a = none → H4 a = some (f i) → N (.ref a) H4) → g x (wipe σ vs) H' fun σ2 H2 => wipe σ2 vs = wipe σ vs ∧ te σ2 H2 N)
    (mono : ∀ x H' (N N' : L2.St → Hp → Prop), (∀ σ2 H2, N σ2 H2 → N' σ2 H2) → g x (wipe σ vs) H' N → g x (wipe σ vs) H' N')
    (hd : ∀ H' (as : List Addr), Same H1 H' → as.length = n → H' D = some (.lst (as.map V.ref)) → (∀ (i : Nat) (a : Addr), as[i]? = some a → H' a = some (f i)) → as.Nodup → (∀ a ∈ as, H1 a = none ∧ a ≠ D) → Qd H') : LpC J g tYes te vs D Qd σ H1 := by
  refine lpc_walk w (fun i H => ∃ as : List Addr, Same H1 H ∧ as.length = i ∧ H D = some (.lst (as.map V.ref)) ∧ (∀ (k : Nat) (a : Addr), as[k]? = some a → H a = some (f k)) ∧ as.Nodup ∧ ∀ a ∈ as, H1 a = none ∧ a ≠ D)
    ⟨[], Same.new hD, rfl, upd_same, fun k a h => by simp at h, List.Pairwise.nil, fun a h => by simp at h⟩ (fun i H _ p => ?_) ?_ (fun H p => ?_)
  · obtain ⟨as, s, _⟩ := p
    exact gS H s
  · rintro i x H H' hi ⟨as, s1, hl, hd1, hf, hn, ha⟩ y
    have sY := hY i x H H' y
    refine mono _ _ _ _ (fun σ2 H2 h => ?_) (hs i x H H' (fun v H4 => ∃ acc, H4 D = some (.lst acc) ∧ acc.length < sizeLine ∧ ∃ as : List Addr, Same H1 (upd H4 D (.lst (acc ++ [v]))) ∧ as.length = i + 1 ∧ upd H4 D (.lst (acc ++ [v])) D = some (.lst (as.map V.ref)) ∧ (∀ (k : Nat) (a : Addr), as[k]? = some a → upd H4 D (.lst (acc ++ [v])) a = some (f k)) ∧ as.Nodup ∧ ∀ a ∈ as, H1 a = none ∧ a ≠ D) hi s1 (s1.trans sY) y (fun H4 a s4 ha4 e4 => ?_))
    · exact ⟨h.1, h.2⟩
    · have hd4 := s4 _ _ (sY _ _ hd1)
      have naD : a ≠ D := fun e => by rw [e, sY _ _ hd1] at ha4; cases ha4
      have haf : ∀ b ∈ as, b ≠ D := fun b hb => (ha b hb).2
      refine ⟨_, hd4, by rw [List.length_map, hl]; omega, as ++ [a], Same.but ((s1.trans sY).trans s4) hD But.upd, by rw [List.length_append, hl]; rfl, by rw [upd_same, List.map_append]; rfl, fun k b hb => ?_, ?_, fun b hb => ?_⟩
      · by_cases hk : k < as.length
        · rw [List.getElem?_append_left hk] at hb
          exact But.upd _ _ (haf b (List.mem_of_getElem? hb)) (s4 _ _ (sY _ _ (hf k b hb)))
        · have hk2 : k = as.length := by
            have := (List.getElem?_eq_some_iff.mp hb).1
            rw [List.length_append, List.length_singleton] at this
            omega
          rw [hk2, List.getElem?_append_right (Nat.le_refl _), Nat.sub_self] at hb
          have hb : a = b := by simpa using hb
          rw [← hb, hk2, hl]
          exact But.upd _ _ naD e4
      · refine List.nodup_append.mpr ⟨hn, List.pairwise_singleton _ _, fun b hb c hc => ?_⟩
        rw [List.mem_singleton.mp hc]
        intro e
        obtain ⟨k, hk⟩ := List.getElem?_of_mem hb
        have := sY _ _ (hf k b hk)
        rw [e, ha4] at this
        cases this
      · rcases List.mem_append.mp hb with hb | hb
        · exact ha b hb
        · rw [List.mem_singleton.mp hb]
          exact ⟨(s1.trans sY).free ha4, naD⟩
  · obtain ⟨as, s1, hl, hd1, hf, hn, ha⟩ := p
    exact hd H as s1 hl hd1 hf hn ha
/-! sorted(d), d a dict with int keys -/
def rSortedDI : List V → Hp → VK → Prop := fun xs H Q => ∃ (a : Addr) (kvs : List (Key × V)) (ks : List Int), xs = [.ref a] ∧ Rd H a (.dK kvs) ∧ kvs.map (·.1) = ks.map Sum.inl ∧ ks.length < 64 ∧
    ∀ (ys : List Int) (p : Addr), ys.Perm ks → ys.Pairwise (· ≤ ·) → H p = none → Q (.ref p) (upd H p (.lst (ys.map V.int)))
theorem c_sortedDI {X : Cx} (hc : X.calm = true) : CallR X (.builtin "sorted") rSortedDI := call_sortedDI hc
theorem nat_list : ∀ (ys : List Int), (∀ y ∈ ys, 0 ≤ y) → ∃ C : List Nat, ys = C.map fun k : Nat => (k : Int)
  | [], _ => ⟨[], rfl⟩
  | y :: r, h => by
    obtain ⟨C, e⟩ := nat_list r fun x hx => h x (List.mem_cons_of_mem _ hx)
    have := h y List.mem_cons_self
    exact ⟨y.toNat :: C, by rw [List.map_cons, ← e, Int.toNat_of_nonneg this]⟩
theorem w_sortedDI {a : Addr} {kvs : List (Key × V)} {ks : List Nat} (e : H a = some (.dK kvs)) (hk : kvs.map (·.1) = ks.map fun k : Nat => (Sum.inl (k : Int) : Key)) (hn : ks.Nodup) (hz : ks.length < 64)
    (h : ∀ (C : List Nat) (p : Addr) (H' : Hp), C.Pairwise (· < ·) → (∀ c, c ∈ C ↔ c ∈ ks) → H p = none → Same H H' → H' p = some (.lst (C.map fun k : Nat => V.int (k : Int))) → Q (.ref p) H') : rSortedDI [.ref a] H Q := by
  refine ⟨a, kvs, ks.map fun k : Nat => (k : Int), rfl, .inl e, by rw [hk, List.map_map]; rfl, by rw [List.length_map]; exact hz, fun ys p hp hs hf => ?_⟩
  obtain ⟨C, rfl⟩ := nat_list ys fun y hy => by
    obtain ⟨k, _, rfl⟩ := List.mem_map.mp (hp.mem_iff.mp hy)
    exact Int.natCast_nonneg k
  have inj : ∀ (l : List Nat) (c : Nat), (c : Int) ∈ l.map (fun k : Nat => (k : Int)) ↔ c ∈ l := fun l c => by
    constructor
    · intro hm
      obtain ⟨k, hk, e⟩ := List.mem_map.mp hm
      have : k = c := by omega
      rw [← this]; exact hk
    · exact fun hm => List.mem_map.mpr ⟨c, hm, rfl⟩
  have hnd : (C.map fun k : Nat => (k : Int)).Nodup := hp.nodup_iff.mpr (hn.map _ fun x y hxy hc => hxy (by omega))
  refine h C p _ ?_ (fun c => ?_) hf (Same.new hf) (by rw [upd_same, List.map_map]; rfl)
  · have h1 := List.pairwise_map.mp hs
    have h2 := List.pairwise_map.mp hnd
    exact (List.pairwise_and_iff.mpr ⟨h1, h2⟩).imp fun {x y} h => by
      obtain ⟨a, b⟩ := h
      have : x ≠ y := fun e => b (by rw [e])
      omega
  · rw [← inj, hp.mem_iff, inj]
end
end Due

set_option Elab.async false
set_option linter.all false
set_option maxRecDepth 100000
set_option maxHeartbeats 4000000
namespace Due
open PySem PySem.Spec PyProof.Rows L2
def leR (r s : Int × Int × Str) : Prop := r.1 < s.1 ∨ (r.1 = s.1 ∧ r.2.1 ≤ s.2.1)
def shp : Nat → Bool := fun i => decide (i = 2)
def RowAt (h : Heap) (v : Value) (r : Int × Int × Str) : Prop := ∃ (t : Addr) (o : Obj) (n : Nat) (t1 t2 t3 : Tok), v = .ref t ∧ h.get? t = some o ∧ o.cls = .type "tuple" ∧ o.data = .seq #[.int r.1 t1, .int r.2.1 t2, .str r.2.2 t3] n
theorem RowAt.key {h : Heap} {v : Value} {r : Int × Int × Str} (e : RowAt h v r) : G.tupKeyC h shp v = some [Sum.inl r.1, Sum.inl r.2.1, Sum.inr r.2.2.cps.toList] := by
  obtain ⟨t, o, n, t1, t2, t3, rfl, ho, hc, hd⟩ := e
  unfold G.tupKeyC
  have h1 : G.isTupObj h (.ref t) = true := by
    unfold G.isTupObj
    simp only [ho, hc]
    decide
  rw [if_pos h1]
  unfold PyProof.Rows.tupKey
  simp only [ho, hd]
  rfl
theorem RowAt.tup {h : Heap} {v : Value} {r : Int × Int × Str} (e : RowAt h v r) : ∃ f, PyProof.Rows.TupOf h shp v f := by
  obtain ⟨t, o, n, t1, t2, t3, rfl, ho, hc, hd⟩ := e
  exact ⟨.int r.1 t1, t, o, _, n, rfl, ho, hc, hd, rfl, fun _ => ⟨_, _, rfl⟩, fun h => by simp [shp] at h⟩
theorem tups_all {h : Heap} : ∀ {vs : List Value}, (∀ v ∈ vs, ∃ f, PyProof.Rows.TupOf h shp v f) → ∃ fs, PyProof.Rows.TupsOf h shp vs fs
  | [], _ => ⟨[], .nil⟩
  | v :: vs, hv => by
    obtain ⟨f, hf⟩ := hv v List.mem_cons_self
    obtain ⟨fs, hfs⟩ := tups_all fun u hu => hv u (List.mem_cons_of_mem _ hu)
    exact ⟨f :: fs, .cons hf hfs⟩
theorem leR_of {r s : Int × Int × Str} (h : PyProof.Rows.lexLt PyProof.Rows.itemOrd [Sum.inl s.1, Sum.inl s.2.1, Sum.inr s.2.2.cps.toList] [Sum.inl r.1, Sum.inl r.2.1, Sum.inr r.2.2.cps.toList] = false) : leR r s := by
  have h1 : (decide (s.1 < r.1) || (!decide (r.1 < s.1) && (decide (s.2.1 < r.2.1) || (!decide (r.2.1 < s.2.1) && PyProof.Rows.lexLt PyProof.Rows.itemOrd [Sum.inr s.2.2.cps.toList] [Sum.inr r.2.2.cps.toList])))) = false := h
  simp only [Bool.or_eq_false_iff, Bool.and_eq_false_iff, Bool.not_eq_false', decide_eq_false_iff_not, decide_eq_true_eq] at h1
  unfold leR
  omega
def rSortedR (K : PySem.W.Frag) : List V → Hp → VK → Prop := fun vs H Q => ∃ (a : Addr) (xs : List V) (k : V → Int × Int × Str), vs = [V.ref a] ∧ SqL K H a xs ∧ (∀ x ∈ xs, ∃ t, x = V.ref t ∧ H t = some (.tup [.int (k x).1, .int (k x).2.1, .str (k x).2.2])) ∧
  ∀ ys p, ys.Perm xs → ys.Pairwise (fun x y => leR (k x) (k y)) → H p = none → Q (.ref p) (upd H p (.lst ys))
section
variable {X : Cx}
theorem cr_sortedR : CallR X (.builtin "sorted") (rSortedR X.K) := by
  intro pins s σ H vs us Q I r h
  obtain ⟨a, xs, k, rfl, hs, hx, q⟩ := h
  obtain ⟨its, rv, hl, hz⟩ := I.list hs
  obtain ⟨u, rfl, ru⟩ := vals1 r
  obtain rfl : u = Value.ref a := ru
  obtain ⟨e1, e2⟩ := refs_back rv fun x m => by
    obtain ⟨t, e, _⟩ := hx x m
    exact ⟨t, e⟩
  have rows : ∀ v ∈ its, RowAt s.heap v (k (backV v)) := fun v hv => by
    obtain ⟨t, rfl⟩ := e2 v hv
    have hm : V.ref t ∈ xs := by rw [e1]; exact List.mem_map.mpr ⟨_, hv, rfl⟩
    obtain ⟨t', e, ht⟩ := hx _ hm
    cases e
    obtain ⟨_, its2, r2, o, ho, hc, n, hd⟩ := I.hok _ _ ht
    cases r2 with
    | cons a1 r2 =>
      cases r2 with
      | cons a2 r2 =>
        cases r2 with
        | cons a3 r2 =>
          cases r2
          obtain ⟨t1, rfl⟩ := a1
          obtain ⟨t2, rfl⟩ := a2
          obtain ⟨t3, rfl⟩ := a3
          exact ⟨t, o, n, t1, t2, t3, rfl, ho, hc, hd⟩
  obtain ⟨fs, hfs⟩ := tups_all fun v hv => RowAt.tup (rows v hv)
  have hzl : its.length ≤ sizeLine := by rw [← rv.length]; exact hz
  refine G.sorted_tups (shape := shp) hl.isList hfs (fun v hv => ⟨_, RowAt.key (rows v hv)⟩) hzl fun st' hp hsrt _ => ?_
  have hL : (arrOf st').toList.Perm (its.zip its) := by rw [← pairsOf_toList]; exact Array.perm_iff_toList_perm.mp hp
  have hmem : ∀ p, p ∈ (arrOf st').toList → p.1 = p.2 ∧ p.1 ∈ its := fun p hp' => mem_zip_self (hL.mem_iff.mp hp')
  have eo : ((arrOf st').map (·.2)).toList = (arrOf st').toList.map (·.1) := by
    rw [Array.toList_map]; exact List.map_congr_left fun p hp' => (hmem p hp').1.symm
  have ho : ((arrOf st').toList.map (·.1)).Perm its := by
    have h1 := hL.map (·.1)
    rwa [List.map_fst_zip (Nat.le_refl _)] at h1
  have hpw : ((arrOf st').toList.map (·.1)).Pairwise (fun x y => leR (k (backV x)) (k (backV y))) := by
    rw [List.pairwise_iff_getElem]
    intro i j hi hj hij
    have hi' : i < (arrOf st').size := by simpa using hi
    have hj' : j < (arrOf st').size := by simpa using hj
    have h1 := hsrt i j (Nat.le_of_lt hij) (by rw [← hp.size_eq]; exact hj')
    have kk : ∀ (i : Nat) (hi : i < (arrOf st').size), KK (G.tupKindC s.heap shp) (arrOf st') i = [Sum.inl (k (backV (arrOf st')[i].1)).1, Sum.inl (k (backV (arrOf st')[i].1)).2.1, Sum.inr (k (backV (arrOf st')[i].1)).2.2.cps.toList] := fun i hi => by
      unfold KK
      rw [Array.getElem?_eq_getElem hi]
      show (G.tupKeyC s.heap shp (arrOf st')[i].1).getD _ = _
      rw [RowAt.key (rows _ (hmem _ (by simp)).2)]; rfl
    rw [kk i hi', kk j hj'] at h1
    simp only [List.getElem_map, Array.getElem_toList]
    exact leR_of h1
  generalize (arrOf st').map (·.2) = outA at eo ⊢
  generalize (arrOf st').toList.map (·.1) = out at eo ho hpw
  obtain ⟨ep, he'⟩ := PyProof.Rows.sortedAll_at s.heap its outA
  have h3 : ∀ u ∈ out, ∃ a, u = Value.ref a := fun u hu => e2 u (ho.mem_iff.mp hu)
  have hlen : (out.map backV).length ≤ sizeLine := by
    rw [List.length_map, ho.length_eq]; exact hzl
  refine ⟨.ref _, upd H (s.heap.objs.size + 1) (.lst (out.map backV)), I.laid (t' := s.toks) (fun _ _ => PyProof.Rows.sortedAll_old) (Nat.le_succ _) ⟨hlen, out, ep, vals_back h3, ?_⟩, rfl, q _ _ ?_ ?_ (I.hok.fresh (Nat.le_succ _))⟩
  · rw [he', ← eo, Array.toArray_toList]
  · rw [e1]; exact ho.map _
  · exact List.pairwise_map.mpr hpw
end
section
variable {K : PySem.W.Frag} {H : Hp} {Q : VK}
abbrev rowV (r : Int × Int × Str) : List V := [.int r.1, .int r.2.1, .str r.2.2]
def k3Of (H : Hp) (v : V) : Int × Int × Str := match v with
  | .ref q => (match H q with
    | some (.tup [.int i, .int j, .str x]) => (i, j, x)
    | _ => (0, 0, ⟨#[]⟩))
  | _ => (0, 0, ⟨#[]⟩)
theorem k3Of_at {q : Addr} {r : Int × Int × Str} (e : H q = some (.tup (rowV r))) : k3Of H (.ref q) = r := by
  show (match H q with
    | some (.tup [.int i, .int j, .str x]) => (i, j, x)
    | _ => (0, 0, ⟨#[]⟩)) = r
  rw [e]
theorem refs_of {xs : List V} : (∀ x ∈ xs, ∃ t, x = V.ref t) → ∃ ps : List Addr, xs = ps.map V.ref := by
  induction xs with
  | nil => exact fun _ => ⟨[], rfl⟩
  | cons x xs ih =>
    intro h
    obtain ⟨t, rfl⟩ := h x List.mem_cons_self
    obtain ⟨ps, rfl⟩ := ih fun y hy => h y (List.mem_cons_of_mem _ hy)
    exact ⟨t :: ps, rfl⟩
theorem ta_of_map {qs : List Addr} : (∀ q ∈ qs, H q = some (.tup (rowV (k3Of H (.ref q))))) → TA' H qs ((qs.map fun q => k3Of H (.ref q)).map rowV) := by
  induction qs with
  | nil => exact fun _ => .nil
  | cons q qs ih => exact fun h => .cons (h q List.mem_cons_self) (ih fun x hx => h x (List.mem_cons_of_mem _ hx))
theorem map_of_ta {qs : List Addr} {rows : List (Int × Int × Str)} (h : TA' H qs (rows.map rowV)) : (qs.map fun q => k3Of H (.ref q)) = rows := by
  induction rows generalizing qs with
  | nil => cases h; rfl
  | cons r rows ih =>
    cases h with
    | cons e t => rw [List.map_cons, k3Of_at e, ih t]
theorem w_sortedR {a : Addr} {ps : List Addr} {rows : List (Int × Int × Str)} (L : LT H a ps (rows.map rowV))
    (h : ∀ (H' : Hp) (p : Addr) (qs : List Addr) (rows' : List (Int × Int × Str)), rows'.Perm rows → rows'.Pairwise leR → H p = none → Same H H' → LT H' p qs (rows'.map rowV) → Q (.ref p) H') : rSortedR K [.ref a] H Q := by
  refine ⟨a, ps.map V.ref, k3Of H, rfl, SqL.of L.at_, fun x hx => ?_, fun ys p hp hs hf => ?_⟩
  · obtain ⟨i, hi⟩ := List.getElem?_of_mem hx
    obtain ⟨q, r, rfl, _, k2, k3⟩ := L.item hi
    obtain ⟨z, _, rfl⟩ := map_get k2
    refine ⟨q, rfl, ?_⟩
    rw [k3Of_at k3]; exact k3
  · obtain ⟨qs, rfl⟩ := refs_of (xs := ys) fun x hx => by
      obtain ⟨q, _, e⟩ := List.mem_map.mp (hp.mem_iff.mp hx)
      exact ⟨q, e.symm⟩
    have hq : qs.Perm ps := by
      have h1 := hp.map fun v => match v with | V.ref q => q | _ => 0
      rw [List.map_map, List.map_map] at h1
      have e : ∀ l : List Addr, l.map ((fun v => match v with | V.ref q => q | _ => 0) ∘ V.ref) = l := fun l => List.map_id _
      rw [e, e] at h1
      exact h1
    have hat : ∀ q ∈ qs, H q = some (.tup (rowV (k3Of H (.ref q)))) := fun q hq' => by
      obtain ⟨i, hi⟩ := List.getElem?_of_mem (hq.mem_iff.mp hq')
      obtain ⟨r, k2, k3⟩ := prd_at L.tt hi
      obtain ⟨z, _, rfl⟩ := map_get k2
      rw [k3Of_at k3]; exact k3
    have s := Same.new (o := .lst (qs.map V.ref)) hf
    refine h _ p qs (qs.map fun q => k3Of H (.ref q)) ?_ ?_ hf s ⟨upd_same, (ta_of_map hat).same s⟩
    · have := hq.map fun q => k3Of H (.ref q)
      rw [map_of_ta L.tt] at this
      exact this
    · have := List.pairwise_map.mp hs
      exact List.pairwise_map.mpr this
end
/-! divmod; extend -/
section
variable {K : PySem.W.Frag} {H : Hp} {Q : VK}
theorem w_divmod {i j : Int} (c : CDiv i j) (h : ∀ p H', H p = none → Same H H' → H' p = some (.tup [.int (i / j), .int (i % j)]) → Q (.ref p) H') : rDm [.int i, .int j] H Q := ⟨i, j, rfl, c, fun p hp => h p _ hp (Same.new hp) upd_same⟩
theorem w_extend {l b : Addr} {xs zs : List V} (e : H l = some (.lst xs)) (e2 : H b = some (.lst zs)) (hz : xs.length + zs.length ≤ sizeLine) (h : ∀ H', But l H H' → H' l = some (.lst (xs ++ zs)) → Q .non H') : rExtend (.ref l) [.ref b] H Q :=
  ⟨l, b, xs, zs, rfl, rfl, e, e2, hz, h _ But.upd upd_same⟩
end
end Due

set_option Elab.async false
set_option linter.all false
set_option maxRecDepth 100000
set_option maxHeartbeats 4000000
namespace Due
open PySem PySem.Spec PyProof.Rows L2
section
variable {K : PySem.W.Frag} {σ : L2.St} {H : Hp} {Q : VK} {td ty tx : TE}
def rD2 (ty tx : TE) (σ : L2.St) (x : V) (H1 : Hp) (Q : VK) : Prop := ∃ a, x = .ref a ∧ IsD H1 a ∧ ty σ H1 fun y H2 => tx σ H2 fun z H3 => ∃ o, DGet H3 a y o ∧ Q (o.getD z) H3
def rD3 (a : Addr) (y z : V) (H : Hp) (Q : VK) : Prop := ∃ o, DGet H a y o ∧ Q (o.getD z) H
theorem w_dget2 (h : td σ H fun x H1 => rD2 ty tx σ x H1 Q) : tDGet2 td ty tx σ H Q := h
theorem w_rD2K {a : Addr} {kvs : List (Key × V)} (e : H a = some (.dK kvs)) (h : ty σ H fun y H2 => tx σ H2 fun z H3 => rD3 a y z H3 Q) : rD2 ty tx σ (.ref a) H Q := ⟨a, rfl, .inl ⟨kvs, .inl e⟩, h⟩
theorem w_rD2T {a : Addr} {kvs : List (List Key × V)} (e : H a = some (.dT kvs)) (h : ty σ H fun y H2 => tx σ H2 fun z H3 => rD3 a y z H3 Q) : rD2 ty tx σ (.ref a) H Q := ⟨a, rfl, .inr ⟨kvs, .inl e⟩, h⟩
theorem w_rD3S {a : Addr} {kvs : List (Key × V)} {k : Str} {z : V} (e : H a = some (.dK kvs)) (h : Q ((valV kvs (Sum.inr k : Key)).getD z) H) : rD3 a (.str k) z H Q := ⟨_, DGet.k (k := Sum.inr k) e, h⟩
theorem w_rD3T {a b : Addr} {kvs : List (List Key × V)} {k : List Key} {z : V} (e : H a = some (.dT kvs)) (eb : H b = some (.tup (k.map kV))) (h : Q ((valV kvs k).getD z) H) : rD3 a (.ref b) z H Q := ⟨_, DGet.t e eb, h⟩
end
theorem putK_len {κ : Type} [DecidableEq κ] (c : List (κ × V)) (k : κ) (x : V) : (putK c k x).length ≤ c.length + 1 := by
  unfold putK
  by_cases e : (c.any fun kv => decide (kv.1 = k)) = true
  · rw [if_pos e, List.length_map]
    omega
  · rw [if_neg e, List.length_append]
    simp
end Due

set_option Elab.async false
set_option linter.all false
set_option maxRecDepth 100000
set_option maxHeartbeats 4000000
namespace Due
open PySem PySem.Spec PyProof.Rows L2
section
variable {X : Cx} {CX : CXT} {k : Nat} {C f : Addr} {mc : Value} {fd : FuncData} {ps : List Str} {sp : Sp} {E : XK} {x m : Str} {e : Expr} {es : List Expr} {p pos apos : Pos} {t : TA} {pl : Sem Bool} {dvs : List V} {ds : List Value}
/-- C.m(..), C a class of the text, m a def of it -/
theorem pe_clsfn (hg : Gl X x) (hm : X.mg x = some (.ref C)) (hrd : PySem.W.readsIn X.K C mc = true) (hga : PySem.W.specialIn X.K (.ref C) "__getattribute__" = some (some (.builtin "type.__getattribute__")))
    (hfi : PySem.W.findCls X.K (.ref C) mc m = some (.val (.ref f))) (F : FnOk X.prog X.w X.K X.mg X.base CX k f fd ps sp) (hr : Room k X.A) (hk : PySem.W.keepIn X.K (.ref f) = true) (hb : Binds X.K fd ps ds) (hd : Vals dvs ds) (hx : Passes CX X E) (ha : PA X (e :: es) t)
    (hdb : (x == ("__debug__" : Str)) = false := by decide) (hst : starEach (e :: es) X.env = (false, eval e X.env) :: starEach es X.env := by rfl) (hpl : (backTo pos (starEach es X.env)).any (·.1) = false := by rfl)
    (ht : eval (.Call (.Attribute (.Name x p) m apos) (e :: es) [] pos) X.env = (do
      let ov ← eval (.Name x p) X.env
      standAt apos.atName
      let (f, first) ← holding [ov] (getMethod ov m pl)
      callWith pos f first (backTo pos (starEach (e :: es) X.env)) (backToKw pos (keywordEach [] X.env))) := by rfl) :
    PE X (.Call (.Attribute (.Name x p) m apos) (e :: es) [] pos) (tCall sp dvs E t) := by
  refine ⟨fun pins s σ H Q I h => ?_⟩
  refine PySem.W.methodCall_KW (pl := pl) (thn ((pe_glob (pos := p) hg hm (show RelV (.ref C) (.ref C) from rfl) hdb).run pins s σ H (fun z H1 => z = .ref C ∧ H1 = H) I ⟨rfl, rfl⟩) fun u s1 ⟨z, H1, I1, rz, ez, eH⟩ => ?_) ht
  subst ez
  subst eH
  obtain rfl : u = Value.ref C := rz
  refine PySem.W.method_cls I1.kIn hga (PySem.W.cls_value I1.kIn hrd hfi (handed_of (show RelV (.ref f) (.ref f) from rfl)) ?_)
  refine PySem.W.callWith_K (h₀ := X.base) I1.ok.mod.kin hk (thn (ha.run pos pins _ σ H1 _ (I1.tok _) h) fun us s3 ⟨vs, H2, I3, rv, q2⟩ => ⟨I3.kIn, ?_⟩) hst hpl
  exact run_fn F hr hb hd hx I3 rv q2
end
theorem isBu_eq {o : Option (Option Value)} {n : String} (h : isBu o n = true) : o = some (some (.builtin n)) := by
  unfold isBu at h
  split at h
  · rw [of_decide_eq_true h]
  · cases h
theorem isVf_eq {o : Option PySem.W.CFound} {g : Addr} (h : isVf o g = true) : o = some (.val (.ref g)) := by
  unfold isVf at h
  split at h
  · rw [of_decide_eq_true h]
  · cases h
structure ExF (K : PySem.W.Frag) : Prop where
  rd : PySem.W.readsIn K (He.ga K "Verdict") (.type "type") = true
  ga : PySem.W.specialIn K (.ref (He.ga K "Verdict")) "__getattribute__" = some (some (.builtin "type.__getattribute__"))
  fi : PySem.W.findCls K (.ref (He.ga K "Verdict")) (.type "type") "__init__" = some (.val (.ref (He.ma K (He.ga K "Verdict") "__init__")))
  ok : ownB K (He.ga K "Kept") = true
  of : ownB K (He.ga K "Full") = true
  hn : PySem.W.specialIn K (.builtin "object.__class__") "__get__" = some (some (.builtin "getset_descriptor.__get__"))
  htk : PySem.W.takesIn K (.builtin "object.__class__") = some true
  kv : isaB K (He.ga K "Kept") (He.ga K "Verdict") true = true
  fv : isaB K (He.ga K "Full") (He.ga K "Verdict") true = true
  kk : isaB K (He.ga K "Kept") (He.ga K "Kept") true = true
  fk : isaB K (He.ga K "Full") (He.ga K "Kept") false = true
  kf : isaB K (He.ga K "Kept") (He.ga K "Full") false = true
  ff : isaB K (He.ga K "Full") (He.ga K "Full") true = true
theorem and_t {a b : Bool} (h : (a && b) = true) : a = true ∧ b = true := by
  cases a <;> cases b <;> first | exact ⟨rfl, rfl⟩ | cases h
theorem exF {K : PySem.W.Frag} (h : exB K = true) : ExF K := by
  unfold exB at h
  obtain ⟨h1, h⟩ := and_t h
  obtain ⟨a1, h1⟩ := and_t h1
  obtain ⟨a2, a3⟩ := and_t h1
  obtain ⟨h2, h⟩ := and_t h
  obtain ⟨b1, b2⟩ := and_t h2
  obtain ⟨h3, h⟩ := and_t h
  obtain ⟨c1, c2⟩ := and_t h3
  obtain ⟨h4, h⟩ := and_t h
  obtain ⟨d1, d2⟩ := and_t h4
  obtain ⟨h5, h6⟩ := and_t h
  obtain ⟨e1, e2⟩ := and_t h5
  obtain ⟨f1, f2⟩ := and_t h6
  exact ⟨a1, isBu_eq a2, isVf_eq a3, b1, b2, isBu_eq c1, of_decide_eq_true c2, d1, d2, e1, e2, f1, f2⟩
section
variable {K : PySem.W.Frag} {H : Hp} {Q : VK}
theorem w_isiO {a C D dx : Addr} {fs : List (Str × V)} {b : Bool} (e : H a = some (.ins C dx fs)) (cl : Cls K C) (o : ownB K C = true) (x : ExF K) (k : isaB K C D b = true) (h : Q (.bl b) H) : rIsi K [.ref a, .ref D] H Q := by
  obtain ⟨o1, o2⟩ := and_t o
  exact ⟨.ref a, .ref D, .ref C, .ref D, b, rfl, .own D, .base (.ins e cl (isBu_eq o1) x.hn x.htk (of_decide_eq_true o2)), of_decide_eq_true k, h⟩
end
end Due

set_option Elab.async false
set_option linter.all false
set_option maxRecDepth 100000
set_option maxHeartbeats 4000000
namespace Due
open PySem PySem.Spec PyProof.Rows L2
section
variable {X : Cx} {e : Expr} {t1 t2 : TE}
/-- one of two readings -/
def tOr2 (t1 t2 : TE) : TE := fun σ H Q => t1 σ H Q ∨ t2 σ H Q
theorem pe_or2 (h1 : PE X e t1) (h2 : PE X e t2) : PE X e (tOr2 t1 t2) := ⟨fun pins s σ H Q I h => by
  rcases h with h | h
  · exact h1.run pins s σ H Q I h
  · exact h2.run pins s σ H Q I h⟩
end
section
variable {K : PySem.W.Frag} {σ : L2.St} {H : Hp} {Q : VK} {t1 t2 : TE}
theorem w_or2L (h : t1 σ H Q) : tOr2 t1 t2 σ H Q := .inl h
theorem w_or2R (h : t2 σ H Q) : tOr2 t1 t2 σ H Q := .inr h
theorem w_isB {a b : Bool} (h : Q (.bl (decide (a = b))) H) : rIsB (.bl a) (.bl b) H Q := ⟨a, b, rfl, rfl, h⟩
theorem w_notB {a b : Bool} (h : Q (.bl (!decide (a = b))) H) : rNotB (.bl a) (.bl b) H Q := ⟨a, b, rfl, rfl, h⟩
theorem w_addS {x y : Str} (hz : x.length + y.length ≤ 100000) (h : Q (.str (x ++ y)) H) : (∃ i j, V.str x = .str i ∧ V.str y = .str j ∧ i.length + j.length ≤ sizeLine ∧ Q (.str (i ++ j)) H) := ⟨x, y, rfl, rfl, szl hz, h⟩
theorem w_slS {z : Str} {lo hi : Option Int} (hz : z.length ≤ 100000) (h : Q (.str (cutS z lo hi)) H) : rSlS (.str z) lo hi H Q := ⟨z, rfl, szl hz, h⟩
abbrev signsS : Str := "abcdefghijklmnopqrstuvwxyz0123456789"
def sgn (i : Int) : Nat := signsS.cps.toList.getD i.toNat 0
theorem signs_len : signsS.cps.toList.length = 36 := by decide +kernel
theorem signs_nd : signsS.cps.toList.Nodup := by decide +kernel
theorem sgn_at {i : Int} (h0 : 0 ≤ i) (h1 : i < 36) : signsS.cps.toList[i.toNat]? = some (sgn i) := by
  have hl : i.toNat < signsS.cps.toList.length := by rw [signs_len]; omega
  unfold sgn
  rw [List.getD_eq_getElem?_getD, List.getElem?_eq_getElem hl]; rfl
theorem sgn_inj {i j : Int} (h0 : 0 ≤ i) (h1 : i < 36) (g0 : 0 ≤ j) (g1 : j < 36) (e : sgn i = sgn j) : i = j := by
  have a1 := List.getElem?_eq_some_iff.mp (sgn_at h0 h1)
  have a2 := List.getElem?_eq_some_iff.mp (sgn_at g0 g1)
  have nd := List.pairwise_iff_getElem.mp signs_nd
  rcases Nat.lt_trichotomy i.toNat j.toNat with k | k | k
  · exact absurd (by rw [a1.2, a2.2, e]) (nd _ _ a1.1 a2.1 k)
  · omega
  · exact absurd (by rw [a1.2, a2.2, e]) (nd _ _ a2.1 a1.1 k)
theorem w_sgn {i : Int} (h0 : 0 ≤ i) (h1 : i < 36) (h : Q (.str ⟨#[sgn i]⟩) H) : rIxS (.str signsS) (.int i) H Q := by
  refine ⟨signsS, i, sgn i, rfl, rfl, szl (by show signsS.length ≤ 100000; decide +kernel), ?_, h⟩
  have := atI_nat (sgn_at h0 h1)
  rwa [Int.toNat_of_nonneg h0] at this
def rJoinE (K : PySem.W.Frag) (H : Hp) (Q : VK) : V → V → Prop := fun x y => ∃ a p, ∃ ys : List Str, x = .str a ∧ [y] = [V.ref p] ∧ (SqL K H p (ys.map V.str) ∨ SqT K H p (ys.map V.str)) ∧
      (ys.map (·.length)).sum + ys.length * a.length ≤ 16777216 ∧ Q (.str (Txt.join a ys)) H
theorem joinL_nil : ∀ ls : List (List Nat), TL.joinL [] ls = ls.flatten
  | [] => rfl
  | [p] => by simp [TL.joinL]
  | p :: q :: r => by
    show p ++ ([] ++ TL.joinL [] (q :: r)) = _
    rw [joinL_nil (q :: r)]
    simp
theorem join_ones' (cs : List Nat) : (Txt.join (⟨#[]⟩ : Str) (cs.map fun c => (⟨#[c]⟩ : Str))).cps.toList = cs := by
  show TL.tl (Builtin.Str.glued _ _) = cs
  rw [StrLaws.glued_eq_join, TL.tl_join, List.map_map]
  show TL.joinL [] _ = cs
  rw [joinL_nil]
  induction cs with
  | nil => rfl
  | cons c r ih =>
    rw [List.map_cons, List.flatten_cons, ih]; rfl
end
end Due

set_option Elab.async false
set_option linter.all false
set_option maxRecDepth 100000
set_option maxHeartbeats 4000000
namespace Due
open PySem PySem.Spec PyProof.Rows L2
local macro_rules | `(tactic| walk_at "v") => `(tactic| ((with_reducible refine' w_var ?hv ?_); (case hv => exact rfl)))
local macro_rules | `(tactic| walk_at "go1") => `(tactic| first
  | with_reducible refine' w_seq ?_ | with_reducible refine' w_asg ?_ | with_reducible refine' w_name ?_ | with_reducible refine' w_ret ?_ | with_reducible refine' w_drop ?_ | with_reducible refine' w_ifs ?_ | with_reducible refine' w_next ?_ | with_reducible refine' w_retN ?_ | with_reducible refine' w_cont ?_
  | ((with_reducible refine' w_var ?hv ?_); (case hv => exact rfl)) | with_reducible refine' w_c ?_ | with_reducible refine' w_op ?_ | with_reducible refine' w_un ?_ | with_reducible refine' w_I0 ?_ | with_reducible refine' w_U ?_ | with_reducible refine' w_cmp ?_
  | ((with_reducible refine' w_eq ?hv ?_); (case hv => exact rfl)) | ((with_reducible refine' w_ne ?hv ?_); (case hv => exact rfl))
  | with_reducible refine' iteT ?_ | with_reducible refine' iteF ?_ | with_reducible refine' iteNT ?_ | with_reducible refine' iteNF ?_ | with_reducible refine' w_chain3 ?_ | with_reducible refine' w_augS ?_ | with_reducible refine' w_gsub ?_
  | with_reducible refine' w_isN ?_ | with_reducible refine' w_notN ?_ | with_reducible refine' w_rBl ?_ | with_reducible refine' w_B ?_ | with_reducible refine' w_test ?_ | with_reducible refine' w_and ?_ | with_reducible refine' w_or ?_ | with_reducible refine' w_not ?_
  | with_reducible refine' w_andV ?_ | with_reducible refine' w_orV ?_ | with_reducible refine' w_notV ?_ | with_reducible refine' w_chain ?_ | with_reducible refine' w_fld ?_ | with_reducible refine' w_sfld ?_ | with_reducible refine' w_nil ?_ | with_reducible refine' w_cons ?_
  | with_reducible refine' w_call ?_ | with_reducible refine' w_meth ?_ | with_reducible refine' w_make ?_ | with_reducible refine' w_CB ?_ | with_reducible refine' w_BM0 ?_ | with_reducible refine' w_BM ?_ | with_reducible refine' w_tup ?_ | with_reducible refine' w_lst ?_
  | with_reducible refine' w_for ?_ | with_reducible refine' w_iList ?_ | with_reducible refine' w_iTup ?_ | with_reducible refine' w_lc ?_ | with_reducible refine' w_yes ?_ | with_reducible refine' w_max2 ?_ | with_reducible refine' w_min2 ?_ | with_reducible refine' w_ipI ?_ | with_reducible refine' w_gcons ?_ | with_reducible refine' w_gnil ?_
  | ((with_reducible refine' w_aug ?hv ?_); (case hv => exact rfl))
  | ((with_reducible refine' w_gtup ?hv ?hn ?_); (case hv => assumption); (case hn => exact rfl))
  | ((with_reducible refine' w_ixT ?hv ?ha ?_); (case hv => assumption); (case ha => exact rfl))
  | ((with_reducible refine' w_newT ?hv ?_); (case hv => exact Nat.le_of_ble_eq_true rfl))
  | ((with_reducible refine' w_newL ?hv ?_); (case hv => exact Nat.le_of_ble_eq_true rfl)))
local macro_rules | `(tactic| walk_at "go") => `(tactic| repeat' walk_at "go1")
section
variable {P : Program} {w : World} {K : PySem.W.Frag} {mg : Str → Option Value} {base : Heap}
/-! ### spans and jobs -/
abbrev spanV (p : Int × Int) : List V := [.int p.1, .int p.2]
theorem spans_flat {α : Type} {ss : List α} {f : α → List V} (h : ∀ a, ∀ v ∈ f a, FlatOk v) : ∀ r ∈ ss.map f, ∀ v ∈ r, FlatOk v := fun r hr v hv => by
  obtain ⟨a, _, rfl⟩ := List.mem_map.mp hr
  exact h a v hv
theorem flat_int {i : Int} : FlatOk (.int i) := .inl ⟨i, rfl⟩
theorem spanV_flat (p : Int × Int) : ∀ v ∈ spanV p, FlatOk v := fun v hv => by
  rcases List.mem_cons.mp hv with rfl | hv
  · exact flat_int
  · rw [List.mem_singleton.mp hv]; exact flat_int
def sp_is_whole : Sp := fun vs H Q _ => ∃ i, vs = [.int i] ∧ Q (.bl true) H
-- slots: 0 thing
theorem sc_is_whole : FnScope ["thing"] ["thing"] (defScope s_is_whole) := ⟨rfl, rfl, rfl, by decide +kernel, rfl, by decide +kernel, by decide +kernel⟩
theorem cd_is_whole (T : Tx K mg) : ∃ fd, Cd P w K mg base 1 (He.ga K "is_whole") ["thing"] sp_is_whole fd := by
  obtain ⟨fd, F⟩ := T.F_is_whole
  refine ⟨fd, F.ok sc_is_whole (fun vs H Q E h => ?_) (fun cdv A outer s H vs Q E hr h => ?_), FunD.bindsN F (fun _ _ _ _ _ _ us hl => match us, hl with | [_], _ => rfl), F.kp⟩
  · obtain ⟨i, rfl, _⟩ := h
    rfl
  · obtain ⟨i, rfl, q⟩ := h
    refine ⟨_, PSs.nox (pss_one (ps_ret (pe_and (pe_callB call_isi (by rfl) T.b_isinstance (by decide +kernel) (pa_cons (pv 0) (pa_cons (pe_bltn (by rfl) T.b_int (by decide +kernel) (v := .ty "int") rfl) pa_nil))) (pe_one (pe_not (pe_callB call_isi (by rfl) T.b_isinstance (by decide +kernel) (pa_cons (pv 0) (pa_cons (pe_bltn (by rfl) T.b_bool (by decide +kernel) (v := .ty "bool") rfl) pa_nil)))))))), ?_⟩
    walk_at "go"
    refine w_isi (b := true) (.int _) (by decide +kernel) ?_
    walk_at "go"
    refine w_isi (b := false) (.int _) (by decide +kernel) ?_
    walk_at "go"
    exact q
def sp_is_span : Sp := fun vs H Q _ => ∃ (a : Addr) (p : Int × Int), vs = [.ref a] ∧ H a = some (.tup (spanV p)) ∧ (0 ≤ p.1 ∧ p.1 ≤ p.2 ∧ p.2 ≤ 10000000000) ∧ Q (.bl true) H
-- slots: 0 thing
theorem sc_is_span : FnScope ["thing"] ["thing"] (defScope s_is_span) := ⟨rfl, rfl, rfl, by decide +kernel, rfl, by decide +kernel, by decide +kernel⟩
theorem cd_is_span (T : Tx K mg) : ∃ fd, Cd P w K mg base 2 (He.ga K "is_span") ["thing"] sp_is_span fd := by
  obtain ⟨fd, F⟩ := T.F_is_span
  obtain ⟨_, K_is_whole⟩ := cd_is_whole (P := P) (w := w) (base := base) T
  refine ⟨fd, F.ok sc_is_span (fun vs H Q E h => ?_) (fun cdv A outer s H vs Q E hr h => ?_), FunD.bindsN F (fun _ _ _ _ _ _ us hl => match us, hl with | [_], _ => rfl), F.kp⟩
  · obtain ⟨a, p, rfl, _⟩ := h
    rfl
  · obtain ⟨a, p, rfl, h1, hb, q⟩ := h
    refine ⟨_, PSs.nox (pss_cons (ps_if (PW.pt (pw_or (pt_not (pt_val (pe_callB call_isi (by rfl) T.b_isinstance (by decide +kernel) (pa_cons (pv 0) (pa_cons (pe_bltn (by rfl) T.b_tuple (by decide +kernel) (v := .ty "tuple") rfl) pa_nil))))) (pw_or1 (pt_cmpR op_ne (pe_callB c_len (by rfl) T.b_len (by decide +kernel) (pa_cons (pv 0) pa_nil)) pe_int (nomark _))))) (pss_one (ps_ret pe_bl)) pss_nil)
      (pss_cons (ps_if (PW.pt (pw_or (pt_not (pt_val (pe_call K_is_whole.ok (hr.mono (by decide)) (by rfl) T.g_is_whole K_is_whole.kp K_is_whole.bn .nil pass0 (pa_cons (pe_ix ix_tup (pv 0) pe_int (fun _ _ => rfl)) pa_nil)))) (pw_or1 (pt_not (pt_val (pe_call K_is_whole.ok (hr.mono (by decide)) (by rfl) T.g_is_whole K_is_whole.kp K_is_whole.bn .nil pass0 (pa_cons (pe_ix ix_tup (pv 0) pe_int (fun _ _ => rfl)) pa_nil))))))) (pss_one (ps_ret pe_bl)) pss_nil)
      (pss_one (ps_ret (pe_chain3 op_le op_le op_le pe_int (pe_ix ix_tup (pv 0) pe_int (fun _ _ => rfl)) (pe_ix ix_tup (pv 0) pe_int (fun _ _ => rfl)) (pe_gi (by rfl) T.i_LAST_TURN)))))), ?_⟩
    walk_at "go"
    refine w_isi (b := true) (.tup h1) (by decide +kernel) ?_
    walk_at "go"
    refine w_lenT h1 ?_
    walk_at "go"
    refine ifnF rfl ?_
    walk_at "go"
    refine ⟨_, rfl, ?_⟩
    walk_at "go"
    refine ⟨_, rfl, ?_⟩
    walk_at "go"
    refine ifT hb.1 ?_
    walk_at "go"
    refine ifT hb.2.1 ?_
    walk_at "go"
    rw [decide_eq_true hb.2.2]
    exact q
def mstep (acc : List (Int × Int)) (p : Int × Int) : List (Int × Int) := match acc.getLast? with
  | none => [p]
  | some l => if p.1 ≤ l.2 + 1 then acc.dropLast ++ [(l.1, max l.2 p.2)] else acc ++ [p]
theorem mstep_nil (p : Int × Int) : mstep [] p = [p] := rfl
theorem mstep_snoc (acc : List (Int × Int)) (l p : Int × Int) : mstep (acc ++ [l]) p = if p.1 ≤ l.2 + 1 then acc ++ [(l.1, max l.2 p.2)] else acc ++ [l] ++ [p] := by
  unfold mstep
  rw [List.getLast?_concat, List.dropLast_concat]
theorem mstep_len (acc : List (Int × Int)) (p : Int × Int) : (mstep acc p).length ≤ acc.length + 1 := by
  rcases List.eq_nil_or_concat acc with rfl | ⟨r, l, rfl⟩
  · rw [mstep_nil]; simp
  · rw [List.concat_eq_append, mstep_snoc]
    split <;> simp
theorem mfold_len (ss : List (Int × Int)) : (ss.foldl mstep []).length ≤ ss.length := by
  have h : ∀ (ss acc : List (Int × Int)), (ss.foldl mstep acc).length ≤ acc.length + ss.length := by
    intro ss
    induction ss with
    | nil => intro acc; simp
    | cons p r ih =>
      intro acc
      have h1 := ih (mstep acc p)
      have h2 := mstep_len acc p
      rw [List.foldl_cons, List.length_cons]
      omega
  have := h ss []
  simpa using this
def sp_merged : Sp := fun vs H Q _ => ∃ (a : Addr) (ps : List Addr) (ss : List (Int × Int)), vs = [.ref a] ∧ LT H a ps (ss.map spanV) ∧ ss.length ≤ 1000 ∧ ∀ H' l qs, Same H H' → H l = none → LT H' l qs ((ss.foldl mstep []).map spanV) → Q (.ref l) H'
-- slots: 0 rows, 1 found, 2 first, 3 last
theorem sc_merged : FnScope ["rows", "found", "first", "last"] ["rows"] (defScope s_merged) := ⟨rfl, rfl, rfl, by decide +kernel, rfl, by decide +kernel, by decide +kernel⟩
theorem cd_merged (T : Tx K mg) : ∃ fd, Cd P w K mg base 1 (He.ga K "merged") ["rows"] sp_merged fd := by
  obtain ⟨fd, F⟩ := T.F_merged
  refine ⟨fd, F.ok sc_merged (fun vs H Q E h => ?_) (fun cdv A outer s H vs Q E hr h => ?_), FunD.bindsN F (fun _ _ _ _ _ _ us hl => match us, hl with | [_], _ => rfl), F.kp⟩
  · obtain ⟨a, ps, ss, rfl, _⟩ := h
    rfl
  · obtain ⟨a, ps, ss, rfl, L, hz, q⟩ := h
    refine ⟨_, PSs.nox (pss_cons (ps_set (i := 1) sc_merged.nd rfl (Or.inl rfl) (pe_lst pa_nil))
      (pss_cons (ps_for PassesOwn.never rfl (pi_list (pv 0)) (pg_tup rfl (pgs_cons (pg_name (i := 2) sc_merged.nd rfl (Or.inl rfl)) (pgs_cons (pg_name (i := 3) sc_merged.nd rfl (Or.inl rfl)) pgs_nil))) (pss_one (ps_if (PW.pt (pw_and (pt_cmpR (op_neD hr.units) (pv 1) (pe_lst pa_nil) (nomark _)) (pw_and1 (pt_cmpR op_le (pv 2) (pe_op op_add (pe_ix ix_tup (pe_ix ix_list (pv 1) (pe_un un_neg pe_int) (fun _ _ => rfl)) pe_int (fun _ _ => rfl)) pe_int) (nomark _))))) (pss_one (ps_asg (pe_tup (pa_cons (pe_ix ix_tup (pe_ix ix_list (pv 1) (pe_un un_neg pe_int) (fun _ _ => rfl)) pe_int (fun _ _ => rfl)) (pa_cons (pe_callB (c_max2 rfl) (by rfl) T.b_max (by decide +kernel) (pa_cons (pe_ix ix_tup (pe_ix ix_list (pv 1) (pe_un un_neg pe_int) (fun _ _ => rfl)) pe_int (fun _ _ => rfl)) (pa_cons (pv 3) pa_nil))) pa_nil))) (pg_sub (pv 1) (pe_un un_neg pe_int) set_list))) (pss_one (ps_expr (pe_bm PySem.F.plainAttrs_list PySem.F.slot_list_append PySem.F.type_list_append mt_append (pv 1) (pa_cons (pe_tup (pa_cons (pv 2) (pa_cons (pv 3) pa_nil))) pa_nil)))))))
      (pss_one (ps_ret (pv 1))))), ?_⟩
    walk_at "go"
    intro l H1 hl s1 e1
    walk_at "go"
    refine w_rIt (s1 _ _ L.at_) ?_
    refine lp_LT (ps := ps) (rs := ss.map spanV) (fun i σ H' => ∃ qs v2 v3, σ = [some (.ref a), some (.ref l), v2, v3] ∧ Same H H' ∧ LT H' l qs (((ss.take i).foldl mstep []).map spanV)) ⟨[], none, none, rfl, s1, ⟨e1, .nil⟩⟩ (fun i σ H' hi p => ?_) (fun i q' r σ H' hi hp hr hq p => ?_) (fun σ H' p => ?_)
    · obtain ⟨qs, v2, v3, rfl, s, _⟩ := p
      exact L.same s
    · obtain ⟨qs, v2, v3, rfl, s, L2⟩ := p
      obtain ⟨z, ez, rfl⟩ := map_get hr
      rw [List.length_map] at hi
      have hfl := take_succ_of ez
      have hlen : ((ss.take i).foldl mstep []).length ≤ 1000 := Nat.le_trans (mfold_len _) (by rw [List.length_take]; omega)
      rw [hfl, List.foldl_append, List.foldl_cons, List.foldl_nil]
      generalize (ss.take i).foldl mstep [] = acc at L2 hlen ⊢
      walk_at "go"
      intro t H2 ht s2 e2
      refine w_neNil (dp_rows (L2.same s2) (spans_flat spanV_flat)) (sh_rows (spans_flat spanV_flat)) e2 ?_
      walk_at "go"
      have sn := s.trans s2
      have L3 := L2.same s2
      rcases List.eq_nil_or_concat acc with rfl | ⟨acc', lp, e⟩
      · refine iteF ?_
        walk_at "go"
        refine w_rTyL L3.at_ ?_
        walk_at "go"
        intro t2 H3 ht2 s3 e3
        walk_at "go"
        have L4 := L3.same s3
        refine w_append L4.at_ (by rw [List.length_map, L4.len]; exact szlt (by simp)) fun H4 b4 e4 => ?_
        walk_at "go"
        exact ⟨qs ++ [t2], _, _, rfl, Same.but (sn.trans s3) hl b4, LT.snoc L4 e3 b4 e4⟩
      · rw [List.concat_eq_append] at e
        subst e
        have hL : (List.map rowPD (List.map spanV (acc' ++ [lp]))).isEmpty = false := by simp
        rw [hL]
        walk_at "go"
        have tt3 := L3.tt
        rw [List.map_append] at tt3
        obtain ⟨qs', ql, rfl, tt4, el⟩ := TA'.snoc_inv tt3
        have at3 := L3.at_
        rw [List.map_append] at at3
        refine w_ixL at3 (atI_last _ _) ?_
        walk_at "go"
        rw [mstep_snoc]
        refine ifD (fun hc => ?_) (fun hc => ?_)
        · rw [if_pos hc]
          walk_at "go"
          refine w_ixL at3 (atI_last _ _) ?_
          walk_at "go"
          refine w_ixL at3 (atI_last _ _) ?_
          walk_at "go"
          intro t2 H3 ht2 s3 e3
          walk_at "go"
          have at4 := s3 _ _ at3
          refine w_setL (j := qs'.length) at4 (by rw [List.length_append, List.length_map]; exact ixN_last (by simp)) fun H4 b4 e4 => ?_
          walk_at "go"
          refine ⟨qs' ++ [t2], _, _, rfl, Same.but (sn.trans s3) hl b4, ?_, ?_⟩
          · rw [e4, List.map_append]
            have := set_last (qs'.map V.ref) (V.ref ql) (V.ref t2)
            rw [List.length_map] at this
            exact congrArg (fun x => some (HO.lst x)) this
          · rw [List.map_append]
            exact TA'.snoc ((tt4.same s3).but b4 at4 (fun ys => by intro h; cases h)) (b4 _ _ (ne_of e3 at4 (by intro h; cases h)) e3)
        · rw [if_neg hc]
          walk_at "go"
          refine w_rTyL L3.at_ ?_
          walk_at "go"
          intro t2 H3 ht2 s3 e3
          walk_at "go"
          have L4 := L3.same s3
          refine w_append L4.at_ (by rw [List.length_map, L4.len, List.length_map]; exact szlt (by omega)) fun H4 b4 e4 => ?_
          walk_at "go"
          refine ⟨(qs' ++ [ql]) ++ [t2], _, _, rfl, Same.but (sn.trans s3) hl b4, ?_⟩
          have := LT.snoc L4 e3 b4 (by rw [e4, List.map_append])
          rw [List.map_append]
          exact this
    · obtain ⟨qs, v2, v3, rfl, s, L2⟩ := p
      walk_at "go"
      rw [List.take_of_length_le (by rw [List.length_map]; exact Nat.le_refl _)] at L2
      exact q _ _ _ s hl L2
def ovl (f l : Int) (p : Int × Int) : Int := max 0 (min p.2 l - max p.1 f + 1)
def sp_turn_count_in : Sp := fun vs H Q _ => ∃ (a : Addr) (ps : List Addr) (ss : List (Int × Int)) (f l : Int), vs = [.ref a, .int f, .int l] ∧ LT H a ps (ss.map spanV) ∧ ss.length ≤ 1000 ∧ ∀ H', Same H H' → Q (.int ((ss.map (ovl f l)).sum)) H'
-- slots: 0 spans, 1 first, 2 last, 3 begin, 4 end
theorem sc_turn_count_in : FnScope ["spans", "first", "last", "begin", "end"] ["spans", "first", "last"] (defScope s_turn_count_in) := ⟨rfl, rfl, rfl, by decide +kernel, rfl, by decide +kernel, by decide +kernel⟩
theorem cd_turn_count_in (T : Tx K mg) : ∃ fd, Cd P w K mg base 1 (He.ga K "turn_count_in") ["spans", "first", "last"] sp_turn_count_in fd := by
  obtain ⟨fd, F⟩ := T.F_turn_count_in
  refine ⟨fd, F.ok sc_turn_count_in (fun vs H Q E h => ?_) (fun cdv A outer s H vs Q E hr h => ?_), FunD.bindsN F (fun _ _ _ _ _ _ us hl => match us, hl with | [_, _, _], _ => rfl), F.kp⟩
  · obtain ⟨a, ps, ss, f, l, rfl, _⟩ := h
    rfl
  · obtain ⟨a, ps, ss, f, l, rfl, L, hz, q⟩ := h
    refine ⟨_, PSs.nox (pss_one (ps_ret (pe_callB (cr_sum rfl) (by rfl) T.b_sum (by decide +kernel) (pa_cons (pe_lc (own := [("begin", 3), ("end", 4)]) (g := (gTup K 2 (gCons (gName 3) (gCons (gName 4) gNil)))) (tt := tYes) (by rfl) sc_turn_count_in.nd (pi_list (pv 0)) (blkOk_by (N := ["spans", "first", "last", "begin", "end"]) (sc := defScope s_turn_count_in) (by decide +kernel)) (fun _ _ _ _ _ => (pg_tup rfl (pgs_cons (pg_name (i := 3) sc_turn_count_in.nd rfl (Or.inl rfl)) (pgs_cons (pg_name (i := 4) sc_turn_count_in.nd rfl (Or.inl rfl)) pgs_nil)))) (fun _ _ _ _ _ => pts_nil) (fun _ _ _ _ _ => (pe_callB (c_max2 rfl) (by rfl) T.b_max (by decide +kernel) (pa_cons pe_int (pa_cons (pe_op op_add (pe_op op_sub (pe_callB (c_min2 rfl) (by rfl) T.b_min (by decide +kernel) (pa_cons (pv 4) (pa_cons (pv 2) pa_nil))) (pe_callB (c_max2 rfl) (by rfl) T.b_max (by decide +kernel) (pa_cons (pv 3) (pa_cons (pv 1) pa_nil)))) pe_int) pa_nil))))) pa_nil)))), ?_⟩
    walk_at "go"
    refine w_rIt L.at_ fun D hD => ?_
    refine lpc_LT L (fun p => .int (ovl f l p)) hD (by omega) (fun i q r H' N e e3 s1 h1 => ?_) (fun x H' N N' h k => mono_tup2 N N' h k) (fun H' s1 e => ?_)
    · walk_at "go"
      refine ⟨rfl, ?_⟩
      walk_at "go"
      exact h1 _ (Same.refl _)
    · walk_at "go"
      refine w_sum (ns := ss.map (ovl f l)) (by rw [e, List.map_map]; rfl) ?_
      exact q _ s1
structure Job where
  nm : Str
  fi : Int
  la : Int
  wk : Int
  br : Int
abbrev jobV (j : Job) : List V := [.str j.nm, .int j.fi, .int j.la, .int j.wk, .int j.br]
abbrev letters : Str := "abcdefghijklmnopqrstuvwxyz"
abbrev figures : Str := "0123456789"
structure NameOk (x : Str) : Prop where
  len : x.length ≤ 8
  hd : ∃ c, x.cps.toList[0]? = some c ∧ c ∈ letters.cps.toList
  all : ∀ c ∈ x.cps.toList, c ∈ letters.cps.toList ∨ c ∈ figures.cps.toList
structure NumOk (j : Job) : Prop where
  f0 : 0 ≤ j.fi
  f1 : j.fi ≤ 1000000000
  l0 : -1 ≤ j.la
  l1 : j.la ≤ 10000000000
  w0 : 1 ≤ j.wk
  w1 : j.wk ≤ 60
  b0 : 1 ≤ j.br
  b1 : j.br ≤ 16
  sp : j.la - j.fi ≤ 1000000
structure LoadOk (js : List Job) : Prop where
  len : js.length ≤ 12
  nm : ∀ j ∈ js, NameOk j.nm
  nd : (js.map (·.nm)).Nodup
  num : ∀ j ∈ js, NumOk j
def sp_is_within : Sp := fun vs H Q _ => ∃ (i a b : Int), vs = [.int i, .int a, .int b] ∧ (a ≤ i ∧ i ≤ b) ∧ Q (.bl true) H
-- slots: 0 thing, 1 low, 2 high
theorem sc_is_within : FnScope ["thing", "low", "high"] ["thing", "low", "high"] (defScope s_is_within) := ⟨rfl, rfl, rfl, by decide +kernel, rfl, by decide +kernel, by decide +kernel⟩
theorem cd_is_within (T : Tx K mg) : ∃ fd, Cd P w K mg base 2 (He.ga K "is_within") ["thing", "low", "high"] sp_is_within fd := by
  obtain ⟨fd, F⟩ := T.F_is_within
  obtain ⟨_, K_is_whole⟩ := cd_is_whole (P := P) (w := w) (base := base) T
  refine ⟨fd, F.ok sc_is_within (fun vs H Q E h => ?_) (fun cdv A outer s H vs Q E hr h => ?_), FunD.bindsN F (fun _ _ _ _ _ _ us hl => match us, hl with | [_, _, _], _ => rfl), F.kp⟩
  · obtain ⟨i, a, b, rfl, _⟩ := h
    rfl
  · obtain ⟨i, a, b, rfl, hb, q⟩ := h
    refine ⟨_, PSs.nox (pss_one (ps_ret (pe_and (pe_call K_is_whole.ok (hr.mono (by decide)) (by rfl) T.g_is_whole K_is_whole.kp K_is_whole.bn .nil pass0 (pa_cons (pv 0) pa_nil)) (pe_one (pe_chain op_le op_le (pv 1) (pv 0) (pv 2)))))), ?_⟩
    walk_at "go"
    refine ⟨_, rfl, ?_⟩
    walk_at "go"
    refine ifT hb.1 ?_
    walk_at "go"
    rw [decide_eq_true hb.2]
    exact q
def sp_has_numbers : Sp := fun vs H Q _ => ∃ (a : Addr) (j : Job), vs = [.ref a] ∧ H a = some (.tup (jobV j)) ∧ NumOk j ∧ Q (.bl true) H
-- slots: 0 job
theorem sc_has_numbers : FnScope ["job"] ["job"] (defScope s_has_numbers) := ⟨rfl, rfl, rfl, by decide +kernel, rfl, by decide +kernel, by decide +kernel⟩
theorem cd_has_numbers (T : Tx K mg) : ∃ fd, Cd P w K mg base 3 (He.ga K "has_numbers") ["job"] sp_has_numbers fd := by
  obtain ⟨fd, F⟩ := T.F_has_numbers
  obtain ⟨_, K_is_within⟩ := cd_is_within (P := P) (w := w) (base := base) T
  refine ⟨fd, F.ok sc_has_numbers (fun vs H Q E h => ?_) (fun cdv A outer s H vs Q E hr h => ?_), FunD.bindsN F (fun _ _ _ _ _ _ us hl => match us, hl with | [_], _ => rfl), F.kp⟩
  · obtain ⟨a, j, rfl, _⟩ := h
    rfl
  · obtain ⟨a, j, rfl, h1, O, q⟩ := h
    refine ⟨_, PSs.nox (pss_cons (ps_if (PW.pt (pw_or (pt_not (pt_val (pe_call K_is_within.ok (hr.mono (by decide)) (by rfl) T.g_is_within K_is_within.kp K_is_within.bn .nil pass0 (pa_cons (pe_ix ix_tup (pv 0) pe_int (fun _ _ => rfl)) (pa_cons pe_int (pa_cons (pe_gi (by rfl) T.i_MOST_FIRST) pa_nil)))))) (pw_or1 (pt_not (pt_val (pe_call K_is_within.ok (hr.mono (by decide)) (by rfl) T.g_is_within K_is_within.kp K_is_within.bn .nil pass0 (pa_cons (pe_ix ix_tup (pv 0) pe_int (fun _ _ => rfl)) (pa_cons (pe_un un_neg pe_int) (pa_cons (pe_gi (by rfl) T.i_MOST_LAST) pa_nil))))))))) (pss_one (ps_ret pe_bl)) pss_nil)
      (pss_one (ps_ret (pe_and (pe_call K_is_within.ok (hr.mono (by decide)) (by rfl) T.g_is_within K_is_within.kp K_is_within.bn .nil pass0 (pa_cons (pe_ix ix_tup (pv 0) pe_int (fun _ _ => rfl)) (pa_cons pe_int (pa_cons (pe_gi (by rfl) T.i_MOST_WORK) pa_nil)))) (pe_one (pe_call K_is_within.ok (hr.mono (by decide)) (by rfl) T.g_is_within K_is_within.kp K_is_within.bn .nil pass0 (pa_cons (pe_ix ix_tup (pv 0) pe_int (fun _ _ => rfl)) (pa_cons pe_int (pa_cons (pe_gi (by rfl) T.i_MOST_BREADTH) pa_nil))))))))), ?_⟩
    walk_at "go"
    refine ⟨_, _, _, rfl, ⟨O.f0, O.f1⟩, ?_⟩
    walk_at "go"
    refine ⟨_, _, _, rfl, ⟨O.l0, O.l1⟩, ?_⟩
    walk_at "go"
    refine ⟨_, _, _, rfl, ⟨O.w0, O.w1⟩, ?_⟩
    walk_at "go"
    exact ⟨_, _, _, rfl, ⟨O.b0, O.b1⟩, q⟩
def sp_turns_of : Sp := fun vs H Q _ => ∃ (a : Addr) (j : Job), vs = [.ref a] ∧ H a = some (.tup (jobV j)) ∧ Q (.int (max 0 (j.la - j.fi + 1))) H
-- slots: 0 job
theorem sc_turns_of : FnScope ["job"] ["job"] (defScope s_turns_of) := ⟨rfl, rfl, rfl, by decide +kernel, rfl, by decide +kernel, by decide +kernel⟩
theorem cd_turns_of (T : Tx K mg) : ∃ fd, Cd P w K mg base 1 (He.ga K "turns_of") ["job"] sp_turns_of fd := by
  obtain ⟨fd, F⟩ := T.F_turns_of
  refine ⟨fd, F.ok sc_turns_of (fun vs H Q E h => ?_) (fun cdv A outer s H vs Q E hr h => ?_), FunD.bindsN F (fun _ _ _ _ _ _ us hl => match us, hl with | [_], _ => rfl), F.kp⟩
  · obtain ⟨a, j, rfl, _⟩ := h
    rfl
  · obtain ⟨a, j, rfl, h1, q⟩ := h
    refine ⟨_, PSs.nox (pss_one (ps_ret (pe_callB (c_max2 rfl) (by rfl) T.b_max (by decide +kernel) (pa_cons pe_int (pa_cons (pe_op op_add (pe_op op_sub (pe_ix ix_tup (pv 0) pe_int (fun _ _ => rfl)) (pe_ix ix_tup (pv 0) pe_int (fun _ _ => rfl))) pe_int) pa_nil))))), ?_⟩
    walk_at "go"
    exact q
def sp_within : Sp := fun vs H Q _ => ∃ (a b : Addr) (j : Job) (ps : List Addr) (ss : List (Int × Int)), vs = [.ref a, .ref b] ∧ H a = some (.tup (jobV j)) ∧ LT H b ps (ss.map spanV) ∧ ss.length ≤ 1000 ∧ ∀ H', Same H H' → Q (.int ((ss.map (ovl j.fi j.la)).sum)) H'
-- slots: 0 job, 1 spans
theorem sc_within : FnScope ["job", "spans"] ["job", "spans"] (defScope s_within) := ⟨rfl, rfl, rfl, by decide +kernel, rfl, by decide +kernel, by decide +kernel⟩
theorem cd_within (T : Tx K mg) : ∃ fd, Cd P w K mg base 2 (He.ga K "within") ["job", "spans"] sp_within fd := by
  obtain ⟨fd, F⟩ := T.F_within
  obtain ⟨_, K_turn_count_in⟩ := cd_turn_count_in (P := P) (w := w) (base := base) T
  refine ⟨fd, F.ok sc_within (fun vs H Q E h => ?_) (fun cdv A outer s H vs Q E hr h => ?_), FunD.bindsN F (fun _ _ _ _ _ _ us hl => match us, hl with | [_, _], _ => rfl), F.kp⟩
  · obtain ⟨a, b, j, ps, ss, rfl, _⟩ := h
    rfl
  · obtain ⟨a, b, j, ps, ss, rfl, h1, L, hz, q⟩ := h
    refine ⟨_, PSs.nox (pss_one (ps_ret (pe_call K_turn_count_in.ok (hr.mono (by decide)) (by rfl) T.g_turn_count_in K_turn_count_in.kp K_turn_count_in.bn .nil pass0 (pa_cons (pv 1) (pa_cons (pe_ix ix_tup (pv 0) pe_int (fun _ _ => rfl)) (pa_cons (pe_ix ix_tup (pv 0) pe_int (fun _ _ => rfl)) pa_nil)))))), ?_⟩
    walk_at "go"
    exact ⟨_, _, _, _, _, rfl, L, hz, q⟩
def outs (j : Job) (ss : List (Int × Int)) : Int := max 0 (j.la - j.fi + 1) - (ss.map (ovl j.fi j.la)).sum
def exc (j : Job) (ss : List (Int × Int)) : Int := max 0 (j.wk - j.br * outs j ss)
def sp_outside : Sp := fun vs H Q _ => ∃ (a b : Addr) (j : Job) (ps : List Addr) (ss : List (Int × Int)), vs = [.ref a, .ref b] ∧ H a = some (.tup (jobV j)) ∧ LT H b ps (ss.map spanV) ∧ ss.length ≤ 1000 ∧ ∀ H', Same H H' → Q (.int (outs j ss)) H'
-- slots: 0 job, 1 spans
theorem sc_outside : FnScope ["job", "spans"] ["job", "spans"] (defScope s_outside) := ⟨rfl, rfl, rfl, by decide +kernel, rfl, by decide +kernel, by decide +kernel⟩
theorem cd_outside (T : Tx K mg) : ∃ fd, Cd P w K mg base 3 (He.ga K "outside") ["job", "spans"] sp_outside fd := by
  obtain ⟨fd, F⟩ := T.F_outside
  obtain ⟨_, K_turns_of⟩ := cd_turns_of (P := P) (w := w) (base := base) T
  obtain ⟨_, K_within⟩ := cd_within (P := P) (w := w) (base := base) T
  refine ⟨fd, F.ok sc_outside (fun vs H Q E h => ?_) (fun cdv A outer s H vs Q E hr h => ?_), FunD.bindsN F (fun _ _ _ _ _ _ us hl => match us, hl with | [_, _], _ => rfl), F.kp⟩
  · obtain ⟨a, b, j, ps, ss, rfl, _⟩ := h
    rfl
  · obtain ⟨a, b, j, ps, ss, rfl, h1, L, hz, q⟩ := h
    refine ⟨_, PSs.nox (pss_one (ps_ret (pe_op op_sub (pe_call K_turns_of.ok (hr.mono (by decide)) (by rfl) T.g_turns_of K_turns_of.kp K_turns_of.bn .nil pass0 (pa_cons (pv 0) pa_nil)) (pe_call K_within.ok (hr.mono (by decide)) (by rfl) T.g_within K_within.kp K_within.bn .nil pass0 (pa_cons (pv 0) (pa_cons (pv 1) pa_nil)))))), ?_⟩
    walk_at "go"
    refine ⟨_, _, rfl, h1, ?_⟩
    walk_at "go"
    refine ⟨_, _, _, _, _, rfl, h1, L, hz, fun H' s => ?_⟩
    walk_at "go"
    exact q _ s
def sp_excess : Sp := fun vs H Q _ => ∃ (a b : Addr) (j : Job) (ps : List Addr) (ss : List (Int × Int)), vs = [.ref a, .ref b] ∧ H a = some (.tup (jobV j)) ∧ NumOk j ∧ LT H b ps (ss.map spanV) ∧ ss.length ≤ 1000 ∧ ∀ H', Same H H' → Q (.int (exc j ss)) H'
-- slots: 0 job, 1 spans
theorem sc_excess : FnScope ["job", "spans"] ["job", "spans"] (defScope s_excess) := ⟨rfl, rfl, rfl, by decide +kernel, rfl, by decide +kernel, by decide +kernel⟩
theorem cd_excess (T : Tx K mg) : ∃ fd, Cd P w K mg base 4 (He.ga K "excess") ["job", "spans"] sp_excess fd := by
  obtain ⟨fd, F⟩ := T.F_excess
  obtain ⟨_, K_outside⟩ := cd_outside (P := P) (w := w) (base := base) T
  refine ⟨fd, F.ok sc_excess (fun vs H Q E h => ?_) (fun cdv A outer s H vs Q E hr h => ?_), FunD.bindsN F (fun _ _ _ _ _ _ us hl => match us, hl with | [_, _], _ => rfl), F.kp⟩
  · obtain ⟨a, b, j, ps, ss, rfl, _⟩ := h
    rfl
  · obtain ⟨a, b, j, ps, ss, rfl, h1, O, L, hz, q⟩ := h
    refine ⟨_, PSs.nox (pss_one (ps_ret (pe_callB (c_max2 rfl) (by rfl) T.b_max (by decide +kernel) (pa_cons pe_int (pa_cons (pe_op op_sub (pe_ix ix_tup (pv 0) pe_int (fun _ _ => rfl)) (pe_op op_mul (pe_ix ix_tup (pv 0) pe_int (fun _ _ => rfl)) (pe_call K_outside.ok (hr.mono (by decide)) (by rfl) T.g_outside K_outside.kp K_outside.bn .nil pass0 (pa_cons (pv 0) (pa_cons (pv 1) pa_nil))))) pa_nil))))), ?_⟩
    walk_at "go"
    refine ⟨_, _, _, _, _, rfl, h1, L, hz, fun H' s => ?_⟩
    walk_at "go"
    refine w_I (.inl ⟨by have := O.b0; omega, by have := O.b1; omega⟩) ?_
    walk_at "go"
    exact q _ s

end
end Due

set_option Elab.async false
set_option linter.all false
set_option maxRecDepth 100000
set_option maxHeartbeats 4000000
namespace Due
open PySem PySem.Spec PyProof.Rows L2
local macro_rules | `(tactic| walk_at "v") => `(tactic| ((with_reducible refine' w_var ?hv ?_); (case hv => exact rfl)))
local macro_rules | `(tactic| walk_at "go1") => `(tactic| first
  | with_reducible refine' w_seq ?_ | with_reducible refine' w_asg ?_ | with_reducible refine' w_name ?_ | with_reducible refine' w_ret ?_ | with_reducible refine' w_drop ?_ | with_reducible refine' w_ifs ?_ | with_reducible refine' w_next ?_ | with_reducible refine' w_retN ?_ | with_reducible refine' w_cont ?_
  | ((with_reducible refine' w_var ?hv ?_); (case hv => exact rfl)) | with_reducible refine' w_c ?_ | with_reducible refine' w_op ?_ | with_reducible refine' w_un ?_ | with_reducible refine' w_I0 ?_ | with_reducible refine' w_U ?_ | with_reducible refine' w_cmp ?_
  | ((with_reducible refine' w_eq ?hv ?_); (case hv => exact rfl)) | ((with_reducible refine' w_ne ?hv ?_); (case hv => exact rfl))
  | with_reducible refine' iteT ?_ | with_reducible refine' iteF ?_ | with_reducible refine' iteNT ?_ | with_reducible refine' iteNF ?_ | with_reducible refine' w_chain3 ?_ | with_reducible refine' w_augS ?_ | with_reducible refine' w_gsub ?_
  | with_reducible refine' w_isN ?_ | with_reducible refine' w_notN ?_ | with_reducible refine' w_rBl ?_ | with_reducible refine' w_B ?_ | with_reducible refine' w_test ?_ | with_reducible refine' w_and ?_ | with_reducible refine' w_or ?_ | with_reducible refine' w_not ?_
  | with_reducible refine' w_andV ?_ | with_reducible refine' w_orV ?_ | with_reducible refine' w_notV ?_ | with_reducible refine' w_chain ?_ | with_reducible refine' w_fld ?_ | with_reducible refine' w_sfld ?_ | with_reducible refine' w_nil ?_ | with_reducible refine' w_cons ?_
  | with_reducible refine' w_call ?_ | with_reducible refine' w_meth ?_ | with_reducible refine' w_make ?_ | with_reducible refine' w_CB ?_ | with_reducible refine' w_BM0 ?_ | with_reducible refine' w_BM ?_ | with_reducible refine' w_tup ?_ | with_reducible refine' w_lst ?_
  | with_reducible refine' w_for ?_ | with_reducible refine' w_iList ?_ | with_reducible refine' w_iTup ?_ | with_reducible refine' w_lc ?_ | with_reducible refine' w_yes ?_ | with_reducible refine' w_max2 ?_ | with_reducible refine' w_min2 ?_ | with_reducible refine' w_ipI ?_ | with_reducible refine' w_gcons ?_ | with_reducible refine' w_gnil ?_
  | ((with_reducible refine' w_aug ?hv ?_); (case hv => exact rfl))
  | ((with_reducible refine' w_gtup ?hv ?hn ?_); (case hv => assumption); (case hn => exact rfl))
  | ((with_reducible refine' w_ixT ?hv ?ha ?_); (case hv => assumption); (case ha => exact rfl))
  | ((with_reducible refine' w_newT ?hv ?_); (case hv => exact Nat.le_of_ble_eq_true rfl))
  | ((with_reducible refine' w_newL ?hv ?_); (case hv => exact Nat.le_of_ble_eq_true rfl)))
local macro_rules | `(tactic| walk_at "go") => `(tactic| repeat' walk_at "go1")
section
variable {P : Program} {w : World} {K : PySem.W.Frag} {mg : Str → Option Value} {base : Heap}
def rStrI (v : V) (H : Hp) (R : It → Hp → Prop) : Prop := ∃ x, v = .str x ∧ R (Its x) H
theorem w_iStr {σ : L2.St} {H : Hp} {te : TE} {R : It → Hp → Prop} (h : te σ H fun v H1 => rStrI v H1 R) : iStr te σ H R := h
theorem w_rStrI {H : Hp} {x : Str} {R : It → Hp → Prop} (h : R (Its x) H) : rStrI (.str x) H R := ⟨x, rfl, h⟩
def sp_is_name : Sp := fun vs H Q _ => ∃ (x : Str), vs = [.str x] ∧ NameOk x ∧ Q (.bl true) H
-- slots: 0 thing, 1 sign
theorem sc_is_name : FnScope ["thing", "sign"] ["thing"] (defScope s_is_name) := ⟨rfl, rfl, rfl, by decide +kernel, rfl, by decide +kernel, by decide +kernel⟩
theorem cd_is_name (T : Tx K mg) : ∃ fd, Cd P w K mg base 1 (He.ga K "is_name") ["thing"] sp_is_name fd := by
  obtain ⟨fd, F⟩ := T.F_is_name
  refine ⟨fd, F.ok sc_is_name (fun vs H Q E h => ?_) (fun cdv A outer s H vs Q E hr h => ?_), FunD.bindsN F (fun _ _ _ _ _ _ us hl => match us, hl with | [_], _ => rfl), F.kp⟩
  · obtain ⟨x, rfl, _⟩ := h
    rfl
  · obtain ⟨x, rfl, O, q⟩ := h
    refine ⟨_, PSs.nox (pss_cons (ps_if (PW.pt (pw_or (pt_not (pt_val (pe_callB call_isi (by rfl) T.b_isinstance (by decide +kernel) (pa_cons (pv 0) (pa_cons (pe_bltn (by rfl) T.b_str (by decide +kernel) (v := .ty "str") rfl) pa_nil))))) (pw_or1 (pt_not (pt_chain op_le op_le pe_int (pe_callB call_len_str (by rfl) T.b_len (by decide +kernel) (pa_cons (pv 0) pa_nil)) pe_int))))) (pss_one (ps_ret pe_bl)) pss_nil)
      (pss_cons (ps_if (pt_cmpR op_notIn_sign (pe_ix ix_str (pv 0) pe_int (fun _ _ => rfl)) (pe_gs (by rfl) T.t_LETTERS) rfl) (pss_one (ps_ret pe_bl)) pss_nil)
      (pss_cons (ps_for PassesOwn.never rfl (pi_str (pv 0)) (pg_name (i := 1) sc_is_name.nd rfl (Or.inl rfl)) (pss_one (ps_if (PW.pt (pw_and (pt_cmpR op_notIn_sign (pv 1) (pe_gs (by rfl) T.t_LETTERS) rfl) (pw_and1 (pt_cmpR op_notIn_sign (pv 1) (pe_gs (by rfl) T.t_FIGURES) rfl)))) (pss_one (ps_ret pe_bl)) pss_nil)))
      (pss_one (ps_ret pe_bl))))), ?_⟩
    walk_at "go"
    obtain ⟨c, hc, hm⟩ := O.hd
    have h1 : 1 ≤ x.length := by
      have := (List.getElem?_eq_some_iff.mp hc).1
      rw [Array.length_toList] at this
      exact this
    refine w_isi (b := true) (.str _) (by decide +kernel) ?_
    walk_at "go"
    refine ⟨_, rfl, szl (by have := O.len; omega), ?_⟩
    walk_at "go"
    refine ifT (by omega) ?_
    walk_at "go"
    have h8 := O.len
    rw [decide_eq_true (show (x.length : Int) ≤ 8 by omega)]
    walk_at "go"
    refine ⟨x, 0, c, rfl, rfl, szl (by omega), ?_, ?_⟩
    · exact atI_nat (j := 0) hc
    walk_at "go"
    refine ⟨c, letters, rfl, rfl, ?_⟩
    walk_at "go"
    refine ifnF hm ?_
    walk_at "go"
    refine w_iStr ?_
    walk_at "go"
    refine w_rStrI ?_
    refine lp_walk walk_str (fun i σ H' => H' = H ∧ ∃ v, σ = [some (.str x), v]) ⟨rfl, none, rfl⟩ (fun _ _ _ _ _ => trivial) (fun i y σ H1 H2 hi p e => ?_) (fun σ H' p => ?_)
    · obtain ⟨rfl, v, rfl⟩ := p
      obtain ⟨rfl, d, hd, rfl⟩ := e
      have hd2 : d ∈ x.cps.toList := Array.mem_toList_iff.mpr (Array.mem_of_getElem? hd)
      walk_at "go"
      refine ⟨d, letters, rfl, rfl, ?_⟩
      walk_at "go"
      refine ifnD (fun hn => ?_) (fun hn => ?_)
      · walk_at "go"
        refine ⟨d, figures, rfl, rfl, ?_⟩
        walk_at "go"
        refine ifnF ?_ ?_
        · rcases O.all d hd2 with h | h
          · exact absurd h hn
          · exact h
        walk_at "go"
        exact ⟨rfl, _, rfl⟩
      · walk_at "go"
        exact ⟨rfl, _, rfl⟩
    · obtain ⟨rfl, v, rfl⟩ := p
      walk_at "go"
      exact q
theorem not_in_take {α β : Type} {f : α → β} : ∀ {l : List α} {i : Nat} {a : α}, (l.map f).Nodup → l[i]? = some a → f a ∉ (l.take i).map f
  | [], _, _, _, h => by simp at h
  | x :: r, 0, a, _, h => by simp
  | x :: r, i + 1, a, hN, h => by
    rw [List.map_cons, List.nodup_cons] at hN
    have h2 : r[i]? = some a := by simpa using h
    rw [List.take_succ_cons, List.map_cons, List.mem_cons]
    rintro (e | e)
    · exact hN.1 (by rw [← e]; exact List.mem_map.mpr ⟨a, List.mem_of_getElem? h2, rfl⟩)
    · exact not_in_take hN.2 h2 e
theorem inV_str {n : Str} : ∀ {ns : List Str}, n ∉ ns → inV (.str n) (ns.map V.str) = false
  | [], _ => rfl
  | m :: r, h => by
    have h1 : ¬ m = n := fun e => h (by rw [e]; exact List.mem_cons_self)
    have h2 := inV_str (n := n) (ns := r) fun e => h (List.mem_cons_of_mem _ e)
    show (m == n || inV (.str n) (r.map V.str)) = false
    rw [h2, beq_eq_false_iff_ne.mpr h1]; rfl
theorem all_flat_str : ∀ (ns : List Str), (ns.map V.str).all flatV = true
  | [] => rfl
  | _ :: r => all_flat_str r
def sp_check_load : Sp := fun vs H Q _ => ∃ (a : Addr) (ps : List Addr) (js : List Job), vs = [.ref a] ∧ LT H a ps (js.map jobV) ∧ LoadOk js ∧ ∀ H', Same H H' → Q (.bl true) H'
-- slots: 0 load, 1 known, 2 job
theorem sc_check_load : FnScope ["load", "known", "job"] ["load"] (defScope s_check_load) := ⟨rfl, rfl, rfl, by decide +kernel, rfl, by decide +kernel, by decide +kernel⟩
theorem cd_check_load (T : Tx K mg) : ∃ fd, Cd P w K mg base 4 (He.ga K "check_load") ["load"] sp_check_load fd := by
  obtain ⟨fd, F⟩ := T.F_check_load
  obtain ⟨_, K_has_numbers⟩ := cd_has_numbers (P := P) (w := w) (base := base) T
  obtain ⟨_, K_is_name⟩ := cd_is_name (P := P) (w := w) (base := base) T
  refine ⟨fd, F.ok sc_check_load (fun vs H Q E h => ?_) (fun cdv A outer s H vs Q E hr h => ?_), FunD.bindsN F (fun _ _ _ _ _ _ us hl => match us, hl with | [_], _ => rfl), F.kp⟩
  · obtain ⟨a, ps, js, rfl, _⟩ := h
    rfl
  · obtain ⟨a, ps, js, rfl, L, O, q⟩ := h
    refine ⟨_, PSs.nox (pss_cons (ps_if (pt_cmpR op_gt (pe_callB c_len (by rfl) T.b_len (by decide +kernel) (pa_cons (pv 0) pa_nil)) (pe_gi (by rfl) T.i_MOST_JOBS) (nomark _)) (pss_one ps_never) pss_nil)
      (pss_cons (ps_set (i := 1) sc_check_load.nd rfl (Or.inl rfl) (pe_lst pa_nil))
      (pss_cons (ps_for PassesOwn.never rfl (pi_list (pv 0)) (pg_name (i := 2) sc_check_load.nd rfl (Or.inl rfl)) (pss_cons (ps_if (pt_not (pt_val (pe_call K_is_name.ok (hr.mono (by decide)) (by rfl) T.g_is_name K_is_name.kp K_is_name.bn .nil pass0 (pa_cons (pe_ix ix_tup (pv 2) pe_int (fun _ _ => rfl)) pa_nil)))) (pss_one ps_never) pss_nil)
      (pss_cons (ps_if (pt_cmpR op_in_seq (pe_ix ix_tup (pv 2) pe_int (fun _ _ => rfl)) (pv 1) rfl) (pss_one ps_never) pss_nil)
      (pss_cons (ps_if (pt_not (pt_val (pe_call K_has_numbers.ok (hr.mono (by decide)) (by rfl) T.g_has_numbers K_has_numbers.kp K_has_numbers.bn .nil pass0 (pa_cons (pv 2) pa_nil)))) (pss_one ps_never) pss_nil)
      (pss_one (ps_expr (pe_bm PySem.F.plainAttrs_list PySem.F.slot_list_append PySem.F.type_list_append mt_append (pv 1) (pa_cons (pe_ix ix_tup (pv 2) pe_int (fun _ _ => rfl)) pa_nil))))))))
      (pss_one (ps_ret pe_bl))))), ?_⟩
    walk_at "go"
    refine w_lenL L.at_ ?_
    walk_at "go"
    refine ifF (by rw [List.length_map, L.len, List.length_map]; have := O.len; omega) ?_
    walk_at "go"
    intro l H1 hl s1 e1
    walk_at "go"
    refine w_rIt (s1 _ _ L.at_) ?_
    refine lp_LT (ps := ps) (rs := js.map jobV) (fun i σ H' => ∃ v2, σ = [some (.ref a), some (.ref l), v2] ∧ Same H H' ∧ H' l = some (.lst ((js.take i).map fun j => .str j.nm))) ⟨none, rfl, s1, e1⟩ (fun i σ H' hi p => ?_) (fun i q' r σ H' hi hp hr hq p => ?_) (fun σ H' p => ?_)
    · obtain ⟨v2, rfl, s, _⟩ := p
      exact L.same s
    · obtain ⟨v2, rfl, s, el⟩ := p
      obtain ⟨j, ej, rfl⟩ := map_get hr
      have hj : j ∈ js := List.mem_of_getElem? ej
      rw [List.length_map] at hi
      walk_at "go"
      refine ⟨_, rfl, O.nm j hj, ?_⟩
      walk_at "go"
      refine ⟨l, _, rfl, .inl (SqL.of el), rfl, by rw [show (fun j : Job => V.str j.nm) = V.str ∘ Job.nm from rfl, ← List.map_map]; exact all_flat_str _, ?_⟩
      have hin : inV (.str j.nm) ((js.take i).map fun j => V.str j.nm) = false := by
        rw [show (fun j : Job => V.str j.nm) = V.str ∘ Job.nm from rfl, ← List.map_map]
        exact inV_str (not_in_take O.nd ej)
      rw [hin]
      refine w_rBl ?_
      refine iteF ?_
      walk_at "go"
      refine ⟨_, _, rfl, hq, O.num j hj, ?_⟩
      walk_at "go"
      refine w_rTyL el ?_
      walk_at "go"
      refine w_append el (szlt (by rw [List.length_map, List.length_take]; have := O.len; omega)) fun H4 b4 e4 => ?_
      walk_at "go"
      refine ⟨_, rfl, Same.but s hl b4, ?_⟩
      rw [e4, take_succ_of ej, List.map_append]; rfl
    · obtain ⟨v2, rfl, s, el⟩ := p
      walk_at "go"
      exact q _ s

end
end Due

set_option Elab.async false
set_option linter.all false
set_option maxRecDepth 100000
set_option maxHeartbeats 4000000
namespace Due
open PySem PySem.Spec PyProof.Rows L2
section
variable {σ : L2.St} {H : Hp} {Q : VK} {to te : TE}
def rM1 (r : V → List V → Hp → VK → Prop) (te : TE) (σ : L2.St) (x : V) (H1 : Hp) (Q : VK) : Prop := (∃ a, x = .str a) ∧ te σ H1 fun y H2 => r x [y] H2 Q
theorem w_m1 {r : V → List V → Hp → VK → Prop} (h : to σ H fun x H1 => rM1 r te σ x H1 Q) : tM1 r to te σ H Q := h
theorem w_rM1 {r : V → List V → Hp → VK → Prop} {a : Str} (h : te σ H fun y H2 => r (.str a) [y] H2 Q) : rM1 r te σ (.str a) H Q := ⟨⟨a, rfl⟩, h⟩
end
theorem sgn_letter {i : Int} (h0 : 0 ≤ i) (h1 : i < 26) : sgn i ∈ letters.cps.toList := by
  have h : ∀ n, n < 26 → signsS.cps.toList.getD n 0 ∈ letters.cps.toList := by decide +kernel
  exact h i.toNat (by omega)
theorem sgn_all {i : Int} (h0 : 0 ≤ i) (h1 : i < 36) : sgn i ∈ letters.cps.toList ∨ sgn i ∈ figures.cps.toList := by
  have h : ∀ n, n < 36 → (signsS.cps.toList.getD n 0 ∈ letters.cps.toList ∨ signsS.cps.toList.getD n 0 ∈ figures.cps.toList) := by decide +kernel
  exact h i.toNat (by omega)
theorem emp_str : (Str.ofString "" : Str) = ⟨#[]⟩ := by decide +kernel
theorem tl_app (x y : Str) : (x ++ y).cps.toList = x.cps.toList ++ y.cps.toList := TL.tl_append x y
theorem len_cps (x : Str) : x.length = x.cps.toList.length := TL.len_tl x
theorem tl_cut_to (z : Str) (k : Nat) : (cutS z none (some (k : Int))).cps.toList = z.cps.toList.take k := by
  show (z.cps.toList.drop (HT.sIx z.length 0 none)).take (HT.sIx z.length z.length (some (k : Int)) - HT.sIx z.length 0 none) = _
  rw [HT.sIx_none, HT.sIx_nat, List.drop_zero, Nat.sub_zero, len_cps, ← List.take_eq_take_min]
theorem tl_cut_from (z : Str) (k : Nat) : (cutS z (some (k : Int)) none).cps.toList = z.cps.toList.drop k := by
  show (z.cps.toList.drop (HT.sIx z.length 0 (some (k : Int)))).take (HT.sIx z.length z.length none - HT.sIx z.length 0 (some (k : Int))) = _
  rw [HT.sIx_none, HT.sIx_nat, len_cps]
  by_cases h : k ≤ z.cps.toList.length
  · rw [Nat.min_eq_left h, List.take_of_length_le (by rw [List.length_drop]; exact Nat.le_refl _)]
  · rw [Nat.min_eq_right (by omega), List.drop_of_length_le (Nat.le_refl _), List.drop_of_length_le (by omega)]; simp
theorem nameOk_of {x : Str} {f : Nat} {L : List Nat} (h : x.cps.toList = f :: L) (hf : f ∈ letters.cps.toList) (hL : ∀ c ∈ L, c ∈ letters.cps.toList ∨ c ∈ figures.cps.toList) (hl : L.length ≤ 7) : NameOk x where
  len := by rw [len_cps, h, List.length_cons]; omega
  hd := ⟨f, by rw [h]; rfl, hf⟩
  all := fun c hc => by
    rw [h] at hc
    rcases List.mem_cons.mp hc with rfl | hc
    · exact .inl hf
    · exact hL c hc
def nmA (f : Nat) (base : Str) (k : Nat) : Str := (⟨#[f]⟩ : Str) ++ cutS base none (some (k : Int))
def nmB (f : Nat) (base : Str) (a : Nat) (s : Nat) : Str := (((⟨#[f]⟩ : Str) ++ cutS base none (some (a : Int))) ++ (⟨#[s]⟩ : Str)) ++ cutS base (some ((a + 1 : Nat) : Int)) none
theorem nmA_tl (f : Nat) (base : Str) (k : Nat) : (nmA f base k).cps.toList = f :: base.cps.toList.take k := by
  unfold nmA
  rw [tl_app, tl_cut_to]; rfl
theorem nmB_tl (f : Nat) (base : Str) (a s : Nat) : (nmB f base a s).cps.toList = f :: (base.cps.toList.take a ++ s :: base.cps.toList.drop (a + 1)) := by
  unfold nmB
  rw [tl_app, tl_app, tl_app, tl_cut_to, tl_cut_from]
  show ([f] ++ _ ++ [s]) ++ _ = _
  simp
theorem names_A {f : Nat} {base : Str} (hf : f ∈ letters.cps.toList) (hB : ∀ c ∈ base.cps.toList, c ∈ letters.cps.toList ∨ c ∈ figures.cps.toList) (hl : base.cps.toList.length = 7) {n : Nat} (hn : n ≤ 8) :
    (∀ x ∈ (List.range n).map (nmA f base), NameOk x) ∧ ((List.range n).map (nmA f base)).Nodup := by
  refine ⟨fun x hx => ?_, ?_⟩
  · obtain ⟨k, hk, rfl⟩ := List.mem_map.mp hx
    refine nameOk_of (nmA_tl f base k) hf (fun c hc => hB c (List.mem_of_mem_take hc)) ?_
    rw [List.length_take]; omega
  · refine List.Pairwise.map _ (fun a b h => h) (List.Pairwise.imp_of_mem (fun {a b} ha hb hab e => ?_) (List.pairwise_lt_range (n := n)))
    have ha := List.mem_range.mp ha
    have hb := List.mem_range.mp hb
    have := congrArg (fun x : Str => x.cps.toList.length) e
    simp only [nmA_tl, List.length_cons, List.length_take, hl] at this
    omega
theorem names_B {f : Nat} {base : Str} (hf : f ∈ letters.cps.toList) (hB : ∀ c ∈ base.cps.toList, c ∈ letters.cps.toList ∨ c ∈ figures.cps.toList) (hl : base.cps.toList.length = 7) {a : Nat} (ha : a < 7) {cell : Int} {n : Nat} (hn : n ≤ 12) :
    (∀ x ∈ (List.range n).map (fun k : Nat => nmB f base a (sgn ((cell + 7 * (k : Int)) % 36))), NameOk x) ∧ ((List.range n).map (fun k : Nat => nmB f base a (sgn ((cell + 7 * (k : Int)) % 36)))).Nodup := by
  refine ⟨fun x hx => ?_, ?_⟩
  · obtain ⟨k, hk, rfl⟩ := List.mem_map.mp hx
    refine nameOk_of (nmB_tl f base a _) hf (fun c hc => ?_) ?_
    · rcases List.mem_append.mp hc with hc | hc
      · exact hB c (List.mem_of_mem_take hc)
      · rcases List.mem_cons.mp hc with rfl | hc
        · exact sgn_all (by omega) (by omega)
        · exact hB c (List.mem_of_mem_drop hc)
    · rw [List.length_append, List.length_cons, List.length_take, List.length_drop]; omega
  · refine List.Pairwise.map _ (fun a b h => h) (List.Pairwise.imp_of_mem (fun {x y} hx hy hxy e => ?_) (List.pairwise_lt_range (n := n)))
    have hx := List.mem_range.mp hx
    have hy := List.mem_range.mp hy
    have := congrArg (fun x : Str => x.cps.toList[a + 1]?) e
    simp only [nmB_tl, List.getElem?_cons_succ] at this
    have ht : (base.cps.toList.take a).length = a := by rw [List.length_take]; omega
    rw [List.getElem?_append_right (by omega), List.getElem?_append_right (by omega), ht, Nat.sub_self] at this
    have := sgn_inj (by omega) (by omega) (by omega) (by omega) (Option.some.inj this)
    omega
end Due

set_option Elab.async false
set_option linter.all false
set_option maxRecDepth 100000
set_option maxHeartbeats 4000000
namespace Due
open PySem PySem.Spec PyProof.Rows L2
local macro_rules | `(tactic| walk_at "v") => `(tactic| ((with_reducible refine' w_var ?hv ?_); (case hv => exact rfl)))
local macro_rules | `(tactic| walk_at "go1") => `(tactic| first
  | with_reducible refine' w_seq ?_ | with_reducible refine' w_asg ?_ | with_reducible refine' w_name ?_ | with_reducible refine' w_ret ?_ | with_reducible refine' w_drop ?_ | with_reducible refine' w_ifs ?_ | with_reducible refine' w_next ?_ | with_reducible refine' w_retN ?_ | with_reducible refine' w_cont ?_
  | ((with_reducible refine' w_var ?hv ?_); (case hv => exact rfl)) | with_reducible refine' w_c ?_ | with_reducible refine' w_op ?_ | with_reducible refine' w_un ?_ | with_reducible refine' w_I0 ?_ | with_reducible refine' w_U ?_ | with_reducible refine' w_cmp ?_
  | ((with_reducible refine' w_eq ?hv ?_); (case hv => exact rfl)) | ((with_reducible refine' w_ne ?hv ?_); (case hv => exact rfl))
  | with_reducible refine' iteT ?_ | with_reducible refine' iteF ?_ | with_reducible refine' iteNT ?_ | with_reducible refine' iteNF ?_ | with_reducible refine' w_chain3 ?_ | with_reducible refine' w_augS ?_ | with_reducible refine' w_gsub ?_
  | with_reducible refine' w_isN ?_ | with_reducible refine' w_notN ?_ | with_reducible refine' w_rBl ?_ | with_reducible refine' w_B ?_ | with_reducible refine' w_test ?_ | with_reducible refine' w_and ?_ | with_reducible refine' w_or ?_ | with_reducible refine' w_not ?_
  | with_reducible refine' w_andV ?_ | with_reducible refine' w_orV ?_ | with_reducible refine' w_notV ?_ | with_reducible refine' w_chain ?_ | with_reducible refine' w_fld ?_ | with_reducible refine' w_sfld ?_ | with_reducible refine' w_nil ?_ | with_reducible refine' w_cons ?_
  | with_reducible refine' w_call ?_ | with_reducible refine' w_meth ?_ | with_reducible refine' w_make ?_ | with_reducible refine' w_CB ?_ | with_reducible refine' w_BM0 ?_ | with_reducible refine' w_BM ?_ | with_reducible refine' w_tup ?_ | with_reducible refine' w_lst ?_
  | with_reducible refine' w_for ?_ | with_reducible refine' w_iList ?_ | with_reducible refine' w_iTup ?_ | with_reducible refine' w_lc ?_ | with_reducible refine' w_yes ?_ | with_reducible refine' w_max2 ?_ | with_reducible refine' w_min2 ?_ | with_reducible refine' w_ipI ?_ | with_reducible refine' w_gcons ?_ | with_reducible refine' w_gnil ?_
  | ((with_reducible refine' w_aug ?hv ?_); (case hv => exact rfl))
  | ((with_reducible refine' w_gtup ?hv ?hn ?_); (case hv => assumption); (case hn => exact rfl))
  | ((with_reducible refine' w_ixT ?hv ?ha ?_); (case hv => assumption); (case ha => exact rfl))
  | ((with_reducible refine' w_newT ?hv ?_); (case hv => exact Nat.le_of_ble_eq_true rfl))
  | ((with_reducible refine' w_newL ?hv ?_); (case hv => exact Nat.le_of_ble_eq_true rfl)))
local macro_rules | `(tactic| walk_at "go") => `(tactic| repeat' walk_at "go1")
section
variable {P : Program} {w : World} {K : PySem.W.Frag} {mg : Str → Option Value} {base : Heap}
/-! ### calendars -/
def tstep (acc : List (Int × Int)) (p : Int × Int) : List (Int × Int) := match acc.getLast? with
  | none => [p]
  | some l => if l.2 = p.2 then acc.dropLast ++ [(l.1 + p.1, p.2)] else acc ++ [p]
theorem tstep_snoc (acc : List (Int × Int)) (l p : Int × Int) : tstep (acc ++ [l]) p = if l.2 = p.2 then acc ++ [(l.1 + p.1, p.2)] else acc ++ [l] ++ [p] := by
  unfold tstep
  rw [List.getLast?_concat, List.dropLast_concat]
theorem tstep_len (acc : List (Int × Int)) (p : Int × Int) : (tstep acc p).length ≤ acc.length + 1 := by
  rcases List.eq_nil_or_concat acc with rfl | ⟨r, l, rfl⟩
  · show [p].length ≤ _; simp
  · rw [List.concat_eq_append, tstep_snoc]
    split <;> simp
theorem tfold_len (ss : List (Int × Int)) : (ss.foldl tstep []).length ≤ ss.length := by
  have h : ∀ (ss acc : List (Int × Int)), (ss.foldl tstep acc).length ≤ acc.length + ss.length := by
    intro ss
    induction ss with
    | nil => intro acc; simp
    | cons p r ih =>
      intro acc
      have h1 := ih (tstep acc p)
      have h2 := tstep_len acc p
      rw [List.foldl_cons, List.length_cons]
      omega
  have := h ss []
  simpa using this
def tid (rows : List (Int × Int)) (rest : Int) : List (Int × Int) := match (rows.foldl tstep []).getLast? with
  | none => []
  | some l => if l.2 = rest then (rows.foldl tstep []).dropLast else rows.foldl tstep []
theorem tid_snoc {rows acc : List (Int × Int)} {l : Int × Int} {rest : Int} (h : rows.foldl tstep [] = acc ++ [l]) : tid rows rest = if l.2 = rest then acc else acc ++ [l] := by
  unfold tid
  rw [h, List.getLast?_concat, List.dropLast_concat]
theorem tid_nil {rows : List (Int × Int)} {rest : Int} (h : rows.foldl tstep [] = []) : tid rows rest = [] := by
  unfold tid
  rw [h]; rfl
structure RowOk (p : Int × Int) : Prop where
  m1 : 1 ≤ p.1
  m2 : p.1 ≤ 1000000
  k0 : 0 ≤ p.2
  k1 : p.2 ≤ 16
structure RowsOk (rows : List (Int × Int)) (rest : Int) : Prop where
  len : rows.length ≤ 16
  row : ∀ p ∈ rows, RowOk p
  r1 : 1 ≤ rest
  r2 : rest ≤ 16
def sp_is_number : Sp := fun vs H Q _ => ∃ (i a b : Int), vs = [.int i, .int a, .int b] ∧ (a ≤ i ∧ i ≤ b) ∧ Q (.bl true) H
-- slots: 0 thing, 1 low, 2 high
theorem sc_is_number : FnScope ["thing", "low", "high"] ["thing", "low", "high"] (defScope s_is_number) := ⟨rfl, rfl, rfl, by decide +kernel, rfl, by decide +kernel, by decide +kernel⟩
theorem cd_is_number (T : Tx K mg) : ∃ fd, Cd P w K mg base 2 (He.ga K "is_number") ["thing", "low", "high"] sp_is_number fd := by
  obtain ⟨fd, F⟩ := T.F_is_number
  obtain ⟨_, K_is_whole⟩ := cd_is_whole (P := P) (w := w) (base := base) T
  refine ⟨fd, F.ok sc_is_number (fun vs H Q E h => ?_) (fun cdv A outer s H vs Q E hr h => ?_), FunD.bindsN F (fun _ _ _ _ _ _ us hl => match us, hl with | [_, _, _], _ => rfl), F.kp⟩
  · obtain ⟨i, a, b, rfl, _⟩ := h
    rfl
  · obtain ⟨i, a, b, rfl, hb, q⟩ := h
    refine ⟨_, PSs.nox (pss_one (ps_ret (pe_and (pe_call K_is_whole.ok (hr.mono (by decide)) (by rfl) T.g_is_whole K_is_whole.kp K_is_whole.bn .nil pass0 (pa_cons (pv 0) pa_nil)) (pe_one (pe_chain op_le op_le (pv 1) (pv 0) (pv 2)))))), ?_⟩
    walk_at "go"
    refine ⟨_, rfl, ?_⟩
    walk_at "go"
    refine ifT hb.1 ?_
    walk_at "go"
    rw [decide_eq_true hb.2]
    exact q
def sp_is_row : Sp := fun vs H Q _ => ∃ (a : Addr) (p : Int × Int), vs = [.ref a] ∧ H a = some (.tup (spanV p)) ∧ RowOk p ∧ Q (.bl true) H
-- slots: 0 thing
theorem sc_is_row : FnScope ["thing"] ["thing"] (defScope s_is_row) := ⟨rfl, rfl, rfl, by decide +kernel, rfl, by decide +kernel, by decide +kernel⟩
theorem cd_is_row (T : Tx K mg) : ∃ fd, Cd P w K mg base 3 (He.ga K "is_row") ["thing"] sp_is_row fd := by
  obtain ⟨fd, F⟩ := T.F_is_row
  obtain ⟨_, K_is_number⟩ := cd_is_number (P := P) (w := w) (base := base) T
  refine ⟨fd, F.ok sc_is_row (fun vs H Q E h => ?_) (fun cdv A outer s H vs Q E hr h => ?_), FunD.bindsN F (fun _ _ _ _ _ _ us hl => match us, hl with | [_], _ => rfl), F.kp⟩
  · obtain ⟨a, p, rfl, _⟩ := h
    rfl
  · obtain ⟨a, p, rfl, h1, O, q⟩ := h
    refine ⟨_, PSs.nox (pss_cons (ps_if (PW.pt (pw_or (pt_not (pt_val (pe_callB call_isi (by rfl) T.b_isinstance (by decide +kernel) (pa_cons (pv 0) (pa_cons (pe_bltn (by rfl) T.b_tuple (by decide +kernel) (v := .ty "tuple") rfl) pa_nil))))) (pw_or1 (pt_cmpR op_ne (pe_callB c_len (by rfl) T.b_len (by decide +kernel) (pa_cons (pv 0) pa_nil)) pe_int (nomark _))))) (pss_one (ps_ret pe_bl)) pss_nil)
      (pss_one (ps_ret (pe_and (pe_call K_is_number.ok (hr.mono (by decide)) (by rfl) T.g_is_number K_is_number.kp K_is_number.bn .nil pass0 (pa_cons (pe_ix ix_tup (pv 0) pe_int (fun _ _ => rfl)) (pa_cons pe_int (pa_cons (pe_gi (by rfl) T.i_MOST_TURNS) pa_nil)))) (pe_one (pe_call K_is_number.ok (hr.mono (by decide)) (by rfl) T.g_is_number K_is_number.kp K_is_number.bn .nil pass0 (pa_cons (pe_ix ix_tup (pv 0) pe_int (fun _ _ => rfl)) (pa_cons pe_int (pa_cons (pe_gi (by rfl) T.i_MOST_MACHINES) pa_nil))))))))), ?_⟩
    walk_at "go"
    refine w_isi (b := true) (.tup h1) (by decide +kernel) ?_
    walk_at "go"
    refine w_lenT h1 ?_
    walk_at "go"
    refine ifnF rfl ?_
    walk_at "go"
    refine ⟨_, _, _, rfl, ⟨O.m1, O.m2⟩, ?_⟩
    walk_at "go"
    exact ⟨_, _, _, rfl, ⟨O.k0, O.k1⟩, q⟩
def sp_tidied : Sp := fun vs H Q _ => ∃ (a : Addr) (ps : List Addr) (ss : List (Int × Int)) (rest : Int), vs = [.ref a, .int rest] ∧ LT H a ps (ss.map spanV) ∧ ss.length ≤ 1000 ∧ ∀ H' l qs, Same H H' → H l = none → LT H' l qs ((tid ss rest).map spanV) → Q (.ref l) H'
-- slots: 0 rows, 1 rest, 2 found, 3 many, 4 machines
theorem sc_tidied : FnScope ["rows", "rest", "found", "many", "machines"] ["rows", "rest"] (defScope s_tidied) := ⟨rfl, rfl, rfl, by decide +kernel, rfl, by decide +kernel, by decide +kernel⟩
theorem cd_tidied (T : Tx K mg) : ∃ fd, Cd P w K mg base 1 (He.ga K "tidied") ["rows", "rest"] sp_tidied fd := by
  obtain ⟨fd, F⟩ := T.F_tidied
  refine ⟨fd, F.ok sc_tidied (fun vs H Q E h => ?_) (fun cdv A outer s H vs Q E hr h => ?_), FunD.bindsN F (fun _ _ _ _ _ _ us hl => match us, hl with | [_, _], _ => rfl), F.kp⟩
  · obtain ⟨a, ps, ss, rest, rfl, _⟩ := h
    rfl
  · obtain ⟨a, ps, ss, rest, rfl, L, hz, q⟩ := h
    refine ⟨_, PSs.nox (pss_cons (ps_set (i := 2) sc_tidied.nd rfl (Or.inl rfl) (pe_lst pa_nil))
      (pss_cons (ps_for PassesOwn.never rfl (pi_list (pv 0)) (pg_tup rfl (pgs_cons (pg_name (i := 3) sc_tidied.nd rfl (Or.inl rfl)) (pgs_cons (pg_name (i := 4) sc_tidied.nd rfl (Or.inl rfl)) pgs_nil))) (pss_one (ps_if (PW.pt (pw_and (pt_cmpR (op_neD hr.units) (pv 2) (pe_lst pa_nil) (nomark _)) (pw_and1 (pt_cmpR op_eq (pe_ix ix_tup (pe_ix ix_list (pv 2) (pe_un un_neg pe_int) (fun _ _ => rfl)) pe_int (fun _ _ => rfl)) (pv 4) (nomark _))))) (pss_one (ps_asg (pe_tup (pa_cons (pe_op op_add (pe_ix ix_tup (pe_ix ix_list (pv 2) (pe_un un_neg pe_int) (fun _ _ => rfl)) pe_int (fun _ _ => rfl)) (pv 3)) (pa_cons (pv 4) pa_nil))) (pg_sub (pv 2) (pe_un un_neg pe_int) set_list))) (pss_one (ps_expr (pe_bm PySem.F.plainAttrs_list PySem.F.slot_list_append PySem.F.type_list_append mt_append (pv 2) (pa_cons (pe_tup (pa_cons (pv 3) (pa_cons (pv 4) pa_nil))) pa_nil)))))))
      (pss_cons (ps_if (PW.pt (pw_and (pt_cmpR (op_neD hr.units) (pv 2) (pe_lst pa_nil) (nomark _)) (pw_and1 (pt_cmpR op_eq (pe_ix ix_tup (pe_ix ix_list (pv 2) (pe_un un_neg pe_int) (fun _ _ => rfl)) pe_int (fun _ _ => rfl)) (pv 1) (nomark _))))) (pss_one (ps_expr (pe_bm0 PySem.F.plainAttrs_list PySem.F.slot_list_pop PySem.F.type_list_pop mt_pop (pv 2)))) pss_nil)
      (pss_one (ps_ret (pv 2)))))), ?_⟩
    walk_at "go"
    intro l H1 hl s1 e1
    walk_at "go"
    refine w_rIt (s1 _ _ L.at_) ?_
    refine lp_LT (ps := ps) (rs := ss.map spanV) (fun i σ H' => ∃ qs v2 v3, σ = [some (.ref a), some (.int rest), some (.ref l), v2, v3] ∧ Same H H' ∧ LT H' l qs (((ss.take i).foldl tstep []).map spanV)) ⟨[], none, none, rfl, s1, ⟨e1, .nil⟩⟩ (fun i σ H' hi p => ?_) (fun i q' r σ H' hi hp hr hq p => ?_) (fun σ H' p => ?_)
    · obtain ⟨qs, v2, v3, rfl, s, _⟩ := p
      exact L.same s
    · obtain ⟨qs, v2, v3, rfl, s, L2⟩ := p
      obtain ⟨z, ez, rfl⟩ := map_get hr
      rw [List.length_map] at hi
      have hfl := take_succ_of ez
      have hlen : ((ss.take i).foldl tstep []).length ≤ 1000 := Nat.le_trans (tfold_len _) (by rw [List.length_take]; omega)
      rw [hfl, List.foldl_append, List.foldl_cons, List.foldl_nil]
      generalize (ss.take i).foldl tstep [] = acc at L2 hlen ⊢
      walk_at "go"
      intro t H2 ht s2 e2
      refine w_neNil (dp_rows (L2.same s2) (spans_flat spanV_flat)) (sh_rows (spans_flat spanV_flat)) e2 ?_
      walk_at "go"
      have sn := s.trans s2
      have L3 := L2.same s2
      rcases List.eq_nil_or_concat acc with rfl | ⟨acc', lp, e⟩
      · refine iteF ?_
        walk_at "go"
        refine w_rTyL L3.at_ ?_
        walk_at "go"
        intro t2 H3 ht2 s3 e3
        walk_at "go"
        have L4 := L3.same s3
        refine w_append L4.at_ (by rw [List.length_map, L4.len]; exact szlt (by simp)) fun H4 b4 e4 => ?_
        walk_at "go"
        exact ⟨qs ++ [t2], _, _, rfl, Same.but (sn.trans s3) hl b4, LT.snoc L4 e3 b4 e4⟩
      · rw [List.concat_eq_append] at e
        subst e
        have hL : (List.map rowPD (List.map spanV (acc' ++ [lp]))).isEmpty = false := by simp
        rw [hL]
        walk_at "go"
        have tt3 := L3.tt
        rw [List.map_append] at tt3
        obtain ⟨qs', ql, rfl, tt4, el⟩ := TA'.snoc_inv tt3
        have at3 := L3.at_
        rw [List.map_append] at at3
        refine w_ixL at3 (atI_last _ _) ?_
        walk_at "go"
        rw [tstep_snoc]
        refine ifD (fun hc => ?_) (fun hc => ?_)
        · rw [if_pos (V.int.inj hc)]
          walk_at "go"
          refine w_ixL at3 (atI_last _ _) ?_
          walk_at "go"
          intro t2 H3 ht2 s3 e3
          walk_at "go"
          have at4 := s3 _ _ at3
          refine w_setL (j := qs'.length) at4 (by rw [List.length_append, List.length_map]; exact ixN_last (by simp)) fun H4 b4 e4 => ?_
          walk_at "go"
          refine ⟨qs' ++ [t2], _, _, rfl, Same.but (sn.trans s3) hl b4, ?_, ?_⟩
          · rw [e4, List.map_append]
            have := set_last (qs'.map V.ref) (V.ref ql) (V.ref t2)
            rw [List.length_map] at this
            exact congrArg (fun x => some (HO.lst x)) this
          · rw [List.map_append]
            exact TA'.snoc ((tt4.same s3).but b4 at4 (fun ys => by intro h; cases h)) (b4 _ _ (ne_of e3 at4 (by intro h; cases h)) e3)
        · rw [if_neg (fun h => hc (congrArg V.int h))]
          walk_at "go"
          refine w_rTyL L3.at_ ?_
          walk_at "go"
          intro t2 H3 ht2 s3 e3
          walk_at "go"
          have L4 := L3.same s3
          refine w_append L4.at_ (by rw [List.length_map, L4.len, List.length_map]; exact szlt (by omega)) fun H4 b4 e4 => ?_
          walk_at "go"
          refine ⟨(qs' ++ [ql]) ++ [t2], _, _, rfl, Same.but (sn.trans s3) hl b4, ?_⟩
          have := LT.snoc L4 e3 b4 (by rw [e4, List.map_append])
          rw [List.map_append]
          exact this
    · obtain ⟨qs, v2, v3, rfl, s, L2⟩ := p
      walk_at "go"
      rw [List.take_of_length_le (by rw [List.length_map]; exact Nat.le_refl _)] at L2
      intro t H2 ht s2 e2
      refine w_neNil (dp_rows (L2.same s2) (spans_flat spanV_flat)) (sh_rows (spans_flat spanV_flat)) e2 ?_
      walk_at "go"
      have sn := s.trans s2
      have L3 := L2.same s2
      rcases List.eq_nil_or_concat (ss.foldl tstep []) with e | ⟨acc', lp, e⟩
      · rw [e] at L3 ⊢
        refine iteF ?_
        walk_at "go"
        exact q _ _ _ sn hl (by rw [tid_nil e]; exact L3)
      · rw [List.concat_eq_append] at e
        have hL : (List.map rowPD (List.map spanV (List.foldl tstep [] ss))).isEmpty = false := by rw [e]; simp
        rw [hL]
        walk_at "go"
        rw [e] at L3
        have tt3 := L3.tt
        rw [List.map_append] at tt3
        obtain ⟨qs', ql, rfl, tt4, el⟩ := TA'.snoc_inv tt3
        have at3 := L3.at_
        rw [List.map_append] at at3
        refine w_ixL at3 (atI_last _ _) ?_
        walk_at "go"
        refine ifD (fun hc => ?_) (fun hc => ?_)
        · walk_at "go"
          refine w_rTyL at3 ?_
          refine ⟨l, _, .ref ql, rfl, rfl, at3, ?_, ?_⟩
          · simp
          walk_at "go"
          have b4 : But l H2 (upd H2 l (.lst (qs'.map V.ref ++ [V.ref ql]).dropLast)) := But.upd
          refine q _ l qs' (Same.but sn hl b4) hl ⟨?_, ?_⟩
          · rw [upd_same]
            exact congrArg (fun x => some (HO.lst x)) (List.dropLast_concat)
          · rw [tid_snoc e, if_pos (V.int.inj hc)]
            exact tt4.but b4 at3 (fun ys => by intro h; cases h)
        · walk_at "go"
          exact q _ _ _ sn hl (by rw [tid_snoc e, if_neg (fun h => hc (congrArg V.int h))]; exact L3)
/-- a Calendar at p -/
structure CalAt (K : PySem.W.Frag) (H : Hp) (p : Addr) (strips : List (Int × Int)) (rest : Int) : Prop where
  ex : ∃ dx l qs, H p = some (.ins (He.ga K "Calendar") dx (fl_Calendar (.ref l) (.int rest))) ∧ LT H l qs (strips.map spanV)
theorem CalAt.same {H H' : Hp} {p : Addr} {strips : List (Int × Int)} {rest : Int} (s : Same H H') (h : CalAt K H p strips rest) : CalAt K H' p strips rest := by
  obtain ⟨dx, l, qs, e, L⟩ := h.ex
  exact ⟨dx, l, qs, s _ _ e, L.same s⟩
def sp_Calendar_keep : Sp := fun vs H Q _ => ∃ (p a dx : Addr) (x : V) (ps : List Addr) (ss : List (Int × Int)) (rest r0 : Int), vs = [.ref p, .ref a, .int rest] ∧ H p = some (.ins (He.ga K "Calendar") dx (fl_Calendar x (.int r0))) ∧ LT H a ps (ss.map spanV) ∧ ss.length ≤ 1000 ∧
  ∀ H', But p H H' → CalAt K H' p (tid ss rest) rest → Q .non H'
-- slots: 0 self, 1 rows, 2 rest
theorem sc_Calendar_keep : FnScope ["self", "rows", "rest"] ["self", "rows", "rest"] (defScope s_Calendar_keep) := ⟨rfl, rfl, rfl, by decide +kernel, rfl, by decide +kernel, by decide +kernel⟩
theorem cd_Calendar_keep (T : Tx K mg) : ∃ fd, Cd P w K mg base 2 (He.ma K (He.ga K "Calendar") "keep") ["self", "rows", "rest"] (sp_Calendar_keep (K := K)) fd := by
  obtain ⟨fd, F⟩ := T.F_Calendar_keep
  obtain ⟨_, K_tidied⟩ := cd_tidied (P := P) (w := w) (base := base) T
  refine ⟨fd, F.ok sc_Calendar_keep (fun vs H Q E h => ?_) (fun cdv A outer s H vs Q E hr h => ?_), FunD.bindsN F (fun _ _ _ _ _ _ us hl => match us, hl with | [_, _, _], _ => rfl), F.kp⟩
  · obtain ⟨p, a, dx, x, ps, ss, rest, r0, rfl, _⟩ := h
    rfl
  · obtain ⟨p, a, dx, x, ps, ss, rest, r0, rfl, hp, L, hz, q⟩ := h
    refine ⟨_, PSs.nox (pss_cons (ps_fld (pv 0) (pe_call K_tidied.ok (hr.mono (by decide)) (by rfl) T.g_tidied K_tidied.kp K_tidied.bn .nil pass0 (pa_cons (pv 1) (pa_cons (pv 2) pa_nil))) rfl)
      (pss_one (ps_fld (pv 0) (pv 2) rfl))), ?_⟩
    walk_at "go"
    refine ⟨_, _, _, _, rfl, L, hz, fun H1 l qs s1 hl L1 => ?_⟩
    walk_at "go"
    refine w_rSetF (s1 _ _ hp) T.c_Calendar T.n_Calendar_strips (Nat.le_of_ble_eq_true rfl) fun H2 b2 e2 => ?_
    rw [pf_Calendar_strips] at e2
    walk_at "go"
    refine w_rSetF e2 T.c_Calendar T.n_Calendar_for_ever (Nat.le_of_ble_eq_true rfl) fun H3 b3 e3 => ?_
    rw [pf_Calendar_for_ever] at e3
    walk_at "go"
    have npl : l ≠ p := fun e => by rw [e, hp] at hl; cases hl
    refine q H3 (fun b o n e => b3 _ _ n (b2 _ _ n (s1 _ _ e))) ⟨dx, l, qs, e3, ?_⟩
    exact (L1.but b2 (s1 _ _ hp) (fun ys => by intro h; cases h) npl).but b3 e2 (fun ys => by intro h; cases h) npl
def sp_Calendar_init : Sp := fun vs H Q _ => ∃ (p a dx : Addr) (ps : List Addr) (ss : List (Int × Int)) (rest : Int), vs = [.ref p, .ref a, .int rest] ∧ H p = some (.ins (He.ga K "Calendar") dx []) ∧ LT H a ps (ss.map spanV) ∧ RowsOk ss rest ∧
  ∀ H', But p H H' → CalAt K H' p (tid ss rest) rest → Q .non H'
-- slots: 0 self, 1 rows, 2 rest, 3 row
theorem sc_Calendar_init : FnScope ["self", "rows", "rest", "row"] ["self", "rows", "rest"] (defScope s_Calendar_init) := ⟨rfl, rfl, rfl, by decide +kernel, rfl, by decide +kernel, by decide +kernel⟩
theorem cd_Calendar_init (T : Tx K mg) : ∃ fd, Cd P w K mg base 4 (He.ma K (He.ga K "Calendar") "__init__") ["self", "rows", "rest"] (sp_Calendar_init (K := K)) fd := by
  obtain ⟨fd, F⟩ := T.F_Calendar_init
  obtain ⟨_, K_Calendar_keep⟩ := cd_Calendar_keep (P := P) (w := w) (base := base) T
  obtain ⟨_, K_is_number⟩ := cd_is_number (P := P) (w := w) (base := base) T
  obtain ⟨_, K_is_row⟩ := cd_is_row (P := P) (w := w) (base := base) T
  refine ⟨fd, F.ok sc_Calendar_init (fun vs H Q E h => ?_) (fun cdv A outer s H vs Q E hr h => ?_), FunD.bindsN F (fun _ _ _ _ _ _ us hl => match us, hl with | [_, _, _], _ => rfl), F.kp⟩
  · obtain ⟨p, a, dx, ps, ss, rest, rfl, _⟩ := h
    rfl
  · obtain ⟨p, a, dx, ps, ss, rest, rfl, hp, L, O, q⟩ := h
    refine ⟨_, PSs.nox (pss_cons (ps_if (PW.pt (pw_or (pt_not (pt_val (pe_callB call_isi (by rfl) T.b_isinstance (by decide +kernel) (pa_cons (pv 1) (pa_cons (pe_bltn (by rfl) T.b_list (by decide +kernel) (v := .ty "list") rfl) pa_nil))))) (pw_or (pt_cmpR op_gt (pe_callB c_len (by rfl) T.b_len (by decide +kernel) (pa_cons (pv 1) pa_nil)) (pe_gi (by rfl) T.i_MOST_ROWS) (nomark _)) (pw_or1 (pt_not (pt_val (pe_call K_is_number.ok (hr.mono (by decide)) (by rfl) T.g_is_number K_is_number.kp K_is_number.bn .nil pass0 (pa_cons (pv 2) (pa_cons pe_int (pa_cons (pe_gi (by rfl) T.i_MOST_MACHINES) pa_nil)))))))))) (pss_one ps_never) pss_nil)
      (pss_cons (ps_for PassesOwn.never rfl (pi_list (pv 1)) (pg_name (i := 3) sc_Calendar_init.nd rfl (Or.inl rfl)) (pss_one (ps_if (pt_not (pt_val (pe_call K_is_row.ok (hr.mono (by decide)) (by rfl) T.g_is_row K_is_row.kp K_is_row.bn .nil pass0 (pa_cons (pv 3) pa_nil)))) (pss_one ps_never) pss_nil)))
      (pss_cons (ps_fld (pv 0) (pe_lst pa_nil) rfl)
      (pss_cons (ps_fld (pv 0) (pv 2) rfl)
      (pss_one (ps_expr (pe_meth (pv 0) T.c_Calendar T.m_Calendar_keep K_Calendar_keep.ok (hr.mono (by decide)) K_Calendar_keep.bn .nil pass0 (pa_cons (pv 1) (pa_cons (pv 2) pa_nil))))))))), ?_⟩
    walk_at "go"
    have hz := O.len
    refine w_isi (b := true) (.lst L.at_) (by decide +kernel) ?_
    walk_at "go"
    refine w_lenL L.at_ ?_
    walk_at "go"
    refine ifF (by rw [List.length_map, L.len, List.length_map]; omega) ?_
    walk_at "go"
    refine ⟨_, _, _, rfl, ⟨O.r1, O.r2⟩, ?_⟩
    walk_at "go"
    refine w_rIt L.at_ ?_
    refine lp_LT (ps := ps) (rs := ss.map spanV) (fun i σ H' => ∃ v3, σ = [some (.ref p), some (.ref a), some (.int rest), v3] ∧ H' = H) ⟨none, rfl, rfl⟩ (fun i σ H' hi p => ?_) (fun i q' r σ H' hi hp' hr hq p => ?_) (fun σ H' p => ?_)
    · obtain ⟨v3, rfl, rfl⟩ := p
      exact L
    · obtain ⟨v3, rfl, rfl⟩ := p
      obtain ⟨z, ez, rfl⟩ := map_get hr
      walk_at "go"
      refine ⟨_, _, rfl, hq, O.row z (List.mem_of_getElem? ez), ?_⟩
      walk_at "go"
      exact ⟨_, rfl, rfl⟩
    · obtain ⟨v3, rfl, rfl⟩ := p
      walk_at "go"
      intro t H1 ht s1 e1
      walk_at "go"
      refine w_rSetF (s1 _ _ hp) T.c_Calendar T.n_Calendar_strips (Nat.le_of_ble_eq_true rfl) fun H2 b2 e2 => ?_
      rw [pi_Calendar_strips] at e2
      walk_at "go"
      refine w_rSetF e2 T.c_Calendar T.n_Calendar_for_ever (Nat.le_of_ble_eq_true rfl) fun H3 b3 e3 => ?_
      rw [pi_Calendar_for_ever] at e3
      walk_at "go"
      have npa : a ≠ _ := ne_of L.at_ hp (by intro h; cases h)
      have L3 : LT H3 a ps (ss.map spanV) := ((L.same s1).but b2 (s1 _ _ hp) (fun ys => by intro h; cases h) npa).but b3 e2 (fun ys => by intro h; cases h) npa
      refine w_rRecv e3 no_Calendar_keep ?_
      walk_at "go"
      refine ⟨_, _, _, _, _, _, _, _, rfl, e3, L3, by omega, fun H4 b4 C4 => ?_⟩
      walk_at "go"
      exact q _ (fun b o n e => b4 _ _ n (b3 _ _ n (b2 _ _ n (s1 _ _ e)))) C4
def pst (s : List (Int × Int × Int) × Int) (r : Int × Int) : List (Int × Int × Int) × Int := (s.1 ++ [(s.2, s.2 + r.1 - 1, r.2)], s.2 + r.1)
def pieces (strips : List (Int × Int)) (rest t : Int) : List (Int × Int × Int) := if (strips.foldl pst ([], 0)).2 ≤ t then (strips.foldl pst ([], 0)).1 ++ [((strips.foldl pst ([], 0)).2, t, rest)] else (strips.foldl pst ([], 0)).1
theorem pst_len : ∀ (ss : List (Int × Int)) (s : List (Int × Int × Int) × Int), (ss.foldl pst s).1.length = s.1.length + ss.length
  | [], s => rfl
  | r :: ss, s => by
    rw [List.foldl_cons, pst_len ss, List.length_cons]
    show (s.1 ++ [_]).length + ss.length = _
    rw [List.length_append]
    simp
    omega
theorem pieces_len (strips : List (Int × Int)) (rest t : Int) : (pieces strips rest t).length ≤ strips.length + 1 := by
  unfold pieces
  have := pst_len strips ([], 0)
  split
  · rw [List.length_append, this]; simp
  · rw [this]; simp
abbrev cellV (c : Int × Int × Int) : List V := [.int c.1, .int c.2.1, .int c.2.2]
theorem cellV_flat (c : Int × Int × Int) : ∀ v ∈ cellV c, FlatOk v := fun v hv => by
  rcases List.mem_cons.mp hv with rfl | hv
  · exact flat_int
  · rcases List.mem_cons.mp hv with rfl | hv
    · exact flat_int
    · rw [List.mem_singleton.mp hv]; exact flat_int
def sp_Calendar_pieces : Sp := fun vs H Q _ => ∃ (p : Addr) (ss : List (Int × Int)) (rest t : Int), vs = [.ref p, .int t] ∧ CalAt K H p ss rest ∧ ss.length ≤ 1000 ∧ ∀ H' l qs, Same H H' → H l = none → LT H' l qs ((pieces ss rest t).map cellV) → Q (.ref l) H'
-- slots: 0 self, 1 turn, 2 found, 3 begin, 4 many, 5 machines
theorem sc_Calendar_pieces : FnScope ["self", "turn", "found", "begin", "many", "machines"] ["self", "turn"] (defScope s_Calendar_pieces) := ⟨rfl, rfl, rfl, by decide +kernel, rfl, by decide +kernel, by decide +kernel⟩
theorem cd_Calendar_pieces (T : Tx K mg) : ∃ fd, Cd P w K mg base 1 (He.ma K (He.ga K "Calendar") "pieces") ["self", "turn"] (sp_Calendar_pieces (K := K)) fd := by
  obtain ⟨fd, F⟩ := T.F_Calendar_pieces
  refine ⟨fd, F.ok sc_Calendar_pieces (fun vs H Q E h => ?_) (fun cdv A outer s H vs Q E hr h => ?_), FunD.bindsN F (fun _ _ _ _ _ _ us hl => match us, hl with | [_, _], _ => rfl), F.kp⟩
  · obtain ⟨p, ss, rest, t, rfl, _⟩ := h
    rfl
  · obtain ⟨p, ss, rest, t, rfl, C, hz, q⟩ := h
    refine ⟨_, PSs.nox (pss_cons (ps_set (i := 2) sc_Calendar_pieces.nd rfl (Or.inl rfl) (pe_lst pa_nil))
      (pss_cons (ps_set (i := 3) sc_Calendar_pieces.nd rfl (Or.inl rfl) pe_int)
      (pss_cons (ps_for PassesOwn.never rfl (pi_list (pe_fld (pv 0) rfl)) (pg_tup rfl (pgs_cons (pg_name (i := 4) sc_Calendar_pieces.nd rfl (Or.inl rfl)) (pgs_cons (pg_name (i := 5) sc_Calendar_pieces.nd rfl (Or.inl rfl)) pgs_nil))) (pss_cons (ps_expr (pe_bm PySem.F.plainAttrs_list PySem.F.slot_list_append PySem.F.type_list_append mt_append (pv 2) (pa_cons (pe_tup (pa_cons (pv 3) (pa_cons (pe_op op_sub (pe_op op_add (pv 3) (pv 4)) pe_int) (pa_cons (pv 5) pa_nil)))) pa_nil)))
      (pss_one (ps_aug (i := 3) sc_Calendar_pieces.nd rfl (Or.inl rfl) (pv 4) ip_add))))
      (pss_cons (ps_if (pt_cmpR op_le (pv 3) (pv 1) (nomark _)) (pss_one (ps_expr (pe_bm PySem.F.plainAttrs_list PySem.F.slot_list_append PySem.F.type_list_append mt_append (pv 2) (pa_cons (pe_tup (pa_cons (pv 3) (pa_cons (pv 1) (pa_cons (pe_fld (pv 0) rfl) pa_nil)))) pa_nil)))) pss_nil)
      (pss_one (ps_ret (pv 2))))))), ?_⟩
    walk_at "go"
    obtain ⟨dx, ls, ps, hp, L⟩ := C.ex
    intro l H1 hl s1 e1
    walk_at "go"
    refine w_rFld (s1 _ _ hp) T.c_Calendar T.n_Calendar_strips lk_Calendar_strips ?_
    refine w_rIt (s1 _ _ L.at_) ?_
    refine lp_LT (ps := ps) (rs := ss.map spanV) (fun i σ H' => ∃ qs v4 v5, σ = [some (.ref p), some (.int t), some (.ref l), some (.int ((ss.take i).foldl pst ([], 0)).2), v4, v5] ∧ Same H H' ∧ LT H' l qs (((ss.take i).foldl pst ([], 0)).1.map cellV)) ⟨[], none, none, rfl, s1, ⟨e1, .nil⟩⟩ (fun i σ H' hi p => ?_) (fun i q' r σ H' hi hp' hr hq p => ?_) (fun σ H' p => ?_)
    · obtain ⟨qs, v2, v3, rfl, s, _⟩ := p
      exact L.same s
    · obtain ⟨qs, v2, v3, rfl, s, L2⟩ := p
      obtain ⟨z, ez, rfl⟩ := map_get hr
      rw [List.length_map] at hi
      have hfl := take_succ_of ez
      have hlen : ((ss.take i).foldl pst ([], 0)).1.length ≤ 1000 := by rw [pst_len]; rw [List.length_take]; simp; omega
      rw [hfl, List.foldl_append, List.foldl_cons, List.foldl_nil]
      generalize (ss.take i).foldl pst ([], 0) = acc at L2 hlen ⊢
      walk_at "go"
      refine w_rTyL L2.at_ ?_
      walk_at "go"
      intro t2 H3 ht2 s3 e3
      walk_at "go"
      have L4 := L2.same s3
      refine w_append L4.at_ (by rw [List.length_map, L4.len, List.length_map]; exact szlt (by omega)) fun H4 b4 e4 => ?_
      walk_at "go"
      refine ⟨qs ++ [t2], _, _, rfl, Same.but (s.trans s3) hl b4, ?_⟩
      have := LT.snoc L4 e3 b4 e4
      unfold pst
      rw [List.map_append]
      exact this
    · obtain ⟨qs, v2, v3, rfl, s, L2⟩ := p
      rw [List.take_of_length_le (by rw [List.length_map]; exact Nat.le_refl _)] at L2 ⊢
      walk_at "go"
      refine ifD (fun hc => ?_) (fun hc => ?_)
      · walk_at "go"
        refine w_rTyL L2.at_ ?_
        walk_at "go"
        refine w_rFld (s _ _ hp) T.c_Calendar T.n_Calendar_for_ever lk_Calendar_for_ever ?_
        walk_at "go"
        intro t2 H3 ht2 s3 e3
        walk_at "go"
        have L4 := L2.same s3
        have hlen : (ss.foldl pst ([], 0)).1.length ≤ 1000 := by rw [pst_len]; simp; omega
        refine w_append L4.at_ (by rw [List.length_map, L4.len, List.length_map]; exact szlt (by omega)) fun H4 b4 e4 => ?_
        walk_at "go"
        refine q _ l (qs ++ [t2]) (Same.but (s.trans s3) hl b4) hl ?_
        have := LT.snoc L4 e3 b4 e4
        unfold pieces
        rw [if_pos hc, List.map_append]
        exact this
      · walk_at "go"
        refine q _ l qs s hl ?_
        unfold pieces
        rw [if_neg hc]
        exact L2
def calAt (strips : List (Int × Int)) (rest t : Int) : Int := match (pieces strips rest t).find? fun c => decide (t ≤ c.2.1) with
  | some c => c.2.2
  | none => rest
def sp_Calendar_at : Sp := fun vs H Q _ => ∃ (p : Addr) (ss : List (Int × Int)) (rest t : Int), vs = [.ref p, .int t] ∧ CalAt K H p ss rest ∧ ss.length ≤ 1000 ∧ ∀ H', Same H H' → Q (.int (calAt ss rest t)) H'
-- slots: 0 self, 1 turn, 2 first, 3 last, 4 machines
theorem sc_Calendar_at : FnScope ["self", "turn", "first", "last", "machines"] ["self", "turn"] (defScope s_Calendar_at) := ⟨rfl, rfl, rfl, by decide +kernel, rfl, by decide +kernel, by decide +kernel⟩
theorem cd_Calendar_at (T : Tx K mg) : ∃ fd, Cd P w K mg base 2 (He.ma K (He.ga K "Calendar") "at") ["self", "turn"] (sp_Calendar_at (K := K)) fd := by
  obtain ⟨fd, F⟩ := T.F_Calendar_at
  obtain ⟨_, K_Calendar_pieces⟩ := cd_Calendar_pieces (P := P) (w := w) (base := base) T
  refine ⟨fd, F.ok sc_Calendar_at (fun vs H Q E h => ?_) (fun cdv A outer s H vs Q E hr h => ?_), FunD.bindsN F (fun _ _ _ _ _ _ us hl => match us, hl with | [_, _], _ => rfl), F.kp⟩
  · obtain ⟨p, ss, rest, t, rfl, _⟩ := h
    rfl
  · obtain ⟨p, ss, rest, t, rfl, C, hz, q⟩ := h
    refine ⟨_, PSs.nox (pss_cons (ps_for PassesOwn.never rfl (pi_list (pe_meth (pv 0) T.c_Calendar T.m_Calendar_pieces K_Calendar_pieces.ok (hr.mono (by decide)) K_Calendar_pieces.bn .nil pass0 (pa_cons (pv 1) pa_nil))) (pg_tup rfl (pgs_cons (pg_name (i := 2) sc_Calendar_at.nd rfl (Or.inl rfl)) (pgs_cons (pg_name (i := 3) sc_Calendar_at.nd rfl (Or.inl rfl)) (pgs_cons (pg_name (i := 4) sc_Calendar_at.nd rfl (Or.inl rfl)) pgs_nil)))) (pss_one (ps_if (pt_cmpR op_le (pv 1) (pv 3) (nomark _)) (pss_one (ps_ret (pv 4))) pss_nil)))
      (pss_one (ps_ret (pe_fld (pv 0) rfl)))), ?_⟩
    walk_at "go"
    obtain ⟨dx, ls, ps, hp, L⟩ := C.ex
    refine w_rRecv hp no_Calendar_pieces ?_
    walk_at "go"
    refine ⟨_, _, _, _, rfl, C, hz, fun H1 l qs s1 hl L1 => ?_⟩
    refine w_rIt L1.at_ ?_
    refine lp_LT (ps := qs) (rs := (pieces ss rest t).map cellV) (fun i σ H' => ∃ v2 v3 v4, σ = [some (.ref p), some (.int t), v2, v3, v4] ∧ H' = H1 ∧ ∀ c ∈ (pieces ss rest t).take i, ¬ t ≤ c.2.1) ⟨none, none, none, rfl, rfl, fun c hc => by simp at hc⟩ (fun i σ H' hi p => ?_) (fun i q' r σ H' hi hp' hr hq p => ?_) (fun σ H' p => ?_)
    · obtain ⟨v2, v3, v4, rfl, rfl, _⟩ := p
      exact L1
    · obtain ⟨v2, v3, v4, rfl, rfl, no⟩ := p
      obtain ⟨z, ez, rfl⟩ := map_get hr
      walk_at "go"
      refine ifD (fun hc => ?_) (fun hc => ?_)
      · walk_at "go"
        refine (show Q (.int z.2.2) _ from ?_)
        have e : calAt ss rest t = z.2.2 := by
          unfold calAt
          have : (pieces ss rest t).find? (fun c => decide (t ≤ c.2.1)) = some z := by
            rw [List.find?_eq_some_iff_getElem]
            obtain ⟨h1, h2⟩ := List.getElem?_eq_some_iff.mp ez
            refine ⟨decide_eq_true hc, i, h1, h2, fun j hj => ?_⟩
            have := no ((pieces ss rest t)[j]) (by
              rw [List.mem_take_iff_getElem]
              exact ⟨j, by omega, rfl⟩)
            simpa using this
          rw [this]
        rw [← e]
        exact q _ s1
      · walk_at "go"
        refine ⟨_, _, _, rfl, rfl, fun c hc' => ?_⟩
        rw [take_succ_of ez, List.mem_append, List.mem_singleton] at hc'
        rcases hc' with h | rfl
        · exact no c h
        · exact hc
    · obtain ⟨v2, v3, v4, rfl, rfl, no⟩ := p
      rw [List.take_of_length_le (by rw [List.length_map]; exact Nat.le_refl _)] at no
      walk_at "go"
      refine w_rFld (s1 _ _ hp) T.c_Calendar T.n_Calendar_for_ever lk_Calendar_for_ever ?_
      have e : calAt ss rest t = rest := by
        unfold calAt
        rw [List.find?_eq_none.mpr (fun c hc => by simpa using no c hc)]
      rw [← e]
      exact q _ s1

end
end Due

set_option Elab.async false
set_option linter.all false
set_option maxRecDepth 100000
set_option maxHeartbeats 4000000
namespace Due
open PySem PySem.Spec PyProof.Rows L2
local macro_rules | `(tactic| walk_at "v") => `(tactic| ((with_reducible refine' w_var ?hv ?_); (case hv => exact rfl)))
local macro_rules | `(tactic| walk_at "go1") => `(tactic| first
  | with_reducible refine' w_seq ?_ | with_reducible refine' w_asg ?_ | with_reducible refine' w_name ?_ | with_reducible refine' w_ret ?_ | with_reducible refine' w_drop ?_ | with_reducible refine' w_ifs ?_ | with_reducible refine' w_next ?_ | with_reducible refine' w_retN ?_ | with_reducible refine' w_cont ?_
  | ((with_reducible refine' w_var ?hv ?_); (case hv => exact rfl)) | with_reducible refine' w_c ?_ | with_reducible refine' w_op ?_ | with_reducible refine' w_un ?_ | with_reducible refine' w_I0 ?_ | with_reducible refine' w_U ?_ | with_reducible refine' w_cmp ?_
  | ((with_reducible refine' w_eq ?hv ?_); (case hv => exact rfl)) | ((with_reducible refine' w_ne ?hv ?_); (case hv => exact rfl))
  | with_reducible refine' iteT ?_ | with_reducible refine' iteF ?_ | with_reducible refine' iteNT ?_ | with_reducible refine' iteNF ?_ | with_reducible refine' w_chain3 ?_ | with_reducible refine' w_augS ?_ | with_reducible refine' w_gsub ?_
  | with_reducible refine' w_isN ?_ | with_reducible refine' w_notN ?_ | with_reducible refine' w_rBl ?_ | with_reducible refine' w_B ?_ | with_reducible refine' w_test ?_ | with_reducible refine' w_and ?_ | with_reducible refine' w_or ?_ | with_reducible refine' w_not ?_
  | with_reducible refine' w_andV ?_ | with_reducible refine' w_orV ?_ | with_reducible refine' w_notV ?_ | with_reducible refine' w_chain ?_ | with_reducible refine' w_fld ?_ | with_reducible refine' w_sfld ?_ | with_reducible refine' w_nil ?_ | with_reducible refine' w_cons ?_
  | with_reducible refine' w_call ?_ | with_reducible refine' w_meth ?_ | with_reducible refine' w_make ?_ | with_reducible refine' w_CB ?_ | with_reducible refine' w_BM0 ?_ | with_reducible refine' w_BM ?_ | with_reducible refine' w_tup ?_ | with_reducible refine' w_lst ?_
  | with_reducible refine' w_for ?_ | with_reducible refine' w_iList ?_ | with_reducible refine' w_iTup ?_ | with_reducible refine' w_lc ?_ | with_reducible refine' w_yes ?_ | with_reducible refine' w_max2 ?_ | with_reducible refine' w_min2 ?_ | with_reducible refine' w_ipI ?_ | with_reducible refine' w_gcons ?_ | with_reducible refine' w_gnil ?_
  | ((with_reducible refine' w_aug ?hv ?_); (case hv => exact rfl))
  | ((with_reducible refine' w_gtup ?hv ?hn ?_); (case hv => assumption); (case hn => exact rfl))
  | ((with_reducible refine' w_ixT ?hv ?ha ?_); (case hv => assumption); (case ha => exact rfl))
  | ((with_reducible refine' w_newT ?hv ?_); (case hv => exact Nat.le_of_ble_eq_true rfl))
  | ((with_reducible refine' w_newL ?hv ?_); (case hv => exact Nat.le_of_ble_eq_true rfl)))
local macro_rules | `(tactic| walk_at "go") => `(tactic| repeat' walk_at "go1")
section
variable {P : Program} {w : World} {K : PySem.W.Frag} {mg : Str → Option Value} {base : Heap}
def ostep (f l : Int) (t : Int) (c : Int × Int × Int) : Int := t + c.2.2 * max 0 (min c.2.1 l - max c.1 f + 1)
def over (strips : List (Int × Int)) (rest f l : Int) : Int := (pieces strips rest l).foldl (ostep f l) 0
structure CalOk (strips : List (Int × Int)) (rest : Int) : Prop where
  len : strips.length ≤ 16
  k : ∀ p ∈ strips, 0 ≤ p.2 ∧ p.2 ≤ 16
  m : ∀ p ∈ strips, 1 ≤ p.1
  r1 : 1 ≤ rest
  r2 : rest ≤ 16
theorem pst_k {Pk : Int → Prop} : ∀ (ss : List (Int × Int)) (s : List (Int × Int × Int) × Int), (∀ c ∈ s.1, Pk c.2.2) → (∀ p ∈ ss, Pk p.2) → ∀ c ∈ (ss.foldl pst s).1, Pk c.2.2
  | [], s, h, _ => h
  | r :: ss, s, h, k => by
    rw [List.foldl_cons]
    refine pst_k ss (pst s r) (fun c hc => ?_) fun p hp => k p (List.mem_cons_of_mem _ hp)
    rcases List.mem_append.mp hc with hc | hc
    · exact h c hc
    · rw [List.mem_singleton.mp hc]
      exact k r List.mem_cons_self
theorem pieces_k {Pk : Int → Prop} {strips : List (Int × Int)} {rest t : Int} (h : ∀ p ∈ strips, Pk p.2) (hr : Pk rest) : ∀ c ∈ pieces strips rest t, Pk c.2.2 := by
  have h1 := pst_k (Pk := Pk) strips ([], 0) (fun c hc => by simp at hc) h
  unfold pieces
  split
  · intro c hc
    rcases List.mem_append.mp hc with hc | hc
    · exact h1 c hc
    · rw [List.mem_singleton.mp hc]; exact hr
  · exact h1
def sp_Calendar_over : Sp := fun vs H Q _ => ∃ (p : Addr) (ss : List (Int × Int)) (rest f l : Int), vs = [.ref p, .int f, .int l] ∧ CalAt K H p ss rest ∧ CalOk ss rest ∧ ∀ H', Same H H' → Q (.int (over ss rest f l)) H'
-- slots: 0 self, 1 first, 2 last, 3 total, 4 begin, 5 end, 6 machines
theorem sc_Calendar_over : FnScope ["self", "first", "last", "total", "begin", "end", "machines"] ["self", "first", "last"] (defScope s_Calendar_over) := ⟨rfl, rfl, rfl, by decide +kernel, rfl, by decide +kernel, by decide +kernel⟩
theorem cd_Calendar_over (T : Tx K mg) : ∃ fd, Cd P w K mg base 2 (He.ma K (He.ga K "Calendar") "over") ["self", "first", "last"] (sp_Calendar_over (K := K)) fd := by
  obtain ⟨fd, F⟩ := T.F_Calendar_over
  obtain ⟨_, K_Calendar_pieces⟩ := cd_Calendar_pieces (P := P) (w := w) (base := base) T
  refine ⟨fd, F.ok sc_Calendar_over (fun vs H Q E h => ?_) (fun cdv A outer s H vs Q E hr h => ?_), FunD.bindsN F (fun _ _ _ _ _ _ us hl => match us, hl with | [_, _, _], _ => rfl), F.kp⟩
  · obtain ⟨p, ss, rest, f, l, rfl, _⟩ := h
    rfl
  · obtain ⟨p, ss, rest, f, l, rfl, C, O, q⟩ := h
    refine ⟨_, PSs.nox (pss_cons (ps_set (i := 3) sc_Calendar_over.nd rfl (Or.inl rfl) pe_int)
      (pss_cons (ps_for PassesOwn.never rfl (pi_list (pe_meth (pv 0) T.c_Calendar T.m_Calendar_pieces K_Calendar_pieces.ok (hr.mono (by decide)) K_Calendar_pieces.bn .nil pass0 (pa_cons (pv 2) pa_nil))) (pg_tup rfl (pgs_cons (pg_name (i := 4) sc_Calendar_over.nd rfl (Or.inl rfl)) (pgs_cons (pg_name (i := 5) sc_Calendar_over.nd rfl (Or.inl rfl)) (pgs_cons (pg_name (i := 6) sc_Calendar_over.nd rfl (Or.inl rfl)) pgs_nil)))) (pss_one (ps_aug (i := 3) sc_Calendar_over.nd rfl (Or.inl rfl) (pe_op op_mul (pv 6) (pe_callB (c_max2 rfl) (by rfl) T.b_max (by decide +kernel) (pa_cons pe_int (pa_cons (pe_op op_add (pe_op op_sub (pe_callB (c_min2 rfl) (by rfl) T.b_min (by decide +kernel) (pa_cons (pv 5) (pa_cons (pv 2) pa_nil))) (pe_callB (c_max2 rfl) (by rfl) T.b_max (by decide +kernel) (pa_cons (pv 4) (pa_cons (pv 1) pa_nil)))) pe_int) pa_nil)))) ip_add)))
      (pss_one (ps_ret (pv 3))))), ?_⟩
    walk_at "go"
    have hz := O.len
    obtain ⟨dx, ls, ps, hp, L⟩ := C.ex
    refine w_rRecv hp no_Calendar_pieces ?_
    walk_at "go"
    refine ⟨_, _, _, _, rfl, C, by omega, fun H1 l' qs s1 hl L1 => ?_⟩
    refine w_rIt L1.at_ ?_
    have hk := pieces_k (Pk := fun k => 0 ≤ k ∧ k ≤ 16) (t := l) O.k ⟨by have := O.r1; omega, O.r2⟩
    refine lp_LT (ps := qs) (rs := (pieces ss rest l).map cellV) (fun i σ H' => ∃ v4 v5 v6, σ = [some (.ref p), some (.int f), some (.int l), some (.int (((pieces ss rest l).take i).foldl (ostep f l) 0)), v4, v5, v6] ∧ H' = H1) ⟨none, none, none, rfl, rfl⟩ (fun i σ H' hi p => ?_) (fun i q' r σ H' hi hp' hr hq p => ?_) (fun σ H' p => ?_)
    · obtain ⟨v2, v3, v4, rfl, rfl⟩ := p
      exact L1
    · obtain ⟨v2, v3, v4, rfl, rfl⟩ := p
      obtain ⟨z, ez, rfl⟩ := map_get hr
      have hz2 := hk z (List.mem_of_getElem? ez)
      walk_at "go"
      refine w_I (.inl ⟨by omega, by omega⟩) ?_
      walk_at "go"
      rw [take_succ_of ez, List.foldl_append]
      exact ⟨_, _, _, rfl, rfl⟩
    · obtain ⟨v2, v3, v4, rfl, rfl⟩ := p
      rw [List.take_of_length_le (by rw [List.length_map]; exact Nat.le_refl _)]
      walk_at "go"
      exact q _ s1
def sp_Calendar_over_spans : Sp := fun vs H Q _ => ∃ (p a : Addr) (ss : List (Int × Int)) (rest : Int) (qs : List Addr) (sp : List (Int × Int)), vs = [.ref p, .ref a] ∧ CalAt K H p ss rest ∧ CalOk ss rest ∧ LT H a qs (sp.map spanV) ∧ sp.length ≤ 1000 ∧
  ∀ H', Same H H' → Q (.int ((sp.map fun s => over ss rest s.1 s.2).sum)) H'
-- slots: 0 self, 1 spans, 2 first, 3 last
theorem sc_Calendar_over_spans : FnScope ["self", "spans", "first", "last"] ["self", "spans"] (defScope s_Calendar_over_spans) := ⟨rfl, rfl, rfl, by decide +kernel, rfl, by decide +kernel, by decide +kernel⟩
theorem cd_Calendar_over_spans (T : Tx K mg) : ∃ fd, Cd P w K mg base 3 (He.ma K (He.ga K "Calendar") "over_spans") ["self", "spans"] (sp_Calendar_over_spans (K := K)) fd := by
  obtain ⟨fd, F⟩ := T.F_Calendar_over_spans
  obtain ⟨_, K_Calendar_over⟩ := cd_Calendar_over (P := P) (w := w) (base := base) T
  refine ⟨fd, F.ok sc_Calendar_over_spans (fun vs H Q E h => ?_) (fun cdv A outer s H vs Q E hr h => ?_), FunD.bindsN F (fun _ _ _ _ _ _ us hl => match us, hl with | [_, _], _ => rfl), F.kp⟩
  · obtain ⟨p, a, ss, rest, qs, sp, rfl, _⟩ := h
    rfl
  · obtain ⟨p, a, ss, rest, qs, sp, rfl, C, O, L, hz, q⟩ := h
    refine ⟨_, PSs.nox (pss_one (ps_ret (pe_callB (cr_sum rfl) (by rfl) T.b_sum (by decide +kernel) (pa_cons (pe_lc (own := [("first", 2), ("last", 3)]) (g := (gTup K 2 (gCons (gName 2) (gCons (gName 3) gNil)))) (tt := tYes) (by rfl) sc_Calendar_over_spans.nd (pi_list (pv 1)) (blkOk_by (N := ["self", "spans", "first", "last"]) (sc := defScope s_Calendar_over_spans) (by decide +kernel)) (fun _ _ _ _ _ => (pg_tup rfl (pgs_cons (pg_name (i := 2) sc_Calendar_over_spans.nd rfl (Or.inl rfl)) (pgs_cons (pg_name (i := 3) sc_Calendar_over_spans.nd rfl (Or.inl rfl)) pgs_nil)))) (fun _ _ _ _ _ => pts_nil) (fun _ _ _ _ _ => (pe_meth (pv 0) T.c_Calendar T.m_Calendar_over K_Calendar_over.ok (hr.mono (by decide)) K_Calendar_over.bn .nil pass0 (pa_cons (pv 2) (pa_cons (pv 3) pa_nil))))) pa_nil)))), ?_⟩
    walk_at "go"
    refine w_rIt L.at_ fun D hD => ?_
    refine lpc_LT L (fun s => .int (over ss rest s.1 s.2)) hD (by omega) (fun i q r H' N e e3 s1 h1 => ?_) (fun x H' N N' h k => mono_tup2 N N' h k) (fun H' s1 e => ?_)
    · walk_at "go"
      refine ⟨rfl, ?_⟩
      obtain ⟨dx, ls, ps, hp, L0⟩ := C.ex
      walk_at "go"
      refine w_rRecv (s1 _ _ hp) no_Calendar_over ?_
      walk_at "go"
      exact ⟨_, _, _, _, _, rfl, C.same s1, O, fun H2 s2 => h1 _ s2⟩
    · walk_at "go"
      refine w_sum (ns := sp.map fun s => over ss rest s.1 s.2) (by rw [e, List.map_map]; rfl) ?_
      exact q _ s1
def cst (f l : Int) (s : List Int × Int) (r : Int × Int) : List Int × Int := (if f < s.2 + r.1 ∧ s.2 + r.1 ≤ l then s.1 ++ [s.2 + r.1] else s.1, s.2 + r.1)
def changes (strips : List (Int × Int)) (f l : Int) : List Int := (strips.foldl (cst f l) ([], 0)).1
theorem cst_len (f l : Int) : ∀ (ss : List (Int × Int)) (s : List Int × Int), (ss.foldl (cst f l) s).1.length ≤ s.1.length + ss.length
  | [], s => Nat.le_refl _
  | r :: ss, s => by
    rw [List.foldl_cons, List.length_cons]
    have h := cst_len f l ss (cst f l s r)
    have h2 : (cst f l s r).1.length ≤ s.1.length + 1 := by
      show (if f < s.2 + r.1 ∧ s.2 + r.1 ≤ l then s.1 ++ [s.2 + r.1] else s.1).length ≤ _
      split
      · simp
      · omega
    omega
def sp_Calendar_changes : Sp := fun vs H Q _ => ∃ (p : Addr) (ss : List (Int × Int)) (rest f l : Int), vs = [.ref p, .int f, .int l] ∧ CalAt K H p ss rest ∧ ss.length ≤ 1000 ∧ ∀ H' a, Same H H' → H a = none → H' a = some (.lst ((changes ss f l).map V.int)) → Q (.ref a) H'
-- slots: 0 self, 1 first, 2 last, 3 found, 4 begin, 5 many, 6 machines
theorem sc_Calendar_changes : FnScope ["self", "first", "last", "found", "begin", "many", "machines"] ["self", "first", "last"] (defScope s_Calendar_changes) := ⟨rfl, rfl, rfl, by decide +kernel, rfl, by decide +kernel, by decide +kernel⟩
theorem cd_Calendar_changes (T : Tx K mg) : ∃ fd, Cd P w K mg base 1 (He.ma K (He.ga K "Calendar") "changes") ["self", "first", "last"] (sp_Calendar_changes (K := K)) fd := by
  obtain ⟨fd, F⟩ := T.F_Calendar_changes
  refine ⟨fd, F.ok sc_Calendar_changes (fun vs H Q E h => ?_) (fun cdv A outer s H vs Q E hr h => ?_), FunD.bindsN F (fun _ _ _ _ _ _ us hl => match us, hl with | [_, _, _], _ => rfl), F.kp⟩
  · obtain ⟨p, ss, rest, f, l, rfl, _⟩ := h
    rfl
  · obtain ⟨p, ss, rest, f, l, rfl, C, hz, q⟩ := h
    refine ⟨_, PSs.nox (pss_cons (ps_set (i := 3) sc_Calendar_changes.nd rfl (Or.inl rfl) (pe_lst pa_nil))
      (pss_cons (ps_set (i := 4) sc_Calendar_changes.nd rfl (Or.inl rfl) pe_int)
      (pss_cons (ps_for PassesOwn.never rfl (pi_list (pe_fld (pv 0) rfl)) (pg_tup rfl (pgs_cons (pg_name (i := 5) sc_Calendar_changes.nd rfl (Or.inl rfl)) (pgs_cons (pg_name (i := 6) sc_Calendar_changes.nd rfl (Or.inl rfl)) pgs_nil))) (pss_cons (ps_aug (i := 4) sc_Calendar_changes.nd rfl (Or.inl rfl) (pv 5) ip_add)
      (pss_one (ps_if (pt_chain op_lt op_le (pv 1) (pv 4) (pv 2)) (pss_one (ps_expr (pe_bm PySem.F.plainAttrs_list PySem.F.slot_list_append PySem.F.type_list_append mt_append (pv 3) (pa_cons (pv 4) pa_nil)))) pss_nil))))
      (pss_one (ps_ret (pv 3)))))), ?_⟩
    walk_at "go"
    obtain ⟨dx, ls, ps, hp, L⟩ := C.ex
    intro a H1 ha s1 e1
    walk_at "go"
    refine w_rFld (s1 _ _ hp) T.c_Calendar T.n_Calendar_strips lk_Calendar_strips ?_
    refine w_rIt (s1 _ _ L.at_) ?_
    refine lp_LT (ps := ps) (rs := ss.map spanV) (fun i σ H' => ∃ v5 v6, σ = [some (.ref p), some (.int f), some (.int l), some (.ref a), some (.int ((ss.take i).foldl (cst f l) ([], 0)).2), v5, v6] ∧ Same H H' ∧ H' a = some (.lst (((ss.take i).foldl (cst f l) ([], 0)).1.map V.int))) ⟨none, none, rfl, s1, e1⟩ (fun i σ H' hi p => ?_) (fun i q' r σ H' hi hp' hr hq p => ?_) (fun σ H' p => ?_)
    · obtain ⟨v2, v3, rfl, s, _⟩ := p
      exact L.same s
    · obtain ⟨v2, v3, rfl, s, L2⟩ := p
      obtain ⟨z, ez, rfl⟩ := map_get hr
      rw [List.length_map] at hi
      have hlen : ((ss.take i).foldl (cst f l) ([], 0)).1.length ≤ 1000 := Nat.le_trans (cst_len _ _ _ _) (by rw [List.length_take]; simp; omega)
      rw [take_succ_of ez, List.foldl_append, List.foldl_cons, List.foldl_nil]
      generalize (ss.take i).foldl (cst f l) ([], 0) = acc at L2 hlen ⊢
      walk_at "go"
      refine ifD (fun hc => ?_) (fun hc => ?_)
      · walk_at "go"
        refine ifD (fun hc2 => ?_) (fun hc2 => ?_)
        · walk_at "go"
          refine w_rTyL L2 ?_
          walk_at "go"
          refine w_append L2 (by rw [List.length_map]; exact szlt (by omega)) fun H4 b4 e4 => ?_
          walk_at "go"
          refine ⟨_, _, rfl, Same.but s ha b4, ?_⟩
          rw [e4]
          unfold cst
          rw [if_pos ⟨hc, hc2⟩, List.map_append]
          rfl
        · walk_at "go"
          refine ⟨_, _, rfl, s, ?_⟩
          unfold cst
          rw [if_neg (fun h => hc2 h.2)]
          exact L2
      · walk_at "go"
        refine ⟨_, _, rfl, s, ?_⟩
        unfold cst
        rw [if_neg (fun h => hc h.1)]
        exact L2
    · obtain ⟨v2, v3, rfl, s, L2⟩ := p
      rw [List.take_of_length_le (by rw [List.length_map]; exact Nat.le_refl _)] at L2
      walk_at "go"
      exact q _ a s ha L2

end
end Due

set_option Elab.async false
set_option linter.all false
set_option maxRecDepth 100000
set_option maxHeartbeats 4000000
namespace Due
open PySem PySem.Spec PyProof.Rows L2
local macro_rules | `(tactic| walk_at "v") => `(tactic| ((with_reducible refine' w_var ?hv ?_); (case hv => exact rfl)))
local macro_rules | `(tactic| walk_at "go1") => `(tactic| first
  | with_reducible refine' w_seq ?_ | with_reducible refine' w_asg ?_ | with_reducible refine' w_name ?_ | with_reducible refine' w_ret ?_ | with_reducible refine' w_drop ?_ | with_reducible refine' w_ifs ?_ | with_reducible refine' w_next ?_ | with_reducible refine' w_retN ?_ | with_reducible refine' w_cont ?_
  | ((with_reducible refine' w_var ?hv ?_); (case hv => exact rfl)) | with_reducible refine' w_c ?_ | with_reducible refine' w_op ?_ | with_reducible refine' w_un ?_ | with_reducible refine' w_I0 ?_ | with_reducible refine' w_U ?_ | with_reducible refine' w_cmp ?_
  | ((with_reducible refine' w_eq ?hv ?_); (case hv => exact rfl)) | ((with_reducible refine' w_ne ?hv ?_); (case hv => exact rfl))
  | with_reducible refine' iteT ?_ | with_reducible refine' iteF ?_ | with_reducible refine' iteNT ?_ | with_reducible refine' iteNF ?_ | with_reducible refine' w_chain3 ?_ | with_reducible refine' w_augS ?_ | with_reducible refine' w_gsub ?_
  | with_reducible refine' w_isN ?_ | with_reducible refine' w_notN ?_ | with_reducible refine' w_rBl ?_ | with_reducible refine' w_B ?_ | with_reducible refine' w_test ?_ | with_reducible refine' w_and ?_ | with_reducible refine' w_or ?_ | with_reducible refine' w_not ?_
  | with_reducible refine' w_andV ?_ | with_reducible refine' w_orV ?_ | with_reducible refine' w_notV ?_ | with_reducible refine' w_chain ?_ | with_reducible refine' w_fld ?_ | with_reducible refine' w_sfld ?_ | with_reducible refine' w_nil ?_ | with_reducible refine' w_cons ?_
  | with_reducible refine' w_call ?_ | with_reducible refine' w_meth ?_ | with_reducible refine' w_make ?_ | with_reducible refine' w_CB ?_ | with_reducible refine' w_BM0 ?_ | with_reducible refine' w_BM ?_ | with_reducible refine' w_tup ?_ | with_reducible refine' w_lst ?_
  | with_reducible refine' w_for ?_ | with_reducible refine' w_iList ?_ | with_reducible refine' w_iTup ?_ | with_reducible refine' w_lc ?_ | with_reducible refine' w_yes ?_ | with_reducible refine' w_max2 ?_ | with_reducible refine' w_min2 ?_ | with_reducible refine' w_ipI ?_ | with_reducible refine' w_gcons ?_ | with_reducible refine' w_gnil ?_
  | ((with_reducible refine' w_aug ?hv ?_); (case hv => exact rfl))
  | ((with_reducible refine' w_gtup ?hv ?hn ?_); (case hv => assumption); (case hn => exact rfl))
  | ((with_reducible refine' w_ixT ?hv ?ha ?_); (case hv => assumption); (case ha => exact rfl))
  | ((with_reducible refine' w_newT ?hv ?_); (case hv => exact Nat.le_of_ble_eq_true rfl))
  | ((with_reducible refine' w_newL ?hv ?_); (case hv => exact Nat.le_of_ble_eq_true rfl)))
local macro_rules | `(tactic| walk_at "go") => `(tactic| repeat' walk_at "go1")
section
variable {P : Program} {w : World} {K : PySem.W.Frag} {mg : Str → Option Value} {base : Heap}
/-! ### tidy, marks, cells -/
def kOf (H : Hp) (v : V) : Int × Int := match v with
  | .ref q => (match H q with
    | some (.tup [.int i, .int j]) => (i, j)
    | _ => (0, 0))
  | _ => (0, 0)
theorem kOf_at {H : Hp} {q : Addr} {p : Int × Int} (e : H q = some (.tup (spanV p))) : kOf H (.ref q) = p := by
  show (match H q with
    | some (.tup [.int i, .int j]) => (i, j)
    | _ => (0, 0)) = p
  rw [e]
theorem pairwise_kOf {H : Hp} {R : Int × Int → Int × Int → Prop} : ∀ {qs : List Addr} {ss : List (Int × Int)}, TA' H qs (ss.map spanV) → ss.Pairwise R → (qs.map V.ref).Pairwise (fun x y => R (kOf H x) (kOf H y))
  | [], [], _, _ => List.Pairwise.nil
  | [], _ :: _, h, _ => by cases h
  | q :: qs, [], h, _ => by cases h
  | q :: qs, p :: ss, h, hp => by
    obtain ⟨h1, h2⟩ := List.pairwise_cons.mp hp
    cases h with
    | cons e t =>
      refine List.pairwise_cons.mpr ⟨fun y hy => ?_, pairwise_kOf t h2⟩
      obtain ⟨q2, hq2, rfl⟩ := List.mem_map.mp hy
      obtain ⟨i, hi⟩ := List.getElem?_of_mem hq2
      obtain ⟨r, hr, e2⟩ := prd_at t hi
      obtain ⟨z, hz, rfl⟩ := map_get hr
      rw [kOf_at e, kOf_at e2]
      exact h1 z (List.mem_of_getElem? hz)
def sp_tidy : Sp := fun vs H Q _ => ∃ (a : Addr) (ps : List Addr) (ss : List (Int × Int)), vs = [.ref a] ∧ LT H a ps (ss.map spanV) ∧ ss.length ≤ 200 ∧ (∀ p ∈ ss, 0 ≤ p.1 ∧ p.1 ≤ p.2 ∧ p.2 ≤ 10000000000) ∧ ss.Pairwise (fun p q => p.1 < q.1) ∧
  ∀ H' l qs, Same H H' → H l = none → LT H' l qs ((ss.foldl mstep []).map spanV) → Q (.ref l) H'
-- slots: 0 rows, 1 row
theorem sc_tidy : FnScope ["rows", "row"] ["rows"] (defScope s_tidy) := ⟨rfl, rfl, rfl, by decide +kernel, rfl, by decide +kernel, by decide +kernel⟩
theorem cd_tidy (T : Tx K mg) : ∃ fd, Cd P w K mg base 3 (He.ga K "tidy") ["rows"] sp_tidy fd := by
  obtain ⟨fd, F⟩ := T.F_tidy
  obtain ⟨_, K_is_span⟩ := cd_is_span (P := P) (w := w) (base := base) T
  obtain ⟨_, K_merged⟩ := cd_merged (P := P) (w := w) (base := base) T
  refine ⟨fd, F.ok sc_tidy (fun vs H Q E h => ?_) (fun cdv A outer s H vs Q E hr h => ?_), FunD.bindsN F (fun _ _ _ _ _ _ us hl => match us, hl with | [_], _ => rfl), F.kp⟩
  · obtain ⟨a, ps, ss, rfl, _⟩ := h
    rfl
  · obtain ⟨a, ps, ss, rfl, L, hz, hb, hp, q⟩ := h
    refine ⟨_, PSs.nox (pss_cons (ps_if (PW.pt (pw_or (pt_not (pt_val (pe_callB call_isi (by rfl) T.b_isinstance (by decide +kernel) (pa_cons (pv 0) (pa_cons (pe_bltn (by rfl) T.b_list (by decide +kernel) (v := .ty "list") rfl) pa_nil))))) (pw_or1 (pt_cmpR op_gt (pe_callB c_len (by rfl) T.b_len (by decide +kernel) (pa_cons (pv 0) pa_nil)) (pe_gi (by rfl) T.i_MOST_SPANS) (nomark _))))) (pss_one ps_never) pss_nil)
      (pss_cons (ps_for PassesOwn.never rfl (pi_list (pv 0)) (pg_name (i := 1) sc_tidy.nd rfl (Or.inl rfl)) (pss_one (ps_if (pt_not (pt_val (pe_call K_is_span.ok (hr.mono (by decide)) (by rfl) T.g_is_span K_is_span.kp K_is_span.bn .nil pass0 (pa_cons (pv 1) pa_nil)))) (pss_one ps_never) pss_nil)))
      (pss_one (ps_ret (pe_call K_merged.ok (hr.mono (by decide)) (by rfl) T.g_merged K_merged.kp K_merged.bn .nil pass0 (pa_cons (pe_callB cr_sortedPO (by rfl) T.b_sorted (by decide +kernel) (pa_cons (pv 0) pa_nil)) pa_nil)))))), ?_⟩
    walk_at "go"
    refine w_isi (b := true) (.lst L.at_) (by decide +kernel) ?_
    walk_at "go"
    refine w_lenL L.at_ ?_
    walk_at "go"
    refine ifF (by rw [List.length_map, L.len, List.length_map]; omega) ?_
    walk_at "go"
    refine w_rIt L.at_ ?_
    refine lp_LT (ps := ps) (rs := ss.map spanV) (fun i σ H' => ∃ v1, σ = [some (.ref a), v1] ∧ H' = H) ⟨none, rfl, rfl⟩ (fun i σ H' hi p => ?_) (fun i q' r σ H' hi hp' hr hq p => ?_) (fun σ H' p => ?_)
    · obtain ⟨v3, rfl, rfl⟩ := p
      exact L
    · obtain ⟨v3, rfl, rfl⟩ := p
      obtain ⟨z, ez, rfl⟩ := map_get hr
      walk_at "go"
      refine ⟨_, _, rfl, hq, hb z (List.mem_of_getElem? ez), ?_⟩
      walk_at "go"
      exact ⟨_, rfl, rfl⟩
    · obtain ⟨v3, rfl, rfl⟩ := p
      walk_at "go"
      have hsrt : SrtO.Srtd (ltP (kOf H')) (ps.map V.ref) := by
        refine (pairwise_kOf (R := fun p q => p.1 < q.1) L.tt hp).imp fun {x y} h => ?_
        refine SrtO.lexB_no.mpr ?_
        omega
      refine ⟨a, ps.map V.ref, kOf H', rfl, SqL.of L.at_, fun x hx => ?_, fun ys p h1 h2 hp2 => ?_⟩
      · obtain ⟨q2, hq2, rfl⟩ := List.mem_map.mp hx
        obtain ⟨i, hi⟩ := List.getElem?_of_mem hq2
        obtain ⟨r, hr, e2⟩ := prd_at L.tt hi
        obtain ⟨z, hz, rfl⟩ := map_get hr
        exact ⟨q2, rfl, by rw [kOf_at e2]; exact e2⟩
      · have e : ys = ps.map V.ref := SrtO.stb_uniq (ltP_swo _) h1 hsrt h2
        subst e
        walk_at "go"
        have s1 : Same H' (upd H' p (.lst (ps.map V.ref))) := Same.new hp2
        refine ⟨_, _, _, rfl, ⟨upd_same, L.tt.same s1⟩, by omega, fun H2 l qs s2 hl L2 => ?_⟩
        exact q H2 l qs (s1.trans s2) (s1.free hl) L2
/-- the begins of the windows, and the turns behind their ends -/
def rawMarks (js : List Job) : List Int := js.flatMap fun j => if j.fi ≤ j.la then [j.fi, j.la + 1] else []
theorem rawMarks_len : ∀ (js : List Job), (rawMarks js).length ≤ 2 * js.length
  | [] => Nat.le_refl _
  | j :: r => by
    have := rawMarks_len r
    show ((if j.fi ≤ j.la then [j.fi, j.la + 1] else []) ++ rawMarks r).length ≤ _
    rw [List.length_append, List.length_cons]
    split <;> simp <;> omega
theorem rawMarks_snoc (js : List Job) (j : Job) : rawMarks (js ++ [j]) = rawMarks js ++ (if j.fi ≤ j.la then [j.fi, j.la + 1] else []) := by
  unfold rawMarks
  rw [List.flatMap_append]
  simp
def sp_marks_of : Sp := fun vs H Q _ => ∃ (a : Addr) (ps : List Addr) (js : List Job), vs = [.ref a] ∧ LT H a ps (js.map jobV) ∧ js.length ≤ 12 ∧
  ∀ (H' : Hp) (l : Addr) (ms : List Int), Same H H' → H l = none → H' l = some (.lst (ms.map V.int)) → ms.Pairwise (· < ·) → (∀ k, k ∈ ms ↔ k ∈ rawMarks js) → ms.length ≤ 24 → Q (.ref l) H'
-- slots: 0 load, 1 found, 2 job
theorem sc_marks_of : FnScope ["load", "found", "job"] ["load"] (defScope s_marks_of) := ⟨rfl, rfl, rfl, by decide +kernel, rfl, by decide +kernel, by decide +kernel⟩
theorem cd_marks_of (T : Tx K mg) : ∃ fd, Cd P w K mg base 1 (He.ga K "marks_of") ["load"] sp_marks_of fd := by
  obtain ⟨fd, F⟩ := T.F_marks_of
  refine ⟨fd, F.ok sc_marks_of (fun vs H Q E h => ?_) (fun cdv A outer s H vs Q E hr h => ?_), FunD.bindsN F (fun _ _ _ _ _ _ us hl => match us, hl with | [_], _ => rfl), F.kp⟩
  · obtain ⟨a, ps, js, rfl, _⟩ := h
    rfl
  · obtain ⟨a, ps, js, rfl, L, hz, q⟩ := h
    refine ⟨_, PSs.nox (pss_cons (ps_set (i := 1) sc_marks_of.nd rfl (Or.inl rfl) (pe_lst pa_nil))
      (pss_cons (ps_for PassesOwn.never rfl (pi_list (pv 0)) (pg_name (i := 2) sc_marks_of.nd rfl (Or.inl rfl)) (pss_one (ps_if (pt_cmpR op_le (pe_ix ix_tup (pv 2) pe_int (fun _ _ => rfl)) (pe_ix ix_tup (pv 2) pe_int (fun _ _ => rfl)) (nomark _)) (pss_cons (ps_expr (pe_bm PySem.F.plainAttrs_list PySem.F.slot_list_append PySem.F.type_list_append mt_append (pv 1) (pa_cons (pe_ix ix_tup (pv 2) pe_int (fun _ _ => rfl)) pa_nil)))
      (pss_one (ps_expr (pe_bm PySem.F.plainAttrs_list PySem.F.slot_list_append PySem.F.type_list_append mt_append (pv 1) (pa_cons (pe_op op_add (pe_ix ix_tup (pv 2) pe_int (fun _ _ => rfl)) pe_int) pa_nil))))) pss_nil)))
      (pss_one (ps_ret (pe_callB (cr_sortedSet rfl) (by rfl) T.b_sorted (by decide +kernel) (pa_cons (pe_callTy (c_setL rfl) (by rfl) T.b_set (by decide +kernel) (pa_cons (pv 1) pa_nil)) pa_nil)))))), ?_⟩
    walk_at "go"
    intro l H1 hl s1 e1
    walk_at "go"
    refine w_rIt (s1 _ _ L.at_) ?_
    refine lp_LT (ps := ps) (rs := js.map jobV) (fun i σ H' => ∃ v2, σ = [some (.ref a), some (.ref l), v2] ∧ Same H H' ∧ H' l = some (.lst ((rawMarks (js.take i)).map V.int))) ⟨none, rfl, s1, e1⟩ (fun i σ H' hi p => ?_) (fun i q' r σ H' hi hp hr hq p => ?_) (fun σ H' p => ?_)
    · obtain ⟨v2, rfl, s, _⟩ := p
      exact L.same s
    · obtain ⟨v2, rfl, s, el⟩ := p
      obtain ⟨j, ej, rfl⟩ := map_get hr
      rw [List.length_map] at hi
      have hlen : (rawMarks (js.take i)).length ≤ 24 := Nat.le_trans (rawMarks_len _) (by rw [List.length_take]; omega)
      rw [take_succ_of ej, rawMarks_snoc]
      generalize rawMarks (js.take i) = acc at el hlen ⊢
      walk_at "go"
      refine ifD (fun hc => ?_) (fun hc => ?_)
      · rw [if_pos hc]
        walk_at "go"
        refine w_rTyL el ?_
        walk_at "go"
        refine w_append el (szlt (by rw [List.length_map]; omega)) fun H4 b4 e4 => ?_
        have hq4 := b4 _ _ (ne_of hq el (by intro h; cases h)) hq
        walk_at "go"
        refine w_rTyL e4 ?_
        walk_at "go"
        refine w_append e4 (szlt (by rw [List.length_append, List.length_map]; simp; omega)) fun H5 b5 e5 => ?_
        walk_at "go"
        refine ⟨_, rfl, Same.but (Same.but s hl b4) hl b5, ?_⟩
        rw [e5, List.map_append]
        simp
      · rw [if_neg hc, List.append_nil]
        walk_at "go"
        exact ⟨_, rfl, s, el⟩
    · obtain ⟨v2, rfl, s, el⟩ := p
      rw [List.take_of_length_le (by rw [List.length_map]; exact Nat.le_refl _)] at el
      have hlen := rawMarks_len js
      walk_at "go"
      refine ⟨l, rawMarks js, rfl, SqL.of el, by omega, fun p c hp hc => ?_⟩
      walk_at "go"
      have s2 : Same H' (upd H' p (SetO w p (fun j => decide (j ∈ rawMarks js)) c)) := Same.new hp
      refine ⟨p, _, c, rfl, upd_same, by omega, fun ns p2 h1 h2 h3 hp2 => ?_⟩
      have s3 := Same.new (o := .lst (ns.map V.int)) hp2
      refine q _ p2 ns (s.trans (s2.trans s3)) (s.free (s2.free hp2)) upd_same h1 (fun k => ?_) (by omega)
      rw [h2 k]
      exact decide_eq_true_iff
def wanted (js : List Job) (t : Int) : Bool := js.any fun j => decide (j.fi ≤ t ∧ t ≤ j.la)
def sp_is_wanted : Sp := fun vs H Q _ => ∃ (a : Addr) (ps : List Addr) (js : List Job) (t : Int), vs = [.ref a, .int t] ∧ LT H a ps (js.map jobV) ∧ Q (.bl (wanted js t)) H
-- slots: 0 load, 1 turn, 2 job
theorem sc_is_wanted : FnScope ["load", "turn", "job"] ["load", "turn"] (defScope s_is_wanted) := ⟨rfl, rfl, rfl, by decide +kernel, rfl, by decide +kernel, by decide +kernel⟩
theorem cd_is_wanted (T : Tx K mg) : ∃ fd, Cd P w K mg base 1 (He.ga K "is_wanted") ["load", "turn"] sp_is_wanted fd := by
  obtain ⟨fd, F⟩ := T.F_is_wanted
  refine ⟨fd, F.ok sc_is_wanted (fun vs H Q E h => ?_) (fun cdv A outer s H vs Q E hr h => ?_), FunD.bindsN F (fun _ _ _ _ _ _ us hl => match us, hl with | [_, _], _ => rfl), F.kp⟩
  · obtain ⟨a, ps, js, t, rfl, _⟩ := h
    rfl
  · obtain ⟨a, ps, js, t, rfl, L, q⟩ := h
    refine ⟨_, PSs.nox (pss_cons (ps_for PassesOwn.never rfl (pi_list (pv 0)) (pg_name (i := 2) sc_is_wanted.nd rfl (Or.inl rfl)) (pss_one (ps_if (pt_chain op_le op_le (pe_ix ix_tup (pv 2) pe_int (fun _ _ => rfl)) (pv 1) (pe_ix ix_tup (pv 2) pe_int (fun _ _ => rfl))) (pss_one (ps_ret pe_bl)) pss_nil)))
      (pss_one (ps_ret pe_bl))), ?_⟩
    walk_at "go"
    refine w_rIt L.at_ ?_
    refine lp_LT (ps := ps) (rs := js.map jobV) (fun i σ H' => ∃ v2, σ = [some (.ref a), some (.int t), v2] ∧ H' = H ∧ ∀ j ∈ js.take i, ¬ (j.fi ≤ t ∧ t ≤ j.la)) ⟨none, rfl, rfl, fun j hj => by simp at hj⟩ (fun i σ H' hi p => ?_) (fun i q' r σ H' hi hp hr hq p => ?_) (fun σ H' p => ?_)
    · obtain ⟨v2, rfl, rfl, _⟩ := p
      exact L
    · obtain ⟨v2, rfl, rfl, no⟩ := p
      obtain ⟨j, ej, rfl⟩ := map_get hr
      have next : ¬ (j.fi ≤ t ∧ t ≤ j.la) → ∀ k ∈ js.take (i + 1), ¬ (k.fi ≤ t ∧ t ≤ k.la) := fun h k hk => by
        rw [take_succ_of ej, List.mem_append, List.mem_singleton] at hk
        rcases hk with hk | rfl
        · exact no k hk
        · exact h
      walk_at "go"
      refine ifD (fun hc => ?_) (fun hc => ?_)
      · walk_at "go"
        refine ifD (fun hc2 => ?_) (fun hc2 => ?_)
        · walk_at "go"
          have e : wanted js t = true := List.any_eq_true.mpr ⟨j, List.mem_of_getElem? ej, decide_eq_true ⟨hc, hc2⟩⟩
          rw [← e]
          exact q
        · walk_at "go"
          exact ⟨_, rfl, rfl, next fun h => hc2 h.2⟩
      · walk_at "go"
        exact ⟨_, rfl, rfl, next fun h => hc h.1⟩
    · obtain ⟨v2, rfl, rfl, no⟩ := p
      rw [List.take_of_length_le (by rw [List.length_map]; exact Nat.le_refl _)] at no
      walk_at "go"
      have e : wanted js t = false := List.any_eq_false.mpr fun j hj => by simpa using no j hj
      rw [← e]
      exact q

end
end Due

set_option Elab.async false
set_option linter.all false
set_option maxRecDepth 100000
set_option maxHeartbeats 4000000
namespace Due
open PySem PySem.Spec PyProof.Rows L2
local macro_rules | `(tactic| walk_at "v") => `(tactic| ((with_reducible refine' w_var ?hv ?_); (case hv => exact rfl)))
local macro_rules | `(tactic| walk_at "go1") => `(tactic| first
  | with_reducible refine' w_seq ?_ | with_reducible refine' w_asg ?_ | with_reducible refine' w_name ?_ | with_reducible refine' w_ret ?_ | with_reducible refine' w_drop ?_ | with_reducible refine' w_ifs ?_ | with_reducible refine' w_next ?_ | with_reducible refine' w_retN ?_ | with_reducible refine' w_cont ?_
  | ((with_reducible refine' w_var ?hv ?_); (case hv => exact rfl)) | with_reducible refine' w_c ?_ | with_reducible refine' w_op ?_ | with_reducible refine' w_un ?_ | with_reducible refine' w_I0 ?_ | with_reducible refine' w_U ?_ | with_reducible refine' w_cmp ?_
  | ((with_reducible refine' w_eq ?hv ?_); (case hv => exact rfl)) | ((with_reducible refine' w_ne ?hv ?_); (case hv => exact rfl))
  | with_reducible refine' iteT ?_ | with_reducible refine' iteF ?_ | with_reducible refine' iteNT ?_ | with_reducible refine' iteNF ?_ | with_reducible refine' w_chain3 ?_ | with_reducible refine' w_augS ?_ | with_reducible refine' w_gsub ?_
  | with_reducible refine' w_sl ?_ | with_reducible refine' w_noPart ?_ | with_reducible refine' w_part ?_ | with_reducible refine' w_rPart ?_ | with_reducible refine' w_iZip ?_ | with_reducible refine' w_iEnum ?_ | with_reducible refine' w_iRng ?_
  | with_reducible refine' w_isN ?_ | with_reducible refine' w_notN ?_ | with_reducible refine' w_rBl ?_ | with_reducible refine' w_B ?_ | with_reducible refine' w_test ?_ | with_reducible refine' w_and ?_ | with_reducible refine' w_or ?_ | with_reducible refine' w_not ?_
  | with_reducible refine' w_andV ?_ | with_reducible refine' w_orV ?_ | with_reducible refine' w_notV ?_ | with_reducible refine' w_chain ?_ | with_reducible refine' w_fld ?_ | with_reducible refine' w_sfld ?_ | with_reducible refine' w_nil ?_ | with_reducible refine' w_cons ?_
  | with_reducible refine' w_call ?_ | with_reducible refine' w_meth ?_ | with_reducible refine' w_make ?_ | with_reducible refine' w_CB ?_ | with_reducible refine' w_BM0 ?_ | with_reducible refine' w_BM ?_ | with_reducible refine' w_tup ?_ | with_reducible refine' w_lst ?_
  | with_reducible refine' w_for ?_ | with_reducible refine' w_iList ?_ | with_reducible refine' w_iTup ?_ | with_reducible refine' w_lc ?_ | with_reducible refine' w_yes ?_ | with_reducible refine' w_max2 ?_ | with_reducible refine' w_min2 ?_ | with_reducible refine' w_ipI ?_ | with_reducible refine' w_gcons ?_ | with_reducible refine' w_gnil ?_
  | ((with_reducible refine' w_aug ?hv ?_); (case hv => exact rfl))
  | ((with_reducible refine' w_gtup ?hv ?hn ?_); (case hv => assumption); (case hn => exact rfl))
  | ((with_reducible refine' w_ixT ?hv ?ha ?_); (case hv => assumption); (case ha => exact rfl))
  | ((with_reducible refine' w_newT ?hv ?_); (case hv => exact Nat.le_of_ble_eq_true rfl))
  | ((with_reducible refine' w_newL ?hv ?_); (case hv => exact Nat.le_of_ble_eq_true rfl)))
local macro_rules | `(tactic| walk_at "go") => `(tactic| repeat' walk_at "go1")
section
variable {P : Program} {w : World} {K : PySem.W.Frag} {mg : Str → Option Value} {base : Heap}
/-! ### cells -/
def cellMk (strips : List (Int × Int)) (rest : Int) (p : Int × Int) : Int × Int × Int := (p.1, p.2 - 1, calAt strips rest p.1)
def cellsOf (strips : List (Int × Int)) (rest b e : Int) : List (Int × Int × Int) := (cons2 ([b] ++ changes strips b (e - 1) ++ [e])).map (cellMk strips rest)
def cellStep (js : List Job) (strips : List (Int × Int)) (rest : Int) (p : Int × Int) : List (Int × Int × Int) := if wanted js p.1 = true then cellsOf strips rest p.1 p.2 else []
def cellsL (js : List Job) (strips : List (Int × Int)) (rest : Int) (ms : List Int) : List (Int × Int × Int) := (cons2 ms).flatMap (cellStep js strips rest)
theorem changes_len (strips : List (Int × Int)) (f l : Int) : (changes strips f l).length ≤ strips.length := by
  have := cst_len f l strips ([], 0)
  unfold changes
  simpa using this
theorem cellStep_len (js : List Job) (strips : List (Int × Int)) (rest : Int) (p : Int × Int) : (cellStep js strips rest p).length ≤ strips.length + 1 := by
  unfold cellStep
  split
  · unfold cellsOf
    rw [List.length_map, cons2_len, List.length_append, List.length_append]
    have := changes_len strips p.1 (p.2 - 1)
    simp
    omega
  · simp
theorem flat_len {α β : Type} {f : α → List β} {n : Nat} (h : ∀ a, (f a).length ≤ n) : ∀ (l : List α), (l.flatMap f).length ≤ l.length * n
  | [] => by simp
  | a :: r => by
    have h1 := flat_len h r
    have h2 := h a
    rw [List.flatMap_cons, List.length_append, List.length_cons, Nat.add_mul]
    omega
theorem flatMap_take {α β : Type} {f : α → List β} {l : List α} {i : Nat} {a : α} (h : l[i]? = some a) : (l.take (i + 1)).flatMap f = (l.take i).flatMap f ++ f a := by
  rw [take_succ_of h, List.flatMap_append]
  simp
def sp_cells : Sp := fun vs H Q _ => ∃ (a p : Addr) (ps : List Addr) (js : List Job) (ss : List (Int × Int)) (rest : Int), vs = [.ref a, .ref p] ∧ LT H a ps (js.map jobV) ∧ LoadOk js ∧ CalAt K H p ss rest ∧ CalOk ss rest ∧
  ∀ (H' : Hp) (l : Addr) (qs : List Addr) (ms : List Int), Same H H' → H l = none → ms.Pairwise (· < ·) → (∀ k, k ∈ ms ↔ k ∈ rawMarks js) → ms.length ≤ 24 → LT H' l qs ((cellsL js ss rest ms).map cellV) → Q (.ref l) H'
-- slots: 0 load, 1 calendar, 2 found, 3 marks, 4 begin, 5 end, 6 cuts, 7 first, 8 behind
theorem sc_cells : FnScope ["load", "calendar", "found", "marks", "begin", "end", "cuts", "first", "behind"] ["load", "calendar"] (defScope s_cells) := ⟨rfl, rfl, rfl, by decide +kernel, rfl, by decide +kernel, by decide +kernel⟩
theorem cd_cells (T : Tx K mg) : ∃ fd, Cd P w K mg base 5 (He.ga K "cells") ["load", "calendar"] (sp_cells (K := K)) fd := by
  obtain ⟨fd, F⟩ := T.F_cells
  obtain ⟨_, K_Calendar_at⟩ := cd_Calendar_at (P := P) (w := w) (base := base) T
  obtain ⟨_, K_Calendar_changes⟩ := cd_Calendar_changes (P := P) (w := w) (base := base) T
  obtain ⟨_, K_check_load⟩ := cd_check_load (P := P) (w := w) (base := base) T
  obtain ⟨_, K_is_wanted⟩ := cd_is_wanted (P := P) (w := w) (base := base) T
  obtain ⟨_, K_marks_of⟩ := cd_marks_of (P := P) (w := w) (base := base) T
  refine ⟨fd, F.ok sc_cells (fun vs H Q E h => ?_) (fun cdv A outer s H vs Q E hr h => ?_), FunD.bindsN F (fun _ _ _ _ _ _ us hl => match us, hl with | [_, _], _ => rfl), F.kp⟩
  · obtain ⟨a, p, ps, js, ss, rest, rfl, _⟩ := h
    rfl
  · obtain ⟨a, p, ps, js, ss, rest, rfl, L, O, C, CO, q⟩ := h
    refine ⟨_, PSs.nox (pss_cons (ps_expr (pe_call K_check_load.ok (hr.mono (by decide)) (by rfl) T.g_check_load K_check_load.kp K_check_load.bn .nil pass0 (pa_cons (pv 0) pa_nil)))
      (pss_cons (ps_set (i := 2) sc_cells.nd rfl (Or.inl rfl) (pe_lst pa_nil))
      (pss_cons (ps_set (i := 3) sc_cells.nd rfl (Or.inl rfl) (pe_call K_marks_of.ok (hr.mono (by decide)) (by rfl) T.g_marks_of K_marks_of.kp K_marks_of.bn .nil pass0 (pa_cons (pv 0) pa_nil)))
      (pss_cons (ps_for PassesOwn.never rfl (pi_zip (by rfl) T.b_zip (pa_cons (pe_slice sl_list (pv 3) po_none (po_some (pe_un un_neg pe_int))) (pa_cons (pe_slice sl_list (pv 3) (po_some pe_int) po_none) pa_nil))) (pg_tup rfl (pgs_cons (pg_name (i := 4) sc_cells.nd rfl (Or.inl rfl)) (pgs_cons (pg_name (i := 5) sc_cells.nd rfl (Or.inl rfl)) pgs_nil))) (pss_one (ps_if (pt_val (pe_call K_is_wanted.ok (hr.mono (by decide)) (by rfl) T.g_is_wanted K_is_wanted.kp K_is_wanted.bn .nil pass0 (pa_cons (pv 0) (pa_cons (pv 4) pa_nil)))) (pss_cons (ps_set (i := 6) sc_cells.nd rfl (Or.inl rfl) (pe_op op_cat (pe_op op_cat (pe_lst (pa_cons (pv 4) pa_nil)) (pe_meth (pv 1) T.c_Calendar T.m_Calendar_changes K_Calendar_changes.ok (hr.mono (by decide)) K_Calendar_changes.bn .nil pass0 (pa_cons (pv 4) (pa_cons (pe_op op_sub (pv 5) pe_int) pa_nil)))) (pe_lst (pa_cons (pv 5) pa_nil))))
      (pss_one (ps_for PassesOwn.never rfl (pi_zip (by rfl) T.b_zip (pa_cons (pe_slice sl_list (pv 6) po_none (po_some (pe_un un_neg pe_int))) (pa_cons (pe_slice sl_list (pv 6) (po_some pe_int) po_none) pa_nil))) (pg_tup rfl (pgs_cons (pg_name (i := 7) sc_cells.nd rfl (Or.inl rfl)) (pgs_cons (pg_name (i := 8) sc_cells.nd rfl (Or.inl rfl)) pgs_nil))) (pss_one (ps_expr (pe_bm PySem.F.plainAttrs_list PySem.F.slot_list_append PySem.F.type_list_append mt_append (pv 2) (pa_cons (pe_tup (pa_cons (pv 7) (pa_cons (pe_op op_sub (pv 8) pe_int) (pa_cons (pe_meth (pv 1) T.c_Calendar T.m_Calendar_at K_Calendar_at.ok (hr.mono (by decide)) K_Calendar_at.bn .nil pass0 (pa_cons (pv 7) pa_nil)) pa_nil)))) pa_nil))))))) pss_nil)))
      (pss_one (ps_ret (pv 2))))))), ?_⟩
    walk_at "go"
    refine ⟨_, _, _, rfl, L, O, fun H1 s1 => ?_⟩
    walk_at "go"
    intro l H2 hl2 s2 e2
    have hl : H l = none := s1.free hl2
    have s12 := s1.trans s2
    walk_at "go"
    refine ⟨_, _, _, rfl, L.same s12, O.len, fun H3 mm ms s3 hm em hms hmm hmz => ?_⟩
    walk_at "go"
    refine w_slL em fun z1 H4 hz1 s4 e4 => ?_
    walk_at "go"
    refine w_slL (s4 _ _ em) fun z2 H5 hz2 s5 e5 => ?_
    rw [cut_init] at e4
    rw [cut_tail] at e5
    walk_at "go"
    refine w_rZip (s5 _ _ e4) e5 ?_
    have s15 := ((s12.trans s3).trans s4).trans s5
    have el5 : H5 l = some (.lst []) := s5 _ _ (s4 _ _ (s3 _ _ e2))
    have hn : (cons2 ms).length = min ((ms.map V.int).dropLast).length ((ms.map V.int).drop 1).length := by
      rw [cons2_len, List.length_dropLast, List.length_drop, List.length_map]
      omega
    have hz12 : H z1 = none := (s12.trans s3).free hz1
    have hz22 : H z2 = none := ((s12.trans s3).trans s4).free hz2
    have nz1 : z1 ≠ l := fun e => by rw [e, s3 _ _ e2] at hz1; cases hz1
    have nz2 : z2 ≠ l := fun e => by rw [e, s4 _ _ (s3 _ _ e2)] at hz2; cases hz2
    refine lp_zip hn (fun i σ H' => ∃ qs v4 v5 v6 v7 v8, σ = [some (.ref a), some (.ref p), some (.ref l), some (.ref mm), v4, v5, v6, v7, v8] ∧ Same H H' ∧ H' z1 = some (.lst (ms.map V.int).dropLast) ∧ H' z2 = some (.lst ((ms.map V.int).drop 1)) ∧ LT H' l qs ((((cons2 ms).take i).flatMap (cellStep js ss rest)).map cellV))
      ⟨[], none, none, none, none, none, rfl, s15, s5 _ _ e4, e5, ⟨el5, .nil⟩⟩ (fun i σ H' hi p => ?_) (fun i x y t σ H6 H7 hi hx hy p ht s7 e7 => ?_) (fun σ H' p => ?_)
    · obtain ⟨qs, v4, v5, v6, v7, v8, rfl, s, k1, k2, L2⟩ := p
      exact ⟨k1, k2⟩
    · obtain ⟨qs, v4, v5, v6, v7, v8, rfl, s, k1, k2, L2⟩ := p
      obtain ⟨⟨b, e⟩, ez, rfl, rfl⟩ := cons2_at hx hy
      rw [flatMap_take ez]
      have hlen : (((cons2 ms).take i).flatMap (cellStep js ss rest)).length ≤ 1000 := by
        have h1 := flat_len (cellStep_len js ss rest) ((cons2 ms).take i)
        have h2 : ((cons2 ms).take i).length ≤ 23 := by rw [List.length_take, cons2_len]; omega
        have h3 := CO.len
        have h4 : ((cons2 ms).take i).length * (ss.length + 1) ≤ 23 * 17 := Nat.mul_le_mul h2 (by omega)
        omega
      generalize ((cons2 ms).take i).flatMap (cellStep js ss rest) = acc at L2 hlen ⊢
      have s7' := s.trans s7
      walk_at "go"
      refine ⟨_, _, _, _, rfl, L.same s7', ?_⟩
      walk_at "go"
      refine ifB (fun hw => ?_) (fun hw => ?_)
      · walk_at "go"
        intro c1 H8 hc1 s8 e8
        walk_at "go"
        obtain ⟨dx, ls, psl, hp, _⟩ := (C.same (s7'.trans s8)).ex
        refine w_rRecv hp no_Calendar_changes ?_
        walk_at "go"
        refine ⟨_, _, _, _, _, rfl, C.same (s7'.trans s8), by have := CO.len; omega, fun H9 c2 s9 hc2 e9 => ?_⟩
        have hcl := changes_len ss b (e - 1)
        have hsl := CO.len
        refine w_cat (s9 _ _ e8) e9 (by rw [List.length_map]; simp; omega) fun c3 H10 hc3 s10 e10 => ?_
        walk_at "go"
        intro c4 H11 hc4 s11 e11
        walk_at "go"
        refine w_cat (s11 _ _ e10) e11 (by rw [List.length_append, List.length_map]; simp; omega) fun c5 H12 hc5 s13 e12 => ?_
        have ecut : [V.int b] ++ List.map V.int (changes ss b (e - 1)) ++ [V.int e] = ([b] ++ changes ss b (e - 1) ++ [e]).map V.int := by rw [List.map_append, List.map_append]; rfl
        rw [ecut] at e12
        have hcs : cellStep js ss rest (b, e) = cellsOf ss rest b e := by unfold cellStep; rw [if_pos hw]
        rw [hcs]
        unfold cellsOf
        generalize hcu : [b] ++ changes ss b (e - 1) ++ [e] = cu at e12 ⊢
        have hcul : cu.length ≤ 100 := by rw [← hcu, List.length_append, List.length_append]; simp; omega
        walk_at "go"
        refine w_slL e12 fun y1 H13 hy1 s14 e14 => ?_
        walk_at "go"
        refine w_slL (s14 _ _ e12) fun y2 H14 hy2 s16 e16 => ?_
        rw [cut_init] at e14
        rw [cut_tail] at e16
        walk_at "go"
        refine w_rZip (s16 _ _ e14) e16 ?_
        have st : Same H6 H14 := ((((((s7.trans s8).trans s9).trans s10).trans s11).trans s13).trans s14).trans s16
        have hn2 : (cons2 cu).length = min ((cu.map V.int).dropLast).length ((cu.map V.int).drop 1).length := by
          rw [cons2_len, List.length_dropLast, List.length_drop, List.length_map]
          omega
        have lin : H6 l = some (.lst (qs.map V.ref)) := L2.at_
        have ny1 : y1 ≠ l := fun q => by
          have := ((((((s7.trans s8).trans s9).trans s10).trans s11).trans s13)) _ _ lin
          rw [q, this] at hy1; cases hy1
        have ny2 : y2 ≠ l := fun q => by
          have := (((((((s7.trans s8).trans s9).trans s10).trans s11).trans s13).trans s14)) _ _ lin
          rw [q, this] at hy2; cases hy2
        refine lp_zip hn2 (fun k σ H' => ∃ qs v4 v5 v6 v7 v8, σ = [some (.ref a), some (.ref p), some (.ref l), some (.ref mm), v4, v5, v6, v7, v8] ∧ Same H H' ∧ (H' z1 = some (.lst (ms.map V.int).dropLast) ∧ H' z2 = some (.lst ((ms.map V.int).drop 1))) ∧ (H' y1 = some (.lst (cu.map V.int).dropLast) ∧ H' y2 = some (.lst ((cu.map V.int).drop 1))) ∧
            LT H' l qs ((acc ++ ((cons2 cu).take k).map (cellMk ss rest)).map cellV))
          ⟨qs, _, _, _, _, _, rfl, s.trans st, ⟨st _ _ k1, st _ _ k2⟩, ⟨s16 _ _ e14, e16⟩, by rw [List.take_zero, List.map_nil, List.append_nil]; exact L2.same st⟩ (fun i σ H' hi p => ?_) (fun k x y t2 σ H15 H16 hk hx hy p ht2 s17 e17 => ?_) (fun σ H' p => ?_)
        · obtain ⟨qs, v4, v5, v6, v7, v8, rfl, s, k1, k2, L2⟩ := p
          exact k2
        · obtain ⟨qs2, v4, v5, v6, v7, v8, rfl, sH, kz, ky, L3⟩ := p
          obtain ⟨⟨c, d⟩, ec, rfl, rfl⟩ := cons2_at hx hy
          have hstep : acc ++ (List.take (k + 1) (cons2 cu)).map (cellMk ss rest) = (acc ++ ((cons2 cu).take k).map (cellMk ss rest)) ++ [cellMk ss rest (c, d)] := by
            rw [take_succ_of ec, List.map_append, List.append_assoc]; rfl
          rw [hstep]
          have hlen2 : (acc ++ ((cons2 cu).take k).map (cellMk ss rest)).length ≤ 2000 := by
            rw [List.length_append, List.length_map, List.length_take, cons2_len]
            omega
          generalize (acc ++ ((cons2 cu).take k).map (cellMk ss rest)) = acc2 at L3 hlen2 ⊢
          walk_at "go"
          refine w_rTyL (s17 _ _ L3.at_) ?_
          walk_at "go"
          obtain ⟨dx, ls, psl, hp, _⟩ := (C.same (sH.trans s17)).ex
          refine w_rRecv hp no_Calendar_at ?_
          walk_at "go"
          refine ⟨_, _, _, _, rfl, C.same (sH.trans s17), by omega, fun H17 s18 => ?_⟩
          walk_at "go"
          intro t3 H18 ht3 s19 e19
          walk_at "go"
          have L4 := ((L3.same s17).same s18).same s19
          have st2 := (s17.trans s18).trans s19
          refine w_append L4.at_ (by rw [List.length_map, L4.len, List.length_map]; exact szlt (by omega)) fun H19 b19 e20 => ?_
          walk_at "go"
          refine ⟨qs2 ++ [t3], _, _, _, _, _, rfl, Same.but (sH.trans st2) hl b19, ⟨b19 _ _ nz1 (st2 _ _ kz.1), b19 _ _ nz2 (st2 _ _ kz.2)⟩, ⟨b19 _ _ ny1 (st2 _ _ ky.1), b19 _ _ ny2 (st2 _ _ ky.2)⟩, ?_⟩
          have := LT.snoc L4 e19 b19 e20
          rw [List.map_append]
          exact this
        · obtain ⟨qs2, v4, v5, v6, v7, v8, rfl, sH, kz, ky, L3⟩ := p
          rw [List.take_of_length_le (Nat.le_refl _)] at L3
          walk_at "go"
          exact ⟨qs2, _, _, _, _, _, rfl, sH, kz.1, kz.2, L3⟩
      · walk_at "go"
        have hcs : cellStep js ss rest (b, e) = [] := by unfold cellStep; rw [if_neg (by rw [hw]; exact Bool.false_ne_true)]
        rw [hcs, List.append_nil]
        exact ⟨qs, _, _, _, _, _, rfl, s7', s7 _ _ k1, s7 _ _ k2, L2.same s7⟩
    · obtain ⟨qs, v4, v5, v6, v7, v8, rfl, s, k1, k2, L2⟩ := p
      rw [List.take_of_length_le (Nat.le_refl _)] at L2
      walk_at "go"
      exact q _ l qs ms s hl hms hmm hmz L2

end
end Due

set_option Elab.async false
set_option linter.all false
set_option maxRecDepth 100000
set_option maxHeartbeats 4000000
namespace Due
open PySem PySem.Spec PyProof.Rows L2
local macro_rules | `(tactic| walk_at "v") => `(tactic| ((with_reducible refine' w_var ?hv ?_); (case hv => exact rfl)))
local macro_rules | `(tactic| walk_at "go1") => `(tactic| first
  | with_reducible refine' w_seq ?_ | with_reducible refine' w_asg ?_ | with_reducible refine' w_name ?_ | with_reducible refine' w_ret ?_ | with_reducible refine' w_drop ?_ | with_reducible refine' w_ifs ?_ | with_reducible refine' w_next ?_ | with_reducible refine' w_retN ?_ | with_reducible refine' w_cont ?_
  | ((with_reducible refine' w_var ?hv ?_); (case hv => exact rfl)) | with_reducible refine' w_c ?_ | with_reducible refine' w_op ?_ | with_reducible refine' w_un ?_ | with_reducible refine' w_I0 ?_ | with_reducible refine' w_U ?_ | with_reducible refine' w_cmp ?_
  | ((with_reducible refine' w_eq ?hv ?_); (case hv => exact rfl)) | ((with_reducible refine' w_ne ?hv ?_); (case hv => exact rfl))
  | with_reducible refine' iteT ?_ | with_reducible refine' iteF ?_ | with_reducible refine' iteNT ?_ | with_reducible refine' iteNF ?_ | with_reducible refine' w_chain3 ?_ | with_reducible refine' w_augS ?_ | with_reducible refine' w_gsub ?_
  | with_reducible refine' w_sl ?_ | with_reducible refine' w_noPart ?_ | with_reducible refine' w_part ?_ | with_reducible refine' w_rPart ?_ | with_reducible refine' w_iZip ?_ | with_reducible refine' w_iEnum ?_ | with_reducible refine' w_iRng ?_
  | with_reducible refine' w_isN ?_ | with_reducible refine' w_notN ?_ | with_reducible refine' w_rBl ?_ | with_reducible refine' w_B ?_ | with_reducible refine' w_test ?_ | with_reducible refine' w_and ?_ | with_reducible refine' w_or ?_ | with_reducible refine' w_not ?_
  | with_reducible refine' w_andV ?_ | with_reducible refine' w_orV ?_ | with_reducible refine' w_notV ?_ | with_reducible refine' w_chain ?_ | with_reducible refine' w_fld ?_ | with_reducible refine' w_sfld ?_ | with_reducible refine' w_nil ?_ | with_reducible refine' w_cons ?_
  | with_reducible refine' w_call ?_ | with_reducible refine' w_meth ?_ | with_reducible refine' w_make ?_ | with_reducible refine' w_CB ?_ | with_reducible refine' w_BM0 ?_ | with_reducible refine' w_BM ?_ | with_reducible refine' w_tup ?_ | with_reducible refine' w_lst ?_
  | with_reducible refine' w_for ?_ | with_reducible refine' w_iList ?_ | with_reducible refine' w_iTup ?_ | with_reducible refine' w_lc ?_ | with_reducible refine' w_yes ?_ | with_reducible refine' w_max2 ?_ | with_reducible refine' w_min2 ?_ | with_reducible refine' w_ipI ?_ | with_reducible refine' w_gcons ?_ | with_reducible refine' w_gnil ?_
  | ((with_reducible refine' w_aug ?hv ?_); (case hv => exact rfl))
  | ((with_reducible refine' w_gtup ?hv ?hn ?_); (case hv => assumption); (case hn => exact rfl))
  | ((with_reducible refine' w_ixT ?hv ?ha ?_); (case hv => assumption); (case ha => exact rfl))
  | ((with_reducible refine' w_newT ?hv ?_); (case hv => exact Nat.le_of_ble_eq_true rfl))
  | ((with_reducible refine' w_newL ?hv ?_); (case hv => exact Nat.le_of_ble_eq_true rfl)))
local macro_rules | `(tactic| walk_at "go") => `(tactic| repeat' walk_at "go1")
section
variable {P : Program} {w : World} {K : PySem.W.Frag} {mg : Str → Option Value} {base : Heap}
def insideC (j : Job) (c : Int × Int × Int) : Bool := decide (j.fi ≤ c.1 ∧ c.2.1 ≤ j.la)
def keepC (j : Job) (cs : List (Int × Int × Int)) (k : Nat) : Bool := match cs[k]? with
  | some c => insideC j c
  | none => false
def roomOf (j : Job) (cs : List (Int × Int × Int)) : List Nat := (List.range cs.length).filter (keepC j cs)
abbrev natV (k : Nat) : V := .int (k : Int)
def sp_cells_within : Sp := fun vs H Q _ => ∃ (a b : Addr) (j : Job) (ps : List Addr) (cs : List (Int × Int × Int)), vs = [.ref a, .ref b] ∧ H a = some (.tup (jobV j)) ∧ LT H b ps (cs.map cellV) ∧ cs.length ≤ 1000 ∧
  ∀ (H' : Hp) (l : Addr), Same H H' → H l = none → H' l = some (.lst ((roomOf j cs).map natV)) → Q (.ref l) H'
-- slots: 0 job, 1 some, 2 k, 3 cell
theorem sc_cells_within : FnScope ["job", "some", "k", "cell"] ["job", "some"] (defScope s_cells_within) := ⟨rfl, rfl, rfl, by decide +kernel, rfl, by decide +kernel, by decide +kernel⟩
theorem cd_cells_within (T : Tx K mg) : ∃ fd, Cd P w K mg base 1 (He.ga K "cells_within") ["job", "some"] sp_cells_within fd := by
  obtain ⟨fd, F⟩ := T.F_cells_within
  refine ⟨fd, F.ok sc_cells_within (fun vs H Q E h => ?_) (fun cdv A outer s H vs Q E hr h => ?_), FunD.bindsN F (fun _ _ _ _ _ _ us hl => match us, hl with | [_, _], _ => rfl), F.kp⟩
  · obtain ⟨a, b, j, ps, cs, rfl, _⟩ := h
    rfl
  · obtain ⟨a, b, j, ps, cs, rfl, ha, L, hz, q⟩ := h
    refine ⟨_, PSs.nox (pss_one (ps_ret (pe_lc (own := [("k", 2), ("cell", 3)]) (g := (gTup K 2 (gCons (gName 2) (gCons (gName 3) gNil)))) (tt := (tAnd (tTest (tOp (rI0 fun i j => .bl (decide (i ≤ j))) (tOp (rIxT K) (tVar 0) (tC (.int 1))) (tOp (rIxT K) (tVar 3) (tC (.int 0))))) (tTest (tOp (rI0 fun i j => .bl (decide (i ≤ j))) (tOp (rIxT K) (tVar 3) (tC (.int 1))) (tOp (rIxT K) (tVar 0) (tC (.int 2))))))) (te := (tVar 2)) (by rfl) sc_cells_within.nd (pi_enum (by rfl) T.b_enumerate (pa_cons (pv 1) pa_nil)) (blkOk_by (N := ["job", "some", "k", "cell"]) (sc := defScope s_cells_within) (by decide +kernel)) (fun _ _ _ _ _ => (pg_tup rfl (pgs_cons (pg_name (i := 2) sc_cells_within.nd rfl (Or.inl rfl)) (pgs_cons (pg_name (i := 3) sc_cells_within.nd rfl (Or.inl rfl)) pgs_nil)))) (fun _ _ _ _ _ => (pts_one (PW.pt (pw_and (pt_cmpR op_le (pe_ix ix_tup (pv 0) pe_int (fun _ _ => rfl)) (pe_ix ix_tup (pv 3) pe_int (fun _ _ => rfl)) (nomark _)) (pw_and1 (pt_cmpR op_le (pe_ix ix_tup (pv 3) pe_int (fun _ _ => rfl)) (pe_ix ix_tup (pv 0) pe_int (fun _ _ => rfl)) (nomark _))))))) (fun _ _ _ _ _ => (pv 2))))), ?_⟩
    walk_at "go"
    refine w_rEnum L.at_ fun D hD => ?_
    have hl : (ps.map V.ref).length = cs.length := by rw [List.length_map, L.len, List.length_map]
    refine lpc_sel (walk_enum (xs := ps.map V.ref)) (keepC j cs) natV hD (by rw [hl]; exact szlt (by omega)) (fun H s => SqL.of (s _ _ L.at_)) (fun i x H H' y => ?_) (fun i x H1 H2 N Z hi s1 s2 y h1 h2 => ?_) (fun H' s1 e => ?_)
    · obtain ⟨T, x1, y1, _, h1, rfl, _, _⟩ := y
      exact Same.new h1
    · obtain ⟨T, x1, y1, rfl, h3, rfl, h4, h5⟩ := y
      cases h4
      have et : upd H1 T (.tup [.int (i : Nat), y1]) T = some (.tup [.int (i : Nat), y1]) := upd_same
      obtain ⟨q0, r, rfl, e1, e2, e3⟩ := (L.same s1).item h5
      obtain ⟨c, ec, rfl⟩ := map_get e2
      have e3' := s2 _ _ (show H q0 = some (.tup (cellV c)) from by
        obtain ⟨r', hr', he'⟩ := prd_at L.tt e1
        rw [e2] at hr'
        cases hr'
        exact he')
      have ha' := s2 _ _ ha
      walk_at "go"
      refine ⟨rfl, ?_⟩
      refine (show tAnd _ _ _ _ _ from ?_)
      walk_at "go"
      have hk : keepC j cs i = insideC j c := by
        unfold keepC
        rw [ec]
      refine ifD (fun hc => ?_) (fun hc => ?_)
      · walk_at "go"
        refine ifD (fun hc2 => ?_) (fun hc2 => ?_)
        · walk_at "go"
          exact h1 (by rw [hk]; exact decide_eq_true ⟨hc, hc2⟩) _ (Same.refl _)
        · exact h2 (by rw [hk]; exact decide_eq_false fun h => hc2 h.2) _ (Same.refl _)
      · walk_at "go"
        exact h2 (by rw [hk]; exact decide_eq_false fun h => hc h.1) _ (Same.refl _)
    · refine q _ D s1 hD ?_
      rw [e, hl]; rfl

end
end Due

set_option Elab.async false
set_option linter.all false
set_option maxRecDepth 100000
set_option maxHeartbeats 4000000
namespace Due
open PySem PySem.Spec PyProof.Rows L2
local macro_rules | `(tactic| walk_at "v") => `(tactic| ((with_reducible refine' w_var ?hv ?_); (case hv => exact rfl)))
local macro_rules | `(tactic| walk_at "go1") => `(tactic| first
  | with_reducible refine' w_seq ?_ | with_reducible refine' w_asg ?_ | with_reducible refine' w_name ?_ | with_reducible refine' w_ret ?_ | with_reducible refine' w_drop ?_ | with_reducible refine' w_ifs ?_ | with_reducible refine' w_next ?_ | with_reducible refine' w_retN ?_ | with_reducible refine' w_cont ?_
  | ((with_reducible refine' w_var ?hv ?_); (case hv => exact rfl)) | with_reducible refine' w_c ?_ | with_reducible refine' w_op ?_ | with_reducible refine' w_un ?_ | with_reducible refine' w_I0 ?_ | with_reducible refine' w_U ?_ | with_reducible refine' w_cmp ?_
  | ((with_reducible refine' w_eq ?hv ?_); (case hv => exact rfl)) | ((with_reducible refine' w_ne ?hv ?_); (case hv => exact rfl))
  | with_reducible refine' iteT ?_ | with_reducible refine' iteF ?_ | with_reducible refine' iteNT ?_ | with_reducible refine' iteNF ?_ | with_reducible refine' w_chain3 ?_ | with_reducible refine' w_augS ?_ | with_reducible refine' w_gsub ?_
  | with_reducible refine' w_sl ?_ | with_reducible refine' w_noPart ?_ | with_reducible refine' w_part ?_ | with_reducible refine' w_rPart ?_ | with_reducible refine' w_iZip ?_ | with_reducible refine' w_iEnum ?_ | with_reducible refine' w_iRng ?_
  | with_reducible refine' w_dget ?_ | with_reducible refine' w_din ?_ | with_reducible refine' w_dnotin ?_ | with_reducible refine' w_dput ?_
  | with_reducible refine' w_isN ?_ | with_reducible refine' w_notN ?_ | with_reducible refine' w_rBl ?_ | with_reducible refine' w_B ?_ | with_reducible refine' w_test ?_ | with_reducible refine' w_and ?_ | with_reducible refine' w_or ?_ | with_reducible refine' w_not ?_
  | with_reducible refine' w_andV ?_ | with_reducible refine' w_orV ?_ | with_reducible refine' w_notV ?_ | with_reducible refine' w_chain ?_ | with_reducible refine' w_fld ?_ | with_reducible refine' w_sfld ?_ | with_reducible refine' w_nil ?_ | with_reducible refine' w_cons ?_
  | with_reducible refine' w_call ?_ | with_reducible refine' w_meth ?_ | with_reducible refine' w_make ?_ | with_reducible refine' w_CB ?_ | with_reducible refine' w_BM0 ?_ | with_reducible refine' w_BM ?_ | with_reducible refine' w_tup ?_ | with_reducible refine' w_lst ?_
  | with_reducible refine' w_for ?_ | with_reducible refine' w_iList ?_ | with_reducible refine' w_iTup ?_ | with_reducible refine' w_lc ?_ | with_reducible refine' w_yes ?_ | with_reducible refine' w_max2 ?_ | with_reducible refine' w_min2 ?_ | with_reducible refine' w_ipI ?_ | with_reducible refine' w_gcons ?_ | with_reducible refine' w_gnil ?_
  | ((with_reducible refine' w_aug ?hv ?_); (case hv => exact rfl))
  | ((with_reducible refine' w_gtup ?hv ?hn ?_); (case hv => assumption); (case hn => exact rfl))
  | ((with_reducible refine' w_ixT ?hv ?ha ?_); (case hv => assumption); (case ha => exact rfl))
  | ((with_reducible refine' w_newT ?hv ?_); (case hv => exact Nat.le_of_ble_eq_true rfl))
  | ((with_reducible refine' w_newL ?hv ?_); (case hv => exact Nat.le_of_ble_eq_true rfl)))
local macro_rules | `(tactic| walk_at "go") => `(tactic| repeat' walk_at "go1")
section
variable {P : Program} {w : World} {K : PySem.W.Frag} {mg : Str → Option Value} {base : Heap}
/-! ### flows: the object -/
def dfJob : Job := ⟨⟨#[]⟩, 0, 0, 0, 0⟩
def jg (js : List Job) (j : Nat) : Job := js.getD j dfJob
def cg (cs : List (Int × Int × Int)) (c : Nat) : Int × Int × Int := cs.getD c (0, 0, 0)
theorem jg_of {js : List Job} {j : Nat} (h : j < js.length) : js[j]? = some (jg js j) := by
  unfold jg
  rw [List.getD_eq_getElem?_getD, List.getElem?_eq_getElem h]; rfl
theorem cg_of {cs : List (Int × Int × Int)} {j : Nat} (h : j < cs.length) : cs[j]? = some (cg cs j) := by
  unfold cg
  rw [List.getD_eq_getElem?_getD, List.getElem?_eq_getElem h]; rfl
def inst (js : List Job) (cs : List (Int × Int × Int)) : Inst where
  n := js.length
  m := cs.length
  br := fun j => (jg js j).br
  wk := fun j => (jg js j).wk
  ln := fun c => (cg cs c).2.1 - (cg cs c).1 + 1
  cp := fun c => (cg cs c).2.2 * ((cg cs c).2.1 - (cg cs c).1 + 1)
  rm := fun j => roomOf (jg js j) cs
structure FA where
  ld : Addr
  ce : Addr
  ro : Addr
  sh : Addr
  sp : Addr
  wa : Addr
  jps : List Addr
  cps : List Addr
  ros : List Addr
  shf : Nat → Addr
def Mu (A : FA) (n : Nat) (x : Addr) : Prop := x = A.sp ∨ x = A.wa ∨ ∃ j, j < n ∧ x = A.shf j
def ButM (A : FA) (n : Nat) (H H' : Hp) : Prop := ∀ b o, ¬ Mu A n b → H b = some o → H' b = some o
theorem ButM.refl {A : FA} {n : Nat} {H : Hp} : ButM A n H H := fun _ _ _ h => h
theorem ButM.trans {A : FA} {n : Nat} {H H1 H2 : Hp} (a : ButM A n H H1) (b : ButM A n H1 H2) : ButM A n H H2 := fun c o h e => b c o h (a c o h e)
theorem ButM.same {A : FA} {n : Nat} {H H1 : Hp} (a : Same H H1) : ButM A n H H1 := fun c o _ e => a c o e
theorem ButM.but {A : FA} {n : Nat} {H H1 : Hp} {l : Addr} (m : Mu A n l) (a : But l H H1) : ButM A n H H1 := fun c o h e => a c o (fun z => h (by rw [z]; exact m)) e
structure FlowF (fs : List (Str × V)) (A : FA) : Prop where
  load : fs.lookup ("load" : Str) = some (.ref A.ld)
  cells : fs.lookup ("cells" : Str) = some (.ref A.ce)
  rooms : fs.lookup ("rooms" : Str) = some (.ref A.ro)
  shares : fs.lookup ("shares" : Str) = some (.ref A.sh)
  spare : fs.lookup ("spare" : Str) = some (.ref A.sp)
  wanting : fs.lookup ("wanting" : Str) = some (.ref A.wa)
  search : fs.lookup ("search" : Str) = none
  push : fs.lookup ("push" : Str) = none
  narrowest : fs.lookup ("narrowest" : Str) = none
  most : fs.lookup ("most" : Str) = none
  holders : fs.lookup ("holders" : Str) = none
structure FStat (K : PySem.W.Frag) (H : Hp) (p : Addr) (A : FA) (js : List Job) (cs : List (Int × Int × Int)) : Prop where
  ins : ∃ dx fs, H p = some (.ins (He.ga K "Flow") dx fs) ∧ FlowF fs A
  ld : LT H A.ld A.jps (js.map jobV)
  ce : LT H A.ce A.cps (cs.map cellV)
  ro : H A.ro = some (.lst (A.ros.map V.ref))
  ros : Paired (fun a j => H a = some (.lst ((roomOf j cs).map natV))) A.ros js
  sh : H A.sh = some (.lst ((List.range js.length).map fun j => V.ref (A.shf j)))
  nld : ¬ Mu A js.length A.ld
  nce : ¬ Mu A js.length A.ce
  nro : ¬ Mu A js.length A.ro
  nsh : ¬ Mu A js.length A.sh
  nros : ∀ a ∈ A.ros, ¬ Mu A js.length a
  d1 : A.sp ≠ A.wa
  d2 : ∀ j, j < js.length → A.shf j ≠ A.sp
  d3 : ∀ j, j < js.length → A.shf j ≠ A.wa
  d4 : ∀ j k, j < js.length → k < js.length → j ≠ k → A.shf j ≠ A.shf k
structure FDyn (H : Hp) (A : FA) (n m : Nat) (S : FS) : Prop where
  sp : H A.sp = some (.lst ((List.range m).map fun c => V.int (S.sp c)))
  wa : H A.wa = some (.lst ((List.range n).map fun j => V.int (S.wa j)))
  row : ∀ j, j < n → H (A.shf j) = some (.lst ((List.range m).map fun c => V.int (S.sh j c)))
theorem FDyn.lst {H : Hp} {A : FA} {n m : Nat} {S : FS} (D : FDyn H A n m S) {b : Addr} (h : Mu A n b) : ∃ xs, H b = some (.lst xs) := by
  rcases h with rfl | rfl | ⟨j, hj, rfl⟩
  · exact ⟨_, D.sp⟩
  · exact ⟨_, D.wa⟩
  · exact ⟨_, D.row j hj⟩
theorem FDyn.nmu {H : Hp} {A : FA} {n m : Nat} {S : FS} (D : FDyn H A n m S) {b : Addr} {o : HO} (e : H b = some o) (d : ∀ xs, o ≠ .lst xs) : ¬ Mu A n b := fun h => by
  obtain ⟨xs, e2⟩ := D.lst h
  rw [e] at e2
  exact d xs (Option.some.inj e2)
theorem FDyn.same {H H' : Hp} {A : FA} {n m : Nat} {S : FS} (s : Same H H') (D : FDyn H A n m S) : FDyn H' A n m S := ⟨s _ _ D.sp, s _ _ D.wa, fun j hj => s _ _ (D.row j hj)⟩
theorem FStat.butM {K : PySem.W.Frag} {H H' : Hp} {p : Addr} {A : FA} {js : List Job} {cs : List (Int × Int × Int)} {m : Nat} {S : FS} (D : FDyn H A js.length m S) (b : ButM A js.length H H') (F : FStat K H p A js cs) : FStat K H' p A js cs where
  ins := by
    obtain ⟨dx, fs, e, f⟩ := F.ins
    exact ⟨dx, fs, b _ _ (D.nmu e fun xs h => by cases h) e, f⟩
  ld := ⟨b _ _ F.nld F.ld.at_, prd_imp F.ld.tt fun q r e => b _ _ (D.nmu e fun xs h => by cases h) e⟩
  ce := ⟨b _ _ F.nce F.ce.at_, prd_imp F.ce.tt fun q r e => b _ _ (D.nmu e fun xs h => by cases h) e⟩
  ro := b _ _ F.nro F.ro
  ros := by
    have h : ∀ {as : List Addr} {ks : List Job}, (∀ a ∈ as, ¬ Mu A js.length a) → Paired (fun a j => H a = some (.lst ((roomOf j cs).map natV))) as ks → Paired (fun a j => H' a = some (.lst ((roomOf j cs).map natV))) as ks := by
      intro as ks hn hp
      induction hp with
      | nil => exact .nil
      | cons e t ih => exact .cons (b _ _ (hn _ List.mem_cons_self) e) (ih fun a ha => hn a (List.mem_cons_of_mem _ ha))
    exact h F.nros F.ros
  sh := b _ _ F.nsh F.sh
  nld := F.nld
  nce := F.nce
  nro := F.nro
  nsh := F.nsh
  nros := F.nros
  d1 := F.d1
  d2 := F.d2
  d3 := F.d3
  d4 := F.d4
theorem FStat.same {K : PySem.W.Frag} {H H' : Hp} {p : Addr} {A : FA} {js : List Job} {cs : List (Int × Int × Int)} {m : Nat} {S : FS} (D : FDyn H A js.length m S) (s : Same H H') (F : FStat K H p A js cs) : FStat K H' p A js cs := F.butM D (ButM.same s)
theorem FStat.job {K : PySem.W.Frag} {H : Hp} {p : Addr} {A : FA} {js : List Job} {cs : List (Int × Int × Int)} (F : FStat K H p A js cs) {j : Nat} (h : j < js.length) : ∃ q, (A.jps.map V.ref)[j]? = some (.ref q) ∧ H q = some (.tup (jobV (jg js j))) := by
  obtain ⟨q, _, h2, h3⟩ := F.ld.get (i := j) (r := jobV (jg js j)) (by rw [List.getElem?_map, jg_of h]; rfl)
  exact ⟨q, h2, h3⟩
theorem FStat.cell {K : PySem.W.Frag} {H : Hp} {p : Addr} {A : FA} {js : List Job} {cs : List (Int × Int × Int)} (F : FStat K H p A js cs) {c : Nat} (h : c < cs.length) : ∃ q, (A.cps.map V.ref)[c]? = some (.ref q) ∧ H q = some (.tup (cellV (cg cs c))) := by
  obtain ⟨q, _, h2, h3⟩ := F.ce.get (i := c) (r := cellV (cg cs c)) (by rw [List.getElem?_map, cg_of h]; rfl)
  exact ⟨q, h2, h3⟩
theorem FStat.room {K : PySem.W.Frag} {H : Hp} {p : Addr} {A : FA} {js : List Job} {cs : List (Int × Int × Int)} (F : FStat K H p A js cs) {j : Nat} (h : j < js.length) : ∃ q, (A.ros.map V.ref)[j]? = some (.ref q) ∧ H q = some (.lst ((roomOf (jg js j) cs).map natV)) := by
  obtain ⟨q, h2, h3⟩ := prd_at2 F.ros (jg_of h)
  exact ⟨q, by rw [List.getElem?_map, h2]; rfl, h3⟩
theorem room_lt {j : Job} {cs : List (Int × Int × Int)} {c : Nat} (h : c ∈ roomOf j cs) : c < cs.length := by
  unfold roomOf at h
  exact List.mem_range.mp (List.mem_filter.mp h).1
def BrOk (js : List Job) : Prop := ∀ j ∈ js, 1 ≤ j.br ∧ j.br ≤ 16
theorem BrOk.jg {js : List Job} (h : BrOk js) {j : Nat} (hj : j < js.length) : 1 ≤ (jg js j).br ∧ (jg js j).br ≤ 16 := h _ (List.mem_of_getElem? (jg_of hj))
def sp_Flow_most : Sp := fun vs H Q _ => ∃ (p : Addr) (A : FA) (js : List Job) (cs : List (Int × Int × Int)) (j c : Nat), vs = [.ref p, natV j, natV c] ∧ FStat K H p A js cs ∧ BrOk js ∧ j < js.length ∧ c < cs.length ∧ Q (.int ((inst js cs).most j c)) H
-- slots: 0 self, 1 job, 2 cell
theorem sc_Flow_most : FnScope ["self", "job", "cell"] ["self", "job", "cell"] (defScope s_Flow_most) := ⟨rfl, rfl, rfl, by decide +kernel, rfl, by decide +kernel, by decide +kernel⟩
theorem cd_Flow_most (T : Tx K mg) : ∃ fd, Cd P w K mg base 1 (He.ma K (He.ga K "Flow") "most") ["self", "job", "cell"] (sp_Flow_most (K := K)) fd := by
  obtain ⟨fd, F⟩ := T.F_Flow_most
  refine ⟨fd, F.ok sc_Flow_most (fun vs H Q E h => ?_) (fun cdv A outer s H vs Q E hr h => ?_), FunD.bindsN F (fun _ _ _ _ _ _ us hl => match us, hl with | [_, _, _], _ => rfl), F.kp⟩
  · obtain ⟨p, A, js, cs, j, c, rfl, _⟩ := h
    rfl
  · obtain ⟨p, A, js, cs, j, c, rfl, F, B, hj, hc, q⟩ := h
    refine ⟨_, PSs.nox (pss_one (ps_ret (pe_op op_mul (pe_ix ix_tup (pe_ix ix_list (pe_fld (pv 0) rfl) (pv 1) (fun _ _ => rfl)) pe_int (fun _ _ => rfl)) (pe_op op_add (pe_op op_sub (pe_ix ix_tup (pe_ix ix_list (pe_fld (pv 0) rfl) (pv 2) (fun _ _ => rfl)) pe_int (fun _ _ => rfl)) (pe_ix ix_tup (pe_ix ix_list (pe_fld (pv 0) rfl) (pv 2) (fun _ _ => rfl)) pe_int (fun _ _ => rfl))) pe_int)))), ?_⟩
    walk_at "go"
    obtain ⟨dx, fs, hp, ff⟩ := F.ins
    obtain ⟨qj, ej, tj⟩ := F.job hj
    obtain ⟨qc, ec, tc⟩ := F.cell hc
    refine w_rFld hp T.c_Flow T.n_Flow_load ff.load ?_
    walk_at "go"
    refine w_ixL F.ld.at_ (atI_nat ej) ?_
    walk_at "go"
    refine w_rFld hp T.c_Flow T.n_Flow_cells ff.cells ?_
    walk_at "go"
    refine w_ixL F.ce.at_ (atI_nat ec) ?_
    walk_at "go"
    refine w_rFld hp T.c_Flow T.n_Flow_cells ff.cells ?_
    walk_at "go"
    refine w_ixL F.ce.at_ (atI_nat ec) ?_
    walk_at "go"
    refine w_I (.inl ⟨by have := (B.jg hj).1; omega, by have := (B.jg hj).2; omega⟩) ?_
    exact q
theorem walk_rng0 {n : Nat} : Walk (Itr 0 n) n (fun _ => True) (fun i H x H' => H' = H ∧ x = natV i) := walk_range.mono (fun _ h => h) fun i H x H' _ _ y => ⟨y.1, by
  rw [y.2]
  show V.int ((0 : Int) + (i : Int)) = V.int (i : Int)
  rw [Int.zero_add]⟩
def sp_Flow_holders : Sp := fun vs H Q _ => ∃ (p : Addr) (A : FA) (js : List Job) (cs : List (Int × Int × Int)) (S : FS) (c : Nat), vs = [.ref p, natV c] ∧ FStat K H p A js cs ∧ FDyn H A js.length cs.length S ∧ js.length ≤ 1000 ∧ c < cs.length ∧
  ∀ (H' : Hp) (l : Addr), Same H H' → H l = none → H' l = some (.lst (((List.range js.length).filter fun j => decide (0 < S.sh j c)).map natV)) → Q (.ref l) H'
-- slots: 0 self, 1 cell, 2 job
theorem sc_Flow_holders : FnScope ["self", "cell", "job"] ["self", "cell"] (defScope s_Flow_holders) := ⟨rfl, rfl, rfl, by decide +kernel, rfl, by decide +kernel, by decide +kernel⟩
theorem cd_Flow_holders (T : Tx K mg) : ∃ fd, Cd P w K mg base 1 (He.ma K (He.ga K "Flow") "holders") ["self", "cell"] (sp_Flow_holders (K := K)) fd := by
  obtain ⟨fd, F⟩ := T.F_Flow_holders
  refine ⟨fd, F.ok sc_Flow_holders (fun vs H Q E h => ?_) (fun cdv A outer s H vs Q E hr h => ?_), FunD.bindsN F (fun _ _ _ _ _ _ us hl => match us, hl with | [_, _], _ => rfl), F.kp⟩
  · obtain ⟨p, A, js, cs, S, c, rfl, _⟩ := h
    rfl
  · obtain ⟨p, A, js, cs, S, c, rfl, F, D, hz, hc, q⟩ := h
    refine ⟨_, PSs.nox (pss_one (ps_ret (pe_lc (own := [("job", 2)]) (g := (gName 2)) (tt := (tTest (tOp (rI0 fun i j => .bl (decide (j < i))) (tOp (rIxL K) (tOp (rIxL K) (tFld K (tVar 0) "shares") (tVar 2)) (tVar 1)) (tC (.int 0))))) (te := (tVar 2)) (by rfl) sc_Flow_holders.nd (pi_range1 rfl T.b_range (pa_cons (pe_callB c_len (by rfl) T.b_len (by decide +kernel) (pa_cons (pe_fld (pv 0) rfl) pa_nil)) pa_nil)) (blkOk_by (N := ["self", "cell", "job"]) (sc := defScope s_Flow_holders) (by decide +kernel)) (fun _ _ _ _ _ => (pg_name (i := 2) sc_Flow_holders.nd rfl (Or.inl rfl))) (fun _ _ _ _ _ => (pts_one (pt_cmpR op_gt (pe_ix ix_list (pe_ix ix_list (pe_fld (pv 0) rfl) (pv 2) (fun _ _ => rfl)) (pv 1) (fun _ _ => rfl)) pe_int (nomark _)))) (fun _ _ _ _ _ => (pv 2))))), ?_⟩
    walk_at "go"
    obtain ⟨dx, fs, hp, ff⟩ := F.ins
    refine w_rFld hp T.c_Flow T.n_Flow_load ff.load ?_
    walk_at "go"
    refine w_lenL F.ld.at_ ?_
    rw [show (A.jps.map V.ref).length = js.length by rw [List.length_map, F.ld.len, List.length_map]]
    walk_at "go"
    refine w_rRng (by omega) fun L hL => ?_
    refine lpc_sel walk_rng0 (fun j => decide (0 < S.sh j c)) natV hL (szlt (by omega)) (fun _ _ => trivial) (fun i x H H' y => by rw [y.1]; exact Same.refl _) (fun i x H1 H2 N Z hi s1 s2 y h1 h2 => ?_) (fun H' s1 e => ?_)
    · obtain ⟨rfl, rfl⟩ := y
      walk_at "go"
      refine ⟨rfl, ?_⟩
      refine (show tTest _ _ _ _ from ?_)
      walk_at "go"
      refine w_rFld (s1 _ _ hp) T.c_Flow T.n_Flow_shares ff.shares ?_
      walk_at "go"
      refine w_ixL (s1 _ _ F.sh) (rng_at hi) ?_
      walk_at "go"
      refine w_ixL (s1 _ _ (D.row i hi)) (rng_at hc) ?_
      walk_at "go"
      refine ifD (fun h => ?_) (fun h => ?_)
      · walk_at "go"
        exact h1 (decide_eq_true h) _ (Same.refl _)
      · exact h2 (decide_eq_false h) _ (Same.refl _)
    · exact q _ L s1 hL e
/-! the way in the dicts -/
def optV : Option Nat → V
  | none => .non
  | some c => natV c
def encC (bc : List (Nat × Nat)) : List (Key × V) := bc.map fun p => ((Sum.inl (p.1 : Int) : Key), natV p.2)
def encJ (bj : List (Nat × Option Nat)) : List (Key × V) := bj.map fun p => ((Sum.inl (p.1 : Int) : Key), optV p.2)
/-- what the way's rest begins with -/
def headV : List (Nat × Nat) → V
  | [] => .non
  | (_, c) :: _ => natV c
def sp_Flow_narrowest : Sp := fun vs H Q _ => ∃ (p ac aj : Addr) (A : FA) (js : List Job) (cs : List (Int × Int × Int)) (S : FS) (bc : List (Nat × Nat)) (bj : List (Nat × Option Nat)) (j c : Nat) (r : List (Nat × Nat)), vs = [.ref p, natV c, .ref ac, .ref aj] ∧
  FStat K H p A js cs ∧ FDyn H A js.length cs.length S ∧ BrOk js ∧ H ac = some (.dK (encC bc)) ∧ H aj = some (.dK (encJ bj)) ∧ Pth bc bj ((j, c) :: r) ∧ Res (inst js cs) S 1 ((j, c) :: r) ∧ Q (.int (narrow (inst js cs) S (S.sp c) ((j, c) :: r))) H
-- slots: 0 self, 1 cell, 2 by_cell, 3 by_job, 4 many, 5 job
theorem sc_Flow_narrowest : FnScope ["self", "cell", "by_cell", "by_job", "many", "job"] ["self", "cell", "by_cell", "by_job"] (defScope s_Flow_narrowest) := ⟨rfl, rfl, rfl, by decide +kernel, rfl, by decide +kernel, by decide +kernel⟩
theorem cd_Flow_narrowest (T : Tx K mg) : ∃ fd, Cd P w K mg base 2 (He.ma K (He.ga K "Flow") "narrowest") ["self", "cell", "by_cell", "by_job"] (sp_Flow_narrowest (K := K)) fd := by
  obtain ⟨fd, F⟩ := T.F_Flow_narrowest
  obtain ⟨_, K_Flow_most⟩ := cd_Flow_most (P := P) (w := w) (base := base) T
  refine ⟨fd, F.ok sc_Flow_narrowest (fun vs H Q E h => ?_) (fun cdv A outer s H vs Q E hr h => ?_), FunD.bindsN F (fun _ _ _ _ _ _ us hl => match us, hl with | [_, _, _, _], _ => rfl), F.kp⟩
  · obtain ⟨p, ac, aj, A, js, cs, S, bc, bj, j, c, r, rfl, _⟩ := h
    rfl
  · obtain ⟨p, ac, aj, A, js, cs, S, bc, bj, j, c, r, rfl, F, D, B, hac, haj, P1, R1, q⟩ := h
    refine ⟨_, PSs.nox (pss_cons (ps_set (i := 4) sc_Flow_narrowest.nd rfl (Or.inl rfl) (pe_ix ix_list (pe_fld (pv 0) rfl) (pv 1) (fun _ _ => rfl)))
      (pss_cons (ps_while PassesOwn.never (pt_cmp (pc_notN (pv 1))) (pss_cons (ps_set (i := 5) sc_Flow_narrowest.nd rfl (Or.inl rfl) (pe_dget (hu_of hr) (pv 2) (pv 1) (fun _ _ => rfl)))
      (pss_cons (ps_set (i := 4) sc_Flow_narrowest.nd rfl (Or.inl rfl) (pe_callB (c_min2 rfl) (by rfl) T.b_min (by decide +kernel) (pa_cons (pv 4) (pa_cons (pe_op op_sub (pe_meth (pv 0) T.c_Flow T.m_Flow_most K_Flow_most.ok (hr.mono (by decide)) K_Flow_most.bn .nil pass0 (pa_cons (pv 5) (pa_cons (pv 1) pa_nil))) (pe_ix ix_list (pe_ix ix_list (pe_fld (pv 0) rfl) (pv 5) (fun _ _ => rfl)) (pv 1) (fun _ _ => rfl))) pa_nil))))
      (pss_cons (ps_set (i := 1) sc_Flow_narrowest.nd rfl (Or.inl rfl) (pe_dget (hu_of hr) (pv 3) (pv 5) (fun _ _ => rfl)))
      (pss_one (ps_if (pt_cmp (pc_isN (pv 1))) (pss_one (ps_set (i := 4) sc_Flow_narrowest.nd rfl (Or.inl rfl) (pe_callB (c_min2 rfl) (by rfl) T.b_min (by decide +kernel) (pa_cons (pv 4) (pa_cons (pe_ix ix_list (pe_fld (pv 0) rfl) (pv 5) (fun _ _ => rfl)) pa_nil))))) (pss_one (ps_set (i := 4) sc_Flow_narrowest.nd rfl (Or.inl rfl) (pe_callB (c_min2 rfl) (by rfl) T.b_min (by decide +kernel) (pa_cons (pv 4) (pa_cons (pe_ix ix_list (pe_ix ix_list (pe_fld (pv 0) rfl) (pv 5) (fun _ _ => rfl)) (pv 1) (fun _ _ => rfl)) pa_nil)))))))))))
      (pss_one (ps_ret (pv 4))))), ?_⟩
    walk_at "go"
    obtain ⟨dx, fs, hp, ff⟩ := F.ins
    have hc : c < cs.length := R1.2.1
    refine w_rFld hp T.c_Flow T.n_Flow_spare ff.spare ?_
    walk_at "go"
    refine w_ixL D.sp (rng_at hc) ?_
    walk_at "go"
    refine w_while (fun m σ H' => ∃ (L : List (Nat × Nat)) (v5 : Option V) (z : Int), m = L.length ∧ σ = [some (.ref p), some (headV L), some (.ref ac), some (.ref aj), some (.int z), v5] ∧ H' = H ∧ Pth bc bj L ∧ (L = [] ∨ Res (inst js cs) S 1 L) ∧ narrow (inst js cs) S (S.sp c) ((j, c) :: r) = narrow (inst js cs) S z L)
      _ ⟨(j, c) :: r, none, S.sp c, rfl, rfl, rfl, P1, .inr R1, rfl⟩ (fun m σ H' p => ?_)
    obtain ⟨L, v5, z, rfl, rfl, rfl, P2, R2, e⟩ := p
    match L, P2, R2, e with
    | [], _, _, e =>
      walk_at "go"
      refine ifnF rfl ?_
      walk_at "go"
      have e : narrow (inst js cs) S (S.sp c) ((j, c) :: r) = z := e
      rw [← e]
      exact q
    | (j1, c1) :: r1, ⟨p1, p2, p3⟩, R2, e =>
      have R2 : Res (inst js cs) S 1 ((j1, c1) :: r1) := by
        rcases R2 with h | h
        · cases h
        · exact h
      have hj1 : j1 < js.length := R2.1
      have hc1 : c1 < cs.length := R2.2.1
      walk_at "go"
      refine ifnT (by intro h; cases h) ?_
      refine w_rWh ?_
      walk_at "go"
      refine w_rDGetI hac (by unfold encC; rw [valV_enc, p1]; rfl) ?_
      walk_at "go"
      refine w_rRecv hp ff.most ?_
      walk_at "go"
      refine ⟨_, _, _, _, _, _, rfl, F, B, hj1, hc1, ?_⟩
      walk_at "go"
      refine w_rFld hp T.c_Flow T.n_Flow_shares ff.shares ?_
      walk_at "go"
      refine w_ixL F.sh (rng_at hj1) ?_
      walk_at "go"
      refine w_ixL (D.row j1 hj1) (rng_at hc1) ?_
      walk_at "go"
      match r1, p2, p3, R2, e with
      | [], _, p3, R2, e =>
        refine w_rDGetI haj (v := .non) (by unfold encJ; rw [valV_enc, show bj.lookup j1 = some none from p3]; rfl) ?_
        walk_at "go"
        refine ifT rfl ?_
        walk_at "go"
        refine w_rFld hp T.c_Flow T.n_Flow_wanting ff.wanting ?_
        walk_at "go"
        refine w_ixL D.wa (rng_at hj1) ?_
        walk_at "go"
        exact ⟨0, Nat.zero_lt_succ _, [], _, _, rfl, rfl, rfl, trivial, .inl rfl, e⟩
      | (j2, c2) :: r2, p2, p3, R2, e =>
        have hc2 : c2 < cs.length := R2.2.2.2.2.2.1
        refine w_rDGetI haj (v := natV c2) (by unfold encJ; rw [valV_enc, show bj.lookup j1 = some (some c2) from p3]; rfl) ?_
        walk_at "go"
        refine ifF (by intro h; cases h) ?_
        walk_at "go"
        refine w_rFld hp T.c_Flow T.n_Flow_shares ff.shares ?_
        walk_at "go"
        refine w_ixL F.sh (rng_at hj1) ?_
        walk_at "go"
        refine w_ixL (D.row j1 hj1) (rng_at hc2) ?_
        walk_at "go"
        exact ⟨_, Nat.lt_succ_self _, (j2, c2) :: r2, _, _, rfl, rfl, rfl, p2, .inr R2.2.2.2.2.2.2.2, e⟩

end
end Due

set_option linter.all false
/-! M3: calendars and cells: the machines at a turn, over a span, the cells' order and lengths. -/
namespace Due

/-! ### the machines at a turn -/
def ends : Int → List (Int × Int) → List Int
  | _, [] => []
  | b, p :: r => (b + p.1) :: ends (b + p.1) r
def mach : Int → List (Int × Int) → Int → Int → Int
  | _, [], rest, _ => rest
  | b, p :: r, rest, t => if t < b + p.1 then p.2 else mach (b + p.1) r rest t
def wov : Int → List (Int × Int) → Int → Int → Int → Int
  | b, [], rest, f, l => rest * max 0 (l - max f b + 1)
  | b, p :: r, rest, f, l => p.2 * max 0 (min l (b + p.1 - 1) - max f b + 1) + wov (b + p.1) r rest f l
def Pos (ss : List (Int × Int)) : Prop := ∀ p ∈ ss, 1 ≤ p.1
theorem Pos.hd {p : Int × Int} {r : List (Int × Int)} (h : Pos (p :: r)) : 1 ≤ p.1 := h _ List.mem_cons_self
theorem Pos.tl {p : Int × Int} {r : List (Int × Int)} (h : Pos (p :: r)) : Pos r := fun q hq => h q (List.mem_cons_of_mem _ hq)
theorem ends_gt : ∀ {ss : List (Int × Int)} {b : Int}, Pos ss → ∀ x ∈ ends b ss, b < x
  | [], _, _, _, h => by cases h
  | p :: r, b, hp, x, h => by
    have h1 := hp.hd
    rcases List.mem_cons.mp h with rfl | h
    · omega
    · have := ends_gt hp.tl x h
      omega
theorem ends_rise : ∀ {ss : List (Int × Int)} {b : Int}, Pos ss → (ends b ss).Pairwise (· < ·)
  | [], _, _ => List.Pairwise.nil
  | p :: r, b, hp => List.pairwise_cons.mpr ⟨fun x h => ends_gt hp.tl x h, ends_rise hp.tl⟩
theorem ends_len : ∀ (ss : List (Int × Int)) (b : Int), (ends b ss).length = ss.length
  | [], _ => rfl
  | p :: r, b => by show (ends (b + p.1) r).length + 1 = r.length + 1; rw [ends_len r]
theorem changes_fold (f l : Int) : ∀ (ss : List (Int × Int)) (acc : List Int) (b : Int), (ss.foldl (cst f l) (acc, b)).1 = acc ++ (ends b ss).filter (fun x => decide (f < x ∧ x ≤ l))
  | [], acc, b => by simp [ends]
  | p :: r, acc, b => by
    rw [List.foldl_cons]
    show (r.foldl (cst f l) (if f < b + p.1 ∧ b + p.1 ≤ l then acc ++ [b + p.1] else acc, b + p.1)).1 = acc ++ ((b + p.1) :: ends (b + p.1) r).filter _
    rw [changes_fold f l r]
    by_cases h : f < b + p.1 ∧ b + p.1 ≤ l
    · rw [if_pos h, List.filter_cons_of_pos (by simpa using h)]
      simp
    · rw [if_neg h, List.filter_cons_of_neg (by simpa using h)]
theorem changes_eq (ss : List (Int × Int)) (f l : Int) : changes ss f l = (ends 0 ss).filter (fun x => decide (f < x ∧ x ≤ l)) := by
  unfold changes
  rw [changes_fold]
  simp
/-- the pieces as a list -/
def pcs : Int → List (Int × Int) → List (Int × Int × Int)
  | _, [] => []
  | b, p :: r => (b, b + p.1 - 1, p.2) :: pcs (b + p.1) r
def tot : Int → List (Int × Int) → Int
  | b, [] => b
  | b, p :: r => tot (b + p.1) r
theorem pst_fold : ∀ (ss : List (Int × Int)) (acc : List (Int × Int × Int)) (b : Int), ss.foldl pst (acc, b) = (acc ++ pcs b ss, tot b ss)
  | [], acc, b => by simp [pcs, tot]
  | p :: r, acc, b => by
    rw [List.foldl_cons]
    show r.foldl pst (acc ++ [(b, b + p.1 - 1, p.2)], b + p.1) = _
    rw [pst_fold r]
    simp [pcs, tot]
theorem pieces_eq (ss : List (Int × Int)) (rest t : Int) : pieces ss rest t = pcs 0 ss ++ (if tot 0 ss ≤ t then [(tot 0 ss, t, rest)] else []) := by
  unfold pieces
  rw [pst_fold]
  simp only [List.nil_append]
  split <;> simp
theorem mach_find (rest t : Int) : ∀ (ss : List (Int × Int)) (b : Int), (match (pcs b ss ++ (if tot b ss ≤ t then [(tot b ss, t, rest)] else [])).find? fun c => decide (t ≤ c.2.1) with
  | some c => c.2.2
  | none => rest) = mach b ss rest t
  | [], b => by
    show (match (if b ≤ t then [(b, t, rest)] else []).find? fun c => decide (t ≤ c.2.1) with
      | some c => c.2.2
      | none => rest) = rest
    by_cases h : b ≤ t
    · rw [if_pos h]; simp
    · rw [if_neg h]; rfl
  | p :: r, b => by
    show (match ((b, b + p.1 - 1, p.2) :: (pcs (b + p.1) r ++ (if tot (b + p.1) r ≤ t then [(tot (b + p.1) r, t, rest)] else []))).find? fun c => decide (t ≤ c.2.1) with
      | some c => c.2.2
      | none => rest) = if t < b + p.1 then p.2 else mach (b + p.1) r rest t
    by_cases h : t < b + p.1
    · rw [if_pos h, List.find?_cons_of_pos (by simp; omega)]
    · rw [if_neg h, List.find?_cons_of_neg (by simp; omega)]
      exact mach_find rest t r (b + p.1)
theorem calAt_eq (ss : List (Int × Int)) (rest t : Int) : calAt ss rest t = mach 0 ss rest t := by
  unfold calAt
  rw [pieces_eq]
  exact mach_find rest t ss 0
theorem ostep_fold (f l : Int) : ∀ (cs : List (Int × Int × Int)) (x : Int), cs.foldl (ostep f l) x = x + cs.foldl (ostep f l) 0
  | [], x => by simp
  | c :: r, x => by
    rw [List.foldl_cons, List.foldl_cons, ostep_fold f l r (ostep f l x c), ostep_fold f l r (ostep f l 0 c)]
    show x + c.2.2 * max 0 (min c.2.1 l - max c.1 f + 1) + _ = x + (0 + c.2.2 * max 0 (min c.2.1 l - max c.1 f + 1) + _)
    omega
theorem wov_fold (rest f l : Int) : ∀ (ss : List (Int × Int)) (b : Int), (pcs b ss ++ (if tot b ss ≤ l then [(tot b ss, l, rest)] else [])).foldl (ostep f l) 0 = wov b ss rest f l
  | [], b => by
    show (if b ≤ l then [(b, l, rest)] else []).foldl (ostep f l) 0 = rest * max 0 (l - max f b + 1)
    by_cases h : b ≤ l
    · rw [if_pos h]
      show 0 + rest * max 0 (min l l - max b f + 1) = _
      rw [show min l l - max b f + 1 = l - max f b + 1 by omega]
      omega
    · rw [if_neg h]
      rw [show max 0 (l - max f b + 1) = 0 by omega]
      show (0 : Int) = _
      omega
  | p :: r, b => by
    show ((b, b + p.1 - 1, p.2) :: (pcs (b + p.1) r ++ (if tot (b + p.1) r ≤ l then [(tot (b + p.1) r, l, rest)] else []))).foldl (ostep f l) 0 = _
    rw [List.foldl_cons, ostep_fold, wov_fold rest f l r]
    show 0 + p.2 * max 0 (min (b + p.1 - 1) l - max b f + 1) + _ = p.2 * max 0 (min l (b + p.1 - 1) - max f b + 1) + _
    rw [Int.min_comm (b + p.1 - 1) l, Int.max_comm b f]
    omega
theorem over_eq (ss : List (Int × Int)) (rest f l : Int) : over ss rest f l = wov 0 ss rest f l := by
  unfold over
  rw [pieces_eq]
  exact wov_fold rest f l ss 0
/-! ### over is additive -/
theorem mul_split {k a b c : Int} (h : a + b = c) : k * a + k * b = k * c := by rw [← Int.mul_add, h]
theorem wov_add (rest : Int) {f l l2 : Int} (h1 : f ≤ l + 1) (h2 : l ≤ l2) : ∀ (ss : List (Int × Int)) (b : Int), wov b ss rest f l + wov b ss rest (l + 1) l2 = wov b ss rest f l2
  | [], b => mul_split (by omega)
  | p :: r, b => by
    have h := wov_add rest h1 h2 r (b + p.1)
    have e : p.2 * max 0 (min l (b + p.1 - 1) - max f b + 1) + p.2 * max 0 (min l2 (b + p.1 - 1) - max (l + 1) b + 1) = p.2 * max 0 (min l2 (b + p.1 - 1) - max f b + 1) := mul_split (by omega)
    show p.2 * max 0 (min l (b + p.1 - 1) - max f b + 1) + wov (b + p.1) r rest f l + (p.2 * max 0 (min l2 (b + p.1 - 1) - max (l + 1) b + 1) + wov (b + p.1) r rest (l + 1) l2) = p.2 * max 0 (min l2 (b + p.1 - 1) - max f b + 1) + wov (b + p.1) r rest f l2
    omega
theorem wov_zero (rest : Int) {f l : Int} : ∀ {ss : List (Int × Int)} {b : Int}, Pos ss → l < b → wov b ss rest f l = 0
  | [], b, _, h => by
    show rest * max 0 (l - max f b + 1) = 0
    rw [show max 0 (l - max f b + 1) = 0 by omega]; omega
  | p :: r, b, hp, h => by
    have h1 := hp.hd
    have ih := wov_zero rest (f := f) (l := l) (ss := r) (b := b + p.1) hp.tl (by omega)
    show p.2 * max 0 (min l (b + p.1 - 1) - max f b + 1) + wov (b + p.1) r rest f l = 0
    rw [ih, show max 0 (min l (b + p.1 - 1) - max f b + 1) = 0 by omega]; omega
theorem wov_flat (rest : Int) {f l : Int} (hl : f ≤ l) : ∀ {ss : List (Int × Int)} {b : Int}, Pos ss → b ≤ f → (∀ x ∈ ends b ss, ¬ (f < x ∧ x ≤ l)) → wov b ss rest f l = mach b ss rest f * (l - f + 1)
  | [], b, _, h, _ => by
    show rest * max 0 (l - max f b + 1) = rest * (l - f + 1)
    rw [show max 0 (l - max f b + 1) = l - f + 1 by omega]
  | p :: r, b, hp, h, hx => by
    have h1 := hp.hd
    show p.2 * max 0 (min l (b + p.1 - 1) - max f b + 1) + wov (b + p.1) r rest f l = (if f < b + p.1 then p.2 else mach (b + p.1) r rest f) * (l - f + 1)
    by_cases hf : f < b + p.1
    · have hl2 : l < b + p.1 := by
        have := hx (b + p.1) List.mem_cons_self
        omega
      rw [if_pos hf, wov_zero rest hp.tl hl2, show max 0 (min l (b + p.1 - 1) - max f b + 1) = l - f + 1 by omega]
      omega
    · rw [if_neg hf, show max 0 (min l (b + p.1 - 1) - max f b + 1) = 0 by omega, wov_flat rest hl hp.tl (by omega) fun x h => hx x (List.mem_cons_of_mem _ h)]
      omega
theorem wov_one (rest : Int) {t : Int} {ss : List (Int × Int)} {b : Int} (hp : Pos ss) (h : b ≤ t) : wov b ss rest t t = mach b ss rest t := by
  rw [wov_flat rest (Int.le_refl t) hp h fun x _ hx => by omega, show t - t + 1 = 1 by omega, Int.mul_one]
theorem mach_flat (rest : Int) {f t : Int} (hl : f ≤ t) : ∀ {ss : List (Int × Int)} {b : Int}, (∀ x ∈ ends b ss, ¬ (f < x ∧ x ≤ t)) → mach b ss rest t = mach b ss rest f
  | [], b, _ => rfl
  | p :: r, b, hx => by
    show (if t < b + p.1 then p.2 else mach (b + p.1) r rest t) = (if f < b + p.1 then p.2 else mach (b + p.1) r rest f)
    by_cases hf : f < b + p.1
    · have := hx (b + p.1) List.mem_cons_self
      rw [if_pos hf, if_pos (by omega)]
    · rw [if_neg hf, if_neg (by omega), mach_flat rest hl fun x h => hx x (List.mem_cons_of_mem _ h)]
theorem mach_range (rest : Int) {t lo hi : Int} (h1 : lo ≤ rest) (h2 : rest ≤ hi) : ∀ {ss : List (Int × Int)} {b : Int}, (∀ p ∈ ss, lo ≤ p.2 ∧ p.2 ≤ hi) → lo ≤ mach b ss rest t ∧ mach b ss rest t ≤ hi
  | [], _, _ => ⟨h1, h2⟩
  | p :: r, b, h => by
    show lo ≤ (if t < b + p.1 then p.2 else mach (b + p.1) r rest t) ∧ (if t < b + p.1 then p.2 else mach (b + p.1) r rest t) ≤ hi
    split
    · exact h p List.mem_cons_self
    · exact mach_range rest h1 h2 fun q hq => h q (List.mem_cons_of_mem _ hq)
/-! ### tidying keeps it -/
theorem wov_append (rest f l : Int) : ∀ (a c : List (Int × Int)) (b : Int), wov b (a ++ c) rest f l = wov b a 0 f l + wov (tot b a) c rest f l
  | [], c, b => by
    show wov b c rest f l = 0 * _ + wov b c rest f l
    omega
  | p :: r, c, b => by
    show p.2 * _ + wov (b + p.1) (r ++ c) rest f l = p.2 * _ + wov (b + p.1) r 0 f l + wov (tot (b + p.1) r) c rest f l
    rw [wov_append rest f l r c]
    omega
theorem tot_append : ∀ (a c : List (Int × Int)) (b : Int), tot b (a ++ c) = tot (tot b a) c
  | [], _, _ => rfl
  | p :: r, c, b => tot_append r c (b + p.1)
theorem tot_ge : ∀ {ss : List (Int × Int)} {b : Int}, Pos ss → b ≤ tot b ss
  | [], b, _ => Int.le_refl b
  | p :: r, b, hp => by
    have := tot_ge (b := b + p.1) hp.tl
    have := hp.hd
    show b ≤ tot (b + p.1) r
    omega
theorem tstep_pos {acc : List (Int × Int)} {p : Int × Int} (h : Pos acc) (hp : 1 ≤ p.1) : Pos (tstep acc p) := by
  unfold tstep
  cases e : acc.getLast? with
  | none =>
    intro q hq
    rw [List.mem_singleton.mp hq]; exact hp
  | some l =>
    have hl : l ∈ acc := List.mem_of_getLast? e
    have := h l hl
    show Pos (if l.2 = p.2 then acc.dropLast ++ [(l.1 + p.1, p.2)] else acc ++ [p])
    split
    · intro q hq
      rcases List.mem_append.mp hq with hq | hq
      · exact h q (List.dropLast_subset _ hq)
      · rw [List.mem_singleton.mp hq]; show 1 ≤ l.1 + p.1; omega
    · intro q hq
      rcases List.mem_append.mp hq with hq | hq
      · exact h q hq
      · rw [List.mem_singleton.mp hq]; exact hp
theorem wov_one_tstep {acc : List (Int × Int)} {p : Int × Int} (hpos : Pos acc) (hp : 1 ≤ p.1) (rest f l : Int) : wov 0 (tstep acc p) rest f l = wov 0 (acc ++ [p]) rest f l := by
  unfold tstep
  cases e : acc.getLast? with
  | none =>
    rw [List.getLast?_eq_none_iff.mp e]; rfl
  | some q =>
    obtain ⟨r, rfl⟩ : ∃ r, acc = r ++ [q] := by
      obtain ⟨ys, h⟩ := List.getLast?_eq_some_iff.mp e
      exact ⟨ys, h⟩
    have hq := hpos q (by simp)
    show wov 0 (if q.2 = p.2 then (r ++ [q]).dropLast ++ [(q.1 + p.1, p.2)] else r ++ [q] ++ [p]) rest f l = _
    by_cases h : q.2 = p.2
    · rw [if_pos h, List.dropLast_concat, List.append_assoc, wov_append, wov_append]
      generalize tot 0 r = b
      show _ + (p.2 * max 0 (min l (b + (q.1 + p.1) - 1) - max f b + 1) + rest * max 0 (l - max f (b + (q.1 + p.1)) + 1)) = _ + (q.2 * max 0 (min l (b + q.1 - 1) - max f b + 1) + (p.2 * max 0 (min l (b + q.1 + p.1 - 1) - max f (b + q.1) + 1) + rest * max 0 (l - max f (b + q.1 + p.1) + 1)))
      rw [h, ← Int.add_assoc b q.1 p.1]
      have := mul_split (k := p.2) (show max 0 (min l (b + q.1 - 1) - max f b + 1) + max 0 (min l (b + q.1 + p.1 - 1) - max f (b + q.1) + 1) = max 0 (min l (b + q.1 + p.1 - 1) - max f b + 1) by omega)
      omega
    · rw [if_neg h]
theorem tot_snoc (a : List (Int × Int)) (p : Int × Int) (b : Int) : tot b (a ++ [p]) = tot b a + p.1 := by rw [tot_append]; rfl
theorem wov_snoc_congr {a c : List (Int × Int)} (f l : Int) (h0 : ∀ rest, wov 0 a rest f l = wov 0 c rest f l) (ht : tot 0 a = tot 0 c) (p : Int × Int) (rest : Int) : wov 0 (a ++ [p]) rest f l = wov 0 (c ++ [p]) rest f l := by
  rw [wov_append, wov_append, h0 0, ht]
theorem tot_tstep {acc : List (Int × Int)} {p : Int × Int} : tot 0 (tstep acc p) = tot 0 (acc ++ [p]) := by
  unfold tstep
  cases e : acc.getLast? with
  | none => rw [List.getLast?_eq_none_iff.mp e]; rfl
  | some q =>
    obtain ⟨r, rfl⟩ := List.getLast?_eq_some_iff.mp e
    show tot 0 (if q.2 = p.2 then (r ++ [q]).dropLast ++ [(q.1 + p.1, p.2)] else r ++ [q] ++ [p]) = _
    by_cases h : q.2 = p.2
    · rw [if_pos h, List.dropLast_concat, tot_snoc, tot_snoc, tot_snoc]
      show tot 0 r + (q.1 + p.1) = _
      omega
    · rw [if_neg h]
theorem tfold_ok (f l : Int) : ∀ (rows acc pre : List (Int × Int)), Pos acc → Pos rows → (∀ rest, wov 0 acc rest f l = wov 0 pre rest f l) → tot 0 acc = tot 0 pre →
    Pos (rows.foldl tstep acc) ∧ (∀ rest, wov 0 (rows.foldl tstep acc) rest f l = wov 0 (pre ++ rows) rest f l)
  | [], acc, pre, h1, _, h3, _ => ⟨h1, fun rest => by rw [List.append_nil]; exact h3 rest⟩
  | p :: r, acc, pre, h1, h2, h3, h4 => by
    have z := tfold_ok f l r (tstep acc p) (pre ++ [p]) (tstep_pos h1 h2.hd) h2.tl (fun rest => by rw [wov_one_tstep h1 h2.hd]; exact wov_snoc_congr f l h3 h4 p rest) (by rw [tot_tstep, tot_snoc, tot_snoc, h4])
    rw [List.append_assoc] at z
    exact z
theorem tid_pos {rows : List (Int × Int)} {rest : Int} (h : Pos rows) : Pos (tid rows rest) := by
  have z := (tfold_ok 0 0 rows [] [] (fun _ h => by cases h) h (fun _ => rfl) rfl).1
  unfold tid
  split
  · intro _ h; cases h
  · split
    · exact fun q hq => z q (List.dropLast_subset _ hq)
    · exact z
/-- THE LAW: tidied rows have the same machines over every span -/
theorem tid_wov {rows : List (Int × Int)} {rest : Int} (h : Pos rows) (f l : Int) : wov 0 (tid rows rest) rest f l = wov 0 rows rest f l := by
  obtain ⟨z1, z2⟩ := tfold_ok f l rows [] [] (fun _ h => by cases h) h (fun _ => rfl) rfl
  rw [← show [] ++ rows = rows from rfl, ← z2 rest]
  show wov 0 (tid rows rest) rest f l = _
  unfold tid
  cases e : (rows.foldl tstep []).getLast? with
  | none => rw [List.getLast?_eq_none_iff.mp e]
  | some q =>
    obtain ⟨r, e2⟩ := List.getLast?_eq_some_iff.mp e
    rw [e2] at z1 ⊢
    have hq := z1 q (by simp)
    show wov 0 (if q.2 = rest then (r ++ [q]).dropLast else r ++ [q]) rest f l = _
    by_cases hr : q.2 = rest
    · rw [if_pos hr, List.dropLast_concat, wov_append rest f l r [q]]
      have e3 := wov_append rest f l r [] 0
      rw [List.append_nil] at e3
      rw [e3]
      generalize tot 0 r = b
      show _ + rest * max 0 (l - max f b + 1) = _ + (q.2 * max 0 (min l (b + q.1 - 1) - max f b + 1) + rest * max 0 (l - max f (b + q.1) + 1))
      rw [hr, mul_split (k := rest) (show max 0 (min l (b + q.1 - 1) - max f b + 1) + max 0 (l - max f (b + q.1) + 1) = max 0 (l - max f b + 1) by omega)]
    · rw [if_neg hr]
theorem tstep_mem {acc : List (Int × Int)} {p : Int × Int} {lo hi : Int} (h : ∀ q ∈ acc, lo ≤ q.2 ∧ q.2 ≤ hi) (hp : lo ≤ p.2 ∧ p.2 ≤ hi) : ∀ q ∈ tstep acc p, lo ≤ q.2 ∧ q.2 ≤ hi := by
  unfold tstep
  cases e : acc.getLast? with
  | none =>
    intro q hq
    rw [List.mem_singleton.mp hq]; exact hp
  | some l =>
    show ∀ q ∈ (if l.2 = p.2 then acc.dropLast ++ [(l.1 + p.1, p.2)] else acc ++ [p]), _
    split
    · intro q hq
      rcases List.mem_append.mp hq with hq | hq
      · exact h q (List.dropLast_subset _ hq)
      · rw [List.mem_singleton.mp hq]; exact hp
    · intro q hq
      rcases List.mem_append.mp hq with hq | hq
      · exact h q hq
      · rw [List.mem_singleton.mp hq]; exact hp
theorem tfold_mem {lo hi : Int} : ∀ (rows acc : List (Int × Int)), (∀ q ∈ acc, lo ≤ q.2 ∧ q.2 ≤ hi) → (∀ q ∈ rows, lo ≤ q.2 ∧ q.2 ≤ hi) → (∀ q ∈ rows.foldl tstep acc, lo ≤ q.2 ∧ q.2 ≤ hi) ∧ (rows.foldl tstep acc).length ≤ acc.length + rows.length
  | [], acc, h, _ => ⟨h, Nat.le_refl _⟩
  | p :: r, acc, h, h2 => by
    have z := tfold_mem r (tstep acc p) (tstep_mem h (h2 p List.mem_cons_self)) fun q hq => h2 q (List.mem_cons_of_mem _ hq)
    have := tstep_len acc p
    refine ⟨z.1, ?_⟩
    rw [List.foldl_cons, List.length_cons]
    omega
theorem tid_mem {rows : List (Int × Int)} {rest lo hi : Int} (h : ∀ q ∈ rows, lo ≤ q.2 ∧ q.2 ≤ hi) : (∀ q ∈ tid rows rest, lo ≤ q.2 ∧ q.2 ≤ hi) ∧ (tid rows rest).length ≤ rows.length := by
  obtain ⟨z, zl⟩ := tfold_mem rows [] (fun _ h => by cases h) h
  simp at zl
  unfold tid
  split
  · exact ⟨fun q hq => by simp at hq, Nat.zero_le _⟩
  · split
    · exact ⟨fun q hq => z q (List.dropLast_subset _ hq), by rw [List.length_dropLast]; omega⟩
    · exact ⟨z, zl⟩
theorem tid_ok {rows : List (Int × Int)} {rest : Int} (hl : rows.length ≤ 16) (hp : Pos rows) (hk : ∀ q ∈ rows, 0 ≤ q.2 ∧ q.2 ≤ 16) (r1 : 1 ≤ rest) (r2 : rest ≤ 16) : CalOk (tid rows rest) rest where
  len := Nat.le_trans (tid_mem hk).2 hl
  k := (tid_mem hk).1
  m := tid_pos hp
  r1 := r1
  r2 := r2
end Due

set_option linter.all false
/-! M4: the cells' order, lengths and machines; the spans of a cut. -/
namespace Due

/-! ### consecutive pairs -/
theorem cons2_cons (x y : Int) (r : List Int) : cons2 (x :: y :: r) = (x, y) :: cons2 (y :: r) := rfl
theorem cons2_one (x : Int) : cons2 [x] = [] := rfl
def lastD : Int → List Int → Int
  | x, [] => x
  | _, y :: r => lastD y r
theorem lastD_ge : ∀ {r : List Int} {x : Int}, (x :: r).Pairwise (· < ·) → x ≤ lastD x r ∧ ∀ y ∈ r, y ≤ lastD x r
  | [], x, _ => ⟨Int.le_refl x, fun _ h => by cases h⟩
  | y :: r, x, h => by
    obtain ⟨h1, h2⟩ := List.pairwise_cons.mp h
    have z := lastD_ge h2
    have := h1 y List.mem_cons_self
    refine ⟨by show x ≤ lastD y r; omega, fun w hw => ?_⟩
    rcases List.mem_cons.mp hw with rfl | hw
    · exact z.1
    · exact z.2 w hw
theorem tele {g : Int → Int → Int} (h0 : ∀ x, g x x = 0) (ha : ∀ x y z, x ≤ y → y ≤ z → g x y + g y z = g x z) : ∀ {r : List Int} {x : Int}, (x :: r).Pairwise (· < ·) → ((cons2 (x :: r)).map fun p => g p.1 p.2).sum = g x (lastD x r)
  | [], x, _ => by show (0 : Int) = g x x; rw [h0]
  | y :: r, x, h => by
    obtain ⟨h1, h2⟩ := List.pairwise_cons.mp h
    have z := tele h0 ha h2
    have := h1 y List.mem_cons_self
    rw [cons2_cons, List.map_cons, List.sum_cons, z]
    exact ha x y _ (by omega) (lastD_ge h2).1
theorem cons2_mem : ∀ {l : List Int} {p : Int × Int}, l.Pairwise (· < ·) → p ∈ cons2 l → p.1 ∈ l ∧ p.2 ∈ l ∧ p.1 < p.2 ∧ ∀ x ∈ l, ¬ (p.1 < x ∧ x < p.2)
  | [], p, _, h => by cases h
  | [x], p, _, h => by cases h
  | x :: y :: r, p, hp, h => by
    obtain ⟨h1, h2⟩ := List.pairwise_cons.mp hp
    obtain ⟨h3, _⟩ := List.pairwise_cons.mp h2
    rw [cons2_cons] at h
    rcases List.mem_cons.mp h with rfl | h
    · refine ⟨List.mem_cons_self, by simp, h1 y List.mem_cons_self, fun z hz => ?_⟩
      rcases List.mem_cons.mp hz with rfl | hz
      · show ¬ (z < z ∧ z < y); omega
      · rcases List.mem_cons.mp hz with rfl | hz
        · show ¬ (x < z ∧ z < z); omega
        · have := h3 z hz
          show ¬ (x < z ∧ z < y); omega
    · obtain ⟨k1, k2, k3, k4⟩ := cons2_mem h2 h
      refine ⟨List.mem_cons_of_mem _ k1, List.mem_cons_of_mem _ k2, k3, fun z hz => ?_⟩
      rcases List.mem_cons.mp hz with rfl | hz
      · have := h1 _ k1
        omega
      · exact k4 z hz
theorem cons2_pw : ∀ {l : List Int}, l.Pairwise (· < ·) → (cons2 l).Pairwise (fun p q => p.2 ≤ q.1)
  | [], _ => List.Pairwise.nil
  | [x], _ => List.Pairwise.nil
  | x :: y :: r, hp => by
    obtain ⟨h1, h2⟩ := List.pairwise_cons.mp hp
    rw [cons2_cons]
    refine List.pairwise_cons.mpr ⟨fun q hq => ?_, cons2_pw h2⟩
    have := (cons2_mem h2 hq).1
    show y ≤ q.1
    rcases List.mem_cons.mp this with e | e
    · omega
    · have := (List.pairwise_cons.mp h2).1 _ e
      omega
/-! ### the cells between two marks -/
def cuts (ss : List (Int × Int)) (b e : Int) : List Int := (ends 0 ss).filter fun x => decide (b < x ∧ x ≤ e - 1)
theorem cuts_mem {ss : List (Int × Int)} {b e x : Int} : x ∈ cuts ss b e ↔ x ∈ ends 0 ss ∧ b < x ∧ x < e := by
  unfold cuts
  rw [List.mem_filter]
  simp only [decide_eq_true_eq]
  constructor
  · rintro ⟨h1, h2, h3⟩; exact ⟨h1, h2, by omega⟩
  · rintro ⟨h1, h2, h3⟩; exact ⟨h1, h2, by omega⟩
theorem cuts_rise {ss : List (Int × Int)} {b e : Int} (hp : Pos ss) (h : b < e) : (b :: (cuts ss b e ++ [e])).Pairwise (· < ·) := by
  refine List.pairwise_cons.mpr ⟨fun x hx => ?_, List.pairwise_append.mpr ⟨(ends_rise hp).filter _, List.pairwise_singleton _ _, fun x hx y hy => ?_⟩⟩
  · rcases List.mem_append.mp hx with hx | hx
    · exact (cuts_mem.mp hx).2.1
    · rw [List.mem_singleton.mp hx]; exact h
  · rw [List.mem_singleton.mp hy]
    exact (cuts_mem.mp hx).2.2
theorem lastD_snoc : ∀ (r : List Int) (x e : Int), lastD x (r ++ [e]) = e
  | [], _, _ => rfl
  | y :: r, x, e => lastD_snoc r y e
theorem cellsOf_eq (ss : List (Int × Int)) (rest b e : Int) : cellsOf ss rest b e = (cons2 (b :: (cuts ss b e ++ [e]))).map (cellMk ss rest) := by
  unfold cellsOf cuts
  rw [changes_eq]
  rfl
theorem cellsOf_mem {ss : List (Int × Int)} {rest b e : Int} (hp : Pos ss) (h : b < e) {c : Int × Int × Int} (hc : c ∈ cellsOf ss rest b e) : b ≤ c.1 ∧ c.1 ≤ c.2.1 ∧ c.2.1 < e ∧ c.2.2 = mach 0 ss rest c.1 ∧ ∀ x ∈ ends 0 ss, ¬ (c.1 < x ∧ x ≤ c.2.1) := by
  rw [cellsOf_eq] at hc
  obtain ⟨p, hp2, rfl⟩ := List.mem_map.mp hc
  obtain ⟨k1, k2, k3, k4⟩ := cons2_mem (cuts_rise hp h) hp2
  have lo : ∀ x ∈ b :: (cuts ss b e ++ [e]), b ≤ x ∧ x ≤ e := fun x hx => by
    rcases List.mem_cons.mp hx with rfl | hx
    · omega
    · rcases List.mem_append.mp hx with hx | hx
      · have := (cuts_mem.mp hx).2; omega
      · rw [List.mem_singleton.mp hx]; omega
  have a1 := lo _ k1
  have a2 := lo _ k2
  refine ⟨a1.1, ?_, ?_, calAt_eq _ _ _, fun x hx => ?_⟩
  · show p.1 ≤ p.2 - 1; omega
  · show p.2 - 1 < e; omega
  · show ¬ (p.1 < x ∧ x ≤ p.2 - 1)
    intro hh
    exact k4 x (List.mem_cons_of_mem _ (List.mem_append_left _ (cuts_mem.mpr ⟨hx, by omega, by omega⟩))) ⟨hh.1, by omega⟩
theorem cellsOf_pw {ss : List (Int × Int)} {rest b e : Int} (hp : Pos ss) (h : b < e) : (cellsOf ss rest b e).Pairwise (fun c d => c.2.1 < d.1) := by
  rw [cellsOf_eq]
  refine List.Pairwise.map _ (fun p q h => ?_) (cons2_pw (cuts_rise hp h))
  show p.2 - 1 < q.1
  omega
theorem cellsOf_sum {ss : List (Int × Int)} {rest b e f l : Int} (hp : Pos ss) (h : b < e) : ((cellsOf ss rest b e).map fun c => ovl f l (c.1, c.2.1)).sum = ovl f l (b, e - 1) := by
  rw [cellsOf_eq, List.map_map]
  have z := tele (g := fun x y => ovl f l (x, y - 1)) (fun x => by unfold ovl; show max 0 (min (x - 1) l - max x f + 1) = 0; omega) (fun x y z h1 h2 => by unfold ovl; show max 0 (min (y - 1) l - max x f + 1) + max 0 (min (z - 1) l - max y f + 1) = max 0 (min (z - 1) l - max x f + 1); omega) (cuts_rise hp h)
  rw [lastD_snoc] at z
  exact z
theorem sum_flatMap {α β : Type} (f : α → List β) (g : β → Int) : ∀ (l : List α), ((l.flatMap f).map g).sum = (l.map fun a => ((f a).map g).sum).sum
  | [] => rfl
  | a :: r => by
    rw [List.flatMap_cons, List.map_append, List.sum_append, sum_flatMap f g r]; rfl
/-! ### all cells -/
structure CellsOk (js : List Job) (ss : List (Int × Int)) (rest : Int) (cs : List (Int × Int × Int)) : Prop where
  rise : cs.Pairwise (fun c d => c.2.1 < d.1)
  le : ∀ c ∈ cs, 0 ≤ c.1 ∧ c.1 ≤ c.2.1
  k : ∀ c ∈ cs, c.2.2 = mach 0 ss rest c.1
  flat : ∀ c ∈ cs, ∀ x ∈ ends 0 ss, ¬ (c.1 < x ∧ x ≤ c.2.1)
  inw : ∀ c ∈ cs, ∃ j ∈ js, j.fi ≤ c.1 ∧ c.2.1 ≤ j.la
  side : ∀ c ∈ cs, ∀ j ∈ js, (j.fi ≤ c.1 ∧ c.2.1 ≤ j.la) ∨ ovl j.fi j.la (c.1, c.2.1) = 0
  sum : ∀ j ∈ js, (cs.map fun c => ovl j.fi j.la (c.1, c.2.1)).sum = max 0 (j.la - j.fi + 1)
  len : cs.length ≤ 39
theorem mem_rawMarks {js : List Job} {k : Int} : k ∈ rawMarks js ↔ ∃ j ∈ js, j.fi ≤ j.la ∧ (k = j.fi ∨ k = j.la + 1) := by
  unfold rawMarks
  rw [List.mem_flatMap]
  constructor
  · rintro ⟨j, hj, h⟩
    by_cases e : j.fi ≤ j.la
    · rw [if_pos e] at h
      refine ⟨j, hj, e, ?_⟩
      simpa using h
    · rw [if_neg e] at h; cases h
  · rintro ⟨j, hj, e, h⟩
    refine ⟨j, hj, ?_⟩
    rw [if_pos e]
    simpa using h
theorem cut_count (P : List Int) : ∀ {ms : List Int}, ms.Pairwise (· < ·) → ((cons2 ms).map fun p => (P.filter fun x => decide (p.1 < x ∧ x ≤ p.2 - 1)).length).sum ≤ P.length ∧ ∀ {x0 : Int} {r : List Int}, ms = x0 :: r → ((cons2 ms).map fun p => (P.filter fun x => decide (p.1 < x ∧ x ≤ p.2 - 1)).length).sum ≤ (P.filter fun x => decide (x0 < x)).length
  | [], _ => ⟨Nat.zero_le _, fun h => by cases h⟩
  | [x], _ => ⟨Nat.zero_le _, fun h => Nat.zero_le _⟩
  | x :: y :: r, hp => by
    obtain ⟨h1, h2⟩ := List.pairwise_cons.mp hp
    have hxy := h1 y List.mem_cons_self
    have z := (cut_count P h2).2 rfl
    have key : ∀ (P : List Int), (P.filter fun w => decide (x < w ∧ w ≤ y - 1)).length + (P.filter fun w => decide (y < w)).length ≤ (P.filter fun w => decide (x < w)).length := by
      intro P
      induction P with
      | nil => exact Nat.le_refl _
      | cons a P ih =>
        rw [List.filter_cons, List.filter_cons, List.filter_cons]
        by_cases a1 : x < a ∧ a ≤ y - 1
        · have a2 : ¬ y < a := by omega
          have a3 : x < a := a1.1
          simp only [a1, a2, decide_true, decide_false, and_self, if_true, List.length_cons, Bool.false_eq_true, if_false]
          omega
        · by_cases a2 : y < a
          · have a3 : x < a := by omega
            have a4 : ¬ a ≤ y - 1 := by omega
            simp only [a2, a3, a4, decide_true, decide_false, and_false, if_true, List.length_cons, Bool.false_eq_true, if_false]
            omega
          · rw [if_neg (by simpa using a1), if_neg (by simpa using a2)]
            split
            · rw [List.length_cons]; omega
            · exact ih
    have main : ((cons2 (x :: y :: r)).map fun p => (P.filter fun x => decide (p.1 < x ∧ x ≤ p.2 - 1)).length).sum ≤ (P.filter fun w => decide (x < w)).length := by
      rw [cons2_cons, List.map_cons, List.sum_cons]
      have := key P
      show (P.filter fun w => decide (x < w ∧ w ≤ y - 1)).length + _ ≤ _
      omega
    refine ⟨Nat.le_trans main (List.length_filter_le _ _), fun {x0 r0} e => ?_⟩
    cases e
    exact main
theorem flat_len2 {α β : Type} {f : α → List β} {g : α → Nat} (h : ∀ a, (f a).length ≤ g a + 1) : ∀ (l : List α), (l.flatMap f).length ≤ (l.map g).sum + l.length
  | [] => by simp
  | a :: r => by
    have h1 := flat_len2 h r
    have h2 := h a
    rw [List.flatMap_cons, List.length_append, List.length_cons, List.map_cons, List.sum_cons]
    omega
theorem cells_ok {js : List Job} {ss : List (Int × Int)} {rest : Int} {ms : List Int} (CO : CalOk ss rest) (LO : LoadOk js) (hms : ms.Pairwise (· < ·)) (hmm : ∀ k, k ∈ ms ↔ k ∈ rawMarks js) (hmz : ms.length ≤ 24) : CellsOk js ss rest (cellsL js ss rest ms) := by
  have hp : Pos ss := CO.m
  have stp : ∀ p ∈ cons2 ms, ∀ c ∈ cellStep js ss rest p, wanted js p.1 = true ∧ c ∈ cellsOf ss rest p.1 p.2 := fun p _ c hc => by
    unfold cellStep at hc
    by_cases e : wanted js p.1 = true
    · rw [if_pos e] at hc; exact ⟨e, hc⟩
    · rw [if_neg e] at hc; cases hc
  have mem : ∀ c ∈ cellsL js ss rest ms, ∃ p ∈ cons2 ms, wanted js p.1 = true ∧ c ∈ cellsOf ss rest p.1 p.2 := fun c hc => by
    obtain ⟨p, h1, h2⟩ := List.mem_flatMap.mp hc
    exact ⟨p, h1, stp p h1 c h2⟩
  have msn : ∀ k ∈ ms, 0 ≤ k := fun k hk => by
    obtain ⟨j, hj, e, h⟩ := mem_rawMarks.mp ((hmm k).mp hk)
    have := (LO.num j hj).f0
    omega
  have jm : ∀ j ∈ js, j.fi ≤ j.la → j.fi ∈ ms ∧ j.la + 1 ∈ ms := fun j hj h => ⟨(hmm _).mpr (mem_rawMarks.mpr ⟨j, hj, h, .inl rfl⟩), (hmm _).mpr (mem_rawMarks.mpr ⟨j, hj, h, .inr rfl⟩)⟩
  have side : ∀ p ∈ cons2 ms, ∀ j ∈ js, (j.fi ≤ p.1 ∧ p.2 - 1 ≤ j.la) ∨ ∀ a e, p.1 ≤ a → e < p.2 → ovl j.fi j.la (a, e) = 0 := fun p hp j hj => by
    obtain ⟨k1, k2, k3, k4⟩ := cons2_mem hms hp
    by_cases e : j.fi ≤ j.la
    · obtain ⟨m1, m2⟩ := jm j hj e
      have n1 := k4 _ m1
      have n2 := k4 _ m2
      by_cases q1 : p.2 ≤ j.fi
      · right; intro a e ha he; unfold ovl; show max 0 (min e j.la - max a j.fi + 1) = 0; omega
      · by_cases q2 : j.la + 1 ≤ p.1
        · right; intro a e ha he; unfold ovl; show max 0 (min e j.la - max a j.fi + 1) = 0; omega
        · left; omega
    · right; intro a e ha he; unfold ovl; show max 0 (min e j.la - max a j.fi + 1) = 0; omega
  refine ⟨?_, fun c hc => ?_, fun c hc => ?_, fun c hc => ?_, fun c hc => ?_, fun c hc j hj => ?_, fun j hj => ?_, ?_⟩
  · unfold cellsL
    refine List.pairwise_flatMap.mpr ⟨fun p hp2 => ?_, ?_⟩
    · have k3 := (cons2_mem hms hp2).2.2.1
      unfold cellStep
      split
      · exact cellsOf_pw hp k3
      · exact List.Pairwise.nil
    · have hpw := cons2_pw hms
      refine List.Pairwise.imp_of_mem (fun {p q} hp2 hq2 h x hx y hy => ?_) hpw
      have h1 := cellsOf_mem hp (cons2_mem hms hp2).2.2.1 (stp p hp2 x hx).2
      have h2 := cellsOf_mem hp (cons2_mem hms hq2).2.2.1 (stp q hq2 y hy).2
      omega
  · obtain ⟨p, hp2, hw, h⟩ := mem c hc
    have h1 := cellsOf_mem hp (cons2_mem hms hp2).2.2.1 h
    have := msn _ (cons2_mem hms hp2).1
    omega
  · obtain ⟨p, hp2, hw, h⟩ := mem c hc
    exact (cellsOf_mem hp (cons2_mem hms hp2).2.2.1 h).2.2.2.1
  · obtain ⟨p, hp2, hw, h⟩ := mem c hc
    exact (cellsOf_mem hp (cons2_mem hms hp2).2.2.1 h).2.2.2.2
  · obtain ⟨p, hp2, hw, h⟩ := mem c hc
    have h1 := cellsOf_mem hp (cons2_mem hms hp2).2.2.1 h
    unfold wanted at hw
    obtain ⟨j, hj, hd⟩ := List.any_eq_true.mp hw
    have hd := of_decide_eq_true hd
    refine ⟨j, hj, by omega, ?_⟩
    have := (cons2_mem hms hp2).2.2.2 _ (jm j hj (by omega)).2
    omega
  · obtain ⟨p, hp2, hw, h⟩ := mem c hc
    have h1 := cellsOf_mem hp (cons2_mem hms hp2).2.2.1 h
    rcases side p hp2 j hj with s | s
    · left; omega
    · right; exact s _ _ h1.1 h1.2.2.1
  · unfold cellsL
    rw [sum_flatMap]
    have e1 : ((cons2 ms).map fun p => ((cellStep js ss rest p).map fun c => ovl j.fi j.la (c.1, c.2.1)).sum) = (cons2 ms).map fun p => ovl j.fi j.la (p.1, p.2 - 1) := by
      refine List.map_congr_left fun p hp2 => ?_
      obtain ⟨k1, k2, k3, k4⟩ := cons2_mem hms hp2
      unfold cellStep
      by_cases hw : wanted js p.1 = true
      · rw [if_pos hw]
        exact cellsOf_sum hp k3
      · rw [if_neg hw]
        rcases side p hp2 j hj with s | s
        · refine absurd ?_ hw
          unfold wanted
          exact List.any_eq_true.mpr ⟨j, hj, decide_eq_true ⟨s.1, by omega⟩⟩
        · exact (s p.1 (p.2 - 1) (Int.le_refl _) (by omega)).symm
    rw [e1]
    by_cases e : j.fi ≤ j.la
    · obtain ⟨m1, m2⟩ := jm j hj e
      match ms, hms, m1, m2 with
      | [], _, h, _ => cases h
      | x :: r, hms, m1, m2 =>
        have z := tele (g := fun x y => ovl j.fi j.la (x, y - 1)) (fun x => by unfold ovl; show max 0 (min (x - 1) j.la - max x j.fi + 1) = 0; omega) (fun x y z h1 h2 => by unfold ovl; show max 0 (min (y - 1) j.la - max x j.fi + 1) + max 0 (min (z - 1) j.la - max y j.fi + 1) = max 0 (min (z - 1) j.la - max x j.fi + 1); omega) hms
        refine z.trans ?_
        have b1 : x ≤ j.fi := by
          rcases List.mem_cons.mp m1 with q | q
          · omega
          · have := (List.pairwise_cons.mp hms).1 _ q; omega
        have b2 : j.la + 1 ≤ lastD x r := by
          rcases List.mem_cons.mp m2 with q | q
          · have := (lastD_ge hms).1; omega
          · exact (lastD_ge hms).2 _ q
        unfold ovl
        show max 0 (min (lastD x r - 1) j.la - max x j.fi + 1) = _
        omega
    · have e2 : (cons2 ms).map (fun p => ovl j.fi j.la (p.1, p.2 - 1)) = (cons2 ms).map fun _ => (0 : Int) := List.map_congr_left fun p _ => by
        unfold ovl
        show max 0 (min (p.2 - 1) j.la - max p.1 j.fi + 1) = 0
        omega
      rw [e2, show max 0 (j.la - j.fi + 1) = 0 by omega]
      generalize cons2 ms = l
      induction l with
      | nil => rfl
      | cons a r ih => rw [List.map_cons, List.sum_cons, ih]; rfl
  · have h1 := flat_len2 (f := cellStep js ss rest) (g := fun p => ((ends 0 ss).filter fun x => decide (p.1 < x ∧ x ≤ p.2 - 1)).length) (fun p => by
      unfold cellStep
      split
      · rw [cellsOf_eq, List.length_map, cons2_len]
        unfold cuts
        rw [List.length_cons, List.length_append, List.length_singleton]
        omega
      · exact Nat.zero_le _) (cons2 ms)
    have h2 := (cut_count (ends 0 ss) hms).1
    rw [ends_len] at h2
    have h3 := cons2_len ms
    have h4 := CO.len
    unfold cellsL
    omega
end Due

set_option linter.all false
/-! M5: the instance of a load and a calendar; the spans of a cut. -/
namespace Due
theorem cs_range (cs : List (Int × Int × Int)) : cs = (List.range cs.length).map (cg cs) := by
  refine List.ext_getElem (by simp) fun i h1 h2 => ?_
  rw [List.getElem_map, List.getElem_range]
  unfold cg
  rw [List.getD_eq_getElem?_getD, List.getElem?_eq_getElem h1]; rfl
theorem js_range (js : List Job) : js = (List.range js.length).map (jg js) := by
  refine List.ext_getElem (by simp) fun i h1 h2 => ?_
  rw [List.getElem_map, List.getElem_range]
  unfold jg
  rw [List.getD_eq_getElem?_getD, List.getElem?_eq_getElem h1]; rfl
theorem cs_sum (cs : List (Int × Int × Int)) (g : Int × Int × Int → Int) : (cs.map g).sum = sm cs.length fun c => g (cg cs c) := by
  rw [← sum_range_map]
  conv => lhs; rw [cs_range cs]
  rw [List.map_map]; rfl
theorem js_sum (js : List Job) (g : Job → Int) : (js.map g).sum = sm js.length fun j => g (jg js j) := by
  rw [← sum_range_map]
  conv => lhs; rw [js_range js]
  rw [List.map_map]; rfl
theorem cg_mem {cs : List (Int × Int × Int)} {c : Nat} (h : c < cs.length) : cg cs c ∈ cs := List.mem_of_getElem? (cg_of h)
theorem jg_mem {js : List Job} {c : Nat} (h : c < js.length) : jg js c ∈ js := List.mem_of_getElem? (jg_of h)
theorem roomOf_mem {j : Job} {cs : List (Int × Int × Int)} {c : Nat} : c ∈ roomOf j cs ↔ c < cs.length ∧ j.fi ≤ (cg cs c).1 ∧ (cg cs c).2.1 ≤ j.la := by
  unfold roomOf
  rw [List.mem_filter, List.mem_range]
  constructor
  · rintro ⟨h1, h2⟩
    refine ⟨h1, ?_⟩
    unfold keepC at h2
    rw [cg_of h1] at h2
    exact of_decide_eq_true h2
  · rintro ⟨h1, h2⟩
    refine ⟨h1, ?_⟩
    unfold keepC
    rw [cg_of h1]
    exact decide_eq_true h2
theorem inst_ok {js : List Job} {ss : List (Int × Int)} {rest : Int} {cs : List (Int × Int × Int)} (CO : CalOk ss rest) (LO : LoadOk js) (K : CellsOk js ss rest cs) : (inst js cs).Ok where
  br1 := fun j hj => (LO.num _ (jg_mem hj)).b0
  ln1 := fun c hc => by
    have := K.le _ (cg_mem hc)
    show 1 ≤ (cg cs c).2.1 - (cg cs c).1 + 1
    omega
  wk0 := fun j hj => by have := (LO.num _ (jg_mem (js := js) hj)).w0; show 0 ≤ (jg js j).wk; omega
  cp0 := fun c hc => by
    have := K.le _ (cg_mem hc)
    show 0 ≤ (cg cs c).2.2 * ((cg cs c).2.1 - (cg cs c).1 + 1)
    refine Int.mul_nonneg ?_ (by omega)
    rw [K.k _ (cg_mem hc)]
    exact (mach_range rest (lo := 0) (hi := 16) (by have := CO.r1; omega) CO.r2 CO.k).1
  rmm := fun j hj c hc => room_lt hc
/-- the capacity of a cell is what the calendar gives over it -/
theorem cp_over {js : List Job} {ss : List (Int × Int)} {rest : Int} {cs : List (Int × Int × Int)} (CO : CalOk ss rest) (K : CellsOk js ss rest cs) {c : Nat} (hc : c < cs.length) : (inst js cs).cp c = wov 0 ss rest (cg cs c).1 (cg cs c).2.1 := by
  have h := K.le _ (cg_mem hc)
  rw [wov_flat rest h.2 CO.m h.1 (K.flat _ (cg_mem hc)), ← K.k _ (cg_mem hc)]; rfl
theorem ovl_room {js : List Job} {ss : List (Int × Int)} {rest : Int} {cs : List (Int × Int × Int)} (K : CellsOk js ss rest cs) {j c : Nat} (hj : j < js.length) (hc : c < cs.length) : ovl (jg js j).fi (jg js j).la ((cg cs c).1, (cg cs c).2.1) = if c ∈ roomOf (jg js j) cs then (inst js cs).ln c else 0 := by
  have h := K.le _ (cg_mem hc)
  by_cases e : c ∈ roomOf (jg js j) cs
  · rw [if_pos e]
    have := (roomOf_mem.mp e).2
    unfold ovl
    show max 0 (min (cg cs c).2.1 (jg js j).la - max (cg cs c).1 (jg js j).fi + 1) = (cg cs c).2.1 - (cg cs c).1 + 1
    omega
  · rw [if_neg e]
    rcases K.side _ (cg_mem hc) _ (jg_mem hj) with s | s
    · exact absurd (roomOf_mem.mpr ⟨hc, s⟩) e
    · exact s
/-! ### sums over a chosen list -/
theorem sm_single {a m : Nat} {g : Nat → Int} (h : a < m) : sm m (fun c => if c = a then g c else 0) = g a := by
  have e : (fun c => if c = a then g c else 0) = set1 (fun _ => 0) a (g a) := by
    funext c
    unfold set1
    by_cases e : c = a
    · rw [if_pos e, if_pos e, e]
    · rw [if_neg e, if_neg e]
  rw [e, sm_set1 h, sm_zero]
  omega
theorem sm_mem {m : Nat} {g : Nat → Int} : ∀ {l : List Nat}, l.Nodup → (∀ c ∈ l, c < m) → (l.map g).sum = sm m fun c => if c ∈ l then g c else 0
  | [], _, _ => by rw [sm_congr (g := fun _ => 0) fun c _ => if_neg (by simp)]; exact (sm_zero m).symm
  | a :: r, hn, hm => by
    obtain ⟨h1, h2⟩ := List.nodup_cons.mp hn
    rw [List.map_cons, List.sum_cons, sm_mem h2 fun c hc => hm c (List.mem_cons_of_mem _ hc), ← sm_single (g := g) (hm a List.mem_cons_self), ← sm_add]
    refine sm_congr fun c _ => ?_
    by_cases e : c = a
    · rw [if_pos e, if_neg (by rw [e]; exact h1), if_pos (by rw [e]; exact List.mem_cons_self)]; omega
    · by_cases q : c ∈ r
      · rw [if_neg e, if_pos q, if_pos (List.mem_cons_of_mem _ q)]; omega
      · rw [if_neg e, if_neg q, if_neg (by simp [e, q])]; omega
/-! ### merging -/
structure SpOk (ss : List (Int × Int)) : Prop where
  le : ∀ p ∈ ss, p.1 ≤ p.2
  rise : ss.Pairwise (fun p q => p.2 < q.1)
structure MgOk (ss : List (Int × Int)) : Prop where
  le : ∀ p ∈ ss, p.1 ≤ p.2
  rise : ss.Pairwise (fun p q => p.2 + 2 ≤ q.1)
theorem mstep_ok {acc : List (Int × Int)} {p : Int × Int} (h : MgOk acc) (hp : p.1 ≤ p.2) (hl : ∀ q ∈ acc, q.2 < p.1) : MgOk (mstep acc p) ∧ (∀ q ∈ mstep acc p, q.2 ≤ p.2) ∧ (∀ lo, lo ≤ p.1 → (∀ q ∈ acc, lo ≤ q.1) → ∀ q ∈ mstep acc p, lo ≤ q.1) ∧ ∀ g : Int → Int → Int, (∀ x y z, x ≤ y + 1 → y ≤ z → g x y + g (y + 1) z = g x z) → ((mstep acc p).map fun q => g q.1 q.2).sum = (acc.map fun q => g q.1 q.2).sum + g p.1 p.2 := by
  rcases List.eq_nil_or_concat acc with rfl | ⟨r, l, rfl⟩
  · rw [mstep_nil]
    refine ⟨⟨fun q hq => ?_, List.pairwise_singleton _ _⟩, fun q hq => ?_, fun lo h1 _ q hq => ?_, fun g hg => ?_⟩
    · rw [List.mem_singleton.mp hq]; exact hp
    · rw [List.mem_singleton.mp hq]; exact Int.le_refl _
    · rw [List.mem_singleton.mp hq]; exact h1
    · simp
  · rw [List.concat_eq_append] at *
    rw [mstep_snoc]
    obtain ⟨r1, r2, r3⟩ := List.pairwise_append.mp h.rise
    have hll := hl l (by simp)
    have hle := h.le l (by simp)
    by_cases e : p.1 ≤ l.2 + 1
    · rw [if_pos e]
      have em : max l.2 p.2 = p.2 := by omega
      rw [em]
      refine ⟨⟨fun q hq => ?_, List.pairwise_append.mpr ⟨r1, List.pairwise_singleton _ _, fun a ha b hb => ?_⟩⟩, fun q hq => ?_, fun lo h1 h2 q hq => ?_, fun g hg => ?_⟩
      · rcases List.mem_append.mp hq with hq | hq
        · exact h.le q (List.mem_append_left _ hq)
        · rw [List.mem_singleton.mp hq]; show l.1 ≤ p.2; omega
      · rw [List.mem_singleton.mp hb]
        exact r3 a ha l (by simp)
      · rcases List.mem_append.mp hq with hq | hq
        · have := r3 q hq l (by simp); omega
        · rw [List.mem_singleton.mp hq]; exact Int.le_refl _
      · rcases List.mem_append.mp hq with hq | hq
        · exact h2 q (List.mem_append_left _ hq)
        · rw [List.mem_singleton.mp hq]; exact h2 l (by simp)
      · rw [List.map_append, List.map_append, List.sum_append, List.sum_append]
        have := hg l.1 l.2 p.2 (by omega) (by omega)
        rw [show p.1 = l.2 + 1 by omega]
        simp
        omega
    · rw [if_neg e]
      refine ⟨⟨fun q hq => ?_, List.pairwise_append.mpr ⟨h.rise, List.pairwise_singleton _ _, fun a ha b hb => ?_⟩⟩, fun q hq => ?_, fun lo h1 h2 q hq => ?_, fun g hg => ?_⟩
      · rcases List.mem_append.mp hq with hq | hq
        · exact h.le q hq
        · rw [List.mem_singleton.mp hq]; exact hp
      · rw [List.mem_singleton.mp hb]
        rcases List.mem_append.mp ha with ha | ha
        · have := r3 a ha l (by simp); omega
        · rw [List.mem_singleton.mp ha]; omega
      · rcases List.mem_append.mp hq with hq | hq
        · have := hl q hq; omega
        · rw [List.mem_singleton.mp hq]; exact Int.le_refl _
      · rcases List.mem_append.mp hq with hq | hq
        · exact h2 q hq
        · rw [List.mem_singleton.mp hq]; exact h1
      · rw [List.map_append, List.sum_append]
        simp
theorem mfold_ok : ∀ (ss acc : List (Int × Int)), MgOk acc → SpOk ss → (∀ q ∈ acc, ∀ p ∈ ss, q.2 < p.1) → MgOk (ss.foldl mstep acc) ∧ (∀ lo, (∀ p ∈ ss, lo ≤ p.1) → (∀ q ∈ acc, lo ≤ q.1) → ∀ q ∈ ss.foldl mstep acc, lo ≤ q.1) ∧ (∀ hi, (∀ p ∈ ss, p.2 ≤ hi) → (∀ q ∈ acc, q.2 ≤ hi) → ∀ q ∈ ss.foldl mstep acc, q.2 ≤ hi) ∧
    ∀ g : Int → Int → Int, (∀ x y z, x ≤ y + 1 → y ≤ z → g x y + g (y + 1) z = g x z) → ((ss.foldl mstep acc).map fun q => g q.1 q.2).sum = (acc.map fun q => g q.1 q.2).sum + (ss.map fun q => g q.1 q.2).sum
  | [], acc, h, _, _ => ⟨h, fun _ _ h => h, fun _ _ h => h, fun g _ => by simp⟩
  | p :: r, acc, h, hs, hl => by
    obtain ⟨k1, k2⟩ := List.pairwise_cons.mp hs.rise
    have hp := hs.le p List.mem_cons_self
    obtain ⟨m1, m2, m3, m4⟩ := mstep_ok h hp fun q hq => hl q hq p List.mem_cons_self
    obtain ⟨z1, z2, z3, z4⟩ := mfold_ok r (mstep acc p) m1 ⟨fun q hq => hs.le q (List.mem_cons_of_mem _ hq), k2⟩ fun q hq p' hp' => by
      have := m2 q hq
      have := k1 p' hp'
      omega
    refine ⟨z1, fun lo h1 h2 => z2 lo (fun q hq => h1 q (List.mem_cons_of_mem _ hq)) (m3 lo (h1 p List.mem_cons_self) h2), fun hi h1 h2 => z3 hi (fun q hq => h1 q (List.mem_cons_of_mem _ hq)) fun q hq => ?_, fun g hg => ?_⟩
    · have := m2 q hq
      have := h1 p List.mem_cons_self
      omega
    · rw [List.foldl_cons, z4 g hg, m4 g hg, List.map_cons, List.sum_cons]
      omega
/-! ### the spans of a cut -/
def spansOf (cs : List (Int × Int × Int)) (C : List Nat) : List (Int × Int) := C.map fun c => ((cg cs c).1, (cg cs c).2.1)
theorem cg_rise {cs : List (Int × Int × Int)} (h : cs.Pairwise (fun c d => c.2.1 < d.1)) {a b : Nat} (hab : a < b) (hb : b < cs.length) : (cg cs a).2.1 < (cg cs b).1 := by
  have := (List.pairwise_iff_getElem.mp h) a b (by omega) hb hab
  have e1 := cg_of (cs := cs) (j := a) (by omega)
  have e2 := cg_of hb
  rw [List.getElem?_eq_getElem (by omega)] at e1 e2
  rw [← Option.some.inj e1, ← Option.some.inj e2]
  exact this
structure CutL (cs : List (Int × Int × Int)) (C : List Nat) : Prop where
  rise : C.Pairwise (· < ·)
  lt : ∀ c ∈ C, c < cs.length
theorem CutL.nodup {cs : List (Int × Int × Int)} {C : List Nat} (h : CutL cs C) : C.Nodup := h.rise.imp fun h => by omega
theorem spansOf_ok {js : List Job} {ss : List (Int × Int)} {rest : Int} {cs : List (Int × Int × Int)} (K : CellsOk js ss rest cs) {C : List Nat} (h : CutL cs C) : SpOk (spansOf cs C) where
  le := fun p hp => by
    obtain ⟨c, hc, rfl⟩ := List.mem_map.mp hp
    exact (K.le _ (cg_mem (h.lt c hc))).2
  rise := List.Pairwise.map _ (fun a b h => h) (List.Pairwise.imp_of_mem (fun {a b} ha hb hab => cg_rise K.rise hab (h.lt b hb)) h.rise)
theorem spans_merged {js : List Job} {ss : List (Int × Int)} {rest : Int} {cs : List (Int × Int × Int)} (K : CellsOk js ss rest cs) {C : List Nat} (h : CutL cs C) (g : Int → Int → Int) (hg : ∀ x y z, x ≤ y + 1 → y ≤ z → g x y + g (y + 1) z = g x z) :
    (((spansOf cs C).foldl mstep []).map fun q => g q.1 q.2).sum = sm cs.length fun c => if c ∈ C then g (cg cs c).1 (cg cs c).2.1 else 0 := by
  obtain ⟨_, _, _, z⟩ := mfold_ok (spansOf cs C) [] ⟨fun _ h => by simp at h, List.Pairwise.nil⟩ (spansOf_ok K h) (fun _ h => by simp at h)
  rw [z g hg]
  unfold spansOf
  rw [List.map_map, ← sm_mem h.nodup h.lt]
  simp only [List.map_nil, List.sum_nil, Int.zero_add]
  rfl
theorem ovl_add (f l : Int) (x y z : Int) (h1 : x ≤ y + 1) (h2 : y ≤ z) : ovl f l (x, y) + ovl f l (y + 1, z) = ovl f l (x, z) := by
  unfold ovl
  show max 0 (min y l - max x f + 1) + max 0 (min z l - max (y + 1) f + 1) = max 0 (min z l - max x f + 1)
  omega
theorem exc_cut {js : List Job} {ss : List (Int × Int)} {rest : Int} {cs : List (Int × Int × Int)} (K : CellsOk js ss rest cs) {C : List Nat} (h : CutL cs C) {j : Nat} (hj : j < js.length) :
    exc (jg js j) ((spansOf cs C).foldl mstep []) = (inst js cs).ex (fun c => decide (c ∈ C)) j := by
  have e1 : (((spansOf cs C).foldl mstep []).map (ovl (jg js j).fi (jg js j).la)).sum = sm cs.length fun c => if c ∈ C then ovl (jg js j).fi (jg js j).la ((cg cs c).1, (cg cs c).2.1) else 0 :=
    spans_merged K h (fun x y => ovl (jg js j).fi (jg js j).la (x, y)) (ovl_add _ _)
  have e2 := K.sum _ (jg_mem hj)
  rw [cs_sum] at e2
  have e3 : outs (jg js j) ((spansOf cs C).foldl mstep []) = (inst js cs).out (fun c => decide (c ∈ C)) j := by
    unfold outs Inst.out
    rw [e1, ← e2, ← sm_sub]
    refine sm_congr fun c hc => ?_
    have hc : c < cs.length := hc
    show ovl (jg js j).fi (jg js j).la ((cg cs c).1, (cg cs c).2.1) - _ = if c ∈ roomOf (jg js j) cs ∧ decide (c ∈ C) = false then (inst js cs).ln c else 0
    rw [ovl_room K hj hc]
    by_cases q : c ∈ C
    · have e : ¬ (c ∈ roomOf (jg js j) cs ∧ decide (c ∈ C) = false) := fun z => by rw [decide_eq_true q] at z; exact Bool.noConfusion z.2
      rw [if_pos q, if_neg e]; omega
    · rw [if_neg q]
      by_cases w : c ∈ roomOf (jg js j) cs
      · rw [if_pos w, if_pos ⟨w, decide_eq_false q⟩]; omega
      · rw [if_neg w, if_neg (fun z => w z.1)]; omega
  unfold exc Inst.ex
  rw [e3]; rfl
/-- THE LAW of the cut: the overflow of its spans is what is lacking -/
theorem overflow_cut {js : List Job} {ss : List (Int × Int)} {rest : Int} {cs : List (Int × Int × Int)} (CO : CalOk ss rest) (LO : LoadOk js) (K : CellsOk js ss rest cs) {C : List Nat} (h : CutL cs C) {S : FS} (F : Feas (inst js cs) S) {J : Nat → Bool} (G : Cut (inst js cs) S (fun c => decide (c ∈ C)) J) :
    (js.map fun j => exc j ((spansOf cs C).foldl mstep [])).sum - (((spansOf cs C).foldl mstep []).map fun q => wov 0 ss rest q.1 q.2).sum = sm js.length S.wa := by
  have z := Cut.overflow (inst_ok CO LO K) F G
  rw [js_sum, spans_merged K h (fun x y => wov 0 ss rest x y) (fun x y z h1 h2 => wov_add rest h1 h2 ss 0), sm_congr fun j hj => exc_cut K h hj]
  have e : (sm cs.length fun c => if c ∈ C then wov 0 ss rest (cg cs c).1 (cg cs c).2.1 else 0) = sm cs.length fun c => if decide (c ∈ C) = true then (inst js cs).cp c else 0 := sm_congr fun c hc => by
    by_cases q : c ∈ C
    · rw [if_pos q, if_pos (decide_eq_true q), cp_over CO K hc]
    · rw [if_neg q, if_neg (by simp [q])]
  rw [e]
  exact z
end Due

set_option Elab.async false
set_option linter.all false
set_option maxRecDepth 100000
set_option maxHeartbeats 4000000
namespace Due
open PySem PySem.Spec PyProof.Rows L2
local macro_rules | `(tactic| walk_at "v") => `(tactic| ((with_reducible refine' w_var ?hv ?_); (case hv => exact rfl)))
local macro_rules | `(tactic| walk_at "go1") => `(tactic| first
  | with_reducible refine' w_seq ?_ | with_reducible refine' w_asg ?_ | with_reducible refine' w_name ?_ | with_reducible refine' w_ret ?_ | with_reducible refine' w_drop ?_ | with_reducible refine' w_ifs ?_ | with_reducible refine' w_next ?_ | with_reducible refine' w_retN ?_ | with_reducible refine' w_cont ?_
  | ((with_reducible refine' w_var ?hv ?_); (case hv => exact rfl)) | with_reducible refine' w_c ?_ | with_reducible refine' w_op ?_ | with_reducible refine' w_un ?_ | with_reducible refine' w_I0 ?_ | with_reducible refine' w_U ?_ | with_reducible refine' w_cmp ?_
  | ((with_reducible refine' w_eq ?hv ?_); (case hv => exact rfl)) | ((with_reducible refine' w_ne ?hv ?_); (case hv => exact rfl))
  | with_reducible refine' iteT ?_ | with_reducible refine' iteF ?_ | with_reducible refine' iteNT ?_ | with_reducible refine' iteNF ?_ | with_reducible refine' w_chain3 ?_ | with_reducible refine' w_augS ?_ | with_reducible refine' w_gsub ?_
  | with_reducible refine' w_sl ?_ | with_reducible refine' w_noPart ?_ | with_reducible refine' w_part ?_ | with_reducible refine' w_rPart ?_ | with_reducible refine' w_iZip ?_ | with_reducible refine' w_iEnum ?_ | with_reducible refine' w_iRng ?_
  | with_reducible refine' w_dget ?_ | with_reducible refine' w_din ?_ | with_reducible refine' w_dnotin ?_ | with_reducible refine' w_dput ?_
  | with_reducible refine' w_isN ?_ | with_reducible refine' w_notN ?_ | with_reducible refine' w_rBl ?_ | with_reducible refine' w_B ?_ | with_reducible refine' w_test ?_ | with_reducible refine' w_and ?_ | with_reducible refine' w_or ?_ | with_reducible refine' w_not ?_
  | with_reducible refine' w_andV ?_ | with_reducible refine' w_orV ?_ | with_reducible refine' w_notV ?_ | with_reducible refine' w_chain ?_ | with_reducible refine' w_fld ?_ | with_reducible refine' w_sfld ?_ | with_reducible refine' w_nil ?_ | with_reducible refine' w_cons ?_
  | with_reducible refine' w_call ?_ | with_reducible refine' w_meth ?_ | with_reducible refine' w_make ?_ | with_reducible refine' w_CB ?_ | with_reducible refine' w_BM0 ?_ | with_reducible refine' w_BM ?_ | with_reducible refine' w_tup ?_ | with_reducible refine' w_lst ?_
  | with_reducible refine' w_for ?_ | with_reducible refine' w_iList ?_ | with_reducible refine' w_iTup ?_ | with_reducible refine' w_lc ?_ | with_reducible refine' w_yes ?_ | with_reducible refine' w_max2 ?_ | with_reducible refine' w_min2 ?_ | with_reducible refine' w_ipI ?_ | with_reducible refine' w_gcons ?_ | with_reducible refine' w_gnil ?_
  | ((with_reducible refine' w_aug ?hv ?_); (case hv => exact rfl))
  | ((with_reducible refine' w_gtup ?hv ?hn ?_); (case hv => assumption); (case hn => exact rfl))
  | ((with_reducible refine' w_ixT ?hv ?ha ?_); (case hv => assumption); (case ha => exact rfl))
  | ((with_reducible refine' w_newT ?hv ?_); (case hv => exact Nat.le_of_ble_eq_true rfl))
  | ((with_reducible refine' w_newL ?hv ?_); (case hv => exact Nat.le_of_ble_eq_true rfl)))
local macro_rules | `(tactic| walk_at "go") => `(tactic| repeat' walk_at "go1")
section
variable {P : Program} {w : World} {K : PySem.W.Frag} {mg : Str → Option Value} {base : Heap}
/-! ### pushing -/
theorem FDyn.add {K : PySem.W.Frag} {H H' : Hp} {p : Addr} {A : FA} {js : List Job} {cs : List (Int × Int × Int)} {m : Nat} {S : FS} {j c : Nat} {d : Int} (F : FStat K H p A js cs) (D : FDyn H A js.length m S) (hj : j < js.length) (hc : c < m) (b : But (A.shf j) H H')
    (e : H' (A.shf j) = some (.lst (((List.range m).map fun c => V.int (S.sh j c)).set c (.int (S.sh j c + d))))) : FDyn H' A js.length m (S.addSh j c d) where
  sp := b _ _ (F.d2 j hj).symm D.sp
  wa := b _ _ (F.d3 j hj).symm D.wa
  row := fun k hk => by
    by_cases h : k = j
    · subst h
      rw [e, rng_set hc]
      congr 2
      refine List.map_congr_left fun x _ => ?_
      show (if x = c then V.int (S.sh k c + d) else V.int (S.sh k x)) = V.int (if k = k ∧ x = c then S.sh k c + d else S.sh k x)
      by_cases hx : x = c
      · rw [if_pos hx, if_pos ⟨rfl, hx⟩]
      · rw [if_neg hx, if_neg (fun z => hx z.2)]
    · rw [b _ _ (F.d4 k j hk hj h) (D.row k hk)]
      congr 2
      refine List.map_congr_left fun x _ => ?_
      show V.int (S.sh k x) = V.int (if k = j ∧ x = c then S.sh j c + d else S.sh k x)
      rw [if_neg (fun z => h z.1)]
theorem FDyn.subW {K : PySem.W.Frag} {H H' : Hp} {p : Addr} {A : FA} {js : List Job} {cs : List (Int × Int × Int)} {m : Nat} {S : FS} {j : Nat} {d : Int} (F : FStat K H p A js cs) (D : FDyn H A js.length m S) (hj : j < js.length) (b : But A.wa H H')
    (e : H' A.wa = some (.lst (((List.range js.length).map fun j => V.int (S.wa j)).set j (.int (S.wa j - d))))) : FDyn H' A js.length m (S.subWa j d) where
  sp := b _ _ F.d1 D.sp
  wa := by
    rw [e, rng_set hj]
    congr 2
    refine List.map_congr_left fun x _ => ?_
    show (if x = j then V.int (S.wa j - d) else V.int (S.wa x)) = V.int (if x = j then S.wa j - d else S.wa x)
    by_cases hx : x = j
    · rw [if_pos hx, if_pos hx]
    · rw [if_neg hx, if_neg hx]
  row := fun k hk => b _ _ (F.d3 k hk) (D.row k hk)
theorem FDyn.subS {K : PySem.W.Frag} {H H' : Hp} {p : Addr} {A : FA} {js : List Job} {cs : List (Int × Int × Int)} {m : Nat} {S : FS} {c : Nat} {d : Int} (F : FStat K H p A js cs) (D : FDyn H A js.length m S) (hc : c < m) (b : But A.sp H H')
    (e : H' A.sp = some (.lst (((List.range m).map fun j => V.int (S.sp j)).set c (.int (S.sp c - d))))) : FDyn H' A js.length m (S.subSp c d) where
  sp := by
    rw [e, rng_set hc]
    congr 2
    refine List.map_congr_left fun x _ => ?_
    show (if x = c then V.int (S.sp c - d) else V.int (S.sp x)) = V.int (if x = c then S.sp c - d else S.sp x)
    by_cases hx : x = c
    · rw [if_pos hx, if_pos hx]
    · rw [if_neg hx, if_neg hx]
  wa := b _ _ F.d1.symm D.wa
  row := fun k hk => b _ _ (F.d2 k hk) (D.row k hk)
theorem Res.idx {I : Inst} {S : FS} {d : Int} : ∀ {L : List (Nat × Nat)}, Res I S d L → ∀ p ∈ L, p.1 < I.n ∧ p.2 < I.m
  | [], h, _, _ => h.elim
  | [(j, c)], h, p, hp => by
    rw [List.mem_singleton.mp hp]
    exact ⟨h.1, h.2.1⟩
  | (j, c) :: (j2, c2) :: r, h, p, hp => by
    rcases List.mem_cons.mp hp with rfl | hp
    · exact ⟨h.1, h.2.1⟩
    · exact Res.idx (L := (j2, c2) :: r) h.2.2.2.2.2.2.2 p hp
theorem mu_wa {A : FA} {n : Nat} : Mu A n A.wa := .inr (.inl rfl)
theorem mu_sp {A : FA} {n : Nat} : Mu A n A.sp := .inl rfl
theorem mu_sh {A : FA} {n j : Nat} (h : j < n) : Mu A n (A.shf j) := .inr (.inr ⟨j, h, rfl⟩)
def sp_Flow_push : Sp := fun vs H Q _ => ∃ (p ac aj : Addr) (A : FA) (js : List Job) (cs : List (Int × Int × Int)) (S : FS) (bc : List (Nat × Nat)) (bj : List (Nat × Option Nat)) (j c : Nat) (r : List (Nat × Nat)), vs = [.ref p, natV c, .ref ac, .ref aj] ∧
  FStat K H p A js cs ∧ FDyn H A js.length cs.length S ∧ BrOk js ∧ H ac = some (.dK (encC bc)) ∧ H aj = some (.dK (encJ bj)) ∧ Pth bc bj ((j, c) :: r) ∧ Res (inst js cs) S 1 ((j, c) :: r) ∧
  ∀ H', ButM A js.length H H' → FDyn H' A js.length cs.length (pushed (narrow (inst js cs) S (S.sp c) ((j, c) :: r)) (S.subSp c (narrow (inst js cs) S (S.sp c) ((j, c) :: r))) ((j, c) :: r)) → Q .non H'
-- slots: 0 self, 1 cell, 2 by_cell, 3 by_job, 4 many, 5 job
theorem sc_Flow_push : FnScope ["self", "cell", "by_cell", "by_job", "many", "job"] ["self", "cell", "by_cell", "by_job"] (defScope s_Flow_push) := ⟨rfl, rfl, rfl, by decide +kernel, rfl, by decide +kernel, by decide +kernel⟩
theorem cd_Flow_push (T : Tx K mg) : ∃ fd, Cd P w K mg base 3 (He.ma K (He.ga K "Flow") "push") ["self", "cell", "by_cell", "by_job"] (sp_Flow_push (K := K)) fd := by
  obtain ⟨fd, F⟩ := T.F_Flow_push
  obtain ⟨_, K_Flow_narrowest⟩ := cd_Flow_narrowest (P := P) (w := w) (base := base) T
  refine ⟨fd, F.ok sc_Flow_push (fun vs H Q E h => ?_) (fun cdv A outer s H vs Q E hr h => ?_), FunD.bindsN F (fun _ _ _ _ _ _ us hl => match us, hl with | [_, _, _, _], _ => rfl), F.kp⟩
  · obtain ⟨p, ac, aj, A, js, cs, S, bc, bj, j, c, r, rfl, _⟩ := h
    rfl
  · obtain ⟨p, ac, aj, A, js, cs, S, bc, bj, j, c, r, rfl, F, D, B, hac, haj, P1, R1, q⟩ := h
    refine ⟨_, PSs.nox (pss_cons (ps_set (i := 4) sc_Flow_push.nd rfl (Or.inl rfl) (pe_meth (pv 0) T.c_Flow T.m_Flow_narrowest K_Flow_narrowest.ok (hr.mono (by decide)) K_Flow_narrowest.bn .nil pass0 (pa_cons (pv 1) (pa_cons (pv 2) (pa_cons (pv 3) pa_nil)))))
      (pss_cons (ps_augS (pe_fld (pv 0) rfl) (pv 1) get_list (pv 4) ip_sub set_list)
      (pss_one (ps_while PassesOwn.never (pt_cmp (pc_notN (pv 1))) (pss_cons (ps_set (i := 5) sc_Flow_push.nd rfl (Or.inl rfl) (pe_dget (hu_of hr) (pv 2) (pv 1) (fun _ _ => rfl)))
      (pss_cons (ps_augS (pe_ix ix_list (pe_fld (pv 0) rfl) (pv 5) (fun _ _ => rfl)) (pv 1) get_list (pv 4) ip_add set_list)
      (pss_cons (ps_set (i := 1) sc_Flow_push.nd rfl (Or.inl rfl) (pe_dget (hu_of hr) (pv 3) (pv 5) (fun _ _ => rfl)))
      (pss_one (ps_if (pt_cmp (pc_isN (pv 1))) (pss_one (ps_augS (pe_fld (pv 0) rfl) (pv 5) get_list (pv 4) ip_sub set_list)) (pss_one (ps_augS (pe_ix ix_list (pe_fld (pv 0) rfl) (pv 5) (fun _ _ => rfl)) (pv 1) get_list (pv 4) ip_sub set_list))))))))))), ?_⟩
    walk_at "go"
    obtain ⟨dx, fs, hp, ff⟩ := F.ins
    have hc : c < cs.length := R1.2.1
    refine w_rRecv hp ff.narrowest ?_
    walk_at "go"
    refine ⟨_, _, _, _, _, _, _, _, _, _, _, _, rfl, F, D, B, hac, haj, P1, R1, ?_⟩
    generalize narrow (inst js cs) S (S.sp c) ((j, c) :: r) = d at q ⊢
    walk_at "go"
    refine w_rFld hp T.c_Flow T.n_Flow_spare ff.spare ?_
    walk_at "go"
    refine w_getL D.sp (Int.natCast_nonneg c) (by rw [Int.toNat_natCast]; exact rng_get hc) ?_
    walk_at "go"
    refine w_setL D.sp (ixN_nat (by rw [List.length_map, List.length_range]; exact hc)) fun H1 b1 e1 => ?_
    have B1 : ButM A js.length H H1 := ButM.but mu_sp b1
    have D1 := D.subS F hc b1 e1
    walk_at "go"
    refine w_while (fun m σ H' => ∃ (L : List (Nat × Nat)) (S1 : FS) (v5 : Option V), m = L.length ∧ σ = [some (.ref p), some (headV L), some (.ref ac), some (.ref aj), some (.int d), v5] ∧ ButM A js.length H H' ∧ FDyn H' A js.length cs.length S1 ∧ Pth bc bj L ∧ (∀ p ∈ L, p.1 < js.length ∧ p.2 < cs.length) ∧
        pushed d (S.subSp c d) ((j, c) :: r) = pushed d S1 L)
      _ ⟨(j, c) :: r, S.subSp c d, none, rfl, rfl, B1, D1, P1, fun p hp => Res.idx R1 p hp, rfl⟩ (fun m σ H' p => ?_)
    obtain ⟨L, S1, v5, rfl, rfl, BM, D2, P2, X2, e⟩ := p
    have F2 := F.butM D BM
    have hac2 : H' ac = some (.dK (encC bc)) := BM _ _ (D.nmu hac fun xs h => by cases h) hac
    have haj2 : H' aj = some (.dK (encJ bj)) := BM _ _ (D.nmu haj fun xs h => by cases h) haj
    obtain ⟨dx2, fs2, hp2, ff2⟩ := F2.ins
    match L, P2, X2, e with
    | [], _, _, e =>
      walk_at "go"
      refine ifnF rfl ?_
      have e : pushed d (S.subSp c d) ((j, c) :: r) = S1 := by rw [e]; rfl
      exact q _ BM (by rw [e]; exact D2)
    | (j1, c1) :: r1, ⟨p1, p2, p3⟩, X2, e =>
      have hj1 : j1 < js.length := (X2 _ List.mem_cons_self).1
      have hc1 : c1 < cs.length := (X2 _ List.mem_cons_self).2
      walk_at "go"
      refine ifnT (by intro h; cases h) ?_
      refine w_rWh ?_
      walk_at "go"
      refine w_rDGetI hac2 (by unfold encC; rw [valV_enc, p1]; rfl) ?_
      walk_at "go"
      refine w_rFld hp2 T.c_Flow T.n_Flow_shares ff2.shares ?_
      walk_at "go"
      refine w_ixL F2.sh (rng_at hj1) ?_
      walk_at "go"
      refine w_getL (D2.row j1 hj1) (Int.natCast_nonneg c1) (by rw [Int.toNat_natCast]; exact rng_get hc1) ?_
      walk_at "go"
      refine w_setL (D2.row j1 hj1) (ixN_nat (by rw [List.length_map, List.length_range]; exact hc1)) fun H3 b3 e3 => ?_
      have B3 : ButM A js.length H' H3 := ButM.but (mu_sh hj1) b3
      have D3 := D2.add F2 hj1 hc1 b3 e3
      have F3 := F2.butM D2 B3
      have haj3 : H3 aj = some (.dK (encJ bj)) := B3 _ _ (D2.nmu haj2 fun xs h => by cases h) haj2
      obtain ⟨dx3, fs3, hp3, ff3⟩ := F3.ins
      walk_at "go"
      match r1, p2, p3, X2, e with
      | [], _, p3, X2, e =>
        refine w_rDGetI haj3 (v := .non) (by unfold encJ; rw [valV_enc, show bj.lookup j1 = some none from p3]; rfl) ?_
        walk_at "go"
        refine ifT rfl ?_
        walk_at "go"
        refine w_rFld hp3 T.c_Flow T.n_Flow_wanting ff3.wanting ?_
        walk_at "go"
        refine w_getL D3.wa (Int.natCast_nonneg j1) (by rw [Int.toNat_natCast]; exact rng_get hj1) ?_
        walk_at "go"
        refine w_setL D3.wa (ixN_nat (by rw [List.length_map, List.length_range]; exact hj1)) fun H4 b4 e4 => ?_
        walk_at "go"
        refine ⟨0, Nat.zero_lt_succ _, [], _, _, rfl, rfl, (BM.trans B3).trans (ButM.but mu_wa b4), D3.subW F3 hj1 b4 e4, trivial, fun _ h => by simp at h, ?_⟩
        rw [e]; rfl
      | (j2, c2) :: r2, p2, p3, X2, e =>
        have hc2 : c2 < cs.length := (X2 (j2, c2) (by simp)).2
        refine w_rDGetI haj3 (v := natV c2) (by unfold encJ; rw [valV_enc, show bj.lookup j1 = some (some c2) from p3]; rfl) ?_
        walk_at "go"
        refine ifF (by intro h; cases h) ?_
        walk_at "go"
        refine w_rFld hp3 T.c_Flow T.n_Flow_shares ff3.shares ?_
        walk_at "go"
        refine w_ixL F3.sh (rng_at hj1) ?_
        walk_at "go"
        refine w_getL (D3.row j1 hj1) (Int.natCast_nonneg c2) (by rw [Int.toNat_natCast]; exact rng_get hc2) ?_
        walk_at "go"
        refine w_setL (D3.row j1 hj1) (ixN_nat (by rw [List.length_map, List.length_range]; exact hc2)) fun H4 b4 e4 => ?_
        walk_at "go"
        refine ⟨_, Nat.lt_succ_self _, (j2, c2) :: r2, (S1.addSh j1 c1 d).addSh j1 c2 (-d), _, rfl, rfl, (BM.trans B3).trans (ButM.but (mu_sh hj1) b4), ?_, p2, fun p hp => X2 p (List.mem_cons_of_mem _ hp), ?_⟩
        · exact D3.add F3 hj1 hc2 b4 (by rw [e4, Int.sub_eq_add_neg])
        · rw [e]; rfl
def sp_Flow_share : Sp := fun vs H Q _ => ∃ (p : Addr) (A : FA) (js : List Job) (cs : List (Int × Int × Int)) (S : FS) (j c : Nat), vs = [.ref p, natV j, natV c] ∧ FStat K H p A js cs ∧ FDyn H A js.length cs.length S ∧ j < js.length ∧ c < cs.length ∧ Q (.int (S.sh j c)) H
-- slots: 0 self, 1 job, 2 cell
theorem sc_Flow_share : FnScope ["self", "job", "cell"] ["self", "job", "cell"] (defScope s_Flow_share) := ⟨rfl, rfl, rfl, by decide +kernel, rfl, by decide +kernel, by decide +kernel⟩
theorem cd_Flow_share (T : Tx K mg) : ∃ fd, Cd P w K mg base 1 (He.ma K (He.ga K "Flow") "share") ["self", "job", "cell"] (sp_Flow_share (K := K)) fd := by
  obtain ⟨fd, F⟩ := T.F_Flow_share
  refine ⟨fd, F.ok sc_Flow_share (fun vs H Q E h => ?_) (fun cdv A outer s H vs Q E hr h => ?_), FunD.bindsN F (fun _ _ _ _ _ _ us hl => match us, hl with | [_, _, _], _ => rfl), F.kp⟩
  · obtain ⟨p, A, js, cs, S, j, c, rfl, _⟩ := h
    rfl
  · obtain ⟨p, A, js, cs, S, j, c, rfl, F, D, hj, hc, q⟩ := h
    refine ⟨_, PSs.nox (pss_one (ps_ret (pe_ix ix_list (pe_ix ix_list (pe_fld (pv 0) rfl) (pv 1) (fun _ _ => rfl)) (pv 2) (fun _ _ => rfl)))), ?_⟩
    walk_at "go"
    obtain ⟨dx, fs, hp, ff⟩ := F.ins
    refine w_rFld hp T.c_Flow T.n_Flow_shares ff.shares ?_
    walk_at "go"
    refine w_ixL F.sh (rng_at hj) ?_
    walk_at "go"
    refine w_ixL (D.row j hj) (rng_at hc) ?_
    exact q
def sp_Flow_lacking : Sp := fun vs H Q _ => ∃ (p : Addr) (A : FA) (js : List Job) (cs : List (Int × Int × Int)) (S : FS), vs = [.ref p] ∧ FStat K H p A js cs ∧ FDyn H A js.length cs.length S ∧ Q (.int (sm js.length S.wa)) H
-- slots: 0 self
theorem sc_Flow_lacking : FnScope ["self"] ["self"] (defScope s_Flow_lacking) := ⟨rfl, rfl, rfl, by decide +kernel, rfl, by decide +kernel, by decide +kernel⟩
theorem cd_Flow_lacking (T : Tx K mg) : ∃ fd, Cd P w K mg base 1 (He.ma K (He.ga K "Flow") "lacking") ["self"] (sp_Flow_lacking (K := K)) fd := by
  obtain ⟨fd, F⟩ := T.F_Flow_lacking
  refine ⟨fd, F.ok sc_Flow_lacking (fun vs H Q E h => ?_) (fun cdv A outer s H vs Q E hr h => ?_), FunD.bindsN F (fun _ _ _ _ _ _ us hl => match us, hl with | [_], _ => rfl), F.kp⟩
  · obtain ⟨p, A, js, cs, S, rfl, _⟩ := h
    rfl
  · obtain ⟨p, A, js, cs, S, rfl, F, D, q⟩ := h
    refine ⟨_, PSs.nox (pss_one (ps_ret (pe_callB (cr_sum rfl) (by rfl) T.b_sum (by decide +kernel) (pa_cons (pe_fld (pv 0) rfl) pa_nil)))), ?_⟩
    walk_at "go"
    obtain ⟨dx, fs, hp, ff⟩ := F.ins
    refine w_rFld hp T.c_Flow T.n_Flow_wanting ff.wanting ?_
    walk_at "go"
    refine w_sum (ns := (List.range js.length).map S.wa) (by rw [D.wa, List.map_map]; rfl) ?_
    rw [sum_range_map]
    exact q
/-- what was reached, as it stands behind the making -/
def Reached (H : Hp) (p : Addr) (C : List Nat) : Prop := ∃ C0 dx fs t lc lj zs, H p = some (.ins C0 dx fs) ∧ fs.lookup ("reached" : Str) = some (.ref t) ∧ fs.lookup ("cut" : Str) = none ∧ fs.lookup ("share" : Str) = none ∧ fs.lookup ("lacking" : Str) = none ∧ H t = some (.tup [.ref lc, .ref lj]) ∧ H lc = some (.lst (C.map natV)) ∧ H lj = some (.lst zs)
def sp_Flow_cut : Sp := fun vs H Q _ => ∃ (p : Addr) (dx : Addr) (fs : List (Str × V)) (C : List Nat), vs = [.ref p] ∧ H p = some (.ins (He.ga K "Flow") dx fs) ∧ Reached H p C ∧ ∀ (H' : Hp) (t l l2 : Addr), Same H H' → H' t = some (.tup [.ref l, .ref l2]) → H' l = some (.lst (C.map natV)) → Q (.ref t) H'
-- slots: 0 self
theorem sc_Flow_cut : FnScope ["self"] ["self"] (defScope s_Flow_cut) := ⟨rfl, rfl, rfl, by decide +kernel, rfl, by decide +kernel, by decide +kernel⟩
theorem cd_Flow_cut (T : Tx K mg) : ∃ fd, Cd P w K mg base 1 (He.ma K (He.ga K "Flow") "cut") ["self"] (sp_Flow_cut (K := K)) fd := by
  obtain ⟨fd, F⟩ := T.F_Flow_cut
  refine ⟨fd, F.ok sc_Flow_cut (fun vs H Q E h => ?_) (fun cdv A outer s H vs Q E hr h => ?_), FunD.bindsN F (fun _ _ _ _ _ _ us hl => match us, hl with | [_], _ => rfl), F.kp⟩
  · obtain ⟨p, dx, fs, C, rfl, _⟩ := h
    rfl
  · obtain ⟨p, dx, fs, C, rfl, hp, R, q⟩ := h
    refine ⟨_, PSs.nox (pss_one (ps_ret (pe_tup (pa_cons (pe_callTy c_list (by rfl) T.b_list (by decide +kernel) (pa_cons (pe_ix ix_tup (pe_fld (pv 0) rfl) pe_int (fun _ _ => rfl)) pa_nil)) (pa_cons (pe_callTy c_list (by rfl) T.b_list (by decide +kernel) (pa_cons (pe_ix ix_tup (pe_fld (pv 0) rfl) pe_int (fun _ _ => rfl)) pa_nil)) pa_nil))))), ?_⟩
    walk_at "go"
    obtain ⟨C0, dx2, fs2, t, lc, lj, zs, hp2, l1, _, _, _, ht, hlc, hlj⟩ := R
    rw [hp] at hp2
    cases hp2
    refine w_rFld hp T.c_Flow T.n_Flow_reached l1 ?_
    walk_at "go"
    refine w_listL hlc fun a1 H1 ha1 s1 e1 => ?_
    walk_at "go"
    refine w_rFld (s1 _ _ hp) T.c_Flow T.n_Flow_reached l1 ?_
    have ht1 := s1 _ _ ht
    walk_at "go"
    refine w_listL (s1 _ _ hlj) fun a2 H2 ha2 s2 e2 => ?_
    walk_at "go"
    intro t2 H3 ht3 s3 e3
    exact q _ t2 a1 a2 ((s1.trans s2).trans s3) e3 (s3 _ _ (s2 _ _ e1))

end
end Due

set_option Elab.async false
set_option linter.all false
set_option maxRecDepth 100000
set_option maxHeartbeats 4000000
namespace Due
open PySem PySem.Spec PyProof.Rows L2
local macro_rules | `(tactic| walk_at "v") => `(tactic| ((with_reducible refine' w_var ?hv ?_); (case hv => exact rfl)))
local macro_rules | `(tactic| walk_at "go1") => `(tactic| first
  | with_reducible refine' w_seq ?_ | with_reducible refine' w_asg ?_ | with_reducible refine' w_name ?_ | with_reducible refine' w_ret ?_ | with_reducible refine' w_drop ?_ | with_reducible refine' w_ifs ?_ | with_reducible refine' w_next ?_ | with_reducible refine' w_retN ?_ | with_reducible refine' w_cont ?_
  | ((with_reducible refine' w_var ?hv ?_); (case hv => exact rfl)) | with_reducible refine' w_c ?_ | with_reducible refine' w_op ?_ | with_reducible refine' w_un ?_ | with_reducible refine' w_I0 ?_ | with_reducible refine' w_U ?_ | with_reducible refine' w_cmp ?_
  | ((with_reducible refine' w_eq ?hv ?_); (case hv => exact rfl)) | ((with_reducible refine' w_ne ?hv ?_); (case hv => exact rfl))
  | with_reducible refine' iteT ?_ | with_reducible refine' iteF ?_ | with_reducible refine' iteNT ?_ | with_reducible refine' iteNF ?_ | with_reducible refine' w_chain3 ?_ | with_reducible refine' w_augS ?_ | with_reducible refine' w_gsub ?_
  | with_reducible refine' w_sl ?_ | with_reducible refine' w_noPart ?_ | with_reducible refine' w_part ?_ | with_reducible refine' w_rPart ?_ | with_reducible refine' w_iZip ?_ | with_reducible refine' w_iEnum ?_ | with_reducible refine' w_iRng ?_
  | with_reducible refine' w_dget ?_ | with_reducible refine' w_din ?_ | with_reducible refine' w_dnotin ?_ | with_reducible refine' w_dput ?_
  | with_reducible refine' w_isN ?_ | with_reducible refine' w_notN ?_ | with_reducible refine' w_rBl ?_ | with_reducible refine' w_B ?_ | with_reducible refine' w_test ?_ | with_reducible refine' w_and ?_ | with_reducible refine' w_or ?_ | with_reducible refine' w_not ?_
  | with_reducible refine' w_andV ?_ | with_reducible refine' w_orV ?_ | with_reducible refine' w_notV ?_ | with_reducible refine' w_chain ?_ | with_reducible refine' w_fld ?_ | with_reducible refine' w_sfld ?_ | with_reducible refine' w_nil ?_ | with_reducible refine' w_cons ?_
  | with_reducible refine' w_call ?_ | with_reducible refine' w_meth ?_ | with_reducible refine' w_make ?_ | with_reducible refine' w_CB ?_ | with_reducible refine' w_BM0 ?_ | with_reducible refine' w_BM ?_ | with_reducible refine' w_tup ?_ | with_reducible refine' w_lst ?_
  | with_reducible refine' w_for ?_ | with_reducible refine' w_iList ?_ | with_reducible refine' w_iTup ?_ | with_reducible refine' w_lc ?_ | with_reducible refine' w_yes ?_ | with_reducible refine' w_max2 ?_ | with_reducible refine' w_min2 ?_ | with_reducible refine' w_ipI ?_ | with_reducible refine' w_gcons ?_ | with_reducible refine' w_gnil ?_
  | ((with_reducible refine' w_aug ?hv ?_); (case hv => exact rfl))
  | ((with_reducible refine' w_gtup ?hv ?hn ?_); (case hv => assumption); (case hn => exact rfl))
  | ((with_reducible refine' w_ixT ?hv ?ha ?_); (case hv => assumption); (case ha => exact rfl))
  | ((with_reducible refine' w_newT ?hv ?_); (case hv => exact Nat.le_of_ble_eq_true rfl))
  | ((with_reducible refine' w_newL ?hv ?_); (case hv => exact Nat.le_of_ble_eq_true rfl)))
local macro_rules | `(tactic| walk_at "go") => `(tactic| repeat' walk_at "go1")
section
variable {P : Program} {w : World} {K : PySem.W.Frag} {mg : Str → Option Value} {base : Heap}
/-! ### searching -/
theorem encC_get {bc : List (Nat × Nat)} {c : Nat} : valV (encC bc) (Sum.inl (c : Int) : Key) = (bc.lookup c).map natV := by
  unfold encC
  exact valV_enc bc
theorem encJ_get {bj : List (Nat × Option Nat)} {c : Nat} : valV (encJ bj) (Sum.inl (c : Int) : Key) = (bj.lookup c).map optV := by
  unfold encJ
  exact valV_enc bj
theorem encC_put {bc : List (Nat × Nat)} {c j : Nat} (h : c ∉ bc.map (·.1)) : putK (encC bc) (Sum.inl (c : Int) : Key) (natV j) = encC (bc ++ [(c, j)]) := by
  rw [putK_new _ (by rw [encC_get, lookup_of_not h]; rfl)]
  unfold encC
  rw [List.map_append]; rfl
theorem encJ_put {bj : List (Nat × Option Nat)} {c : Nat} {o : Option Nat} (h : c ∉ bj.map (·.1)) : putK (encJ bj) (Sum.inl (c : Int) : Key) (optV o) = encJ (bj ++ [(c, o)]) := by
  rw [putK_new _ (by rw [encJ_get, lookup_of_not h]; rfl)]
  unfold encJ
  rw [List.map_append]; rfl
theorem encC_len {bc : List (Nat × Nat)} : (encC bc).length = bc.length := by unfold encC; rw [List.length_map]
theorem encJ_len {bj : List (Nat × Option Nat)} : (encJ bj).length = bj.length := by unfold encJ; rw [List.length_map]
theorem flat_nat {l : List Nat} : ∀ v ∈ l.map natV, FlatOk v := fun v hv => by
  obtain ⟨k, _, rfl⟩ := List.mem_map.mp hv
  exact flat_int
def bj0 (S : FS) (n : Nat) : List (Nat × Option Nat) := ((List.range n).filter fun j => decide (0 < S.wa j)).map fun j => (j, none)
theorem bj0_keys {S : FS} {n : Nat} : (bj0 S n).map (·.1) = (List.range n).filter fun j => decide (0 < S.wa j) := by
  unfold bj0
  rw [List.map_map]
  exact List.map_id _
theorem bj0_succ {S : FS} {n : Nat} : bj0 S (n + 1) = bj0 S n ++ (if 0 < S.wa n then [(n, none)] else []) := by
  unfold bj0
  rw [List.range_succ, List.filter_append, List.map_append]
  by_cases h : 0 < S.wa n
  · have : List.filter (fun j => decide (0 < S.wa j)) [n] = [n] := by simp [h]
    rw [if_pos h, this]; rfl
  · have : List.filter (fun j => decide (0 < S.wa j)) [n] = [] := by simp [h]
    rw [if_neg h, this]; rfl
theorem bj0_start {I : Inst} {S : FS} : SrI I S [] (bj0 S I.n) ((bj0 S I.n).map (·.1)) none [] none := by
  refine SrI.start _ (fun j => ?_) ?_ (fun j hj => ?_)
  · rw [bj0_keys, List.mem_filter, List.mem_range]
    exact ⟨fun h => ⟨h.1, of_decide_eq_true h.2⟩, fun h => ⟨h.1, decide_eq_true h.2⟩⟩
  · rw [bj0_keys]
    exact List.nodup_range.filter _
  · have h : ∀ (l : List Nat), j ∈ l → (l.map fun j => (j, (none : Option Nat))).lookup j = some none := by
      intro l
      induction l with
      | nil => intro h; simp at h
      | cons a r ih =>
        intro h
        rw [List.map_cons, List.lookup_cons]
        cases e : j == a with
        | true => rfl
        | false =>
          rcases List.mem_cons.mp h with q | q
          · rw [q, beq_self_eq_true] at e; cases e
          · exact ih q
    rw [bj0_keys] at hj
    exact h _ hj
def Found (I : Inst) (S : FS) (bc : List (Nat × Nat)) (bj : List (Nat × Option Nat)) (x : V) : Prop :=
  (x = .non ∧ Cut I S (fun c => decide (c ∈ bc.map (·.1))) (fun j => decide (j ∈ bj.map (·.1))) ∧ (bc.map (·.1)).Nodup ∧ (∀ c ∈ bc.map (·.1), c < I.m) ∧ bc.length ≤ I.m ∧ bj.length ≤ I.n ∧ (bj.map (·.1)).Nodup) ∨
  ∃ j c r, x = natV c ∧ Pth bc bj ((j, c) :: r) ∧ Res I S 1 ((j, c) :: r) ∧ 0 < S.sp c
def sp_Flow_search : Sp := fun vs H Q _ => ∃ (p : Addr) (A : FA) (js : List Job) (cs : List (Int × Int × Int)) (S : FS), vs = [.ref p] ∧ FStat K H p A js cs ∧ FDyn H A js.length cs.length S ∧ BrOk js ∧ Feas (inst js cs) S ∧ js.length ≤ 1000 ∧ cs.length ≤ 1000 ∧
  ∀ (H' : Hp) (t ac aj : Addr) (bc : List (Nat × Nat)) (bj : List (Nat × Option Nat)) (x : V), Same H H' → H' t = some (.tup [x, .ref ac, .ref aj]) → H' ac = some (.dK (encC bc)) → H' aj = some (.dK (encJ bj)) → Found (inst js cs) S bc bj x → Q (.ref t) H'
-- slots: 0 self, 1 by_cell, 2 by_job, 3 job, 4 line, 5 cell, 6 other
theorem sc_Flow_search : FnScope ["self", "by_cell", "by_job", "job", "line", "cell", "other"] ["self"] (defScope s_Flow_search) := ⟨rfl, rfl, rfl, by decide +kernel, rfl, by decide +kernel, by decide +kernel⟩
theorem cd_Flow_search (T : Tx K mg) : ∃ fd, Cd P w K mg base 3 (He.ma K (He.ga K "Flow") "search") ["self"] (sp_Flow_search (K := K)) fd := by
  obtain ⟨fd, F⟩ := T.F_Flow_search
  obtain ⟨_, K_Flow_holders⟩ := cd_Flow_holders (P := P) (w := w) (base := base) T
  obtain ⟨_, K_Flow_most⟩ := cd_Flow_most (P := P) (w := w) (base := base) T
  refine ⟨fd, F.ok sc_Flow_search (fun vs H Q E h => ?_) (fun cdv A outer s H vs Q E hr h => ?_), FunD.bindsN F (fun _ _ _ _ _ _ us hl => match us, hl with | [_], _ => rfl), F.kp⟩
  · obtain ⟨p, A, js, cs, S, rfl, _⟩ := h
    rfl
  · obtain ⟨p, A, js, cs, S, rfl, F, D, B, Fe, hz1, hz2, q⟩ := h
    refine ⟨_, PSs.nox (pss_cons (ps_set (i := 1) sc_Flow_search.nd rfl (Or.inl rfl) pe_dnewK)
      (pss_cons (ps_set (i := 2) sc_Flow_search.nd rfl (Or.inl rfl) pe_dnewK)
      (pss_cons (ps_for PassesOwn.never rfl (pi_range1 rfl T.b_range (pa_cons (pe_callB c_len (by rfl) T.b_len (by decide +kernel) (pa_cons (pe_fld (pv 0) rfl) pa_nil)) pa_nil)) (pg_name (i := 3) sc_Flow_search.nd rfl (Or.inl rfl)) (pss_one (ps_if (pt_cmpR op_gt (pe_ix ix_list (pe_fld (pv 0) rfl) (pv 3) (fun _ _ => rfl)) pe_int (nomark _)) (pss_one (ps_dput (hu_of hr) (pv 2) (pv 3) pe_non rfl)) pss_nil)))
      (pss_cons (ps_set (i := 4) sc_Flow_search.nd rfl (Or.inl rfl) (pe_callTy (c_listD rfl) (by rfl) T.b_list (by decide +kernel) (pa_cons (pv 2) pa_nil)))
      (pss_cons (ps_while PassesOwn.never (pt_cmpR (op_neD hr.units) (pv 4) (pe_lst pa_nil) (nomark _)) (pss_cons (ps_set (i := 3) sc_Flow_search.nd rfl (Or.inl rfl) (pe_bm PySem.F.plainAttrs_list PySem.F.slot_list_pop PySem.F.type_list_pop mt_popAt (pv 4) (pa_cons pe_int pa_nil)))
      (pss_one (ps_for PassesOwn.never rfl (pi_list (pe_ix ix_list (pe_fld (pv 0) rfl) (pv 3) (fun _ _ => rfl))) (pg_name (i := 5) sc_Flow_search.nd rfl (Or.inl rfl)) (pss_cons (ps_if (PW.pt (pw_or (pt_cmp (pc_din (hu_of hr) (pv 5) (pv 1))) (pw_or1 (pt_cmpR op_eq (pe_ix ix_list (pe_ix ix_list (pe_fld (pv 0) rfl) (pv 3) (fun _ _ => rfl)) (pv 5) (fun _ _ => rfl)) (pe_meth (pv 0) T.c_Flow T.m_Flow_most K_Flow_most.ok (hr.mono (by decide)) K_Flow_most.bn .nil pass0 (pa_cons (pv 3) (pa_cons (pv 5) pa_nil))) (nomark _))))) (pss_one ps_continue) pss_nil)
      (pss_cons (ps_dput (hu_of hr) (pv 1) (pv 5) (pv 3) rfl)
      (pss_cons (ps_if (pt_cmpR op_gt (pe_ix ix_list (pe_fld (pv 0) rfl) (pv 5) (fun _ _ => rfl)) pe_int (nomark _)) (pss_one (ps_ret (pe_tup (pa_cons (pv 5) (pa_cons (pv 1) (pa_cons (pv 2) pa_nil)))))) pss_nil)
      (pss_one (ps_for PassesOwn.never rfl (pi_list (pe_meth (pv 0) T.c_Flow T.m_Flow_holders K_Flow_holders.ok (hr.mono (by decide)) K_Flow_holders.bn .nil pass0 (pa_cons (pv 5) pa_nil))) (pg_name (i := 6) sc_Flow_search.nd rfl (Or.inl rfl)) (pss_one (ps_if (pt_cmp (pc_dnotin (hu_of hr) (pv 6) (pv 2))) (pss_cons (ps_dput (hu_of hr) (pv 2) (pv 6) (pv 5) rfl)
      (pss_one (ps_expr (pe_bm PySem.F.plainAttrs_list PySem.F.slot_list_append PySem.F.type_list_append mt_append (pv 4) (pa_cons (pv 6) pa_nil))))) pss_nil)))))))))))
      (pss_one (ps_ret (pe_tup (pa_cons pe_non (pa_cons (pv 1) (pa_cons (pv 2) pa_nil))))))))))), ?_⟩
    walk_at "go"
    obtain ⟨dx, fs, hp, ff⟩ := F.ins
    refine w_dnewK fun ac H1 hac s1 e1 => ?_
    walk_at "go"
    refine w_dnewK fun aj H2 haj s2 e2 => ?_
    walk_at "go"
    have s12 := s1.trans s2
    have nac : H ac = none := hac
    have naj : H aj = none := s1.free haj
    have nca : ac ≠ aj := ne_of_none e1 haj
    refine w_rFld (s12 _ _ hp) T.c_Flow T.n_Flow_load ff.load ?_
    walk_at "go"
    refine w_lenL (s12 _ _ F.ld.at_) ?_
    rw [show (A.jps.map V.ref).length = js.length by rw [List.length_map, F.ld.len, List.length_map]]
    walk_at "go"
    refine w_rRng (by omega) ?_
    refine lp_range (fun i σ H' => ∃ v3 v4 v5 v6, σ = [some (.ref p), some (.ref ac), some (.ref aj), v3, v4, v5, v6] ∧ Same H H' ∧ H' ac = some (.dK (encC [])) ∧ H' aj = some (.dK (encJ (bj0 S i)))) ⟨none, none, none, none, rfl, s12, s2 _ _ e1, e2⟩ (fun i σ H' hi p => ?_) (fun σ H' p => ?_)
    · obtain ⟨v3, v4, v5, v6, rfl, s, k1, k2⟩ := p
      walk_at "go"
      refine w_rFld (s _ _ hp) T.c_Flow T.n_Flow_wanting ff.wanting ?_
      walk_at "go"
      refine w_ixL (s _ _ D.wa) (rng_at hi) ?_
      walk_at "go"
      rw [bj0_succ]
      have hni : i ∉ (bj0 S i).map (·.1) := by rw [bj0_keys, List.mem_filter, List.mem_range]; omega
      have hlen : (bj0 S i).length ≤ 1000 := by
        have := List.length_filter_le (fun j => decide (0 < S.wa j)) (List.range i)
        rw [List.length_range] at this
        unfold bj0
        rw [List.length_map]
        omega
      refine ifD (fun h => ?_) (fun h => ?_)
      · rw [if_pos h]
        walk_at "go"
        refine w_rDPutI k2 (szlt (by rw [encJ_len]; omega)) fun H3 b3 e3 => ?_
        rw [show V.non = optV none from rfl, encJ_put hni] at e3
        walk_at "go"
        exact ⟨_, _, _, _, rfl, Same.but s naj b3, b3 _ _ nca k1, e3⟩
      · rw [if_neg h, List.append_nil]
        walk_at "go"
        exact ⟨_, _, _, _, rfl, s, k1, k2⟩
    · obtain ⟨v3, v4, v5, v6, rfl, s, k1, k2⟩ := p
      walk_at "go"
      refine w_listD k2 fun ll H3 hll s3 e3 => ?_
      walk_at "go"
      have nll : H ll = none := s.free hll
      have ncl : ac ≠ ll := ne_of_none k1 hll
      have njl : aj ≠ ll := ne_of_none k2 hll
      have e3' : H3 ll = some (.lst (((bj0 S js.length).map (·.1)).map natV)) := by
        rw [e3]
        unfold encJ
        rw [List.map_map, List.map_map]; rfl
      have hb0 : (bj0 S js.length).length ≤ 1000 := by
        have := List.length_filter_le (fun j => decide (0 < S.wa j)) (List.range js.length)
        rw [List.length_range] at this
        unfold bj0
        rw [List.length_map]
        omega
      refine w_while (fun m σ H' => ∃ (bc : List (Nat × Nat)) (bj : List (Nat × Option Nat)) (line : List Nat) (v3 v5 v6 : Option V), m = line.length + 2 * (js.length - bj.length) ∧ m ≤ 3000 ∧ σ = [some (.ref p), some (.ref ac), some (.ref aj), v3, some (.ref ll), v5, v6] ∧ Same H H' ∧
          H' ac = some (.dK (encC bc)) ∧ H' aj = some (.dK (encJ bj)) ∧ H' ll = some (.lst (line.map natV)) ∧ SrI (inst js cs) S bc bj line none [] none)
        _ ⟨[], bj0 S js.length, (bj0 S js.length).map (·.1), _, _, _, rfl, by rw [List.length_map]; omega, rfl, s.trans s3, s3 _ _ k1, s3 _ _ k2, e3', bj0_start (I := inst js cs)⟩ (fun m σ H' p => ?_)
      obtain ⟨bc, bj, line, v3, v5, v6, rfl, hm0, rfl, sH, kc, kj, kl, SI⟩ := p
      walk_at "go"
      intro t0 H4 ht0 s4 e4
      refine w_neNil (dp_flats (s4 _ _ kl) flat_nat) (sh_flats flat_nat) e4 ?_
      walk_at "go"
      match line, kl, SI with
      | [], kl, SI =>
        refine iteF ?_
        walk_at "go"
        intro t H5 ht s5 e5
        exact q _ t ac aj bc bj .non ((sH.trans s4).trans s5) e5 (s5 _ _ (s4 _ _ kc)) (s5 _ _ (s4 _ _ kj)) (.inl ⟨rfl, SI.cut, SI.cnd, SI.cm, SI.clen, SI.blen, SI.jnd⟩)
      | j :: line, kl, SI =>
        rw [List.length_cons] at hm0
        refine iteT ?_
        refine w_rWh ?_
        walk_at "go"
        have kl4 := s4 _ _ kl
        refine w_rTyL kl4 ?_
        walk_at "go"
        refine w_popAt kl4 fun H5 b5 e5 => ?_
        have s5 : Same H H5 := Same.but (sH.trans s4) nll b5
        have kc5 := b5 _ _ ncl (s4 _ _ kc)
        have kj5 := b5 _ _ njl (s4 _ _ kj)
        have SI5 := SI.pop
        have hj : j < js.length := SI.jn j (SI.lin j List.mem_cons_self)
        have hbl := SI.blen
        walk_at "go"
        refine w_rFld (s5 _ _ hp) T.c_Flow T.n_Flow_rooms ff.rooms ?_
        walk_at "go"
        obtain ⟨ra, hra, era⟩ := F.room hj
        refine w_ixL (s5 _ _ F.ro) (atI_nat hra) ?_
        refine w_rIt (s5 _ _ era) ?_
        have nra : ∀ {a : Addr}, H a = none → ra ≠ a := fun ha e => by rw [e, ha] at era; cases era
        refine lp_list (xs := (roomOf (jg js j) cs).map natV) (fun i σ H' => ∃ (bc' : List (Nat × Nat)) (bj' : List (Nat × Option Nat)) (line' : List Nat) (v5 v6 : Option V), line'.length + 2 * (js.length - bj'.length) ≤ line.length + 2 * (js.length - bj.length) ∧
            σ = [some (.ref p), some (.ref ac), some (.ref aj), some (natV j), some (.ref ll), v5, v6] ∧ Same H H' ∧ H' ac = some (.dK (encC bc')) ∧ H' aj = some (.dK (encJ bj')) ∧ H' ll = some (.lst (line'.map natV)) ∧
            SrI (inst js cs) S bc' bj' line' (some j) ((roomOf (jg js j) cs).take i) none)
          ⟨bc, bj, line, _, _, Nat.le_refl _, rfl, s5, kc5, kj5, e5, SI5⟩ (fun i σ H' hi p => ?_) (fun i x σ H' hi hx p => ?_) (fun σ H' p => ?_)
        · obtain ⟨bc', bj', line', v5, v6, _, rfl, s6, _⟩ := p
          exact s6 _ _ era
        · obtain ⟨bc', bj', line', v5, v6, hm, rfl, s6, kc6, kj6, kl6, SI6⟩ := p
          obtain ⟨c, ec, rfl⟩ := map_get hx
          rw [take_succ_of ec]
          have hcm : c ∈ roomOf (jg js j) cs := List.mem_of_getElem? ec
          have hc : c < cs.length := room_lt hcm
          have skip : (S.sh j c = (inst js cs).most j c ∨ c ∈ bc'.map (·.1)) → ∃ (bc2 : List (Nat × Nat)) (bj2 : List (Nat × Option Nat)) (line2 : List Nat) (v5' v6' : Option V), line2.length + 2 * (js.length - bj2.length) ≤ line.length + 2 * (js.length - bj.length) ∧
            ([some (.ref p), some (.ref ac), some (.ref aj), some (natV j), some (.ref ll), some (natV c), v6] : L2.St) = [some (.ref p), some (.ref ac), some (.ref aj), some (natV j), some (.ref ll), v5', v6'] ∧ Same H H' ∧ H' ac = some (.dK (encC bc2)) ∧ H' aj = some (.dK (encJ bj2)) ∧ H' ll = some (.lst (line2.map natV)) ∧
            SrI (inst js cs) S bc2 bj2 line2 (some j) ((roomOf (jg js j) cs).take i ++ [c]) none := fun h => ⟨bc', bj', line', _, _, hm, rfl, s6, kc6, kj6, kl6, SI6.skip h⟩
          walk_at "go"
          refine w_rDInI kc6 ?_
          rw [encC_get]
          walk_at "go"
          refine ifB (fun h => ?_) (fun h => ?_)
          · walk_at "go"
            refine skip (.inr ?_)
            cases e : bc'.lookup c with
            | none => rw [e] at h; cases h
            | some y => exact lookup_mem e
          have hcn : c ∉ bc'.map (·.1) := by
            cases e : bc'.lookup c with
            | none => exact lookup_none e
            | some y => rw [e] at h; cases h
          walk_at "go"
          refine w_rFld (s6 _ _ hp) T.c_Flow T.n_Flow_shares ff.shares ?_
          walk_at "go"
          refine w_ixL (s6 _ _ F.sh) (rng_at hj) ?_
          walk_at "go"
          refine w_ixL (s6 _ _ (D.row j hj)) (rng_at hc) ?_
          walk_at "go"
          refine w_rRecv (s6 _ _ hp) ff.most ?_
          walk_at "go"
          refine ⟨_, _, _, _, _, _, rfl, F.same D s6, B, hj, hc, ?_⟩
          walk_at "go"
          refine ifD (fun h2 => ?_) (fun h2 => ?_)
          · walk_at "go"
            exact skip (.inl (V.int.inj h2))
          have hne : S.sh j c ≠ (inst js cs).most j c := fun e => h2 (by rw [e])
          have hle := Fe.shm j hj c hc
          walk_at "go"
          have hcl := SI6.clen
          have hbl6 := SI6.blen
          refine w_rDPutI kc6 (szlt (by rw [encC_len]; have : (inst js cs).m = cs.length := rfl; omega)) fun H7 b7 e7 => ?_
          rw [encC_put hcn] at e7
          have s7 : Same H H7 := Same.but s6 nac b7
          have kj7 := b7 _ _ nca.symm kj6
          have kl7 := b7 _ _ ncl.symm kl6
          walk_at "go"
          refine w_rFld (s7 _ _ hp) T.c_Flow T.n_Flow_spare ff.spare ?_
          walk_at "go"
          refine w_ixL (s7 _ _ D.sp) (rng_at hc) ?_
          walk_at "go"
          refine ifD (fun h3 => ?_) (fun h3 => ?_)
          · walk_at "go"
            intro t H8 ht s8 e8
            obtain ⟨r, P1, R1⟩ := SI6.found hcn hc hcm hne hle
            exact q _ t ac aj _ bj' (natV c) (s7.trans s8) e8 (s8 _ _ e7) (s8 _ _ kj7) (.inr ⟨j, c, r, rfl, P1, R1, h3⟩)
          have SI7 := SI6.cell hcn hc
          have hlk : (bc' ++ [(c, j)]).lookup c = some j := lookup_new hcn
          generalize bc' ++ [(c, j)] = bc2 at e7 SI7 hlk
          walk_at "go"
          refine w_rRecv (s7 _ _ hp) ff.holders ?_
          walk_at "go"
          refine ⟨_, _, _, _, _, _, rfl, F.same D s7, D.same s7, hz1, hc, fun H8 lh s8 hlh e8 => ?_⟩
          refine w_rIt e8 ?_
          have nlh : ∀ {a : Addr} {o : HO}, H7 a = some o → lh ≠ a := fun ha e => by rw [e, ha] at hlh; cases hlh
          refine lp_list (xs := ((List.range js.length).filter fun j => decide (0 < S.sh j c)).map natV) (fun k σ H' => ∃ (bj2 : List (Nat × Option Nat)) (line2 : List Nat) (v6 : Option V), line2.length + 2 * (js.length - bj2.length) ≤ line.length + 2 * (js.length - bj.length) ∧
              σ = [some (.ref p), some (.ref ac), some (.ref aj), some (natV j), some (.ref ll), some (natV c), v6] ∧ Same H H' ∧ H' lh = some (.lst (((List.range js.length).filter fun j => decide (0 < S.sh j c)).map natV)) ∧ H' ac = some (.dK (encC bc2)) ∧ H' aj = some (.dK (encJ bj2)) ∧ H' ll = some (.lst (line2.map natV)) ∧
              SrI (inst js cs) S bc2 bj2 line2 (some j) ((roomOf (jg js j) cs).take i ++ [c]) (some c) ∧ ∀ o ∈ ((List.range js.length).filter fun j => decide (0 < S.sh j c)).take k, o ∈ bj2.map (·.1))
            ⟨bj', line', _, hm, rfl, s7.trans s8, e8, s8 _ _ e7, s8 _ _ kj7, s8 _ _ kl7, SI7, fun o ho => by simp at ho⟩ (fun k σ H' hk p => ?_) (fun k x σ H' hk hx p => ?_) (fun σ H' p => ?_)
          · obtain ⟨bj2, line2, v6, _, rfl, s9, kh, _⟩ := p
            exact kh
          · obtain ⟨bj2, line2, v6, hm9, rfl, s9, kh9, kc9, kj9, kl9, SI9, ho9⟩ := p
            obtain ⟨o, eo, rfl⟩ := map_get hx
            have hom := List.mem_of_getElem? eo
            rw [List.mem_filter, List.mem_range] at hom
            have hos : 0 < S.sh o c := of_decide_eq_true hom.2
            rw [take_succ_of eo]
            have fin : o ∈ bj2.map (·.1) → ∀ o' ∈ ((List.range js.length).filter fun j => decide (0 < S.sh j c)).take k ++ [o], o' ∈ bj2.map (·.1) := fun h o' ho' => by
              rcases List.mem_append.mp ho' with h' | h'
              · exact ho9 o' h'
              · rw [List.mem_singleton.mp h']; exact h
            walk_at "go"
            refine w_rDNotInI kj9 ?_
            rw [encJ_get]
            walk_at "go"
            cases e : bj2.lookup o with
            | some y =>
              refine iteF ?_
              walk_at "go"
              exact ⟨bj2, line2, _, hm9, rfl, s9, kh9, kc9, kj9, kl9, SI9, fin (lookup_mem e)⟩
            | none =>
              have hon := lookup_none e
              have hbl9 := SI9.blen
              refine iteT ?_
              walk_at "go"
              refine w_rDPutI kj9 (szlt (by rw [encJ_len]; have : (inst js cs).n = js.length := rfl; omega)) fun H10 b10 e10 => ?_
              rw [show natV c = optV (some c) from rfl, encJ_put hon] at e10
              have s10 : Same H H10 := Same.but s9 naj b10
              have kl10 := b10 _ _ njl.symm kl9
              have SI10 := SI9.add hlk hc hcm hne hle hon hom.1 hos
              have hbl10 := SI10.blen
              walk_at "go"
              refine w_rTyL kl10 ?_
              walk_at "go"
              have hll10 : line2.length ≤ 10000 := by omega
              refine w_append kl10 (szlt (by rw [List.length_map]; omega)) fun H11 b11 e11 => ?_
              walk_at "go"
              refine ⟨bj2 ++ [(o, some c)], line2 ++ [o], _, ?_, rfl, Same.but s10 nll b11, b11 _ _ (nlh (by exact kl7)) (b10 _ _ (nlh kj7) kh9), b11 _ _ ncl (b10 _ _ nca kc9), b11 _ _ njl e10, by rw [e11, List.map_append]; rfl, SI10, fun o' ho' => ?_⟩
              · rw [List.length_append, List.length_append, List.length_singleton, List.length_singleton]
                rw [List.length_append, List.length_singleton] at hbl10
                have : (inst js cs).n = js.length := rfl
                omega
              · rw [List.map_append]
                rcases List.mem_append.mp ho' with h' | h'
                · exact List.mem_append_left _ (ho9 o' h')
                · rw [List.mem_singleton.mp h']; exact List.mem_append_right _ (by simp)
          · obtain ⟨bj2, line2, v6, hm9, rfl, s9, kh9, kc9, kj9, kl9, SI9, ho9⟩ := p
            rw [List.take_of_length_le (by rw [List.length_map]; exact Nat.le_refl _)] at ho9
            walk_at "go"
            refine ⟨bc2, bj2, line2, _, _, hm9, rfl, s9, kc9, kj9, kl9, SI9.held (by omega) fun o ho hs => ?_⟩
            exact ho9 o (List.mem_filter.mpr ⟨List.mem_range.mpr ho, decide_eq_true hs⟩)
        · obtain ⟨bc', bj', line', v5, v6, hm, rfl, s6, kc6, kj6, kl6, SI6⟩ := p
          rw [List.take_of_length_le (by rw [List.length_map]; exact Nat.le_refl _)] at SI6
          walk_at "go"
          refine ⟨line'.length + 2 * (js.length - bj'.length), by rw [List.length_cons]; omega, bc', bj', line', _, _, _, rfl, by omega, rfl, s6, kc6, kj6, kl6, SI6.end fun c hc => hc⟩

end
end Due

set_option Elab.async false
set_option linter.all false
set_option maxRecDepth 100000
set_option maxHeartbeats 4000000
namespace Due
open PySem PySem.Spec PyProof.Rows L2
local macro_rules | `(tactic| walk_at "v") => `(tactic| ((with_reducible refine' w_var ?hv ?_); (case hv => exact rfl)))
local macro_rules | `(tactic| walk_at "go1") => `(tactic| first
  | with_reducible refine' w_seq ?_ | with_reducible refine' w_asg ?_ | with_reducible refine' w_name ?_ | with_reducible refine' w_ret ?_ | with_reducible refine' w_drop ?_ | with_reducible refine' w_ifs ?_ | with_reducible refine' w_next ?_ | with_reducible refine' w_retN ?_ | with_reducible refine' w_cont ?_
  | ((with_reducible refine' w_var ?hv ?_); (case hv => exact rfl)) | with_reducible refine' w_c ?_ | with_reducible refine' w_op ?_ | with_reducible refine' w_un ?_ | with_reducible refine' w_I0 ?_ | with_reducible refine' w_U ?_ | with_reducible refine' w_cmp ?_
  | ((with_reducible refine' w_eq ?hv ?_); (case hv => exact rfl)) | ((with_reducible refine' w_ne ?hv ?_); (case hv => exact rfl))
  | with_reducible refine' iteT ?_ | with_reducible refine' iteF ?_ | with_reducible refine' iteNT ?_ | with_reducible refine' iteNF ?_ | with_reducible refine' w_chain3 ?_ | with_reducible refine' w_augS ?_ | with_reducible refine' w_gsub ?_
  | with_reducible refine' w_sl ?_ | with_reducible refine' w_noPart ?_ | with_reducible refine' w_part ?_ | with_reducible refine' w_rPart ?_ | with_reducible refine' w_iZip ?_ | with_reducible refine' w_iEnum ?_ | with_reducible refine' w_iRng ?_
  | with_reducible refine' w_dget ?_ | with_reducible refine' w_din ?_ | with_reducible refine' w_dnotin ?_ | with_reducible refine' w_dput ?_
  | with_reducible refine' w_isN ?_ | with_reducible refine' w_notN ?_ | with_reducible refine' w_rBl ?_ | with_reducible refine' w_B ?_ | with_reducible refine' w_test ?_ | with_reducible refine' w_and ?_ | with_reducible refine' w_or ?_ | with_reducible refine' w_not ?_
  | with_reducible refine' w_andV ?_ | with_reducible refine' w_orV ?_ | with_reducible refine' w_notV ?_ | with_reducible refine' w_chain ?_ | with_reducible refine' w_fld ?_ | with_reducible refine' w_sfld ?_ | with_reducible refine' w_nil ?_ | with_reducible refine' w_cons ?_
  | with_reducible refine' w_call ?_ | with_reducible refine' w_meth ?_ | with_reducible refine' w_make ?_ | with_reducible refine' w_CB ?_ | with_reducible refine' w_BM0 ?_ | with_reducible refine' w_BM ?_ | with_reducible refine' w_tup ?_ | with_reducible refine' w_lst ?_
  | with_reducible refine' w_for ?_ | with_reducible refine' w_iList ?_ | with_reducible refine' w_iTup ?_ | with_reducible refine' w_lc ?_ | with_reducible refine' w_yes ?_ | with_reducible refine' w_max2 ?_ | with_reducible refine' w_min2 ?_ | with_reducible refine' w_ipI ?_ | with_reducible refine' w_gcons ?_ | with_reducible refine' w_gnil ?_
  | ((with_reducible refine' w_aug ?hv ?_); (case hv => exact rfl))
  | ((with_reducible refine' w_gtup ?hv ?hn ?_); (case hv => assumption); (case hn => exact rfl))
  | ((with_reducible refine' w_ixT ?hv ?ha ?_); (case hv => assumption); (case ha => exact rfl))
  | ((with_reducible refine' w_newT ?hv ?_); (case hv => exact Nat.le_of_ble_eq_true rfl))
  | ((with_reducible refine' w_newL ?hv ?_); (case hv => exact Nat.le_of_ble_eq_true rfl)))
local macro_rules | `(tactic| walk_at "go") => `(tactic| repeat' walk_at "go1")
section
variable {P : Program} {w : World} {K : PySem.W.Frag} {mg : Str → Option Value} {base : Heap}
abbrev fl6 (x0 x1 x2 x3 x4 x5 : V) : List (Str × V) := [(("load" : Str), x0), (("cells" : Str), x1), (("rooms" : Str), x2), (("shares" : Str), x3), (("spare" : Str), x4), (("wanting" : Str), x5)]
theorem flowF6 (A : FA) : FlowF (fl6 (.ref A.ld) (.ref A.ce) (.ref A.ro) (.ref A.sh) (.ref A.sp) (.ref A.wa)) A where
  load := lk_eq
  cells := (lk_ne (by decide +kernel) lk_eq)
  rooms := (lk_ne (by decide +kernel) (lk_ne (by decide +kernel) lk_eq))
  shares := (lk_ne (by decide +kernel) (lk_ne (by decide +kernel) (lk_ne (by decide +kernel) lk_eq)))
  spare := (lk_ne (by decide +kernel) (lk_ne (by decide +kernel) (lk_ne (by decide +kernel) (lk_ne (by decide +kernel) lk_eq))))
  wanting := (lk_ne (by decide +kernel) (lk_ne (by decide +kernel) (lk_ne (by decide +kernel) (lk_ne (by decide +kernel) (lk_ne (by decide +kernel) lk_eq)))))
  search := (lk_ne (by decide +kernel) (lk_ne (by decide +kernel) (lk_ne (by decide +kernel) (lk_ne (by decide +kernel) (lk_ne (by decide +kernel) (lk_ne (by decide +kernel) rfl))))))
  push := (lk_ne (by decide +kernel) (lk_ne (by decide +kernel) (lk_ne (by decide +kernel) (lk_ne (by decide +kernel) (lk_ne (by decide +kernel) (lk_ne (by decide +kernel) rfl))))))
  narrowest := (lk_ne (by decide +kernel) (lk_ne (by decide +kernel) (lk_ne (by decide +kernel) (lk_ne (by decide +kernel) (lk_ne (by decide +kernel) (lk_ne (by decide +kernel) rfl))))))
  most := (lk_ne (by decide +kernel) (lk_ne (by decide +kernel) (lk_ne (by decide +kernel) (lk_ne (by decide +kernel) (lk_ne (by decide +kernel) (lk_ne (by decide +kernel) rfl))))))
  holders := (lk_ne (by decide +kernel) (lk_ne (by decide +kernel) (lk_ne (by decide +kernel) (lk_ne (by decide +kernel) (lk_ne (by decide +kernel) (lk_ne (by decide +kernel) rfl))))))
theorem flowF7 (A : FA) (x : V) : FlowF (fl_Flow (.ref A.ld) (.ref A.ce) (.ref A.ro) (.ref A.sh) (.ref A.sp) (.ref A.wa) x) A where
  load := lk_Flow_load
  cells := lk_Flow_cells
  rooms := lk_Flow_rooms
  shares := lk_Flow_shares
  spare := lk_Flow_spare
  wanting := lk_Flow_wanting
  search := no_Flow_search
  push := no_Flow_push
  narrowest := no_Flow_narrowest
  most := no_Flow_most
  holders := no_Flow_holders
theorem CalAt.but {K : PySem.W.Frag} {H H' : Hp} {p x C dx : Addr} {fs : List (Str × V)} {strips : List (Int × Int)} {rest : Int} (b : But x H H') (hx : H x = some (.ins C dx fs)) (n : p ≠ x) (h : CalAt K H p strips rest) : CalAt K H' p strips rest := by
  obtain ⟨dx2, l, qs, e, L⟩ := h.ex
  exact ⟨dx2, l, qs, b _ _ n e, L.but b hx (fun ys => by intro h; cases h) (ne_of L.at_ hx (by intro h; cases h))⟩
theorem LT.butI {H H' : Hp} {a x C dx : Addr} {fs : List (Str × V)} {ps : List Addr} {rs : List (List V)} (b : But x H H') (hx : H x = some (.ins C dx fs)) (L : LT H a ps rs) : LT H' a ps rs := L.but b hx (fun ys => by intro h; cases h) (ne_of L.at_ hx (by intro h; cases h))
theorem prd_of {α : Type} {P : Addr → α → Prop} : ∀ {as : List Addr} {xs : List α}, as.length = xs.length → (∀ (i : Nat) (a : Addr) (x : α), as[i]? = some a → xs[i]? = some x → P a x) → Paired P as xs
  | [], [], _, _ => .nil
  | a :: as, x :: xs, hl, h => .cons (h 0 a x rfl rfl) (prd_of (by simpa using hl) fun i a x e1 e2 => h (i + 1) a x (by simpa using e1) (by simpa using e2))
  | [], _ :: _, hl, _ => by simp at hl
  | _ :: _, [], hl, _ => by simp at hl
abbrev scInner : Scope := { kind := ScopeKind.function, names := [((".0" : Str), NameKind.local), (("job" : Str), NameKind.local), (("self" : Str), NameKind.cell)], isGenerator := false, isCoroutine := false }
def sp_Flow_init : Sp := fun vs H Q _ => ∃ (p a c dx : Addr) (ps : List Addr) (js : List Job) (ss : List (Int × Int)) (rest : Int), vs = [.ref p, .ref a, .ref c] ∧ H p = some (.ins (He.ga K "Flow") dx []) ∧ LT H a ps (js.map jobV) ∧ LoadOk js ∧ CalAt K H c ss rest ∧ CalOk ss rest ∧
  ∀ (H' : Hp) (A : FA) (cs : List (Int × Int × Int)) (S : FS) (C : List Nat) (J : Nat → Bool), But p H H' → CellsOk js ss rest cs → FStat K H' p A js cs → FDyn H' A js.length cs.length S → Feas (inst js cs) S → Cut (inst js cs) S (fun c => decide (c ∈ C)) J → CutL cs C → Reached H' p C → Q .non H'
-- slots: 0 self, 1 load, 2 calendar, 3 found, 4 job, 5 first, 6 last, 7 machines, 8 cell
theorem sc_Flow_init : FnScope ["self", "load", "calendar", "found", "job", "first", "last", "machines", "cell"] ["self", "load", "calendar"] (defScope s_Flow_init) := ⟨rfl, rfl, rfl, by decide +kernel, rfl, by decide +kernel, by decide +kernel⟩
theorem cd_Flow_init (T : Tx K mg) : ∃ fd, Cd P w K mg base 6 (He.ma K (He.ga K "Flow") "__init__") ["self", "load", "calendar"] (sp_Flow_init (K := K)) fd := by
  obtain ⟨fd, F⟩ := T.F_Flow_init
  obtain ⟨_, K_Flow_push⟩ := cd_Flow_push (P := P) (w := w) (base := base) T
  obtain ⟨_, K_Flow_search⟩ := cd_Flow_search (P := P) (w := w) (base := base) T
  obtain ⟨_, K_cells⟩ := cd_cells (P := P) (w := w) (base := base) T
  obtain ⟨_, K_cells_within⟩ := cd_cells_within (P := P) (w := w) (base := base) T
  obtain ⟨_, K_check_load⟩ := cd_check_load (P := P) (w := w) (base := base) T
  refine ⟨fd, F.ok sc_Flow_init (fun vs H Q E h => ?_) (fun cdv A outer s H vs Q E hr h => ?_), FunD.bindsN F (fun _ _ _ _ _ _ us hl => match us, hl with | [_, _, _], _ => rfl), F.kp⟩
  · obtain ⟨p, a, c, dx, ps, js, ss, rest, rfl, _⟩ := h
    rfl
  · obtain ⟨p, a, c, dx, ps, js, ss, rest, rfl, hp, L, O, CA, CO, q⟩ := h
    refine ⟨_, PSs.nox (pss_cons (ps_expr (pe_call K_check_load.ok (hr.mono (by decide)) (by rfl) T.g_check_load K_check_load.kp K_check_load.bn .nil pass0 (pa_cons (pv 1) pa_nil)))
      (pss_cons (ps_fld (pv 0) (pe_callTy c_list (by rfl) T.b_list (by decide +kernel) (pa_cons (pv 1) pa_nil)) rfl)
      (pss_cons (ps_fld (pv 0) (pe_call K_cells.ok (hr.mono (by decide)) (by rfl) T.g_cells K_cells.kp K_cells.bn .nil pass0 (pa_cons (pv 1) (pa_cons (pv 2) pa_nil))) rfl)
      (pss_cons (ps_fld (pv 0) (pe_lc (own := [("job", 4)]) (g := (gName 4)) (tt := tYes) (te := (tCall _ [] E0 (tCons (tVar 4) (tCons (tFld K (tVar 0) "cells") tNil)))) (by rfl) sc_Flow_init.nd (pi_list (pv 1)) (blkOk_by (N := ["self", "load", "calendar", "found", "job", "first", "last", "machines", "cell"]) (sc := defScope s_Flow_init) (by decide +kernel)) (fun _ _ _ _ _ => (pg_name (i := 4) sc_Flow_init.nd rfl (Or.inl rfl))) (fun _ _ _ _ _ => pts_nil) (fun _ _ _ _ _ => (pe_call K_cells_within.ok (hr.mono (by decide)) (by rfl) T.g_cells_within K_cells_within.kp K_cells_within.bn .nil pass0 (pa_cons (pv 4) (pa_cons (pe_fld (pv 0) rfl) pa_nil))))) rfl)
      (pss_cons (ps_fld (pv 0) (pe_lc (own := [("job", 4)]) (g := (gName 4)) (tt := tYes) (te := (tLc (iList K (tFld K (tVar 0) "cells")) (gName 8) tYes (tC (.int 0)) [8])) (by rfl) sc_Flow_init.nd (pi_list (pv 1)) (blkOk_by (N := ["self", "load", "calendar", "found", "job", "first", "last", "machines", "cell"]) (sc := defScope s_Flow_init) (by decide +kernel)) (fun _ _ _ _ _ => (pg_name (i := 4) sc_Flow_init.nd rfl (Or.inl rfl))) (fun _ _ _ _ _ => pts_nil) (fun _ _ _ _ _ => (pe_lc (own := [("cell", 8)]) (g := (gName 8)) (tt := tYes) (te := (tC (.int 0))) (by rfl) sc_Flow_init.nd (pi_list (pe_fld (pv 0) rfl)) (blkOk_by (N := ["self", "load", "calendar", "found", "job", "first", "last", "machines", "cell"]) (sc := scInner) (by decide +kernel)) (fun _ _ _ _ _ => (pg_name (i := 8) sc_Flow_init.nd rfl (Or.inl rfl))) (fun _ _ _ _ _ => pts_nil) (fun _ _ _ _ _ => pe_int)))) rfl)
      (pss_cons (ps_fld (pv 0) (pe_lc (own := [("first", 5), ("last", 6), ("machines", 7)]) (g := (gTup K 3 (gCons (gName 5) (gCons (gName 6) (gCons (gName 7) gNil))))) (tt := tYes) (te := (tOp (rI CMul fun i j => .int (i * j)) (tVar 7) (tOp (rI0 fun i j => .int (i + j)) (tOp (rI0 fun i j => .int (i - j)) (tVar 6) (tVar 5)) (tC (.int 1))))) (by rfl) sc_Flow_init.nd (pi_list (pe_fld (pv 0) rfl)) (blkOk_by (N := ["self", "load", "calendar", "found", "job", "first", "last", "machines", "cell"]) (sc := defScope s_Flow_init) (by decide +kernel)) (fun _ _ _ _ _ => (pg_tup rfl (pgs_cons (pg_name (i := 5) sc_Flow_init.nd rfl (Or.inl rfl)) (pgs_cons (pg_name (i := 6) sc_Flow_init.nd rfl (Or.inl rfl)) (pgs_cons (pg_name (i := 7) sc_Flow_init.nd rfl (Or.inl rfl)) pgs_nil))))) (fun _ _ _ _ _ => pts_nil) (fun _ _ _ _ _ => (pe_op op_mul (pv 7) (pe_op op_add (pe_op op_sub (pv 6) (pv 5)) pe_int)))) rfl)
      (pss_cons (ps_fld (pv 0) (pe_lc (own := [("job", 4)]) (g := (gName 4)) (tt := tYes) (te := (tOp (rIxT K) (tVar 4) (tC (.int 3)))) (by rfl) sc_Flow_init.nd (pi_list (pv 1)) (blkOk_by (N := ["self", "load", "calendar", "found", "job", "first", "last", "machines", "cell"]) (sc := defScope s_Flow_init) (by decide +kernel)) (fun _ _ _ _ _ => (pg_name (i := 4) sc_Flow_init.nd rfl (Or.inl rfl))) (fun _ _ _ _ _ => pts_nil) (fun _ _ _ _ _ => (pe_ix ix_tup (pv 4) pe_int (fun _ _ => rfl)))) rfl)
      (pss_cons (ps_set (i := 3) sc_Flow_init.nd rfl (Or.inl rfl) (pe_meth0 (pv 0) T.c_Flow T.m_Flow_search K_Flow_search.ok (hr.mono (by decide)) K_Flow_search.bn .nil pass0))
      (pss_cons (ps_while PassesOwn.never (pt_cmp (pc_notN (pe_ix ix_tup (pv 3) pe_int (fun _ _ => rfl)))) (pss_cons (ps_expr (pe_meth (pv 0) T.c_Flow T.m_Flow_push K_Flow_push.ok (hr.mono (by decide)) K_Flow_push.bn .nil pass0 (pa_cons (pe_ix ix_tup (pv 3) pe_int (fun _ _ => rfl)) (pa_cons (pe_ix ix_tup (pv 3) pe_int (fun _ _ => rfl)) (pa_cons (pe_ix ix_tup (pv 3) pe_int (fun _ _ => rfl)) pa_nil)))))
      (pss_one (ps_set (i := 3) sc_Flow_init.nd rfl (Or.inl rfl) (pe_meth0 (pv 0) T.c_Flow T.m_Flow_search K_Flow_search.ok (hr.mono (by decide)) K_Flow_search.bn .nil pass0)))))
      (pss_one (ps_fld (pv 0) (pe_tup (pa_cons (pe_callB (c_sortedDI rfl) (by rfl) T.b_sorted (by decide +kernel) (pa_cons (pe_ix ix_tup (pv 3) pe_int (fun _ _ => rfl)) pa_nil)) (pa_cons (pe_callB (c_sortedDI rfl) (by rfl) T.b_sorted (by decide +kernel) (pa_cons (pe_ix ix_tup (pv 3) pe_int (fun _ _ => rfl)) pa_nil)) pa_nil))) rfl))))))))))), ?_⟩
    walk_at "go"
    have hz := O.len
    have npc : c ≠ p := fun e => by
      obtain ⟨_, _, _, h, _⟩ := CA.ex
      rw [e, hp] at h
      have h := Option.some.inj h
      injection h with _ _ h3
      cases h3
    refine ⟨_, _, _, rfl, L, O, fun H1 s1 => ?_⟩
    walk_at "go"
    refine w_listL (s1 _ _ L.at_) fun ld H2 hld s2 e2 => ?_
    walk_at "go"
    have s02 := s1.trans s2
    have hp2 := s02 _ _ hp
    have Lld2 : LT H2 ld ps (js.map jobV) := ⟨e2, L.tt.same s02⟩
    refine w_rSetF hp2 T.c_Flow T.n_Flow_load (Nat.le_of_ble_eq_true rfl) fun H3 b3 e3 => ?_
    rw [pi_Flow_load] at e3
    have L3 := (L.same s02).butI b3 hp2
    have Lld3 := Lld2.butI b3 hp2
    have CA3 := (CA.same s02).but b3 hp2 npc
    walk_at "go"
    refine ⟨_, _, _, _, _, _, rfl, L3, O, CA3, CO, fun H4 ce cps ms s4 hce hms hmm hmz Lce => ?_⟩
    have CK := cells_ok CO O hms hmm hmz
    generalize cellsL js ss rest ms = cs at CK Lce
    have hcl := CK.len
    have BO : BrOk js := fun j hj => ⟨(O.num j hj).b0, (O.num j hj).b1⟩
    walk_at "go"
    refine w_rSetF (s4 _ _ e3) T.c_Flow T.n_Flow_cells (Nat.le_of_ble_eq_true rfl) fun H5 b5 e5 => ?_
    rw [pi_Flow_cells] at e5
    have L5 := (L3.same s4).butI b5 (s4 _ _ e3)
    have Lld5 := (Lld3.same s4).butI b5 (s4 _ _ e3)
    have Lce5 := Lce.butI b5 (s4 _ _ e3)
    have B5 : But p H H5 := (((But.same s02).trans b3).trans (But.same s4)).trans b5
    walk_at "go"
    refine w_rIt L5.at_ fun ro hro => ?_
    have hjl : (ps.map V.ref).length = js.length := by rw [List.length_map, L5.len, List.length_map]
    refine lpc_obj (walk_list (xs := ps.map V.ref)) (fun i => .lst ((roomOf (jg js i) cs).map natV)) hro (by rw [hjl]; exact szlt (by omega)) (fun H s => SqL.of (s _ _ L5.at_)) (fun i x H H' y => by rw [y.1]; exact Same.refl _) (fun i x H6 H7 N hi s6 s7 y h1 => ?_) (fun x H' N N' h k => mono_name N N' h k) (fun H6 ros s6 hrl ero fro nro aro => ?_)
    · obtain ⟨rfl, y⟩ := y
      obtain ⟨q1, r1, rfl, k1, k2, k3⟩ := (L5.same s6).item y
      obtain ⟨j, ej, rfl⟩ := map_get k2
      have ejg : j = jg js i := by
        have := jg_of (js := js) (j := i) (List.getElem?_eq_some_iff.mp ej).1
        rw [ej] at this
        exact Option.some.inj this
      walk_at "go"
      refine ⟨rfl, ?_⟩
      walk_at "go"
      refine w_rFld (s6 _ _ e5) T.c_Flow T.n_Flow_cells (lk_ne (by decide +kernel) lk_eq) ?_
      walk_at "go"
      refine ⟨_, _, _, _, _, rfl, k3, Lce5.same s6, by omega, fun H8 l s8 hl8 el8 => h1 _ _ s8 hl8 ?_⟩
      rw [el8, ejg]
    have L6 := L5.same s6
    have Lld6 := Lld5.same s6
    have Lce6 := Lce5.same s6
    walk_at "go"
    refine w_rSetF (s6 _ _ e5) T.c_Flow T.n_Flow_rooms (Nat.le_of_ble_eq_true rfl) fun H7 b7 e7 => ?_
    rw [pi_Flow_rooms] at e7
    have hp6 := s6 _ _ e5
    have L7 := L6.butI b7 hp6
    have Lld7 := Lld6.butI b7 hp6
    have Lce7 := Lce6.butI b7 hp6
    have ero7 : H7 ro = some (.lst (ros.map V.ref)) := But.upd_at b7 ero hp6 (by intro h; cases h)
    have fro7 : ∀ (i : Nat) (a : Addr), ros[i]? = some a → H7 a = some (.lst ((roomOf (jg js i) cs).map natV)) := fun i a h => But.upd_at b7 (fro i a h) hp6 (by intro h; cases h)
    have B7 : But p H H7 := (B5.trans (But.same s6)).trans b7
    walk_at "go"
    refine w_rIt L7.at_ fun sh hsh => ?_
    refine lpc_obj (walk_list (xs := ps.map V.ref)) (fun i => .lst ((List.range cs.length).map fun _ => V.int 0)) hsh (by rw [hjl]; exact szlt (by omega)) (fun H s => SqL.of (s _ _ L7.at_)) (fun i x H H' y => by rw [y.1]; exact Same.refl _) (fun i x H8 H9 N hi s8 s9 y h1 => ?_) (fun x H' N N' h k => mono_name N N' h k) (fun H8 shs s8 hsl esh fsh nsh ash => ?_)
    · obtain ⟨rfl, y⟩ := y
      walk_at "go"
      refine ⟨rfl, ?_⟩
      walk_at "go"
      refine w_rFld (s8 _ _ e7) T.c_Flow T.n_Flow_cells (lk_ne (by decide +kernel) lk_eq) ?_
      have Lce8 := Lce7.same s8
      refine w_rIt Lce8.at_ fun D hD => ?_
      refine lpc_LT Lce8 (fun _ => V.int 0) hD (by omega) (fun k q0 r0 H10 N2 e10 e11 s10 h10 => ?_) (fun x H' N N' h k => mono_name N N' h k) (fun H10 s10 e10 => ?_)
      · walk_at "go"
        refine ⟨rfl, ?_⟩
        exact h10 _ (Same.refl _)
      · refine h1 _ _ s10 hD ?_
        rw [e10]
        congr 2
        refine List.ext_getElem (by simp) fun i h1 h2 => by simp
    have hshn : H7 sh = none := hsh
    have L8 := L7.same s8
    have Lce8 := Lce7.same s8
    have Lld8 := Lld7.same s8
    walk_at "go"
    have hp8 := s8 _ _ e7
    refine w_rSetF hp8 T.c_Flow T.n_Flow_shares (Nat.le_of_ble_eq_true rfl) fun H9 b9 e9 => ?_
    rw [pi_Flow_shares] at e9
    have L9 := L8.butI b9 hp8
    have Lld9 := Lld8.butI b9 hp8
    have Lce9 := Lce8.butI b9 hp8
    have bI : ∀ {x : Addr} {l : List V}, H7 x = some (.lst l) → H9 x = some (.lst l) := fun h => But.upd_at b9 (s8 _ _ h) hp8 (by intro h; cases h)
    have ero9 := bI ero7
    have fro9 : ∀ (i : Nat) (a : Addr), ros[i]? = some a → H9 a = some (.lst ((roomOf (jg js i) cs).map natV)) := fun i a h => bI (fro7 i a h)
    have esh9 : H9 sh = some (.lst (shs.map V.ref)) := But.upd_at b9 esh hp8 (by intro h; cases h)
    have fsh9 : ∀ (i : Nat) (a : Addr), shs[i]? = some a → H9 a = some (.lst ((List.range cs.length).map fun _ => V.int 0)) := fun i a h => But.upd_at b9 (fsh i a h) hp8 (by intro h; cases h)
    have B9 : But p H H9 := (B7.trans (But.same s8)).trans b9
    walk_at "go"
    refine w_rFld e9 T.c_Flow T.n_Flow_cells (lk_ne (by decide +kernel) lk_eq) ?_
    refine w_rIt Lce9.at_ fun sp hsp => ?_
    refine lpc_LT Lce9 (fun c => V.int (c.2.2 * (c.2.1 - c.1 + 1))) hsp (by omega) (fun k q0 r0 H10 N2 e10 e11 s10 h10 => ?_) (fun x H' N N' h k => mono_tup3 N N' h k) (fun H10 s10 esp => ?_)
    · walk_at "go"
      refine ⟨rfl, ?_⟩
      walk_at "go"
      have hk := CK.k _ (List.mem_of_getElem? e10)
      have hr := mach_range rest (t := r0.1) (lo := 0) (hi := 16) (b := 0) (by have := CO.r1; omega) CO.r2 CO.k
      rw [← hk] at hr
      refine w_I (.inl ⟨by omega, by omega⟩) ?_
      exact h10 _ (Same.refl _)
    have hspn : H9 sp = none := hsp
    walk_at "go"
    have hp10 := s10 _ _ e9
    refine w_rSetF hp10 T.c_Flow T.n_Flow_spare (Nat.le_of_ble_eq_true rfl) fun H11 b11 e11 => ?_
    rw [pi_Flow_spare] at e11
    have L11 := (L9.same s10).butI b11 hp10
    have Lld11 := (Lld9.same s10).butI b11 hp10
    have Lce11 := (Lce9.same s10).butI b11 hp10
    have bI11 : ∀ {x : Addr} {l : List V}, H9 x = some (.lst l) → H11 x = some (.lst l) := fun h => But.upd_at b11 (s10 _ _ h) hp10 (by intro h; cases h)
    have esp11 : H11 sp = _ := But.upd_at b11 esp hp10 (by intro h; cases h)
    have B11 : But p H H11 := (B9.trans (But.same s10)).trans b11
    walk_at "go"
    refine w_rIt L11.at_ fun wa hwa => ?_
    refine lpc_LT L11 (fun j => V.int j.wk) hwa (by omega) (fun k q0 r0 H12 N2 e12 e13 s12 h12 => ?_) (fun x H' N N' h k => mono_name N N' h k) (fun H12 s12 ewa => ?_)
    · walk_at "go"
      refine ⟨rfl, ?_⟩
      walk_at "go"
      exact h12 _ (Same.refl _)
    have hwan : H11 wa = none := hwa
    walk_at "go"
    have hp12 := s12 _ _ e11
    refine w_rSetF hp12 T.c_Flow T.n_Flow_wanting (Nat.le_of_ble_eq_true rfl) fun H13 b13 e13 => ?_
    rw [pi_Flow_wanting] at e13
    have bI13 : ∀ {x : Addr} {l : List V}, H11 x = some (.lst l) → H13 x = some (.lst l) := fun h => But.upd_at b13 (s12 _ _ h) hp12 (by intro h; cases h)
    have ewa13 : H13 wa = _ := But.upd_at b13 ewa hp12 (by intro h; cases h)
    have B13 : But p H H13 := (B11.trans (But.same s12)).trans b13
    -- the object stands
    have shat : ∀ j, j < js.length → shs[j]? = some (shs.getD j 0) := fun j hj => by
      rw [List.getD_eq_getElem?_getD, List.getElem?_eq_getElem (by rw [hsl, hjl]; exact hj)]; rfl
    let A : FA := ⟨ld, ce, ro, sh, sp, wa, ps, cps, ros, fun j => shs.getD j 0⟩
    have rowk : ∀ j, j < js.length → H9 (A.shf j) = some (.lst ((List.range cs.length).map fun _ => V.int 0)) := fun j hj => fsh9 j _ (shat j hj)
    have notMu : ∀ {x : Addr} {l : List V}, H7 x = some (.lst l) → ¬ Mu A js.length x := fun {x l} h m => by
      rcases m with e | e | ⟨j, hj, e⟩
      · have : H9 x = none := by rw [e]; exact hspn
        rw [bI h] at this; cases this
      · have : H11 x = none := by rw [e]; exact hwan
        rw [bI11 (bI h)] at this; cases this
      · have : H7 x = none := by rw [e]; exact (ash _ (List.mem_of_getElem? (shat j hj))).1
        rw [h] at this; cases this
    have F : FStat K H13 p A js cs := by
      refine ⟨⟨_, _, e13, flowF6 A⟩, (Lld11.same s12).butI b13 hp12, (Lce11.same s12).butI b13 hp12, bI13 (bI11 ero9), prd_of (by rw [hrl, hjl]) fun i a x e1 e2 => ?_, ?_, notMu Lld7.at_, notMu Lce7.at_, notMu ero7, fun m => ?_, fun a ha => ?_, fun e => ?_, fun j hj e => ?_, fun j hj e => ?_, fun j k hj hk hjk e => ?_⟩
      · have : x = jg js i := by
          have := jg_of (js := js) (j := i) (List.getElem?_eq_some_iff.mp e2).1
          rw [e2] at this
          exact Option.some.inj this
        rw [this]
        exact bI13 (bI11 (fro9 i a e1))
      · have e := bI13 (bI11 esh9)
        show H13 sh = _
        rw [e]
        congr 2
        refine List.ext_getElem (by simp [hsl, hjl]) fun i h1 h2 => ?_
        have hi : i < js.length := by simpa using h2
        have := shat i hi
        rw [List.getElem?_eq_getElem (by rw [hsl, hjl]; exact hi)] at this
        simp only [List.getElem_map, List.getElem_range]
        exact congrArg V.ref (Option.some.inj this)
      · rcases m with e | e | ⟨j, hj, e⟩
        · have e : sh = sp := e
          rw [← e, esh9] at hspn; cases hspn
        · have e : sh = wa := e
          rw [← e, bI11 esh9] at hwan; cases hwan
        · exact (ash _ (List.mem_of_getElem? (shat j hj))).2 e.symm
      · obtain ⟨i, hi⟩ := List.getElem?_of_mem ha
        exact notMu (fro7 i a hi)
      · have e : sp = wa := e
        rw [← e, esp11] at hwan; cases hwan
      · have := rowk j hj
        rw [show A.shf j = sp from e, hspn] at this; cases this
      · have := bI11 (rowk j hj)
        rw [show A.shf j = wa from e, hwan] at this; cases this
      · have e1 := shat j hj
        have e2 := shat k hk
        rw [show shs.getD j 0 = shs.getD k 0 from e] at e1
        have h1 := List.getElem?_eq_some_iff.mp e1
        have h2 := List.getElem?_eq_some_iff.mp e2
        have nd := List.pairwise_iff_getElem.mp nsh
        rcases Nat.lt_or_gt_of_ne hjk with h | h
        · exact nd j k h1.1 h2.1 h (h1.2.trans h2.2.symm)
        · exact nd k j h2.1 h1.1 h (h2.2.trans h1.2.symm)
    have D : FDyn H13 A js.length cs.length (FS.start (inst js cs)) := by
      refine ⟨?_, ?_, fun j hj => bI13 (bI11 (rowk j hj))⟩
      · have e := bI13 esp11
        show H13 sp = _
        rw [e]
        congr 2
        conv => lhs; rw [cs_range cs]
        rw [List.map_map]; rfl
      · have e := ewa13
        show H13 wa = _
        rw [e]
        congr 2
        conv => lhs; rw [js_range js]
        rw [List.map_map]; rfl
    have IO : (inst js cs).Ok := inst_ok CO O CK
    have muN : ∀ x, Mu A js.length x → H x = none ∨ x = p := fun x m => by
      by_cases hxp : x = p
      · exact .inr hxp
      · left
        cases hh : H x with
        | none => rfl
        | some o =>
          exfalso
          rcases m with e | e | ⟨j, hj, e⟩
          · have := B9 _ _ hxp hh
            rw [e] at this
            rw [show A.sp = sp from rfl, hspn] at this; cases this
          · have := B11 _ _ hxp hh
            rw [e] at this
            rw [show A.wa = wa from rfl, hwan] at this; cases this
          · have := B7 _ _ hxp hh
            rw [e] at this
            rw [(ash _ (List.mem_of_getElem? (shat j hj))).1] at this; cases this
    have e14 : H13 p = some (.ins (He.ga K "Flow") _ (fl6 (.ref A.ld) (.ref A.ce) (.ref A.ro) (.ref A.sh) (.ref A.sp) (.ref A.wa))) := e13
    clear_value A
    walk_at "go"
    refine w_rRecv e14 (flowF6 A).search ?_
    walk_at "go"
    refine ⟨_, _, _, _, _, rfl, F, D, BO, Feas.start IO, by omega, by omega, fun H14 t ac aj bc bj x s14 et eac eaj fd => ?_⟩
    walk_at "go"
    refine w_while (fun m σ H' => ∃ (S : FS) (t ac aj : Addr) (bc : List (Nat × Nat)) (bj : List (Nat × Option Nat)) (x : V) (v4 v5 v6 v7 v8 : Option V), m = (sm js.length S.wa).toNat ∧ σ = [some (.ref p), some (.ref a), some (.ref c), some (.ref t), v4, v5, v6, v7, v8] ∧ But p H H' ∧ FStat K H' p A js cs ∧ FDyn H' A js.length cs.length S ∧ Feas (inst js cs) S ∧
        (∃ dx, H' p = some (.ins (He.ga K "Flow") dx (fl6 (.ref A.ld) (.ref A.ce) (.ref A.ro) (.ref A.sh) (.ref A.sp) (.ref A.wa)))) ∧ H' t = some (.tup [x, .ref ac, .ref aj]) ∧ H' ac = some (.dK (encC bc)) ∧ H' aj = some (.dK (encJ bj)) ∧ Found (inst js cs) S bc bj x)
      _ ⟨_, t, ac, aj, bc, bj, x, _, _, _, _, _, rfl, rfl, B13.trans (But.same s14), F.same D s14, D.same s14, Feas.start IO, ⟨_, s14 _ _ e14⟩, et, eac, eaj, fd⟩ (fun m σ H' pp => ?_)
    clear et eac eaj fd
    obtain ⟨S, t, ac, aj, bc, bj, x, v4, v5, v6, v7, v8, rfl, rfl, BB, F, D, Fe, ⟨dx2, hpp⟩, et, eac, eaj, fd⟩ := pp
    walk_at "go"
    rcases fd with ⟨rfl, CT, cnd, cm, clen, blen, jnd⟩ | ⟨j, cc, r, rfl, P1, R1, hsp⟩
    · refine ifnF rfl ?_
      walk_at "go"
      have hmc : (inst js cs).m = cs.length := rfl
      have hnj : (inst js cs).n = js.length := rfl
      refine w_sortedDI (ks := bc.map (·.1)) eac (by unfold encC; rw [List.map_map, List.map_map]; rfl) cnd (by rw [List.length_map]; omega) fun C lc H15 hC hCm hlc s15 elc => ?_
      have et1 := s15 _ _ et
      walk_at "go"
      refine w_sortedDI (ks := bj.map (·.1)) (s15 _ _ eaj) (by unfold encJ; rw [List.map_map, List.map_map]; rfl) jnd (by rw [List.length_map]; omega) fun CJ lj H16 hCJ hCJm hlj s16 elj => ?_
      walk_at "go"
      intro tt H17 htt s17 ett
      walk_at "go"
      have hpq := s17 _ _ (s16 _ _ (s15 _ _ hpp))
      refine w_rSetF hpq T.c_Flow T.n_Flow_reached (Nat.le_of_ble_eq_true rfl) fun H18 b18 e18 => ?_
      rw [pi_Flow_reached] at e18
      have s157 := (s15.trans s16).trans s17
      have bl : ∀ {y : Addr} {l : List V}, H17 y = some (.lst l) → H18 y = some (.lst l) := fun h => But.upd_at b18 h hpq (by intro h; cases h)
      have F17 := F.same D s157
      have D17 := D.same s157
      have D18 : FDyn H18 A js.length cs.length S := ⟨bl D17.sp, bl D17.wa, fun j hj => bl (D17.row j hj)⟩
      have F18 : FStat K H18 p A js cs := ⟨⟨_, _, e18, flowF7 A _⟩, F17.ld.butI b18 hpq, F17.ce.butI b18 hpq, bl F17.ro, prd_imp F17.ros fun a j h => bl h, bl F17.sh, F17.nld, F17.nce, F17.nro, F17.nsh, F17.nros, F17.d1, F17.d2, F17.d3, F17.d4⟩
      have CT2 : Cut (inst js cs) S (fun c => decide (c ∈ C)) (fun j => decide (j ∈ bj.map (·.1))) := by
        have e : (fun c => decide (c ∈ C)) = (fun c => decide (c ∈ bc.map (·.1))) := by
          funext c
          exact decide_eq_decide.mpr (hCm c)
        rw [e]; exact CT
      refine q H18 A cs S C _ ((BB.trans (But.same s157)).trans b18) CK F18 D18 Fe CT2 ⟨hC, fun c hc => cm c ((hCm c).mp hc)⟩ ⟨_, _, _, tt, lc, lj, _, e18, lk_Flow_reached, no_Flow_cut, no_Flow_share, no_Flow_lacking, But.upd_at b18 ett hpq (by intro h; cases h), bl (s17 _ _ (s16 _ _ elc)), bl (s17 _ _ elj)⟩
    · refine ifnT (by intro h; cases h) ?_
      refine w_rWh ?_
      walk_at "go"
      refine w_rRecv hpp (flowF6 A).push ?_
      walk_at "go"
      refine ⟨_, _, _, A, js, cs, S, bc, bj, j, cc, r, rfl, F, D, BO, eac, eaj, P1, R1, fun H16 b16 D16 => ?_⟩
      obtain ⟨Fe2, hlt, hpos⟩ := round Fe rfl R1 hsp
      generalize pushed _ _ _ = S2 at D16 Fe2 hlt
      have F16 := F.butM D b16
      have hpp16 := b16 _ _ (D.nmu hpp fun xs h => by cases h) hpp
      have BB16 : But p H H16 := fun b o n e => b16 _ _ (fun m => by
        rcases muN b m with h | h
        · rw [h] at e; cases e
        · exact n h) (BB b o n e)
      walk_at "go"
      refine w_rRecv hpp16 (flowF6 A).search ?_
      walk_at "go"
      refine ⟨_, _, _, _, _, rfl, F16, D16, BO, Fe2, by omega, by omega, fun H17 t ac aj bc bj x s17 et eac eaj fd => ?_⟩
      walk_at "go"
      refine ⟨_, ?_, S2, t, ac, aj, bc, bj, x, _, _, _, _, _, rfl, rfl, BB16.trans (But.same s17), F16.same D16 s17, D16.same s17, Fe2, ⟨_, s17 _ _ hpp16⟩, et, eac, eaj, fd⟩
      have : 0 ≤ sm js.length S2.wa := sm_nonneg Fe2.wa0
      have h2 : sm js.length S2.wa < sm js.length S.wa := hlt
      omega

end
end Due

set_option Elab.async false
set_option linter.all false
set_option maxRecDepth 100000
set_option maxHeartbeats 4000000
namespace Due
open PySem PySem.Spec PyProof.Rows L2
local macro_rules | `(tactic| walk_at "v") => `(tactic| ((with_reducible refine' w_var ?hv ?_); (case hv => exact rfl)))
local macro_rules | `(tactic| walk_at "go1") => `(tactic| first
  | with_reducible refine' w_seq ?_ | with_reducible refine' w_asg ?_ | with_reducible refine' w_name ?_ | with_reducible refine' w_ret ?_ | with_reducible refine' w_drop ?_ | with_reducible refine' w_ifs ?_ | with_reducible refine' w_next ?_ | with_reducible refine' w_retN ?_ | with_reducible refine' w_cont ?_
  | ((with_reducible refine' w_var ?hv ?_); (case hv => exact rfl)) | with_reducible refine' w_c ?_ | with_reducible refine' w_op ?_ | with_reducible refine' w_un ?_ | with_reducible refine' w_I0 ?_ | with_reducible refine' w_U ?_ | with_reducible refine' w_cmp ?_
  | ((with_reducible refine' w_eq ?hv ?_); (case hv => exact rfl)) | ((with_reducible refine' w_ne ?hv ?_); (case hv => exact rfl))
  | with_reducible refine' iteT ?_ | with_reducible refine' iteF ?_ | with_reducible refine' iteNT ?_ | with_reducible refine' iteNF ?_ | with_reducible refine' w_chain3 ?_ | with_reducible refine' w_augS ?_ | with_reducible refine' w_gsub ?_
  | with_reducible refine' w_sl ?_ | with_reducible refine' w_noPart ?_ | with_reducible refine' w_part ?_ | with_reducible refine' w_rPart ?_ | with_reducible refine' w_iZip ?_ | with_reducible refine' w_iEnum ?_ | with_reducible refine' w_iRng ?_
  | with_reducible refine' w_dget ?_ | with_reducible refine' w_din ?_ | with_reducible refine' w_dnotin ?_ | with_reducible refine' w_dput ?_
  | with_reducible refine' w_isN ?_ | with_reducible refine' w_notN ?_ | with_reducible refine' w_rBl ?_ | with_reducible refine' w_B ?_ | with_reducible refine' w_test ?_ | with_reducible refine' w_and ?_ | with_reducible refine' w_or ?_ | with_reducible refine' w_not ?_
  | with_reducible refine' w_andV ?_ | with_reducible refine' w_orV ?_ | with_reducible refine' w_notV ?_ | with_reducible refine' w_chain ?_ | with_reducible refine' w_fld ?_ | with_reducible refine' w_sfld ?_ | with_reducible refine' w_nil ?_ | with_reducible refine' w_cons ?_
  | with_reducible refine' w_call ?_ | with_reducible refine' w_meth ?_ | with_reducible refine' w_make ?_ | with_reducible refine' w_CB ?_ | with_reducible refine' w_BM0 ?_ | with_reducible refine' w_BM ?_ | with_reducible refine' w_tup ?_ | with_reducible refine' w_lst ?_
  | with_reducible refine' w_for ?_ | with_reducible refine' w_iList ?_ | with_reducible refine' w_iTup ?_ | with_reducible refine' w_lc ?_ | with_reducible refine' w_yes ?_ | with_reducible refine' w_max2 ?_ | with_reducible refine' w_min2 ?_ | with_reducible refine' w_ipI ?_ | with_reducible refine' w_gcons ?_ | with_reducible refine' w_gnil ?_
  | ((with_reducible refine' w_aug ?hv ?_); (case hv => exact rfl))
  | ((with_reducible refine' w_gtup ?hv ?hn ?_); (case hv => assumption); (case hn => exact rfl))
  | ((with_reducible refine' w_ixT ?hv ?ha ?_); (case hv => assumption); (case ha => exact rfl))
  | ((with_reducible refine' w_newT ?hv ?_); (case hv => exact Nat.le_of_ble_eq_true rfl))
  | ((with_reducible refine' w_newL ?hv ?_); (case hv => exact Nat.le_of_ble_eq_true rfl)))
local macro_rules | `(tactic| walk_at "go") => `(tactic| repeat' walk_at "go1")
section
variable {P : Program} {w : World} {K : PySem.W.Frag} {mg : Str → Option Value} {base : Heap}
/-! ### laying -/
def many (c : Int × Int × Int) : Int := c.2.1 - c.1 + 1
def crow (c : Int × Int × Int) (p : Nat) (j : Job) : Int × Int × Str := (c.1 + (p : Int) % many c, (p : Int) / many c, j.nm)
def crows (c : Int × Int × Int) : List Job → Nat → List (Int × Int × Str)
  | [], _ => []
  | j :: r, p => crow c p j :: crows c r (p + 1)
theorem crows_append (c : Int × Int × Int) : ∀ (a b : List Job) (p : Nat), crows c (a ++ b) p = crows c a p ++ crows c b (p + a.length)
  | [], b, p => rfl
  | j :: r, b, p => by
    show crow c p j :: crows c (r ++ b) (p + 1) = crow c p j :: (crows c r (p + 1) ++ crows c b (p + (r.length + 1)))
    rw [crows_append c r b (p + 1), Nat.add_assoc p 1 r.length, Nat.add_comm 1 r.length]
theorem crows_len (c : Int × Int × Int) : ∀ (a : List Job) (p : Nat), (crows c a p).length = a.length
  | [], _ => rfl
  | j :: r, p => by show (crows c r (p + 1)).length + 1 = r.length + 1; rw [crows_len c r]
def who (js : List Job) (sh : List Int) : List Job := (js.zip sh).flatMap fun q => List.replicate q.2.toNat q.1
def cellRows (c : Int × Int × Int) (js : List Job) (sh : List Int) : List (Int × Int × Str) := crows c (who js sh) 0
theorem who_len {b : Nat} : ∀ (l : List (Job × Int)), (∀ q ∈ l, q.2.toNat ≤ b) → (l.flatMap fun q => List.replicate q.2.toNat q.1).length ≤ l.length * b
  | [], _ => by simp
  | q :: r, h => by
    have h1 := who_len r fun x hx => h x (List.mem_cons_of_mem _ hx)
    have h2 := h q List.mem_cons_self
    rw [List.flatMap_cons, List.length_append, List.length_replicate, List.length_cons, Nat.add_mul]
    omega
theorem zip_get {α β : Type} : ∀ {xs : List α} {ys : List β} {i : Nat} {x : α} {y : β}, xs[i]? = some x → ys[i]? = some y → (xs.zip ys)[i]? = some (x, y)
  | x :: xs, y :: ys, 0, _, _, h1, h2 => by
    rw [List.getElem?_cons_zero] at h1 h2
    cases h1
    cases h2
    rfl
  | x :: xs, y :: ys, i + 1, _, _, h1, h2 => zip_get (xs := xs) (ys := ys) (i := i) (by simpa using h1) (by simpa using h2)
  | [], _, _, _, _, h, _ => by simp at h
  | _ :: _, [], _, _, _, _, h => by simp at h
theorem LT.ext {H H' : Hp} {l : Addr} {qs qs2 : List Addr} {rs rs2 : List (List V)} (L : LT H l qs rs) (t : TA' H qs2 rs2) (b : But l H H') (e : H' l = some (.lst (qs.map V.ref ++ qs2.map V.ref))) : LT H' l (qs ++ qs2) (rs ++ rs2) :=
  ⟨by rw [e, List.map_append], TA'.append (L.tt.but b L.at_ (fun ys => by intro h; cases h)) (t.but b L.at_ (fun ys => by intro h; cases h))⟩
def sp_cell_rows : Sp := fun vs H Q _ => ∃ (a c b : Addr) (ps : List Addr) (js : List Job) (cell : Int × Int × Int) (sh : List Int), vs = [.ref a, .ref c, .ref b] ∧ LT H a ps (js.map jobV) ∧ H c = some (.tup (cellV cell)) ∧ H b = some (.lst (sh.map V.int)) ∧
  sh.length = js.length ∧ (∀ s ∈ sh, 0 ≤ s ∧ s ≤ 60) ∧ js.length ≤ 12 ∧ 1 ≤ many cell ∧ many cell < 1073741824 ∧
  ∀ (H' : Hp) (l : Addr) (qs : List Addr), Same H H' → H l = none → LT H' l qs ((cellRows cell js sh).map rowV) → Q (.ref l) H'
-- slots: 0 load, 1 cell, 2 shares, 3 first, 4 last, 5 machines, 6 many, 7 rows, 8 position, 9 job, 10 share, 11 step, 12 machine, 13 turn
theorem sc_cell_rows : FnScope ["load", "cell", "shares", "first", "last", "machines", "many", "rows", "position", "job", "share", "step", "machine", "turn"] ["load", "cell", "shares"] (defScope s_cell_rows) := ⟨rfl, rfl, rfl, by decide +kernel, rfl, by decide +kernel, by decide +kernel⟩
theorem cd_cell_rows (T : Tx K mg) : ∃ fd, Cd P w K mg base 1 (He.ga K "cell_rows") ["load", "cell", "shares"] sp_cell_rows fd := by
  obtain ⟨fd, F⟩ := T.F_cell_rows
  refine ⟨fd, F.ok sc_cell_rows (fun vs H Q E h => ?_) (fun cdv A outer s H vs Q E hr h => ?_), FunD.bindsN F (fun _ _ _ _ _ _ us hl => match us, hl with | [_, _, _], _ => rfl), F.kp⟩
  · obtain ⟨a, c, b, ps, js, cell, sh, rfl, _⟩ := h
    rfl
  · obtain ⟨a, c, b, ps, js, cell, sh, rfl, L, hc, hb, hl, hs, hj, hm1, hm2, q⟩ := h
    refine ⟨_, PSs.nox (pss_cons (ps_asg (pv 1) (pg_tup rfl (pgs_cons (pg_name (i := 3) sc_cell_rows.nd rfl (Or.inl rfl)) (pgs_cons (pg_name (i := 4) sc_cell_rows.nd rfl (Or.inl rfl)) (pgs_cons (pg_name (i := 5) sc_cell_rows.nd rfl (Or.inl rfl)) pgs_nil)))))
      (pss_cons (ps_set (i := 6) sc_cell_rows.nd rfl (Or.inl rfl) (pe_op op_add (pe_op op_sub (pv 4) (pv 3)) pe_int))
      (pss_cons (ps_set (i := 7) sc_cell_rows.nd rfl (Or.inl rfl) (pe_lst pa_nil))
      (pss_cons (ps_set (i := 8) sc_cell_rows.nd rfl (Or.inl rfl) pe_int)
      (pss_cons (ps_for PassesOwn.never rfl (pi_zip (by rfl) T.b_zip (pa_cons (pv 0) (pa_cons (pv 2) pa_nil))) (pg_tup rfl (pgs_cons (pg_name (i := 9) sc_cell_rows.nd rfl (Or.inl rfl)) (pgs_cons (pg_name (i := 10) sc_cell_rows.nd rfl (Or.inl rfl)) pgs_nil))) (pss_one (ps_for PassesOwn.never rfl (pi_range1 rfl T.b_range (pa_cons (pv 10) pa_nil)) (pg_name (i := 11) sc_cell_rows.nd rfl (Or.inl rfl)) (pss_cons (ps_asg (pe_callB c_divmod (by rfl) T.b_divmod (by decide +kernel) (pa_cons (pv 8) (pa_cons (pv 6) pa_nil))) (pg_tup rfl (pgs_cons (pg_name (i := 12) sc_cell_rows.nd rfl (Or.inl rfl)) (pgs_cons (pg_name (i := 13) sc_cell_rows.nd rfl (Or.inl rfl)) pgs_nil))))
      (pss_cons (ps_expr (pe_bm PySem.F.plainAttrs_list PySem.F.slot_list_append PySem.F.type_list_append mt_append (pv 7) (pa_cons (pe_tup (pa_cons (pe_op op_add (pv 3) (pv 13)) (pa_cons (pv 12) (pa_cons (pe_ix ix_tup (pv 9) pe_int (fun _ _ => rfl)) pa_nil)))) pa_nil)))
      (pss_one (ps_aug (i := 8) sc_cell_rows.nd rfl (Or.inl rfl) pe_int ip_add)))))))
      (pss_one (ps_ret (pv 7)))))))), ?_⟩
    walk_at "go"
    walk_at "go"
    intro l H1 hl1 s1 e1
    walk_at "go"
    refine w_rZip (s1 _ _ L.at_) (s1 _ _ hb) ?_
    have hjl : (ps.map V.ref).length = js.length := by rw [List.length_map, L.len, List.length_map]
    have hnl : ∀ {x : Addr} {o : HO}, H x = some o → x ≠ l := fun h e => by rw [e, hl1] at h; cases h
    have wl : ∀ i, (((js.zip sh).take i).flatMap fun q => List.replicate q.2.toNat q.1).length ≤ 720 := fun i => by
      have h1 := who_len (b := 60) ((js.zip sh).take i) fun q hq => by
        have := hs q.2 (List.of_mem_zip (List.mem_of_mem_take hq)).2
        omega
      have h2 : ((js.zip sh).take i).length ≤ 12 := by
        rw [List.length_take, List.length_zip]; omega
      have h3 : ((js.zip sh).take i).length * 60 ≤ 12 * 60 := Nat.mul_le_mul_right 60 h2
      omega
    refine lp_zip (xs := ps.map V.ref) (ys := sh.map V.int) (n := js.length) (by rw [hjl, List.length_map, hl, Nat.min_self]) (fun i σ H' => ∃ qs v9 v10 v11 v12 v13, σ = [some (.ref a), some (.ref c), some (.ref b), some (.int cell.1), some (.int cell.2.1), some (.int cell.2.2), some (.int (cell.2.1 - cell.1 + 1)), some (.ref l), some (.int ((((js.zip sh).take i).flatMap fun q => List.replicate q.2.toNat q.1).length : Nat)), v9, v10, v11, v12, v13] ∧ Same H H' ∧
        LT H' l qs ((crows cell (((js.zip sh).take i).flatMap fun q => List.replicate q.2.toNat q.1) 0).map rowV))
      ⟨[], none, none, none, none, none, rfl, s1, ⟨e1, .nil⟩⟩ (fun i σ H' hi p => ?_) (fun i x y t σ H6 H7 hi hx hy p ht s7 e7 => ?_) (fun σ H' p => ?_)
    · obtain ⟨qs, v9, v10, v11, v12, v13, rfl, s, _⟩ := p
      exact ⟨s _ _ L.at_, s _ _ hb⟩
    · obtain ⟨qs, v9, v10, v11, v12, v13, rfl, s, L6⟩ := p
      obtain ⟨qj, r0, rfl, k1, k2, k3⟩ := (L.same s).item hx
      obtain ⟨j, ej, rfl⟩ := map_get k2
      obtain ⟨z, ez, rfl⟩ := map_get hy
      have hz := hs z (List.mem_of_getElem? ez)
      obtain ⟨n, rfl⟩ : ∃ n : Nat, z = (n : Int) := ⟨z.toNat, (Int.toNat_of_nonneg hz.1).symm⟩
      have hw1 := wl (i + 1)
      rw [flatMap_take (zip_get ej ez)] at hw1 ⊢
      have hw0 := wl i
      generalize ((js.zip sh).take i).flatMap (fun q => List.replicate q.2.toNat q.1) = W at L6 hw1 hw0 ⊢
      rw [show ((n : Int)).toNat = n from Int.toNat_natCast n] at hw1 ⊢
      rw [List.length_append, List.length_replicate] at hw1
      have k37 := s7 _ _ k3
      walk_at "go"
      refine w_rRng (by omega) ?_
      refine lp_range (fun k σ H' => ∃ qs v11 v12 v13, σ = [some (.ref a), some (.ref c), some (.ref b), some (.int cell.1), some (.int cell.2.1), some (.int cell.2.2), some (.int (cell.2.1 - cell.1 + 1)), some (.ref l), some (.int ((W.length + k : Nat) : Int)), some (.ref qj), some (.int (n : Int)), v11, v12, v13] ∧ Same H H' ∧ H' qj = some (.tup (jobV j)) ∧
          LT H' l qs ((crows cell (W ++ List.replicate k j) 0).map rowV))
        ⟨qs, _, _, _, rfl, s.trans s7, k37, by simpa using L6.same s7⟩ (fun k σ H' hk p => ?_) (fun σ H' p => ?_)
      · obtain ⟨qs, v11, v12, v13, rfl, s8, kj, L8⟩ := p
        walk_at "go"
        refine w_divmod ⟨hm1, hm2⟩ fun dm H9 hdm s9 e9 => ?_
        walk_at "go"
        have kj9 := s9 _ _ kj
        refine w_rTyL (s9 _ _ L8.at_) ?_
        walk_at "go"
        intro tt H10 htt s10 e10
        walk_at "go"
        have L10 := (L8.same s9).same s10
        refine w_append L10.at_ (szlt (by rw [List.length_map, L10.len, List.length_map, crows_len, List.length_append, List.length_replicate]; omega)) fun H11 b11 e11 => ?_
        walk_at "go"
        have sa := s8.trans (s9.trans s10)
        obtain ⟨r', hr', he'⟩ := prd_at L.tt k1
        refine ⟨qs ++ [tt], _, _, _, rfl, Same.but sa hl1 b11, b11 _ _ (hnl he') (s10 _ _ kj9), ?_⟩
        have L11 := L10.snoc (r := rowV (crow cell (W.length + k) j)) e10 b11 e11
        rw [List.replicate_succ', ← List.append_assoc, crows_append, List.map_append]
        simpa [crows, List.length_append] using L11
      · obtain ⟨qs, v11, v12, v13, rfl, s8, kj, L8⟩ := p
        walk_at "go"
        have el : W.length + n = (W ++ List.replicate n j).length := by rw [List.length_append, List.length_replicate]
        rw [el]
        exact ⟨qs, _, _, _, _, _, rfl, s8, L8⟩
    · obtain ⟨qs, v9, v10, v11, v12, v13, rfl, s, L6⟩ := p
      walk_at "go"
      refine q _ _ qs s hl1 ?_
      rw [List.take_of_length_le (by rw [List.length_zip]; omega)] at L6
      exact L6
def planRows (js : List Job) (cs : List (Int × Int × Int)) (sh : Nat → Nat → Int) : List (Int × Int × Str) := (List.range cs.length).flatMap fun c => cellRows (cg cs c) js ((List.range js.length).map fun j => sh j c)
theorem range_take {n i : Nat} (h : i ≤ n) : (List.range n).take i = List.range i := by
  rw [List.take_range, Nat.min_eq_left h]
def sp_laid : Sp := fun vs H Q _ => ∃ (a b d : Addr) (ps qs as : List Addr) (js : List Job) (cs : List (Int × Int × Int)) (sh : Nat → Nat → Int), vs = [.ref a, .ref b, .ref d] ∧ LT H a ps (js.map jobV) ∧ LT H b qs (cs.map cellV) ∧ H d = some (.lst (as.map V.ref)) ∧ as.length = js.length ∧
  (∀ (j : Nat) (x : Addr), as[j]? = some x → H x = some (.lst ((List.range cs.length).map fun c => V.int (sh j c)))) ∧ (∀ j, j < js.length → ∀ c, c < cs.length → 0 ≤ sh j c ∧ sh j c ≤ 60) ∧ js.length ≤ 12 ∧ cs.length ≤ 39 ∧ (∀ c ∈ cs, 1 ≤ many c ∧ many c < 1073741824) ∧
  ∀ (H' : Hp) (l : Addr) (qs : List Addr) (rows : List (Int × Int × Str)), Same H H' → H l = none → rows.Perm (planRows js cs sh) → rows.Pairwise leR → LT H' l qs (rows.map rowV) → Q (.ref l) H'
-- slots: 0 load, 1 cells, 2 shares, 3 plan, 4 at, 5 cell, 6 some
theorem sc_laid : FnScope ["load", "cells", "shares", "plan", "at", "cell", "some"] ["load", "cells", "shares"] (defScope s_laid) := ⟨rfl, rfl, rfl, by decide +kernel, rfl, by decide +kernel, by decide +kernel⟩
theorem cd_laid (T : Tx K mg) : ∃ fd, Cd P w K mg base 2 (He.ga K "laid") ["load", "cells", "shares"] sp_laid fd := by
  obtain ⟨fd, F⟩ := T.F_laid
  obtain ⟨_, K_cell_rows⟩ := cd_cell_rows (P := P) (w := w) (base := base) T
  refine ⟨fd, F.ok sc_laid (fun vs H Q E h => ?_) (fun cdv A outer s H vs Q E hr h => ?_), FunD.bindsN F (fun _ _ _ _ _ _ us hl => match us, hl with | [_, _, _], _ => rfl), F.kp⟩
  · obtain ⟨a, b, d, ps, qs, as, js, cs, sh, rfl, _⟩ := h
    rfl
  · obtain ⟨a, b, d, ps, qs, as, js, cs, sh, rfl, L, Lc, hd, hal, has, hs, hj, hc, hm, q⟩ := h
    refine ⟨_, PSs.nox (pss_cons (ps_set (i := 3) sc_laid.nd rfl (Or.inl rfl) (pe_lst pa_nil))
      (pss_cons (ps_for PassesOwn.never rfl (pi_enum (by rfl) T.b_enumerate (pa_cons (pv 1) pa_nil)) (pg_tup rfl (pgs_cons (pg_name (i := 4) sc_laid.nd rfl (Or.inr rfl)) (pgs_cons (pg_name (i := 5) sc_laid.nd rfl (Or.inl rfl)) pgs_nil))) (pss_one (ps_expr (pe_bm PySem.F.plainAttrs_list PySem.F.slot_list_extend PySem.F.type_list_extend mt_extend (pv 3) (pa_cons (pe_call K_cell_rows.ok (hr.mono (by decide)) (by rfl) T.g_cell_rows K_cell_rows.kp K_cell_rows.bn .nil pass0 (pa_cons (pv 0) (pa_cons (pv 5) (pa_cons (pe_lc (own := [("some", 6)]) (g := (gName 6)) (tt := tYes) (te := (tOp (rIxL K) (tVar 6) (tVar 4))) (by rfl) sc_laid.nd (pi_list (pv 2)) (blkOk_by (N := ["load", "cells", "shares", "plan", "at", "cell", "some"]) (sc := defScope s_laid) (by decide +kernel)) (fun _ _ _ _ _ => (pg_name (i := 6) sc_laid.nd rfl (Or.inl rfl))) (fun _ _ _ _ _ => pts_nil) (fun _ _ _ _ _ => (pe_ix ix_list (pv 6) (pv 4) (fun _ _ => rfl)))) pa_nil)))) pa_nil)))))
      (pss_one (ps_ret (pe_callB cr_sortedR (by rfl) T.b_sorted (by decide +kernel) (pa_cons (pv 3) pa_nil)))))), ?_⟩
    walk_at "go"
    intro l H1 hl1 s1 e1
    walk_at "go"
    refine w_rEnum (s1 _ _ Lc.at_) ?_
    have hcl : (qs.map V.ref).length = cs.length := by rw [List.length_map, Lc.len, List.length_map]
    have hnl : ∀ {x : Addr} {o : HO}, H x = some o → x ≠ l := fun h e => by rw [e, hl1] at h; cases h
    refine lp_enum (xs := qs.map V.ref) (fun i σ H' => ∃ qs' v4 v5 v6, σ = [some (.ref a), some (.ref b), some (.ref d), some (.ref l), v4, v5, v6] ∧ Same H H' ∧ LT H' l qs' (((((List.range cs.length).take i).flatMap fun c => cellRows (cg cs c) js ((List.range js.length).map fun j => sh j c))).map rowV) ∧ ((((List.range cs.length).take i).flatMap fun c => cellRows (cg cs c) js ((List.range js.length).map fun j => sh j c))).length ≤ i * 720)
      ⟨[], none, none, none, rfl, s1, ⟨e1, .nil⟩, by simp⟩ (fun i σ H' hi p => ?_) (fun i y t σ H6 H7 hi hy p ht s7 e7 => ?_) (fun σ H' p => ?_)
    · obtain ⟨qs', v4, v5, v6, rfl, s, _⟩ := p
      exact s _ _ Lc.at_
    · obtain ⟨qs', v4, v5, v6, rfl, s, L6, hz6⟩ := p
      rw [hcl] at hi
      obtain ⟨qc, r0, rfl, k1, k2, k3⟩ := (Lc.same s).item hy
      obtain ⟨c, ec, rfl⟩ := map_get k2
      have ecg : c = cg cs i := by
        have := cg_of (cs := cs) (j := i) hi
        rw [ec] at this
        exact Option.some.inj this
      rw [flatMap_take (a := i) (by rw [List.getElem?_range hi])]
      generalize ((List.range cs.length).take i).flatMap (fun c => cellRows (cg cs c) js ((List.range js.length).map fun j => sh j c)) = R at L6 hz6 ⊢
      have s67 := s.trans s7
      walk_at "go"
      refine w_rTyL (s7 _ _ L6.at_) ?_
      walk_at "go"
      refine w_rIt (s67 _ _ hd) fun D hD => ?_
      refine lpc_map (walk_list (xs := as.map V.ref)) (fun j => V.int (sh j i)) hD (by rw [List.length_map, hal]; exact szlt (by omega)) (fun H s => SqL.of (s _ _ (s67 _ _ hd))) (fun i x H H' y => by rw [y.1]; exact Same.refl _) (fun k x H8 H9 N hk s8 s9 y h1 => ?_) (fun x H' N N' h k => mono_name N N' h k) (fun H8 s8 e8 => ?_)
      · obtain ⟨rfl, y⟩ := y
        obtain ⟨w, ew, rfl⟩ := map_get y
        walk_at "go"
        refine ⟨rfl, ?_⟩
        walk_at "go"
        refine w_ixL ((s67.trans s8) _ _ (has k w ew)) (rng_at hi) ?_
        exact h1 _ (Same.refl _)
      · walk_at "go"
        have s08 := s67.trans s8
        have e8' : H8 D = some (.lst (((List.range js.length).map fun j => sh j i).map V.int)) := by
          rw [e8, List.length_map, hal, List.map_map]; rfl
        have bnd : ∀ z ∈ (List.range js.length).map (fun j => sh j i), 0 ≤ z ∧ z ≤ 60 := fun z hz => by
          obtain ⟨j, hj2, rfl⟩ := List.mem_map.mp hz
          exact hs j (List.mem_range.mp hj2) i hi
        have hmc := hm c (List.mem_of_getElem? ec)
        refine ⟨_, _, _, _, _, _, _, rfl, L.same s08, s8 _ _ (s7 _ _ k3), e8', by simp, bnd, hj, hmc.1, hmc.2, fun H9 l2 qs2 s9 hl2 L9 => ?_⟩
        have L69 := ((L6.same s7).same s8).same s9
        have hz2 : (cellRows (cg cs i) js ((List.range js.length).map fun j => sh j i)).length ≤ 720 := by
          unfold cellRows
          rw [crows_len]
          unfold who
          have h1 := who_len (b := 60) (js.zip ((List.range js.length).map fun j => sh j i)) fun q hq => by
            have := bnd q.2 (List.of_mem_zip hq).2
            omega
          have h2 : (js.zip ((List.range js.length).map fun j => sh j i)).length ≤ 12 := by
            rw [List.length_zip]; omega
          have h3 := Nat.mul_le_mul_right 60 h2
          omega
        rw [ecg] at L9
        walk_at "go"
        refine w_extend L69.at_ L9.at_ (szl (by rw [List.length_map, List.length_map, L69.len, L9.len, List.length_map, List.length_map]; omega)) fun H10 b10 e10 => ?_
        walk_at "go"
        refine ⟨qs' ++ qs2, _, _, _, rfl, Same.but (s08.trans s9) hl1 b10, ?_, ?_⟩
        · rw [List.map_append]
          exact L69.ext L9.tt b10 e10
        · rw [List.length_append]; omega
    · obtain ⟨qs', v4, v5, v6, rfl, s, L6, hz6⟩ := p
      rw [hcl, List.take_of_length_le (by rw [List.length_range]; exact Nat.le_refl _)] at L6
      walk_at "go"
      refine w_sortedR L6 fun H7 p qs7 rows hp hpw hf s7 L7 => ?_
      exact q _ _ _ _ (s.trans s7) (s.free hf) hp hpw L7

end
end Due

set_option Elab.async false
set_option linter.all false
set_option maxRecDepth 100000
set_option maxHeartbeats 4000000
namespace Due
open PySem PySem.Spec PyProof.Rows L2
local macro_rules | `(tactic| walk_at "v") => `(tactic| ((with_reducible refine' w_var ?hv ?_); (case hv => exact rfl)))
local macro_rules | `(tactic| walk_at "go1") => `(tactic| first
  | with_reducible refine' w_seq ?_ | with_reducible refine' w_asg ?_ | with_reducible refine' w_name ?_ | with_reducible refine' w_ret ?_ | with_reducible refine' w_drop ?_ | with_reducible refine' w_ifs ?_ | with_reducible refine' w_next ?_ | with_reducible refine' w_retN ?_ | with_reducible refine' w_cont ?_
  | ((with_reducible refine' w_var ?hv ?_); (case hv => exact rfl)) | with_reducible refine' w_c ?_ | with_reducible refine' w_op ?_ | with_reducible refine' w_un ?_ | with_reducible refine' w_I0 ?_ | with_reducible refine' w_U ?_ | with_reducible refine' w_cmp ?_
  | ((with_reducible refine' w_eq ?hv ?_); (case hv => exact rfl)) | ((with_reducible refine' w_ne ?hv ?_); (case hv => exact rfl))
  | with_reducible refine' iteT ?_ | with_reducible refine' iteF ?_ | with_reducible refine' iteNT ?_ | with_reducible refine' iteNF ?_ | with_reducible refine' w_chain3 ?_ | with_reducible refine' w_augS ?_ | with_reducible refine' w_gsub ?_
  | with_reducible refine' w_sl ?_ | with_reducible refine' w_noPart ?_ | with_reducible refine' w_part ?_ | with_reducible refine' w_rPart ?_ | with_reducible refine' w_iZip ?_ | with_reducible refine' w_iEnum ?_ | with_reducible refine' w_iRng ?_
  | with_reducible refine' w_dget ?_ | with_reducible refine' w_dget2 ?_ | with_reducible refine' w_din ?_ | with_reducible refine' w_dnotin ?_ | with_reducible refine' w_dput ?_
  | with_reducible refine' w_isN ?_ | with_reducible refine' w_notN ?_ | with_reducible refine' w_rBl ?_ | with_reducible refine' w_B ?_ | with_reducible refine' w_test ?_ | with_reducible refine' w_and ?_ | with_reducible refine' w_or ?_ | with_reducible refine' w_not ?_
  | with_reducible refine' w_andV ?_ | with_reducible refine' w_orV ?_ | with_reducible refine' w_notV ?_ | with_reducible refine' w_chain ?_ | with_reducible refine' w_fld ?_ | with_reducible refine' w_sfld ?_ | with_reducible refine' w_nil ?_ | with_reducible refine' w_cons ?_
  | with_reducible refine' w_call ?_ | with_reducible refine' w_meth ?_ | with_reducible refine' w_make ?_ | with_reducible refine' w_CB ?_ | with_reducible refine' w_BM0 ?_ | with_reducible refine' w_BM ?_ | with_reducible refine' w_tup ?_ | with_reducible refine' w_lst ?_
  | with_reducible refine' w_for ?_ | with_reducible refine' w_iList ?_ | with_reducible refine' w_iTup ?_ | with_reducible refine' w_lc ?_ | with_reducible refine' w_yes ?_ | with_reducible refine' w_max2 ?_ | with_reducible refine' w_min2 ?_ | with_reducible refine' w_ipI ?_ | with_reducible refine' w_gcons ?_ | with_reducible refine' w_gnil ?_
  | ((with_reducible refine' w_aug ?hv ?_); (case hv => exact rfl))
  | ((with_reducible refine' w_gtup ?hv ?hn ?_); (case hv => assumption); (case hn => exact rfl))
  | ((with_reducible refine' w_ixT ?hv ?ha ?_); (case hv => assumption); (case ha => exact rfl))
  | ((with_reducible refine' w_newT ?hv ?_); (case hv => exact Nat.le_of_ble_eq_true rfl))
  | ((with_reducible refine' w_newL ?hv ?_); (case hv => exact Nat.le_of_ble_eq_true rfl)))
local macro_rules | `(tactic| walk_at "go") => `(tactic| repeat' walk_at "go1")
section
variable {P : Program} {w : World} {K : PySem.W.Frag} {mg : Str → Option Value} {base : Heap}
/-! ### plans -/
abbrev Row : Type := Int × Int × Str
structure PlanOk (js : List Job) (mc : Int → Int) (rows : List Row) : Prop where
  job : ∀ r ∈ rows, ∃ j ∈ js, j.nm = r.2.2 ∧ j.fi ≤ r.1 ∧ r.1 ≤ j.la ∧ 0 ≤ r.2.1 ∧ r.2.1 < mc r.1
  nd : (rows.map fun r => (r.1, r.2.1)).Nodup
  brd : ∀ j ∈ js, ∀ t : Int, ((rows.countP fun r => decide (r.2.2 = j.nm ∧ r.1 = t) : Nat) : Int) ≤ j.br
  wrk : ∀ j ∈ js, ((rows.countP fun r => decide (r.2.2 = j.nm) : Nat) : Int) ≤ j.wk
  len : rows.length ≤ 50000
theorem count_take {α : Type} {p : α → Bool} {l : List α} {i : Nat} {a : α} (h : l[i]? = some a) (hp : p a = true) : (l.take i).countP p + 1 ≤ l.countP p := by
  have hi := (List.getElem?_eq_some_iff.mp h).1
  have e : l = l.take i ++ (a :: l.drop (i + 1)) := by
    rw [← (List.getElem?_eq_some_iff.mp h).2, List.getElem_cons_drop, List.take_append_drop]
  conv => rhs; rw [e]
  rw [List.countP_append, List.countP_cons_of_pos hp]
  omega
def jobAt (js : List Job) (n : Str) : Option Nat := js.findIdx? fun j => decide (j.nm = n)
def sp_job_named : Sp := fun vs H Q _ => ∃ (a : Addr) (ps : List Addr) (js : List Job) (n : Str) (j : Job), vs = [.ref a, .str n] ∧ LT H a ps (js.map jobV) ∧ (js.map (·.nm)).Nodup ∧ j ∈ js ∧ j.nm = n ∧
  ∀ x, H x = some (.tup (jobV j)) → Q (.ref x) H
-- slots: 0 load, 1 name, 2 job
theorem sc_job_named : FnScope ["load", "name", "job"] ["load", "name"] (defScope s_job_named) := ⟨rfl, rfl, rfl, by decide +kernel, rfl, by decide +kernel, by decide +kernel⟩
theorem cd_job_named (T : Tx K mg) : ∃ fd, Cd P w K mg base 1 (He.ga K "job_named") ["load", "name"] sp_job_named fd := by
  obtain ⟨fd, F⟩ := T.F_job_named
  refine ⟨fd, F.ok sc_job_named (fun vs H Q E h => ?_) (fun cdv A outer s H vs Q E hr h => ?_), FunD.bindsN F (fun _ _ _ _ _ _ us hl => match us, hl with | [_, _], _ => rfl), F.kp⟩
  · obtain ⟨a, ps, js, n, j, rfl, _⟩ := h
    rfl
  · obtain ⟨a, ps, js, n, j, rfl, L, hnd, hj, hn, q⟩ := h
    refine ⟨_, PSs.nox (pss_cons (ps_for PassesOwn.never rfl (pi_list (pv 0)) (pg_name (i := 2) sc_job_named.nd rfl (Or.inl rfl)) (pss_one (ps_if (pt_cmpR op_eq (pe_ix ix_tup (pv 2) pe_int (fun _ _ => rfl)) (pv 1) (nomark _)) (pss_one (ps_ret (pv 2))) pss_nil)))
      (pss_one (ps_ret pe_non))), ?_⟩
    walk_at "go"
    refine w_rIt L.at_ ?_
    refine lp_LT (ps := ps) (rs := js.map jobV) (fun i σ H' => ∃ v2, σ = [some (.ref a), some (.str n), v2] ∧ H' = H ∧ ∀ z ∈ js.take i, z.nm ≠ n) ⟨none, rfl, rfl, fun z hz => by simp at hz⟩ (fun i σ H' hi p => ?_) (fun i q' r σ H' hi hp' hr hq p => ?_) (fun σ H' p => ?_)
    · obtain ⟨v2, rfl, rfl, _⟩ := p
      exact L
    · obtain ⟨v2, rfl, rfl, hno⟩ := p
      obtain ⟨z, ez, rfl⟩ := map_get hr
      walk_at "go"
      refine ifD (fun h => ?_) (fun h => ?_)
      · walk_at "go"
        have hz : z = j := by
          have h := V.str.inj h
          obtain ⟨i2, h2⟩ := List.getElem?_of_mem hj
          have a1 := List.getElem?_eq_some_iff.mp ez
          have a2 := List.getElem?_eq_some_iff.mp h2
          have nd := List.pairwise_iff_getElem.mp hnd
          rcases Nat.lt_trichotomy i i2 with k | k | k
          · exact absurd (by rw [List.getElem_map, List.getElem_map, a1.2, a2.2, h, hn]) (nd i i2 (by simpa using a1.1) (by simpa using a2.1) k)
          · subst k
            rw [ez] at h2
            exact Option.some.inj h2
          · exact absurd (by rw [List.getElem_map, List.getElem_map, a1.2, a2.2, h, hn]) (nd i2 i (by simpa using a2.1) (by simpa using a1.1) k)
        rw [hz] at hq
        exact q _ hq
      · walk_at "go"
        refine ⟨_, rfl, rfl, fun y hy => ?_⟩
        rw [take_succ_of ez] at hy
        rcases List.mem_append.mp hy with hy | hy
        · exact hno y hy
        · rw [List.mem_singleton.mp hy]
          exact fun e => h (by rw [e])
    · obtain ⟨v2, rfl, rfl, hno⟩ := p
      exact absurd hn (hno j (by rw [List.take_of_length_le (by rw [List.length_map]; exact Nat.le_refl _)]; exact hj))
def cnt2 (rows : List Row) (n : Str) (t : Int) : Nat := rows.countP fun r => decide (r.2.2 = n ∧ r.1 = t)
def cnt1 (rows : List Row) (n : Str) : Nat := rows.countP fun r => decide (r.2.2 = n)
def cntO (c : Nat) : Option V := if c = 0 then none else some (.int (c : Int))
theorem cntO_getD (c : Nat) : (cntO c).getD (.int 0) = .int (c : Int) := by
  unfold cntO
  by_cases h : c = 0
  · rw [if_pos h, h]; rfl
  · rw [if_neg h]; rfl
abbrev k2 (t m : Int) : List Key := [Sum.inl t, Sum.inl m]
abbrev k2' (n : Str) (t : Int) : List Key := [Sum.inr n, Sum.inl t]
structure WAt (K : PySem.W.Frag) (H : Hp) (p : Addr) (a c : V) (s1 s2 s3 : Addr) (done : List Row) : Prop where
  ins : ∃ dx, H p = some (.ins (He.ga K "Walk") dx (fl_Walk a c (.ref s1) (.ref s2) (.ref s3)))
  seats : ∃ kv, H s1 = some (.dT kv) ∧ kv.length ≤ done.length ∧ ∀ t m, valV kv (k2 t m) = if (t, m) ∈ done.map (fun r => (r.1, r.2.1)) then some (.bl true) else none
  side : ∃ kv, H s2 = some (.dT kv) ∧ kv.length ≤ done.length ∧ ∀ n t, valV kv (k2' n t) = cntO (cnt2 done n t)
  work : ∃ kv, H s3 = some (.dK kv) ∧ kv.length ≤ done.length ∧ ∀ n, valV kv (Sum.inr n : Key) = cntO (cnt1 done n)
  ne : s1 ≠ s2
theorem WAt.same {K : PySem.W.Frag} {H H' : Hp} {p : Addr} {a c : V} {s1 s2 s3 : Addr} {done : List Row} (s : Same H H') (h : WAt K H p a c s1 s2 s3 done) : WAt K H' p a c s1 s2 s3 done := by
  obtain ⟨⟨dx, h1⟩, ⟨k1, a1, b1, c1⟩, ⟨k2, a2, b2, c2⟩, ⟨k3, a3, b3, c3⟩, ne⟩ := h
  exact ⟨⟨dx, s _ _ h1⟩, ⟨k1, s _ _ a1, b1, c1⟩, ⟨k2, s _ _ a2, b2, c2⟩, ⟨k3, s _ _ a3, b3, c3⟩, ne⟩
def sp_Walk_init : Sp := fun vs H Q _ => ∃ (p dx : Addr) (a c : V), vs = [.ref p, a, c] ∧ H p = some (.ins (He.ga K "Walk") dx []) ∧
  ∀ (H' : Hp) (s1 s2 s3 : Addr), But p H H' → H s1 = none → H s2 = none → H s3 = none → WAt K H' p a c s1 s2 s3 [] → Q .non H'
-- slots: 0 self, 1 load, 2 calendar
theorem sc_Walk_init : FnScope ["self", "load", "calendar"] ["self", "load", "calendar"] (defScope s_Walk_init) := ⟨rfl, rfl, rfl, by decide +kernel, rfl, by decide +kernel, by decide +kernel⟩
theorem cd_Walk_init (T : Tx K mg) : ∃ fd, Cd P w K mg base 1 (He.ma K (He.ga K "Walk") "__init__") ["self", "load", "calendar"] (sp_Walk_init (K := K)) fd := by
  obtain ⟨fd, F⟩ := T.F_Walk_init
  refine ⟨fd, F.ok sc_Walk_init (fun vs H Q E h => ?_) (fun cdv A outer s H vs Q E hr h => ?_), FunD.bindsN F (fun _ _ _ _ _ _ us hl => match us, hl with | [_, _, _], _ => rfl), F.kp⟩
  · obtain ⟨p, dx, a, c, rfl, _⟩ := h
    rfl
  · obtain ⟨p, dx, a, c, rfl, hp, q⟩ := h
    refine ⟨_, PSs.nox (pss_cons (ps_fld (pv 0) (pv 1) rfl)
      (pss_cons (ps_fld (pv 0) (pv 2) rfl)
      (pss_cons (ps_fld (pv 0) pe_dnewT rfl)
      (pss_cons (ps_fld (pv 0) pe_dnewT rfl)
      (pss_one (ps_fld (pv 0) pe_dnewK rfl)))))), ?_⟩
    walk_at "go"
    refine w_rSetF hp T.c_Walk T.n_Walk_load (Nat.le_of_ble_eq_true rfl) fun H1 b1 e1 => ?_
    rw [pi_Walk_load] at e1
    walk_at "go"
    refine w_rSetF e1 T.c_Walk T.n_Walk_calendar (Nat.le_of_ble_eq_true rfl) fun H2 b2 e2 => ?_
    rw [pi_Walk_calendar] at e2
    have b02 := b1.trans b2
    walk_at "go"
    refine w_dnewT fun s1 H3 h3 t3 e3 => ?_
    walk_at "go"
    have np1 : s1 ≠ p := fun e => by rw [e, e2] at h3; cases h3
    refine w_rSetF (t3 _ _ e2) T.c_Walk T.n_Walk_seats (Nat.le_of_ble_eq_true rfl) fun H4 b4 e4 => ?_
    rw [pi_Walk_seats] at e4
    walk_at "go"
    refine w_dnewT fun s2 H5 h5 t5 e5 => ?_
    walk_at "go"
    have np2 : s2 ≠ p := fun e => by rw [e, e4] at h5; cases h5
    refine w_rSetF (t5 _ _ e4) T.c_Walk T.n_Walk_side (Nat.le_of_ble_eq_true rfl) fun H6 b6 e6 => ?_
    rw [pi_Walk_side] at e6
    walk_at "go"
    refine w_dnewK fun s3 H7 h7 t7 e7 => ?_
    walk_at "go"
    have np3 : s3 ≠ p := fun e => by rw [e, e6] at h7; cases h7
    refine w_rSetF (t7 _ _ e6) T.c_Walk T.n_Walk_worked (Nat.le_of_ble_eq_true rfl) fun H8 b8 e8 => ?_
    rw [pi_Walk_worked] at e8
    have b04 := (b02.trans (But.same t3)).trans b4
    have b06 := (b04.trans (But.same t5)).trans b6
    have fr : ∀ {x : Addr} {G : Hp}, But p H G → G x = none → x ≠ p → H x = none := fun b h n => by
      cases e : H _ with
      | none => rfl
      | some o => have := b _ _ n e; rw [h] at this; cases this
    have k1 : H4 s1 = some (.dT []) := b4 _ _ np1 e3
    have k16 : H6 s1 = some (.dT []) := b6 _ _ np1 (t5 _ _ k1)
    have ne12 : s1 ≠ s2 := ne_of_none k1 h5
    walk_at "go"
    refine q H8 s1 s2 s3 ((b06.trans (But.same t7)).trans b8) (fr b02 h3 np1) (fr b04 h5 np2) (fr b06 h7 np3) ⟨⟨_, e8⟩, ⟨[], b8 _ _ np1 (t7 _ _ k16), Nat.le_refl _, fun t m => ?_⟩, ⟨[], b8 _ _ np2 (t7 _ _ (b6 _ _ np2 e5)), Nat.le_refl _, fun n t => rfl⟩, ⟨[], b8 _ _ np3 e7, Nat.le_refl _, fun n => rfl⟩, ne12⟩
    rw [if_neg (by simp)]; rfl
def sp_Walk_word_for : Sp := fun vs H Q _ => ∃ (p a c : Addr) (ps : List Addr) (js : List Job) (ss : List (Int × Int)) (rest : Int) (s1 s2 s3 : Addr) (done : List Row) (t m : Int) (n : Str) (j : Job), vs = [.ref p, .int t, .int m, .str n] ∧ WAt K H p (.ref a) (.ref c) s1 s2 s3 done ∧ LT H a ps (js.map jobV) ∧
  (js.map (·.nm)).Nodup ∧ CalAt K H c ss rest ∧ ss.length ≤ 1000 ∧ j ∈ js ∧ j.nm = n ∧ j.fi ≤ t ∧ t ≤ j.la ∧ 0 ≤ m ∧ m < calAt ss rest t ∧ (t, m) ∉ done.map (fun r => (r.1, r.2.1)) ∧ ((cnt2 done n t : Nat) : Int) < j.br ∧ ((cnt1 done n : Nat) : Int) < j.wk ∧
  ∀ H', Same H H' → Q .non H'
-- slots: 0 self, 1 turn, 2 machine, 3 name, 4 job
theorem sc_Walk_word_for : FnScope ["self", "turn", "machine", "name", "job"] ["self", "turn", "machine", "name"] (defScope s_Walk_word_for) := ⟨rfl, rfl, rfl, by decide +kernel, rfl, by decide +kernel, by decide +kernel⟩
theorem cd_Walk_word_for (T : Tx K mg) : ∃ fd, Cd P w K mg base 3 (He.ma K (He.ga K "Walk") "word_for") ["self", "turn", "machine", "name"] (sp_Walk_word_for (K := K)) fd := by
  obtain ⟨fd, F⟩ := T.F_Walk_word_for
  obtain ⟨_, K_Calendar_at⟩ := cd_Calendar_at (P := P) (w := w) (base := base) T
  obtain ⟨_, K_job_named⟩ := cd_job_named (P := P) (w := w) (base := base) T
  refine ⟨fd, F.ok sc_Walk_word_for (fun vs H Q E h => ?_) (fun cdv A outer s H vs Q E hr h => ?_), FunD.bindsN F (fun _ _ _ _ _ _ us hl => match us, hl with | [_, _, _, _], _ => rfl), F.kp⟩
  · obtain ⟨p, a, c, ps, js, ss, rest, s1, s2, s3, done, t, m, n, j, rfl, _⟩ := h
    rfl
  · obtain ⟨p, a, c, ps, js, ss, rest, s1, s2, s3, done, t, m, n, j, rfl, W, L, hnd, C, hz, hj, hn, h1, h2, h3, h4, h5, h6, h7, q⟩ := h
    refine ⟨_, PSs.nox (pss_cons (ps_set (i := 4) sc_Walk_word_for.nd rfl (Or.inl rfl) (pe_call K_job_named.ok (hr.mono (by decide)) (by rfl) T.g_job_named K_job_named.kp K_job_named.bn .nil pass0 (pa_cons (pe_fld (pv 0) rfl) (pa_cons (pv 3) pa_nil))))
      (pss_cons (ps_if (pt_cmp (pc_isN (pv 4))) (pss_one (ps_ret pe_str)) pss_nil)
      (pss_cons (ps_if (PW.pt (pw_or (pt_cmpR op_lt (pv 1) (pe_ix ix_tup (pv 4) pe_int (fun _ _ => rfl)) (nomark _)) (pw_or1 (pt_cmpR op_gt (pv 1) (pe_ix ix_tup (pv 4) pe_int (fun _ _ => rfl)) (nomark _))))) (pss_one (ps_ret pe_str)) pss_nil)
      (pss_cons (ps_if (PW.pt (pw_or (pt_cmpR op_lt (pv 2) pe_int (nomark _)) (pw_or1 (pt_cmpR op_ge (pv 2) (pe_meth (pe_fld (pv 0) rfl) T.c_Calendar T.m_Calendar_at K_Calendar_at.ok (hr.mono (by decide)) K_Calendar_at.bn .nil pass0 (pa_cons (pv 1) pa_nil)) (nomark _))))) (pss_one (ps_ret pe_str)) pss_nil)
      (pss_cons (ps_if (pt_cmp (pc_din (hu_of hr) (pe_tup (pa_cons (pv 1) (pa_cons (pv 2) pa_nil))) (pe_fld (pv 0) rfl))) (pss_one (ps_ret pe_str)) pss_nil)
      (pss_cons (ps_if (pt_cmpR op_ge (pe_dget2 (hu_of hr) (pe_fld (pv 0) rfl) (pe_tup (pa_cons (pv 3) (pa_cons (pv 1) pa_nil))) pe_int ⟨rfl, rfl, rfl, rfl⟩) (pe_ix ix_tup (pv 4) pe_int (fun _ _ => rfl)) (nomark _)) (pss_one (ps_ret pe_str)) pss_nil)
      (pss_cons (ps_if (pt_cmpR op_ge (pe_dget2 (hu_of hr) (pe_fld (pv 0) rfl) (pv 3) pe_int ⟨rfl, rfl, rfl, rfl⟩) (pe_ix ix_tup (pv 4) pe_int (fun _ _ => rfl)) (nomark _)) (pss_one (ps_ret pe_str)) pss_nil)
      (pss_one (ps_ret pe_non))))))))), ?_⟩
    walk_at "go"
    obtain ⟨⟨dx, hp⟩, ⟨kv1, a1, b1, c1⟩, ⟨kv2, a2, b2, c2⟩, ⟨kv3, a3, b3, c3⟩, ne⟩ := W
    refine w_rFld hp T.c_Walk T.n_Walk_load lk_Walk_load ?_
    walk_at "go"
    refine ⟨_, _, _, _, _, rfl, L, hnd, hj, hn, fun x hx => ?_⟩
    walk_at "go"
    refine ifF (by intro h; cases h) ?_
    walk_at "go"
    refine ifF (by omega) ?_
    walk_at "go"
    refine ifF (by omega) ?_
    walk_at "go"
    refine ifF (by omega) ?_
    walk_at "go"
    refine w_rFld hp T.c_Walk T.n_Walk_calendar lk_Walk_calendar ?_
    obtain ⟨dxc, lc, qc, hc, Lc⟩ := C.ex
    refine w_rRecv hc no_Calendar_at ?_
    walk_at "go"
    refine ⟨_, _, _, _, rfl, C, hz, fun H1 t1 => ?_⟩
    walk_at "go"
    refine ifF (by omega) ?_
    walk_at "go"
    intro kt H2 hkt t2 ekt
    walk_at "go"
    have t12 := t1.trans t2
    refine w_rFld (t12 _ _ hp) T.c_Walk T.n_Walk_seats lk_Walk_seats ?_
    refine w_rDInT (k := k2 t m) (t12 _ _ a1) ekt ?_
    rw [c1, if_neg h5]
    walk_at "go"
    refine iteF ?_
    walk_at "go"
    refine w_rFld (t12 _ _ hp) T.c_Walk T.n_Walk_side lk_Walk_side ?_
    refine w_rD2T (t12 _ _ a2) ?_
    walk_at "go"
    intro ks H3 hks t3 eks
    walk_at "go"
    have t13 := t12.trans t3
    refine w_rD3T (k := k2' n t) (t13 _ _ a2) eks ?_
    rw [c2, cntO_getD]
    have hx3 := t13 _ _ hx
    walk_at "go"
    refine ifF (by omega) ?_
    walk_at "go"
    refine w_rFld (t13 _ _ hp) T.c_Walk T.n_Walk_worked lk_Walk_worked ?_
    refine w_rD2K (t13 _ _ a3) ?_
    walk_at "go"
    refine w_rD3S (t13 _ _ a3) ?_
    rw [c3, cntO_getD]
    walk_at "go"
    refine ifF (by omega) ?_
    walk_at "go"
    exact q _ t13

end
end Due

set_option Elab.async false
set_option linter.all false
set_option maxRecDepth 100000
set_option maxHeartbeats 4000000
namespace Due
open PySem PySem.Spec PyProof.Rows L2
local macro_rules | `(tactic| walk_at "v") => `(tactic| ((with_reducible refine' w_var ?hv ?_); (case hv => exact rfl)))
local macro_rules | `(tactic| walk_at "go1") => `(tactic| first
  | with_reducible refine' w_seq ?_ | with_reducible refine' w_asg ?_ | with_reducible refine' w_name ?_ | with_reducible refine' w_ret ?_ | with_reducible refine' w_drop ?_ | with_reducible refine' w_ifs ?_ | with_reducible refine' w_next ?_ | with_reducible refine' w_retN ?_ | with_reducible refine' w_cont ?_
  | ((with_reducible refine' w_var ?hv ?_); (case hv => exact rfl)) | with_reducible refine' w_c ?_ | with_reducible refine' w_op ?_ | with_reducible refine' w_un ?_ | with_reducible refine' w_I0 ?_ | with_reducible refine' w_U ?_ | with_reducible refine' w_cmp ?_
  | ((with_reducible refine' w_eq ?hv ?_); (case hv => exact rfl)) | ((with_reducible refine' w_ne ?hv ?_); (case hv => exact rfl))
  | with_reducible refine' iteT ?_ | with_reducible refine' iteF ?_ | with_reducible refine' iteNT ?_ | with_reducible refine' iteNF ?_ | with_reducible refine' w_chain3 ?_ | with_reducible refine' w_augS ?_ | with_reducible refine' w_gsub ?_
  | with_reducible refine' w_sl ?_ | with_reducible refine' w_noPart ?_ | with_reducible refine' w_part ?_ | with_reducible refine' w_rPart ?_ | with_reducible refine' w_iZip ?_ | with_reducible refine' w_iEnum ?_ | with_reducible refine' w_iRng ?_
  | with_reducible refine' w_dget ?_ | with_reducible refine' w_dget2 ?_ | with_reducible refine' w_din ?_ | with_reducible refine' w_dnotin ?_ | with_reducible refine' w_dput ?_
  | with_reducible refine' w_isN ?_ | with_reducible refine' w_notN ?_ | with_reducible refine' w_rBl ?_ | with_reducible refine' w_B ?_ | with_reducible refine' w_test ?_ | with_reducible refine' w_and ?_ | with_reducible refine' w_or ?_ | with_reducible refine' w_not ?_
  | with_reducible refine' w_andV ?_ | with_reducible refine' w_orV ?_ | with_reducible refine' w_notV ?_ | with_reducible refine' w_chain ?_ | with_reducible refine' w_fld ?_ | with_reducible refine' w_sfld ?_ | with_reducible refine' w_nil ?_ | with_reducible refine' w_cons ?_
  | with_reducible refine' w_call ?_ | with_reducible refine' w_meth ?_ | with_reducible refine' w_make ?_ | with_reducible refine' w_CB ?_ | with_reducible refine' w_BM0 ?_ | with_reducible refine' w_BM ?_ | with_reducible refine' w_tup ?_ | with_reducible refine' w_lst ?_
  | with_reducible refine' w_for ?_ | with_reducible refine' w_iList ?_ | with_reducible refine' w_iTup ?_ | with_reducible refine' w_lc ?_ | with_reducible refine' w_yes ?_ | with_reducible refine' w_max2 ?_ | with_reducible refine' w_min2 ?_ | with_reducible refine' w_ipI ?_ | with_reducible refine' w_gcons ?_ | with_reducible refine' w_gnil ?_
  | ((with_reducible refine' w_aug ?hv ?_); (case hv => exact rfl))
  | ((with_reducible refine' w_gtup ?hv ?hn ?_); (case hv => assumption); (case hn => exact rfl))
  | ((with_reducible refine' w_ixT ?hv ?ha ?_); (case hv => assumption); (case ha => exact rfl))
  | ((with_reducible refine' w_newT ?hv ?_); (case hv => exact Nat.le_of_ble_eq_true rfl))
  | ((with_reducible refine' w_newL ?hv ?_); (case hv => exact Nat.le_of_ble_eq_true rfl)))
local macro_rules | `(tactic| walk_at "go") => `(tactic| repeat' walk_at "go1")
section
variable {P : Program} {w : World} {K : PySem.W.Frag} {mg : Str → Option Value} {base : Heap}
/-! ### plans, the walk goes past; faults; undone -/
theorem cnt2_snoc (d : List Row) (r : Row) (n : Str) (t : Int) : cnt2 (d ++ [r]) n t = cnt2 d n t + (if r.2.2 = n ∧ r.1 = t then 1 else 0) := by
  unfold cnt2
  rw [List.countP_append, List.countP_singleton]
  by_cases h : r.2.2 = n ∧ r.1 = t
  · rw [if_pos h, if_pos (decide_eq_true h)]
  · rw [if_neg h, if_neg (by simpa using h)]
theorem cnt1_snoc (d : List Row) (r : Row) (n : Str) : cnt1 (d ++ [r]) n = cnt1 d n + (if r.2.2 = n then 1 else 0) := by
  unfold cnt1
  rw [List.countP_append, List.countP_singleton]
  by_cases h : r.2.2 = n
  · rw [if_pos h, if_pos (decide_eq_true h)]
  · rw [if_neg h, if_neg (by simpa using h)]
theorem k2_inj {t m t' m' : Int} : k2 t m = k2 t' m' ↔ t = t' ∧ m = m' := by
  constructor
  · intro h
    injection h with h1 h2
    injection h2 with h2 h3
    exact ⟨Sum.inl.inj h1, Sum.inl.inj h2⟩
  · rintro ⟨rfl, rfl⟩; rfl
theorem k2'_inj {n n' : Str} {t t' : Int} : k2' n t = k2' n' t' ↔ n = n' ∧ t = t' := by
  constructor
  · intro h
    injection h with h1 h2
    injection h2 with h2 h3
    exact ⟨Sum.inr.inj h1, Sum.inl.inj h2⟩
  · rintro ⟨rfl, rfl⟩; rfl
theorem cntO_succ (c : Nat) : cntO (c + 1) = some (.int ((c : Int) + 1)) := by
  unfold cntO
  rw [if_neg (Nat.succ_ne_zero c)]
  congr 2
def sp_Walk_go_past : Sp := fun vs H Q _ => ∃ (p : Addr) (a c : V) (s1 s2 s3 : Addr) (done : List Row) (t m : Int) (n : Str), vs = [.ref p, .int t, .int m, .str n] ∧ WAt K H p a c s1 s2 s3 done ∧ done.length ≤ 50000 ∧
  ∀ H', (∀ b o, b ≠ s1 → b ≠ s2 → b ≠ s3 → H b = some o → H' b = some o) → WAt K H' p a c s1 s2 s3 (done ++ [(t, m, n)]) → Q .non H'
-- slots: 0 self, 1 turn, 2 machine, 3 name
theorem sc_Walk_go_past : FnScope ["self", "turn", "machine", "name"] ["self", "turn", "machine", "name"] (defScope s_Walk_go_past) := ⟨rfl, rfl, rfl, by decide +kernel, rfl, by decide +kernel, by decide +kernel⟩
theorem cd_Walk_go_past (T : Tx K mg) : ∃ fd, Cd P w K mg base 1 (He.ma K (He.ga K "Walk") "go_past") ["self", "turn", "machine", "name"] (sp_Walk_go_past (K := K)) fd := by
  obtain ⟨fd, F⟩ := T.F_Walk_go_past
  refine ⟨fd, F.ok sc_Walk_go_past (fun vs H Q E h => ?_) (fun cdv A outer s H vs Q E hr h => ?_), FunD.bindsN F (fun _ _ _ _ _ _ us hl => match us, hl with | [_, _, _, _], _ => rfl), F.kp⟩
  · obtain ⟨p, a, c, s1, s2, s3, done, t, m, n, rfl, _⟩ := h
    rfl
  · obtain ⟨p, a, c, s1, s2, s3, done, t, m, n, rfl, W, hz, q⟩ := h
    refine ⟨_, PSs.nox (pss_cons (ps_dput (hu_of hr) (pe_fld (pv 0) rfl) (pe_tup (pa_cons (pv 1) (pa_cons (pv 2) pa_nil))) pe_bl rfl)
      (pss_cons (ps_dput (hu_of hr) (pe_fld (pv 0) rfl) (pe_tup (pa_cons (pv 3) (pa_cons (pv 1) pa_nil))) (pe_op op_add (pe_dget2 (hu_of hr) (pe_fld (pv 0) rfl) (pe_tup (pa_cons (pv 3) (pa_cons (pv 1) pa_nil))) pe_int ⟨rfl, rfl, rfl, rfl⟩) pe_int) rfl)
      (pss_one (ps_dput (hu_of hr) (pe_fld (pv 0) rfl) (pv 3) (pe_op op_add (pe_dget2 (hu_of hr) (pe_fld (pv 0) rfl) (pv 3) pe_int ⟨rfl, rfl, rfl, rfl⟩) pe_int) rfl)))), ?_⟩
    walk_at "go"
    obtain ⟨⟨dx, hp⟩, ⟨kv1, a1, b1, c1⟩, ⟨kv2, a2, b2, c2⟩, ⟨kv3, a3, b3, c3⟩, ne⟩ := W
    have np1 : p ≠ s1 := ne_of hp a1 (by intro h; cases h)
    have np2 : p ≠ s2 := ne_of hp a2 (by intro h; cases h)
    have np3 : p ≠ s3 := ne_of hp a3 (by intro h; cases h)
    have n31 : s3 ≠ s1 := ne_of a3 a1 (by intro h; cases h)
    have n32 : s3 ≠ s2 := ne_of a3 a2 (by intro h; cases h)
    refine w_rFld hp T.c_Walk T.n_Walk_seats lk_Walk_seats ?_
    walk_at "go"
    intro x1 H1 hx1 t1 e1
    refine w_rDPutT (k := k2 t m) (t1 _ _ a1) e1 (szlt (by omega)) fun H2 f2 e2 => ?_
    have hp2 := f2 _ _ np1 (t1 _ _ hp)
    have a22 := f2 _ _ ne.symm (t1 _ _ a2)
    have a32 := f2 _ _ n31 (t1 _ _ a3)
    walk_at "go"
    refine w_rFld hp2 T.c_Walk T.n_Walk_side lk_Walk_side ?_
    refine w_rD2T a22 ?_
    walk_at "go"
    intro x3 H3 hx3 t3 e3
    walk_at "go"
    refine w_rD3T (k := k2' n t) (t3 _ _ a22) e3 ?_
    rw [c2, cntO_getD]
    walk_at "go"
    refine w_rFld (t3 _ _ hp2) T.c_Walk T.n_Walk_side lk_Walk_side ?_
    walk_at "go"
    intro x4 H4 hx4 t4 e4
    have t34 := t3.trans t4
    refine w_rDPutT (k := k2' n t) (t34 _ _ a22) e4 (szlt (by omega)) fun H5 f5 e5 => ?_
    have hp5 := f5 _ _ np2 (t34 _ _ hp2)
    have a15 := f5 _ _ ne (t34 _ _ e2)
    have a35 := f5 _ _ n32 (t34 _ _ a32)
    walk_at "go"
    refine w_rFld hp5 T.c_Walk T.n_Walk_worked lk_Walk_worked ?_
    refine w_rD2K a35 ?_
    walk_at "go"
    refine w_rD3S a35 ?_
    rw [c3, cntO_getD]
    walk_at "go"
    refine w_rFld hp5 T.c_Walk T.n_Walk_worked lk_Walk_worked ?_
    walk_at "go"
    refine w_rDPutS a35 (szlt (by omega)) fun H6 f6 e6 => ?_
    walk_at "go"
    refine q H6 (fun b o g1 g2 g3 e => f6 _ _ g3 (f5 _ _ g2 (t34 _ _ (f2 _ _ g1 (t1 _ _ e))))) ⟨⟨dx, f6 _ _ np3 hp5⟩, ⟨_, f6 _ _ n31.symm a15, ?_, fun t' m' => ?_⟩, ⟨_, f6 _ _ n32.symm e5, ?_, fun n' t' => ?_⟩, ⟨_, e6, ?_, fun n' => ?_⟩, ne⟩
    · have := putK_len kv1 (k2 t m) (.bl true)
      rw [List.length_append, List.length_singleton]; omega
    · rw [valV_put, c1]
      by_cases h : t' = t ∧ m' = m
      · rw [if_pos (k2_inj.mpr h), if_pos (by rw [h.1, h.2]; simp)]
      · rw [if_neg (fun e => h (k2_inj.mp e))]
        by_cases h2 : (t', m') ∈ done.map fun r => (r.1, r.2.1)
        · rw [if_pos h2, if_pos (by rw [List.map_append]; exact List.mem_append_left _ h2)]
        · rw [if_neg h2, if_neg]
          rw [List.map_append]
          intro hm
          rcases List.mem_append.mp hm with hm | hm
          · exact h2 hm
          · have hm := List.mem_singleton.mp hm
            injection hm with g1 g2
            exact h ⟨g1, g2⟩
    · have := putK_len kv2 (k2' n t) (.int ((cnt2 done n t : Nat) + 1))
      rw [List.length_append, List.length_singleton]; omega
    · rw [valV_put, c2, cnt2_snoc]
      by_cases h : n' = n ∧ t' = t
      · rw [if_pos (k2'_inj.mpr h), if_pos ⟨h.1.symm, h.2.symm⟩, cntO_succ, h.1, h.2]
      · rw [if_neg (fun e => h (k2'_inj.mp e)), if_neg (fun e => h ⟨e.1.symm, e.2.symm⟩), Nat.add_zero]
    · have := putK_len kv3 (Sum.inr n : Key) (.int ((cnt1 done n : Nat) + 1))
      rw [List.length_append, List.length_singleton]; omega
    · rw [valV_put, c3, cnt1_snoc]
      by_cases h : n' = n
      · rw [if_pos (by rw [h]), if_pos h.symm, cntO_succ, h]
      · rw [if_neg (fun e => h (Sum.inr.inj e)), if_neg (fun e => h e.symm), Nat.add_zero]
def sp_faults : Sp := fun vs H Q _ => ∃ (a c b : Addr) (ps qs : List Addr) (js : List Job) (ss : List (Int × Int)) (rest : Int) (rows : List Row), vs = [.ref a, .ref c, .ref b] ∧ LT H a ps (js.map jobV) ∧ (js.map (·.nm)).Nodup ∧ CalAt K H c ss rest ∧ ss.length ≤ 1000 ∧ LT H b qs (rows.map rowV) ∧ PlanOk js (calAt ss rest) rows ∧
  ∀ (H' : Hp) (l : Addr), Same H H' → H l = none → H' l = some (.lst []) → Q (.ref l) H'
-- slots: 0 load, 1 calendar, 2 plan, 3 walk, 4 found, 5 index, 6 row, 7 turn, 8 machine, 9 name, 10 word
theorem sc_faults : FnScope ["load", "calendar", "plan", "walk", "found", "index", "row", "turn", "machine", "name", "word"] ["load", "calendar", "plan"] (defScope s_faults) := ⟨rfl, rfl, rfl, by decide +kernel, rfl, by decide +kernel, by decide +kernel⟩
theorem cd_faults (T : Tx K mg) : ∃ fd, Cd P w K mg base 4 (He.ga K "faults") ["load", "calendar", "plan"] (sp_faults (K := K)) fd := by
  obtain ⟨fd, F⟩ := T.F_faults
  obtain ⟨_, K_Walk_go_past⟩ := cd_Walk_go_past (P := P) (w := w) (base := base) T
  obtain ⟨_, K_Walk_init⟩ := cd_Walk_init (P := P) (w := w) (base := base) T
  obtain ⟨_, K_Walk_word_for⟩ := cd_Walk_word_for (P := P) (w := w) (base := base) T
  refine ⟨fd, F.ok sc_faults (fun vs H Q E h => ?_) (fun cdv A outer s H vs Q E hr h => ?_), FunD.bindsN F (fun _ _ _ _ _ _ us hl => match us, hl with | [_, _, _], _ => rfl), F.kp⟩
  · obtain ⟨a, c, b, ps, qs, js, ss, rest, rows, rfl, _⟩ := h
    rfl
  · obtain ⟨a, c, b, ps, qs, js, ss, rest, rows, rfl, L, hnd, C, hz, Lr, PO, q⟩ := h
    refine ⟨_, PSs.nox (pss_cons (ps_set (i := 3) sc_faults.nd rfl (Or.inl rfl) (pe_make T.k_Walk K_Walk_init.ok (hr.mono (by decide)) (by rfl) T.g_Walk K_Walk_init.bn .nil pass0 (pa_cons (pv 0) (pa_cons (pv 1) pa_nil))))
      (pss_cons (ps_set (i := 4) sc_faults.nd rfl (Or.inl rfl) (pe_lst pa_nil))
      (pss_cons (ps_for PassesOwn.never rfl (pi_enum (by rfl) T.b_enumerate (pa_cons (pv 2) pa_nil)) (pg_tup rfl (pgs_cons (pg_name (i := 5) sc_faults.nd rfl (Or.inl rfl)) (pgs_cons (pg_name (i := 6) sc_faults.nd rfl (Or.inl rfl)) pgs_nil))) (pss_cons (ps_asg (pv 6) (pg_tup rfl (pgs_cons (pg_name (i := 7) sc_faults.nd rfl (Or.inl rfl)) (pgs_cons (pg_name (i := 8) sc_faults.nd rfl (Or.inl rfl)) (pgs_cons (pg_name (i := 9) sc_faults.nd rfl (Or.inl rfl)) pgs_nil)))))
      (pss_cons (ps_set (i := 10) sc_faults.nd rfl (Or.inl rfl) (pe_meth (pv 3) T.c_Walk T.m_Walk_word_for K_Walk_word_for.ok (hr.mono (by decide)) K_Walk_word_for.bn .nil pass0 (pa_cons (pv 7) (pa_cons (pv 8) (pa_cons (pv 9) pa_nil)))))
      (pss_cons (ps_if (pt_cmp (pc_notN (pv 10))) (pss_one (ps_expr (pe_bm PySem.F.plainAttrs_list PySem.F.slot_list_append PySem.F.type_list_append mt_append (pv 4) (pa_cons (pe_tup (pa_cons (pv 5) (pa_cons (pv 10) pa_nil))) pa_nil)))) pss_nil)
      (pss_one (ps_expr (pe_meth (pv 3) T.c_Walk T.m_Walk_go_past K_Walk_go_past.ok (hr.mono (by decide)) K_Walk_go_past.bn .nil pass0 (pa_cons (pv 7) (pa_cons (pv 8) (pa_cons (pv 9) pa_nil))))))))))
      (pss_one (ps_ret (pv 4)))))), ?_⟩
    walk_at "go"
    refine w_rNewI fun p dx H1 hp1 s1 e1 => ?_
    refine ⟨_, _, _, _, rfl, e1, fun H2 w1 w2 w3 b2 f1 f2 f3 W => ⟨rfl, ?_⟩⟩
    have s2 : Same H H2 := Same.but s1 hp1 b2
    walk_at "go"
    intro l H3 hl3 s3 e3
    have fr1 : H w1 = none := s1.free f1
    have fr2 : H w2 = none := s1.free f2
    have fr3 : H w3 = none := s1.free f3
    have hlH : H l = none := s2.free hl3
    have l1 : l ≠ w1 := fun e => by obtain ⟨kv, h, _⟩ := W.seats; rw [e, h] at hl3; cases hl3
    have l2 : l ≠ w2 := fun e => by obtain ⟨kv, h, _⟩ := W.side; rw [e, h] at hl3; cases hl3
    have l3 : l ≠ w3 := fun e => by obtain ⟨kv, h, _⟩ := W.work; rw [e, h] at hl3; cases hl3
    have s13 := s2.trans s3
    walk_at "go"
    refine w_rEnum (s13 _ _ Lr.at_) ?_
    have hrl : (qs.map V.ref).length = rows.length := by rw [List.length_map, Lr.len, List.length_map]
    have hzr := PO.len
    refine lp_enum (xs := qs.map V.ref) (fun i σ H' => ∃ v5 v6 v7 v8 v9 v10, σ = [some (.ref a), some (.ref c), some (.ref b), some (.ref p), some (.ref l), v5, v6, v7, v8, v9, v10] ∧ Same H H' ∧ H' l = some (.lst []) ∧ WAt K H' p (.ref a) (.ref c) w1 w2 w3 (rows.take i))
      ⟨none, none, none, none, none, none, rfl, s13, e3, W.same s3⟩ (fun i σ H' hi p => ?_) (fun i y t σ H6 H7 hi hy pp ht s7 e7 => ?_) (fun σ H' pp => ?_)
    · obtain ⟨v5, v6, v7, v8, v9, v10, rfl, s, _⟩ := p
      exact s _ _ Lr.at_
    · obtain ⟨v5, v6, v7, v8, v9, v10, rfl, s, el, W6⟩ := pp
      obtain ⟨qr, r0, rfl, k1, k2, k3⟩ := (Lr.same s).item hy
      obtain ⟨r, er, rfl⟩ := map_get k2
      obtain ⟨j, hj, jn, jf, jl, jm, jc⟩ := PO.job r (List.mem_of_getElem? er)
      have c2 := count_take (p := fun r' : Row => decide (r'.2.2 = j.nm ∧ r'.1 = r.1)) er (decide_eq_true ⟨jn.symm, rfl⟩)
      have c1 := count_take (p := fun r' : Row => decide (r'.2.2 = j.nm)) er (decide_eq_true jn.symm)
      have g2 := PO.brd j hj r.1
      have g1 := PO.wrk j hj
      have hnot : (r.1, r.2.1) ∉ (rows.take i).map fun r => (r.1, r.2.1) := fun hm => by
        obtain ⟨r', hr', he⟩ := List.mem_map.mp hm
        obtain ⟨i', hi'⟩ := List.getElem?_of_mem hr'
        have hlt := (List.getElem?_eq_some_iff.mp hi').1
        rw [List.length_take] at hlt
        rw [List.getElem?_take, if_pos (by omega)] at hi'
        have a1 := List.getElem?_eq_some_iff.mp er
        have a2 := List.getElem?_eq_some_iff.mp hi'
        have nd := List.pairwise_iff_getElem.mp PO.nd
        exact nd i' i (by simpa using a2.1) (by simpa using a1.1) (by omega) (by rw [List.getElem_map, List.getElem_map, a1.2, a2.2]; exact he)
      have s67 := s.trans s7
      have k37 := s7 _ _ k3
      have W7 := W6.same s7
      walk_at "go"
      obtain ⟨dxw, hpw⟩ := W7.ins
      refine w_rRecv hpw no_Walk_word_for ?_
      walk_at "go"
      have g2' : ((cnt2 (rows.take i) r.2.2 r.1 : Nat) : Int) < j.br := by
        unfold cnt2
        rw [← jn]
        omega
      have g1' : ((cnt1 (rows.take i) r.2.2 : Nat) : Int) < j.wk := by
        unfold cnt1
        rw [← jn]
        omega
      refine ⟨_, _, _, _, js, _, _, _, _, _, _, _, _, _, j, rfl, W7, L.same s67, hnd, C.same s67, hz, hj, jn, jf, jl, jm, jc, hnot, g2', g1', fun H8 s8 => ?_⟩
      walk_at "go"
      refine ifnF rfl ?_
      walk_at "go"
      have W8 := W7.same s8
      obtain ⟨dxw2, hpw2⟩ := W8.ins
      refine w_rRecv hpw2 no_Walk_go_past ?_
      walk_at "go"
      refine ⟨_, _, _, _, _, _, _, _, _, _, rfl, W8, by rw [List.length_take]; omega, fun H9 f9 W9 => ?_⟩
      walk_at "go"
      rw [take_succ_of er]
      have s68 := s67.trans s8
      refine ⟨_, _, _, _, _, _, rfl, fun x o e => f9 x o (fun h => by rw [h, fr1] at e; cases e) (fun h => by rw [h, fr2] at e; cases e) (fun h => by rw [h, fr3] at e; cases e) (s68 _ _ e), f9 _ _ l1 l2 l3 (s8 _ _ (s7 _ _ el)), W9⟩
    · obtain ⟨v5, v6, v7, v8, v9, v10, rfl, s, el, W6⟩ := pp
      walk_at "go"
      exact q _ _ s hlH el
def und (j : Job) (rows : List Row) : Int := max 0 (j.wk - ((cnt1 rows j.nm : Nat) : Int))
def sp_undone : Sp := fun vs H Q _ => ∃ (a b : Addr) (ps qs : List Addr) (js : List Job) (rows : List Row), vs = [.ref a, .ref b] ∧ LT H a ps (js.map jobV) ∧ js.length ≤ 1000 ∧ LT H b qs (rows.map rowV) ∧ rows.length ≤ 50000 ∧
  ∀ (H' : Hp) (l : Addr), Same H H' → H l = none → H' l = some (.lst ((js.map fun j => und j rows).map V.int)) → Q (.ref l) H'
-- slots: 0 load, 1 plan, 2 names, 3 turn, 4 machine, 5 name, 6 job
theorem sc_undone : FnScope ["load", "plan", "names", "turn", "machine", "name", "job"] ["load", "plan"] (defScope s_undone) := ⟨rfl, rfl, rfl, by decide +kernel, rfl, by decide +kernel, by decide +kernel⟩
theorem cd_undone (T : Tx K mg) : ∃ fd, Cd P w K mg base 1 (He.ga K "undone") ["load", "plan"] sp_undone fd := by
  obtain ⟨fd, F⟩ := T.F_undone
  refine ⟨fd, F.ok sc_undone (fun vs H Q E h => ?_) (fun cdv A outer s H vs Q E hr h => ?_), FunD.bindsN F (fun _ _ _ _ _ _ us hl => match us, hl with | [_, _], _ => rfl), F.kp⟩
  · obtain ⟨a, b, ps, qs, js, rows, rfl, _⟩ := h
    rfl
  · obtain ⟨a, b, ps, qs, js, rows, rfl, L, hj, Lr, hz, q⟩ := h
    refine ⟨_, PSs.nox (pss_cons (ps_set (i := 2) sc_undone.nd rfl (Or.inr rfl) (pe_lc (own := [("turn", 3), ("machine", 4), ("name", 5)]) (g := (gTup K 3 (gCons (gName 3) (gCons (gName 4) (gCons (gName 5) gNil))))) (tt := tYes) (te := (tVar 5)) (by rfl) sc_undone.nd (pi_list (pv 1)) (blkOk_by (N := ["load", "plan", "names", "turn", "machine", "name", "job"]) (sc := defScope s_undone) (by decide +kernel)) (fun _ _ _ _ _ => (pg_tup rfl (pgs_cons (pg_name (i := 3) sc_undone.nd rfl (Or.inl rfl)) (pgs_cons (pg_name (i := 4) sc_undone.nd rfl (Or.inl rfl)) (pgs_cons (pg_name (i := 5) sc_undone.nd rfl (Or.inl rfl)) pgs_nil))))) (fun _ _ _ _ _ => pts_nil) (fun _ _ _ _ _ => (pv 5))))
      (pss_one (ps_ret (pe_lc (own := [("job", 6)]) (g := (gName 6)) (tt := tYes) (te := (tCB rMax2 (tCons (tC (.int 0)) (tCons (tOp (rI0 fun i j => .int (i - j)) (tOp (rIxT K) (tVar 6) (tC (.int 3))) (tBM K "list" (rCntS K) (tVar 2) (tCons (tOp (rIxT K) (tVar 6) (tC (.int 0))) tNil))) tNil)))) (by rfl) sc_undone.nd (pi_list (pv 0)) (blkOk_by (N := ["load", "plan", "names", "turn", "machine", "name", "job"]) (sc := defScope s_undone) (by decide +kernel)) (fun _ _ _ _ _ => (pg_name (i := 6) sc_undone.nd rfl (Or.inl rfl))) (fun _ _ _ _ _ => pts_nil) (fun _ _ _ _ _ => (pe_callB (c_max2 rfl) (by rfl) T.b_max (by decide +kernel) (pa_cons pe_int (pa_cons (pe_op op_sub (pe_ix ix_tup (pv 6) pe_int (fun _ _ => rfl)) (pe_bm PySem.F.plainAttrs_list PySem.F.slot_list_count PySem.F.type_list_count mt_lcountS (pv 2) (pa_cons (pe_ix ix_tup (pv 6) pe_int (fun _ _ => rfl)) pa_nil))) pa_nil)))))))), ?_⟩
    walk_at "go"
    refine w_rIt Lr.at_ fun D hD => ?_
    refine lpc_LT Lr (fun r => V.str r.2.2) hD (by omega) (fun i q0 r0 H1 N e1 e2 s1 h1 => ?_) (fun x H' N N' h k => mono_tup3 N N' h k) (fun H1 s1 e1 => ?_)
    · walk_at "go"
      refine ⟨rfl, ?_⟩
      walk_at "go"
      exact h1 _ (Same.refl _)
    have e1' : H1 D = some (.lst ((rows.map (·.2.2)).map V.str)) := by rw [e1, List.map_map]; rfl
    walk_at "go"
    refine w_rIt (s1 _ _ L.at_) fun D2 hD2 => ?_
    refine lpc_LT (L.same s1) (fun j => V.int (und j rows)) hD2 (by omega) (fun i q0 r0 H2 N e2 e3 s2 h2 => ?_) (fun x H' N N' h k => mono_name N N' h k) (fun H2 s2 e2 => ?_)
    · walk_at "go"
      refine ⟨rfl, ?_⟩
      walk_at "go"
      refine w_rTyL (s2 _ _ e1') ?_
      walk_at "go"
      refine w_cntS (s2 _ _ e1') ?_
      walk_at "go"
      have ec : (rows.map (·.2.2)).countP (· == r0.nm) = cnt1 rows r0.nm := by
        rw [List.countP_map]
        unfold cnt1
        refine List.countP_congr fun r _ => ?_
        simp
      rw [ec]
      exact h2 _ (Same.refl _)
    · refine q _ _ (s1.trans s2) (s1.free hD2) ?_
      rw [e2, List.map_map]; rfl

end
end Due

set_option Elab.async false
set_option linter.all false
set_option maxRecDepth 100000
set_option maxHeartbeats 4000000
namespace Due
open PySem PySem.Spec PyProof.Rows L2
local macro_rules | `(tactic| walk_at "v") => `(tactic| ((with_reducible refine' w_var ?hv ?_); (case hv => exact rfl)))
local macro_rules | `(tactic| walk_at "go1") => `(tactic| first
  | with_reducible refine' w_seq ?_ | with_reducible refine' w_asg ?_ | with_reducible refine' w_name ?_ | with_reducible refine' w_ret ?_ | with_reducible refine' w_drop ?_ | with_reducible refine' w_ifs ?_ | with_reducible refine' w_next ?_ | with_reducible refine' w_retN ?_ | with_reducible refine' w_cont ?_
  | ((with_reducible refine' w_var ?hv ?_); (case hv => exact rfl)) | with_reducible refine' w_c ?_ | with_reducible refine' w_op ?_ | with_reducible refine' w_un ?_ | with_reducible refine' w_I0 ?_ | with_reducible refine' w_U ?_ | with_reducible refine' w_cmp ?_
  | ((with_reducible refine' w_eq ?hv ?_); (case hv => exact rfl)) | ((with_reducible refine' w_ne ?hv ?_); (case hv => exact rfl))
  | with_reducible refine' iteT ?_ | with_reducible refine' iteF ?_ | with_reducible refine' iteNT ?_ | with_reducible refine' iteNF ?_ | with_reducible refine' w_chain3 ?_ | with_reducible refine' w_augS ?_ | with_reducible refine' w_gsub ?_
  | with_reducible refine' w_sl ?_ | with_reducible refine' w_noPart ?_ | with_reducible refine' w_part ?_ | with_reducible refine' w_rPart ?_ | with_reducible refine' w_iZip ?_ | with_reducible refine' w_iEnum ?_ | with_reducible refine' w_iRng ?_
  | with_reducible refine' w_dget ?_ | with_reducible refine' w_dget2 ?_ | with_reducible refine' w_din ?_ | with_reducible refine' w_dnotin ?_ | with_reducible refine' w_dput ?_
  | with_reducible refine' w_isN ?_ | with_reducible refine' w_notN ?_ | with_reducible refine' w_rBl ?_ | with_reducible refine' w_B ?_ | with_reducible refine' w_test ?_ | with_reducible refine' w_and ?_ | with_reducible refine' w_or ?_ | with_reducible refine' w_not ?_
  | with_reducible refine' w_andV ?_ | with_reducible refine' w_orV ?_ | with_reducible refine' w_notV ?_ | with_reducible refine' w_chain ?_ | with_reducible refine' w_fld ?_ | with_reducible refine' w_sfld ?_ | with_reducible refine' w_nil ?_ | with_reducible refine' w_cons ?_
  | with_reducible refine' w_call ?_ | with_reducible refine' w_meth ?_ | with_reducible refine' w_make ?_ | with_reducible refine' w_CB ?_ | with_reducible refine' w_BM0 ?_ | with_reducible refine' w_BM ?_ | with_reducible refine' w_tup ?_ | with_reducible refine' w_lst ?_
  | with_reducible refine' w_for ?_ | with_reducible refine' w_iList ?_ | with_reducible refine' w_iTup ?_ | with_reducible refine' w_lc ?_ | with_reducible refine' w_yes ?_ | with_reducible refine' w_max2 ?_ | with_reducible refine' w_min2 ?_ | with_reducible refine' w_ipI ?_ | with_reducible refine' w_gcons ?_ | with_reducible refine' w_gnil ?_
  | ((with_reducible refine' w_aug ?hv ?_); (case hv => exact rfl))
  | ((with_reducible refine' w_gtup ?hv ?hn ?_); (case hv => assumption); (case hn => exact rfl))
  | ((with_reducible refine' w_ixT ?hv ?ha ?_); (case hv => assumption); (case ha => exact rfl))
  | ((with_reducible refine' w_newT ?hv ?_); (case hv => exact Nat.le_of_ble_eq_true rfl))
  | ((with_reducible refine' w_newL ?hv ?_); (case hv => exact Nat.le_of_ble_eq_true rfl)))
local macro_rules | `(tactic| walk_at "go") => `(tactic| repeat' walk_at "go1")
section
variable {P : Program} {w : World} {K : PySem.W.Frag} {mg : Str → Option Value} {base : Heap}
/-! ### verdicts -/
theorem listV_of {α : Type} {f : α → List V} {H : Hp} {a : Addr} {ps : List Addr} {rs : List α} (L : LT H a ps (rs.map f)) : H a = some (.lst (ps.map V.ref)) := L.at_
def sp_overflow : Sp := fun vs H Q _ => ∃ (a c b : Addr) (ps qs : List Addr) (js : List Job) (ss : List (Int × Int)) (rest : Int) (sp : List (Int × Int)), vs = [.ref a, .ref c, .ref b] ∧ LT H a ps (js.map jobV) ∧ LoadOk js ∧ CalAt K H c ss rest ∧ CalOk ss rest ∧ LT H b qs (sp.map spanV) ∧ sp.length ≤ 1000 ∧
  ∀ H', Same H H' → Q (.int ((js.map fun j => exc j sp).sum - (sp.map fun p => over ss rest p.1 p.2).sum)) H'
-- slots: 0 load, 1 calendar, 2 spans, 3 job
theorem sc_overflow : FnScope ["load", "calendar", "spans", "job"] ["load", "calendar", "spans"] (defScope s_overflow) := ⟨rfl, rfl, rfl, by decide +kernel, rfl, by decide +kernel, by decide +kernel⟩
theorem cd_overflow (T : Tx K mg) : ∃ fd, Cd P w K mg base 5 (He.ga K "overflow") ["load", "calendar", "spans"] (sp_overflow (K := K)) fd := by
  obtain ⟨fd, F⟩ := T.F_overflow
  obtain ⟨_, K_Calendar_over_spans⟩ := cd_Calendar_over_spans (P := P) (w := w) (base := base) T
  obtain ⟨_, K_check_load⟩ := cd_check_load (P := P) (w := w) (base := base) T
  obtain ⟨_, K_excess⟩ := cd_excess (P := P) (w := w) (base := base) T
  refine ⟨fd, F.ok sc_overflow (fun vs H Q E h => ?_) (fun cdv A outer s H vs Q E hr h => ?_), FunD.bindsN F (fun _ _ _ _ _ _ us hl => match us, hl with | [_, _, _], _ => rfl), F.kp⟩
  · obtain ⟨a, c, b, ps, qs, js, ss, rest, sp, rfl, _⟩ := h
    rfl
  · obtain ⟨a, c, b, ps, qs, js, ss, rest, sp, rfl, L, O, C, CO, Ls, hz, q⟩ := h
    refine ⟨_, PSs.nox (pss_cons (ps_expr (pe_call K_check_load.ok (hr.mono (by decide)) (by rfl) T.g_check_load K_check_load.kp K_check_load.bn .nil pass0 (pa_cons (pv 0) pa_nil)))
      (pss_one (ps_ret (pe_op op_sub (pe_callB (cr_sum rfl) (by rfl) T.b_sum (by decide +kernel) (pa_cons (pe_lc (own := [("job", 3)]) (g := (gName 3)) (tt := tYes) (te := (tCall _ [] E0 (tCons (tVar 3) (tCons (tVar 2) tNil)))) (by rfl) sc_overflow.nd (pi_list (pv 0)) (blkOk_by (N := ["load", "calendar", "spans", "job"]) (sc := defScope s_overflow) (by decide +kernel)) (fun _ _ _ _ _ => (pg_name (i := 3) sc_overflow.nd rfl (Or.inl rfl))) (fun _ _ _ _ _ => pts_nil) (fun _ _ _ _ _ => (pe_call K_excess.ok (hr.mono (by decide)) (by rfl) T.g_excess K_excess.kp K_excess.bn .nil pass0 (pa_cons (pv 3) (pa_cons (pv 2) pa_nil))))) pa_nil)) (pe_meth (pv 1) T.c_Calendar T.m_Calendar_over_spans K_Calendar_over_spans.ok (hr.mono (by decide)) K_Calendar_over_spans.bn .nil pass0 (pa_cons (pv 2) pa_nil)))))), ?_⟩
    walk_at "go"
    have hj := O.len
    refine ⟨_, _, _, rfl, L, O, fun H1 s1 => ?_⟩
    walk_at "go"
    refine w_rIt (s1 _ _ L.at_) fun D hD => ?_
    refine lpc_LT (L.same s1) (fun j => V.int (exc j sp)) hD (by omega) (fun i q0 r0 H2 N e1 e2 s2 h2 => ?_) (fun x H' N N' h k => mono_name N N' h k) (fun H2 s2 e2 => ?_)
    · walk_at "go"
      refine ⟨rfl, ?_⟩
      walk_at "go"
      exact ⟨_, _, _, _, _, rfl, e2, O.num _ (List.mem_of_getElem? e1), Ls.same (s1.trans s2), hz, fun H3 s3 => h2 _ s3⟩
    · walk_at "go"
      refine w_sum (ns := js.map fun j => exc j sp) (by rw [e2, List.map_map]; rfl) ?_
      walk_at "go"
      have s12 := s1.trans s2
      obtain ⟨dx, ls, psl, hp, L0⟩ := (C.same s12).ex
      refine w_rRecv hp no_Calendar_over_spans ?_
      walk_at "go"
      refine ⟨_, _, _, _, _, _, rfl, C.same s12, CO, Ls.same s12, hz, fun H3 s3 => ?_⟩
      walk_at "go"
      exact q _ (s12.trans s3)
def crowdedL (js : List Job) (sp : List (Int × Int)) : List Str := (js.filter fun j => decide (0 < exc j sp)).map (·.nm)
def sp_crowded : Sp := fun vs H Q _ => ∃ (a b : Addr) (ps qs : List Addr) (js : List Job) (sp : List (Int × Int)), vs = [.ref a, .ref b] ∧ LT H a ps (js.map jobV) ∧ LoadOk js ∧ LT H b qs (sp.map spanV) ∧ sp.length ≤ 1000 ∧
  ∀ (H' : Hp) (l : Addr), Same H H' → H l = none → H' l = some (.lst ((crowdedL js sp).map V.str)) → Q (.ref l) H'
theorem sel_js (js : List Job) (g : Job → Bool) (f : Job → V) : sel js.length (fun i => g (jg js i)) (fun i => f (jg js i)) = (js.filter g).map f := by
  unfold sel
  conv => rhs; rw [js_range js]
  rw [List.filter_map, List.map_map]; rfl
-- slots: 0 load, 1 spans, 2 job
theorem sc_crowded : FnScope ["load", "spans", "job"] ["load", "spans"] (defScope s_crowded) := ⟨rfl, rfl, rfl, by decide +kernel, rfl, by decide +kernel, by decide +kernel⟩
theorem cd_crowded (T : Tx K mg) : ∃ fd, Cd P w K mg base 5 (He.ga K "crowded") ["load", "spans"] sp_crowded fd := by
  obtain ⟨fd, F⟩ := T.F_crowded
  obtain ⟨_, K_excess⟩ := cd_excess (P := P) (w := w) (base := base) T
  refine ⟨fd, F.ok sc_crowded (fun vs H Q E h => ?_) (fun cdv A outer s H vs Q E hr h => ?_), FunD.bindsN F (fun _ _ _ _ _ _ us hl => match us, hl with | [_, _], _ => rfl), F.kp⟩
  · obtain ⟨a, b, ps, qs, js, sp, rfl, _⟩ := h
    rfl
  · obtain ⟨a, b, ps, qs, js, sp, rfl, L, O, Ls, hz, q⟩ := h
    refine ⟨_, PSs.nox (pss_one (ps_ret (pe_lc (own := [("job", 2)]) (g := (gName 2)) (tt := (tTest (tOp (rI0 fun i j => .bl (decide (j < i))) (tCall _ [] E0 (tCons (tVar 2) (tCons (tVar 1) tNil))) (tC (.int 0))))) (te := (tOp (rIxT K) (tVar 2) (tC (.int 0)))) (by rfl) sc_crowded.nd (pi_list (pv 0)) (blkOk_by (N := ["load", "spans", "job"]) (sc := defScope s_crowded) (by decide +kernel)) (fun _ _ _ _ _ => (pg_name (i := 2) sc_crowded.nd rfl (Or.inl rfl))) (fun _ _ _ _ _ => (pts_one (pt_cmpR op_gt (pe_call K_excess.ok (hr.mono (by decide)) (by rfl) T.g_excess K_excess.kp K_excess.bn .nil pass0 (pa_cons (pv 2) (pa_cons (pv 1) pa_nil))) pe_int (nomark _)))) (fun _ _ _ _ _ => (pe_ix ix_tup (pv 2) pe_int (fun _ _ => rfl)))))), ?_⟩
    walk_at "go"
    have hj := O.len
    have hjl : (ps.map V.ref).length = js.length := by rw [List.length_map, L.len, List.length_map]
    refine w_rIt L.at_ fun D hD => ?_
    refine lpc_sel (walk_list (xs := ps.map V.ref)) (fun i => decide (0 < exc (jg js i) sp)) (fun i => V.str (jg js i).nm) hD (by rw [hjl]; exact szlt (by omega)) (fun H s => SqL.of (s _ _ L.at_)) (fun i x H H' y => by rw [y.1]; exact Same.refl _) (fun i x H1 H2 N Z hi s1 s2 y h1 h2 => ?_) (fun H1 s1 e1 => ?_)
    · obtain ⟨rfl, y⟩ := y
      obtain ⟨q1, r1, rfl, k1, k2, k3⟩ := (L.same s1).item y
      obtain ⟨j, ej, rfl⟩ := map_get k2
      have ejg : j = jg js i := by
        have := jg_of (js := js) (j := i) (List.getElem?_eq_some_iff.mp ej).1
        rw [ej] at this
        exact Option.some.inj this
      rw [← ejg] at h1 h2
      walk_at "go"
      refine ⟨rfl, ?_⟩
      refine (show tTest _ _ _ _ from ?_)
      walk_at "go"
      refine ⟨_, _, _, _, _, rfl, k3, O.num _ (List.mem_of_getElem? ej), Ls.same s1, hz, fun H3 s3 => ?_⟩
      walk_at "go"
      refine ifD (fun h => ?_) (fun h => ?_)
      · have k33 := s3 _ _ k3
        walk_at "go"
        exact h1 (decide_eq_true h) _ s3
      · exact h2 (decide_eq_false h) _ s3
    · refine q _ _ s1 hD ?_
      rw [hjl, sel_js js (fun j => decide (0 < exc j sp)) (fun j => V.str j.nm)] at e1
      rw [e1]
      unfold crowdedL
      rw [List.map_map]; rfl
def sp_Verdict_init : Sp := fun vs H Q _ => ∃ (p dx C a c b : Addr) (xs ys : List V), vs = [.ref p, .ref a, .ref c, .ref b] ∧ H p = some (.ins C dx []) ∧ (Cls K C ∧ NoAttr K C "load" ∧ NoAttr K C "calendar" ∧ NoAttr K C "plan") ∧ H a = some (.lst xs) ∧ H b = some (.lst ys) ∧
  ∀ (H' : Hp) (l1 l2 : Addr), But p H H' → H l1 = none → H l2 = none → H' l1 = some (.lst xs) → H' l2 = some (.lst ys) → l1 ≠ l2 → H' p = some (.ins C dx (fl_Kept (.ref l1) (.ref c) (.ref l2))) → Q .non H'
-- slots: 0 self, 1 load, 2 calendar, 3 plan
theorem sc_Verdict_init : FnScope ["self", "load", "calendar", "plan"] ["self", "load", "calendar", "plan"] (defScope s_Verdict_init) := ⟨rfl, rfl, rfl, by decide +kernel, rfl, by decide +kernel, by decide +kernel⟩
theorem cd_Verdict_init (T : Tx K mg) : ∃ fd, Cd P w K mg base 1 (He.ma K (He.ga K "Verdict") "__init__") ["self", "load", "calendar", "plan"] (sp_Verdict_init (K := K)) fd := by
  obtain ⟨fd, F⟩ := T.F_Verdict_init
  refine ⟨fd, F.ok sc_Verdict_init (fun vs H Q E h => ?_) (fun cdv A outer s H vs Q E hr h => ?_), FunD.bindsN F (fun _ _ _ _ _ _ us hl => match us, hl with | [_, _, _, _], _ => rfl), F.kp⟩
  · obtain ⟨p, dx, C, a, c, b, xs, ys, rfl, _⟩ := h
    rfl
  · obtain ⟨p, dx, C, a, c, b, xs, ys, rfl, hp, hC, ha, hb, q⟩ := h
    refine ⟨_, PSs.nox (pss_cons (ps_fld (pv 0) (pe_callTy c_list (by rfl) T.b_list (by decide +kernel) (pa_cons (pv 1) pa_nil)) rfl)
      (pss_cons (ps_fld (pv 0) (pv 2) rfl)
      (pss_one (ps_fld (pv 0) (pe_callTy c_list (by rfl) T.b_list (by decide +kernel) (pa_cons (pv 3) pa_nil)) rfl)))), ?_⟩
    walk_at "go"
    obtain ⟨hC, n1, n2, n3⟩ := hC
    refine w_listL ha fun l1 H1 hl1 s1 e1 => ?_
    walk_at "go"
    refine w_rSetF (s1 _ _ hp) hC n1 (Nat.le_of_ble_eq_true rfl) fun H2 b2 e2 => ?_
    rw [pi_Kept_load] at e2
    walk_at "go"
    refine w_rSetF e2 hC n2 (Nat.le_of_ble_eq_true rfl) fun H3 b3 e3 => ?_
    rw [pi_Kept_calendar] at e3
    have b13 : But p H H3 := ((But.same s1).trans b2).trans b3
    have nb : b ≠ p := ne_of hb hp (by intro h; cases h)
    have np1 : l1 ≠ p := fun e => by rw [e, hp] at hl1; cases hl1
    walk_at "go"
    refine w_listL (b13 _ _ nb hb) fun l2 H4 hl2 s4 e4 => ?_
    walk_at "go"
    refine w_rSetF (s4 _ _ e3) hC n3 (Nat.le_of_ble_eq_true rfl) fun H5 b5 e5 => ?_
    rw [pi_Kept_plan] at e5
    have np2 : l2 ≠ p := fun e => by rw [e, e3] at hl2; cases hl2
    have f2 : H l2 = none := by
      cases e : H l2 with
      | none => rfl
      | some o => have := b13 _ _ np2 e; rw [hl2] at this; cases this
    have k1 : H3 l1 = some (.lst xs) := b3 _ _ np1 (b2 _ _ np1 e1)
    walk_at "go"
    exact q H5 l1 l2 ((b13.trans (But.same s4)).trans b5) hl1 f2 (b5 _ _ np1 (s4 _ _ k1)) (b5 _ _ np2 e4) (ne_of_none k1 hl2) e5
-- slots: 0 self, 1 load, 2 calendar, 3 plan
theorem sc_Kept_init : FnScope ["self", "load", "calendar", "plan"] ["self", "load", "calendar", "plan"] (defScope s_Kept_init) := ⟨rfl, rfl, rfl, by decide +kernel, rfl, by decide +kernel, by decide +kernel⟩
theorem cd_Kept_init (T : Tx K mg) : ∃ fd, Cd P w K mg base 1 (He.ma K (He.ga K "Kept") "__init__") ["self", "load", "calendar", "plan"] (sp_Verdict_init (K := K)) fd := by
  obtain ⟨fd, F⟩ := T.F_Kept_init
  refine ⟨fd, F.ok sc_Kept_init (fun vs H Q E h => ?_) (fun cdv A outer s H vs Q E hr h => ?_), FunD.bindsN F (fun _ _ _ _ _ _ us hl => match us, hl with | [_, _, _, _], _ => rfl), F.kp⟩
  · obtain ⟨p, dx, C, a, c, b, xs, ys, rfl, _⟩ := h
    rfl
  · obtain ⟨p, dx, C, a, c, b, xs, ys, rfl, hp, hC, ha, hb, q⟩ := h
    refine ⟨_, PSs.nox (pss_cons (ps_fld (pv 0) (pe_callTy c_list (by rfl) T.b_list (by decide +kernel) (pa_cons (pv 1) pa_nil)) rfl)
      (pss_cons (ps_fld (pv 0) (pv 2) rfl)
      (pss_one (ps_fld (pv 0) (pe_callTy c_list (by rfl) T.b_list (by decide +kernel) (pa_cons (pv 3) pa_nil)) rfl)))), ?_⟩
    walk_at "go"
    obtain ⟨hC, n1, n2, n3⟩ := hC
    refine w_listL ha fun l1 H1 hl1 s1 e1 => ?_
    walk_at "go"
    refine w_rSetF (s1 _ _ hp) hC n1 (Nat.le_of_ble_eq_true rfl) fun H2 b2 e2 => ?_
    rw [pi_Kept_load] at e2
    walk_at "go"
    refine w_rSetF e2 hC n2 (Nat.le_of_ble_eq_true rfl) fun H3 b3 e3 => ?_
    rw [pi_Kept_calendar] at e3
    have b13 : But p H H3 := ((But.same s1).trans b2).trans b3
    have nb : b ≠ p := ne_of hb hp (by intro h; cases h)
    have np1 : l1 ≠ p := fun e => by rw [e, hp] at hl1; cases hl1
    walk_at "go"
    refine w_listL (b13 _ _ nb hb) fun l2 H4 hl2 s4 e4 => ?_
    walk_at "go"
    refine w_rSetF (s4 _ _ e3) hC n3 (Nat.le_of_ble_eq_true rfl) fun H5 b5 e5 => ?_
    rw [pi_Kept_plan] at e5
    have np2 : l2 ≠ p := fun e => by rw [e, e3] at hl2; cases hl2
    have f2 : H l2 = none := by
      cases e : H l2 with
      | none => rfl
      | some o => have := b13 _ _ np2 e; rw [hl2] at this; cases this
    have k1 : H3 l1 = some (.lst xs) := b3 _ _ np1 (b2 _ _ np1 e1)
    walk_at "go"
    exact q H5 l1 l2 ((b13.trans (But.same s4)).trans b5) hl1 f2 (b5 _ _ np1 (s4 _ _ k1)) (b5 _ _ np2 e4) (ne_of_none k1 hl2) e5
def sp_Full_init : Sp := fun vs H Q _ => ∃ (p dx a c b d e : Addr) (xs ys zs ws : List V) (x : V), vs = [.ref p, .ref a, .ref c, .ref b, x, .ref d, .ref e] ∧ H p = some (.ins (He.ga K "Full") dx []) ∧ H a = some (.lst xs) ∧ H b = some (.lst ys) ∧ H d = some (.lst zs) ∧ H e = some (.lst ws) ∧
  ∀ (H' : Hp) (l1 l2 l3 l4 : Addr), But p H H' → H l1 = none → H l2 = none → H l3 = none → H l4 = none → H' l1 = some (.lst xs) → H' l2 = some (.lst ys) → H' l3 = some (.lst zs) → H' l4 = some (.lst ws) → [l1, l2, l3, l4].Nodup → H' p = some (.ins (He.ga K "Full") dx (fl_Full (.ref l1) (.ref c) (.ref l2) x (.ref l3) (.ref l4))) → Q .non H'
-- slots: 0 self, 1 load, 2 calendar, 3 plan, 4 lack, 5 spans, 6 names
theorem sc_Full_init : FnScope ["self", "load", "calendar", "plan", "lack", "spans", "names"] ["self", "load", "calendar", "plan", "lack", "spans", "names"] (defScope s_Full_init) := ⟨rfl, rfl, rfl, by decide +kernel, rfl, by decide +kernel, by decide +kernel⟩
theorem cd_Full_init (T : Tx K mg) : ∃ fd, Cd P w K mg base 2 (He.ma K (He.ga K "Full") "__init__") ["self", "load", "calendar", "plan", "lack", "spans", "names"] (sp_Full_init (K := K)) fd := by
  obtain ⟨fd, F⟩ := T.F_Full_init
  obtain ⟨_, K_Verdict_init⟩ := cd_Verdict_init (P := P) (w := w) (base := base) T
  refine ⟨fd, F.ok sc_Full_init (fun vs H Q E h => ?_) (fun cdv A outer s H vs Q E hr h => ?_), FunD.bindsN F (fun _ _ _ _ _ _ us hl => match us, hl with | [_, _, _, _, _, _, _], _ => rfl), F.kp⟩
  · obtain ⟨p, dx, a, c, b, d, e, xs, ys, zs, ws, x, rfl, _⟩ := h
    rfl
  · obtain ⟨p, dx, a, c, b, d, e, xs, ys, zs, ws, x, rfl, hp, ha, hb, hd, he, q⟩ := h
    refine ⟨_, PSs.nox (pss_cons (ps_expr (pe_clsfn (by rfl) T.g_Verdict (exF T.ex).rd (exF T.ex).ga (exF T.ex).fi K_Verdict_init.ok (hr.mono (by decide)) K_Verdict_init.kp K_Verdict_init.bn .nil pass0 (pa_cons (pv 0) (pa_cons (pv 1) (pa_cons (pv 2) (pa_cons (pv 3) pa_nil))))))
      (pss_cons (ps_fld (pv 0) (pv 4) rfl)
      (pss_cons (ps_fld (pv 0) (pe_callTy c_list (by rfl) T.b_list (by decide +kernel) (pa_cons (pv 5) pa_nil)) rfl)
      (pss_one (ps_fld (pv 0) (pe_callTy c_list (by rfl) T.b_list (by decide +kernel) (pa_cons (pv 6) pa_nil)) rfl))))), ?_⟩
    walk_at "go"
    refine ⟨_, _, _, _, _, _, _, _, rfl, hp, ⟨T.c_Full, T.n_Full_load, T.n_Full_calendar, T.n_Full_plan⟩, ha, hb, fun H1 l1 l2 b1 f1 f2 e1 e2 ne12 ep => ?_⟩
    walk_at "go"
    refine w_rSetF ep T.c_Full T.n_Full_lack (Nat.le_of_ble_eq_true rfl) fun H2 b2 e3 => ?_
    rw [show fl_Kept (.ref l1) (.ref c) (.ref l2) = [(("load" : Str), V.ref l1), (("calendar" : Str), V.ref c), (("plan" : Str), V.ref l2)] from rfl, pi_Full_lack] at e3
    have b12 := b1.trans b2
    have nd : d ≠ p := ne_of hd hp (by intro h; cases h)
    have ne : e ≠ p := ne_of he hp (by intro h; cases h)
    have np1 : l1 ≠ p := fun z => by rw [z, hp] at f1; cases f1
    have np2 : l2 ≠ p := fun z => by rw [z, hp] at f2; cases f2
    walk_at "go"
    refine w_listL (b12 _ _ nd hd) fun l3 H3 hl3 s3 k3 => ?_
    walk_at "go"
    refine w_rSetF (s3 _ _ e3) T.c_Full T.n_Full_spans (Nat.le_of_ble_eq_true rfl) fun H4 b4 e4 => ?_
    rw [pi_Full_spans] at e4
    have b14 : But p H H4 := (b12.trans (But.same s3)).trans b4
    have np3 : l3 ≠ p := fun z => by rw [z, e3] at hl3; cases hl3
    have fr : ∀ {z : Addr} {G : Hp}, But p H G → G z = none → z ≠ p → H z = none := fun b h n => by
      cases e : H _ with
      | none => rfl
      | some o => have := b _ _ n e; rw [h] at this; cases this
    have f3 := fr b12 hl3 np3
    walk_at "go"
    refine w_listL (b14 _ _ ne he) fun l4 H5 hl4 s5 k5 => ?_
    walk_at "go"
    refine w_rSetF (s5 _ _ e4) T.c_Full T.n_Full_names (Nat.le_of_ble_eq_true rfl) fun H6 b6 e6 => ?_
    rw [pi_Full_names] at e6
    have np4 : l4 ≠ p := fun z => by rw [z, e4] at hl4; cases hl4
    have f4 := fr b14 hl4 np4
    have up : ∀ {z : Addr} {o : HO}, z ≠ p → H1 z = some o → H2 z = some o := fun n h => b2 _ _ n h
    have k14 : H4 l1 = some (.lst xs) := b4 _ _ np1 (s3 _ _ (up np1 e1))
    have k24 : H4 l2 = some (.lst ys) := b4 _ _ np2 (s3 _ _ (up np2 e2))
    have k34 : H4 l3 = some (.lst zs) := b4 _ _ np3 k3
    walk_at "go"
    refine q H6 l1 l2 l3 l4 ((b14.trans (But.same s5)).trans b6) f1 f2 f3 f4 (b6 _ _ np1 (s5 _ _ k14)) (b6 _ _ np2 (s5 _ _ k24)) (b6 _ _ np3 (s5 _ _ k34)) (b6 _ _ np4 k5) ?_ e6
    have n13 : l1 ≠ l3 := ne_of_none (up np1 e1) hl3
    have n23 : l2 ≠ l3 := ne_of_none (up np2 e2) hl3
    have n14 : l1 ≠ l4 := ne_of_none k14 hl4
    have n24 : l2 ≠ l4 := ne_of_none k24 hl4
    have n34 : l3 ≠ l4 := ne_of_none k34 hl4
    simp [ne12, n13, n23, n14, n24, n34]
def sp_Kept_word : Sp := fun vs H Q _ => ∃ (p : Addr), vs = [.ref p] ∧ Q (.str "kept") H
-- slots: 0 self
theorem sc_Kept_word : FnScope ["self"] ["self"] (defScope s_Kept_word) := ⟨rfl, rfl, rfl, by decide +kernel, rfl, by decide +kernel, by decide +kernel⟩
theorem cd_Kept_word (T : Tx K mg) : ∃ fd, Cd P w K mg base 1 (He.ma K (He.ga K "Kept") "word") ["self"] sp_Kept_word fd := by
  obtain ⟨fd, F⟩ := T.F_Kept_word
  refine ⟨fd, F.ok sc_Kept_word (fun vs H Q E h => ?_) (fun cdv A outer s H vs Q E hr h => ?_), FunD.bindsN F (fun _ _ _ _ _ _ us hl => match us, hl with | [_], _ => rfl), F.kp⟩
  · obtain ⟨p, rfl, _⟩ := h
    rfl
  · obtain ⟨p, rfl, q⟩ := h
    refine ⟨_, PSs.nox (pss_one (ps_ret pe_str)), ?_⟩
    walk_at "go"
    exact q
def sp_Kept_kept : Sp := fun vs H Q _ => ∃ (p : Addr), vs = [.ref p] ∧ Q (.bl true) H
-- slots: 0 self
theorem sc_Kept_kept : FnScope ["self"] ["self"] (defScope s_Kept_kept) := ⟨rfl, rfl, rfl, by decide +kernel, rfl, by decide +kernel, by decide +kernel⟩
theorem cd_Kept_kept (T : Tx K mg) : ∃ fd, Cd P w K mg base 1 (He.ma K (He.ga K "Kept") "kept") ["self"] sp_Kept_kept fd := by
  obtain ⟨fd, F⟩ := T.F_Kept_kept
  refine ⟨fd, F.ok sc_Kept_kept (fun vs H Q E h => ?_) (fun cdv A outer s H vs Q E hr h => ?_), FunD.bindsN F (fun _ _ _ _ _ _ us hl => match us, hl with | [_], _ => rfl), F.kp⟩
  · obtain ⟨p, rfl, _⟩ := h
    rfl
  · obtain ⟨p, rfl, q⟩ := h
    refine ⟨_, PSs.nox (pss_one (ps_ret pe_bl)), ?_⟩
    walk_at "go"
    exact q
def sp_Full_word : Sp := fun vs H Q _ => ∃ (p : Addr), vs = [.ref p] ∧ Q (.str "full") H
-- slots: 0 self
theorem sc_Full_word : FnScope ["self"] ["self"] (defScope s_Full_word) := ⟨rfl, rfl, rfl, by decide +kernel, rfl, by decide +kernel, by decide +kernel⟩
theorem cd_Full_word (T : Tx K mg) : ∃ fd, Cd P w K mg base 1 (He.ma K (He.ga K "Full") "word") ["self"] sp_Full_word fd := by
  obtain ⟨fd, F⟩ := T.F_Full_word
  refine ⟨fd, F.ok sc_Full_word (fun vs H Q E h => ?_) (fun cdv A outer s H vs Q E hr h => ?_), FunD.bindsN F (fun _ _ _ _ _ _ us hl => match us, hl with | [_], _ => rfl), F.kp⟩
  · obtain ⟨p, rfl, _⟩ := h
    rfl
  · obtain ⟨p, rfl, q⟩ := h
    refine ⟨_, PSs.nox (pss_one (ps_ret pe_str)), ?_⟩
    walk_at "go"
    exact q
def sp_Full_kept : Sp := fun vs H Q _ => ∃ (p : Addr), vs = [.ref p] ∧ Q (.bl false) H
-- slots: 0 self
theorem sc_Full_kept : FnScope ["self"] ["self"] (defScope s_Full_kept) := ⟨rfl, rfl, rfl, by decide +kernel, rfl, by decide +kernel, by decide +kernel⟩
theorem cd_Full_kept (T : Tx K mg) : ∃ fd, Cd P w K mg base 1 (He.ma K (He.ga K "Full") "kept") ["self"] sp_Full_kept fd := by
  obtain ⟨fd, F⟩ := T.F_Full_kept
  refine ⟨fd, F.ok sc_Full_kept (fun vs H Q E h => ?_) (fun cdv A outer s H vs Q E hr h => ?_), FunD.bindsN F (fun _ _ _ _ _ _ us hl => match us, hl with | [_], _ => rfl), F.kp⟩
  · obtain ⟨p, rfl, _⟩ := h
    rfl
  · obtain ⟨p, rfl, q⟩ := h
    refine ⟨_, PSs.nox (pss_one (ps_ret pe_bl)), ?_⟩
    walk_at "go"
    exact q

end
end Due

set_option Elab.async false
set_option linter.all false
set_option maxRecDepth 100000
set_option maxHeartbeats 4000000
namespace Due
open PySem PySem.Spec PyProof.Rows L2
local macro_rules | `(tactic| walk_at "v") => `(tactic| ((with_reducible refine' w_var ?hv ?_); (case hv => exact rfl)))
local macro_rules | `(tactic| walk_at "go1") => `(tactic| first
  | with_reducible refine' w_seq ?_ | with_reducible refine' w_asg ?_ | with_reducible refine' w_name ?_ | with_reducible refine' w_ret ?_ | with_reducible refine' w_drop ?_ | with_reducible refine' w_ifs ?_ | with_reducible refine' w_next ?_ | with_reducible refine' w_retN ?_ | with_reducible refine' w_cont ?_
  | ((with_reducible refine' w_var ?hv ?_); (case hv => exact rfl)) | with_reducible refine' w_c ?_ | with_reducible refine' w_op ?_ | with_reducible refine' w_un ?_ | with_reducible refine' w_I0 ?_ | with_reducible refine' w_U ?_ | with_reducible refine' w_cmp ?_
  | ((with_reducible refine' w_eq ?hv ?_); (case hv => exact rfl)) | ((with_reducible refine' w_ne ?hv ?_); (case hv => exact rfl))
  | with_reducible refine' iteT ?_ | with_reducible refine' iteF ?_ | with_reducible refine' iteNT ?_ | with_reducible refine' iteNF ?_ | with_reducible refine' w_chain3 ?_ | with_reducible refine' w_augS ?_ | with_reducible refine' w_gsub ?_
  | with_reducible refine' w_sl ?_ | with_reducible refine' w_noPart ?_ | with_reducible refine' w_part ?_ | with_reducible refine' w_rPart ?_ | with_reducible refine' w_iZip ?_ | with_reducible refine' w_iEnum ?_ | with_reducible refine' w_iRng ?_
  | with_reducible refine' w_dget ?_ | with_reducible refine' w_dget2 ?_ | with_reducible refine' w_din ?_ | with_reducible refine' w_dnotin ?_ | with_reducible refine' w_dput ?_
  | with_reducible refine' w_isN ?_ | with_reducible refine' w_notN ?_ | with_reducible refine' w_rBl ?_ | with_reducible refine' w_B ?_ | with_reducible refine' w_test ?_ | with_reducible refine' w_and ?_ | with_reducible refine' w_or ?_ | with_reducible refine' w_not ?_
  | with_reducible refine' w_andV ?_ | with_reducible refine' w_orV ?_ | with_reducible refine' w_notV ?_ | with_reducible refine' w_chain ?_ | with_reducible refine' w_fld ?_ | with_reducible refine' w_sfld ?_ | with_reducible refine' w_nil ?_ | with_reducible refine' w_cons ?_
  | with_reducible refine' w_call ?_ | with_reducible refine' w_meth ?_ | with_reducible refine' w_make ?_ | with_reducible refine' w_CB ?_ | with_reducible refine' w_BM0 ?_ | with_reducible refine' w_BM ?_ | with_reducible refine' w_tup ?_ | with_reducible refine' w_lst ?_
  | with_reducible refine' w_for ?_ | with_reducible refine' w_iList ?_ | with_reducible refine' w_iTup ?_ | with_reducible refine' w_lc ?_ | with_reducible refine' w_yes ?_ | with_reducible refine' w_max2 ?_ | with_reducible refine' w_min2 ?_ | with_reducible refine' w_ipI ?_ | with_reducible refine' w_gcons ?_ | with_reducible refine' w_gnil ?_
  | ((with_reducible refine' w_aug ?hv ?_); (case hv => exact rfl))
  | ((with_reducible refine' w_gtup ?hv ?hn ?_); (case hv => assumption); (case hn => exact rfl))
  | ((with_reducible refine' w_ixT ?hv ?ha ?_); (case hv => assumption); (case ha => exact rfl))
  | ((with_reducible refine' w_newT ?hv ?_); (case hv => exact Nat.le_of_ble_eq_true rfl))
  | ((with_reducible refine' w_newL ?hv ?_); (case hv => exact Nat.le_of_ble_eq_true rfl)))
local macro_rules | `(tactic| walk_at "go") => `(tactic| repeat' walk_at "go1")
section
variable {P : Program} {w : World} {K : PySem.W.Frag} {mg : Str → Option Value} {base : Heap}
/-! ### verdicts: told, left, holds -/
theorem nameOk_flat {x : Str} (h : NameOk x) : FlatOk (.str x) := .inr ⟨x, rfl, by
  unfold PyData.strOk
  rw [← Array.all_toList, List.all_eq_true]
  intro c hc
  have lt : ∀ c ∈ letters.cps.toList, c < 1114112 := by decide +kernel
  have ft : ∀ c ∈ figures.cps.toList, c < 1114112 := by decide +kernel
  rcases h.all c hc with h | h
  · exact decide_eq_true (lt c h)
  · exact decide_eq_true (ft c h)⟩
structure VAt (K : PySem.W.Frag) (H : Hp) (ld c pl : Addr) (ps qs : List Addr) (js : List Job) (ss : List (Int × Int)) (rest : Int) (rows : List Row) : Prop where
  ld : LT H ld ps (js.map jobV)
  cal : CalAt K H c ss rest
  pl : LT H pl qs (rows.map rowV)
theorem VAt.same {K : PySem.W.Frag} {H H' : Hp} {ld c pl : Addr} {ps qs : List Addr} {js : List Job} {ss : List (Int × Int)} {rest : Int} {rows : List Row} (s : Same H H') (h : VAt K H ld c pl ps qs js ss rest rows) : VAt K H' ld c pl ps qs js ss rest rows := ⟨h.ld.same s, h.cal.same s, h.pl.same s⟩
structure VOk (js : List Job) (ss : List (Int × Int)) (rest : Int) (rows : List Row) : Prop where
  ok : LoadOk js
  cal : CalOk ss rest
  plan : PlanOk js (calAt ss rest) rows
def sp_Kept_left_by_plan : Sp := fun vs H Q _ => ∃ (v dx ld c pl : Addr) (ps qs : List Addr) (js : List Job) (ss : List (Int × Int)) (rest : Int) (rows : List Row), vs = [.ref v] ∧ H v = some (.ins (He.ga K "Kept") dx (fl_Kept (.ref ld) (.ref c) (.ref pl))) ∧ VAt K H ld c pl ps qs js ss rest rows ∧ VOk js ss rest rows ∧
  ∀ H', Same H H' → Q (.int ((js.map fun j => und j rows).sum)) H'
-- slots: 0 self
theorem sc_Kept_left_by_plan : FnScope ["self"] ["self"] (defScope s_Kept_left_by_plan) := ⟨rfl, rfl, rfl, by decide +kernel, rfl, by decide +kernel, by decide +kernel⟩
theorem cd_Kept_left_by_plan (T : Tx K mg) : ∃ fd, Cd P w K mg base 5 (He.ma K (He.ga K "Kept") "left_by_plan") ["self"] (sp_Kept_left_by_plan (K := K)) fd := by
  obtain ⟨fd, F⟩ := T.F_Kept_left_by_plan
  obtain ⟨_, K_faults⟩ := cd_faults (P := P) (w := w) (base := base) T
  obtain ⟨_, K_undone⟩ := cd_undone (P := P) (w := w) (base := base) T
  refine ⟨fd, F.ok sc_Kept_left_by_plan (fun vs H Q E h => ?_) (fun cdv A outer s H vs Q E hr h => ?_), FunD.bindsN F (fun _ _ _ _ _ _ us hl => match us, hl with | [_], _ => rfl), F.kp⟩
  · obtain ⟨v, dx, ld, c, pl, ps, qs, js, ss, rest, rows, rfl, _⟩ := h
    rfl
  · obtain ⟨v, dx, ld, c, pl, ps, qs, js, ss, rest, rows, rfl, hv, A, O, q⟩ := h
    refine ⟨_, PSs.nox (pss_cons (ps_if (pt_cmpR (op_neD hr.units) (pe_call K_faults.ok (hr.mono (by decide)) (by rfl) T.g_faults K_faults.kp K_faults.bn .nil pass0 (pa_cons (pe_fld (pv 0) rfl) (pa_cons (pe_fld (pv 0) rfl) (pa_cons (pe_fld (pv 0) rfl) pa_nil)))) (pe_lst pa_nil) (nomark _)) (pss_one (ps_ret pe_non)) pss_nil)
      (pss_one (ps_ret (pe_callB (cr_sum rfl) (by rfl) T.b_sum (by decide +kernel) (pa_cons (pe_call K_undone.ok (hr.mono (by decide)) (by rfl) T.g_undone K_undone.kp K_undone.bn .nil pass0 (pa_cons (pe_fld (pv 0) rfl) (pa_cons (pe_fld (pv 0) rfl) pa_nil))) pa_nil))))), ?_⟩
    walk_at "go"
    have hj := O.ok.len
    have hcl := O.cal.len
    refine w_rFld hv T.c_Kept T.n_Kept_load lk_Kept_load ?_
    walk_at "go"
    refine w_rFld hv T.c_Kept T.n_Kept_calendar lk_Kept_calendar ?_
    walk_at "go"
    refine w_rFld hv T.c_Kept T.n_Kept_plan lk_Kept_plan ?_
    walk_at "go"
    refine ⟨_, _, _, _, _, _, _, _, _, rfl, A.ld, O.ok.nd, A.cal, by omega, A.pl, O.plan, fun H1 l s1 hl e1 => ?_⟩
    walk_at "go"
    intro l2 H2 hl2 s2 e2
    refine w_neNil (dp_flats (s2 _ _ e1) (fun v hv => by simp at hv)) (sh_flats (fun v hv => by simp at hv)) e2 ?_
    walk_at "go"
    refine iteF ?_
    walk_at "go"
    have s12 := s1.trans s2
    refine w_rFld (s12 _ _ hv) T.c_Kept T.n_Kept_load lk_Kept_load ?_
    walk_at "go"
    refine w_rFld (s12 _ _ hv) T.c_Kept T.n_Kept_plan lk_Kept_plan ?_
    walk_at "go"
    refine ⟨_, _, _, _, _, _, rfl, A.ld.same s12, by omega, A.pl.same s12, O.plan.len, fun H3 l3 s3 hl3 e3 => ?_⟩
    walk_at "go"
    refine w_sum e3 ?_
    exact q _ (s12.trans s3)
def sp_Full_left_by_plan : Sp := fun vs H Q _ => ∃ (v dx ld c pl : Addr) (ps qs : List Addr) (js : List Job) (ss : List (Int × Int)) (rest : Int) (rows : List Row) (x y z : V), vs = [.ref v] ∧ H v = some (.ins (He.ga K "Full") dx (fl_Full (.ref ld) (.ref c) (.ref pl) x y z)) ∧ VAt K H ld c pl ps qs js ss rest rows ∧ VOk js ss rest rows ∧
  ∀ H', Same H H' → Q (.int ((js.map fun j => und j rows).sum)) H'
-- slots: 0 self
theorem sc_Full_left_by_plan : FnScope ["self"] ["self"] (defScope s_Full_left_by_plan) := ⟨rfl, rfl, rfl, by decide +kernel, rfl, by decide +kernel, by decide +kernel⟩
theorem cd_Full_left_by_plan (T : Tx K mg) : ∃ fd, Cd P w K mg base 5 (He.ma K (He.ga K "Full") "left_by_plan") ["self"] (sp_Full_left_by_plan (K := K)) fd := by
  obtain ⟨fd, F⟩ := T.F_Full_left_by_plan
  obtain ⟨_, K_faults⟩ := cd_faults (P := P) (w := w) (base := base) T
  obtain ⟨_, K_undone⟩ := cd_undone (P := P) (w := w) (base := base) T
  refine ⟨fd, F.ok sc_Full_left_by_plan (fun vs H Q E h => ?_) (fun cdv A outer s H vs Q E hr h => ?_), FunD.bindsN F (fun _ _ _ _ _ _ us hl => match us, hl with | [_], _ => rfl), F.kp⟩
  · obtain ⟨v, dx, ld, c, pl, ps, qs, js, ss, rest, rows, x, y, z, rfl, _⟩ := h
    rfl
  · obtain ⟨v, dx, ld, c, pl, ps, qs, js, ss, rest, rows, x, y, z, rfl, hv, A, O, q⟩ := h
    refine ⟨_, PSs.nox (pss_cons (ps_if (pt_cmpR (op_neD hr.units) (pe_call K_faults.ok (hr.mono (by decide)) (by rfl) T.g_faults K_faults.kp K_faults.bn .nil pass0 (pa_cons (pe_fld (pv 0) rfl) (pa_cons (pe_fld (pv 0) rfl) (pa_cons (pe_fld (pv 0) rfl) pa_nil)))) (pe_lst pa_nil) (nomark _)) (pss_one (ps_ret pe_non)) pss_nil)
      (pss_one (ps_ret (pe_callB (cr_sum rfl) (by rfl) T.b_sum (by decide +kernel) (pa_cons (pe_call K_undone.ok (hr.mono (by decide)) (by rfl) T.g_undone K_undone.kp K_undone.bn .nil pass0 (pa_cons (pe_fld (pv 0) rfl) (pa_cons (pe_fld (pv 0) rfl) pa_nil))) pa_nil))))), ?_⟩
    walk_at "go"
    have hj := O.ok.len
    have hcl := O.cal.len
    refine w_rFld hv T.c_Full T.n_Full_load lk_Full_load ?_
    walk_at "go"
    refine w_rFld hv T.c_Full T.n_Full_calendar lk_Full_calendar ?_
    walk_at "go"
    refine w_rFld hv T.c_Full T.n_Full_plan lk_Full_plan ?_
    walk_at "go"
    refine ⟨_, _, _, _, _, _, _, _, _, rfl, A.ld, O.ok.nd, A.cal, by omega, A.pl, O.plan, fun H1 l s1 hl e1 => ?_⟩
    walk_at "go"
    intro l2 H2 hl2 s2 e2
    refine w_neNil (dp_flats (s2 _ _ e1) (fun v hv => by simp at hv)) (sh_flats (fun v hv => by simp at hv)) e2 ?_
    walk_at "go"
    refine iteF ?_
    walk_at "go"
    have s12 := s1.trans s2
    refine w_rFld (s12 _ _ hv) T.c_Full T.n_Full_load lk_Full_load ?_
    walk_at "go"
    refine w_rFld (s12 _ _ hv) T.c_Full T.n_Full_plan lk_Full_plan ?_
    walk_at "go"
    refine ⟨_, _, _, _, _, _, rfl, A.ld.same s12, by omega, A.pl.same s12, O.plan.len, fun H3 l3 s3 hl3 e3 => ?_⟩
    walk_at "go"
    refine w_sum e3 ?_
    exact q _ (s12.trans s3)
def sp_Kept_told : Sp := fun vs H Q _ => ∃ (v dx pl : Addr) (x y : V) (xs : List V), vs = [.ref v] ∧ H v = some (.ins (He.ga K "Kept") dx (fl_Kept x y (.ref pl))) ∧ H pl = some (.lst xs) ∧
  ∀ (H' : Hp) (t l : Addr), Same H H' → H l = none → H' l = some (.lst xs) → H' t = some (.tup [.str "kept", .ref l]) → Q (.ref t) H'
-- slots: 0 self
theorem sc_Kept_told : FnScope ["self"] ["self"] (defScope s_Kept_told) := ⟨rfl, rfl, rfl, by decide +kernel, rfl, by decide +kernel, by decide +kernel⟩
theorem cd_Kept_told (T : Tx K mg) : ∃ fd, Cd P w K mg base 2 (He.ma K (He.ga K "Kept") "told") ["self"] (sp_Kept_told (K := K)) fd := by
  obtain ⟨fd, F⟩ := T.F_Kept_told
  obtain ⟨_, K_Kept_word⟩ := cd_Kept_word (P := P) (w := w) (base := base) T
  refine ⟨fd, F.ok sc_Kept_told (fun vs H Q E h => ?_) (fun cdv A outer s H vs Q E hr h => ?_), FunD.bindsN F (fun _ _ _ _ _ _ us hl => match us, hl with | [_], _ => rfl), F.kp⟩
  · obtain ⟨v, dx, pl, x, y, xs, rfl, _⟩ := h
    rfl
  · obtain ⟨v, dx, pl, x, y, xs, rfl, hv, hp, q⟩ := h
    refine ⟨_, PSs.nox (pss_one (ps_ret (pe_tup (pa_cons (pe_meth0 (pv 0) T.c_Kept T.m_Kept_word K_Kept_word.ok (hr.mono (by decide)) K_Kept_word.bn .nil pass0) (pa_cons (pe_callTy c_list (by rfl) T.b_list (by decide +kernel) (pa_cons (pe_fld (pv 0) rfl) pa_nil)) pa_nil))))), ?_⟩
    walk_at "go"
    refine w_rRecv hv no_Kept_word ?_
    walk_at "go"
    refine ⟨_, rfl, ?_⟩
    walk_at "go"
    refine w_rFld hv T.c_Kept T.n_Kept_plan lk_Kept_plan ?_
    walk_at "go"
    refine w_listL hp fun l H1 hl s1 e1 => ?_
    walk_at "go"
    intro t H2 ht s2 e2
    exact q _ t l (s1.trans s2) hl (s2 _ _ e1) e2
def sp_Full_told : Sp := fun vs H Q _ => ∃ (v dx pl sl nl : Addr) (x y z : V) (xs ys zs : List V), vs = [.ref v] ∧ H v = some (.ins (He.ga K "Full") dx (fl_Full x y (.ref pl) z (.ref sl) (.ref nl))) ∧ H pl = some (.lst xs) ∧ H sl = some (.lst ys) ∧ H nl = some (.lst zs) ∧
  ∀ (H' : Hp) (t l1 l2 l3 : Addr), Same H H' → H l1 = none → H l2 = none → H l3 = none → l1 ≠ l2 → l1 ≠ l3 → l2 ≠ l3 → H' l1 = some (.lst xs) → H' l2 = some (.lst ys) → H' l3 = some (.lst zs) → H' t = some (.tup [.str "full", .ref l1, z, .ref l2, .ref l3]) → Q (.ref t) H'
-- slots: 0 self
theorem sc_Full_told : FnScope ["self"] ["self"] (defScope s_Full_told) := ⟨rfl, rfl, rfl, by decide +kernel, rfl, by decide +kernel, by decide +kernel⟩
theorem cd_Full_told (T : Tx K mg) : ∃ fd, Cd P w K mg base 2 (He.ma K (He.ga K "Full") "told") ["self"] (sp_Full_told (K := K)) fd := by
  obtain ⟨fd, F⟩ := T.F_Full_told
  obtain ⟨_, K_Full_word⟩ := cd_Full_word (P := P) (w := w) (base := base) T
  refine ⟨fd, F.ok sc_Full_told (fun vs H Q E h => ?_) (fun cdv A outer s H vs Q E hr h => ?_), FunD.bindsN F (fun _ _ _ _ _ _ us hl => match us, hl with | [_], _ => rfl), F.kp⟩
  · obtain ⟨v, dx, pl, sl, nl, x, y, z, xs, ys, zs, rfl, _⟩ := h
    rfl
  · obtain ⟨v, dx, pl, sl, nl, x, y, z, xs, ys, zs, rfl, hv, hp, hs, hn, q⟩ := h
    refine ⟨_, PSs.nox (pss_one (ps_ret (pe_tup (pa_cons (pe_meth0 (pv 0) T.c_Full T.m_Full_word K_Full_word.ok (hr.mono (by decide)) K_Full_word.bn .nil pass0) (pa_cons (pe_callTy c_list (by rfl) T.b_list (by decide +kernel) (pa_cons (pe_fld (pv 0) rfl) pa_nil)) (pa_cons (pe_fld (pv 0) rfl) (pa_cons (pe_callTy c_list (by rfl) T.b_list (by decide +kernel) (pa_cons (pe_fld (pv 0) rfl) pa_nil)) (pa_cons (pe_callTy c_list (by rfl) T.b_list (by decide +kernel) (pa_cons (pe_fld (pv 0) rfl) pa_nil)) pa_nil)))))))), ?_⟩
    walk_at "go"
    refine w_rRecv hv no_Full_word ?_
    walk_at "go"
    refine ⟨_, rfl, ?_⟩
    walk_at "go"
    refine w_rFld hv T.c_Full T.n_Full_plan lk_Full_plan ?_
    walk_at "go"
    refine w_listL hp fun l1 H1 h1 s1 e1 => ?_
    walk_at "go"
    refine w_rFld (s1 _ _ hv) T.c_Full T.n_Full_lack lk_Full_lack ?_
    walk_at "go"
    refine w_rFld (s1 _ _ hv) T.c_Full T.n_Full_spans lk_Full_spans ?_
    walk_at "go"
    refine w_listL (s1 _ _ hs) fun l2 H2 h2 s2 e2 => ?_
    have s12 := s1.trans s2
    walk_at "go"
    refine w_rFld (s12 _ _ hv) T.c_Full T.n_Full_names lk_Full_names ?_
    walk_at "go"
    refine w_listL (s12 _ _ hn) fun l3 H3 h3 s3 e3 => ?_
    have s13 := s12.trans s3
    walk_at "go"
    intro t H4 ht s4 e4
    exact q _ t l1 l2 l3 (s13.trans s4) h1 (s1.free h2) (s12.free h3) (ne_of_none e1 h2) (ne_of_none (s2 _ _ e1) h3) (ne_of_none e2 h3) (s4 _ _ (s3 _ _ (s2 _ _ e1))) (s4 _ _ (s3 _ _ e2)) (s4 _ _ e3) e4
def sp_Kept_holds : Sp := fun vs H Q _ => ∃ (v dx ld c pl : Addr) (ps qs : List Addr) (js : List Job) (ss : List (Int × Int)) (rest : Int) (rows : List Row), vs = [.ref v] ∧ H v = some (.ins (He.ga K "Kept") dx (fl_Kept (.ref ld) (.ref c) (.ref pl))) ∧ VAt K H ld c pl ps qs js ss rest rows ∧ VOk js ss rest rows ∧ (js.map fun j => und j rows).sum = 0 ∧
  ∀ H', Same H H' → Q (.bl true) H'
-- slots: 0 self
theorem sc_Kept_holds : FnScope ["self"] ["self"] (defScope s_Kept_holds) := ⟨rfl, rfl, rfl, by decide +kernel, rfl, by decide +kernel, by decide +kernel⟩
theorem cd_Kept_holds (T : Tx K mg) : ∃ fd, Cd P w K mg base 6 (He.ma K (He.ga K "Kept") "holds") ["self"] (sp_Kept_holds (K := K)) fd := by
  obtain ⟨fd, F⟩ := T.F_Kept_holds
  obtain ⟨_, K_Kept_left_by_plan⟩ := cd_Kept_left_by_plan (P := P) (w := w) (base := base) T
  refine ⟨fd, F.ok sc_Kept_holds (fun vs H Q E h => ?_) (fun cdv A outer s H vs Q E hr h => ?_), FunD.bindsN F (fun _ _ _ _ _ _ us hl => match us, hl with | [_], _ => rfl), F.kp⟩
  · obtain ⟨v, dx, ld, c, pl, ps, qs, js, ss, rest, rows, rfl, _⟩ := h
    rfl
  · obtain ⟨v, dx, ld, c, pl, ps, qs, js, ss, rest, rows, rfl, hv, A, O, h0, q⟩ := h
    refine ⟨_, PSs.nox (pss_one (ps_ret (pe_cmpR op_eq (pe_meth0 (pv 0) T.c_Kept T.m_Kept_left_by_plan K_Kept_left_by_plan.ok (hr.mono (by decide)) K_Kept_left_by_plan.bn .nil pass0) pe_int (nomark _)))), ?_⟩
    walk_at "go"
    refine w_rRecv hv no_Kept_left_by_plan ?_
    walk_at "go"
    refine ⟨_, _, _, _, _, _, _, _, _, _, _, rfl, hv, A, O, fun H1 s1 => ?_⟩
    rw [h0]
    walk_at "go"
    exact q _ s1
def sp_Full_holds : Sp := fun vs H Q _ => ∃ (v dx ld c pl sl nl : Addr) (ps qs us : List Addr) (js : List Job) (ss : List (Int × Int)) (rest : Int) (rows : List Row) (lack : Int) (sp : List (Int × Int)), vs = [.ref v] ∧ H v = some (.ins (He.ga K "Full") dx (fl_Full (.ref ld) (.ref c) (.ref pl) (.int lack) (.ref sl) (.ref nl))) ∧ VAt K H ld c pl ps qs js ss rest rows ∧ VOk js ss rest rows ∧
  (js.map fun j => und j rows).sum = lack ∧ 1 ≤ lack ∧ LT H sl us (sp.map spanV) ∧ sp.length ≤ 1000 ∧ (js.map fun j => exc j sp).sum - (sp.map fun p => over ss rest p.1 p.2).sum = lack ∧ H nl = some (.lst ((crowdedL js sp).map V.str)) ∧
  ∀ H', Same H H' → Q (.bl true) H'
-- slots: 0 self
theorem sc_Full_holds : FnScope ["self"] ["self"] (defScope s_Full_holds) := ⟨rfl, rfl, rfl, by decide +kernel, rfl, by decide +kernel, by decide +kernel⟩
theorem cd_Full_holds (T : Tx K mg) : ∃ fd, Cd P w K mg base 6 (He.ma K (He.ga K "Full") "holds") ["self"] (sp_Full_holds (K := K)) fd := by
  obtain ⟨fd, F⟩ := T.F_Full_holds
  obtain ⟨_, K_Full_left_by_plan⟩ := cd_Full_left_by_plan (P := P) (w := w) (base := base) T
  obtain ⟨_, K_crowded⟩ := cd_crowded (P := P) (w := w) (base := base) T
  obtain ⟨_, K_overflow⟩ := cd_overflow (P := P) (w := w) (base := base) T
  refine ⟨fd, F.ok sc_Full_holds (fun vs H Q E h => ?_) (fun cdv A outer s H vs Q E hr h => ?_), FunD.bindsN F (fun _ _ _ _ _ _ us hl => match us, hl with | [_], _ => rfl), F.kp⟩
  · obtain ⟨v, dx, ld, c, pl, sl, nl, ps, qs, us, js, ss, rest, rows, lack, sp, rfl, _⟩ := h
    rfl
  · obtain ⟨v, dx, ld, c, pl, sl, nl, ps, qs, us, js, ss, rest, rows, lack, sp, rfl, hv, A, O, h0, h1, Ls, hz, ho, hn, q⟩ := h
    refine ⟨_, PSs.nox (pss_cons (ps_if (PW.pt (pw_or (pt_cmpR op_lt (pe_fld (pv 0) rfl) pe_int (nomark _)) (pw_or1 (pt_cmpR op_ne (pe_meth0 (pv 0) T.c_Full T.m_Full_left_by_plan K_Full_left_by_plan.ok (hr.mono (by decide)) K_Full_left_by_plan.bn .nil pass0) (pe_fld (pv 0) rfl) (nomark _))))) (pss_one (ps_ret pe_bl)) pss_nil)
      (pss_cons (ps_if (pt_cmpR op_ne (pe_call K_overflow.ok (hr.mono (by decide)) (by rfl) T.g_overflow K_overflow.kp K_overflow.bn .nil pass0 (pa_cons (pe_fld (pv 0) rfl) (pa_cons (pe_fld (pv 0) rfl) (pa_cons (pe_fld (pv 0) rfl) pa_nil)))) (pe_fld (pv 0) rfl) (nomark _)) (pss_one (ps_ret pe_bl)) pss_nil)
      (pss_one (ps_ret (pe_cmpR (op_eqD hr.units) (pe_fld (pv 0) rfl) (pe_call K_crowded.ok (hr.mono (by decide)) (by rfl) T.g_crowded K_crowded.kp K_crowded.bn .nil pass0 (pa_cons (pe_fld (pv 0) rfl) (pa_cons (pe_fld (pv 0) rfl) pa_nil))) (nomark _)))))), ?_⟩
    walk_at "go"
    refine w_rFld hv T.c_Full T.n_Full_lack lk_Full_lack ?_
    walk_at "go"
    refine ifF (by omega) ?_
    walk_at "go"
    refine w_rRecv hv no_Full_left_by_plan ?_
    walk_at "go"
    refine ⟨_, _, _, _, _, _, _, _, _, _, _, _, _, _, rfl, hv, A, O, fun H1 s1 => ?_⟩
    rw [h0]
    walk_at "go"
    refine w_rFld (s1 _ _ hv) T.c_Full T.n_Full_lack lk_Full_lack ?_
    walk_at "go"
    refine ifnF rfl ?_
    walk_at "go"
    refine w_rFld (s1 _ _ hv) T.c_Full T.n_Full_load lk_Full_load ?_
    walk_at "go"
    refine w_rFld (s1 _ _ hv) T.c_Full T.n_Full_calendar lk_Full_calendar ?_
    walk_at "go"
    refine w_rFld (s1 _ _ hv) T.c_Full T.n_Full_spans lk_Full_spans ?_
    walk_at "go"
    have A1 := A.same s1
    refine ⟨_, _, _, _, _, _, _, _, _, rfl, A1.ld, O.ok, A1.cal, O.cal, Ls.same s1, hz, fun H2 s2 => ?_⟩
    rw [ho]
    have s12 := s1.trans s2
    walk_at "go"
    refine w_rFld (s12 _ _ hv) T.c_Full T.n_Full_lack lk_Full_lack ?_
    walk_at "go"
    refine ifnF rfl ?_
    walk_at "go"
    refine w_rFld (s12 _ _ hv) T.c_Full T.n_Full_names lk_Full_names ?_
    walk_at "go"
    refine w_rFld (s12 _ _ hv) T.c_Full T.n_Full_load lk_Full_load ?_
    walk_at "go"
    refine w_rFld (s12 _ _ hv) T.c_Full T.n_Full_spans lk_Full_spans ?_
    walk_at "go"
    have A2 := A.same s12
    refine ⟨_, _, _, _, _, _, rfl, A2.ld, O.ok, Ls.same s12, hz, fun H3 l s3 hl e3 => ?_⟩
    have fl : ∀ v ∈ (crowdedL js sp).map V.str, FlatOk v := fun v hv => by
      obtain ⟨x, hx, rfl⟩ := List.mem_map.mp hv
      unfold crowdedL at hx
      obtain ⟨j, hj, rfl⟩ := List.mem_map.mp hx
      exact nameOk_flat (O.ok.nm j (List.mem_filter.mp hj).1)
    refine w_eqSame (dp_flats ((s12.trans s3) _ _ hn) fl) (dp_flats e3 fl) (sh_flats fl) ?_
    exact q _ (s12.trans s3)

end
end Due

set_option linter.all false
/-! M6: the plan of a flow is a plan of the law. -/
namespace Due
open PySem L2
/-! ### wrapping round -/
def nW (M r x : Nat) : Nat := (x + (M - 1 - r)) / M
theorem nW_succ {M r : Nat} (hr : r < M) (x : Nat) : nW M r (x + 1) = nW M r x + (if x % M = r then 1 else 0) := by
  unfold nW
  have e : x + 1 + (M - 1 - r) = (x + (M - 1 - r)) + 1 := by omega
  rw [e, Nat.succ_div]
  have key : (M ∣ x + (M - 1 - r) + 1) ↔ x % M = r := by
    have e2 : x + (M - 1 - r) + 1 = x + (M - r) := by omega
    have hx := Nat.mod_add_div x M
    have hu : x % M < M := Nat.mod_lt _ (by omega)
    rw [e2, Nat.dvd_iff_mod_eq_zero, Nat.add_mod]
    by_cases hr0 : r = 0
    · rw [hr0, Nat.sub_zero, Nat.mod_self, Nat.add_zero, Nat.mod_mod]
    · rw [Nat.mod_eq_of_lt (show M - r < M by omega)]
      by_cases h : x % M + (M - r) < M
      · rw [Nat.mod_eq_of_lt h]; omega
      · rw [Nat.mod_eq_sub_mod (by omega), Nat.mod_eq_of_lt (by omega)]; omega
  by_cases h : x % M = r
  · rw [if_pos h, if_pos (key.mpr h)]
  · rw [if_neg h, if_neg (fun z => h (key.mp z))]
theorem nW_add {M r : Nat} (hM : 0 < M) (x b : Nat) : nW M r (x + b * M) = nW M r x + b := by
  unfold nW
  rw [show x + b * M + (M - 1 - r) = x + (M - 1 - r) + b * M by omega, Nat.add_mul_div_right _ _ hM]
theorem nW_mono {M r x y : Nat} (h : x ≤ y) : nW M r x ≤ nW M r y := Nat.div_le_div_right (by omega)
/-! ### the rows of a cell -/
def pr (c : Int × Int × Int) (p : Nat) : Int × Int := (c.1 + (p : Int) % many c, (p : Int) / many c)
theorem crows_pair (c : Int × Int × Int) : ∀ (W : List Job) (p : Nat), (crows c W p).map (fun r => (r.1, r.2.1)) = (List.range' p W.length).map (pr c)
  | [], _ => rfl
  | j :: W, p => by
    show (c.1 + (p : Int) % many c, (p : Int) / many c) :: (crows c W (p + 1)).map _ = _
    rw [crows_pair c W (p + 1), List.length_cons, List.range'_succ, List.map_cons]; rfl
theorem pr_inj {c : Int × Int × Int} (hm : 1 ≤ many c) {p q : Nat} (h : pr c p = pr c q) : p = q := by
  injection h with h1 h2
  have e1 := Int.mul_ediv_add_emod (p : Int) (many c)
  have e2 := Int.mul_ediv_add_emod (q : Int) (many c)
  have h1 : (p : Int) % many c = (q : Int) % many c := by omega
  rw [h1, h2] at e1
  omega
theorem crows_nodup {c : Int × Int × Int} (hm : 1 ≤ many c) (W : List Job) (p : Nat) : ((crows c W p).map fun r => (r.1, r.2.1)).Nodup := by
  rw [crows_pair]
  exact List.Pairwise.map _ (fun a b h e => h (pr_inj hm e)) List.nodup_range'
theorem crows_mem {c : Int × Int × Int} {r : Row} : ∀ {W : List Job} {p : Nat}, r ∈ crows c W p → ∃ (q : Nat) (j : Job), j ∈ W ∧ p ≤ q ∧ q < p + W.length ∧ r = crow c q j
  | [], _, h => by cases h
  | j :: W, p, h => by
    rcases List.mem_cons.mp h with h | h
    · exact ⟨p, j, List.mem_cons_self, Nat.le_refl _, by rw [List.length_cons]; omega, h⟩
    · obtain ⟨q, j', h1, h2, h3, h4⟩ := crows_mem h
      exact ⟨q, j', List.mem_cons_of_mem _ h1, by omega, by rw [List.length_cons]; omega, h4⟩
theorem crow_bounds {c : Int × Int × Int} (hm : 1 ≤ many c) {q : Nat} {j : Job} : c.1 ≤ (crow c q j).1 ∧ (crow c q j).1 ≤ c.2.1 ∧ 0 ≤ (crow c q j).2.1 := by
  have h1 := Int.emod_nonneg (q : Int) (show many c ≠ 0 by omega)
  have h2 := Int.emod_lt_of_pos (q : Int) (show 0 < many c by omega)
  have h3 : 0 ≤ (q : Int) / many c := Int.ediv_nonneg (Int.natCast_nonneg q) (by omega)
  have hd : many c = c.2.1 - c.1 + 1 := rfl
  refine ⟨?_, ?_, h3⟩
  · show c.1 ≤ c.1 + (q : Int) % many c
    omega
  · show c.1 + (q : Int) % many c ≤ c.2.1
    omega
theorem count_name (c : Int × Int × Int) (n : Str) : ∀ (W : List Job) (p : Nat), cnt1 (crows c W p) n = W.countP fun j => decide (j.nm = n)
  | [], _ => rfl
  | j :: W, p => by
    have ih := count_name c n W (p + 1)
    unfold cnt1 at ih ⊢
    show (crow c p j :: crows c W (p + 1)).countP _ = _
    rw [List.countP_cons, List.countP_cons, ih]; rfl
theorem cnt2_le (rows : List Row) (n : Str) (t : Int) : cnt2 rows n t ≤ cnt1 rows n := by
  unfold cnt2 cnt1
  refine List.countP_mono_left fun r _ h => ?_
  exact decide_eq_true (of_decide_eq_true h).1
theorem cnt2_append (a b : List Row) (n : Str) (t : Int) : cnt2 (a ++ b) n t = cnt2 a n t + cnt2 b n t := by unfold cnt2; rw [List.countP_append]
theorem cnt1_append (a b : List Row) (n : Str) : cnt1 (a ++ b) n = cnt1 a n + cnt1 b n := by unfold cnt1; rw [List.countP_append]
theorem count_block {c : Int × Int × Int} {M r : Nat} (hM : many c = (M : Int)) (hr : r < M) {n : Str} {t : Int} (ht : t = c.1 + (r : Int)) (j : Job) : ∀ (k p : Nat), nW M r p + cnt2 (crows c (List.replicate k j) p) n t ≤ nW M r (p + k)
  | 0, p => Nat.le_refl _
  | k + 1, p => by
    have ih := count_block hM hr ht j (n := n) k (p + 1)
    rw [nW_succ hr, show p + 1 + k = p + (k + 1) by omega] at ih
    have e : cnt2 (crows c (List.replicate (k + 1) j) p) n t = cnt2 [crow c p j] n t + cnt2 (crows c (List.replicate k j) (p + 1)) n t := by
      rw [List.replicate_succ]
      exact cnt2_append [crow c p j] (crows c (List.replicate k j) (p + 1)) n t
    have e1 : cnt2 [crow c p j] n t ≤ if p % M = r then 1 else 0 := by
      unfold cnt2
      rw [List.countP_singleton]
      by_cases h : p % M = r
      · rw [if_pos h]; split <;> omega
      · rw [if_neg h, if_neg]
        · exact Nat.le_refl _
        · intro hd
          have hd := (of_decide_eq_true hd).2
          have hd : c.1 + (p : Int) % many c = t := hd
          rw [hM, ht] at hd
          have : ((p % M : Nat) : Int) = (r : Int) := by rw [Int.natCast_emod]; omega
          exact h (by omega)
    omega
theorem count_block_le {c : Int × Int × Int} (hm : 1 ≤ many c) {n : Str} {t : Int} (j : Job) {k p B : Nat} (hk : (k : Int) ≤ (B : Int) * many c) : cnt2 (crows c (List.replicate k j) p) n t ≤ B := by
  obtain ⟨M, hM⟩ : ∃ M : Nat, many c = (M : Int) := ⟨(many c).toNat, by omega⟩
  by_cases hin : c.1 ≤ t ∧ t - c.1 < many c
  · have hr : (t - c.1).toNat < M := by omega
    have h1 := count_block (r := (t - c.1).toNat) hM hr (n := n) (t := t) (by omega) j k p
    have hk2 : k ≤ B * M := by
      rw [hM] at hk
      have : ((B * M : Nat) : Int) = (B : Int) * (M : Int) := Int.natCast_mul B M
      omega
    have h2 := nW_mono (M := M) (r := (t - c.1).toNat) (show p + k ≤ p + B * M by omega)
    rw [nW_add (by omega)] at h2
    omega
  · have : cnt2 (crows c (List.replicate k j) p) n t = 0 := by
      unfold cnt2
      rw [List.countP_eq_zero]
      intro r hr hd
      obtain ⟨q, j', _, _, _, rfl⟩ := crows_mem hr
      have b := crow_bounds hm (q := q) (j := j')
      have hd := (of_decide_eq_true hd).2
      have hd2 : many c = c.2.1 - c.1 + 1 := rfl
      omega
    omega
/-! ### the jobs of a cell -/
def whoN (js : List Job) (sh : Nat → Int) : List Job := (List.range js.length).flatMap fun j => List.replicate (sh j).toNat (jg js j)
theorem who_eq (js : List Job) (sh : Nat → Int) : who js ((List.range js.length).map fun j => sh j) = whoN js sh := by
  unfold who whoN
  have e : js.zip ((List.range js.length).map fun j => sh j) = (List.range js.length).map fun j => (jg js j, sh j) := by
    conv => lhs; rw [js_range js]
    rw [List.length_map, List.length_range]
    exact List.zip_map'
  rw [e, List.flatMap_map]
theorem jg_inj {js : List Job} (h : (js.map (·.nm)).Nodup) {i j : Nat} (hi : i < js.length) (hj : j < js.length) (e : (jg js i).nm = (jg js j).nm) : i = j := by
  have nd := List.pairwise_iff_getElem.mp h
  have e1 := List.getElem?_eq_some_iff.mp (jg_of hi)
  have e2 := List.getElem?_eq_some_iff.mp (jg_of hj)
  rcases Nat.lt_trichotomy i j with k | k | k
  · exact absurd (by rw [List.getElem_map, List.getElem_map, e1.2, e2.2, e]) (nd i j (by simpa using hi) (by simpa using hj) k)
  · exact k
  · exact absurd (by rw [List.getElem_map, List.getElem_map, e1.2, e2.2, e]) (nd j i (by simpa using hj) (by simpa using hi) k)
theorem count_jobs (js : List Job) (sh : Nat → Int) (hn : (js.map (·.nm)).Nodup) {i : Nat} (hi : i < js.length) : ∀ (l : List Nat), l.Nodup → (∀ j ∈ l, j < js.length) → (l.flatMap fun j => List.replicate (sh j).toNat (jg js j)).countP (fun j => decide (j.nm = (jg js i).nm)) = if i ∈ l then (sh i).toNat else 0
  | [], _, _ => rfl
  | j :: r, hl, hm => by
    obtain ⟨h1, h2⟩ := List.nodup_cons.mp hl
    have ih := count_jobs js sh hn hi r h2 fun x hx => hm x (List.mem_cons_of_mem _ hx)
    have hj := hm j List.mem_cons_self
    rw [List.flatMap_cons, List.countP_append, ih, List.countP_replicate]
    by_cases e : j = i
    · subst e
      rw [if_pos (decide_eq_true rfl), if_neg h1, if_pos List.mem_cons_self, Nat.add_zero]
    · have hne : ¬ (jg js j).nm = (jg js i).nm := fun z => e (jg_inj hn hj hi z)
      rw [if_neg (by simpa using hne), Nat.zero_add]
      by_cases q : i ∈ r
      · rw [if_pos q, if_pos (List.mem_cons_of_mem _ q)]
      · rw [if_neg q, if_neg]
        intro z
        rcases List.mem_cons.mp z with z | z
        · exact e z.symm
        · exact q z
theorem cell_name {js : List Job} {sh : Nat → Int} (hn : (js.map (·.nm)).Nodup) {i : Nat} (hi : i < js.length) (c : Int × Int × Int) : cnt1 (crows c (whoN js sh) 0) (jg js i).nm = (sh i).toNat := by
  rw [count_name]
  unfold whoN
  rw [count_jobs js sh hn hi _ List.nodup_range fun j hj => List.mem_range.mp hj, if_pos (List.mem_range.mpr hi)]
theorem cell_turn {js : List Job} {sh : Nat → Int} (hn : (js.map (·.nm)).Nodup) {i : Nat} (hi : i < js.length) {c : Int × Int × Int} (hm : 1 ≤ many c) {B : Nat} (hB : sh i ≤ (B : Int) * many c) (t : Int) : ∀ (l : List Nat) (p : Nat), l.Nodup → (∀ j ∈ l, j < js.length) →
    cnt2 (crows c (l.flatMap fun j => List.replicate (sh j).toNat (jg js j)) p) (jg js i).nm t ≤ B
  | [], _, _, _ => Nat.zero_le _
  | j :: r, p, hl, hm2 => by
    obtain ⟨h1, h2⟩ := List.nodup_cons.mp hl
    have hj := hm2 j List.mem_cons_self
    have hr : ∀ x ∈ r, x < js.length := fun x hx => hm2 x (List.mem_cons_of_mem _ hx)
    rw [List.flatMap_cons, crows_append, cnt2_append]
    by_cases e : j = i
    · subst e
      have z := count_jobs js sh hn hi r h2 hr
      rw [if_neg h1, ← count_name c _ _ (p + (List.replicate (sh j).toNat (jg js j)).length)] at z
      have z2 := cnt2_le (crows c (r.flatMap fun j => List.replicate (sh j).toNat (jg js j)) (p + (List.replicate (sh j).toNat (jg js j)).length)) (jg js j).nm t
      have hk : (((sh j).toNat : Nat) : Int) ≤ (B : Int) * many c := by
        have : 0 ≤ (B : Int) * many c := Int.mul_nonneg (Int.natCast_nonneg B) (by omega)
        omega
      have z3 := count_block_le hm (n := (jg js j).nm) (t := t) (jg js j) (p := p) hk
      omega
    · have hne : ¬ (jg js j).nm = (jg js i).nm := fun z => e (jg_inj hn hj hi z)
      have z0 : cnt2 (crows c (List.replicate (sh j).toNat (jg js j)) p) (jg js i).nm t = 0 := by
        have := cnt2_le (crows c (List.replicate (sh j).toNat (jg js j)) p) (jg js i).nm t
        rw [count_name, List.countP_replicate, if_neg (by simpa using hne)] at this
        omega
      rw [z0, Nat.zero_add]
      exact cell_turn hn hi hm hB t r _ h2 hr
theorem whoN_len (js : List Job) (sh : Nat → Int) (h0 : ∀ j, j < js.length → 0 ≤ sh j) : (((whoN js sh).length : Nat) : Int) = sm js.length sh := by
  unfold whoN
  rw [List.length_flatMap]
  have e : ∀ n, n ≤ js.length → ((((List.range n).map fun j => (List.replicate (sh j).toNat (jg js j)).length).sum : Nat) : Int) = sm n sh := by
    intro n
    induction n with
    | zero => intro _; rfl
    | succ n ih =>
      intro hn
      have ih := ih (by omega)
      have := h0 n (by omega)
      rw [List.range_succ, List.map_append, List.sum_append]
      show ((_ : Nat) : Int) = sm n sh + sh n
      simp only [List.map_cons, List.map_nil, List.sum_cons, List.sum_nil, List.length_replicate]
      simp only [List.length_replicate] at ih
      omega
  exact e _ (Nat.le_refl _)
theorem whoN_mem {js : List Job} {sh : Nat → Int} {j : Job} (h : j ∈ whoN js sh) : ∃ i, i < js.length ∧ j = jg js i ∧ 0 < sh i := by
  unfold whoN at h
  obtain ⟨i, hi, hj⟩ := List.mem_flatMap.mp h
  obtain ⟨h1, h2⟩ := List.mem_replicate.mp hj
  exact ⟨i, List.mem_range.mp hi, h2, by omega⟩
/-! ### the whole plan -/
def cellR (js : List Job) (cs : List (Int × Int × Int)) (sh : Nat → Nat → Int) (c : Nat) : List Row := crows (cg cs c) (whoN js fun j => sh j c) 0
theorem planRows_eq (js : List Job) (cs : List (Int × Int × Int)) (sh : Nat → Nat → Int) : planRows js cs sh = (List.range cs.length).flatMap (cellR js cs sh) := by
  unfold planRows cellR cellRows
  congr 1
  funext c
  rw [who_eq js fun j => sh j c]
theorem cnt1_flat (n : Str) (f : Nat → List Row) : ∀ (m : Nat), ((cnt1 ((List.range m).flatMap f) n : Nat) : Int) = sm m fun c => ((cnt1 (f c) n : Nat) : Int)
  | 0 => rfl
  | m + 1 => by
    rw [List.range_succ, List.flatMap_append, cnt1_append]
    show _ = sm m (fun c => ((cnt1 (f c) n : Nat) : Int)) + ((cnt1 (f m) n : Nat) : Int)
    rw [← cnt1_flat n f m]
    simp
theorem cnt2_flat (n : Str) (t : Int) (f : Nat → List Row) {B : Nat} : ∀ (l : List Nat), l.Pairwise (fun a b => cnt2 (f a) n t = 0 ∨ cnt2 (f b) n t = 0) → (∀ a ∈ l, cnt2 (f a) n t ≤ B) → cnt2 (l.flatMap f) n t ≤ B
  | [], _, _ => Nat.zero_le _
  | a :: r, hp, hb => by
    obtain ⟨h1, h2⟩ := List.pairwise_cons.mp hp
    rw [List.flatMap_cons, cnt2_append]
    have ih := cnt2_flat n t f r h2 fun x hx => hb x (List.mem_cons_of_mem _ hx)
    by_cases e : cnt2 (f a) n t = 0
    · omega
    · have z : ∀ (l : List Nat), (∀ b ∈ l, cnt2 (f b) n t = 0) → cnt2 (l.flatMap f) n t = 0 := by
        intro l
        induction l with
        | nil => exact fun _ => rfl
        | cons b l ih =>
          intro h
          rw [List.flatMap_cons, cnt2_append, h b List.mem_cons_self, ih fun x hx => h x (List.mem_cons_of_mem _ hx)]
      have := z r fun b hb2 => (h1 b hb2).resolve_left e
      have := hb a List.mem_cons_self
      omega
structure PlanN (js : List Job) (ss : List (Int × Int)) (rest : Int) (rows : List Row) (wa : Nat → Int) : Prop where
  plan : PlanOk js (calAt ss rest) rows
  rise : rows.Pairwise fun r s => r.1 < s.1 ∨ (r.1 = s.1 ∧ r.2.1 < s.2.1)
  t0 : ∀ r ∈ rows, 0 ≤ r.1
  cnt : ∀ j, j < js.length → (jg js j).wk - ((cnt1 rows (jg js j).nm : Nat) : Int) = wa j
theorem plan_ok {js : List Job} {ss : List (Int × Int)} {rest : Int} {cs : List (Int × Int × Int)} (CO : CalOk ss rest) (LO : LoadOk js) (K : CellsOk js ss rest cs) {S : FS} (F : Feas (inst js cs) S) {rows : List Row} (hp : rows.Perm (planRows js cs S.sh)) (hs : rows.Pairwise leR) : PlanN js ss rest rows S.wa := by
  rw [planRows_eq] at hp
  have hmany : ∀ c, c < cs.length → 1 ≤ many (cg cs c) := fun c hc => by
    have := K.le _ (cg_mem hc)
    show 1 ≤ (cg cs c).2.1 - (cg cs c).1 + 1
    omega
  have hmem : ∀ r ∈ rows, ∃ c, c < cs.length ∧ ∃ (q i : Nat), i < js.length ∧ 0 < S.sh i c ∧ (q : Int) < (inst js cs).cp c ∧ r = crow (cg cs c) q (jg js i) := fun r hr => by
    obtain ⟨c, hc, h⟩ := List.mem_flatMap.mp (hp.mem_iff.mp hr)
    have hc := List.mem_range.mp hc
    obtain ⟨q, j, hj, _, hq, e⟩ := crows_mem h
    obtain ⟨i, hi, rfl, hs⟩ := whoN_mem hj
    have h1 := whoN_len js (fun j => S.sh j c) fun j hj => F.sh0 j hj c hc
    have h2 := F.col c hc
    have h3 := F.sp0 c hc
    have h2 : sm js.length (fun j => S.sh j c) + S.sp c = (inst js cs).cp c := h2
    exact ⟨c, hc, q, i, hi, hs, by omega, e⟩
  have hnd : (rows.map fun r => (r.1, r.2.1)).Nodup := by
    refine ((hp.map fun r => (r.1, r.2.1)).nodup_iff).mpr ?_
    rw [List.map_flatMap]
    refine List.pairwise_flatMap.mpr ⟨fun c hc => crows_nodup (hmany c (List.mem_range.mp hc)) _ _, ?_⟩
    refine List.Pairwise.imp_of_mem (fun {a b} ha hb hab x hx y hy e => ?_) (List.pairwise_lt_range (n := cs.length))
    have ha := List.mem_range.mp ha
    have hb := List.mem_range.mp hb
    obtain ⟨r1, hr1, rfl⟩ := List.mem_map.mp hx
    obtain ⟨r2, hr2, rfl⟩ := List.mem_map.mp hy
    obtain ⟨q1, j1, _, _, _, rfl⟩ := crows_mem hr1
    obtain ⟨q2, j2, _, _, _, rfl⟩ := crows_mem hr2
    have b1 := crow_bounds (hmany a ha) (q := q1) (j := j1)
    have b2 := crow_bounds (hmany b hb) (q := q2) (j := j2)
    have := cg_rise K.rise hab hb
    injection e with e1 e2
    omega
  have hcnt : ∀ j, j < js.length → (jg js j).wk - ((cnt1 rows (jg js j).nm : Nat) : Int) = S.wa j := fun j hj => by
    have e1 : cnt1 rows (jg js j).nm = cnt1 ((List.range cs.length).flatMap (cellR js cs S.sh)) (jg js j).nm := by
      unfold cnt1
      exact hp.countP_eq _
    rw [e1, cnt1_flat]
    have e2 : (sm cs.length fun c => ((cnt1 (cellR js cs S.sh c) (jg js j).nm : Nat) : Int)) = sm cs.length (S.sh j) := sm_congr fun c hc => by
      unfold cellR
      rw [cell_name LO.nd hj]
      have := F.sh0 j hj c hc
      omega
    rw [e2]
    have := F.row j hj
    have : sm cs.length (S.sh j) + S.wa j = (jg js j).wk := this
    omega
  refine ⟨⟨fun r hr => ?_, hnd, fun j0 hj0 t => ?_, fun j0 hj0 => ?_, ?_⟩, ?_, fun r hr => ?_, hcnt⟩
  · obtain ⟨c, hc, q, i, hi, hs, hq, rfl⟩ := hmem r hr
    have b := crow_bounds (hmany c hc) (q := q) (j := jg js i)
    have hrm := roomOf_mem.mp (F.shr i hi c hc hs)
    refine ⟨jg js i, jg_mem hi, rfl, by omega, by omega, b.2.2, ?_⟩
    rw [calAt_eq, mach_flat rest b.1 (fun x hx hh => K.flat _ (cg_mem hc) x hx ⟨hh.1, by omega⟩), ← K.k _ (cg_mem hc)]
    show (q : Int) / many (cg cs c) < (cg cs c).2.2
    refine Int.ediv_lt_of_lt_mul (by have := hmany c hc; omega) ?_
    exact hq
  · obtain ⟨j, hj, rfl⟩ : ∃ j, j < js.length ∧ j0 = jg js j := by
      obtain ⟨i, hi⟩ := List.getElem?_of_mem hj0
      have hl := (List.getElem?_eq_some_iff.mp hi).1
      have := jg_of hl
      rw [hi] at this
      exact ⟨i, hl, Option.some.inj this⟩
    have hb := (LO.num _ hj0).b0
    obtain ⟨B, hB⟩ : ∃ B : Nat, (jg js j).br = (B : Int) := ⟨((jg js j).br).toNat, by omega⟩
    rw [hB]
    have e1 : (rows.countP fun r => decide (r.2.2 = (jg js j).nm ∧ r.1 = t)) = cnt2 ((List.range cs.length).flatMap (cellR js cs S.sh)) (jg js j).nm t := hp.countP_eq _
    rw [e1]
    have z := cnt2_flat (jg js j).nm t (cellR js cs S.sh) (B := B) (List.range cs.length) ?_ ?_
    · exact Int.ofNat_le.mpr z
    · refine List.Pairwise.imp_of_mem (fun {a b} ha hb hab => ?_) (List.pairwise_lt_range (n := cs.length))
      have ha := List.mem_range.mp ha
      have hb := List.mem_range.mp hb
      by_cases h : t ≤ (cg cs a).2.1
      · right
        unfold cnt2
        rw [List.countP_eq_zero]
        intro r hr hd
        obtain ⟨q, j', _, _, _, rfl⟩ := crows_mem hr
        have b := crow_bounds (hmany b hb) (q := q) (j := j')
        have := (of_decide_eq_true hd).2
        have := cg_rise K.rise hab hb
        omega
      · left
        unfold cnt2
        rw [List.countP_eq_zero]
        intro r hr hd
        obtain ⟨q, j', _, _, _, rfl⟩ := crows_mem hr
        have b := crow_bounds (hmany a ha) (q := q) (j := j')
        have := (of_decide_eq_true hd).2
        omega
    · intro c hc
      have hc := List.mem_range.mp hc
      have hsm := F.shm j hj c hc
      have hsm : S.sh j c ≤ (jg js j).br * ((cg cs c).2.1 - (cg cs c).1 + 1) := hsm
      rw [hB] at hsm
      exact cell_turn (sh := fun j => S.sh j c) LO.nd hj (hmany c hc) hsm t _ 0 List.nodup_range fun j hj => List.mem_range.mp hj
  · obtain ⟨j, hj, rfl⟩ : ∃ j, j < js.length ∧ j0 = jg js j := by
      obtain ⟨i, hi⟩ := List.getElem?_of_mem hj0
      have hl := (List.getElem?_eq_some_iff.mp hi).1
      have := jg_of hl
      rw [hi] at this
      exact ⟨i, hl, Option.some.inj this⟩
    have := hcnt j hj
    have := F.wa0 j hj
    show ((cnt1 rows (jg js j).nm : Nat) : Int) ≤ _
    omega
  · have hl : rows.length = ((List.range cs.length).flatMap (cellR js cs S.sh)).length := hp.length_eq
    rw [hl, List.length_flatMap]
    have hb : ∀ c, c < cs.length → (cellR js cs S.sh c).length ≤ 720 := fun c hc => by
      unfold cellR
      rw [crows_len]
      have h1 := whoN_len js (fun j => S.sh j c) fun j hj => F.sh0 j hj c hc
      have h2 : sm js.length (fun j => S.sh j c) ≤ sm js.length fun _ => 60 := sm_le fun j hj => by
        have hr := F.row j hj
        have hr : sm cs.length (S.sh j) + S.wa j = (jg js j).wk := hr
        have hw := F.wa0 j hj
        have hk := (LO.num _ (jg_mem (js := js) hj)).w1
        have := sm_ge_one (f := S.sh j) (n := cs.length) (fun i hi => F.sh0 j hj i hi) hc
        omega
      have h3 : ∀ n, sm n (fun _ => (60 : Int)) = 60 * (n : Int) := by
        intro n
        induction n with
        | zero => rfl
        | succ n ih => show sm n (fun _ => (60 : Int)) + 60 = _; rw [ih]; omega
      have h4 := LO.len
      rw [h3] at h2
      omega
    have hs2 : ∀ n, n ≤ cs.length → ((List.range n).map fun a => (cellR js cs S.sh a).length).sum ≤ n * 720 := by
      intro n
      induction n with
      | zero => intro _; exact Nat.le_refl _
      | succ n ih =>
        intro hn
        have := ih (by omega)
        have := hb n (by omega)
        rw [List.range_succ, List.map_append, List.sum_append]
        simp only [List.map_cons, List.map_nil, List.sum_cons, List.sum_nil]
        omega
    have := hs2 _ (Nat.le_refl _)
    have := K.len
    omega
  · have h2 := List.pairwise_map.mp hnd
    refine (List.pairwise_and_iff.mpr ⟨hs, h2⟩).imp fun {x y} h => ?_
    obtain ⟨h1, h2⟩ := h
    rcases h1 with h | ⟨h, h'⟩
    · exact .inl h
    · right
      refine ⟨h, ?_⟩
      have : x.2.1 ≠ y.2.1 := fun e => h2 (by rw [h, e])
      omega
  · obtain ⟨c, hc, q, i, hi, hs, hq, rfl⟩ := hmem r hr
    have b := crow_bounds (hmany c hc) (q := q) (j := jg js i)
    have := K.le _ (cg_mem hc)
    omega
theorem und_sum {js : List Job} {ss : List (Int × Int)} {rest : Int} {rows : List Row} {wa : Nat → Int} (N : PlanN js ss rest rows wa) (h0 : ∀ j, j < js.length → 0 ≤ wa j) : (js.map fun j => und j rows).sum = sm js.length wa := by
  rw [js_sum]
  refine sm_congr fun j hj => ?_
  have := N.cnt j hj
  have := h0 j hj
  unfold und
  omega
end Due

set_option Elab.async false
set_option linter.all false
set_option maxRecDepth 100000
set_option maxHeartbeats 4000000
namespace Due
open PySem PySem.Spec PyProof.Rows L2
local macro_rules | `(tactic| walk_at "v") => `(tactic| ((with_reducible refine' w_var ?hv ?_); (case hv => exact rfl)))
local macro_rules | `(tactic| walk_at "go1") => `(tactic| first
  | with_reducible refine' w_seq ?_ | with_reducible refine' w_asg ?_ | with_reducible refine' w_name ?_ | with_reducible refine' w_ret ?_ | with_reducible refine' w_drop ?_ | with_reducible refine' w_ifs ?_ | with_reducible refine' w_next ?_ | with_reducible refine' w_retN ?_ | with_reducible refine' w_cont ?_
  | ((with_reducible refine' w_var ?hv ?_); (case hv => exact rfl)) | with_reducible refine' w_c ?_ | with_reducible refine' w_op ?_ | with_reducible refine' w_un ?_ | with_reducible refine' w_I0 ?_ | with_reducible refine' w_U ?_ | with_reducible refine' w_cmp ?_
  | ((with_reducible refine' w_eq ?hv ?_); (case hv => exact rfl)) | ((with_reducible refine' w_ne ?hv ?_); (case hv => exact rfl))
  | with_reducible refine' iteT ?_ | with_reducible refine' iteF ?_ | with_reducible refine' iteNT ?_ | with_reducible refine' iteNF ?_ | with_reducible refine' w_chain3 ?_ | with_reducible refine' w_augS ?_ | with_reducible refine' w_gsub ?_
  | with_reducible refine' w_sl ?_ | with_reducible refine' w_noPart ?_ | with_reducible refine' w_part ?_ | with_reducible refine' w_rPart ?_ | with_reducible refine' w_iZip ?_ | with_reducible refine' w_iEnum ?_ | with_reducible refine' w_iRng ?_
  | with_reducible refine' w_dget ?_ | with_reducible refine' w_dget2 ?_ | with_reducible refine' w_din ?_ | with_reducible refine' w_dnotin ?_ | with_reducible refine' w_dput ?_
  | with_reducible refine' w_isN ?_ | with_reducible refine' w_notN ?_ | with_reducible refine' w_rBl ?_ | with_reducible refine' w_B ?_ | with_reducible refine' w_test ?_ | with_reducible refine' w_and ?_ | with_reducible refine' w_or ?_ | with_reducible refine' w_not ?_
  | with_reducible refine' w_andV ?_ | with_reducible refine' w_orV ?_ | with_reducible refine' w_notV ?_ | with_reducible refine' w_chain ?_ | with_reducible refine' w_fld ?_ | with_reducible refine' w_sfld ?_ | with_reducible refine' w_nil ?_ | with_reducible refine' w_cons ?_
  | with_reducible refine' w_call ?_ | with_reducible refine' w_meth ?_ | with_reducible refine' w_make ?_ | with_reducible refine' w_CB ?_ | with_reducible refine' w_BM0 ?_ | with_reducible refine' w_BM ?_ | with_reducible refine' w_tup ?_ | with_reducible refine' w_lst ?_
  | with_reducible refine' w_for ?_ | with_reducible refine' w_iList ?_ | with_reducible refine' w_iTup ?_ | with_reducible refine' w_lc ?_ | with_reducible refine' w_yes ?_ | with_reducible refine' w_max2 ?_ | with_reducible refine' w_min2 ?_ | with_reducible refine' w_ipI ?_ | with_reducible refine' w_gcons ?_ | with_reducible refine' w_gnil ?_
  | ((with_reducible refine' w_aug ?hv ?_); (case hv => exact rfl))
  | ((with_reducible refine' w_gtup ?hv ?hn ?_); (case hv => assumption); (case hn => exact rfl))
  | ((with_reducible refine' w_ixT ?hv ?ha ?_); (case hv => assumption); (case ha => exact rfl))
  | ((with_reducible refine' w_newT ?hv ?_); (case hv => exact Nat.le_of_ble_eq_true rfl))
  | ((with_reducible refine' w_newL ?hv ?_); (case hv => exact Nat.le_of_ble_eq_true rfl)))
local macro_rules | `(tactic| walk_at "go") => `(tactic| repeat' walk_at "go1")
section
variable {P : Program} {w : World} {K : PySem.W.Frag} {mg : Str → Option Value} {base : Heap}
/-! ### settled -/
def KeptR (K : PySem.W.Frag) (H0 H : Hp) (v c : Addr) (js : List Job) (ss : List (Int × Int)) (rest : Int) : Prop := ∃ (dx ld pl : Addr) (ps qs : List Addr) (rows : List Row) (wa : Nat → Int), H v = some (.ins (He.ga K "Kept") dx (fl_Kept (.ref ld) (.ref c) (.ref pl))) ∧
  (H0 v = none ∧ H0 ld = none ∧ H0 pl = none ∧ ld ≠ pl) ∧ VAt K H ld c pl ps qs js ss rest rows ∧ PlanN js ss rest rows wa ∧ (∀ j, j < js.length → 0 ≤ wa j) ∧ sm js.length wa = 0
def FullR (K : PySem.W.Frag) (H0 H : Hp) (v c : Addr) (js : List Job) (ss : List (Int × Int)) (rest : Int) : Prop := ∃ (dx ld pl sl nl : Addr) (ps qs us : List Addr) (rows : List Row) (wa : Nat → Int) (sp : List (Int × Int)), H v = some (.ins (He.ga K "Full") dx (fl_Full (.ref ld) (.ref c) (.ref pl) (.int (sm js.length wa)) (.ref sl) (.ref nl))) ∧
  (H0 v = none ∧ H0 ld = none ∧ H0 pl = none ∧ H0 sl = none ∧ H0 nl = none ∧ [ld, pl, sl, nl].Nodup) ∧ VAt K H ld c pl ps qs js ss rest rows ∧ PlanN js ss rest rows wa ∧ (∀ j, j < js.length → 0 ≤ wa j) ∧ 1 ≤ sm js.length wa ∧
  LT H sl us (sp.map spanV) ∧ MgOk sp ∧ (∀ p ∈ sp, 0 ≤ p.1) ∧ sp.length ≤ 1000 ∧ (js.map fun j => exc j sp).sum - (sp.map fun p => over ss rest p.1 p.2).sum = sm js.length wa ∧ H nl = some (.lst ((crowdedL js sp).map V.str))
theorem feas_le60 {js : List Job} {cs : List (Int × Int × Int)} {S : FS} (LO : LoadOk js) (F : Feas (inst js cs) S) {j c : Nat} (hj : j < js.length) (hc : c < cs.length) : 0 ≤ S.sh j c ∧ S.sh j c ≤ 60 := by
  have h0 := F.sh0 j hj c hc
  have hr := F.row j hj
  have hr : sm cs.length (S.sh j) + S.wa j = (jg js j).wk := hr
  have hw := F.wa0 j hj
  have hk := (LO.num _ (jg_mem (js := js) hj)).w1
  have := sm_ge_one (f := S.sh j) (n := cs.length) (fun i hi => F.sh0 j hj i hi) hc
  exact ⟨h0, by omega⟩
def sp_settled : Sp := fun vs H Q _ => ∃ (a c : Addr) (ps : List Addr) (js : List Job) (ss : List (Int × Int)) (rest : Int), vs = [.ref a, .ref c] ∧ LT H a ps (js.map jobV) ∧ LoadOk js ∧ CalAt K H c ss rest ∧ CalOk ss rest ∧ (∀ j ∈ js, j.la - j.fi < 536870912) ∧
  ∀ (H' : Hp) (v : Addr), Same H H' → (KeptR K H H' v c js ss rest ∨ FullR K H H' v c js ss rest) → Q (.ref v) H'
-- slots: 0 load, 1 calendar, 2 flow, 3 shares, 4 job, 5 plan, 6 spans, 7 cell
theorem sc_settled : FnScope ["load", "calendar", "flow", "shares", "job", "plan", "spans", "cell"] ["load", "calendar"] (defScope s_settled) := ⟨rfl, rfl, rfl, by decide +kernel, rfl, by decide +kernel, by decide +kernel⟩
theorem cd_settled (T : Tx K mg) : ∃ fd, Cd P w K mg base 8 (He.ga K "settled") ["load", "calendar"] (sp_settled (K := K)) fd := by
  obtain ⟨fd, F⟩ := T.F_settled
  obtain ⟨_, K_Flow_cut⟩ := cd_Flow_cut (P := P) (w := w) (base := base) T
  obtain ⟨_, K_Flow_init⟩ := cd_Flow_init (P := P) (w := w) (base := base) T
  obtain ⟨_, K_Flow_lacking⟩ := cd_Flow_lacking (P := P) (w := w) (base := base) T
  obtain ⟨_, K_Flow_share⟩ := cd_Flow_share (P := P) (w := w) (base := base) T
  obtain ⟨_, K_Full_init⟩ := cd_Full_init (P := P) (w := w) (base := base) T
  obtain ⟨_, K_Kept_init⟩ := cd_Kept_init (P := P) (w := w) (base := base) T
  obtain ⟨_, K_crowded⟩ := cd_crowded (P := P) (w := w) (base := base) T
  obtain ⟨_, K_laid⟩ := cd_laid (P := P) (w := w) (base := base) T
  obtain ⟨_, K_tidy⟩ := cd_tidy (P := P) (w := w) (base := base) T
  refine ⟨fd, F.ok sc_settled (fun vs H Q E h => ?_) (fun cdv A outer s H vs Q E hr h => ?_), FunD.bindsN F (fun _ _ _ _ _ _ us hl => match us, hl with | [_, _], _ => rfl), F.kp⟩
  · obtain ⟨a, c, ps, js, ss, rest, rfl, _⟩ := h
    rfl
  · obtain ⟨a, c, ps, js, ss, rest, rfl, L, O, C, CO, hw, q⟩ := h
    refine ⟨_, PSs.nox (pss_cons (ps_set (i := 2) sc_settled.nd rfl (Or.inr rfl) (pe_make T.k_Flow K_Flow_init.ok (hr.mono (by decide)) (by rfl) T.g_Flow K_Flow_init.bn .nil pass0 (pa_cons (pv 0) (pa_cons (pv 1) pa_nil))))
      (pss_cons (ps_set (i := 3) sc_settled.nd rfl (Or.inl rfl) (pe_lst pa_nil))
      (pss_cons (ps_for PassesOwn.never rfl (pi_range1 rfl T.b_range (pa_cons (pe_callB c_len (by rfl) T.b_len (by decide +kernel) (pa_cons (pe_fld (pv 2) rfl) pa_nil)) pa_nil)) (pg_name (i := 4) sc_settled.nd rfl (Or.inr rfl)) (pss_one (ps_expr (pe_bm PySem.F.plainAttrs_list PySem.F.slot_list_append PySem.F.type_list_append mt_append (pv 3) (pa_cons (pe_lc (own := [("cell", 7)]) (g := (gName 7)) (tt := tYes) (te := (tMeth (He.ga K "Flow") "share" _ [] E0 (tVar 2) (tCons (tVar 4) (tCons (tVar 7) tNil)))) (by rfl) sc_settled.nd (pi_range1 rfl T.b_range (pa_cons (pe_callB c_len (by rfl) T.b_len (by decide +kernel) (pa_cons (pe_fld (pv 2) rfl) pa_nil)) pa_nil)) (blkOk_by (N := ["load", "calendar", "flow", "shares", "job", "plan", "spans", "cell"]) (sc := defScope s_settled) (by decide +kernel)) (fun _ _ _ _ _ => (pg_name (i := 7) sc_settled.nd rfl (Or.inl rfl))) (fun _ _ _ _ _ => pts_nil) (fun _ _ _ _ _ => (pe_meth (pv 2) T.c_Flow T.m_Flow_share K_Flow_share.ok (hr.mono (by decide)) K_Flow_share.bn .nil pass0 (pa_cons (pv 4) (pa_cons (pv 7) pa_nil))))) pa_nil)))))
      (pss_cons (ps_set (i := 5) sc_settled.nd rfl (Or.inl rfl) (pe_call K_laid.ok (hr.mono (by decide)) (by rfl) T.g_laid K_laid.kp K_laid.bn .nil pass0 (pa_cons (pe_fld (pv 2) rfl) (pa_cons (pe_fld (pv 2) rfl) (pa_cons (pv 3) pa_nil)))))
      (pss_cons (ps_if (pt_cmpR op_eq (pe_meth0 (pv 2) T.c_Flow T.m_Flow_lacking K_Flow_lacking.ok (hr.mono (by decide)) K_Flow_lacking.bn .nil pass0) pe_int (nomark _)) (pss_one (ps_ret (pe_make T.k_Kept K_Kept_init.ok (hr.mono (by decide)) (by rfl) T.g_Kept K_Kept_init.bn .nil pass0 (pa_cons (pv 0) (pa_cons (pv 1) (pa_cons (pv 5) pa_nil)))))) pss_nil)
      (pss_cons (ps_set (i := 6) sc_settled.nd rfl (Or.inl rfl) (pe_call K_tidy.ok (hr.mono (by decide)) (by rfl) T.g_tidy K_tidy.kp K_tidy.bn .nil pass0 (pa_cons (pe_lc (own := [("cell", 7)]) (g := (gName 7)) (tt := tYes) (te := (tTup (tCons (tOp (rIxT K) (tOp (rIxL K) (tFld K (tVar 2) "cells") (tVar 7)) (tC (.int 0))) (tCons (tOp (rIxT K) (tOp (rIxL K) (tFld K (tVar 2) "cells") (tVar 7)) (tC (.int 1))) tNil)))) (by rfl) sc_settled.nd (pi_list (pe_ix ix_tup (pe_meth0 (pv 2) T.c_Flow T.m_Flow_cut K_Flow_cut.ok (hr.mono (by decide)) K_Flow_cut.bn .nil pass0) pe_int (fun _ _ => rfl))) (blkOk_by (N := ["load", "calendar", "flow", "shares", "job", "plan", "spans", "cell"]) (sc := defScope s_settled) (by decide +kernel)) (fun _ _ _ _ _ => (pg_name (i := 7) sc_settled.nd rfl (Or.inl rfl))) (fun _ _ _ _ _ => pts_nil) (fun _ _ _ _ _ => (pe_tup (pa_cons (pe_ix ix_tup (pe_ix ix_list (pe_fld (pv 2) rfl) (pv 7) (fun _ _ => rfl)) pe_int (fun _ _ => rfl)) (pa_cons (pe_ix ix_tup (pe_ix ix_list (pe_fld (pv 2) rfl) (pv 7) (fun _ _ => rfl)) pe_int (fun _ _ => rfl)) pa_nil))))) pa_nil)))
      (pss_one (ps_ret (pe_make T.k_Full K_Full_init.ok (hr.mono (by decide)) (by rfl) T.g_Full K_Full_init.bn .nil pass0 (pa_cons (pv 0) (pa_cons (pv 1) (pa_cons (pv 5) (pa_cons (pe_meth0 (pv 2) T.c_Flow T.m_Flow_lacking K_Flow_lacking.ok (hr.mono (by decide)) K_Flow_lacking.bn .nil pass0) (pa_cons (pv 6) (pa_cons (pe_call K_crowded.ok (hr.mono (by decide)) (by rfl) T.g_crowded K_crowded.kp K_crowded.bn .nil pass0 (pa_cons (pv 0) (pa_cons (pv 6) pa_nil))) pa_nil))))))))))))))), ?_⟩
    walk_at "go"
    have hz := O.len
    refine w_rNewI fun p dx0 H1 hp1 s1 e1 => ?_
    refine ⟨_, _, _, _, _, _, _, _, rfl, e1, L.same s1, O, C.same s1, CO, fun H2 A cs S Ct J b2 CK F D Fe CT CL R => ⟨rfl, ?_⟩⟩
    have s2 : Same H H2 := Same.but s1 hp1 b2
    have hcl := CK.len
    obtain ⟨dx, fs, hp, ff⟩ := F.ins
    obtain ⟨C0, dx2, fs2, t, lc, lj, zs, hp2, l1, l2, l3, l4, ht, hlc, hlj⟩ := R
    rw [hp] at hp2
    cases hp2
    walk_at "go"
    intro sl H3 hsl s3 esl
    walk_at "go"
    have s23 := s2.trans s3
    refine w_rFld (s3 _ _ hp) T.c_Flow T.n_Flow_load ff.load ?_
    walk_at "go"
    refine w_lenL (s3 _ _ F.ld.at_) ?_
    rw [show (A.jps.map V.ref).length = js.length by rw [List.length_map, F.ld.len, List.length_map]]
    walk_at "go"
    refine w_rRng (by omega) ?_
    refine lp_range (fun i σ H' => ∃ (as : List Addr) (v4 v5 v6 v7 : Option V), σ = [some (.ref a), some (.ref c), some (.ref p), some (.ref sl), v4, v5, v6, v7] ∧ Same H2 H' ∧ as.length = i ∧ H' sl = some (.lst (as.map V.ref)) ∧ (∀ x ∈ as, x ≠ sl) ∧ ∀ (j : Nat) (x : Addr), as[j]? = some x → H' x = some (.lst ((List.range cs.length).map fun c => V.int (S.sh j c))))
      ⟨[], none, none, none, none, rfl, s3, rfl, esl, fun x h => by simp at h, fun j x h => by simp at h⟩ (fun i σ H' hi pp => ?_) (fun σ H' pp => ?_)
    · obtain ⟨as, v4, v5, v6, v7, rfl, s, hal, el, hns, has⟩ := pp
      walk_at "go"
      refine w_rTyL el ?_
      walk_at "go"
      refine w_rFld (s _ _ hp) T.c_Flow T.n_Flow_cells ff.cells ?_
      walk_at "go"
      refine w_lenL (s _ _ F.ce.at_) ?_
      rw [show (A.cps.map V.ref).length = cs.length by rw [List.length_map, F.ce.len, List.length_map]]
      walk_at "go"
      refine w_rRng (by omega) fun Dl hD => ?_
      refine lpc_map walk_rng0 (fun c => V.int (S.sh i c)) hD (szlt (by omega)) (fun _ _ => trivial) (fun k x G G' y => by rw [y.1]; exact Same.refl _) (fun k x G1 G2 N hk g1 g2 y h1 => ?_) (fun x G N N' h k => mono_name N N' h k) (fun H4 s4 e4 => ?_)
      · obtain ⟨rfl, rfl⟩ := y
        have sG := s.trans g1
        walk_at "go"
        refine ⟨rfl, ?_⟩
        walk_at "go"
        refine w_rRecv (sG _ _ hp) l3 ?_
        walk_at "go"
        refine ⟨_, _, _, _, _, _, _, rfl, F.same D sG, D.same sG, hi, hk, ?_⟩
        exact h1 _ (Same.refl _)
      · walk_at "go"
        have nDs : Dl ≠ sl := fun e => by rw [e, el] at hD; cases hD
        refine w_append (s4 _ _ el) (szlt (by rw [List.length_map, hal]; omega)) fun H5 b5 e5 => ?_
        walk_at "go"
        have s24 := s.trans s4
        refine ⟨as ++ [Dl], _, _, _, _, rfl, Same.but s24 hsl b5, by rw [List.length_append, hal]; rfl, by rw [e5, List.map_append]; rfl, fun x hx => ?_, fun j x hx => ?_⟩
        · rcases List.mem_append.mp hx with hx | hx
          · exact hns x hx
          · rw [List.mem_singleton.mp hx]; exact nDs
        · by_cases hj : j < as.length
          · rw [List.getElem?_append_left hj] at hx
            exact b5 _ _ (hns x (List.mem_of_getElem? hx)) (s4 _ _ (has j x hx))
          · have hj2 : j = as.length := by
              have := (List.getElem?_eq_some_iff.mp hx).1
              rw [List.length_append, List.length_singleton] at this
              omega
            rw [hj2, List.getElem?_append_right (Nat.le_refl _), Nat.sub_self] at hx
            have hx : Dl = x := by simpa using hx
            rw [← hx, hj2, hal]
            exact b5 _ _ nDs e4
    · obtain ⟨as, v4, v5, v6, v7, rfl, s, hal, el, hns, has⟩ := pp
      walk_at "go"
      refine w_rFld (s _ _ hp) T.c_Flow T.n_Flow_load ff.load ?_
      walk_at "go"
      refine w_rFld (s _ _ hp) T.c_Flow T.n_Flow_cells ff.cells ?_
      walk_at "go"
      have Fs := F.same D s
      have hmany : ∀ c ∈ cs, 1 ≤ many c ∧ many c < 1073741824 := fun c hc => by
        obtain ⟨j, hj, h1, h2⟩ := CK.inw c hc
        have h3 := hw j hj
        have h4 := CK.le c hc
        show 1 ≤ c.2.1 - c.1 + 1 ∧ c.2.1 - c.1 + 1 < 1073741824
        omega
      refine ⟨_, _, _, _, _, as, js, cs, S.sh, rfl, Fs.ld, Fs.ce, el, hal, has, fun j hj c hc => feas_le60 O Fe hj hc, hz, hcl, hmany, fun H6 pl qs rows s6 hpl hperm hpw Lr => ?_⟩
      have PN := plan_ok CO O CK Fe hperm hpw
      have s26 := s.trans s6
      have F6 := F.same D s26
      have D6 := D.same s26
      have s06 := s2.trans s26
      walk_at "go"
      refine w_rRecv (s26 _ _ hp) l4 ?_
      walk_at "go"
      refine ⟨_, _, _, _, _, rfl, F6, D6, ?_⟩
      have L6 := L.same s06
      have C6 := C.same s06
      have f6 : ∀ {x : Addr}, H6 x = none → H x = none := fun h => s06.free h
      walk_at "go"
      refine ifD (fun h0 => ?_) (fun h0 => ?_)
      · have h0 := V.int.inj h0
        walk_at "go"
        refine w_rNewI fun v dxv H7 hv7 s7 e7 => ?_
        refine ⟨_, _, _, _, _, _, _, _, rfl, e7, ⟨T.c_Kept, T.n_Kept_load, T.n_Kept_calendar, T.n_Kept_plan⟩, s7 _ _ L6.at_, s7 _ _ Lr.at_, fun H8 k1 k2 b8 f1 f2 g1 g2 ne12 ev => ⟨rfl, ?_⟩⟩
        have s8 : Same H6 H8 := Same.but s7 hv7 b8
        exact q _ v (s06.trans s8) (.inl ⟨dxv, k1, k2, ps, qs, rows, S.wa, ev, ⟨f6 hv7, f6 (s7.free f1), f6 (s7.free f2), ne12⟩, ⟨⟨g1, (L6.same s8).tt⟩, C6.same s8, ⟨g2, (Lr.same s8).tt⟩⟩, PN, Fe.wa0, h0⟩)
      · have h1 : 1 ≤ sm js.length S.wa := by
          have g0 : 0 ≤ sm js.length S.wa := sm_nonneg Fe.wa0
          have g1 : sm js.length S.wa ≠ 0 := fun e => h0 (by rw [e])
          omega
        walk_at "go"
        refine w_rRecv (s26 _ _ hp) l2 ?_
        walk_at "go"
        refine ⟨_, _, _, Ct, rfl, s26 _ _ hp, ⟨_, _, _, t, lc, lj, zs, s26 _ _ hp, l1, l2, l3, l4, s26 _ _ ht, s26 _ _ hlc, s26 _ _ hlj⟩, fun H7 tc k1 k2 s7 etc ek1 => ?_⟩
        walk_at "go"
        refine w_rIt ek1 fun Dl hD => ?_
        have F7 := F6.same D6 s7
        refine lpc_obj (walk_list (xs := Ct.map natV)) (fun i => .tup (spanV ((cg cs (Ct.getD i 0)).1, (cg cs (Ct.getD i 0)).2.1))) hD (by rw [List.length_map]; exact szlt (by have := nodup_len cs.length Ct CL.nodup CL.lt; omega)) (fun G s => SqL.of (s _ _ ek1)) (fun i x G G' y => by rw [y.1]; exact Same.refl _) (fun i x G1 G2 N hi g1 g2 y h => ?_) (fun x G N N' h k => mono_name N N' h k) (fun H8 as8 s8 hl8 e8 f8 nd8 a8 => ?_)
        · obtain ⟨rfl, y⟩ := y
          obtain ⟨cc, ecc, rfl⟩ := map_get y
          have hcc := CL.lt cc (List.mem_of_getElem? ecc)
          have hgd : Ct.getD i 0 = cc := by rw [List.getD_eq_getElem?_getD, ecc]; rfl
          have FG := F7.same (D6.same s7) g1
          obtain ⟨qc, eqc, tqc⟩ := FG.cell hcc
          have hpG := g1 _ _ (s7 _ _ (s26 _ _ hp))
          walk_at "go"
          refine ⟨rfl, ?_⟩
          walk_at "go"
          refine w_rFld hpG T.c_Flow T.n_Flow_cells ff.cells ?_
          walk_at "go"
          refine w_ixL FG.ce.at_ (atI_nat eqc) ?_
          walk_at "go"
          refine w_rFld hpG T.c_Flow T.n_Flow_cells ff.cells ?_
          walk_at "go"
          refine w_ixL FG.ce.at_ (atI_nat eqc) ?_
          walk_at "go"
          intro tt G3 htt g3 ett
          rw [hgd] at h
          exact h _ _ g3 htt ett
        · have SO := spansOf_ok CK CL
          have hlen : Ct.length ≤ 39 := Nat.le_trans (nodup_len cs.length Ct CL.nodup CL.lt) hcl
          have Lsp : LT H8 Dl as8 ((spansOf cs Ct).map spanV) := ⟨e8, prd_of (by rw [hl8]; simp [spansOf]) fun i x r h1 h2 => by
            obtain ⟨pz, h3, e3⟩ := map_get h2
            unfold spansOf at h3
            obtain ⟨cc, h4, e4⟩ := map_get h3
            have := f8 i x h1
            rw [List.getD_eq_getElem?_getD, h4] at this
            rw [← e3, ← e4]
            exact this⟩
          have s68 := s7.trans s8
          have inb : ∀ pz ∈ spansOf cs Ct, 0 ≤ pz.1 ∧ pz.1 ≤ pz.2 ∧ pz.2 ≤ 10000000000 := fun pz hpz => by
            unfold spansOf at hpz
            obtain ⟨cc, hcc, rfl⟩ := List.mem_map.mp hpz
            have hm := cg_mem (CL.lt cc hcc)
            obtain ⟨j, hj, g1, g2⟩ := CK.inw _ hm
            have g3 := CK.le _ hm
            have g4 := (O.num j hj).l1
            show 0 ≤ (cg cs cc).1 ∧ (cg cs cc).1 ≤ (cg cs cc).2.1 ∧ (cg cs cc).2.1 ≤ 10000000000
            omega
          have rs : (spansOf cs Ct).Pairwise fun p q => p.1 < q.1 := List.Pairwise.imp_of_mem (fun {x y} hx hy h => by
            have := SO.le x hx
            omega) SO.rise
          walk_at "go"
          refine ⟨_, _, _, rfl, Lsp, by simp [spansOf]; omega, inb, rs, fun H9 ts us s9 hts Lt => ?_⟩
          obtain ⟨mg1, mg2, mg3, _⟩ := mfold_ok (spansOf cs Ct) [] ⟨fun _ h => by simp at h, List.Pairwise.nil⟩ SO (fun _ h => by simp at h)
          have m0 : ∀ p ∈ (spansOf cs Ct).foldl mstep [], 0 ≤ p.1 := mg2 0 (fun p hp => (inb p hp).1) (fun _ h => by simp at h)
          have OC := overflow_cut CO O CK CL Fe CT
          have ml : ((spansOf cs Ct).foldl mstep []).length ≤ 1000 := Nat.le_trans (mfold_len _) (by simp [spansOf]; omega)
          have OC2 : (js.map fun j => exc j ((spansOf cs Ct).foldl mstep [])).sum - (((spansOf cs Ct).foldl mstep []).map fun p => over ss rest p.1 p.2).sum = sm js.length S.wa := by
            rw [← OC]
            simp only [over_eq]
          generalize (spansOf cs Ct).foldl mstep [] = spn at Lt mg1 m0 ml OC2
          have s69 := s68.trans s9
          have F9 := F6.same D6 s69
          have D9 := D6.same s69
          walk_at "go"
          refine w_rRecv (s69 _ _ (s26 _ _ hp)) l4 ?_
          walk_at "go"
          refine ⟨_, _, _, _, _, rfl, F9, D9, ?_⟩
          walk_at "go"
          refine ⟨_, _, _, _, _, _, rfl, L6.same s69, O, Lt, ml, fun H10 nn s10 hnn enn => ?_⟩
          walk_at "go"
          have s610 := s69.trans s10
          refine w_rNewI fun v dxv H11 hv11 s11 e11 => ?_
          have s611 := s610.trans s11
          refine ⟨_, _, _, _, _, _, _, _, _, _, _, _, rfl, e11, s611 _ _ L6.at_, s611 _ _ Lr.at_, s11 _ _ (s10 _ _ Lt.at_), s11 _ _ enn, fun H12 k1 k2 k3 k4 b12 f1 f2 f3 f4 g1 g2 g3 g4 nd ev => ⟨rfl, ?_⟩⟩
          have s12 : Same H10 H12 := Same.but s11 hv11 b12
          have s612 := s610.trans s12
          refine q _ v (s06.trans s612) (.inr ⟨dxv, k1, k2, k3, k4, ps, qs, us, rows, S.wa, spn, ev, ⟨f6 (s610.free hv11), f6 (s611.free f1), f6 (s611.free f2), f6 (s611.free f3), f6 (s611.free f4), nd⟩, ⟨⟨g1, (L6.same s612).tt⟩, C6.same s612, ⟨g2, (Lr.same s612).tt⟩⟩, PN, Fe.wa0, h1, ⟨g3, ((Lt.same s10).same s12).tt⟩, mg1, m0, ml, OC2, g4⟩)

end
end Due

set_option Elab.async false
set_option linter.all false
set_option maxRecDepth 100000
set_option maxHeartbeats 4000000
namespace Due
open PySem PySem.Spec PyProof.Rows L2
local macro_rules | `(tactic| walk_at "v") => `(tactic| ((with_reducible refine' w_var ?hv ?_); (case hv => exact rfl)))
local macro_rules | `(tactic| walk_at "go1") => `(tactic| first
  | with_reducible refine' w_seq ?_ | with_reducible refine' w_asg ?_ | with_reducible refine' w_name ?_ | with_reducible refine' w_ret ?_ | with_reducible refine' w_drop ?_ | with_reducible refine' w_ifs ?_ | with_reducible refine' w_next ?_ | with_reducible refine' w_retN ?_ | with_reducible refine' w_cont ?_
  | ((with_reducible refine' w_var ?hv ?_); (case hv => exact rfl)) | with_reducible refine' w_c ?_ | with_reducible refine' w_op ?_ | with_reducible refine' w_un ?_ | with_reducible refine' w_I0 ?_ | with_reducible refine' w_U ?_ | with_reducible refine' w_cmp ?_
  | ((with_reducible refine' w_eq ?hv ?_); (case hv => exact rfl)) | ((with_reducible refine' w_ne ?hv ?_); (case hv => exact rfl))
  | with_reducible refine' iteT ?_ | with_reducible refine' iteF ?_ | with_reducible refine' iteNT ?_ | with_reducible refine' iteNF ?_ | with_reducible refine' w_chain3 ?_ | with_reducible refine' w_augS ?_ | with_reducible refine' w_gsub ?_
  | with_reducible refine' w_sl ?_ | with_reducible refine' w_noPart ?_ | with_reducible refine' w_part ?_ | with_reducible refine' w_rPart ?_ | with_reducible refine' w_iZip ?_ | with_reducible refine' w_iEnum ?_ | with_reducible refine' w_iRng ?_
  | with_reducible refine' w_dget ?_ | with_reducible refine' w_dget2 ?_ | with_reducible refine' w_din ?_ | with_reducible refine' w_dnotin ?_ | with_reducible refine' w_dput ?_
  | with_reducible refine' w_isN ?_ | with_reducible refine' w_notN ?_ | with_reducible refine' w_rBl ?_ | with_reducible refine' w_B ?_ | with_reducible refine' w_test ?_ | with_reducible refine' w_and ?_ | with_reducible refine' w_or ?_ | with_reducible refine' w_not ?_
  | with_reducible refine' w_andV ?_ | with_reducible refine' w_orV ?_ | with_reducible refine' w_notV ?_ | with_reducible refine' w_chain ?_ | with_reducible refine' w_fld ?_ | with_reducible refine' w_sfld ?_ | with_reducible refine' w_nil ?_ | with_reducible refine' w_cons ?_
  | with_reducible refine' w_call ?_ | with_reducible refine' w_meth ?_ | with_reducible refine' w_make ?_ | with_reducible refine' w_CB ?_ | with_reducible refine' w_BM0 ?_ | with_reducible refine' w_BM ?_ | with_reducible refine' w_tup ?_ | with_reducible refine' w_lst ?_
  | with_reducible refine' w_for ?_ | with_reducible refine' w_iList ?_ | with_reducible refine' w_iTup ?_ | with_reducible refine' w_lc ?_ | with_reducible refine' w_yes ?_ | with_reducible refine' w_max2 ?_ | with_reducible refine' w_min2 ?_ | with_reducible refine' w_ipI ?_ | with_reducible refine' w_gcons ?_ | with_reducible refine' w_gnil ?_
  | ((with_reducible refine' w_aug ?hv ?_); (case hv => exact rfl))
  | ((with_reducible refine' w_gtup ?hv ?hn ?_); (case hv => assumption); (case hn => exact rfl))
  | ((with_reducible refine' w_ixT ?hv ?ha ?_); (case hv => assumption); (case ha => exact rfl))
  | ((with_reducible refine' w_newT ?hv ?_); (case hv => exact Nat.le_of_ble_eq_true rfl))
  | ((with_reducible refine' w_newL ?hv ?_); (case hv => exact Nat.le_of_ble_eq_true rfl)))
local macro_rules | `(tactic| walk_at "go") => `(tactic| repeat' walk_at "go1")
section
variable {P : Program} {w : World} {K : PySem.W.Frag} {mg : Str → Option Value} {base : Heap}
/-! ### the law's own functions -/
section
variable {K : PySem.W.Frag} {H : Hp} {Q : VK}
theorem w_lenQ {p : Addr} {xs : List V} (e : SqL K H p xs) (h : Q (.int xs.length) H) : rLenL K [.ref p] H Q := ⟨p, xs, rfl, .inl e, h⟩
theorem w_ixQ {p : Addr} {xs : List V} {k : Int} {v : V} (e : SqL K H p xs) (ha : atI xs k = some v) (h : Q v H) : rIxL K (.ref p) (.int k) H Q := ⟨p, xs, k, v, rfl, rfl, e, ha, h⟩
theorem SqL.same {H' : Hp} {p : Addr} {xs : List V} (s : Same H H') (e : SqL K H p xs) : SqL K H' p xs := by
  rcases e with (e | ⟨o, e⟩) | e
  · exact .inl (.inl (s _ _ e))
  · exact .inl (.inr ⟨o, s _ _ e⟩)
  · exact .inr e
end
def sp_law_cell_at : Sp := fun vs H Q _ => ∃ (a : Addr) (xs : List Int) (k : Nat), vs = [.ref a, natV k] ∧ SqL K H a (xs.map V.int) ∧ Q (.int (xs.getD k 0)) H
-- slots: 0 _law_script, 1 _law_k
theorem sc_law_cell_at : FnScope ["_law_script", "_law_k"] ["_law_script", "_law_k"] (defScope s_law_cell_at) := ⟨rfl, rfl, rfl, by decide +kernel, rfl, by decide +kernel, by decide +kernel⟩
theorem cd_law_cell_at (T : Tx K mg) : ∃ fd, Cd P w K mg base 1 (He.ga K "_law_cell_at") ["_law_script", "_law_k"] (sp_law_cell_at (K := K)) fd := by
  obtain ⟨fd, F⟩ := T.F_law_cell_at
  refine ⟨fd, F.ok sc_law_cell_at (fun vs H Q E h => ?_) (fun cdv A outer s H vs Q E hr h => ?_), FunD.bindsN F (fun _ _ _ _ _ _ us hl => match us, hl with | [_, _], _ => rfl), F.kp⟩
  · obtain ⟨a, xs, k, rfl, _⟩ := h
    rfl
  · obtain ⟨a, xs, k, rfl, e, q⟩ := h
    refine ⟨_, PSs.nox (pss_cons (ps_if (pt_cmpR op_lt (pv 1) (pe_callB c_len (by rfl) T.b_len (by decide +kernel) (pa_cons (pv 0) pa_nil)) (nomark _)) (pss_one (ps_ret (pe_ix ix_list (pv 0) (pv 1) (fun _ _ => rfl)))) pss_nil)
      (pss_one (ps_ret pe_int))), ?_⟩
    walk_at "go"
    refine w_lenQ e ?_
    walk_at "go"
    rw [List.length_map]
    refine ifD (fun h => ?_) (fun h => ?_)
    · walk_at "go"
      have hk : k < xs.length := by omega
      refine w_ixQ e (atI_nat (v := .int xs[k]) (by rw [List.getElem?_map, List.getElem?_eq_getElem hk]; rfl)) ?_
      rw [List.getD_eq_getElem?_getD, List.getElem?_eq_getElem hk] at q
      exact q
    · walk_at "go"
      rw [List.getD_eq_getElem?_getD, List.getElem?_eq_none (by omega)] at q
      exact q
def sp_law_whole : Sp := fun vs H Q _ => ∃ i, vs = [.int i] ∧ Q (.bl true) H
-- slots: 0 _law_found
theorem sc_law_whole : FnScope ["_law_found"] ["_law_found"] (defScope s_law_whole) := ⟨rfl, rfl, rfl, by decide +kernel, rfl, by decide +kernel, by decide +kernel⟩
theorem cd_law_whole (T : Tx K mg) : ∃ fd, Cd P w K mg base 1 (He.ga K "_law_whole") ["_law_found"] sp_law_whole fd := by
  obtain ⟨fd, F⟩ := T.F_law_whole
  refine ⟨fd, F.ok sc_law_whole (fun vs H Q E h => ?_) (fun cdv A outer s H vs Q E hr h => ?_), FunD.bindsN F (fun _ _ _ _ _ _ us hl => match us, hl with | [_], _ => rfl), F.kp⟩
  · obtain ⟨i, rfl, _⟩ := h
    rfl
  · obtain ⟨i, rfl, q⟩ := h
    refine ⟨_, PSs.nox (pss_one (ps_ret (pe_and (pe_callB call_isi (by rfl) T.b_isinstance (by decide +kernel) (pa_cons (pv 0) (pa_cons (pe_bltn (by rfl) T.b_int (by decide +kernel) (v := .ty "int") rfl) pa_nil))) (pe_one (pe_not (pe_callB call_isi (by rfl) T.b_isinstance (by decide +kernel) (pa_cons (pv 0) (pa_cons (pe_bltn (by rfl) T.b_bool (by decide +kernel) (v := .ty "bool") rfl) pa_nil)))))))), ?_⟩
    walk_at "go"
    refine w_isi (b := true) (.int _) (by decide +kernel) ?_
    walk_at "go"
    refine w_isi (b := false) (.int _) (by decide +kernel) ?_
    walk_at "go"
    exact q
def mixed (i k : Int) : Int := ((i + 7919 * k) * 48271 % 2147483647 * ((i + 7919 * k) * 48271 % 2147483647) % 2147483629 * ((i + 7919 * k) * 48271 % 2147483647 * ((i + 7919 * k) * 48271 % 2147483647) % 2147483629) + 16807 * ((i + 7919 * k) * 48271 % 2147483647 * ((i + 7919 * k) * 48271 % 2147483647) % 2147483629) + 11) % 2147483587
theorem mixed_nonneg (i k : Int) : 0 ≤ mixed i k := Int.emod_nonneg _ (by omega)
theorem mixed_lt (i k : Int) : mixed i k < 2147483587 := Int.emod_lt_of_pos _ (by omega)
def sp_law_mixed : Sp := fun vs H Q _ => ∃ (i k : Int), vs = [.int i, .int k] ∧ Q (.int (mixed i k)) H
-- slots: 0 _law_cell, 1 _law_k, 2 _law_number
theorem sc_law_mixed : FnScope ["_law_cell", "_law_k", "_law_number"] ["_law_cell", "_law_k"] (defScope s_law_mixed) := ⟨rfl, rfl, rfl, by decide +kernel, rfl, by decide +kernel, by decide +kernel⟩
theorem cd_law_mixed (T : Tx K mg) : ∃ fd, Cd P w K mg base 1 (He.ga K "_law_mixed") ["_law_cell", "_law_k"] sp_law_mixed fd := by
  obtain ⟨fd, F⟩ := T.F_law_mixed
  refine ⟨fd, F.ok sc_law_mixed (fun vs H Q E h => ?_) (fun cdv A outer s H vs Q E hr h => ?_), FunD.bindsN F (fun _ _ _ _ _ _ us hl => match us, hl with | [_, _], _ => rfl), F.kp⟩
  · obtain ⟨i, k, rfl, _⟩ := h
    rfl
  · obtain ⟨i, k, rfl, q⟩ := h
    refine ⟨_, PSs.nox (pss_cons (ps_set (i := 2) sc_law_mixed.nd rfl (Or.inl rfl) (pe_op op_mod (pe_op op_mul (pe_op op_add (pv 0) (pe_op op_mul pe_int (pv 1))) pe_int) pe_int))
      (pss_cons (ps_set (i := 2) sc_law_mixed.nd rfl (Or.inl rfl) (pe_op op_mod (pe_op op_mul (pv 2) (pv 2)) pe_int))
      (pss_one (ps_ret (pe_op op_mod (pe_op op_add (pe_op op_add (pe_op op_mul (pv 2) (pv 2)) (pe_op op_mul pe_int (pv 2))) pe_int) pe_int))))), ?_⟩
    walk_at "go"
    unfold mixed at q
    refine w_I (.inl ⟨by omega, by omega⟩) ?_
    walk_at "go"
    refine w_I (.inr ⟨by omega, by omega⟩) ?_
    walk_at "go"
    refine w_I (by omega) ?_
    walk_at "go"
    have h1 := Int.emod_nonneg ((i + 7919 * k) * 48271) (show (2147483647 : Int) ≠ 0 by omega)
    have h2 := Int.emod_lt_of_pos ((i + 7919 * k) * 48271) (show (0 : Int) < 2147483647 by omega)
    generalize (i + 7919 * k) * 48271 % 2147483647 = u at h1 h2 q ⊢
    refine w_I (.inl ⟨by omega, by omega⟩) ?_
    walk_at "go"
    refine w_I (by omega) ?_
    walk_at "go"
    have h3 := Int.emod_nonneg (u * u) (show (2147483629 : Int) ≠ 0 by omega)
    have h4 := Int.emod_lt_of_pos (u * u) (show (0 : Int) < 2147483629 by omega)
    generalize u * u % 2147483629 = x at h3 h4 q ⊢
    refine w_I (.inl ⟨by omega, by omega⟩) ?_
    walk_at "go"
    refine w_I (.inl ⟨by omega, by omega⟩) ?_
    walk_at "go"
    refine w_I (by omega) ?_
    exact q
structure RowB (rows : List (Int × Int)) (rest : Int) : Prop where
  len : rows.length ≤ 16
  k : ∀ p ∈ rows, 0 ≤ p.2 ∧ p.2 ≤ 16
  r1 : 1 ≤ rest
  r2 : rest ≤ 16
theorem wov0_snoc (a : List (Int × Int)) (p : Int × Int) (f l : Int) : wov 0 (a ++ [p]) 0 f l = wov 0 a 0 f l + p.2 * max 0 (min l (tot 0 a + p.1 - 1) - max f (tot 0 a) + 1) := by
  rw [wov_append]
  show _ + (p.2 * _ + 0 * _) = _
  omega
theorem wov_nil0 (f l : Int) : wov 0 [] 0 f l = 0 := by
  show 0 * _ = (0 : Int)
  omega
theorem wov_end (a : List (Int × Int)) (rest f l : Int) : wov 0 a rest f l = wov 0 a 0 f l + rest * max 0 (l - max f (tot 0 a) + 1) := by
  have := wov_append rest f l a [] 0
  rw [List.append_nil] at this
  exact this
def sp_law_over : Sp := fun vs H Q _ => ∃ (a : Addr) (ps : List Addr) (rows : List (Int × Int)) (rest f l : Int), vs = [.ref a, .int rest, .int f, .int l] ∧ LT H a ps (rows.map spanV) ∧ RowB rows rest ∧ Q (.int (wov 0 rows rest f l)) H
-- slots: 0 _law_rows_here, 1 _law_rest, 2 _law_first, 3 _law_last, 4 _law_total, 5 _law_begin, 6 _law_many, 7 _law_machines
theorem sc_law_over : FnScope ["_law_rows_here", "_law_rest", "_law_first", "_law_last", "_law_total", "_law_begin", "_law_many", "_law_machines"] ["_law_rows_here", "_law_rest", "_law_first", "_law_last"] (defScope s_law_over) := ⟨rfl, rfl, rfl, by decide +kernel, rfl, by decide +kernel, by decide +kernel⟩
theorem cd_law_over (T : Tx K mg) : ∃ fd, Cd P w K mg base 1 (He.ga K "_law_over") ["_law_rows_here", "_law_rest", "_law_first", "_law_last"] sp_law_over fd := by
  obtain ⟨fd, F⟩ := T.F_law_over
  refine ⟨fd, F.ok sc_law_over (fun vs H Q E h => ?_) (fun cdv A outer s H vs Q E hr h => ?_), FunD.bindsN F (fun _ _ _ _ _ _ us hl => match us, hl with | [_, _, _, _], _ => rfl), F.kp⟩
  · obtain ⟨a, ps, rows, rest, f, l, rfl, _⟩ := h
    rfl
  · obtain ⟨a, ps, rows, rest, f, l, rfl, L, B, q⟩ := h
    refine ⟨_, PSs.nox (pss_cons (ps_set (i := 4) sc_law_over.nd rfl (Or.inl rfl) pe_int)
      (pss_cons (ps_set (i := 5) sc_law_over.nd rfl (Or.inl rfl) pe_int)
      (pss_cons (ps_for PassesOwn.never rfl (pi_list (pv 0)) (pg_tup rfl (pgs_cons (pg_name (i := 6) sc_law_over.nd rfl (Or.inl rfl)) (pgs_cons (pg_name (i := 7) sc_law_over.nd rfl (Or.inl rfl)) pgs_nil))) (pss_cons (ps_set (i := 4) sc_law_over.nd rfl (Or.inl rfl) (pe_op op_add (pv 4) (pe_op op_mul (pv 7) (pe_callB (c_max2 rfl) (by rfl) T.b_max (by decide +kernel) (pa_cons pe_int (pa_cons (pe_op op_add (pe_op op_sub (pe_callB (c_min2 rfl) (by rfl) T.b_min (by decide +kernel) (pa_cons (pv 3) (pa_cons (pe_op op_sub (pe_op op_add (pv 5) (pv 6)) pe_int) pa_nil))) (pe_callB (c_max2 rfl) (by rfl) T.b_max (by decide +kernel) (pa_cons (pv 2) (pa_cons (pv 5) pa_nil)))) pe_int) pa_nil))))))
      (pss_one (ps_set (i := 5) sc_law_over.nd rfl (Or.inl rfl) (pe_op op_add (pv 5) (pv 6))))))
      (pss_one (ps_ret (pe_op op_add (pv 4) (pe_op op_mul (pv 1) (pe_callB (c_max2 rfl) (by rfl) T.b_max (by decide +kernel) (pa_cons pe_int (pa_cons (pe_op op_add (pe_op op_sub (pv 3) (pe_callB (c_max2 rfl) (by rfl) T.b_max (by decide +kernel) (pa_cons (pv 2) (pa_cons (pv 5) pa_nil)))) pe_int) pa_nil)))))))))), ?_⟩
    walk_at "go"
    refine w_rIt L.at_ ?_
    refine lp_LT (ps := ps) (rs := rows.map spanV) (fun i σ H' => ∃ v6 v7, σ = [some (.ref a), some (.int rest), some (.int f), some (.int l), some (.int (wov 0 (rows.take i) 0 f l)), some (.int (tot 0 (rows.take i))), v6, v7] ∧ H' = H) ⟨none, none, by rw [List.take_zero, wov_nil0]; rfl, rfl⟩ (fun i σ H' hi p => ?_) (fun i q' r σ H' hi hp' hr hq p => ?_) (fun σ H' p => ?_)
    · obtain ⟨v6, v7, rfl, rfl⟩ := p
      exact L
    · obtain ⟨v6, v7, rfl, rfl⟩ := p
      obtain ⟨z, ez, rfl⟩ := map_get hr
      have hz := B.k z (List.mem_of_getElem? ez)
      walk_at "go"
      refine w_I (.inl ⟨by omega, by omega⟩) ?_
      walk_at "go"
      rw [take_succ_of ez, wov0_snoc, tot_snoc]
      exact ⟨_, _, rfl, rfl⟩
    · obtain ⟨v6, v7, rfl, rfl⟩ := p
      rw [List.take_of_length_le (by rw [List.length_map]; exact Nat.le_refl _)]
      have h1 := B.r1
      have h2 := B.r2
      walk_at "go"
      refine w_I (.inl ⟨by omega, by omega⟩) ?_
      walk_at "go"
      rw [wov_end] at q
      exact q
theorem ovl_flip (f l : Int) (p : Int × Int) : max 0 (min l p.2 - max f p.1 + 1) = ovl f l p := by
  unfold ovl
  rw [Int.min_comm, Int.max_comm f p.1]
def sp_law_inside : Sp := fun vs H Q _ => ∃ (a b : Addr) (j : Job) (qs : List Addr) (sp : List (Int × Int)), vs = [.ref a, .ref b] ∧ H a = some (.tup (jobV j)) ∧ LT H b qs (sp.map spanV) ∧ sp.length ≤ 1000 ∧ ∀ H', Same H H' → Q (.int ((sp.map (ovl j.fi j.la)).sum)) H'
-- slots: 0 _law_job, 1 _law_spans, 2 _law_first, 3 _law_last
theorem sc_law_inside : FnScope ["_law_job", "_law_spans", "_law_first", "_law_last"] ["_law_job", "_law_spans"] (defScope s_law_inside) := ⟨rfl, rfl, rfl, by decide +kernel, rfl, by decide +kernel, by decide +kernel⟩
theorem cd_law_inside (T : Tx K mg) : ∃ fd, Cd P w K mg base 1 (He.ga K "_law_inside") ["_law_job", "_law_spans"] sp_law_inside fd := by
  obtain ⟨fd, F⟩ := T.F_law_inside
  refine ⟨fd, F.ok sc_law_inside (fun vs H Q E h => ?_) (fun cdv A outer s H vs Q E hr h => ?_), FunD.bindsN F (fun _ _ _ _ _ _ us hl => match us, hl with | [_, _], _ => rfl), F.kp⟩
  · obtain ⟨a, b, j, qs, sp, rfl, _⟩ := h
    rfl
  · obtain ⟨a, b, j, qs, sp, rfl, h1, L, hz, q⟩ := h
    refine ⟨_, PSs.nox (pss_one (ps_ret (pe_callB (cr_sum rfl) (by rfl) T.b_sum (by decide +kernel) (pa_cons (pe_lc (own := [("_law_first", 2), ("_law_last", 3)]) (g := (gTup K 2 (gCons (gName 2) (gCons (gName 3) gNil)))) (tt := tYes) (te := (tCB rMax2 (tCons (tC (.int 0)) (tCons (tOp (rI0 fun i j => .int (i + j)) (tOp (rI0 fun i j => .int (i - j)) (tCB rMin2 (tCons (tOp (rIxT K) (tVar 0) (tC (.int 2))) (tCons (tVar 3) tNil))) (tCB rMax2 (tCons (tOp (rIxT K) (tVar 0) (tC (.int 1))) (tCons (tVar 2) tNil)))) (tC (.int 1))) tNil)))) (by rfl) sc_law_inside.nd (pi_list (pv 1)) (blkOk_by (N := ["_law_job", "_law_spans", "_law_first", "_law_last"]) (sc := defScope s_law_inside) (by decide +kernel)) (fun _ _ _ _ _ => (pg_tup rfl (pgs_cons (pg_name (i := 2) sc_law_inside.nd rfl (Or.inl rfl)) (pgs_cons (pg_name (i := 3) sc_law_inside.nd rfl (Or.inl rfl)) pgs_nil)))) (fun _ _ _ _ _ => pts_nil) (fun _ _ _ _ _ => (pe_callB (c_max2 rfl) (by rfl) T.b_max (by decide +kernel) (pa_cons pe_int (pa_cons (pe_op op_add (pe_op op_sub (pe_callB (c_min2 rfl) (by rfl) T.b_min (by decide +kernel) (pa_cons (pe_ix ix_tup (pv 0) pe_int (fun _ _ => rfl)) (pa_cons (pv 3) pa_nil))) (pe_callB (c_max2 rfl) (by rfl) T.b_max (by decide +kernel) (pa_cons (pe_ix ix_tup (pv 0) pe_int (fun _ _ => rfl)) (pa_cons (pv 2) pa_nil)))) pe_int) pa_nil))))) pa_nil)))), ?_⟩
    walk_at "go"
    refine w_rIt L.at_ fun D hD => ?_
    refine lpc_LT L (fun p => .int (ovl j.fi j.la p)) hD (by omega) (fun i q0 r0 H1 N e1 e2 s1 h2 => ?_) (fun x H' N N' h k => mono_tup2 N N' h k) (fun H1 s1 e1 => ?_)
    · have h11 := s1 _ _ h1
      walk_at "go"
      refine ⟨rfl, ?_⟩
      walk_at "go"
      rw [ovl_flip]
      exact h2 _ (Same.refl _)
    · walk_at "go"
      refine w_sum (ns := sp.map (ovl j.fi j.la)) (by rw [e1, List.map_map]; rfl) ?_
      exact q _ s1
def sp_law_excess : Sp := fun vs H Q _ => ∃ (a b : Addr) (j : Job) (qs : List Addr) (sp : List (Int × Int)), vs = [.ref a, .ref b] ∧ H a = some (.tup (jobV j)) ∧ NumOk j ∧ LT H b qs (sp.map spanV) ∧ sp.length ≤ 1000 ∧ ∀ H', Same H H' → Q (.int (exc j sp)) H'
-- slots: 0 _law_job, 1 _law_spans, 2 _law_window
theorem sc_law_excess : FnScope ["_law_job", "_law_spans", "_law_window"] ["_law_job", "_law_spans"] (defScope s_law_excess) := ⟨rfl, rfl, rfl, by decide +kernel, rfl, by decide +kernel, by decide +kernel⟩
theorem cd_law_excess (T : Tx K mg) : ∃ fd, Cd P w K mg base 2 (He.ga K "_law_excess") ["_law_job", "_law_spans"] sp_law_excess fd := by
  obtain ⟨fd, F⟩ := T.F_law_excess
  obtain ⟨_, K_law_inside⟩ := cd_law_inside (P := P) (w := w) (base := base) T
  refine ⟨fd, F.ok sc_law_excess (fun vs H Q E h => ?_) (fun cdv A outer s H vs Q E hr h => ?_), FunD.bindsN F (fun _ _ _ _ _ _ us hl => match us, hl with | [_, _], _ => rfl), F.kp⟩
  · obtain ⟨a, b, j, qs, sp, rfl, _⟩ := h
    rfl
  · obtain ⟨a, b, j, qs, sp, rfl, h1, O, L, hz, q⟩ := h
    refine ⟨_, PSs.nox (pss_cons (ps_set (i := 2) sc_law_excess.nd rfl (Or.inl rfl) (pe_callB (c_max2 rfl) (by rfl) T.b_max (by decide +kernel) (pa_cons pe_int (pa_cons (pe_op op_add (pe_op op_sub (pe_ix ix_tup (pv 0) pe_int (fun _ _ => rfl)) (pe_ix ix_tup (pv 0) pe_int (fun _ _ => rfl))) pe_int) pa_nil))))
      (pss_one (ps_ret (pe_callB (c_max2 rfl) (by rfl) T.b_max (by decide +kernel) (pa_cons pe_int (pa_cons (pe_op op_sub (pe_ix ix_tup (pv 0) pe_int (fun _ _ => rfl)) (pe_op op_mul (pe_ix ix_tup (pv 0) pe_int (fun _ _ => rfl)) (pe_op op_sub (pv 2) (pe_call K_law_inside.ok (hr.mono (by decide)) (by rfl) T.g_law_inside K_law_inside.kp K_law_inside.bn .nil pass0 (pa_cons (pv 0) (pa_cons (pv 1) pa_nil)))))) pa_nil)))))), ?_⟩
    walk_at "go"
    refine ⟨_, _, _, _, _, rfl, h1, L, hz, fun H1 s1 => ?_⟩
    walk_at "go"
    refine w_I (.inl ⟨by have := O.b0; omega, by have := O.b1; omega⟩) ?_
    walk_at "go"
    exact q _ s1
def sp_law_overflow : Sp := fun vs H Q _ => ∃ (a b c : Addr) (ps qs us : List Addr) (js : List Job) (rows : List (Int × Int)) (rest : Int) (sp : List (Int × Int)), vs = [.ref a, .ref b, .int rest, .ref c] ∧ LT H a ps (js.map jobV) ∧ LoadOk js ∧ LT H b qs (rows.map spanV) ∧ RowB rows rest ∧ LT H c us (sp.map spanV) ∧ sp.length ≤ 1000 ∧
  ∀ H', Same H H' → Q (.int ((js.map fun j => exc j sp).sum - (sp.map fun p => wov 0 rows rest p.1 p.2).sum)) H'
-- slots: 0 _law_load_here, 1 _law_rows_here, 2 _law_rest, 3 _law_spans, 4 _law_total, 5 _law_first, 6 _law_last, 7 _law_job
theorem sc_law_overflow : FnScope ["_law_load_here", "_law_rows_here", "_law_rest", "_law_spans", "_law_total", "_law_first", "_law_last", "_law_job"] ["_law_load_here", "_law_rows_here", "_law_rest", "_law_spans"] (defScope s_law_overflow) := ⟨rfl, rfl, rfl, by decide +kernel, rfl, by decide +kernel, by decide +kernel⟩
theorem cd_law_overflow (T : Tx K mg) : ∃ fd, Cd P w K mg base 3 (He.ga K "_law_overflow") ["_law_load_here", "_law_rows_here", "_law_rest", "_law_spans"] sp_law_overflow fd := by
  obtain ⟨fd, F⟩ := T.F_law_overflow
  obtain ⟨_, K_law_excess⟩ := cd_law_excess (P := P) (w := w) (base := base) T
  obtain ⟨_, K_law_over⟩ := cd_law_over (P := P) (w := w) (base := base) T
  refine ⟨fd, F.ok sc_law_overflow (fun vs H Q E h => ?_) (fun cdv A outer s H vs Q E hr h => ?_), FunD.bindsN F (fun _ _ _ _ _ _ us hl => match us, hl with | [_, _, _, _], _ => rfl), F.kp⟩
  · obtain ⟨a, b, c, ps, qs, us, js, rows, rest, sp, rfl, _⟩ := h
    rfl
  · obtain ⟨a, b, c, ps, qs, us, js, rows, rest, sp, rfl, L, O, Lr, B, Ls, hz, q⟩ := h
    refine ⟨_, PSs.nox (pss_cons (ps_set (i := 4) sc_law_overflow.nd rfl (Or.inl rfl) (pe_callB (cr_sum rfl) (by rfl) T.b_sum (by decide +kernel) (pa_cons (pe_lc (own := [("_law_job", 7)]) (g := (gName 7)) (tt := tYes) (te := (tCall _ [] E0 (tCons (tVar 7) (tCons (tVar 3) tNil)))) (by rfl) sc_law_overflow.nd (pi_list (pv 0)) (blkOk_by (N := ["_law_load_here", "_law_rows_here", "_law_rest", "_law_spans", "_law_total", "_law_first", "_law_last", "_law_job"]) (sc := defScope s_law_overflow) (by decide +kernel)) (fun _ _ _ _ _ => (pg_name (i := 7) sc_law_overflow.nd rfl (Or.inl rfl))) (fun _ _ _ _ _ => pts_nil) (fun _ _ _ _ _ => (pe_call K_law_excess.ok (hr.mono (by decide)) (by rfl) T.g_law_excess K_law_excess.kp K_law_excess.bn .nil pass0 (pa_cons (pv 7) (pa_cons (pv 3) pa_nil))))) pa_nil)))
      (pss_cons (ps_for PassesOwn.never rfl (pi_list (pv 3)) (pg_tup rfl (pgs_cons (pg_name (i := 5) sc_law_overflow.nd rfl (Or.inl rfl)) (pgs_cons (pg_name (i := 6) sc_law_overflow.nd rfl (Or.inl rfl)) pgs_nil))) (pss_one (ps_set (i := 4) sc_law_overflow.nd rfl (Or.inl rfl) (pe_op op_sub (pv 4) (pe_call K_law_over.ok (hr.mono (by decide)) (by rfl) T.g_law_over K_law_over.kp K_law_over.bn .nil pass0 (pa_cons (pv 1) (pa_cons (pv 2) (pa_cons (pv 5) (pa_cons (pv 6) pa_nil)))))))))
      (pss_one (ps_ret (pv 4))))), ?_⟩
    walk_at "go"
    have hj := O.len
    refine w_rIt L.at_ fun D hD => ?_
    refine lpc_LT L (fun j => V.int (exc j sp)) hD (by omega) (fun i q0 r0 H2 N e1 e2 s2 h2 => ?_) (fun x H' N N' h k => mono_name N N' h k) (fun H2 s2 e2 => ?_)
    · walk_at "go"
      refine ⟨rfl, ?_⟩
      walk_at "go"
      exact ⟨_, _, _, _, _, rfl, e2, O.num _ (List.mem_of_getElem? e1), Ls.same s2, hz, fun H3 s3 => h2 _ s3⟩
    · walk_at "go"
      refine w_sum (ns := js.map fun j => exc j sp) (by rw [e2, List.map_map]; rfl) ?_
      walk_at "go"
      have Ls2 := Ls.same s2
      refine w_rIt Ls2.at_ ?_
      refine lp_LT (ps := us) (rs := sp.map spanV) (fun i σ H' => ∃ v5 v6 v7, σ = [some (.ref a), some (.ref b), some (.int rest), some (.ref c), some (.int ((js.map fun j => exc j sp).sum - ((sp.take i).map fun p => wov 0 rows rest p.1 p.2).sum)), v5, v6, v7] ∧ H' = H2) ⟨none, none, none, by rw [List.take_zero, List.map_nil, List.sum_nil, Int.sub_zero]; rfl, rfl⟩ (fun i σ H' hi p => ?_) (fun i q' r σ H' hi hp' hr hq p => ?_) (fun σ H' p => ?_)
      · obtain ⟨v5, v6, v7, rfl, rfl⟩ := p
        exact Ls2
      · obtain ⟨v5, v6, v7, rfl, rfl⟩ := p
        obtain ⟨z, ez, rfl⟩ := map_get hr
        walk_at "go"
        refine ⟨_, _, _, _, _, _, rfl, Lr.same s2, B, ?_⟩
        walk_at "go"
        have e : (js.map fun j => exc j sp).sum - ((sp.take (i + 1)).map fun p => wov 0 rows rest p.1 p.2).sum = (js.map fun j => exc j sp).sum - ((sp.take i).map fun p => wov 0 rows rest p.1 p.2).sum - wov 0 rows rest z.1 z.2 := by
          rw [take_succ_of ez, List.map_append, List.sum_append]
          simp [Int.sub_sub]
        rw [e]
        exact ⟨_, _, _, rfl, rfl⟩
      · obtain ⟨v5, v6, v7, rfl, rfl⟩ := p
        rw [List.take_of_length_le (by rw [List.length_map]; exact Nat.le_refl _)]
        walk_at "go"
        exact q _ s2
def sp_law_copied : Sp := fun vs H Q _ => ∃ x, vs = [x] ∧ ((∃ a xs, x = .ref a ∧ H a = some (.lst xs) ∧ ∀ H' l, Same H H' → H l = none → H' l = some (.lst xs) → Q (.ref l) H') ∨ ∃ i, x = .int i ∧ Q (.int i) H)
-- slots: 0 _law_part
theorem sc_law_copied : FnScope ["_law_part"] ["_law_part"] (defScope s_law_copied) := ⟨rfl, rfl, rfl, by decide +kernel, rfl, by decide +kernel, by decide +kernel⟩
theorem cd_law_copied (T : Tx K mg) : ∃ fd, Cd P w K mg base 1 (He.ga K "_law_copied") ["_law_part"] sp_law_copied fd := by
  obtain ⟨fd, F⟩ := T.F_law_copied
  refine ⟨fd, F.ok sc_law_copied (fun vs H Q E h => ?_) (fun cdv A outer s H vs Q E hr h => ?_), FunD.bindsN F (fun _ _ _ _ _ _ us hl => match us, hl with | [_], _ => rfl), F.kp⟩
  · obtain ⟨x, rfl, _⟩ := h
    rfl
  · obtain ⟨x, rfl, q⟩ := h
    refine ⟨_, PSs.nox (pss_cons (ps_if (pt_val (pe_callB call_isi (by rfl) T.b_isinstance (by decide +kernel) (pa_cons (pv 0) (pa_cons (pe_bltn (by rfl) T.b_list (by decide +kernel) (v := .ty "list") rfl) pa_nil)))) (pss_one (ps_ret (pe_callTy c_list (by rfl) T.b_list (by decide +kernel) (pa_cons (pv 0) pa_nil)))) pss_nil)
      (pss_one (ps_ret (pv 0)))), ?_⟩
    walk_at "go"
    rcases q with ⟨a, xs, rfl, e, q⟩ | ⟨i, rfl, q⟩
    · refine w_isi (b := true) (.lst e) (by decide +kernel) ?_
      walk_at "go"
      refine w_listL e fun l H1 hl s1 e1 => ?_
      exact q _ _ s1 hl e1
    · refine w_isi (b := false) (.int i) (by decide +kernel) ?_
      walk_at "go"
      exact q
def sp_law_row_right : Sp := fun vs H Q _ => ∃ (a b c : Addr) (ps : List Addr) (rows : List (Int × Int)) (rest t m t0 m0 : Int) (n : Str), vs = [.ref a, .ref b, .ref c, .int rest] ∧ H a = some (.tup [.int t, .int m, .str n]) ∧ H b = some (.tup [.int t0, .int m0]) ∧ LT H c ps (rows.map spanV) ∧ RowB rows rest ∧ (t0 < t ∨ (t0 = t ∧ m0 < m)) ∧ 0 ≤ t ∧ 0 ≤ m ∧ m < wov 0 rows rest t t ∧
  ∀ H', Same H H' → Q (.bl true) H'
-- slots: 0 _law_row, 1 _law_ahead, 2 _law_rows_here, 3 _law_rest
theorem sc_law_row_right : FnScope ["_law_row", "_law_ahead", "_law_rows_here", "_law_rest"] ["_law_row", "_law_ahead", "_law_rows_here", "_law_rest"] (defScope s_law_row_right) := ⟨rfl, rfl, rfl, by decide +kernel, rfl, by decide +kernel, by decide +kernel⟩
theorem cd_law_row_right (T : Tx K mg) : ∃ fd, Cd P w K mg base 2 (He.ga K "_law_row_right") ["_law_row", "_law_ahead", "_law_rows_here", "_law_rest"] sp_law_row_right fd := by
  obtain ⟨fd, F⟩ := T.F_law_row_right
  obtain ⟨_, K_law_over⟩ := cd_law_over (P := P) (w := w) (base := base) T
  obtain ⟨_, K_law_whole⟩ := cd_law_whole (P := P) (w := w) (base := base) T
  refine ⟨fd, F.ok sc_law_row_right (fun vs H Q E h => ?_) (fun cdv A outer s H vs Q E hr h => ?_), FunD.bindsN F (fun _ _ _ _ _ _ us hl => match us, hl with | [_, _, _, _], _ => rfl), F.kp⟩
  · obtain ⟨a, b, c, ps, rows, rest, t, m, t0, m0, n, rfl, _⟩ := h
    rfl
  · obtain ⟨a, b, c, ps, rows, rest, t, m, t0, m0, n, rfl, ha, hb, L, B, h1, h2, h3, h4, q⟩ := h
    refine ⟨_, PSs.nox (pss_cons (ps_if (PW.pt (pw_or (pt_not (pt_val (pe_callB call_isi (by rfl) T.b_isinstance (by decide +kernel) (pa_cons (pv 0) (pa_cons (pe_bltn (by rfl) T.b_tuple (by decide +kernel) (v := .ty "tuple") rfl) pa_nil))))) (pw_or (pt_cmpR op_ne (pe_callB c_len (by rfl) T.b_len (by decide +kernel) (pa_cons (pv 0) pa_nil)) pe_int (nomark _)) (pw_or (pt_not (pt_val (pe_call K_law_whole.ok (hr.mono (by decide)) (by rfl) T.g_law_whole K_law_whole.kp K_law_whole.bn .nil pass0 (pa_cons (pe_ix ix_tup (pv 0) pe_int (fun _ _ => rfl)) pa_nil)))) (pw_or1 (pt_not (pt_val (pe_call K_law_whole.ok (hr.mono (by decide)) (by rfl) T.g_law_whole K_law_whole.kp K_law_whole.bn .nil pass0 (pa_cons (pe_ix ix_tup (pv 0) pe_int (fun _ _ => rfl)) pa_nil))))))))) (pss_one (ps_ret pe_bl)) pss_nil)
      (pss_cons (ps_if (PW.pt (pw_or (pt_cmpR (op_leT hr.units0) (pe_tup (pa_cons (pe_ix ix_tup (pv 0) pe_int (fun _ _ => rfl)) (pa_cons (pe_ix ix_tup (pv 0) pe_int (fun _ _ => rfl)) pa_nil))) (pv 1) (nomark _)) (pw_or1 (pt_cmpR op_lt (pe_ix ix_tup (pv 0) pe_int (fun _ _ => rfl)) pe_int (nomark _))))) (pss_one (ps_ret pe_bl)) pss_nil)
      (pss_one (ps_ret (pe_chain op_le op_lt pe_int (pe_ix ix_tup (pv 0) pe_int (fun _ _ => rfl)) (pe_call K_law_over.ok (hr.mono (by decide)) (by rfl) T.g_law_over K_law_over.kp K_law_over.bn .nil pass0 (pa_cons (pv 2) (pa_cons (pv 3) (pa_cons (pe_ix ix_tup (pv 0) pe_int (fun _ _ => rfl)) (pa_cons (pe_ix ix_tup (pv 0) pe_int (fun _ _ => rfl)) pa_nil)))))))))), ?_⟩
    walk_at "go"
    refine w_isi (b := true) (.tup ha) (by decide +kernel) ?_
    walk_at "go"
    refine w_lenT ha ?_
    walk_at "go"
    refine ifnF rfl ?_
    walk_at "go"
    refine ⟨_, rfl, ?_⟩
    walk_at "go"
    refine ⟨_, rfl, ?_⟩
    walk_at "go"
    intro x H1 hx s1 e1
    have ha1 := s1 _ _ ha
    walk_at "go"
    refine ⟨x, b, [t, m], [t0, m0], rfl, rfl, SqT.of e1, SqT.of (s1 _ _ hb), ?_⟩
    have lx : Ob.lexAt (fun j => decide (([t, m] : List Int).getD j 0 = ([t0, m0] : List Int).getD j 0)) (fun j => decide (([t, m] : List Int).getD j 0 ≤ ([t0, m0] : List Int).getD j 0)) (decide (([t, m] : List Int).length ≤ ([t0, m0] : List Int).length)) 0 (min ([t, m] : List Int).length ([t0, m0] : List Int).length) = false := by
      show (if decide (t = t0) = true then (if decide (m = m0) = true then true else decide (m ≤ m0)) else decide (t ≤ t0)) = false
      by_cases g1 : t = t0
      · rw [if_pos (decide_eq_true g1), if_neg (by simp; omega)]
        exact decide_eq_false (by omega)
      · rw [if_neg (by simpa using g1)]
        exact decide_eq_false (by omega)
    rw [lx]
    walk_at "go"
    refine ifF (by omega) ?_
    walk_at "go"
    refine ifT h3 ?_
    walk_at "go"
    refine ⟨_, _, _, _, _, _, rfl, L.same s1, B, ?_⟩
    walk_at "go"
    rw [decide_eq_true h4]
    exact q _ s1
def sp_law_formed : Sp := fun vs H Q _ => ∃ (a : Addr) (ps : List Addr) (sp : List (Int × Int)), vs = [.ref a] ∧ LT H a ps (sp.map spanV) ∧ MgOk sp ∧ (∀ p ∈ sp, 0 ≤ p.1) ∧ Q (.bl true) H
-- slots: 0 _law_spans, 1 _law_behind, 2 _law_one
theorem sc_law_formed : FnScope ["_law_spans", "_law_behind", "_law_one"] ["_law_spans"] (defScope s_law_formed) := ⟨rfl, rfl, rfl, by decide +kernel, rfl, by decide +kernel, by decide +kernel⟩
theorem cd_law_formed (T : Tx K mg) : ∃ fd, Cd P w K mg base 2 (He.ga K "_law_formed") ["_law_spans"] sp_law_formed fd := by
  obtain ⟨fd, F⟩ := T.F_law_formed
  obtain ⟨_, K_law_whole⟩ := cd_law_whole (P := P) (w := w) (base := base) T
  refine ⟨fd, F.ok sc_law_formed (fun vs H Q E h => ?_) (fun cdv A outer s H vs Q E hr h => ?_), FunD.bindsN F (fun _ _ _ _ _ _ us hl => match us, hl with | [_], _ => rfl), F.kp⟩
  · obtain ⟨a, ps, sp, rfl, _⟩ := h
    rfl
  · obtain ⟨a, ps, sp, rfl, L, M, h0, q⟩ := h
    refine ⟨_, PSs.nox (pss_cons (ps_if (pt_not (pt_val (pe_callB call_isi (by rfl) T.b_isinstance (by decide +kernel) (pa_cons (pv 0) (pa_cons (pe_bltn (by rfl) T.b_list (by decide +kernel) (v := .ty "list") rfl) pa_nil))))) (pss_one (ps_ret pe_bl)) pss_nil)
      (pss_cons (ps_set (i := 1) sc_law_formed.nd rfl (Or.inl rfl) (pe_un un_neg pe_int))
      (pss_cons (ps_for PassesOwn.never rfl (pi_list (pv 0)) (pg_name (i := 2) sc_law_formed.nd rfl (Or.inl rfl)) (pss_cons (ps_if (PW.pt (pw_or (pt_not (pt_val (pe_callB call_isi (by rfl) T.b_isinstance (by decide +kernel) (pa_cons (pv 2) (pa_cons (pe_bltn (by rfl) T.b_tuple (by decide +kernel) (v := .ty "tuple") rfl) pa_nil))))) (pw_or (pt_cmpR op_ne (pe_callB c_len (by rfl) T.b_len (by decide +kernel) (pa_cons (pv 2) pa_nil)) pe_int (nomark _)) (pw_or (pt_not (pt_val (pe_call K_law_whole.ok (hr.mono (by decide)) (by rfl) T.g_law_whole K_law_whole.kp K_law_whole.bn .nil pass0 (pa_cons (pe_ix ix_tup (pv 2) pe_int (fun _ _ => rfl)) pa_nil)))) (pw_or1 (pt_not (pt_val (pe_call K_law_whole.ok (hr.mono (by decide)) (by rfl) T.g_law_whole K_law_whole.kp K_law_whole.bn .nil pass0 (pa_cons (pe_ix ix_tup (pv 2) pe_int (fun _ _ => rfl)) pa_nil))))))))) (pss_one (ps_ret pe_bl)) pss_nil)
      (pss_cons (ps_if (PW.pt (pw_or (pt_cmpR op_lt (pe_ix ix_tup (pv 2) pe_int (fun _ _ => rfl)) (pe_op op_add (pv 1) pe_int) (nomark _)) (pw_or1 (pt_cmpR op_lt (pe_ix ix_tup (pv 2) pe_int (fun _ _ => rfl)) (pe_ix ix_tup (pv 2) pe_int (fun _ _ => rfl)) (nomark _))))) (pss_one (ps_ret pe_bl)) pss_nil)
      (pss_one (ps_set (i := 1) sc_law_formed.nd rfl (Or.inl rfl) (pe_ix ix_tup (pv 2) pe_int (fun _ _ => rfl)))))))
      (pss_one (ps_ret pe_bl))))), ?_⟩
    walk_at "go"
    refine w_isi (b := true) (.lst L.at_) (by decide +kernel) ?_
    walk_at "go"
    refine w_rIt L.at_ ?_
    refine lp_LT (ps := ps) (rs := sp.map spanV) (fun i σ H' => ∃ (b : Int) (v2 : Option V), σ = [some (.ref a), some (.int b), v2] ∧ H' = H ∧ (b = -2 ∨ ∃ z ∈ sp.take i, b = z.2)) ⟨-2, none, rfl, rfl, .inl rfl⟩ (fun i σ H' hi p => ?_) (fun i q' r σ H' hi hp' hr hq p => ?_) (fun σ H' p => ?_)
    · obtain ⟨b, v2, rfl, rfl, _⟩ := p
      exact L
    · obtain ⟨b, v2, rfl, rfl, hb⟩ := p
      obtain ⟨z, ez, rfl⟩ := map_get hr
      have hz := List.mem_of_getElem? ez
      have g1 := h0 z hz
      have g2 := M.le z hz
      have g3 : b + 2 ≤ z.1 := by
        rcases hb with rfl | ⟨y, hy, rfl⟩
        · omega
        · obtain ⟨k, hk⟩ := List.getElem?_of_mem hy
          have hlt := (List.getElem?_eq_some_iff.mp hk).1
          rw [List.length_take] at hlt
          rw [List.getElem?_take, if_pos (by omega)] at hk
          have a1 := List.getElem?_eq_some_iff.mp hk
          have a2 := List.getElem?_eq_some_iff.mp ez
          have := (List.pairwise_iff_getElem.mp M.rise) k i a1.1 a2.1 (by omega)
          rw [a1.2, a2.2] at this
          exact this
      walk_at "go"
      refine w_isi (b := true) (.tup hq) (by decide +kernel) ?_
      walk_at "go"
      refine w_lenT hq ?_
      walk_at "go"
      refine ifnF rfl ?_
      walk_at "go"
      refine ⟨_, rfl, ?_⟩
      walk_at "go"
      refine ⟨_, rfl, ?_⟩
      walk_at "go"
      refine ifF (by omega) ?_
      walk_at "go"
      refine ifF (by omega) ?_
      walk_at "go"
      refine ⟨_, _, rfl, rfl, .inr ⟨z, ?_, rfl⟩⟩
      rw [take_succ_of ez]
      simp
    · obtain ⟨b, v2, rfl, rfl, _⟩ := p
      walk_at "go"
      exact q

end
end Due

set_option Elab.async false
set_option linter.all false
set_option maxRecDepth 100000
set_option maxHeartbeats 4000000
namespace Due
open PySem PySem.Spec PyProof.Rows L2
local macro_rules | `(tactic| walk_at "v") => `(tactic| ((with_reducible refine' w_var ?hv ?_); (case hv => exact rfl)))
local macro_rules | `(tactic| walk_at "go1") => `(tactic| first
  | with_reducible refine' w_seq ?_ | with_reducible refine' w_asg ?_ | with_reducible refine' w_name ?_ | with_reducible refine' w_ret ?_ | with_reducible refine' w_drop ?_ | with_reducible refine' w_ifs ?_ | with_reducible refine' w_next ?_ | with_reducible refine' w_retN ?_ | with_reducible refine' w_cont ?_
  | ((with_reducible refine' w_var ?hv ?_); (case hv => exact rfl)) | with_reducible refine' w_c ?_ | with_reducible refine' w_op ?_ | with_reducible refine' w_un ?_ | with_reducible refine' w_I0 ?_ | with_reducible refine' w_U ?_ | with_reducible refine' w_cmp ?_
  | ((with_reducible refine' w_eq ?hv ?_); (case hv => exact rfl)) | ((with_reducible refine' w_ne ?hv ?_); (case hv => exact rfl))
  | with_reducible refine' iteT ?_ | with_reducible refine' iteF ?_ | with_reducible refine' iteNT ?_ | with_reducible refine' iteNF ?_ | with_reducible refine' w_chain3 ?_ | with_reducible refine' w_augS ?_ | with_reducible refine' w_gsub ?_
  | with_reducible refine' w_sl ?_ | with_reducible refine' w_noPart ?_ | with_reducible refine' w_part ?_ | with_reducible refine' w_rPart ?_ | with_reducible refine' w_iZip ?_ | with_reducible refine' w_iEnum ?_ | with_reducible refine' w_iRng ?_
  | with_reducible refine' w_dget ?_ | with_reducible refine' w_dget2 ?_ | with_reducible refine' w_m1 ?_ | with_reducible refine' w_rM1 ?_ | with_reducible refine' w_din ?_ | with_reducible refine' w_dnotin ?_ | with_reducible refine' w_dput ?_
  | with_reducible refine' w_isN ?_ | with_reducible refine' w_notN ?_ | with_reducible refine' w_rBl ?_ | with_reducible refine' w_B ?_ | with_reducible refine' w_test ?_ | with_reducible refine' w_and ?_ | with_reducible refine' w_or ?_ | with_reducible refine' w_not ?_
  | with_reducible refine' w_andV ?_ | with_reducible refine' w_orV ?_ | with_reducible refine' w_notV ?_ | with_reducible refine' w_chain ?_ | with_reducible refine' w_fld ?_ | with_reducible refine' w_sfld ?_ | with_reducible refine' w_nil ?_ | with_reducible refine' w_cons ?_
  | with_reducible refine' w_call ?_ | with_reducible refine' w_meth ?_ | with_reducible refine' w_make ?_ | with_reducible refine' w_CB ?_ | with_reducible refine' w_BM0 ?_ | with_reducible refine' w_BM ?_ | with_reducible refine' w_tup ?_ | with_reducible refine' w_lst ?_
  | with_reducible refine' w_for ?_ | with_reducible refine' w_iList ?_ | with_reducible refine' w_iTup ?_ | with_reducible refine' w_lc ?_ | with_reducible refine' w_yes ?_ | with_reducible refine' w_max2 ?_ | with_reducible refine' w_min2 ?_ | with_reducible refine' w_ipI ?_ | with_reducible refine' w_gcons ?_ | with_reducible refine' w_gnil ?_
  | ((with_reducible refine' w_aug ?hv ?_); (case hv => exact rfl))
  | ((with_reducible refine' w_gtup ?hv ?hn ?_); (case hv => assumption); (case hn => exact rfl))
  | ((with_reducible refine' w_ixT ?hv ?ha ?_); (case hv => assumption); (case ha => exact rfl))
  | ((with_reducible refine' w_newT ?hv ?_); (case hv => exact Nat.le_of_ble_eq_true rfl))
  | ((with_reducible refine' w_newL ?hv ?_); (case hv => exact Nat.le_of_ble_eq_true rfl)))
local macro_rules | `(tactic| walk_at "go") => `(tactic| repeat' walk_at "go1")
section
variable {P : Program} {w : World} {K : PySem.W.Frag} {mg : Str → Option Value} {base : Heap}
/-! ### the law's instances -/
def sp_law_names : Sp := fun vs H Q _ => ∃ (cell : Int) (n : Nat), vs = [.int cell, natV n] ∧ n ≤ 12 ∧ ∀ (H' : Hp) (l : Addr) (ns : List Str), Same H H' → H l = none → ns.length = n → (∀ x ∈ ns, NameOk x) → ns.Nodup → H' l = some (.lst (ns.map V.str)) → Q (.ref l) H'
-- slots: 0 _law_cell, 1 _law_many, 2 _law_signs, 3 _law_base, 4 _law_first, 5 _law_k, 6 _law_at, 7 _law_names_here, 8 _law_sign, 9 _law_j
theorem sc_law_names : FnScope ["_law_cell", "_law_many", "_law_signs", "_law_base", "_law_first", "_law_k", "_law_at", "_law_names_here", "_law_sign", "_law_j"] ["_law_cell", "_law_many"] (defScope s_law_names) := ⟨rfl, rfl, rfl, by decide +kernel, rfl, by decide +kernel, by decide +kernel⟩
theorem cd_law_names (T : Tx K mg) : ∃ fd, Cd P w K mg base 2 (He.ga K "_law_names") ["_law_cell", "_law_many"] sp_law_names fd := by
  obtain ⟨fd, F⟩ := T.F_law_names
  obtain ⟨_, K_law_mixed⟩ := cd_law_mixed (P := P) (w := w) (base := base) T
  refine ⟨fd, F.ok sc_law_names (fun vs H Q E h => ?_) (fun cdv A outer s H vs Q E hr h => ?_), FunD.bindsN F (fun _ _ _ _ _ _ us hl => match us, hl with | [_, _], _ => rfl), F.kp⟩
  · obtain ⟨cell, n, rfl, _⟩ := h
    rfl
  · obtain ⟨cell, n, rfl, hn, q⟩ := h
    refine ⟨_, PSs.nox (pss_cons (ps_set (i := 2) sc_law_names.nd rfl (Or.inr rfl) pe_str)
      (pss_cons (ps_set (i := 3) sc_law_names.nd rfl (Or.inr rfl) (pe_join pe_str (pe_lc (own := [("_law_j", 9)]) (g := (gName 9)) (tt := tYes) (te := (tOp rIxS (tVar 2) (tOp (rI (fun _ j => 0 < j) fun i j => .int (i % j)) (tCall _ [] E0 (tCons (tVar 0) (tCons (tVar 9) tNil))) (tC (.int 36))))) (by rfl) sc_law_names.nd (pi_range1 rfl T.b_range (pa_cons pe_int pa_nil)) (blkOk_by (N := ["_law_cell", "_law_many", "_law_signs", "_law_base", "_law_first", "_law_k", "_law_at", "_law_names_here", "_law_sign", "_law_j"]) (sc := defScope s_law_names) (by decide +kernel)) (fun _ _ _ _ _ => (pg_name (i := 9) sc_law_names.nd rfl (Or.inl rfl))) (fun _ _ _ _ _ => pts_nil) (fun _ _ _ _ _ => (pe_ix ix_str (pv 2) (pe_op op_mod (pe_call K_law_mixed.ok (hr.mono (by decide)) (by rfl) T.g_law_mixed K_law_mixed.kp K_law_mixed.bn .nil pass0 (pa_cons (pv 0) (pa_cons (pv 9) pa_nil))) pe_int) (fun _ _ => rfl))))))
      (pss_cons (ps_set (i := 4) sc_law_names.nd rfl (Or.inr rfl) (pe_ix ix_str (pv 2) (pe_op op_mod (pe_call K_law_mixed.ok (hr.mono (by decide)) (by rfl) T.g_law_mixed K_law_mixed.kp K_law_mixed.bn .nil pass0 (pa_cons (pv 0) (pa_cons pe_int pa_nil))) pe_int) (fun _ _ => rfl)))
      (pss_cons (ps_if (PW.pt (pw_and (pt_cmpR op_eq (pe_op op_mod (pv 0) pe_int) pe_int (nomark _)) (pw_and1 (pt_cmpR op_lt (pv 1) pe_int (nomark _))))) (pss_one (ps_ret (pe_lc (own := [("_law_k", 5)]) (g := (gName 5)) (tt := tYes) (te := (tOp _ (tVar 4) _)) (by rfl) sc_law_names.nd (pi_range1 rfl T.b_range (pa_cons (pv 1) pa_nil)) (blkOk_by (N := ["_law_cell", "_law_many", "_law_signs", "_law_base", "_law_first", "_law_k", "_law_at", "_law_names_here", "_law_sign", "_law_j"]) (sc := defScope s_law_names) (by decide +kernel)) (fun _ _ _ _ _ => (pg_name (i := 5) sc_law_names.nd rfl (Or.inl rfl))) (fun _ _ _ _ _ => pts_nil) (fun _ _ _ _ _ => (pe_op op_add_str (pv 4) (pe_slice sl_str (pv 3) po_none (po_some (pv 5)))))))) pss_nil)
      (pss_cons (ps_set (i := 6) sc_law_names.nd rfl (Or.inl rfl) (pe_op op_mod (pe_op op_fdiv (pv 0) pe_int) pe_int))
      (pss_cons (ps_set (i := 7) sc_law_names.nd rfl (Or.inl rfl) (pe_lst pa_nil))
      (pss_cons (ps_for PassesOwn.never rfl (pi_range1 rfl T.b_range (pa_cons (pv 1) pa_nil)) (pg_name (i := 5) sc_law_names.nd rfl (Or.inl rfl)) (pss_cons (ps_set (i := 8) sc_law_names.nd rfl (Or.inl rfl) (pe_ix ix_str (pv 2) (pe_op op_mod (pe_op op_add (pv 0) (pe_op op_mul pe_int (pv 5))) pe_int) (fun _ _ => rfl)))
      (pss_one (ps_expr (pe_bm PySem.F.plainAttrs_list PySem.F.slot_list_append PySem.F.type_list_append mt_append (pv 7) (pa_cons (pe_op op_add_str (pe_op op_add_str (pe_op op_add_str (pv 4) (pe_slice sl_str (pv 3) po_none (po_some (pv 6)))) (pv 8)) (pe_slice sl_str (pv 3) (po_some (pe_op op_add (pv 6) pe_int)) po_none)) pa_nil))))))
      (pss_one (ps_ret (pv 7)))))))))), ?_⟩
    walk_at "go"
    refine w_rRng (n := 7) (by omega) fun D hD => ?_
    refine lpc_map walk_rng0 (fun j => V.str ⟨#[sgn (mixed cell (j : Int) % 36)]⟩) hD (szlt (by omega)) (fun _ _ => trivial) (fun k x G G' y => by rw [y.1]; exact Same.refl _) (fun k x G1 G2 N hk g1 g2 y h1 => ?_) (fun x G N N' h k => mono_name N N' h k) (fun H1 s1 e1 => ?_)
    · obtain ⟨rfl, rfl⟩ := y
      walk_at "go"
      refine ⟨rfl, ?_⟩
      walk_at "go"
      refine ⟨_, _, rfl, ?_⟩
      walk_at "go"
      refine w_I (by omega) ?_
      refine w_sgn (by omega) (by omega) ?_
      exact h1 _ (Same.refl _)
    have e1' : H1 D = some (.lst ((((List.range 7).map fun j : Nat => sgn (mixed cell (j : Int) % 36)).map fun c => (⟨#[c]⟩ : Str)).map V.str)) := by
      rw [e1, List.map_map, List.map_map]; rfl
    have hcs : ∀ c ∈ (List.range 7).map (fun j : Nat => sgn (mixed cell (j : Int) % 36)), c ∈ letters.cps.toList ∨ c ∈ figures.cps.toList := fun c hc => by
      obtain ⟨j, _, rfl⟩ := List.mem_map.mp hc
      exact sgn_all (by omega) (by omega)
    have hcl : ((List.range 7).map (fun j : Nat => sgn (mixed cell (j : Int) % 36))).length = 7 := by simp
    generalize (List.range 7).map (fun j : Nat => sgn (mixed cell (j : Int) % 36)) = cs at e1' hcs hcl
    refine ⟨_, D, _, rfl, rfl, .inl (SqL.of e1'), ?_, ?_⟩
    · have e0 : (Str.ofString "" : Str).length = 0 := by decide +kernel
      rw [e0, List.map_map, List.length_map, hcl]
      have : (cs.map ((fun x : Str => x.length) ∘ fun c => (⟨#[c]⟩ : Str))).sum = cs.length := by
        clear hcs hcl e1'
        induction cs with
        | nil => rfl
        | cons c r ih => rw [List.map_cons, List.sum_cons, ih, List.length_cons]; show 1 + r.length = _; omega
      rw [this, hcl]; omega
    rw [emp_str]
    have hb : (Txt.join (⟨#[]⟩ : Str) (cs.map fun c => (⟨#[c]⟩ : Str))).cps.toList = cs := join_ones' cs
    generalize Txt.join (⟨#[]⟩ : Str) (cs.map fun c => (⟨#[c]⟩ : Str)) = base at hb
    have hB : ∀ c ∈ base.cps.toList, c ∈ letters.cps.toList ∨ c ∈ figures.cps.toList := by rw [hb]; exact hcs
    have hL : base.cps.toList.length = 7 := by rw [hb]; exact hcl
    have hLl : base.length = 7 := by rw [len_cps]; exact hL
    walk_at "go"
    refine ⟨_, _, rfl, ?_⟩
    walk_at "go"
    refine w_I (by omega) ?_
    refine w_sgn (by omega) (by omega) ?_
    have hf : sgn (mixed cell 8 % 26) ∈ letters.cps.toList := sgn_letter (by omega) (by omega)
    generalize sgn (mixed cell 8 % 26) = f at hf
    walk_at "go"
    refine w_I (by omega) ?_
    walk_at "go"
    have cl : ∀ (lo hi : Option Int), (cutS base lo hi).length ≤ 7 := fun lo hi => by
      rw [len_cps]
      show ((base.cps.toList.drop _).take _).length ≤ 7
      rw [List.length_take, List.length_drop]; omega
    have l1 : ((⟨#[f]⟩ : Str)).length = 1 := rfl
    refine ifD (fun h => ?_) (fun h => ?_)
    · walk_at "go"
      refine ifD (fun h2 => ?_) (fun h2 => ?_)
      · walk_at "go"
        refine w_rRng (by omega) fun D2 hD2 => ?_
        refine lpc_map walk_rng0 (fun k => V.str (nmA f base k)) hD2 (szlt (by omega)) (fun _ _ => trivial) (fun k x G G' y => by rw [y.1]; exact Same.refl _) (fun k x G1 G2 N hk g1 g2 y h1 => ?_) (fun x G N N' h k => mono_name N N' h k) (fun H2 s2 e2 => ?_)
        · obtain ⟨rfl, rfl⟩ := y
          walk_at "go"
          refine ⟨rfl, ?_⟩
          walk_at "go"
          refine w_slS (by omega) ?_
          refine ⟨_, _, rfl, rfl, szl (by have := cl none (some (k : Int)); omega), ?_⟩
          exact h1 _ (Same.refl _)
        · obtain ⟨n1, n2⟩ := names_A hf hB hL (n := n) (by omega)
          refine q _ _ _ (s1.trans s2) (s1.free hD2) (by simp) n1 n2 ?_
          rw [e2, List.map_map]; rfl
      · walk_at "go"
        refine w_I ⟨by omega, by omega⟩ ?_
        walk_at "go"
        refine w_I (by omega) ?_
        obtain ⟨an, han⟩ : ∃ an : Nat, cell / 3 % 7 = (an : Int) := ⟨(cell / 3 % 7).toNat, by omega⟩
        have han7 : an < 7 := by omega
        rw [han]
        walk_at "go"
        intro l2 H2 hl2 s2 e2
        walk_at "go"
        have s12 := s1.trans s2
        have hlH : H l2 = none := s1.free hl2
        refine w_rRng (by omega) ?_
        refine lp_range (fun i σ H' => ∃ v5 v8 v9, σ = [some (.int cell), some (natV n), some (.str signsS), some (.str base), some (.str ⟨#[f]⟩), v5, some (.int (an : Int)), some (.ref l2), v8, v9] ∧ Same H H' ∧ H' l2 = some (.lst ((List.range i).map fun k : Nat => V.str (nmB f base an (sgn ((cell + 7 * (k : Int)) % 36))))))
          ⟨_, _, _, rfl, s12, e2⟩ (fun i σ H' hi p => ?_) (fun σ H' p => ?_)
        · obtain ⟨v5, v8, v9, rfl, s, el⟩ := p
          walk_at "go"
          refine w_I (.inl ⟨by omega, by omega⟩) ?_
          walk_at "go"
          refine w_I (by omega) ?_
          refine w_sgn (by omega) (by omega) ?_
          have c1 := cl none (some (an : Int))
          have c2 := cl (some ((an + 1 : Nat) : Int)) none
          walk_at "go"
          refine w_rTyL el ?_
          walk_at "go"
          refine w_slS (by omega) ?_
          refine ⟨_, _, rfl, rfl, szl (by omega), ?_⟩
          walk_at "go"
          have c3 : ((⟨#[f]⟩ : Str) ++ cutS base none (some (an : Int))).length ≤ 8 := by
            rw [len_cps, tl_app, List.length_append, ← len_cps, ← len_cps]; omega
          have l2' : ((⟨#[sgn ((cell + 7 * (i : Int)) % 36)]⟩ : Str)).length = 1 := rfl
          refine ⟨_, _, rfl, rfl, szl (by omega), ?_⟩
          walk_at "go"
          have c4 : (((⟨#[f]⟩ : Str) ++ cutS base none (some (an : Int))) ++ (⟨#[sgn ((cell + 7 * (i : Int)) % 36)]⟩ : Str)).length ≤ 9 := by
            rw [len_cps, tl_app, List.length_append, ← len_cps, ← len_cps]; omega
          refine w_slS (by omega) ?_
          have c5 : (cutS base (some ((an : Int) + 1)) none).length ≤ 7 := cl _ _
          refine ⟨_, _, rfl, rfl, szl (by omega), ?_⟩
          walk_at "go"
          refine w_append el (szlt (by simp; omega)) fun H3 b3 e3 => ?_
          walk_at "go"
          refine ⟨_, _, _, rfl, Same.but s hlH b3, ?_⟩
          rw [e3, List.range_succ, List.map_append]
          rfl
        · obtain ⟨v5, v8, v9, rfl, s, el⟩ := p
          walk_at "go"
          obtain ⟨n1, n2⟩ := names_B hf hB hL han7 (cell := cell) (n := n) hn
          refine q _ _ _ s hlH (by simp) n1 n2 ?_
          rw [el, List.map_map]; rfl
    · walk_at "go"
      refine w_I ⟨by omega, by omega⟩ ?_
      walk_at "go"
      refine w_I (by omega) ?_
      obtain ⟨an, han⟩ : ∃ an : Nat, cell / 3 % 7 = (an : Int) := ⟨(cell / 3 % 7).toNat, by omega⟩
      have han7 : an < 7 := by omega
      rw [han]
      walk_at "go"
      intro l2 H2 hl2 s2 e2
      walk_at "go"
      have s12 := s1.trans s2
      have hlH : H l2 = none := s1.free hl2
      refine w_rRng (by omega) ?_
      refine lp_range (fun i σ H' => ∃ v5 v8 v9, σ = [some (.int cell), some (natV n), some (.str signsS), some (.str base), some (.str ⟨#[f]⟩), v5, some (.int (an : Int)), some (.ref l2), v8, v9] ∧ Same H H' ∧ H' l2 = some (.lst ((List.range i).map fun k : Nat => V.str (nmB f base an (sgn ((cell + 7 * (k : Int)) % 36))))))
        ⟨_, _, _, rfl, s12, e2⟩ (fun i σ H' hi p => ?_) (fun σ H' p => ?_)
      · obtain ⟨v5, v8, v9, rfl, s, el⟩ := p
        walk_at "go"
        refine w_I (.inl ⟨by omega, by omega⟩) ?_
        walk_at "go"
        refine w_I (by omega) ?_
        refine w_sgn (by omega) (by omega) ?_
        have c1 := cl none (some (an : Int))
        have c2 := cl (some ((an + 1 : Nat) : Int)) none
        walk_at "go"
        refine w_rTyL el ?_
        walk_at "go"
        refine w_slS (by omega) ?_
        refine ⟨_, _, rfl, rfl, szl (by omega), ?_⟩
        walk_at "go"
        have c3 : ((⟨#[f]⟩ : Str) ++ cutS base none (some (an : Int))).length ≤ 8 := by
          rw [len_cps, tl_app, List.length_append, ← len_cps, ← len_cps]; omega
        have l2' : ((⟨#[sgn ((cell + 7 * (i : Int)) % 36)]⟩ : Str)).length = 1 := rfl
        refine ⟨_, _, rfl, rfl, szl (by omega), ?_⟩
        walk_at "go"
        have c4 : (((⟨#[f]⟩ : Str) ++ cutS base none (some (an : Int))) ++ (⟨#[sgn ((cell + 7 * (i : Int)) % 36)]⟩ : Str)).length ≤ 9 := by
          rw [len_cps, tl_app, List.length_append, ← len_cps, ← len_cps]; omega
        refine w_slS (by omega) ?_
        have c5 : (cutS base (some ((an : Int) + 1)) none).length ≤ 7 := cl _ _
        refine ⟨_, _, rfl, rfl, szl (by omega), ?_⟩
        walk_at "go"
        refine w_append el (szlt (by simp; omega)) fun H3 b3 e3 => ?_
        walk_at "go"
        refine ⟨_, _, _, rfl, Same.but s hlH b3, ?_⟩
        rw [e3, List.range_succ, List.map_append]
        rfl
      · obtain ⟨v5, v8, v9, rfl, s, el⟩ := p
        walk_at "go"
        obtain ⟨n1, n2⟩ := names_B hf hB hL han7 (cell := cell) (n := n) hn
        refine q _ _ _ s hlH (by simp) n1 n2 ?_
        rw [el, List.map_map]; rfl

end
end Due

set_option Elab.async false
set_option linter.all false
set_option maxRecDepth 100000
set_option maxHeartbeats 4000000
namespace Due
open PySem PySem.Spec PyProof.Rows L2
local macro_rules | `(tactic| walk_at "v") => `(tactic| ((with_reducible refine' w_var ?hv ?_); (case hv => exact rfl)))
local macro_rules | `(tactic| walk_at "go1") => `(tactic| first
  | with_reducible refine' w_seq ?_ | with_reducible refine' w_asg ?_ | with_reducible refine' w_name ?_ | with_reducible refine' w_ret ?_ | with_reducible refine' w_drop ?_ | with_reducible refine' w_ifs ?_ | with_reducible refine' w_next ?_ | with_reducible refine' w_retN ?_ | with_reducible refine' w_cont ?_
  | ((with_reducible refine' w_var ?hv ?_); (case hv => exact rfl)) | with_reducible refine' w_c ?_ | with_reducible refine' w_op ?_ | with_reducible refine' w_un ?_ | with_reducible refine' w_I0 ?_ | with_reducible refine' w_U ?_ | with_reducible refine' w_cmp ?_
  | ((with_reducible refine' w_eq ?hv ?_); (case hv => exact rfl)) | ((with_reducible refine' w_ne ?hv ?_); (case hv => exact rfl))
  | with_reducible refine' iteT ?_ | with_reducible refine' iteF ?_ | with_reducible refine' iteNT ?_ | with_reducible refine' iteNF ?_ | with_reducible refine' w_chain3 ?_ | with_reducible refine' w_augS ?_ | with_reducible refine' w_gsub ?_
  | with_reducible refine' w_sl ?_ | with_reducible refine' w_noPart ?_ | with_reducible refine' w_part ?_ | with_reducible refine' w_rPart ?_ | with_reducible refine' w_iZip ?_ | with_reducible refine' w_iEnum ?_ | with_reducible refine' w_iRng ?_
  | with_reducible refine' w_dget ?_ | with_reducible refine' w_dget2 ?_ | with_reducible refine' w_m1 ?_ | with_reducible refine' w_rM1 ?_ | with_reducible refine' w_din ?_ | with_reducible refine' w_dnotin ?_ | with_reducible refine' w_dput ?_
  | with_reducible refine' w_isN ?_ | with_reducible refine' w_notN ?_ | with_reducible refine' w_rBl ?_ | with_reducible refine' w_B ?_ | with_reducible refine' w_test ?_ | with_reducible refine' w_and ?_ | with_reducible refine' w_or ?_ | with_reducible refine' w_not ?_
  | with_reducible refine' w_andV ?_ | with_reducible refine' w_orV ?_ | with_reducible refine' w_notV ?_ | with_reducible refine' w_chain ?_ | with_reducible refine' w_fld ?_ | with_reducible refine' w_sfld ?_ | with_reducible refine' w_nil ?_ | with_reducible refine' w_cons ?_
  | with_reducible refine' w_call ?_ | with_reducible refine' w_meth ?_ | with_reducible refine' w_make ?_ | with_reducible refine' w_CB ?_ | with_reducible refine' w_BM0 ?_ | with_reducible refine' w_BM ?_ | with_reducible refine' w_tup ?_ | with_reducible refine' w_lst ?_
  | with_reducible refine' w_for ?_ | with_reducible refine' w_iList ?_ | with_reducible refine' w_iTup ?_ | with_reducible refine' w_lc ?_ | with_reducible refine' w_yes ?_ | with_reducible refine' w_max2 ?_ | with_reducible refine' w_min2 ?_ | with_reducible refine' w_ipI ?_ | with_reducible refine' w_gcons ?_ | with_reducible refine' w_gnil ?_
  | ((with_reducible refine' w_aug ?hv ?_); (case hv => exact rfl))
  | ((with_reducible refine' w_gtup ?hv ?hn ?_); (case hv => assumption); (case hn => exact rfl))
  | ((with_reducible refine' w_ixT ?hv ?ha ?_); (case hv => assumption); (case ha => exact rfl))
  | ((with_reducible refine' w_newT ?hv ?_); (case hv => exact Nat.le_of_ble_eq_true rfl))
  | ((with_reducible refine' w_newL ?hv ?_); (case hv => exact Nat.le_of_ble_eq_true rfl)))
local macro_rules | `(tactic| walk_at "go") => `(tactic| repeat' walk_at "go1")
section
variable {P : Program} {w : World} {K : PySem.W.Frag} {mg : Str → Option Value} {base : Heap}
/-! ### the law's rows and load -/
theorem ifK {p : Prop} [Decidable p] {A B T : Prop} (hA : T → p → A) (hB : T → ¬ p → B) (h : T) : if decide p = true then A else B := by
  by_cases hp : p
  · rw [decide_eq_true hp]; exact iteT (hA h hp)
  · rw [decide_eq_false hp]; exact iteF (hB h hp)
theorem mulb {a b A B : Int} (h1 : 1 ≤ a) (h2 : a ≤ A) (h3 : 1 ≤ b) (h4 : b ≤ B) : 1 ≤ a * b ∧ a * b ≤ A * B := by
  have g1 : 0 < a * b := Int.mul_pos (by omega) (by omega)
  have g2 : a * b ≤ A * B := Int.mul_le_mul h2 h4 (by omega) (by omega)
  exact ⟨by omega, g2⟩
def sp_law_rows : Sp := fun vs H Q _ => ∃ (cell : Int), vs = [.int cell] ∧ ∀ (H' : Hp) (t l : Addr) (ps : List Addr) (rows : List (Int × Int)) (rest bw : Int), Same H H' → H l = none → LT H' l ps (rows.map spanV) → RowsOk rows rest → 1 ≤ bw → bw ≤ 90000 → H' t = some (.tup [.ref l, .int rest, .int bw]) → Q (.ref t) H'
-- slots: 0 _law_cell, 1 _law_by, 2 _law_rows_here, 3 _law_k, 4 _law_number, 5 _law_rest
theorem sc_law_rows : FnScope ["_law_cell", "_law_by", "_law_rows_here", "_law_k", "_law_number", "_law_rest"] ["_law_cell"] (defScope s_law_rows) := ⟨rfl, rfl, rfl, by decide +kernel, rfl, by decide +kernel, by decide +kernel⟩
theorem cd_law_rows (T : Tx K mg) : ∃ fd, Cd P w K mg base 2 (He.ga K "_law_rows") ["_law_cell"] sp_law_rows fd := by
  obtain ⟨fd, F⟩ := T.F_law_rows
  obtain ⟨_, K_law_mixed⟩ := cd_law_mixed (P := P) (w := w) (base := base) T
  refine ⟨fd, F.ok sc_law_rows (fun vs H Q E h => ?_) (fun cdv A outer s H vs Q E hr h => ?_), FunD.bindsN F (fun _ _ _ _ _ _ us hl => match us, hl with | [_], _ => rfl), F.kp⟩
  · obtain ⟨cell, rfl, _⟩ := h
    rfl
  · obtain ⟨cell, rfl, q⟩ := h
    refine ⟨_, PSs.nox (pss_cons (ps_set (i := 1) sc_law_rows.nd rfl (Or.inl rfl) pe_int)
      (pss_cons (ps_if (pt_cmpR op_eq (pe_op op_mod (pe_op op_fdiv (pv 0) pe_int) pe_int) pe_int (nomark _)) (pss_one (ps_set (i := 1) sc_law_rows.nd rfl (Or.inl rfl) (pe_op op_add pe_int (pe_op op_mod (pe_call K_law_mixed.ok (hr.mono (by decide)) (by rfl) T.g_law_mixed K_law_mixed.kp K_law_mixed.bn .nil pass0 (pa_cons (pv 0) (pa_cons pe_int pa_nil))) pe_int)))) pss_nil)
      (pss_cons (ps_set (i := 2) sc_law_rows.nd rfl (Or.inl rfl) (pe_lst pa_nil))
      (pss_cons (ps_for PassesOwn.never rfl (pi_range1 rfl T.b_range (pa_cons (pe_op op_mod (pv 0) pe_int) pa_nil)) (pg_name (i := 3) sc_law_rows.nd rfl (Or.inl rfl)) (pss_cons (ps_set (i := 4) sc_law_rows.nd rfl (Or.inl rfl) (pe_op op_andM (pe_op op_shr (pe_op op_fdiv (pv 0) pe_int) (pe_op op_mul pe_int (pv 3))) pe_int))
      (pss_cons (ps_if (pt_cmpR op_eq (pe_op op_mod (pe_op op_fdiv (pv 0) pe_int) pe_int) pe_int (nomark _)) (pss_one (ps_set (i := 4) sc_law_rows.nd rfl (Or.inl rfl) (pe_call K_law_mixed.ok (hr.mono (by decide)) (by rfl) T.g_law_mixed K_law_mixed.kp K_law_mixed.bn .nil pass0 (pa_cons (pv 0) (pa_cons (pe_op op_add pe_int (pv 3)) pa_nil))))) pss_nil)
      (pss_one (ps_expr (pe_bm PySem.F.plainAttrs_list PySem.F.slot_list_append PySem.F.type_list_append mt_append (pv 2) (pa_cons (pe_tup (pa_cons (pe_op op_mul (pv 1) (pe_op op_add pe_int (pe_op op_mod (pv 4) pe_int))) (pa_cons (pe_op op_mod (pe_op op_fdiv (pv 4) pe_int) pe_int) pa_nil))) pa_nil)))))))
      (pss_cons (ps_set (i := 5) sc_law_rows.nd rfl (Or.inl rfl) (pe_op op_add pe_int (pe_op op_mod (pe_op op_fdiv (pv 0) pe_int) pe_int)))
      (pss_cons (ps_if (pt_cmpR op_eq (pe_op op_mod (pe_op op_fdiv (pv 0) pe_int) pe_int) pe_int (nomark _)) (pss_one (ps_set (i := 5) sc_law_rows.nd rfl (Or.inl rfl) pe_int)) pss_nil)
      (pss_one (ps_ret (pe_tup (pa_cons (pv 2) (pa_cons (pv 5) (pa_cons (pv 1) pa_nil)))))))))))), ?_⟩
    walk_at "go"
    refine w_I ⟨by omega, by omega⟩ ?_
    walk_at "go"
    refine w_I (by omega) ?_
    walk_at "go"
    refine ifK (T := ∀ bw : Int, 1 ≤ bw ∧ bw ≤ 90000 → (_ : L2.St → Hp → Prop) [some (.int cell), some (.int bw), none, none, none, none] H) (fun t h => ?_) (fun t h => t 1 ⟨by omega, by omega⟩) ?_
    · walk_at "go"
      refine ⟨_, _, rfl, ?_⟩
      walk_at "go"
      refine w_I (by omega) ?_
      refine w_I0 ?_
      refine w_name ?_
      exact t (1 + mixed cell 9 % 90000) ⟨by omega, by omega⟩
    intro bw hbw
    walk_at "go"
    intro l H1 hl s1 e1
    walk_at "go"
    refine w_I (by omega) ?_
    obtain ⟨n, hn⟩ : ∃ n : Nat, cell % 6 = (n : Int) := ⟨(cell % 6).toNat, by omega⟩
    have hn6 : n < 6 := by omega
    rw [hn]
    walk_at "go"
    refine w_rRng (n := n) (by omega) ?_
    refine lp_range (fun i σ H' => ∃ (ps : List Addr) (rows : List (Int × Int)) (v3 v4 : Option V), σ = [some (.int cell), some (.int bw), some (.ref l), v3, v4, none] ∧ Same H H' ∧ LT H' l ps (rows.map spanV) ∧ rows.length = i ∧ ∀ p ∈ rows, RowOk p)
      ⟨[], [], none, none, rfl, s1, ⟨e1, .nil⟩, rfl, fun p h => by simp at h⟩ (fun i σ H' hi p => ?_) (fun σ H' p => ?_)
    · obtain ⟨ps, rows, v3, v4, rfl, s, L, hlen, hr⟩ := p
      walk_at "go"
      refine w_I ⟨by omega, by omega⟩ ?_
      walk_at "go"
      refine w_I (.inl ⟨by omega, by omega⟩) ?_
      walk_at "go"
      refine w_I (by omega) ?_
      refine ⟨_, 6, rfl, rfl, ?_⟩
      have hnum : 0 ≤ cell / 7680 / 2 ^ (6 * (i : Int)).toNat % 2 ^ 6 := Int.emod_nonneg _ (by decide)
      generalize cell / 7680 / 2 ^ (6 * (i : Int)).toNat % 2 ^ 6 = num at hnum
      walk_at "go"
      refine w_I ⟨by omega, by omega⟩ ?_
      walk_at "go"
      refine w_I (by omega) ?_
      walk_at "go"
      refine ifK (T := ∀ m : Int, 0 ≤ m → (_ : L2.St → Hp → Prop) [some (.int cell), some (.int bw), some (.ref l), some (natV i), some (.int m), none] H') (fun t h => ?_) (fun t h => t num hnum) ?_
      · walk_at "go"
        refine ⟨_, _, rfl, ?_⟩
        refine w_name ?_
        exact t _ (mixed_nonneg _ _)
      intro m hm
      walk_at "go"
      refine w_rTyL L.at_ ?_
      walk_at "go"
      refine w_I (by omega) ?_
      walk_at "go"
      refine w_I (.inl ⟨by omega, by omega⟩) ?_
      walk_at "go"
      refine w_I ⟨by omega, by omega⟩ ?_
      walk_at "go"
      refine w_I (by omega) ?_
      walk_at "go"
      intro t H2 ht s2 e2
      walk_at "go"
      have L2 := L.same s2
      refine w_append L2.at_ (szlt (by rw [List.length_map, L2.len, List.length_map]; omega)) fun H3 b3 e3 => ?_
      walk_at "go"
      have hb := mulb hbw.1 hbw.2 (show 1 ≤ 1 + m % 9 by omega) (show 1 + m % 9 ≤ 9 by omega)
      refine ⟨ps ++ [t], rows ++ [(bw * (1 + m % 9), m / 9 % 5)], _, _, rfl, Same.but (s.trans s2) hl b3, ?_, by rw [List.length_append, hlen]; rfl, fun p hp => ?_⟩
      · rw [List.map_append]
        exact L2.snoc (r := spanV (bw * (1 + m % 9), m / 9 % 5)) e2 b3 e3
      · rcases List.mem_append.mp hp with hp | hp
        · exact hr p hp
        · rw [List.mem_singleton.mp hp]
          exact ⟨hb.1, by show bw * (1 + m % 9) ≤ 1000000; omega, by show 0 ≤ m / 9 % 5; omega, by show m / 9 % 5 ≤ 16; omega⟩
    · obtain ⟨ps, rows, v3, v4, rfl, s, L, hlen, hr⟩ := p
      walk_at "go"
      refine w_I ⟨by omega, by omega⟩ ?_
      walk_at "go"
      refine w_I (by omega) ?_
      walk_at "go"
      refine w_I ⟨by omega, by omega⟩ ?_
      walk_at "go"
      refine w_I (by omega) ?_
      walk_at "go"
      refine ifK (T := ∀ rest : Int, 1 ≤ rest ∧ rest ≤ 16 → (_ : L2.St → Hp → Prop) [some (.int cell), some (.int bw), some (.ref l), v3, v4, some (.int rest)] H') (fun t h => ?_) (fun t h => t _ ⟨by omega, by omega⟩) ?_
      · refine w_asg ?_
        refine w_c ?_
        refine w_name ?_
        exact t 16 ⟨by omega, by omega⟩
      intro rest hrest
      walk_at "go"
      intro t H2 ht s2 e2
      exact q _ t l ps rows rest bw (s.trans s2) hl (L.same s2) ⟨by omega, hr, hrest.1, hrest.2⟩ hbw.1 hbw.2 e2

end
end Due

set_option Elab.async false
set_option linter.all false
set_option maxRecDepth 100000
set_option maxHeartbeats 4000000
namespace Due
open PySem PySem.Spec PyProof.Rows L2
local macro_rules | `(tactic| walk_at "v") => `(tactic| ((with_reducible refine' w_var ?hv ?_); (case hv => exact rfl)))
local macro_rules | `(tactic| walk_at "go1") => `(tactic| first
  | with_reducible refine' w_seq ?_ | with_reducible refine' w_asg ?_ | with_reducible refine' w_name ?_ | with_reducible refine' w_ret ?_ | with_reducible refine' w_drop ?_ | with_reducible refine' w_ifs ?_ | with_reducible refine' w_next ?_ | with_reducible refine' w_retN ?_ | with_reducible refine' w_cont ?_
  | ((with_reducible refine' w_var ?hv ?_); (case hv => exact rfl)) | with_reducible refine' w_c ?_ | with_reducible refine' w_op ?_ | with_reducible refine' w_un ?_ | with_reducible refine' w_I0 ?_ | with_reducible refine' w_U ?_ | with_reducible refine' w_cmp ?_
  | ((with_reducible refine' w_eq ?hv ?_); (case hv => exact rfl)) | ((with_reducible refine' w_ne ?hv ?_); (case hv => exact rfl))
  | with_reducible refine' iteT ?_ | with_reducible refine' iteF ?_ | with_reducible refine' iteNT ?_ | with_reducible refine' iteNF ?_ | with_reducible refine' w_chain3 ?_ | with_reducible refine' w_augS ?_ | with_reducible refine' w_gsub ?_
  | with_reducible refine' w_sl ?_ | with_reducible refine' w_noPart ?_ | with_reducible refine' w_part ?_ | with_reducible refine' w_rPart ?_ | with_reducible refine' w_iZip ?_ | with_reducible refine' w_iEnum ?_ | with_reducible refine' w_iRng ?_
  | with_reducible refine' w_dget ?_ | with_reducible refine' w_dget2 ?_ | with_reducible refine' w_m1 ?_ | with_reducible refine' w_rM1 ?_ | with_reducible refine' w_din ?_ | with_reducible refine' w_dnotin ?_ | with_reducible refine' w_dput ?_
  | with_reducible refine' w_isN ?_ | with_reducible refine' w_notN ?_ | with_reducible refine' w_rBl ?_ | with_reducible refine' w_B ?_ | with_reducible refine' w_test ?_ | with_reducible refine' w_and ?_ | with_reducible refine' w_or ?_ | with_reducible refine' w_not ?_
  | with_reducible refine' w_andV ?_ | with_reducible refine' w_orV ?_ | with_reducible refine' w_notV ?_ | with_reducible refine' w_chain ?_ | with_reducible refine' w_fld ?_ | with_reducible refine' w_sfld ?_ | with_reducible refine' w_nil ?_ | with_reducible refine' w_cons ?_
  | with_reducible refine' w_call ?_ | with_reducible refine' w_meth ?_ | with_reducible refine' w_make ?_ | with_reducible refine' w_CB ?_ | with_reducible refine' w_BM0 ?_ | with_reducible refine' w_BM ?_ | with_reducible refine' w_tup ?_ | with_reducible refine' w_lst ?_
  | with_reducible refine' w_for ?_ | with_reducible refine' w_iList ?_ | with_reducible refine' w_iTup ?_ | with_reducible refine' w_lc ?_ | with_reducible refine' w_yes ?_ | with_reducible refine' w_max2 ?_ | with_reducible refine' w_min2 ?_ | with_reducible refine' w_ipI ?_ | with_reducible refine' w_gcons ?_ | with_reducible refine' w_gnil ?_
  | ((with_reducible refine' w_aug ?hv ?_); (case hv => exact rfl))
  | ((with_reducible refine' w_gtup ?hv ?hn ?_); (case hv => assumption); (case hn => exact rfl))
  | ((with_reducible refine' w_ixT ?hv ?ha ?_); (case hv => assumption); (case ha => exact rfl))
  | ((with_reducible refine' w_newT ?hv ?_); (case hv => exact Nat.le_of_ble_eq_true rfl))
  | ((with_reducible refine' w_newL ?hv ?_); (case hv => exact Nat.le_of_ble_eq_true rfl)))
local macro_rules | `(tactic| walk_at "go") => `(tactic| repeat' walk_at "go1")
section
variable {P : Program} {w : World} {K : PySem.W.Frag} {mg : Str → Option Value} {base : Heap}
/-! ### the law's load -/
theorem ix3 {x : Int} (h0 : 0 ≤ x) (h1 : x < 3) : ∃ d : Int, atI [V.int 4, V.int 12, V.int 60] x = some (.int d) ∧ 1 ≤ d ∧ d ≤ 60 := by
  have h : x = 0 ∨ x = 1 ∨ x = 2 := by omega
  rcases h with rfl | rfl | rfl
  · exact ⟨4, rfl, by omega, by omega⟩
  · exact ⟨12, rfl, by omega, by omega⟩
  · exact ⟨60, rfl, by omega, by omega⟩
theorem ix4 {x : Int} (h0 : 0 ≤ x) (h1 : x < 4) : ∃ d : Int, atI [V.int 1, V.int 1, V.int 3, V.int 16] x = some (.int d) ∧ 1 ≤ d ∧ d ≤ 16 := by
  have h : x = 0 ∨ x = 1 ∨ x = 2 ∨ x = 3 := by omega
  rcases h with rfl | rfl | rfl | rfl
  · exact ⟨1, rfl, by omega, by omega⟩
  · exact ⟨1, rfl, by omega, by omega⟩
  · exact ⟨3, rfl, by omega, by omega⟩
  · exact ⟨16, rfl, by omega, by omega⟩
theorem mul0b {a b A B : Int} (h1 : 0 ≤ a) (h2 : a ≤ A) (h3 : 0 ≤ b) (h4 : b ≤ B) : 0 ≤ a * b ∧ a * b ≤ A * B := ⟨Int.mul_nonneg h1 h3, Int.mul_le_mul h2 h4 h3 (by omega)⟩
def sp_law_load : Sp := fun vs H Q _ => ∃ (a : Addr) (xs : List Int) (bw : Int), vs = [.ref a, .int bw] ∧ SqL K H a (xs.map V.int) ∧ 1 ≤ bw ∧ bw ≤ 90000 ∧
  ∀ (H' : Hp) (l : Addr) (ps : List Addr) (js : List Job), Same H H' → H l = none → LT H' l ps (js.map jobV) → LoadOk js → (∀ j ∈ js, j.la - j.fi < 536870912) → Q (.ref l) H'
-- slots: 0 _law_script, 1 _law_by, 2 _law_cell, 3 _law_many, 4 _law_far, 5 _law_names_here, 6 _law_load_here, 7 _law_k, 8 _law_number, 9 _law_first, 10 _law_last, 11 _law_work, 12 _law_breadth
theorem sc_law_load : FnScope ["_law_script", "_law_by", "_law_cell", "_law_many", "_law_far", "_law_names_here", "_law_load_here", "_law_k", "_law_number", "_law_first", "_law_last", "_law_work", "_law_breadth"] ["_law_script", "_law_by"] (defScope s_law_load) := ⟨rfl, rfl, rfl, by decide +kernel, rfl, by decide +kernel, by decide +kernel⟩
theorem cd_law_load (T : Tx K mg) : ∃ fd, Cd P w K mg base 3 (He.ga K "_law_load") ["_law_script", "_law_by"] (sp_law_load (K := K)) fd := by
  obtain ⟨fd, F⟩ := T.F_law_load
  obtain ⟨_, K_law_cell_at⟩ := cd_law_cell_at (P := P) (w := w) (base := base) T
  obtain ⟨_, K_law_mixed⟩ := cd_law_mixed (P := P) (w := w) (base := base) T
  obtain ⟨_, K_law_names⟩ := cd_law_names (P := P) (w := w) (base := base) T
  refine ⟨fd, F.ok sc_law_load (fun vs H Q E h => ?_) (fun cdv A outer s H vs Q E hr h => ?_), FunD.bindsN F (fun _ _ _ _ _ _ us hl => match us, hl with | [_, _], _ => rfl), F.kp⟩
  · obtain ⟨a, xs, bw, rfl, _⟩ := h
    rfl
  · obtain ⟨a, xs, bw, rfl, e, hb1, hb2, q⟩ := h
    refine ⟨_, PSs.nox (pss_cons (ps_set (i := 2) sc_law_load.nd rfl (Or.inl rfl) (pe_call K_law_cell_at.ok (hr.mono (by decide)) (by rfl) T.g_law_cell_at K_law_cell_at.kp K_law_cell_at.bn .nil pass0 (pa_cons (pv 0) (pa_cons pe_int pa_nil))))
      (pss_cons (ps_set (i := 3) sc_law_load.nd rfl (Or.inl rfl) (pe_op op_mod (pv 2) pe_int))
      (pss_cons (ps_if (pt_cmpR op_eq (pe_op op_mod (pe_op op_fdiv (pv 2) pe_int) pe_int) pe_int (nomark _)) (pss_one (ps_set (i := 3) sc_law_load.nd rfl (Or.inl rfl) pe_int)) pss_nil)
      (pss_cons (ps_set (i := 4) sc_law_load.nd rfl (Or.inl rfl) pe_int)
      (pss_cons (ps_if (pt_cmpR op_eq (pe_op op_mod (pe_op op_fdiv (pv 2) pe_int) pe_int) pe_int (nomark _)) (pss_one (ps_set (i := 4) sc_law_load.nd rfl (Or.inl rfl) (pe_op op_mod (pe_call K_law_mixed.ok (hr.mono (by decide)) (by rfl) T.g_law_mixed K_law_mixed.kp K_law_mixed.bn .nil pass0 (pa_cons (pv 2) (pa_cons pe_int pa_nil))) (pe_op op_mul pe_int (pe_op op_pow pe_int pe_int))))) pss_nil)
      (pss_cons (ps_set (i := 5) sc_law_load.nd rfl (Or.inl rfl) (pe_call K_law_names.ok (hr.mono (by decide)) (by rfl) T.g_law_names K_law_names.kp K_law_names.bn .nil pass0 (pa_cons (pe_call K_law_cell_at.ok (hr.mono (by decide)) (by rfl) T.g_law_cell_at K_law_cell_at.kp K_law_cell_at.bn .nil pass0 (pa_cons (pv 0) (pa_cons pe_int pa_nil))) (pa_cons (pv 3) pa_nil))))
      (pss_cons (ps_set (i := 6) sc_law_load.nd rfl (Or.inl rfl) (pe_lst pa_nil))
      (pss_cons (ps_for PassesOwn.never rfl (pi_range1 rfl T.b_range (pa_cons (pv 3) pa_nil)) (pg_name (i := 7) sc_law_load.nd rfl (Or.inl rfl)) (pss_cons (ps_set (i := 8) sc_law_load.nd rfl (Or.inl rfl) (pe_call K_law_cell_at.ok (hr.mono (by decide)) (by rfl) T.g_law_cell_at K_law_cell_at.kp K_law_cell_at.bn .nil pass0 (pa_cons (pv 0) (pa_cons (pe_op op_add pe_int (pv 7)) pa_nil))))
      (pss_cons (ps_if (pt_cmpR op_eq (pe_op op_mod (pe_op op_fdiv (pv 2) pe_int) pe_int) pe_int (nomark _)) (pss_one (ps_set (i := 8) sc_law_load.nd rfl (Or.inl rfl) (pe_call K_law_mixed.ok (hr.mono (by decide)) (by rfl) T.g_law_mixed K_law_mixed.kp K_law_mixed.bn .nil pass0 (pa_cons (pv 8) (pa_cons (pv 7) pa_nil))))) pss_nil)
      (pss_cons (ps_set (i := 9) sc_law_load.nd rfl (Or.inl rfl) (pe_op op_add (pv 4) (pe_op op_mul (pv 1) (pe_op op_mod (pv 8) pe_int))))
      (pss_cons (ps_set (i := 10) sc_law_load.nd rfl (Or.inl rfl) (pe_op op_sub (pe_op op_add (pv 9) (pe_op op_mul (pv 1) (pe_op op_add pe_int (pe_op op_mod (pe_op op_fdiv (pv 8) pe_int) pe_int)))) pe_int))
      (pss_cons (ps_if (pt_cmpR op_eq (pe_op op_mod (pe_op op_fdiv (pv 8) pe_int) pe_int) pe_int (nomark _)) (pss_one (ps_set (i := 10) sc_law_load.nd rfl (Or.inl rfl) (pe_op op_sub (pv 9) pe_int))) pss_nil)
      (pss_cons (ps_set (i := 11) sc_law_load.nd rfl (Or.inl rfl) (pe_op op_add pe_int (pe_op op_mod (pe_op op_fdiv (pv 8) pe_int) (pe_ix ix_list (pe_lst (pa_cons pe_int (pa_cons pe_int (pa_cons pe_int pa_nil)))) (pe_op op_mod (pe_op op_fdiv (pv 8) pe_int) pe_int) (fun _ _ => rfl)))))
      (pss_cons (ps_set (i := 12) sc_law_load.nd rfl (Or.inl rfl) (pe_op op_add pe_int (pe_op op_mod (pe_op op_fdiv (pv 8) pe_int) (pe_ix ix_list (pe_lst (pa_cons pe_int (pa_cons pe_int (pa_cons pe_int (pa_cons pe_int pa_nil))))) (pe_op op_mod (pe_op op_fdiv (pv 8) pe_int) pe_int) (fun _ _ => rfl)))))
      (pss_one (ps_expr (pe_bm PySem.F.plainAttrs_list PySem.F.slot_list_append PySem.F.type_list_append mt_append (pv 6) (pa_cons (pe_tup (pa_cons (pe_ix ix_list (pv 5) (pv 7) (fun _ _ => rfl)) (pa_cons (pv 9) (pa_cons (pv 10) (pa_cons (pv 11) (pa_cons (pv 12) pa_nil)))))) pa_nil))))))))))))
      (pss_one (ps_ret (pv 6))))))))))), ?_⟩
    walk_at "go"
    refine ⟨a, xs, 1, rfl, e, ?_⟩
    generalize xs.getD 1 0 = cell
    walk_at "go"
    refine w_I (by omega) ?_
    obtain ⟨n0, hn0⟩ : ∃ n : Nat, cell % 8 = (n : Int) := ⟨(cell % 8).toNat, by omega⟩
    rw [hn0]
    walk_at "go"
    refine w_I ⟨by omega, by omega⟩ ?_
    walk_at "go"
    refine w_I (by omega) ?_
    walk_at "go"
    refine ifK (T := ∀ n : Nat, n ≤ 12 → (_ : L2.St → Hp → Prop) [some (.ref a), some (.int bw), some (.int cell), some (natV n), none, none, none, none, none, none, none, none, none] H) (fun t h => ?_) (fun t h => t n0 (by omega)) ?_
    · refine w_asg ?_
      refine w_c ?_
      refine w_name ?_
      exact t 12 (by omega)
    intro n hn
    walk_at "go"
    refine w_I ⟨by omega, by omega⟩ ?_
    walk_at "go"
    refine w_I (by omega) ?_
    walk_at "go"
    refine ifK (T := ∀ far : Int, 0 ≤ far ∧ far ≤ 900000000 → (_ : L2.St → Hp → Prop) [some (.ref a), some (.int bw), some (.int cell), some (natV n), some (.int far), none, none, none, none, none, none, none, none] H) (fun t h => ?_) (fun t h => t 0 (by omega)) ?_
    · walk_at "go"
      refine ⟨_, _, rfl, ?_⟩
      walk_at "go"
      refine w_I ⟨by omega, by omega, by decide⟩ ?_
      have e8 : (10 : Int) ^ (8 : Int).toNat = 100000000 := by decide
      rw [e8]
      refine w_I (.inl ⟨by omega, by omega⟩) ?_
      refine w_I (by omega) ?_
      refine w_name ?_
      exact t (mixed cell 10 % (9 * 100000000)) (by omega)
    intro far hfar
    walk_at "go"
    refine ⟨a, xs, 2, rfl, e, ?_⟩
    generalize xs.getD 2 0 = cell2
    walk_at "go"
    refine ⟨cell2, n, rfl, hn, fun H1 nl ns s1 hnl hlen hok hnd enl => ?_⟩
    walk_at "go"
    intro l H2 hl s2 el
    have hlH : H l = none := s1.free hl
    have nnl : nl ≠ l := ne_of_none enl hl
    walk_at "go"
    refine w_rRng (n := n) (by omega) ?_
    have e2 : SqL _ H2 a (xs.map V.int) := SqL.same (s1.trans s2) e
    refine lp_range (fun i σ H' => ∃ (ps : List Addr) (js : List Job) (v7 v8 v9 v10 v11 v12 : Option V), σ = [some (.ref a), some (.int bw), some (.int cell), some (natV n), some (.int far), some (.ref nl), some (.ref l), v7, v8, v9, v10, v11, v12] ∧ Same H H' ∧ H' nl = some (.lst (ns.map V.str)) ∧ LT H' l ps (js.map jobV) ∧ js.map (·.nm) = ns.take i ∧ ∀ j ∈ js, NumOk j ∧ j.la - j.fi < 536870912)
      ⟨[], [], none, none, none, none, none, none, rfl, s1.trans s2, s2 _ _ enl, ⟨el, .nil⟩, rfl, fun j h => by simp at h⟩ (fun i σ H' hi p => ?_) (fun σ H' p => ?_)
    · obtain ⟨ps, js, v7, v8, v9, v10, v11, v12, rfl, s, en, L, hnm, hj⟩ := p
      have hjl : js.length = i := by
        have := congrArg List.length hnm
        rw [List.length_map, List.length_take] at this
        omega
      walk_at "go"
      refine ⟨a, xs, 4 + i, by rw [show natV (4 + i) = V.int (4 + (i : Int)) by show V.int (((4 + i : Nat)) : Int) = _; rw [Int.natCast_add]; rfl], SqL.same s e, ?_⟩
      generalize xs.getD (4 + i) 0 = num
      walk_at "go"
      refine w_I ⟨by omega, by omega⟩ ?_
      walk_at "go"
      refine w_I (by omega) ?_
      walk_at "go"
      refine ifK (T := ∀ m : Int, (_ : L2.St → Hp → Prop) [some (.ref a), some (.int bw), some (.int cell), some (natV n), some (.int far), some (.ref nl), some (.ref l), some (natV i), some (.int m), v9, v10, v11, v12] H') (fun t h => ?_) (fun t h => t num) ?_
      · walk_at "go"
        refine ⟨_, _, rfl, ?_⟩
        refine w_name ?_
        exact t (mixed num i)
      intro m
      walk_at "go"
      refine w_I (by omega) ?_
      walk_at "go"
      refine w_I (.inl ⟨by omega, by omega⟩) ?_
      have hf := mul0b (show 0 ≤ bw by omega) hb2 (show 0 ≤ m % 17 by omega) (show m % 17 ≤ 16 by omega)
      walk_at "go"
      obtain ⟨fi, hfi⟩ : ∃ fi, far + bw * (m % 17) = fi := ⟨_, rfl⟩
      rw [hfi]
      refine w_I ⟨by omega, by omega⟩ ?_
      walk_at "go"
      refine w_I (by omega) ?_
      walk_at "go"
      refine w_I (.inl ⟨by omega, by omega⟩) ?_
      have hg := mulb hb1 hb2 (show 1 ≤ 1 + m / 17 % 11 by omega) (show 1 + m / 17 % 11 ≤ 11 by omega)
      walk_at "go"
      refine w_I ⟨by omega, by omega⟩ ?_
      walk_at "go"
      refine w_I (by omega) ?_
      walk_at "go"
      refine ifK (T := ∀ la : Int, fi - 1 ≤ la ∧ la ≤ fi + 990000 → (_ : L2.St → Hp → Prop) [some (.ref a), some (.int bw), some (.int cell), some (natV n), some (.int far), some (.ref nl), some (.ref l), some (natV i), some (.int m), some (.int fi), some (.int la), v11, v12] H') (fun t h => ?_) (fun t h => t (fi + bw * (1 + m / 17 % 11) - 1) (by omega)) ?_
      · refine w_asg ?_
        refine w_op ?_
        walk_at "v"
        refine w_c ?_
        refine w_I0 ?_
        refine w_name ?_
        exact t (fi - 1) (by omega)
      intro la hla
      walk_at "go"
      refine w_I ⟨by omega, by omega⟩ ?_
      walk_at "go"
      intro p1 H3 hp1 s3 e3
      walk_at "go"
      refine w_I ⟨by omega, by omega⟩ ?_
      walk_at "go"
      refine w_I (by omega) ?_
      obtain ⟨d1, hd1, hd1a, hd1b⟩ := ix3 (x := m / 180000 % 3) (by omega) (by omega)
      refine w_ixL e3 hd1 ?_
      refine w_I (by omega) ?_
      walk_at "go"
      have hw0 := Int.emod_nonneg (m / 3000) (show d1 ≠ 0 by omega)
      have hw1 := Int.emod_lt_of_pos (m / 3000) (show 0 < d1 by omega)
      refine w_I ⟨by omega, by omega⟩ ?_
      walk_at "go"
      intro p2 H4 hp2 s4 e4
      walk_at "go"
      refine w_I ⟨by omega, by omega⟩ ?_
      walk_at "go"
      refine w_I (by omega) ?_
      obtain ⟨d2, hd2, hd2a, hd2b⟩ := ix4 (x := m / 8640000 % 4) (by omega) (by omega)
      refine w_ixL e4 hd2 ?_
      refine w_I (by omega) ?_
      have hv0 := Int.emod_nonneg (m / 540000) (show d2 ≠ 0 by omega)
      have hv1 := Int.emod_lt_of_pos (m / 540000) (show 0 < d2 by omega)
      walk_at "go"
      have s34 := s3.trans s4
      refine w_rTyL (s34 _ _ L.at_) ?_
      walk_at "go"
      have hin : i < ns.length := by omega
      refine w_ixL (s34 _ _ en) (atI_nat (v := .str ns[i]) (by rw [List.getElem?_map, List.getElem?_eq_getElem hin]; rfl)) ?_
      walk_at "go"
      intro tt H5 htt s5 e5
      walk_at "go"
      have s35 := s34.trans s5
      have L5 := L.same s35
      refine w_append L5.at_ (szlt (by rw [List.length_map, L5.len, List.length_map]; omega)) fun H6 b6 e6 => ?_
      walk_at "go"
      have L6 := L5.snoc (r := jobV ⟨ns[i], fi, la, 1 + m / 3000 % d1, 1 + m / 540000 % d2⟩) e5 b6 e6
      refine ⟨ps ++ [tt], js ++ [⟨ns[i], fi, la, 1 + m / 3000 % d1, 1 + m / 540000 % d2⟩], _, _, _, _, _, _, rfl, Same.but (s.trans s35) hlH b6, b6 _ _ nnl (s35 _ _ en), by rw [List.map_append]; exact L6, ?_, fun j hjm => ?_⟩
      · rw [List.map_append, hnm, take_succ_of (List.getElem?_eq_getElem hin)]; rfl
      · rcases List.mem_append.mp hjm with hjm | hjm
        · exact hj j hjm
        · rw [List.mem_singleton.mp hjm]
          refine ⟨⟨?_, ?_, ?_, ?_, ?_, ?_, ?_, ?_, ?_⟩, ?_⟩
          · show 0 ≤ fi; omega
          · show fi ≤ 1000000000; omega
          · show -1 ≤ la; omega
          · show la ≤ 10000000000; omega
          · show 1 ≤ 1 + m / 3000 % d1; omega
          · show 1 + m / 3000 % d1 ≤ 60; omega
          · show 1 ≤ 1 + m / 540000 % d2; omega
          · show 1 + m / 540000 % d2 ≤ 16; omega
          · show la - fi ≤ 1000000; omega
          · show la - fi < 536870912; omega
    · obtain ⟨ps, js, v7, v8, v9, v10, v11, v12, rfl, s, en, L, hnm, hj⟩ := p
      rw [List.take_of_length_le (by omega)] at hnm
      walk_at "go"
      refine q _ l ps js s hlH L ⟨?_, fun j hjm => hok _ (by rw [← hnm]; exact List.mem_map.mpr ⟨j, hjm, rfl⟩), by rw [hnm]; exact hnd, fun j hjm => (hj j hjm).1⟩ fun j hjm => (hj j hjm).2
      have := congrArg List.length hnm
      rw [List.length_map] at this
      omega

end
end Due

set_option Elab.async false
set_option linter.all false
set_option maxRecDepth 100000
set_option maxHeartbeats 4000000
namespace Due
open PySem PySem.Spec PyProof.Rows L2
local macro_rules | `(tactic| walk_at "v") => `(tactic| ((with_reducible refine' w_var ?hv ?_); (case hv => exact rfl)))
local macro_rules | `(tactic| walk_at "go1") => `(tactic| first
  | with_reducible refine' w_seq ?_ | with_reducible refine' w_asg ?_ | with_reducible refine' w_name ?_ | with_reducible refine' w_ret ?_ | with_reducible refine' w_drop ?_ | with_reducible refine' w_ifs ?_ | with_reducible refine' w_next ?_ | with_reducible refine' w_retN ?_ | with_reducible refine' w_cont ?_
  | ((with_reducible refine' w_var ?hv ?_); (case hv => exact rfl)) | with_reducible refine' w_c ?_ | with_reducible refine' w_op ?_ | with_reducible refine' w_un ?_ | with_reducible refine' w_I0 ?_ | with_reducible refine' w_U ?_ | with_reducible refine' w_cmp ?_
  | ((with_reducible refine' w_eq ?hv ?_); (case hv => exact rfl)) | ((with_reducible refine' w_ne ?hv ?_); (case hv => exact rfl))
  | with_reducible refine' iteT ?_ | with_reducible refine' iteF ?_ | with_reducible refine' iteNT ?_ | with_reducible refine' iteNF ?_ | with_reducible refine' w_chain3 ?_ | with_reducible refine' w_augS ?_ | with_reducible refine' w_gsub ?_
  | with_reducible refine' w_sl ?_ | with_reducible refine' w_noPart ?_ | with_reducible refine' w_part ?_ | with_reducible refine' w_rPart ?_ | with_reducible refine' w_iZip ?_ | with_reducible refine' w_iEnum ?_ | with_reducible refine' w_iRng ?_
  | with_reducible refine' w_dget ?_ | with_reducible refine' w_dget2 ?_ | with_reducible refine' w_m1 ?_ | with_reducible refine' w_rM1 ?_ | with_reducible refine' w_din ?_ | with_reducible refine' w_dnotin ?_ | with_reducible refine' w_dput ?_
  | with_reducible refine' w_isN ?_ | with_reducible refine' w_notN ?_ | with_reducible refine' w_rBl ?_ | with_reducible refine' w_B ?_ | with_reducible refine' w_test ?_ | with_reducible refine' w_and ?_ | with_reducible refine' w_or ?_ | with_reducible refine' w_not ?_
  | with_reducible refine' w_andV ?_ | with_reducible refine' w_orV ?_ | with_reducible refine' w_notV ?_ | with_reducible refine' w_chain ?_ | with_reducible refine' w_fld ?_ | with_reducible refine' w_sfld ?_ | with_reducible refine' w_nil ?_ | with_reducible refine' w_cons ?_
  | with_reducible refine' w_call ?_ | with_reducible refine' w_meth ?_ | with_reducible refine' w_make ?_ | with_reducible refine' w_CB ?_ | with_reducible refine' w_BM0 ?_ | with_reducible refine' w_BM ?_ | with_reducible refine' w_tup ?_ | with_reducible refine' w_lst ?_
  | with_reducible refine' w_for ?_ | with_reducible refine' w_iList ?_ | with_reducible refine' w_iTup ?_ | with_reducible refine' w_lc ?_ | with_reducible refine' w_yes ?_ | with_reducible refine' w_max2 ?_ | with_reducible refine' w_min2 ?_ | with_reducible refine' w_ipI ?_ | with_reducible refine' w_gcons ?_ | with_reducible refine' w_gnil ?_
  | ((with_reducible refine' w_aug ?hv ?_); (case hv => exact rfl))
  | ((with_reducible refine' w_gtup ?hv ?hn ?_); (case hv => assumption); (case hn => exact rfl))
  | ((with_reducible refine' w_ixT ?hv ?ha ?_); (case hv => assumption); (case ha => exact rfl))
  | ((with_reducible refine' w_newT ?hv ?_); (case hv => exact Nat.le_of_ble_eq_true rfl))
  | ((with_reducible refine' w_newL ?hv ?_); (case hv => exact Nat.le_of_ble_eq_true rfl)))
local macro_rules | `(tactic| walk_at "go") => `(tactic| repeat' walk_at "go1")
section
variable {P : Program} {w : World} {K : PySem.W.Frag} {mg : Str → Option Value} {base : Heap}
/-! ### the law's reading of a plan -/
abbrev k2t (t : Int) (n : Str) : List Key := [Sum.inl t, Sum.inr n]
theorem k2t_inj {n n' : Str} {t t' : Int} : k2t t n = k2t t' n' ↔ t = t' ∧ n = n' := by
  constructor
  · intro h
    injection h with h1 h2
    injection h2 with h2 h3
    exact ⟨Sum.inl.inj h1, Sum.inr.inj h2⟩
  · rintro ⟨rfl, rfl⟩; rfl
theorem nm_inj {js : List Job} (h : (js.map (·.nm)).Nodup) {i k : Nat} {x y : Job} (hi : js[i]? = some x) (hk : js[k]? = some y) (e : x.nm = y.nm) : i = k := by
  have nd := List.pairwise_iff_getElem.mp h
  have e1 := List.getElem?_eq_some_iff.mp hi
  have e2 := List.getElem?_eq_some_iff.mp hk
  rcases Nat.lt_trichotomy i k with g | g | g
  · exact absurd (by rw [List.getElem_map, List.getElem_map, e1.2, e2.2, e]) (nd i k (by simpa using e1.1) (by simpa using e2.1) g)
  · exact g
  · exact absurd (by rw [List.getElem_map, List.getElem_map, e1.2, e2.2, e]) (nd k i (by simpa using e2.1) (by simpa using e1.1) g)
theorem w_rDGetT {H : Hp} {Q : VK} {a b : Addr} {kvs : List (List Key × V)} {k : List Key} {v : V} (e : H a = some (.dT kvs)) (eb : H b = some (.tup (k.map kV))) (hv : valV kvs k = some v) (h : Q v H) : rDGet (.ref a) (.ref b) H Q := ⟨a, v, rfl, by rw [← hv]; exact DGet.t e eb, h⟩
theorem cnt2_take {rows : List Row} {i : Nat} {z : Row} (ez : rows[i]? = some z) (n : Str) (t : Int) : cnt2 (rows.take (i + 1)) n t = cnt2 (rows.take i) n t + (if z.2.2 = n ∧ z.1 = t then 1 else 0) := by
  rw [take_succ_of ez, cnt2_snoc]
theorem cnt1_take {rows : List Row} {i : Nat} {z : Row} (ez : rows[i]? = some z) (n : Str) : cnt1 (rows.take (i + 1)) n = cnt1 (rows.take i) n + (if z.2.2 = n then 1 else 0) := by
  rw [take_succ_of ez, cnt1_snoc]
def sp_law_undone : Sp := fun vs H Q _ => ∃ (a b c : Addr) (qs ps us : List Addr) (rows : List Row) (js : List Job) (rws : List (Int × Int)) (rest : Int), vs = [.ref a, .ref b, .ref c, .int rest] ∧ LT H a qs (rows.map rowV) ∧ LT H b ps (js.map jobV) ∧ LoadOk js ∧ LT H c us (rws.map spanV) ∧ RowB rws rest ∧
  PlanOk js (fun t => wov 0 rws rest t t) rows ∧ (rows.Pairwise fun r s => r.1 < s.1 ∨ (r.1 = s.1 ∧ r.2.1 < s.2.1)) ∧ (∀ r ∈ rows, 0 ≤ r.1) ∧
  ∀ H', Same H H' → Q (.int ((js.map fun j => j.wk - ((cnt1 rows j.nm : Nat) : Int)).sum)) H'
-- slots: 0 _law_plan, 1 _law_load_here, 2 _law_rows_here, 3 _law_rest, 4 _law_jobs, 5 _law_done, 6 _law_job, 7 _law_ahead, 8 _law_turns, 9 _law_row
theorem sc_law_undone : FnScope ["_law_plan", "_law_load_here", "_law_rows_here", "_law_rest", "_law_jobs", "_law_done", "_law_job", "_law_ahead", "_law_turns", "_law_row"] ["_law_plan", "_law_load_here", "_law_rows_here", "_law_rest"] (defScope s_law_undone) := ⟨rfl, rfl, rfl, by decide +kernel, rfl, by decide +kernel, by decide +kernel⟩
theorem cd_law_undone (T : Tx K mg) : ∃ fd, Cd P w K mg base 3 (He.ga K "_law_undone") ["_law_plan", "_law_load_here", "_law_rows_here", "_law_rest"] sp_law_undone fd := by
  obtain ⟨fd, F⟩ := T.F_law_undone
  obtain ⟨_, K_law_row_right⟩ := cd_law_row_right (P := P) (w := w) (base := base) T
  refine ⟨fd, F.ok sc_law_undone (fun vs H Q E h => ?_) (fun cdv A outer s H vs Q E hr h => ?_), FunD.bindsN F (fun _ _ _ _ _ _ us hl => match us, hl with | [_, _, _, _], _ => rfl), F.kp⟩
  · obtain ⟨a, b, c, qs, ps, us, rows, js, rws, rest, rfl, _⟩ := h
    rfl
  · obtain ⟨a, b, c, qs, ps, us, rows, js, rws, rest, rfl, Lr, L, O, Lw, B, PO, rise, t00, q⟩ := h
    refine ⟨_, PSs.nox (pss_cons (ps_set (i := 4) sc_law_undone.nd rfl (Or.inl rfl) pe_dnewK)
      (pss_cons (ps_set (i := 5) sc_law_undone.nd rfl (Or.inr rfl) pe_dnewK)
      (pss_cons (ps_for PassesOwn.never rfl (pi_list (pv 1)) (pg_name (i := 6) sc_law_undone.nd rfl (Or.inl rfl)) (pss_cons (ps_dput (hu_of hr) (pv 4) (pe_ix ix_tup (pv 6) pe_int (fun _ _ => rfl)) (pv 6) rfl)
      (pss_one (ps_dput (hu_of hr) (pv 5) (pe_ix ix_tup (pv 6) pe_int (fun _ _ => rfl)) pe_int rfl))))
      (pss_cons (ps_set (i := 7) sc_law_undone.nd rfl (Or.inl rfl) (pe_tup (pa_cons (pe_un un_neg pe_int) (pa_cons (pe_un un_neg pe_int) pa_nil))))
      (pss_cons (ps_set (i := 8) sc_law_undone.nd rfl (Or.inl rfl) pe_dnewT)
      (pss_cons (ps_for PassesOwn.never rfl (pi_list (pv 0)) (pg_name (i := 9) sc_law_undone.nd rfl (Or.inl rfl)) (pss_cons (ps_if (PW.pt (pw_or (pt_not (pt_val (pe_call K_law_row_right.ok (hr.mono (by decide)) (by rfl) T.g_law_row_right K_law_row_right.kp K_law_row_right.bn .nil pass0 (pa_cons (pv 9) (pa_cons (pv 7) (pa_cons (pv 2) (pa_cons (pv 3) pa_nil))))))) (pw_or1 (pt_cmp (pc_dnotin (hu_of hr) (pe_ix ix_tup (pv 9) pe_int (fun _ _ => rfl)) (pv 4)))))) (pss_one (ps_ret pe_non)) pss_nil)
      (pss_cons (ps_set (i := 7) sc_law_undone.nd rfl (Or.inl rfl) (pe_tup (pa_cons (pe_ix ix_tup (pv 9) pe_int (fun _ _ => rfl)) (pa_cons (pe_ix ix_tup (pv 9) pe_int (fun _ _ => rfl)) pa_nil))))
      (pss_cons (ps_set (i := 6) sc_law_undone.nd rfl (Or.inl rfl) (pe_dget (hu_of hr) (pv 4) (pe_ix ix_tup (pv 9) pe_int (fun _ _ => rfl)) (fun _ _ => rfl)))
      (pss_cons (ps_dput (hu_of hr) (pv 8) (pe_tup (pa_cons (pe_ix ix_tup (pv 9) pe_int (fun _ _ => rfl)) (pa_cons (pe_ix ix_tup (pv 9) pe_int (fun _ _ => rfl)) pa_nil))) (pe_op op_add (pe_dget2 (hu_of hr) (pv 8) (pe_tup (pa_cons (pe_ix ix_tup (pv 9) pe_int (fun _ _ => rfl)) (pa_cons (pe_ix ix_tup (pv 9) pe_int (fun _ _ => rfl)) pa_nil))) pe_int ⟨rfl, rfl, rfl, rfl⟩) pe_int) rfl)
      (pss_cons (ps_dput (hu_of hr) (pv 5) (pe_ix ix_tup (pv 9) pe_int (fun _ _ => rfl)) (pe_op op_add (pe_dget (hu_of hr) (pv 5) (pe_ix ix_tup (pv 9) pe_int (fun _ _ => rfl)) (fun _ _ => rfl)) pe_int) rfl)
      (pss_one (ps_if (PW.pt (pw_or (pt_not (pt_chain op_le op_le (pe_ix ix_tup (pv 6) pe_int (fun _ _ => rfl)) (pe_ix ix_tup (pv 9) pe_int (fun _ _ => rfl)) (pe_ix ix_tup (pv 6) pe_int (fun _ _ => rfl)))) (pw_or (pt_cmpR op_gt (pe_dget (hu_of hr) (pv 8) (pe_tup (pa_cons (pe_ix ix_tup (pv 9) pe_int (fun _ _ => rfl)) (pa_cons (pe_ix ix_tup (pv 9) pe_int (fun _ _ => rfl)) pa_nil))) (fun _ _ => rfl)) (pe_ix ix_tup (pv 6) pe_int (fun _ _ => rfl)) (nomark _)) (pw_or1 (pt_cmpR op_gt (pe_dget (hu_of hr) (pv 5) (pe_ix ix_tup (pv 9) pe_int (fun _ _ => rfl)) (fun _ _ => rfl)) (pe_ix ix_tup (pv 6) pe_int (fun _ _ => rfl)) (nomark _)))))) (pss_one (ps_ret pe_non)) pss_nil))))))))
      (pss_one (ps_ret (pe_callB (cr_sum rfl) (by rfl) T.b_sum (by decide +kernel) (pa_cons (pe_lc (own := [("_law_job", 6)]) (g := (gName 6)) (tt := tYes) (te := (tOp (rI0 fun i j => .int (i - j)) (tOp (rIxT K) (tVar 6) (tC (.int 3))) (tDGet (tVar 5) (tOp (rIxT K) (tVar 6) (tC (.int 0)))))) (by rfl) sc_law_undone.nd (pi_list (pv 1)) (blkOk_by (N := ["_law_plan", "_law_load_here", "_law_rows_here", "_law_rest", "_law_jobs", "_law_done", "_law_job", "_law_ahead", "_law_turns", "_law_row"]) (sc := defScope s_law_undone) (by decide +kernel)) (fun _ _ _ _ _ => (pg_name (i := 6) sc_law_undone.nd rfl (Or.inl rfl))) (fun _ _ _ _ _ => pts_nil) (fun _ _ _ _ _ => (pe_op op_sub (pe_ix ix_tup (pv 6) pe_int (fun _ _ => rfl)) (pe_dget (hu_of hr) (pv 5) (pe_ix ix_tup (pv 6) pe_int (fun _ _ => rfl)) (fun _ _ => rfl))))) pa_nil)))))))))), ?_⟩
    walk_at "go"
    have hj := O.len
    have hzr := PO.len
    refine w_dnewK fun aj H1 haj s1 e1 => ?_
    walk_at "go"
    refine w_dnewK fun ad H2 had s2 e2 => ?_
    walk_at "go"
    have s12 := s1.trans s2
    have nad : H ad = none := s1.free had
    have njd : aj ≠ ad := ne_of_none e1 had
    refine w_rIt (s12 _ _ L.at_) ?_
    refine lp_LT (ps := ps) (rs := js.map jobV) (fun i σ H' => ∃ (v6 : Option V) (kj kd : List (Key × V)), σ = [some (.ref a), some (.ref b), some (.ref c), some (.int rest), some (.ref aj), some (.ref ad), v6, none, none, none] ∧ Same H H' ∧ H' aj = some (.dK kj) ∧ H' ad = some (.dK kd) ∧ kj.length ≤ i ∧ kd.length ≤ i ∧
        (∀ (k : Nat) (x : Addr) (j : Job), k < i → ps[k]? = some x → js[k]? = some j → valV kj (Sum.inr j.nm : Key) = some (.ref x) ∧ valV kd (Sum.inr j.nm : Key) = some (.int 0)))
      ⟨none, [], [], rfl, s12, s2 _ _ e1, e2, Nat.le_refl _, Nat.le_refl _, fun k x j hk => absurd hk (Nat.not_lt_zero k)⟩ (fun i σ H' hi p => ?_) (fun i q' r σ H' hi hp' hr hq p => ?_) (fun σ H' p => ?_)
    · obtain ⟨v6, kj, kd, rfl, s, _⟩ := p
      exact L.same s
    · obtain ⟨v6, kj, kd, rfl, s, ej, ed, lj, ld, hv⟩ := p
      obtain ⟨z, ez, rfl⟩ := map_get hr
      rw [List.length_map] at hi
      have hqn : q' ≠ aj := ne_of hq ej (by intro h; cases h)
      walk_at "go"
      refine w_rDPutS ej (szlt (by omega)) fun H3 b3 e3 => ?_
      have hq3 := b3 _ _ hqn hq
      have ed3 := b3 _ _ njd.symm ed
      walk_at "go"
      refine w_rDPutS ed3 (szlt (by omega)) fun H4 b4 e4 => ?_
      walk_at "go"
      refine ⟨_, _, _, rfl, Same.but (Same.but s haj b3) nad b4, b4 _ _ njd e3, e4, ?_, ?_, fun k x j hk hx hj' => ?_⟩
      · have := putK_len kj (Sum.inr z.nm : Key) (.ref q'); omega
      · have := putK_len kd (Sum.inr z.nm : Key) (.int 0); omega
      · rw [valV_put, valV_put]
        by_cases g : k = i
        · subst g
          rw [ez] at hj'
          cases hj'
          rw [hp'] at hx
          cases hx
          rw [if_pos rfl, if_pos rfl]
          exact ⟨rfl, rfl⟩
        · have hne : ¬ (Sum.inr j.nm : Key) = Sum.inr z.nm := fun e => g (nm_inj O.nd hj' ez (Sum.inr.inj e))
          rw [if_neg hne, if_neg hne]
          exact hv k x j (by omega) hx hj'
    · obtain ⟨v6, kj, kd, rfl, s, ej, ed, lj, ld, hv⟩ := p
      rw [List.length_map] at lj ld hv
      walk_at "go"
      intro x0 H3 hx0 s3 ex0
      walk_at "go"
      refine w_dnewT fun at' H4 hat s4 e4 => ?_
      walk_at "go"
      have s34 := s3.trans s4
      have s04 := s.trans s34
      have nat : H at' = none := (s.trans s3).free hat
      have njt : aj ≠ at' := ne_of_none (s3 _ _ ej) hat
      have ndt : ad ≠ at' := ne_of_none (s3 _ _ ed) hat
      refine w_rIt (s04 _ _ Lr.at_) ?_
      refine lp_LT (ps := qs) (rs := rows.map rowV) (fun i σ H' => ∃ (v6 v9 : Option V) (x : Addr) (t0 m0 : Int) (kt : List (List Key × V)) (kd : List (Key × V)), σ = [some (.ref a), some (.ref b), some (.ref c), some (.int rest), some (.ref aj), some (.ref ad), v6, some (.ref x), some (.ref at'), v9] ∧ Same H H' ∧ H' aj = some (.dK kj) ∧ H' ad = some (.dK kd) ∧ H' at' = some (.dT kt) ∧
          kt.length ≤ i ∧ kd.length ≤ 100 + i ∧ H' x = some (.tup [.int t0, .int m0]) ∧ ((t0 = -1 ∧ m0 = -1) ∨ ∃ (k : Nat) (r : Row), k < i ∧ rows[k]? = some r ∧ t0 = r.1 ∧ m0 = r.2.1) ∧ (∀ n t, valV kt (k2t t n) = cntO (cnt2 (rows.take i) n t)) ∧ ∀ j ∈ js, valV kd (Sum.inr j.nm : Key) = some (.int ((cnt1 (rows.take i) j.nm : Nat) : Int)))
        ⟨_, _, x0, -1, -1, [], kd, rfl, s04, s34 _ _ ej, s34 _ _ ed, e4, Nat.le_refl _, by omega, s4 _ _ ex0, .inl ⟨rfl, rfl⟩, fun n t => rfl, fun j hjm => ?_⟩ (fun i σ H' hi p => ?_) (fun i q' r σ H' hi hp' hr hq p => ?_) (fun σ H' p => ?_)
      · obtain ⟨k, hk⟩ := List.getElem?_of_mem hjm
        have hkl := (List.getElem?_eq_some_iff.mp hk).1
        have hpl : ps.length = js.length := by rw [L.len, List.length_map]
        exact (hv k ps[k] j hkl (List.getElem?_eq_getElem (by omega)) hk).2
      · obtain ⟨v6, v9, x, t0, m0, kt, kd, rfl, s, _⟩ := p
        exact Lr.same s
      · obtain ⟨v6, v9, x, t0, m0, kt, kd, rfl, s, ej, ed, et, lt, ld, ex, ho, ht, hd⟩ := p
        obtain ⟨z, ez, rfl⟩ := map_get hr
        rw [List.length_map] at hi
        have hzm := List.mem_of_getElem? ez
        obtain ⟨j, hjm, jn, jf, jl, jm, jc⟩ := PO.job z hzm
        have hz0 := t00 z hzm
        obtain ⟨k, hk⟩ := List.getElem?_of_mem hjm
        have hkl := (List.getElem?_eq_some_iff.mp hk).1
        have hpl : ps.length = js.length := by rw [L.len, List.length_map]
        have hpk : ps[k]? = some ps[k] := List.getElem?_eq_getElem (by omega)
        have hkj := (hv k ps[k] j hkl hpk hk).1
        rw [jn] at hkj
        have hjt : H' ps[k] = some (.tup (jobV j)) := by
          obtain ⟨r', hr', he'⟩ := prd_at (L.same s).tt hpk
          rw [List.getElem?_map, hk] at hr'
          cases hr'
          exact he'
        have c2 := count_take (p := fun r' : Row => decide (r'.2.2 = j.nm ∧ r'.1 = z.1)) ez (decide_eq_true ⟨jn.symm, rfl⟩)
        have c1 := count_take (p := fun r' : Row => decide (r'.2.2 = j.nm)) ez (decide_eq_true jn.symm)
        have g2 := PO.brd j hjm z.1
        have g1 := PO.wrk j hjm
        have g2' : ((cnt2 (rows.take i) z.2.2 z.1 : Nat) : Int) + 1 ≤ j.br := by
          unfold cnt2
          rw [← jn]
          omega
        have g1' : ((cnt1 (rows.take i) z.2.2 : Nat) : Int) + 1 ≤ j.wk := by
          unfold cnt1
          rw [← jn]
          omega
        have hord : t0 < z.1 ∨ (t0 = z.1 ∧ m0 < z.2.1) := by
          rcases ho with ⟨h1, h2⟩ | ⟨k', r', hk', hr', h1, h2⟩
          · left; omega
          · have a1 := List.getElem?_eq_some_iff.mp hr'
            have a2 := List.getElem?_eq_some_iff.mp ez
            have := (List.pairwise_iff_getElem.mp rise) k' i a1.1 a2.1 hk'
            rw [a1.2, a2.2] at this
            rw [h1, h2]; exact this
        walk_at "go"
        refine ⟨_, _, _, _, _, _, _, _, _, _, _, rfl, hq, ex, Lw.same s, B, hord, hz0, jm, jc, fun H5 s5 => ?_⟩
        have hq5 := s5 _ _ hq
        walk_at "go"
        refine w_rDNotInS (s5 _ _ ej) ?_
        rw [hkj]
        walk_at "go"
        refine iteF ?_
        walk_at "go"
        intro x2 H6 hx2 s6 e6
        have s56 := s5.trans s6
        have hq6 := s56 _ _ hq
        walk_at "go"
        refine w_rDGetS (s56 _ _ ej) hkj ?_
        walk_at "go"
        refine w_rD2T (s56 _ _ et) ?_
        walk_at "go"
        intro y1 H7 hy1 s7 f7
        have s57 := s56.trans s7
        have hq7 := s57 _ _ hq
        walk_at "go"
        refine w_rD3T (k := k2t z.1 z.2.2) (s57 _ _ et) f7 ?_
        rw [ht, cntO_getD]
        walk_at "go"
        intro y2 H8 hy2 s8 f8
        have s58 := s57.trans s8
        refine w_rDPutT (k := k2t z.1 z.2.2) (s58 _ _ et) f8 (szlt (by omega)) fun H9 b9 e9 => ?_
        have hqt : q' ≠ at' := ne_of hq et (by intro h; cases h)
        have hq9 := b9 _ _ hqt (s58 _ _ hq)
        have ed9 := b9 _ _ ndt (s58 _ _ ed)
        have hdz := hd j hjm
        rw [jn] at hdz
        walk_at "go"
        refine w_rDGetS ed9 hdz ?_
        walk_at "go"
        refine w_rDPutS ed9 (szlt (by omega)) fun H10 b10 e10 => ?_
        have hqd : q' ≠ ad := ne_of hq ed (by intro h; cases h)
        have hq10 := b10 _ _ hqd hq9
        have hjd : ps[k] ≠ ad := ne_of hjt ed (by intro h; cases h)
        have hjt' : ps[k] ≠ at' := ne_of hjt et (by intro h; cases h)
        have hjt10 := b10 _ _ hjd (b9 _ _ hjt' (s58 _ _ hjt))
        have et10 := b10 _ _ ndt.symm e9
        walk_at "go"
        refine ifT jf ?_
        walk_at "go"
        refine ifnF jl ?_
        walk_at "go"
        intro y3 H11 hy3 s11 f11
        have hq11 := s11 _ _ hq10
        have hjt11 := s11 _ _ hjt10
        refine w_rDGetT (k := k2t z.1 z.2.2) (s11 _ _ et10) f11 (by rw [valV_put, if_pos rfl]) ?_
        walk_at "go"
        refine ifF (by omega) ?_
        walk_at "go"
        refine w_rDGetS (s11 _ _ e10) (by rw [valV_put, if_pos rfl]) ?_
        walk_at "go"
        refine ifF (by omega) ?_
        walk_at "go"
        have hxt : x2 ≠ at' := ne_of e6 (s56 _ _ et) (by intro h; cases h)
        have hxd : x2 ≠ ad := ne_of e6 (s56 _ _ ed) (by intro h; cases h)
        have s610 : Same H H11 := (Same.but (Same.but (s.trans s58) nat b9) nad b10).trans s11
        refine ⟨_, _, x2, z.1, z.2.1, _, _, rfl, s610, s11 _ _ (b10 _ _ njd (b9 _ _ njt (s58 _ _ ej))), s11 _ _ e10, s11 _ _ et10, ?_, ?_, s11 _ _ (b10 _ _ hxd (b9 _ _ hxt (s8 _ _ (s7 _ _ e6)))), .inr ⟨i, z, by omega, ez, rfl, rfl⟩, fun n t => ?_, fun j2 hj2 => ?_⟩
        · have := putK_len kt (k2t z.1 z.2.2) (.int (((cnt2 (rows.take i) z.2.2 z.1 : Nat) : Int) + 1)); omega
        · have := putK_len kd (Sum.inr z.2.2 : Key) (.int (((cnt1 (rows.take i) z.2.2 : Nat) : Int) + 1)); omega
        · rw [valV_put, ht, cnt2_take ez]
          by_cases g : t = z.1 ∧ n = z.2.2
          · rw [if_pos (k2t_inj.mpr g), if_pos ⟨g.2.symm, g.1.symm⟩, cntO_succ, g.1, g.2]
          · rw [if_neg (fun e => g (k2t_inj.mp e)), if_neg (fun e => g ⟨e.2.symm, e.1.symm⟩), Nat.add_zero]
        · rw [valV_put, cnt1_take ez]
          by_cases g : j2.nm = z.2.2
          · rw [if_pos (by rw [g]), if_pos g.symm, g]
            congr 2
          · rw [if_neg (fun e => g (Sum.inr.inj e)), if_neg (fun e => g e.symm), Nat.add_zero]
            exact hd j2 hj2
      · obtain ⟨v6, v9, x, t0, m0, kt, kd, rfl, s, ej, ed, et, lt, ld, ex, ho, ht, hd⟩ := p
        rw [List.take_of_length_le (by rw [List.length_map]; exact Nat.le_refl _)] at hd
        walk_at "go"
        refine w_rIt (s _ _ L.at_) fun D hD => ?_
        refine lpc_LT (L.same s) (fun j => V.int (j.wk - ((cnt1 rows j.nm : Nat) : Int))) hD (by omega) (fun i q0 r0 H2 N f1 f2 s2' h2 => ?_) (fun x H' N N' h k => mono_name N N' h k) (fun H2 s2' f2 => ?_)
        · walk_at "go"
          refine ⟨rfl, ?_⟩
          walk_at "go"
          refine w_rDGetS (s2' _ _ ed) (hd _ (List.mem_of_getElem? f1)) ?_
          walk_at "go"
          exact h2 _ (Same.refl _)
        · walk_at "go"
          refine w_sum (ns := js.map fun j => j.wk - ((cnt1 rows j.nm : Nat) : Int)) (by rw [f2, List.map_map]; rfl) ?_
          exact q _ (s.trans s2')

end
end Due

set_option Elab.async false
set_option linter.all false
set_option maxRecDepth 100000
set_option maxHeartbeats 4000000
namespace Due
open PySem PySem.Spec PyProof.Rows L2
local macro_rules | `(tactic| walk_at "v") => `(tactic| ((with_reducible refine' w_var ?hv ?_); (case hv => exact rfl)))
local macro_rules | `(tactic| walk_at "go1") => `(tactic| first
  | with_reducible refine' w_seq ?_ | with_reducible refine' w_asg ?_ | with_reducible refine' w_name ?_ | with_reducible refine' w_ret ?_ | with_reducible refine' w_drop ?_ | with_reducible refine' w_ifs ?_ | with_reducible refine' w_next ?_ | with_reducible refine' w_retN ?_ | with_reducible refine' w_cont ?_
  | ((with_reducible refine' w_var ?hv ?_); (case hv => exact rfl)) | with_reducible refine' w_c ?_ | with_reducible refine' w_op ?_ | with_reducible refine' w_un ?_ | with_reducible refine' w_I0 ?_ | with_reducible refine' w_U ?_ | with_reducible refine' w_cmp ?_
  | ((with_reducible refine' w_eq ?hv ?_); (case hv => exact rfl)) | ((with_reducible refine' w_ne ?hv ?_); (case hv => exact rfl))
  | with_reducible refine' iteT ?_ | with_reducible refine' iteF ?_ | with_reducible refine' iteNT ?_ | with_reducible refine' iteNF ?_ | with_reducible refine' w_chain3 ?_ | with_reducible refine' w_augS ?_ | with_reducible refine' w_gsub ?_
  | with_reducible refine' w_sl ?_ | with_reducible refine' w_noPart ?_ | with_reducible refine' w_part ?_ | with_reducible refine' w_rPart ?_ | with_reducible refine' w_iZip ?_ | with_reducible refine' w_iEnum ?_ | with_reducible refine' w_iRng ?_
  | with_reducible refine' w_dget ?_ | with_reducible refine' w_dget2 ?_ | with_reducible refine' w_m1 ?_ | with_reducible refine' w_rM1 ?_ | with_reducible refine' w_din ?_ | with_reducible refine' w_dnotin ?_ | with_reducible refine' w_dput ?_
  | with_reducible refine' w_isN ?_ | with_reducible refine' w_notN ?_ | with_reducible refine' w_rBl ?_ | with_reducible refine' w_B ?_ | with_reducible refine' w_test ?_ | with_reducible refine' w_and ?_ | with_reducible refine' w_or ?_ | with_reducible refine' w_not ?_
  | with_reducible refine' w_andV ?_ | with_reducible refine' w_orV ?_ | with_reducible refine' w_notV ?_ | with_reducible refine' w_chain ?_ | with_reducible refine' w_fld ?_ | with_reducible refine' w_sfld ?_ | with_reducible refine' w_nil ?_ | with_reducible refine' w_cons ?_
  | with_reducible refine' w_call ?_ | with_reducible refine' w_meth ?_ | with_reducible refine' w_make ?_ | with_reducible refine' w_CB ?_ | with_reducible refine' w_BM0 ?_ | with_reducible refine' w_BM ?_ | with_reducible refine' w_tup ?_ | with_reducible refine' w_lst ?_
  | with_reducible refine' w_for ?_ | with_reducible refine' w_iList ?_ | with_reducible refine' w_iTup ?_ | with_reducible refine' w_lc ?_ | with_reducible refine' w_yes ?_ | with_reducible refine' w_max2 ?_ | with_reducible refine' w_min2 ?_ | with_reducible refine' w_ipI ?_ | with_reducible refine' w_gcons ?_ | with_reducible refine' w_gnil ?_
  | ((with_reducible refine' w_aug ?hv ?_); (case hv => exact rfl))
  | ((with_reducible refine' w_gtup ?hv ?hn ?_); (case hv => assumption); (case hn => exact rfl))
  | ((with_reducible refine' w_ixT ?hv ?ha ?_); (case hv => assumption); (case ha => exact rfl))
  | ((with_reducible refine' w_newT ?hv ?_); (case hv => exact Nat.le_of_ble_eq_true rfl))
  | ((with_reducible refine' w_newL ?hv ?_); (case hv => exact Nat.le_of_ble_eq_true rfl)))
local macro_rules | `(tactic| walk_at "go") => `(tactic| repeat' walk_at "go1")
section
variable {P : Program} {w : World} {K : PySem.W.Frag} {mg : Str → Option Value} {base : Heap}
/-! ### the law's reading of a full verdict -/
theorem lay_all {n : Nat} : ∀ {ds : List PyData}, (∀ d ∈ ds, d.canLay0 = true ∧ d.depth ≤ n) → PyData.canLayAll0 ds = true ∧ PyData.depthAll ds ≤ n
  | [], _ => ⟨rfl, Nat.zero_le _⟩
  | d :: ds, h => by
    obtain ⟨h1, h2⟩ := h d List.mem_cons_self
    obtain ⟨h3, h4⟩ := lay_all (ds := ds) fun u hu => h u (List.mem_cons_of_mem _ hu)
    refine ⟨?_, ?_⟩
    · rw [PyData.canLayAll0, h1, h3]; rfl
    · rw [PyData.depthAll]; omega
theorem shaped_tup {ds : List PyData} (h : ∀ d ∈ ds, d.canLay0 = true ∧ d.depth ≤ 3) : SeqAt.shaped (.tuple ds) = true := by
  obtain ⟨h1, h2⟩ := lay_all h
  exact shaped_of h1 (by show PyData.depthAll ds + 1 ≤ 64; omega)
theorem shaped_lst {ds : List PyData} (h : ∀ d ∈ ds, d.canLay0 = true ∧ d.depth ≤ 3) : SeqAt.shaped (.list ds) = true := by
  obtain ⟨h1, h2⟩ := lay_all h
  exact shaped_of h1 (by show PyData.depthAll ds + 1 ≤ 64; omega)
theorem rowsFlat {js : List Job} {mc : Int → Int} {rows : List Row} (O : LoadOk js) (P : PlanOk js mc rows) : ∀ r ∈ rows.map rowV, ∀ v ∈ r, FlatOk v := fun r hr v hv => by
  obtain ⟨z, hz, rfl⟩ := List.mem_map.mp hr
  obtain ⟨j, hj, jn, _⟩ := P.job z hz
  rcases List.mem_cons.mp hv with rfl | hv
  · exact flat_int
  · rcases List.mem_cons.mp hv with rfl | hv
    · exact flat_int
    · rw [List.mem_singleton.mp hv, ← jn]
      exact nameOk_flat (O.nm j hj)
theorem crowdFlat {js : List Job} {sp : List (Int × Int)} (O : LoadOk js) : ∀ v ∈ (crowdedL js sp).map V.str, FlatOk v := fun v hv => by
  obtain ⟨x, hx, rfl⟩ := List.mem_map.mp hv
  unfold crowdedL at hx
  obtain ⟨j, hj, rfl⟩ := List.mem_map.mp hx
  exact nameOk_flat (O.nm j (List.mem_filter.mp hj).1)
/-- the data of a full verdict's parts -/
def fullD (rows : List Row) (lack : Int) (sp : List (Int × Int)) (js : List Job) : List PyData := [.str "full", rowsPD (rows.map rowV), .int lack, rowsPD (sp.map spanV), flatsPD ((crowdedL js sp).map V.str)]
theorem fullD_ok {js : List Job} {mc : Int → Int} {rows : List Row} (O : LoadOk js) (P : PlanOk js mc rows) (lack : Int) (sp : List (Int × Int)) : ∀ d ∈ fullD rows lack sp js, d.canLay0 = true ∧ d.depth ≤ 3 := fun d hd => by
  unfold fullD at hd
  rcases List.mem_cons.mp hd with rfl | hd
  · exact ⟨by decide +kernel, by decide⟩
  · rcases List.mem_cons.mp hd with rfl | hd
    · have := lay_rows (rowsFlat O P); exact ⟨this.1, by omega⟩
    · rcases List.mem_cons.mp hd with rfl | hd
      · exact ⟨rfl, Nat.zero_le _⟩
      · rcases List.mem_cons.mp hd with rfl | hd
        · have := lay_rows (spans_flat (ss := sp) spanV_flat); exact ⟨this.1, by omega⟩
        · rw [List.mem_singleton.mp hd]
          have := lay_flats (crowdFlat (sp := sp) O); exact ⟨this.1, by omega⟩
theorem fullD_dp {K : PySem.W.Frag} {H : Hp} {l1 l2 l3 : Addr} {qs us : List Addr} {js : List Job} {mc : Int → Int} {rows : List Row} {lack : Int} {sp : List (Int × Int)} (O : LoadOk js) (P : PlanOk js mc rows) (L1 : LT H l1 qs (rows.map rowV)) (L2 : LT H l2 us (sp.map spanV)) (e3 : H l3 = some (.lst ((crowdedL js sp).map V.str))) :
    DpAll K H [.str "full", .ref l1, .int lack, .ref l2, .ref l3] (fullD rows lack sp js) :=
  .cons (.str _) (.cons (dp_rows L1 (rowsFlat O P)) (.cons (.int _) (.cons (dp_rows L2 (spans_flat spanV_flat)) (.cons (dp_flats e3 (crowdFlat O)) .nil))))
def sp_law_full_right : Sp := fun vs H Q _ => ∃ (v dx ld c pl sl nl b rl : Addr) (qs us ps rs : List Addr) (js : List Job) (mc : Int → Int) (rows : List Row) (rws : List (Int × Int)) (rest lack : Int) (sp : List (Int × Int)), vs = [.ref v, .ref b, .ref rl, .int rest, .int lack] ∧ H v = some (.ins (He.ga K "Full") dx (fl_Full (.ref ld) (.ref c) (.ref pl) (.int lack) (.ref sl) (.ref nl))) ∧
  LT H pl qs (rows.map rowV) ∧ LoadOk js ∧ PlanOk js mc rows ∧ LT H sl us (sp.map spanV) ∧ H nl = some (.lst ((crowdedL js sp).map V.str)) ∧ LT H b ps (js.map jobV) ∧ LT H rl rs (rws.map spanV) ∧ RowB rws rest ∧ MgOk sp ∧ (∀ p ∈ sp, 0 ≤ p.1) ∧ sp.length ≤ 1000 ∧
  (js.map fun j => exc j sp).sum - (sp.map fun p => wov 0 rws rest p.1 p.2).sum = lack ∧ ∀ H', Same H H' → Q (.bl true) H'
-- slots: 0 _law_verdict, 1 _law_load_here, 2 _law_rows_here, 3 _law_rest, 4 _law_lack, 5 _law_told, 6 _law_job
theorem sc_law_full_right : FnScope ["_law_verdict", "_law_load_here", "_law_rows_here", "_law_rest", "_law_lack", "_law_told", "_law_job"] ["_law_verdict", "_law_load_here", "_law_rows_here", "_law_rest", "_law_lack"] (defScope s_law_full_right) := ⟨rfl, rfl, rfl, by decide +kernel, rfl, by decide +kernel, by decide +kernel⟩
theorem cd_law_full_right (T : Tx K mg) : ∃ fd, Cd P w K mg base 4 (He.ga K "_law_full_right") ["_law_verdict", "_law_load_here", "_law_rows_here", "_law_rest", "_law_lack"] (sp_law_full_right (K := K)) fd := by
  obtain ⟨fd, F⟩ := T.F_law_full_right
  obtain ⟨_, K_Full_kept⟩ := cd_Full_kept (P := P) (w := w) (base := base) T
  obtain ⟨_, K_Full_told⟩ := cd_Full_told (P := P) (w := w) (base := base) T
  obtain ⟨_, K_Full_word⟩ := cd_Full_word (P := P) (w := w) (base := base) T
  obtain ⟨_, K_law_excess⟩ := cd_law_excess (P := P) (w := w) (base := base) T
  obtain ⟨_, K_law_formed⟩ := cd_law_formed (P := P) (w := w) (base := base) T
  obtain ⟨_, K_law_overflow⟩ := cd_law_overflow (P := P) (w := w) (base := base) T
  obtain ⟨_, K_law_whole⟩ := cd_law_whole (P := P) (w := w) (base := base) T
  refine ⟨fd, F.ok sc_law_full_right (fun vs H Q E h => ?_) (fun cdv A outer s H vs Q E hr h => ?_), FunD.bindsN F (fun _ _ _ _ _ _ us hl => match us, hl with | [_, _, _, _, _], _ => rfl), F.kp⟩
  · obtain ⟨v, dx, ld, c, pl, sl, nl, b, rl, qs, us, ps, rs, js, mc, rows, rws, rest, lack, sp, rfl, _⟩ := h
    rfl
  · obtain ⟨v, dx, ld, c, pl, sl, nl, b, rl, qs, us, ps, rs, js, mc, rows, rws, rest, lack, sp, rfl, hv, Lp, O, P, Ls, en, L, Lr, B, M, h0, hz, ho, q⟩ := h
    refine ⟨_, PSs.nox (pss_cons (ps_set (i := 5) sc_law_full_right.nd rfl (Or.inr rfl) (pe_meth0 (pv 0) T.c_Full T.m_Full_told K_Full_told.ok (hr.mono (by decide)) K_Full_told.bn .nil pass0))
      (pss_cons (ps_if (PW.pt (pw_or (pt_cmpR op_notBl (pe_meth0 (pv 0) T.c_Full T.m_Full_kept K_Full_kept.ok (hr.mono (by decide)) K_Full_kept.bn .nil pass0) pe_bl (nomark _)) (pw_or (pt_cmpR op_ne (pe_meth0 (pv 0) T.c_Full T.m_Full_word K_Full_word.ok (hr.mono (by decide)) K_Full_word.bn .nil pass0) pe_str (nomark _)) (pw_or1 (pt_not (pt_val (pe_callB call_isi (by rfl) T.b_isinstance (by decide +kernel) (pa_cons (pv 0) (pa_cons (pe_glob rfl T.g_Full (v := .ref (He.ga K "Full")) rfl) pa_nil))))))))) (pss_one (ps_ret pe_bl)) pss_nil)
      (pss_cons (ps_if (pt_cmpR (op_neD hr.units) (pv 5) (pe_tup (pa_cons pe_str (pa_cons (pe_fld (pv 0) rfl) (pa_cons (pe_fld (pv 0) rfl) (pa_cons (pe_fld (pv 0) rfl) (pa_cons (pe_fld (pv 0) rfl) pa_nil)))))) (nomark _)) (pss_one (ps_ret pe_bl)) pss_nil)
      (pss_cons (ps_if (PW.pt (pw_or (pt_not (pt_val (pe_call K_law_whole.ok (hr.mono (by decide)) (by rfl) T.g_law_whole K_law_whole.kp K_law_whole.bn .nil pass0 (pa_cons (pe_ix ix_tup (pv 5) pe_int (fun _ _ => rfl)) pa_nil)))) (pw_or (pt_cmpR op_ne (pe_ix ix_tup (pv 5) pe_int (fun _ _ => rfl)) (pv 4) (nomark _)) (pw_or1 (pt_not (pt_val (pe_call K_law_formed.ok (hr.mono (by decide)) (by rfl) T.g_law_formed K_law_formed.kp K_law_formed.bn .nil pass0 (pa_cons (pe_ix ix_tup (pv 5) pe_int (fun _ _ => rfl)) pa_nil)))))))) (pss_one (ps_ret pe_bl)) pss_nil)
      (pss_cons (ps_if (pt_cmpR op_ne (pe_call K_law_overflow.ok (hr.mono (by decide)) (by rfl) T.g_law_overflow K_law_overflow.kp K_law_overflow.bn .nil pass0 (pa_cons (pv 1) (pa_cons (pv 2) (pa_cons (pv 3) (pa_cons (pe_ix ix_tup (pv 5) pe_int (fun _ _ => rfl)) pa_nil))))) (pv 4) (nomark _)) (pss_one (ps_ret pe_bl)) pss_nil)
      (pss_one (ps_ret (pe_cmpR (op_eqD hr.units) (pe_ix ix_tup (pv 5) pe_int (fun _ _ => rfl)) (pe_lc (own := [("_law_job", 6)]) (g := (gName 6)) (tt := (tTest (tOp (rI0 fun i j => .bl (decide (j < i))) (tCall _ [] E0 (tCons (tVar 6) (tCons (tOp (rIxT K) (tVar 5) (tC (.int 3))) tNil))) (tC (.int 0))))) (te := (tOp (rIxT K) (tVar 6) (tC (.int 0)))) (by rfl) sc_law_full_right.nd (pi_list (pv 1)) (blkOk_by (N := ["_law_verdict", "_law_load_here", "_law_rows_here", "_law_rest", "_law_lack", "_law_told", "_law_job"]) (sc := defScope s_law_full_right) (by decide +kernel)) (fun _ _ _ _ _ => (pg_name (i := 6) sc_law_full_right.nd rfl (Or.inl rfl))) (fun _ _ _ _ _ => (pts_one (pt_cmpR op_gt (pe_call K_law_excess.ok (hr.mono (by decide)) (by rfl) T.g_law_excess K_law_excess.kp K_law_excess.bn .nil pass0 (pa_cons (pv 6) (pa_cons (pe_ix ix_tup (pv 5) pe_int (fun _ _ => rfl)) pa_nil))) pe_int (nomark _)))) (fun _ _ _ _ _ => (pe_ix ix_tup (pv 6) pe_int (fun _ _ => rfl)))) (nomark _))))))))), ?_⟩
    walk_at "go"
    have hj := O.len
    refine w_rRecv hv no_Full_told ?_
    walk_at "go"
    refine ⟨_, _, _, _, _, _, _, _, _, _, _, rfl, hv, Lp.at_, Ls.at_, en, fun H1 t l1 l2 l3 s1 f1 f2 f3 n12 n13 n23 e1 e2 e3 et => ?_⟩
    walk_at "go"
    have hv1 := s1 _ _ hv
    refine w_rRecv hv1 no_Full_kept ?_
    walk_at "go"
    refine ⟨_, rfl, ?_⟩
    walk_at "go"
    refine w_notB ?_
    walk_at "go"
    refine ifnF rfl ?_
    walk_at "go"
    refine w_rRecv hv1 no_Full_word ?_
    walk_at "go"
    refine ⟨_, rfl, ?_⟩
    walk_at "go"
    refine ifnF rfl ?_
    walk_at "go"
    refine w_isiO hv1 T.c_Full (exF T.ex).of (exF T.ex) (exF T.ex).ff ?_
    walk_at "go"
    refine w_rFld hv1 T.c_Full T.n_Full_plan lk_Full_plan ?_
    walk_at "go"
    refine w_rFld hv1 T.c_Full T.n_Full_lack lk_Full_lack ?_
    walk_at "go"
    refine w_rFld hv1 T.c_Full T.n_Full_spans lk_Full_spans ?_
    walk_at "go"
    refine w_rFld hv1 T.c_Full T.n_Full_names lk_Full_names ?_
    walk_at "go"
    intro x H2 hx s2 ex
    have s12 := s1.trans s2
    have et2 := s2 _ _ et
    have La : LT H2 l1 qs (rows.map rowV) := ⟨s2 _ _ e1, (Lp.same s12).tt⟩
    have Lb : LT H2 l2 us (sp.map spanV) := ⟨s2 _ _ e2, (Ls.same s12).tt⟩
    refine w_neSame (d := .tuple (fullD rows lack sp js)) (.tup (SqT.of et2) (fullD_dp O P La Lb (s2 _ _ e3))) (.tup (SqT.of ex) (fullD_dp O P (Lp.same s12) (Ls.same s12) (s12 _ _ en))) (shaped_tup (fullD_ok O P lack sp)) ?_
    walk_at "go"
    refine ⟨_, rfl, ?_⟩
    walk_at "go"
    refine ifnF rfl ?_
    walk_at "go"
    refine ⟨_, _, _, rfl, Lb, M, h0, ?_⟩
    walk_at "go"
    refine ⟨_, _, _, _, _, _, _, _, _, _, rfl, L.same s12, O, Lr.same s12, B, Lb, hz, fun H3 s3 => ?_⟩
    rw [ho]
    walk_at "go"
    refine ifnF rfl ?_
    have et3 := s3 _ _ et2
    walk_at "go"
    have s13 := s12.trans s3
    have L3 := L.same s13
    have Lb3 := Lb.same s3
    have hjl : (ps.map V.ref).length = js.length := by rw [List.length_map, L3.len, List.length_map]
    refine w_rIt L3.at_ fun D hD => ?_
    refine lpc_sel (walk_list (xs := ps.map V.ref)) (fun i => decide (0 < exc (jg js i) sp)) (fun i => V.str (jg js i).nm) hD (by rw [hjl]; exact szlt (by omega)) (fun H s => SqL.of (s _ _ L3.at_)) (fun i x H H' y => by rw [y.1]; exact Same.refl _) (fun i x G1 G2 N Z hi g1 g2 y h1 h2 => ?_) (fun H4 s4 e4 => ?_)
    · obtain ⟨rfl, y⟩ := y
      obtain ⟨q1, r1, rfl, k1, k2, k3⟩ := (L3.same g1).item y
      obtain ⟨j, ej, rfl⟩ := map_get k2
      have ejg : j = jg js i := by
        have := jg_of (js := js) (j := i) (List.getElem?_eq_some_iff.mp ej).1
        rw [ej] at this
        exact Option.some.inj this
      rw [← ejg] at h1 h2
      have et4 := g1 _ _ et3
      walk_at "go"
      refine ⟨rfl, ?_⟩
      refine (show tTest _ _ _ _ from ?_)
      walk_at "go"
      refine ⟨_, _, _, _, _, rfl, k3, O.num _ (List.mem_of_getElem? ej), Lb3.same g1, hz, fun G3 g3 => ?_⟩
      walk_at "go"
      refine ifD (fun h => ?_) (fun h => ?_)
      · have k33 := g3 _ _ k3
        walk_at "go"
        exact h1 (decide_eq_true h) _ g3
      · exact h2 (decide_eq_false h) _ g3
    · have s34 := s3.trans s4
      rw [hjl, sel_js js (fun j => decide (0 < exc j sp)) (fun j => V.str j.nm)] at e4
      have e4' : H4 D = some (.lst ((crowdedL js sp).map V.str)) := by
        rw [e4]
        unfold crowdedL
        rw [List.map_map]; rfl
      refine w_eqSame (dp_flats (s34 _ _ (s2 _ _ e3)) (crowdFlat O)) (dp_flats e4' (crowdFlat O)) (sh_flats (crowdFlat O)) ?_
      exact q _ (s13.trans s4)

end
end Due

set_option Elab.async false
set_option linter.all false
set_option maxRecDepth 100000
set_option maxHeartbeats 4000000
namespace Due
open PySem PySem.Spec PyProof.Rows L2
local macro_rules | `(tactic| walk_at "v") => `(tactic| ((with_reducible refine' w_var ?hv ?_); (case hv => exact rfl)))
local macro_rules | `(tactic| walk_at "go1") => `(tactic| first
  | with_reducible refine' w_seq ?_ | with_reducible refine' w_asg ?_ | with_reducible refine' w_name ?_ | with_reducible refine' w_ret ?_ | with_reducible refine' w_drop ?_ | with_reducible refine' w_ifs ?_ | with_reducible refine' w_next ?_ | with_reducible refine' w_retN ?_ | with_reducible refine' w_cont ?_
  | ((with_reducible refine' w_var ?hv ?_); (case hv => exact rfl)) | with_reducible refine' w_c ?_ | with_reducible refine' w_op ?_ | with_reducible refine' w_un ?_ | with_reducible refine' w_I0 ?_ | with_reducible refine' w_U ?_ | with_reducible refine' w_cmp ?_
  | ((with_reducible refine' w_eq ?hv ?_); (case hv => exact rfl)) | ((with_reducible refine' w_ne ?hv ?_); (case hv => exact rfl))
  | with_reducible refine' iteT ?_ | with_reducible refine' iteF ?_ | with_reducible refine' iteNT ?_ | with_reducible refine' iteNF ?_ | with_reducible refine' w_chain3 ?_ | with_reducible refine' w_augS ?_ | with_reducible refine' w_gsub ?_
  | with_reducible refine' w_sl ?_ | with_reducible refine' w_noPart ?_ | with_reducible refine' w_part ?_ | with_reducible refine' w_rPart ?_ | with_reducible refine' w_iZip ?_ | with_reducible refine' w_iEnum ?_ | with_reducible refine' w_iRng ?_
  | with_reducible refine' w_dget ?_ | with_reducible refine' w_dget2 ?_ | with_reducible refine' w_m1 ?_ | with_reducible refine' w_rM1 ?_ | with_reducible refine' w_din ?_ | with_reducible refine' w_dnotin ?_ | with_reducible refine' w_dput ?_
  | with_reducible refine' w_isN ?_ | with_reducible refine' w_notN ?_ | with_reducible refine' w_rBl ?_ | with_reducible refine' w_B ?_ | with_reducible refine' w_test ?_ | with_reducible refine' w_and ?_ | with_reducible refine' w_or ?_ | with_reducible refine' w_not ?_
  | with_reducible refine' w_andV ?_ | with_reducible refine' w_orV ?_ | with_reducible refine' w_notV ?_ | with_reducible refine' w_chain ?_ | with_reducible refine' w_fld ?_ | with_reducible refine' w_sfld ?_ | with_reducible refine' w_nil ?_ | with_reducible refine' w_cons ?_
  | with_reducible refine' w_call ?_ | with_reducible refine' w_meth ?_ | with_reducible refine' w_make ?_ | with_reducible refine' w_CB ?_ | with_reducible refine' w_BM0 ?_ | with_reducible refine' w_BM ?_ | with_reducible refine' w_tup ?_ | with_reducible refine' w_lst ?_
  | with_reducible refine' w_for ?_ | with_reducible refine' w_iList ?_ | with_reducible refine' w_iTup ?_ | with_reducible refine' w_lc ?_ | with_reducible refine' w_yes ?_ | with_reducible refine' w_max2 ?_ | with_reducible refine' w_min2 ?_ | with_reducible refine' w_ipI ?_ | with_reducible refine' w_gcons ?_ | with_reducible refine' w_gnil ?_
  | ((with_reducible refine' w_aug ?hv ?_); (case hv => exact rfl))
  | ((with_reducible refine' w_gtup ?hv ?hn ?_); (case hv => assumption); (case hn => exact rfl))
  | ((with_reducible refine' w_ixT ?hv ?ha ?_); (case hv => assumption); (case ha => exact rfl))
  | ((with_reducible refine' w_newT ?hv ?_); (case hv => exact Nat.le_of_ble_eq_true rfl))
  | ((with_reducible refine' w_newL ?hv ?_); (case hv => exact Nat.le_of_ble_eq_true rfl)))
local macro_rules | `(tactic| walk_at "go") => `(tactic| repeat' walk_at "go1")
section
variable {P : Program} {w : World} {K : PySem.W.Frag} {mg : Str → Option Value} {base : Heap}
/-! ### the law -/
section
variable {K : PySem.W.Frag} {σ : L2.St} {H : Hp} {Q : VK}
theorem w_slT {a : Addr} {xs : List V} {lo hi : Option Int} (e : H a = some (.tup xs)) (hw : ¬ (HT.sIx xs.length 0 lo = 0 ∧ HT.sIx xs.length xs.length hi = xs.length)) (h : ∀ p H', H p = none → Same H H' → H' p = some (.tup (cutV xs lo hi)) → Q (.ref p) H') : rSlT K (.ref a) lo hi H Q :=
  ⟨a, xs, rfl, SqT.of e, hw, fun p hp => h p _ hp (Same.new hp) upd_same⟩
theorem w_clear {l : Addr} {xs : List V} (e : H l = some (.lst xs)) (h : ∀ H', But l H H' → H' l = some (.lst []) → Q .non H') : rClear (.ref l) [] H Q := ⟨l, xs, rfl, rfl, e, h _ But.upd upd_same⟩
theorem CalAt.clear {H' : Hp} {hd c : Addr} {jps : List Addr} {js : List Job} {ss : List (Int × Int)} {rest : Int} (C : CalAt K H c ss rest) (eh : H hd = some (.lst (jps.map V.ref))) (Lj : TA' H jps (js.map jobV)) (b : But hd H H') (e' : H' hd = some (.lst [])) : CalAt K H' c ss rest := by
  obtain ⟨dx, l, qs, e, L⟩ := C.ex
  have nc : c ≠ hd := ne_of e eh (by intro h; cases h)
  have Lt : TA' H' qs (ss.map spanV) := L.tt.but b eh (fun ys => by intro h; cases h)
  by_cases g : l = hd
  · subst g
    have hq := L.at_
    rw [eh] at hq
    have hq : jps.map V.ref = qs.map V.ref := by injection (Option.some.inj hq)
    have hq : jps = qs := by
      have := congrArg (List.map fun v => match v with | V.ref q => q | _ => 0) hq
      rw [List.map_map, List.map_map] at this
      have e : ∀ l : List Addr, l.map ((fun v => match v with | V.ref q => q | _ => 0) ∘ V.ref) = l := fun l => List.map_id _
      rwa [e, e] at this
    subst hq
    cases jps with
    | nil =>
      have hl := L.len
      rw [List.length_map] at hl
      have : ss = [] := List.eq_nil_of_length_eq_zero hl.symm
      subst this
      exact ⟨dx, l, [], b _ _ nc e, ⟨e', .nil⟩⟩
    | cons q r =>
      exfalso
      obtain ⟨r1, h1, h2⟩ := prd_at Lj (i := 0) (a := q) rfl
      obtain ⟨r2, h3, h4⟩ := prd_at L.tt (i := 0) (a := q) rfl
      rw [h2] at h4
      obtain ⟨z1, _, rfl⟩ := map_get h1
      obtain ⟨z2, _, rfl⟩ := map_get h3
      have h4 := Option.some.inj h4
      injection h4 with h4
      cases h4
  · exact ⟨dx, l, qs, b _ _ nc e, ⟨b _ _ g L.at_, Lt⟩⟩
theorem LT.butL {H' : Hp} {l p : Addr} {xs : List V} {ps : List Addr} {rs : List (List V)} (b : But l H H') (hl : H l = some (.lst xs)) (n : p ≠ l) (L : LT H p ps rs) : LT H' p ps rs := L.but b hl (fun ys => by intro h; cases h) n
theorem jobsFlat {js : List Job} (O : LoadOk js) : ∀ r ∈ js.map jobV, ∀ v ∈ r, FlatOk v := fun r hr v hv => by
  obtain ⟨z, hz, rfl⟩ := List.mem_map.mp hr
  rcases List.mem_cons.mp hv with rfl | hv
  · exact nameOk_flat (O.nm z hz)
  · rcases List.mem_cons.mp hv with rfl | hv
    · exact flat_int
    · rcases List.mem_cons.mp hv with rfl | hv
      · exact flat_int
      · rcases List.mem_cons.mp hv with rfl | hv
        · exact flat_int
        · rw [List.mem_singleton.mp hv]; exact flat_int
/-- a part of what is told, and its copy -/
def Cp (H1 : Hp) (D : Addr) (H : Hp) (x y : V) : Prop := (∃ l m zs, x = .ref l ∧ y = .ref m ∧ H1 l = some (.lst zs) ∧ H m = some (.lst zs) ∧ H1 m = none ∧ m ≠ D) ∨ ∃ i, x = .int i ∧ y = .int i
def Prt (H : Hp) (x : V) : Prop := (∃ l zs, x = .ref l ∧ H l = some (.lst zs)) ∨ ∃ i, x = .int i
theorem lpc_copies {H1 : Hp} {D a : Addr} {Qd : Hp → Prop} {g : TG} {te : TE} {vs : List Nat} {xs : List V} (ea : H1 a = some (.tup xs)) (hD : H1 D = none) (hz : xs.length ≤ 100) (hx : ∀ x ∈ xs, Prt H1 x)
    (hs : ∀ x H' (N : VK), Same H1 H' → ((∃ l zs, x = .ref l ∧ H' l = some (.lst zs) ∧ ∀ G m, Same H' G → H' m = none → G m = some (.lst zs) → N (.ref m) G) ∨ ∃ i, x = .int i ∧ N (.int i) H') → g x (wipe σ vs) H' fun σ2 H2 => wipe σ2 vs = wipe σ vs ∧ te σ2 H2 N)
    (mono : ∀ x H' (N N' : L2.St → Hp → Prop), (∀ σ2 H2, N σ2 H2 → N' σ2 H2) → g x (wipe σ vs) H' N → g x (wipe σ vs) H' N')
    (hd : ∀ H' ys, Same H1 H' → H' D = some (.lst ys) → ys.length = xs.length → (∀ (k : Nat) (x y : V), xs[k]? = some x → ys[k]? = some y → Cp H1 D H' x y) → Qd H') : LpC (Itt K a) g tYes te vs D Qd σ H1 := by
  refine lpc_walk (walk_tup (xs := xs)) (fun i H => ∃ ys, Same H1 H ∧ H D = some (.lst ys) ∧ ys.length = i ∧ ∀ (k : Nat) (x y : V), xs[k]? = some x → ys[k]? = some y → Cp H1 D H x y)
    ⟨[], Same.new hD, upd_same, rfl, fun k x y _ h => by simp at h⟩ (fun i H _ p => ?_) ?_ (fun H p => ?_)
  · obtain ⟨ys, s, _⟩ := p
    exact SqT.of (s _ _ ea)
  · rintro i x H H' hi ⟨ys, s, ed, hl, hc⟩ ⟨rfl, y⟩
    have stepc : ∀ (v : V) (H4 : Hp), Same H' H4 → Cp H1 D (upd H4 D (.lst (ys ++ [v]))) x v → ∃ acc, H4 D = some (.lst acc) ∧ acc.length < sizeLine ∧ ∃ zs, Same H1 (upd H4 D (.lst (acc ++ [v]))) ∧ upd H4 D (.lst (acc ++ [v])) D = some (.lst zs) ∧ zs.length = i + 1 ∧ ∀ (k : Nat) (x y : V), xs[k]? = some x → zs[k]? = some y → Cp H1 D (upd H4 D (.lst (acc ++ [v]))) x y := fun v H4 s4 hv => by
      refine ⟨ys, s4 _ _ ed, szlt (by omega), ys ++ [v], Same.but (s.trans s4) hD But.upd, upd_same, by rw [List.length_append, hl]; rfl, fun k x' y' h1 h2 => ?_⟩
      by_cases hk : k < ys.length
      · rw [List.getElem?_append_left hk] at h2
        rcases hc k x' y' h1 h2 with ⟨l, m, zs, rfl, rfl, g1, g2, g3, g4⟩ | ⟨j, rfl, rfl⟩
        · exact .inl ⟨l, m, zs, rfl, rfl, g1, But.upd _ _ g4 (s4 _ _ g2), g3, g4⟩
        · exact .inr ⟨j, rfl, rfl⟩
      · have hk2 : k = ys.length := by
          have := (List.getElem?_eq_some_iff.mp h2).1
          rw [List.length_append, List.length_singleton] at this
          omega
        rw [hk2, List.getElem?_append_right (Nat.le_refl _), Nat.sub_self] at h2
        have h2 : v = y' := by simpa using h2
        rw [hk2, hl, y] at h1
        cases h1
        rw [← h2]; exact hv
    refine mono _ _ _ _ (fun σ2 H2 h => ?_) (hs x H' (fun v H4 => ∃ acc, H4 D = some (.lst acc) ∧ acc.length < sizeLine ∧ ∃ zs, Same H1 (upd H4 D (.lst (acc ++ [v]))) ∧ upd H4 D (.lst (acc ++ [v])) D = some (.lst zs) ∧ zs.length = i + 1 ∧ ∀ (k : Nat) (x y : V), xs[k]? = some x → zs[k]? = some y → Cp H1 D (upd H4 D (.lst (acc ++ [v]))) x y) s ?_)
    · exact ⟨h.1, h.2⟩
    · rcases hx x (List.mem_of_getElem? y) with ⟨l, zs, rfl, el⟩ | ⟨j, rfl⟩
      · refine .inl ⟨l, zs, rfl, s _ _ el, fun G m sG hm em => ?_⟩
        have nm : m ≠ D := fun e => by rw [e, ed] at hm; cases hm
        exact stepc _ G sG (.inl ⟨l, m, zs, rfl, rfl, el, But.upd _ _ nm em, s.free hm, nm⟩)
      · exact .inr ⟨j, rfl, stepc _ H' (Same.refl _) (.inr ⟨j, rfl, rfl⟩)⟩
  · obtain ⟨ys, s, ed, hl, hc⟩ := p
    exact hd H ys s ed hl hc
end
def keptD (rows : List Row) : List PyData := [.str "kept", rowsPD (rows.map rowV)]
theorem keptD_ok {js : List Job} {mc : Int → Int} {rows : List Row} (O : LoadOk js) (P : PlanOk js mc rows) : ∀ d ∈ keptD rows, d.canLay0 = true ∧ d.depth ≤ 3 := fun d hd => by
  unfold keptD at hd
  rcases List.mem_cons.mp hd with rfl | hd
  · exact ⟨by decide +kernel, by decide⟩
  · rw [List.mem_singleton.mp hd]
    have := lay_rows (rowsFlat O P); exact ⟨this.1, by omega⟩
theorem keptD_dp {K : PySem.W.Frag} {H : Hp} {l1 : Addr} {qs : List Addr} {js : List Job} {mc : Int → Int} {rows : List Row} (O : LoadOk js) (P : PlanOk js mc rows) (L1 : LT H l1 qs (rows.map rowV)) : DpAll K H [.str "kept", .ref l1] (keptD rows) :=
  .cons (.str _) (.cons (dp_rows L1 (rowsFlat O P)) .nil)
theorem planOk_law {js : List Job} {rws : List (Int × Int)} {rest : Int} {rows : List Row} {wa : Nat → Int} (hp : Pos rws) (N : PlanN js (tid rws rest) rest rows wa) : PlanOk js (fun t => wov 0 rws rest t t) rows where
  job := fun r hr => by
    obtain ⟨j, h1, h2, h3, h4, h5, h6⟩ := N.plan.job r hr
    refine ⟨j, h1, h2, h3, h4, h5, ?_⟩
    show r.2.1 < wov 0 rws rest r.1 r.1
    rw [← tid_wov hp, wov_one rest (tid_pos hp) (N.t0 r hr), ← calAt_eq]
    exact h6
  nd := N.plan.nd
  brd := N.plan.brd
  wrk := N.plan.wrk
  len := N.plan.len
theorem lack_sum {js : List Job} {ss : List (Int × Int)} {rest : Int} {rows : List Row} {wa : Nat → Int} (N : PlanN js ss rest rows wa) : (js.map fun j => j.wk - ((cnt1 rows j.nm : Nat) : Int)).sum = sm js.length wa := by
  rw [js_sum]
  exact sm_congr fun j hj => N.cnt j hj
def sp_law : Sp := fun vs H Q _ => ∃ (a : Addr) (xs : List Int), vs = [.ref a] ∧ SqL K H a (xs.map V.int) ∧ ∀ H', Q (.bl true) H'
-- slots: 0 _law_script, 1 _law_rows_here, 2 _law_rest, 3 _law_by, 4 _law_load_here, 5 _law_handed, 6 _law_verdict, 7 _law_lack, 8 _law_part, 9 _law_due, 10 _law_turn
theorem sc_law : FnScope ["_law_script", "_law_rows_here", "_law_rest", "_law_by", "_law_load_here", "_law_handed", "_law_verdict", "_law_lack", "_law_part", "_law_due", "_law_turn"] ["_law_script"] (defScope s_law) := ⟨rfl, rfl, rfl, by decide +kernel, rfl, by decide +kernel, by decide +kernel⟩
theorem cd_law (T : Tx K mg) {fd : FuncData} (F : FunD K "law" "law" (defArgs s_law) (defBody s_law) (defScope s_law) [] [] (He.fAd K ("law", none)) fd) : Cd P w K mg base 9 (He.ga K "law") ["_law_script"] (sp_law (K := K)) fd := by
  obtain ⟨_, K_Kept_holds⟩ := cd_Kept_holds (P := P) (w := w) (base := base) T; obtain ⟨_, K_Full_holds⟩ := cd_Full_holds (P := P) (w := w) (base := base) T
  obtain ⟨_, K_Kept_kept⟩ := cd_Kept_kept (P := P) (w := w) (base := base) T; obtain ⟨_, K_Full_kept⟩ := cd_Full_kept (P := P) (w := w) (base := base) T
  obtain ⟨_, K_Kept_told⟩ := cd_Kept_told (P := P) (w := w) (base := base) T; obtain ⟨_, K_Full_told⟩ := cd_Full_told (P := P) (w := w) (base := base) T
  obtain ⟨_, K_Kept_word⟩ := cd_Kept_word (P := P) (w := w) (base := base) T; obtain ⟨_, K_Full_word⟩ := cd_Full_word (P := P) (w := w) (base := base) T
  obtain ⟨_, K_Calendar_init⟩ := cd_Calendar_init (P := P) (w := w) (base := base) T
  obtain ⟨_, K_law_cell_at⟩ := cd_law_cell_at (P := P) (w := w) (base := base) T
  obtain ⟨_, K_law_copied⟩ := cd_law_copied (P := P) (w := w) (base := base) T
  obtain ⟨_, K_law_full_right⟩ := cd_law_full_right (P := P) (w := w) (base := base) T
  obtain ⟨_, K_law_load⟩ := cd_law_load (P := P) (w := w) (base := base) T
  obtain ⟨_, K_law_rows⟩ := cd_law_rows (P := P) (w := w) (base := base) T
  obtain ⟨_, K_law_undone⟩ := cd_law_undone (P := P) (w := w) (base := base) T
  obtain ⟨_, K_settled⟩ := cd_settled (P := P) (w := w) (base := base) T
  refine ⟨F.ok sc_law (fun vs H Q E h => ?_) (fun cdv A outer s H vs Q E hr h => ?_), FunD.bindsN F (fun _ _ _ _ _ _ us hl => match us, hl with | [_], _ => rfl), F.kp⟩
  · obtain ⟨a, xs, rfl, _⟩ := h
    rfl
  · obtain ⟨a, xs, rfl, e, q⟩ := h
    refine ⟨_, PSs.nox (pss_cons (ps_asg (pe_call K_law_rows.ok (hr.mono (by decide)) (by rfl) T.g_law_rows K_law_rows.kp K_law_rows.bn .nil pass0 (pa_cons (pe_call K_law_cell_at.ok (hr.mono (by decide)) (by rfl) T.g_law_cell_at K_law_cell_at.kp K_law_cell_at.bn .nil pass0 (pa_cons (pv 0) (pa_cons pe_int pa_nil))) pa_nil)) (pg_tup rfl (pgs_cons (pg_name (i := 1) sc_law.nd rfl (Or.inl rfl)) (pgs_cons (pg_name (i := 2) sc_law.nd rfl (Or.inl rfl)) (pgs_cons (pg_name (i := 3) sc_law.nd rfl (Or.inl rfl)) pgs_nil)))))
      (pss_cons (ps_set (i := 4) sc_law.nd rfl (Or.inl rfl) (pe_call K_law_load.ok (hr.mono (by decide)) (by rfl) T.g_law_load K_law_load.kp K_law_load.bn .nil pass0 (pa_cons (pv 0) (pa_cons (pv 3) pa_nil))))
      (pss_cons (ps_set (i := 5) sc_law.nd rfl (Or.inl rfl) (pe_callTy c_list (by rfl) T.b_list (by decide +kernel) (pa_cons (pv 4) pa_nil)))
      (pss_cons (ps_set (i := 6) sc_law.nd rfl (Or.inl rfl) (pe_call K_settled.ok (hr.mono (by decide)) (by rfl) T.g_settled K_settled.kp K_settled.bn .nil pass0 (pa_cons (pv 5) (pa_cons (pe_make T.k_Calendar K_Calendar_init.ok (hr.mono (by decide)) (by rfl) T.g_Calendar K_Calendar_init.bn .nil pass0 (pa_cons (pe_callTy c_list (by rfl) T.b_list (by decide +kernel) (pa_cons (pv 1) pa_nil)) (pa_cons (pv 2) pa_nil))) pa_nil))))
      (pss_cons (ps_if (PW.pt (pw_or (pt_cmpR (op_neD hr.units) (pv 5) (pv 4) (nomark _)) (pw_or (pt_not (pt_val (pe_callB call_isi (by rfl) T.b_isinstance (by decide +kernel) (pa_cons (pv 6) (pa_cons (pe_glob rfl T.g_Verdict (v := .ref (He.ga K "Verdict")) rfl) pa_nil))))) (pw_or1 (pt_not (pt_val (pe_callB call_isi (by rfl) T.b_isinstance (by decide +kernel) (pa_cons (pe_fld (pv 6) rfl) (pa_cons (pe_bltn (by rfl) T.b_list (by decide +kernel) (v := .ty "list") rfl) pa_nil))))))))) (pss_one (ps_ret pe_bl)) pss_nil)
      (pss_cons (ps_expr (pe_bm0 PySem.F.plainAttrs_list PySem.F.slot_list_clear PySem.F.type_list_clear mt_clear (pv 5)))
      (pss_cons (ps_set (i := 7) sc_law.nd rfl (Or.inl rfl) (pe_call K_law_undone.ok (hr.mono (by decide)) (by rfl) T.g_law_undone K_law_undone.kp K_law_undone.bn .nil pass0 (pa_cons (pe_fld (pv 6) rfl) (pa_cons (pv 4) (pa_cons (pv 1) (pa_cons (pv 2) pa_nil))))))
      (pss_cons (ps_if (PW.pt (pw_or (pt_cmp (pc_isN (pv 7))) (pw_or (pt_cmpR (op_neD hr.units) (pe_fld (pv 6) rfl) (pv 4) (nomark _)) (pw_or1 (pt_cmpR op_notBl (pe_or2 (pe_meth0 (pv 6) T.c_Kept T.m_Kept_holds K_Kept_holds.ok (hr.mono (by decide)) K_Kept_holds.bn .nil pass0) (pe_meth0 (pv 6) T.c_Full T.m_Full_holds K_Full_holds.ok (hr.mono (by decide)) K_Full_holds.bn .nil pass0)) pe_bl (nomark _)))))) (pss_one (ps_ret pe_bl)) pss_nil)
      (pss_cons (ps_set (i := 9) sc_law.nd rfl (Or.inl rfl) (pe_op op_cat (pe_lst (pa_cons (pe_ix ix_tup (pe_or2 (pe_meth0 (pv 6) T.c_Kept T.m_Kept_told K_Kept_told.ok (hr.mono (by decide)) K_Kept_told.bn .nil pass0) (pe_meth0 (pv 6) T.c_Full T.m_Full_told K_Full_told.ok (hr.mono (by decide)) K_Full_told.bn .nil pass0)) pe_int (fun _ _ => rfl)) pa_nil)) (pe_lc (own := [("_law_part", 8)]) (g := (gName 8)) (tt := tYes) (te := (tCall _ [] E0 (tCons (tVar 8) tNil))) (by rfl) sc_law.nd (pi_tup (pe_slice sl_tup (pe_or2 (pe_meth0 (pv 6) T.c_Kept T.m_Kept_told K_Kept_told.ok (hr.mono (by decide)) K_Kept_told.bn .nil pass0) (pe_meth0 (pv 6) T.c_Full T.m_Full_told K_Full_told.ok (hr.mono (by decide)) K_Full_told.bn .nil pass0)) (po_some pe_int) po_none)) (blkOk_by (N := ["_law_script", "_law_rows_here", "_law_rest", "_law_by", "_law_load_here", "_law_handed", "_law_verdict", "_law_lack", "_law_part", "_law_due", "_law_turn"]) (sc := defScope s_law) (by decide +kernel)) (fun _ _ _ _ _ => (pg_name (i := 8) sc_law.nd rfl (Or.inl rfl))) (fun _ _ _ _ _ => pts_nil) (fun _ _ _ _ _ => (pe_call K_law_copied.ok (hr.mono (by decide)) (by rfl) T.g_law_copied K_law_copied.kp K_law_copied.bn .nil pass0 (pa_cons (pv 8) pa_nil))))))
      (pss_cons (ps_for PassesOwn.never rfl (pi_range1 rfl T.b_range (pa_cons pe_int pa_nil)) (pg_name (i := 10) sc_law.nd rfl (Or.inl rfl)) (pss_cons (ps_for PassesOwn.never rfl (pi_tup (pe_slice sl_tup (pe_or2 (pe_meth0 (pv 6) T.c_Kept T.m_Kept_told K_Kept_told.ok (hr.mono (by decide)) K_Kept_told.bn .nil pass0) (pe_meth0 (pv 6) T.c_Full T.m_Full_told K_Full_told.ok (hr.mono (by decide)) K_Full_told.bn .nil pass0)) (po_some pe_int) po_none)) (pg_name (i := 8) sc_law.nd rfl (Or.inl rfl)) (pss_one (ps_if (pt_val (pe_callB call_isi (by rfl) T.b_isinstance (by decide +kernel) (pa_cons (pv 8) (pa_cons (pe_bltn (by rfl) T.b_list (by decide +kernel) (v := .ty "list") rfl) pa_nil)))) (pss_one (ps_expr (pe_bm PySem.F.plainAttrs_list PySem.F.slot_list_append PySem.F.type_list_append mt_append (pv 8) (pa_cons pe_int pa_nil)))) pss_nil)))
      (pss_one (ps_if (PW.pt (pw_or (pt_cmpR (op_neD hr.units) (pe_callTy c_list (by rfl) T.b_list (by decide +kernel) (pa_cons (pe_or2 (pe_meth0 (pv 6) T.c_Kept T.m_Kept_told K_Kept_told.ok (hr.mono (by decide)) K_Kept_told.bn .nil pass0) (pe_meth0 (pv 6) T.c_Full T.m_Full_told K_Full_told.ok (hr.mono (by decide)) K_Full_told.bn .nil pass0)) pa_nil)) (pv 9) (nomark _)) (pw_or (pt_cmpR (op_neD hr.units) (pe_fld (pv 6) rfl) (pe_ix ix_list (pv 9) pe_int (fun _ _ => rfl)) (nomark _)) (pw_or1 (pt_cmpR op_notBl (pe_or2 (pe_meth0 (pv 6) T.c_Kept T.m_Kept_holds K_Kept_holds.ok (hr.mono (by decide)) K_Kept_holds.bn .nil pass0) (pe_meth0 (pv 6) T.c_Full T.m_Full_holds K_Full_holds.ok (hr.mono (by decide)) K_Full_holds.bn .nil pass0)) pe_bl (nomark _)))))) (pss_one (ps_ret pe_bl)) pss_nil))))
      (pss_cons (ps_if (pt_cmpR op_gt (pv 7) pe_int (nomark _)) (pss_one (ps_ret (pe_and (pe_call K_law_full_right.ok (hr.mono (by decide)) (by rfl) T.g_law_full_right K_law_full_right.kp K_law_full_right.bn .nil pass0 (pa_cons (pv 6) (pa_cons (pv 4) (pa_cons (pv 1) (pa_cons (pv 2) (pa_cons (pv 7) pa_nil)))))) (pe_one (pe_not (pe_callB call_isi (by rfl) T.b_isinstance (by decide +kernel) (pa_cons (pv 6) (pa_cons (pe_glob rfl T.g_Kept (v := .ref (He.ga K "Kept")) rfl) pa_nil)))))))) pss_nil)
      (pss_cons (ps_if (PW.pt (pw_or (pt_not (pt_val (pe_callB call_isi (by rfl) T.b_isinstance (by decide +kernel) (pa_cons (pv 6) (pa_cons (pe_glob rfl T.g_Kept (v := .ref (He.ga K "Kept")) rfl) pa_nil))))) (pw_or (pt_val (pe_callB call_isi (by rfl) T.b_isinstance (by decide +kernel) (pa_cons (pv 6) (pa_cons (pe_glob rfl T.g_Full (v := .ref (He.ga K "Full")) rfl) pa_nil)))) (pw_or1 (pt_cmpR op_notBl (pe_or2 (pe_meth0 (pv 6) T.c_Kept T.m_Kept_kept K_Kept_kept.ok (hr.mono (by decide)) K_Kept_kept.bn .nil pass0) (pe_meth0 (pv 6) T.c_Full T.m_Full_kept K_Full_kept.ok (hr.mono (by decide)) K_Full_kept.bn .nil pass0)) pe_bl (nomark _)))))) (pss_one (ps_ret pe_bl)) pss_nil)
      (pss_one (ps_ret (pe_and (pe_cmpR op_eq (pe_or2 (pe_meth0 (pv 6) T.c_Kept T.m_Kept_word K_Kept_word.ok (hr.mono (by decide)) K_Kept_word.bn .nil pass0) (pe_meth0 (pv 6) T.c_Full T.m_Full_word K_Full_word.ok (hr.mono (by decide)) K_Full_word.bn .nil pass0)) pe_str (nomark _)) (pe_one (pe_cmpR (op_eqD hr.units) (pe_or2 (pe_meth0 (pv 6) T.c_Kept T.m_Kept_told K_Kept_told.ok (hr.mono (by decide)) K_Kept_told.bn .nil pass0) (pe_meth0 (pv 6) T.c_Full T.m_Full_told K_Full_told.ok (hr.mono (by decide)) K_Full_told.bn .nil pass0)) (pe_tup (pa_cons pe_str (pa_cons (pe_fld (pv 6) rfl) pa_nil))) (nomark _)))))))))))))))))), ?_⟩
    walk_at "go"
    refine ⟨a, xs, 0, rfl, e, ?_⟩
    walk_at "go"
    refine ⟨_, rfl, fun H1 t rl rps rws rest bw s1 hrl Lr RO hb1 hb2 et => ?_⟩
    walk_at "go"
    refine ⟨a, xs, bw, rfl, SqL.same s1 e, hb1, hb2, fun H2 ll jps js s2 hll LL LO hw => ?_⟩
    have hz := LO.len
    walk_at "go"
    refine w_listL LL.at_ fun hd H3 hhd s3 ehd => ?_
    walk_at "go"
    have Lr3 := (Lr.same s2).same s3
    have LL3 := LL.same s3
    have Lhd3 : LT H3 hd jps (js.map jobV) := ⟨ehd, LL3.tt⟩
    have nlh : ll ≠ hd := ne_of_none LL.at_ hhd
    have nrh : rl ≠ hd := ne_of_none (s2 _ _ Lr.at_) hhd
    refine w_listL Lr3.at_ fun r2 H4 hr2 s4 er2 => ?_
    walk_at "go"
    have Lr4 := Lr3.same s4
    refine w_rNewI fun c dxc H5 hc s5 ec => ?_
    refine ⟨_, _, _, _, _, _, rfl, ec, ⟨s5 _ _ er2, (Lr4.same s5).tt⟩, RO, fun H6 b6 CA => ⟨rfl, ?_⟩⟩
    have s46 : Same H4 H6 := Same.but s5 hc b6
    have s36 := s4.trans s46
    have hpos : Pos rws := fun p hp => (RO.row p hp).m1
    have CO : CalOk (tid rws rest) rest := tid_ok RO.len hpos (fun p hp => ⟨(RO.row p hp).k0, (RO.row p hp).k1⟩) RO.r1 RO.r2
    have RB : RowB rws rest := ⟨RO.len, fun p hp => ⟨(RO.row p hp).k0, (RO.row p hp).k1⟩, RO.r1, RO.r2⟩
    have Lhd6 := Lhd3.same s36
    have LL6 := LL3.same s36
    have Lr6 := Lr3.same s36
    walk_at "go"
    refine ⟨_, _, _, _, _, _, rfl, Lhd6, LO, CA, CO, hw, fun H7 v s7 R => ?_⟩
    have Lhd7 := Lhd6.same s7
    have LL7 := LL6.same s7
    have Lr7 := Lr6.same s7
    walk_at "go"
    refine w_neSame (dp_rows Lhd7 (jobsFlat LO)) (dp_rows LL7 (jobsFlat LO)) (sh_rows (jobsFlat LO)) ?_
    walk_at "go"
    rcases R with R | R
    · obtain ⟨dx, ld, pl, ps, qs, rows, wa, hv, ⟨f1, f2, f3, n12⟩, VA, PN, hwa, hsm⟩ := R
      refine w_isiO hv T.c_Kept (exF T.ex).ok (exF T.ex) (exF T.ex).kv ?_
      walk_at "go"
      refine w_rFld hv T.c_Kept T.n_Kept_plan lk_Kept_plan ?_
      walk_at "go"
      refine w_isi (b := true) (.lst VA.pl.at_) (by decide +kernel) ?_
      walk_at "go"
      refine w_rTyL Lhd7.at_ ?_
      refine w_clear Lhd7.at_ fun H8 b8 e8 => ?_
      have nvh : v ≠ hd := ne_of hv Lhd7.at_ (by intro h; cases h)
      have nldh : ld ≠ hd := fun h => by rw [h, Lhd6.at_] at f2; cases f2
      have nplh : pl ≠ hd := fun h => by rw [h, Lhd6.at_] at f3; cases f3
      have hv8 := b8 _ _ nvh hv
      have VA8 : VAt K H8 ld c pl ps qs js (tid rws rest) rest rows := ⟨VA.ld.butL b8 Lhd7.at_ nldh, VA.cal.clear Lhd7.at_ Lhd7.tt b8 e8, VA.pl.butL b8 Lhd7.at_ nplh⟩
      have LL8 := LL7.butL b8 Lhd7.at_ nlh
      have Lr8 := Lr7.butL b8 Lhd7.at_ nrh
      have VO : VOk js (tid rws rest) rest rows := ⟨LO, CO, PN.plan⟩
      have hlen := PN.plan.len
      walk_at "go"
      refine w_rFld hv8 T.c_Kept T.n_Kept_plan lk_Kept_plan ?_
      walk_at "go"
      refine ⟨_, _, _, _, _, _, _, _, _, _, rfl, VA8.pl, LL8, LO, Lr8, RB, planOk_law hpos PN, PN.rise, PN.t0, fun H9 s9 => ?_⟩
      rw [lack_sum PN]
      have hv9 := s9 _ _ hv8
      have VA9 := VA8.same s9
      have LL9 := LL8.same s9
      walk_at "go"
      refine ifF (by intro h; cases h) ?_
      walk_at "go"
      refine w_rFld hv9 T.c_Kept T.n_Kept_load lk_Kept_load ?_
      walk_at "go"
      refine w_neSame (dp_rows VA9.ld (jobsFlat LO)) (dp_rows LL9 (jobsFlat LO)) (sh_rows (jobsFlat LO)) ?_
      walk_at "go"
      refine w_or2L ?_
      walk_at "go"
      refine w_rRecv hv9 no_Kept_holds ?_
      walk_at "go"
      refine ⟨_, _, _, _, _, _, _, _, _, _, _, rfl, hv9, VA9, VO, by rw [und_sum PN hwa]; exact hsm, fun H10 s10 => ?_⟩
      walk_at "go"
      refine w_notB ?_
      walk_at "go"
      refine ifnF rfl ?_
      walk_at "go"
      have s910 := s9.trans s10
      have hv10 := s10 _ _ hv9
      have VA10 := VA9.same s10
      refine w_or2L ?_
      walk_at "go"
      refine w_rRecv hv10 no_Kept_told ?_
      walk_at "go"
      refine ⟨_, _, _, _, _, _, rfl, hv10, VA10.pl.at_, fun H11 t11 l1a s11 h1a e1a et11 => ?_⟩
      walk_at "go"
      intro pd H12 hpd s12 epd
      walk_at "go"
      have s1012 := s11.trans s12
      have hv12 := s1012 _ _ hv10
      have VA12 := VA10.same s1012
      refine w_or2L ?_
      walk_at "go"
      refine w_rRecv hv12 no_Kept_told ?_
      walk_at "go"
      refine ⟨_, _, _, _, _, _, rfl, hv12, VA12.pl.at_, fun H13 t13 l1b s13 h1b e1b et13 => ?_⟩
      walk_at "go"
      refine w_slT et13 (fun h => absurd (show HT.sIx 2 0 (some 1) = 0 from h.1) (by decide)) fun t14 H14 ht14 s14 et14 => ?_
      walk_at "go"
      have s1214 := s13.trans s14
      have ct14 : H14 t14 = some (.tup [.ref l1b]) := et14
      refine w_rItT ct14 fun D hD => ?_
      have hprt : ∀ x ∈ ([.ref l1b] : List V), Prt H14 x := fun x hx => by
        rw [List.mem_singleton.mp hx]
        exact .inl ⟨_, _, rfl, s14 _ _ e1b⟩
      refine lpc_copies ct14 hD (by simp) hprt (fun x G N sG hN => ?_) (fun x G N N' h k => mono_name N N' h k) (fun H15 ys s15 eys hyl hcp => ?_)
      · walk_at "go"
        refine ⟨rfl, ?_⟩
        walk_at "go"
        exact ⟨x, rfl, hN⟩
      have s1215 := s1214.trans s15
      have hv15 := s1215 _ _ hv12
      have VA15 := VA12.same s1215
      obtain ⟨y1, rfl⟩ : ∃ y1, ys = [y1] := by
        match ys, hyl with
        | [y1], _ => exact ⟨y1, rfl⟩
      obtain ⟨m1, rfl, em1⟩ : ∃ m1, y1 = V.ref m1 ∧ H15 m1 = some (.lst (qs.map V.ref)) := by
        rcases hcp 0 _ _ rfl rfl with ⟨l, m, zs, h1, h2, h3, h4, _⟩ | ⟨i, h1, _⟩
        · cases h1
          rw [s14 _ _ e1b] at h3
          cases h3
          exact ⟨m, h2, h4⟩
        · cases h1
      refine w_cat (s1215 _ _ epd) eys (by simp) fun du H16 hdu s16 edu0 => ?_
      have edu : H16 du = some (.lst [.str "kept", .ref m1]) := edu0
      have hv16 := s16 _ _ hv15
      walk_at "go"
      refine w_rRng (n := 2) (by omega) ?_
      refine lp_range (fun i σ H' => ∃ (v8 v10 : Option V), σ = [some (.ref a), some (.ref rl), some (.int rest), some (.int bw), some (.ref ll), some (.ref hd), some (.ref v), some (.int (sm js.length wa)), v8, some (.ref du), v10] ∧ Same H16 H')
        ⟨_, _, rfl, Same.refl _⟩ (fun i σ H' hi p => ?_) (fun σ H' p => ?_)
      · obtain ⟨v8, v10, rfl, s⟩ := p
        have s15L := s16.trans s
        have hvL := s15L _ _ hv15
        have VAL := VA15.same s15L
        walk_at "go"
        refine w_or2L ?_
        walk_at "go"
        refine w_rRecv hvL no_Kept_told ?_
        walk_at "go"
        refine ⟨_, _, _, _, _, _, rfl, hvL, VAL.pl.at_, fun H17 t17 l1c s17 h1c e1c et17 => ?_⟩
        walk_at "go"
        refine w_slT et17 (fun h => absurd (show HT.sIx 2 0 (some 1) = 0 from h.1) (by decide)) fun t18 H18 ht18 s18 et18 => ?_
        walk_at "go"
        have ct18 : H18 t18 = some (.tup [.ref l1c]) := et18
        refine w_rItT ct18 ?_
        refine lp_tup (xs := [.ref l1c]) (fun k σ H2 => ∃ v8, σ = [some (.ref a), some (.ref rl), some (.int rest), some (.int bw), some (.ref ll), some (.ref hd), some (.ref v), some (.int (sm js.length wa)), v8, some (.ref du), some (natV i)] ∧ Same H' H2 ∧ H2 t18 = some (.tup [.ref l1c]) ∧ ∃ y1, H2 l1c = some (.lst y1) ∧ y1.length ≤ 60000 + k) ⟨_, rfl, s17.trans s18, ct18, _, s18 _ _ e1c, by rw [List.length_map, VAL.pl.len, List.length_map]; omega⟩ (fun k σ H2 hk p => ?_) (fun k x σ H2 hk hx p => ?_) (fun σ H2 p => ?_)
        · obtain ⟨v8, rfl, _, h, _⟩ := p
          exact h
        · obtain ⟨v8, rfl, sK, et2, y1, g1, w1⟩ := p
          obtain rfl : k = 0 := by simp at hk; omega
          cases hx
          walk_at "go"
          refine w_isi (b := true) (.lst g1) (by decide +kernel) ?_
          walk_at "go"
          refine w_rTyL g1 ?_
          walk_at "go"
          refine w_append g1 (szlt (by omega)) fun H3 b3 e3 => ?_
          walk_at "go"
          have ntl : t18 ≠ l1c := ne_of et2 g1 (by intro h; cases h)
          exact ⟨_, rfl, Same.but sK h1c b3, b3 _ _ ntl et2, _, e3, by rw [List.length_append, List.length_singleton]; omega⟩
        · obtain ⟨v8, rfl, sK, _⟩ := p
          have sLK := s15L.trans sK
          have hvM := sLK _ _ hv15
          have VAM := VA15.same sLK
          walk_at "go"
          refine w_or2L ?_
          walk_at "go"
          refine w_rRecv hvM no_Kept_told ?_
          walk_at "go"
          refine ⟨_, _, _, _, _, _, rfl, hvM, VAM.pl.at_, fun H20 t20 l1d s20 h1d e1d et20 => ?_⟩
          walk_at "go"
          refine w_listT et20 fun lt H21 hlt s21 elt => ?_
          have sM := s20.trans s21
          have sDu := (s.trans sK).trans sM
          have edu21 := sDu _ _ edu
          have s1521 := sLK.trans sM
          have Lp21 := VA15.pl.same s1521
          have Ld1 : LT H21 l1d qs (rows.map rowV) := ⟨s21 _ _ e1d, Lp21.tt⟩
          have Lm1 : LT H21 m1 qs (rows.map rowV) := ⟨s1521 _ _ em1, Lp21.tt⟩
          walk_at "go"
          refine w_neSame (d := .list (keptD rows)) (.lst (SqL.of elt) (keptD_dp LO PN.plan Ld1)) (.lst (SqL.of edu21) (keptD_dp LO PN.plan Lm1)) (shaped_lst (keptD_ok LO PN.plan)) ?_
          have hv21 := sM _ _ hvM
          walk_at "go"
          refine w_rFld hv21 T.c_Kept T.n_Kept_plan lk_Kept_plan ?_
          walk_at "go"
          refine w_ixL edu21 (v := .ref m1) rfl ?_
          refine w_neSame (dp_rows Lp21 (rowsFlat LO PN.plan)) (dp_rows Lm1 (rowsFlat LO PN.plan)) (sh_rows (rowsFlat LO PN.plan)) ?_
          walk_at "go"
          refine w_or2L ?_
          walk_at "go"
          refine w_rRecv hv21 no_Kept_holds ?_
          walk_at "go"
          refine ⟨_, _, _, _, _, _, _, _, _, _, _, rfl, hv21, (VA15.same s1521), VO, by rw [und_sum PN hwa]; exact hsm, fun H22 s22 => ?_⟩
          walk_at "go"
          refine w_notB ?_
          walk_at "go"
          refine ifnF rfl ?_
          walk_at "go"
          exact ⟨_, _, rfl, sDu.trans s22⟩
      · obtain ⟨v8, v10, rfl, s⟩ := p
        have s15L := s16.trans s
        have hvL := s15L _ _ hv15
        have VAL := VA15.same s15L
        walk_at "go"
        refine ifF (by omega) ?_
        walk_at "go"
        refine w_isiO hvL T.c_Kept (exF T.ex).ok (exF T.ex) (exF T.ex).kk ?_
        walk_at "go"
        refine w_isiO hvL T.c_Kept (exF T.ex).ok (exF T.ex) (exF T.ex).kf ?_
        walk_at "go"
        refine w_or2L ?_
        walk_at "go"
        refine w_rRecv hvL no_Kept_kept ?_
        walk_at "go"
        refine ⟨_, rfl, ?_⟩
        walk_at "go"
        refine w_notB ?_
        walk_at "go"
        refine ifnF rfl ?_
        walk_at "go"
        refine w_or2L ?_
        walk_at "go"
        refine w_rRecv hvL no_Kept_word ?_
        walk_at "go"
        refine ⟨_, rfl, ?_⟩
        walk_at "go"
        refine ifT rfl ?_
        walk_at "go"
        refine w_or2L ?_
        walk_at "go"
        refine w_rRecv hvL no_Kept_told ?_
        walk_at "go"
        refine ⟨_, _, _, _, _, _, rfl, hvL, VAL.pl.at_, fun H23 t23 l1e s23 h1e e1e et23 => ?_⟩
        walk_at "go"
        refine w_rFld (s23 _ _ hvL) T.c_Kept T.n_Kept_plan lk_Kept_plan ?_
        walk_at "go"
        intro x H24 hx s24 ex
        have Lp24 := (VAL.pl.same s23).same s24
        refine w_eqSame (d := .tuple (keptD rows)) (.tup (SqT.of (s24 _ _ et23)) (keptD_dp LO PN.plan ⟨s24 _ _ e1e, Lp24.tt⟩)) (.tup (SqT.of ex) (keptD_dp LO PN.plan Lp24)) (shaped_tup (keptD_ok LO PN.plan)) ?_
        exact q _
    · obtain ⟨dx, ld, pl, sl, nl, ps, qs, us, rows, wa, sp, hv, ⟨f1, f2, f3, f4, f5, nd⟩, VA, PN, hwa, hsm, Lsp, MG, m0, hsz, OV, en⟩ := R
      refine w_isiO hv T.c_Full (exF T.ex).of (exF T.ex) (exF T.ex).fv ?_
      walk_at "go"
      refine w_rFld hv T.c_Full T.n_Full_plan lk_Full_plan ?_
      walk_at "go"
      refine w_isi (b := true) (.lst VA.pl.at_) (by decide +kernel) ?_
      walk_at "go"
      refine w_rTyL Lhd7.at_ ?_
      refine w_clear Lhd7.at_ fun H8 b8 e8 => ?_
      have nvh : v ≠ hd := ne_of hv Lhd7.at_ (by intro h; cases h)
      have nldh : ld ≠ hd := fun h => by rw [h, Lhd6.at_] at f2; cases f2
      have nplh : pl ≠ hd := fun h => by rw [h, Lhd6.at_] at f3; cases f3
      have hv8 := b8 _ _ nvh hv
      have VA8 : VAt K H8 ld c pl ps qs js (tid rws rest) rest rows := ⟨VA.ld.butL b8 Lhd7.at_ nldh, VA.cal.clear Lhd7.at_ Lhd7.tt b8 e8, VA.pl.butL b8 Lhd7.at_ nplh⟩
      have LL8 := LL7.butL b8 Lhd7.at_ nlh
      have Lr8 := Lr7.butL b8 Lhd7.at_ nrh
      have VO : VOk js (tid rws rest) rest rows := ⟨LO, CO, PN.plan⟩
      have hlen := PN.plan.len
      have nslh : sl ≠ hd := fun h => by rw [h, Lhd6.at_] at f4; cases f4
      have nnlh : nl ≠ hd := fun h => by rw [h, Lhd6.at_] at f5; cases f5
      have Lsp8 := Lsp.butL b8 Lhd7.at_ nslh
      have en8 := b8 _ _ nnlh en
      have hcl : (crowdedL js sp).length ≤ 1000 := by
        unfold crowdedL
        rw [List.length_map]
        have := List.length_filter_le (fun j => decide (0 < exc j sp)) js
        omega
      walk_at "go"
      refine w_rFld hv8 T.c_Full T.n_Full_plan lk_Full_plan ?_
      walk_at "go"
      refine ⟨_, _, _, _, _, _, _, _, _, _, rfl, VA8.pl, LL8, LO, Lr8, RB, planOk_law hpos PN, PN.rise, PN.t0, fun H9 s9 => ?_⟩
      rw [lack_sum PN]
      have hv9 := s9 _ _ hv8
      have VA9 := VA8.same s9
      have LL9 := LL8.same s9
      walk_at "go"
      refine ifF (by intro h; cases h) ?_
      walk_at "go"
      refine w_rFld hv9 T.c_Full T.n_Full_load lk_Full_load ?_
      walk_at "go"
      refine w_neSame (dp_rows VA9.ld (jobsFlat LO)) (dp_rows LL9 (jobsFlat LO)) (sh_rows (jobsFlat LO)) ?_
      walk_at "go"
      refine w_or2R ?_
      walk_at "go"
      refine w_rRecv hv9 no_Full_holds ?_
      walk_at "go"
      refine ⟨_, _, _, _, _, _, _, _, _, _, _, _, _, _, _, sp, rfl, hv9, VA9, VO, und_sum PN hwa, hsm, (Lsp8.same s9), hsz, OV, (s9 _ _ en8), fun H10 s10 => ?_⟩
      walk_at "go"
      refine w_notB ?_
      walk_at "go"
      refine ifnF rfl ?_
      walk_at "go"
      have s910 := s9.trans s10
      have hv10 := s10 _ _ hv9
      have VA10 := VA9.same s10
      have Lsp10 := Lsp8.same s910
      have en10 := s910 _ _ en8
      refine w_or2R ?_
      walk_at "go"
      refine w_rRecv hv10 no_Full_told ?_
      walk_at "go"
      refine ⟨_, _, _, _, _, _, _, _, _, _, _, rfl, hv10, VA10.pl.at_, Lsp10.at_, en10, fun H11 t11 l1a l2a l3a s11 h1a h2a h3a n12a n13a n23a e1a e2a e3a et11 => ?_⟩
      walk_at "go"
      intro pd H12 hpd s12 epd
      walk_at "go"
      have s1012 := s11.trans s12
      have hv12 := s1012 _ _ hv10
      have VA12 := VA10.same s1012
      have Lsp12 := Lsp10.same s1012
      have en12 := s1012 _ _ en10
      refine w_or2R ?_
      walk_at "go"
      refine w_rRecv hv12 no_Full_told ?_
      walk_at "go"
      refine ⟨_, _, _, _, _, _, _, _, _, _, _, rfl, hv12, VA12.pl.at_, Lsp12.at_, en12, fun H13 t13 l1b l2b l3b s13 h1b h2b h3b n12b n13b n23b e1b e2b e3b et13 => ?_⟩
      walk_at "go"
      refine w_slT et13 (fun h => absurd (show HT.sIx 5 0 (some 1) = 0 from h.1) (by decide)) fun t14 H14 ht14 s14 et14 => ?_
      walk_at "go"
      have s1214 := s13.trans s14
      have ct14 : H14 t14 = some (.tup [.ref l1b, .int (sm js.length wa), .ref l2b, .ref l3b]) := et14
      refine w_rItT ct14 fun D hD => ?_
      have hprt : ∀ x ∈ ([.ref l1b, .int (sm js.length wa), .ref l2b, .ref l3b] : List V), Prt H14 x := fun x hx => by
        rcases List.mem_cons.mp hx with rfl | hx
        · exact .inl ⟨_, _, rfl, s14 _ _ e1b⟩
        · rcases List.mem_cons.mp hx with rfl | hx
          · exact .inr ⟨_, rfl⟩
          · rcases List.mem_cons.mp hx with rfl | hx
            · exact .inl ⟨_, _, rfl, s14 _ _ e2b⟩
            · rw [List.mem_singleton.mp hx]
              exact .inl ⟨_, _, rfl, s14 _ _ e3b⟩
      refine lpc_copies ct14 hD (by simp) hprt (fun x G N sG hN => ?_) (fun x G N N' h k => mono_name N N' h k) (fun H15 ys s15 eys hyl hcp => ?_)
      · walk_at "go"
        refine ⟨rfl, ?_⟩
        walk_at "go"
        exact ⟨x, rfl, hN⟩
      have s1215 := s1214.trans s15
      have hv15 := s1215 _ _ hv12
      have VA15 := VA12.same s1215
      have Lsp15 := Lsp12.same s1215
      have en15 := s1215 _ _ en12
      obtain ⟨y1, y2, y3, y4, rfl⟩ : ∃ y1 y2 y3 y4, ys = [y1, y2, y3, y4] := by
        match ys, hyl with
        | [y1, y2, y3, y4], _ => exact ⟨y1, y2, y3, y4, rfl⟩
      obtain ⟨m1, rfl, em1⟩ : ∃ m1, y1 = V.ref m1 ∧ H15 m1 = some (.lst (qs.map V.ref)) := by
        rcases hcp 0 _ _ rfl rfl with ⟨l, m, zs, h1, h2, h3, h4, _⟩ | ⟨i, h1, _⟩
        · cases h1
          rw [s14 _ _ e1b] at h3
          cases h3
          exact ⟨m, h2, h4⟩
        · cases h1
      obtain rfl : y2 = V.int (sm js.length wa) := by
        rcases hcp 1 _ _ rfl rfl with ⟨l, m, zs, h1, _⟩ | ⟨i, h1, h2⟩
        · cases h1
        · cases h1
          exact h2
      obtain ⟨m2, rfl, em2⟩ : ∃ m2, y3 = V.ref m2 ∧ H15 m2 = some (.lst (us.map V.ref)) := by
        rcases hcp 2 _ _ rfl rfl with ⟨l, m, zs, h1, h2, h3, h4, _⟩ | ⟨i, h1, _⟩
        · cases h1
          rw [s14 _ _ e2b] at h3
          cases h3
          exact ⟨m, h2, h4⟩
        · cases h1
      obtain ⟨m3, rfl, em3⟩ : ∃ m3, y4 = V.ref m3 ∧ H15 m3 = some (.lst ((crowdedL js sp).map V.str)) := by
        rcases hcp 3 _ _ rfl rfl with ⟨l, m, zs, h1, h2, h3, h4, _⟩ | ⟨i, h1, _⟩
        · cases h1
          rw [s14 _ _ e3b] at h3
          cases h3
          exact ⟨m, h2, h4⟩
        · cases h1
      refine w_cat (s1215 _ _ epd) eys (by simp) fun du H16 hdu s16 edu0 => ?_
      have edu : H16 du = some (.lst [.str "full", .ref m1, .int (sm js.length wa), .ref m2, .ref m3]) := edu0
      have hv16 := s16 _ _ hv15
      walk_at "go"
      refine w_rRng (n := 2) (by omega) ?_
      refine lp_range (fun i σ H' => ∃ (v8 v10 : Option V), σ = [some (.ref a), some (.ref rl), some (.int rest), some (.int bw), some (.ref ll), some (.ref hd), some (.ref v), some (.int (sm js.length wa)), v8, some (.ref du), v10] ∧ Same H16 H')
        ⟨_, _, rfl, Same.refl _⟩ (fun i σ H' hi p => ?_) (fun σ H' p => ?_)
      · obtain ⟨v8, v10, rfl, s⟩ := p
        have s15L := s16.trans s
        have hvL := s15L _ _ hv15
        have VAL := VA15.same s15L
        have LspL := Lsp15.same s15L
        have enL := s15L _ _ en15
        walk_at "go"
        refine w_or2R ?_
        walk_at "go"
        refine w_rRecv hvL no_Full_told ?_
        walk_at "go"
        refine ⟨_, _, _, _, _, _, _, _, _, _, _, rfl, hvL, VAL.pl.at_, LspL.at_, enL, fun H17 t17 l1c l2c l3c s17 h1c h2c h3c n12c n13c n23c e1c e2c e3c et17 => ?_⟩
        walk_at "go"
        refine w_slT et17 (fun h => absurd (show HT.sIx 5 0 (some 1) = 0 from h.1) (by decide)) fun t18 H18 ht18 s18 et18 => ?_
        walk_at "go"
        have ct18 : H18 t18 = some (.tup [.ref l1c, .int (sm js.length wa), .ref l2c, .ref l3c]) := et18
        refine w_rItT ct18 ?_
        refine lp_tup (xs := [.ref l1c, .int (sm js.length wa), .ref l2c, .ref l3c]) (fun k σ H2 => ∃ v8, σ = [some (.ref a), some (.ref rl), some (.int rest), some (.int bw), some (.ref ll), some (.ref hd), some (.ref v), some (.int (sm js.length wa)), v8, some (.ref du), some (natV i)] ∧ Same H' H2 ∧ H2 t18 = some (.tup [.ref l1c, .int (sm js.length wa), .ref l2c, .ref l3c]) ∧ ∃ y1 y2 y3, H2 l1c = some (.lst y1) ∧ H2 l2c = some (.lst y2) ∧ H2 l3c = some (.lst y3) ∧ y1.length ≤ 60000 + k ∧ y2.length ≤ 60000 + k ∧ y3.length ≤ 60000 + k) ⟨_, rfl, s17.trans s18, ct18, _, _, _, s18 _ _ e1c, s18 _ _ e2c, s18 _ _ e3c, by rw [List.length_map, VAL.pl.len, List.length_map]; omega, by rw [List.length_map, LspL.len, List.length_map]; omega, by rw [List.length_map]; omega⟩ (fun k σ H2 hk p => ?_) (fun k x σ H2 hk hx p => ?_) (fun σ H2 p => ?_)
        · obtain ⟨v8, rfl, _, h, _⟩ := p
          exact h
        · obtain ⟨v8, rfl, sK, et2, y1, y2, y3, g1, g2, g3, w1, w2, w3⟩ := p
          have hk4 : k = 0 ∨ k = 1 ∨ k = 2 ∨ k = 3 := by simp at hk; omega
          rcases hk4 with rfl | rfl | rfl | rfl
          · cases hx
            walk_at "go"
            refine w_isi (b := true) (.lst g1) (by decide +kernel) ?_
            walk_at "go"
            refine w_rTyL g1 ?_
            walk_at "go"
            refine w_append g1 (szlt (by omega)) fun H3 b3 e3 => ?_
            walk_at "go"
            have ntl : t18 ≠ l1c := ne_of et2 g1 (by intro h; cases h)
            exact ⟨_, rfl, Same.but sK h1c b3, b3 _ _ ntl et2, _, _, _, e3, b3 _ _ n12c.symm g2, b3 _ _ n13c.symm g3, by rw [List.length_append, List.length_singleton]; omega, by omega, by omega⟩
          · cases hx
            walk_at "go"
            refine w_isi (b := false) (.int _) (by decide +kernel) ?_
            walk_at "go"
            exact ⟨_, rfl, sK, et2, _, _, _, g1, g2, g3, by omega, by omega, by omega⟩
          · cases hx
            walk_at "go"
            refine w_isi (b := true) (.lst g2) (by decide +kernel) ?_
            walk_at "go"
            refine w_rTyL g2 ?_
            walk_at "go"
            refine w_append g2 (szlt (by omega)) fun H3 b3 e3 => ?_
            walk_at "go"
            have ntl : t18 ≠ l2c := ne_of et2 g2 (by intro h; cases h)
            exact ⟨_, rfl, Same.but sK h2c b3, b3 _ _ ntl et2, _, _, _, b3 _ _ n12c g1, e3, b3 _ _ n23c.symm g3, by omega, by rw [List.length_append, List.length_singleton]; omega, by omega⟩
          · cases hx
            walk_at "go"
            refine w_isi (b := true) (.lst g3) (by decide +kernel) ?_
            walk_at "go"
            refine w_rTyL g3 ?_
            walk_at "go"
            refine w_append g3 (szlt (by omega)) fun H3 b3 e3 => ?_
            walk_at "go"
            have ntl : t18 ≠ l3c := ne_of et2 g3 (by intro h; cases h)
            exact ⟨_, rfl, Same.but sK h3c b3, b3 _ _ ntl et2, _, _, _, b3 _ _ n13c g1, b3 _ _ n23c g2, e3, by omega, by omega, by rw [List.length_append, List.length_singleton]; omega⟩
        · obtain ⟨v8, rfl, sK, _⟩ := p
          have sLK := s15L.trans sK
          have hvM := sLK _ _ hv15
          have VAM := VA15.same sLK
          have LspM := Lsp15.same sLK
          have enM := sLK _ _ en15
          walk_at "go"
          refine w_or2R ?_
          walk_at "go"
          refine w_rRecv hvM no_Full_told ?_
          walk_at "go"
          refine ⟨_, _, _, _, _, _, _, _, _, _, _, rfl, hvM, VAM.pl.at_, LspM.at_, enM, fun H20 t20 l1d l2d l3d s20 h1d h2d h3d n12d n13d n23d e1d e2d e3d et20 => ?_⟩
          walk_at "go"
          refine w_listT et20 fun lt H21 hlt s21 elt => ?_
          have sM := s20.trans s21
          have sDu := (s.trans sK).trans sM
          have edu21 := sDu _ _ edu
          have s1521 := sLK.trans sM
          have Lp21 := VA15.pl.same s1521
          have Ld1 : LT H21 l1d qs (rows.map rowV) := ⟨s21 _ _ e1d, Lp21.tt⟩
          have Lm1 : LT H21 m1 qs (rows.map rowV) := ⟨s1521 _ _ em1, Lp21.tt⟩
          have Ls21 := Lsp15.same s1521
          have Ld2 : LT H21 l2d us (sp.map spanV) := ⟨s21 _ _ e2d, Ls21.tt⟩
          have Lm2 : LT H21 m2 us (sp.map spanV) := ⟨s1521 _ _ em2, Ls21.tt⟩
          walk_at "go"
          refine w_neSame (d := .list (fullD rows (sm js.length wa) sp js)) (.lst (SqL.of elt) (fullD_dp LO PN.plan Ld1 Ld2 (s21 _ _ e3d))) (.lst (SqL.of edu21) (fullD_dp LO PN.plan Lm1 Lm2 (s1521 _ _ em3))) (shaped_lst (fullD_ok LO PN.plan _ sp)) ?_
          have hv21 := sM _ _ hvM
          walk_at "go"
          refine w_rFld hv21 T.c_Full T.n_Full_plan lk_Full_plan ?_
          walk_at "go"
          refine w_ixL edu21 (v := .ref m1) rfl ?_
          refine w_neSame (dp_rows Lp21 (rowsFlat LO PN.plan)) (dp_rows Lm1 (rowsFlat LO PN.plan)) (sh_rows (rowsFlat LO PN.plan)) ?_
          walk_at "go"
          refine w_or2R ?_
          walk_at "go"
          refine w_rRecv hv21 no_Full_holds ?_
          walk_at "go"
          refine ⟨_, _, _, _, _, _, _, _, _, _, _, _, _, _, _, sp, rfl, hv21, (VA15.same s1521), VO, und_sum PN hwa, hsm, Ls21, hsz, OV, (s1521 _ _ en15), fun H22 s22 => ?_⟩
          walk_at "go"
          refine w_notB ?_
          walk_at "go"
          refine ifnF rfl ?_
          walk_at "go"
          exact ⟨_, _, rfl, sDu.trans s22⟩
      · obtain ⟨v8, v10, rfl, s⟩ := p
        have s15L := s16.trans s
        have hvL := s15L _ _ hv15
        have VAL := VA15.same s15L
        walk_at "go"
        have OV2 : (js.map fun j => exc j sp).sum - (sp.map fun p => wov 0 rws rest p.1 p.2).sum = sm js.length wa := by
          rw [← OV]
          simp only [over_eq, tid_wov hpos]
        have sall := (s9.trans s10).trans (s1012.trans (s1215.trans s15L))
        refine ifT (by omega) ?_
        walk_at "go"
        refine ⟨_, _, _, _, _, _, _, _, _, _, _, _, _, js, _, rows, rws, rest, _, sp, rfl, hvL, VAL.pl, LO, PN.plan, Lsp15.same s15L, s15L _ _ en15, LL8.same sall, Lr8.same sall, RB, MG, m0, hsz, OV2, fun H23 s23 => ?_⟩
        walk_at "go"
        refine w_isiO (s23 _ _ hvL) T.c_Full (exF T.ex).of (exF T.ex) (exF T.ex).fk ?_
        walk_at "go"
        exact q _

end
end Due

set_option Elab.async false
set_option linter.all false
set_option maxRecDepth 100000
set_option maxHeartbeats 4000000
namespace Due
open PySem PySem.Spec PyProof.Rows L2
theorem factsAll {P : Program} {w : World} {K : PySem.W.Frag} {h : Heap} {mg : Str → Option Value} {f : Addr} (X : K.In h) (G : h.Ns mainGlobals mg) (hf : mg ("law" : Str) = some (.ref f)) (c : He.SaysD hfa hfn K) (cx : exB K = true) :
    ∃ fd : FuncData, (∀ (s : Shared) (v : Value), BindsTo s fd ⟨[v], []⟩ [("_law_script", v)]) ∧ ∀ base : Heap, K.In base → base.Ns mainGlobals mg → FnOk P w K mg base CX0 9 f fd ["_law_script"] (sp_law (K := K)) := by
  have T := tx_of X G c cx
  obtain ⟨fd, F⟩ := T.F_law
  have e := hf.symm.trans T.g_law
  cases e
  have b := FunD.bindsA (ps := ["_law_script"]) F fun _ _ _ _ _ _ us hl => match us, hl with | [_], _ => rfl
  exact ⟨fd, fun s v => b s [v] rfl, fun base _ _ => (cd_law T F).ok⟩
end Due
open PySem PySem.W PySem.Calls PyProof.Rows
theorem PySem.Challenge.cw_dueyard_k42_whole_settled_holds : PySem.Challenge.rw_dueyard_k42_whole_settled.Holds := by
  w_on; o_law
  refine HandSHeadRun.head_any (r := Due.RR) (q := view Due.RR.prog [80]) (H := Due.hk) (ob := Due.hob) (M := 8000) (loose := Due.looseA) (d := HandSHeadRun.topDef Due.RR.prog 80) (kwd := []) Due.hob_eq
    (by kernel_rfl) (fun s => by kernel_rfl) Due.run (by kernel_rfl) (by kernel_rfl) (by kernel_rfl) (by rfl) (by first | assumption | decide +kernel) (by decide +kernel) ⟨rfl, rfl, rfl, rfl, rfl, by decide +kernel⟩ ?hw ?hc
  case hw => w_witness2
  case hc =>
    refine L2.walk_ofE (l := PySem.Challenge.rw_dueyard_k42_whole_settled) (n := 63) (k := 9) (x := "_law_script") (CX := L2.CX0) rfl (by decide) (by kernel_rfl) ⟨rfl, by decide, by decide⟩ ?F (fun _ _ _ _ z => z)
    intro w mg fa h Y G hmg0
    obtain ⟨K, KX, c, cx⟩ := Y
    have hmg : mg ("law" : PySem.Str) = some (.ref fa) := by
      have e : (HandSHeadRun.topDef Due.RR.prog 80).name = ("law" : PySem.Str) := by kernel_rfl
      rw [← e]
      exact hmg0
    obtain ⟨fd, hb, hF⟩ := Due.factsAll (P := (PySem.Challenge.rw_dueyard_k42_whole_settled).prog) (w := w) KX G hmg c cx
    exact ⟨K, fd, Due.sp_law (K := K), KX, hb, fun H a ns hl _ hS => ⟨a, ns, rfl, hS, fun _ => rfl⟩, hF⟩

