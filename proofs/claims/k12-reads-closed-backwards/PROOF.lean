import PyProof.Rows.All
import Wide.All
import OpenK.AllK
import Wide.FinOn
import KE.KStateDown
import KE.DataMinMax
import KE.KExcSuper
import Lean
import HandS.ForMost
import HandS.ForExc
import HandS.Codes
import HandS.Defaults
import HandS.Star
import HandS.MakeKwOnly
import HandS.IsInst
import HandS.Deep
import HandS.FStr
import HandS.ClsMeth
import HandS.OwnEq
import HandS.ExcInit
import HandS.ExcField
import HandS.ExcIs
import HandS.Walk
import HandS.StrMore
import HandS.Replace
import HandS.SortKw
import KE.GoesEnum
import HandS.Style
import HandS.Flow
import HandS.Head0
import HandS.Head1
import HandS.Head2
import HandS.HeadEnd
import HandS.HeadHook1
import HandS.HeadHook2
import HandS.HeadHook3
import HandS.HeadNt
import HandS.Rev
import HandS.Nested
import HandS.NestedK
import HandS.ExcSuper
import KE.KExcIs
import HandS.DeepEq
import PyProof.InstNe
import PySem.Challenge.RW_namesakes_k12_whole_reads_closed_backwar
set_option Elab.async false
set_option linter.all false
set_option maxRecDepth 100000
set_option maxHeartbeats 4000000
namespace Nk
open PySem PySem.Spec PyProof.Rows L2
/-! ### the text by places -/
abbrev prg : Program := PySem.Challenge.pw_namesakes_k12_whole_reads_closed_backwar
def top (i : Nat) : Stmt := prg.main.body.getD i (.Pass ⟨0, 0, 0, 0⟩)
abbrev sis_whole : Stmt := top 10
abbrev nis_whole : List Str := ["thing", "low", "high"]
theorem scis_whole : FnScope nis_whole ["thing", "low", "high"] (defScope sis_whole) := ⟨rfl, rfl, rfl, by decide +kernel, rfl, by decide +kernel, by decide +kernel⟩
abbrev sis_kind : Stmt := top 11
abbrev nis_kind : List Str := ["thing"]
theorem scis_kind : FnScope nis_kind ["thing"] (defScope sis_kind) := ⟨rfl, rfl, rfl, by decide +kernel, rfl, by decide +kernel, by decide +kernel⟩
abbrev sis_way : Stmt := top 12
abbrev nis_way : List Str := ["thing", "least", "most", "letter"]
theorem scis_way : FnScope nis_way ["thing", "least", "most"] (defScope sis_way) := ⟨rfl, rfl, rfl, by decide +kernel, rfl, by decide +kernel, by decide +kernel⟩
abbrev sis_house_source : Stmt := top 16
abbrev nis_house_source : List Str := ["thing"]
theorem scis_house_source : FnScope nis_house_source ["thing"] (defScope sis_house_source) := ⟨rfl, rfl, rfl, by decide +kernel, rfl, by decide +kernel, by decide +kernel⟩
abbrev sis_source : Stmt := top 17
abbrev nis_source : List Str := ["thing"]
theorem scis_source : FnScope nis_source ["thing"] (defScope sis_source) := ⟨rfl, rfl, rfl, by decide +kernel, rfl, by decide +kernel, by decide +kernel⟩
abbrev shouse_place : Stmt := top 18
abbrev nhouse_place : List Str := ["thing"]
theorem schouse_place : FnScope nhouse_place ["thing"] (defScope shouse_place) := ⟨rfl, rfl, rfl, by decide +kernel, rfl, by decide +kernel, by decide +kernel⟩
abbrev sparent_kind : Stmt := top 19
abbrev nparent_kind : List Str := ["letter"]
theorem scparent_kind : FnScope nparent_kind ["letter"] (defScope sparent_kind) := ⟨rfl, rfl, rfl, by decide +kernel, rfl, by decide +kernel, by decide +kernel⟩
abbrev sother_kind : Stmt := top 20
abbrev nother_kind : List Str := ["kind"]
theorem scother_kind : FnScope nother_kind ["kind"] (defScope sother_kind) := ⟨rfl, rfl, rfl, by decide +kernel, rfl, by decide +kernel, by decide +kernel⟩
abbrev sways_of : Stmt := top 21
abbrev nways_of : List Str := ["least", "most", "found", "row", "many", "way", "letter"]
theorem scways_of : FnScope nways_of ["least", "most"] (defScope sways_of) := ⟨rfl, rfl, rfl, by decide +kernel, rfl, by decide +kernel, by decide +kernel⟩
abbrev splace_of : Stmt := top 27
abbrev nplace_of : List Str := ["source"]
theorem scplace_of : FnScope nplace_of ["source"] (defScope splace_of) := ⟨rfl, rfl, rfl, by decide +kernel, rfl, by decide +kernel, by decide +kernel⟩
abbrev shouse_needs : Stmt := top 28
abbrev nhouse_needs : List Str := ["custom", "kind", "at", "letter", "from_place", "found", "rule"]
theorem schouse_needs : FnScope nhouse_needs ["custom", "kind", "at"] (defScope shouse_needs) := ⟨rfl, rfl, rfl, by decide +kernel, rfl, by decide +kernel, by decide +kernel⟩
abbrev splace_needs : Stmt := top 29
abbrev nplace_needs : List Str := ["customs", "kind", "place", "at", "found", "custom"]
theorem scplace_needs : FnScope nplace_needs ["customs", "kind", "place"] (defScope splace_needs) := ⟨rfl, rfl, rfl, by decide +kernel, rfl, by decide +kernel, by decide +kernel⟩
abbrev sclosed : Stmt := top 30
abbrev nclosed : List Str := ["customs", "first", "found", "todo", "pair"]
theorem scclosed : FnScope nclosed ["customs", "first"] (defScope sclosed) := ⟨rfl, rfl, rfl, by decide +kernel, rfl, by decide +kernel, by decide +kernel⟩
abbrev sclosed_lives : Stmt := top 31
abbrev nclosed_lives : List Str := ["ways", "found", "way", "rest", "pair"]
theorem scclosed_lives : FnScope nclosed_lives ["ways"] (defScope sclosed_lives) := ⟨rfl, rfl, rfl, by decide +kernel, rfl, by decide +kernel, by decide +kernel⟩
abbrev sin_order : Stmt := top 32
abbrev nin_order : List Str := ["things", "order", "thing"]
theorem scin_order : FnScope nin_order ["things", "order"] (defScope sin_order) := ⟨rfl, rfl, rfl, by decide +kernel, rfl, by decide +kernel, by decide +kernel⟩
abbrev stracked_sources : Stmt := top 33
abbrev ntracked_sources : List Str := ["customs", "found", "custom", "takes", "all_takes", "take"]
theorem sctracked_sources : FnScope ntracked_sources ["customs"] (defScope stracked_sources) := ⟨rfl, rfl, rfl, by decide +kernel, rfl, by decide +kernel, by decide +kernel⟩
abbrev sread_by_clauses : Stmt := top 34
abbrev nread_by_clauses : List Str := ["customs", "sources", "ways", "custom", "clause"]
theorem scread_by_clauses : FnScope nread_by_clauses ["customs"] (defScope sread_by_clauses) := ⟨rfl, rfl, rfl, by decide +kernel, rfl, by decide +kernel, by decide +kernel⟩
abbrev sasks_number : Stmt := top 35
abbrev nasks_number : List Str := ["customs", "kind", "custom", "take"]
theorem scasks_number : FnScope nasks_number ["customs", "kind"] (defScope sasks_number) := ⟨rfl, rfl, rfl, by decide +kernel, rfl, by decide +kernel, by decide +kernel⟩
abbrev sreads_of : Stmt := top 36
abbrev nreads_of : List Str := ["names", "lives", "tracked", "houses", "customs", "sources", "ways", "first", "at", "pairs", "life_pairs", "places", "order", "rows", "life_rows", "tracks", "numbered", "source", "custom", "kind", "other", "place", "way"]
theorem screads_of : FnScope nreads_of ["names", "lives", "tracked", "houses", "customs"] (defScope sreads_of) := ⟨rfl, rfl, rfl, by decide +kernel, rfl, by decide +kernel, by decide +kernel⟩
abbrev sis_house_rule : Stmt := top 53
abbrev nis_house_rule : List Str := ["thing", "width"]
theorem scis_house_rule : FnScope nis_house_rule ["thing", "width"] (defScope sis_house_rule) := ⟨rfl, rfl, rfl, by decide +kernel, rfl, by decide +kernel, by decide +kernel⟩
abbrev scheck_clauses : Stmt := top 54
abbrev ncheck_clauses : List Str := ["kind", "clauses", "last", "at", "clause"]
theorem sccheck_clauses : FnScope ncheck_clauses ["kind", "clauses"] (defScope scheck_clauses) := ⟨rfl, rfl, rfl, by decide +kernel, rfl, by decide +kernel, by decide +kernel⟩
abbrev scheck_sources : Stmt := top 55
abbrev ncheck_sources : List Str := ["kind", "clauses", "width", "at", "clause", "source", "place"]
theorem sccheck_sources : FnScope ncheck_sources ["kind", "clauses", "width"] (defScope scheck_sources) := ⟨rfl, rfl, rfl, by decide +kernel, rfl, by decide +kernel, by decide +kernel⟩
abbrev scheck_house : Stmt := top 56
abbrev ncheck_house : List Str := ["house", "at", "rule"]
theorem sccheck_house : FnScope ncheck_house ["house"] (defScope scheck_house) := ⟨rfl, rfl, rfl, by decide +kernel, rfl, by decide +kernel, by decide +kernel⟩
abbrev schecked_wedding : Stmt := top 57
abbrev nchecked_wedding : List Str := ["kind", "rules", "width", "at", "rule"]
theorem scchecked_wedding : FnScope nchecked_wedding ["kind", "rules", "width"] (defScope schecked_wedding) := ⟨rfl, rfl, rfl, by decide +kernel, rfl, by decide +kernel, by decide +kernel⟩
abbrev sLmix : Stmt := top 62
abbrev nLmix : List Str := ["_law_number", "_law_turn", "_law_once", "_law_twice"]
theorem scLmix : FnScope nLmix ["_law_number", "_law_turn"] (defScope sLmix) := ⟨rfl, rfl, rfl, by decide +kernel, rfl, by decide +kernel, by decide +kernel⟩
abbrev sLhand : Stmt := top 63
abbrev nLhand : List Str := ["_law_script", "_law_total", "_law_k", "_law_cell"]
theorem scLhand : FnScope nLhand ["_law_script"] (defScope sLhand) := ⟨rfl, rfl, rfl, by decide +kernel, rfl, by decide +kernel, by decide +kernel⟩
abbrev sLdraw : Stmt := top 64
abbrev nLdraw : List Str := ["_law_hand_here", "_law_many_here", "_law_cell", "_law_rest"]
theorem scLdraw : FnScope nLdraw ["_law_hand_here", "_law_many_here"] (defScope sLdraw) := ⟨rfl, rfl, rfl, by decide +kernel, rfl, by decide +kernel, by decide +kernel⟩
abbrev sLpick : Stmt := top 65
abbrev nLpick : List Str := ["_law_hand_here", "_law_things"]
theorem scLpick : FnScope nLpick ["_law_hand_here", "_law_things"] (defScope sLpick) := ⟨rfl, rfl, rfl, by decide +kernel, rfl, by decide +kernel, by decide +kernel⟩
abbrev sLways : Stmt := top 66
abbrev nLways : List Str := ["_law_least", "_law_most", "_law_found", "_law_row", "_law_many_here", "_law_longer", "_law_way"]
theorem scLways : FnScope nLways ["_law_least", "_law_most"] (defScope sLways) := ⟨rfl, rfl, rfl, by decide +kernel, rfl, by decide +kernel, by decide +kernel⟩
abbrev sLsources : Stmt := top 67
abbrev nLsources : List Str := ["_law_width"]
theorem scLsources : FnScope nLsources ["_law_width"] (defScope sLsources) := ⟨rfl, rfl, rfl, by decide +kernel, rfl, by decide +kernel, by decide +kernel⟩
abbrev sLhouses : Stmt := top 68
abbrev nLhouses : List Str := ["_law_width", "_law_k"]
theorem scLhouses : FnScope nLhouses ["_law_width"] (defScope sLhouses) := ⟨rfl, rfl, rfl, by decide +kernel, rfl, by decide +kernel, by decide +kernel⟩
abbrev sLcondition : Stmt := top 69
abbrev nLcondition : List Str := ["_law_hand_here", "_law_sources_here", "_law_sort"]
theorem scLcondition : FnScope nLcondition ["_law_hand_here", "_law_sources_here"] (defScope sLcondition) := ⟨rfl, rfl, rfl, by decide +kernel, rfl, by decide +kernel, by decide +kernel⟩
abbrev sLmany : Stmt := top 70
abbrev nLmany : List Str := ["_law_hand_here", "_law_most"]
theorem scLmany : FnScope nLmany ["_law_hand_here", "_law_most"] (defScope sLmany) := ⟨rfl, rfl, rfl, by decide +kernel, rfl, by decide +kernel, by decide +kernel⟩
abbrev sLclauses : Stmt := top 71
abbrev nLclauses : List Str := ["_law_hand_here", "_law_sources_here", "_law_most", "_law_rows", "_law_k", "_law_source", "_law_j"]
theorem scLclauses : FnScope nLclauses ["_law_hand_here", "_law_sources_here", "_law_most"] (defScope sLclauses) := ⟨rfl, rfl, rfl, by decide +kernel, rfl, by decide +kernel, by decide +kernel⟩
abbrev sLrules : Stmt := top 72
abbrev nLrules : List Str := ["_law_hand_here", "_law_width", "_law_homes", "_law_k", "_law_letter", "_law_sons", "_law_daughters"]
theorem scLrules : FnScope nLrules ["_law_hand_here", "_law_width"] (defScope sLrules) := ⟨rfl, rfl, rfl, by decide +kernel, rfl, by decide +kernel, by decide +kernel⟩
abbrev sLcustom : Stmt := top 73
abbrev nLcustom : List Str := ["_law_hand_here", "_law_most", "_law_width", "_law_sources_here", "_law_sons", "_law_daughters", "_law_rules_here", "_law_k"]
theorem scLcustom : FnScope nLcustom ["_law_hand_here", "_law_most"] (defScope sLcustom) := ⟨rfl, rfl, rfl, by decide +kernel, rfl, by decide +kernel, by decide +kernel⟩
abbrev sLmake_condition : Stmt := top 74
abbrev nLmake_condition : List Str := ["_law_row"]
theorem scLmake_condition : FnScope nLmake_condition ["_law_row"] (defScope sLmake_condition) := ⟨rfl, rfl, rfl, by decide +kernel, rfl, by decide +kernel, by decide +kernel⟩
abbrev sLfree : Stmt := top 75
abbrev nLfree : List Str := ["_law_bars"]
theorem scLfree : FnScope nLfree ["_law_bars"] (defScope sLfree) := ⟨rfl, rfl, rfl, by decide +kernel, rfl, by decide +kernel, by decide +kernel⟩
abbrev sLtake : Stmt := top 76
abbrev nLtake : List Str := ["_law_source", "_law_made"]
theorem scLtake : FnScope nLtake ["_law_source", "_law_made"] (defScope sLtake) := ⟨rfl, rfl, rfl, by decide +kernel, rfl, by decide +kernel, by decide +kernel⟩
abbrev sLmake_clause : Stmt := top 77
abbrev nLmake_clause : List Str := ["_law_row", "_law_condition_here"]
theorem scLmake_clause : FnScope nLmake_clause ["_law_row"] (defScope sLmake_clause) := ⟨rfl, rfl, rfl, by decide +kernel, rfl, by decide +kernel, by decide +kernel⟩
abbrev sLmake : Stmt := top 78
abbrev nLmake : List Str := ["_law_custom_here", "_law_sons", "_law_daughters", "_law_row"]
theorem scLmake : FnScope nLmake ["_law_custom_here"] (defScope sLmake) := ⟨rfl, rfl, rfl, by decide +kernel, rfl, by decide +kernel, by decide +kernel⟩
abbrev sLread : Stmt := top 79
abbrev nLread : List Str := ["_law_row", "_law_sources_here", "_law_ways_here", "_law_one", "_law_bar"]
theorem scLread : FnScope nLread ["_law_row"] (defScope sLread) := ⟨rfl, rfl, rfl, by decide +kernel, rfl, by decide +kernel, by decide +kernel⟩
abbrev sLkind : Stmt := top 80
abbrev nLkind : List Str := ["_law_letter"]
theorem scLkind : FnScope nLkind ["_law_letter"] (defScope sLkind) := ⟨rfl, rfl, rfl, by decide +kernel, rfl, by decide +kernel, by decide +kernel⟩
abbrev sLneeds : Stmt := top 81
abbrev nLneeds : List Str := ["_law_customs", "_law_kind_here", "_law_place", "_law_found", "_law_custom_here", "_law_letter", "_law_rest", "_law_rule"]
theorem scLneeds : FnScope nLneeds ["_law_customs", "_law_kind_here", "_law_place"] (defScope sLneeds) := ⟨rfl, rfl, rfl, by decide +kernel, rfl, by decide +kernel, by decide +kernel⟩
abbrev sLclosed : Stmt := top 82
abbrev nLclosed : List Str := ["_law_customs", "_law_first", "_law_read_here", "_law_sweep", "_law_kind_here", "_law_place", "_law_one"]
theorem scLclosed : FnScope nLclosed ["_law_customs", "_law_first"] (defScope sLclosed) := ⟨rfl, rfl, rfl, by decide +kernel, rfl, by decide +kernel, by decide +kernel⟩
abbrev sLasked : Stmt := top 83
abbrev nLasked : List Str := ["_law_customs", "_law_more", "_law_further", "_law_bits", "_law_sources_here", "_law_ways_here", "_law_marks", "_law_kinds", "_law_custom_here", "_law_bars", "_law_kind_here", "_law_row", "_law_sorts", "_law_first", "_law_at", "_law_read_here", "_law_life", "_law_found", "_law_one", "_law_source", "_law_way", "_law_place"]
theorem scLasked : FnScope nLasked ["_law_customs", "_law_more", "_law_further", "_law_bits"] (defScope sLasked) := ⟨rfl, rfl, rfl, by decide +kernel, rfl, by decide +kernel, by decide +kernel⟩
abbrev sLright : Stmt := top 84
abbrev nLright : List Str := ["_law_told", "_law_due", "_law_rows", "_law_row", "_law_word", "_law_checked", "e"]
theorem scLright : FnScope nLright ["_law_told", "_law_due"] (defScope sLright) := ⟨rfl, rfl, rfl, by decide +kernel, rfl, by decide +kernel, by decide +kernel⟩
abbrev sLrefused : Stmt := top 85
abbrev nLrefused : List Str := ["_law_told", "_law_kind_here", "_law_found", "_law_k", "e"]
theorem scLrefused : FnScope nLrefused ["_law_told", "_law_kind_here"] (defScope sLrefused) := ⟨rfl, rfl, rfl, by decide +kernel, rfl, by decide +kernel, by decide +kernel⟩
abbrev sLbounds_right : Stmt := top 86
abbrev nLbounds_right : List Str := ["_law_hand_here", "_law_plain", "_law_made", "_law_some", "_law_marks", "_law_k"]
theorem scLbounds_right : FnScope nLbounds_right ["_law_hand_here"] (defScope sLbounds_right) := ⟨rfl, rfl, rfl, by decide +kernel, rfl, by decide +kernel, by decide +kernel⟩
abbrev slaw : Stmt := top 87
abbrev nlaw : List Str := ["_law_script", "_law_hand_here", "_law_customs", "_law_made", "_law_width", "_law_more", "_law_further", "_law_marks", "_law_one", "_law_both", "_law_due", "_law_wide", "_law_k", "_law_custom_here"]
theorem sclaw : FnScope nlaw ["_law_script"] (defScope slaw) := ⟨rfl, rfl, rfl, by decide +kernel, rfl, by decide +kernel, by decide +kernel⟩
abbrev sReads_init : Stmt := inClass (top 26) 0
abbrev nReads_init : List Str := ["self", "son_places", "daughter_places", "son_lives", "daughter_lives", "tracked", "numbered"]
theorem scReads_init : FnScope nReads_init ["self", "son_places", "daughter_places", "son_lives", "daughter_lives", "tracked", "numbered"] (defScope sReads_init) := ⟨rfl, rfl, rfl, by decide +kernel, rfl, by decide +kernel, by decide +kernel⟩
abbrev sReads_places : Stmt := inClass (top 26) 1
abbrev nReads_places : List Str := ["self", "kind"]
theorem scReads_places : FnScope nReads_places ["self", "kind"] (defScope sReads_places) := ⟨rfl, rfl, rfl, by decide +kernel, rfl, by decide +kernel, by decide +kernel⟩
abbrev sReads_life_ways : Stmt := inClass (top 26) 2
abbrev nReads_life_ways : List Str := ["self", "kind"]
theorem scReads_life_ways : FnScope nReads_life_ways ["self", "kind"] (defScope sReads_life_ways) := ⟨rfl, rfl, rfl, by decide +kernel, rfl, by decide +kernel, by decide +kernel⟩
abbrev sReads_too_wide : Stmt := inClass (top 26) 3
abbrev nReads_too_wide : List Str := ["self"]
theorem scReads_too_wide : FnScope nReads_too_wide ["self"] (defScope sReads_too_wide) := ⟨rfl, rfl, rfl, by decide +kernel, rfl, by decide +kernel, by decide +kernel⟩
abbrev sReads_check_width : Stmt := inClass (top 26) 4
abbrev nReads_check_width : List Str := ["self", "what"]
theorem scReads_check_width : FnScope nReads_check_width ["self"] (defScope sReads_check_width) := ⟨rfl, rfl, rfl, by decide +kernel, rfl, by decide +kernel, by decide +kernel⟩
abbrev sReads_eq : Stmt := inClass (top 26) 5
abbrev nReads_eq : List Str := ["self", "other"]
theorem scReads_eq : FnScope nReads_eq ["self", "other"] (defScope sReads_eq) := ⟨rfl, rfl, rfl, by decide +kernel, rfl, by decide +kernel, by decide +kernel⟩
abbrev sCondition_read_sources : Stmt := inClass (top 40) 0
abbrev nCondition_read_sources : List Str := ["self"]
theorem scCondition_read_sources : FnScope nCondition_read_sources ["self"] (defScope sCondition_read_sources) := ⟨rfl, rfl, rfl, by decide +kernel, rfl, by decide +kernel, by decide +kernel⟩
abbrev sCondition_read_lives : Stmt := inClass (top 40) 1
abbrev nCondition_read_lives : List Str := ["self"]
theorem scCondition_read_lives : FnScope nCondition_read_lives ["self"] (defScope sCondition_read_lives) := ⟨rfl, rfl, rfl, by decide +kernel, rfl, by decide +kernel, by decide +kernel⟩
abbrev sCondition_tracks : Stmt := inClass (top 40) 2
abbrev nCondition_tracks : List Str := ["self"]
theorem scCondition_tracks : FnScope nCondition_tracks ["self"] (defScope sCondition_tracks) := ⟨rfl, rfl, rfl, by decide +kernel, rfl, by decide +kernel, by decide +kernel⟩
abbrev sNumber_init : Stmt := inClass (top 41) 0
abbrev nNumber_init : List Str := ["self", "n"]
theorem scNumber_init : FnScope nNumber_init ["self", "n"] (defScope sNumber_init) := ⟨rfl, rfl, rfl, by decide +kernel, rfl, by decide +kernel, by decide +kernel⟩
abbrev sLifeCondition_init : Stmt := inClass (top 42) 1
abbrev nLifeCondition_init : List Str := ["self", "way"]
theorem scLifeCondition_init : FnScope nLifeCondition_init ["self", "way"] (defScope sLifeCondition_init) := ⟨rfl, rfl, rfl, by decide +kernel, rfl, by decide +kernel, by decide +kernel⟩
abbrev sLifeCondition_read_lives : Stmt := inClass (top 42) 3
abbrev nLifeCondition_read_lives : List Str := ["self"]
theorem scLifeCondition_read_lives : FnScope nLifeCondition_read_lives ["self"] (defScope sLifeCondition_read_lives) := ⟨rfl, rfl, rfl, by decide +kernel, rfl, by decide +kernel, by decide +kernel⟩
abbrev sUnborne_tracks : Stmt := inClass (top 45) 1
abbrev nUnborne_tracks : List Str := ["self"]
theorem scUnborne_tracks : FnScope nUnborne_tracks ["self"] (defScope sUnborne_tracks) := ⟨rfl, rfl, rfl, by decide +kernel, rfl, by decide +kernel, by decide +kernel⟩
abbrev sNever_tracks : Stmt := inClass (top 46) 1
abbrev nNever_tracks : List Str := ["self"]
theorem scNever_tracks : FnScope nNever_tracks ["self"] (defScope sNever_tracks) := ⟨rfl, rfl, rfl, by decide +kernel, rfl, by decide +kernel, by decide +kernel⟩
abbrev sUnlike_init : Stmt := inClass (top 47) 0
abbrev nUnlike_init : List Str := ["self", "one", "other"]
theorem scUnlike_init : FnScope nUnlike_init ["self", "one", "other"] (defScope sUnlike_init) := ⟨rfl, rfl, rfl, by decide +kernel, rfl, by decide +kernel, by decide +kernel⟩
abbrev sUnlike_read_sources : Stmt := inClass (top 47) 2
abbrev nUnlike_read_sources : List Str := ["self"]
theorem scUnlike_read_sources : FnScope nUnlike_read_sources ["self"] (defScope sUnlike_read_sources) := ⟨rfl, rfl, rfl, by decide +kernel, rfl, by decide +kernel, by decide +kernel⟩
abbrev sClause_read_lives : Stmt := inClass (top 48) 2
abbrev nClause_read_lives : List Str := ["self"]
theorem scClause_read_lives : FnScope nClause_read_lives ["self"] (defScope sClause_read_lives) := ⟨rfl, rfl, rfl, by decide +kernel, rfl, by decide +kernel, by decide +kernel⟩
abbrev sTake_init : Stmt := inClass (top 49) 1
abbrev nTake_init : List Str := ["self", "source", "conditions", "at", "condition"]
theorem scTake_init : FnScope nTake_init ["self", "source", "conditions"] (defScope sTake_init) := ⟨rfl, rfl, rfl, by decide +kernel, rfl, by decide +kernel, by decide +kernel⟩
abbrev sTake_asks_number : Stmt := inClass (top 49) 3
abbrev nTake_asks_number : List Str := ["self", "one"]
theorem scTake_asks_number : FnScope nTake_asks_number ["self"] (defScope sTake_asks_number) := ⟨rfl, rfl, rfl, by decide +kernel, rfl, by decide +kernel, by decide +kernel⟩
abbrev sTake_tracks : Stmt := inClass (top 49) 4
abbrev nTake_tracks : List Str := ["self", "one"]
theorem scTake_tracks : FnScope nTake_tracks ["self"] (defScope sTake_tracks) := ⟨rfl, rfl, rfl, by decide +kernel, rfl, by decide +kernel, by decide +kernel⟩
abbrev sTake_read_sources : Stmt := inClass (top 49) 5
abbrev nTake_read_sources : List Str := ["self", "found", "condition"]
theorem scTake_read_sources : FnScope nTake_read_sources ["self"] (defScope sTake_read_sources) := ⟨rfl, rfl, rfl, by decide +kernel, rfl, by decide +kernel, by decide +kernel⟩
abbrev sTake_read_lives : Stmt := inClass (top 49) 6
abbrev nTake_read_lives : List Str := ["self", "found", "condition"]
theorem scTake_read_lives : FnScope nTake_read_lives ["self"] (defScope sTake_read_lives) := ⟨rfl, rfl, rfl, by decide +kernel, rfl, by decide +kernel, by decide +kernel⟩
abbrev sFree_init : Stmt := inClass (top 50) 1
abbrev nFree_init : List Str := ["self", "bars", "at", "bar"]
theorem scFree_init : FnScope nFree_init ["self", "bars"] (defScope sFree_init) := ⟨rfl, rfl, rfl, by decide +kernel, rfl, by decide +kernel, by decide +kernel⟩
abbrev sFree_tracks : Stmt := inClass (top 50) 3
abbrev nFree_tracks : List Str := ["self"]
theorem scFree_tracks : FnScope nFree_tracks ["self"] (defScope sFree_tracks) := ⟨rfl, rfl, rfl, by decide +kernel, rfl, by decide +kernel, by decide +kernel⟩
abbrev sFree_read_sources : Stmt := inClass (top 50) 4
abbrev nFree_read_sources : List Str := ["self", "bar"]
theorem scFree_read_sources : FnScope nFree_read_sources ["self"] (defScope sFree_read_sources) := ⟨rfl, rfl, rfl, by decide +kernel, rfl, by decide +kernel, by decide +kernel⟩
abbrev sCustom_init : Stmt := inClass (top 60) 0
abbrev nCustom_init : List Str := ["self", "sons", "daughters", "house", "son_weds", "daughter_weds", "rule"]
theorem scCustom_init : FnScope nCustom_init ["self", "sons", "daughters", "house", "son_weds", "daughter_weds"] (defScope sCustom_init) := ⟨rfl, rfl, rfl, by decide +kernel, rfl, by decide +kernel, by decide +kernel⟩
abbrev sCustom_clauses : Stmt := inClass (top 60) 1
abbrev nCustom_clauses : List Str := ["self", "kind"]
theorem scCustom_clauses : FnScope nCustom_clauses ["self", "kind"] (defScope sCustom_clauses) := ⟨rfl, rfl, rfl, by decide +kernel, rfl, by decide +kernel, by decide +kernel⟩
abbrev sCustom_wedding_rules : Stmt := inClass (top 60) 2
abbrev nCustom_wedding_rules : List Str := ["self", "kind"]
theorem scCustom_wedding_rules : FnScope nCustom_wedding_rules ["self", "kind"] (defScope sCustom_wedding_rules) := ⟨rfl, rfl, rfl, by decide +kernel, rfl, by decide +kernel, by decide +kernel⟩
end Nk
namespace Nk
open PySem PySem.Spec PyProof.Rows L2
/-! ### what is wanted of the head -/
def gloL : List Str := (["_wall", "CustomError", "BadCondition", "BadClause", "BadCustom", "BadKind", "TooWide", "is_whole", "is_kind", "is_way", "Kind", "is_house_source", "is_source", "house_place"] : List Str) ++ (["parent_kind", "other_kind", "ways_of", "Reads", "place_of", "house_needs", "place_needs", "closed", "closed_lives", "in_order", "tracked_sources", "read_by_clauses", "asks_number", "reads_of"] : List Str) ++ (["Condition", "Number", "LifeCondition", "Alive", "Dead", "Unborne", "Never", "Unlike", "Clause", "Take", "Free", "is_house_rule", "check_clauses", "check_sources"] : List Str) ++ (["check_house", "checked_wedding", "custom_rows", "Named", "Custom", "_law_mix", "_law_hand", "_law_draw", "_law_pick", "_law_ways", "_law_sources", "_law_houses", "_law_condition", "_law_many"] : List Str) ++ (["_law_clauses", "_law_rules", "_law_custom", "_law_make_condition", "_law_free", "_law_take", "_law_make_clause", "_law_make", "_law_read", "_law_kind", "_law_needs", "_law_closed", "_law_asked", "_law_right"] : List Str) ++ (["_law_refused", "_law_bounds_right", "law"] : List Str)
def freeL : List Str := (["len", "isinstance", "str", "int", "bool", "list", "tuple", "range", "enumerate", "max", "min", "abs", "super"] : List Str)
def intL : List (Str × Int) := ([("MOST_WIDTH", 2), ("MOST_WAY", 3), ("MOST_PLACES", 3), ("MOST_LIVES", 2), ("MOST_TRACKED", 2), ("MOST_CONDITIONS", 4), ("MOST_BARS", 4), ("MOST_TAKES", 4)] : List (Str × Int))
def clsL : List Str := (["Reads", "Number", "Alive", "Dead", "Unborne", "Never", "Unlike", "Take", "Free", "Custom"] : List Str)
def noatL : List (Str × Str) := ([("Reads", "son_places"), ("Reads", "daughter_places"), ("Reads", "son_lives"), ("Reads", "daughter_lives"), ("Reads", "tracked"), ("Reads", "numbered"), ("Number", "n"), ("Alive", "way"), ("Dead", "way"), ("Unlike", "one")] : List (Str × Str)) ++ ([("Unlike", "other"), ("Take", "source"), ("Take", "conditions"), ("Free", "bars"), ("Custom", "sons"), ("Custom", "daughters"), ("Custom", "house"), ("Custom", "width"), ("Custom", "son_weds"), ("Custom", "daughter_weds")] : List (Str × Str))
def methL : List (Str × Str × Str) := ([("Reads", "places", "Reads"), ("Reads", "life_ways", "Reads"), ("Reads", "too_wide", "Reads"), ("Reads", "check_width", "Reads"), ("Number", "read_sources", "Condition"), ("Number", "read_lives", "Condition"), ("Number", "tracks", "Condition"), ("Alive", "read_sources", "Condition"), ("Alive", "read_lives", "LifeCondition"), ("Alive", "tracks", "Condition")] : List (Str × Str × Str)) ++ ([("Dead", "read_sources", "Condition"), ("Dead", "read_lives", "LifeCondition"), ("Dead", "tracks", "Condition"), ("Unborne", "read_sources", "Condition"), ("Unborne", "read_lives", "Condition"), ("Unborne", "tracks", "Unborne"), ("Never", "read_sources", "Condition"), ("Never", "read_lives", "Condition"), ("Never", "tracks", "Never"), ("Unlike", "read_sources", "Unlike")] : List (Str × Str × Str)) ++ ([("Unlike", "read_lives", "Condition"), ("Unlike", "tracks", "Condition"), ("Take", "asks_number", "Take"), ("Take", "tracks", "Take"), ("Take", "read_sources", "Take"), ("Take", "read_lives", "Take"), ("Free", "tracks", "Free"), ("Free", "read_sources", "Free"), ("Free", "read_lives", "Clause"), ("Custom", "clauses", "Custom")] : List (Str × Str × Str)) ++ ([("Custom", "wedding_rules", "Custom")] : List (Str × Str × Str))
def mkL : List (Str × Str) := ([("Reads", "Reads"), ("Number", "Number"), ("Alive", "LifeCondition"), ("Dead", "LifeCondition"), ("Unlike", "Unlike"), ("Take", "Take"), ("Free", "Free"), ("Custom", "Custom")] : List (Str × Str))
def kitL : List (Str × Str × Bool) := ([("Number", "Condition", true), ("Alive", "Condition", true), ("Dead", "Condition", true), ("Unborne", "Condition", true), ("Never", "Condition", true), ("Unlike", "Condition", true), ("Number", "Number", true), ("Alive", "Number", false), ("Dead", "Number", false), ("Unborne", "Number", false)] : List (Str × Str × Bool)) ++ ([("Never", "Number", false), ("Unlike", "Number", false), ("Take", "Take", true), ("Take", "Free", false), ("Free", "Take", false), ("Free", "Free", true), ("Reads", "Reads", true)] : List (Str × Str × Bool))
/-- a keyword default of reads_of that is an object -/
def kwA (K : PySem.W.Frag) (x : Str) : Addr := match K.lookup (He.ga K "reads_of") with
  | some ⟨_, _, .func fd, _⟩ => (match fd.kwdefaults with
    | .ref D => (match PySem.W.nsIn K D x with
      | some (some (.ref e)) => e
      | _ => 0)
    | _ => 0)
  | _ => 0
abbrev rdKw (K : PySem.W.Frag) : List (Str × V) := [("names", .ref (kwA K "names")), ("lives", .ref (kwA K "lives")), ("tracked", .ref (kwA K "tracked")), ("houses", .bl false)]
def dis_whole : He.DefD := ⟨("is_whole", none), "is_whole", "is_whole", defArgs sis_whole, defBody sis_whole, defScope sis_whole, [], []⟩
def dis_kind : He.DefD := ⟨("is_kind", none), "is_kind", "is_kind", defArgs sis_kind, defBody sis_kind, defScope sis_kind, [], []⟩
def dis_way : He.DefD := ⟨("is_way", none), "is_way", "is_way", defArgs sis_way, defBody sis_way, defScope sis_way, [], []⟩
def dis_house_source : He.DefD := ⟨("is_house_source", none), "is_house_source", "is_house_source", defArgs sis_house_source, defBody sis_house_source, defScope sis_house_source, [], []⟩
def dis_source : He.DefD := ⟨("is_source", none), "is_source", "is_source", defArgs sis_source, defBody sis_source, defScope sis_source, [], []⟩
def dhouse_place : He.DefD := ⟨("house_place", none), "house_place", "house_place", defArgs shouse_place, defBody shouse_place, defScope shouse_place, [], []⟩
def dparent_kind : He.DefD := ⟨("parent_kind", none), "parent_kind", "parent_kind", defArgs sparent_kind, defBody sparent_kind, defScope sparent_kind, [], []⟩
def dother_kind : He.DefD := ⟨("other_kind", none), "other_kind", "other_kind", defArgs sother_kind, defBody sother_kind, defScope sother_kind, [], []⟩
def dways_of : He.DefD := ⟨("ways_of", none), "ways_of", "ways_of", defArgs sways_of, defBody sways_of, defScope sways_of, [], []⟩
def dplace_of : He.DefD := ⟨("place_of", none), "place_of", "place_of", defArgs splace_of, defBody splace_of, defScope splace_of, [], []⟩
def dhouse_needs : He.DefD := ⟨("house_needs", none), "house_needs", "house_needs", defArgs shouse_needs, defBody shouse_needs, defScope shouse_needs, [], []⟩
def dplace_needs : He.DefD := ⟨("place_needs", none), "place_needs", "place_needs", defArgs splace_needs, defBody splace_needs, defScope splace_needs, [], []⟩
def dclosed : He.DefD := ⟨("closed", none), "closed", "closed", defArgs sclosed, defBody sclosed, defScope sclosed, [], []⟩
def dclosed_lives : He.DefD := ⟨("closed_lives", none), "closed_lives", "closed_lives", defArgs sclosed_lives, defBody sclosed_lives, defScope sclosed_lives, [], []⟩
def din_order : He.DefD := ⟨("in_order", none), "in_order", "in_order", defArgs sin_order, defBody sin_order, defScope sin_order, [], []⟩
def dtracked_sources : He.DefD := ⟨("tracked_sources", none), "tracked_sources", "tracked_sources", defArgs stracked_sources, defBody stracked_sources, defScope stracked_sources, [], []⟩
def dread_by_clauses : He.DefD := ⟨("read_by_clauses", none), "read_by_clauses", "read_by_clauses", defArgs sread_by_clauses, defBody sread_by_clauses, defScope sread_by_clauses, [], []⟩
def dasks_number : He.DefD := ⟨("asks_number", none), "asks_number", "asks_number", defArgs sasks_number, defBody sasks_number, defScope sasks_number, [], []⟩
def dreads_of : He.DefD := ⟨("reads_of", none), "reads_of", "reads_of", defArgs sreads_of, defBody sreads_of, defScope sreads_of, [], [("names", .adr fun K => kwA K "names"), ("lives", .adr fun K => kwA K "lives"), ("tracked", .adr fun K => kwA K "tracked"), ("houses", .bl false)]⟩
def dis_house_rule : He.DefD := ⟨("is_house_rule", none), "is_house_rule", "is_house_rule", defArgs sis_house_rule, defBody sis_house_rule, defScope sis_house_rule, [], []⟩
def dcheck_clauses : He.DefD := ⟨("check_clauses", none), "check_clauses", "check_clauses", defArgs scheck_clauses, defBody scheck_clauses, defScope scheck_clauses, [], []⟩
def dcheck_sources : He.DefD := ⟨("check_sources", none), "check_sources", "check_sources", defArgs scheck_sources, defBody scheck_sources, defScope scheck_sources, [], []⟩
def dcheck_house : He.DefD := ⟨("check_house", none), "check_house", "check_house", defArgs scheck_house, defBody scheck_house, defScope scheck_house, [], []⟩
def dchecked_wedding : He.DefD := ⟨("checked_wedding", none), "checked_wedding", "checked_wedding", defArgs schecked_wedding, defBody schecked_wedding, defScope schecked_wedding, [], []⟩
def dLmix : He.DefD := ⟨("_law_mix", none), "_law_mix", "_law_mix", defArgs sLmix, defBody sLmix, defScope sLmix, [], []⟩
def dLhand : He.DefD := ⟨("_law_hand", none), "_law_hand", "_law_hand", defArgs sLhand, defBody sLhand, defScope sLhand, [], []⟩
def dLdraw : He.DefD := ⟨("_law_draw", none), "_law_draw", "_law_draw", defArgs sLdraw, defBody sLdraw, defScope sLdraw, [], []⟩
def dLpick : He.DefD := ⟨("_law_pick", none), "_law_pick", "_law_pick", defArgs sLpick, defBody sLpick, defScope sLpick, [], []⟩
def dLways : He.DefD := ⟨("_law_ways", none), "_law_ways", "_law_ways", defArgs sLways, defBody sLways, defScope sLways, [], []⟩
def dLsources : He.DefD := ⟨("_law_sources", none), "_law_sources", "_law_sources", defArgs sLsources, defBody sLsources, defScope sLsources, [], []⟩
def dLhouses : He.DefD := ⟨("_law_houses", none), "_law_houses", "_law_houses", defArgs sLhouses, defBody sLhouses, defScope sLhouses, [], []⟩
def dLcondition : He.DefD := ⟨("_law_condition", none), "_law_condition", "_law_condition", defArgs sLcondition, defBody sLcondition, defScope sLcondition, [], []⟩
def dLmany : He.DefD := ⟨("_law_many", none), "_law_many", "_law_many", defArgs sLmany, defBody sLmany, defScope sLmany, [], []⟩
def dLclauses : He.DefD := ⟨("_law_clauses", none), "_law_clauses", "_law_clauses", defArgs sLclauses, defBody sLclauses, defScope sLclauses, [], []⟩
def dLrules : He.DefD := ⟨("_law_rules", none), "_law_rules", "_law_rules", defArgs sLrules, defBody sLrules, defScope sLrules, [], []⟩
def dLcustom : He.DefD := ⟨("_law_custom", none), "_law_custom", "_law_custom", defArgs sLcustom, defBody sLcustom, defScope sLcustom, [], []⟩
def dLmake_condition : He.DefD := ⟨("_law_make_condition", none), "_law_make_condition", "_law_make_condition", defArgs sLmake_condition, defBody sLmake_condition, defScope sLmake_condition, [], []⟩
def dLfree : He.DefD := ⟨("_law_free", none), "_law_free", "_law_free", defArgs sLfree, defBody sLfree, defScope sLfree, [], []⟩
def dLtake : He.DefD := ⟨("_law_take", none), "_law_take", "_law_take", defArgs sLtake, defBody sLtake, defScope sLtake, [], []⟩
def dLmake_clause : He.DefD := ⟨("_law_make_clause", none), "_law_make_clause", "_law_make_clause", defArgs sLmake_clause, defBody sLmake_clause, defScope sLmake_clause, [], []⟩
def dLmake : He.DefD := ⟨("_law_make", none), "_law_make", "_law_make", defArgs sLmake, defBody sLmake, defScope sLmake, [], []⟩
def dLread : He.DefD := ⟨("_law_read", none), "_law_read", "_law_read", defArgs sLread, defBody sLread, defScope sLread, [], []⟩
def dLkind : He.DefD := ⟨("_law_kind", none), "_law_kind", "_law_kind", defArgs sLkind, defBody sLkind, defScope sLkind, [], []⟩
def dLneeds : He.DefD := ⟨("_law_needs", none), "_law_needs", "_law_needs", defArgs sLneeds, defBody sLneeds, defScope sLneeds, [], []⟩
def dLclosed : He.DefD := ⟨("_law_closed", none), "_law_closed", "_law_closed", defArgs sLclosed, defBody sLclosed, defScope sLclosed, [], []⟩
def dLasked : He.DefD := ⟨("_law_asked", none), "_law_asked", "_law_asked", defArgs sLasked, defBody sLasked, defScope sLasked, [], []⟩
def dLright : He.DefD := ⟨("_law_right", none), "_law_right", "_law_right", defArgs sLright, defBody sLright, defScope sLright, [], []⟩
def dLrefused : He.DefD := ⟨("_law_refused", none), "_law_refused", "_law_refused", defArgs sLrefused, defBody sLrefused, defScope sLrefused, [], []⟩
def dLbounds_right : He.DefD := ⟨("_law_bounds_right", none), "_law_bounds_right", "_law_bounds_right", defArgs sLbounds_right, defBody sLbounds_right, defScope sLbounds_right, [], []⟩
def dlaw : He.DefD := ⟨("law", none), "law", "law", defArgs slaw, defBody slaw, defScope slaw, [], []⟩
def dReads_init : He.DefD := ⟨("Reads", some "__init__"), "__init__", "Reads.__init__", defArgs sReads_init, defBody sReads_init, defScope sReads_init, [], []⟩
def dReads_places : He.DefD := ⟨("Reads", some "places"), "places", "Reads.places", defArgs sReads_places, defBody sReads_places, defScope sReads_places, [], []⟩
def dReads_life_ways : He.DefD := ⟨("Reads", some "life_ways"), "life_ways", "Reads.life_ways", defArgs sReads_life_ways, defBody sReads_life_ways, defScope sReads_life_ways, [], []⟩
def dReads_too_wide : He.DefD := ⟨("Reads", some "too_wide"), "too_wide", "Reads.too_wide", defArgs sReads_too_wide, defBody sReads_too_wide, defScope sReads_too_wide, [], []⟩
def dReads_check_width : He.DefD := ⟨("Reads", some "check_width"), "check_width", "Reads.check_width", defArgs sReads_check_width, defBody sReads_check_width, defScope sReads_check_width, [], []⟩
def dReads_eq : He.DefD := ⟨("Reads", some "__eq__"), "__eq__", "Reads.__eq__", defArgs sReads_eq, defBody sReads_eq, defScope sReads_eq, [], []⟩
def dCondition_read_sources : He.DefD := ⟨("Condition", some "read_sources"), "read_sources", "Condition.read_sources", defArgs sCondition_read_sources, defBody sCondition_read_sources, defScope sCondition_read_sources, [], []⟩
def dCondition_read_lives : He.DefD := ⟨("Condition", some "read_lives"), "read_lives", "Condition.read_lives", defArgs sCondition_read_lives, defBody sCondition_read_lives, defScope sCondition_read_lives, [], []⟩
def dCondition_tracks : He.DefD := ⟨("Condition", some "tracks"), "tracks", "Condition.tracks", defArgs sCondition_tracks, defBody sCondition_tracks, defScope sCondition_tracks, [], []⟩
def dNumber_init : He.DefD := ⟨("Number", some "__init__"), "__init__", "Number.__init__", defArgs sNumber_init, defBody sNumber_init, defScope sNumber_init, [], []⟩
def dLifeCondition_init : He.DefD := ⟨("LifeCondition", some "__init__"), "__init__", "LifeCondition.__init__", defArgs sLifeCondition_init, defBody sLifeCondition_init, defScope sLifeCondition_init, [], []⟩
def dLifeCondition_read_lives : He.DefD := ⟨("LifeCondition", some "read_lives"), "read_lives", "LifeCondition.read_lives", defArgs sLifeCondition_read_lives, defBody sLifeCondition_read_lives, defScope sLifeCondition_read_lives, [], []⟩
def dUnborne_tracks : He.DefD := ⟨("Unborne", some "tracks"), "tracks", "Unborne.tracks", defArgs sUnborne_tracks, defBody sUnborne_tracks, defScope sUnborne_tracks, [], []⟩
def dNever_tracks : He.DefD := ⟨("Never", some "tracks"), "tracks", "Never.tracks", defArgs sNever_tracks, defBody sNever_tracks, defScope sNever_tracks, [], []⟩
def dUnlike_init : He.DefD := ⟨("Unlike", some "__init__"), "__init__", "Unlike.__init__", defArgs sUnlike_init, defBody sUnlike_init, defScope sUnlike_init, [], []⟩
def dUnlike_read_sources : He.DefD := ⟨("Unlike", some "read_sources"), "read_sources", "Unlike.read_sources", defArgs sUnlike_read_sources, defBody sUnlike_read_sources, defScope sUnlike_read_sources, [], []⟩
def dClause_read_lives : He.DefD := ⟨("Clause", some "read_lives"), "read_lives", "Clause.read_lives", defArgs sClause_read_lives, defBody sClause_read_lives, defScope sClause_read_lives, [], []⟩
def dTake_init : He.DefD := ⟨("Take", some "__init__"), "__init__", "Take.__init__", defArgs sTake_init, defBody sTake_init, defScope sTake_init, [], []⟩
def dTake_asks_number : He.DefD := ⟨("Take", some "asks_number"), "asks_number", "Take.asks_number", defArgs sTake_asks_number, defBody sTake_asks_number, defScope sTake_asks_number, [], []⟩
def dTake_tracks : He.DefD := ⟨("Take", some "tracks"), "tracks", "Take.tracks", defArgs sTake_tracks, defBody sTake_tracks, defScope sTake_tracks, [], []⟩
def dTake_read_sources : He.DefD := ⟨("Take", some "read_sources"), "read_sources", "Take.read_sources", defArgs sTake_read_sources, defBody sTake_read_sources, defScope sTake_read_sources, [], []⟩
def dTake_read_lives : He.DefD := ⟨("Take", some "read_lives"), "read_lives", "Take.read_lives", defArgs sTake_read_lives, defBody sTake_read_lives, defScope sTake_read_lives, [], []⟩
def dFree_init : He.DefD := ⟨("Free", some "__init__"), "__init__", "Free.__init__", defArgs sFree_init, defBody sFree_init, defScope sFree_init, [], []⟩
def dFree_tracks : He.DefD := ⟨("Free", some "tracks"), "tracks", "Free.tracks", defArgs sFree_tracks, defBody sFree_tracks, defScope sFree_tracks, [], []⟩
def dFree_read_sources : He.DefD := ⟨("Free", some "read_sources"), "read_sources", "Free.read_sources", defArgs sFree_read_sources, defBody sFree_read_sources, defScope sFree_read_sources, [], []⟩
def dCustom_init : He.DefD := ⟨("Custom", some "__init__"), "__init__", "Custom.__init__", defArgs sCustom_init, defBody sCustom_init, defScope sCustom_init, [], []⟩
def dCustom_clauses : He.DefD := ⟨("Custom", some "clauses"), "clauses", "Custom.clauses", defArgs sCustom_clauses, defBody sCustom_clauses, defScope sCustom_clauses, [], []⟩
def dCustom_wedding_rules : He.DefD := ⟨("Custom", some "wedding_rules"), "wedding_rules", "Custom.wedding_rules", defArgs sCustom_wedding_rules, defBody sCustom_wedding_rules, defScope sCustom_wedding_rules, [], []⟩
def fnL : List He.DefD := ([dis_whole, dis_kind, dis_way, dis_house_source, dis_source, dhouse_place, dparent_kind, dother_kind, dways_of, dplace_of, dhouse_needs, dplace_needs] : List He.DefD) ++ ([dclosed, dclosed_lives, din_order, dtracked_sources, dread_by_clauses, dasks_number, dreads_of, dis_house_rule, dcheck_clauses, dcheck_sources, dcheck_house, dchecked_wedding] : List He.DefD) ++ ([dLmix, dLhand, dLdraw, dLpick, dLways, dLsources, dLhouses, dLcondition, dLmany, dLclauses, dLrules, dLcustom] : List He.DefD) ++ ([dLmake_condition, dLfree, dLtake, dLmake_clause, dLmake, dLread, dLkind, dLneeds, dLclosed, dLasked, dLright, dLrefused] : List He.DefD) ++ ([dLbounds_right, dlaw, dReads_init, dReads_places, dReads_life_ways, dReads_too_wide, dReads_check_width, dReads_eq, dCondition_read_sources, dCondition_read_lives, dCondition_tracks, dNumber_init] : List He.DefD) ++ ([dLifeCondition_init, dLifeCondition_read_lives, dUnborne_tracks, dNever_tracks, dUnlike_init, dUnlike_read_sources, dClause_read_lives, dTake_init, dTake_asks_number, dTake_tracks, dTake_read_sources, dTake_read_lives] : List He.DefD) ++ ([dFree_init, dFree_tracks, dFree_read_sources, dCustom_init, dCustom_clauses, dCustom_wedding_rules] : List He.DefD)
/-- what isinstance asks of an instance of the class at C -/
structure InsF (K : PySem.W.Frag) (C : Addr) : Prop where
  ha : PySem.W.findIn K (.ref C) "__class__" = some (some (.builtin "object.__class__"))
  hn : PySem.W.specialIn K (.builtin "object.__class__") "__get__" = some (some (.builtin "getset_descriptor.__get__"))
  htk : PySem.W.takesIn K (.builtin "object.__class__") = some true
  hm : PySem.W.mroIn K C (.type "object") = some true
/-- a class without an __init__ of its own -/
structure Mk0 (K : PySem.W.Frag) (C : Addr) : Prop where
  makes : PySem.W.makesIn K C = true
  init : PySem.W.findIn K (.ref C) "__init__" = some (some (.builtin "object.__init__"))
  kp : PySem.W.keepIn K (.ref C) = true
structure Tx (K : PySem.W.Frag) (mg : Str → Option Value) : Prop where
  glo : ∀ x ∈ gloL, mg x = some (.ref (He.ga K x))
  fr : ∀ x ∈ freeL, mg x = none
  int : ∀ p ∈ intL, ∃ t, mg p.1 = some (.int p.2 t)
  cls : ∀ x ∈ clsL, Cls K (He.ga K x)
  ins : ∀ x ∈ clsL, InsF K (He.ga K x)
  noat : ∀ p ∈ noatL, NoAttr K (He.ga K p.1) p.2
  meth : ∀ p ∈ methL, Meth K (He.ga K p.1) p.2.1 (He.fAd K (p.2.2, some p.2.1))
  mks : ∀ p ∈ mkL, Mk K (He.ga K p.1) (He.fAd K (p.2, some "__init__"))
  kit : ∀ p ∈ kitL, PySem.W.kitOne K (.ref (He.ga K p.1)) (.ref (He.ga K p.2.1)) = some p.2.2
  def_ : ∀ (i : Nat) (d : He.DefD), fnL[i]? = some d → ∃ fd, FunD K d.name d.qual d.params d.body d.scope (d.dvs K) (d.kws K) (He.fAd K d.at_) fd
  emp : ∀ x ∈ (["names", "lives", "tracked"] : List Str), ∃ o n, K.lookup (kwA K x) = some o ∧ o.cls = .type "tuple" ∧ o.data = .seq #[] n
  mk0 : Mk0 K (He.ga K "Unborne") ∧ Mk0 K (He.ga K "Never")
  rd : ClX.CRead K (He.ga K "Kind") (.type "type")
  son : ∃ u, ClX.CVal K (He.ga K "Kind") (.type "type") "SON" (.str "s") u
  dau : ∃ u, ClX.CVal K (He.ga K "Kind") (.type "type") "DAUGHTER" (.str "d") u
section
variable {K : PySem.W.Frag} {mg : Str → Option Value}
theorem Tx.g (T : Tx K mg) (x : Str) (h : gloL.contains x = true := by decide +kernel) : mg x = some (.ref (He.ga K x)) := T.glo x (List.contains_iff_mem.mp h)
theorem Tx.f (T : Tx K mg) (x : Str) (h : freeL.contains x = true := by decide +kernel) : mg x = none := T.fr x (List.contains_iff_mem.mp h)
theorem Tx.i (T : Tx K mg) (x : Str) (n : Int) (h : (x, n) ∈ intL := by decide +kernel) : ∃ t, mg x = some (.int n t) := T.int (x, n) h
theorem Tx.c (T : Tx K mg) (x : Str) (h : clsL.contains x = true := by decide +kernel) : Cls K (He.ga K x) := T.cls x (List.contains_iff_mem.mp h)
theorem Tx.n (T : Tx K mg) (x f : Str) (h : (x, f) ∈ noatL := by decide +kernel) : NoAttr K (He.ga K x) f := T.noat (x, f) h
theorem Tx.m (T : Tx K mg) (x f c : Str) (h : (x, f, c) ∈ methL := by decide +kernel) : Meth K (He.ga K x) f (He.fAd K (c, some f)) := T.meth (x, f, c) h
theorem Tx.k (T : Tx K mg) (x c : Str) (h : (x, c) ∈ mkL := by decide +kernel) : Mk K (He.ga K x) (He.fAd K (c, some "__init__")) := T.mks (x, c) h
theorem Tx.is (T : Tx K mg) (x y : Str) (b : Bool) (h : (x, y, b) ∈ kitL := by decide +kernel) : PySem.W.kitOne K (.ref (He.ga K x)) (.ref (He.ga K y)) = some b := T.kit (x, y, b) h
/-- an instance's type -/
theorem Tx.ty (T : Tx K mg) {H : Hp} {a dx : Addr} {fs : List (Str × V)} (x : Str) (e : H a = some (.ins (He.ga K x) dx fs)) (h : clsL.contains x = true := by decide +kernel) : TyX K H (.ref a) (.ref (He.ga K x)) := by
  have i := T.ins x (List.contains_iff_mem.mp h)
  exact .base (.ins e (T.c x h) i.ha i.hn i.htk i.hm)
theorem Tx.F_is_whole (T : Tx K mg) : ∃ fd, FunD K "is_whole" "is_whole" (defArgs sis_whole) (defBody sis_whole) (defScope sis_whole) [] [] (He.ga K "is_whole") fd := T.def_ 0 dis_whole rfl
theorem Tx.F_is_kind (T : Tx K mg) : ∃ fd, FunD K "is_kind" "is_kind" (defArgs sis_kind) (defBody sis_kind) (defScope sis_kind) [] [] (He.ga K "is_kind") fd := T.def_ 1 dis_kind rfl
theorem Tx.F_is_way (T : Tx K mg) : ∃ fd, FunD K "is_way" "is_way" (defArgs sis_way) (defBody sis_way) (defScope sis_way) [] [] (He.ga K "is_way") fd := T.def_ 2 dis_way rfl
theorem Tx.F_is_house_source (T : Tx K mg) : ∃ fd, FunD K "is_house_source" "is_house_source" (defArgs sis_house_source) (defBody sis_house_source) (defScope sis_house_source) [] [] (He.ga K "is_house_source") fd := T.def_ 3 dis_house_source rfl
theorem Tx.F_is_source (T : Tx K mg) : ∃ fd, FunD K "is_source" "is_source" (defArgs sis_source) (defBody sis_source) (defScope sis_source) [] [] (He.ga K "is_source") fd := T.def_ 4 dis_source rfl
theorem Tx.F_house_place (T : Tx K mg) : ∃ fd, FunD K "house_place" "house_place" (defArgs shouse_place) (defBody shouse_place) (defScope shouse_place) [] [] (He.ga K "house_place") fd := T.def_ 5 dhouse_place rfl
theorem Tx.F_parent_kind (T : Tx K mg) : ∃ fd, FunD K "parent_kind" "parent_kind" (defArgs sparent_kind) (defBody sparent_kind) (defScope sparent_kind) [] [] (He.ga K "parent_kind") fd := T.def_ 6 dparent_kind rfl
theorem Tx.F_other_kind (T : Tx K mg) : ∃ fd, FunD K "other_kind" "other_kind" (defArgs sother_kind) (defBody sother_kind) (defScope sother_kind) [] [] (He.ga K "other_kind") fd := T.def_ 7 dother_kind rfl
theorem Tx.F_ways_of (T : Tx K mg) : ∃ fd, FunD K "ways_of" "ways_of" (defArgs sways_of) (defBody sways_of) (defScope sways_of) [] [] (He.ga K "ways_of") fd := T.def_ 8 dways_of rfl
theorem Tx.F_place_of (T : Tx K mg) : ∃ fd, FunD K "place_of" "place_of" (defArgs splace_of) (defBody splace_of) (defScope splace_of) [] [] (He.ga K "place_of") fd := T.def_ 9 dplace_of rfl
theorem Tx.F_house_needs (T : Tx K mg) : ∃ fd, FunD K "house_needs" "house_needs" (defArgs shouse_needs) (defBody shouse_needs) (defScope shouse_needs) [] [] (He.ga K "house_needs") fd := T.def_ 10 dhouse_needs rfl
theorem Tx.F_place_needs (T : Tx K mg) : ∃ fd, FunD K "place_needs" "place_needs" (defArgs splace_needs) (defBody splace_needs) (defScope splace_needs) [] [] (He.ga K "place_needs") fd := T.def_ 11 dplace_needs rfl
theorem Tx.F_closed (T : Tx K mg) : ∃ fd, FunD K "closed" "closed" (defArgs sclosed) (defBody sclosed) (defScope sclosed) [] [] (He.ga K "closed") fd := T.def_ 12 dclosed rfl
theorem Tx.F_closed_lives (T : Tx K mg) : ∃ fd, FunD K "closed_lives" "closed_lives" (defArgs sclosed_lives) (defBody sclosed_lives) (defScope sclosed_lives) [] [] (He.ga K "closed_lives") fd := T.def_ 13 dclosed_lives rfl
theorem Tx.F_in_order (T : Tx K mg) : ∃ fd, FunD K "in_order" "in_order" (defArgs sin_order) (defBody sin_order) (defScope sin_order) [] [] (He.ga K "in_order") fd := T.def_ 14 din_order rfl
theorem Tx.F_tracked_sources (T : Tx K mg) : ∃ fd, FunD K "tracked_sources" "tracked_sources" (defArgs stracked_sources) (defBody stracked_sources) (defScope stracked_sources) [] [] (He.ga K "tracked_sources") fd := T.def_ 15 dtracked_sources rfl
theorem Tx.F_read_by_clauses (T : Tx K mg) : ∃ fd, FunD K "read_by_clauses" "read_by_clauses" (defArgs sread_by_clauses) (defBody sread_by_clauses) (defScope sread_by_clauses) [] [] (He.ga K "read_by_clauses") fd := T.def_ 16 dread_by_clauses rfl
theorem Tx.F_asks_number (T : Tx K mg) : ∃ fd, FunD K "asks_number" "asks_number" (defArgs sasks_number) (defBody sasks_number) (defScope sasks_number) [] [] (He.ga K "asks_number") fd := T.def_ 17 dasks_number rfl
theorem Tx.F_reads_of (T : Tx K mg) : ∃ fd, FunD K "reads_of" "reads_of" (defArgs sreads_of) (defBody sreads_of) (defScope sreads_of) [] (rdKw K) (He.ga K "reads_of") fd := T.def_ 18 dreads_of rfl
theorem Tx.F_is_house_rule (T : Tx K mg) : ∃ fd, FunD K "is_house_rule" "is_house_rule" (defArgs sis_house_rule) (defBody sis_house_rule) (defScope sis_house_rule) [] [] (He.ga K "is_house_rule") fd := T.def_ 19 dis_house_rule rfl
theorem Tx.F_check_clauses (T : Tx K mg) : ∃ fd, FunD K "check_clauses" "check_clauses" (defArgs scheck_clauses) (defBody scheck_clauses) (defScope scheck_clauses) [] [] (He.ga K "check_clauses") fd := T.def_ 20 dcheck_clauses rfl
theorem Tx.F_check_sources (T : Tx K mg) : ∃ fd, FunD K "check_sources" "check_sources" (defArgs scheck_sources) (defBody scheck_sources) (defScope scheck_sources) [] [] (He.ga K "check_sources") fd := T.def_ 21 dcheck_sources rfl
theorem Tx.F_check_house (T : Tx K mg) : ∃ fd, FunD K "check_house" "check_house" (defArgs scheck_house) (defBody scheck_house) (defScope scheck_house) [] [] (He.ga K "check_house") fd := T.def_ 22 dcheck_house rfl
theorem Tx.F_checked_wedding (T : Tx K mg) : ∃ fd, FunD K "checked_wedding" "checked_wedding" (defArgs schecked_wedding) (defBody schecked_wedding) (defScope schecked_wedding) [] [] (He.ga K "checked_wedding") fd := T.def_ 23 dchecked_wedding rfl
theorem Tx.F_Lmix (T : Tx K mg) : ∃ fd, FunD K "_law_mix" "_law_mix" (defArgs sLmix) (defBody sLmix) (defScope sLmix) [] [] (He.ga K "_law_mix") fd := T.def_ 24 dLmix rfl
theorem Tx.F_Lhand (T : Tx K mg) : ∃ fd, FunD K "_law_hand" "_law_hand" (defArgs sLhand) (defBody sLhand) (defScope sLhand) [] [] (He.ga K "_law_hand") fd := T.def_ 25 dLhand rfl
theorem Tx.F_Ldraw (T : Tx K mg) : ∃ fd, FunD K "_law_draw" "_law_draw" (defArgs sLdraw) (defBody sLdraw) (defScope sLdraw) [] [] (He.ga K "_law_draw") fd := T.def_ 26 dLdraw rfl
theorem Tx.F_Lpick (T : Tx K mg) : ∃ fd, FunD K "_law_pick" "_law_pick" (defArgs sLpick) (defBody sLpick) (defScope sLpick) [] [] (He.ga K "_law_pick") fd := T.def_ 27 dLpick rfl
theorem Tx.F_Lways (T : Tx K mg) : ∃ fd, FunD K "_law_ways" "_law_ways" (defArgs sLways) (defBody sLways) (defScope sLways) [] [] (He.ga K "_law_ways") fd := T.def_ 28 dLways rfl
theorem Tx.F_Lsources (T : Tx K mg) : ∃ fd, FunD K "_law_sources" "_law_sources" (defArgs sLsources) (defBody sLsources) (defScope sLsources) [] [] (He.ga K "_law_sources") fd := T.def_ 29 dLsources rfl
theorem Tx.F_Lhouses (T : Tx K mg) : ∃ fd, FunD K "_law_houses" "_law_houses" (defArgs sLhouses) (defBody sLhouses) (defScope sLhouses) [] [] (He.ga K "_law_houses") fd := T.def_ 30 dLhouses rfl
theorem Tx.F_Lcondition (T : Tx K mg) : ∃ fd, FunD K "_law_condition" "_law_condition" (defArgs sLcondition) (defBody sLcondition) (defScope sLcondition) [] [] (He.ga K "_law_condition") fd := T.def_ 31 dLcondition rfl
theorem Tx.F_Lmany (T : Tx K mg) : ∃ fd, FunD K "_law_many" "_law_many" (defArgs sLmany) (defBody sLmany) (defScope sLmany) [] [] (He.ga K "_law_many") fd := T.def_ 32 dLmany rfl
theorem Tx.F_Lclauses (T : Tx K mg) : ∃ fd, FunD K "_law_clauses" "_law_clauses" (defArgs sLclauses) (defBody sLclauses) (defScope sLclauses) [] [] (He.ga K "_law_clauses") fd := T.def_ 33 dLclauses rfl
theorem Tx.F_Lrules (T : Tx K mg) : ∃ fd, FunD K "_law_rules" "_law_rules" (defArgs sLrules) (defBody sLrules) (defScope sLrules) [] [] (He.ga K "_law_rules") fd := T.def_ 34 dLrules rfl
theorem Tx.F_Lcustom (T : Tx K mg) : ∃ fd, FunD K "_law_custom" "_law_custom" (defArgs sLcustom) (defBody sLcustom) (defScope sLcustom) [] [] (He.ga K "_law_custom") fd := T.def_ 35 dLcustom rfl
theorem Tx.F_Lmake_condition (T : Tx K mg) : ∃ fd, FunD K "_law_make_condition" "_law_make_condition" (defArgs sLmake_condition) (defBody sLmake_condition) (defScope sLmake_condition) [] [] (He.ga K "_law_make_condition") fd := T.def_ 36 dLmake_condition rfl
theorem Tx.F_Lfree (T : Tx K mg) : ∃ fd, FunD K "_law_free" "_law_free" (defArgs sLfree) (defBody sLfree) (defScope sLfree) [] [] (He.ga K "_law_free") fd := T.def_ 37 dLfree rfl
theorem Tx.F_Ltake (T : Tx K mg) : ∃ fd, FunD K "_law_take" "_law_take" (defArgs sLtake) (defBody sLtake) (defScope sLtake) [] [] (He.ga K "_law_take") fd := T.def_ 38 dLtake rfl
theorem Tx.F_Lmake_clause (T : Tx K mg) : ∃ fd, FunD K "_law_make_clause" "_law_make_clause" (defArgs sLmake_clause) (defBody sLmake_clause) (defScope sLmake_clause) [] [] (He.ga K "_law_make_clause") fd := T.def_ 39 dLmake_clause rfl
theorem Tx.F_Lmake (T : Tx K mg) : ∃ fd, FunD K "_law_make" "_law_make" (defArgs sLmake) (defBody sLmake) (defScope sLmake) [] [] (He.ga K "_law_make") fd := T.def_ 40 dLmake rfl
theorem Tx.F_Lread (T : Tx K mg) : ∃ fd, FunD K "_law_read" "_law_read" (defArgs sLread) (defBody sLread) (defScope sLread) [] [] (He.ga K "_law_read") fd := T.def_ 41 dLread rfl
theorem Tx.F_Lkind (T : Tx K mg) : ∃ fd, FunD K "_law_kind" "_law_kind" (defArgs sLkind) (defBody sLkind) (defScope sLkind) [] [] (He.ga K "_law_kind") fd := T.def_ 42 dLkind rfl
theorem Tx.F_Lneeds (T : Tx K mg) : ∃ fd, FunD K "_law_needs" "_law_needs" (defArgs sLneeds) (defBody sLneeds) (defScope sLneeds) [] [] (He.ga K "_law_needs") fd := T.def_ 43 dLneeds rfl
theorem Tx.F_Lclosed (T : Tx K mg) : ∃ fd, FunD K "_law_closed" "_law_closed" (defArgs sLclosed) (defBody sLclosed) (defScope sLclosed) [] [] (He.ga K "_law_closed") fd := T.def_ 44 dLclosed rfl
theorem Tx.F_Lasked (T : Tx K mg) : ∃ fd, FunD K "_law_asked" "_law_asked" (defArgs sLasked) (defBody sLasked) (defScope sLasked) [] [] (He.ga K "_law_asked") fd := T.def_ 45 dLasked rfl
theorem Tx.F_Lright (T : Tx K mg) : ∃ fd, FunD K "_law_right" "_law_right" (defArgs sLright) (defBody sLright) (defScope sLright) [] [] (He.ga K "_law_right") fd := T.def_ 46 dLright rfl
theorem Tx.F_Lrefused (T : Tx K mg) : ∃ fd, FunD K "_law_refused" "_law_refused" (defArgs sLrefused) (defBody sLrefused) (defScope sLrefused) [] [] (He.ga K "_law_refused") fd := T.def_ 47 dLrefused rfl
theorem Tx.F_Lbounds_right (T : Tx K mg) : ∃ fd, FunD K "_law_bounds_right" "_law_bounds_right" (defArgs sLbounds_right) (defBody sLbounds_right) (defScope sLbounds_right) [] [] (He.ga K "_law_bounds_right") fd := T.def_ 48 dLbounds_right rfl
theorem Tx.F_law (T : Tx K mg) : ∃ fd, FunD K "law" "law" (defArgs slaw) (defBody slaw) (defScope slaw) [] [] (He.ga K "law") fd := T.def_ 49 dlaw rfl
theorem Tx.F_Reads_init (T : Tx K mg) : ∃ fd, FunD K "__init__" "Reads.__init__" (defArgs sReads_init) (defBody sReads_init) (defScope sReads_init) [] [] (He.fAd K ("Reads", some "__init__")) fd := T.def_ 50 dReads_init rfl
theorem Tx.F_Reads_places (T : Tx K mg) : ∃ fd, FunD K "places" "Reads.places" (defArgs sReads_places) (defBody sReads_places) (defScope sReads_places) [] [] (He.fAd K ("Reads", some "places")) fd := T.def_ 51 dReads_places rfl
theorem Tx.F_Reads_life_ways (T : Tx K mg) : ∃ fd, FunD K "life_ways" "Reads.life_ways" (defArgs sReads_life_ways) (defBody sReads_life_ways) (defScope sReads_life_ways) [] [] (He.fAd K ("Reads", some "life_ways")) fd := T.def_ 52 dReads_life_ways rfl
theorem Tx.F_Reads_too_wide (T : Tx K mg) : ∃ fd, FunD K "too_wide" "Reads.too_wide" (defArgs sReads_too_wide) (defBody sReads_too_wide) (defScope sReads_too_wide) [] [] (He.fAd K ("Reads", some "too_wide")) fd := T.def_ 53 dReads_too_wide rfl
theorem Tx.F_Reads_check_width (T : Tx K mg) : ∃ fd, FunD K "check_width" "Reads.check_width" (defArgs sReads_check_width) (defBody sReads_check_width) (defScope sReads_check_width) [] [] (He.fAd K ("Reads", some "check_width")) fd := T.def_ 54 dReads_check_width rfl
theorem Tx.F_Reads_eq (T : Tx K mg) : ∃ fd, FunD K "__eq__" "Reads.__eq__" (defArgs sReads_eq) (defBody sReads_eq) (defScope sReads_eq) [] [] (He.fAd K ("Reads", some "__eq__")) fd := T.def_ 55 dReads_eq rfl
theorem Tx.F_Condition_read_sources (T : Tx K mg) : ∃ fd, FunD K "read_sources" "Condition.read_sources" (defArgs sCondition_read_sources) (defBody sCondition_read_sources) (defScope sCondition_read_sources) [] [] (He.fAd K ("Condition", some "read_sources")) fd := T.def_ 56 dCondition_read_sources rfl
theorem Tx.F_Condition_read_lives (T : Tx K mg) : ∃ fd, FunD K "read_lives" "Condition.read_lives" (defArgs sCondition_read_lives) (defBody sCondition_read_lives) (defScope sCondition_read_lives) [] [] (He.fAd K ("Condition", some "read_lives")) fd := T.def_ 57 dCondition_read_lives rfl
theorem Tx.F_Condition_tracks (T : Tx K mg) : ∃ fd, FunD K "tracks" "Condition.tracks" (defArgs sCondition_tracks) (defBody sCondition_tracks) (defScope sCondition_tracks) [] [] (He.fAd K ("Condition", some "tracks")) fd := T.def_ 58 dCondition_tracks rfl
theorem Tx.F_Number_init (T : Tx K mg) : ∃ fd, FunD K "__init__" "Number.__init__" (defArgs sNumber_init) (defBody sNumber_init) (defScope sNumber_init) [] [] (He.fAd K ("Number", some "__init__")) fd := T.def_ 59 dNumber_init rfl
theorem Tx.F_LifeCondition_init (T : Tx K mg) : ∃ fd, FunD K "__init__" "LifeCondition.__init__" (defArgs sLifeCondition_init) (defBody sLifeCondition_init) (defScope sLifeCondition_init) [] [] (He.fAd K ("LifeCondition", some "__init__")) fd := T.def_ 60 dLifeCondition_init rfl
theorem Tx.F_LifeCondition_read_lives (T : Tx K mg) : ∃ fd, FunD K "read_lives" "LifeCondition.read_lives" (defArgs sLifeCondition_read_lives) (defBody sLifeCondition_read_lives) (defScope sLifeCondition_read_lives) [] [] (He.fAd K ("LifeCondition", some "read_lives")) fd := T.def_ 61 dLifeCondition_read_lives rfl
theorem Tx.F_Unborne_tracks (T : Tx K mg) : ∃ fd, FunD K "tracks" "Unborne.tracks" (defArgs sUnborne_tracks) (defBody sUnborne_tracks) (defScope sUnborne_tracks) [] [] (He.fAd K ("Unborne", some "tracks")) fd := T.def_ 62 dUnborne_tracks rfl
theorem Tx.F_Never_tracks (T : Tx K mg) : ∃ fd, FunD K "tracks" "Never.tracks" (defArgs sNever_tracks) (defBody sNever_tracks) (defScope sNever_tracks) [] [] (He.fAd K ("Never", some "tracks")) fd := T.def_ 63 dNever_tracks rfl
theorem Tx.F_Unlike_init (T : Tx K mg) : ∃ fd, FunD K "__init__" "Unlike.__init__" (defArgs sUnlike_init) (defBody sUnlike_init) (defScope sUnlike_init) [] [] (He.fAd K ("Unlike", some "__init__")) fd := T.def_ 64 dUnlike_init rfl
theorem Tx.F_Unlike_read_sources (T : Tx K mg) : ∃ fd, FunD K "read_sources" "Unlike.read_sources" (defArgs sUnlike_read_sources) (defBody sUnlike_read_sources) (defScope sUnlike_read_sources) [] [] (He.fAd K ("Unlike", some "read_sources")) fd := T.def_ 65 dUnlike_read_sources rfl
theorem Tx.F_Clause_read_lives (T : Tx K mg) : ∃ fd, FunD K "read_lives" "Clause.read_lives" (defArgs sClause_read_lives) (defBody sClause_read_lives) (defScope sClause_read_lives) [] [] (He.fAd K ("Clause", some "read_lives")) fd := T.def_ 66 dClause_read_lives rfl
theorem Tx.F_Take_init (T : Tx K mg) : ∃ fd, FunD K "__init__" "Take.__init__" (defArgs sTake_init) (defBody sTake_init) (defScope sTake_init) [] [] (He.fAd K ("Take", some "__init__")) fd := T.def_ 67 dTake_init rfl
theorem Tx.F_Take_asks_number (T : Tx K mg) : ∃ fd, FunD K "asks_number" "Take.asks_number" (defArgs sTake_asks_number) (defBody sTake_asks_number) (defScope sTake_asks_number) [] [] (He.fAd K ("Take", some "asks_number")) fd := T.def_ 68 dTake_asks_number rfl
theorem Tx.F_Take_tracks (T : Tx K mg) : ∃ fd, FunD K "tracks" "Take.tracks" (defArgs sTake_tracks) (defBody sTake_tracks) (defScope sTake_tracks) [] [] (He.fAd K ("Take", some "tracks")) fd := T.def_ 69 dTake_tracks rfl
theorem Tx.F_Take_read_sources (T : Tx K mg) : ∃ fd, FunD K "read_sources" "Take.read_sources" (defArgs sTake_read_sources) (defBody sTake_read_sources) (defScope sTake_read_sources) [] [] (He.fAd K ("Take", some "read_sources")) fd := T.def_ 70 dTake_read_sources rfl
theorem Tx.F_Take_read_lives (T : Tx K mg) : ∃ fd, FunD K "read_lives" "Take.read_lives" (defArgs sTake_read_lives) (defBody sTake_read_lives) (defScope sTake_read_lives) [] [] (He.fAd K ("Take", some "read_lives")) fd := T.def_ 71 dTake_read_lives rfl
theorem Tx.F_Free_init (T : Tx K mg) : ∃ fd, FunD K "__init__" "Free.__init__" (defArgs sFree_init) (defBody sFree_init) (defScope sFree_init) [] [] (He.fAd K ("Free", some "__init__")) fd := T.def_ 72 dFree_init rfl
theorem Tx.F_Free_tracks (T : Tx K mg) : ∃ fd, FunD K "tracks" "Free.tracks" (defArgs sFree_tracks) (defBody sFree_tracks) (defScope sFree_tracks) [] [] (He.fAd K ("Free", some "tracks")) fd := T.def_ 73 dFree_tracks rfl
theorem Tx.F_Free_read_sources (T : Tx K mg) : ∃ fd, FunD K "read_sources" "Free.read_sources" (defArgs sFree_read_sources) (defBody sFree_read_sources) (defScope sFree_read_sources) [] [] (He.fAd K ("Free", some "read_sources")) fd := T.def_ 74 dFree_read_sources rfl
theorem Tx.F_Custom_init (T : Tx K mg) : ∃ fd, FunD K "__init__" "Custom.__init__" (defArgs sCustom_init) (defBody sCustom_init) (defScope sCustom_init) [] [] (He.fAd K ("Custom", some "__init__")) fd := T.def_ 75 dCustom_init rfl
theorem Tx.F_Custom_clauses (T : Tx K mg) : ∃ fd, FunD K "clauses" "Custom.clauses" (defArgs sCustom_clauses) (defBody sCustom_clauses) (defScope sCustom_clauses) [] [] (He.fAd K ("Custom", some "clauses")) fd := T.def_ 76 dCustom_clauses rfl
theorem Tx.F_Custom_wedding_rules (T : Tx K mg) : ∃ fd, FunD K "wedding_rules" "Custom.wedding_rules" (defArgs sCustom_wedding_rules) (defBody sCustom_wedding_rules) (defScope sCustom_wedding_rules) [] [] (He.fAd K ("Custom", some "wedding_rules")) fd := T.def_ 77 dCustom_wedding_rules rfl
end
end Nk
namespace Nk
open PySem PySem.Spec PyProof.Rows L2 NdefX
/-- the text's part, concretely -/
def clsIx : Str → Nat := fun x => (prg.main.body.findIdx? fun s => match s with | .ClassDef (name := n) .. => n == x | _ => false).getD 0
def sBadKind_init : Stmt := inClass (top (clsIx "BadKind")) 0
def sTooWide_init : Stmt := inClass (top (clsIx "TooWide")) 0
def oexB (K : PySem.W.Frag) (C : Addr) : Bool := match K.lookup C with
  | some ⟨.type "type", _, .cls cd, sl⟩ => (match cd.mro, sl.toList with
    | .ref C' :: bm, [_, _, _, _, some (.builtin n), _] => C' == C && (n == "ValueError.__new__" && (!cd.hasDel && (cd.hasDict && PySem.HandSPX.refsVE bm)))
    | _, _ => false)
  | _ => false
def metB (K : PySem.W.Frag) (p : Str × Str × Str) : Bool := (He.Fa.meth p.1 p.2.1).ok K && decide (He.ma K (He.ga K p.1) p.2.1 = He.fAd K (p.2.2, some p.2.1))
def mkrB (K : PySem.W.Frag) (p : Str × Str) : Bool := (He.Fa.mkr p.1).ok K && decide (He.ma K (He.ga K p.1) "__init__" = He.fAd K (p.2, some "__init__"))
def clsIB (K : PySem.W.Frag) (C : Addr) : Bool := He.eqO (PySem.W.findIn K (.ref C) "__class__") (some (some (.builtin "object.__class__"))) && (He.eqO (PySem.W.specialIn K (.builtin "object.__class__") "__get__") (some (some (.builtin "getset_descriptor.__get__"))) && (decide (PySem.W.takesIn K (.builtin "object.__class__") = some true) && decide (PySem.W.mroIn K C (.type "object") = some true)))
def kitqB (K : PySem.W.Frag) (p : Str × Str × Bool) : Bool := decide (PySem.W.kitOne K (.ref (He.ga K p.1)) (.ref (He.ga K p.2.1)) = some p.2.2)
def empB (K : PySem.W.Frag) (x : Str) : Bool := match K.lookup (kwA K x) with
  | some ⟨.type c, _, .seq its _, _⟩ => decide (c = "tuple") && decide (its.size = 0)
  | _ => false
def mk0B (K : PySem.W.Frag) (C : Addr) : Bool := PySem.W.makesIn K C && (He.eqO (PySem.W.findIn K (.ref C) "__init__") (some (some (.builtin "object.__init__"))) && PySem.W.keepIn K (.ref C))
def rdB (K : PySem.W.Frag) (C : Addr) : Bool := PySem.W.readsIn K C (.type "type") && He.eqO (PySem.W.specialIn K (.ref C) "__getattribute__") (some (some (.builtin "type.__getattribute__")))
def cvB (K : PySem.W.Frag) (C : Addr) (f s : Str) : Bool := match PySem.W.findCls K (.ref C) (.type "type") f with
  | some (.val (.str x _)) => decide (x = s)
  | _ => false
def txB (K : PySem.W.Frag) : Bool := (gloL.all fun x => (He.Fa.glo x).ok K) && ((freeL.all fun x => (He.Fa.free x).ok K) && ((intL.all fun p => (He.Fa.int p.1 p.2).ok K) && ((clsL.all fun x => (He.Fa.cls x).ok K) && ((clsL.all fun x => clsIB K (He.ga K x)) &&
  ((noatL.all fun p => (He.Fa.noat p.1 p.2).ok K) && ((methL.all fun p => metB K p) && ((mkL.all fun p => mkrB K p) && ((kitL.all fun p => kitqB K p) && (((["names", "lives", "tracked"] : List Str).all fun x => empB K x) && (mk0B K (He.ga K "Unborne") && (mk0B K (He.ga K "Never") && (rdB K (He.ga K "Kind") &&
  (cvB K (He.ga K "Kind") "SON" "s" && cvB K (He.ga K "Kind") "DAUGHTER" "d")))))))))))))
/-- a def over the class cell, as the text has it -/
abbrev FnE : Type := Option (Str × Str × Arguments × FuncBody × Scope × Addr × List Str × Addr)
def fnE (K : PySem.W.Frag) (p : Str × Option Str) : FnE := match K.lookup (He.fAd K p) with
  | some ⟨_, _, .func fd, _⟩ => some (fd.name, fd.qualname, fd.params, fd.body, fd.scope, fd.globals, fd.closure.map (·.1), fd.builtins)
  | _ => none
def exVal (qual : Str) (st : Stmt) : FnE := some ("__init__", qual, C8.fnArgs st, .stmts (C8.fnBody st), C8.fnScope st, mainGlobals, ["__class__"], builtinsNs)
/-- its code, its cell -/
def codB (P : Program) (K : PySem.W.Frag) (cd : Value) (qual : Str) : Bool := PySem.W.codeIn K cd qual && (match cd with
  | .ref a => (match K.lookup a with
    | some ⟨_, _, .fields vs, _⟩ => (match (vs[2]? : Option Value) with
      | some (.str file _) => P.main.file == file
      | _ => false)
    | _ => false)
  | _ => false)
def cellB (K : PySem.W.Frag) (C : Addr) (cl : List (Str × Addr)) : Bool := match cl with
  | [(_, c)] => (match K.lookup c with
    | some ⟨_, _, .cell (some (.ref a)), _⟩ => decide (a = C)
    | _ => false)
  | _ => false
def initB (P : Program) (K : PySem.W.Frag) (C : Addr) (p : Str × Option Str) (qual : Str) : Bool := match K.lookup (He.fAd K p) with
  | some ⟨_, _, .func fd, _⟩ => decide (fd.defaults = .none) && (decide (fd.kwdefaults = .none) && (decide (fd.annotations = none) && (codB P K fd.code qual && cellB K C fd.closure)))
  | _ => false
def supB (P : Program) (K : PySem.W.Frag) (C : Addr) (p : Str × Option Str) (qual : Str) : Bool := oexB K C && (He.eqO (PySem.W.findIn K (.ref C) "__setattr__") (some (some (.builtin "object.__setattr__"))) && (decide (PySem.W.subIn K (.ref C) (.type "BaseException") = some true) && (decide (PySem.W.typeIn K (.ref C) = some (.type "type")) && (PySem.W.keepIn K (.ref C) &&
  (He.eqO (PySem.W.findIn K (.ref C) "__init__") (some (some (.ref (He.fAd K p)))) && (decide (PySem.W.typeIn K (.ref (He.fAd K p)) = some (.type "function")) && (initB P K C p qual && (He.eqO (PySem.W.ks_superIn K C C "__init__") (some (some (.builtin "ValueError.__init__"))) && (decide (PySem.W.subIn K (.ref C) (.type "ValueError") = some true) &&
  (He.eqO (PySem.W.nsIn K cStatics "thirdparty.any") (some none) && decide (PySem.W.mroIn K C (.ref C) = some true)))))))))))
def ecB (K : PySem.W.Frag) (C : Addr) : Bool := xfB K C && clsIB K C
def txeB (P : Program) (K : PySem.W.Frag) : Bool := supB P K (He.ga K "BadKind") ("BadKind", some "__init__") "BadKind.__init__" && (supB P K (He.ga K "TooWide") ("TooWide", some "__init__") "TooWide.__init__" && ((He.Fa.noat "BadKind" "kind").ok K && ((He.Fa.noat "TooWide" "what").ok K && (ecB K (He.ga K "BadKind") && (ecB K (He.ga K "TooWide") &&
  ((He.Fa.exm "BadKind" "BadKind" true).ok K && ((He.Fa.exm "TooWide" "TooWide" true).ok K && (kitqB K ("BadKind", "CustomError", true) && (kitqB K ("BadKind", "TooWide", false) && (kitqB K ("TooWide", "CustomError", true) && (kitqB K ("TooWide", "BadKind", false) &&
  (He.eqO (PySem.W.findIn K (.ref (He.ga K "Reads")) "__eq__") (some (some (.ref (He.fAd K ("Reads", some "__eq__"))))) && (PySem.W.isFn K (.ref (He.fAd K ("Reads", some "__eq__"))) && (He.eqO (PySem.W.findIn K (.ref (He.ga K "Reads")) "__ne__") (some (some (.builtin "object.__ne__"))) &&
  (decide (PySem.W.mroIn K (He.ga K "Reads") (.type "object") = some true) && (decide (PySem.W.subIn K (.type "list") (.ref (He.ga K "Reads")) = some false) && decide (PySem.W.kitOne K (.type "list") (.ref (He.ga K "Reads")) = some false)))))))))))))))))
def refsN (o : Obj) : List Addr := match o.data with
  | .seq its _ => its.toList.flatMap He.refV
  | .dict es _ => es.toList.flatMap fun e => He.refV e.val
  | .func fd => He.refV fd.code ++ (He.refV fd.kwdefaults ++ fd.closure.map (·.2))
  | .cls cd => [cd.ns]
  | _ => []
def nextN (g : Addr → Option Obj) (as : List Addr) : List Addr := as.flatMap fun a => match g a with
  | some o => refsN o
  | none => []
def asN (g : Addr → Option Obj) : List Addr :=
  let l1 := nextN g [mainGlobals]
  let l2 := nextN g l1
  let l3 := nextN g l2
  let l4 := nextN g l3
  mainGlobals :: cStatics :: (l1 ++ (l2 ++ (l3 ++ l4)))
abbrev AlN : Type := Bool × List He.FnW × FnE × FnE
def obsN (K : PySem.W.Frag) : AlN := (txB K && (txeB prg K && fnL.all fun d => d.ok K), fnL.map fun d => He.fnW K d.at_, fnE K ("BadKind", some "__init__"), fnE K ("TooWide", some "__init__"))
def valN : AlN := (true, fnL.map He.DefD.val, exVal "BadKind.__init__" sBadKind_init, exVal "TooWide.__init__" sTooWide_init)
def SaysN (K : PySem.W.Frag) : Prop := obsN K = valN
def obsNG (g : Addr → Option Obj) : AlN := obsN (He.frG g (asN g))
def hookN : PySem.W.Hook where
  α := AlN
  obs := fun s => obsNG s.heap.get?
  val := fun _ => valN
  says := fun _ h => ∃ K : PySem.W.Frag, K.In h ∧ SaysN K
  of := fun _ _ e => ⟨_, He.frG_in, e⟩
  keeps := fun _ _ _ ⟨K, hK, c⟩ k => ⟨K, PySem.W.Frag.In.keeps hK k, c⟩
theorem obsNG_eq {g : Addr → Option Obj} {s : Shared} (h : ∀ a, g a = s.heap.get? a) : obsNG g = hookN.obs s := by
  have e : g = s.heap.get? := funext h
  rw [e] <;> rfl
end Nk
namespace Nk
open PySem PySem.Spec PyProof.Rows L2
def names : List PySem.Str := ((["_wall", "CustomError", "BadCondition", "BadClause", "BadCustom", "BadKind", "TooWide", "MOST_WIDTH", "is_whole", "is_kind", "is_way", "MOST_WAY", "Kind", "is_house_source", "is_source", "house_place", "parent_kind", "other_kind", "ways_of", "MOST_PLACES", "MOST_LIVES", "MOST_TRACKED", "Reads", "place_of", "house_needs", "place_needs", "closed", "closed_lives", "in_order", "tracked_sources", "read_by_clauses", "asks_number", "reads_of", "MOST_CONDITIONS", "MOST_BARS", "Condition", "Number", "LifeCondition"] : List String) ++ (["Alive", "Dead", "Unborne", "Never", "Unlike", "Clause", "Take", "Free", "MOST_TAKES", "is_house_rule", "check_clauses", "check_sources", "check_house", "checked_wedding", "custom_rows", "Named", "Custom", "_law_mix", "_law_hand", "_law_draw", "_law_pick", "_law_ways", "_law_sources", "_law_houses", "_law_condition", "_law_many", "_law_clauses", "_law_rules", "_law_custom", "_law_make_condition", "_law_free", "_law_take", "_law_make_clause", "_law_make", "_law_read", "_law_kind", "_law_needs", "_law_closed"] : List String) ++ (["_law_asked", "_law_right", "_law_refused", "_law_bounds_right"] : List String)).map PySem.Str.ofString
abbrev R : PySem.W.OpenRow := PySem.W.OpenLaw.row PySem.Challenge.rw_namesakes_k12_whole_reads_closed_backwar
def obN (s : PySem.W.SharedT) : AlN := obsNG (HandSHeadRun.getT s)
theorem obN_eq (s : PySem.W.SharedT) : obN s = hookN.obs s.abs := obsNG_eq (HandSHeadRun.getT_eq s)
noncomputable def endN (w : World) (os : OsState) : Option PySem.W.SharedT := HandSHeadRun.endF (HandSHeadRun.stepQ (HandSHeadRun.denQ HandSHeadRun.tabQ) R.prog w) 30000 R.prog w os
end Nk
namespace Nk
open PySem PySem.Spec PyProof.Rows L2
theorem run3 (w : World) (os : OsState) : (HandSHeadRun.endF (HandSHeadRun.stepQ (HandSHeadRun.denQ HandSHeadRun.tabQ) R.prog w) 30000 R.prog w os).map (fun s => obN s) = some valN := by
  kernel_rfl
end Nk
namespace Nk
open PySem PySem.W PySem.Calls PyProof.Rows HandSHeadRun
theorem run1 (w : World) (os : OsState) : (endF (stepQ (denQ tabQ) R.prog w) 30000 R.prog w os).map (fun s => looksF R.prog (boot_heap w.params) s.abs) = some true := by
  kernel_rfl
end Nk
namespace Nk
open PySem PySem.W PySem.Calls PyProof.Rows HandSHeadRun
theorem run2 (w : World) (os : OsState) : (endF (stepQ (denQ tabQ) R.prog w) 30000 R.prog w os).map (fun s => seenQ (view R.prog [87]) names (importedModules R.prog.main.body) (fun s => xlAt (view R.prog [87]) [] s && recOk R.toRowW.records s) s.abs) = some (openGood (view R.prog [87]) names) := by
  kernel_rfl
end Nk
namespace Nk
open PySem PySem.Spec PyProof.Rows L2

/-! ### heaps: the hand, what is known, a step -/
structure Hd where
  a : Addr
  c : Addr
  ns : List Int
/-- the law's hand at h.a: its cells, the place, the rest, the total -/
def Hand (h : Hd) (H : Hp) : Prop := ∃ (i r t : Int), H h.a = some (.lst [.ref h.c, .int i, .int r, .int t]) ∧ H h.c = some (.lst (h.ns.map V.int)) ∧ h.ns.length ≤ 63 ∧ (∀ n ∈ h.ns, 0 ≤ n) ∧
  0 ≤ i ∧ i ≤ 63 ∧ 0 ≤ r ∧ 0 ≤ t ∧ t < 2147483629
/-- what may change: the hand alone -/
def Fix (m : Option Hd) (p : Addr) : Prop := ∀ h, m = some h → p ≠ h.a
/-- G is known of H; with a hand: it stands, and is not of the known part -/
def Okm (m : Option Hd) (G H : Hp) : Prop := Same G H ∧ ∀ h, m = some h → G h.a = none ∧ Hand h H
structure Stp (m : Option Hd) (G H G' H' : Hp) : Prop where
  gg : Same G G'
  gh : Same G' H'
  hh : ∀ p o, Fix m p → H p = some o → H' p = some o
  nw : ∀ p, H p ≠ none → G' p = G p
  hd : ∀ h, m = some h → Hand h H → Hand h H'
theorem Hand.there {h : Hd} {H : Hp} (q : Hand h H) : H h.a ≠ none := by
  obtain ⟨i, r, t, e, _⟩ := q
  rw [e]
  exact fun z => nomatch z
theorem Hand.thereC {h : Hd} {H : Hp} (q : Hand h H) : H h.c ≠ none := by
  obtain ⟨i, r, t, _, e, _⟩ := q
  rw [e]
  exact fun z => nomatch z
theorem Stp.refl {m : Option Hd} {G H : Hp} (h : Okm m G H) : Stp m G H G H := ⟨Same.refl G, h.1, fun _ _ _ q => q, fun _ _ => rfl, fun _ _ q => q⟩
theorem Stp.alive {m : Option Hd} {G H G' H' : Hp} (o : Okm m G H) (s : Stp m G H G' H') {p : Addr} (h : H p ≠ none) : H' p ≠ none := by
  by_cases e : Fix m p
  · cases q : H p with
    | none => exact absurd q h
    | some u =>
      rw [s.hh p u e q]
      exact fun z => nomatch z
  · cases m with
    | none => exact absurd (fun _ z => nomatch z) e
    | some d =>
      by_cases e2 : p = d.a
      · rw [e2]
        exact (s.hd d rfl (o.2 d rfl).2).there
      · exact absurd (fun h z => by cases z; exact e2) e
theorem Stp.okm {m : Option Hd} {G H G' H' : Hp} (o : Okm m G H) (s : Stp m G H G' H') : Okm m G' H' :=
  ⟨s.gh, fun d e => ⟨by rw [s.nw d.a (o.2 d e).2.there]; exact (o.2 d e).1, s.hd d e (o.2 d e).2⟩⟩
theorem Stp.trans {m : Option Hd} {G H G1 H1 G2 H2 : Hp} (o : Okm m G H) (a : Stp m G H G1 H1) (b : Stp m G1 H1 G2 H2) : Stp m G H G2 H2 :=
  ⟨a.gg.trans b.gg, b.gh, fun p u e q => b.hh p u e (a.hh p u e q), fun p h => (b.nw p (a.alive o h)).trans (a.nw p h), fun p e h => b.hd p e (a.hd p e h)⟩
theorem Hand.keep {d : Hd} {H H' : Hp} (s : ∀ p o, p = d.a ∨ p = d.c → H p = some o → H' p = some o) (h : Hand d H) : Hand d H' := by
  obtain ⟨i, r, t, h1, h2, h3⟩ := h
  exact ⟨i, r, t, s _ _ (.inl rfl) h1, s _ _ (.inr rfl) h2, h3⟩
theorem Hand.same {d : Hd} {H H' : Hp} (s : Same H H') (h : Hand d H) : Hand d H' := h.keep fun p o _ q => s p o q
theorem Fix.no {p : Addr} : Fix none p := fun _ z => nomatch z
theorem Stp.same {G H G' H' : Hp} (s : Stp none G H G' H') : Same H H' := fun p o q => s.hh p o .no q
/-- a step of a pure def is a step under every hand -/
theorem Stp.up {m : Option Hd} {G H G' H' : Hp} (s : Stp none G H G' H') : Stp m G H G' H' :=
  ⟨s.gg, s.gh, fun p o _ q => s.same p o q, s.nw, fun _ _ h => h.same s.same⟩
/-- a new object -/
theorem Stp.new {m : Option Hd} {G H : Hp} (o : Okm m G H) {p : Addr} {u : HO} (h : H p = none) : Stp m G H (upd G p u) (upd H p u) where
  gg := fun b v q => by
    rw [upd_ne (fun e => by rw [e] at q; rw [o.1 _ _ q] at h; cases h)]
    exact q
  gh := fun b v q => by
    by_cases e : b = p
    · rw [e, upd_same] at q
      rw [e, upd_same]
      exact q
    · rw [upd_ne e] at q
      rw [upd_ne e]
      exact o.1 _ _ q
  hh := fun b v _ q => by
    rw [upd_ne (ne_of_none q h)]
    exact q
  nw := fun b q => by
    rw [upd_ne (fun e => by rw [e] at q; exact q h)]
  hd := fun a e q => q.same fun b v z => by
    rw [upd_ne (ne_of_none z h)]
    exact z
/-- an object of one's own, not told, made or changed behind a step -/
theorem Stp.mut {m : Option Hd} {G H G' H' : Hp} (o : Okm m G H) (s : Stp m G H G' H') {p : Addr} {u : HO} (h : H p = none) (h' : G' p = none) : Stp m G H G' (upd H' p u) where
  gg := s.gg
  gh := fun b v q => by
    rw [upd_ne (fun e => by rw [e, h'] at q; cases q)]
    exact s.gh _ _ q
  hh := fun b v f q => by
    rw [upd_ne (ne_of_none q h)]
    exact s.hh _ _ f q
  nw := s.nw
  hd := fun d e q => (s.hd d e q).keep fun b v hb z => by
    have nb : b ≠ p := fun w => by
      rcases hb with hb | hb
      · exact q.there (by rw [← hb, w]; exact h)
      · exact q.thereC (by rw [← hb, w]; exact h)
    rw [upd_ne nb]
    exact z
/-- .. and told at last -/
theorem Stp.tell {m : Option Hd} {G H G' H' : Hp} (o : Okm m G H) (s : Stp m G H G' H') {p : Addr} {u : HO} (h : H p = none) (h' : G' p = none) (hp : H' p = some u) : Stp m G H (upd G' p u) H' where
  gg := fun b v q => by
    have z := s.gg _ _ q
    rw [upd_ne (fun e => by rw [e, h'] at z; cases z)]
    exact z
  gh := fun b v q => by
    by_cases e : b = p
    · rw [e, upd_same] at q
      rw [e, hp]
      exact q
    · rw [upd_ne e] at q
      exact s.gh _ _ q
  hh := s.hh
  nw := fun b q => by
    rw [upd_ne (fun e => by rw [e] at q; exact q h)]
    exact s.nw b q
  hd := s.hd
theorem Stp.gnone {m : Option Hd} {G H G' H' : Hp} (s : Stp m G H G' H') {p : Addr} (h : H p ≠ none) (g : G p = none) : G' p = none := (s.nw p h).trans g
theorem Okm.gnone {m : Option Hd} {G H : Hp} (o : Okm m G H) {p : Addr} (h : H p = none) : G p = none := o.1.free h
theorem Okm.of {G H : Hp} (s : Same G H) : Okm none G H := ⟨s, fun _ z => nomatch z⟩

/-! ### relations between a value and the known part that last -/
structure Rl where
  p : V → Hp → Prop
  mono : ∀ v G G', Same G G' → p v G → p v G'
def Rl.eq (c : V) : Rl := ⟨fun v _ => v = c, fun _ _ _ _ h => h⟩
def Rl.ex {α : Type} (f : α → Rl) : Rl := ⟨fun v G => ∃ a, (f a).p v G, fun v G G' s ⟨a, h⟩ => ⟨a, (f a).mono v G G' s h⟩⟩
def Rl.pr (P : Prop) (R : Rl) : Rl := ⟨fun v G => P ∧ R.p v G, fun v G G' s h => ⟨h.1, R.mono v G G' s h.2⟩⟩
def Rl.any : Rl := ⟨fun _ _ => True, fun _ _ _ _ _ => trivial⟩
abbrev rS : Str → Rl := fun s => Rl.eq (.str s)
abbrev rI : Int → Rl := fun i => Rl.eq (.int i)
abbrev rB (b : Bool) : Rl := Rl.eq (.bl b)
theorem Same.tup {K : PySem.W.Frag} {H H' : Hp} {a : Addr} {xs : List V} (e : Same H H') (h : SqT K H a xs) : SqT K H' a xs := by
  rcases h with (h | ⟨o, h⟩) | h
  · exact .inl (.inl (e _ _ h))
  · exact .inl (.inr ⟨o, e _ _ h⟩)
  · exact .inr h
/-- places told one by one -/
def AlL : List Rl → List V → Hp → Prop := fun l xs G => Paired (fun (R : Rl) x => R.p x G) l xs
theorem AlL.mono {G G' : Hp} (s : Same G G') : ∀ {l : List Rl} {xs : List V}, AlL l xs G → AlL l xs G'
  | _, _, .nil => .nil
  | _, _, .cons h t => .cons (Rl.mono _ _ _ _ s h) (AlL.mono s t)
theorem AlL.len {G : Hp} {l : List Rl} {xs : List V} (h : AlL l xs G) : xs.length = l.length := (Paired.length h).symm
theorem AlL.app {G : Hp} : ∀ {l l2 : List Rl} {xs ys : List V}, AlL l xs G → AlL l2 ys G → AlL (l ++ l2) (xs ++ ys) G
  | _, _, _, _, .nil, b => b
  | _, _, _, _, .cons h t, b => .cons h (AlL.app t b)
theorem AlL.get {G : Hp} : ∀ {l : List Rl} {xs : List V} {i : Nat} {R : Rl}, AlL l xs G → l[i]? = some R → ∃ x, xs[i]? = some x ∧ R.p x G
  | _, _, _, _, .nil, e => by simp at e
  | _, _, 0, _, .cons h _, e => by
    simp at e
    subst e
    exact ⟨_, rfl, h⟩
  | _, _, i + 1, d, .cons _ t, e => by
    obtain ⟨x, h1, h2⟩ := AlL.get (i := i) t (by simpa using e)
    exact ⟨x, by simpa using h1, h2⟩
theorem AlL.got {G : Hp} : ∀ {l : List Rl} {xs : List V} {i : Nat} {x : V}, AlL l xs G → xs[i]? = some x → ∃ R, l[i]? = some R ∧ R.p x G
  | _, _, _, _, .nil, e => by simp at e
  | _, _, 0, _, .cons h _, e => by
    simp at e
    subst e
    exact ⟨_, rfl, h⟩
  | _, _, i + 1, x, .cons _ t, e => by
    obtain ⟨d, h1, h2⟩ := AlL.got (i := i) t (by simpa using e)
    exact ⟨d, by simpa using h1, h2⟩
theorem AlL.one {G : Hp} {R : Rl} {xs : List V} (h : AlL [R] xs G) : ∃ x, xs = [x] ∧ R.p x G := by
  cases h with
  | cons h t =>
    cases t
    exact ⟨_, rfl, h⟩
theorem AlL.two {G : Hp} {R R' : Rl} {xs : List V} (h : AlL [R, R'] xs G) : ∃ x y, xs = [x, y] ∧ R.p x G ∧ R'.p y G := by
  cases h with
  | cons h t =>
    obtain ⟨y, e, h'⟩ := AlL.one t
    subst e
    exact ⟨_, _, rfl, h, h'⟩
theorem AlL.vals {α : Type} {f : α → V} {G : Hp} : ∀ {l : List α} {vs : List V}, AlL (l.map fun d => Rl.eq (f d)) vs G → vs = l.map f
  | [], _, .nil => rfl
  | x :: xs, _, .cons h t => by
    have e : _ = f x := h
    rw [e, AlL.vals t] <;> rfl
theorem AlL.ofVals {α : Type} (f : α → V) (G : Hp) : ∀ (l : List α), AlL (l.map fun d => Rl.eq (f d)) (l.map f) G
  | [] => .nil
  | d :: l => .cons rfl (AlL.ofVals f G l)
theorem AlL.at_ {G : Hp} {l : List Rl} {xs : List V} {i : Int} {R : Rl} (h : AlL l xs G) (e : atI l i = some R) : ∃ x, atI xs i = some x ∧ R.p x G := by
  unfold atI at e ⊢
  rw [h.len]
  cases q : ixN l.length i with
  | none =>
    rw [q] at e
    cases e
  | some j =>
    rw [q] at e
    exact h.get e
section
variable (K : PySem.W.Frag)
/-- a list, a tuple of such items -/
def Rl.lsl (l : List Rl) : Rl := ⟨fun v G => ∃ p xs, v = .ref p ∧ G p = some (.lst xs) ∧ AlL l xs G, fun _ _ _ s ⟨p, xs, e, h, a⟩ => ⟨p, xs, e, s _ _ h, a.mono s⟩⟩
def Rl.tpl (l : List Rl) : Rl := ⟨fun v G => ∃ p xs, v = .ref p ∧ SqT K G p xs ∧ AlL l xs G, fun _ _ _ s ⟨p, xs, e, h, a⟩ => ⟨p, xs, e, Same.tup s h, a.mono s⟩⟩
/-- of data -/
abbrev Rl.ls {α : Type} (D : α → Rl) (l : List α) : Rl := Rl.lsl (l.map D)
abbrev Rl.tp {α : Type} (D : α → Rl) (l : List α) : Rl := Rl.tpl K (l.map D)
end
/-- an instance, its fields in order -/
def Rl.obj (C : Addr) (ns : List Str) (Rs : List Rl) : Rl where
  p := fun v G => ∃ (a dx : Addr) (fs : List (Str × V)), v = .ref a ∧ G a = some (.ins C dx fs) ∧ fs.map (·.1) = ns ∧ AlL Rs (fs.map (·.2)) G
  mono := fun v G G' s h => by
    obtain ⟨a, dx, fs, e, h, n, l⟩ := h
    exact ⟨a, dx, fs, e, s _ _ h, n, AlL.mono s l⟩
theorem look_at {f : Str} : ∀ {fs : List (Str × V)} {i : Nat}, (fs.map (·.1)).findIdx? (fun k => f == k) = some i → ∃ v, (fs.map (·.2))[i]? = some v ∧ fs.lookup f = some v
  | [], _, h => by simp at h
  | (k, v) :: fs, i, h => by
    rw [List.map_cons, List.findIdx?_cons] at h
    cases e : f == k with
    | true =>
      rw [e] at h
      simp at h
      subst h
      exact ⟨v, rfl, by simp [List.lookup, e]⟩
    | false =>
      rw [e] at h
      simp only [Bool.false_eq_true, if_false, Option.map_eq_some_iff] at h
      obtain ⟨j, hj, hi⟩ := h
      obtain ⟨w, h1, h2⟩ := look_at (fs := fs) (i := j) hj
      subst hi
      exact ⟨w, by simpa using h1, by simp [List.lookup, e, h2]⟩
theorem look_no {f : Str} : ∀ {fs : List (Str × V)}, (fs.map (·.1)).findIdx? (fun k => f == k) = none → fs.lookup f = none
  | [], _ => rfl
  | (k, v) :: fs, h => by
    rw [List.map_cons, List.findIdx?_cons] at h
    cases e : f == k with
    | true =>
      rw [e] at h
      simp at h
    | false =>
      rw [e] at h
      simp only [Bool.false_eq_true, if_false, Option.map_eq_none_iff] at h
      simp [List.lookup, e, look_no h]

/-! ### the judgements -/
section
variable (X : Cx)
def cE (e : Expr) : TE := fun σ H Q => ∀ (pins : List (Addr × Obj)) (s : Shared), Inv X pins σ H s → wpAny (model X.prog X.w) X.A (eval e X.env) (EP X pins σ Q) X.xe s
def cT (e : Expr) : TT := fun σ H Q => ∀ (pins : List (Addr × Obj)) (s : Shared), Inv X pins σ H s → wpAny (model X.prog X.w) X.A (isTrue e X.env (eval e X.env)) (TP X pins σ Q) X.xe s
def cA (es : List Expr) : TA := fun σ H Q => ∀ (pos : Pos) (pins : List (Addr × Obj)) (s : Shared), Inv X pins σ H s → wpAny (model X.prog X.w) X.A (spliced (backTo pos (starEach es X.env))) (AP X pins σ Q) X.xe s
def cS (st : Stmt) : TS := fun D σ H => ∀ (pins : List (Addr × Obj)) (s : Shared), Inv X pins σ H s → wpAny (model X.prog X.w) X.A (exec st X.env) (SP X pins D) X.xe s
/-- THE BLOCK: from slots σ and heap H these statements end as D wants -/
def WB (sts : List Stmt) : TS := fun D σ H => ∀ (pins : List (Addr × Obj)) (s : Shared), Inv X pins σ H s → wpAny (model X.prog X.w) X.A (execs sts X.env) (SP X pins D) X.xe s
end
section
variable {X : Cx} {e : Expr} {es : List Expr} {st : Stmt} {sts : List Stmt} {σ : L2.St} {H : Hp}
theorem pE : PE X e (cE X e) := ⟨fun pins s σ H Q I h => h pins s I⟩
theorem pT : PT X e (cT X e) := ⟨fun pins s σ H Q I h => h pins s I⟩
theorem pA : PA X es (cA X es) := ⟨fun pos pins s σ H Q I h => h pos pins s I⟩
theorem pS : PS X st (cS X st) := ⟨fun pins s σ H D I h => h pins s I⟩
theorem pB : PSs X sts (WB X sts) := ⟨fun pins s σ H D I h => h pins s I⟩
theorem eP {t : TE} (h : PE X e t) {Q : VK} (q : t σ H Q) : cE X e σ H Q := fun pins s I => h.run pins s σ H Q I q
theorem tP {t : TT} (h : PT X e t) {Q : Bool → Hp → Prop} (q : t σ H Q) : cT X e σ H Q := fun pins s I => h.run pins s σ H Q I q
theorem aP {t : TA} (h : PA X es t) {Q : List V → Hp → Prop} (q : t σ H Q) : cA X es σ H Q := fun pos pins s I => h.run pos pins s σ H Q I q
theorem sP {t : TS} (h : PS X st t) {D : Ends} (q : t D σ H) : cS X st D σ H := fun pins s I => h.run pins s σ H D I q
theorem bP {t : TS} (h : PSs X sts t) {D : Ends} (q : t D σ H) : WB X sts D σ H := fun pins s I => h.run pins s σ H D I q
end
/-- from slots σ and the known part G the expression gives what R says, by a step -/
def JE (m : Option Hd) (X : Cx) (e : Expr) (σ : L2.St) (G : Hp) (R : Rl) : Prop :=
  ∀ (G1 H : Hp), Same G G1 → Okm m G1 H → ∀ Q : VK, (∀ v G' H', Stp m G1 H G' H' → R.p v G' → Q v H') → cE X e σ H Q
def JT (m : Option Hd) (X : Cx) (e : Expr) (σ : L2.St) (G : Hp) (R : Bool → Prop) : Prop :=
  ∀ (G1 H : Hp), Same G G1 → Okm m G1 H → ∀ Q : Bool → Hp → Prop, (∀ b G' H', Stp m G1 H G' H' → R b → Q b H') → cT X e σ H Q
def JA (m : Option Hd) (X : Cx) (es : List Expr) (σ : L2.St) (G : Hp) (l : List Rl) : Prop :=
  ∀ (G1 H : Hp), Same G G1 → Okm m G1 H → ∀ Q : List V → Hp → Prop, (∀ vs G' H', Stp m G1 H G' H' → AlL l vs G' → Q vs H') → cA X es σ H Q
abbrev isB (b : Bool) : Bool → Prop := fun c => c = b

section
variable {m : Option Hd} {X : Cx} {a b c e : Expr} {es : List Expr} {σ : L2.St} {G G' : Hp} {R Ra Rb Rc : Rl} {pos : Pos} {i : Nat} {x : Str}
theorem JE.mono (s : Same G G') (h : JE m X e σ G R) : JE m X e σ G' R := fun G1 H z o Q q => h G1 H (s.trans z) o Q q
theorem JE.imp (h : JE m X e σ G R) (f : ∀ v G', Same G G' → R.p v G' → Ra.p v G') : JE m X e σ G Ra := fun G1 H z o Q q => h G1 H z o Q fun v G2 H2 s r => q v G2 H2 s (f v G2 (z.trans s.gg) r)
theorem JT.mono {R : Bool → Prop} (s : Same G G') (h : JT m X e σ G R) : JT m X e σ G' R := fun G1 H z o Q q => h G1 H (s.trans z) o Q q
theorem JA.mono {l : List Rl} (s : Same G G') (h : JA m X es σ G l) : JA m X es σ G' l := fun G1 H z o Q q => h G1 H (s.trans z) o Q q
/-- a value that a reading gives without a look at the heap -/
theorem je_val {t : TE} {v : V} (h : PE X e t) (q : ∀ H (Q : VK), Q v H → t σ H Q) (r : ∀ G', Same G G' → R.p v G') : JE m X e σ G R := fun G1 H z o Q k => eP h (q H Q (k v G1 H (.refl o) (r G1 z)))
theorem je_var (i : Nat) {x : Str} {pos : Pos} {v : V} (h : σ[i]? = some (some v)) (r : R.p v G) (hN : X.N[i]? = some x := by rfl) (hv : Vis X.env.scope x := by first | exact Or.inl rfl | exact Or.inr (Or.inl rfl) | exact Or.inr (Or.inr rfl))
    (hd : (x == ("__debug__" : Str)) = false := by decide) (hcd : (x == ("__classdict__" : Str)) = false := by decide) : JE m X (.Name x pos) σ G R :=
  je_val (pe_var hN hv hd hcd) (fun _ _ q => ⟨v, h, q⟩) fun G' s => R.mono _ _ _ s r
/-- .. of a known value -/
theorem je_v (i : Nat) {x : Str} {pos : Pos} {v : V} (h : σ[i]? = some (some v) := by rfl) (hN : X.N[i]? = some x := by rfl) (hv : Vis X.env.scope x := by first | exact Or.inl rfl | exact Or.inr (Or.inl rfl) | exact Or.inr (Or.inr rfl))
    (hd : (x == ("__debug__" : Str)) = false := by decide) (hcd : (x == ("__classdict__" : Str)) = false := by decide) : JE m X (.Name x pos) σ G (Rl.eq v) := je_var i h rfl hN hv hd hcd
theorem je_int {i : Int} {j : Nat} : JE m X (.Constant (.int i) j pos) σ G (rI i) := je_val pe_int (fun _ _ q => q) fun _ _ => rfl
theorem je_str {x : Str} {j : Nat} : JE m X (.Constant (.str x) j pos) σ G (rS x) := je_val pe_str (fun _ _ q => q) fun _ _ => rfl
theorem je_bl {b : Bool} {j : Nat} : JE m X (.Constant (.bool b) j pos) σ G (rB b) := je_val pe_bl (fun _ _ q => q) fun _ _ => rfl
theorem je_non {j : Nat} : JE m X (.Constant .none j pos) σ G (Rl.eq .non) := je_val pe_non (fun _ _ q => q) fun _ _ => rfl
/-- a module's constant, a class -/
theorem je_glob {v : V} {u : Value} (hm : X.mg x = some u) (r : RelV v u) (hg : Gl X x := by rfl) (hd : (x == ("__debug__" : Str)) = false := by decide) : JE m X (.Name x pos) σ G (Rl.eq v) :=
  je_val (pe_glob hg hm r hd) (fun _ _ q => q) fun _ _ => rfl
theorem je_bltn {v : V} {u : Value} (hm : X.mg x = none) (hv : bootBuiltins x = some u) (r : RelV v u) (hg : Gl X x := by rfl) (hn : x ≠ "__name__" := by decide) (hd : (x == ("__debug__" : Str)) = false := by decide) : JE m X (.Name x pos) σ G (Rl.eq v) :=
  je_val (pe_bltn hg hm hv r hn hd) (fun _ _ q => q) fun _ _ => rfl

/-- a two-place reading over two parts -/
theorem je_two {r : R2} {ex : Expr} (h : PE X ex (tOp r (cE X a) (cE X b))) (ha : JE m X a σ G Ra) (hb : JE m X b σ G Rb)
    (hr : ∀ x y G1 H1 (Q : VK), Same G G1 → Okm m G1 H1 → Ra.p x G1 → Rb.p y G1 → (∀ v G' H', Stp m G1 H1 G' H' → R.p v G' → Q v H') → r x y H1 Q) : JE m X ex σ G R := fun G1 H z o Q k =>
  eP h (ha G1 H z o _ fun x G2 H2 s2 r2 => hb G2 H2 (z.trans s2.gg) (s2.okm o) _ fun y G3 H3 s3 r3 =>
    hr x y G3 H3 Q ((z.trans s2.gg).trans s3.gg) (s3.okm (s2.okm o)) (Ra.mono _ _ _ s3.gg r2) r3 fun v G' H' s4 r4 => k v G' H' ((s2.trans o s3).trans o s4) r4)
theorem je_op {op : Operator} {r : R2} (ho : OpR X (binaryOp op) r) (ha : JE m X a σ G Ra) (hb : JE m X b σ G Rb)
    (hr : ∀ x y G1 H1 (Q : VK), Same G G1 → Okm m G1 H1 → Ra.p x G1 → Rb.p y G1 → (∀ v G' H', Stp m G1 H1 G' H' → R.p v G' → Q v H') → r x y H1 Q) : JE m X (.BinOp a op b pos) σ G R := je_two (pe_op ho pE pE) ha hb hr
theorem je_cmp {op : CmpOp} {r : R2} (ho : OpR X (compareOp op) r) (ha : JE m X a σ G Ra) (hb : JE m X b σ G Rb)
    (hr : ∀ x y G1 H1 (Q : VK), Same G G1 → Okm m G1 H1 → Ra.p x G1 → Rb.p y G1 → (∀ v G' H', Stp m G1 H1 G' H' → R.p v G' → Q v H') → r x y H1 Q)
    (hm : behindInMarks op b = false := by first | exact nomark _ | rfl) : JE m X (.Compare a [op] [b] pos) σ G R := je_two (pe_cmpR ho pE pE hm) ha hb hr
theorem je_ix {r : R2} (ho : IxR X r) (ha : JE m X a σ G Ra) (hb : JE m X b σ G Rb)
    (hr : ∀ x y G1 H1 (Q : VK), Same G G1 → Okm m G1 H1 → Ra.p x G1 → Rb.p y G1 → (∀ v G' H', Stp m G1 H1 G' H' → R.p v G' → Q v H') → r x y H1 Q)
    (hs : PlainIx b := by exact fun _ _ => rfl) : JE m X (.Subscript a b pos) σ G R := je_two (pe_ix ho pE pE hs) ha hb hr
/-- .. where only values are looked at -/
theorem je_opV {op : Operator} {r : R2} {x y z : V} (ho : OpR X (binaryOp op) r) (ha : JE m X a σ G (Rl.eq x)) (hb : JE m X b σ G (Rl.eq y)) (hr : ∀ H (Q : VK), Q z H → r x y H Q) : JE m X (.BinOp a op b pos) σ G (Rl.eq z) :=
  je_op ho ha hb fun x' y' G1 H1 Q _ o ex ey k => by
    cases ex; cases ey
    exact hr H1 Q (k z G1 H1 (.refl o) rfl)
theorem je_cmpV {op : CmpOp} {r : R2} {x y z : V} (ho : OpR X (compareOp op) r) (ha : JE m X a σ G (Rl.eq x)) (hb : JE m X b σ G (Rl.eq y)) (hr : ∀ H (Q : VK), Q z H → r x y H Q)
    (hm : behindInMarks op b = false := by first | exact nomark _ | rfl) : JE m X (.Compare a [op] [b] pos) σ G (Rl.eq z) :=
  je_cmp ho ha hb (fun x' y' G1 H1 Q _ o ex ey k => by
    cases ex; cases ey
    exact hr H1 Q (k z G1 H1 (.refl o) rfl)) hm
/-! #### ints -/
theorem je_add {i j : Int} (ha : JE m X a σ G (rI i)) (hb : JE m X b σ G (rI j)) : JE m X (.BinOp a .Add b pos) σ G (rI (i + j)) := je_opV op_add ha hb fun _ _ q => ⟨i, j, rfl, rfl, q⟩
theorem je_sub {i j : Int} (ha : JE m X a σ G (rI i)) (hb : JE m X b σ G (rI j)) : JE m X (.BinOp a .Sub b pos) σ G (rI (i - j)) := je_opV op_sub ha hb fun _ _ q => ⟨i, j, rfl, rfl, q⟩
theorem je_mul {i j : Int} (ha : JE m X a σ G (rI i)) (hb : JE m X b σ G (rI j)) (h : CMul i j) : JE m X (.BinOp a .Mult b pos) σ G (rI (i * j)) := je_opV op_mul ha hb fun _ _ q => ⟨i, j, rfl, rfl, h, q⟩
theorem je_mod {i j : Int} (ha : JE m X a σ G (rI i)) (hb : JE m X b σ G (rI j)) (h : 0 < j) : JE m X (.BinOp a .Mod b pos) σ G (rI (i % j)) := je_opV op_mod ha hb fun _ _ q => ⟨i, j, rfl, rfl, h, q⟩
theorem je_div {i j : Int} (ha : JE m X a σ G (rI i)) (hb : JE m X b σ G (rI j)) (h : CDiv i j) : JE m X (.BinOp a .FloorDiv b pos) σ G (rI (i / j)) := je_opV op_fdiv ha hb fun _ _ q => ⟨i, j, rfl, rfl, h, q⟩
theorem je_cat {x y : Str} (ha : JE m X a σ G (rS x)) (hb : JE m X b σ G (rS y)) (h : x.length + y.length ≤ sizeLine) : JE m X (.BinOp a .Add b pos) σ G (rS (x ++ y)) := je_opV op_add_str ha hb fun _ _ q => ⟨x, y, rfl, rfl, h, q⟩
/-! #### comparisons of flat things -/
theorem je_eq {x y : V} (ha : JE m X a σ G (Rl.eq x)) (hb : JE m X b σ G (Rl.eq y)) (h : scal x y = true := by rfl) : JE m X (.Compare a [.Eq] [b] pos) σ G (rB (decide (x = y))) := je_cmpV op_eq ha hb fun _ _ q => ⟨h, q⟩
theorem je_ne {x y : V} (ha : JE m X a σ G (Rl.eq x)) (hb : JE m X b σ G (Rl.eq y)) (h : scal x y = true := by rfl) : JE m X (.Compare a [.NotEq] [b] pos) σ G (rB (!decide (x = y))) := je_cmpV op_ne ha hb fun _ _ q => ⟨h, q⟩
theorem je_lt {i j : Int} (ha : JE m X a σ G (rI i)) (hb : JE m X b σ G (rI j)) : JE m X (.Compare a [.Lt] [b] pos) σ G (rB (decide (i < j))) := je_cmpV op_lt ha hb fun _ _ q => ⟨i, j, rfl, rfl, q⟩
theorem je_le {i j : Int} (ha : JE m X a σ G (rI i)) (hb : JE m X b σ G (rI j)) : JE m X (.Compare a [.LtE] [b] pos) σ G (rB (decide (i ≤ j))) := je_cmpV op_le ha hb fun _ _ q => ⟨i, j, rfl, rfl, q⟩
theorem je_gt {i j : Int} (ha : JE m X a σ G (rI i)) (hb : JE m X b σ G (rI j)) : JE m X (.Compare a [.Gt] [b] pos) σ G (rB (decide (j < i))) := je_cmpV op_gt ha hb fun _ _ q => ⟨i, j, rfl, rfl, q⟩
theorem je_ge {i j : Int} (ha : JE m X a σ G (rI i)) (hb : JE m X b σ G (rI j)) : JE m X (.Compare a [.GtE] [b] pos) σ G (rB (decide (j ≤ i))) := je_cmpV op_ge ha hb fun _ _ q => ⟨i, j, rfl, rfl, q⟩
theorem je_isN {x : V} {j : Nat} {p : Pos} (ha : JE m X a σ G (Rl.eq x)) : JE m X (.Compare a [.Is] [.Constant .none j p] pos) σ G (rB (decide (x = .non))) := je_cmpV op_isN ha je_non fun _ _ q => ⟨rfl, q⟩
theorem je_notN {x : V} {j : Nat} {p : Pos} (ha : JE m X a σ G (Rl.eq x)) : JE m X (.Compare a [.IsNot] [.Constant .none j p] pos) σ G (rB (!decide (x = .non))) := je_cmpV op_notN ha je_non fun _ _ q => ⟨rfl, q⟩
/-! #### in a list, a tuple of texts -/
theorem inV_str (s : Str) : ∀ l : List Str, inV (.str s) (l.map V.str) = l.contains s
  | [] => rfl
  | x :: l => by
    show (eqV (.str x) (.str s) || inV (.str s) (l.map V.str)) = ((s == x) || l.contains s)
    rw [inV_str s l]
    congr 1
    show (x == s) = (s == x)
    by_cases h : x = s
    · subst h; rfl
    · rw [beq_eq_false_iff_ne.mpr h, beq_eq_false_iff_ne.mpr (Ne.symm h)]
theorem flat_strs (l : List Str) : (l.map V.str).all flatV = true := by
  rw [List.all_map, List.all_eq_true]
  exact fun x _ => rfl
theorem je_inT {s : Str} {l : List Str} (ha : JE m X a σ G (rS s)) (hb : JE m X b σ G (Rl.tp X.K rS l)) (hm : behindInMarks .In b = false := by rfl) : JE m X (.Compare a [.In] [b] pos) σ G (rB (l.contains s)) :=
  je_cmp op_in_seq ha hb (fun x' y G1 H1 Q _ o ex ⟨p, xs, ey, hp, al⟩ k => by
    cases ex
    have e := AlL.vals (f := V.str) al
    subst e
    exact ⟨p, _, ey, .inr (Same.tup o.1 hp), rfl, flat_strs l, by have z := k _ G1 H1 (.refl o) rfl; rw [← inV_str] at z; exact z⟩) hm
theorem je_inL {s : Str} {l : List Str} (ha : JE m X a σ G (rS s)) (hb : JE m X b σ G (Rl.ls rS l)) (hm : behindInMarks .In b = false := by rfl) : JE m X (.Compare a [.In] [b] pos) σ G (rB (l.contains s)) :=
  je_cmp op_in_seq ha hb (fun x' y G1 H1 Q _ o ex ⟨p, xs, ey, hp, al⟩ k => by
    cases ex
    have e := AlL.vals (f := V.str) al
    subst e
    exact ⟨p, _, ey, .inl (SqL.of (o.1 _ _ hp)), rfl, flat_strs l, by have z := k _ G1 H1 (.refl o) rfl; rw [← inV_str] at z; exact z⟩) hm
theorem je_niT {s : Str} {l : List Str} (ha : JE m X a σ G (rS s)) (hb : JE m X b σ G (Rl.tp X.K rS l)) (hm : behindInMarks .NotIn b = false := by rfl) : JE m X (.Compare a [.NotIn] [b] pos) σ G (rB (!l.contains s)) :=
  je_cmp op_notIn_seq ha hb (fun x' y G1 H1 Q _ o ex ⟨p, xs, ey, hp, al⟩ k => by
    cases ex
    have e := AlL.vals (f := V.str) al
    subst e
    exact ⟨p, _, ey, .inr (Same.tup o.1 hp), rfl, flat_strs l, by have z := k _ G1 H1 (.refl o) rfl; rw [← inV_str] at z; exact z⟩) hm

/-! #### argument lists, displays -/
theorem ja_nil : JA m X [] σ G [] := fun G1 H z o Q k => aP pa_nil (k [] G1 H (.refl o) .nil)
theorem ja_cons {l : List Rl} (h : JE m X e σ G R) (hr : JA m X es σ G l) (hs : starEach (e :: es) X.env = (false, eval e X.env) :: starEach es X.env := by rfl) : JA m X (e :: es) σ G (R :: l) := fun G1 H z o Q k =>
  aP (pa_cons pE pA hs) (h G1 H z o _ fun x G2 H2 s2 r2 => hr G2 H2 (z.trans s2.gg) (s2.okm o) _ fun vs G3 H3 s3 r3 => k _ G3 H3 (s2.trans o s3) (.cons (R.mono _ _ _ s3.gg r2) r3))
theorem je_tup {l : List Rl} {x1 : Nat} (h : JA m X es σ G l) (hl : l.length ≤ 1000 := by exact Nat.le_of_ble_eq_true rfl) : JE m X (.Tuple es x1 pos) σ G (Rl.tpl X.K l) := fun G1 H z o Q k =>
  eP (pe_tup pA) (h G1 H z o _ fun vs G2 H2 s2 r2 => ⟨by rw [r2.len]; exact Nat.le_trans hl (by decide), fun p hp => k _ _ _ (s2.trans o (.new (s2.okm o) hp))
    ⟨p, vs, rfl, SqT.of upd_same, AlL.mono (Stp.new (m := m) (s2.okm o) hp).gg r2⟩⟩)
theorem je_lst {l : List Rl} (h : JA m X es σ G l) (hl : l.length ≤ 1000 := by exact Nat.le_of_ble_eq_true rfl) : JE m X (.List es pos) σ G (Rl.lsl l) := fun G1 H z o Q k =>
  eP (pe_lst pA) (h G1 H z o _ fun vs G2 H2 s2 r2 => ⟨by rw [r2.len]; exact Nat.le_trans hl (by decide), fun p hp => k _ _ _ (s2.trans o (.new (s2.okm o) hp))
    ⟨p, vs, rfl, upd_same, AlL.mono (Stp.new (m := m) (s2.okm o) hp).gg r2⟩⟩)

/-! #### tests -/
theorem jt_val {b : Bool} (h : JE m X e σ G (rB b)) (he : ∀ whole, isTrue e X.env whole = (do let v ← whole; standAt e.pos; holding [v] (truthy v)) := by intro _; rfl) : JT m X e σ G (isB b) := fun G1 H z o Q k =>
  tP (pt_val pE he) (h G1 H z o _ fun v G2 H2 s2 r2 => ⟨b, r2, k b G2 H2 s2 rfl⟩)
theorem jt_any {P : Bool → Prop} (h : JE m X e σ G (Rl.ex fun b => Rl.pr (P b) (rB b))) (he : ∀ whole, isTrue e X.env whole = (do let v ← whole; standAt e.pos; holding [v] (truthy v)) := by intro _; rfl) : JT m X e σ G P := fun G1 H z o Q k =>
  tP (pt_val pE he) (h G1 H z o _ fun v G2 H2 s2 ⟨b, pb, r2⟩ => ⟨b, r2, k b G2 H2 s2 pb⟩)
/-- a comparison as a test -/
theorem jt_cmp {r : R2} {op : CmpOp} {b' : Bool} (h : JE m X (.Compare a [op] [b] pos) σ G (rB b')) (ht : PT X (.Compare a [op] [b] pos) (tTest (cE X (.Compare a [op] [b] pos)))) : JT m X (.Compare a [op] [b] pos) σ G (isB b') := fun G1 H z o Q k =>
  tP ht (h G1 H z o _ fun v G2 H2 s2 r2 => ⟨b', r2, k b' G2 H2 s2 rfl⟩)
theorem jt_not {b : Bool} (h : JT m X a σ G (isB b)) : JT m X (.UnaryOp .Not a pos) σ G (isB (!b)) := fun G1 H z o Q k =>
  tP (pt_not pT) (h G1 H z o _ fun c G2 H2 s2 r2 => k _ G2 H2 s2 (by rw [show c = b from r2]))
end
end Nk
namespace Nk
open PySem PySem.Spec PyProof.Rows L2
/-! ### rules of expressions -/
section
variable {m : Option Hd} {X : Cx} {a b c e o : Expr} {es : List Expr} {σ : L2.St} {G G' : Hp} {R Ra Rb Rc : Rl} {pos p0 : Pos} {x f mn : Str} {P : Bool → Prop}
/-- a reading that gives what R says -/
def JR (m : Option Hd) (t : TE) (σ : L2.St) (G : Hp) (R : Rl) : Prop := ∀ (G1 H : Hp), Same G G1 → Okm m G1 H → ∀ Q : VK, (∀ v G' H', Stp m G1 H G' H' → R.p v G' → Q v H') → t σ H Q
theorem je_of {t : TE} (h : PE X e t) (j : JR m t σ G R) : JE m X e σ G R := fun G1 H z o Q k => eP h (j G1 H z o Q k)
theorem je_ifE (hc : JT m X c σ G P) (h1 : P true → JE m X a σ G R) (h2 : P false → JE m X b σ G R) : JE m X (.IfExp c a b pos) σ G R := fun G1 H z o Q k =>
  eP (pe_ifExp pT pE pE) (hc G1 H z o _ fun v G2 H2 s2 r2 => by
    cases v with
    | true => exact iteT (h1 r2 G2 H2 (z.trans s2.gg) (s2.okm o) Q fun v G' H' s r => k v G' H' (s2.trans o s) r)
    | false => exact iteF (h2 r2 G2 H2 (z.trans s2.gg) (s2.okm o) Q fun v G' H' s r => k v G' H' (s2.trans o s) r))
theorem je_one {op : BoolOp} (h : JE m X a σ G R) : JE m X (.BoolOp op [a] pos) σ G R := fun G1 H z o Q k => eP (pe_one pE) (h G1 H z o Q k)
theorem je_and {p q : Bool} (ha : JE m X a σ G (rB p)) (hb : p = true → JE m X (.BoolOp .And (b :: es) pos) σ G (rB q)) : JE m X (.BoolOp .And (a :: b :: es) pos) σ G (rB (p && q)) := fun G1 H z o Q k =>
  eP (pe_and pE pE) (ha G1 H z o _ fun v G2 H2 s2 r2 => ⟨p, r2, by
    cases p with
    | true => exact iteT (hb rfl G2 H2 (z.trans s2.gg) (s2.okm o) Q fun v G' H' s r => k v G' H' (s2.trans o s) r)
    | false => exact iteF (k _ G2 H2 s2 rfl)⟩)
theorem je_or {p q : Bool} (ha : JE m X a σ G (rB p)) (hb : p = false → JE m X (.BoolOp .Or (b :: es) pos) σ G (rB q)) : JE m X (.BoolOp .Or (a :: b :: es) pos) σ G (rB (p || q)) := fun G1 H z o Q k =>
  eP (pe_or pE pE) (ha G1 H z o _ fun v G2 H2 s2 r2 => ⟨p, r2, by
    cases p with
    | false => exact iteF (hb rfl G2 H2 (z.trans s2.gg) (s2.okm o) Q fun v G' H' s r => k v G' H' (s2.trans o s) r)
    | true => exact iteT (k _ G2 H2 s2 rfl)⟩)
theorem je_not {p : Bool} (ha : JE m X a σ G (rB p)) : JE m X (.UnaryOp .Not a pos) σ G (rB (!p)) := fun G1 H z o Q k =>
  eP (pe_not pE) (ha G1 H z o _ fun v G2 H2 s2 r2 => ⟨p, r2, k _ G2 H2 s2 rfl⟩)
/-! #### and, or as tests -/
def cW (X : Cx) (e : Expr) : TT := fun σ H Q => ∀ (whole : Sem Value) (pins : List (Addr × Obj)) (s : Shared), Inv X pins σ H s → wpAny (model X.prog X.w) X.A (isTrue e X.env whole) (TP X pins σ Q) X.xe s
theorem pW : PW X e (cW X e) := ⟨fun whole pins s σ H Q I h => h whole pins s I⟩
theorem wP {t : TT} (h : PW X e t) {σ : L2.St} {H : Hp} {Q : Bool → Hp → Prop} (q : t σ H Q) : cW X e σ H Q := fun whole pins s I => h.run whole pins s σ H Q I q
def JW (m : Option Hd) (X : Cx) (e : Expr) (σ : L2.St) (G : Hp) (R : Bool → Prop) : Prop :=
  ∀ (G1 H : Hp), Same G G1 → Okm m G1 H → ∀ Q : Bool → Hp → Prop, (∀ b G' H', Stp m G1 H G' H' → R b → Q b H') → cW X e σ H Q
theorem jt_w (h : JW m X e σ G P) : JT m X e σ G P := fun G1 H z o Q k => tP pW.pt (h G1 H z o Q k)
theorem jw_and1 (h : JT m X a σ G P) : JW m X (.BoolOp .And [a] pos) σ G P := fun G1 H z o Q k => wP (pw_and1 pT) (h G1 H z o Q k)
theorem jw_or1 (h : JT m X a σ G P) : JW m X (.BoolOp .Or [a] pos) σ G P := fun G1 H z o Q k => wP (pw_or1 pT) (h G1 H z o Q k)
theorem jw_and {p q : Bool} (ha : JT m X a σ G (isB p)) (hb : p = true → JW m X (.BoolOp .And (b :: es) pos) σ G (isB q)) : JW m X (.BoolOp .And (a :: b :: es) pos) σ G (isB (p && q)) := fun G1 H z o Q k =>
  wP (pw_and pT pW) (ha G1 H z o _ fun v G2 H2 s2 r2 => by
    have r2 : v = p := r2
    subst r2
    cases v with
    | true => exact iteT (hb rfl G2 H2 (z.trans s2.gg) (s2.okm o) Q fun v G' H' s r => k v G' H' (s2.trans o s) r)
    | false => exact iteF (k _ G2 H2 s2 rfl))
theorem jw_or {p q : Bool} (ha : JT m X a σ G (isB p)) (hb : p = false → JW m X (.BoolOp .Or (b :: es) pos) σ G (isB q)) : JW m X (.BoolOp .Or (a :: b :: es) pos) σ G (isB (p || q)) := fun G1 H z o Q k =>
  wP (pw_or pT pW) (ha G1 H z o _ fun v G2 H2 s2 r2 => by
    have r2 : v = p := r2
    subst r2
    cases v with
    | false => exact iteF (hb rfl G2 H2 (z.trans s2.gg) (s2.okm o) Q fun v G' H' s r => k v G' H' (s2.trans o s) r)
    | true => exact iteT (k _ G2 H2 s2 rfl))
/-- a comparison as a test, by its value's rule: the test form is by the same reading -/
theorem jt_two {r : R2} {q : Bool} (h : PT X e (tTest (tOp r (cE X a) (cE X b)))) (ha : JE m X a σ G Ra) (hb : JE m X b σ G Rb)
    (hr : ∀ x y G1 H1 (Q : VK), Same G G1 → Okm m G1 H1 → Ra.p x G1 → Rb.p y G1 → (∀ v G' H', Stp m G1 H1 G' H' → (rB q).p v G' → Q v H') → r x y H1 Q) : JT m X e σ G (isB q) := fun G1 H z o Q k =>
  tP h (ha G1 H z o _ fun x G2 H2 s2 r2 => hb G2 H2 (z.trans s2.gg) (s2.okm o) _ fun y G3 H3 s3 r3 =>
    hr x y G3 H3 _ ((z.trans s2.gg).trans s3.gg) (s3.okm (s2.okm o)) (Ra.mono _ _ _ s3.gg r2) r3 fun v G' H' s4 r4 => ⟨q, r4, k q G' H' ((s2.trans o s3).trans o s4) rfl⟩)
theorem jt_cmpV {op : CmpOp} {r : R2} {x y : V} {q : Bool} (ho : OpR X (compareOp op) r) (ha : JE m X a σ G (Rl.eq x)) (hb : JE m X b σ G (Rl.eq y)) (hr : ∀ H (Q : VK), Q (.bl q) H → r x y H Q)
    (hm : behindInMarks op b = false := by first | exact nomark _ | rfl) : JT m X (.Compare a [op] [b] pos) σ G (isB q) :=
  jt_two (pt_cmpR ho pE pE hm) ha hb fun x' y' G1 H1 Q _ o ex ey k => by
    cases ex; cases ey
    exact hr H1 Q (k _ G1 H1 (.refl o) rfl)
theorem jt_eq {x y : V} (ha : JE m X a σ G (Rl.eq x)) (hb : JE m X b σ G (Rl.eq y)) (h : scal x y = true := by rfl) : JT m X (.Compare a [.Eq] [b] pos) σ G (isB (decide (x = y))) := jt_cmpV op_eq ha hb fun _ _ q => ⟨h, q⟩
theorem jt_ne {x y : V} (ha : JE m X a σ G (Rl.eq x)) (hb : JE m X b σ G (Rl.eq y)) (h : scal x y = true := by rfl) : JT m X (.Compare a [.NotEq] [b] pos) σ G (isB (!decide (x = y))) := jt_cmpV op_ne ha hb fun _ _ q => ⟨h, q⟩
theorem jt_lt {i j : Int} (ha : JE m X a σ G (rI i)) (hb : JE m X b σ G (rI j)) : JT m X (.Compare a [.Lt] [b] pos) σ G (isB (decide (i < j))) := jt_cmpV op_lt ha hb fun _ _ q => ⟨i, j, rfl, rfl, q⟩
theorem jt_le {i j : Int} (ha : JE m X a σ G (rI i)) (hb : JE m X b σ G (rI j)) : JT m X (.Compare a [.LtE] [b] pos) σ G (isB (decide (i ≤ j))) := jt_cmpV op_le ha hb fun _ _ q => ⟨i, j, rfl, rfl, q⟩
theorem jt_gt {i j : Int} (ha : JE m X a σ G (rI i)) (hb : JE m X b σ G (rI j)) : JT m X (.Compare a [.Gt] [b] pos) σ G (isB (decide (j < i))) := jt_cmpV op_gt ha hb fun _ _ q => ⟨i, j, rfl, rfl, q⟩
theorem jt_ge {i j : Int} (ha : JE m X a σ G (rI i)) (hb : JE m X b σ G (rI j)) : JT m X (.Compare a [.GtE] [b] pos) σ G (isB (decide (j ≤ i))) := jt_cmpV op_ge ha hb fun _ _ q => ⟨i, j, rfl, rfl, q⟩
theorem jt_isN {x : V} {j : Nat} {p : Pos} (ha : JE m X a σ G (Rl.eq x)) : JT m X (.Compare a [.Is] [.Constant .none j p] pos) σ G (isB (decide (x = .non))) := jt_cmpV op_isN ha je_non fun _ _ q => ⟨rfl, q⟩
theorem jt_notN {x : V} {j : Nat} {p : Pos} (ha : JE m X a σ G (Rl.eq x)) : JT m X (.Compare a [.IsNot] [.Constant .none j p] pos) σ G (isB (!decide (x = .non))) := jt_cmpV op_notN ha je_non fun _ _ q => ⟨rfl, q⟩
theorem jt_inT {s : Str} {l : List Str} (ha : JE m X a σ G (rS s)) (hb : JE m X b σ G (Rl.tp X.K rS l)) (hm : behindInMarks .In b = false := by rfl) : JT m X (.Compare a [.In] [b] pos) σ G (isB (l.contains s)) :=
  jt_two (pt_cmpR op_in_seq pE pE hm) ha hb fun x' y G1 H1 Q _ o ex ⟨p, xs, ey, hp, al⟩ k => by
    cases ex
    have e := AlL.vals (f := V.str) al
    subst e
    exact ⟨p, _, ey, .inr (Same.tup o.1 hp), rfl, flat_strs l, by have z := k _ G1 H1 (.refl o) rfl; rw [← inV_str] at z; exact z⟩
theorem jt_niT {s : Str} {l : List Str} (ha : JE m X a σ G (rS s)) (hb : JE m X b σ G (Rl.tp X.K rS l)) (hm : behindInMarks .NotIn b = false := by rfl) : JT m X (.Compare a [.NotIn] [b] pos) σ G (isB (!l.contains s)) :=
  jt_two (pt_cmpR op_notIn_seq pE pE hm) ha hb fun x' y G1 H1 Q _ o ex ⟨p, xs, ey, hp, al⟩ k => by
    cases ex
    have e := AlL.vals (f := V.str) al
    subst e
    exact ⟨p, _, ey, .inr (Same.tup o.1 hp), rfl, flat_strs l, by have z := k _ G1 H1 (.refl o) rfl; rw [← inV_str] at z; exact z⟩
theorem jt_inL {s : Str} {l : List Str} (ha : JE m X a σ G (rS s)) (hb : JE m X b σ G (Rl.ls rS l)) (hm : behindInMarks .In b = false := by rfl) : JT m X (.Compare a [.In] [b] pos) σ G (isB (l.contains s)) :=
  jt_two (pt_cmpR op_in_seq pE pE hm) ha hb fun x' y G1 H1 Q _ o ex ⟨p, xs, ey, hp, al⟩ k => by
    cases ex
    have e := AlL.vals (f := V.str) al
    subst e
    exact ⟨p, _, ey, .inl (SqL.of (o.1 _ _ hp)), rfl, flat_strs l, by have z := k _ G1 H1 (.refl o) rfl; rw [← inV_str] at z; exact z⟩
theorem jt_ifE {q1 q2 : Bool} : True := trivial
/-- a ≤ b ≤ c of ints -/
theorem je_chain {i j k : Int} (ha : JE m X a σ G (rI i)) (hb : JE m X b σ G (rI j)) (hc : JE m X c σ G (rI k)) (hm : lastMarks [.LtE, .LtE] [b, c] = false := by with_unfolding_all rfl) :
    JE m X (.Compare a [.LtE, .LtE] [b, c] pos) σ G (rB (decide (i ≤ j) && decide (j ≤ k))) := fun G1 H z o Q kk =>
  eP (pe_chain op_le op_le pE pE pE hm) (ha G1 H z o _ fun x G2 H2 s2 r2 => hb G2 H2 (z.trans s2.gg) (s2.okm o) _ fun y G3 H3 s3 r3 => by
    cases r2; cases r3
    refine ⟨i, j, rfl, rfl, _, rfl, ?_⟩
    cases h : decide (i ≤ j) with
    | true =>
      refine iteT (hc G3 H3 ((z.trans s2.gg).trans s3.gg) (s3.okm (s2.okm o)) _ fun w G4 H4 s4 r4 => ?_)
      cases r4
      refine ⟨j, k, rfl, rfl, ?_⟩
      refine kk _ G4 H4 ((s2.trans o s3).trans o s4) ?_
      rw [h] <;> rfl
    | false =>
      refine iteF (kk _ G3 H3 (s2.trans o s3) ?_)
      rw [h] <;> rfl)
theorem jt_of {q : Bool} (h : PT X e (tTest (cE X e))) (j : JE m X e σ G (rB q)) : JT m X e σ G (isB q) := fun G1 H z o Q k => tP h (j G1 H z o _ fun v G' H' s r => ⟨q, r, k q G' H' s rfl⟩)
theorem jt_chain {i j k : Int} (ha : JE m X a σ G (rI i)) (hb : JE m X b σ G (rI j)) (hc : JE m X c σ G (rI k)) (hm : lastMarks [.LtE, .LtE] [b, c] = false := by with_unfolding_all rfl) :
    JT m X (.Compare a [.LtE, .LtE] [b, c] pos) σ G (isB (decide (i ≤ j) && decide (j ≤ k))) := fun G1 H z o Q kk =>
  tP (pt_chain op_le op_le pE pE pE hm) (ha G1 H z o _ fun x G2 H2 s2 r2 => hb G2 H2 (z.trans s2.gg) (s2.okm o) _ fun y G3 H3 s3 r3 => by
    cases r2; cases r3
    refine ⟨i, j, rfl, rfl, _, rfl, ?_⟩
    cases h : decide (i ≤ j) with
    | true =>
      refine iteT (hc G3 H3 ((z.trans s2.gg).trans s3.gg) (s3.okm (s2.okm o)) _ fun w G4 H4 s4 r4 => ?_)
      cases r4
      refine ⟨j, k, rfl, rfl, _, rfl, ?_⟩
      refine kk _ G4 H4 ((s2.trans o s3).trans o s4) ?_
      show _ = _
      rw [h] <;> rfl
    | false =>
      refine iteF ⟨false, rfl, kk _ G3 H3 (s2.trans o s3) ?_⟩
      show _ = _
      rw [h] <;> rfl)

/-! #### fields -/
theorem je_fld {C : Addr} {ns : List Str} {Rs : List Rl} (i : Nat) (ho : JE m X o σ G (Rl.obj C ns Rs)) (hc : Cls X.K C) (hn : NoAttr X.K C f) (hi : ns.findIdx? (fun k => f == k) = some i := by decide +kernel) (hR : Rs[i]? = some R := by rfl)
    (hb : attributeBase o f X.env (eval o X.env) = eval o X.env := by rfl) : JE m X (.Attribute o f pos) σ G R := fun G1 H z ok Q k =>
  eP (pe_fld pE hb) (ho G1 H z ok _ fun v G2 H2 s2 r2 => by
    obtain ⟨a, dx, fs, e, h, en, al⟩ := r2
    subst en
    obtain ⟨w, h1, h2⟩ := look_at hi
    obtain ⟨w', h3, h4⟩ := al.get hR
    rw [h1] at h3
    cases h3
    exact ⟨a, C, dx, fs, w, e, s2.gh _ _ h, hc, hn, h2, k w G2 H2 s2 h4⟩)

/-! #### items, slices -/
theorem je_ixL {l : List Rl} {i : Int} (ha : JE m X a σ G (Rl.lsl l)) (hb : JE m X b σ G (rI i)) (h : atI l i = some R := by rfl) (hs : PlainIx b := by exact fun _ _ => rfl) : JE m X (.Subscript a b pos) σ G R :=
  je_ix ix_list ha hb (fun x y G1 H1 Q _ o ⟨p, xs, ex, hp, al⟩ ey k => by
    cases ey
    obtain ⟨w, h1, h2⟩ := al.at_ h
    exact ⟨p, xs, i, w, ex, rfl, SqL.of (o.1 _ _ hp), h1, k _ G1 H1 (.refl o) h2⟩) hs
theorem je_ixT {l : List Rl} {i : Int} (ha : JE m X a σ G (Rl.tpl X.K l)) (hb : JE m X b σ G (rI i)) (h : atI l i = some R := by rfl) (hs : PlainIx b := by exact fun _ _ => rfl) : JE m X (.Subscript a b pos) σ G R :=
  je_ix ix_tup ha hb (fun x y G1 H1 Q _ o ⟨p, xs, ex, hp, al⟩ ey k => by
    cases ey
    obtain ⟨w, h1, h2⟩ := al.at_ h
    exact ⟨p, xs, i, w, ex, rfl, Same.tup o.1 hp, h1, k _ G1 H1 (.refl o) h2⟩) hs
theorem je_ixS {s : Str} {i : Int} {ch : Nat} (ha : JE m X a σ G (rS s)) (hb : JE m X b σ G (rI i)) (hl : s.length ≤ 1000) (h : atI s.cps.toList i = some ch) (hs : PlainIx b := by exact fun _ _ => rfl) : JE m X (.Subscript a b pos) σ G (rS ⟨#[ch]⟩) :=
  je_ix ix_str ha hb (fun x y G1 H1 Q _ o ex ey k => by
    cases ey; cases ex
    exact ⟨s, i, ch, rfl, rfl, Nat.le_trans hl (by decide), h, k _ G1 H1 (.refl o) rfl⟩) hs
/-- s[1:] and the like -/
theorem je_slS {s : Str} {i : Int} {p2 : Pos} {lo : Expr} (ha : JE m X a σ G (rS s)) (hb : JE m X lo σ G (rI i)) (hl : s.length ≤ 1000) : JE m X (.Subscript a (.Slice (some lo) none none p2) pos) σ G (rS (Txt.slice s (some i) none)) := fun G1 H z o Q k =>
  eP (pe_slice C8.sl_txt pE (po_some pE) po_none) (ha G1 H z o _ fun x G2 H2 s2 r2 => hb G2 H2 (z.trans s2.gg) (s2.okm o) _ fun y G3 H3 s3 r3 => by
    cases r2; cases r3
    exact ⟨i, rfl, s, rfl, Nat.le_trans hl (by decide), k _ G3 H3 (s2.trans o s3) rfl⟩)

/-! #### built-ins -/
theorem je_callB {id : String} {r : List V → Hp → VK → Prop} {l : List Rl} (hc : CallR X (.builtin id) r) (ha : JA m X (e :: es) σ G l)
    (hr : ∀ vs G1 H1 (Q : VK), Same G G1 → Okm m G1 H1 → AlL l vs G1 → (∀ v G' H', Stp m G1 H1 G' H' → R.p v G' → Q v H') → r vs H1 Q)
    (hm : X.mg x = none) (hv : bootBuiltins x = some (.builtin id)) (hg : Gl X x := by rfl) (hn : x ≠ "__name__" := by decide) (hdb : (x == ("__debug__" : Str)) = false := by decide)
    (he : starEach (e :: es) X.env = (false, eval e X.env) :: starEach es X.env := by rfl) (hpl : (backTo pos (starEach es X.env)).any (·.1) = false := by rfl) : JE m X (.Call (.Name x p0) (e :: es) [] pos) σ G R := fun G1 H z o Q k =>
  eP (pe_callB hc hg hm hv pA hn hdb he hpl) (ha G1 H z o _ fun vs G2 H2 s2 r2 => hr vs G2 H2 Q (z.trans s2.gg) (s2.okm o) r2 fun v G' H' s r => k v G' H' (s2.trans o s) r)
theorem je_callTy {id : String} {r : List V → Hp → VK → Prop} {l : List Rl} (hc : CallR X (.type id) r) (ha : JA m X (e :: es) σ G l)
    (hr : ∀ vs G1 H1 (Q : VK), Same G G1 → Okm m G1 H1 → AlL l vs G1 → (∀ v G' H', Stp m G1 H1 G' H' → R.p v G' → Q v H') → r vs H1 Q)
    (hm : X.mg x = none) (hv : bootBuiltins x = some (.type id)) (hg : Gl X x := by rfl) (hn : x ≠ "__name__" := by decide) (hdb : (x == ("__debug__" : Str)) = false := by decide)
    (he : starEach (e :: es) X.env = (false, eval e X.env) :: starEach es X.env := by rfl) (hpl : (backTo pos (starEach es X.env)).any (·.1) = false := by rfl) : JE m X (.Call (.Name x p0) (e :: es) [] pos) σ G R := fun G1 H z o Q k =>
  eP (pe_callTy hc hg hm hv pA hn hdb he hpl) (ha G1 H z o _ fun vs G2 H2 s2 r2 => hr vs G2 H2 Q (z.trans s2.gg) (s2.okm o) r2 fun v G' H' s r => k v G' H' (s2.trans o s) r)
end
end Nk
namespace Nk
open PySem PySem.Spec PyProof.Rows L2
/-! ### built-ins, calls, instances -/
section
variable {m : Option Hd} {X : Cx} {a b c e o : Expr} {es : List Expr} {σ : L2.St} {G G' : Hp} {R Ra Rb Rc : Rl} {pos p0 p1 p2 apos : Pos} {x f mn : Str} {P : Bool → Prop} {l l2 : List Rl}
theorem je_lenL (ha : JE m X a σ G (Rl.lsl l)) (hm : X.mg "len" = none) (hg : Gl X "len" := by rfl) (he : starEach [a] X.env = (false, eval a X.env) :: starEach [] X.env := by rfl) (hpl : (backTo pos (starEach [] X.env)).any (·.1) = false := by rfl) : JE m X (.Call (.Name "len" p0) [a] [] pos) σ G (rI l.length) :=
  je_callB call_len_seq (ja_cons ha ja_nil he) (fun vs G1 H1 Q _ o h k => by
    obtain ⟨x, rfl, p, xs, rfl, hp, al⟩ := AlL.one h
    exact ⟨p, xs, rfl, .inl (SqL.of (o.1 _ _ hp)), by rw [al.len]; exact k _ G1 H1 (.refl o) rfl⟩) hm PySem.boot_len hg (by decide) (by decide) he hpl
theorem je_lenT (ha : JE m X a σ G (Rl.tpl X.K l)) (hm : X.mg "len" = none) (hg : Gl X "len" := by rfl) (he : starEach [a] X.env = (false, eval a X.env) :: starEach [] X.env := by rfl) (hpl : (backTo pos (starEach [] X.env)).any (·.1) = false := by rfl) : JE m X (.Call (.Name "len" p0) [a] [] pos) σ G (rI l.length) :=
  je_callB call_len_seq (ja_cons ha ja_nil he) (fun vs G1 H1 Q _ o h k => by
    obtain ⟨x, rfl, p, xs, rfl, hp, al⟩ := AlL.one h
    exact ⟨p, xs, rfl, .inr (Same.tup o.1 hp), by rw [al.len]; exact k _ G1 H1 (.refl o) rfl⟩) hm PySem.boot_len hg (by decide) (by decide) he hpl
theorem je_lenS {s : Str} (ha : JE m X a σ G (rS s)) (hl : s.length ≤ 1000) (hm : X.mg "len" = none) (hg : Gl X "len" := by rfl) (he : starEach [a] X.env = (false, eval a X.env) :: starEach [] X.env := by rfl) (hpl : (backTo pos (starEach [] X.env)).any (·.1) = false := by rfl) : JE m X (.Call (.Name "len" p0) [a] [] pos) σ G (rI s.length) :=
  je_callB call_len_str (ja_cons ha ja_nil he) (fun vs G1 H1 Q _ o h k => by
    obtain ⟨x, rfl, ex⟩ := AlL.one h
    cases ex
    exact ⟨s, rfl, Nat.le_trans hl (by decide), k _ G1 H1 (.refl o) rfl⟩) hm PySem.boot_len hg (by decide) (by decide) he hpl
theorem je_listL (ha : JE m X a σ G (Rl.lsl l)) (hm : X.mg "list" = none) (hg : Gl X "list" := by rfl) (he : starEach [a] X.env = (false, eval a X.env) :: starEach [] X.env := by rfl) (hpl : (backTo pos (starEach [] X.env)).any (·.1) = false := by rfl) : JE m X (.Call (.Name "list" p0) [a] [] pos) σ G (Rl.lsl l) :=
  je_callTy call_list_of (ja_cons ha ja_nil he) (fun vs G1 H1 Q _ o h k => by
    obtain ⟨x, rfl, p, xs, rfl, hp, al⟩ := AlL.one h
    exact ⟨p, xs, rfl, .inl (SqL.of (o.1 _ _ hp)), fun q hq => k _ _ _ (.new o hq) ⟨q, xs, rfl, upd_same, al.mono (Stp.new (m := m) o hq).gg⟩⟩) hm (by decide +kernel) hg (by decide) (by decide) he hpl
theorem je_listT (ha : JE m X a σ G (Rl.tpl X.K l)) (hm : X.mg "list" = none) (hg : Gl X "list" := by rfl) (he : starEach [a] X.env = (false, eval a X.env) :: starEach [] X.env := by rfl) (hpl : (backTo pos (starEach [] X.env)).any (·.1) = false := by rfl) : JE m X (.Call (.Name "list" p0) [a] [] pos) σ G (Rl.lsl l) :=
  je_callTy call_list_of (ja_cons ha ja_nil he) (fun vs G1 H1 Q _ o h k => by
    obtain ⟨x, rfl, p, xs, rfl, hp, al⟩ := AlL.one h
    exact ⟨p, xs, rfl, .inr (Same.tup o.1 hp), fun q hq => k _ _ _ (.new o hq) ⟨q, xs, rfl, upd_same, al.mono (Stp.new (m := m) o hq).gg⟩⟩) hm (by decide +kernel) hg (by decide) (by decide) he hpl
theorem je_tupleL (ha : JE m X a σ G (Rl.lsl l)) (hm : X.mg "tuple" = none) (hg : Gl X "tuple" := by rfl) (he : starEach [a] X.env = (false, eval a X.env) :: starEach [] X.env := by rfl) (hpl : (backTo pos (starEach [] X.env)).any (·.1) = false := by rfl) : JE m X (.Call (.Name "tuple" p0) [a] [] pos) σ G (Rl.tpl X.K l) :=
  je_callTy call_tuple_of (ja_cons ha ja_nil he) (fun vs G1 H1 Q _ o h k => by
    obtain ⟨x, rfl, p, xs, rfl, hp, al⟩ := AlL.one h
    exact ⟨p, xs, rfl, .inl ⟨SqL.of (o.1 _ _ hp), fun q hq => k _ _ _ (.new o hq) ⟨q, xs, rfl, SqT.of upd_same, al.mono (Stp.new (m := m) o hq).gg⟩⟩⟩) hm (by decide +kernel) hg (by decide) (by decide) he hpl
theorem je_tupleT (ha : JE m X a σ G (Rl.tpl X.K l)) (hm : X.mg "tuple" = none) (hg : Gl X "tuple" := by rfl) (he : starEach [a] X.env = (false, eval a X.env) :: starEach [] X.env := by rfl) (hpl : (backTo pos (starEach [] X.env)).any (·.1) = false := by rfl) : JE m X (.Call (.Name "tuple" p0) [a] [] pos) σ G (Rl.tpl X.K l) :=
  je_callTy call_tuple_of (ja_cons ha ja_nil he) (fun vs G1 H1 Q _ o h k => by
    obtain ⟨x, rfl, p, xs, rfl, hp, al⟩ := AlL.one h
    exact ⟨p, xs, rfl, .inr ⟨Same.tup o.1 hp, k _ G1 H1 (.refl o) ⟨p, xs, rfl, hp, al⟩⟩⟩) hm (by decide +kernel) hg (by decide) (by decide) he hpl
theorem je_catL (ha : JE m X a σ G (Rl.lsl l)) (hb : JE m X b σ G (Rl.lsl l2)) (hz : l.length + l2.length ≤ 100000) : JE m X (.BinOp a .Add b pos) σ G (Rl.lsl (l ++ l2)) :=
  je_op op_cat ha hb fun x y G1 H1 Q _ o ⟨p, xs, ex, hp, al⟩ ⟨q, ys, ey, hq, bl⟩ k => ⟨p, q, xs, ys, ex, ey, o.1 _ _ hp, o.1 _ _ hq, by rw [al.len, bl.len]; exact Nat.le_trans hz (by decide),
    fun r hr => k _ _ _ (.new o hr) ⟨r, _, rfl, upd_same, (al.app bl).mono (Stp.new (m := m) o hr).gg⟩⟩
theorem je_catT (ha : JE m X a σ G (Rl.tpl X.K l)) (hb : JE m X b σ G (Rl.tpl X.K l2)) (hn : 0 < l.length) (hz : l.length + l2.length ≤ 100000) : JE m X (.BinOp a .Add b pos) σ G (Rl.tpl X.K (l ++ l2)) :=
  je_op op_catT ha hb fun x y G1 H1 Q _ o ⟨p, xs, ex, hp, al⟩ ⟨q, ys, ey, hq, bl⟩ k => ⟨p, q, xs, ys, ex, ey, Same.tup o.1 hp, Same.tup o.1 hq, fun e => by
      rw [e] at al
      have := al.len
      simp at this
      omega, by rw [al.len, bl.len]; exact Nat.le_trans hz (by decide),
    fun e => k _ G1 H1 (.refl o) ⟨p, xs, rfl, hp, by subst e; cases bl; rw [List.append_nil]; exact al⟩, fun _ r hr => k _ _ _ (.new o hr) ⟨r, _, rfl, SqT.of upd_same, (al.app bl).mono (Stp.new (m := m) o hr).gg⟩⟩
theorem AlL.rep {G : Hp} {l : List Rl} {xs : List V} (h : AlL l xs G) : ∀ n : Nat, AlL (List.replicate n l).flatten (List.replicate n xs).flatten G
  | 0 => .nil
  | n + 1 => by
    rw [List.replicate_succ, List.replicate_succ, List.flatten_cons, List.flatten_cons]
    exact h.app (AlL.rep h n)
theorem je_repL {k : Nat} (ha : JE m X a σ G (Rl.lsl l)) (hb : JE m X b σ G (rI k)) (hz : l.length * k ≤ 100000) (hk : k ≤ 100000) : JE m X (.BinOp a .Mult b pos) σ G (Rl.lsl (List.replicate k l).flatten) :=
  je_op op_rep ha hb fun x y G1 H1 Q _ o ⟨p, xs, ex, hp, al⟩ ey kk => ⟨p, k, xs, ex, ey, o.1 _ _ hp, by omega, by omega, by rw [al.len]; exact Nat.le_trans hz (by decide),
    fun r hr => kk _ _ _ (.new o hr) ⟨r, _, rfl, upd_same, (al.rep k).mono (Stp.new (m := m) o hr).gg⟩⟩
theorem je_intI {i : Int} (ha : JE m X a σ G (rI i)) (hm : X.mg "int" = none) (hg : Gl X "int" := by rfl) (he : starEach [a] X.env = (false, eval a X.env) :: starEach [] X.env := by rfl) (hpl : (backTo pos (starEach [] X.env)).any (·.1) = false := by rfl) : JE m X (.Call (.Name "int" p0) [a] [] pos) σ G (rI i) :=
  je_callTy call_int1 (ja_cons ha ja_nil he) (fun vs G1 H1 Q _ o h k => by
    obtain ⟨x, rfl, ex⟩ := AlL.one h
    cases ex
    exact .inl ⟨i, rfl, k _ G1 H1 (.refl o) rfl⟩) hm (by decide +kernel) hg (by decide) (by decide) he hpl
theorem je_intS {s : Str} {n : Int} (ha : JE m X a σ G (rS s)) (hs : PySem.intText? s = some n) (hl : s.length ≤ 600) (hm : X.mg "int" = none) (hg : Gl X "int" := by rfl) (he : starEach [a] X.env = (false, eval a X.env) :: starEach [] X.env := by rfl) (hpl : (backTo pos (starEach [] X.env)).any (·.1) = false := by rfl) : JE m X (.Call (.Name "int" p0) [a] [] pos) σ G (rI n) :=
  je_callTy call_int_str (ja_cons ha ja_nil he) (fun vs G1 H1 Q _ o h k => by
    obtain ⟨x, rfl, ex⟩ := AlL.one h
    cases ex
    exact ⟨s, n, rfl, hs, by omega, k _ G1 H1 (.refl o) rfl⟩) hm (by decide +kernel) hg (by decide) (by decide) he hpl
theorem je_strI {i : Int} (ha : JE m X a σ G (rI i)) (hz : i.natAbs.log2 < 1920) (hm : X.mg "str" = none) (hg : Gl X "str" := by rfl) (he : starEach [a] X.env = (false, eval a X.env) :: starEach [] X.env := by rfl) (hpl : (backTo pos (starEach [] X.env)).any (·.1) = false := by rfl) : JE m X (.Call (.Name "str" p0) [a] [] pos) σ G (rS (toString i)) :=
  je_callTy call_str_int (ja_cons ha ja_nil he) (fun vs G1 H1 Q _ o h k => by
    obtain ⟨x, rfl, ex⟩ := AlL.one h
    cases ex
    exact ⟨i, rfl, hz, k _ G1 H1 (.refl o) rfl⟩) hm (by decide +kernel) hg (by decide) (by decide) he hpl
theorem je_abs {i : Int} (ha : JE m X a σ G (rI i)) (hm : X.mg "abs" = none) (hg : Gl X "abs" := by rfl) (he : starEach [a] X.env = (false, eval a X.env) :: starEach [] X.env := by rfl) (hpl : (backTo pos (starEach [] X.env)).any (·.1) = false := by rfl) : JE m X (.Call (.Name "abs" p0) [a] [] pos) σ G (rI (if i < 0 then -i else i)) :=
  je_callB call_abs (ja_cons ha ja_nil he) (fun vs G1 H1 Q _ o h k => by
    obtain ⟨x, rfl, ex⟩ := AlL.one h
    cases ex
    exact ⟨i, rfl, k _ G1 H1 (.refl o) rfl⟩) hm (by decide +kernel) hg (by decide) (by decide) he hpl
theorem je_max2 {i j : Int} (hc : X.calm = true) (ha : JE m X a σ G (rI i)) (hb : JE m X b σ G (rI j)) (hm : X.mg "max" = none) (hg : Gl X "max" := by rfl) (he : starEach [a, b] X.env = (false, eval a X.env) :: starEach [b] X.env := by rfl) (he2 : starEach [b] X.env = (false, eval b X.env) :: starEach [] X.env := by rfl) (hpl : (backTo pos (starEach [b] X.env)).any (·.1) = false := by rfl) :
    JE m X (.Call (.Name "max" p0) [a, b] [] pos) σ G (rI (if j > i then j else i)) :=
  je_callB (call_max2 hc) (ja_cons ha (ja_cons hb ja_nil he2) he) (fun vs G1 H1 Q _ o h k => by
    obtain ⟨x, y, rfl, ex, ey⟩ := AlL.two h
    cases ex; cases ey
    exact ⟨i, j, rfl, k _ G1 H1 (.refl o) rfl⟩) hm (by decide +kernel) hg (by decide) (by decide) he hpl
theorem je_min2 {i j : Int} (hc : X.calm = true) (ha : JE m X a σ G (rI i)) (hb : JE m X b σ G (rI j)) (hm : X.mg "min" = none) (hg : Gl X "min" := by rfl) (he : starEach [a, b] X.env = (false, eval a X.env) :: starEach [b] X.env := by rfl) (he2 : starEach [b] X.env = (false, eval b X.env) :: starEach [] X.env := by rfl) (hpl : (backTo pos (starEach [b] X.env)).any (·.1) = false := by rfl) :
    JE m X (.Call (.Name "min" p0) [a, b] [] pos) σ G (rI (if j < i then j else i)) :=
  je_callB (call_min2 hc) (ja_cons ha (ja_cons hb ja_nil he2) he) (fun vs G1 H1 Q _ o h k => by
    obtain ⟨x, y, rfl, ex, ey⟩ := AlL.two h
    cases ex; cases ey
    exact ⟨i, j, rfl, k _ G1 H1 (.refl o) rfl⟩) hm (by decide +kernel) hg (by decide) (by decide) he hpl
/-! #### f'..{n}' -/
theorem str_empty (y : Str) : Str.empty ++ y = y := TL.ext_tl ((TL.tl_append _ _).trans (List.nil_append _))
theorem len_app (s t : Str) : (s ++ t).length = s.length + t.length := by
  have h : ∀ x : Str, x.length = (TL.tl x).length := fun x => by
    show x.cps.size = x.cps.toList.length
    simp
  rw [h, h s, h t, TL.tl_append, List.length_append]
theorem je_fs {s : Str} {i : Int} {j : Nat} (ha : JE m X a σ G (rI i)) (hl : s.length ≤ 1000) (hz : i.natAbs.log2 < 1920) (hz2 : (Str.ofString (toString i)).length ≤ 1000) :
    JE m X (.JoinedStr [.Constant (.str s) j p1, .FormattedValue a (-1) none p2] pos) σ G (rS (s ++ Str.ofString (toString i))) := fun G1 H z o Q k =>
  eP (pe_joined (.cons pe_str (.cons (pe_fmt pE) .nil))) ⟨s, rfl, by rw [str_empty]; exact Nat.le_trans hl (by decide), ha G1 H z o _ fun v G2 H2 s2 r2 => by
    cases r2
    refine .inr ⟨i, rfl, hz, Str.ofString (toString i), rfl, ?_, ?_⟩
    · rw [str_empty, len_app]
      exact Nat.le_trans (Nat.add_le_add hl hz2) (by decide)
    · rw [str_empty]
      exact k _ G2 H2 s2 rfl⟩

/-! #### isinstance -/
theorem je_isi {t u : Value} {cv : V} {q : Bool} (ha : JE m X a σ G Ra) (hc : JE m X c σ G (Rl.eq cv)) (ht : ∀ v G1 H1, Same G G1 → Same G1 H1 → Ra.p v G1 → TyX X.K H1 v t) (hcv : ClsV cv u) (hk : PySem.W.kitOne X.K t u = some q)
    (hm : X.mg "isinstance" = none) (hg : Gl X "isinstance" := by rfl) (he : starEach [a, c] X.env = (false, eval a X.env) :: starEach [c] X.env := by rfl) (he2 : starEach [c] X.env = (false, eval c X.env) :: starEach [] X.env := by rfl) (hpl : (backTo pos (starEach [c] X.env)).any (·.1) = false := by rfl) :
    JE m X (.Call (.Name "isinstance" p0) [a, c] [] pos) σ G (rB q) :=
  je_callB call_isi (ja_cons ha (ja_cons hc ja_nil he2) he) (fun vs G1 H1 Q z o h k => by
    obtain ⟨x, y, rfl, ex, ey⟩ := AlL.two h
    cases ey
    exact ⟨x, cv, t, u, q, rfl, hcv, ht x G1 H1 z o.1 ex, hk, k _ G1 H1 (.refl o) rfl⟩) hm (by decide +kernel) hg (by decide) (by decide) he hpl
/-- .. of a text, an int -/
theorem je_isiS {s : Str} {u : String} {q : Bool} (ha : JE m X a σ G (rS s)) (hc : JE m X c σ G (Rl.eq (.ty u))) (hk : kitB "str" u = some q) (hm : X.mg "isinstance" = none) (hg : Gl X "isinstance" := by rfl)
    (he : starEach [a, c] X.env = (false, eval a X.env) :: starEach [c] X.env := by rfl) (he2 : starEach [c] X.env = (false, eval c X.env) :: starEach [] X.env := by rfl) (hpl : (backTo pos (starEach [c] X.env)).any (·.1) = false := by rfl) : JE m X (.Call (.Name "isinstance" p0) [a, c] [] pos) σ G (rB q) :=
  je_isi (t := .type "str") ha hc (fun v G1 H1 _ _ e => by cases e; exact .base (.str s)) (.ty u) (kit_ty hk) hm hg he he2 hpl
theorem je_isiI {i : Int} {u : String} {q : Bool} (ha : JE m X a σ G (rI i)) (hc : JE m X c σ G (Rl.eq (.ty u))) (hk : kitB "int" u = some q) (hm : X.mg "isinstance" = none) (hg : Gl X "isinstance" := by rfl)
    (he : starEach [a, c] X.env = (false, eval a X.env) :: starEach [c] X.env := by rfl) (he2 : starEach [c] X.env = (false, eval c X.env) :: starEach [] X.env := by rfl) (hpl : (backTo pos (starEach [c] X.env)).any (·.1) = false := by rfl) : JE m X (.Call (.Name "isinstance" p0) [a, c] [] pos) σ G (rB q) :=
  je_isi (t := .type "int") ha hc (fun v G1 H1 _ _ e => by cases e; exact .base (.int i)) (.ty u) (kit_ty hk) hm hg he he2 hpl
/-- a name of a built-in class -/
theorem je_ty {T : String} (hm : X.mg x = none) (hv : bootBuiltins x = some (.type T)) (hg : Gl X x := by rfl) (hn : x ≠ "__name__" := by decide) (hd : (x == ("__debug__" : Str)) = false := by decide) : JE m X (.Name x pos) σ G (Rl.eq (.ty T)) := je_bltn hm hv rfl hg hn hd
/-- a tuple that was just laid -/
def Rl.tph (l : List Rl) : Rl := ⟨fun v G => ∃ p xs, v = .ref p ∧ G p = some (.tup xs) ∧ AlL l xs G, fun _ _ _ s ⟨p, xs, e, h, a⟩ => ⟨p, xs, e, s _ _ h, a.mono s⟩⟩
theorem je_tph {x1 : Nat} (h : JA m X es σ G l) (hl : l.length ≤ 1000 := by exact Nat.le_of_ble_eq_true rfl) : JE m X (.Tuple es x1 pos) σ G (Rl.tph l) := fun G1 H z o Q k =>
  eP (pe_tup pA) (h G1 H z o _ fun vs G2 H2 s2 r2 => ⟨by rw [r2.len]; exact Nat.le_trans hl (by decide), fun p hp => k _ _ _ (s2.trans o (.new (s2.okm o) hp))
    ⟨p, vs, rfl, upd_same, AlL.mono (Stp.new (m := m) (s2.okm o) hp).gg r2⟩⟩)
theorem je_isiT {t u1 u2 : Value} {c1 c2 : V} {q : Bool} (ha : JE m X a σ G Ra) (hc : JE m X c σ G (Rl.tph [Rl.eq c1, Rl.eq c2])) (ht : ∀ v G1 H1, Same G G1 → Same G1 H1 → Ra.p v G1 → TyX X.K H1 v t) (h1 : ClsV c1 u1) (h2 : ClsV c2 u2) (hk : PySem.W.kitAny X.K t [u1, u2] = some q)
    (hm : X.mg "isinstance" = none) (hg : Gl X "isinstance" := by rfl) (he : starEach [a, c] X.env = (false, eval a X.env) :: starEach [c] X.env := by rfl) (he2 : starEach [c] X.env = (false, eval c X.env) :: starEach [] X.env := by rfl) (hpl : (backTo pos (starEach [c] X.env)).any (·.1) = false := by rfl) :
    JE m X (.Call (.Name "isinstance" p0) [a, c] [] pos) σ G (rB q) :=
  je_callB call_isiT (ja_cons ha (ja_cons hc ja_nil he2) he) (fun vs G1 H1 Q z o h k => by
    obtain ⟨x, y, rfl, ex, p, xs, rfl, hp, al⟩ := AlL.two h
    obtain ⟨v1, v2, rfl, e1, e2⟩ := AlL.two al
    cases e1; cases e2
    exact ⟨x, p, _, t, _, q, rfl, o.1 _ _ hp, .cons h1 (.cons h2 .nil), ht x G1 H1 z o.1 ex, hk, k _ G1 H1 (.refl o) rfl⟩) hm (by decide +kernel) hg (by decide) (by decide) he hpl

/-! #### calls of pure defs -/
/-- a pure def's promise: for data that pre lets, from arguments that stand so, it gives what B says -/
def spF {α : Type} (pre : α → Prop) (args : α → List Rl) (B : α → Rl) : Sp := fun vs H Q _ => ∃ (d : α) (G : Hp), Same G H ∧ pre d ∧ AlL (args d) vs G ∧ ∀ v G' H', Stp none G H G' H' → (B d).p v G' → Q v H'
theorem spF_len {α : Type} {pre : α → Prop} {args : α → List Rl} {B : α → Rl} {n : Nat} (h : ∀ d, (args d).length = n) : ∀ vs H Q E, spF pre args B vs H Q E → vs.length = n := by
  rintro vs H Q E ⟨d, G, _, _, al, _⟩
  rw [al.len, h]
theorem je_call {α : Type} {pre : α → Prop} {args : α → List Rl} {B : α → Rl} {k j : Nat} (d : α) (c : C8.Cal X.prog X.w X.K X.mg X.base k x (spF pre args B) []) (hp : pre d) (ha : JA m X (e :: es) σ G (args d)) (hr : Room j X.A) (hk : k ≤ j := by decide) (hg : Gl X x := by rfl)
    (hdb : (x == ("__debug__" : Str)) = false := by decide) (he : starEach (e :: es) X.env = (false, eval e X.env) :: starEach es X.env := by rfl) (hpl : (backTo pos (starEach es X.env)).any (·.1) = false := by rfl) : JE m X (.Call (.Name x p0) (e :: es) [] pos) σ G (B d) := fun G1 H z o Q kk =>
  eP (C8.pe_c c hr hk hg pA hdb he hpl) (ha G1 H z o _ fun vs G2 H2 s2 r2 => by
    refine ⟨d, G2, s2.gh, hp, ?_, fun v G' H' s3 b => kk v G' H' (s2.trans o s3.up) b⟩
    rw [List.append_nil]
    exact r2)
/-- a method of an instance of the class at C -/
theorem je_mt {α : Type} {pre : α → Prop} {args : α → List Rl} {B : α → Rl} {k j : Nat} {C : Addr} {pl : Sem Bool} (d : α) (c : C8.Met X.prog X.w X.K X.mg X.base k C mn (spF pre args B) []) (hp : pre d) (hl : args d = Ra :: l) (ho : JE m X o σ G Ra)
    (hi : ∀ v G1, Ra.p v G1 → ∃ a dx fs, v = .ref a ∧ G1 a = some (.ins C dx fs) ∧ fs.lookup mn = none) (ha : JA m X (e :: es) σ G l) (hr : Room j X.A) (hk : k ≤ j := by decide)
    (hst : starEach (e :: es) X.env = (false, eval e X.env) :: starEach es X.env := by rfl) (hpl : (backTo pos (starEach es X.env)).any (·.1) = false := by rfl)
    (ht : eval (.Call (.Attribute o mn apos) (e :: es) [] pos) X.env = (do
      let ov ← eval o X.env
      standAt apos.atName
      let (f, first) ← holding [ov] (getMethod ov mn pl)
      callWith pos f first (backTo pos (starEach (e :: es) X.env)) (backToKw pos (keywordEach [] X.env))) := by rfl) : JE m X (.Call (.Attribute o mn apos) (e :: es) [] pos) σ G (B d) := fun G1 H z ok Q kk =>
  eP (C8.pe_mt (pl := pl) c hr hk pE pA hst hpl ht) (ho G1 H z ok _ fun v G2 H2 s2 r2 => by
    obtain ⟨a, dx, fs, ev, h1, h2⟩ := hi v G2 r2
    refine ⟨a, dx, fs, ev, s2.gh _ _ h1, h2, ha G2 H2 (z.trans s2.gg) (s2.okm ok) _ fun vs G3 H3 s3 r3 => ?_⟩
    refine ⟨d, G3, s3.gh, hp, ?_, fun v' G' H' s4 b => kk v' G' H' ((s2.trans ok s3).trans ok s4.up) b⟩
    rw [List.append_nil, hl]
    exact .cons (Ra.mono _ _ _ s3.gg r2) r3)
theorem je_mt0 {α : Type} {pre : α → Prop} {args : α → List Rl} {B : α → Rl} {k j : Nat} {C : Addr} {pl : Sem Bool} (d : α) (c : C8.Met X.prog X.w X.K X.mg X.base k C mn (spF pre args B) []) (hp : pre d) (hl : args d = [Ra]) (ho : JE m X o σ G Ra)
    (hi : ∀ v G1, Ra.p v G1 → ∃ a dx fs, v = .ref a ∧ G1 a = some (.ins C dx fs) ∧ fs.lookup mn = none) (hr : Room j X.A) (hk : k ≤ j := by decide)
    (ht : eval (.Call (.Attribute o mn apos) [] [] pos) X.env = (do
      let ov ← eval o X.env
      standAt apos.atName
      let (f, first) ← holding [ov] (getMethod ov mn pl)
      callWith pos f first (backTo pos (starEach [] X.env)) (backToKw pos (keywordEach [] X.env))) := by rfl) : JE m X (.Call (.Attribute o mn apos) [] [] pos) σ G (B d) := fun G1 H z ok Q kk =>
  eP (C8.pe_mt0 (pl := pl) c hr hk pE ht) (ho G1 H z ok _ fun v G2 H2 s2 r2 => by
    obtain ⟨a, dx, fs, ev, h1, h2⟩ := hi v G2 r2
    refine ⟨a, dx, fs, ev, s2.gh _ _ h1, h2, ?_⟩
    refine ⟨d, G2, s2.gh, hp, ?_, fun v' G' H' s4 b => kk v' G' H' (s2.trans ok s4.up) b⟩
    rw [List.nil_append, hl]
    exact .cons r2 .nil)
theorem obj_no {C : Addr} {ns : List Str} {Rs : List Rl} (h : ns.findIdx? (fun k => mn == k) = none) : ∀ v G1, (Rl.obj C ns Rs).p v G1 → ∃ a dx fs, v = .ref a ∧ G1 a = some (.ins C dx fs) ∧ fs.lookup mn = none := by
  rintro v G1 ⟨a, dx, fs, ev, h1, h2, _⟩
  exact ⟨a, dx, fs, ev, h1, look_no (by rw [h2]; exact h)⟩

/-! #### instances made -/
/-- an __init__'s promise: from arguments that stand so the new instance gets these fields -/
def spI {α : Type} (C : Addr) (pre : α → Prop) (args : α → List Rl) (ns : List Str) (Rs : α → List Rl) : Sp := fun vs H Q _ => ∃ (d : α) (G : Hp) (x dx : Addr) (ws : List V), vs = .ref x :: ws ∧ Same G H ∧ G x = none ∧ H x = some (.ins C dx []) ∧ pre d ∧ AlL (args d) ws G ∧
  ∀ (fs : List (Str × V)) (G' H' : Hp), Same G G' → Same G' H' → (∀ p o, p ≠ x → H p = some o → H' p = some o) → (∀ p, H p ≠ none → G' p = G p) → H' x = some (.ins C dx fs) → fs.map (·.1) = ns → AlL (Rs d) (fs.map (·.2)) G' → Q .non H'
theorem spI_len {α : Type} {C : Addr} {pre : α → Prop} {args : α → List Rl} {ns : List Str} {Rs : α → List Rl} {n : Nat} (h : ∀ d, (args d).length + 1 = n) : ∀ vs H Q E, spI C pre args ns Rs vs H Q E → vs.length = n := by
  rintro vs H Q E ⟨d, G, x, dx, ws, rfl, _, _, _, _, al, _⟩
  rw [List.length_cons, al.len, h]
/-- what a making gives, from an __init__'s promise -/
theorem made_obj {α : Type} {pre : α → Prop} {args : α → List Rl} {ns : List Str} {Rs : α → List Rl} {C : Addr} {d : α} {G1 H1 : Hp} {vs : List V} {Q : VK} {E : XK} (o : Okm m G1 H1) (hp : pre d) (al : AlL (args d) vs G1)
    (k : ∀ v G' H', Stp m G1 H1 G' H' → (Rl.obj C ns (Rs d)).p v G' → Q v H') : ∀ x dx, H1 x = none → H1 dx = none → dx ≠ x →
      spI C pre args ns Rs (.ref x :: vs) (upd (upd H1 dx (.own x)) x (.ins C dx [])) (fun v H2 => v = .non ∧ Q (.ref x) H2) E := fun x dx hx hdx ne => by
  have gx := o.gnone hx
  refine ⟨d, G1, x, dx, vs, rfl, fun b u q => ?_, gx, upd_same, hp, al, fun fs G' H' gg gh hh nw hX en bl => ⟨rfl, ?_⟩⟩
  · have z := o.1 _ _ q
    rw [upd_ne (ne_of_none z hx), upd_ne (ne_of_none z hdx)]
    exact z
  · have alive : ∀ b, H1 b ≠ none → b ≠ x := fun b hb e => hb (by rw [e]; exact hx)
    have aliveD : ∀ b, H1 b ≠ none → b ≠ dx := fun b hb e => hb (by rw [e]; exact hdx)
    have xx : G' x = none := by
      rw [nw x (by rw [upd_same]; exact fun z => nomatch z)]
      exact gx
    have keep : ∀ b u, H1 b = some u → H' b = some u := fun b u q => by
      have hb : H1 b ≠ none := by
        rw [q]
        exact fun z => nomatch z
      exact hh b u (alive b hb) (by rw [upd_ne (alive b hb), upd_ne (aliveD b hb)]; exact q)
    have st : Stp m G1 H1 G' H' := ⟨gg, gh, fun b u _ q => keep b u q, fun b hb => nw b (by rw [upd_ne (alive b hb), upd_ne (aliveD b hb)]; exact hb), fun h _ q => q.same keep⟩
    have st2 := st.tell o hx xx hX
    refine k _ _ _ st2 ⟨x, dx, fs, rfl, upd_same, en, bl.mono fun b u q => ?_⟩
    rw [upd_ne (fun e => by rw [e, xx] at q; cases q)]
    exact q
theorem je_mk {α : Type} {pre : α → Prop} {args : α → List Rl} {ns : List Str} {Rs : α → List Rl} {k j : Nat} {C : Addr} (d : α) (c : C8.Mak X.prog X.w X.K X.mg X.base k x C (spI C pre args ns Rs) []) (hp : pre d) (ha : JA m X (e :: es) σ G (args d)) (hr : Room j X.A) (hk : k + 1 ≤ j := by decide) (hg : Gl X x := by rfl)
    (hdb : (x == ("__debug__" : Str)) = false := by decide) (he : starEach (e :: es) X.env = (false, eval e X.env) :: starEach es X.env := by rfl) (hpl : (backTo pos (starEach es X.env)).any (·.1) = false := by rfl) : JE m X (.Call (.Name x p0) (e :: es) [] pos) σ G (Rl.obj C ns (Rs d)) := fun G1 H z o Q kk =>
  eP (C8.pe_mk c hr hk hg pA hdb he hpl) (ha G1 H z o _ fun vs G2 H2 s2 r2 x dx hx hdx ne => by
    rw [List.append_nil]
    exact made_obj (s2.okm o) hp r2 (fun v G' H' s3 b => kk v G' H' (s2.trans o s3) b) x dx hx hdx ne)
end
end Nk
namespace Nk
open PySem PySem.Spec PyProof.Rows L2
/-! ### what is walked -/
def ItOk (m : Option Hd) (J : It) (l : List Rl) (G0 : Hp) : Prop := ∀ (G H : Hp), Same G0 G → Okm m G H →
  (∀ (i : Nat) R, l[i]? = some R → J.go i H ∧ ∀ x H', J.yld i H x H' → ∃ G', Stp m G H G' H' ∧ R.p x G') ∧ J.stop l.length H
def cI (X : Cx) (tg iter : Expr) : TI := fun σ H R => ∀ (pins : List (Addr × Obj)) (s : Shared), Inv X pins σ H s →
  wpAny (model X.prog X.w) X.A (eval iter X.env) (fun v s1 => wpAny (model X.prog X.w) X.A (pyIter v) (PIE X pins σ tg R) X.xe s1) X.xe s
theorem pI {X : Cx} {tg iter : Expr} : PI X tg iter (cI X tg iter) := ⟨fun pins s σ H R I h => h pins s I⟩
theorem iP {X : Cx} {tg iter : Expr} {wi : TI} (h : PI X tg iter wi) {σ : L2.St} {H : Hp} {R : It → Hp → Prop} (q : wi σ H R) : cI X tg iter σ H R := fun pins s I => h.run pins s σ H R I q
def JI (m : Option Hd) (X : Cx) (tg iter : Expr) (σ : L2.St) (G : Hp) (l : List Rl) : Prop :=
  ∀ (G1 H : Hp), Same G G1 → Okm m G1 H → ∀ R : It → Hp → Prop, (∀ J G' H', Stp m G1 H G' H' → ItOk m J l G' → R J H') → cI X tg iter σ H R
section
variable {m : Option Hd} {X : Cx} {a b c e o tg : Expr} {es : List Expr} {σ : L2.St} {G G' : Hp} {R Ra Rb Rc : Rl} {pos p0 p1 p2 apos : Pos} {x f mn : Str} {P : Bool → Prop} {l l2 : List Rl}
theorem ji_list (ha : JE m X a σ G (Rl.lsl l)) : JI m X tg a σ G l := fun G1 H z o R k =>
  iP (pi_list pE) (ha G1 H z o _ fun v G2 H2 s2 ⟨p, xs, ev, hp, al⟩ => ⟨p, ev, ⟨xs, SqL.of (s2.gh _ _ hp)⟩, k _ G2 H2 s2 fun G3 H3 g3 o3 => by
    have hq : H3 p = some (.lst xs) := o3.1 _ _ (g3 _ _ hp)
    refine ⟨fun i R hR => ?_, ⟨xs, SqL.of hq, by rw [al.len] <;> exact Nat.le_refl _⟩⟩
    obtain ⟨w, h1, h2⟩ := al.get hR
    refine ⟨⟨xs, w, SqL.of hq, h1⟩, fun x H' hy => ?_⟩
    obtain ⟨rfl, hy⟩ := hy
    have e := hy xs (SqL.of hq)
    rw [h1] at e
    cases e
    exact ⟨G3, .refl o3, R.mono _ _ _ g3 h2⟩⟩)
theorem ji_tup (ha : JE m X a σ G (Rl.tpl X.K l)) : JI m X tg a σ G l := fun G1 H z o R k =>
  iP (pi_tup pE) (ha G1 H z o _ fun v G2 H2 s2 ⟨p, xs, ev, hp, al⟩ => ⟨p, ev, ⟨xs, Same.tup s2.gh hp⟩, k _ G2 H2 s2 fun G3 H3 g3 o3 => by
    have hq : SqT X.K H3 p xs := Same.tup o3.1 (Same.tup g3 hp)
    refine ⟨fun i R hR => ?_, ⟨xs, hq, by rw [al.len] <;> exact Nat.le_refl _⟩⟩
    obtain ⟨w, h1, h2⟩ := al.get hR
    refine ⟨⟨xs, w, hq, h1⟩, fun x H' hy => ?_⟩
    obtain ⟨rfl, hy⟩ := hy
    have e := hy xs hq
    rw [h1] at e
    cases e
    exact ⟨G3, .refl o3, R.mono _ _ _ g3 h2⟩⟩)
theorem ji_range {n : Nat} (ha : JE m X a σ G (rI n)) (hn : n ≤ 100000) (hm : X.mg "range" = none) (hg : Gl X "range" := by rfl) (hs : starEach [a] X.env = [(false, eval a X.env)] := by rfl) :
    JI m X tg (.Call (.Name "range" p0) [a] [] pos) σ G ((List.range n).map fun (i : Nat) => rI i) := fun G1 H z o R k =>
  iP (pi_range1 hg hm (pA) hs) ((ja_cons ha ja_nil hs) G1 H z o _ fun vs G2 H2 s2 al => by
    obtain ⟨v, rfl, ev⟩ := AlL.one al
    cases ev
    refine ⟨n, rfl, by omega, by omega, ?_⟩
    refine k _ G2 H2 s2 fun G3 H3 g3 o3 => ⟨fun i R hR => ?_, ?_⟩
    · rw [List.getElem?_map] at hR
      cases q : (List.range n)[i]? with
      | none =>
        rw [q] at hR
        cases hR
      | some j =>
        rw [q] at hR
        cases hR
        obtain ⟨h1, h2⟩ := List.getElem?_eq_some_iff.mp q
        rw [List.length_range] at h1
        rw [List.getElem_range] at h2
        subst h2
        refine ⟨by show i < (n : Int).toNat; omega, fun x H' hy => ?_⟩
        obtain ⟨rfl, rfl⟩ := hy
        exact ⟨G3, .refl o3, by show V.int (0 + (i : Int)) = V.int i; rw [Int.zero_add]⟩
    · show (n : Int).toNat ≤ _
      rw [List.length_map, List.length_range]
      omega)
theorem ji_enum {elts : List Expr} {kk : Nat} {tpos : Pos} (ha : JE m X a σ G (Rl.lsl l)) (hm : X.mg "enumerate" = none) (hg : Gl X "enumerate" := by rfl) (hs : starEach [a] X.env = [(false, eval a X.env)] := by rfl) :
    JI m X (.Tuple elts kk tpos) (.Call (.Name "enumerate" p0) [a] [] pos) σ G (l.zipIdx.map fun p => Rl.tph [rI p.2, p.1]) := fun G1 H z o R k =>
  iP (pi_enum hg hm pA hs) ((ja_cons ha ja_nil hs) G1 H z o _ fun vs G2 H2 s2 al => by
    obtain ⟨v, rfl, p, xs, rfl, hp, bl⟩ := AlL.one al
    refine ⟨p, xs, rfl, SqL.of (s2.gh _ _ hp), k _ G2 H2 s2 fun G3 H3 g3 o3 => ?_⟩
    have hq : H3 p = some (.lst xs) := o3.1 _ _ (g3 _ _ hp)
    refine ⟨fun i R hR => ?_, ⟨xs, SqL.of hq, by rw [List.length_map, List.length_zipIdx, bl.len] <;> exact Nat.le_refl _⟩⟩
    rw [List.getElem?_map, List.getElem?_zipIdx] at hR
    cases q : l[i]? with
    | none =>
      rw [q] at hR
      cases hR
    | some R0 =>
      rw [q] at hR
      simp only [Option.map_some, Option.some.injEq] at hR
      subst hR
      obtain ⟨w, h1, h2⟩ := bl.get q
      refine ⟨⟨xs, w, SqL.of hq, h1⟩, fun x H' hy => ?_⟩
      obtain ⟨T, y, rfl, hT, rfl, hy⟩ := hy
      have e := hy xs (SqL.of hq)
      rw [h1] at e
      cases e
      have st := Stp.new (m := m) o3 (u := .tup [.int (i : Nat), w]) hT
      refine ⟨_, st, T, _, rfl, upd_same, .cons ?_ (.cons (R0.mono _ _ _ (g3.trans st.gg) h2) .nil)⟩
      show V.int _ = V.int _
      congr 1
      omega)

/-! ### comprehensions -/
def cTs (X : Cx) (ifs : List Expr) : TT := fun σ H Q => ∀ (pins : List (Addr × Obj)) (s : Shared), Inv X pins σ H s →
  wpAny (model X.prog X.w) X.A (forIn ifs true fun c r => if r = true then do let ok ← isTrue c X.env (eval c X.env); pure (ForInStep.yield ok) else pure (ForInStep.yield r)) (TP X pins σ Q) X.xe s
theorem pTs {ifs : List Expr} : PTs X ifs (cTs X ifs) := ⟨fun pins s σ H Q I h => h pins s I⟩
def JTs (m : Option Hd) (X : Cx) (ifs : List Expr) (σ : L2.St) (G : Hp) (b : Bool) : Prop :=
  ∀ (G1 H : Hp), Same G G1 → Okm m G1 H → ∀ Q : Bool → Hp → Prop, (∀ G' H', Stp m G1 H G' H' → Q b H') → cTs X ifs σ H Q
theorem jts_nil : JTs m X [] σ G true := fun G1 H z o Q k pins s I => pts_nil.run pins s σ H Q I (k G1 H (.refl o))
theorem jts_one {q : Bool} (h : JT m X c σ G (isB q)) : JTs m X [c] σ G q := fun G1 H z o Q k pins s I => (pts_one pT).run pins s σ H Q I (h G1 H z o Q fun b G' H' s' e => by
  have e : b = q := e
  subst e
  exact k G' H' s')
abbrev Bk (X : Cx) (scope : Scope) (s : Shared) (H : Hp) (C : Addr) (cl : List (Str × Addr)) (fp : List Addr) : Cx := X.blk s H scope (compEnvC scope cl C X.env) fp
theorem jr_lc {α : Type} {ds : List α} {D E : α → Rl} {f : α → Bool} {T : α → L2.St → Hp → Prop} {elt iter : Expr} {ifs : List Expr} {scope : Scope} {vs : List Nat} {g : TG}
    (hi : JI m X tg iter σ G (ds.map D)) (hn : ds.length ≤ 100000)
    (hg : ∀ d ∈ ds, ∀ x G1 H1, Same G G1 → Same G1 H1 → (D d).p x G1 → ∀ Kp : L2.St → Hp → Prop, (∀ σ2, wipe σ2 vs = wipe σ vs → T d σ2 G1 → Kp σ2 H1) → g x (wipe σ vs) H1 Kp)
    (ht : ∀ d ∈ ds, ∀ σ2 G1, Same G G1 → T d σ2 G1 → ∀ s H C cl fp, JTs m (Bk X scope s H C cl fp) ifs σ2 G1 (f d))
    (he : ∀ d ∈ ds, f d = true → ∀ σ2 G1, Same G G1 → T d σ2 G1 → ∀ s H C cl fp, JE m (Bk X scope s H C cl fp) elt σ2 G1 (E d)) :
    JR m (tLc (cI X tg iter) g (fun σ H Q => ∀ s H0 C cl fp, cTs (Bk X scope s H0 C cl fp) ifs σ H Q) (fun σ H Q => ∀ s H0 C cl fp, cE (Bk X scope s H0 C cl fp) elt σ H Q) vs) σ G (Rl.ls E (ds.filter f)) := by
  intro G1 H z o Q k
  refine hi G1 H z o _ fun J G2 H2 s2 itok Dl hD => ?_
  have o2 := s2.okm o
  have fx : Fix m Dl := fun h e q => (o2.2 h e).2.there (by rw [← q]; exact hD)
  refine ⟨fun i n H' => n = ds.length - i ∧ i ≤ ds.length ∧ ∃ G' acc, Stp m G2 H2 G' H' ∧ G' Dl = none ∧ H' Dl = some (.lst acc) ∧ AlL (((ds.take i).filter f).map E) acc G',
    ⟨ds.length, by simp, Nat.zero_le _, G2, [], Stp.mut o2 (.refl o2) hD (o2.gnone hD), o2.gnone hD, upd_same, .nil⟩, ?_⟩
  rintro i n H' ⟨rfl, hi', G', acc, st, gD, hH', al⟩
  have o' := st.okm o2
  obtain ⟨goes, stops⟩ := itok G' H' st.gg o'
  by_cases hlt : i < ds.length
  · obtain ⟨d, hd⟩ : ∃ d, ds[i]? = some d := ⟨ds[i], by simp [hlt]⟩
    have hm : d ∈ ds := List.mem_of_getElem? hd
    have hR : (ds.map D)[i]? = some (D d) := by rw [List.getElem?_map, hd] <;> rfl
    obtain ⟨hgo, hy⟩ := goes i (D d) hR
    refine .inr ⟨hgo, _, fun H'' p => ⟨ds.length - (i + 1), by omega, rfl, hlt, p⟩, fun x H'' y => ?_⟩
    obtain ⟨G3, s3, r3⟩ := hy x H'' y
    have o3 := s3.okm o'
    have zz : Same G G3 := ((z.trans s2.gg).trans st.gg).trans s3.gg
    refine hg d hm x G3 H'' zz s3.gh r3 _ fun σ2 hw hT => ⟨hw, fun s0 H0 C0 cl0 fp0 => ?_⟩
    refine ht d hm σ2 G3 zz hT s0 H0 C0 cl0 fp0 G3 H'' (Same.refl _) o3 _ fun G4 H4 s4 => ?_
    have o4 := s4.okm o3
    have hD4 : H4 Dl = some (.lst acc) := s4.hh _ _ fx (s3.hh _ _ fx hH')
    have hne : H' Dl ≠ none := by
      rw [hH']
      exact fun z => nomatch z
    have hne3 : H'' Dl ≠ none := by
      rw [s3.hh _ _ fx hH']
      exact fun z => nomatch z
    have g4 : G4 Dl = none := s4.gnone hne3 (s3.gnone hne gD)
    have hacc : acc.length ≤ i := by
      rw [al.len, List.length_map]
      refine Nat.le_trans (List.length_filter_le _ _) ?_
      rw [List.length_take]
      exact Nat.min_le_left _ _
    have etake : (ds.take (i + 1)).filter f = (ds.take i).filter f ++ (if f d = true then [d] else []) := by
      rw [List.take_add_one, hd, List.filter_append]
      congr 1
      cases hf : f d <;> simp [List.filter, hf]
    cases hf : f d with
    | true =>
      refine iteT fun s5 H5 C5 cl5 fp5 => ?_
      refine he d hm hf σ2 G3 zz hT s5 H5 C5 cl5 fp5 G4 H4 s4.gg o4 _ fun v G6 H6 s6 r6 => ?_
      have hne4 : H4 Dl ≠ none := by
        rw [hD4]
        exact fun z => nomatch z
      refine ⟨acc, s6.hh _ _ fx hD4, Nat.lt_of_le_of_lt (Nat.le_trans hacc (Nat.le_trans hi' hn)) (by decide), ?_⟩
      have st6 := ((st.trans o2 s3).trans o2 s4).trans o2 s6
      refine ⟨G6, acc ++ [v], Stp.mut o2 st6 hD (s6.gnone hne4 g4), s6.gnone hne4 g4, upd_same, ?_⟩
      rw [etake, hf, if_pos rfl, List.map_append]
      exact (al.mono ((s3.gg.trans s4.gg).trans s6.gg)).app (.cons r6 .nil)
    | false =>
      refine iteF ?_
      refine ⟨G4, acc, (st.trans o2 s3).trans o2 s4, g4, hD4, ?_⟩
      rw [etake, hf, if_neg Bool.false_ne_true, List.append_nil]
      exact al.mono (s3.gg.trans s4.gg)
  · have e : i = ds.length := by omega
    subst e
    rw [List.length_map] at stops
    refine .inl ⟨stops, ?_⟩
    rw [List.take_length] at al
    have st2 := st.tell o2 hD gD hH'
    exact k _ _ _ (s2.trans o st2) ⟨Dl, acc, rfl, upd_same, al.mono fun b u q => by
      rw [upd_ne (fun e => by rw [e, gD] at q; cases q)]
      exact q⟩
/-- a target that is a name -/
theorem lc_name {α : Type} {ds : List α} {D : α → Rl} {vs : List Nat} {j : Nat} (hw : ∀ x, wipe ((wipe σ vs).set j (some x)) vs = wipe σ vs) :
    ∀ d ∈ ds, ∀ x G1 H1, Same G G1 → Same G1 H1 → (D d).p x G1 → ∀ Kp : L2.St → Hp → Prop, (∀ σ2, wipe σ2 vs = wipe σ vs → (∃ x, σ2 = (wipe σ vs).set j (some x) ∧ (D d).p x G1) → Kp σ2 H1) → gName j x (wipe σ vs) H1 Kp :=
  fun d _ x G1 H1 _ _ r Kp k => k _ (hw x) ⟨x, rfl, r⟩
/-- a target of two names, the items pairs of texts -/
theorem lc_pair {vs : List Nat} {j1 j2 : Nat} {ds : List (Str × Str)} {K : PySem.W.Frag} (hw : ∀ x y, wipe (((wipe σ vs).set j1 (some x)).set j2 (some y)) vs = wipe σ vs) :
    ∀ d ∈ ds, ∀ x G1 H1, Same G G1 → Same G1 H1 → (Rl.tpl K [rS d.1, rS d.2]).p x G1 → ∀ Kp : L2.St → Hp → Prop, (∀ σ2, wipe σ2 vs = wipe σ vs → (σ2 = ((wipe σ vs).set j1 (some (.str d.1))).set j2 (some (.str d.2))) → Kp σ2 H1) →
      gTup K 2 (gCons (gName j1) (gCons (gName j2) gNil)) x (wipe σ vs) H1 Kp := by
  rintro d _ x G1 H1 _ hs ⟨p, xs, rfl, hp, al⟩ Kp k
  obtain ⟨v1, v2, rfl, e1, e2⟩ := AlL.two al
  cases e1; cases e2
  exact ⟨p, _, rfl, Same.tup hs hp, rfl, _, _, rfl, _, _, rfl, rfl, k _ (hw _ _) rfl⟩
/-- [elt for x in it (if c)] -/
theorem je_lc {α : Type} {ds : List α} {D E : α → Rl} {f : α → Bool} {T : α → L2.St → Hp → Prop} {elt iter : Expr} {ifs : List Expr} {scope : Scope} {g : TG} (own : List (Str × Nat)) (hc : X.calm = true) (hN : X.N.Nodup) (ok : BlkOk X.N X.env.scope scope own)
    (hpg : ∀ (s : Shared) (H : Hp) (C : Addr) (cl : List (Str × Addr)) (fp : List Addr), PG (Bk X scope s H C cl fp) tg g)
    (hi : JI m X tg iter σ G (ds.map D)) (hn : ds.length ≤ 100000)
    (hg : ∀ d ∈ ds, ∀ x G1 H1, Same G G1 → Same G1 H1 → (D d).p x G1 → ∀ Kp : L2.St → Hp → Prop, (∀ σ2, wipe σ2 (own.map (·.2)) = wipe σ (own.map (·.2)) → T d σ2 G1 → Kp σ2 H1) → g x (wipe σ (own.map (·.2))) H1 Kp)
    (ht : ∀ d ∈ ds, ∀ σ2 G1, Same G G1 → T d σ2 G1 → ∀ s H C cl fp, JTs m (Bk X scope s H C cl fp) ifs σ2 G1 (f d))
    (he : ∀ d ∈ ds, f d = true → ∀ σ2 G1, Same G G1 → T d σ2 G1 → ∀ s H C cl fp, JE m (Bk X scope s H C cl fp) elt σ2 G1 (E d))
    (hs : ∀ x, foldedSetIterable iter X.env x = pure x := by intro _; rfl) : JE m X (.ListComp elt [⟨tg, iter, ifs, 0⟩] scope pos) σ G (Rl.ls E (ds.filter f)) :=
  je_of (pe_lc hc hN pI ok hpg (fun s H C cl fp => ⟨fun pins s' σ H' Q I h => h s H C cl fp pins s' I⟩) (fun s H C cl fp => ⟨fun pins s' σ H' Q I h => h s H C cl fp pins s' I⟩) hs) (jr_lc hi hn hg ht he)
end

/-! ### statements -/
section
variable {m : Option Hd} {X : Cx} {a b c e o tg : Expr} {es : List Expr} {σ : L2.St} {G G' H : Hp} {R Ra Rb Rc : Rl} {pos p0 p1 p2 apos : Pos} {x f mn : Str} {P : Bool → Prop} {l l2 : List Rl} {rest th el body : List Stmt} {st : Stmt} {D : Ends}
theorem Okm.mut {H : Hp} (o : Okm m G H) {p : Addr} {u : HO} (g : G p = none) (h : ∀ h, m = some h → p ≠ h.a ∧ p ≠ h.c) : Okm m G (upd H p u) :=
  ⟨fun b v q => by
    rw [upd_ne (fun e => by rw [e, g] at q; cases q)]
    exact o.1 _ _ q, fun d e => ⟨(o.2 d e).1, (o.2 d e).2.keep fun b v hb z => by
      have nb : b ≠ p := fun w => by
        rcases hb with hb | hb
        · exact (h d e).1 (by rw [← w, hb])
        · exact (h d e).2 (by rw [← w, hb])
      rw [upd_ne nb]
      exact z⟩⟩
theorem Okm.mut0 {H : Hp} (o : Okm none G H) {p : Addr} {u : HO} (g : G p = none) : Okm none G (upd H p u) := o.mut g fun _ z => nomatch z
theorem wb_nil (h : D.nx σ H) : WB X [] D σ H := bP pss_nil h
theorem wb_step {t : TS} (h : PS X st t) (q : t { D with nx := WB X rest D } σ H) : WB X (st :: rest) D σ H := bP (pss_cons h pB) q
theorem wb_ret (h : JE m X e σ G R) (o : Okm m G H) (k : ∀ v G' H', Stp m G H G' H' → R.p v G' → D.rt v H') : WB X (.Return (some e) pos :: rest) D σ H :=
  wb_step (ps_ret pE) (h G H (Same.refl G) o _ k)
theorem wb_set (i : Nat) {y : Str} {py : Pos} (hN : X.N.Nodup) (h : JE m X e σ G R) (o : Okm m G H) (k : ∀ v G' H', Stp m G H G' H' → Okm m G' H' → R.p v G' → WB X rest D (σ.set i (some v)) H') (hi : X.N[i]? = some y := by rfl) (hx : Loc X.env.scope y := by first | exact .inl rfl | exact .inr rfl)
    (hs : swapsWith e (some (.Name y py)) pos.line X.env = pure false := by rfl) (hf : X.fn y = true ∨ X.env.scope.names.lookup y = some .local := by first | exact .inl rfl | exact .inr rfl) : WB X (.Assign [.Name y py] e pos :: rest) D σ H :=
  wb_step (ps_set hN hi hx pE hs hf) (h G H (Same.refl G) o _ fun v G' H' s r => k v G' H' s (s.okm o) r)
/-- y = [..], y a local and no name of the comprehension -/
theorem wb_setLc {α : Type} {ds : List α} {DD E : α → Rl} {ff : α → Bool} {T : α → L2.St → Hp → Prop} {elt iter : Expr} {ifs : List Expr} {scope : Scope} {g : TG} {spos : Pos} (i : Nat) {y : Str} {py : Pos} (own : List (Str × Nat)) (hc : X.calm = true) (hN : X.N.Nodup) (ok : BlkOk X.N X.env.scope scope own)
    (hpg : ∀ (s : Shared) (H : Hp) (C : Addr) (cl : List (Str × Addr)) (fp : List Addr), PG (Bk X scope s H C cl fp) tg g)
    (hi : JI m X tg iter σ G (ds.map DD)) (hn : ds.length ≤ 100000)
    (hg : ∀ d ∈ ds, ∀ x G1 H1, Same G G1 → Same G1 H1 → (DD d).p x G1 → ∀ Kp : L2.St → Hp → Prop, (∀ σ2, wipe σ2 (own.map (·.2)) = wipe σ (own.map (·.2)) → T d σ2 G1 → Kp σ2 H1) → g x (wipe σ (own.map (·.2))) H1 Kp)
    (ht : ∀ d ∈ ds, ∀ σ2 G1, Same G G1 → T d σ2 G1 → ∀ s H C cl fp, JTs m (Bk X scope s H C cl fp) ifs σ2 G1 (ff d))
    (he : ∀ d ∈ ds, ff d = true → ∀ σ2 G1, Same G G1 → T d σ2 G1 → ∀ s H C cl fp, JE m (Bk X scope s H C cl fp) elt σ2 G1 (E d))
    (o : Okm m G H) (k : ∀ v G' H', Stp m G H G' H' → Okm m G' H' → (Rl.ls E (ds.filter ff)).p v G' → WB X rest D (σ.set i (some v)) H') (hy : X.N[i]? = some y := by rfl) (hyl : X.env.scope.names.lookup y = some .local := by rfl)
    (hsw : swapsWith (.ListComp elt [⟨tg, iter, ifs, 0⟩] scope pos) (some (.Name y py)) spos.line X.env = pure true := by exact sw_true rfl rfl rfl (by decide +kernel))
    (hs : ∀ x, foldedSetIterable iter X.env x = pure x := by intro _; rfl) : WB X (.Assign [.Name y py] (.ListComp elt [⟨tg, iter, ifs, 0⟩] scope pos) spos :: rest) D σ H :=
  wb_step (ps_setLc hc hN hy hyl hsw pI ok hpg (fun s H C cl fp => ⟨fun pins s' σ H' Q I h => h s H C cl fp pins s' I⟩) (fun s H C cl fp => ⟨fun pins s' σ H' Q I h => h s H C cl fp pins s' I⟩) hs)
    (jr_lc hi hn hg ht he G H (Same.refl G) o _ fun v G' H' s r => k v G' H' s (s.okm o) r)
theorem wb_if (hc : JT m X c σ G P) (o : Okm m G H) (h1 : P true → ∀ G' H', Stp m G H G' H' → Okm m G' H' → WB X th { D with nx := WB X rest D } σ H') (h2 : P false → ∀ G' H', Stp m G H G' H' → Okm m G' H' → WB X el { D with nx := WB X rest D } σ H') :
    WB X (.If c th el pos :: rest) D σ H :=
  wb_step (ps_if pT pB pB) (hc G H (Same.refl G) o _ fun b G' H' s r => by
    cases b with
    | true => exact iteT (h1 r G' H' s (s.okm o))
    | false => exact iteF (h2 r G' H' s (s.okm o)))
/-- a, b = e, e a tuple of two -/
theorem wb_two {k1 : Nat} {tp : Pos} (i j : Nat) {y1 y2 : Str} {py1 py2 : Pos} (hc : X.calm = true) (hN : X.N.Nodup) (h : JE m X e σ G (Rl.tpl X.K [Ra, Rb])) (o : Okm m G H) (k : ∀ v w G' H', Stp m G H G' H' → Okm m G' H' → Ra.p v G' → Rb.p w G' → WB X rest D ((σ.set i (some v)).set j (some w)) H')
    (hi : X.N[i]? = some y1 := by rfl) (hj : X.N[j]? = some y2 := by rfl) (hx : Loc X.env.scope y1 := by first | exact .inl rfl | exact .inr rfl) (hx2 : Loc X.env.scope y2 := by first | exact .inl rfl | exact .inr rfl)
    (hf : X.fn y1 = true ∨ X.env.scope.names.lookup y1 = some .local := by first | exact .inl rfl | exact .inr rfl) (hf2 : X.fn y2 = true ∨ X.env.scope.names.lookup y2 = some .local := by first | exact .inl rfl | exact .inr rfl)
    (hs : swapsWithSole [.Tuple [.Name y1 py1, .Name y2 py2] k1 tp] e pos.line X.env = pure false := by rfl) (hw : swappedStores [.Tuple [.Name y1 py1, .Name y2 py2] k1 tp] e X.env = pure none := by rfl)
    (h1 : (assignEach [.Tuple [.Name y1 py1, .Name y2 py2] k1 tp] X.env).map (·.2) = [assign (.Tuple [.Name y1 py1, .Name y2 py2] k1 tp) X.env] := by rfl)
    (e1 : (assignEach [.Name y1 py1, .Name y2 py2] X.env).map (·.2) = assign (.Name y1 py1) X.env :: (assignEach [.Name y2 py2] X.env).map (·.2) := by rfl)
    (e2 : (assignEach [.Name y2 py2] X.env).map (·.2) = assign (.Name y2 py2) X.env :: (assignEach [] X.env).map (·.2) := by rfl)
    (n1 : (assignEach [.Name y1 py1, .Name y2 py2] X.env).length = 2 := by rfl) (n2 : (assignEach [.Name y1 py1, .Name y2 py2] X.env).findIdx? (·.1) = none := by rfl) : WB X (.Assign [.Tuple [.Name y1 py1, .Name y2 py2] k1 tp] e pos :: rest) D σ H :=
  wb_step (ps_asg pE (pg_tup hc (pgs_cons (pg_name hN hi hx hf) (pgs_cons (pg_name hN hj hx2 hf2) pgs_nil e2) e1) n1 n2) hs hw h1) (h G H (Same.refl G) o _ fun v G' H' s ⟨p, xs, ev, hp, al⟩ => by
    obtain ⟨v1, v2, rfl, r1, r2⟩ := AlL.two al
    exact ⟨p, _, ev, Same.tup s.gh hp, rfl, _, _, rfl, _, _, rfl, rfl, k v1 v2 G' H' s (s.okm o) r1 r2⟩)
/-- a, b = e1, e2 -/
theorem wb_par {k1 k2 : Nat} {tp tp2 : Pos} (i j : Nat) {y1 y2 : Str} {py1 py2 : Pos} (hc : X.calm = true) (hN : X.N.Nodup) (hij : i ≠ j) (h : JA m X [a, b] σ G [Ra, Rb]) (o : Okm m G H) (k : ∀ v w G' H', Stp m G H G' H' → Okm m G' H' → Ra.p v G' → Rb.p w G' → WB X rest D ((σ.set i (some v)).set j (some w)) H')
    (hi : X.N[i]? = some y1 := by rfl) (hj : X.N[j]? = some y2 := by rfl) (hx : X.env.scope.names.lookup y1 = some .local := by rfl) (hx2 : X.env.scope.names.lookup y2 = some .local := by rfl)
    (hw : swappedStores [.Tuple [.Name y1 py1, .Name y2 py2] k1 tp] (.Tuple [a, b] k2 tp2) X.env = pure (some [y1, y2]) := by rfl)
    (hs : swapsWithSole [.Tuple [.Name y1 py1, .Name y2 py2] k1 tp] (.Tuple [a, b] k2 tp2) pos.line X.env = pure false := by rfl) : WB X (.Assign [.Tuple [.Name y1 py1, .Name y2 py2] k1 tp] (.Tuple [a, b] k2 tp2) pos :: rest) D σ H :=
  wb_step (ps_par hc hN hi hj hij hx hx2 pA hw hs) (h G H (Same.refl G) o _ fun vs G' H' s al => by
    obtain ⟨v1, v2, rfl, r1, r2⟩ := AlL.two al
    exact ⟨v1, v2, rfl, k v1 v2 G' H' s (s.okm o) r1 r2⟩)
/-- what a turn is to reach -/
def Nx (m : Option Hd) (Gc : Hp) (Pv : L2.St → Hp → Hp → Prop) : L2.St → Hp → Prop := fun σ H => ∃ G, Same Gc G ∧ Okm m G H ∧ Pv σ G H
/-- for -/
theorem wb_for {g : TG} {iter : Expr} (Pv : Nat → L2.St → Hp → Hp → Prop) (hp : PassesOwn (model X.prog X.w) X.A X.env X.xe) (hc : X.calm = true) (hg : PG X tg g) (hi : JI m X tg iter σ G l) (o : Okm m G H)
    (h0 : ∀ G' H', Stp m G H G' H' → Okm m G' H' → Pv 0 σ G' H')
    (hs : ∀ Gc, Same G Gc → ∀ i R σ' G' H' x, l[i]? = some R → Same Gc G' → Okm m G' H' → Pv i σ' G' H' → ∀ G2 H2, Stp m G' H' G2 H2 → Okm m G2 H2 → R.p x G2 → g x σ' H2 fun σ3 H3 => WB X body { D with nx := Nx m Gc (Pv (i + 1)), ct := Nx m Gc (Pv (i + 1)), bk := WB X rest D } σ3 H3)
    (hd : ∀ σ' G' H', Same G G' → Okm m G' H' → Pv l.length σ' G' H' → WB X rest D σ' H')
    (hf : ∀ x, foldedSetIterable iter X.env x = pure x := by intro _; rfl) : WB X (.For tg iter body [] pos :: rest) D σ H :=
  wb_step (ps_for hp hc pI hg pB hf) (hi G H (Same.refl G) o _ fun J G1 H1 s1 itok => by
    have o1 := s1.okm o
    refine ⟨fun i n σ' H' => n = l.length - i ∧ i ≤ l.length ∧ ∃ G', Same G1 G' ∧ Okm m G' H' ∧ Pv i σ' G' H', ⟨l.length, by simp, Nat.zero_le _, G1, Same.refl _, o1, h0 G1 H1 s1 o1⟩, ?_⟩
    rintro i n σ' H' ⟨rfl, hi', G', g', o', p'⟩
    obtain ⟨goes, stops⟩ := itok G' H' g' o'
    by_cases hlt : i < l.length
    · obtain ⟨R, hR⟩ : ∃ R, l[i]? = some R := ⟨l[i], by simp [hlt]⟩
      obtain ⟨hgo, hy⟩ := goes i R hR
      refine .inr ⟨hgo, Nx m G1 (Pv (i + 1)), fun σ4 H4 p => ⟨l.length - (i + 1), by omega, rfl, hlt, p⟩, fun x H2 y => ?_⟩
      obtain ⟨G2, s2, r2⟩ := hy x H2 y
      exact hs G1 s1.gg i R σ' G' H' x hR g' o' p' G2 H2 s2 (s2.okm o') r2
    · have e : i = l.length := by omega
      subst e
      exact .inl ⟨stops, hd σ' G' H' (s1.gg.trans g') o' p'⟩)
/-- while -/
theorem wb_while (Pv : Nat → L2.St → Hp → Hp → Prop) (n0 : Nat) (hp : PassesOwn (model X.prog X.w) X.A X.env X.xe) (o : Okm m G H) (h0 : Pv n0 σ G H)
    (hs : ∀ n σ' G' H', Same G G' → Okm m G' H' → Pv n σ' G' H' → ∃ q, JT m X c σ' G' (isB q) ∧
      (q = true → ∀ G2 H2, Stp m G' H' G2 H2 → Okm m G2 H2 → WB X body { D with nx := fun σ4 H4 => ∃ n', n' < n ∧ Nx m G (Pv n') σ4 H4, ct := fun σ4 H4 => ∃ n', n' < n ∧ Nx m G (Pv n') σ4 H4, bk := WB X rest D } σ' H2) ∧
      (q = false → ∀ G2 H2, Stp m G' H' G2 H2 → Okm m G2 H2 → WB X rest D σ' H2)) : WB X (.While c body [] pos :: rest) D σ H :=
  wb_step (ps_while hp pT pB) (by
    refine ⟨fun n σ' H' => Nx m G (Pv n) σ' H', ⟨n0, G, Same.refl G, o, h0⟩, ?_⟩
    rintro n σ' H' ⟨G', g', o', p'⟩
    obtain ⟨q, hT, h1, h2⟩ := hs n σ' G' H' g' o' p'
    refine hT G' H' (Same.refl _) o' _ fun b G2 H2 s2 e => ?_
    have e : b = q := e
    subst e
    cases b with
    | true => exact iteT ⟨_, fun σ4 H4 p => p, h1 rfl G2 H2 s2 (s2.okm o')⟩
    | false => exact iteF (h2 rfl G2 H2 s2 (s2.okm o')))
/-- p.append(e), p a list of the def's own that is not told -/
theorem wb_app (i : Nat) {nm : Str} {p : Addr} {xs : List V} (hσ : σ[i]? = some (some (.ref p))) (hp : H p = some (.lst xs)) (hg : G p = none) (hf : ∀ h, m = some h → p ≠ h.a ∧ p ≠ h.c) (h : JE m X e σ G R) (o : Okm m G H) (hz : xs.length ≤ 100000)
    (k : ∀ v G' H', Stp m G H G' H' → Okm m G' (upd H' p (.lst (xs ++ [v]))) → R.p v G' → H' p = some (.lst xs) → G' p = none → WB X rest D σ (upd H' p (.lst (xs ++ [v])))) (hN : X.N[i]? = some nm := by rfl) (hv : Vis X.env.scope nm := by first | exact Or.inl rfl | exact Or.inr (Or.inl rfl) | exact Or.inr (Or.inr rfl))
    (hd1 : (nm == ("__debug__" : Str)) = false := by decide) (hcd : (nm == ("__classdict__" : Str)) = false := by decide)
    (hbase : attributeBase (.Name nm p0) "append" X.env (eval (.Name nm p0) X.env) = eval (.Name nm p0) X.env := by rfl)
    (hfew : ((backTo p2 (starEach [e] X.env)).all (fun x => !x.1) && (backToKw p2 (keywordEach [] X.env)).all (fun x => x.1.isSome)
      && decide (([e] : List Expr).length + ([] : List Keyword).length + (if ([] : List Keyword).isEmpty then 0 else 1) < 30)) = true := by rfl)
    (hline : (p1.endLine == p2.line) = true := by rfl) (hs : starEach [e] X.env = (false, eval e X.env) :: starEach [] X.env := by rfl) (hplain : (backTo p2 (starEach [] X.env)).any (·.1) = false := by rfl)
    (hsw : swapsWith (.Call (.Attribute (.Name nm p0) "append" p1) [e] [] p2) none pos.line X.env = pure false := by rfl) :
    WB X (.Expr (.Call (.Attribute (.Name nm p0) "append" p1) [e] [] p2) pos :: rest) D σ H :=
  wb_step (ps_expr (pe_bm PySem.F.plainAttrs_list PySem.F.slot_list_append PySem.F.type_list_append mt_append (pe_var hN hv hd1 hcd) (pa_cons pE pa_nil hs) hbase hfew hline hs hplain) hsw) (by
    refine ⟨.ref p, hσ, .inl ⟨rfl, _, SqL.of hp⟩, ?_⟩
    refine h G H (Same.refl G) o _ fun v G' H' s r => ?_
    have hne : H p ≠ none := by
      rw [hp]
      exact fun z => nomatch z
    have g' : G' p = none := s.gnone hne hg
    have hp' : H' p = some (.lst xs) := s.hh p _ (fun h e => (hf h e).1) hp
    exact ⟨p, xs, v, rfl, rfl, hp', Nat.lt_of_le_of_lt hz (by decide), k v G' H' s ((s.okm o).mut g' hf) r hp' g'⟩)
/-- self.f = e -/
theorem putF_new {f : Str} {v : V} : ∀ {fs : List (Str × V)}, (fs.map (·.1)).findIdx? (fun k => f == k) = none → putF f v fs = fs ++ [(f, v)]
  | [], _ => rfl
  | (k, w) :: fs, h => by
    rw [List.map_cons, List.findIdx?_cons] at h
    cases e : f == k with
    | true =>
      rw [e] at h
      simp at h
    | false =>
      rw [e] at h
      simp only [Bool.false_eq_true, if_false, Option.map_eq_none_iff] at h
      have ne : ¬ k = f := fun q => by
        rw [q, beq_self_eq_true] at e
        cases e
      show (if k = f then _ else _) = _
      rw [if_neg ne, putF_new h]
      rfl
theorem wb_fld (i : Nat) {nm : Str} {a C dx : Addr} {fs : List (Str × V)} {ns : List Str} (hσ : σ[i]? = some (some (.ref a))) (hH : H a = some (.ins C dx fs)) (hg : G a = none) (hc : Cls X.K C) (hn : NoAttr X.K C f) (h : JE none X e σ G R) (o : Okm none G H) (en : fs.map (·.1) = ns)
    (k : ∀ v G' H', Stp none G H G' H' → Okm none G' (upd H' a (.ins C dx (fs ++ [(f, v)]))) → R.p v G' → G' a = none → WB X rest D σ (upd H' a (.ins C dx (fs ++ [(f, v)])))) (hf : ns.findIdx? (fun k => f == k) = none := by decide +kernel) (hl : ns.length < 100 := by decide)
    (hN : X.N[i]? = some nm := by rfl) (hv : Vis X.env.scope nm := by first | exact Or.inl rfl | exact Or.inr (Or.inl rfl) | exact Or.inr (Or.inr rfl)) (hd1 : (nm == ("__debug__" : Str)) = false := by decide) (hcd : (nm == ("__classdict__" : Str)) = false := by decide)
    (hs : swapsWith e (some (.Attribute (.Name nm p0) f p1)) pos.line X.env = pure false := by rfl) : WB X (.Assign [.Attribute (.Name nm p0) f p1] e pos :: rest) D σ H :=
  wb_step (ps_fld (pe_var hN hv hd1 hcd) pE hs) (h G H (Same.refl G) o _ fun v G' H' s r => by
    have hne : H a ≠ none := by
      rw [hH]
      exact fun z => nomatch z
    have g' : G' a = none := s.gnone hne hg
    refine ⟨.ref a, hσ, a, C, dx, fs, rfl, s.same _ _ hH, hc, hn, ?_, ?_⟩
    · have e : fs.length = ns.length := by rw [← en, List.length_map]
      omega
    · rw [putF_new (by rw [en]; exact hf)]
      exact k v G' H' s ((s.okm o).mut0 g') r g')
end
/-! ### a pure def -/
section
variable {P : Program} {w : World} {K : PySem.W.Frag} {mg : Str → Option Value} {base : Heap}
/-- the context of a def's body -/
abbrev Xc (P : Program) (w : World) (K : PySem.W.Frag) (mg : Str → Option Value) (base : Heap) (N : List Str) (qual : Str) (st : Stmt) (f : Addr) (cdv : Value) (A : Around) (outer : List Env) (s : Shared) (H : Hp) (E : XK) : Cx :=
  (cxOf C8.CX0 P w K mg base N qual (defScope st) f cdv A outer s H E).nox
theorem cal_pure {α : Type} {pre : α → Prop} {args : α → List Rl} {B : α → Rl} {x : Str} {st : Stmt} {f : Addr} {fd : FuncData} {N ps : List Str} {k : Nat} (F : FunD K x x (defArgs st) (defBody st) (defScope st) [] [] f fd) (hm : mg x = some (.ref f)) (b : Binds K fd ps []) (S : FnScope N ps (defScope st)) (hl : ∀ d, (args d).length = ps.length)
    (body : ∀ (cdv : Value) (A : Around) (outer : List Env) (s : Shared) (H0 : Hp) (E : XK) (d : α) (G H : Hp) (vs : List V) (Q : VK), Room k (A.deeper (envOfC x (defScope st) s.heap.objs.size f cdv)) → pre d → Okm none G H → AlL (args d) vs G → (∀ v G' H', Stp none G H G' H' → (B d).p v G' → Q v H') →
      WB (Xc P w K mg base N x st f cdv A outer s H0 E) (defBody st) { nx := fun _ H' => Q .non H', rt := Q } (start N vs) H) : C8.Cal P w K mg base (k + 1) x (spF pre args B) [] :=
  ⟨f, fd, ps, [], F.ok S (spF_len hl) (fun cdv A outer s H vs Q E hr ⟨d, G, g, hp, al, kk⟩ => ⟨_, (pB (X := Xc P w K mg base N x st f cdv A outer s H E)).nox, body cdv A outer s H E d G H vs Q hr hp (.of g) al kk⟩), hm, F.kp, b, .nil⟩
theorem met_pure {α : Type} {pre : α → Prop} {args : α → List Rl} {B : α → Rl} {x qual : Str} {C : Addr} {st : Stmt} {f : Addr} {fd : FuncData} {N ps : List Str} {k : Nat} (F : FunD K x qual (defArgs st) (defBody st) (defScope st) [] [] f fd) (c : Cls K C) (me : Meth K C x f) (b : Binds K fd ps []) (S : FnScope N ps (defScope st)) (hl : ∀ d, (args d).length = ps.length)
    (body : ∀ (cdv : Value) (A : Around) (outer : List Env) (s : Shared) (H0 : Hp) (E : XK) (d : α) (G H : Hp) (vs : List V) (Q : VK), Room k (A.deeper (envOfC qual (defScope st) s.heap.objs.size f cdv)) → pre d → Okm none G H → AlL (args d) vs G → (∀ v G' H', Stp none G H G' H' → (B d).p v G' → Q v H') →
      WB (Xc P w K mg base N qual st f cdv A outer s H0 E) (defBody st) { nx := fun _ H' => Q .non H', rt := Q } (start N vs) H) : C8.Met P w K mg base (k + 1) C x (spF pre args B) [] :=
  ⟨f, fd, ps, [], c, me, F.ok S (spF_len hl) (fun cdv A outer s H vs Q E hr ⟨d, G, g, hp, al, kk⟩ => ⟨_, (pB (X := Xc P w K mg base N qual st f cdv A outer s H E)).nox, body cdv A outer s H E d G H vs Q hr hp (.of g) al kk⟩), b, .nil⟩
end
end Nk
namespace Nk
open PySem PySem.Spec PyProof.Rows L2
/-! ### the data: customs -/
inductive Cd where
  | number (n : Int) | never | unborne | dead (w : Str) | alive (w : Str) | unlike (a b : Str)
structure Tk where
  src : Str
  cds : List Cd
inductive Cl where
  | tk (t : Tk) | fr (bars : List Str)
structure Kl where
  tks : List Tk
  bars : List Str
def Kl.cls (k : Kl) : List Cl := k.tks.map Cl.tk ++ [Cl.fr k.bars]
inductive Hr where
  | par (l : Str) (j : Nat) | giv (p : Str)
inductive Wr where
  | own | mate (j : Nat)
structure Cu where
  s : Kl
  d : Kl
  house : List Hr
  sw : List Wr
  dw : List Wr
def Cu.kl (c : Cu) (kind : Str) : Kl := if kind = "s" then c.s else c.d
def Cu.wed (c : Cu) (kind : Str) : List Wr := if kind = "s" then c.sw else c.dw
/-! ### the texts -/
def ways12 : List Str := ["f", "m", "ff", "fm", "mf", "mm"]
def ways3 : List Str := ["fff", "ffm", "fmf", "fmm", "mff", "mfm", "mmf", "mmm"]
def ways13 : List Str := ways12 ++ ways3
def houseL : Nat → List Str
  | 0 => []
  | 1 => ["f.0", "m.0"]
  | _ => ["f.0", "m.0", "f.1", "m.1"]
def srcsL (w : Nat) : List Str := ways13 ++ houseL w
def dots : List Str := [".0", ".1"]
def places : List Str := (([""] : List Str) ++ ways12) ++ dots
def order : List Str := ways13 ++ (["f.0", "f.1", "m.0", "m.1"] : List Str)
/-! ### what is well made -/
def Cd.Ok (w : Nat) : Cd → Prop
  | .number n => 1 ≤ n ∧ n ≤ 4
  | .never => True
  | .unborne => True
  | .dead x => x ∈ ways13
  | .alive x => x ∈ ways13
  | .unlike a b => a ∈ srcsL w ∧ b ∈ srcsL w
def Tk.Ok (w : Nat) (t : Tk) : Prop := t.src ∈ srcsL w ∧ t.cds.length ≤ 4 ∧ ∀ c ∈ t.cds, c.Ok w
def barOk (w : Nat) (x : Str) : Prop := x ∈ srcsL w ∨ x = "living" ∨ x = "ever"
def Kl.Ok (w : Nat) (k : Kl) : Prop := k.tks.length ≤ 4 ∧ (∀ t ∈ k.tks, t.Ok w) ∧ k.bars.length ≤ 4 ∧ ∀ x ∈ k.bars, barOk w x
def Cl.Ok (w : Nat) : Cl → Prop
  | .tk t => t.Ok w
  | .fr bars => bars.length ≤ 4 ∧ ∀ x ∈ bars, barOk w x
def Hr.Ok (w : Nat) : Hr → Prop
  | .par l j => (l = "f" ∨ l = "m") ∧ j < w
  | .giv p => p = "f" ∨ p = "m"
def Wr.Ok (w : Nat) : Wr → Prop
  | .own => True
  | .mate j => j < w
structure Cu.Ok (c : Cu) : Prop where
  w : c.house.length ≤ 2
  s : c.s.Ok c.house.length
  d : c.d.Ok c.house.length
  h : ∀ r ∈ c.house, r.Ok c.house.length
  sl : c.sw.length = c.house.length
  dl : c.dw.length = c.house.length
  sw : ∀ r ∈ c.sw, r.Ok c.house.length
  dw : ∀ r ∈ c.dw, r.Ok c.house.length
theorem Kl.Ok.cl {w : Nat} {k : Kl} (h : k.Ok w) : ∀ c ∈ k.cls, c.Ok w := fun c hc => by
  rcases List.mem_append.mp hc with q | q
  · obtain ⟨t, ht, rfl⟩ := List.mem_map.mp q
    exact h.2.1 t ht
  · rw [List.mem_singleton.mp q]
    exact h.2.2
theorem Kl.len (k : Kl) : k.cls.length = k.tks.length + 1 := by
  unfold Kl.cls
  rw [List.length_append, List.length_map] <;> rfl
/-! ### how they stand: the program's objects -/
section
variable (K : PySem.W.Frag)
abbrev cN (K : PySem.W.Frag) (x : Str) : Addr := He.ga K x
def rCd : Cd → Rl
  | .number n => Rl.obj (cN K "Number") ["n"] [rI n]
  | .never => Rl.obj (cN K "Never") [] []
  | .unborne => Rl.obj (cN K "Unborne") [] []
  | .dead w => Rl.obj (cN K "Dead") ["way"] [rS w]
  | .alive w => Rl.obj (cN K "Alive") ["way"] [rS w]
  | .unlike a b => Rl.obj (cN K "Unlike") ["one", "other"] [rS a, rS b]
abbrev tkN : List Str := ["source", "conditions"]
abbrev rTk (t : Tk) : Rl := Rl.obj (cN K "Take") tkN [rS t.src, Rl.tp K (rCd K) t.cds]
abbrev rFr (bars : List Str) : Rl := Rl.obj (cN K "Free") ["bars"] [Rl.tp K rS bars]
def rCl : Cl → Rl
  | .tk t => rTk K t
  | .fr bars => rFr K bars
def rHr : Hr → Rl
  | .par l j => Rl.tpl K [rS l, rI j]
  | .giv p => Rl.tpl K [rS "given", rS p]
def rWr : Wr → Rl
  | .own => rS "own"
  | .mate j => rI j
abbrev cuN : List Str := ["sons", "daughters", "house", "width", "son_weds", "daughter_weds"]
abbrev rCu (c : Cu) : Rl := Rl.obj (cN K "Custom") cuN [Rl.tp K (rCl K) c.s.cls, Rl.tp K (rCl K) c.d.cls, Rl.tp K (rHr K) c.house, rI c.house.length, Rl.tp K rWr c.sw, Rl.tp K rWr c.dw]
/-- a pair (kind, place) -/
abbrev rPr (p : Str × Str) : Rl := Rl.tpl K [rS p.1, rS p.2]
abbrev rdN : List Str := ["son_places", "daughter_places", "son_lives", "daughter_lives", "tracked", "numbered"]
structure Six where
  sp : List Str
  dp : List Str
  sl : List Str
  dl : List Str
  tr : List Str
  nu : List Str
abbrev rRd (x : Six) : Rl := Rl.obj (cN K "Reads") rdN [Rl.tp K rS x.sp, Rl.tp K rS x.dp, Rl.tp K rS x.sl, Rl.tp K rS x.dl, Rl.tp K rS x.tr, Rl.tp K rS x.nu]
/-! ### the law's rows -/
def rcd : Cd → Rl
  | .number n => Rl.tpl K [rS "number", rI n]
  | .never => Rl.tpl K [rS "never"]
  | .unborne => Rl.tpl K [rS "unborne"]
  | .dead w => Rl.tpl K [rS "dead", rS w]
  | .alive w => Rl.tpl K [rS "alive", rS w]
  | .unlike a b => Rl.tpl K [rS "unlike", rS a, rS b]
def rcl : Cl → Rl
  | .tk t => Rl.tpl K [rS "take", rS t.src, Rl.ls (rcd K) t.cds]
  | .fr bars => Rl.tpl K [rS "free", Rl.ls rS bars]
abbrev rcu (c : Cu) : Rl := Rl.tpl K [Rl.ls (rcl K) c.s.cls, Rl.ls (rcl K) c.d.cls, Rl.ls (rHr K) c.house, Rl.ls rWr c.sw, Rl.ls rWr c.dw]
end
/-! ### the mirror -/
def pkd (s : Str) : Str := if s = "f" then "s" else "d"
def okd (s : Str) : Str := if s = "s" then "d" else "s"
def hd1 (s : Str) : Str := ⟨#[s.cps.toList.headD 0]⟩
def tl1 (s : Str) : Str := Txt.slice s (some 1) none
def plc (s : Str) : Str × Str := (pkd (hd1 s), tl1 s)
/-- the number behind the dot -/
def hpl (s : Str) : Option Nat := if s = ".0" ∨ s = "f.0" ∨ s = "m.0" then some 0 else if s = ".1" ∨ s = "f.1" ∨ s = "m.1" then some 1 else none
def dot (j : Nat) : Str := "." ++ Str.ofString (toString (j : Int))
def hneed (c : Cu) (kind : Str) (i : Nat) : List (Str × Str) :=
  (match c.house[i]? with
  | some (.par l j) => [(pkd l, dot j)]
  | some (.giv p) => [(pkd p, "")]
  | none => []) ++ (match (c.wed kind)[i]? with
  | some (.mate j) => [(okd kind, dot j)]
  | _ => [])
def needs (cs : List Cu) (p : Str × Str) : List (Str × Str) := match hpl p.2 with
  | some i => cs.flatMap fun c => hneed c p.1 i
  | none => if p.2 = "" then [] else [plc p.2]
def cdSrcs : Cd → List Str
  | .unlike a b => [a, b]
  | _ => []
def cdLives : Cd → List Str
  | .dead w => [w]
  | .alive w => [w]
  | _ => []
def cdTrk : Cd → Bool
  | .never => true
  | .unborne => true
  | _ => false
def cdNum : Cd → Bool
  | .number _ => true
  | _ => false
def notMark (x : Str) : Bool := !(["living", "ever"] : List Str).contains x
def clSrcs : Cl → List Str
  | .tk t => t.src :: t.cds.flatMap cdSrcs
  | .fr bars => bars.filter notMark
def clLives : Cl → List Str
  | .tk t => t.cds.flatMap cdLives
  | .fr _ => []
def barTrk (bars : List Str) : Bool := bars.contains "living" || bars.contains "ever"
def cuTrk (c : Cu) : List Str := ((c.s.tks ++ c.d.tks).filter fun t => (barTrk c.s.bars || barTrk c.d.bars) || t.cds.any cdTrk).map (·.src)
def klNum (k : Kl) : Bool := k.tks.any fun t => t.cds.any cdNum
def allSrcs (cs : List Cu) : List Str := cs.flatMap fun c => (c.s.cls ++ c.d.cls).flatMap clSrcs
def allLives (cs : List Cu) : List Str := cs.flatMap fun c => (c.s.cls ++ c.d.cls).flatMap clLives
def allTrk (cs : List Cu) : List Str := cs.flatMap cuTrk
def width (cs : List Cu) : Nat := cs.foldl (fun n c => max n c.house.length) 0
/-- all pairs -/
def univ : List (Str × Str) := places.map (fun p => (("s" : Str), p)) ++ places.map (fun p => (("d" : Str), p))
/-- the law's sweeps -/
def stepP (cs : List Cu) (l : List (Str × Str)) (p : Str × Str) : List (Str × Str) := if l.contains p then l ++ (needs cs p).filter (fun q => !l.contains q) else l
def sweep (cs : List Cu) (l : List (Str × Str)) : List (Str × Str) := univ.foldl (stepP cs) l
def sweeps (cs : List Cu) : Nat → List (Str × Str) → List (Str × Str)
  | 0, l => l
  | n + 1, l => sweep cs (sweeps cs n l)
theorem n19_ex : ∃ n : Nat, n = 19 := ⟨19, rfl⟩
/-- 19, not to be unfolded -/
noncomputable def n19 : Nat := Classical.choose n19_ex
theorem n19_eq : n19 = 19 := Classical.choose_spec n19_ex
noncomputable def lclosed (cs : List Cu) (l : List (Str × Str)) : List (Str × Str) := sweeps cs n19 l
theorem lclosed_eq (cs : List Cu) (l : List (Str × Str)) : lclosed cs l = sweeps cs 19 l := by
  unfold lclosed
  rw [n19_eq]
def houseP (n : Nat) : List (Str × Str) := (List.range n).flatMap fun i => [("s", dot i), ("d", dot i)]
def firstL (cs : List Cu) (more marks : List Str) (houses : Bool) : List (Str × Str) := ((more ++ allSrcs cs) ++ marks).map plc ++ (if houses then houseP (width cs) else [])
def lifeL (cs : List Cu) (further : List Str) : List (Str × Str) := (further ++ allLives cs).map plc
/-- what is read -/
noncomputable def six (cs : List Cu) (more further marks : List Str) (houses : Bool) : Six :=
  let r := lclosed cs (firstL cs more marks houses)
  let f := lclosed [] (lifeL cs further)
  { sp := places.filter fun p => r.contains ("s", p)
    dp := places.filter fun p => r.contains ("d", p)
    sl := ways12.filter fun p => f.contains ("s", p)
    dl := ways12.filter fun p => f.contains ("d", p)
    tr := order.filter fun x => (allTrk cs ++ marks).contains x
    nu := (["s", "d"] : List Str).filter fun k => cs.any fun c => klNum (c.kl k) }
end Nk
namespace Nk
open PySem PySem.Spec PyProof.Rows L2
/-! ### instances made by a def of the text -/
theorem upd_comm {H : Hp} {a b : Addr} {u v : HO} (h : a ≠ b) : upd (upd H a u) b v = upd (upd H b v) a u := by
  funext p
  by_cases ea : p = a
  · subst ea
    rw [upd_ne h, upd_same, upd_same]
  · by_cases eb : p = b
    · subst eb
      rw [upd_same, upd_ne ea, upd_same]
    · rw [upd_ne eb, upd_ne ea, upd_ne ea, upd_ne eb]
/-- an instance under way: its fields so far -/
structure Ini (x C dx : Addr) (G0 H0 : Hp) (ns : List Str) (Rs : List Rl) (G H : Hp) : Prop where
  gg : Same G0 G
  ok : Okm none G H
  gx : G x = none
  hh : ∀ p o, p ≠ x → H0 p = some o → H p = some o
  nw : ∀ p, H0 p ≠ none → G p = G0 p
  al : ∀ p, H0 p ≠ none → H p ≠ none
  fs : ∃ fs, H x = some (.ins C dx fs) ∧ fs.map (·.1) = ns ∧ AlL Rs (fs.map (·.2)) G
theorem Ini.step {x C dx : Addr} {G0 H0 G H G' H' : Hp} {ns : List Str} {Rs : List Rl} (i : Ini x C dx G0 H0 ns Rs G H) (s : Stp none G H G' H') : Ini x C dx G0 H0 ns Rs G' H' := by
  obtain ⟨fs, h1, h2, h3⟩ := i.fs
  have hx : H x ≠ none := by
    rw [h1]
    exact fun z => nomatch z
  exact ⟨i.gg.trans s.gg, s.okm i.ok, s.gnone hx i.gx, fun p o n q => s.same _ _ (i.hh p o n q), fun p h => (s.nw p (i.al p h)).trans (i.nw p h), fun p h => s.alive i.ok (i.al p h), fs, s.same _ _ h1, h2, h3.mono s.gg⟩
section
variable {m : Option Hd} {X : Cx} {a b c e o : Expr} {es : List Expr} {σ : L2.St} {G G' H : Hp} {R Ra Rb Rc : Rl} {pos p0 p1 p2 apos : Pos} {f : Str} {rest : List Stmt} {D : Ends}
/-- self.f = e -/
theorem wb_ini (i : Nat) {nm : Str} {x C dx : Addr} {G0 H0 : Hp} {ns : List Str} {Rs : List Rl} (I : Ini x C dx G0 H0 ns Rs G H) (hσ : σ[i]? = some (some (.ref x))) (hc : Cls X.K C) (hn : NoAttr X.K C f) (h : JE none X e σ G R)
    (k : ∀ G' H', Ini x C dx G0 H0 (ns ++ [f]) (Rs ++ [R]) G' H' → WB X rest D σ H') (hf : ns.findIdx? (fun k => f == k) = none := by decide +kernel) (hl : ns.length < 100 := by decide)
    (hN : X.N[i]? = some nm := by rfl) (hv : Vis X.env.scope nm := by first | exact Or.inl rfl | exact Or.inr (Or.inl rfl) | exact Or.inr (Or.inr rfl)) (hd1 : (nm == ("__debug__" : Str)) = false := by decide) (hcd : (nm == ("__classdict__" : Str)) = false := by decide)
    (hs : swapsWith e (some (.Attribute (.Name nm p0) f p1)) pos.line X.env = pure false := by rfl) : WB X (.Assign [.Attribute (.Name nm p0) f p1] e pos :: rest) D σ H := by
  obtain ⟨fs, h1, h2, h3⟩ := I.fs
  refine wb_fld i hσ h1 I.gx hc hn h I.ok h2 (fun v G' H' s o' r g' => ?_) hf hl hN hv hd1 hcd hs
  have I' := I.step s
  refine k G' _ ⟨I'.gg, o', g', fun p o n q => ?_, I'.nw, fun p q => ?_, _, upd_same, ?_, ?_⟩
  · rw [upd_ne n]
    exact I'.hh p o n q
  · by_cases ep : p = x
    · rw [ep, upd_same]
      exact fun z => nomatch z
    · rw [upd_ne ep]
      exact I'.al p q
  · rw [List.map_append, h2] <;> rfl
  · rw [List.map_append]
    exact (h3.mono s.gg).app (.cons r .nil)
end
section
variable {P : Program} {w : World} {K : PySem.W.Frag} {mg : Str → Option Value} {base : Heap}
theorem mak_pure {α : Type} {pre : α → Prop} {args : α → List Rl} {ns : List Str} {Rs : α → List Rl} {x qual : Str} {C : Addr} {st : Stmt} {f : Addr} {fd : FuncData} {N ps : List Str} {k : Nat} (F : FunD K "__init__" qual (defArgs st) (defBody st) (defScope st) [] [] f fd) (M : Mk K C f) (hm : mg x = some (.ref C)) (b : Binds K fd ps []) (S : FnScope N ps (defScope st)) (hl : ∀ d, (args d).length + 1 = ps.length)
    (body : ∀ (cdv : Value) (A : Around) (outer : List Env) (s : Shared) (H0 : Hp) (E : XK) (d : α) (G H : Hp) (y dy : Addr) (vs : List V) (Q : VK), Room k (A.deeper (envOfC qual (defScope st) s.heap.objs.size f cdv)) → pre d → Ini y C dy G H [] [] G H → AlL (args d) vs G → (∀ G' H', Ini y C dy G H ns (Rs d) G' H' → Q .non H') →
      WB (Xc P w K mg base N qual st f cdv A outer s H0 E) (defBody st) { nx := fun _ H' => Q .non H', rt := Q } (start N (.ref y :: vs)) H) : C8.Mak P w K mg base (k + 1) x C (spI C pre args ns Rs) [] :=
  ⟨f, fd, ps, [], M, F.ok S (spI_len hl) (fun cdv A outer s H vs Q E hr ⟨d, G, y, dy, ws, ev, g, gx, hx, hp, al, kk⟩ => ⟨_, (pB (X := Xc P w K mg base N qual st f cdv A outer s H E)).nox, by
    subst ev
    refine body cdv A outer s H E d G H y dy ws Q hr hp ⟨Same.refl G, .of g, gx, fun _ _ _ q => q, fun _ _ => rfl, fun _ q => q, [], hx, rfl, .nil⟩ al fun G' H' I => ?_
    obtain ⟨fs, h1, h2, h3⟩ := I.fs
    exact kk fs G' H' I.gg I.ok.1 I.hh I.nw h1 h2 h3⟩), hm, b, .nil⟩
end
/-! #### a class without an __init__ -/
section
variable {m : Option Hd} {X : Cx} {σ : L2.St} {G : Hp} {x : Str} {p0 pos : Pos}
theorem run_mk0 {pins : List (Addr × Obj)} {H : Hp} {s : Shared} {Q : VK} {C : Addr} (M : Mk0 X.K C) (I : Inv X pins σ H s) (h : ∀ x dx, H x = none → H dx = none → dx ≠ x → Q (.ref x) (upd (upd H dx (.own x)) x (.ins C dx []))) :
    wpAny (model X.prog X.w) X.A (call (.ref C) []) (EP X pins σ Q) X.xe s := by
  have hq := h (s.heap.objs.size + 1) s.heap.objs.size (I.hok.fresh (Nat.le_succ _)) (I.hok.fresh (Nat.le_refl _)) (Nat.ne_of_lt (Nat.lt_succ_self _))
  have I2 := Inv.made (C := C) I
  have Y := PySem.W.makes_of (M := model X.prog X.w) I.kIn M.makes
  refine wpAny_call (make_map0 I.kIn M.makes M.init (fun self => PySem.W.Looks.of_pure (PySem.W.oi_bind self)) ?_)
  have hx : ((s.heap.push PySem.W.emptyDict).push (PySem.W.instObj C s.heap.objs.size)).get? (s.heap.objs.size + 1) = some (PySem.W.instObj C s.heap.objs.size) := by
    have z := Heap.get?_push_size (s.heap.push PySem.W.emptyDict) (o := PySem.W.instObj C s.heap.objs.size) rfl
    rwa [Heap.size_push] at z
  have t1 : PySem.W.Looks (model X.prog X.w) ((s.heap.push PySem.W.emptyDict).push (PySem.W.instObj C s.heap.objs.size)) (typeOf (.ref (s.heap.objs.size + 1))) (.ref C) := (PySem.W.Looks.ld hx).andThen .now
  have t2 : PySem.W.Looks (model X.prog X.w) ((s.heap.push PySem.W.emptyDict).push (PySem.W.instObj C s.heap.objs.size)) (isInstance (.ref (s.heap.objs.size + 1)) (.type "object")) true := t1.andThen (Y.top.keeps fun b o e => Heap.get?_push_of_some _ (Heap.get?_push_of_some _ e))
  refine codeAny_call_builtin PySem.W.oi_plain PySem.W.entry_oi (@PySem.W.check_slot (model X.prog X.w) _ _ _ "object.__init__" "object" "__init__" (.ref (s.heap.objs.size + 1)) [] [] _ PySem.W.oi_kind PySem.W.oi_split t2 (PySem.W.oi_args (.ref (s.heap.objs.size + 1))) ?_)
  rw [PySem.W.oi_run]
  exact wpAny_pure (And.intro rfl ⟨V.ref (s.heap.objs.size + 1), _, I2, rfl, hq⟩)
theorem je_mkP {C : Addr} (M : Mk0 X.K C) (hm : X.mg x = some (.ref C)) (hg : Gl X x := by rfl) (hdb : (x == ("__debug__" : Str)) = false := by decide) : JE m X (.Call (.Name x p0) [] [] pos) σ G (Rl.obj C [] []) := fun G1 H z o Q k pins s I => by
  refine wpAny_Call_Name_kw (ld_glob I hg hm ?_ hdb)
  refine PySem.W.callWith_K0 I.kIn M.kp (run_mk0 M I fun y dy hy hdy ne => ?_)
  have s1 := Stp.new (m := m) (G := G1) (H := H) o (p := dy) (u := .own y) hdy
  have o1 := s1.okm o
  have s2 := s1.trans o (Stp.new (m := m) (u := .ins C dy []) o1 (p := y) (by rw [upd_ne (fun e => ne e.symm)]; exact hy))
  exact k _ _ _ s2 ⟨y, dy, [], rfl, upd_same, rfl, .nil⟩
/-! #### C(a, .., *rest) -/
/-- a star __init__: fix positional values, the rest a tuple -/
abbrev spR {α : Type} (C : Addr) (n : Nat) (pre : α → Prop) (fix : α → List Rl) (rest : α → List Rl) (ns : List Str) (Rs : α → List Rl) : Sp :=
  fun vs H Q E => ∃ ws rs, vs = ws ++ rs ∧ ws.length = n ∧ rs.length ≤ sizeLine ∧ ∀ p, H p = Option.none → spI C pre (fun d => fix d ++ [Rl.tph (rest d)]) ns Rs (ws ++ [V.ref p]) (upd H p (.tup rs)) Q E
structure MakR (P : Program) (w : World) (K : PySem.W.Frag) (mg : Str → Option Value) (base : Heap) (k : Nat) (x : Str) (C : Addr) (sp : Sp) : Prop where
  ex : ∃ f, Mk K C f ∧ FnR P w K mg base CX0 k f sp ∧ mg x = some (.ref C)
theorem made_objR {α : Type} {pre : α → Prop} {fix rest : α → List Rl} {ns : List Str} {Rs : α → List Rl} {C : Addr} {d : α} {G1 H1 : Hp} {ws rs : List V} {Q : VK} {E : XK} {n : Nat} (o : Okm m G1 H1) (hp : pre d) (al : AlL (fix d) ws G1) (bl : AlL (rest d) rs G1) (hn : (fix d).length + 1 = n) (hz : (rest d).length ≤ 1000)
    (k : ∀ v G' H', Stp m G1 H1 G' H' → (Rl.obj C ns (Rs d)).p v G' → Q v H') : ∀ x dx, H1 x = none → H1 dx = none → dx ≠ x →
      spR C n pre fix rest ns Rs (V.ref x :: (ws ++ rs)) (upd (upd H1 dx (.own x)) x (.ins C dx [])) (fun v H2 => v = .non ∧ Q (.ref x) H2) E := fun x dx hx hdx ne => by
  refine ⟨V.ref x :: ws, rs, rfl, by rw [List.length_cons, al.len]; exact hn, by rw [bl.len]; exact Nat.le_trans hz (by decide), fun p hp0 => ?_⟩
  have px : p ≠ x := fun e => by
    rw [e, upd_same] at hp0
    cases hp0
  rw [upd_ne px] at hp0
  have pd : p ≠ dx := fun e => by
    rw [e, upd_same] at hp0
    cases hp0
  rw [upd_ne pd] at hp0
  have st := Stp.new (m := m) o (u := .tup rs) hp0
  have o2 := st.okm o
  have e : upd (upd (upd H1 dx (.own x)) x (.ins C dx [])) p (.tup rs) = upd (upd (upd H1 p (.tup rs)) dx (.own x)) x (.ins C dx []) := by
    rw [upd_comm (fun e => px e.symm), upd_comm (fun e => pd e.symm)]
  rw [e]
  exact made_obj o2 hp ((al.mono st.gg).app (l2 := [Rl.tph (rest d)]) (.cons ⟨p, rs, rfl, upd_same, bl.mono st.gg⟩ .nil)) (fun v G' H' s b => k v G' H' (st.trans o s) b) x dx
    (by rw [upd_ne (fun e => px e.symm)]; exact hx) (by rw [upd_ne (fun e => pd e.symm)]; exact hdx) ne
theorem je_mkR {α : Type} {pre : α → Prop} {fix rest : α → List Rl} {ns : List Str} {Rs : α → List Rl} {k j n : Nat} {C : Addr} {e : Expr} {es : List Expr} (d : α) (c : MakR X.prog X.w X.K X.mg X.base k x C (spR C n pre fix rest ns Rs)) (hp : pre d) (ha : JA m X (e :: es) σ G (fix d ++ rest d)) (hn : (fix d).length + 1 = n) (hz : (rest d).length ≤ 1000) (hr : Room j X.A) (hk : k + 1 ≤ j := by decide) (hg : Gl X x := by rfl)
    (hdb : (x == ("__debug__" : Str)) = false := by decide) (he : starEach (e :: es) X.env = (false, eval e X.env) :: starEach es X.env := by rfl) (hpl : (backTo pos (starEach es X.env)).any (·.1) = false := by rfl) : JE m X (.Call (.Name x p0) (e :: es) [] pos) σ G (Rl.obj C ns (Rs d)) := fun G1 H z o Q kk => by
  obtain ⟨f, M, F, hm⟩ := c.ex
  refine eP (StX.pe_makeR M F (hr.mono hk) hg hm pass0 pA hdb he hpl) (ha G1 H z o _ fun vs G2 H2 s2 r2 => ?_)
  have e1 : vs = vs.take (fix d).length ++ vs.drop (fix d).length := (List.take_append_drop _ _).symm
  have h1 : AlL (fix d) (vs.take (fix d).length) G2 ∧ AlL (rest d) (vs.drop (fix d).length) G2 := by
    have sp : ∀ (l l2 : List Rl) (xs : List V), AlL (l ++ l2) xs G2 → AlL l (xs.take l.length) G2 ∧ AlL l2 (xs.drop l.length) G2 := fun l => by
      induction l with
      | nil => exact fun l2 xs h => ⟨.nil, h⟩
      | cons R l ih =>
        intro l2 xs h
        cases h with
        | cons a t => exact ⟨.cons a (ih l2 _ t).1, (ih l2 _ t).2⟩
    exact sp _ _ _ r2
  intro y dy hy hdy ne
  rw [e1]
  exact made_objR (s2.okm o) hp h1.1 h1.2 hn hz (fun v G' H' s3 b => kk v G' H' (s2.trans o s3) b) y dy hy hdy ne
theorem je_mkR0 {α : Type} {pre : α → Prop} {fix rest : α → List Rl} {ns : List Str} {Rs : α → List Rl} {k j n : Nat} {C : Addr} (d : α) (c : MakR X.prog X.w X.K X.mg X.base k x C (spR C n pre fix rest ns Rs)) (hp : pre d) (hf : fix d = []) (hre : rest d = []) (hn : 1 = n) (hr : Room j X.A) (hk : k + 1 ≤ j := by decide) (hg : Gl X x := by rfl)
    (hdb : (x == ("__debug__" : Str)) = false := by decide) : JE m X (.Call (.Name x p0) [] [] pos) σ G (Rl.obj C ns (Rs d)) := fun G1 H z o Q kk pins s I => by
  obtain ⟨f, M, F, hm⟩ := c.ex
  refine wpAny_Call_Name_kw (ld_glob I hg hm ?_ hdb)
  refine PySem.W.callWith_K0 I.kIn M.kp (StX.run_makeR (us := []) (vs := []) M F (hr.mono hk) pass0 I .nil ?_)
  exact made_objR (ws := []) (rs := []) o hp (by rw [hf]; exact .nil) (by rw [hre]; exact .nil) (by rw [hf]; exact hn) (by rw [hre]; exact Nat.zero_le _) kk
end
section
variable {P : Program} {w : World} {K : PySem.W.Frag} {mg : Str → Option Value} {base : Heap}
theorem makR_pure {α : Type} {pre : α → Prop} {fix rest : α → List Rl} {ns : List Str} {Rs : α → List Rl} {x qual pv : Str} {C : Addr} {st : Stmt} {f : Addr} {fd : FuncData} {N ps : List Str} {k : Nat} (F : FunD K "__init__" qual (defArgs st) (defBody st) (defScope st) [] [] f fd) (M : Mk K C f) (hm : mg x = some (.ref C))
    (hb : ∀ (kV doc pm : Value) (an : Option Addr) (cdv ct : Value) (us rest : List Value), us.length = ps.length → bindArgs (PySem.W.fnOf "__init__" qual (defArgs st) (defBody st) (defScope st) .none kV doc pm an cdv ct) ⟨us ++ rest, []⟩ = (newTuple rest >>= fun t => pure (ps.zip us ++ [(pv, t)])))
    (S : FnScope N (ps ++ [pv]) (defScope st))
    (body : ∀ (cdv : Value) (A : Around) (outer : List Env) (s : Shared) (H0 : Hp) (E : XK) (d : α) (G H : Hp) (y dy : Addr) (vs : List V) (Q : VK), Room k (A.deeper (envOfC qual (defScope st) s.heap.objs.size f cdv)) → pre d → Ini y C dy G H [] [] G H → AlL (fix d ++ [Rl.tph (rest d)]) vs G → (∀ G' H', Ini y C dy G H ns (Rs d) G' H' → Q .non H') →
      WB (Xc P w K mg base N qual st f cdv A outer s H0 E) (defBody st) { nx := fun _ H' => Q .non H', rt := Q } (start N (.ref y :: vs)) H) : MakR P w K mg base (k + 1) x C (spR C ps.length pre fix rest ns Rs) := by
  obtain ⟨oc, od, dV, kV, doc, pm, an, cdv, ct, osl, rfl, lk, hcd, hD, hK⟩ := F.ex
  rcases hD with ⟨_, rfl⟩ | ⟨e, _⟩
  · refine ⟨f, M, StX.fn_star lk hcd S StX.cxUp_none (fun us rest hl => hb kV doc pm an cdv ct us rest hl) (sp := spI C pre (fun d => fix d ++ [Rl.tph (rest d)]) ns Rs) ?_, hm⟩
    rintro A outer s H vs Q E hr ⟨d, G, y, dy, ws, ev, g, gx, hx, hp, al, kk⟩
    refine ⟨_, (pB (X := Xc P w K mg base N qual st f cdv A outer s H E)).nox, ?_⟩
    subst ev
    refine body cdv A outer s H E d G H y dy ws Q hr hp ⟨Same.refl G, .of g, gx, fun _ _ _ q => q, fun _ _ => rfl, fun _ q => q, [], hx, rfl, .nil⟩ al fun G' H' I => ?_
    obtain ⟨fs, h1, h2, h3⟩ := I.fs
    exact kk fs G' H' I.gg I.ok.1 I.hh I.nw h1 h2 h3
  · exact absurd rfl e
end
end Nk
namespace Nk
open PySem PySem.Spec PyProof.Rows L2
/-! ### enumerate(a tuple) -/
set_option maxHeartbeats 1000000 in
theorem meets_enumerate_newT (l : Addr) (items : Array Value) :
    Meets (Builtin.«enumerate.__new__» ⟨[.type "enumerate", .ref l], []⟩) (fun _ R s => s.heap.IsTuple l items ∧
      R (.ok (.ret (.ref (s.heap.push { cls := .type "tuple_iterator", data := .fields #[.ref l, .int 0 0] }).objs.size)))
        { s with heap := (s.heap.push { cls := .type "tuple_iterator", data := .fields #[.ref l, .int 0 0] }).push { cls := .type "enumerate", data := .fields #[.none, .bool false, .ref s.heap.objs.size, rawInt 0, .none, .none] } }) :=
  .of_wp fun prog w A R s h => by
    obtain ⟨hp, g, d, tk, os⟩ := s; obtain ⟨hl, h⟩ := h
    have hsub := sub_enumerate
    have q1 : ∀ {A' : Around} {E : Value → Shared → Prop} {Q : Value → Shared → Prop}, Q (.ref hp.objs.size) ⟨hp.push { cls := .type "tuple_iterator", data := .fields #[.ref l, .int 0 0] }, g, d, tk, os⟩ → wpAny (model prog w) A' (pyIter (.ref l)) Q E ⟨hp, g, d, tk, os⟩ :=
      fun q => wpAny_pyIter_tuple (s := ⟨hp, g, d, tk, os⟩) hl q
    wp_walk using q1
    refine wpAny_stack_any fun st => wpAny_pure ?_
    split
    · rename_i c _ _ _ _ _
      cases (c == Value.type "enumerate")
      · wp_walk using q1
        exact ⟨_, rfl, h⟩
      · wp_walk using q1
        exact ⟨_, rfl, h⟩
    · wp_walk using q1
      exact ⟨_, rfl, h⟩
theorem call_enumerate_tuple {prog : Program} {w : World} {A : Around} {E : Value → Shared → Prop} {s : Shared} {l : Addr} {items : Array Value} {Q : Value → Shared → Prop} (hL : s.heap.IsTuple l items)
    (h : ∀ h', IsEnum h' (s.heap.objs.size + 1) s.heap.objs.size 0 .none → h'.IsTupleIter s.heap.objs.size l 0 → h'.objs.size = s.heap.objs.size + 2 →
      (∀ b o, s.heap.get? b = some o → h'.get? b = some o) → Q (.ref (s.heap.objs.size + 1)) { s with heap := h' }) :
    wpAny (model prog w) A (call (.type "enumerate") [.ref l]) Q E s := by
  refine callType_new F.called_enumerate (by decide) (F.typeCall_enumerate_1 _) (F.newCall_enumerate_1 _) (fun obj => F.args_object_init_2 obj _) F.entry_enumerate_new
    (meets_enumerate_newT l items) ⟨hL, ?_⟩
  have hz : (s.heap.push { cls := .type "tuple_iterator", data := .fields #[.ref l, .int 0 0] }).objs.size = s.heap.objs.size + 1 := Heap.size_push ..
  show _ ∧ _
  rw [hz]
  have he : IsEnum ((s.heap.push { cls := .type "tuple_iterator", data := .fields #[.ref l, .int 0 0] }).push
      { cls := .type "enumerate", data := .fields #[.none, .bool false, .ref s.heap.objs.size, rawInt 0, .none, .none] }) (s.heap.objs.size + 1) s.heap.objs.size 0 .none := by
    have := Heap.get?_push_size (s.heap.push { cls := .type "tuple_iterator", data := .fields #[.ref l, .int 0 0] })
      (o := { cls := .type "enumerate", data := .fields #[.none, .bool false, .ref s.heap.objs.size, rawInt 0, .none, .none] }) rfl
    rw [hz] at this; exact this
  refine ⟨⟨_, he, rfl⟩, h _ he ⟨_, Heap.get?_push_of_some _ (Heap.get?_push_size _ rfl), rfl, rfl⟩ (by rw [Heap.size_push, hz]) fun b o x => Heap.get?_push_of_some _ (Heap.get?_push_of_some _ x)⟩
/-- the tuple at a at each turn, each item in a new pair -/
def IteT (K : PySem.W.Frag) (a : Addr) : It :=
  ⟨fun i H => ∃ (xs : List V) (x : V), SqT K H a xs ∧ xs[i]? = some x, fun i H v H' => ∃ T x, v = .ref T ∧ H T = none ∧ H' = upd H T (.tup [.int (i : Nat), x]) ∧ ∀ xs, SqT K H a xs → xs[i]? = some x, fun i H => ∃ xs : List V, SqT K H a xs ∧ xs.length = i⟩
theorem turn_enumT {P : Program} {w : World} {K : PySem.W.Frag} {elts : List Expr} {kk : Nat} {tpos : Pos} (a e it : Addr) :
    Turn P w K (.Tuple elts kk tpos) (IteT K a) [e, it] e (fun i h => (∃ old, IsEnum h e it ((i : Nat) : Int) old) ∧ h.IsTupleIter it a i ∧ e ≠ it ∧ a ≠ it ∧ a ≠ e) where
  mem := by simp
  obj := fun i h st b hb => by
    obtain ⟨⟨old, he⟩, ⟨o, ho, hc, hd⟩, _⟩ := st
    have e' : b = e ∨ b = it := by simpa using hb
    rcases e' with z | z
    · rw [z]; exact ⟨_, he, fun v q => nomatch q⟩
    · rw [z]; exact ⟨o, ho, fun v q => by rw [hd] at q; cases q⟩
  keep := fun i h h' st k => let ⟨⟨old, he⟩, hi, hne⟩ := st; ⟨⟨old, k e (by simp) _ he⟩, hi.at fun o q => k it (by simp) o q, hne⟩
  item := by
    intro X hP hw hK hc i pins s σ H E I hf st hg
    subst hP hw hK
    obtain ⟨⟨old, he⟩, hit, hne, hai, hae⟩ := st
    obtain ⟨xs, x, hq, hx⟩ := hg
    obtain ⟨its, rv, p, hz⟩ := I.tuple hq
    obtain ⟨u, hu, ru⟩ := rv.get hx
    have hel : e < s.heap.objs.size := Heap.lt_size he
    have hil : it < s.heap.objs.size := by obtain ⟨_, q, _⟩ := hit; exact Heap.lt_size q
    have hp : s.heap.IsTuple a its.toArray := p
    have hlt : i < its.toArray.size := by
      obtain ⟨h, _⟩ := List.getElem?_eq_some_iff.mp hu
      simpa using h
    refine wpAny_pyNext_enum_itemD (Draws.tuple (A := X.A.in1) (show X.A.handled = none from I.ok.hd hc) it a hai its.toArray) he ⟨hit, hp⟩ hlt hne (by simp [hne, Ne.symm hae]) fun u' h' tk hpu ho ⟨hit', _⟩ hT hsz hk => ?_
    have eu : u' = u := by
      have z : its[i]? = some u' := by simpa using hpu
      rw [hu] at z
      exact (Option.some.inj z).symm
    subst eu
    refine ⟨_, rfl, wpAny_letOwnedTupleGo_enum (s := { s with heap := h', toks := tk + 1 }) ho fun h'' he' sb => ?_⟩
    have hT2 : h''.get? s.heap.objs.size = some { cls := .type "tuple", data := .seq #[.int i tk, u'] } := (sb.2 _ (Nat.ne_of_gt hel)).trans hT
    have new : ObjOk X.prog X.w (upd H s.heap.objs.size (.tup [.int (i : Nat), x])) h'' s.heap.objs.size (.tup [.int (i : Nat), x]) :=
      ⟨by show 2 ≤ sizeLine; decide, [.int i tk, u'], .cons ⟨_, rfl⟩ (.cons ru .nil), ⟨_, hT2, rfl, _, rfl⟩⟩
    have I1 : Inv X pins σ (upd H s.heap.objs.size (.tup [.int (i : Nat), x])) { s with heap := h'', toks := tk + 1 } :=
      I.turnedNew (ch := [e, it]) (fun b ob hb q => (sb.2 b (fun z => hb (by simp [z]))).trans (hk b ob (fun z => hb (by simp [z])) (fun z => hb (by simp [z])) q)) hf (Nat.le_refl _) new
    refine ⟨.ref s.heap.objs.size, _, I1, rfl, ⟨_, x, rfl, I.hok.fresh (Nat.le_refl _), rfl, fun ys hy => by rw [I.tuple_inj hy hq]; exact hx⟩, ⟨⟨u', ?_⟩, hit'.at fun o q => (sb.2 it (Ne.symm hne)).trans q, hne, hai, hae⟩, fun b hb => ?_⟩
    · have e1 : ((i + 1 : Nat) : Int) = (i : Int) + 1 := by omega
      rw [e1]; exact he'
    · have hb' : b < s.heap.objs.size := by
        have e' : b = e ∨ b = it := by simpa using hb
        rcases e' with z | z
        · rw [z]; exact hel
        · rw [z]; exact hil
      rw [upd_ne (Nat.ne_of_lt hb')]
      exact (hf b hb).1
  done := by
    intro X hP hw hK hc i pins s σ H E I hf st hg
    subst hP hw hK
    obtain ⟨⟨old, he⟩, hit, hne, hai, hae⟩ := st
    obtain ⟨xs, hq, hx⟩ := hg
    obtain ⟨its, rv, p, hz⟩ := I.tuple hq
    obtain ⟨f0, f1, f2, f3, f4, f5⟩ := hf it (by simp)
    have hl : i = its.toArray.size := by
      rw [← hx, rv.length]
      simp
    have hp : s.heap.IsTuple a its.toArray := p
    exact wpAny_pyNext_enum_endD (Draws.tuple (A := X.A.in1) (show X.A.handled = none from I.ok.hd hc) it a hai its.toArray) he ⟨hl ▸ hit, hp⟩ fun h' eb => ⟨rfl, I.turned (t' := s.toks) (fun b o hb q => eb b o hb q) f0 f1 f3 f4 f5⟩
  self := fun A i s Q E st h => let ⟨⟨_, he⟩, _⟩ := st; wpAny_pyIter_enum he h
def iEnumT (K : PySem.W.Frag) (ta : TA) : TI := fun σ H R => ta σ H fun vs H1 => ∃ a xs, vs = [.ref a] ∧ SqT K H1 a xs ∧ R (IteT K a) H1
theorem pi_enumT {X : Cx} {e : Expr} {ta : TA} {p pos tpos : Pos} {elts : List Expr} {kk : Nat} (hg : Gl X "enumerate") (hm : X.mg "enumerate" = none) (ha : PA X [e] ta) (hs : starEach [e] X.env = [(false, eval e X.env)] := by rfl) :
    PI X (.Tuple elts kk tpos) (.Call (.Name "enumerate" p) [e] [] pos) (iEnumT X.K ta) := by
  refine ⟨fun pins s σ H R I h => ?_⟩
  refine Call_ (ld_blt I hg hm boot_enumerate (PyProof.Rows.callWith_type1 (thn (ha.run pos pins s σ H _ I h) fun us s1 ⟨vs, H1, I1, r1, q1⟩ => ?_) hs rfl))
  obtain ⟨a, xs, ex, hq, q⟩ := q1
  subst ex
  cases r1 with
  | cons r rr =>
    cases rr
    cases r
    obtain ⟨its, rv, p', hz⟩ := I1.tuple hq
    have hp : s1.heap.IsTuple a its.toArray := p'
    have hal : a < s1.heap.objs.size := by
      obtain ⟨o, q, _⟩ := hp
      exact Heap.lt_size q
    refine call_enumerate_tuple hp fun h' he hit hsz hk => wpAny_pyIter_enum he ?_
    have I2 : Inv X pins σ H1 { s1 with heap := h' } := I1.kept (t' := s1.toks) hk
    refine ⟨s1.heap.objs.size + 1, [s1.heap.objs.size + 1, s1.heap.objs.size], _, _, H1, rfl, I2, turn_enumT a (s1.heap.objs.size + 1) s1.heap.objs.size, ⟨⟨.none, he⟩, hit, Nat.succ_ne_self _, Nat.ne_of_lt hal, Nat.ne_of_lt (Nat.lt_succ_of_lt hal)⟩, fun b hb => ?_, q⟩
    have e' : b = s1.heap.objs.size + 1 ∨ b = s1.heap.objs.size := by simpa using hb
    have hle : s1.heap.objs.size ≤ b := by
      rcases e' with z | z
      · rw [z]; exact Nat.le_add_right _ _
      · exact Nat.le_of_eq z.symm
    exact I1.fpOk hle (I1.hok.fresh hle)
section
variable {m : Option Hd} {X : Cx} {a : Expr} {σ : L2.St} {G : Hp} {pos p0 : Pos} {l : List Rl}
theorem ji_enumT {elts : List Expr} {kk : Nat} {tpos : Pos} (ha : JE m X a σ G (Rl.tpl X.K l)) (hm : X.mg "enumerate" = none) (hg : Gl X "enumerate" := by rfl) (hs : starEach [a] X.env = [(false, eval a X.env)] := by rfl) :
    JI m X (.Tuple elts kk tpos) (.Call (.Name "enumerate" p0) [a] [] pos) σ G (l.zipIdx.map fun p => Rl.tph [rI p.2, p.1]) := fun G1 H z o R k =>
  iP (pi_enumT hg hm pA hs) ((ja_cons ha ja_nil hs) G1 H z o _ fun vs G2 H2 s2 al => by
    obtain ⟨v, rfl, p, xs, rfl, hp, bl⟩ := AlL.one al
    refine ⟨p, xs, rfl, Same.tup s2.gh hp, k _ G2 H2 s2 fun G3 H3 g3 o3 => ?_⟩
    have hq : SqT X.K H3 p xs := Same.tup o3.1 (Same.tup g3 hp)
    refine ⟨fun i R hR => ?_, ⟨xs, hq, by rw [List.length_map, List.length_zipIdx, bl.len]⟩⟩
    rw [List.getElem?_map, List.getElem?_zipIdx] at hR
    cases q : l[i]? with
    | none =>
      rw [q] at hR
      cases hR
    | some R0 =>
      rw [q] at hR
      simp only [Option.map_some, Option.some.injEq] at hR
      subst hR
      obtain ⟨w, h1, h2⟩ := bl.get q
      refine ⟨⟨xs, w, hq, h1⟩, fun x H' hy => ?_⟩
      obtain ⟨T, y, rfl, hT, rfl, hy⟩ := hy
      have e := hy xs hq
      rw [h1] at e
      cases e
      have st := Stp.new (m := m) o3 (u := .tup [.int (i : Nat), w]) hT
      refine ⟨_, st, T, _, rfl, upd_same, .cons ?_ (.cons (R0.mono _ _ _ (g3.trans st.gg) h2) .nil)⟩
      show V.int _ = V.int _
      congr 1
      omega)
end
end Nk
namespace Nk
open PySem PySem.Spec PyProof.Rows L2
/-! ### lists under way, slices, pairs -/
section
variable {m : Option Hd} {X : Cx} {a b c e o : Expr} {es : List Expr} {σ : L2.St} {G G' H H0 G0 : Hp} {R Ra Rb : Rl} {pos p0 p1 p2 lp : Pos} {rest : List Stmt} {D : Ends} {l l2 : List Rl}
/-- a list of one's own that is not told yet, made behind (G0, H0) -/
structure Own (p : Addr) (xs : List V) (l : List Rl) (H0 G H : Hp) : Prop where
  h0 : H0 p = none
  g : G p = none
  h : H p = some (.lst xs)
  al : AlL l xs G
theorem Own.step {p : Addr} {xs : List V} (w : Own p xs l H0 G H) (n : ∀ h, m = some h → p ≠ h.a) (s : Stp m G H G' H0') : Own p xs l H0 G' H0' :=
  ⟨w.h0, s.gnone (by rw [w.h]; exact fun z => nomatch z) w.g, s.hh _ _ n w.h, w.al.mono s.gg⟩
theorem Own.fix {p : Addr} {xs : List V} (w : Own p xs l H0 G H) (o0 : Okm m G0 H0) : ∀ h, m = some h → p ≠ h.a ∧ p ≠ h.c := fun h e =>
  ⟨fun q => (o0.2 h e).2.there (by rw [← q]; exact w.h0), fun q => (o0.2 h e).2.thereC (by rw [← q]; exact w.h0)⟩
/-- y = [..] kept back -/
theorem wb_new (i : Nat) {y : Str} {py : Pos} (hN : X.N.Nodup) (h : JA m X es σ G l) (o0 : Okm m G0 H0) (st : Stp m G0 H0 G H) (hl : l.length ≤ 1000)
    (k : ∀ p xs G' H', Stp m G0 H0 G' H' → Same G G' → Own p xs l H0 G' H' → (∀ q u, H q = some u → q ≠ p) → WB X rest D (σ.set i (some (.ref p))) H') (hi : X.N[i]? = some y := by rfl) (hx : Loc X.env.scope y := by first | exact .inl rfl | exact .inr rfl)
    (hs : swapsWith (.List es lp) (some (.Name y py)) pos.line X.env = pure false := by rfl) (hf : X.fn y = true ∨ X.env.scope.names.lookup y = some .local := by first | exact .inl rfl | exact .inr rfl) : WB X (.Assign [.Name y py] (.List es lp) pos :: rest) D σ H :=
  wb_step (ps_set hN hi hx (pe_lst pA) hs hf) (h G H (Same.refl G) (st.okm o0) _ fun vs G2 H2 s2 al => ⟨by rw [al.len]; exact Nat.le_trans hl (by decide), fun p hp => by
    have s02 := st.trans o0 s2
    have hp0 : H0 p = none := by
      cases q : H0 p with
      | none => rfl
      | some u => exact absurd hp (s02.alive o0 (by rw [q]; exact fun z => nomatch z))
    have g2 : G2 p = none := (s02.okm o0).gnone hp
    refine k p vs G2 _ (Stp.mut o0 s02 hp0 g2) s2.gg ⟨hp0, g2, upd_same, al⟩ fun q u hq e => ?_
    subst e
    exact s2.alive (st.okm o0) (by rw [hq]; exact fun z => nomatch z) hp⟩)
/-- p.append(e) -/
theorem wb_put (i : Nat) {nm : Str} {p : Addr} {xs : List V} (hσ : σ[i]? = some (some (.ref p))) (o0 : Okm m G0 H0) (st : Stp m G0 H0 G H) (w : Own p xs l H0 G H) (h : JE m X e σ G R) (hz : l.length ≤ 100000)
    (k : ∀ v G' H', Stp m G0 H0 G' H' → Same G G' → Own p (xs ++ [v]) (l ++ [R]) H0 G' H' → (∀ q u, q ≠ p → Fix m q → H q = some u → H' q = some u) → (∀ q, H q ≠ none → G q = none → G' q = none) → WB X rest D σ H')
    (hN : X.N[i]? = some nm := by rfl) (hv : Vis X.env.scope nm := by first | exact Or.inl rfl | exact Or.inr (Or.inl rfl) | exact Or.inr (Or.inr rfl))
    (hd1 : (nm == ("__debug__" : Str)) = false := by decide) (hcd : (nm == ("__classdict__" : Str)) = false := by decide)
    (hbase : attributeBase (.Name nm p0) "append" X.env (eval (.Name nm p0) X.env) = eval (.Name nm p0) X.env := by rfl)
    (hfew : ((backTo p2 (starEach [e] X.env)).all (fun x => !x.1) && (backToKw p2 (keywordEach [] X.env)).all (fun x => x.1.isSome)
      && decide (([e] : List Expr).length + ([] : List Keyword).length + (if ([] : List Keyword).isEmpty then 0 else 1) < 30)) = true := by rfl)
    (hline : (p1.endLine == p2.line) = true := by rfl) (hs : starEach [e] X.env = (false, eval e X.env) :: starEach [] X.env := by rfl) (hplain : (backTo p2 (starEach [] X.env)).any (·.1) = false := by rfl)
    (hsw : swapsWith (.Call (.Attribute (.Name nm p0) "append" p1) [e] [] p2) none pos.line X.env = pure false := by rfl) :
    WB X (.Expr (.Call (.Attribute (.Name nm p0) "append" p1) [e] [] p2) pos :: rest) D σ H :=
  wb_app i hσ w.h w.g (w.fix o0) h (st.okm o0) (by rw [w.al.len]; exact hz) (fun v G' H' s o' r hp g' => by
    refine k v G' _ (Stp.mut o0 (st.trans o0 s) w.h0 g') s.gg ⟨w.h0, g', upd_same, (w.al.mono s.gg).app (.cons r .nil)⟩ (fun q u n f hq => ?_) (fun q hq g => ?_)
    · rw [upd_ne n]
      exact s.hh _ _ f hq
    · exact s.gnone hq g) hN hv hd1 hcd hbase hfew hline hs hplain hsw
/-- told at last -/
theorem Own.tell {p : Addr} {xs : List V} (w : Own p xs l H0 G H) (o0 : Okm m G0 H0) (st : Stp m G0 H0 G H) : Stp m G0 H0 (upd G p (.lst xs)) H ∧ Same G (upd G p (.lst xs)) ∧ (Rl.lsl l).p (.ref p) (upd G p (.lst xs)) := by
  have s : Same G (upd G p (.lst xs)) := fun b u q => by
    rw [upd_ne (fun e => by rw [e, w.g] at q; cases q)]
    exact q
  exact ⟨st.tell o0 w.h0 w.g w.h, s, p, xs, rfl, upd_same, w.al.mono s⟩
/-- p.pop() -/
theorem je_pop {p : Addr} {xs : List V} {y : V} {nm : Str} (i : Nat) (hσ : σ[i]? = some (some (.ref p))) {Q : VK} (hp : H p = some (.lst xs)) (hy : xs[xs.length - 1]? = some y) (k : Q y (upd H p (.lst xs.dropLast)))
    (hN : X.N[i]? = some nm := by rfl) (hv : Vis X.env.scope nm := by first | exact Or.inl rfl | exact Or.inr (Or.inl rfl) | exact Or.inr (Or.inr rfl))
    (hd1 : (nm == ("__debug__" : Str)) = false := by decide) (hcd : (nm == ("__classdict__" : Str)) = false := by decide)
    (hbase : attributeBase (.Name nm p0) "pop" X.env (eval (.Name nm p0) X.env) = eval (.Name nm p0) X.env := by rfl) (hline : (p1.endLine == p2.line) = true := by rfl) : cE X (.Call (.Attribute (.Name nm p0) "pop" p1) [] [] p2) σ H Q :=
  eP (pe_bm0 PySem.F.plainAttrs_list PySem.F.slot_list_pop PySem.F.type_list_pop mt_pop (pe_var hN hv hd1 hcd) hbase hline) ⟨.ref p, hσ, .inl ⟨rfl, _, SqL.of hp⟩, p, xs, y, rfl, rfl, hp, hy, k⟩
/-! #### -1, slices -/
theorem je_neg {i : Int} (ha : JE m X a σ G (rI i)) : JE m X (.UnaryOp .USub a pos) σ G (rI (-i)) := fun G1 H z o Q k =>
  eP (pe_un un_neg pE) (ha G1 H z o _ fun v G2 H2 s2 r2 => by
    cases r2
    exact ⟨i, rfl, k _ G2 H2 s2 rfl⟩)
theorem atI_nat {α : Type} {l : List α} {i : Nat} {x : α} (h : l[i]? = some x) : atI l (i : Int) = some x := by
  obtain ⟨h1, _⟩ := List.getElem?_eq_some_iff.mp h
  unfold atI ixN
  rw [if_pos (by omega), if_pos (by omega)]
  simpa using h
theorem atI_last {α : Type} {l : List α} {x : α} : atI (l ++ [x]) (-1) = some x := by
  unfold atI ixN
  rw [if_neg (by omega), if_pos (by rw [List.length_append, List.length_singleton]; omega)]
  have e : ((-1 : Int) + ((l ++ [x]).length : Nat)).toNat = l.length := by
    rw [List.length_append, List.length_singleton]
    omega
  show (l ++ [x])[_]? = _
  rw [e, List.getElem?_append_right (Nat.le_refl _), Nat.sub_self]
  rfl
theorem cutV_but (xs : List V) : cutV xs none (some (-1)) = xs.dropLast := by
  unfold cutV
  have e : HT.sIx xs.length xs.length (some (-1)) = xs.length - 1 := by
    show (if (-1 : Int) < 0 then ((-1 : Int) + (xs.length : Int)).toNat else min (-1 : Int).toNat xs.length) = _
    rw [if_pos (by decide)]
    omega
  rw [e, HT.sIx_none, List.drop_zero, Nat.sub_zero, List.dropLast_eq_take]
theorem AlL.but : ∀ {l : List Rl} {xs : List V}, AlL l xs G → AlL l.dropLast xs.dropLast G
  | _, _, .nil => .nil
  | _, _, .cons _ .nil => .nil
  | _, _, .cons h (.cons h2 t) => .cons h (AlL.but (.cons h2 t))
theorem je_butT {hi : Expr} (ha : JE m X a σ G (Rl.tpl X.K l)) (hb : JE m X hi σ G (rI (-1))) (hn : 0 < l.length) : JE m X (.Subscript a (.Slice none (some hi) none p2) pos) σ G (Rl.tpl X.K l.dropLast) := fun G1 H z o Q k =>
  eP (pe_slice sl_tup pE po_none (po_some pE)) (ha G1 H z o _ fun x G2 H2 s2 ⟨p, xs, ex, hp, al⟩ => hb G2 H2 (z.trans s2.gg) (s2.okm o) _ fun y G3 H3 s3 r3 => by
    cases r3
    have o3 := s3.okm (s2.okm o)
    refine ⟨-1, rfl, p, xs, ex, Same.tup o3.1 (Same.tup s3.gg hp), fun q => ?_, fun q hq => ?_⟩
    · have q2 := q.2
      have hl := al.len
      have e : HT.sIx xs.length xs.length (some (-1)) = xs.length - 1 := by
        show (if (-1 : Int) < 0 then ((-1 : Int) + (xs.length : Int)).toNat else min (-1 : Int).toNat xs.length) = _
        rw [if_pos (by decide)]
        omega
      rw [e] at q2
      omega
    · rw [cutV_but]
      have st := Stp.new (m := m) o3 (u := .tup xs.dropLast) hq
      exact k _ _ _ ((s2.trans o s3).trans o st) ⟨q, _, rfl, SqT.of upd_same, ((al.mono s3.gg).but).mono st.gg⟩)
theorem je_butL {hi : Expr} (ha : JE m X a σ G (Rl.lsl l)) (hb : JE m X hi σ G (rI (-1))) : JE m X (.Subscript a (.Slice none (some hi) none p2) pos) σ G (Rl.lsl l.dropLast) := fun G1 H z o Q k =>
  eP (pe_slice sl_list pE po_none (po_some pE)) (ha G1 H z o _ fun x G2 H2 s2 ⟨p, xs, ex, hp, al⟩ => hb G2 H2 (z.trans s2.gg) (s2.okm o) _ fun y G3 H3 s3 r3 => by
    cases r3
    have o3 := s3.okm (s2.okm o)
    refine ⟨-1, rfl, p, xs, ex, SqL.of (o3.1 _ _ (s3.gg _ _ hp)), fun q hq => ?_⟩
    rw [cutV_but]
    have st := Stp.new (m := m) o3 (u := .lst xs.dropLast) hq
    exact k _ _ _ ((s2.trans o s3).trans o st) ⟨q, _, rfl, upd_same, ((al.mono s3.gg).but).mono st.gg⟩)
/-- l[:k] -/
theorem AlL.take : ∀ {l : List Rl} {xs : List V} (n : Nat), AlL l xs G → AlL (l.take n) (xs.take n) G
  | _, _, 0, _ => by
    rw [List.take_zero, List.take_zero]
    exact .nil
  | _, _, n + 1, .nil => .nil
  | _, _, n + 1, .cons h t => .cons h (AlL.take n t)
theorem je_takeL {hi : Expr} {n : Nat} (ha : JE m X a σ G (Rl.lsl l)) (hb : JE m X hi σ G (rI n)) : JE m X (.Subscript a (.Slice none (some hi) none p2) pos) σ G (Rl.lsl (l.take n)) := fun G1 H z o Q k =>
  eP (pe_slice sl_list pE po_none (po_some pE)) (ha G1 H z o _ fun x G2 H2 s2 ⟨p, xs, ex, hp, al⟩ => hb G2 H2 (z.trans s2.gg) (s2.okm o) _ fun y G3 H3 s3 r3 => by
    cases r3
    have o3 := s3.okm (s2.okm o)
    refine ⟨n, rfl, p, xs, ex, SqL.of (o3.1 _ _ (s3.gg _ _ hp)), fun q hq => ?_⟩
    have e : cutV xs none (some (n : Int)) = xs.take n := by
      unfold cutV
      rw [HT.sIx_nat, HT.sIx_none, List.drop_zero, Nat.sub_zero]
      by_cases h : n ≤ xs.length
      · rw [Nat.min_eq_left h]
      · rw [Nat.min_eq_right (by omega), List.take_of_length_le (Nat.le_refl _), List.take_of_length_le (by omega)]
    rw [e]
    have st := Stp.new (m := m) o3 (u := .lst (xs.take n)) hq
    exact k _ _ _ ((s2.trans o s3).trans o st) ⟨q, _, rfl, upd_same, ((al.mono s3.gg).take n).mono st.gg⟩)
/-! #### pairs in a list -/
def prD (p : Str × Str) : PyData := .tuple [.str p.1, .str p.2]
theorem prD_eqv (p q : Str × Str) : PyData.eqv (prD p) (prD q) = decide (p = q) := by
  obtain ⟨a, b⟩ := p
  obtain ⟨c, d⟩ := q
  show (a == c && (b == d && true)) = _
  rw [Bool.and_true]
  by_cases h1 : a = c <;> by_cases h2 : b = d <;> simp [h1, h2]
def prS (p : Str × Str) : Bool := PyData.strOk p.1 && PyData.strOk p.2
theorem dp_pr {K : PySem.W.Frag} {p : Str × Str} {v : V} (h : (rPr K p).p v G) : Dp K G v (prD p) := by
  obtain ⟨q, xs, rfl, hp, al⟩ := h
  obtain ⟨v1, v2, rfl, e1, e2⟩ := AlL.two al
  cases e1; cases e2
  exact .tup hp (.cons (.str _) (.cons (.str _) .nil))
theorem dp_prs {K : PySem.W.Frag} : ∀ {l : List (Str × Str)} {xs : List V}, AlL (l.map (rPr K)) xs G → DpAll K G xs (l.map prD)
  | [], _, .nil => .nil
  | _ :: _, _, .cons h t => .cons (dp_pr h) (dp_prs t)
theorem prs_lay : ∀ (l : List (Str × Str)), l.all prS = true → PyData.canLayAll0 (l.map prD) = true ∧ PyData.depthAll (l.map prD) ≤ 1
  | [], _ => ⟨rfl, Nat.zero_le _⟩
  | p :: l, h => by
    rw [List.all_cons, Bool.and_eq_true] at h
    obtain ⟨h1, h2⟩ := prs_lay l h.2
    refine ⟨?_, ?_⟩
    · show ((PyData.strOk p.1 && (PyData.strOk p.2 && true)) && _) = true
      rw [h1, Bool.and_true, Bool.and_true]
      exact h.1
    · show max 1 (PyData.depthAll (l.map prD)) ≤ 1
      omega
theorem prs_shaped {l : List (Str × Str)} (h : l.all prS = true) : SeqAt.shaped (.list (l.map prD)) = true := by
  obtain ⟨h1, h2⟩ := prs_lay l h
  unfold SeqAt.shaped
  rw [Bool.and_eq_true]
  exact ⟨h1, decide_eq_true (by show PyData.depthAll (l.map prD) + 1 ≤ 64; omega)⟩
theorem pr_shaped {p : Str × Str} (h : prS p = true) : SeqAt.shaped (prD p) = true := by
  unfold SeqAt.shaped
  rw [Bool.and_eq_true]
  refine ⟨?_, rfl⟩
  show (PyData.strOk p.1 && (PyData.strOk p.2 && true)) = true
  rw [Bool.and_true]
  exact h
theorem prs_any (p : Str × Str) : ∀ l : List (Str × Str), ((l.map prD).any fun z => PyData.eqv z (prD p)) = l.contains p
  | [] => rfl
  | q :: l => by
    rw [List.map_cons, List.any_cons, prs_any p l, prD_eqv, List.contains_cons]
    congr 1
    by_cases h : q = p
    · subst h
      simp
    · rw [decide_eq_false h]
      symm
      exact beq_eq_false_iff_ne.mpr (Ne.symm h)
theorem room_un {k : Nat} {A : Around} (r : Room k A) : A.units + 65 < cLine := by
  have := r.un
  omega
theorem jt_inP {p : Str × Str} {l : List (Str × Str)} {k : Nat} (hr : Room k X.A) (hp : prS p = true) (hl : l.all prS = true) (ha : JE m X a σ G (rPr X.K p)) (hb : JE m X b σ G (Rl.ls (rPr X.K) l)) (hm : behindInMarks .In b = false := by rfl) : JT m X (.Compare a [.In] [b] pos) σ G (isB (l.contains p)) :=
  jt_two (pt_cmpR (op_inD (room_un hr)) pE pE hm) ha hb fun x y G1 H1 Q _ o ex ⟨q, xs, ey, hq, al⟩ kk => by
    subst ey
    refine ⟨prD p, l.map prD, ?_, ?_, pr_shaped hp, prs_shaped hl, ?_⟩
    · exact dp_pr (G := H1) (Rl.mono _ _ _ _ o.1 ex)
    · exact .lst (SqL.of (o.1 _ _ hq)) (dp_prs (al.mono o.1))
    · have z := kk _ G1 H1 (.refl o) rfl
      rw [← prs_any] at z
      exact z
theorem jt_niP {p : Str × Str} {l : List (Str × Str)} {k : Nat} (hr : Room k X.A) (hp : prS p = true) (hl : l.all prS = true) (ha : JE m X a σ G (rPr X.K p)) (hb : JE m X b σ G (Rl.ls (rPr X.K) l)) (hm : behindInMarks .NotIn b = false := by rfl) : JT m X (.Compare a [.NotIn] [b] pos) σ G (isB (!l.contains p)) :=
  jt_two (pt_cmpR (op_notInD (room_un hr)) pE pE hm) ha hb fun x y G1 H1 Q _ o ex ⟨q, xs, ey, hq, al⟩ kk => by
    subst ey
    refine ⟨prD p, l.map prD, ?_, ?_, pr_shaped hp, prs_shaped hl, ?_⟩
    · exact dp_pr (G := H1) (Rl.mono _ _ _ _ o.1 ex)
    · exact .lst (SqL.of (o.1 _ _ hq)) (dp_prs (al.mono o.1))
    · have z := kk _ G1 H1 (.refl o) rfl
      rw [← prs_any] at z
      exact z
end
end Nk
namespace Nk
open PySem PySem.Spec PyProof.Rows L2
/-! ### tests over lists of one's own -/
section
variable {m : Option Hd} {X : Cx} {a b c e o : Expr} {es : List Expr} {σ : L2.St} {G G' H H0 G0 : Hp} {R Ra Rb : Rl} {pos p0 p1 p2 lp : Pos} {rest th el body : List Stmt} {D : Ends} {l l2 : List Rl} {P : Bool → Prop}
/-- a test at one place -/
def JTat (m : Option Hd) (X : Cx) (e : Expr) (σ : L2.St) (G H : Hp) (P : Bool → Prop) : Prop := ∀ Q : Bool → Hp → Prop, (∀ b G' H', Stp m G H G' H' → P b → Q b H') → cT X e σ H Q
theorem JT.at_ (h : JT m X e σ G P) (o : Okm m G H) : JTat m X e σ G H P := fun Q k => h G H (Same.refl _) o Q k
def hide (p : Addr) (G : Hp) : Hp := fun q => if q = p then none else G q
theorem hide_at {p : Addr} : hide p G p = none := if_pos rfl
theorem hide_ne {p q : Addr} (h : q ≠ p) : hide p G q = G q := if_neg h
/-- what is told for a test alone -/
theorem JT.own {p : Addr} {u : HO} (h : JT m X e σ (upd G p u) P) (o : Okm m G H) (g : G p = none) (hp : H p = some u) (nd0 : ∀ d, m = some d → d.a ≠ p) : JTat m X e σ G H P := fun Q k => by
  have o1 : Okm m (upd G p u) H := ⟨fun b v q => by
    by_cases e : b = p
    · subst e
      rw [upd_same] at q
      rw [hp]
      exact q
    · rw [upd_ne e] at q
      exact o.1 _ _ q, fun d e => ⟨?_, (o.2 d e).2⟩⟩
  · refine h (upd G p u) H (Same.refl _) o1 Q fun b G' H' s r => k b (hide p G') H' ⟨fun q v z => ?_, fun q v z => ?_, s.hh, fun q z => ?_, s.hd⟩ r
    · have nq : q ≠ p := fun e => by
        rw [e, g] at z
        cases z
      rw [hide_ne nq]
      exact s.gg _ _ (by rw [upd_ne nq]; exact z)
    · by_cases e : q = p
      · rw [e, hide_at] at z
        cases z
      · rw [hide_ne e] at z
        exact s.gh _ _ z
    · by_cases e : q = p
      · rw [e, hide_at, g]
      · rw [hide_ne e, s.nw q z, upd_ne e]
  · rw [upd_ne (nd0 d e)]
    exact (o.2 d e).1
theorem wb_ifA (hc : JTat m X c σ G H P) (o : Okm m G H) (h1 : P true → ∀ G' H', Stp m G H G' H' → Okm m G' H' → WB X th { D with nx := WB X rest D } σ H') (h2 : P false → ∀ G' H', Stp m G H G' H' → Okm m G' H' → WB X el { D with nx := WB X rest D } σ H') :
    WB X (.If c th el pos :: rest) D σ H :=
  wb_step (ps_if pT pB pB) (hc _ fun b G' H' s r => by
    cases b with
    | true => exact iteT (h1 r G' H' s (s.okm o))
    | false => exact iteF (h2 r G' H' s (s.okm o)))
theorem wb_whileA (Pv : Nat → L2.St → Hp → Hp → Prop) (n0 : Nat) (hp : PassesOwn (model X.prog X.w) X.A X.env X.xe) (o : Okm m G H) (h0 : Pv n0 σ G H)
    (hs : ∀ n σ' G' H', Same G G' → Okm m G' H' → Pv n σ' G' H' → ∃ q, JTat m X c σ' G' H' (isB q) ∧
      (q = true → ∀ G2 H2, Stp m G' H' G2 H2 → Okm m G2 H2 → WB X body { D with nx := fun σ4 H4 => ∃ n', n' < n ∧ Nx m G (Pv n') σ4 H4, ct := fun σ4 H4 => ∃ n', n' < n ∧ Nx m G (Pv n') σ4 H4, bk := WB X rest D } σ' H2) ∧
      (q = false → ∀ G2 H2, Stp m G' H' G2 H2 → Okm m G2 H2 → WB X rest D σ' H2)) : WB X (.While c body [] pos :: rest) D σ H :=
  wb_step (ps_while hp pT pB) (by
    refine ⟨fun n σ' H' => Nx m G (Pv n) σ' H', ⟨n0, G, Same.refl G, o, h0⟩, ?_⟩
    rintro n σ' H' ⟨G', g', o', p'⟩
    obtain ⟨q, hT, h1, h2⟩ := hs n σ' G' H' g' o' p'
    refine hT _ fun b G2 H2 s2 e => ?_
    have e : b = q := e
    subst e
    cases b with
    | true => exact iteT ⟨_, fun σ4 H4 p => p, h1 rfl G2 H2 s2 (s2.okm o')⟩
    | false => exact iteF (h2 rfl G2 H2 s2 (s2.okm o')))
/-- y = list(a), kept back -/
theorem wb_newList (i : Nat) {y : Str} {py : Pos} (hN : X.N.Nodup) (h : JE m X a σ G (Rl.lsl l)) (o0 : Okm m G0 H0) (st : Stp m G0 H0 G H)
    (k : ∀ p xs G' H', Stp m G0 H0 G' H' → Same G G' → Own p xs l H0 G' H' → (∀ q u, Fix m q → H q = some u → H' q = some u ∧ q ≠ p) → (∀ q, H q ≠ none → G' q = G q) → WB X rest D (σ.set i (some (.ref p))) H') (hm : X.mg "list" = none) (hi : X.N[i]? = some y := by rfl) (hx : Loc X.env.scope y := by first | exact .inl rfl | exact .inr rfl)
    (hg : Gl X "list" := by rfl) (he : starEach [a] X.env = (false, eval a X.env) :: starEach [] X.env := by rfl) (hpl : (backTo p2 (starEach [] X.env)).any (·.1) = false := by rfl)
    (hs : swapsWith (.Call (.Name "list" p0) [a] [] p2) (some (.Name y py)) pos.line X.env = pure false := by rfl) (hf : X.fn y = true ∨ X.env.scope.names.lookup y = some .local := by first | exact .inl rfl | exact .inr rfl) : WB X (.Assign [.Name y py] (.Call (.Name "list" p0) [a] [] p2) pos :: rest) D σ H :=
  wb_step (ps_set hN hi hx (pe_callTy call_list_of hg hm (by decide +kernel) pA (by decide) (by decide) he hpl) hs hf) ((ja_cons h ja_nil he) G H (Same.refl G) (st.okm o0) _ fun vs G2 H2 s2 al => by
    obtain ⟨x, rfl, p, xs, rfl, hp, bl⟩ := AlL.one al
    refine ⟨p, xs, rfl, .inl (SqL.of (s2.gh _ _ hp)), fun q hq => ?_⟩
    have s02 := st.trans o0 s2
    have hp0 : H0 q = none := by
      cases z : H0 q with
      | none => rfl
      | some u => exact absurd hq (s02.alive o0 (by rw [z]; exact fun z => nomatch z))
    have g2 : G2 q = none := (s02.okm o0).gnone hq
    refine k q xs G2 _ (Stp.mut o0 s02 hp0 g2) s2.gg ⟨hp0, g2, upd_same, bl⟩ (fun r u f hr => ?_) s2.nw
    have nr : r ≠ q := fun e => by
      subst e
      exact s2.alive (st.okm o0) (by rw [hr]; exact fun z => nomatch z) hq
    rw [upd_ne nr]
    exact ⟨s2.hh _ _ f hr, nr⟩)
/-- y = z + e, z a list of one's own; the new list kept back -/
theorem wb_catOwn (i : Nat) {y nm : Str} {py pn : Pos} {p : Addr} {xs : List V} (j : Nat) (hN : X.N.Nodup) (hσ : σ[j]? = some (some (.ref p))) (w : Own p xs l H0 G H) (h : JE m X e σ G (Rl.lsl l2)) (o0 : Okm m G0 H0) (st : Stp m G0 H0 G H) (hz : l.length + l2.length ≤ 100000)
    (k : ∀ q ys G' H', Stp m G0 H0 G' H' → Same G G' → Own q ys (l ++ l2) H0 G' H' → (∀ q u, Fix m q → H q = some u → H' q = some u) → (∀ r u, H r = some u → r ≠ q) → (∀ q, H q ≠ none → G' q = G q) → WB X rest D (σ.set i (some (.ref q))) H') (hi : X.N[i]? = some y := by rfl) (hx : Loc X.env.scope y := by first | exact .inl rfl | exact .inr rfl)
    (hNn : X.N[j]? = some nm := by rfl) (hv : Vis X.env.scope nm := by first | exact Or.inl rfl | exact Or.inr (Or.inl rfl) | exact Or.inr (Or.inr rfl))
    (hd1 : (nm == ("__debug__" : Str)) = false := by decide) (hcd : (nm == ("__classdict__" : Str)) = false := by decide)
    (hs : swapsWith (.BinOp (.Name nm pn) .Add e p2) (some (.Name y py)) pos.line X.env = pure false := by rfl) (hf : X.fn y = true ∨ X.env.scope.names.lookup y = some .local := by first | exact .inl rfl | exact .inr rfl) : WB X (.Assign [.Name y py] (.BinOp (.Name nm pn) .Add e p2) pos :: rest) D σ H :=
  wb_step (ps_set hN hi hx (pe_op op_cat (pe_var hNn hv hd1 hcd) pE) hs hf) ⟨.ref p, hσ, h G H (Same.refl G) (st.okm o0) _ fun v G2 H2 s2 ⟨r, ys, ev, hr, bl⟩ => by
    have nf := w.fix o0
    have hp2 : H2 p = some (.lst xs) := s2.hh p _ (fun h e => (nf h e).1) w.h
    refine ⟨p, r, xs, ys, rfl, ev, hp2, s2.gh _ _ hr, by rw [w.al.len, bl.len]; exact Nat.le_trans hz (by decide), fun q hq => ?_⟩
    have s02 := st.trans o0 s2
    have hp0 : H0 q = none := by
      cases z : H0 q with
      | none => rfl
      | some u => exact absurd hq (s02.alive o0 (by rw [z]; exact fun z => nomatch z))
    have g2 : G2 q = none := (s02.okm o0).gnone hq
    refine k q (xs ++ ys) G2 _ (Stp.mut o0 s02 hp0 g2) s2.gg ⟨hp0, g2, upd_same, (w.al.mono s2.gg).app bl⟩ (fun t u f ht => ?_) (fun t u ht e => ?_) s2.nw
    · rw [upd_ne (fun e => by subst e; exact s2.alive (st.okm o0) (by rw [ht]; exact fun z => nomatch z) hq)]
      exact s2.hh _ _ f ht
    · subst e
      exact s2.alive (st.okm o0) (by rw [ht]; exact fun z => nomatch z) hq⟩
/-- y = p.pop() -/
theorem wb_pop (i j : Nat) {y nm : Str} {py : Pos} {p : Addr} {xs : List V} {R : Rl} (hN : X.N.Nodup) (hσ : σ[j]? = some (some (.ref p))) (w : Own p xs (l ++ [R]) H0 G H) (o0 : Okm m G0 H0) (st : Stp m G0 H0 G H)
    (k : ∀ v ys H', Stp m G0 H0 G H' → Own p ys l H0 G H' → R.p v G → (∀ q, q ≠ p → H' q = H q) → WB X rest D (σ.set i (some v)) H') (hi : X.N[i]? = some y := by rfl) (hx : Loc X.env.scope y := by first | exact .inl rfl | exact .inr rfl)
    (hNn : X.N[j]? = some nm := by rfl) (hv : Vis X.env.scope nm := by first | exact Or.inl rfl | exact Or.inr (Or.inl rfl) | exact Or.inr (Or.inr rfl))
    (hd1 : (nm == ("__debug__" : Str)) = false := by decide) (hcd : (nm == ("__classdict__" : Str)) = false := by decide)
    (hbase : attributeBase (.Name nm p0) "pop" X.env (eval (.Name nm p0) X.env) = eval (.Name nm p0) X.env := by rfl) (hline : (p1.endLine == p2.line) = true := by rfl)
    (hs : swapsWith (.Call (.Attribute (.Name nm p0) "pop" p1) [] [] p2) (some (.Name y py)) pos.line X.env = pure false := by rfl) (hf : X.fn y = true ∨ X.env.scope.names.lookup y = some .local := by first | exact .inl rfl | exact .inr rfl) : WB X (.Assign [.Name y py] (.Call (.Attribute (.Name nm p0) "pop" p1) [] [] p2) pos :: rest) D σ H := by
  have hlen : xs.length = l.length + 1 := by
    rw [w.al.len, List.length_append] <;> rfl
  obtain ⟨x, h1, h2⟩ := w.al.get (i := l.length) (R := R) (by rw [List.getElem?_append_right (Nat.le_refl _), Nat.sub_self] <;> rfl)
  have h1 : xs[xs.length - 1]? = some x := by
    rw [hlen]
    exact h1
  refine wb_step (ps_set hN hi hx pE hs hf) (je_pop j hσ w.h h1 ?_ hNn hv hd1 hcd hbase hline)
  refine k x xs.dropLast _ (Stp.mut o0 st w.h0 w.g) ⟨w.h0, w.g, upd_same, ?_⟩ h2 fun q n => upd_ne n
  have z := w.al.but
  rw [List.dropLast_concat] at z
  exact z
end
end Nk
namespace Nk
open PySem PySem.Spec PyProof.Rows L2
/-! ### a text walked; attributes of a class; . in a text -/
section
variable {m : Option Hd} {X : Cx} {a b c e o tg : Expr} {es : List Expr} {σ : L2.St} {G G' : Hp} {R Ra Rb Rc : Rl} {pos p0 p1 p2 apos : Pos} {x f mn : Str} {P : Bool → Prop} {l l2 : List Rl}
def chr1 (c : Nat) : Str := ⟨#[c]⟩
theorem ji_str {s : Str} (ha : JE m X a σ G (rS s)) : JI m X tg a σ G (s.cps.toList.map fun c => rS (chr1 c)) := fun G1 H z o R k =>
  iP (pi_str pE) (ha G1 H z o _ fun v G2 H2 s2 ev => ⟨s, ev, k _ G2 H2 s2 fun G3 H3 g3 o3 => by
    have W := walk_str (z := s)
    have hl : (s.cps.toList.map fun c => rS (chr1 c)).length = s.cps.size := by rw [List.length_map] <;> simp
    refine ⟨fun i R hR => ?_, ?_⟩
    · have hi : i < s.cps.size := by
        obtain ⟨h, _⟩ := List.getElem?_eq_some_iff.mp hR
        omega
      refine ⟨W.goes i H3 hi trivial, fun x H' hy => ?_⟩
      obtain ⟨rfl, c, hc, rfl⟩ := W.yields i H3 x H' hi trivial hy
      refine ⟨G3, .refl o3, ?_⟩
      rw [List.getElem?_map, Array.getElem?_toList, hc] at hR
      cases hR
      exact rfl
    · rw [hl]
      exact W.stops H3 trivial⟩)
theorem je_cval {C : Addr} {v : V} {u : Value} (ho : JE m X o σ G (Rl.eq (.ref C))) (r : ClX.CRead X.K C (.type "type")) (k : ClX.CVal X.K C (.type "type") f v u) (hb : attributeBase o f X.env (eval o X.env) = eval o X.env := by rfl) : JE m X (.Attribute o f pos) σ G (Rl.eq v) := fun G1 H z ok Q kk =>
  eP (ClX.pe_cval pE hb) (ho G1 H z ok _ fun x G2 H2 s2 e => ⟨C, _, v, u, e, r, k, kk v G2 H2 s2 rfl⟩)
/-- one sign (not) in a text -/
theorem jt_niS {s t : Str} {ch : Nat} (ha : JE m X a σ G (rS t)) (hb : JE m X b σ G (rS s)) (ht : t = ⟨#[ch]⟩) (hm : behindInMarks .NotIn b = false := by rfl) : JT m X (.Compare a [.NotIn] [b] pos) σ G (isB (!decide (ch ∈ s.cps.toList))) :=
  jt_cmpV op_notIn_sign ha hb (fun _ _ q => ⟨ch, s, by rw [ht], rfl, q⟩) hm
theorem je_sidx {s t : Str} {i : Nat} {rr : List Nat} (ha : JE m X a σ G (rS s)) (hb : JE m X b σ G (rS t)) (h : Builtin.Str.occurrences s t 0 s.length 1 = i :: rr)
    (hbase : attributeBase a "index" X.env (eval a X.env) = eval a X.env := by rfl)
    (hfew : ((backTo pos (starEach [b] X.env)).all (fun x => !x.1) && (backToKw pos (keywordEach [] X.env)).all (fun x => x.1.isSome)
      && decide (([b] : List Expr).length + ([] : List Keyword).length + (if ([] : List Keyword).isEmpty then 0 else 1) < 30)) = true := by rfl)
    (hline : (p1.endLine == pos.line) = true := by rfl) (hs : starEach [b] X.env = (false, eval b X.env) :: starEach [] X.env := by rfl) (hplain : (backTo pos (starEach [] X.env)).any (·.1) = false := by rfl) :
    JE m X (.Call (.Attribute a "index" p1) [b] [] pos) σ G (rI i) := fun G1 H z o Q k =>
  eP (pe_bm PySem.F.plainAttrs_str PySem.F.slot_str_index PySem.F.type_str_index mt_sindex pE (pa_cons pE pa_nil hs) hbase hfew hline hs hplain) (ha G1 H z o _ fun v G2 H2 s2 ev => by
    cases ev
    exact ⟨rfl, hb G2 H2 (z.trans s2.gg) (s2.okm o) _ fun w G3 H3 s3 ew => by
      cases ew
      exact ⟨s, t, i, rr, rfl, rfl, h, k _ G3 H3 (s2.trans o s3) rfl⟩⟩)
end

theorem bT {b : Bool} (h : true = !b) : b = false := by
  cases b
  · rfl
  · exact absurd h (by decide)
theorem bF {b : Bool} (h : false = !b) : b = true := by
  cases b
  · exact absurd h (by decide)
  · rfl
/-! ### facts of the texts -/
def isWay (s : Str) (a b : Int) : Bool := (decide (a ≤ (s.length : Int)) && decide ((s.length : Int) ≤ b)) && s.cps.toList.all fun c => (["f", "m"] : List Str).contains (chr1 c)
def isHs (s : Str) : Bool := (["f.0", "f.1", "m.0", "m.1"] : List Str).contains s
def isSrc (s : Str) : Bool := isHs s || isWay s 1 3
def allT : List Str := srcsL 2 ++ places ++ (["living", "ever"] : List Str)
/-- what house_place looks at -/
def hpOk (s : Str) : Bool := decide (s.length ≤ 100) && (match hpl s with
  | none => !decide (46 ∈ s.cps.toList)
  | some n => decide (46 ∈ s.cps.toList) && (match Builtin.Str.occurrences s "." 0 s.length 1 with
    | i :: _ => decide (PySem.intText? (Txt.slice s (some ((i : Int) + 1)) none) = some (n : Int)) && decide ((Txt.slice s (some ((i : Int) + 1)) none).length ≤ 100)
    | [] => false))
theorem hp_all : allT.all hpOk = true := by decide +kernel

section
variable {P : Program} {w : World} {K : PySem.W.Frag} {mg : Str → Option Value} {base : Heap}
def isWh (v : V) (lo hi : Int) : Bool := match v with
  | .int i => decide (lo ≤ i) && decide (i ≤ hi)
  | _ => false
/-- a text, an int -/
def strInt : V → Prop
  | .int _ => True
  | .str _ => True
  | _ => False
abbrev spWhole : Sp := spF (fun d : V × Int × Int => strInt d.1) (fun d => [Rl.eq d.1, rI d.2.1, rI d.2.2]) fun d => rB (isWh d.1 d.2.1 d.2.2)
theorem k_is_whole (T : Tx K mg) : C8.Cal P w K mg base 1 "is_whole" spWhole [] := by
  obtain ⟨fd, F⟩ := T.F_is_whole
  refine cal_pure F (T.g "is_whole") (F.bindsN fun _ _ _ _ _ _ us hl => match us, hl with | [_, _, _], _ => rfl) scis_whole (fun _ => rfl) ?_
  rintro cdv A outer s0 H0 E ⟨v, lo, hi⟩ G H vs Q hr hv o al k
  cases al with
  | cons e1 al =>
    obtain ⟨_, _, rfl, e2, e3⟩ := AlL.two al
    cases e1; cases e2; cases e3
    cases v with
    | int i =>
      exact wb_ret (je_and (p := true) (je_isiI (je_v 0) (je_ty (T := "int") (T.f "int") (by decide +kernel)) (by decide +kernel) (T.f "isinstance")) fun _ =>
        je_and (p := true) (je_not (p := false) (je_isiI (je_v 0) (je_ty (T := "bool") (T.f "bool") (by decide +kernel)) (by decide +kernel) (T.f "isinstance"))) fun _ => je_one (je_chain (je_v 1) (je_v 0) (je_v 2))) o k
    | str s =>
      exact wb_ret (je_and (p := false) (q := false) (je_isiS (je_v 0) (je_ty (T := "int") (T.f "int") (by decide +kernel)) (by decide +kernel) (T.f "isinstance")) fun h => by cases h) o k
    | _ => exact hv.elim
def isKd (v : V) : Bool := match v with
  | .str s => (["s", "d"] : List Str).contains s
  | _ => false
def strIntN : V → Prop
  | .int _ => True
  | .str _ => True
  | .non => True
  | _ => False
abbrev spKind : Sp := spF (fun d : V => strIntN d) (fun d => [Rl.eq d]) fun d => rB (isKd d)
theorem k_is_kind (T : Tx K mg) : C8.Cal P w K mg base 1 "is_kind" spKind [] := by
  obtain ⟨fd, F⟩ := T.F_is_kind
  refine cal_pure F (T.g "is_kind") (F.bindsN fun _ _ _ _ _ _ us hl => match us, hl with | [_], _ => rfl) scis_kind (fun _ => rfl) ?_
  intro cdv A outer s0 H0 E v G H vs Q hr hv o al k
  obtain ⟨_, rfl, e⟩ := AlL.one al
  cases e
  cases v with
  | str s => exact wb_ret (je_and (p := true) (je_isiS (je_v 0) (je_ty (T := "str") (T.f "str") (by decide +kernel)) (by decide +kernel) (T.f "isinstance")) fun _ => je_one (je_inT (l := ["s", "d"]) (je_v 0) (je_tup (ja_cons je_str (ja_cons je_str ja_nil))))) o k
  | int i => exact wb_ret (je_and (p := false) (q := false) (je_isiI (je_v 0) (je_ty (T := "str") (T.f "str") (by decide +kernel)) (by decide +kernel) (T.f "isinstance")) fun h => by cases h) o k
  | non => exact wb_ret (je_and (p := false) (q := false) (je_isi (t := .type "NoneType") (je_v 0) (je_ty (T := "str") (T.f "str") (by decide +kernel)) (fun v G1 H1 _ _ e => by cases e; exact .base .non) (.ty "str") (kit_ty (by decide +kernel)) (T.f "isinstance")) fun h => by cases h) o k
  | _ => exact hv.elim
abbrev spWay : Sp := spF (fun d : Str × Int × Int => d.1.length ≤ 1000) (fun d => [rS d.1, rI d.2.1, rI d.2.2]) fun d => rB (isWay d.1 d.2.1 d.2.2)
theorem k_is_way (T : Tx K mg) : C8.Cal P w K mg base 1 "is_way" spWay [] := by
  obtain ⟨fd, F⟩ := T.F_is_way
  refine cal_pure F (T.g "is_way") (F.bindsN fun _ _ _ _ _ _ us hl => match us, hl with | [_, _, _], _ => rfl) scis_way (fun _ => rfl) ?_
  rintro cdv A outer s0 H0 E ⟨s, lo, hi⟩ G H vs Q hr hv o al k
  cases al with
  | cons e1 al =>
    obtain ⟨_, _, rfl, e2, e3⟩ := AlL.two al
    cases e1; cases e2; cases e3
    have e0 : ∀ q : Bool, q = (decide (lo ≤ (s.length : Int)) && decide ((s.length : Int) ≤ hi)) → isWay s lo hi = (q && s.cps.toList.all fun c => (["f", "m"] : List Str).contains (chr1 c)) := fun q h => by
      rw [h] <;> rfl
    refine wb_if (jt_w (jw_or (jt_not (jt_val (je_isiS (q := true) (je_v 0) (je_ty (T := "str") (T.f "str") (by decide +kernel)) (by decide +kernel) (T.f "isinstance")))) fun _ => jw_or1 (jt_not (jt_chain (je_v 1) (je_lenS (je_v 0) hv (T.f "len")) (je_v 2))))) o (fun h G1 H1 s1 o1 => ?_) (fun h G1 H1 s1 o1 => ?_)
    · have h' : (decide (lo ≤ (s.length : Int)) && decide ((s.length : Int) ≤ hi)) = false := bT h
      refine wb_ret je_bl o1 fun v G2 H2 s2 r => k v G2 H2 (s1.trans o s2) ?_
      show v = .bl (isWay s lo hi)
      rw [e0 false h'.symm]
      exact r
    · have h' : (decide (lo ≤ (s.length : Int)) && decide ((s.length : Int) ≤ hi)) = true := bF h
      refine wb_nil ?_
      refine wb_for (fun i σ' G' H' => Stp none G H G' H' ∧ (∃ v, σ' = [some (.str s), some (.int lo), some (.int hi), v]) ∧ (s.cps.toList.take i).all (fun c => (["f", "m"] : List Str).contains (chr1 c)) = true) PassesOwn.never rfl (pg_name (i := 3) scis_way.nd rfl (.inl rfl)) (ji_str (je_v 0)) o1
        (fun G2 H2 s2 o2 => ⟨s1.trans o s2, ⟨none, rfl⟩, by simp⟩) ?_ ?_
      · rintro Gc gc i R σ' G' H' x hR gg o' ⟨st, ⟨v, rfl⟩, hall⟩ G2 H2 s2 o2 rx
        rw [List.getElem?_map] at hR
        cases hc : s.cps.toList[i]? with
        | none =>
          rw [hc] at hR
          cases hR
        | some c =>
          rw [hc] at hR
          cases hR
          cases rx
          refine wb_if (jt_niT (l := ["f", "m"]) (je_v 3) (je_tup (ja_cons je_str (ja_cons je_str ja_nil)))) o2 (fun h G3 H3 s3 o3 => ?_) (fun h G3 H3 s3 o3 => ?_)
          · refine wb_ret je_bl o3 fun v G4 H4 s4 r => k v G4 H4 (((st.trans o s2).trans o s3).trans o s4) ?_
            show v = .bl (isWay s lo hi)
            have hf : (s.cps.toList.all fun c => (["f", "m"] : List Str).contains (chr1 c)) = false := by
              rw [List.all_eq_false]
              exact ⟨c, List.mem_of_getElem? hc, by
                rw [bT h]
                exact Bool.false_ne_true⟩
            unfold isWay
            rw [hf, Bool.and_false]
            exact r
          · refine wb_nil (wb_nil ⟨G3, (gg.trans s2.gg).trans s3.gg, o3, (st.trans o s2).trans o s3, ⟨_, rfl⟩, ?_⟩)
            rw [List.take_add_one, hc, List.all_append, hall]
            simp only [Option.toList_some, List.all_cons, List.all_nil, Bool.and_true, Bool.true_and]
            exact bF h
      · rintro σ' G' H' gg o' ⟨st, ⟨v, rfl⟩, hall⟩
        refine wb_ret je_bl o' fun v G4 H4 s4 r => k v G4 H4 (st.trans o s4) ?_
        show v = .bl (isWay s lo hi)
        rw [List.length_map, List.take_length] at hall
        rw [e0 true h'.symm, hall]
        exact r
end
end Nk
namespace Nk
open PySem PySem.Spec PyProof.Rows L2
section
variable {m : Option Hd} {X : Cx} {σ : L2.St} {G : Hp} {pos : Pos} {x : Str}
/-- a class, a def by its name; a module's int -/
theorem je_cls {C : Addr} (hm : X.mg x = some (.ref C)) (hg : Gl X x := by rfl) (hd : (x == ("__debug__" : Str)) = false := by decide) : JE m X (.Name x pos) σ G (Rl.eq (.ref C)) := je_glob hm rfl hg hd
theorem je_gi {n : Int} (hm : ∃ t, X.mg x = some (.int n t)) (hg : Gl X x := by rfl) (hd : (x == ("__debug__" : Str)) = false := by decide) : JE m X (.Name x pos) σ G (rI n) := by
  obtain ⟨t, h⟩ := hm
  exact je_glob h ⟨t, rfl⟩ hg hd
end
/-! ### [.. for a in .. for b in ..] -/
section
variable {m : Option Hd} {X : Cx} {a b c e o tg tg1 : Expr} {es : List Expr} {σ : L2.St} {G G' H : Hp} {R Ra Rb Rc : Rl} {pos p0 p1 p2 apos : Pos} {x f mn : Str} {P : Bool → Prop} {l l2 : List Rl} {D : Ends} {rest : List Stmt}
theorem jr_lc2 {α β : Type} {ds : List α} {Dd : α → Rl} {bs : List β} {Db : β → Rl} {E : α → β → Rl} {elt iter iter1 : Expr} {scope : Scope} {vs vs1 : List Nat} {ja jb : Nat}
    (hi : JI m X tg iter σ G (ds.map Dd)) (hn : ds.length * bs.length ≤ 100000) (hw : ∀ x, wipe ((wipe σ vs).set ja (some x)) vs = wipe σ vs)
    (hw1 : ∀ x y, wipe ((wipe ((wipe σ vs).set ja (some x)) vs1).set jb (some y)) vs1 = wipe ((wipe σ vs).set ja (some x)) vs1)
    (hi1 : ∀ d ∈ ds, ∀ x G1, Same G G1 → (Dd d).p x G1 → ∀ s H C cl fp, JI m (Bk X scope s H C cl fp) tg1 iter1 ((wipe σ vs).set ja (some x)) G1 (bs.map Db))
    (he : ∀ d ∈ ds, ∀ b ∈ bs, ∀ x y G1, Same G G1 → (Dd d).p x G1 → (Db b).p y G1 → ∀ s H C cl fp, JE m (Bk X scope s H C cl fp) elt ((wipe ((wipe σ vs).set ja (some x)) vs1).set jb (some y)) G1 (E d b)) :
    JR m (tLc2 (cI X tg iter) (gName ja) tYes (fun σ H Q => ∀ s H0 C cl fp, cI (Bk X scope s H0 C cl fp) tg1 iter1 σ H Q) (gName jb) tYes (fun σ H Q => ∀ s H0 C cl fp, cE (Bk X scope s H0 C cl fp) elt σ H Q) vs vs1) σ G (Rl.lsl (ds.flatMap fun d => bs.map (E d))) := by
  intro G1 H z o Q k
  refine hi G1 H z o _ fun J G2 H2 s2 itok Dl hD => ?_
  have o2 := s2.okm o
  have fx : Fix m Dl := fun h e q => (o2.2 h e).2.there (by rw [← q]; exact hD)
  refine ⟨fun i n H' => n = ds.length - i ∧ i ≤ ds.length ∧ ∃ G' acc, Stp m G2 H2 G' H' ∧ G' Dl = none ∧ H' Dl = some (.lst acc) ∧ AlL ((ds.take i).flatMap fun d => bs.map (E d)) acc G',
    ⟨ds.length, by simp, Nat.zero_le _, G2, [], Stp.mut o2 (.refl o2) hD (o2.gnone hD), o2.gnone hD, upd_same, .nil⟩, ?_⟩
  rintro i n H' ⟨rfl, hi', G', acc, st, gD, hH', al⟩
  have o' := st.okm o2
  obtain ⟨goes, stops⟩ := itok G' H' st.gg o'
  by_cases hlt : i < ds.length
  · obtain ⟨d, hd⟩ : ∃ d, ds[i]? = some d := ⟨ds[i], by simp [hlt]⟩
    have hm : d ∈ ds := List.mem_of_getElem? hd
    have hR : (ds.map Dd)[i]? = some (Dd d) := by rw [List.getElem?_map, hd] <;> rfl
    obtain ⟨hgo, hy⟩ := goes i (Dd d) hR
    refine .inr ⟨hgo, _, fun H'' p => ⟨ds.length - (i + 1), by omega, rfl, hlt, p⟩, fun x H'' y => ?_⟩
    obtain ⟨G3, s3, r3⟩ := hy x H'' y
    have o3 := s3.okm o'
    have zz : Same G G3 := ((z.trans s2.gg).trans st.gg).trans s3.gg
    refine ⟨hw x, ?_⟩
    unfold tYes
    simp only [if_true]
    intro s0 H0 C0 cl0 fp0
    refine hi1 d hm x G3 zz r3 s0 H0 C0 cl0 fp0 G3 H'' (Same.refl _) o3 _ fun J1 G4 H4 s4 itok1 => ?_
    have o4 := s4.okm o3
    have hne0 : H' Dl ≠ none := by
      rw [hH']
      exact fun z => nomatch z
    have hne3 : H'' Dl ≠ none := by
      rw [s3.hh _ _ fx hH']
      exact fun z => nomatch z
    have g4 : G4 Dl = none := s4.gnone hne3 (s3.gnone hne0 gD)
    have hD4 : H4 Dl = some (.lst acc) := s4.hh _ _ fx (s3.hh _ _ fx hH')
    have st4 := (st.trans o2 s3).trans o2 s4
    have etake : (ds.take (i + 1)).flatMap (fun d => bs.map (E d)) = (ds.take i).flatMap (fun d => bs.map (E d)) ++ bs.map (E d) := by
      rw [List.take_add_one, hd, List.flatMap_append]
      simp
    have hlen : ((ds.take i).flatMap fun d => bs.map (E d)).length ≤ i * bs.length := by
      have h : ∀ l : List α, (l.flatMap fun d => bs.map (E d)).length = l.length * bs.length := fun l => by
        induction l with
        | nil => simp
        | cons x l ih => rw [List.flatMap_cons, List.length_append, ih, List.length_map, List.length_cons, Nat.succ_mul, Nat.add_comm]
      rw [h, List.length_take]
      exact Nat.mul_le_mul_right _ (Nat.min_le_left _ _)
    refine ⟨fun j k H5 => k = bs.length - j ∧ j ≤ bs.length ∧ ∃ G5 acc5, Stp m G2 H2 G5 H5 ∧ Same G4 G5 ∧ G5 Dl = none ∧ H5 Dl = some (.lst acc5) ∧ AlL (((ds.take i).flatMap fun d => bs.map (E d)) ++ (bs.take j).map (E d)) acc5 G5,
      ⟨bs.length, by simp, Nat.zero_le _, G4, acc, st4, Same.refl _, g4, hD4, by simpa using al.mono (s3.gg.trans s4.gg)⟩, ?_⟩
    rintro j k H5 ⟨rfl, hj', G5, acc5, st5, g45, gD5, hH5, al5⟩
    have o5 := st5.okm o2
    obtain ⟨goes1, stops1⟩ := itok1 G5 H5 g45 o5
    by_cases hjl : j < bs.length
    · obtain ⟨b, hb⟩ : ∃ b, bs[j]? = some b := ⟨bs[j], by simp [hjl]⟩
      have hbm : b ∈ bs := List.mem_of_getElem? hb
      have hRb : (bs.map Db)[j]? = some (Db b) := by rw [List.getElem?_map, hb] <;> rfl
      obtain ⟨hgo1, hy1⟩ := goes1 j (Db b) hRb
      refine .inr ⟨hgo1, _, fun H'' p => ⟨bs.length - (j + 1), by omega, rfl, hjl, p⟩, fun y H6 yy => ?_⟩
      obtain ⟨G6, s6, r6⟩ := hy1 y H6 yy
      have o6 := s6.okm o5
      refine ⟨hw1 x y, ?_⟩
      intro s7 H7 C7 cl7 fp7
      have z6 : Same G3 G6 := (s4.gg.trans g45).trans s6.gg
      refine he d hm b hbm x y G6 (zz.trans z6) ((Dd d).mono _ _ _ z6 r3) r6 s7 H7 C7 cl7 fp7 G6 H6 (Same.refl _) o6 _ fun v G8 H8 s8 r8 => ?_
      have hne5 : H5 Dl ≠ none := by
        rw [hH5]
        exact fun z => nomatch z
      have hne6 : H6 Dl ≠ none := by
        rw [s6.hh _ _ fx hH5]
        exact fun z => nomatch z
      have g8 : G8 Dl = none := s8.gnone hne6 (s6.gnone hne5 gD5)
      have st8 := (st5.trans o2 s6).trans o2 s8
      have hacc : acc5.length ≤ (i + 1) * bs.length := by
        rw [al5.len, List.length_append, List.length_map, List.length_take, Nat.succ_mul]
        exact Nat.add_le_add hlen (Nat.min_le_right _ _)
      have hacc2 : (i + 1) * bs.length ≤ ds.length * bs.length := Nat.mul_le_mul_right _ hlt
      refine ⟨acc5, s8.hh _ _ fx (s6.hh _ _ fx hH5), Nat.lt_of_le_of_lt (Nat.le_trans hacc (Nat.le_trans hacc2 hn)) (by decide), ?_⟩
      refine ⟨G8, acc5 ++ [v], Stp.mut o2 st8 hD g8, (g45.trans s6.gg).trans s8.gg, g8, upd_same, ?_⟩
      rw [List.take_add_one, hb, List.map_append, ← List.append_assoc]
      exact (al5.mono (s6.gg.trans s8.gg)).app (.cons r8 .nil)
    · have e : j = bs.length := by omega
      subst e
      rw [List.length_map] at stops1
      refine .inl ⟨stops1, G5, acc5, st5, gD5, hH5, ?_⟩
      rw [List.take_length] at al5
      rw [etake]
      exact al5
  · have e : i = ds.length := by omega
    subst e
    rw [List.length_map] at stops
    refine .inl ⟨stops, ?_⟩
    rw [List.take_length] at al
    have st2 := st.tell o2 hD gD hH'
    exact k _ _ _ (s2.trans o st2) ⟨Dl, acc, rfl, upd_same, al.mono fun b u q => by
      rw [upd_ne (fun e => by rw [e, gD] at q; cases q)]
      exact q⟩
theorem wb_setLc2 {α β : Type} {ds : List α} {Dd : α → Rl} {bs : List β} {Db : β → Rl} {E : α → β → Rl} {elt iter iter1 : Expr} {scope : Scope} {ya yb : Str} {pa pb : Pos} {ja jb : Nat} {spos : Pos} (i : Nat) {y : Str} {py : Pos} (own : List (Str × Nat)) (vs1 : List Nat) (hc : X.calm = true) (hN : X.N.Nodup) (ok : BlkOk X.N X.env.scope scope own)
    (hv : ∀ i ∈ vs1, i ∈ own.map (·.2))
    (hpg : ∀ (s : Shared) (H : Hp) (C : Addr) (cl : List (Str × Addr)) (fp : List Addr), PG (Bk X scope s H C cl fp) (.Name ya pa) (gName ja))
    (hpg1 : ∀ (s : Shared) (H : Hp) (C : Addr) (cl : List (Str × Addr)) (fp : List Addr), PG (Bk X scope s H C cl fp) (.Name yb pb) (gName jb))
    (hi : JI m X (.Name ya pa) iter σ G (ds.map Dd)) (hn : ds.length * bs.length ≤ 100000) (hw : ∀ x, wipe ((wipe σ (own.map (·.2))).set ja (some x)) (own.map (·.2)) = wipe σ (own.map (·.2)))
    (hw1 : ∀ x y, wipe ((wipe ((wipe σ (own.map (·.2))).set ja (some x)) vs1).set jb (some y)) vs1 = wipe ((wipe σ (own.map (·.2))).set ja (some x)) vs1)
    (hi1 : ∀ d ∈ ds, ∀ x G1, Same G G1 → (Dd d).p x G1 → ∀ s H C cl fp, JI m (Bk X scope s H C cl fp) (.Name yb pb) iter1 ((wipe σ (own.map (·.2))).set ja (some x)) G1 (bs.map Db))
    (he : ∀ d ∈ ds, ∀ b ∈ bs, ∀ x y G1, Same G G1 → (Dd d).p x G1 → (Db b).p y G1 → ∀ s H C cl fp, JE m (Bk X scope s H C cl fp) elt ((wipe ((wipe σ (own.map (·.2))).set ja (some x)) vs1).set jb (some y)) G1 (E d b))
    (o : Okm m G H) (k : ∀ v G' H', Stp m G H G' H' → Okm m G' H' → (Rl.lsl (ds.flatMap fun d => bs.map (E d))).p v G' → WB X rest D (σ.set i (some v)) H') (hy : X.N[i]? = some y := by rfl) (hyl : X.env.scope.names.lookup y = some .local := by rfl)
    (hsw : swapsWith (.ListComp elt [⟨.Name ya pa, iter, [], 0⟩, ⟨.Name yb pb, iter1, [], 0⟩] scope pos) (some (.Name y py)) spos.line X.env = pure true := by exact sw_true rfl rfl rfl (by decide +kernel))
    (hs : ∀ x, foldedSetIterable iter X.env x = pure x := by intro _; rfl) (hs1 : ∀ env x, foldedSetIterable iter1 env x = pure x := by intro _ _; rfl) : WB X (.Assign [.Name y py] (.ListComp elt [⟨.Name ya pa, iter, [], 0⟩, ⟨.Name yb pb, iter1, [], 0⟩] scope pos) spos :: rest) D σ H :=
  wb_step (ps_setLc2 hc hN hy hyl hsw pI ok hv hpg (fun s H C cl fp => pts_nil) (fun s H C cl fp => ⟨fun pins s' σ H' Q I h => h s H C cl fp pins s' I⟩) hpg1 (fun s H C cl fp => pts_nil) (fun s H C cl fp => ⟨fun pins s' σ H' Q I h => h s H C cl fp pins s' I⟩) hs hs1)
    (jr_lc2 hi hn hw hw1 hi1 he G H (Same.refl G) o _ fun v G' H' s r => k v G' H' s (s.okm o) r)
end
/-! ### the ways -/
def wLvl : Nat → List Str
  | 0 => [""]
  | n + 1 => (wLvl n).flatMap fun w => [w ++ "f", w ++ "m"]
def wFound (lo : Nat) : Nat → List Str
  | 0 => []
  | n + 1 => if lo ≤ n then wFound lo n ++ wLvl n else wFound lo n
theorem wLvl_len : ∀ n < 4, (wLvl n).length ≤ 8 ∧ ((wLvl n).all fun w => decide (w.length ≤ 3)) = true := by decide +kernel
theorem wFound_len : ∀ lo < 3, ∀ n < 5, (wFound lo n).length ≤ 15 := by decide +kernel
theorem wFound02 : wFound 0 3 = (([""] : List Str) ++ ways12) := by decide +kernel
theorem wFound12 : wFound 1 3 = ways12 := by decide +kernel
theorem wFound13 : wFound 1 4 = ways13 := by decide +kernel
section
variable {P : Program} {w : World} {K : PySem.W.Frag} {mg : Str → Option Value} {base : Heap}
abbrev wOk (d : Nat × Nat) : Prop := d.1 < 3 ∧ d.2 < 4
abbrev spWays : Sp := spF wOk (fun d => [rI d.1, rI d.2]) fun d => Rl.tp K rS (wFound d.1 (d.2 + 1))
theorem k_ways_of (T : Tx K mg) : C8.Cal P w K mg base 1 "ways_of" (spWays (K := K)) [] := by
  obtain ⟨fd, F⟩ := T.F_ways_of
  refine cal_pure F (T.g "ways_of") (F.bindsN fun _ _ _ _ _ _ us hl => match us, hl with | [_, _], _ => rfl) scways_of (fun _ => rfl) ?_
  rintro cdv A outer s0 H0 E ⟨lo, hi⟩ G H vs Q hr ⟨hlo, hhi⟩ o al k
  obtain ⟨_, _, rfl, e2, e3⟩ := AlL.two al
  cases e2; cases e3
  have hlo : lo < 3 := hlo
  have hhi : hi < 4 := hhi
  refine wb_set 2 scways_of.nd (je_lst ja_nil) o fun v1 G1 H1 s1 o1 r1 => ?_
  refine wb_set 3 scways_of.nd (je_lst (ja_cons je_str ja_nil)) o1 fun v2 G2 H2 s2 o2 r2 => ?_
  refine wb_for (fun i σ' G' H' => Stp none G H G' H' ∧ ∃ v1 v2 v, σ' = [some (.int lo), some (.int hi), some v1, some v2, v, none, none] ∧ (Rl.ls rS (wFound lo i)).p v1 G' ∧ (Rl.ls rS (wLvl i)).p v2 G') PassesOwn.never rfl (pg_name (i := 4) scways_of.nd rfl (.inl rfl))
    (ji_range (n := hi + 1) (je_add (i := (hi : Int)) (j := 1) (je_v 1) je_int) (by omega) (T.f "range")) o2
    (fun G3 H3 s3 o3 => ⟨((s1.trans o s2).trans o s3), v1, v2, none, rfl, Rl.mono _ _ _ _ (s2.gg.trans s3.gg) r1, Rl.mono _ _ _ _ s3.gg r2⟩) ?_ ?_
  · rintro Gc gc i R σ' G' H' x hR gg o' ⟨st, v1, v2, v, rfl, r1, r2⟩ G3 H3 s3 o3 rx
    have hi : i < hi + 1 := by
      obtain ⟨h, _⟩ := List.getElem?_eq_some_iff.mp hR
      rw [List.length_map, List.length_range] at h
      exact h
    rw [List.getElem?_map, List.getElem?_range hi] at hR
    cases hR
    cases rx
    have h4 : i < 4 := by omega
    have lv := wLvl_len i h4
    refine wb_if (jt_ge (je_v 4) (je_v 0)) o3 (fun h G4 H4 s4 o4 => ?_) (fun h G4 H4 s4 o4 => ?_)
    · have hl : lo ≤ i := by
        have h := decide_eq_true_iff.mp (show decide ((lo : Int) ≤ (i : Int)) = true from h.symm)
        omega
      refine wb_set 2 scways_of.nd (je_catL (je_var 2 rfl (Rl.mono _ _ _ _ (s3.gg.trans s4.gg) r1)) (je_var 3 rfl (Rl.mono _ _ _ _ (s3.gg.trans s4.gg) r2)) (by
        have := wFound_len lo hlo i (by omega)
        rw [List.length_map, List.length_map]
        omega)) o4 fun v3 G5 H5 s5 o5 r5 => wb_nil ?_
      refine wb_setLc2 (ds := wLvl i) (bs := (["f", "m"] : List Str)) (Dd := rS) (Db := rS) (E := fun w b => rS (w ++ b)) 3 [("way", 5), ("letter", 6)] [6] rfl scways_of.nd (blkOk_by rfl) (by decide) (fun s H C cl fp => pg_name (i := 5) scways_of.nd rfl (.inl rfl)) (fun s H C cl fp => pg_name (i := 6) scways_of.nd rfl (.inl rfl))
        (ji_list (je_var 3 rfl (Rl.mono _ _ _ _ ((s3.gg.trans s4.gg).trans s5.gg) r2))) (by simp; omega) (fun _ => rfl) (fun _ _ => rfl) ?_ ?_ o5 ?_
      · rintro d hd x G6 z6 e s H C cl fp
        exact ji_tup (l := [rS "f", rS "m"]) (je_tup (ja_cons je_str (ja_cons je_str ja_nil)))
      · rintro d hd b hb x y G6 z6 e1 e2 s H C cl fp
        cases e1; cases e2
        refine je_cat (je_v 5) (je_v 6) ?_
        have h1 := List.all_eq_true.mp lv.2 d hd
        have h1 := decide_eq_true_iff.mp h1
        have h2 : b.length ≤ 1 := by
          rcases List.mem_cons.mp hb with rfl | hb
          · decide +kernel
          · rw [List.mem_singleton.mp hb]
            decide +kernel
        exact Nat.le_trans (Nat.add_le_add h1 h2) (by decide)
      · intro v4 G6 H6 s6 o6 r6
        refine wb_nil ⟨G6, (((gg.trans s3.gg).trans s4.gg).trans s5.gg).trans s6.gg, o6, (((st.trans o s3).trans o s4).trans o s5).trans o s6, v3, v4, _, rfl, ?_, ?_⟩
        · have e : wFound lo (i + 1) = wFound lo i ++ wLvl i := if_pos hl
          rw [e]
          unfold Rl.ls
          rw [List.map_append]
          exact Rl.mono _ _ _ _ s6.gg r5
        · have e : (wLvl (i + 1)).map rS = (wLvl i).flatMap fun d => (["f", "m"] : List Str).map fun b => rS (d ++ b) := by
            show ((wLvl i).flatMap fun w => [w ++ ("f" : Str), w ++ ("m" : Str)]).map rS = _
            rw [List.map_flatMap] <;> rfl
          unfold Rl.ls
          rw [e]
          exact r6
    · have hl : ¬ lo ≤ i := by
        have h := decide_eq_false_iff_not.mp (show decide ((lo : Int) ≤ (i : Int)) = false from h.symm)
        omega
      refine wb_nil ?_
      refine wb_setLc2 (ds := wLvl i) (bs := (["f", "m"] : List Str)) (Dd := rS) (Db := rS) (E := fun w b => rS (w ++ b)) 3 [("way", 5), ("letter", 6)] [6] rfl scways_of.nd (blkOk_by rfl) (by decide) (fun s H C cl fp => pg_name (i := 5) scways_of.nd rfl (.inl rfl)) (fun s H C cl fp => pg_name (i := 6) scways_of.nd rfl (.inl rfl))
        (ji_list (je_var 3 rfl (Rl.mono _ _ _ _ (s3.gg.trans s4.gg) r2))) (by simp; omega) (fun _ => rfl) (fun _ _ => rfl) ?_ ?_ o4 ?_
      · rintro d hd x G6 z6 e s H C cl fp
        exact ji_tup (l := [rS "f", rS "m"]) (je_tup (ja_cons je_str (ja_cons je_str ja_nil)))
      · rintro d hd b hb x y G6 z6 e1 e2 s H C cl fp
        cases e1; cases e2
        refine je_cat (je_v 5) (je_v 6) ?_
        have h1 := List.all_eq_true.mp lv.2 d hd
        have h1 := decide_eq_true_iff.mp h1
        have h2 : b.length ≤ 1 := by
          rcases List.mem_cons.mp hb with rfl | hb
          · decide +kernel
          · rw [List.mem_singleton.mp hb]
            decide +kernel
        exact Nat.le_trans (Nat.add_le_add h1 h2) (by decide)
      · intro v4 G6 H6 s6 o6 r6
        refine wb_nil ⟨G6, ((gg.trans s3.gg).trans s4.gg).trans s6.gg, o6, ((st.trans o s3).trans o s4).trans o s6, v1, v4, _, rfl, ?_, ?_⟩
        · have e : wFound lo (i + 1) = wFound lo i := if_neg hl
          rw [e]
          exact Rl.mono _ _ _ _ ((s3.gg.trans s4.gg).trans s6.gg) r1
        · have e : (wLvl (i + 1)).map rS = (wLvl i).flatMap fun d => (["f", "m"] : List Str).map fun b => rS (d ++ b) := by
            show ((wLvl i).flatMap fun w => [w ++ ("f" : Str), w ++ ("m" : Str)]).map rS = _
            rw [List.map_flatMap] <;> rfl
          unfold Rl.ls
          rw [e]
          exact r6
  · rintro σ' G' H' gg o' ⟨st, v1, v2, v, rfl, r1, r2⟩
    rw [List.length_map, List.length_range] at r1
    exact wb_ret (je_tupleL (je_var 2 rfl r1) (T.f "tuple")) o' fun v G4 H4 s4 r => k v G4 H4 (st.trans o s4) r
/-! ### small texts -/
abbrev sLen (s : Str) : Prop := s.length ≤ 600
abbrev spHs : Sp := spF sLen (fun s => [rS s]) fun s => rB (isHs s)
theorem k_is_house_source (T : Tx K mg) : C8.Cal P w K mg base 1 "is_house_source" spHs [] := by
  obtain ⟨fd, F⟩ := T.F_is_house_source
  refine cal_pure F (T.g "is_house_source") (F.bindsN fun _ _ _ _ _ _ us hl => match us, hl with | [_], _ => rfl) scis_house_source (fun _ => rfl) ?_
  intro cdv A outer s0 H0 E s G H vs Q hr hs o al k
  obtain ⟨_, rfl, e⟩ := AlL.one al
  cases e
  exact wb_ret (je_and (p := true) (je_isiS (je_v 0) (je_ty (T := "str") (T.f "str") (by decide +kernel)) (by decide +kernel) (T.f "isinstance")) fun _ =>
    je_one (je_inT (l := ["f.0", "f.1", "m.0", "m.1"]) (je_v 0) (je_tup (ja_cons je_str (ja_cons je_str (ja_cons je_str (ja_cons je_str ja_nil))))))) o k
abbrev spSrc : Sp := spF sLen (fun s => [rS s]) fun s => rB (isSrc s)
theorem k_is_source (T : Tx K mg) : C8.Cal P w K mg base 2 "is_source" spSrc [] := by
  obtain ⟨fd, F⟩ := T.F_is_source
  refine cal_pure F (T.g "is_source") (F.bindsN fun _ _ _ _ _ _ us hl => match us, hl with | [_], _ => rfl) scis_source (fun _ => rfl) ?_
  intro cdv A outer s0 H0 E s G H vs Q hr hs o al k
  obtain ⟨_, rfl, e⟩ := AlL.one al
  cases e
  exact wb_ret (je_or (je_call s (k_is_house_source T) hs (ja_cons (je_v 0) ja_nil) hr) fun _ =>
    je_one (je_call (s, 1, 3) (k_is_way T) (Nat.le_trans hs (by decide)) (ja_cons (je_v 0) (ja_cons je_int (ja_cons (je_gi (T.i "MOST_WAY" 3)) ja_nil))) hr)) o k
def hplV (s : Str) : V := match hpl s with
  | none => .non
  | some n => .int n
theorem dot_sign : ("." : Str) = ⟨#[46]⟩ := by decide +kernel
abbrev spHpl : Sp := spF (fun s => hpOk s = true) (fun s => [rS s]) fun s => Rl.eq (hplV s)
theorem k_house_place (T : Tx K mg) : C8.Cal P w K mg base 1 "house_place" spHpl [] := by
  obtain ⟨fd, F⟩ := T.F_house_place
  refine cal_pure F (T.g "house_place") (F.bindsN fun _ _ _ _ _ _ us hl => match us, hl with | [_], _ => rfl) schouse_place (fun _ => rfl) ?_
  intro cdv A outer s0 H0 E s G H vs Q hr hs o al k
  obtain ⟨_, rfl, e⟩ := AlL.one al
  cases e
  have hs : hpOk s = true := hs
  unfold hpOk at hs
  rw [Bool.and_eq_true] at hs
  obtain ⟨hl, hs⟩ := hs
  have hl := decide_eq_true_iff.mp hl
  refine wb_if (jt_niS je_str (je_v 0) dot_sign) o (fun h G1 H1 s1 o1 => ?_) (fun h G1 H1 s1 o1 => ?_)
  · refine wb_ret je_non o1 fun v G2 H2 s2 r => k v G2 H2 (s1.trans o s2) ?_
    show v = hplV s
    unfold hplV
    cases q : hpl s with
    | none => exact r
    | some n =>
      rw [q] at hs
      have h := bT h
      rw [h] at hs
      cases hs
  · have h := bF h
    unfold hplV at k
    cases q : hpl s with
    | none =>
      rw [q] at hs
      rw [h] at hs
      cases hs
    | some n =>
      rw [q] at hs k
      simp only at hs
      rw [Bool.and_eq_true] at hs
      cases q2 : Builtin.Str.occurrences s "." 0 s.length 1 with
      | nil =>
        rw [q2] at hs
        exact absurd hs.2 Bool.false_ne_true
      | cons i l =>
        rw [q2] at hs
        obtain ⟨_, hs⟩ := hs
        rw [Bool.and_eq_true] at hs
        have h1 := decide_eq_true_iff.mp hs.1
        have h2 := decide_eq_true_iff.mp hs.2
        exact wb_nil (wb_ret (je_intS (je_slS (je_v 0) (je_add (je_sidx (je_v 0) je_str q2) je_int) (by omega)) h1 (by omega) (T.f "int")) o1 fun v G2 H2 s2 r => k v G2 H2 (s1.trans o s2) r)
abbrev spS (f : Str → Str) : Sp := spF (fun _ => True) (fun s => [rS s]) fun s => rS (f s)
theorem k_parent_kind (T : Tx K mg) : C8.Cal P w K mg base 1 "parent_kind" (spS pkd) [] := by
  obtain ⟨fd, F⟩ := T.F_parent_kind
  refine cal_pure F (T.g "parent_kind") (F.bindsN fun _ _ _ _ _ _ us hl => match us, hl with | [_], _ => rfl) scparent_kind (fun _ => rfl) ?_
  intro cdv A outer s0 H0 E s G H vs Q hr hs o al k
  obtain ⟨_, rfl, e⟩ := AlL.one al
  cases e
  obtain ⟨u1, c1⟩ := T.son
  obtain ⟨u2, c2⟩ := T.dau
  refine wb_ret (R := rS (pkd s)) (je_ifE (jt_eq (je_v 0) je_str) (fun h => ?_) (fun h => ?_)) o k
  · have h := decide_eq_true_iff.mp h.symm
    cases h
    exact je_cval (je_cls (T.g "Kind")) T.rd c1
  · have h := decide_eq_false_iff_not.mp h.symm
    have e : pkd s = "d" := if_neg fun e => h (by rw [e])
    rw [e]
    exact je_cval (je_cls (T.g "Kind")) T.rd c2
theorem k_other_kind (T : Tx K mg) : C8.Cal P w K mg base 1 "other_kind" (spS okd) [] := by
  obtain ⟨fd, F⟩ := T.F_other_kind
  refine cal_pure F (T.g "other_kind") (F.bindsN fun _ _ _ _ _ _ us hl => match us, hl with | [_], _ => rfl) scother_kind (fun _ => rfl) ?_
  intro cdv A outer s0 H0 E s G H vs Q hr hs o al k
  obtain ⟨_, rfl, e⟩ := AlL.one al
  cases e
  obtain ⟨u1, c1⟩ := T.son
  obtain ⟨u2, c2⟩ := T.dau
  refine wb_ret (R := rS (okd s)) (je_ifE (jt_eq (je_v 0) (je_cval (je_cls (T.g "Kind")) T.rd c1)) (fun h => ?_) (fun h => ?_)) o k
  · have h := decide_eq_true_iff.mp h.symm
    cases h
    exact je_cval (je_cls (T.g "Kind")) T.rd c2
  · have h := decide_eq_false_iff_not.mp h.symm
    have e : okd s = "s" := if_neg fun e => h (by rw [e])
    rw [e]
    exact je_cval (je_cls (T.g "Kind")) T.rd c1
/-- a text with a first sign -/
abbrev sOne (s : Str) : Prop := s.length ≤ 600 ∧ 0 < s.length
theorem hd1_at {s : Str} (h : 0 < s.length) : ∃ ch, atI s.cps.toList 0 = some ch ∧ hd1 s = ⟨#[ch]⟩ := by
  have hs : 0 < s.cps.toList.length := by
    rw [Array.length_toList]
    exact h
  unfold hd1
  cases q : s.cps.toList with
  | nil =>
    rw [q] at hs
    exact absurd hs (by decide)
  | cons x l =>
    refine ⟨x, ?_, rfl⟩
    unfold atI
    have e : ixN (x :: l).length 0 = some 0 := by
      unfold ixN
      simp
    rw [e]
    rfl
abbrev spPlc : Sp := spF sOne (fun s => [rS s]) fun s => rPr K (plc s)
theorem k_place_of (T : Tx K mg) : C8.Cal P w K mg base 2 "place_of" (spPlc (K := K)) [] := by
  obtain ⟨fd, F⟩ := T.F_place_of
  refine cal_pure F (T.g "place_of") (F.bindsN fun _ _ _ _ _ _ us hl => match us, hl with | [_], _ => rfl) scplace_of (fun _ => rfl) ?_
  intro cdv A outer s0 H0 E s G H vs Q hr hs o al k
  obtain ⟨_, rfl, e⟩ := AlL.one al
  cases e
  obtain ⟨ch, h1, h2⟩ := hd1_at hs.2
  have hl : s.length ≤ 1000 := Nat.le_trans hs.1 (by decide)
  refine wb_ret (R := rPr K (plc s)) (je_tup (l := [rS (pkd (hd1 s)), rS (tl1 s)]) (ja_cons (je_call (hd1 s) (k_parent_kind T) trivial (ja_cons ?_ ja_nil) hr) (ja_cons (je_slS (je_v 0) je_int hl) ja_nil))) o k
  show JE _ _ _ _ _ (rS (hd1 s))
  rw [h2]
  exact je_ixS (je_v 0) je_int hl h1
end
end Nk
namespace Nk
open PySem PySem.Spec PyProof.Rows L2
/-! ### conditions -/
def cdC : Cd → Str
  | .number _ => "Number"
  | .never => "Never"
  | .unborne => "Unborne"
  | .dead _ => "Dead"
  | .alive _ => "Alive"
  | .unlike _ _ => "Unlike"
section
variable {P : Program} {w : World} {K : PySem.W.Frag} {mg : Str → Option Value} {base : Heap}
/-- a method without arguments of a known object, that gives what R says -/
abbrev spM (Ro R : Rl) : Sp := spF (fun _ : Unit => True) (fun _ => [Ro]) fun _ => R
theorem met_one {Ro R : Rl} {x qual : Str} {C : Addr} {st : Stmt} {f : Addr} {fd : FuncData} {N : List Str} (F : FunD K x qual (defArgs st) (defBody st) (defScope st) [] [] f fd) (c : Cls K C) (me : Meth K C x f) (b : Binds K fd ["self"] []) (S : FnScope N ["self"] (defScope st)) {k : Nat}
    (body : ∀ (cdv : Value) (A : Around) (outer : List Env) (s : Shared) (H0 : Hp) (E : XK) (G H : Hp) (v : V) (Q : VK), Room k (A.deeper (envOfC qual (defScope st) s.heap.objs.size f cdv)) → Okm none G H → Ro.p v G → (∀ v G' H', Stp none G H G' H' → R.p v G' → Q v H') →
      WB (Xc P w K mg base N qual st f cdv A outer s H0 E) (defBody st) { nx := fun _ H' => Q .non H', rt := Q } (start N [v]) H) : C8.Met P w K mg base (k + 1) C x (spM Ro R) [] :=
  met_pure F c me b S (fun _ => rfl) fun cdv A outer s H0 E d G H vs Q hr _ o al k => by
    obtain ⟨v, rfl, e⟩ := AlL.one al
    exact body cdv A outer s H0 E G H v Q hr o e k
theorem m_cd_srcs (T : Tx K mg) (c : Cd) : C8.Met P w K mg base 1 (cN K (cdC c)) "read_sources" (spM (rCd K c) (Rl.tp K rS (cdSrcs c))) [] := by
  obtain ⟨f1, F1⟩ := T.F_Condition_read_sources
  obtain ⟨f2, F2⟩ := T.F_Unlike_read_sources
  have b1 : Binds K f1 ["self"] [] := F1.bindsN fun _ _ _ _ _ _ us hl => match us, hl with | [_], _ => rfl
  have b2 : Binds K f2 ["self"] [] := F2.bindsN fun _ _ _ _ _ _ us hl => match us, hl with | [_], _ => rfl
  cases c with
  | number n => exact met_one F1 (T.c "Number") (T.m "Number" "read_sources" "Condition") b1 scCondition_read_sources fun cdv A outer s H0 E G H v Q hr o e k => wb_ret (je_tup (l := []) ja_nil) o k
  | never => exact met_one F1 (T.c "Never") (T.m "Never" "read_sources" "Condition") b1 scCondition_read_sources fun cdv A outer s H0 E G H v Q hr o e k => wb_ret (je_tup (l := []) ja_nil) o k
  | unborne => exact met_one F1 (T.c "Unborne") (T.m "Unborne" "read_sources" "Condition") b1 scCondition_read_sources fun cdv A outer s H0 E G H v Q hr o e k => wb_ret (je_tup (l := []) ja_nil) o k
  | dead x => exact met_one F1 (T.c "Dead") (T.m "Dead" "read_sources" "Condition") b1 scCondition_read_sources fun cdv A outer s H0 E G H v Q hr o e k => wb_ret (je_tup (l := []) ja_nil) o k
  | alive x => exact met_one F1 (T.c "Alive") (T.m "Alive" "read_sources" "Condition") b1 scCondition_read_sources fun cdv A outer s H0 E G H v Q hr o e k => wb_ret (je_tup (l := []) ja_nil) o k
  | unlike x y => exact met_one F2 (T.c "Unlike") (T.m "Unlike" "read_sources" "Unlike") b2 scUnlike_read_sources fun cdv A outer s H0 E G H v Q hr o e k => wb_ret (je_tup (l := [rS x, rS y]) (ja_cons (je_fld 0 (je_var 0 rfl e) (T.c "Unlike") (T.n "Unlike" "one")) (ja_cons (je_fld 1 (je_var 0 rfl e) (T.c "Unlike") (T.n "Unlike" "other")) ja_nil))) o k
theorem m_cd_lives (T : Tx K mg) (c : Cd) : C8.Met P w K mg base 1 (cN K (cdC c)) "read_lives" (spM (rCd K c) (Rl.tp K rS (cdLives c))) [] := by
  obtain ⟨f1, F1⟩ := T.F_Condition_read_lives
  obtain ⟨f2, F2⟩ := T.F_LifeCondition_read_lives
  have b1 : Binds K f1 ["self"] [] := F1.bindsN fun _ _ _ _ _ _ us hl => match us, hl with | [_], _ => rfl
  have b2 : Binds K f2 ["self"] [] := F2.bindsN fun _ _ _ _ _ _ us hl => match us, hl with | [_], _ => rfl
  cases c with
  | number n => exact met_one F1 (T.c "Number") (T.m "Number" "read_lives" "Condition") b1 scCondition_read_lives fun cdv A outer s H0 E G H v Q hr o e k => wb_ret (je_tup (l := []) ja_nil) o k
  | never => exact met_one F1 (T.c "Never") (T.m "Never" "read_lives" "Condition") b1 scCondition_read_lives fun cdv A outer s H0 E G H v Q hr o e k => wb_ret (je_tup (l := []) ja_nil) o k
  | unborne => exact met_one F1 (T.c "Unborne") (T.m "Unborne" "read_lives" "Condition") b1 scCondition_read_lives fun cdv A outer s H0 E G H v Q hr o e k => wb_ret (je_tup (l := []) ja_nil) o k
  | unlike x y => exact met_one F1 (T.c "Unlike") (T.m "Unlike" "read_lives" "Condition") b1 scCondition_read_lives fun cdv A outer s H0 E G H v Q hr o e k => wb_ret (je_tup (l := []) ja_nil) o k
  | dead x => exact met_one F2 (T.c "Dead") (T.m "Dead" "read_lives" "LifeCondition") b2 scLifeCondition_read_lives fun cdv A outer s H0 E G H v Q hr o e k => wb_ret (je_tup (l := [rS x]) (ja_cons (je_fld 0 (je_var 0 rfl e) (T.c "Dead") (T.n "Dead" "way")) ja_nil)) o k
  | alive x => exact met_one F2 (T.c "Alive") (T.m "Alive" "read_lives" "LifeCondition") b2 scLifeCondition_read_lives fun cdv A outer s H0 E G H v Q hr o e k => wb_ret (je_tup (l := [rS x]) (ja_cons (je_fld 0 (je_var 0 rfl e) (T.c "Alive") (T.n "Alive" "way")) ja_nil)) o k
theorem m_cd_trk (T : Tx K mg) (c : Cd) : C8.Met P w K mg base 1 (cN K (cdC c)) "tracks" (spM (rCd K c) (rB (cdTrk c))) [] := by
  obtain ⟨f1, F1⟩ := T.F_Condition_tracks
  obtain ⟨f2, F2⟩ := T.F_Unborne_tracks
  obtain ⟨f3, F3⟩ := T.F_Never_tracks
  have b1 : Binds K f1 ["self"] [] := F1.bindsN fun _ _ _ _ _ _ us hl => match us, hl with | [_], _ => rfl
  have b2 : Binds K f2 ["self"] [] := F2.bindsN fun _ _ _ _ _ _ us hl => match us, hl with | [_], _ => rfl
  have b3 : Binds K f3 ["self"] [] := F3.bindsN fun _ _ _ _ _ _ us hl => match us, hl with | [_], _ => rfl
  cases c with
  | number n => exact met_one F1 (T.c "Number") (T.m "Number" "tracks" "Condition") b1 scCondition_tracks fun cdv A outer s H0 E G H v Q hr o e k => wb_ret je_bl o k
  | unlike x y => exact met_one F1 (T.c "Unlike") (T.m "Unlike" "tracks" "Condition") b1 scCondition_tracks fun cdv A outer s H0 E G H v Q hr o e k => wb_ret je_bl o k
  | dead x => exact met_one F1 (T.c "Dead") (T.m "Dead" "tracks" "Condition") b1 scCondition_tracks fun cdv A outer s H0 E G H v Q hr o e k => wb_ret je_bl o k
  | alive x => exact met_one F1 (T.c "Alive") (T.m "Alive" "tracks" "Condition") b1 scCondition_tracks fun cdv A outer s H0 E G H v Q hr o e k => wb_ret je_bl o k
  | unborne => exact met_one F2 (T.c "Unborne") (T.m "Unborne" "tracks" "Unborne") b2 scUnborne_tracks fun cdv A outer s H0 E G H v Q hr o e k => wb_ret je_bl o k
  | never => exact met_one F3 (T.c "Never") (T.m "Never" "tracks" "Never") b3 scNever_tracks fun cdv A outer s H0 E G H v Q hr o e k => wb_ret je_bl o k
/-- a condition is an instance without such attributes of its own -/
theorem rCd_no (mn : Str) (h : (["n", "way", "one", "other"] : List Str).all (fun k => !(mn == k)) = true) (c : Cd) : ∀ v G1, (rCd K c).p v G1 → ∃ a dx fs, v = .ref a ∧ G1 a = some (.ins (cN K (cdC c)) dx fs) ∧ fs.lookup mn = none := by
  have h1 := List.all_eq_true.mp h
  have z : ∀ k ∈ (["n", "way", "one", "other"] : List Str), (mn == k) = false := fun k hk => bT (h1 k hk).symm
  have z1 := z "n" (by decide +kernel)
  have z2 := z "way" (by decide +kernel)
  have z3 := z "one" (by decide +kernel)
  have z4 := z "other" (by decide +kernel)
  cases c with
  | number n => exact obj_no (by simp [List.findIdx?_cons, z1])
  | never => exact obj_no rfl
  | unborne => exact obj_no rfl
  | dead x => exact obj_no (by simp [List.findIdx?_cons, z2])
  | alive x => exact obj_no (by simp [List.findIdx?_cons, z2])
  | unlike x y => exact obj_no (by simp [List.findIdx?_cons, z3, z4])
/-! ### their making -/
theorem spI_1 {α : Type} {C : Addr} {pre : α → Prop} {args : α → List Rl} {ns : List Str} {Rs : α → List Rl} : True := trivial
theorem mk_number (T : Tx K mg) : C8.Mak P w K mg base 2 "Number" (cN K "Number") (spI (cN K "Number") (fun n : Int => 1 ≤ n ∧ n ≤ 4) (fun n => [rI n]) ["n"] fun n => [rI n]) [] := by
  obtain ⟨fd, F⟩ := T.F_Number_init
  refine mak_pure F (T.k "Number" "Number") (T.g "Number") (F.bindsN fun _ _ _ _ _ _ us hl => match us, hl with | [_, _], _ => rfl) scNumber_init (fun _ => rfl) ?_
  intro cdv A outer s0 H0 E n G H y dy vs Q hr hp I al k
  obtain ⟨_, rfl, e⟩ := AlL.one al
  cases e
  refine wb_if (jt_not (jt_val (je_call (V.int n, 1, 4) (k_is_whole T) trivial (ja_cons (je_v 1) (ja_cons je_int (ja_cons je_int ja_nil))) hr))) I.ok (fun h G1 H1 s1 o1 => ?_) (fun h G1 H1 s1 o1 => ?_)
  · have h := bT h
    have e : isWh (.int n) 1 4 = true := by
      unfold isWh
      simp [hp.1, hp.2]
    rw [e] at h
    cases h
  · exact wb_nil (wb_ini 0 (I.step s1) rfl (T.c "Number") (T.n "Number" "n") (je_v 1) fun G2 H2 I2 => wb_nil (k G2 H2 I2))
theorem mk_life (T : Tx K mg) (x : Str) (hx : x = "Alive" ∨ x = "Dead") : C8.Mak P w K mg base 2 x (cN K x) (spI (cN K x) (fun s : Str => s ∈ ways13) (fun s => [rS s]) ["way"] fun s => [rS s]) [] := by
  obtain ⟨fd, F⟩ := T.F_LifeCondition_init
  have M : Mk K (cN K x) (He.fAd K ("LifeCondition", some "__init__")) := by
    rcases hx with rfl | rfl
    · exact T.k "Alive" "LifeCondition"
    · exact T.k "Dead" "LifeCondition"
  have hm : mg x = some (.ref (cN K x)) := by
    rcases hx with rfl | rfl
    · exact T.g "Alive"
    · exact T.g "Dead"
  have c : Cls K (cN K x) := by
    rcases hx with rfl | rfl
    · exact T.c "Alive"
    · exact T.c "Dead"
  have n : NoAttr K (cN K x) "way" := by
    rcases hx with rfl | rfl
    · exact T.n "Alive" "way"
    · exact T.n "Dead" "way"
  refine mak_pure F M hm (F.bindsN fun _ _ _ _ _ _ us hl => match us, hl with | [_, _], _ => rfl) scLifeCondition_init (fun _ => rfl) ?_
  intro cdv A outer s0 H0 E s G H y dy vs Q hr hp I al k
  obtain ⟨_, rfl, e⟩ := AlL.one al
  cases e
  have hall : (ways13.all fun s => decide (s.length ≤ 1000) && isWay s 1 3) = true := by decide +kernel
  have h1 := List.all_eq_true.mp hall s hp
  rw [Bool.and_eq_true] at h1
  refine wb_if (jt_not (jt_val (je_call (s, 1, 3) (k_is_way T) (decide_eq_true_iff.mp h1.1) (ja_cons (je_v 1) (ja_cons je_int (ja_cons (je_gi (T.i "MOST_WAY" 3)) ja_nil))) hr))) I.ok (fun h G1 H1 s1 o1 => ?_) (fun h G1 H1 s1 o1 => ?_)
  · have h := bT h
    rw [h1.2] at h
    cases h
  · exact wb_nil (wb_ini 0 (I.step s1) rfl c n (je_v 1) fun G2 H2 I2 => wb_nil (k G2 H2 I2))
def srcOk (s : Str) : Bool := decide (s.length ≤ 600) && isSrc s
theorem srcs_ok : ∀ w ≤ 2, ((srcsL w).all srcOk) = true := by decide +kernel
theorem srcOk_of {n : Nat} {s : Str} (hn : n ≤ 2) (h : s ∈ srcsL n) : s.length ≤ 600 ∧ isSrc s = true := by
  have h1 := List.all_eq_true.mp (srcs_ok n hn) s h
  unfold srcOk at h1
  rw [Bool.and_eq_true] at h1
  exact ⟨decide_eq_true_iff.mp h1.1, h1.2⟩
theorem mk_unlike (T : Tx K mg) : C8.Mak P w K mg base 3 "Unlike" (cN K "Unlike") (spI (cN K "Unlike") (fun p : Str × Str => srcOk p.1 = true ∧ srcOk p.2 = true) (fun p => [rS p.1, rS p.2]) ["one", "other"] fun p => [rS p.1, rS p.2]) [] := by
  obtain ⟨fd, F⟩ := T.F_Unlike_init
  refine mak_pure F (T.k "Unlike" "Unlike") (T.g "Unlike") (F.bindsN fun _ _ _ _ _ _ us hl => match us, hl with | [_, _, _], _ => rfl) scUnlike_init (fun _ => rfl) ?_
  rintro cdv A outer s0 H0 E ⟨a, b⟩ G H y dy vs Q hr ⟨ha, hb⟩ I al k
  obtain ⟨_, _, rfl, e1, e2⟩ := AlL.two al
  cases e1; cases e2
  have ha : srcOk a = true := ha
  have hb : srcOk b = true := hb
  unfold srcOk at ha hb
  rw [Bool.and_eq_true] at ha hb
  have la := decide_eq_true_iff.mp ha.1
  have lb := decide_eq_true_iff.mp hb.1
  refine wb_if (jt_w (jw_or (jt_not (jt_val (je_call a (k_is_source T) la (ja_cons (je_v 1) ja_nil) hr))) fun _ => jw_or1 (jt_not (jt_val (je_call b (k_is_source T) lb (ja_cons (je_v 2) ja_nil) hr))))) I.ok (fun h G1 H1 s1 o1 => ?_) (fun h G1 H1 s1 o1 => ?_)
  · have h : true = (!isSrc a || !isSrc b) := h
    rw [ha.2, hb.2] at h
    cases h
  · exact wb_nil (wb_ini 0 (I.step s1) rfl (T.c "Unlike") (T.n "Unlike" "one") (je_v 1) fun G2 H2 I2 => wb_ini 0 I2 rfl (T.c "Unlike") (T.n "Unlike" "other") (je_v 2) fun G3 H3 I3 => wb_nil (k G3 H3 I3))
end
end Nk
namespace Nk
open PySem PySem.Spec PyProof.Rows L2
section
variable {m : Option Hd} {X : Cx} {σ : L2.St} {G H : Hp} {Ra Rb : Rl}
theorem tph_tpl {K : PySem.W.Frag} {l : List Rl} {v : V} (h : (Rl.tph l).p v G) : (Rl.tpl K l).p v G := by
  obtain ⟨p, xs, e, hp, al⟩ := h
  exact ⟨p, xs, e, SqT.of hp, al⟩
/-- a target of two names -/
theorem pg_two {k1 : Nat} {tp : Pos} (i j : Nat) {y1 y2 : Str} {py1 py2 : Pos} (hc : X.calm = true) (hN : X.N.Nodup)
    (hi : X.N[i]? = some y1 := by rfl) (hj : X.N[j]? = some y2 := by rfl) (hx : Loc X.env.scope y1 := by first | exact .inl rfl | exact .inr rfl) (hx2 : Loc X.env.scope y2 := by first | exact .inl rfl | exact .inr rfl)
    (hf : X.fn y1 = true ∨ X.env.scope.names.lookup y1 = some .local := by first | exact .inl rfl | exact .inr rfl) (hf2 : X.fn y2 = true ∨ X.env.scope.names.lookup y2 = some .local := by first | exact .inl rfl | exact .inr rfl)
    (e1 : (assignEach [.Name y1 py1, .Name y2 py2] X.env).map (·.2) = assign (.Name y1 py1) X.env :: (assignEach [.Name y2 py2] X.env).map (·.2) := by rfl)
    (e2 : (assignEach [.Name y2 py2] X.env).map (·.2) = assign (.Name y2 py2) X.env :: (assignEach [] X.env).map (·.2) := by rfl)
    (n1 : (assignEach [.Name y1 py1, .Name y2 py2] X.env).length = 2 := by rfl) (n2 : (assignEach [.Name y1 py1, .Name y2 py2] X.env).findIdx? (·.1) = none := by rfl) :
    PG X (.Tuple [.Name y1 py1, .Name y2 py2] k1 tp) (gTup X.K 2 (gCons (gName i) (gCons (gName j) gNil))) :=
  pg_tup hc (pgs_cons (pg_name hN hi hx hf) (pgs_cons (pg_name hN hj hx2 hf2) pgs_nil e2) e1) n1 n2
theorem g_two {K : PySem.W.Frag} {i j : Nat} {x : V} {Kp : L2.St → Hp → Prop} (h : (Rl.tpl K [Ra, Rb]).p x G) (s : Same G H) (k : ∀ v w, Ra.p v G → Rb.p w G → Kp ((σ.set i (some v)).set j (some w)) H) : gTup K 2 (gCons (gName i) (gCons (gName j) gNil)) x σ H Kp := by
  obtain ⟨p, xs, rfl, hp, al⟩ := h
  obtain ⟨v1, v2, rfl, e1, e2⟩ := AlL.two al
  exact ⟨p, _, rfl, Same.tup s hp, rfl, _, _, rfl, _, _, rfl, rfl, k _ _ e1 e2⟩
theorem any_len {α β : Type} {f : α → Bool} {E : α → β} (l : List α) : decide ((0 : Int) < (((l.filter f).map E).length : Nat)) = l.any f := by
  rw [List.length_map]
  cases h : l.any f with
  | true =>
    obtain ⟨x, hx, hf⟩ := List.any_eq_true.mp h
    have : 0 < (l.filter f).length := List.length_pos_of_mem (List.mem_filter.mpr ⟨hx, hf⟩)
    exact decide_eq_true (by omega)
  | false =>
    have e : l.filter f = [] := by
      rw [List.filter_eq_nil_iff]
      intro x hx hf
      rw [List.any_eq_false] at h
      exact h x hx hf
    rw [e]
    rfl
theorem flat_len {α β : Type} {f : α → List β} {n : Nat} (hf : ∀ x, (f x).length ≤ n) : ∀ l : List α, (l.flatMap f).length ≤ l.length * n
  | [] => Nat.zero_le _
  | x :: l => by
    rw [List.flatMap_cons, List.length_append, List.length_cons, Nat.succ_mul]
    have := flat_len hf l
    have := hf x
    omega
theorem cdSrcs_len (c : Cd) : (cdSrcs c).length ≤ 2 := by cases c <;> simp [cdSrcs]
theorem cdLives_len (c : Cd) : (cdLives c).length ≤ 2 := by cases c <;> simp [cdLives]
end
section
variable {m : Option Hd} {X : Cx} {o : Expr} {σ : L2.St} {G : Hp} {Ro R : Rl} {pos apos : Pos} {mn : Str}
theorem je_m1 {k j : Nat} {C : Addr} {pl : Sem Bool} (c : C8.Met X.prog X.w X.K X.mg X.base k C mn (spM Ro R) []) (ho : JE m X o σ G Ro)
    (hi : ∀ v G1, Ro.p v G1 → ∃ a dx fs, v = .ref a ∧ G1 a = some (.ins C dx fs) ∧ fs.lookup mn = none) (hr : Room j X.A) (hk : k ≤ j := by decide)
    (ht : eval (.Call (.Attribute o mn apos) [] [] pos) X.env = (do
      let ov ← eval o X.env
      standAt apos.atName
      let (f, first) ← holding [ov] (getMethod ov mn pl)
      callWith pos f first (backTo pos (starEach [] X.env)) (backToKw pos (keywordEach [] X.env))) := by rfl) : JE m X (.Call (.Attribute o mn apos) [] [] pos) σ G R :=
  je_mt0 (pl := pl) () c trivial rfl ho hi hr hk ht
end
section
variable {P : Program} {w : World} {K : PySem.W.Frag} {mg : Str → Option Value} {base : Heap}
theorem rCd_ty (T : Tx K mg) (c : Cd) : ∀ v G1 H1, Same G1 H1 → (rCd K c).p v G1 → TyX K H1 v (.ref (cN K (cdC c))) := by
  have z : ∀ (x : Str) ns Rs, clsL.contains x = true → ∀ v G1 H1, Same G1 H1 → (Rl.obj (cN K x) ns Rs).p v G1 → TyX K H1 v (.ref (cN K x)) := by
    rintro x ns Rs hx v G1 H1 s ⟨a, dx, fs, rfl, h, _⟩
    exact T.ty x (s _ _ h) hx
  cases c with
  | number n => exact z _ _ _ (by decide +kernel)
  | never => exact z _ _ _ (by decide +kernel)
  | unborne => exact z _ _ _ (by decide +kernel)
  | dead x => exact z _ _ _ (by decide +kernel)
  | alive x => exact z _ _ _ (by decide +kernel)
  | unlike x y => exact z _ _ _ (by decide +kernel)
theorem kit_cond (T : Tx K mg) (c : Cd) : PySem.W.kitOne K (.ref (cN K (cdC c))) (.ref (cN K "Condition")) = some true := by
  cases c with
  | number n => exact T.is "Number" "Condition" true
  | never => exact T.is "Never" "Condition" true
  | unborne => exact T.is "Unborne" "Condition" true
  | dead x => exact T.is "Dead" "Condition" true
  | alive x => exact T.is "Alive" "Condition" true
  | unlike x y => exact T.is "Unlike" "Condition" true
theorem kit_num (T : Tx K mg) (c : Cd) : PySem.W.kitOne K (.ref (cN K (cdC c))) (.ref (cN K "Number")) = some (cdNum c) := by
  cases c with
  | number n => exact T.is "Number" "Number" true
  | never => exact T.is "Never" "Number" false
  | unborne => exact T.is "Unborne" "Number" false
  | dead x => exact T.is "Dead" "Number" false
  | alive x => exact T.is "Alive" "Number" false
  | unlike x y => exact T.is "Unlike" "Number" false
abbrev spTake (K : PySem.W.Frag) : Sp := spR (cN K "Take") 2 (fun t : Tk => srcOk t.src = true ∧ t.cds.length ≤ 4) (fun t => [rS t.src]) (fun t => t.cds.map (rCd K)) tkN fun t => [rS t.src, Rl.tp K (rCd K) t.cds]
theorem mk_take (T : Tx K mg) : MakR P w K mg base 3 "Take" (cN K "Take") (spTake K) := by
  obtain ⟨fd, F⟩ := T.F_Take_init
  refine makR_pure (ps := ["self", "source"]) (pv := "conditions") F (T.k "Take" "Take") (T.g "Take") (fun _ _ _ _ _ _ us rest hl => match us, rest, hl with | [_, _], [], _ => rfl | [_, _], _ :: _, _ => rfl) scTake_init ?_
  rintro cdv A outer s0 H0 E ⟨src, cds⟩ G H y dy vs Q hr ⟨hs, hn⟩ I al k
  obtain ⟨_, cv, rfl, e1, e2⟩ := AlL.two al
  cases e1
  have hs : srcOk src = true := hs
  have hn : cds.length ≤ 4 := hn
  unfold srcOk at hs
  rw [Bool.and_eq_true] at hs
  have e2 : (Rl.tpl K (cds.map (rCd K))).p cv G := tph_tpl e2
  refine wb_if (jt_not (jt_val (je_call src (k_is_source T) (decide_eq_true_iff.mp hs.1) (ja_cons (je_v 1) ja_nil) hr))) I.ok (fun h G1 H1 s1 o1 => ?_) (fun h G1 H1 s1 o1 => ?_)
  · have h := bT h
    rw [hs.2] at h
    cases h
  refine wb_nil (wb_if (jt_gt (je_lenT (je_var 2 rfl (Rl.mono _ _ _ _ s1.gg e2)) (T.f "len")) (je_gi (T.i "MOST_CONDITIONS" 4))) o1 (fun h G2 H2 s2 o2 => ?_) (fun h G2 H2 s2 o2 => ?_))
  · have h := decide_eq_true_iff.mp h.symm
    rw [List.length_map] at h
    omega
  refine wb_nil (wb_for (fun i σ' G' H' => Stp none G H G' H' ∧ ∃ a b, σ' = [some (.ref y), some (.str src), some cv, a, b]) PassesOwn.never rfl (pg_two 3 4 rfl scTake_init.nd)
    (ji_enumT (je_var 2 rfl (Rl.mono _ _ _ _ (s1.gg.trans s2.gg) e2)) (T.f "enumerate")) o2
    (fun G3 H3 s3 o3 => ⟨(s1.trans I.ok s2).trans I.ok s3, _, _, rfl⟩) ?_ ?_)
  · rintro Gc gc i R σ' G' H' x hR gg o' ⟨st, a, b, rfl⟩ G3 H3 s3 o3 rx
    rw [List.getElem?_map, List.getElem?_zipIdx, List.getElem?_map] at hR
    cases hc : cds[i]? with
    | none =>
      rw [hc] at hR
      cases hR
    | some c =>
      rw [hc] at hR
      cases hR
      refine g_two (tph_tpl rx) o3.1 fun v u rv ru => ?_
      refine wb_if (jt_not (jt_val (je_isi (je_var 4 rfl ru) (je_cls (T.g "Condition")) (fun v G1 H1 _ s => rCd_ty T c v G1 H1 s) (.own _) (kit_cond T c) (T.f "isinstance")))) o3 (fun h G4 H4 s4 o4 => ?_) (fun h G4 H4 s4 o4 => ?_)
      · cases h
      · exact wb_nil (wb_nil ⟨G4, (gg.trans s3.gg).trans s4.gg, o4, (st.trans I.ok s3).trans I.ok s4, _, _, rfl⟩)
  · rintro σ' G' H' gg o' ⟨st, a, b, rfl⟩
    refine wb_ini 0 (I.step st) rfl (T.c "Take") (T.n "Take" "source") (je_v 1) fun G2 H2 I2 => ?_
    refine wb_ini 0 I2 rfl (T.c "Take") (T.n "Take" "conditions") (je_tupleT (je_var 2 rfl (Rl.mono _ _ _ _ I2.gg e2)) (T.f "tuple")) fun G3 H3 I3 => wb_nil (k G3 H3 I3)
def barB (x : Str) : Bool := decide (x.length ≤ 600) && (isSrc x || (["living", "ever"] : List Str).contains x)
theorem barB_of {n : Nat} {s : Str} (hn : n ≤ 2) (h : barOk n s) : barB s = true := by
  unfold barB
  rcases h with h | rfl | rfl
  · obtain ⟨h1, h2⟩ := srcOk_of hn h
    rw [h2, decide_eq_true h1]
    rfl
  · decide +kernel
  · decide +kernel
abbrev spFree (K : PySem.W.Frag) : Sp := spR (cN K "Free") 1 (fun l : List Str => l.all barB = true ∧ l.length ≤ 4) (fun _ => []) (fun l => l.map rS) ["bars"] fun l => [Rl.tp K rS l]
theorem mk_free (T : Tx K mg) : MakR P w K mg base 3 "Free" (cN K "Free") (spFree K) := by
  obtain ⟨fd, F⟩ := T.F_Free_init
  refine makR_pure (ps := ["self"]) (pv := "bars") F (T.k "Free" "Free") (T.g "Free") (fun _ _ _ _ _ _ us rest hl => match us, rest, hl with | [_], [], _ => rfl | [_], _ :: _, _ => rfl) scFree_init ?_
  rintro cdv A outer s0 H0 E l G H y dy vs Q hr ⟨hs, hn⟩ I al k
  obtain ⟨cv, rfl, e2⟩ := AlL.one al
  have e2 : (Rl.tpl K (l.map rS)).p cv G := tph_tpl e2
  refine (wb_if (jt_gt (je_lenT (je_var 1 rfl e2) (T.f "len")) (je_gi (T.i "MOST_BARS" 4))) I.ok (fun h G2 H2 s2 o2 => ?_) (fun h G2 H2 s2 o2 => ?_))
  · have h := decide_eq_true_iff.mp h.symm
    rw [List.length_map] at h
    omega
  refine wb_nil (wb_for (fun i σ' G' H' => Stp none G H G' H' ∧ ∃ a b, σ' = [some (.ref y), some cv, a, b]) PassesOwn.never rfl (pg_two 2 3 rfl scFree_init.nd)
    (ji_enumT (je_var 1 rfl (Rl.mono _ _ _ _ s2.gg e2)) (T.f "enumerate")) o2
    (fun G3 H3 s3 o3 => ⟨s2.trans I.ok s3, _, _, rfl⟩) ?_ ?_)
  · rintro Gc gc i R σ' G' H' x hR gg o' ⟨st, a, b, rfl⟩ G3 H3 s3 o3 rx
    rw [List.getElem?_map, List.getElem?_zipIdx, List.getElem?_map] at hR
    cases hc : l[i]? with
    | none =>
      rw [hc] at hR
      cases hR
    | some c =>
      rw [hc] at hR
      cases hR
      have hb := List.all_eq_true.mp hs c (List.mem_of_getElem? hc)
      unfold barB at hb
      rw [Bool.and_eq_true] at hb
      refine g_two (tph_tpl rx) o3.1 fun v u rv ru => ?_
      cases ru
      refine wb_if (jt_w (jw_and (jt_not (jt_val (je_call c (k_is_source T) (decide_eq_true_iff.mp hb.1) (ja_cons (je_v 3) ja_nil) hr))) fun _ => jw_and1 (jt_niT (l := ["living", "ever"]) (je_v 3) (je_tup (ja_cons je_str (ja_cons je_str ja_nil)))))) o3 (fun h G4 H4 s4 o4 => ?_) (fun h G4 H4 s4 o4 => ?_)
      · have h : true = (!isSrc c && !(["living", "ever"] : List Str).contains c) := h
        rw [← Bool.not_or, hb.2] at h
        cases h
      · exact wb_nil (wb_nil ⟨G4, (gg.trans s3.gg).trans s4.gg, o4, (st.trans I.ok s3).trans I.ok s4, _, _, rfl⟩)
  · rintro σ' G' H' gg o' ⟨st, a, b, rfl⟩
    refine wb_ini 0 (I.step st) rfl (T.c "Free") (T.n "Free" "bars") (je_tupleT (je_var 1 rfl (Rl.mono _ _ _ _ st.gg e2)) (T.f "tuple")) fun G3 H3 I3 => wb_nil (k G3 H3 I3)
/-! ### what clauses answer -/
theorem m_tk_num (T : Tx K mg) (t : Tk) (hn : t.cds.length ≤ 1000) : C8.Met P w K mg base 1 (cN K "Take") "asks_number" (spM (rTk K t) (rB (t.cds.any cdNum))) [] := by
  obtain ⟨f1, F⟩ := T.F_Take_asks_number
  refine met_one F (T.c "Take") (T.m "Take" "asks_number" "Take") (F.bindsN fun _ _ _ _ _ _ us hl => match us, hl with | [_], _ => rfl) scTake_asks_number fun cdv A outer s H0 E G H v Q hr o e k => ?_
  rw [← any_len (E := rCd K)] at k
  refine wb_ret (je_gt (je_lenL (je_lc (ds := t.cds) (D := rCd K) (E := rCd K) (f := cdNum) [("one", 1)] rfl scTake_asks_number.nd (blkOk_by rfl) (fun s H C cl fp => pg_name (i := 1) scTake_asks_number.nd rfl (.inl rfl))
    (ji_tup (je_fld 1 (je_var 0 rfl e) (T.c "Take") (T.n "Take" "conditions"))) (by omega) (lc_name fun x => rfl) ?_ ?_) (T.f "len")) je_int) o k
  · rintro d hd σ2 G1 g1 ⟨x, rfl, rx⟩ s H C cl fp
    exact jts_one (jt_val (je_isi (je_var 1 rfl rx) (je_cls (T.g "Number")) (fun v G1 H1 _ s => rCd_ty T d v G1 H1 s) (.own _) (kit_num T d) (T.f "isinstance")))
  · rintro d hd hf σ2 G1 g1 ⟨x, rfl, rx⟩ s H C cl fp
    exact je_var 1 rfl rx
theorem m_tk_trk (T : Tx K mg) (t : Tk) (hn : t.cds.length ≤ 1000) : C8.Met P w K mg base 2 (cN K "Take") "tracks" (spM (rTk K t) (rB (t.cds.any cdTrk))) [] := by
  obtain ⟨f1, F⟩ := T.F_Take_tracks
  refine met_one F (T.c "Take") (T.m "Take" "tracks" "Take") (F.bindsN fun _ _ _ _ _ _ us hl => match us, hl with | [_], _ => rfl) scTake_tracks fun cdv A outer s H0 E G H v Q hr o e k => ?_
  rw [← any_len (E := rCd K)] at k
  refine wb_ret (je_gt (je_lenL (je_lc (ds := t.cds) (D := rCd K) (E := rCd K) (f := cdTrk) [("one", 1)] rfl scTake_tracks.nd (blkOk_by rfl) (fun s H C cl fp => pg_name (i := 1) scTake_tracks.nd rfl (.inl rfl))
    (ji_tup (je_fld 1 (je_var 0 rfl e) (T.c "Take") (T.n "Take" "conditions"))) (by omega) (lc_name fun x => rfl) ?_ ?_) (T.f "len")) je_int) o k
  · rintro d hd σ2 G1 g1 ⟨x, rfl, rx⟩ s H C cl fp
    exact jts_one (jt_val (je_m1 (m_cd_trk T d) (je_var 1 rfl rx) (rCd_no "tracks" (by decide +kernel) d) hr))
  · rintro d hd hf σ2 G1 g1 ⟨x, rfl, rx⟩ s H C cl fp
    exact je_var 1 rfl rx
theorem m_tk_srcs (T : Tx K mg) (t : Tk) (hn : t.cds.length ≤ 1000) : C8.Met P w K mg base 2 (cN K "Take") "read_sources" (spM (rTk K t) (Rl.tp K rS (clSrcs (.tk t)))) [] := by
  obtain ⟨f1, F⟩ := T.F_Take_read_sources
  refine met_one F (T.c "Take") (T.m "Take" "read_sources" "Take") (F.bindsN fun _ _ _ _ _ _ us hl => match us, hl with | [_], _ => rfl) scTake_read_sources fun cdv A outer s H0 E G H v Q hr o e k => ?_
  refine wb_set 1 scTake_read_sources.nd (je_lst (ja_cons (je_fld 0 (je_var 0 rfl e) (T.c "Take") (T.n "Take" "source")) ja_nil)) o fun v1 G1 H1 s1 o1 r1 => ?_
  refine wb_for (fun i σ' G' H' => Stp none G H G' H' ∧ ∃ v1 x, σ' = [some v, some v1, x] ∧ (Rl.ls rS (t.src :: (t.cds.take i).flatMap cdSrcs)).p v1 G') PassesOwn.never rfl (pg_name (i := 2) scTake_read_sources.nd rfl (.inl rfl))
    (ji_tup (je_fld 1 (je_var 0 rfl (Rl.mono _ _ _ _ s1.gg e)) (T.c "Take") (T.n "Take" "conditions"))) o1 (fun G2 H2 s2 o2 => ⟨s1.trans o s2, v1, _, rfl, Rl.mono _ _ _ _ s2.gg r1⟩) ?_ ?_
  · rintro Gc gc i R σ' G' H' x hR gg o' ⟨st, v1, w1, rfl, r1⟩ G2 H2 s2 o2 rx
    rw [List.getElem?_map] at hR
    cases hc : t.cds[i]? with
    | none =>
      rw [hc] at hR
      cases hR
    | some c =>
      rw [hc] at hR
      cases hR
      refine wb_set 1 scTake_read_sources.nd (je_catL (je_var 1 rfl (Rl.mono _ _ _ _ s2.gg r1)) (je_listT (je_m1 (m_cd_srcs T c) (je_var 2 rfl rx) (rCd_no "read_sources" (by decide +kernel) c) hr) (T.f "list")) ?_) o2 fun v3 G3 H3 s3 o3 r3 => wb_nil ?_
      · have h1 := flat_len cdSrcs_len (t.cds.take i)
        have h2 := cdSrcs_len c
        have h3 : (t.cds.take i).length ≤ 1000 := Nat.le_trans (List.length_take_le' _ _) hn
        rw [List.length_map, List.length_map, List.length_cons]
        omega
      · refine ⟨G3, (gg.trans s2.gg).trans s3.gg, o3, (st.trans o s2).trans o s3, v3, _, rfl, ?_⟩
        rw [List.take_add_one, hc, List.flatMap_append]
        have e : Option.toList (some c) = [c] := rfl
        rw [e, List.flatMap_cons, List.flatMap_nil, List.append_nil, ← List.cons_append]
        unfold Rl.ls
        rw [List.map_append]
        exact r3
  · rintro σ' G' H' gg o' ⟨st, v1, w1, rfl, r1⟩
    rw [List.length_map, List.take_length] at r1
    exact wb_ret (je_tupleL (je_var 1 rfl r1) (T.f "tuple")) o' fun v G4 H4 s4 r => k v G4 H4 (st.trans o s4) r
theorem m_tk_lives (T : Tx K mg) (t : Tk) (hn : t.cds.length ≤ 1000) : C8.Met P w K mg base 2 (cN K "Take") "read_lives" (spM (rTk K t) (Rl.tp K rS (clLives (.tk t)))) [] := by
  obtain ⟨f1, F⟩ := T.F_Take_read_lives
  refine met_one F (T.c "Take") (T.m "Take" "read_lives" "Take") (F.bindsN fun _ _ _ _ _ _ us hl => match us, hl with | [_], _ => rfl) scTake_read_lives fun cdv A outer s H0 E G H v Q hr o e k => ?_
  refine wb_set 1 scTake_read_lives.nd (je_lst ja_nil) o fun v1 G1 H1 s1 o1 r1 => ?_
  refine wb_for (fun i σ' G' H' => Stp none G H G' H' ∧ ∃ v1 x, σ' = [some v, some v1, x] ∧ (Rl.ls rS ((t.cds.take i).flatMap cdLives)).p v1 G') PassesOwn.never rfl (pg_name (i := 2) scTake_read_lives.nd rfl (.inl rfl))
    (ji_tup (je_fld 1 (je_var 0 rfl (Rl.mono _ _ _ _ s1.gg e)) (T.c "Take") (T.n "Take" "conditions"))) o1 (fun G2 H2 s2 o2 => ⟨s1.trans o s2, v1, _, rfl, Rl.mono _ _ _ _ s2.gg r1⟩) ?_ ?_
  · rintro Gc gc i R σ' G' H' x hR gg o' ⟨st, v1, w1, rfl, r1⟩ G2 H2 s2 o2 rx
    rw [List.getElem?_map] at hR
    cases hc : t.cds[i]? with
    | none =>
      rw [hc] at hR
      cases hR
    | some c =>
      rw [hc] at hR
      cases hR
      refine wb_set 1 scTake_read_lives.nd (je_catL (je_var 1 rfl (Rl.mono _ _ _ _ s2.gg r1)) (je_listT (je_m1 (m_cd_lives T c) (je_var 2 rfl rx) (rCd_no "read_lives" (by decide +kernel) c) hr) (T.f "list")) ?_) o2 fun v3 G3 H3 s3 o3 r3 => wb_nil ?_
      · have h1 := flat_len cdLives_len (t.cds.take i)
        have h2 := cdLives_len c
        have h3 : (t.cds.take i).length ≤ 1000 := Nat.le_trans (List.length_take_le' _ _) hn
        rw [List.length_map, List.length_map]
        omega
      · refine ⟨G3, (gg.trans s2.gg).trans s3.gg, o3, (st.trans o s2).trans o s3, v3, _, rfl, ?_⟩
        rw [List.take_add_one, hc, List.flatMap_append]
        have e : Option.toList (some c) = [c] := rfl
        rw [e, List.flatMap_cons, List.flatMap_nil, List.append_nil]
        unfold Rl.ls
        rw [List.map_append]
        exact r3
  · rintro σ' G' H' gg o' ⟨st, v1, w1, rfl, r1⟩
    rw [List.length_map, List.take_length] at r1
    exact wb_ret (je_tupleL (je_var 1 rfl r1) (T.f "tuple")) o' fun v G4 H4 s4 r => k v G4 H4 (st.trans o s4) r
theorem m_fr_trk (T : Tx K mg) (l : List Str) : C8.Met P w K mg base 1 (cN K "Free") "tracks" (spM (rFr K l) (rB (barTrk l))) [] := by
  obtain ⟨f1, F⟩ := T.F_Free_tracks
  refine met_one F (T.c "Free") (T.m "Free" "tracks" "Free") (F.bindsN fun _ _ _ _ _ _ us hl => match us, hl with | [_], _ => rfl) scFree_tracks fun cdv A outer s H0 E G H v Q hr o e k => ?_
  exact wb_ret (je_or (je_inT (l := l) je_str (je_fld 0 (je_var 0 rfl e) (T.c "Free") (T.n "Free" "bars"))) fun _ => je_one (je_inT (l := l) je_str (je_fld 0 (je_var 0 rfl e) (T.c "Free") (T.n "Free" "bars")))) o k
theorem m_fr_srcs (T : Tx K mg) (l : List Str) (hn : l.length ≤ 1000) : C8.Met P w K mg base 1 (cN K "Free") "read_sources" (spM (rFr K l) (Rl.tp K rS (l.filter notMark))) [] := by
  obtain ⟨f1, F⟩ := T.F_Free_read_sources
  refine met_one F (T.c "Free") (T.m "Free" "read_sources" "Free") (F.bindsN fun _ _ _ _ _ _ us hl => match us, hl with | [_], _ => rfl) scFree_read_sources fun cdv A outer s H0 E G H v Q hr o e k => ?_
  refine wb_ret (je_tupleL (je_lc (ds := l) (D := rS) (E := rS) (f := notMark) [("bar", 1)] rfl scFree_read_sources.nd (blkOk_by rfl) (fun s H C cl fp => pg_name (i := 1) scFree_read_sources.nd rfl (.inl rfl))
    (ji_tup (je_fld 0 (je_var 0 rfl e) (T.c "Free") (T.n "Free" "bars"))) (by omega) (lc_name fun x => rfl) ?_ ?_) (T.f "tuple")) o k
  · rintro d hd σ2 G1 g1 ⟨x, rfl, rx⟩ s H C cl fp
    cases rx
    exact jts_one (jt_niT (l := ["living", "ever"]) (je_v 1) (je_tup (ja_cons je_str (ja_cons je_str ja_nil))))
  · rintro d hd hf σ2 G1 g1 ⟨x, rfl, rx⟩ s H C cl fp
    exact je_var 1 rfl rx
theorem m_fr_lives (T : Tx K mg) (l : List Str) : C8.Met P w K mg base 1 (cN K "Free") "read_lives" (spM (rFr K l) (Rl.tp K rS ([] : List Str))) [] := by
  obtain ⟨f1, F⟩ := T.F_Clause_read_lives
  exact met_one F (T.c "Free") (T.m "Free" "read_lives" "Clause") (F.bindsN fun _ _ _ _ _ _ us hl => match us, hl with | [_], _ => rfl) scClause_read_lives fun cdv A outer s H0 E G H v Q hr o e k => wb_ret (je_tup (l := []) ja_nil) o k
end
end Nk
namespace Nk
open PySem PySem.Spec PyProof.Rows L2
section
variable {P : Program} {w : World} {K : PySem.W.Frag} {mg : Str → Option Value} {base : Heap}
theorem tpl_ty {l : List Rl} : ∀ v G1 H1, Same G1 H1 → (Rl.tpl K l).p v G1 → TyX K H1 v (.type "tuple") := by
  rintro v G1 H1 s ⟨p, xs, rfl, hp, _⟩
  rcases Same.tup s hp with (h | ⟨o, h⟩) | ⟨o, its, n, h, hc, _⟩
  · exact .base (.tup h)
  · exact .fTuple h
  · exact .kTuple h hc
theorem lsl_ty {l : List Rl} : ∀ v G1 H1, Same G1 H1 → (Rl.lsl l).p v G1 → TyX K H1 v (.type "list") := by
  rintro v G1 H1 s ⟨p, xs, rfl, hp, _⟩
  exact .base (.lst (s _ _ hp))
theorem kit_lt_list : PySem.W.kitAny K (.type "list") [.type "list", .type "tuple"] = some true :=
  kitAny_cons (b := true) (kit_ty (by decide +kernel)) (fun h => by cases h) fun _ => rfl
theorem kit_lt_tup : PySem.W.kitAny K (.type "tuple") [.type "list", .type "tuple"] = some true :=
  kitAny_cons (b := false) (kit_ty (by decide +kernel)) (fun _ => kitAny_cons (b := true) (r := true) (kit_ty (by decide +kernel)) (fun h => by cases h) fun _ => rfl) fun h => by cases h
section
variable {m : Option Hd} {X : Cx} {a b : Expr} {σ : L2.St} {G : Hp} {p0 p1 p2 p3 pos : Pos} {x1 : Nat} {l : List Rl}
/-- isinstance(a, (list, tuple)) -/
theorem je_lt_list (ha : JE m X a σ G (Rl.lsl l)) (f1 : X.mg "isinstance" = none) (f2 : X.mg "list" = none) (f3 : X.mg "tuple" = none) (hg : Gl X "isinstance" := by rfl) (hg2 : Gl X "list" := by rfl) (hg3 : Gl X "tuple" := by rfl)
    (hs1 : starEach [.Name "list" p2, .Name "tuple" p3] X.env = (false, eval (.Name "list" p2) X.env) :: starEach [.Name "tuple" p3] X.env := by rfl) (hs2 : starEach [.Name "tuple" p3] X.env = (false, eval (.Name "tuple" p3) X.env) :: starEach [] X.env := by rfl)
    (he : starEach [a, .Tuple [.Name "list" p2, .Name "tuple" p3] x1 p1] X.env = (false, eval a X.env) :: starEach [.Tuple [.Name "list" p2, .Name "tuple" p3] x1 p1] X.env := by rfl) (he2 : starEach [.Tuple [.Name "list" p2, .Name "tuple" p3] x1 p1] X.env = (false, eval (.Tuple [.Name "list" p2, .Name "tuple" p3] x1 p1) X.env) :: starEach [] X.env := by rfl) (hpl : (backTo pos (starEach [.Tuple [.Name "list" p2, .Name "tuple" p3] x1 p1] X.env)).any (·.1) = false := by rfl) :
    JE m X (.Call (.Name "isinstance" p0) [a, .Tuple [.Name "list" p2, .Name "tuple" p3] x1 p1] [] pos) σ G (rB true) :=
  je_isiT ha (je_tph (ja_cons (je_ty (T := "list") f2 (by decide +kernel) hg2 (by decide) (by decide)) (ja_cons (je_ty (T := "tuple") f3 (by decide +kernel) hg3 (by decide) (by decide)) ja_nil hs2) hs1)) (fun v G1 H1 _ s => lsl_ty v G1 H1 s) (.ty "list") (.ty "tuple") kit_lt_list f1 hg he he2 hpl
theorem je_lt_tup (ha : JE m X a σ G (Rl.tpl X.K l)) (f1 : X.mg "isinstance" = none) (f2 : X.mg "list" = none) (f3 : X.mg "tuple" = none) (hg : Gl X "isinstance" := by rfl) (hg2 : Gl X "list" := by rfl) (hg3 : Gl X "tuple" := by rfl)
    (hs1 : starEach [.Name "list" p2, .Name "tuple" p3] X.env = (false, eval (.Name "list" p2) X.env) :: starEach [.Name "tuple" p3] X.env := by rfl) (hs2 : starEach [.Name "tuple" p3] X.env = (false, eval (.Name "tuple" p3) X.env) :: starEach [] X.env := by rfl)
    (he : starEach [a, .Tuple [.Name "list" p2, .Name "tuple" p3] x1 p1] X.env = (false, eval a X.env) :: starEach [.Tuple [.Name "list" p2, .Name "tuple" p3] x1 p1] X.env := by rfl) (he2 : starEach [.Tuple [.Name "list" p2, .Name "tuple" p3] x1 p1] X.env = (false, eval (.Tuple [.Name "list" p2, .Name "tuple" p3] x1 p1) X.env) :: starEach [] X.env := by rfl) (hpl : (backTo pos (starEach [.Tuple [.Name "list" p2, .Name "tuple" p3] x1 p1] X.env)).any (·.1) = false := by rfl) :
    JE m X (.Call (.Name "isinstance" p0) [a, .Tuple [.Name "list" p2, .Name "tuple" p3] x1 p1] [] pos) σ G (rB true) :=
  je_isiT ha (je_tph (ja_cons (je_ty (T := "list") f2 (by decide +kernel) hg2 (by decide) (by decide)) (ja_cons (je_ty (T := "tuple") f3 (by decide +kernel) hg3 (by decide) (by decide)) ja_nil hs2) hs1)) (fun v G1 H1 _ s => tpl_ty v G1 H1 s) (.ty "list") (.ty "tuple") kit_lt_tup f1 hg he he2 hpl
end
theorem isWh_nat {j n : Nat} (h : j < n) : isWh (V.int j) 0 ((n : Int) - 1) = true := by
  show (decide ((0 : Int) ≤ (j : Int)) && decide ((j : Int) ≤ (n : Int) - 1)) = true
  rw [decide_eq_true (by omega), decide_eq_true (by omega)] <;> rfl
theorem je_lenLs {α : Type} {D : α → Rl} {ds : List α} {m : Option Hd} {X : Cx} {a : Expr} {σ : L2.St} {G : Hp} {p0 pos : Pos} (ha : JE m X a σ G (Rl.ls D ds)) (hm : X.mg "len" = none) (hg : Gl X "len" := by rfl) (he : starEach [a] X.env = (false, eval a X.env) :: starEach [] X.env := by rfl) (hpl : (backTo pos (starEach [] X.env)).any (·.1) = false := by rfl) : JE m X (.Call (.Name "len" p0) [a] [] pos) σ G (rI ds.length) := by
  have z := je_lenL (p0 := p0) (pos := pos) ha hm hg he hpl
  rw [List.length_map] at z
  exact z
theorem je_lenTs {α : Type} {D : α → Rl} {ds : List α} {m : Option Hd} {X : Cx} {a : Expr} {σ : L2.St} {G : Hp} {p0 pos : Pos} (ha : JE m X a σ G (Rl.tp X.K D ds)) (hm : X.mg "len" = none) (hg : Gl X "len" := by rfl) (he : starEach [a] X.env = (false, eval a X.env) :: starEach [] X.env := by rfl) (hpl : (backTo pos (starEach [] X.env)).any (·.1) = false := by rfl) : JE m X (.Call (.Name "len" p0) [a] [] pos) σ G (rI ds.length) := by
  have z := je_lenT (p0 := p0) (pos := pos) ha hm hg he hpl
  rw [List.length_map] at z
  exact z
theorem jt_flip {m : Option Hd} {X : Cx} {e : Expr} {σ : L2.St} {G : Hp} {p q : Bool} (h : JT m X e σ G (isB p)) (pq : p = q) : JT m X e σ G (isB q) := pq ▸ h
/-! ### the rows of a house -/
abbrev spHrule : Sp := spF (fun d : Hr × Nat => d.1.Ok d.2) (fun d => [rHr K d.1, rI d.2]) fun _ => rB true
theorem k_is_house_rule (T : Tx K mg) : C8.Cal P w K mg base 2 "is_house_rule" (spHrule (K := K)) [] := by
  obtain ⟨fd, F⟩ := T.F_is_house_rule
  refine cal_pure F (T.g "is_house_rule") (F.bindsN fun _ _ _ _ _ _ us hl => match us, hl with | [_, _], _ => rfl) scis_house_rule (fun _ => rfl) ?_
  rintro cdv A outer s0 H0 E ⟨r, n⟩ G H vs Q hr hp o al k
  obtain ⟨tv, _, rfl, e1, e2⟩ := AlL.two al
  cases e2
  cases r with
  | par l j =>
    have hp : (l = "f" ∨ l = "m") ∧ j < n := hp
    have hl3 : (["f", "m", "given"] : List Str).contains l = true := by rcases hp.1 with rfl | rfl <;> decide +kernel
    have hg : (V.str l = V.str "given") → False := by
      rcases hp.1 with rfl | rfl
      · decide +kernel
      · decide +kernel
    have e1 : (Rl.tpl K [rS l, rI j]).p tv G := e1
    refine wb_if (P := isB false) (jt_w (jw_or (p := false) (jt_not (b := true) (jt_val (je_lt_tup (je_var 0 rfl e1) (T.f "isinstance") (T.f "list") (T.f "tuple")))) fun _ => jw_or1 (jt_flip (jt_ne (je_lenT (je_var 0 rfl e1) (T.f "len")) je_int) rfl))) o (fun h G1 H1 s1 o1 => by cases h) (fun h G1 H1 s1 o1 => ?_)
    refine wb_nil (wb_if (P := isB false) (jt_w (jw_or (p := false) (jt_not (b := true) (jt_val (je_isiS (je_ixT (je_var 0 rfl (Rl.mono _ _ _ _ s1.gg e1)) je_int) (je_ty (T := "str") (T.f "str") (by decide +kernel)) (by decide +kernel) (T.f "isinstance")))) fun _ => jw_or1 (jt_flip (jt_niT (l := ["f", "m", "given"]) (je_ixT (je_var 0 rfl (Rl.mono _ _ _ _ s1.gg e1)) je_int) (je_tup (ja_cons je_str (ja_cons je_str (ja_cons je_str ja_nil))))) (by rw [hl3] <;> rfl)))) o1 (fun h G2 H2 s2 o2 => by cases h) (fun h G2 H2 s2 o2 => ?_))
    have e12 := Rl.mono _ _ _ _ (s1.gg.trans s2.gg) e1
    refine wb_nil (wb_if (P := isB false) (jt_flip (jt_eq (je_ixT (je_var 0 rfl e12) je_int) je_str) (decide_eq_false hg)) o2 (fun h G3 H3 s3 o3 => by cases h) (fun h G3 H3 s3 o3 => ?_))
    refine wb_nil (wb_ret (je_call (V.int j, 0, (n : Int) - 1) (k_is_whole T) trivial (ja_cons (je_ixT (je_var 0 rfl (Rl.mono _ _ _ _ s3.gg e12)) je_int) (ja_cons je_int (ja_cons (je_sub (je_v 1) je_int) ja_nil))) hr) o3 fun v G4 H4 s4 r => k v G4 H4 (((s1.trans o s2).trans o s3).trans o s4) ?_)
    have e := isWh_nat hp.2
    rw [e] at r
    exact r
  | giv x =>
    have hp : x = "f" ∨ x = "m" := hp
    have hl2 : (["f", "m"] : List Str).contains x = true := by rcases hp with rfl | rfl <;> decide +kernel
    have e1 : (Rl.tpl K [rS "given", rS x]).p tv G := e1
    refine wb_if (P := isB false) (jt_w (jw_or (p := false) (jt_not (b := true) (jt_val (je_lt_tup (je_var 0 rfl e1) (T.f "isinstance") (T.f "list") (T.f "tuple")))) fun _ => jw_or1 (jt_flip (jt_ne (je_lenT (je_var 0 rfl e1) (T.f "len")) je_int) rfl))) o (fun h G1 H1 s1 o1 => by cases h) (fun h G1 H1 s1 o1 => ?_)
    refine wb_nil (wb_if (P := isB false) (jt_w (jw_or (p := false) (jt_not (b := true) (jt_val (je_isiS (je_ixT (je_var 0 rfl (Rl.mono _ _ _ _ s1.gg e1)) je_int) (je_ty (T := "str") (T.f "str") (by decide +kernel)) (by decide +kernel) (T.f "isinstance")))) fun _ => jw_or1 (jt_flip (jt_niT (l := ["f", "m", "given"]) (je_ixT (je_var 0 rfl (Rl.mono _ _ _ _ s1.gg e1)) je_int) (je_tup (ja_cons je_str (ja_cons je_str (ja_cons je_str ja_nil))))) (by decide +kernel)))) o1 (fun h G2 H2 s2 o2 => by cases h) (fun h G2 H2 s2 o2 => ?_))
    have e12 := Rl.mono _ _ _ _ (s1.gg.trans s2.gg) e1
    refine wb_nil (wb_if (P := isB true) (jt_flip (jt_eq (je_ixT (je_var 0 rfl e12) je_int) je_str) (by decide +kernel)) o2 (fun h G3 H3 s3 o3 => ?_) (fun h G3 H3 s3 o3 => by cases h))
    refine wb_ret (je_and (p := true) (je_isiS (je_ixT (je_var 0 rfl (Rl.mono _ _ _ _ s3.gg e12)) je_int) (je_ty (T := "str") (T.f "str") (by decide +kernel)) (by decide +kernel) (T.f "isinstance")) fun _ => je_one (je_inT (l := ["f", "m"]) (je_ixT (je_var 0 rfl (Rl.mono _ _ _ _ s3.gg e12)) je_int) (je_tup (ja_cons je_str (ja_cons je_str ja_nil))))) o3 fun v G4 H4 s4 r => k v G4 H4 (((s1.trans o s2).trans o s3).trans o s4) ?_
    rw [hl2] at r
    exact r
abbrev spHouse : Sp := spF (fun l : List Hr => l.length ≤ 2 ∧ ∀ r ∈ l, r.Ok l.length) (fun l => [Rl.ls (rHr K) l]) fun _ => Rl.eq .non
theorem k_check_house (T : Tx K mg) : C8.Cal P w K mg base 3 "check_house" (spHouse (K := K)) [] := by
  obtain ⟨fd, F⟩ := T.F_check_house
  refine cal_pure F (T.g "check_house") (F.bindsN fun _ _ _ _ _ _ us hl => match us, hl with | [_], _ => rfl) sccheck_house (fun _ => rfl) ?_
  rintro cdv A outer s0 H0 E l G H vs Q hr ⟨hn, hp⟩ o al k
  obtain ⟨tv, rfl, e1⟩ := AlL.one al
  refine wb_if (P := isB false) (jt_w (jw_or (p := false) (jt_not (b := true) (jt_val (je_lt_list (je_var 0 rfl e1) (T.f "isinstance") (T.f "list") (T.f "tuple")))) fun _ => jw_or1 (jt_flip (jt_gt (je_lenL (je_var 0 rfl e1) (T.f "len")) (je_gi (T.i "MOST_WIDTH" 2))) (decide_eq_false (by rw [List.length_map]; omega))))) o (fun h G1 H1 s1 o1 => by cases h) (fun h G1 H1 s1 o1 => ?_)
  refine wb_nil (wb_for (fun i σ' G' H' => Stp none G H G' H' ∧ ∃ a b, σ' = [some tv, a, b]) PassesOwn.never rfl (pg_two 1 2 rfl sccheck_house.nd)
    (ji_enum (je_var 0 rfl (Rl.mono _ _ _ _ s1.gg e1)) (T.f "enumerate")) o1 (fun G3 H3 s3 o3 => ⟨s1.trans o s3, _, _, rfl⟩) ?_ ?_)
  · rintro Gc gc i R σ' G' H' x hR gg o' ⟨st, a, b, rfl⟩ G3 H3 s3 o3 rx
    rw [List.getElem?_map, List.getElem?_zipIdx, List.getElem?_map] at hR
    cases hc : l[i]? with
    | none =>
      rw [hc] at hR
      cases hR
    | some c =>
      rw [hc] at hR
      cases hR
      have hg3 := (st.trans o s3).gg
      refine g_two (tph_tpl rx) o3.1 fun v u rv ru => ?_
      refine wb_if (P := isB false) (jt_not (b := true) (jt_val (je_call (c, l.length) (k_is_house_rule T) (hp c (List.mem_of_getElem? hc)) (ja_cons (je_var 2 rfl ru) (ja_cons (je_lenLs (je_var 0 rfl (Rl.mono _ _ _ _ hg3 e1)) (T.f "len")) ja_nil)) hr))) o3 (fun h G4 H4 s4 o4 => by cases h) (fun h G4 H4 s4 o4 => ?_)
      exact wb_nil (wb_nil ⟨G4, (gg.trans s3.gg).trans s4.gg, o4, (st.trans o s3).trans o s4, _, _, rfl⟩)
  · rintro σ' G' H' gg o' ⟨st, a, b, rfl⟩
    exact wb_nil (k .non G' H' st rfl)
/-! ### the weddings -/
abbrev spWed : Sp := spF (fun d : Str × List Wr × Nat => d.2.1.length = d.2.2 ∧ ∀ r ∈ d.2.1, r.Ok d.2.2) (fun d => [rS d.1, Rl.ls rWr d.2.1, rI d.2.2]) fun d => Rl.tp K rWr d.2.1
theorem k_checked_wedding (T : Tx K mg) : C8.Cal P w K mg base 2 "checked_wedding" (spWed (K := K)) [] := by
  obtain ⟨fd, F⟩ := T.F_checked_wedding
  refine cal_pure F (T.g "checked_wedding") (F.bindsN fun _ _ _ _ _ _ us hl => match us, hl with | [_, _, _], _ => rfl) scchecked_wedding (fun _ => rfl) ?_
  rintro cdv A outer s0 H0 E ⟨kd, l, n⟩ G H vs Q hr ⟨hn, hp⟩ o al k
  have hn : l.length = n := hn
  cases al with
  | cons e0 al =>
  obtain ⟨_, _, rfl, e1, e2⟩ := AlL.two al
  cases e0; cases e2
  obtain ⟨p, xs, rfl, hP, al⟩ := e1
  have e1 : (Rl.ls rWr l).p (.ref p) G := ⟨p, xs, rfl, hP, al⟩
  refine wb_if (P := isB false) (jt_flip (jt_isN (je_v 1)) (decide_eq_false fun h => by cases h)) o (fun h G1 H1 s1 o1 => by cases h) (fun h G1 H1 s1 o1 => ?_)
  refine wb_nil (wb_if (P := isB false) (jt_w (jw_or (p := false) (jt_not (b := true) (jt_val (je_lt_list (je_var 1 rfl (Rl.mono _ _ _ _ s1.gg e1)) (T.f "isinstance") (T.f "list") (T.f "tuple")))) fun _ => jw_or1 (jt_flip (jt_ne (je_lenL (je_var 1 rfl (Rl.mono _ _ _ _ s1.gg e1)) (T.f "len")) (je_v 2)) (by rw [List.length_map, hn, decide_eq_true rfl] <;> rfl)))) o1 (fun h G2 H2 s2 o2 => by cases h) (fun h G2 H2 s2 o2 => ?_))
  refine wb_nil (wb_for (fun i σ' G' H' => Stp none G H G' H' ∧ ∃ a b, σ' = [some (.str kd), some (.ref p), some (.int n), a, b]) PassesOwn.never rfl (pg_two 3 4 rfl scchecked_wedding.nd)
    (ji_enum (je_var 1 rfl (Rl.mono _ _ _ _ (s1.gg.trans s2.gg) e1)) (T.f "enumerate")) o2 (fun G3 H3 s3 o3 => ⟨(s1.trans o s2).trans o s3, _, _, rfl⟩) ?_ ?_)
  · rintro Gc gc i R σ' G' H' x hR gg o' ⟨st, a, b, rfl⟩ G3 H3 s3 o3 rx
    rw [List.getElem?_map, List.getElem?_zipIdx, List.getElem?_map] at hR
    cases hc : l[i]? with
    | none =>
      rw [hc] at hR
      cases hR
    | some c =>
      rw [hc] at hR
      cases hR
      have hok := hp c (List.mem_of_getElem? hc)
      refine g_two (tph_tpl rx) o3.1 fun v u rv ru => ?_
      cases c with
      | own =>
        cases ru
        refine wb_if (P := isB false) (jt_w (jw_and (p := true) (q := false) (jt_not (b := false) (jt_val (je_call (V.str "own", 0, (n : Int) - 1) (k_is_whole T) trivial (ja_cons (je_v 4) (ja_cons je_int (ja_cons (je_sub (je_v 2) je_int) ja_nil))) hr))) fun _ => jw_and1 (jt_flip (jt_ne (je_v 4) je_str) (by decide +kernel)))) o3 (fun h G4 H4 s4 o4 => by cases h) (fun h G4 H4 s4 o4 => ?_)
        exact wb_nil (wb_nil ⟨G4, (gg.trans s3.gg).trans s4.gg, o4, (st.trans o s3).trans o s4, _, _, rfl⟩)
      | mate j =>
        cases ru
        have hj : j < n := hok
        have e := isWh_nat hj
        refine wb_if (P := isB false) (jt_w (jw_and (p := false) (q := false) (jt_flip (jt_not (jt_val (je_call (V.int j, 0, (n : Int) - 1) (k_is_whole T) trivial (ja_cons (je_v 4) (ja_cons je_int (ja_cons (je_sub (je_v 2) je_int) ja_nil))) hr))) (by show (!isWh (V.int j) 0 ((n : Int) - 1)) = false; rw [e] <;> rfl)) fun h => by cases h)) o3 (fun h G4 H4 s4 o4 => by cases h) (fun h G4 H4 s4 o4 => ?_)
        exact wb_nil (wb_nil ⟨G4, (gg.trans s3.gg).trans s4.gg, o4, (st.trans o s3).trans o s4, _, _, rfl⟩)
  · rintro σ' G' H' gg o' ⟨st, a, b, rfl⟩
    exact wb_ret (je_tupleL (je_var 1 rfl (Rl.mono _ _ _ _ st.gg e1)) (T.f "tuple")) o' fun v G4 H4 s4 r => k v G4 H4 (st.trans o s4) r
end
end Nk
namespace Nk
open PySem PySem.Spec PyProof.Rows L2
def isFr : Cl → Bool
  | .fr _ => true
  | .tk _ => false
def clC : Cl → Str
  | .tk _ => "Take"
  | .fr _ => "Free"
section
variable {P : Program} {w : World} {K : PySem.W.Frag} {mg : Str → Option Value} {base : Heap}
theorem rCl_ty (T : Tx K mg) (c : Cl) : ∀ v G1 H1, Same G1 H1 → (rCl K c).p v G1 → TyX K H1 v (.ref (cN K (clC c))) := by
  have z : ∀ (x : Str) ns Rs, clsL.contains x = true → ∀ v G1 H1, Same G1 H1 → (Rl.obj (cN K x) ns Rs).p v G1 → TyX K H1 v (.ref (cN K x)) := by
    rintro x ns Rs hx v G1 H1 s ⟨a, dx, fs, rfl, h, _⟩
    exact T.ty x (s _ _ h) hx
  cases c with
  | tk t => exact z _ _ _ (by decide +kernel)
  | fr l => exact z _ _ _ (by decide +kernel)
theorem kit_free (T : Tx K mg) (c : Cl) : PySem.W.kitOne K (.ref (cN K (clC c))) (.ref (cN K "Free")) = some (isFr c) := by
  cases c with
  | tk t => exact T.is "Take" "Free" false
  | fr l => exact T.is "Free" "Free" true
theorem kit_tf (T : Tx K mg) (c : Cl) : PySem.W.kitAny K (.ref (cN K (clC c))) [.ref (cN K "Take"), .ref (cN K "Free")] = some true := by
  cases c with
  | tk t => exact kitAny_cons (b := true) (T.is "Take" "Take" true) (fun h => by cases h) fun _ => rfl
  | fr l => exact kitAny_cons (b := false) (T.is "Free" "Take" false) (fun _ => kitAny_cons (b := true) (r := true) (T.is "Free" "Free" true) (fun h => by cases h) fun _ => rfl) fun h => by cases h
theorem cls_last {k : Kl} {i : Nat} {c : Cl} (h : k.cls[i]? = some c) : isFr c = decide (V.int (i : Int) = V.int (((k.cls.length : Nat) : Int) - 1)) := by
  rw [Kl.len]
  unfold Kl.cls at h
  by_cases hi : i < k.tks.length
  · rw [List.getElem?_append_left (by rw [List.length_map]; exact hi), List.getElem?_map] at h
    have e : k.tks[i]? = some k.tks[i] := List.getElem?_eq_getElem hi
    rw [e] at h
    cases h
    symm
    exact decide_eq_false fun z => by
      have z := V.int.inj z
      omega
  · rw [List.getElem?_append_right (by rw [List.length_map]; omega)] at h
    rw [List.length_map] at h
    obtain ⟨h1, _⟩ := List.getElem?_eq_some_iff.mp h
    have e : i = k.tks.length := by
      rw [List.length_singleton] at h1
      omega
    subst e
    rw [Nat.sub_self] at h
    cases h
    symm
    refine decide_eq_true ?_
    congr 1
    omega
abbrev spClauses : Sp := spF (fun d : Str × Kl => d.2.tks.length ≤ 4) (fun d => [rS d.1, Rl.ls (rCl K) d.2.cls]) fun _ => Rl.eq .non
theorem k_check_clauses (T : Tx K mg) : C8.Cal P w K mg base 1 "check_clauses" (spClauses (K := K)) [] := by
  obtain ⟨fd, F⟩ := T.F_check_clauses
  refine cal_pure F (T.g "check_clauses") (F.bindsN fun _ _ _ _ _ _ us hl => match us, hl with | [_, _], _ => rfl) sccheck_clauses (fun _ => rfl) ?_
  rintro cdv A outer s0 H0 E ⟨kd, kl⟩ G H vs Q hr hn o al k
  have hn : kl.tks.length ≤ 4 := hn
  obtain ⟨_, tv, rfl, e0, e1⟩ := AlL.two al
  cases e0
  have e1 : (Rl.ls (rCl K) kl.cls).p tv G := e1
  have hl := Kl.len kl
  refine wb_if (P := isB false) (jt_w (jw_or (p := false) (jt_not (b := true) (jt_val (je_lt_list (je_var 1 rfl e1) (T.f "isinstance") (T.f "list") (T.f "tuple")))) fun _ => jw_or1 (jt_flip (jt_not (jt_chain je_int (je_lenLs (je_var 1 rfl e1) (T.f "len")) (je_add (je_gi (T.i "MOST_TAKES" 4)) je_int))) (by rw [decide_eq_true (by omega), decide_eq_true (by omega)] <;> rfl)))) o (fun h G1 H1 s1 o1 => by cases h) (fun h G1 H1 s1 o1 => ?_)
  refine wb_nil (wb_set 2 sccheck_clauses.nd (je_sub (je_lenLs (je_var 1 rfl (Rl.mono _ _ _ _ s1.gg e1)) (T.f "len")) je_int) o1 fun v2 G2 H2 s2 o2 r2 => ?_)
  cases r2
  refine wb_for (fun i σ' G' H' => Stp none G H G' H' ∧ ∃ a b, σ' = [some (.str kd), some tv, some (.int ((kl.cls.length : Nat) - 1)), a, b]) PassesOwn.never rfl (pg_two 3 4 rfl sccheck_clauses.nd)
    (ji_enum (je_var 1 rfl (Rl.mono _ _ _ _ (s1.gg.trans s2.gg) e1)) (T.f "enumerate")) o2 (fun G3 H3 s3 o3 => ⟨(s1.trans o s2).trans o s3, _, _, rfl⟩) ?_ ?_
  · rintro Gc gc i R σ' G' H' x hR gg o' ⟨st, a, b, rfl⟩ G3 H3 s3 o3 rx
    rw [List.getElem?_map, List.getElem?_zipIdx, List.getElem?_map] at hR
    cases hc : kl.cls[i]? with
    | none =>
      rw [hc] at hR
      cases hR
    | some c =>
      rw [hc] at hR
      cases hR
      refine g_two (tph_tpl rx) o3.1 fun v u rv ru => ?_
      have rv : v = .int ((0 + i : Nat) : Int) := rv
      rw [Nat.zero_add] at rv
      subst rv
      refine wb_if (P := isB false) (jt_not (b := true) (jt_val (je_isiT (je_var 4 rfl ru) (je_tph (ja_cons (je_cls (T.g "Take")) (ja_cons (je_cls (T.g "Free")) ja_nil))) (fun v G1 H1 _ s => rCl_ty T c v G1 H1 s) (.own _) (.own _) (kit_tf T c) (T.f "isinstance")))) o3 (fun h G4 H4 s4 o4 => by cases h) (fun h G4 H4 s4 o4 => ?_)
      refine wb_nil (wb_if (P := isB false) (jt_flip (jt_ne (je_isi (je_var 4 rfl (Rl.mono _ _ _ _ s4.gg ru)) (je_cls (T.g "Free")) (fun v G1 H1 _ s => rCl_ty T c v G1 H1 s) (.own _) (kit_free T c) (T.f "isinstance")) (je_eq (je_v 3) (je_v 2))) (by rw [cls_last hc, decide_eq_true rfl] <;> rfl)) o4 (fun h G5 H5 s5 o5 => by cases h) (fun h G5 H5 s5 o5 => ?_))
      exact wb_nil (wb_nil ⟨G5, ((gg.trans s3.gg).trans s4.gg).trans s5.gg, o5, ((st.trans o s3).trans o s4).trans o s5, _, _, rfl⟩)
  · rintro σ' G' H' gg o' ⟨st, a, b, rfl⟩
    exact wb_nil (k .non G' H' st rfl)
theorem rCl_no (mn : Str) (h : (["source", "conditions", "bars"] : List Str).all (fun k => !(mn == k)) = true) (c : Cl) : ∀ v G1, (rCl K c).p v G1 → ∃ a dx fs, v = .ref a ∧ G1 a = some (.ins (cN K (clC c)) dx fs) ∧ fs.lookup mn = none := by
  have h1 := List.all_eq_true.mp h
  have z : ∀ k ∈ (["source", "conditions", "bars"] : List Str), (mn == k) = false := fun k hk => bT (h1 k hk).symm
  have z1 := z "source" (by decide +kernel)
  have z2 := z "conditions" (by decide +kernel)
  have z3 := z "bars" (by decide +kernel)
  cases c with
  | tk t => exact obj_no (by simp [List.findIdx?_cons, z1, z2])
  | fr l => exact obj_no (by simp [List.findIdx?_cons, z3])
def clSmall : Cl → Prop
  | .tk t => t.cds.length ≤ 4
  | .fr l => l.length ≤ 4
theorem m_cl_srcs (T : Tx K mg) (c : Cl) (hn : clSmall c) : C8.Met P w K mg base 2 (cN K (clC c)) "read_sources" (spM (rCl K c) (Rl.tp K rS (clSrcs c))) [] := by
  cases c with
  | tk t => exact m_tk_srcs T t (Nat.le_trans (show t.cds.length ≤ 4 from hn) (by decide))
  | fr l =>
    obtain ⟨f, fd, ps, ds, a1, a2, a3, a4, a5⟩ := (m_fr_srcs (P := P) (w := w) (base := base) T l (Nat.le_trans (show l.length ≤ 4 from hn) (by decide))).ex
    exact ⟨f, fd, ps, ds, a1, a2, a3.mono (by decide), a4, a5⟩
theorem m_cl_lives (T : Tx K mg) (c : Cl) (hn : clSmall c) : C8.Met P w K mg base 2 (cN K (clC c)) "read_lives" (spM (rCl K c) (Rl.tp K rS (clLives c))) [] := by
  cases c with
  | tk t => exact m_tk_lives T t (Nat.le_trans (show t.cds.length ≤ 4 from hn) (by decide))
  | fr l =>
    obtain ⟨f, fd, ps, ds, a1, a2, a3, a4, a5⟩ := (m_fr_lives (P := P) (w := w) (base := base) T l).ex
    exact ⟨f, fd, ps, ds, a1, a2, a3.mono (by decide), a4, a5⟩
def srcG (n : Nat) (s : Str) : Bool := hpOk s && (match hpl s with
  | some j => decide (j < n)
  | none => true)
theorem srcG_all : ∀ n ≤ 2, (srcsL n).all (srcG n) = true := by decide +kernel
theorem clSrcs_ok {n : Nat} {c : Cl} (hn : n ≤ 2) (h : c.Ok n) : clSmall c ∧ ∀ s ∈ clSrcs c, s ∈ srcsL n := by
  cases c with
  | tk t =>
    refine ⟨h.2.1, fun s hs => ?_⟩
    rcases List.mem_cons.mp hs with rfl | hs
    · exact h.1
    · obtain ⟨cd, hc, hs⟩ := List.mem_flatMap.mp hs
      have hk := h.2.2 cd hc
      cases cd with
      | unlike a b =>
        rcases List.mem_cons.mp hs with rfl | hs
        · exact hk.1
        · rw [List.mem_singleton.mp hs]
          exact hk.2
      | _ => cases hs
  | fr l =>
    refine ⟨h.1, fun s hs => ?_⟩
    obtain ⟨h1, h2⟩ := List.mem_filter.mp hs
    rcases h.2 s h1 with q | rfl | rfl
    · exact q
    · exact absurd h2 (by decide +kernel)
    · exact absurd h2 (by decide +kernel)
theorem clSrcs_g {n : Nat} {c : Cl} (hn : n ≤ 2) (h : c.Ok n) : clSmall c ∧ ∀ s ∈ clSrcs c, srcG n s = true :=
  ⟨(clSrcs_ok hn h).1, fun s hs => List.all_eq_true.mp (srcG_all n hn) s ((clSrcs_ok hn h).2 s hs)⟩
abbrev spChk : Sp := spF (fun d : Str × Kl × Nat => ∀ c ∈ d.2.1.cls, clSmall c ∧ ∀ s ∈ clSrcs c, srcG d.2.2 s = true) (fun d => [rS d.1, Rl.ls (rCl K) d.2.1.cls, rI d.2.2]) fun _ => Rl.eq .non
theorem k_check_sources (T : Tx K mg) : C8.Cal P w K mg base 3 "check_sources" (spChk (K := K)) [] := by
  obtain ⟨fd, F⟩ := T.F_check_sources
  refine cal_pure F (T.g "check_sources") (F.bindsN fun _ _ _ _ _ _ us hl => match us, hl with | [_, _, _], _ => rfl) sccheck_sources (fun _ => rfl) ?_
  rintro cdv A outer s0 H0 E ⟨kd, kl, n⟩ G H vs Q hr hp o al k
  have hp : ∀ c ∈ kl.cls, clSmall c ∧ ∀ s ∈ clSrcs c, srcG n s = true := hp
  cases al with
  | cons e0 al =>
  obtain ⟨tv, _, rfl, e1, e2⟩ := AlL.two al
  cases e0; cases e2
  have e1 : (Rl.ls (rCl K) kl.cls).p tv G := e1
  refine wb_for (fun i σ' G' H' => Stp none G H G' H' ∧ ∃ a b c d, σ' = [some (.str kd), some tv, some (.int n), a, b, c, d]) PassesOwn.never rfl (pg_two 3 4 rfl sccheck_sources.nd)
    (ji_enum (je_var 1 rfl e1) (T.f "enumerate")) o (fun G3 H3 s3 o3 => ⟨s3, _, _, _, _, rfl⟩) ?_ ?_
  · rintro Gc gc i R σ' G' H' x hR gg o' ⟨st, a, b, c0, d0, rfl⟩ G3 H3 s3 o3 rx
    rw [List.getElem?_map, List.getElem?_zipIdx, List.getElem?_map] at hR
    cases hc : kl.cls[i]? with
    | none =>
      rw [hc] at hR
      cases hR
    | some c =>
      rw [hc] at hR
      cases hR
      obtain ⟨hsm, hg⟩ := hp c (List.mem_of_getElem? hc)
      refine g_two (tph_tpl rx) o3.1 fun v u rv ru => ?_
      refine wb_for (fun i σ' G' H' => Stp none G H G' H' ∧ Same Gc G' ∧ ∃ a b c d, σ' = [some (.str kd), some tv, some (.int n), a, b, c, d]) PassesOwn.never rfl (pg_name (i := 5) sccheck_sources.nd rfl (.inl rfl))
        (ji_tup (je_m1 (m_cl_srcs T c hsm) (je_var 4 rfl ru) (rCl_no "read_sources" (by decide +kernel) c) hr)) o3 (fun G4 H4 s4 o4 => ⟨(st.trans o s3).trans o s4, (gg.trans s3.gg).trans s4.gg, _, _, _, _, rfl⟩) ?_ ?_
      · rintro Gd gd i2 R2 σ2 G5 H5 x2 hR2 gg2 o5 ⟨st2, gg3, a2, b2, c2, d2, rfl⟩ G6 H6 s6 o6 rx2
        rw [List.getElem?_map] at hR2
        cases hs : (clSrcs c)[i2]? with
        | none =>
          rw [hs] at hR2
          cases hR2
        | some src =>
          rw [hs] at hR2
          cases hR2
          cases rx2
          have hG := hg src (List.mem_of_getElem? hs)
          unfold srcG at hG
          rw [Bool.and_eq_true] at hG
          refine wb_set 6 sccheck_sources.nd (je_call src (k_house_place T) hG.1 (ja_cons (je_v 5) ja_nil) hr) o6 fun v7 G7 H7 s7 o7 r7 => ?_
          cases r7
          have fin : ∀ {X : Cx} {D : Ends} {rest : List Stmt} {th : List Stmt} {cnd : Expr} {p : Pos} {σ9 : L2.St} {G9 H9 : Hp}, JT none X cnd σ9 G9 (isB false) → Okm none G9 H9 → (∀ G10 H10, Stp none G9 H9 G10 H10 → Okm none G10 H10 → WB X rest D σ9 H10) → WB X (.If cnd th [] p :: rest) D σ9 H9 := fun h o9 k9 =>
            wb_if h o9 (fun q => by cases q) fun _ G10 H10 s10 o10 => wb_nil (k9 G10 H10 s10 o10)
          have done : ∀ G10 H10, Stp none G7 H7 G10 H10 → Okm none G10 H10 → Nx none Gd (fun σ' G' H' => Stp none G H G' H' ∧ Same Gc G' ∧ ∃ a b c d, σ' = [some (.str kd), some tv, some (.int n), a, b, c, d]) [some (.str kd), some tv, some (.int n), a2, b2, some (.str src), some (hplV src)] H10 := fun G10 H10 s10 o10 =>
            ⟨G10, ((gg2.trans s6.gg).trans s7.gg).trans s10.gg, o10, ((st2.trans o s6).trans o s7).trans o s10, ((gg3.trans s6.gg).trans s7.gg).trans s10.gg, _, _, _, _, rfl⟩
          cases q : hpl src with
          | none =>
            have e : hplV src = .non := by
              unfold hplV
              rw [q]
            rw [e] at done ⊢
            exact fin (jt_w (jw_and (p := false) (q := true) (jt_flip (jt_notN (je_v 6)) (by rw [decide_eq_true rfl] <;> rfl)) fun h => by cases h)) o7 fun G10 H10 s10 o10 => wb_nil (done G10 H10 s10 o10)
          | some j =>
            have e : hplV src = .int j := by
              unfold hplV
              rw [q]
            rw [q] at hG
            have hj : j < n := decide_eq_true_iff.mp hG.2
            rw [e] at done ⊢
            exact fin (jt_w (jw_and (p := true) (q := false) (jt_flip (jt_notN (je_v 6)) (by rw [decide_eq_false (fun h => by cases h)] <;> rfl)) fun _ => jw_and1 (jt_flip (jt_ge (je_v 6) (je_v 2)) (decide_eq_false (by omega))))) o7 fun G10 H10 s10 o10 => wb_nil (done G10 H10 s10 o10)
      · rintro σ' G8 H8 gg8 o8 ⟨st8, gg9, a8, b8, c8, d8, rfl⟩
        exact wb_nil ⟨G8, gg9, o8, st8, _, _, _, _, rfl⟩
  · rintro σ' G' H' gg o' ⟨st, a, b, c, d, rfl⟩
    exact wb_nil (k .non G' H' st rfl)
end
end Nk
namespace Nk
open PySem PySem.Spec PyProof.Rows L2
/-! ### keywords -/
def cK (X : Cx) (kws : List Keyword) : TA := fun σ H Q => ∀ (pos : Pos) (pins : List (Addr × Obj)) (s : Shared), Inv X pins σ H s → wpAny (model X.prog X.w) X.A (evalAll ((backToKw pos (keywordEach kws X.env)).map (·.2))) (AP X pins σ Q) X.xe s
theorem pK {X : Cx} {kws : List Keyword} : PK X kws (cK X kws) := ⟨fun pos pins s σ H Q I h => h pos pins s I⟩
theorem kP {X : Cx} {kws : List Keyword} {t : TA} (h : PK X kws t) {σ : L2.St} {H : Hp} {Q : List V → Hp → Prop} (q : t σ H Q) : cK X kws σ H Q := fun pos pins s I => h.run pos pins s σ H Q I q
def JK (m : Option Hd) (X : Cx) (kws : List Keyword) (σ : L2.St) (G : Hp) (l : List Rl) : Prop :=
  ∀ (G1 H : Hp), Same G G1 → Okm m G1 H → ∀ Q : List V → Hp → Prop, (∀ vs G' H', Stp m G1 H G' H' → AlL l vs G' → Q vs H') → cK X kws σ H Q
section
variable {m : Option Hd} {X : Cx} {e : Expr} {es : List Expr} {kws : List Keyword} {σ : L2.St} {G H : Hp} {R : Rl} {l l2 : List Rl} {nm : Option Str} {kp p0 pos : Pos} {rest : List Stmt} {D : Ends} {x : Str}
theorem jk_nil : JK m X [] σ G [] := fun G1 H z o Q k => kP pk_nil (k [] G1 H (.refl o) .nil)
theorem jk_cons (h : JE m X e σ G R) (hr : JK m X kws σ G l) : JK m X (⟨nm, e, kp⟩ :: kws) σ G (R :: l) := fun G1 H z o Q k =>
  kP (pk_cons pE pK) (h G1 H z o _ fun x G2 H2 s2 r2 => hr G2 H2 (z.trans s2.gg) (s2.okm o) _ fun vs G3 H3 s3 r3 => k _ G3 H3 (s2.trans o s3) (.cons (R.mono _ _ _ s3.gg r2) r3))
/-- [elt for x in it] -/
theorem je_lcA {α : Type} {ds : List α} {D E : α → Rl} {T : α → L2.St → Hp → Prop} {elt iter tg : Expr} {scope : Scope} {g : TG} (own : List (Str × Nat)) (hc : X.calm = true) (hN : X.N.Nodup) (ok : BlkOk X.N X.env.scope scope own)
    (hpg : ∀ (s : Shared) (H : Hp) (C : Addr) (cl : List (Str × Addr)) (fp : List Addr), PG (Bk X scope s H C cl fp) tg g)
    (hi : JI m X tg iter σ G (ds.map D)) (hn : ds.length ≤ 100000)
    (hg : ∀ d ∈ ds, ∀ x G1 H1, Same G G1 → Same G1 H1 → (D d).p x G1 → ∀ Kp : L2.St → Hp → Prop, (∀ σ2, wipe σ2 (own.map (·.2)) = wipe σ (own.map (·.2)) → T d σ2 G1 → Kp σ2 H1) → g x (wipe σ (own.map (·.2))) H1 Kp)
    (he : ∀ d ∈ ds, ∀ σ2 G1, Same G G1 → T d σ2 G1 → ∀ s H C cl fp, JE m (Bk X scope s H C cl fp) elt σ2 G1 (E d))
    (hs : ∀ x, foldedSetIterable iter X.env x = pure x := by intro _; rfl) : JE m X (.ListComp elt [⟨tg, iter, [], 0⟩] scope pos) σ G (Rl.ls E ds) := by
  have z := je_lc (pos := pos) (f := fun _ => true) own hc hN ok hpg hi hn hg (fun d hd σ2 G1 g1 _ s H C cl fp => jts_nil) (fun d hd _ => he d hd) hs
  rw [List.filter_eq_self.mpr fun _ _ => rfl] at z
  exact z
/-- an expression as a statement -/
theorem wb_expr (h : JE m X e σ G R) (o : Okm m G H) (k : ∀ G' H', Stp m G H G' H' → Okm m G' H' → WB X rest D σ H') (hs : swapsWith e none pos.line X.env = pure false := by rfl) : WB X (.Expr e pos :: rest) D σ H :=
  wb_step (ps_expr pE hs) (h G H (Same.refl G) o _ fun v G' H' s _ => k G' H' s (s.okm o))
/-- C(a, .., k = v, ..) of an __init__ with n positional values behind self and keywords ks, in the parameters' order -/
structure MakK (P : Program) (w : World) (K : PySem.W.Frag) (mg : Str → Option Value) (base : Heap) (k : Nat) (x : Str) (C : Addr) (n : Nat) (ks : List Str) (sp : Sp) : Prop where
  ex : ∃ f fd ps g, Mk K C f ∧ FnOk P w K mg base C8.CX0 k f fd ps sp ∧ mg x = some (.ref C) ∧ KBn K fd ps (n + 1) ks g (fun vs zs => vs ++ zs)
theorem je_mkK {α : Type} {pre : α → Prop} {args : α → List Rl} {ns : List Str} {Rs : α → List Rl} {k j n : Nat} {C : Addr} {ks : List Str} (d : α) (c : MakK X.prog X.w X.K X.mg X.base k x C n ks (spI C pre args ns Rs)) (hp : pre d) (ha : JA m X (e :: es) σ G l) (hk : JK m X kws σ G l2) (he0 : args d = l ++ l2) (hn : l.length = n) (hn2 : l2.length = ks.length)
    (hr : Room j X.A) (hj : k + 1 ≤ j := by decide) (hg : Gl X x := by rfl)
    (hall : (backToKw pos (keywordEach kws X.env)).all (·.1.isSome) = true := by rfl) (hks : (backToKw pos (keywordEach kws X.env)).filterMap (·.1) = ks := by rfl) (hdb : (x == ("__debug__" : Str)) = false := by decide)
    (he : starEach (e :: es) X.env = (false, eval e X.env) :: starEach es X.env := by rfl) (hpl : ((backTo pos (starEach (e :: es) X.env)).any (·.1) || (backToKw pos (keywordEach kws X.env)).any (·.1.isNone)) = false := by rfl) :
    JE m X (.Call (.Name x p0) (e :: es) kws pos) σ G (Rl.obj C ns (Rs d)) := fun G1 H z o Q kk => by
  obtain ⟨f, fd, ps, g, M, F, hm, hb⟩ := c.ex
  refine eP (pe_makeK M F (hr.mono hj) hg hm hb pass0 pA pK hall hks hdb he hpl) (ha G1 H z o _ fun vs G2 H2 s2 r2 => hk G2 H2 (z.trans s2.gg) (s2.okm o) _ fun zs G3 H3 s3 r3 => ⟨by rw [r2.len]; exact hn, by rw [r3.len]; exact hn2, ?_⟩)
  have al : AlL (args d) (vs ++ zs) G3 := by
    rw [he0]
    exact (r2.mono s3.gg).app r3
  exact made_obj (s3.okm (s2.okm o)) hp al fun v G' H' s4 b => kk v G' H' ((s2.trans o s3).trans o s4) b
end
section
variable {P : Program} {w : World} {K : PySem.W.Frag} {mg : Str → Option Value} {base : Heap}
theorem makK_pure {α : Type} {pre : α → Prop} {args : α → List Rl} {ns : List Str} {Rs : α → List Rl} {x qual : Str} {C : Addr} {st : Stmt} {f : Addr} {fd : FuncData} {N ps : List Str} {k n : Nat} {ks : List Str} (F : FunD K "__init__" qual (defArgs st) (defBody st) (defScope st) [] [] f fd) (M : Mk K C f) (hm : mg x = some (.ref C))
    (hb : ∀ (kV doc pm : Value) (an : Option Addr) (cdv ct : Value) (us ws : List Value), us.length = n + 1 → ws.length = ks.length → bindArgs (PySem.W.fnOf "__init__" qual (defArgs st) (defBody st) (defScope st) .none kV doc pm an cdv ct) ⟨us, ks.zip ws⟩ = pure (ps.zip (us ++ ws)))
    (S : FnScope N ps (defScope st)) (hl : ∀ d, (args d).length + 1 = ps.length)
    (body : ∀ (cdv : Value) (A : Around) (outer : List Env) (s : Shared) (H0 : Hp) (E : XK) (d : α) (G H : Hp) (y dy : Addr) (vs : List V) (Q : VK), Room k (A.deeper (envOfC qual (defScope st) s.heap.objs.size f cdv)) → pre d → Ini y C dy G H [] [] G H → AlL (args d) vs G → (∀ G' H', Ini y C dy G H ns (Rs d) G' H' → Q .non H') →
      WB (Xc P w K mg base N qual st f cdv A outer s H0 E) (defBody st) { nx := fun _ H' => Q .non H', rt := Q } (start N (.ref y :: vs)) H) : MakK P w K mg base (k + 1) x C n ks (spI C pre args ns Rs) := by
  have ok := F.ok (P := P) (w := w) (mg := mg) (base := base) (CX := C8.CX0) (k := k) (sp := spI C pre args ns Rs) S (spI_len hl) (fun cdv A outer s H vs Q E hr ⟨d, G, y, dy, ws, ev, g, gx, hx, hp, al, kk⟩ => ⟨_, (pB (X := Xc P w K mg base N qual st f cdv A outer s H E)).nox, by
    subst ev
    refine body cdv A outer s H E d G H y dy ws Q hr hp ⟨Same.refl G, .of g, gx, fun _ _ _ q => q, fun _ _ => rfl, fun _ q => q, [], hx, rfl, .nil⟩ al fun G' H' I => ?_
    obtain ⟨fs, h1, h2, h3⟩ := I.fs
    exact kk fs G' H' I.gg I.ok.1 I.hh I.nw h1 h2 h3⟩)
  obtain ⟨oc, od, dV, kV, doc, pm, an, cdv, ct, osl, rfl, lk, hcd, hD, hK⟩ := F.ex
  rcases hD with ⟨_, rfl⟩ | ⟨e, _⟩
  · exact ⟨f, _, ps, fun us ws => us ++ ws, M, ok, hm, ⟨fun s us ws X l1 l2 => .of_eq (hb kV doc pm an cdv ct us ws l1 l2), fun r1 r2 => r1.append r2⟩⟩
  · exact absurd rfl e
abbrev cuKs : List Str := ["house", "son_weds", "daughter_weds"]
abbrev cuArgs (K : PySem.W.Frag) (c : Cu) : List Rl := [Rl.ls (rCl K) c.s.cls, Rl.ls (rCl K) c.d.cls, Rl.ls (rHr K) c.house, Rl.ls rWr c.sw, Rl.ls rWr c.dw]
abbrev spCu (K : PySem.W.Frag) : Sp := spI (cN K "Custom") Cu.Ok (cuArgs K) cuN fun c => [Rl.tp K (rCl K) c.s.cls, Rl.tp K (rCl K) c.d.cls, Rl.tp K (rHr K) c.house, rI c.house.length, Rl.tp K rWr c.sw, Rl.tp K rWr c.dw]
theorem rHr_tup {m : Option Hd} {X : Cx} {a : Expr} {σ : L2.St} {G : Hp} {p0 pos : Pos} (r : Hr) (ha : JE m X a σ G (rHr X.K r)) (hm : X.mg "tuple" = none) (hg : Gl X "tuple" := by rfl) (he : starEach [a] X.env = (false, eval a X.env) :: starEach [] X.env := by rfl) (hpl : (backTo pos (starEach [] X.env)).any (·.1) = false := by rfl) : JE m X (.Call (.Name "tuple" p0) [a] [] pos) σ G (rHr X.K r) := by
  cases r with
  | par l j => exact je_tupleT (l := [rS l, rI j]) ha hm hg he hpl
  | giv p => exact je_tupleT (l := [rS "given", rS p]) ha hm hg he hpl
theorem mk_custom (T : Tx K mg) : MakK P w K mg base 4 "Custom" (cN K "Custom") 2 cuKs (spCu K) := by
  obtain ⟨fd, F⟩ := T.F_Custom_init
  refine makK_pure (ps := ["self", "sons", "daughters", "house", "son_weds", "daughter_weds"]) F (T.k "Custom" "Custom") (T.g "Custom") (fun _ _ _ _ _ _ us ws hl hw => match us, ws, hl, hw with | [_, _, _], [_, _, _], _, _ => rfl) scCustom_init (fun _ => rfl) ?_
  intro cdv A outer s0 H0 E c G H y dy vs Q hr hp I al k
  obtain ⟨v1, v2, v3, v4, v5, rfl, e1, e2, e3, e4, e5⟩ : ∃ v1 v2 v3 v4 v5, vs = [v1, v2, v3, v4, v5] ∧ (Rl.ls (rCl K) c.s.cls).p v1 G ∧ (Rl.ls (rCl K) c.d.cls).p v2 G ∧ (Rl.ls (rHr K) c.house).p v3 G ∧ (Rl.ls rWr c.sw).p v4 G ∧ (Rl.ls rWr c.dw).p v5 G := by
    cases al with
    | cons a1 al => cases al with
      | cons a2 al => cases al with
        | cons a3 al =>
          obtain ⟨_, _, rfl, a4, a5⟩ := AlL.two al
          exact ⟨_, _, _, _, _, rfl, a1, a2, a3, a4, a5⟩
  refine wb_expr (je_call (("s" : Str), c.s) (k_check_clauses T) hp.s.1 (ja_cons je_str (ja_cons (je_var 1 rfl e1) ja_nil)) hr) I.ok fun G1 H1 s1 o1 => ?_
  refine wb_expr (je_call (("d" : Str), c.d) (k_check_clauses T) hp.d.1 (ja_cons je_str (ja_cons (je_var 2 rfl (Rl.mono _ _ _ _ s1.gg e2)) ja_nil)) hr) o1 fun G2 H2 s2 o2 => ?_
  have g2 := s1.gg.trans s2.gg
  refine wb_expr (je_call c.house (k_check_house T) ⟨hp.w, hp.h⟩ (ja_cons (je_var 3 rfl (Rl.mono _ _ _ _ g2 e3)) ja_nil) hr) o2 fun G3 H3 s3 o3 => ?_
  have g3 := g2.trans s3.gg
  refine wb_expr (je_call (("s" : Str), c.s, c.house.length) (k_check_sources T) (fun cl h => clSrcs_g hp.w (hp.s.cl cl h)) (ja_cons je_str (ja_cons (je_var 1 rfl (Rl.mono _ _ _ _ g3 e1)) (ja_cons (je_lenLs (je_var 3 rfl (Rl.mono _ _ _ _ g3 e3)) (T.f "len")) ja_nil))) hr) o3 fun G4 H4 s4 o4 => ?_
  have g4 := g3.trans s4.gg
  refine wb_expr (je_call (("d" : Str), c.d, c.house.length) (k_check_sources T) (fun cl h => clSrcs_g hp.w (hp.d.cl cl h)) (ja_cons je_str (ja_cons (je_var 2 rfl (Rl.mono _ _ _ _ g4 e2)) (ja_cons (je_lenLs (je_var 3 rfl (Rl.mono _ _ _ _ g4 e3)) (T.f "len")) ja_nil))) hr) o4 fun G5 H5 s5 o5 => ?_
  have g5 := g4.trans s5.gg
  have I5 := ((((I.step s1).step s2).step s3).step s4).step s5
  refine wb_ini 0 I5 rfl (T.c "Custom") (T.n "Custom" "sons") (je_tupleL (je_var 1 rfl (Rl.mono _ _ _ _ g5 e1)) (T.f "tuple")) fun G6 H6 I6 => ?_
  refine wb_ini 0 I6 rfl (T.c "Custom") (T.n "Custom" "daughters") (je_tupleL (je_var 2 rfl (Rl.mono _ _ _ _ I6.gg e2)) (T.f "tuple")) fun G7 H7 I7 => ?_
  refine wb_ini 0 I7 rfl (T.c "Custom") (T.n "Custom" "house") (R := Rl.tp K (rHr K) c.house) (je_tupleL (l := c.house.map (rHr K)) ?_ (T.f "tuple")) fun G8 H8 I8 => ?_
  · exact je_lcA (ds := c.house) (D := rHr K) (E := rHr K) [("rule", 6)] rfl scCustom_init.nd (blkOk_by rfl) (fun s H C cl fp => pg_name (i := 6) scCustom_init.nd rfl (.inl rfl))
      (ji_list (je_var 3 rfl (Rl.mono _ _ _ _ I7.gg e3))) (Nat.le_trans hp.w (by decide)) (lc_name fun x => rfl) (fun d hd σ2 G1 g1 hx s H C cl fp => by
        obtain ⟨x, rfl, rx⟩ := hx
        exact rHr_tup d (je_var 6 rfl rx) (T.f "tuple"))
  refine wb_ini 0 I8 rfl (T.c "Custom") (T.n "Custom" "width") (je_lenLs (je_var 3 rfl (Rl.mono _ _ _ _ I8.gg e3)) (T.f "len")) fun G9 H9 I9 => ?_
  refine wb_ini 0 I9 rfl (T.c "Custom") (T.n "Custom" "son_weds") (je_call (("s" : Str), c.sw, c.house.length) (k_checked_wedding T) ⟨hp.sl, hp.sw⟩ (ja_cons je_str (ja_cons (je_var 4 rfl (Rl.mono _ _ _ _ I9.gg e4)) (ja_cons (je_lenLs (je_var 3 rfl (Rl.mono _ _ _ _ I9.gg e3)) (T.f "len")) ja_nil))) hr) fun G10 H10 I10 => ?_
  refine wb_ini 0 I10 rfl (T.c "Custom") (T.n "Custom" "daughter_weds") (je_call (("d" : Str), c.dw, c.house.length) (k_checked_wedding T) ⟨hp.dl, hp.dw⟩ (ja_cons je_str (ja_cons (je_var 5 rfl (Rl.mono _ _ _ _ I10.gg e5)) (ja_cons (je_lenLs (je_var 3 rfl (Rl.mono _ _ _ _ I10.gg e3)) (T.f "len")) ja_nil))) hr) fun G11 H11 I11 => ?_
  exact wb_nil (k G11 H11 I11)
/-! ### clauses(kind), wedding_rules(kind) -/
def kindOk (k : Str) : Prop := k = "s" ∨ k = "d"
theorem kind_isKd {k : Str} (h : kindOk k) : isKd (V.str k) = true := by rcases h with rfl | rfl <;> decide +kernel
theorem m_clauses (T : Tx K mg) : C8.Met P w K mg base 2 (cN K "Custom") "clauses" (spF (fun d : Cu × Str => kindOk d.2) (fun d => [rCu K d.1, rS d.2]) fun d => Rl.tp K (rCl K) (d.1.kl d.2).cls) [] := by
  obtain ⟨fd, F⟩ := T.F_Custom_clauses
  refine met_pure F (T.c "Custom") (T.m "Custom" "clauses" "Custom") (F.bindsN fun _ _ _ _ _ _ us hl => match us, hl with | [_, _], _ => rfl) scCustom_clauses (fun _ => rfl) ?_
  rintro cdv A outer s0 H0 E ⟨c, kd⟩ G H vs Q hr hp o al k
  have hp : kindOk kd := hp
  obtain ⟨_, _, rfl, e1, e2⟩ := AlL.two al
  cases e2
  refine wb_if (P := isB false) (jt_flip (jt_not (jt_val (je_call (V.str kd) (k_is_kind T) trivial (ja_cons (je_v 1) ja_nil) hr))) (by rw [kind_isKd hp] <;> rfl)) o (fun h G1 H1 s1 o1 => by cases h) (fun h G1 H1 s1 o1 => ?_)
  refine wb_nil (wb_ret (R := Rl.tp K (rCl K) (c.kl kd).cls) (je_ifE (jt_eq (je_v 1) je_str) (fun h => ?_) (fun h => ?_)) o1 fun v G2 H2 s2 r => k v G2 H2 (s1.trans o s2) r)
  · have h := decide_eq_true_iff.mp h.symm
    cases h
    exact je_fld 0 (je_var 0 rfl (Rl.mono _ _ _ _ s1.gg e1)) (T.c "Custom") (T.n "Custom" "sons")
  · have h := decide_eq_false_iff_not.mp h.symm
    have e : c.kl kd = c.d := if_neg fun e => h (by rw [e])
    rw [e]
    exact je_fld 1 (je_var 0 rfl (Rl.mono _ _ _ _ s1.gg e1)) (T.c "Custom") (T.n "Custom" "daughters")
theorem m_weds (T : Tx K mg) : C8.Met P w K mg base 2 (cN K "Custom") "wedding_rules" (spF (fun d : Cu × Str => kindOk d.2) (fun d => [rCu K d.1, rS d.2]) fun d => Rl.tp K rWr (d.1.wed d.2)) [] := by
  obtain ⟨fd, F⟩ := T.F_Custom_wedding_rules
  refine met_pure F (T.c "Custom") (T.m "Custom" "wedding_rules" "Custom") (F.bindsN fun _ _ _ _ _ _ us hl => match us, hl with | [_, _], _ => rfl) scCustom_wedding_rules (fun _ => rfl) ?_
  rintro cdv A outer s0 H0 E ⟨c, kd⟩ G H vs Q hr hp o al k
  have hp : kindOk kd := hp
  obtain ⟨_, _, rfl, e1, e2⟩ := AlL.two al
  cases e2
  refine wb_if (P := isB false) (jt_flip (jt_not (jt_val (je_call (V.str kd) (k_is_kind T) trivial (ja_cons (je_v 1) ja_nil) hr))) (by rw [kind_isKd hp] <;> rfl)) o (fun h G1 H1 s1 o1 => by cases h) (fun h G1 H1 s1 o1 => ?_)
  refine wb_nil (wb_ret (R := Rl.tp K rWr (c.wed kd)) (je_ifE (jt_eq (je_v 1) je_str) (fun h => ?_) (fun h => ?_)) o1 fun v G2 H2 s2 r => k v G2 H2 (s1.trans o s2) r)
  · have h := decide_eq_true_iff.mp h.symm
    cases h
    exact je_fld 4 (je_var 0 rfl (Rl.mono _ _ _ _ s1.gg e1)) (T.c "Custom") (T.n "Custom" "son_weds")
  · have h := decide_eq_false_iff_not.mp h.symm
    have e : c.wed kd = c.dw := if_neg fun e => h (by rw [e])
    rw [e]
    exact je_fld 5 (je_var 0 rfl (Rl.mono _ _ _ _ s1.gg e1)) (T.c "Custom") (T.n "Custom" "daughter_weds")
end
end Nk
namespace Nk
open PySem PySem.Spec PyProof.Rows L2
section
variable {P : Program} {w : World} {K : PySem.W.Frag} {mg : Str → Option Value} {base : Heap}
theorem rCu_no (mn : Str) (h : (cuN.all fun k => !(mn == k)) = true) (c : Cu) : ∀ v G1, (rCu K c).p v G1 → ∃ a dx fs, v = .ref a ∧ G1 a = some (.ins (cN K "Custom") dx fs) ∧ fs.lookup mn = none :=
  obj_no (by
    rw [List.findIdx?_eq_none_iff]
    intro k hk
    exact bT (List.all_eq_true.mp h k hk).symm)
theorem len_ofInt : ∀ j < 2, (Str.ofString (toString (j : Nat))).length ≤ 1000 ∧ ((j : Nat) : Int).natAbs.log2 < 1920 := by decide +kernel
theorem len_ofInt' {j : Nat} (h : j < 2) : (Str.ofString (toString ((j : Nat) : Int))).length ≤ 1000 ∧ ((j : Nat) : Int).natAbs.log2 < 1920 := by
  have : j = 0 ∨ j = 1 := by omega
  rcases this with rfl | rfl <;> decide +kernel
/-! ### what a place asks for -/
def wrNeed (kd : Str) : Wr → List (Str × Str)
  | .mate j => [(okd kd, dot j)]
  | .own => []
def hrNeed : Hr → Str × Str
  | .par l j => (pkd l, dot j)
  | .giv p => (pkd p, "")
theorem hneed_at {c : Cu} {kd : Str} {i : Nat} {r : Hr} {u : Wr} (h1 : c.house[i]? = some r) (h2 : (c.wed kd)[i]? = some u) : hneed c kd i = hrNeed r :: wrNeed kd u := by
  unfold hneed
  rw [h1, h2]
  cases r <;> cases u <;> rfl
theorem k_house_needs (T : Tx K mg) : C8.Cal P w K mg base 3 "house_needs" (spF (fun d : Cu × Str × Nat => d.1.Ok ∧ kindOk d.2.1) (fun d => [rCu K d.1, rS d.2.1, rI d.2.2]) fun d => Rl.ls (rPr K) (hneed d.1 d.2.1 d.2.2)) [] := by
  obtain ⟨fd, F⟩ := T.F_house_needs
  refine cal_pure F (T.g "house_needs") (F.bindsN fun _ _ _ _ _ _ us hl => match us, hl with | [_, _, _], _ => rfl) schouse_needs (fun _ => rfl) ?_
  rintro cdv A outer s0 H0 E ⟨c, kd, i⟩ G H vs Q hr ⟨hc, hk⟩ o al k
  have hc : c.Ok := hc
  have hk : kindOk kd := hk
  cases al with
  | cons e1 al =>
  rename_i cv _
  obtain ⟨_, _, rfl, e2, e3⟩ := AlL.two al
  cases e2; cases e3
  have e1 : (rCu K c).p cv G := e1
  have k : ∀ v G' H', Stp none G H G' H' → (Rl.ls (rPr K) (hneed c kd i)).p v G' → Q v H' := k
  have hwl : (c.wed kd).length = c.house.length := by
    unfold Cu.wed
    split
    · exact hc.sl
    · exact hc.dl
  have hwo : ∀ r ∈ c.wed kd, r.Ok c.house.length := by
    unfold Cu.wed
    split
    · exact hc.sw
    · exact hc.dw
  have hw2 := hc.w
  refine wb_if (jt_ge (je_v 2) (je_fld 3 (je_var 0 rfl e1) (T.c "Custom") (T.n "Custom" "width"))) o (fun h G1 H1 s1 o1 => ?_) (fun h G1 H1 s1 o1 => ?_)
  · have h : (c.house.length : Int) ≤ (i : Int) := decide_eq_true_iff.mp h.symm
    have h : c.house.length ≤ i := by omega
    have e : hneed c kd i = [] := by
      unfold hneed
      rw [List.getElem?_eq_none h, List.getElem?_eq_none (by omega)]
      rfl
    rw [e] at k
    exact wb_ret (je_lst ja_nil) o1 fun v G2 H2 s2 r => k v G2 H2 (s1.trans o s2) r
  have h : ¬ (c.house.length : Int) ≤ (i : Int) := decide_eq_false_iff_not.mp h.symm
  have hi : i < c.house.length := by omega
  obtain ⟨r, hr1⟩ : ∃ r, c.house[i]? = some r := ⟨c.house[i], List.getElem?_eq_getElem hi⟩
  obtain ⟨u, hu1⟩ : ∃ u, (c.wed kd)[i]? = some u := ⟨(c.wed kd)[i]'(by omega), List.getElem?_eq_getElem (by omega)⟩
  have hrO := hc.h r (List.mem_of_getElem? hr1)
  have huO := hwo u (List.mem_of_getElem? hu1)
  have at1 : atI (c.house.map (rHr K)) (i : Int) = some (rHr K r) := atI_nat (by rw [List.getElem?_map, hr1] <;> rfl)
  have at2 : atI ((c.wed kd).map rWr) (i : Int) = some (rWr u) := atI_nat (by rw [List.getElem?_map, hu1] <;> rfl)
  have s1g := s1.gg
  -- what comes behind the first pair
  have after : ∀ (G3 H3 : Hp) (p : Addr) (xs : List V) (q : Str × Str) (a b : V), Stp none G H G3 H3 → Same G1 G3 → Own p xs [rPr K q] H G3 H3 → hneed c kd i = q :: wrNeed kd u →
      WB (Xc P w K mg base nhouse_needs "house_needs" shouse_needs (He.ga K "house_needs") cdv A outer s0 H0 E) ((defBody shouse_needs).drop 3) { nx := fun _ H' => Q .non H', rt := Q } [some cv, some (.str kd), some (.int i), some a, some b, some (.ref p), none] H3 := by
    intro G3 H3 p xs q a b st g13 ow en
    have o3 := st.okm o
    have e13 := Rl.mono _ _ _ _ (s1g.trans g13) e1
    refine wb_set 6 schouse_needs.nd (R := rWr u) (je_ixT (je_mt (c, kd) (m_weds T) hk rfl (je_var 0 rfl e13) (rCu_no "wedding_rules" (by decide +kernel) c) (ja_cons (je_v 1) ja_nil) hr) (je_v 2) at2) o3 fun v4 G4 H4 s4 o4 r4 => ?_
    have st4 := st.trans o s4
    have ow4 := ow.step (m := none) (fun _ e => by cases e) s4
    cases u with
    | own =>
      cases r4
      refine wb_if (P := isB false) (jt_flip (jt_ne (je_v 6) je_str) (by decide +kernel)) o4 (fun h G5 H5 s5 o5 => by cases h) (fun h G5 H5 s5 o5 => ?_)
      have st5 := st4.trans o s5
      have ow5 := ow4.step (m := none) (fun _ e => by cases e) s5
      obtain ⟨t1, t2, t3⟩ := ow5.tell (m := none) (G0 := G) o st5
      refine wb_nil (wb_ret (R := Rl.ls (rPr K) (hneed c kd i)) (je_var 5 rfl ?_) (t1.okm o) fun v G6 H6 s6 r => k v G6 H6 (t1.trans o s6) r)
      rw [en]
      exact t3
    | mate j =>
      cases r4
      have hj : j < c.house.length := huO
      obtain ⟨l1, l2⟩ := len_ofInt' (j := j) (by omega)
      refine wb_if (P := isB true) (jt_flip (jt_ne (je_v 6) je_str) rfl) o4 (fun h G5 H5 s5 o5 => ?_) (fun h G5 H5 s5 o5 => by cases h)
      have st5 := st4.trans o s5
      have ow5 := ow4.step (m := none) (fun _ e => by cases e) s5
      refine wb_put (m := none) (G0 := G) 5 rfl o st5 ow5 (R := rPr K (okd kd, dot j)) (je_tup (l := [rS (okd kd), rS (dot j)]) (ja_cons (je_call kd (k_other_kind T) trivial (ja_cons (je_v 1) ja_nil) hr) (ja_cons (je_fs (je_v 6) (by decide +kernel) l2 l1) ja_nil))) (Nat.le_of_ble_eq_true rfl) fun v G6 H6 st6 g6 ow6 _ _ => ?_
      obtain ⟨t1, t2, t3⟩ := ow6.tell (m := none) (G0 := G) o st6
      refine wb_nil (wb_ret (R := Rl.ls (rPr K) (hneed c kd i)) (je_var 5 rfl ?_) (t1.okm o) fun v G7 H7 s7 r => k v G7 H7 (t1.trans o s7) r)
      rw [en]
      exact t3
  cases r with
  | par l j =>
    have hl : (l = "f" ∨ l = "m") ∧ j < c.house.length := hrO
    obtain ⟨l1, l2⟩ := len_ofInt' (j := j) (by omega)
    have hg : V.str l = V.str "given" → False := by
      rcases hl.1 with rfl | rfl <;> decide +kernel
    refine wb_nil (wb_two (Ra := rS l) (Rb := rI j) 3 4 rfl schouse_needs.nd (je_ixT (je_fld 2 (je_var 0 rfl (Rl.mono _ _ _ _ s1g e1)) (T.c "Custom") (T.n "Custom" "house")) (je_v 2) at1) o1 fun v w2 G2 H2 s2 o2 rv rw2 => ?_)
    cases rv; cases rw2
    refine wb_if (P := isB false) (jt_flip (jt_eq (je_v 3) je_str) (decide_eq_false hg)) o2 (fun h G3 H3 s3 o3 => by cases h) (fun h G3 H3 s3 o3 => ?_)
    refine wb_new (m := none) (G0 := G) 5 schouse_needs.nd (l := [rPr K (pkd l, dot j)]) (ja_cons (je_tup (l := [rS (pkd l), rS (dot j)]) (ja_cons (je_call l (k_parent_kind T) trivial (ja_cons (je_v 3) ja_nil) hr) (ja_cons (je_fs (je_v 4) (by decide +kernel) l2 l1) ja_nil))) ja_nil) o ((s1.trans o s2).trans o s3) (Nat.le_of_ble_eq_true rfl) fun p xs G4 H4 st4 g4 ow4 _ => wb_nil ?_
    refine after G4 H4 p xs _ _ _ st4 ((s2.gg.trans s3.gg).trans g4) ow4 (hneed_at hr1 hu1)
  | giv x =>
    refine wb_nil (wb_two (Ra := rS "given") (Rb := rS x) 3 4 rfl schouse_needs.nd (je_ixT (je_fld 2 (je_var 0 rfl (Rl.mono _ _ _ _ s1g e1)) (T.c "Custom") (T.n "Custom" "house")) (je_v 2) at1) o1 fun v w2 G2 H2 s2 o2 rv rw2 => ?_)
    cases rv; cases rw2
    refine wb_if (P := isB true) (jt_flip (jt_eq (je_v 3) je_str) (by decide +kernel)) o2 (fun h G3 H3 s3 o3 => ?_) (fun h G3 H3 s3 o3 => by cases h)
    refine wb_new (m := none) (G0 := G) 5 schouse_needs.nd (l := [rPr K (pkd x, "")]) (ja_cons (je_tup (l := [rS (pkd x), rS ""]) (ja_cons (je_call x (k_parent_kind T) trivial (ja_cons (je_v 4) ja_nil) hr) (ja_cons je_str ja_nil))) ja_nil) o ((s1.trans o s2).trans o s3) (Nat.le_of_ble_eq_true rfl) fun p xs G4 H4 st4 g4 ow4 _ => wb_nil ?_
    refine after G4 H4 p xs _ _ _ st4 ((s2.gg.trans s3.gg).trans g4) ow4 (hneed_at hr1 hu1)
end
end Nk
namespace Nk
open PySem PySem.Spec PyProof.Rows L2
section
variable {P : Program} {w : World} {K : PySem.W.Frag} {mg : Str → Option Value} {base : Heap}
theorem hneed_len (c : Cu) (kd : Str) (i : Nat) : (hneed c kd i).length ≤ 2 := by
  unfold hneed
  cases c.house[i]? with
  | none => cases (c.wed kd)[i]? with
    | none => exact Nat.le_of_ble_eq_true rfl
    | some u => cases u <;> exact Nat.le_of_ble_eq_true rfl
  | some r => cases r <;> (cases (c.wed kd)[i]? with
    | none => exact Nat.le_of_ble_eq_true rfl
    | some u => cases u <;> exact Nat.le_of_ble_eq_true rfl)
def plOk (pl : Str) : Bool := hpOk pl && (match hpl pl with
  | some _ => true
  | none => decide (pl = "") || (decide (pl.length ≤ 600) && decide (0 < pl.length)))
theorem places_ok : places.all plOk = true := by decide +kernel
def csOk (cs : List Cu) : Prop := cs.length ≤ 10 ∧ ∀ c ∈ cs, c.Ok
theorem k_place_needs (T : Tx K mg) : C8.Cal P w K mg base 4 "place_needs" (spF (fun d : List Cu × Str × Str => csOk d.1 ∧ kindOk d.2.1 ∧ plOk d.2.2 = true) (fun d => [Rl.tp K (rCu K) d.1, rS d.2.1, rS d.2.2]) fun d => Rl.ls (rPr K) (needs d.1 d.2)) [] := by
  obtain ⟨fd, F⟩ := T.F_place_needs
  refine cal_pure F (T.g "place_needs") (F.bindsN fun _ _ _ _ _ _ us hl => match us, hl with | [_, _, _], _ => rfl) scplace_needs (fun _ => rfl) ?_
  rintro cdv A outer s0 H0 E ⟨cs, kd, pl⟩ G H vs Q hr ⟨hcs, hk, hpl0⟩ o al k
  have hcs : csOk cs := hcs
  have hk : kindOk kd := hk
  have hpl0 : plOk pl = true := hpl0
  have k : ∀ v G' H', Stp none G H G' H' → (Rl.ls (rPr K) (needs cs (kd, pl))).p v G' → Q v H' := k
  cases al with
  | cons e1 al =>
  rename_i cv _
  obtain ⟨_, _, rfl, e2, e3⟩ := AlL.two al
  cases e2; cases e3
  have e1 : (Rl.tp K (rCu K) cs).p cv G := e1
  unfold plOk at hpl0
  rw [Bool.and_eq_true] at hpl0
  refine wb_set 3 scplace_needs.nd (je_call pl (k_house_place T) hpl0.1 (ja_cons (je_v 2) ja_nil) hr) o fun v1 G1 H1 s1 o1 r1 => ?_
  cases r1
  unfold hplV
  unfold needs at k
  cases q : hpl pl with
  | some i =>
    rw [show hpl (kd, pl).2 = some i from q] at k
    refine wb_if (P := isB true) (jt_flip (jt_notN (je_v 3)) (by rw [decide_eq_false (fun h => by cases h)] <;> rfl)) o1 (fun h G2 H2 s2 o2 => ?_) (fun h G2 H2 s2 o2 => by cases h)
    refine wb_set 4 scplace_needs.nd (je_lst ja_nil) o2 fun v3 G3 H3 s3 o3 r3 => ?_
    refine wb_for (fun n σ' G' H' => Stp none G H G' H' ∧ ∃ v x, σ' = [some cv, some (.str kd), some (.str pl), some (.int i), some v, x] ∧ (Rl.ls (rPr K) ((cs.take n).flatMap fun c => hneed c kd i)).p v G') PassesOwn.never rfl (pg_name (i := 5) scplace_needs.nd rfl (.inl rfl))
      (ji_tup (je_var 0 rfl (Rl.mono _ _ _ _ ((s1.gg.trans s2.gg).trans s3.gg) e1))) o3 (fun G4 H4 s4 o4 => ⟨((s1.trans o s2).trans o s3).trans o s4, v3, _, rfl, Rl.mono _ _ _ _ s4.gg r3⟩) ?_ ?_
    · rintro Gc gc n R σ' G' H' x hR gg o' ⟨st, v, y, rfl, rv⟩ G5 H5 s5 o5 rx
      rw [List.getElem?_map] at hR
      cases hc : cs[n]? with
      | none =>
        rw [hc] at hR
        cases hR
      | some c =>
        rw [hc] at hR
        cases hR
        have hm := List.mem_of_getElem? hc
        refine wb_set 4 scplace_needs.nd (je_catL (je_var 4 rfl (Rl.mono _ _ _ _ s5.gg rv)) (je_call (c, kd, i) (k_house_needs T) ⟨hcs.2 c hm, hk⟩ (ja_cons (je_var 5 rfl rx) (ja_cons (je_v 1) (ja_cons (je_v 3) ja_nil))) hr) ?_) o5 fun v6 G6 H6 s6 o6 r6 => wb_nil ?_
        · have h1 := flat_len (fun c => hneed_len c kd i) (cs.take n)
          have h2 := hneed_len c kd i
          have h3 : (cs.take n).length ≤ 10 := Nat.le_trans (List.length_take_le' _ _) hcs.1
          rw [List.length_map, List.length_map]
          have h2 : (hneed (c, kd, i).1 (c, kd, i).2.1 (c, kd, i).2.2).length ≤ 2 := h2
          omega
        · refine ⟨G6, (gg.trans s5.gg).trans s6.gg, o6, (st.trans o s5).trans o s6, v6, _, rfl, ?_⟩
          rw [List.take_add_one, hc, List.flatMap_append]
          have e : Option.toList (some c) = [c] := rfl
          rw [e, List.flatMap_cons, List.flatMap_nil, List.append_nil]
          unfold Rl.ls
          rw [List.map_append]
          exact r6
    · rintro σ' G' H' gg o' ⟨st, v, y, rfl, rv⟩
      rw [List.length_map, List.take_length] at rv
      exact wb_ret (je_var 4 rfl rv) o' fun v G7 H7 s7 r => k v G7 H7 (st.trans o s7) r
  | none =>
    rw [q] at hpl0
    rw [show hpl (kd, pl).2 = none from q] at k
    refine wb_if (P := isB false) (jt_flip (jt_notN (je_v 3)) (by rw [decide_eq_true rfl] <;> rfl)) o1 (fun h G2 H2 s2 o2 => by cases h) (fun h G2 H2 s2 o2 => ?_)
    refine wb_nil (wb_ret (R := Rl.ls (rPr K) (if pl = "" then [] else [plc pl])) (je_ifE (jt_ne (je_v 2) je_str) (fun h => ?_) (fun h => ?_)) o2 fun v G7 H7 s7 r => k v G7 H7 ((s1.trans o s2).trans o s7) r)
    · have h : ¬ V.str pl = V.str "" := decide_eq_false_iff_not.mp (bT h)
      have hne : ¬ pl = "" := fun e => h (by rw [e])
      rw [if_neg hne]
      have hp := hpl0.2
      simp only at hp
      rw [decide_eq_false hne, Bool.false_or, Bool.and_eq_true] at hp
      exact je_lst (l := [rPr K (plc pl)]) (ja_cons (je_call pl (k_place_of T) ⟨decide_eq_true_iff.mp hp.1, decide_eq_true_iff.mp hp.2⟩ (ja_cons (je_v 2) ja_nil) hr) ja_nil)
    · have h : V.str pl = V.str "" := decide_eq_true_iff.mp (bF h)
      rw [if_pos (V.str.inj h)]
      exact je_lst ja_nil
/-! ### in order -/
theorem k_in_order (T : Tx K mg) : C8.Cal P w K mg base 1 "in_order" (spF (fun d : List Str × List Str => d.2.length ≤ 1000) (fun d => [Rl.ls rS d.1, Rl.tp K rS d.2]) fun d => Rl.tp K rS (d.2.filter fun x => d.1.contains x)) [] := by
  obtain ⟨fd, F⟩ := T.F_in_order
  refine cal_pure F (T.g "in_order") (F.bindsN fun _ _ _ _ _ _ us hl => match us, hl with | [_, _], _ => rfl) scin_order (fun _ => rfl) ?_
  rintro cdv A outer s0 H0 E ⟨th, ord⟩ G H vs Q hr hn o al k
  have hn : ord.length ≤ 1000 := hn
  obtain ⟨v1, v2, rfl, e1, e2⟩ := AlL.two al
  have e1 : (Rl.ls rS th).p v1 G := e1
  have e2 : (Rl.tp K rS ord).p v2 G := e2
  refine wb_ret (je_tupleL (je_lc (ds := ord) (D := rS) (E := rS) (f := fun x => th.contains x) [("thing", 2)] rfl scin_order.nd (blkOk_by rfl) (fun s H C cl fp => pg_name (i := 2) scin_order.nd rfl (.inl rfl)) (ji_tup (je_var 1 rfl e2)) (by omega) (lc_name fun x => rfl) ?_ ?_) (T.f "tuple")) o k
  · rintro d hd σ2 G1 g1 ⟨x, rfl, rx⟩ s H C cl fp
    cases rx
    exact jts_one (jt_inL (l := th) (je_v 2) (je_var 0 rfl (Rl.mono _ _ _ _ g1 e1)))
  · rintro d hd hf σ2 G1 g1 ⟨x, rfl, rx⟩ s H C cl fp
    exact je_var 2 rfl rx
/-! ### what is tracked -/
theorem rTk_no (mn : Str) (h : (tkN.all fun k => !(mn == k)) = true) (t : Tk) : ∀ v G1, (rTk K t).p v G1 → ∃ a dx fs, v = .ref a ∧ G1 a = some (.ins (cN K "Take") dx fs) ∧ fs.lookup mn = none :=
  obj_no (by
    rw [List.findIdx?_eq_none_iff]
    intro k hk
    exact bT (List.all_eq_true.mp h k hk).symm)
theorem rFr_no (mn : Str) (h : (mn == ("bars" : Str)) = false) (l : List Str) : ∀ v G1, (rFr K l).p v G1 → ∃ a dx fs, v = .ref a ∧ G1 a = some (.ins (cN K "Free") dx fs) ∧ fs.lookup mn = none :=
  obj_no (by simp [List.findIdx?_cons, h])
theorem cls_but (k : Kl) : (k.cls.map (rCl K)).dropLast = k.tks.map (rTk K) := by
  unfold Kl.cls
  rw [List.map_append, List.map_singleton, List.dropLast_concat, List.map_map]
  rfl
theorem cls_end (k : Kl) : atI (k.cls.map (rCl K)) (-1) = some (rFr K k.bars) := by
  unfold Kl.cls
  rw [List.map_append]
  exact atI_last
theorem cls_pos (k : Kl) : 0 < (k.cls.map (rCl K)).length := by
  rw [List.length_map, Kl.len]
  omega
section
variable {m : Option Hd} {X : Cx} {a hi : Expr} {σ : L2.St} {G : Hp} {pos p2 : Pos}
theorem je_catLs {α : Type} {D : α → Rl} {b : Expr} {l1 l2 : List α} (ha : JE m X a σ G (Rl.ls D l1)) (hb : JE m X b σ G (Rl.ls D l2)) (hz : l1.length + l2.length ≤ 100000) : JE m X (.BinOp a .Add b pos) σ G (Rl.ls D (l1 ++ l2)) := by
  have z := je_catL (pos := pos) ha hb (by rw [List.length_map, List.length_map]; exact hz)
  rw [← List.map_append] at z
  exact z
theorem je_catTs {α : Type} {D : α → Rl} {b : Expr} {l1 l2 : List α} (ha : JE m X a σ G (Rl.tp X.K D l1)) (hb : JE m X b σ G (Rl.tp X.K D l2)) (hn : 0 < l1.length) (hz : l1.length + l2.length ≤ 100000) : JE m X (.BinOp a .Add b pos) σ G (Rl.tp X.K D (l1 ++ l2)) := by
  have z := je_catT (pos := pos) ha hb (by rw [List.length_map]; exact hn) (by rw [List.length_map, List.length_map]; exact hz)
  rw [← List.map_append] at z
  exact z
theorem je_takes {k : Kl} (ha : JE m X a σ G (Rl.tp X.K (rCl X.K) k.cls)) (hb : JE m X hi σ G (rI (-1))) : JE m X (.Subscript a (.Slice none (some hi) none p2) pos) σ G (Rl.tp X.K (rTk X.K) k.tks) := by
  have z := je_butT (pos := pos) (p2 := p2) ha hb (cls_pos k)
  rw [cls_but] at z
  exact z
theorem je_end {k : Kl} (ha : JE m X a σ G (Rl.tp X.K (rCl X.K) k.cls)) (hb : JE m X hi σ G (rI (-1))) (hs : PlainIx hi := by exact fun _ _ => rfl) : JE m X (.Subscript a hi pos) σ G (rFr X.K k.bars) := je_ixT ha hb (cls_end k) hs
end
/-- a custom's clauses are few -/
theorem kl_tks {c : Cu} (hc : c.Ok) : c.s.tks.length ≤ 4 ∧ c.d.tks.length ≤ 4 ∧ (∀ t ∈ c.s.tks ++ c.d.tks, t.cds.length ≤ 4) :=
  ⟨hc.s.1, hc.d.1, fun t ht => by
    rcases List.mem_append.mp ht with h | h
    · exact (hc.s.2.1 t h).2.1
    · exact (hc.d.2.1 t h).2.1⟩
theorem cuTrk_len {c : Cu} (hc : c.Ok) : (cuTrk c).length ≤ 8 := by
  obtain ⟨h1, h2, _⟩ := kl_tks hc
  unfold cuTrk
  rw [List.length_map]
  refine Nat.le_trans (List.length_filter_le _ _) ?_
  rw [List.length_append]
  omega
theorem allTrk_len {cs : List Cu} (h : ∀ c ∈ cs, c.Ok) : (allTrk cs).length ≤ cs.length * 8 := by
  unfold allTrk
  induction cs with
  | nil => exact Nat.zero_le _
  | cons c cs ih =>
    rw [List.flatMap_cons, List.length_append, List.length_cons, Nat.succ_mul]
    have h1 := cuTrk_len (h c List.mem_cons_self)
    have h2 := ih fun c hc => h c (List.mem_cons_of_mem _ hc)
    omega
theorem k_tracked_sources (T : Tx K mg) : C8.Cal P w K mg base 3 "tracked_sources" (spF csOk (fun cs : List Cu => [Rl.tp K (rCu K) cs]) fun cs => Rl.ls rS (allTrk cs)) [] := by
  obtain ⟨fd, F⟩ := T.F_tracked_sources
  refine cal_pure F (T.g "tracked_sources") (F.bindsN fun _ _ _ _ _ _ us hl => match us, hl with | [_], _ => rfl) sctracked_sources (fun _ => rfl) ?_
  intro cdv A outer s0 H0 E cs G H vs Q hr hcs o al k
  obtain ⟨cv, rfl, e1⟩ := AlL.one al
  refine wb_set 1 sctracked_sources.nd (je_lst ja_nil) o fun v1 G1 H1 s1 o1 r1 => ?_
  refine wb_for (fun n σ' G' H' => Stp none G H G' H' ∧ ∃ v a b c, σ' = [some cv, some v, a, b, c, none] ∧ (Rl.ls rS (allTrk (cs.take n))).p v G') PassesOwn.never rfl (pg_name (i := 2) sctracked_sources.nd rfl (.inl rfl))
    (ji_tup (je_var 0 rfl (Rl.mono _ _ _ _ s1.gg e1))) o1 (fun G4 H4 s4 o4 => ⟨s1.trans o s4, v1, _, _, _, rfl, Rl.mono _ _ _ _ s4.gg r1⟩) ?_ ?_
  · rintro Gc gc n R σ' G' H' x hR gg o' ⟨st, v, a, b, c0, rfl, rv⟩ G5 H5 s5 o5 rx
    rw [List.getElem?_map] at hR
    cases hc : cs[n]? with
    | none =>
      rw [hc] at hR
      cases hR
    | some c =>
      rw [hc] at hR
      cases hR
      have hm := hcs.2 c (List.mem_of_getElem? hc)
      obtain ⟨n1, n2, n3⟩ := kl_tks hm
      have rx : (rCu K c).p x G5 := rx
      refine wb_set 3 sctracked_sources.nd (je_catLs (l1 := c.s.tks) (l2 := c.d.tks) (je_listT (je_takes (k := c.s) (je_fld 0 (je_var 2 rfl rx) (T.c "Custom") (T.n "Custom" "sons")) (je_neg je_int)) (T.f "list")) (je_listT (je_takes (k := c.d) (je_fld 1 (je_var 2 rfl rx) (T.c "Custom") (T.n "Custom" "daughters")) (je_neg je_int)) (T.f "list")) (by omega)) o5 fun v6 G6 H6 s6 o6 r6 => ?_
      have rx6 := Rl.mono _ _ _ _ s6.gg rx
      refine wb_set 4 sctracked_sources.nd (je_or (je_m1 (m_fr_trk T c.s.bars) (je_end (k := c.s) (je_fld 0 (je_var 2 rfl rx6) (T.c "Custom") (T.n "Custom" "sons")) (je_neg je_int)) (rFr_no "tracks" (by decide +kernel) _) hr) fun _ => je_one (je_m1 (m_fr_trk T c.d.bars) (je_end (k := c.d) (je_fld 1 (je_var 2 rfl rx6) (T.c "Custom") (T.n "Custom" "daughters")) (je_neg je_int)) (rFr_no "tracks" (by decide +kernel) _) hr)) o6 fun v7 G7 H7 s7 o7 r7 => ?_
      cases r7
      refine wb_set 1 sctracked_sources.nd (je_catLs (l1 := allTrk (cs.take n)) (l2 := cuTrk c) (je_var 1 rfl (Rl.mono _ _ _ _ ((s5.gg.trans s6.gg).trans s7.gg) rv)) ?_ ?_) o7 fun v8 G8 H8 s8 o8 r8 => wb_nil ?_
      · unfold cuTrk Rl.ls
        rw [List.map_map]
        refine je_lc (ds := c.s.tks ++ c.d.tks) (D := rTk K) (E := fun t => rS t.src) (f := fun t => (barTrk c.s.bars || barTrk c.d.bars) || t.cds.any cdTrk) [("take", 5)] rfl sctracked_sources.nd (blkOk_by rfl) (fun s H C cl fp => pg_name (i := 5) sctracked_sources.nd rfl (.inl rfl))
          (ji_list (je_var 3 rfl (Rl.mono _ _ _ _ s7.gg r6))) (by rw [List.length_append]; omega) (lc_name fun x => rfl) ?_ ?_
        · rintro t ht σ2 G9 g9 ⟨y, rfl, ry⟩ s H C cl fp
          exact jts_one (jt_w (jw_or (jt_val (je_v 4)) fun _ => jw_or1 (jt_val (je_m1 (m_tk_trk T t (Nat.le_trans (n3 t ht) (by decide))) (je_var 5 rfl ry) (rTk_no "tracks" (by decide +kernel) t) hr))))
        · rintro t ht hf σ2 G9 g9 ⟨y, rfl, ry⟩ s H C cl fp
          exact je_fld 0 (je_var 5 rfl ry) (T.c "Take") (T.n "Take" "source")
      · have h1 := allTrk_len (cs := cs.take n) fun c hc => hcs.2 c (List.mem_of_mem_take hc)
        have h2 := cuTrk_len hm
        have h3 : (cs.take n).length ≤ 10 := Nat.le_trans (List.length_take_le' _ _) hcs.1
        omega
      · refine ⟨G8, (((gg.trans s5.gg).trans s6.gg).trans s7.gg).trans s8.gg, o8, (((st.trans o s5).trans o s6).trans o s7).trans o s8, v8, _, _, _, rfl, ?_⟩
        have e : allTrk (cs.take (n + 1)) = allTrk (cs.take n) ++ cuTrk c := by
          unfold allTrk
          rw [List.take_add_one, hc, List.flatMap_append]
          show _ ++ (cuTrk c ++ []) = _
          rw [List.append_nil]
        rw [e]
        exact r8
  · rintro σ' G' H' gg o' ⟨st, v, a, b, c, rfl, rv⟩
    rw [List.length_map, List.take_length] at rv
    exact wb_ret (je_var 1 rfl rv) o' fun v G7 H7 s7 r => k v G7 H7 (st.trans o s7) r
/-! ### what the clauses read -/
theorem clSrcs_len {c : Cl} (h : clSmall c) : (clSrcs c).length ≤ 9 := by
  cases c with
  | tk t =>
    have h : t.cds.length ≤ 4 := h
    have := flat_len cdSrcs_len t.cds
    show (t.src :: t.cds.flatMap cdSrcs).length ≤ 9
    rw [List.length_cons]
    omega
  | fr l =>
    have h : l.length ≤ 4 := h
    show (l.filter notMark).length ≤ 9
    have := List.length_filter_le notMark l
    omega
theorem clLives_len {c : Cl} (h : clSmall c) : (clLives c).length ≤ 9 := by
  cases c with
  | tk t =>
    have h : t.cds.length ≤ 4 := h
    have := flat_len cdLives_len t.cds
    show (t.cds.flatMap cdLives).length ≤ 9
    omega
  | fr l => exact Nat.zero_le _
theorem flat_len' {α β : Type} {f : α → List β} {n : Nat} : ∀ {l : List α}, (∀ x ∈ l, (f x).length ≤ n) → (l.flatMap f).length ≤ l.length * n
  | [], _ => Nat.zero_le _
  | x :: l, hf => by
    rw [List.flatMap_cons, List.length_append, List.length_cons, Nat.succ_mul]
    have := flat_len' (l := l) fun y hy => hf y (List.mem_cons_of_mem _ hy)
    have := hf x List.mem_cons_self
    omega
theorem cu_small {c : Cu} (hc : c.Ok) : (c.s.cls ++ c.d.cls).length ≤ 10 ∧ ∀ x ∈ c.s.cls ++ c.d.cls, clSmall x := by
  refine ⟨?_, fun x hx => ?_⟩
  · have h1 := Kl.len c.s
    have h2 := Kl.len c.d
    have h3 := hc.s.1
    have h4 := hc.d.1
    rw [List.length_append]
    omega
  · rcases List.mem_append.mp hx with h | h
    · exact (clSrcs_ok hc.w (hc.s.cl x h)).1
    · exact (clSrcs_ok hc.w (hc.d.cl x h)).1
theorem allSrcs_len {cs : List Cu} (h : ∀ c ∈ cs, c.Ok) : (allSrcs cs).length ≤ cs.length * 90 ∧ (allLives cs).length ≤ cs.length * 90 := by
  refine ⟨flat_len' fun c hc => ?_, flat_len' fun c hc => ?_⟩
  · obtain ⟨h1, h2⟩ := cu_small (h c hc)
    exact Nat.le_trans (flat_len' fun x hx => clSrcs_len (h2 x hx)) (by omega)
  · obtain ⟨h1, h2⟩ := cu_small (h c hc)
    exact Nat.le_trans (flat_len' fun x hx => clLives_len (h2 x hx)) (by omega)
theorem take_flat {α β : Type} {f : α → List β} {l : List α} {n : Nat} {x : α} (h : l[n]? = some x) : (l.take (n + 1)).flatMap f = (l.take n).flatMap f ++ f x := by
  rw [List.take_add_one, h, List.flatMap_append]
  show _ ++ (f x ++ []) = _
  rw [List.append_nil]
theorem k_read_by_clauses (T : Tx K mg) : C8.Cal P w K mg base 3 "read_by_clauses" (spF csOk (fun cs : List Cu => [Rl.tp K (rCu K) cs]) fun cs => Rl.tpl K [Rl.ls rS (allSrcs cs), Rl.ls rS (allLives cs)]) [] := by
  obtain ⟨fd, F⟩ := T.F_read_by_clauses
  refine cal_pure F (T.g "read_by_clauses") (F.bindsN fun _ _ _ _ _ _ us hl => match us, hl with | [_], _ => rfl) scread_by_clauses (fun _ => rfl) ?_
  intro cdv A outer s0 H0 E cs G H vs Q hr hcs o al k
  obtain ⟨cv, rfl, e1⟩ := AlL.one al
  refine wb_set 1 scread_by_clauses.nd (je_lst ja_nil) o fun v1 G1 H1 s1 o1 r1 => ?_
  refine wb_set 2 scread_by_clauses.nd (je_lst ja_nil) o1 fun v2 G2 H2 s2 o2 r2 => ?_
  refine wb_for (fun n σ' G' H' => Stp none G H G' H' ∧ ∃ v u a b, σ' = [some cv, some v, some u, a, b] ∧ (Rl.ls rS (allSrcs (cs.take n))).p v G' ∧ (Rl.ls rS (allLives (cs.take n))).p u G') PassesOwn.never rfl (pg_name (i := 3) scread_by_clauses.nd rfl (.inl rfl))
    (ji_tup (je_var 0 rfl (Rl.mono _ _ _ _ (s1.gg.trans s2.gg) e1))) o2 (fun G4 H4 s4 o4 => ⟨(s1.trans o s2).trans o s4, v1, v2, _, _, rfl, Rl.mono _ _ _ _ (s2.gg.trans s4.gg) r1, Rl.mono _ _ _ _ s4.gg r2⟩) ?_ ?_
  · rintro Gc gc n R σ' G' H' x hR gg o' ⟨st, v, u, a, b, rfl, rv, ru⟩ G5 H5 s5 o5 rx
    rw [List.getElem?_map] at hR
    cases hc : cs[n]? with
    | none =>
      rw [hc] at hR
      cases hR
    | some c =>
      rw [hc] at hR
      cases hR
      have hm := hcs.2 c (List.mem_of_getElem? hc)
      obtain ⟨hz, hsm⟩ := cu_small hm
      have rx : (rCu K c).p x G5 := rx
      have hl : (cs.take n).length ≤ 10 := Nat.le_trans (List.length_take_le' _ _) hcs.1
      obtain ⟨b1, b2⟩ := allSrcs_len (cs := cs.take n) fun c hc => hcs.2 c (List.mem_of_mem_take hc)
      refine wb_for (fun j σ' G' H' => Stp none G H G' H' ∧ Same Gc G' ∧ ∃ v u b, σ' = [some cv, some v, some u, some x, b] ∧ (Rl.ls rS (allSrcs (cs.take n) ++ ((c.s.cls ++ c.d.cls).take j).flatMap clSrcs)).p v G' ∧ (Rl.ls rS (allLives (cs.take n) ++ ((c.s.cls ++ c.d.cls).take j).flatMap clLives)).p u G') PassesOwn.never rfl (pg_name (i := 4) scread_by_clauses.nd rfl (.inl rfl))
        (ji_tup (je_catTs (l1 := c.s.cls) (l2 := c.d.cls) (je_fld 0 (je_var 3 rfl rx) (T.c "Custom") (T.n "Custom" "sons")) (je_fld 1 (je_var 3 rfl rx) (T.c "Custom") (T.n "Custom" "daughters")) (by rw [Kl.len]; omega) (by rw [← List.length_append]; omega))) o5
        (fun G6 H6 s6 o6 => ⟨(st.trans o s5).trans o s6, (gg.trans s5.gg).trans s6.gg, v, u, _, rfl, by rw [List.take_zero, List.flatMap_nil, List.append_nil]; exact Rl.mono _ _ _ _ (s5.gg.trans s6.gg) rv, by rw [List.take_zero, List.flatMap_nil, List.append_nil]; exact Rl.mono _ _ _ _ (s5.gg.trans s6.gg) ru⟩) ?_ ?_
      · rintro Gd gd j R2 σ2 G7 H7 y hR2 gg2 o7 ⟨st2, gg3, v3, u3, b3, rfl, rv3, ru3⟩ G8 H8 s8 o8 ry
        rw [List.getElem?_map] at hR2
        cases hcl : (c.s.cls ++ c.d.cls)[j]? with
        | none =>
          rw [hcl] at hR2
          cases hR2
        | some cl =>
          rw [hcl] at hR2
          cases hR2
          have hs := hsm cl (List.mem_of_getElem? hcl)
          have q1 : ((c.s.cls ++ c.d.cls).take j).length ≤ 10 := Nat.le_trans (List.length_take_le' _ _) hz
          have q2 := flat_len' (l := (c.s.cls ++ c.d.cls).take j) (f := clSrcs) (n := 9) fun x hx => clSrcs_len (hsm x (List.mem_of_mem_take hx))
          have q3 := flat_len' (l := (c.s.cls ++ c.d.cls).take j) (f := clLives) (n := 9) fun x hx => clLives_len (hsm x (List.mem_of_mem_take hx))
          have q4 := clSrcs_len hs
          have q5 := clLives_len hs
          refine wb_set 1 scread_by_clauses.nd (je_catLs (l2 := clSrcs cl) (je_var 1 rfl (Rl.mono _ _ _ _ s8.gg rv3)) (je_listT (je_m1 (m_cl_srcs T cl hs) (je_var 4 rfl ry) (rCl_no "read_sources" (by decide +kernel) cl) hr) (T.f "list")) (by rw [List.length_append]; omega)) o8 fun v9 G9 H9 s9 o9 r9 => ?_
          refine wb_set 2 scread_by_clauses.nd (je_catLs (l2 := clLives cl) (je_var 2 rfl (Rl.mono _ _ _ _ (s8.gg.trans s9.gg) ru3)) (je_listT (je_m1 (m_cl_lives T cl hs) (je_var 4 rfl (Rl.mono _ _ _ _ s9.gg ry)) (rCl_no "read_lives" (by decide +kernel) cl) hr) (T.f "list")) (by rw [List.length_append]; omega)) o9 fun v10 G10 H10 s10 o10 r10 => wb_nil ?_
          refine ⟨G10, ((gg2.trans s8.gg).trans s9.gg).trans s10.gg, o10, ((st2.trans o s8).trans o s9).trans o s10, ((gg3.trans s8.gg).trans s9.gg).trans s10.gg, v9, v10, _, rfl, ?_, ?_⟩
          · rw [take_flat hcl, ← List.append_assoc]
            exact Rl.mono _ _ _ _ s10.gg r9
          · rw [take_flat hcl, ← List.append_assoc]
            exact r10
      · rintro σ' G11 H11 gg11 o11 ⟨st11, gg12, v12, u12, b12, rfl, rv12, ru12⟩
        rw [List.length_map, List.take_length] at rv12 ru12
        refine wb_nil ⟨G11, gg12, o11, st11, v12, u12, _, _, rfl, ?_, ?_⟩
        · unfold allSrcs
          rw [take_flat hc]
          exact rv12
        · unfold allLives
          rw [take_flat hc]
          exact ru12
  · rintro σ' G' H' gg o' ⟨st, v, u, a, b, rfl, rv, ru⟩
    rw [List.length_map, List.take_length] at rv ru
    exact wb_ret (je_tup (l := [Rl.ls rS (allSrcs cs), Rl.ls rS (allLives cs)]) (ja_cons (je_var 1 rfl rv) (ja_cons (je_var 2 rfl ru) ja_nil))) o' fun v G7 H7 s7 r => k v G7 H7 (st.trans o s7) r
/-! ### who asks for the number -/
theorem k_asks_number (T : Tx K mg) : C8.Cal P w K mg base 3 "asks_number" (spF (fun d : List Cu × Str => csOk d.1 ∧ kindOk d.2) (fun d => [Rl.tp K (rCu K) d.1, rS d.2]) fun d => rB (d.1.any fun c => klNum (c.kl d.2))) [] := by
  obtain ⟨fd, F⟩ := T.F_asks_number
  refine cal_pure F (T.g "asks_number") (F.bindsN fun _ _ _ _ _ _ us hl => match us, hl with | [_, _], _ => rfl) scasks_number (fun _ => rfl) ?_
  rintro cdv A outer s0 H0 E ⟨cs, kd⟩ G H vs Q hr ⟨hcs, hk⟩ o al k
  have hcs : csOk cs := hcs
  have hk : kindOk kd := hk
  have k : ∀ v G' H', Stp none G H G' H' → (rB (cs.any fun c => klNum (c.kl kd))).p v G' → Q v H' := k
  obtain ⟨cv, _, rfl, e1, e2⟩ := AlL.two al
  cases e2
  have e1 : (Rl.tp K (rCu K) cs).p cv G := e1
  refine wb_for (fun n σ' G' H' => Stp none G H G' H' ∧ (∃ a, σ' = [some cv, some (.str kd), a, none]) ∧ ((cs.take n).any fun c => klNum (c.kl kd)) = false) PassesOwn.never rfl (pg_name (i := 2) scasks_number.nd rfl (.inl rfl))
    (ji_tup (je_var 0 rfl e1)) o (fun G4 H4 s4 o4 => ⟨s4, ⟨_, rfl⟩, rfl⟩) ?_ ?_
  · rintro Gc gc n R σ' G' H' x hR gg o' ⟨st, ⟨a, rfl⟩, hno⟩ G5 H5 s5 o5 rx
    rw [List.getElem?_map] at hR
    cases hc : cs[n]? with
    | none =>
      rw [hc] at hR
      cases hR
    | some c =>
      rw [hc] at hR
      cases hR
      have hcm := List.mem_of_getElem? hc
      have hm := hcs.2 c hcm
      obtain ⟨n1, n2, n3⟩ := kl_tks hm
      have rx : (rCu K c).p x G5 := rx
      have hkl : (c.kl kd).tks.length ≤ 4 ∧ ∀ t ∈ (c.kl kd).tks, t.cds.length ≤ 4 := by
        unfold Cu.kl
        split
        · exact ⟨n1, fun t ht => n3 t (List.mem_append_left _ ht)⟩
        · exact ⟨n2, fun t ht => n3 t (List.mem_append_right _ ht)⟩
      refine wb_if (P := isB (klNum (c.kl kd))) (jt_flip (jt_gt (je_lenL (je_lc (ds := (c.kl kd).tks) (D := rTk K) (E := rTk K) (f := fun t => t.cds.any cdNum) [("take", 3)] rfl scasks_number.nd (blkOk_by rfl) (fun s H C cl fp => pg_name (i := 3) scasks_number.nd rfl (.inl rfl))
        (ji_tup (je_takes (je_mt (c, kd) (m_clauses T) hk rfl (je_var 2 rfl rx) (rCu_no "clauses" (by decide +kernel) c) (ja_cons (je_v 1) ja_nil) hr) (je_neg je_int))) (by omega) (lc_name fun x => rfl) ?_ ?_) (T.f "len")) je_int) (any_len _)) o5 (fun h G6 H6 s6 o6 => ?_) (fun h G6 H6 s6 o6 => ?_)
      · rintro t ht σ2 G9 g9 ⟨y, rfl, ry⟩ s H C cl fp
        exact jts_one (jt_val (je_m1 (m_tk_num T t (Nat.le_trans (hkl.2 t ht) (by decide))) (je_var 3 rfl ry) (rTk_no "asks_number" (by decide +kernel) t) hr))
      · rintro t ht hf σ2 G9 g9 ⟨y, rfl, ry⟩ s H C cl fp
        exact je_var 3 rfl ry
      · have e : (cs.any fun c => klNum (c.kl kd)) = true := List.any_eq_true.mpr ⟨c, hcm, h.symm⟩
        rw [e] at k
        exact wb_ret je_bl o6 fun v G7 H7 s7 r => k v G7 H7 (((st.trans o s5).trans o s6).trans o s7) r
      · refine wb_nil (wb_nil ⟨G6, (gg.trans s5.gg).trans s6.gg, o6, (st.trans o s5).trans o s6, ⟨_, rfl⟩, ?_⟩)
        rw [List.take_add_one, hc, List.any_append, hno, Bool.false_or]
        show (klNum (c.kl kd) || false) = false
        rw [Bool.or_false]
        exact h.symm
  · rintro σ' G' H' gg o' ⟨st, ⟨a, rfl⟩, hno⟩
    rw [List.length_map, List.take_length] at hno
    rw [hno] at k
    exact wb_ret je_bl o' fun v G7 H7 s7 r => k v G7 H7 (st.trans o s7) r
end
end Nk
namespace Nk
open PySem PySem.Spec PyProof.Rows L2
/-! ### what is reached -/
inductive Rch (cs : List Cu) (first : List (Str × Str)) : Str × Str → Prop
  | base {q : Str × Str} (h : q ∈ first) : Rch cs first q
  | step {p q : Str × Str} (h : Rch cs first p) (hq : q ∈ needs cs p) : Rch cs first q
theorem mem_univ {p : Str × Str} : p ∈ univ ↔ kindOk p.1 ∧ p.2 ∈ places := by
  obtain ⟨a, b⟩ := p
  unfold univ kindOk
  rw [List.mem_append, List.mem_map, List.mem_map]
  constructor
  · rintro (⟨x, hx, e⟩ | ⟨x, hx, e⟩)
    · cases e
      exact ⟨.inl rfl, hx⟩
    · cases e
      exact ⟨.inr rfl, hx⟩
  · rintro ⟨h | h, hb⟩
    · have h : a = "s" := h
      subst h
      exact .inl ⟨b, hb, rfl⟩
    · have h : a = "d" := h
      subst h
      exact .inr ⟨b, hb, rfl⟩
theorem pkd_ok (s : Str) : kindOk (pkd s) := by
  unfold pkd kindOk
  split
  · exact .inl rfl
  · exact .inr rfl
theorem okd_ok (s : Str) : kindOk (okd s) := by
  unfold okd kindOk
  split
  · exact .inr rfl
  · exact .inl rfl
theorem dot_mem {j : Nat} (h : j < 2) : dot j ∈ places := by
  have : j = 0 ∨ j = 1 := by omega
  rcases this with rfl | rfl <;> decide +kernel
theorem plc_mem : (places.all fun s => decide (s = "") || (hpl s).isSome || decide (tl1 s ∈ places)) = true := by decide +kernel
theorem hneed_univ {c : Cu} (hc : c.Ok) (kd : Str) (i : Nat) : ∀ q ∈ hneed c kd i, q ∈ univ := by
  intro q hq
  have hw2 := hc.w
  have hwo : ∀ r ∈ c.wed kd, r.Ok c.house.length := by
    unfold Cu.wed
    split
    · exact hc.sw
    · exact hc.dw
  unfold hneed at hq
  rcases List.mem_append.mp hq with h | h
  · cases e : c.house[i]? with
    | none =>
      rw [e] at h
      cases h
    | some r =>
      rw [e] at h
      have hr := hc.h r (List.mem_of_getElem? e)
      cases r with
      | par l j =>
        rw [List.mem_singleton.mp h]
        have hj : j < c.house.length := hr.2
        exact mem_univ.mpr ⟨pkd_ok l, dot_mem (by omega)⟩
      | giv x =>
        rw [List.mem_singleton.mp h]
        exact mem_univ.mpr ⟨pkd_ok x, (by decide +kernel : ("" : Str) ∈ places)⟩
  · cases e : (c.wed kd)[i]? with
    | none =>
      rw [e] at h
      cases h
    | some u =>
      rw [e] at h
      have hu := hwo u (List.mem_of_getElem? e)
      cases u with
      | own => cases h
      | mate j =>
        rw [List.mem_singleton.mp h]
        have hj : j < c.house.length := hu
        exact mem_univ.mpr ⟨okd_ok kd, dot_mem (by omega)⟩
theorem needs_univ {cs : List Cu} (hcs : ∀ c ∈ cs, c.Ok) {p : Str × Str} (hp : p ∈ univ) : ∀ q ∈ needs cs p, q ∈ univ := by
  intro q hq
  have hm := (mem_univ.mp hp).2
  unfold needs at hq
  cases e : hpl p.2 with
  | some i =>
    rw [e] at hq
    obtain ⟨c, hc, h⟩ := List.mem_flatMap.mp hq
    exact hneed_univ (hcs c hc) _ _ q h
  | none =>
    rw [e] at hq
    simp only at hq
    by_cases h0 : p.2 = ""
    · rw [if_pos h0] at hq
      cases hq
    · rw [if_neg h0] at hq
      rw [List.mem_singleton.mp hq]
      refine mem_univ.mpr ⟨pkd_ok _, ?_⟩
      have h1 := List.all_eq_true.mp plc_mem p.2 hm
      rw [decide_eq_false h0, e] at h1
      exact decide_eq_true_iff.mp h1
theorem needs_len {cs : List Cu} (h : cs.length ≤ 10) (p : Str × Str) : (needs cs p).length ≤ 20 := by
  unfold needs
  cases hpl p.2 with
  | some i =>
    have := flat_len (fun c => hneed_len c p.1 i) cs
    show (cs.flatMap fun c => hneed c p.1 i).length ≤ 20
    omega
  | none =>
    show (if p.2 = "" then [] else [plc p.2]).length ≤ 20
    split
    · decide
    · exact Nat.le_of_ble_eq_true rfl
theorem Rch.univ {cs : List Cu} (hcs : ∀ c ∈ cs, c.Ok) {first : List (Str × Str)} (hf : ∀ q ∈ first, q ∈ univ) {q : Str × Str} (h : Rch cs first q) : q ∈ univ := by
  induction h with
  | base h => exact hf _ h
  | step _ hq ih => exact needs_univ hcs ih _ hq
theorem prs_univ {l : List (Str × Str)} (h : ∀ q ∈ l, q ∈ univ) : l.all prS = true := by
  have hu : univ.all prS = true := by decide +kernel
  exact List.all_eq_true.mpr fun q hq => List.all_eq_true.mp hu q (h q hq)
theorem nodup_len {α : Type} [DecidableEq α] : ∀ {l m : List α}, l.Nodup → (∀ x ∈ l, x ∈ m) → l.length ≤ m.length
  | [], _, _, _ => Nat.zero_le _
  | x :: l, m, nd, h => by
    obtain ⟨h1, h2⟩ := List.nodup_cons.mp nd
    have hx : x ∈ m := h x List.mem_cons_self
    have := nodup_len (l := l) (m := m.erase x) h2 fun y hy => (List.mem_erase_of_ne (fun e => h1 (by rw [← e]; exact hy))).mpr (h y (List.mem_cons_of_mem _ hy))
    rw [List.length_erase_of_mem hx] at this
    have := List.length_pos_of_mem hx
    rw [List.length_cons]
    omega
theorem nodup_le {l : List (Str × Str)} (nd : l.Nodup) (h : ∀ q ∈ l, q ∈ univ) : l.length ≤ 18 := by
  exact Nat.le_trans (nodup_len nd h) (by decide +kernel)
section
variable {P : Program} {w : World} {K : PySem.W.Frag} {mg : Str → Option Value} {base : Heap}
/-- a list of pairs with these members -/
abbrev rMem (K : PySem.W.Frag) (M : Str × Str → Prop) : Rl := Rl.ex fun l : List (Str × Str) => Rl.pr ((∀ q, q ∈ l ↔ M q) ∧ l.length ≤ 1000) (Rl.ls (rPr K) l)
theorem k_closed (T : Tx K mg) : C8.Cal P w K mg base 5 "closed" (spF (fun d : List Cu × List (Str × Str) => csOk d.1 ∧ d.2.length ≤ 10000 ∧ ∀ q ∈ d.2, q ∈ univ) (fun d => [Rl.tp K (rCu K) d.1, Rl.ls (rPr K) d.2]) fun d => rMem K (Rch d.1 d.2)) [] := by
  obtain ⟨fd, F⟩ := T.F_closed
  refine cal_pure F (T.g "closed") (F.bindsN fun _ _ _ _ _ _ us hl => match us, hl with | [_, _], _ => rfl) scclosed (fun _ => rfl) ?_
  rintro cdv A outer s0 H0 E ⟨cs, first⟩ G H vs Q hr ⟨hcs, hfl, hfu⟩ o al k
  have hcs : csOk cs := hcs
  have hfl : first.length ≤ 10000 := hfl
  have hfu : ∀ q ∈ first, q ∈ univ := hfu
  obtain ⟨cv, fv, rfl, e1, e2⟩ := AlL.two al
  have e1 : (Rl.tp K (rCu K) cs).p cv G := e1
  have e2 : (Rl.ls (rPr K) first).p fv G := e2
  have nn : ∀ {p : Addr}, ∀ h : Hd, none = some h → p ≠ h.a := fun _ e => by cases e
  refine wb_new (m := none) (G0 := G) (H0 := H) 2 scclosed.nd (l := []) ja_nil o (.refl o) (Nat.zero_le _) fun pf xf G1 H1 st1 g1 wf1 _ => ?_
  refine wb_newList (m := none) (G0 := G) (H0 := H) 3 scclosed.nd (je_var 1 rfl (Rl.mono _ _ _ _ g1 e2)) o st1 (fun pt xt G2 H2 st2 g2 wt2 kp2 nw2 => ?_) (T.f "list")
  have wf2 : Own pf xf ([] : List Rl) H G2 H2 := ⟨wf1.h0, by rw [nw2 pf (by rw [wf1.h]; exact fun z => nomatch z)]; exact wf1.g, (kp2 pf _ .no wf1.h).1, wf1.al.mono g2⟩
  have npt : pf ≠ pt := (kp2 pf _ .no wf1.h).2
  refine wb_whileA (fun n σ' G' H' => Stp none G H G' H' ∧ ∃ pf pt xf xt a lf lt, σ' = [some cv, some fv, some (.ref pf), some (.ref pt), a] ∧ pf ≠ pt ∧ Own pf xf ((lf : List (Str × Str)).map (rPr K)) H G' H' ∧ Own pt xt ((lt : List (Str × Str)).map (rPr K)) H G' H' ∧
      lf.Nodup ∧ (∀ q ∈ lf, Rch cs first q) ∧ (∀ q ∈ lt, Rch cs first q) ∧ (∀ q ∈ first, q ∈ lf ∨ q ∈ lt) ∧ (∀ q ∈ lf, ∀ r ∈ needs cs q, r ∈ lf ∨ r ∈ lt) ∧ lt.length ≤ 10000 + 20 * lf.length ∧ n = (18 - lf.length) * 100 + lt.length)
    (18 * 100 + first.length) PassesOwn.never (st2.okm o) ⟨st2, pf, pt, xf, xt, _, [], first, rfl, npt, wf2, wt2, List.nodup_nil, (fun q h => by cases h), (fun q h => .base h), (fun q h => .inr h), (fun q h => by cases h), by omega, rfl⟩ ?_
  rintro n σ' G3 H3 g3 o3 ⟨st, pf, pt, xf, xt, a, lf, lt, rfl, npt, wf, wt, nd, rf, rt, hb, hcl, hlt, rfl⟩
  have huf : ∀ q ∈ lf, q ∈ univ := fun q h => (rf q h).univ hcs.2 hfu
  have hut : ∀ q ∈ lt, q ∈ univ := fun q h => (rt q h).univ hcs.2 hfu
  have hlf := nodup_le nd huf
  refine ⟨decide ((0 : Int) < (lt.length : Nat)), ?_, fun hq G4 H4 s4 o4 => ?_, fun hq G4 H4 s4 o4 => ?_⟩
  · exact JT.own (jt_gt (je_lenLs (ds := lt) (D := rPr K) (je_var 3 rfl (wt.tell (m := none) (G0 := G) o st).2.2) (T.f "len")) je_int) o3 wt.g wt.h fun _ e => by cases e
  · have hne : 0 < lt.length := by
      have := decide_eq_true_iff.mp hq
      omega
    obtain ⟨l0, q0, el⟩ : ∃ l0 q0, lt = l0 ++ [q0] := ⟨lt.dropLast, lt.getLast (by intro e; rw [e] at hne; cases hne), (List.dropLast_concat_getLast _).symm⟩
    subst el
    have st4 := st.trans o s4
    have wf4 := wf.step (m := none) nn s4
    have wt4 := wt.step (m := none) nn s4
    rw [List.map_append, List.map_singleton] at wt4
    refine wb_pop (m := none) (G0 := G) 4 3 scclosed.nd rfl wt4 o st4 fun v ys H5 st5 wt5 rv kp5 => ?_
    have hq0 : q0 ∈ univ := hut q0 (List.mem_append_right _ (List.mem_singleton.mpr rfl))
    have rq0 : Rch cs first q0 := rt q0 (List.mem_append_right _ (List.mem_singleton.mpr rfl))
    have wf5 : Own pf xf (lf.map (rPr K)) H G4 H5 := ⟨wf4.h0, wf4.g, by rw [kp5 pf npt]; exact wf4.h, wf4.al⟩
    have o5 := st5.okm o
    obtain ⟨t1, t2, t3⟩ := wf5.tell (m := none) (G0 := G) o st5
    refine wb_ifA (P := isB (!lf.contains q0)) (JT.own (jt_niP hr (List.all_eq_true.mp (prs_univ hut) q0 (List.mem_append_right _ (List.mem_singleton.mpr rfl))) (prs_univ huf) (je_var 4 rfl (Rl.mono _ _ _ _ t2 rv)) (je_var 2 rfl t3)) o5 wf5.g wf5.h fun _ e => by cases e) o5 (fun h G6 H6 s6 o6 => ?_) (fun h G6 H6 s6 o6 => ?_)
    · have hni : q0 ∉ lf := fun hm => by
        have h := bT h
        rw [List.contains_iff_mem.mpr hm] at h
        cases h
      have st6 := st5.trans o s6
      have wf6 := wf5.step (m := none) nn s6
      have wt6 := wt5.step (m := none) nn s6
      have rv6 := Rl.mono _ _ _ _ s6.gg rv
      refine wb_put (m := none) (G0 := G) 2 rfl o st6 wf6 (R := rPr K q0) (je_var 4 rfl rv6) (by rw [List.length_map]; omega) fun v7 G7 H7 st7 g7 wf7 kp7 nn7 => ?_
      have wt7 : Own pt ys (l0.map (rPr K)) H G7 H7 := ⟨wt6.h0, nn7 pt (by rw [wt6.h]; exact fun z => nomatch z) wt6.g, kp7 pt _ (fun e => npt e.symm) .no wt6.h, wt6.al.mono g7⟩
      have rv7 := Rl.mono _ _ _ _ g7 rv6
      have o7 := st7.okm o
      have hg17 : Same G G7 := st7.gg
      have hpk : kindOk q0.1 ∧ q0.2 ∈ places := mem_univ.mp hq0
      refine wb_catOwn (m := none) (G0 := G) 3 3 scclosed.nd rfl wt7 (l2 := (needs cs q0).map (rPr K)) (je_call (cs, q0.1, q0.2) (k_place_needs T) ⟨hcs, hpk.1, List.all_eq_true.mp places_ok _ hpk.2⟩ (ja_cons (je_var 0 rfl (Rl.mono _ _ _ _ hg17 e1)) (ja_cons (je_ixT (l := [rS q0.1, rS q0.2]) (je_var 4 rfl rv7) je_int) (ja_cons (je_ixT (l := [rS q0.1, rS q0.2]) (je_var 4 rfl rv7) je_int) ja_nil))) hr) o st7 ?_ fun pn yn G8 H8 st8 g8 wn8 kp8 ne8 nw8 => wb_nil (wb_nil ?_)
      · have := needs_len hcs.1 q0
        rw [List.length_map, List.length_map]
        rw [List.length_append] at hlt
        omega
      · have wf8 : Own pf _ (lf.map (rPr K) ++ [rPr K q0]) H G8 H8 := ⟨wf7.h0, by rw [nw8 pf (by rw [wf7.h]; exact fun z => nomatch z)]; exact wf7.g, kp8 pf _ .no wf7.h, wf7.al.mono g8⟩
        have eml : (lf ++ [q0]).map (rPr K) = lf.map (rPr K) ++ [rPr K q0] := by rw [List.map_append] <;> rfl
        have enl : (l0 ++ needs cs q0).map (rPr K) = l0.map (rPr K) ++ (needs cs q0).map (rPr K) := List.map_append
        have hnd : (lf ++ [q0]).Nodup := by
          rw [List.nodup_append]
          refine ⟨nd, by simp, fun x hx y hy e => ?_⟩
          rw [List.mem_singleton.mp hy] at e
          exact hni (e ▸ hx)
        have hlf2 := nodup_le hnd fun q hq => by
          rcases List.mem_append.mp hq with h | h
          · exact huf q h
          · rw [List.mem_singleton.mp h]
            exact hq0
        have hnl := needs_len hcs.1 q0
        rw [List.length_append, List.length_singleton] at hlf2 hlt
        refine ⟨(18 - (lf ++ [q0]).length) * 100 + (l0 ++ needs cs q0).length, ?_, G8, (((g3.trans s4.gg).trans s6.gg).trans g7).trans g8, st8.okm o, st8, pf, pn, _, yn, _, lf ++ [q0], l0 ++ needs cs q0, rfl, ne8 pf _ wf7.h, by rw [eml]; exact wf8, by rw [enl]; exact wn8, hnd, ?_, ?_, ?_, ?_, ?_, rfl⟩
        · rw [List.length_append, List.length_append, List.length_append, List.length_singleton]
          omega
        · intro q hq
          rcases List.mem_append.mp hq with h | h
          · exact rf q h
          · rw [List.mem_singleton.mp h]
            exact rq0
        · intro q hq
          rcases List.mem_append.mp hq with h | h
          · exact rt q (List.mem_append_left _ h)
          · exact .step rq0 h
        · intro q hq
          rcases hb q hq with h | h
          · exact .inl (List.mem_append_left _ h)
          · rcases List.mem_append.mp h with h | h
            · exact .inr (List.mem_append_left _ h)
            · exact .inl (List.mem_append_right _ h)
        · intro q hq r hrr
          rcases List.mem_append.mp hq with h | h
          · rcases hcl q h r hrr with h | h
            · exact .inl (List.mem_append_left _ h)
            · rcases List.mem_append.mp h with h | h
              · exact .inr (List.mem_append_left _ h)
              · exact .inl (List.mem_append_right _ h)
          · rw [List.mem_singleton.mp h] at hrr
            exact .inr (List.mem_append_right _ hrr)
        · rw [List.length_append, List.length_append, List.length_singleton]
          omega
    · have hin : q0 ∈ lf := List.contains_iff_mem.mp (bF h)
      have st6 := st5.trans o s6
      have wf6 := wf5.step (m := none) nn s6
      have wt6 := wt5.step (m := none) nn s6
      rw [List.length_append, List.length_singleton] at hlt
      refine wb_nil (wb_nil ⟨(18 - lf.length) * 100 + l0.length, by rw [List.length_append, List.length_singleton]; omega, G6, (g3.trans s4.gg).trans s6.gg, o6, st6, pf, pt, xf, ys, _, lf, l0, rfl, npt, wf6, wt6, nd, rf, fun q hq => rt q (List.mem_append_left _ hq), ?_, ?_, by omega, rfl⟩)
      · intro q hq
        rcases hb q hq with h | h
        · exact .inl h
        · rcases List.mem_append.mp h with h | h
          · exact .inr h
          · rw [List.mem_singleton.mp h]
            exact .inl hin
      · intro q hq r hrr
        rcases hcl q hq r hrr with h | h
        · exact .inl h
        · rcases List.mem_append.mp h with h | h
          · exact .inr h
          · rw [List.mem_singleton.mp h]
            exact .inl hin
  · have hz : lt.length = 0 := by
      have := decide_eq_false_iff_not.mp hq
      omega
    have hz : lt = [] := List.length_eq_zero_iff.mp hz
    subst hz
    have st4 := st.trans o s4
    have wf4 := wf.step (m := none) nn s4
    obtain ⟨t1, t2, t3⟩ := wf4.tell (m := none) (G0 := G) o st4
    refine wb_ret (R := rMem K (Rch cs first)) (je_var 2 rfl ⟨lf, ⟨fun q => ⟨rf q, fun h => ?_⟩, by omega⟩, t3⟩) (t1.okm o) fun v G6 H6 s6 r => k v G6 H6 (t1.trans o s6) r
    induction h with
    | base h =>
      rcases hb _ h with h | h
      · exact h
      · cases h
    | step _ hq ih =>
      rcases hcl _ ih _ hq with h | h
      · exact h
      · cases h
end
end Nk
namespace Nk
open PySem PySem.Spec PyProof.Rows L2
def lifeF : Nat → Str → List (Str × Str)
  | 0, _ => []
  | n + 1, s => if 1 < s.length then plc s :: lifeF n (tl1 s) else []
def lifeR (s : Str) : List (Str × Str) := lifeF s.length s
def lifeOk (s : Str) : Bool := if 1 < s.length then decide (lifeR s = plc s :: lifeR (tl1 s)) && decide (tl1 s ∈ ways13) && decide ((tl1 s).length < s.length) && decide (plc s ∈ univ) && decide (s.length ≤ 600) else decide (lifeR s = []) && decide (s.length ≤ 600)
theorem life_ok : ways13.all lifeOk = true := by decide +kernel
theorem life_of {s : Str} (h : s ∈ ways13) : s.length ≤ 600 ∧ ((1 < s.length → lifeR s = plc s :: lifeR (tl1 s) ∧ tl1 s ∈ ways13 ∧ (tl1 s).length < s.length ∧ plc s ∈ univ) ∧ (¬ 1 < s.length → lifeR s = [])) := by
  have h1 := List.all_eq_true.mp life_ok s h
  unfold lifeOk at h1
  by_cases hl : 1 < s.length
  · rw [if_pos hl] at h1
    simp only [Bool.and_eq_true, decide_eq_true_eq] at h1
    exact ⟨h1.2, fun _ => ⟨h1.1.1.1.1, h1.1.1.1.2, h1.1.1.2, h1.1.2⟩, fun n => absurd hl n⟩
  · rw [if_neg hl] at h1
    simp only [Bool.and_eq_true, decide_eq_true_eq] at h1
    exact ⟨h1.2, fun n => absurd n hl, fun _ => h1.1⟩
section
variable {P : Program} {w : World} {K : PySem.W.Frag} {mg : Str → Option Value} {base : Heap}
theorem k_closed_lives (T : Tx K mg) : C8.Cal P w K mg base 2 "closed_lives" (spF (fun ways : List Str => ways.length ≤ 10000 ∧ ∀ s ∈ ways, s ∈ ways13) (fun ways => [Rl.ls rS ways]) fun ways => rMem K fun q => ∃ s ∈ ways, q ∈ lifeR s) [] := by
  obtain ⟨fd, F⟩ := T.F_closed_lives
  refine cal_pure F (T.g "closed_lives") (F.bindsN fun _ _ _ _ _ _ us hl => match us, hl with | [_], _ => rfl) scclosed_lives (fun _ => rfl) ?_
  rintro cdv A outer s0 H0 E ways G H vs Q hr ⟨hl, hw⟩ o al k
  obtain ⟨wv, rfl, e1⟩ := AlL.one al
  have nn : ∀ {p : Addr}, ∀ h : Hd, none = some h → p ≠ h.a := fun _ e => by cases e
  refine wb_new (m := none) (G0 := G) (H0 := H) 1 scclosed_lives.nd (l := []) ja_nil o (.refl o) (Nat.zero_le _) fun pf xf G1 H1 st1 g1 wf1 _ => ?_
  refine wb_for (fun i σ' G' H' => Stp none G H G' H' ∧ ∃ xf a b c lf, σ' = [some wv, some (.ref pf), a, b, c] ∧ Own pf xf ((lf : List (Str × Str)).map (rPr K)) H G' H' ∧ lf.Nodup ∧ (∀ q ∈ lf, q ∈ univ) ∧ ∀ q, q ∈ lf ↔ ∃ s ∈ ways.take i, q ∈ lifeR s) PassesOwn.never rfl (pg_name (i := 2) scclosed_lives.nd rfl (.inl rfl))
    (ji_list (je_var 0 rfl (Rl.mono _ _ _ _ g1 e1))) (st1.okm o) (fun G2 H2 s2 o2 => ⟨st1.trans o s2, xf, _, _, _, [], rfl, wf1.step (m := none) nn s2, List.nodup_nil, (fun q h => by cases h), fun q => ⟨fun h => (by cases h), fun ⟨s, h, _⟩ => (by cases h)⟩⟩) ?_ ?_
  · rintro Gc gc i R σ' G' H' x hR gg o' ⟨st, xf, a, b, c, lf, rfl, wf, nd, hu, hm⟩ G2 H2 s2 o2 rx
    rw [List.getElem?_map] at hR
    cases hc : ways[i]? with
    | none =>
      rw [hc] at hR
      cases hR
    | some way =>
      rw [hc] at hR
      cases hR
      cases rx
      have hwy : way ∈ ways13 := hw way (List.mem_of_getElem? hc)
      have etk : ∀ s, s ∈ ways.take (i + 1) ↔ s ∈ ways.take i ∨ s = way := fun s => by
        rw [List.take_add_one, hc, List.mem_append]
        show _ ∨ s ∈ [way] ↔ _
        rw [List.mem_singleton]
      have st2 := st.trans o s2
      refine wb_set 3 scclosed_lives.nd (je_v 2) o2 fun v3 G3 H3 s3 o3 r3 => ?_
      cases r3
      have st3 := st2.trans o s3
      refine wb_whileA (fun n σ' G' H' => Stp none G H G' H' ∧ Same Gc G' ∧ ∃ xf c lf rest, σ' = [some wv, some (.ref pf), some (.str way), some (.str rest), c] ∧ Own pf xf ((lf : List (Str × Str)).map (rPr K)) H G' H' ∧ lf.Nodup ∧ (∀ q ∈ lf, q ∈ univ) ∧ rest ∈ ways13 ∧
          (∀ q ∈ lf, ∃ s ∈ ways.take (i + 1), q ∈ lifeR s) ∧ (∀ s ∈ ways.take i, ∀ q ∈ lifeR s, q ∈ lf) ∧ (∀ q ∈ lifeR way, q ∈ lf ∨ q ∈ lifeR rest) ∧ (∀ q ∈ lifeR rest, q ∈ lifeR way) ∧ n = rest.length)
        way.length PassesOwn.never o3 ⟨st3, (gg.trans s2.gg).trans s3.gg, xf, _, lf, way, rfl, (wf.step (m := none) nn s2).step (m := none) nn s3, nd, hu, hwy, fun q hq => ?_, fun s hs q hq => (hm q).mpr ⟨s, hs, hq⟩, fun q h => .inr h, fun q h => h, rfl⟩ ?_
      · obtain ⟨s, h1, h2⟩ := (hm q).mp hq
        exact ⟨s, (etk s).mpr (.inl h1), h2⟩
      rintro n σ' G4 H4 g4 o4 ⟨st4, gc4, xf4, c4, lf4, rest, rfl, wf4, nd4, hu4, hrw, h1, h2, h3, h4, rfl⟩
      obtain ⟨hlen, hyes, hno⟩ := life_of hrw
      have hl1000 : rest.length ≤ 1000 := Nat.le_trans hlen (by decide)
      refine ⟨decide ((1 : Int) < (rest.length : Nat)), (jt_gt (je_lenS (je_v 3) hl1000 (T.f "len")) je_int).at_ o4, fun hq G5 H5 s5 o5 => ?_, fun hq G5 H5 s5 o5 => ?_⟩
      · have hgt : 1 < rest.length := by
          have := decide_eq_true_iff.mp hq
          omega
        obtain ⟨q1, q2, q3, q4⟩ := hyes hgt
        obtain ⟨ch, c1, c2⟩ := hd1_at (s := rest) (by omega)
        refine wb_set 4 scclosed_lives.nd (R := rPr K (plc rest)) (je_tup (l := [rS (pkd (hd1 rest)), rS (tl1 rest)]) (ja_cons (je_call (hd1 rest) (k_parent_kind T) trivial (ja_cons (R := rS (hd1 rest)) (by rw [c2]; exact je_ixS (je_v 3) je_int hl1000 c1) ja_nil) hr) (ja_cons (je_slS (je_v 3) je_int hl1000) ja_nil))) o5 fun v6 G6 H6 s6 o6 r6 => ?_
        have st6 := (st4.trans o s5).trans o s6
        have wf6 := (wf4.step (m := none) nn s5).step (m := none) nn s6
        obtain ⟨t1, t2, t3⟩ := wf6.tell (m := none) (G0 := G) o st6
        refine wb_ifA (P := isB (!lf4.contains (plc rest))) (JT.own (jt_niP hr (List.all_eq_true.mp (prs_univ (l := [plc rest]) fun q h => by rw [List.mem_singleton.mp h]; exact q4) _ (List.mem_singleton.mpr rfl)) (prs_univ hu4) (je_var 4 rfl (Rl.mono _ _ _ _ t2 r6)) (je_var 1 rfl t3)) o6 wf6.g wf6.h fun _ e => by cases e) o6 (fun h G7 H7 s7 o7 => ?_) (fun h G7 H7 s7 o7 => ?_)
        · have hni : plc rest ∉ lf4 := fun hm => by
            have h := bT h
            rw [List.contains_iff_mem.mpr hm] at h
            cases h
          have hb := nodup_le nd4 hu4
          refine wb_put (m := none) (G0 := G) 1 rfl o (st6.trans o s7) (wf6.step (m := none) nn s7) (R := rPr K (plc rest)) (je_var 4 rfl (Rl.mono _ _ _ _ s7.gg r6)) (by rw [List.length_map]; omega) fun v8 G8 H8 st8 g8 wf8 kp8 nn8 => wb_nil ?_
          refine wb_set 3 scclosed_lives.nd (je_slS (je_v 3) je_int hl1000) (st8.okm o) fun v9 G9 H9 s9 o9 r9 => wb_nil ?_
          cases r9
          have eml : (lf4 ++ [plc rest]).map (rPr K) = lf4.map (rPr K) ++ [rPr K (plc rest)] := by rw [List.map_append] <;> rfl
          refine ⟨(tl1 rest).length, q3, G9, ((((g4.trans s5.gg).trans s6.gg).trans s7.gg).trans g8).trans s9.gg, o9, st8.trans o s9, ((((gc4.trans s5.gg).trans s6.gg).trans s7.gg).trans g8).trans s9.gg, _, _, lf4 ++ [plc rest], tl1 rest, rfl, by rw [eml]; exact wf8.step (m := none) nn s9, ?_, ?_, q2, ?_, ?_, ?_, ?_, rfl⟩
          · rw [List.nodup_append]
            refine ⟨nd4, by simp, fun x hx y hy e => ?_⟩
            rw [List.mem_singleton.mp hy] at e
            exact hni (e ▸ hx)
          · intro q hq
            rcases List.mem_append.mp hq with h | h
            · exact hu4 q h
            · rw [List.mem_singleton.mp h]
              exact q4
          · intro q hq
            rcases List.mem_append.mp hq with h | h
            · exact h1 q h
            · rw [List.mem_singleton.mp h]
              exact ⟨way, (etk way).mpr (.inr rfl), h4 _ (by rw [q1]; exact List.mem_cons_self)⟩
          · exact fun s hs q hq => List.mem_append_left _ (h2 s hs q hq)
          · intro q hq
            rcases h3 q hq with h | h
            · exact .inl (List.mem_append_left _ h)
            · rw [q1] at h
              rcases List.mem_cons.mp h with h | h
              · exact .inl (List.mem_append_right _ (List.mem_singleton.mpr h))
              · exact .inr h
          · exact fun q hq => h4 q (by rw [q1]; exact List.mem_cons_of_mem _ hq)
        · have hin : plc rest ∈ lf4 := List.contains_iff_mem.mp (bF h)
          refine wb_nil (wb_set 3 scclosed_lives.nd (je_slS (je_v 3) je_int hl1000) o7 fun v9 G9 H9 s9 o9 r9 => wb_nil ?_)
          cases r9
          refine ⟨(tl1 rest).length, q3, G9, (((g4.trans s5.gg).trans s6.gg).trans s7.gg).trans s9.gg, o9, (st6.trans o s7).trans o s9, (((gc4.trans s5.gg).trans s6.gg).trans s7.gg).trans s9.gg, _, _, lf4, tl1 rest, rfl, (wf6.step (m := none) nn s7).step (m := none) nn s9, nd4, hu4, q2, h1, h2, ?_, ?_, rfl⟩
          · intro q hq
            rcases h3 q hq with h | h
            · exact .inl h
            · rw [q1] at h
              rcases List.mem_cons.mp h with h | h
              · exact .inl (h ▸ hin)
              · exact .inr h
          · exact fun q hq => h4 q (by rw [q1]; exact List.mem_cons_of_mem _ hq)
      · have hle : ¬ 1 < rest.length := by
          have := decide_eq_false_iff_not.mp hq
          omega
        have hn := hno hle
        refine wb_nil ⟨G5, gc4.trans s5.gg, o5, st4.trans o s5, xf4, _, _, _, lf4, rfl, wf4.step (m := none) nn s5, nd4, hu4, fun q => ⟨h1 q, fun ⟨s, hs, hq⟩ => ?_⟩⟩
        rcases (etk s).mp hs with h | h
        · exact h2 s h q hq
        · subst h
          rcases h3 q hq with h | h
          · exact h
          · rw [hn] at h
            cases h
  · rintro σ' G' H' gg o' ⟨st, xf, a, b, c, lf, rfl, wf, nd, hu, hm⟩
    rw [List.length_map, List.take_length] at hm
    obtain ⟨t1, t2, t3⟩ := wf.tell (m := none) (G0 := G) o st
    have hb := nodup_le nd hu
    exact wb_ret (R := rMem K fun q => ∃ s ∈ ways, q ∈ lifeR s) (je_var 1 rfl ⟨lf, ⟨hm, by omega⟩, t3⟩) (t1.okm o) fun v G6 H6 s6 r => k v G6 H6 (t1.trans o s6) r
end
end Nk
namespace Nk
open PySem PySem.Spec PyProof.Rows L2
/-! ### the law's sweeps reach what is reached -/
theorem stepP_pre (cs : List Cu) (l : List (Str × Str)) (p : Str × Str) : ∃ t, stepP cs l p = l ++ t ∧ (∀ q ∈ t, q ∉ l ∧ q ∈ needs cs p ∧ p ∈ l) := by
  unfold stepP
  by_cases h : l.contains p = true
  · rw [if_pos h]
    refine ⟨_, rfl, fun q hq => ?_⟩
    obtain ⟨h1, h2⟩ := List.mem_filter.mp hq
    refine ⟨fun hm => ?_, h1, List.contains_iff_mem.mp h⟩
    rw [List.contains_iff_mem.mpr hm] at h2
    cases h2
  · rw [if_neg h]
    exact ⟨[], (List.append_nil _).symm, fun q hq => by cases hq⟩
theorem fold_pre (cs : List Cu) : ∀ (us l : List (Str × Str)), ∃ t, us.foldl (stepP cs) l = l ++ t
  | [], l => ⟨[], (List.append_nil _).symm⟩
  | u :: us, l => by
    obtain ⟨t1, e1, _⟩ := stepP_pre cs l u
    obtain ⟨t2, e2⟩ := fold_pre cs us (stepP cs l u)
    refine ⟨t1 ++ t2, ?_⟩
    rw [List.foldl_cons, e2, e1, List.append_assoc]
theorem fold_stable (cs : List Cu) : ∀ (us l : List (Str × Str)), us.foldl (stepP cs) l = l → ∀ p ∈ us, p ∈ l → ∀ q ∈ needs cs p, q ∈ l
  | [], _, _, p, hp => by cases hp
  | u :: us, l, h, p, hp => by
    obtain ⟨t1, e1, _⟩ := stepP_pre cs l u
    obtain ⟨t2, e2⟩ := fold_pre cs us (stepP cs l u)
    rw [List.foldl_cons] at h
    have e3 : l ++ (t1 ++ t2) = l := by
      rw [← List.append_assoc, ← e1, ← e2]
      exact h
    have e4 : t1 ++ t2 = [] := List.append_right_eq_self.mp e3
    have e5 : t1 = [] := (List.append_eq_nil_iff.mp e4).1
    rw [e5, List.append_nil] at e1
    rw [e1] at h
    rcases List.mem_cons.mp hp with rfl | hp
    · intro hm q hq
      unfold stepP at e1
      rw [if_pos (List.contains_iff_mem.mpr hm)] at e1
      have e6 := List.append_right_eq_self.mp e1
      rw [List.filter_eq_nil_iff] at e6
      have := e6 q hq
      refine Classical.byContradiction fun hn => this ?_
      cases hc : l.contains q with
      | false => rfl
      | true => exact absurd (List.contains_iff_mem.mp hc) hn
    · exact fold_stable cs us l h p hp
theorem fold_sound (cs : List Cu) (first : List (Str × Str)) : ∀ (us l : List (Str × Str)), (∀ q ∈ l, Rch cs first q) → ∀ q ∈ us.foldl (stepP cs) l, Rch cs first q
  | [], _, h => h
  | u :: us, l, h => by
    rw [List.foldl_cons]
    refine fold_sound cs first us _ fun q hq => ?_
    obtain ⟨t, e, ht⟩ := stepP_pre cs l u
    rw [e] at hq
    rcases List.mem_append.mp hq with hq | hq
    · exact h q hq
    · obtain ⟨_, h2, h3⟩ := ht q hq
      exact .step (h u h3) h2
theorem sweeps_sub (cs : List Cu) (l : List (Str × Str)) : ∀ n, ∀ q ∈ l, q ∈ sweeps cs n l
  | 0, q, h => h
  | n + 1, q, h => by
    obtain ⟨t, e⟩ := fold_pre cs univ (sweeps cs n l)
    show q ∈ univ.foldl (stepP cs) (sweeps cs n l)
    rw [e]
    exact List.mem_append_left _ (sweeps_sub cs l n q h)
theorem sweeps_sound (cs : List Cu) (first : List (Str × Str)) : ∀ n, ∀ q ∈ sweeps cs n first, Rch cs first q
  | 0, q, h => .base h
  | n + 1, q, h => fold_sound cs first univ _ (sweeps_sound cs first n) q h
/-- how much of all is reached -/
def cnt (l : List (Str × Str)) : Nat := (univ.filter fun q => l.contains q).length
theorem cnt_le (l : List (Str × Str)) : cnt l ≤ 18 := Nat.le_trans (List.length_filter_le _ _) (by decide +kernel)
theorem filter_lt {α : Type} {f g : α → Bool} (h : ∀ x, f x = true → g x = true) : ∀ {l : List α} {x : α}, x ∈ l → f x = false → g x = true → (l.filter f).length < (l.filter g).length
  | y :: l, x, hx, h1, h2 => by
    have hle : (l.filter f).length ≤ (l.filter g).length := by
      clear hx
      induction l with
      | nil => exact Nat.le_refl _
      | cons z l ih =>
        rw [List.filter_cons, List.filter_cons]
        cases hf : f z with
        | true =>
          rw [h z hf]
          simpa using ih
        | false =>
          cases hg : g z with
          | true => simp; omega
          | false => simpa using ih
    rw [List.filter_cons, List.filter_cons]
    rcases List.mem_cons.mp hx with rfl | hx
    · rw [h1, h2]
      simp
      omega
    · have ih := filter_lt h hx h1 h2
      cases hf : f y with
      | true =>
        rw [h y hf]
        simpa using ih
      | false =>
        cases hg : g y with
        | true => simp; omega
        | false => simpa using ih
theorem sweeps_succ (cs : List Cu) (n : Nat) (l : List (Str × Str)) : sweep cs (sweeps cs n l) = sweeps cs (n + 1) l := rfl
theorem sweep_fold (cs : List Cu) (l : List (Str × Str)) : sweep cs l = univ.foldl (stepP cs) l := rfl
theorem sweep_grows {cs : List Cu} (hcs : ∀ c ∈ cs, c.Ok) {first : List (Str × Str)} (hf : ∀ q ∈ first, q ∈ univ) (n : Nat) : sweeps cs (n + 1) first = sweeps cs n first ∨ cnt (sweeps cs n first) < cnt (sweeps cs (n + 1) first) := by
  obtain ⟨t, e⟩ := fold_pre cs univ (sweeps cs n first)
  rw [← sweep_fold, sweeps_succ] at e
  -- something new, or nothing
  by_cases h : ∃ q ∈ t, q ∉ sweeps cs n first
  · obtain ⟨q, hq, hn⟩ := h
    have hqs : q ∈ sweeps cs (n + 1) first := by
      rw [e]
      exact List.mem_append_right _ hq
    have hu : q ∈ univ := (sweeps_sound cs first (n + 1) q hqs).univ hcs hf
    refine .inr (filter_lt (fun x hx => ?_) hu ?_ (List.contains_iff_mem.mpr hqs))
    · rw [e]
      exact List.contains_iff_mem.mpr (List.mem_append_left _ (List.contains_iff_mem.mp hx))
    · cases hc : (sweeps cs n first).contains q with
      | false => rfl
      | true => exact absurd (List.contains_iff_mem.mp hc) hn
  · left
    have key : ∀ (us l : List (Str × Str)), (∀ q ∈ us.foldl (stepP cs) l, q ∈ l) → us.foldl (stepP cs) l = l := by
      intro us
      induction us with
      | nil => exact fun l _ => rfl
      | cons u us ih =>
        intro l hl
        obtain ⟨t1, e1, h1⟩ := stepP_pre cs l u
        obtain ⟨t2, e2⟩ := fold_pre cs us (stepP cs l u)
        rw [List.foldl_cons] at hl ⊢
        have et : t1 = [] := by
          cases t1 with
          | nil => rfl
          | cons a b =>
            exfalso
            have hm := hl a (by
              rw [e2, e1]
              exact List.mem_append_left _ (List.mem_append_right _ List.mem_cons_self))
            exact (h1 a List.mem_cons_self).1 hm
        rw [et, List.append_nil] at e1
        rw [e1] at hl ⊢
        exact ih l hl
    rw [← sweeps_succ, sweep_fold] at e ⊢
    refine key univ (sweeps cs n first) fun q hq => ?_
    rw [e] at hq
    rcases List.mem_append.mp hq with hq | hq
    · exact hq
    · exact Classical.byContradiction fun hn => h ⟨q, hq, hn⟩
theorem sweeps_fix {cs : List Cu} {first : List (Str × Str)} {n : Nat} (h : sweeps cs (n + 1) first = sweeps cs n first) : ∀ k, sweeps cs (n + k) first = sweeps cs n first
  | 0 => by rw [Nat.add_zero]
  | k + 1 => by
    rw [← Nat.add_assoc, ← sweeps_succ, sweeps_fix h k, sweeps_succ]
    exact h
theorem closed_stable {cs : List Cu} (hcs : ∀ c ∈ cs, c.Ok) {first : List (Str × Str)} (hf : ∀ q ∈ first, q ∈ univ) : sweep cs (lclosed cs first) = lclosed cs first := by
  have h : ∀ n, n ≤ 19 → (∃ m, m < n ∧ sweeps cs (m + 1) first = sweeps cs m first) ∨ n ≤ cnt (sweeps cs n first) := by
    intro n
    induction n with
    | zero => exact fun _ => .inr (Nat.zero_le _)
    | succ n ih =>
      intro hn
      rcases ih (by omega) with ⟨m, h1, h2⟩ | h
      · exact .inl ⟨m, by omega, h2⟩
      · rcases sweep_grows hcs hf n with h2 | h2
        · exact .inl ⟨n, by omega, h2⟩
        · exact .inr (by omega)
  rcases h 19 (Nat.le_refl _) with ⟨m, h1, h2⟩ | h2
  · have e1 := sweeps_fix h2 (19 - m)
    have e2 := sweeps_fix h2 (20 - m)
    rw [show m + (19 - m) = 19 by omega] at e1
    rw [show m + (20 - m) = 20 by omega] at e2
    rw [lclosed_eq, sweeps_succ]
    rw [e1]
    exact e2
  · have := cnt_le (sweeps cs 19 first)
    omega
theorem mem_closed {cs : List Cu} (hcs : ∀ c ∈ cs, c.Ok) {first : List (Str × Str)} (hf : ∀ q ∈ first, q ∈ univ) (q : Str × Str) : q ∈ lclosed cs first ↔ Rch cs first q := by
  refine ⟨fun h => sweeps_sound cs first 19 q (by rw [← lclosed_eq]; exact h), fun h => ?_⟩
  have hst := closed_stable hcs hf
  rw [sweep_fold] at hst
  have hs := fold_stable cs univ (lclosed cs first) hst
  induction h with
  | base h =>
    rw [lclosed_eq]
    exact sweeps_sub cs first 19 _ h
  | step hp hq ih => exact hs _ (hp.univ hcs hf) ih _ hq
theorem Rch.sub {cs : List Cu} {f g : List (Str × Str)} (h : ∀ q ∈ f, q ∈ g) {q : Str × Str} (r : Rch cs f q) : Rch cs g q := by
  induction r with
  | base hq => exact .base (h _ hq)
  | step _ hq ih => exact .step ih hq
theorem Rch.one {cs : List Cu} {f : List (Str × Str)} {q : Str × Str} (r : Rch cs f q) : ∃ p ∈ f, Rch cs [p] q := by
  induction r with
  | base hq => exact ⟨_, hq, .base (List.mem_singleton.mpr rfl)⟩
  | step _ hq ih =>
    obtain ⟨p, hp, h⟩ := ih
    exact ⟨p, hp, .step h hq⟩
/-- a life's way: what is read of it behind its first letter -/
theorem life_all : (ways13.all fun s => (["s", "d"] : List Str).all fun k => ways12.all fun p => decide (((k, p) ∈ lifeR s) ↔ ((k, p) ∈ sweeps [] 19 [plc s]))) = true := by decide +kernel
theorem plc_univ : (ways13.all fun s => decide (plc s ∈ univ)) = true := by decide +kernel
theorem life_mem {ways : List Str} (hw : ∀ s ∈ ways, s ∈ ways13) {k p : Str} (hk : kindOk k) (hp : p ∈ ways12) : (∃ s ∈ ways, (k, p) ∈ lifeR s) ↔ Rch [] (ways.map plc) (k, p) := by
  have hk2 : k ∈ (["s", "d"] : List Str) := by
    rcases hk with rfl | rfl
    · exact List.mem_cons_self
    · exact List.mem_cons_of_mem _ List.mem_cons_self
  have one : ∀ s ∈ ways13, ((k, p) ∈ lifeR s) ↔ Rch [] [plc s] (k, p) := fun s hs => by
    have h := decide_eq_true_iff.mp (List.all_eq_true.mp (List.all_eq_true.mp (List.all_eq_true.mp life_all s hs) k hk2) p hp)
    rw [h, ← lclosed_eq]
    exact mem_closed (fun c hc => by cases hc) (fun q hq => by
      rw [List.mem_singleton.mp hq]
      exact decide_eq_true_iff.mp (List.all_eq_true.mp plc_univ s hs)) _
  constructor
  · rintro ⟨s, hs, h⟩
    exact ((one s (hw s hs)).mp h).sub fun q hq => by
      rw [List.mem_singleton.mp hq]
      exact List.mem_map.mpr ⟨s, hs, rfl⟩
  · intro h
    obtain ⟨q, hq, h⟩ := h.one
    obtain ⟨s, hs, rfl⟩ := List.mem_map.mp hq
    exact ⟨s, hs, (one s (hw s hs)).mpr h⟩
end Nk
namespace Nk
open PySem PySem.Spec PyProof.Rows L2
/-! ### max(l, default=d) -/
def maxDef (ns : List Int) (d : Int) : Int := match ns with
  | [] => d
  | n :: r => r.foldl max n
def rMaxDef (K : PySem.W.Frag) : List V → List V → Hp → VK → Prop := fun xs zs H Q => ∃ (a : Addr) (ns : List Int) (d : Int), xs = [.ref a] ∧ zs = [.int d] ∧ SqL K H a (ns.map V.int) ∧ Q (.int (maxDef ns d)) H
theorem ints_depth : ∀ ns : List Int, PyData.depthAll (ns.map PyData.int) = 0
  | [] => rfl
  | n :: ns => by
    show max 0 (PyData.depthAll (ns.map PyData.int)) = 0
    rw [ints_depth ns] <;> rfl
theorem ints_dp {K : PySem.W.Frag} {H : Hp} : ∀ ns : List Int, DpAll K H (ns.map V.int) (ns.map PyData.int)
  | [] => .nil
  | n :: ns => .cons (.int n) (ints_dp ns)
theorem ints_alike (ns : List Int) : PySem.W.AlikeAll (ns.map PyData.int) := by
  refine ⟨fun x hx y hy => ?_, fun x hx => ?_⟩
  · obtain ⟨i, _, rfl⟩ := List.mem_map.mp hx
    obtain ⟨j, _, rfl⟩ := List.mem_map.mp hy
    rfl
  · obtain ⟨i, _, rfl⟩ := List.mem_map.mp hx
    exact fun z => by cases z
theorem cr_maxDef {X : Cx} (hc : X.calm = true) {k : Nat} (hr : Room k X.A) : CallRK X (.builtin "max") ["default"] (rMaxDef X.K) := by
  intro pins s σ H xs zs us ws Q I r rz h
  obtain ⟨a, ns, d, rfl, rfl, hs, q⟩ := h
  obtain ⟨u, rfl, ru⟩ := Vals.one r
  obtain ⟨w, rfl, rw_⟩ := Vals.one rz
  obtain rfl : u = Value.ref a := ru
  obtain ⟨its, rv, hl, _⟩ := I.list hs
  obtain ⟨as, h4⟩ := Dp.readsAll I (ns.map PyData.int) _ its (ints_dp ns) rv
  have hroom : X.A.units + 1 + PyData.depthAll (ns.map PyData.int) < cLine := by
    rw [ints_depth]
    have := room_un hr
    omega
  refine PySem.W.max_list_default (I.ok.hd hc) hl.isList (by simpa using h4) (ints_alike ns) hroom (fun e h' tk hk => ?_) (fun y ys i v h' tk bs e hv hR hk => ?_)
  · have e : ns = [] := List.map_eq_nil_iff.mp e
    subst e
    exact ⟨.int d, H, I.kept (t' := tk) hk, rw_, q⟩
  · cases ns with
    | nil => cases e
    | cons n r =>
      rw [List.map_cons] at e
      cases e
      rw [PySem.W.maxD_ints] at hR
      cases hR
      exact ⟨.int (maxDef (n :: r) d), H, I.kept (t' := tk) hk, ⟨_, rfl⟩, q⟩
section
variable {m : Option Hd} {X : Cx} {a e d : Expr} {es : List Expr} {σ : L2.St} {G : Hp} {pos p0 kp : Pos} {x : Str}
theorem je_maxDef {ns : List Int} {i : Int} {k : Nat} (hc : X.calm = true) (hr : Room k X.A) (ha : JE m X a σ G (Rl.ls rI ns)) (hd : JE m X d σ G (rI i)) (hm : X.mg "max" = none) (hg : Gl X "max" := by rfl)
    (he : starEach [a] X.env = (false, eval a X.env) :: starEach [] X.env := by rfl) (he2 : backTo pos (starEach [a] X.env) = (false, eval a X.env) :: backTo pos (starEach [] X.env) := by rfl) (hpl : (backTo pos (starEach [a] X.env)).any (·.1) = false := by rfl)
    (hall : (backToKw pos (keywordEach [⟨some "default", d, kp⟩] X.env)).all (·.1.isSome) = true := by rfl) (hnone : (backToKw pos (keywordEach [⟨some "default", d, kp⟩] X.env)).any (·.1.isNone) = false := by rfl) (hks : (backToKw pos (keywordEach [⟨some "default", d, kp⟩] X.env)).filterMap (·.1) = (["default"] : List Str) := by rfl) :
    JE m X (.Call (.Name "max" p0) [a] [⟨some "default", d, kp⟩] pos) σ G (rI (maxDef ns i)) := fun G1 H z o Q k =>
  eP (pe_callBK (cr_maxDef hc hr) hg hm (by decide +kernel) pA pK (by decide) (by decide) he2 hpl hall hnone hks) ((ja_cons ha ja_nil he) G1 H z o _ fun vs G2 H2 s2 al => (jk_cons hd jk_nil) G2 H2 (z.trans s2.gg) (s2.okm o) _ fun zs G3 H3 s3 bl => by
    obtain ⟨v, rfl, p, xs, rfl, hp, cl⟩ := AlL.one al
    obtain ⟨v2, rfl, e2⟩ := AlL.one bl
    cases e2
    have e := AlL.vals (f := V.int) cl
    subst e
    exact ⟨p, ns, i, rfl, rfl, SqL.of (s3.gh _ _ (s3.gg _ _ hp)), k _ G3 H3 (s2.trans o s3) rfl⟩)
end
/-! ### def f(*v, k = d, ..), called with values and keywords -/
def KwC {α : Type} (D : Addr) : List (Str × Value) → Sem α → Sem α → Prop
  | [], t, r => t = r
  | q :: l, t, r => ∃ (β γ : Type) (k1 : Option Value → Sem β) (k2 : β → Sem γ) (k3 : γ → Sem α) (a : β), t = ((nsGet D q.1 >>= k1) >>= k2) >>= k3 ∧ k1 (some q.2) = pure a ∧ KwC D l (k2 a >>= k3) r
theorem KwC.run {α : Type} {K : PySem.W.Frag} {M : Model} {D : Addr} {A : Around} {Q : α → Shared → Prop} {E : Value → Shared → Prop} {s : Shared} (X : K.In s.heap) : ∀ {l : List (Str × Value)} {t r : Sem α}, (∀ q ∈ l, PySem.W.nsIn K D q.1 = some (some q.2)) → KwC D l t r → wpAny M A r Q E s → wpAny M A t Q E s
  | [], t, r, _, e, h => by
    have e : t = r := e
    rw [e]
    exact h
  | q :: l, t, r, hl, e, h => by
    obtain ⟨β, γ, k1, k2, k3, a, e1, e2, e3⟩ := e
    have l1 : PySem.W.Looks M s.heap (nsGet D q.1 >>= k1) a := (PySem.W.looks_nsIn X (hl q (List.mem_cons_self ..))).andThen (PySem.W.Looks.of_pure e2)
    rw [e1, bind_assoc]
    exact wpAny_bind (l1.here (KwC.run X (fun p hp => hl p (List.mem_cons_of_mem _ hp)) e3 h))
/-- a def with a star and keyword-only parameters, called with the keywords ks -/
def FnK (P : Program) (w : World) (K : PySem.W.Frag) (mg : Str → Option Value) (base : Heap) (k : Nat) (f : Addr) (ks : List Str) (g : List V → List V) (sp : Sp) : Prop :=
  ∀ (A : Around) (outer : List Env) (s : Shared) (H : Hp) (u0 : Value) (v0 : V) (us ws : List Value) (vs zs : List V) (Q : VK) (E : XK), Room k A → Env0 P w K mg base A outer s H → RelV v0 u0 → Vals vs us → Vals zs ws → zs.length = ks.length → (v0 :: vs).length ≤ sizeLine →
    (∀ p, H p = none → sp (g zs ++ [V.ref p]) (upd H p (.tup (v0 :: vs))) Q E) → codeAny (model P w) A (.call (.ref f) ⟨u0 :: us, ks.zip ws⟩) (CR C8.CX0 outer P w H s Q E) s
section
variable {P : Program} {w : World} {K : PySem.W.Frag} {mg : Str → Option Value} {base : Heap}
theorem fn_k {x qual pv : Str} {st : Stmt} {f : Addr} {fd : FuncData} {N ps ks : List Str} {kws ms : List (Str × V)} {k : Nat} {sp : Sp} (F : FunD K x qual (defArgs st) (defBody st) (defScope st) [] kws f fd) (hk : kws ≠ []) (hms : ∀ q ∈ ms, q ∈ kws) (g : {α : Type} → List α → List α → List α)
    (hrel : ∀ {mz zs : List V} {mv ws : List Value}, mz.length = ms.length → zs.length = ks.length → Vals mz mv → Vals zs ws → Vals (g mz zs) (g mv ws)) (hgl : ∀ (mv zs : List V), mv.length = ms.length → zs.length = ks.length → (g mv zs).length = ps.length)
    (h : ∀ (D : Addr) (doc pm : Value) (an : Option Addr) (cdv ct : Value) (u0 : Value) (us mv ws : List Value), mv.length = ms.length → ws.length = ks.length →
      KwC D ((ms.map (·.1)).zip mv) (bindArgs (PySem.W.fnOf x qual (defArgs st) (defBody st) (defScope st) .none (.ref D) doc pm an cdv ct) ⟨u0 :: us, ks.zip ws⟩) (newTuple (u0 :: us) >>= fun t => pure (ps.zip (g mv ws) ++ [(pv, t)])))
    (S : FnScope N (ps ++ [pv]) (defScope st))
    (hbody : ∀ (cdv : Value) (A : Around) (outer : List Env) (s : Shared) (H : Hp) (vs : List V) (Q : VK) (E : XK), Room k (A.deeper (envOfC qual (defScope st) s.heap.objs.size f cdv)) → sp vs H Q E →
      ∃ t, PSs (cxOf C8.CX0 P w K mg base N qual (defScope st) f cdv A outer s H E) (defBody st) t ∧ t { nx := fun _ H' => Q .non H', rt := Q } (start N vs) H) :
    FnK P w K mg base (k + 1) f ks (fun zs => g (ms.map (·.2)) zs) sp := by
  obtain ⟨oc, od, dV, kV, doc, pm, an, cdv, ct, osl, rfl, lk, hcd, hD, hK⟩ := F.ex
  rcases hD with ⟨_, rfl⟩ | ⟨e, _⟩
  · rcases hK with e | ⟨D, rfl, hq⟩
    · exact absurd e hk
    · obtain ⟨mv, hl, rk, hks⟩ := kwd_vals (ms := ms) fun q hm => hq q (hms q hm)
      intro A outer s H u0 v0 us ws vs zs Q E hr e0 r0 r rz hzl hz hq2
      have KX : K.In s.heap := e0.mod.kin.keeps fun b o e => (e0.bs b o e).1
      have hn : H s.heap.objs.size = Option.none := e0.hok.fresh (Nat.le_refl _)
      have hwl : ws.length = ks.length := by rw [← rz.length]; exact hzl
      have r1 : Vals (v0 :: vs) (u0 :: us) := .cons r0 r
      have hl2 : (u0 :: us).length ≤ sizeLine := by rw [← r1.length]; exact hz
      refine StX.run_bnd lk hcd S hr e0 (G := fun xs H2 => ∃ p, H p = Option.none ∧ xs = g (ms.map (·.2)) zs ++ [V.ref p] ∧ H2 = upd H p (.tup (v0 :: vs))) (fun A' Ex Q' hh => ?_) fun s2 H2 xs ⟨p, hp, ex, eH⟩ hr' => ?_
      · refine KwC.run KX hks (h D doc pm an cdv ct u0 us mv ws hl hwl) ?_
        refine wpAny_bind (wpAny_newTuple (wpAny_pure ?_) hl2)
        have new : ObjOk P w (upd H s.heap.objs.size (.tup (v0 :: vs))) (s.heap.push ({ cls := .type "tuple", data := .seq (u0 :: us).toArray } : Obj)) s.heap.objs.size (.tup (v0 :: vs)) := ⟨hz, u0 :: us, r1, ⟨_, Heap.get?_push_size _ rfl, rfl, _, rfl⟩⟩
        have un := StX.un_laid (fs := frs outer) (s := s) (o := ({ cls := .type "tuple", data := .seq (u0 :: us).toArray } : Obj)) (u := .tup (v0 :: vs)) hn
        have rg := hrel (List.length_map _) hzl rk rz
        have hgl2 : (g (ms.map (·.2)) zs).length = ps.length := hgl _ _ (List.length_map _) hzl
        have z := hh _ _ (g (ms.map (·.2)) zs ++ [V.ref s.heap.objs.size]) (g mv ws ++ [Value.ref s.heap.objs.size]) (StX.env0_laid e0 new) un rfl (fun e s' z => z) (rg.append (.cons rfl .nil))
          (by rw [List.length_append, List.length_append, hgl2] <;> rfl) ⟨_, hn, rfl, rfl⟩
        rw [List.zip_append (by rw [← rg.length]; exact hgl2.symm)] at z
        exact z
      · subst ex eH
        exact hbody cdv A outer s2 _ _ Q E hr' (hq2 p hp)
  · exact absurd rfl e
structure CalK (P : Program) (w : World) (K : PySem.W.Frag) (mg : Str → Option Value) (base : Heap) (k : Nat) (x : Str) (ks : List Str) (g : List V → List V) (sp : Sp) : Prop where
  ex : ∃ f, FnK P w K mg base k f ks g sp ∧ mg x = some (.ref f) ∧ PySem.W.keepIn K (.ref f) = true
end
section
variable {m : Option Hd} {X : Cx} {e : Expr} {es : List Expr} {kws : List Keyword} {σ : L2.St} {G : Hp} {pos p0 : Pos} {x : Str} {R0 : Rl} {l l2 : List Rl}
theorem run_k {pins : List (Addr × Obj)} {H : Hp} {s : Shared} {k : Nat} {f : Addr} {ks : List Str} {g : List V → List V} {sp : Sp} {Q : VK} {u0 : Value} {v0 : V} {us ws : List Value} {vs zs : List V} (F : FnK X.prog X.w X.K X.mg X.base k f ks g sp) (hr : Room k X.A)
    (I : Inv X pins σ H s) (r0 : RelV v0 u0) (r : Vals vs us) (rz : Vals zs ws) (hz : zs.length = ks.length) (hl : (v0 :: vs).length ≤ sizeLine) (h : ∀ p, H p = none → sp (g zs ++ [V.ref p]) (upd H p (.tup (v0 :: vs))) Q E0) :
    wpAny (model X.prog X.w) X.A (call (.ref f) (u0 :: us) (ks.zip ws)) (EP X pins σ Q) X.xe s := by
  refine wpAny_call (codeAny_mono (F X.A X.stack s H u0 v0 us ws vs zs Q E0 hr I.env0 r0 r rz hz hl h) fun r s' hq => ?_)
  cases r with
  | error e => exact pass0 pins σ H s e s' I hq
  | ok fl =>
    cases fl with
    | ret u => exact I.after hq
    | next => exact False.elim hq
    | brk => exact False.elim hq
    | cont => exact False.elim hq
/-- f(a, .., k = v, ..) of a pure promise over the keyword-only values and the star -/
theorem je_callK {α : Type} {pre : α → Prop} {args : α → List Rl} {B : α → Rl} {k j : Nat} {ks : List Str} {g : List V → List V} (d : α) (c : CalK X.prog X.w X.K X.mg X.base k x ks g (spF pre args B)) (hp : pre d) (ha : JA m X (e :: es) σ G (R0 :: l)) (hk : JK m X kws σ G l2)
    (hal : ∀ (zs vs : List V) (p : Addr) (G1 : Hp), AlL l2 zs G1 → AlL (R0 :: l) vs G1 → G1 p = some (.tup vs) → AlL (args d) (g zs ++ [V.ref p]) G1) (hn2 : l2.length = ks.length) (hz : (R0 :: l).length ≤ 1000)
    (hr : Room j X.A) (hj : k ≤ j := by decide) (hg : Gl X x := by rfl)
    (hall : (backToKw pos (keywordEach kws X.env)).all (·.1.isSome) = true := by rfl) (hks : (backToKw pos (keywordEach kws X.env)).filterMap (·.1) = ks := by rfl) (hdb : (x == ("__debug__" : Str)) = false := by decide)
    (he : starEach (e :: es) X.env = (false, eval e X.env) :: starEach es X.env := by rfl) (hpl : ((backTo pos (starEach (e :: es) X.env)).any (·.1) || (backToKw pos (keywordEach kws X.env)).any (·.1.isNone)) = false := by rfl) :
    JE m X (.Call (.Name x p0) (e :: es) kws pos) σ G (B d) := fun G1 H z o Q kk pins s I => by
  obtain ⟨f, F, hm, kp⟩ := c.ex
  refine wpAny_Call_Name_kw (ld_glob I hg hm ?_ hdb)
  refine PySem.W.callWith_KW (h₀ := X.base) I.ok.mod.kin kp hall (thn (ha G1 H z o (fun vs H2 => ∃ G2, Stp m G1 H G2 H2 ∧ AlL (R0 :: l) vs G2) (fun vs G2 H2 s2 r2 => ⟨G2, s2, r2⟩) pos pins s I) fun us s1 ⟨vs, H2, I2, r, G2, s2, al⟩ => ?_) hpl he
  refine thn (hk G2 H2 (z.trans s2.gg) (s2.okm o) (fun zs H3 => ∃ G3, Stp m G2 H2 G3 H3 ∧ AlL l2 zs G3) (fun zs G3 H3 s3 r3 => ⟨G3, s3, r3⟩) pos pins s1 I2) fun ws s2' ⟨zs, H3, I3, rz, G3, s3, bl⟩ => ⟨I3.kIn, ?_⟩
  rw [hks]
  have al3 := al.mono s3.gg
  have hvl := al3.len
  obtain ⟨v0, vs', rfl⟩ : ∃ v0 vs', vs = v0 :: vs' := by
    cases al with
    | cons a0 t0 => exact ⟨_, _, rfl⟩
  · cases r with
    | cons r0 rt =>
      refine run_k F (hr.mono hj) I3 r0 rt rz (by rw [bl.len]; exact hn2) (by rw [hvl]; exact Nat.le_trans hz (by decide)) fun p hp0 => ?_
      have o3 := s3.okm (s2.okm o)
      have st := Stp.new (m := m) o3 (u := .tup (v0 :: vs')) hp0
      refine ⟨d, _, st.gh, hp, hal zs _ p _ (bl.mono st.gg) (al3.mono st.gg) upd_same, fun v G' H' s4 b => ?_⟩
      exact kk v G' H' (((s2.trans o s3).trans o st).trans o s4.up) b
end
end Nk
namespace Nk
open PySem PySem.Spec PyProof.Rows L2
section
variable {m : Option Hd} {X : Cx} {a e tg iter elt : Expr} {σ : L2.St} {G H : Hp} {pos p0 spos py : Pos} {x y : Str} {scope : Scope} {g : TG} {D : Ends} {rest : List Stmt}
/-- a list or a tuple of texts -/
def rSq (K : PySem.W.Frag) (l : List Str) : Rl := ⟨fun v G => (Rl.ls rS l).p v G ∨ (Rl.tp K rS l).p v G, fun v G G' s h => h.imp (Rl.mono _ _ _ _ s) (Rl.mono _ _ _ _ s)⟩
theorem je_listQ {l : List Str} (ha : JE m X a σ G (rSq X.K l)) (hm : X.mg "list" = none) (hg : Gl X "list" := by rfl) (he : starEach [a] X.env = (false, eval a X.env) :: starEach [] X.env := by rfl) (hpl : (backTo pos (starEach [] X.env)).any (·.1) = false := by rfl) : JE m X (.Call (.Name "list" p0) [a] [] pos) σ G (Rl.ls rS l) :=
  je_callTy call_list_of (ja_cons ha ja_nil he) (fun vs G1 H1 Q _ o h k => by
    obtain ⟨x, rfl, hx⟩ := AlL.one h
    have h : (Rl.ls rS l).p x G1 ∨ (Rl.tp X.K rS l).p x G1 := hx
    rcases h with ⟨p, xs, rfl, hp, al⟩ | ⟨p, xs, rfl, hp, al⟩
    · exact ⟨p, xs, rfl, .inl (SqL.of (o.1 _ _ hp)), fun q hq => k _ _ _ (.new o hq) ⟨q, xs, rfl, upd_same, al.mono (Stp.new (m := m) o hq).gg⟩⟩
    · exact ⟨p, xs, rfl, .inr (Same.tup o.1 hp), fun q hq => k _ _ _ (.new o hq) ⟨q, xs, rfl, upd_same, al.mono (Stp.new (m := m) o hq).gg⟩⟩) hm (by decide +kernel) hg (by decide) (by decide) he hpl
theorem wb_setLcA {α : Type} {ds : List α} {DD E : α → Rl} {T : α → L2.St → Hp → Prop} (i : Nat) (own : List (Str × Nat)) (hc : X.calm = true) (hN : X.N.Nodup) (ok : BlkOk X.N X.env.scope scope own)
    (hpg : ∀ (s : Shared) (H : Hp) (C : Addr) (cl : List (Str × Addr)) (fp : List Addr), PG (Bk X scope s H C cl fp) tg g)
    (hi : JI m X tg iter σ G (ds.map DD)) (hn : ds.length ≤ 100000)
    (hg : ∀ d ∈ ds, ∀ x G1 H1, Same G G1 → Same G1 H1 → (DD d).p x G1 → ∀ Kp : L2.St → Hp → Prop, (∀ σ2, wipe σ2 (own.map (·.2)) = wipe σ (own.map (·.2)) → T d σ2 G1 → Kp σ2 H1) → g x (wipe σ (own.map (·.2))) H1 Kp)
    (he : ∀ d ∈ ds, ∀ σ2 G1, Same G G1 → T d σ2 G1 → ∀ s H C cl fp, JE m (Bk X scope s H C cl fp) elt σ2 G1 (E d))
    (o : Okm m G H) (k : ∀ v G' H', Stp m G H G' H' → Okm m G' H' → (Rl.ls E ds).p v G' → WB X rest D (σ.set i (some v)) H') (hy : X.N[i]? = some y := by rfl) (hyl : X.env.scope.names.lookup y = some .local := by rfl)
    (hsw : swapsWith (.ListComp elt [⟨tg, iter, [], 0⟩] scope pos) (some (.Name y py)) spos.line X.env = pure true := by exact sw_true rfl rfl rfl (by decide +kernel))
    (hs : ∀ x, foldedSetIterable iter X.env x = pure x := by intro _; rfl) : WB X (.Assign [.Name y py] (.ListComp elt [⟨tg, iter, [], 0⟩] scope pos) spos :: rest) D σ H :=
  wb_setLc (ff := fun _ => true) i own hc hN ok hpg hi hn hg (fun d hd σ2 G1 g1 _ s H C cl fp => jts_nil) (fun d hd _ => he d hd) o (fun v G' H' s o' r => k v G' H' s o' (by
    rw [List.filter_eq_self.mpr fun _ _ => rfl] at r
    exact r)) hy hyl hsw hs
end
section
variable {P : Program} {w : World} {K : PySem.W.Frag} {mg : Str → Option Value} {base : Heap}
theorem mk_reads (T : Tx K mg) : C8.Mak P w K mg base 1 "Reads" (cN K "Reads") (spI (cN K "Reads") (fun _ : Six => True) (fun x => [Rl.tp K rS x.sp, Rl.tp K rS x.dp, Rl.tp K rS x.sl, Rl.tp K rS x.dl, Rl.tp K rS x.tr, Rl.ls rS x.nu]) rdN fun x => [Rl.tp K rS x.sp, Rl.tp K rS x.dp, Rl.tp K rS x.sl, Rl.tp K rS x.dl, Rl.tp K rS x.tr, Rl.tp K rS x.nu]) [] := by
  obtain ⟨fd, F⟩ := T.F_Reads_init
  refine mak_pure F (T.k "Reads" "Reads") (T.g "Reads") (F.bindsN fun _ _ _ _ _ _ us hl => match us, hl with | [_, _, _, _, _, _, _], _ => rfl) scReads_init (fun _ => rfl) ?_
  intro cdv A outer s0 H0 E x G H y dy vs Q hr _ I al k
  obtain ⟨v1, v2, v3, v4, v5, v6, rfl, e1, e2, e3, e4, e5, e6⟩ : ∃ v1 v2 v3 v4 v5 v6, vs = [v1, v2, v3, v4, v5, v6] ∧ (Rl.tp K rS x.sp).p v1 G ∧ (Rl.tp K rS x.dp).p v2 G ∧ (Rl.tp K rS x.sl).p v3 G ∧ (Rl.tp K rS x.dl).p v4 G ∧ (Rl.tp K rS x.tr).p v5 G ∧ (Rl.ls rS x.nu).p v6 G := by
    cases al with
    | cons a1 al => cases al with
      | cons a2 al => cases al with
        | cons a3 al => cases al with
          | cons a4 al =>
            obtain ⟨_, _, rfl, a5, a6⟩ := AlL.two al
            exact ⟨_, _, _, _, _, _, rfl, a1, a2, a3, a4, a5, a6⟩
  refine wb_ini 0 I rfl (T.c "Reads") (T.n "Reads" "son_places") (je_tupleT (je_var 1 rfl e1) (T.f "tuple")) fun G1 H1 I1 => ?_
  refine wb_ini 0 I1 rfl (T.c "Reads") (T.n "Reads" "daughter_places") (je_tupleT (je_var 2 rfl (Rl.mono _ _ _ _ I1.gg e2)) (T.f "tuple")) fun G2 H2 I2 => ?_
  refine wb_ini 0 I2 rfl (T.c "Reads") (T.n "Reads" "son_lives") (je_tupleT (je_var 3 rfl (Rl.mono _ _ _ _ I2.gg e3)) (T.f "tuple")) fun G3 H3 I3 => ?_
  refine wb_ini 0 I3 rfl (T.c "Reads") (T.n "Reads" "daughter_lives") (je_tupleT (je_var 4 rfl (Rl.mono _ _ _ _ I3.gg e4)) (T.f "tuple")) fun G4 H4 I4 => ?_
  refine wb_ini 0 I4 rfl (T.c "Reads") (T.n "Reads" "tracked") (je_tupleT (je_var 5 rfl (Rl.mono _ _ _ _ I4.gg e5)) (T.f "tuple")) fun G5 H5 I5 => ?_
  refine wb_ini 0 I5 rfl (T.c "Reads") (T.n "Reads" "numbered") (je_tupleL (je_var 6 rfl (Rl.mono _ _ _ _ I5.gg e6)) (T.f "tuple")) fun G6 H6 I6 => wb_nil (k G6 H6 I6)
/-! ### what reads_of is given -/
structure RdD where
  cs : List Cu
  names : List Str
  lives : List Str
  tracked : List Str
  houses : Bool
structure RdD.Ok (d : RdD) : Prop where
  cs : csOk d.cs
  n1 : d.names.length ≤ 1000
  n2 : d.lives.length ≤ 1000
  n3 : d.tracked.length ≤ 1000
  names : ∀ s ∈ d.names, s ∈ srcsL 2
  lives : ∀ s ∈ d.lives, s ∈ ways13
  tracked : ∀ s ∈ d.tracked, s ∈ srcsL 2
noncomputable def RdD.six (d : RdD) : Six := Nk.six d.cs d.names d.lives d.tracked d.houses
abbrev rdArgs (K : PySem.W.Frag) (d : RdD) : List Rl := [rSq K d.names, rSq K d.lives, rSq K d.tracked, rB d.houses, Rl.tph (d.cs.map (rCu K))]
abbrev spRd (K : PySem.W.Frag) : Sp := spF RdD.Ok (rdArgs K) fun d => rRd K d.six
theorem srcs_mono {n : Nat} (hn : n ≤ 2) {s : Str} (h : s ∈ srcsL n) : s ∈ srcsL 2 := by
  have : n = 0 ∨ n = 1 ∨ n = 2 := by omega
  have hall : ∀ n ≤ 2, ((srcsL n).all fun s => decide (s ∈ srcsL 2)) = true := by decide +kernel
  exact decide_eq_true_iff.mp (List.all_eq_true.mp (hall n hn) s h)
theorem src_facts : ((srcsL 2).all fun s => decide (s.length ≤ 600) && decide (0 < s.length) && decide (plc s ∈ univ)) = true := by decide +kernel
theorem src_of {s : Str} (h : s ∈ srcsL 2) : sOne s ∧ plc s ∈ univ := by
  have h1 := List.all_eq_true.mp src_facts s h
  simp only [Bool.and_eq_true, decide_eq_true_eq] at h1
  exact ⟨h1.1, h1.2⟩
theorem allSrcs_mem {cs : List Cu} (h : ∀ c ∈ cs, c.Ok) : ∀ s ∈ allSrcs cs, s ∈ srcsL 2 := by
  intro s hs
  obtain ⟨c, hc, hs⟩ := List.mem_flatMap.mp hs
  obtain ⟨x, hx, hs⟩ := List.mem_flatMap.mp hs
  have hok := h c hc
  have hxo : x.Ok c.house.length := by
    rcases List.mem_append.mp hx with q | q
    · exact hok.s.cl x q
    · exact hok.d.cl x q
  exact srcs_mono hok.w ((clSrcs_ok hok.w hxo).2 s hs)
theorem allLives_mem {cs : List Cu} (h : ∀ c ∈ cs, c.Ok) : ∀ s ∈ allLives cs, s ∈ ways13 := by
  intro s hs
  obtain ⟨c, hc, hs⟩ := List.mem_flatMap.mp hs
  obtain ⟨x, hx, hs⟩ := List.mem_flatMap.mp hs
  have hok := h c hc
  have hxo : x.Ok c.house.length := by
    rcases List.mem_append.mp hx with q | q
    · exact hok.s.cl x q
    · exact hok.d.cl x q
  cases x with
  | fr l => cases hs
  | tk t =>
    obtain ⟨cd, hcd, hs⟩ := List.mem_flatMap.mp hs
    have hk := hxo.2.2 cd hcd
    cases cd with
    | dead y =>
      rw [List.mem_singleton.mp hs]
      exact hk
    | alive y =>
      rw [List.mem_singleton.mp hs]
      exact hk
    | _ => cases hs
theorem width_le {cs : List Cu} (h : ∀ c ∈ cs, c.Ok) : width cs ≤ 2 := by
  have key : ∀ (l : List Cu) (n : Nat), n ≤ 2 → (∀ c ∈ l, c.Ok) → l.foldl (fun n c => max n c.house.length) n ≤ 2 := by
    intro l
    induction l with
    | nil => exact fun n hn _ => hn
    | cons c l ih =>
      intro n hn hl
      rw [List.foldl_cons]
      have := (hl c List.mem_cons_self).w
      exact ih _ (by omega) fun x hx => hl x (List.mem_cons_of_mem _ hx)
  exact key cs 0 (Nat.zero_le _) h
theorem width_max (cs : List Cu) : maxDef (cs.map fun c => (c.house.length : Int)) 0 = (width cs : Int) := by
  have key : ∀ (l : List Cu) (n : Nat), (l.map fun c => (c.house.length : Int)).foldl max (n : Int) = ((l.foldl (fun n c => max n c.house.length) n : Nat) : Int) := by
    intro l
    induction l with
    | nil => exact fun n => rfl
    | cons c l ih =>
      intro n
      rw [List.map_cons, List.foldl_cons, List.foldl_cons, ← ih]
      congr 1
      omega
  cases cs with
  | nil => rfl
  | cons c l =>
    show (l.map fun c => (c.house.length : Int)).foldl max (c.house.length : Int) = _
    rw [key]
    unfold width
    rw [List.foldl_cons, Nat.zero_max]
theorem filter_congr' {α : Type} {f g : α → Bool} {l : List α} (h : ∀ x ∈ l, f x = g x) : l.filter f = l.filter g := List.filter_congr h
theorem dots_eq : (List.range 2).map dot = dots := by decide +kernel
theorem wFound_len2 (lo n : Nat) (h1 : lo < 3) (h2 : n < 5) : (wFound lo n).length ≤ 15 := wFound_len lo h1 n h2
end
end Nk
namespace Nk
open PySem PySem.Spec PyProof.Rows L2
section
variable {P : Program} {w : World} {K : PySem.W.Frag} {mg : Str → Option Value} {base : Heap}
/-- the places of one kind among pairs -/
def rowOf (l : List (Str × Str)) (k : Str) : List Str := (l.filter fun p => decide (V.str p.1 = V.str k)).map (·.2)
theorem rowOf_mem {l : List (Str × Str)} {k p : Str} : (rowOf l k).contains p = l.contains (k, p) := by
  have h : (rowOf l k).contains p = true ↔ l.contains (k, p) = true := by
    rw [List.contains_iff_mem, List.contains_iff_mem]
    unfold rowOf
    rw [List.mem_map]
    constructor
    · rintro ⟨⟨a, b⟩, hq, rfl⟩
      obtain ⟨h1, h2⟩ := List.mem_filter.mp hq
      have h2 := V.str.inj (decide_eq_true_iff.mp h2)
      have h2 : a = k := h2
      subst h2
      exact h1
    · intro h
      exact ⟨(k, p), List.mem_filter.mpr ⟨h, decide_eq_true rfl⟩, rfl⟩
  cases h1 : (rowOf l k).contains p <;> cases h2 : l.contains (k, p) <;> simp_all
section
variable {m : Option Hd} {X : Cx} {σ : L2.St} {G H : Hp} {pos : Pos}
theorem JE.cast {e : Expr} {R R' : Rl} (h : JE m X e σ G R) (q : R = R') : JE m X e σ G R' := q ▸ h
theorem je_lsmap {α β : Type} {e : Expr} {D : β → Rl} {f : α → β} {l : List α} (h : JE m X e σ G (Rl.ls (fun c => D (f c)) l)) : JE m X e σ G (Rl.ls D (l.map f)) := by
  unfold Rl.ls at h ⊢
  rw [List.map_map]
  exact h
theorem houseP_succ (n : Nat) : houseP (n + 1) = houseP n ++ [(("s" : Str), dot n), (("d" : Str), dot n)] := by
  unfold houseP
  rw [List.range_succ, List.flatMap_append]
  show _ ++ ([(("s" : Str), dot n), (("d" : Str), dot n)] ++ []) = _
  rw [List.append_nil]
theorem houseP_len (n : Nat) : (houseP n).length = 2 * n := by
  induction n with
  | zero => rfl
  | succ n ih =>
    rw [houseP_succ, List.length_append, ih]
    show 2 * n + 2 = _
    omega
theorem houseP_univ {n : Nat} (h : n ≤ 2) : ∀ q ∈ houseP n, q ∈ univ := by
  intro q hq
  obtain ⟨i, hi, hq⟩ := List.mem_flatMap.mp hq
  have hi := List.mem_range.mp hi
  rcases List.mem_cons.mp hq with rfl | hq
  · exact mem_univ.mpr ⟨.inl rfl, dot_mem (by omega)⟩
  · rw [List.mem_singleton.mp hq]
    exact mem_univ.mpr ⟨.inr rfl, dot_mem (by omega)⟩
theorem place_row : (wFound 0 3 ++ (List.range 2).map dot) = places := by decide +kernel
theorem order_row : (wFound 1 4 ++ (["f.0", "f.1", "m.0", "m.1"] : List Str)) = order := by decide +kernel
end
theorem contains_iff {l l' : List (Str × Str)} {q : Str × Str} (h : q ∈ l ↔ q ∈ l') : l.contains q = l'.contains q := by
  cases h1 : l.contains q <;> cases h2 : l'.contains q
  · rfl
  · rw [List.contains_iff_mem.mpr (h.mpr (List.contains_iff_mem.mp h2))] at h1
    cases h1
  · rw [List.contains_iff_mem.mpr (h.mp (List.contains_iff_mem.mp h1))] at h2
    cases h2
  · rfl
theorem life_snd : (ways13.all fun s => (lifeR s).all fun q => decide (q.2 ∈ ways12)) = true := by decide +kernel
theorem six_ext {cs : List Cu} {names lives tracked : List Str} {houses : Bool} {a b c d : List Str} (h1 : a = places.filter fun p => (lclosed cs (firstL cs names tracked houses)).contains ("s", p)) (h2 : b = places.filter fun p => (lclosed cs (firstL cs names tracked houses)).contains ("d", p))
    (h3 : c = ways12.filter fun p => (lclosed [] (lifeL cs lives)).contains ("s", p)) (h4 : d = ways12.filter fun p => (lclosed [] (lifeL cs lives)).contains ("d", p)) :
    (⟨a, b, c, d, order.filter fun x => (allTrk cs ++ tracked).contains x, (["s", "d"] : List Str).filter fun k => cs.any fun c => klNum (c.kl k)⟩ : Six) = Nk.six cs names lives tracked houses := by
  rw [h1, h2, h3, h4]
  unfold Nk.six
  exact Eq.refl _
theorem six_eq {cs : List Cu} (hcs : ∀ c ∈ cs, c.Ok) {names lives tracked : List Str} {houses : Bool} (m2 : ∀ s ∈ lives, s ∈ ways13) {fl pl ll : List (Str × Str)} (fu : ∀ q ∈ fl, q ∈ univ) (fm : ∀ q, q ∈ fl ↔ q ∈ firstL cs names tracked houses) (pm : ∀ q, q ∈ pl ↔ Rch cs fl q) (lm : ∀ q, q ∈ ll ↔ ∃ s ∈ allLives cs ++ lives, q ∈ lifeR s) :
    (⟨places.filter fun x => (rowOf pl "s").contains x, places.filter fun x => (rowOf pl "d").contains x, places.filter fun x => (rowOf ll "s").contains x, places.filter fun x => (rowOf ll "d").contains x, order.filter fun x => (allTrk cs ++ tracked).contains x, (["s", "d"] : List Str).filter fun k => cs.any fun c => klNum (c.kl k)⟩ : Six) = Nk.six cs names lives tracked houses := by
  have hw : ∀ s ∈ allLives cs ++ lives, s ∈ ways13 := fun s hs => by
    rcases List.mem_append.mp hs with h | h
    · exact allLives_mem hcs s h
    · exact m2 s h
  have r1 : ∀ k p, (rowOf pl k).contains p = (lclosed cs (firstL cs names tracked houses)).contains (k, p) := fun k p => by
    rw [rowOf_mem]
    refine contains_iff ?_
    rw [pm, mem_closed hcs (fun q hq => fu q ((fm q).mpr hq))]
    exact ⟨fun h => h.sub fun q hq => (fm q).mp hq, fun h => h.sub fun q hq => (fm q).mpr hq⟩
  have fu2 : ∀ q ∈ lifeL cs lives, q ∈ univ := fun q hq => by
    obtain ⟨s, hs, rfl⟩ := List.mem_map.mp hq
    have hs : s ∈ ways13 := hw s (by
      rcases List.mem_append.mp hs with h | h
      · exact List.mem_append_right _ h
      · exact List.mem_append_left _ h)
    exact decide_eq_true_iff.mp (List.all_eq_true.mp plc_univ s hs)
  have r2 : ∀ k, kindOk k → places.filter (fun x => (rowOf ll k).contains x) = ways12.filter fun p => (lclosed [] (lifeL cs lives)).contains (k, p) := fun k hk => by
    have no : ∀ p, p ∉ ways12 → (rowOf ll k).contains p = false := fun p hp => by
      rw [rowOf_mem]
      cases h : ll.contains (k, p) with
      | false => rfl
      | true =>
        obtain ⟨s, hs, hq⟩ := (lm _).mp (List.contains_iff_mem.mp h)
        exact absurd (decide_eq_true_iff.mp (List.all_eq_true.mp (List.all_eq_true.mp life_snd s (hw s hs)) _ hq)) hp
    have e : places.filter (fun x => (rowOf ll k).contains x) = ways12.filter (fun x => (rowOf ll k).contains x) := by
      unfold places dots
      rw [List.filter_append, List.filter_append]
      rw [List.filter_cons, no "" (by decide +kernel), List.filter_cons, no ".0" (by decide +kernel), List.filter_cons, no ".1" (by decide +kernel)]
      simp
    rw [e]
    refine List.filter_congr fun p hp => ?_
    rw [rowOf_mem]
    refine contains_iff ?_
    rw [lm, life_mem hw hk hp, mem_closed (fun c hc => by cases hc) fu2]
    have hmem : ∀ q, q ∈ (allLives cs ++ lives).map plc ↔ q ∈ lifeL cs lives := fun q => by
      unfold lifeL
      rw [List.mem_map, List.mem_map]
      constructor
      · rintro ⟨s, hs, e⟩
        exact ⟨s, by rw [List.mem_append] at hs ⊢; exact hs.symm, e⟩
      · rintro ⟨s, hs, e⟩
        exact ⟨s, by rw [List.mem_append] at hs ⊢; exact hs.symm, e⟩
    exact ⟨fun h => h.sub fun q hq => (hmem q).mp hq, fun h => h.sub fun q hq => (hmem q).mpr hq⟩
  have h1 : places.filter (fun x => (rowOf pl "s").contains x) = places.filter fun p => (lclosed cs (firstL cs names tracked houses)).contains ("s", p) := List.filter_congr fun p _ => r1 "s" p
  have h2 : places.filter (fun x => (rowOf pl "d").contains x) = places.filter fun p => (lclosed cs (firstL cs names tracked houses)).contains ("d", p) := List.filter_congr fun p _ => r1 "d" p
  exact six_ext h1 h2 (r2 "s" (.inl rfl)) (r2 "d" (.inr rfl))
theorem b_reads_of (T : Tx K mg) (cdv : Value) (A : Around) (outer : List Env) (s0 : Shared) (H0 : Hp) (E : XK) (d : RdD) (G H : Hp) (vs : List V) (Q : VK) (hr : Room 5 (A.deeper (envOfC "reads_of" (defScope sreads_of) s0.heap.objs.size (He.ga K "reads_of") cdv))) (hd : d.Ok) (o : Okm none G H) (al : AlL (rdArgs K d) vs G)
    (k : ∀ v G' H', Stp none G H G' H' → (rRd K d.six).p v G' → Q v H') :
    WB (Xc P w K mg base nreads_of "reads_of" sreads_of (He.ga K "reads_of") cdv A outer s0 H0 E) (defBody sreads_of) { nx := fun _ H' => Q .non H', rt := Q } (start nreads_of vs) H := by
  obtain ⟨cs, names, lives, tracked, houses⟩ := d
  obtain ⟨nv, lv, tv, _, cv, rfl, en, el, et, eh, ec⟩ : ∃ v1 v2 v3 v4 v5, vs = [v1, v2, v3, v4, v5] ∧ (rSq K names).p v1 G ∧ (rSq K lives).p v2 G ∧ (rSq K tracked).p v3 G ∧ (rB houses).p v4 G ∧ (Rl.tp K (rCu K) cs).p v5 G := by
    cases al with
    | cons a1 al => cases al with
      | cons a2 al => cases al with
        | cons a3 al =>
          obtain ⟨_, _, rfl, a5, a6⟩ := AlL.two al
          exact ⟨_, _, _, _, _, rfl, a1, a2, a3, a5, tph_tpl a6⟩
  cases eh
  have hcs : csOk cs := hd.cs
  have l1 : names.length ≤ 1000 := hd.n1
  have l2 : lives.length ≤ 1000 := hd.n2
  have l3 : tracked.length ≤ 1000 := hd.n3
  have m1 : ∀ s ∈ names, s ∈ srcsL 2 := hd.names
  have m2 : ∀ s ∈ lives, s ∈ ways13 := hd.lives
  have m3 : ∀ s ∈ tracked, s ∈ srcsL 2 := hd.tracked
  obtain ⟨b1, b2⟩ := allSrcs_len hcs.2
  have hc10 := hcs.1
  refine wb_two (Ra := Rl.ls rS (allSrcs cs)) (Rb := Rl.ls rS (allLives cs)) 5 6 rfl screads_of.nd (je_call cs (k_read_by_clauses T) hcs (ja_cons (je_var 4 rfl ec) ja_nil) hr) o fun v5 v6 G1 H1 s1 o1 r5 r6 => ?_
  refine wb_setLcA (ds := (allSrcs cs ++ names) ++ tracked) (DD := rS) (E := fun s => rPr K (plc s)) 7 [("source", 17)] rfl screads_of.nd (blkOk_by rfl) (fun s H C cl fp => pg_name (i := 17) screads_of.nd rfl (.inl rfl))
    (ji_list (je_catLs (je_catLs (je_var 5 rfl r5) (je_listQ (je_var 0 rfl (Rl.mono _ _ _ _ s1.gg en)) (T.f "list")) (by omega)) (je_listQ (je_var 2 rfl (Rl.mono _ _ _ _ s1.gg et)) (T.f "list")) (by rw [List.length_append]; omega))) (by rw [List.length_append, List.length_append]; omega) (lc_name fun x => rfl) ?_ o1 fun v7 G2 H2 s2 o2 r7 => ?_
  · rintro s hs σ2 G9 g9 ⟨y, rfl, ry⟩ _ _ C cl fp
    cases ry
    have hm : s ∈ srcsL 2 := by
      rcases List.mem_append.mp hs with h | h
      · rcases List.mem_append.mp h with h | h
        · exact allSrcs_mem hcs.2 s h
        · exact m1 s h
      · exact m3 s h
    exact je_call s (k_place_of T) (src_of hm).1 (ja_cons (je_v 17) ja_nil) hr
  have g2 := s1.gg.trans s2.gg
  have c2 := Rl.mono _ _ _ _ g2 ec
  -- what comes behind the list of first pairs
  have after : ∀ (fl : List (Str × Str)) (v7 : V) (ax : Option V) (G3 H3 : Hp), Stp none G H G3 H3 → Same G1 G3 → (Rl.ls (rPr K) fl).p v7 G3 → fl.length ≤ 10000 → (∀ q ∈ fl, q ∈ univ) → (∀ q, q ∈ fl ↔ q ∈ firstL cs names tracked houses) →
      WB (Xc P w K mg base nreads_of "reads_of" sreads_of (He.ga K "reads_of") cdv A outer s0 H0 E) ((defBody sreads_of).drop 3) { nx := fun _ H' => Q .non H', rt := Q } [some nv, some lv, some tv, some (.bl houses), some cv, some v5, some v6, some v7, ax, none, none, none, none, none, none, none, none, none, none, none, none, none, none] H3 := by
    intro fl v7 ax G3 H3 st3 g13 r7 fn fu fm
    have o3 := st3.okm o
    have c3 := Rl.mono _ _ _ _ st3.gg ec
    refine wb_set 9 screads_of.nd (R := rMem K (Rch cs fl)) (je_call (cs, fl) (k_closed T) ⟨hcs, fn, fu⟩ (ja_cons (je_var 4 rfl c3) (ja_cons (je_var 7 rfl r7) ja_nil)) hr) o3 fun v9 G4 H4 s4 o4 r9 => ?_
    refine wb_set 10 screads_of.nd (R := rMem K fun q => ∃ s ∈ allLives cs ++ lives, q ∈ lifeR s) (je_call (allLives cs ++ lives) (k_closed_lives T) ⟨by rw [List.length_append]; omega, fun s hs => ?_⟩ (ja_cons (je_catLs (je_var 6 rfl (Rl.mono _ _ _ _ (g13.trans s4.gg) r6)) (je_listQ (je_var 1 rfl (Rl.mono _ _ _ _ (st3.gg.trans s4.gg) el)) (T.f "list")) (by omega)) ja_nil) hr) o4 fun v10 G5 H5 s5 o5 r10 => ?_
    · rcases List.mem_append.mp hs with h | h
      · exact allLives_mem hcs.2 s h
      · exact m2 s h
    refine wb_set 11 screads_of.nd (R := Rl.tp K rS places) (JE.cast (R := Rl.tp K rS (wFound 0 3 ++ (List.range 2).map dot)) (je_catTs (l1 := wFound 0 3) (l2 := (List.range 2).map dot) (je_call (0, 2) (k_ways_of T) ⟨by decide, by decide⟩ (ja_cons je_int (ja_cons je_int ja_nil)) hr) (je_tupleL (l := ((List.range 2).map dot).map rS) (je_lsmap (D := rS) (f := dot) (je_lcA (ds := List.range 2) (D := fun i => rI (i : Nat)) (E := fun i => rS (dot i)) [("at", 8)] rfl screads_of.nd (blkOk_by rfl) (fun s H C cl fp => pg_name (i := 8) screads_of.nd rfl (.inl rfl))
      (ji_range (n := 2) (je_gi (T.i "MOST_WIDTH" 2)) (by decide) (T.f "range")) (by decide) (lc_name fun x => rfl) ?_)) (T.f "tuple")) (by decide +kernel) (by decide +kernel)) (by rw [place_row])) o5 fun v11 G6 H6 s6 o6 r11 => ?_
    · rintro i hi σ2 G9 g9 ⟨y, rfl, ry⟩ _ _ C cl fp
      cases ry
      obtain ⟨q1, q2⟩ := len_ofInt' (List.mem_range.mp hi)
      exact je_fs (je_v 8) (by decide +kernel) q2 q1
    refine wb_set 12 screads_of.nd (R := Rl.tp K rS order) (JE.cast (R := Rl.tp K rS (wFound 1 4 ++ (["f.0", "f.1", "m.0", "m.1"] : List Str))) (je_catTs (l1 := wFound 1 4) (l2 := (["f.0", "f.1", "m.0", "m.1"] : List Str)) (je_call (1, 3) (k_ways_of T) ⟨by decide, by decide⟩ (ja_cons je_int (ja_cons je_int ja_nil)) hr)
      (je_tup (l := [rS "f.0", rS "f.1", rS "m.0", rS "m.1"]) (ja_cons je_str (ja_cons je_str (ja_cons je_str (ja_cons je_str ja_nil))))) (by decide +kernel) (by decide +kernel)) (by rw [order_row])) o6 fun v12 G7 H7 s7 o7 r12 => ?_
    obtain ⟨pl, ⟨pm, pn⟩, r9⟩ := r9
    obtain ⟨ll, ⟨lm, ln⟩, r10⟩ := r10
    have r9 : (Rl.ls (rPr K) pl).p v9 G4 := r9
    have r10 : (Rl.ls (rPr K) ll).p v10 G5 := r10
    have g47 := (s5.gg.trans s6.gg).trans s7.gg
    have g57 := s6.gg.trans s7.gg
    refine wb_setLcA (ds := (["s", "d"] : List Str)) (DD := rS) (E := fun k => Rl.tp K rS (places.filter fun x => (rowOf pl k).contains x)) 13 [("kind", 19)] rfl screads_of.nd (blkOk_by rfl) (fun s H C cl fp => pg_name (i := 19) screads_of.nd rfl (.inr rfl))
      (ji_tup (je_tup (l := [rS "s", rS "d"]) (ja_cons je_str (ja_cons je_str ja_nil)))) (by decide) (lc_name fun x => rfl) ?_ o7 fun v13 G8 H8 s8 o8 r13 => ?_
    · rintro kd hk σ2 G9 g9 ⟨y, rfl, ry⟩ _ _ C cl fp
      cases ry
      refine je_call (rowOf pl kd, places) (k_in_order T) (show places.length ≤ 1000 by decide +kernel) (ja_cons ?_ (ja_cons (je_var 11 rfl (Rl.mono _ _ _ _ (s7.gg.trans g9) r11)) ja_nil)) hr
      exact je_lsmap (D := rS) (f := fun p : Str × Str => p.2) (je_lc (ds := pl) (D := rPr K) (E := fun p => rS p.2) (f := fun p => decide (V.str p.1 = V.str kd)) [("other", 20), ("place", 21)] rfl screads_of.nd (blkOk_by rfl) (fun s H C cl fp => pg_two 20 21 rfl screads_of.nd)
        (ji_list (je_var 9 rfl (Rl.mono _ _ _ _ (g47.trans g9) r9))) (by omega) (lc_pair fun x y => rfl) (fun p hp σ3 G10 g10 e s H C cl fp => by
          subst e
          exact jts_one (jt_eq (je_v 20) (je_v 19))) (fun p hp hf σ3 G10 g10 e s H C cl fp => by
          subst e
          exact je_v 21))
    refine wb_setLcA (ds := (["s", "d"] : List Str)) (DD := rS) (E := fun k => Rl.tp K rS (places.filter fun x => (rowOf ll k).contains x)) 14 [("kind", 19)] rfl screads_of.nd (blkOk_by rfl) (fun s H C cl fp => pg_name (i := 19) screads_of.nd rfl (.inr rfl))
      (ji_tup (je_tup (l := [rS "s", rS "d"]) (ja_cons je_str (ja_cons je_str ja_nil)))) (by decide) (lc_name fun x => rfl) ?_ o8 fun v14 G9 H9 s9 o9 r14 => ?_
    · rintro kd hk σ2 G9 g9 ⟨y, rfl, ry⟩ _ _ C cl fp
      cases ry
      refine je_call (rowOf ll kd, places) (k_in_order T) (show places.length ≤ 1000 by decide +kernel) (ja_cons ?_ (ja_cons (je_var 11 rfl (Rl.mono _ _ _ _ ((s7.gg.trans s8.gg).trans g9) r11)) ja_nil)) hr
      exact je_lsmap (D := rS) (f := fun p : Str × Str => p.2) (je_lc (ds := ll) (D := rPr K) (E := fun p => rS p.2) (f := fun p => decide (V.str p.1 = V.str kd)) [("other", 20), ("way", 22)] rfl screads_of.nd (blkOk_by rfl) (fun s H C cl fp => pg_two 20 22 rfl screads_of.nd)
        (ji_list (je_var 10 rfl (Rl.mono _ _ _ _ ((g57.trans s8.gg).trans g9) r10))) (by omega) (lc_pair fun x y => rfl) (fun p hp σ3 G10 g10 e s H C cl fp => by
          subst e
          exact jts_one (jt_eq (je_v 20) (je_v 19))) (fun p hp hf σ3 G10 g10 e s H C cl fp => by
          subst e
          exact je_v 22))
    have hal := allTrk_len hcs.2
    have c9 := Rl.mono _ _ _ _ ((((g47.trans s8.gg).trans s9.gg))) (Rl.mono _ _ _ _ s4.gg c3)
    refine wb_set 15 screads_of.nd (je_call (allTrk cs ++ tracked, order) (k_in_order T) (show order.length ≤ 1000 by decide +kernel) (ja_cons (je_catLs (je_call cs (k_tracked_sources T) hcs (ja_cons (je_var 4 rfl c9) ja_nil) hr) (je_listQ (je_var 2 rfl (Rl.mono _ _ _ _ (((st3.gg.trans s4.gg).trans g47).trans (s8.gg.trans s9.gg)) et)) (T.f "list")) (by omega)) (ja_cons (je_var 12 rfl (Rl.mono _ _ _ _ (s8.gg.trans s9.gg) r12)) ja_nil)) hr) o9 fun v15 G10 H10 s10 o10 r15 => ?_
    refine wb_setLc (ds := (["s", "d"] : List Str)) (DD := rS) (E := rS) (ff := fun k => cs.any fun c => klNum (c.kl k)) 16 [("kind", 19)] rfl screads_of.nd (blkOk_by rfl) (fun s H C cl fp => pg_name (i := 19) screads_of.nd rfl (.inl rfl))
      (ji_tup (je_tup (l := [rS "s", rS "d"]) (ja_cons je_str (ja_cons je_str ja_nil)))) (by decide) (lc_name fun x => rfl) ?_ ?_ o10 fun v16 G11 H11 s11 o11 r16 => ?_
    · rintro kd hk σ2 G12 g12 ⟨y, rfl, ry⟩ _ _ C cl fp
      cases ry
      have hkd : kindOk kd := by
        rcases List.mem_cons.mp hk with rfl | hk
        · exact .inl rfl
        · exact .inr (List.mem_singleton.mp hk)
      exact jts_one (jt_val (je_call (cs, kd) (k_asks_number T) ⟨hcs, hkd⟩ (ja_cons (je_var 4 rfl (Rl.mono _ _ _ _ (s10.gg.trans g12) c9)) (ja_cons (je_v 19) ja_nil)) hr))
    · rintro kd hk hf σ2 G12 g12 ⟨y, rfl, ry⟩ _ _ C cl fp
      exact je_var 19 rfl ry
    have st11 := (((((((st3.trans o s4).trans o s5).trans o s6).trans o s7).trans o s8).trans o s9).trans o s10).trans o s11
    have g811 := (s9.gg.trans s10.gg).trans s11.gg
    have r13' := Rl.mono _ _ _ _ g811 r13
    have r14' := Rl.mono _ _ _ _ (s10.gg.trans s11.gg) r14
    refine wb_ret (je_mk (⟨places.filter fun x => (rowOf pl "s").contains x, places.filter fun x => (rowOf pl "d").contains x, places.filter fun x => (rowOf ll "s").contains x, places.filter fun x => (rowOf ll "d").contains x, order.filter fun x => (allTrk cs ++ tracked).contains x, (["s", "d"] : List Str).filter fun k => cs.any fun c => klNum (c.kl k)⟩ : Six) (mk_reads T) trivial (ja_cons (je_ixL (l := (["s", "d"] : List Str).map fun k => Rl.tp K rS (places.filter fun x => (rowOf pl k).contains x)) (je_var 13 rfl r13') je_int) (ja_cons (je_ixL (l := (["s", "d"] : List Str).map fun k => Rl.tp K rS (places.filter fun x => (rowOf pl k).contains x)) (je_var 13 rfl r13') je_int)
      (ja_cons (je_ixL (l := (["s", "d"] : List Str).map fun k => Rl.tp K rS (places.filter fun x => (rowOf ll k).contains x)) (je_var 14 rfl r14') je_int) (ja_cons (je_ixL (l := (["s", "d"] : List Str).map fun k => Rl.tp K rS (places.filter fun x => (rowOf ll k).contains x)) (je_var 14 rfl r14') je_int)
      (ja_cons (je_var 15 rfl (Rl.mono _ _ _ _ s11.gg r15)) (ja_cons (je_var 16 rfl r16) ja_nil)))))) hr) o11 fun v G12 H12 s12 r => k v G12 H12 (st11.trans o s12) ?_
    have e : Nk.six cs names lives tracked houses = _ := (six_eq hcs.2 m2 fu fm pm lm).symm
    show (rRd K (Nk.six cs names lives tracked houses)).p v G12
    rw [e]
    exact r
  have r7 : (Rl.ls (rPr K) (((allSrcs cs ++ names) ++ tracked).map plc)).p v7 G2 := by
    unfold Rl.ls at r7 ⊢
    rw [List.map_map]
    exact r7
  have hu0 : ∀ q ∈ ((allSrcs cs ++ names) ++ tracked).map plc, q ∈ univ := fun q hq => by
    obtain ⟨s, hs, rfl⟩ := List.mem_map.mp hq
    refine (src_of ?_).2
    rcases List.mem_append.mp hs with h | h
    · rcases List.mem_append.mp h with h | h
      · exact allSrcs_mem hcs.2 s h
      · exact m1 s h
    · exact m3 s h
  have hl0 : (((allSrcs cs ++ names) ++ tracked).map plc).length ≤ 4000 := by
    rw [List.length_map, List.length_append, List.length_append]
    omega
  have hm0 : ∀ q, q ∈ ((allSrcs cs ++ names) ++ tracked).map plc ↔ q ∈ ((names ++ allSrcs cs) ++ tracked).map plc := fun q => by
    rw [List.mem_map, List.mem_map]
    constructor
    · rintro ⟨s, hs, e⟩
      exact ⟨s, by rw [List.mem_append, List.mem_append] at hs ⊢; exact hs.imp Or.symm id, e⟩
    · rintro ⟨s, hs, e⟩
      exact ⟨s, by rw [List.mem_append, List.mem_append] at hs ⊢; exact hs.imp Or.symm id, e⟩
  have hwid := width_le hcs.2
  cases houses with
  | false =>
    refine wb_if (P := isB false) (jt_val (je_v 3)) o2 (fun h G3 H3 s3 o3 => by cases h) (fun h G3 H3 s3 o3 => ?_)
    refine wb_nil (after _ v7 none G3 H3 ((s1.trans o s2).trans o s3) (s2.gg.trans s3.gg) (Rl.mono _ _ _ _ s3.gg r7) (by omega) hu0 fun q => ?_)
    rw [hm0]
    unfold firstL
    rw [if_neg Bool.false_ne_true, List.append_nil]
  | true =>
    refine wb_if (P := isB true) (jt_val (je_v 3)) o2 (fun h G3 H3 s3 o3 => ?_) (fun h G3 H3 s3 o3 => by cases h)
    refine wb_for (fun i σ' G' H' => Stp none G H G' H' ∧ Same G1 G' ∧ ∃ v7 ax, σ' = [some nv, some lv, some tv, some (.bl true), some cv, some v5, some v6, some v7, ax, none, none, none, none, none, none, none, none, none, none, none, none, none, none] ∧ (Rl.ls (rPr K) (((allSrcs cs ++ names) ++ tracked).map plc ++ houseP i)).p v7 G') PassesOwn.never rfl (pg_name (i := 8) screads_of.nd rfl (.inl rfl))
      (ji_range (n := width cs) (JE.cast (je_maxDef (ns := cs.map fun c => (c.house.length : Int)) rfl hr (je_lsmap (D := rI) (f := fun c : Cu => (c.house.length : Int)) (je_lcA (ds := cs) (D := rCu K) (E := fun c => rI (c.house.length : Int)) [("custom", 18)] rfl screads_of.nd (blkOk_by rfl) (fun s H C cl fp => pg_name (i := 18) screads_of.nd rfl (.inl rfl))
        (ji_tup (je_var 4 rfl (Rl.mono _ _ _ _ s3.gg c2))) (by omega) (lc_name fun x => rfl) ?_)) je_int (T.f "max")) (by rw [width_max])) (by omega) (T.f "range")) o3
      (fun G4 H4 s4 o4 => ⟨((s1.trans o s2).trans o s3).trans o s4, (s2.gg.trans s3.gg).trans s4.gg, v7, _, rfl, by
        show (Rl.ls (rPr K) (_ ++ [])).p v7 G4
        rw [List.append_nil]
        exact Rl.mono _ _ _ _ (s3.gg.trans s4.gg) r7⟩) ?_ ?_
    · rintro c hc σ2 G9 g9 ⟨y, rfl, ry⟩ _ _ C cl fp
      exact je_fld 3 (je_var 18 rfl ry) (T.c "Custom") (T.n "Custom" "width")
    · rintro Gc gc i R σ' G' H' x hR gg o' ⟨st, g1', v, a, rfl, rv⟩ G5 H5 s5 o5 rx
      have hi : i < width cs := by
        obtain ⟨h, _⟩ := List.getElem?_eq_some_iff.mp hR
        rw [List.length_map, List.length_range] at h
        exact h
      rw [List.getElem?_map, List.getElem?_range hi] at hR
      cases hR
      cases rx
      obtain ⟨q1, q2⟩ := len_ofInt' (j := i) (by omega)
      have hpl := houseP_len i
      refine wb_set 7 screads_of.nd (je_catLs (l2 := [(("s" : Str), dot i), (("d" : Str), dot i)]) (je_var 7 rfl (Rl.mono _ _ _ _ s5.gg rv)) (je_lst (l := [rPr K ("s", dot i), rPr K ("d", dot i)]) (ja_cons (je_tup (l := [rS "s", rS (dot i)]) (ja_cons je_str (ja_cons (je_fs (je_v 8) (by decide +kernel) q2 q1) ja_nil))) (ja_cons (je_tup (l := [rS "d", rS (dot i)]) (ja_cons je_str (ja_cons (je_fs (je_v 8) (by decide +kernel) q2 q1) ja_nil))) ja_nil))) ?_) o5 fun v6' G6 H6 s6 o6 r6' => wb_nil ?_
      · rw [List.length_append, hpl]
        show _ + 2 ≤ _
        omega
      · refine ⟨G6, (gg.trans s5.gg).trans s6.gg, o6, (st.trans o s5).trans o s6, (g1'.trans s5.gg).trans s6.gg, v6', _, rfl, ?_⟩
        rw [houseP_succ, ← List.append_assoc]
        exact r6'
    · rintro σ' G' H' gg o' ⟨st, g1', v, a, rfl, rv⟩
      rw [List.length_map, List.length_range] at rv
      have hpl := houseP_len (width cs)
      refine wb_nil (after _ v a G' H' st g1' rv (by rw [List.length_append, hpl]; omega) (fun q hq => ?_) fun q => ?_)
      · rcases List.mem_append.mp hq with h | h
        · exact hu0 q h
        · exact houseP_univ hwid q h
      · unfold firstL
        rw [if_pos rfl, List.mem_append, List.mem_append, hm0]
/-! ### the calls of reads_of -/
theorem kw_0 (T : Tx K mg) : CalK P w K mg base 6 "reads_of" [] (fun zs => [V.ref (kwA K "names"), V.ref (kwA K "lives"), V.ref (kwA K "tracked"), V.bl false]) (spRd K) := by
  obtain ⟨fd, F⟩ := T.F_reads_of
  exact ⟨_, fn_k (ps := ["names", "lives", "tracked", "houses"]) (pv := "customs") (ks := []) (ms := rdKw K) F (by simp) (fun q h => h) (fun mv zs => mv) (fun _ _ a _ => a) (fun mv zs h _ => h) (fun D doc pm an cdv ct u0 us mv ws h1 h2 => match mv, ws, h1, h2 with
    | [_, _, _, _], [], _, _ => ⟨_, _, _, _, _, _, rfl, rfl, _, _, _, _, _, _, rfl, rfl, _, _, _, _, _, _, rfl, rfl, _, _, _, _, _, _, rfl, rfl, rfl⟩) screads_of
    (fun cdv A outer s H vs Q E hr ⟨d, G, g, hp, al, kk⟩ => ⟨_, (pB (X := Xc P w K mg base nreads_of "reads_of" sreads_of (He.ga K "reads_of") cdv A outer s H E)).nox, b_reads_of T cdv A outer s H E d G H vs Q hr hp (.of g) al kk⟩), T.g "reads_of", F.kp⟩
end
end Nk
namespace Nk
open PySem PySem.Spec PyProof.Rows L2
section
variable {P : Program} {w : World} {K : PySem.W.Frag} {mg : Str → Option Value} {base : Heap}
def gkw_l {α : Type} : List α → List α → List α
  | [a, c, d], [b] => [a, b, c, d]
  | _, _ => []
theorem kw_l (T : Tx K mg) : CalK P w K mg base 6 "reads_of" ["lives"] (fun zs => gkw_l ([V.ref (kwA K "names"), V.ref (kwA K "tracked"), V.bl false] : List V) zs) (spRd K) := by
  obtain ⟨fd, F⟩ := T.F_reads_of
  exact ⟨_, fn_k (ps := ["names", "lives", "tracked", "houses"]) (pv := "customs") (ks := ["lives"]) (ms := [("names", .ref (kwA K "names")), ("tracked", .ref (kwA K "tracked")), ("houses", .bl false)]) F (by simp) (fun q h => by
      simp only [List.mem_cons, List.not_mem_nil, or_false] at h
      rcases h with rfl | rfl | rfl <;> simp) (fun mv zs => gkw_l mv zs) (fun {mz zs mv ws} h1 h2 r1 r2 => match mz, zs, h1, h2, mv, ws, r1, r2 with
    | [_, _, _], [_], _, _, _, _, .cons ra (.cons rc (.cons rd .nil)), .cons rb .nil => .cons ra (.cons rb (.cons rc (.cons rd .nil)))) (fun mv zs h1 h2 => match mv, zs, h1, h2 with
    | [_, _, _], [_], _, _ => rfl) (fun D doc pm an cdv ct u0 us mv ws h1 h2 => match mv, ws, h1, h2 with
    | [_, _, _], [_], _, _ => ⟨_, _, _, _, _, _, rfl, rfl, _, _, _, _, _, _, rfl, rfl, _, _, _, _, _, _, rfl, rfl, rfl⟩) screads_of
    (fun cdv A outer s H vs Q E hr ⟨d, G, g, hp, al, kk⟩ => ⟨_, (pB (X := Xc P w K mg base nreads_of "reads_of" sreads_of (He.ga K "reads_of") cdv A outer s H E)).nox, b_reads_of T cdv A outer s H E d G H vs Q hr hp (.of g) al kk⟩), T.g "reads_of", F.kp⟩
def gkw_t {α : Type} : List α → List α → List α
  | [a, b, d], [c] => [a, b, c, d]
  | _, _ => []
theorem kw_t (T : Tx K mg) : CalK P w K mg base 6 "reads_of" ["tracked"] (fun zs => gkw_t ([V.ref (kwA K "names"), V.ref (kwA K "lives"), V.bl false] : List V) zs) (spRd K) := by
  obtain ⟨fd, F⟩ := T.F_reads_of
  exact ⟨_, fn_k (ps := ["names", "lives", "tracked", "houses"]) (pv := "customs") (ks := ["tracked"]) (ms := [("names", .ref (kwA K "names")), ("lives", .ref (kwA K "lives")), ("houses", .bl false)]) F (by simp) (fun q h => by
      simp only [List.mem_cons, List.not_mem_nil, or_false] at h
      rcases h with rfl | rfl | rfl <;> simp) (fun mv zs => gkw_t mv zs) (fun {mz zs mv ws} h1 h2 r1 r2 => match mz, zs, h1, h2, mv, ws, r1, r2 with
    | [_, _, _], [_], _, _, _, _, .cons ra (.cons rb (.cons rd .nil)), .cons rc .nil => .cons ra (.cons rb (.cons rc (.cons rd .nil)))) (fun mv zs h1 h2 => match mv, zs, h1, h2 with
    | [_, _, _], [_], _, _ => rfl) (fun D doc pm an cdv ct u0 us mv ws h1 h2 => match mv, ws, h1, h2 with
    | [_, _, _], [_], _, _ => ⟨_, _, _, _, _, _, rfl, rfl, _, _, _, _, _, _, rfl, rfl, _, _, _, _, _, _, rfl, rfl, rfl⟩) screads_of
    (fun cdv A outer s H vs Q E hr ⟨d, G, g, hp, al, kk⟩ => ⟨_, (pB (X := Xc P w K mg base nreads_of "reads_of" sreads_of (He.ga K "reads_of") cdv A outer s H E)).nox, b_reads_of T cdv A outer s H E d G H vs Q hr hp (.of g) al kk⟩), T.g "reads_of", F.kp⟩
def gkw_l_t_n {α : Type} : List α → List α → List α
  | [d], [b, c, a] => [a, b, c, d]
  | _, _ => []
theorem kw_l_t_n (T : Tx K mg) : CalK P w K mg base 6 "reads_of" ["lives", "tracked", "names"] (fun zs => gkw_l_t_n ([V.bl false] : List V) zs) (spRd K) := by
  obtain ⟨fd, F⟩ := T.F_reads_of
  exact ⟨_, fn_k (ps := ["names", "lives", "tracked", "houses"]) (pv := "customs") (ks := ["lives", "tracked", "names"]) (ms := [("houses", .bl false)]) F (by simp) (fun q h => by
      simp only [List.mem_cons, List.not_mem_nil, or_false] at h
      subst h
      simp) (fun mv zs => gkw_l_t_n mv zs) (fun {mz zs mv ws} h1 h2 r1 r2 => match mz, zs, h1, h2, mv, ws, r1, r2 with
    | [_], [_, _, _], _, _, _, _, .cons rd .nil, .cons rb (.cons rc (.cons ra .nil)) => .cons ra (.cons rb (.cons rc (.cons rd .nil)))) (fun mv zs h1 h2 => match mv, zs, h1, h2 with
    | [_], [_, _, _], _, _ => rfl) (fun D doc pm an cdv ct u0 us mv ws h1 h2 => match mv, ws, h1, h2 with
    | [_], [_, _, _], _, _ => ⟨_, _, _, _, _, _, rfl, rfl, rfl⟩) screads_of
    (fun cdv A outer s H vs Q E hr ⟨d, G, g, hp, al, kk⟩ => ⟨_, (pB (X := Xc P w K mg base nreads_of "reads_of" sreads_of (He.ga K "reads_of") cdv A outer s H E)).nox, b_reads_of T cdv A outer s H E d G H vs Q hr hp (.of g) al kk⟩), T.g "reads_of", F.kp⟩
def gkw_h {α : Type} : List α → List α → List α
  | [a, b, c], [d] => [a, b, c, d]
  | _, _ => []
theorem kw_h (T : Tx K mg) : CalK P w K mg base 6 "reads_of" ["houses"] (fun zs => gkw_h ([V.ref (kwA K "names"), V.ref (kwA K "lives"), V.ref (kwA K "tracked")] : List V) zs) (spRd K) := by
  obtain ⟨fd, F⟩ := T.F_reads_of
  exact ⟨_, fn_k (ps := ["names", "lives", "tracked", "houses"]) (pv := "customs") (ks := ["houses"]) (ms := [("names", .ref (kwA K "names")), ("lives", .ref (kwA K "lives")), ("tracked", .ref (kwA K "tracked"))]) F (by simp) (fun q h => by
      simp only [List.mem_cons, List.not_mem_nil, or_false] at h
      rcases h with rfl | rfl | rfl <;> simp) (fun mv zs => gkw_h mv zs) (fun {mz zs mv ws} h1 h2 r1 r2 => match mz, zs, h1, h2, mv, ws, r1, r2 with
    | [_, _, _], [_], _, _, _, _, .cons ra (.cons rb (.cons rc .nil)), .cons rd .nil => .cons ra (.cons rb (.cons rc (.cons rd .nil)))) (fun mv zs h1 h2 => match mv, zs, h1, h2 with
    | [_, _, _], [_], _, _ => rfl) (fun D doc pm an cdv ct u0 us mv ws h1 h2 => match mv, ws, h1, h2 with
    | [_, _, _], [_], _, _ => ⟨_, _, _, _, _, _, rfl, rfl, _, _, _, _, _, _, rfl, rfl, _, _, _, _, _, _, rfl, rfl, rfl⟩) screads_of
    (fun cdv A outer s H vs Q E hr ⟨d, G, g, hp, al, kk⟩ => ⟨_, (pB (X := Xc P w K mg base nreads_of "reads_of" sreads_of (He.ga K "reads_of") cdv A outer s H E)).nox, b_reads_of T cdv A outer s H E d G H vs Q hr hp (.of g) al kk⟩), T.g "reads_of", F.kp⟩
def gkw_n_l {α : Type} : List α → List α → List α
  | [c, d], [a, b] => [a, b, c, d]
  | _, _ => []
theorem kw_n_l (T : Tx K mg) : CalK P w K mg base 6 "reads_of" ["names", "lives"] (fun zs => gkw_n_l ([V.ref (kwA K "tracked"), V.bl false] : List V) zs) (spRd K) := by
  obtain ⟨fd, F⟩ := T.F_reads_of
  exact ⟨_, fn_k (ps := ["names", "lives", "tracked", "houses"]) (pv := "customs") (ks := ["names", "lives"]) (ms := [("tracked", .ref (kwA K "tracked")), ("houses", .bl false)]) F (by simp) (fun q h => by
      simp only [List.mem_cons, List.not_mem_nil, or_false] at h
      rcases h with rfl | rfl <;> simp) (fun mv zs => gkw_n_l mv zs) (fun {mz zs mv ws} h1 h2 r1 r2 => match mz, zs, h1, h2, mv, ws, r1, r2 with
    | [_, _], [_, _], _, _, _, _, .cons rc (.cons rd .nil), .cons ra (.cons rb .nil) => .cons ra (.cons rb (.cons rc (.cons rd .nil)))) (fun mv zs h1 h2 => match mv, zs, h1, h2 with
    | [_, _], [_, _], _, _ => rfl) (fun D doc pm an cdv ct u0 us mv ws h1 h2 => match mv, ws, h1, h2 with
    | [_, _], [_, _], _, _ => ⟨_, _, _, _, _, _, rfl, rfl, _, _, _, _, _, _, rfl, rfl, rfl⟩) screads_of
    (fun cdv A outer s H vs Q E hr ⟨d, G, g, hp, al, kk⟩ => ⟨_, (pB (X := Xc P w K mg base nreads_of "reads_of" sreads_of (He.ga K "reads_of") cdv A outer s H E)).nox, b_reads_of T cdv A outer s H E d G H vs Q hr hp (.of g) al kk⟩), T.g "reads_of", F.kp⟩
def gkw_t_n_l_h {α : Type} : List α → List α → List α
  | [], [c, a, b, d] => [a, b, c, d]
  | _, _ => []
theorem kw_t_n_l_h (T : Tx K mg) : CalK P w K mg base 6 "reads_of" ["tracked", "names", "lives", "houses"] (fun zs => gkw_t_n_l_h ([] : List V) zs) (spRd K) := by
  obtain ⟨fd, F⟩ := T.F_reads_of
  exact ⟨_, fn_k (ps := ["names", "lives", "tracked", "houses"]) (pv := "customs") (ks := ["tracked", "names", "lives", "houses"]) (ms := []) F (by simp) (fun q h => by
      cases h) (fun mv zs => gkw_t_n_l_h mv zs) (fun {mz zs mv ws} h1 h2 r1 r2 => match mz, zs, h1, h2, mv, ws, r1, r2 with
    | [], [_, _, _, _], _, _, _, _, .nil, .cons rc (.cons ra (.cons rb (.cons rd .nil))) => .cons ra (.cons rb (.cons rc (.cons rd .nil)))) (fun mv zs h1 h2 => match mv, zs, h1, h2 with
    | [], [_, _, _, _], _, _ => rfl) (fun D doc pm an cdv ct u0 us mv ws h1 h2 => match mv, ws, h1, h2 with
    | [], [_, _, _, _], _, _ => rfl) screads_of
    (fun cdv A outer s H vs Q E hr ⟨d, G, g, hp, al, kk⟩ => ⟨_, (pB (X := Xc P w K mg base nreads_of "reads_of" sreads_of (He.ga K "reads_of") cdv A outer s H E)).nox, b_reads_of T cdv A outer s H E d G H vs Q hr hp (.of g) al kk⟩), T.g "reads_of", F.kp⟩
end
end Nk
namespace Nk
open PySem PySem.Spec PyProof.Rows L2
section
variable {P : Program} {w : World} {K : PySem.W.Frag} {mg : Str → Option Value} {base : Heap}
/-! ### the law's texts -/
theorem k_Lways (T : Tx K mg) : C8.Cal P w K mg base 1 "_law_ways" (spF wOk (fun d => [rI d.1, rI d.2]) fun d => Rl.ls rS (wFound d.1 (d.2 + 1))) [] := by
  obtain ⟨fd, F⟩ := T.F_Lways
  refine cal_pure F (T.g "_law_ways") (F.bindsN fun _ _ _ _ _ _ us hl => match us, hl with | [_, _], _ => rfl) scLways (fun _ => rfl) ?_
  rintro cdv A outer s0 H0 E ⟨lo, hi⟩ G H vs Q hr ⟨hlo, hhi⟩ o al k
  obtain ⟨_, _, rfl, e2, e3⟩ := AlL.two al
  cases e2; cases e3
  have hlo : lo < 3 := hlo
  have hhi : hi < 4 := hhi
  refine wb_set 2 scLways.nd (je_lst ja_nil) o fun v1 G1 H1 s1 o1 r1 => ?_
  refine wb_set 3 scLways.nd (je_lst (ja_cons je_str ja_nil)) o1 fun v2 G2 H2 s2 o2 r2 => ?_
  refine wb_for (fun i σ' G' H' => Stp none G H G' H' ∧ ∃ v1 v2 a b c, σ' = [some (.int lo), some (.int hi), some v1, some v2, a, b, c] ∧ (Rl.ls rS (wFound lo i)).p v1 G' ∧ (Rl.ls rS (wLvl i)).p v2 G') PassesOwn.never rfl (pg_name (i := 4) scLways.nd rfl (.inl rfl))
    (ji_range (n := hi + 1) (je_add (i := (hi : Int)) (j := 1) (je_v 1) je_int) (by omega) (T.f "range")) o2
    (fun G3 H3 s3 o3 => ⟨((s1.trans o s2).trans o s3), v1, v2, _, _, _, rfl, Rl.mono _ _ _ _ (s2.gg.trans s3.gg) r1, Rl.mono _ _ _ _ s3.gg r2⟩) ?_ ?_
  · rintro Gc gc i R σ' G' H' x hR gg o' ⟨st, v1, v2, a, b, c, rfl, r1, r2⟩ G3 H3 s3 o3 rx
    have hii : i < hi + 1 := by
      obtain ⟨h, _⟩ := List.getElem?_eq_some_iff.mp hR
      rw [List.length_map, List.length_range] at h
      exact h
    rw [List.getElem?_map, List.getElem?_range hii] at hR
    cases hR
    cases rx
    have h4 : i < 4 := by omega
    have lv := wLvl_len i h4
    -- behind the first if
    have after : ∀ (G5 H5 : Hp) (v3 : V), Stp none G H G5 H5 → Same Gc G5 → Same G3 G5 → (Rl.ls rS (wFound lo (i + 1))).p v3 G5 →
        WB (Xc P w K mg base nLways "_law_ways" sLways (He.ga K "_law_ways") cdv A outer s0 H0 E) ((match (defBody sLways).getD 2 (.Pass ⟨0, 0, 0, 0⟩) with | .For _ _ bd _ _ => bd | _ => []).drop 1)
          { nx := Nx none Gc (fun σ' G' H' => Stp none G H G' H' ∧ ∃ v1 v2 a b c, σ' = [some (.int lo), some (.int hi), some v1, some v2, a, b, c] ∧ (Rl.ls rS (wFound lo (i + 1))).p v1 G' ∧ (Rl.ls rS (wLvl (i + 1))).p v2 G'), ct := Nx none Gc (fun σ' G' H' => Stp none G H G' H' ∧ ∃ v1 v2 a b c, σ' = [some (.int lo), some (.int hi), some v1, some v2, a, b, c] ∧ (Rl.ls rS (wFound lo (i + 1))).p v1 G' ∧ (Rl.ls rS (wLvl (i + 1))).p v2 G'),
            bk := WB (Xc P w K mg base nLways "_law_ways" sLways (He.ga K "_law_ways") cdv A outer s0 H0 E) ((defBody sLways).drop 3) { nx := fun _ H' => Q .non H', rt := Q }, rt := Q }
          [some (.int lo), some (.int hi), some v3, some v2, some (.int i), b, c] H5 := by
      intro G5 H5 v3 st5 gc5 g35 r3
      refine wb_set 5 scLways.nd (je_lst ja_nil) (st5.okm o) fun v6 G6 H6 s6 o6 r6 => ?_
      refine wb_for (fun j σ' G' H' => Stp none G H G' H' ∧ Same G5 G' ∧ ∃ v6 c, σ' = [some (.int lo), some (.int hi), some v3, some v2, some (.int i), some v6, c] ∧ (Rl.ls rS (((wLvl i).take j).flatMap fun w => [w ++ ("f" : Str), w ++ ("m" : Str)])).p v6 G') PassesOwn.never rfl (pg_name (i := 6) scLways.nd rfl (.inl rfl))
        (ji_list (je_var 3 rfl (Rl.mono _ _ _ _ ((s3.gg.trans g35).trans s6.gg) r2))) o6 (fun G7 H7 s7 o7 => ⟨(st5.trans o s6).trans o s7, s6.gg.trans s7.gg, v6, _, rfl, Rl.mono _ _ _ _ s7.gg r6⟩) ?_ ?_
      · rintro Gd gd j R2 σ2 G7 H7 y hR2 gg2 o7 ⟨st7, g57, v7, c7, rfl, r7⟩ G8 H8 s8 o8 ry
        rw [List.getElem?_map] at hR2
        cases hw : (wLvl i)[j]? with
        | none =>
          rw [hw] at hR2
          cases hR2
        | some way =>
          rw [hw] at hR2
          cases hR2
          cases ry
          have hlen := decide_eq_true_iff.mp (List.all_eq_true.mp lv.2 way (List.mem_of_getElem? hw))
          have h1 : ∀ x : Str, x.length ≤ 1 → way.length + x.length ≤ sizeLine := fun x hx => Nat.le_trans (Nat.add_le_add hlen hx) (by decide)
          refine wb_set 5 scLways.nd (je_catLs (l2 := [way ++ ("f" : Str), way ++ ("m" : Str)]) (je_var 5 rfl (Rl.mono _ _ _ _ s8.gg r7)) (je_lst (l := [rS (way ++ ("f" : Str)), rS (way ++ ("m" : Str))]) (ja_cons (je_cat (je_v 6) je_str (h1 _ (by decide +kernel))) (ja_cons (je_cat (je_v 6) je_str (h1 _ (by decide +kernel))) ja_nil))) ?_) o8 fun v9 G9 H9 s9 o9 r9 => wb_nil ?_
          · have := flat_len (f := fun w : Str => [w ++ ("f" : Str), w ++ ("m" : Str)]) (n := 2) (fun _ => Nat.le_refl 2) ((wLvl i).take j)
            have h2 : ((wLvl i).take j).length ≤ 8 := Nat.le_trans (List.length_take_le' _ _) lv.1
            show _ + 2 ≤ 100000
            omega
          · refine ⟨G9, (gg2.trans s8.gg).trans s9.gg, o9, (st7.trans o s8).trans o s9, (g57.trans s8.gg).trans s9.gg, v9, _, rfl, ?_⟩
            rw [take_flat hw]
            exact r9
      · rintro σ' G10 H10 gg10 o10 ⟨st10, g510, v10, c10, rfl, r10⟩
        rw [List.length_map, List.take_length] at r10
        refine wb_set 3 scLways.nd (je_var 5 rfl r10) o10 fun v11 G11 H11 s11 o11 r11 => wb_nil ⟨G11, (gc5.trans g510).trans s11.gg, o11, st10.trans o s11, v3, v11, _, _, _, rfl, Rl.mono _ _ _ _ (g510.trans s11.gg) r3, r11⟩
    refine wb_if (jt_ge (je_v 4) (je_v 0)) o3 (fun h G4 H4 s4 o4 => ?_) (fun h G4 H4 s4 o4 => ?_)
    · have hl : lo ≤ i := by
        have h := decide_eq_true_iff.mp (show decide ((lo : Int) ≤ (i : Int)) = true from h.symm)
        omega
      refine wb_set 2 scLways.nd (je_catLs (je_var 2 rfl (Rl.mono _ _ _ _ (s3.gg.trans s4.gg) r1)) (je_var 3 rfl (Rl.mono _ _ _ _ (s3.gg.trans s4.gg) r2)) (by
        have := wFound_len lo hlo i (by omega)
        omega)) o4 fun v3 G5 H5 s5 o5 r5 => wb_nil ?_
      have e : wFound lo (i + 1) = wFound lo i ++ wLvl i := if_pos hl
      exact after G5 H5 v3 (((st.trans o s3).trans o s4).trans o s5) (((gg.trans s3.gg).trans s4.gg).trans s5.gg) (s4.gg.trans s5.gg) (by rw [e]; exact r5)
    · have hl : ¬ lo ≤ i := by
        have h := decide_eq_false_iff_not.mp (show decide ((lo : Int) ≤ (i : Int)) = false from h.symm)
        omega
      have e : wFound lo (i + 1) = wFound lo i := if_neg hl
      exact wb_nil (after G4 H4 v1 ((st.trans o s3).trans o s4) ((gg.trans s3.gg).trans s4.gg) s4.gg (by rw [e]; exact Rl.mono _ _ _ _ (s3.gg.trans s4.gg) r1))
  · rintro σ' G' H' gg o' ⟨st, v1, v2, a, b, c, rfl, r1, r2⟩
    rw [List.length_map, List.length_range] at r1
    exact wb_ret (je_var 2 rfl r1) o' fun v G4 H4 s4 r => k v G4 H4 (st.trans o s4) r
theorem house_row : ∀ w ≤ 2, (List.range (2 * w)).map (fun i => (["f.0", "m.0", "f.1", "m.1"] : List Str).getD i "") = houseL w := by decide +kernel
theorem k_Lhouses (T : Tx K mg) : C8.Cal P w K mg base 1 "_law_houses" (spF (fun n : Nat => n ≤ 2) (fun n => [rI n]) fun n => Rl.ls rS (houseL n)) [] := by
  obtain ⟨fd, F⟩ := T.F_Lhouses
  refine cal_pure F (T.g "_law_houses") (F.bindsN fun _ _ _ _ _ _ us hl => match us, hl with | [_], _ => rfl) scLhouses (fun _ => rfl) ?_
  intro cdv A outer s0 H0 E n G H vs Q hr hn o al k
  have hn : n ≤ 2 := hn
  obtain ⟨_, rfl, e⟩ := AlL.one al
  cases e
  have e1 : ((2 * n : Nat) : Int) = 2 * (n : Int) := by omega
  refine wb_ret (R := Rl.ls rS (houseL n)) (JE.cast (je_lsmap (D := rS) (f := fun i => (["f.0", "m.0", "f.1", "m.1"] : List Str).getD i "") (je_lcA (ds := List.range (2 * n)) (D := fun i => rI (i : Nat)) (E := fun i => rS ((["f.0", "m.0", "f.1", "m.1"] : List Str).getD i "")) [("_law_k", 1)] rfl scLhouses.nd (blkOk_by rfl) (fun s H C cl fp => pg_name (i := 1) scLhouses.nd rfl (.inl rfl))
    (ji_range (n := 2 * n) (JE.cast (je_mul je_int (je_v 0) ?_) (by rw [e1])) (by omega) (T.f "range")) (by rw [List.length_range]; omega) (lc_name fun x => rfl) ?_)) (by rw [house_row n hn])) o k
  · exact .inl ⟨by decide, by omega⟩
  · rintro i hi σ2 G9 g9 ⟨y, rfl, ry⟩ _ _ C cl fp
    cases ry
    have hi : i < 4 := by
      have := List.mem_range.mp hi
      omega
    have : i = 0 ∨ i = 1 ∨ i = 2 ∨ i = 3 := by omega
    rcases this with rfl | rfl | rfl | rfl <;> exact je_ixL (l := [rS "f.0", rS "m.0", rS "f.1", rS "m.1"]) (je_lst (ja_cons je_str (ja_cons je_str (ja_cons je_str (ja_cons je_str ja_nil))))) (je_v 1)
theorem k_Lsources (T : Tx K mg) : C8.Cal P w K mg base 2 "_law_sources" (spF (fun n : Nat => n ≤ 2) (fun n => [rI n]) fun n => Rl.ls rS (srcsL n)) [] := by
  obtain ⟨fd, F⟩ := T.F_Lsources
  refine cal_pure F (T.g "_law_sources") (F.bindsN fun _ _ _ _ _ _ us hl => match us, hl with | [_], _ => rfl) scLsources (fun _ => rfl) ?_
  intro cdv A outer s0 H0 E n G H vs Q hr hn o al k
  have hn : n ≤ 2 := hn
  obtain ⟨_, rfl, e⟩ := AlL.one al
  cases e
  have hl : (houseL n).length ≤ 4 := by
    have : n = 0 ∨ n = 1 ∨ n = 2 := by omega
    rcases this with rfl | rfl | rfl <;> decide
  refine wb_ret (R := Rl.ls rS (srcsL n)) (JE.cast (je_catLs (l1 := wFound 1 4) (l2 := houseL n) (je_call (1, 3) (k_Lways T) ⟨by decide, by decide⟩ (ja_cons je_int (ja_cons je_int ja_nil)) hr) (je_call n (k_Lhouses T) hn (ja_cons (je_v 0) ja_nil) hr) (by have := wFound_len 1 (by decide) 4 (by decide); omega)) (by rw [wFound13] <;> rfl)) o k
theorem k_Lkind (T : Tx K mg) : C8.Cal P w K mg base 1 "_law_kind" (spS pkd) [] := by
  obtain ⟨fd, F⟩ := T.F_Lkind
  refine cal_pure F (T.g "_law_kind") (F.bindsN fun _ _ _ _ _ _ us hl => match us, hl with | [_], _ => rfl) scLkind (fun _ => rfl) ?_
  intro cdv A outer s0 H0 E s G H vs Q hr hs o al k
  obtain ⟨_, rfl, e⟩ := AlL.one al
  cases e
  refine wb_ret (R := rS (pkd s)) (je_ifE (jt_eq (je_v 0) je_str) (fun h => ?_) (fun h => ?_)) o k
  · have h := decide_eq_true_iff.mp h.symm
    cases h
    exact je_str
  · have h := decide_eq_false_iff_not.mp h.symm
    have e : pkd s = "d" := if_neg fun e => h (by rw [e])
    rw [e]
    exact je_str
/-! ### the law makes the customs -/
def cdB : Cd → Bool
  | .number n => decide (1 ≤ n) && decide (n ≤ 4)
  | .never => true
  | .unborne => true
  | .dead x => decide (x ∈ ways13)
  | .alive x => decide (x ∈ ways13)
  | .unlike a b => srcOk a && srcOk b
theorem cdB_of {n : Nat} (hn : n ≤ 2) {c : Cd} (h : c.Ok n) : cdB c = true := by
  cases c with
  | number i => 
    have h : 1 ≤ i ∧ i ≤ 4 := h
    show (decide _ && decide _) = true
    rw [decide_eq_true h.1, decide_eq_true h.2] <;> rfl
  | never => rfl
  | unborne => rfl
  | dead x => exact decide_eq_true h
  | alive x => exact decide_eq_true h
  | unlike a b =>
    have h : a ∈ srcsL n ∧ b ∈ srcsL n := h
    have e : ∀ s ∈ srcsL n, srcOk s = true := fun s hs => List.all_eq_true.mp (srcs_ok n hn) s hs
    show (srcOk a && srcOk b) = true
    rw [e a h.1, e b h.2] <;> rfl
theorem k_Lmake_condition (T : Tx K mg) : C8.Cal P w K mg base 5 "_law_make_condition" (spF (fun c : Cd => cdB c = true) (fun c => [rcd K c]) (rCd K)) [] := by
  obtain ⟨fd, F⟩ := T.F_Lmake_condition
  refine cal_pure F (T.g "_law_make_condition") (F.bindsN fun _ _ _ _ _ _ us hl => match us, hl with | [_], _ => rfl) scLmake_condition (fun _ => rfl) ?_
  intro cdv A outer s0 H0 E c G H vs Q hr hc o al k
  obtain ⟨rv, rfl, e1⟩ := AlL.one al
  -- a test of the first item
  have no : ∀ {X : Cx} {rest th : List Stmt} {D : Ends} {σ : L2.St} {G H : Hp} {a b : Expr} {p p2 : Pos} {x y : Str}, JE none X a σ G (rS x) → JE none X b σ G (rS y) → x ≠ y → Okm none G H → (∀ G' H', Stp none G H G' H' → Okm none G' H' → WB X rest D σ H') → WB X (.If (.Compare a [.Eq] [b] p) th [] p2 :: rest) D σ H := fun ha hb ne o k =>
    wb_if (P := isB false) (jt_flip (jt_eq ha hb) (decide_eq_false fun e => ne (V.str.inj e))) o (fun h => by cases h) fun _ G' H' s' o' => wb_nil (k G' H' s' o')
  have yes : ∀ {X : Cx} {rest th : List Stmt} {D : Ends} {σ : L2.St} {G H : Hp} {a b : Expr} {p p2 : Pos} {x : Str}, JE none X a σ G (rS x) → JE none X b σ G (rS x) → Okm none G H → (∀ G' H', Stp none G H G' H' → Okm none G' H' → WB X th { D with nx := WB X rest D } σ H') → WB X (.If (.Compare a [.Eq] [b] p) th [] p2 :: rest) D σ H := fun ha hb o k =>
    wb_if (P := isB true) (jt_flip (jt_eq ha hb) (decide_eq_true rfl)) o (fun _ G' H' s' o' => k G' H' s' o') fun h => by cases h
  cases c with
  | number n =>
    have e1 : (Rl.tpl K [rS "number", rI n]).p rv G := e1
    have hc : (decide (1 ≤ n) && decide (n ≤ 4)) = true := hc
    rw [Bool.and_eq_true] at hc
    refine yes (x := "number") (je_ixT (je_var 0 rfl e1) je_int) je_str o fun G1 H1 s1 o1 => ?_
    exact wb_ret (je_mk n (mk_number T) ⟨decide_eq_true_iff.mp hc.1, decide_eq_true_iff.mp hc.2⟩ (ja_cons (je_ixT (je_var 0 rfl (Rl.mono _ _ _ _ s1.gg e1)) je_int) ja_nil) hr) o1 fun v G2 H2 s2 r => k v G2 H2 (s1.trans o s2) r
  | alive x =>
    have e1 : (Rl.tpl K [rS "alive", rS x]).p rv G := e1
    refine no (x := "alive") (y := "number") (je_ixT (je_var 0 rfl e1) je_int) je_str (by decide +kernel) o fun G1 H1 s1 o1 => ?_
    have e2 := Rl.mono _ _ _ _ s1.gg e1
    refine yes (x := "alive") (je_ixT (je_var 0 rfl e2) je_int) je_str o1 fun G2 H2 s2 o2 => ?_
    exact wb_ret (je_mk x (mk_life T "Alive" (.inl rfl)) (decide_eq_true_iff.mp hc) (ja_cons (je_ixT (je_var 0 rfl (Rl.mono _ _ _ _ s2.gg e2)) je_int) ja_nil) hr) o2 fun v G3 H3 s3 r => k v G3 H3 ((s1.trans o s2).trans o s3) r
  | dead x =>
    have e1 : (Rl.tpl K [rS "dead", rS x]).p rv G := e1
    refine no (x := "dead") (y := "number") (je_ixT (je_var 0 rfl e1) je_int) je_str (by decide +kernel) o fun G1 H1 s1 o1 => ?_
    have e2 := Rl.mono _ _ _ _ s1.gg e1
    refine no (x := "dead") (y := "alive") (je_ixT (je_var 0 rfl e2) je_int) je_str (by decide +kernel) o1 fun G2 H2 s2 o2 => ?_
    have e3 := Rl.mono _ _ _ _ s2.gg e2
    refine yes (x := "dead") (je_ixT (je_var 0 rfl e3) je_int) je_str o2 fun G3 H3 s3 o3 => ?_
    exact wb_ret (je_mk x (mk_life T "Dead" (.inr rfl)) (decide_eq_true_iff.mp hc) (ja_cons (je_ixT (je_var 0 rfl (Rl.mono _ _ _ _ s3.gg e3)) je_int) ja_nil) hr) o3 fun v G4 H4 s4 r => k v G4 H4 (((s1.trans o s2).trans o s3).trans o s4) r
  | unlike a b =>
    have e1 : (Rl.tpl K [rS "unlike", rS a, rS b]).p rv G := e1
    have hc : (srcOk a && srcOk b) = true := hc
    rw [Bool.and_eq_true] at hc
    refine no (x := "unlike") (y := "number") (je_ixT (je_var 0 rfl e1) je_int) je_str (by decide +kernel) o fun G1 H1 s1 o1 => ?_
    have e2 := Rl.mono _ _ _ _ s1.gg e1
    refine no (x := "unlike") (y := "alive") (je_ixT (je_var 0 rfl e2) je_int) je_str (by decide +kernel) o1 fun G2 H2 s2 o2 => ?_
    have e3 := Rl.mono _ _ _ _ s2.gg e2
    refine no (x := "unlike") (y := "dead") (je_ixT (je_var 0 rfl e3) je_int) je_str (by decide +kernel) o2 fun G3 H3 s3 o3 => ?_
    have e4 := Rl.mono _ _ _ _ s3.gg e3
    refine yes (x := "unlike") (je_ixT (je_var 0 rfl e4) je_int) je_str o3 fun G4 H4 s4 o4 => ?_
    have e5 := Rl.mono _ _ _ _ s4.gg e4
    exact wb_ret (je_mk (a, b) (mk_unlike T) ⟨hc.1, hc.2⟩ (ja_cons (je_ixT (je_var 0 rfl e5) je_int) (ja_cons (je_ixT (je_var 0 rfl e5) je_int) ja_nil)) hr) o4 fun v G5 H5 s5 r => k v G5 H5 ((((s1.trans o s2).trans o s3).trans o s4).trans o s5) r
  | never =>
    have e1 : (Rl.tpl K [rS "never"]).p rv G := e1
    refine no (x := "never") (y := "number") (je_ixT (je_var 0 rfl e1) je_int) je_str (by decide +kernel) o fun G1 H1 s1 o1 => ?_
    have e2 := Rl.mono _ _ _ _ s1.gg e1
    refine no (x := "never") (y := "alive") (je_ixT (je_var 0 rfl e2) je_int) je_str (by decide +kernel) o1 fun G2 H2 s2 o2 => ?_
    have e3 := Rl.mono _ _ _ _ s2.gg e2
    refine no (x := "never") (y := "dead") (je_ixT (je_var 0 rfl e3) je_int) je_str (by decide +kernel) o2 fun G3 H3 s3 o3 => ?_
    have e4 := Rl.mono _ _ _ _ s3.gg e3
    refine no (x := "never") (y := "unlike") (je_ixT (je_var 0 rfl e4) je_int) je_str (by decide +kernel) o3 fun G4 H4 s4 o4 => ?_
    have e5 := Rl.mono _ _ _ _ s4.gg e4
    exact wb_ret (R := rCd K .never) (je_ifE (P := isB true) (jt_flip (jt_eq (je_ixT (je_var 0 rfl e5) je_int) je_str) (by decide +kernel)) (fun _ => je_mkP T.mk0.2 (T.g "Never")) (fun h => by cases h)) o4 fun v G5 H5 s5 r => k v G5 H5 ((((s1.trans o s2).trans o s3).trans o s4).trans o s5) r
  | unborne =>
    have e1 : (Rl.tpl K [rS "unborne"]).p rv G := e1
    refine no (x := "unborne") (y := "number") (je_ixT (je_var 0 rfl e1) je_int) je_str (by decide +kernel) o fun G1 H1 s1 o1 => ?_
    have e2 := Rl.mono _ _ _ _ s1.gg e1
    refine no (x := "unborne") (y := "alive") (je_ixT (je_var 0 rfl e2) je_int) je_str (by decide +kernel) o1 fun G2 H2 s2 o2 => ?_
    have e3 := Rl.mono _ _ _ _ s2.gg e2
    refine no (x := "unborne") (y := "dead") (je_ixT (je_var 0 rfl e3) je_int) je_str (by decide +kernel) o2 fun G3 H3 s3 o3 => ?_
    have e4 := Rl.mono _ _ _ _ s3.gg e3
    refine no (x := "unborne") (y := "unlike") (je_ixT (je_var 0 rfl e4) je_int) je_str (by decide +kernel) o3 fun G4 H4 s4 o4 => ?_
    have e5 := Rl.mono _ _ _ _ s4.gg e4
    exact wb_ret (R := rCd K .unborne) (je_ifE (P := isB false) (jt_flip (jt_eq (je_ixT (je_var 0 rfl e5) je_int) je_str) (by decide +kernel)) (fun h => by cases h) (fun _ => je_mkP T.mk0.1 (T.g "Unborne"))) o4 fun v G5 H5 s5 r => k v G5 H5 ((((s1.trans o s2).trans o s3).trans o s4).trans o s5) r
end
end Nk
namespace Nk
open PySem PySem.Spec PyProof.Rows L2
section
variable {P : Program} {w : World} {K : PySem.W.Frag} {mg : Str → Option Value} {base : Heap}
/-- a test of a length -/
theorem wb_len {α : Type} {X : Cx} {rest th : List Stmt} {D : Ends} {σ : L2.St} {G H : Hp} {a b : Expr} {p p2 p3 p0 : Pos} {Dd : α → Rl} {ds : List α} {n : Nat} (ha : JE none X a σ G (Rl.ls Dd ds)) (hb : JE none X b σ G (rI n)) (o : Okm none G H) (hm : X.mg "len" = none)
    (k1 : ds.length = n → ∀ G' H', Stp none G H G' H' → Okm none G' H' → WB X th { D with nx := WB X rest D } σ H') (k2 : ds.length ≠ n → ∀ G' H', Stp none G H G' H' → Okm none G' H' → WB X rest D σ H')
    (hg : Gl X "len" := by rfl) (he : starEach [a] X.env = (false, eval a X.env) :: starEach [] X.env := by rfl) (hpl : (backTo p3 (starEach [] X.env)).any (·.1) = false := by rfl) (hmk : behindInMarks .Eq b = false := by first | exact nomark _ | rfl) : WB X (.If (.Compare (.Call (.Name "len" p0) [a] [] p3) [.Eq] [b] p) th [] p2 :: rest) D σ H := by
  by_cases e : ds.length = n
  · exact wb_if (P := isB true) (jt_flip (jt_cmpV op_eq (je_lenLs ha hm hg he hpl) hb (fun _ _ q => ⟨rfl, q⟩) hmk) (decide_eq_true (by rw [e]))) o (fun _ G' H' s' o' => k1 e G' H' s' o') fun h => by cases h
  · exact wb_if (P := isB false) (jt_flip (jt_cmpV op_eq (je_lenLs ha hm hg he hpl) hb (fun _ _ q => ⟨rfl, q⟩) hmk) (decide_eq_false fun z => e (by have z := V.int.inj z; omega))) o (fun h => by cases h) fun _ G' H' s' o' => wb_nil (k2 e G' H' s' o')
theorem k_Lfree (T : Tx K mg) : C8.Cal P w K mg base 5 "_law_free" (spF (fun l : List Str => l.all barB = true ∧ l.length ≤ 4) (fun l => [Rl.ls rS l]) (rFr K)) [] := by
  obtain ⟨fd, F⟩ := T.F_Lfree
  refine cal_pure F (T.g "_law_free") (F.bindsN fun _ _ _ _ _ _ us hl => match us, hl with | [_], _ => rfl) scLfree (fun _ => rfl) ?_
  intro cdv A outer s0 H0 E l G H vs Q hr hp o al k
  obtain ⟨bv, rfl, e1⟩ := AlL.one al
  have e1 : (Rl.ls rS l).p bv G := e1
  match l, hp, e1, k with
  | [], hp, e1, k =>
    refine wb_len (ds := ([] : List Str)) (n := 0) (je_var 0 rfl e1) je_int o (T.f "len") (fun _ G1 H1 s1 o1 => ?_) (fun h => absurd rfl h)
    have e2 := Rl.mono _ _ _ _ s1.gg e1
    exact wb_ret (je_mkR0 ([] : List Str) (mk_free T) hp rfl rfl rfl hr) o1 fun v G9 H9 s9 r => k v G9 H9 (s1.trans o s9) r
  | [a], hp, e1, k =>
    refine wb_len (ds := ([a] : List Str)) (n := 0) (je_var 0 rfl e1) je_int o (T.f "len") (fun h => by cases h) (fun _ G1 H1 s1 o1 => ?_)
    have e2 := Rl.mono _ _ _ _ s1.gg e1
    refine wb_len (ds := ([a] : List Str)) (n := 1) (je_var 0 rfl e2) je_int o1 (T.f "len") (fun _ G2 H2 s2 o2 => ?_) (fun h => absurd rfl h)
    have e3 := Rl.mono _ _ _ _ s2.gg e2
    exact wb_ret (je_mkR ([a] : List Str) (mk_free T) hp (ja_cons (je_ixL (l := [rS a]) (je_var 0 rfl e3) je_int) ja_nil) rfl (Nat.le_of_ble_eq_true rfl) hr) o2 fun v G9 H9 s9 r => k v G9 H9 ((s1.trans o s2).trans o s9) r
  | [a, b], hp, e1, k =>
    refine wb_len (ds := ([a, b] : List Str)) (n := 0) (je_var 0 rfl e1) je_int o (T.f "len") (fun h => by cases h) (fun _ G1 H1 s1 o1 => ?_)
    have e2 := Rl.mono _ _ _ _ s1.gg e1
    refine wb_len (ds := ([a, b] : List Str)) (n := 1) (je_var 0 rfl e2) je_int o1 (T.f "len") (fun h => by cases h) (fun _ G2 H2 s2 o2 => ?_)
    have e3 := Rl.mono _ _ _ _ s2.gg e2
    refine wb_len (ds := ([a, b] : List Str)) (n := 2) (je_var 0 rfl e3) je_int o2 (T.f "len") (fun _ G3 H3 s3 o3 => ?_) (fun h => absurd rfl h)
    have e4 := Rl.mono _ _ _ _ s3.gg e3
    exact wb_ret (je_mkR ([a, b] : List Str) (mk_free T) hp (ja_cons (je_ixL (l := [rS a, rS b]) (je_var 0 rfl e4) je_int) (ja_cons (je_ixL (l := [rS a, rS b]) (je_var 0 rfl e4) je_int) ja_nil)) rfl (Nat.le_of_ble_eq_true rfl) hr) o3 fun v G9 H9 s9 r => k v G9 H9 (((s1.trans o s2).trans o s3).trans o s9) r
  | [a, b, c], hp, e1, k =>
    refine wb_len (ds := ([a, b, c] : List Str)) (n := 0) (je_var 0 rfl e1) je_int o (T.f "len") (fun h => by cases h) (fun _ G1 H1 s1 o1 => ?_)
    have e2 := Rl.mono _ _ _ _ s1.gg e1
    refine wb_len (ds := ([a, b, c] : List Str)) (n := 1) (je_var 0 rfl e2) je_int o1 (T.f "len") (fun h => by cases h) (fun _ G2 H2 s2 o2 => ?_)
    have e3 := Rl.mono _ _ _ _ s2.gg e2
    refine wb_len (ds := ([a, b, c] : List Str)) (n := 2) (je_var 0 rfl e3) je_int o2 (T.f "len") (fun h => by cases h) (fun _ G3 H3 s3 o3 => ?_)
    have e4 := Rl.mono _ _ _ _ s3.gg e3
    refine wb_len (ds := ([a, b, c] : List Str)) (n := 3) (je_var 0 rfl e4) je_int o3 (T.f "len") (fun _ G4 H4 s4 o4 => ?_) (fun h => absurd rfl h)
    have e5 := Rl.mono _ _ _ _ s4.gg e4
    exact wb_ret (je_mkR ([a, b, c] : List Str) (mk_free T) hp (ja_cons (je_ixL (l := [rS a, rS b, rS c]) (je_var 0 rfl e5) je_int) (ja_cons (je_ixL (l := [rS a, rS b, rS c]) (je_var 0 rfl e5) je_int) (ja_cons (je_ixL (l := [rS a, rS b, rS c]) (je_var 0 rfl e5) je_int) ja_nil))) rfl (Nat.le_of_ble_eq_true rfl) hr) o4 fun v G9 H9 s9 r => k v G9 H9 ((((s1.trans o s2).trans o s3).trans o s4).trans o s9) r
  | [a, b, c, d], hp, e1, k =>
    refine wb_len (ds := ([a, b, c, d] : List Str)) (n := 0) (je_var 0 rfl e1) je_int o (T.f "len") (fun h => by cases h) (fun _ G1 H1 s1 o1 => ?_)
    have e2 := Rl.mono _ _ _ _ s1.gg e1
    refine wb_len (ds := ([a, b, c, d] : List Str)) (n := 1) (je_var 0 rfl e2) je_int o1 (T.f "len") (fun h => by cases h) (fun _ G2 H2 s2 o2 => ?_)
    have e3 := Rl.mono _ _ _ _ s2.gg e2
    refine wb_len (ds := ([a, b, c, d] : List Str)) (n := 2) (je_var 0 rfl e3) je_int o2 (T.f "len") (fun h => by cases h) (fun _ G3 H3 s3 o3 => ?_)
    have e4 := Rl.mono _ _ _ _ s3.gg e3
    refine wb_len (ds := ([a, b, c, d] : List Str)) (n := 3) (je_var 0 rfl e4) je_int o3 (T.f "len") (fun h => by cases h) (fun _ G4 H4 s4 o4 => ?_)
    have e5 := Rl.mono _ _ _ _ s4.gg e4
    exact wb_ret (je_mkR ([a, b, c, d] : List Str) (mk_free T) hp (ja_cons (je_ixL (l := [rS a, rS b, rS c, rS d]) (je_var 0 rfl e5) je_int) (ja_cons (je_ixL (l := [rS a, rS b, rS c, rS d]) (je_var 0 rfl e5) je_int) (ja_cons (je_ixL (l := [rS a, rS b, rS c, rS d]) (je_var 0 rfl e5) je_int) (ja_cons (je_ixL (l := [rS a, rS b, rS c, rS d]) (je_var 0 rfl e5) je_int) ja_nil)))) rfl (Nat.le_of_ble_eq_true rfl) hr) o4 fun v G9 H9 s9 r => k v G9 H9 ((((s1.trans o s2).trans o s3).trans o s4).trans o s9) r
  | _ :: _ :: _ :: _ :: _ :: _, hp, e1, k => exact absurd hp.2 (by simp)
theorem k_Ltake (T : Tx K mg) : C8.Cal P w K mg base 5 "_law_take" (spF (fun t : Tk => srcOk t.src = true ∧ t.cds.length ≤ 4) (fun t => [rS t.src, Rl.ls (rCd K) t.cds]) (rTk K)) [] := by
  obtain ⟨fd, F⟩ := T.F_Ltake
  refine cal_pure F (T.g "_law_take") (F.bindsN fun _ _ _ _ _ _ us hl => match us, hl with | [_, _], _ => rfl) scLtake (fun _ => rfl) ?_
  rintro cdv A outer s0 H0 E ⟨x, l⟩ G H vs Q hr hp o al k
  obtain ⟨_, bv, rfl, e0, e1⟩ := AlL.two al
  cases e0
  have e1 : (Rl.ls (rCd K) l).p bv G := e1
  match l, hp, e1, k with
  | [], hp, e1, k =>
    refine wb_len (ds := ([] : List Cd)) (n := 0) (je_var 1 rfl e1) je_int o (T.f "len") (fun _ G1 H1 s1 o1 => ?_) (fun h => absurd rfl h)
    have e2 := Rl.mono _ _ _ _ s1.gg e1
    exact wb_ret (je_mkR (⟨x, []⟩ : Tk) (mk_take T) hp (ja_cons (je_v 0) ja_nil) rfl (Nat.le_of_ble_eq_true rfl) hr) o1 fun v G9 H9 s9 r => k v G9 H9 (s1.trans o s9) r
  | [a], hp, e1, k =>
    refine wb_len (ds := ([a] : List Cd)) (n := 0) (je_var 1 rfl e1) je_int o (T.f "len") (fun h => by cases h) (fun _ G1 H1 s1 o1 => ?_)
    have e2 := Rl.mono _ _ _ _ s1.gg e1
    refine wb_len (ds := ([a] : List Cd)) (n := 1) (je_var 1 rfl e2) je_int o1 (T.f "len") (fun _ G2 H2 s2 o2 => ?_) (fun h => absurd rfl h)
    have e3 := Rl.mono _ _ _ _ s2.gg e2
    exact wb_ret (je_mkR (⟨x, [a]⟩ : Tk) (mk_take T) hp (ja_cons (je_v 0) (ja_cons (je_ixL (l := [rCd K a]) (je_var 1 rfl e3) je_int) ja_nil)) rfl (Nat.le_of_ble_eq_true rfl) hr) o2 fun v G9 H9 s9 r => k v G9 H9 ((s1.trans o s2).trans o s9) r
  | [a, b], hp, e1, k =>
    refine wb_len (ds := ([a, b] : List Cd)) (n := 0) (je_var 1 rfl e1) je_int o (T.f "len") (fun h => by cases h) (fun _ G1 H1 s1 o1 => ?_)
    have e2 := Rl.mono _ _ _ _ s1.gg e1
    refine wb_len (ds := ([a, b] : List Cd)) (n := 1) (je_var 1 rfl e2) je_int o1 (T.f "len") (fun h => by cases h) (fun _ G2 H2 s2 o2 => ?_)
    have e3 := Rl.mono _ _ _ _ s2.gg e2
    refine wb_len (ds := ([a, b] : List Cd)) (n := 2) (je_var 1 rfl e3) je_int o2 (T.f "len") (fun _ G3 H3 s3 o3 => ?_) (fun h => absurd rfl h)
    have e4 := Rl.mono _ _ _ _ s3.gg e3
    exact wb_ret (je_mkR (⟨x, [a, b]⟩ : Tk) (mk_take T) hp (ja_cons (je_v 0) (ja_cons (je_ixL (l := [rCd K a, rCd K b]) (je_var 1 rfl e4) je_int) (ja_cons (je_ixL (l := [rCd K a, rCd K b]) (je_var 1 rfl e4) je_int) ja_nil))) rfl (Nat.le_of_ble_eq_true rfl) hr) o3 fun v G9 H9 s9 r => k v G9 H9 (((s1.trans o s2).trans o s3).trans o s9) r
  | [a, b, c], hp, e1, k =>
    refine wb_len (ds := ([a, b, c] : List Cd)) (n := 0) (je_var 1 rfl e1) je_int o (T.f "len") (fun h => by cases h) (fun _ G1 H1 s1 o1 => ?_)
    have e2 := Rl.mono _ _ _ _ s1.gg e1
    refine wb_len (ds := ([a, b, c] : List Cd)) (n := 1) (je_var 1 rfl e2) je_int o1 (T.f "len") (fun h => by cases h) (fun _ G2 H2 s2 o2 => ?_)
    have e3 := Rl.mono _ _ _ _ s2.gg e2
    refine wb_len (ds := ([a, b, c] : List Cd)) (n := 2) (je_var 1 rfl e3) je_int o2 (T.f "len") (fun h => by cases h) (fun _ G3 H3 s3 o3 => ?_)
    have e4 := Rl.mono _ _ _ _ s3.gg e3
    refine wb_len (ds := ([a, b, c] : List Cd)) (n := 3) (je_var 1 rfl e4) je_int o3 (T.f "len") (fun _ G4 H4 s4 o4 => ?_) (fun h => absurd rfl h)
    have e5 := Rl.mono _ _ _ _ s4.gg e4
    exact wb_ret (je_mkR (⟨x, [a, b, c]⟩ : Tk) (mk_take T) hp (ja_cons (je_v 0) (ja_cons (je_ixL (l := [rCd K a, rCd K b, rCd K c]) (je_var 1 rfl e5) je_int) (ja_cons (je_ixL (l := [rCd K a, rCd K b, rCd K c]) (je_var 1 rfl e5) je_int) (ja_cons (je_ixL (l := [rCd K a, rCd K b, rCd K c]) (je_var 1 rfl e5) je_int) ja_nil)))) rfl (Nat.le_of_ble_eq_true rfl) hr) o4 fun v G9 H9 s9 r => k v G9 H9 ((((s1.trans o s2).trans o s3).trans o s4).trans o s9) r
  | [a, b, c, d], hp, e1, k =>
    refine wb_len (ds := ([a, b, c, d] : List Cd)) (n := 0) (je_var 1 rfl e1) je_int o (T.f "len") (fun h => by cases h) (fun _ G1 H1 s1 o1 => ?_)
    have e2 := Rl.mono _ _ _ _ s1.gg e1
    refine wb_len (ds := ([a, b, c, d] : List Cd)) (n := 1) (je_var 1 rfl e2) je_int o1 (T.f "len") (fun h => by cases h) (fun _ G2 H2 s2 o2 => ?_)
    have e3 := Rl.mono _ _ _ _ s2.gg e2
    refine wb_len (ds := ([a, b, c, d] : List Cd)) (n := 2) (je_var 1 rfl e3) je_int o2 (T.f "len") (fun h => by cases h) (fun _ G3 H3 s3 o3 => ?_)
    have e4 := Rl.mono _ _ _ _ s3.gg e3
    refine wb_len (ds := ([a, b, c, d] : List Cd)) (n := 3) (je_var 1 rfl e4) je_int o3 (T.f "len") (fun h => by cases h) (fun _ G4 H4 s4 o4 => ?_)
    have e5 := Rl.mono _ _ _ _ s4.gg e4
    exact wb_ret (je_mkR (⟨x, [a, b, c, d]⟩ : Tk) (mk_take T) hp (ja_cons (je_v 0) (ja_cons (je_ixL (l := [rCd K a, rCd K b, rCd K c, rCd K d]) (je_var 1 rfl e5) je_int) (ja_cons (je_ixL (l := [rCd K a, rCd K b, rCd K c, rCd K d]) (je_var 1 rfl e5) je_int) (ja_cons (je_ixL (l := [rCd K a, rCd K b, rCd K c, rCd K d]) (je_var 1 rfl e5) je_int) (ja_cons (je_ixL (l := [rCd K a, rCd K b, rCd K c, rCd K d]) (je_var 1 rfl e5) je_int) ja_nil))))) rfl (Nat.le_of_ble_eq_true rfl) hr) o4 fun v G9 H9 s9 r => k v G9 H9 ((((s1.trans o s2).trans o s3).trans o s4).trans o s9) r
  | _ :: _ :: _ :: _ :: _ :: _, hp, e1, k => exact absurd hp.2 (by simp)
def clB : Cl → Bool
  | .tk t => srcOk t.src && (decide (t.cds.length ≤ 4) && t.cds.all cdB)
  | .fr l => l.all barB && decide (l.length ≤ 4)
theorem clB_of {n : Nat} (hn : n ≤ 2) {c : Cl} (h : c.Ok n) : clB c = true := by
  cases c with
  | tk t =>
    have h : t.src ∈ srcsL n ∧ t.cds.length ≤ 4 ∧ ∀ c ∈ t.cds, c.Ok n := h
    show (srcOk t.src && (decide (t.cds.length ≤ 4) && t.cds.all cdB)) = true
    rw [List.all_eq_true.mp (srcs_ok n hn) t.src h.1, decide_eq_true h.2.1, List.all_eq_true.mpr fun c hc => cdB_of hn (h.2.2 c hc)] <;> rfl
  | fr l =>
    have h : l.length ≤ 4 ∧ ∀ x ∈ l, barOk n x := h
    show (l.all barB && decide (l.length ≤ 4)) = true
    rw [decide_eq_true h.1, List.all_eq_true.mpr fun x hx => barB_of hn (h.2 x hx)] <;> rfl
theorem k_Lmake_clause (T : Tx K mg) : C8.Cal P w K mg base 6 "_law_make_clause" (spF (fun c : Cl => clB c = true) (fun c => [rcl K c]) (rCl K)) [] := by
  obtain ⟨fd, F⟩ := T.F_Lmake_clause
  refine cal_pure F (T.g "_law_make_clause") (F.bindsN fun _ _ _ _ _ _ us hl => match us, hl with | [_], _ => rfl) scLmake_clause (fun _ => rfl) ?_
  intro cdv A outer s0 H0 E c G H vs Q hr hc o al k
  obtain ⟨rv, rfl, e1⟩ := AlL.one al
  cases c with
  | fr l =>
    have hc : (l.all barB && decide (l.length ≤ 4)) = true := hc
    rw [Bool.and_eq_true] at hc
    have e1 : (Rl.tpl K [rS "free", Rl.ls rS l]).p rv G := e1
    refine wb_if (P := isB true) (jt_flip (jt_eq (je_ixT (je_var 0 rfl e1) je_int) je_str) (by decide +kernel)) o (fun h G1 H1 s1 o1 => ?_) (fun h => by cases h)
    exact wb_ret (je_call l (k_Lfree T) ⟨hc.1, decide_eq_true_iff.mp hc.2⟩ (ja_cons (je_ixT (je_var 0 rfl (Rl.mono _ _ _ _ s1.gg e1)) je_int) ja_nil) hr) o1 fun v G2 H2 s2 r => k v G2 H2 (s1.trans o s2) r
  | tk t =>
    have hc : (srcOk t.src && (decide (t.cds.length ≤ 4) && t.cds.all cdB)) = true := hc
    rw [Bool.and_eq_true, Bool.and_eq_true] at hc
    have hl := decide_eq_true_iff.mp hc.2.1
    have e1 : (Rl.tpl K [rS "take", rS t.src, Rl.ls (rcd K) t.cds]).p rv G := e1
    refine wb_if (P := isB false) (jt_flip (jt_eq (je_ixT (je_var 0 rfl e1) je_int) je_str) (by decide +kernel)) o (fun h => by cases h) (fun h G1 H1 s1 o1 => ?_)
    have e2 := Rl.mono _ _ _ _ s1.gg e1
    refine wb_nil (wb_ret (je_call t (k_Ltake T) ⟨hc.1, hl⟩ (ja_cons (je_ixT (je_var 0 rfl e2) je_int) (ja_cons (je_lcA (ds := t.cds) (D := rcd K) (E := rCd K) [("_law_condition_here", 1)] rfl scLmake_clause.nd (blkOk_by rfl) (fun s H C cl fp => pg_name (i := 1) scLmake_clause.nd rfl (.inl rfl))
      (ji_list (je_ixT (je_var 0 rfl e2) je_int)) (by omega) (lc_name fun x => rfl) ?_) ja_nil)) hr) o1 fun v G2 H2 s2 r => k v G2 H2 (s1.trans o s2) r)
    rintro d hd σ2 G9 g9 ⟨y, rfl, ry⟩ _ _ C cl fp
    exact je_call d (k_Lmake_condition T) (List.all_eq_true.mp hc.2.2 d hd) (ja_cons (je_var 1 rfl ry) ja_nil) hr
theorem k_Lmake (T : Tx K mg) : C8.Cal P w K mg base 7 "_law_make" (spF Cu.Ok (fun c => [rcu K c]) (rCu K)) [] := by
  obtain ⟨fd, F⟩ := T.F_Lmake
  refine cal_pure F (T.g "_law_make") (F.bindsN fun _ _ _ _ _ _ us hl => match us, hl with | [_], _ => rfl) scLmake (fun _ => rfl) ?_
  intro cdv A outer s0 H0 E c G H vs Q hr hc o al k
  obtain ⟨rv, rfl, e1⟩ := AlL.one al
  have hl1 := Kl.len c.s
  have hl2 := Kl.len c.d
  have h41 := hc.s.1
  have h42 := hc.d.1
  refine wb_setLcA (ds := c.s.cls) (DD := rcl K) (E := rCl K) 1 [("_law_row", 3)] rfl scLmake.nd (blkOk_by rfl) (fun s H C cl fp => pg_name (i := 3) scLmake.nd rfl (.inl rfl))
    (ji_list (je_ixT (je_var 0 rfl e1) je_int)) (by omega) (lc_name fun x => rfl) ?_ o fun v1 G1 H1 s1 o1 r1 => ?_
  · rintro d hd σ2 G9 g9 ⟨y, rfl, ry⟩ _ _ C cl fp
    exact je_call d (k_Lmake_clause T) (clB_of hc.w (hc.s.cl d hd)) (ja_cons (je_var 3 rfl ry) ja_nil) hr
  have e2 := Rl.mono _ _ _ _ s1.gg e1
  refine wb_setLcA (ds := c.d.cls) (DD := rcl K) (E := rCl K) 2 [("_law_row", 3)] rfl scLmake.nd (blkOk_by rfl) (fun s H C cl fp => pg_name (i := 3) scLmake.nd rfl (.inl rfl))
    (ji_list (je_ixT (je_var 0 rfl e2) je_int)) (by omega) (lc_name fun x => rfl) ?_ o1 fun v2 G2 H2 s2 o2 r2 => ?_
  · rintro d hd σ2 G9 g9 ⟨y, rfl, ry⟩ _ _ C cl fp
    exact je_call d (k_Lmake_clause T) (clB_of hc.w (hc.d.cl d hd)) (ja_cons (je_var 3 rfl ry) ja_nil) hr
  have e3 := Rl.mono _ _ _ _ s2.gg e2
  exact wb_ret (je_mkK c (mk_custom T) hc (ja_cons (je_var 1 rfl (Rl.mono _ _ _ _ s2.gg r1)) (ja_cons (je_var 2 rfl r2) ja_nil)) (jk_cons (je_ixT (je_var 0 rfl e3) je_int) (jk_cons (je_ixT (je_var 0 rfl e3) je_int) (jk_cons (je_ixT (je_var 0 rfl e3) je_int) jk_nil))) rfl rfl rfl hr) o2 fun v G4 H4 s4 r => k v G4 H4 ((s1.trans o s2).trans o s4) r
end
end Nk
namespace Nk
open PySem PySem.Spec PyProof.Rows L2
section
variable {m : Option Hd} {X : Cx} {a : Expr} {σ : L2.St} {G H G0 H0 : Hp} {R : Rl} {pos : Pos} {rest : List Stmt} {D : Ends}
/-- a, b = (e, []), the list kept back -/
theorem wb_parNew {k1 k2 : Nat} {tp tp2 lp : Pos} (i j : Nat) {y1 y2 : Str} {py1 py2 : Pos} (hc : X.calm = true) (hN : X.N.Nodup) (hij : i ≠ j) (h : JE m X a σ G R) (o0 : Okm m G0 H0) (st : Stp m G0 H0 G H) (k : ∀ v p G' H', Stp m G0 H0 G' H' → Same G G' → R.p v G' → Own p [] [] H0 G' H' → WB X rest D ((σ.set i (some v)).set j (some (.ref p))) H')
    (hi : X.N[i]? = some y1 := by rfl) (hj : X.N[j]? = some y2 := by rfl) (hx : X.env.scope.names.lookup y1 = some .local := by rfl) (hx2 : X.env.scope.names.lookup y2 = some .local := by rfl)
    (hs1 : starEach [a, .List [] lp] X.env = (false, eval a X.env) :: starEach [.List [] lp] X.env := by rfl) (hs2 : starEach [.List [] lp] X.env = (false, eval (.List [] lp) X.env) :: starEach [] X.env := by rfl)
    (hw : swappedStores [.Tuple [.Name y1 py1, .Name y2 py2] k1 tp] (.Tuple [a, .List [] lp] k2 tp2) X.env = pure (some [y1, y2]) := by rfl)
    (hs : swapsWithSole [.Tuple [.Name y1 py1, .Name y2 py2] k1 tp] (.Tuple [a, .List [] lp] k2 tp2) pos.line X.env = pure false := by rfl) : WB X (.Assign [.Tuple [.Name y1 py1, .Name y2 py2] k1 tp] (.Tuple [a, .List [] lp] k2 tp2) pos :: rest) D σ H :=
  wb_step (ps_par hc hN hi hj hij hx hx2 (pa_cons pE (pa_cons (pe_lst pa_nil) pa_nil hs2) hs1) hw hs) (h G H (Same.refl G) (st.okm o0) _ fun v G2 H2 s2 r2 => ⟨by decide, fun p hp => by
    have s02 := st.trans o0 s2
    have hp0 : H0 p = none := by
      cases z : H0 p with
      | none => rfl
      | some u => exact absurd hp (s02.alive o0 (by rw [z]; exact fun z => nomatch z))
    have g2 : G2 p = none := (s02.okm o0).gnone hp
    exact ⟨v, .ref p, rfl, k v p G2 _ (Stp.mut o0 s02 hp0 g2) s2.gg r2 ⟨hp0, g2, upd_same, .nil⟩⟩⟩)
end
section
variable {P : Program} {w : World} {K : PySem.W.Frag} {mg : Str → Option Value} {base : Heap}
theorem k_Lread (T : Tx K mg) : C8.Cal P w K mg base 1 "_law_read" (spF clSmall (fun c : Cl => [rcl K c]) fun c => Rl.tpl K [Rl.ls rS (clSrcs c), Rl.ls rS (clLives c)]) [] := by
  obtain ⟨fd, F⟩ := T.F_Lread
  refine cal_pure F (T.g "_law_read") (F.bindsN fun _ _ _ _ _ _ us hl => match us, hl with | [_], _ => rfl) scLread (fun _ => rfl) ?_
  intro cdv A outer s0 H0 E c G H vs Q hr hc o al k
  obtain ⟨rv, rfl, e1⟩ := AlL.one al
  have nn : ∀ {p : Addr}, ∀ h : Hd, none = some h → p ≠ h.a := fun _ e => by cases e
  cases c with
  | fr l =>
    have hc : l.length ≤ 4 := hc
    have e1 : (Rl.tpl K [rS "free", Rl.ls rS l]).p rv G := e1
    refine wb_if (P := isB true) (jt_flip (jt_eq (je_ixT (je_var 0 rfl e1) je_int) je_str) (by decide +kernel)) o (fun h G1 H1 s1 o1 => ?_) (fun h => by cases h)
    refine wb_ret (je_tup (l := [Rl.ls rS (l.filter notMark), Rl.ls rS ([] : List Str)]) (ja_cons (je_lc (ds := l) (D := rS) (E := rS) (f := notMark) [("_law_bar", 4)] rfl scLread.nd (blkOk_by rfl) (fun s H C cl fp => pg_name (i := 4) scLread.nd rfl (.inl rfl))
      (ji_list (je_ixT (je_var 0 rfl (Rl.mono _ _ _ _ s1.gg e1)) je_int)) (by omega) (lc_name fun x => rfl) ?_ ?_) (ja_cons (je_lst ja_nil) ja_nil))) o1 fun v G2 H2 s2 r => k v G2 H2 (s1.trans o s2) r
    · rintro d hd σ2 G1 g1 ⟨x, rfl, rx⟩ s H C cl fp
      cases rx
      exact jts_one (jt_niT (l := ["living", "ever"]) (je_v 4) (je_tup (ja_cons je_str (ja_cons je_str ja_nil))))
    · rintro d hd hf σ2 G1 g1 ⟨x, rfl, rx⟩ s H C cl fp
      exact je_var 4 rfl rx
  | tk t =>
    have hc : t.cds.length ≤ 4 := hc
    have e1 : (Rl.tpl K [rS "take", rS t.src, Rl.ls (rcd K) t.cds]).p rv G := e1
    refine wb_if (P := isB false) (jt_flip (jt_eq (je_ixT (je_var 0 rfl e1) je_int) je_str) (by decide +kernel)) o (fun h => by cases h) (fun h G1 H1 s1 o1 => ?_)
    have e2 := Rl.mono _ _ _ _ s1.gg e1
    refine wb_nil (wb_parNew (m := none) (G0 := G) (H0 := H) 1 2 rfl scLread.nd (by decide) (je_lst (l := [rS t.src]) (ja_cons (je_ixT (je_var 0 rfl e2) je_int) ja_nil)) o s1 fun v p G2 H2 st2 g2 r2 w2 => ?_)
    have r2 : (Rl.ls rS [t.src]).p v G2 := r2
    refine wb_for (fun j σ' G' H' => Stp none G H G' H' ∧ ∃ v xs b, σ' = [some rv, some v, some (.ref p), b, none] ∧ (Rl.ls rS (t.src :: (t.cds.take j).flatMap cdSrcs)).p v G' ∧ Own p xs (((t.cds.take j).flatMap cdLives).map rS) H G' H') PassesOwn.never rfl (pg_name (i := 3) scLread.nd rfl (.inl rfl))
      (ji_list (je_ixT (je_var 0 rfl (Rl.mono _ _ _ _ g2 e2)) je_int)) (st2.okm o) (fun G3 H3 s3 o3 => ⟨st2.trans o s3, v, _, _, rfl, Rl.mono _ _ _ _ s3.gg r2, w2.step (m := none) nn s3⟩) ?_ ?_
    · rintro Gc gc j R σ' G' H' x hR gg o' ⟨st, v, xs, b, rfl, rv2, wl⟩ G5 H5 s5 o5 rx
      rw [List.getElem?_map] at hR
      cases hcd : t.cds[j]? with
      | none =>
        rw [hcd] at hR
        cases hR
      | some cd =>
        rw [hcd] at hR
        cases hR
        have h3 : (t.cds.take j).length ≤ 4 := Nat.le_trans (List.length_take_le' _ _) hc
        have h4 := flat_len cdSrcs_len (t.cds.take j)
        have h5 := flat_len cdLives_len (t.cds.take j)
        have rv5 := Rl.mono _ _ _ _ s5.gg rv2
        have wl5 := wl.step (m := none) nn s5
        have st5 := st.trans o s5
        -- nothing is read
        have none_ : ∀ (G6 H6 : Hp), Stp none G H G6 H6 → Same Gc G6 → (Rl.ls rS (t.src :: (t.cds.take j).flatMap cdSrcs)).p v G6 → Own p xs (((t.cds.take j).flatMap cdLives).map rS) H G6 H6 → cdSrcs cd = [] → cdLives cd = [] →
            Nx none Gc (fun σ' G' H' => Stp none G H G' H' ∧ ∃ v xs b, σ' = [some rv, some v, some (.ref p), b, none] ∧ (Rl.ls rS (t.src :: (t.cds.take (j + 1)).flatMap cdSrcs)).p v G' ∧ Own p xs (((t.cds.take (j + 1)).flatMap cdLives).map rS) H G' H') [some rv, some v, some (.ref p), some x, none] H6 := fun G6 H6 st6 g6 r6 w6 z1 z2 =>
          ⟨G6, g6, st6.okm o, st6, v, xs, _, rfl, by rw [take_flat hcd, z1, List.append_nil]; exact r6, by rw [take_flat hcd, z2, List.append_nil]; exact w6⟩
        have lifeA : ∀ (kd y : Str), (Rl.tpl K [rS kd, rS y]).p x G5 → (kd = "alive" ∨ kd = "dead") → cdSrcs cd = [] → cdLives cd = [y] →
            WB (Xc P w K mg base nLread "_law_read" sLread (He.ga K "_law_read") cdv A outer s0 H0 E) ((match (defBody sLread).getD 2 (.Pass ⟨0, 0, 0, 0⟩) with | .For _ _ bd _ _ => bd | _ => []))
              { nx := Nx none Gc (fun σ' G' H' => Stp none G H G' H' ∧ ∃ v xs b, σ' = [some rv, some v, some (.ref p), b, none] ∧ (Rl.ls rS (t.src :: (t.cds.take (j + 1)).flatMap cdSrcs)).p v G' ∧ Own p xs (((t.cds.take (j + 1)).flatMap cdLives).map rS) H G' H'), ct := Nx none Gc (fun σ' G' H' => Stp none G H G' H' ∧ ∃ v xs b, σ' = [some rv, some v, some (.ref p), b, none] ∧ (Rl.ls rS (t.src :: (t.cds.take (j + 1)).flatMap cdSrcs)).p v G' ∧ Own p xs (((t.cds.take (j + 1)).flatMap cdLives).map rS) H G' H'),
                bk := WB (Xc P w K mg base nLread "_law_read" sLread (He.ga K "_law_read") cdv A outer s0 H0 E) ((defBody sLread).drop 3) { nx := fun _ H' => Q .non H', rt := Q }, rt := Q } [some rv, some v, some (.ref p), some x, none] H5 := by
          intro kd y ry hk z1 z2
          have n1 : ¬ V.str kd = V.str "unlike" := by rcases hk with rfl | rfl <;> decide +kernel
          have n2 : (["alive", "dead"] : List Str).contains kd = true := by rcases hk with rfl | rfl <;> decide +kernel
          refine wb_if (P := isB false) (jt_flip (jt_eq (je_ixT (je_var 3 rfl ry) je_int) je_str) (decide_eq_false n1)) o5 (fun h => by cases h) (fun h G6 H6 s6 o6 => ?_)
          have ry6 := Rl.mono _ _ _ _ s6.gg ry
          refine wb_if (P := isB true) (jt_flip (jt_inT (l := ["alive", "dead"]) (je_ixT (je_var 3 rfl ry6) je_int) (je_tup (ja_cons je_str (ja_cons je_str ja_nil)))) n2) o6 (fun h G7 H7 s7 o7 => ?_) (fun h => by cases h)
          have st7 := (st5.trans o s6).trans o s7
          refine wb_put (m := none) (G0 := G) 2 rfl o st7 ((wl5.step (m := none) nn s6).step (m := none) nn s7) (R := rS y) (je_ixT (je_var 3 rfl (Rl.mono _ _ _ _ s7.gg ry6)) je_int) (by rw [List.length_map]; omega) fun v8 G8 H8 st8 g8 w8 _ _ => wb_nil (wb_nil (wb_nil ?_))
          refine ⟨G8, (((gg.trans s5.gg).trans s6.gg).trans s7.gg).trans g8, st8.okm o, st8, v, xs ++ [v8], _, rfl, by rw [take_flat hcd, z1, List.append_nil]; exact Rl.mono _ _ _ _ ((s6.gg.trans s7.gg).trans g8) rv5, ?_⟩
          rw [take_flat hcd, z2, List.map_append]
          exact w8
        have none4 : ∀ (kd : Str) (R1 : Rl) (more : List Rl), (Rl.tpl K (rS kd :: more)).p x G5 → (kd = "number" ∨ kd = "never" ∨ kd = "unborne") → cdSrcs cd = [] → cdLives cd = [] →
            WB (Xc P w K mg base nLread "_law_read" sLread (He.ga K "_law_read") cdv A outer s0 H0 E) ((match (defBody sLread).getD 2 (.Pass ⟨0, 0, 0, 0⟩) with | .For _ _ bd _ _ => bd | _ => []))
              { nx := Nx none Gc (fun σ' G' H' => Stp none G H G' H' ∧ ∃ v xs b, σ' = [some rv, some v, some (.ref p), b, none] ∧ (Rl.ls rS (t.src :: (t.cds.take (j + 1)).flatMap cdSrcs)).p v G' ∧ Own p xs (((t.cds.take (j + 1)).flatMap cdLives).map rS) H G' H'), ct := Nx none Gc (fun σ' G' H' => Stp none G H G' H' ∧ ∃ v xs b, σ' = [some rv, some v, some (.ref p), b, none] ∧ (Rl.ls rS (t.src :: (t.cds.take (j + 1)).flatMap cdSrcs)).p v G' ∧ Own p xs (((t.cds.take (j + 1)).flatMap cdLives).map rS) H G' H'),
                bk := WB (Xc P w K mg base nLread "_law_read" sLread (He.ga K "_law_read") cdv A outer s0 H0 E) ((defBody sLread).drop 3) { nx := fun _ H' => Q .non H', rt := Q }, rt := Q } [some rv, some v, some (.ref p), some x, none] H5 := by
          intro kd _ more ry hk z1 z2
          have n1 : ¬ V.str kd = V.str "unlike" := by rcases hk with rfl | rfl | rfl <;> decide +kernel
          have n2 : (["alive", "dead"] : List Str).contains kd = false := by rcases hk with rfl | rfl | rfl <;> decide +kernel
          have at0 : atI (rS kd :: more) ((0 : Nat) : Int) = some (rS kd) := atI_nat rfl
          refine wb_if (P := isB false) (jt_flip (jt_eq (je_ixT (je_var 3 rfl ry) je_int at0) je_str) (decide_eq_false n1)) o5 (fun h => by cases h) (fun h G6 H6 s6 o6 => ?_)
          have ry6 := Rl.mono _ _ _ _ s6.gg ry
          refine wb_if (P := isB false) (jt_flip (jt_inT (l := ["alive", "dead"]) (je_ixT (je_var 3 rfl ry6) je_int at0) (je_tup (ja_cons je_str (ja_cons je_str ja_nil)))) n2) o6 (fun h => by cases h) (fun h G7 H7 s7 o7 => ?_)
          exact wb_nil (wb_nil (wb_nil (none_ G7 H7 ((st5.trans o s6).trans o s7) (((gg.trans s5.gg).trans s6.gg).trans s7.gg) (Rl.mono _ _ _ _ (s6.gg.trans s7.gg) rv5) ((wl5.step (m := none) nn s6).step (m := none) nn s7) z1 z2)))
        cases cd with
        | number n => exact none4 "number" Rl.any _ rx (.inl rfl) rfl rfl
        | never => exact none4 "never" Rl.any _ rx (.inr (.inl rfl)) rfl rfl
        | unborne => exact none4 "unborne" Rl.any _ rx (.inr (.inr rfl)) rfl rfl
        | alive y => exact lifeA "alive" y rx (.inl rfl) rfl rfl
        | dead y => exact lifeA "dead" y rx (.inr rfl) rfl rfl
        | unlike y z =>
          have ry : (Rl.tpl K [rS "unlike", rS y, rS z]).p x G5 := rx
          refine wb_if (P := isB true) (jt_flip (jt_eq (je_ixT (je_var 3 rfl ry) je_int) je_str) (by decide +kernel)) o5 (fun h G6 H6 s6 o6 => ?_) (fun h => by cases h)
          have ry6 := Rl.mono _ _ _ _ s6.gg ry
          refine wb_set 1 scLread.nd (je_catLs (l2 := [y, z]) (je_var 1 rfl (Rl.mono _ _ _ _ s6.gg rv5)) (je_lst (l := [rS y, rS z]) (ja_cons (je_ixT (je_var 3 rfl ry6) je_int) (ja_cons (je_ixT (je_var 3 rfl ry6) je_int) ja_nil))) (by rw [List.length_cons]; show _ + 2 ≤ _; omega)) o6 fun v7 G7 H7 s7 o7 r7 => wb_nil (wb_nil ?_)
          refine ⟨G7, ((gg.trans s5.gg).trans s6.gg).trans s7.gg, o7, (st5.trans o s6).trans o s7, v7, xs, _, rfl, ?_, ?_⟩
          · rw [take_flat hcd, ← List.cons_append]
            exact r7
          · rw [take_flat hcd]
            show Own p xs ((_ ++ []).map rS) H G7 H7
            rw [List.append_nil]
            exact (wl5.step (m := none) nn s6).step (m := none) nn s7
    · rintro σ' G' H' gg o' ⟨st, v, xs, b, rfl, rv2, wl⟩
      rw [List.length_map, List.take_length] at rv2 wl
      obtain ⟨t1, t2, t3⟩ := wl.tell (m := none) (G0 := G) o st
      exact wb_ret (je_tup (l := [Rl.ls rS (clSrcs (.tk t)), Rl.ls rS (clLives (.tk t))]) (ja_cons (je_var 1 rfl (Rl.mono _ _ _ _ t2 rv2)) (ja_cons (je_var 2 rfl t3) ja_nil))) (t1.okm o) fun v G7 H7 s7 r => k v G7 H7 (t1.trans o s7) r
end
end Nk
namespace Nk
open PySem PySem.Spec PyProof.Rows L2
def nth1 (s : Str) : Str := ⟨#[s.cps.toList.getD 1 0]⟩
def plLaw (p : Str) : Bool := decide (p = "") || (decide (0 < p.length) && decide (p.length ≤ 600) && (match hpl p with
  | none => !decide (hd1 p = ".")
  | some i => decide (hd1 p = ".") && decide (1 < p.length) && decide (PySem.intText? (nth1 p) = some (i : Int)) && decide ((nth1 p).length ≤ 600)))
theorem pl_law : places.all plLaw = true := by decide +kernel
theorem nth1_at {s : Str} (h : 1 < s.length) : ∃ ch, atI s.cps.toList 1 = some ch ∧ nth1 s = ⟨#[ch]⟩ := by
  have hs : 1 < s.cps.toList.length := by
    rw [Array.length_toList]
    exact h
  have e : s.cps.toList[1]? = some s.cps.toList[1] := List.getElem?_eq_getElem hs
  refine ⟨_, atI_nat (i := 1) e, ?_⟩
  unfold nth1
  rw [List.getD_eq_getElem?_getD, e] <;> rfl
section
variable {P : Program} {w : World} {K : PySem.W.Frag} {mg : Str → Option Value} {base : Heap}
theorem k_Lneeds (T : Tx K mg) : C8.Cal P w K mg base 2 "_law_needs" (spF (fun d : List Cu × Str × Str => csOk d.1 ∧ kindOk d.2.1 ∧ d.2.2 ∈ places) (fun d => [Rl.ls (rcu K) d.1, rS d.2.1, rS d.2.2]) fun d => Rl.ls (rPr K) (needs d.1 d.2)) [] := by
  obtain ⟨fd, F⟩ := T.F_Lneeds
  refine cal_pure F (T.g "_law_needs") (F.bindsN fun _ _ _ _ _ _ us hl => match us, hl with | [_, _, _], _ => rfl) scLneeds (fun _ => rfl) ?_
  rintro cdv A outer s0 H0 E ⟨cs, kd, pl⟩ G H vs Q hr ⟨hcs, hk, hp⟩ o al k
  have hcs : csOk cs := hcs
  have hk : kindOk kd := hk
  have hp : pl ∈ places := hp
  have k : ∀ v G' H', Stp none G H G' H' → (Rl.ls (rPr K) (needs cs (kd, pl))).p v G' → Q v H' := k
  have nn : ∀ {p : Addr}, ∀ h : Hd, none = some h → p ≠ h.a := fun _ e => by cases e
  cases al with
  | cons e1 al =>
  rename_i cv _
  obtain ⟨_, _, rfl, e2, e3⟩ := AlL.two al
  cases e2; cases e3
  have e1 : (Rl.ls (rcu K) cs).p cv G := e1
  have hf := List.all_eq_true.mp pl_law pl hp
  unfold plLaw at hf
  by_cases h0 : pl = ""
  · have en : needs cs (kd, pl) = [] := by
      subst h0
      rfl
    rw [en] at k
    exact wb_if (P := isB true) (jt_flip (jt_eq (je_v 2) je_str) (decide_eq_true (by rw [h0]))) o (fun _ G1 H1 s1 o1 => wb_ret (je_lst ja_nil) o1 fun v G2 H2 s2 r => k v G2 H2 (s1.trans o s2) r) (fun h => by cases h)
  rw [decide_eq_false h0, Bool.false_or, Bool.and_eq_true, Bool.and_eq_true] at hf
  obtain ⟨⟨f1, f2⟩, f3⟩ := hf
  have f1 := decide_eq_true_iff.mp f1
  have f2 := decide_eq_true_iff.mp f2
  have hl1000 : pl.length ≤ 1000 := Nat.le_trans f2 (by decide)
  obtain ⟨ch, c1, c2⟩ := hd1_at f1
  refine wb_if (P := isB false) (jt_flip (jt_eq (je_v 2) je_str) (decide_eq_false fun z => h0 (V.str.inj z))) o (fun h => by cases h) (fun h G1 H1 s1 o1 => wb_nil ?_)
  have e2 := Rl.mono _ _ _ _ s1.gg e1
  have jh : ∀ {G : Hp} {pp q1 : Pos} {j : Nat}, JE none (Xc P w K mg base nLneeds "_law_needs" sLneeds (He.ga K "_law_needs") cdv A outer s0 H0 E) (.Subscript (.Name "_law_place" pp) (.Constant (.int 0) j q1) q1) (start nLneeds [cv, V.str kd, V.str pl]) G (rS (hd1 pl)) := fun {G pp q1 j} => by
    rw [c2]
    exact je_ixS (je_v 2) je_int hl1000 c1
  cases q : hpl pl with
  | none =>
    rw [q] at f3
    have f3 : ¬ hd1 pl = "." := decide_eq_false_iff_not.mp (bT f3.symm)
    have en : needs cs (kd, pl) = [plc pl] := by
      unfold needs
      rw [show hpl (kd, pl).2 = none from q]
      exact if_neg h0
    rw [en] at k
    refine wb_if (P := isB true) (jt_flip (jt_ne (x := V.str (hd1 pl)) (by rw [c2]; exact je_ixS (je_v 2) je_int hl1000 c1) je_str) (by rw [decide_eq_false fun z => f3 (V.str.inj z)] <;> rfl)) o1 (fun _ G2 H2 s2 o2 => ?_) (fun h => by cases h)
    exact wb_ret (je_lst (l := [rPr K (plc pl)]) (ja_cons (je_tup (l := [rS (pkd (hd1 pl)), rS (tl1 pl)]) (ja_cons (je_call (hd1 pl) (k_Lkind T) trivial (ja_cons (R := rS (hd1 pl)) (by rw [c2]; exact je_ixS (je_v 2) je_int hl1000 c1) ja_nil) hr) (ja_cons (je_slS (je_v 2) je_int hl1000) ja_nil))) ja_nil)) o2 fun v G3 H3 s3 r => k v G3 H3 ((s1.trans o s2).trans o s3) r
  | some i =>
    rw [q] at f3
    simp only [Bool.and_eq_true, decide_eq_true_eq] at f3
    obtain ⟨⟨⟨f3, f4⟩, f5⟩, f6⟩ := f3
    obtain ⟨ch1, d1, d2⟩ := nth1_at f4
    have en : needs cs (kd, pl) = cs.flatMap fun c => hneed c kd i := by
      unfold needs
      rw [show hpl (kd, pl).2 = some i from q]
    refine wb_if (P := isB false) (jt_flip (jt_ne (x := V.str (hd1 pl)) (by rw [c2]; exact je_ixS (je_v 2) je_int hl1000 c1) je_str) (by rw [f3]; decide +kernel)) o1 (fun h => by cases h) (fun _ G2 H2 s2 o2 => wb_nil ?_)
    have e3 := Rl.mono _ _ _ _ s2.gg e2
    refine wb_new (m := none) (G0 := G) (H0 := H) 3 scLneeds.nd (l := []) ja_nil o (s1.trans o s2) (Nat.zero_le _) fun pf xf G3 H3 st3 g3 wf3 _ => ?_
    refine wb_for (fun n σ' G' H' => Stp none G H G' H' ∧ ∃ xf a b c d, σ' = [some cv, some (.str kd), some (.str pl), some (.ref pf), a, b, c, d] ∧ Own pf xf (((cs.take n).flatMap fun c => hneed c kd i).map (rPr K)) H G' H') PassesOwn.never rfl (pg_name (i := 4) scLneeds.nd rfl (.inl rfl))
      (ji_list (je_var 0 rfl (Rl.mono _ _ _ _ g3 e3))) (st3.okm o) (fun G4 H4 s4 o4 => ⟨st3.trans o s4, xf, _, _, _, _, rfl, wf3.step (m := none) nn s4⟩) ?_ ?_
    · rintro Gc gc n R σ' G' H' x hR gg o' ⟨st, xf, a, b, c0, d0, rfl, wf⟩ G5 H5 s5 o5 rx
      rw [List.getElem?_map] at hR
      cases hc : cs[n]? with
      | none =>
        rw [hc] at hR
        cases hR
      | some c =>
        rw [hc] at hR
        cases hR
        have hm := hcs.2 c (List.mem_of_getElem? hc)
        have rx : (rcu K c).p x G5 := rx
        have st5 := st.trans o s5
        have wf5 := wf.step (m := none) nn s5
        have hw2 := hm.w
        have hb1 : ((cs.take n).flatMap fun c => hneed c kd i).length ≤ 20 := by
          have h1 := flat_len (fun c => hneed_len c kd i) (cs.take n)
          have h3 : (cs.take n).length ≤ 10 := Nat.le_trans (List.length_take_le' _ _) hcs.1
          omega
        have hwl : (c.wed kd).length = c.house.length := by
          unfold Cu.wed
          split
          · exact hm.sl
          · exact hm.dl
        have hwo : ∀ r ∈ c.wed kd, r.Ok c.house.length := by
          unfold Cu.wed
          split
          · exact hm.sw
          · exact hm.dw
        have jn : ∀ {σ : L2.St} {G : Hp} {pp q1 q2 q3 q4 : Pos} {j : Nat}, σ[2]? = some (some (.str pl)) → JE none (Xc P w K mg base nLneeds "_law_needs" sLneeds (He.ga K "_law_needs") cdv A outer s0 H0 E) (.Call (.Name "int" q3) [.Subscript (.Name "_law_place" pp) (.Constant (.int 1) j q1) q2] [] q4) σ G (rI (i : Nat)) := fun {σ G pp q1 q2 q3 q4 j} hσ =>
          je_intS (s := nth1 pl) (by rw [d2]; exact je_ixS (je_v 2 hσ) je_int hl1000 d1) f5 f6 (T.f "int")
        have atN : ∀ (y : Hr), c.house[i]? = some y → atI (c.house.map (rHr K)) ((i : Nat) : Int) = some (rHr K y) := fun y hy => atI_nat (by rw [List.getElem?_map, hy] <;> rfl)
        refine wb_if (jt_gt (je_lenLs (ds := c.house) (D := rHr K) (je_ixT (je_var 4 rfl rx) je_int) (T.f "len")) (jn rfl)) o5 (fun h G6 H6 s6 o6 => ?_) (fun h G6 H6 s6 o6 => ?_)
        · have h : (i : Int) < (c.house.length : Int) := decide_eq_true_iff.mp h.symm
          have hi : i < c.house.length := by omega
          obtain ⟨r, hr1⟩ : ∃ r, c.house[i]? = some r := ⟨c.house[i], List.getElem?_eq_getElem hi⟩
          obtain ⟨u, hu1⟩ : ∃ u, (c.wed kd)[i]? = some u := ⟨(c.wed kd)[i]'(by omega), List.getElem?_eq_getElem (by omega)⟩
          have hrO := hm.h r (List.mem_of_getElem? hr1)
          have huO := hwo u (List.mem_of_getElem? hu1)
          have at2 : atI ((c.wed kd).map rWr) (i : Int) = some (rWr u) := atI_nat (by rw [List.getElem?_map, hu1] <;> rfl)
          have hn := hneed_at (kd := kd) hr1 hu1
          have rx6 := Rl.mono _ _ _ _ s6.gg rx
          have st6 := st5.trans o s6
          have wf6 := wf5.step (m := none) nn s6
          have etk : ((cs.take (n + 1)).flatMap fun c => hneed c kd i) = ((cs.take n).flatMap fun c => hneed c kd i) ++ (hrNeed r :: wrNeed kd u) := by rw [take_flat hc, hn]
          -- behind the first pair
          have after : ∀ (G8 H8 : Hp) (v8 v9 : V) (xs8 : List V), Stp none G H G8 H8 → Same G6 G8 → Own pf xs8 (((cs.take n).flatMap fun c => hneed c kd i).map (rPr K) ++ [rPr K (hrNeed r)]) H G8 H8 →
              WB (Xc P w K mg base nLneeds "_law_needs" sLneeds (He.ga K "_law_needs") cdv A outer s0 H0 E) ((match (defBody sLneeds).getD 3 (.Pass ⟨0, 0, 0, 0⟩) with | .For _ _ bd _ _ => (match bd.getD 0 (.Pass ⟨0, 0, 0, 0⟩) with | .If _ th _ _ => th | _ => []) | _ => []).drop 2)
                { nx := WB (Xc P w K mg base nLneeds "_law_needs" sLneeds (He.ga K "_law_needs") cdv A outer s0 H0 E) [] { nx := Nx none Gc (fun σ' G' H' => Stp none G H G' H' ∧ ∃ xf a b c d, σ' = [some cv, some (.str kd), some (.str pl), some (.ref pf), a, b, c, d] ∧ Own pf xf (((cs.take (n + 1)).flatMap fun c => hneed c kd i).map (rPr K)) H G' H'), ct := Nx none Gc (fun σ' G' H' => Stp none G H G' H' ∧ ∃ xf a b c d, σ' = [some cv, some (.str kd), some (.str pl), some (.ref pf), a, b, c, d] ∧ Own pf xf (((cs.take (n + 1)).flatMap fun c => hneed c kd i).map (rPr K)) H G' H'), bk := WB (Xc P w K mg base nLneeds "_law_needs" sLneeds (He.ga K "_law_needs") cdv A outer s0 H0 E) ((defBody sLneeds).drop 4) { nx := fun _ H' => Q .non H', rt := Q }, rt := Q },
                  ct := Nx none Gc (fun σ' G' H' => Stp none G H G' H' ∧ ∃ xf a b c d, σ' = [some cv, some (.str kd), some (.str pl), some (.ref pf), a, b, c, d] ∧ Own pf xf (((cs.take (n + 1)).flatMap fun c => hneed c kd i).map (rPr K)) H G' H'), bk := WB (Xc P w K mg base nLneeds "_law_needs" sLneeds (He.ga K "_law_needs") cdv A outer s0 H0 E) ((defBody sLneeds).drop 4) { nx := fun _ H' => Q .non H', rt := Q }, rt := Q }
                [some cv, some (.str kd), some (.str pl), some (.ref pf), some x, some v8, some v9, d0] H8 := by
            intro G8 H8 v8 v9 xs8 st8 g68 ow8
            have rx8 := Rl.mono _ _ _ _ g68 rx6
            refine wb_set 7 scLneeds.nd (R := rWr u) (je_ixL (l := (c.wed kd).map rWr) (je_ifE (jt_eq (je_v 1) je_str) (fun h => ?_) (fun h => ?_)) (jn rfl) at2) (st8.okm o) fun v10 G10 H10 s10 o10 r10 => ?_
            · have h := V.str.inj (decide_eq_true_iff.mp h.symm)
              have e : c.wed kd = c.sw := if_pos h
              rw [e]
              exact je_ixT (je_var 4 rfl rx8) je_int
            · have h := decide_eq_false_iff_not.mp h.symm
              have e : c.wed kd = c.dw := if_neg fun e => h (by rw [e])
              rw [e]
              exact je_ixT (je_var 4 rfl rx8) je_int
            have st10 := st8.trans o s10
            have ow10 := ow8.step (m := none) nn s10
            have g610 : Same Gc G10 := (((gg.trans s5.gg).trans s6.gg).trans g68).trans s10.gg
            cases u with
            | own =>
              cases r10
              refine wb_if (P := isB false) (jt_flip (jt_ne (je_v 7) je_str) (by decide +kernel)) o10 (fun h => by cases h) (fun h G11 H11 s11 o11 => ?_)
              refine wb_nil (wb_nil (wb_nil ⟨G11, g610.trans s11.gg, o11, st10.trans o s11, xs8, _, _, _, _, rfl, ?_⟩))
              rw [etk, List.map_append]
              exact ow10.step (m := none) nn s11
            | mate j =>
              cases r10
              have hj : j < c.house.length := huO
              obtain ⟨l1, l2⟩ := len_ofInt' (j := j) (by omega)
              refine wb_if (P := isB true) (jt_flip (jt_ne (je_v 7) je_str) rfl) o10 (fun h G11 H11 s11 o11 => ?_) (fun h => by cases h)
              refine wb_put (m := none) (G0 := G) 3 rfl o (st10.trans o s11) (ow10.step (m := none) nn s11) (R := rPr K (okd kd, dot j)) (je_tup (l := [rS (okd kd), rS (dot j)]) (ja_cons (je_ifE (jt_eq (je_v 1) je_str) (fun h => ?_) (fun h => ?_)) (ja_cons (je_cat je_str (je_strI (je_v 7) l2 (T.f "str")) (Nat.le_trans (Nat.add_le_add (show ("." : Str).length ≤ 1 by decide +kernel) l1) (by decide))) ja_nil))) (by rw [List.length_append, List.length_map]; show _ + 1 ≤ _; omega) fun v12 G12 H12 st12 g12 ow12 _ _ => ?_
              · have h := V.str.inj (decide_eq_true_iff.mp h.symm)
                have e : okd kd = "d" := if_pos h
                rw [e]
                exact je_str
              · have h := decide_eq_false_iff_not.mp h.symm
                have e : okd kd = "s" := if_neg fun e => h (by rw [e])
                rw [e]
                exact je_str
              refine wb_nil (wb_nil (wb_nil ⟨G12, (g610.trans s11.gg).trans g12, st12.okm o, st12, xs8 ++ [v12], _, _, _, _, rfl, ?_⟩))
              rw [etk, List.map_append]
              have e : (hrNeed r :: wrNeed kd (.mate j)).map (rPr K) = [rPr K (hrNeed r)] ++ [rPr K (okd kd, dot j)] := rfl
              rw [e, ← List.append_assoc]
              exact ow12
          cases r with
          | par l j =>
            have hl : (l = "f" ∨ l = "m") ∧ j < c.house.length := hrO
            obtain ⟨l1, l2⟩ := len_ofInt' (j := j) (by omega)
            have hg : V.str l = V.str "given" → False := by
              rcases hl.1 with rfl | rfl <;> decide +kernel
            refine wb_two (Ra := rS l) (Rb := rI j) 5 6 rfl scLneeds.nd (je_ixL (l := c.house.map (rHr K)) (je_ixT (je_var 4 rfl rx6) je_int) (jn rfl) (atN _ hr1)) o6 fun v w2 G7 H7 s7 o7 rv rw2 => ?_
            cases rv; cases rw2
            refine wb_put (m := none) (G0 := G) 3 rfl o (st6.trans o s7) (wf6.step (m := none) nn s7) (R := rPr K (hrNeed (.par l j))) (je_ifE (P := isB false) (jt_flip (jt_eq (je_v 5) je_str) (decide_eq_false hg)) (fun h => by cases h) (fun _ => je_tup (l := [rS (pkd l), rS (dot j)]) (ja_cons (je_call l (k_Lkind T) trivial (ja_cons (je_v 5) ja_nil) hr) (ja_cons (je_cat je_str (je_strI (je_v 6) l2 (T.f "str")) (Nat.le_trans (Nat.add_le_add (show ("." : Str).length ≤ 1 by decide +kernel) l1) (by decide))) ja_nil)))) (by rw [List.length_map]; omega) fun v8 G8 H8 st8 g8 ow8 _ _ => ?_
            exact after G8 H8 _ _ _ st8 (s7.gg.trans g8) ow8
          | giv z =>
            refine wb_two (Ra := rS "given") (Rb := rS z) 5 6 rfl scLneeds.nd (je_ixL (l := c.house.map (rHr K)) (je_ixT (je_var 4 rfl rx6) je_int) (jn rfl) (atN _ hr1)) o6 fun v w2 G7 H7 s7 o7 rv rw2 => ?_
            cases rv; cases rw2
            refine wb_put (m := none) (G0 := G) 3 rfl o (st6.trans o s7) (wf6.step (m := none) nn s7) (R := rPr K (hrNeed (.giv z))) (je_ifE (P := isB true) (jt_flip (jt_eq (je_v 5) je_str) (by decide +kernel)) (fun _ => je_tup (l := [rS (pkd z), rS ""]) (ja_cons (je_call z (k_Lkind T) trivial (ja_cons (je_v 6) ja_nil) hr) (ja_cons je_str ja_nil))) (fun h => by cases h)) (by rw [List.length_map]; omega) fun v8 G8 H8 st8 g8 ow8 _ _ => ?_
            exact after G8 H8 _ _ _ st8 (s7.gg.trans g8) ow8
        · have h : ¬ (i : Int) < (c.house.length : Int) := decide_eq_false_iff_not.mp h.symm
          have e : hneed c kd i = [] := by
            unfold hneed
            rw [List.getElem?_eq_none (by omega), List.getElem?_eq_none (by omega)]
            rfl
          refine wb_nil (wb_nil ⟨G6, (gg.trans s5.gg).trans s6.gg, o6, st5.trans o s6, xf, _, _, _, _, rfl, ?_⟩)
          rw [take_flat hc, e, List.append_nil]
          exact wf5.step (m := none) nn s6
    · rintro σ' G' H' gg o' ⟨st, xf, a, b, c, d, rfl, wf⟩
      rw [List.length_map, List.take_length] at wf
      obtain ⟨t1, t2, t3⟩ := wf.tell (m := none) (G0 := G) o st
      rw [en] at k
      exact wb_ret (R := Rl.ls (rPr K) (cs.flatMap fun c => hneed c kd i)) (je_var 3 rfl t3) (t1.okm o) fun v G7 H7 s7 r => k v G7 H7 (t1.trans o s7) r
end
end Nk
namespace Nk
open PySem PySem.Spec PyProof.Rows L2
theorem fold_len {cs : List Cu} (h : cs.length ≤ 10) : ∀ (us l : List (Str × Str)), (us.foldl (stepP cs) l).length ≤ l.length + 20 * us.length
  | [], l => Nat.le_refl _
  | u :: us, l => by
    rw [List.foldl_cons, List.length_cons]
    have h1 := fold_len h us (stepP cs l u)
    have h2 : (stepP cs l u).length ≤ l.length + 20 := by
      unfold stepP
      split
      · rw [List.length_append]
        have := List.length_filter_le (fun q => !l.contains q) (needs cs u)
        have := needs_len h u
        omega
      · omega
    omega
theorem univ_len : univ.length = 18 := by decide +kernel
theorem sweeps_len {cs : List Cu} (h : cs.length ≤ 10) (l : List (Str × Str)) : ∀ n, (sweeps cs n l).length ≤ l.length + 360 * n
  | 0 => Nat.le_refl _
  | n + 1 => by
    have h1 := sweeps_len h l n
    have h2 := fold_len h univ (sweeps cs n l)
    rw [← sweeps_succ, sweep_fold]
    rw [univ_len] at h2
    omega
/-- how far a sweep has come -/
def part (cs : List Cu) (first : List (Str × Str)) (i n : Nat) : List (Str × Str) := (univ.take n).foldl (stepP cs) (sweeps cs i first)
theorem part_zero (cs : List Cu) (first : List (Str × Str)) (i : Nat) : part cs first i 0 = sweeps cs i first := rfl
theorem part_all (cs : List Cu) (first : List (Str × Str)) (i : Nat) : part cs first i 18 = sweeps cs (i + 1) first := by
  rw [← sweeps_succ, sweep_fold]
  unfold part
  rw [List.take_of_length_le (Nat.le_of_eq univ_len)]
theorem part_succ {cs : List Cu} {first : List (Str × Str)} {i n : Nat} {p : Str × Str} (h : univ[n]? = some p) : part cs first i (n + 1) = stepP cs (part cs first i n) p := by
  unfold part
  rw [List.take_add_one, h, List.foldl_append]
  rfl
theorem part_len {cs : List Cu} (h : cs.length ≤ 10) {first : List (Str × Str)} {i n : Nat} (hi : i ≤ 19) : (part cs first i n).length ≤ first.length + 7300 := by
  have h1 := fold_len h (univ.take n) (sweeps cs i first)
  have h2 := sweeps_len h first i
  have h3 : (univ.take n).length ≤ 18 := Nat.le_trans (List.length_take_le' _ _) (Nat.le_of_eq univ_len)
  unfold part
  omega
theorem part_univ {cs : List Cu} (h : ∀ c ∈ cs, c.Ok) {first : List (Str × Str)} (hf : ∀ q ∈ first, q ∈ univ) {i n : Nat} : ∀ q ∈ part cs first i n, q ∈ univ := fun q hq =>
  (fold_sound cs first _ _ (sweeps_sound cs first i) q hq).univ h hf
theorem univ_at : ∀ j < 2, ∀ l < 9, univ[9 * j + l]? = some ((["s", "d"] : List Str).getD j "", places.getD l "") := by decide +kernel
theorem places_len : places.length = 9 := by decide +kernel
section
variable {P : Program} {w : World} {K : PySem.W.Frag} {mg : Str → Option Value} {base : Heap}
theorem k_Lclosed (T : Tx K mg) : C8.Cal P w K mg base 3 "_law_closed" (spF (fun d : List Cu × List (Str × Str) => csOk d.1 ∧ d.2.length ≤ 10000 ∧ ∀ q ∈ d.2, q ∈ univ) (fun d => [Rl.ls (rcu K) d.1, Rl.ls (rPr K) d.2]) fun d => Rl.ls (rPr K) (lclosed d.1 d.2)) [] := by
  obtain ⟨fd, F⟩ := T.F_Lclosed
  refine cal_pure F (T.g "_law_closed") (F.bindsN fun _ _ _ _ _ _ us hl => match us, hl with | [_, _], _ => rfl) scLclosed (fun _ => rfl) ?_
  rintro cdv A outer s0 H0 E ⟨cs, first⟩ G H vs Q hr ⟨hcs, hfl, hfu⟩ o al k
  have hcs : csOk cs := hcs
  have hfl : first.length ≤ 10000 := hfl
  have hfu : ∀ q ∈ first, q ∈ univ := hfu
  have k : ∀ v G' H', Stp none G H G' H' → (Rl.ls (rPr K) (sweeps cs 19 first)).p v G' → Q v H' := fun v G' H' s r => k v G' H' s (by
    show (Rl.ls (rPr K) (lclosed cs first)).p v G'
    rw [lclosed_eq]
    exact r)
  obtain ⟨cv, fv, rfl, e1, e2⟩ := AlL.two al
  have e1 : (Rl.ls (rcu K) cs).p cv G := e1
  have e2 : (Rl.ls (rPr K) first).p fv G := e2
  refine wb_set 2 scLclosed.nd (je_listL (je_var 1 rfl e2) (T.f "list")) o fun v1 G1 H1 s1 o1 r1 => ?_
  refine wb_for (fun i σ' G' H' => Stp none G H G' H' ∧ ∃ v a b c, σ' = [some cv, some fv, some v, a, b, c, none] ∧ (Rl.ls (rPr K) (sweeps cs i first)).p v G') PassesOwn.never rfl (pg_name (i := 3) scLclosed.nd rfl (.inl rfl))
    (ji_range (n := 19) je_int (by decide) (T.f "range")) o1 (fun G2 H2 s2 o2 => ⟨s1.trans o s2, v1, _, _, _, rfl, Rl.mono _ _ _ _ s2.gg r1⟩) ?_ ?_
  · rintro Gc gc i R σ' G' H' x hR gg o' ⟨st, v, a, b, c, rfl, rv⟩ G2 H2 s2 o2 rx
    have hi : i < 19 := by
      obtain ⟨h, _⟩ := List.getElem?_eq_some_iff.mp hR
      rw [List.length_map, List.length_range] at h
      exact h
    refine wb_for (fun j σ' G' H' => Stp none G H G' H' ∧ Same Gc G' ∧ ∃ v b c, σ' = [some cv, some fv, some v, some x, b, c, none] ∧ (Rl.ls (rPr K) (part cs first i (9 * j))).p v G') PassesOwn.never rfl (pg_name (i := 4) scLclosed.nd rfl (.inl rfl))
      (ji_tup (je_tup (l := [rS "s", rS "d"]) (ja_cons je_str (ja_cons je_str ja_nil)))) o2 (fun G3 H3 s3 o3 => ⟨(st.trans o s2).trans o s3, (gg.trans s2.gg).trans s3.gg, v, _, _, rfl, Rl.mono _ _ _ _ (s2.gg.trans s3.gg) rv⟩) ?_ ?_
    · rintro Gd gd j R2 σ2 G4 H4 kv hR2 gg2 o4 ⟨st4, gc4, v4, b4, c4, rfl, r4⟩ G5 H5 s5 o5 rk
      have hj : j < 2 := by
        obtain ⟨h, _⟩ := List.getElem?_eq_some_iff.mp hR2
        exact h
      have hkd : ∃ kd, kindOk kd ∧ (["s", "d"] : List Str).getD j "" = kd ∧ kv = .str kd := by
        have : j = 0 ∨ j = 1 := by omega
        rcases this with rfl | rfl
        · cases hR2
          exact ⟨"s", .inl rfl, rfl, rk⟩
        · cases hR2
          exact ⟨"d", .inr rfl, rfl, rk⟩
      obtain ⟨kd, hk, ek, rfl⟩ := hkd
      refine wb_for (fun l σ' G' H' => Stp none G H G' H' ∧ Same Gc G' ∧ Same Gd G' ∧ ∃ v c, σ' = [some cv, some fv, some v, some x, some (.str kd), c, none] ∧ (Rl.ls (rPr K) (part cs first i (9 * j + l))).p v G') PassesOwn.never rfl (pg_name (i := 5) scLclosed.nd rfl (.inl rfl))
        (l := places.map rS) (ji_list (JE.cast (je_catLs (D := rS) (l1 := wFound 0 3) (l2 := dots) (je_call (0, 2) (k_Lways T) ⟨by decide, by decide⟩ (ja_cons je_int (ja_cons je_int ja_nil)) hr) (je_lst (l := [rS ".0", rS ".1"]) (ja_cons je_str (ja_cons je_str ja_nil))) (by decide +kernel)) (by rw [wFound02] <;> rfl))) o5
        (fun G6 H6 s6 o6 => ⟨(st4.trans o s5).trans o s6, (gc4.trans s5.gg).trans s6.gg, (gg2.trans s5.gg).trans s6.gg, v4, _, rfl, Rl.mono _ _ _ _ (s5.gg.trans s6.gg) r4⟩) ?_ ?_
      · rintro Ge ge l R3 σ3 G7 H7 pv hR3 gg3 o7 ⟨st7, gc7, gd7, v7, c7, rfl, r7⟩ G8 H8 s8 o8 rp
        rw [List.getElem?_map] at hR3
        cases hp : places[l]? with
        | none =>
          rw [hp] at hR3
          cases hR3
        | some p =>
          rw [hp] at hR3
          cases hR3
          cases rp
          have hl9 : l < 9 := by
            obtain ⟨h, _⟩ := List.getElem?_eq_some_iff.mp hp
            rw [places_len] at h
            exact h
          have hu := univ_at j hj l hl9
          rw [ek, List.getD_eq_getElem?_getD, hp] at hu
          have hu : univ[9 * j + l]? = some (kd, p) := hu
          have hpm : p ∈ places := List.mem_of_getElem? hp
          have hpu : (kd, p) ∈ univ := List.mem_of_getElem? hu
          have hsu := part_univ (i := i) (n := 9 * j + l) hcs.2 hfu
          have hps := prs_univ hsu
          have hsl := part_len (i := i) (n := 9 * j + l) (first := first) hcs.1 (Nat.le_of_lt hi)
          have estep := part_succ (cs := cs) (first := first) (i := i) hu
          have st8 := st7.trans o s8
          have r8 := Rl.mono _ _ _ _ s8.gg r7
          have c8 := Rl.mono _ _ _ _ st8.gg e1
          refine wb_if (jt_inP hr (p := (kd, p)) (List.all_eq_true.mp (prs_univ (l := [(kd, p)]) fun q h => by rw [List.mem_singleton.mp h]; exact hpu) _ (List.mem_singleton.mpr rfl)) hps (je_tup (l := [rS kd, rS p]) (ja_cons (je_v 4) (ja_cons (je_v 5) ja_nil))) (je_var 2 rfl r8)) o8 (fun h G9 H9 s9 o9 => ?_) (fun h G9 H9 s9 o9 => ?_)
          · have hc : (part cs first i (9 * j + l)).contains (kd, p) = true := h.symm
            have e : part cs first i (9 * j + l + 1) = part cs first i (9 * j + l) ++ (needs cs (kd, p)).filter (fun q => !(part cs first i (9 * j + l)).contains q) := by
              rw [estep]
              unfold stepP
              rw [if_pos hc]
            have r9 := Rl.mono _ _ _ _ s9.gg r8
            refine wb_set 2 scLclosed.nd (je_catLs (D := rPr K) (je_var 2 rfl r9) (je_lc (ds := needs cs (kd, p)) (D := rPr K) (E := rPr K) (f := fun q => !(part cs first i (9 * j + l)).contains q) [("_law_one", 6)] rfl scLclosed.nd (blkOk_by rfl) (fun s H C cl fp => pg_name (i := 6) scLclosed.nd rfl (.inl rfl))
              (ji_list (je_call (cs, kd, p) (k_Lneeds T) ⟨hcs, hk, hpm⟩ (ja_cons (je_var 0 rfl (Rl.mono _ _ _ _ s9.gg c8)) (ja_cons (je_v 4) (ja_cons (je_v 5) ja_nil))) hr)) ?_ (lc_name fun x => rfl) ?_ ?_) ?_) o9 fun v10 G10 H10 s10 o10 r10 => wb_nil (wb_nil ?_)
            · have := needs_len hcs.1 (kd, p)
              omega
            · rintro q hq σ4 G11 g11 ⟨y, rfl, ry⟩ s H C cl fp
              exact jts_one (jt_niP (X := Bk _ _ s H C cl fp) (k := 2) hr (List.all_eq_true.mp (prs_univ (l := [q]) fun q' h => by rw [List.mem_singleton.mp h]; exact needs_univ hcs.2 hpu q hq) _ (List.mem_singleton.mpr rfl)) hps (je_var 6 rfl ry) (je_var 2 rfl (Rl.mono _ _ _ _ g11 r9)))
            · rintro q hq hf σ4 G11 g11 ⟨y, rfl, ry⟩ s H C cl fp
              exact je_var 6 rfl ry
            · have h1 := List.length_filter_le (fun q => !(part cs first i (9 * j + l)).contains q) (needs cs (kd, p))
              have h2 := needs_len hcs.1 (kd, p)
              omega
            · refine ⟨G10, ((gg3.trans s8.gg).trans s9.gg).trans s10.gg, o10, (st8.trans o s9).trans o s10, ((gc7.trans s8.gg).trans s9.gg).trans s10.gg, ((gd7.trans s8.gg).trans s9.gg).trans s10.gg, v10, _, rfl, ?_⟩
              rw [← Nat.add_assoc, e]
              exact r10
          · have hc : (part cs first i (9 * j + l)).contains (kd, p) = false := h.symm
            have e : part cs first i (9 * j + l + 1) = part cs first i (9 * j + l) := by
              rw [estep]
              unfold stepP
              rw [if_neg (by rw [hc]; exact Bool.false_ne_true)]
            refine wb_nil (wb_nil ⟨G9, (gg3.trans s8.gg).trans s9.gg, o9, st8.trans o s9, (gc7.trans s8.gg).trans s9.gg, (gd7.trans s8.gg).trans s9.gg, v7, _, rfl, ?_⟩)
            rw [← Nat.add_assoc, e]
            exact Rl.mono _ _ _ _ s9.gg r8
      · rintro σ' G12 H12 gg12 o12 ⟨st12, gc12, gd12, v12, c12, rfl, r12⟩
        rw [List.length_map, places_len] at r12
        refine wb_nil ⟨G12, gd12, o12, st12, gc12, v12, _, _, rfl, ?_⟩
        rw [Nat.mul_add, Nat.mul_one]
        exact r12
    · rintro σ' G13 H13 gg13 o13 ⟨st13, gc13, v13, b13, c13, rfl, r13⟩
      have r13 : (Rl.ls (rPr K) (part cs first i 18)).p v13 G13 := r13
      rw [part_all] at r13
      exact wb_nil ⟨G13, gc13, o13, st13, v13, _, _, _, rfl, r13⟩
  · rintro σ' G' H' gg o' ⟨st, v, a, b, c, rfl, rv⟩
    rw [List.length_map, List.length_range] at rv
    exact wb_ret (je_var 2 rfl rv) o' fun v G7 H7 s7 r => k v G7 H7 (st.trans o s7) r
end
end Nk
namespace Nk
open PySem PySem.Spec PyProof.Rows L2
section
variable {m : Option Hd} {X : Cx} {a b : Expr} {σ : L2.St} {G H G0 H0 : Hp} {Ra Rb : Rl} {pos p0 : Pos} {rest : List Stmt} {D : Ends}
/-- a, b, c, d = (e1, e2, [], []): the two lists kept back -/
theorem wb_four {k1 k2 : Nat} {tp tp2 lp lp2 : Pos} (i1 i2 i3 i4 : Nat) {y1 y2 y3 y4 : Str} {q1 q2 q3 q4 : Pos} (hc : X.calm = true) (hN : X.N.Nodup) (ha : JE m X a σ G Ra) (hb : JE m X b σ G Rb) (o0 : Okm m G0 H0) (st : Stp m G0 H0 G H)
    (k : ∀ v w p q G' H', Stp m G0 H0 G' H' → Same G G' → Ra.p v G' → Rb.p w G' → Own p [] [] H0 G' H' → Own q [] [] H0 G' H' → p ≠ q → WB X rest D ((((σ.set i1 (some v)).set i2 (some w)).set i3 (some (.ref p))).set i4 (some (.ref q))) H')
    (h1 : X.N[i1]? = some y1 := by rfl) (h2 : X.N[i2]? = some y2 := by rfl) (h3 : X.N[i3]? = some y3 := by rfl) (h4 : X.N[i4]? = some y4 := by rfl)
    (l1 : Loc X.env.scope y1 := by first | exact .inl rfl | exact .inr rfl) (l2 : Loc X.env.scope y2 := by first | exact .inl rfl | exact .inr rfl) (l3 : Loc X.env.scope y3 := by first | exact .inl rfl | exact .inr rfl) (l4 : Loc X.env.scope y4 := by first | exact .inl rfl | exact .inr rfl)
    (f1 : X.fn y1 = true ∨ X.env.scope.names.lookup y1 = some .local := by first | exact .inl rfl | exact .inr rfl) (f2 : X.fn y2 = true ∨ X.env.scope.names.lookup y2 = some .local := by first | exact .inl rfl | exact .inr rfl) (f3 : X.fn y3 = true ∨ X.env.scope.names.lookup y3 = some .local := by first | exact .inl rfl | exact .inr rfl) (f4 : X.fn y4 = true ∨ X.env.scope.names.lookup y4 = some .local := by first | exact .inl rfl | exact .inr rfl)
    (s1 : starEach [a, b, .List [] lp, .List [] lp2] X.env = (false, eval a X.env) :: starEach [b, .List [] lp, .List [] lp2] X.env := by rfl) (s2 : starEach [b, .List [] lp, .List [] lp2] X.env = (false, eval b X.env) :: starEach [.List [] lp, .List [] lp2] X.env := by rfl)
    (s3 : starEach [.List [] lp, .List [] lp2] X.env = (false, eval (.List [] lp) X.env) :: starEach [.List [] lp2] X.env := by rfl) (s4 : starEach [.List [] lp2] X.env = (false, eval (.List [] lp2) X.env) :: starEach [] X.env := by rfl)
    (hs : swapsWithSole [.Tuple [.Name y1 q1, .Name y2 q2, .Name y3 q3, .Name y4 q4] k1 tp] (.Tuple [a, b, .List [] lp, .List [] lp2] k2 tp2) pos.line X.env = pure false := by rfl) (hw : swappedStores [.Tuple [.Name y1 q1, .Name y2 q2, .Name y3 q3, .Name y4 q4] k1 tp] (.Tuple [a, b, .List [] lp, .List [] lp2] k2 tp2) X.env = pure none := by rfl)
    (hh : (assignEach [.Tuple [.Name y1 q1, .Name y2 q2, .Name y3 q3, .Name y4 q4] k1 tp] X.env).map (·.2) = [assign (.Tuple [.Name y1 q1, .Name y2 q2, .Name y3 q3, .Name y4 q4] k1 tp) X.env] := by rfl)
    (e1 : (assignEach [.Name y1 q1, .Name y2 q2, .Name y3 q3, .Name y4 q4] X.env).map (·.2) = assign (.Name y1 q1) X.env :: (assignEach [.Name y2 q2, .Name y3 q3, .Name y4 q4] X.env).map (·.2) := by rfl)
    (e2 : (assignEach [.Name y2 q2, .Name y3 q3, .Name y4 q4] X.env).map (·.2) = assign (.Name y2 q2) X.env :: (assignEach [.Name y3 q3, .Name y4 q4] X.env).map (·.2) := by rfl)
    (e3 : (assignEach [.Name y3 q3, .Name y4 q4] X.env).map (·.2) = assign (.Name y3 q3) X.env :: (assignEach [.Name y4 q4] X.env).map (·.2) := by rfl)
    (e4 : (assignEach [.Name y4 q4] X.env).map (·.2) = assign (.Name y4 q4) X.env :: (assignEach [] X.env).map (·.2) := by rfl)
    (n1 : (assignEach [.Name y1 q1, .Name y2 q2, .Name y3 q3, .Name y4 q4] X.env).length = 4 := by rfl) (n2 : (assignEach [.Name y1 q1, .Name y2 q2, .Name y3 q3, .Name y4 q4] X.env).findIdx? (·.1) = none := by rfl) :
    WB X (.Assign [.Tuple [.Name y1 q1, .Name y2 q2, .Name y3 q3, .Name y4 q4] k1 tp] (.Tuple [a, b, .List [] lp, .List [] lp2] k2 tp2) pos :: rest) D σ H :=
  wb_step (ps_asg (pe_tup (pa_cons pE (pa_cons pE (pa_cons (pe_lst pa_nil) (pa_cons (pe_lst pa_nil) pa_nil s4) s3) s2) s1)) (pg_tup hc (pgs_cons (pg_name hN h1 l1 f1) (pgs_cons (pg_name hN h2 l2 f2) (pgs_cons (pg_name hN h3 l3 f3) (pgs_cons (pg_name hN h4 l4 f4) pgs_nil e4) e3) e2) e1) n1 n2) hs hw hh)
    (ha G H (Same.refl G) (st.okm o0) _ fun v G2 H2 r2 rv => hb G2 H2 r2.gg (r2.okm (st.okm o0)) _ fun w G3 H3 r3 rw2 => ⟨by decide, fun p hp => ⟨by decide, fun q hq => ⟨by show 4 ≤ sizeLine; decide, fun t ht => by
      have s03 := (st.trans o0 r2).trans o0 r3
      have fresh : ∀ {z : Addr}, H3 z = none → H0 z = none ∧ G3 z = none := fun {z} hz => by
        refine ⟨?_, (s03.okm o0).gnone hz⟩
        cases e : H0 z with
        | none => rfl
        | some u => exact absurd hz (s03.alive o0 (by rw [e]; exact fun z => nomatch z))
      have npq : q ≠ p := fun e => by
        rw [e, upd_same] at hq
        cases hq
      have hq3 : H3 q = none := by
        rw [upd_ne npq] at hq
        exact hq
      have ntq : t ≠ q := fun e => by
        rw [e, upd_same] at ht
        cases ht
      rw [upd_ne ntq] at ht
      have ntp : t ≠ p := fun e => by
        rw [e, upd_same] at ht
        cases ht
      rw [upd_ne ntp] at ht
      obtain ⟨p0', pg⟩ := fresh hp
      obtain ⟨q0', qg⟩ := fresh hq3
      obtain ⟨t0', tg⟩ := fresh ht
      have z1 := Stp.mut (u := .lst []) o0 s03 p0' pg
      have z2 := Stp.mut (u := .lst []) o0 z1 q0' qg
      have z3 := Stp.mut (u := .tup [v, w, .ref p, .ref q]) o0 z2 t0' tg
      refine ⟨t, _, rfl, SqT.of upd_same, rfl, v, _, rfl, w, _, rfl, .ref p, _, rfl, .ref q, _, rfl, rfl, ?_⟩
      refine k v w p q G3 _ z3 (r2.gg.trans r3.gg) (Ra.mono _ _ _ r3.gg rv) rw2 ⟨p0', pg, ?_, .nil⟩ ⟨q0', qg, ?_, .nil⟩ (Ne.symm npq)
      · rw [upd_ne (Ne.symm ntp), upd_ne (Ne.symm npq), upd_same]
      · rw [upd_ne (Ne.symm ntq), upd_same]⟩⟩⟩)
/-- max of a list of ints -/
theorem je_maxL {ns : List Int} {i : Int} (hc : X.calm = true) (ha : JE m X a σ G (Rl.ls rI ns)) (hi : i ∈ ns) (hm2 : ∀ y ∈ ns, y ≤ i) (hm : X.mg "max" = none) (hg : Gl X "max" := by rfl) (he : starEach [a] X.env = (false, eval a X.env) :: starEach [] X.env := by rfl) (hpl : (backTo pos (starEach [] X.env)).any (·.1) = false := by rfl) : JE m X (.Call (.Name "max" p0) [a] [] pos) σ G (rI i) :=
  je_callB (cr_max hc) (ja_cons ha ja_nil he) (fun vs G1 H1 Q _ o h k => by
    obtain ⟨x, rfl, p, xs, rfl, hp, al⟩ := AlL.one h
    have e := AlL.vals (f := V.int) al
    subst e
    refine ⟨p, ns, rfl, SqL.of (o.1 _ _ hp), List.length_pos_of_mem hi, fun z hz hall => ?_⟩
    have e : z = i := Int.le_antisymm (hm2 z hz) (hall i hi)
    rw [e]
    exact k _ G1 H1 (.refl o) rfl) hm (by decide +kernel) hg (by decide) (by decide) he hpl
end
/-! ### what the law gathers from rows -/
def cdSort : Cd → Str
  | .number _ => "number"
  | .never => "never"
  | .unborne => "unborne"
  | .dead _ => "dead"
  | .alive _ => "alive"
  | .unlike _ _ => "unlike"
def mkOf (bt : Bool) : Cl → List Str
  | .tk t => if bt || t.cds.any cdTrk then [t.src] else []
  | .fr _ => []
def kdOf (kind : Str) : Cl → List Str
  | .tk t => if t.cds.any cdNum then [kind] else []
  | .fr _ => []
theorem mkOf_tk (bt : Bool) (t : Tk) : mkOf bt (.tk t) = if (bt || t.cds.any cdTrk) = true then [t.src] else [] := rfl
theorem kdOf_tk (kind : Str) (t : Tk) : kdOf kind (.tk t) = if t.cds.any cdNum = true then [kind] else [] := rfl
theorem mkOf_len (bt : Bool) (c : Cl) : (mkOf bt c).length ≤ 1 := by
  cases c with
  | tk t =>
    rw [mkOf_tk]
    cases (bt || t.cds.any cdTrk)
    · exact Nat.zero_le _
    · exact Nat.le_refl _
  | fr l => exact Nat.zero_le _
theorem kdOf_len (kind : Str) (c : Cl) : (kdOf kind c).length ≤ 1 := by
  cases c with
  | tk t =>
    rw [kdOf_tk]
    cases t.cds.any cdNum
    · exact Nat.zero_le _
    · exact Nat.le_refl _
  | fr l => exact Nat.zero_le _
def cuBt (c : Cu) : Bool := barTrk c.s.bars || barTrk c.d.bars
def cuMk (c : Cu) : List Str := (c.s.cls ++ c.d.cls).flatMap (mkOf (cuBt c))
def cuKd (c : Cu) : List Str := c.s.cls.flatMap (kdOf "s") ++ c.d.cls.flatMap (kdOf "d")
theorem mk_tks (bt : Bool) (l : List Tk) : (l.map Cl.tk).flatMap (mkOf bt) = (l.filter fun t => bt || t.cds.any cdTrk).map (·.src) := by
  induction l with
  | nil => rfl
  | cons t l ih =>
    rw [List.map_cons, List.flatMap_cons, ih, List.filter_cons, mkOf_tk]
    cases (bt || t.cds.any cdTrk)
    · rfl
    · rfl
theorem cls_mk (bt : Bool) (k : Kl) : k.cls.flatMap (mkOf bt) = (k.tks.filter fun t => bt || t.cds.any cdTrk).map (·.src) := by
  unfold Kl.cls
  rw [List.flatMap_append, mk_tks]
  show _ ++ ([] ++ []) = _
  rw [List.append_nil, List.append_nil]
theorem cuMk_eq (c : Cu) : cuMk c = cuTrk c := by
  unfold cuMk cuTrk
  rw [List.flatMap_append, cls_mk, cls_mk, List.filter_append, List.map_append]
  rfl
theorem kd_mem (kind x : Str) (k : Kl) : x ∈ k.cls.flatMap (kdOf kind) ↔ x = kind ∧ klNum k = true := by
  unfold Kl.cls klNum
  rw [List.flatMap_append, List.mem_append]
  have h0 : x ∉ [Cl.fr k.bars].flatMap (kdOf kind) := fun h => by
    obtain ⟨c, hc, h⟩ := List.mem_flatMap.mp h
    rw [List.mem_singleton.mp hc] at h
    cases h
  constructor
  · rintro (h | h)
    · obtain ⟨c, hc, h⟩ := List.mem_flatMap.mp h
      obtain ⟨t, ht, rfl⟩ := List.mem_map.mp hc
      rw [kdOf_tk] at h
      by_cases hn : t.cds.any cdNum = true
      · rw [if_pos hn] at h
        exact ⟨List.mem_singleton.mp h, List.any_eq_true.mpr ⟨t, ht, hn⟩⟩
      · rw [if_neg hn] at h
        cases h
    · exact absurd h h0
  · rintro ⟨rfl, h⟩
    obtain ⟨t, ht, hn⟩ := List.any_eq_true.mp h
    refine .inl (List.mem_flatMap.mpr ⟨.tk t, List.mem_map.mpr ⟨t, ht, rfl⟩, ?_⟩)
    rw [kdOf_tk, if_pos hn]
    exact List.mem_singleton.mpr rfl
theorem kinds_eq (cs : List Cu) : ∀ k ∈ (["s", "d"] : List Str), (cs.flatMap cuKd).contains k = cs.any fun c => klNum (c.kl k) := by
  intro k hk
  have hsd : ("s" : Str) ≠ "d" := by decide +kernel
  have h : k ∈ cs.flatMap cuKd ↔ (cs.any fun c => klNum (c.kl k)) = true := by
    rw [List.mem_flatMap, List.any_eq_true]
    constructor
    · rintro ⟨c, hc, h⟩
      refine ⟨c, hc, ?_⟩
      rcases List.mem_append.mp h with h | h
      · obtain ⟨rfl, h7⟩ := (kd_mem _ _ _).mp h
        exact h7
      · obtain ⟨rfl, h7⟩ := (kd_mem _ _ _).mp h
        show klNum (if ("d" : Str) = "s" then c.s else c.d) = true
        rw [if_neg (Ne.symm hsd)]
        exact h7
    · rintro ⟨c, hc, h⟩
      refine ⟨c, hc, ?_⟩
      rcases List.mem_cons.mp hk with rfl | hk
      · exact List.mem_append_left _ ((kd_mem _ _ _).mpr ⟨rfl, h⟩)
      · rw [List.mem_singleton.mp hk] at h ⊢
        have h : klNum (if ("d" : Str) = "s" then c.s else c.d) = true := h
        rw [if_neg (Ne.symm hsd)] at h
        exact List.mem_append_right _ ((kd_mem _ _ _).mpr ⟨rfl, h⟩)
  cases h1 : (cs.any fun c => klNum (c.kl k)) with
  | true => exact List.contains_iff_mem.mpr (h.mpr h1)
  | false =>
    cases h2 : (cs.flatMap cuKd).contains k with
    | false => rfl
    | true =>
      rw [h.mp (List.contains_iff_mem.mp h2)] at h1
      cases h1
theorem sorts_trk (l : List Cd) : ((l.map cdSort).contains "unborne" || (l.map cdSort).contains "never") = l.any cdTrk := by
  induction l with
  | nil => rfl
  | cons c l ih =>
    rw [List.map_cons, List.any_cons, ← ih, List.contains_cons, List.contains_cons]
    have e : ((("unborne" : Str) == cdSort c) || (("never" : Str) == cdSort c)) = cdTrk c := by cases c <;> rfl
    rw [← e]
    cases (("unborne" : Str) == cdSort c) <;> cases (("never" : Str) == cdSort c) <;> cases (l.map cdSort).contains "unborne" <;> simp
theorem sorts_num (l : List Cd) : (l.map cdSort).contains "number" = l.any cdNum := by
  induction l with
  | nil => rfl
  | cons c l ih =>
    rw [List.map_cons, List.any_cons, ← ih, List.contains_cons]
    congr 1
    cases c <;> rfl
theorem bars_bt (c : Cu) : ((c.s.bars ++ c.d.bars).contains "living" || (c.s.bars ++ c.d.bars).contains "ever") = cuBt c := by
  unfold cuBt barTrk
  have h : ∀ (x : Str) (l l' : List Str), (l ++ l').contains x = (l.contains x || l'.contains x) := fun x l l' => by
    induction l with
    | nil => simp
    | cons y l ih => simp [List.contains_cons, ih, Bool.or_assoc]
  rw [h, h]
  cases c.s.bars.contains "living" <;> cases c.s.bars.contains "ever" <;> cases c.d.bars.contains "living" <;> simp
end Nk
namespace Nk
open PySem PySem.Spec PyProof.Rows L2
section
variable {m : Option Hd} {X : Cx} {a : Expr} {σ : L2.St} {G : Hp} {pos pp : Pos} {j : Nat}
theorem je_cd0 {c : Cd} (ha : JE m X a σ G (rcd X.K c)) : JE m X (.Subscript a (.Constant (.int 0) j pp) pos) σ G (rS (cdSort c)) := by
  cases c with
  | number n => exact je_ixT (l := [rS "number", rI n]) ha je_int
  | never => exact je_ixT (l := [rS "never"]) ha je_int
  | unborne => exact je_ixT (l := [rS "unborne"]) ha je_int
  | dead x => exact je_ixT (l := [rS "dead", rS x]) ha je_int
  | alive x => exact je_ixT (l := [rS "alive", rS x]) ha je_int
  | unlike x y => exact je_ixT (l := [rS "unlike", rS x, rS y]) ha je_int
end
section
variable {P : Program} {w : World} {K : PySem.W.Frag} {mg : Str → Option Value} {base : Heap}
/-- what is gathered so far -/
def AskS (G H : Hp) (cv mv fv bv : V) (pm pk : Addr) (a8 a9 a10 : Option V) (srcs ways marks kinds : List Str) (σ' : L2.St) (G' H' : Hp) : Prop :=
  Stp none G H G' H' ∧ ∃ sv wv xm xk c d, σ' = [some cv, some mv, some fv, some bv, some sv, some wv, some (.ref pm), some (.ref pk), a8, a9, a10, c, d, none, none, none, none, none, none, none, none, none] ∧
    (Rl.ls rS srcs).p sv G' ∧ (Rl.ls rS ways).p wv G' ∧ Own pm xm (marks.map rS) H G' H' ∧ Own pk xk (kinds.map rS) H G' H'
theorem AskS.step {G H : Hp} {cv mv fv bv : V} {pm pk : Addr} {a8 a9 a10 : Option V} {srcs ways marks kinds : List Str} {σ' : L2.St} {G' H' G2 H2 : Hp} (o : Okm none G H) (h : AskS G H cv mv fv bv pm pk a8 a9 a10 srcs ways marks kinds σ' G' H') (s : Stp none G' H' G2 H2) : AskS G H cv mv fv bv pm pk a8 a9 a10 srcs ways marks kinds σ' G2 H2 := by
  obtain ⟨st, sv, wv, xm, xk, c, d, e, r1, r2, w1, w2⟩ := h
  exact ⟨st.trans o s, sv, wv, xm, xk, c, d, e, Rl.mono _ _ _ _ s.gg r1, Rl.mono _ _ _ _ s.gg r2, w1.step (m := none) (fun _ e => by cases e) s, w2.step (m := none) (fun _ e => by cases e) s⟩
abbrev sAskFor : Stmt := (defBody sLasked).getD 1 (.Pass ⟨0, 0, 0, 0⟩)
def forBody : Stmt → List Stmt
  | .For _ _ bd _ _ => bd
  | _ => []
/-- one row -/
theorem b_row (T : Tx K mg) (cdv : Value) (A : Around) (outer : List Env) (s0 : Shared) (H0 : Hp) (E : XK) (hr : Room 3 (A.deeper (envOfC "_law_asked" (defScope sLasked) s0.heap.objs.size (He.ga K "_law_asked") cdv)))
    {G H : Hp} (o : Okm none G H) {cv mv fv bv : V} {pm pk : Addr} (npk : pm ≠ pk) {cu bars : V} {kd : Str} {bl : List Str} {srcs ways marks kinds : List Str} {sv wv : V} {xm xk : List V} {d : Option V} {G' H' : Hp} {D : Ends} (c : Cl) (hc : clSmall c) (rv : V)
    (st : Stp none G H G' H') (r1 : (Rl.ls rS srcs).p sv G') (r2 : (Rl.ls rS ways).p wv G') (w1 : Own pm xm (marks.map rS) H G' H') (w2 : Own pk xk (kinds.map rS) H G' H') (rb : (Rl.ls rS bl).p bars G') (rr : (rcl K c).p rv G') (hb : (bl.contains "living" || bl.contains "ever") = bt)
    (ls : srcs.length ≤ 50000) (lw : ways.length ≤ 50000) (lm : marks.length ≤ 50000) (lk : kinds.length ≤ 50000)
    (k : ∀ G2 H2 σ2, Same G' G2 → Okm none G2 H2 → AskS G H cv mv fv bv pm pk (some cu) (some bars) (some (.str kd)) (srcs ++ clSrcs c) (ways ++ clLives c) (marks ++ mkOf bt c) (kinds ++ kdOf kd c) σ2 G2 H2 → D.nx σ2 H2) :
    WB (Xc P w K mg base nLasked "_law_asked" sLasked (He.ga K "_law_asked") cdv A outer s0 H0 E) (forBody ((forBody ((forBody sAskFor).getD 1 (.Pass ⟨0, 0, 0, 0⟩))).getD 0 (.Pass ⟨0, 0, 0, 0⟩))) D
      [some cv, some mv, some fv, some bv, some sv, some wv, some (.ref pm), some (.ref pk), some cu, some bars, some (.str kd), some rv, d, none, none, none, none, none, none, none, none, none] H' := by
  have nn : ∀ {p : Addr}, ∀ h : Hd, none = some h → p ≠ h.a := fun _ e => by cases e
  have q1 := clSrcs_len hc
  have q2 := clLives_len hc
  refine wb_set 4 scLasked.nd (je_catLs (l2 := clSrcs c) (je_var 4 rfl r1) (je_ixT (l := [Rl.ls rS (clSrcs c), Rl.ls rS (clLives c)]) (je_call c (k_Lread T) hc (ja_cons (je_var 11 rfl rr) ja_nil) hr) je_int) (by omega)) (st.okm o) fun v1 G1 H1 s1 o1 t1 => ?_
  refine wb_set 5 scLasked.nd (je_catLs (l2 := clLives c) (je_var 5 rfl (Rl.mono _ _ _ _ s1.gg r2)) (je_ixT (l := [Rl.ls rS (clSrcs c), Rl.ls rS (clLives c)]) (je_call c (k_Lread T) hc (ja_cons (je_var 11 rfl (Rl.mono _ _ _ _ s1.gg rr)) ja_nil) hr) je_int) (by omega)) o1 fun v2 G2 H2 s2 o2 t2 => ?_
  have g2 := s1.gg.trans s2.gg
  have st2 := (st.trans o s1).trans o s2
  have w12 := (w1.step (m := none) nn s1).step (m := none) nn s2
  have w22 := (w2.step (m := none) nn s1).step (m := none) nn s2
  have t1 := Rl.mono _ _ _ _ s2.gg t1
  have rr2 := Rl.mono _ _ _ _ g2 rr
  have rb2 := Rl.mono _ _ _ _ g2 rb
  cases c with
  | fr l =>
    have rr2 : (Rl.tpl K [rS "free", Rl.ls rS l]).p rv G2 := rr2
    refine wb_if (P := isB false) (jt_flip (jt_eq (je_ixT (je_var 11 rfl rr2) je_int) je_str) (by decide +kernel)) o2 (fun h => by cases h) (fun h G3 H3 s3 o3 => wb_nil (wb_nil ?_))
    refine k G3 H3 _ (g2.trans s3.gg) o3 ⟨st2.trans o s3, _, _, xm, xk, _, _, rfl, Rl.mono _ _ _ _ s3.gg t1, Rl.mono _ _ _ _ s3.gg t2, ?_, ?_⟩
    · show Own pm xm ((marks ++ []).map rS) H G3 H3
      rw [List.append_nil]
      exact w12.step (m := none) nn s3
    · show Own pk xk ((kinds ++ []).map rS) H G3 H3
      rw [List.append_nil]
      exact w22.step (m := none) nn s3
  | tk t =>
    have hc : t.cds.length ≤ 4 := hc
    have rr2 : (Rl.tpl K [rS "take", rS t.src, Rl.ls (rcd K) t.cds]).p rv G2 := rr2
    refine wb_if (P := isB true) (jt_flip (jt_eq (je_ixT (je_var 11 rfl rr2) je_int) je_str) (by decide +kernel)) o2 (fun h G3 H3 s3 o3 => ?_) (fun h => by cases h)
    have rr3 := Rl.mono _ _ _ _ s3.gg rr2
    have st3 := st2.trans o s3
    have w13 := w12.step (m := none) nn s3
    have w23 := w22.step (m := none) nn s3
    refine wb_setLcA (ds := t.cds) (DD := rcd K) (E := fun c => rS (cdSort c)) 12 [("_law_one", 18)] rfl scLasked.nd (blkOk_by rfl) (fun s H C cl fp => pg_name (i := 18) scLasked.nd rfl (.inl rfl))
      (ji_list (je_ixT (je_var 11 rfl rr3) je_int)) (by omega) (lc_name fun x => rfl) ?_ o3 fun v4 G4 H4 s4 o4 t4 => ?_
    · rintro c hc σ2 G9 g9 ⟨y, rfl, ry⟩ s H C cl fp
      exact je_cd0 (je_var 18 rfl ry)
    have t4 : (Rl.ls rS (t.cds.map cdSort)).p v4 G4 := by
      unfold Rl.ls at t4 ⊢
      rw [List.map_map]
      exact t4
    have st4 := st3.trans o s4
    have w14 := w13.step (m := none) nn s4
    have w24 := w23.step (m := none) nn s4
    have rb4 := Rl.mono _ _ _ _ (s3.gg.trans s4.gg) rb2
    have rr4 := Rl.mono _ _ _ _ s4.gg rr3
    have g4 := g2.trans (s3.gg.trans s4.gg)
    have t1' := Rl.mono _ _ _ _ (s3.gg.trans s4.gg) t1
    have t2' := Rl.mono _ _ _ _ (s3.gg.trans s4.gg) t2
    -- behind the marks
    have after : ∀ (G5 H5 : Hp) (xm5 : List V), Stp none G H G5 H5 → Same G4 G5 → Own pm xm5 ((marks ++ mkOf bt (.tk t)).map rS) H G5 H5 → Own pk xk (kinds.map rS) H G5 H5 →
        WB (Xc P w K mg base nLasked "_law_asked" sLasked (He.ga K "_law_asked") cdv A outer s0 H0 E) ((match (forBody ((forBody ((forBody sAskFor).getD 1 (.Pass ⟨0, 0, 0, 0⟩))).getD 0 (.Pass ⟨0, 0, 0, 0⟩))).getD 2 (.Pass ⟨0, 0, 0, 0⟩) with | .If _ th _ _ => th | _ => []).drop 2)
          { D with nx := WB (Xc P w K mg base nLasked "_law_asked" sLasked (He.ga K "_law_asked") cdv A outer s0 H0 E) [] D }
          [some cv, some mv, some fv, some bv, some v1, some v2, some (.ref pm), some (.ref pk), some cu, some bars, some (.str kd), some rv, some v4, none, none, none, none, none, none, none, none, none] H5 := by
      intro G5 H5 xm5 st5 g45 ow1 ow2
      have t45 := Rl.mono _ _ _ _ g45 t4
      refine wb_if (P := isB (t.cds.any cdNum)) (jt_flip (jt_inL (l := t.cds.map cdSort) je_str (je_var 12 rfl t45)) (sorts_num _)) (st5.okm o) (fun h G6 H6 s6 o6 => ?_) (fun h G6 H6 s6 o6 => ?_)
      · have hn : t.cds.any cdNum = true := h.symm
        have st6 := st5.trans o s6
        refine wb_put (m := none) (G0 := G) 7 rfl o st6 (ow2.step (m := none) nn s6) (R := rS kd) (je_v 10) (by rw [List.length_map]; omega) fun v7 G7 H7 st7 g7 w7 kp7 nn7 => wb_nil (wb_nil (wb_nil ?_))
        have ow1' := ow1.step (m := none) nn s6
        refine k G7 H7 _ (((g4.trans g45).trans s6.gg).trans g7) (st7.okm o) ⟨st7, v1, v2, xm5, xk ++ [v7], _, _, rfl, Rl.mono _ _ _ _ ((g45.trans s6.gg).trans g7) t1', Rl.mono _ _ _ _ ((g45.trans s6.gg).trans g7) t2', ⟨ow1'.h0, nn7 pm (by rw [ow1'.h]; exact fun z => nomatch z) ow1'.g, kp7 pm _ npk .no ow1'.h, ow1'.al.mono g7⟩, ?_⟩
        rw [kdOf_tk, if_pos hn, List.map_append]
        exact w7
      · have hn : t.cds.any cdNum = false := h.symm
        refine wb_nil (wb_nil (wb_nil ?_))
        refine k G6 H6 _ ((g4.trans g45).trans s6.gg) o6 ⟨st5.trans o s6, v1, v2, xm5, xk, _, _, rfl, Rl.mono _ _ _ _ (g45.trans s6.gg) t1', Rl.mono _ _ _ _ (g45.trans s6.gg) t2', ow1.step (m := none) nn s6, ?_⟩
        rw [kdOf_tk, if_neg (by rw [hn]; exact Bool.false_ne_true), List.append_nil]
        exact ow2.step (m := none) nn s6
    have etest : (bl.contains "living" || (bl.contains "ever" || ((t.cds.map cdSort).contains "unborne" || (t.cds.map cdSort).contains "never"))) = (bt || t.cds.any cdTrk) := by
      rw [sorts_trk, ← hb, Bool.or_assoc]
    refine wb_if (P := isB (bt || t.cds.any cdTrk)) (jt_flip (jt_w (jw_or (jt_inL (l := bl) je_str (je_var 9 rfl rb4)) fun _ => jw_or (jt_inL (l := bl) je_str (je_var 9 rfl rb4)) fun _ => jw_or (jt_inL (l := t.cds.map cdSort) je_str (je_var 12 rfl t4)) fun _ => jw_or1 (jt_inL (l := t.cds.map cdSort) je_str (je_var 12 rfl t4)))) etest) o4 (fun h G5 H5 s5 o5 => ?_) (fun h G5 H5 s5 o5 => ?_)
    · have hn : (bt || t.cds.any cdTrk) = true := h.symm
      have st5 := st4.trans o s5
      refine wb_put (m := none) (G0 := G) 6 rfl o st5 (w14.step (m := none) nn s5) (R := rS t.src) (je_ixT (je_var 11 rfl (Rl.mono _ _ _ _ s5.gg rr4)) je_int) (by rw [List.length_map]; omega) fun v7 G7 H7 st7 g7 w7 kp7 nn7 => wb_nil ?_
      have ow2' := w24.step (m := none) nn s5
      refine after G7 H7 (xm ++ [v7]) st7 (s5.gg.trans g7) ?_ ⟨ow2'.h0, nn7 pk (by rw [ow2'.h]; exact fun z => nomatch z) ow2'.g, kp7 pk _ (Ne.symm npk) .no ow2'.h, ow2'.al.mono g7⟩
      rw [mkOf_tk, if_pos hn, List.map_append]
      exact w7
    · have hn : (bt || t.cds.any cdTrk) = false := h.symm
      refine wb_nil (after G5 H5 xm (st4.trans o s5) s5.gg ?_ (w24.step (m := none) nn s5))
      rw [mkOf_tk, if_neg (by rw [hn]; exact Bool.false_ne_true), List.append_nil]
      exact w14.step (m := none) nn s5
end
end Nk
namespace Nk
open PySem PySem.Spec PyProof.Rows L2
section
variable {P : Program} {w : World} {K : PySem.W.Frag} {mg : Str → Option Value} {base : Heap}
abbrev rDue (K : PySem.W.Frag) (x : Six) : Rl := Rl.lsl [Rl.tp K rS x.sp, Rl.tp K rS x.dp, Rl.tp K rS x.sl, Rl.tp K rS x.dl, Rl.tp K rS x.tr, Rl.tp K rS x.nu]
structure AskD where
  cs : List Cu
  more : List Str
  further : List Str
  marks : List Str
  houses : Bool
structure AskD.Ok (d : AskD) : Prop where
  cs : csOk d.cs
  ne : 0 < d.cs.length
  n1 : d.more.length ≤ 1000
  n2 : d.further.length ≤ 1000
  n3 : d.marks.length ≤ 1000
  more : ∀ s ∈ d.more, s ∈ srcsL 2
  further : ∀ s ∈ d.further, s ∈ ways13
  marks : ∀ s ∈ d.marks, s ∈ srcsL 2
noncomputable def AskD.six (d : AskD) : Six := Nk.six d.cs d.more d.further d.marks d.houses
def rowsJ (c : Cu) : Nat → List Cl
  | 0 => []
  | 1 => c.s.cls
  | _ => c.s.cls ++ c.d.cls
def kdsJ (c : Cu) : Nat → List Str
  | 0 => []
  | 1 => c.s.cls.flatMap (kdOf "s")
  | _ => c.s.cls.flatMap (kdOf "s") ++ c.d.cls.flatMap (kdOf "d")
theorem cls_len (k : Kl) (h : k.tks.length ≤ 4) : k.cls.length ≤ 5 := by
  rw [Kl.len]
  omega
theorem rowsJ_len {c : Cu} (hc : c.Ok) (j : Nat) : (rowsJ c j).length ≤ 10 ∧ (∀ x ∈ rowsJ c j, clSmall x) ∧ (kdsJ c j).length ≤ 10 := by
  obtain ⟨h1, h2⟩ := cu_small hc
  have h3 := cls_len c.s hc.s.1
  have h4 := cls_len c.d hc.d.1
  have k1 := flat_len (kdOf_len "s") c.s.cls
  have k2 := flat_len (kdOf_len "d") c.d.cls
  match j with
  | 0 => exact ⟨Nat.zero_le _, fun x hx => (by cases hx), Nat.zero_le _⟩
  | 1 => exact ⟨by show c.s.cls.length ≤ 10; omega, fun x hx => h2 x (List.mem_append_left _ hx), by show (c.s.cls.flatMap (kdOf "s")).length ≤ 10; omega⟩
  | j + 2 => exact ⟨h1, h2, by show (c.s.cls.flatMap (kdOf "s") ++ c.d.cls.flatMap (kdOf "d")).length ≤ 10; rw [List.length_append]; omega⟩
theorem gath_len {cs : List Cu} (h : ∀ c ∈ cs, c.Ok) : (cs.flatMap cuMk).length ≤ cs.length * 10 ∧ (cs.flatMap cuKd).length ≤ cs.length * 10 := by
  refine ⟨flat_len' fun c hc => ?_, flat_len' fun c hc => (rowsJ_len (h c hc) 2).2.2⟩
  obtain ⟨h1, h2⟩ := cu_small (h c hc)
  have := flat_len (mkOf_len (cuBt c)) (c.s.cls ++ c.d.cls)
  unfold cuMk
  omega
/-- the loops -/
theorem b_gather (T : Tx K mg) (cdv : Value) (A : Around) (outer : List Env) (s0 : Shared) (H0 : Hp) (E : XK) (hr : Room 3 (A.deeper (envOfC "_law_asked" (defScope sLasked) s0.heap.objs.size (He.ga K "_law_asked") cdv)))
    {G H : Hp} (o : Okm none G H) {cv mv fv bv : V} {pm pk : Addr} (npk : pm ≠ pk) {cs : List Cu} {more further : List Str} (hcs : csOk cs) (l1 : more.length ≤ 1000) (l2 : further.length ≤ 1000) (e1 : (Rl.ls (rcu K) cs).p cv G) {rest : List Stmt} {D : Ends} {G1 H1 : Hp} {σ1 : L2.St} (o1 : Okm none G1 H1)
    (h0 : AskS G H cv mv fv bv pm pk none none none more further [] [] σ1 G1 H1)
    (k : ∀ G2 H2 σ2 a8 a9 a10, Okm none G2 H2 → AskS G H cv mv fv bv pm pk a8 a9 a10 (more ++ allSrcs cs) (further ++ allLives cs) (cs.flatMap cuMk) (cs.flatMap cuKd) σ2 G2 H2 → WB (Xc P w K mg base nLasked "_law_asked" sLasked (He.ga K "_law_asked") cdv A outer s0 H0 E) rest D σ2 H2) :
    WB (Xc P w K mg base nLasked "_law_asked" sLasked (He.ga K "_law_asked") cdv A outer s0 H0 E) (sAskFor :: rest) D σ1 H1 := by
  have h0' := h0
  obtain ⟨st1, sv1, wv1, xm1, xk1, c1, d1, rfl, _⟩ := h0'
  have hc10 := hcs.1
  refine wb_for (fun n σ' G' H' => ∃ a8 a9 a10, AskS G H cv mv fv bv pm pk a8 a9 a10 (more ++ allSrcs (cs.take n)) (further ++ allLives (cs.take n)) ((cs.take n).flatMap cuMk) ((cs.take n).flatMap cuKd) σ' G' H') PassesOwn.never rfl (pg_name (i := 8) scLasked.nd rfl (.inl rfl))
    (ji_list (je_var 0 rfl (Rl.mono _ _ _ _ st1.gg e1))) o1 (fun G2 H2 s2 o2 => ⟨none, none, none, by
      show AskS G H cv mv fv bv pm pk none none none (more ++ []) (further ++ []) [] [] _ G2 H2
      rw [List.append_nil, List.append_nil]
      exact h0.step o s2⟩) ?_ ?_
  · rintro Gc gc n R σ' G' H' x hR gg o' ⟨a8, a9, a10, ha⟩ G2 H2 s2 o2 rx
    rw [List.getElem?_map] at hR
    cases hc : cs[n]? with
    | none =>
      rw [hc] at hR
      cases hR
    | some c =>
      rw [hc] at hR
      cases hR
      have hm := hcs.2 c (List.mem_of_getElem? hc)
      have rx : (rcu K c).p x G2 := rx
      have hl : (cs.take n).length ≤ 10 := Nat.le_trans (List.length_take_le' _ _) hcs.1
      obtain ⟨b1, b2⟩ := allSrcs_len (cs := cs.take n) fun c hc => hcs.2 c (List.mem_of_mem_take hc)
      obtain ⟨b3, b4⟩ := gath_len (cs := cs.take n) fun c hc => hcs.2 c (List.mem_of_mem_take hc)
      have ha2 := ha.step o s2
      obtain ⟨st2, sv2, wv2, xm2, xk2, c2, d2, rfl, t1, t2, w1, w2⟩ := ha2
      have atE : ∀ kl : Kl, atI (kl.cls.map (rcl K)) (-1) = some (Rl.tpl K [rS "free", Rl.ls rS kl.bars]) := fun kl => by
        unfold Kl.cls
        rw [List.map_append]
        exact atI_last
      refine wb_set 9 scLasked.nd (je_catLs (l1 := c.s.bars) (l2 := c.d.bars) (je_ixT (l := [rS "free", Rl.ls rS c.s.bars]) (je_ixL (l := c.s.cls.map (rcl K)) (je_ixT (je_var 8 rfl rx) je_int) (je_neg je_int) (atE c.s)) je_int) (je_ixT (l := [rS "free", Rl.ls rS c.d.bars]) (je_ixL (l := c.d.cls.map (rcl K)) (je_ixT (je_var 8 rfl rx) je_int) (je_neg je_int) (atE c.d)) je_int) (by have := hm.s.2.2.1; have := hm.d.2.2.1; omega)) o2 fun v3 G3 H3 s3 o3 r3 => ?_
      have rx3 := Rl.mono _ _ _ _ s3.gg rx
      refine wb_for (fun j σ' G' H' => Same Gc G' ∧ ∃ a10, AskS G H cv mv fv bv pm pk (some x) (some v3) a10 (more ++ allSrcs (cs.take n) ++ (rowsJ c j).flatMap clSrcs) (further ++ allLives (cs.take n) ++ (rowsJ c j).flatMap clLives) ((cs.take n).flatMap cuMk ++ (rowsJ c j).flatMap (mkOf (cuBt c))) ((cs.take n).flatMap cuKd ++ kdsJ c j) σ' G' H') PassesOwn.never rfl (pg_name (i := 10) scLasked.nd rfl (.inr rfl))
        (ji_tup (je_tup (l := [rS "s", rS "d"]) (ja_cons je_str (ja_cons je_str ja_nil)))) o3 (fun G4 H4 s4 o4 => ⟨((gg.trans s2.gg).trans s3.gg).trans s4.gg, a10, by
          show AskS G H cv mv fv bv pm pk (some x) (some v3) a10 (more ++ allSrcs (cs.take n) ++ []) (further ++ allLives (cs.take n) ++ []) ((cs.take n).flatMap cuMk ++ []) ((cs.take n).flatMap cuKd ++ []) _ G4 H4
          rw [List.append_nil, List.append_nil, List.append_nil, List.append_nil]
          exact AskS.step o (AskS.step o (⟨st2, sv2, wv2, xm2, xk2, c2, d2, rfl, t1, t2, w1, w2⟩ : AskS G H cv mv fv bv pm pk (some x) (some v3) a10 _ _ _ _ _ G2 H2) s3) s4⟩) ?_ ?_
      · rintro Gd gd j R2 σ4 G4 H4 kv hR2 gg2 o4 ⟨gc4, a10', ha4⟩ G5 H5 s5 o5 rk
        have hj : j < 2 := by
          obtain ⟨h, _⟩ := List.getElem?_eq_some_iff.mp hR2
          exact h
        obtain ⟨kd, rows, hk, hrow, hks, rfl⟩ : ∃ (kd : Str) (rows : List Cl), (kd = "s" ∧ rows = c.s.cls ∨ kd = "d" ∧ rows = c.d.cls) ∧ rowsJ c (j + 1) = rowsJ c j ++ rows ∧ kdsJ c (j + 1) = kdsJ c j ++ rows.flatMap (kdOf kd) ∧ kv = .str kd := by
          have : j = 0 ∨ j = 1 := by omega
          rcases this with rfl | rfl
          · cases hR2
            exact ⟨"s", c.s.cls, .inl ⟨rfl, rfl⟩, rfl, rfl, rk⟩
          · cases hR2
            exact ⟨"d", c.d.cls, .inr ⟨rfl, rfl⟩, rfl, rfl, rk⟩
        obtain ⟨z1, z2, z3⟩ := rowsJ_len hm j
        obtain ⟨y1, y2, y3⟩ := rowsJ_len hm (j + 1)
        have q1 := flat_len' (l := rowsJ c j) (f := clSrcs) (n := 9) fun x hx => clSrcs_len (z2 x hx)
        have q2 := flat_len' (l := rowsJ c j) (f := clLives) (n := 9) fun x hx => clLives_len (z2 x hx)
        have q3 := flat_len (mkOf_len (cuBt c)) (rowsJ c j)
        have hrs : rows.length ≤ 10 := by
          rw [hrow, List.length_append] at y1
          omega
        have hrm : ∀ x ∈ rows, clSmall x := fun x hx => y2 x (by rw [hrow]; exact List.mem_append_right _ hx)
        have ha5 := ha4.step o s5
        have rx5 := Rl.mono _ _ _ _ (gd.trans (gg2.trans s5.gg)) rx3
        have r5 := Rl.mono _ _ _ _ (gd.trans (gg2.trans s5.gg)) r3
        obtain ⟨st5, sv5, wv5, xm5, xk5, c5, d5, rfl, t51, t52, w51, w52⟩ := ha5
        refine wb_for (fun l σ' G' H' => Same Gc G' ∧ Same Gd G' ∧ AskS G H cv mv fv bv pm pk (some x) (some v3) (some (.str kd)) ((more ++ allSrcs (cs.take n) ++ (rowsJ c j).flatMap clSrcs) ++ (rows.take l).flatMap clSrcs) ((further ++ allLives (cs.take n) ++ (rowsJ c j).flatMap clLives) ++ (rows.take l).flatMap clLives) (((cs.take n).flatMap cuMk ++ (rowsJ c j).flatMap (mkOf (cuBt c))) ++ (rows.take l).flatMap (mkOf (cuBt c))) (((cs.take n).flatMap cuKd ++ kdsJ c j) ++ (rows.take l).flatMap (kdOf kd)) σ' G' H') PassesOwn.never rfl (pg_name (i := 11) scLasked.nd rfl (.inl rfl))
          (l := rows.map (rcl K)) (ji_list ?_) o5 (fun G6 H6 s6 o6 => ⟨(gc4.trans s5.gg).trans s6.gg, (gg2.trans s5.gg).trans s6.gg, by
            rw [List.take_zero, List.flatMap_nil, List.flatMap_nil, List.flatMap_nil, List.flatMap_nil, List.append_nil, List.append_nil, List.append_nil, List.append_nil]
            exact AskS.step o (⟨st5, sv5, wv5, xm5, xk5, c5, d5, rfl, t51, t52, w51, w52⟩ : AskS G H cv mv fv bv pm pk (some x) (some v3) (some (.str kd)) _ _ _ _ _ G5 H5) s6⟩) ?_ ?_
        · refine je_ifE (R := Rl.ls (rcl K) rows) (jt_eq (je_v 10) je_str) (fun h => ?_) (fun h => ?_)
          · have h := V.str.inj (decide_eq_true_iff.mp h.symm)
            rcases hk with ⟨_, e⟩ | ⟨e2, _⟩
            · rw [e]
              exact je_ixT (je_var 8 rfl rx5) je_int
            · exact absurd (e2.symm.trans h) (by decide +kernel)
          · have h := decide_eq_false_iff_not.mp h.symm
            rcases hk with ⟨e, _⟩ | ⟨_, e⟩
            · exact absurd (by rw [e]) h
            · rw [e]
              exact je_ixT (je_var 8 rfl rx5) je_int
        · rintro Ge ge l R3 σ6 G6 H6 rv hR3 gg3 o6 ⟨gc6, gd6, ha6⟩ G7 H7 s7 o7 rr
          rw [List.getElem?_map] at hR3
          cases hcl : rows[l]? with
          | none =>
            rw [hcl] at hR3
            cases hR3
          | some cl =>
            rw [hcl] at hR3
            cases hR3
            have hsm := hrm cl (List.mem_of_getElem? hcl)
            have ha7 := ha6.step o s7
            obtain ⟨st7, sv7, wv7, xm7, xk7, c7, d7, rfl, t71, t72, w71, w72⟩ := ha7
            have h10 : (rows.take l).length ≤ 10 := Nat.le_trans (List.length_take_le' _ _) hrs
            have p1 := flat_len' (l := rows.take l) (f := clSrcs) (n := 9) fun x hx => clSrcs_len (hrm x (List.mem_of_mem_take hx))
            have p2 := flat_len' (l := rows.take l) (f := clLives) (n := 9) fun x hx => clLives_len (hrm x (List.mem_of_mem_take hx))
            have p3 := flat_len (mkOf_len (cuBt c)) (rows.take l)
            have p4 := flat_len (kdOf_len kd) (rows.take l)
            refine b_row T cdv A outer s0 H0 E hr o npk cl hsm rv st7 t71 t72 w71 w72 (Rl.mono _ _ _ _ ((ge.trans gg3).trans s7.gg) r5) rr (bars_bt c) ?_ ?_ ?_ ?_ fun G8 H8 σ8 g78 o8 ha8 => ⟨G8, (gg3.trans s7.gg).trans g78, o8, (gc6.trans s7.gg).trans g78, (gd6.trans s7.gg).trans g78, ?_⟩
            · rw [List.length_append, List.length_append, List.length_append]
              omega
            · rw [List.length_append, List.length_append, List.length_append]
              omega
            · rw [List.length_append, List.length_append]
              omega
            · rw [List.length_append, List.length_append]
              omega
            · rw [take_flat hcl, take_flat hcl, take_flat hcl, take_flat hcl, ← List.append_assoc, ← List.append_assoc (further ++ allLives (List.take n cs) ++ List.flatMap clLives (rowsJ c j)), ← List.append_assoc (List.flatMap cuMk (List.take n cs) ++ List.flatMap (mkOf (cuBt c)) (rowsJ c j)), ← List.append_assoc (List.flatMap cuKd (List.take n cs) ++ kdsJ c j)]
              exact ha8
        · rintro σ' G9 H9 gg9 o9 ⟨gc9, gd9, ha9⟩
          rw [List.length_map, List.take_length] at ha9
          refine wb_nil ⟨G9, gd9, o9, gc9, some (.str kd), ?_⟩
          rw [hrow, hks, List.flatMap_append, List.flatMap_append, List.flatMap_append, ← List.append_assoc, ← List.append_assoc, ← List.append_assoc, ← List.append_assoc]
          exact ha9
      · rintro σ' G10 H10 gg10 o10 ⟨gc10, a10'', ha10⟩
        refine wb_nil ⟨G10, gc10, o10, some x, some v3, a10'', ?_⟩
        have f1 : allSrcs (cs.take (n + 1)) = allSrcs (cs.take n) ++ (rowsJ c 2).flatMap clSrcs := take_flat hc
        have f2 : allLives (cs.take (n + 1)) = allLives (cs.take n) ++ (rowsJ c 2).flatMap clLives := take_flat hc
        have f3 : (cs.take (n + 1)).flatMap cuMk = (cs.take n).flatMap cuMk ++ (rowsJ c 2).flatMap (mkOf (cuBt c)) := take_flat hc
        have f4 : (cs.take (n + 1)).flatMap cuKd = (cs.take n).flatMap cuKd ++ kdsJ c 2 := take_flat hc
        rw [f1, f2, f3, f4, ← List.append_assoc, ← List.append_assoc]
        exact ha10
  · rintro σ' G' H' gg o' ⟨a8, a9, a10, ha⟩
    rw [List.length_map, List.take_length] at ha
    exact k G' H' σ' a8 a9 a10 o' ha
end
end Nk
namespace Nk
open PySem PySem.Spec PyProof.Rows L2
section
variable {P : Program} {w : World} {K : PySem.W.Frag} {mg : Str → Option Value} {base : Heap}
theorem width_in {cs : List Cu} (h : 0 < cs.length) : (width cs : Int) ∈ cs.map (fun c => (c.house.length : Int)) ∧ ∀ y ∈ cs.map (fun c => (c.house.length : Int)), y ≤ (width cs : Int) := by
  have key : ∀ (l : List Cu) (n : Nat), ((l.foldl (fun n c => max n c.house.length) n = n) ∨ ∃ c ∈ l, c.house.length = l.foldl (fun n c => max n c.house.length) n) ∧ n ≤ l.foldl (fun n c => max n c.house.length) n ∧ ∀ c ∈ l, c.house.length ≤ l.foldl (fun n c => max n c.house.length) n := by
    intro l
    induction l with
    | nil => exact fun n => ⟨.inl rfl, Nat.le_refl _, fun c hc => by cases hc⟩
    | cons c l ih =>
      intro n
      rw [List.foldl_cons]
      obtain ⟨h1, h2, h3⟩ := ih (max n c.house.length)
      refine ⟨?_, by omega, fun x hx => ?_⟩
      · rcases h1 with h1 | ⟨x, hx, e⟩
        · rw [h1]
          by_cases hle : n ≤ c.house.length
          · exact .inr ⟨c, List.mem_cons_self, by omega⟩
          · exact .inl (by omega)
        · exact .inr ⟨x, List.mem_cons_of_mem _ hx, e⟩
      · rcases List.mem_cons.mp hx with rfl | hx
        · omega
        · exact h3 x hx
  obtain ⟨h1, _, h3⟩ := key cs 0
  refine ⟨?_, fun y hy => ?_⟩
  · rw [List.mem_map]
    rcases h1 with h1 | ⟨c, hc, e⟩
    · obtain ⟨c, hc⟩ : ∃ c, c ∈ cs := ⟨cs[0], List.getElem_mem h⟩
      have := h3 c hc
      unfold width
      exact ⟨c, hc, by omega⟩
    · exact ⟨c, hc, by unfold width; rw [e]⟩
  · obtain ⟨c, hc, rfl⟩ := List.mem_map.mp hy
    have := h3 c hc
    unfold width
    omega
theorem k_Lasked (T : Tx K mg) : C8.Cal P w K mg base 4 "_law_asked" (spF AskD.Ok (fun d => [Rl.ls (rcu K) d.cs, Rl.ls rS d.more, Rl.ls rS d.further, Rl.lsl [Rl.ls rS d.marks, rB d.houses]]) fun d => rDue K d.six) [] := by
  obtain ⟨fd, F⟩ := T.F_Lasked
  refine cal_pure F (T.g "_law_asked") (F.bindsN fun _ _ _ _ _ _ us hl => match us, hl with | [_, _, _, _], _ => rfl) scLasked (fun _ => rfl) ?_
  rintro cdv A outer s0 H0 E ⟨cs, more, further, marks, houses⟩ G H vs Q hr hd o al k
  have hcs : csOk cs := hd.cs
  have hne : 0 < cs.length := hd.ne
  have l1 : more.length ≤ 1000 := hd.n1
  have l2 : further.length ≤ 1000 := hd.n2
  have l3 : marks.length ≤ 1000 := hd.n3
  have m1 : ∀ s ∈ more, s ∈ srcsL 2 := hd.more
  have m2 : ∀ s ∈ further, s ∈ ways13 := hd.further
  have m3 : ∀ s ∈ marks, s ∈ srcsL 2 := hd.marks
  have k : ∀ v G' H', Stp none G H G' H' → (rDue K (Nk.six cs more further marks houses)).p v G' → Q v H' := k
  have nn : ∀ {p : Addr}, ∀ h : Hd, none = some h → p ≠ h.a := fun _ e => by cases e
  obtain ⟨cv, mv, fv, bv, rfl, e1, e2, e3, e4⟩ : ∃ v1 v2 v3 v4, vs = [v1, v2, v3, v4] ∧ (Rl.ls (rcu K) cs).p v1 G ∧ (Rl.ls rS more).p v2 G ∧ (Rl.ls rS further).p v3 G ∧ (Rl.lsl [Rl.ls rS marks, rB houses]).p v4 G := by
    cases al with
    | cons a1 al => cases al with
      | cons a2 al =>
        obtain ⟨_, _, rfl, a5, a6⟩ := AlL.two al
        exact ⟨_, _, _, _, rfl, a1, a2, a5, a6⟩
  have hc10 := hcs.1
  have hwid := width_le hcs.2
  refine wb_four (m := none) (G0 := G) (H0 := H) 4 5 6 7 rfl scLasked.nd (je_listL (je_var 1 rfl e2) (T.f "list")) (je_listL (je_var 2 rfl e3) (T.f "list")) o (.refl o) fun sv wv pm pk G1 H1 st1 g1 r1 r2 w1 w2 npk => ?_
  refine b_gather T cdv A outer s0 H0 E hr o npk hcs l1 l2 e1 (st1.okm o) ⟨st1, sv, wv, _, _, none, none, rfl, r1, r2, w1, w2⟩ fun G2 H2 σ2 a8 a9 a10 o2 ha => ?_
  obtain ⟨st2, sv2, wv2, xm, xk, c, d, rfl, t1, t2, w12, w22⟩ := ha
  -- the two lists are told
  obtain ⟨p1, p2, p3⟩ := w12.tell (m := none) (G0 := G) o st2
  have w23 : Own pk xk ((cs.flatMap cuKd).map rS) H (upd G2 pm (.lst xm)) H2 := ⟨w22.h0, by rw [upd_ne (Ne.symm npk)]; exact w22.g, w22.h, w22.al.mono p2⟩
  obtain ⟨q1, q2, q3⟩ := w23.tell (m := none) (G0 := G) o p1
  have g23 := p2.trans q2
  have rm : (Rl.ls rS (cs.flatMap cuMk)).p (.ref pm) (upd (upd G2 pm (.lst xm)) pk (.lst xk)) := Rl.mono _ _ _ _ q2 p3
  have rk : (Rl.ls rS (cs.flatMap cuKd)).p (.ref pk) (upd (upd G2 pm (.lst xm)) pk (.lst xk)) := q3
  generalize upd (upd G2 pm (.lst xm)) pk (.lst xk) = G3 at q1 g23 rm rk
  have o3 := q1.okm o
  have t1 := Rl.mono _ _ _ _ g23 t1
  have t2 := Rl.mono _ _ _ _ g23 t2
  have e43 := Rl.mono _ _ _ _ q1.gg e4
  obtain ⟨b1, b2⟩ := allSrcs_len hcs.2
  obtain ⟨b3, b4⟩ := gath_len hcs.2
  have hsm : ∀ s ∈ (more ++ allSrcs cs) ++ marks, s ∈ srcsL 2 := fun s hs => by
    rcases List.mem_append.mp hs with h | h
    · rcases List.mem_append.mp h with h | h
      · exact m1 s h
      · exact allSrcs_mem hcs.2 s h
    · exact m3 s h
  refine wb_setLcA (ds := (more ++ allSrcs cs) ++ marks) (DD := rS) (E := fun s => rPr K (plc s)) 13 [("_law_source", 19)] rfl scLasked.nd (blkOk_by rfl) (fun s H C cl fp => pg_name (i := 19) scLasked.nd rfl (.inl rfl))
    (ji_list (je_catLs (je_var 4 rfl t1) (je_ixL (l := [Rl.ls rS marks, rB houses]) (je_var 3 rfl e43) je_int) (by rw [List.length_append]; omega))) (by rw [List.length_append, List.length_append]; omega) (lc_name fun x => rfl) ?_ o3 fun v13 G4 H4 s4 o4 r13 => ?_
  · rintro s hs σ2 G9 g9 ⟨y, rfl, ry⟩ _ _ C cl fp
    cases ry
    obtain ⟨⟨f1, f2⟩, _⟩ := src_of (hsm s hs)
    obtain ⟨ch, c1, c2⟩ := hd1_at f2
    have hl : s.length ≤ 1000 := Nat.le_trans f1 (by decide)
    exact je_tup (l := [rS (pkd (hd1 s)), rS (tl1 s)]) (ja_cons (je_call (hd1 s) (k_Lkind T) trivial (ja_cons (R := rS (hd1 s)) (by rw [c2]; exact je_ixS (je_v 19) je_int hl c1) ja_nil) hr) (ja_cons (je_slS (je_v 19) je_int hl) ja_nil))
  have r13 : (Rl.ls (rPr K) (((more ++ allSrcs cs) ++ marks).map plc)).p v13 G4 := by
    unfold Rl.ls at r13 ⊢
    rw [List.map_map]
    exact r13
  have hu0 : ∀ q ∈ ((more ++ allSrcs cs) ++ marks).map plc, q ∈ univ := fun q hq => by
    obtain ⟨s, hs, rfl⟩ := List.mem_map.mp hq
    exact (src_of (hsm s hs)).2
  have hl0 : (((more ++ allSrcs cs) ++ marks).map plc).length ≤ 4000 := by
    rw [List.length_map, List.length_append, List.length_append]
    omega
  have st4 := q1.trans o s4
  have g34 := s4.gg
  -- what comes behind the first pairs
  have after : ∀ (v13 : V) (ax : Option V) (G5 H5 : Hp), Stp none G H G5 H5 → Same G4 G5 → (Rl.ls (rPr K) (firstL cs more marks houses)).p v13 G5 → (firstL cs more marks houses).length ≤ 10000 → (∀ q ∈ firstL cs more marks houses, q ∈ univ) →
      WB (Xc P w K mg base nLasked "_law_asked" sLasked (He.ga K "_law_asked") cdv A outer s0 H0 E) ((defBody sLasked).drop 4) { nx := fun _ H' => Q .non H', rt := Q } [some cv, some mv, some fv, some bv, some sv2, some wv2, some (.ref pm), some (.ref pk), a8, a9, a10, c, d, some v13, ax, none, none, none, none, none, none, none] H5 := by
    intro v13 ax G5 H5 st5 g45 r5 hfl hfu
    have o5 := st5.okm o
    have g35 := g34.trans g45
    have hw : ∀ s ∈ further ++ allLives cs, s ∈ ways13 := fun s hs => by
      rcases List.mem_append.mp hs with h | h
      · exact m2 s h
      · exact allLives_mem hcs.2 s h
    have h13 : ∀ s ∈ ways13, s ∈ srcsL 2 := fun s hs => List.mem_append_left _ hs
    refine wb_set 15 scLasked.nd (R := Rl.ls (rPr K) (lclosed cs (firstL cs more marks houses))) (je_call (cs, firstL cs more marks houses) (k_Lclosed T) ⟨hcs, hfl, hfu⟩ (ja_cons (je_var 0 rfl (Rl.mono _ _ _ _ st5.gg e1)) (ja_cons (je_var 13 rfl r5) ja_nil)) hr) o5 fun v15 G6 H6 s6 o6 r15 => ?_
    refine wb_set 16 scLasked.nd (R := Rl.ls (rPr K) (lclosed [] (lifeL cs further))) (je_call (([] : List Cu), lifeL cs further) (k_Lclosed T) ⟨⟨Nat.zero_le _, fun c hc => (by cases hc)⟩, ?_, ?_⟩ (ja_cons (je_lst (l := []) ja_nil) (ja_cons (je_lsmap (D := rPr K) (f := plc) (je_lcA (ds := further ++ allLives cs) (D := rS) (E := fun s => rPr K (plc s)) [("_law_way", 20)] rfl scLasked.nd (blkOk_by rfl) (fun s H C cl fp => pg_name (i := 20) scLasked.nd rfl (.inl rfl))
      (ji_list (je_var 5 rfl (Rl.mono _ _ _ _ (g35.trans s6.gg) t2))) ?_ (lc_name fun x => rfl) ?_)) ja_nil)) hr) o6 fun v16 G7 H7 s7 o7 r16 => ?_
    · show ((further ++ allLives cs).map plc).length ≤ 10000
      rw [List.length_map, List.length_append]
      omega
    · intro q hq
      obtain ⟨s, hs, rfl⟩ := List.mem_map.mp hq
      exact (src_of (h13 s (hw s hs))).2
    · rw [List.length_append]
      omega
    · rintro s hs σ2 G9 g9 ⟨y, rfl, ry⟩ _ _ C cl fp
      cases ry
      obtain ⟨⟨f1, f2⟩, _⟩ := src_of (h13 s (hw s hs))
      obtain ⟨ch, c1, c2⟩ := hd1_at f2
      have hl : s.length ≤ 1000 := Nat.le_trans f1 (by decide)
      exact je_tup (l := [rS (pkd (hd1 s)), rS (tl1 s)]) (ja_cons (je_call (hd1 s) (k_Lkind T) trivial (ja_cons (R := rS (hd1 s)) (by rw [c2]; exact je_ixS (je_v 20) je_int hl c1) ja_nil) hr) (ja_cons (je_slS (je_v 20) je_int hl) ja_nil))
    have r15 := Rl.mono _ _ _ _ s7.gg r15
    have st7 := (st5.trans o s6).trans o s7
    have g37 := (g35.trans s6.gg).trans s7.gg
    have hu15 : (lclosed cs (firstL cs more marks houses)).all prS = true := prs_univ fun q hq => ((mem_closed hcs.2 hfu q).mp hq).univ hcs.2 hfu
    have hu16 : (lclosed [] (lifeL cs further)).all prS = true := prs_univ fun q hq => by
      have hfu2 : ∀ q ∈ lifeL cs further, q ∈ univ := fun q hq => by
        obtain ⟨s, hs, rfl⟩ := List.mem_map.mp hq
        exact (src_of (h13 s (hw s hs))).2
      exact ((mem_closed (fun c hc => by cases hc) hfu2 q).mp hq).univ (fun c hc => by cases hc) hfu2
    generalize hfr : lclosed cs (firstL cs more marks houses) = fr at r15 hu15
    generalize hlf : lclosed [] (lifeL cs further) = lf at r16 hu16
    have prK : ∀ {k p : Str}, kindOk k → p ∈ places → prS (k, p) = true := fun {k p} hk hp => List.all_eq_true.mp (prs_univ (l := [(k, p)]) fun q h => by rw [List.mem_singleton.mp h]; exact mem_univ.mpr ⟨hk, hp⟩) _ (List.mem_singleton.mpr rfl)
    have kdj : ∀ {j : Nat} {R : Rl} {kv : V} {G : Hp}, ([rS "s", rS "d"] : List Rl)[j]? = some R → R.p kv G → ∃ kd : Str, kindOk kd ∧ (["s", "d"] : List Str)[j]? = some kd ∧ kv = .str kd := fun {j R kv G} hR hk => by
      have hj : j < 2 := by
        obtain ⟨h, _⟩ := List.getElem?_eq_some_iff.mp hR
        exact h
      have : j = 0 ∨ j = 1 := by omega
      rcases this with rfl | rfl
      · cases hR
        exact ⟨"s", .inl rfl, rfl, hk⟩
      · cases hR
        exact ⟨"d", .inr rfl, rfl, hk⟩
    refine wb_new (m := none) (G0 := G) (H0 := H) 17 scLasked.nd (l := []) ja_nil o st7 (Nat.zero_le _) fun pf xf G8 H8 st8 g78 wf8 _ => ?_
    refine wb_for (fun j σ' G' H' => Stp none G H G' H' ∧ Same G8 G' ∧ ∃ xf b10, σ' = [some cv, some mv, some fv, some bv, some sv2, some wv2, some (.ref pm), some (.ref pk), a8, a9, b10, c, d, some v13, ax, some v15, some v16, some (.ref pf), none, none, none, none] ∧ Own pf xf ((((["s", "d"] : List Str).take j).map fun k => Rl.tp K rS (places.filter fun p => fr.contains (k, p)))) H G' H') PassesOwn.never rfl (pg_name (i := 10) scLasked.nd rfl (.inr rfl))
      (ji_tup (je_tup (l := [rS "s", rS "d"]) (ja_cons je_str (ja_cons je_str ja_nil)))) (st8.okm o) (fun G9 H9 s9 o9 => ⟨st8.trans o s9, s9.gg, xf, _, rfl, wf8.step (m := none) nn s9⟩) ?_ ?_
    · rintro Gd gd j R2 σ4 G9 H9 kv hR2 gg2 o9 ⟨st9, g89, xf9, b10, rfl, wf9⟩ G10 H10 s10 o10 rk0
      obtain ⟨kd, hk, hkj, rfl⟩ := kdj hR2 rk0
      have st10 := st9.trans o s10
      refine wb_put (m := none) (G0 := G) 17 rfl o st10 (wf9.step (m := none) nn s10) (R := Rl.tp K rS (places.filter fun p => fr.contains (kd, p))) (je_tupleL (je_lc (ds := places) (D := rS) (E := rS) (f := fun p => fr.contains (kd, p)) [("_law_place", 21)] rfl scLasked.nd (blkOk_by rfl) (fun s H C cl fp => pg_name (i := 21) scLasked.nd rfl (.inl rfl))
        (ji_list (JE.cast (je_catLs (D := rS) (l1 := wFound 0 3) (l2 := dots) (je_call (0, 2) (k_Lways T) ⟨by decide, by decide⟩ (ja_cons je_int (ja_cons je_int ja_nil)) hr) (je_lst (l := [rS ".0", rS ".1"]) (ja_cons je_str (ja_cons je_str ja_nil))) (by decide +kernel)) (by rw [wFound02] <;> rfl))) (by decide +kernel) (lc_name fun x => rfl) ?_ ?_) (T.f "tuple")) (by rw [List.length_map]; exact Nat.le_trans (List.length_take_le' _ _) (by decide)) fun v11 G11 H11 st11 g11 w11 _ _ => wb_nil ?_
      · rintro p hp σ5 G12 g12 ⟨y, rfl, ry⟩ s H C cl fp
        cases ry
        exact jts_one (jt_inP (X := Bk _ _ s H C cl fp) (k := 3) hr (prK hk hp) hu15 (je_tup (l := [rS kd, rS p]) (ja_cons (je_v 10) (ja_cons (je_v 21) ja_nil))) (je_var 15 rfl (Rl.mono _ _ _ _ ((((g78.trans g89).trans s10.gg).trans g12)) r15)))
      · rintro p hp hf σ5 G12 g12 ⟨y, rfl, ry⟩ s H C cl fp
        exact je_var 21 rfl ry
      · refine ⟨G11, (gg2.trans s10.gg).trans g11, st11.okm o, st11, (g89.trans s10.gg).trans g11, xf9 ++ [v11], _, rfl, ?_⟩
        rw [List.take_add_one, hkj, List.map_append]
        exact w11
    · rintro σ' G9 H9 gg9 o9 ⟨st9, g89, xf9, b10, rfl, wf9⟩
      have wf9 : Own pf xf9 [Rl.tp K rS (places.filter fun p => fr.contains ("s", p)), Rl.tp K rS (places.filter fun p => fr.contains ("d", p))] H G9 H9 := wf9
      refine wb_for (fun j σ' G' H' => Stp none G H G' H' ∧ Same G9 G' ∧ ∃ xf b10, σ' = [some cv, some mv, some fv, some bv, some sv2, some wv2, some (.ref pm), some (.ref pk), a8, a9, b10, c, d, some v13, ax, some v15, some v16, some (.ref pf), none, none, none, none] ∧ Own pf xf ([Rl.tp K rS (places.filter fun p => fr.contains ("s", p)), Rl.tp K rS (places.filter fun p => fr.contains ("d", p))] ++ (((["s", "d"] : List Str).take j).map fun k => Rl.tp K rS (ways12.filter fun p => lf.contains (k, p)))) H G' H') PassesOwn.never rfl (pg_name (i := 10) scLasked.nd rfl (.inr rfl))
        (ji_tup (je_tup (l := [rS "s", rS "d"]) (ja_cons je_str (ja_cons je_str ja_nil)))) o9 (fun G10 H10 s10 o10 => ⟨st9.trans o s10, s10.gg, xf9, _, rfl, by rw [List.take_zero, List.map_nil, List.append_nil]; exact wf9.step (m := none) nn s10⟩) ?_ ?_
      · rintro Gd gd j R2 σ4 G10 H10 kv hR2 gg2 o10 ⟨st10, g910, xf10, b11, rfl, wf10⟩ G11 H11 s11 o11 rk0
        obtain ⟨kd, hk, hkj, rfl⟩ := kdj hR2 rk0
        have st11 := st10.trans o s11
        have hj2 : ((["s", "d"] : List Str).take j).length ≤ 2 := List.length_take_le' _ _
        refine wb_put (m := none) (G0 := G) 17 rfl o st11 (wf10.step (m := none) nn s11) (R := Rl.tp K rS (ways12.filter fun p => lf.contains (kd, p))) (je_tupleL (je_lc (ds := ways12) (D := rS) (E := rS) (f := fun p => lf.contains (kd, p)) [("_law_way", 20)] rfl scLasked.nd (blkOk_by rfl) (fun s H C cl fp => pg_name (i := 20) scLasked.nd rfl (.inl rfl))
          (ji_list (JE.cast (je_call (1, 2) (k_Lways T) ⟨by decide, by decide⟩ (ja_cons je_int (ja_cons je_int ja_nil)) hr) (show Rl.ls rS (wFound 1 3) = Rl.ls rS ways12 by rw [wFound12]))) (by decide +kernel) (lc_name fun x => rfl) ?_ ?_) (T.f "tuple")) (by rw [List.length_append, List.length_map]; show 2 + _ ≤ _; omega) fun v11 G12 H12 st12 g12 w12 _ _ => wb_nil ?_
        · rintro p hp σ5 G13 g13 ⟨y, rfl, ry⟩ s H C cl fp
          cases ry
          exact jts_one (jt_inP (X := Bk _ _ s H C cl fp) (k := 3) hr (prK hk (List.mem_append_left _ (List.mem_append_right _ hp))) hu16 (je_tup (l := [rS kd, rS p]) (ja_cons (je_v 10) (ja_cons (je_v 20) ja_nil))) (je_var 16 rfl (Rl.mono _ _ _ _ ((((g78.trans g89).trans g910).trans s11.gg).trans g13) r16)))
        · rintro p hp hf σ5 G13 g13 ⟨y, rfl, ry⟩ s H C cl fp
          exact je_var 20 rfl ry
        · refine ⟨G12, (gg2.trans s11.gg).trans g12, st12.okm o, st12, (g910.trans s11.gg).trans g12, xf10 ++ [v11], _, rfl, ?_⟩
          rw [List.take_add_one, hkj, List.map_append, ← List.append_assoc]
          exact w12
      · rintro σ' G10 H10 gg10 o10 ⟨st10, g910, xf10, b11, rfl, wf10⟩
        have wf10 : Own pf xf10 [Rl.tp K rS (places.filter fun p => fr.contains ("s", p)), Rl.tp K rS (places.filter fun p => fr.contains ("d", p)), Rl.tp K rS (ways12.filter fun p => lf.contains ("s", p)), Rl.tp K rS (ways12.filter fun p => lf.contains ("d", p))] H G10 H10 := wf10
        have g310 := ((g37.trans g78).trans g89).trans g910
        refine wb_put (m := none) (G0 := G) 17 rfl o st10 wf10 (R := Rl.tp K rS (order.filter fun x => (cs.flatMap cuMk ++ marks).contains x)) (je_tupleL (je_lc (ds := order) (D := rS) (E := rS) (f := fun x => (cs.flatMap cuMk ++ marks).contains x) [("_law_source", 19)] rfl scLasked.nd (blkOk_by rfl) (fun s H C cl fp => pg_name (i := 19) scLasked.nd rfl (.inl rfl))
          (ji_list (JE.cast (je_catLs (D := rS) (l1 := wFound 1 4) (l2 := (["f.0", "f.1", "m.0", "m.1"] : List Str)) (je_call (1, 3) (k_Lways T) ⟨by decide, by decide⟩ (ja_cons je_int (ja_cons je_int ja_nil)) hr) (je_lst (l := [rS "f.0", rS "f.1", rS "m.0", rS "m.1"]) (ja_cons je_str (ja_cons je_str (ja_cons je_str (ja_cons je_str ja_nil))))) (by decide +kernel)) (by rw [order_row]))) (by decide +kernel) (lc_name fun x => rfl) ?_ ?_) (T.f "tuple")) (Nat.le_of_ble_eq_true rfl) fun v12 G12 H12 st12 g12 w12' _ _ => ?_
        · rintro p hp σ5 G13 g13 ⟨y, rfl, ry⟩ s H C cl fp
          cases ry
          exact jts_one (jt_inL (l := cs.flatMap cuMk ++ marks) (je_v 19) (je_catLs (je_var 6 rfl (Rl.mono _ _ _ _ (g310.trans g13) rm)) (je_ixL (l := [Rl.ls rS marks, rB houses]) (je_var 3 rfl (Rl.mono _ _ _ _ (g310.trans g13) e43)) je_int) (by omega)))
        · rintro p hp hf σ5 G13 g13 ⟨y, rfl, ry⟩ s H C cl fp
          exact je_var 19 rfl ry
        refine wb_put (m := none) (G0 := G) 17 rfl o st12 w12' (R := Rl.tp K rS ((["s", "d"] : List Str).filter fun k => (cs.flatMap cuKd).contains k)) (je_tupleL (je_lc (ds := (["s", "d"] : List Str)) (D := rS) (E := rS) (f := fun k => (cs.flatMap cuKd).contains k) [("_law_kind_here", 10)] rfl scLasked.nd (blkOk_by rfl) (fun s H C cl fp => pg_name (i := 10) scLasked.nd rfl (.inl rfl))
          (ji_tup (je_tup (l := [rS "s", rS "d"]) (ja_cons je_str (ja_cons je_str ja_nil)))) (by decide) (lc_name fun x => rfl) ?_ ?_) (T.f "tuple")) (Nat.le_of_ble_eq_true rfl) fun v14 G14 H14 st14 g14 w14 _ _ => ?_
        · rintro p hp σ5 G13 g13 ⟨y, rfl, ry⟩ s H C cl fp
          cases ry
          exact jts_one (jt_inL (l := cs.flatMap cuKd) (je_v 10) (je_var 7 rfl (Rl.mono _ _ _ _ ((g310.trans g12).trans g13) rk)))
        · rintro p hp hf σ5 G13 g13 ⟨y, rfl, ry⟩ s H C cl fp
          exact je_var 10 rfl ry
        obtain ⟨z1, z2, z3⟩ := w14.tell (m := none) (G0 := G) o st14
        refine wb_ret (R := rDue K (Nk.six cs more further marks houses)) (je_var 17 rfl ?_) (z1.okm o) fun v G15 H15 s15 r => k v G15 H15 (z1.trans o s15) r
        have ek : (["s", "d"] : List Str).filter (fun k => (cs.flatMap cuKd).contains k) = (["s", "d"] : List Str).filter fun k => cs.any fun c => klNum (c.kl k) := List.filter_congr fun k hk => kinds_eq cs k hk
        have em : cs.flatMap cuMk = allTrk cs := by
          unfold allTrk
          congr 1
          funext c
          exact cuMk_eq c
        rw [ek, em] at z3
        have e : Nk.six cs more further marks houses = ⟨places.filter fun p => fr.contains ("s", p), places.filter fun p => fr.contains ("d", p), ways12.filter fun p => lf.contains ("s", p), ways12.filter fun p => lf.contains ("d", p), order.filter fun x => (allTrk cs ++ marks).contains x, (["s", "d"] : List Str).filter fun k => cs.any fun c => klNum (c.kl k)⟩ := by
          rw [← hfr, ← hlf]
          unfold Nk.six
          exact Eq.refl _
        rw [e]
        exact z3
  have e44 := Rl.mono _ _ _ _ g34 e43
  cases houses with
  | false =>
    refine wb_if (P := isB false) (jt_val (je_ixL (l := [Rl.ls rS marks, rB false]) (je_var 3 rfl e44) je_int)) o4 (fun h => by cases h) (fun h G5 H5 s5 o5 => ?_)
    have ef : firstL cs more marks false = ((more ++ allSrcs cs) ++ marks).map plc := by
      unfold firstL
      rw [if_neg Bool.false_ne_true, List.append_nil]
    refine wb_nil (after v13 none G5 H5 (st4.trans o s5) s5.gg ?_ ?_ ?_)
    · rw [ef]
      exact Rl.mono _ _ _ _ s5.gg r13
    · rw [ef]
      omega
    · rw [ef]
      exact hu0
  | true =>
    refine wb_if (P := isB true) (jt_val (je_ixL (l := [Rl.ls rS marks, rB true]) (je_var 3 rfl e44) je_int)) o4 (fun h G5 H5 s5 o5 => ?_) (fun h => by cases h)
    obtain ⟨wi, wm⟩ := width_in hne
    refine wb_for (fun i σ' G' H' => Stp none G H G' H' ∧ Same G4 G' ∧ ∃ v13 ax, σ' = [some cv, some mv, some fv, some bv, some sv2, some wv2, some (.ref pm), some (.ref pk), a8, a9, a10, c, d, some v13, ax, none, none, none, none, none, none, none] ∧ (Rl.ls (rPr K) (((more ++ allSrcs cs) ++ marks).map plc ++ houseP i)).p v13 G') PassesOwn.never rfl (pg_name (i := 14) scLasked.nd rfl (.inl rfl))
      (ji_range (n := width cs) (je_maxL (ns := cs.map fun c => (c.house.length : Int)) rfl (je_lsmap (D := rI) (f := fun c : Cu => (c.house.length : Int)) (je_lcA (ds := cs) (D := rcu K) (E := fun c => rI (c.house.length : Int)) [("_law_custom_here", 8)] rfl scLasked.nd (blkOk_by rfl) (fun s H C cl fp => pg_name (i := 8) scLasked.nd rfl (.inl rfl))
        (ji_list (je_var 0 rfl (Rl.mono _ _ _ _ (st4.gg.trans s5.gg) e1))) (by omega) (lc_name fun x => rfl) ?_)) wi wm (T.f "max")) (by omega) (T.f "range")) o5
      (fun G6 H6 s6 o6 => ⟨(st4.trans o s5).trans o s6, s5.gg.trans s6.gg, v13, _, rfl, by
        show (Rl.ls (rPr K) (_ ++ [])).p v13 G6
        rw [List.append_nil]
        exact Rl.mono _ _ _ _ (s5.gg.trans s6.gg) r13⟩) ?_ ?_
    · rintro c hc σ2 G9 g9 ⟨y, rfl, ry⟩ _ _ C cl fp
      exact je_lenLs (ds := c.house) (D := rHr K) (je_ixT (je_var 8 rfl ry) je_int) (T.f "len")
    · rintro Gc gc i R σ' G' H' x hR gg o' ⟨st, g1', v, a, rfl, rv⟩ G5 H5 s5 o5 rx
      have hi : i < width cs := by
        obtain ⟨h, _⟩ := List.getElem?_eq_some_iff.mp hR
        rw [List.length_map, List.length_range] at h
        exact h
      rw [List.getElem?_map, List.getElem?_range hi] at hR
      cases hR
      cases rx
      obtain ⟨z1, z2⟩ := len_ofInt' (j := i) (by omega)
      have hpl := houseP_len i
      have jd : ∀ {σ : L2.St} {G : Hp} {pa pb pc pd : Pos} {j1 : Nat}, σ[14]? = some (some (.int i)) → JE none (Xc P w K mg base nLasked "_law_asked" sLasked (He.ga K "_law_asked") cdv A outer s0 H0 E) (.BinOp (.Constant (.str ".") j1 pa) .Add (.Call (.Name "str" pb) [.Name "_law_at" pc] [] pd) pa) σ G (rS (dot i)) := fun hσ =>
        je_cat je_str (je_strI (je_v 14 hσ) z2 (T.f "str")) (Nat.le_trans (Nat.add_le_add (show ("." : Str).length ≤ 1 by decide +kernel) z1) (by decide))
      refine wb_set 13 scLasked.nd (je_catLs (l2 := [(("s" : Str), dot i), (("d" : Str), dot i)]) (je_var 13 rfl (Rl.mono _ _ _ _ s5.gg rv)) (je_lst (l := [rPr K ("s", dot i), rPr K ("d", dot i)]) (ja_cons (je_tup (l := [rS "s", rS (dot i)]) (ja_cons je_str (ja_cons (je_cat je_str (je_strI (je_v 14) z2 (T.f "str")) (Nat.le_trans (Nat.add_le_add (show ("." : Str).length ≤ 1 by decide +kernel) z1) (by decide))) ja_nil))) (ja_cons (je_tup (l := [rS "d", rS (dot i)]) (ja_cons je_str (ja_cons (je_cat je_str (je_strI (je_v 14) z2 (T.f "str")) (Nat.le_trans (Nat.add_le_add (show ("." : Str).length ≤ 1 by decide +kernel) z1) (by decide))) ja_nil))) ja_nil))) ?_) o5 fun v6' G6 H6 s6 o6 r6' => wb_nil ?_
      · rw [List.length_append, hpl]
        show _ + 2 ≤ _
        omega
      · refine ⟨G6, (gg.trans s5.gg).trans s6.gg, o6, (st.trans o s5).trans o s6, (g1'.trans s5.gg).trans s6.gg, v6', _, rfl, ?_⟩
        rw [houseP_succ, ← List.append_assoc]
        exact r6'
    · rintro σ' G' H' gg o' ⟨st, g1', v, a, rfl, rv⟩
      rw [List.length_map, List.length_range] at rv
      have hpl := houseP_len (width cs)
      have ef : firstL cs more marks true = ((more ++ allSrcs cs) ++ marks).map plc ++ houseP (width cs) := by
        unfold firstL
        rw [if_pos rfl]
      refine wb_nil (after v a G' H' st g1' ?_ ?_ ?_)
      · rw [ef]
        exact rv
      · rw [ef, List.length_append, hpl]
        omega
      · rw [ef]
        intro q hq
        rcases List.mem_append.mp hq with h | h
        · exact hu0 q h
        · exact houseP_univ hwid q h
end
end Nk
namespace Nk
open PySem PySem.Spec PyProof.Rows L2
/-! ### the law's numbers -/
def mixO (n t : Int) : Int := (n * 48271 + t * 16807 + 11) % 2147483647
def mixT (n t : Int) : Int := (mixO n t * mixO n t + mixO n t / 127 * 40692 + t * 69621) % 2147483399
def mixV (n t : Int) : Int := (mixT n t * mixT n t / 1009 + mixO n t) % 2147483563 / 16
theorem mixV_nn (n t : Int) : 0 ≤ mixV n t := by
  unfold mixV
  exact Int.ediv_nonneg (Int.emod_nonneg _ (by decide)) (by decide)
section
variable {P : Program} {w : World} {K : PySem.W.Frag} {mg : Str → Option Value} {base : Heap}
theorem k_Lmix (T : Tx K mg) : C8.Cal P w K mg base 1 "_law_mix" (spF (fun _ : Int × Int => True) (fun d => [rI d.1, rI d.2]) fun d => rI (mixV d.1 d.2)) [] := by
  obtain ⟨fd, F⟩ := T.F_Lmix
  refine cal_pure F (T.g "_law_mix") (F.bindsN fun _ _ _ _ _ _ us hl => match us, hl with | [_, _], _ => rfl) scLmix (fun _ => rfl) ?_
  rintro cdv A outer s0 H0 E ⟨n, t⟩ G H vs Q hr _ o al k
  have k : ∀ v G' H', Stp none G H G' H' → (rI (mixV n t)).p v G' → Q v H' := k
  obtain ⟨_, _, rfl, e1, e2⟩ := AlL.two al
  cases e1; cases e2
  have hO : 0 ≤ mixO n t ∧ mixO n t < 2147483647 := ⟨Int.emod_nonneg _ (by decide), Int.emod_lt_of_pos _ (by decide)⟩
  have hT : 0 ≤ mixT n t ∧ mixT n t < 2147483399 := ⟨Int.emod_nonneg _ (by decide), Int.emod_lt_of_pos _ (by decide)⟩
  refine wb_set 2 scLmix.nd (R := rI (mixO n t)) (je_mod (je_intI (je_add (je_add (je_mul (je_v 0) je_int (.inr (by decide))) (je_mul (je_v 1) je_int (.inr (by decide)))) je_int) (T.f "int")) je_int (by decide)) o fun v1 G1 H1 s1 o1 r1 => ?_
  cases r1
  refine wb_set 3 scLmix.nd (R := rI (mixT n t)) (je_mod (je_intI (je_add (je_add (je_mul (je_v 2) (je_v 2) (.inl (by omega))) (je_mul (je_div (je_v 2) je_int ⟨by decide, by decide⟩) je_int (.inr (by decide)))) (je_mul (je_v 1) je_int (.inr (by decide)))) (T.f "int")) je_int (by decide)) o1 fun v2 G2 H2 s2 o2 r2 => ?_
  cases r2
  exact wb_ret (R := rI (mixV n t)) (je_div (je_mod (je_intI (je_add (je_div (je_mul (je_v 3) (je_v 3) (.inl (by omega))) je_int ⟨by decide, by decide⟩) (je_v 2)) (T.f "int")) je_int (by decide)) je_int ⟨by decide, by decide⟩) o2 fun v G3 H3 s3 r => k v G3 H3 ((s1.trans o s2).trans o s3) r
end
end Nk
namespace Nk
open PySem PySem.Spec PyProof.Rows L2
/-! ### drawing -/
/-- a drawing def's promise: its first argument is the hand -/
def spD {α : Type} (pre : α → Prop) (args : α → List Rl) (B : α → Rl) : Sp := fun vs H Q _ => ∃ (d : α) (h : Hd) (G : Hp) (ws : List V), vs = .ref h.a :: ws ∧ Okm (some h) G H ∧ pre d ∧ AlL (args d) ws G ∧ ∀ v G' H', Stp (some h) G H G' H' → (B d).p v G' → Q v H'
theorem spD_len {α : Type} {pre : α → Prop} {args : α → List Rl} {B : α → Rl} {n : Nat} (h : ∀ d, (args d).length + 1 = n) : ∀ vs H Q E, spD pre args B vs H Q E → vs.length = n := by
  rintro vs H Q E ⟨d, _, G, ws, rfl, _, _, al, _⟩
  rw [List.length_cons, al.len, h]
section
variable {P : Program} {w : World} {K : PySem.W.Frag} {mg : Str → Option Value} {base : Heap}
theorem cal_draw {α : Type} {pre : α → Prop} {args : α → List Rl} {B : α → Rl} {x : Str} {st : Stmt} {f : Addr} {fd : FuncData} {N ps : List Str} {k : Nat} (F : FunD K x x (defArgs st) (defBody st) (defScope st) [] [] f fd) (hm : mg x = some (.ref f)) (b : Binds K fd ps []) (S : FnScope N ps (defScope st)) (hl : ∀ d, (args d).length + 1 = ps.length)
    (body : ∀ (cdv : Value) (A : Around) (outer : List Env) (s : Shared) (H0 : Hp) (E : XK) (d : α) (h : Hd) (G H : Hp) (ws : List V) (Q : VK), Room k (A.deeper (envOfC x (defScope st) s.heap.objs.size f cdv)) → pre d → Okm (some h) G H → AlL (args d) ws G → (∀ v G' H', Stp (some h) G H G' H' → (B d).p v G' → Q v H') →
      WB (Xc P w K mg base N x st f cdv A outer s H0 E) (defBody st) { nx := fun _ H' => Q .non H', rt := Q } (start N (.ref h.a :: ws)) H) : C8.Cal P w K mg base (k + 1) x (spD pre args B) [] :=
  ⟨f, fd, ps, [], F.ok S (spD_len hl) (fun cdv A outer s H vs Q E hr ⟨d, h, G, ws, e, o, hp, al, kk⟩ => ⟨_, (pB (X := Xc P w K mg base N x st f cdv A outer s H E)).nox, by
    subst e
    exact body cdv A outer s H E d h G H ws Q hr hp o al kk⟩), hm, F.kp, b, .nil⟩
end
section
variable {X : Cx} {e : Expr} {es : List Expr} {σ : L2.St} {G H : Hp} {R : Rl} {pos p0 pn : Pos} {x nm : Str} {rest : List Stmt} {D : Ends} {h : Hd}
theorem je_draw {α : Type} {pre : α → Prop} {args : α → List Rl} {B : α → Rl} {k j : Nat} (d : α) (c : C8.Cal X.prog X.w X.K X.mg X.base k x (spD pre args B) []) (hp : pre d) (i : Nat) (ha : JA (some h) X es σ G (args d)) (hr : Room j X.A) (hσ : σ[i]? = some (some (.ref h.a)) := by rfl) (hk : k ≤ j := by decide) (hg : Gl X x := by rfl)
    (hN : X.N[i]? = some nm := by rfl) (hv : Vis X.env.scope nm := by first | exact Or.inl rfl | exact Or.inr (Or.inl rfl) | exact Or.inr (Or.inr rfl)) (hd1 : (nm == ("__debug__" : Str)) = false := by decide) (hcd : (nm == ("__classdict__" : Str)) = false := by decide)
    (hdb : (x == ("__debug__" : Str)) = false := by decide) (he : starEach (.Name nm pn :: es) X.env = (false, eval (.Name nm pn) X.env) :: starEach es X.env := by rfl) (hpl : (backTo pos (starEach es X.env)).any (·.1) = false := by rfl) : JE (some h) X (.Call (.Name x p0) (.Name nm pn :: es) [] pos) σ G (B d) := fun G1 H1 z o Q kk =>
  eP (C8.pe_c c hr hk hg (pa_cons (pe_var hN hv hd1 hcd) pA he) hdb he hpl) ⟨.ref h.a, hσ, ha G1 H1 z o _ fun ws G2 H2 s2 r2 => by
    refine ⟨d, h, G2, ws, by rw [List.append_nil], s2.okm o, hp, r2, fun v G' H' s3 b => kk v G' H' (s2.trans o s3) b⟩⟩
/-- p[k] = e of a list in hand -/
theorem wb_store (i : Nat) {kk : Int} {jj j : Nat} {p : Addr} {xs : List V} {p1 p2 : Pos} (hσ : σ[i]? = some (some (.ref p))) (hp : H p = some (.lst xs)) (he : JE none X e σ H R) (hj : ixN xs.length kk = some j) (k : ∀ v G' H', Stp none H H G' H' → R.p v G' → WB X rest D σ (upd H' p (.lst (xs.set j v))))
    (hN : X.N[i]? = some nm := by rfl) (hv : Vis X.env.scope nm := by first | exact Or.inl rfl | exact Or.inr (Or.inl rfl) | exact Or.inr (Or.inr rfl)) (hd1 : (nm == ("__debug__" : Str)) = false := by decide) (hcd : (nm == ("__classdict__" : Str)) = false := by decide)
    (hs : swapsWithSole [.Subscript (.Name nm pn) (.Constant (.int kk) jj p1) p2] e pos.line X.env = pure false := by rfl) (hw : swappedStores [.Subscript (.Name nm pn) (.Constant (.int kk) jj p1) p2] e X.env = pure none := by rfl)
    (h1 : (assignEach [.Subscript (.Name nm pn) (.Constant (.int kk) jj p1) p2] X.env).map (·.2) = [assign (.Subscript (.Name nm pn) (.Constant (.int kk) jj p1) p2) X.env] := by rfl)
    (ha : ∀ v, assign (.Subscript (.Name nm pn) (.Constant (.int kk) jj p1) p2) X.env v = (do
      let ov ← holding [v] (eval (.Name nm pn) X.env)
      let iv ← holding [v, ov] (eval (.Constant (.int kk) jj p1) X.env)
      standAt p2
      holding [v, ov, iv] (setItem ov iv v)
      release [v, ov, iv] []) := by intro _; rfl) : WB X (.Assign [.Subscript (.Name nm pn) (.Constant (.int kk) jj p1) p2] e pos :: rest) D σ H :=
  wb_step (ps_asg pE (pg_sub (pe_var hN hv hd1 hcd) pe_int set_list ha) hs hw h1) (he H H (Same.refl H) (.of (Same.refl H)) _ fun v G' H' s r => ⟨.ref p, hσ, p, xs, kk, j, rfl, rfl, s.same _ _ hp, hj, k v G' H' s r⟩)
end
/-- the hand as it stands, seen from where the def began -/
structure DrS (h : Hd) (H0 : Hp) (i r t : Int) (H : Hp) : Prop where
  kp : ∀ p o, p ≠ h.a → H0 p = some o → H p = some o
  a : H h.a = some (.lst [.ref h.c, .int i, .int r, .int t])
  c : H h.c = some (.lst (h.ns.map V.int))
  i0 : 0 ≤ i
  i1 : i ≤ 63
  r0 : 0 ≤ r
  t0 : 0 ≤ t
  t1 : t < 2147483629
theorem DrS.stp {h : Hd} {G H0 H : Hp} {i r t : Int} (o : Okm (some h) G H0) (d : DrS h H0 i r t H) : Stp (some h) G H0 G H := by
  obtain ⟨g, hd⟩ := o.2 h rfl
  obtain ⟨i', r', t', h1, h2, h3, h4, _⟩ := hd
  refine ⟨Same.refl G, fun p u q => d.kp p u (fun e => ?_) (o.1 _ _ q), fun p u f q => d.kp p u (f h rfl) q, fun _ _ => rfl, fun h' e _ => ?_⟩
  · rw [e, g] at q
    cases q
  · cases e
    exact ⟨i, r, t, d.a, d.c, h3, h4, d.i0, d.i1, d.r0, d.t0, d.t1⟩
theorem DrS.same {h : Hd} {H0 H H' : Hp} {i r t : Int} (d : DrS h H0 i r t H) (s : Same H H') : DrS h H0 i r t H' := ⟨fun p o n q => s _ _ (d.kp p o n q), s _ _ d.a, s _ _ d.c, d.i0, d.i1, d.r0, d.t0, d.t1⟩
theorem DrS.told {h : Hd} {H0 H : Hp} {i r t : Int} (d : DrS h H0 i r t H) : (Rl.lsl [Rl.ls rI h.ns, rI i, rI r, rI t]).p (.ref h.a) H :=
  ⟨h.a, _, rfl, d.a, .cons ⟨h.c, _, rfl, d.c, AlL.ofVals V.int H h.ns⟩ (.cons rfl (.cons rfl (.cons rfl .nil)))⟩
theorem DrS.ne {h : Hd} {H0 H : Hp} {i r t : Int} (d : DrS h H0 i r t H) : h.c ≠ h.a := fun e => by
  have h1 := d.a
  have h2 := d.c
  rw [e, h1] at h2
  have h3 : [V.ref h.c, .int i, .int r, .int t] = h.ns.map V.int := by
    injection h2 with h2
    injection h2
  cases hn : h.ns with
  | nil =>
    rw [hn] at h3
    cases h3
  | cons x l =>
    rw [hn] at h3
    cases h3
end Nk
namespace Nk
open PySem PySem.Spec PyProof.Rows L2
/-- an int under n -/
def rUn (n : Nat) : Rl := Rl.ex fun j : Nat => Rl.pr (j < n) (rI j)
theorem DrS.put {h : Hd} {H0 H : Hp} {i r t i' r' t' : Int} (d : DrS h H0 i r t H) (h1 : 0 ≤ i') (h2 : i' ≤ 63) (h3 : 0 ≤ r') (h4 : 0 ≤ t') (h5 : t' < 2147483629) : DrS h H0 i' r' t' (upd H h.a (.lst [.ref h.c, .int i', .int r', .int t'])) :=
  ⟨fun p o n q => by rw [upd_ne n]; exact d.kp p o n q, upd_same, by rw [upd_ne d.ne]; exact d.c, h1, h2, h3, h4, h5⟩
theorem un_of {n : Nat} {x : Int} (hn : 1 ≤ n) {v : V} {G : Hp} (h : (rI (x % (n : Int))).p v G) : (rUn n).p v G := by
  have h1 : 0 ≤ x % (n : Int) := Int.emod_nonneg _ (by omega)
  have h2 : x % (n : Int) < (n : Int) := Int.emod_lt_of_pos _ (by omega)
  refine ⟨(x % (n : Int)).toNat, by omega, ?_⟩
  have e : (((x % (n : Int)).toNat : Nat) : Int) = x % (n : Int) := by omega
  show v = V.int _
  rw [e]
  exact h
section
variable {P : Program} {w : World} {K : PySem.W.Frag} {mg : Str → Option Value} {base : Heap}
abbrev spDraw : Sp := spD (fun n : Nat => 1 ≤ n ∧ n ≤ 1000) (fun n => [rI n]) rUn
theorem k_Ldraw (T : Tx K mg) : C8.Cal P w K mg base 2 "_law_draw" spDraw [] := by
  obtain ⟨fd, F⟩ := T.F_Ldraw
  refine cal_draw F (T.g "_law_draw") (F.bindsN fun _ _ _ _ _ _ us hl => match us, hl with | [_, _], _ => rfl) scLdraw (fun _ => rfl) ?_
  intro cdv A outer s0 H0 E n h G H ws Q hr hn o al k
  obtain ⟨_, rfl, e⟩ := AlL.one al
  cases e
  obtain ⟨hn1, hn2⟩ := hn
  have hd := (o.2 h rfl).2
  obtain ⟨i, r, t, h1, h2, h3, h4, h5, h6, h7, h8, h9⟩ := hd
  have d0 : DrS h H i r t H := ⟨fun _ _ _ q => q, h1, h2, h5, h6, h7, h8, h9⟩
  -- an answer
  have fin : ∀ {H2 G' H' : Hp} {i r t : Int} {v : V}, DrS h H i r t H2 → Stp none H2 H2 G' H' → (rUn n).p v G' → Q v H' := fun {H2 G' H' i r t v} d s rv => by
    obtain ⟨j, hj, e⟩ := rv
    refine k v G H' (d.same s.same |>.stp o) ⟨j, hj, e⟩
  have okm : ∀ H : Hp, Okm none H H := fun H => .of (Same.refl H)
  -- behind the first if
  have after : ∀ (H2 : Hp) (i r t : Int) (a2 : Option V), DrS h H i r t H2 →
      WB (Xc P w K mg base nLdraw "_law_draw" sLdraw (He.ga K "_law_draw") cdv A outer s0 H0 E) ((defBody sLdraw).drop 1) { nx := fun _ H' => Q .non H', rt := Q } [some (.ref h.a), some (.int n), a2, none] H2 := by
    intro H2 i r t a2 d
    refine wb_if (G := H2) (jt_gt (je_ixL (l := [Rl.ls rI h.ns, rI i, rI r, rI t]) (je_var 0 rfl d.told) je_int) je_int) (okm H2) (fun hq G3 H3 s3 o3 => ?_) (fun hq G3 H3 s3 o3 => wb_nil ?_)
    · have hr0 : 0 < r := decide_eq_true_iff.mp hq.symm
      have d3 := d.same s3.same
      refine wb_set (G := H3) 3 scLdraw.nd (R := rI r) (je_ixL (l := [Rl.ls rI h.ns, rI i, rI r, rI t]) (je_var 0 rfl d3.told) je_int) (okm H3) fun v4 G4 H4 s4 o4 r4 => ?_
      cases r4
      have d4 := d3.same s4.same
      refine wb_store 0 rfl d4.a (je_div (i := r) (j := n) (je_v 3) (je_v 1) ⟨by omega, by omega⟩) (j := 2) rfl fun v5 G5 H5 s5 r5 => ?_
      cases r5
      have d5 := (d4.same s5.same).put (i' := i) (r' := r / n) (t' := t) d4.i0 d4.i1 (Int.ediv_nonneg (by omega) (by omega)) d4.t0 d4.t1
      refine wb_ret (G := upd H5 h.a (.lst [.ref h.c, .int i, .int (r / n), .int t])) (je_mod (i := r) (j := n) (je_intI (je_v 3) (T.f "int")) (je_v 1) (by omega)) (okm _) fun v6 G6 H6 s6 r6 => fin d5 s6 (un_of hn1 r6)
    · have d3 := d.same s3.same
      refine wb_store 0 rfl d3.a (R := rI ((t + 1) % 2147483629)) (je_mod (je_intI (je_add (je_ixL (l := [Rl.ls rI h.ns, rI i, rI r, rI t]) (je_var 0 rfl d3.told) je_int) je_int) (T.f "int")) je_int (by decide)) (j := 3) rfl fun v5 G5 H5 s5 r5 => ?_
      cases r5
      have d5 := (d3.same s5.same).put (i' := i) (r' := r) (t' := (t + 1) % 2147483629) d3.i0 d3.i1 d3.r0 (Int.emod_nonneg _ (by decide)) (Int.emod_lt_of_pos _ (by decide))
      have td := d5.told
      refine wb_ret (G := upd H5 h.a (.lst [.ref h.c, .int i, .int r, .int ((t + 1) % 2147483629)])) (je_mod (j := n) (je_intI (je_call ((t + 1) % 2147483629, i) (k_Lmix T) trivial (ja_cons (je_ixL (l := [Rl.ls rI h.ns, rI i, rI r, rI ((t + 1) % 2147483629)]) (je_var 0 rfl td) je_int) (ja_cons (je_ixL (l := [Rl.ls rI h.ns, rI i, rI r, rI ((t + 1) % 2147483629)]) (je_var 0 rfl td) je_int) ja_nil)) hr) (T.f "int")) (je_v 1) (by omega)) (okm _) fun v6 G6 H6 s6 r6 => fin d5 s6 (un_of hn1 r6)
  have jl : ∀ {H : Hp} {i r t : Int}, DrS h H i r t H → True := fun _ => trivial
  refine wb_if (G := H) (jt_w (jw_and (jt_eq (je_ixL (l := [Rl.ls rI h.ns, rI i, rI r, rI t]) (je_var 0 rfl d0.told) je_int) je_int) fun _ => jw_and1 (jt_lt (je_ixL (l := [Rl.ls rI h.ns, rI i, rI r, rI t]) (je_var 0 rfl d0.told) je_int) (je_lenLs (ds := h.ns) (D := rI) (je_ixL (l := [Rl.ls rI h.ns, rI i, rI r, rI t]) (je_var 0 rfl d0.told) je_int) (T.f "len"))))) (okm H) (fun hq G1 H1 s1 o1 => ?_) (fun hq G1 H1 s1 o1 => ?_)
  · have hq : (decide (V.int r = V.int 0) && decide (i < (h.ns.length : Int))) = true := hq.symm
    rw [Bool.and_eq_true] at hq
    have hr0 : r = 0 := V.int.inj (decide_eq_true_iff.mp hq.1)
    have hi := decide_eq_true_iff.mp hq.2
    obtain ⟨m, rfl⟩ : ∃ m : Nat, i = (m : Int) := ⟨i.toNat, by omega⟩
    have hm : m < h.ns.length := by omega
    obtain ⟨c, hc⟩ : ∃ c, h.ns[m]? = some c := ⟨h.ns[m], List.getElem?_eq_getElem hm⟩
    have hc0 := h4 c (List.mem_of_getElem? hc)
    have d1 := d0.same s1.same
    refine wb_set (G := H1) 2 scLdraw.nd (R := rI c) (je_ixL (l := h.ns.map rI) (je_ixL (l := [Rl.ls rI h.ns, rI m, rI r, rI t]) (je_var 0 rfl d1.told) je_int) (je_ixL (l := [Rl.ls rI h.ns, rI m, rI r, rI t]) (je_var 0 rfl d1.told) je_int) (atI_nat (by rw [List.getElem?_map, hc] <;> rfl))) (okm H1) fun v2 G2 H2 s2 o2 r2 => ?_
    cases r2
    have d2 := d1.same s2.same
    refine wb_store 0 rfl d2.a (R := rI ((m : Int) + 1)) (je_add (je_ixL (l := [Rl.ls rI h.ns, rI m, rI r, rI t]) (je_var 0 rfl d2.told) je_int) je_int) (j := 1) rfl fun v3 G3 H3 s3 r3 => ?_
    cases r3
    have d3 := (d2.same s3.same).put (i' := (m : Int) + 1) (r' := r) (t' := t) (by omega) (by omega) d2.r0 d2.t0 d2.t1
    have d3' : DrS h H ((m : Int) + 1) r t (upd H3 h.a (.lst ([V.ref h.c, .int m, .int r, .int t].set 1 (.int ((m : Int) + 1))))) := d3
    clear d3
    generalize upd H3 h.a (.lst ([V.ref h.c, .int m, .int r, .int t].set 1 (.int ((m : Int) + 1)))) = H4 at d3'
    refine wb_if (G := H4) (jt_lt (j := 10 ^ (18 : Int).toNat) (je_v 2) (je_opV op_pow je_int je_int fun _ _ q => ⟨10, 18, rfl, rfl, ⟨by decide, by decide, by decide⟩, q⟩)) (okm H4) (fun hq G5 H5 s5 o5 => ?_) (fun hq G5 H5 s5 o5 => wb_nil ?_)
    · have d5 := d3'.same s5.same
      exact wb_ret (G := H5) (je_mod (j := n) (je_intI (je_call (c % 2147483647, (m : Int) + 1) (k_Lmix T) trivial (ja_cons (je_mod (je_intI (je_v 2) (T.f "int")) je_int (by decide)) (ja_cons (je_ixL (l := [Rl.ls rI h.ns, rI ((m : Int) + 1), rI r, rI t]) (je_var 0 rfl d5.told) je_int) ja_nil)) hr) (T.f "int")) (je_v 1) (by omega)) (okm _) fun v6 G6 H6 s6 r6 => fin d5 s6 (un_of hn1 r6)
    · have d5 := d3'.same s5.same
      refine wb_store 0 rfl d5.a (R := rI c) (je_v 2) (j := 2) rfl fun v6 G6 H6 s6 r6 => wb_nil ?_
      cases r6
      exact after _ ((m : Int) + 1) c t _ ((d5.same s6.same).put d5.i0 d5.i1 hc0 d5.t0 d5.t1)
  · exact wb_nil (after H1 i r t none (d0.same s1.same))
/-- one of the things -/
theorem k_Lpick (T : Tx K mg) {α : Type} (D : α → Rl) : C8.Cal P w K mg base 3 "_law_pick" (spD (fun l : List α => 1 ≤ l.length ∧ l.length ≤ 1000) (fun l => [Rl.ls D l]) fun l => Rl.ex fun x => Rl.pr (x ∈ l) (D x)) [] := by
  obtain ⟨fd, F⟩ := T.F_Lpick
  refine cal_draw F (T.g "_law_pick") (F.bindsN fun _ _ _ _ _ _ us hl => match us, hl with | [_, _], _ => rfl) scLpick (fun _ => rfl) ?_
  intro cdv A outer s0 H0 E l h G H ws Q hr hn o al k
  obtain ⟨lv, rfl, e1⟩ := AlL.one al
  refine wb_ret (R := Rl.ex fun x => Rl.pr (x ∈ l) (D x)) (fun G1 H1 z o1 Q1 kk => ?_) o k
  refine eP (pe_ix ix_list pE pE (by exact fun _ _ => rfl)) ((je_var (R := Rl.ls D l) 1 rfl (Rl.mono _ _ _ _ z e1)) G1 H1 (Same.refl _) o1 _ fun x G2 H2 s2 r2 => (je_draw l.length (k_Ldraw T) hn 0 (ja_cons (je_lenLs (ds := l) (D := D) (je_var 1 rfl (Rl.mono _ _ _ _ (z.trans s2.gg) e1)) (T.f "len")) ja_nil) hr) G2 H2 (Same.refl _) (s2.okm o1) _ fun y G3 H3 s3 r3 => ?_)
  obtain ⟨j, hj, e⟩ := r3
  obtain ⟨p, xs, ex, hp, bl⟩ := r2
  have hx : l[j]? = some l[j] := List.getElem?_eq_getElem hj
  obtain ⟨u, h1, h2⟩ := bl.get (i := j) (R := D l[j]) (by rw [List.getElem?_map, hx] <;> rfl)
  exact ⟨p, xs, j, u, ex, e, SqL.of ((s3.okm (s2.okm o1)).1 _ _ (s3.gg _ _ hp)), atI_nat h1, kk u G3 H3 (s2.trans o1 s3) ⟨l[j], List.getElem_mem hj, Rl.mono _ _ _ _ s3.gg h2⟩⟩
end
end Nk
namespace Nk
open PySem PySem.Spec PyProof.Rows L2
/-! ### loops over a drawn length -/
def JIx {ι : Type} (m : Option Hd) (X : Cx) (tg iter : Expr) (σ : L2.St) (G : Hp) (ls : ι → List Rl) (p : ι → Prop) : Prop :=
  ∀ (G1 H : Hp), Same G G1 → Okm m G1 H → ∀ R : It → Hp → Prop, (∀ a J G' H', p a → Stp m G1 H G' H' → ItOk m J (ls a) G' → R J H') → cI X tg iter σ H R
section
variable {m : Option Hd} {X : Cx} {a c e tg : Expr} {es : List Expr} {σ : L2.St} {G H : Hp} {R Ra Rb : Rl} {pos p0 : Pos} {rest body : List Stmt} {D : Ends} {ι : Type}
theorem ji_rangeX {p : Nat → Prop} (ha : JE m X a σ G (Rl.ex fun n : Nat => Rl.pr (p n) (rI n))) (hn : ∀ n, p n → n ≤ 100000) (hm : X.mg "range" = none) (hg : Gl X "range" := by rfl) (hs : starEach [a] X.env = [(false, eval a X.env)] := by rfl) :
    JIx m X tg (.Call (.Name "range" p0) [a] [] pos) σ G (fun n : Nat => (List.range n).map fun (i : Nat) => rI i) p := fun G1 H z o R k =>
  iP (pi_range1 hg hm (pA) hs) ((ja_cons ha ja_nil hs) G1 H z o _ fun vs G2 H2 s2 al => by
    obtain ⟨v, rfl, n, pn, ev⟩ := AlL.one al
    cases ev
    have hn1 := hn n pn
    refine ⟨n, rfl, by omega, by omega, ?_⟩
    refine k n _ G2 H2 pn s2 fun G3 H3 g3 o3 => ⟨fun i R hR => ?_, ?_⟩
    · rw [List.getElem?_map] at hR
      cases q : (List.range n)[i]? with
      | none =>
        rw [q] at hR
        cases hR
      | some j =>
        rw [q] at hR
        cases hR
        obtain ⟨h1, h2⟩ := List.getElem?_eq_some_iff.mp q
        rw [List.length_range] at h1
        rw [List.getElem_range] at h2
        subst h2
        refine ⟨by show i < (n : Int).toNat; omega, fun x H' hy => ?_⟩
        obtain ⟨rfl, rfl⟩ := hy
        exact ⟨G3, .refl o3, by show V.int (0 + (i : Int)) = V.int i; rw [Int.zero_add]⟩
    · show (n : Int).toNat ≤ _
      rw [List.length_map, List.length_range]
      omega)
theorem wb_forX {ls : ι → List Rl} {p : ι → Prop} {g : TG} {iter : Expr} (Pv : ι → Nat → L2.St → Hp → Hp → Prop) (hp : PassesOwn (model X.prog X.w) X.A X.env X.xe) (hc : X.calm = true) (hg : PG X tg g) (hi : JIx m X tg iter σ G ls p) (o : Okm m G H)
    (h0 : ∀ a G' H', p a → Stp m G H G' H' → Okm m G' H' → Pv a 0 σ G' H')
    (hs : ∀ a, p a → ∀ Gc, Same G Gc → ∀ i R σ' G' H' x, (ls a)[i]? = some R → Same Gc G' → Okm m G' H' → Pv a i σ' G' H' → ∀ G2 H2, Stp m G' H' G2 H2 → Okm m G2 H2 → R.p x G2 → g x σ' H2 fun σ3 H3 => WB X body { D with nx := Nx m Gc (Pv a (i + 1)), ct := Nx m Gc (Pv a (i + 1)), bk := WB X rest D } σ3 H3)
    (hd : ∀ a, p a → ∀ σ' G' H', Same G G' → Okm m G' H' → Pv a (ls a).length σ' G' H' → WB X rest D σ' H')
    (hf : ∀ x, foldedSetIterable iter X.env x = pure x := by intro _; rfl) : WB X (.For tg iter body [] pos :: rest) D σ H :=
  wb_step (ps_for hp hc pI hg pB hf) (hi G H (Same.refl G) o _ fun a J G1 H1 pa s1 itok => by
    have o1 := s1.okm o
    refine ⟨fun i n σ' H' => n = (ls a).length - i ∧ i ≤ (ls a).length ∧ ∃ G', Same G1 G' ∧ Okm m G' H' ∧ Pv a i σ' G' H', ⟨(ls a).length, by simp, Nat.zero_le _, G1, Same.refl _, o1, h0 a G1 H1 pa s1 o1⟩, ?_⟩
    rintro i n σ' H' ⟨rfl, hi', G', g', o', p'⟩
    obtain ⟨goes, stops⟩ := itok G' H' g' o'
    by_cases hlt : i < (ls a).length
    · obtain ⟨R, hR⟩ : ∃ R, (ls a)[i]? = some R := ⟨(ls a)[i], by simp [hlt]⟩
      obtain ⟨hgo, hy⟩ := goes i R hR
      refine .inr ⟨hgo, Nx m G1 (Pv a (i + 1)), fun σ4 H4 p => ⟨(ls a).length - (i + 1), by omega, rfl, hlt, p⟩, fun x H2 y => ?_⟩
      obtain ⟨G2, s2, r2⟩ := hy x H2 y
      exact hs a pa G1 s1.gg i R σ' G' H' x hR g' o' p' G2 H2 s2 (s2.okm o') r2
    · have e : i = (ls a).length := by omega
      subst e
      exact .inl ⟨stops, hd a pa σ' G' H' (s1.gg.trans g') o' p'⟩)
theorem ItOk.mono {J : It} {l : List Rl} {G G' : Hp} (h : ItOk m J l G) (s : Same G G') : ItOk m J l G' := fun G1 H z o => h G1 H (s.trans z) o
theorem jr_lcW {wi : TI} {α : Type} {ds : List α} {D E : α → Rl} {f : α → Bool} {T : α → L2.St → Hp → Prop} {elt : Expr} {ifs : List Expr} {scope : Scope} {vs : List Nat} {g : TG}
    (hi : ∀ (G1 H : Hp), Same G G1 → Okm m G1 H → ∀ R : It → Hp → Prop, (∀ J G' H', Stp m G1 H G' H' → ItOk m J (ds.map D) G' → R J H') → wi σ H R) (hn : ds.length ≤ 100000)
    (hg : ∀ d ∈ ds, ∀ x G1 H1, Same G G1 → Same G1 H1 → (D d).p x G1 → ∀ Kp : L2.St → Hp → Prop, (∀ σ2, wipe σ2 vs = wipe σ vs → T d σ2 G1 → Kp σ2 H1) → g x (wipe σ vs) H1 Kp)
    (ht : ∀ d ∈ ds, ∀ σ2 G1, Same G G1 → T d σ2 G1 → ∀ s H C cl fp, JTs m (Bk X scope s H C cl fp) ifs σ2 G1 (f d))
    (he : ∀ d ∈ ds, f d = true → ∀ σ2 G1, Same G G1 → T d σ2 G1 → ∀ s H C cl fp, JE m (Bk X scope s H C cl fp) elt σ2 G1 (E d)) :
    JR m (tLc wi g (fun σ H Q => ∀ s H0 C cl fp, cTs (Bk X scope s H0 C cl fp) ifs σ H Q) (fun σ H Q => ∀ s H0 C cl fp, cE (Bk X scope s H0 C cl fp) elt σ H Q) vs) σ G (Rl.ls E (ds.filter f)) := by
  intro G1 H z o Q k
  refine hi G1 H z o _ fun J G2 H2 s2 itok Dl hD => ?_
  have o2 := s2.okm o
  have fx : Fix m Dl := fun h e q => (o2.2 h e).2.there (by rw [← q]; exact hD)
  refine ⟨fun i n H' => n = ds.length - i ∧ i ≤ ds.length ∧ ∃ G' acc, Stp m G2 H2 G' H' ∧ G' Dl = none ∧ H' Dl = some (.lst acc) ∧ AlL (((ds.take i).filter f).map E) acc G',
    ⟨ds.length, by simp, Nat.zero_le _, G2, [], Stp.mut o2 (.refl o2) hD (o2.gnone hD), o2.gnone hD, upd_same, .nil⟩, ?_⟩
  rintro i n H' ⟨rfl, hi', G', acc, st, gD, hH', al⟩
  have o' := st.okm o2
  obtain ⟨goes, stops⟩ := itok G' H' st.gg o'
  by_cases hlt : i < ds.length
  · obtain ⟨d, hd⟩ : ∃ d, ds[i]? = some d := ⟨ds[i], by simp [hlt]⟩
    have hm : d ∈ ds := List.mem_of_getElem? hd
    have hR : (ds.map D)[i]? = some (D d) := by rw [List.getElem?_map, hd] <;> rfl
    obtain ⟨hgo, hy⟩ := goes i (D d) hR
    refine .inr ⟨hgo, _, fun H'' p => ⟨ds.length - (i + 1), by omega, rfl, hlt, p⟩, fun x H'' y => ?_⟩
    obtain ⟨G3, s3, r3⟩ := hy x H'' y
    have o3 := s3.okm o'
    have zz : Same G G3 := ((z.trans s2.gg).trans st.gg).trans s3.gg
    refine hg d hm x G3 H'' zz s3.gh r3 _ fun σ2 hw hT => ⟨hw, fun s0 H0 C0 cl0 fp0 => ?_⟩
    refine ht d hm σ2 G3 zz hT s0 H0 C0 cl0 fp0 G3 H'' (Same.refl _) o3 _ fun G4 H4 s4 => ?_
    have o4 := s4.okm o3
    have hD4 : H4 Dl = some (.lst acc) := s4.hh _ _ fx (s3.hh _ _ fx hH')
    have hne : H' Dl ≠ none := by
      rw [hH']
      exact fun z => nomatch z
    have hne3 : H'' Dl ≠ none := by
      rw [s3.hh _ _ fx hH']
      exact fun z => nomatch z
    have g4 : G4 Dl = none := s4.gnone hne3 (s3.gnone hne gD)
    have hacc : acc.length ≤ i := by
      rw [al.len, List.length_map]
      refine Nat.le_trans (List.length_filter_le _ _) ?_
      rw [List.length_take]
      exact Nat.min_le_left _ _
    have etake : (ds.take (i + 1)).filter f = (ds.take i).filter f ++ (if f d = true then [d] else []) := by
      rw [List.take_add_one, hd, List.filter_append]
      congr 1
      cases hf : f d <;> simp [List.filter, hf]
    cases hf : f d with
    | true =>
      refine iteT fun s5 H5 C5 cl5 fp5 => ?_
      refine he d hm hf σ2 G3 zz hT s5 H5 C5 cl5 fp5 G4 H4 s4.gg o4 _ fun v G6 H6 s6 r6 => ?_
      have hne4 : H4 Dl ≠ none := by
        rw [hD4]
        exact fun z => nomatch z
      refine ⟨acc, s6.hh _ _ fx hD4, Nat.lt_of_le_of_lt (Nat.le_trans hacc (Nat.le_trans hi' hn)) (by decide), ?_⟩
      have st6 := ((st.trans o2 s3).trans o2 s4).trans o2 s6
      refine ⟨G6, acc ++ [v], Stp.mut o2 st6 hD (s6.gnone hne4 g4), s6.gnone hne4 g4, upd_same, ?_⟩
      rw [etake, hf, if_pos rfl, List.map_append]
      exact (al.mono ((s3.gg.trans s4.gg).trans s6.gg)).app (.cons r6 .nil)
    | false =>
      refine iteF ?_
      refine ⟨G4, acc, (st.trans o2 s3).trans o2 s4, g4, hD4, ?_⟩
      rw [etake, hf, if_neg Bool.false_ne_true, List.append_nil]
      exact al.mono (s3.gg.trans s4.gg)
  · have e : i = ds.length := by omega
    subst e
    rw [List.length_map] at stops
    refine .inl ⟨stops, ?_⟩
    rw [List.take_length] at al
    have st2 := st.tell o2 hD gD hH'
    exact k _ _ _ (s2.trans o st2) ⟨Dl, acc, rfl, upd_same, al.mono fun b u q => by
      rw [upd_ne (fun e => by rw [e, gD] at q; cases q)]
      exact q⟩
/-- [elt for x in it], the length drawn -/
theorem je_lcX {p : ι → Prop} {α : Type} {ds : ι → List α} {Dd E : α → Rl} {T : α → L2.St → Hp → Prop} {elt iter : Expr} {scope : Scope} {g : TG} (own : List (Str × Nat)) (hc : X.calm = true) (hN : X.N.Nodup) (ok : BlkOk X.N X.env.scope scope own)
    (hpg : ∀ (s : Shared) (H : Hp) (C : Addr) (cl : List (Str × Addr)) (fp : List Addr), PG (Bk X scope s H C cl fp) tg g)
    (hi : JIx m X tg iter σ G (fun a => (ds a).map Dd) p) (hn : ∀ a, p a → (ds a).length ≤ 100000)
    (hg : ∀ d, ∀ x G1 H1, Same G G1 → Same G1 H1 → (Dd d).p x G1 → ∀ Kp : L2.St → Hp → Prop, (∀ σ2, wipe σ2 (own.map (·.2)) = wipe σ (own.map (·.2)) → T d σ2 G1 → Kp σ2 H1) → g x (wipe σ (own.map (·.2))) H1 Kp)
    (he : ∀ d, ∀ σ2 G1, Same G G1 → T d σ2 G1 → ∀ s H C cl fp, JE m (Bk X scope s H C cl fp) elt σ2 G1 (E d))
    (hs : ∀ x, foldedSetIterable iter X.env x = pure x := by intro _; rfl) : JE m X (.ListComp elt [⟨tg, iter, [], 0⟩] scope pos) σ G (Rl.ex fun a => Rl.pr (p a) (Rl.ls E (ds a))) := fun G1 H z o Q k => by
  refine eP (pe_lc hc hN pI ok hpg (fun s H C cl fp => ⟨fun pins s' σ H' Q I h => h s H C cl fp pins s' I⟩) (fun s H C cl fp => ⟨fun pins s' σ H' Q I h => h s H C cl fp pins s' I⟩) hs)
    (t := tLc (cI X tg iter) g (fun σ H Q => ∀ s H0 C cl fp, cTs (Bk X scope s H0 C cl fp) [] σ H Q) (fun σ H Q => ∀ s H0 C cl fp, cE (Bk X scope s H0 C cl fp) elt σ H Q) (own.map (·.2))) ?_
  refine hi G1 H z o _ fun a J G2 H2 pa s2 itok => ?_
  -- the rest for the length at hand: as if it had been known
  have key := jr_lcW (m := m) (X := X) (wi := fun _ H R => R J H) (σ := σ) (G := G2) (ds := ds a) (D := Dd) (E := E) (f := fun _ => true) (T := T) (elt := elt) (ifs := []) (scope := scope) (vs := own.map (·.2)) (g := g)
    (fun G3 H3 z3 o3 R3 k3 => k3 J G3 H3 (.refl o3) (itok.mono z3)) (hn a pa) (fun d _ x G3 H3 z3 s3 r3 Kp kk => hg d x G3 H3 ((z.trans s2.gg).trans z3) s3 r3 Kp kk) (fun d _ σ3 G3 z3 _ s H C cl fp => jts_nil) (fun d _ _ σ3 G3 z3 t3 s H C cl fp => he d σ3 G3 ((z.trans s2.gg).trans z3) t3 s H C cl fp)
  refine key G2 H2 (Same.refl _) (s2.okm o) Q fun v G3 H3 s3 r3 => k v G3 H3 (s2.trans o s3) ⟨a, pa, ?_⟩
  rw [List.filter_eq_self.mpr fun _ _ => rfl] at r3
  exact r3
end
end Nk
namespace Nk
open PySem PySem.Spec PyProof.Rows L2
/-- each of n values one of them -/
theorem ex_all {α β : Type} {q : β → Prop} {f : β → Rl} {G : Hp} : ∀ {l : List α} {vs : List V}, AlL (l.map fun _ => Rl.ex fun b => Rl.pr (q b) (f b)) vs G → ∃ ys : List β, ys.length = l.length ∧ (∀ y ∈ ys, q y) ∧ AlL (ys.map f) vs G
  | [], _, .nil => ⟨[], rfl, fun y hy => (by cases hy), .nil⟩
  | _ :: l, _, .cons h t => by
    obtain ⟨b, hb, rb⟩ := h
    obtain ⟨ys, h1, h2, h3⟩ := ex_all t
    exact ⟨b :: ys, congrArg Nat.succ h1, fun y hy => by
      rcases List.mem_cons.mp hy with rfl | hy
      · exact hb
      · exact h2 y hy, .cons rb h3⟩
section
variable {m : Option Hd} {X : Cx} {a b e : Expr} {es : List Expr} {σ : L2.St} {G : Hp} {R Ra Rb : Rl} {pos p0 : Pos}
/-- i + a drawn one -/
theorem je_addU {n : Nat} {i : Int} (ha : JE m X a σ G (rI i)) (hb : JE m X b σ G (rUn n)) : JE m X (.BinOp a .Add b pos) σ G (Rl.ex fun j : Nat => Rl.pr (j < n) (rI (i + j))) :=
  je_op op_add ha hb fun x y G1 H1 Q _ o ex ⟨j, hj, ey⟩ k => by
    cases ex; cases ey
    exact ⟨i, j, rfl, rfl, k _ G1 H1 (.refl o) ⟨j, hj, rfl⟩⟩
theorem je_addU' {n : Nat} {i : Int} (ha : JE m X a σ G (rUn n)) (hb : JE m X b σ G (rI i)) : JE m X (.BinOp a .Add b pos) σ G (Rl.ex fun j : Nat => Rl.pr (j < n) (rI (j + i))) :=
  je_op op_add ha hb fun x y G1 H1 Q _ o ⟨j, hj, ex⟩ ey k => by
    cases ex; cases ey
    exact ⟨j, i, rfl, rfl, k _ G1 H1 (.refl o) ⟨j, hj, rfl⟩⟩
end
section
variable {P : Program} {w : World} {K : PySem.W.Frag} {mg : Str → Option Value} {base : Heap}
/-- a drawn condition -/
abbrev rXc (K : PySem.W.Frag) (w : Nat) : Rl := Rl.ex fun c : Cd => Rl.pr (c.Ok w) (rcd K c)
abbrev srcP (d : List Str × Nat) : Prop := (∀ s ∈ d.1, s ∈ srcsL d.2) ∧ 1 ≤ d.1.length ∧ d.1.length ≤ 100 ∧ d.2 ≤ 2
theorem k_Lcondition (T : Tx K mg) : C8.Cal P w K mg base 4 "_law_condition" (spD srcP (fun d => [Rl.ls rS d.1]) fun d => rXc K d.2) [] := by
  obtain ⟨fd, F⟩ := T.F_Lcondition
  refine cal_draw F (T.g "_law_condition") (F.bindsN fun _ _ _ _ _ _ us hl => match us, hl with | [_, _], _ => rfl) scLcondition (fun _ => rfl) ?_
  rintro cdv A outer s0 H0 E ⟨l, n⟩ h G H ws Q hr ⟨hs, hl1, hl2, hn⟩ o al k
  have hs : ∀ s ∈ l, s ∈ srcsL n := hs
  have hl1 : 1 ≤ l.length := hl1
  have hl2 : l.length ≤ 100 := hl2
  have k : ∀ v G' H', Stp (some h) G H G' H' → (rXc K n).p v G' → Q v H' := k
  obtain ⟨lv, rfl, e1⟩ := AlL.one al
  have e1 : (Rl.ls rS l).p lv G := e1
  have w13 : (wFound 1 4).length = 14 := by decide +kernel
  refine wb_set (m := some h) 2 scLcondition.nd (R := rUn 8) (je_draw 8 (k_Ldraw T) ⟨by decide, by decide⟩ 0 (ja_cons je_int ja_nil) hr) o fun v1 G1 H1 s1 o1 r1 => ?_
  obtain ⟨j, hj, rfl⟩ := r1
  have e2 := Rl.mono _ _ _ _ s1.gg e1
  have k1 : ∀ v G' H', Stp (some h) G1 H1 G' H' → (rXc K n).p v G' → Q v H' := fun v G' H' s r => k v G' H' (s1.trans o s) r
  refine wb_if (m := some h) (jt_eq (je_v 2) je_int) o1 (fun hq G2 H2 s2 o2 => ?_) (fun hq G2 H2 s2 o2 => wb_nil ?_)
  · refine wb_ret (m := some h) (JE.imp (Ra := rXc K n) (je_tup (l := [rS "number", Rl.ex fun j : Nat => Rl.pr (j < 4) (rI (1 + (j : Int)))]) (ja_cons je_str (ja_cons (je_addU je_int (je_draw 4 (k_Ldraw T) ⟨by decide, by decide⟩ 0 (ja_cons je_int ja_nil) hr)) ja_nil))) ?_) o2 fun v G3 H3 s3 r => k1 v G3 H3 (s2.trans o1 s3) r
    rintro v G' _ ⟨p, xs, ev, hp, al⟩
    obtain ⟨x, y, rfl, ex, i, hi, ey⟩ := AlL.two al
    exact ⟨.number (1 + (i : Int)), ⟨by omega, by omega⟩, p, _, ev, hp, .cons ex (.cons ey .nil)⟩
  have k2 : ∀ v G' H', Stp (some h) G2 H2 G' H' → (rXc K n).p v G' → Q v H' := fun v G' H' s r => k1 v G' H' (s2.trans o1 s) r
  refine wb_if (m := some h) (jt_eq (je_v 2) je_int) o2 (fun hq G3 H3 s3 o3 => ?_) (fun hq G3 H3 s3 o3 => wb_nil ?_)
  · exact wb_ret (m := some h) (JE.imp (Ra := rXc K n) (je_tup (l := [rS "never"]) (ja_cons je_str ja_nil)) fun v G' _ hv => ⟨.never, trivial, hv⟩) o3 fun v G4 H4 s4 r => k2 v G4 H4 (s3.trans o2 s4) r
  have k3 : ∀ v G' H', Stp (some h) G3 H3 G' H' → (rXc K n).p v G' → Q v H' := fun v G' H' s r => k2 v G' H' (s3.trans o2 s) r
  have e4 := Rl.mono _ _ _ _ (s2.gg.trans s3.gg) e2
  refine wb_if (m := some h) (jt_lt (je_v 2) je_int) o3 (fun hq G4 H4 s4 o4 => ?_) (fun hq G4 H4 s4 o4 => wb_nil ?_)
  · refine wb_ret (m := some h) (JE.imp (Ra := rXc K n) (je_tup (l := [Rl.ex fun b : Bool => rS (if b then "dead" else "alive"), Rl.ex fun x => Rl.pr (x ∈ wFound 1 4) (rS x)]) (ja_cons (je_ifE (jt_eq (je_v 2) je_int) (fun _ => JE.imp (R := rS "dead") je_str fun v G' _ hv => ⟨true, hv⟩) (fun _ => JE.imp (R := rS "alive") je_str fun v G' _ hv => ⟨false, hv⟩)) (ja_cons (je_draw (X := Xc P w K mg base nLcondition "_law_condition" sLcondition (He.ga K "_law_condition") cdv A outer s0 H0 E) (wFound 1 4) (k_Lpick T rS) ⟨by rw [w13]; decide, by rw [w13]; decide⟩ 0 (ja_cons (JE.cast (R := Rl.ls rS (wFound 1 4)) (je_call (α := Nat × Nat) (B := fun d => Rl.ls rS (wFound d.1 (d.2 + 1))) (1, 3) (k_Lways T) ⟨by decide, by decide⟩ (ja_cons je_int (ja_cons je_int ja_nil)) hr) rfl) ja_nil) hr) ja_nil))) ?_) o4 fun v G5 H5 s5 r => k3 v G5 H5 (s4.trans o3 s5) r
    rintro v G' _ ⟨p, xs, ev, hp, al⟩
    obtain ⟨x, y, rfl, ⟨b, ex⟩, z, hz, ey⟩ := AlL.two al
    rw [wFound13] at hz
    cases b with
    | true => exact ⟨.dead z, hz, p, _, ev, hp, .cons ex (.cons ey .nil)⟩
    | false => exact ⟨.alive z, hz, p, _, ev, hp, .cons ex (.cons ey .nil)⟩
  have k4 : ∀ v G' H', Stp (some h) G4 H4 G' H' → (rXc K n).p v G' → Q v H' := fun v G' H' s r => k3 v G' H' (s4.trans o3 s) r
  have e5 := Rl.mono _ _ _ _ s4.gg e4
  refine wb_if (m := some h) (jt_lt (je_v 2) je_int) o4 (fun hq G5 H5 s5 o5 => ?_) (fun hq G5 H5 s5 o5 => wb_nil ?_)
  · have e6 := Rl.mono _ _ _ _ s5.gg e5
    refine wb_ret (m := some h) (JE.imp (Ra := rXc K n) (je_tup (l := [rS "unlike", Rl.ex fun x => Rl.pr (x ∈ l) (rS x), Rl.ex fun x => Rl.pr (x ∈ l) (rS x)]) (ja_cons je_str (ja_cons (je_draw (X := Xc P w K mg base nLcondition "_law_condition" sLcondition (He.ga K "_law_condition") cdv A outer s0 H0 E) l (k_Lpick T rS) ⟨hl1, by omega⟩ 0 (ja_cons (je_var 1 rfl e6) ja_nil) hr) (ja_cons (je_draw (X := Xc P w K mg base nLcondition "_law_condition" sLcondition (He.ga K "_law_condition") cdv A outer s0 H0 E) l (k_Lpick T rS) ⟨hl1, by omega⟩ 0 (ja_cons (je_var 1 rfl e6) ja_nil) hr) ja_nil)))) ?_) o5 fun v G6 H6 s6 r => k4 v G6 H6 (s5.trans o4 s6) r
    rintro v G' _ ⟨p, xs, ev, hp, al⟩
    cases al with
    | cons ex al =>
      obtain ⟨x, y, rfl, ⟨z1, hz1, e1'⟩, z2, hz2, e2'⟩ := AlL.two al
      exact ⟨.unlike z1 z2, ⟨hs _ hz1, hs _ hz2⟩, p, _, ev, hp, .cons ex (.cons e1' (.cons e2' .nil))⟩
  · exact wb_ret (m := some h) (JE.imp (Ra := rXc K n) (je_tup (l := [rS "unborne"]) (ja_cons je_str ja_nil)) fun v G' _ hv => ⟨.unborne, trivial, hv⟩) o5 fun v G6 H6 s6 r => k4 v G6 H6 (s5.trans o4 s6) r
theorem k_Lmany (T : Tx K mg) : C8.Cal P w K mg base 3 "_law_many" (spD (fun n : Nat => n ≤ 100) (fun n => [rI n]) fun n => rUn (n + 1)) [] := by
  obtain ⟨fd, F⟩ := T.F_Lmany
  refine cal_draw F (T.g "_law_many") (F.bindsN fun _ _ _ _ _ _ us hl => match us, hl with | [_, _], _ => rfl) scLmany (fun _ => rfl) ?_
  intro cdv A outer s0 H0 E n h G H ws Q hr hn o al k
  have hn : n ≤ 100 := hn
  obtain ⟨_, rfl, e⟩ := AlL.one al
  cases e
  refine wb_ret (m := some h) (R := rUn (n + 1)) (je_callB (l := [rUn (n + 1), Rl.ex fun j : Nat => Rl.pr (j < n + 1) (rI (j + 1))]) (call_min2 rfl) (ja_cons (je_draw (n + 1) (k_Ldraw T) ⟨by omega, by omega⟩ 0 (ja_cons (je_add (i := (n : Int)) (j := 1) (je_v 1) je_int) ja_nil) hr) (ja_cons (je_addU' (je_draw (n + 1) (k_Ldraw T) ⟨by omega, by omega⟩ 0 (ja_cons (je_add (i := (n : Int)) (j := 1) (je_v 1) je_int) ja_nil) hr) je_int) ja_nil)) (fun vs G1 H1 Q _ o hh kk => ?_) (T.f "min") (by decide +kernel) rfl (by decide) (by decide)) o k
  obtain ⟨x, y, rfl, ⟨i, hi, ex⟩, j, hj, ey⟩ := AlL.two hh
  cases ex; cases ey
  refine ⟨i, (j : Int) + 1, rfl, kk _ G1 H1 (.refl o) ?_⟩
  by_cases c : (j : Int) + 1 < (i : Int)
  · rw [if_pos c]
    exact ⟨j + 1, by omega, by show V.int _ = V.int _; congr 1⟩
  · rw [if_neg c]
    exact ⟨i, hi, rfl⟩
end
end Nk
namespace Nk
open PySem PySem.Spec PyProof.Rows L2
theorem AlL.last {G : Hp} {R : Rl} {v : V} : ∀ {l : List Rl} {xs : List V}, AlL (l ++ [R]) (xs ++ [v]) G → AlL l xs G ∧ R.p v G
  | [], [], h => by
    cases h with
    | cons a t => exact ⟨.nil, a⟩
  | [], x :: xs, h => by
    have := h.len
    rw [List.length_append, List.length_append, List.length_cons] at this
    simp at this
  | r :: l, [], h => by
    have := h.len
    rw [List.length_append, List.length_append, List.length_cons] at this
    simp at this
  | r :: l, x :: xs, h => by
    cases h with
    | cons a t =>
      obtain ⟨h1, h2⟩ := AlL.last (l := l) (xs := xs) t
      exact ⟨.cons a h1, h2⟩
section
variable {P : Program} {w : World} {K : PySem.W.Frag} {mg : Str → Option Value} {base : Heap}
abbrev rXk (K : PySem.W.Frag) (n : Nat) : Rl := Rl.ex fun k : Kl => Rl.pr (k.Ok n) (Rl.ls (rcl K) k.cls)
theorem k_Lclauses (T : Tx K mg) : C8.Cal P w K mg base 5 "_law_clauses" (spD (fun d : List Str × Nat × Nat => srcP (d.1, d.2.1) ∧ 1 ≤ d.2.2 ∧ d.2.2 ≤ 4) (fun d => [Rl.ls rS d.1, rI d.2.2]) fun d => rXk K d.2.1) [] := by
  obtain ⟨fd, F⟩ := T.F_Lclauses
  refine cal_draw F (T.g "_law_clauses") (F.bindsN fun _ _ _ _ _ _ us hl => match us, hl with | [_, _, _], _ => rfl) scLclauses (fun _ => rfl) ?_
  rintro cdv A outer s0 H0 E ⟨l, n, mo⟩ h G H ws Q hr ⟨hsp, hm1, hm2⟩ o al k
  have hsp0 : srcP (l, n) := hsp
  obtain ⟨hs, hl1, hl2, hn⟩ := hsp
  have hs : ∀ s ∈ l, s ∈ srcsL n := hs
  have hl1 : 1 ≤ l.length := hl1
  have hl2 : l.length ≤ 100 := hl2
  have hm1 : 1 ≤ mo := hm1
  have hm2 : mo ≤ 4 := hm2
  have k : ∀ v G' H', Stp (some h) G H G' H' → (rXk K n).p v G' → Q v H' := k
  obtain ⟨lv, _, rfl, e1, e2⟩ := AlL.two al
  cases e2
  have e1 : (Rl.ls rS l).p lv G := e1
  refine wb_new (m := some h) (G0 := G) (H0 := H) 3 scLclauses.nd (l := []) ja_nil o (.refl o) (Nat.zero_le _) fun pr xr G1 H1 st1 g1 w1 _ => ?_
  have nn : ∀ {G' H' : Hp} {xs : List V} {ls : List Rl}, Own pr xs ls H G' H' → ∀ d, some h = some d → pr ≠ d.a := fun w d e => (w.fix (m := some h) o d e).1
  refine wb_forX (m := some h) (X := Xc P w K mg base nLclauses "_law_clauses" sLclauses (He.ga K "_law_clauses") cdv A outer s0 H0 E) (fun (_ : Nat) i σ' G' H' => Stp (some h) G H G' H' ∧ ∃ xs tks a4 a5, σ' = [some (.ref h.a), some lv, some (.int mo), some (.ref pr), a4, a5, none] ∧ tks.length = i ∧ (∀ t ∈ tks, t.Ok n) ∧ Own pr xs ((tks : List Tk).map fun t => rcl K (.tk t)) H G' H') PassesOwn.never rfl (pg_name (i := 4) scLclauses.nd rfl (.inl rfl))
    (ji_rangeX (p := fun j => j < mo + 1) (je_draw (mo + 1) (k_Ldraw T) ⟨by omega, by omega⟩ 0 (ja_cons (je_add (i := (mo : Int)) (j := 1) (je_v 2) je_int) ja_nil) hr) (fun j hj => by omega) (T.f "range")) (st1.okm o)
    (fun a G2 H2 pa s2 o2 => ⟨st1.trans o s2, xr, [], _, _, rfl, rfl, fun t ht => (by cases ht), w1.step (nn w1) s2⟩) ?_ ?_
  · rintro a pa Gc gc i R σ' G' H' x hR gg o' ⟨st, xs, tks, a4, a5, rfl, htl, hto, wr⟩ G2 H2 s2 o2 rx
    have hi : i < a := by
      obtain ⟨h, _⟩ := List.getElem?_eq_some_iff.mp hR
      rw [List.length_map, List.length_range] at h
      exact h
    have st2 := st.trans o s2
    have e2 := Rl.mono _ _ _ _ st2.gg e1
    refine wb_set (m := some h) 5 scLclauses.nd (je_draw (X := Xc P w K mg base nLclauses "_law_clauses" sLclauses (He.ga K "_law_clauses") cdv A outer s0 H0 E) l (k_Lpick T rS) ⟨hl1, by omega⟩ 0 (ja_cons (je_var 1 rfl e2) ja_nil) hr) o2 fun v3 G3 H3 s3 o3 r3 => ?_
    obtain ⟨src, hsrc, rfl⟩ := r3
    have st3 := st2.trans o s3
    have e3 := Rl.mono _ _ _ _ s3.gg e2
    have wr3 := (wr.step (nn wr) s2)
    have wr3 := wr3.step (nn wr3) s3
    refine wb_put (m := some h) (G0 := G) 3 rfl o st3 wr3 (R := Rl.ex fun t : Tk => Rl.pr (t.Ok n) (rcl K (.tk t))) (JE.imp (je_tup (l := [rS "take", rS src, Rl.ex fun j : Nat => Rl.pr (j < 5) (Rl.ls (fun _ : Nat => rXc K n) (List.range j))]) (ja_cons je_str (ja_cons (je_v 5) (ja_cons (je_lcX (p := fun j => j < 5) (ds := fun j => List.range j) (Dd := fun i : Nat => rI i) (E := fun _ => rXc K n) [("_law_j", 6)] rfl scLclauses.nd (blkOk_by rfl) (fun s H C cl fp => pg_name (i := 6) scLclauses.nd rfl (.inl rfl))
      (ji_rangeX (p := fun j => j < 5) (je_draw (X := Xc P w K mg base nLclauses "_law_clauses" sLclauses (He.ga K "_law_clauses") cdv A outer s0 H0 E) 4 (k_Lmany T) (by decide) 0 (ja_cons je_int ja_nil) hr) (fun j hj => by omega) (T.f "range")) (fun j hj => by rw [List.length_range]; omega) (T := fun d σ2 _ => ∃ y, σ2 = ([some (.ref h.a), some lv, some (.int mo), some (.ref pr), some x, some (.str src), none] : L2.St).set 6 (some y)) (fun d y G4 H4 _ _ _ Kp kk => kk _ rfl ⟨y, rfl⟩) ?_) ja_nil)))) ?_) (by rw [List.length_map]; omega) fun v4 G4 H4 st4 g4 w4 _ _ => wb_nil ?_
    · rintro d σ2 G4 g4 ⟨y, rfl⟩ s H C cl fp
      exact je_draw (X := Bk _ _ s H C cl fp) (l, n) (k_Lcondition T) hsp0 0 (ja_cons (je_var 1 rfl (Rl.mono _ _ _ _ g4 e3)) ja_nil) hr
    · rintro v G5 _ ⟨p, ys, ev, hp, al⟩
      cases al with
      | cons ex al =>
        obtain ⟨y, z, rfl, e6, j, hj, q, zs, ez, hq, bl⟩ := AlL.two al
        obtain ⟨cds, c1, c2, c3⟩ := ex_all bl
        rw [List.length_range] at c1
        exact ⟨⟨src, cds⟩, ⟨hs src hsrc, by show cds.length ≤ 4; omega, c2⟩, p, _, ev, hp, .cons ex (.cons e6 (.cons ⟨q, zs, ez, hq, c3⟩ .nil))⟩
    · obtain ⟨z1, t, ht, z2⟩ := AlL.last w4.al
      refine ⟨G4, ((gg.trans s2.gg).trans s3.gg).trans g4, st4.okm o, st4, xs ++ [v4], tks ++ [t], _, _, rfl, by rw [List.length_append, htl] <;> rfl, fun t' ht' => ?_, w4.h0, w4.g, w4.h, ?_⟩
      · rcases List.mem_append.mp ht' with q | q
        · exact hto t' q
        · rw [List.mem_singleton.mp q]
          exact ht
      · rw [List.map_append]
        exact z1.app (.cons z2 .nil)
  · rintro a pa σ' G' H' gg o' ⟨st, xs, tks, a4, a5, rfl, htl, hto, wr⟩
    rw [List.length_map, List.length_range] at htl
    have e2 := Rl.mono _ _ _ _ st.gg e1
    have pa : a < mo + 1 := pa
    let bl : List Str := (List.replicate 4 (["living", "ever"] : List Str)).flatten
    have hbl : ∀ x ∈ bl, x = "living" ∨ x = "ever" := fun x hx => by
      obtain ⟨y, hy, hx⟩ := List.mem_flatten.mp hx
      rw [(List.mem_replicate.mp hy).2] at hx
      rcases List.mem_cons.mp hx with e | hx
      · exact .inl e
      · exact .inr (List.mem_singleton.mp hx)
    have hlen : bl.length = 8 := by decide
    refine wb_put (m := some h) (G0 := G) 3 rfl o st wr (R := Rl.ex fun b : List Str => Rl.pr (b.length ≤ 4 ∧ ∀ x ∈ b, barOk n x) (rcl K (.fr b))) (JE.imp (je_tup (l := [rS "free", Rl.ex fun j : Nat => Rl.pr (j < 5) (Rl.ls (fun _ : Nat => Rl.ex fun x => Rl.pr (x ∈ l ++ bl) (rS x)) (List.range j))]) (ja_cons je_str (ja_cons (je_lcX (p := fun j => j < 5) (ds := fun j => List.range j) (Dd := fun i : Nat => rI i) (E := fun _ => Rl.ex fun x => Rl.pr (x ∈ l ++ bl) (rS x)) [("_law_j", 6)] rfl scLclauses.nd (blkOk_by rfl) (fun s H C cl fp => pg_name (i := 6) scLclauses.nd rfl (.inl rfl))
      (ji_rangeX (p := fun j => j < 5) (je_draw (X := Xc P w K mg base nLclauses "_law_clauses" sLclauses (He.ga K "_law_clauses") cdv A outer s0 H0 E) 4 (k_Lmany T) (by decide) 0 (ja_cons je_int ja_nil) hr) (fun j hj => by omega) (T.f "range")) (fun j hj => by rw [List.length_range]; omega) (T := fun d σ2 _ => ∃ y, σ2 = ([some (.ref h.a), some lv, some (.int mo), some (.ref pr), a4, a5, none] : L2.St).set 6 (some y)) (fun d y G4 H4 _ _ _ Kp kk => kk _ rfl ⟨y, rfl⟩) ?_) ja_nil))) ?_) (by rw [List.length_map]; omega) fun v4 G4 H4 st4 g4 w4 _ _ => ?_
    · rintro d σ2 G4 g4 ⟨y, rfl⟩ s H C cl fp
      refine je_draw (X := Bk (Xc P w K mg base nLclauses "_law_clauses" sLclauses (He.ga K "_law_clauses") cdv A outer s0 H0 E) _ s H C cl fp) (l ++ bl) (k_Lpick T rS) ⟨by rw [List.length_append]; omega, by rw [List.length_append, hlen]; omega⟩ 0 (ja_cons (je_catLs (l1 := l) (l2 := bl) (je_var 1 rfl (Rl.mono _ _ _ _ g4 e2)) (JE.cast (je_repL (k := 4) (je_lst (l := [rS "living", rS "ever"]) (ja_cons je_str (ja_cons je_str ja_nil))) je_int (by decide) (by decide)) ?_) (by rw [hlen]; omega)) ja_nil) hr
      show Rl.lsl (List.replicate 4 [rS "living", rS "ever"]).flatten = Rl.lsl (bl.map rS)
      rfl
    · rintro v G5 _ ⟨p, ys, ev, hp, al⟩
      obtain ⟨y, z, rfl, ex, j, hj, q, zs, ez, hq, cl⟩ := AlL.two al
      obtain ⟨bs, c1, c2, c3⟩ := ex_all cl
      rw [List.length_range] at c1
      refine ⟨bs, ⟨by omega, fun x hx => ?_⟩, p, _, ev, hp, .cons ex (.cons ⟨q, zs, ez, hq, c3⟩ .nil)⟩
      rcases List.mem_append.mp (c2 x hx) with h | h
      · exact .inl (hs x h)
      · exact .inr (hbl x h)
    · obtain ⟨z1, b, hb, z2⟩ := AlL.last w4.al
      obtain ⟨t1, t2, p, ys, ep, hp, al⟩ := w4.tell (m := some h) (G0 := G) o st4
      refine wb_ret (m := some h) (G := upd G4 pr (.lst (xs ++ [v4]))) (R := rXk K n) (je_var 3 rfl ⟨⟨tks, b⟩, ⟨by show tks.length ≤ 4; omega, hto, hb.1, hb.2⟩, p, ys, ep, hp, ?_⟩) (t1.okm o) fun v G7 H7 s7 r => k v G7 H7 (t1.trans o s7) r
      have e : ((⟨tks, b⟩ : Kl).cls.map (rcl K)) = tks.map (fun t => rcl K (.tk t)) ++ [rcl K (.fr b)] := by
        unfold Kl.cls
        rw [List.map_append, List.map_map]
        rfl
      rw [e]
      cases ep
      rw [upd_same] at hp
      cases hp
      exact (z1.app (.cons z2 .nil)).mono t2
end
end Nk
namespace Nk
open PySem PySem.Spec PyProof.Rows L2
section
variable {X : Cx} {e : Expr} {σ : L2.St} {G H : Hp} {pos p0 pn : Pos} {x nm : Str} {h : Hd}
/-- a drawing call whose argument is itself drawn -/
theorem je_drawX {ι α : Type} {p : ι → Prop} {Ra : ι → Rl} {dd : ι → α} {pre : α → Prop} {args : α → List Rl} {B : α → Rl} {k j : Nat} (c : C8.Cal X.prog X.w X.K X.mg X.base k x (spD pre args B) []) (hp : ∀ a, p a → pre (dd a)) (hargs : ∀ a, args (dd a) = [Ra a]) (i : Nat) (ha : JE (some h) X e σ G (Rl.ex fun a => Rl.pr (p a) (Ra a))) (hr : Room j X.A) (hσ : σ[i]? = some (some (.ref h.a)) := by rfl) (hk : k ≤ j := by decide) (hg : Gl X x := by rfl)
    (hN : X.N[i]? = some nm := by rfl) (hv : Vis X.env.scope nm := by first | exact Or.inl rfl | exact Or.inr (Or.inl rfl) | exact Or.inr (Or.inr rfl)) (hd1 : (nm == ("__debug__" : Str)) = false := by decide) (hcd : (nm == ("__classdict__" : Str)) = false := by decide)
    (hdb : (x == ("__debug__" : Str)) = false := by decide) (he : starEach [.Name nm pn, e] X.env = (false, eval (.Name nm pn) X.env) :: starEach [e] X.env := by rfl) (he2 : starEach [e] X.env = (false, eval e X.env) :: starEach [] X.env := by rfl) (hpl : (backTo pos (starEach [e] X.env)).any (·.1) = false := by rfl) : JE (some h) X (.Call (.Name x p0) [.Name nm pn, e] [] pos) σ G (Rl.ex fun a => Rl.pr (p a) (B (dd a))) := fun G1 H z o Q kk =>
  eP (C8.pe_c c hr hk hg (pa_cons (pe_var hN hv hd1 hcd) pA he) hdb he hpl) ⟨.ref h.a, hσ, (ja_cons ha ja_nil he2) G1 H z o _ fun ws G2 H2 s2 r2 => by
    obtain ⟨v, rfl, a, pa, rv⟩ := AlL.one r2
    refine ⟨dd a, h, G2, [v], by rw [List.append_nil], s2.okm o, hp a pa, ?_, fun v' G' H' s3 b => kk v' G' H' (s2.trans o s3) ⟨a, pa, b⟩⟩
    rw [hargs]
    exact .cons rv .nil⟩
end
section
variable {P : Program} {w : World} {K : PySem.W.Frag} {mg : Str → Option Value} {base : Heap}
abbrev rXw (K : PySem.W.Frag) (n : Nat) : Rl := Rl.ex fun l : List Wr => Rl.pr (l.length = n ∧ ∀ r ∈ l, r.Ok n) (Rl.ls rWr l)
abbrev rXh (K : PySem.W.Frag) (n : Nat) : Rl := Rl.ex fun l : List Hr => Rl.pr (l.length = n ∧ ∀ r ∈ l, r.Ok n) (Rl.ls (rHr K) l)
theorem k_Lrules (T : Tx K mg) : C8.Cal P w K mg base 4 "_law_rules" (spD (fun n : Nat => n ≤ 2) (fun n => [rI n]) fun n => Rl.tpl K [rXh K n, rXw K n, rXw K n]) [] := by
  obtain ⟨fd, F⟩ := T.F_Lrules
  refine cal_draw F (T.g "_law_rules") (F.bindsN fun _ _ _ _ _ _ us hl => match us, hl with | [_, _], _ => rfl) scLrules (fun _ => rfl) ?_
  intro cdv A outer s0 H0 E n h G H ws Q hr hn o al k
  have hn : n ≤ 2 := hn
  obtain ⟨_, rfl, e⟩ := AlL.one al
  cases e
  refine wb_new (m := some h) (G0 := G) (H0 := H) 2 scLrules.nd (l := []) ja_nil o (.refl o) (Nat.zero_le _) fun pr xr G1 H1 st1 g1 w1 _ => ?_
  have nn : ∀ {G' H' : Hp} {xs : List V} {ls : List Rl}, Own pr xs ls H G' H' → ∀ d, some h = some d → pr ≠ d.a := fun w d e => (w.fix (m := some h) o d e).1
  refine wb_for (m := some h) (fun i σ' G' H' => Stp (some h) G H G' H' ∧ ∃ xs rs a3 a4, σ' = [some (.ref h.a), some (.int n), some (.ref pr), a3, a4, none, none] ∧ rs.length = i ∧ (∀ r ∈ rs, r.Ok n) ∧ Own pr xs ((rs : List Hr).map (rHr K)) H G' H') PassesOwn.never rfl (pg_name (i := 3) scLrules.nd rfl (.inl rfl))
    (ji_range (n := n) (je_v 1) (by omega) (T.f "range")) (st1.okm o) (fun G2 H2 s2 o2 => ⟨st1.trans o s2, xr, [], _, _, rfl, rfl, fun r hr => (by cases hr), w1.step (nn w1) s2⟩) ?_ ?_
  · rintro Gc gc i R σ' G' H' x hR gg o' ⟨st, xs, rs, a3, a4, rfl, hl, ho, wr⟩ G2 H2 s2 o2 rx
    have hi : i < n := by
      obtain ⟨h, _⟩ := List.getElem?_eq_some_iff.mp hR
      rw [List.length_map, List.length_range] at h
      exact h
    have st2 := st.trans o s2
    refine wb_set (m := some h) 4 scLrules.nd (je_draw (X := Xc P w K mg base nLrules "_law_rules" sLrules (He.ga K "_law_rules") cdv A outer s0 H0 E) (["f", "m", "given"] : List Str) (k_Lpick T rS) ⟨by decide, by decide⟩ 0 (ja_cons (je_lst (l := [rS "f", rS "m", rS "given"]) (ja_cons je_str (ja_cons je_str (ja_cons je_str ja_nil)))) ja_nil) hr) o2 fun v3 G3 H3 s3 o3 r3 => ?_
    obtain ⟨lt, hlt, rfl⟩ := r3
    have st3 := st2.trans o s3
    have wr3 := wr.step (nn wr) s2
    have wr3 := wr3.step (nn wr3) s3
    have hlt : lt = "f" ∨ lt = "m" ∨ lt = "given" := by
      rcases List.mem_cons.mp hlt with h | h
      · exact .inl h
      · rcases List.mem_cons.mp h with h | h
        · exact .inr (.inl h)
        · exact .inr (.inr (List.mem_singleton.mp h))
    refine wb_put (m := some h) (G0 := G) 2 rfl o st3 wr3 (R := Rl.ex fun r : Hr => Rl.pr (r.Ok n) (rHr K r)) (JE.imp (je_tup (l := [rS lt, Rl.ex fun q : Bool × Str × Nat => Rl.pr (if lt = "given" then q.1 = true ∧ (q.2.1 = "f" ∨ q.2.1 = "m") else q.1 = false ∧ q.2.2 < n) (if q.1 = true then rS q.2.1 else rI q.2.2)]) (ja_cons (je_v 4) (ja_cons (je_ifE (jt_eq (je_v 4) je_str) (fun hq => JE.imp (je_draw (X := Xc P w K mg base nLrules "_law_rules" sLrules (He.ga K "_law_rules") cdv A outer s0 H0 E) (["f", "m"] : List Str) (k_Lpick T rS) ⟨by decide, by decide⟩ 0 (ja_cons (je_lst (l := [rS "f", rS "m"]) (ja_cons je_str (ja_cons je_str ja_nil))) ja_nil) hr) ?_) (fun hq => JE.imp (je_draw (X := Xc P w K mg base nLrules "_law_rules" sLrules (He.ga K "_law_rules") cdv A outer s0 H0 E) n (k_Ldraw T) ⟨by omega, by omega⟩ 0 (ja_cons (je_v 1) ja_nil) hr) ?_)) ja_nil))) ?_) (by rw [List.length_map]; omega) fun v4 G4 H4 st4 g4 w4 _ _ => wb_nil ?_
    · have hg := V.str.inj (decide_eq_true_iff.mp hq.symm)
      rintro v G5 _ ⟨y, hy, ev⟩
      refine ⟨(true, y, 0), ?_, ?_⟩
      · rw [if_pos hg]
        refine ⟨rfl, ?_⟩
        rcases List.mem_cons.mp hy with e | hy
        · exact .inl e
        · exact .inr (List.mem_singleton.mp hy)
      · exact ev
    · have hg : ¬ lt = "given" := fun e => (decide_eq_false_iff_not.mp hq.symm) (by rw [e])
      rintro v G5 _ ⟨j, hj, ev⟩
      refine ⟨(false, "", j), ?_, ?_⟩
      · rw [if_neg hg]
        exact ⟨rfl, hj⟩
      · exact ev
    · rintro v G5 _ ⟨p, ys, ev, hp, al⟩
      obtain ⟨y, z, rfl, ey, ⟨b, t, j⟩, hq, ez⟩ := AlL.two al
      by_cases hg : lt = "given"
      · rw [if_pos hg] at hq
        obtain ⟨rfl, ht⟩ := hq
        subst hg
        exact ⟨.giv t, ht, p, _, ev, hp, .cons ey (.cons ez .nil)⟩
      · rw [if_neg hg] at hq
        obtain ⟨rfl, hj⟩ := hq
        refine ⟨.par lt j, ⟨?_, hj⟩, p, _, ev, hp, .cons ey (.cons ez .nil)⟩
        rcases hlt with h | h | h
        · exact .inl h
        · exact .inr h
        · exact absurd h hg
    · obtain ⟨z1, r, hro, z2⟩ := AlL.last w4.al
      refine ⟨G4, ((gg.trans s2.gg).trans s3.gg).trans g4, st4.okm o, st4, xs ++ [v4], rs ++ [r], _, _, rfl, by rw [List.length_append, hl] <;> rfl, fun r' hr' => ?_, w4.h0, w4.g, w4.h, ?_⟩
      · rcases List.mem_append.mp hr' with q | q
        · exact ho r' q
        · rw [List.mem_singleton.mp q]
          exact hro
      · rw [List.map_append]
        exact z1.app (.cons z2 .nil)
  · rintro σ' G' H' gg o' ⟨st, xs, rs, a3, a4, rfl, hl, ho, wr⟩
    rw [List.length_map, List.length_range] at hl
    have hX : True := trivial
    obtain ⟨t1, t2, t3⟩ := wr.tell (m := some h) (G0 := G) o st
    have rh : (rXh K n).p (.ref pr) (upd G' pr (.lst xs)) := ⟨rs, ⟨hl, ho⟩, t3⟩
    generalize upd G' pr (.lst xs) = G2 at t1 t2 rh
    refine wb_setLcA (m := some h) (ds := List.range n) (DD := fun i : Nat => rI i) (E := fun _ => Rl.ex fun r : Wr => Rl.pr (r.Ok n) (rWr r)) 5 [("_law_k", 3)] rfl scLrules.nd (blkOk_by rfl) (fun s H C cl fp => pg_name (i := 3) scLrules.nd rfl (.inl rfl))
      (ji_range (n := n) (je_v 1) (by omega) (T.f "range")) (by rw [List.length_range]; omega) (lc_name fun x => rfl) ?_ (t1.okm o) fun v5 G5 H5 s5 o5 r5 => ?_
    · rintro d hd σ2 G9 g9 ⟨y, rfl, ry⟩ s H C cl fp
      have hn1 : 1 ≤ n := by
        have := List.mem_range.mp hd
        omega
      refine JE.imp (je_drawX (X := Bk (Xc P w K mg base nLrules "_law_rules" sLrules (He.ga K "_law_rules") cdv A outer s0 H0 E) _ s H C cl fp) (p := fun j : Nat => j < n) (Ra := fun j => Rl.ls rWr [Wr.own, Wr.mate j]) (dd := fun j => [Wr.own, Wr.mate j]) (k_Lpick T rWr) (fun j _ => ⟨Nat.le_of_ble_eq_true rfl, Nat.le_of_ble_eq_true rfl⟩) (fun j => rfl) 0
        (JE.imp (je_lst (l := [rS "own", rUn n]) (ja_cons je_str (ja_cons (je_draw (X := Bk (Xc P w K mg base nLrules "_law_rules" sLrules (He.ga K "_law_rules") cdv A outer s0 H0 E) _ s H C cl fp) n (k_Ldraw T) ⟨hn1, by omega⟩ 0 (ja_cons (je_v 1) ja_nil) hr) ja_nil))) ?_) hr) ?_
      · rintro v G5 _ ⟨p, ys, ev, hp, al⟩
        obtain ⟨y1, y2, rfl, e1, j, hj, e2⟩ := AlL.two al
        exact ⟨j, hj, p, _, ev, hp, .cons e1 (.cons e2 .nil)⟩
      · rintro v G5 _ ⟨j, hj, r, hr1, ev⟩
        refine ⟨r, ?_, ev⟩
        rcases List.mem_cons.mp hr1 with rfl | hr1
        · trivial
        · rw [List.mem_singleton.mp hr1]
          exact hj
    refine wb_setLcA (m := some h) (ds := List.range n) (DD := fun i : Nat => rI i) (E := fun _ => Rl.ex fun r : Wr => Rl.pr (r.Ok n) (rWr r)) 6 [("_law_k", 3)] rfl scLrules.nd (blkOk_by rfl) (fun s H C cl fp => pg_name (i := 3) scLrules.nd rfl (.inl rfl))
      (ji_range (n := n) (je_v 1) (by omega) (T.f "range")) (by rw [List.length_range]; omega) (lc_name fun x => rfl) ?_ o5 fun v6 G6 H6 s6 o6 r6 => ?_
    · rintro d hd σ2 G9 g9 ⟨y, rfl, ry⟩ s H C cl fp
      have hn1 : 1 ≤ n := by
        have := List.mem_range.mp hd
        omega
      refine JE.imp (je_drawX (X := Bk (Xc P w K mg base nLrules "_law_rules" sLrules (He.ga K "_law_rules") cdv A outer s0 H0 E) _ s H C cl fp) (p := fun j : Nat => j < n) (Ra := fun j => Rl.ls rWr [Wr.own, Wr.mate j]) (dd := fun j => [Wr.own, Wr.mate j]) (k_Lpick T rWr) (fun j _ => ⟨Nat.le_of_ble_eq_true rfl, Nat.le_of_ble_eq_true rfl⟩) (fun j => rfl) 0
        (JE.imp (je_lst (l := [rS "own", rUn n]) (ja_cons je_str (ja_cons (je_draw (X := Bk (Xc P w K mg base nLrules "_law_rules" sLrules (He.ga K "_law_rules") cdv A outer s0 H0 E) _ s H C cl fp) n (k_Ldraw T) ⟨hn1, by omega⟩ 0 (ja_cons (je_v 1) ja_nil) hr) ja_nil))) ?_) hr) ?_
      · rintro v G5 _ ⟨p, ys, ev, hp, al⟩
        obtain ⟨y1, y2, rfl, e1, j, hj, e2⟩ := AlL.two al
        exact ⟨j, hj, p, _, ev, hp, .cons e1 (.cons e2 .nil)⟩
      · rintro v G5 _ ⟨j, hj, r, hr1, ev⟩
        refine ⟨r, ?_, ev⟩
        rcases List.mem_cons.mp hr1 with rfl | hr1
        · trivial
        · rw [List.mem_singleton.mp hr1]
          exact hj
    have cv : ∀ {v : V} {G : Hp}, (Rl.ls (fun _ : Nat => Rl.ex fun r : Wr => Rl.pr (r.Ok n) (rWr r)) (List.range n)).p v G → (rXw K n).p v G := fun {v G} hv => by
      obtain ⟨p, ys, ev, hp, al⟩ := hv
      obtain ⟨ws, c1, c2, c3⟩ := ex_all al
      rw [List.length_range] at c1
      exact ⟨ws, ⟨c1, c2⟩, p, ys, ev, hp, c3⟩
    exact wb_ret (m := some h) (je_tup (l := [rXh K n, rXw K n, rXw K n]) (ja_cons (je_var 2 rfl (Rl.mono _ _ _ _ (s5.gg.trans s6.gg) rh)) (ja_cons (je_var 5 rfl (Rl.mono _ _ _ _ s6.gg (cv r5))) (ja_cons (je_var 6 rfl (cv r6)) ja_nil)))) o6 fun v G7 H7 s7 r => k v G7 H7 (((t1.trans o s5).trans o s6).trans o s7) r
end
end Nk
namespace Nk
open PySem PySem.Spec PyProof.Rows L2
theorem jt_eqU {m : Option Hd} {X : Cx} {a b : Expr} {σ : L2.St} {G : Hp} {pos : Pos} {n : Nat} {i : Int} (ha : JE m X a σ G (rUn n)) (hb : JE m X b σ G (rI i)) (hm : behindInMarks .Eq b = false := by first | exact nomark _ | rfl) : JT m X (.Compare a [.Eq] [b] pos) σ G fun _ => True := fun G1 H z o Q k =>
  tP (pt_cmpR op_eq pE pE hm) (ha G1 H z o _ fun x G2 H2 s2 ⟨j, _, ex⟩ => hb G2 H2 (z.trans s2.gg) (s2.okm o) _ fun y G3 H3 s3 ey => by
    cases ex; cases ey
    exact ⟨rfl, _, rfl, k _ G3 H3 (s2.trans o s3) trivial⟩)
section
variable {P : Program} {w : World} {K : PySem.W.Frag} {mg : Str → Option Value} {base : Heap}
abbrev rXcu (K : PySem.W.Frag) : Rl := Rl.ex fun c : Cu => Rl.pr c.Ok (rcu K c)
theorem srcs_len : ∀ n ≤ 2, 1 ≤ (srcsL n).length ∧ (srcsL n).length ≤ 100 := by decide +kernel
theorem k_Lcustom (T : Tx K mg) : C8.Cal P w K mg base 6 "_law_custom" (spD (fun mo : Nat => 1 ≤ mo ∧ mo ≤ 4) (fun mo => [rI mo]) fun _ => rXcu K) [] := by
  obtain ⟨fd, F⟩ := T.F_Lcustom
  refine cal_draw F (T.g "_law_custom") (F.bindsN fun _ _ _ _ _ _ us hl => match us, hl with | [_, _], _ => rfl) scLcustom (fun _ => rfl) ?_
  intro cdv A outer s0 H0 E mo h G H ws Q hr hm o al k
  obtain ⟨_, rfl, e⟩ := AlL.one al
  cases e
  refine wb_set (m := some h) 2 scLcustom.nd (je_draw 3 (k_Ldraw T) ⟨by decide, by decide⟩ 0 (ja_cons je_int ja_nil) hr) o fun v1 G1 H1 s1 o1 r1 => ?_
  obtain ⟨n, hn, rfl⟩ := r1
  have hn2 : n ≤ 2 := by omega
  refine wb_set (m := some h) 3 scLcustom.nd (je_call n (k_Lsources T) hn2 (ja_cons (je_v 2) ja_nil) hr) o1 fun v2 G2 H2 s2 o2 r2 => ?_
  -- behind the sources
  have after : ∀ (l : List Str) (v3 : V) (G3 H3 : Hp), Stp (some h) G H G3 H3 → (Rl.ls rS l).p v3 G3 → srcP (l, n) →
      WB (Xc P w K mg base nLcustom "_law_custom" sLcustom (He.ga K "_law_custom") cdv A outer s0 H0 E) ((defBody sLcustom).drop 3) { nx := fun _ H' => Q .non H', rt := Q } [some (.ref h.a), some (.int mo), some (.int n), some v3, none, none, none, none] H3 := by
    intro l v3 G3 H3 st3 r3 hsp
    have o3 := st3.okm o
    refine wb_par (m := some h) (Ra := rXk K n) (Rb := rXk K n) 4 5 rfl scLcustom.nd (by decide) (ja_cons (je_draw (X := Xc P w K mg base nLcustom "_law_custom" sLcustom (He.ga K "_law_custom") cdv A outer s0 H0 E) (l, n, mo) (k_Lclauses T) ⟨hsp, hm⟩ 0 (ja_cons (je_var 3 rfl r3) (ja_cons (je_v 1) ja_nil)) hr) (ja_cons (je_draw (X := Xc P w K mg base nLcustom "_law_custom" sLcustom (He.ga K "_law_custom") cdv A outer s0 H0 E) (l, n, mo) (k_Lclauses T) ⟨hsp, hm⟩ 0 (ja_cons (je_var 3 rfl r3) (ja_cons (je_v 1) ja_nil)) hr) ja_nil)) o3 fun v4 v5 G4 H4 s4 o4 r4 r5 => ?_
    obtain ⟨ks, hks, r4⟩ := r4
    obtain ⟨kd, hkd, r5⟩ := r5
    refine wb_set (m := some h) 6 scLcustom.nd (je_draw (X := Xc P w K mg base nLcustom "_law_custom" sLcustom (He.ga K "_law_custom") cdv A outer s0 H0 E) n (k_Lrules T) hn2 0 (ja_cons (je_v 2) ja_nil) hr) o4 fun v6 G6 H6 s6 o6 r6 => ?_
    have r4 := Rl.mono _ _ _ _ s6.gg r4
    have r5 := Rl.mono _ _ _ _ s6.gg r5
    refine wb_ret (m := some h) (R := rXcu K) (JE.imp (je_tup (l := [Rl.ls (rcl K) ks.cls, Rl.ls (rcl K) kd.cls, rXh K n, rXw K n, rXw K n]) (ja_cons (je_var 4 rfl r4) (ja_cons (je_var 5 rfl r5) (ja_cons (je_ixT (l := [rXh K n, rXw K n, rXw K n]) (je_var 6 rfl r6) je_int) (ja_cons (je_ixT (l := [rXh K n, rXw K n, rXw K n]) (je_var 6 rfl r6) je_int) (ja_cons (je_ixT (l := [rXh K n, rXw K n, rXw K n]) (je_var 6 rfl r6) je_int) ja_nil)))))) ?_) o6 fun v G7 H7 s7 r => k v G7 H7 (((st3.trans o s4).trans o s6).trans o s7) r
    rintro v G8 _ ⟨p, ys, ev, hp, al⟩
    cases al with
    | cons e1 al => cases al with
      | cons e2 al => cases al with
        | cons e3 al =>
          obtain ⟨y4, y5, rfl, e4, e5⟩ := AlL.two al
          obtain ⟨hl, ⟨h1, h2⟩, e3⟩ := e3
          obtain ⟨sl, ⟨h3, h4⟩, e4⟩ := e4
          obtain ⟨dl, ⟨h5, h6⟩, e5⟩ := e5
          exact ⟨⟨ks, kd, hl, sl, dl⟩, ⟨by show hl.length ≤ 2; omega, by show ks.Ok hl.length; rw [h1]; exact hks, by show kd.Ok hl.length; rw [h1]; exact hkd, by show ∀ r ∈ hl, r.Ok hl.length; rw [h1]; exact h2, by show sl.length = hl.length; omega, by show dl.length = hl.length; omega, by show ∀ r ∈ sl, r.Ok hl.length; rw [h1]; exact h4, by show ∀ r ∈ dl, r.Ok hl.length; rw [h1]; exact h6⟩, p, _, ev, hp, .cons e1 (.cons e2 (.cons e3 (.cons e4 (.cons e5 .nil))))⟩
  have hsl := srcs_len n hn2
  refine wb_if (m := some h) (jt_eqU (je_draw (X := Xc P w K mg base nLcustom "_law_custom" sLcustom (He.ga K "_law_custom") cdv A outer s0 H0 E) 2 (k_Ldraw T) ⟨by decide, by decide⟩ 0 (ja_cons je_int ja_nil) hr) je_int) o2 (fun _ G3 H3 s3 o3 => ?_) (fun _ G3 H3 s3 o3 => wb_nil ?_)
  · refine wb_set (m := some h) 3 scLcustom.nd (je_lcA (ds := List.range 3) (D := fun i : Nat => rI i) (E := fun _ => Rl.ex fun x => Rl.pr (x ∈ srcsL n) (rS x)) [("_law_k", 7)] rfl scLcustom.nd (blkOk_by rfl) (fun s H C cl fp => pg_name (i := 7) scLcustom.nd rfl (.inl rfl))
      (ji_range (n := 3) je_int (by decide) (T.f "range")) (by decide) (lc_name fun x => rfl) ?_) o3 fun v4 G4 H4 s4 o4 r4 => wb_nil ?_
    · rintro d hd σ2 G9 g9 ⟨y, rfl, ry⟩ s H C cl fp
      exact je_draw (X := Bk (Xc P w K mg base nLcustom "_law_custom" sLcustom (He.ga K "_law_custom") cdv A outer s0 H0 E) _ s H C cl fp) (srcsL n) (k_Lpick T rS) ⟨hsl.1, by omega⟩ 0 (ja_cons (je_var 3 rfl (Rl.mono _ _ _ _ (s3.gg.trans g9) r2)) ja_nil) hr
    · obtain ⟨p, ys, ev, hp, al⟩ := r4
      obtain ⟨l, c1, c2, c3⟩ := ex_all al
      exact after l v4 G4 H4 (((s1.trans o s2).trans o s3).trans o s4) ⟨p, ys, ev, hp, c3⟩ ⟨c2, by show 1 ≤ l.length; rw [c1]; decide, by show l.length ≤ 100; rw [c1]; decide, hn2⟩
  · exact after (srcsL n) v2 G3 H3 ((s1.trans o s2).trans o s3) (Rl.mono _ _ _ _ s3.gg r2) ⟨fun s hs => hs, hsl.1, hsl.2, hn2⟩
end
end Nk
namespace Nk
open PySem PySem.Spec PyProof.Rows L2
/-- the script: a list, wherever it stands -/
theorem Same.lsq {K : PySem.W.Frag} {H H' : Hp} {a : Addr} {xs : List V} (e : Same H H') (h : SqL K H a xs) : SqL K H' a xs := by
  rcases h with (h | ⟨o, h⟩) | h
  · exact .inl (.inl (e _ _ h))
  · exact .inl (.inr ⟨o, e _ _ h⟩)
  · exact .inr h
def Rl.lsq (K : PySem.W.Frag) (l : List Rl) : Rl := ⟨fun v G => ∃ p xs, v = .ref p ∧ SqL K G p xs ∧ AlL l xs G, fun _ _ _ s ⟨p, xs, e, h, a⟩ => ⟨p, xs, e, Same.lsq s h, a.mono s⟩⟩
section
variable {m : Option Hd} {X : Cx} {a tg : Expr} {σ : L2.St} {G : Hp} {l : List Rl} {pos p0 : Pos}
theorem ji_listS (ha : JE m X a σ G (Rl.lsq X.K l)) : JI m X tg a σ G l := fun G1 H z o R k =>
  iP (pi_list pE) (ha G1 H z o _ fun v G2 H2 s2 ⟨p, xs, ev, hp, al⟩ => ⟨p, ev, ⟨xs, Same.lsq s2.gh hp⟩, k _ G2 H2 s2 fun G3 H3 g3 o3 => by
    have hq : SqL X.K H3 p xs := Same.lsq o3.1 (Same.lsq g3 hp)
    refine ⟨fun i R hR => ?_, ⟨xs, hq, by rw [al.len] <;> exact Nat.le_refl _⟩⟩
    obtain ⟨w, h1, h2⟩ := al.get hR
    refine ⟨⟨xs, w, hq, h1⟩, fun x H' hy => ?_⟩
    obtain ⟨rfl, hy⟩ := hy
    have e := hy xs hq
    rw [h1] at e
    cases e
    exact ⟨G3, .refl o3, R.mono _ _ _ g3 h2⟩⟩)
theorem ji_enumS {elts : List Expr} {kk : Nat} {tpos : Pos} (ha : JE m X a σ G (Rl.lsq X.K l)) (hm : X.mg "enumerate" = none) (hg : Gl X "enumerate" := by rfl) (hs : starEach [a] X.env = [(false, eval a X.env)] := by rfl) :
    JI m X (.Tuple elts kk tpos) (.Call (.Name "enumerate" p0) [a] [] pos) σ G (l.zipIdx.map fun p => Rl.tph [rI p.2, p.1]) := fun G1 H z o R k =>
  iP (pi_enum hg hm pA hs) ((ja_cons ha ja_nil hs) G1 H z o _ fun vs G2 H2 s2 al => by
    obtain ⟨v, rfl, p, xs, rfl, hp, bl⟩ := AlL.one al
    refine ⟨p, xs, rfl, Same.lsq s2.gh hp, k _ G2 H2 s2 fun G3 H3 g3 o3 => ?_⟩
    have hq : SqL X.K H3 p xs := Same.lsq o3.1 (Same.lsq g3 hp)
    refine ⟨fun i R hR => ?_, ⟨xs, hq, by rw [List.length_map, List.length_zipIdx, bl.len] <;> exact Nat.le_refl _⟩⟩
    rw [List.getElem?_map, List.getElem?_zipIdx] at hR
    cases q : l[i]? with
    | none =>
      rw [q] at hR
      cases hR
    | some R0 =>
      rw [q] at hR
      simp only [Option.map_some, Option.some.injEq] at hR
      subst hR
      obtain ⟨w, h1, h2⟩ := bl.get q
      refine ⟨⟨xs, w, hq, h1⟩, fun x H' hy => ?_⟩
      obtain ⟨T, y, rfl, hT, rfl, hy⟩ := hy
      have e := hy xs hq
      rw [h1] at e
      cases e
      have st := Stp.new (m := m) o3 (u := .tup [.int (i : Nat), w]) hT
      refine ⟨_, st, T, _, rfl, upd_same, .cons ?_ (.cons (R0.mono _ _ _ (g3.trans st.gg) h2) .nil)⟩
      show V.int _ = V.int _
      congr 1
      omega)
end
section
variable {P : Program} {w : World} {K : PySem.W.Frag} {mg : Str → Option Value} {base : Heap}
def absI (i : Int) : Int := if i < 0 then -i else i
theorem absI_nn (i : Int) : 0 ≤ absI i := by
  unfold absI
  split <;> omega
theorem k_Lhand (T : Tx K mg) : C8.Cal P w K mg base 1 "_law_hand" (spF (fun ns : List Int => ns.length ≤ 1000) (fun ns => [Rl.lsq K (ns.map rI)]) fun ns => Rl.ex fun t : Int => Rl.pr (0 ≤ t ∧ t < 2147483629) (Rl.lsl [Rl.ls rI (ns.map absI), rI 0, rI 0, rI t])) [] := by
  obtain ⟨fd, F⟩ := T.F_Lhand
  refine cal_pure F (T.g "_law_hand") (F.bindsN fun _ _ _ _ _ _ us hl => match us, hl with | [_], _ => rfl) scLhand (fun _ => rfl) ?_
  intro cdv A outer s0 H0 E ns G H vs Q hr hn o al k
  have hn : ns.length ≤ 1000 := hn
  obtain ⟨sv, rfl, e1⟩ := AlL.one al
  refine wb_set 1 scLhand.nd je_int o fun v1 G1 H1 s1 o1 r1 => ?_
  cases r1
  refine wb_for (fun i σ' G' H' => Stp none G H G' H' ∧ ∃ t a b, σ' = [some sv, some (.int t), a, b] ∧ 0 ≤ t ∧ t < 2147483629) PassesOwn.never rfl (pg_two 2 3 rfl scLhand.nd)
    (ji_enumS (je_var 0 rfl (Rl.mono _ _ _ _ s1.gg e1)) (T.f "enumerate")) o1 (fun G2 H2 s2 o2 => ⟨s1.trans o s2, 0, _, _, rfl, by decide, by decide⟩) ?_ ?_
  · rintro Gc gc i R σ' G' H' x hR gg o' ⟨st, t, a, b, rfl, t0, t1⟩ G3 H3 s3 o3 rx
    rw [List.getElem?_map, List.getElem?_zipIdx, List.getElem?_map] at hR
    cases hc : ns[i]? with
    | none =>
      rw [hc] at hR
      cases hR
    | some c =>
      rw [hc] at hR
      cases hR
      have hi : i < ns.length := by
        obtain ⟨h, _⟩ := List.getElem?_eq_some_iff.mp hc
        exact h
      refine g_two (tph_tpl rx) o3.1 fun v u rv ru => ?_
      cases rv; cases ru
      refine wb_set 1 scLhand.nd (je_mod (j := 2147483629) (je_intI (je_add (je_mul (je_v 1) je_int (.inr (by decide))) (je_mul (je_intI (je_v 3) (T.f "int")) (je_add (i := ((0 + i : Nat) : Int)) (je_v 2) je_int) (.inr (by omega)))) (T.f "int")) je_int (by decide)) o3 fun v4 G4 H4 s4 o4 r4 => wb_nil ?_
      cases r4
      exact ⟨G4, (gg.trans s3.gg).trans s4.gg, o4, (st.trans o s3).trans o s4, _, _, _, rfl, Int.emod_nonneg _ (by decide), Int.emod_lt_of_pos _ (by decide)⟩
  · rintro σ' G' H' gg o' ⟨st, t, a, b, rfl, t0, t1⟩
    refine wb_ret (R := Rl.ex fun t : Int => Rl.pr (0 ≤ t ∧ t < 2147483629) (Rl.lsl [Rl.ls rI (ns.map absI), rI 0, rI 0, rI t])) (JE.imp (je_lst (l := [Rl.ls rI (ns.map absI), rI 0, rI 0, rI t]) (ja_cons (je_lsmap (D := rI) (f := absI) (je_lcA (ds := ns) (D := rI) (E := fun i => rI (absI i)) [("_law_cell", 3)] rfl scLhand.nd (blkOk_by rfl) (fun s H C cl fp => pg_name (i := 3) scLhand.nd rfl (.inl rfl))
      (ji_listS (je_var 0 rfl (Rl.mono _ _ _ _ st.gg e1))) (by omega) (lc_name fun x => rfl) ?_)) (ja_cons je_int (ja_cons je_int (ja_cons (je_v 1) ja_nil))))) fun v G5 _ hv => ⟨t, ⟨t0, t1⟩, hv⟩) o' fun v G5 H5 s5 r => k v G5 H5 (st.trans o s5) r
    rintro d hd σ2 G9 g9 ⟨y, rfl, ry⟩ s H C cl fp
    cases ry
    exact je_abs (je_intI (je_v 3) (T.f "int")) (T.f "abs")
end
end Nk
namespace Nk
open PySem PySem.Spec PyProof.Rows L2
/-! ### what is read hangs on the set of customs alone -/
theorem needs_mem {cs : List Cu} {p q : Str × Str} : q ∈ needs cs p ↔ (∃ i, hpl p.2 = some i ∧ ∃ c ∈ cs, q ∈ hneed c p.1 i) ∨ (hpl p.2 = none ∧ p.2 ≠ "" ∧ q = plc p.2) := by
  unfold needs
  cases h : hpl p.2 with
  | some i =>
    dsimp only
    rw [List.mem_flatMap]
    constructor
    · rintro ⟨c, hc, hq⟩
      exact .inl ⟨i, rfl, c, hc, hq⟩
    · rintro (⟨j, e, c, hc, hq⟩ | ⟨e, _⟩)
      · cases e
        exact ⟨c, hc, hq⟩
      · cases e
  | none =>
    dsimp only
    by_cases e : p.2 = ""
    · rw [if_pos e]
      constructor
      · intro h; cases h
      · rintro (⟨j, e, _⟩ | ⟨_, n, _⟩)
        · cases e
        · exact absurd e n
    · rw [if_neg e, List.mem_singleton]
      constructor
      · intro h
        exact .inr ⟨rfl, e, h⟩
      · rintro (⟨j, e, _⟩ | ⟨_, _, h⟩)
        · cases e
        · exact h
theorem needs_set {cs cs' : List Cu} (h : ∀ c, c ∈ cs → c ∈ cs') {p q : Str × Str} (hq : q ∈ needs cs p) : q ∈ needs cs' p := by
  rw [needs_mem] at hq ⊢
  rcases hq with ⟨i, e, c, hc, hq⟩ | h2
  · exact .inl ⟨i, e, c, h c hc, hq⟩
  · exact .inr h2
theorem rch_set {cs cs' : List Cu} (h : ∀ c, c ∈ cs → c ∈ cs') {f f' : List (Str × Str)} (hf : ∀ q ∈ f, q ∈ f') {q : Str × Str} (r : Rch cs f q) : Rch cs' f' q := by
  induction r with
  | base hq => exact .base (hf _ hq)
  | step _ hq ih => exact .step ih (needs_set h hq)
theorem first_set {cs cs' : List Cu} (h : ∀ c, c ∈ cs → c ∈ cs') {more marks : List Str} : ∀ q ∈ firstL cs more marks false, q ∈ firstL cs' more marks false := by
  intro q hq
  unfold firstL at hq ⊢
  rw [if_neg Bool.false_ne_true, List.append_nil] at hq ⊢
  obtain ⟨s, hs, rfl⟩ := List.mem_map.mp hq
  refine List.mem_map_of_mem ?_
  rcases List.mem_append.mp hs with hs | hs
  · refine List.mem_append_left _ ?_
    rcases List.mem_append.mp hs with hs | hs
    · exact List.mem_append_left _ hs
    · refine List.mem_append_right _ ?_
      unfold allSrcs at hs ⊢
      obtain ⟨c, hc, hs⟩ := List.mem_flatMap.mp hs
      exact List.mem_flatMap.mpr ⟨c, h c hc, hs⟩
  · exact List.mem_append_right _ hs
theorem life_set {cs cs' : List Cu} (h : ∀ c, c ∈ cs → c ∈ cs') {further : List Str} : ∀ q ∈ lifeL cs further, q ∈ lifeL cs' further := by
  intro q hq
  unfold lifeL at hq ⊢
  obtain ⟨s, hs, rfl⟩ := List.mem_map.mp hq
  refine List.mem_map_of_mem ?_
  rcases List.mem_append.mp hs with hs | hs
  · exact List.mem_append_left _ hs
  · refine List.mem_append_right _ ?_
    unfold allLives at hs ⊢
    obtain ⟨c, hc, hs⟩ := List.mem_flatMap.mp hs
    exact List.mem_flatMap.mpr ⟨c, h c hc, hs⟩
theorem six_set {cs cs' : List Cu} (h : ∀ c, c ∈ cs ↔ c ∈ cs') (ok : ∀ c ∈ cs, c.Ok) (fu : ∀ q ∈ firstL cs [] [] false, q ∈ univ) (lu : ∀ q ∈ lifeL cs [], q ∈ univ) : six cs [] [] [] false = six cs' [] [] [] false := by
  have ok' : ∀ c ∈ cs', c.Ok := fun c hc => ok c ((h c).mpr hc)
  have fu' : ∀ q ∈ firstL cs' [] [] false, q ∈ univ := fun q hq => fu q (first_set (fun c hc => (h c).mpr hc) q hq)
  have lu' : ∀ q ∈ lifeL cs' [], q ∈ univ := fun q hq => lu q (life_set (fun c hc => (h c).mpr hc) q hq)
  have e1 : ∀ q, (lclosed cs (firstL cs [] [] false)).contains q = (lclosed cs' (firstL cs' [] [] false)).contains q := fun q => contains_iff (by
    rw [mem_closed ok fu, mem_closed ok' fu']
    exact ⟨fun r => rch_set (fun c => (h c).mp) (first_set fun c => (h c).mp) r, fun r => rch_set (fun c => (h c).mpr) (first_set fun c => (h c).mpr) r⟩)
  have e2 : ∀ q, (lclosed [] (lifeL cs [])).contains q = (lclosed [] (lifeL cs' [])).contains q := fun q => contains_iff (by
    rw [mem_closed (fun c z => absurd z List.not_mem_nil) lu, mem_closed (fun c z => absurd z List.not_mem_nil) lu']
    exact ⟨fun r => rch_set (fun c => id) (life_set fun c => (h c).mp) r, fun r => rch_set (fun c => id) (life_set fun c => (h c).mpr) r⟩)
  have e3 : ∀ x, (allTrk cs ++ []).contains x = (allTrk cs' ++ []).contains x := fun x => by
    rw [Bool.eq_iff_iff, List.contains_iff_mem, List.contains_iff_mem, List.append_nil, List.append_nil]
    unfold allTrk
    rw [List.mem_flatMap, List.mem_flatMap]
    exact ⟨fun ⟨c, hc, q⟩ => ⟨c, (h c).mp hc, q⟩, fun ⟨c, hc, q⟩ => ⟨c, (h c).mpr hc, q⟩⟩
  have e4 : ∀ k : Str, (cs.any fun c => klNum (c.kl k)) = (cs'.any fun c => klNum (c.kl k)) := fun k => by
    rw [Bool.eq_iff_iff, List.any_eq_true, List.any_eq_true]
    exact ⟨fun ⟨c, hc, q⟩ => ⟨c, (h c).mp hc, q⟩, fun ⟨c, hc, q⟩ => ⟨c, (h c).mpr hc, q⟩⟩
  unfold six
  dsimp only
  simp only [e1, e2, e3, e4]
end Nk
namespace Nk
open PySem PySem.Spec PyProof.Rows L2 NdefX
/-! ### an own exception over ValueError whose __init__ says super().__init__('..') -/
abbrev supF (qual : Str) (st : Stmt) (cc cda : Addr) : NF := ⟨"__init__", qual, C8.fnArgs st, C8.fnBody st, C8.fnScope st, [("__class__", cc)], cda⟩
/-- what its text must be: one more parameter and field f -/
structure SupT (st : Stmt) (f : Str) : Prop where
  body : ∃ m j p0 p1 p2 p3 p4 p5 p6 p7 p8 p9, C8.fnBody st = [.Expr (.Call (.Attribute (.Call (.Name "super" p0) [] [] p1) "__init__" p2) [.Constant (.str m) j p3] [] p4) p5, .Assign [.Attribute (.Name "self" p6) f p7] (.Name f p8) p9] ∧
    ∀ (qual : Str) (cc cda fI L : Addr), let env := envF (supF qual st cc cda) fI L; interactive env = false ∧ swapsWith (.Call (.Attribute (.Call (.Name "super" p0) [] [] p1) "__init__" p2) [.Constant (.str m) j p3] [] p4) none p5.line env = pure false ∧ ∃ pl : Sem Bool, eval (.Call (.Attribute (.Call (.Name "super" p0) [] [] p1) "__init__" p2) [.Constant (.str m) j p3] [] p4) env = (do
      let ov ← attributeBase (.Call (.Name "super" p0) [] [] p1) "__init__" env (eval (.Call (.Name "super" p0) [] [] p1) env)
      standAt p2.atName
      let (f, first) ← holding [ov] (getMethod ov "__init__" pl)
      callWith p4 f first (backTo p4 (starEach [.Constant (.str m) j p3] env)) [])
  scope : NScope ["self", f, "__class__"] ["self", f] ["__class__"] (C8.fnScope st)
  bind : ∀ (qual : Str) (cc cda : Addr) (doc pm ctv : Value) (us : List Value), us.length = 2 → bindArgs ((supF qual st cc cda).fd doc pm ctv) ⟨us, []⟩ = pure ((["self", f] : List Str).zip us)
  head : ∃ ar, ((C8.fnArgs st).posonlyargs ++ (C8.fnArgs st).args).head? = some ar ∧ ar.arg = "self"
  sup : (C8.fnScope st).names.lookup ("super" : Str) = some .globalImplicit
  nf : f ≠ "self" ∧ (f == ("__debug__" : Str)) = false ∧ (f == ("__classdict__" : Str)) = false
/-- what the written part must say of the class at C, its __init__ at fI -/
structure SupC (P : Program) (K : PySem.W.Frag) (C fI : Addr) (qual : Str) (st : Stmt) : Prop where
  oex : OexC K C
  iC : PySem.W.findIn K (.ref C) "__init__" = some (some (.ref fI))
  tI : PySem.W.typeIn K (.ref fI) = some (.type "function")
  fn : ∃ (oc : Value) (od : Option Addr) (osl : Array (Option Value)) (doc pm ctv : Value) (cda cc : Addr) (c1 c2 : Value) (d1 d2 : Option Addr) (s1 s2 : Array (Option Value)) (vs : Array Value) (file : Str) (tf : Tok),
    K.lookup fI = some ⟨oc, od, .func ((supF qual st cc cda).fd doc pm ctv), osl⟩ ∧ PySem.W.codeIn K (.ref cda) qual = true ∧
    K.lookup cda = some ⟨c1, d1, .fields vs, s1⟩ ∧ vs[2]? = some (.str file tf) ∧ ((P.main.file : Str) == file) = true ∧ K.lookup cc = some ⟨c2, d2, .cell (some (.ref C)), s2⟩
  sup : PySem.W.ks_superIn K C C "__init__" = some (some (.builtin "ValueError.__init__"))
  sub : PySem.W.subIn K (.ref C) (.type "ValueError") = some true
  opq : PySem.W.nsIn K cStatics "thirdparty.any" = some none
  top : (P.main.scope.names.lookup ("super" : Str)).isSome = false
  slf : PySem.W.mroIn K C (.ref C) = some true
section
open PySem.W
variable {prog : Program} {w : World} {A : Around} {E : Value → Shared → Prop} {h : Heap} {g : Array GenState} {d : Drawn} {t : Nat} {os : OsState}
variable {nm q : Str} {C N : Addr} {bs bm bmB : List Value} {hdct : Bool} {sn : List Str} {sub : List Value} {ab : Bool} {col : Option Bool} {dd : Option Addr} {k0 k1 k2 k3 k5 : Option Value} {B newId initId : String}
/-- the bound __init__ called: the args are laid anew -/
theorem call_mw (F : ExcBaseFacts B newId initId bmB) {u e t0 : Addr} {rest : List Value} {Q : Value → Shared → Prop}
    (hC : h.get? C = some (excClassObj nm q C N bs bm hdct sn sub ab col dd k0 k1 k2 k3 k5 newId)) (he : h.get? e = some (HandSPX.excO C t0)) (hu : h.get? u = some (kxs_mw initId e)) (hrest : rest.length ≤ sizeLine)
    (hq : ∀ h' t1, (∀ b o, b ≠ e → h.get? b = some o → h'.get? b = some o) → h'.get? e = some (HandSPX.excO C t1) → Q .none ⟨h', g, d, t, os⟩) :
    wpAny (model prog w) A (call (.ref u) rest) Q E ⟨h, g, d, t, os⟩ := by
  refine wpAny_call (codeAny_of_tree ?_)
  show wpAny _ A.in1 (callAny (.ref u) ⟨rest, []⟩) _ _ _
  simp only [callAny]
  refine wpAny_bind (wpAny_load hu ?_)
  simp only [kxs_mw, show (Value.type "method-wrapper" == Value.type "method" || Value.type "method-wrapper" == Value.type "builtin_function_or_method" || Value.type "method-wrapper" == Value.type "method-wrapper") = true by decide, if_true]
  refine KFB.if_so (by decide) ?_
  refine wpAny_bind (ESX.check_bound F hC he rfl ?_)
  refine wpAny_bind (wpAny_pure (wpAny_pure ?_))
  refine ⟨plainId_quiet F.init.plain _, codeAny_builtin F.initEntry ?_⟩
  rw [Around.under_plainId F.init.plain _]
  wp_walk
  refine hq _ h.objs.size (fun b o hb ho => ?_) ?_
  · rw [Heap.get?_update_other _ _ (Ne.symm hb)]
    exact Heap.get?_push_of_some _ ho
  · rw [Heap.get?_update_self _ (Heap.get?_push_of_some _ he) rfl]
    rfl
end
section
variable {P : Program} {w : World} {K : PySem.W.Frag} {mg : Str → Option Value} {base : Heap}
theorem lookup_one {a : Str} {b : Addr} {y : Str} {c : Addr} (h : ([(a, b)] : List (Str × Addr)).lookup y = some c) : y = a ∧ c = b := by
  rw [List.lookup_cons] at h
  cases q : y == a with
  | true =>
    rw [q] at h
    exact ⟨eq_of_beq q, (Option.some.inj h).symm⟩
  | false =>
    rw [q] at h
    cases h
theorem init_sup {CX : CXT} {C fI e : Addr} {qual f : Str} {st : Stmt} {A : Around} {outer : List Env} {s : Shared} {H : Hp} {u : Value} {v : V} {Q : VK} {E : XK} (S : SupC P K C fI qual st) (t : SupT st f) (hms : mg "super" = none) (hno : PySem.W.findIn K (.ref C) f = some none)
    (hr : Room 2 A) (e0 : Env0 P w K mg base A outer s H) (he : H e = some (exo e C none)) (r : RelV v u) (hq : ∀ d, H d = none → d ≠ e → Q .non (upd (upd H d (exd d [(f, v)])) e (exo e C (some d)))) :
    codeAny (model P w) A (.call (.ref fI) ⟨[.ref e, u], []⟩) (CR CX outer P w H s Q E) s := by
  obtain ⟨m, j, p0, p1, p2, p3, p4, p5, p6, p7, p8, p9, hb, hev⟩ := t.body
  obtain ⟨oc, od, osl, doc, pm, ctv, cda, cc, c1, c2, d1, d2, s1, s2, vs, file, tf, lk, hcd, lc, hvs, hfile, lcc⟩ := S.fn
  obtain ⟨ar, har, earg⟩ := t.head
  obtain ⟨nf1, nf2, nf3⟩ := t.nf
  have KX : K.In s.heap := e0.mod.kin.keeps fun b o e => (e0.bs b o e).1
  have lim : s.heap.NoLimit := e0.mod.nolimit.keeps fun b o e => (e0.bs b o e).1
  have C0 : CellsAt (supF qual st cc cda).cl ["__class__"] [some (.ref C)] s.heap H := {
    len := rfl
    all := fun y c hc => by
      obtain ⟨_, rfl⟩ := lookup_one hc
      exact ⟨(e0.bs _ _ (e0.mod.kin _ _ lcc)).2, _, _, KX _ _ lcc, rfl⟩
    inj := fun x y c hx hy => (lookup_one hx).1.trans (lookup_one hy).1.symm
    has := fun i y hi => by
      cases i with
      | zero =>
        cases hi
        exact ⟨cc, rfl, fun v hv => by
          cases hv
          exact ⟨_, rfl, _, KX _ _ lcc, rfl⟩⟩
      | succ i => cases hi }
  refine codeAny_call_function hr.depth (KX _ _ lk) rfl t.scope.co t.scope.gen rfl (PySem.W.codeRec_of KX hcd) ?_
  rw [t.bind _ _ _ _ _ _ [.ref e, u] rfl]
  refine wpAny_pure (wpAny_newFunctionEnv t.scope.nocell (fun ⟨n, _⟩ hy => t.scope.par n (List.of_mem_zip hy).1) (fun h₁ hns hsb => ⟨lim.fresh _ hsb, ?_⟩) t.scope.kind)
  show codeAny _ _ (.func (C8.fnBody st) (envF (supF qual st cc cda) fI s.heap.objs.size)) _ _
  have kp : ∀ b o, s.heap.get? b = some o → h₁.get? b = some o := fun b o e => hsb.extBut b o (Nat.ne_of_lt (Heap.lt_size e)) (Heap.get?_push_of_some _ e)
  have I : Inv (ncx CX P w K mg base ["self", f, "__class__"] (supF qual st cc cda) fI A outer s H E) [] (startF ["self", f, "__class__"] [V.ref e, v] [some (.ref C)]) H { s with heap := h₁, toks := s.toks + ((["self", f] : List Str).zip [Value.ref e, u]).length } :=
    inv_startN t.scope hr.hd e0 rfl (.cons rfl (.cons r .nil)) C0 hns kp
  refine ks_codeAny_funcAt ?_
  rw [hb]
  obtain ⟨nm, qn, N, bs, bm, sn, sub, ab, col, dd, k0, k1, k2, k3, k5, hC, hbm⟩ := S.oex.cls
  have hcl : PySem.W.clsIn K C = some { name := nm, bases := bs, mro := .ref C :: bm, ns := N, qualname := qn, hasDict := true, slotNames := sn, subclasses := sub, abstract := ab, collection := col, hasDel := false } := by unfold PySem.W.clsIn; rw [hC] <;> rfl
  have hsup := S.sup
  unfold PySem.W.ks_superIn at hsup
  rw [hcl] at hsup
  obtain ⟨t1, ho⟩ := exo_at I.hok he
  obtain ⟨mb, hb1, hb2⟩ := I.mod.blt
  obtain ⟨hint, hsw, pl, hev⟩ := hev qual cc cda fI s.heap.objs.size
  refine ks_wpAt_execs_cons (ks_wpAt_Expr_any (ks_wpAt_MethodCall (pl := pl) ?_ hev) hint hsw)
  refine ks_wpAt_super_base (f := fI) (cc := cda) (ar := ar) t.sup (t.scope.frk "__class__" List.mem_cons_self) (by decide) rfl (I.kIn _ _ lk) rfl har rfl (I.kIn _ _ lc) rfl hvs hfile S.top ?_
  refine PySem.W.ks_loadName_global t.scope.kind t.sup (Calls.loadGlobal_builtin (I.mod.glob.keeps I.bk) hms (hb1.keeps I.bk) ((hb2 _ (by decide)).trans (show bootBuiltins "super" = some (.type "super") by decide +kernel)) ⟨rfl, ?_⟩)
  refine wpAny_loadName_free t.scope.kind (t.scope.frk "__class__" List.mem_cons_self) rfl ⟨_, I.kIn _ _ lcc, rfl⟩ ?_
  rw [earg]
  refine wpAny_loadName_local (v := .ref e) t.scope.kind (t.scope.par "self" List.mem_cons_self) hns (by
    show ([(f, u), ("self", Value.ref e)] : List (Str × Value)).lookup ("self" : Str) = some (Value.ref e)
    have z : (("self" : Str) == f) = false := beq_eq_false_iff_ne.mpr (Ne.symm nf1)
    rw [List.lookup_cons, z] <;> rfl) ?_
  refine ks_wpAny_isType_cls (I.kIn _ _ hC) rfl ⟨rfl, ?_⟩
  refine ks_wpAny_call_super (I.kIn _ _ hC) rfl ho rfl (fun c z => by cases z) (PySem.W.looks_mroIn I.kIn S.slf) (fun h2 ho2 kk2 => ?_)
  have I2 := I.kept (h' := h2) (t' := s.toks + ((["self", f] : List Str).zip [Value.ref e, u]).length) kk2
  have J2 : PySem.W.InstAt h2 e _ C none := ⟨kk2 _ _ ho, rfl, rfl, trivial⟩
  have hIs : PySem.W.Looks (model P w) h2 (isInstance (.ref e) (.type "ValueError")) true := J2.type.andThen (PySem.W.looks_subIn I2.kIn S.sub)
  refine PySem.W.kxs_getMethod PySem.W.kxs_ValueError ho2 (PySem.W.looks_opaque I2.kIn S.opq) (l₀ := .ref C :: bm) ((PySem.W.looks_clsIn I2.kIn hcl).andThen .now) rfl I2.kIn hsup hIs (PySem.W.ks_ne I2.kIn J2 hcl) (by decide) ?_
  have I3 := I2.kept (h' := h2.push (PySem.W.kxs_mw "ValueError.__init__" e)) (t' := s.toks + ((["self", f] : List Str).zip [Value.ref e, u]).length + 1) fun b o z => Heap.get?_push_of_some _ z
  have hnu : H h2.objs.size = none := I2.hok.fresh (Nat.le_refl _)
  have I4 := I3.pins_of (pins' := [(h2.objs.size, PySem.W.kxs_mw "ValueError.__init__" e)]) fun p hp => by
    rw [List.mem_singleton.mp hp]
    exact ⟨Heap.get?_push_at rfl rfl, hnu, Ne.symm (Nat.ne_of_lt I2.lt), I2.nofs (Nat.le_refl _), fun v z => by cases z⟩
  have ha : PA (ncx CX P w K mg base ["self", f, "__class__"] (supF qual st cc cda) fI A outer s H E) [.Constant (.str m) j p3] (tCons (tC (.str m)) tNil) := pa_cons pe_str pa_nil
  refine PySem.W.kxs_callWith (i := "ValueError.__init__") (x := e) rfl (PySem.Calls.evalArgs_plain ?_)
  refine thn (ha.run p4 _ _ _ H (fun vs H1 => vs = [V.str m] ∧ H = H1) I4 ⟨rfl, rfl⟩) fun us s5 ⟨vs5, H5, I5, r5, e5, e6⟩ => ?_
  subst e6
  subst e5
  have hu5 := (I5.pin _ (List.mem_append_right _ List.mem_cons_self)).1
  refine ⟨hu5, ?_⟩
  have hus : us.length ≤ sizeLine := by
    rw [← Paired.length r5, sizeLine_eq]
    show 1 ≤ _
    omega
  obtain ⟨t5, ho5⟩ := exo_at I5.hok he
  obtain ⟨hp5, g5, dr5, tk5, os5⟩ := s5
  refine call_mw F.excBase_ValueError (I5.kIn _ _ hC) ho5 hu5 hus fun h6 t6 k6 hx6 => ?_
  have J := (I5.weak (σ' := _) rfl fun _ _ z => z)
  have J := I5.write (t' := tk5) (x := e) (e := e) (o := exo e C none) (by rw [he]; exact True.intro) (.inl rfl) k6 ⟨_, hx6⟩ (exo_ok hx6)
  have eu : upd H e (exo e C none) = H := by
    funext b
    by_cases hb : b = e
    · rw [hb, upd_same, he]
    · rw [upd_ne hb]
  rw [eu] at J
  refine wpAt_of_wpAny ?_
  have ps : PSs (ncx CX P w K mg base ["self", f, "__class__"] (supF qual st cc cda) fI A outer s H E) [.Assign [.Attribute (.Name "self" p6) f p7] (.Name f p8) p9] _ :=
    pss_cons (ps_ost (pe_var (i := 0) rfl (.inl (t.scope.par "self" List.mem_cons_self))) (pe_var (i := 1) rfl (.inl (t.scope.par f (List.mem_cons_of_mem _ List.mem_cons_self))) nf2 nf3)) pss_nil
  refine wpAny_mono (ps.run _ _ _ H { nx := fun _ H' => Q .non H', rt := Q } J ⟨v, rfl, .ref e, rfl, e, C, rfl, S.oex, hno, .inl ⟨he, fun dx h1 h2 => hq dx h1 h2⟩⟩) (fun fl s' hs => ?_) fun _ _ z => z
  cases fl with
  | next =>
    obtain ⟨σ', H', J', q⟩ := hs
    exact ⟨.non, H', J'.os, J'.bare, J'.base, J'.hok, rfl, q⟩
  | ret u =>
    obtain ⟨v', σ', H', J', rv, q⟩ := hs
    exact ⟨v', H', J'.os, J'.bare, J'.base, J'.hok, rv, q⟩
  | brk =>
    obtain ⟨_, _, _, q⟩ := hs
    exact False.elim q
  | cont =>
    obtain ⟨_, _, _, q⟩ := hs
    exact False.elim q
end
end Nk
namespace Nk
open PySem PySem.Spec PyProof.Rows L2
/-! ### == and != by an own __eq__ -/
section
open PySem.W
variable {prog : Program} {w : World} {A : Around} {E : Value → Shared → Prop} {s : Shared} {K : Frag} {x C L f : Addr} {h₀ : Heap} {m : Str → Option Value} {ox : Obj} {od : Option Obj} {b tb : Value}
theorem ne_entry {Q : Fin → Shared → Prop} (X : K.In s.heap) (I : InstAt s.heap x ox C od) (hq : findIn K (.ref C) "__eq__" = some (some (.ref f))) (hf : isFn K (.ref f) = true) (hu : A.units < cLine)
    (hcall : wpAny (model prog w) A (call (.ref f) [.ref x, b]) (fun v s' => ∃ r, v = .bool r ∧ Q (.done (.ret (.bool (!r)))) s') E s) :
    wpAny (model prog w) A (Builtin.«object.__ne__» ⟨[.ref x, b], []⟩) Q E s := by
  unfold Builtin.«object.__ne__»
  repeat (first
    | with_reducible refine wpAny_cRoomFor hu ?_
    | (refine wpAny_bind (m := callSpecialIfBound? (.ref x) (Str.ofString "__eq__") [b])
        (ifBound_K X I hq hf (wpAny_mono hcall (fun r s' hr => by
          obtain ⟨b, rfl, hq⟩ := hr
          repeat (first | exact hq | exact wpAny_pure hq | exact wpAny_truthy_bool hq | (refine wpAny_bind (m := truthy (.bool _)) (wpAny_truthy_bool ?_)) | wp_step)) fun _ _ e => e)))
    | wp_step)
theorem ne_K {Q : Value → Shared → Prop} (hu : A.units + 1 < cLine) (F : Fr h₀ L s.heap m) (X₀ : K.In h₀) (I : InstAt s.heap x ox C od) (hb : Looks (model prog w) s.heap (typeOf b) tb) (hn : notFirst K C tb = true)
    (hs : findIn K (.ref C) "__ne__" = some (some (.builtin "object.__ne__"))) (hq : findIn K (.ref C) "__eq__" = some (some (.ref f))) (hf : isFn K (.ref f) = true) (hm : mroIn K C (.type "object") = some true)
    (h : wpAny (model prog w) A.in1 (call (.ref f) [.ref x, b]) (fun v s' => ∃ r, v = .bool r ∧ Q (.bool (!r)) s') E s) : wpAny (model prog w) A (richCompare .NotEq (.ref x) b) Q E s := by
  have X := X₀.keeps F.keep
  have sub : Looks (model prog w) s.heap (isInstance (.ref x) (.type "object")) true := I.type.andThen (looks_mroIn X hm)
  have one : wpAny (model prog w) A (tryCompare (.ref x) "__ne__" b) (fun r s' => ∃ v, r = some v ∧ Q v s') E s := by
    unfold tryCompare
    refine wpAny_bind ?_
    simp only [callSpecialIfBound?, bindSpecialIfBound?]
    refine wpAny_holding (wpAny_bind (wpAny_bind (wpAny_bind (I.type.here ((looks_findIn X hs).here ?_)))))
    simp only [PySem.F.cmp_object.ne.bind]
    refine wpAny_bind (wpAny_askSetting (wpAny_ite ?_))
    have fin : wpAny (model prog w) A (call (.builtin "object.__ne__") ([.ref x] ++ [b]) >>= fun v => pure (some v)) (fun r s' => ∃ b, r = some (.bool b) ∧ Q (.bool b) s') E s := by
      refine wpAny_bind (wpAny_call (codeAny_call_builtin PySem.F.cmp_object.ne.plain PySem.F.cmpEntry_ne (@PySem.W.check_slot (model prog w) _ _ s "object.__ne__" "object" "__ne__" (.ref x) [b] [] _ PySem.F.cmpKind_ne PySem.F.cmpSplit_ne sub (PySem.F.cmpArgs_ne _ _) ?_)))
      refine ne_entry X I hq hf (by show A.units + 1 < cLine; exact hu) (wpAny_mono h (fun v s' hv => ?_) fun _ _ e => e)
      obtain ⟨r, rfl, q⟩ := hv
      exact ⟨r, rfl, wpAny_pure ⟨_, rfl, q⟩⟩
    have fin2 := wpAny_mono fin (fun r s' hr => (show wpAny (model prog w) A (match r with | some Value.notImplemented => pure none | none => pure none | some v => pure (some v)) (fun r s' => ∃ v, r = some v ∧ Q v s') E s' by
      obtain ⟨b, rfl, q⟩ := hr
      exact wpAny_pure ⟨_, rfl, q⟩)) fun _ _ e => e
    split
    · exact wpAny_bind (wpAny_pure (wpAny_pure fin2))
    · exact wpAny_tryCatch (wpAny_bind (wpAny_pure (wpAny_pure fin2)))
  unfold richCompare
  simp only [oneThing_ref]
  refine wpAny_holding (wpAny_bind (wpAny_cRoomFor (Nat.lt_of_succ_lt hu) ?_))
  refine wpAny_bind (I.type.here (wpAny_bind (hb.here ?_)))
  split
  · rename_i q
    have e : subIn K tb (.ref C) = some false := by
      rcases Bool.or_eq_true_iff.mp hn with e | e
      · rw [beq_iff_eq.mp e] at q; simp at q
      · exact beq_iff_eq.mp e
    refine wpAny_bind ((looks_subIn X e).here ?_)
    simp only [Bool.false_eq_true, if_false]
    refine wpAny_bind (wpAny_mono one (fun r s' z => ?_) fun _ _ e => e)
    obtain ⟨v, rfl, hq⟩ := z
    exact wpAny_pure hq
  · refine wpAny_bind (wpAny_pure ?_)
    simp only [Bool.false_eq_true, if_false]
    refine wpAny_bind (wpAny_mono one (fun r s' z => ?_) fun _ _ e => e)
    obtain ⟨v, rfl, hq⟩ := z
    exact wpAny_pure hq
end
end Nk
namespace Nk
open PySem PySem.Spec PyProof.Rows L2 NdefX
theorem tBadKind : SupT sBadKind_init "kind" where
  body := ⟨_, _, _, _, _, _, _, _, _, _, _, _, rfl, fun qual cc cda fI L => ⟨rfl, rfl, _, rfl⟩⟩
  scope := nscope_by (by decide +kernel)
  bind := fun qual cc cda doc pm ctv us hl => match us, hl with | [_, _], _ => rfl
  head := ⟨_, rfl, rfl⟩
  sup := by decide +kernel
  nf := by decide
theorem tTooWide : SupT sTooWide_init "what" where
  body := ⟨_, _, _, _, _, _, _, _, _, _, _, _, rfl, fun qual cc cda fI L => ⟨rfl, rfl, _, rfl⟩⟩
  scope := nscope_by (by decide +kernel)
  bind := fun qual cc cda doc pm ctv us hl => match us, hl with | [_, _], _ => rfl
  head := ⟨_, rfl, rfl⟩
  sup := by decide +kernel
  nf := by decide
section
variable {X : Cx} {e : Expr} {es : List Expr} {ta : TA} {p pos : Pos}
/-- C(e), C's own __init__ as above -/
def tMkS (C : Addr) (f : Str) (ta : TA) : L2.St → Hp → XK → Prop := fun σ H Q => ta σ H fun vs H1 => ∃ v, vs = [v] ∧ ∀ d, H1 d = none → Q (.ref C) (some d) (upd H1 d (.xd [(f, v)]))
theorem pmk_sup {x : Str} {C fI : Addr} {qual f : Str} {st : Stmt} (S : SupC X.prog X.K C fI qual st) (t : SupT st f) (hms : X.mg "super" = none) (hno : PySem.W.findIn X.K (.ref C) f = some none) (hr : Room 3 X.A) (hg : Gl X x) (hm : X.mg x = some (.ref C)) (ha : PA X (e :: es) ta)
    (hdb : (x == ("__debug__" : Str)) = false := by decide) (he : starEach (e :: es) X.env = (false, eval e X.env) :: starEach es X.env := by rfl) (hpl : (backTo pos (starEach es X.env)).any (·.1) = false := by rfl) :
    PMk X (.Call (.Name x p) (e :: es) [] pos) (tMkS C f ta) := by
  intro pins s σ H Q I h
  have T := S.oex
  obtain ⟨nm, q, N, bs, bm, sn, sub, ab, col, dd, k0, k1, k2, k3, k5, hC, hbm⟩ := T.cls
  refine wpAny_Call_Name_kw (ld_glob I hg hm ?_ hdb)
  refine PySem.W.callWith_K (h₀ := X.base) I.ok.mod.kin T.kC (thn (ha.run pos pins s σ H _ I h) fun us s1 ⟨vs, H1, I1, r1, v, ev, q1⟩ => ⟨I1.kIn, ?_⟩) he hpl
  show wpAny _ _ (call (.ref C) us) _ _ _
  subst ev
  cases r1 with
  | @cons _ u _ ur rv rw' =>
    cases rw'
    obtain ⟨hp, g, dr, tk, os⟩ := s1
    have hsz : hp.objs.size ≤ hp.objs.size + 1 := Nat.le_succ _
    have hn : H1 (hp.objs.size + 1) = none := I1.hok.fresh hsz
    have kk : ∀ b o, hp.get? b = some o → ((hp.push (PySem.W.kdv_tup [u])).push (PySem.HandSPX.excO C hp.objs.size)).get? b = some o := fun b o e => Heap.get?_push_of_some _ (Heap.get?_push_of_some _ e)
    have hget : ((hp.push (PySem.W.kdv_tup [u])).push (PySem.HandSPX.excO C hp.objs.size)).get? (hp.objs.size + 1) = some (PySem.HandSPX.excO C hp.objs.size) := by heap_get
    have I2 : Inv X pins σ (upd H1 (hp.objs.size + 1) (exo (hp.objs.size + 1) C none)) ⟨(hp.push (PySem.W.kdv_tup [u])).push (PySem.HandSPX.excO C hp.objs.size), g, dr, tk, os⟩ :=
      I1.laid (t' := tk) (a := hp.objs.size + 1) (o := exo (hp.objs.size + 1) C none) (h' := (hp.push (PySem.W.kdv_tup [u])).push (PySem.HandSPX.excO C hp.objs.size)) kk hsz (exo_ok hget)
    refine wpAny_call (PySem.HandSPX.call_own F.excBase_ValueError (fun Y => PySem.HandSPX.refsVE_contains Y bm hbm) (I1.kIn _ _ hC) (PySem.W.looks_findIn I1.kIn S.iC) (fun self => PySem.W.bind_fn I1.kIn self S.tI) (by rw [sizeLine_eq]; show 1 ≤ _; omega)
      (codeAny_mono (init_sup (CX := C8.CX0) (E := fun _ _ _ => False) (Q := fun v' H2 => v' = .non ∧ ∃ (d : Addr), H2 (hp.objs.size + 1) = some (exo (hp.objs.size + 1) C (some d)) ∧ H2 d = some (exd d [(f, v)]) ∧ H1 d = none ∧ upd (del H2 (hp.objs.size + 1)) d (.xd [(f, v)]) = upd H1 d (.xd [(f, v)])) S t hms hno (hr.make C [u] []) (I2.env0.make C [u] []) upd_same rv (fun d h1 h2 => ?_)) fun r s' hq' => ?_))
    · have hd1 : H1 d = none := by rw [upd_ne h2] at h1; exact h1
      refine ⟨rfl, d, upd_same, by rw [upd_ne h2, upd_same], hd1, ?_⟩
      funext b
      by_cases e1 : b = d
      · rw [e1, upd_same, upd_same]
      · rw [upd_ne e1, upd_ne e1]
        by_cases e2 : b = hp.objs.size + 1
        · rw [e2, del_same, hn]
        · rw [del_ne e2, upd_ne e2, upd_ne e1, upd_ne e2]
    · cases r with
      | error er => exact False.elim hq'
      | ok fl =>
        cases fl with
        | ret u =>
          obtain ⟨v', H2, os2, bare2, un2, hok2, rv', ⟨ev, d, ea, ed, hd1, eH⟩⟩ := hq'
          subst ev
          obtain ⟨h2, g2, d2, t2, os'⟩ := s'
          exact ⟨rv', mk_end (raises_own T.exC T.tyC) I1 hsz kk un2 hok2 os2 bare2 ea ed hd1 (by rw [eH]; exact q1 d hd1)⟩
        | next => exact False.elim hq'
        | brk => exact False.elim hq'
        | cont => exact False.elim hq'
end
/-- it raises: an exception of the class at C, its field f the datum's value -/
def spX {α : Type} (C : Addr) (f : Str) (pre : α → Prop) (args : α → List Rl) (vf : α → V) : Sp := fun vs H _ E => ∃ (d : α) (G : Hp), Same G H ∧ pre d ∧ AlL (args d) vs G ∧ ∀ a G' H', Stp none G H G' H' → G' a = some (.xd [(f, vf d)]) → E (.ref C) (some a) H'
theorem spX_len {α : Type} {C : Addr} {f : Str} {pre : α → Prop} {args : α → List Rl} {vf : α → V} {n : Nat} (h : ∀ d, (args d).length = n) : ∀ vs H Q E, spX C f pre args vf vs H Q E → vs.length = n := by
  rintro vs H Q E ⟨d, G, _, _, al, _⟩
  rw [al.len, h]
structure MetX (P : Program) (w : World) (K : PySem.W.Frag) (mg : Str → Option Value) (base : Heap) (k : Nat) (C : Addr) (m : Str) (sp : Sp) : Prop where
  ex : ∃ (f : Addr) (fd : FuncData) (ps : List Str), Cls K C ∧ Meth K C m f ∧ FnOk P w K mg base (L2.CX P w) k f fd ps sp ∧ Binds K fd ps []
abbrev Xx (P : Program) (w : World) (K : PySem.W.Frag) (mg : Str → Option Value) (base : Heap) (N : List Str) (qual : Str) (st : Stmt) (f : Addr) (cdv : Value) (A : Around) (outer : List Env) (s : Shared) (H : Hp) (E : XK) : Cx :=
  cxOf (L2.CX P w) P w K mg base N qual (defScope st) f cdv A outer s H E
section
variable {P : Program} {w : World} {K : PySem.W.Frag} {mg : Str → Option Value} {base : Heap}
theorem met_x {α : Type} {Cx : Addr} {fl : Str} {pre : α → Prop} {args : α → List Rl} {vf : α → V} {x qual : Str} {C : Addr} {st : Stmt} {f : Addr} {fd : FuncData} {N ps : List Str} {k : Nat} (F : FunD K x qual (defArgs st) (defBody st) (defScope st) [] [] f fd) (c : Cls K C) (me : Meth K C x f) (b : Binds K fd ps []) (S : FnScope N ps (defScope st)) (hl : ∀ d, (args d).length = ps.length)
    (hbody : ∀ (cdv : Value) (A : Around) (outer : List Env) (s : Shared) (H0 : Hp) (E : XK) (d : α) (G H : Hp) (vs : List V) (Q : VK), Room k (A.deeper (envOfC qual (defScope st) s.heap.objs.size f cdv)) → pre d → Okm none G H → AlL (args d) vs G → (∀ a G' H', Stp none G H G' H' → G' a = some (.xd [(fl, vf d)]) → E (.ref Cx) (some a) H') →
      WB (Xx P w K mg base N qual st f cdv A outer s H0 E) (defBody st) { nx := fun _ H' => Q .non H', rt := Q } (start N vs) H) : MetX P w K mg base (k + 1) C x (spX Cx fl pre args vf) :=
  ⟨f, fd, ps, c, me, F.ok S (spX_len hl) (fun cdv A outer s H vs Q E hr ⟨d, G, hs, hp, al, k⟩ => ⟨_, pB, hbody cdv A outer s H E d G H vs Q hr hp (.of hs) al k⟩), b⟩
end
section
variable {X : Cx} {CX : CXT} {k : Nat} {f C : Addr} {fd : FuncData} {ps : List Str} {sp : Sp} {E : L2.St → XK} {x m : Str} {p pos apos : Pos} {e o : Expr} {es : List Expr} {ta : TE} {t : TA}
def tMethS (C : Addr) (m : Str) (sp : Sp) (E : L2.St → XK) (ta : TE) (t : TA) : TE := fun σ H Q => ta σ H fun x H1 => ∃ a dx fs, x = .ref a ∧ H1 a = some (.ins C dx fs) ∧ fs.lookup m = none ∧ t σ H1 fun vs H2 => sp (x :: vs) H2 Q (E σ)
theorem pe_methS {pl : Sem Bool} (he : PE X o ta) (c : Cls X.K C) (hm : Meth X.K C m f) (F : FnOk X.prog X.w X.K X.mg X.base CX k f fd ps sp) (hr : Room k X.A) (hb : Binds X.K fd ps []) (hx : ∀ σ, PassesAt CX X σ (E σ)) (ha : PA X (e :: es) t)
    (hst : starEach (e :: es) X.env = (false, eval e X.env) :: starEach es X.env := by rfl) (hpl : (backTo pos (starEach es X.env)).any (·.1) = false := by rfl)
    (ht : eval (.Call (.Attribute o m apos) (e :: es) [] pos) X.env = (do
      let ov ← eval o X.env
      standAt apos.atName
      let (f, first) ← holding [ov] (getMethod ov m pl)
      callWith pos f first (backTo pos (starEach (e :: es) X.env)) (backToKw pos (keywordEach [] X.env))) := by rfl) :
    PE X (.Call (.Attribute o m apos) (e :: es) [] pos) (tMethS C m sp E ta t) := by
  refine ⟨fun pins s σ H Q I h => ?_⟩
  refine PySem.W.methodCall_KW (pl := pl) (thn (he.run pins s σ H _ I h) fun u s1 ⟨x, H1, I1, rx, a, dx, fs, ex, ea, l, q⟩ => ?_) ht
  subst ex
  obtain rfl : u = Value.ref a := rx
  refine getmeth_ok I1 ea c hm l ?_
  refine PySem.W.callWith_K (first := [.ref a]) (h₀ := X.base) I.ok.mod.kin hm.kp (thn (ha.run pos pins s1 σ H1 _ I1 q) fun us s2 ⟨vs, H2, I2, r, q2⟩ => ⟨I2.kIn, ?_⟩) hst hpl
  exact run_fnS (us := .ref a :: us) (vs := .ref a :: vs) F hr hb (hx σ) I2 (.cons rfl r) q2
theorem pe_methS0 {pl : Sem Bool} (he : PE X o ta) (c : Cls X.K C) (hm : Meth X.K C m f) (F : FnOk X.prog X.w X.K X.mg X.base CX k f fd ps sp) (hr : Room k X.A) (hb : Binds X.K fd ps []) (hx : ∀ σ, PassesAt CX X σ (E σ))
    (ht : eval (.Call (.Attribute o m apos) [] [] pos) X.env = (do
      let ov ← eval o X.env
      standAt apos.atName
      let (f, first) ← holding [ov] (getMethod ov m pl)
      callWith pos f first (backTo pos (starEach [] X.env)) (backToKw pos (keywordEach [] X.env))) := by rfl) :
    PE X (.Call (.Attribute o m apos) [] [] pos) (tMethS C m sp E ta tNil) := by
  refine ⟨fun pins s σ H Q I h => ?_⟩
  refine PySem.W.methodCall_KW (pl := pl) (thn (he.run pins s σ H _ I h) fun u s1 ⟨x, H1, I1, rx, a, dx, fs, ex, ea, l, q⟩ => ?_) ht
  subst ex
  obtain rfl : u = Value.ref a := rx
  refine getmeth_ok I1 ea c hm l ?_
  exact PySem.W.callWith_K0 (first := [.ref a]) I1.kIn hm.kp (run_fnS (us := [.ref a]) (vs := [.ref a]) F hr hb (hx σ) I1 (.cons rfl .nil) q)
end
def JX (X : Cx) (e : Expr) (σ : L2.St) (G : Hp) (W : WX) (C : Addr) (f : Str) (v : V) : Prop := ∀ (G1 H : Hp), Same G G1 → Okm none G1 H → (∀ d G' H', Stp none G1 H G' H' → G' d = some (.xd [(f, v)]) → W (.ref C) (some d) σ H') → ∀ Q, cE X e σ H Q
section
variable {X : Cx} {k j : Nat} {C Cx : Addr} {W : WX} {x m f : Str} {p pos apos : Pos} {e o a b c : Expr} {es : List Expr} {σ : L2.St} {G H : Hp} {v : V} {Ra : Rl} {l : List Rl} {R : Rl}
theorem jx_mt {α : Type} {pre : α → Prop} {args : α → List Rl} {vf : α → V} {pl : Sem Bool} (d : α) (M : MetX X.prog X.w X.K X.mg X.base k C m (spX Cx f pre args vf)) (tk : Takes X W) (hp : pre d) (hl : args d = Ra :: l) (ho : JE none X o σ G Ra)
    (hR : ∀ v G1, Ra.p v G1 → ∃ a dx fs, v = .ref a ∧ G1 a = some (.ins C dx fs) ∧ fs.lookup m = none) (ha : JA none X (e :: es) σ G l) (hr : Room j X.A) (hk : k ≤ j := by decide)
    (hst : starEach (e :: es) X.env = (false, eval e X.env) :: starEach es X.env := by rfl) (hpl : (backTo pos (starEach es X.env)).any (·.1) = false := by rfl)
    (ht : eval (.Call (.Attribute o m apos) (e :: es) [] pos) X.env = (do
      let ov ← eval o X.env
      standAt apos.atName
      let (f, first) ← holding [ov] (getMethod ov m pl)
      callWith pos f first (backTo pos (starEach (e :: es) X.env)) (backToKw pos (keywordEach [] X.env))) := by rfl) :
    JX X (.Call (.Attribute o m apos) (e :: es) [] pos) σ G W Cx f (vf d) := fun G1 H z o1 w Q => by
  obtain ⟨fa, fd, ps, hc, hm, F, b⟩ := M.ex
  refine eP (pe_methS (pl := pl) (E := WE W) pE hc hm F (hr.mono hk) b (passAt tk) pA hst hpl ht) (ho G1 H z o1 _ fun x G2 H2 s2 r2 => ?_)
  obtain ⟨a, dx, fs, rfl, ha1, hl1⟩ := hR x G2 r2
  refine ⟨a, dx, fs, rfl, (s2.okm o1).1 _ _ ha1, hl1, ha G2 H2 (z.trans s2.gg) (s2.okm o1) _ fun ws G3 H3 s3 r3 => ⟨d, G3, (s3.okm (s2.okm o1)).1, hp, by rw [hl]; exact .cons (Ra.mono _ _ _ s3.gg r2) r3, fun dd G4 H4 s4 e4 => w dd G4 H4 ((s2.trans o1 s3).trans o1 s4) e4⟩⟩
theorem jx_mt0 {α : Type} {pre : α → Prop} {args : α → List Rl} {vf : α → V} {pl : Sem Bool} (d : α) (M : MetX X.prog X.w X.K X.mg X.base k C m (spX Cx f pre args vf)) (tk : Takes X W) (hp : pre d) (hl : args d = [Ra]) (ho : JE none X o σ G Ra)
    (hR : ∀ v G1, Ra.p v G1 → ∃ a dx fs, v = .ref a ∧ G1 a = some (.ins C dx fs) ∧ fs.lookup m = none) (hr : Room j X.A) (hk : k ≤ j := by decide)
    (ht : eval (.Call (.Attribute o m apos) [] [] pos) X.env = (do
      let ov ← eval o X.env
      standAt apos.atName
      let (f, first) ← holding [ov] (getMethod ov m pl)
      callWith pos f first (backTo pos (starEach [] X.env)) (backToKw pos (keywordEach [] X.env))) := by rfl) :
    JX X (.Call (.Attribute o m apos) [] [] pos) σ G W Cx f (vf d) := fun G1 H z o1 w Q => by
  obtain ⟨fa, fd, ps, hc, hm, F, b⟩ := M.ex
  refine eP (pe_methS0 (pl := pl) (E := WE W) pE hc hm F (hr.mono hk) b (passAt tk) ht) (ho G1 H z o1 _ fun x G2 H2 s2 r2 => ?_)
  obtain ⟨a, dx, fs, rfl, ha1, hl1⟩ := hR x G2 r2
  exact ⟨a, dx, fs, rfl, (s2.okm o1).1 _ _ ha1, hl1, d, G2, (s2.okm o1).1, hp, by rw [hl]; exact .cons r2 .nil, fun dd G4 H4 s4 e4 => w dd G4 H4 (s2.trans o1 s4) e4⟩
theorem jx_ifE {P : Bool → Prop} (hc : JT none X c σ G P) (h1 : P true → JX X a σ G W C f v) (h2 : P false → JX X b σ G W C f v) : JX X (.IfExp c a b pos) σ G W C f v := fun G1 H z o w Q =>
  eP (pe_ifExp pT pE pE) (hc G1 H z o _ fun q G2 H2 s2 r2 => by
    cases q with
    | true => exact iteT (h1 r2 G2 H2 (z.trans s2.gg) (s2.okm o) (fun d G' H' s e => w d G' H' (s2.trans o s) e) Q)
    | false => exact iteF (h2 r2 G2 H2 (z.trans s2.gg) (s2.okm o) (fun d G' H' s e => w d G' H' (s2.trans o s) e) Q))
end
section
variable {X : Cx} {x n : Str} {c : Value} {i : Nat} {body suite rest : List Stmt} {b₀ : Stmt} {np pos pos' : Pos} {σ : L2.St} {H : Hp} {D : Ends}
abbrev DTry (X : Cx) (i : Nat) (rest : List Stmt) (D : Ends) : Ends := { nx := fun σ' H' => WB X rest D (σ'.set i none) H', rt := D.rt, bk := fun σ' H' => D.bk (σ'.set i none) H', ct := fun σ' H' => D.ct (σ'.set i none) H' }
theorem wb_tryAs (hs : X.stack = X.env :: X.outer) (hf : X.env.frame = some X.env.locals) (hN : X.N.Nodup) (hi : X.N[i]? = some n) (hln : X.env.kindOf n = some .local) (hc : Names X x c)
    (hb : ∀ (W : WX) (pn : List (Addr × Obj)) (xe : Value → Shared → Prop), Takes (X.tr pn xe) W → PassesOwn (model X.prog X.w) X.A X.env xe →
      (∀ cls d σ' H', PySem.W.exmOne X.K cls c = some true → (∀ a, H' a = none → ∀ (oe : Obj) (pn : List (Addr × Obj)), Zc cls d oe → (∃ vs, oe.data = .fields vs) → WB (X.suite a ((a, oe) :: pn)) (b₀ :: suite) (DTry X i rest D) (σ'.set i (some (.ref a))) H') → W cls d σ' H') →
      WB (X.tr pn xe) body { D with nx := WB X rest D } σ H) :
    WB X (.Try body [.ExceptHandler (some (.Name x np)) (some n) (b₀ :: suite) pos'] [] [] pos :: rest) D σ H := by
  refine bP (pss_cons (ps_try_as hs hf hN hi hln hc (Wout := fun _ _ _ _ => False) (fun u s' ⟨a, B, sI, pins, σ, H, cls, d, e, I, nb, up, sky, na, os, ag, w⟩ => False.elim w)
    (tb := fun W D σ H => ∀ (pn : List (Addr × Obj)) (xe : Value → Shared → Prop), Takes (X.tr pn xe) W → PassesOwn (model X.prog X.w) X.A X.env xe → WB (X.tr pn xe) body D σ H)
    (ts := fun a cls d D σ H => ∀ (oe : Obj) (pn : List (Addr × Obj)), Zc cls d oe → (∃ vs, oe.data = .fields vs) → WB (X.suite a ((a, oe) :: pn)) (b₀ :: suite) D σ H)
    (fun W pn xe tk po => ⟨fun pins s σ H D I h => h pn xe tk po pins s I⟩)
    (fun a oe cls d pn hz hf => ⟨fun pins s σ H D I h => h oe pn hz hf pins s I⟩)) pB) ?_
  intro pn xe tk po
  exact hb _ pn xe tk po fun cls d σ' H' e k => ⟨true, e, fun _ a na => k a na, fun z => nomatch z⟩
end
section
variable {X : Cx} {a C dd : Addr} {oe : Obj} {pn : List (Addr × Obj)} {e ec : Expr} {f : Str} {v : V} {fs : List (Str × V)} {σ : L2.St} {G : Hp} {pos p0 : Pos}
theorem je_xf (T : XfC X.K C) (hno : PySem.W.findIn X.K (.ref C) f = some none) (hz : Zc (.ref C) (some dd) oe) (hf : ∃ vs, oe.data = .fields vs) (he : JE none (X.suite a ((a, oe) :: pn)) e σ G (Rl.eq (.ref a))) (hd : G dd = some (.xd fs)) (hl : fs.lookup f = some v)
    (hb : attributeBase e f X.env (eval e X.env) = eval e X.env := by rfl) : JE none (X.suite a ((a, oe) :: pn)) (.Attribute e f pos) σ G (Rl.eq v) := fun G1 H z o Q k =>
  eP (pe_xf T hno hz hf pE hb) (he G1 H z o _ fun x G2 H2 s2 r2 => ⟨r2, rfl, dd, fs, v, rfl, (s2.okm o).1 _ _ (s2.gg _ _ (z _ _ hd)), hl, k v G2 H2 s2 rfl⟩)
/-- isinstance(e, c), e the exception that the suite holds, with its dict at dd -/
def rIsX (K : PySem.W.Frag) (C a dd : Addr) : List V → Hp → VK → Prop := fun xs H Q => ∃ (c : V) (cv : Value) (b : Bool) (fs : List (Str × V)), xs = [.ref a, c] ∧ (∀ u, RelV c u → u = cv) ∧ PySem.W.kitOne K (.ref C) cv = some b ∧ H dd = some (.xd fs) ∧ Q (.bl b) H
theorem call_isX (T : ExcC X.K C) (hz : Zc (.ref C) (some dd) oe) (hf : ∃ vs, oe.data = .fields vs) : CallR (X.suite a ((a, oe) :: pn)) (.builtin "isinstance") (rIsX X.K C a dd) := by
  intro pins s σ H xs us Q I r h
  obtain ⟨c, cv, b, fs, rfl, hcv, e, hd, q⟩ := h
  cases r with
  | cons rx rr =>
    cases rr with
    | cons rt rr =>
      cases rr
      cases rx
      have ec := hcv _ rt
      subst ec
      obtain ⟨hget, _⟩ := I.pin (a, oe) (List.mem_append.mpr (.inl List.mem_cons_self))
      obtain ⟨vs, hv⟩ := hf
      have hx : ObjOk X.prog X.w H s.heap dd (.xd fs) := I.hok dd _ hd
      obtain ⟨mA, hns, hr⟩ := hx
      obtain ⟨od, ho, hl⟩ := lookIn_ns hns
      have J : PySem.W.InstAt s.heap a oe C (some od) := ⟨hget, hz.1, by unfold PySem.W.notCls; rw [hv] <;> rfl, by rw [hz.2]; exact ho⟩
      have hcl : (PySem.W.clsIn X.K C).isSome = true := by
        obtain ⟨cd, hc, _⟩ := PySem.W.any_some T.hd
        rw [hc] <;> rfl
      exact PySem.W.kia_one (PySem.W.kitx_exc hcl T.hg T.hk T.hs T.ha T.hn T.ht T.hm) I.kIn J e (fun z => nomatch z) fun tk => ⟨.bl b, H, I.kept (t' := tk) fun _ _ z => z, rfl, q⟩
theorem je_isX {cv : V} {u : Value} {q : Bool} (T : ExcC X.K C) (hz : Zc (.ref C) (some dd) oe) (hf : ∃ vs, oe.data = .fields vs) (he : JE none (X.suite a ((a, oe) :: pn)) e σ G (Rl.eq (.ref a))) (hc : JE none (X.suite a ((a, oe) :: pn)) ec σ G (Rl.eq cv)) (hd : G dd = some (.xd fs))
    (hcv : ∀ w, RelV cv w → w = u) (hk : PySem.W.kitOne X.K (.ref C) u = some q) (hm : X.mg "isinstance" = none) (hg : Gl X "isinstance" := by rfl)
    (h1 : starEach [e, ec] X.env = (false, eval e X.env) :: starEach [ec] X.env := by rfl) (h2 : starEach [ec] X.env = (false, eval ec X.env) :: starEach [] X.env := by rfl) (hpl : (backTo pos (starEach [ec] X.env)).any (·.1) = false := by rfl) :
    JE none (X.suite a ((a, oe) :: pn)) (.Call (.Name "isinstance" p0) [e, ec] [] pos) σ G (rB q) := fun G1 H z o Q k =>
  eP (pe_callB (X := X.suite a ((a, oe) :: pn)) (call_isX T hz hf) hg hm (by decide +kernel) pA (by decide) (by decide) h1 hpl) (ja_cons (X := X.suite a ((a, oe) :: pn)) he (ja_cons (X := X.suite a ((a, oe) :: pn)) hc ja_nil h2) h1 G1 H z o _ fun vs G2 H2 s2 r2 => by
    obtain ⟨y1, y2, rfl, e1, e2⟩ := AlL.two r2
    cases e1; cases e2
    exact ⟨_, u, q, fs, rfl, hcv, hk, (s2.okm o).1 _ _ (s2.gg _ _ (z _ _ hd)), k _ G2 H2 s2 rfl⟩)
end
end Nk

namespace Nk
open PySem PySem.Spec PyProof.Rows L2 NdefX
/-! ### what is wanted of the head about exceptions and == -/
structure TxE (P : Program) (K : PySem.W.Frag) : Prop where
  supK : SupC P K (cN K "BadKind") (He.fAd K ("BadKind", some "__init__")) "BadKind.__init__" sBadKind_init
  supW : SupC P K (cN K "TooWide") (He.fAd K ("TooWide", some "__init__")) "TooWide.__init__" sTooWide_init
  nK : PySem.W.findIn K (.ref (cN K "BadKind")) "kind" = some none
  nW : PySem.W.findIn K (.ref (cN K "TooWide")) "what" = some none
  xfK : XfC K (cN K "BadKind")
  xfW : XfC K (cN K "TooWide")
  ecK : ExcC K (cN K "BadKind")
  ecW : ExcC K (cN K "TooWide")
  exK : PySem.W.exmOne K (.ref (cN K "BadKind")) (.ref (cN K "BadKind")) = some true
  exW : PySem.W.exmOne K (.ref (cN K "TooWide")) (.ref (cN K "TooWide")) = some true
  ke1 : PySem.W.kitOne K (.ref (cN K "BadKind")) (.ref (cN K "CustomError")) = some true
  ke2 : PySem.W.kitOne K (.ref (cN K "BadKind")) (.ref (cN K "TooWide")) = some false
  ke3 : PySem.W.kitOne K (.ref (cN K "TooWide")) (.ref (cN K "CustomError")) = some true
  ke4 : PySem.W.kitOne K (.ref (cN K "TooWide")) (.ref (cN K "BadKind")) = some false
  eq : PySem.W.findIn K (.ref (cN K "Reads")) "__eq__" = some (some (.ref (He.fAd K ("Reads", some "__eq__"))))
  eqf : PySem.W.isFn K (.ref (He.fAd K ("Reads", some "__eq__"))) = true
  ne : PySem.W.findIn K (.ref (cN K "Reads")) "__ne__" = some (some (.builtin "object.__ne__"))
  mro : PySem.W.mroIn K (cN K "Reads") (.type "object") = some true
  lst : PySem.W.subIn K (.type "list") (.ref (cN K "Reads")) = some false
  kitl : PySem.W.kitOne K (.type "list") (.ref (cN K "Reads")) = some false
section
variable {X : Cx} {C fI : Addr} {qual f x : Str} {st : Stmt} {W : WX} {e : Expr} {σ : L2.St} {G H : Hp} {v : V} {D : Ends} {rest : List Stmt} {p pos pos' : Pos}
theorem wb_raise (S : SupC X.prog X.K C fI qual st) (t : SupT st f) (hms : X.mg "super" = none) (hno : PySem.W.findIn X.K (.ref C) f = some none) (hr : Room 3 X.A) (hm : X.mg x = some (.ref C)) (hc : X.calm = true) (tk : Takes X W) (ha : JE none X e σ G (Rl.eq v)) (o : Okm none G H)
    (k : ∀ d G' H', Stp none G H G' H' → G' d = some (.xd [(f, v)]) → W (.ref C) (some d) σ H') (hg : Gl X x := by rfl) (hdb : (x == ("__debug__" : Str)) = false := by decide) (he : starEach [e] X.env = (false, eval e X.env) :: starEach [] X.env := by rfl) (hpl : (backTo pos (starEach [] X.env)).any (·.1) = false := by rfl) :
    WB X (.Raise (some (.Call (.Name x p) [e] [] pos)) none pos' :: rest) D σ H :=
  bP (pss_cons (ps_raise hc tk (pmk_sup S t hms hno hr hg hm pA hdb he hpl)) pB) (ja_cons ha ja_nil he G H (Same.refl G) o _ fun vs G2 H2 s2 r2 => by
    obtain ⟨y, rfl, e1⟩ := AlL.one r2
    cases e1
    exact ⟨v, rfl, fun d hd => k d _ _ (s2.trans o (.new (s2.okm o) hd)) upd_same⟩)
end
theorem rRd_no {K : PySem.W.Frag} (mn : Str) (h : (rdN.all fun k => !(mn == k)) = true) (x : Six) : ∀ v G1, (rRd K x).p v G1 → ∃ a dx fs, v = .ref a ∧ G1 a = some (.ins (cN K "Reads") dx fs) ∧ fs.lookup mn = none :=
  obj_no (by
    rw [List.findIdx?_eq_none_iff]
    intro k hk
    have z := List.all_eq_true.mp h k hk
    simpa using z)
section
variable {P : Program} {w : World} {K : PySem.W.Frag} {mg : Str → Option Value} {base : Heap}
theorem m_places (T : Tx K mg) : C8.Met P w K mg base 2 (cN K "Reads") "places" (spF (fun d : Six × Str => kindOk d.2) (fun d => [rRd K d.1, rS d.2]) fun d => Rl.tp K rS (if d.2 = "s" then d.1.sp else d.1.dp)) [] := by
  obtain ⟨fd, F⟩ := T.F_Reads_places
  refine met_pure F (T.c "Reads") (T.m "Reads" "places" "Reads") (F.bindsN fun _ _ _ _ _ _ us hl => match us, hl with | [_, _], _ => rfl) scReads_places (fun _ => rfl) ?_
  rintro cdv A outer s0 H0 E ⟨x, kd⟩ G H vs Q hr hp o al k
  have hp : kindOk kd := hp
  obtain ⟨_, _, rfl, e1, e2⟩ := AlL.two al
  cases e2
  refine wb_if (P := isB false) (jt_flip (jt_not (jt_val (je_call (V.str kd) (k_is_kind T) trivial (ja_cons (je_v 1) ja_nil) hr))) (by rw [kind_isKd hp] <;> rfl)) o (fun h G1 H1 s1 o1 => by cases h) (fun h G1 H1 s1 o1 => ?_)
  refine wb_nil (wb_ret (R := Rl.tp K rS (if kd = "s" then x.sp else x.dp)) (je_ifE (jt_eq (je_v 1) je_str) (fun h => ?_) (fun h => ?_)) o1 fun v G2 H2 s2 r => k v G2 H2 (s1.trans o s2) r)
  · have h := decide_eq_true_iff.mp h.symm
    cases h
    exact je_fld 0 (je_var 0 rfl (Rl.mono _ _ _ _ s1.gg e1)) (T.c "Reads") (T.n "Reads" "son_places")
  · have h := decide_eq_false_iff_not.mp h.symm
    rw [if_neg fun e => h (by rw [e])]
    exact je_fld 1 (je_var 0 rfl (Rl.mono _ _ _ _ s1.gg e1)) (T.c "Reads") (T.n "Reads" "daughter_places")
theorem m_life_ways (T : Tx K mg) : C8.Met P w K mg base 2 (cN K "Reads") "life_ways" (spF (fun d : Six × Str => kindOk d.2) (fun d => [rRd K d.1, rS d.2]) fun d => Rl.tp K rS (if d.2 = "s" then d.1.sl else d.1.dl)) [] := by
  obtain ⟨fd, F⟩ := T.F_Reads_life_ways
  refine met_pure F (T.c "Reads") (T.m "Reads" "life_ways" "Reads") (F.bindsN fun _ _ _ _ _ _ us hl => match us, hl with | [_, _], _ => rfl) scReads_life_ways (fun _ => rfl) ?_
  rintro cdv A outer s0 H0 E ⟨x, kd⟩ G H vs Q hr hp o al k
  have hp : kindOk kd := hp
  obtain ⟨_, _, rfl, e1, e2⟩ := AlL.two al
  cases e2
  refine wb_if (P := isB false) (jt_flip (jt_not (jt_val (je_call (V.str kd) (k_is_kind T) trivial (ja_cons (je_v 1) ja_nil) hr))) (by rw [kind_isKd hp] <;> rfl)) o (fun h G1 H1 s1 o1 => by cases h) (fun h G1 H1 s1 o1 => ?_)
  refine wb_nil (wb_ret (R := Rl.tp K rS (if kd = "s" then x.sl else x.dl)) (je_ifE (jt_eq (je_v 1) je_str) (fun h => ?_) (fun h => ?_)) o1 fun v G2 H2 s2 r => k v G2 H2 (s1.trans o s2) r)
  · have h := decide_eq_true_iff.mp h.symm
    cases h
    exact je_fld 2 (je_var 0 rfl (Rl.mono _ _ _ _ s1.gg e1)) (T.c "Reads") (T.n "Reads" "son_lives")
  · have h := decide_eq_false_iff_not.mp h.symm
    rw [if_neg fun e => h (by rw [e])]
    exact je_fld 3 (je_var 0 rfl (Rl.mono _ _ _ _ s1.gg e1)) (T.c "Reads") (T.n "Reads" "daughter_lives")
/-! ### of a thing that is no kind -/
def badV (v : V) : Prop := strIntN v ∧ isKd v = false
abbrev spBad (K : PySem.W.Frag) : Sp := spX (cN K "BadKind") "kind" (fun d : Six × V => badV d.2) (fun d => [rRd K d.1, Rl.eq d.2]) fun d => d.2
theorem x_places (T : Tx K mg) (TE : TxE P K) : MetX P w K mg base 4 (cN K "Reads") "places" (spBad K) := by
  obtain ⟨fd, F⟩ := T.F_Reads_places
  refine met_x F (T.c "Reads") (T.m "Reads" "places" "Reads") (F.bindsN fun _ _ _ _ _ _ us hl => match us, hl with | [_, _], _ => rfl) scReads_places (fun _ => rfl) ?_
  rintro cdv A outer s0 H0 E ⟨x, kv⟩ G H vs Q hr ⟨hb1, hb2⟩ o al k
  obtain ⟨_, _, rfl, e1, e2⟩ := AlL.two al
  cases e2
  refine wb_if (P := isB true) (jt_flip (jt_not (jt_val (je_call kv (k_is_kind T) hb1 (ja_cons (je_v 1) ja_nil) hr))) (by rw [hb2] <;> rfl)) o (fun h G1 H1 s1 o1 => ?_) (fun h => by cases h)
  exact wb_raise (X := Xx P w K mg base nReads_places "Reads.places" sReads_places (He.fAd K ("Reads", some "places")) cdv A outer s0 H0 E) TE.supK tBadKind (T.f "super") TE.nK hr (T.g "BadKind") rfl (takes_of rfl rfl rfl rfl) (je_v 1) o1 fun d G2 H2 s2 e => k d G2 H2 (s1.trans o s2) e
theorem x_life_ways (T : Tx K mg) (TE : TxE P K) : MetX P w K mg base 4 (cN K "Reads") "life_ways" (spBad K) := by
  obtain ⟨fd, F⟩ := T.F_Reads_life_ways
  refine met_x F (T.c "Reads") (T.m "Reads" "life_ways" "Reads") (F.bindsN fun _ _ _ _ _ _ us hl => match us, hl with | [_, _], _ => rfl) scReads_life_ways (fun _ => rfl) ?_
  rintro cdv A outer s0 H0 E ⟨x, kv⟩ G H vs Q hr ⟨hb1, hb2⟩ o al k
  obtain ⟨_, _, rfl, e1, e2⟩ := AlL.two al
  cases e2
  refine wb_if (P := isB true) (jt_flip (jt_not (jt_val (je_call kv (k_is_kind T) hb1 (ja_cons (je_v 1) ja_nil) hr))) (by rw [hb2] <;> rfl)) o (fun h G1 H1 s1 o1 => ?_) (fun h => by cases h)
  exact wb_raise (X := Xx P w K mg base nReads_life_ways "Reads.life_ways" sReads_life_ways (He.fAd K ("Reads", some "life_ways")) cdv A outer s0 H0 E) TE.supK tBadKind (T.f "super") TE.nK hr (T.g "BadKind") rfl (takes_of rfl rfl rfl rfl) (je_v 1) o1 fun d G2 H2 s2 e => k d G2 H2 (s1.trans o s2) e
/-! ### too wide -/
def tooW (x : Six) : Option Str := if 3 < max x.sp.length x.dp.length then some "names" else if 2 < max x.sl.length x.dl.length then some "lives" else if 2 < x.tr.length then some "tracked" else none
def wV : Option Str → V
  | none => .non
  | some s => .str s
theorem maxI (a b : Nat) : (if (a : Int) < b then (b : Int) else a) = ((max a b : Nat) : Int) := by
  by_cases h : a < b
  · rw [if_pos (by omega)]
    omega
  · rw [if_neg (by omega)]
    omega
theorem m_too_wide (T : Tx K mg) : C8.Met P w K mg base 1 (cN K "Reads") "too_wide" (spF (fun _ : Six => True) (fun x => [rRd K x]) fun x => Rl.eq (wV (tooW x))) [] := by
  obtain ⟨fd, F⟩ := T.F_Reads_too_wide
  refine met_pure F (T.c "Reads") (T.m "Reads" "too_wide" "Reads") (F.bindsN fun _ _ _ _ _ _ us hl => match us, hl with | [_], _ => rfl) scReads_too_wide (fun _ => rfl) ?_
  rintro cdv A outer s0 H0 E x G H vs Q hr _ o al k
  have k : ∀ v G' H', Stp none G H G' H' → (Rl.eq (wV (tooW x))).p v G' → Q v H' := k
  obtain ⟨sv, rfl, e1⟩ := AlL.one al
  unfold tooW at k
  refine wb_if (P := isB (decide (3 < max x.sp.length x.dp.length))) (jt_flip (jt_gt (je_max2 rfl (je_lenTs (je_fld 0 (je_var 0 rfl e1) (T.c "Reads") (T.n "Reads" "son_places")) (T.f "len")) (je_lenTs (je_fld 1 (je_var 0 rfl e1) (T.c "Reads") (T.n "Reads" "daughter_places")) (T.f "len")) (T.f "max")) (je_gi (T.i "MOST_PLACES" 3))) (by
    rw [maxI]
    exact decide_eq_decide.mpr (by omega))) o (fun h G1 H1 s1 o1 => ?_) (fun h G1 H1 s1 o1 => ?_)
  · rw [if_pos (of_decide_eq_true h.symm)] at k
    exact wb_ret je_str o1 fun v G2 H2 s2 r => k v G2 H2 (s1.trans o s2) r
  rw [if_neg (of_decide_eq_false h.symm)] at k
  have e1 := Rl.mono _ _ _ _ s1.gg e1
  refine wb_nil (wb_if (P := isB (decide (2 < max x.sl.length x.dl.length))) (jt_flip (jt_gt (je_max2 rfl (je_lenTs (je_fld 2 (je_var 0 rfl e1) (T.c "Reads") (T.n "Reads" "son_lives")) (T.f "len")) (je_lenTs (je_fld 3 (je_var 0 rfl e1) (T.c "Reads") (T.n "Reads" "daughter_lives")) (T.f "len")) (T.f "max")) (je_gi (T.i "MOST_LIVES" 2))) (by
    rw [maxI]
    exact decide_eq_decide.mpr (by omega))) o1 (fun h G2 H2 s2 o2 => ?_) (fun h G2 H2 s2 o2 => ?_))
  · rw [if_pos (of_decide_eq_true h.symm)] at k
    exact wb_ret je_str o2 fun v G3 H3 s3 r => k v G3 H3 ((s1.trans o s2).trans o s3) r
  rw [if_neg (of_decide_eq_false h.symm)] at k
  have e1 := Rl.mono _ _ _ _ s2.gg e1
  refine wb_nil (wb_ret (R := Rl.eq (wV (if 2 < x.tr.length then some "tracked" else none))) (je_ifE (P := isB (decide (2 < x.tr.length))) (jt_flip (jt_gt (je_lenTs (je_fld 4 (je_var 0 rfl e1) (T.c "Reads") (T.n "Reads" "tracked")) (T.f "len")) (je_gi (T.i "MOST_TRACKED" 2))) (decide_eq_decide.mpr (by omega))) (fun h => ?_) (fun h => ?_)) o2 fun v G3 H3 s3 r => k v G3 H3 ((s1.trans o s2).trans o s3) r)
  · rw [if_pos (of_decide_eq_true h.symm)]
    exact je_str
  · rw [if_neg (of_decide_eq_false h.symm)]
    exact je_non
theorem m_check (T : Tx K mg) : C8.Met P w K mg base 2 (cN K "Reads") "check_width" (spF (fun x : Six => tooW x = none) (fun x => [rRd K x]) fun _ => Rl.eq .non) [] := by
  obtain ⟨fd, F⟩ := T.F_Reads_check_width
  refine met_pure F (T.c "Reads") (T.m "Reads" "check_width" "Reads") (F.bindsN fun _ _ _ _ _ _ us hl => match us, hl with | [_], _ => rfl) scReads_check_width (fun _ => rfl) ?_
  rintro cdv A outer s0 H0 E x G H vs Q hr hp o al k
  have hp : tooW x = none := hp
  obtain ⟨sv, rfl, e1⟩ := AlL.one al
  refine wb_set 1 scReads_check_width.nd (R := Rl.eq (wV (tooW x))) (je_mt0 x (m_too_wide T) trivial rfl (je_var 0 rfl e1) (rRd_no "too_wide" (by decide +kernel) x) hr) o fun v1 G1 H1 s1 o1 r1 => ?_
  rw [hp] at r1
  cases r1
  refine wb_if (P := isB false) (jt_flip (jt_notN (x := .non) (je_v 1)) rfl) o1 (fun h G2 H2 s2 o2 => by cases h) fun h G2 H2 s2 o2 => ?_
  exact wb_nil (wb_nil (k _ G2 H2 (s1.trans o s2) rfl))
theorem x_check (T : Tx K mg) (TE : TxE P K) : MetX P w K mg base 4 (cN K "Reads") "check_width" (spX (cN K "TooWide") "what" (fun d : Six × Str => tooW d.1 = some d.2) (fun d => [rRd K d.1]) fun d => .str d.2) := by
  obtain ⟨fd, F⟩ := T.F_Reads_check_width
  refine met_x F (T.c "Reads") (T.m "Reads" "check_width" "Reads") (F.bindsN fun _ _ _ _ _ _ us hl => match us, hl with | [_], _ => rfl) scReads_check_width (fun _ => rfl) ?_
  rintro cdv A outer s0 H0 E ⟨x, wd⟩ G H vs Q hr hp o al k
  have hp : tooW x = some wd := hp
  obtain ⟨sv, rfl, e1⟩ := AlL.one al
  refine wb_set 1 scReads_check_width.nd (R := Rl.eq (wV (tooW x))) (je_mt0 x (m_too_wide T) trivial rfl (je_var 0 rfl e1) (rRd_no "too_wide" (by decide +kernel) x) hr) o fun v1 G1 H1 s1 o1 r1 => ?_
  rw [hp] at r1
  cases r1
  refine wb_if (P := isB true) (jt_flip (jt_notN (x := .str wd) (je_v 1)) (by rw [decide_eq_false (fun z => nomatch z)] <;> rfl)) o1 (fun h G2 H2 s2 o2 => ?_) (fun h G2 H2 s2 o2 => by cases h)
  exact wb_raise (X := Xx P w K mg base nReads_check_width "Reads.check_width" sReads_check_width (He.fAd K ("Reads", some "check_width")) cdv A outer s0 H0 E) TE.supW tTooWide (T.f "super") TE.nW hr (T.g "TooWide") rfl (takes_of rfl rfl rfl rfl) (je_v 1) o2 fun d G3 H3 s3 e => k d G3 H3 ((s1.trans o s2).trans o s3) e
end
end Nk
namespace Nk
open PySem PySem.Spec PyProof.Rows L2
/-! ### tuples of texts, and lists of them, compared -/
def trD (l : List Str) : PyData := .tuple (l.map .str)
def strsOk (l : List Str) : Bool := l.all PyData.strOk
theorem strs_eqv : ∀ (a b : List Str), PyData.eqvAll (a.map .str) (b.map .str) = decide (a = b)
  | [], [] => rfl
  | [], _ :: _ => rfl
  | _ :: _, [] => rfl
  | x :: a, y :: b => by
    show ((x == y) && PyData.eqvAll (a.map .str) (b.map .str)) = _
    rw [strs_eqv a b]
    by_cases h1 : x = y <;> by_cases h2 : a = b <;> simp [h1, h2]
theorem trD_eqv (a b : List Str) : PyData.eqv (trD a) (trD b) = decide (a = b) := by
  show PyData.eqvAll (a.map .str) (b.map .str) = _
  exact strs_eqv a b
theorem dp_strs {K : PySem.W.Frag} {G : Hp} : ∀ {l : List Str} {xs : List V}, AlL (l.map rS) xs G → DpAll K G xs (l.map .str)
  | [], _, .nil => .nil
  | _ :: _, _, .cons h t => by
    cases h
    exact .cons (.str _) (dp_strs t)
theorem dp_tr {K : PySem.W.Frag} {G : Hp} {l : List Str} {v : V} (h : (Rl.tp K rS l).p v G) : Dp K G v (trD l) := by
  obtain ⟨q, xs, rfl, hp, al⟩ := h
  exact .tup hp (dp_strs al)
theorem strs_lay : ∀ (l : List Str), strsOk l = true → PyData.canLayAll0 (l.map .str) = true ∧ PyData.depthAll (l.map .str) ≤ 0
  | [], _ => ⟨rfl, Nat.le_refl _⟩
  | x :: l, h => by
    unfold strsOk at h
    rw [List.all_cons, Bool.and_eq_true] at h
    obtain ⟨h1, h2⟩ := strs_lay l h.2
    refine ⟨?_, ?_⟩
    · show (PyData.strOk x && PyData.canLayAll0 (l.map .str)) = true
      rw [h.1, h1] <;> rfl
    · show max 0 (PyData.depthAll (l.map .str)) ≤ 0
      omega
theorem tr_lay {l : List Str} (h : strsOk l = true) : PyData.canLay0 (trD l) = true ∧ PyData.depth (trD l) ≤ 1 := by
  obtain ⟨h1, h2⟩ := strs_lay l h
  exact ⟨h1, by show PyData.depthAll (l.map .str) + 1 ≤ 1; omega⟩
theorem tr_shaped {l : List Str} (h : strsOk l = true) : SeqAt.shaped (trD l) = true := by
  obtain ⟨h1, h2⟩ := tr_lay h
  unfold SeqAt.shaped
  rw [Bool.and_eq_true]
  exact ⟨h1, decide_eq_true (by omega)⟩
def Six.rows (x : Six) : List (List Str) := [x.sp, x.dp, x.sl, x.dl, x.tr, x.nu]
def Six.ok (x : Six) : Bool := x.rows.all strsOk
def rowsD (x : Six) : PyData := .list (x.rows.map trD)
theorem rows_eqv : ∀ (a b : List (List Str)), PyData.eqvAll (a.map trD) (b.map trD) = decide (a = b)
  | [], [] => rfl
  | [], _ :: _ => rfl
  | _ :: _, [] => rfl
  | x :: a, y :: b => by
    show (PyData.eqv (trD x) (trD y) && PyData.eqvAll (a.map trD) (b.map trD)) = _
    rw [rows_eqv a b, trD_eqv]
    by_cases h1 : x = y <;> by_cases h2 : a = b <;> simp [h1, h2]
theorem rows_inj {x y : Six} : x.rows = y.rows ↔ x = y := by
  constructor
  · intro h
    obtain ⟨a, b, c, d, e, f⟩ := x
    obtain ⟨a', b', c', d', e', f'⟩ := y
    unfold Six.rows at h
    simp only [List.cons.injEq, and_true] at h
    obtain ⟨h1, h2, h3, h4, h5, h6⟩ := h
    subst h1 h2 h3 h4 h5 h6
    rfl
  · intro h
    rw [h]
instance : DecidableEq Six := fun x y => if h : x.rows = y.rows then .isTrue (rows_inj.mp h) else .isFalse fun e => h (rows_inj.mpr e)
theorem rowsD_eqv (x y : Six) : PyData.eqv (rowsD x) (rowsD y) = decide (x = y) := by
  show PyData.eqvAll (x.rows.map trD) (y.rows.map trD) = _
  rw [rows_eqv]
  exact decide_eq_decide.mpr rows_inj
theorem trs_lay : ∀ (l : List (List Str)), l.all strsOk = true → PyData.canLayAll0 (l.map trD) = true ∧ PyData.depthAll (l.map trD) ≤ 1
  | [], _ => ⟨rfl, Nat.zero_le _⟩
  | x :: l, h => by
    rw [List.all_cons, Bool.and_eq_true] at h
    obtain ⟨h1, h2⟩ := trs_lay l h.2
    obtain ⟨h3, h4⟩ := tr_lay h.1
    refine ⟨?_, ?_⟩
    · show (PyData.canLay0 (trD x) && PyData.canLayAll0 (l.map trD)) = true
      rw [h3, h1] <;> rfl
    · show max (PyData.depth (trD x)) (PyData.depthAll (l.map trD)) ≤ 1
      omega
theorem rows_shaped {x : Six} (h : x.ok = true) : SeqAt.shaped (rowsD x) = true := by
  obtain ⟨h1, h2⟩ := trs_lay x.rows h
  unfold SeqAt.shaped
  rw [Bool.and_eq_true]
  exact ⟨h1, decide_eq_true (by show PyData.depthAll (x.rows.map trD) + 1 ≤ 64; omega)⟩
theorem dp_trs {K : PySem.W.Frag} {G : Hp} : ∀ {l : List (List Str)} {xs : List V}, AlL (l.map fun r => Rl.tp K rS r) xs G → DpAll K G xs (l.map trD)
  | [], _, .nil => .nil
  | _ :: _, _, .cons h t => .cons (dp_tr h) (dp_trs t)
theorem dp_rows {K : PySem.W.Frag} {G : Hp} {x : Six} {v : V} (h : (rDue K x).p v G) : Dp K G v (rowsD x) := by
  obtain ⟨q, xs, rfl, hp, al⟩ := h
  exact .lst (SqL.of hp) (dp_trs (l := x.rows) al)
section
variable {m : Option Hd} {X : Cx} {a b e : Expr} {σ : L2.St} {G : Hp} {pos : Pos} {l1 l2 : List Str} {x y : Six} {k : Nat}
theorem jt_neTs (hr : Room k X.A) (h1 : strsOk l1 = true) (h2 : strsOk l2 = true) (ha : JE m X a σ G (Rl.tp X.K rS l1)) (hb : JE m X b σ G (Rl.tp X.K rS l2)) (hm : behindInMarks .NotEq b = false := by first | exact nomark _ | rfl) : JT m X (.Compare a [.NotEq] [b] pos) σ G (isB (!decide (l1 = l2))) :=
  jt_two (pt_cmpR (op_neD (Nat.lt_of_succ_lt (room_un hr))) pE pE hm) ha hb fun x y G1 H1 Q _ o ex ey kk => by
    refine ⟨trD l1, trD l2, dp_tr (Rl.mono _ _ _ _ o.1 ex), dp_tr (Rl.mono _ _ _ _ o.1 ey), tr_shaped h1, tr_shaped h2, ?_⟩
    rw [trD_eqv]
    exact kk _ G1 H1 (.refl o) rfl
theorem je_eqTs (hr : Room k X.A) (h1 : strsOk l1 = true) (h2 : strsOk l2 = true) (ha : JE m X a σ G (Rl.tp X.K rS l1)) (hb : JE m X b σ G (Rl.tp X.K rS l2)) (hm : behindInMarks .Eq b = false := by first | exact nomark _ | rfl) : JE m X (.Compare a [.Eq] [b] pos) σ G (rB (decide (l1 = l2))) :=
  je_cmp (op_eqD (Nat.lt_of_succ_lt (room_un hr))) ha hb (fun x y G1 H1 Q _ o ex ey kk => by
    refine ⟨trD l1, trD l2, dp_tr (Rl.mono _ _ _ _ o.1 ex), dp_tr (Rl.mono _ _ _ _ o.1 ey), tr_shaped h1, tr_shaped h2, ?_⟩
    rw [trD_eqv]
    exact kk _ G1 H1 (.refl o) rfl) hm
theorem jt_neRs (hr : Room k X.A) (h1 : x.ok = true) (h2 : y.ok = true) (ha : JE m X a σ G (rDue X.K x)) (hb : JE m X b σ G (rDue X.K y)) (hm : behindInMarks .NotEq b = false := by first | exact nomark _ | rfl) : JT m X (.Compare a [.NotEq] [b] pos) σ G (isB (!decide (x = y))) :=
  jt_two (pt_cmpR (op_neD (Nat.lt_of_succ_lt (room_un hr))) pE pE hm) ha hb fun u v G1 H1 Q _ o ex ey kk => by
    refine ⟨rowsD x, rowsD y, dp_rows (Rl.mono _ _ _ _ o.1 ex), dp_rows (Rl.mono _ _ _ _ o.1 ey), rows_shaped h1, rows_shaped h2, ?_⟩
    rw [rowsD_eqv]
    exact kk _ G1 H1 (.refl o) rfl
theorem je_eqRs (hr : Room k X.A) (h1 : x.ok = true) (h2 : y.ok = true) (ha : JE m X a σ G (rDue X.K x)) (hb : JE m X b σ G (rDue X.K y)) (hm : behindInMarks .Eq b = false := by first | exact nomark _ | rfl) : JE m X (.Compare a [.Eq] [b] pos) σ G (rB (decide (x = y))) :=
  je_cmp (op_eqD (Nat.lt_of_succ_lt (room_un hr))) ha hb (fun u v G1 H1 Q _ o ex ey kk => by
    refine ⟨rowsD x, rowsD y, dp_rows (Rl.mono _ _ _ _ o.1 ex), dp_rows (Rl.mono _ _ _ _ o.1 ey), rows_shaped h1, rows_shaped h2, ?_⟩
    rw [rowsD_eqv]
    exact kk _ G1 H1 (.refl o) rfl) hm
end
theorem filt_ok {l : List Str} {f : Str → Bool} (h : strsOk l = true) : strsOk (l.filter f) = true := by
  unfold strsOk at h ⊢
  rw [List.all_eq_true] at h ⊢
  exact fun s hs => h s (List.mem_filter.mp hs).1
theorem six_ok (cs : List Cu) (more further marks : List Str) (houses : Bool) : (six cs more further marks houses).ok = true := by
  have h1 : strsOk places = true := by decide +kernel
  have h2 : strsOk ways12 = true := by decide +kernel
  have h3 : strsOk order = true := by decide +kernel
  have h4 : strsOk (["s", "d"] : List Str) = true := by decide +kernel
  unfold Six.ok Six.rows six
  simp only [List.all_cons, List.all_nil, filt_ok h1, filt_ok h2, filt_ok h3, filt_ok h4, Bool.and_true]
/-! ### __eq__ -/
section
variable {P : Program} {w : World} {K : PySem.W.Frag} {mg : Str → Option Value} {base : Heap}
abbrev spEqR (K : PySem.W.Frag) : Sp := spF (fun d : Six × Six => d.1.ok = true ∧ d.2.ok = true) (fun d => [rRd K d.1, rRd K d.2]) fun d => rB (decide (d.1 = d.2))
abbrev spEqL (K : PySem.W.Frag) : Sp := spF (fun _ : Six × Six => True) (fun d => [rRd K d.1, rDue K d.2]) fun _ => rB false
structure EqF (P : Program) (w : World) (K : PySem.W.Frag) (mg : Str → Option Value) (base : Heap) (k : Nat) (sp : Sp) : Prop where
  ex : ∃ (fd : FuncData) (ps : List Str), FnOk P w K mg base C8.CX0 k (He.fAd K ("Reads", some "__eq__")) fd ps sp ∧ Binds K fd ps []
theorem eq_rd (T : Tx K mg) : EqF P w K mg base 2 (spEqR K) := by
  obtain ⟨fd, F⟩ := T.F_Reads_eq
  refine ⟨fd, _, F.ok (k := 1) (ps := ["self", "other"]) scReads_eq (spF_len fun _ => rfl) (fun cdv A outer s0 H0 vs Q E hr ⟨⟨x, y⟩, G, g, ⟨hx, hy⟩, al, k⟩ => ⟨_, (pB (X := Xc P w K mg base nReads_eq "Reads.__eq__" sReads_eq (He.fAd K ("Reads", some "__eq__")) cdv A outer s0 H0 E)).nox, ?_⟩), F.bindsN fun _ _ _ _ _ _ us hl => match us, hl with | [_, _], _ => rfl⟩
  have o : Okm none G H0 := .of g
  obtain ⟨v1, v2, rfl, e1, e2⟩ := AlL.two al
  have ok : ∀ {z : Six}, z.ok = true → strsOk z.sp = true ∧ strsOk z.dp = true ∧ strsOk z.sl = true ∧ strsOk z.dl = true ∧ strsOk z.tr = true ∧ strsOk z.nu = true := fun {z} h => by
    unfold Six.ok Six.rows at h
    simp only [List.all_cons, List.all_nil, Bool.and_true, Bool.and_eq_true] at h
    exact h
  obtain ⟨x1, x2, x3, x4, x5, x6⟩ := ok hx
  obtain ⟨y1, y2, y3, y4, y5, y6⟩ := ok hy
  have fin : ∀ b : Bool, b = decide (x = y) → ∀ G1 H1, Stp none G H0 G1 H1 → ∀ v, v = V.bl b → Q v H1 := fun b hb G1 H1 s v hv => k v G1 H1 s (by rw [hv, hb]; rfl)
  have dec : decide (x = y) = ((decide (x.sp = y.sp) && decide (x.dp = y.dp)) && ((decide (x.sl = y.sl) && decide (x.dl = y.dl)) && (decide (x.tr = y.tr) && decide (x.nu = y.nu)))) := by
    rw [Bool.eq_iff_iff]
    simp only [Bool.and_eq_true, decide_eq_true_eq]
    rw [← rows_inj]
    unfold Six.rows
    simp only [List.cons.injEq, and_true]
    constructor
    · rintro ⟨a, b, c, d, e, f⟩
      exact ⟨⟨a, b⟩, ⟨c, d⟩, e, f⟩
    · rintro ⟨⟨a, b⟩, ⟨c, d⟩, e, f⟩
      exact ⟨a, b, c, d, e, f⟩
  refine wb_if (P := isB false) (jt_not (b := true) (jt_val (je_isi (je_var 1 rfl e2) (je_cls (T.g "Reads")) (fun v G1 H1 _ s hv => by
    obtain ⟨a, dx, fs, rfl, ha, _⟩ := hv
    exact T.ty "Reads" (s _ _ ha)) (.own _) (T.is "Reads" "Reads" true) (T.f "isinstance")))) o (fun h => by cases h) (fun h G1 H1 s1 o1 => ?_)
  have e1 := Rl.mono _ _ _ _ s1.gg e1
  have e2 := Rl.mono _ _ _ _ s1.gg e2
  refine wb_nil (wb_if (P := isB (!decide (x.sp = y.sp) || !decide (x.dp = y.dp))) (jt_w (jw_or (jt_neTs hr x1 y1 (je_fld 0 (je_var 0 rfl e1) (T.c "Reads") (T.n "Reads" "son_places")) (je_fld 0 (je_var 1 rfl e2) (T.c "Reads") (T.n "Reads" "son_places"))) fun _ => jw_or1 (jt_neTs hr x2 y2 (je_fld 1 (je_var 0 rfl e1) (T.c "Reads") (T.n "Reads" "daughter_places")) (je_fld 1 (je_var 1 rfl e2) (T.c "Reads") (T.n "Reads" "daughter_places"))))) o1 (fun h G2 H2 s2 o2 => ?_) (fun h G2 H2 s2 o2 => ?_))
  · refine wb_ret je_bl o2 fun v G3 H3 s3 r => fin false ?_ G3 H3 ((s1.trans o s2).trans o s3) v r
    rw [dec]
    have h' : (!decide (x.sp = y.sp) || !decide (x.dp = y.dp)) = true := h.symm
    cases q1 : decide (x.sp = y.sp) <;> cases q2 : decide (x.dp = y.dp) <;> rw [q1, q2] at h' <;> first | rfl | cases h'
  have h12 : (decide (x.sp = y.sp) && decide (x.dp = y.dp)) = true := by
    have h' : (!decide (x.sp = y.sp) || !decide (x.dp = y.dp)) = false := h.symm
    cases q1 : decide (x.sp = y.sp) <;> cases q2 : decide (x.dp = y.dp) <;> rw [q1, q2] at h' <;> first | rfl | cases h'
  have e1 := Rl.mono _ _ _ _ s2.gg e1
  have e2 := Rl.mono _ _ _ _ s2.gg e2
  refine wb_nil (wb_if (P := isB (!decide (x.sl = y.sl) || !decide (x.dl = y.dl))) (jt_w (jw_or (jt_neTs hr x3 y3 (je_fld 2 (je_var 0 rfl e1) (T.c "Reads") (T.n "Reads" "son_lives")) (je_fld 2 (je_var 1 rfl e2) (T.c "Reads") (T.n "Reads" "son_lives"))) fun _ => jw_or1 (jt_neTs hr x4 y4 (je_fld 3 (je_var 0 rfl e1) (T.c "Reads") (T.n "Reads" "daughter_lives")) (je_fld 3 (je_var 1 rfl e2) (T.c "Reads") (T.n "Reads" "daughter_lives"))))) o2 (fun h G3 H3 s3 o3 => ?_) (fun h G3 H3 s3 o3 => ?_))
  · refine wb_ret je_bl o3 fun v G4 H4 s4 r => fin false ?_ G4 H4 (((s1.trans o s2).trans o s3).trans o s4) v r
    rw [dec, h12]
    have h' : (!decide (x.sl = y.sl) || !decide (x.dl = y.dl)) = true := h.symm
    cases q1 : decide (x.sl = y.sl) <;> cases q2 : decide (x.dl = y.dl) <;> rw [q1, q2] at h' <;> first | rfl | cases h'
  have h34 : (decide (x.sl = y.sl) && decide (x.dl = y.dl)) = true := by
    have h' : (!decide (x.sl = y.sl) || !decide (x.dl = y.dl)) = false := h.symm
    cases q1 : decide (x.sl = y.sl) <;> cases q2 : decide (x.dl = y.dl) <;> rw [q1, q2] at h' <;> first | rfl | cases h'
  have e1 := Rl.mono _ _ _ _ s3.gg e1
  have e2 := Rl.mono _ _ _ _ s3.gg e2
  refine wb_nil (wb_ret (R := rB (decide (x.tr = y.tr) && decide (x.nu = y.nu))) (je_and (je_eqTs hr x5 y5 (je_fld 4 (je_var 0 rfl e1) (T.c "Reads") (T.n "Reads" "tracked")) (je_fld 4 (je_var 1 rfl e2) (T.c "Reads") (T.n "Reads" "tracked"))) fun _ => je_one (je_eqTs hr x6 y6 (je_fld 5 (je_var 0 rfl e1) (T.c "Reads") (T.n "Reads" "numbered")) (je_fld 5 (je_var 1 rfl e2) (T.c "Reads") (T.n "Reads" "numbered")))) o3 fun v G4 H4 s4 r => fin _ ?_ G4 H4 (((s1.trans o s2).trans o s3).trans o s4) v r)
  rw [dec, h12, h34] <;> rfl
theorem eq_ls {P0 : Program} (T : Tx K mg) (TE : TxE P0 K) : EqF P w K mg base 1 (spEqL K) := by
  obtain ⟨fd, F⟩ := T.F_Reads_eq
  refine ⟨fd, _, F.ok (k := 0) (ps := ["self", "other"]) scReads_eq (spF_len fun _ => rfl) (fun cdv A outer s0 H0 vs Q E hr ⟨⟨x, y⟩, G, g, _, al, k⟩ => ⟨_, (pB (X := Xc P w K mg base nReads_eq "Reads.__eq__" sReads_eq (He.fAd K ("Reads", some "__eq__")) cdv A outer s0 H0 E)).nox, ?_⟩), F.bindsN fun _ _ _ _ _ _ us hl => match us, hl with | [_, _], _ => rfl⟩
  have o : Okm none G H0 := .of g
  obtain ⟨v1, v2, rfl, e1, e2⟩ := AlL.two al
  refine wb_if (P := isB true) (jt_not (b := false) (jt_val (je_isi (je_var 1 rfl e2) (je_cls (T.g "Reads")) (fun v G1 H1 _ s hv => lsl_ty v G1 H1 s hv) (.own _) TE.kitl (T.f "isinstance")))) o (fun h G1 H1 s1 o1 => ?_) (fun h => by cases h)
  exact wb_ret je_bl o1 fun v G3 H3 s3 r => k v G3 H3 (s1.trans o s3) r
end
/-! ### == and != of two Reads, of a Reads and a list -/
section
variable {P0 : Program} {X : Cx} {pins : List (Addr × Obj)} {σ : L2.St} {H : Hp} {s : Shared} {k : Nat} {sp : Sp}
theorem run_eqf {A : Around} {x : V} {u : Value} {a : Addr} {Q : VK} (F : EqF X.prog X.w X.K X.mg X.base k sp) (hr : Room k A) (e0 : Env0 X.prog X.w X.K X.mg X.base A X.stack s H) (I : Inv X pins σ H s) (ry : RelV x u) (h : sp [.ref a, x] H Q fun _ _ _ => False) :
    wpAny (model X.prog X.w) A (call (.ref (He.fAd X.K ("Reads", some "__eq__"))) [.ref a, u]) (EP X pins σ Q) X.xe s := by
  obtain ⟨fd, ps, F, hb⟩ := F.ex
  have hl := F.len _ _ _ _ h
  have r2 : Vals [V.ref a, x] [Value.ref a, u] := .cons rfl (.cons ry .nil)
  refine wpAny_call (codeAny_mono (F.run A X.stack s H ⟨[.ref a, u], []⟩ [.ref a, u] [.ref a, x] Q _ hr e0 (by
    have := hb s [.ref a, u] I.kIn (by simpa using hl)
    simpa using this) r2 h) fun r s' hq => ?_)
  cases r with
  | error e => exact False.elim hq
  | ok fl =>
    cases fl with
    | ret w => exact I.after hq
    | next => exact False.elim hq
    | brk => exact False.elim hq
    | cont => exact False.elim hq
/-- the other side: an instance of C, or a list -/
def OtherR (K : PySem.W.Frag) (C : Addr) (y : V) (H : Hp) : Prop := ∃ b, y = .ref b ∧ ((∃ dy gs, H b = some (.ins C dy gs)) ∨ ∃ xs, H b = some (.lst xs))
def rOwnEq (K : PySem.W.Frag) (C : Addr) (sp : Sp) (flip : Bool → Bool) : R2 := fun x y H Q => ∃ a dx fs, x = .ref a ∧ H a = some (.ins C dx fs) ∧ OtherR K C y H ∧ sp [x, y] H (fun v H' => ∃ b, v = .bl b ∧ Q (.bl (flip b)) H') fun _ _ _ => False
theorem other_ty {C : Addr} {y : V} {v : Value} (I : Inv X pins σ H s) (hl : PySem.W.subIn X.K (.type "list") (.ref C) = some false) (ho : OtherR X.K C y H) (ry : RelV y v) : ∃ tb, PySem.W.Looks (model X.prog X.w) s.heap (typeOf v) tb ∧ PySem.W.notFirst X.K C tb = true := by
  obtain ⟨b, rfl, ⟨dy, gs, hb⟩ | ⟨xs, hb⟩⟩ := ho
  · cases ry
    obtain ⟨mB, J', _⟩ := ins_get I.hok hb
    obtain ⟨od', J', _⟩ := J'.look
    exact ⟨.ref C, J'.type, by simp [PySem.W.notFirst]⟩
  · cases ry
    obtain ⟨_, its, n, _, e⟩ := I.hok b _ hb
    refine ⟨.type "list", fun A Q E s k q => wpAny_typeOf_ref (k _ _ e) q, ?_⟩
    unfold PySem.W.notFirst
    rw [hl, Bool.or_eq_true]
    exact .inr rfl
theorem op_ownEq (TE : TxE P0 X.K) (F : EqF X.prog X.w X.K X.mg X.base k sp) (hr : Room k X.A) : OpR X (compareOp .Eq) (rOwnEq X.K (cN X.K "Reads") sp id) := by
  intro pins s σ H x y v u Q I rx ry h
  obtain ⟨a, dx, fs, rfl, ha, ho, q⟩ := h
  cases rx
  obtain ⟨tb, hb, hn⟩ := other_ty I TE.lst ho ry
  obtain ⟨mA, J, _⟩ := ins_get I.hok ha
  obtain ⟨od, J, _⟩ := J.look
  obtain ⟨m, hF⟩ := I.fr
  show wpAny (model X.prog X.w) X.A (richCompare .Eq (.ref a) u) _ _ _
  refine PySem.W.cmp_K (op := .Eq) (tb := tb) hr.units0 hF I.ok.mod.kin J hb hn TE.eq TE.eqf (wpAny_mono (run_eqf F hr I.env0 I ry q) (fun w s' hw => ?_) fun _ _ z => z)
  obtain ⟨v', H', I', rv, b, rfl, q'⟩ := hw
  cases rv
  exact ⟨.bl b, H', I', rfl, q'⟩
theorem op_ownNe (TE : TxE P0 X.K) (F : EqF X.prog X.w X.K X.mg X.base k sp) (hr : Room (k + 1) X.A) : OpR X (compareOp .NotEq) (rOwnEq X.K (cN X.K "Reads") sp not) := by
  intro pins s σ H x y v u Q I rx ry h
  obtain ⟨a, dx, fs, rfl, ha, ho, q⟩ := h
  cases rx
  obtain ⟨tb, hb, hn⟩ := other_ty I TE.lst ho ry
  obtain ⟨mA, J, _⟩ := ins_get I.hok ha
  obtain ⟨od, J, _⟩ := J.look
  obtain ⟨m, hF⟩ := I.fr
  show wpAny (model X.prog X.w) X.A (richCompare .NotEq (.ref a) u) _ _ _
  refine ne_K (tb := tb) (by have := hr.un; omega) hF I.ok.mod.kin J hb hn TE.ne TE.eq TE.eqf TE.mro (wpAny_mono (run_eqf F hr.in1 I.env0.in1 I ry q) (fun w s' hw => ?_) fun _ _ z => z)
  obtain ⟨v', H', I', rv, b, rfl, q'⟩ := hw
  cases rv
  exact ⟨b, rfl, .bl (!b), H', I', rfl, q'⟩
end
section
variable {m : Option Hd} {P0 : Program} {X : Cx} {a b : Expr} {σ : L2.St} {G : Hp} {pos : Pos} {x y : Six} {j : Nat}
theorem rRd_other {K : PySem.W.Frag} {y : Six} {v : V} {G H : Hp} (s : Same G H) (h : (rRd K y).p v G) : OtherR K (cN K "Reads") v H := by
  obtain ⟨b, dx, fs, rfl, hb, _⟩ := h
  exact ⟨b, rfl, .inl ⟨dx, fs, s _ _ hb⟩⟩
theorem je_eqRd (T : Tx X.K X.mg) (TE : TxE P0 X.K) (hx : x.ok = true) (hy : y.ok = true) (ha : JE m X a σ G (rRd X.K x)) (hb : JE m X b σ G (rRd X.K y)) (hr : Room j X.A) (hj : 2 ≤ j := by decide) (hm : behindInMarks .Eq b = false := by first | exact nomark _ | rfl) : JE m X (.Compare a [.Eq] [b] pos) σ G (rB (decide (x = y))) :=
  je_cmp (op_ownEq TE (eq_rd (P := X.prog) (w := X.w) (base := X.base) T) (hr.mono hj)) ha hb (fun u v G1 H1 Q _ o ex ey kk => by
    obtain ⟨p, dx, fs, rfl, hp, hns, al⟩ := id ex
    exact ⟨p, dx, fs, rfl, o.1 _ _ hp, rRd_other o.1 ey, (x, y), G1, o.1, ⟨hx, hy⟩, .cons ex (.cons ey .nil), fun v G' H' s r => ⟨_, r, kk _ G' H' s.up rfl⟩⟩) hm
theorem jt_neRd (T : Tx X.K X.mg) (TE : TxE P0 X.K) (hx : x.ok = true) (hy : y.ok = true) (ha : JE m X a σ G (rRd X.K x)) (hb : JE m X b σ G (rRd X.K y)) (hr : Room j X.A) (hj : 3 ≤ j := by decide) (hm : behindInMarks .NotEq b = false := by first | exact nomark _ | rfl) : JT m X (.Compare a [.NotEq] [b] pos) σ G (isB (!decide (x = y))) :=
  jt_two (pt_cmpR (op_ownNe TE (eq_rd (P := X.prog) (w := X.w) (base := X.base) T) (hr.mono hj)) pE pE hm) ha hb fun u v G1 H1 Q _ o ex ey kk => by
    obtain ⟨p, dx, fs, rfl, hp, hns, al⟩ := id ex
    exact ⟨p, dx, fs, rfl, o.1 _ _ hp, rRd_other o.1 ey, (x, y), G1, o.1, ⟨hx, hy⟩, .cons ex (.cons ey .nil), fun v G' H' s r => ⟨_, r, kk _ G' H' s.up rfl⟩⟩
theorem jt_eqRL (T : Tx X.K X.mg) (TE : TxE P0 X.K) (ha : JE m X a σ G (rRd X.K x)) (hb : JE m X b σ G (rDue X.K y)) (hr : Room j X.A) (hj : 1 ≤ j := by decide) (hm : behindInMarks .Eq b = false := by first | exact nomark _ | rfl) : JT m X (.Compare a [.Eq] [b] pos) σ G (isB false) :=
  jt_two (pt_cmpR (op_ownEq TE (eq_ls (P := X.prog) (w := X.w) (base := X.base) T TE) (hr.mono hj)) pE pE hm) ha hb fun u v G1 H1 Q _ o ex ey kk => by
    obtain ⟨p, dx, fs, rfl, hp, hns, al⟩ := id ex
    obtain ⟨q, xs, rfl, hq, _⟩ := id ey
    exact ⟨p, dx, fs, rfl, o.1 _ _ hp, ⟨q, rfl, .inr ⟨xs, o.1 _ _ hq⟩⟩, (x, y), G1, o.1, trivial, .cons ex (.cons ey .nil), fun v G' H' s r => ⟨_, r, kk _ G' H' s.up rfl⟩⟩
end
end Nk
namespace Nk
open PySem PySem.Spec PyProof.Rows L2
section
variable {X : Cx} {e : Expr} {σ : L2.St} {G H : Hp} {W : WX} {C : Addr} {f : Str} {v : V} {D : Ends} {rest : List Stmt} {pos p0 p1 p2 : Pos} {y nm : Str} {py : Pos}
/-- y = e, where e raises -/
theorem wb_setX (i : Nat) (hN : X.N.Nodup) (h : JX X e σ G W C f v) (o : Okm none G H) (w : ∀ d G' H', Stp none G H G' H' → G' d = some (.xd [(f, v)]) → W (.ref C) (some d) σ H') (hi : X.N[i]? = some y := by rfl) (hx : Loc X.env.scope y := by first | exact .inl rfl | exact .inr rfl)
    (hs : swapsWith e (some (.Name y py)) pos.line X.env = pure false := by rfl) (hf : X.fn y = true ∨ X.env.scope.names.lookup y = some .local := by first | exact .inl rfl | exact .inr rfl) : WB X (.Assign [.Name y py] e pos :: rest) D σ H :=
  wb_step (ps_set hN hi hx pE hs hf) (h G H (Same.refl G) o w _)
/-- p.append(e), where e raises -/
theorem wb_putX (i : Nat) {p : Addr} {xs : List V} (hσ : σ[i]? = some (some (.ref p))) (hp : H p = some (.lst xs)) (h : JX X e σ G W C f v) (o : Okm none G H) (w : ∀ d G' H', Stp none G H G' H' → G' d = some (.xd [(f, v)]) → W (.ref C) (some d) σ H')
    (hN : X.N[i]? = some nm := by rfl) (hv : Vis X.env.scope nm := by first | exact Or.inl rfl | exact Or.inr (Or.inl rfl) | exact Or.inr (Or.inr rfl))
    (hd1 : (nm == ("__debug__" : Str)) = false := by decide) (hcd : (nm == ("__classdict__" : Str)) = false := by decide)
    (hbase : attributeBase (.Name nm p0) "append" X.env (eval (.Name nm p0) X.env) = eval (.Name nm p0) X.env := by rfl)
    (hfew : ((backTo p2 (starEach [e] X.env)).all (fun x => !x.1) && (backToKw p2 (keywordEach [] X.env)).all (fun x => x.1.isSome)
      && decide (([e] : List Expr).length + ([] : List Keyword).length + (if ([] : List Keyword).isEmpty then 0 else 1) < 30)) = true := by rfl)
    (hline : (p1.endLine == p2.line) = true := by rfl) (hs : starEach [e] X.env = (false, eval e X.env) :: starEach [] X.env := by rfl) (hplain : (backTo p2 (starEach [] X.env)).any (·.1) = false := by rfl)
    (hsw : swapsWith (.Call (.Attribute (.Name nm p0) "append" p1) [e] [] p2) none pos.line X.env = pure false := by rfl) :
    WB X (.Expr (.Call (.Attribute (.Name nm p0) "append" p1) [e] [] p2) pos :: rest) D σ H :=
  wb_step (ps_expr (pe_bm PySem.F.plainAttrs_list PySem.F.slot_list_append PySem.F.type_list_append mt_append (pe_var hN hv hd1 hcd) (pa_cons pE pa_nil hs) hbase hfew hline hs hplain) hsw)
    ⟨.ref p, hσ, .inl ⟨rfl, _, SqL.of hp⟩, h G H (Same.refl G) o w _⟩
end
theorem wV_scal (x : Option Str) : scal (wV x) (wV x) = true := by
  cases x <;> rfl
theorem badV_scal {v : V} (h : strIntN v) : scal v v = true := by
  cases v <;> first | rfl | exact h.elim
section
variable {P : Program} {w : World} {K : PySem.W.Frag} {mg : Str → Option Value} {base : Heap}
theorem k_Lright (T : Tx K mg) (TE : TxE P K) : C8.Cal P w K mg base 5 "_law_right" (spF (fun x : Six => x.ok = true) (fun x => [rRd K x, rDue K x]) fun _ => rB true) [] := by
  obtain ⟨fd, F⟩ := T.F_Lright
  refine cal_pure F (T.g "_law_right") (F.bindsN fun _ _ _ _ _ _ us hl => match us, hl with | [_, _], _ => rfl) scLright (fun _ => rfl) ?_
  rintro cdv A outer s0 H0 E x G H vs Q hr hx o al k
  have hx : x.ok = true := hx
  have k : ∀ v G' H', Stp none G H G' H' → (rB true).p v G' → Q v H' := k
  obtain ⟨tv, dv, rfl, e1, e2⟩ := AlL.two al
  have kS : kindOk "s" := .inl rfl
  have kD : kindOk "d" := .inr rfl
  refine wb_set 2 scLright.nd (R := rDue K x) (je_lst (l := [Rl.tp K rS x.sp, Rl.tp K rS x.dp, Rl.tp K rS x.sl, Rl.tp K rS x.dl, Rl.tp K rS x.tr, Rl.tp K rS x.nu])
    (ja_cons (JE.cast (je_mt (x, ("s" : Str)) (m_places T) kS rfl (je_var 0 rfl e1) (rRd_no "places" (by decide +kernel) x) (ja_cons je_str ja_nil) hr) (congrArg (Rl.tp K rS) (if_pos rfl)))
    (ja_cons (JE.cast (je_mt (x, ("d" : Str)) (m_places T) kD rfl (je_var 0 rfl e1) (rRd_no "places" (by decide +kernel) x) (ja_cons je_str ja_nil) hr) (congrArg (Rl.tp K rS) (if_neg (show ¬ ("d" : Str) = "s" by decide))))
    (ja_cons (JE.cast (je_mt (x, ("s" : Str)) (m_life_ways T) kS rfl (je_var 0 rfl e1) (rRd_no "life_ways" (by decide +kernel) x) (ja_cons je_str ja_nil) hr) (congrArg (Rl.tp K rS) (if_pos rfl)))
    (ja_cons (JE.cast (je_mt (x, ("d" : Str)) (m_life_ways T) kD rfl (je_var 0 rfl e1) (rRd_no "life_ways" (by decide +kernel) x) (ja_cons je_str ja_nil) hr) (congrArg (Rl.tp K rS) (if_neg (show ¬ ("d" : Str) = "s" by decide))))
    (ja_cons (je_fld 4 (je_var 0 rfl e1) (T.c "Reads") (T.n "Reads" "tracked"))
    (ja_cons (je_fld 5 (je_var 0 rfl e1) (T.c "Reads") (T.n "Reads" "numbered")) ja_nil))))))) o fun v2 G2 H2 s2 o2 r2 => ?_
  have e1 := Rl.mono _ _ _ _ s2.gg e1
  have e2 := Rl.mono _ _ _ _ s2.gg e2
  -- behind the word
  have after : ∀ (a : Option V) (G3 H3 : Hp), Stp none G H G3 H3 → Same G2 G3 →
      WB (Xc P w K mg base nLright "_law_right" sLright (He.ga K "_law_right") cdv A outer s0 H0 E) ((defBody sLright).drop 5) { nx := fun _ H' => Q .non H', rt := Q } [some tv, some dv, some v2, a, some (wV (tooW x)), none, none] H3 := by
    intro a G3 H3 s3 g23
    have o3 := s3.okm o
    have e1' := Rl.mono _ _ _ _ g23 e1
    have fin : ∀ (b : Option V) (G4 H4 : Hp), Stp none G H G4 H4 → Same G2 G4 → WB (Xc P w K mg base nLright "_law_right" sLright (He.ga K "_law_right") cdv A outer s0 H0 E) ((defBody sLright).drop 6) { nx := fun _ H' => Q .non H', rt := Q } [some tv, some dv, some v2, a, some (wV (tooW x)), some (wV (tooW x)), b] H4 := by
      intro b G4 H4 s4 g24
      have o4 := s4.okm o
      have e1 := Rl.mono _ _ _ _ g24 e1
      have ds := wV_scal (tooW x)
      refine wb_ret (R := rB (decide (wV (tooW x) = wV (tooW x)) && decide (wV (tooW x) = wV (tooW x)))) (je_and (je_eq (je_mt0 x (m_too_wide T) trivial rfl (je_var 0 rfl e1) (rRd_no "too_wide" (by decide +kernel) x) hr) (je_v 4) ds) fun _ => je_one (je_eq (je_v 5) (je_v 4) ds)) o4 fun v G5 H5 s5 r => k v G5 H5 (s4.trans o s5) ?_
      rw [decide_eq_true rfl] at r
      exact r
    cases hw : tooW x with
    | none =>
      rw [hw] at fin
      refine wb_tryAs (i := 6) rfl rfl scLright.nd rfl rfl ⟨rfl, by decide, .inl (T.g "TooWide")⟩ fun W pn xe tk po kw => ?_
      refine wb_set (X := (Xc P w K mg base nLright "_law_right" sLright (He.ga K "_law_right") cdv A outer s0 H0 E).tr pn xe) 5 scLright.nd (je_mt0 x (m_check T) hw rfl (je_var 0 rfl e1') (rRd_no "check_width" (by decide +kernel) x) hr) o3 fun v4 G4 H4 s4 o4 r4 => wb_nil ?_
      cases r4
      exact fin _ G4 H4 (s3.trans o s4) (g23.trans s4.gg)
    | some wd =>
      rw [hw] at fin
      refine wb_tryAs (i := 6) rfl rfl scLright.nd rfl rfl ⟨rfl, by decide, .inl (T.g "TooWide")⟩ fun W pn xe tk po kw => ?_
      refine wb_setX (X := (Xc P w K mg base nLright "_law_right" sLright (He.ga K "_law_right") cdv A outer s0 H0 E).tr pn xe) 5 scLright.nd (jx_mt0 (x, wd) (x_check T TE) tk hw rfl (je_var 0 rfl e1') (rRd_no "check_width" (by decide +kernel) x) hr) o3 fun d G4 H4 s4 hd => ?_
      refine kw _ _ _ _ TE.exW fun a' na oe pn' hz hf => ?_
      have o4 := s4.okm o3
      refine wb_set (X := (Xc P w K mg base nLright "_law_right" sLright (He.ga K "_law_right") cdv A outer s0 H0 E).suite a' ((a', oe) :: pn')) 5 scLright.nd (R := rS wd) (je_ifE (P := isB true) (jt_w (jw_and (p := true) (q := true) (jt_val (je_isX TE.ecW hz hf (je_v 6) (je_cls (T.g "CustomError")) hd (fun w h => h) TE.ke3 (T.f "isinstance"))) fun _ => jw_and1 (jt_not (b := false) (jt_val (je_isX TE.ecW hz hf (je_v 6) (je_cls (T.g "BadKind")) hd (fun w h => h) TE.ke4 (T.f "isinstance"))))))
        (fun _ => je_xf TE.xfW TE.nW hz hf (je_v 6) hd rfl) (fun h => by cases h)) o4 fun v5 G5 H5 s5 o5 r5 => wb_nil ?_
      cases r5
      exact fin _ G5 H5 ((s3.trans o s4).trans o s5) ((g23.trans s4.gg).trans s5.gg)
  -- the rows are tuples
  refine wb_for (fun i σ' G' H' => Stp none G H G' H' ∧ Same G2 G' ∧ ∃ a, σ' = [some tv, some dv, some v2, a, none, none, none]) PassesOwn.never rfl (pg_name (i := 3) scLright.nd rfl (.inl rfl)) (ji_list (je_var 2 rfl r2)) o2 (fun G3 H3 s3 o3 => ⟨s2.trans o s3, s3.gg, _, rfl⟩) ?_ ?_
  · rintro Gc gc i R σ' G' H' y hR gg o' ⟨st, g2', a, rfl⟩ G3 H3 s3 o3 ry
    have hy : ∃ l, (Rl.tp K rS l).p y G3 := by
      have hm := List.mem_of_getElem? hR
      simp only [List.mem_cons, List.not_mem_nil, or_false] at hm
      rcases hm with rfl | rfl | rfl | rfl | rfl | rfl <;> exact ⟨_, ry⟩
    obtain ⟨l, ry⟩ := hy
    refine wb_if (P := isB false) (jt_not (b := true) (jt_val (je_isi (je_var 3 rfl ry) (je_ty (T := "tuple") (T.f "tuple") (by decide +kernel)) (fun v G1 H1 _ s hv => tpl_ty v G1 H1 s hv) (.ty "tuple") (kit_ty (by decide +kernel)) (T.f "isinstance")))) o3 (fun h => by cases h) (fun h G4 H4 s4 o4 => wb_nil (wb_nil ?_))
    exact ⟨G4, (gg.trans s3.gg).trans s4.gg, o4, (st.trans o s3).trans o s4, (g2'.trans s3.gg).trans s4.gg, _, rfl⟩
  · rintro σ' G' H' gg o' ⟨st, g2', a, rfl⟩
    have r2 := Rl.mono _ _ _ _ g2' r2
    have e2 := Rl.mono _ _ _ _ g2' e2
    refine wb_if (P := isB false) (jt_flip (jt_neRs hr hx hx (je_var 2 rfl r2) (je_var 1 rfl e2)) (by rw [decide_eq_true rfl] <;> rfl)) o' (fun h => by cases h) (fun h G3 H3 s3 o3 => wb_nil ?_)
    refine wb_set 4 scLright.nd je_non o3 fun v4 G4 H4 s4 o4 r4 => ?_
    cases r4
    have g24 := (g2'.trans s3.gg).trans s4.gg
    have st4 := (st.trans o s3).trans o s4
    have e2 := Rl.mono _ _ _ _ (s3.gg.trans s4.gg) e2
    refine wb_if (P := isB (decide (3 < max x.sp.length x.dp.length))) (jt_flip (jt_gt (je_max2 rfl (je_lenTs (ds := x.sp) (D := rS) (je_ixL (je_var 1 rfl e2) je_int) (T.f "len")) (je_lenTs (ds := x.dp) (D := rS) (je_ixL (je_var 1 rfl e2) je_int) (T.f "len")) (T.f "max")) je_int) (by
      rw [maxI]
      exact decide_eq_decide.mpr (by omega))) o4 (fun h G5 H5 s5 o5 => ?_) (fun h G5 H5 s5 o5 => ?_)
    · have ew : tooW x = some ("names" : Str) := by
        unfold tooW
        rw [if_pos (of_decide_eq_true h.symm)]
      rw [ew] at after
      refine wb_set 4 scLright.nd je_str o5 fun v6 G6 H6 s6 o6 r6 => wb_nil ?_
      cases r6
      exact after _ G6 H6 ((st4.trans o s5).trans o s6) ((g24.trans s5.gg).trans s6.gg)
    have n1 := of_decide_eq_false h.symm
    have e2 := Rl.mono _ _ _ _ s5.gg e2
    refine wb_if (P := isB (decide (2 < max x.sl.length x.dl.length))) (jt_flip (jt_gt (je_max2 rfl (je_lenTs (ds := x.sl) (D := rS) (je_ixL (je_var 1 rfl e2) je_int) (T.f "len")) (je_lenTs (ds := x.dl) (D := rS) (je_ixL (je_var 1 rfl e2) je_int) (T.f "len")) (T.f "max")) je_int) (by
      rw [maxI]
      exact decide_eq_decide.mpr (by omega))) o5 (fun h G6 H6 s6 o6 => ?_) (fun h G6 H6 s6 o6 => ?_)
    · have ew : tooW x = some ("lives" : Str) := by
        unfold tooW
        rw [if_neg n1, if_pos (of_decide_eq_true h.symm)]
      rw [ew] at after
      refine wb_set 4 scLright.nd je_str o6 fun v7 G7 H7 s7 o7 r7 => wb_nil (wb_nil ?_)
      cases r7
      exact after _ G7 H7 (((st4.trans o s5).trans o s6).trans o s7) (((g24.trans s5.gg).trans s6.gg).trans s7.gg)
    have n2 := of_decide_eq_false h.symm
    have e2 := Rl.mono _ _ _ _ s6.gg e2
    refine wb_if (P := isB (decide (2 < x.tr.length))) (jt_flip (jt_gt (je_lenTs (ds := x.tr) (D := rS) (je_ixL (je_var 1 rfl e2) je_int) (T.f "len")) je_int) (decide_eq_decide.mpr (by omega))) o6 (fun h G7 H7 s7 o7 => ?_) (fun h G7 H7 s7 o7 => ?_)
    · have ew : tooW x = some ("tracked" : Str) := by
        unfold tooW
        rw [if_neg n1, if_neg n2, if_pos (of_decide_eq_true h.symm)]
      rw [ew] at after
      refine wb_set 4 scLright.nd je_str o7 fun v8 G8 H8 s8 o8 r8 => wb_nil (wb_nil (wb_nil ?_))
      cases r8
      exact after _ G8 H8 ((((st4.trans o s5).trans o s6).trans o s7).trans o s8) ((((g24.trans s5.gg).trans s6.gg).trans s7.gg).trans s8.gg)
    · have ew : tooW x = none := by
        unfold tooW
        rw [if_neg n1, if_neg n2, if_neg (of_decide_eq_false h.symm)]
      rw [ew] at after
      exact wb_nil (wb_nil (wb_nil (after _ G7 H7 (((st4.trans o s5).trans o s6).trans o s7) (((g24.trans s5.gg).trans s6.gg).trans s7.gg))))
end
end Nk
namespace Nk
open PySem PySem.Spec PyProof.Rows L2
theorem dp_bls {K : PySem.W.Frag} {G : Hp} : ∀ {l : List Bool} {xs : List V}, AlL (l.map rB) xs G → DpAll K G xs (l.map .bool)
  | [], _, .nil => .nil
  | _ :: _, _, .cons h t => by
    cases h
    exact .cons (.bl _) (dp_bls t)
section
variable {P : Program} {w : World} {K : PySem.W.Frag} {mg : Str → Option Value} {base : Heap}
theorem k_Lrefused (T : Tx K mg) (TE : TxE P K) : C8.Cal P w K mg base 5 "_law_refused" (spF (fun d : Six × V => badV d.2) (fun d => [rRd K d.1, Rl.eq d.2]) fun _ => rB true) [] := by
  obtain ⟨fd, F⟩ := T.F_Lrefused
  refine cal_pure F (T.g "_law_refused") (F.bindsN fun _ _ _ _ _ _ us hl => match us, hl with | [_, _], _ => rfl) scLrefused (fun _ => rfl) ?_
  rintro cdv A outer s0 H0 E ⟨x, kv⟩ G H vs Q hr hb o al k
  have hb : badV kv := hb
  have k : ∀ v G' H', Stp none G H G' H' → (rB true).p v G' → Q v H' := k
  obtain ⟨tv, _, rfl, e1, e2⟩ := AlL.two al
  cases e2
  have nn : ∀ {p : Addr}, ∀ h, (none : Option Hd) = some h → p ≠ h.a := fun h z => nomatch z
  refine wb_new (m := none) 2 scLrefused.nd ja_nil o (.refl o) (Nat.zero_le _) fun p xs G1 H1 s1 g1 w1 _ => ?_
  have hx0 : xs = [] := by
    have := w1.al.len
    exact List.eq_nil_of_length_eq_zero this
  subst hx0
  refine wb_for (fun i σ' G' H' => Stp none G H G' H' ∧ Same G1 G' ∧ ∃ a, σ' = [some tv, some kv, some (.ref p), a, none] ∧ Own p (List.replicate i (V.bl true)) (List.replicate i (rB true)) H G' H') PassesOwn.never rfl (pg_name (i := 3) scLrefused.nd rfl (.inl rfl)) (ji_range (n := 2) je_int (by decide) (T.f "range")) (s1.okm o) (fun G2 H2 s2 o2 => ⟨s1.trans o s2, s2.gg, _, rfl, w1.step (m := none) nn s2⟩) ?_ ?_
  · rintro Gc gc i R σ' G' H' y hR gg o' ⟨st, g1', a, rfl, wf⟩ G2 H2 s2 o2 ry
    have hi : i < 2 := by
      obtain ⟨h, _⟩ := List.getElem?_eq_some_iff.mp hR
      rw [List.length_map, List.length_range] at h
      exact h
    rw [List.getElem?_map, List.getElem?_range hi] at hR
    cases hR
    cases ry
    have st2 := st.trans o s2
    have wf2 := wf.step (m := none) nn s2
    have e1' := Rl.mono _ _ _ _ st2.gg e1
    refine wb_tryAs (i := 4) rfl rfl scLrefused.nd rfl rfl ⟨rfl, by decide, .inl (T.g "BadKind")⟩ fun W pn xe tk po kw => ?_
    refine wb_putX (X := (Xc P w K mg base nLrefused "_law_refused" sLrefused (He.ga K "_law_refused") cdv A outer s0 H0 E).tr pn xe) (W := W) (C := cN K "BadKind") (f := "kind") (v := kv) 2 rfl wf2.h (jx_ifE (jt_eq (je_v 3) je_int) (fun _ => jx_mt (x, kv) (x_places T TE) tk hb rfl (je_var 0 rfl e1') (rRd_no "places" (by decide +kernel) x) (ja_cons (je_v 1) ja_nil) hr) (fun _ => jx_mt (x, kv) (x_life_ways T TE) tk hb rfl (je_var 0 rfl e1') (rRd_no "life_ways" (by decide +kernel) x) (ja_cons (je_v 1) ja_nil) hr)) o2 fun d G3 H3 s3 hd => ?_
    refine kw _ _ _ _ TE.exK fun a' na oe pn' hz hf => ?_
    have o3 := s3.okm o2
    have st3 := st2.trans o s3
    refine wb_put (X := (Xc P w K mg base nLrefused "_law_refused" sLrefused (He.ga K "_law_refused") cdv A outer s0 H0 E).suite a' ((a', oe) :: pn')) (m := none) 2 rfl o st3 (wf2.step (m := none) nn s3) (R := rB true) (JE.cast (je_and (p := decide (kv = kv)) (q := true) (je_eq (je_xf TE.xfK TE.nK hz hf (je_v 4) hd rfl) (je_v 1) (badV_scal hb.1)) fun _ => je_and (p := true) (q := true) (je_isX TE.ecK hz hf (je_v 4) (je_cls (T.g "CustomError")) hd (fun w h => h) TE.ke1 (T.f "isinstance")) fun _ => je_one (je_not (p := false) (je_isX TE.ecK hz hf (je_v 4) (je_cls (T.g "TooWide")) hd (fun w h => h) TE.ke2 (T.f "isinstance")))) (by rw [decide_eq_true rfl] <;> rfl)) (by rw [List.length_replicate]; omega) fun v4 G4 H4 st4 g34 w4 _ _ => wb_nil ?_
    have ev : v4 = V.bl true := by
      have z := w4.al
      obtain ⟨_, q⟩ := AlL.last z
      exact q
    subst ev
    refine wb_nil ⟨G4, ((gg.trans s2.gg).trans s3.gg).trans g34, st4.okm o, st4, ((g1'.trans s2.gg).trans s3.gg).trans g34, _, rfl, ?_⟩
    rw [List.replicate_succ', List.replicate_succ']
    exact w4
  · rintro σ' G' H' gg o' ⟨st, g1', a, rfl, wf⟩
    obtain ⟨z1, z2, z3⟩ := wf.tell (m := none) (G0 := G) o st
    refine wb_ret (R := rB true) (je_cmp (Ra := Rl.lsl [rB true, rB true]) (Rb := Rl.lsl [rB true, rB true]) (op_eqD (Nat.lt_of_succ_lt (room_un hr))) (je_var 2 rfl z3) (je_lst (ja_cons je_bl (ja_cons je_bl ja_nil))) (fun u v G1 H1 Q _ o ex ey kk => ?_)) (z1.okm o) fun v G5 H5 s5 r => k v G5 H5 (z1.trans o s5) r
    obtain ⟨q1, xs, rfl, h1, a1⟩ := ex
    obtain ⟨q2, ys, rfl, h2, a2⟩ := ey
    refine ⟨.list [.bool true, .bool true], .list [.bool true, .bool true], .lst (SqL.of (o.1 _ _ h1)) (dp_bls (l := [true, true]) (a1.mono o.1)), .lst (SqL.of (o.1 _ _ h2)) (dp_bls (l := [true, true]) (a2.mono o.1)), by decide +kernel, by decide +kernel, ?_⟩
    exact kk _ G1 H1 (.refl o) rfl
end
end Nk
namespace Nk
open PySem PySem.Spec PyProof.Rows L2
theorem emp_sq {K : PySem.W.Frag} {mg : Str → Option Value} (T : Tx K mg) (x : Str) (h : x ∈ (["names", "lives", "tracked"] : List Str)) (G : Hp) : (rSq K []).p (.ref (kwA K x)) G := by
  obtain ⟨o, n, h1, h2, h3⟩ := T.emp x h
  exact .inr ⟨_, [], rfl, .inr ⟨o, #[], n, h1, h2, h3, Nat.zero_le _, .nil⟩, .nil⟩
theorem emp_n {K : PySem.W.Frag} {mg : Str → Option Value} (T : Tx K mg) (G : Hp) : (rSq K []).p (.ref (kwA K "names")) G := emp_sq T _ (by simp) G
theorem emp_l {K : PySem.W.Frag} {mg : Str → Option Value} (T : Tx K mg) (G : Hp) : (rSq K []).p (.ref (kwA K "lives")) G := emp_sq T _ (by simp) G
theorem emp_t {K : PySem.W.Frag} {mg : Str → Option Value} (T : Tx K mg) (G : Hp) : (rSq K []).p (.ref (kwA K "tracked")) G := emp_sq T _ (by simp) G
/-- the custom that reads nothing -/
def c0 : Cu := ⟨⟨[], []⟩, ⟨[], []⟩, [], [], []⟩
theorem c0_ok : c0.Ok where
  w := Nat.zero_le _
  s := ⟨Nat.zero_le _, (fun t h => absurd h List.not_mem_nil), Nat.zero_le _, (fun x h => absurd h List.not_mem_nil)⟩
  d := ⟨Nat.zero_le _, (fun t h => absurd h List.not_mem_nil), Nat.zero_le _, (fun x h => absurd h List.not_mem_nil)⟩
  h := fun r h => absurd h List.not_mem_nil
  sl := rfl
  dl := rfl
  sw := fun r h => absurd h List.not_mem_nil
  dw := fun r h => absurd h List.not_mem_nil
theorem c0_csOk : csOk [c0] := ⟨Nat.le_of_ble_eq_true rfl, fun c h => by
  rw [List.mem_singleton.mp h]
  exact c0_ok⟩
theorem some_ok : (["ff", "fm", "mf", "mm", "fff", "fmf", "mmm"] : List Str).all (fun s => decide (s ∈ ways13)) = true := by decide +kernel
theorem marks_ok : (["f", "m", "f.0", "m.1"] : List Str).all (fun s => decide (s ∈ srcsL 2)) = true := by decide +kernel
theorem all_dec {α : Type} [DecidableEq α] {l m : List α} (h : l.all (fun s => decide (s ∈ m)) = true) : ∀ s ∈ l, s ∈ m := fun s hs => of_decide_eq_true (List.all_eq_true.mp h s hs)
section
variable {m : Option Hd} {X : Cx} {ι : Type} {σ : L2.St} {G H : Hp} {D : Ends} {rest : List Stmt} {pos : Pos} {tg : Expr}
theorem wb_setLcX {p : ι → Prop} {α : Type} {ds : ι → List α} {Dd E : α → Rl} {T : α → L2.St → Hp → Prop} {elt iter : Expr} {scope : Scope} {g : TG} {spos : Pos} (i : Nat) {y : Str} {py : Pos} (own : List (Str × Nat)) (hc : X.calm = true) (hN : X.N.Nodup) (ok : BlkOk X.N X.env.scope scope own)
    (hpg : ∀ (s : Shared) (H : Hp) (C : Addr) (cl : List (Str × Addr)) (fp : List Addr), PG (Bk X scope s H C cl fp) tg g)
    (hi : JIx m X tg iter σ G (fun a => (ds a).map Dd) p) (hn : ∀ a, p a → (ds a).length ≤ 100000)
    (hg : ∀ d, ∀ x G1 H1, Same G G1 → Same G1 H1 → (Dd d).p x G1 → ∀ Kp : L2.St → Hp → Prop, (∀ σ2, wipe σ2 (own.map (·.2)) = wipe σ (own.map (·.2)) → T d σ2 G1 → Kp σ2 H1) → g x (wipe σ (own.map (·.2))) H1 Kp)
    (he : ∀ d, ∀ σ2 G1, Same G G1 → T d σ2 G1 → ∀ s H C cl fp, JE m (Bk X scope s H C cl fp) elt σ2 G1 (E d))
    (o : Okm m G H) (k : ∀ v G' H', Stp m G H G' H' → Okm m G' H' → (Rl.ex fun a => Rl.pr (p a) (Rl.ls E (ds a))).p v G' → WB X rest D (σ.set i (some v)) H') (hy : X.N[i]? = some y := by rfl) (hyl : X.env.scope.names.lookup y = some .local := by rfl)
    (hsw : swapsWith (.ListComp elt [⟨tg, iter, [], 0⟩] scope pos) (some (.Name y py)) spos.line X.env = pure true := by exact sw_true rfl rfl rfl (by decide +kernel))
    (hs : ∀ x, foldedSetIterable iter X.env x = pure x := by intro _; rfl) : WB X (.Assign [.Name y py] (.ListComp elt [⟨tg, iter, [], 0⟩] scope pos) spos :: rest) D σ H :=
  wb_step (t := tAsg (tLc (cI X tg iter) g (fun σ H Q => ∀ s H0 C cl fp, cTs (Bk X scope s H0 C cl fp) [] σ H Q) (fun σ H Q => ∀ s H0 C cl fp, cE (Bk X scope s H0 C cl fp) elt σ H Q) (own.map (·.2))) (gName i)) (ps_setLc hc hN hy hyl hsw pI ok hpg (fun s H C cl fp => ⟨fun pins s' σ H' Q I h => h s H C cl fp pins s' I⟩) (fun s H C cl fp => ⟨fun pins s' σ H' Q I h => h s H C cl fp pins s' I⟩) hs) (by
    refine hi G H (Same.refl G) o _ fun a J G2 H2 pa s2 itok => ?_
    have key := jr_lcW (m := m) (X := X) (wi := fun _ H R => R J H) (σ := σ) (G := G2) (ds := ds a) (D := Dd) (E := E) (f := fun _ => true) (T := T) (elt := elt) (ifs := []) (scope := scope) (vs := own.map (·.2)) (g := g)
      (fun G3 H3 z3 o3 R3 k3 => k3 J G3 H3 (.refl o3) (itok.mono z3)) (hn a pa) (fun d _ x G3 H3 z3 s3 r3 Kp kk => hg d x G3 H3 (s2.gg.trans z3) s3 r3 Kp kk) (fun d _ σ3 G3 z3 _ s H C cl fp => jts_nil) (fun d _ _ σ3 G3 z3 t3 s H C cl fp => he d σ3 G3 (s2.gg.trans z3) t3 s H C cl fp)
    refine key G2 H2 (Same.refl _) (s2.okm o) _ fun v G3 H3 s3 r3 => k v G3 H3 (s2.trans o s3) ((s2.trans o s3).okm o) ⟨a, pa, ?_⟩
    rw [List.filter_eq_self.mpr fun _ _ => rfl] at r3
    exact r3)
/-- the display of the custom that reads nothing -/
theorem je_plain {j1 j2 x1 x2 x3 : Nat} {p1 p2 p3 p4 p5 p6 p7 p8 p9 p10 p11 p12 : Pos} : JE m X (.Tuple [.List [.Tuple [.Constant (.str "free") j1 p1, .List [] p2] x1 p3] p4, .List [.Tuple [.Constant (.str "free") j2 p5, .List [] p6] x2 p7] p8, .List [] p9, .List [] p10, .List [] p11] x3 p12) σ G (rcu X.K c0) :=
  je_tup (l := [Rl.ls (rcl X.K) c0.s.cls, Rl.ls (rcl X.K) c0.d.cls, Rl.ls (rHr X.K) c0.house, Rl.ls rWr c0.sw, Rl.ls rWr c0.dw])
    (ja_cons (je_lst (l := [rcl X.K (.fr [])]) (ja_cons (je_tup (l := [rS "free", Rl.ls rS []]) (ja_cons je_str (ja_cons (je_lst (l := []) ja_nil) ja_nil))) ja_nil))
    (ja_cons (je_lst (l := [rcl X.K (.fr [])]) (ja_cons (je_tup (l := [rS "free", Rl.ls rS []]) (ja_cons je_str (ja_cons (je_lst (l := []) ja_nil) ja_nil))) ja_nil))
    (ja_cons (je_lst (l := []) ja_nil) (ja_cons (je_lst (l := []) ja_nil) (ja_cons (je_lst (l := []) ja_nil) ja_nil)))))
/-- the display of seven, of four texts -/
theorem je_some {j1 j2 j3 j4 j5 j6 j7 : Nat} {p1 p2 p3 p4 p5 p6 p7 p8 : Pos} : JE m X (.List [.Constant (.str "ff") j1 p1, .Constant (.str "fm") j2 p2, .Constant (.str "mf") j3 p3, .Constant (.str "mm") j4 p4, .Constant (.str "fff") j5 p5, .Constant (.str "fmf") j6 p6, .Constant (.str "mmm") j7 p7] p8) σ G (Rl.ls rS (["ff", "fm", "mf", "mm", "fff", "fmf", "mmm"] : List Str)) :=
  je_lst (l := [rS "ff", rS "fm", rS "mf", rS "mm", rS "fff", rS "fmf", rS "mmm"]) (ja_cons je_str (ja_cons je_str (ja_cons je_str (ja_cons je_str (ja_cons je_str (ja_cons je_str (ja_cons je_str ja_nil)))))))
theorem je_mark {j1 j2 j3 j4 : Nat} {p1 p2 p3 p4 p5 : Pos} : JE m X (.List [.Constant (.str "f") j1 p1, .Constant (.str "m") j2 p2, .Constant (.str "f.0") j3 p3, .Constant (.str "m.1") j4 p4] p5) σ G (Rl.ls rS (["f", "m", "f.0", "m.1"] : List Str)) :=
  je_lst (l := [rS "f", rS "m", rS "f.0", rS "m.1"]) (ja_cons je_str (ja_cons je_str (ja_cons je_str (ja_cons je_str ja_nil))))
/-- [marks, houses] -/
theorem je_bits {a b : Expr} {p : Pos} {marks : List Str} {q : Bool} (ha : JE m X a σ G (Rl.ls rS marks)) (hb : JE m X b σ G (rB q)) (he : starEach [a, b] X.env = (false, eval a X.env) :: starEach [b] X.env := by rfl) (he2 : starEach [b] X.env = (false, eval b X.env) :: starEach [] X.env := by rfl) : JE m X (.List [a, b] p) σ G (Rl.lsl [Rl.ls rS marks, rB q]) :=
  je_lst (l := [Rl.ls rS marks, rB q]) (ja_cons ha (ja_cons hb ja_nil he2) he)
theorem je_nilS {p : Pos} : JE m X (.List [] p) σ G (Rl.ls rS []) := je_lst (l := []) ja_nil
theorem je_oneS {s : Str} {j : Nat} {p1 p : Pos} : JE m X (.List [.Constant (.str s) j p1] p) σ G (Rl.ls rS [s]) := je_lst (l := [rS s]) (ja_cons je_str ja_nil)
end
end Nk
namespace Nk
open PySem PySem.Spec PyProof.Rows L2
section
variable {P : Program} {w : World} {K : PySem.W.Frag} {mg : Str → Option Value} {base : Heap}
theorem k_Lbounds (T : Tx K mg) (TE : TxE P K) : C8.Cal P w K mg base 8 "_law_bounds_right" (spD (fun _ : Unit => True) (fun _ => []) fun _ => rB true) [] := by
  obtain ⟨fd, F⟩ := T.F_Lbounds_right
  refine cal_draw F (T.g "_law_bounds_right") (F.bindsN fun _ _ _ _ _ _ us hl => match us, hl with | [_], _ => rfl) scLbounds_right (fun _ => rfl) ?_
  intro cdv A outer s0 H0 E u h G H ws Q hr _ o al k
  obtain rfl : ws = [] := List.eq_nil_of_length_eq_zero al.len
  have k : ∀ v G' H', Stp (some h) G H G' H' → (rB true).p v G' → Q v H' := k
  obtain ⟨py, e, pos, eb, je1, hs⟩ : ∃ (py : Pos) (e : Expr) (pos : Pos), defBody sLbounds_right = .Assign [.Name "_law_plain" py] e pos :: (defBody sLbounds_right).drop 1 ∧
      JE (some h) (Xc P w K mg base nLbounds_right "_law_bounds_right" sLbounds_right (He.ga K "_law_bounds_right") cdv A outer s0 H0 E) e [some (.ref h.a), none, none, none, none, none] G (rcu K c0) ∧
      swapsWith e (some (.Name "_law_plain" py)) pos.line (Xc P w K mg base nLbounds_right "_law_bounds_right" sLbounds_right (He.ga K "_law_bounds_right") cdv A outer s0 H0 E).env = pure false := ⟨_, _, _, rfl, je_plain, rfl⟩
  rw [eb]
  refine wb_set (m := some h) 1 scLbounds_right.nd (R := rcu K c0) je1 o (fun v1 G1 H1 s1 o1 r1 => ?_) (hs := hs)
  refine wb_set (m := some h) 2 scLbounds_right.nd (R := rCu K c0) (je_call c0 (k_Lmake T) c0_ok (ja_cons (je_var 1 rfl r1) ja_nil) hr) o1 fun v2 G2 H2 s2 o2 r2 => ?_
  have r1 := Rl.mono _ _ _ _ s2.gg r1
  let X0 := Xc P w K mg base nLbounds_right "_law_bounds_right" sLbounds_right (He.ga K "_law_bounds_right") cdv A outer s0 H0 E
  refine wb_setLcX (m := some h) (X := X0) (p := fun j => j ≤ 4) (ds := fun j => List.range j) (Dd := fun i : Nat => rI i) (E := fun _ => Rl.ex fun x => Rl.pr (x ∈ (["ff", "fm", "mf", "mm", "fff", "fmf", "mmm"] : List Str)) (rS x)) 3 [("_law_k", 5)] rfl scLbounds_right.nd (blkOk_by rfl) (fun s H C cl fp => pg_name (i := 5) scLbounds_right.nd rfl (.inl rfl))
    (ji_rangeX (p := fun j => j ≤ 4) (JE.imp (je_addU (n := 4) (i := 1) je_int (je_draw (X := X0) 4 (k_Ldraw T) ⟨by decide, by decide⟩ 0 (ja_cons je_int ja_nil) hr)) fun v G' _ ⟨j, hj, e⟩ => ⟨1 + j, by omega, by rw [show v = _ from e]; show _ = V.int ((1 + j : Nat) : Int); congr 1⟩) (fun j hj => by omega) (T.f "range")) (fun j hj => by rw [List.length_range]; omega) (T := fun d σ2 _ => ∃ y, σ2 = ([some (.ref h.a), some v1, some v2, none, none, none] : L2.St).set 5 (some y)) (fun d y G4 H4 _ _ _ Kp kk => kk _ rfl ⟨y, rfl⟩) ?_ o2 fun v3 G3 H3 s3 o3 r3 => ?_
  · rintro d σ2 G4 g4 ⟨y, rfl⟩ s H C cl fp
    exact je_draw (X := Bk X0 _ s H C cl fp) (["ff", "fm", "mf", "mm", "fff", "fmf", "mmm"] : List Str) (k_Lpick T rS) ⟨by decide, by decide⟩ 0 (ja_cons je_some ja_nil) hr
  obtain ⟨n3, hn3, p3, ys3, rfl, hp3, al3⟩ := r3
  have hn3 : n3 ≤ 4 := hn3
  obtain ⟨sm, c1, c2, c3⟩ := ex_all al3
  rw [List.length_range] at c1
  have c2 : ∀ s ∈ sm, s ∈ ways13 := fun s hs => all_dec some_ok s (c2 s hs)
  have hsm : sm.length ≤ 1000 := by omega
  have r3 : (Rl.ls rS sm).p (.ref p3) G3 := ⟨p3, ys3, rfl, hp3, c3⟩
  have r1 := Rl.mono _ _ _ _ s3.gg r1
  have r2 := Rl.mono _ _ _ _ s3.gg r2
  have noS : ∀ s ∈ ([] : List Str), s ∈ srcsL 2 := fun s hs => absurd hs List.not_mem_nil
  have noW : ∀ s ∈ ([] : List Str), s ∈ ways13 := fun s hs => absurd hs List.not_mem_nil
  -- with lives
  refine wb_if (m := some h) (P := isB false) (jt_not (b := true) (jt_val (je_call (X := X0) (six [c0] [] sm [] false) (k_Lright T TE) (six_ok _ _ _ _ _) (ja_cons
    (je_callK (X := X0) (⟨[c0], [], sm, [], false⟩ : RdD) (kw_l T) ⟨c0_csOk, Nat.zero_le _, hsm, Nat.zero_le _, noS, c2, noS⟩ (ja_cons (je_var 2 rfl r2) ja_nil) (jk_cons (je_var 3 rfl r3) jk_nil) (fun zs vs p G4 al bl hp => by
      obtain ⟨z1, rfl, a1⟩ := AlL.one al
      exact .cons (emp_n T G4) (.cons (.inl a1) (.cons (emp_t T G4) (.cons rfl (.cons ⟨p, vs, rfl, hp, bl⟩ .nil))))) rfl (Nat.le_of_ble_eq_true rfl) hr)
    (ja_cons (je_call (X := X0) (⟨[c0], [], sm, [], false⟩ : AskD) (k_Lasked T) ⟨c0_csOk, Nat.le_refl 1, Nat.zero_le _, hsm, Nat.zero_le _, noS, c2, noS⟩ (ja_cons (je_lst (l := [rcu K c0]) (ja_cons (je_var 1 rfl r1) ja_nil)) (ja_cons je_nilS (ja_cons (je_var 3 rfl r3) (ja_cons (je_bits je_nilS je_bl) ja_nil)))) hr) ja_nil)) hr))) o3 (fun h => by cases h) (fun hh G4 H4 s4 o4 => wb_nil ?_)
  have st4 := ((s1.trans o s2).trans o s3).trans o s4
  have r1 := Rl.mono _ _ _ _ s4.gg r1
  have r2 := Rl.mono _ _ _ _ s4.gg r2
  have r3 := Rl.mono _ _ _ _ s4.gg r3
  refine wb_setLcX (m := some h) (X := X0) (p := fun j => j ≤ 5) (ds := fun j => List.range j) (Dd := fun i : Nat => rI i) (E := fun _ => Rl.ex fun x => Rl.pr (x ∈ (["f", "m", "f.0", "m.1"] : List Str)) (rS x)) 4 [("_law_k", 5)] rfl scLbounds_right.nd (blkOk_by rfl) (fun s H C cl fp => pg_name (i := 5) scLbounds_right.nd rfl (.inl rfl))
    (ji_rangeX (p := fun j => j ≤ 5) (JE.imp (je_addU (n := 5) (i := 1) je_int (je_draw (X := X0) 5 (k_Ldraw T) ⟨by decide, by decide⟩ 0 (ja_cons je_int ja_nil) hr)) fun v G' _ ⟨j, hj, e⟩ => ⟨1 + j, by omega, by rw [show v = _ from e]; show _ = V.int ((1 + j : Nat) : Int); congr 1⟩) (fun j hj => by omega) (T.f "range")) (fun j hj => by rw [List.length_range]; omega) (T := fun d σ2 _ => ∃ y, σ2 = ([some (.ref h.a), some v1, some v2, some (.ref p3), none, none] : L2.St).set 5 (some y)) (fun d y G4 H4 _ _ _ Kp kk => kk _ rfl ⟨y, rfl⟩) ?_ o4 fun v5 G5 H5 s5 o5 r5 => ?_
  · rintro d σ2 G4 g4 ⟨y, rfl⟩ s H C cl fp
    exact je_draw (X := Bk X0 _ s H C cl fp) (["f", "m", "f.0", "m.1"] : List Str) (k_Lpick T rS) ⟨by decide, by decide⟩ 0 (ja_cons je_mark ja_nil) hr
  obtain ⟨n5, hn5, p5, ys5, rfl, hp5, al5⟩ := r5
  have hn5 : n5 ≤ 5 := hn5
  obtain ⟨mk, d1, d2, d3⟩ := ex_all al5
  rw [List.length_range] at d1
  have d2 : ∀ s ∈ mk, s ∈ srcsL 2 := fun s hs => all_dec marks_ok s (d2 s hs)
  have hmk : mk.length ≤ 1000 := by omega
  have r5 : (Rl.ls rS mk).p (.ref p5) G5 := ⟨p5, ys5, rfl, hp5, d3⟩
  have r1 := Rl.mono _ _ _ _ s5.gg r1
  have r2 := Rl.mono _ _ _ _ s5.gg r2
  have r3 := Rl.mono _ _ _ _ s5.gg r3
  -- with tracked ones
  refine wb_if (m := some h) (P := isB false) (jt_not (b := true) (jt_val (je_call (X := X0) (six [c0] [] [] mk false) (k_Lright T TE) (six_ok _ _ _ _ _) (ja_cons
    (je_callK (X := X0) (⟨[c0], [], [], mk, false⟩ : RdD) (kw_t T) ⟨c0_csOk, Nat.zero_le _, Nat.zero_le _, hmk, noS, noW, d2⟩ (ja_cons (je_var 2 rfl r2) ja_nil) (jk_cons (je_var 4 rfl r5) jk_nil) (fun zs vs p G4 al bl hp => by
      obtain ⟨z1, rfl, a1⟩ := AlL.one al
      exact .cons (emp_n T G4) (.cons (emp_l T G4) (.cons (.inl a1) (.cons rfl (.cons ⟨p, vs, rfl, hp, bl⟩ .nil))))) rfl (Nat.le_of_ble_eq_true rfl) hr)
    (ja_cons (je_call (X := X0) (⟨[c0], [], [], mk, false⟩ : AskD) (k_Lasked T) ⟨c0_csOk, Nat.le_refl 1, Nat.zero_le _, Nat.zero_le _, hmk, noS, noW, d2⟩ (ja_cons (je_lst (l := [rcu K c0]) (ja_cons (je_var 1 rfl r1) ja_nil)) (ja_cons je_nilS (ja_cons je_nilS (ja_cons (je_bits (je_var 4 rfl r5) je_bl) ja_nil)))) hr) ja_nil)) hr))) o5 (fun h => by cases h) (fun hh G6 H6 s6 o6 => wb_nil ?_)
  have st6 := (st4.trans o s5).trans o s6
  have r1 := Rl.mono _ _ _ _ s6.gg r1
  have r2 := Rl.mono _ _ _ _ s6.gg r2
  have r3 := Rl.mono _ _ _ _ s6.gg r3
  have r5 := Rl.mono _ _ _ _ s6.gg r5
  have mf : ∀ s ∈ (["mf"] : List Str), s ∈ srcsL 2 := all_dec (by decide +kernel)
  refine wb_ret (m := some h) (R := rB true) (je_call (X := X0) (six [c0] ["mf"] sm mk false) (k_Lright T TE) (six_ok _ _ _ _ _) (ja_cons
    (je_callK (X := X0) (⟨[c0], ["mf"], sm, mk, false⟩ : RdD) (kw_l_t_n T) ⟨c0_csOk, Nat.le_of_ble_eq_true rfl, hsm, hmk, mf, c2, d2⟩ (ja_cons (je_var 2 rfl r2) ja_nil) (jk_cons (je_var 3 rfl r3) (jk_cons (je_var 4 rfl r5) (jk_cons je_oneS jk_nil))) (fun zs vs p G4 al bl hp => by
      cases al with
      | cons a1 al =>
        obtain ⟨z2, z3, rfl, a2, a3⟩ := AlL.two al
        exact .cons (.inl a3) (.cons (.inl a1) (.cons (.inl a2) (.cons rfl (.cons ⟨p, vs, rfl, hp, bl⟩ .nil))))) rfl (Nat.le_of_ble_eq_true rfl) hr)
    (ja_cons (je_call (X := X0) (⟨[c0], ["mf"], sm, mk, false⟩ : AskD) (k_Lasked T) ⟨c0_csOk, Nat.le_refl 1, Nat.le_of_ble_eq_true rfl, hsm, hmk, mf, c2, d2⟩ (ja_cons (je_lst (l := [rcu K c0]) (ja_cons (je_var 1 rfl r1) ja_nil)) (ja_cons je_oneS (ja_cons (je_var 3 rfl r3) (ja_cons (je_bits (je_var 4 rfl r5) je_bl) ja_nil)))) hr) ja_nil)) hr) o6 fun v G7 H7 s7 r => k v G7 H7 (st6.trans o s7) r
end
end Nk
namespace Nk
open PySem PySem.Spec PyProof.Rows L2
section
variable {m : Option Hd} {X : Cx} {e : Expr} {es : List Expr} {σ : L2.St} {G : Hp} {pos p0 : Pos} {x : Str} {l : List Rl} {B : Rl}
/-- a pure call, its arguments told only in part -/
theorem je_callE {α : Type} {pre : α → Prop} {args : α → List Rl} {k j : Nat} (c : C8.Cal X.prog X.w X.K X.mg X.base k x (spF pre args fun _ => B) []) (ha : JA m X (e :: es) σ G l) (hx : ∀ vs G1, AlL l vs G1 → ∃ d, pre d ∧ AlL (args d) vs G1) (hr : Room j X.A) (hk : k ≤ j := by decide) (hg : Gl X x := by rfl)
    (hdb : (x == ("__debug__" : Str)) = false := by decide) (he : starEach (e :: es) X.env = (false, eval e X.env) :: starEach es X.env := by rfl) (hpl : (backTo pos (starEach es X.env)).any (·.1) = false := by rfl) : JE m X (.Call (.Name x p0) (e :: es) [] pos) σ G B := fun G1 H z o Q kk =>
  eP (C8.pe_c c hr hk hg pA hdb he hpl) (ha G1 H z o _ fun vs G2 H2 s2 r2 => by
    obtain ⟨d, hp, al⟩ := hx vs G2 r2
    refine ⟨d, G2, s2.gh, hp, ?_, fun v G' H' s3 b => kk v G' H' (s2.trans o s3.up) b⟩
    rw [List.append_nil]
    exact al)
end
theorem width2_le {a b : Nat} (ha : a ≤ 2) (hb : b ≤ 2) : max a b ≤ 2 := Nat.max_le.mpr ⟨ha, hb⟩
theorem first_univ {cs : List Cu} (h : ∀ c ∈ cs, c.Ok) : ∀ q ∈ firstL cs [] [] false, q ∈ univ := by
  intro q hq
  unfold firstL at hq
  rw [if_neg Bool.false_ne_true, List.append_nil, List.append_nil, List.nil_append] at hq
  obtain ⟨s, hs, rfl⟩ := List.mem_map.mp hq
  exact (src_of (allSrcs_mem h s hs)).2
theorem life_univ {cs : List Cu} (h : ∀ c ∈ cs, c.Ok) : ∀ q ∈ lifeL cs [], q ∈ univ := by
  intro q hq
  unfold lifeL at hq
  rw [List.nil_append] at hq
  obtain ⟨s, hs, rfl⟩ := List.mem_map.mp hq
  exact of_decide_eq_true (List.all_eq_true.mp plc_univ s (allLives_mem h s hs))
theorem six_swap {a b : Cu} (ha : a.Ok) (hb : b.Ok) : six [a, b] [] [] [] false = six [b, a] [] [] [] false := by
  have h : ∀ c ∈ [a, b], c.Ok := fun c hc => by
    rcases List.mem_cons.mp hc with rfl | hc
    · exact ha
    · rw [List.mem_singleton.mp hc]
      exact hb
  refine six_set (fun c => ?_) h (first_univ h) (life_univ h)
  simp only [List.mem_cons, List.not_mem_nil, or_false]
  exact Or.comm
theorem six_again {a b : Cu} (ha : a.Ok) (hb : b.Ok) : six [a, b] [] [] [] false = six [a, b, a] [] [] [] false := by
  have h : ∀ c ∈ [a, b], c.Ok := fun c hc => by
    rcases List.mem_cons.mp hc with rfl | hc
    · exact ha
    · rw [List.mem_singleton.mp hc]
      exact hb
  refine six_set (fun c => ?_) h (first_univ h) (life_univ h)
  simp only [List.mem_cons, List.not_mem_nil, or_false]
  constructor
  · rintro (e | e)
    · exact .inl e
    · exact .inr (.inl e)
  · rintro (e | e | e)
    · exact .inl e
    · exact .inr e
    · exact .inl e
/-- no kinds -/
def bads : List V := [.str "f", .str "", .non, .int 1, .str "ss"]
theorem bads_bad : ∀ v ∈ bads, badV v := by
  intro v hv
  simp only [bads, List.mem_cons, List.not_mem_nil, or_false] at hv
  rcases hv with rfl | rfl | rfl | rfl | rfl
  · exact ⟨trivial, by decide +kernel⟩
  · exact ⟨trivial, by decide +kernel⟩
  · exact ⟨trivial, rfl⟩
  · exact ⟨trivial, rfl⟩
  · exact ⟨trivial, by decide +kernel⟩
section
variable {m : Option Hd} {X : Cx} {σ : L2.St} {G : Hp}
theorem je_bads {j1 j2 j3 j4 j5 : Nat} {p1 p2 p3 p4 p5 p6 : Pos} : JE m X (.List [.Constant (.str "f") j1 p1, .Constant (.str "") j2 p2, .Constant .none j3 p3, .Constant (.int 1) j4 p4, .Constant (.str "ss") j5 p5] p6) σ G (Rl.ls Rl.eq bads) :=
  je_lst (l := [rS "f", rS "", Rl.eq .non, rI 1, rS "ss"]) (ja_cons je_str (ja_cons je_str (ja_cons je_non (ja_cons je_int (ja_cons je_str ja_nil)))))
end
end Nk
namespace Nk
open PySem PySem.Spec PyProof.Rows L2
section
variable {P : Program} {w : World} {K : PySem.W.Frag} {mg : Str → Option Value} {base : Heap}
/-- what law is given: the script, in a heap with no list of its own -/
def spLaw (K : PySem.W.Frag) : Sp := fun vs H Q _ => ∃ (a : Addr) (ns : List Int), vs = [.ref a] ∧ (∀ b, H b = none ∨ ∃ o xs, H b = some (.frz o (.lst xs))) ∧ SqL K H a (ns.map V.int) ∧ ns.length ≤ 63 ∧ ∀ v H', v = V.bl true → Q v H'
set_option maxHeartbeats 8000000 in
theorem b_law (T : Tx K mg) (TE : TxE P K) (cdv : Value) (A : Around) (outer : List Env) (s0 : Shared) (H0 : Hp) (E : XK) (H : Hp) (vs : List V) (Q : VK) (hr : Room 8 (A.deeper (envOfC "law" (defScope slaw) s0.heap.objs.size (He.ga K "law") cdv)))
    (a : Addr) (ns : List Int) (ho : ∀ b, H b = none ∨ ∃ o xs, H b = some (.frz o (.lst xs))) (hs : SqL K H a (ns.map V.int)) (hn : ns.length ≤ 63) (k : ∀ v H', v = V.bl true → Q v H') :
    WB (Xc P w K mg base nlaw "law" slaw (He.ga K "law") cdv A outer s0 H0 E) (defBody slaw) { nx := fun _ H' => Q .non H', rt := Q } (start nlaw [.ref a]) H := by
  let X0 := Xc P w K mg base nlaw "law" slaw (He.ga K "law") cdv A outer s0 H0 E
  have o : Okm none H H := .of (Same.refl H)
  have sc : (Rl.lsq K (ns.map rI)).p (.ref a) H := ⟨a, _, rfl, hs, AlL.ofVals V.int H ns⟩
  refine wb_set (m := none) (X := X0) 1 sclaw.nd (je_call (X := X0) ns (k_Lhand T) (by show ns.length ≤ 1000; omega) (ja_cons (je_var 0 rfl sc) ja_nil) hr) o fun v1 G1 H1 s1 o1 r1 => ?_
  obtain ⟨t, ⟨ht0, ht1⟩, p, xs, rfl, hp, al⟩ := r1
  obtain ⟨c, rfl, hc⟩ : ∃ c, xs = [.ref c, .int 0, .int 0, .int t] ∧ G1 c = some (.lst ((ns.map absI).map V.int)) := by
    cases al with
    | cons a1 al => cases al with
      | cons a2 al =>
        obtain ⟨_, _, rfl, a3, a4⟩ := AlL.two al
        cases a2; cases a3; cases a4
        obtain ⟨c, ys, rfl, hc, bl⟩ := a1
        have e := AlL.vals (f := V.int) bl
        subst e
        exact ⟨c, rfl, hc⟩
  obtain ⟨h, rfl, hh⟩ : ∃ h : Hd, h.a = p ∧ Hand h H1 := ⟨⟨p, c, ns.map absI⟩, rfl, 0, 0, t, o1.1 _ _ hp, o1.1 _ _ hc, by show (ns.map absI).length ≤ 63; rw [List.length_map]; exact hn, fun n hm => by
    obtain ⟨i, _, rfl⟩ := List.mem_map.mp hm
    exact absI_nn i, by decide, by decide, by decide, ht0, ht1⟩
  -- the hand is taken out of what is known
  obtain ⟨G1', o1⟩ : ∃ G1', Okm (some h) G1' H1 := ⟨hide h.a G1, fun q u e => by
    by_cases e2 : q = h.a
    · rw [e2, hide_at] at e
      cases e
    · rw [hide_ne e2] at e
      exact o1.1 _ _ e, fun d e => by
      cases e
      exact ⟨hide_at, hh⟩⟩
  have k : ∀ (b : Bool) v G' H', b = true → Stp (some h) G1' H1 G' H' → (rB b).p v G' → Q v H' := fun b v G' H' eb _ e => k v H' (by rw [show v = _ from e, eb])
  have noS : ∀ s ∈ ([] : List Str), s ∈ srcsL 2 := fun s hs => absurd hs List.not_mem_nil
  have noW : ∀ s ∈ ([] : List Str), s ∈ ways13 := fun s hs => absurd hs List.not_mem_nil
  refine wb_if (m := some h) (X := X0) (P := isB false) (jt_not (b := true) (jt_val (je_draw (X := X0) () (k_Lbounds T TE) trivial 1 ja_nil hr))) o1 (fun h => by cases h) (fun hh2 G2 H2 s2 o2 => wb_nil ?_)
  refine wb_setLcA (m := some h) (X := X0) (ds := List.range 2) (DD := fun i : Nat => rI i) (E := fun _ => rXcu K) 2 [("_law_k", 12)] rfl sclaw.nd (blkOk_by rfl) (fun s H C cl fp => pg_name (i := 12) sclaw.nd rfl (.inl rfl))
    (ji_range (n := 2) je_int (by decide) (T.f "range")) (by decide) (lc_name fun x => rfl) ?_ o2 fun v3 G3 H3 s3 o3 r3 => ?_
  · rintro d hd σ2 G9 g9 ⟨y, rfl, ry⟩ s H C cl fp
    exact JE.imp (je_drawX (X := Bk X0 _ s H C cl fp) (p := fun n : Nat => 1 ≤ n ∧ n ≤ 4) (Ra := fun n : Nat => rI n) (dd := fun n => n) (k_Lcustom T) (fun n hn => hn) (fun n => rfl) 1 (JE.imp (je_addU (n := 4) (i := 1) je_int (je_draw (X := Bk X0 _ s H C cl fp) 4 (k_Ldraw T) ⟨by decide, by decide⟩ 1 (ja_cons je_int ja_nil) hr)) fun v G' _ ⟨j, hj, e⟩ => ⟨1 + j, ⟨by omega, by omega⟩, by rw [show v = _ from e]; show _ = V.int ((1 + j : Nat) : Int); congr 1⟩) hr) fun v G' _ ⟨n, _, q⟩ => q
  obtain ⟨p2, ys2, rfl, hp2, al2⟩ := r3
  obtain ⟨l2, c1, c2, c3⟩ := ex_all al2
  obtain ⟨ca, cb, rfl⟩ : ∃ ca cb, l2 = [ca, cb] := by
    match l2, c1 with
    | [x, y], _ => exact ⟨x, y, rfl⟩
  have hca : ca.Ok := c2 ca List.mem_cons_self
  have hcb : cb.Ok := c2 cb (List.mem_cons_of_mem _ List.mem_cons_self)
  have r2 : (Rl.ls (rcu K) [ca, cb]).p (.ref p2) G3 := ⟨p2, ys2, rfl, hp2, c3⟩
  clear hp2 al2 c3 c1
  refine wb_setLcA (m := some h) (X := X0) (ds := [ca, cb]) (DD := rcu K) (E := rCu K) 3 [("_law_custom_here", 13)] rfl sclaw.nd (blkOk_by rfl) (fun s H C cl fp => pg_name (i := 13) sclaw.nd rfl (.inl rfl))
    (ji_list (je_var 2 rfl r2)) (Nat.le_of_ble_eq_true rfl) (lc_name fun x => rfl) ?_ o3 fun v4 G4 H4 s4 o4 r3 => ?_
  · rintro d hd σ2 G9 g9 ⟨y, rfl, ry⟩ s H C cl fp
    exact je_call (X := Bk X0 _ s H C cl fp) d (k_Lmake T) (c2 d hd) (ja_cons (je_var 13 rfl ry) ja_nil) hr
  have r2 := Rl.mono _ _ _ _ s4.gg r2
  refine wb_set (m := some h) (X := X0) 4 sclaw.nd (je_max2 (X := X0) rfl (je_lenLs (ds := ca.house) (D := rHr K) (je_ixT (l := [Rl.ls (rcl K) ca.s.cls, Rl.ls (rcl K) ca.d.cls, Rl.ls (rHr K) ca.house, Rl.ls rWr ca.sw, Rl.ls rWr ca.dw]) (je_ixL (l := [rcu K ca, rcu K cb]) (je_var 2 rfl r2) je_int) je_int) (T.f "len")) (je_lenLs (ds := cb.house) (D := rHr K) (je_ixT (l := [Rl.ls (rcl K) cb.s.cls, Rl.ls (rcl K) cb.d.cls, Rl.ls (rHr K) cb.house, Rl.ls rWr cb.sw, Rl.ls rWr cb.dw]) (je_ixL (l := [rcu K ca, rcu K cb]) (je_var 2 rfl r2) je_int) je_int) (T.f "len")) (T.f "max")) o4 fun v5 G5 H5 s5 o5 r5 => ?_
  have ew : v5 = V.int (max ca.house.length cb.house.length : Nat) := (show v5 = _ from r5).trans (congrArg V.int (maxI _ _))
  subst ew
  clear r5
  have hw := width2_le hca.w hcb.w
  generalize max ca.house.length cb.house.length = n at hw ⊢
  have r2 := Rl.mono _ _ _ _ s5.gg r2
  have r3 := Rl.mono _ _ _ _ s5.gg r3
  have hsl := srcs_len n hw
  have hsr : ∀ s ∈ srcsL n, s ∈ srcsL 2 := fun s hs => srcs_mono hw hs
  refine wb_setLcX (m := some h) (X := X0) (p := fun j => j < 3) (ds := fun j => List.range j) (Dd := fun i : Nat => rI i) (E := fun _ => Rl.ex fun x => Rl.pr (x ∈ srcsL n) (rS x)) 5 [("_law_k", 12)] rfl sclaw.nd (blkOk_by rfl) (fun s H C cl fp => pg_name (i := 12) sclaw.nd rfl (.inl rfl))
    (ji_rangeX (p := fun j => j < 3) (je_draw (X := X0) 3 (k_Ldraw T) ⟨by decide, by decide⟩ 1 (ja_cons je_int ja_nil) hr) (fun j hj => by omega) (T.f "range")) (fun j hj => by rw [List.length_range]; omega) (T := fun d σ2 _ => ∃ y, σ2 = ([some (.ref a), some (.ref h.a), some (.ref p2), some v4, some (.int n), none, none, none, none, none, none, none, none, none] : L2.St).set 12 (some y)) (fun d y G4 H4 _ _ _ Kp kk => kk _ rfl ⟨y, rfl⟩) ?_ o5 fun v6 G6 H6 s6 o6 r6 => ?_
  · rintro d σ2 G9 g9 ⟨y, rfl⟩ s H C cl fp
    exact je_draw (X := Bk X0 _ s H C cl fp) (srcsL n) (k_Lpick T rS) ⟨hsl.1, by omega⟩ 1 (ja_cons (je_call (X := Bk X0 _ s H C cl fp) n (k_Lsources T) hw (ja_cons (je_v 4) ja_nil) hr) ja_nil) hr
  obtain ⟨n6, hn6, p6, ys6, rfl, hp6, al6⟩ := r6
  have hn6 : n6 < 3 := hn6
  obtain ⟨mo, mo1, mo2, mo3⟩ := ex_all al6
  rw [List.length_range] at mo1
  have mol : mo.length ≤ 1000 := by omega
  have mor : (Rl.ls rS mo).p (.ref p6) G6 := ⟨p6, ys6, rfl, hp6, mo3⟩
  clear hp6 al6 mo3
  have r2 := Rl.mono _ _ _ _ s6.gg r2
  have r3 := Rl.mono _ _ _ _ s6.gg r3
  refine wb_setLcX (m := some h) (X := X0) (p := fun j => j < 3) (ds := fun j => List.range j) (Dd := fun i : Nat => rI i) (E := fun _ => Rl.ex fun x => Rl.pr (x ∈ ways13) (rS x)) 6 [("_law_k", 12)] rfl sclaw.nd (blkOk_by rfl) (fun s H C cl fp => pg_name (i := 12) sclaw.nd rfl (.inl rfl))
    (ji_rangeX (p := fun j => j < 3) (je_draw (X := X0) 3 (k_Ldraw T) ⟨by decide, by decide⟩ 1 (ja_cons je_int ja_nil) hr) (fun j hj => by omega) (T.f "range")) (fun j hj => by rw [List.length_range]; omega) (T := fun d σ2 _ => ∃ y, σ2 = ([some (.ref a), some (.ref h.a), some (.ref p2), some v4, some (.int n), some (.ref p6), none, none, none, none, none, none, none, none] : L2.St).set 12 (some y)) (fun d y G4 H4 _ _ _ Kp kk => kk _ rfl ⟨y, rfl⟩) ?_ o6 fun v7 G7 H7 s7 o7 r7 => ?_
  · rintro d σ2 G9 g9 ⟨y, rfl⟩ s H C cl fp
    exact je_draw (X := Bk X0 _ s H C cl fp) (ways13) (k_Lpick T rS) ⟨by decide, by decide⟩ 1 (ja_cons (JE.cast (je_call (X := Bk X0 _ s H C cl fp) (1, 3) (k_Lways T) ⟨by decide, by decide⟩ (ja_cons je_int (ja_cons je_int ja_nil)) hr) (show Rl.ls rS (wFound 1 4) = Rl.ls rS ways13 by rw [wFound13])) ja_nil) hr
  obtain ⟨n7, hn7, p7, ys7, rfl, hp7, al7⟩ := r7
  have hn7 : n7 < 3 := hn7
  obtain ⟨fu, fu1, fu2, fu3⟩ := ex_all al7
  rw [List.length_range] at fu1
  have ful : fu.length ≤ 1000 := by omega
  have fur : (Rl.ls rS fu).p (.ref p7) G7 := ⟨p7, ys7, rfl, hp7, fu3⟩
  clear hp7 al7 fu3
  have r2 := Rl.mono _ _ _ _ s7.gg r2
  have r3 := Rl.mono _ _ _ _ s7.gg r3
  have mor := Rl.mono _ _ _ _ s7.gg mor
  refine wb_setLcX (m := some h) (X := X0) (p := fun j => j < 3) (ds := fun j => List.range j) (Dd := fun i : Nat => rI i) (E := fun _ => Rl.ex fun x => Rl.pr (x ∈ srcsL n) (rS x)) 7 [("_law_k", 12)] rfl sclaw.nd (blkOk_by rfl) (fun s H C cl fp => pg_name (i := 12) sclaw.nd rfl (.inl rfl))
    (ji_rangeX (p := fun j => j < 3) (je_draw (X := X0) 3 (k_Ldraw T) ⟨by decide, by decide⟩ 1 (ja_cons je_int ja_nil) hr) (fun j hj => by omega) (T.f "range")) (fun j hj => by rw [List.length_range]; omega) (T := fun d σ2 _ => ∃ y, σ2 = ([some (.ref a), some (.ref h.a), some (.ref p2), some v4, some (.int n), some (.ref p6), some (.ref p7), none, none, none, none, none, none, none] : L2.St).set 12 (some y)) (fun d y G4 H4 _ _ _ Kp kk => kk _ rfl ⟨y, rfl⟩) ?_ o7 fun v8 G8 H8 s8 o8 r8 => ?_
  · rintro d σ2 G9 g9 ⟨y, rfl⟩ s H C cl fp
    exact je_draw (X := Bk X0 _ s H C cl fp) (srcsL n) (k_Lpick T rS) ⟨hsl.1, by omega⟩ 1 (ja_cons (je_call (X := Bk X0 _ s H C cl fp) n (k_Lsources T) hw (ja_cons (je_v 4) ja_nil) hr) ja_nil) hr
  obtain ⟨n8, hn8, p8, ys8, rfl, hp8, al8⟩ := r8
  have hn8 : n8 < 3 := hn8
  obtain ⟨mk, mk1, mk2, mk3⟩ := ex_all al8
  rw [List.length_range] at mk1
  have mkl : mk.length ≤ 1000 := by omega
  have mkr : (Rl.ls rS mk).p (.ref p8) G8 := ⟨p8, ys8, rfl, hp8, mk3⟩
  clear hp8 al8 mk3
  have r2 := Rl.mono _ _ _ _ s8.gg r2
  have r3 := Rl.mono _ _ _ _ s8.gg r3
  have mor := Rl.mono _ _ _ _ s8.gg mor
  have fur := Rl.mono _ _ _ _ s8.gg fur
  have mo2 : ∀ s ∈ mo, s ∈ srcsL 2 := fun s hs => hsr s (mo2 s hs)
  have mk2 : ∀ s ∈ mk, s ∈ srcsL 2 := fun s hs => hsr s (mk2 s hs)
  have ok1 : ∀ {c : Cu}, c ∈ [ca, cb] → c.Ok := fun {c} hc => c2 c hc
  have cs1 : csOk [ca] := ⟨Nat.le_of_ble_eq_true rfl, fun c hc => by
    rw [List.mem_singleton.mp hc]
    exact hca⟩
  have cs2 : csOk [ca, cb] := ⟨Nat.le_of_ble_eq_true rfl, c2⟩
  have cs3 : csOk [cb, ca] := ⟨Nat.le_of_ble_eq_true rfl, fun c hc => by
    rcases List.mem_cons.mp hc with rfl | hc
    · exact hcb
    · rw [List.mem_singleton.mp hc]
      exact hca⟩
  have cs4 : csOk [ca, cb, ca] := ⟨Nat.le_of_ble_eq_true rfl, fun c hc => by
    rcases List.mem_cons.mp hc with rfl | hc
    · exact hca
    · exact cs3.2 c hc⟩
  refine wb_set (m := some h) (X := X0) 8 sclaw.nd (R := rRd K (six [ca] [] [] [] false)) (je_callK (X := X0) (⟨[ca], [], [], [], false⟩ : RdD) (kw_0 T) ⟨cs1, Nat.zero_le _, Nat.zero_le _, Nat.zero_le _, noS, noW, noS⟩ (ja_cons (je_ixL (l := [rCu K ca, rCu K cb]) (je_var 3 rfl r3) je_int) ja_nil) jk_nil (fun zs vs p G4 al bl hp => .cons (emp_n T G4) (.cons (emp_l T G4) (.cons (emp_t T G4) (.cons rfl (.cons ⟨p, vs, rfl, hp, bl⟩ .nil))))) rfl (Nat.le_of_ble_eq_true rfl) hr) o8 fun v9 G9 H9 s9 o9 r9 => ?_
  have r2 := Rl.mono _ _ _ _ s9.gg r2
  have r3 := Rl.mono _ _ _ _ s9.gg r3
  have mor := Rl.mono _ _ _ _ s9.gg mor
  have fur := Rl.mono _ _ _ _ s9.gg fur
  have mkr := Rl.mono _ _ _ _ s9.gg mkr
  refine wb_if (m := some h) (P := isB false) (jt_not (b := true) (jt_val (je_call (X := X0) (six [ca] [] [] [] false) (k_Lright T TE) (six_ok _ _ _ _ _) (ja_cons (je_var 8 rfl r9) (ja_cons (je_call (X := X0) (⟨[ca], [], [], [], false⟩ : AskD) (k_Lasked T) ⟨cs1, Nat.le_refl 1, Nat.zero_le _, Nat.zero_le _, Nat.zero_le _, noS, noW, noS⟩ (ja_cons (je_takeL (n := 1) (l := [rcu K ca, rcu K cb]) (je_var 2 rfl r2) je_int) (ja_cons je_nilS (ja_cons je_nilS (ja_cons (je_bits je_nilS je_bl) ja_nil)))) hr) ja_nil)) hr))) o9 (fun h => by cases h) (fun hh G10 H10 s10 o10 => wb_nil ?_)
  have r2 := Rl.mono _ _ _ _ s10.gg r2
  have r3 := Rl.mono _ _ _ _ s10.gg r3
  have mor := Rl.mono _ _ _ _ s10.gg mor
  have fur := Rl.mono _ _ _ _ s10.gg fur
  have mkr := Rl.mono _ _ _ _ s10.gg mkr
  have r9 := Rl.mono _ _ _ _ s10.gg r9
  refine wb_set (m := some h) (X := X0) 9 sclaw.nd (R := rRd K (six [ca, cb] [] [] [] false)) (je_callK (X := X0) (⟨[ca, cb], [], [], [], false⟩ : RdD) (kw_0 T) ⟨cs2, Nat.zero_le _, Nat.zero_le _, Nat.zero_le _, noS, noW, noS⟩ (ja_cons (je_ixL (l := [rCu K ca, rCu K cb]) (je_var 3 rfl r3) je_int) (ja_cons (je_ixL (l := [rCu K ca, rCu K cb]) (je_var 3 rfl r3) je_int) ja_nil)) jk_nil (fun zs vs p G4 al bl hp => .cons (emp_n T G4) (.cons (emp_l T G4) (.cons (emp_t T G4) (.cons rfl (.cons ⟨p, vs, rfl, hp, bl⟩ .nil))))) rfl (Nat.le_of_ble_eq_true rfl) hr) o10 fun v11 G11 H11 s11 o11 r11 => ?_
  have r2 := Rl.mono _ _ _ _ s11.gg r2
  have r3 := Rl.mono _ _ _ _ s11.gg r3
  have mor := Rl.mono _ _ _ _ s11.gg mor
  have fur := Rl.mono _ _ _ _ s11.gg fur
  have mkr := Rl.mono _ _ _ _ s11.gg mkr
  have r9 := Rl.mono _ _ _ _ s11.gg r9
  refine wb_set (m := some h) (X := X0) 10 sclaw.nd (R := rDue K (six [ca, cb] [] [] [] false)) (je_call (X := X0) (⟨[ca, cb], [], [], [], false⟩ : AskD) (k_Lasked T) ⟨cs2, Nat.le_succ 1, Nat.zero_le _, Nat.zero_le _, Nat.zero_le _, noS, noW, noS⟩ (ja_cons (je_var (R := Rl.ls (rcu K) [ca, cb]) 2 rfl r2) (ja_cons je_nilS (ja_cons je_nilS (ja_cons (je_bits je_nilS je_bl) ja_nil)))) hr) o11 fun v12 G12 H12 s12 o12 r12 => ?_
  have r2 := Rl.mono _ _ _ _ s12.gg r2
  have r3 := Rl.mono _ _ _ _ s12.gg r3
  have mor := Rl.mono _ _ _ _ s12.gg mor
  have fur := Rl.mono _ _ _ _ s12.gg fur
  have mkr := Rl.mono _ _ _ _ s12.gg mkr
  have r9 := Rl.mono _ _ _ _ s12.gg r9
  have r11 := Rl.mono _ _ _ _ s12.gg r11
  refine wb_if (m := some h) (P := isB false) (jt_w (jw_or (p := false) (q := false) (jt_not (b := true) (jt_val (je_call (X := X0) (six [ca, cb] [] [] [] false) (k_Lright T TE) (six_ok _ _ _ _ _) (ja_cons (je_var 9 rfl r11) (ja_cons (je_var 10 rfl r12) ja_nil)) hr))) fun _ => jw_or (p := false) (q := false) (jt_flip (jt_neRd (x := six [ca, cb] [] [] [] false) (y := six [cb, ca] [] [] [] false) T TE (six_ok _ _ _ _ _) (six_ok _ _ _ _ _) (je_var 9 rfl r11) (je_callK (X := X0) (⟨[cb, ca], [], [], [], false⟩ : RdD) (kw_0 T) ⟨cs3, Nat.zero_le _, Nat.zero_le _, Nat.zero_le _, noS, noW, noS⟩ (ja_cons (je_ixL (l := [rCu K ca, rCu K cb]) (je_var 3 rfl r3) je_int) (ja_cons (je_ixL (l := [rCu K ca, rCu K cb]) (je_var 3 rfl r3) je_int) ja_nil)) jk_nil (fun zs vs p G4 al bl hp => .cons (emp_n T G4) (.cons (emp_l T G4) (.cons (emp_t T G4) (.cons rfl (.cons ⟨p, vs, rfl, hp, bl⟩ .nil))))) rfl (Nat.le_of_ble_eq_true rfl) hr) hr) (by rw [decide_eq_true (six_swap hca hcb)] <;> rfl)) fun _ => jw_or1 (jt_flip (jt_neRd (x := six [ca, cb] [] [] [] false) (y := six [ca, cb, ca] [] [] [] false) T TE (six_ok _ _ _ _ _) (six_ok _ _ _ _ _) (je_var 9 rfl r11) (je_callK (X := X0) (⟨[ca, cb, ca], [], [], [], false⟩ : RdD) (kw_0 T) ⟨cs4, Nat.zero_le _, Nat.zero_le _, Nat.zero_le _, noS, noW, noS⟩ (ja_cons (je_ixL (l := [rCu K ca, rCu K cb]) (je_var 3 rfl r3) je_int) (ja_cons (je_ixL (l := [rCu K ca, rCu K cb]) (je_var 3 rfl r3) je_int) (ja_cons (je_ixL (l := [rCu K ca, rCu K cb]) (je_var 3 rfl r3) je_int) ja_nil))) jk_nil (fun zs vs p G4 al bl hp => .cons (emp_n T G4) (.cons (emp_l T G4) (.cons (emp_t T G4) (.cons rfl (.cons ⟨p, vs, rfl, hp, bl⟩ .nil))))) rfl (Nat.le_of_ble_eq_true rfl) hr) hr) (by rw [decide_eq_true (six_again hca hcb)] <;> rfl)))) o12 (fun h => by cases h) (fun hh G13 H13 s13 o13 => wb_nil ?_)
  have r2 := Rl.mono _ _ _ _ s13.gg r2
  have r3 := Rl.mono _ _ _ _ s13.gg r3
  have mor := Rl.mono _ _ _ _ s13.gg mor
  have fur := Rl.mono _ _ _ _ s13.gg fur
  have mkr := Rl.mono _ _ _ _ s13.gg mkr
  have r9 := Rl.mono _ _ _ _ s13.gg r9
  have r11 := Rl.mono _ _ _ _ s13.gg r11
  have r12 := Rl.mono _ _ _ _ s13.gg r12
  have es : decide (six [ca] [] [] [] false = six [ca, cb] [] [] [] false) = decide (six [ca, cb] [] [] [] false = six [ca] [] [] [] false) := decide_eq_decide.mpr eq_comm
  refine wb_if (m := some h) (P := isB false) (jt_flip (jt_ne (x := .bl (decide (six [ca] [] [] [] false = six [ca, cb] [] [] [] false))) (y := .bl (decide (six [ca, cb] [] [] [] false = six [ca] [] [] [] false))) (je_eqRd T TE (six_ok _ _ _ _ _) (six_ok _ _ _ _ _) (je_var 8 rfl r9) (je_var 9 rfl r11) hr) (je_eqRs hr (six_ok _ _ _ _ _) (six_ok _ _ _ _ _) (je_var 10 rfl r12) (je_call (X := X0) (⟨[ca], [], [], [], false⟩ : AskD) (k_Lasked T) ⟨cs1, Nat.le_refl 1, Nat.zero_le _, Nat.zero_le _, Nat.zero_le _, noS, noW, noS⟩ (ja_cons (je_takeL (n := 1) (l := [rcu K ca, rcu K cb]) (je_var 2 rfl r2) je_int) (ja_cons je_nilS (ja_cons je_nilS (ja_cons (je_bits je_nilS je_bl) ja_nil)))) hr))) (by rw [es, decide_eq_true rfl] <;> rfl)) o13 (fun h => by cases h) (fun hh G14 H14 s14 o14 => wb_nil ?_)
  have r2 := Rl.mono _ _ _ _ s14.gg r2
  have r3 := Rl.mono _ _ _ _ s14.gg r3
  have mor := Rl.mono _ _ _ _ s14.gg mor
  have fur := Rl.mono _ _ _ _ s14.gg fur
  have mkr := Rl.mono _ _ _ _ s14.gg mkr
  have r9 := Rl.mono _ _ _ _ s14.gg r9
  have r12 := Rl.mono _ _ _ _ s14.gg r12
  refine wb_if (m := some h) (P := isB false) (jt_not (b := true) (jt_val (je_call (X := X0) (six [ca, cb] [] [] [] true) (k_Lright T TE) (six_ok _ _ _ _ _) (ja_cons (je_callK (X := X0) (⟨[ca, cb], [], [], [], true⟩ : RdD) (kw_h T) ⟨cs2, Nat.zero_le _, Nat.zero_le _, Nat.zero_le _, noS, noW, noS⟩ (ja_cons (je_ixL (l := [rCu K ca, rCu K cb]) (je_var 3 rfl r3) je_int) (ja_cons (je_ixL (l := [rCu K ca, rCu K cb]) (je_var 3 rfl r3) je_int) ja_nil)) (jk_cons je_bl jk_nil) (fun zs vs p G4 al bl hp => by
      obtain ⟨z1, rfl, a1⟩ := AlL.one al
      exact .cons (emp_n T G4) (.cons (emp_l T G4) (.cons (emp_t T G4) (.cons a1 (.cons ⟨p, vs, rfl, hp, bl⟩ .nil))))) rfl (Nat.le_of_ble_eq_true rfl) hr) (ja_cons (je_call (X := X0) (⟨[ca, cb], [], [], [], true⟩ : AskD) (k_Lasked T) ⟨cs2, Nat.le_succ 1, Nat.zero_le _, Nat.zero_le _, Nat.zero_le _, noS, noW, noS⟩ (ja_cons (je_var (R := Rl.ls (rcu K) [ca, cb]) 2 rfl r2) (ja_cons je_nilS (ja_cons je_nilS (ja_cons (je_bits je_nilS je_bl) ja_nil)))) hr) ja_nil)) hr))) o14 (fun h => by cases h) (fun hh G15 H15 s15 o15 => wb_nil ?_)
  have r2 := Rl.mono _ _ _ _ s15.gg r2
  have r3 := Rl.mono _ _ _ _ s15.gg r3
  have mor := Rl.mono _ _ _ _ s15.gg mor
  have fur := Rl.mono _ _ _ _ s15.gg fur
  have mkr := Rl.mono _ _ _ _ s15.gg mkr
  have r9 := Rl.mono _ _ _ _ s15.gg r9
  have r12 := Rl.mono _ _ _ _ s15.gg r12
  refine wb_if (m := some h) (P := isB false) (jt_not (b := true) (jt_val (je_call (X := X0) (six [ca, cb] mo fu [] false) (k_Lright T TE) (six_ok _ _ _ _ _) (ja_cons (je_callK (X := X0) (⟨[ca, cb], mo, fu, [], false⟩ : RdD) (kw_n_l T) ⟨cs2, mol, ful, Nat.zero_le _, mo2, fu2, noS⟩ (ja_cons (je_ixL (l := [rCu K ca, rCu K cb]) (je_var 3 rfl r3) je_int) (ja_cons (je_ixL (l := [rCu K ca, rCu K cb]) (je_var 3 rfl r3) je_int) ja_nil)) (jk_cons (je_var 5 rfl mor) (jk_cons (je_var 6 rfl fur) jk_nil)) (fun zs vs p G4 al bl hp => by
      obtain ⟨z1, z2, rfl, a1, a2⟩ := AlL.two al
      exact .cons (.inl a1) (.cons (.inl a2) (.cons (emp_t T G4) (.cons rfl (.cons ⟨p, vs, rfl, hp, bl⟩ .nil))))) rfl (Nat.le_of_ble_eq_true rfl) hr) (ja_cons (je_call (X := X0) (⟨[ca, cb], mo, fu, [], false⟩ : AskD) (k_Lasked T) ⟨cs2, Nat.le_succ 1, mol, ful, Nat.zero_le _, mo2, fu2, noS⟩ (ja_cons (je_var (R := Rl.ls (rcu K) [ca, cb]) 2 rfl r2) (ja_cons (je_var 5 rfl mor) (ja_cons (je_var 6 rfl fur) (ja_cons (je_bits je_nilS je_bl) ja_nil)))) hr) ja_nil)) hr))) o15 (fun h => by cases h) (fun hh G16 H16 s16 o16 => wb_nil ?_)
  have r2 := Rl.mono _ _ _ _ s16.gg r2
  have r3 := Rl.mono _ _ _ _ s16.gg r3
  have mor := Rl.mono _ _ _ _ s16.gg mor
  have fur := Rl.mono _ _ _ _ s16.gg fur
  have mkr := Rl.mono _ _ _ _ s16.gg mkr
  have r9 := Rl.mono _ _ _ _ s16.gg r9
  have r12 := Rl.mono _ _ _ _ s16.gg r12
  refine wb_set (m := some h) (X := X0) 11 sclaw.nd (R := rRd K (six [ca, cb] mo fu mk true)) (je_callK (X := X0) (⟨[ca, cb], mo, fu, mk, true⟩ : RdD) (kw_t_n_l_h T) ⟨cs2, mol, ful, mkl, mo2, fu2, mk2⟩ (ja_cons (je_ixL (l := [rCu K ca, rCu K cb]) (je_var 3 rfl r3) je_int) (ja_cons (je_ixL (l := [rCu K ca, rCu K cb]) (je_var 3 rfl r3) je_int) ja_nil)) (jk_cons (je_tupleL (l := mk.map rS) (je_var 7 rfl mkr) (T.f "tuple")) (jk_cons (je_tupleL (l := mo.map rS) (je_var 5 rfl mor) (T.f "tuple")) (jk_cons (je_var 6 rfl fur) (jk_cons je_bl jk_nil)))) (fun zs vs p G4 al bl hp => by
      cases al with
      | cons a1 al => cases al with
        | cons a2 al =>
          obtain ⟨z3, z4, rfl, a3, a4⟩ := AlL.two al
          exact .cons (.inr a2) (.cons (.inl a3) (.cons (.inr a1) (.cons a4 (.cons ⟨p, vs, rfl, hp, bl⟩ .nil))))) rfl (Nat.le_of_ble_eq_true rfl) hr) o16 fun v17 G17 H17 s17 o17 r17 => ?_
  have r2 := Rl.mono _ _ _ _ s17.gg r2
  have r3 := Rl.mono _ _ _ _ s17.gg r3
  have mor := Rl.mono _ _ _ _ s17.gg mor
  have fur := Rl.mono _ _ _ _ s17.gg fur
  have mkr := Rl.mono _ _ _ _ s17.gg mkr
  have r9 := Rl.mono _ _ _ _ s17.gg r9
  have r12 := Rl.mono _ _ _ _ s17.gg r12
  refine wb_if (m := some h) (P := isB false) (jt_not (b := true) (jt_val (je_call (X := X0) (six [ca, cb] mo fu mk true) (k_Lright T TE) (six_ok _ _ _ _ _) (ja_cons (je_var 11 rfl r17) (ja_cons (je_call (X := X0) (⟨[ca, cb], mo, fu, mk, true⟩ : AskD) (k_Lasked T) ⟨cs2, Nat.le_succ 1, mol, ful, mkl, mo2, fu2, mk2⟩ (ja_cons (je_var (R := Rl.ls (rcu K) [ca, cb]) 2 rfl r2) (ja_cons (je_var 5 rfl mor) (ja_cons (je_var 6 rfl fur) (ja_cons (je_bits (je_var 7 rfl mkr) je_bl) ja_nil)))) hr) ja_nil)) hr))) o17 (fun h => by cases h) (fun hh G18 H18 s18 o18 => wb_nil ?_)
  have r2 := Rl.mono _ _ _ _ s18.gg r2
  have r9 := Rl.mono _ _ _ _ s18.gg r9
  have r12 := Rl.mono _ _ _ _ s18.gg r12
  have r17 := Rl.mono _ _ _ _ s18.gg r17
  refine wb_if (m := some h) (P := isB false) (jt_w (jw_or (p := false) (q := false) (jt_not (b := true) (jt_val (je_callE (X := X0) (k_Lrefused T TE) (ja_cons (je_var 11 rfl r17) (ja_cons (je_draw (X := X0) bads (k_Lpick T Rl.eq) ⟨by decide, by decide⟩ 1 (ja_cons je_bads ja_nil) hr) ja_nil)) (fun vs G4 al => by
      obtain ⟨y1, y2, rfl, a1, b, hb, a2⟩ := AlL.two al
      exact ⟨(six [ca, cb] mo fu mk true, b), bads_bad b hb, .cons a1 (.cons a2 .nil)⟩) hr))) fun _ => jw_or1 (jt_eqRL T TE (je_var 11 rfl r17) (je_var 10 rfl r12) hr))) o18 (fun h => by cases h) (fun hh G19 H19 s19 o19 => wb_nil ?_)
  have r2 := Rl.mono _ _ _ _ s19.gg r2
  have r9 := Rl.mono _ _ _ _ s19.gg r9
  exact wb_ret (m := some h) (R := rB true) (je_call (X := X0) (six [ca] [] [] [] false) (k_Lright T TE) (six_ok _ _ _ _ _) (ja_cons (je_var 8 rfl r9) (ja_cons (je_call (X := X0) (⟨[ca], [], [], [], false⟩ : AskD) (k_Lasked T) ⟨cs1, Nat.le_refl 1, Nat.zero_le _, Nat.zero_le _, Nat.zero_le _, noS, noW, noS⟩ (ja_cons (je_takeL (n := 1) (l := [rcu K ca, rcu K cb]) (je_var 2 rfl r2) je_int) (ja_cons je_nilS (ja_cons je_nilS (ja_cons (je_bits je_nilS je_bl) ja_nil)))) hr) ja_nil)) hr) o19 fun v G20 H20 s20 r => k true v G20 H20 rfl ((((((((((((((((((s2.trans o1 s3).trans o1 s4).trans o1 s5).trans o1 s6).trans o1 s7).trans o1 s8).trans o1 s9).trans o1 s10).trans o1 s11).trans o1 s12).trans o1 s13).trans o1 s14).trans o1 s15).trans o1 s16).trans o1 s17).trans o1 s18).trans o1 s19).trans o1 s20) r
end
end Nk
namespace Nk
open PySem PySem.Spec PyProof.Rows L2 NdefX
theorem oexB_ok {K : PySem.W.Frag} {C : Addr} (q : oexB K C = true) : ∃ nm q N bs bm sn sub ab col dd k0 k1 k2 k3 k5, K.lookup C = some (excClassObj nm q C N bs bm true sn sub ab col dd k0 k1 k2 k3 k5 "ValueError.__new__") ∧ PySem.HandSPX.refsVE bm = true := by
  unfold oexB at q
  split at q
  · rename_i dd cd sl ho
    split at q
    · rename_i C' bm k0 k1 k2 k3 n k5 hm hs
      simp only [Bool.and_eq_true, beq_iff_eq, Bool.not_eq_true'] at q
      obtain ⟨h1, h2, h3, h4, h5⟩ := q
      obtain ⟨nm, bs, mro, ns, qn, hd, sn, sb, ab, col, del⟩ := cd
      have hsl : sl = #[k0, k1, k2, k3, some (.builtin n), k5] := by
        apply Array.ext'
        simpa using hs
      dsimp only at hm h3 h4
      subst hm h3 h4 hsl h1 h2
      exact ⟨nm, qn, ns, bs, bm, sn, sb, ab, col, dd, k0, k1, k2, k3, k5, ho, h5⟩
    · cases q
  · cases q
theorem clsIB_ok {K : PySem.W.Frag} {C : Addr} (h : clsIB K C = true) : InsF K C := by
  obtain ⟨h1, h⟩ := Bool.and_eq_true_iff.mp h
  obtain ⟨h2, h⟩ := Bool.and_eq_true_iff.mp h
  obtain ⟨h3, h4⟩ := Bool.and_eq_true_iff.mp h
  exact ⟨He.eqO_ok h1, He.eqO_ok h2, of_decide_eq_true h3, of_decide_eq_true h4⟩
theorem empB_ok {K : PySem.W.Frag} {x : Str} (h : empB K x = true) : ∃ o n, K.lookup (kwA K x) = some o ∧ o.cls = .type "tuple" ∧ o.data = .seq #[] n := by
  unfold empB at h
  split at h
  · rename_i c od its n sl ho
    obtain ⟨h1, h2⟩ := Bool.and_eq_true_iff.mp h
    have e1 := of_decide_eq_true h1
    have e2 := Array.eq_empty_of_size_eq_zero (of_decide_eq_true h2)
    subst e1 e2
    exact ⟨_, n, ho, rfl, rfl⟩
  · cases h
theorem mk0B_ok {K : PySem.W.Frag} {C : Addr} (h : mk0B K C = true) : Mk0 K C := by
  obtain ⟨h1, h⟩ := Bool.and_eq_true_iff.mp h
  obtain ⟨h2, h3⟩ := Bool.and_eq_true_iff.mp h
  exact ⟨h1, He.eqO_ok h2, h3⟩
theorem cvB_ok {K : PySem.W.Frag} {C : Addr} {f s : Str} (h : cvB K C f s = true) : ∃ u, ClX.CVal K C (.type "type") f (.str s) u := by
  unfold cvB at h
  split at h
  · rename_i x t ho
    have e := of_decide_eq_true h
    subst e
    exact ⟨_, ho, t, rfl⟩
  · cases h
theorem tx_of {K : PySem.W.Frag} {h : Heap} {mg : Str → Option Value} (X : K.In h) (G : h.Ns mainGlobals mg) (c : txB K = true) (cd : (fnL.all fun d => d.ok K) = true) (ce : fnL.map (fun d => He.fnW K d.at_) = fnL.map He.DefD.val) : Tx K mg := by
  obtain ⟨c1, c⟩ := Bool.and_eq_true_iff.mp c
  obtain ⟨c2, c⟩ := Bool.and_eq_true_iff.mp c
  obtain ⟨c3, c⟩ := Bool.and_eq_true_iff.mp c
  obtain ⟨c4, c⟩ := Bool.and_eq_true_iff.mp c
  obtain ⟨c5, c⟩ := Bool.and_eq_true_iff.mp c
  obtain ⟨c6, c⟩ := Bool.and_eq_true_iff.mp c
  obtain ⟨c7, c⟩ := Bool.and_eq_true_iff.mp c
  obtain ⟨c8, c⟩ := Bool.and_eq_true_iff.mp c
  obtain ⟨c9, c⟩ := Bool.and_eq_true_iff.mp c
  obtain ⟨c10, c⟩ := Bool.and_eq_true_iff.mp c
  obtain ⟨c11, c⟩ := Bool.and_eq_true_iff.mp c
  obtain ⟨c12, c⟩ := Bool.and_eq_true_iff.mp c
  obtain ⟨c13, c⟩ := Bool.and_eq_true_iff.mp c
  obtain ⟨c14, c15⟩ := Bool.and_eq_true_iff.mp c
  obtain ⟨d1, d2⟩ := Bool.and_eq_true_iff.mp c13
  exact {
    glo := fun x hx => He.glo_ok X G (List.all_eq_true.mp c1 x hx)
    fr := fun x hx => He.free_ok X G (List.all_eq_true.mp c2 x hx)
    int := fun p hp => He.int_ok X G (List.all_eq_true.mp c3 p hp)
    cls := fun x hx => He.cls_ok (List.all_eq_true.mp c4 x hx)
    ins := fun x hx => clsIB_ok (List.all_eq_true.mp c5 x hx)
    noat := fun p hp => He.noat_ok (List.all_eq_true.mp c6 p hp)
    meth := fun p hp => by
      obtain ⟨e1, e2⟩ := Bool.and_eq_true_iff.mp (List.all_eq_true.mp c7 p hp)
      have z := He.meth_ok e1
      rw [of_decide_eq_true e2] at z
      exact z
    mks := fun p hp => by
      obtain ⟨e1, e2⟩ := Bool.and_eq_true_iff.mp (List.all_eq_true.mp c8 p hp)
      have z := He.mkr_ok e1
      rw [of_decide_eq_true e2] at z
      exact z
    kit := fun p hp => of_decide_eq_true (List.all_eq_true.mp c9 p hp)
    def_ := fun i d hd => by
      have e2 : (fnL.map fun d => He.fnW K d.at_)[i]? = (fnL.map He.DefD.val)[i]? := by rw [ce]
      rw [List.getElem?_map, List.getElem?_map, hd] at e2
      exact He.DefD.funD (Option.some.inj e2) (List.all_eq_true.mp cd d (List.mem_of_getElem? hd))
    emp := fun x hx => empB_ok (List.all_eq_true.mp c10 x hx)
    mk0 := ⟨mk0B_ok c11, mk0B_ok c12⟩
    rd := ⟨d1, He.eqO_ok d2⟩
    son := cvB_ok c14
    dau := cvB_ok c15 }
theorem supB_ok {P : Program} {K : PySem.W.Frag} {C : Addr} {p : Str × Option Str} {qual : Str} {st : Stmt} (h : supB P K C p qual = true) (e : fnE K p = exVal qual st) (ht : (P.main.scope.names.lookup ("super" : Str)).isSome = false) : SupC P K C (He.fAd K p) qual st := by
  obtain ⟨h1, h⟩ := Bool.and_eq_true_iff.mp h
  obtain ⟨h2, h⟩ := Bool.and_eq_true_iff.mp h
  obtain ⟨h3, h⟩ := Bool.and_eq_true_iff.mp h
  obtain ⟨h4, h⟩ := Bool.and_eq_true_iff.mp h
  obtain ⟨h5, h⟩ := Bool.and_eq_true_iff.mp h
  obtain ⟨h6, h⟩ := Bool.and_eq_true_iff.mp h
  obtain ⟨h7, h⟩ := Bool.and_eq_true_iff.mp h
  obtain ⟨h8, h⟩ := Bool.and_eq_true_iff.mp h
  obtain ⟨h9, h⟩ := Bool.and_eq_true_iff.mp h
  obtain ⟨h10, h⟩ := Bool.and_eq_true_iff.mp h
  obtain ⟨h11, h12⟩ := Bool.and_eq_true_iff.mp h
  refine ⟨⟨oexB_ok h1, He.eqO_ok h2, of_decide_eq_true h3, of_decide_eq_true h4, h5⟩, He.eqO_ok h6, of_decide_eq_true h7, ?_, He.eqO_ok h9, of_decide_eq_true h10, He.eqO_ok h11, ht, of_decide_eq_true h12⟩
  unfold initB at h8
  unfold fnE at e
  cases q : K.lookup (He.fAd K p) with
  | none =>
    rw [q] at h8
    cases h8
  | some o =>
    obtain ⟨oc, od, dt, osl⟩ := o
    rw [q] at h8 e
    cases dt with
    | func fd =>
      obtain ⟨n1, n2, n3, n4, n5, n6, n7, n8, n9, n10, n11, n12, n13, n14, n15⟩ := fd
      dsimp only at h8 e
      have e2 : (some (n1, n2, n3, n4, n5, n6, n7.map (·.1), n15) : FnE) = exVal qual st := e
      unfold exVal at e2
      simp only [Option.some.injEq, Prod.mk.injEq] at e2
      obtain ⟨i1, i2, i3, i4, i5, i6, i7, i8⟩ := e2
      obtain ⟨j1, g1⟩ := Bool.and_eq_true_iff.mp h8
      obtain ⟨j2, g2⟩ := Bool.and_eq_true_iff.mp g1
      obtain ⟨j3, g3⟩ := Bool.and_eq_true_iff.mp g2
      obtain ⟨j4, j5⟩ := Bool.and_eq_true_iff.mp g3
      clear h8 g1 g2 g3
      obtain rfl : n8 = .none := of_decide_eq_true j1
      obtain rfl : n9 = .none := of_decide_eq_true j2
      obtain rfl : n12 = none := of_decide_eq_true j3
      subst i1 i2 i3 i4 i5 i6 i8
      unfold cellB at j5
      split at j5
      · rename_i nm c
        simp only [List.map_cons, List.map_nil, List.cons.injEq, and_true] at i7
        subst i7
        split at j5
        · rename_i c2 d2 a s2 hc
          have ea := of_decide_eq_true j5
          subst ea
          unfold codB at j4
          obtain ⟨k1, k2⟩ := Bool.and_eq_true_iff.mp j4
          split at k2
          · rename_i ca
            split at k2
            · rename_i c1 d1 vs s1 hv
              split at k2
              · rename_i file tf hf
                exact ⟨oc, od, osl, n10, n11, n14, ca, c, c1, c2, d1, d2, s1, s2, vs, file, tf, rfl, k1, hv, hf, k2, hc⟩
              · cases k2
            · cases k2
          · cases k2
        · cases j5
      · cases j5
    | _ => cases h8
theorem ecB_ok {K : PySem.W.Frag} {C : Addr} (h : ecB K C = true) : XfC K C ∧ ExcC K C := by
  obtain ⟨h1, h2⟩ := Bool.and_eq_true_iff.mp h
  have x := xfB_ok h1
  have i := clsIB_ok h2
  exact ⟨x, x.ga, x.gg, x.exC, x.hdC, i.ha, i.hn, i.htk, i.hm⟩
theorem txe_of {P : Program} {K : PySem.W.Frag} (c : txeB P K = true) (e1 : fnE K ("BadKind", some "__init__") = exVal "BadKind.__init__" sBadKind_init) (e2 : fnE K ("TooWide", some "__init__") = exVal "TooWide.__init__" sTooWide_init) (ht : (P.main.scope.names.lookup ("super" : Str)).isSome = false) : TxE P K := by
  obtain ⟨c1, c⟩ := Bool.and_eq_true_iff.mp c
  obtain ⟨c2, c⟩ := Bool.and_eq_true_iff.mp c
  obtain ⟨c3, c⟩ := Bool.and_eq_true_iff.mp c
  obtain ⟨c4, c⟩ := Bool.and_eq_true_iff.mp c
  obtain ⟨c5, c⟩ := Bool.and_eq_true_iff.mp c
  obtain ⟨c6, c⟩ := Bool.and_eq_true_iff.mp c
  obtain ⟨c7, c⟩ := Bool.and_eq_true_iff.mp c
  obtain ⟨c8, c⟩ := Bool.and_eq_true_iff.mp c
  obtain ⟨c9, c⟩ := Bool.and_eq_true_iff.mp c
  obtain ⟨c10, c⟩ := Bool.and_eq_true_iff.mp c
  obtain ⟨c11, c⟩ := Bool.and_eq_true_iff.mp c
  obtain ⟨c12, c⟩ := Bool.and_eq_true_iff.mp c
  obtain ⟨c13, c⟩ := Bool.and_eq_true_iff.mp c
  obtain ⟨c14, c⟩ := Bool.and_eq_true_iff.mp c
  obtain ⟨c15, c⟩ := Bool.and_eq_true_iff.mp c
  obtain ⟨c16, c⟩ := Bool.and_eq_true_iff.mp c
  obtain ⟨c17, c18⟩ := Bool.and_eq_true_iff.mp c
  exact {
    supK := supB_ok c1 e1 ht
    supW := supB_ok c2 e2 ht
    nK := He.noat_ok c3
    nW := He.noat_ok c4
    xfK := (ecB_ok c5).1
    xfW := (ecB_ok c6).1
    ecK := (ecB_ok c5).2
    ecW := (ecB_ok c6).2
    exK := He.exm_ok c7
    exW := He.exm_ok c8
    ke1 := of_decide_eq_true c9
    ke2 := of_decide_eq_true c10
    ke3 := of_decide_eq_true c11
    ke4 := of_decide_eq_true c12
    eq := He.eqO_ok c13
    eqf := c14
    ne := He.eqO_ok c15
    mro := of_decide_eq_true c16
    lst := of_decide_eq_true c17
    kitl := of_decide_eq_true c18 }
theorem says_of {K : PySem.W.Frag} {h : Heap} {mg : Str → Option Value} (X : K.In h) (G : h.Ns mainGlobals mg) (c : SaysN K) (ht : (prg.main.scope.names.lookup ("super" : Str)).isSome = false) : Tx K mg ∧ TxE prg K := by
  have c1 : (txB K && (txeB prg K && fnL.all fun d => d.ok K)) = true := congrArg (fun z : AlN => z.1) c
  obtain ⟨d1, c1⟩ := Bool.and_eq_true_iff.mp c1
  obtain ⟨d2, d3⟩ := Bool.and_eq_true_iff.mp c1
  exact ⟨tx_of X G d1 d3 (congrArg (fun z : AlN => z.2.1) c), txe_of d2 (congrArg (fun z : AlN => z.2.2.1) c) (congrArg (fun z : AlN => z.2.2.2) c) ht⟩
end Nk

namespace Nk
open PySem PySem.Spec PyProof.Rows L2
theorem f_law {w : World} {K : PySem.W.Frag} {mg : Str → Option Value} (T : Tx K mg) (TE : TxE prg K) : ∃ fd : FuncData, (∀ (s : Shared) (u : Value), BindsTo s fd ⟨[u], []⟩ [("_law_script", u)]) ∧ ∀ base : Heap, FnOk prg w K mg base C8.CX0 9 (He.ga K "law") fd ["_law_script"] (spLaw K) := by
  obtain ⟨fd, F⟩ := T.F_law
  have b := FunD.bindsA (ps := ["_law_script"]) F fun _ _ _ _ _ _ us hl => match us, hl with | [_], _ => rfl
  refine ⟨fd, fun s v => b s [v] rfl, fun base => F.ok sclaw (fun vs H Q E h => ?_) (fun cdv A outer s H vs Q E hr h => ?_)⟩
  · obtain ⟨a, ns, rfl, _⟩ := h
    rfl
  · obtain ⟨a, ns, rfl, ho, hs, hn, k⟩ := h
    exact ⟨_, (pB (X := Xc prg w K mg base nlaw "law" slaw (He.ga K "law") cdv A outer s H E)).nox, b_law T TE cdv A outer s H E H [] Q hr a ns ho hs hn k⟩
theorem map3 {α β γ δ : Type} (e : Option α) (f1 : α → β) (f2 : α → γ) (f3 : α → δ) {a : β} {b : γ} {c : δ} (h1 : e.map f1 = some a) (h2 : e.map f2 = some b) (h3 : e.map f3 = some c) : e.map (fun s => (f1 s, f2 s, f3 s)) = some (a, b, c) := by
  cases e with
  | none => cases h1
  | some s =>
    rw [Option.map_some] at h1 h2 h3 ⊢
    rw [Option.some.inj h1, Option.some.inj h2, Option.some.inj h3]
theorem run (w : World) : HandSHeadRun.RunEq R (PySem.W.view R.prog [87]) hookN obN 30000 names w := fun os => map3 _ _ _ _ (run1 w os) (run2 w os) (run3 w os)
theorem no_super : (prg.main.scope.names.lookup ("super" : Str)).isSome = false := by decide +kernel
end Nk
open PySem PySem.W PySem.Calls PyProof.Rows
theorem PySem.Challenge.cw_namesakes_k12_whole_reads_closed_backwar_holds : PySem.Challenge.rw_namesakes_k12_whole_reads_closed_backwar.Holds := by
  w_on; o_law
  refine HandSHeadRun.head_any (r := OpenLaw.row PySem.Challenge.rw_namesakes_k12_whole_reads_closed_backwar) (q := view (OpenLaw.row PySem.Challenge.rw_namesakes_k12_whole_reads_closed_backwar).prog [87]) (H := Nk.hookN) (ob := Nk.obN) (M := 30000) (loose := Nk.names) (d := HandSHeadRun.topDef (OpenLaw.row PySem.Challenge.rw_namesakes_k12_whole_reads_closed_backwar).prog 87) (kwd := []) Nk.obN_eq
    (by kernel_rfl) (fun s => by kernel_rfl) Nk.run (by kernel_rfl) (by kernel_rfl) (by kernel_rfl) (by rfl) (by first | assumption | decide +kernel) (by decide +kernel) ⟨rfl, rfl, rfl, rfl, rfl, by decide +kernel⟩ ?hw ?hc
  case hw => w_witness2
  case hc =>
    refine L2.walk_ofE (l := PySem.Challenge.rw_namesakes_k12_whole_reads_closed_backwar) (n := 63) (k := 9) (x := "_law_script") (CX := C8.CX0) rfl (by decide) (by kernel_rfl) ⟨rfl, by decide, by decide⟩ ?F (fun _ _ _ _ z => z)
    intro w mg fa h Y G hmg0
    obtain ⟨K, KX, c⟩ := Y
    have hmg : mg ("law" : PySem.Str) = some (.ref fa) := by
      have e : (HandSHeadRun.topDef (OpenLaw.row PySem.Challenge.rw_namesakes_k12_whole_reads_closed_backwar).prog 87).name = ("law" : PySem.Str) := by kernel_rfl
      rw [← e]
      exact hmg0
    obtain ⟨T, TE⟩ := Nk.says_of KX G c Nk.no_super
    have e := hmg.symm.trans (T.g "law")
    cases e
    obtain ⟨fd, hb, hF⟩ := Nk.f_law (w := w) T TE
    exact ⟨K, fd, Nk.spLaw K, KX, hb, fun H a ns hl hO hS => ⟨a, ns, rfl, hO, hS, hl, fun _ _ e => e⟩, fun base _ _ => hF base⟩
