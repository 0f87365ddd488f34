import PyProof.Rows.All
import Wide.All
import OpenK.AllK
import Wide.FinOn
import HandS.NestedK
import HandS.Property
import HandS.TryMany
import HandS.Style
import HandS.Defaults
import HandS.HeadHook2
import HandS.HeadNt
import HandS.ListItems
import HandS.Zip
import HandS.ExcField
import HandS.Head0
import HandS.Head1
import HandS.Head2
import HandS.HeadEnd
import KE.KStateDown
import HandS.ForMost
import HandS.ForExc
import HandS.More
import HandS.Star
import HandS.IsInst
import HandS.DictComp
import KE.KOpsOwn
import KE.KOwnIter
import HandS.OwnEq
import PyProof.InstNe
import PyProof.InstEq
import HandS.Nested
import HandS.ClsMeth
import KE.KSuper
import HandS.Dict
import PyProof.DictUpdate
import HandS.MakeKw
import PyProof.Ns1
import HandS.Set
import HandS.SetBool
import HandS.TupSets
import HandS.Strs
import PyProof.Rows.SortShellAny
import PyProof.Rows.SortStr
import HandS.ExcSuper
import HandS.ExcInit
import HandS.IterVal
import HandS.SetFor
import HandS.RaiseMore
import PyProof.Draws
import PyProof.TupleIter
import PyProof.NeKinds
import PyProof.EnumMake
import HandS.Conv
import KE.KRevSl
import HandS.ExcOwn
import HandS.ExcValue
import HandS.ExcIs
import KE.KExcIs
import HandS.FStr
import HandS.Text
import KE.KFmtOwn
import HandS.Walk
import PyProof.P3Eq
import PyProof.Rows.StrMeet
import PyProof.CollectWalk
import HandS.Wide
import PyProof.Rows.StrSplitJoin
import HandS.Lambda
import HandS.EndOwn
import PySem.Challenge.RW_onelongturn_k90_texts_written_and_read
set_option Elab.async false
set_option linter.all false
set_option maxRecDepth 100000
/-! the text by places -/
namespace N1
open PySem L2
def top (i : Nat) : Stmt := PySem.Challenge.pw_onelongturn_k90_texts_written_and_read.main.body.getD i (.Pass ⟨0, 0, 0, 0⟩)
abbrev d_is_integer : Stmt := top 4
abbrev d_is_between : Stmt := top 5
abbrev d_is_number : Stmt := top 6
abbrev d_is_name : Stmt := top 8
abbrev d_is_row : Stmt := top 9
abbrev d_number_in : Stmt := top 10
abbrev m_BadAskInit : Stmt := inClass (top 22) 0
abbrev m_DayInit : Stmt := inClass (top 33) 1
abbrev m_DayEq : Stmt := inClass (top 33) 8
abbrev m_DayStr : Stmt := inClass (top 33) 9
abbrev m_WordsInit : Stmt := inClass (top 35) 0
abbrev m_WordsNext_word : Stmt := inClass (top 35) 1
abbrev m_WordsTake_word : Stmt := inClass (top 35) 3
abbrev m_WordsTake_name : Stmt := inClass (top 35) 4
abbrev m_WordsTake_number : Stmt := inClass (top 35) 5
abbrev m_WordsTake_end : Stmt := inClass (top 35) 6
abbrev m_TripInit : Stmt := inClass (top 37) 1
abbrev m_TripAdd : Stmt := inClass (top 37) 7
abbrev m_TripEq : Stmt := inClass (top 37) 11
abbrev m_TripStr : Stmt := inClass (top 37) 12
abbrev m_RunInit : Stmt := inClass (top 39) 1
abbrev m_RunTimed : Stmt := inClass (top 39) 2
abbrev m_RunStr : Stmt := inClass (top 39) 3
abbrev m_StayInit : Stmt := inClass (top 40) 1
abbrev m_StayTimed : Stmt := inClass (top 40) 2
abbrev d_need_all_trips : Stmt := top 46
abbrev d_places_of : Stmt := top 47
abbrev d_need_few : Stmt := top 48
abbrev d_unbalanced : Stmt := top 49
abbrev m_TableInit : Stmt := inClass (top 50) 0
abbrev m_TableOf : Stmt := inClass (top 50) 1
abbrev m_TableGetitem : Stmt := inClass (top 50) 8
abbrev m_TableContains : Stmt := inClass (top 50) 9
abbrev m_TableIter : Stmt := inClass (top 50) 10
abbrev m_TableLen : Stmt := inClass (top 50) 11
abbrev m_TableEq : Stmt := inClass (top 50) 13
abbrev d_need_names_alone : Stmt := top 51
abbrev m_PausesInit : Stmt := inClass (top 52) 0
abbrev m_PausesOf : Stmt := inClass (top 52) 1
abbrev m_PausesPut : Stmt := inClass (top 52) 3
abbrev m_PausesGetitem : Stmt := inClass (top 52) 6
abbrev m_PausesIter : Stmt := inClass (top 52) 7
abbrev m_PausesEq : Stmt := inClass (top 52) 16
abbrev d_need_table : Stmt := top 54
abbrev d_needed_pauses : Stmt := top 55
abbrev d_is_order : Stmt := top 58
abbrev d_turns_of : Stmt := top 59
abbrev m_PlanInit : Stmt := inClass (top 60) 0
abbrev m_PlanFollows : Stmt := inClass (top 60) 1
abbrev m_PlanEq : Stmt := inClass (top 60) 18
abbrev d_write_table : Stmt := top 62
abbrev d_write_pauses : Stmt := top 63
abbrev d_write_plan : Stmt := top 64
abbrev d_lines_of : Stmt := top 68
abbrev d_take_run : Stmt := top 69
abbrev d_take_stay : Stmt := top 70
abbrev d_take_trip : Stmt := top 71
abbrev d_take_length : Stmt := top 72
abbrev d_trips_told : Stmt := top 73
abbrev d_numbers_told : Stmt := top 74
abbrev d_read_table : Stmt := top 75
abbrev d_read_pauses : Stmt := top 76
abbrev d_pauses_line : Stmt := top 77
abbrev d_follows_told : Stmt := top 78
abbrev d_read_plan : Stmt := top 79
abbrev w_pen : Stmt := top 81
abbrev w_draw : Stmt := top 82
abbrev w_pick : Stmt := top 83
abbrev w_takes : Stmt := top 84
abbrev w_plain : Stmt := top 85
abbrev w_table : Stmt := top 86
abbrev w_places : Stmt := top 87
abbrev w_follows : Stmt := top 88
abbrev w_trip_text : Stmt := top 89
abbrev w_sorted : Stmt := top 90
abbrev w_table_text : Stmt := top 91
abbrev w_pauses_text : Stmt := top 92
abbrev w_plan_text : Stmt := top 93
abbrev w_pauses : Stmt := top 94
abbrev w_thing : Stmt := top 95
abbrev w_right : Stmt := top 96
abbrev w_part : Stmt := top 97
abbrev d_law : Stmt := top 98
theorem sc_is_integer : FnScope ["value"] ["value"] (defScope d_is_integer) := ⟨rfl, rfl, rfl, by decide +kernel, rfl, by decide +kernel, by decide +kernel⟩
theorem sc_is_between : FnScope ["value", "low", "high"] ["value", "low", "high"] (defScope d_is_between) := ⟨rfl, rfl, rfl, by decide +kernel, rfl, by decide +kernel, by decide +kernel⟩
theorem sc_is_number : FnScope ["value"] ["value"] (defScope d_is_number) := ⟨rfl, rfl, rfl, by decide +kernel, rfl, by decide +kernel, by decide +kernel⟩
theorem sc_is_name : FnScope ["value", "sign"] ["value"] (defScope d_is_name) := ⟨rfl, rfl, rfl, by decide +kernel, rfl, by decide +kernel, by decide +kernel⟩
theorem sc_is_row : FnScope ["value"] ["value"] (defScope d_is_row) := ⟨rfl, rfl, rfl, by decide +kernel, rfl, by decide +kernel, by decide +kernel⟩
theorem sc_number_in : FnScope ["word", "least", "most", "sign", "found"] ["word", "least", "most"] (defScope d_number_in) := ⟨rfl, rfl, rfl, by decide +kernel, rfl, by decide +kernel, by decide +kernel⟩
theorem sc_DayInit : FnScope ["self", "length"] ["self", "length"] (defScope m_DayInit) := ⟨rfl, rfl, rfl, by decide +kernel, rfl, by decide +kernel, by decide +kernel⟩
theorem sc_DayEq : FnScope ["self", "other"] ["self", "other"] (defScope m_DayEq) := ⟨rfl, rfl, rfl, by decide +kernel, rfl, by decide +kernel, by decide +kernel⟩
theorem sc_DayStr : FnScope ["self"] ["self"] (defScope m_DayStr) := ⟨rfl, rfl, rfl, by decide +kernel, rfl, by decide +kernel, by decide +kernel⟩
theorem sc_WordsInit : FnScope ["self", "line", "text"] ["self", "line", "text"] (defScope m_WordsInit) := ⟨rfl, rfl, rfl, by decide +kernel, rfl, by decide +kernel, by decide +kernel⟩
theorem sc_WordsNext_word : FnScope ["self"] ["self"] (defScope m_WordsNext_word) := ⟨rfl, rfl, rfl, by decide +kernel, rfl, by decide +kernel, by decide +kernel⟩
theorem sc_WordsTake_word : FnScope ["self", "choices", "word"] ["self", "choices"] (defScope m_WordsTake_word) := ⟨rfl, rfl, rfl, by decide +kernel, rfl, by decide +kernel, by decide +kernel⟩
theorem sc_WordsTake_name : FnScope ["self", "above", "word"] ["self", "above"] (defScope m_WordsTake_name) := ⟨rfl, rfl, rfl, by decide +kernel, rfl, by decide +kernel, by decide +kernel⟩
theorem sc_WordsTake_number : FnScope ["self", "least", "most", "word", "found"] ["self", "least", "most"] (defScope m_WordsTake_number) := ⟨rfl, rfl, rfl, by decide +kernel, rfl, by decide +kernel, by decide +kernel⟩
theorem sc_WordsTake_end : FnScope ["self"] ["self"] (defScope m_WordsTake_end) := ⟨rfl, rfl, rfl, by decide +kernel, rfl, by decide +kernel, by decide +kernel⟩
theorem sc_TripInit : FnScope ["self", "name", "start", "leaves", "takes", "goal"] ["self", "name", "start", "leaves", "takes", "goal"] (defScope m_TripInit) := ⟨rfl, rfl, rfl, by decide +kernel, rfl, by decide +kernel, by decide +kernel⟩
theorem sc_TripAdd : FnScope ["self", "k"] ["self", "k"] (defScope m_TripAdd) := ⟨rfl, rfl, rfl, by decide +kernel, rfl, by decide +kernel, by decide +kernel⟩
theorem sc_TripEq : FnScope ["self", "other"] ["self", "other"] (defScope m_TripEq) := ⟨rfl, rfl, rfl, by decide +kernel, rfl, by decide +kernel, by decide +kernel⟩
theorem sc_TripStr : FnScope ["self"] ["self"] (defScope m_TripStr) := ⟨rfl, rfl, rfl, by decide +kernel, rfl, by decide +kernel, by decide +kernel⟩
theorem sc_RunTimed : FnScope ["self", "leaves", "takes"] ["self", "leaves", "takes"] (defScope m_RunTimed) := ⟨rfl, rfl, rfl, by decide +kernel, rfl, by decide +kernel, by decide +kernel⟩
theorem sc_RunStr : FnScope ["self"] ["self"] (defScope m_RunStr) := ⟨rfl, rfl, rfl, by decide +kernel, rfl, by decide +kernel, by decide +kernel⟩
theorem sc_StayTimed : FnScope ["self", "leaves", "takes"] ["self", "leaves", "takes"] (defScope m_StayTimed) := ⟨rfl, rfl, rfl, by decide +kernel, rfl, by decide +kernel, by decide +kernel⟩
theorem sc_need_all_trips : FnScope ["values", "at", "value"] ["values"] (defScope d_need_all_trips) := ⟨rfl, rfl, rfl, by decide +kernel, rfl, by decide +kernel, by decide +kernel⟩
theorem sc_places_of : FnScope ["trips", "trip", "place"] ["trips"] (defScope d_places_of) := ⟨rfl, rfl, rfl, by decide +kernel, rfl, by decide +kernel, by decide +kernel⟩
theorem sc_need_few : FnScope ["day", "trips", "trip", "late"] ["day", "trips"] (defScope d_need_few) := ⟨rfl, rfl, rfl, by decide +kernel, rfl, by decide +kernel, by decide +kernel⟩
theorem sc_unbalanced : FnScope ["trips", "place", "trip", "ends"] ["trips"] (defScope d_unbalanced) := ⟨rfl, rfl, rfl, by decide +kernel, rfl, by decide +kernel, by decide +kernel⟩
theorem sc_TableInit : FnScope ["self", "day", "trips", "by_name", "trip", "name", "names", "twice", "place"] ["self", "day", "trips"] (defScope m_TableInit) := ⟨rfl, rfl, rfl, by decide +kernel, rfl, by decide +kernel, by decide +kernel⟩
theorem sc_TableOf : FnScope ["day", "trips"] ["day", "trips"] (defScope m_TableOf) := ⟨rfl, rfl, rfl, by decide +kernel, rfl, by decide +kernel, by decide +kernel⟩
theorem sc_TableGetitem : FnScope ["self", "name"] ["self", "name"] (defScope m_TableGetitem) := ⟨rfl, rfl, rfl, by decide +kernel, rfl, by decide +kernel, by decide +kernel⟩
theorem sc_TableContains : FnScope ["self", "x"] ["self", "x"] (defScope m_TableContains) := ⟨rfl, rfl, rfl, by decide +kernel, rfl, by decide +kernel, by decide +kernel⟩
theorem sc_TableIter : FnScope ["self"] ["self"] (defScope m_TableIter) := ⟨rfl, rfl, rfl, by decide +kernel, rfl, by decide +kernel, by decide +kernel⟩
theorem sc_TableLen : FnScope ["self"] ["self"] (defScope m_TableLen) := ⟨rfl, rfl, rfl, by decide +kernel, rfl, by decide +kernel, by decide +kernel⟩
theorem sc_TableEq : FnScope ["self", "other"] ["self", "other"] (defScope m_TableEq) := ⟨rfl, rfl, rfl, by decide +kernel, rfl, by decide +kernel, by decide +kernel⟩
theorem sc_need_names_alone : FnScope ["places", "key"] ["places"] (defScope d_need_names_alone) := ⟨rfl, rfl, rfl, by decide +kernel, rfl, by decide +kernel, by decide +kernel⟩
theorem sc_PausesInit : FnScope ["this_one", "places", "found", "place"] ["this_one", "places"] (defScope m_PausesInit) := ⟨rfl, rfl, rfl, by decide +kernel, rfl, by decide +kernel, by decide +kernel⟩
theorem sc_PausesOf : FnScope ["places"] ["places"] (defScope m_PausesOf) := ⟨rfl, rfl, rfl, by decide +kernel, rfl, by decide +kernel, by decide +kernel⟩
theorem sc_PausesPut : FnScope ["self", "place", "number"] ["self", "place", "number"] (defScope m_PausesPut) := ⟨rfl, rfl, rfl, by decide +kernel, rfl, by decide +kernel, by decide +kernel⟩
theorem sc_PausesGetitem : FnScope ["self", "place"] ["self", "place"] (defScope m_PausesGetitem) := ⟨rfl, rfl, rfl, by decide +kernel, rfl, by decide +kernel, by decide +kernel⟩
theorem sc_PausesIter : FnScope ["self"] ["self"] (defScope m_PausesIter) := ⟨rfl, rfl, rfl, by decide +kernel, rfl, by decide +kernel, by decide +kernel⟩
theorem sc_PausesEq : FnScope ["self", "other"] ["self", "other"] (defScope m_PausesEq) := ⟨rfl, rfl, rfl, by decide +kernel, rfl, by decide +kernel, by decide +kernel⟩
theorem sc_need_table : FnScope ["table"] ["table"] (defScope d_need_table) := ⟨rfl, rfl, rfl, by decide +kernel, rfl, by decide +kernel, by decide +kernel⟩
theorem sc_needed_pauses : FnScope ["pauses"] ["pauses"] (defScope d_needed_pauses) := ⟨rfl, rfl, rfl, by decide +kernel, rfl, by decide +kernel, by decide +kernel⟩
theorem sc_is_order : FnScope ["table", "follows", "told", "name"] ["table", "follows"] (defScope d_is_order) := ⟨rfl, rfl, rfl, by decide +kernel, rfl, by decide +kernel, by decide +kernel⟩
theorem sc_turns_of : FnScope ["follows", "found", "seen", "one", "name", "turn", "here"] ["follows"] (defScope d_turns_of) := ⟨rfl, rfl, rfl, by decide +kernel, rfl, by decide +kernel, by decide +kernel⟩
theorem sc_PlanInit : FnScope ["self", "table", "pauses", "follows", "name"] ["self", "table", "pauses", "follows"] (defScope m_PlanInit) := ⟨rfl, rfl, rfl, by decide +kernel, rfl, by decide +kernel, by decide +kernel⟩
theorem sc_PlanFollows : FnScope ["self", "name"] ["self"] (defScope m_PlanFollows) := ⟨rfl, rfl, rfl, by decide +kernel, rfl, by decide +kernel, by decide +kernel⟩
theorem sc_PlanEq : FnScope ["self", "other"] ["self", "other"] (defScope m_PlanEq) := ⟨rfl, rfl, rfl, by decide +kernel, rfl, by decide +kernel, by decide +kernel⟩
theorem sc_write_table : FnScope ["table", "trip"] ["table"] (defScope d_write_table) := ⟨rfl, rfl, rfl, by decide +kernel, rfl, by decide +kernel, by decide +kernel⟩
theorem sc_write_pauses : FnScope ["pauses", "told", "place"] ["pauses"] (defScope d_write_pauses) := ⟨rfl, rfl, rfl, by decide +kernel, rfl, by decide +kernel, by decide +kernel⟩
theorem sc_write_plan : FnScope ["plan", "follows", "name", "rows"] ["plan"] (defScope d_write_plan) := ⟨rfl, rfl, rfl, by decide +kernel, rfl, by decide +kernel, by decide +kernel⟩
theorem sc_lines_of : FnScope ["text"] ["text"] (defScope d_lines_of) := ⟨rfl, rfl, rfl, by decide +kernel, rfl, by decide +kernel, by decide +kernel⟩
theorem sc_take_run : FnScope ["words", "name", "length", "start", "leaves", "takes"] ["words", "name", "length"] (defScope d_take_run) := ⟨rfl, rfl, rfl, by decide +kernel, rfl, by decide +kernel, by decide +kernel⟩
theorem sc_take_stay : FnScope ["words", "name", "length", "place", "leaves"] ["words", "name", "length"] (defScope d_take_stay) := ⟨rfl, rfl, rfl, by decide +kernel, rfl, by decide +kernel, by decide +kernel⟩
theorem sc_take_trip : FnScope ["words", "length", "above", "word", "name", "found"] ["words", "length", "above"] (defScope d_take_trip) := ⟨rfl, rfl, rfl, by decide +kernel, rfl, by decide +kernel, by decide +kernel⟩
theorem sc_take_length : FnScope ["words", "length"] ["words"] (defScope d_take_length) := ⟨rfl, rfl, rfl, by decide +kernel, rfl, by decide +kernel, by decide +kernel⟩
theorem sc_trips_told : FnScope ["lines", "after", "length", "found", "at", "words"] ["lines", "after"] (defScope d_trips_told) := ⟨rfl, rfl, rfl, by decide +kernel, rfl, by decide +kernel, by decide +kernel⟩
theorem sc_numbers_told : FnScope ["at", "line", "words", "found", "above"] ["at", "line"] (defScope d_numbers_told) := ⟨rfl, rfl, rfl, by decide +kernel, rfl, by decide +kernel, by decide +kernel⟩
theorem sc_read_table : FnScope ["text", "lines", "length", "trips"] ["text"] (defScope d_read_table) := ⟨rfl, rfl, rfl, by decide +kernel, rfl, by decide +kernel, by decide +kernel⟩
theorem sc_read_pauses : FnScope ["text"] ["text"] (defScope d_read_pauses) := ⟨rfl, rfl, rfl, by decide +kernel, rfl, by decide +kernel, by decide +kernel⟩
theorem sc_pauses_line : FnScope ["lines", "at", "line"] ["lines"] (defScope d_pauses_line) := ⟨rfl, rfl, rfl, by decide +kernel, rfl, by decide +kernel, by decide +kernel⟩
theorem sc_follows_told : FnScope ["lines", "begin", "names", "found", "at", "name", "words"] ["lines", "begin", "names"] (defScope d_follows_told) := ⟨rfl, rfl, rfl, by decide +kernel, rfl, by decide +kernel, by decide +kernel⟩
theorem sc_read_plan : FnScope ["text", "lines", "spot", "length", "trips", "numbers", "trip", "follows"] ["text"] (defScope d_read_plan) := ⟨rfl, rfl, rfl, by decide +kernel, rfl, by decide +kernel, by decide +kernel⟩
theorem sc_pen : FnScope ["_law_script"] ["_law_script"] (defScope w_pen) := ⟨rfl, rfl, rfl, by decide +kernel, rfl, by decide +kernel, by decide +kernel⟩
theorem sc_draw : FnScope ["_law_pen_here", "_law_many", "_law_digit", "_law_spot", "_law_cell", "_law_great", "_law_blent"] ["_law_pen_here", "_law_many"] (defScope w_draw) := ⟨rfl, rfl, rfl, by decide +kernel, rfl, by decide +kernel, by decide +kernel⟩
theorem sc_pick : FnScope ["_law_pen_here", "_law_some"] ["_law_pen_here", "_law_some"] (defScope w_pick) := ⟨rfl, rfl, rfl, by decide +kernel, rfl, by decide +kernel, by decide +kernel⟩
theorem sc_takes : FnScope ["_law_pen_here", "_law_size"] ["_law_pen_here", "_law_size"] (defScope w_takes) := ⟨rfl, rfl, rfl, by decide +kernel, rfl, by decide +kernel, by decide +kernel⟩
theorem sc_plain : FnScope ["_law_pen_here", "_law_sizes", "_law_rings", "_law_size", "_law_left", "_law_places_here", "_law_trips", "_law_ring", "_law_spot", "_law_row", "_law_at", "_law_name", "_law_here"] ["_law_pen_here", "_law_sizes", "_law_rings"] (defScope w_plain) := ⟨rfl, rfl, rfl, by decide +kernel, rfl, by decide +kernel, by decide +kernel⟩
theorem sc_table : FnScope ["_law_plain_here", "_law_found", "_law_name", "_law_is_run", "_law_start", "_law_leaves", "_law_takes_here", "_law_goal"] ["_law_plain_here"] (defScope w_table) := ⟨rfl, rfl, rfl, by decide +kernel, rfl, by decide +kernel, by decide +kernel⟩
theorem sc_places : FnScope ["_law_plain_here", "_law_trip"] ["_law_plain_here"] (defScope w_places) := ⟨rfl, rfl, rfl, by decide +kernel, rfl, by decide +kernel, by decide +kernel⟩
theorem sc_follows : FnScope ["_law_pen_here", "_law_plain_here", "_law_found", "_law_place", "_law_trip", "_law_goes"] ["_law_pen_here", "_law_plain_here"] (defScope w_follows) := ⟨rfl, rfl, rfl, by decide +kernel, rfl, by decide +kernel, by decide +kernel⟩
theorem sc_trip_text : FnScope ["_law_trip", "_law_name", "_law_is_run", "_law_start", "_law_leaves", "_law_takes_here", "_law_goal", "_law_words"] ["_law_trip"] (defScope w_trip_text) := ⟨rfl, rfl, rfl, by decide +kernel, rfl, by decide +kernel, by decide +kernel⟩
theorem sc_sorted : FnScope ["_law_plain_here", "_law_trip", "_law_names", "_law_name"] ["_law_plain_here"] (defScope w_sorted) := ⟨rfl, rfl, rfl, by decide +kernel, rfl, by decide +kernel, by decide +kernel⟩
theorem sc_table_text : FnScope ["_law_plain_here", "_law_trip"] ["_law_plain_here"] (defScope w_table_text) := ⟨rfl, rfl, rfl, by decide +kernel, rfl, by decide +kernel, by decide +kernel⟩
theorem sc_pauses_text : FnScope ["_law_waits", "_law_words", "_law_place"] ["_law_waits"] (defScope w_pauses_text) := ⟨rfl, rfl, rfl, by decide +kernel, rfl, by decide +kernel, by decide +kernel⟩
theorem sc_plan_text : FnScope ["_law_plain_here", "_law_waits", "_law_follows_here", "_law_name", "_law_rows"] ["_law_plain_here", "_law_waits", "_law_follows_here"] (defScope w_plan_text) := ⟨rfl, rfl, rfl, by decide +kernel, rfl, by decide +kernel, by decide +kernel⟩
theorem sc_pauses : FnScope ["_law_pen_here", "_law_plain_here", "_law_found", "_law_place"] ["_law_pen_here", "_law_plain_here"] (defScope w_pauses) := ⟨rfl, rfl, rfl, by decide +kernel, rfl, by decide +kernel, by decide +kernel⟩
theorem sc_thing : FnScope ["_law_pen_here", "_law_plain_here", "_law_trip"] ["_law_pen_here"] (defScope w_thing) := ⟨rfl, rfl, rfl, by decide +kernel, rfl, by decide +kernel, by decide +kernel⟩
theorem sc_right : FnScope ["_law_thing_here", "_law_plain_here", "_law_waits", "_law_follows_here", "_law_chart", "_law_told", "_law_course", "_law_texts", "_law_found"] ["_law_thing_here"] (defScope w_right) := ⟨rfl, rfl, rfl, by decide +kernel, rfl, by decide +kernel, by decide +kernel⟩
theorem sc_part : FnScope ["_law_ask"] ["_law_ask"] (defScope w_part) := ⟨rfl, rfl, rfl, by decide +kernel, rfl, by decide +kernel, by decide +kernel⟩
theorem sc_law : FnScope ["_law_script", "_law_pen_here", "_law_turn", "_law_one", "_law_other", "_law_here", "_law_there", "_law_odd", "_law_heard"] ["_law_script"] (defScope d_law) := ⟨rfl, rfl, rfl, by decide +kernel, rfl, by decide +kernel, by decide +kernel⟩
end N1
/-! what the head tells: FX -/
namespace N1
open PySem L2
abbrev ga := He.ga
abbrev ma := He.ma
def glL0 : List Str := ["is_integer", "is_between", "is_number", "is_name", "is_row", "number_in", "need_all_trips", "places_of", "need_few", "unbalanced", "need_names_alone", "need_table", "needed_pauses", "is_order", "turns_of", "write_table", "write_pauses", "write_plan", "lines_of", "take_run", "take_stay", "take_trip", "take_length", "trips_told", "numbers_told", "read_table", "read_pauses", "pauses_line", "follows_told", "read_plan"]
def glL1 : List Str := ["_law_pen", "_law_draw", "_law_pick", "_law_takes", "_law_plain", "_law_table", "_law_places", "_law_follows", "_law_trip_text", "_law_sorted", "_law_table_text", "_law_pauses_text", "_law_plan_text", "_law_pauses", "_law_thing", "_law_right", "_law_part", "law", "Day", "Words", "Trip", "Run", "Stay", "Table", "Pauses", "Plan", "TurnError", "BadAsk"]
def glL : List Str := glL0 ++ glL1
def frL0 : List Str := ["isinstance", "int", "bool", "str", "len", "all", "abs", "list", "tuple", "dict", "sorted", "set", "enumerate", "min", "range", "super", "iter"]
def frL : List Str := frL0
def inL : List (Str × Int) := [("MOST_NUMBER", 1000000000000), ("MOST_LENGTH", 1000000000000), ("MOST_TRIPS_tables", 40), ("MOST_PLACES", 8), ("MOST", 1000000000000), ("MOST_TRIPS_reader", 40)]
def clL : List Str := ["Day", "Words", "Run", "Stay", "Table", "Pauses", "Plan"]
def naL0 : List (Str × Str) := [("Day", "length"), ("Run", "name"), ("Run", "start"), ("Run", "leaves"), ("Run", "takes"), ("Run", "goal"), ("Stay", "name"), ("Stay", "start"), ("Stay", "leaves"), ("Stay", "takes"), ("Stay", "goal"), ("Table", "day"), ("Table", "names"), ("Table", "places"), ("Table", "rows"), ("Pauses", "numbers"), ("Pauses", "rows"), ("Words", "line"), ("Words", "words"), ("Words", "spot"), ("Plan", "table"), ("Plan", "pauses"), ("Plan", "own_follows"), ("Plan", "own_turns")]
def naL : List (Str × Str) := naL0
def meL0 : List (Str × Str) := [("Day", "__eq__"), ("Day", "__str__"), ("Run", "timed"), ("Run", "__add__"), ("Run", "__eq__"), ("Run", "__str__"), ("Stay", "timed"), ("Stay", "__add__"), ("Stay", "__eq__"), ("Stay", "__str__"), ("Table", "__getitem__"), ("Table", "__contains__"), ("Table", "__iter__"), ("Table", "__len__"), ("Table", "__eq__"), ("Pauses", "put"), ("Pauses", "__getitem__"), ("Pauses", "__iter__"), ("Pauses", "__eq__"), ("Words", "next_word"), ("Words", "take_word"), ("Words", "take_name"), ("Words", "take_number"), ("Words", "take_end"), ("Plan", "__eq__")]
def meL : List (Str × Str) := meL0
def mkL : List Str := ["Day", "Words", "Run", "Stay", "Table", "Pauses", "Plan"]
/-- the def st stands at f -/
def IsDef (K : PySem.W.Frag) (f : Addr) (x qual : Str) (st : Stmt) (dvs : List V) : Prop := ∃ fd, FunD K x qual (defArgs st) (defBody st) (defScope st) dvs [] f fd
/-- the static method's record and def -/
abbrev st_ (K : PySem.W.Frag) (C m : Str) : Addr := He5.wf K (ga K C) "staticmethod" m
/-- a property's record, its getter -/
def pr_ (K : PySem.W.Frag) (C m : Str) : Addr := match PySem.W.recIn K (ma K (ga K C) m) "property" with
  | some (.ref g :: _) => g
  | _ => 0
/-- the cell of __class__ of the def at f, its code -/
def cel (K : PySem.W.Frag) (f : Addr) : Addr := match K.lookup f with
  | some ⟨_, _, .func fd, _⟩ => (match fd.closure with
    | (_, c) :: _ => c
    | _ => 0)
  | _ => 0
def cod (K : PySem.W.Frag) (f : Addr) : Addr := match K.lookup f with
  | some ⟨_, _, .func fd, _⟩ => (match fd.code with
    | .ref c => c
    | _ => 0)
  | _ => 0
/-- the table of code objects of the def at f -/
def tblK (K : PySem.W.Frag) (f : Addr) : Addr := match K.lookup (cod K f) with
  | some ⟨_, _, .fields vs, _⟩ => (match (vs[11]? : Option Value) with
    | some (.ref P) => P
    | _ => 0)
  | _ => 0
abbrev ini (K : PySem.W.Frag) (C : Str) : Addr := ma K (ga K C) "__init__"
end N1
set_option maxHeartbeats 0
namespace N1
open PySem PySem.Spec PyProof.Rows L2 He
abbrev PR : Program := (PySem.Challenge.rw_onelongturn_k90_texts_written_and_read).prog
def refF (g : Addr → Option Obj) (a : Addr) : List Addr := match g a with
  | some o => refsD o
  | none => []
def lev (g : Addr → Option Obj) : Nat → List Addr → List Addr
  | 0, _ => []
  | n + 1, l => l ++ lev g n (l.flatMap (refF g))
def rootL : List Str := glL0 ++ glL1
def rootsB (g : Addr → Option Obj) : List Addr := rootL.map fun x => ga (frG g [mainGlobals]) x
def asF (g : Addr → Option Obj) : List Addr := mainGlobals :: cStatics :: lev g 5 (rootsB g)
def lawT (g : Addr → Option Obj) : Addr := match g (ga (frG g [mainGlobals]) "law") with
  | some ⟨_, _, .func fd, _⟩ => (match fd.code with
    | .ref c => (match g c with
      | some ⟨_, _, .fields vs, _⟩ => (match (vs[11]? : Option Value) with
        | some (.ref P) => P
        | _ => 0)
      | _ => 0)
    | _ => 0)
  | _ => 0
def asB (g : Addr → Option Obj) : List Addr := (asF g).filter fun a => !(a == lawT g)
def eqB (a b : Option Bool) : Bool := decide (a = b)
def eqV1 (a b : Option Value) : Bool := decide (a = b)
def isiB (K : PySem.W.Frag) (C D : Addr) : Bool := eqO (PySem.W.findIn K (.ref C) "__class__") (some (some (.builtin "object.__class__"))) && (eqB (PySem.W.mroIn K C (.type "object")) (some true) && eqB (PySem.W.kitOne K (.ref C) (.ref D)) (some true))
def conB (K : PySem.W.Frag) (C : Addr) (f z : Str) : Bool := (match PySem.W.findIn K (.ref C) f with
  | some (some (.str y t)) => decide (y = z) && eqO (PySem.W.specialIn K (.str y t) "__get__") (some none)
  | _ => false) && !PySem.W.copiedNames.contains f
def neB (K : PySem.W.Frag) (x : Str) : Bool := eqO (PySem.W.findIn K (.ref (ga K x)) "__ne__") (some (some (.builtin "object.__ne__"))) && eqB (PySem.W.subIn K (.ref (ga K x)) (.type "object")) (some true)
def strB (K : PySem.W.Frag) (C : Str) : Bool := eqO (PySem.W.findIn K (.ref (ga K C)) "__str__") (some (some (.ref (ma K (ga K C) "__str__")))) && (PySem.W.isFn K (.ref (ma K (ga K C) "__str__")) && (eqO (PySem.W.findIn K (.ref (ga K C)) "__format__") (some (some (.builtin "object.__format__"))) && eqB (PySem.W.mroIn K (ga K C) (.type "object")) (some true)))
def crB (K : PySem.W.Frag) (C : Addr) : Bool := PySem.W.readsIn K C (.type "type") && eqO (PySem.W.specialIn K (.ref C) "__getattribute__") (some (some (.builtin "type.__getattribute__")))
def staB (K : PySem.W.Frag) (C : Addr) (m : Str) : Bool := He5.wrapB K C "staticmethod" "staticmethod.__get__" m && PySem.W.keepIn K (.ref (He5.wf K C "staticmethod" m))
def proB (K : PySem.W.Frag) (C m : Str) : Bool := eqO (PySem.W.findIn K (.ref (ga K C)) m) (some (some (.ref (ma K (ga K C) m)))) && (eqO (PySem.W.specialIn K (.ref (ma K (ga K C) m)) "__get__") (some (some (.builtin "property.__get__"))) && (eqB (PySem.W.takesIn K (.ref (ma K (ga K C) m))) (some true) &&
  (match PySem.W.recIn K (ma K (ga K C) m) "property" with
  | some (.ref _ :: _) => true
  | _ => false)))
def fnS (K : PySem.W.Frag) (a : Addr) : FnW := match K.lookup a with
  | some ⟨_, _, .func fd, _⟩ => some (fd.name, fd.qualname, fd.params, fd.body, fd.scope, fd.globals, fd.closure.map (fun q => (q.1, 0)), fd.builtins)
  | _ => none
def supV (name qual : Str) (params : Arguments) (body : List Stmt) (scope : Scope) : FnW := some (name, qual, params, .stmts body, scope, mainGlobals, [("__class__", 0)], builtinsNs)
def fileB (K : PySem.W.Frag) (c : Addr) (z : Str) : Bool := match K.lookup c with
  | some ⟨_, _, .fields vs, _⟩ => (match (vs[2]? : Option Value) with
    | some (Value.str file _) => z == file
    | _ => false)
  | _ => false
def cellB (K : PySem.W.Frag) (c D : Addr) : Bool := match K.lookup c with
  | some ⟨_, _, .cell (some (.ref D')), _⟩ => decide (D' = D)
  | _ => false
def supB (K : PySem.W.Frag) (f D : Addr) (qual file : Str) : Bool := (match K.lookup f with
  | some ⟨_, _, .func fd, _⟩ => (match fd.defaults with
    | .none => true
    | _ => false) && (match fd.code with
    | .ref c => PySem.W.codeIn K (.ref c) qual && fileB K c file
    | _ => false) && (match fd.closure with
    | [(_, c)] => cellB K c D
    | _ => false)
  | _ => false) && (PySem.W.keepIn K (.ref f) && (PySem.W.clsIn K D).isSome)
def oexB (K : PySem.W.Frag) (C : Addr) : Bool := (match K.lookup C with
  | some ⟨.type "type", _, .cls cd, sl⟩ => (match cd.mro, sl.toList with
    | .ref C' :: bm, [_, _, _, _, some (.builtin n), _] => C' == C && n == "ValueError.__new__" && !cd.hasDel && cd.hasDict && PySem.HandSPX.refsVE bm
    | _, _ => false)
  | _ => false) && (eqO (PySem.W.findIn K (.ref C) "__setattr__") (some (some (.builtin "object.__setattr__"))) && (eqB (PySem.W.subIn K (.ref C) (.type "BaseException")) (some true) && (eqV1 (PySem.W.typeIn K (.ref C)) (some (.type "type")) && PySem.W.keepIn K (.ref C))))
def b_glo (K : PySem.W.Frag) : Bool := glL.all fun x => (Fa.glo x).ok K && PySem.W.keepIn K (.ref (ga K x))
def b_fre (K : PySem.W.Frag) : Bool := frL.all fun x => (Fa.free x).ok K
def b_int (K : PySem.W.Frag) : Bool := inL.all fun q => (Fa.int q.1 q.2).ok K
def b_let (K : PySem.W.Frag) : Bool := (Fa.str "LETTERS" "abcdefghijklmnopqrstuvwxyz").ok K
def b_cls (K : PySem.W.Frag) : Bool := clL.all fun x => (Fa.cls x).ok K
def b_noa (K : PySem.W.Frag) : Bool := naL.all fun q => (Fa.noat q.1 q.2).ok K
def b_met (K : PySem.W.Frag) : Bool := meL.all fun q => (Fa.meth q.1 q.2).ok K
def b_mkr (K : PySem.W.Frag) : Bool := mkL.all fun x => (Fa.mkr x).ok K
def b_gcn (K : PySem.W.Frag) : Bool := eqO (PySem.W.specialIn K (.builtin "object.__class__") "__get__") (some (some (.builtin "getset_descriptor.__get__"))) && eqB (PySem.W.takesIn K (.builtin "object.__class__")) (some true)
def b_isR (K : PySem.W.Frag) : Bool := isiB K (ga K "Run") (ga K "Trip")
def b_isS (K : PySem.W.Frag) : Bool := isiB K (ga K "Stay") (ga K "Trip")
def b_isD (K : PySem.W.Frag) : Bool := isiB K (ga K "Day") (ga K "Day")
def b_isT (K : PySem.W.Frag) : Bool := isiB K (ga K "Table") (ga K "Table")
def b_isP (K : PySem.W.Frag) : Bool := isiB K (ga K "Pauses") (ga K "Pauses")
def b_isL (K : PySem.W.Frag) : Bool := isiB K (ga K "Plan") (ga K "Plan")
def b_stD (K : PySem.W.Frag) : Bool := strB K "Day"
def b_stR (K : PySem.W.Frag) : Bool := strB K "Run"
def b_stS (K : PySem.W.Frag) : Bool := strB K "Stay"
def b_stE (K : PySem.W.Frag) : Bool := decide (ma K (ga K "Stay") "__str__" = ma K (ga K "Trip") "__str__")
def b_cdL (K : PySem.W.Frag) : Bool := PySem.W.codeHdIn K (cod K (ga K "law")) (tblK K (ga K "law"))
def b_nTb (K : PySem.W.Frag) : Bool := (K.lookup (tblK K (ga K "law"))).isNone && decide (mainGlobals ≠ tblK K (ga K "law"))
def b_kTP (K : PySem.W.Frag) : Bool := eqB (PySem.W.kitOne K (.ref (ga K "Table")) (.ref (ga K "Plan"))) (some false) && eqB (PySem.W.kitOne K (.ref (ga K "Table")) (.ref (ga K "Pauses"))) (some false)
def b_kDx (K : PySem.W.Frag) : Bool := (["Table", "Pauses", "Plan"] : List Str).all fun x => eqB (PySem.W.kitOne K (.ref (ga K "Day")) (.ref (ga K x))) (some false)
def b_kBx (K : PySem.W.Frag) : Bool := (["int", "bool", "str", "list", "dict", "tuple", "NoneType"] : List String).all fun p => (["Table", "Pauses", "Plan"] : List Str).all fun x => eqB (PySem.W.kitOne K (.type p) (.ref (ga K x))) (some false)
def b_nfR (K : PySem.W.Frag) : Bool := eqB (PySem.W.subIn K (.ref (ga K "Stay")) (.ref (ga K "Run"))) (some false) && eqB (PySem.W.subIn K (.ref (ga K "Run")) (.ref (ga K "Stay"))) (some false)
def b_woR (K : PySem.W.Frag) : Bool := conB K (ga K "Run") "WORD" "run"
def b_woS (K : PySem.W.Frag) : Bool := conB K (ga K "Stay") "WORD" "stay"
def b_neq (K : PySem.W.Frag) : Bool := (["Day", "Run", "Stay", "Table", "Pauses", "Plan"] : List Str).all fun x => neB K x
def b_sfR (K : PySem.W.Frag) : Bool := PySem.W.selfFirst K (ga K "Run") && eqO (PySem.W.findIn K (.ref (ga K "Run")) "__radd__") (some none)
def b_sfS (K : PySem.W.Frag) : Bool := PySem.W.selfFirst K (ga K "Stay") && eqO (PySem.W.findIn K (.ref (ga K "Stay")) "__radd__") (some none)
def b_nsq (K : PySem.W.Frag) : Bool := PySem.W.fnIn K (ma K (ga K "Table") "__getitem__") && PySem.W.fnIn K (ma K (ga K "Pauses") "__getitem__")
def b_iad (K : PySem.W.Frag) : Bool := (PySem.W.findIn K (.type "int") "__add__").isSome
def b_ira (K : PySem.W.Frag) : Bool := (PySem.W.findIn K (.type "int") "__radd__").isSome
def b_isu (K : PySem.W.Frag) : Bool := (["Run", "Stay"] : List Str).all fun x => eqB (PySem.W.subIn K (.type "int") (.ref (ga K x))) (some false)
def b_crT (K : PySem.W.Frag) : Bool := crB K (ga K "Table")
def b_crP (K : PySem.W.Frag) : Bool := crB K (ga K "Pauses")
def b_stT (K : PySem.W.Frag) : Bool := staB K (ga K "Table") "of"
def b_stP (K : PySem.W.Frag) : Bool := staB K (ga K "Pauses") "of"
def b_prF (K : PySem.W.Frag) : Bool := proB K "Plan" "follows"
def b_opq (K : PySem.W.Frag) : Bool := eqO (PySem.W.nsIn K cStatics "thirdparty.any") (some none)
def b_suR (K : PySem.W.Frag) : Bool := supB K (ini K "Run") (ga K "Run") "Run.__init__" PR.main.file
def b_suS (K : PySem.W.Frag) : Bool := supB K (ini K "Stay") (ga K "Stay") "Stay.__init__" PR.main.file
def b_suA (K : PySem.W.Frag) : Bool := supB K (ini K "BadAsk") (ga K "BadAsk") "BadAsk.__init__" PR.main.file
def b_siR (K : PySem.W.Frag) : Bool := eqO (PySem.W.ks_superIn K (ga K "Run") (ga K "Run") "__init__") (some (some (.ref (ini K "Trip")))) && (eqB (PySem.W.mroIn K (ga K "Run") (.ref (ga K "Run"))) (some true) && (PySem.W.clsIn K (ga K "Run")).isSome)
def b_siS (K : PySem.W.Frag) : Bool := eqO (PySem.W.ks_superIn K (ga K "Stay") (ga K "Stay") "__init__") (some (some (.ref (ini K "Trip")))) && (eqB (PySem.W.mroIn K (ga K "Stay") (.ref (ga K "Stay"))) (some true) && (PySem.W.clsIn K (ga K "Stay")).isSome)
def b_siA (K : PySem.W.Frag) : Bool := eqO (PySem.W.ks_superIn K (ga K "BadAsk") (ga K "BadAsk") "__init__") (some (some (.builtin "ValueError.__init__"))) && (eqB (PySem.W.mroIn K (ga K "BadAsk") (.ref (ga K "BadAsk"))) (some true) && eqB (PySem.W.mroIn K (ga K "BadAsk") (.type "ValueError")) (some true))
def b_fnT (K : PySem.W.Frag) : Bool := eqV1 (PySem.W.typeIn K (.ref (ini K "Trip"))) (some (.type "function")) && PySem.W.fnIn K (ini K "Trip")
def b_oex (K : PySem.W.Frag) : Bool := oexB K (ga K "BadAsk")
def b_oeI (K : PySem.W.Frag) : Bool := eqO (PySem.W.findIn K (.ref (ga K "BadAsk")) "__init__") (some (some (.ref (ini K "BadAsk")))) && eqV1 (PySem.W.typeIn K (.ref (ini K "BadAsk"))) (some (.type "function"))
def b_oeN (K : PySem.W.Frag) : Bool := eqO (PySem.W.findIn K (.ref (ga K "BadAsk")) "part") (some none)
def b_tmE (K : PySem.W.Frag) : Bool := (["Run", "Stay"] : List Str).all fun x => decide (ma K (ga K x) "__eq__" = ma K (ga K "Trip") "__eq__") && decide (ma K (ga K x) "__add__" = ma K (ga K "Trip") "__add__")
def b_exm (K : PySem.W.Frag) : Bool := eqB (PySem.W.exmOne K (.ref (ga K "BadAsk")) (.ref (ga K "BadAsk"))) (some true)
def b_xfA (K : PySem.W.Frag) : Bool := xfB K (ga K "BadAsk")
def fxB : List (PySem.W.Frag → Bool) := [b_glo, b_fre, b_int, b_let, b_cls, b_noa, b_met, b_mkr, b_gcn, b_isR, b_isS, b_isD, b_isT, b_isP, b_isL, b_stD, b_stR, b_stS, b_stE, b_cdL, b_nTb, b_kTP, b_kDx, b_kBx, b_nfR] ++ [b_woR, b_woS, b_neq, b_sfR, b_sfS, b_nsq, b_iad, b_ira, b_isu, b_crT, b_crP, b_stT, b_stP, b_prF, b_opq, b_suR, b_suS, b_suA, b_siR, b_siS, b_siA, b_fnT, b_oex, b_oeI, b_oeN, b_tmE, b_exm, b_xfA]
def e_is_integer : He5.DefA := { at_ := fun K => ga K "is_integer", name := "is_integer", qual := "is_integer", params := defArgs d_is_integer, body := defBody d_is_integer, scope := defScope d_is_integer }
def e_is_between : He5.DefA := { at_ := fun K => ga K "is_between", name := "is_between", qual := "is_between", params := defArgs d_is_between, body := defBody d_is_between, scope := defScope d_is_between }
def e_is_number : He5.DefA := { at_ := fun K => ga K "is_number", name := "is_number", qual := "is_number", params := defArgs d_is_number, body := defBody d_is_number, scope := defScope d_is_number }
def e_is_name : He5.DefA := { at_ := fun K => ga K "is_name", name := "is_name", qual := "is_name", params := defArgs d_is_name, body := defBody d_is_name, scope := defScope d_is_name }
def e_is_row : He5.DefA := { at_ := fun K => ga K "is_row", name := "is_row", qual := "is_row", params := defArgs d_is_row, body := defBody d_is_row, scope := defScope d_is_row }
def e_number_in : He5.DefA := { at_ := fun K => ga K "number_in", name := "number_in", qual := "number_in", params := defArgs d_number_in, body := defBody d_number_in, scope := defScope d_number_in }
def e_DayInit : He5.DefA := { at_ := fun K => ma K (ga K "Day") "__init__", name := "__init__", qual := "Day.__init__", params := defArgs m_DayInit, body := defBody m_DayInit, scope := defScope m_DayInit }
def e_DayEq : He5.DefA := { at_ := fun K => ma K (ga K "Day") "__eq__", name := "__eq__", qual := "Day.__eq__", params := defArgs m_DayEq, body := defBody m_DayEq, scope := defScope m_DayEq }
def e_DayStr : He5.DefA := { at_ := fun K => ma K (ga K "Day") "__str__", name := "__str__", qual := "Day.__str__", params := defArgs m_DayStr, body := defBody m_DayStr, scope := defScope m_DayStr }
def e_WordsInit : He5.DefA := { at_ := fun K => ma K (ga K "Words") "__init__", name := "__init__", qual := "Words.__init__", params := defArgs m_WordsInit, body := defBody m_WordsInit, scope := defScope m_WordsInit }
def e_WordsNext_word : He5.DefA := { at_ := fun K => ma K (ga K "Words") "next_word", name := "next_word", qual := "Words.next_word", params := defArgs m_WordsNext_word, body := defBody m_WordsNext_word, scope := defScope m_WordsNext_word }
def e_WordsTake_word : He5.DefA := { at_ := fun K => ma K (ga K "Words") "take_word", name := "take_word", qual := "Words.take_word", params := defArgs m_WordsTake_word, body := defBody m_WordsTake_word, scope := defScope m_WordsTake_word }
def e_WordsTake_name : He5.DefA := { at_ := fun K => ma K (ga K "Words") "take_name", name := "take_name", qual := "Words.take_name", params := defArgs m_WordsTake_name, body := defBody m_WordsTake_name, scope := defScope m_WordsTake_name, dfl := [.str Str.empty] }
def e_WordsTake_number : He5.DefA := { at_ := fun K => ma K (ga K "Words") "take_number", name := "take_number", qual := "Words.take_number", params := defArgs m_WordsTake_number, body := defBody m_WordsTake_number, scope := defScope m_WordsTake_number }
def e_WordsTake_end : He5.DefA := { at_ := fun K => ma K (ga K "Words") "take_end", name := "take_end", qual := "Words.take_end", params := defArgs m_WordsTake_end, body := defBody m_WordsTake_end, scope := defScope m_WordsTake_end }
def e_TripInit : He5.DefA := { at_ := fun K => ma K (ga K "Trip") "__init__", name := "__init__", qual := "Trip.__init__", params := defArgs m_TripInit, body := defBody m_TripInit, scope := defScope m_TripInit }
def e_TripAdd : He5.DefA := { at_ := fun K => ma K (ga K "Trip") "__add__", name := "__add__", qual := "Trip.__add__", params := defArgs m_TripAdd, body := defBody m_TripAdd, scope := defScope m_TripAdd }
def e_TripEq : He5.DefA := { at_ := fun K => ma K (ga K "Trip") "__eq__", name := "__eq__", qual := "Trip.__eq__", params := defArgs m_TripEq, body := defBody m_TripEq, scope := defScope m_TripEq }
def e_TripStr : He5.DefA := { at_ := fun K => ma K (ga K "Trip") "__str__", name := "__str__", qual := "Trip.__str__", params := defArgs m_TripStr, body := defBody m_TripStr, scope := defScope m_TripStr }
def e_RunTimed : He5.DefA := { at_ := fun K => ma K (ga K "Run") "timed", name := "timed", qual := "Run.timed", params := defArgs m_RunTimed, body := defBody m_RunTimed, scope := defScope m_RunTimed }
def e_RunStr : He5.DefA := { at_ := fun K => ma K (ga K "Run") "__str__", name := "__str__", qual := "Run.__str__", params := defArgs m_RunStr, body := defBody m_RunStr, scope := defScope m_RunStr }
def e_StayTimed : He5.DefA := { at_ := fun K => ma K (ga K "Stay") "timed", name := "timed", qual := "Stay.timed", params := defArgs m_StayTimed, body := defBody m_StayTimed, scope := defScope m_StayTimed }
def e_need_all_trips : He5.DefA := { at_ := fun K => ga K "need_all_trips", name := "need_all_trips", qual := "need_all_trips", params := defArgs d_need_all_trips, body := defBody d_need_all_trips, scope := defScope d_need_all_trips }
def e_places_of : He5.DefA := { at_ := fun K => ga K "places_of", name := "places_of", qual := "places_of", params := defArgs d_places_of, body := defBody d_places_of, scope := defScope d_places_of }
def e_need_few : He5.DefA := { at_ := fun K => ga K "need_few", name := "need_few", qual := "need_few", params := defArgs d_need_few, body := defBody d_need_few, scope := defScope d_need_few }
def e_unbalanced : He5.DefA := { at_ := fun K => ga K "unbalanced", name := "unbalanced", qual := "unbalanced", params := defArgs d_unbalanced, body := defBody d_unbalanced, scope := defScope d_unbalanced }
def e_TableInit : He5.DefA := { at_ := fun K => ma K (ga K "Table") "__init__", name := "__init__", qual := "Table.__init__", params := defArgs m_TableInit, body := defBody m_TableInit, scope := defScope m_TableInit }
def e_TableOf : He5.DefA := { at_ := fun K => st_ K "Table" "of", name := "of", qual := "Table.of", params := defArgs m_TableOf, body := defBody m_TableOf, scope := defScope m_TableOf }
def e_TableGetitem : He5.DefA := { at_ := fun K => ma K (ga K "Table") "__getitem__", name := "__getitem__", qual := "Table.__getitem__", params := defArgs m_TableGetitem, body := defBody m_TableGetitem, scope := defScope m_TableGetitem }
def e_TableContains : He5.DefA := { at_ := fun K => ma K (ga K "Table") "__contains__", name := "__contains__", qual := "Table.__contains__", params := defArgs m_TableContains, body := defBody m_TableContains, scope := defScope m_TableContains }
def e_TableIter : He5.DefA := { at_ := fun K => ma K (ga K "Table") "__iter__", name := "__iter__", qual := "Table.__iter__", params := defArgs m_TableIter, body := defBody m_TableIter, scope := defScope m_TableIter }
def e_TableLen : He5.DefA := { at_ := fun K => ma K (ga K "Table") "__len__", name := "__len__", qual := "Table.__len__", params := defArgs m_TableLen, body := defBody m_TableLen, scope := defScope m_TableLen }
def e_TableEq : He5.DefA := { at_ := fun K => ma K (ga K "Table") "__eq__", name := "__eq__", qual := "Table.__eq__", params := defArgs m_TableEq, body := defBody m_TableEq, scope := defScope m_TableEq }
def e_need_names_alone : He5.DefA := { at_ := fun K => ga K "need_names_alone", name := "need_names_alone", qual := "need_names_alone", params := defArgs d_need_names_alone, body := defBody d_need_names_alone, scope := defScope d_need_names_alone }
def e_PausesInit : He5.DefA := { at_ := fun K => ma K (ga K "Pauses") "__init__", name := "__init__", qual := "Pauses.__init__", params := defArgs m_PausesInit, body := defBody m_PausesInit, scope := defScope m_PausesInit }
def e_PausesOf : He5.DefA := { at_ := fun K => st_ K "Pauses" "of", name := "of", qual := "Pauses.of", params := defArgs m_PausesOf, body := defBody m_PausesOf, scope := defScope m_PausesOf }
def e_PausesPut : He5.DefA := { at_ := fun K => ma K (ga K "Pauses") "put", name := "put", qual := "Pauses.put", params := defArgs m_PausesPut, body := defBody m_PausesPut, scope := defScope m_PausesPut }
def e_PausesGetitem : He5.DefA := { at_ := fun K => ma K (ga K "Pauses") "__getitem__", name := "__getitem__", qual := "Pauses.__getitem__", params := defArgs m_PausesGetitem, body := defBody m_PausesGetitem, scope := defScope m_PausesGetitem }
def e_PausesIter : He5.DefA := { at_ := fun K => ma K (ga K "Pauses") "__iter__", name := "__iter__", qual := "Pauses.__iter__", params := defArgs m_PausesIter, body := defBody m_PausesIter, scope := defScope m_PausesIter }
def e_PausesEq : He5.DefA := { at_ := fun K => ma K (ga K "Pauses") "__eq__", name := "__eq__", qual := "Pauses.__eq__", params := defArgs m_PausesEq, body := defBody m_PausesEq, scope := defScope m_PausesEq }
def e_need_table : He5.DefA := { at_ := fun K => ga K "need_table", name := "need_table", qual := "need_table", params := defArgs d_need_table, body := defBody d_need_table, scope := defScope d_need_table }
def e_needed_pauses : He5.DefA := { at_ := fun K => ga K "needed_pauses", name := "needed_pauses", qual := "needed_pauses", params := defArgs d_needed_pauses, body := defBody d_needed_pauses, scope := defScope d_needed_pauses }
def e_is_order : He5.DefA := { at_ := fun K => ga K "is_order", name := "is_order", qual := "is_order", params := defArgs d_is_order, body := defBody d_is_order, scope := defScope d_is_order }
def e_turns_of : He5.DefA := { at_ := fun K => ga K "turns_of", name := "turns_of", qual := "turns_of", params := defArgs d_turns_of, body := defBody d_turns_of, scope := defScope d_turns_of }
def e_PlanInit : He5.DefA := { at_ := fun K => ma K (ga K "Plan") "__init__", name := "__init__", qual := "Plan.__init__", params := defArgs m_PlanInit, body := defBody m_PlanInit, scope := defScope m_PlanInit }
def e_PlanFollows : He5.DefA := { at_ := fun K => pr_ K "Plan" "follows", name := "follows", qual := "Plan.follows", params := defArgs m_PlanFollows, body := defBody m_PlanFollows, scope := defScope m_PlanFollows }
def e_PlanEq : He5.DefA := { at_ := fun K => ma K (ga K "Plan") "__eq__", name := "__eq__", qual := "Plan.__eq__", params := defArgs m_PlanEq, body := defBody m_PlanEq, scope := defScope m_PlanEq }
def e_write_table : He5.DefA := { at_ := fun K => ga K "write_table", name := "write_table", qual := "write_table", params := defArgs d_write_table, body := defBody d_write_table, scope := defScope d_write_table }
def e_write_pauses : He5.DefA := { at_ := fun K => ga K "write_pauses", name := "write_pauses", qual := "write_pauses", params := defArgs d_write_pauses, body := defBody d_write_pauses, scope := defScope d_write_pauses }
def e_write_plan : He5.DefA := { at_ := fun K => ga K "write_plan", name := "write_plan", qual := "write_plan", params := defArgs d_write_plan, body := defBody d_write_plan, scope := defScope d_write_plan }
def e_lines_of : He5.DefA := { at_ := fun K => ga K "lines_of", name := "lines_of", qual := "lines_of", params := defArgs d_lines_of, body := defBody d_lines_of, scope := defScope d_lines_of }
def e_take_run : He5.DefA := { at_ := fun K => ga K "take_run", name := "take_run", qual := "take_run", params := defArgs d_take_run, body := defBody d_take_run, scope := defScope d_take_run }
def e_take_stay : He5.DefA := { at_ := fun K => ga K "take_stay", name := "take_stay", qual := "take_stay", params := defArgs d_take_stay, body := defBody d_take_stay, scope := defScope d_take_stay }
def e_take_trip : He5.DefA := { at_ := fun K => ga K "take_trip", name := "take_trip", qual := "take_trip", params := defArgs d_take_trip, body := defBody d_take_trip, scope := defScope d_take_trip }
def e_take_length : He5.DefA := { at_ := fun K => ga K "take_length", name := "take_length", qual := "take_length", params := defArgs d_take_length, body := defBody d_take_length, scope := defScope d_take_length }
def e_trips_told : He5.DefA := { at_ := fun K => ga K "trips_told", name := "trips_told", qual := "trips_told", params := defArgs d_trips_told, body := defBody d_trips_told, scope := defScope d_trips_told }
def e_numbers_told : He5.DefA := { at_ := fun K => ga K "numbers_told", name := "numbers_told", qual := "numbers_told", params := defArgs d_numbers_told, body := defBody d_numbers_told, scope := defScope d_numbers_told }
def e_read_table : He5.DefA := { at_ := fun K => ga K "read_table", name := "read_table", qual := "read_table", params := defArgs d_read_table, body := defBody d_read_table, scope := defScope d_read_table }
def e_read_pauses : He5.DefA := { at_ := fun K => ga K "read_pauses", name := "read_pauses", qual := "read_pauses", params := defArgs d_read_pauses, body := defBody d_read_pauses, scope := defScope d_read_pauses }
def e_pauses_line : He5.DefA := { at_ := fun K => ga K "pauses_line", name := "pauses_line", qual := "pauses_line", params := defArgs d_pauses_line, body := defBody d_pauses_line, scope := defScope d_pauses_line }
def e_follows_told : He5.DefA := { at_ := fun K => ga K "follows_told", name := "follows_told", qual := "follows_told", params := defArgs d_follows_told, body := defBody d_follows_told, scope := defScope d_follows_told }
def e_read_plan : He5.DefA := { at_ := fun K => ga K "read_plan", name := "read_plan", qual := "read_plan", params := defArgs d_read_plan, body := defBody d_read_plan, scope := defScope d_read_plan }
def e_w_pen : He5.DefA := { at_ := fun K => ga K "_law_pen", name := "_law_pen", qual := "_law_pen", params := defArgs w_pen, body := defBody w_pen, scope := defScope w_pen }
def e_w_draw : He5.DefA := { at_ := fun K => ga K "_law_draw", name := "_law_draw", qual := "_law_draw", params := defArgs w_draw, body := defBody w_draw, scope := defScope w_draw }
def e_w_pick : He5.DefA := { at_ := fun K => ga K "_law_pick", name := "_law_pick", qual := "_law_pick", params := defArgs w_pick, body := defBody w_pick, scope := defScope w_pick }
def e_w_takes : He5.DefA := { at_ := fun K => ga K "_law_takes", name := "_law_takes", qual := "_law_takes", params := defArgs w_takes, body := defBody w_takes, scope := defScope w_takes }
def e_w_plain : He5.DefA := { at_ := fun K => ga K "_law_plain", name := "_law_plain", qual := "_law_plain", params := defArgs w_plain, body := defBody w_plain, scope := defScope w_plain }
def e_w_table : He5.DefA := { at_ := fun K => ga K "_law_table", name := "_law_table", qual := "_law_table", params := defArgs w_table, body := defBody w_table, scope := defScope w_table }
def e_w_places : He5.DefA := { at_ := fun K => ga K "_law_places", name := "_law_places", qual := "_law_places", params := defArgs w_places, body := defBody w_places, scope := defScope w_places }
def e_w_follows : He5.DefA := { at_ := fun K => ga K "_law_follows", name := "_law_follows", qual := "_law_follows", params := defArgs w_follows, body := defBody w_follows, scope := defScope w_follows }
def e_w_trip_text : He5.DefA := { at_ := fun K => ga K "_law_trip_text", name := "_law_trip_text", qual := "_law_trip_text", params := defArgs w_trip_text, body := defBody w_trip_text, scope := defScope w_trip_text }
def e_w_sorted : He5.DefA := { at_ := fun K => ga K "_law_sorted", name := "_law_sorted", qual := "_law_sorted", params := defArgs w_sorted, body := defBody w_sorted, scope := defScope w_sorted }
def e_w_table_text : He5.DefA := { at_ := fun K => ga K "_law_table_text", name := "_law_table_text", qual := "_law_table_text", params := defArgs w_table_text, body := defBody w_table_text, scope := defScope w_table_text }
def e_w_pauses_text : He5.DefA := { at_ := fun K => ga K "_law_pauses_text", name := "_law_pauses_text", qual := "_law_pauses_text", params := defArgs w_pauses_text, body := defBody w_pauses_text, scope := defScope w_pauses_text }
def e_w_plan_text : He5.DefA := { at_ := fun K => ga K "_law_plan_text", name := "_law_plan_text", qual := "_law_plan_text", params := defArgs w_plan_text, body := defBody w_plan_text, scope := defScope w_plan_text }
def e_w_pauses : He5.DefA := { at_ := fun K => ga K "_law_pauses", name := "_law_pauses", qual := "_law_pauses", params := defArgs w_pauses, body := defBody w_pauses, scope := defScope w_pauses }
def e_w_thing : He5.DefA := { at_ := fun K => ga K "_law_thing", name := "_law_thing", qual := "_law_thing", params := defArgs w_thing, body := defBody w_thing, scope := defScope w_thing }
def e_w_right : He5.DefA := { at_ := fun K => ga K "_law_right", name := "_law_right", qual := "_law_right", params := defArgs w_right, body := defBody w_right, scope := defScope w_right }
def e_w_part : He5.DefA := { at_ := fun K => ga K "_law_part", name := "_law_part", qual := "_law_part", params := defArgs w_part, body := defBody w_part, scope := defScope w_part }
def e_law : He5.DefA := { at_ := fun K => ga K "law", name := "law", qual := "law", params := defArgs d_law, body := defBody d_law, scope := defScope d_law }
def fnL0 : List He5.DefA := [e_is_integer, e_is_between, e_is_number, e_is_name, e_is_row, e_number_in, e_DayInit, e_DayEq, e_DayStr, e_WordsInit, e_WordsNext_word, e_WordsTake_word, e_WordsTake_name, e_WordsTake_number, e_WordsTake_end, e_TripInit, e_TripAdd, e_TripEq, e_TripStr, e_RunTimed]
def fnL1 : List He5.DefA := [e_RunStr, e_StayTimed, e_need_all_trips, e_places_of, e_need_few, e_unbalanced, e_TableInit, e_TableOf, e_TableGetitem, e_TableContains, e_TableIter, e_TableLen, e_TableEq, e_need_names_alone, e_PausesInit, e_PausesOf, e_PausesPut, e_PausesGetitem, e_PausesIter, e_PausesEq]
def fnL2 : List He5.DefA := [e_need_table, e_needed_pauses, e_is_order, e_turns_of, e_PlanInit, e_PlanFollows, e_PlanEq, e_write_table, e_write_pauses, e_write_plan, e_lines_of, e_take_run, e_take_stay, e_take_trip, e_take_length, e_trips_told, e_numbers_told, e_read_table, e_read_pauses, e_pauses_line]
def fnL3 : List He5.DefA := [e_follows_told, e_read_plan, e_w_pen, e_w_draw, e_w_pick, e_w_takes, e_w_plain, e_w_table, e_w_places, e_w_follows, e_w_trip_text, e_w_sorted, e_w_table_text, e_w_pauses_text, e_w_plan_text, e_w_pauses, e_w_thing, e_w_right, e_w_part, e_law]
def fnL : List He5.DefA := fnL0 ++ fnL1 ++ fnL2 ++ fnL3
def suA : List (PySem.W.Frag → Addr) := [fun K => ini K "Run", fun K => ini K "Stay", fun K => ini K "BadAsk"]
def suV : List FnW := [supV "__init__" "Run.__init__" (defArgs m_RunInit) (defBody m_RunInit) (defScope m_RunInit), supV "__init__" "Stay.__init__" (defArgs m_StayInit) (defBody m_StayInit) (defScope m_StayInit), supV "__init__" "BadAsk.__init__" (defArgs m_BadAskInit) (defBody m_BadAskInit) (defScope m_BadAskInit)]
def obsB (K : PySem.W.Frag) : AlD := (fxB.all (fun b => b K) && fnL.all (fun d => d.ok K), fnL.map (fun d => He5.fnA K (d.at_ K)) ++ suA.map fun a => fnS K (a K))
def valB : AlD := (true, fnL.map He5.DefA.val ++ suV)
def obsBG (g : Addr → Option Obj) : AlD := obsB (frG g (asB g))
def hookB : PySem.W.Hook where
  α := AlD
  obs := fun s => obsBG s.heap.get?
  val := fun _ => valB
  says := fun _ h => ∃ K : PySem.W.Frag, K.In h ∧ obsB K = valB
  of := fun _ _ e => ⟨_, frG_in, e⟩
  keeps := fun _ _ _ ⟨K, hK, c⟩ k => ⟨K, PySem.W.Frag.In.keeps hK k, c⟩
end N1
set_option maxHeartbeats 0
/-! the top's run: the Hook in parts -/
namespace N1
open PySem PySem.Spec PyProof.Rows L2
abbrev RW : PySem.W.OpenRow := PySem.W.OpenLaw.row PySem.Challenge.rw_onelongturn_k90_texts_written_and_read
def lo0 : List Str := ["_wall", "__name__", "MOST_NUMBER", "LETTERS", "is_integer", "is_between", "is_number", "is_moment", "is_name", "is_row", "number_in", "TurnError", "BadInput", "Refused", "BadDay", "BadName", "BadNumber", "BadTrip", "BadTable", "BadPauses"]
def lo1 : List Str := ["BadPlan", "BadAsk", "BadText", "NoTrip", "Twice", "OutOfDay", "Unbalanced", "Unlike", "TooMany", "MOST_LENGTH", "long_by", "Day", "Words", "Trip", "Paused", "Run", "Stay", "trip_in", "in_order", "MOST_TRIPS_tables"]
def lo2 : List Str := ["MOST_PLACES", "need_all_trips", "places_of", "need_few", "unbalanced", "Table", "need_names_alone", "Pauses", "need_table", "needed_pauses", "need_name", "is_order", "turns_of", "Plan", "write_table", "write_pauses", "write_plan", "MOST", "MOST_TRIPS_reader", "lines_of"]
def lo3 : List Str := ["take_run", "take_stay", "take_trip", "take_length", "trips_told", "numbers_told", "read_table", "read_pauses", "pauses_line", "follows_told", "read_plan", "_law_pen", "_law_draw", "_law_pick", "_law_takes", "_law_plain", "_law_table", "_law_places", "_law_follows", "_law_trip_text"]
def lo4 : List Str := ["_law_sorted", "_law_table_text", "_law_pauses_text", "_law_plan_text", "_law_pauses", "_law_thing", "_law_right", "_law_part"]
def loose : List Str := lo0 ++ (lo1 ++ (lo2 ++ (lo3 ++ (lo4))))
def hookO {α : Type} (f : (Addr → Option Obj) → α) (v : α) : PySem.W.Hook where
  α := α
  obs := fun s => f s.heap.get?
  val := fun _ => v
  says := fun _ _ => True
  of := fun _ _ _ => trivial
  keeps := fun _ _ _ _ _ => trivial
def f1 (g : Addr → Option Obj) : Bool := (fun K => fxB.all fun b => b K) (He.frG g (asB g))
def f2 (g : Addr → Option Obj) : Bool := (fun K => fnL.all fun d => d.ok K) (He.frG g (asB g))
def f3 (g : Addr → Option Obj) : List He.FnW := (fun K => fnL.map (fun d => He5.fnA K (d.at_ K)) ++ suA.map fun a => fnS K (a K)) (He.frG g (asB g))
def v3 : List He.FnW := fnL.map He5.DefA.val ++ suV
abbrev Run {α : Type} (f : (Addr → Option Obj) → α) (v : α) (w : World) : Prop := HandSHeadRun.RunEq RW (PySem.W.view RW.prog [98]) (hookO f v) (fun s => f (HandSHeadRun.getT s)) 30000 loose w
end N1
set_option maxHeartbeats 0
namespace N1
open PySem PySem.Spec PyProof.Rows L2
theorem run1 (w : World) : Run f1 true w := by
  intro os
  kernel_rfl
end N1
set_option maxHeartbeats 0
namespace N1
open PySem PySem.Spec PyProof.Rows L2
theorem run2 (w : World) : Run f2 true w := by
  intro os
  kernel_rfl
end N1
set_option maxHeartbeats 0
namespace N1
open PySem PySem.Spec PyProof.Rows L2
theorem run3 (w : World) : Run f3 v3 w := by
  intro os
  kernel_rfl
end N1
set_option maxHeartbeats 2000000
/-! own special methods over the layer: in, [], []=, +, +=, -=, len, iter -/
namespace N1
open PySem PySem.Spec PyProof.Rows L2
/-- an instance of C stands at a -/
def InsAt (H : Hp) (a C : Addr) : Prop := ∃ dx fs, H a = some (.ins C dx fs)
theorem insAt_of {H : Hp} {a C dx : Addr} {fs : List (Str × V)} (h : H a = some (.ins C dx fs)) : InsAt H a C := ⟨dx, fs, h⟩
section
variable {X : Cx} {pins : List (Addr × Obj)} {σ : L2.St} {H : Hp} {s : Shared} {CX : CXT} {k : Nat} {f C a : Addr} {sp : Sp} {E : XK}
theorem insAt_at (I : Inv X pins σ H s) (h : InsAt H a C) : ∃ ox od, PySem.W.InstAt s.heap a ox C od ∧ ox.data = .plain := by
  obtain ⟨dx, fs, h⟩ := h
  obtain ⟨mA, O, _⟩ := ins_get I.hok h
  obtain ⟨od, J, _⟩ := O.look
  exact ⟨_, _, J, rfl⟩
theorem call_R {Q : VK} {us : List Value} {vs : List V} (F : FnR X.prog X.w X.K X.mg X.base CX k f sp) (hr : Room k X.A) (hx : Passes CX X E) (I : Inv X pins σ H s) (r : Vals vs us) (h : sp vs H Q E) :
    wpAny (model X.prog X.w) X.A (call (.ref f) us) (EP X pins σ Q) X.xe s := wpAny_call (run_fnR F hr hx I r h)
/-- v in o, v not in o, o an instance with __contains__ -/
def rOwnIn (C : Addr) (sp : Sp) (E : XK) (neg : Bool) : R2 := fun x y H Q => ∃ a, y = .ref a ∧ InsAt H a C ∧ sp [y, x] H (fun v H' => ∃ b, v = .bl b ∧ Q (.bl (if neg then !b else b)) H') E
theorem or_ownIn (M : Meth X.K C "__contains__" f) (F : FnR X.prog X.w X.K X.mg X.base CX k f sp) (hr : Room k X.A) (hx : Passes CX X E) : OpR X (compareOp .In) (rOwnIn C sp E false) := by
  intro pins s σ H x y v u Q I rx ry h
  obtain ⟨a, rfl, hi, h⟩ := h
  obtain rfl : u = Value.ref a := ry
  obtain ⟨m, Fr⟩ := I.fr
  obtain ⟨ox, od, J, hd⟩ := insAt_at I hi
  refine PySem.W.in_K Fr I.mod.kin J M.at_ M.fn (thn (call_R F hr hx I (.cons (show RelV (.ref a) (.ref a) from rfl) (.cons rx .nil)) h) ?_)
  rintro r s' ⟨v', H', I', rv, b, rfl, q⟩
  obtain rfl : r = Value.bool b := rv
  exact wpAny_pure ⟨.bl _, H', I', rfl, q⟩
theorem or_ownNotIn (M : Meth X.K C "__contains__" f) (F : FnR X.prog X.w X.K X.mg X.base CX k f sp) (hr : Room k X.A) (hx : Passes CX X E) : OpR X (compareOp .NotIn) (rOwnIn C sp E true) := by
  intro pins s σ H x y v u Q I rx ry h
  obtain ⟨a, rfl, hi, h⟩ := h
  obtain rfl : u = Value.ref a := ry
  obtain ⟨m, Fr⟩ := I.fr
  obtain ⟨ox, od, J, hd⟩ := insAt_at I hi
  refine PySem.W.notIn_K Fr I.mod.kin J M.at_ M.fn (thn (call_R F hr hx I (.cons (show RelV (.ref a) (.ref a) from rfl) (.cons rx .nil)) h) ?_)
  rintro r s' ⟨v', H', I', rv, b, rfl, q⟩
  obtain rfl : r = Value.bool b := rv
  exact wpAny_pure ⟨.bl _, H', I', rfl, q⟩
/-- o[i] = v by an own __setitem__ -/
def rOwnSet (C : Addr) (sp : Sp) (E : XK) : TSet := fun o i v H Q => ∃ a, o = .ref a ∧ InsAt H a C ∧ sp [o, i, v] H (fun _ H' => Q H') E
theorem set_own (hq : PySem.W.noSeq X.K C = true) (M : Meth X.K C "__setitem__" f) (F : FnR X.prog X.w X.K X.mg X.base CX k f sp) (hr : Room k X.A) (hx : Passes CX X E) : PSet X (rOwnSet C sp E) := by
  intro pins s σ H o i v ov iv u Q I ro ri rv h
  obtain ⟨a, rfl, hi, h⟩ := h
  obtain rfl : ov = Value.ref a := ro
  obtain ⟨m, Fr⟩ := I.fr
  obtain ⟨ox, od, J, hd⟩ := insAt_at I hi
  refine PySem.W.ksp_setItem Fr I.mod.kin J hq M.at_ M.fn (thn (call_R F hr hx I (.cons (show RelV (.ref a) (.ref a) from rfl) (.cons ri (.cons rv .nil))) h) ?_)
  rintro r s' ⟨v', H', I', rv', q⟩
  exact ⟨H', I', q⟩
/-- o op= v by an own __iadd__ .. -/
def rOwnIp (C : Addr) (sp : Sp) (E : XK) : TIp := fun x y H Q => ∃ a, x = .ref a ∧ InsAt H a C ∧ sp [x, y] H (fun v H' => (∃ b, v = .ref b) ∧ Q v H') E
theorem ip_own {op : Operator} (hc : PySem.W.selfFirst X.K C = true) (hs : PySem.W.findIn X.K (.ref C) (PySem.dunderI op.info.2) = some (some (.ref f))) (hf : PySem.W.isFn X.K (.ref f) = true)
    (F : FnR X.prog X.w X.K X.mg X.base CX k f sp) (hr : Room k X.A) (hx : Passes CX X E) : PIp X op (rOwnIp C sp E) := by
  intro pins s σ H x y v u Q I rx ry h
  obtain ⟨a, rfl, hi, h⟩ := h
  obtain rfl : v = Value.ref a := rx
  obtain ⟨m, Fr⟩ := I.fr
  obtain ⟨ox, od, J, hd⟩ := insAt_at I hi
  refine PySem.W.ksp_inplace Fr I.mod.kin J hc hs hf (thn (call_R F hr hx I (.cons (show RelV (.ref a) (.ref a) from rfl) (.cons ry .nil)) h) ?_)
  rintro r s' ⟨v', H', I', rv', ⟨b, rfl⟩, q⟩
  obtain rfl : r = Value.ref b := rv'
  exact ⟨.ref b, H', I', rfl, q⟩
/-- o + n, n an int, by an own __add__ that hands back an object -/
def rOwnBin (C : Addr) (sp : Sp) (E : XK) : R2 := fun x y H Q => ∃ a n, x = .ref a ∧ y = .int n ∧ InsAt H a C ∧ sp [x, y] H (fun v H' => (∃ b, v = .ref b) ∧ Q v H') E
theorem op_ownI {op : Operator} {fo ro rc : Option Value} (hc : PySem.W.selfFirst X.K C = true) (hs : PySem.W.findIn X.K (.ref C) (PySem.dunder op.info.2) = some (some (.ref f))) (hf : PySem.W.isFn X.K (.ref f) = true)
    (hrr : PySem.W.findIn X.K (.ref C) (dunderR op.info.2) = some rc) (hp : rc = none ∨ ∃ g : Addr, rc = some (.ref g))
    (h1 : PySem.W.findIn X.K (.type "int") (PySem.dunder op.info.2) = some fo) (h2 : PySem.W.findIn X.K (.type "int") (dunderR op.info.2) = some ro) (hsub : PySem.W.subIn X.K (.type "int") (.ref C) = some false)
    (F : FnR X.prog X.w X.K X.mg X.base CX k f sp) (hr : Room k X.A) (hx : Passes CX X E) : OpR X (binaryOp op) (rOwnBin C sp E) := by
  intro pins s σ H x y v u Q I rx ry h
  obtain ⟨a, n, rfl, rfl, hi, h⟩ := h
  obtain rfl : v = Value.ref a := rx
  obtain ⟨m, Fr⟩ := I.fr
  obtain ⟨ox, od, J, hd⟩ := insAt_at I hi
  obtain ⟨t, rfl⟩ := id ry
  refine PySem.W.ksp_binT (T := "int") Fr I.mod.kin J rfl hc hs hf hrr hp h1 h2 hsub (thn (call_R F hr hx I (.cons (show RelV (.ref a) (.ref a) from rfl) (.cons ry .nil)) h) ?_)
  rintro r s' ⟨v', H', I', rv', ⟨b, rfl⟩, q⟩
  obtain rfl : r = Value.ref b := rv'
  exact ⟨.ref b, H', I', rfl, q⟩
/-- a promise run where the call stands deeper -/
theorem run_at {A' : Around} {Q : VK} {us : List Value} {vs : List V} (F : FnR X.prog X.w X.K X.mg X.base CX k f sp) (hr : Room k A') (e0 : Env0 X.prog X.w X.K X.mg X.base A' X.stack s H) (hx : Passes CX X E) (I : Inv X pins σ H s) (r : Vals vs us) (h : sp vs H Q E) :
    wpAny (model X.prog X.w) A' (call (.ref f) us) (EP X pins σ Q) X.xe s := by
  refine wpAny_call (codeAny_mono (F A' X.stack s H us vs Q E hr e0 r h) fun r s' hq => ?_)
  cases r with
  | error e => exact hx pins σ H s e s' I hq
  | ok fl =>
    cases fl with
    | ret u => exact I.after hq
    | next => exact False.elim hq
    | brk => exact False.elim hq
    | cont => exact False.elim hq
/-- len(o) by an own __len__ -/
def rOwnLen (C : Addr) (sp : Sp) (E : XK) : List V → Hp → VK → Prop := fun xs H Q => ∃ a, xs = [.ref a] ∧ InsAt H a C ∧ sp xs H (fun v H' => ∃ n : Int, v = .int n ∧ 0 ≤ n ∧ n < 2 ^ 63 ∧ Q (.int n) H') E
theorem call_ownLen (M : Meth X.K C "__len__" f) (F : FnR X.prog X.w X.K X.mg X.base CX k f sp) (hr : Room (k + 1) X.A) (hx : Passes CX X E) : CallR X (.builtin "len") (rOwnLen C sp E) := by
  intro pins s σ H xs us Q I r h
  obtain ⟨a, rfl, hi, h⟩ := h
  obtain ⟨u, rfl, ru⟩ := r.one
  obtain rfl : u = Value.ref a := ru
  obtain ⟨m, Fr⟩ := I.fr
  obtain ⟨ox, od, J, hd⟩ := insAt_at I hi
  refine PySem.W.len_K Fr I.mod.kin J M.at_ M.fn (thn (run_at F hr.in1 I.env0.in1 hx I (.cons (show RelV (.ref a) (.ref a) from rfl) .nil) h) ?_)
  rintro r s' ⟨v', H', I', rv, n, rfl, h0, h1, q⟩
  obtain ⟨t, rfl⟩ := rv
  exact ⟨⟨h0, h1⟩, .int n, H', I'.tok _, ⟨_, rfl⟩, q⟩
/-- o[i] by an own __getitem__ -/
def rOwnIx (C : Addr) (sp : Sp) (E : XK) : R2 := fun x y H Q => ∃ a, x = .ref a ∧ InsAt H a C ∧ sp [x, y] H Q E
theorem pe_ixO {a b : Expr} {ta tb : TE} {pos : Pos} (M : Meth X.K C "__getitem__" f) (hfn : PySem.W.fnIn X.K f = true) (F : FnR X.prog X.w X.K X.mg X.base CX k f sp) (hr : Room (k + 1) X.A) (hx : Passes CX X E)
    (ha : PE X a ta) (hb : PE X b tb) (hs : ∀ o i, subscripted b true o i = runValue (.builtin "lifetime.subscript" ⟨[o, i], []⟩) := by intro _ _; with_unfolding_all rfl) : PE X (.Subscript a b pos) (tOp (rOwnIx C sp E) ta tb) := by
  refine ⟨fun pins s σ H Q I h => ?_⟩
  refine Subscript_ (binT ha hb I h fun v u s2 x y H2 I2 rx ry q => ?_)
  obtain ⟨a, rfl, hi, q⟩ := q
  obtain rfl : v = Value.ref a := rx
  obtain ⟨m, Fr⟩ := I2.fr
  obtain ⟨ox, od, J, hd⟩ := insAt_at I2 hi
  exact PySem.W.sub_K Fr I2.mod.kin J M.at_ hfn M.fn (run_at F hr.in1 I2.env0.in1 hx I2 (.cons (show RelV (.ref a) (.ref a) from rfl) (.cons ry .nil)) q) (hs _ _)
end
end N1
set_option maxHeartbeats 2000000
/-! != of instances whose class has an own __eq__ and object's __ne__ -/
namespace N1
open PySem PySem.Spec PyProof.Rows L2
section
variable {prog : Program} {w : World} {A : Around} {E : Value → Shared → Prop} {s : Shared} {K : PySem.W.Frag} {x y C L f : Addr} {h₀ : Heap} {m : Str → Option Value} {ox oy : Obj} {od od' : Option Obj}
theorem ifBoundB {M : Model} {self : Value} {name : PySem.Str} {id : String} {args : List Value} {Q : Option Value → Shared → Prop} (sp : PySem.W.Looks M s.heap (specialOf self name) (some (.builtin id)))
    (hb : bindSpecial (.builtin id) self = pure (.builtin id, [self])) (h : wpAny M A (call (.builtin id) (self :: args)) (fun v => Q (some v)) E s) : wpAny M A (callSpecialIfBound? self name args) Q E s := by
  simp only [callSpecialIfBound?, bindSpecialIfBound?]
  refine wpAny_holding (wpAny_bind (wpAny_bind (sp.here ?_)))
  refine wpAny_bind (wpAny_askSetting (wpAny_ite ?_))
  have fin : wpAny M A (call (.builtin id) ([self] ++ args) >>= fun v => pure (some v)) Q E s := wpAny_bind (wpAny_mono h (fun v s' h' => wpAny_pure h') fun _ _ h' => h')
  split
  · refine wpAny_bind ?_
    rw [hb]
    exact wpAny_pure (wpAny_pure fin)
  · refine wpAny_tryCatch (wpAny_bind ?_)
    rw [hb]
    exact wpAny_pure (wpAny_pure fin)
theorem ne_K {Q : Value → Shared → Prop} (hu : A.units + 1 < cLine) (Fm : Fr h₀ L s.heap m) (X₀ : K.In h₀) (I : PySem.W.InstAt s.heap x ox C od) (J : PySem.W.InstAt s.heap y oy C od')
    (hn : PySem.W.findIn K (.ref C) "__ne__" = some (some (.builtin "object.__ne__"))) (ho : PySem.W.subIn K (.ref C) (.type "object") = some true)
    (hs : PySem.W.findIn K (.ref C) "__eq__" = some (some (.ref f))) (hf : PySem.W.isFn K (.ref f) = true)
    (h : wpAny (model prog w) A.in1 (call (.ref f) [.ref x, .ref y]) (fun v s' => ∃ b, v = .bool b ∧ Q (.bool (!b)) s') E s) : wpAny (model prog w) A (richCompare .NotEq (.ref x) (.ref y)) Q E s := by
  have X := X₀.keeps Fm.keep
  have inst : PySem.W.Looks (model prog w) s.heap (isInstance (.ref x) (.type "object")) true := I.type.andThen (PySem.W.looks_subIn X ho)
  have body : wpAny (model prog w) A.in1 (Builtin.«object.__ne__» ⟨[.ref x, .ref y], []⟩) (fun fin s' => match fin with
      | .done f => (wants (fun v s' => ∃ b, v = .bool b ∧ Q (.bool b) s') E) (.ok f) s'
      | .again c' => c'.quiet = true ∧ codeAny (model prog w) A c' (wants (fun v s' => ∃ b, v = .bool b ∧ Q (.bool b) s') E) s') (fun e s' => wants (fun v s' => ∃ b, v = .bool b ∧ Q (.bool b) s') E (.error e) s') s := by
    unfold Builtin.«object.__ne__»
    refine wpAny_bind (m := slotArgs "__ne__" 1 _) (wpAny_pure ?_)
    refine wpAny_bind (wpAny_cRoomFor (show A.in1.units < cLine from hu) ?_)
    refine wpAny_bind (m := callSpecialIfBound? (.ref x) (Str.ofString "__eq__") [.ref y]) (PySem.W.ifBound_K X I hs hf (wpAny_mono h (fun v s' hv => ?_) fun _ _ e => e))
    obtain ⟨b, rfl, hq⟩ := hv
    refine wpAny_bind (m := truthy (.bool b)) (wpAny_truthy_bool ?_)
    exact wpAny_pure ⟨!b, rfl, hq⟩
  have one : wpAny (model prog w) A (tryCompare (.ref x) "__ne__" (.ref y)) (fun r s' => ∃ v, r = some v ∧ Q v s') E s := by
    unfold tryCompare
    refine wpAny_bind (ifBoundB (id := "object.__ne__") (I.type.andThen (PySem.W.looks_findIn X hn)) (by kernel_rfl) ?_)
    refine wpAny_mono (wpAny_call (codeAny_call_builtin (R := wants (fun v s' => ∃ b, v = .bool b ∧ Q (.bool b) s') E) (by decide +kernel) F.cmpEntry_ne (PySem.W.check_slot F.cmpKind_ne F.cmpSplit_ne inst (F.cmpArgs_ne _ _) body))) (fun v s' hv => ?_) fun _ _ e => e
    obtain ⟨b, rfl, hq⟩ := hv
    exact wpAny_pure ⟨_, rfl, hq⟩
  unfold richCompare
  simp only [oneThing_ref]
  refine wpAny_holding (wpAny_bind (wpAny_cRoomFor (Nat.lt_of_succ_lt hu) ?_))
  rw [cmpInfo_NotEq]
  dsimp only
  refine wpAny_bind (I.type.here (wpAny_bind (J.type.here ?_)))
  rw [show (Value.ref C != Value.ref C) = false from by simp]
  simp only [Bool.false_eq_true, if_false]
  refine wpAny_bind (wpAny_pure ?_)
  simp only [Bool.false_eq_true, if_false]
  refine wpAny_bind (wpAny_mono one (fun r s' z => ?_) fun _ _ e => e)
  obtain ⟨v, rfl, hq⟩ := z
  exact wpAny_pure hq
end
section
variable {X : Cx} {pins : List (Addr × Obj)} {σ : L2.St} {H : Hp} {s : Shared} {CX : CXT} {n k : Nat} {f C a : Addr} {sp : Sp} {E : XK}
/-- x != y, both instances of C with an own __eq__ that promises sp; b is what __eq__ answers -/
def rOwnNe (C : Addr) (sp : Sp) (E : XK) : R2 := fun x y H Q => ∃ a b, x = .ref a ∧ y = .ref b ∧ InsAt H a C ∧ InsAt H b C ∧ sp [x, y] H (fun v H' => ∃ c, v = .bl c ∧ Q (.bl (!c)) H') E
theorem or_ownNe (hn : PySem.W.findIn X.K (.ref C) "__ne__" = some (some (.builtin "object.__ne__"))) (ho : PySem.W.subIn X.K (.ref C) (.type "object") = some true) (M : Meth X.K C "__eq__" f)
    (F : FnR X.prog X.w X.K X.mg X.base CX k f sp) (hr : Room (k + 1) X.A) (hx : Passes CX X E) : OpR X (compareOp .NotEq) (rOwnNe C sp E) := by
  intro pins s σ H x y v u Q I rx ry h
  obtain ⟨a, b, rfl, rfl, ha, hb, h⟩ := h
  obtain rfl : v = Value.ref a := rx
  obtain rfl : u = Value.ref b := ry
  obtain ⟨m, Fr⟩ := I.fr
  obtain ⟨ox, od, J, hd⟩ := insAt_at I ha
  obtain ⟨oy, od', J', hd'⟩ := insAt_at I hb
  show wpAny (model X.prog X.w) X.A (richCompare .NotEq (.ref a) (.ref b)) (EP X pins σ Q) X.xe s
  refine ne_K (by have := hr.un; omega) Fr I.mod.kin J J' hn ho M.at_ M.fn (thn (run_at F hr.in1 I.env0.in1 hx I (.cons (show RelV (.ref a) (.ref a) from rfl) (.cons (show RelV (.ref b) (.ref b) from rfl) .nil)) h) ?_)
  rintro r s' ⟨v', H', I', rv, c, rfl, q⟩
  obtain rfl : r = Value.bool c := rv
  exact ⟨c, rfl, .bl (!c), H', I', rfl, q⟩
/-- x == y, both instances of C with an own __eq__ that promises sp -/
def rOwnEq (C : Addr) (sp : Sp) (E : XK) : R2 := fun x y H Q => ∃ a b, x = .ref a ∧ y = .ref b ∧ InsAt H a C ∧ InsAt H b C ∧ sp [x, y] H (fun v H' => ∃ c, v = .bl c ∧ Q (.bl c) H') E
theorem or_ownEq (M : Meth X.K C "__eq__" f) (F : FnR X.prog X.w X.K X.mg X.base CX k f sp) (hr : Room k X.A) (hx : Passes CX X E) : OpR X (compareOp .Eq) (rOwnEq C sp E) := by
  intro pins s σ H x y v u Q I rx ry h
  obtain ⟨a, b, rfl, rfl, ha, hb, h⟩ := h
  obtain rfl : v = Value.ref a := rx
  obtain rfl : u = Value.ref b := ry
  obtain ⟨m, Fr⟩ := I.fr
  obtain ⟨ox, od, J, hd⟩ := insAt_at I ha
  obtain ⟨oy, od', J', hd'⟩ := insAt_at I hb
  show wpAny (model X.prog X.w) X.A (richCompare .Eq (.ref a) (.ref b)) (EP X pins σ Q) X.xe s
  refine PySem.W.cmp_K (op := .Eq) (tb := .ref C) hr.units0 Fr I.mod.kin J J'.type (by simp [PySem.W.notFirst]) M.at_ M.fn (thn (call_R F hr hx I (.cons (show RelV (.ref a) (.ref a) from rfl) (.cons (show RelV (.ref b) (.ref b) from rfl) .nil)) h) ?_)
  rintro r s' ⟨v', H', I', rv, c, rfl, q⟩
  obtain rfl : r = Value.bool c := rv
  exact ⟨.bl c, H', I', rfl, q⟩
end
end N1
set_option maxHeartbeats 2000000
/-! def __init__(self, ..): super().__init__(..) in an ordinary class -/
namespace N1
open PySem PySem.Spec PyProof.Rows L2 NdefX
/-- a method of the class at D that closes over __class__ (its cell at cc), as it stands behind the top -/
structure SupD (p : Program) (K : PySem.W.Frag) (name qual : Str) (params : Arguments) (body : List Stmt) (scope : Scope) (f cc cda D : Addr) : Prop where
  fn : ∃ (oc : Value) (od : Option Addr) (kV doc pm : Value) (an : Option Addr) (ct : Value) (osl : Array (Option Value)),
    K.lookup f = some ⟨oc, od, .func (PySem.W.fnX name qual params body scope [("__class__", cc)] .none kV doc pm an (.ref cda) ct), osl⟩
  code : PySem.W.codeIn K (.ref cda) qual = true
  file : ∃ ccl cdd vs ccs file tf, K.lookup cda = some ⟨ccl, cdd, .fields vs, ccs⟩ ∧ vs[2]? = some (.str file tf) ∧ ((p.main.file : Str) == file) = true
  cell : ∃ cl cld csl, K.lookup cc = some ⟨cl, cld, .cell (some (.ref D)), csl⟩
  cls : ∃ cd, PySem.W.clsIn K D = some cd
  kp : PySem.W.keepIn K (.ref f) = true
theorem superBase_no {D x C : Addr} : (PySem.W.ks_superObj D x C).data = .fields #[.ref D, .ref x, .ref C] := rfl
section
variable {CX CX2 : CXT} {P : Program} {w : World} {K : PySem.W.Frag} {mg : Str → Option Value} {base : Heap} {N ps : List Str} {k : Nat} {f f2 cc cda C D : Addr} {name qual : Str} {params : Arguments} {scope : Scope} {e : Expr} {es : List Expr} {p0 p1 p2 p3 p4 : Pos} {ta : TA} {sp2 : Sp} {ar : Arg}
/-- the function's words, as Nested tells them -/
abbrev supF (name qual : Str) (params : Arguments) (body : List Stmt) (scope : Scope) (cc cda : Addr) : NF := ⟨name, qual, params, body, scope, [("__class__", cc)], cda⟩
theorem fn_sup {body : List Stmt} (S : SupD P K name qual params body scope f cc cda D) (hbd : body = [.Expr (.Call (.Attribute (.Call (.Name "super" p0) [] [] p1) "__init__" p2) (e :: es) [] p3) p4])
    (Sc : NScope N ps ["__class__"] scope) (hnd : ps.Nodup) (hps : ps = ("self" : Str) :: ps.tail) (har : (params.posonlyargs ++ params.args).head? = some ar) (harn : ar.arg = "self") (hks : scope.names.lookup ("super" : Str) = some .globalImplicit)
    (hb : ∀ (kV doc pm : Value) (an : Option Addr) (ct : Value) (us : List Value), us.length = ps.length → bindArgs (PySem.W.fnX name qual params body scope [("__class__", cc)] .none kV doc pm an (.ref cda) ct) ⟨us, []⟩ = pure (ps.zip us))
    (hsm : mg "super" = none) (htop : (P.main.scope.names.lookup ("super" : Str)).isSome = false) (hop : PySem.W.nsIn K cStatics "thirdparty.any" = some none)
    (hm : PySem.W.ks_superIn K C D "__init__" = some (some (.ref f2))) (hmt : PySem.W.typeIn K (.ref f2) = some (.type "function")) (hfi : PySem.W.fnIn K f2 = true) (hsub : PySem.W.mroIn K C (.ref D) = some true) (hCc : ∃ cd, PySem.W.clsIn K C = some cd)
    (F2 : FnR P w K mg base CX2 k f2 sp2) (hx : ∀ A outer s H E, Passes CX2 (ncx CX P w K mg base N (supF name qual params body scope cc cda) f A outer s H E) E)
    (ha : ∀ A outer s H E, PA (ncx CX P w K mg base N (supF name qual params body scope cc cda) f A outer s H E) (e :: es) ta)
    (hs : ∀ A outer s H E, swapsWith (.Call (.Attribute (.Call (.Name "super" p0) [] [] p1) "__init__" p2) (e :: es) [] p3) none p4.line (ncx CX P w K mg base N (supF name qual params body scope cc cda) f A outer s H E).env = pure false)
    (he : ∀ A outer s H E, let env := (ncx CX P w K mg base N (supF name qual params body scope cc cda) f A outer s H E).env
      ∃ pl, eval (.Call (.Attribute (.Call (.Name "super" p0) [] [] p1) "__init__" p2) (e :: es) [] p3) env = (do
        let ov ← attributeBase (.Call (.Name "super" p0) [] [] p1) "__init__" env (eval (.Call (.Name "super" p0) [] [] p1) env)
        standAt p2.atName
        let (f, first) ← holding [ov] (getMethod ov "__init__" pl)
        callWith p3 f first (backTo p3 (starEach (e :: es) env)) []))
    (hse : ∀ A outer s H E, let env := (ncx CX P w K mg base N (supF name qual params body scope cc cda) f A outer s H E).env
      starEach (e :: es) env = (false, eval e env) :: starEach es env ∧ (backTo p3 (starEach es env)).any (·.1) = false) :
    FnR P w K mg base CX (k + 1) f (fun vs H Q E => ∃ x r, vs = .ref x :: r ∧ vs.length = ps.length ∧ InsAt H x C ∧ ta (startF N vs [some (.ref D)]) H fun ws H1 => sp2 (.ref x :: ws) H1 (fun _ H2 => Q .non H2) E) := by
  intro A outer s H us vs Q E hr e0 r hsp
  obtain ⟨x, rv, rfl, hl, hi, hsp⟩ := hsp
  have KX : K.In s.heap := e0.mod.kin.keeps fun b o e => (e0.bs b o e).1
  have lim : s.heap.NoLimit := e0.mod.nolimit.keeps fun b o e => (e0.bs b o e).1
  obtain ⟨oc, od, kV, doc, pm, an, ct, osl, lk⟩ := S.fn
  obtain ⟨ccl, cdd, cvs, ccs, file, tf, lc, lc2, lf⟩ := S.file
  obtain ⟨cl, cld, csl, lcell⟩ := S.cell
  obtain ⟨cdD, hcD⟩ := S.cls
  obtain ⟨cdC, hcC⟩ := hCc
  have ul : us.length = ps.length := by rw [← r.length]; exact hl
  have hcc : H cc = none := by
    have z := e0.mod.kin _ _ lcell
    exact (e0.bs _ _ z).2
  have CA : CellsAt [("__class__", cc)] ["__class__"] [some (.ref D)] s.heap H := by
    refine ⟨rfl, fun y c h => ?_, fun x y c h1 h2 => ?_, fun i y h => ?_⟩
    · have e : c = cc := by
        simp only [List.lookup] at h
        split at h
        · exact (Option.some.inj h).symm
        · cases h
      subst e
      exact ⟨hcc, _, ⟨_, KX _ _ lcell, rfl⟩⟩
    · simp only [List.lookup] at h1 h2
      split at h1
      · split at h2
        · rename_i q1 _ q2
          exact (beq_iff_eq.mp q1).trans (beq_iff_eq.mp q2).symm
        · cases h2
      · cases h1
    · match i, h with
      | 0, h =>
        have e : y = "__class__" := (Option.some.inj h).symm
        subst e
        refine ⟨cc, by simp [List.lookup], fun v hv => ?_⟩
        have e : v = .ref D := by
          have z := Option.some.inj hv
          exact (Option.some.inj z).symm
        subst e
        exact ⟨.ref D, rfl, ⟨_, KX _ _ lcell, rfl⟩⟩
      | n + 1, h => simp at h
  refine PySem.ks_codeAny_call_defAt (fd := PySem.W.fnX name qual params body scope [("__class__", cc)] .none kV doc pm an (.ref cda) ct) (body := body) (binds := ps.zip us) (by have := hr.dp; omega) (KX _ _ lk) rfl lim (PySem.W.codeRec_of KX S.code) rfl
    (.of_eq (hb kV doc pm an ct us ul)) Sc.nocell (fun y hy => Sc.par y.1 (List.of_mem_zip (show (y.1, y.2) ∈ ps.zip us from hy)).1) (fun h₁ hns kp => ?_) Sc.co Sc.gen Sc.kind
  obtain ⟨pl, hev⟩ := he A outer s H E
  obtain ⟨hse1, hse2⟩ := hse A outer s H E
  have I : Inv (ncx CX P w K mg base N (supF name qual params body scope cc cda) f A outer s H E) [] (startF N (.ref x :: rv) [some (.ref D)]) H { s with heap := h₁, toks := s.toks + (ps.zip us).length } := inv_startN Sc hr.hd e0 hl r CA hns kp
  have hex : ∀ env, execs body env = execs [.Expr (.Call (.Attribute (.Call (.Name "super" p0) [] [] p1) "__init__" p2) (e :: es) [] p3) p4] env := fun _ => by rw [hbd]
  rw [hex]
  obtain ⟨mb, hmb, hbt⟩ := e0.mod.blt
  have K1 : K.In h₁ := I.kIn
  have kb : ∀ b o, base.get? b = some o → h₁.get? b = some o := fun b o e => kp b o (e0.bs b o e).1
  obtain ⟨oD, hD1, hD2⟩ : ∃ oD, h₁.get? D = some oD ∧ oD.data = .cls cdD := by
    unfold PySem.W.clsIn at hcD
    split at hcD
    · rename_i c d cd' sl ho
      cases hcD
      exact ⟨_, K1 _ _ ho, rfl⟩
    · cases hcD
  obtain ⟨ox, odx, J, hxd⟩ := insAt_at I hi
  have hself : (ps.zip us).reverse.lookup ("self" : Str) = some (.ref x) := by
    cases r with
    | cons r1 r2 =>
      rename_i u us'
      obtain rfl : u = Value.ref x := r1
      exact zip_look (i := 0) hnd (by rw [hps]; rfl) rfl
  refine ks_wpAt_execs_cons (ks_wpAt_Expr_any ?_ I.quiet (hs A outer s H E))
  refine ks_wpAt_MethodCall (pl := pl) ?_ hev
  refine ks_wpAt_super_base (ar := ar) (file := file) (tf := tf) hks (Sc.frk _ (by simp)) (by decide) rfl (K1 _ _ lk) rfl har rfl (K1 _ _ lc) rfl lc2 lf htop ?_
  refine PySem.W.ks_loadName_global Sc.kind hks (Calls.loadGlobal_builtin (e0.mod.glob.keeps kb) hsm (hmb.keeps kb) ((hbt _ (by decide +kernel)).trans (by rfl : bootBuiltins "super" = some (.type "super"))) ⟨rfl, ?_⟩)
  refine wpAny_loadName_free Sc.kind (Sc.frk _ (by simp)) (c := cc) (by show List.lookup ("__class__" : Str) [("__class__", cc)] = some cc; simp [List.lookup]) ⟨_, K1 _ _ lcell, rfl⟩ ?_
  rw [harn]
  refine wpAny_loadName_local Sc.kind (by rw [← (show ar.arg = "self" from harn)]; rw [harn]; exact Sc.par _ (by rw [hps]; exact List.mem_cons_self)) hns hself ?_
  refine ks_wpAny_isType_cls hD1 hD2 ⟨rfl, ?_⟩
  refine ks_wpAny_call_super hD1 hD2 J.at_ J.cls (fun c e => ?_) (PySem.W.looks_mroIn K1 hsub) (fun h2 e2 k2 => ?_)
  · rw [hxd] at e
    cases e
  have K2 : K.In h2 := K1.keeps k2
  obtain ⟨of, hof, hofc⟩ : ∃ of, h2.get? f2 = some of ∧ of.cls = .type "function" := by
    have ht' : (K.lookup f2).map (·.cls) = some (.type "function") := hmt
    cases z : K.lookup f2 with
    | none => rw [z] at ht'; cases ht'
    | some of => rw [z] at ht'; exact ⟨of, K2 _ _ z, Option.some.inj ht'⟩
  unfold PySem.W.ks_superIn at hm
  rw [hcC] at hm
  refine ks_wpAny_getMethod_super e2 (PySem.W.looks_opaque K2 hop) (l₀ := cdC.mro) ?_ rfl K2 hm hof hofc (PySem.W.ks_ne K1 J hcC) (by decide) ?_
  · exact fun A Q E s k q => wpAny_bind ((PySem.W.looks_clsIn K2 hcC) A _ E s k (wpAny_pure q))
  have I2 := I.kept (h' := h2) (t' := s.toks + (ps.zip us).length + 1) k2
  have I3 := ClX.pin_new (o := { cls := .type "method", data := .fields #[.ref f2, .ref x] }) (h' := h2.push { cls := .type "method", data := .fields #[.ref f2, .ref x] }) (a := h2.objs.size) (t' := s.toks + (ps.zip us).length + 1) I2 (fun b u z => Heap.get?_push_of_some _ z) (Nat.le_refl _) (Heap.get?_push_at rfl rfl) (fun v z => by cases z)
  have hargs := (ha A outer s H E).run p3 _ _ _ _ _ I3 hsp
  show wpAny _ _ (callWith p3 (.ref h2.objs.size) [] (backTo p3 (starEach (e :: es) (ncx CX P w K mg base N (supF name qual params body scope cc cda) f A outer s H E).env)) []) _ _ _
  rw [hse1] at hargs ⊢
  refine PySem.W.callWith_of (P := PySem.W.MethP K h2.objs.size f2 (.ref x)) (by show ((false || (backTo p3 (starEach es _)).any (·.1)) || false) = false; rw [hse2]; rfl) (PySem.W.keeps_M hfi) (Calls.evalArgs_plain (thn hargs ?_))
  rintro vs s4 ⟨ws, H4, I4, r4, q4⟩
  refine ⟨⟨ClX.pin_at I4, I4.kIn⟩, ?_⟩
  show wpAny _ _ (call (.ref h2.objs.size) ([] ++ vs)) _ _ _
  rw [List.nil_append]
  refine wpAny_call (PySem.W.method_call (ClX.pin_at I4) ?_)
  have I5 := ClX.unpin I4
  refine codeAny_mono (run_fnR (us := .ref x :: vs) (vs := .ref x :: ws) F2 (hr.deeper _) (hx A outer s H E) I5 (.cons (show RelV (.ref x) (.ref x) from rfl) r4) q4) fun r6 s6 q6 => ?_
  cases r6 with
  | error e6 => exact q6
  | ok fl =>
    cases fl with
    | ret u =>
      obtain ⟨v6, H6, I6, _, q7⟩ := q6
      exact wpAt_of_wpAny (wpAny_execs_nil ⟨.non, H6, I6.os, I6.bare, I6.base, I6.hok, rfl, q7⟩)
    | next => exact False.elim q6
    | brk => exact False.elim q6
    | cont => exact False.elim q6
end
end N1
set_option maxHeartbeats 2000000
/-! calls: static methods, C(a, *xs), f(..) and C() by positional promises -/
namespace N1
open PySem PySem.Spec PyProof.Rows L2 NdefX StX
section
variable {X : Cx} {pins : List (Addr × Obj)} {σ : L2.St} {H : Hp} {s : Shared} {CX : CXT} {k : Nat} {f C p g : Addr} {mc : Value} {m : Str} {sp : Sp} {E : XK} {o e : Expr} {es : List Expr} {to : TE} {t : TA} {apos pos p1 : Pos} {pl : Sem Bool} {x : Str}
/-- C.m is a static method: its record at p, its def at g -/
structure CSta (K : PySem.W.Frag) (C : Addr) (mc : Value) (m : Str) (p g : Addr) : Prop where
  at_ : PySem.W.findCls K (.ref C) mc m = some (.get (.builtin "staticmethod.__get__") (.ref p) .none (.ref C))
  rc : ∃ rest, PySem.W.recIn K p "staticmethod" = some (.ref g :: rest)
  kp : PySem.W.keepIn K (.ref g) = true
theorem getmethsm_ok {A : Around} {E' : Value → Shared → Prop} {Q : Value × List Value → Shared → Prop} (I : Inv X pins σ H s) (r : ClX.CRead X.K C mc) (k : CSta X.K C mc m p g) (h : ∀ s', Inv X pins σ H s' → Q (.ref g, []) s') :
    wpAny (model X.prog X.w) A (getMethod (.ref C) m pl) Q E' s := by
  obtain ⟨rest, hp⟩ := k.rc
  refine PySem.W.method_cls I.kIn r.ga (PySem.W.cls_bind I.kIn r.rd k.at_ ?_)
  exact wpAny_call (PySem.W.sm_get (s := { s with toks := s.toks + 1 }) I.kIn hp (PySem.W.handed_on rfl (h _ (I.tok _))))
def tSMeth (C : Addr) (sp : Sp) (E : XK) (to : TE) (t : TA) : TE := fun σ H Q => to σ H fun x H1 => x = .ref C ∧ t σ H1 fun vs H2 => sp vs H2 Q E
theorem pe_smeth (he : PE X o to) (r : ClX.CRead X.K C mc) (c : CSta X.K C mc m p g) (F : FnR X.prog X.w X.K X.mg X.base CX k g sp) (hr : Room k X.A) (hx : Passes CX X E) (ha : PA X (e :: es) t)
    (hst : starEach (e :: es) X.env = (false, eval e X.env) :: starEach es X.env := by rfl) (hpl : (backTo pos (starEach es X.env)).any (·.1) = false := by rfl)
    (ht : eval (.Call (.Attribute o m apos) (e :: es) [] pos) X.env = (do
      let ov ← eval o X.env
      standAt apos.atName
      let (f, first) ← holding [ov] (getMethod ov m pl)
      callWith pos f first (backTo pos (starEach (e :: es) X.env)) (backToKw pos (keywordEach [] X.env))) := by rfl) :
    PE X (.Call (.Attribute o m apos) (e :: es) [] pos) (tSMeth C sp E to t) := by
  refine ⟨fun pins s σ H Q I h => ?_⟩
  refine PySem.W.methodCall_KW (pl := pl) (thn (he.run pins s σ H _ I h) fun u s1 ⟨x, H1, I1, rx, ex, q⟩ => ?_) ht
  subst ex
  obtain rfl : u = Value.ref C := rx
  refine getmethsm_ok I1 r c fun s2 I2 => ?_
  refine PySem.W.callWith_K (h₀ := X.base) (first := []) I.ok.mod.kin c.kp (thn (ha.run pos _ s2 σ H1 _ I2 q) fun us s3 ⟨vs, H2, I3, rv, q2⟩ => ⟨I3.kIn, ?_⟩) hst hpl
  exact call_R F hr hx I3 rv q2
/-- f(e, ..), f a def of the module, by its positional promise -/
def tCallR (sp : Sp) (E : XK) (t : TA) : TE := fun σ H Q => t σ H fun vs H1 => sp vs H1 Q E
theorem pe_callR (F : FnR X.prog X.w X.K X.mg X.base CX k f sp) (hr : Room k X.A) (hk : PySem.W.keepIn X.K (.ref f) = true) (hg : Gl X x) (hm : X.mg x = some (.ref f)) (hx : Passes CX X E) (ha : PA X (e :: es) t) (hd : (x == ("__debug__" : Str)) = false := by decide)
    (he : starEach (e :: es) X.env = (false, eval e X.env) :: starEach es X.env := by rfl) (hpl : (backTo pos (starEach es X.env)).any (·.1) = false := by rfl) :
    PE X (.Call (.Name x p1) (e :: es) [] pos) (tCallR sp E t) := by
  refine ⟨fun pins s σ H Q I h => ?_⟩
  refine wpAny_Call_Name_kw (ld_glob I hg hm ?_ hd)
  refine PySem.W.callWith_K (h₀ := X.base) (first := []) I.ok.mod.kin hk (thn (ha.run pos pins s σ H _ I h) fun us s1 ⟨vs, H1, I1, r, q⟩ => ⟨I1.kIn, ?_⟩) he hpl
  exact call_R F hr hx I1 r q
/-- C(e, .., *y) -/
theorem pe_makeS (M : Mk X.K C f) (F : FnR X.prog X.w X.K X.mg X.base CX k f sp) (hr : Room (k + 1) X.A) (hg : Gl X x) (hm : X.mg x = some (.ref C)) (hx : Passes CX X E) (ha : PA X (e :: es) t) (hdb : (x == ("__debug__" : Str)) = false := by decide)
    (he : starEach (e :: es) X.env = (false, eval e X.env) :: starEach es X.env := by rfl) (hst : (backTo pos (starEach es X.env)).any (·.1) = true := by rfl) : PE X (.Call (.Name x p1) (e :: es) [] pos) (tMakeR C sp E t) := by
  refine ⟨fun pins s σ H Q I h => ?_⟩
  refine wpAny_Call_Name_kw (ld_glob I hg hm ?_ hdb)
  refine PySem.W.callWith_S2 (h₀ := X.base) I.ok.mod.kin M.kp (thn (ha.run pos pins s σ H _ I h) fun us s1 ⟨vs, H1, I1, r, q⟩ => ⟨I1.kIn, ?_⟩) he hst
  exact run_makeR M F hr hx I1 r q
/-- C() -/
def tMakeR0 (C : Addr) (sp : Sp) (E : XK) : TE := fun σ H Q => ∀ x dx, H x = Option.none → H dx = Option.none → dx ≠ x → sp [V.ref x] (upd (upd H dx (.own x)) x (.ins C dx [])) (fun v H2 => v = .non ∧ Q (.ref x) H2) E
theorem pe_makeR0 (M : Mk X.K C f) (F : FnR X.prog X.w X.K X.mg X.base CX k f sp) (hr : Room (k + 1) X.A) (hg : Gl X x) (hm : X.mg x = some (.ref C)) (hx : Passes CX X E) (hdb : (x == ("__debug__" : Str)) = false := by decide) :
    PE X (.Call (.Name x p1) [] [] pos) (tMakeR0 C sp E) := by
  refine ⟨fun pins s σ H Q I h => ?_⟩
  refine wpAny_Call_Name_kw (ld_glob I hg hm ?_ hdb)
  refine PySem.W.callWith_K0 I.kIn M.kp ?_
  exact run_makeR (us := []) (vs := []) M F hr hx I .nil h
end
end N1
set_option maxHeartbeats 2000000
/-! ** : a dict merged into another one; {**a, k: v}; C(**a); def __init__(self, **d) -/
namespace N1
open PySem PySem.Spec PyProof.Rows L2
section
variable {prog : Program} {w : World} {K : Type} [DecidableEq K] {knd : KeyKind prog w K} {A : Around} {E : Value → Shared → Prop} {s : Shared}
theorem wpAny_dictPut_pairs {d : Addr} {kvs : List (K × Value)} {k : K} {key v : Value} {Q : Unit → Shared → Prop} (hkey : knd.is k key = true) (hm : s.heap.DictOf knd d kvs)
    (hQ : ∀ h', h'.DictOf knd d (stored kvs k v) → Heap.SameBut d s.heap h' → Q () { s with heap := h' })
    (hsz : kvs.length ≤ sizeLine := by size_fits) :
    wpAny (model prog w) A (dictPut d (knd.hash k) key v) Q E s := by
  obtain ⟨o, es, ep, ho, hc, hd, hk, hp, hn⟩ := hm
  have hes : es.size ≤ sizeLine := by have e1 := hp.length; have e2 : es.toList.length = es.size := by simp
                                      omega
  unfold dictPut
  refine wpAny_bind (wpAny_dictFind_of hkey ho hd hk ?_)
  have hidx : (es.findIdx? fun e => knd.is k e.key) = kvs.findIdx? fun kv => decide (kv.1 = k) := by
    rw [← hp.findIdx k]; obtain ⟨l⟩ := es; simp
  cases hi : es.findIdx? fun e => knd.is k e.key with
  | some i =>
    refine (wpAny_updateDict ho hd (hQ _ ⟨_, _, ep, Heap.get?_update_self _ ho (Obj.isFreed_of_dict (Obj.data_mapDict hd _)),
      hc.mapDict _, Obj.data_mapDict hd _, hk.modify _ _, ?_, ?_⟩ (Heap.SameBut.update ..)))
    · rw [stored, if_pos (any_of_findIdx_some (hidx ▸ hi))]
      have hl : (es.toList.findIdx? fun e => knd.is k e.key) = some i := by rw [← hi]; obtain ⟨l⟩ := es; simp
      have := hp.modify hn hl v
      obtain ⟨l⟩ := es
      simpa using this
    · rw [stored, if_pos (any_of_findIdx_some (hidx ▸ hi)), keys_map_store]; exact hn
  | none =>
    have hnot : k ∉ kvs.map (·.1) := not_mem_of_findIdx_none (hidx ▸ hi)
    have hany : ¬ (kvs.any fun kv => decide (kv.1 = k)) = true := by
      rw [List.any_eq_true]; rintro ⟨kv, hkv, he⟩
      exact hnot (List.mem_map.mpr ⟨kv, hkv, of_decide_eq_true he⟩)
    refine (wpAny_updateDictKeys (hz := hes) ho hd (hQ _ ⟨_, _, ep + 1, Heap.get?_update_self _ ho (Obj.isFreed_of_dict (Obj.data_mapDictKeys hd _)),
      hc.mapDictKeys _, Obj.data_mapDictKeys hd _, hk.push hkey _, ?_, ?_⟩ (Heap.SameBut.update ..)))
    · rw [stored, if_neg hany]
      have := hp.append hkey (knd.hash k) v
      obtain ⟨l⟩ := es
      simpa using this
    · rw [stored, if_neg hany, List.map_append, List.nodup_append]
      refine ⟨hn, by simp, ?_⟩
      intro a ha b hb
      simp only [List.map_cons, List.map_nil, List.mem_singleton] at hb
      subst hb
      exact fun e => hnot (e ▸ ha)
end
section
variable {prog : Program} {w : World} {A : Around} {E : Value → Shared → Prop} {s : Shared}
theorem dictFind_none {d : Addr} {kvs : List (Key × Value)} {k : Key} {key : Value} {Q : Option Nat → Shared → Prop} (hkey : (mixKind prog w).is k key = true) (hm : s.heap.DictOf (mixKind prog w) d kvs) (hn : k ∉ kvs.map (·.1)) (h : Q none s) :
    wpAny (model prog w) A (dictFind d key ((mixKind prog w).hash k)) Q E s := by
  obtain ⟨o, es, ep, ho, hc, hd, hk, hp, hnd⟩ := hm
  refine wpAny_dictFind_of hkey ho hd hk ?_
  have hidx : (es.findIdx? fun e => (mixKind prog w).is k e.key) = kvs.findIdx? fun kv => decide (kv.1 = k) := by
    rw [← hp.findIdx k]; obtain ⟨l⟩ := es; simp
  rw [hidx, List.findIdx?_eq_none_iff.mpr]
  · exact h
  · intro x hx
    exact decide_eq_false fun e => hn (List.mem_map.mpr ⟨x, hx, e⟩)
theorem wpAny_mergeMapping {u : Bool} {d o : Addr} {kvs more : List (Key × Value)} {Q : Unit → Shared → Prop} (hdo : d ≠ o) (hoS : (o == sysModules) = false)
    (hd : s.heap.DictOf (mixKind prog w) d kvs) (ho : s.heap.DictOf (mixKind prog w) o more) (hu : u = true → ((kvs ++ more).map (·.1)).Nodup)
    (hQ : ∀ h', h'.DictOf (mixKind prog w) d (merged kvs more) → Heap.SameBut d s.heap h' → Q () { s with heap := h' })
    (hsz : kvs.length + more.length ≤ sizeLine) :
    wpAny (model prog w) A (mergeMapping d (.ref o) u) Q E s := by
  obtain ⟨od, esd, epd, hod, hcd, hdd, hkd, hpd, hnd⟩ := id hd
  obtain ⟨oo, eso, epo, hoo, hco, hdo', hko, hpo, hno⟩ := id ho
  have hlen : more.length = eso.size := by rw [← hpo.length]; simp
  unfold mergeMapping
  refine wpAny_bind (wpAny_isInstance ho.typeIs isSubtype_dict_dict ?_)
  dsimp only
  rw [if_pos rfl]
  refine wpAny_bind (wpAny_specialOf ho.typeIs F.slot_dict_iter.lookup (wpAny_bind (wpAny_pure ?_)))
  simp only [beq_self_eq_true]
  rw [if_neg (by rw [hoS]; exact Bool.false_ne_true)]
  have loop : wpAny (model prog w) A (do
      let l ← dictEntries o
      let epoch ← dictEpoch o
      forIn (List.range l.size) PUnit.unit fun i (_ : PUnit) => (do
          let l' ← dictEntries o
          match l'[i]? with
            | some e => do
              holding [e.key, e.val] (if u = true then do
                  let r ← dictFind d e.key e.hash
                  if r.isSome = true then do
                    rule "dict.merge.duplicate-key"
                    let x ← newExc (.type "KeyError") [e.key]
                    (raiseNew x : Sem PUnit)
                    dictPut d e.hash e.key e.val
                  else dictPut d e.hash e.key e.val
                else dictPut d e.hash e.key e.val)
              let e2 ← dictEpoch o
              if (e2 != epoch) = true then do
                (unsupported "dict.changed-during-merge" : Sem PUnit)
                pure (ForInStep.yield PUnit.unit)
              else pure (ForInStep.yield PUnit.unit)
            | _ => do
              (unsupported "dict.changed-during-merge" : Sem PUnit)
              pure (ForInStep.yield PUnit.unit) : Sem (ForInStep PUnit))
      pure ()) Q E s := by
    refine wpAny_bind (wpAny_dictEntries hoo hdo' ?_)
    refine wpAny_bind (wpAny_dictEpoch hoo hdo' ?_)
    refine wpAny_bind ?_
    rw [List.range_eq_range']
    refine wpAny_forIn_list _
      (fun rest _ s' => ∃ h' i, s' = { s with heap := h' } ∧ rest = List.range' i (eso.size - i) ∧ i ≤ eso.size ∧ h'.DictOf (mixKind prog w) d (merged kvs (more.take i)) ∧ h'.get? o = some oo ∧ Heap.SameBut d s.heap h')
      _ ?_ ?_ _ _ ⟨s.heap, 0, rfl, by simp, Nat.zero_le _, by simpa [merged] using hd, hoo, Heap.SameBut.refl _ _⟩
    · rintro x rest b s' ⟨h', i, rfl, hr, hi, hd', hoo', hs'⟩
      have hlt : i < eso.size := by
        rcases Nat.lt_or_ge i eso.size with h | h
        · exact h
        · rw [Nat.sub_eq_zero_of_le h] at hr; simp at hr
      obtain ⟨rfl, hrest⟩ : x = i ∧ rest = List.range' (i + 1) (eso.size - (i + 1)) := by
        have e : eso.size - i = (eso.size - (i + 1)) + 1 := by omega
        rw [e, List.range'_succ] at hr
        injection hr with h1 h2
        exact ⟨h1, h2⟩
      refine wpAny_bind (wpAny_dictEntries hoo' hdo' ?_)
      rw [Array.getElem?_eq_getElem hlt]
      have hxm : x < more.length := by rw [hlen]; exact hlt
      obtain ⟨kv, hkv⟩ : ∃ kv, more[x]? = some kv := ⟨more[x]'hxm, List.getElem?_eq_getElem _⟩
      obtain ⟨k, v⟩ := kv
      obtain ⟨hkey, hval⟩ := hpo.get? (e := eso[x]) (by simp [hlt]) hkv
      obtain ⟨k', hkey', hhash⟩ := hko eso[x] (Array.getElem_mem hlt)
      obtain rfl : k' = k := (mixKind prog w).inj _ _ _ hkey' hkey
      dsimp only
      rw [hhash, hval]
      have hmx : (merged kvs (more.take x)).length ≤ sizeLine := by
        have e1 := merged_length_le kvs (more.take x)
        have e2 : (more.take x).length ≤ more.length := by rw [List.length_take]; omega
        omega
      refine wpAny_bind (wpAny_holding ?_)
      cases u with
      | false =>
        rw [if_neg Bool.false_ne_true]
        refine wpAny_dictPut_pairs (hsz := hmx) hkey hd' fun h'' hd'' hs'' => ?_
        have hoo'' : h''.get? o = some oo := (hs''.2 o (Ne.symm hdo)).trans hoo'
        refine wpAny_bind (wpAny_dictEpoch hoo'' hdo' ?_)
        rw [if_neg (by simp)]
        exact wpAny_pure ⟨h'', x + 1, rfl, hrest, hlt, by rw [merged_take_succ kvs more x (k', v) hkv]; exact hd'', hoo'', hs'.trans hs''⟩
      | true =>
        have hnd2 := hu rfl
        have hfresh : k' ∉ (merged kvs (more.take x)).map (·.1) := by
          have hsub : ((kvs ++ more.take x).map (·.1)).Nodup := by
            refine List.Nodup.sublist ?_ hnd2
            exact List.Sublist.map _ (List.Sublist.append (List.Sublist.refl _) (List.take_sublist _ _))
          rw [merged_append_of_fresh kvs (more.take x) hsub]
          intro hm
          rw [List.map_append] at hm hnd2
          rcases List.mem_append.mp hm with hm | hm
          · exact (List.nodup_append.mp hnd2).2.2 k' hm k' (List.mem_map.mpr ⟨_, List.mem_of_getElem? hkv, rfl⟩) rfl
          · have hn2 := (List.nodup_append.mp hnd2).2.1
            obtain ⟨p, hp, hpe⟩ := List.mem_map.mp hm
            obtain ⟨j, hj, hje⟩ := List.getElem_of_mem hp
            rw [List.length_take] at hj
            rw [List.getElem_take] at hje
            have e1 : (more.map (·.1))[j]'(by simp; omega) = (more.map (·.1))[x]'(by simp; omega) := by
              rw [List.getElem_map, List.getElem_map, hje, hpe]
              have := List.getElem?_eq_some_iff.mp hkv
              obtain ⟨_, e⟩ := this
              rw [e]
            have := (List.getElem_inj hn2).mp e1
            omega
        rw [if_pos rfl]
        refine wpAny_bind (dictFind_none hkey hd' hfresh ?_)
        rw [if_neg (by simp)]
        refine wpAny_dictPut_pairs (hsz := hmx) hkey hd' fun h'' hd'' hs'' => ?_
        have hoo'' : h''.get? o = some oo := (hs''.2 o (Ne.symm hdo)).trans hoo'
        refine wpAny_bind (wpAny_dictEpoch hoo'' hdo' ?_)
        rw [if_neg (by simp)]
        exact wpAny_pure ⟨h'', x + 1, rfl, hrest, hlt, by rw [merged_take_succ kvs more x (k', v) hkv]; exact hd'', hoo'', hs'.trans hs''⟩
    · rintro b s' ⟨h', i, rfl, hr, hi, hd', hoo', hs'⟩
      have hin : i = eso.size := by
        rcases Nat.lt_or_ge i eso.size with h | h
        · have e : eso.size - i = (eso.size - (i + 1)) + 1 := by omega
          rw [e, List.range'_succ] at hr; exact nomatch hr
        · exact Nat.le_antisymm hi h
      refine wpAny_pure (hQ h' ?_ hs')
      rw [hin, ← hlen, List.take_length] at hd'; exact hd'
  refine wpAny_bind (wpAny_dictEntries hod hdd ?_)
  split
  · refine wpAny_bind (wpAny_dictEntries hoo hdo' ?_)
    refine wpAny_bind ?_
    rw [← Array.forIn_toList]
    refine wpAny_forIn_list _ (fun rest _ s' => s' = s ∧ ∀ e ∈ rest, e ∈ eso.toList) _ ?_ ?_ _ _ ⟨rfl, fun _ h => h⟩
    · rintro e rest b s' ⟨rfl, hr⟩
      obtain ⟨k, hkey, _⟩ := hko e (Array.mem_toList_iff.mp (hr e List.mem_cons_self))
      have hk2 : keyIs k e.key = true := hkey
      have hz : ∀ e ∈ rest, e ∈ eso.toList := fun e h => hr e (List.mem_cons_of_mem _ h)
      rcases keyIs_shape hk2 with ⟨i, t, _, e1⟩ | ⟨x, t, _, e1⟩
      · rw [e1]
        exact wpAny_pure ⟨rfl, hz⟩
      · rw [e1]
        exact wpAny_pure ⟨rfl, hz⟩
    · rintro b s' ⟨rfl, _⟩
      exact loop
  · exact loop
end
end N1
set_option maxHeartbeats 2000000
/-! C(**a), C(k = v, ..); def __init__(self, **d) -/
namespace N1
open PySem PySem.Spec PyProof.Rows L2
section
variable {prog : Program} {w : World} {A : Around} {E : Value → Shared → Prop} {s : Shared}
theorem keys_noref {es : Array DictEntry} (hk : PySem.KeysOf (mixKind prog w) es) : es.any (·.refKey) = false := by
  rw [Array.any_eq_false']
  intro e he
  obtain ⟨k, h1, _⟩ := hk e he
  have h2 : keyIs k e.key = true := h1
  rcases keyIs_shape h2 with ⟨i, t, _, e1⟩ | ⟨x, t, _, e1⟩ <;> simp [DictEntry.refKey, e1]
theorem find_name {es : Array DictEntry} (x : Str) : (es.findIdx? fun e => (mixKind prog w).is (Sum.inr x) e.key) = es.findIdx? (·.key.isStr x) := by
  congr 1
  funext e
  show keyIs (Sum.inr x) e.key = e.key.isStr x
  cases e.key <;> rfl
theorem wpAny_nsSet_new {d : Addr} {kvs : List (Key × Value)} {x : Str} {v : Value} {Q : Unit → Shared → Prop} (hm : s.heap.DictOf (mixKind prog w) d kvs) (hx : (Sum.inr x : Key) ∉ kvs.map (·.1))
    (hQ : ∀ h', h'.DictOf (mixKind prog w) d (kvs ++ [(Sum.inr x, v)]) → Heap.SameBut d s.heap h' → Q () { s with heap := h', toks := s.toks + 1 }) : wpAny (model prog w) A (nsSet d x v) Q E s := by
  intro Γ p _
  obtain ⟨o, es, ep, ho, hc, hd, hk, hp, hn⟩ := hm
  simp only [nsSet, strHash, Sem.wp_bind', Sem.wp_cmd_ask, Sem.wp_pure', Sem.wp_cmd_mkText]
  rw [Sem.wp_loadPart_of _ Γ _ p { s with toks := s.toks + 1 } (o := o) _ ho]
  have hany := keys_noref hk
  simp only [hd, aRefKeyMayBeTheName_eq, aRefKeyMayBeTheNameByArray, hany, Bool.and_false, Bool.false_eq_true, if_false, Sem.wp_cmd_updatePart]
  refine ⟨by rw [ho]; rfl, hQ _ ?_ (Heap.SameBut.update ..)⟩
  have hidx : (es.findIdx? fun e => (mixKind prog w).is (Sum.inr x) e.key) = kvs.findIdx? fun kv => decide (kv.1 = Sum.inr x) := by
    rw [← hp.findIdx (Sum.inr x)]; obtain ⟨l⟩ := es; simp
  have hi : es.findIdx? (·.key.isStr x) = none := by
    rw [← find_name (prog := prog) (w := w), hidx, List.findIdx?_eq_none_iff.mpr]
    intro y hy
    exact decide_eq_false fun e => hx (List.mem_map.mpr ⟨y, hy, e⟩)
  obtain ⟨c, d', dt, sl⟩ := o
  subst hd
  have hobj : Obj.putName x (if x.cps.isEmpty = true then 0 else reduceHash ((model prog w).w.params.strHash x.cps)) (.str x s.toks) v ⟨c, d', .dict es ep, sl⟩ = ⟨c, d', .dict (es.push ⟨hashStr w x, .str x s.toks, v⟩) (ep + 1), sl⟩ := by
    simp only [Obj.putName_eq, Obj.putNameByArray, hi]
    rfl
  refine ⟨⟨c, d', .dict (es.push ⟨hashStr w x, .str x s.toks, v⟩) (ep + 1), sl⟩, es.push ⟨hashStr w x, .str x s.toks, v⟩, ep + 1, ?_, hc, rfl, hk.push (k := Sum.inr x) (key := .str x s.toks) (keyIs_str x s.toks) _, ?_, ?_⟩
  · have q := Heap.get?_update_self (Obj.putName x (if x.cps.isEmpty = true then 0 else reduceHash ((model prog w).w.params.strHash x.cps)) (.str x s.toks) v) ho (by rw [hobj]; rfl)
    rw [hobj] at q
    exact q
  · have := hp.append (k := Sum.inr x) (key := .str x s.toks) (keyIs_str x s.toks) ((mixKind prog w).hash (Sum.inr x)) v
    obtain ⟨l⟩ := es
    have e : (mixKind prog w).hash (Sum.inr x) = hashStr w x := rfl
    rw [e] at this
    simpa using this
  · rw [List.map_append, List.nodup_append]
    refine ⟨hn, by simp, ?_⟩
    intro a ha b hb
    simp only [List.map_cons, List.map_nil, List.mem_singleton] at hb
    subst hb
    exact fun e => hx (e ▸ ha)
end
/-- keywords: names and values -/
abbrev KwV : List (Str × V) → List (Str × Value) → Prop := KV
def kwKeys (kw : List (Str × V)) : List (Key × V) := kw.map fun q => (Sum.inr q.1, q.2)
section
variable {prog : Program} {w : World} {A : Around} {E : Value → Shared → Prop} {s : Shared}
/-- a dict of the keywords, one after the other -/
theorem nsSets {d : Addr} {Q : PUnit → Shared → Prop} : ∀ (kw : List (Str × Value)) (kvs : List (Key × Value)) {s : Shared}, s.heap.DictOf (mixKind prog w) d kvs → ((kvs.map (·.1)) ++ kw.map fun q => (Sum.inr q.1 : Key)).Nodup →
    (∀ h' t', h'.DictOf (mixKind prog w) d (kvs ++ kw.map fun q => (Sum.inr q.1, q.2)) → Heap.SameBut d s.heap h' → Q ⟨⟩ { s with heap := h', toks := t' }) →
    wpAny (model prog w) A (forIn kw PUnit.unit fun q (_ : PUnit) => (do nsSet d q.1 q.2; pure (ForInStep.yield PUnit.unit) : Sem (ForInStep PUnit))) Q E s
  | [], kvs, s, hd, _, hQ => by
    rw [List.forIn_nil]
    have := hQ s.heap s.toks (by simpa using hd) (Heap.SameBut.refl _ _)
    exact wpAny_pure this
  | (x, v) :: r, kvs, s, hd, hn, hQ => by
    rw [List.forIn_cons]
    refine wpAny_bind (wpAny_bind (wpAny_nsSet_new (x := x) (v := v) hd ?_ fun h' hd' hs' => wpAny_pure ?_))
    · intro hm
      have := (List.nodup_append.mp hn).2.2 _ hm (Sum.inr x) (by simp)
      exact this rfl
    · refine nsSets r (kvs ++ [(Sum.inr x, v)]) hd' (by simpa using hn) fun h2 t2 hd2 hs2 => ?_
      exact hQ h2 t2 (by simpa using hd2) (hs'.trans hs2)
theorem bind_kw {name qual : Str} {a0 ak : Arg} {kd : List (Option Expr)} {body : List Stmt} {scope : Scope} {kV doc pm cdv ct : Value} {an : Option Addr} {x : Value} {kw : List (Str × Value)} {Q : List (Str × Value) → Shared → Prop}
    (hk : ∀ q ∈ kw, q.1 ≠ a0.arg) (hl : kw.length ≤ sizeLine)
    (h : wpAny (model prog w) A (do
      let d ← (alloc ({ cls := .type "dict", data := .dict #[] } : Obj) : Sem Addr)
      let _ ← forIn kw PUnit.unit fun q (_ : PUnit) => (do nsSet d q.1 q.2; pure (ForInStep.yield PUnit.unit) : Sem (ForInStep PUnit))
      pure [(a0.arg, x), (ak.arg, Value.ref d)]) Q E s) :
    wpAny (model prog w) A (bindArgs (PySem.W.fnOf name qual { posonlyargs := [], args := [a0], vararg := none, kwonlyargs := [], kw_defaults := kd, kwarg := some ak, defaults := [] } body scope .none kV doc pm an cdv ct) ⟨[x], kw⟩) Q E s := by
  unfold bindArgs
  dsimp only
  refine wpAny_bind (wpAny_forIn_list _ (fun rest b s' => s' = s ∧ ∃ done, kw = done ++ rest ∧ b = ([(a0.arg, x)], done)) _ ?_ ?_ _ _ ⟨rfl, [], rfl, rfl⟩)
  · rintro ⟨n, v⟩ rest b s' ⟨rfl, done, e, rfl⟩
    have hne : n ≠ a0.arg := hk (n, v) (by rw [e]; simp)
    have hc : (([a0].map (·.arg)).contains n || (([] : List Arg).map (·.arg)).contains n) = false := by
      simp [hne]
    dsimp only
    rw [hc, if_neg Bool.false_ne_true, if_pos (by rfl)]
    exact wpAny_pure ⟨rfl, done ++ [(n, v)], by rw [e]; simp, rfl⟩
  · rintro b s' ⟨rfl, done, e, rfl⟩
    rw [List.append_nil] at e
    subst e
    dsimp only
    refine wpAny_bind (wpAny_of_eq (a := (none : Option (Array Value))) rfl ?_)
    have hlk : List.lookup a0.arg [(a0.arg, x)] = some x := by simp [List.lookup]
    simp at h
    simp [hlk]
    rw [if_neg (by omega)]
    exact h
end
/-! ### the promise of a def with keywords -/
theorem size_keeps {h h' : Heap} (kp : ∀ b o, h.get? b = some o → h'.get? b = some o) {a : Addr} {o : Obj} (e : h.get? a = some o) : a < h'.objs.size := Heap.lt_size (kp _ _ e)
theorem env0_kept {P : Program} {w : World} {K : PySem.W.Frag} {mg : Str → Option Value} {base : Heap} {A : Around} {outer : List Env} {s : Shared} {H : Hp} {u : HO} {h' : Heap} {t' : Nat} {a : Addr} (e0 : Env0 P w K mg base A outer s H)
    (kp : ∀ b x, s.heap.get? b = some x → h'.get? b = some x) (hs : s.heap.objs.size ≤ h'.objs.size) (ha : s.heap.objs.size ≤ a) (new : ObjOk P w (upd H a u) h' a u) :
    Env0 P w K mg base A outer { s with heap := h', toks := t' } (upd H a u) := by
  refine ⟨e0.frames, e0.mod, fun b x e => ⟨kp b x (e0.bs b x e).1, ?_⟩, Nat.le_trans e0.bsz hs, Heap.FunFrames.of_keeps (fun b x e _ => ⟨x, kp b x e, rfl⟩) e0.funs, fun b hb => ?_, e0.hok.laid kp ha new, e0.bare⟩
  · rw [upd_ne (Nat.ne_of_lt (Nat.lt_of_lt_of_le (Heap.lt_size (e0.bs b x e).1) ha))]
    exact (e0.bs b x e).2
  · obtain ⟨_, x, hx, _⟩ := e0.funs.mem hb
    rw [upd_ne (Nat.ne_of_lt (Nat.lt_of_lt_of_le (Heap.lt_size hx) ha))]
    exact e0.frf b hb
/-- called with values vs and keywords kv -/
abbrev SpK := List V → List (Str × V) → Hp → VK → XK → Prop
def FnKw (P : Program) (w : World) (K : PySem.W.Frag) (mg : Str → Option Value) (base : Heap) (CX : CXT) (k : Nat) (f : Addr) (sp : SpK) : Prop :=
  ∀ (A : Around) (outer : List Env) (s : Shared) (H : Hp) (us : List Value) (vs : List V) (kw : List (Str × Value)) (kv : List (Str × V)) (Q : VK) (E : XK), Room k A → Env0 P w K mg base A outer s H → Vals vs us → KV kv kw → sp vs kv H Q E →
    codeAny (model P w) A (.call (.ref f) ⟨us, kw⟩) (CR CX outer P w H s Q E) s
theorem kv_names : ∀ {kv : List (Str × V)} {kw : List (Str × Value)}, KV kv kw → kv.map (·.1) = kw.map (·.1)
  | [], [], .nil => rfl
  | _ :: _, _ :: _, .cons a r => by
    rw [List.map_cons, List.map_cons, a.1, kv_names r]
theorem kv_keys : ∀ {kv : List (Str × V)} {kw : List (Str × Value)}, KV kv kw → KV (kwKeys kv) (kw.map fun q => ((Sum.inr q.1 : Key), q.2))
  | [], [], .nil => .nil
  | _ :: _, _ :: _, .cons a r => .cons ⟨congrArg Sum.inr a.1, a.2⟩ (kv_keys r)
section
variable {CX : CXT} {P : Program} {w : World} {K : PySem.W.Frag} {mg : Str → Option Value} {base : Heap} {k : Nat} {f : Addr} {name qual : Str} {a0 ak : Arg} {kd : List (Option Expr)} {body : List Stmt} {scope : Scope} {kV doc pm cdv ct oc : Value} {an od : Option Addr}
  {osl : Array (Option Value)} {N : List Str} {sp : Sp}
/-- def f(a, **d): the keywords are a new dict -/
theorem fn_kw (lk : K.lookup f = some ⟨oc, od, .func (PySem.W.fnOf name qual { posonlyargs := [], args := [a0], vararg := none, kwonlyargs := [], kw_defaults := kd, kwarg := some ak, defaults := [] } body scope .none kV doc pm an cdv ct), osl⟩) (hcd : PySem.W.codeIn K cdv qual = true)
    (S : FnScope N [a0.arg, ak.arg] scope) (hCX : StX.CXUp CX)
    (hbody : ∀ (A : Around) (outer : List Env) (s : Shared) (H : Hp) (vs : List V) (Q : VK) (E : XK), Room k (A.deeper (envOfC qual scope s.heap.objs.size f cdv)) → sp vs H Q E →
      ∃ t, PSs (cxOf CX P w K mg base N qual scope f cdv A outer s H E) body t ∧ t { nx := fun _ H' => Q .non H', rt := Q } (start N vs) H) :
    FnKw P w K mg base CX (k + 1) f (fun vs kv H Q E => ∃ x, vs = [x] ∧ (kv.map (·.1)).Nodup ∧ a0.arg ∉ kv.map (·.1) ∧ kv.length ≤ sizeLine ∧ ∀ d, H d = none → sp [x, .ref d] (upd H d (.dK (kwKeys kv))) Q E) := by
  intro A outer s H us vs kw kv Q E hr e0 r rk hsp
  obtain ⟨x, rfl, hnd, hna, hl, hsp⟩ := hsp
  obtain ⟨u, rfl, ru⟩ := r.one
  refine StX.run_bnd (G := fun vs2 H2 => ∃ d, vs2 = [x, .ref d] ∧ H d = none ∧ H2 = upd H d (.dK (kwKeys kv))) lk hcd S hr e0 ?_ ?_
  · intro A' Ex Q' hQ
    have hkl : kw.length ≤ sizeLine := by rw [← Paired.length rk]; exact hl
    refine bind_kw (fun q hq e => hna ?_) hkl ?_
    · rw [kv_names rk, ← e]
      exact List.mem_map.mpr ⟨q, hq, rfl⟩
    · have hb := StX.env0_big e0
      have hn0 : H s.heap.objs.size = none := e0.hok.fresh (Nat.le_refl _)
      refine wpAny_bind (wpAny_alloc ?_)
      refine wpAny_bind (nsSets kw [] (Heap.DictOf.new s.heap) (by
        rw [kv_names rk] at hnd
        have e : (kw.map fun q => (Sum.inr q.1 : Key)) = (kw.map (·.1)).map Sum.inr := by rw [List.map_map]; rfl
        rw [List.map_nil, List.nil_append, e]
        exact List.Pairwise.map _ (fun a b h e => h (Sum.inr.inj e)) hnd) fun h' t' hd' hs' => wpAny_pure ?_)
      have kp : ∀ b x, s.heap.get? b = some x → h'.get? b = some x := fun b x e => (hs'.2 b (Nat.ne_of_lt (Heap.lt_size e))).trans (Heap.get?_push_of_some _ e)
      have hsz : s.heap.objs.size ≤ h'.objs.size := by
        obtain ⟨o, _, _, ho, _⟩ := hd'
        exact Nat.le_of_lt (Heap.lt_size ho)
      have new : ObjOk P w (upd H s.heap.objs.size (.dK (kwKeys kv))) h' s.heap.objs.size (.dK (kwKeys kv)) :=
        dk_new (by unfold kwKeys; rw [List.length_map]; exact hl) (beq_eq_false_iff_ne.mpr (Ne.symm (Nat.ne_of_lt hb))) (kv_keys rk) (by simpa using hd')
      have un : Un (frs outer) [] H (upd H s.heap.objs.size (.dK (kwKeys kv))) s.heap h' := Un.laid kp (Nat.le_refl _) hn0
      exact hQ { s with heap := h', toks := t' } _ [x, .ref s.heap.objs.size] [u, .ref s.heap.objs.size] (env0_kept e0 kp hsz (Nat.le_refl _) new) un rfl (fun e s' => hCX outer s H _ _ E e s' un kp rfl) (.cons ru (.cons rfl .nil)) rfl ⟨_, rfl, hn0, rfl⟩
  · rintro s2 H2 vs2 ⟨d, rfl, hd, rfl⟩ hroom
    exact hbody A outer s2 _ _ Q E hroom (hsp d hd)
end
end N1
set_option maxHeartbeats 2000000
/-! C(**a), C(k = v) -/
namespace N1
open PySem PySem.Spec PyProof.Rows L2
section
variable {prog : Program} {w : World} {A : Around} {E : Value → Shared → Prop} {s : Shared}
/-- the pairs of a dict of texts as keywords -/
theorem keywordsIn_of {f : Value} {d : Addr} {kw : List (Str × Value)} {Q : List (Str × Value) → Shared → Prop} (hd : s.heap.DictOf (mixKind prog w) d (kw.map fun q => ((Sum.inr q.1 : Key), q.2))) (h : Q kw s) : wpAny (model prog w) A (keywordsIn f d) Q E s := by
  obtain ⟨o, es, ep, ho, hc, hdd, hk, hp, hn⟩ := hd
  unfold keywordsIn
  refine wpAny_bind (wpAny_dictEntries ho hdd ?_)
  rw [← Array.forIn_toList]
  refine wpAny_bind (wpAny_forIn_list _ (fun rest b s' => s' = s ∧ ∃ dn, b = dn ∧ ∃ kr, kw = dn ++ kr ∧ Pairs (mixKind prog w) rest (kr.map fun q => ((Sum.inr q.1 : Key), q.2))) _ ?_ ?_ _ _ ⟨rfl, [], rfl, kw, rfl, hp⟩)
  · rintro e rest b s' ⟨rfl, dn, rfl, kr, e1, p⟩
    cases kr with
    | nil => cases p
    | cons q kr =>
      obtain ⟨x, v⟩ := q
      have hh : (mixKind prog w).is (Sum.inr x) e.key = true ∧ e.val = v ∧ Pairs (mixKind prog w) rest (kr.map fun q => ((Sum.inr q.1 : Key), q.2)) := by
        cases p with
        | cons a b c => exact ⟨a, b, c⟩
      obtain ⟨h1, rfl, h3⟩ := hh
      have h1' : keyIs (Sum.inr x) e.key = true := h1
      rcases keyIs_shape h1' with ⟨i, t, q, _⟩ | ⟨y, t, q, e2⟩
      · cases q
      · cases q
        rw [e2]
        exact wpAny_pure ⟨rfl, b ++ [(x, e.val)], rfl, kr, by rw [e1]; simp, h3⟩
  · rintro b s' ⟨rfl, dn, rfl, kr, e1, p⟩
    cases kr with
    | nil =>
      rw [List.append_nil] at e1
      subst e1
      exact wpAny_pure h
    | cons q kr => cases p
end
section
variable {M : Model} {A : Around} {E : Value → Shared → Prop} {s : Shared}
theorem kw_call {f : Value} {first : List Value} {pos : Pos} {Q : Value → Shared → Prop} {P : Heap → Prop} {args : List (Bool × Sem Value)} {kws : List (Option Str × Sem Value)} (hst : kws.any (·.1.isNone) = true)
    (hk : ∀ h, P h → ∃ k, (k = Keeper.frame ∨ k = Keeper.machine ∨ k = Keeper.boundFrame) ∧ PySem.W.Looks M h (keeperOf f) k)
    (h : wpAny M A (evalArgs f true args kws) (fun a s₁ => P s₁.heap ∧ wpAny M A (call f (first ++ a.pos) a.kw) Q E s₁) E s) : wpAny M A (callWith pos f first args kws) Q E s := by
  unfold callWith
  refine wpAny_bind (wpAny_holding (wpAny_mono h (fun a s₁ h₁ => wpAny_bind (wpAny_standAt ?_)) fun _ _ x => x))
  obtain ⟨k, hk', L⟩ := hk _ h₁.1
  simp only [hst, Bool.or_true]
  refine wpAny_bind (L.here ?_)
  have tail : ∀ {t : Sem Value}, wpAny M A t Q E s₁ → wpAny M A (t >>= fun r => holding [r] point >>= fun _ => pure r) Q E s₁ :=
    fun ht => wpAny_bind (wpAny_mono ht (fun r s₂ hr => wpAny_bind (wpAny_holding (wpAny_point (wpAny_pure hr)))) fun _ _ x => x)
  have marked (mk : Value) : wpAny M A (callMarked mk f (first ++ a.pos) a.kw) Q E s₁ := by unfold callMarked; exact Calls.wpAny_keep h₁.2
  rcases hk' with rfl | rfl | rfl <;> dsimp only <;> first | exact tail (marked _) | exact tail (wpAny_operating h₁.2)
end
section
variable {X : Cx} {pins : List (Addr × Obj)} {σ : L2.St} {H : Hp} {s : Shared} {CX : CXT} {k : Nat} {f C : Addr} {sp : SpK} {E : XK} {e : Expr} {te : TE} {pos p1 kp : Pos} {x : Str}
theorem run_makeKw {Q : VK} {us : List Value} {vs : List V} {kw : List (Str × Value)} {kv : List (Str × V)} (M : Mk X.K C f) (F : FnKw X.prog X.w X.K X.mg X.base CX k f sp) (hr : Room (k + 1) X.A)
    (hx : Passes CX X E) (I : Inv X pins σ H s) (r : Vals vs us) (rk : KV kv kw)
    (h : ∀ x dx, H x = none → H dx = none → dx ≠ x → sp (.ref x :: vs) kv (upd (upd H dx (.own x)) x (.ins C dx [])) (fun v H2 => v = .non ∧ Q (.ref x) H2) E) :
    wpAny (model X.prog X.w) X.A (call (.ref C) us kw) (EP X pins σ Q) X.xe s := by
  have hq := h (s.heap.objs.size + 1) s.heap.objs.size (I.hok.fresh (Nat.le_succ _)) (I.hok.fresh (Nat.le_refl _)) (Nat.ne_of_lt (Nat.lt_succ_self _))
  have I2 := Inv.made (C := C) I
  have r1 : Vals (V.ref (s.heap.objs.size + 1) :: vs) (Value.ref (s.heap.objs.size + 1) :: us) := .cons rfl r
  refine wpAny_call (make_map (f := f) I.kIn M.makes M.init (beq_iff_eq.mp M.fn) (codeAny_mono (F _ X.stack _ _ (Value.ref (s.heap.objs.size + 1) :: us) _ kw kv _ E (hr.make C us kw)
    (I2.env0.make C us kw) r1 rk hq) fun r s' hq' => ?_))
  cases r with
  | error e => exact hx pins σ _ _ e s' I2 hq'
  | ok fl =>
    cases fl with
    | ret u =>
      obtain ⟨v, H', I3, rv, ev, q3⟩ := I2.after hq'
      subst ev
      exact ⟨rv, ⟨V.ref (s.heap.objs.size + 1), H', I3, rfl, q3⟩⟩
    | next => exact False.elim hq'
    | brk => exact False.elim hq'
    | cont => exact False.elim hq'
/-- **e : its pairs, in a new dict -/
def tKwOf (te : TE) (k : List (Str × V) → Hp → Prop) : L2.St → Hp → Prop := fun σ H => ∀ p, H p = none → te σ (upd H p (.dK [])) fun x H1 => ∃ d kv, x = .ref d ∧ d ≠ p ∧ H1 d = some (.dK (kwKeys kv)) ∧ H1 p = some (.dK []) ∧ k kv (upd H1 p (.dK (kwKeys kv)))
theorem merged_kw {kvs : List (Key × Value)} (h : (kvs.map (·.1)).Nodup) : merged [] kvs = kvs := merged_nil_of_nodup kvs h
/-- C(**e) -/
def tMakeDD (C : Addr) (sp : SpK) (E : XK) (te : TE) : TE := fun σ H Q => tKwOf te (fun kv H1 => ∀ x dx, H1 x = none → H1 dx = none → dx ≠ x → sp [.ref x] kv (upd (upd H1 dx (.own x)) x (.ins C dx [])) (fun v H2 => v = .non ∧ Q (.ref x) H2) E) σ H
theorem kv_split : ∀ {kv : List (Str × V)} {vs : List (Key × Value)}, KV (kwKeys kv) vs → ∃ kw : List (Str × Value), vs = kw.map (fun q => ((Sum.inr q.1 : Key), q.2)) ∧ KV kv kw
  | [], [], .nil => ⟨[], rfl, .nil⟩
  | (x, v) :: kv, (y, u) :: vs, .cons a r => by
    obtain ⟨kw, e1, r1⟩ := kv_split r
    have e2 : y = Sum.inr x := a.1.symm
    exact ⟨(x, u) :: kw, by rw [e1, e2]; rfl, .cons ⟨rfl, a.2⟩ r1⟩
theorem pe_makeDD (M : Mk X.K C f) (F : FnKw X.prog X.w X.K X.mg X.base CX k f sp) (hr : Room (k + 1) X.A) (hg : Gl X x) (hm : X.mg x = some (.ref C)) (hx : Passes CX X E) (he : PE X e te) (hdb : (x == ("__debug__" : Str)) = false := by decide)
    (hkw : ∃ u : Sem Value, backToKw pos (keywordEach [⟨none, e, kp⟩] X.env) = [(none, u)] ∧ ∀ {Q : Value → Shared → Prop} {s : Shared}, wpAny (model X.prog X.w) X.A (eval e X.env) Q X.xe s → wpAny (model X.prog X.w) X.A u Q X.xe s) :
    PE X (.Call (.Name x p1) [] [⟨none, e, kp⟩] pos) (tMakeDD C sp E te) := by
  refine ⟨fun pins s σ H Q I h => ?_⟩
  refine wpAny_Call_Name_kw (ld_glob I hg hm ?_ hdb)
  obtain ⟨u, hu, hr'⟩ := hkw
  rw [hu]
  refine kw_call (P := fun h => X.K.In h) (by rfl) (fun h hh => PySem.W.keeps_K M.kp h hh) ?_
  unfold evalArgs
  refine wpAny_bind (wpAny_of_eq (a := []) rfl (wpAny_bind (wpAny_pure ?_)))
  dsimp only
  refine wpAny_holding ?_
  rw [if_neg (show ¬ ([(none, u)].all fun x : Option Str × Sem Value => x.1.isSome) = true from Bool.false_ne_true)]
  unfold mergedKeywords
  refine wpAny_bind (wpAny_bind (wpAny_alloc ?_))
  refine wpAny_bind (wpAny_holding ?_)
  have hn := I.hok.fresh (Nat.le_refl s.heap.objs.size)
  have I1 := I.laid (a := s.heap.objs.size) (o := .dK []) (h' := s.heap.push { cls := .type "dict", data := .dict #[] }) (t' := s.toks) (fun _ _ q => Heap.get?_push_of_some _ q) (Nat.le_refl _) (dk_empty s.heap I.big)
  have h1 := he.run pins _ _ _ _ I1 (h _ hn)
  refine wpAny_bind ?_
  rw [List.forIn_cons]
  refine wpAny_bind (wpAny_bind (wpAny_of_eq (a := PUnit.unit) rfl ?_))
  refine wpAny_bind (hr' (thn h1 ?_))
  rintro v s2 ⟨y, H2, I2, ry, d, kv, rfl, hne, hd, hp, q⟩
  obtain rfl : v = Value.ref d := ry
  obtain ⟨z1, b1, vs1, rel1, dd1⟩ := dk_of I2.hok hd
  obtain ⟨z2, b2, vs2, rel2, dd2⟩ := dk_of I2.hok hp
  cases rel2
  obtain ⟨kw, rfl, rkw⟩ := kv_split rel1
  have hnd : ((kw.map fun q => ((Sum.inr q.1 : Key), q.2)).map (·.1)).Nodup := let ⟨_, _, _, _, _, _, _, _, z⟩ := dd1; z
  refine wpAny_bind (wpAny_onRaise (wpAny_holding (wpAny_tryCatch (wpAny_onRaise (wpAny_mergeMapping (Ne.symm hne) b1 dd2 dd1 (fun _ => by simpa using hnd) (fun h' dd' hs => ?_) (by rw [← Paired.length rel1]; simpa using z1))))))
  rw [merged_kw hnd] at dd'
  have I3 : Inv X pins σ (upd H2 s.heap.objs.size (.dK (kwKeys kv))) { s2 with heap := h' } := d_write I2 (by rw [hp]; exact True.intro) hs (let ⟨q, _, _, hq, _⟩ := dd'; ⟨q, hq⟩) (dk_new z1 b2 rel1 dd')
  refine wpAny_pure ?_
  dsimp only
  rw [List.forIn_nil]
  refine wpAny_pure (wpAny_of_eq (a := PUnit.unit) rfl (wpAny_pure (wpAny_bind (wpAny_pure ?_))))
  refine wpAny_bind (wpAny_holding (keywordsIn_of dd' (wpAny_pure ⟨I3.kIn, ?_⟩)))
  exact run_makeKw (us := []) (vs := []) M F hr hx I3 .nil rkw q
theorem kw_star {X : Cx} {e : Expr} {kp pos : Pos} : ∃ u : Sem Value, backToKw pos (keywordEach [⟨none, e, kp⟩] X.env) = [(none, u)] ∧ ∀ {Q : Value → Shared → Prop} {s : Shared}, wpAny (model X.prog X.w) X.A (eval e X.env) Q X.xe s → wpAny (model X.prog X.w) X.A u Q X.xe s :=
  ⟨_, rfl, fun h => wpAny_bind (thn h fun _ _ q => wpAny_bind (wpAny_standAt (wpAny_pure q)))⟩
theorem kv_zip : ∀ {ks : List Str} {zs : List V} {ws : List Value}, Vals zs ws → KV (ks.zip zs) (ks.zip ws)
  | [], _, _, _ => .nil
  | _ :: _, [], [], .nil => .nil
  | _ :: _, _ :: _, _ :: _, .cons a r => .cons ⟨rfl, a⟩ (kv_zip r)
/-- C(k = e, ..) -/
def tMakeK (C : Addr) (sp : SpK) (E : XK) (ks : List Str) (tk : TA) : TE := fun σ H Q => tk σ H fun zs H1 => ∀ x dx, H1 x = none → H1 dx = none → dx ≠ x → sp [.ref x] (ks.zip zs) (upd (upd H1 dx (.own x)) x (.ins C dx [])) (fun v H2 => v = .non ∧ Q (.ref x) H2) E
theorem pe_makeK {kws : List Keyword} {ks : List Str} {tk : TA} (M : Mk X.K C f) (F : FnKw X.prog X.w X.K X.mg X.base CX k f sp) (hr : Room (k + 1) X.A) (hg : Gl X x) (hm : X.mg x = some (.ref C)) (hx : Passes CX X E) (hkw : PK X kws tk) (hdb : (x == ("__debug__" : Str)) = false := by decide)
    (hall : (backToKw pos (keywordEach kws X.env)).all (·.1.isSome) = true := by rfl) (hks : (backToKw pos (keywordEach kws X.env)).filterMap (·.1) = ks := by rfl) (hany : (backToKw pos (keywordEach kws X.env)).any (·.1.isNone) = false := by rfl) :
    PE X (.Call (.Name x p1) [] kws pos) (tMakeK C sp E ks tk) := by
  refine ⟨fun pins s σ H Q I h => ?_⟩
  refine wpAny_Call_Name_kw (ld_glob I hg hm ?_ hdb)
  refine PySem.W.callWith_of (P := fun h => X.K.In h) (by show (false || _) = false; rw [hany]; rfl) (fun h hh => PySem.W.keeps_K M.kp h hh) ?_
  unfold evalArgs
  refine wpAny_bind (wpAny_of_eq (a := []) rfl (wpAny_bind (wpAny_pure ?_)))
  dsimp only
  refine wpAny_holding ?_
  rw [if_pos hall, hks]
  refine wpAny_bind (thn (hkw.run pos pins s σ H _ I h) fun ws s2 ⟨zs, H2, I2, rz, q⟩ => ?_)
  refine wpAny_bind (wpAny_pure (wpAny_pure ⟨I2.kIn, ?_⟩))
  exact run_makeKw (us := []) (vs := []) M F hr hx I2 .nil (kv_zip rz) q
end
end N1
set_option maxHeartbeats 2000000
/-! {**a, k: v} -/
namespace N1
open PySem PySem.Spec PyProof.Rows L2
section
variable {X : Cx} {pins : List (Addr × Obj)} {σ : L2.St} {H : Hp} {s : Shared} {a k v : Expr} {ta tk tv : TE} {pos : Pos}
/-- {**a, k: v}: p the new dict, q a dict of the one pair (it is merged too) -/
def tDispU (ta tk tv : TE) : TE := fun σ H Q => ∀ p, H p = none → ta σ (upd H p (.dK [])) fun x H1 => ∃ d kvs, x = .ref d ∧ d ≠ p ∧ H1 d = some (.dK kvs) ∧ H1 p = some (.dK []) ∧ kvs.length < sizeLine ∧
  ∀ q, (upd H1 p (.dK kvs)) q = none → tk σ (upd (upd H1 p (.dK kvs)) q (.dK [])) fun y H2 => tv σ H2 fun z H3 => ∃ key : Key, y = kV key ∧ H3 q = some (.dK []) ∧ H3 p = some (.dK kvs) ∧ Q (.ref p) (upd (upd H3 q (.dK [(key, z)])) p (.dK (putK kvs key z)))
theorem dictDisplay_u {A B C : Sem Value} : dictDisplay [(none, A), (some B, C)] = (do
    let d ← (alloc ({ cls := .type "dict", data := .dict #[] } : Obj) : Sem Addr)
    let m ← holding [.ref d] A
    (((holding [.ref d, m] (mergeMapping d m false)).onRaise fun x => do let _ ← holding [.ref d, m, x] (runValue (.builtin "proto.let_go" {}))).tryCatch fun e => do
        if ← isInstance e (.type "AttributeError") then
          rule "dict.display.not-a-mapping"; raiseError "TypeError" s!"'{← typeNameOf m}' object is not a mapping"
        throw e).onRaise fun x => do let _ ← holding [.ref d, x] (runValue (.builtin "proto.let_go" {}))
    let sub ← holding [.ref d] (subDict [(B, C)])
    (holding [.ref d, .ref sub] (mergeMapping d (.ref sub) false)).onRaise fun x => do let _ ← holding [.ref d, x] (runValue (.builtin "proto.let_go" {}))
    pure (.ref d)) := by
  unfold dictDisplay
  simp [List.forIn_cons]
theorem mergeK_nil : ∀ {kvs acc : List (Key × V)}, (∀ q ∈ kvs, q.1 ∉ acc.map (·.1)) → (kvs.map (·.1)).Nodup → mergeK acc kvs = acc ++ kvs
  | [], acc, _, _ => by simp [mergeK]
  | (k, v) :: r, acc, h, hn => by
    have hk : k ∉ acc.map (·.1) := h (k, v) List.mem_cons_self
    have hn2 := List.nodup_cons.mp (show (k :: r.map (·.1)).Nodup from hn)
    have e : mergeK acc ((k, v) :: r) = mergeK (putK acc k v) r := rfl
    have e2 : putK acc k v = acc ++ [(k, v)] := by
      refine putK_new _ ?_
      cases z : valV acc k with
      | none => rfl
      | some u => exact absurd (valV_in z) hk
    rw [e, e2, mergeK_nil (acc := acc ++ [(k, v)]) (fun q hq hm => ?_) hn2.2]
    · simp
    · rw [List.map_append] at hm
      rcases List.mem_append.mp hm with hm | hm
      · exact h q (List.mem_cons_of_mem _ hq) hm
      · have z : q.1 = k := by simpa using hm
        exact hn2.1 (List.mem_map.mpr ⟨q, hq, z⟩)
theorem stored_put {kvs : List (Key × V)} {vs : List (Key × Value)} {k : Key} {v : V} {u : Value} (r : KV kvs vs) (rv : RelV v u) : KV (putK kvs k v) (stored vs k u) := r.put k rv
theorem pe_dispU (ha : PE X a ta) (hk : PE X k tk) (hv : PE X v tv)
    (he : eval (.Dict [none, some k] [a, v] pos) X.env = (do standAt pos; dictDisplay [(none, do let x ← eval a X.env; standAt pos; pure x), (some (eval k X.env), do let x ← eval v X.env; standAt pos; pure x)]) := by rfl) :
    PE X (.Dict [none, some k] [a, v] pos) (tDispU ta tk tv) := by
  refine ⟨fun pins s σ H Q I h => ?_⟩
  rw [he, dictDisplay_u]
  refine wpAny_bind (wpAny_standAt (wpAny_bind (wpAny_alloc ?_)))
  have hn := I.hok.fresh (Nat.le_refl s.heap.objs.size)
  have I1 := I.laid (a := s.heap.objs.size) (o := .dK []) (h' := s.heap.push { cls := .type "dict", data := .dict #[] }) (t' := s.toks) (fun _ _ q => Heap.get?_push_of_some _ q) (Nat.le_refl _) (dk_empty s.heap I.big)
  refine wpAny_bind (wpAny_holding (wpAny_bind (thn (ha.run pins _ _ _ _ I1 (h _ hn)) ?_)))
  rintro u s2 ⟨y, H2, I2, ry, d, kvs, rfl, hne, hd, hp, hl, q⟩
  obtain rfl : u = Value.ref d := ry
  refine wpAny_bind (wpAny_standAt (wpAny_pure ?_))
  obtain ⟨z1, b1, vs1, rel1, dd1⟩ := dk_of I2.hok hd
  obtain ⟨z2, b2, vs2, rel2, dd2⟩ := dk_of I2.hok hp
  cases rel2
  have hnd : (vs1.map (·.1)).Nodup := let ⟨_, _, _, _, _, _, _, _, z⟩ := dd1; z
  refine wpAny_bind (wpAny_onRaise (wpAny_tryCatch (wpAny_onRaise (wpAny_holding (wpAny_mergeMapping (u := false) (Ne.symm hne) b1 dd2 dd1 (fun z => by cases z) (fun h' dd' hs => ?_) (by rw [← Paired.length rel1]; simpa using z1))))))
  rw [merged_kw hnd] at dd'
  have I3 : Inv X pins σ (upd H2 s.heap.objs.size (.dK kvs)) { s2 with heap := h' } := d_write I2 (by rw [hp]; exact True.intro) hs (let ⟨q, _, _, hq, _⟩ := dd'; ⟨q, hq⟩) (dk_new z1 b2 rel1 dd')
  -- the dict of the one pair
  refine wpAny_bind (wpAny_holding ?_)
  unfold subDict
  refine wpAny_bind (wpAny_alloc (wpAny_bind (wpAny_holding ?_)))
  have hn3 := I3.hok.fresh (Nat.le_refl h'.objs.size)
  have I4 := I3.laid (a := h'.objs.size) (o := .dK []) (h' := h'.push { cls := .type "dict", data := .dict #[] }) (t' := s2.toks) (fun _ _ q => Heap.get?_push_of_some _ q) (Nat.le_refl _) (dk_empty h' I3.big)
  rw [if_pos (show ([_] : List (Sem Value × Sem Value)).length ≤ 15 from Nat.le_of_ble_eq_true rfl)]
  unfold evalPairs
  refine wpAny_bind (wpAny_bind (thn (hk.run pins _ _ _ _ I4 (q _ hn3)) ?_))
  rintro ku s5 ⟨y5, H5, I5, r5, q5⟩
  refine wpAny_bind (wpAny_holding (wpAny_bind (thn (hv.run pins _ _ _ _ I5 q5) ?_)))
  rintro vu s6 ⟨y6, H6, I6, r6, key, rfl, hq6, hp6, q6⟩
  refine wpAny_bind (wpAny_standAt (wpAny_pure ?_))
  unfold evalPairs
  refine wpAny_bind (wpAny_holding (wpAny_pure (wpAny_pure ?_)))
  refine wpAny_holding ?_
  rw [List.forIn_cons]
  dsimp only
  refine wpAny_bind (wpAny_bind (wpAny_bind (d_dictSet (E := X.xe) I6 hq6 (by decide) r5 r6 fun s7 I7 => wpAny_pure ?_)))
  dsimp only
  rw [List.forIn_nil]
  refine wpAny_pure (wpAny_pure ?_)
  have hqp : h'.objs.size ≠ s.heap.objs.size := fun e => by
    rw [e] at hn3
    rw [upd_same] at hn3
    cases hn3
  have hp7 : upd H6 h'.objs.size (.dK (putK [] key y6)) s.heap.objs.size = some (.dK kvs) := by rw [upd_ne (Ne.symm hqp)]; exact hp6
  obtain ⟨z8, b8, vs8, rel8, dd8⟩ := dk_of I7.hok (a := h'.objs.size) upd_same
  obtain ⟨z9, b9, vs9, rel9, dd9⟩ := dk_of I7.hok hp7
  have e8 : putK [] key y6 = [(key, y6)] := rfl
  rw [e8] at rel8
  cases rel8 with
  | cons a8 r8 =>
    rename_i q8 l8
    cases r8
    obtain ⟨k8, u8⟩ := q8
    obtain ⟨e9, ru8⟩ := a8
    have e9 : key = k8 := e9
    subst e9
    refine wpAny_pure ?_
    refine wpAny_bind (wpAny_onRaise (wpAny_holding (wpAny_mergeMapping (u := false) (Ne.symm hqp) b8 dd9 dd8 (fun z => by cases z) (fun h2 dd2 hs2 => ?_) (by rw [← Paired.length rel9]; exact hl))))
    have em : merged vs9 [(key, u8)] = stored vs9 key u8 := rfl
    rw [em] at dd2
    have hlen : (putK kvs key y6).length ≤ sizeLine := by have := length_putK kvs key y6; omega
    have I9 := d_write (ob := .dK (putK kvs key y6)) (t' := s7.toks) I7 (by rw [hp7]; exact True.intro) hs2 (let ⟨q, _, _, hq, _⟩ := dd2; ⟨q, hq⟩) (dk_new hlen b9 (stored_put rel9 ru8) dd2)
    exact wpAny_pure ⟨.ref s.heap.objs.size, _, I9, rfl, q6⟩
end
end N1
set_option maxHeartbeats 2000000
/-! sets of texts -/
namespace N1
open PySem PySem.Spec PyProof.Rows L2 PpSet
/-- the text of an entry -/
def keyS (e : Int × Value) : Str := match e.2 with | .str k _ => k | _ => Str.empty
def GoodS (w : World) (e : Int × Value) : Prop := ∃ k tk, e.2 = Value.str k tk ∧ e.1 = hashStr w k
/-- the set of texts at a: S its members, n their number; its table rises and can be walked -/
def SetS (w : World) (h : Heap) (a : Addr) (S : Str → Bool) (n : Nat) : Prop :=
  ∃ o es ep t, h.get? a = some o ∧ o.ExactSet ∧ o.data = .set es ep t ∧ (∀ e ∈ es.toList, GoodS w e) ∧ (es.toList.map keyS).Nodup ∧ (∀ k, S k = true ↔ k ∈ es.toList.map keyS) ∧
    es.size < scanBound ∧ t.fits es.size = true ∧ es.size = n ∧ Ris t.place.toList ∧ (w.params.followText "set-order" = true ∨ t.led = true)
section
variable {P : Program} {w : World} {h h' : Heap} {a : Addr} {S : Str → Bool} {n : Nat}
theorem SetS.at (R : SetS w h a S n) (k : ∀ o, h.get? a = some o → h'.get? a = some o) : SetS w h' a S n := by
  obtain ⟨o, es, ep, t, ho, r⟩ := R
  exact ⟨o, es, ep, t, k o ho, r⟩
theorem SetS.lt (R : SetS w h a S n) : a < h.objs.size := by
  obtain ⟨o, es, ep, t, ho, r⟩ := R
  exact Heap.lt_size ho
theorem SetS.congr {S' : Str → Bool} (R : SetS w h a S n) (e : ∀ k, S' k = S k) : SetS w h a S' n := by
  have q : S' = S := funext e
  rw [q]; exact R
theorem goodS_elems {l : List (Int × Value)} (g : ∀ e ∈ l, GoodS w e) : ElemsOf (PySem.strKind P w) l := fun e he => by
  obtain ⟨k, tk, h1, h2⟩ := g e he
  exact ⟨⟨k, by rw [h1]; exact strKind_is P w k tk, h2⟩, by rw [h1] <;> rfl⟩
theorem goodS_is {e : Int × Value} (g : GoodS w e) (k : Str) : (PySem.strKind P w).is k e.2 = true ↔ keyS e = k := by
  obtain ⟨k0, tk, h1, _⟩ := g
  unfold keyS
  rw [h1]
  show ((k0 == k) = true) ↔ k0 = k
  exact beq_iff_eq
theorem goodS_mem {l : List (Int × Value)} (g : ∀ e ∈ l, GoodS w e) (k : Str) : k ∈ l.map keyS ↔ ∃ e ∈ l, (PySem.strKind P w).is k e.2 = true := by
  rw [List.mem_map]
  constructor
  · rintro ⟨e, he, q⟩
    exact ⟨e, he, (goodS_is (g e he) k).2 q⟩
  · rintro ⟨e, he, q⟩
    exact ⟨e, he, (goodS_is (g e he) k).1 q⟩
theorem SetS.setOf (R : SetS w h a S n) : h.SetOf (PySem.strKind P w) a S n := by
  obtain ⟨o, es, ep, t, ho, hx, hd, g, nd, hm, hb, hf, hn, _⟩ := R
  exact ⟨o, es, ep, t, ho, hx, hd, goodS_elems g, fun k => (hm k).trans (goodS_mem g k), hb, hf, hn⟩
end
section
variable {P : Program} {w : World} {A : Around} {E : Value → Shared → Prop} {s : Shared} {a : Addr} {S : Str → Bool} {n : Nat}
/-! ### add -/
theorem storeS_at {h : Heap} {a : Addr} {o : Obj} {es es' : Array (Int × Value)} {ep : Nat} {t t' : SetTable} (ho : h.get? a = some o) (hd : o.data = .set es ep t) :
    (h.update a (Obj.putSet es' t')).get? a = some { o with data := .set es' (ep + 1) t' } := by
  have q := Heap.get?_update_self (Obj.putSet es' t') ho (by rw [putSet_of es' t' hd]; rfl)
  rw [putSet_of es' t' hd] at q
  exact q
theorem setS_add_tail {g : Bool → Sem Unit} (hg : ∀ (b : Bool) (s₁ : Shared) (Q' : Unit → Shared → Prop), Q' () s₁ → wpAny (model P w) A (g b) Q' E s₁)
    {o : Obj} {es : Array (Int × Value)} {ep : Nat} {t : SetTable} (ho : s.heap.get? a = some o) (hex : o.ExactSet) (hd : o.data = .set es ep t)
    {es1 : Array (Int × Value)} {t2 : SetTable} {S' : Str → Bool} (g1 : ∀ e ∈ es1.toList, GoodS w e) (nd1 : (es1.toList.map keyS).Nodup) (m1 : ∀ k, S' k = true ↔ k ∈ es1.toList.map keyS)
    (hb1 : es1.size < scanBound) (hf2 : t2.fits es1.size = true) (hr : Ris t2.place.toList) (hl : w.params.followText "set-order" = true ∨ t2.led = true) {wasDummy : Bool} {R : Option Bool → Shared → Prop}
    (hR : ∀ h', Heap.SameBut a s.heap h' → SetS w h' a S' es1.size → R (some true) { s with heap := h' }) :
    wpAny (model P w) A (do
        storeSet a es1 t2
        if (!wasDummy && t2.tooFull) = true then do
            g (relayAll t2 es1 (SetTable.grown es1.size)).2.2
            storeSet a (relayAll t2 es1 (SetTable.grown es1.size)).1 (relayAll t2 es1 (SetTable.grown es1.size)).2.1
            pure (some true)
          else pure (some true)) R E s := by
  refine wpAny_bind (wpAny_storeSet_of ho hd ?_ (fits_of_scanBound hb1))
  have ho1 := storeS_at (es' := es1) (t' := t2) ho hd
  have sb1 := Heap.SameBut.update s.heap a (Obj.putSet es1 t2)
  split
  · have pm := relayAll_perm t2 es1 (SetTable.grown es1.size)
    have hf3 := relayAll_fits t2 es1 (SetTable.grown es1.size)
    have hr3 := relayAll_ris t2 es1 (SetTable.grown es1.size)
    have hl3 := relayAll_led t2 es1 (SetTable.grown es1.size)
    generalize relayAll t2 es1 (SetTable.grown es1.size) = Z at pm hf3 hr3 hl3 ⊢
    obtain ⟨es2, t3, gave⟩ := Z
    dsimp only at pm hf3 hr3 hl3 ⊢
    have hsz : es2.size = es1.size := by rw [← Array.length_toList, pm.length_eq, Array.length_toList]
    have hb2 : es2.size < scanBound := by rw [hsz]; exact hb1
    refine wpAny_bind (hg _ _ _ ?_)
    refine wpAny_bind (wpAny_storeSet_of ho1 rfl ?_ (fits_of_scanBound hb2))
    have ho2 := storeS_at (es' := es2) (t' := t3) ho1 rfl
    refine wpAny_pure (hR _ (sb1.trans (Heap.SameBut.update _ a _)) ?_)
    exact ⟨_, es2, _, t3, ho2, hex, rfl, fun e he => g1 e (pm.mem_iff.mp he), (pm.map keyS).nodup_iff.mpr nd1, fun k => (m1 k).trans (pm.map keyS).mem_iff.symm, hb2, hf3, hsz, hr3,
      hl.imp id fun z => by rw [hl3]; exact z⟩
  · exact wpAny_pure (hR _ sb1 ⟨_, es1, _, t2, ho1, hex, rfl, g1, nd1, m1, hb1, hf2, rfl, hr, hl⟩)
theorem setS_add_hashed {k : Str} {tk : Tok} {Q : Bool → Shared → Prop} (R : SetS w s.heap a S n) (room : n + 1 < scanBound)
    (hQ : ∀ h', Heap.SameBut a s.heap h' → SetS w h' a (fun j => S j || decide (j = k)) (if S k = true then n else n + 1) → Q (!S k) { s with heap := h' }) :
    wpAny (model P w) A (setAddHashed a (.str k tk) ((PySem.strKind P w).hash k)) Q E s := by
  obtain ⟨o, es, ep, t, ho, hex, hd, g, nd, hm, hb, hf, hn, hr, hl⟩ := R
  have hkey : (PySem.strKind P w).is k (.str k tk) = true := strKind_is P w k tk
  have hsc : (Value.str k tk).scannable = true := rfl
  have hel : ElemsOf (PySem.strKind P w) es.toList := goodS_elems g
  unfold setAddHashed setAddHashedIn
  refine wpAny_holding (wpAny_bind (wpAny_setState_of ho hd hf ?_))
  dsimp only
  rw [byScan_of hsc hb hel]
  simp only [↓reduceIte]
  unfold setAddByScan
  refine wpAny_bind ?_
  refine wpAny_bind (wpAny_rule ?_)
  refine wpAny_bind (wpAny_setScan_of hkey ho hd hf hel ?_)
  cases hfi : List.findIdx? (fun e => (PySem.strKind P w).is k e.2) es.toList with
  | some j =>
    dsimp only
    obtain ⟨hj, pj, _⟩ := List.findIdx?_eq_some_iff_getElem.mp hfi
    have hSk : S k = true := (hm k).2 ((goodS_mem (P := P) (w := w) g k).2 ⟨es.toList[j], List.getElem_mem hj, pj⟩)
    refine wpAny_pure (wpAny_pure ?_)
    have q := hQ s.heap (Heap.SameBut.refl a s.heap) ⟨o, es, ep, t, ho, hex, hd, g, nd, fun i => by
      rw [Bool.or_eq_true, decide_eq_true_eq, ← hm i]
      exact ⟨fun z => z.elim id (fun e => e ▸ hSk), .inl⟩, hb, hf, by rw [if_pos hSk]; exact hn, hr, hl⟩
    rw [hSk] at q
    exact q
  | none =>
    dsimp only
    have hnk : k ∉ es.toList.map keyS := fun z => by
      obtain ⟨e, he, q⟩ := (goodS_mem (P := P) (w := w) g k).1 z
      have c := List.findIdx?_eq_none_iff.mp hfi e he
      rw [q] at c
      cases c
    have hSk : S k = false := by
      cases q : S k with
      | false => rfl
      | true => exact absurd ((hm k).1 q) hnk
    have hgw : ∀ (b : Bool) {s₁ : Shared} {Q' : Unit → Shared → Prop}, Q' () s₁ → wpAny (model P w) A (match b with | true => rule "set.scan.the-table-gave-way" | false => pure ()) Q' E s₁ :=
      fun b s₁ Q' q => by cases b <;> first | exact wpAny_pure q | exact wpAny_rule q
    have pm := layNew_perm t es ((PySem.strKind P w).hash k) (.str k tk)
    have hf1 := layNew_fits t es ((PySem.strKind P w).hash k) (.str k tk)
    have hr1 := layNew_ris t es ((PySem.strKind P w).hash k) (.str k tk) hr
    have hl1 := layNew_led t es ((PySem.strKind P w).hash k) (.str k tk)
    generalize layNew t es ((PySem.strKind P w).hash k) (.str k tk) = Z at pm hf1 hr1 hl1 ⊢
    obtain ⟨es1, t1, wasDummy, gave⟩ := Z
    dsimp only at pm hf1 hr1 hl1 ⊢
    rw [Array.toList_push] at pm
    have pc : es1.toList.Perm (((PySem.strKind P w).hash k, Value.str k tk) :: es.toList) := pm.trans (List.perm_append_singleton _ _)
    have pk : (es1.toList.map keyS).Perm (k :: es.toList.map keyS) := pc.map keyS
    have g1 : ∀ e ∈ es1.toList, GoodS w e := fun e he => by
      rcases List.mem_cons.mp (pc.mem_iff.mp he) with z | z
      · rw [z]; exact ⟨k, tk, rfl, rfl⟩
      · exact g e z
    have nd1 : (es1.toList.map keyS).Nodup := pk.nodup_iff.mpr (List.nodup_cons.mpr ⟨hnk, nd⟩)
    have m1 : ∀ i, (S i || decide (i = k)) = true ↔ i ∈ es1.toList.map keyS := fun i => by
      rw [Bool.or_eq_true, decide_eq_true_eq, hm i, pk.mem_iff, List.mem_cons]
      exact Or.comm
    have hsz : es1.size = n + 1 := by rw [← Array.length_toList, pc.length_eq, List.length_cons, Array.length_toList, hn]
    have hb1 : es1.size < scanBound := by rw [hsz]; exact room
    have hled : w.params.followText "set-order" = true ∨ t1.led = true := hl.imp id fun z => by rw [hl1]; exact z
    have fin : ∀ h', Heap.SameBut a s.heap h' → SetS w h' a (fun j => S j || decide (j = k)) es1.size → Q true { s with heap := h' } := fun h' sb r => by
      have q := hQ h' sb
      rw [hSk] at q
      rw [hsz] at r
      exact q r
    refine wpAny_bind (hgw _ ?_)
    split
    · refine wpAny_bind ?_
      rw [hashByValue_scannable 8 hsc]
      refine wpAny_pure ?_
      refine setS_add_tail ?_ ho hex hd g1 nd1 m1 hb1 ?_ ?_ ?_ ?_
      · intro b s₁ Q' q; cases b <;> first | exact wpAny_pure q | exact wpAny_rule q
      · first | (split <;> first | exact hf1 | exact SetTable.fits_plain_off hf1) | exact hf1
      · first | (split <;> exact hr1) | exact hr1
      · first | (split <;> exact hled) | exact hled
      · intro h' sb r; dsimp only; exact wpAny_pure (fin h' sb r)
    · refine wpAny_bind (wpAny_pure ?_)
      simp only [↓reduceIte]
      refine setS_add_tail ?_ ho hex hd g1 nd1 m1 hb1 hf1 hr1 hled ?_
      · intro b s₁ Q' q; cases b <;> first | exact wpAny_pure q | exact wpAny_rule q
      · intro h' sb r; dsimp only; exact wpAny_pure (fin h' sb r)
/-- found.add(k) -/
theorem setS_add {k : Str} {tk : Tok} {Q : Value → Shared → Prop} (R : SetS w s.heap a S n) (room : n + 1 < scanBound)
    (hQ : ∀ h', Heap.SameBut a s.heap h' → SetS w h' a (fun j => S j || decide (j = k)) (if S k = true then n else n + 1) → Q .none { s with heap := h', toks := s.toks + 1 }) :
    wpAny (model P w) A (call (.builtin "set.add") [.ref a, .str k tk]) Q E s := by
  have hS : s.heap.SetOf (PySem.strKind P w) a S n := R.setOf
  refine wpAny_call_entry F.slot_set_add hS.typeIs F.entry_set_add ?_ (F.args_set_add_2 _ _)
  unfold Builtin.«set.add» Builtin.Frozenset.oneOther
  simp only [List.isEmpty_nil, bind_assoc]
  unfold Builtin.Frozenset.addrOf setAdd
  refine wpAny_bind (wpAny_pure ?_)
  try dsimp only
  refine wpAny_bind (wpAny_pure ?_)
  try dsimp only
  refine wpAny_bind ?_
  refine wpAny_holding ?_
  refine wpAny_bind ((PySem.strKind P w).pyHash (strKind_is P w k tk) ?_)
  refine setS_add_hashed (s := { s with toks := s.toks + 1 }) R room fun h' sb r => ?_
  show wpAny _ _ (ret Value.none) _ _ _
  exact wpAny_pure ⟨_, rfl, hQ h' sb r⟩
end
section
variable {P : Program} {w : World} {A : Around} {E : Value → Shared → Prop} {s : Shared}
/-! ### a new set -/
theorem setS_fresh {h : Heap} (w : World) : SetS w (h.push { cls := .type "set", dict := none, data := .set #[] 0 (.fresh 0 0 (!w.params.followText "set-order")) }) h.objs.size (fun _ => false) 0 :=
  ⟨_, #[], 0, _, Heap.get?_push_size _ rfl, ⟨rfl, rfl, rfl⟩, rfl, (fun e he => by simp at he), (by simp), (fun k => by simp), (by decide), (by rfl), rfl, List.Pairwise.nil, by
    show _ ∨ (!w.params.followText "set-order") = true
    cases w.params.followText "set-order"
    · exact .inr rfl
    · exact .inl rfl⟩
end
/-! ### as tracked things -/
/-- the set of texts at a -/
def SetSO (w : World) (a : Addr) (S : Str → Bool) (n : Nat) : HO := .ext fun h => SetS w h a S n
theorem setSO_new {w : World} {P : Program} {H : Hp} {h : Heap} {a : Addr} {S : Str → Bool} {n : Nat} (R : SetS w h a S n) : ObjOk P w H h a (SetSO w a S n) := by
  have ⟨o, _, _, _, ho, _⟩ := R
  exact ⟨R, ⟨o, ho⟩, fun h1 h2 p k => SetS.at p k⟩
section
variable {X : Cx}
theorem setSO_get {pins : List (Addr × Obj)} {σ : L2.St} {H : Hp} {s : Shared} {a : Addr} {S : Str → Bool} {n : Nat} (I : Inv X pins σ H s) (ha : H a = some (SetSO X.w a S n)) : SetS X.w s.heap a S n := (I.hok a _ ha).1
/-- set.add of a text -/
theorem addS_ok {pins : List (Addr × Obj)} {σ : L2.St} {H : Hp} {s : Shared} {E : Value → Shared → Prop} {D : Addr} {S : Str → Bool} {n : Nat} {y : Str} {tk : Tok} {Q : Value → Shared → Prop} (I : Inv X pins σ H s) (hD : H D = some (SetSO X.w D S n)) (room : n + 1 < scanBound)
    (h : ∀ s', Inv X pins σ (upd H D (SetSO X.w D (fun j => S j || decide (j = y)) (if S y = true then n else n + 1))) s' → Q .none s') : wpAny (model X.prog X.w) X.A (call (.builtin "set.add") [.ref D, .str y tk]) Q E s := by
  have R := setSO_get I hD
  refine setS_add R room fun h' sb new => ?_
  have he : ∃ u, h'.get? D = some u := by
    have ⟨o, _, _, _, ho, _⟩ := new
    exact ⟨o, ho⟩
  exact h _ (I.write (e := D) (t' := s.toks + 1) (by rw [hD]; trivial) (.inl rfl) (fun b u hb hu => (sb.2 b hb).trans hu) he (setSO_new new))
end
end N1
set_option maxHeartbeats 3200000
/-! set(list of texts), sorted and len of such a set -/
namespace N1
open PySem PySem.Spec PyProof.Rows L2 PpSet
section
variable {P : Program} {w : World} {A : Around} {E : Value → Shared → Prop} {s : Shared}
theorem setS_freshAt {h : Heap} {a : Addr} (w : World) (ho : h.get? a = some { cls := .type "set", dict := none, data := .set #[] 0 (.fresh 0 0 (!w.params.followText "set-order")) }) : SetS w h a (fun _ => false) 0 :=
  ⟨_, #[], 0, _, ho, ⟨rfl, rfl, rfl⟩, rfl, (fun e he => by simp at he), (by simp), (fun k => by simp), (by decide), (by rfl), rfl, List.Pairwise.nil, by
    show _ ∨ (!w.params.followText "set-order") = true
    cases w.params.followText "set-order"
    · exact .inr rfl
    · exact .inl rfl⟩
theorem set_update_texts {I : Addr} {fp wr : List Addr} {G : Array GenState → Array GenState → Prop} {n : Nat} {Pv : Nat → Value → Prop} {St : Nat → Shared → Prop} {R : Result → Shared → Prop}
    (W : WalksS P w A.in1 I fp wr G n Pv St) (S : Addr) (hSf : S ∉ fp) (xs : List Str) (hn : n = xs.length) (hfew : xs.length < 1000) (hval : ∀ i v, Pv i v → ∃ x tk, xs[i]? = some x ∧ v = .str x tk)
    (h0 : Heap) (hS0 : h0.get? S = none) (hw0 : ∀ b ∈ wr, h0.get? b = none) :
    ∀ (k i : Nat) (s : Shared), n - i = k → i ≤ n → St i s → (∀ b o, h0.get? b = some o → s.heap.get? b = some o) → (∃ m, SetS w s.heap S (fun k' => (xs.take i).any (· == k')) m ∧ m ≤ i) →
      (∀ s' m, Moved (S :: wr) G s s' → SetS w s'.heap S (fun k' => xs.any (· == k')) m → m ≤ xs.length → (∀ b o, h0.get? b = some o → s'.heap.get? b = some o) → R (.ok (.ret .none)) s') →
      codeAny (model P w) A (.builtin "set.update.loop" ⟨[.ref S, .ref I], []⟩) R s := by
  have hSw : S ∉ wr := fun h => hSf (W.sub _ h)
  have hsub : ∀ b ∈ wr, b ∈ S :: wr := fun b hb => List.mem_cons_of_mem _ hb
  have keepM : ∀ {s s' : Shared}, Moved wr G s s' → (∀ b o, h0.get? b = some o → s.heap.get? b = some o) → ∀ b o, h0.get? b = some o → s'.heap.get? b = some o := fun hm hkp b o e =>
    hm.heap b o (fun hb => by rw [hw0 b hb] at e; cases e) (hkp b o e)
  intro k
  induction k with
  | zero =>
    intro i s hk' hi hst hkp ⟨m, hS, hmi⟩ hR
    have hin : i = n := by omega
    subst hin
    refine codeAny_builtin F.entry_set_update_loop ?_
    rw [Around.under_plainId F.plain_set_update_loop _]
    show wpAny _ A.in1 (pyNext (.ref I) >>= _) _ _ s
    refine wpAny_bind (W.done s _ _ hst fun s' hm => ?_)
    show wpAny _ A.in1 (ret Value.none) _ _ s'
    refine wpAny_pure (hR s' m (hm.mono hsub) ?_ (by omega) (keepM hm hkp))
    rw [hn, List.take_length] at hS
    exact hS.at fun o e => hm.heap S o hSw e
  | succ k ih =>
    intro i s hk' hi hst hkp ⟨m, hS, hmi⟩ hR
    have hlt : i < n := by omega
    refine codeAny_builtin F.entry_set_update_loop ?_
    rw [Around.under_plainId F.plain_set_update_loop _]
    show wpAny _ A.in1 (pyNext (.ref I) >>= _) _ _ s
    refine wpAny_bind (W.item i s _ _ hlt hst fun v s' hP hst' hm => ?_)
    obtain ⟨x, tk, hx, rfl⟩ := hval i v hP
    have hkp' := keepM hm hkp
    have hS' : SetS w s'.heap S (fun k' => (xs.take i).any (· == k')) m := hS.at fun o e => hm.heap S o hSw e
    show wpAny _ A.in1 (holding [Value.str x tk] (setAdd S (.str x tk)) >>= _) _ _ s'
    refine wpAny_bind (wpAny_holding ?_)
    unfold setAdd
    refine wpAny_holding ?_
    refine wpAny_bind ((PySem.strKind P w).pyHash (k := x) (strKind_is _ _ _ _) ?_)
    refine setS_add_hashed (s := { s' with toks := s'.toks + 1 }) hS' (by unfold scanBound; omega) fun h' hsb hS2 => ?_
    have e1 : xs.take (i + 1) = xs.take i ++ [x] := by
      rw [List.take_succ, hx]; rfl
    have hS3 : ∃ m', SetS w h' S (fun k' => (xs.take (i + 1)).any (· == k')) m' ∧ m' ≤ i + 1 := by
      refine ⟨_, hS2.congr fun k' => ?_, by split <;> omega⟩
      rw [e1, List.any_append]
      congr 1
      by_cases z : k' = x
      · subst z; simp
      · have hb : (x == k') = false := by simpa [beq_iff_eq] using (fun h' : x = k' => z h'.symm)
        simp [hb, z]
    have hkp2 : ∀ b o, h0.get? b = some o → h'.get? b = some o := fun b o e => (hsb.2 b (fun z => by rw [z, hS0] at e; cases e)).trans (hkp' b o e)
    refine wpAny_pure ⟨plainId_quiet F.plain_set_update_loop _, ih (i + 1) _ (by omega) hlt (W.frame _ s' _ _ hst' (Nat.le_add_right _ _) fun b hb o e => ?_) hkp2 hS3 fun s'' m2 hm'' hS'' hml hkp'' => ?_⟩
    · rw [hsb.2 b (fun h : b = S => hSf (by rw [← h]; exact hb))]; exact e
    · refine hR s'' m2 (Moved.trans W.gtrans ((hm.mono hsub).then_heap (Nat.le_add_right _ _) fun b o hb e => ?_) hm'') hS'' hml hkp''
      rw [hsb.2 b (fun h : b = S => hb (by rw [h]; exact List.mem_cons_self))]; exact e
/-- set(xs) -/
theorem call_set_texts {l : Addr} {items : Array Value} (xs : List Str) {Q : Value → Shared → Prop} (hh : A.handled = none) (hl : s.heap.IsList l items) (hit : StrsAre items.toList xs) (hfew : xs.length < 1000)
    (h : ∀ (h' : Heap) (tk : Nat) m, SetS w h' s.heap.objs.size (fun k => xs.any (· == k)) m → m ≤ xs.length → (∀ b o, s.heap.get? b = some o → h'.get? b = some o) → Q (.ref s.heap.objs.size) { s with heap := h', toks := tk }) :
    wpAny (model P w) A (call (.type "set") [.ref l]) Q E s := by
  have hisz : items.size = xs.length := by
    rw [← Array.length_toList]; exact StrsAre.len_eq hit
  obtain ⟨c, tl, hmro⟩ := F.called_set.mro
  have hmade := F.called_set.made
  have hsub := F.called_set.sub
  refine wpAny_call (codeAny_of_tree ?_)
  show wpAny _ _ (callAny (.type "set") _) _ _ _
  refine wpAny_pure ⟨Code.quiet_builtin _ (by decide +kernel), codeAny_builtin F.entry_type_call ?_⟩
  rw [Around.under_plain (weight_type_call_type "set" [.ref l] []) rfl]
  have h1 := F.called_set.notType
  have h2 := F.called_set.canCreate
  have hct := F.typeCall_set_1 (.ref l)
  repeat (any_goals (first | assumption | wp_step))
  refine codeAny_mono (code_set_led1 (.ref l) (E := E) (Q₁ := fun obj s₁ => obj = .ref s.heap.objs.size ∧ s₁ = { s with heap := s.heap.push { cls := .type "set", dict := none, data := .set #[] 0 (.fresh 0 0 (!w.params.followText "set-order")) } }) ⟨rfl, rfl⟩) fun r s₁ hr => ?_
  cases r with
  | error e => exact hr
  | ok fl =>
    cases fl with
    | ret obj =>
      obtain ⟨rfl, rfl⟩ := hr
      have hS : (s.heap.push { cls := .type "set", dict := none, data := .set #[] 0 (.fresh 0 0 (!w.params.followText "set-order")) }).get? s.heap.objs.size = some { cls := .type "set", dict := none, data := .set #[] 0 (.fresh 0 0 (!w.params.followText "set-order")) } := Heap.get?_push_size _ rfl
      have hT : Shared.TypeIs { s with heap := s.heap.push { cls := .type "set", dict := none, data := .set #[] 0 (.fresh 0 0 (!w.params.followText "set-order")) } } (.ref s.heap.objs.size) "set" := ⟨_, hS, rfl⟩
      have hli := F.called_set.init.lookup
      have hbi := F.called_set.init.bind (.ref s.heap.objs.size)
      repeat (any_goals (first | assumption | wp_step))
      refine codeAny_mono (codeAny_call_builtin (R := wants (fun r s₂ => r = .none ∧ ∃ h' tk m, s₂ = { s with heap := h', toks := tk } ∧ SetS w h' s.heap.objs.size (fun k => xs.any (· == k)) m ∧ m ≤ xs.length ∧
          (∀ b o, s.heap.get? b = some o → h'.get? b = some o)) E) F.called_set.init.plain F.entry_set_init (check_set_init_1 hT ?_)) fun r₂ s₂ hr₂ => ?_
      · obtain ⟨ol, hol, hcl, nl, hdl⟩ := hl
        obtain ⟨ocls, odict, odata, oslots⟩ := ol
        simp only at hcl hdl
        subst hcl; subst hdl
        have hol' : (s.heap.push { cls := .type "set", dict := none, data := .set #[] 0 (.fresh 0 0 (!w.params.followText "set-order")) }).get? l = some { cls := .type "list", dict := odict, data := .seq items nl, slots := oslots } := Heap.get?_push_of_some _ hol
        have hsls := F.sub_list_set
        have hslf := F.sub_list_frozenset
        have hne : (Value.type "list" == Value.type "dict") = false := by decide
        have hl1 : (s.heap.push { cls := .type "set", dict := none, data := .set #[] 0 (.fresh 0 0 (!w.params.followText "set-order")) }).IsList l items := ⟨_, hol', rfl, nl, rfl⟩
        unfold Builtin.«set.__init__» noKeywords Builtin.Frozenset.updateFrom
        generalize hPI : pyIter = PI
        wp_walk
        subst hPI
        refine wpAny_pyIter_list hl1 ?_
        refine wpAny_bind (wpAny_runValue ?_)
        have hlS : l < s.heap.objs.size := Heap.lt_size hol
        have hh3 : A.in1.in1.in1.handled = none := by simp [hh]
        have hz1 : (s.heap.push { cls := .type "set", dict := none, data := .set #[] 0 (.fresh 0 0 (!w.params.followText "set-order")) }).objs.size = s.heap.objs.size + 1 := Heap.size_push ..
        have hneI : l ≠ (s.heap.push { cls := .type "set", dict := none, data := .set #[] 0 (.fresh 0 0 (!w.params.followText "set-order")) }).objs.size := by
          rw [Heap.size_push]; exact Nat.ne_of_lt (Nat.lt_succ_of_lt hlS)
        have hSf : s.heap.objs.size ∉ [(s.heap.push { cls := .type "set", dict := none, data := .set #[] 0 (.fresh 0 0 (!w.params.followText "set-order")) }).objs.size, l] := by
          rw [Heap.size_push]; simp only [List.mem_cons, List.mem_singleton, List.not_mem_nil, or_false, not_or]
          exact ⟨Nat.ne_of_lt (Nat.lt_succ_self _), Nat.ne_of_gt hlS⟩
        have hval : ∀ (i : Nat) (v : Value), items[i]? = some v → ∃ x tk, xs[i]? = some x ∧ v = .str x tk := fun i v hv => by
          have q : items.toList[i]? = some v := by rw [Array.getElem?_toList]; exact hv
          obtain ⟨tk, e⟩ := SS.strs_at hit i v q
          have hlt : i < xs.length := by rw [← StrsAre.len_eq hit]; exact (List.getElem?_eq_some_iff.mp q).1
          exact ⟨xs[i], tk, List.getElem?_eq_getElem hlt, by rw [e]; simp [List.getD, hlt]⟩
        have none_of : ∀ b, s.heap.objs.size ≤ b → s.heap.get? b = none := fun b hb => by
          cases q : s.heap.get? b with
          | none => rfl
          | some o => exact absurd (Nat.lt_of_lt_of_le (Heap.lt_size q) hb) (Nat.lt_irrefl _)
        refine set_update_texts ((Walks.list hh3 _ l hneI items).toS) s.heap.objs.size
          hSf xs hisz hfew hval s.heap (none_of _ (Nat.le_refl _)) (fun b hb => none_of b (by
            rw [List.mem_singleton.mp hb, Heap.size_push]
            exact Nat.le_succ _)) (items.size - 0) 0 _ (by omega) (Nat.zero_le _)
          ⟨⟨_, Heap.get?_push_size _ rfl, rfl, rfl⟩, (hl1.push _)⟩ (fun b o e => Heap.get?_push_of_some _ (Heap.get?_push_of_some _ e)) ?hS0 ?hR
        case hS0 =>
          have hget : ((s.heap.push { cls := .type "set", dict := none, data := .set #[] 0 (.fresh 0 0 (!w.params.followText "set-order")) }).push { cls := .type "list_iterator", data := .fields #[.ref l, .int 0 0] }).get? s.heap.objs.size
              = some { cls := .type "set", dict := none, data := .set #[] 0 (.fresh 0 0 (!w.params.followText "set-order")) } := Heap.get?_push_of_some _ hS
          exact ⟨0, setS_freshAt w hget, Nat.le_refl _⟩
        case hR =>
          intro s' m hm hS' hml hkp
          obtain ⟨h', g2, d', tk', os'⟩ := s'
          have eg : g2 = s.gens := hm.gens
          have ed : d' = s.drawn := hm.drawn
          have eo : os' = s.os := hm.os
          subst eg; subst ed; subst eo
          show wpAny _ _ _ _ _ _
          refine wpAny_pure ?_
          show wpAny _ _ (ret Value.none) _ _ _
          exact wpAny_pure ⟨rfl, h', tk', m, rfl, hS', hml, hkp⟩
      · cases r₂ with
        | error e => exact hr₂
        | ok fl₂ =>
          cases fl₂ with
          | ret r =>
            obtain ⟨rfl, h', tk, m, rfl, hS', hml, hk'⟩ := hr₂
            repeat (any_goals (first | assumption | wp_step))
            exact h _ _ _ hS' hml hk'
          | _ => exact hr₂.elim
    | _ => exact hr.elim
/-! sorted -/
theorem strs_of : ∀ (l : List Value), (∀ v ∈ l, ∃ k tk, v = Value.str k tk) → StrsAre l (l.map fun v => match v with | .str k _ => k | _ => Str.empty)
  | [], _ => .nil
  | v :: l, h => by
    obtain ⟨k, tk, rfl⟩ := h _ List.mem_cons_self
    exact .cons k tk (strs_of l fun u hu => h u (List.mem_cons_of_mem _ hu))
theorem listsort_texts {a : Addr} {vs : List Value} {ns : List Str} {n : Nat} {Pq : Fin → Shared → Prop} (ho : s.heap.get? a = some (seqObj "list" vs.toArray n)) (hS : StrsAre vs ns) (hL : vs.length ≤ sizeLine)
    (h : ∀ (out : Array Value) (ns' : List Str), StrsAre out.toList ns' → ns'.Perm ns → sortedS ns' = true → Pq (.done (.ret .none)) { s with heap := sortedHeap s.heap a vs out }) :
    wpAny (model P w) A (Builtin.«list.sort» ⟨[.ref a], []⟩) Pq E s := by
  refine list_sort_treeKAny strKind_oneLt ho hS.keysOf (fun v₁ v₂ rest e => keyKind_strs (by rw [← e]; exact hS)) hL fun st' hp hs => ?_
  obtain ⟨ss', h1, h2, h3⟩ := sorted_out_str hS hp hs
  exact h _ ss' h1 h2 h3
theorem sorted_setS {a : Addr} {S : Str → Bool} {n : Nat} {Q : Value → Shared → Prop} (R : SetS w s.heap a S n) (hh : A.handled = none) (h64 : n < 10000)
    (hQ : ∀ s' p (out : Array Value) (c : Nat) (ns : List Str), (∀ b o, s.heap.get? b = some o → s'.heap.get? b = some o) → s'.gens = s.gens → s'.os = s.os → s.heap.objs.size ≤ p →
      s'.heap.get? p = some (seqObj "list" out c) → StrsAre out.toList ns → sortedS ns = true → ns.Nodup → (∀ k, k ∈ ns ↔ S k = true) → ns.length = n → Q (.ref p) s') :
    wpAny (model P w) A (call (.builtin "sorted") [.ref a]) Q E s := by
  obtain ⟨o, es, ep, t, ho, hex, hd, g, nd, hm, hb, hf, hn, hr, hl⟩ := R
  refine Calls.call_function_entry kind_sorted plain_sorted entry_sorted (args_sorted1 _) ?_
  unfold Builtin.«sorted»
  refine wpAny_bind (m := checkCount "sorted" 1 1 _) (wpAny_pure ?_)
  refine wpAny_bind (collect_set (A := A.in1) hh ⟨o, ho, hex.1, hd⟩ hf hb hr hl fun s1 vs k1 hz g1 o1 pm => ?_)
  have hvl : vs.length = n := by rw [pm.length_eq, List.length_map, Array.length_toList]; exact hn
  have hI := strs_of vs fun v hv => by
    obtain ⟨e, he, q⟩ := List.mem_map.mp (pm.mem_iff.mp hv)
    obtain ⟨k, tk, h1, _⟩ := g e he
    exact ⟨k, tk, by rw [← q]; exact h1⟩
  have pk : (vs.map fun v => match v with | .str k _ => k | _ => Str.empty).Perm (es.toList.map keyS) := by
    have q := pm.map fun v : Value => match v with | .str k _ => k | _ => Str.empty
    rw [List.map_map] at q
    exact q
  refine wpAny_bind (wpAny_newList ?_ (by rw [hvl, sizeLine_eq]; omega))
  have hoL : (s1.heap.push (seqObj "list" vs.toArray 0)).get? s1.heap.objs.size = some (seqObj "list" vs.toArray 0) := Heap.get?_push_size _ rfl
  refine wpAny_bind (wpAny_holding (wpAny_call_entry slot_list_sort ⟨_, hoL, rfl⟩ entry_list_sort (listsort_texts hoL hI (by rw [hvl, sizeLine_eq]; omega) fun out ns' a1 a2 a3 => ⟨_, rfl, ?_⟩) (args_list_sort _)))
  obtain ⟨c, hc⟩ := sortedHeap_at (vs := vs) (out := out) hoL
  have pn : ns'.Perm (es.toList.map keyS) := a2.trans pk
  refine wpAny_pure ⟨_, rfl, hQ _ s1.heap.objs.size out c ns' (fun b u e => ?_) g1 o1 hz hc a1 a3 (pn.nodup_iff.mpr nd) (fun k => by rw [pn.mem_iff, ← hm k]) ?_⟩
  · have q := k1 b u e
    have hlt := Heap.lt_size q
    show (sortedHeap (s1.heap.push (seqObj "list" vs.toArray 0)) s1.heap.objs.size vs out).get? b = some u
    rw [sortedHeap_old (Nat.ne_of_lt hlt) (by rw [size_push']; exact Nat.lt_succ_of_lt hlt)]
    exact Heap.get?_push_of_some _ q
  · rw [pn.length_eq, List.length_map, Array.length_toList]; exact hn
end
section
variable {X : Cx}
/-- set(xs), xs a list of texts -/
def rSetOfS (K : PySem.W.Frag) (w : World) : List V → Hp → VK → Prop := fun vs H Q => ∃ (l : Addr) (xs : List Str), vs = [V.ref l] ∧ SqL K H l (xs.map V.str) ∧ xs.length < 1000 ∧
  ∀ p n, n ≤ xs.length → H p = none → Q (.ref p) (upd H p (SetSO w p (fun k => xs.any (· == k)) n))
theorem cr_setOfS (hc : X.calm = true) : CallR X (.type "set") (rSetOfS X.K X.w) := by
  intro pins s σ H vs us Q I r h
  obtain ⟨l, xs, rfl, hq, hl, q⟩ := h
  rw [Vals.ref1 r]
  obtain ⟨its, rv, pl, _⟩ := I.list hq
  refine call_set_texts xs (I.ok.hd hc) pl.isList (by simpa using strsAre_of rv) hl fun h' tk m hS hml hk => ?_
  exact ⟨.ref _, upd H s.heap.objs.size (SetSO X.w s.heap.objs.size (fun k => xs.any (· == k)) m), I.laid (t' := tk) hk (Nat.le_refl _) (setSO_new hS), rfl, q _ m hml (I.hok.fresh (Nat.le_refl _))⟩
/-- sorted(found) -/
def rSortedSetS (w : World) : List V → Hp → VK → Prop := fun vs H Q => ∃ (a : Addr) (S : Str → Bool) (n : Nat), vs = [V.ref a] ∧ H a = some (SetSO w a S n) ∧ (n < 10000) ∧
  ∀ (ns : List Str) (p : Addr), sortedS ns = true → ns.Nodup → (∀ k, k ∈ ns ↔ S k = true) → ns.length = n → H p = none → Q (.ref p) (upd H p (.lst (ns.map V.str)))
theorem cr_sortedSetS (hc : X.calm = true) : CallR X (.builtin "sorted") (rSortedSetS X.w) := by
  intro pins s σ H vs us Q I r h
  obtain ⟨a, S, n, rfl, ha, h64, q⟩ := h
  have R := setSO_get I ha
  rw [Vals.ref1 r]
  refine sorted_setS R (I.ok.hd hc) h64 fun s' p out c ns k g o hp hg hi hs hnd hm hl => ?_
  have hlen : (ns.map V.str).length ≤ sizeLine := by rw [List.length_map, hl, sizeLine_eq]; omega
  have hn : H p = none := I.hok.fresh hp
  have J : Inv X pins σ (upd H p (.lst (ns.map V.str))) { s with heap := s'.heap, gens := s'.gens, drawn := s'.drawn, toks := s'.toks } :=
    I.call (ch := []) (Un.laid k hp hn) (I.hok.laid k hp ⟨hlen, out.toList, c, vals_of_strs hi, hg⟩) (by rw [g]; exact I.bare) (fun _ z => nomatch z)
  have e : s' = { s with heap := s'.heap, gens := s'.gens, drawn := s'.drawn, toks := s'.toks } := by
    cases s'
    cases s
    cases o
    rfl
  rw [e]
  exact ⟨.ref p, _, J, rfl, q ns p hs hnd hm hl hn⟩
/-- len(found) -/
def rLenSetS (w : World) : List V → Hp → VK → Prop := fun vs H Q => ∃ (a : Addr) (S : Str → Bool) (n : Nat), vs = [V.ref a] ∧ H a = some (SetSO w a S n) ∧ (∀ L : List Str, L.Nodup → (∀ k, k ∈ L ↔ S k = true) → L.length = n → Q (.int n) H)
theorem cr_lenSetS : CallR X (.builtin "len") (rLenSetS X.w) := by
  intro pins s σ H vs us Q I r h
  obtain ⟨a, S, n, rfl, ha, q⟩ := h
  obtain ⟨o, es, ep, t, ho, hex, hd, g, nd, hm, hb, hf, hn, _⟩ := setSO_get I ha
  rw [Vals.ref1 r]
  refine call_len_set ho hex hd hf (by rw [hn]; have := hb; rw [hn] at this; unfold scanBound at this; omega) ⟨.int n, H, I.tok _, ⟨_, by rw [hn]⟩, q _ nd (fun k => (hm k).symm) (by rw [List.length_map, Array.length_toList]; exact hn)⟩
end
end N1
set_option maxHeartbeats 2000000
/-! set comprehensions with two clauses, of texts -/
namespace N1
open PySem PySem.Spec PyProof.Rows L2 PpSet
theorem compTurnS2_out (elt t0 i0 t1 i1 : Expr) (ifs0 ifs1 : List Expr) (scope : Scope) (pos : Pos) (it acc : Value) (env : Env) :
    compTurn (.SetComp elt [⟨t0, i0, ifs0, 0⟩, ⟨t1, i1, ifs1, 0⟩] scope pos) 0 it acc env = (do
      standAt i0.pos
      match ← pyNext it with
      | none => pure (.done .next)
      | some v =>
        letOwnedTupleGo t0 it v
        assign t0 env v
        let mut ok := true
        for c in ifs0 do
          if ok then ok ← isTrue c env (eval c env)
        if ok then
          let x ← eval i1 env
          standAt i1.pos
          let x ← foldedSetIterable i1 env x
          let _ ← runOwn (.compStart (.SetComp elt [⟨t0, i0, ifs0, 0⟩, ⟨t1, i1, ifs1, 0⟩] scope pos) 1 (← holding [x] (pyIter x)) acc env) env
        again (.compLoop (.SetComp elt [⟨t0, i0, ifs0, 0⟩, ⟨t1, i1, ifs1, 0⟩] scope pos) 0 it acc env)) := by rfl
theorem compTurnS2_in (elt t0 i0 t1 i1 : Expr) (ifs0 ifs1 : List Expr) (scope : Scope) (pos : Pos) (it acc : Value) (env : Env) :
    compTurn (.SetComp elt [⟨t0, i0, ifs0, 0⟩, ⟨t1, i1, ifs1, 0⟩] scope pos) 1 it acc env = (do
      standAt i1.pos
      match ← pyNext it with
      | none => pure (.done .next)
      | some v =>
        letOwnedTupleGo t1 it v
        assign t1 env v
        let mut ok := true
        for c in ifs1 do
          if ok then ok ← isTrue c env (eval c env)
        if ok then
          (do let v ← eval elt env; standAt elt.pos; let _ ← call (.builtin "set.add") [acc, v])
        again (.compLoop (.SetComp elt [⟨t0, i0, ifs0, 0⟩, ⟨t1, i1, ifs1, 0⟩] scope pos) 1 it acc env)) := by rfl
section
variable {prog : Program} {w : World} {A : Around} {R : Result → Shared → Prop} {s : Shared} {elt t0 i0 t1 i1 : Expr} {ifs0 ifs1 : List Expr} {scope : Scope} {pos : Pos} {it acc : Value} {env : Env}
/-- the loop of the first clause -/
theorem compLoopS2_out (hs : ∀ x, foldedSetIterable i1 env x = pure x) (I : Nat → Shared → Prop)
    (turn : ∀ n s, I n s → wpAny (model prog w) A (pyNext it) (fun r s₁ => match r with
      | none => R (.ok .next) s₁
      | some v => wpAny (model prog w) A (letOwnedTupleGo t0 it v) (fun _ s₁' => wpAny (model prog w) A (assign t0 env v) (fun _ s₂ =>
          wpAny (model prog w) A (forIn ifs0 true fun c r => if r = true then do let ok ← isTrue c env (eval c env); pure (ForInStep.yield ok) else pure (ForInStep.yield r)) (fun ok s₃ =>
            if ok = true then wpAny (model prog w) A (eval i1 env) (fun x s₄ => wpAny (model prog w) A (pyIter x) (fun it1 s₅ =>
              codeAny (model prog w) A (.compStart (.SetComp elt [⟨t0, i0, ifs0, 0⟩, ⟨t1, i1, ifs1, 0⟩] scope pos) 1 it1 acc env) (fun r s' => match r with
                | .ok _ => ∃ m, m < n ∧ I m s'
                | .error _ => False) s₅) (notedBy (model prog w) A env fun e s' => R (.error e) s') s₄) (notedBy (model prog w) A env fun e s' => R (.error e) s') s₃
            else ∃ m, m < n ∧ I m s₃) (notedBy (model prog w) A env fun e s' => R (.error e) s') s₂) (notedBy (model prog w) A env fun e s' => R (.error e) s') s₁') (notedBy (model prog w) A env fun e s' => R (.error e) s') s₁) (notedBy (model prog w) A env fun e s' => R (.error e) s') s)
    (n : Nat) (h : I n s) :
    codeAny (model prog w) A (.compLoop (.SetComp elt [⟨t0, i0, ifs0, 0⟩, ⟨t1, i1, ifs1, 0⟩] scope pos) 0 it acc env) R s := by
  refine codeAny_loop rfl I (fun n s hI => ?_) n h
  show wpAny _ A ((compTurn (.SetComp elt [⟨t0, i0, ifs0, 0⟩, ⟨t1, i1, ifs1, 0⟩] scope pos) 0 it acc env).onRaise (fun x => do noteFrame x env; theTreesLotGoes x)) _ _ s
  refine wpAny_noted ?_
  rw [compTurnS2_out]
  refine wpAny_bind (wpAny_standAt (wpAny_bind (wpAny_mono (turn n s hI) (fun r s₁ h₁ => ?_) fun _ _ h' => h')))
  cases r with
  | none => exact wpAny_pure h₁
  | some v =>
    refine wpAny_bind (wpAny_mono h₁ (fun _ s₁' h₁' => ?_) fun _ _ h' => h')
    refine wpAny_bind (wpAny_mono h₁' (fun _ s₂ h₂ => wpAny_bind (wpAny_mono h₂ (fun ok s₃ h₃ => ?_) fun _ _ h' => h')) fun _ _ h' => h')
    cases ok with
    | false => exact wpAny_pure ⟨rfl, h₃⟩
    | true =>
      refine wpAny_bind (wpAny_mono h₃ (fun x s₄ h₄ => ?_) fun _ _ h' => h')
      refine wpAny_bind (wpAny_standAt (wpAny_bind (wpAny_of_eq (hs x) (wpAny_bind (wpAny_holding (wpAny_mono h₄ (fun it1 s₅ h₅ => ?_) fun _ _ h' => h'))))))
      refine wpAny_bind (wpAny_runOwn ?_)
      rw [Around.mark_none]
      refine codeAny_mono h₅ fun r s' hr => ?_
      cases r with
      | ok f =>
        first
          | exact wpAny_pure ⟨rfl, hr⟩
          | exact wpAny_bind (wpAny_pure (wpAny_pure ⟨rfl, hr⟩))
      | error e => exact hr.elim
/-- the loop of the second -/
theorem compLoopS2_in (I : Nat → Shared → Prop)
    (turn : ∀ n s, I n s → wpAny (model prog w) A (pyNext it) (fun r s₁ => match r with
      | none => R (.ok .next) s₁
      | some v => wpAny (model prog w) A (letOwnedTupleGo t1 it v) (fun _ s₁' => wpAny (model prog w) A (assign t1 env v) (fun _ s₂ =>
          wpAny (model prog w) A (forIn ifs1 true fun c r => if r = true then do let ok ← isTrue c env (eval c env); pure (ForInStep.yield ok) else pure (ForInStep.yield r)) (fun ok s₃ =>
            if ok = true then wpAny (model prog w) A (eval elt env) (fun x s₄ =>
              wpAny (model prog w) A (call (.builtin "set.add") [acc, x]) (fun _ s₅ => ∃ m, m < n ∧ I m s₅) (notedBy (model prog w) A env fun e s' => R (.error e) s') s₄) (notedBy (model prog w) A env fun e s' => R (.error e) s') s₃
            else ∃ m, m < n ∧ I m s₃) (notedBy (model prog w) A env fun e s' => R (.error e) s') s₂) (notedBy (model prog w) A env fun e s' => R (.error e) s') s₁') (notedBy (model prog w) A env fun e s' => R (.error e) s') s₁) (notedBy (model prog w) A env fun e s' => R (.error e) s') s)
    (n : Nat) (h : I n s) :
    codeAny (model prog w) A (.compLoop (.SetComp elt [⟨t0, i0, ifs0, 0⟩, ⟨t1, i1, ifs1, 0⟩] scope pos) 1 it acc env) R s := by
  refine codeAny_loop rfl I (fun n s hI => ?_) n h
  show wpAny _ A ((compTurn (.SetComp elt [⟨t0, i0, ifs0, 0⟩, ⟨t1, i1, ifs1, 0⟩] scope pos) 1 it acc env).onRaise (fun x => do noteFrame x env; theTreesLotGoes x)) _ _ s
  refine wpAny_noted ?_
  rw [compTurnS2_in]
  refine wpAny_bind (wpAny_standAt (wpAny_bind (wpAny_mono (turn n s hI) (fun r s₁ h₁ => ?_) fun _ _ h' => h')))
  cases r with
  | none => exact wpAny_pure h₁
  | some v =>
    refine wpAny_bind (wpAny_mono h₁ (fun _ s₁' h₁' => ?_) fun _ _ h' => h')
    refine wpAny_bind (wpAny_mono h₁' (fun _ s₂ h₂ => wpAny_bind (wpAny_mono h₂ (fun ok s₃ h₃ => ?_) fun _ _ h' => h')) fun _ _ h' => h')
    cases ok with
    | false => exact wpAny_pure ⟨rfl, h₃⟩
    | true =>
      exact wpAny_bind (wpAny_bind (wpAny_mono h₃ (fun x s₄ h₄ => wpAny_bind (wpAny_standAt (wpAny_bind (wpAny_mono h₄ (fun _ s₅ h₅ => wpAny_pure (wpAny_pure ⟨rfl, h₅⟩)) fun _ _ h' => h')))) fun _ _ h' => h'))
/-- the second clause's start -/
theorem compStartS1_ok (h0 : codeAny (model prog w) A (.compLoop (.SetComp elt [⟨t0, i0, ifs0, 0⟩, ⟨t1, i1, ifs1, 0⟩] scope pos) 1 it acc env) R s)
    (h : wpAny (model prog w) A (pyIter it) (fun it' s' => codeAny (model prog w) A (.compLoop (.SetComp elt [⟨t0, i0, ifs0, 0⟩, ⟨t1, i1, ifs1, 0⟩] scope pos) 1 it' acc env) R s')
      (notedBy (model prog w) A env fun x s' => R (.error x) s') s) :
    codeAny (model prog w) A (.compStart (.SetComp elt [⟨t0, i0, ifs0, 0⟩, ⟨t1, i1, ifs1, 0⟩] scope pos) 1 it acc env) R s := by
  refine codeAny_of_tree ?_
  show wpAny _ _ ((compStart (.SetComp elt [⟨t0, i0, ifs0, 0⟩, ⟨t1, i1, ifs1, 0⟩] scope pos) 1 it acc env).onRaise (fun x => do noteFrame x env; standAt theWindowsPlace)) _ _ s
  refine wpAny_notedAt ?_
  unfold compStart
  show wpAny _ _ (ask >>= _) _ _ s
  refine wpAny_bind (wpAny_askSetting (wpAny_ite ?_))
  split
  · first
      | exact wpAny_bind (wpAny_pure (wpAny_pure (And.intro rfl h0)))
      | exact wpAny_pure (And.intro rfl h0)
  · first
      | exact wpAny_bind (wpAny_rule (wpAny_bind (wpAny_standAt (wpAny_bind (wpAny_mono h (fun it' s' h' => wpAny_pure (And.intro rfl h')) fun _ _ x => x)))))
      | (refine wpAny_bind (wpAny_rule ?_); show wpAny _ _ (standAt i1.pos >>= _) _ _ s; exact wpAny_bind (wpAny_standAt (wpAny_bind (wpAny_mono h (fun it' s' h' => wpAny_pure (And.intro rfl h')) fun _ _ x => x))))
end
section
variable {X : Cx}
/-- [elt for tg in iter if .. for tg1 in iter1 if ..]: behind the first clause's store and tests the second source's own loop, from which Nx is reached. vs: the block's names; vs1: those of the second target -/
def tSc2 (w : World) (wi : TI) (g : TG) (tt : TT) (wi1 : TI) (g1 : TG) (tt1 : TT) (te : TE) (vs vs1 : List Nat) : TE := fun σ H Q => wi σ H fun J H1 => ∀ D, H1 D = none → ∃ W : Nat → Nat → Hp → Prop, (∃ m, W 0 m (upd H1 D (SetSO w D (fun _ => false) 0))) ∧ ∀ i m H, W i m H →
  (J.stop i H ∧ Q (.ref D) H) ∨ (J.go i H ∧ ∃ Nx : Hp → Prop, (∀ H', Nx H' → ∃ m', m' < m ∧ W (i + 1) m' H') ∧ ∀ x H', J.yld i H x H' → g x (wipe σ vs) H' fun σ2 H2 => wipe σ2 vs = wipe σ vs ∧ tt σ2 H2 fun b H3 =>
    if b = true then wi1 σ2 H3 fun J1 H4 => ∃ W1 : Nat → Nat → Hp → Prop, (∃ m, W1 0 m H4) ∧ ∀ j k H, W1 j k H →
      (J1.stop j H ∧ Nx H) ∨ (J1.go j H ∧ ∃ Nx1 : Hp → Prop, (∀ H', Nx1 H' → ∃ k', k' < k ∧ W1 (j + 1) k' H') ∧ ∀ x H', J1.yld j H x H' → g1 x (wipe σ2 vs1) H' fun σ3 H5 => wipe σ3 vs1 = wipe σ2 vs1 ∧ tt1 σ3 H5 fun b H6 =>
        if b = true then te σ3 H6 fun y H7 => ∃ (c : Str) (S : Str → Bool) (n : Nat), y = .str c ∧ H7 D = some (SetSO w D S n) ∧ n + 1 < scanBound ∧ Nx1 (upd H7 D (SetSO w D (fun j => S j || decide (j = c)) (if S c = true then n else n + 1))) else Nx1 H6)
    else Nx H3)
theorem sc2_core {pins : List (Addr × Obj)} {s : Shared} {σ : L2.St} {H : Hp} {Q : VK} {elt tg iter tg1 iter1 : Expr} {ifs ifs1 : List Expr} {scope : Scope} {own : List (Str × Nat)} {vs1 : List Nat} {pos pos' : Pos} {wi wi1 : TI} {g g1 : TG} {tt tt1 : TT} {te : TE} {use : Option (Value → Sem Unit)} {Qf : Value → Shared → Prop}
    (hc : X.calm = true) (hN : X.N.Nodup) (I : Inv X pins σ H s) (hi : PI X tg iter wi) (ok : BlkOk X.N X.env.scope scope own) (hv : ∀ i ∈ vs1, i ∈ own.map (·.2))
    (hg : ∀ (s : Shared) (H : Hp) (C : Addr) (cl : List (Str × Addr)) (fp : List Addr), PG (X.blk s H scope (compEnvC scope cl C X.env) fp) tg g) (ht : ∀ (s : Shared) (H : Hp) (C : Addr) (cl : List (Str × Addr)) (fp : List Addr), PTs (X.blk s H scope (compEnvC scope cl C X.env) fp) ifs tt)
    (he : ∀ (s : Shared) (H : Hp) (C : Addr) (cl : List (Str × Addr)) (fp : List Addr), PE (X.blk s H scope (compEnvC scope cl C X.env) fp) elt te) (hs : ∀ x, foldedSetIterable iter X.env x = pure x)
    (hi1 : ∀ (s : Shared) (H : Hp) (C : Addr) (cl : List (Str × Addr)) (fp : List Addr), PI (X.blk s H scope (compEnvC scope cl C X.env) fp) tg1 iter1 wi1)
    (hg1 : ∀ (s : Shared) (H : Hp) (C : Addr) (cl : List (Str × Addr)) (fp : List Addr), PG (X.blk s H scope (compEnvC scope cl C X.env) fp) tg1 g1)
    (ht1 : ∀ (s : Shared) (H : Hp) (C : Addr) (cl : List (Str × Addr)) (fp : List Addr), PTs (X.blk s H scope (compEnvC scope cl C X.env) fp) ifs1 tt1)
    (hs1 : ∀ env x, foldedSetIterable iter1 env x = pure x)
    (h : tSc2 X.w wi g tt wi1 g1 tt1 te (own.map (·.2)) vs1 σ H Q)
    (hRR : ∀ D C s' m H', Inv X pins σ H' s' → Q (.ref D) H' → s'.heap.Ns C m → FpOk X pins H' C → compPost (model X.prog X.w) X.A X.xe use Qf (.ref D) C (.ok .next) s') :
    wpAny (model X.prog X.w) X.A (comprehension (.SetComp elt [⟨tg, iter, ifs, 0⟩, ⟨tg1, iter1, ifs1, 0⟩] scope pos) scope X.env pos' (newSet (.type "set")) false (eval iter X.env) use) Qf X.xe s := by
  have hfree : ∀ y ∈ scope.names, y.2 = .free → ∃ c, X.env.cells.lookup y.1 = some c := fun y hy e => by
    rcases ok.free y hy e with k | k
    · exact I.ok.has _ (.inl k)
    · exact I.ok.has _ (.inr k)
  refine wpAny_comprehension_free (use := use) rfl hs (closure_ok hfree) ok.kind (fun y hy e => by rw [ok.uniq y hy, e])
    (thn (hi.run pins s σ H _ I h) fun xv s1 hx => thn hx fun itv s2 h2 => ?_)
  obtain ⟨it, fp, tn, J, H2, e, I2, T, st2, f2, q⟩ := h2
  subst e
  refine newSet_ok (newEnv_comp ?_)
  generalize hD : s2.heap.objs.size = D
  have hDn : H2 D = none := I2.hok.fresh (Nat.le_of_eq hD)
  obtain ⟨W, ⟨m0, w0⟩, turn⟩ := q D hDn
  -- the new list
  generalize hs3 : ({ s2 with heap := s2.heap.push { cls := .type "set", dict := none, data := .set #[] 0 (.fresh 0 0 (!X.w.params.followText "set-order")) } } : Shared) = s3
  have I3 : Inv X pins σ (upd H2 D (SetSO X.w D (fun _ => false) 0)) s3 := by
    rw [← hs3]
    refine I2.laid (t' := s2.toks) (fun b o e => Heap.get?_push_of_some _ e) (Nat.le_of_eq hD) ?_
    rw [← hD]
    exact setSO_new (setS_fresh X.w)
  have h3 : s3.heap = s2.heap.push { cls := .type "set", dict := none, data := .set #[] 0 (.fresh 0 0 (!X.w.params.followText "set-order")) } := by rw [← hs3]
  have sz : ∀ b ∈ fp, b < s2.heap.objs.size := fun b hb => by
    obtain ⟨o, e, _⟩ := T.obj _ _ st2 b hb
    exact Heap.lt_size e
  have f3 : ∀ b ∈ fp, FpOk X pins (upd H2 D (SetSO X.w D (fun _ => false) 0)) b ∧ b < s3.heap.objs.size := fun b hb => by
    have hlt := sz b hb
    refine ⟨⟨?_, (f2 b hb).2⟩, by rw [h3, Heap.size_push]; exact Nat.lt_succ_of_lt hlt⟩
    rw [upd_ne (by rw [← hD]; exact Nat.ne_of_lt hlt)]
    exact (f2 b hb).1
  have st3 : tn 0 s3.heap := T.keep _ _ _ st2 fun b _ o e => by rw [h3]; exact Heap.get?_push_of_some _ e
  have I4 := block_start I3 ok hN f3
  have pg := hg s3 (upd H2 D (SetSO X.w D (fun _ => false) 0)) s3.heap.objs.size (cellsFrom (s3.heap.objs.size + 1) scope.names (cloFrom X.env.cells scope.names [])) fp
  have pt := ht s3 (upd H2 D (SetSO X.w D (fun _ => false) 0)) s3.heap.objs.size (cellsFrom (s3.heap.objs.size + 1) scope.names (cloFrom X.env.cells scope.names [])) fp
  have pe := he s3 (upd H2 D (SetSO X.w D (fun _ => false) 0)) s3.heap.objs.size (cellsFrom (s3.heap.objs.size + 1) scope.names (cloFrom X.env.cells scope.names [])) fp
  have pi1 := hi1 s3 (upd H2 D (SetSO X.w D (fun _ => false) 0)) s3.heap.objs.size (cellsFrom (s3.heap.objs.size + 1) scope.names (cloFrom X.env.cells scope.names [])) fp
  have pg1 := hg1 s3 (upd H2 D (SetSO X.w D (fun _ => false) 0)) s3.heap.objs.size (cellsFrom (s3.heap.objs.size + 1) scope.names (cloFrom X.env.cells scope.names [])) fp
  have pt1 := ht1 s3 (upd H2 D (SetSO X.w D (fun _ => false) 0)) s3.heap.objs.size (cellsFrom (s3.heap.objs.size + 1) scope.names (cloFrom X.env.cells scope.names [])) fp
  show codeAny _ _ (.compStart (.SetComp elt [⟨tg, iter, ifs, 0⟩, ⟨tg1, iter1, ifs1, 0⟩] scope pos) 0 (.ref it) (.ref D) (compEnvC scope (cellsFrom (s3.heap.objs.size + 1) scope.names (cloFrom X.env.cells scope.names [])) s3.heap.objs.size X.env)) (compPost (model X.prog X.w) X.A X.xe use Qf (.ref D) s3.heap.objs.size) { s3 with heap := pushCells (s3.heap.push { cls := .type "dict", data := .dict #[] }) scope.names }
  have nfp : ∀ b ∈ fp, (upd H2 D (SetSO X.w D (fun _ => false) 0)) b = none := fun b hb => (f3 b hb).1.1
  generalize hce : compEnvC scope (cellsFrom (s3.heap.objs.size + 1) scope.names (cloFrom X.env.cells scope.names [])) s3.heap.objs.size X.env = ce at I4 pg pt pe pi1 pg1 pt1 ⊢
  have cL : ce.locals = s3.heap.objs.size := by subst hce; rfl
  generalize hH3 : upd H2 D (SetSO X.w D (fun _ => false) 0) = H3 at I3 I4 pg pt pe pi1 pg1 pt1 w0 nfp f3
  generalize hs4 : ({ s3 with heap := pushCells (s3.heap.push { cls := .type "dict", data := .dict #[] }) scope.names } : Shared) = s4 at I4 ⊢
  have st4 : tn 0 s4.heap := T.keep _ _ _ st3 fun b _ o e => by rw [← hs4]; exact pushCells_keeps _ _ _ _ (Heap.get?_push_of_some _ e)
  have stat : ∀ {σ' : L2.St} {H' : Hp} {s' : Shared}, Inv (X.blk s3 H3 scope ce fp) [] σ' H' s' → (∀ b ∈ fp, H' b = none) → ∀ b ∈ fp, FpOk (X.blk s3 H3 scope ce fp) [] H' b := fun {σ' H' s'} I' hn b hb =>
    ⟨hn b hb, (I'.ok.exf b hb).1, I'.ok.exfs b hb, .inl hb, fun x c e => (I'.ok.exf b hb).2 x c e, fun p hp => absurd (show p ∈ ([] : List (Addr × Obj)) ++ [] from hp) (by simp)⟩
  have loop : codeAny (model X.prog X.w) X.A (.compLoop (.SetComp elt [⟨tg, iter, ifs, 0⟩, ⟨tg1, iter1, ifs1, 0⟩] scope pos) 0 (.ref it) (.ref D) ce) (compPost (model X.prog X.w) X.A X.xe use Qf (.ref D) s3.heap.objs.size) s4 := by
    refine compLoopS2_out (hs1 ce) (fun n s' => ∃ i H', Inv (X.blk s3 H3 scope ce fp) [] (wipe σ (own.map (·.2))) H' s' ∧ tn i s'.heap ∧ (∀ b ∈ fp, H' b = none) ∧ W i n H') ?_ m0 ⟨0, H3, I4, st4, nfp, w0⟩
    rintro n s5 ⟨i, H5, I5, st5, n5, w5⟩
    rcases turn i n H5 w5 with ⟨stop, qq⟩ | ⟨go, Nx, hNx, step⟩
    · have td := T.done (X.blk s3 H3 scope ce fp) rfl rfl rfl hc i [] s5 _ H5 (fun _ _ => False) I5 (stat I5 n5) st5 stop
      refine thnF td fun r s6 ⟨hr, I6⟩ => ?_
      subst hr
      -- back in the def's context
      have I7 : Inv X pins σ H5 s6 := I3.call' (ch := fp) I6.os I6.base I6.hok I6.bare fun b hb => ⟨(f3 b hb).1.2.2.2.1, (f3 b hb).1.2.1, (f3 b hb).1.2.2.2.2.1, (f3 b hb).1.2.2.2.2.2⟩
      have nC : H5 s3.heap.objs.size = none := by
        have z : H5 ce.locals = none := I6.free
        rw [cL] at z
        exact z
      obtain ⟨m, hn, _⟩ := I6.loc
      have hn : s6.heap.Ns ce.locals m := hn
      rw [cL] at hn
      exact hRR D s3.heap.objs.size s6 m H5 I7 qq hn (I3.fpOk (Nat.le_refl _) nC)
    · have ti := T.item (X.blk s3 H3 scope ce fp) rfl rfl rfl hc i [] s5 _ H5 (fun _ _ => False) I5 (stat I5 n5) st5 go
      refine thnF ti fun r s6 ⟨u, hr, h6⟩ => ?_
      subst hr
      refine thnF h6 fun _ s7 ⟨x, H7, I7, r7, y7, st7, n7⟩ => ?_
      have I7' := I7.pinned (stat I7 n7) (T.obj _ _ st7)
      refine thnF (pg.run _ s7 _ H7 x u _ I7' r7 (step x H7 y7)) fun _ s8 ⟨σ8, H8, I8, hw8, q8⟩ => ?_
      refine thnF (pt.run _ s8 σ8 H8 _ I8 q8) fun b s9 ⟨H9, I9, q9⟩ => ?_
      -- the turn's end, from any slots that know what the block knew at its start
      have fin : ∀ {σ9 : L2.St} {s' : Shared} {H' : Hp}, Inv (X.blk s3 H3 scope ce fp) ([] ++ pinsAt fp s7.heap) σ9 H' s' → (wipe σ (own.map (·.2))).length = σ9.length → (∀ (j : Nat) v, (wipe σ (own.map (·.2)))[j]? = some (some v) → σ9[j]? = some (some v)) → Nx H' →
          ∃ m, m < n ∧ ∃ i H', Inv (X.blk s3 H3 scope ce fp) [] (wipe σ (own.map (·.2))) H' s' ∧ tn i s'.heap ∧ (∀ b ∈ fp, H' b = none) ∧ W i m H' := fun {σ9 s' H'} I' hl hk nx => by
        obtain ⟨m', hm, w'⟩ := hNx H' nx
        have pin' : ∀ b ∈ fp, ∀ o, s7.heap.get? b = some o → s'.heap.get? b = some o ∧ H' b = none := fun b hb o e =>
          let z := I'.pin (b, o) (List.mem_append_right _ (List.mem_append_right _ (mem_pinsAt hb e)))
          ⟨z.1, z.2.1⟩
        refine ⟨m', hm, i + 1, H', (I'.unpinned (pins := [])).weak hl hk, T.keep _ _ _ st7 fun b hb o e => (pin' b hb o e).1, fun b hb => ?_, w'⟩
        obtain ⟨o, e, _⟩ := T.obj _ _ st7 b hb
        exact (pin' b hb o e).2
      have hl8 : (wipe σ (own.map (·.2))).length = σ8.length := by rw [← hw8, wipe_length]
      have hk8 : ∀ (j : Nat) v, (wipe σ (own.map (·.2)))[j]? = some (some v) → σ8[j]? = some (some v) := fun j v e => by
        rw [← hw8] at e
        exact (wipe_some e).1
      have hk9 : ∀ (j : Nat) v, (wipe σ (own.map (·.2)))[j]? = some (some v) → (wipe σ8 vs1)[j]? = some (some v) := fun j v e => by
        rw [← hw8] at e
        obtain ⟨e1, e2⟩ := wipe_some e
        rw [wipe_out fun z => e2 (hv j z)]
        exact e1
      cases b with
      | false =>
        simp only [Bool.false_eq_true, if_false] at q9 ⊢
        exact fin I9 hl8 hk8 q9
      | true =>
        simp only [if_true] at q9 ⊢
        refine thnF (pi1.run _ s9 σ8 H9 _ I9 q9) fun xv s10 hx => thnF hx fun itv s11 h11 => ?_
        obtain ⟨it1, fp1, tn1, J1, H11, e1, I11, T1, st11, f11, W1, ⟨m1, w1⟩, turn1⟩ := h11
        subst e1
        -- the inner loop
        have stat1 : ∀ {H' : Hp}, (∀ b ∈ fp1, H' b = none) → ∀ b ∈ fp1, FpOk (X.blk s3 H3 scope ce fp) ([] ++ pinsAt fp s7.heap) H' b := fun hn b hb => ⟨hn b hb, (f11 b hb).2⟩
        have loop1 : codeAny (model X.prog X.w) X.A (.compLoop (.SetComp elt [⟨tg, iter, ifs, 0⟩, ⟨tg1, iter1, ifs1, 0⟩] scope pos) 1 (.ref it1) (.ref D) ce)
            (fun r s' => match r with
              | .ok _ => ∃ m, m < n ∧ ∃ i H', Inv (X.blk s3 H3 scope ce fp) [] (wipe σ (own.map (·.2))) H' s' ∧ tn i s'.heap ∧ (∀ b ∈ fp, H' b = none) ∧ W i m H'
              | .error _ => False) s11 := by
          refine compLoopS2_in (fun k s' => ∃ j H', Inv (X.blk s3 H3 scope ce fp) ([] ++ pinsAt fp s7.heap) (wipe σ8 vs1) H' s' ∧ tn1 j s'.heap ∧ (∀ b ∈ fp1, H' b = none) ∧ W1 j k H') ?_ m1 ⟨0, H11, I11.weak (wipe_length _ _) (fun j v e => (wipe_some e).1), st11, fun b hb => (f11 b hb).1, w1⟩
          rintro k s12 ⟨j, H12, I12, st12, n12, w12⟩
          rcases turn1 j k H12 w12 with ⟨stop1, nx1⟩ | ⟨go1, Nx1, hNx1, step1⟩
          · refine thnF (T1.done (X.blk s3 H3 scope ce fp) rfl rfl rfl hc j _ s12 (wipe σ8 vs1) H12 (fun _ _ => False) I12 (stat1 n12) st12 stop1) fun r s13 ⟨hr, I13⟩ => ?_
            subst hr
            exact fin I13 (hl8.trans (wipe_length σ8 vs1).symm) hk9 nx1
          · refine thnF (T1.item (X.blk s3 H3 scope ce fp) rfl rfl rfl hc j _ s12 (wipe σ8 vs1) H12 (fun _ _ => False) I12 (stat1 n12) st12 go1) fun r s13 ⟨u1, hr, h13⟩ => ?_
            subst hr
            refine thnF h13 fun _ s14 ⟨x1, H14, I14, r14, y14, st14, n14⟩ => ?_
            have I14' := I14.pinned (stat1 n14) (T1.obj _ _ st14)
            refine thnF (pg1.run _ s14 (wipe σ8 vs1) H14 x1 u1 _ I14' r14 (step1 x1 H14 y14)) fun _ s15 ⟨σ15, H15, I15, hw15, q15⟩ => ?_
            refine thnF (pt1.run _ s15 σ15 H15 _ I15 q15) fun b1 s16 ⟨H16, I16, q16⟩ => ?_
            have fin1 : ∀ {s' : Shared} {H' : Hp}, Inv (X.blk s3 H3 scope ce fp) (([] ++ pinsAt fp s7.heap) ++ pinsAt fp1 s14.heap) σ15 H' s' → Nx1 H' → ∃ m, m < k ∧ ∃ j H', Inv (X.blk s3 H3 scope ce fp) ([] ++ pinsAt fp s7.heap) (wipe σ8 vs1) H' s' ∧ tn1 j s'.heap ∧ (∀ b ∈ fp1, H' b = none) ∧ W1 j m H' := fun {s' H'} I' nx => by
              obtain ⟨m', hm, w'⟩ := hNx1 H' nx
              have pin' : ∀ b ∈ fp1, ∀ o, s14.heap.get? b = some o → s'.heap.get? b = some o ∧ H' b = none := fun b hb o e =>
                let z := I'.pin (b, o) (List.mem_append_right _ (List.mem_append_right _ (mem_pinsAt hb e)))
                ⟨z.1, z.2.1⟩
              refine ⟨m', hm, j + 1, H', I'.unpinned.weak (by rw [← hw15, wipe_length]) (fun j v e => by rw [← hw15] at e; exact (wipe_some e).1), T1.keep _ _ _ st14 fun b hb o e => (pin' b hb o e).1, fun b hb => ?_, w'⟩
              obtain ⟨o, e, _⟩ := T1.obj _ _ st14 b hb
              exact (pin' b hb o e).2
            cases b1 with
            | false =>
              simp only [Bool.false_eq_true, if_false] at q16 ⊢
              exact fin1 I16 q16
            | true =>
              simp only [if_true] at q16 ⊢
              refine thnF (pe.run _ s16 σ15 H16 _ I16 q16) fun z s17 ⟨yv, H17, I17, r17, cb, S0, n0, ey, hD17, hz17, nx⟩ => ?_
              subst ey
              obtain ⟨tk, rfl⟩ := r17
              exact addS_ok (X := X.blk s3 H3 scope ce fp) I17 hD17 hz17 fun s18 I18 => fin1 I18 nx
        exact compStartS1_ok loop1 (T1.self X.A 0 _ _ _ st11 loop1)
  exact codeAny_compStart_set loop (T.self X.A 0 _ _ _ st4 loop)
/-- as a value -/
theorem pe_sc2 {elt tg iter tg1 iter1 : Expr} {ifs ifs1 : List Expr} {scope : Scope} {own : List (Str × Nat)} {vs1 : List Nat} {pos : Pos} {wi wi1 : TI} {g g1 : TG} {tt tt1 : TT} {te : TE} (hc : X.calm = true) (hN : X.N.Nodup) (hi : PI X tg iter wi) (ok : BlkOk X.N X.env.scope scope own) (hv : ∀ i ∈ vs1, i ∈ own.map (·.2))
    (hg : ∀ (s : Shared) (H : Hp) (C : Addr) (cl : List (Str × Addr)) (fp : List Addr), PG (X.blk s H scope (compEnvC scope cl C X.env) fp) tg g) (ht : ∀ (s : Shared) (H : Hp) (C : Addr) (cl : List (Str × Addr)) (fp : List Addr), PTs (X.blk s H scope (compEnvC scope cl C X.env) fp) ifs tt)
    (hi1 : ∀ (s : Shared) (H : Hp) (C : Addr) (cl : List (Str × Addr)) (fp : List Addr), PI (X.blk s H scope (compEnvC scope cl C X.env) fp) tg1 iter1 wi1)
    (hg1 : ∀ (s : Shared) (H : Hp) (C : Addr) (cl : List (Str × Addr)) (fp : List Addr), PG (X.blk s H scope (compEnvC scope cl C X.env) fp) tg1 g1) (ht1 : ∀ (s : Shared) (H : Hp) (C : Addr) (cl : List (Str × Addr)) (fp : List Addr), PTs (X.blk s H scope (compEnvC scope cl C X.env) fp) ifs1 tt1)
    (he : ∀ (s : Shared) (H : Hp) (C : Addr) (cl : List (Str × Addr)) (fp : List Addr), PE (X.blk s H scope (compEnvC scope cl C X.env) fp) elt te) (hs : ∀ x, foldedSetIterable iter X.env x = pure x := by intro _; rfl) (hs1 : ∀ env x, foldedSetIterable iter1 env x = pure x := by intro _ _; rfl) :
    PE X (.SetComp elt [⟨tg, iter, ifs, 0⟩, ⟨tg1, iter1, ifs1, 0⟩] scope pos) (tSc2 X.w wi g tt wi1 g1 tt1 te (own.map (·.2)) vs1) := by
  refine ⟨fun pins s σ H Q I h => ?_⟩
  rw [eval_SetComp]
  refine sc2_core hc hN I hi ok hv hg ht he hs hi1 hg1 ht1 hs1 h fun D C s' m H' I' q hn f => ⟨m, hn, fun h'' sb => ?_⟩
  obtain ⟨f0, f1, f2, f3, f4, f5⟩ := f
  exact ⟨.ref D, H', I'.turned (t' := s'.toks) (fun b o hb e => (sb.2 b hb).trans e) f0 f1 f3 f4 f5, rfl, q⟩
end
end N1
set_option maxHeartbeats 2000000
/-! own exceptions under ValueError whose __init__ begins with super().__init__(..) -/
namespace N1
open PySem
abbrev bwV (x : Addr) : Obj := { cls := .type "method-wrapper", dict := none, data := .fields #[.builtin "ValueError.__init__", .ref x], slots := #[] }
theorem type_vi : typeOf (.builtin "ValueError.__init__") = pure (.type "wrapper_descriptor") := by show builtinType _ = _; rw [builtinType_eq_fast]; kernel_rfl
theorem nacV : (kfb_private% "nameAndClass") (Value.builtin "ValueError.__init__") = (pure (("__init__" : Str), Value.type "ValueError") : Sem (Str × Value)) := by kernel_rfl
section
open PySem.W
variable {prog : Program} {w : World} {M : Model} {A : Around} {E : Value → Shared → Prop} {h : Heap} {g : Array GenState} {d : Drawn} {t : Nat} {os : OsState}
theorem run_wdV {x C : Addr} {P : Fin → Shared → Prop} (hin : W.Looks M h (isInstance (.ref x) (.type "ValueError")) true) (hq : P (.done (.ret (.ref h.objs.size))) ⟨h.push (bwV x), g, d, t, os⟩) :
    wpAny M A (Builtin.«wrapper_descriptor.__get__» ⟨[.builtin "ValueError.__init__", .ref x, .ref C], []⟩) P E ⟨h, g, d, t, os⟩ := by
  unfold Builtin.«wrapper_descriptor.__get__»
  refine wpAny_bind (wpAny_of_eq (a := (.builtin "ValueError.__init__", some (.ref x), some (.ref C))) (by first | rfl | kernel_rfl) ?_)
  show wpAny M A ((kfb_private% "checkInstance") (.builtin "ValueError.__init__") (.ref x) >>= fun _ => newFields "method-wrapper" [.builtin "ValueError.__init__", .ref x] >>= fun r => ret r) P E _
  refine wpAny_bind ?_
  show wpAny M A ((kfb_private% "nameAndClass") (.builtin "ValueError.__init__") >>= _) _ E _
  refine wpAny_bind (wpAny_of_eq nacV ?_)
  show wpAny M A (isInstance (.ref x) (.type "ValueError") >>= _) _ E _
  refine wpAny_bind (hin.at ?_)
  refine KFB.if_not rfl ?_
  refine wpAny_pure ?_
  exact wpAny_bind (wpAny_newObj_type (wpAny_pure hq))
theorem super_gaV {so D x C : Addr} {l₀ l : List Value} {K : Frag} {name : Str} {tk : Tok} {Q : Fin → Shared → Prop}
    (hso : h.get? so = some { cls := .type "super", dict := none, data := .fields #[.ref D, .ref x, .ref C], slots := #[] }) (hno : W.Looks (model prog w) h (opaqueClassAbove (.ref C)) none)
    (hC : W.Looks (model prog w) h (mroOf (.ref C)) l₀) (hl : (l₀.dropWhile (· != .ref D)).drop 1 = l) (X : K.In h)
    (hf : alongIn K name l = some (some (.builtin "ValueError.__init__"))) (hxC : x ≠ C) (hn : (name == ("__class__" : Str)) = false) (hin : W.Looks (model prog w) h (isInstance (.ref x) (.type "ValueError")) true)
    (hq : Q (.done (.ret (.ref h.objs.size))) ⟨h.push (bwV x), g, d, t, os⟩) :
    wpAny (model prog w) A (Builtin.«super.__getattribute__» ⟨[.ref so, .str name tk], []⟩) Q E ⟨h, g, d, t, os⟩ := by
  have hlk := PySem.ESX.slot_wd.lookup
  have hne : (Value.ref x == Value.ref C) = false := by simp [hxC]
  have hTf := type_vi
  have hTi : Shared.TypeIs ⟨h, g, d, t, os⟩ (.builtin "ValueError.__init__") "wrapper_descriptor" := type_vi
  have hdt : ({ cls := .type "super", dict := none, data := .fields #[.ref D, .ref x, .ref C], slots := #[] } : Obj).data = .fields #[.ref D, .ref x, .ref C] := rfl
  have f0 : (#[.ref D, .ref x, .ref C] : Array Value)[0]? = some (.ref D) := rfl
  have f1 : (#[.ref D, .ref x, .ref C] : Array Value)[1]? = some (.ref x) := rfl
  have f2 : (#[.ref D, .ref x, .ref C] : Array Value)[2]? = some (.ref C) := rfl
  unfold Builtin.«super.__getattribute__»
  repeat (first
    | (with_reducible refine wpAny_field hso hdt f0 ?_) | (with_reducible refine wpAny_field hso hdt f1 ?_) | (with_reducible refine wpAny_field hso hdt f2 ?_)
    | (with_reducible refine ks_wpAny_notOpaque hno ?_)
    | (with_reducible refine Looks.at hC ?_; rw [hl])
    | (refine ks_forIn_along X (fun _ _ => rfl) rfl ?_ hf)
    | (with_reducible refine wpAny_call_entry PySem.ESX.slot_wd hTi PySem.ESX.entry_wd ?_ (PySem.ESX.args_wd _ _ _))
    | (with_reducible refine run_wdV hin ?_)
    | (with_reducible refine ⟨_, rfl, ?_⟩)
    | (simp only [hn, hne, Bool.or_false, Bool.false_eq_true, if_false])
    | wp_step
    | dsimp only)
  all_goals exact hq
theorem getMethod_superV {so D x C : Addr} {l₀ l : List Value} {K : Frag} {name : Str} {pl : Sem Bool} {Q : Value × List Value → Shared → Prop}
    (hso : h.get? so = some { cls := .type "super", dict := none, data := .fields #[.ref D, .ref x, .ref C], slots := #[] }) (hno : W.Looks (model prog w) h (opaqueClassAbove (.ref C)) none)
    (hC : W.Looks (model prog w) h (mroOf (.ref C)) l₀) (hl : (l₀.dropWhile (· != .ref D)).drop 1 = l) (X : K.In h)
    (hf : alongIn K name l = some (some (.builtin "ValueError.__init__"))) (hxC : x ≠ C) (hn : (name == ("__class__" : Str)) = false) (hin : W.Looks (model prog w) h (isInstance (.ref x) (.type "ValueError")) true)
    (hq : Q (.ref h.objs.size, []) ⟨h.push (bwV x), g, d, t + 1, os⟩) :
    wpAny (model prog w) A (getMethod (.ref so) name pl) Q E ⟨h, g, d, t, os⟩ := by
  have hlk := F.ks_slot_super_ga.lookup
  have hcan := F.ks_canon_super_ga
  have hT : ∀ t', (⟨h, g, d, t', os⟩ : Shared).TypeIs (.ref so) "super" := fun _ => ⟨_, hso, rfl⟩
  unfold getMethod
  refine wpAny_bind (wpAny_specialOf (hT _) hlk ?_)
  show wpAny _ _ (if (Manifest.canonical "super.__getattribute__" != "object.__getattribute__") = true then _ else _) _ _ _
  rw [if_pos hcan]
  unfold getAttr getAttrBy
  refine wpAny_bind (wpAny_bind (wpAny_mkText (wpAny_holding (wpAny_bind (wpAny_typeOf (hT _) (wpAny_bind (wpAny_of_eq hlk ?_)))))))
  show wpAny _ _ (getAttrByItsOwn (.ref so) (.str name t) (.type "super") (.builtin "super.__getattribute__") true false) _ _ _
  unfold getAttrByItsOwn hookBefore callGetattribute boundAndCalled
  refine wpAny_bind (wpAny_of_eq (show (if onTheHeap (.type "super") then typeLookup (.type "super") "__getattr__" else pure none) = pure none from rfl) ?_)
  refine wpAny_bind (wpAny_attempt (wpAny_holding ?_))
  show wpAny _ _ (bindSpecial (.builtin "super.__getattribute__") (.ref so) >>= _) _ _ _
  refine wpAny_bind (wpAny_of_eq (F.ks_slot_super_ga.bind _) ?_)
  refine wpAny_mono (Q := fun v s' => v = .ref h.objs.size ∧ s' = ⟨h.push (bwV x), g, d, t + 1, os⟩) (E := fun _ _ => False)
    (wpAny_call_entry F.ks_slot_super_ga (hT _) F.ks_entry_super_ga (super_gaV hso hno hC hl X hf hxC hn hin ⟨_, rfl, rfl, rfl⟩) (F.ks_gaArgs_super _ _)) (fun v s' hv => ?_) fun _ _ z => z.elim
  obtain ⟨rfl, rfl⟩ := hv
  exact wpAny_pure (wpAny_pure hq)
end
section
open PySem.W PySem.Calls PyProof.Rows
variable {prog : Program} {w : World} {M : Model} {A : Around} {E : Value → Shared → Prop} {s : Shared}
theorem callWith_bwV {pos : Pos} {u x : Addr} {first : List Value} {args : List (Bool × Sem Value)} {Q : Value → Shared → Prop} (hplain : args.any (·.1) = false)
    (h : wpAny M A (evalArgs (.ref u) true args []) (fun a s₁ => s₁.heap.get? u = some (bwV x) ∧ wpAny M A (call (.ref u) (first ++ a.pos) a.kw) Q E s₁) E s) : wpAny M A (callWith pos (.ref u) first args []) Q E s := by
  unfold callWith
  refine wpAny_bind (wpAny_holding (wpAny_mono h (fun a s₁ h₁ => wpAny_bind (wpAny_standAt ?_)) fun _ _ x => x))
  obtain ⟨ho, hcall⟩ := h₁
  simp only [hplain, List.any_nil, Bool.or_false]
  refine wpAny_bind (m := keeperOf (.ref u)) ?_
  unfold keeperOf
  refine wpAny_bind (wpAny_load ho ?_)
  simp only [bwV, show (Value.type "method-wrapper" != Value.type "method") = true by decide, show (Value.type "method-wrapper" == Value.type "builtin_function_or_method" || Value.type "method-wrapper" == Value.type "method-wrapper") = true by decide, if_true]
  refine wpAny_pure ?_
  exact wpAny_bind (wpAny_mono hcall (fun r s₂ hr => wpAny_bind (wpAny_holding (wpAny_point (wpAny_pure hr)))) fun _ _ x => x)
theorem callWith_boundV {pos : Pos} {u x : Addr} {first : List Value} {env : Env} {e : Expr} {rest : List Expr} {Q : Value → Shared → Prop}
    (h : wpAny M A (spliced (backTo pos (starEach (e :: rest) env))) (fun vs s₁ => s₁.heap.get? u = some (bwV x) ∧ wpAny M A (call (.ref u) (first ++ vs)) Q E s₁) E s)
    (he : starEach (e :: rest) env = (false, eval e env) :: starEach rest env := by rfl) (hplain : (backTo pos (starEach rest env)).any (·.1) = false := by rfl) :
    wpAny M A (callWith pos (.ref u) first (backTo pos (starEach (e :: rest) env)) []) Q E s := by
  rw [he] at h ⊢
  refine callWith_bwV (x := x) (by show (false || (backTo pos (starEach rest env)).any (·.1)) = false; rw [hplain]; rfl) ?_
  exact evalArgs_plain h
end
section
open PySem.W PySem.Calls PyProof.Rows
variable {prog : Program} {w : World} {A : Around} {E : Value → Shared → Prop} {h : Heap} {g : Array GenState} {d : Drawn} {t : Nat} {os : OsState}
variable {nm q : Str} {C N : Addr} {bs bm : List Value} {hdct : Bool} {sn : List Str} {sub : List Value} {ab : Bool} {col : Option Bool} {dd : Option Addr} {k0 k1 k2 k3 k5 : Option Value}
theorem call_bwV {u e t0 : Addr} {rest : List Value} {Q : Value → Shared → Prop}
    (hC : h.get? C = some (excClassObj nm q C N bs bm hdct sn sub ab col dd k0 k1 k2 k3 k5 "ValueError.__new__")) (he : h.get? e = some (HandSPX.excO C t0)) (hu : h.get? u = some (bwV e)) (hrest : rest.length ≤ sizeLine)
    (hq : ∀ h' t1, (∀ b o, b ≠ e → h.get? b = some o → h'.get? b = some o) → h'.get? e = some (HandSPX.excO C t1) → Q .none ⟨h', g, d, t, os⟩) :
    wpAny (model prog w) A (call (.ref u) rest) Q E ⟨h, g, d, t, os⟩ := by
  refine wpAny_call (codeAny_of_tree ?_)
  show wpAny _ A.in1 (callAny (.ref u) ⟨rest, []⟩) _ _ _
  simp only [callAny]
  refine wpAny_bind (wpAny_load hu ?_)
  simp only [bwV, show (Value.type "method-wrapper" == Value.type "method" || Value.type "method-wrapper" == Value.type "builtin_function_or_method" || Value.type "method-wrapper" == Value.type "method-wrapper") = true by decide, if_true]
  refine W.KFB.if_so (by decide) ?_
  refine wpAny_bind (ESX.check_bound F.excBase_ValueError hC he rfl ?_)
  refine wpAny_bind (wpAny_pure (wpAny_pure ?_))
  refine ⟨Code.quiet_builtin _ (by decide +kernel), codeAny_builtin F.excBase_ValueError.initEntry ?_⟩
  rw [Around.under_plainId F.excBase_ValueError.init.plain _]
  wp_walk
  refine hq _ h.objs.size (fun b o hb ho => ?_) ?_
  · rw [Heap.get?_update_other _ _ (Ne.symm hb)]
    exact Heap.get?_push_of_some _ ho
  · rw [Heap.get?_update_self _ (Heap.get?_push_of_some _ he) rfl]
    rfl
end
section
open PySem.Spec PyProof.Rows L2 NdefX
variable {CX CX2 : CXT} {P : Program} {w : World} {K : PySem.W.Frag} {mg : Str → Option Value} {base : Heap} {N ps : List Str} {k : Nat} {f cc cda C : Addr} {name qual : Str} {params : Arguments} {scope : Scope} {e : Expr} {es : List Expr} {p0 p1 p2 p3 p4 : Pos} {ta : TA} {ar : Arg}
/-- def __init__(self, ..): super().__init__(e ..); rest -- in a class C of exceptions under ValueError -/
theorem fn_excsup {body rest : List Stmt} (S : SupD P K name qual params body scope f cc cda C) (hbd : body = .Expr (.Call (.Attribute (.Call (.Name "super" p0) [] [] p1) "__init__" p2) (e :: es) [] p3) p4 :: rest)
    (Sc : NScope N ps ["__class__"] scope) (hnd : ps.Nodup) (hps : ps = ("self" : Str) :: ps.tail) (har : (params.posonlyargs ++ params.args).head? = some ar) (harn : ar.arg = "self") (hks : scope.names.lookup ("super" : Str) = some .globalImplicit)
    (hb : ∀ (kV doc pm : Value) (an : Option Addr) (ct : Value) (us : List Value), us.length = ps.length → bindArgs (PySem.W.fnX name qual params body scope [("__class__", cc)] .none kV doc pm an (.ref cda) ct) ⟨us, []⟩ = pure (ps.zip us))
    (hsm : mg "super" = none) (htop : (P.main.scope.names.lookup ("super" : Str)).isSome = false) (hop : PySem.W.nsIn K cStatics "thirdparty.any" = some none)
    (T : OexC K C) (hm : PySem.W.ks_superIn K C C "__init__" = some (some (.builtin "ValueError.__init__"))) (hsub : PySem.W.mroIn K C (.ref C) = some true) (hve : PySem.W.mroIn K C (.type "ValueError") = some true)
    (ha : ∀ A outer s H E, PA (ncx CX P w K mg base N (supF name qual params body scope cc cda) f A outer s H E) (e :: es) ta)
    (hs : ∀ A outer s H E, swapsWith (.Call (.Attribute (.Call (.Name "super" p0) [] [] p1) "__init__" p2) (e :: es) [] p3) none p4.line (ncx CX P w K mg base N (supF name qual params body scope cc cda) f A outer s H E).env = pure false)
    (he : ∀ A outer s H E, let env := (ncx CX P w K mg base N (supF name qual params body scope cc cda) f A outer s H E).env
      ∃ pl, eval (.Call (.Attribute (.Call (.Name "super" p0) [] [] p1) "__init__" p2) (e :: es) [] p3) env = (do
        let ov ← attributeBase (.Call (.Name "super" p0) [] [] p1) "__init__" env (eval (.Call (.Name "super" p0) [] [] p1) env)
        standAt p2.atName
        let (f, first) ← holding [ov] (getMethod ov "__init__" pl)
        callWith p3 f first (backTo p3 (starEach (e :: es) env)) []))
    (hse : ∀ A outer s H E, let env := (ncx CX P w K mg base N (supF name qual params body scope cc cda) f A outer s H E).env
      starEach (e :: es) env = (false, eval e env) :: starEach es env ∧ (backTo p3 (starEach es env)).any (·.1) = false)
    {tr : TS} (hrest : ∀ A outer s H E, PSs (ncx CX P w K mg base N (supF name qual params body scope cc cda) f A outer s H E) rest tr) :
    FnR P w K mg base CX (k + 1) f (fun vs H Q E => ∃ x r, vs = .ref x :: r ∧ vs.length = ps.length ∧ H x = some (exo x C none) ∧ ta (startF N vs [some (.ref C)]) H fun ws H1 => ws.length ≤ 1000 ∧ H1 = H ∧ tr { nx := fun _ H' => Q .non H', rt := Q } (startF N vs [some (.ref C)]) H) := by
  intro A outer s H us vs Q E hr e0 r hsp
  obtain ⟨x, rv, rfl, hl, hi, hsp⟩ := hsp
  have KX : K.In s.heap := e0.mod.kin.keeps fun b o e => (e0.bs b o e).1
  have lim : s.heap.NoLimit := e0.mod.nolimit.keeps fun b o e => (e0.bs b o e).1
  obtain ⟨oc, od, kV, doc, pm, an, ct, osl, lk⟩ := S.fn
  obtain ⟨ccl, cdd, cvs, ccs, file, tf, lc, lc2, lf⟩ := S.file
  obtain ⟨cl, cld, csl, lcell⟩ := S.cell
  obtain ⟨cdC, hcC⟩ := S.cls
  have ul : us.length = ps.length := by rw [← r.length]; exact hl
  have hcc : H cc = none := by
    have z := e0.mod.kin _ _ lcell
    exact (e0.bs _ _ z).2
  have CA : CellsAt [("__class__", cc)] ["__class__"] [some (.ref C)] s.heap H := by
    refine ⟨rfl, fun y c h => ?_, fun x y c h1 h2 => ?_, fun i y h => ?_⟩
    · have e : c = cc := by
        simp only [List.lookup] at h
        split at h
        · exact (Option.some.inj h).symm
        · cases h
      subst e
      exact ⟨hcc, _, ⟨_, KX _ _ lcell, rfl⟩⟩
    · simp only [List.lookup] at h1 h2
      split at h1
      · split at h2
        · rename_i q1 _ q2
          exact (beq_iff_eq.mp q1).trans (beq_iff_eq.mp q2).symm
        · cases h2
      · cases h1
    · match i, h with
      | 0, h =>
        have e : y = "__class__" := (Option.some.inj h).symm
        subst e
        refine ⟨cc, by simp [List.lookup], fun v hv => ?_⟩
        have e : v = .ref C := by
          have z := Option.some.inj hv
          exact (Option.some.inj z).symm
        subst e
        exact ⟨.ref C, rfl, ⟨_, KX _ _ lcell, rfl⟩⟩
      | n + 1, h => simp at h
  refine PySem.ks_codeAny_call_defAt (fd := PySem.W.fnX name qual params body scope [("__class__", cc)] .none kV doc pm an (.ref cda) ct) (body := body) (binds := ps.zip us) (by have := hr.dp; omega) (KX _ _ lk) rfl lim (PySem.W.codeRec_of KX S.code) rfl
    (.of_eq (hb kV doc pm an ct us ul)) Sc.nocell (fun y hy => Sc.par y.1 (List.of_mem_zip (show (y.1, y.2) ∈ ps.zip us from hy)).1) (fun h₁ hns kp => ?_) Sc.co Sc.gen Sc.kind
  obtain ⟨pl, hev⟩ := he A outer s H E
  obtain ⟨hse1, hse2⟩ := hse A outer s H E
  have I : Inv (ncx CX P w K mg base N (supF name qual params body scope cc cda) f A outer s H E) [] (startF N (.ref x :: rv) [some (.ref C)]) H { s with heap := h₁, toks := s.toks + (ps.zip us).length } := inv_startN Sc hr.hd e0 hl r CA hns kp
  have hex : ∀ env, execs body env = execs (.Expr (.Call (.Attribute (.Call (.Name "super" p0) [] [] p1) "__init__" p2) (e :: es) [] p3) p4 :: rest) env := fun _ => by rw [hbd]
  rw [hex]
  obtain ⟨mb, hmb, hbt⟩ := e0.mod.blt
  have K1 : K.In h₁ := I.kIn
  have kb : ∀ b o, base.get? b = some o → h₁.get? b = some o := fun b o e => kp b o (e0.bs b o e).1
  obtain ⟨oD, hD1, hD2⟩ : ∃ oD, h₁.get? C = some oD ∧ oD.data = .cls cdC := by
    unfold PySem.W.clsIn at hcC
    split at hcC
    · rename_i c d cd' sl ho
      cases hcC
      exact ⟨_, K1 _ _ ho, rfl⟩
    · cases hcC
  obtain ⟨t0, hx1⟩ := exo_at I.hok hi
  have J : PySem.W.InstAt h₁ x { cls := .ref C, dict := none, data := .fields #[.ref t0, .none, .none, .none, .bool false, .none] } C none := ⟨hx1, rfl, rfl, trivial⟩
  have hself : (ps.zip us).reverse.lookup ("self" : Str) = some (.ref x) := by
    cases r with
    | cons r1 r2 =>
      rename_i u us'
      obtain rfl : u = Value.ref x := r1
      exact zip_look (i := 0) hnd (by rw [hps]; rfl) rfl
  refine ks_wpAt_execs_cons (ks_wpAt_Expr_any ?_ I.quiet (hs A outer s H E))
  refine ks_wpAt_MethodCall (pl := pl) ?_ hev
  refine ks_wpAt_super_base (ar := ar) (file := file) (tf := tf) hks (Sc.frk _ (by simp)) (by decide) rfl (K1 _ _ lk) rfl har rfl (K1 _ _ lc) rfl lc2 lf htop ?_
  refine PySem.W.ks_loadName_global Sc.kind hks (Calls.loadGlobal_builtin (e0.mod.glob.keeps kb) hsm (hmb.keeps kb) ((hbt _ (by decide +kernel)).trans (by rfl : bootBuiltins "super" = some (.type "super"))) ⟨rfl, ?_⟩)
  refine wpAny_loadName_free Sc.kind (Sc.frk _ (by simp)) (c := cc) (by show List.lookup ("__class__" : Str) [("__class__", cc)] = some cc; simp [List.lookup]) ⟨_, K1 _ _ lcell, rfl⟩ ?_
  rw [harn]
  refine wpAny_loadName_local Sc.kind (by rw [← (show ar.arg = "self" from harn)]; rw [harn]; exact Sc.par _ (by rw [hps]; exact List.mem_cons_self)) hns hself ?_
  refine ks_wpAny_isType_cls hD1 hD2 ⟨rfl, ?_⟩
  refine ks_wpAny_call_super hD1 hD2 J.at_ J.cls (fun c e => by cases e) (PySem.W.looks_mroIn K1 hsub) (fun h2 e2 k2 => ?_)
  have K2 : K.In h2 := K1.keeps k2
  have hm2 := hm
  unfold PySem.W.ks_superIn at hm2
  rw [hcC] at hm2
  have hmro : PySem.W.Looks (model P w) h2 (mroOf (.ref C)) cdC.mro := (PySem.W.looks_clsIn K2 hcC).andThen .now
  have J2 : PySem.W.InstAt h2 x { cls := .ref C, dict := none, data := .fields #[.ref t0, .none, .none, .none, .bool false, .none] } C none := ⟨k2 _ _ hx1, rfl, rfl, trivial⟩
  have hin : PySem.W.Looks (model P w) h2 (isInstance (.ref x) (.type "ValueError")) true := J2.type.andThen (PySem.W.looks_mroIn K2 hve)
  refine getMethod_superV e2 (PySem.W.looks_opaque K2 hop) hmro rfl K2 hm2 (PySem.W.ks_ne K1 J hcC) (by decide) hin ?_
  have I2 := I.kept (h' := h2) (t' := s.toks + (ps.zip us).length + 1) k2
  have I3 := ClX.pin_new (o := bwV x) (h' := h2.push (bwV x)) (a := h2.objs.size) (t' := s.toks + (ps.zip us).length + 1) I2 (fun b u z => Heap.get?_push_of_some _ z) (Nat.le_refl _) (Heap.get?_push_at rfl rfl) (fun v z => by cases z)
  have hargs := (ha A outer s H E).run p3 _ _ _ _ _ I3 hsp
  show wpAny _ _ (callWith p3 (.ref h2.objs.size) [] (backTo p3 (starEach (e :: es) (ncx CX P w K mg base N (supF name qual params body scope cc cda) f A outer s H E).env)) []) _ _ _
  refine callWith_boundV (x := x) (thn hargs ?_) hse1 hse2
  rintro vs s4 ⟨ws, H4, I4, r4, hwl, eH, q4⟩
  have eH' : H = H4 := eH.symm
  subst eH'
  refine ⟨ClX.pin_at I4, ?_⟩
  rw [List.nil_append]
  obtain ⟨nm, q, NN, bs, bm, sn, sub, ab, col, dd, k0, k1, k2', k3, k5, hCl, hbm⟩ := T.cls
  obtain ⟨t1, hx4⟩ := exo_at I4.hok hi
  have hu4 := ClX.pin_at I4
  have KI4 := I4.kIn
  have I5 := ClX.unpin I4
  obtain ⟨hp, g, d, t, os⟩ := s4
  refine call_bwV (KI4 _ _ hCl) hx4 hu4 (by rw [← Paired.length r4, sizeLine_eq]; omega) fun h' t2 k hx' => ?_
  have J5 := I5.write (t' := t) (x := x) (e := x) (o := exo x C none) (by rw [hi]; exact True.intro) (.inl rfl) k ⟨_, hx'⟩ (exo_ok hx')
  have eu : ∀ H' : Hp, H' x = some (exo x C none) → upd H' x (exo x C none) = H' := fun H' hi' => by
    funext b
    by_cases hb : b = x
    · rw [hb, upd_same, hi']
    · rw [upd_ne hb]
  rw [eu _ hi] at J5
  refine wpAt_of_wpAny (thn ((hrest A outer s H E).run [] _ _ _ _ J5 q4) fun fl s' hs => ?_)
  have fin : ∀ {σ' : L2.St} {H' : Hp} {v : V} {u : Value}, Inv (ncx CX P w K mg base N (supF name qual params body scope cc cda) f A outer s H E) [] σ' H' s' → L2.RelV v u → Q v H' → CE outer P w H s Q u s' :=
    fun {σ' H' v u} J rv q => ⟨v, H', J.os, J.bare, J.base, J.hok, rv, q⟩
  cases fl with
  | ret u =>
    obtain ⟨v, σ', H', J, rv, q⟩ := hs
    exact fin J rv q
  | next =>
    obtain ⟨σ', H', J, q⟩ := hs
    exact fin (v := V.non) (u := Value.none) J rfl q
  | brk =>
    obtain ⟨_, _, _, q⟩ := hs
    exact False.elim q
  | cont =>
    obtain ⟨_, _, _, q⟩ := hs
    exact False.elim q
end
end N1
set_option maxHeartbeats 4000000
/-! raise C(e ..), C under ValueError, its __init__ by a promise -/
namespace N1
open PySem PySem.Spec PyProof.Rows L2
section
variable {X : Cx} {e : Expr} {es : List Expr} {ta : TA} {p pos : Pos}
theorem pmk_oexR {CX : CXT} {x : Str} {C fI : Addr} {k : Nat} {sp : Sp} (T : OexC X.K C) (iC : PySem.W.findIn X.K (.ref C) "__init__" = some (some (.ref fI))) (tI : PySem.W.typeIn X.K (.ref fI) = some (.type "function"))
    (F1 : FnR X.prog X.w X.K X.mg X.base CX k fI sp) (hr : Room (k + 1) X.A) (hx : Passes CX X (fun _ _ _ => False)) (hg : Gl X x) (hm : X.mg x = some (.ref C)) (ha : PA X (e :: es) ta)
    (hdb : (x == ("__debug__" : Str)) = false := by decide) (he : starEach (e :: es) X.env = (false, eval e X.env) :: starEach es X.env := by rfl) (hpl : (backTo pos (starEach es X.env)).any (·.1) = false := by rfl) :
    PMk X (.Call (.Name x p) (e :: es) [] pos) (tMkO C sp [] ta) := by
  intro pins s σ H Q I h
  obtain ⟨nm, q, N, bs, bm, sn, sub, ab, col, dd, k0, k1, k2, k3, k5, hC, hbm⟩ := T.cls
  refine wpAny_Call_Name_kw (ld_glob I hg hm ?_ hdb)
  refine PySem.W.callWith_K (h₀ := X.base) I.ok.mod.kin T.kC (thn (ha.run pos pins s σ H _ I h) fun us s1 ⟨vs, H1, I1, r1, hz, q1⟩ => ⟨I1.kIn, ?_⟩) he hpl
  show wpAny _ _ (call (.ref C) us) _ _ _
  obtain ⟨hp, g, dr, tk, os⟩ := s1
  have hsz : hp.objs.size ≤ hp.objs.size + 1 := Nat.le_succ _
  have hn : H1 (hp.objs.size + 1) = none := I1.hok.fresh hsz
  have hq := q1 (hp.objs.size + 1) hn
  rw [List.append_nil] at hq
  have kk : ∀ b o, hp.get? b = some o → ((hp.push (PySem.W.kdv_tup us)).push (PySem.HandSPX.excO C hp.objs.size)).get? b = some o := fun b o e => Heap.get?_push_of_some _ (Heap.get?_push_of_some _ e)
  have hget : ((hp.push (PySem.W.kdv_tup us)).push (PySem.HandSPX.excO C hp.objs.size)).get? (hp.objs.size + 1) = some (PySem.HandSPX.excO C hp.objs.size) := by heap_get
  have I2 : Inv X pins σ (upd H1 (hp.objs.size + 1) (exo (hp.objs.size + 1) C none)) ⟨(hp.push (PySem.W.kdv_tup us)).push (PySem.HandSPX.excO C hp.objs.size), g, dr, tk, os⟩ :=
    I1.laid (t' := tk) (a := hp.objs.size + 1) (o := exo (hp.objs.size + 1) C none) (h' := (hp.push (PySem.W.kdv_tup us)).push (PySem.HandSPX.excO C hp.objs.size)) kk hsz (exo_ok hget)
  have r2 : Vals (V.ref (hp.objs.size + 1) :: vs) (Value.ref (hp.objs.size + 1) :: us) := .cons rfl r1
  have hus : us.length ≤ sizeLine := by
    rw [← Paired.length r1, sizeLine_eq]
    omega
  refine wpAny_call (PySem.HandSPX.call_own F.excBase_ValueError (fun Y => PySem.HandSPX.refsVE_contains Y bm hbm) (I1.kIn _ _ hC) (PySem.W.looks_findIn I1.kIn iC) (fun self => PySem.W.bind_fn I1.kIn self tI) hus
    (codeAny_mono (F1 _ X.stack _ _ (Value.ref (hp.objs.size + 1) :: us) _ _ (fun _ _ _ => False) (hr.make C us []) (I2.env0.make C us []) r2 hq) fun r s' hq' => ?_))
  cases r with
  | error er => exact hx pins σ _ _ er s' I2 hq'
  | ok fl =>
    cases fl with
    | ret u =>
      obtain ⟨v, H2, os2, bare2, un2, hok2, rv, ev, d, fs, ea, ed, hd1, q2⟩ := hq'
      subst ev
      obtain ⟨h2, g2, d2, t2, os'⟩ := s'
      exact ⟨rv, mk_end (raises_own T.exC T.tyC) I1 hsz kk un2 hok2 os2 bare2 ea ed hd1 q2⟩
    | next => exact False.elim hq'
    | brk => exact False.elim hq'
    | cont => exact False.elim hq'
end
end N1
set_option maxHeartbeats 2000000
/-! for x in o, o of a class whose __iter__ says iter(a dict) -/
namespace N1
open PySem PySem.Spec PyProof.Rows L2
/-- a promise that knows how large the heap is where the call stands -/
def FnRn (P : Program) (w : World) (K : PySem.W.Frag) (mg : Str → Option Value) (base : Heap) (CX : CXT) (k : Nat) (f : Addr) (sp : Nat → Sp) : Prop :=
  ∀ (A : Around) (outer : List Env) (s : Shared) (H : Hp) (us : List Value) (vs : List V) (Q : VK) (E : XK), Room k A → Env0 P w K mg base A outer s H → Vals vs us → sp s.heap.objs.size vs H Q E →
    codeAny (model P w) A (.call (.ref f) ⟨us, []⟩) (CR CX outer P w H s Q E) s
section
variable {P : Program} {w : World} {K : PySem.W.Frag} {mg : Str → Option Value} {base : Heap}
theorem fn_ofN {x qual : Str} {st : Stmt} {f : Addr} {fd : FuncData} {N ps : List Str} {k : Nat} {sp : Nat → Sp} (F : Fun K x qual st f fd) (S : FnScope N ps (defScope st)) (hb : Binds K fd ps []) (len : ∀ n vs H Q E, sp n vs H Q E → vs.length = ps.length)
    (hbody : ∀ (cdv : Value) (A : Around) (outer : List Env) (s : Shared) (H : Hp) (vs : List V) (Q : VK) (E : XK), Room k (A.deeper (envOfC qual (defScope st) s.heap.objs.size f cdv)) → sp s.heap.objs.size vs H Q E →
      ∃ t, PSs (cxOf CX0 P w K mg base N qual (defScope st) f cdv A outer s H E).nox (defBody st) t ∧ t { nx := fun _ H' => Q .non H', rt := Q } (start N vs) H) :
    FnRn P w K mg base CX0 (k + 1) f sp := by
  intro A outer s H us vs Q E hr e0 r hsp
  have z : FnOk P w K mg base CX0 (k + 1) f fd ps (fun vs' H' Q' E' => vs' = vs ∧ H' = H ∧ ∃ s' : Shared, s' = s ∧ sp s'.heap.objs.size vs' H' Q' E') → True := fun _ => trivial
  have hl := len _ _ _ _ _ hsp
  obtain ⟨oc, od, kV, doc, pm, an, cdv, ct, osl, rfl, lk, hcd⟩ := F.ex
  have KX : K.In s.heap := e0.mod.kin.keeps fun b o e => (e0.bs b o e).1
  have lim : s.heap.NoLimit := e0.mod.nolimit.keeps fun b o e => (e0.bs b o e).1
  have hkind : ∀ y ∈ ps.zip us, (defScope st).names.lookup y.1 = some .local ∨ ((defScope st).names.lookup y.1 = some .cell ∧ ((cellsFrom (s.heap.objs.size + 1) (defScope st).names []).lookup y.1).isSome = true) := fun ⟨n, v⟩ hy => by
    rcases S.par n (List.of_mem_zip hy).1 with q | q
    · exact .inl q
    · exact .inr ⟨q, PySem.W.cellsFrom_some _ _ _ (.inl q)⟩
  have hbs := hb s us KX (by rw [List.append_nil, ← r.length]; exact hl)
  rw [List.append_nil] at hbs
  refine codeAny_call_function hr.depth (KX _ _ lk) rfl S.co S.gen rfl (PySem.W.codeRec_of KX hcd) (hbs _ _ _ _ ?_)
  refine wpAny_newFunctionEnv_cells S.kind hkind fun env he s1 x => ?_
  subst he
  refine ⟨lim.keeps x.toInCall.keep, codeAny_func ?_⟩
  obtain ⟨t, ht, hq⟩ := hbody cdv A outer s H vs Q E (hr.deeper _) hsp
  have I : Inv (cxOf CX0 P w K mg base N qual (defScope st) f cdv A outer s H E) [] (start N vs) H s1 := inv_start S hr.hd e0 hl r x
  refine wpAny_mono (ht.nox.run [] s1 (start N vs) H _ I hq) (fun fl s' hs => ?_) fun e s' hs => hs
  have fin : ∀ {σ' : L2.St} {H' : Hp} {v : V} {u : Value}, Inv (cxOf CX0 P w K mg base N qual (defScope st) f cdv A outer s H E) [] σ' H' s' → L2.RelV v u → Q v H' → CE outer P w H s Q u s' :=
    fun {σ' H' v u} J rv q => ⟨v, H', J.os, J.bare, J.base, J.hok, rv, q⟩
  cases fl with
  | ret u =>
    obtain ⟨v, σ', H', J, rv, q⟩ := hs
    exact fin J rv q
  | next =>
    obtain ⟨σ', H', J, q⟩ := hs
    exact fin (v := V.non) (u := Value.none) J rfl q
  | brk =>
    obtain ⟨_, _, _, q⟩ := hs
    exact False.elim q
  | cont =>
    obtain ⟨_, _, _, q⟩ := hs
    exact False.elim q
end
/-- at it an iterator over the keys of the locked dict at d -/
def KitO (d it n ep : Nat) : HO := .ext fun h => h.IsKeyIter it d 0 n ep
theorem kitO_ok {P : Program} {w : World} {H : Hp} {h : Heap} {d it n ep : Nat} (e : h.IsKeyIter it d 0 n ep) : ObjOk P w H h it (KitO d it n ep) := by
  obtain ⟨o, ho, r⟩ := e
  exact ⟨⟨o, ho, r⟩, ⟨o, ho⟩, fun h1 h2 z k => by
    obtain ⟨o, ho, r⟩ := z
    exact ⟨o, k _ ho, r⟩⟩
/-- iter(d), d a locked dict -/
def rIterK (n : Nat) : List V → Hp → VK → Prop := fun xs H Q => ∃ (d : Addr) (o : Obj) (kvs : List (Key × V)), xs = [.ref d] ∧ H d = some (.frz o (.dK kvs)) ∧
  ∀ it es ep, o.data = .dict es ep → H it = none → n ≤ it → Q (.ref it) (upd H it (KitO d it kvs.length ep))
section
variable {X : Cx} {pins : List (Addr × Obj)} {σ : L2.St} {H : Hp} {s : Shared} {tg e : Expr} {te : TE}
theorem call_iterK : CallR X (.builtin "iter") (rIterK X.s_0.heap.objs.size) := by
  intro pins s σ H xs us Q I r h
  obtain ⟨d, o, kvs, rfl, hd, q⟩ := h
  obtain ⟨u, rfl, ru⟩ := vals1 r
  cases ru
  obtain ⟨hs, hgd, hx, es, ep, vs, hdt, hsz, kv, hm⟩ := I.frzK hd
  refine Calls.call_function_entry (by decide +kernel) (by decide +kernel) PySem.W.kdk_entry_iter (PySem.W.kdk_args_iter _) ?_
  unfold Builtin.«iter»
  refine wpAny_bind (m := someArgs "iter" 1 2 _) (wpAny_of_eq (a := [Value.ref d]) (by first | rfl | kernel_rfl!) ?_)
  show wpAny _ _ (pyIter (.ref d) >>= _) _ _ _
  refine wpAny_bind (iter_keys hs hgd hx hdt ?_)
  refine wpAny_pure ⟨_, rfl, .ref s.heap.objs.size, _, I.laid (t' := s.toks) (fun b u e => Heap.get?_push_of_some _ e) (Nat.le_refl _) (kitO_ok (n := kvs.length) (ep := ep) ⟨_, Heap.get?_push_size _ rfl, rfl, by rw [hsz] <;> rfl⟩), rfl, q _ es ep hdt (I.hok.fresh (Nat.le_refl _)) I.sz⟩
/-- for .. in o -/
def iOwn (C : Addr) (n : Nat) (sp : Nat → Sp) (E : XK) (te : TE) : TI := fun σ H R => te σ H fun x H1 => ∃ a, x = .ref a ∧ InsAt H1 a C ∧ ∀ m, n ≤ m → sp m [x] H1 (fun v H2 => ∃ (it d : Addr) (o : Obj) (kvs : List (Key × V)) (es : Array DictEntry) (ep : Nat), v = .ref it ∧ n ≤ it ∧ H2 it = some (KitO d it kvs.length ep) ∧
  H2 d = some (.frz o (.dK kvs)) ∧ o.data = .dict es ep ∧ R (Itk d o kvs) (ItX.dropH H2 it)) E
theorem pi_ownIter {CX : CXT} {k : Nat} {C f : Addr} {sp : Nat → Sp} {E : XK} (M : Meth X.K C "__iter__" f) (F : FnRn X.prog X.w X.K X.mg X.base CX k f sp) (hr : Room k X.A) (hx : Passes CX X E) (he : PE X e te) : PI X tg e (iOwn C X.s_0.heap.objs.size sp E te) := by
  refine ⟨fun pins s σ H R I h => ?_⟩
  refine thn (he.run pins s σ H _ I h) fun u s1 ⟨x, H1, I1, rx, a, ex, hi, q⟩ => ?_
  subst ex
  obtain rfl : u = Value.ref a := rx
  obtain ⟨m, Fr⟩ := I1.fr
  obtain ⟨ox, od, J, hd⟩ := insAt_at I1 hi
  refine PySem.W.owit_iter Fr I1.mod.kin J M.at_ M.fn (wpAny_call (codeAny_mono (F X.A X.stack s1 H1 [.ref a] [.ref a] _ E hr I1.env0 (.cons (show RelV (.ref a) (.ref a) from rfl) .nil) (q _ I1.sz)) fun r s' hq => ?_))
  cases r with
  | error e => exact hx pins σ H1 s1 e s' I1 hq
  | ok fl =>
    cases fl with
    | ret u =>
      have hq2 := I1.after hq
      obtain ⟨v, H2, I2, rv, it, d, o, kvs, es, ep, rfl, hn, hit, hd2, hdt, q2⟩ := hq2
      cases rv
      have hit' := hit
      unfold KitO at hit'
      have st : s'.heap.IsKeyIter it d 0 kvs.length ep := (show ObjOk X.prog X.w H2 s'.heap it (.ext fun h => h.IsKeyIter it d 0 kvs.length ep) from I2.hok it _ hit').1
      show PySem.W.OwitIt _ _ _ _ (Value.ref it) _
      unfold PySem.W.OwitIt
      refine wpAny_specialOf (name := Str.ofString "__next__") st.typeIs PySem.F.slot_dict_keyiterator_next.lookup ?_
      refine ⟨it, [it], _, _, ItX.dropH H2 it, rfl, ItX.inv_drop I2 hit', turn_keys it hdt, st, fun b hb => ?_, q2⟩
      have e : b = it := by simpa using hb
      rw [e]
      exact ItX.inv_fp I2 hit hn
    | next => exact False.elim hq
    | brk => exact False.elim hq
    | cont => exact False.elim hq
end
end N1
set_option maxHeartbeats 2000000
/-! small ones: repr(bool), xs.count(text), o.f as a target, xs != [], enumerate(tuple) -/
namespace N1
open PySem PySem.Spec PyProof.Rows L2
section
variable {X : Cx}
theorem call_repr_bool : CallR X (.builtin "repr") (fun xs H Q => ∃ b, xs = [.bl b] ∧ Q (.str (if b then "True" else "False")) H) := by
  intro pins s σ H xs us Q I r h
  obtain ⟨b, rfl, q⟩ := h
  obtain ⟨u, rfl, ru⟩ := vals1 r
  obtain rfl : u = Value.bool b := ru
  exact PySem.P.repr_of_bool ⟨.str _, H, I.tok _, ⟨_, rfl⟩, q⟩
def eqs (k : Str) (v : Value) : Bool := match v with
  | .str n _ => n == k
  | _ => false
theorem eqs_gives {k : Str} {t : Tok} : ∀ {us : List Value} {ns : List Str}, StrsAre us ns → ∀ y ∈ us, MeetsSeq.EqGives y (.str k t) (eqs k y)
  | _, _, .nil => fun y hy => by cases hy
  | _, _, .cons n t' h => fun y hy => by
    rcases List.mem_cons.mp hy with e | e
    · rw [e]
      have z := SeqRoads2.EqGives.str n k t' t
      have e2 : (n.cps.toList == k.cps.toList) = eqs k (.str n t') := by
        show _ = (n == k)
        by_cases q : n = k
        · subst q
          simp
        · have q2 : ¬ n.cps.toList = k.cps.toList := fun z => q (by
            cases n with
            | mk a => cases k with
              | mk b => simp at z; rw [z])
          rw [beq_eq_false_iff_ne.mpr q, beq_eq_false_iff_ne.mpr q2]
      rw [← e2]
      exact z
    · exact eqs_gives h y e
theorem eqs_count {k : Str} : ∀ {us : List Value} {ns : List Str}, StrsAre us ns → us.countP (eqs k) = ns.count k
  | _, _, .nil => rfl
  | _, _, .cons n t h => by
    have ih := eqs_count (k := k) h
    rw [List.countP_cons, List.count_cons, ih] <;> rfl
def rCntS (K : PySem.W.Frag) : V → List V → Hp → VK → Prop := fun x xs H Q => ∃ (p : Addr) (ns : List Str) (k : Str), x = .ref p ∧ xs = [.str k] ∧ SqL K H p (ns.map V.str) ∧ Q (.int (ns.count k : Nat)) H
theorem mt_lcountS : MtR X "list.count" (rCntS X.K) := by
  intro pins s σ H x xs v us Q I rx rxs h
  obtain ⟨p, ns, k, rfl, rfl, hs, q⟩ := h
  cases rx
  obtain ⟨u, rfl, ru⟩ := rxs.one
  obtain ⟨t, rfl⟩ := ru
  obtain ⟨its, rv, ⟨⟨cls, dd, data, sl⟩, n, ho, hc, hdn, hd⟩, hlen⟩ := I.list hs
  simp only at hc hd
  subst hc hd
  have hi := strsAre_of rv
  refine call_meets PySem.F.slot_list_count ⟨_, ho, rfl⟩ PySem.F.entry_list_count (PySem.F.args_list_count_2 _ _)
    (SeqAt.list_countAt p its.toArray n dd sl (.str k t) (eqs k)) ⟨ho, fun y hy => (eqs_gives hi y (by simpa using hy)).at _ _, ?_⟩
  have ec : its.toArray.toList.countP (eqs k) = ns.count k := eqs_count hi
  refine ⟨.int (ns.count k : Nat), H, I.tok _, ⟨s.toks, ?_⟩, q⟩
  show Value.int ((its.toArray.toList.countP (eqs k) : Nat) : Int) s.toks = Value.int ((ns.count k : Nat) : Int) s.toks
  rw [ec]
/-- .., o.f, .. = e -/
def gFld (K : PySem.W.Frag) (ta : TE) (f : Str) : TG := fun y σ H Q => ta σ H fun x H2 => ∃ a C dx fs, x = .ref a ∧ H2 a = some (.ins C dx fs) ∧ Cls K C ∧ NoAttr K C f ∧ fs.length < 1000 ∧ Q σ (upd H2 a (.ins C dx (putF f y fs)))
theorem pg_fld {o : Expr} {ta : TE} {f : Str} {pos : Pos} (ho : PE X o ta) : PG X (.Attribute o f pos) (gFld X.K ta f) := by
  refine ⟨fun pins s σ H v u Q I r h => ?_⟩
  rw [arm_assign_Attribute]
  refine wpAny_bind (wpAny_holding (thn (ho.run pins s σ H _ I h) fun ov s1 ⟨x, H1, I1, r1, a, C, dx, fs, ex, ea, c, n, l, q⟩ => ?_))
  subst ex
  obtain rfl : ov = Value.ref a := r1
  refine wpAny_bind (wpAny_standAt (wpAny_bind (wpAny_holding (setattr_ok I1 ea c n l r fun s3 I3 => ?_))))
  exact wpAny_release ⟨σ, _, I3, q⟩
/-- xs != [] -/
def rNeNil (K : PySem.W.Frag) : R2 := fun x y H Q => ∃ a b xs, x = .ref a ∧ y = .ref b ∧ SqL K H a xs ∧ SqL K H b [] ∧ Q (.bl (!xs.isEmpty)) H
theorem op_neNil (hu : X.A.units < cLine) : OpR X (compareOp .NotEq) (rNeNil X.K) := by
  intro pins s σ H x y v u Q I rx ry h
  obtain ⟨a, b, xs, rfl, rfl, ha, hb, q⟩ := h
  cases rx
  cases ry
  obtain ⟨its, rv, ⟨⟨cls, dd, data, sl⟩, n, ho, hc, hdn, hd⟩, hlen⟩ := I.list ha
  obtain ⟨its2, rv2, ⟨⟨cls2, dd2, data2, sl2⟩, n2, ho2, hc2, hdn2, hd2⟩, hlen2⟩ := I.list hb
  simp only at hc hd hc2 hd2
  subst hc hd hc2 hd2
  cases rv2
  show wpAny _ _ (richCompare .NotEq (.ref a) (.ref b)) _ _ _
  have hla : s.heap.IsList a its.toArray := ⟨_, ho, rfl, n, rfl⟩
  have hlb : s.heap.IsList b ([] : List Value).toArray := ⟨_, ho2, rfl, n2, rfl⟩
  cases xs with
  | nil =>
    cases rv
    exact SeqAt.RcNeAt.lists (e := fun _ => true) hla hlb rfl hu (fun j h1 h2 => by simp at h1) _ _ _ _ ⟨.bl false, H, I, rfl, q⟩
  | cons x0 xs0 =>
    cases rv with
    | @cons _ u0 _ us0 r0 rr => exact SeqAt.RcNeAt.lists_lengths hla hlb (by simp) hu _ _ _ _ ⟨.bl true, H, I, rfl, q⟩
end
end N1
set_option maxHeartbeats 2000000
/-! for i, x in enumerate(a tuple) -/
namespace PySem
namespace N1E
open Sem (wp)
open AutoSeq1 (wpAny_loadPart')
section
variable {prog : Program} {w : World} {A : Around} {E : Value → Shared → Prop} {s : Shared}
theorem nextOf_tuple_item {it t : Addr} {i : Nat} {items} {x : Value} {Q : Value → Shared → Prop} (hit : s.heap.IsTupleIter it t i)
    (hl : s.heap.IsTuple t items) (hx : items[i]? = some x)
    (hQ : ∀ h', h'.IsTupleIter it t (i + 1) → Heap.SameBut it s.heap h' → Q x { s with heap := h' }) :
    wpAny (model prog w) A (Builtin.SmallTypes.nextOf (.ref it)) Q E s := by
  obtain ⟨o, ho, hc, hd⟩ := id hit
  obtain ⟨ol, hol, _, nl, hdl⟩ := hl
  unfold Builtin.SmallTypes.nextOf
  refine wpAny_bind (wpAny_callSpecial?_slot (name := Str.ofString "__next__") hit.typeIs F.slot_tuple_iterator_next
    (wpAny_call_entry F.slot_tuple_iterator_next hit.typeIs F.entry_tuple_iterator_next ?_ (F.args_tuple_iterator_next_1 _)))
  show wpAny _ _ (field (.ref it) 0 >>= _) _ _ s
  refine wpAny_bind (wpAny_field ho hd (x := .ref t) rfl ?_)
  show wpAny _ _ (if (Value.ref t == Value.none) = true then _ else _) _ _ s
  rw [if_neg (show ¬ ((Value.ref t == Value.none) = true) from Bool.false_ne_true)]
  show wpAny _ _ (field (.ref it) 1 >>= _) _ _ s
  refine wpAny_bind (wpAny_field ho hd (x := .int i 0) rfl ?_)
  show wpAny _ _ (seqItems? (.ref t) >>= _) _ _ s
  refine wpAny_bind (wpAny_seqItems hol hdl ?_)
  simp only [Int.toNat_natCast, hx]
  refine wpAny_bind (wpAny_setField ho hd (by simp) (wpAny_pure ⟨x, rfl, wpAny_pure (hQ _ ?_ (Heap.SameBut.update ..))⟩))
  exact ⟨_, Heap.get?_update_self _ ho (Obj.isFreed_of_fields (Obj.data_mapFields hd _)), (Obj.cls_mapFields ..).trans hc, by
    rw [Obj.data_mapFields hd]; simp [rawInt]⟩
theorem nextOf_tuple_end {it t : Addr} {i : Nat} {items} {Q : Value → Shared → Prop} (hh : A.handled = none)
    (hit : s.heap.IsTupleIter it t i) (hl : s.heap.IsTuple t items) (hx : items[i]? = none)
    (hE : ∀ h' e, Heap.ExtBut it s.heap h' → (∃ o, h'.get? e = some o ∧ o.cls = .type "StopIteration") → E (.ref e) { s with heap := h' }) :
    wpAny (model prog w) A (Builtin.SmallTypes.nextOf (.ref it)) Q E s := by
  obtain ⟨o, ho, hc, hd⟩ := id hit
  obtain ⟨ol, hol, _, nl, hdl⟩ := hl
  unfold Builtin.SmallTypes.nextOf
  refine wpAny_bind (wpAny_callSpecial?_slot (name := Str.ofString "__next__") hit.typeIs F.slot_tuple_iterator_next
    (wpAny_call_entry F.slot_tuple_iterator_next hit.typeIs F.entry_tuple_iterator_next ?_ (F.args_tuple_iterator_next_1 _)))
  show wpAny _ _ (field (.ref it) 0 >>= _) _ _ s
  refine wpAny_bind (wpAny_field ho hd (x := .ref t) rfl ?_)
  show wpAny _ _ (if (Value.ref t == Value.none) = true then _ else _) _ _ s
  rw [if_neg (show ¬ ((Value.ref t == Value.none) = true) from Bool.false_ne_true)]
  show wpAny _ _ (field (.ref it) 1 >>= _) _ _ s
  refine wpAny_bind (wpAny_field ho hd (x := .int i 0) rfl ?_)
  show wpAny _ _ (seqItems? (.ref t) >>= _) _ _ s
  refine wpAny_bind (wpAny_seqItems hol hdl ?_)
  simp only [Int.toNat_natCast, hx]
  refine wpAny_bind (wpAny_rule (wpAny_bind (wpAny_setField ho hd (by simp) ?_)))
  show wpAny _ _ (newExc (.type "StopIteration") [] >>= _) _ _ _
  refine wpAny_bind ?_
  simp only [newExc, newTuple]
  refine wpAny_bind (wpAny_newObj_type ?_ (by size_fits))
  refine wpAny_bind (m := firstArgMember _ _) (wpAny_of_eq (a := Value.none) (by first | rfl | (simp only [firstArgMember]; rfl)) ?_)
  refine wpAny_newObj_type ?_ (by size_fits)
  simp only [raiseNew]
  refine wpAny_bind (wpAny_handled ?_)
  first | rw [show A.in1.handled = none from hh] | rw [hh]
  refine wpAny_bind (wpAny_pure (wpAny_throw ?_))
  exact hE _ _ (((Heap.SameBut.update ..).extBut.push _).push _) ⟨_, Heap.get?_push_size _ rfl, rfl⟩
end
theorem drawsTuple {prog : Program} {w : World} {A : Around} (hh : A.handled = none) (it l : Addr) (hne : l ≠ it) (items : Array Value) :
    Draws prog w A it [it, l] items.size (fun i v => items[i]? = some v) (fun i h => h.IsTupleIter it l i ∧ h.IsTuple l items) where
  live := fun _ _ st => let ⟨o, ho, _⟩ := st.1; ⟨o, ho⟩
  frame := fun _ _ _ st hk => ⟨st.1.at fun o e => hk it (by simp) o e, st.2.at fun o e => hk l (by simp) o e⟩
  item := fun i s Q E hi st hQ => by
    refine nextOf_tuple_item st.1 st.2 (x := items[i]) (by simp [hi]) fun h' hit' hs' => ?_
    exact hQ _ h' s.toks (by simp [hi]) ⟨hit', st.2.extBut hs'.extBut hne⟩ hs'
  done := fun s Q E st hE => nextOf_tuple_end hh st.1 st.2 (by simp) hE
theorem meets_enum_newT (l : Addr) (items : Array Value) (n : Nat) (dct : Option Addr) (sl : Array (Option Value)) :
    Meets (Builtin.«enumerate.__new__» ⟨[.type "enumerate", .ref l], []⟩) (fun _ R s => s.heap.get? l = some { cls := .type "tuple", dict := dct, data := .seq items n, slots := sl } ∧
      R (.ok (.ret (.ref (s.heap.push { cls := .type "tuple_iterator", data := .fields #[.ref l, .int 0 0] }).objs.size)))
        { s with heap := (s.heap.push { cls := .type "tuple_iterator", data := .fields #[.ref l, .int 0 0] }).push { cls := .type "enumerate", data := .fields #[.none, .bool false, .ref s.heap.objs.size, rawInt 0, .none, .none] } }) :=
  .of_wp fun prog w A R s h => by
    obtain ⟨hp, g, d, tk, os⟩ := s; obtain ⟨hl, h⟩ := h
    have hsub := sub_enumerate
    have hL : Heap.IsTuple (Shared.heap ⟨hp, g, d, tk, os⟩) l items := ⟨_, hl, rfl, n, rfl⟩
    wp_walk using wpAny_loadPart' hl
    refine wpAny_stack_any fun st => wpAny_pure ?_
    split
    · rename_i c _ _ _ _ _
      cases (c == Value.type "enumerate")
      · wp_walk using wpAny_loadPart' hl, wpAny_pyIter_tuple hL
        exact ⟨_, rfl, h⟩
      · wp_walk using wpAny_loadPart' hl, wpAny_pyIter_tuple hL
        exact ⟨_, rfl, h⟩
    · wp_walk using wpAny_loadPart' hl, wpAny_pyIter_tuple hL
      exact ⟨_, rfl, h⟩
section
variable {prog : Program} {w : World} {A : Around} {E : Value → Shared → Prop} {s : Shared}
theorem call_enum_tuple {l : Addr} {items : Array Value} {Q : Value → Shared → Prop} (hL : s.heap.IsTuple l items)
    (h : ∀ h', IsEnum h' (s.heap.objs.size + 1) s.heap.objs.size 0 .none → h'.IsTupleIter s.heap.objs.size l 0 → h'.objs.size = s.heap.objs.size + 2 →
      (∀ b o, s.heap.get? b = some o → h'.get? b = some o) → Q (.ref (s.heap.objs.size + 1)) { s with heap := h' }) :
    wpAny (model prog w) A (call (.type "enumerate") [.ref l]) Q E s := by
  obtain ⟨⟨c, dct, dt, sl⟩, hl, hc, n, hd⟩ := hL
  replace hc : c = .type "tuple" := hc
  replace hd : dt = .seq items n := hd
  subst hc hd
  refine callType_new F.called_enumerate (by decide) (F.typeCall_enumerate_1 _) (F.newCall_enumerate_1 _) (fun obj => F.args_object_init_2 obj _) F.entry_enumerate_new
    (meets_enum_newT l items n dct sl) ⟨hl, ?_⟩
  have hz : (s.heap.push { cls := .type "tuple_iterator", data := .fields #[.ref l, .int 0 0] }).objs.size = s.heap.objs.size + 1 := Heap.size_push ..
  show _ ∧ _
  rw [hz]
  have he : IsEnum ((s.heap.push { cls := .type "tuple_iterator", data := .fields #[.ref l, .int 0 0] }).push
      { cls := .type "enumerate", data := .fields #[.none, .bool false, .ref s.heap.objs.size, rawInt 0, .none, .none] }) (s.heap.objs.size + 1) s.heap.objs.size 0 .none := by
    have := Heap.get?_push_size (s.heap.push { cls := .type "tuple_iterator", data := .fields #[.ref l, .int 0 0] })
      (o := { cls := .type "enumerate", data := .fields #[.none, .bool false, .ref s.heap.objs.size, rawInt 0, .none, .none] }) rfl
    rw [hz] at this; exact this
  refine ⟨⟨_, he, rfl⟩, h _ he ⟨_, Heap.get?_push_of_some _ (Heap.get?_push_size _ rfl), rfl, rfl⟩ (by rw [Heap.size_push, hz]) fun b o x => Heap.get?_push_of_some _ (Heap.get?_push_of_some _ x)⟩
end
end N1E
end PySem
namespace N1
open PySem PySem.Spec PyProof.Rows L2
def Itet (K : PySem.W.Frag) (a : Addr) : It :=
  ⟨fun i H => ∃ (xs : List V) (x : V), SqT K H a xs ∧ xs[i]? = some x, fun i H v H' => ∃ T x, v = .ref T ∧ H T = none ∧ H' = upd H T (.tup [.int (i : Nat), x]) ∧ ∀ xs, SqT K H a xs → xs[i]? = some x, fun i H => ∃ xs : List V, SqT K H a xs ∧ xs.length ≤ i⟩
theorem turn_enumT {P : Program} {w : World} {K : PySem.W.Frag} {elts : List Expr} {kk : Nat} {tpos : Pos} (a e it : Addr) :
    Turn P w K (.Tuple elts kk tpos) (Itet K a) [e, it] e (fun i h => (∃ old, IsEnum h e it ((i : Nat) : Int) old) ∧ h.IsTupleIter it a i ∧ e ≠ it) where
  mem := by simp
  obj := fun i h st b hb => by
    obtain ⟨⟨old, he⟩, ⟨o, ho, hc, hd⟩, _⟩ := st
    have e' : b = e ∨ b = it := by simpa using hb
    rcases e' with z | z
    · rw [z]; exact ⟨_, he, fun v q => nomatch q⟩
    · rw [z]; exact ⟨o, ho, fun v q => by rw [hd] at q; cases q⟩
  keep := fun i h h' st k => let ⟨⟨old, he⟩, hi, hne⟩ := st; ⟨⟨old, k e (by simp) _ he⟩, hi.at fun o q => k it (by simp) o q, hne⟩
  item := by
    intro X hP hw hK hc i pins s σ H E I hf st hg
    subst hP hw hK
    obtain ⟨⟨old, he⟩, hit, hne⟩ := st
    obtain ⟨xs, x, hq, hx⟩ := hg
    obtain ⟨its, rv, p, hz⟩ := I.tuple hq
    obtain ⟨u, hu, ru⟩ := rv.get hx
    have hel : e < s.heap.objs.size := Heap.lt_size he
    have hil : it < s.heap.objs.size := by obtain ⟨_, q, _⟩ := hit; exact Heap.lt_size q
    have hpt : s.heap.IsTuple a its.toArray := p
    have hai : a ≠ it := fun z => by
      obtain ⟨o1, h1, c1, d1⟩ := id hit
      obtain ⟨o2, h2, c2, _⟩ := id hpt
      rw [z, h1] at h2
      cases h2
      rw [c1] at c2
      exact absurd c2 (by decide)
    have hae : e ∉ [it, a] := fun z => by
      rcases List.mem_cons.mp z with z | z
      · exact hne z
      · have z2 : e = a := by simpa using z
        obtain ⟨o2, h2, c2, _⟩ := id hpt
        rw [← z2, he] at h2
        cases h2
        exact absurd (show Value.type "enumerate" = Value.type "tuple" from c2) (by decide)
    have D := N1E.drawsTuple (prog := X.prog) (w := X.w) (A := X.A.in1) (I.ok.hd hc) it a hai its.toArray
    refine wpAny_pyNext_enum_itemD D he ⟨hit, hpt⟩ (by have := (List.getElem?_eq_some_iff.mp hu).1; simpa using this) hne hae fun x' h' tk hx' ho st' hT hsz hk => ?_
    have ex : x' = u := by
      have z : its.toArray[i]? = some u := by simpa using hu
      rw [z] at hx'
      exact (Option.some.inj hx').symm
    subst ex
    refine ⟨_, rfl, wpAny_letOwnedTupleGo_enum (s := { s with heap := h', toks := tk + 1 }) ho fun h'' he' sb => ?_⟩
    have hT2 : h''.get? s.heap.objs.size = some { cls := .type "tuple", data := .seq #[.int i tk, x'] } := (sb.2 _ (Nat.ne_of_gt hel)).trans hT
    have new : ObjOk X.prog X.w (upd H s.heap.objs.size (.tup [.int (i : Nat), x])) h'' s.heap.objs.size (.tup [.int (i : Nat), x]) :=
      ⟨by show 2 ≤ sizeLine; decide, [.int i tk, x'], .cons ⟨_, rfl⟩ (.cons ru .nil), ⟨_, hT2, rfl, _, rfl⟩⟩
    have I1 : Inv X pins σ (upd H s.heap.objs.size (.tup [.int (i : Nat), x])) { s with heap := h'', toks := tk + 1 } :=
      I.turnedNew (ch := [e, it]) (fun b ob hb q => (sb.2 b (fun z => hb (by simp [z]))).trans (hk b ob (fun z => hb (by simp [z])) (fun z => hb (by simp [z])) q)) hf (Nat.le_refl _) new
    refine ⟨.ref s.heap.objs.size, _, I1, rfl, ⟨_, x, rfl, I.hok.fresh (Nat.le_refl _), rfl, fun ys hy => by rw [I.tuple_inj hy hq]; exact hx⟩, ⟨⟨x', ?_⟩, st'.1.at fun o q => (sb.2 it (Ne.symm hne)).trans q, hne⟩, fun b hb => ?_⟩
    · have e1 : ((i + 1 : Nat) : Int) = (i : Int) + 1 := by omega
      rw [e1]; exact he'
    · have hb' : b < s.heap.objs.size := by
        have e' : b = e ∨ b = it := by simpa using hb
        rcases e' with z | z
        · rw [z]; exact hel
        · rw [z]; exact hil
      rw [upd_ne (Nat.ne_of_lt hb')]
      exact (hf b hb).1
  done := by
    intro X hP hw hK hc i pins s σ H E I hf st hg
    subst hP hw hK
    obtain ⟨⟨old, he⟩, hit, hne⟩ := st
    obtain ⟨xs, hq, hx⟩ := hg
    obtain ⟨its, rv, p, hz⟩ := I.tuple hq
    obtain ⟨f0, f1, f2, f3, f4, f5⟩ := hf it (by simp)
    have hl := rv.length
    have hpt : s.heap.IsTuple a its.toArray := p
    have hai : a ≠ it := fun z => by
      obtain ⟨o1, h1, c1, d1⟩ := id hit
      obtain ⟨o2, h2, c2, _⟩ := id hpt
      rw [z, h1] at h2
      cases h2
      rw [c1] at c2
      exact absurd c2 (by decide)
    have hT : s.TypeIs (.ref e) "enumerate" := ⟨_, he, rfl⟩
    unfold pyNext
    refine wpAny_bind (wpAny_attempt (wpAny_callSpecial?_slot (name := Str.ofString "__next__") hT PySem.F.slot_enumerate_next
      (wpAny_call_entry PySem.F.slot_enumerate_next hT PySem.F.entry_enumerate_next ?_ (PySem.F.args_enumerate_next_1 _))))
    show wpAny _ _ (field (.ref e) 2 >>= _) _ _ _
    refine wpAny_bind (wpAny_field he rfl (x := .ref it) rfl ?_)
    refine wpAny_bind (N1E.nextOf_tuple_end (I.ok.hd hc) hit hpt (by simp; omega) fun h' x he' hx' => ?_)
    obtain ⟨o, ho, hc⟩ := hx'
    refine wpAny_bind (wpAny_isInstance (T := "StopIteration") (b := true) ⟨o, ho, hc⟩ isSubtype_stop ?_)
    exact wpAny_pure ⟨rfl, I.turned (t' := s.toks) (fun b o hb q => he' b o hb q) f0 f1 f3 f4 f5⟩
  self := fun A i s Q E st h => let ⟨⟨_, he⟩, _⟩ := st; wpAny_pyIter_enum he h
def iEnumT (K : PySem.W.Frag) (ta : TA) : TI := fun σ H R => ta σ H fun vs H1 => ∃ a xs, vs = [.ref a] ∧ SqT K H1 a xs ∧ R (Itet K a) H1
theorem pi_enumT {X : Cx} {e : Expr} {ta : TA} {p pos tpos : Pos} {elts : List Expr} {kk : Nat} (hg : Gl X "enumerate") (hm : X.mg "enumerate" = none) (ha : PA X [e] ta) (hs : starEach [e] X.env = [(false, eval e X.env)] := by rfl) :
    PI X (.Tuple elts kk tpos) (.Call (.Name "enumerate" p) [e] [] pos) (iEnumT X.K ta) := by
  refine ⟨fun pins s σ H R I h => ?_⟩
  refine Call_ (ld_blt I hg hm boot_enumerate (PyProof.Rows.callWith_type1 (thn (ha.run pos pins s σ H _ I h) fun us s1 ⟨vs, H1, I1, r1, q1⟩ => ?_) hs rfl))
  obtain ⟨a, xs, ex, hq, q⟩ := q1
  subst ex
  cases r1 with
  | cons r rr =>
    cases rr
    cases r
    obtain ⟨its, rv, p', hz⟩ := I1.tuple hq
    refine N1E.call_enum_tuple (show s1.heap.IsTuple a its.toArray from p') fun h' he hit hsz hk => wpAny_pyIter_enum he ?_
    have I2 : Inv X pins σ H1 { s1 with heap := h' } := I1.kept (t' := s1.toks) hk
    refine ⟨s1.heap.objs.size + 1, [s1.heap.objs.size + 1, s1.heap.objs.size], _, _, H1, rfl, I2, turn_enumT a (s1.heap.objs.size + 1) s1.heap.objs.size, ⟨⟨.none, he⟩, hit, Nat.succ_ne_self _⟩, fun b hb => ?_, q⟩
    have e' : b = s1.heap.objs.size + 1 ∨ b = s1.heap.objs.size := by simpa using hb
    have hle : s1.heap.objs.size ≤ b := by
      rcases e' with z | z
      · rw [z]; exact Nat.le_add_right _ _
      · rw [z]; exact Nat.le_refl _
    exact I1.fpOk hle (I1.hok.fresh hle)
end N1
set_option maxHeartbeats 2000000
/-! list(d.values()) -/
namespace N1
open PySem PySem.Spec PyProof.Rows L2
def tListVals (te : TE) : TE := fun σ H Q => te σ H fun x H1 => ∃ (d : Addr) (kvs : List (Key × V)), x = .ref d ∧ H1 d = some (.dK kvs) ∧ ∀ q, H1 q = none → Q (.ref q) (upd H1 q (.lst (kvs.map (·.2))))
section
variable {X : Cx} {e : Expr} {te : TE} {p apos cpos pos : Pos}
theorem pe_listVals (hc : X.calm = true) (he : PE X e te) (hg : Gl X "list") (hm : X.mg "list" = none) (hv : bootBuiltins "list" = some (.type "list") := by rfl) (hbase : attributeBase e "values" X.env (eval e X.env) = eval e X.env := by rfl) (hline : (apos.endLine == cpos.line) = true := by rfl)
    (hs : starEach [.Call (.Attribute e "values" apos) [] [] cpos] X.env = (false, eval (.Call (.Attribute e "values" apos) [] [] cpos) X.env) :: starEach [] X.env := by rfl) :
    PE X (.Call (.Name "list" p) [.Call (.Attribute e "values" apos) [] [] cpos] [] pos) (tListVals te) := by
  refine ⟨fun pins s σ H Q I hq => ?_⟩
  refine wpAny_Call_Name_kw (ld_blt I hg hm hv ?_)
  refine PyProof.Rows.callWith_type1 ?_ hs rfl
  rw [hs]
  show wpAny _ _ (spliced ((false, eval (.Call (.Attribute e "values" apos) [] [] cpos) X.env) :: backTo pos (starEach [] X.env))) _ _ s
  refine Calls.spliced_cons ?_
  refine wpAny_Call_method (T := "dict") (id := "dict.values") hbase rfl hline F.plainAttrs_dict F.slot_dict_values F.type_dict_values (thn (he.run pins s σ H _ I hq) fun u s1 ⟨x, H1, I1, rx, d, kvs, ex, hd, q⟩ => ?_)
  subst ex
  obtain rfl : u = Value.ref d := rx
  obtain ⟨hz, hs0, vs, kv, hdo⟩ := I1.hok d _ hd
  obtain ⟨ep, hat⟩ := hdo.dictAt
  have lk : kvs.length = vs.length := Paired.length kv
  have I2 : Inv X pins σ H1 { s1 with heap := s1.heap.push { cls := .type "dict_values", data := .fields #[.ref d] } } := I1.kept (t' := s1.toks) fun b ob q => Heap.get?_push_of_some _ q
  refine ⟨hdo.typeIs, hdo.mapOf.noDict, ?_⟩
  show wpAny _ _ (callWith cpos (.builtin "dict.values") [.ref d] [] []) _ X.xe s1
  refine method_meetsIn F.slot_dict_values F.entry_dict_values rfl (PySem.evalArgs_none ⟨rfl, hdo.typeIs, F.args_dict_values_1 _, _, meets_dict_values (mixKind X.prog X.w) d hs0, ⟨vs, hdo⟩, ?_⟩)
  refine Calls.spliced_nil ?_
  refine PySem.W.kdl_call (PySem.W.kdl_values (knd := mixKind X.prog X.w) (kvs := vs) (ep := ep)) (I1.ok.hd hc) ⟨⟨_, Heap.get?_push_size _ rfl, rfl, rfl⟩, hat.push _⟩ (by omega) fun h' tk acc c' hk hS hacc => ?_
  have hS' : h'.get? (s1.heap.push { cls := .type "dict_values", data := .fields #[.ref d] }).objs.size = some { cls := .type "list", dict := none, data := .seq acc c', slots := #[] } := hS
  refine ⟨.ref _, _, I2.laid (t' := tk) (o := .lst (kvs.map (·.2))) hk (Nat.le_refl _) (show ObjOk X.prog X.w _ _ _ (.lst (kvs.map (·.2))) from ⟨by rw [List.length_map]; exact hz, acc.toList, c', ?_, by rw [Array.toArray_toList]; exact hS⟩), rfl, q _ (I2.hok.fresh (Nat.le_refl _))⟩
  have el : acc.toList.length = acc.size := by simp
  refine vals_of_at (by rw [List.length_map, el, hacc.1, lk]) fun j x w h1 h2 => ?_
  obtain ⟨k, hky⟩ := hacc.2 j w (by rw [← Array.getElem?_toList]; exact h2)
  rw [List.getElem?_map] at h1
  cases hj : kvs[j]? with
  | none => rw [hj] at h1; cases h1
  | some pr =>
    rw [hj] at h1
    cases h1
    obtain ⟨y, g1, g2, g3⟩ := LiI.paired_get kv hj
    rw [hky] at g1
    cases g1
    exact g3
end
end N1
set_option maxHeartbeats 2000000
/-! o.m() and a property by a positional promise -/
namespace N1
open PySem PySem.Spec PyProof.Rows L2
section
variable {X : Cx} {CX : CXT} {k : Nat} {C f p g : Addr} {sp : Sp} {E : XK} {o e : Expr} {ta : TE} {apos pos : Pos}
def tMethR0 (C : Addr) (m : Str) (sp : Sp) (E : XK) (ta : TE) : TE := fun σ H Q => ta σ H fun x H1 => ∃ a dx fs, x = .ref a ∧ H1 a = some (.ins C dx fs) ∧ fs.lookup m = none ∧ sp [x] H1 Q E
theorem pe_methR0 {m : Str} {pl : Sem Bool} (he : PE X o ta) (c : Cls X.K C) (hm : Meth X.K C m f) (F : FnR X.prog X.w X.K X.mg X.base CX k f sp) (hr : Room k X.A) (hx : Passes CX X E)
    (ht : eval (.Call (.Attribute o m apos) [] [] pos) X.env = (do
      let ov ← eval o X.env
      standAt apos.atName
      let (f, first) ← holding [ov] (getMethod ov m pl)
      callWith pos f first (backTo pos (starEach [] X.env)) (backToKw pos (keywordEach [] X.env))) := by rfl) :
    PE X (.Call (.Attribute o m apos) [] [] pos) (tMethR0 C m sp E ta) := by
  refine ⟨fun pins s σ H Q I h => ?_⟩
  refine PySem.W.methodCall_KW (pl := pl) (thn (he.run pins s σ H _ I h) fun u s1 ⟨x, H1, I1, rx, a, dx, fs, ex, ea, l, q⟩ => ?_) ht
  subst ex
  obtain rfl : u = Value.ref a := rx
  refine getmeth_ok I1 ea c hm l ?_
  exact PySem.W.callWith_K0 (first := [.ref a]) I1.kIn hm.kp (wpAny_call (run_fnR (us := [.ref a]) (vs := [.ref a]) F hr hx I1 (.cons rfl .nil) q))
def tPropR (C : Addr) (sp : Sp) (E : XK) (ta : TE) : TE := fun σ H Q => ta σ H fun x H1 => ∃ a dx fs, x = .ref a ∧ H1 a = some (.ins C dx fs) ∧ sp [.ref a] H1 Q E
theorem getpropR_ok {a dx : Addr} {fs : List (Str × V)} {f : Str} {pins : List (Addr × Obj)} {σ : L2.St} {H : Hp} {s : Shared} {Q : VK} {b : Bool} {E' : Value → Shared → Prop} (I : Inv X pins σ H s) (ea : H a = some (.ins C dx fs)) (c : Cls X.K C) (hp : PropOf X.K C f p g)
    (F : FnR X.prog X.w X.K X.mg X.base CX k g sp) (hr : Room (k + 1) X.A) (hx : Passes CX X.nox E) (h : sp [.ref a] H Q E) :
    wpAny (model X.prog X.w) X.A (getAttr (.ref a) f b) (EP X pins σ Q) E' s := by
  obtain ⟨mA, O, _, _, _, _⟩ := ins_get I.hok ea
  obtain ⟨od, J, _⟩ := O.look
  obtain ⟨rest, hrec⟩ := hp.rec_
  have I1 := I.tok (s.toks + 1)
  have hc : (PySem.W.clsIn X.K C).isSome = true := by
    obtain ⟨cd, hc, _⟩ := PySem.W.any_some c.hd
    rw [hc]
    rfl
  refine PySem.W.get_bind I.kIn J (PySem.W.plainGet_of (c.get f)).1 (PySem.W.findObj_data hc hp.at_ hp.get hp.tak) (PySem.W.plainGet_of (c.get f)).2 (wpAny_call (PySem.W.prop_get (s := { s with toks := s.toks + 1 }) I.kIn hrec ?_))
  refine codeAny_mono (F X.A.in1 X.stack { s with toks := s.toks + 1 } H [.ref a] [.ref a] Q E hr.in1 I1.env0.in1 (.cons rfl .nil) h) fun r s' hq => ?_
  cases r with
  | error er => exact False.elim (hx pins σ H { s with toks := s.toks + 1 } er s' (I1.wish _) hq)
  | ok fl =>
    cases fl with
    | ret u =>
      obtain ⟨v, H', I3, rv, q3⟩ := I1.after hq
      show wpAny _ _ (handedOut u) _ _ _
      rw [PySem.W.handedOut_of (handed_of rv)]
      exact wpAny_pure ⟨v, H', I3, rv, q3⟩
    | next => exact False.elim hq
    | brk => exact False.elim hq
    | cont => exact False.elim hq
theorem pe_propR {f : Str} (he : PE X e ta) (c : Cls X.K C) (hp : PropOf X.K C f p g) (F : FnR X.prog X.w X.K X.mg X.base CX k g sp) (hr : Room (k + 1) X.A) (hx : Passes CX X.nox E)
    (hab : attributeBase e f X.env (eval e X.env) = eval e X.env := by rfl) : PE X (.Attribute e f pos) (tPropR C sp E ta) := by
  refine ⟨fun pins s σ H Q I h => ?_⟩
  refine attr_of hab (thn (he.run pins s σ H _ I h) fun u s1 ⟨x, H1, I1, rx, a, dx, fs, ex, ea, q⟩ => ?_)
  subst ex
  obtain rfl : u = Value.ref a := rx
  exact getpropR_ok I1 ea c hp F hr hx q
end
end N1
set_option maxHeartbeats 1000000
/-! xs[::-1] of a list -/
namespace N1
open PySem PySem.Spec PyProof.Rows L2
section
variable {X : Cx} {e u : Expr} {te : TE} {ts : L2.St → Hp → (Option Int → Hp → Prop) → Prop} {p2 pos : Pos}
def tRevL (K : PySem.W.Frag) (te : TE) (ts : L2.St → Hp → (Option Int → Hp → Prop) → Prop) : TE := fun σ H Q => te σ H fun x H1 => ts σ H1 fun k H2 => k = some (-1) ∧ ∃ a xs, x = .ref a ∧ SqL K H2 a xs ∧ ∀ p, H2 p = none → Q (.ref p) (upd H2 p (.lst xs.reverse))
theorem pe_revL (he : PE X e te) (hst : PO X (some u) ts) : PE X (.Subscript e (.Slice none none (some u) p2) pos) (tRevL X.K te ts) := by
  refine ⟨fun pins s σ H Q I h => ?_⟩
  refine Subscript_ (thn (he.run pins s σ H _ I h) fun v s1 ⟨x, H1, I1, r1, q1⟩ => ?_)
  refine wpAny_Slice (thn ((po_none (X := X)).run pins s1 σ H1 (fun o H' => o = none ∧ H' = H1) I1 ⟨rfl, rfl⟩) fun vl s2 ⟨l, H2, I2, pl, el, q2⟩ => thn ((po_none (X := X)).run pins s2 σ H2 (fun o H' => o = none ∧ H' = H2) I2 ⟨rfl, rfl⟩) fun vu s3 ⟨u', H3, I3, pu, eu, q3⟩ => ?_)
  subst q2
  subst q3
  subst el
  subst eu
  refine thn (hst.run pins s3 σ _ _ I3 q1) fun vk s4 ⟨k, H4, I4, pk, ek, a, xs, ex, hx, q⟩ => ?_
  subst ek
  subst ex
  obtain rfl : v = Value.ref a := r1
  have I5 : Inv X pins σ H4 { s4 with heap := s4.heap.push { cls := .type "slice", data := .fields #[vl, vu, vk] } } := I4.kept (t' := s4.toks) fun b ob q => Heap.get?_push_of_some _ q
  obtain ⟨its, r, ht, hz⟩ := I5.list hx
  refine tail_any (ops := [.ref a, .ref s4.heap.objs.size]) ht.isList.typeIs slot_list_getitem.lookup ?_ (by with_unfolding_all rfl)
  refine wpAny_getItem_list_slice ht.isList (Heap.IsSliceOf.new ..) pl pu pk (by decide) ?_ (by have := r.length; rw [List.size_toArray]; omega)
  rw [PySem.W.krv_pick]
  have hl := r.length
  refine ⟨.ref _, _, I5.laid (t' := s4.toks) (o := .lst xs.reverse) (fun b ob q => Heap.get?_push_of_some _ q) (Nat.le_refl _) ?_, rfl, q _ (I5.hok.fresh (Nat.le_refl _))⟩
  exact ⟨by rw [List.length_reverse]; exact hz, _, 0, Vals.reverse r, Heap.get?_push_size _ rfl⟩
/-- xs == [] -/
def rEqNil (K : PySem.W.Frag) : R2 := fun x y H Q => ∃ a b xs, x = .ref a ∧ y = .ref b ∧ SqL K H a xs ∧ SqL K H b [] ∧ Q (.bl xs.isEmpty) H
theorem op_eqNil (hu : X.A.units < cLine) : OpR X (compareOp .Eq) (rEqNil X.K) := by
  intro pins s σ H x y v u Q I rx ry h
  obtain ⟨a, b, xs, rfl, rfl, ha, hb, q⟩ := h
  cases rx
  cases ry
  obtain ⟨its, rv, ⟨⟨cls, dd, data, sl⟩, n, ho, hc, hdn, hd⟩, hlen⟩ := I.list ha
  obtain ⟨its2, rv2, ⟨⟨cls2, dd2, data2, sl2⟩, n2, ho2, hc2, hdn2, hd2⟩, hlen2⟩ := I.list hb
  simp only at hc hd hc2 hd2
  subst hc hd hc2 hd2
  cases rv2
  show wpAny _ _ (richCompare .Eq (.ref a) (.ref b)) _ _ _
  have hla : s.heap.IsList a its.toArray := ⟨_, ho, rfl, n, rfl⟩
  have hlb : s.heap.IsList b ([] : List Value).toArray := ⟨_, ho2, rfl, n2, rfl⟩
  cases xs with
  | nil =>
    cases rv
    exact SeqAt.RcAt.lists (e := fun _ => true) hla hlb rfl hu (fun j h1 h2 => by simp at h1) _ _ _ _ ⟨.bl true, H, I, rfl, q⟩
  | cons x0 xs0 =>
    cases rv with
    | @cons _ u0 _ us0 r0 rr => exact SeqAt.RcAt.lists_lengths hla hlb (by simp) hu _ _ _ _ ⟨.bl false, H, I, rfl, q⟩
end
end N1
set_option maxHeartbeats 1000000
/-! o.m(e ..) in a try: what is raised is the try's wish, at the slots -/
namespace N1
open PySem PySem.Spec PyProof.Rows L2
section
variable {X : Cx} {CX : CXT} {k : Nat} {C f : Addr} {m : Str} {sp : Sp} {E : L2.St → XK} {o e : Expr} {es : List Expr} {ta : TE} {t : TA} {apos pos : Pos} {pl : Sem Bool}
def tMethRS (C : Addr) (m : Str) (sp : Sp) (E : L2.St → XK) (ta : TE) (t : TA) : TE := fun σ H Q => ta σ H fun x H1 => ∃ a dx fs, x = .ref a ∧ H1 a = some (.ins C dx fs) ∧ fs.lookup m = none ∧ t σ H1 fun vs H2 => sp (x :: vs) H2 Q (E σ)
theorem pe_methRS (he : PE X o ta) (c : Cls X.K C) (hm : Meth X.K C m f) (F : FnR X.prog X.w X.K X.mg X.base CX k f sp) (hr : Room k X.A) (hx : ∀ σ, PassesAt CX X σ (E σ)) (ha : PA X (e :: es) t)
    (hst : starEach (e :: es) X.env = (false, eval e X.env) :: starEach es X.env := by rfl) (hpl : (backTo pos (starEach es X.env)).any (·.1) = false := by rfl)
    (ht : eval (.Call (.Attribute o m apos) (e :: es) [] pos) X.env = (do
      let ov ← eval o X.env
      standAt apos.atName
      let (f, first) ← holding [ov] (getMethod ov m pl)
      callWith pos f first (backTo pos (starEach (e :: es) X.env)) (backToKw pos (keywordEach [] X.env))) := by rfl) :
    PE X (.Call (.Attribute o m apos) (e :: es) [] pos) (tMethRS C m sp E ta t) := by
  refine ⟨fun pins s σ H Q I h => ?_⟩
  refine PySem.W.methodCall_KW (pl := pl) (thn (he.run pins s σ H _ I h) fun u s1 ⟨x, H1, I1, rx, a, dx, fs, ex, ea, l, q⟩ => ?_) ht
  subst ex
  obtain rfl : u = Value.ref a := rx
  refine getmeth_ok I1 ea c hm l ?_
  refine PySem.W.callWith_K (first := [.ref a]) (h₀ := X.base) I1.ok.mod.kin hm.kp (thn (ha.run pos pins s1 σ H1 _ I1 q) fun us s2 ⟨vs, H2, I2, r, q2⟩ => ⟨I2.kIn, ?_⟩) hst hpl
  refine wpAny_call (codeAny_mono (F X.A X.stack s2 H2 (.ref a :: us) (.ref a :: vs) Q (E σ) hr I2.env0 (.cons rfl r) q2) fun r s' hq => ?_)
  cases r with
  | error e => exact hx σ pins H2 s2 e s' I2 hq
  | ok fl =>
    cases fl with
    | ret u => exact I2.after hq
    | next => exact False.elim hq
    | brk => exact False.elim hq
    | cont => exact False.elim hq
end
end N1
set_option maxHeartbeats 2000000
/-! a caught exception that is kept behind its clause: tracked, its field read, isinstance -/
namespace N1
open PySem PySem.Spec PyProof.Rows L2
/-- a caught exception's object at a -/
def ExK (cls : Value) (d : Option Addr) (a : Addr) : HO := .ext fun h => ∃ (oe : Obj) (vs : Array Value), h.get? a = some oe ∧ Zc cls d oe ∧ oe.data = .fields vs
theorem exK_ok {P : Program} {w : World} {H : Hp} {h : Heap} {a : Addr} {cls : Value} {d : Option Addr} {oe : Obj} {vs : Array Value} (e : h.get? a = some oe) (z : Zc cls d oe) (hd : oe.data = .fields vs) : ObjOk P w H h a (ExK cls d a) :=
  ⟨⟨oe, vs, e, z, hd⟩, ⟨oe, e⟩, fun _ _ ⟨o, v, q, r⟩ k => ⟨o, v, k o q, r⟩⟩
section
variable {X : Cx} {pins : List (Addr × Obj)} {σ : L2.St} {H : Hp} {s : Shared}
/-- what stands in the heap, new to the def, is tracked from now on -/
theorem inv_track {a : Addr} {o : HO} (I : Inv X pins σ H s) (new : ObjOk X.prog X.w (upd H a o) s.heap a o) (na : H a = none) (n0 : X.s_0.heap.get? a = none) (nL : a ≠ X.env.locals) (nC : ∀ x c, X.env.cells.lookup x = some c → c ≠ a) (nP : ∀ p ∈ X.pn ++ pins, p.1 ≠ a) : Inv X pins σ (upd H a o) s := by
  have u0 : ∀ b, b ≠ a → (upd H a o) b = H b := fun b hb => upd_ne hb
  have ex : ∀ b v, H b = some v → b ≠ a := fun b v e z => by rw [z, na] at e; cases e
  refine ⟨I.ok, I.os, I.bare, ⟨I.base.keep, I.base.slot, fun b v e n hx => ?_, I.base.there, fun b xs e => ?_, fun b v xs e => ?_, fun b ps e => ?_⟩, I.loc, I.cell, ?_, fun x c e => ?_, fun p hp => ?_, fun b v e => ?_, I.len⟩
  · rw [u0 b fun z => by rw [z, n0] at e; cases e]
    exact I.base.free b v e n hx
  · have q := I.base.tups b xs e
    rw [u0 b (ex b _ q)]
    exact q
  · have q := I.base.frzs b v xs e
    rw [u0 b (ex b _ q)]
    exact q
  · obtain ⟨m, q⟩ := I.base.tbls b ps e
    exact ⟨m, by rw [u0 b (ex b _ q)]; exact q⟩
  · rw [u0 _ (Ne.symm nL)]
    exact I.free
  · rw [u0 _ (nC x c e)]
    exact I.freeC x c e
  · obtain ⟨e, n, r⟩ := I.pin p hp
    exact ⟨e, by rw [u0 _ (nP p hp)]; exact n, r⟩
  · by_cases hb : b = a
    · subst hb
      rw [upd_same] at e
      cases e
      exact new
    · rw [u0 b hb] at e
      exact (I.hok b v e).stay (fun c v _ q => q) (fun c q => by rw [u0 c (ex c _ q)]; exact q) fun c xs q => by rw [u0 c (ex c _ q)]; exact q
end
/-- the clause's wish: behind the suite the exception's object is tracked -/
def wKeep (K : PySem.W.Frag) (c : Value) (i : Nat) (ts : Addr → Value → Option Addr → TS) (Wout : WX) (D : Ends) : WX := fun cls d σ H =>
  ∃ b, PySem.W.exmOne K cls c = some b ∧ (b = true → ∀ a, H a = none → ts a cls d { nx := fun σ' H' => D.nx (σ'.set i none) (upd H' a (ExK cls d a)), rt := D.rt, bk := fun _ _ => False, ct := fun _ _ => False } (σ.set i (some (.ref a))) H) ∧
    (b = false → Wout cls d σ H)
section
variable {X : Cx} {x n : Str} {c : Value} {i : Nat} {body suite : List Stmt} {b₀ : Stmt} {np pos pos' : Pos} {tb : WX → TS} {ts : Addr → Value → Option Addr → TS} {Wout : WX}
theorem ps_try_keep (hs : X.stack = X.env :: X.outer) (hf : X.env.frame = some X.env.locals) (hex : X.ex = []) (hN : X.N.Nodup) (hi : X.N[i]? = some n) (hln : X.env.kindOf n = some .local) (hc : Names X x c) (tk : Takes X Wout)
    (hb : ∀ (W : WX) (pn : List (Addr × Obj)) (xe : Value → Shared → Prop), Takes (X.tr pn xe) W → PassesOwn (model X.prog X.w) X.A X.env xe → PSs (X.tr pn xe) body (tb W))
    (hsu : ∀ (a : Addr) (oe : Obj) (cls : Value) (d : Option Addr) (pn : List (Addr × Obj)), Zc cls d oe → (∃ vs, oe.data = .fields vs) → PSs (X.suite a ((a, oe) :: pn)) (b₀ :: suite) (ts a cls d)) :
    PS X (.Try body [.ExceptHandler (some (.Name x np)) (some n) (b₀ :: suite) pos'] [] [] pos) (fun D σ H => tb (wKeep X.K c i ts Wout D) D σ H) := by
  refine ⟨fun pins s σ H D I h => ?_⟩
  have ok := I.ok
  have hfr : X.A.frames = some (X.env :: X.outer) := by rw [ok.frames, hs]
  refine wpAny_Try_except ?_
  refine wpAny_mono ((hb (wKeep X.K c i ts Wout D) (X.pn ++ pins) (fun e s₁ => wpAny (model X.prog X.w) X.A (noteFrame e X.env) (fun _ s₂ => wpAny (model X.prog X.w) X.A (setFlight e none) (fun _ s₃ =>
    wpAny (model X.prog X.w) X.A (handleBy e X.env [.ExceptHandler (some (.Name x np)) (some n) (b₀ :: suite) pos']) (SP X pins D) X.xe s₃) X.xe s₂) X.xe s₁) (fun u s' xx => ?_) PassesOwn.looking).run [] s σ H D (I.toTry _) h) (fun f s1 hsp => ?_) (fun e s1 he => he)
  · obtain ⟨a, B, sI, pins', σ', H', cls, d, rfl, J', nb, up, sky, na, os, ag, b, hb1, hyes, hno⟩ := xx
    have J : Inv X pins σ' H' sI := J'.ofTry ok
    have sky' : Sky B (X.env :: X.outer) a (Zc cls d) X.env.locals s'.heap := by rw [← hs]; exact sky
    show wpAny (model X.prog X.w) X.A (noteFrame (.ref a) X.env) _ _ _
    refine Sky.land Zc.steady hfr hf sky' fun h3 fl3 up3 => ?_
    have J3 : Inv X pins σ' H' { s' with heap := h3 } := J.landed nb fl3.1 (up.trans up3) os ag
    obtain ⟨oe3, vs3, he3, hz3, hd3⟩ := fl3.there
    have nfr : a ∉ frs (X.env :: X.outer) := fun hm => by
      obtain ⟨_, o', e', hnf⟩ := fl3.2.2.1.mem hm
      rw [he3] at e'
      cases e'
      exact hnf _ hd3
    have nL : a ≠ X.env.locals := fun z => nfr (List.mem_filterMap.mpr ⟨X.env, List.mem_cons_self, by rw [hf, z]⟩)
    have nF : a ∉ X.fs := fun hm => by
      obtain ⟨e, he, q⟩ := List.mem_filterMap.mp hm
      exact nfr (List.mem_filterMap.mpr ⟨e, List.mem_cons_of_mem _ he, q⟩)
    have nI : sI.heap.get? a = none := by
      cases e : sI.heap.get? a with
      | none => rfl
      | some o =>
        have z := nb a o e (by rw [hs]; exact nfr)
        rw [fl3.2.1] at z
        cases z
    have n0 : X.s_0.heap.get? a = none := by
      cases e : X.s_0.heap.get? a with
      | none => rfl
      | some o =>
        obtain ⟨o', z⟩ := J.base.there a o e (by rw [hex]; exact fun z => nomatch z)
        rw [nI] at z
        cases z
    have nC : ∀ x c, X.env.cells.lookup x = some c → c ≠ a := fun x c e z => by
      obtain ⟨v, o, ho, _⟩ := J.cell x c e
      rw [z, nI] at ho
      cases ho
    have nP : ∀ p ∈ X.pn ++ pins, p.1 ≠ a := fun p hp z => by
      have q := (J.pin p hp).1
      rw [z, nI] at q
      cases q
    have S3 := J3.suite he3 hd3 na nL nF
    refine wpAny_handleBy_cons (codeAny_handlers_test ?_) (by intro q; cases q)
    have LT : PySem.W.Looks (model X.prog X.w) h3 (typeOf (.ref a)) cls := fun A Q E s k q => wpAny_typeOf_ref (k _ _ he3) (by rw [hz3.1]; exact q)
    have LM := PySem.W.exm_one (M := model X.prog X.w) (J3.kIn) LT hb1
    have test : ∀ {Q : Value → Shared → Prop} {E : Value → Shared → Prop}, Q c { s' with heap := h3 } → wpAny (model X.prog X.w) (X.A.mark (some (.ref a))) (eval (.Name x np) X.env) Q E { s' with heap := h3 } := fun {Q E} q => by
      obtain ⟨hg, hdbg, hm | ⟨hm, hv, hnn⟩⟩ := hc
      · exact ld_glob (X := X.suite a ((a, oe3) :: (X.pn ++ pins))) S3 hg hm q hdbg
      · exact ld_blt (X := X.suite a ((a, oe3) :: (X.pn ++ pins))) S3 hg hm hv q hnn hdbg
    refine test (LM.here ?_)
    cases b with
    | true =>
      refine codeAny_handlers_suite_as ?_
      refine HandSPX.lands_againZ fl3 fun h4 fl4 up4 => ?_
      have J4 : Inv X pins σ' H' { s' with heap := h4 } := J.landed nb fl4.1 ((up.trans up3).trans up4) os ag
      obtain ⟨oe4, vs4, he4, hz4, hd4⟩ := fl4.there
      have S4 := J4.suite he4 hd4 na nL nF
      refine store_ok (X := X.suite a ((a, oe4) :: (X.pn ++ pins))) (v := .ref a) S4 hN hi (.inl hln) rfl (fun s5 S5 => ?_) (.inr hln)
      refine wpAny_mono ((hsu a oe4 cls d (X.pn ++ pins) hz4 ⟨_, hd4⟩).run [] s5 _ H' _ S5 (hyes rfl a na)) (fun f s6 hsp => ?_) (fun _ _ z => False.elim z)
      cases f with
      | next =>
        obtain ⟨σ6, H6, S6, q6⟩ := hsp
        refine gone_ok (X := X.suite a ((a, oe4) :: (X.pn ++ pins))) S6 hN hi hln fun s7 S7 => ?_
        obtain ⟨p1, p2, _⟩ := S7.pin (a, oe4) (List.mem_append_left _ List.mem_cons_self)
        exact ⟨_, _, inv_track (S7.unsuite ok) (exK_ok p1 hz4 hd4) p2 n0 nL nC nP, q6⟩
      | brk =>
        obtain ⟨σ6, H6, S6, q6⟩ := hsp
        exact q6.elim
      | cont =>
        obtain ⟨σ6, H6, S6, q6⟩ := hsp
        exact q6.elim
      | ret u =>
        obtain ⟨v6, σ6, H6, S6, r6, q6⟩ := hsp
        exact gone_ok (S6.unsuite ok) hN hi hln fun s7 J7 => ⟨_, _, _, J7, r6, q6⟩
    | false =>
      show wpAny _ X.A (handleBy (.ref a) X.env []) _ _ _
      refine wpAny_handleBy_nil ?_
      obtain ⟨k1, k2, k3, oe, vs, T, oT, ts', he, hz, hd, h1, hr⟩ := id fl3
      unfold PySem.passOn
      refine wpAny_bind (wpAny_field he hd h1 ?_)
      rw [if_neg (show ¬ ((Value.ref T == Value.none) = true) from by simp)]
      have fin : wpAny (model X.prog X.w) X.A (setFlight (.ref a) X.env.frame) (fun _ s4 => wpAny (model X.prog X.w) X.A (throw (.ref a) : Sem Flow) (SP X pins D) X.xe s4) X.xe { s' with heap := h3 } := by
        rw [hf]
        refine HandSPX.setFlight_upZ fl3 fun h4 hh4 up4 => wpAny_throw (tk _ _ ?_)
        exact ⟨a, B, sI, pins, σ', H', cls, d, rfl, J, nb, (up.trans up3).trans up4, .inr (.inr (by rw [hs]; exact hh4)), na, os, ag, hno rfl⟩
      first
        | exact wpAny_bind (wpAny_pure (wpAny_bind fin))
        | exact wpAny_bind fin
  · cases f with
    | next =>
      obtain ⟨σ', H', J', q⟩ := hsp
      exact wpAny_execs_nil ⟨σ', H', J'.ofTry ok, q⟩
    | brk =>
      obtain ⟨σ', H', J', q⟩ := hsp
      exact ⟨σ', H', J'.ofTry ok, q⟩
    | cont =>
      obtain ⟨σ', H', J', q⟩ := hsp
      exact ⟨σ', H', J'.ofTry ok, q⟩
    | ret u =>
      obtain ⟨v, σ', H', J', r, q⟩ := hsp
      exact ⟨v, σ', H', J'.ofTry ok, r, q⟩
/-- the field f of a kept exception -/
def tXk (C : Addr) (f : Str) (te : TE) : TE := fun σ H Q => te σ H fun x H1 => ∃ (a dd : Addr) (fs : List (Str × V)) (v : V), x = .ref a ∧ H1 a = some (ExK (.ref C) (some dd) a) ∧ H1 dd = some (.xd fs) ∧ fs.lookup f = some v ∧ Q v H1
theorem pe_xk {C : Addr} {e : Expr} {te : TE} {f : Str} (T : XfC X.K C) (hno : PySem.W.findIn X.K (.ref C) f = some none) (he : PE X e te) (hb : attributeBase e f X.env (eval e X.env) = eval e X.env := by rfl) : PE X (.Attribute e f pos) (tXk C f te) := by
  refine ⟨fun pins s σ H Q I h => ?_⟩
  refine attr_of hb (thn (he.run pins s σ H _ I h) fun u s1 hh => ?_)
  obtain ⟨x, H1, I1, rx, a, dd, fs, v, ex, ha, hdd, l, q⟩ := hh
  subst ex
  obtain rfl : u = Value.ref a := rx
  obtain ⟨⟨oe, vs, ho, hz, hv⟩, _⟩ := I1.hok a _ ha
  obtain ⟨mA, hns, hr⟩ := (show ObjOk X.prog X.w H1 s1.heap dd (.xd fs) from I1.hok dd _ hdd)
  obtain ⟨od, hod, hl⟩ := lookIn_ns hns
  obtain ⟨u, hu, ru⟩ := RelO.some_of (v := v) (o := mA f) (by rw [← l]; exact hr f)
  have J : PySem.W.InstAt s1.heap a oe C (some od) := ⟨ho, hz.1, by unfold PySem.W.notCls; rw [hv] <;> rfl, by rw [hz.2]; exact hod⟩
  exact HandSPX.exc_get I1.kIn J T.ga T.gg T.exC (PySem.W.findObj_own T.hdC hno rfl (by rw [hl, hu])) (handed_of ru) ⟨v, H1, I1.tok _, ru, q⟩
/-- isinstance of a kept exception that has a dict -/
def rIsK (K : PySem.W.Frag) (D : Addr) : List V → Hp → VK → Prop := fun xs H Q => ∃ (a dd : Addr) (fs : List (Str × V)) (c : V) (cv : Value) (b : Bool), xs = [.ref a, c] ∧ H a = some (ExK (.ref D) (some dd) a) ∧ H dd = some (.xd fs) ∧ (∀ u, RelV c u → u = cv) ∧ PySem.W.kitOne K (.ref D) cv = some b ∧ Q (.bl b) H
theorem call_isK {D : Addr} (C : ExcC X.K D) : CallR X (.builtin "isinstance") (rIsK X.K D) := by
  intro pins s σ H xs us Q I r h
  obtain ⟨a, dd, fs, c, cv, b, rfl, ha, hdd, hcv, e, q⟩ := h
  cases r with
  | cons rx rr =>
    cases rr with
    | cons rt rr =>
      cases rr
      cases rx
      have ec := hcv _ rt
      subst ec
      obtain ⟨⟨oe, vs, ho, hz, hv⟩, _⟩ := I.hok a _ ha
      obtain ⟨mA, hns, _⟩ := (show ObjOk X.prog X.w H s.heap dd (.xd fs) from I.hok dd _ hdd)
      obtain ⟨od, hod, _⟩ := lookIn_ns hns
      have J : PySem.W.InstAt s.heap a oe D (some od) := ⟨ho, hz.1, by unfold PySem.W.notCls; rw [hv] <;> rfl, by rw [hz.2]; exact hod⟩
      obtain ⟨cd, hcl, _⟩ := PySem.W.any_some C.hd
      exact PySem.W.kia_one (PySem.W.kitx_exc (by rw [hcl]; rfl) C.hg C.hk C.hs C.ha C.hn C.ht C.hm) I.kIn J e (fun z => nomatch z) fun tk => ⟨.bl b, H, I.kept (t' := tk) fun _ _ z => z, rfl, q⟩
end
end N1
set_option maxHeartbeats 2000000
/-! str(o) and {o} of an instance with an own __str__ -/
namespace N1
open PySem PySem.Spec PyProof.Rows L2
/-- the class's own __str__ stands at f; its __format__ is object's -/
structure StrC (K : PySem.W.Frag) (C f : Addr) : Prop where
  hs : PySem.W.findIn K (.ref C) "__str__" = some (some (.ref f))
  hf : PySem.W.isFn K (.ref f) = true
  fm : PySem.W.findIn K (.ref C) "__format__" = some (some (.builtin "object.__format__"))
  hm : PySem.W.mroIn K C (.type "object") = some true
section
variable {X : Cx} {CX : CXT} {k : Nat} {C f : Addr} {sp : Sp} {E : XK}
/-- what an own __str__ is asked: it gives a text back -/
def rStrO (C : Addr) (sp : Sp) (E : XK) : V → Hp → VK → Prop := fun x H Q => ∃ a, x = .ref a ∧ InsAt H a C ∧ sp [x] H (fun v H' => ∃ y, v = .str y ∧ Q (.str y) H') E
theorem call_strO (S : StrC X.K C f) (F : FnR X.prog X.w X.K X.mg X.base CX k f sp) (hr : Room (k + 2) X.A) (hx : Passes CX X E) : CallR X (.type "str") (fun xs H Q => ∃ x, xs = [x] ∧ rStrO C sp E x H Q) := by
  intro pins s σ H xs us Q I r h
  obtain ⟨x, rfl, a, rfl, hi, h⟩ := h
  obtain ⟨u, rfl, ru⟩ := r.one
  obtain rfl : u = Value.ref a := ru
  obtain ⟨ox, od, J, hd⟩ := insAt_at I hi
  refine PySem.W.kso_call hr.in1.in1.units0 I.kIn J S.hs S.hf (thn (run_at F hr.in1.in1 I.env0.in1.in1 hx I (.cons (show RelV (.ref a) (.ref a) from rfl) .nil) h) ?_)
  rintro r s' ⟨v', H', I', rv, y, rfl, q⟩
  obtain ⟨t, rfl⟩ := rv
  exact ⟨.str y, H', I', ⟨t, rfl⟩, q⟩
theorem pe_fmtO {e : Expr} {te : TE} {pos : Pos} (S : StrC X.K C f) (F : FnR X.prog X.w X.K X.mg X.base CX k f sp) (hr : Room (k + 1) X.A) (hx : Passes CX X E) (he : PE X e te) : PE X (.FormattedValue e (-1) none pos) (fun σ H Q => te σ H fun x H1 => rStrO C sp E x H1 Q) := by
  refine ⟨fun pins s σ H Q I h => ?_⟩
  refine wpAny_FormattedValue_plain (thn (he.run pins s σ H _ I h) fun v s1 hv => ?_)
  obtain ⟨x, H1, I1, r1, a, rfl, hi, q⟩ := hv
  obtain rfl : v = Value.ref a := r1
  obtain ⟨ox, od, J, hd⟩ := insAt_at I1 hi
  refine PySem.W.kfo_fieldS hr.in1.units0 I1.kIn J S.fm S.hm S.hs S.hf (thn (run_at F hr.in1 (I1.tok _).env0.in1 hx (I1.tok _) (.cons (show RelV (.ref a) (.ref a) from rfl) .nil) q) ?_)
  rintro r s' ⟨v', H', I', rv, y, rfl, q⟩
  obtain ⟨t, rfl⟩ := rv
  exact ⟨.str y, H', I', ⟨t, rfl⟩, q⟩
/-- one of two classes -/
theorem callR_or {f : Value} {r1 r2 : List V → Hp → VK → Prop} (h1 : CallR X f r1) (h2 : CallR X f r2) : CallR X f (fun xs H Q => r1 xs H Q ∨ r2 xs H Q) := fun pins s σ H xs us Q I r h => h.elim (h1 pins s σ H xs us Q I r) (h2 pins s σ H xs us Q I r)
end
end N1
namespace N1
open PySem L2
/-- an instance's class where isinstance looks at it -/
structure IsiC (K : PySem.W.Frag) (C D : Addr) : Prop where
  ha : PySem.W.findIn K (.ref C) "__class__" = some (some (.builtin "object.__class__"))
  hm : PySem.W.mroIn K C (.type "object") = some true
  k1 : PySem.W.kitOne K (.ref C) (.ref D) = some true
structure FX (P : Program) (K : PySem.W.Frag) (mg : Str → Option Value) : Prop where
  glo : ∀ x, glL.contains x = true → mg x = some (.ref (ga K x))
  kpg : ∀ x, glL.contains x = true → PySem.W.keepIn K (.ref (ga K x)) = true
  fre : ∀ x, frL.contains x = true → mg x = none
  int : ∀ p, inL.contains p = true → ∃ t, mg p.1 = some (.int p.2 t)
  let_ : ∃ t, mg "LETTERS" = some (.str "abcdefghijklmnopqrstuvwxyz" t)
  cls : ∀ x, clL.contains x = true → Cls K (ga K x)
  noat : ∀ p, naL.contains p = true → NoAttr K (ga K p.1) p.2
  meth : ∀ p, meL.contains p = true → Meth K (ga K p.1) p.2 (ma K (ga K p.1) p.2)
  mkr : ∀ x, mkL.contains x = true → Mk K (ga K x) (ini K x)
  -- isinstance
  gcn : PySem.W.specialIn K (.builtin "object.__class__") "__get__" = some (some (.builtin "getset_descriptor.__get__"))
  gct : PySem.W.takesIn K (.builtin "object.__class__") = some true
  isR : IsiC K (ga K "Run") (ga K "Trip")
  isS : IsiC K (ga K "Stay") (ga K "Trip")
  isD : IsiC K (ga K "Day") (ga K "Day")
  isT : IsiC K (ga K "Table") (ga K "Table")
  isP : IsiC K (ga K "Pauses") (ga K "Pauses")
  -- __str__
  stD : StrC K (ga K "Day") (ma K (ga K "Day") "__str__")
  stR : StrC K (ga K "Run") (ma K (ga K "Run") "__str__")
  stS : StrC K (ga K "Stay") (ma K (ga K "Stay") "__str__")
  stE : ma K (ga K "Stay") "__str__" = ma K (ga K "Trip") "__str__"
  -- the law's lambdas
  cdL : PySem.W.codeHdIn K (cod K (ga K "law")) (tblK K (ga K "law")) = true
  nTb : K.lookup (tblK K (ga K "law")) = none ∧ mainGlobals ≠ tblK K (ga K "law")
  -- WORD
  woR : ∃ u, Con K (ga K "Run") "WORD" (.str "run") u
  woS : ∃ u, Con K (ga K "Stay") "WORD" (.str "stay") u
  -- == and !=
  neq : ∀ x, (["Day", "Run", "Stay", "Table", "Pauses", "Plan"] : List Str).contains x = true → PySem.W.findIn K (.ref (ga K x)) "__ne__" = some (some (.builtin "object.__ne__")) ∧ PySem.W.subIn K (.ref (ga K x)) (.type "object") = some true
  -- + of trips, += -= [] of boards
  sfR : PySem.W.selfFirst K (ga K "Run") = true ∧ PySem.W.findIn K (.ref (ga K "Run")) "__radd__" = some none
  sfS : PySem.W.selfFirst K (ga K "Stay") = true ∧ PySem.W.findIn K (.ref (ga K "Stay")) "__radd__" = some none
  nsq : PySem.W.fnIn K (ma K (ga K "Table") "__getitem__") = true ∧ PySem.W.fnIn K (ma K (ga K "Pauses") "__getitem__") = true
  iad : ∃ u, PySem.W.findIn K (.type "int") "__add__" = some u
  ira : ∃ u, PySem.W.findIn K (.type "int") "__radd__" = some u
  isu : ∀ x, (["Run", "Stay"] : List Str).contains x = true → PySem.W.subIn K (.type "int") (.ref (ga K x)) = some false
  -- static methods, properties
  crT : ClX.CRead K (ga K "Table") (.type "type")
  crP : ClX.CRead K (ga K "Pauses") (.type "type")
  stT : CSta K (ga K "Table") (.type "type") "of" (ma K (ga K "Table") "of") (st_ K "Table" "of")
  stP : CSta K (ga K "Pauses") (.type "type") "of" (ma K (ga K "Pauses") "of") (st_ K "Pauses" "of")
  prF : PropOf K (ga K "Plan") "follows" (ma K (ga K "Plan") "follows") (pr_ K "Plan" "follows")
  -- super().__init__
  opq : PySem.W.nsIn K cStatics "thirdparty.any" = some none
  top_ : (P.main.scope.names.lookup ("super" : Str)).isSome = false
  suR : SupD P K "__init__" "Run.__init__" (defArgs m_RunInit) (defBody m_RunInit) (defScope m_RunInit) (ini K "Run") (cel K (ini K "Run")) (cod K (ini K "Run")) (ga K "Run")
  suS : SupD P K "__init__" "Stay.__init__" (defArgs m_StayInit) (defBody m_StayInit) (defScope m_StayInit) (ini K "Stay") (cel K (ini K "Stay")) (cod K (ini K "Stay")) (ga K "Stay")
  suA : SupD P K "__init__" "BadAsk.__init__" (defArgs m_BadAskInit) (defBody m_BadAskInit) (defScope m_BadAskInit) (ini K "BadAsk") (cel K (ini K "BadAsk")) (cod K (ini K "BadAsk")) (ga K "BadAsk")
  siR : PySem.W.ks_superIn K (ga K "Run") (ga K "Run") "__init__" = some (some (.ref (ini K "Trip"))) ∧ PySem.W.mroIn K (ga K "Run") (.ref (ga K "Run")) = some true ∧ ∃ cd, PySem.W.clsIn K (ga K "Run") = some cd
  siS : PySem.W.ks_superIn K (ga K "Stay") (ga K "Stay") "__init__" = some (some (.ref (ini K "Trip"))) ∧ PySem.W.mroIn K (ga K "Stay") (.ref (ga K "Stay")) = some true ∧ ∃ cd, PySem.W.clsIn K (ga K "Stay") = some cd
  siA : PySem.W.ks_superIn K (ga K "BadAsk") (ga K "BadAsk") "__init__" = some (some (.builtin "ValueError.__init__")) ∧ PySem.W.mroIn K (ga K "BadAsk") (.ref (ga K "BadAsk")) = some true ∧ PySem.W.mroIn K (ga K "BadAsk") (.type "ValueError") = some true
  fnT : PySem.W.typeIn K (.ref (ini K "Trip")) = some (.type "function") ∧ PySem.W.fnIn K (ini K "Trip") = true
  -- BadAsk
  oex : OexC K (ga K "BadAsk")
  oeI : PySem.W.findIn K (.ref (ga K "BadAsk")) "__init__" = some (some (.ref (ini K "BadAsk"))) ∧ PySem.W.typeIn K (.ref (ini K "BadAsk")) = some (.type "function")
  oeN : PySem.W.findIn K (.ref (ga K "BadAsk")) "part" = some none
  exm : PySem.W.exmOne K (.ref (ga K "BadAsk")) (.ref (ga K "BadAsk")) = some true
  xfA : XfC K (ga K "BadAsk")
  -- isinstance of others: a Table is no Plan, no Pauses
  isL : IsiC K (ga K "Plan") (ga K "Plan")
  kTP : PySem.W.kitOne K (.ref (ga K "Table")) (.ref (ga K "Plan")) = some false ∧ PySem.W.kitOne K (.ref (ga K "Table")) (.ref (ga K "Pauses")) = some false
  kDx : ∀ x, (["Table", "Pauses", "Plan"] : List Str).contains x = true → PySem.W.kitOne K (.ref (ga K "Day")) (.ref (ga K x)) = some false
  kBx : ∀ p, (["int", "bool", "str", "list", "dict", "tuple", "NoneType"] : List String).contains p = true → ∀ x, (["Table", "Pauses", "Plan"] : List Str).contains x = true → PySem.W.kitOne K (.type p) (.ref (ga K x)) = some false
  nfR : PySem.W.subIn K (.ref (ga K "Stay")) (.ref (ga K "Run")) = some false ∧ PySem.W.subIn K (.ref (ga K "Run")) (.ref (ga K "Stay")) = some false
  tmE : ∀ x, (["Run", "Stay"] : List Str).contains x = true → ma K (ga K x) "__eq__" = ma K (ga K "Trip") "__eq__" ∧ ma K (ga K x) "__add__" = ma K (ga K "Trip") "__add__"
  f_is_integer : IsDef K (ga K "is_integer") "is_integer" "is_integer" d_is_integer []
  f_is_between : IsDef K (ga K "is_between") "is_between" "is_between" d_is_between []
  f_is_number : IsDef K (ga K "is_number") "is_number" "is_number" d_is_number []
  f_is_name : IsDef K (ga K "is_name") "is_name" "is_name" d_is_name []
  f_is_row : IsDef K (ga K "is_row") "is_row" "is_row" d_is_row []
  f_number_in : IsDef K (ga K "number_in") "number_in" "number_in" d_number_in []
  f_DayInit : IsDef K (ma K (ga K "Day") "__init__") "__init__" "Day.__init__" m_DayInit []
  f_DayEq : IsDef K (ma K (ga K "Day") "__eq__") "__eq__" "Day.__eq__" m_DayEq []
  f_DayStr : IsDef K (ma K (ga K "Day") "__str__") "__str__" "Day.__str__" m_DayStr []
  f_WordsInit : IsDef K (ma K (ga K "Words") "__init__") "__init__" "Words.__init__" m_WordsInit []
  f_WordsNext_word : IsDef K (ma K (ga K "Words") "next_word") "next_word" "Words.next_word" m_WordsNext_word []
  f_WordsTake_word : IsDef K (ma K (ga K "Words") "take_word") "take_word" "Words.take_word" m_WordsTake_word []
  f_WordsTake_name : IsDef K (ma K (ga K "Words") "take_name") "take_name" "Words.take_name" m_WordsTake_name [.str Str.empty]
  f_WordsTake_number : IsDef K (ma K (ga K "Words") "take_number") "take_number" "Words.take_number" m_WordsTake_number []
  f_WordsTake_end : IsDef K (ma K (ga K "Words") "take_end") "take_end" "Words.take_end" m_WordsTake_end []
  f_TripInit : IsDef K (ma K (ga K "Trip") "__init__") "__init__" "Trip.__init__" m_TripInit []
  f_TripAdd : IsDef K (ma K (ga K "Trip") "__add__") "__add__" "Trip.__add__" m_TripAdd []
  f_TripEq : IsDef K (ma K (ga K "Trip") "__eq__") "__eq__" "Trip.__eq__" m_TripEq []
  f_TripStr : IsDef K (ma K (ga K "Trip") "__str__") "__str__" "Trip.__str__" m_TripStr []
  f_RunTimed : IsDef K (ma K (ga K "Run") "timed") "timed" "Run.timed" m_RunTimed []
  f_RunStr : IsDef K (ma K (ga K "Run") "__str__") "__str__" "Run.__str__" m_RunStr []
  f_StayTimed : IsDef K (ma K (ga K "Stay") "timed") "timed" "Stay.timed" m_StayTimed []
  f_need_all_trips : IsDef K (ga K "need_all_trips") "need_all_trips" "need_all_trips" d_need_all_trips []
  f_places_of : IsDef K (ga K "places_of") "places_of" "places_of" d_places_of []
  f_need_few : IsDef K (ga K "need_few") "need_few" "need_few" d_need_few []
  f_unbalanced : IsDef K (ga K "unbalanced") "unbalanced" "unbalanced" d_unbalanced []
  f_TableInit : IsDef K (ma K (ga K "Table") "__init__") "__init__" "Table.__init__" m_TableInit []
  f_TableOf : IsDef K (st_ K "Table" "of") "of" "Table.of" m_TableOf []
  f_TableGetitem : IsDef K (ma K (ga K "Table") "__getitem__") "__getitem__" "Table.__getitem__" m_TableGetitem []
  f_TableContains : IsDef K (ma K (ga K "Table") "__contains__") "__contains__" "Table.__contains__" m_TableContains []
  f_TableIter : IsDef K (ma K (ga K "Table") "__iter__") "__iter__" "Table.__iter__" m_TableIter []
  f_TableLen : IsDef K (ma K (ga K "Table") "__len__") "__len__" "Table.__len__" m_TableLen []
  f_TableEq : IsDef K (ma K (ga K "Table") "__eq__") "__eq__" "Table.__eq__" m_TableEq []
  f_need_names_alone : IsDef K (ga K "need_names_alone") "need_names_alone" "need_names_alone" d_need_names_alone []
  f_PausesInit : IsDef K (ma K (ga K "Pauses") "__init__") "__init__" "Pauses.__init__" m_PausesInit []
  f_PausesOf : IsDef K (st_ K "Pauses" "of") "of" "Pauses.of" m_PausesOf []
  f_PausesPut : IsDef K (ma K (ga K "Pauses") "put") "put" "Pauses.put" m_PausesPut []
  f_PausesGetitem : IsDef K (ma K (ga K "Pauses") "__getitem__") "__getitem__" "Pauses.__getitem__" m_PausesGetitem []
  f_PausesIter : IsDef K (ma K (ga K "Pauses") "__iter__") "__iter__" "Pauses.__iter__" m_PausesIter []
  f_PausesEq : IsDef K (ma K (ga K "Pauses") "__eq__") "__eq__" "Pauses.__eq__" m_PausesEq []
  f_need_table : IsDef K (ga K "need_table") "need_table" "need_table" d_need_table []
  f_needed_pauses : IsDef K (ga K "needed_pauses") "needed_pauses" "needed_pauses" d_needed_pauses []
  f_is_order : IsDef K (ga K "is_order") "is_order" "is_order" d_is_order []
  f_turns_of : IsDef K (ga K "turns_of") "turns_of" "turns_of" d_turns_of []
  f_PlanInit : IsDef K (ma K (ga K "Plan") "__init__") "__init__" "Plan.__init__" m_PlanInit []
  f_PlanFollows : IsDef K (pr_ K "Plan" "follows") "follows" "Plan.follows" m_PlanFollows []
  f_PlanEq : IsDef K (ma K (ga K "Plan") "__eq__") "__eq__" "Plan.__eq__" m_PlanEq []
  f_write_table : IsDef K (ga K "write_table") "write_table" "write_table" d_write_table []
  f_write_pauses : IsDef K (ga K "write_pauses") "write_pauses" "write_pauses" d_write_pauses []
  f_write_plan : IsDef K (ga K "write_plan") "write_plan" "write_plan" d_write_plan []
  f_lines_of : IsDef K (ga K "lines_of") "lines_of" "lines_of" d_lines_of []
  f_take_run : IsDef K (ga K "take_run") "take_run" "take_run" d_take_run []
  f_take_stay : IsDef K (ga K "take_stay") "take_stay" "take_stay" d_take_stay []
  f_take_trip : IsDef K (ga K "take_trip") "take_trip" "take_trip" d_take_trip []
  f_take_length : IsDef K (ga K "take_length") "take_length" "take_length" d_take_length []
  f_trips_told : IsDef K (ga K "trips_told") "trips_told" "trips_told" d_trips_told []
  f_numbers_told : IsDef K (ga K "numbers_told") "numbers_told" "numbers_told" d_numbers_told []
  f_read_table : IsDef K (ga K "read_table") "read_table" "read_table" d_read_table []
  f_read_pauses : IsDef K (ga K "read_pauses") "read_pauses" "read_pauses" d_read_pauses []
  f_pauses_line : IsDef K (ga K "pauses_line") "pauses_line" "pauses_line" d_pauses_line []
  f_follows_told : IsDef K (ga K "follows_told") "follows_told" "follows_told" d_follows_told []
  f_read_plan : IsDef K (ga K "read_plan") "read_plan" "read_plan" d_read_plan []
  f_w_pen : IsDef K (ga K "_law_pen") "_law_pen" "_law_pen" w_pen []
  f_w_draw : IsDef K (ga K "_law_draw") "_law_draw" "_law_draw" w_draw []
  f_w_pick : IsDef K (ga K "_law_pick") "_law_pick" "_law_pick" w_pick []
  f_w_takes : IsDef K (ga K "_law_takes") "_law_takes" "_law_takes" w_takes []
  f_w_plain : IsDef K (ga K "_law_plain") "_law_plain" "_law_plain" w_plain []
  f_w_table : IsDef K (ga K "_law_table") "_law_table" "_law_table" w_table []
  f_w_places : IsDef K (ga K "_law_places") "_law_places" "_law_places" w_places []
  f_w_follows : IsDef K (ga K "_law_follows") "_law_follows" "_law_follows" w_follows []
  f_w_trip_text : IsDef K (ga K "_law_trip_text") "_law_trip_text" "_law_trip_text" w_trip_text []
  f_w_sorted : IsDef K (ga K "_law_sorted") "_law_sorted" "_law_sorted" w_sorted []
  f_w_table_text : IsDef K (ga K "_law_table_text") "_law_table_text" "_law_table_text" w_table_text []
  f_w_pauses_text : IsDef K (ga K "_law_pauses_text") "_law_pauses_text" "_law_pauses_text" w_pauses_text []
  f_w_plan_text : IsDef K (ga K "_law_plan_text") "_law_plan_text" "_law_plan_text" w_plan_text []
  f_w_pauses : IsDef K (ga K "_law_pauses") "_law_pauses" "_law_pauses" w_pauses []
  f_w_thing : IsDef K (ga K "_law_thing") "_law_thing" "_law_thing" w_thing []
  f_w_right : IsDef K (ga K "_law_right") "_law_right" "_law_right" w_right []
  f_w_part : IsDef K (ga K "_law_part") "_law_part" "_law_part" w_part []
  f_law : IsDef K (ga K "law") "law" "law" d_law []
end N1
set_option maxHeartbeats 1000000
/-! heaps with a frozen part; short rules -/
namespace N1
open PySem PySem.Spec PyProof.Rows L2
/-- all but M stays -/
def Kp (M : List Addr) (H H' : Hp) : Prop := ∀ a o, a ∉ M → H a = some o → H' a = some o
/-- from H to H' all but M has stayed; the frozen part has grown from G to G', by new things alone -/
structure Gx (M : List Addr) (G H G' H' : Hp) : Prop where
  gg : Same G G'
  gh : Same G' H'
  kp : Kp M H H'
  dom : ∀ a, H a ≠ none → H' a ≠ none
  fr : ∀ a, G' a ≠ none → G a ≠ none ∨ H a = none
theorem same_rfl {H : Hp} : Same H H := fun _ _ h => h
theorem same_new {G H : Hp} {p : Addr} {o : HO} (g : Same G H) (hp : H p = none) : Same G (upd H p o) := fun b u e => by
  by_cases hb : b = p
  · subst hb
    have := g _ _ e
    rw [hp] at this
    cases this
  · rw [upd_ne hb]
    exact g _ _ e
theorem same_at {G H : Hp} {p : Addr} {o : HO} (g : Same G H) (hp : G p = none) : Same G (upd H p o) := fun b u e => by
  by_cases hb : b = p
  · subst hb
    rw [hp] at e
    cases e
  · rw [upd_ne hb]
    exact g _ _ e
theorem same_frz {G H : Hp} {p : Addr} {o : HO} (g : Same G H) (hp : H p = some o) : Same (upd G p o) H := fun b u e => by
  by_cases hb : b = p
  · subst hb
    rw [upd_same] at e
    rw [← e]
    exact hp
  · rw [upd_ne hb] at e
    exact g _ _ e
theorem same_self {G H : Hp} {p : Addr} {o : HO} (g : Same G H) (hp : H p = some o) : Same G (upd G p o) := fun b u e => by
  by_cases hb : b = p
  · subst hb
    rw [upd_same, ← hp]
    exact g _ _ e
  · rw [upd_ne hb]
    exact e
theorem same_self' {G : Hp} {p : Addr} {o : HO} (hp : G p = none) : Same G (upd G p o) := fun b u e => by
  rw [upd_ne (fun z => by rw [z, hp] at e; cases e)]
  exact e
theorem same_both {G H : Hp} {p : Addr} {o : HO} (g : Same G H) : Same (upd G p o) (upd H p o) := fun b u e => by
  by_cases hb : b = p
  · subst hb
    rw [upd_same] at e ⊢
    exact e
  · rw [upd_ne hb] at e ⊢
    exact g _ _ e
theorem same_non {G H : Hp} (g : Same G H) {p : Addr} (hp : H p = none) : G p = none := by
  cases e : G p with
  | none => rfl
  | some o =>
    have := g _ _ e
    rw [hp] at this
    cases this
section
variable {M M' : List Addr} {G H G' H' G2 H2 : Hp} {p : Addr} {o : HO}
theorem Gx.refl (h : Same G H) : Gx M G H G H := ⟨same_rfl, h, fun _ _ _ e => e, fun _ e => e, fun _ e => .inl e⟩
theorem Gx.trans (a : Gx M G H G' H') (b : Gx M G' H' G2 H2) : Gx M G H G2 H2 :=
  ⟨fun x o e => b.gg _ _ (a.gg _ _ e), b.gh, fun x o hx e => b.kp x o hx (a.kp x o hx e), fun x e => b.dom x (a.dom x e), fun x e => by
    rcases b.fr x e with z | z
    · exact a.fr x z
    · cases q : H x with
      | none => exact .inr rfl
      | some u => exact absurd z (a.dom x (by rw [q]; intro h; cases h))⟩
theorem Gx.mono (a : Gx M G H G' H') (h : ∀ x ∈ M, x ∈ M' ∨ H x = none) : Gx M' G H G' H' :=
  ⟨a.gg, a.gh, fun x o hx e => a.kp x o (fun hm => (h x hm).elim hx fun z => by rw [z] at e; cases e) e, a.dom, a.fr⟩
theorem Gx.nil (a : Gx [] G H G' H') : Gx M G H G' H' := a.mono fun x hx => by cases hx
theorem Gx.drop {t : Addr} (a : Gx (t :: M) G H G' H') (h : H t = none) : Gx M G H G' H' := a.mono fun x hx => by
  rcases List.mem_cons.mp hx with e | e
  · exact .inr (e ▸ h)
  · exact .inl e
/-- a new thing, not frozen -/
theorem Gx.new (a : Gx M G H G' H') (hp : H' p = none) : Gx M G H G' (upd H' p o) :=
  ⟨a.gg, same_new a.gh hp, fun x u hx e => by
    have := a.kp x u hx e
    rw [upd_ne (fun z => by rw [z, hp] at this; cases this)]
    exact this, fun x e => by
    by_cases hx : x = p
    · rw [hx, upd_same]; intro h; cases h
    · rw [upd_ne hx]; exact a.dom x e, a.fr⟩
/-- what is new is frozen -/
theorem Gx.frz (a : Gx M G H G' H') (hp : H' p = some o) (h0 : H p = none) : Gx M G H (upd G' p o) H' :=
  ⟨fun x u e => (show Same G' (upd G' p o) from fun b v q => by
    by_cases hb : b = p
    · subst hb
      rw [upd_same, ← hp]
      exact a.gh _ _ q
    · rw [upd_ne hb]
      exact q) _ _ (a.gg _ _ e), same_frz a.gh hp, a.kp, a.dom, fun x e => by
    by_cases hx : x = p
    · exact .inr (hx ▸ h0)
    · rw [upd_ne hx] at e; exact a.fr x e⟩
theorem Gx.old (a : Gx M G H G' H') (hp : H' p = none) : H p = none := by
  cases e : H p with
  | none => rfl
  | some u => exact absurd hp (a.dom p (by rw [e]; intro h; cases h))
/-- a new thing, frozen -/
theorem Gx.newF (a : Gx M G H G' H') (hp : H' p = none) : Gx M G H (upd G' p o) (upd H' p o) :=
  (a.new hp).frz upd_same (a.old hp)
/-- what is not frozen changes -/
theorem Gx.wr (a : Gx M G H G' H') (hG : G' p = none) (hm : p ∈ M ∨ H p = none) : Gx M G H G' (upd H' p o) :=
  ⟨a.gg, same_at a.gh hG, fun x u hx e => by
    have := a.kp x u hx e
    rw [upd_ne (fun z => by
      subst z
      rcases hm with hm | hm
      · exact hx hm
      · rw [hm] at e; cases e)]
    exact this, fun x e => by
    by_cases hx : x = p
    · rw [hx, upd_same]; intro h; cases h
    · rw [upd_ne hx]; exact a.dom x e, a.fr⟩
/-- what is not frozen and stands stays unfrozen -/
theorem Gx.unf (a : Gx M G H G' H') (hG : G p = none) (hH : H p ≠ none) : G' p = none := by
  cases e : G' p with
  | none => rfl
  | some u =>
    rcases a.fr p (by rw [e]; intro h; cases h) with z | z
    · exact absurd hG z
    · exact absurd z hH
end
section
variable {P : Program} {w : World} {K : PySem.W.Frag} {mg : Str → Option Value} {base : Heap}
/-- a def without defaults, by its body: a positional promise -/
theorem fnr {x qual : Str} {st : Stmt} {f : Addr} {N ps : List Str} {k : Nat} {sp : Sp} (F : IsDef K f x qual st []) (S : FnScope N ps (defScope st))
    (hb : ∀ (kV doc pm : Value) (an : Option Addr) (cdv ct : Value) (us : List Value), us.length = ps.length → bindArgs (PySem.W.fnOf x qual (defArgs st) (defBody st) (defScope st) .none kV doc pm an cdv ct) ⟨us, []⟩ = pure (ps.zip us))
    (len : ∀ vs H Q E, sp vs H Q E → vs.length = ps.length)
    (hbody : ∀ (cdv : Value) (A : Around) (outer : List Env) (s : Shared) (H : Hp) (vs : List V) (Q : VK) (E : XK), Room k (A.deeper (envOfC qual (defScope st) s.heap.objs.size f cdv)) → sp vs H Q E →
      ∃ t, PSs (cxOf CX0 P w K mg base N qual (defScope st) f cdv A outer s H E).nox (defBody st) t ∧ t { nx := fun _ H' => Q .non H', rt := Q } (start N vs) H) :
    FnR P w K mg base CX0 (k + 1) f sp := by
  obtain ⟨fd, F⟩ := F
  have z := (F.ok (CX := CX0) S len fun cdv A outer s H vs Q E hr h => (let ⟨t, h1, h2⟩ := hbody cdv A outer s H vs Q E hr h; ⟨t, h1.nox, h2⟩)).raw (F.bindsN hb) .nil
  exact z.imp fun vs H Q E h => by rw [List.append_nil]; exact h
theorem fnrX {x qual : Str} {st : Stmt} {f : Addr} {N ps : List Str} {k : Nat} {sp : Sp} (F : IsDef K f x qual st []) (S : FnScope N ps (defScope st))
    (hb : ∀ (kV doc pm : Value) (an : Option Addr) (cdv ct : Value) (us : List Value), us.length = ps.length → bindArgs (PySem.W.fnOf x qual (defArgs st) (defBody st) (defScope st) .none kV doc pm an cdv ct) ⟨us, []⟩ = pure (ps.zip us))
    (len : ∀ vs H Q E, sp vs H Q E → vs.length = ps.length)
    (hbody : ∀ (cdv : Value) (A : Around) (outer : List Env) (s : Shared) (H : Hp) (vs : List V) (Q : VK) (E : XK), Room k (A.deeper (envOfC qual (defScope st) s.heap.objs.size f cdv)) → sp vs H Q E →
      ∃ t, PSs (cxOf (L2.CX P w) P w K mg base N qual (defScope st) f cdv A outer s H E) (defBody st) t ∧ t { nx := fun _ H' => Q .non H', rt := Q } (start N vs) H) :
    FnR P w K mg base (L2.CX P w) (k + 1) f sp := by
  obtain ⟨fd, F⟩ := F
  have z := (F.ok (CX := L2.CX P w) S len hbody).raw (F.bindsN hb) .nil
  exact z.imp fun vs H Q E h => by rw [List.append_nil]; exact h
end
section
variable {X : Cx} {P0 : Program} {k : Nat} {sp : Sp} {e : Expr} {es : List Expr} {t : TA} {p1 pos : Pos} {x : Str}
/-- f(e ..), f a def of the module that lets nothing out -/
theorem cl (x : Str) (T : FX P0 X.K X.mg) (F : FnR X.prog X.w X.K X.mg X.base CX0 k (ga X.K x) sp) (hr : Room k X.A) (ha : PA X (e :: es) t) (hc : glL.contains x = true := by decide +kernel) (hg : Gl X x := by rfl) (hd : (x == ("__debug__" : Str)) = false := by decide)
    (he : starEach (e :: es) X.env = (false, eval e X.env) :: starEach es X.env := by rfl) (hpl : (backTo pos (starEach es X.env)).any (·.1) = false := by rfl) :
    PE X (.Call (.Name x p1) (e :: es) [] pos) (tCallR sp E0 t) := pe_callR F hr (T.kpg x hc) hg (T.glo x hc) pass0 ha hd he hpl
/-- a constant of the module -/
theorem gi (x : Str) (i : Int) (T : FX P0 X.K X.mg) (hc : inL.contains (x, i) = true := by decide +kernel) (hg : Gl X x := by rfl) (hd : (x == ("__debug__" : Str)) = false := by decide) : PE X (.Name x pos) (tC (.int i)) := by
  obtain ⟨u, h⟩ := T.int (x, i) hc
  exact pe_glob hg h ⟨_, rfl⟩ hd
/-- a class as a value -/
theorem gc (x : Str) (T : FX P0 X.K X.mg) (hc : glL.contains x = true := by decide +kernel) (hg : Gl X x := by rfl) (hd : (x == ("__debug__" : Str)) = false := by decide) : PE X (.Name x pos) (tC (.ref (ga X.K x))) :=
  pe_glob hg (T.glo x hc) rfl hd
/-- a built-in type as a value -/
theorem gt (x : Str) (T : String) (TT : FX P0 X.K X.mg) (hv : bootBuiltins x = some (.type T) := by rfl) (hc : frL.contains x = true := by decide +kernel) (hg : Gl X x := by rfl) (hn : x ≠ "__name__" := by decide) (hd : (x == ("__debug__" : Str)) = false := by decide) : PE X (.Name x pos) (tC (.ty T)) :=
  pe_bltn hg (TT.fre x hc) hv rfl hn hd
/-- a built-in function called -/
theorem cb (x : Str) {id : String} {r : List V → Hp → VK → Prop} (T : FX P0 X.K X.mg) (hcr : CallR X (.builtin id) r) (ha : PA X (e :: es) t) (hv : bootBuiltins x = some (.builtin id) := by rfl) (hc : frL.contains x = true := by decide +kernel) (hg : Gl X x := by rfl)
    (hn : x ≠ "__name__" := by decide) (hd : (x == ("__debug__" : Str)) = false := by decide) (he : starEach (e :: es) X.env = (false, eval e X.env) :: starEach es X.env := by rfl) (hpl : (backTo pos (starEach es X.env)).any (·.1) = false := by rfl) :
    PE X (.Call (.Name x p1) (e :: es) [] pos) (tCB r t) := pe_callB hcr hg (T.fre x hc) hv ha hn hd he hpl
theorem ct (x : Str) {id : String} {r : List V → Hp → VK → Prop} (T : FX P0 X.K X.mg) (hcr : CallR X (.type id) r) (ha : PA X (e :: es) t) (hv : bootBuiltins x = some (.type id) := by rfl) (hc : frL.contains x = true := by decide +kernel) (hg : Gl X x := by rfl)
    (hn : x ≠ "__name__" := by decide) (hd : (x == ("__debug__" : Str)) = false := by decide) (he : starEach (e :: es) X.env = (false, eval e X.env) :: starEach es X.env := by rfl) (hpl : (backTo pos (starEach es X.env)).any (·.1) = false := by rfl) :
    PE X (.Call (.Name x p1) (e :: es) [] pos) (tCB r t) := pe_callTy hcr hg (T.fre x hc) hv ha hn hd he hpl
end
end N1
set_option maxHeartbeats 1000000
/-! checks -/
namespace N1
open PySem PySem.Spec PyProof.Rows L2
def spIsInt : Sp := fun vs H Q _ => ∃ n : Int, vs = [.int n] ∧ Q (.bl true) H
def spBetw : Sp := fun vs H Q _ => ∃ n a b : Int, vs = [.int n, .int a, .int b] ∧ Q (.bl (decide (a ≤ n) && decide (n ≤ b))) H
def spNum : Sp := fun vs H Q _ => ∃ n : Int, vs = [.int n] ∧ Q (.bl (decide (0 ≤ n) && decide (n ≤ 1000000000000))) H
section
variable {P : Program} {w : World} {K : PySem.W.Frag} {mg : Str → Option Value} {base : Heap}
theorem ok_is_integer (T : FX P K mg) : FnR P w K mg base CX0 1 (ga K "is_integer") spIsInt := by
  refine fnr T.f_is_integer sc_is_integer (fun _ _ _ _ _ _ us hl => match us, hl with | [_], _ => rfl) (fun vs H Q E h => ?_) (fun cdv A outer s H vs Q E hr h => ?_)
  · obtain ⟨n, rfl, _⟩ := h
    rfl
  · obtain ⟨n, rfl, k⟩ := h
    refine ⟨_, pss_one (ps_ret (pe_and (cb "isinstance" T call_isi (pa_cons (pv 0) (pa_cons (gt "int" "int" T) pa_nil))) (pe_one (pe_not (cb "isinstance" T call_isi (pa_cons (pv 0) (pa_cons (gt "bool" "bool" T) pa_nil))))))), ?_⟩
    refine ⟨_, rfl, _, _, _, _, true, rfl, .ty _, .base (.int n), kit_ty (by decide +kernel), _, rfl, ?_⟩
    refine ⟨_, rfl, _, _, _, _, false, rfl, .ty _, .base (.int n), kit_ty (by decide +kernel), _, rfl, k⟩
theorem ok_is_between (T : FX P K mg) : FnR P w K mg base CX0 2 (ga K "is_between") spBetw := by
  refine fnr T.f_is_between sc_is_between (fun _ _ _ _ _ _ us hl => match us, hl with | [_, _, _], _ => rfl) (fun vs H Q E h => ?_) (fun cdv A outer s H vs Q E hr h => ?_)
  · obtain ⟨n, a, b, rfl, _⟩ := h
    rfl
  · obtain ⟨n, a, b, rfl, k⟩ := h
    refine ⟨_, pss_one (ps_ret (pe_and (cl "is_integer" T (ok_is_integer T) hr (pa_cons (pv 0) pa_nil)) (pe_one (pe_chain op_le op_le (pv 1) (pv 0) (pv 2))))), ?_⟩
    refine ⟨_, rfl, n, rfl, true, rfl, ?_⟩
    refine ⟨_, rfl, _, rfl, _, _, rfl, rfl, _, rfl, ?_⟩
    cases h1 : decide (a ≤ n)
    · rw [h1] at k
      exact k
    · rw [h1] at k
      exact ⟨_, rfl, _, _, rfl, rfl, k⟩
theorem ok_is_number (T : FX P K mg) : FnR P w K mg base CX0 3 (ga K "is_number") spNum := by
  refine fnr T.f_is_number sc_is_number (fun _ _ _ _ _ _ us hl => match us, hl with | [_], _ => rfl) (fun vs H Q E h => ?_) (fun cdv A outer s H vs Q E hr h => ?_)
  · obtain ⟨n, rfl, _⟩ := h
    rfl
  · obtain ⟨n, rfl, k⟩ := h
    refine ⟨_, pss_one (ps_ret (cl "is_between" T (ok_is_between T) hr (pa_cons (pv 0) (pa_cons pe_int (pa_cons (gi "MOST_NUMBER" 1000000000000 T) pa_nil))))), ?_⟩
    exact ⟨_, rfl, n, _, _, rfl, k⟩
end
end N1
set_option maxHeartbeats 1000000
/-! comprehensions that only make things -/
namespace N1
open PySem PySem.Spec PyProof.Rows L2
theorem same_tr {H H1 H2 : Hp} (a : Same H H1) (b : Same H1 H2) : Same H H2 := fun x o e => b _ _ (a _ _ e)
theorem Gx.same {M : List Addr} {G H G' H' H2 : Hp} (a : Gx M G H G' H') (s : Same H' H2) : Gx M G H G' H2 :=
  a.trans ⟨same_rfl, same_tr a.gh s, fun x o _ e => s _ _ e, fun x e => (by
    cases q : H' x with
    | none => exact absurd q e
    | some o => rw [s _ _ q]; intro h; cases h), fun x e => .inl e⟩
section
variable {J : It} {n : Nat} {G : Hp → Prop} {Y : Nat → Hp → V → Hp → Prop} {g : TG} {tt : TT} {te tk tv : TE} {vs : List Nat} {σ : L2.St} {H1 : Hp} {D : Addr} {Qd : Hp → Prop}
/-- f i: what the i-th turn appends, if anything -/
theorem lc_f (w : Walk J n G Y) (f : Nat → Option V) (hD : H1 D = none) (hn : n ≤ 100000) (hGs : ∀ H', Same H1 H' → G H')
    (hs : ∀ (i : Nat) (x : V) (H H' : Hp) (k : V → Hp → Prop) (k0 : Hp → Prop), i < n → Same H1 H → Y i H x H' → (∀ y H4, f i = some y → Same H H4 → k y H4) → (f i = none → ∀ H3, Same H H3 → k0 H3) →
      g x (wipe σ vs) H' fun σ2 H2 => wipe σ2 vs = wipe σ vs ∧ tt σ2 H2 fun b H3 => if b = true then te σ2 H3 k else k0 H3)
    (hd : ∀ H', Same H1 H' → H' D = some (.lst ((List.range n).filterMap f)) → Qd H') :
    ∃ W : Nat → Nat → Hp → Prop, (∃ m, W 0 m (upd H1 D (.lst []))) ∧ ∀ i m H, W i m H →
      (J.stop i H ∧ Qd H) ∨ (J.go i H ∧ ∃ Nx : Hp → Prop, (∀ H', Nx H' → ∃ m', m' < m ∧ W (i + 1) m' H') ∧ ∀ x H', J.yld i H x H' → g x (wipe σ vs) H' fun σ2 H2 => wipe σ2 vs = wipe σ vs ∧ tt σ2 H2 fun b H3 =>
        if b = true then te σ2 H3 fun y H4 => ∃ acc, H4 D = some (.lst acc) ∧ acc.length < sizeLine ∧ Nx (upd H4 D (.lst (acc ++ [y]))) else Nx H3) := by
  have up : ∀ (H : Hp) (o : HO), Same H1 H → Same H1 (upd H D o) := fun H o s => same_at s hD
  refine lc_it w (Pv := fun i H => Same H1 H ∧ H D = some (.lst ((List.range i).filterMap f))) ⟨up _ _ same_rfl, upd_same⟩ (fun i H _ h => hGs H h.1) ?_ fun H h => hd H h.1 h.2
  rintro i x H H' hi ⟨s, hL⟩ y
  have len : ((List.range i).filterMap f).length < sizeLine := by
    have := List.length_filterMap_le f (List.range i)
    rw [List.length_range] at this
    rw [sizeLine_eq]
    omega
  refine hs i x H H' _ _ hi s y (fun y H4 e z4 => ⟨_, z4 _ _ hL, len, up _ _ (same_tr s z4), ?_⟩) (fun e H3 z3 => ⟨same_tr s z3, ?_⟩)
  · rw [upd_same, List.range_succ, List.filterMap_append]
    simp [e]
  · rw [List.range_succ, List.filterMap_append]
    simp [e, z3 _ _ hL]
/-- a dict comprehension: f i what the i-th turn puts -/
theorem dc_f (w : Walk J n G Y) (f : Nat → Option (Key × V)) (hD : H1 D = none) (hn : n ≤ 100000) (hnd : (((List.range n).filterMap f).map (·.1)).Nodup) (hGs : ∀ H', Same H1 H' → G H')
    (hs : ∀ (i : Nat) (x : V) (H H' : Hp) (R : V → V → Hp → Prop) (k0 : Hp → Prop), i < n → Same H1 H → Y i H x H' → (∀ kk z H4, f i = some (kk, z) → Same H H4 → R (kV kk) z H4) → (f i = none → ∀ H3, Same H H3 → k0 H3) →
      g x (wipe σ vs) H' fun σ2 H2 => wipe σ2 vs = wipe σ vs ∧ tt σ2 H2 fun b H3 => if b = true then tk σ2 H3 fun y H4 => tv σ2 H4 fun z H5 => R y z H5 else k0 H3)
    (hd : ∀ H', Same H1 H' → H' D = some (.dK ((List.range n).filterMap f)) → Qd H') :
    ∃ W : Nat → Nat → Hp → Prop, (∃ m, W 0 m (upd H1 D (.dK []))) ∧ ∀ i m H, W i m H →
      (J.stop i H ∧ Qd H) ∨ (J.go i H ∧ ∃ Nx : Hp → Prop, (∀ H', Nx H' → ∃ m', m' < m ∧ W (i + 1) m' H') ∧ ∀ x H', J.yld i H x H' → g x (wipe σ vs) H' fun σ2 H2 => wipe σ2 vs = wipe σ vs ∧ tt σ2 H2 fun b H3 =>
        if b = true then tk σ2 H3 fun y H4 => tv σ2 H4 fun z H5 => ∃ kvs k, y = kV k ∧ H5 D = some (.dK kvs) ∧ kvs.length < sizeLine ∧ Nx (upd H5 D (.dK (putK kvs k z))) else Nx H3) := by
  have up : ∀ (H : Hp) (o : HO), Same H1 H → Same H1 (upd H D o) := fun H o s => same_at s hD
  refine ⟨fun i m H => m = n - i ∧ i ≤ n ∧ Same H1 H ∧ H D = some (.dK ((List.range i).filterMap f)), ⟨n, by simp, Nat.zero_le _, up _ _ same_rfl, upd_same⟩, ?_⟩
  rintro i m H ⟨rfl, hi, s, hL⟩
  have q := hGs H s
  by_cases hlt : i < n
  · refine .inr ⟨w.goes i H hlt q, fun H => Same H1 H ∧ H D = some (.dK ((List.range (i + 1)).filterMap f)), fun H' p' => ⟨n - (i + 1), by omega, rfl, hlt, p'⟩, fun x H' y => ?_⟩
    have len : ((List.range i).filterMap f).length < sizeLine := by
      have := List.length_filterMap_le f (List.range i)
      rw [List.length_range] at this
      rw [sizeLine_eq]
      omega
    have es : (List.range (i + 1)).filterMap f = (List.range i).filterMap f ++ (f i).toList := by
      rw [List.range_succ, List.filterMap_append]
      cases hf : f i <;> simp [hf]
    refine hs i x H H' _ _ hlt s (w.yields i H x H' hlt q y) (fun kk z H5 ef s5 => ⟨_, kk, rfl, s5 _ _ hL, len, up _ _ (same_tr s s5), ?_⟩) fun ef H3 s3 => ⟨same_tr s s3, by rw [es, ef, s3 _ _ hL]; simp⟩
    rw [upd_same, es, ef]
    have hnew : kk ∉ ((List.range i).filterMap f).map (·.1) := by
      have h2 : (List.range n).filterMap f = ((List.range i).filterMap f ++ (f i).toList) ++ ((List.range' (i + 1) (n - (i + 1))).filterMap f) := by
        rw [← es, ← List.filterMap_append]
        congr 1
        have e1 : n = (i + 1) + (n - (i + 1)) := by omega
        conv => lhs; rw [e1]
        rw [List.range_add, List.range'_eq_map_range]
      rw [h2, ef, List.map_append, List.map_append] at hnd
      have h3 := (List.nodup_append.mp (List.nodup_append.mp hnd).1).2.2
      intro hm
      exact h3 _ hm _ (by simp) rfl
    rw [putK_new]
    · rfl
    · cases hv : valV ((List.range i).filterMap f) kk with
      | none => rfl
      | some u => exact absurd (valV_in hv) hnew
  · have e : i = n := by omega
    subst e
    exact .inl ⟨w.stops H q, hd H s hL⟩
/-- two clauses: f i what the i-th outer turn appends -/
theorem lc2_f {wi1 : TI} {g1 : TG} {tt1 : TT} {vs1 : List Nat} (w : Walk J n G Y) (f : Nat → List V) (hD : H1 D = none) (hGs : ∀ H', Same H1 H' → G H')
    (hs : ∀ (i : Nat) (x : V) (H H' : Hp) (acc : List V) (Nx : Hp → Prop), i < n → Same H1 H → H D = some (.lst acc) → acc = (List.range i).flatMap f → Y i H x H' → (∀ H5, Same H1 H5 → H5 D = some (.lst (acc ++ f i)) → Nx H5) →
      g x (wipe σ vs) H' fun σ2 H2 => wipe σ2 vs = wipe σ vs ∧ tt σ2 H2 fun b H3 =>
        if b = true then wi1 σ2 H3 fun J1 H4 => ∃ W1 : Nat → Nat → Hp → Prop, (∃ m, W1 0 m H4) ∧ ∀ j k H, W1 j k H →
          (J1.stop j H ∧ Nx H) ∨ (J1.go j H ∧ ∃ Nx1 : Hp → Prop, (∀ H', Nx1 H' → ∃ k', k' < k ∧ W1 (j + 1) k' H') ∧ ∀ x H', J1.yld j H x H' → g1 x (wipe σ2 vs1) H' fun σ3 H5 => wipe σ3 vs1 = wipe σ2 vs1 ∧ tt1 σ3 H5 fun b H6 =>
            if b = true then te σ3 H6 fun y H7 => ∃ acc, H7 D = some (.lst acc) ∧ acc.length < sizeLine ∧ Nx1 (upd H7 D (.lst (acc ++ [y]))) else Nx1 H6)
        else Nx H3)
    (hd : ∀ H', Same H1 H' → H' D = some (.lst ((List.range n).flatMap f)) → Qd H') :
    ∃ W : Nat → Nat → Hp → Prop, (∃ m, W 0 m (upd H1 D (.lst []))) ∧ ∀ i m H, W i m H →
      (J.stop i H ∧ Qd H) ∨ (J.go i H ∧ ∃ Nx : Hp → Prop, (∀ H', Nx H' → ∃ m', m' < m ∧ W (i + 1) m' H') ∧ ∀ x H', J.yld i H x H' → g x (wipe σ vs) H' fun σ2 H2 => wipe σ2 vs = wipe σ vs ∧ tt σ2 H2 fun b H3 =>
        if b = true then wi1 σ2 H3 fun J1 H4 => ∃ W1 : Nat → Nat → Hp → Prop, (∃ m, W1 0 m H4) ∧ ∀ j k H, W1 j k H →
          (J1.stop j H ∧ Nx H) ∨ (J1.go j H ∧ ∃ Nx1 : Hp → Prop, (∀ H', Nx1 H' → ∃ k', k' < k ∧ W1 (j + 1) k' H') ∧ ∀ x H', J1.yld j H x H' → g1 x (wipe σ2 vs1) H' fun σ3 H5 => wipe σ3 vs1 = wipe σ2 vs1 ∧ tt1 σ3 H5 fun b H6 =>
            if b = true then te σ3 H6 fun y H7 => ∃ acc, H7 D = some (.lst acc) ∧ acc.length < sizeLine ∧ Nx1 (upd H7 D (.lst (acc ++ [y]))) else Nx1 H6)
        else Nx H3) := by
  refine ⟨fun i m H => m = n - i ∧ i ≤ n ∧ Same H1 H ∧ H D = some (.lst ((List.range i).flatMap f)), ⟨n, by simp, Nat.zero_le _, same_at same_rfl hD, upd_same⟩, ?_⟩
  rintro i m H ⟨rfl, hi, s, hL⟩
  have q := hGs H s
  by_cases hlt : i < n
  · refine .inr ⟨w.goes i H hlt q, fun H => Same H1 H ∧ H D = some (.lst ((List.range (i + 1)).flatMap f)), fun H' p' => ⟨n - (i + 1), by omega, rfl, hlt, p'⟩, fun x H' y => ?_⟩
    exact hs i x H H' _ _ hlt s hL rfl (w.yields i H x H' hlt q y) fun H5 s5 e => ⟨s5, by rw [e, List.range_succ, List.flatMap_append]; simp⟩
  · have e : i = n := by omega
    subst e
    exact .inl ⟨w.stops H q, hd H s hL⟩
/-- the inner loop -/
theorem in_it {H4 : Hp} {Nx : Hp → Prop} {g1 : TG} {tt1 : TT} {vs1 : List Nat} {σ2 : L2.St} (w : Walk J n G Y) (Pv : Nat → Hp → Prop) (h0 : Pv 0 H4) (hG : ∀ j H, j ≤ n → Pv j H → G H) (T : (L2.St → Hp → (Hp → Prop) → Prop))
    (hs : ∀ j x H H', j < n → Pv j H → Y j H x H' → g1 x (wipe σ2 vs1) H' fun σ3 H5 => wipe σ3 vs1 = wipe σ2 vs1 ∧ tt1 σ3 H5 fun b H6 => if b = true then T σ3 H6 (Pv (j + 1)) else Pv (j + 1) H6) (hd : ∀ H, Pv n H → Nx H) :
    ∃ W1 : Nat → Nat → Hp → Prop, (∃ m, W1 0 m H4) ∧ ∀ j k H, W1 j k H →
      (J.stop j H ∧ Nx H) ∨ (J.go j H ∧ ∃ Nx1 : Hp → Prop, (∀ H', Nx1 H' → ∃ k', k' < k ∧ W1 (j + 1) k' H') ∧ ∀ x H', J.yld j H x H' → g1 x (wipe σ2 vs1) H' fun σ3 H5 => wipe σ3 vs1 = wipe σ2 vs1 ∧ tt1 σ3 H5 fun b H6 =>
        if b = true then T σ3 H6 Nx1 else Nx1 H6) := by
  refine ⟨fun j k H => k = n - j ∧ j ≤ n ∧ Pv j H, ⟨n, by simp, Nat.zero_le _, h0⟩, ?_⟩
  rintro i m H ⟨rfl, hi, p⟩
  have q := hG i H hi p
  by_cases hlt : i < n
  · exact .inr ⟨w.goes i H hlt q, Pv (i + 1), fun H' p' => ⟨n - (i + 1), by omega, rfl, hlt, p'⟩, fun x H' y => hs i x H H' hlt p (w.yields i H x H' hlt q y)⟩
  · have e : i = n := by omega
    subst e
    exact .inl ⟨w.stops H q, hd H p⟩
end
end N1
set_option maxHeartbeats 1000000
namespace N1
open PySem PySem.Spec PyProof.Rows L2
/-- a name that stands -/
def NameOk (x : Str) : Prop := 1 ≤ x.length ∧ x.length ≤ 8 ∧ ∀ c ∈ x.cps.toList, c ∈ ("abcdefghijklmnopqrstuvwxyz" : Str).cps.toList
instance (x : Str) : Decidable (NameOk x) := by unfold NameOk; exact inferInstance
theorem NameOk.sok {x : Str} (h : NameOk x) : PyData.strOk x = true := by
  have z : ∀ c ∈ ("abcdefghijklmnopqrstuvwxyz" : Str).cps.toList, c < 0x110000 := by decide +kernel
  unfold PyData.strOk
  rw [Array.all_eq_true]
  intro i hi
  have := h.2.2 x.cps[i] (Array.getElem_mem_toList hi)
  simpa using z _ this
theorem canLayS : ∀ {xs : List Str}, (∀ x ∈ xs, PyData.strOk x = true) → PyData.canLayAll0 (xs.map PyData.str) = true
  | [], _ => by simp [PyData.canLayAll0]
  | x :: xs, h => by
    rw [List.map_cons, PyData.canLayAll0, canLayS fun y hy => h y (List.mem_cons_of_mem _ hy)]
    simp only [PyData.canLay0, h x List.mem_cons_self, Bool.and_self]
theorem depthS : ∀ xs : List Str, PyData.depthAll (xs.map PyData.str) = 0
  | [] => by simp [PyData.depthAll]
  | x :: xs => by simp [PyData.depthAll, PyData.depth, depthS xs]
theorem shapedS {xs : List Str} (h : ∀ x ∈ xs, PyData.strOk x = true) : SeqAt.shaped (.list (xs.map PyData.str)) = true := by
  unfold SeqAt.shaped
  rw [show PyData.canLay0 (.list (xs.map PyData.str)) = true from by rw [PyData.canLay0]; exact canLayS h]
  simp [PyData.depth, depthS]
theorem eqvS : ∀ xs ys : List Str, PyData.eqvAll (xs.map PyData.str) (ys.map PyData.str) = decide (xs = ys)
  | [], [] => by simp [PyData.eqvAll]
  | [], y :: ys => by simp [PyData.eqvAll]
  | x :: xs, [] => by simp [PyData.eqvAll]
  | x :: xs, y :: ys => by
    simp only [List.map_cons, PyData.eqvAll, PyData.eqv, eqvS xs ys]
    by_cases h : x = y
    · subst h; simp
    · simp [h]
theorem dpS {K : PySem.W.Frag} {H : Hp} : ∀ xs : List Str, DpAll K H (xs.map V.str) (xs.map PyData.str)
  | [] => .nil
  | x :: xs => .cons (.str x) (dpS xs)
def spName : Sp := fun vs H Q _ => ∃ x : Str, vs = [.str x] ∧ NameOk x ∧ ∀ H', Same H H' → Q (.bl true) H'
def spRow : Sp := fun vs H Q _ => ∃ a xs, vs = [.ref a] ∧ H a = some (.lst xs) ∧ ∀ H', Same H H' → Q (.bl true) H'
section
variable {P : Program} {w : World} {K : PySem.W.Frag} {mg : Str → Option Value} {base : Heap}
theorem ok_is_name (T : FX P K mg) : FnR P w K mg base CX0 1 (ga K "is_name") spName := by
  refine fnr T.f_is_name sc_is_name (fun _ _ _ _ _ _ us hl => match us, hl with | [_], _ => rfl) (fun vs H Q E h => ?_) (fun cdv A outer s H vs Q E hr h => ?_)
  · obtain ⟨n, rfl, _⟩ := h
    rfl
  · obtain ⟨x, rfl, ⟨h1, h8, hc⟩, k⟩ := h
    obtain ⟨tl, hle⟩ := T.let_
    refine ⟨_, pss_cons (ps_if (pw_or (pt_not (pt_val (cb "isinstance" T call_isi (pa_cons (pv 0) (pa_cons (gt "str" "str" T) pa_nil))))) (pw_or1 (pt_not (pt_chain op_le op_le pe_int (cb "len" T call_len (pa_cons (pv 0) pa_nil)) pe_int)))).pt pss_never pss_nil)
      (pss_one (ps_ret (cb "all" T (cr_all rfl) (pa_cons (pe_lc (own := [("sign", 1)]) (g := gName 1) (tt := tYes) rfl sc_is_name.nd (pi_str (pv 0)) (blkOk_by (N := ["value", "sign"]) (sc := defScope d_is_name) (by decide +kernel))
        (fun _ _ _ _ _ => pg_name (i := 1) sc_is_name.nd rfl (Or.inl rfl)) (fun _ _ _ _ _ => pts_nil) (fun _ _ _ _ _ => pe_cmpR op_in_sign (pv 1) (pe_glob (v := .str "abcdefghijklmnopqrstuvwxyz") rfl hle ⟨_, rfl⟩) rfl)) pa_nil)))), ?_⟩
    refine ⟨_, rfl, _, _, _, _, true, rfl, .ty _, .base (.str x), kit_ty (by decide +kernel), _, rfl, ?_⟩
    refine ⟨_, rfl, _, x.length, rfl, ⟨by rw [sizeLine_eq]; omega, rfl⟩, _, _, rfl, rfl, _, rfl, ?_⟩
    have e1 : decide ((1 : Int) ≤ (x.length : Int)) = true := by simp; omega
    have e8 : decide ((x.length : Int) ≤ 8) = true := by simp; omega
    rw [e1]
    refine ⟨_, _, rfl, rfl, _, rfl, ?_⟩
    rw [e8]
    refine ⟨_, rfl, x, rfl, fun D hD => lc_f walk_str (fun i => if i < x.cps.size then some (.bl true) else none) hD (by have : x.cps.size = x.length := rfl; omega) (fun _ _ => trivial) ?_ ?_⟩
    · rintro i v H1 H' kk k0 hi s ⟨rfl, c, hcx, rfl⟩ h2 h3
      refine ⟨rfl, _, rfl, _, _, rfl, rfl, ?_⟩
      have hm : c ∈ x.cps.toList := by
        obtain ⟨hlt, e⟩ := Array.getElem?_eq_some_iff.mp hcx
        rw [← e]
        exact Array.getElem_mem_toList hlt
      have e2 : decide (c ∈ ("abcdefghijklmnopqrstuvwxyz" : Str).cps.toList) = true := decide_eq_true (hc c hm)
      rw [e2]
      exact h2 _ _ (by simp [hi]) same_rfl
    · intro H' s hL
      refine ⟨_, List.replicate x.cps.size true, rfl, SqL.of ?_, ?_⟩
      · rw [hL]
        congr 2
        have : ∀ m, m ≤ x.cps.size → (List.range m).filterMap (fun i => if i < x.cps.size then some (V.bl true) else none) = (List.replicate m true).map V.bl := by
          intro m
          induction m with
          | zero => intro _; rfl
          | succ m ih =>
            intro hm
            rw [List.range_succ, List.filterMap_append, ih (by omega)]
            have : m < x.cps.size := by omega
            rw [List.replicate_succ', List.map_append]
            simp [this]
        exact this _ (Nat.le_refl _)
      · have e3 : (List.replicate x.cps.size true).all id = true := by simp
        rw [e3]
        exact k _ s
theorem ok_is_row (T : FX P K mg) : FnR P w K mg base CX0 1 (ga K "is_row") spRow := by
  refine fnr T.f_is_row sc_is_row (fun _ _ _ _ _ _ us hl => match us, hl with | [_], _ => rfl) (fun vs H Q E h => ?_) (fun cdv A outer s H vs Q E hr h => ?_)
  · obtain ⟨a, xs, rfl, _⟩ := h
    rfl
  · obtain ⟨a, xs, rfl, ha, k⟩ := h
    refine ⟨_, pss_one (ps_ret (cb "isinstance" T call_isiT (pa_cons (pv 0) (pa_cons (pe_tup (pa_cons (gt "list" "list" T) (pa_cons (gt "tuple" "tuple" T) pa_nil))) pa_nil)))), ?_⟩
    refine ⟨_, rfl, (by show 2 ≤ sizeLine; decide), fun p hp => ?_⟩
    have hne : a ≠ p := ne_of_none ha hp
    refine ⟨_, p, _, _, _, true, rfl, upd_same, .cons (.ty _) (.cons (.ty _) .nil), .base (.lst (by rw [upd_ne hne]; exact ha)), ?_, k _ (same_new same_rfl hp)⟩
    exact kitAny_cons (b := true) (kit_ty (by decide +kernel)) (fun z => by cases z) (fun _ => rfl)
end
end N1
set_option maxHeartbeats 1000000
namespace N1
open PySem PySem.Spec PyProof.Rows L2
abbrev cDay (K : PySem.W.Frag) := ga K "Day"
abbrev cRun (K : PySem.W.Frag) := ga K "Run"
abbrev cStay (K : PySem.W.Frag) := ga K "Stay"
abbrev cTab (K : PySem.W.Frag) := ga K "Table"
abbrev cPau (K : PySem.W.Frag) := ga K "Pauses"
abbrev cBrd (K : PySem.W.Frag) := ga K "Board"
theorem putF_ne {f g : Str} {v u : V} {r : List (Str × V)} (h : ¬ g = f) : putF f v ((g, u) :: r) = (g, u) :: putF f v r := by
  show (if g = f then _ else _) = _
  rw [if_neg h]
theorem putF_eq {f : Str} {v u : V} {r : List (Str × V)} : putF f v ((f, u) :: r) = (f, v) :: r := by
  show (if f = f then _ else _) = _
  rw [if_pos rfl]
theorem len_putF (f : Str) (v : V) : ∀ fs : List (Str × V), (putF f v fs).length ≤ fs.length + 1
  | [] => Nat.le_refl _
  | (g, u) :: r => by
    by_cases h : g = f
    · subst h
      rw [putF_eq]
      simp
    · rw [putF_ne h]
      have := len_putF f v r
      simp only [List.length_cons]
      omega
theorem lt_putF {f : Str} {v : V} {fs : List (Str × V)} {k : Nat} (h : fs.length < k) : (putF f v fs).length < k + 1 := by
  have := len_putF f v fs
  omega
/-- a trip -/
structure TR where
  run : Bool
  name : Str
  start : Str
  leaves : Int
  takes : Int
  goal : Str
deriving DecidableEq
def tfs (t : TR) : List (Str × V) := [("name", .str t.name), ("start", .str t.start), ("leaves", .int t.leaves), ("takes", .int t.takes), ("goal", .str t.goal)]
def cTR (K : PySem.W.Frag) (t : TR) : Addr := if t.run then cRun K else cStay K
/-- a trip that stands -/
structure TR.Ok (t : TR) : Prop where
  n : NameOk t.name
  s : NameOk t.start
  g : NameOk t.goal
  l0 : 0 ≤ t.leaves
  l1 : t.leaves ≤ 1000000000000
  t0 : 1 ≤ t.takes
  t1 : t.takes ≤ 1000000000000
  st : t.run = false → t.start = t.goal
def TripAt (K : PySem.W.Frag) (G : Hp) (a : Addr) (t : TR) : Prop := ∃ dx, G a = some (.ins (cTR K t) dx (tfs t))
def DayAt (K : PySem.W.Frag) (G : Hp) (a : Addr) (n : Int) : Prop := ∃ dx, G a = some (.ins (cDay K) dx [("length", .int n)])
theorem TripAt.up {K : PySem.W.Frag} {G G' : Hp} {a : Addr} {t : TR} (s : Same G G') (h : TripAt K G a t) : TripAt K G' a t := let ⟨dx, e⟩ := h; ⟨dx, s _ _ e⟩
theorem DayAt.up {K : PySem.W.Frag} {G G' : Hp} {a : Addr} {n : Int} (s : Same G G') (h : DayAt K G a n) : DayAt K G' a n := let ⟨dx, e⟩ := h; ⟨dx, s _ _ e⟩
theorem lk_name (t : TR) : (tfs t).lookup ("name" : Str) = some (.str t.name) := by rfl
theorem lk_start (t : TR) : (tfs t).lookup ("start" : Str) = some (.str t.start) := by rfl
theorem lk_leaves (t : TR) : (tfs t).lookup ("leaves" : Str) = some (.int t.leaves) := by rfl
theorem lk_takes (t : TR) : (tfs t).lookup ("takes" : Str) = some (.int t.takes) := by rfl
theorem lk_goal (t : TR) : (tfs t).lookup ("goal" : Str) = some (.str t.goal) := by rfl
/-- a new instance: what its __init__ has made of it is frozen -/
theorem Gx.made {M : List Addr} {G0 H0 G H H' : Hp} {x dx C : Addr} {o u : HO} {fs : List (Str × V)} (a : Gx M G0 H0 G H) (hx : H x = none) (hdx : H dx = none) (hne : dx ≠ x)
    (k : ∀ b v, b ≠ x → (upd (upd H dx u) x (.ins C dx fs)) b = some v → H' b = some v) (ho : H' x = some o) : Gx M G0 H0 (upd G x o) H' := by
  have old : ∀ b v, H b = some v → H' b = some v := fun b v e => by
    have h1 : b ≠ x := fun z => by rw [z, hx] at e; cases e
    have h2 : b ≠ dx := fun z => by rw [z, hdx] at e; cases e
    exact k b v h1 (by rw [upd_ne h1, upd_ne h2]; exact e)
  refine a.trans ⟨same_self' (same_non a.gh hx), fun b v e => ?_, fun b v _ e => old b v e, fun b e => ?_, fun b e => ?_⟩
  · by_cases hb : b = x
    · subst hb
      rw [upd_same] at e
      rw [← e]
      exact ho
    · rw [upd_ne hb] at e
      exact old b v (a.gh b v e)
  · cases q : H b with
    | none => exact absurd q e
    | some v => rw [old b v q]; intro z; cases z
  · by_cases hb : b = x
    · exact .inr (hb ▸ hx)
    · rw [upd_ne hb] at e
      exact .inl e
/-- an __init__ that makes fields fs of an empty instance -/
def IniOk (x : Addr) (C dx : Addr) (fs : List (Str × V)) (H : Hp) (Q : VK) : Prop := ∀ H' : Hp, (∀ b v, b ≠ x → H b = some v → H' b = some v) → H' x = some (.ins C dx fs) → Q .non H'
def spDayInit (K : PySem.W.Frag) : Sp := fun vs H Q _ => ∃ (x dx : Addr) (n : Int), vs = [.ref x, .int n] ∧ 1 ≤ n ∧ n ≤ 1000000000000 ∧ H x = some (.ins (cDay K) dx []) ∧ IniOk x (cDay K) dx [("length", .int n)] H Q
def spDayEq (K : PySem.W.Frag) : Sp := fun vs H Q _ => ∃ (a b : Addr) (n m : Int), vs = [.ref a, .ref b] ∧ DayAt K H a n ∧ DayAt K H b m ∧ Q (.bl (decide (n = m))) H
section
variable {P : Program} {w : World} {K : PySem.W.Frag} {mg : Str → Option Value} {base : Heap}
theorem ok_DayInit (T : FX P K mg) : FnR P w K mg base CX0 3 (ini K "Day") (spDayInit K) := by
  refine fnr T.f_DayInit sc_DayInit (fun _ _ _ _ _ _ us hl => match us, hl with | [_, _], _ => rfl) (fun vs H Q E h => ?_) (fun cdv A outer s H vs Q E hr h => ?_)
  · obtain ⟨x, dx, n, rfl, _⟩ := h
    rfl
  · obtain ⟨x, dx, n, rfl, h1, h2, hx, k⟩ := h
    refine ⟨_, pss_cons (ps_if (pt_not (pt_val (cl "is_between" T (ok_is_between T) hr (pa_cons (pv 1) (pa_cons pe_int (pa_cons (gi "MOST_LENGTH" 1000000000000 T) pa_nil)))))) pss_never pss_nil) (pss_one (ps_fld (pv 0) (pv 1) rfl)), ?_⟩
    refine ⟨_, rfl, n, _, _, rfl, _, rfl, ?_⟩
    have e : (decide ((1 : Int) ≤ n) && decide (n ≤ 1000000000000)) = true := by simp [h1, h2]
    rw [e]
    refine ⟨_, rfl, _, rfl, x, _, dx, _, rfl, hx, T.cls "Day" (by decide +kernel), T.noat ("Day", "length") (by decide +kernel), by decide, ?_⟩
    exact k _ (fun b v hb e => by rw [upd_ne hb]; exact e) upd_same
theorem isi_ok (T : FX P K mg) {C D : Addr} {H : Hp} {a dx : Addr} {fs : List (Str × V)} (I : IsiC K C D) (c : Cls K C) (e : H a = some (.ins C dx fs)) : TyX K H (.ref a) (.ref C) := .base (.ins e c I.ha T.gcn T.gct I.hm)
theorem ok_DayEq (T : FX P K mg) : FnR P w K mg base CX0 1 (ma K (ga K "Day") "__eq__") (spDayEq K) := by
  refine fnr T.f_DayEq sc_DayEq (fun _ _ _ _ _ _ us hl => match us, hl with | [_, _], _ => rfl) (fun vs H Q E h => ?_) (fun cdv A outer s H vs Q E hr h => ?_)
  · obtain ⟨a, b, n, m, rfl, _⟩ := h
    rfl
  · obtain ⟨a, b, n, m, rfl, ⟨dx, ha⟩, ⟨dy, hb⟩, k⟩ := h
    have cD := T.cls "Day" (by decide +kernel)
    have nL := T.noat ("Day", "length") (by decide +kernel)
    refine ⟨_, pss_one (ps_ret (pe_and (cb "isinstance" T call_isi (pa_cons (pv 1) (pa_cons (gc "Day" T) pa_nil))) (pe_one (pe_cmpR op_eq (pe_fld (pv 0) rfl) (pe_fld (pv 1) rfl) (nomark _))))), ?_⟩
    refine ⟨_, rfl, _, _, _, _, true, rfl, .own _, isi_ok T T.isD cD hb, T.isD.k1, _, rfl, ?_⟩
    refine ⟨_, rfl, a, _, dx, _, _, rfl, ha, cD, nL, rfl, ?_⟩
    refine ⟨_, rfl, b, _, dy, _, _, rfl, hb, cD, nL, rfl, rfl, ?_⟩
    have e : decide (V.int n = V.int m) = decide (n = m) := by simp
    rw [e]
    exact k
end
end N1
set_option maxHeartbeats 1000000
namespace N1
open PySem PySem.Spec PyProof.Rows L2
/-- a class whose instances are trips -/
structure TrC (K : PySem.W.Frag) (C : Addr) : Prop where
  c : Cls K C
  n1 : NoAttr K C "name"
  n2 : NoAttr K C "start"
  n3 : NoAttr K C "leaves"
  n4 : NoAttr K C "takes"
  n5 : NoAttr K C "goal"
theorem trR {P : Program} {K : PySem.W.Frag} {mg : Str → Option Value} (T : FX P K mg) : TrC K (cRun K) := ⟨T.cls "Run" (by decide +kernel), T.noat ("Run", "name") (by decide +kernel), T.noat ("Run", "start") (by decide +kernel), T.noat ("Run", "leaves") (by decide +kernel), T.noat ("Run", "takes") (by decide +kernel), T.noat ("Run", "goal") (by decide +kernel)⟩
theorem trS {P : Program} {K : PySem.W.Frag} {mg : Str → Option Value} (T : FX P K mg) : TrC K (cStay K) := ⟨T.cls "Stay" (by decide +kernel), T.noat ("Stay", "name") (by decide +kernel), T.noat ("Stay", "start") (by decide +kernel), T.noat ("Stay", "leaves") (by decide +kernel), T.noat ("Stay", "takes") (by decide +kernel), T.noat ("Stay", "goal") (by decide +kernel)⟩
theorem trT {P : Program} {K : PySem.W.Frag} {mg : Str → Option Value} (T : FX P K mg) (t : TR) : TrC K (cTR K t) := by
  unfold cTR
  cases t.run
  · exact trS T
  · exact trR T
/-- the five fields of a trip, whatever its kind -/
structure T5 (n s : Str) (l t : Int) (g : Str) : Prop where
  n : NameOk n
  s : NameOk s
  g : NameOk g
  l0 : 0 ≤ l
  l1 : l ≤ 1000000000000
  t0 : 1 ≤ t
  t1 : t ≤ 1000000000000
def f5 (n s : Str) (l t : Int) (g : Str) : List (Str × V) := [("name", .str n), ("start", .str s), ("leaves", .int l), ("takes", .int t), ("goal", .str g)]
def spTripInit (K : PySem.W.Frag) : Sp := fun vs H Q _ => ∃ (x dx C : Addr) (n s : Str) (l t : Int) (g : Str), vs = [.ref x, .str n, .str s, .int l, .int t, .str g] ∧ T5 n s l t g ∧ TrC K C ∧ H x = some (.ins C dx []) ∧ IniOk x C dx (f5 n s l t g) H Q
def spRunInit (K : PySem.W.Frag) : Sp := fun vs H Q _ => ∃ (x dx : Addr) (n s : Str) (l t : Int) (g : Str), vs = [.ref x, .str n, .str s, .int l, .int t, .str g] ∧ T5 n s l t g ∧ H x = some (.ins (cRun K) dx []) ∧ IniOk x (cRun K) dx (f5 n s l t g) H Q
def spStayInit (K : PySem.W.Frag) : Sp := fun vs H Q _ => ∃ (x dx : Addr) (n s : Str) (l t : Int), vs = [.ref x, .str n, .str s, .int l, .int t] ∧ T5 n s l t s ∧ H x = some (.ins (cStay K) dx []) ∧ IniOk x (cStay K) dx (f5 n s l t s) H Q
section
variable {P : Program} {w : World} {K : PySem.W.Frag} {mg : Str → Option Value} {base : Heap}
theorem ok_TripInit (T : FX P K mg) : FnR P w K mg base CX0 4 (ini K "Trip") (spTripInit K) := by
  refine fnr T.f_TripInit sc_TripInit (fun _ _ _ _ _ _ us hl => match us, hl with | [_, _, _, _, _, _], _ => rfl) (fun vs H Q E h => ?_) (fun cdv A outer s H vs Q E hr h => ?_)
  · obtain ⟨x, dx, C, n, s, l, t, g, rfl, _⟩ := h
    rfl
  · obtain ⟨x, dx, C, n, z, l, t, g, rfl, ok, c, hx, k⟩ := h
    have hr1 : Room 1 _ := hr.mono (by decide)
    have hr2 : Room 2 _ := hr.mono (by decide)
    have nm := fun {N : List Str} (i : Nat) => True
    refine ⟨_, pss_cons (ps_if (pt_not (pt_val (cl "is_name" T (ok_is_name T) hr1 (pa_cons (pv 1) pa_nil)))) pss_never pss_nil)
      (pss_cons (ps_if (pw_or (pt_not (pt_val (cl "is_name" T (ok_is_name T) hr1 (pa_cons (pv 2) pa_nil)))) (pw_or1 (pt_not (pt_val (cl "is_name" T (ok_is_name T) hr1 (pa_cons (pv 5) pa_nil)))))).pt pss_never pss_nil)
      (pss_cons (ps_if (pt_not (pt_val (cl "is_number" T (ok_is_number T) hr (pa_cons (pv 3) pa_nil)))) pss_never pss_nil)
      (pss_cons (ps_if (pt_not (pt_val (cl "is_between" T (ok_is_between T) hr2 (pa_cons (pv 4) (pa_cons pe_int (pa_cons (gi "MOST_NUMBER" 1000000000000 T) pa_nil)))))) pss_never pss_nil)
      (pss_cons (ps_fld (pv 0) (pv 1) rfl) (pss_cons (ps_fld (pv 0) (pv 2) rfl) (pss_cons (ps_fld (pv 0) (pv 3) rfl) (pss_cons (ps_fld (pv 0) (pv 4) rfl) (pss_one (ps_fld (pv 0) (pv 5) rfl))))))))), ?_⟩
    refine ⟨_, rfl, n, rfl, ok.n, fun H1 s1 => ⟨_, rfl, ?_⟩⟩
    refine ⟨_, rfl, z, rfl, ok.s, fun H2 s2 => ⟨_, rfl, ?_⟩⟩
    refine ⟨_, rfl, g, rfl, ok.g, fun H3 s3 => ⟨_, rfl, ?_⟩⟩
    refine ⟨_, rfl, l, rfl, _, rfl, ?_⟩
    have e1 : (decide ((0 : Int) ≤ l) && decide (l ≤ 1000000000000)) = true := by simp [ok.l0, ok.l1]
    rw [e1]
    refine ⟨_, rfl, t, _, _, rfl, _, rfl, ?_⟩
    have e2 : (decide ((1 : Int) ≤ t) && decide (t ≤ 1000000000000)) = true := by simp [ok.t0, ok.t1]
    rw [e2]
    have s4 : Same H H3 := same_tr s1 (same_tr s2 s3)
    have hx3 := s4 _ _ hx
    refine ⟨_, rfl, _, rfl, x, C, dx, _, rfl, hx3, c.c, c.n1, by decide, ?_⟩
    refine ⟨_, rfl, _, rfl, x, C, dx, _, rfl, upd_same, c.c, c.n2, (lt_putF (by decide)), ?_⟩
    refine ⟨_, rfl, _, rfl, x, C, dx, _, rfl, upd_same, c.c, c.n3, (lt_putF (lt_putF (by decide))), ?_⟩
    refine ⟨_, rfl, _, rfl, x, C, dx, _, rfl, upd_same, c.c, c.n4, (lt_putF (lt_putF (lt_putF (by decide)))), ?_⟩
    refine ⟨_, rfl, _, rfl, x, C, dx, _, rfl, upd_same, c.c, c.n5, (lt_putF (lt_putF (lt_putF (lt_putF (by decide))))), ?_⟩
    refine k _ (fun b v hb e => ?_) ?_
    · rw [upd_ne hb, upd_ne hb, upd_ne hb, upd_ne hb, upd_ne hb]
      exact s4 _ _ e
    · rw [upd_same]
      rfl
theorem ok_RunInit (T : FX P K mg) : FnR P w K mg base CX0 5 (ini K "Run") (spRunInit K) := by
  have z := fn_sup (CX := CX0) (w := w) (base := base) (k := 4) (N := ["self", "name", "start", "leaves", "takes", "goal", "__class__"]) (ps := ["self", "name", "start", "leaves", "takes", "goal"]) T.suR rfl (NdefX.nscope_by (by decide +kernel)) (by decide +kernel) rfl rfl rfl (by decide +kernel)
    (fun _ _ _ _ _ us hl => match us, hl with | [_, _, _, _, _, _], _ => rfl) (T.fre "super" (by decide +kernel)) T.top_ T.opq T.siR.1 T.fnT.1 T.fnT.2 T.siR.2.1 T.siR.2.2 (ok_TripInit T) (fun _ _ _ _ _ => pass0)
    (fun _ _ _ _ _ => pa_cons (pv 1) (pa_cons (pv 2) (pa_cons (pv 3) (pa_cons (pv 4) (pa_cons (pv 5) pa_nil))))) (fun _ _ _ _ _ => rfl) (fun _ _ _ _ _ => ⟨_, rfl⟩) (fun _ _ _ _ _ => ⟨rfl, rfl⟩)
  refine z.imp fun vs H Q E h => ?_
  obtain ⟨x, dx, n, s, l, t, g, rfl, ok, hx, k⟩ := h
  refine ⟨x, _, rfl, rfl, ⟨_, _, hx⟩, ?_⟩
  exact ⟨_, rfl, _, rfl, _, rfl, _, rfl, _, rfl, x, dx, _, n, s, l, t, g, rfl, ok, trR T, hx, fun H' a b => k H' a b⟩
theorem ok_StayInit (T : FX P K mg) : FnR P w K mg base CX0 5 (ini K "Stay") (spStayInit K) := by
  have z := fn_sup (CX := CX0) (w := w) (base := base) (k := 4) (N := ["self", "name", "place", "leaves", "takes", "__class__"]) (ps := ["self", "name", "place", "leaves", "takes"]) T.suS rfl (NdefX.nscope_by (by decide +kernel)) (by decide +kernel) rfl rfl rfl (by decide +kernel)
    (fun _ _ _ _ _ us hl => match us, hl with | [_, _, _, _, _], _ => rfl) (T.fre "super" (by decide +kernel)) T.top_ T.opq T.siS.1 T.fnT.1 T.fnT.2 T.siS.2.1 T.siS.2.2 (ok_TripInit T) (fun _ _ _ _ _ => pass0)
    (fun _ _ _ _ _ => pa_cons (pv 1) (pa_cons (pv 2) (pa_cons (pv 3) (pa_cons (pv 4) (pa_cons (pv 2) pa_nil))))) (fun _ _ _ _ _ => rfl) (fun _ _ _ _ _ => ⟨_, rfl⟩) (fun _ _ _ _ _ => ⟨rfl, rfl⟩)
  refine z.imp fun vs H Q E h => ?_
  obtain ⟨x, dx, n, s, l, t, rfl, ok, hx, k⟩ := h
  refine ⟨x, _, rfl, rfl, ⟨_, _, hx⟩, ?_⟩
  exact ⟨_, rfl, _, rfl, _, rfl, _, rfl, _, rfl, x, dx, _, n, s, l, t, s, rfl, ok, trS T, hx, fun H' a b => k H' a b⟩
/-- what a call has made: a new trip at p -/
def NewTrip (K : PySem.W.Frag) (H : Hp) (t : TR) (Q : VK) : Prop := ∀ H' p, H p = none → Same H H' → TripAt K H' p t → Q (.ref p) H'
end
theorem made_same {H H' : Hp} {x dx C : Addr} {u : HO} {fs : List (Str × V)} (hx : H x = none) (hdx : H dx = none)
    (k : ∀ b v, b ≠ x → (upd (upd H dx u) x (.ins C dx fs)) b = some v → H' b = some v) : Same H H' := fun b v e => by
  have h1 : b ≠ x := fun z => by rw [z, hx] at e; cases e
  have h2 : b ≠ dx := fun z => by rw [z, hdx] at e; cases e
  exact k b v h1 (by rw [upd_ne h1, upd_ne h2]; exact e)
/-- the same trip, leaving at l, taking t -/
def TR.at (t : TR) (l k : Int) : TR := { t with leaves := l, takes := k }
def TR.Five (t : TR) : Prop := T5 t.name t.start t.leaves t.takes t.goal
def spTimed (K : PySem.W.Frag) (b : Bool) : Sp := fun vs H Q _ => ∃ (a : Addr) (t : TR) (l k : Int), vs = [.ref a, .int l, .int k] ∧ t.run = b ∧ (b = false → t.start = t.goal) ∧ TripAt K H a t ∧ (t.at l k).Five ∧ NewTrip K H (t.at l k) Q
def spAdd (K : PySem.W.Frag) : Sp := fun vs H Q _ => ∃ (a : Addr) (t : TR) (k : Int), vs = [.ref a, .int k] ∧ t.Ok ∧ TripAt K H a t ∧ 0 ≤ t.leaves + k ∧ t.leaves + k ≤ 1000000000000 ∧ NewTrip K H (t.at (t.leaves + k) t.takes) Q
def spTripEq (K : PySem.W.Frag) : Sp := fun vs H Q _ => ∃ (a b : Addr) (t : TR), vs = [.ref a, .ref b] ∧ t.Ok ∧ TripAt K H a t ∧ TripAt K H b t ∧ ∀ H', Same H H' → Q (.bl true) H'
section
variable {P : Program} {w : World} {K : PySem.W.Frag} {mg : Str → Option Value} {base : Heap}
theorem ok_RunTimed (T : FX P K mg) : FnR P w K mg base CX0 7 (ma K (ga K "Run") "timed") (spTimed K true) := by
  refine fnr T.f_RunTimed sc_RunTimed (fun _ _ _ _ _ _ us hl => match us, hl with | [_, _, _], _ => rfl) (fun vs H Q E h => ?_) (fun cdv A outer s H vs Q E hr h => ?_)
  · obtain ⟨a, t, l, k, rfl, _⟩ := h
    rfl
  · obtain ⟨a, t, l, kk, rfl, hb, _, ⟨dx, ha⟩, ok, k⟩ := h
    have c := trR T
    have ha' : H a = some (.ins (cRun K) dx (tfs t)) := by
      have : cTR K t = cRun K := by unfold cTR; rw [hb]; rfl
      rw [← this]; exact ha
    refine ⟨_, pss_one (ps_ret (StX.pe_makeR (T.mkr "Run" (by decide +kernel)) (ok_RunInit T) hr rfl (T.glo "Run" (by decide +kernel)) pass0 (pa_cons (pe_fld (pv 0) rfl) (pa_cons (pe_fld (pv 0) rfl) (pa_cons (pv 1) (pa_cons (pv 2) (pa_cons (pe_fld (pv 0) rfl) pa_nil))))))), ?_⟩
    refine ⟨_, rfl, a, _, dx, _, _, rfl, ha', c.c, c.n1, lk_name t, ?_⟩
    refine ⟨_, rfl, a, _, dx, _, _, rfl, ha', c.c, c.n2, lk_start t, ?_⟩
    refine ⟨_, rfl, _, rfl, ?_⟩
    refine ⟨_, rfl, a, _, dx, _, _, rfl, ha', c.c, c.n5, lk_goal t, fun x dy hx hdy hne => ?_⟩
    refine ⟨x, dy, t.name, t.start, l, kk, t.goal, rfl, ok, upd_same, fun H' h1 h2 => ⟨rfl, ?_⟩⟩
    refine k H' x hx (made_same hx hdy h1) ⟨dy, ?_⟩
    rw [h2]
    have : cTR K (t.at l kk) = cRun K := by unfold cTR TR.at; rw [hb]; rfl
    rw [this]
    rfl
theorem ok_StayTimed (T : FX P K mg) : FnR P w K mg base CX0 7 (ma K (ga K "Stay") "timed") (spTimed K false) := by
  refine fnr T.f_StayTimed sc_StayTimed (fun _ _ _ _ _ _ us hl => match us, hl with | [_, _, _], _ => rfl) (fun vs H Q E h => ?_) (fun cdv A outer s H vs Q E hr h => ?_)
  · obtain ⟨a, t, l, k, rfl, _⟩ := h
    rfl
  · obtain ⟨a, t, l, kk, rfl, hb, hg, ⟨dx, ha⟩, ok, k⟩ := h
    have c := trS T
    have hg := hg rfl
    have ha' : H a = some (.ins (cStay K) dx (tfs t)) := by
      have : cTR K t = cStay K := by unfold cTR; rw [hb]; rfl
      rw [← this]; exact ha
    refine ⟨_, pss_one (ps_ret (StX.pe_makeR (T.mkr "Stay" (by decide +kernel)) (ok_StayInit T) hr rfl (T.glo "Stay" (by decide +kernel)) pass0 (pa_cons (pe_fld (pv 0) rfl) (pa_cons (pe_fld (pv 0) rfl) (pa_cons (pv 1) (pa_cons (pv 2) pa_nil)))))), ?_⟩
    refine ⟨_, rfl, a, _, dx, _, _, rfl, ha', c.c, c.n1, lk_name t, ?_⟩
    refine ⟨_, rfl, a, _, dx, _, _, rfl, ha', c.c, c.n2, lk_start t, ?_⟩
    refine ⟨_, rfl, _, rfl, fun x dy hx hdy hne => ?_⟩
    have ok' : T5 t.name t.start l kk t.start := ⟨ok.n, ok.s, ok.s, ok.l0, ok.l1, ok.t0, ok.t1⟩
    refine ⟨x, dy, t.name, t.start, l, kk, rfl, ok', upd_same, fun H' h1 h2 => ⟨rfl, ?_⟩⟩
    refine k H' x hx (made_same hx hdy h1) ⟨dy, ?_⟩
    rw [h2]
    have : cTR K (t.at l kk) = cStay K := by unfold cTR TR.at; rw [hb]; rfl
    rw [this]
    show some (HO.ins (cStay K) dy (f5 t.name t.start l kk t.start)) = some (HO.ins (cStay K) dy (f5 t.name t.start l kk t.goal))
    rw [hg]
theorem ok_TripAdd (T : FX P K mg) : FnR P w K mg base CX0 8 (ma K (ga K "Trip") "__add__") (spAdd K) := by
  refine fnr T.f_TripAdd sc_TripAdd (fun _ _ _ _ _ _ us hl => match us, hl with | [_, _], _ => rfl) (fun vs H Q E h => ?_) (fun cdv A outer s H vs Q E hr h => ?_)
  · obtain ⟨a, t, k, rfl, _⟩ := h
    rfl
  · obtain ⟨a, t, kk, rfl, ok, ⟨dx, ha⟩, h0, h1, k⟩ := h
    have c := trT T t
    have hr1 : Room 1 _ := hr.mono (by decide)
    have hr3 : Room 3 _ := hr.mono (by decide)
    have e1 : (decide ((0 : Int) ≤ t.leaves + kk) && decide (t.leaves + kk ≤ 1000000000000)) = true := by simp [h0, h1]
    have five : (t.at (t.leaves + kk) t.takes).Five := ⟨ok.n, ok.s, ok.g, h0, h1, ok.t0, ok.t1⟩
    have hT : TripAt K H a t := ⟨dx, ha⟩
    cases hb : t.run
    · have c' : cTR K t = cStay K := by unfold cTR; rw [hb]; rfl
      rw [c'] at ha c
      refine ⟨_, pss_cons (ps_if (pw_or (pt_not (pt_val (cl "is_integer" T (ok_is_integer T) hr1 (pa_cons (pv 1) pa_nil)))) (pw_or1 (pt_not (pt_val (cl "is_number" T (ok_is_number T) hr3 (pa_cons (pe_op op_add (pe_fld (pv 0) rfl) (pv 1)) pa_nil)))))).pt pss_never pss_nil)
        (pss_one (ps_ret (pe_methR (pv 0) c.c (T.meth ("Stay", "timed") (by decide +kernel)) (ok_StayTimed T) hr pass0 (pa_cons (pe_op op_add (pe_fld (pv 0) rfl) (pv 1)) (pa_cons (pe_fld (pv 0) rfl) pa_nil))))), ?_⟩
      refine ⟨_, rfl, kk, rfl, _, rfl, ?_⟩
      refine ⟨_, rfl, a, _, dx, _, _, rfl, ha, c.c, c.n3, lk_leaves t, _, rfl, _, _, rfl, rfl, _, rfl, _, rfl, ?_⟩
      rw [e1]
      refine ⟨_, rfl, a, dx, _, rfl, ha, rfl, ?_⟩
      refine ⟨_, rfl, a, _, dx, _, _, rfl, ha, c.c, c.n3, lk_leaves t, _, rfl, _, _, rfl, rfl, ?_⟩
      refine ⟨_, rfl, a, _, dx, _, _, rfl, ha, c.c, c.n4, lk_takes t, ?_⟩
      exact ⟨a, t, _, _, rfl, hb, (fun _ => ok.st hb), hT, five, k⟩
    · have c' : cTR K t = cRun K := by unfold cTR; rw [hb]; rfl
      rw [c'] at ha c
      refine ⟨_, pss_cons (ps_if (pw_or (pt_not (pt_val (cl "is_integer" T (ok_is_integer T) hr1 (pa_cons (pv 1) pa_nil)))) (pw_or1 (pt_not (pt_val (cl "is_number" T (ok_is_number T) hr3 (pa_cons (pe_op op_add (pe_fld (pv 0) rfl) (pv 1)) pa_nil)))))).pt pss_never pss_nil)
        (pss_one (ps_ret (pe_methR (pv 0) c.c (T.meth ("Run", "timed") (by decide +kernel)) (ok_RunTimed T) hr pass0 (pa_cons (pe_op op_add (pe_fld (pv 0) rfl) (pv 1)) (pa_cons (pe_fld (pv 0) rfl) pa_nil))))), ?_⟩
      refine ⟨_, rfl, kk, rfl, _, rfl, ?_⟩
      refine ⟨_, rfl, a, _, dx, _, _, rfl, ha, c.c, c.n3, lk_leaves t, _, rfl, _, _, rfl, rfl, _, rfl, _, rfl, ?_⟩
      rw [e1]
      refine ⟨_, rfl, a, dx, _, rfl, ha, rfl, ?_⟩
      refine ⟨_, rfl, a, _, dx, _, _, rfl, ha, c.c, c.n3, lk_leaves t, _, rfl, _, _, rfl, rfl, ?_⟩
      refine ⟨_, rfl, a, _, dx, _, _, rfl, ha, c.c, c.n4, lk_takes t, ?_⟩
      exact ⟨a, t, _, _, rfl, hb, (fun z => by cases z), hT, five, k⟩
theorem ok_TripEq (T : FX P K mg) : FnR P w K mg base CX0 1 (ma K (ga K "Trip") "__eq__") (spTripEq K) := by
  refine fnr T.f_TripEq sc_TripEq (fun _ _ _ _ _ _ us hl => match us, hl with | [_, _], _ => rfl) (fun vs H Q E h => ?_) (fun cdv A outer s H vs Q E hr h => ?_)
  · obtain ⟨a, b, t, rfl, _⟩ := h
    rfl
  · obtain ⟨a, b, t, rfl, ok, ⟨dx, ha⟩, ⟨dy, hb⟩, k⟩ := h
    have c := trT T t
    obtain ⟨W, uW, hW⟩ : ∃ (W : Str) (u : Value), Con K (cTR K t) "WORD" (.str W) u := by
      unfold cTR
      cases t.run
      · obtain ⟨u, h⟩ := T.woS; exact ⟨_, u, h⟩
      · obtain ⟨u, h⟩ := T.woR; exact ⟨_, u, h⟩
    have hI : IsiC K (cTR K t) (ga K "Trip") := by
      unfold cTR
      cases t.run
      · exact T.isS
      · exact T.isR
    refine ⟨_, pss_cons (ps_if (pw_or (pt_not (pt_val (cb "isinstance" T call_isi (pa_cons (pv 1) (pa_cons (gc "Trip" T) pa_nil))))) (pw_or (pt_cmpR op_ne (pe_con (pv 0) rfl) (pe_con (pv 1) rfl) (nomark _)) (pw_or1 (pt_cmpR op_ne (pe_fld (pv 0) rfl) (pe_fld (pv 1) rfl) (nomark _))))).pt pss_never pss_nil)
      (pss_one (ps_ret (pe_cmpR (op_eqD hr.units) (pe_tup (pa_cons (pe_fld (pv 0) rfl) (pa_cons (pe_fld (pv 0) rfl) (pa_cons (pe_fld (pv 0) rfl) (pa_cons (pe_fld (pv 0) rfl) pa_nil))))) (pe_tup (pa_cons (pe_fld (pv 1) rfl) (pa_cons (pe_fld (pv 1) rfl) (pa_cons (pe_fld (pv 1) rfl) (pa_cons (pe_fld (pv 1) rfl) pa_nil))))) (nomark _)))), ?_⟩
    refine ⟨_, rfl, _, _, _, _, true, rfl, .own _, isi_ok T hI c.c hb, hI.k1, _, rfl, ?_⟩
    refine ⟨_, rfl, a, _, dx, _, _, uW, rfl, ha, c.c, hW, rfl, ?_⟩
    refine ⟨_, rfl, b, _, dy, _, _, uW, rfl, hb, c.c, hW, rfl, rfl, _, rfl, ?_⟩
    have e1 : (!decide (V.str W = V.str W)) = false := by simp
    rw [e1]
    refine ⟨_, rfl, a, _, dx, _, _, rfl, ha, c.c, c.n1, lk_name t, ?_⟩
    refine ⟨_, rfl, b, _, dy, _, _, rfl, hb, c.c, c.n1, lk_name t, rfl, _, rfl, ?_⟩
    have e2 : (!decide (V.str t.name = V.str t.name)) = false := by simp
    rw [e2]
    have fl := fun {H' : Hp} (ha : H' a = some (.ins (cTR K t) dx (tfs t))) => ha
    refine ⟨_, rfl, a, _, dx, _, _, rfl, ha, c.c, c.n2, lk_start t, _, rfl, a, _, dx, _, _, rfl, ha, c.c, c.n3, lk_leaves t, _, rfl, a, _, dx, _, _, rfl, ha, c.c, c.n4, lk_takes t, _, rfl, a, _, dx, _, _, rfl, ha, c.c, c.n5, lk_goal t, (by show 4 ≤ sizeLine; decide), fun p hp => ?_⟩
    have hb2 : (upd H p (.tup [.str t.start, .int t.leaves, .int t.takes, .str t.goal])) b = some (.ins (cTR K t) dy (tfs t)) := by rw [upd_ne (ne_of_none hb hp)]; exact hb
    refine ⟨_, rfl, b, _, dy, _, _, rfl, hb2, c.c, c.n2, lk_start t, _, rfl, b, _, dy, _, _, rfl, hb2, c.c, c.n3, lk_leaves t, _, rfl, b, _, dy, _, _, rfl, hb2, c.c, c.n4, lk_takes t, _, rfl, b, _, dy, _, _, rfl, hb2, c.c, c.n5, lk_goal t, (by show 4 ≤ sizeLine; decide), fun q hq => ?_⟩
    have hpq : p ≠ q := fun z => by rw [← z, upd_same] at hq; cases hq
    have all : ∀ H' : Hp, DpAll K H' [.str t.start, .int t.leaves, .int t.takes, .str t.goal] [.str t.start, .int t.leaves, .int t.takes, .str t.goal] := fun H' => .cons (.str _) (.cons (.int _) (.cons (.int _) (.cons (.str _) .nil)))
    have sh : SeqAt.shaped (.tuple [.str t.start, .int t.leaves, .int t.takes, .str t.goal]) = true := by simp [SeqAt.shaped, PyData.canLay0, PyData.canLayAll0, PyData.depth, PyData.depthAll, ok.s.sok, ok.g.sok]
    refine ⟨_, _, .tup (SqT.of (by rw [upd_ne hpq, upd_same])) (all _), .tup (SqT.of upd_same) (all _), sh, sh, ?_⟩
    rw [SeqAt.eqv_refl _ (SeqAt.canLay_of_shaped sh)]
    refine k _ (same_new (same_new same_rfl hp) hq)
end
end N1
/-! plain: texts in order, trips by name -/
namespace N1
open PySem PySem.Spec PyProof.Rows L2
def leS (a b : Str) : Bool := !decide (b.cps.toList < a.cps.toList)
theorem leS_trans {a b c : Str} (h1 : leS a b = true) (h2 : leS b c = true) : leS a c = true := by
  unfold leS at *
  simp only [Bool.not_eq_true', decide_eq_false_iff_not, List.not_lt] at *
  exact List.le_trans h1 h2
theorem leS_total (a b : Str) : (leS a b || leS b a) = true := by
  unfold leS
  simp only [Bool.or_eq_true, Bool.not_eq_true', decide_eq_false_iff_not, List.not_lt]
  exact List.le_total _ _
theorem leS_anti {a b : Str} (h1 : leS a b = true) (h2 : leS b a = true) : a = b := by
  unfold leS at *
  simp only [Bool.not_eq_true', decide_eq_false_iff_not, List.not_lt] at *
  have e := List.le_antisymm h1 h2
  cases a with
  | mk a => cases b with
    | mk b => simp at e; rw [e]
theorem leS_refl (a : Str) : leS a a = true := by
  have := leS_total a a
  simpa using this
theorem risingS_pw : ∀ (p : Str) (l : List Str), risingS p l = true → (p :: l).Pairwise (fun a b => leS a b = true)
  | p, [], _ => by simp
  | p, x :: r, h => by
    have h' : (!ltCps x.cps.toList p.cps.toList && risingS x r) = true := h
    rw [Bool.and_eq_true] at h'
    have ih := risingS_pw x r h'.2
    have e : leS p x = true := by
      unfold leS
      rw [← ltCps_eq]
      exact h'.1
    refine List.pairwise_cons.mpr ⟨fun y hy => ?_, ih⟩
    rcases List.mem_cons.mp hy with z | z
    · rw [z]; exact e
    · exact leS_trans e ((List.pairwise_cons.mp ih).1 y z)
theorem sortedS_pw : ∀ {l : List Str}, sortedS l = true → l.Pairwise (fun a b => leS a b = true)
  | [], _ => .nil
  | x :: r, h => risingS_pw x r h
/-- in order -/
def sn (l : List Str) : List Str := l.mergeSort leS
theorem sn_perm (l : List Str) : (sn l).Perm l := List.mergeSort_perm ..
theorem sn_pw (l : List Str) : (sn l).Pairwise (fun a b => leS a b = true) := List.pairwise_mergeSort (le := leS) (fun _ _ _ => leS_trans) leS_total l
theorem sn_of {l ys : List Str} (p : ys.Perm l) (h : sortedS ys = true) : ys = sn l :=
  List.Perm.eq_of_pairwise (fun a b _ _ h1 h2 => leS_anti h1 h2) (sortedS_pw h) (sn_pw l) (p.trans (sn_perm l).symm)
theorem sn_congr {l l' : List Str} (p : l.Perm l') : sn l = sn l' :=
  List.Perm.eq_of_pairwise (fun a b _ _ h1 h2 => leS_anti h1 h2) (sn_pw l) (sn_pw l') ((sn_perm l).trans (p.trans (sn_perm l').symm))
theorem sn_nodup {l : List Str} (h : l.Nodup) : (sn l).Nodup := (sn_perm l).nodup_iff.mpr h
theorem mem_sn {l : List Str} {x : Str} : x ∈ sn l ↔ x ∈ l := (sn_perm l).mem_iff
theorem sn_length (l : List Str) : (sn l).length = l.length := (sn_perm l).length_eq
theorem sn_idem {l : List Str} (h : l.Pairwise (fun a b => leS a b = true)) : sn l = l := 
  List.Perm.eq_of_pairwise (fun a b _ _ h1 h2 => leS_anti h1 h2) (sn_pw l) h (sn_perm l)
/-- the trip of a name -/
def lk (ts : List TR) (n : Str) : Option TR := ts.find? fun t => decide (t.name = n)
def names (ts : List TR) : List Str := ts.map (·.name)
theorem lk_some {ts : List TR} {n : Str} {t : TR} (h : lk ts n = some t) : t ∈ ts ∧ t.name = n :=
  ⟨List.mem_of_find?_eq_some h, by have := List.find?_some h; exact of_decide_eq_true this⟩
theorem lk_of {ts : List TR} (hn : (names ts).Nodup) {t : TR} (h : t ∈ ts) : lk ts t.name = some t := by
  induction ts with
  | nil => cases h
  | cons u r ih =>
    have hn2 := List.nodup_cons.mp (show (u.name :: names r).Nodup from hn)
    rcases List.mem_cons.mp h with e | e
    · subst e
      simp [lk]
    · have ne : ¬ u.name = t.name := fun z => hn2.1 (by rw [z]; exact List.mem_map_of_mem e)
      have := ih hn2.2 e
      unfold lk at this ⊢
      rw [List.find?_cons_of_neg (by simpa using ne)]
      exact this
theorem lk_none {ts : List TR} {n : Str} : lk ts n = none ↔ n ∉ names ts := by
  unfold lk names
  rw [List.find?_eq_none]
  constructor
  · intro h hm
    obtain ⟨t, ht, e⟩ := List.mem_map.mp hm
    exact h t ht (by simpa using e)
  · intro h t ht e
    exact h (List.mem_map.mpr ⟨t, ht, by simpa using e⟩)
theorem lk_mem {ts : List TR} {n : Str} (h : n ∈ names ts) : ∃ t, lk ts n = some t := by
  cases e : lk ts n with
  | some t => exact ⟨t, rfl⟩
  | none => exact absurd h (lk_none.mp e)
theorem lk_perm {ts us : List TR} (hn : (names ts).Nodup) (p : ts.Perm us) (n : Str) : lk ts n = lk us n := by
  have hn' : (names us).Nodup := (p.map _).nodup_iff.mp hn
  cases e : lk ts n with
  | none =>
    rw [lk_none] at e
    rw [eq_comm, lk_none]
    intro h
    exact e ((p.map _).mem_iff.mpr h)
  | some t =>
    obtain ⟨h1, h2⟩ := lk_some e
    rw [← h2, lk_of hn' (p.mem_iff.mp h1)]
/-- the trips by name -/
def st (ts : List TR) : List TR := (sn (names ts)).filterMap (lk ts)
theorem names_fm {ts : List TR} : ∀ {l : List Str}, (∀ n ∈ l, n ∈ names ts) → names (l.filterMap (lk ts)) = l
  | [], _ => rfl
  | n :: l, h => by
    obtain ⟨t, e⟩ := lk_mem (h n List.mem_cons_self)
    rw [List.filterMap_cons_some e]
    have := names_fm (l := l) fun m hm => h m (List.mem_cons_of_mem _ hm)
    unfold names at this ⊢
    rw [List.map_cons, this, (lk_some e).2]
theorem names_st (ts : List TR) : names (st ts) = sn (names ts) := names_fm fun n h => mem_sn.mp h
theorem mem_st {ts : List TR} (hn : (names ts).Nodup) {t : TR} : t ∈ st ts ↔ t ∈ ts := by
  unfold st
  rw [List.mem_filterMap]
  constructor
  · rintro ⟨n, _, e⟩
    exact (lk_some e).1
  · intro h
    exact ⟨t.name, mem_sn.mpr (List.mem_map_of_mem h), lk_of hn h⟩
theorem nodup_of_names {ts : List TR} (h : (names ts).Nodup) : ts.Nodup := by
  unfold names at h
  unfold List.Nodup at *
  rw [List.pairwise_map] at h
  exact h.imp fun hne e => hne (by rw [e])
theorem st_perm {ts : List TR} (hn : (names ts).Nodup) : (st ts).Perm ts := by
  refine (List.perm_ext_iff_of_nodup ?_ (nodup_of_names hn)).mpr fun t => mem_st hn
  refine nodup_of_names ?_
  rw [names_st]
  exact sn_nodup hn
theorem st_congr {ts us : List TR} (hn : (names ts).Nodup) (p : ts.Perm us) : st ts = st us := by
  unfold st
  rw [sn_congr (show (names ts).Perm (names us) from p.map _)]
  rw [show lk ts = lk us from funext fun n => lk_perm hn p n]
end N1
set_option maxHeartbeats 1000000
/-! plain: the texts of tables, pauses and plans -/
namespace N1
open PySem PySem.Spec PyProof.Rows L2 TL
abbrev sP : Str := " "
abbrev sN : Str := "\n"
abbrev num (n : Int) : Str := Str.ofString (toString n)
/-- no sign of a word is a blank or a line's end -/
def Word (x : Str) : Prop := (32 : Nat) ∉ tl x ∧ (10 : Nat) ∉ tl x
theorem tl_sP : tl sP = [32] := by decide +kernel
theorem tl_sN : tl sN = [10] := by decide +kernel
theorem name_word {x : Str} (h : NameOk x) : Word x := by
  have hl : ∀ c ∈ ("abcdefghijklmnopqrstuvwxyz" : Str).cps.toList, c ≠ 32 ∧ c ≠ 10 := by decide +kernel
  exact ⟨fun z => (hl _ (h.2.2 _ z)).1 rfl, fun z => (hl _ (h.2.2 _ z)).2 rfl⟩
theorem num_word {n : Int} (h : 0 ≤ n) : Word (num n) := by
  obtain ⟨m, rfl⟩ := Int.eq_ofNat_of_zero_le h
  have e : tl (num (m : Int)) = numL m := tl_num m
  exact ⟨by rw [e]; exact numL_free (by omega), by rw [e]; exact numL_free (by omega)⟩
theorem num_inj {n m : Int} (h0 : 0 ≤ n) (h1 : 0 ≤ m) (h : num n = num m) : n = m := by
  obtain ⟨a, rfl⟩ := Int.eq_ofNat_of_zero_le h0
  obtain ⟨b, rfl⟩ := Int.eq_ofNat_of_zero_le h1
  have e := congrArg tl h
  rw [show tl (num (a : Int)) = numL a from tl_num a, show tl (num (b : Int)) = numL b from tl_num b] at e
  rw [numL_inj e]
theorem app_assoc (a b c : Str) : a ++ b ++ c = a ++ (b ++ c) := ext_tl (by rw [tl_append, tl_append, tl_append, tl_append, List.append_assoc])
theorem sj_cons (y a : Str) {l : List Str} (h : l ≠ []) : Str.join y (a :: l) = a ++ (y ++ Str.join y l) := by
  cases l with
  | nil => exact absurd rfl h
  | cons b l => exact app_assoc a y _
/-- joined ones joined -/
theorem sj_app (y : Str) : ∀ {xs ys : List Str}, xs ≠ [] → ys ≠ [] → Str.join y (xs ++ ys) = Str.join y xs ++ (y ++ Str.join y ys)
  | [], _, h, _ => absurd rfl h
  | [a], ys, _, h2 => by rw [List.singleton_append, sj_cons y a h2]; rfl
  | a :: b :: xs, ys, _, h2 => by
    rw [List.cons_append, sj_cons y a (by simp), sj_app y (xs := b :: xs) (by simp) h2, sj_cons y a (l := b :: xs) (by simp), app_assoc, app_assoc]
theorem sj_head (y : Str) {xs ys : List Str} (h : xs ≠ []) : Str.join y (Str.join y xs :: ys) = Str.join y (xs ++ ys) := by
  cases ys with
  | nil => rw [List.append_nil]; rfl
  | cons b ys => rw [sj_cons y _ (by simp), sj_app y h (by simp)]
/-- pairs, joined alone first -/
theorem sj_flat (y a : Str) : ∀ (ps : List (Str × Str)), Str.join y (a :: ps.map fun p => p.1 ++ (y ++ p.2)) = Str.join y (a :: ps.flatMap fun p => [p.1, p.2])
  | [] => rfl
  | p :: ps => by
    rw [List.map_cons, List.flatMap_cons, sj_cons y a (by simp), sj_cons y a (l := _ ++ _) (by simp)]
    congr 1
    congr 1
    have h := sj_flat y p.2 ps
    cases ps with
    | nil => exact (app_assoc p.1 y p.2).symm
    | cons q ps =>
      rw [sj_cons y _ (by simp), List.cons_append, List.singleton_append, sj_cons y p.1 (by simp)]
      rw [← h, sj_cons y p.2 (by simp), app_assoc, app_assoc]
theorem words_of {l : List Str} (hne : l ≠ []) (h : ∀ x ∈ l, Word x) : Txt.split (Txt.join sP l) sP = l := split_join (s := 32) (S := []) tl_sP (by decide +kernel) hne fun p hp => (h p hp).1
theorem lines_of {l : List Str} (hne : l ≠ []) (h : ∀ x ∈ l, (10 : Nat) ∉ tl x) : Txt.split (Txt.join sN l) sN = l := split_join (s := 10) (S := []) tl_sN (by decide +kernel) hne h
/-- a line of words -/
theorem line_free {l : List Str} (h : ∀ x ∈ l, Word x) : (10 : Nat) ∉ tl (Txt.join sP l) := by
  rw [join_eq, tl_join, tl_sP]
  have : ∀ m : List Str, (∀ x ∈ m, Word x) → (10 : Nat) ∉ joinL [32] (m.map tl) := by
    intro m
    induction m with
    | nil => intro _; simp [joinL]
    | cons a m ih =>
      intro hm
      cases m with
      | nil => exact (hm a List.mem_cons_self).2
      | cons b m =>
        have h2 := ih fun x hx => hm x (List.mem_cons_of_mem _ hx)
        intro z
        have z' : (10 : Nat) ∈ tl a ++ ([32] ++ joinL [32] ((b :: m).map tl)) := z
        rcases List.mem_append.mp z' with z' | z'
        · exact (hm a List.mem_cons_self).2 z'
        · rcases List.mem_append.mp z' with z' | z'
          · simp at z'
          · exact h2 z'
  exact this l h
/-! ### the texts -/
def tripW (t : TR) : List Str := if t.run then ["run", t.name, t.start, num t.leaves, num t.takes, t.goal] else ["stay", t.name, t.start, num t.leaves, num t.takes]
def tripT (t : TR) : Str := Txt.join sP (tripW t)
def dayT (n : Int) : Str := Txt.join sP ["day", num n]
def tabL (n : Int) (ts : List TR) : List Str := dayT n :: ts.map tripT
def tabT (n : Int) (ts : List TR) : Str := Txt.join sN (tabL n ts)
def pauW (ps : List (Str × Int)) : List Str := "pauses" :: ps.flatMap fun p => [p.1, num p.2]
def pauT (ps : List (Str × Int)) : Str := Txt.join sP (pauW ps)
def rowT (p : Str × Str) : Str := Txt.join sP [p.1, p.2]
def planL (n : Int) (ts : List TR) (ps : List (Str × Int)) (fs : List (Str × Str)) : List Str := tabL n ts ++ pauT ps :: fs.map rowT
def planT (n : Int) (ts : List TR) (ps : List (Str × Int)) (fs : List (Str × Str)) : Str := Txt.join sN (planL n ts ps fs)
theorem word_run : Word "run" := by unfold Word; decide +kernel
theorem word_stay : Word "stay" := by unfold Word; decide +kernel
theorem word_day : Word "day" := by unfold Word; decide +kernel
theorem word_pauses : Word "pauses" := by unfold Word; decide +kernel
theorem tripW_words {t : TR} (h : t.Ok) : ∀ x ∈ tripW t, Word x := by
  intro x hx
  unfold tripW at hx
  have w1 := name_word h.n
  have w2 := name_word h.s
  have w3 := name_word h.g
  have w4 := num_word h.l0
  have w5 := num_word (show 0 ≤ t.takes by have := h.t0; omega)
  split at hx
  · simp only [List.mem_cons, List.not_mem_nil, or_false] at hx
    rcases hx with rfl | rfl | rfl | rfl | rfl | rfl
    · exact word_run
    all_goals assumption
  · simp only [List.mem_cons, List.not_mem_nil, or_false] at hx
    rcases hx with rfl | rfl | rfl | rfl | rfl
    · exact word_stay
    all_goals assumption
theorem tripW_ne (t : TR) : tripW t ≠ [] := by unfold tripW; split <;> simp
theorem trip_words {t : TR} (h : t.Ok) : Txt.split (tripT t) sP = tripW t := words_of (tripW_ne t) (tripW_words h)
theorem trip_free {t : TR} (h : t.Ok) : (10 : Nat) ∉ tl (tripT t) := line_free (tripW_words h)
theorem day_words {n : Int} (h : 0 ≤ n) : Txt.split (dayT n) sP = (["day", num n] : List Str) := words_of (by simp) fun x hx => by
  simp only [List.mem_cons, List.not_mem_nil, or_false] at hx
  rcases hx with rfl | rfl
  · exact word_day
  · exact num_word h
theorem day_free {n : Int} (h : 0 ≤ n) : (10 : Nat) ∉ tl (dayT n) := line_free fun x hx => by
  simp only [List.mem_cons, List.not_mem_nil, or_false] at hx
  rcases hx with rfl | rfl
  · exact word_day
  · exact num_word h
theorem tab_lines {n : Int} {ts : List TR} (h : 0 ≤ n) (ht : ∀ t ∈ ts, t.Ok) : Txt.split (tabT n ts) sN = tabL n ts := lines_of (by unfold tabL; simp) fun x hx => by
  rcases List.mem_cons.mp hx with rfl | hx
  · exact day_free h
  · obtain ⟨t, h1, rfl⟩ := List.mem_map.mp hx
    exact trip_free (ht t h1)
theorem trip_inj {t u : TR} (ht : t.Ok) (hu : u.Ok) (e : tripT t = tripT u) : t = u := by
  have w := congrArg (fun x => Txt.split x sP) e
  simp only [trip_words ht, trip_words hu] at w
  have l1 := ht.l0
  have l2 := hu.l0
  have l3 := ht.t0
  have l4 := hu.t0
  obtain ⟨r1, n1, s1, a1, b1, g1⟩ := t
  obtain ⟨r2, n2, s2, a2, b2, g2⟩ := u
  unfold tripW at w
  cases r1 <;> cases r2
  · simp only [Bool.false_eq_true, if_false, List.cons.injEq, and_true, true_and] at w
    obtain ⟨w1, w2, w3, w4⟩ := w
    have e1 := ht.st rfl
    have e2 := hu.st rfl
    have k1 := num_inj l1 l2 w3
    have k2 := num_inj (by show 0 ≤ b1; have : 1 ≤ b1 := l3; omega) (by show 0 ≤ b2; have : 1 ≤ b2 := l4; omega) w4
    simp only at e1 e2 k1 k2
    subst w1 w2 k1 k2 e1 e2
    rfl
  · simp at w
  · simp at w
  · simp only [if_true, List.cons.injEq, and_true, true_and] at w
    obtain ⟨w1, w2, w3, w4, w5⟩ := w
    have k1 := num_inj l1 l2 w3
    have k2 := num_inj (by show 0 ≤ b1; have : 1 ≤ b1 := l3; omega) (by show 0 ≤ b2; have : 1 ≤ b2 := l4; omega) w4
    simp only at k1 k2
    subst w1 w2 k1 k2 w5
    rfl
theorem map_inj_on {α β : Type} {f : α → β} : ∀ {xs ys : List α}, (∀ x ∈ xs, ∀ y ∈ ys, f x = f y → x = y) → xs.map f = ys.map f → xs = ys
  | [], [], _, _ => rfl
  | [], _ :: _, _, h => by simp at h
  | _ :: _, [], _, h => by simp at h
  | x :: xs, y :: ys, hf, h => by
    rw [List.map_cons, List.map_cons, List.cons.injEq] at h
    rw [hf x List.mem_cons_self y List.mem_cons_self h.1, map_inj_on (fun a ha b hb => hf a (List.mem_cons_of_mem _ ha) b (List.mem_cons_of_mem _ hb)) h.2]
theorem day_inj {n m : Int} (hn : 0 ≤ n) (hm : 0 ≤ m) (e : dayT n = dayT m) : n = m := by
  have w := congrArg (fun x => Txt.split x sP) e
  simp only [day_words hn, day_words hm, List.cons.injEq, and_true, true_and] at w
  exact num_inj hn hm w
/-- one text exactly of what is equal -/
theorem tab_inj {n m : Int} {ts us : List TR} (hn : 0 ≤ n) (hm : 0 ≤ m) (ht : ∀ t ∈ ts, t.Ok) (hu : ∀ t ∈ us, t.Ok) : tabT n ts = tabT m us ↔ n = m ∧ ts = us := by
  constructor
  · intro e
    have w := congrArg (fun x => Txt.split x sN) e
    simp only [tab_lines hn ht, tab_lines hm hu] at w
    unfold tabL at w
    rw [List.cons.injEq] at w
    exact ⟨day_inj hn hm w.1, map_inj_on (fun x hx y hy e => trip_inj (ht x hx) (hu y hy) e) w.2⟩
  · rintro ⟨rfl, rfl⟩
    rfl
theorem pauW_words {ps : List (Str × Int)} (h : ∀ p ∈ ps, NameOk p.1 ∧ 0 ≤ p.2) : ∀ x ∈ pauW ps, Word x := by
  intro x hx
  rcases List.mem_cons.mp hx with rfl | hx
  · exact word_pauses
  · obtain ⟨p, hp, hx⟩ := List.mem_flatMap.mp hx
    simp only [List.mem_cons, List.not_mem_nil, or_false] at hx
    rcases hx with rfl | rfl
    · exact name_word (h p hp).1
    · exact num_word (h p hp).2
theorem pau_words {ps : List (Str × Int)} (h : ∀ p ∈ ps, NameOk p.1 ∧ 0 ≤ p.2) : Txt.split (pauT ps) sP = pauW ps := words_of (by unfold pauW; simp) (pauW_words h)
theorem pau_free {ps : List (Str × Int)} (h : ∀ p ∈ ps, NameOk p.1 ∧ 0 ≤ p.2) : (10 : Nat) ∉ tl (pauT ps) := line_free (pauW_words h)
theorem flat_inj : ∀ {ps qs : List (Str × Int)}, (∀ p ∈ ps, 0 ≤ p.2) → (∀ p ∈ qs, 0 ≤ p.2) → (ps.flatMap fun p => [p.1, num p.2]) = (qs.flatMap fun p => [p.1, num p.2]) → ps = qs
  | [], [], _, _, _ => rfl
  | [], _ :: _, _, _, h => by simp at h
  | _ :: _, [], _, _, h => by simp at h
  | (a, i) :: ps, (b, j) :: qs, h1, h2, h => by
    simp only [List.flatMap_cons, List.cons_append, List.nil_append, List.cons.injEq] at h
    have e := num_inj (h1 _ List.mem_cons_self) (h2 _ List.mem_cons_self) h.2.1
    simp only at e
    rw [h.1, e, flat_inj (fun p hp => h1 p (List.mem_cons_of_mem _ hp)) (fun p hp => h2 p (List.mem_cons_of_mem _ hp)) h.2.2]
theorem pau_inj {ps qs : List (Str × Int)} (h : ∀ p ∈ ps, NameOk p.1 ∧ 0 ≤ p.2) (h' : ∀ p ∈ qs, NameOk p.1 ∧ 0 ≤ p.2) : pauT ps = pauT qs ↔ ps = qs := by
  constructor
  · intro e
    have w := congrArg (fun x => Txt.split x sP) e
    simp only [pau_words h, pau_words h'] at w
    unfold pauW at w
    rw [List.cons.injEq] at w
    exact flat_inj (fun p hp => (h p hp).2) (fun p hp => (h' p hp).2) w.2
  · rintro rfl
    rfl
theorem plan_lines {n : Int} {ts : List TR} {ps : List (Str × Int)} {fs : List (Str × Str)} (h : 0 ≤ n) (ht : ∀ t ∈ ts, t.Ok) (hp : ∀ p ∈ ps, NameOk p.1 ∧ 0 ≤ p.2) (hf : ∀ p ∈ fs, NameOk p.1 ∧ NameOk p.2) : Txt.split (planT n ts ps fs) sN = planL n ts ps fs := lines_of (by unfold planL tabL; simp) fun x hx => by
  rcases List.mem_append.mp hx with hx | hx
  · rcases List.mem_cons.mp hx with rfl | hx
    · exact day_free h
    · obtain ⟨t, h1, rfl⟩ := List.mem_map.mp hx
      exact trip_free (ht t h1)
  · rcases List.mem_cons.mp hx with rfl | hx
    · exact pau_free hp
    · obtain ⟨p, h1, rfl⟩ := List.mem_map.mp hx
      exact line_free fun y hy => by
        simp only [List.mem_cons, List.not_mem_nil, or_false] at hy
        rcases hy with rfl | rfl
        · exact name_word (hf p h1).1
        · exact name_word (hf p h1).2
end N1
set_option maxHeartbeats 2000000
/-! number_in, for the word of a number -/
namespace N1
open PySem PySem.Spec PyProof.Rows L2 TL
theorem numL_head : ∀ {m : Nat}, 0 < m → ∃ c l, numL m = c :: l ∧ c ≠ 48 := by
  intro m
  induction m using Nat.strongRecOn with
  | _ m ih =>
    intro h
    by_cases h9 : m < 10
    · exact ⟨48 + m, [], numL_lt h9, by omega⟩
    · obtain ⟨c, l, e, hc⟩ := ih (m / 10) (by omega) (by omega)
      exact ⟨c, l ++ [48 + m % 10], by rw [numL_step (by omega), e]; rfl, hc⟩
theorem iT {A B : Prop} (h : A) : if true = true then A else B := h
theorem iF {A B : Prop} (h : B) : if false = true then A else B := h
theorem numL_pos (m : Nat) : 1 ≤ (numL m).length := by
  cases e : numL m with
  | nil => exact absurd e (numL_ne m)
  | cons a l => simp
def spNumIn : Sp := fun vs H Q _ => ∃ (n a b : Int), vs = [.str (num n), .int a, .int b] ∧ 0 ≤ n ∧ n ≤ 1000000000000 ∧ a ≤ n ∧ n ≤ b ∧ ∀ H', Same H H' → Q (.int n) H'
section
variable {P : Program} {w : World} {K : PySem.W.Frag} {mg : Str → Option Value} {base : Heap}
theorem ok_number_in (T : FX P K mg) : FnR P w K mg base CX0 1 (ga K "number_in") spNumIn := by
  refine fnr T.f_number_in sc_number_in (fun _ _ _ _ _ _ us hl => match us, hl with | [_, _, _], _ => rfl) (fun vs H Q E h => ?_) (fun cdv A outer s H vs Q E hr h => ?_)
  · obtain ⟨n, a, b, rfl, _⟩ := h
    rfl
  · obtain ⟨n, a, b, rfl, h0, h12, ha, hb, k⟩ := h
    have nd := sc_number_in.nd
    refine ⟨_, pss_cons (ps_if (pw_or (pt_not (pt_chain op_le op_le pe_int (cb "len" T call_len (pa_cons (pv 0) pa_nil)) pe_int)) (pw_or1 (pt_not (pt_val (cb "all" T (cr_all rfl) (pa_cons (pe_lc (own := [("sign", 3)]) (g := gName 3) (tt := tYes) rfl nd (pi_str (pv 0)) (blkOk_by (N := ["word", "least", "most", "sign", "found"]) (sc := defScope d_number_in) (by decide +kernel))
        (fun _ _ _ _ _ => pg_name (i := 3) nd rfl (Or.inl rfl)) (fun _ _ _ _ _ => pts_nil) (fun _ _ _ _ _ => pe_cmpR op_in_sign (pv 3) pe_str rfl)) pa_nil)))))).pt pss_never pss_nil)
      (pss_cons (ps_if (pw_and (pt_cmpR op_eq (pe_ix ix_str (pv 0) pe_int (fun _ _ => rfl)) pe_str (nomark _)) (pw_and1 (pt_cmpR op_ne (pv 0) pe_str (nomark _)))).pt pss_never pss_nil)
      (pss_cons (ps_set (i := 4) nd rfl (Or.inl rfl) (ct "int" T call_int_str (pa_cons (pv 0) pa_nil)))
      (pss_one (ps_ret (pe_ifExp (pt_chain op_le op_le (pv 1) (pv 4) (pv 2)) (pv 4) pe_non))))), ?_⟩
    obtain ⟨m, rfl⟩ := Int.eq_ofNat_of_zero_le h0
    have etl : tl (num (m : Int)) = numL m := tl_num m
    have ecs : (num (m : Int)).cps.toList = numL m := etl
    have el : (num (m : Int)).length = (numL m).length := by rw [len_tl, etl]
    have l13 : (numL m).length ≤ 13 := numL_len (by decide) (by omega)
    have l1 := numL_pos m
    have hsz : (num (m : Int)).cps.size = (numL m).length := el
    refine ⟨_, rfl, _, (numL m).length, rfl, ⟨by rw [el, sizeLine_eq]; omega, by rw [el]⟩, _, _, rfl, rfl, _, rfl, ?_⟩
    rw [show decide ((1 : Int) ≤ ((numL m).length : Int)) = true from by simp; omega]
    refine ⟨_, _, rfl, rfl, _, rfl, ?_⟩
    rw [show decide (((numL m).length : Int) ≤ 13) = true from by simp; omega]
    refine ⟨_, rfl, num (m : Int), rfl, fun D hD => lc_f walk_str (fun i => if i < (numL m).length then some (.bl true) else none) hD (by rw [hsz]; omega) (fun _ _ => trivial) ?_ ?_⟩
    · rintro i v H1 H' kk k0 hi s ⟨rfl, c, hcx, rfl⟩ h2 h3
      refine ⟨rfl, _, rfl, _, _, rfl, rfl, ?_⟩
      have hm : c ∈ numL m := by
        obtain ⟨hlt, e⟩ := Array.getElem?_eq_some_iff.mp hcx
        rw [← e, ← ecs]
        exact Array.getElem_mem_toList hlt
      have hd := numL_digits m c hm
      have e2 : decide (c ∈ ("0123456789" : Str).cps.toList) = true := decide_eq_true (by
        have : ∀ d : Nat, d < 58 → 48 ≤ d → d ∈ ("0123456789" : Str).cps.toList := by decide +kernel
        exact this c (by omega) (by omega))
      rw [e2]
      exact h2 _ _ (by rw [if_pos (by rw [← hsz]; exact hi)]) same_rfl
    · intro H' s hL
      refine ⟨_, List.replicate (numL m).length true, rfl, SqL.of ?_, ?_⟩
      · rw [hL, hsz]
        congr 2
        have : ∀ q, q ≤ (numL m).length → (List.range q).filterMap (fun i => if i < (numL m).length then some (V.bl true) else none) = (List.replicate q true).map V.bl := by
          intro q
          induction q with
          | zero => intro _; rfl
          | succ q ih =>
            intro hq
            rw [List.range_succ, List.filterMap_append, ih (by omega)]
            have : q < (numL m).length := by omega
            rw [List.replicate_succ', List.map_append]
            simp [this]
        exact this _ (Nat.le_refl _)
      · rw [show (List.replicate (numL m).length true).all id = true from by simp]
        -- a 0 ahead is 0 alone
        obtain ⟨c, l, ec⟩ : ∃ c l, numL m = c :: l := by
          cases e : numL m with
          | nil => exact absurd e (numL_ne m)
          | cons a l => exact ⟨a, l, rfl⟩
        refine ⟨_, rfl, _, rfl, _, 0, c, rfl, rfl, by rw [el, sizeLine_eq]; omega, ?_, rfl, _, rfl, ?_⟩
        · rw [ecs, ec]
          unfold atI ixN
          simp
        · by_cases h48 : c = 48
          · subst h48
            have m0 : m = 0 := by
              by_cases z : m = 0
              · exact z
              · obtain ⟨c, l2, e, hc⟩ := numL_head (Nat.pos_of_ne_zero z)
                rw [ec] at e
                cases e
                exact absurd rfl hc
            rw [show decide (V.str ⟨#[48]⟩ = V.str "0") = true from by decide +kernel]
            refine iT ⟨_, rfl, rfl, _, rfl, ?_⟩
            rw [show (!decide (V.str (num (m : Int)) = V.str "0")) = false from by rw [m0]; decide +kernel]
            refine ⟨_, rfl, _, (m : Int), rfl, int_num (by omega), by rw [el]; omega, ?_⟩
            refine ⟨_, rfl, _, rfl, _, _, rfl, rfl, _, rfl, ?_⟩
            rw [show decide (a ≤ (m : Int)) = true from decide_eq_true ha]
            refine iT ⟨_, rfl, _, _, rfl, rfl, _, rfl, ?_⟩
            rw [show decide ((m : Int) ≤ b) = true from decide_eq_true hb]
            exact iT ⟨_, rfl, k _ s⟩
          · rw [show decide (V.str ⟨#[c]⟩ = V.str "0") = false from decide_eq_false fun z => h48 (by
              have e := congrArg (fun v => match v with | V.str x => x.cps.toList | _ => []) z
              have e2 : [c] = [48] := e
              simpa using e2)]
            refine ⟨_, rfl, _, (m : Int), rfl, int_num (by omega), by rw [el]; omega, ?_⟩
            refine ⟨_, rfl, _, rfl, _, _, rfl, rfl, _, rfl, ?_⟩
            rw [show decide (a ≤ (m : Int)) = true from decide_eq_true ha]
            refine iT ⟨_, rfl, _, _, rfl, rfl, _, rfl, ?_⟩
            rw [show decide ((m : Int) ≤ b) = true from decide_eq_true hb]
            exact iT ⟨_, rfl, k _ s⟩
end
end N1
set_option maxHeartbeats 1000000
namespace N1
open PySem PySem.Spec PyProof.Rows L2
theorem walk_enumT {K : PySem.W.Frag} {a : Addr} {xs : List V} : Walk (Itet K a) xs.length (fun H => SqT K H a xs) (YPair (fun i => some (.int (i : Nat))) (fun i => xs[i]?)) :=
  ⟨fun i H hi h => ⟨xs, xs[i], h, by simp [hi]⟩, fun H h => ⟨xs, h, Nat.le_refl _⟩, fun i H v H' hi h y => by
    obtain ⟨T, x, e, hT, eH, hx⟩ := y
    exact ⟨T, _, x, e, hT, eH, rfl, hx xs h⟩⟩
/-- trips at these places -/
def Trs (K : PySem.W.Frag) (G : Hp) (as : List Addr) (ts : List TR) : Prop := as.length = ts.length ∧ ∀ (i : Nat) (a : Addr) (t : TR), as[i]? = some a → ts[i]? = some t → TripAt K G a t
theorem Trs.up {K : PySem.W.Frag} {G G' : Hp} {as : List Addr} {ts : List TR} (s : Same G G') (h : Trs K G as ts) : Trs K G' as ts := ⟨h.1, fun i a t h1 h2 => (h.2 i a t h1 h2).up s⟩
theorem Trs.at {K : PySem.W.Frag} {G : Hp} {as : List Addr} {ts : List TR} (h : Trs K G as ts) {i : Nat} {v : V} (e : (as.map V.ref)[i]? = some v) : ∃ a t, v = .ref a ∧ as[i]? = some a ∧ ts[i]? = some t ∧ TripAt K G a t := by
  rw [List.getElem?_map] at e
  cases ha : as[i]? with
  | none => rw [ha] at e; cases e
  | some a =>
    rw [ha] at e
    have hi := (List.getElem?_eq_some_iff.mp ha).1
    rw [h.1] at hi
    exact ⟨a, ts[i], (Option.some.inj e).symm, rfl, List.getElem?_eq_getElem hi, h.2 i a _ ha (List.getElem?_eq_getElem hi)⟩
theorem isT {P : Program} {K : PySem.W.Frag} {mg : Str → Option Value} (T : FX P K mg) (t : TR) : IsiC K (cTR K t) (ga K "Trip") := by
  unfold cTR
  cases t.run
  · exact T.isS
  · exact T.isR
def spAllTrips (K : PySem.W.Frag) : Sp := fun vs H Q _ => ∃ (p : Addr) (as : List Addr) (ts : List TR), vs = [.ref p] ∧ SqT K H p (as.map V.ref) ∧ Trs K H as ts ∧ ∀ H', Same H H' → Q .non H'
/-- the places of trips, in order, each once -/
def PlsOf (ts : List TR) (ys : List Str) : Prop := sortedS ys = true ∧ ys.Nodup ∧ ∀ k, k ∈ ys ↔ ∃ t ∈ ts, k = t.start ∨ k = t.goal
def spPlaces (K : PySem.W.Frag) : Sp := fun vs H Q _ => ∃ (p : Addr) (as : List Addr) (ts : List TR), vs = [.ref p] ∧ SqT K H p (as.map V.ref) ∧ Trs K H as ts ∧ ts.length ≤ 100 ∧
  ∀ H' q ys, Same H H' → H q = none → H' q = some (.lst (ys.map V.str)) → PlsOf ts ys → Q (.ref q) H'
section
variable {P : Program} {w : World} {K : PySem.W.Frag} {mg : Str → Option Value} {base : Heap}
theorem ok_need_all_trips (T : FX P K mg) : FnR P w K mg base CX0 1 (ga K "need_all_trips") (spAllTrips K) := by
  refine fnr T.f_need_all_trips sc_need_all_trips (fun _ _ _ _ _ _ us hl => match us, hl with | [_], _ => rfl) (fun vs H Q E h => ?_) (fun cdv A outer s H vs Q E hr h => ?_)
  · obtain ⟨p, as, ts, rfl, _⟩ := h
    rfl
  · obtain ⟨p, as, ts, rfl, hp, ht, k⟩ := h
    have nd := sc_need_all_trips.nd
    refine ⟨_, pss_one (ps_for PassesOwn.never rfl (pi_enumT (by rfl) (T.fre "enumerate" (by decide +kernel)) (pa_cons (pv 0) pa_nil)) (pg_tup rfl (pgs_cons (pg_name (i := 1) nd rfl (Or.inl rfl)) (pgs_cons (pg_name (i := 2) nd rfl (Or.inl rfl)) pgs_nil)))
      (pss_one (ps_if (pt_not (pt_val (cb "isinstance" T call_isi (pa_cons (pv 2) (pa_cons (gc "Trip" T) pa_nil))))) pss_never pss_nil))), ?_⟩
    refine ⟨_, rfl, p, _, rfl, hp, for_it walk_enumT (fun i σ H' => Same H H' ∧ σ[0]? = some (some (.ref p)) ∧ σ.length = 3) ⟨same_rfl, rfl, rfl⟩ (fun i σ H' _ h => SqT.ext hp h.1) ?_ ?_⟩
    · rintro i v σ H1 H' hi ⟨s1, h0, hl⟩ ⟨T1, x, y, rfl, hT, rfl, e1, e2⟩
      obtain ⟨a, t, rfl, ha, hti, dx, hta⟩ := ht.at e2
      have s2 : Same H (upd H1 T1 (.tup [x, .ref a])) := same_new s1 hT
      refine ⟨T1, _, rfl, SqT.of upd_same, rfl, _, _, rfl, _, _, rfl, rfl, ?_⟩
      have hl2 : ((σ.set 1 (some x)).set 2 (some (V.ref a)))[2]? = some (some (V.ref a)) := by
        rw [List.getElem?_set_self]
        rw [List.length_set, hl]
        decide
      refine ⟨_, hl2, _, _, _, _, true, rfl, .own _, isi_ok T (isT T t) (trT T t).c (s2 _ _ hta), (isT T t).k1, _, rfl, ?_⟩
      refine ⟨s2, ?_, ?_⟩
      · rw [List.getElem?_set_ne (by decide), List.getElem?_set_ne (by decide)]
        exact h0
      · rw [List.length_set, List.length_set]
        exact hl
    · rintro σ H' ⟨s1, _⟩
      exact k _ s1
end
end N1
set_option maxHeartbeats 1000000
namespace N1
open PySem PySem.Spec PyProof.Rows L2
/-- start and goal of the i-th -/
def sg (ts : List TR) (i : Nat) : List Str := match ts[i]? with
  | some t => [t.start, t.goal]
  | none => []
theorem sg_all (ts : List TR) : (List.range ts.length).flatMap (fun i => (sg ts i).map V.str) = (ts.flatMap fun t => [t.start, t.goal]).map V.str := by
  have : ∀ n, n ≤ ts.length → (List.range n).flatMap (fun i => (sg ts i).map V.str) = ((ts.take n).flatMap fun t => [t.start, t.goal]).map V.str := by
    intro n
    induction n with
    | zero => intro _; rfl
    | succ n ih =>
      intro h
      have hn : n < ts.length := by omega
      rw [List.range_succ, List.flatMap_append, ih (by omega), List.take_succ_eq_append_getElem hn, List.flatMap_append, List.map_append]
      congr 1
      unfold sg
      simp [hn]
  have := this ts.length (Nat.le_refl _)
  rwa [List.take_length] at this
section
variable {P : Program} {w : World} {K : PySem.W.Frag} {mg : Str → Option Value} {base : Heap}
theorem ok_places_of (T : FX P K mg) : FnR P w K mg base CX0 1 (ga K "places_of") (spPlaces K) := by
  refine fnr T.f_places_of sc_places_of (fun _ _ _ _ _ _ us hl => match us, hl with | [_], _ => rfl) (fun vs H Q E h => ?_) (fun cdv A outer s H vs Q E hr h => ?_)
  · obtain ⟨p, as, ts, rfl, _⟩ := h
    rfl
  · obtain ⟨p, as, ts, rfl, hp, ht, h100, k⟩ := h
    have nd := sc_places_of.nd
    refine ⟨_, pss_one (ps_ret (cb "sorted" T (cr_sortedSetS rfl) (pa_cons (ct "set" T (cr_setOfS rfl) (pa_cons
      (pe_lc2 (own := [("trip", 1), ("place", 2)]) (vs1 := [2]) (g := gName 1) (tt := tYes) (wi1 := iTup K (tTup (tCons (tFld K (tVar 1) "start") (tCons (tFld K (tVar 1) "goal") tNil)))) (g1 := gName 2) (tt1 := tYes) rfl nd (pi_tup (pv 0)) (blkOk_by (N := ["trips", "trip", "place"]) (sc := defScope d_places_of) (by decide +kernel)) (by decide)
        (fun _ _ _ _ _ => pg_name (i := 1) nd rfl (Or.inl rfl)) (fun _ _ _ _ _ => pts_nil) (fun _ _ _ _ _ => pi_tup (pe_tup (pa_cons (pe_fld (pv 1) rfl) (pa_cons (pe_fld (pv 1) rfl) pa_nil)))) (fun _ _ _ _ _ => pg_name (i := 2) nd rfl (Or.inl rfl)) (fun _ _ _ _ _ => pts_nil)
        (fun _ _ _ _ _ => ct "str" T SkE.call_str_str (pa_cons (pv 2) pa_nil))) pa_nil)) pa_nil))), ?_⟩
    refine ⟨_, rfl, p, rfl, ⟨_, hp⟩, fun D hD => lc2_f walk_tup (fun i => (sg ts i).map V.str) hD (fun H' s => SqT.ext hp s) ?_ ?_⟩
    · rintro i x H1 H' acc Nx hi s1 hL ea ⟨rfl, hx⟩ hNx
      obtain ⟨a, t, rfl, ha, hti, dx, hta⟩ := ht.at hx
      have hta := s1 _ _ hta
      have c := trT T t
      have es : sg ts i = [t.start, t.goal] := by unfold sg; rw [hti]
      refine ⟨rfl, _, rfl, a, _, dx, _, _, rfl, hta, c.c, c.n2, lk_start t, _, rfl, a, _, dx, _, _, rfl, hta, c.c, c.n5, lk_goal t, (by show 2 ≤ sizeLine; decide), fun p2 hp2 => ⟨p2, rfl, ⟨_, SqT.of upd_same⟩, ?_⟩⟩
      have hDp : D ≠ p2 := fun z => by rw [z, hp2] at hL; cases hL
      have hlen : acc.length < 1000 := by
        rw [ea]
        have : ∀ n, ((List.range n).flatMap fun i => (sg ts i).map V.str).length ≤ 2 * n := by
          intro n
          induction n with
          | zero => simp
          | succ n ih =>
            have h2 : ((sg ts n).map V.str).length ≤ 2 := by
              unfold sg
              split <;> simp
            have e1 : [n].flatMap (fun i => (sg ts i).map V.str) = (sg ts n).map V.str := by simp
            rw [List.range_succ, List.flatMap_append, List.length_append, e1]
            omega
        have := this i
        rw [List.length_map, ht.1] at hi
        omega
      refine in_it (walk_tup (K := K) (a := p2) (xs := [V.str t.start, V.str t.goal])) (fun j H2 => Same H H2 ∧ H2 p2 = some (.tup [.str t.start, .str t.goal]) ∧ H2 D = some (.lst (acc ++ ([V.str t.start, .str t.goal].take j)))) ⟨same_new s1 hp2, upd_same, by rw [upd_ne hDp, hL]; simp⟩ (fun j H _ h => SqT.of h.2.1) _ ?_ ?_
      · rintro j y H2 H3 hj ⟨s2, h2, h3⟩ ⟨rfl, hy⟩
        obtain ⟨z, ez⟩ : ∃ z : Str, y = .str z := by
          match j, hy with
          | 0, hy => exact ⟨_, (Option.some.inj hy).symm⟩
          | 1, hy => exact ⟨_, (Option.some.inj hy).symm⟩
        subst ez
        refine ⟨rfl, _, rfl, z, rfl, _, h3, ?_, same_at s2 hD, ?_, ?_⟩
        · rw [List.length_append, sizeLine_eq]
          have : (([V.str t.start, V.str t.goal] : List V).take j).length ≤ 2 := by
            rw [List.length_take]
            exact Nat.min_le_right _ _
          omega
        · rw [upd_ne (Ne.symm hDp)]
          exact h2
        · rw [upd_same, List.append_assoc]
          congr 3
          have hj2 : j < ([V.str t.start, V.str t.goal] : List V).length := hj
          rw [List.take_succ_eq_append_getElem hj2]
          congr 1
          rw [List.getElem?_eq_getElem hj2] at hy
          rw [Option.some.inj hy]
      · rintro H2 ⟨s2, h2, h3⟩
        refine hNx H2 s2 ?_
        rw [h3, es]
        rfl
    · intro H' s1 hL
      rw [List.length_map, ht.1, sg_all] at hL
      have hlen : (ts.flatMap fun t => [t.start, t.goal]).length ≤ 200 := by
        have : ∀ l : List TR, (l.flatMap fun t => [t.start, t.goal]).length = 2 * l.length := by
          intro l
          induction l with
          | nil => rfl
          | cons t l ih =>
            rw [List.flatMap_cons, List.length_append, ih, List.length_cons]
            simp
            omega
        rw [this]
        omega
      refine ⟨D, _, rfl, SqL.of hL, by omega, fun p3 n hn hp3 => ?_⟩
      refine ⟨p3, _, n, rfl, upd_same, by omega, fun ns q hs hnd hm hl hq => ?_⟩
      have hq1 : H' q = none := by
        rw [upd_ne (fun z => by rw [z, upd_same] at hq; cases hq)] at hq
        exact hq
      refine k _ q ns (same_new (same_new s1 hp3) hq) ?_ upd_same ⟨hs, hnd, fun kk => ?_⟩
      · cases e : H q with
        | none => rfl
        | some o => rw [s1 _ _ e] at hq1; cases hq1
      · rw [hm kk, List.any_eq_true]
        constructor
        · rintro ⟨x, hx, e⟩
          obtain ⟨t, htm, hxt⟩ := List.mem_flatMap.mp hx
          have e : x = kk := by simpa using e
          subst e
          refine ⟨t, htm, ?_⟩
          simpa using hxt
        · rintro ⟨t, htm, hxt⟩
          exact ⟨kk, List.mem_flatMap.mpr ⟨t, htm, by simpa using hxt⟩, by simp⟩
end
end N1
set_option maxHeartbeats 1000000
namespace N1
open PySem PySem.Spec PyProof.Rows L2
theorem gName_ap {i : Nat} {v : V} {σ : L2.St} {H : Hp} {Q : L2.St → Hp → Prop} : gName i v σ H Q = Q (σ.set i (some v)) H := rfl
theorem len_le_of_sub {α : Type} [DecidableEq α] : ∀ {ys L : List α}, ys.Nodup → (∀ y ∈ ys, y ∈ L) → ys.length ≤ L.length
  | [], _, _, _ => Nat.zero_le _
  | y :: ys, L, h, hs => by
    obtain ⟨h1, h2⟩ := List.nodup_cons.mp h
    have hy := hs y List.mem_cons_self
    have := len_le_of_sub (ys := ys) (L := L.erase y) h2 fun z hz => (List.mem_erase_of_ne (fun e => h1 (by rw [← e]; exact hz))).mpr (hs z (List.mem_cons_of_mem _ hz))
    rw [List.length_erase_of_mem hy] at this
    have : 0 < L.length := List.length_pos_of_mem hy
    simp only [List.length_cons]
    omega
/-- the i-th trip's place if c holds of it -/
def pk (as : List Addr) (ts : List TR) (c : TR → Bool) (i : Nat) : Option V := match as[i]?, ts[i]? with
  | some a, some t => if c t = true then some (.ref a) else none
  | _, _ => none
theorem pk_len {as : List Addr} {ts : List TR} {c : TR → Bool} (h : as.length = ts.length) : ((List.range as.length).filterMap (pk as ts c)).length = (ts.filter c).length := by
  have : ∀ n, n ≤ ts.length → ((List.range n).filterMap (pk as ts c)).length = ((ts.take n).filter c).length := by
    intro n
    induction n with
    | zero => intro _; rfl
    | succ n ih =>
      intro hn
      have hn1 : n < ts.length := by omega
      have hn2 : n < as.length := by omega
      have e1 : pk as ts c n = if c ts[n] = true then some (.ref as[n]) else none := by
        unfold pk
        rw [List.getElem?_eq_getElem hn1, List.getElem?_eq_getElem hn2]
      rw [List.range_succ, List.filterMap_append, List.length_append, ih (by omega), List.take_succ_eq_append_getElem hn1, List.filter_append, List.length_append]
      congr 1
      by_cases hc : c ts[n] = true
      · simp [e1, hc]
      · simp [e1, hc]
  have := this ts.length (Nat.le_refl _)
  rw [List.take_length] at this
  rw [h]
  exact this
def Bal (ts : List TR) : Prop := ∀ p : Str, (ts.filter fun t => decide (t.goal = p)).length = (ts.filter fun t => decide (t.start = p)).length
def spUnb (K : PySem.W.Frag) : Sp := fun vs H Q _ => ∃ (p : Addr) (as : List Addr) (ts : List TR), vs = [.ref p] ∧ SqT K H p (as.map V.ref) ∧ Trs K H as ts ∧ ts.length ≤ 100 ∧ Bal ts ∧ ∀ H', Same H H' → Q .non H'
/-- few places -/
def Few (ts : List TR) : Prop := ∃ L : List Str, L.length ≤ 8 ∧ ∀ t ∈ ts, t.start ∈ L ∧ t.goal ∈ L
def spFew (K : PySem.W.Frag) : Sp := fun vs H Q _ => ∃ (d p : Addr) (n : Int) (as : List Addr) (ts : List TR), vs = [.ref d, .ref p] ∧ DayAt K H d n ∧ SqT K H p (as.map V.ref) ∧ Trs K H as ts ∧ ts.length ≤ 40 ∧ (∀ t ∈ ts, t.leaves < n) ∧ Few ts ∧ ∀ H', Same H H' → Q .non H'
section
variable {P : Program} {w : World} {K : PySem.W.Frag} {mg : Str → Option Value} {base : Heap}
theorem ok_unbalanced (T : FX P K mg) : FnR P w K mg base CX0 2 (ga K "unbalanced") (spUnb K) := by
  refine fnr T.f_unbalanced sc_unbalanced (fun _ _ _ _ _ _ us hl => match us, hl with | [_], _ => rfl) (fun vs H Q E h => ?_) (fun cdv A outer s H vs Q E hr h => ?_)
  · obtain ⟨p, as, ts, rfl, _⟩ := h
    rfl
  · obtain ⟨p, as, ts, rfl, hp, ht, h100, hb, k⟩ := h
    have nd := sc_unbalanced.nd
    refine ⟨_, pss_cons (ps_for PassesOwn.never rfl (pi_list (cl "places_of" T (ok_places_of T) hr (pa_cons (pv 0) pa_nil))) (pg_name (i := 1) nd rfl (Or.inr rfl))
        (pss_cons (ps_set (i := 3) nd rfl (Or.inl rfl) (cb "len" T call_len (pa_cons (pe_lc (own := [("trip", 2)]) (g := gName 2) (tt := tTest (tOp rEq (tFld K (tVar 2) "goal") (tVar 1))) (te := tVar 2) rfl nd (pi_tup (pv 0)) (blkOk_by (N := ["trips", "place", "trip", "ends"]) (sc := defScope d_unbalanced) (by decide +kernel))
            (fun _ _ _ _ _ => pg_name (i := 2) nd rfl (Or.inl rfl)) (fun _ _ _ _ _ => pts_one (pt_cmpR op_eq (pe_fld (pv 2) rfl) (pv 1) (nomark _))) (fun _ _ _ _ _ => pv 2)) pa_nil)))
        (pss_one (ps_if (pt_cmpR op_ne (pv 3) (cb "len" T call_len (pa_cons (pe_lc (own := [("trip", 2)]) (g := gName 2) (tt := tTest (tOp rEq (tFld K (tVar 2) "start") (tVar 1))) (te := tVar 2) rfl nd (pi_tup (pv 0)) (blkOk_by (N := ["trips", "place", "trip", "ends"]) (sc := defScope d_unbalanced) (by decide +kernel))
            (fun _ _ _ _ _ => pg_name (i := 2) nd rfl (Or.inl rfl)) (fun _ _ _ _ _ => pts_one (pt_cmpR op_eq (pe_fld (pv 2) rfl) (pv 1) (nomark _))) (fun _ _ _ _ _ => pv 2)) pa_nil)) (nomark _)) pss_never pss_nil))))
      (pss_one (ps_ret pe_non)), ?_⟩
    refine ⟨_, rfl, p, as, ts, rfl, hp, ht, h100, fun H1 q ys s1 hq hq1 hys => ⟨q, rfl, ⟨_, SqL.of hq1⟩, ?_⟩⟩
    refine for_it (walk_list (K := K) (a := q) (xs := ys.map V.str)) (fun i σ H' => Same H1 H' ∧ ∃ a b c, σ = [some (.ref p), a, b, c]) ⟨same_rfl, _, _, _, rfl⟩ (fun i σ H' _ h => SqL.of (h.1 _ _ hq1)) ?_ ?_
    · rintro i v σ H2 H3 hi ⟨s2, x1, x2, x3, rfl⟩ ⟨rfl, hv⟩
      obtain ⟨y, rfl⟩ : ∃ y : Str, v = .str y := by
        rw [List.getElem?_map] at hv
        cases e : ys[i]? with
        | none => rw [e] at hv; cases hv
        | some y => rw [e] at hv; exact ⟨y, (Option.some.inj hv).symm⟩
      have s3 : Same H H3 := same_tr s1 s2
      -- one list
      have turn : ∀ (fl : Str) (c : TR → Bool) (hfl : ∀ t, (tfs t).lookup fl = some (.str (if fl = "goal" then t.goal else t.start))) (hc : ∀ t, c t = decide ((if fl = "goal" then t.goal else t.start) = y)) (hna : ∀ t, NoAttr K (cTR K t) fl)
          (σ : L2.St) (Ha : Hp) (Qv : VK), Same H Ha → σ[0]? = some (some (.ref p)) → σ[1]? = some (some (.str y)) → σ.length = 4 → (∀ D H', Same Ha H' → H' D = some (.lst ((List.range as.length).filterMap (pk as ts c))) → Qv (.ref D) H') →
          tLc (iTup K (tVar 0)) (gName 2) (tTest (tOp rEq (tFld K (tVar 2) fl) (tVar 1))) (tVar 2) [2] σ Ha Qv := by
        intro fl c hfl hc hna σ Ha Qv sa h0 h1 hl hQ
        refine ⟨_, h0, p, rfl, ⟨_, SqT.ext hp sa⟩, fun D hD => lc_f walk_tup (pk as ts c) hD (by rw [List.length_map, ht.1]; omega) (fun H' s => SqT.ext hp (same_tr sa s)) ?_ ?_⟩
        · rintro j x Hb Hc kk k0 hj sb ⟨rfl, hx⟩ h2 h3
          obtain ⟨a, t, rfl, ha, htj, dx, hta⟩ := ht.at hx
          have hta := same_tr sa sb _ _ hta
          have hpk : pk as ts c j = if c t = true then some (.ref a) else none := by unfold pk; rw [ha, htj]
          have hw2 : ((wipe σ [2]).set 2 (some (V.ref a)))[2]? = some (some (V.ref a)) := by
            rw [List.getElem?_set_self]
            rw [wipe_length, hl]
            decide
          have hw1 : ((wipe σ [2]).set 2 (some (V.ref a)))[1]? = some (some (.str y)) := by
            rw [List.getElem?_set_ne (by decide), wipe_out (by decide)]
            exact h1
          refine ⟨?_, _, hw2, a, _, dx, _, _, rfl, hta, (trT T t).c, hna t, hfl t, _, hw1, rfl, _, rfl, ?_⟩
          · show wipe ((wipe σ [2]).set 2 _) [2] = wipe σ [2]
            show ((σ.set 2 none).set 2 _).set 2 none = σ.set 2 none
            rw [List.set_set, List.set_set]
          · have e : decide (V.str (if fl = "goal" then t.goal else t.start) = V.str y) = c t := by rw [hc]; simp
            rw [e]
            cases hct : c t
            · exact h3 (by rw [hpk, hct]; rfl) _ same_rfl
            · exact ⟨_, hw2, h2 _ _ (by rw [hpk, hct]; rfl) same_rfl⟩
        · intro H' sb hL
          rw [List.length_map] at hL
          exact hQ D H' sb hL
      rw [gName_ap]
      dsimp only [tSeq, tAsg, tCB, tCons, List.set]
      refine turn "goal" (fun t => decide (t.goal = y)) (fun t => lk_goal t) (fun t => rfl) (fun t => (trT T t).n5) [some (.ref p), some (.str y), x2, x3] _ _ s3 rfl rfl rfl fun D1 H4 s4 hD1 => ?_
      refine ⟨_, _, rfl, .inl ⟨_, SqL.of hD1, rfl⟩, ?_⟩
      refine ⟨_, rfl, ?_⟩
      dsimp only [tCB, tCons, List.set]
      refine turn "start" (fun t => decide (t.start = y)) (fun t => lk_start t) (fun t => rfl) (fun t => (trT T t).n2) [some (.ref p), some (.str y), x2, some (.int _)] _ _ (same_tr s3 s4) rfl rfl rfl fun D2 H5 s5 hD2 => ?_
      refine ⟨_, _, rfl, .inl ⟨_, SqL.of hD2, rfl⟩, rfl, _, rfl, ?_⟩
      have e : (!decide (V.int (((List.range as.length).filterMap (pk as ts fun t => decide (t.goal = y))).length : Int) = V.int (((List.range as.length).filterMap (pk as ts fun t => decide (t.start = y))).length : Int))) = false := by
        rw [pk_len ht.1, pk_len ht.1, hb y]
        simp
      rw [e]
      exact ⟨same_tr s2 (same_tr s4 s5), _, _, _, rfl⟩
    · rintro σ H' ⟨s2, _⟩
      exact k _ (same_tr s1 s2)
theorem ok_need_few (T : FX P K mg) : FnR P w K mg base CX0 2 (ga K "need_few") (spFew K) := by
  refine fnr T.f_need_few sc_need_few (fun _ _ _ _ _ _ us hl => match us, hl with | [_, _], _ => rfl) (fun vs H Q E h => ?_) (fun cdv A outer s H vs Q E hr h => ?_)
  · obtain ⟨d, p, n, as, ts, rfl, _⟩ := h
    rfl
  · obtain ⟨d, p, n, as, ts, rfl, ⟨dd, hd⟩, hp, ht, h40, hlv, ⟨L, hL8, hLm⟩, k⟩ := h
    have nd := sc_need_few.nd
    have cD := T.cls "Day" (by decide +kernel)
    have nL := T.noat ("Day", "length") (by decide +kernel)
    refine ⟨_, pss_cons (ps_if (pt_cmpR op_gt (cb "len" T call_len (pa_cons (pv 1) pa_nil)) (gi "MOST_TRIPS_tables" 40 T) (nomark _)) pss_never pss_nil)
      (pss_cons (ps_set (i := 3) nd rfl (Or.inl rfl) (cb "sorted" T cr_sortedS (pa_cons (pe_lc (own := [("trip", 2)]) (g := gName 2) (tt := tTest (tOp (rI0 fun i j => .bl (decide (j ≤ i))) (tFld K (tVar 2) "leaves") (tFld K (tVar 0) "length"))) (te := tCB (fun xs H Q => ∃ a, xs = [.str a] ∧ Q (.str a) H) (tCons (tFld K (tVar 2) "name") tNil)) rfl nd (pi_tup (pv 1)) (blkOk_by (N := ["day", "trips", "trip", "late"]) (sc := defScope d_need_few) (by decide +kernel))
          (fun _ _ _ _ _ => pg_name (i := 2) nd rfl (Or.inl rfl)) (fun _ _ _ _ _ => pts_one (pt_cmpR op_ge (pe_fld (pv 2) rfl) (pe_fld (pv 0) rfl) (nomark _))) (fun _ _ _ _ _ => ct "str" T SkE.call_str_str (pa_cons (pe_fld (pv 2) rfl) pa_nil))) pa_nil)))
      (pss_cons (ps_if (pt_cmpR op_gt (cb "len" T call_len (pa_cons (pv 3) pa_nil)) pe_int (nomark _)) pss_never pss_nil)
      (pss_one (ps_if (pt_cmpR op_gt (cb "len" T call_len (pa_cons (cl "places_of" T (ok_places_of T) hr (pa_cons (pv 1) pa_nil)) pa_nil)) (gi "MOST_PLACES" 8 T) (nomark _)) pss_never pss_nil)))), ?_⟩
    have hal : (as.map V.ref).length ≤ 40 := by rw [List.length_map, ht.1]; exact h40
    refine ⟨_, rfl, _, _, rfl, .inr ⟨_, hp, rfl⟩, _, _, rfl, rfl, _, rfl, ?_⟩
    have e1 : decide ((40 : Int) < ((as.map V.ref).length : Int)) = false := by simp only [decide_eq_false_iff_not]; omega
    rw [e1]
    refine ⟨_, rfl, p, rfl, ⟨_, hp⟩, fun D hD => lc_f walk_tup (fun _ => none) hD (by omega) (fun H' s => SqT.ext hp s) ?_ ?_⟩
    · rintro j x Hb Hc kk k0 hj sb ⟨rfl, hx⟩ h2 h3
      obtain ⟨a, t, rfl, ha, htj, dx, hta⟩ := ht.at hx
      have hta := sb _ _ hta
      refine ⟨rfl, _, rfl, a, _, dx, _, _, rfl, hta, (trT T t).c, (trT T t).n3, lk_leaves t, _, rfl, d, _, dd, _, _, rfl, sb _ _ hd, cD, nL, rfl, _, _, rfl, rfl, _, rfl, ?_⟩
      have htm : t ∈ ts := List.mem_of_getElem? htj
      have e2 : decide (n ≤ t.leaves) = false := by
        have := hlv t htm
        simp only [decide_eq_false_iff_not]
        omega
      rw [e2]
      exact h3 rfl _ same_rfl
    · intro H1 s1 hLD
      have e0 : (List.range (as.map V.ref).length).filterMap (fun _ : Nat => (none : Option V)) = [] := by simp
      rw [e0] at hLD
      refine ⟨D, [], rfl, SqL.of hLD, by decide, fun ys q hys _ hq => ?_⟩
      obtain rfl : ys = [] := List.Perm.eq_nil hys
      refine ⟨_, rfl, _, _, rfl, .inl ⟨_, SqL.of upd_same, rfl⟩, _, _, rfl, rfl, _, rfl, ?_⟩
      have e3 : decide ((0 : Int) < (([] : List V).length : Int)) = false := by decide
      have s2 : Same H (upd H1 q (.lst [])) := same_new s1 hq
      refine ⟨_, rfl, p, as, ts, rfl, SqT.ext hp s2, ht.up s2, by omega, fun H3 q3 ys3 s3 hq3 hys3 hpl => ?_⟩
      refine ⟨_, _, rfl, .inl ⟨_, SqL.of hys3, rfl⟩, _, _, rfl, rfl, _, rfl, ?_⟩
      have hl8 : ys3.length ≤ 8 := by
        have := len_le_of_sub hpl.2.1 (L := L) fun y hy => by
          obtain ⟨t, htm, e⟩ := (hpl.2.2 y).mp hy
          rcases e with e | e
          · rw [e]; exact (hLm t htm).1
          · rw [e]; exact (hLm t htm).2
        omega
      have e4 : decide ((8 : Int) < ((ys3.map V.str).length : Int)) = false := by
        rw [List.length_map]
        simp only [decide_eq_false_iff_not]
        omega
      rw [e4]
      exact k _ (same_tr s2 s3)
end
end N1
set_option maxHeartbeats 1000000
namespace N1
open PySem PySem.Spec PyProof.Rows L2
section
variable {P : Program} {w : World} {K : PySem.W.Frag} {mg : Str → Option Value} {base : Heap}
/-- def f(a, b, *v) -/
theorem fnrStar {x qual : Str} {st : Stmt} {f : Addr} {N : List Str} {p1 p2 pv : Str} {k : Nat} {sp : Sp} (F : IsDef K f x qual st []) (S : FnScope N [p1, p2, pv] (defScope st))
    (h0 : ∀ (kV doc pm : Value) (an : Option Addr) (cdv ct : Value) (a b : Value), bindArgs (PySem.W.fnOf x qual (defArgs st) (defBody st) (defScope st) .none kV doc pm an cdv ct) ⟨[a, b], []⟩ = (newTuple [] >>= fun t => pure [(p1, a), (p2, b), (pv, t)]))
    (h1 : ∀ (kV doc pm : Value) (an : Option Addr) (cdv ct : Value) (a b r : Value) (rs : List Value), bindArgs (PySem.W.fnOf x qual (defArgs st) (defBody st) (defScope st) .none kV doc pm an cdv ct) ⟨a :: b :: r :: rs, []⟩ = (newTuple (r :: rs) >>= fun t => pure [(p1, a), (p2, b), (pv, t)]))
    (hbody : ∀ (cdv : Value) (A : Around) (outer : List Env) (s : Shared) (H : Hp) (vs : List V) (Q : VK) (E : XK), Room k (A.deeper (envOfC qual (defScope st) s.heap.objs.size f cdv)) → sp vs H Q E →
      ∃ t, PSs (cxOf CX0 P w K mg base N qual (defScope st) f cdv A outer s H E).nox (defBody st) t ∧ t { nx := fun _ H' => Q .non H', rt := Q } (start N vs) H) :
    FnR P w K mg base CX0 (k + 1) f (fun vs H Q E => ∃ a b rest, vs = a :: b :: rest ∧ rest.length ≤ sizeLine ∧ ∀ p, H p = none → sp [a, b, .ref p] (upd H p (.tup rest)) Q E) := by
  obtain ⟨fd, F⟩ := F
  obtain ⟨oc, od, dV, kV, doc, pm, an, cdv, ct, osl, rfl, lk, hcd, hD, hK⟩ := F.ex
  rcases hD with ⟨_, rfl⟩ | ⟨e, _⟩
  · have z := StX.fn_star (P := P) (w := w) (mg := mg) (base := base) (CX := CX0) (k := k) (ps := [p1, p2]) (sp := sp) lk hcd S StX.cxUp_none (StX.bind_star2 (B := fun us => bindArgs (PySem.W.fnOf x qual (defArgs st) (defBody st) (defScope st) .none kV doc pm an cdv ct) ⟨us, []⟩) (h0 kV doc pm an cdv ct) (h1 kV doc pm an cdv ct))
      (fun A outer s H vs Q E hr h => (let ⟨t, h1, h2⟩ := hbody cdv A outer s H vs Q E hr h; ⟨t, h1.nox, h2⟩))
    refine z.imp fun vs H Q E h => ?_
    obtain ⟨a, b, rest, rfl, hl, hq⟩ := h
    exact ⟨[a, b], rest, rfl, rfl, hl, hq⟩
  · exact absurd rfl e
end
theorem valV_of_get {kvs : List (Key × V)} (hn : (kvs.map (·.1)).Nodup) {j : Nat} {k : Key} {v : V} (h : kvs[j]? = some (k, v)) : valV kvs k = some v := by
  induction kvs generalizing j with
  | nil => simp at h
  | cons p r ih =>
    have hn2 := List.nodup_cons.mp (show (p.1 :: r.map (·.1)).Nodup from hn)
    cases j with
    | zero =>
      have : p = (k, v) := by simpa using h
      subst this
      exact valV_pos rfl
    | succ j =>
      have h' : r[j]? = some (k, v) := by simpa using h
      have : ¬ p.1 = k := fun e => hn2.1 (by rw [e]; exact List.mem_map.mpr ⟨(k, v), List.mem_of_getElem? h', rfl⟩)
      rw [valV_neg this]
      exact ih hn2.2 h'
/-- a name's place -/
theorem name_at {ts : List TR} {n : Str} (h : n ∈ names ts) : ∃ (j : Nat) (t : TR), ts[j]? = some t ∧ t.name = n := by
  obtain ⟨t, ht, e⟩ := List.mem_map.mp h
  obtain ⟨j, hj, e2⟩ := List.getElem_of_mem ht
  exact ⟨j, t, by rw [List.getElem?_eq_getElem hj, e2], e⟩
/-- name ↦ a list of the one trip -/
def byN (ts : List TR) (qs : List Addr) : List (Key × V) := List.zipWith (fun t q => ((Sum.inr t.name : Key), V.ref q)) ts qs
theorem byN_keys : ∀ {ts : List TR} {qs : List Addr}, ts.length = qs.length → (byN ts qs).map (·.1) = (names ts).map Sum.inr
  | [], [], _ => rfl
  | t :: ts, q :: qs, h => by
    show Sum.inr t.name :: (byN ts qs).map (·.1) = _
    rw [byN_keys (Nat.succ.inj h)]
    rfl
theorem byN_get {ts : List TR} {qs : List Addr} {j : Nat} {t : TR} {q : Addr} (h1 : ts[j]? = some t) (h2 : qs[j]? = some q) : (byN ts qs)[j]? = some (Sum.inr t.name, .ref q) := by
  unfold byN
  rw [List.getElem?_zipWith, h1, h2]
theorem inr_nodup {l : List Str} (h : l.Nodup) : (l.map (Sum.inr : Str → Key)).Nodup := List.Pairwise.map _ (fun a b hab e => hab (Sum.inr.inj e)) h
theorem byN_snoc {ts : List TR} {qs : List Addr} {t : TR} {q : Addr} (h : ts.length = qs.length) : byN (ts ++ [t]) (qs ++ [q]) = byN ts qs ++ [(Sum.inr t.name, .ref q)] := by
  unfold byN
  rw [List.zipWith_append h]
  rfl
/-- where the trip of a name stands -/
def adr : List Addr → List TR → Str → Option Addr
  | a :: as, t :: ts, n => if t.name = n then some a else adr as ts n
  | _, _, _ => none
theorem adr_lk : ∀ {as : List Addr} {ts : List TR} {n : Str}, as.length = ts.length → n ∈ names ts → ∃ (j : Nat) (a : Addr) (t : TR), adr as ts n = some a ∧ lk ts n = some t ∧ as[j]? = some a ∧ ts[j]? = some t
  | [], [], n, _, h => by cases h
  | a :: as, t :: ts, n, hl, h => by
    by_cases e : t.name = n
    · exact ⟨0, a, t, by simp [adr, e], by simp [lk, e], rfl, rfl⟩
    · have h' : n ∈ names ts := by
        rcases List.mem_cons.mp (show n ∈ t.name :: names ts from h) with z | z
        · exact absurd z.symm e
        · exact z
      obtain ⟨j, a', t', h1, h2, h3, h4⟩ := adr_lk (Nat.succ.inj hl) h'
      refine ⟨j + 1, a', t', by simp [adr, e, h1], ?_, h3, h4⟩
      unfold lk at h2 ⊢
      rw [List.find?_cons_of_neg (by simpa using e)]
      exact h2
/-- rs, us: some of as, ts -/
def Sel (as : List Addr) (ts : List TR) (rs : List Addr) (us : List TR) : Prop := rs.length = us.length ∧ ∀ (i : Nat) (a : Addr) (t : TR), rs[i]? = some a → us[i]? = some t → ∃ j : Nat, as[j]? = some a ∧ ts[j]? = some t
theorem Sel.trs {K : PySem.W.Frag} {G : Hp} {as rs : List Addr} {ts us : List TR} (h : Sel as ts rs us) (t : Trs K G as ts) : Trs K G rs us := ⟨h.1, fun i a u h1 h2 => (let ⟨j, e1, e2⟩ := h.2 i a u h1 h2; t.2 j a u e1 e2)⟩
theorem sel_fm {as : List Addr} {ts : List TR} (h : as.length = ts.length) : ∀ l : List Str, (∀ n ∈ l, n ∈ names ts) → Sel as ts (l.filterMap (adr as ts)) (l.filterMap (lk ts))
  | [], _ => ⟨rfl, fun i a t h => by simp at h⟩
  | n :: l, hl => by
    obtain ⟨j, a, t, h1, h2, h3, h4⟩ := adr_lk h (hl n List.mem_cons_self)
    have ih := sel_fm h l fun m hm => hl m (List.mem_cons_of_mem _ hm)
    rw [List.filterMap_cons_some h1, List.filterMap_cons_some h2]
    refine ⟨by simp [ih.1], fun i a' t' e1 e2 => ?_⟩
    cases i with
    | zero =>
      simp at e1 e2
      subst e1 e2
      exact ⟨j, h3, h4⟩
    | succ i =>
      simp at e1 e2
      exact ih.2 i _ _ e1 e2
theorem range_fm {α β : Type} (l : List α) (f : α → Option β) : (List.range l.length).filterMap (fun i : Nat => (l[i]?).bind f) = l.filterMap f := by
  have : ∀ n, n ≤ l.length → (List.range n).filterMap (fun i : Nat => (l[i]?).bind f) = (l.take n).filterMap f := by
    intro n
    induction n with
    | zero => intro _; rfl
    | succ n ih =>
      intro hn
      have h1 : n < l.length := by omega
      rw [List.range_succ, List.filterMap_append, ih (by omega), List.take_succ_eq_append_getElem h1, List.filterMap_append]
      congr 1
      cases e : f l[n] <;> simp [h1, e]
  have := this l.length (Nat.le_refl _)
  rwa [List.take_length] at this
theorem range_map_ {α β : Type} (l : List α) (f : α → β) : (List.range l.length).filterMap (fun i : Nat => (l[i]?).map f) = l.map f := by
  have := range_fm l fun a => some (f a)
  have e : (fun i : Nat => (l[i]?).map f) = fun i : Nat => (l[i]?).bind fun a => some (f a) := by
    funext i
    cases l[i]? <;> rfl
  rw [e, this]
  simp
theorem map_fm_ref (l : List Str) (g : Str → Option Addr) : l.filterMap (fun n => (g n).map V.ref) = (l.filterMap g).map V.ref := by
  induction l with
  | nil => rfl
  | cons n l ih =>
    cases e : g n with
    | none => simp [e, ih]
    | some a => simp [e, ih]
end N1
set_option maxHeartbeats 1000000
namespace N1
open PySem PySem.Spec PyProof.Rows L2
/-- a tuple that is known to have no attributes -/
def FT (G : Hp) (a : Addr) (xs : List V) : Prop := ∃ o : Obj, o.dict = none ∧ G a = some (.frz o (.tup xs))
theorem FT.seq {K : PySem.W.Frag} {G : Hp} {a : Addr} {xs : List V} (h : FT G a xs) : SqT K G a xs := let ⟨o, _, e⟩ := h; .inl (.inr ⟨o, e⟩)
theorem FT.up {G G' : Hp} {a : Addr} {xs : List V} (s : Same G G') (h : FT G a xs) : FT G' a xs := let ⟨o, d, e⟩ := h; ⟨o, d, s _ _ e⟩
section
variable {X : Cx} {pins : List (Addr × Obj)} {σ : L2.St} {H : Hp} {s : Shared}
/-- tuple(xs) -/
def rTupF (K : PySem.W.Frag) : List V → Hp → VK → Prop := fun xs H Q => ∃ p ys, xs = [.ref p] ∧ SqL K H p ys ∧ ∀ (l : Addr) (o : Obj), o.dict = none → H l = none → Q (.ref l) (upd H l (.frz o (.tup ys)))
theorem call_tupleF : CallR X (.type "tuple") (rTupF X.K) := by
  intro pins s σ H xs us Q I r h
  obtain ⟨p, ys, rfl, hq, q⟩ := h
  obtain ⟨u, rfl, rx⟩ := vals1 r
  cases rx
  obtain ⟨its, r', pl, hz⟩ := I.list hq
  have hlen := r'.length
  refine call_tuple_list pl.isList (fun h' kp => ?_) (by simp only [List.size_toArray] <;> omega)
  have I1 : Inv X pins σ H { s with heap := h' } := I.kept (t' := s.toks) kp
  have I2 : Inv X pins σ (upd H h'.objs.size (.frz { cls := .type "tuple", data := .seq its.toArray } (.tup ys))) { s with heap := h'.push { cls := .type "tuple", data := .seq its.toArray } } :=
    I1.laid (t' := s.toks) (fun b o e => Heap.get?_push_of_some _ e) (Nat.le_refl _) (show ObjOk X.prog X.w _ _ _ (.frz _ (.tup ys)) from ⟨Heap.get?_push_size _ rfl, hz, its, r', IsTup.new _ _⟩)
  exact ⟨.ref h'.objs.size, _, I2, rfl, q _ _ rfl (I1.hok.fresh (Nat.le_refl _))⟩
/-- t.m(e ..), t such a tuple -/
def tBMF (r : V → List V → Hp → VK → Prop) (to : TE) (t : TA) : TE := fun σ H Q => to σ H fun x H1 => (∃ p ys, x = .ref p ∧ FT H1 p ys) ∧ t σ H1 fun xs H2 => r x xs H2 Q
theorem pe_bmF {o e : Expr} {es : List Expr} {to : TE} {t : TA} {apos cpos : Pos} {name : Str} {id : String} {r : V → List V → Hp → VK → Prop} (pa : PlainAttrs "tuple") (slot : Slot "tuple" name id) (hty : typeOf (.builtin id) = pure (.type "method_descriptor")) (hm : MtR X id r) (ho : PE X o to) (ha : PA X (e :: es) t)
    (hbase : attributeBase o name X.env (eval o X.env) = eval o X.env := by rfl)
    (hfew : ((backTo cpos (starEach (e :: es) X.env)).all (fun x => !x.1) && (backToKw cpos (keywordEach [] X.env)).all (fun x => x.1.isSome)
      && decide ((e :: es).length + ([] : List Keyword).length + (if ([] : List Keyword).isEmpty then 0 else 1) < 30)) = true := by rfl)
    (hline : (apos.endLine == cpos.line) = true := by rfl) (hs : starEach (e :: es) X.env = (false, eval e X.env) :: starEach es X.env := by rfl) (hplain : (backTo cpos (starEach es X.env)).any (·.1) = false := by rfl) :
    PE X (.Call (.Attribute o name apos) (e :: es) [] cpos) (tBMF r to t) := by
  refine ⟨fun pins s σ H Q I h => ?_⟩
  refine wpAny_Call_method_late hbase hfew hline rfl (thn (ho.run pins s σ H _ I h) fun v s1 ⟨x, H1, I1, r1, ⟨p, ys, ex, ob, hd, hf⟩, q1⟩ => ?_)
  subst ex
  obtain rfl : v = Value.ref p := r1
  obtain ⟨hg, _, its, rv, hT⟩ := (show ObjOk X.prog X.w H1 s1.heap p (.frz ob (.tup ys)) from I1.hok p _ hf)
  obtain ⟨o2, h2, c2, _⟩ := hT
  rw [hg] at h2
  cases h2
  refine ⟨"tuple", id, pa, slot, hty, ⟨ob, hg, c2⟩, fun a e => ?_, ?_⟩
  · cases e
    exact ⟨ob, hg, hd⟩
  have hA := ha.run cpos pins s1 σ H1 _ I1 q1
  rw [hs] at hA ⊢
  refine Calls.callWith_builtin (by show (false || (backTo cpos (starEach es X.env)).any (·.1)) = false; rw [hplain] <;> rfl) (Calls.evalArgs_plain ?_)
  exact thn hA fun us s2 ⟨vs, H2, I2, r2, q2⟩ => hm pins s2 σ H2 (.ref p) vs (.ref p) us Q I2 (show RelV (.ref p) (.ref p) from rfl) r2 q2
end
end N1
set_option maxHeartbeats 2000000
namespace N1
open PySem PySem.Spec PyProof.Rows L2
/-- a table can stand -/
structure TabOk (n : Int) (ts : List TR) : Prop where
  nd : (names ts).Nodup
  l40 : ts.length ≤ 40
  lv : ∀ t ∈ ts, t.leaves < n
  few : Few ts
  bal : Bal ts
abbrev rLenK (K : PySem.W.Frag) : List V → Hp → VK → Prop := fun xs H Q => ∃ x n, xs = [x] ∧ LenV K x H n ∧ Q (.int n) H
abbrev rStr1 : List V → Hp → VK → Prop := fun xs H Q => ∃ a, xs = [.str a] ∧ Q (.str a) H
def tabF (d dn dp dr : Addr) : List (Str × V) := [("day", .ref d), ("names", .ref dn), ("places", .ref dp), ("rows", .ref dr)]
/-- what Table.__init__ has made of x -/
def TabMade (K : PySem.W.Frag) (H : Hp) (x dx d : Addr) (as : List Addr) (ts : List TR) (Q : Hp → Prop) : Prop := ∀ (H' : Hp) (dn dp dr : Addr) (rs : List Addr) (ys : List Str),
  (∀ b v, b ≠ x → H b = some v → H' b = some v) → H' x = some (.ins (cTab K) dx (tabF d dn dp dr)) → H dn = none → H dp = none → H dr = none → FT H' dn ((sn (names ts)).map V.str) → H' dp = some (.tup (ys.map V.str)) →
  H' dr = some (.tup (rs.map V.ref)) → Sel as ts rs (st ts) → Q H'
def spTabI (K : PySem.W.Frag) : Sp := fun vs H Q _ => ∃ (x dx d p : Addr) (n : Int) (as : List Addr) (ts : List TR), vs = [.ref x, .ref d, .ref p] ∧ H p = some (.tup (as.map V.ref)) ∧ Trs K H as ts ∧ DayAt K H d n ∧ TabOk n ts ∧ H x = some (.ins (cTab K) dx []) ∧ TabMade K H x dx d as ts (Q .non)
section
variable {P : Program} {w : World} {K : PySem.W.Frag} {mg : Str → Option Value} {base : Heap}
theorem ok_TableInit (T : FX P K mg) : FnR P w K mg base CX0 3 (ini K "Table") (fun vs H Q E => ∃ a b rest, vs = a :: b :: rest ∧ rest.length ≤ sizeLine ∧ ∀ p, H p = none → spTabI K [a, b, .ref p] (upd H p (.tup rest)) Q E) := by
  refine fnrStar T.f_TableInit sc_TableInit (fun _ _ _ _ _ _ _ _ => rfl) (fun _ _ _ _ _ _ _ _ _ _ => rfl) (fun cdv A outer s H vs Q E hr h => ?_)
  obtain ⟨x, dx, d, p, n, as, ts, rfl, hp, ht, ⟨dd, hd⟩, ok, hx, k⟩ := h
  have nd := sc_TableInit.nd
  have hu := hu_of hr
  have hr1 : Room 1 _ := hr.mono (by decide)
  have cT := T.cls "Table" (by decide +kernel)
  have cD := T.cls "Day" (by decide +kernel)
  refine ⟨_, pss_cons (ps_if (pt_not (pt_val (cb "isinstance" T call_isi (pa_cons (pv 1) (pa_cons (gc "Day" T) pa_nil))))) pss_never pss_nil)
    (pss_cons (ps_expr (cl "need_all_trips" T (ok_need_all_trips T) hr1 (pa_cons (pv 2) pa_nil)))
    (pss_cons (ps_set (i := 3) nd rfl (Or.inr rfl) pe_dnewK)
    (pss_cons (ps_for PassesOwn.never rfl (pi_tup (pv 2)) (pg_name (i := 4) nd rfl (Or.inl rfl)) (pss_one (ps_dput hu (pv 3) (pe_fld (pv 4) rfl) (pe_lst (StX.pa_star (pe_dget2 hu (pv 3) (pe_fld (pv 4) rfl) (pe_lst pa_nil) ⟨rfl, rfl, rfl, rfl⟩) (pa_cons (pv 4) pa_nil))) rfl)))
    (pss_cons (ps_set (i := 6) nd rfl (Or.inl rfl) (cb "sorted" T cr_sortedS (pa_cons (pe_lock (pe_lc (own := [("name", 5)]) (g := gName 5) (tt := tYes) (te := tCB rStr1 (tCons (tVar 5) tNil)) rfl nd (pi_keys (pv 3)) (blkOk_by (N := ["self", "day", "trips", "by_name", "trip", "name", "names", "twice", "place"]) (sc := defScope m_TableInit) (by decide +kernel))
        (fun _ _ _ _ _ => pg_name (i := 5) nd rfl (Or.inl rfl)) (fun _ _ _ _ _ => pts_nil) (fun _ _ _ _ _ => ct "str" T SkE.call_str_str (pa_cons (pv 5) pa_nil)))) pa_nil)))
    (pss_cons (ps_setLc (i := 7) (own := [("name", 5)]) (g := gName 5) (tt := tTest (tOp (rI0 fun i j => .bl (decide (j < i))) (tCB (rLenK K) (tCons (tDGet (tVar 3) (tVar 5)) tNil)) (tC (.int 1)))) (te := tVar 5) rfl nd rfl rfl (sw_true rfl rfl rfl (by decide +kernel)) (pi_list (pv 6)) (blkOk_by (N := ["self", "day", "trips", "by_name", "trip", "name", "names", "twice", "place"]) (sc := defScope m_TableInit) (by decide +kernel))
        (fun _ _ _ _ _ => pg_name (i := 5) nd rfl (Or.inl rfl)) (fun _ _ _ _ _ => pts_one (pt_cmpR op_gt (cb "len" T call_len (pa_cons (pe_dget hu (pv 3) (pv 5) (fun _ _ => rfl)) pa_nil)) pe_int (nomark _))) (fun _ _ _ _ _ => pv 5))
    (pss_cons (ps_if (pt_cmpR op_gt (cb "len" T call_len (pa_cons (pv 7) pa_nil)) pe_int (nomark _)) pss_never pss_nil)
    (pss_cons (ps_expr (cl "need_few" T (ok_need_few T) hr (pa_cons (pv 1) (pa_cons (pv 2) pa_nil))))
    (pss_cons (ps_set (i := 8) nd rfl (Or.inl rfl) (cl "unbalanced" T (ok_unbalanced T) hr (pa_cons (pv 2) pa_nil)))
    (pss_cons (ps_if (pt_cmp (pc_notN (pv 8))) pss_never pss_nil)
    (pss_cons (ps_fld (pv 0) (pv 1) rfl)
    (pss_cons (ps_fld (pv 0) (ct "tuple" T call_tupleF (pa_cons (pv 6) pa_nil)) rfl)
    (pss_cons (ps_fld (pv 0) (ct "tuple" T call_tuple_of (pa_cons (cl "places_of" T (ok_places_of T) hr1 (pa_cons (pv 2) pa_nil)) pa_nil)) rfl)
    (pss_one (ps_fld (pv 0) (ct "tuple" T call_tuple_of (pa_cons (pe_lc (own := [("name", 5)]) (g := gName 5) (tt := tYes) (te := tOp (rIxL K) (tDGet (tVar 3) (tVar 5)) (tC (.int 0))) rfl nd (pi_list (pv 6)) (blkOk_by (N := ["self", "day", "trips", "by_name", "trip", "name", "names", "twice", "place"]) (sc := defScope m_TableInit) (by decide +kernel))
        (fun _ _ _ _ _ => pg_name (i := 5) nd rfl (Or.inl rfl)) (fun _ _ _ _ _ => pts_nil) (fun _ _ _ _ _ => pe_ix ix_list (pe_dget hu (pv 3) (pv 5) (fun _ _ => rfl)) pe_int (fun _ _ => rfl))) pa_nil)) rfl)))))))))))))), ?_⟩
  refine ⟨_, rfl, _, _, _, _, true, rfl, .own _, isi_ok T T.isD cD hd, T.isD.k1, _, rfl, ?_⟩
  refine ⟨_, rfl, p, as, ts, rfl, SqT.of hp, ht, fun H1 s1 => ?_⟩
  intro dB hdB
  have none_of : ∀ {H' : Hp} {q : Addr}, Same H H' → H' q = none → H q = none := fun {H' q} s e => by
    cases z : H q with
    | none => rfl
    | some o => rw [s _ _ z] at e; cases e
  have hB0 : H dB = none := none_of s1 hdB
  have ndt : ∀ i, (names (ts.take i)).Nodup := fun i => by
    have := ok.nd
    unfold names at this ⊢
    rw [List.map_take]
    exact this.sublist (List.take_sublist _ _)
  refine ⟨_, rfl, p, rfl, ⟨_, SqT.of ((same_new s1 hdB) _ _ hp)⟩, ?_⟩
  refine for_it (walk_tup (K := K) (a := p) (xs := as.map V.ref)) (fun i σ H' => Same H H' ∧ (∃ qs : List Addr, qs.length = i ∧ H' dB = some (.dK (byN (ts.take i) qs)) ∧ ∀ (j : Nat) (q a : Addr), qs[j]? = some q → as[j]? = some a → H' q = some (.lst [.ref a])) ∧
      ∃ v, σ = [some (.ref x), some (.ref d), some (.ref p), some (.ref dB), v, none, none, none, none])
    ⟨same_new s1 hdB, ⟨[], rfl, by rw [upd_same]; rfl, fun j q a h => by simp at h⟩, _, rfl⟩ (fun i σ H' _ h => SqT.of (h.1 _ _ hp)) ?_ ?_
  · rintro i v σ H2 H3 hi ⟨s2, ⟨qs, hql, hk, hqs⟩, v4, rfl⟩ ⟨rfl, hxx⟩
    obtain ⟨a, t, rfl, ha, hti, dt, hta⟩ := ht.at hxx
    have c := trT T t
    have hil : i < ts.length := (List.getElem?_eq_some_iff.mp hti).1
    have hta3 := s2 _ _ hta
    have hnew : valV (byN (ts.take i) qs) (Sum.inr t.name) = none := by
      cases e : valV (byN (ts.take i) qs) (Sum.inr t.name) with
      | none => rfl
      | some u =>
        have hm := valV_in e
        rw [byN_keys (by rw [List.length_take, hql]; omega)] at hm
        have hm2 : t.name ∈ names (ts.take i) := by
          obtain ⟨z, hz, ez⟩ := List.mem_map.mp hm
          rw [← Sum.inr.inj ez]
          exact hz
        have := ndt (i + 1)
        rw [List.take_succ_eq_append_getElem hil] at this
        unfold names at this
        rw [List.map_append] at this
        have h3 := (List.nodup_append.mp this).2.2 _ hm2 t.name (by
          have : ts[i] = t := by
            rw [List.getElem?_eq_getElem hil] at hti
            exact Option.some.inj hti
          simp [this])
        exact absurd rfl h3
    have lenk : (byN (ts.take i) qs).length < sizeLine := by
      unfold byN
      rw [List.length_zipWith, sizeLine_eq, List.length_take]
      have := ok.l40
      omega
    refine ⟨_, rfl, dB, rfl, .inl ⟨_, .inl hk⟩, _, rfl, a, _, dt, _, _, rfl, hta3, c.c, c.n1, lk_name t, Nat.zero_le _, fun l hl => ?_⟩
    have nlB : dB ≠ l := ne_of_none hk hl
    refine ⟨none, .inl ⟨_, Sum.inr t.name, .inl (by rw [upd_ne nlB]; exact hk), rfl, hnew.symm⟩, l, [], rfl, .inr (SqL.of upd_same), _, rfl, (by show 1 ≤ sizeLine; decide), fun q hq => ?_⟩
    have nqB : dB ≠ q := fun z => by
      rw [← z, upd_ne nlB, hk] at hq
      cases hq
    have hql2 : H3 q = none := by
      have : q ≠ l := fun z => by rw [z, upd_same] at hq; cases hq
      rw [upd_ne this] at hq
      exact hq
    have s4 : Same H3 (upd (upd H3 l (.lst [])) q (.lst [.ref a])) := same_new (same_new same_rfl hl) hq
    have hk4 : (upd (upd H3 l (.lst [])) q (.lst [V.ref a])) dB = some (.dK (byN (ts.take i) qs)) := s4 _ _ hk
    refine ⟨_, rfl, _, rfl, a, _, dt, _, _, rfl, s4 _ _ hta3, c.c, c.n1, lk_name t, dB, _, rfl, DPut.k (k := Sum.inr t.name) hk4 lenk, ?_⟩
    refine ⟨same_at (same_tr s2 s4) hB0, ⟨qs ++ [q], by rw [List.length_append, hql]; rfl, ?_, ?_⟩, _, rfl⟩
    · rw [upd_same, putK_new _ hnew, List.take_succ_eq_append_getElem hil, byN_snoc (by rw [List.length_take, hql]; omega)]
      have : ts[i] = t := by
        rw [List.getElem?_eq_getElem hil] at hti
        exact Option.some.inj hti
      rw [this]
    · intro j q' a' hj ha'
      by_cases hji : j < qs.length
      · rw [List.getElem?_append_left hji] at hj
        have e := hqs j q' a' hj ha'
        rw [upd_ne (ne_of hk e (by intro z; cases z)).symm]
        exact s4 _ _ e
      · have hj2 : j = qs.length := by
          have := (List.getElem?_eq_some_iff.mp hj).1
          rw [List.length_append] at this
          simp at this
          omega
        subst hj2
        rw [List.getElem?_append_right (Nat.le_refl _)] at hj
        simp at hj
        subst hj
        rw [hql, ha] at ha'
        cases ha'
        rw [upd_ne nqB.symm, upd_same]
        rfl
  · rintro σ H2 ⟨s2, ⟨qs, hql, hk, hqs⟩, v4, rfl⟩
    rw [List.length_map, ht.1] at hql
    rw [List.length_map, ht.1, List.take_length] at hk
    have hbk : ((byN ts qs).map (·.1)).Nodup := by
      rw [byN_keys hql.symm]
      exact inr_nodup ok.nd
    have lenB : (byN ts qs).length = ts.length := by
      unfold byN
      rw [List.length_zipWith, hql]
      omega
    have l40 := ok.l40
    refine ⟨dB, _, hk, trivial, fun od => ⟨_, rfl, dB, od, rfl, .inl ⟨byN ts qs, upd_same, fun D hD => lc_f walk_keys (fun i => (ts[i]?).map fun t => V.str t.name) hD (by omega) (fun H' s => s _ _ upd_same) ?_ ?_⟩⟩⟩
    · rintro i v Ha Hb kk k0 hi sa ⟨rfl, key, val, hkv, rfl⟩ h2 h3
      have hil : i < ts.length := by omega
      have hiq : i < qs.length := by omega
      have e := byN_get (List.getElem?_eq_getElem hil) (List.getElem?_eq_getElem hiq)
      rw [hkv] at e
      cases e
      exact ⟨rfl, _, rfl, _, rfl, h2 _ _ (by rw [List.getElem?_eq_getElem hil]; rfl) same_rfl⟩
    · intro H3 s3 hL3
      rw [lenB, range_map_] at hL3
      have nDB : D ≠ dB := fun z => by rw [z, upd_same] at hD; cases hD
      have hB3 := s3 _ _ (upd_same (H := H2) (a := dB) (o := .frz od (.dK (byN ts qs))))
      refine ⟨hB3, D, names ts, rfl, SqL.of ?_, ?_, fun ys q6 hperm hsort hq6 => ?_⟩
      · rw [upd_ne nDB, hL3]
        unfold names
        rw [List.map_map]
        rfl
      · unfold names
        rw [List.length_map]
        omega
      have ey := sn_of hperm hsort
      subst ey
      have s6 : Same H2 (upd (upd H3 dB (.dK (byN ts qs))) q6 (.lst ((sn (names ts)).map V.str))) := by
        refine same_new (fun b o e => ?_) hq6
        by_cases hb : b = dB
        · subst hb
          rw [upd_same, ← hk]
          exact e
        · rw [upd_ne hb]
          exact s3 _ _ (by rw [upd_ne hb]; exact e)
      generalize hH6 : upd (upd H3 dB (.dK (byN ts qs))) q6 (.lst ((sn (names ts)).map V.str)) = H6 at s6
      have h6 : H6 q6 = some (.lst ((sn (names ts)).map V.str)) := by rw [← hH6]; exact upd_same
      have lenS : ((sn (names ts)).map V.str).length = ts.length := by rw [List.length_map, sn_length]; unfold names; rw [List.length_map]
      -- what a name finds
      have find : ∀ {H' : Hp} {i : Nat} {v : V}, (∀ b o, H6 b = some o → (∃ kvs, o = .dK kvs) ∨ (∃ zs, o = .lst zs) → H' b = some o) → ((sn (names ts)).map V.str)[i]? = some v → ∃ (nm : Str) (j : Nat) (q a : Addr), v = .str nm ∧ (sn (names ts))[i]? = some nm ∧ DGet H' dB v (some (.ref q)) ∧ H' q = some (.lst [.ref a]) ∧ adr as ts nm = some a := by
        intro H' i v hs hv
        rw [List.getElem?_map] at hv
        cases e : (sn (names ts))[i]? with
        | none => rw [e] at hv; cases hv
        | some nm =>
          rw [e] at hv
          have ev : v = .str nm := (Option.some.inj hv).symm
          have hm : nm ∈ names ts := mem_sn.mp (List.mem_of_getElem? e)
          obtain ⟨j, a, t, h1, h2, h3, h4⟩ := adr_lk ht.1 hm
          have hjl : j < qs.length := by rw [hql]; exact (List.getElem?_eq_some_iff.mp h4).1
          have hnm : t.name = nm := (lk_some h2).2
          have hv := valV_of_get hbk (byN_get h4 (List.getElem?_eq_getElem hjl))
          rw [hnm] at hv
          refine ⟨nm, j, qs[j], a, ev, rfl, ?_, hs _ _ (s6 _ _ (hqs j _ _ (List.getElem?_eq_getElem hjl) h3)) (.inr ⟨_, rfl⟩), h1⟩
          rw [ev]
          exact .inl ⟨_, Sum.inr nm, .inl (hs _ _ (s6 _ _ hk) (.inl ⟨_, rfl⟩)), rfl, hv.symm⟩
      refine ⟨_, rfl, q6, rfl, ⟨_, SqL.of h6⟩, fun D2 hD2 => lc_f walk_list (fun _ => none) hD2 (by omega) (fun H' s => SqL.of (s _ _ h6)) ?_ ?_⟩
      · rintro i v Ha Hb kk k0 hi sa ⟨rfl, hv⟩ h2 h3
        obtain ⟨nm, j, q, a, rfl, e1, e2, e3, e4⟩ := find (fun b o e _ => sa b o e) hv
        exact ⟨rfl, _, rfl, _, rfl, dB, _, rfl, e2, _, 1, rfl, .inl ⟨_, SqL.of e3, rfl⟩, _, _, rfl, rfl, _, rfl, h3 rfl _ same_rfl⟩
      intro H7 s7 hL7
      have e0 : (List.range ((sn (names ts)).map V.str).length).filterMap (fun _ : Nat => (none : Option V)) = [] := by simp
      rw [e0] at hL7
      refine ⟨_, rfl, _, _, rfl, .inl ⟨_, SqL.of hL7, rfl⟩, _, _, rfl, rfl, _, rfl, ?_⟩
      have e1 : decide ((0 : Int) < (([] : List V).length : Int)) = false := by decide
      rw [e1]
      have sH7 : Same H H7 := same_tr s2 (same_tr s6 s7)
      refine ⟨_, rfl, _, rfl, d, p, n, as, ts, rfl, ⟨dd, sH7 _ _ hd⟩, SqT.of (sH7 _ _ hp), ht.up sH7, ok.l40, ok.lv, ok.few, fun H8 s8 => ?_⟩
      have sH8 := same_tr sH7 s8
      refine ⟨_, rfl, p, as, ts, rfl, SqT.of (sH8 _ _ hp), ht.up sH8, by omega, ok.bal, fun H9 s9 => ?_⟩
      have sH9 := same_tr sH8 s9
      refine ⟨_, rfl, _, rfl, ?_⟩
      have e2 : (!decide (V.non = V.non)) = false := by simp
      rw [e2]
      have hx9 := sH9 _ _ hx
      have h9 : H9 q6 = some (.lst ((sn (names ts)).map V.str)) := s9 _ _ (s8 _ _ (s7 _ _ h6))
      have n6x : q6 ≠ x := (ne_of h9 hx9 (by intro z; cases z))
      refine ⟨_, rfl, _, rfl, x, _, dx, _, rfl, hx9, cT, T.noat ("Table", "day") (by decide +kernel), by decide, ?_⟩
      generalize hA : upd H9 x (.ins (cTab K) dx (putF "day" (.ref d) [])) = HA
      have oA : ∀ b o, b ≠ x → H9 b = some o → HA b = some o := fun b o hb e => by rw [← hA, upd_ne hb]; exact e
      have xA : HA x = some (.ins (cTab K) dx (putF "day" (.ref d) [])) := by rw [← hA]; exact upd_same
      refine ⟨_, rfl, q6, _, rfl, SqL.of (oA _ _ n6x h9), fun dn oN hoN hdn => ?_⟩
      have nxn : x ≠ dn := ne_of_none xA hdn
      refine ⟨_, rfl, x, _, dx, _, rfl, (by rw [upd_ne nxn]; exact xA), cT, T.noat ("Table", "names") (by decide +kernel), lt_putF (by decide), ?_⟩
      generalize hB : upd (upd HA dn (.frz oN (.tup ((sn (names ts)).map V.str)))) x (.ins (cTab K) dx (putF "names" (.ref dn) (putF "day" (.ref d) []))) = HB
      have oB : ∀ b o, b ≠ x → HA b = some o → HB b = some o := fun b o hb e => by rw [← hB, upd_ne hb, upd_ne (ne_of_none e hdn)]; exact e
      have xB : HB x = some (.ins (cTab K) dx (putF "names" (.ref dn) (putF "day" (.ref d) []))) := by rw [← hB]; exact upd_same
      have nB : HB dn = some (.frz oN (.tup ((sn (names ts)).map V.str))) := by rw [← hB, upd_ne nxn.symm]; exact upd_same
      have old : ∀ b o, b ≠ x → H b = some o → HB b = some o := fun b o hb e => oB b o hb (oA b o hb (sH9 _ _ e))
      have nta : ∀ (i : Nat) (a : Addr) (t : TR), as[i]? = some a → ts[i]? = some t → a ≠ x := fun i a t h1 h2 z => by
        obtain ⟨dt, e⟩ := ht.2 i a t h1 h2
        rw [z, hx] at e
        have e := Option.some.inj e
        injection e with _ _ e
        cases e
      have hTB : Trs K HB as ts := ⟨ht.1, fun i a t h1 h2 => (let ⟨dt, e⟩ := ht.2 i a t h1 h2; ⟨dt, old _ _ (nta i a t h1 h2) e⟩)⟩
      have npx : p ≠ x := ne_of hp hx (by intro z; cases z)
      refine ⟨_, rfl, p, as, ts, rfl, SqT.of (old _ _ npx hp), hTB, by omega, fun HC qp ys sC hqp hqp2 hys => ?_⟩
      refine ⟨qp, _, rfl, .inl ⟨SqL.of hqp2, fun dp hdp => ?_⟩⟩
      have xC := sC _ _ xB
      have nxp : x ≠ dp := ne_of_none xC hdp
      refine ⟨_, rfl, x, _, dx, _, rfl, (by rw [upd_ne nxp]; exact xC), cT, T.noat ("Table", "places") (by decide +kernel), lt_putF (lt_putF (by decide)), ?_⟩
      generalize hD : upd (upd HC dp (.tup (ys.map V.str))) x (.ins (cTab K) dx (putF "places" (.ref dp) (putF "names" (.ref dn) (putF "day" (.ref d) [])))) = HD
      have oD : ∀ b o, b ≠ x → HC b = some o → HD b = some o := fun b o hb e => by rw [← hD, upd_ne hb, upd_ne (ne_of_none e hdp)]; exact e
      have xD : HD x = some (.ins (cTab K) dx (putF "places" (.ref dp) (putF "names" (.ref dn) (putF "day" (.ref d) [])))) := by rw [← hD]; exact upd_same
      have pD : HD dp = some (.tup (ys.map V.str)) := by rw [← hD, upd_ne nxp.symm]; exact upd_same
      have o9D : ∀ b o, b ≠ x → H9 b = some o → HD b = some o := fun b o hb e => oD b o hb (sC _ _ (oB b o hb (oA b o hb e)))
      have h6D := o9D _ _ n6x h9
      refine ⟨_, rfl, q6, rfl, ⟨_, SqL.of h6D⟩, fun DR hDR => lc_f walk_list (fun i => ((sn (names ts))[i]?).bind fun nm => (adr as ts nm).map V.ref) hDR (by omega) (fun H' s => SqL.of (s _ _ h6D)) ?_ ?_⟩
      · rintro i v Ha Hb kk k0 hi sa ⟨rfl, hv⟩ h2 h3
        obtain ⟨nm, j, q, a, rfl, e1, e2, e3, e4⟩ := find (fun b o e hk2 => sa b o (o9D b o (fun z => by
          subst z
          have := s9 _ _ (s8 _ _ (s7 _ _ e))
          rw [hx9] at this
          rcases hk2 with ⟨z, e5⟩ | ⟨z, e5⟩
          · rw [e5] at this; cases this
          · rw [e5] at this; cases this) (s9 _ _ (s8 _ _ (s7 _ _ e))))) hv
        exact ⟨rfl, _, rfl, _, rfl, dB, _, rfl, e2, q, _, 0, _, rfl, rfl, SqL.of e3, rfl, h2 _ _ (by rw [e1]; show (adr as ts nm).map V.ref = _; rw [e4]; rfl) same_rfl⟩
      intro HE sE hE
      have eR : (List.range ((sn (names ts)).map V.str).length).filterMap (fun i : Nat => ((sn (names ts))[i]?).bind fun nm => (adr as ts nm).map V.ref) = ((sn (names ts)).filterMap (adr as ts)).map V.ref := by
        rw [List.length_map, range_fm, map_fm_ref]
      rw [eR] at hE
      refine ⟨DR, _, rfl, .inl ⟨SqL.of hE, fun dr hdr => ?_⟩⟩
      have xE := sE _ _ xD
      have nxr : x ≠ dr := ne_of_none xE hdr
      refine ⟨_, rfl, x, _, dx, _, rfl, (by rw [upd_ne nxr]; exact xE), cT, T.noat ("Table", "rows") (by decide +kernel), lt_putF (lt_putF (lt_putF (by decide))), ?_⟩
      have oF : ∀ b o, b ≠ x → HE b = some o → (upd (upd HE dr (.tup (((sn (names ts)).filterMap (adr as ts)).map V.ref))) x (.ins (cTab K) dx (putF "rows" (.ref dr) (putF "places" (.ref dp) (putF "names" (.ref dn) (putF "day" (.ref d) [])))))) b = some o := fun b o hb e => by
        rw [upd_ne hb, upd_ne (ne_of_none e hdr)]
        exact e
      have fresh : ∀ {H' : Hp} {q : Addr}, (∀ b o, b ≠ x → H b = some o → H' b = some o) → x ≠ q → H' q = none → H q = none := fun {H' q} s hq e => by
        cases z : H q with
        | none => rfl
        | some o => rw [s _ _ hq.symm z] at e; cases e
      refine k _ dn dp dr ((sn (names ts)).filterMap (adr as ts)) ys (fun b o hb e => oF b o hb (sE _ _ (oD b o hb (sC _ _ (old b o hb e))))) upd_same (fresh (fun b o hb e => oA b o hb (sH9 _ _ e)) nxn hdn) (fresh (fun b o hb e => sC _ _ (old b o hb e)) nxp hdp)
        (fresh (fun b o hb e => sE _ _ (oD b o hb (sC _ _ (old b o hb e)))) nxr hdr) ⟨oN, hoN, oF _ _ nxn.symm (sE _ _ (oD _ _ nxn.symm (sC _ _ nB)))⟩ (oF _ _ nxp.symm (sE _ _ pD)) ?_ (sel_fm ht.1 _ fun n h => mem_sn.mp h)
      rw [upd_ne nxr.symm]
      exact upd_same
end
end N1
set_option maxHeartbeats 1000000
namespace N1
open PySem PySem.Spec PyProof.Rows L2
section
variable {X : Cx} {n : Nat}
theorem rcG_insR {CX : CXT} {C f : Addr} {R : Addr → Addr → Hp → Prop} {E : XK} (F : FnR X.prog X.w X.K X.mg X.base CX n f (spEq R)) (M : Meth X.K C "__eq__" f) (hx : Passes CX X E) : RcG X n (DIns C R) := by
  intro A pins s σ H x y u v sb I rx ry d
  obtain ⟨a, b, dx, dy, fs, gs, rfl, rfl, ha, hb', hr⟩ := d
  cases rx
  cases ry
  obtain ⟨mA, J, _⟩ := ins_get I.hok ha
  obtain ⟨mB, J', _⟩ := ins_get I.hok hb'
  obtain ⟨od, J, _⟩ := J.look
  obtain ⟨od', J', _⟩ := J'.look
  obtain ⟨m, hF⟩ := I.fr
  refine PySem.W.cmp_K (op := .Eq) (tb := .ref C) sb.room.units0 hF I.ok.mod.kin J J'.type (by simp [PySem.W.notFirst]) M.at_ M.fn ?_
  have hsp : spEq R [.ref a, .ref b] H (fun v H' => v = .bl true ∧ Ext H H') E := ⟨a, b, rfl, hr, fun H' e => ⟨rfl, e⟩⟩
  have e0 : Env0 X.prog X.w X.K X.mg X.base A X.stack s H := by
    have e := I.env0
    exact ⟨by rw [sb.fr]; exact e.frames, e.mod, e.bs, e.bsz, e.funs, e.frf, e.hok, e.bare⟩
  refine thn (run_at F sb.room e0 hx I (.cons (show RelV (.ref a) (.ref a) from rfl) (.cons (show RelV (.ref b) (.ref b) from rfl) .nil)) hsp) ?_
  rintro r s' ⟨v', H', I', rv, rfl, ex⟩
  obtain rfl : r = Value.bool true := rv
  exact ⟨rfl, H', I', ex⟩
end
/-- two trips alike -/
def TwoT (K : PySem.W.Frag) (a b : Addr) (H : Hp) : Prop := ∃ t : TR, t.Ok ∧ TripAt K H a t ∧ TripAt K H b t
def TableAt (K : PySem.W.Frag) (G : Hp) (a : Addr) (n : Int) (us : List TR) : Prop := ∃ (dx d dn dp dr : Addr) (rs : List Addr), G a = some (.ins (cTab K) dx (tabF d dn dp dr)) ∧ DayAt K G d n ∧ FT G dn ((names us).map V.str) ∧ G dr = some (.tup (rs.map V.ref)) ∧ Trs K G rs us
theorem TableAt.up {K : PySem.W.Frag} {G G' : Hp} {a : Addr} {n : Int} {us : List TR} (s : Same G G') (h : TableAt K G a n us) : TableAt K G' a n us := by
  obtain ⟨dx, d, dn, dp, dr, rs, h1, h2, h3, h4, h5⟩ := h
  exact ⟨dx, d, dn, dp, dr, rs, s _ _ h1, h2.up s, h3.up s, s _ _ h4, h5.up s⟩
theorem frz_get {G H : Hp} {b : Addr} {o : HO} (s : Same G H) (hn : G b ≠ none) (h : H b = some o) : G b = some o := by
  cases e : G b with
  | none => exact absurd e hn
  | some u => rw [← h]; exact (s _ _ e).symm
theorem upd_nn {G : Hp} {p b : Addr} {o : HO} (h : b = p ∨ G b ≠ none) : (upd G p o) b ≠ none := by
  by_cases e : b = p
  · rw [e, upd_same]; intro z; cases z
  · rw [upd_ne e]
    exact h.resolve_left e
def spTabOf (K : PySem.W.Frag) : Sp := fun vs H Q _ => ∃ (G : Hp) (d l : Addr) (n : Int) (as : List Addr) (ts : List TR), vs = [.ref d, .ref l] ∧ Same G H ∧ DayAt K G d n ∧ H l = some (.lst (as.map V.ref)) ∧ Trs K G as ts ∧ TabOk n ts ∧
  ∀ H' G' p, Gx [] G H G' H' → H p = none → TableAt K G' p n (st ts) → Q (.ref p) H'
def spTabIn (K : PySem.W.Frag) : Sp := fun vs H Q _ => ∃ (a : Addr) (x : Str) (n : Int) (us : List TR), vs = [.ref a, .str x] ∧ TableAt K H a n us ∧ Q (.bl (decide (x ∈ names us))) H
/-- a table with its rows' places -/
def TabR (K : PySem.W.Frag) (G : Hp) (a : Addr) (n : Int) (us : List TR) (rs : List Addr) : Prop := ∃ (dx d dn dp dr : Addr), G a = some (.ins (cTab K) dx (tabF d dn dp dr)) ∧ DayAt K G d n ∧ FT G dn ((names us).map V.str) ∧ G dr = some (.tup (rs.map V.ref)) ∧ Trs K G rs us
theorem TableAt.rows {K : PySem.W.Frag} {G : Hp} {a : Addr} {n : Int} {us : List TR} (h : TableAt K G a n us) : ∃ rs, TabR K G a n us rs := let ⟨dx, d, dn, dp, dr, rs, h⟩ := h; ⟨rs, dx, d, dn, dp, dr, h⟩
theorem TabR.tab {K : PySem.W.Frag} {G : Hp} {a : Addr} {n : Int} {us : List TR} {rs : List Addr} (h : TabR K G a n us rs) : TableAt K G a n us := let ⟨dx, d, dn, dp, dr, h⟩ := h; ⟨dx, d, dn, dp, dr, rs, h⟩
def spTabGet (K : PySem.W.Frag) : Sp := fun vs H Q _ => ∃ (G : Hp) (a : Addr) (x : Str) (n : Int) (us : List TR) (rs : List Addr), vs = [.ref a, .str x] ∧ Same G H ∧ TabR K G a n us rs ∧ (names us).Nodup ∧ x ∈ names us ∧ ∀ b, adr rs us x = some b → Q (.ref b) H
def spTabEq (K : PySem.W.Frag) : Sp := fun vs H Q _ => ∃ (a b : Addr) (n : Int) (us : List TR), vs = [.ref a, .ref b] ∧ TableAt K H a n us ∧ TableAt K H b n us ∧ (∀ t ∈ us, t.Ok) ∧ ∀ H', Same H H' → Q (.bl true) H'
theorem inV_str (x : Str) : ∀ xs : List Str, inV (.str x) (xs.map V.str) = decide (x ∈ xs)
  | [] => rfl
  | y :: ys => by
    show (eqV (.str y) (.str x) || inV (.str x) (ys.map V.str)) = _
    rw [inV_str x ys]
    show ((y == x) || _) = _
    by_cases e : y = x
    · subst e; simp
    · have : ¬ x = y := fun z => e z.symm
      simp [e, this]
section
variable {P : Program} {w : World} {K : PySem.W.Frag} {mg : Str → Option Value} {base : Heap}
theorem ok_TableOf (T : FX P K mg) : FnR P w K mg base CX0 5 (st_ K "Table" "of") (spTabOf K) := by
  refine fnr T.f_TableOf sc_TableOf (fun _ _ _ _ _ _ us hl => match us, hl with | [_, _], _ => rfl) (fun vs H Q E h => ?_) (fun cdv A outer s H vs Q E hr h => ?_)
  · obtain ⟨G, d, l, n, as, ts, rfl, _⟩ := h
    rfl
  · obtain ⟨G, d, l, n, as, ts, rfl, gs, ⟨dd, hd⟩, hl, ht, ok, k⟩ := h
    have cD := T.cls "Day" (by decide +kernel)
    have hr1 : Room 1 _ := hr.mono (by decide)
    refine ⟨_, pss_cons (ps_if (pt_not (pt_val (cb "isinstance" T call_isi (pa_cons (pv 0) (pa_cons (gc "Day" T) pa_nil))))) pss_never pss_nil)
      (pss_cons (ps_if (pt_not (pt_val (cl "is_row" T (ok_is_row T) hr1 (pa_cons (pv 1) pa_nil)))) pss_never pss_nil)
      (pss_one (ps_ret (pe_makeS (T.mkr "Table" (by decide +kernel)) (ok_TableInit T) hr rfl (T.glo "Table" (by decide +kernel)) pass0 (pa_cons (pv 0) (StX.pa_star (pv 1) pa_nil)))))), ?_⟩
    refine ⟨_, rfl, _, _, _, _, true, rfl, .own _, isi_ok T T.isD cD (gs _ _ hd), T.isD.k1, _, rfl, ?_⟩
    refine ⟨_, rfl, l, _, rfl, hl, fun H1 s1 => ⟨_, rfl, ?_⟩⟩
    have g1 : Gx [] G H G H1 := (Gx.refl gs).same s1
    refine ⟨_, rfl, _, rfl, l, _, rfl, .inr (SqL.of (s1 _ _ hl)), fun x dx hx hdx hne => ?_⟩
    have l40 := ok.l40
    refine ⟨_, _, as.map V.ref ++ [], rfl, by rw [List.append_nil, List.length_map, ht.1, sizeLine_eq]; omega, fun p hp => ?_⟩
    have sUp : Same H1 (upd (upd H1 dx (.own x)) x (.ins (cTab K) dx [])) := same_new (same_new same_rfl hdx) (by rw [upd_ne (Ne.symm hne)]; exact hx)
    have sP : Same H1 (upd (upd (upd H1 dx (.own x)) x (.ins (cTab K) dx [])) p (.tup (as.map V.ref ++ []))) := same_tr sUp (same_new same_rfl hp)
    have npx : x ≠ p := fun z => by rw [← z, upd_same] at hp; cases hp
    refine ⟨x, dx, d, p, n, as, ts, rfl, by rw [upd_same, List.append_nil], ht.up (same_tr g1.gh sP), ⟨dd, sP _ _ (g1.gh _ _ hd)⟩, ok, by rw [upd_ne npx]; exact upd_same, fun H' dn dp dr rs ys k1 hx' f1 f2 f3 ⟨oN, hoN, e1⟩ e2 e3 htr => ⟨rfl, ?_⟩⟩
    have frs : ∀ {q : Addr}, (upd (upd (upd H1 dx (.own x)) x (.ins (cTab K) dx [])) p (.tup (as.map V.ref ++ []))) q = none → H1 q = none ∧ x ≠ q := fun {q} e => by
      constructor
      · cases z : H1 q with
        | none => rfl
        | some o => rw [sP _ _ z] at e; cases e
      · rintro rfl
        rw [upd_ne npx, upd_same] at e
        cases e
    have g2 : Gx [] G H (upd G x (.ins (cTab K) dx (tabF d dn dp dr))) H' := g1.made hx hdx hne (fun b v hb e => k1 b v hb (by rw [upd_ne (ne_of_none e hp)]; exact e)) hx'
    have g3 := g2.frz e1 (g1.old (frs f1).1)
    have g4 := g3.frz e3 (g1.old (frs f3).1)
    refine k H' _ x g4 (g1.old hx) ⟨dx, d, dn, dp, dr, rs, ?_, ⟨dd, g4.gg _ _ hd⟩, ?_, ?_, ?_⟩
    · exact frz_get g4.gh (upd_nn (.inr (upd_nn (.inr (upd_nn (.inl rfl)))))) hx'
    · refine ⟨oN, hoN, frz_get g4.gh (upd_nn (.inr (upd_nn (.inl rfl)))) ?_⟩
      rw [e1, names_st]
    · exact upd_same
    · exact (htr.trs ht).up g4.gg
theorem ok_TableContains (T : FX P K mg) : FnR P w K mg base CX0 1 (ma K (ga K "Table") "__contains__") (spTabIn K) := by
  refine fnr T.f_TableContains sc_TableContains (fun _ _ _ _ _ _ us hl => match us, hl with | [_, _], _ => rfl) (fun vs H Q E h => ?_) (fun cdv A outer s H vs Q E hr h => ?_)
  · obtain ⟨a, x, n, us, rfl, _⟩ := h
    rfl
  · obtain ⟨a, x, n, us, rfl, ⟨dx, d, dn, dp, dr, rs, h1, h2, h3, h4, h5⟩, k⟩ := h
    have cT := T.cls "Table" (by decide +kernel)
    refine ⟨_, pss_one (ps_ret (pe_and (cb "isinstance" T call_isi (pa_cons (pv 1) (pa_cons (gt "str" "str" T) pa_nil))) (pe_one (pe_cmpR op_in_seq (pv 1) (pe_fld (pv 0) rfl) rfl)))), ?_⟩
    refine ⟨_, rfl, _, _, _, _, true, rfl, .ty _, .base (.str x), kit_ty (by decide +kernel), _, rfl, ?_⟩
    refine ⟨_, rfl, _, rfl, a, _, dx, _, _, rfl, h1, cT, T.noat ("Table", "names") (by decide +kernel), rfl, dn, _, rfl, .inr h3.seq, rfl, ?_, ?_⟩
    · rw [List.all_map]
      exact List.all_eq_true.mpr fun _ _ => rfl
    · show Q (.bl (inV (.str x) ((names us).map V.str))) H
      rw [inV_str]
      exact k
theorem ok_TableGetitem (T : FX P K mg) : FnR P w K mg base CX0 2 (ma K (ga K "Table") "__getitem__") (spTabGet K) := by
  refine fnr T.f_TableGetitem sc_TableGetitem (fun _ _ _ _ _ _ us hl => match us, hl with | [_, _], _ => rfl) (fun vs H Q E h => ?_) (fun cdv A outer s H vs Q E hr h => ?_)
  · obtain ⟨G, a, x, n, us, rs, rfl, _⟩ := h
    rfl
  · obtain ⟨G, a, x, n, us, rs, rfl, gs, tab0, nd, hm, k⟩ := h
    obtain ⟨dx, d, dn, dp, dr, h1, h2, h3, h4, h5⟩ := id tab0
    have tab := tab0.tab.up gs
    replace h1 := gs _ _ h1
    replace h3 := h3.up gs
    replace h4 := gs _ _ h4
    have cT := T.cls "Table" (by decide +kernel)
    refine ⟨_, pss_cons (ps_if (pt_cmpR (or_ownNotIn (T.meth ("Table", "__contains__") (by decide +kernel)) (ok_TableContains T) hr pass0) (pv 1) (pv 0) rfl) pss_never pss_nil)
      (pss_one (ps_ret (pe_ix ix_tup (pe_fld (pv 0) rfl) (pe_bmF PySem.F.plainAttrs_tuple PySem.F.slot_tuple_index PySem.F.type_tuple_index mt_tup_index (pe_fld (pv 0) rfl) (pa_cons (pv 1) pa_nil)) (fun _ _ => rfl)))), ?_⟩
    refine ⟨_, rfl, _, rfl, a, rfl, ⟨_, _, h1⟩, a, x, n, us, rfl, tab, _, rfl, _, rfl, ?_⟩
    rw [decide_eq_true hm]
    obtain ⟨j, b', t, ea, elk, haj, hj⟩ := adr_lk h5.1 hm
    have ht := (lk_some elk).2
    have hjr : j < rs.length := by rw [h5.1]; exact (List.getElem?_eq_some_iff.mp hj).1
    refine ⟨_, rfl, a, _, dx, _, _, rfl, h1, cT, T.noat ("Table", "rows") (by decide +kernel), rfl, ?_⟩
    refine ⟨_, rfl, a, _, dx, _, _, rfl, h1, cT, T.noat ("Table", "names") (by decide +kernel), rfl, ⟨dn, _, rfl, h3⟩, _, rfl, dn, names us, x, j, rfl, rfl, h3.seq, ?_, ?_, dr, _, _, _, rfl, rfl, SqT.of h4, atI_nat (j := j) (v := .ref rs[j]) (by rw [List.getElem?_map, List.getElem?_eq_getElem hjr]; rfl), ?_⟩
    · unfold names
      rw [List.getElem?_map, hj, ← ht]
      rfl
    · intro m hmj e
      have hml : m < (names us).length := (List.getElem?_eq_some_iff.mp e).1
      have ejn : (names us)[j]? = some x := by
        unfold names
        rw [List.getElem?_map, hj, ← ht]
        rfl
      have hjl : j < (names us).length := (List.getElem?_eq_some_iff.mp ejn).1
      have e1 := (List.getElem?_eq_some_iff.mp e).2
      have e2 := (List.getElem?_eq_some_iff.mp ejn).2
      exact absurd (show (names us)[m] = (names us)[j] by rw [e1, e2]) (List.pairwise_iff_getElem.mp nd m j hml hjl hmj)
    · exact k _ (by rw [ea, ← haj, List.getElem?_eq_getElem hjr])
theorem mon_two (C : Addr) : Mon (DIns C (TwoT K)) := mon_ins fun a b H H' e ⟨t, ok, ha, hb⟩ => ⟨t, ok, ha.up e, hb.up e⟩
def DTr (K : PySem.W.Frag) : Eqv := fun x y H => DIns (cRun K) (TwoT K) x y H ∨ DIns (cStay K) (TwoT K) x y H
theorem mon_tr : Mon (DTr K) := (mon_two _).or (mon_two _)
theorem eqG_trips {X : Cx} (T : FX X.prog X.K X.mg) : EqG X 1 (DTr X.K) := by
  have F : FnR X.prog X.w X.K X.mg X.base CX0 1 (ma X.K (ga X.K "Trip") "__eq__") (spEq (TwoT X.K)) := (ok_TripEq T).imp fun vs H Q E ⟨a, b, e, ⟨t, ok, ha, hb⟩, k⟩ => ⟨a, b, t, e, ok, ha, hb, k⟩
  have M1 := T.meth ("Run", "__eq__") (by decide +kernel)
  have M2 := T.meth ("Stay", "__eq__") (by decide +kernel)
  have e1 := (T.tmE "Run" (by decide +kernel)).1
  have e2 := (T.tmE "Stay" (by decide +kernel)).1
  have r1 : RcG X 1 (DIns (cRun X.K) (TwoT X.K)) := rcG_insR (E := E0) (e1 ▸ F) M1 pass0
  have r2 : RcG X 1 (DIns (cStay X.K) (TwoT X.K)) := rcG_insR (E := E0) (e2 ▸ F) M2 pass0
  exact (r1.eqG fun _ _ _ d => let ⟨a, b, _, _, _, _, hx, hy, _⟩ := d; ⟨a, b, hx, hy⟩).or (r2.eqG fun _ _ _ d => let ⟨a, b, _, _, _, _, hx, hy, _⟩ := d; ⟨a, b, hx, hy⟩)
theorem dtr_of {H : Hp} {a b : Addr} {t : TR} (ok : t.Ok) (ha : TripAt K H a t) (hb : TripAt K H b t) : DTr K (.ref a) (.ref b) H := by
  obtain ⟨dx, h1⟩ := id ha
  obtain ⟨dy, h2⟩ := id hb
  unfold cTR at h1 h2
  cases e : t.run
  · rw [e] at h1 h2
    exact .inr ⟨a, b, dx, dy, _, _, rfl, rfl, h1, h2, t, ok, ha, hb⟩
  · rw [e] at h1 h2
    exact .inl ⟨a, b, dx, dy, _, _, rfl, rfl, h1, h2, t, ok, ha, hb⟩
theorem ok_TableEq (T : FX P K mg) : FnR P w K mg base CX0 3 (ma K (ga K "Table") "__eq__") (spTabEq K) := by
  refine fnr T.f_TableEq sc_TableEq (fun _ _ _ _ _ _ us hl => match us, hl with | [_, _], _ => rfl) (fun vs H Q E h => ?_) (fun cdv A outer s H vs Q E hr h => ?_)
  · obtain ⟨a, b, n, us, rfl, _⟩ := h
    rfl
  · obtain ⟨a, b, n, us, rfl, ⟨dx, d, dn, dp, dr, rs, h1, h2, h3, h4, h5⟩, ⟨dy, d', dn', dp', dr', rs', g1, g2, g3, g4, g5⟩, ok, k⟩ := h
    have cT := T.cls "Table" (by decide +kernel)
    have nD := T.noat ("Table", "day") (by decide +kernel)
    have nR := T.noat ("Table", "rows") (by decide +kernel)
    refine ⟨_, pss_one (ps_ret (pe_and (cb "isinstance" T call_isi (pa_cons (pv 1) (pa_cons (gc "Table" T) pa_nil))) (pe_and (pe_cmpR (or_ownEq (T.meth ("Day", "__eq__") (by decide +kernel)) (ok_DayEq T) (hr.mono (by decide)) pass0) (pe_fld (pv 0) rfl) (pe_fld (pv 1) rfl) (nomark _))
      (pe_one (pe_cmpR (op_eqG (rcG_tup mon_tr (eqG_trips T)) hr) (pe_fld (pv 0) rfl) (pe_fld (pv 1) rfl) (nomark _)))))), ?_⟩
    refine ⟨_, rfl, _, _, _, _, true, rfl, .own _, isi_ok T T.isT cT g1, T.isT.k1, _, rfl, ?_⟩
    obtain ⟨d1, hd1⟩ := id h2
    obtain ⟨d2, hd2⟩ := id g2
    refine ⟨_, rfl, a, _, dx, _, _, rfl, h1, cT, nD, rfl, _, rfl, b, _, dy, _, _, rfl, g1, cT, nD, rfl, d, d', rfl, rfl, ⟨_, _, hd1⟩, ⟨_, _, hd2⟩, d, d', n, n, rfl, h2, g2, _, rfl, _, rfl, ?_⟩
    have e : decide (n = n) = true := by simp
    rw [e]
    refine ⟨_, rfl, a, _, dx, _, _, rfl, h1, cT, nR, rfl, _, rfl, b, _, dy, _, _, rfl, g1, cT, nR, rfl, ⟨dr, dr', _, _, rfl, rfl, SqT.of h4, SqT.of g4, ?_⟩, fun H' s => k H' s⟩
    refine ⟨by rw [List.length_map, List.length_map, h5.1, g5.1], fun i x y e1 e2 => ?_⟩
    obtain ⟨a1, t1, rfl, ha1, ht1, tr1⟩ := h5.at e1
    obtain ⟨a2, t2, rfl, ha2, ht2, tr2⟩ := g5.at e2
    rw [ht1] at ht2
    cases ht2
    exact dtr_of (ok t1 (List.mem_of_getElem? ht1)) tr1 tr2
end
end N1
set_option maxHeartbeats 1000000
namespace N1
open PySem PySem.Spec PyProof.Rows L2
/-! plain: places and numbers -/
def lkI (l : List (Str × Int)) (x : Str) : Option Int := (l.find? fun p => decide (p.1 = x)).map (·.2)
def nzI (l : List (Str × Int)) (x : Str) : Int := (lkI l x).getD 0
def keysI (l : List (Str × Int)) : List Str := l.map (·.1)
def nrm (l : List (Str × Int)) : List (Str × Int) := (sn ((keysI l).filter fun x => decide (nzI l x ≠ 0))).map fun x => (x, nzI l x)
def kI (l : List (Str × Int)) : List (Key × V) := l.map fun p => (Sum.inr p.1, V.int p.2)
def vI (l : List (Str × Int)) : List (Str × V) := l.map fun p => (p.1, V.int p.2)
theorem kw_vI (l : List (Str × Int)) : kwKeys (vI l) = kI l := by unfold kwKeys vI kI; rw [List.map_map]; rfl
theorem vI_keys (l : List (Str × Int)) : (vI l).map (·.1) = keysI l := by unfold vI keysI; rw [List.map_map]; rfl
theorem kI_keys (l : List (Str × Int)) : (kI l).map (·.1) = (keysI l).map Sum.inr := by unfold kI keysI; rw [List.map_map, List.map_map]; rfl
theorem valV_kI (l : List (Str × Int)) (x : Str) : valV (kI l) (Sum.inr x) = (lkI l x).map V.int := by
  unfold valV kI lkI
  induction l with
  | nil => rfl
  | cons p r ih =>
    by_cases e : p.1 = x
    · subst e
      simp
    · have e2 : ¬ (Sum.inr p.1 : Key) = Sum.inr x := fun z => e (Sum.inr.inj z)
      rw [List.map_cons, List.find?_cons_of_neg (by simpa using e2), List.find?_cons_of_neg (by simpa using e)]
      exact ih
theorem lkI_none {l : List (Str × Int)} {x : Str} : lkI l x = none ↔ x ∉ keysI l := by
  unfold lkI keysI
  rw [Option.map_eq_none_iff, List.find?_eq_none]
  constructor
  · intro h hm
    obtain ⟨p, hp, e⟩ := List.mem_map.mp hm
    exact h p hp (by simpa using e)
  · intro h p hp e
    exact h (List.mem_map.mpr ⟨p, hp, by simpa using e⟩)
theorem sn_filter (l : List Str) (p : Str → Bool) : (sn l).filter p = sn (l.filter p) :=
  List.Perm.eq_of_pairwise (fun a b _ _ h1 h2 => leS_anti h1 h2) ((sn_pw l).filter p) (sn_pw _) (((sn_perm l).filter p).trans (sn_perm _).symm)
theorem mem_nz {l : List (Str × Int)} {x : Str} (h : nzI l x ≠ 0) : x ∈ keysI l := by
  cases e : lkI l x with
  | none => unfold nzI at h; rw [e] at h; exact absurd rfl h
  | some v =>
    have : ¬ lkI l x = none := by rw [e]; intro z; cases z
    rw [lkI_none] at this
    exact Classical.not_not.mp this
/-- the same numbers, the same rows -/
theorem nrm_ext {l l' : List (Str × Int)} (h : (keysI l).Nodup) (h' : (keysI l').Nodup) (e : ∀ x, nzI l x = nzI l' x) : nrm l = nrm l' := by
  unfold nrm
  have p : ((keysI l).filter fun x => decide (nzI l x ≠ 0)).Perm ((keysI l').filter fun x => decide (nzI l' x ≠ 0)) := by
    refine (List.perm_ext_iff_of_nodup (h.filter _) (h'.filter _)).mpr fun x => ?_
    rw [List.mem_filter, List.mem_filter]
    simp only [decide_eq_true_eq]
    constructor
    · rintro ⟨_, hx⟩
      rw [e] at hx
      exact ⟨mem_nz hx, hx⟩
    · rintro ⟨_, hx⟩
      rw [← e] at hx
      exact ⟨mem_nz hx, hx⟩
  rw [sn_congr p]
  exact List.map_congr_left fun x _ => by rw [e]
theorem keys_nrm (l : List (Str × Int)) : keysI (nrm l) = sn ((keysI l).filter fun x => decide (nzI l x ≠ 0)) := by
  unfold nrm
  rw [keysI, List.map_map]
  exact List.map_id' _
theorem nodup_nrm {l : List (Str × Int)} (h : (keysI l).Nodup) : (keysI (nrm l)).Nodup := by
  rw [keys_nrm]
  exact sn_nodup (h.filter _)
theorem lkI_map {l : List Str} {f : Str → Int} {x : Str} : lkI (l.map fun y => (y, f y)) x = if x ∈ l then some (f x) else none := by
  unfold lkI
  induction l with
  | nil => rfl
  | cons y r ih =>
    by_cases e : y = x
    · subst e
      simp
    · have e2 : ¬ x = y := fun z => e z.symm
      rw [List.map_cons, List.find?_cons_of_neg (by simpa using e), ih]
      simp [e2]
theorem nz_nrm (l : List (Str × Int)) (x : Str) : nzI (nrm l) x = nzI l x := by
  show (lkI (nrm l) x).getD 0 = nzI l x
  unfold nrm
  rw [lkI_map]
  by_cases h : nzI l x = 0
  · have : x ∉ sn ((keysI l).filter fun x => decide (nzI l x ≠ 0)) := fun hm => by
      have := List.mem_filter.mp (mem_sn.mp hm)
      simp [h] at this
    rw [if_neg this, h]
    rfl
  · rw [if_pos (mem_sn.mpr (List.mem_filter.mpr ⟨mem_nz h, by simpa using h⟩))]
    rfl
theorem lkI_of {l : List (Str × Int)} (hn : (keysI l).Nodup) {p : Str × Int} (h : p ∈ l) : lkI l p.1 = some p.2 := by
  induction l with
  | nil => cases h
  | cons q r ih =>
    have hn2 := List.nodup_cons.mp (show (q.1 :: keysI r).Nodup from hn)
    unfold lkI
    rcases List.mem_cons.mp h with e | e
    · subst e
      simp
    · have ne : ¬ q.1 = p.1 := fun z => hn2.1 (by rw [z]; exact List.mem_map.mpr ⟨p, e, rfl⟩)
      rw [List.find?_cons_of_neg (by simpa using ne)]
      exact ih hn2.2 e
theorem lkI_mem {l : List (Str × Int)} {x : Str} {v : Int} (h : lkI l x = some v) : (x, v) ∈ l := by
  unfold lkI at h
  cases e : l.find? (fun p => decide (p.1 = x)) with
  | none => rw [e] at h; cases h
  | some p =>
    rw [e] at h
    have h1 := List.mem_of_find?_eq_some e
    have h2 : p.1 = x := by have := List.find?_some e; exact of_decide_eq_true this
    have h3 : p.2 = v := Option.some.inj h
    rw [← h2, ← h3]
    exact h1
/-- rows of pauses that stand -/
structure PaOk (l : List (Str × Int)) : Prop where
  nd : (keysI l).Nodup
  nm : ∀ p ∈ l, NameOk p.1
  lo : ∀ p ∈ l, 0 ≤ p.2 ∧ p.2 ≤ 1000000000000
  sz : l.length ≤ 60
theorem PaOk.nrm {l : List (Str × Int)} (h : PaOk l) : PaOk (N1.nrm l) := by
  have mem : ∀ p ∈ N1.nrm l, p ∈ l := fun p hp => by
    unfold N1.nrm at hp
    obtain ⟨x, hx, e⟩ := List.mem_map.mp hp
    have := List.mem_filter.mp (mem_sn.mp hx)
    have hnz : nzI l x ≠ 0 := by simpa using this.2
    rw [← e]
    cases e2 : lkI l x with
    | none => unfold nzI at hnz; rw [e2] at hnz; exact absurd rfl hnz
    | some v =>
      have : nzI l x = v := by unfold nzI; rw [e2]; rfl
      rw [this]
      exact lkI_mem e2
  refine ⟨nodup_nrm h.nd, fun p hp => h.nm p (mem p hp), fun p hp => h.lo p (mem p hp), ?_⟩
  unfold N1.nrm
  rw [List.length_map, sn_length]
  exact Nat.le_trans (List.length_filter_le _ _) (by unfold keysI; rw [List.length_map]; exact h.sz)
end N1
set_option maxHeartbeats 1000000
namespace N1
open PySem PySem.Spec PyProof.Rows L2
theorem unlock_same {H H' : Hp} {d : Addr} {u : HO} {od : Obj} (s : Same (upd H d (.frz od u)) H') (h : H d = some u) : Same H (upd H' d u) := fun b o e => by
  by_cases hb : b = d
  · subst hb
    rw [upd_same, ← h]
    exact e
  · rw [upd_ne hb]
    exact s _ _ (by rw [upd_ne hb]; exact e)
def pauF (dn dr : Addr) : List (Str × V) := [("numbers", .ref dn), ("rows", .ref dr)]
def PausesAt (K : PySem.W.Frag) (G : Hp) (a : Addr) (ps : List (Str × Int)) : Prop := ∃ dx dn dr, G a = some (.ins (cPau K) dx (pauF dn dr)) ∧ G dn = some (.dK (kI ps)) ∧ G dr = some (.tup ((keysI ps).map V.str))
theorem PausesAt.up {K : PySem.W.Frag} {G G' : Hp} {a : Addr} {ps : List (Str × Int)} (s : Same G G') (h : PausesAt K G a ps) : PausesAt K G' a ps := let ⟨dx, dn, dr, h1, h2, h3⟩ := h; ⟨dx, dn, dr, s _ _ h1, s _ _ h2, s _ _ h3⟩
def spAlone : Sp := fun vs H Q _ => ∃ (d : Addr) (l : List (Str × Int)), vs = [.ref d] ∧ H d = some (.dK (kI l)) ∧ (∀ p ∈ l, NameOk p.1) ∧ l.length ≤ 60 ∧ ∀ H', Same H H' → Q .non H'
def PauMade (K : PySem.W.Frag) (H : Hp) (x dx : Addr) (l : List (Str × Int)) (Q : Hp → Prop) : Prop := ∀ (H' : Hp) (dn dr : Addr), (∀ b v, b ≠ x → H b = some v → H' b = some v) → H' x = some (.ins (cPau K) dx (pauF dn dr)) → H dn = none → H' dn = some (.dK (kI (nrm l))) → H dr = none → dr ≠ dn → H' dr = some (.tup ((keysI (nrm l)).map V.str)) → Q H'
def spPauB (K : PySem.W.Frag) : Sp := fun vs H Q _ => ∃ (x dx d : Addr) (l : List (Str × Int)), vs = [.ref x, .ref d] ∧ H d = some (.dK (kI l)) ∧ PaOk l ∧ H x = some (.ins (cPau K) dx []) ∧ PauMade K H x dx l (Q .non)
def spPauI (K : PySem.W.Frag) : SpK := fun vs kv H Q _ => ∃ (x dx : Addr) (l : List (Str × Int)), vs = [.ref x] ∧ kv = vI l ∧ PaOk l ∧ H x = some (.ins (cPau K) dx []) ∧ PauMade K H x dx l (Q .non)
section
variable {P : Program} {w : World} {K : PySem.W.Frag} {mg : Str → Option Value} {base : Heap}
theorem ok_need_names_alone (T : FX P K mg) : FnR P w K mg base CX0 2 (ga K "need_names_alone") spAlone := by
  refine fnr T.f_need_names_alone sc_need_names_alone (fun _ _ _ _ _ _ us hl => match us, hl with | [_], _ => rfl) (fun vs H Q E h => ?_) (fun cdv A outer s H vs Q E hr h => ?_)
  · obtain ⟨d, l, rfl, _⟩ := h
    rfl
  · obtain ⟨d, l, rfl, hd, hn, hl, k⟩ := h
    have nd := sc_need_names_alone.nd
    refine ⟨_, pss_one (ps_lock (ps_for PassesOwn.never rfl (pi_keys (pv 0)) (pg_name (i := 1) nd rfl (Or.inl rfl)) (pss_one (ps_if (pt_not (pt_val (cl "is_name" T (ok_is_name T) hr (pa_cons (pv 1) pa_nil)))) pss_never pss_nil)))), ?_⟩
    refine ⟨d, _, hd, trivial, fun od => ⟨_, rfl, d, od, rfl, .inl ⟨kI l, upd_same, ?_⟩⟩⟩
    refine for_it walk_keys (fun i σ H' => Same (upd H d (.frz od (.dK (kI l)))) H' ∧ ∃ v, σ = [some (.ref d), v]) ⟨same_rfl, _, rfl⟩ (fun i σ H' _ h => h.1 _ _ upd_same) ?_ ?_
    · rintro i v σ H2 H3 hi ⟨s2, v1, rfl⟩ ⟨rfl, key, val, hkv, rfl⟩
      obtain ⟨p, hp, e⟩ : ∃ p ∈ l, key = Sum.inr p.1 := by
        unfold kI at hkv
        rw [List.getElem?_map] at hkv
        cases e : l[i]? with
        | none => rw [e] at hkv; cases hkv
        | some p =>
          rw [e] at hkv
          cases hkv
          exact ⟨p, List.mem_of_getElem? e, rfl⟩
      subst e
      exact ⟨_, rfl, p.1, rfl, hn p hp, fun H4 s4 => ⟨_, rfl, same_tr s2 s4, _, rfl⟩⟩
    · rintro σ H' ⟨s2, _⟩
      exact ⟨s2 _ _ upd_same, k _ (unlock_same s2 hd)⟩
theorem ok_PausesInit (T : FX P K mg) : FnKw P w K mg base CX0 4 (ini K "Pauses") (spPauI K) := by
  have body : ∀ (cdv : Value) (A : Around) (outer : List Env) (s : Shared) (H : Hp) (vs : List V) (Q : VK) (E : XK), Room 3 (A.deeper (envOfC "Pauses.__init__" (defScope m_PausesInit) s.heap.objs.size (ini K "Pauses") cdv)) → spPauB K vs H Q E →
      ∃ t, PSs (cxOf CX0 P w K mg base ["this_one", "places", "found", "place"] "Pauses.__init__" (defScope m_PausesInit) (ini K "Pauses") cdv A outer s H E).nox (defBody m_PausesInit) t ∧ t { nx := fun _ H' => Q .non H', rt := Q } (start ["this_one", "places", "found", "place"] vs) H := by
    rintro cdv A outer s H vs Q E hr ⟨x, dx, d, l, rfl, hd, ok, hx, k⟩
    have nd := sc_PausesInit.nd
    have hu := hu_of hr
    have cP := T.cls "Pauses" (by decide +kernel)
    refine ⟨_, pss_cons (ps_expr (cl "need_names_alone" T (ok_need_names_alone T) (hr.mono (by decide)) (pa_cons (pv 1) pa_nil)))
      (pss_cons (ps_set (i := 2) nd rfl (Or.inl rfl) pe_dnewK)
      (pss_cons (ps_for PassesOwn.never rfl (pi_list (cb "sorted" T cr_sortedS (pa_cons (pe_lock (pe_lc (own := [("place", 3)]) (g := gName 3) (tt := tYes) (te := tCB rStr1 (tCons (tVar 3) tNil)) rfl nd (pi_keys (pv 1)) (blkOk_by (N := ["this_one", "places", "found", "place"]) (sc := defScope m_PausesInit) (by decide +kernel))
          (fun _ _ _ _ _ => pg_name (i := 3) nd rfl (Or.inl rfl)) (fun _ _ _ _ _ => pts_nil) (fun _ _ _ _ _ => ct "str" T SkE.call_str_str (pa_cons (pv 3) pa_nil)))) pa_nil))) (pg_name (i := 3) nd rfl (Or.inl rfl))
        (pss_cons (ps_if (pt_not (pt_val (cl "is_number" T (ok_is_number T) hr (pa_cons (pe_dget hu (pv 1) (pv 3) (fun _ _ => rfl)) pa_nil)))) pss_never pss_nil)
        (pss_one (ps_if (pt_cmpR op_ne (pe_dget hu (pv 1) (pv 3) (fun _ _ => rfl)) pe_int (nomark _)) (pss_one (ps_dput hu (pv 2) (pv 3) (pe_dget hu (pv 1) (pv 3) (fun _ _ => rfl)) rfl)) pss_nil))))
      (pss_cons (ps_fld (pv 0) (pv 2) rfl)
      (pss_one (ps_fld (pv 0) (ct "tuple" T call_tuple_of (pa_cons (ct "list" T (call_list_dK rfl) (pa_cons (pv 2) pa_nil)) pa_nil)) rfl))))), ?_⟩
    refine ⟨_, rfl, d, l, rfl, hd, ok.nm, ok.sz, fun H1 s1 dF hdF => ?_⟩
    have sz := ok.sz
    have lenK : (kI l).length = l.length := by unfold kI; rw [List.length_map]
    have hF0 : H dF = none := by
      cases z : H dF with
      | none => rfl
      | some o => rw [s1 _ _ z] at hdF; cases hdF
    have s2 : Same H (upd H1 dF (.dK [])) := same_new s1 hdF
    refine ⟨d, _, s2 _ _ hd, trivial, fun od => ⟨_, rfl, d, od, rfl, .inl ⟨kI l, upd_same, fun D hD => lc_f walk_keys (fun i => (l[i]?).map fun p => V.str p.1) hD (by omega) (fun H' s => s _ _ upd_same) ?_ ?_⟩⟩⟩
    · rintro i v Ha Hb kk k0 hi sa ⟨rfl, key, val, hkv, rfl⟩ h2 h3
      obtain ⟨p, hp, e⟩ : ∃ p, l[i]? = some p ∧ key = Sum.inr p.1 := by
        unfold kI at hkv
        rw [List.getElem?_map] at hkv
        cases e : l[i]? with
        | none => rw [e] at hkv; cases hkv
        | some p =>
          rw [e] at hkv
          cases hkv
          exact ⟨p, rfl, rfl⟩
      subst e
      exact ⟨rfl, _, rfl, _, rfl, h2 _ _ (by rw [hp]; rfl) same_rfl⟩
    intro H3 s3 hL3
    rw [lenK, range_map_] at hL3
    have nDB : D ≠ d := fun z => by rw [z, upd_same] at hD; cases hD
    refine ⟨s3 _ _ upd_same, D, keysI l, rfl, SqL.of ?_, by unfold keysI; rw [List.length_map]; omega, fun ys q6 hperm hsort hq6 => ?_⟩
    · rw [upd_ne nDB, hL3]
      unfold keysI
      rw [List.map_map]
      rfl
    have ey := sn_of hperm hsort
    subst ey
    have s6 := same_new (o := .lst ((sn (keysI l)).map V.str)) (unlock_same s3 (s2 _ _ hd)) hq6
    generalize hH6 : upd (upd H3 d (.dK (kI l))) q6 (.lst ((sn (keysI l)).map V.str)) = H6 at s6
    have h6 : H6 q6 = some (.lst ((sn (keysI l)).map V.str)) := by rw [← hH6]; exact upd_same
    have n6F : q6 ≠ dF := ne_of h6 (s6 _ _ (upd_same (H := H1) (a := dF) (o := .dK []))) (by intro z; cases z)
    have sn_len : (sn (keysI l)).length = l.length := by rw [sn_length]; unfold keysI; rw [List.length_map]
    have lenG : ∀ i, (((sn (keysI l)).take i).filter fun x => decide (nzI l x ≠ 0)).length ≤ 60 := fun i => by
      have h1 := List.length_filter_le (fun x => decide (nzI l x ≠ 0)) ((sn (keysI l)).take i)
      rw [List.length_take] at h1
      omega
    refine ⟨q6, rfl, ⟨_, SqL.of h6⟩, for_it walk_list (fun i σ H' => (∀ b o, b ≠ dF → H6 b = some o → H' b = some o) ∧ H' dF = some (.dK (kI ((((sn (keysI l)).take i).filter fun x => decide (nzI l x ≠ 0)).map fun x => (x, nzI l x)))) ∧ ∃ v, σ = [some (.ref x), some (.ref d), some (.ref dF), v])
      ⟨fun b o _ e => e, by rw [← hH6, upd_ne (Ne.symm n6F)]; exact (unlock_same s3 (s2 _ _ hd)) _ _ upd_same, _, rfl⟩ (fun i σ H' _ h => SqL.of (h.1 _ _ n6F h6)) ?_ ?_⟩
    · rintro i v σ H7 H8 hi ⟨k7, hF7, v3, rfl⟩ ⟨rfl, hv⟩
      rw [List.getElem?_map] at hv
      obtain ⟨y, hy, rfl⟩ : ∃ y, (sn (keysI l))[i]? = some y ∧ v = .str y := by
        cases e : (sn (keysI l))[i]? with
        | none => rw [e] at hv; cases hv
        | some y => rw [e] at hv; exact ⟨y, rfl, (Option.some.inj hv).symm⟩
      have hm : y ∈ keysI l := mem_sn.mp (List.mem_of_getElem? hy)
      obtain ⟨n, hn⟩ : ∃ n, lkI l y = some n := by
        cases e : lkI l y with
        | some n => exact ⟨n, rfl⟩
        | none => exact absurd hm (lkI_none.mp e)
      have hnz : nzI l y = n := by unfold nzI; rw [hn]; rfl
      have hlo := ok.lo _ (lkI_mem hn)
      have ndF : d ≠ dF := fun z => by rw [← z, hd] at hF0; cases hF0
      have hd8 : H8 d = some (.dK (kI l)) := k7 _ _ ndF (s6 _ _ (s2 _ _ hd))
      have get : DGet H8 d (.str y) (some (.int n)) := .inl ⟨kI l, Sum.inr y, .inl hd8, rfl, by rw [valV_kI, hn]; rfl⟩
      refine ⟨_, rfl, _, rfl, d, _, rfl, get, n, rfl, _, rfl, ?_⟩
      have e1 : (decide ((0 : Int) ≤ n) && decide (n ≤ 1000000000000)) = true := by simp [hlo.1, hlo.2]
      rw [e1]
      refine ⟨_, rfl, _, rfl, d, _, rfl, get, rfl, _, rfl, ?_⟩
      have il : i < (sn (keysI l)).length := (List.getElem?_eq_some_iff.mp hy).1
      have ey : (sn (keysI l))[i] = y := (List.getElem?_eq_some_iff.mp hy).2
      by_cases h0 : n = 0
      · have e2 : (!decide (V.int n = V.int 0)) = false := by simp [h0]
        rw [e2]
        refine ⟨k7, ?_, _, rfl⟩
        rw [hF7, List.take_succ_eq_append_getElem il, List.filter_append, ey]
        simp [hnz, h0]
      · have e2 : (!decide (V.int n = V.int 0)) = true := by simp [h0]
        rw [e2]
        have hnew : valV (kI ((((sn (keysI l)).take i).filter fun x => decide (nzI l x ≠ 0)).map fun x => (x, nzI l x))) (Sum.inr y) = none := by
          rw [valV_kI, lkI_map, if_neg]
          · rfl
          · intro hm2
            have h1 := (List.mem_filter.mp hm2).1
            have h2 := sn_nodup ok.nd
            obtain ⟨j, hj, e⟩ := List.getElem_of_mem h1
            rw [List.getElem_take] at e
            rw [List.length_take] at hj
            exact absurd (by rw [e, ey]) (List.pairwise_iff_getElem.mp h2 j i (by omega) il (by omega))
        refine ⟨_, rfl, _, rfl, d, _, rfl, get, _, rfl, _, rfl, dF, _, rfl, DPut.k (k := Sum.inr y) hF7 (by unfold kI; rw [List.length_map, List.length_map, sizeLine_eq]; have := lenG i; omega), ?_⟩
        refine ⟨fun b o hb e => by rw [upd_ne hb]; exact k7 b o hb e, ?_, _, rfl⟩
        rw [upd_same, putK_new _ hnew, List.take_succ_eq_append_getElem il, List.filter_append, ey]
        have ef : [y].filter (fun x => decide (nzI l x ≠ 0)) = [y] := by simp [hnz, h0]
        rw [ef, List.map_append]
        unfold kI
        rw [List.map_append]
        simp [hnz]
    · rintro σ H7 ⟨k7, hF7, v3, rfl⟩
      rw [List.length_map, List.take_length, sn_filter] at hF7
      have hx1 : x ≠ dF := fun z => by rw [← z, hx] at hF0; cases hF0
      have all : ∀ b o, H b = some o → H7 b = some o := fun b o e => k7 b o (fun z => by rw [z, hF0] at e; cases e) (s6 _ _ (s2 _ _ e))
      have hx7 := all _ _ hx
      refine ⟨_, rfl, _, rfl, x, _, dx, _, rfl, hx7, cP, T.noat ("Pauses", "numbers") (by decide +kernel), by decide, ?_⟩
      refine ⟨_, rfl, dF, _, rfl, by rw [upd_ne hx1.symm]; exact hF7, fun q hq => ⟨q, _, rfl, .inl ⟨SqL.of upd_same, fun dr hdr => ?_⟩⟩⟩
      have nxq : x ≠ q := fun z => by rw [← z, upd_same] at hq; cases hq
      have nxr : x ≠ dr := fun z => by rw [← z, upd_ne nxq, upd_same] at hdr; cases hdr
      have o7 : ∀ b o, b ≠ x → H7 b = some o → (upd (upd (upd H7 x (.ins (cPau K) dx (putF "numbers" (.ref dF) []))) q (.lst ((kI (nrm l)).map fun kv => kV kv.1))) dr (.tup ((kI (nrm l)).map fun kv => kV kv.1))) b = some o := fun b o hb e => by
        have h1 : (upd H7 x (.ins (cPau K) dx (putF "numbers" (.ref dF) []))) b = some o := by rw [upd_ne hb]; exact e
        have h2 := (same_new (o := .lst ((kI (nrm l)).map fun kv => kV kv.1)) same_rfl hq) _ _ h1
        exact (same_new same_rfl hdr) _ _ h2
      refine ⟨_, rfl, x, _, dx, _, rfl, by rw [upd_ne nxr, upd_ne nxq]; exact upd_same, cP, T.noat ("Pauses", "rows") (by decide +kernel), lt_putF (by decide), ?_⟩
      have hF9 := o7 _ _ hx1.symm hF7
      have hr0 : H dr = none := by
        cases z : H dr with
        | none => rfl
        | some o =>
          have h1 : (upd H7 x (.ins (cPau K) dx (putF "numbers" (.ref dF) []))) dr = some o := by rw [upd_ne nxr.symm]; exact all _ _ z
          have h2 := (same_new (o := .lst ((kI (nrm l)).map fun kv => kV kv.1)) same_rfl hq) _ _ h1
          exact absurd (h2.symm.trans hdr) (by intro y; cases y)
      have nrF : dr ≠ dF := fun z => by rw [z, upd_same] at hF9; cases hF9
      refine k _ dF dr (fun b o hb e => by rw [upd_ne hb]; exact o7 b o hb (all _ _ e)) upd_same hF0 ?_ hr0 nrF ?_
      · rw [upd_ne hx1.symm]
        exact hF9
      · rw [upd_ne nxr.symm, upd_same]
        have e : (kI (nrm l)).map (fun kv => kV kv.1) = (keysI (nrm l)).map V.str := by
          unfold kI keysI
          rw [List.map_map, List.map_map]
          rfl
        exact congrArg (fun z => some (HO.tup z)) e
  obtain ⟨fd, F⟩ := T.f_PausesInit
  obtain ⟨oc, od, dV, kV', doc, pm, an, cdv, ct, osl, rfl, lk, hcd, hD, hK⟩ := F.ex
  rcases hD with ⟨_, rfl⟩ | ⟨e, _⟩
  · have z := fn_kw (P := P) (w := w) (mg := mg) (base := base) (CX := CX0) (k := 3) (N := ["this_one", "places", "found", "place"]) (sp := spPauB K) lk hcd sc_PausesInit StX.cxUp_none
      (fun A outer s H vs Q E hr h => (let ⟨t, h1, h2⟩ := body cdv A outer s H vs Q E hr h; ⟨t, h1.nox, h2⟩))
    intro A outer s H us vs kw kv Q E hr e0 r rk h
    refine z A outer s H us vs kw kv Q E hr e0 r rk ?_
    obtain ⟨x, dx, l, rfl, rfl, ok, hx, k⟩ := h
    have sz := ok.sz
    refine ⟨_, rfl, by rw [vI_keys]; exact ok.nd, ?_, by unfold vI; rw [List.length_map, sizeLine_eq]; omega, fun d hd => ?_⟩
    · rw [vI_keys]
      intro hm
      obtain ⟨p, hp, e⟩ := List.mem_map.mp hm
      have := ok.nm p hp
      rw [e] at this
      exact absurd this (by decide +kernel)
    · have hxd : x ≠ d := ne_of_none hx hd
      refine ⟨x, dx, d, l, rfl, by rw [kw_vI]; exact upd_same, ok, by rw [upd_ne hxd]; exact hx, fun H' dn dr k1 hx' f1 hn f2 ne2 hr2 => k H' dn dr (fun b v hb e => k1 b v hb (by rw [upd_ne (ne_of_none e hd)]; exact e)) hx' ?_ hn ?_ ne2 hr2⟩
      · cases e : H dn with
        | none => rfl
        | some o => rw [upd_ne (ne_of_none e hd), e] at f1; cases f1
      · cases e : H dr with
        | none => rfl
        | some o => rw [upd_ne (ne_of_none e hd), e] at f2; cases f2
  · exact absurd rfl e
/-- a new Pauses at p -/
def NewPau (K : PySem.W.Frag) (G H : Hp) (ps : List (Str × Int)) (Q : VK) : Prop := ∀ H' G' p, Gx [] G H G' H' → H p = none → PausesAt K G' p ps → Q (.ref p) H'
def spPauOf (K : PySem.W.Frag) : Sp := fun vs H Q _ => ∃ (G : Hp) (d : Addr) (l : List (Str × Int)), vs = [.ref d] ∧ Same G H ∧ H d = some (.dK (kI l)) ∧ PaOk l ∧ NewPau K G H (nrm l) Q
def putI (l : List (Str × Int)) (x : Str) (n : Int) : List (Str × Int) := if x ∈ keysI l then l.map (fun p => if p.1 = x then (p.1, n) else p) else l ++ [(x, n)]
def spPauPut (K : PySem.W.Frag) : Sp := fun vs H Q _ => ∃ (G : Hp) (a : Addr) (x : Str) (n : Int) (l : List (Str × Int)), vs = [.ref a, .str x, .int n] ∧ Same G H ∧ PausesAt K G a l ∧ PaOk (putI l x n) ∧ NameOk x ∧ 0 ≤ n ∧ n ≤ 1000000000000 ∧ l.length ≤ 59 ∧ NewPau K G H (nrm (putI l x n)) Q
def spPauGet (K : PySem.W.Frag) : Sp := fun vs H Q _ => ∃ (a : Addr) (x : Str) (l : List (Str × Int)), vs = [.ref a, .str x] ∧ PausesAt K H a l ∧ NameOk x ∧ ∀ H', Same H H' → Q (.int (nzI l x)) H'
def spPauEq (K : PySem.W.Frag) : Sp := fun vs H Q _ => ∃ (a b : Addr) (l : List (Str × Int)), vs = [.ref a, .ref b] ∧ PausesAt K H a l ∧ PausesAt K H b l ∧ (keysI l).Nodup ∧ Q (.bl true) H
theorem pau_made {G H H' : Hp} {x dx : Addr} {l : List (Str × Int)} {dn dr : Addr} {u : HO} {M : List Addr} {G0 H0 : Hp} (g : Gx M G0 H0 G H) (hx : H x = none) (hdx : H dx = none) (hne : dx ≠ x)
    (k1 : ∀ b v, b ≠ x → (upd (upd H dx u) x (.ins (cPau K) dx [])) b = some v → H' b = some v) (hx' : H' x = some (.ins (cPau K) dx (pauF dn dr))) (f1 : (upd (upd H dx u) x (.ins (cPau K) dx [])) dn = none) (hn : H' dn = some (.dK (kI l)))
    (f2 : (upd (upd H dx u) x (.ins (cPau K) dx [])) dr = none) (n2 : dr ≠ dn) (hr : H' dr = some (.tup ((keysI l).map V.str))) :
    ∃ G', Gx M G0 H0 G' H' ∧ PausesAt K G' x l := by
  have g2 := g.made hx hdx hne k1 hx'
  have nxd : x ≠ dn := fun z => by rw [← z, upd_same] at f1; cases f1
  have hdn : H dn = none := by
    have h2 : dn ≠ dx := fun z => by rw [z, upd_ne hne, upd_same] at f1; cases f1
    rw [upd_ne nxd.symm, upd_ne h2] at f1
    exact f1
  have nxr : x ≠ dr := fun z => by rw [← z, upd_same] at f2; cases f2
  have hdr : H dr = none := by
    have h2 : dr ≠ dx := fun z => by rw [z, upd_ne hne, upd_same] at f2; cases f2
    rw [upd_ne nxr.symm, upd_ne h2] at f2
    exact f2
  exact ⟨_, (g2.frz hn (g.old hdn)).frz hr (g.old hdr), dx, dn, dr, by rw [upd_ne nxr, upd_ne nxd]; exact upd_same, by rw [upd_ne n2.symm]; exact upd_same, upd_same⟩
theorem ok_PausesOf (T : FX P K mg) : FnR P w K mg base CX0 6 (st_ K "Pauses" "of") (spPauOf K) := by
  refine fnr T.f_PausesOf sc_PausesOf (fun _ _ _ _ _ _ us hl => match us, hl with | [_], _ => rfl) (fun vs H Q E h => ?_) (fun cdv A outer s H vs Q E hr h => ?_)
  · obtain ⟨G, d, l, rfl, _⟩ := h
    rfl
  · obtain ⟨G, d, l, rfl, gs, hd, ok, k⟩ := h
    refine ⟨_, pss_cons (ps_if (pt_not (pt_val (cb "isinstance" T call_isi (pa_cons (pv 0) (pa_cons (gt "dict" "dict" T) pa_nil))))) pss_never pss_nil)
      (pss_cons (ps_expr (cl "need_names_alone" T (ok_need_names_alone T) (hr.mono (by decide)) (pa_cons (pv 0) pa_nil)))
      (pss_one (ps_ret (pe_makeDD (T.mkr "Pauses" (by decide +kernel)) (ok_PausesInit T) hr rfl (T.glo "Pauses" (by decide +kernel)) pass0 (pv 0) (by decide) kw_star)))), ?_⟩
    refine ⟨_, rfl, _, _, _, _, true, rfl, .ty _, .base (.dK hd), kit_ty (by decide +kernel), _, rfl, ?_⟩
    refine ⟨_, rfl, d, l, rfl, hd, ok.nm, ok.sz, fun H1 s1 => ?_⟩
    have g1 : Gx [] G H G H1 := (Gx.refl gs).same s1
    intro p hp
    have npd : d ≠ p := ne_of_none (s1 _ _ hd) hp
    refine ⟨_, rfl, d, vI l, rfl, npd, by rw [upd_ne npd, kw_vI]; exact s1 _ _ hd, upd_same, fun x dx hx hdx hne => ?_⟩
    have g2 : Gx [] G H G (upd (upd H1 p (.dK [])) p (.dK (kwKeys (vI l)))) := (g1.new hp).wr (same_non g1.gh hp) (.inr (g1.old hp))
    refine ⟨x, dx, l, rfl, rfl, ok, upd_same, fun H' dn dr k1 hx' f1 hn f2 n2 hr2 => ⟨rfl, ?_⟩⟩
    obtain ⟨G', g3, pa⟩ := pau_made g2 hx hdx hne k1 hx' f1 hn f2 n2 hr2
    exact k H' G' x g3 (g2.old hx) pa
end
end N1
set_option maxHeartbeats 1000000
namespace N1
open PySem PySem.Spec PyProof.Rows L2
theorem any_kI (l : List (Str × Int)) (x : Str) : ((kI l).any fun kv => decide (kv.1 = Sum.inr x)) = decide (x ∈ keysI l) := by
  unfold kI keysI
  induction l with
  | nil => rfl
  | cons p r ih =>
    rw [List.map_cons, List.any_cons, ih]
    by_cases e : p.1 = x
    · subst e; simp
    · have e2 : ¬ x = p.1 := fun z => e z.symm
      simp [e, e2]
theorem kI_put (l : List (Str × Int)) (x : Str) (n : Int) : putK (kI l) (Sum.inr x) (.int n) = kI (putI l x n) := by
  unfold putK putI
  rw [any_kI]
  by_cases h : x ∈ keysI l
  · rw [if_pos (by simpa using h), if_pos h]
    unfold kI
    rw [List.map_map, List.map_map]
    refine List.map_congr_left fun p _ => ?_
    by_cases e : p.1 = x
    · subst e; simp
    · simp [e]
  · rw [if_neg (by simpa using h), if_neg h]
    unfold kI
    rw [List.map_append]
    rfl
section
variable {P : Program} {w : World} {K : PySem.W.Frag} {mg : Str → Option Value} {base : Heap}
theorem ok_PausesGetitem (T : FX P K mg) : FnR P w K mg base CX0 2 (ma K (ga K "Pauses") "__getitem__") (spPauGet K) := by
  refine fnr T.f_PausesGetitem sc_PausesGetitem (fun _ _ _ _ _ _ us hl => match us, hl with | [_, _], _ => rfl) (fun vs H Q E h => ?_) (fun cdv A outer s H vs Q E hr h => ?_)
  · obtain ⟨a, x, l, rfl, _⟩ := h
    rfl
  · obtain ⟨a, x, l, rfl, ⟨da, dn, dr, ha, hn, _⟩, hx, k⟩ := h
    have cP := T.cls "Pauses" (by decide +kernel)
    refine ⟨_, pss_cons (ps_if (pt_not (pt_val (cl "is_name" T (ok_is_name T) hr (pa_cons (pv 1) pa_nil)))) pss_never pss_nil)
      (pss_one (ps_ret (pe_dget2 (hu_of hr) (pe_fld (pv 0) rfl) (pv 1) pe_int ⟨rfl, rfl, rfl, rfl⟩))), ?_⟩
    refine ⟨_, rfl, x, rfl, hx, fun H1 s1 => ⟨_, rfl, ?_⟩⟩
    refine ⟨_, rfl, a, _, da, _, _, rfl, s1 _ _ ha, cP, T.noat ("Pauses", "numbers") (by decide +kernel), rfl, dn, rfl, .inl ⟨_, .inl (s1 _ _ hn)⟩, _, rfl, _, .inl ⟨kI l, Sum.inr x, .inl (s1 _ _ hn), rfl, rfl⟩, ?_⟩
    rw [valV_kI]
    have e : ((lkI l x).map V.int).getD (.int 0) = .int (nzI l x) := by unfold nzI; cases lkI l x <;> rfl
    rw [e]
    exact k _ s1
theorem ok_PausesEq (T : FX P K mg) : FnR P w K mg base CX0 1 (ma K (ga K "Pauses") "__eq__") (spPauEq K) := by
  refine fnr T.f_PausesEq sc_PausesEq (fun _ _ _ _ _ _ us hl => match us, hl with | [_, _], _ => rfl) (fun vs H Q E h => ?_) (fun cdv A outer s H vs Q E hr h => ?_)
  · obtain ⟨a, b, l, rfl, _⟩ := h
    rfl
  · obtain ⟨a, b, l, rfl, ⟨da, dn, dr, ha, hn, _⟩, ⟨da', dn', dr', ha', hn', _⟩, hnd, k⟩ := h
    have cP := T.cls "Pauses" (by decide +kernel)
    have nN := T.noat ("Pauses", "numbers") (by decide +kernel)
    refine ⟨_, pss_one (ps_ret (pe_and (cb "isinstance" T call_isi (pa_cons (pv 1) (pa_cons (gc "Pauses" T) pa_nil))) (pe_one (pe_cmpR (op_eq_dictA hr.units0) (pe_fld (pv 0) rfl) (pe_fld (pv 1) rfl) (nomark _))))), ?_⟩
    refine ⟨_, rfl, _, _, _, _, true, rfl, .own _, isi_ok T T.isP cP ha', T.isP.k1, _, rfl, ?_⟩
    refine ⟨_, rfl, a, _, da, _, _, rfl, ha, cP, nN, rfl, _, rfl, b, _, da', _, _, rfl, ha', cP, nN, rfl, dn, dn', kI l, kI l, rfl, rfl, hn, hn', rfl, fun p hp => ?_, k⟩
    obtain ⟨q, hq, e⟩ := List.mem_map.mp (show p ∈ l.map (fun p => ((Sum.inr p.1 : Key), V.int p.2)) from hp)
    subst e
    refine ⟨?_, rfl⟩
    rw [valV_kI, lkI_of hnd hq]
    rfl
end
end N1
set_option maxHeartbeats 2000000
/-! the words of a line -/
namespace N1
open PySem PySem.Spec PyProof.Rows L2 TL
abbrev cWds (K : PySem.W.Frag) := ga K "Words"
def wdsF (ln : V) (wl : Addr) (i : Nat) : List (Str × V) := [("line", ln), ("words", .ref wl), ("spot", .int i)]
/-- at x the words ws, the next one the i-th -/
def WdsAt (K : PySem.W.Frag) (H : Hp) (x dx : Addr) (ln : V) (wl : Addr) (ws : List Str) (i : Nat) : Prop := H x = some (.ins (cWds K) dx (wdsF ln wl i)) ∧ H wl = some (.lst (ws.map V.str)) ∧ ws.length ≤ 1000
/-- the next word is taken -/
def Took (K : PySem.W.Frag) (H : Hp) (x dx : Addr) (ln : V) (wl : Addr) (i : Nat) (Q : Hp → Prop) : Prop := ∀ H', (∀ b v, b ≠ x → H b = some v → H' b = some v) → H' x = some (.ins (cWds K) dx (wdsF ln wl (i + 1))) → Q H'
def wV : Option Str → V
  | some y => .str y
  | none => .non
def spWdsI (K : PySem.W.Frag) : Sp := fun vs H Q _ => ∃ (x dx : Addr) (ln : V) (a : Str), vs = [.ref x, ln, .str a] ∧ a.length + 2 ≤ sizeLine ∧ H x = some (.ins (cWds K) dx []) ∧
  ∀ (H' : Hp) (wl : Addr), (∀ b v, b ≠ x → H b = some v → H' b = some v) → H' x = some (.ins (cWds K) dx (wdsF ln wl 0)) → H wl = none → H' wl = some (.lst ((Txt.split a sP).map V.str)) → Q .non H'
def spNext (K : PySem.W.Frag) : Sp := fun vs H Q _ => ∃ (x dx wl : Addr) (ln : V) (ws : List Str) (i : Nat), vs = [.ref x] ∧ WdsAt K H x dx ln wl ws i ∧ Q (wV ws[i]?) H
def spTakeW (K : PySem.W.Frag) : Sp := fun vs H Q _ => ∃ (x dx wl c : Addr) (ln : V) (ws cs : List Str) (i : Nat) (y : Str), vs = [.ref x, .ref c] ∧ WdsAt K H x dx ln wl ws i ∧ SqT K H c (cs.map V.str) ∧ ws[i]? = some y ∧ y ∈ cs ∧ c ≠ x ∧ Took K H x dx ln wl i (Q (.str y))
def spTakeNm (K : PySem.W.Frag) : Sp := fun vs H Q _ => ∃ (x dx wl : Addr) (ln : V) (ws : List Str) (i : Nat) (y a : Str), vs = [.ref x, .str a] ∧ WdsAt K H x dx ln wl ws i ∧ ws[i]? = some y ∧ NameOk y ∧ a.cps.toList < y.cps.toList ∧ Took K H x dx ln wl i (Q (.str y))
def spTakeN (K : PySem.W.Frag) : Sp := fun vs H Q _ => ∃ (x dx wl : Addr) (ln : V) (ws : List Str) (i : Nat) (n a b : Int), vs = [.ref x, .int a, .int b] ∧ WdsAt K H x dx ln wl ws i ∧ ws[i]? = some (num n) ∧ 0 ≤ n ∧ n ≤ 1000000000000 ∧ a ≤ n ∧ n ≤ b ∧ Took K H x dx ln wl i (Q (.int n))
def spTakeE (K : PySem.W.Frag) : Sp := fun vs H Q _ => ∃ (x dx wl : Addr) (ln : V) (ws : List Str), vs = [.ref x] ∧ WdsAt K H x dx ln wl ws ws.length ∧ Q .non H
structure WdC (K : PySem.W.Frag) : Prop where
  c : Cls K (cWds K)
  n1 : NoAttr K (cWds K) "line"
  n2 : NoAttr K (cWds K) "words"
  n3 : NoAttr K (cWds K) "spot"
section
variable {P : Program} {w : World} {K : PySem.W.Frag} {mg : Str → Option Value} {base : Heap}
theorem wdC (T : FX P K mg) : WdC K := ⟨T.cls "Words" (by decide +kernel), T.noat ("Words", "line") (by decide +kernel), T.noat ("Words", "words") (by decide +kernel), T.noat ("Words", "spot") (by decide +kernel)⟩
theorem ok_WordsInit (T : FX P K mg) : FnR P w K mg base CX0 1 (ini K "Words") (spWdsI K) := by
  refine fnr T.f_WordsInit sc_WordsInit (fun _ _ _ _ _ _ us hl => match us, hl with | [_, _, _], _ => rfl) (fun vs H Q E h => ?_) (fun cdv A outer s H vs Q E hr h => ?_)
  · obtain ⟨x, dx, ln, a, rfl, _⟩ := h
    rfl
  · obtain ⟨x, dx, ln, a, rfl, hl, hx, k⟩ := h
    have c := wdC T
    refine ⟨_, pss_cons (ps_fld (pv 0) (pv 1) rfl) (pss_cons (ps_fld (pv 0) (pe_split (pv 2) pe_str) rfl) (pss_one (ps_fld (pv 0) pe_int rfl))), ?_⟩
    refine ⟨_, rfl, _, rfl, x, _, dx, _, rfl, hx, c.c, c.n1, by decide, ?_⟩
    refine ⟨_, rfl, ⟨_, rfl⟩, _, _, rfl, rfl, by decide +kernel, hl, fun wl hwl => ?_⟩
    have nx : x ≠ wl := fun z => by rw [← z, upd_same] at hwl; cases hwl
    refine ⟨_, rfl, x, _, dx, _, rfl, (by rw [upd_ne nx]; exact upd_same), c.c, c.n2, lt_putF (by decide), ?_⟩
    refine ⟨_, rfl, x, _, dx, _, rfl, upd_same, c.c, c.n3, lt_putF (lt_putF (by decide)), ?_⟩
    have hwl0 : H wl = none := by rw [upd_ne nx.symm] at hwl; exact hwl
    refine k _ wl (fun b v hb e => ?_) upd_same hwl0 ?_
    · have nb : b ≠ wl := fun z => by rw [z, hwl0] at e; cases e
      rw [upd_ne hb, upd_ne hb, upd_ne nb, upd_ne hb]
      exact e
    · rw [upd_ne nx.symm, upd_ne nx.symm]
      exact upd_same
theorem ok_WordsNext (T : FX P K mg) : FnR P w K mg base CX0 1 (ma K (ga K "Words") "next_word") (spNext K) := by
  refine fnr T.f_WordsNext_word sc_WordsNext_word (fun _ _ _ _ _ _ us hl => match us, hl with | [_], _ => rfl) (fun vs H Q E h => ?_) (fun cdv A outer s H vs Q E hr h => ?_)
  · obtain ⟨x, dx, wl, ln, ws, i, rfl, _⟩ := h
    rfl
  · obtain ⟨x, dx, wl, ln, ws, i, rfl, ⟨hx, hw, hl⟩, k⟩ := h
    have c := wdC T
    refine ⟨_, pss_one (ps_ret (pe_ifExp (pt_cmpR op_lt (pe_fld (pv 0) rfl) (cb "len" T call_len (pa_cons (pe_fld (pv 0) rfl) pa_nil)) (nomark _)) (pe_ix ix_list (pe_fld (pv 0) rfl) (pe_fld (pv 0) rfl) (fun _ _ => rfl)) pe_non)), ?_⟩
    refine ⟨_, rfl, x, _, dx, _, _, rfl, hx, c.c, c.n3, rfl, _, rfl, x, _, dx, _, _, rfl, hx, c.c, c.n2, rfl, _, _, rfl, .inl ⟨_, SqL.of hw, rfl⟩, _, _, rfl, rfl, _, rfl, ?_⟩
    rw [List.length_map]
    cases e : ws[i]? with
    | some y =>
      have hi : i < ws.length := (List.getElem?_eq_some_iff.mp e).1
      rw [show decide ((i : Int) < (ws.length : Int)) = true from by simp; omega]
      refine iT ⟨_, rfl, x, _, dx, _, _, rfl, hx, c.c, c.n2, rfl, _, rfl, x, _, dx, _, _, rfl, hx, c.c, c.n3, rfl, wl, _, i, .str y, rfl, rfl, SqL.of hw, ?_, ?_⟩
      · unfold atI ixN
        rw [List.length_map, if_pos (by omega), if_pos (by omega)]
        show (ws.map V.str)[(i : Int).toNat]? = _
        rw [Int.toNat_natCast, List.getElem?_map, e]
        rfl
      · rw [e] at k
        exact k
    | none =>
      have hi : ws.length ≤ i := List.getElem?_eq_none_iff.mp e
      rw [show decide ((i : Int) < (ws.length : Int)) = false from by simp; omega]
      rw [e] at k
      exact iF k
end
end N1
set_option maxHeartbeats 2000000
/-! defs with one default -/
namespace N1
open PySem PySem.Spec PyProof.Rows L2
section
variable {P : Program} {w : World} {K : PySem.W.Frag} {mg : Str → Option Value} {base : Heap}
/-- a def with one default, every parameter given -/
theorem fnrD {x qual : Str} {st : Stmt} {f : Addr} {N ps : List Str} {k : Nat} {sp : Sp} {v0 : V} (F : IsDef K f x qual st [v0]) (S : FnScope N ps (defScope st))
    (hb : ∀ (T : Addr) (kV doc pm : Value) (an : Option Addr) (cdv ct : Value) (us its : List Value), us.length = ps.length → its.length = ([v0] : List V).length →
      ∃ k, bindArgs (PySem.W.fnOf x qual (defArgs st) (defBody st) (defScope st) (.ref T) kV doc pm an cdv ct) ⟨us, []⟩ = seqItems? (.ref T) >>= k ∧ k (some its.toArray) = pure (ps.zip (us ++ its.drop 1)))
    (len : ∀ vs H Q E, sp vs H Q E → vs.length = ps.length)
    (hbody : ∀ (cdv : Value) (A : Around) (outer : List Env) (s : Shared) (H : Hp) (vs : List V) (Q : VK) (E : XK), Room k (A.deeper (envOfC qual (defScope st) s.heap.objs.size f cdv)) → sp vs H Q E →
      ∃ t, PSs (cxOf CX0 P w K mg base N qual (defScope st) f cdv A outer s H E).nox (defBody st) t ∧ t { nx := fun _ H' => Q .non H', rt := Q } (start N vs) H) :
    FnR P w K mg base CX0 (k + 1) f sp := by
  obtain ⟨fd, F⟩ := F
  obtain ⟨ds, rd, hbd⟩ := F.binds1 (ps := ps) ps.length 1 (by simp) (by simp) hb
  cases rd
  have z := (F.ok (CX := CX0) S len fun cdv A outer s H vs Q E hr h => (let ⟨t, h1, h2⟩ := hbody cdv A outer s H vs Q E hr h; ⟨t, h1.nox, h2⟩)).raw hbd .nil
  exact z.imp fun vs H Q E h => by rw [List.append_nil]; exact h
/-- a def with one default, the default taken -/
theorem fnrDm {x qual : Str} {st : Stmt} {f : Addr} {N ps : List Str} {k : Nat} {sp : Sp} {v0 : V} (F : IsDef K f x qual st [v0]) (S : FnScope N ps (defScope st)) (hl : 1 ≤ ps.length)
    (hb : ∀ (T : Addr) (kV doc pm : Value) (an : Option Addr) (cdv ct : Value) (us its : List Value), us.length = ps.length - 1 → its.length = ([v0] : List V).length →
      ∃ k, bindArgs (PySem.W.fnOf x qual (defArgs st) (defBody st) (defScope st) (.ref T) kV doc pm an cdv ct) ⟨us, []⟩ = seqItems? (.ref T) >>= k ∧ k (some its.toArray) = pure (ps.zip (us ++ its.drop 0)))
    (len : ∀ vs H Q E, sp vs H Q E → vs.length = ps.length)
    (hbody : ∀ (cdv : Value) (A : Around) (outer : List Env) (s : Shared) (H : Hp) (vs : List V) (Q : VK) (E : XK), Room k (A.deeper (envOfC qual (defScope st) s.heap.objs.size f cdv)) → sp vs H Q E →
      ∃ t, PSs (cxOf CX0 P w K mg base N qual (defScope st) f cdv A outer s H E).nox (defBody st) t ∧ t { nx := fun _ H' => Q .non H', rt := Q } (start N vs) H) :
    FnR P w K mg base CX0 (k + 1) f (fun vs H Q E => sp (vs ++ [v0]) H Q E) := by
  obtain ⟨fd, F⟩ := F
  obtain ⟨ds, rd, hbd⟩ := F.binds1 (ps := ps) (ps.length - 1) 0 (by simp) (by simp; omega) hb
  exact (F.ok (CX := CX0) S len fun cdv A outer s H vs Q E hr h => (let ⟨t, h1, h2⟩ := hbody cdv A outer s H vs Q E hr h; ⟨t, h1.nox, h2⟩)).raw hbd rd
end
end N1
set_option maxHeartbeats 2000000
/-! words, names, numbers taken -/
namespace N1
open PySem PySem.Spec PyProof.Rows L2 TL
theorem flat_strs : ∀ cs : List Str, (cs.map V.str).all flatV = true
  | [] => rfl
  | c :: cs => by
    rw [List.map_cons, List.all_cons, flat_strs cs]
    rfl
theorem took_of {K : PySem.W.Frag} {H : Hp} {x dx wl : Addr} {ln : V} {i : Nat} {Q : Hp → Prop} (k : Took K H x dx ln wl i Q) : Q (upd H x (.ins (cWds K) dx (putF "spot" (.int ((i : Int) + 1)) (wdsF ln wl i)))) :=
  k _ (fun b v hb e => by rw [upd_ne hb]; exact e) upd_same
section
variable {P : Program} {w : World} {K : PySem.W.Frag} {mg : Str → Option Value} {base : Heap}
theorem ok_take_word (T : FX P K mg) : FnR P w K mg base CX0 2 (ma K (ga K "Words") "take_word") (spTakeW K) := by
  refine fnr T.f_WordsTake_word sc_WordsTake_word (fun _ _ _ _ _ _ us hl => match us, hl with | [_, _], _ => rfl) (fun vs H Q E h => ?_) (fun cdv A outer s H vs Q E hr h => ?_)
  · obtain ⟨x, dx, wl, cc, ln, ws, cs, i, y, rfl, _⟩ := h
    rfl
  · obtain ⟨x, dx, wl, cc, ln, ws, cs, i, y, rfl, wa, hc, hy, hm, ncx, k⟩ := h
    have c := wdC T
    have nd := sc_WordsTake_word.nd
    have hx := wa.1
    refine ⟨_, pss_cons (ps_set (i := 2) nd rfl (Or.inl rfl) (pe_methR0 (pv 0) c.c (T.meth ("Words", "next_word") (by decide +kernel)) (ok_WordsNext T) hr pass0))
      (pss_cons (ps_if (pw_or (pt_cmp (pc_isN (pv 2))) (pw_or1 (pt_cmpR op_notIn_seq (pv 2) (pv 1) rfl))).pt pss_never pss_nil)
      (pss_cons (ps_fld (pv 0) (pe_op op_add (pe_fld (pv 0) rfl) pe_int) rfl) (pss_one (ps_ret (pv 2))))), ?_⟩
    refine ⟨_, rfl, x, dx, _, rfl, hx, rfl, x, dx, wl, ln, ws, i, rfl, wa, ?_⟩
    rw [hy]
    refine ⟨_, rfl, _, rfl, ?_⟩
    rw [show decide (wV (some y) = V.non) = false from by simp [wV]]
    refine iF ⟨_, rfl, _, rfl, cc, _, rfl, .inr hc, rfl, flat_strs cs, _, rfl, ?_⟩
    rw [show (if true = true then !inV (wV (some y)) (cs.map V.str) else inV (wV (some y)) (cs.map V.str)) = false from by
      show (!inV (.str y) (cs.map V.str)) = false
      rw [inV_str, decide_eq_true hm]
      rfl]
    refine iF ⟨_, rfl, x, _, dx, _, _, rfl, hx, c.c, c.n3, rfl, _, _, rfl, rfl, _, rfl, x, _, dx, wdsF ln wl i, rfl, hx, c.c, c.n3, (show (3 : Nat) < 1000 by decide), ?_⟩
    exact ⟨_, rfl, took_of k⟩
theorem take_name_body (T : FX P K mg) (cdv : Value) (A : Around) (outer : List Env) (s : Shared) (H : Hp) (vs : List V) (Q : VK) (E : XK) (hr : Room 1 (A.deeper (envOfC "Words.take_name" (defScope m_WordsTake_name) s.heap.objs.size (ma K (ga K "Words") "take_name") cdv))) (h : spTakeNm K vs H Q E) :
    ∃ t, PSs (cxOf CX0 P w K mg base ["self", "above", "word"] "Words.take_name" (defScope m_WordsTake_name) (ma K (ga K "Words") "take_name") cdv A outer s H E).nox (defBody m_WordsTake_name) t ∧ t { nx := fun _ H' => Q .non H', rt := Q } (start ["self", "above", "word"] vs) H := by
  obtain ⟨x, dx, wl, ln, ws, i, y, a, rfl, wa, hy, hn, ha, k⟩ := h
  have c := wdC T
  have nd := sc_WordsTake_name.nd
  have hx := wa.1
  refine ⟨_, pss_cons (ps_set (i := 2) nd rfl (Or.inl rfl) (pe_methR0 (pv 0) c.c (T.meth ("Words", "next_word") (by decide +kernel)) (ok_WordsNext T) hr pass0))
    (pss_cons (ps_if (pw_or (pt_cmp (pc_isN (pv 2))) (pw_or (pt_not (pt_val (cl "is_name" T (ok_is_name T) hr (pa_cons (pv 2) pa_nil)))) (pw_or1 (pt_cmpR op_le_str (pv 2) (pv 1) (nomark _))))).pt pss_never pss_nil)
    (pss_cons (ps_fld (pv 0) (pe_op op_add (pe_fld (pv 0) rfl) pe_int) rfl) (pss_one (ps_ret (pv 2))))), ?_⟩
  refine ⟨_, rfl, x, dx, _, rfl, hx, rfl, x, dx, wl, ln, ws, i, rfl, wa, ?_⟩
  rw [hy]
  refine ⟨_, rfl, _, rfl, ?_⟩
  rw [show decide (wV (some y) = V.non) = false from by simp [wV]]
  refine iF ⟨_, rfl, y, rfl, hn, fun H1 s1 => ⟨true, rfl, _, rfl, _, rfl, y, a, rfl, rfl, _, rfl, ?_⟩⟩
  rw [show (!decide (a.cps.toList < y.cps.toList)) = false from by rw [decide_eq_true ha]; rfl]
  have hx1 := s1 _ _ hx
  refine iF ⟨_, rfl, x, _, dx, _, _, rfl, hx1, c.c, c.n3, rfl, _, _, rfl, rfl, _, rfl, x, _, dx, wdsF ln wl i, rfl, hx1, c.c, c.n3, (show (3 : Nat) < 1000 by decide), ?_⟩
  exact ⟨_, rfl, k _ (fun b v hb e => by rw [upd_ne hb]; exact s1 _ _ e) upd_same⟩
theorem take_name_len {vs : List V} {H : Hp} {Q : VK} {E : XK} (h : spTakeNm K vs H Q E) : vs.length = 2 := by
  obtain ⟨x, dx, wl, ln, ws, i, y, a, rfl, _⟩ := h
  rfl
theorem ok_take_name (T : FX P K mg) : FnR P w K mg base CX0 2 (ma K (ga K "Words") "take_name") (spTakeNm K) :=
  fnrD T.f_WordsTake_name sc_WordsTake_name (fun _ _ _ _ _ _ _ us its h1 h2 => match us, its, h1, h2 with | [_, _], [_], _, _ => ⟨_, rfl, rfl⟩) (fun vs H Q E h => take_name_len h) (take_name_body T)
theorem ok_take_name0 (T : FX P K mg) : FnR P w K mg base CX0 2 (ma K (ga K "Words") "take_name") (fun vs H Q E => spTakeNm K (vs ++ [.str Str.empty]) H Q E) :=
  fnrDm T.f_WordsTake_name sc_WordsTake_name (by decide) (fun _ _ _ _ _ _ _ us its h1 h2 => match us, its, h1, h2 with | [_], [_], _, _ => ⟨_, rfl, rfl⟩) (fun vs H Q E h => take_name_len h) (take_name_body T)
theorem ok_take_number (T : FX P K mg) : FnR P w K mg base CX0 2 (ma K (ga K "Words") "take_number") (spTakeN K) := by
  refine fnr T.f_WordsTake_number sc_WordsTake_number (fun _ _ _ _ _ _ us hl => match us, hl with | [_, _, _], _ => rfl) (fun vs H Q E h => ?_) (fun cdv A outer s H vs Q E hr h => ?_)
  · obtain ⟨x, dx, wl, ln, ws, i, n, a, b, rfl, _⟩ := h
    rfl
  · obtain ⟨x, dx, wl, ln, ws, i, n, a, b, rfl, wa, hy, h0, h12, ha, hb, k⟩ := h
    have c := wdC T
    have nd := sc_WordsTake_number.nd
    have hx := wa.1
    refine ⟨_, pss_cons (ps_set (i := 3) nd rfl (Or.inl rfl) (pe_methR0 (pv 0) c.c (T.meth ("Words", "next_word") (by decide +kernel)) (ok_WordsNext T) hr pass0))
      (pss_cons (ps_set (i := 4) nd rfl (Or.inl rfl) (pe_ifExp (pt_cmp (pc_isN (pv 3))) pe_non (cl "number_in" T (ok_number_in T) hr (pa_cons (pv 3) (pa_cons (pv 1) (pa_cons (pv 2) pa_nil))))))
      (pss_cons (ps_if (pt_cmp (pc_isN (pv 4))) pss_never pss_nil)
      (pss_cons (ps_fld (pv 0) (pe_op op_add (pe_fld (pv 0) rfl) pe_int) rfl) (pss_one (ps_ret (pv 4)))))), ?_⟩
    refine ⟨_, rfl, x, dx, _, rfl, hx, rfl, x, dx, wl, ln, ws, i, rfl, wa, ?_⟩
    rw [hy]
    refine ⟨_, rfl, _, rfl, ?_⟩
    rw [show decide (wV (some (num n)) = V.non) = false from by simp [wV]]
    refine iF ⟨_, rfl, _, rfl, _, rfl, n, a, b, rfl, h0, h12, ha, hb, fun H1 s1 => ?_⟩
    refine ⟨_, rfl, _, rfl, ?_⟩
    rw [show decide (V.int n = V.non) = false from by simp]
    have hx1 := s1 _ _ hx
    refine iF ⟨_, rfl, x, _, dx, _, _, rfl, hx1, c.c, c.n3, rfl, _, _, rfl, rfl, _, rfl, x, _, dx, wdsF ln wl i, rfl, hx1, c.c, c.n3, (show (3 : Nat) < 1000 by decide), ?_⟩
    exact ⟨_, rfl, k _ (fun b v hb e => by rw [upd_ne hb]; exact s1 _ _ e) upd_same⟩
theorem ok_take_end (T : FX P K mg) : FnR P w K mg base CX0 1 (ma K (ga K "Words") "take_end") (spTakeE K) := by
  refine fnr T.f_WordsTake_end sc_WordsTake_end (fun _ _ _ _ _ _ us hl => match us, hl with | [_], _ => rfl) (fun vs H Q E h => ?_) (fun cdv A outer s H vs Q E hr h => ?_)
  · obtain ⟨x, dx, wl, ln, ws, rfl, _⟩ := h
    rfl
  · obtain ⟨x, dx, wl, ln, ws, rfl, ⟨hx, hw, hl⟩, k⟩ := h
    have c := wdC T
    refine ⟨_, pss_one (ps_if (pt_cmpR op_lt (pe_fld (pv 0) rfl) (cb "len" T call_len (pa_cons (pe_fld (pv 0) rfl) pa_nil)) (nomark _)) pss_never pss_nil), ?_⟩
    refine ⟨_, rfl, x, _, dx, _, _, rfl, hx, c.c, c.n3, rfl, _, rfl, x, _, dx, _, _, rfl, hx, c.c, c.n2, rfl, _, _, rfl, .inl ⟨_, SqL.of hw, rfl⟩, _, _, rfl, rfl, _, rfl, ?_⟩
    rw [List.length_map, show decide ((ws.length : Int) < (ws.length : Int)) = false from by simp]
    exact iF k
end
end N1
set_option maxHeartbeats 2000000
/-! a trip taken from its words -/
namespace N1
open PySem PySem.Spec PyProof.Rows L2 TL
section
variable {K : PySem.W.Frag} {H H' : Hp} {x dx wl : Addr} {ln : V} {ws : List Str} {i : Nat}
theorem WdsAt.ne (h : WdsAt K H x dx ln wl ws i) : wl ≠ x := ne_of h.2.1 h.1 (by intro z; cases z)
theorem WdsAt.took (h : WdsAt K H x dx ln wl ws i) (k : ∀ b v, b ≠ x → H b = some v → H' b = some v) (e : H' x = some (.ins (cWds K) dx (wdsF ln wl (i + 1)))) : WdsAt K H' x dx ln wl ws (i + 1) := ⟨e, k _ _ h.ne h.2.1, h.2.2⟩
theorem WdsAt.same (h : WdsAt K H x dx ln wl ws i) (s : Same H H') : WdsAt K H' x dx ln wl ws i := ⟨s _ _ h.1, s _ _ h.2.1, h.2.2⟩
/-- all but the words stay -/
theorem kx_of (k : ∀ b v, b ≠ x → H b = some v → H' b = some v) : Kp [x] H H' := fun b v hb e => k b v (by simpa using hb) e
end
/-- the words of t behind its name, from the i-th on -/
def RunW (ws : List Str) (i : Nat) (t : TR) : Prop := ws[i]? = some t.start ∧ ws[i + 1]? = some (num t.leaves) ∧ ws[i + 2]? = some (num t.takes) ∧ ws[i + 3]? = some t.goal
def StayW (ws : List Str) (i : Nat) (t : TR) : Prop := ws[i]? = some t.start ∧ ws[i + 1]? = some (num t.leaves) ∧ ws[i + 2]? = some (num t.takes)
def spTakeT (K : PySem.W.Frag) (b : Bool) (j : Nat) (W : List Str → Nat → TR → Prop) : Sp := fun vs H Q _ => ∃ (x dx wl : Addr) (ln : V) (ws : List Str) (i : Nat) (n : Int) (t : TR), vs = [.ref x, .str t.name, .int n] ∧ WdsAt K H x dx ln wl ws i ∧ t.Ok ∧ t.run = b ∧ W ws i t ∧ t.leaves ≤ n - 1 ∧
  ∀ H' p, Kp [x] H H' → WdsAt K H' x dx ln wl ws (i + j) → H p = none → TripAt K H' p t → Q (.ref p) H'
section
variable {P : Program} {w : World} {K : PySem.W.Frag} {mg : Str → Option Value} {base : Heap}
theorem name_up {y : Str} (h : NameOk y) : (Str.empty).cps.toList < y.cps.toList := by
  have h1 := h.1
  cases e : y.cps.toList with
  | nil =>
    have : y.length = 0 := by rw [len_tl]; show y.cps.toList.length = 0; rw [e]; rfl
    omega
  | cons a l => exact List.nil_lt_cons _ _
theorem ok_take_run (T : FX P K mg) : FnR P w K mg base CX0 7 (ga K "take_run") (spTakeT K true 4 RunW) := by
  refine fnr T.f_take_run sc_take_run (fun _ _ _ _ _ _ us hl => match us, hl with | [_, _, _], _ => rfl) (fun vs H Q E h => ?_) (fun cdv A outer s H vs Q E hr h => ?_)
  · obtain ⟨x, dx, wl, ln, ws, i, n, t, rfl, _⟩ := h
    rfl
  · obtain ⟨x, dx, wl, ln, ws, i, n, t, rfl, wa, ok, hb, ⟨w1, w2, w3, w4⟩, hn, k⟩ := h
    have c := wdC T
    have nd := sc_take_run.nd
    have tn := fun (a : PySem.W.Frag) => a
    refine ⟨_, pss_cons (ps_set (i := 3) nd rfl (Or.inl rfl) (pe_methR0 (pv 0) c.c (T.meth ("Words", "take_name") (by decide +kernel)) (ok_take_name0 T) (hr.mono (by decide)) pass0))
      (pss_cons (ps_set (i := 4) nd rfl (Or.inl rfl) (pe_methR (pv 0) c.c (T.meth ("Words", "take_number") (by decide +kernel)) (ok_take_number T) (hr.mono (by decide)) pass0 (pa_cons pe_int (pa_cons (pe_op op_sub (pv 2) pe_int) pa_nil))))
      (pss_cons (ps_set (i := 5) nd rfl (Or.inl rfl) (pe_methR (pv 0) c.c (T.meth ("Words", "take_number") (by decide +kernel)) (ok_take_number T) (hr.mono (by decide)) pass0 (pa_cons pe_int (pa_cons (gi "MOST" 1000000000000 T) pa_nil))))
      (pss_one (ps_ret (StX.pe_makeR (T.mkr "Run" (by decide +kernel)) (ok_RunInit T) hr rfl (T.glo "Run" (by decide +kernel)) pass0
        (pa_cons (pv 1) (pa_cons (pv 3) (pa_cons (pv 4) (pa_cons (pv 5) (pa_cons (pe_methR0 (pv 0) c.c (T.meth ("Words", "take_name") (by decide +kernel)) (ok_take_name0 T) (hr.mono (by decide)) pass0) pa_nil)))))))))), ?_⟩
    have hx := wa.1
    refine ⟨_, rfl, x, dx, _, rfl, hx, rfl, x, dx, wl, ln, ws, i, t.start, Str.empty, rfl, wa, w1, ok.s, name_up ok.s, fun H1 k1 e1 => ?_⟩
    have wa1 := wa.took k1 e1
    refine ⟨_, rfl, x, dx, _, rfl, e1, rfl, _, rfl, _, _, rfl, rfl, x, dx, wl, ln, ws, i + 1, t.leaves, 0, n - 1, rfl, wa1, w2, ok.l0, ok.l1, ok.l0, hn, fun H2 k2 e2 => ?_⟩
    have wa2 := wa1.took k2 e2
    refine ⟨_, rfl, x, dx, _, rfl, e2, rfl, x, dx, wl, ln, ws, i + 2, t.takes, 1, 1000000000000, rfl, wa2, w3, by have := ok.t0; omega, ok.t1, ok.t0, ok.t1, fun H3 k3 e3 => ?_⟩
    have wa3 := wa2.took k3 e3
    refine ⟨_, rfl, _, rfl, _, rfl, _, rfl, _, rfl, x, dx, _, rfl, e3, rfl, x, dx, wl, ln, ws, i + 3, t.goal, Str.empty, rfl, wa3, w4, ok.g, name_up ok.g, fun H4 k4 e4 => ?_⟩
    have wa4 := wa3.took k4 e4
    have k04 : ∀ b v, b ≠ x → H b = some v → H4 b = some v := fun b v hb e => k4 b v hb (k3 b v hb (k2 b v hb (k1 b v hb e)))
    refine fun p dy hp hdy hne => ⟨p, dy, t.name, t.start, t.leaves, t.takes, t.goal, rfl, ⟨ok.n, ok.s, ok.g, ok.l0, ok.l1, ok.t0, ok.t1⟩, upd_same, fun H5 h1 h2 => ⟨rfl, ?_⟩⟩
    have s5 := made_same hp hdy h1
    refine k H5 p (fun b v hb e => s5 _ _ (k04 b v (by simpa using hb) e)) (wa4.same s5) ?_ ⟨dy, ?_⟩
    · by_cases z : p = x
      · rw [z, e4] at hp
        cases hp
      · cases y : H p with
        | none => rfl
        | some v => rw [k04 p v z y] at hp; cases hp
    · rw [h2, show cTR K t = cRun K by unfold cTR; rw [hb]; rfl]
      rfl
theorem ok_take_stay (T : FX P K mg) : FnR P w K mg base CX0 7 (ga K "take_stay") (spTakeT K false 3 StayW) := by
  refine fnr T.f_take_stay sc_take_stay (fun _ _ _ _ _ _ us hl => match us, hl with | [_, _, _], _ => rfl) (fun vs H Q E h => ?_) (fun cdv A outer s H vs Q E hr h => ?_)
  · obtain ⟨x, dx, wl, ln, ws, i, n, t, rfl, _⟩ := h
    rfl
  · obtain ⟨x, dx, wl, ln, ws, i, n, t, rfl, wa, ok, hb, ⟨w1, w2, w3⟩, hn, k⟩ := h
    have c := wdC T
    have nd := sc_take_stay.nd
    refine ⟨_, pss_cons (ps_set (i := 3) nd rfl (Or.inl rfl) (pe_methR0 (pv 0) c.c (T.meth ("Words", "take_name") (by decide +kernel)) (ok_take_name0 T) (hr.mono (by decide)) pass0))
      (pss_cons (ps_set (i := 4) nd rfl (Or.inl rfl) (pe_methR (pv 0) c.c (T.meth ("Words", "take_number") (by decide +kernel)) (ok_take_number T) (hr.mono (by decide)) pass0 (pa_cons pe_int (pa_cons (pe_op op_sub (pv 2) pe_int) pa_nil))))
      (pss_one (ps_ret (StX.pe_makeR (T.mkr "Stay" (by decide +kernel)) (ok_StayInit T) hr rfl (T.glo "Stay" (by decide +kernel)) pass0
        (pa_cons (pv 1) (pa_cons (pv 3) (pa_cons (pv 4) (pa_cons (pe_methR (pv 0) c.c (T.meth ("Words", "take_number") (by decide +kernel)) (ok_take_number T) (hr.mono (by decide)) pass0 (pa_cons pe_int (pa_cons (gi "MOST" 1000000000000 T) pa_nil))) pa_nil)))))))), ?_⟩
    have hx := wa.1
    refine ⟨_, rfl, x, dx, _, rfl, hx, rfl, x, dx, wl, ln, ws, i, t.start, Str.empty, rfl, wa, w1, ok.s, name_up ok.s, fun H1 k1 e1 => ?_⟩
    have wa1 := wa.took k1 e1
    refine ⟨_, rfl, x, dx, _, rfl, e1, rfl, _, rfl, _, _, rfl, rfl, x, dx, wl, ln, ws, i + 1, t.leaves, 0, n - 1, rfl, wa1, w2, ok.l0, ok.l1, ok.l0, hn, fun H2 k2 e2 => ?_⟩
    have wa2 := wa1.took k2 e2
    refine ⟨_, rfl, _, rfl, _, rfl, _, rfl, x, dx, _, rfl, e2, rfl, x, dx, wl, ln, ws, i + 2, t.takes, 1, 1000000000000, rfl, wa2, w3, by have := ok.t0; omega, ok.t1, ok.t0, ok.t1, fun H3 k3 e3 => ?_⟩
    have wa3 := wa2.took k3 e3
    have k03 : ∀ b v, b ≠ x → H b = some v → H3 b = some v := fun b v hb e => k3 b v hb (k2 b v hb (k1 b v hb e))
    have hg := ok.st hb
    refine fun p dy hp hdy hne => ⟨p, dy, t.name, t.start, t.leaves, t.takes, rfl, ⟨ok.n, ok.s, ok.s, ok.l0, ok.l1, ok.t0, ok.t1⟩, upd_same, fun H5 h1 h2 => ⟨rfl, ?_⟩⟩
    have s5 := made_same hp hdy h1
    refine k H5 p (fun b v hb e => s5 _ _ (k03 b v (by simpa using hb) e)) (wa3.same s5) ?_ ⟨dy, ?_⟩
    · by_cases z : p = x
      · rw [z, e3] at hp
        cases hp
      · cases y : H p with
        | none => rfl
        | some v => rw [k03 p v z y] at hp; cases hp
    · rw [h2, show cTR K t = cStay K by unfold cTR; rw [hb]; rfl]
      show some (HO.ins (cStay K) dy (f5 t.name t.start t.leaves t.takes t.start)) = some (HO.ins (cStay K) dy (f5 t.name t.start t.leaves t.takes t.goal))
      rw [hg]
end
end N1
set_option maxHeartbeats 2000000
/-! a trip's line, a day's line -/
namespace N1
open PySem PySem.Spec PyProof.Rows L2 TL
def spTakeTrip (K : PySem.W.Frag) : Sp := fun vs H Q _ => ∃ (x dx wl : Addr) (ln : V) (n : Int) (t : TR) (a : Str), vs = [.ref x, .int n, .str a] ∧ WdsAt K H x dx ln wl (tripW t) 0 ∧ t.Ok ∧ t.leaves ≤ n - 1 ∧ a.cps.toList < t.name.cps.toList ∧
  ∀ H' p, Kp [x] H H' → H p = none → TripAt K H' p t → Q (.ref p) H'
def spTakeLen (K : PySem.W.Frag) : Sp := fun vs H Q _ => ∃ (x dx wl : Addr) (ln : V) (n : Int), vs = [.ref x] ∧ WdsAt K H x dx ln wl (["day", num n] : List Str) 0 ∧ 1 ≤ n ∧ n ≤ 1000000000000 ∧ ∀ H', Kp [x] H H' → Q (.int n) H'
theorem kp_tr {M : List Addr} {H H1 H2 : Hp} (a : Kp M H H1) (b : Kp M H1 H2) : Kp M H H2 := fun x o hx e => b x o hx (a x o hx e)
theorem kp_same {M : List Addr} {H H1 : Hp} (s : Same H H1) : Kp M H H1 := fun x o _ e => s x o e
theorem none_kx {H H' : Hp} {x p : Addr} {o : HO} (k : Kp [x] H H') (hx : H' x = some o) (h : H' p = none) : H p = none := by
  by_cases z : p = x
  · rw [z, hx] at h
    cases h
  · cases y : H p with
    | none => rfl
    | some v => rw [k p v (by simpa using z) y] at h; cases h
section
variable {P : Program} {w : World} {K : PySem.W.Frag} {mg : Str → Option Value} {base : Heap}
theorem ok_take_trip (T : FX P K mg) : FnR P w K mg base CX0 8 (ga K "take_trip") (spTakeTrip K) := by
  refine fnr T.f_take_trip sc_take_trip (fun _ _ _ _ _ _ us hl => match us, hl with | [_, _, _], _ => rfl) (fun vs H Q E h => ?_) (fun cdv A outer s H vs Q E hr h => ?_)
  · obtain ⟨x, dx, wl, ln, n, t, a, rfl, _⟩ := h
    rfl
  · obtain ⟨x, dx, wl, ln, n, t, a, rfl, wa, ok, hn, ha, k⟩ := h
    have c := wdC T
    have nd := sc_take_trip.nd
    refine ⟨_, pss_cons (ps_set (i := 3) nd rfl (Or.inl rfl) (pe_methR (pv 0) c.c (T.meth ("Words", "take_word") (by decide +kernel)) (ok_take_word T) (hr.mono (by decide)) pass0 (pa_cons (pe_tup (pa_cons pe_str (pa_cons pe_str pa_nil))) pa_nil)))
      (pss_cons (ps_set (i := 4) nd rfl (Or.inl rfl) (pe_methR (pv 0) c.c (T.meth ("Words", "take_name") (by decide +kernel)) (ok_take_name T) (hr.mono (by decide)) pass0 (pa_cons (pv 2) pa_nil)))
      (pss_cons (ps_set (i := 5) nd rfl (Or.inl rfl) (pe_ifExp (pt_cmpR op_eq (pv 3) pe_str (nomark _)) (cl "take_run" T (ok_take_run T) hr (pa_cons (pv 0) (pa_cons (pv 4) (pa_cons (pv 1) pa_nil)))) (cl "take_stay" T (ok_take_stay T) hr (pa_cons (pv 0) (pa_cons (pv 4) (pa_cons (pv 1) pa_nil))))))
      (pss_cons (ps_expr (pe_methR0 (pv 0) c.c (T.meth ("Words", "take_end") (by decide +kernel)) (ok_take_end T) (hr.mono (by decide)) pass0))
      (pss_one (ps_ret (pv 5)))))), ?_⟩
    have hx := wa.1
    refine ⟨_, rfl, x, dx, _, rfl, hx, rfl, (show (2 : Nat) ≤ sizeLine by decide), fun cc hcc => ?_⟩
    have ncx : cc ≠ x := fun z => by rw [z, hx] at hcc; cases hcc
    have s1 : Same H (upd H cc (.tup [V.str "run", V.str "stay"])) := same_new same_rfl hcc
    have wa1 := wa.same s1
    cases hb : t.run with
    | true =>
      have ew : tripW t = (["run", t.name, t.start, num t.leaves, num t.takes, t.goal] : List Str) := by unfold tripW; rw [hb]; rfl
      rw [ew] at wa wa1
      refine ⟨x, dx, wl, cc, ln, _, ["run", "stay"], 0, "run", rfl, wa1, SqT.of upd_same, rfl, by decide, ncx, fun H2 k2 e2 => ?_⟩
      have wa2 := wa1.took k2 e2
      refine ⟨_, rfl, x, dx, _, rfl, e2, rfl, _, rfl, x, dx, wl, ln, _, 1, t.name, a, rfl, wa2, rfl, ok.n, ha, fun H3 k3 e3 => ?_⟩
      have wa3 := wa2.took k3 e3
      refine ⟨_, rfl, rfl, _, rfl, ?_⟩
      rw [show decide (V.str "run" = V.str "run") = true from by decide]
      refine iT ⟨_, rfl, _, rfl, _, rfl, x, dx, wl, ln, _, 2, n, t, rfl, wa3, ok, hb, ⟨rfl, rfl, rfl, rfl⟩, hn, fun H4 p k4 wa4 hp tp => ?_⟩
      refine ⟨_, rfl, x, dx, _, rfl, wa4.1, rfl, x, dx, wl, ln, _, rfl, wa4, ?_⟩
      have k03 : Kp [x] H H3 := fun b v hb' e => k3 b v (by simpa using hb') (k2 b v (by simpa using hb') (s1 _ _ e))
      exact ⟨_, rfl, k H4 p (kp_tr k03 k4) (none_kx k03 e3 hp) tp⟩
    | false =>
      have ew : tripW t = (["stay", t.name, t.start, num t.leaves, num t.takes] : List Str) := by unfold tripW; rw [hb]; rfl
      rw [ew] at wa wa1
      refine ⟨x, dx, wl, cc, ln, _, ["run", "stay"], 0, "stay", rfl, wa1, SqT.of upd_same, rfl, by decide, ncx, fun H2 k2 e2 => ?_⟩
      have wa2 := wa1.took k2 e2
      refine ⟨_, rfl, x, dx, _, rfl, e2, rfl, _, rfl, x, dx, wl, ln, _, 1, t.name, a, rfl, wa2, rfl, ok.n, ha, fun H3 k3 e3 => ?_⟩
      have wa3 := wa2.took k3 e3
      refine ⟨_, rfl, rfl, _, rfl, ?_⟩
      rw [show decide (V.str "stay" = V.str "run") = false from by decide]
      refine iF ⟨_, rfl, _, rfl, _, rfl, x, dx, wl, ln, _, 2, n, t, rfl, wa3, ok, hb, ⟨rfl, rfl, rfl⟩, hn, fun H4 p k4 wa4 hp tp => ?_⟩
      refine ⟨_, rfl, x, dx, _, rfl, wa4.1, rfl, x, dx, wl, ln, _, rfl, wa4, ?_⟩
      have k03 : Kp [x] H H3 := fun b v hb' e => k3 b v (by simpa using hb') (k2 b v (by simpa using hb') (s1 _ _ e))
      exact ⟨_, rfl, k H4 p (kp_tr k03 k4) (none_kx k03 e3 hp) tp⟩
theorem ok_take_length (T : FX P K mg) : FnR P w K mg base CX0 3 (ga K "take_length") (spTakeLen K) := by
  refine fnr T.f_take_length sc_take_length (fun _ _ _ _ _ _ us hl => match us, hl with | [_], _ => rfl) (fun vs H Q E h => ?_) (fun cdv A outer s H vs Q E hr h => ?_)
  · obtain ⟨x, dx, wl, ln, n, rfl, _⟩ := h
    rfl
  · obtain ⟨x, dx, wl, ln, n, rfl, wa, h1, h12, k⟩ := h
    have c := wdC T
    have nd := sc_take_length.nd
    refine ⟨_, pss_cons (ps_expr (pe_methR (pv 0) c.c (T.meth ("Words", "take_word") (by decide +kernel)) (ok_take_word T) hr pass0 (pa_cons (pe_tup (pa_cons pe_str pa_nil)) pa_nil)))
      (pss_cons (ps_set (i := 1) nd rfl (Or.inl rfl) (pe_methR (pv 0) c.c (T.meth ("Words", "take_number") (by decide +kernel)) (ok_take_number T) hr pass0 (pa_cons pe_int (pa_cons (gi "MOST" 1000000000000 T) pa_nil))))
      (pss_cons (ps_expr (pe_methR0 (pv 0) c.c (T.meth ("Words", "take_end") (by decide +kernel)) (ok_take_end T) (hr.mono (by decide)) pass0))
      (pss_one (ps_ret (pv 1))))), ?_⟩
    have hx := wa.1
    refine ⟨_, rfl, x, dx, _, rfl, hx, rfl, (show (1 : Nat) ≤ sizeLine by decide), fun cc hcc => ?_⟩
    have ncx : cc ≠ x := fun z => by rw [z, hx] at hcc; cases hcc
    have s1 : Same H (upd H cc (.tup [V.str "day"])) := same_new same_rfl hcc
    have wa1 := wa.same s1
    refine ⟨x, dx, wl, cc, ln, _, ["day"], 0, "day", rfl, wa1, SqT.of upd_same, rfl, by decide, ncx, fun H2 k2 e2 => ?_⟩
    have wa2 := wa1.took k2 e2
    refine ⟨_, rfl, x, dx, _, rfl, e2, rfl, x, dx, wl, ln, _, 1, n, 1, 1000000000000, rfl, wa2, rfl, by omega, h12, h1, h12, fun H3 k3 e3 => ?_⟩
    have wa3 := wa2.took k3 e3
    refine ⟨_, rfl, x, dx, _, rfl, e3, rfl, x, dx, wl, ln, _, rfl, wa3, ?_⟩
    exact ⟨_, rfl, k H3 fun b v hb e => k3 b v (by simpa using hb) (k2 b v (by simpa using hb) (s1 _ _ e))⟩
end
end N1
set_option maxHeartbeats 4000000
/-! the trips that lines tell -/
namespace N1
open PySem PySem.Spec PyProof.Rows L2 TL
/-- names ascend -/
def Asc (ts : List TR) : Prop := ∀ (i : Nat) (t u : TR), ts[i]? = some t → ts[i + 1]? = some u → t.name.cps.toList < u.name.cps.toList
theorem atI_nat {α : Type} {l : List α} {i : Nat} {x : α} (h : l[i]? = some x) : atI l (i : Int) = some x := by
  have hi := (List.getElem?_eq_some_iff.mp h).1
  unfold atI ixN
  rw [if_pos (by omega), if_pos (by omega)]
  show l[(i : Int).toNat]? = _
  rw [Int.toNat_natCast]
  exact h
theorem atI_last {α : Type} {l : List α} {x : α} (h : l[l.length - 1]? = some x) : atI l (-1) = some x := by
  have hi := (List.getElem?_eq_some_iff.mp h).1
  unfold atI ixN
  rw [if_neg (by omega), if_pos (by omega)]
  show l[(-1 + (l.length : Int)).toNat]? = _
  rw [show (-1 + (l.length : Int)).toNat = l.length - 1 by omega]
  exact h
def spTold (K : PySem.W.Frag) : Sp := fun vs H Q _ => ∃ (l : Addr) (n : Int) (ts : List TR) (rest : List Str), vs = [.ref l, .int ((ts.length + 1 : Nat) : Int)] ∧ H l = some (.lst ((tabL n ts ++ rest).map V.str)) ∧ 1 ≤ n ∧ n ≤ 1000000000000 ∧ (∀ t ∈ ts, t.Ok) ∧ (∀ t ∈ ts, t.leaves < n) ∧ ts.length ≤ 40 ∧ Asc ts ∧ (∀ x ∈ tabL n ts, x.length ≤ 100) ∧
  ∀ H' p fl as, Same H H' → H p = none → H fl = none → H' p = some (.tup [.int n, .ref fl]) → H' fl = some (.lst (as.map V.ref)) → Trs K H' as ts → Q (.ref p) H'
theorem kx_new {H H1 H2 : Hp} {x : Addr} (hx : H x = none) (s : Same H H1) (k : Kp [x] H1 H2) : Same H H2 := fun b v e => by
  have h : b ≠ x := fun z => by rw [z, hx] at e; cases e
  exact k b v (by simpa using h) (s _ _ e)
/-- new words of a line -/
theorem words_new {K : PySem.W.Frag} {H H' : Hp} {x dx wl : Addr} {ln : V} {ws : List Str} (hx : H x = none) (hdx : H dx = none) (k1 : ∀ b v, b ≠ x → (upd (upd H dx (.own x)) x (.ins (cWds K) dx [])) b = some v → H' b = some v)
    (h2 : H' x = some (.ins (cWds K) dx (wdsF ln wl 0))) (h3 : H' wl = some (.lst (ws.map V.str))) (hl : ws.length ≤ 1000) : Same H H' ∧ WdsAt K H' x dx ln wl ws 0 :=
  ⟨made_same hx hdx k1, h2, h3, hl⟩
section
variable {P : Program} {w : World} {K : PySem.W.Frag} {mg : Str → Option Value} {base : Heap}
theorem ok_trips_told (T : FX P K mg) : FnR P w K mg base CX0 9 (ga K "trips_told") (spTold K) := by
  refine fnr T.f_trips_told sc_trips_told (fun _ _ _ _ _ _ us hl => match us, hl with | [_, _], _ => rfl) (fun vs H Q E h => ?_) (fun cdv A outer s H vs Q E hr h => ?_)
  · obtain ⟨l, n, ts, rest, rfl, _⟩ := h
    rfl
  · obtain ⟨l, n, ts, rest, rfl, hl, h1, h12, tok, hlv, l40, asc, len, k⟩ := h
    have c := wdC T
    have nd := sc_trips_told.nd
    have hu := hu_of hr
    refine ⟨_, pss_cons (ps_par (i := 2) (j := 3) rfl nd rfl rfl (by decide) rfl rfl (pa_cons (cl "take_length" T (ok_take_length T) (hr.mono (by decide)) (pa_cons (StX.pe_makeR (T.mkr "Words" (by decide +kernel)) (ok_WordsInit T) (hr.mono (by decide)) rfl (T.glo "Words" (by decide +kernel)) pass0 (pa_cons pe_int (pa_cons (pe_ix ix_list (pv 0) pe_int (fun _ _ => rfl)) pa_nil))) pa_nil)) (pa_cons (pe_lst pa_nil) pa_nil)) rfl)
      (pss_cons (ps_for PassesOwn.never rfl (pi_range2 (by rfl) (T.fre "range" (by decide +kernel)) (pa_cons pe_int (pa_cons (pv 1) pa_nil))) (pg_name (i := 4) nd rfl (Or.inl rfl))
        (pss_cons (ps_set (i := 5) nd rfl (Or.inl rfl) (StX.pe_makeR (T.mkr "Words" (by decide +kernel)) (ok_WordsInit T) (hr.mono (by decide)) rfl (T.glo "Words" (by decide +kernel)) pass0 (pa_cons (pv 4) (pa_cons (pe_ix ix_list (pv 0) (pv 4) (fun _ _ => rfl)) pa_nil))))
        (pss_cons (ps_if (pt_cmpR op_eq (cb "len" T call_len (pa_cons (pv 3) pa_nil)) (gi "MOST_TRIPS_reader" 40 T) (nomark _)) pss_never pss_nil)
        (pss_one (ps_expr (pe_bm PySem.F.plainAttrs_list PySem.F.slot_list_append PySem.F.type_list_append mt_append (pv 3) (pa_cons (cl "take_trip" T (ok_take_trip T) hr (pa_cons (pv 5) (pa_cons (pv 2) (pa_cons (pe_ifExp (pt_cmpR (op_neNil (Nat.lt_of_succ_lt hu)) (pv 3) (pe_lst pa_nil) (nomark _)) (pe_fld (pe_ix ix_list (pv 3) (pe_un un_neg pe_int) (fun _ _ => rfl)) rfl) pe_str) pa_nil)))) pa_nil)))))))
      (pss_one (ps_ret (pe_tup (pa_cons (pv 2) (pa_cons (pv 3) pa_nil)))))), ?_⟩
    have hd0 : (tabL n ts ++ rest)[0]? = some (dayT n) := rfl
    have dlen : (dayT n).length ≤ 100 := len _ List.mem_cons_self
    refine ⟨_, rfl, l, _, 0, .str (dayT n), rfl, rfl, SqL.of hl, ?_, fun x dx hx hdx hne => ⟨x, dx, .int 0, dayT n, rfl, by rw [sizeLine_eq]; omega, upd_same, fun H1 wl k1 e1 n1 w1 => ⟨rfl, ?_⟩⟩⟩
    · have := atI_nat (l := (tabL n ts ++ rest).map V.str) (i := 0) (x := .str (dayT n)) (by rw [List.getElem?_map, hd0]; rfl)
      exact this
    · rw [day_words (by omega)] at w1
      obtain ⟨s1, wa1⟩ := words_new hx hdx k1 e1 w1 (show (2 : Nat) ≤ 1000 by decide)
      refine ⟨x, dx, wl, _, n, rfl, wa1, h1, h12, fun H2 k2 => ⟨by decide, fun fl hfl => ⟨_, _, rfl, ?_⟩⟩⟩
      have s2 : Same H H2 := kx_new hx s1 k2
      have hfl0 : H fl = none := same_non s2 hfl
      have s3 : Same H (upd H2 fl (.lst [])) := same_new s2 hfl
      have en : (((ts.length + 1 : Nat) : Int) - 1).toNat = ts.length := by omega
      refine ⟨_, rfl, 1, ((ts.length + 1 : Nat) : Int), rfl, ⟨by decide, by decide, by omega, by omega⟩, ?_⟩
      rw [en]
      refine for_range (lo := 1) (n := ts.length) (fun i σ H' => ∃ as, Same H H' ∧ H' fl = some (.lst (as.map V.ref)) ∧ as.length = i ∧ Trs K H' as (ts.take i) ∧ ∃ v4 v5, σ = [some (.ref l), some (.int ((ts.length + 1 : Nat) : Int)), some (.int n), some (.ref fl), v4, v5])
        ⟨[], s3, upd_same, rfl, ⟨rfl, fun i a t e => by simp at e⟩, _, _, rfl⟩ ?_ ?_
      · rintro i σ H4 hi ⟨as, s4, hfl4, hla, htr, v4, v5, rfl⟩
        obtain ⟨t, ht⟩ : ∃ t, ts[i]? = some t := ⟨ts[i], List.getElem?_eq_getElem hi⟩
        have htm := List.mem_of_getElem? ht
        have tokt := tok t htm
        have et : ts.take (i + 1) = ts.take i ++ [t] := by
          rw [List.take_succ, ht]
          rfl
        have hline : (tabL n ts ++ rest)[1 + i]? = some (tripT t) := by
          rw [show 1 + i = i + 1 by omega]
          unfold tabL
          rw [List.cons_append, List.getElem?_cons_succ, List.getElem?_append_left (by rw [List.length_map]; exact hi), List.getElem?_map, ht]
          rfl
        have tlen : (tripT t).length ≤ 100 := len _ (by unfold tabL; exact List.mem_cons_of_mem _ (List.mem_map.mpr ⟨t, htm, rfl⟩))
        refine ⟨_, rfl, _, rfl, _, rfl, l, _, _, .str (tripT t), rfl, rfl, SqL.of (s4 _ _ hl), ?_, fun x dx hx hdx hne => ⟨x, dx, _, tripT t, rfl, by rw [sizeLine_eq]; omega, upd_same, fun H5 wl k5 e5 n5 w5 => ⟨rfl, ?_⟩⟩⟩
        · have e : (1 + (i : Int)) = ((1 + i : Nat) : Int) := by omega
          rw [e]
          exact atI_nat (by rw [List.getElem?_map, hline]; rfl)
        · rw [trip_words tokt] at w5
          obtain ⟨s5, wa5⟩ := words_new hx hdx k5 e5 w5 (by unfold tripW; split <;> simp)
          have hfl5 := s5 _ _ hfl4
          refine ⟨_, rfl, _, _, rfl, .inl ⟨_, SqL.of hfl5, rfl⟩, rfl, _, rfl, ?_⟩
          rw [show decide (V.int (((as.map V.ref).length : Nat) : Int) = V.int 40) = false from by
            rw [List.length_map, hla]
            have : ¬ ((i : Nat) : Int) = 40 := by omega
            simp [this]]
          refine iF ?_
          cases i with
          | zero =>
            have ha0 : as = [] := List.eq_nil_of_length_eq_zero hla
            refine ⟨_, rfl, .inl ⟨rfl, _, SqL.of hfl5⟩, _, rfl, _, rfl, _, rfl, by decide, fun l2 hl2 => ⟨fl, l2, [], rfl, rfl, SqL.of (by rw [upd_ne (ne_of_none hfl5 hl2), hfl5, ha0]; rfl), SqL.of upd_same, _, rfl, ?_⟩⟩
            have s6 : Same H5 (upd H5 l2 (.lst [])) := same_new same_rfl hl2
            refine iF ?_
            refine ⟨x, dx, wl, _, n, t, Str.empty, rfl, wa5.same s6, tokt, by have := hlv t htm; omega, name_up tokt.n, fun H8 p k8 hp tp => ?_⟩
            have s48 : Same H4 H8 := kx_new hx (same_tr s5 s6) k8
            have hfl8 := s48 _ _ hfl4
            refine ⟨fl, _, _, rfl, rfl, hfl8, by rw [List.length_map, hla, sizeLine_eq]; omega, ?_⟩
            have np : fl ≠ p := fun z => by rw [z] at hfl8; obtain ⟨dt, e⟩ := tp; rw [hfl8] at e; cases e
            have s9 : Same H (upd H8 fl (.lst (as.map V.ref ++ [V.ref p]))) := same_at (same_tr s4 s48) hfl0
            refine ⟨as ++ [p], s9, by rw [upd_same, List.map_append]; rfl, by rw [List.length_append, hla]; rfl, ⟨by rw [List.length_append, htr.1, et, List.length_append]; rfl, fun j a u e1 e2 => ?_⟩, _, _, rfl⟩
            rw [et] at e2
            have up : ∀ {a : Addr} {u : TR}, TripAt K H8 a u → TripAt K (upd H8 fl (.lst (as.map V.ref ++ [V.ref p]))) a u := fun {a u} ⟨du, e⟩ => ⟨du, by
              have : a ≠ fl := fun z => by rw [z, hfl8] at e; cases e
              rw [upd_ne this]
              exact e⟩
            by_cases hj : j < as.length
            · rw [List.getElem?_append_left hj] at e1
              rw [List.getElem?_append_left (by rw [← htr.1]; exact hj)] at e2
              exact up ((htr.2 j a u e1 e2).up s48)
            · have hj1 := (List.getElem?_eq_some_iff.mp e1).1
              rw [List.length_append] at hj1
              have hj2 : j = as.length := by simp at hj1; omega
              subst hj2
              rw [List.getElem?_append_right (Nat.le_refl _)] at e1
              rw [List.getElem?_append_right (by rw [htr.1]; exact Nat.le_refl _), htr.1] at e2
              simp at e1 e2
              subst e1 e2
              exact up tp
          | succ i =>
            obtain ⟨a', ha'⟩ : ∃ a', as[i]? = some a' := ⟨as[i], List.getElem?_eq_getElem (by omega)⟩
            obtain ⟨t', ht'⟩ : ∃ t', ts[i]? = some t' := ⟨ts[i], List.getElem?_eq_getElem (by omega)⟩
            obtain ⟨da, hda⟩ := htr.2 i a' t' ha' (by rw [List.getElem?_take, if_pos (by omega)]; exact ht')
            refine ⟨_, rfl, .inl ⟨rfl, _, SqL.of hfl5⟩, _, rfl, _, rfl, _, rfl, by decide, fun l2 hl2 => ⟨fl, l2, as.map V.ref, rfl, rfl, SqL.of (by rw [upd_ne (ne_of_none hfl5 hl2)]; exact hfl5), SqL.of upd_same, _, rfl, ?_⟩⟩
            have s6 : Same H5 (upd H5 l2 (.lst [])) := same_new same_rfl hl2
            rw [show (as.map V.ref).isEmpty = false from by
              cases as with
              | nil => simp at hla
              | cons a as => rfl]
            refine iT ⟨_, rfl, _, rfl, fl, _, _, .ref a', rfl, rfl, SqL.of (s6 _ _ hfl5), atI_last (by rw [List.length_map, hla, List.getElem?_map]; show (as[i]?).map V.ref = _; rw [ha']; rfl), a', _, da, _, _, rfl, s6 _ _ (s5 _ _ hda), (trT T t').c, (trT T t').n1, lk_name t', ?_⟩
            refine ⟨x, dx, wl, _, n, t, t'.name, rfl, wa5.same s6, tokt, by have := hlv t htm; omega, asc i t' t ht' ht, fun H8 p k8 hp tp => ?_⟩
            have s48 : Same H4 H8 := kx_new hx (same_tr s5 s6) k8
            have hfl8 := s48 _ _ hfl4
            refine ⟨fl, _, _, rfl, rfl, hfl8, by rw [List.length_map, hla, sizeLine_eq]; omega, ?_⟩
            have np : fl ≠ p := fun z => by rw [z] at hfl8; obtain ⟨dt, e⟩ := tp; rw [hfl8] at e; cases e
            have s9 : Same H (upd H8 fl (.lst (as.map V.ref ++ [V.ref p]))) := same_at (same_tr s4 s48) hfl0
            refine ⟨as ++ [p], s9, by rw [upd_same, List.map_append]; rfl, by rw [List.length_append, hla]; rfl, ⟨by rw [List.length_append, htr.1, et, List.length_append]; rfl, fun j a u e1 e2 => ?_⟩, _, _, rfl⟩
            rw [et] at e2
            have up : ∀ {a : Addr} {u : TR}, TripAt K H8 a u → TripAt K (upd H8 fl (.lst (as.map V.ref ++ [V.ref p]))) a u := fun {a u} ⟨du, e⟩ => ⟨du, by
              have : a ≠ fl := fun z => by rw [z, hfl8] at e; cases e
              rw [upd_ne this]
              exact e⟩
            by_cases hj : j < as.length
            · rw [List.getElem?_append_left hj] at e1
              rw [List.getElem?_append_left (by rw [← htr.1]; exact hj)] at e2
              exact up ((htr.2 j a u e1 e2).up s48)
            · have hj1 := (List.getElem?_eq_some_iff.mp e1).1
              rw [List.length_append] at hj1
              have hj2 : j = as.length := by simp at hj1; omega
              subst hj2
              rw [List.getElem?_append_right (Nat.le_refl _)] at e1
              rw [List.getElem?_append_right (by rw [htr.1]; exact Nat.le_refl _), htr.1] at e2
              simp at e1 e2
              subst e1 e2
              exact up tp
      · rintro σ H4 ⟨as, s4, hfl4, hla, htr, v4, v5, rfl⟩
        rw [List.take_length] at htr
        refine ⟨_, rfl, _, rfl, (show (2 : Nat) ≤ sizeLine by decide), fun p hp => ?_⟩
        have s5 : Same H4 (upd H4 p (.tup [V.int n, V.ref fl])) := same_new same_rfl hp
        exact k _ p fl as (same_tr s4 s5) (same_non s4 hp) hfl0 upd_same (s5 _ _ hfl4) (htr.up s5)
end
end N1
set_option maxHeartbeats 4000000
/-! the numbers that a line of pauses tells -/
namespace N1
open PySem PySem.Spec PyProof.Rows L2 TL
/-- places ascend -/
def AscP (ps : List (Str × Int)) : Prop := ∀ (i : Nat) (p q : Str × Int), ps[i]? = some p → ps[i + 1]? = some q → p.1.cps.toList < q.1.cps.toList
def spNums (K : PySem.W.Frag) : Sp := fun vs H Q _ => ∃ (ln : V) (ps : List (Str × Int)), vs = [ln, .str (pauT ps)] ∧ (pauT ps).length + 2 ≤ sizeLine ∧ ps.length ≤ 60 ∧ (∀ p ∈ ps, NameOk p.1 ∧ 1 ≤ p.2 ∧ p.2 ≤ 1000000000000) ∧ (keysI ps).Nodup ∧ AscP ps ∧
  ∀ H' f, Same H H' → H f = none → H' f = some (.dK (kI ps)) → Q (.ref f) H'
def spotAt (x : Addr) (H : Hp) : Nat := match H x with
  | some (.ins _ _ fs) => (match fs.lookup ("spot" : Str) with
    | some (.int i) => (1000 - i).toNat
    | _ => 0)
  | _ => 0
theorem spot_at {K : PySem.W.Frag} {H : Hp} {x dx wl : Addr} {ln : V} {ws : List Str} {i : Nat} (h : WdsAt K H x dx ln wl ws i) : spotAt x H = (1000 - (i : Int)).toNat := by
  unfold spotAt
  rw [h.1]
  rfl
/-- the words of pauses, by number -/
theorem pauW_at : ∀ (ps : List (Str × Int)) (k : Nat) (p : Str × Int), ps[k]? = some p → (pauW ps)[1 + 2 * k]? = some p.1 ∧ (pauW ps)[1 + 2 * k + 1]? = some (num p.2) := by
  have key : ∀ (ps : List (Str × Int)) (k : Nat) (p : Str × Int), ps[k]? = some p → (ps.flatMap fun p => [p.1, num p.2])[2 * k]? = some p.1 ∧ (ps.flatMap fun p => [p.1, num p.2])[2 * k + 1]? = some (num p.2) := by
    intro ps
    induction ps with
    | nil => intro k p h; simp at h
    | cons q ps ih =>
      intro k p h
      cases k with
      | zero =>
        have : q = p := by simpa using h
        subst this
        exact ⟨rfl, rfl⟩
      | succ k =>
        have h' : ps[k]? = some p := by simpa using h
        obtain ⟨h1, h2⟩ := ih k p h'
        rw [show 2 * (k + 1) = 2 * k + 2 by omega]
        exact ⟨h1, h2⟩
  intro ps k p h
  obtain ⟨h1, h2⟩ := key ps k p h
  rw [show 1 + 2 * k = 2 * k + 1 by omega]
  exact ⟨h1, h2⟩
theorem pauW_len (ps : List (Str × Int)) : (pauW ps).length = 1 + 2 * ps.length := by
  have : ∀ ps : List (Str × Int), (ps.flatMap fun p => [p.1, num p.2]).length = 2 * ps.length := by
    intro ps
    induction ps with
    | nil => rfl
    | cons p ps ih => rw [List.flatMap_cons, List.length_append, ih, List.length_cons]; simp; omega
  unfold pauW
  rw [List.length_cons, this]
  omega
section
variable {P : Program} {w : World} {K : PySem.W.Frag} {mg : Str → Option Value} {base : Heap}
theorem ok_numbers_told (T : FX P K mg) : FnR P w K mg base CX0 3 (ga K "numbers_told") (spNums K) := by
  refine fnr T.f_numbers_told sc_numbers_told (fun _ _ _ _ _ _ us hl => match us, hl with | [_, _], _ => rfl) (fun vs H Q E h => ?_) (fun cdv A outer s H vs Q E hr h => ?_)
  · obtain ⟨ln, ps, rfl, _⟩ := h
    rfl
  · obtain ⟨ln, ps, rfl, hlen, l60, hps, hnd, asc, k⟩ := h
    have c := wdC T
    have nd := sc_numbers_told.nd
    have hu := hu_of hr
    refine ⟨_, pss_cons (ps_par3 (i := 2) (j := 3) (l := 4) rfl nd rfl rfl rfl (by decide) (by decide) (by decide) rfl rfl rfl (pa_cons (StX.pe_makeR (T.mkr "Words" (by decide +kernel)) (ok_WordsInit T) hr rfl (T.glo "Words" (by decide +kernel)) pass0 (pa_cons (pv 0) (pa_cons (pv 1) pa_nil))) (pa_cons pe_dnewK (pa_cons pe_str pa_nil))) rfl)
      (pss_cons (ps_expr (pe_methR (pv 2) c.c (T.meth ("Words", "take_word") (by decide +kernel)) (ok_take_word T) hr pass0 (pa_cons (pe_tup (pa_cons pe_str pa_nil)) pa_nil)))
      (pss_cons (ps_while PassesOwn.never (pt_cmp (pc_notN (pe_methR0 (pv 2) c.c (T.meth ("Words", "next_word") (by decide +kernel)) (ok_WordsNext T) (hr.mono (by decide)) pass0)))
        (pss_cons (ps_set (i := 4) nd rfl (Or.inl rfl) (pe_methR (pv 2) c.c (T.meth ("Words", "take_name") (by decide +kernel)) (ok_take_name T) hr pass0 (pa_cons (pv 4) pa_nil)))
        (pss_one (ps_dput hu (pv 3) (pv 4) (pe_methR (pv 2) c.c (T.meth ("Words", "take_number") (by decide +kernel)) (ok_take_number T) hr pass0 (pa_cons pe_int (pa_cons (gi "MOST" 1000000000000 T) pa_nil))) rfl))))
      (pss_one (ps_ret (pv 3))))), ?_⟩
    refine ⟨_, rfl, _, rfl, fun x dx hx hdx hne => ⟨x, dx, ln, pauT ps, rfl, hlen, upd_same, fun H1 wl k1 e1 n1 w1 => ⟨rfl, ?_⟩⟩⟩
    rw [pau_words (fun p hp => ⟨(hps p hp).1, by have := (hps p hp).2.1; omega⟩)] at w1
    obtain ⟨s1, wa1⟩ := words_new hx hdx k1 e1 w1 (by rw [pauW_len]; omega)
    intro fd hfd
    refine ⟨_, _, _, rfl, ?_⟩
    have nfx : fd ≠ x := fun z => by rw [z, e1] at hfd; cases hfd
    have s2 : Same H (upd H1 fd (.dK [])) := same_new s1 hfd
    have hfd0 : H fd = none := same_non s1 hfd
    have wa2 := wa1.same (same_new (o := .dK []) same_rfl hfd)
    refine ⟨_, rfl, x, dx, _, rfl, wa2.1, rfl, (show (1 : Nat) ≤ sizeLine by decide), fun cc hcc => ?_⟩
    have ncx : cc ≠ x := fun z => by rw [z, wa2.1] at hcc; cases hcc
    have ncf : fd ≠ cc := fun z => by rw [← z, upd_same] at hcc; cases hcc
    have wa3 := wa2.same (same_new (o := .tup [V.str "pauses"]) same_rfl hcc)
    have s3 := same_new (o := .tup [V.str "pauses"]) s2 hcc
    have hfd3 : (upd (upd H1 fd (.dK [])) cc (.tup [V.str "pauses"])) fd = some (.dK []) := by rw [upd_ne ncf]; exact upd_same
    refine ⟨x, dx, wl, cc, ln, _, ["pauses"], 0, "pauses", rfl, wa3, SqT.of upd_same, rfl, by decide, ncx, fun H4 k4 e4 => ?_⟩
    have wa4 := wa3.took k4 e4
    have s4 : Same H H4 := fun b v e => k4 b v (fun z => by rw [z, hx] at e; cases e) (s3 _ _ e)
    refine while_by (fun σ H' => ∃ (m : Nat) (a : Str), m ≤ ps.length ∧ WdsAt K H' x dx ln wl (pauW ps) (1 + 2 * m) ∧ H' fd = some (.dK (kI (ps.take m))) ∧ Same H H' ∧ (∀ p, ps[m]? = some p → a.cps.toList < p.1.cps.toList) ∧ σ = [some ln, some (.str (pauT ps)), some (.ref x), some (.ref fd), some (.str a)]) (fun _ H' => spotAt x H')
      ⟨0, "", Nat.zero_le _, wa4, by rw [k4 fd _ nfx hfd3]; rfl, s4, fun p hp => name_up (hps p (List.mem_of_getElem? hp)).1, rfl⟩ ?_ ?_
    · rintro σ H5 ⟨m, a, hm, wa5, hf5, s5, ha, rfl⟩
      have hx5 := wa5.1
      refine ⟨_, rfl, x, dx, _, rfl, hx5, rfl, x, dx, wl, ln, _, _, rfl, wa5, ?_⟩
      cases hp : ps[m]? with
      | none =>
        have hme : m = ps.length := by
          have := List.getElem?_eq_none_iff.mp hp
          omega
        subst hme
        rw [show (pauW ps)[1 + 2 * ps.length]? = none from List.getElem?_eq_none_iff.mpr (by rw [pauW_len]; omega)]
        refine ⟨_, rfl, ?_⟩
        rw [show (!decide (wV none = V.non)) = false from by simp [wV]]
        rw [List.take_length] at hf5
        exact iF ⟨_, rfl, k H5 fd s5 hfd0 hf5⟩
      | some p =>
        obtain ⟨w1, w2⟩ := pauW_at ps m p hp
        have hpm := hps p (List.mem_of_getElem? hp)
        have hml : m < ps.length := (List.getElem?_eq_some_iff.mp hp).1
        rw [w1]
        refine ⟨_, rfl, ?_⟩
        rw [show (!decide (wV (some p.1) = V.non)) = true from by simp [wV]]
        refine iT ⟨_, rfl, x, dx, _, rfl, hx5, rfl, _, rfl, x, dx, wl, ln, _, _, p.1, a, rfl, wa5, w1, hpm.1, ha p hp, fun H6 k6 e6 => ?_⟩
        have wa6 := wa5.took k6 e6
        refine ⟨_, rfl, x, dx, _, rfl, e6, rfl, x, dx, wl, ln, _, _, p.2, 1, 1000000000000, rfl, wa6, w2, by omega, hpm.2.2, hpm.2.1, hpm.2.2, fun H7 k7 e7 => ?_⟩
        have wa7 := wa6.took k7 e7
        have hf7 : H7 fd = some (.dK (kI (ps.take m))) := k7 fd _ nfx (k6 fd _ nfx hf5)
        have et : ps.take (m + 1) = ps.take m ++ [p] := by
          rw [List.take_succ, hp]
          rfl
        have hni : p.1 ∉ keysI (ps.take m) := by
          have h := hnd.sublist (List.Sublist.map (fun q : Str × Int => q.1) (List.take_sublist (m + 1) ps))
          rw [et, List.map_append] at h
          exact fun z => (List.nodup_append.mp h).2.2 _ z _ (List.mem_singleton.mpr rfl) rfl
        have ek : putK (kI (ps.take m)) (Sum.inr p.1) (.int p.2) = kI (ps.take (m + 1)) := by
          rw [kI_put, putI, if_neg hni, et]
        refine ⟨_, rfl, _, rfl, fd, _, rfl, DPut.k (k := Sum.inr p.1) hf7 (by unfold kI; rw [List.length_map, List.length_take, sizeLine_eq]; omega), ?_⟩
        rw [ek]
        have nwl : wl ≠ fd := ne_of wa7.2.1 hf7 (by intro z; cases z)
        have wa8 : WdsAt K (upd H7 fd (.dK (kI (ps.take (m + 1))))) x dx ln wl (pauW ps) (1 + 2 * (m + 1)) := ⟨by rw [upd_ne nfx.symm]; exact wa7.1, by rw [upd_ne nwl]; exact wa7.2.1, wa7.2.2⟩
        refine ⟨⟨m + 1, p.1, hml, wa8, upd_same, ?_, fun q hq => asc m p q hp hq, rfl⟩, ?_⟩
        · exact same_at (fun b v e => k7 b v (fun z => by rw [z, hx] at e; cases e) (k6 b v (fun z => by rw [z, hx] at e; cases e) (s5 _ _ e))) hfd0
        · rw [spot_at wa8, spot_at wa5]
          omega
    · rintro σ H' Q Q' hQ ⟨v, hv, a, dx', fs, e1, e2, e3, x', dx'', wl', ln', ws', i', e4, e5, b, eb, q⟩
      exact ⟨v, hv, a, dx', fs, e1, e2, e3, x', dx'', wl', ln', ws', i', e4, e5, b, eb, hQ _ _ q⟩
end
end N1
set_option maxHeartbeats 2000000
/-! f(k = v), f a def of the module with one parameter -/
namespace N1
open PySem PySem.Spec PyProof.Rows L2
/-- the promise of a call by the parameter's name -/
def FnK1 (P : Program) (w : World) (K : PySem.W.Frag) (mg : Str → Option Value) (base : Heap) (CX : CXT) (k : Nat) (f : Addr) (kn : Str) (sp : Sp) : Prop :=
  ∀ (A : Around) (outer : List Env) (s : Shared) (H : Hp) (u : Value) (v : V) (Q : VK) (E : XK), Room k A → Env0 P w K mg base A outer s H → RelV v u → sp [v] H Q E → codeAny (model P w) A (.call (.ref f) ⟨[], [(kn, u)]⟩) (CR CX outer P w H s Q E) s
section
variable {P : Program} {w : World} {K : PySem.W.Frag} {mg : Str → Option Value} {base : Heap}
theorem fnr2 {x qual kn : Str} {st : Stmt} {f : Addr} {N : List Str} {k : Nat} {sp : Sp} (F : IsDef K f x qual st []) (S : FnScope N [kn] (defScope st))
    (hb : ∀ (kV doc pm : Value) (an : Option Addr) (cdv ct : Value) (us : List Value), us.length = [kn].length → bindArgs (PySem.W.fnOf x qual (defArgs st) (defBody st) (defScope st) .none kV doc pm an cdv ct) ⟨us, []⟩ = pure ([kn].zip us))
    (hbk : ∀ (kV doc pm : Value) (an : Option Addr) (cdv ct u : Value), bindArgs (PySem.W.fnOf x qual (defArgs st) (defBody st) (defScope st) .none kV doc pm an cdv ct) ⟨[], [(kn, u)]⟩ = pure ([kn].zip [u]))
    (len : ∀ vs H Q E, sp vs H Q E → vs.length = [kn].length)
    (hbody : ∀ (cdv : Value) (A : Around) (outer : List Env) (s : Shared) (H : Hp) (vs : List V) (Q : VK) (E : XK), Room k (A.deeper (envOfC qual (defScope st) s.heap.objs.size f cdv)) → sp vs H Q E →
      ∃ t, PSs (cxOf CX0 P w K mg base N qual (defScope st) f cdv A outer s H E).nox (defBody st) t ∧ t { nx := fun _ H' => Q .non H', rt := Q } (start N vs) H) :
    FnR P w K mg base CX0 (k + 1) f sp ∧ FnK1 P w K mg base CX0 (k + 1) f kn sp := by
  obtain ⟨fd, F⟩ := F
  have z := F.ok (CX := CX0) S len fun cdv A outer s H vs Q E hr h => (let ⟨t, h1, h2⟩ := hbody cdv A outer s H vs Q E hr h; ⟨t, h1.nox, h2⟩)
  refine ⟨(z.raw (F.bindsN hb) .nil).imp fun vs H Q E h => by rw [List.append_nil]; exact h, fun A outer s H u v Q E hr e0 r hs => ?_⟩
  refine z.run A outer s H ⟨[], [(kn, u)]⟩ [u] [v] Q E hr e0 ?_ (.cons r .nil) hs
  obtain ⟨oc, od, dV, kV, doc, pm, an, cdv, ct, osl, rfl, lk, hcd, hD, hK⟩ := F.ex
  rcases hD with ⟨_, rfl⟩ | ⟨e, _⟩
  · exact .of_eq (hbk kV doc pm an cdv ct u)
  · exact absurd rfl e
end
def tCallK1 (sp : Sp) (E : XK) (te : TE) : TE := fun σ H Q => te σ H fun v H1 => sp [v] H1 Q E
section
variable {X : Cx} {CX : CXT} {k : Nat} {f : Addr} {sp : Sp} {E : XK} {x kn : Str} {p pos kpos : Pos} {e : Expr} {te : TE}
theorem pe_callK1 (F : FnK1 X.prog X.w X.K X.mg X.base CX k f kn sp) (hr : Room k X.A) (hk : PySem.W.keepIn X.K (.ref f) = true) (hg : Gl X x) (hm : X.mg x = some (.ref f)) (hx : Passes CX X E) (he : PE X e te)
    (hall : (backToKw pos (keywordEach [⟨some kn, e, kpos⟩] X.env)).all (·.1.isSome) = true := by rfl) (hks : (backToKw pos (keywordEach [⟨some kn, e, kpos⟩] X.env)).filterMap (·.1) = [kn] := by rfl) (hdb : (x == ("__debug__" : Str)) = false := by decide)
    (hpl : ((backTo pos (starEach [] X.env)).any (·.1) || (backToKw pos (keywordEach [⟨some kn, e, kpos⟩] X.env)).any (·.1.isNone)) = false := by rfl) :
    PE X (.Call (.Name x p) [] [⟨some kn, e, kpos⟩] pos) (tCallK1 sp E te) := by
  refine ⟨fun pins s σ H Q I h => ?_⟩
  refine wpAny_Call_Name_kw (ld_glob I hg hm ?_ hdb)
  refine PySem.W.callWith_KW0 (h₀ := X.base) I.ok.mod.kin hk hall ?_ hpl
  refine thn ((pk_cons (nm := some kn) (kpos := kpos) he pk_nil).run pos pins s σ H (fun zs H2 => ∃ v, zs = [v] ∧ sp [v] H2 Q E) I ?_) fun ws s2 ⟨zs, H2, I2, rz, v, ez, q2⟩ => ⟨I2.kIn, ?_⟩
  · exact (show te σ H (fun v H1 => ∃ v', v :: [] = [v'] ∧ sp [v'] H1 Q E) by
      have : (fun (v : V) (H1 : Hp) => sp [v] H1 Q E) = fun v H1 => ∃ v', v :: [] = [v'] ∧ sp [v'] H1 Q E := by
        funext v H1
        exact propext ⟨fun q => ⟨v, rfl, q⟩, fun ⟨v', e, q⟩ => by cases e; exact q⟩
      rw [← this]
      exact h)
  · subst ez
    rw [hks]
    obtain ⟨u, rfl, ru⟩ := rz.one
    refine wpAny_call (codeAny_mono (F X.A X.stack s2 H2 u v Q E hr I2.env0 ru q2) fun r s' hq => ?_)
    cases r with
    | error er => exact hx pins σ H2 s2 er s' I2 hq
    | ok fl =>
      cases fl with
      | ret u => exact I2.after hq
      | next => exact False.elim hq
      | brk => exact False.elim hq
      | cont => exact False.elim hq
/-- f(k = e) of a def of the module -/
theorem clk {P0 : Program} (x : Str) (T : FX P0 X.K X.mg) (F : FnK1 X.prog X.w X.K X.mg X.base CX0 k (ga X.K x) kn sp) (hr : Room k X.A) (he : PE X e te) (hc : glL.contains x = true := by decide +kernel) (hg : Gl X x := by rfl)
    (hall : (backToKw pos (keywordEach [⟨some kn, e, kpos⟩] X.env)).all (·.1.isSome) = true := by rfl) (hks : (backToKw pos (keywordEach [⟨some kn, e, kpos⟩] X.env)).filterMap (·.1) = [kn] := by rfl) (hdb : (x == ("__debug__" : Str)) = false := by decide)
    (hpl : ((backTo pos (starEach [] X.env)).any (·.1) || (backToKw pos (keywordEach [⟨some kn, e, kpos⟩] X.env)).any (·.1.isNone)) = false := by rfl) :
    PE X (.Call (.Name x p) [] [⟨some kn, e, kpos⟩] pos) (tCallK1 sp E0 te) := pe_callK1 F hr (T.kpg x hc) hg (T.glo x hc) pass0 he hall hks hdb hpl
end
end N1
set_option maxHeartbeats 4000000
/-! tables and pauses read -/
namespace N1
open PySem PySem.Spec PyProof.Rows L2 TL
def spLines : Sp := fun vs H Q _ => ∃ a : Str, vs = [.str a] ∧ a.length + 2 ≤ sizeLine ∧ ∀ p, H p = none → Q (.ref p) (upd H p (.lst ((Txt.split a sN).map V.str)))
/-- what stands in a text of a table -/
structure TxOk (n : Int) (ts : List TR) : Prop where
  n1 : 1 ≤ n
  n12 : n ≤ 1000000000000
  ok : ∀ t ∈ ts, t.Ok
  asc : Asc ts
  len : ∀ x ∈ tabL n ts, x.length ≤ 100
  tab : TabOk n ts
def spReadT (K : PySem.W.Frag) : Sp := fun vs H Q _ => ∃ (n : Int) (ts : List TR), vs = [.str (tabT n ts)] ∧ (tabT n ts).length + 2 ≤ sizeLine ∧ TxOk n ts ∧ ∀ H' p, Same H H' → H p = none → TableAt K H' p n (st ts) → Q (.ref p) H'
def spReadP (K : PySem.W.Frag) : Sp := fun vs H Q _ => ∃ (ps : List (Str × Int)), vs = [.str (pauT ps)] ∧ (pauT ps).length + 2 ≤ sizeLine ∧ ps.length ≤ 60 ∧ (∀ p ∈ ps, NameOk p.1 ∧ 1 ≤ p.2 ∧ p.2 ≤ 1000000000000) ∧ (keysI ps).Nodup ∧ AscP ps ∧
  ∀ H' p, Same H H' → H p = none → PausesAt K H' p (nrm ps) → Q (.ref p) H'
section
variable {P : Program} {w : World} {K : PySem.W.Frag} {mg : Str → Option Value} {base : Heap}
theorem ok_lines_of (T : FX P K mg) : FnR P w K mg base CX0 1 (ga K "lines_of") spLines := by
  refine fnr T.f_lines_of sc_lines_of (fun _ _ _ _ _ _ us hl => match us, hl with | [_], _ => rfl) (fun vs H Q E h => ?_) (fun cdv A outer s H vs Q E hr h => ?_)
  · obtain ⟨a, rfl, _⟩ := h
    rfl
  · obtain ⟨a, rfl, hl, k⟩ := h
    refine ⟨_, pss_cons (ps_if (pt_not (pt_val (cb "isinstance" T call_isi (pa_cons (pv 0) (pa_cons (gt "str" "str" T) pa_nil))))) pss_never pss_nil) (pss_one (ps_ret (pe_split (pv 0) pe_str))), ?_⟩
    refine ⟨_, rfl, _, _, _, _, true, rfl, .ty _, .base (.str a), kit_ty (by decide +kernel), _, rfl, ?_⟩
    exact ⟨_, rfl, ⟨_, rfl⟩, _, _, rfl, rfl, by decide +kernel, hl, fun p hp => k p hp⟩
theorem ok2_read_table (T : FX P K mg) : FnR P w K mg base CX0 10 (ga K "read_table") (spReadT K) ∧ FnK1 P w K mg base CX0 10 (ga K "read_table") "text" (spReadT K) := by
  refine fnr2 T.f_read_table sc_read_table (fun _ _ _ _ _ _ us hl => match us, hl with | [_], _ => rfl) (fun _ _ _ _ _ _ _ => rfl) (fun vs H Q E h => ?_) (fun cdv A outer s H vs Q E hr h => ?_)
  · obtain ⟨n, ts, rfl, _⟩ := h
    rfl
  · obtain ⟨n, ts, rfl, hl, tx, k⟩ := h
    have nd := sc_read_table.nd
    refine ⟨_, pss_cons (ps_set (i := 1) nd rfl (Or.inl rfl) (cl "lines_of" T (ok_lines_of T) (hr.mono (by decide)) (pa_cons (pv 0) pa_nil)))
      (pss_cons (ps_asg (cl "trips_told" T (ok_trips_told T) hr (pa_cons (pv 1) (pa_cons (cb "len" T call_len (pa_cons (pv 1) pa_nil)) pa_nil))) (pg_tup rfl (pgs_cons (pg_name (i := 2) nd rfl (Or.inl rfl)) (pgs_cons (pg_name (i := 3) nd rfl (Or.inl rfl)) pgs_nil))))
      (pss_one (ps_ret (pe_smeth (gc "Table" T) T.crT T.stT (ok_TableOf T) (hr.mono (by decide)) pass0 (pa_cons (StX.pe_makeR (T.mkr "Day" (by decide +kernel)) (ok_DayInit T) (hr.mono (by decide)) rfl (T.glo "Day" (by decide +kernel)) pass0 (pa_cons (pv 2) pa_nil)) (pa_cons (pv 3) pa_nil)))))), ?_⟩
    refine ⟨_, rfl, _, rfl, hl, fun l hll => ?_⟩
    rw [tab_lines (by have := tx.n1; omega) tx.ok]
    have s1 : Same H (upd H l (.lst ((tabL n ts).map V.str))) := same_new same_rfl hll
    have h1l : (upd H l (.lst ((tabL n ts).map V.str))) l = some (.lst ((tabL n ts).map V.str)) := upd_same
    generalize upd H l (.lst ((tabL n ts).map V.str)) = H1 at s1 h1l
    have elen : (((tabL n ts).map V.str).length : Int) = ((ts.length + 1 : Nat) : Int) := by unfold tabL; simp
    refine ⟨_, rfl, _, rfl, _, _, rfl, .inl ⟨_, SqL.of h1l, rfl⟩, ?_⟩
    rw [elen]
    refine ⟨l, n, ts, [], rfl, by rw [List.append_nil]; exact h1l, tx.n1, tx.n12, tx.ok, tx.tab.lv, tx.tab.l40, tx.asc, tx.len, fun H2 p fl as s2 hp hfl hp2 hfl2 htr => ?_⟩
    refine ⟨p, _, rfl, SqT.of hp2, rfl, _, _, rfl, _, _, rfl, rfl, ?_⟩
    refine ⟨rfl, _, rfl, fun xd dxd hxd hdxd hned => ⟨xd, dxd, n, rfl, tx.n1, tx.n12, upd_same, fun H3 q1 q2 => ⟨rfl, ?_⟩⟩⟩
    have s3 : Same H2 H3 := made_same hxd hdxd q1
    refine ⟨_, rfl, H3, xd, fl, n, as, ts, rfl, same_rfl, ⟨dxd, q2⟩, s3 _ _ hfl2, htr.up s3, tx.tab, fun H4 G4 q g4 hq tb => ?_⟩
    have s4 : Same H3 H4 := fun x o e => g4.kp x o (by simp) e
    have s03 := same_tr s1 (same_tr s2 s3)
    exact k H4 q (same_tr s03 s4) (same_non s03 hq) (tb.up g4.gh)
theorem ok_read_table (T : FX P K mg) : FnR P w K mg base CX0 10 (ga K "read_table") (spReadT K) := (ok2_read_table T).1
theorem okk_read_table (T : FX P K mg) : FnK1 P w K mg base CX0 10 (ga K "read_table") "text" (spReadT K) := (ok2_read_table T).2
theorem ok2_read_pauses (T : FX P K mg) : FnR P w K mg base CX0 7 (ga K "read_pauses") (spReadP K) ∧ FnK1 P w K mg base CX0 7 (ga K "read_pauses") "text" (spReadP K) := by
  refine fnr2 T.f_read_pauses sc_read_pauses (fun _ _ _ _ _ _ us hl => match us, hl with | [_], _ => rfl) (fun _ _ _ _ _ _ _ => rfl) (fun vs H Q E h => ?_) (fun cdv A outer s H vs Q E hr h => ?_)
  · obtain ⟨ps, rfl, _⟩ := h
    rfl
  · obtain ⟨ps, rfl, hl, l60, hps, hnd, asc, k⟩ := h
    refine ⟨_, pss_cons (ps_if (pt_not (pt_val (cb "isinstance" T call_isi (pa_cons (pv 0) (pa_cons (gt "str" "str" T) pa_nil))))) pss_never pss_nil)
      (pss_one (ps_ret (pe_smeth (gc "Pauses" T) T.crP T.stP (ok_PausesOf T) hr pass0 (pa_cons (cl "numbers_told" T (ok_numbers_told T) (hr.mono (by decide)) (pa_cons pe_int (pa_cons (pv 0) pa_nil))) pa_nil)))), ?_⟩
    refine ⟨_, rfl, _, _, _, _, true, rfl, .ty _, .base (.str _), kit_ty (by decide +kernel), _, rfl, ?_⟩
    refine ⟨rfl, _, rfl, _, ps, rfl, hl, l60, hps, hnd, asc, fun H1 f s1 hf hf1 => ?_⟩
    refine ⟨H1, f, ps, rfl, same_rfl, hf1, ⟨hnd, fun p hp => (hps p hp).1, fun p hp => ⟨by have := (hps p hp).2.1; omega, (hps p hp).2.2⟩, l60⟩, fun H2 G2 p g2 hp pa => ?_⟩
    have s2 : Same H1 H2 := fun x o e => g2.kp x o (by simp) e
    exact k H2 p (same_tr s1 s2) (same_non s1 hp) (pa.up g2.gh)
theorem ok_read_pauses (T : FX P K mg) : FnR P w K mg base CX0 7 (ga K "read_pauses") (spReadP K) := (ok2_read_pauses T).1
theorem okk_read_pauses (T : FX P K mg) : FnK1 P w K mg base CX0 7 (ga K "read_pauses") "text" (spReadP K) := (ok2_read_pauses T).2
end
end N1
set_option maxHeartbeats 4000000
/-! days and trips as texts -/
namespace N1
open PySem PySem.Spec PyProof.Rows L2 TL
theorem log_ok {i : Int} (h0 : 0 ≤ i) (h : i ≤ 1000000000000) : i.natAbs.log2 < 1920 := by
  by_cases z : i.natAbs = 0
  · rw [z]
    decide
  · refine (Nat.log2_lt z).mpr ?_
    have h1 : i.natAbs ≤ 1000000000000 := by omega
    exact Nat.lt_of_le_of_lt h1 (by decide +kernel)
theorem num_len {i : Int} (h0 : 0 ≤ i) (h : i ≤ 1000000000000) : (num i).length ≤ 13 := by
  obtain ⟨m, rfl⟩ := Int.eq_ofNat_of_zero_le h0
  rw [len_tl, show tl (num (m : Int)) = numL m from tl_num m]
  exact numL_len (by decide) (by omega)
theorem fs6 (a b c d e f : Str) : Str.empty ++ a ++ sP ++ b ++ sP ++ c ++ sP ++ d ++ sP ++ e ++ sP ++ f = Txt.join sP [a, b, c, d, e, f] := by
  rw [join_eq]
  refine ext_tl ?_
  rw [tl_join]
  simp only [tl_append, joinL, List.map_cons, List.map_nil, List.append_assoc]
  rfl
theorem fs5 (a b c d e : Str) : Str.empty ++ a ++ sP ++ b ++ sP ++ c ++ sP ++ d ++ sP ++ e = Txt.join sP [a, b, c, d, e] := by
  rw [join_eq]
  refine ext_tl ?_
  rw [tl_join]
  simp only [tl_append, joinL, List.map_cons, List.map_nil, List.append_assoc]
  rfl
theorem lenE : (Str.empty).length = 0 := rfl
theorem lenP : sP.length = 1 := rfl
def spDayStr (K : PySem.W.Frag) : Sp := fun vs H Q _ => ∃ (a : Addr) (n : Int), vs = [.ref a] ∧ DayAt K H a n ∧ 0 ≤ n ∧ n ≤ 1000000000000 ∧ Q (.str (num n)) H
def spTripStr (K : PySem.W.Frag) (b : Bool) : Sp := fun vs H Q _ => ∃ (a : Addr) (t : TR), vs = [.ref a] ∧ TripAt K H a t ∧ t.run = b ∧ t.Ok ∧ Q (.str (tripT t)) H
section
variable {P : Program} {w : World} {K : PySem.W.Frag} {mg : Str → Option Value} {base : Heap}
theorem ok_DayStr (T : FX P K mg) : FnR P w K mg base CX0 1 (ma K (ga K "Day") "__str__") (spDayStr K) := by
  refine fnr T.f_DayStr sc_DayStr (fun _ _ _ _ _ _ us hl => match us, hl with | [_], _ => rfl) (fun vs H Q E h => ?_) (fun cdv A outer s H vs Q E hr h => ?_)
  · obtain ⟨a, n, rfl, _⟩ := h
    rfl
  · obtain ⟨a, n, rfl, ⟨dx, ha⟩, h0, h1, k⟩ := h
    have cD := T.cls "Day" (by decide +kernel)
    have nL := T.noat ("Day", "length") (by decide +kernel)
    refine ⟨_, pss_one (ps_ret (ct "str" T call_str_int (pa_cons (pe_fld (pv 0) rfl) pa_nil))), ?_⟩
    exact ⟨_, rfl, a, _, dx, _, _, rfl, ha, cD, nL, rfl, n, rfl, log_ok h0 h1, k⟩
theorem ok_RunStr (T : FX P K mg) : FnR P w K mg base CX0 1 (ma K (ga K "Run") "__str__") (spTripStr K true) := by
  refine fnr T.f_RunStr sc_RunStr (fun _ _ _ _ _ _ us hl => match us, hl with | [_], _ => rfl) (fun vs H Q E h => ?_) (fun cdv A outer s H vs Q E hr h => ?_)
  · obtain ⟨a, t, rfl, _⟩ := h
    rfl
  · obtain ⟨a, t, rfl, ⟨dx, ha⟩, hb, ok, k⟩ := h
    have c := trT T t
    obtain ⟨uW, hW⟩ : ∃ u : Value, Con K (cTR K t) "WORD" (.str "run") u := by
      unfold cTR
      rw [hb]
      exact T.woR
    refine ⟨_, pss_one (ps_ret (pe_joined (PJ.cons (pe_fmt (pe_con (pv 0) rfl)) (PJ.cons pe_str (PJ.cons (pe_fmt (pe_fld (pv 0) rfl)) (PJ.cons pe_str (PJ.cons (pe_fmt (pe_fld (pv 0) rfl)) (PJ.cons pe_str (PJ.cons (pe_fmt (pe_fld (pv 0) rfl)) (PJ.cons pe_str (PJ.cons (pe_fmt (pe_fld (pv 0) rfl)) (PJ.cons pe_str (PJ.cons (pe_fmt (pe_fld (pv 0) rfl)) PJ.nil))))))))))))), ?_⟩
    have l1 := ok.n.2.1
    have l2 := ok.s.2.1
    have l3 := ok.g.2.1
    have l4 := num_len ok.l0 ok.l1
    have l5 := num_len (i := t.takes) (by have := ok.t0; omega) ok.t1
    have lW : ("run" : Str).length = 3 := rfl
    have hs : 100 ≤ sizeLine := by decide
    refine ⟨_, rfl, a, _, dx, _, _, uW, rfl, ha, c.c, hW, rfl, .inl ⟨_, rfl, by omega, _, rfl, by simp only [Str.length_append, lenE]; omega, _, rfl, by simp only [Str.length_append, lenE, lenP]; omega, ?_⟩⟩
    refine ⟨_, rfl, a, _, dx, _, _, rfl, ha, c.c, c.n1, lk_name t, .inl ⟨_, rfl, by omega, _, rfl, by simp only [Str.length_append, lenE, lenP]; omega, _, rfl, by simp only [Str.length_append, lenE, lenP]; omega, ?_⟩⟩
    refine ⟨_, rfl, a, _, dx, _, _, rfl, ha, c.c, c.n2, lk_start t, .inl ⟨_, rfl, by omega, _, rfl, by simp only [Str.length_append, lenE, lenP]; omega, _, rfl, by simp only [Str.length_append, lenE, lenP]; omega, ?_⟩⟩
    refine ⟨_, rfl, a, _, dx, _, _, rfl, ha, c.c, c.n3, lk_leaves t, .inr ⟨_, rfl, log_ok ok.l0 ok.l1, num t.leaves, rfl, by simp only [Str.length_append, lenE, lenP]; omega, _, rfl, by simp only [Str.length_append, lenE, lenP]; omega, ?_⟩⟩
    refine ⟨_, rfl, a, _, dx, _, _, rfl, ha, c.c, c.n4, lk_takes t, .inr ⟨_, rfl, log_ok (by have := ok.t0; omega) ok.t1, num t.takes, rfl, by simp only [Str.length_append, lenE, lenP]; omega, _, rfl, by simp only [Str.length_append, lenE, lenP]; omega, ?_⟩⟩
    refine ⟨_, rfl, a, _, dx, _, _, rfl, ha, c.c, c.n5, lk_goal t, .inl ⟨_, rfl, by omega, _, rfl, by simp only [Str.length_append, lenE, lenP]; omega, ?_⟩⟩
    have e : tripT t = Txt.join sP ["run", t.name, t.start, num t.leaves, num t.takes, t.goal] := by
      unfold tripT tripW
      rw [hb]
      rfl
    rw [e, ← fs6] at k
    exact k
end
end N1
set_option maxHeartbeats 4000000
/-! stays as texts -/
namespace N1
open PySem PySem.Spec PyProof.Rows L2 TL
section
variable {P : Program} {w : World} {K : PySem.W.Frag} {mg : Str → Option Value} {base : Heap}
theorem ok_TripStr (T : FX P K mg) : FnR P w K mg base CX0 1 (ma K (ga K "Trip") "__str__") (spTripStr K false) := by
  refine fnr T.f_TripStr sc_TripStr (fun _ _ _ _ _ _ us hl => match us, hl with | [_], _ => rfl) (fun vs H Q E h => ?_) (fun cdv A outer s H vs Q E hr h => ?_)
  · obtain ⟨a, t, rfl, _⟩ := h
    rfl
  · obtain ⟨a, t, rfl, ⟨dx, ha⟩, hb, ok, k⟩ := h
    have c := trT T t
    obtain ⟨uW, hW⟩ : ∃ u : Value, Con K (cTR K t) "WORD" (.str "stay") u := by
      unfold cTR
      rw [hb]
      exact T.woS
    refine ⟨_, pss_one (ps_ret (pe_joined (PJ.cons (pe_fmt (pe_con (pv 0) rfl)) (PJ.cons pe_str (PJ.cons (pe_fmt (pe_fld (pv 0) rfl)) (PJ.cons pe_str (PJ.cons (pe_fmt (pe_fld (pv 0) rfl)) (PJ.cons pe_str (PJ.cons (pe_fmt (pe_fld (pv 0) rfl)) (PJ.cons pe_str (PJ.cons (pe_fmt (pe_fld (pv 0) rfl)) PJ.nil))))))))))), ?_⟩
    have l1 := ok.n.2.1
    have l2 := ok.s.2.1
    have l3 := ok.g.2.1
    have l4 := num_len ok.l0 ok.l1
    have l5 := num_len (i := t.takes) (by have := ok.t0; omega) ok.t1
    have lW : ("stay" : Str).length = 4 := rfl
    have hs : 100 ≤ sizeLine := by decide
    refine ⟨_, rfl, a, _, dx, _, _, uW, rfl, ha, c.c, hW, rfl, .inl ⟨_, rfl, by omega, _, rfl, by simp only [Str.length_append, lenE]; omega, _, rfl, by simp only [Str.length_append, lenE, lenP]; omega, ?_⟩⟩
    refine ⟨_, rfl, a, _, dx, _, _, rfl, ha, c.c, c.n1, lk_name t, .inl ⟨_, rfl, by omega, _, rfl, by simp only [Str.length_append, lenE, lenP]; omega, _, rfl, by simp only [Str.length_append, lenE, lenP]; omega, ?_⟩⟩
    refine ⟨_, rfl, a, _, dx, _, _, rfl, ha, c.c, c.n2, lk_start t, .inl ⟨_, rfl, by omega, _, rfl, by simp only [Str.length_append, lenE, lenP]; omega, _, rfl, by simp only [Str.length_append, lenE, lenP]; omega, ?_⟩⟩
    refine ⟨_, rfl, a, _, dx, _, _, rfl, ha, c.c, c.n3, lk_leaves t, .inr ⟨_, rfl, log_ok ok.l0 ok.l1, num t.leaves, rfl, by simp only [Str.length_append, lenE, lenP]; omega, _, rfl, by simp only [Str.length_append, lenE, lenP]; omega, ?_⟩⟩
    refine ⟨_, rfl, a, _, dx, _, _, rfl, ha, c.c, c.n4, lk_takes t, .inr ⟨_, rfl, log_ok (by have := ok.t0; omega) ok.t1, num t.takes, rfl, by simp only [Str.length_append, lenE, lenP]; omega, ?_⟩⟩
    have e : tripT t = Txt.join sP ["stay", t.name, t.start, num t.leaves, num t.takes] := by
      unfold tripT tripW
      rw [hb]
      rfl
    rw [e, ← fs5] at k
    exact k
theorem ok_StayStr (T : FX P K mg) : FnR P w K mg base CX0 1 (ma K (ga K "Stay") "__str__") (spTripStr K false) := T.stE ▸ ok_TripStr T
end
end N1
set_option maxHeartbeats 2000000
/-! for .. in o, where the own __iter__ gives iter(a tuple) -/
namespace N1
open PySem PySem.Spec PyProof.Rows L2
/-- at it an iterator over the tuple at d, not begun -/
def TitO (d it : Addr) : HO := .ext fun h => h.IsTupleIter it d 0
theorem titO_ok {P : Program} {w : World} {H : Hp} {h : Heap} {d it : Addr} (e : h.IsTupleIter it d 0) : ObjOk P w H h it (TitO d it) := by
  obtain ⟨o, ho, r⟩ := e
  exact ⟨⟨o, ho, r⟩, ⟨o, ho⟩, fun h1 h2 z k => by
    obtain ⟨o, ho, r⟩ := z
    exact ⟨o, k _ ho, r⟩⟩
/-- iter(t), t a tuple -/
def rIterT (K : PySem.W.Frag) (n : Nat) : List V → Hp → VK → Prop := fun xs H Q => ∃ (d : Addr) (ys : List V), xs = [.ref d] ∧ SqT K H d ys ∧ ∀ it, H it = none → n ≤ it → Q (.ref it) (upd H it (TitO d it))
section
variable {X : Cx} {pins : List (Addr × Obj)} {σ : L2.St} {H : Hp} {s : Shared} {tg e : Expr} {te : TE}
theorem call_iterT : CallR X (.builtin "iter") (rIterT X.K X.s_0.heap.objs.size) := by
  intro pins s σ H xs us Q I r h
  obtain ⟨d, ys, rfl, hd, q⟩ := h
  obtain ⟨u, rfl, ru⟩ := r.one
  cases ru
  obtain ⟨its, rv, p, hz⟩ := I.tuple hd
  refine Calls.call_function_entry (by decide +kernel) (by decide +kernel) PySem.W.kdk_entry_iter (PySem.W.kdk_args_iter _) ?_
  unfold Builtin.«iter»
  refine wpAny_bind (m := someArgs "iter" 1 2 _) (wpAny_of_eq (a := [Value.ref d]) (by first | rfl | kernel_rfl!) ?_)
  show wpAny _ _ (pyIter (.ref d) >>= _) _ _ _
  refine wpAny_bind (wpAny_pyIter_tuple (show s.heap.IsTuple d its.toArray from p) ?_)
  refine wpAny_pure ⟨_, rfl, .ref s.heap.objs.size, _, I.laid (t' := s.toks) (fun b u e => Heap.get?_push_of_some _ e) (Nat.le_refl _) (titO_ok (d := d) ⟨_, Heap.get?_push_size _ rfl, rfl, rfl⟩), rfl, q _ (I.hok.fresh (Nat.le_refl _)) I.sz⟩
/-- for .. in o -/
def iOwnT (K : PySem.W.Frag) (C : Addr) (n : Nat) (sp : Nat → Sp) (E : XK) (te : TE) : TI := fun σ H R => te σ H fun x H1 => ∃ a, x = .ref a ∧ InsAt H1 a C ∧ ∀ m, n ≤ m → sp m [x] H1 (fun v H2 => ∃ (it d : Addr) (ys : List V), v = .ref it ∧ n ≤ it ∧ H2 it = some (TitO d it) ∧
  SqT K H2 d ys ∧ R (Itt K d) (ItX.dropH H2 it)) E
theorem pi_ownIterT {CX : CXT} {k : Nat} {C f : Addr} {sp : Nat → Sp} {E : XK} (M : Meth X.K C "__iter__" f) (F : FnRn X.prog X.w X.K X.mg X.base CX k f sp) (hr : Room k X.A) (hx : Passes CX X E) (he : PE X e te) : PI X tg e (iOwnT X.K C X.s_0.heap.objs.size sp E te) := by
  refine ⟨fun pins s σ H R I h => ?_⟩
  refine thn (he.run pins s σ H _ I h) fun u s1 ⟨x, H1, I1, rx, a, ex, hi, q⟩ => ?_
  subst ex
  obtain rfl : u = Value.ref a := rx
  obtain ⟨m, Fr⟩ := I1.fr
  obtain ⟨ox, od, J, hd⟩ := insAt_at I1 hi
  refine PySem.W.owit_iter Fr I1.mod.kin J M.at_ M.fn (wpAny_call (codeAny_mono (F X.A X.stack s1 H1 [.ref a] [.ref a] _ E hr I1.env0 (.cons (show RelV (.ref a) (.ref a) from rfl) .nil) (q _ I1.sz)) fun r s' hq => ?_))
  cases r with
  | error e => exact hx pins σ H1 s1 e s' I1 hq
  | ok fl =>
    cases fl with
    | ret u =>
      have hq2 := I1.after hq
      obtain ⟨v, H2, I2, rv, it, d, ys, rfl, hn, hit, hd2, q2⟩ := hq2
      cases rv
      have hit' := hit
      unfold TitO at hit'
      have st : s'.heap.IsTupleIter it d 0 := (show ObjOk X.prog X.w H2 s'.heap it (.ext fun h => h.IsTupleIter it d 0) from I2.hok it _ hit').1
      show PySem.W.OwitIt _ _ _ _ (Value.ref it) _
      unfold PySem.W.OwitIt
      refine wpAny_specialOf (name := Str.ofString "__next__") st.typeIs PySem.F.slot_tuple_iterator_next.lookup ?_
      refine ⟨it, [it], _, _, ItX.dropH H2 it, rfl, ItX.inv_drop I2 hit', turn_tuple d it, st, fun b hb => ?_, q2⟩
      have e : b = it := by simpa using hb
      rw [e]
      exact ItX.inv_fp I2 hit hn
    | next => exact False.elim hq
    | brk => exact False.elim hq
    | cont => exact False.elim hq
end
end N1
set_option maxHeartbeats 4000000
/-! the text of a table -/
namespace N1
open PySem PySem.Spec PyProof.Rows L2 TL
def spTabIter (K : PySem.W.Frag) (n : Nat) : Sp := fun vs H Q _ => ∃ (a dx d dn dp dr : Addr) (ys : List V), vs = [.ref a] ∧ H a = some (.ins (cTab K) dx (tabF d dn dp dr)) ∧ SqT K H dr ys ∧ ∀ it, H it = none → n ≤ it → Q (.ref it) (upd H it (TitO dr it))
def spTabLen (K : PySem.W.Frag) : Sp := fun vs H Q _ => ∃ (a : Addr) (n : Int) (us : List TR), vs = [.ref a] ∧ TableAt K H a n us ∧ Q (.int us.length) H
section
variable {P : Program} {w : World} {K : PySem.W.Frag} {mg : Str → Option Value} {base : Heap}
theorem IsDef.fun {x qual : Str} {st : Stmt} {f : Addr} (F : IsDef K f x qual st []) : ∃ fd, Fun K x qual st f fd := by
  obtain ⟨fd, F⟩ := F
  obtain ⟨oc, od, dV, kV, doc, pm, an, cdv, ct, osl, rfl, lk, hcd, hD, hK⟩ := F.ex
  rcases hD with ⟨_, rfl⟩ | ⟨e, _⟩
  · exact ⟨_, ⟨⟨oc, od, kV, doc, pm, an, cdv, ct, osl, rfl, lk, hcd⟩, F.kp⟩⟩
  · exact absurd rfl e
theorem ok_TableIter (T : FX P K mg) : FnRn P w K mg base CX0 1 (ma K (ga K "Table") "__iter__") (spTabIter K) := by
  obtain ⟨fd, F⟩ := T.f_TableIter.fun
  refine fn_ofN F sc_TableIter (F.binds fun _ _ _ _ _ _ us hl => match us, hl with | [_], _ => rfl) (fun n vs H Q E h => ?_) (fun cdv A outer s H vs Q E hr h => ?_)
  · obtain ⟨a, dx, d, dn, dp, dr, ys, rfl, _⟩ := h
    rfl
  · obtain ⟨a, dx, d, dn, dp, dr, ys, rfl, ha, hd, k⟩ := h
    have cT := T.cls "Table" (by decide +kernel)
    have nR := T.noat ("Table", "rows") (by decide +kernel)
    refine ⟨_, pss_one (ps_ret (cb "iter" T call_iterT (pa_cons (pe_fld (pv 0) rfl) pa_nil))), ?_⟩
    exact ⟨_, rfl, a, _, dx, _, _, rfl, ha, cT, nR, rfl, dr, ys, rfl, hd, fun it h1 h2 => k it h1 h2⟩
theorem ok_TableLen (T : FX P K mg) : FnR P w K mg base CX0 1 (ma K (ga K "Table") "__len__") (spTabLen K) := by
  refine fnr T.f_TableLen sc_TableLen (fun _ _ _ _ _ _ us hl => match us, hl with | [_], _ => rfl) (fun vs H Q E h => ?_) (fun cdv A outer s H vs Q E hr h => ?_)
  · obtain ⟨a, n, us, rfl, _⟩ := h
    rfl
  · obtain ⟨a, n, us, rfl, ⟨dx, d, dn, dp, dr, rs, h1, h2, h3, h4, h5⟩, k⟩ := h
    have cT := T.cls "Table" (by decide +kernel)
    have nR := T.noat ("Table", "rows") (by decide +kernel)
    refine ⟨_, pss_one (ps_ret (cb "len" T call_len (pa_cons (pe_fld (pv 0) rfl) pa_nil))), ?_⟩
    refine ⟨_, rfl, a, _, dx, _, _, rfl, h1, cT, nR, rfl, _, _, rfl, .inr ⟨_, SqT.of h4, rfl⟩, ?_⟩
    rw [List.length_map, h5.1]
    exact k
end
end N1
set_option maxHeartbeats 4000000
/-! a table written -/
namespace N1
open PySem PySem.Spec PyProof.Rows L2 TL
def spNeedT (K : PySem.W.Frag) : Sp := fun vs H Q _ => ∃ (a : Addr) (n : Int) (us : List TR), vs = [.ref a] ∧ TableAt K H a n us ∧ Q .non H
def spWriteT (K : PySem.W.Frag) : Sp := fun vs H Q _ => ∃ (a : Addr) (n : Int) (us : List TR), vs = [.ref a] ∧ TableAt K H a n us ∧ 0 ≤ n ∧ n ≤ 1000000000000 ∧ (∀ t ∈ us, t.Ok) ∧ us.length ≤ 40 ∧ (∀ x ∈ tabL n us, x.length ≤ 100) ∧ ∀ H', Same H H' → Q (.str (tabT n us)) H'
theorem drop_upd {H : Hp} {a : Addr} {o : HO} (h : H a = none) : ItX.dropH (upd H a o) a = H := by
  funext b
  unfold ItX.dropH
  by_cases e : b = a
  · rw [if_pos e, e, h]
  · rw [if_neg e, upd_ne e]
theorem day_fs (n : Int) : Str.empty ++ "day " ++ num n = dayT n := by
  unfold dayT
  rw [join_eq]
  refine ext_tl ?_
  rw [tl_join, tl_sP]
  simp only [tl_append, joinL, List.map_cons, List.map_nil]
  rw [show tl Str.empty = [] from rfl, show tl ("day " : Str) = tl ("day" : Str) ++ [32] by decide +kernel]
  simp
theorem sum_le {l : List Str} {c : Nat} (h : ∀ x ∈ l, x.length ≤ c) : (l.map (·.length)).sum ≤ l.length * c := by
  induction l with
  | nil => simp
  | cons a l ih =>
    rw [List.map_cons, List.sum_cons, List.length_cons, Nat.succ_mul]
    have h1 := h a List.mem_cons_self
    have h2 := ih fun x hx => h x (List.mem_cons_of_mem _ hx)
    show a.length + _ ≤ _
    omega
section
variable {P : Program} {w : World} {K : PySem.W.Frag} {mg : Str → Option Value} {base : Heap}
theorem ok_need_table (T : FX P K mg) : FnR P w K mg base CX0 1 (ga K "need_table") (spNeedT K) := by
  refine fnr T.f_need_table sc_need_table (fun _ _ _ _ _ _ us hl => match us, hl with | [_], _ => rfl) (fun vs H Q E h => ?_) (fun cdv A outer s H vs Q E hr h => ?_)
  · obtain ⟨a, n, us, rfl, _⟩ := h
    rfl
  · obtain ⟨a, n, us, rfl, ⟨dx, d, dn, dp, dr, rs, h1, _⟩, k⟩ := h
    refine ⟨_, pss_one (ps_if (pt_not (pt_val (cb "isinstance" T call_isi (pa_cons (pv 0) (pa_cons (gc "Table" T) pa_nil))))) pss_never pss_nil), ?_⟩
    exact ⟨_, rfl, _, _, _, _, true, rfl, .own _, isi_ok T T.isT (T.cls "Table" (by decide +kernel)) h1, T.isT.k1, _, rfl, k⟩
theorem ok2_write_table (T : FX P K mg) : FnR P w K mg base CX0 4 (ga K "write_table") (spWriteT K) ∧ FnK1 P w K mg base CX0 4 (ga K "write_table") "table" (spWriteT K) := by
  refine fnr2 T.f_write_table sc_write_table (fun _ _ _ _ _ _ us hl => match us, hl with | [_], _ => rfl) (fun _ _ _ _ _ _ _ => rfl) (fun vs H Q E h => ?_) (fun cdv A outer s H vs Q E hr h => ?_)
  · obtain ⟨a, n, us, rfl, _⟩ := h
    rfl
  · obtain ⟨a, n, us, rfl, tab, h0, h12, hok, l40, len, k⟩ := h
    obtain ⟨dx, d, dn, dp, dr, rs, h1, h2, h3, h4, h5⟩ := id tab
    have cT := T.cls "Table" (by decide +kernel)
    have nD := T.noat ("Table", "day") (by decide +kernel)
    have nd := sc_write_table.nd
    refine ⟨_, pss_cons (ps_expr (cl "need_table" T (ok_need_table T) (hr.mono (by decide)) (pa_cons (pv 0) pa_nil)))
      (pss_one (ps_ret (pe_join pe_str (pe_lst (pa_cons (pe_joined (PJ.cons pe_str (PJ.cons (pe_fmtO T.stD (ok_DayStr T) (hr.mono (by decide)) pass0 (pe_fld (pv 0) rfl)) PJ.nil)))
        (StX.pa_star (pe_lc (own := [("trip", 1)]) (g := gName 1) (tt := tYes) (te := tCB (fun xs H Q => (∃ x, xs = [x] ∧ rStrO (ga K "Run") (spTripStr K true) E0 x H Q) ∨ (∃ x, xs = [x] ∧ rStrO (ga K "Stay") (spTripStr K false) E0 x H Q)) (tCons (tVar 1) tNil)) rfl nd
          (pi_ownIterT (T.meth ("Table", "__iter__") (by decide +kernel)) (ok_TableIter T) (hr.mono (by decide)) pass0 (pv 0)) (blkOk_by (N := ["table", "trip"]) (sc := defScope d_write_table) (by decide +kernel)) (fun _ _ _ _ _ => pg_name (i := 1) nd rfl (Or.inl rfl)) (fun _ _ _ _ _ => pts_nil)
          (fun _ _ _ _ _ => ct "str" T (callR_or (call_strO T.stR (ok_RunStr T) (hr.mono (by decide)) pass0) (call_strO T.stS (ok_StayStr T) (hr.mono (by decide)) pass0)) (pa_cons (pv 1) pa_nil))) pa_nil)))))), ?_⟩
    refine ⟨_, rfl, a, n, us, rfl, tab, ?_⟩
    have nl := num_len h0 h12
    have lD : ("day " : Str).length = 4 := rfl
    have hs : 100 ≤ sizeLine := by decide
    refine ⟨⟨_, rfl⟩, _, rfl, by simp only [Str.length_append, lenE]; omega, _, rfl, a, _, dx, _, _, rfl, h1, cT, nD, rfl, d, rfl, (let ⟨dd, e⟩ := h2; ⟨dd, _, e⟩), d, n, rfl, h2, h0, h12, num n, rfl, num n, rfl, by simp only [Str.length_append, lenE]; omega, ?_⟩
    refine ⟨_, rfl, a, rfl, ⟨_, _, h1⟩, fun m hm => ⟨a, dx, d, dn, dp, dr, rs.map V.ref, rfl, h1, SqT.of h4, fun it hit hmit => ⟨it, dr, rs.map V.ref, rfl, by omega, upd_same, SqT.of (by rw [upd_ne (ne_of_none h4 hit)]; exact h4), ?_⟩⟩⟩
    rw [drop_upd hit]
    refine fun D hD => lc_f walk_tup (fun i => (us[i]?).map fun t => V.str (tripT t)) hD (by rw [List.length_map, h5.1]; omega) (fun H' s => SqT.of (s _ _ h4)) ?_ ?_
    · rintro i v Ha Hb R k0 hi sa ⟨rfl, hv⟩ q2 q3
      obtain ⟨a', t, rfl, e1, e2, dt, hta⟩ := h5.at hv
      have hta' := sa _ _ hta
      have okt := hok t (List.mem_of_getElem? e2)
      refine ⟨rfl, _, rfl, ?_⟩
      cases hb : t.run with
      | true =>
        have ec : cTR K t = ga K "Run" := by unfold cTR; rw [hb]; rfl
        exact .inl ⟨_, rfl, a', rfl, ⟨dt, _, by rw [← ec]; exact hta'⟩, a', t, rfl, ⟨dt, hta'⟩, hb, okt, tripT t, rfl, q2 _ _ (by rw [e2]; rfl) same_rfl⟩
      | false =>
        have ec : cTR K t = ga K "Stay" := by unfold cTR; rw [hb]; rfl
        exact .inr ⟨_, rfl, a', rfl, ⟨dt, _, by rw [← ec]; exact hta'⟩, a', t, rfl, ⟨dt, hta'⟩, hb, okt, tripT t, rfl, q2 _ _ (by rw [e2]; rfl) same_rfl⟩
    · intro H1 s1 hL
      rw [List.length_map, h5.1, range_map_] at hL
      have el : [V.str (Str.empty ++ "day " ++ num n)] ++ us.map (fun t => V.str (tripT t)) = (tabL n us).map V.str := by
        rw [day_fs]
        unfold tabL
        rw [List.map_cons, List.map_map]
        rfl
      refine ⟨D, _, rfl, .inr (SqL.of hL), ?_⟩
      have lt : (tabL n us).length = us.length + 1 := by unfold tabL; simp
      have sm := sum_le len
      rw [lt] at sm
      refine ⟨by simp only [List.length_cons, List.length_append, List.length_map, List.length_nil]; rw [sizeLine_eq]; omega, fun l hl2 => ⟨_, l, tabL n us, rfl, rfl, .inl (SqL.of (by rw [upd_same, ← el]; simp)), ?_, k _ (same_new s1 hl2)⟩⟩
      rw [lt, show sN.length = 1 from rfl]
      omega
theorem ok_write_table (T : FX P K mg) : FnR P w K mg base CX0 4 (ga K "write_table") (spWriteT K) := (ok2_write_table T).1
theorem okk_write_table (T : FX P K mg) : FnK1 P w K mg base CX0 4 (ga K "write_table") "table" (spWriteT K) := (ok2_write_table T).2
end
end N1
set_option maxHeartbeats 4000000
/-! pauses written -/
namespace N1
open PySem PySem.Spec PyProof.Rows L2 TL
def spPauIter (K : PySem.W.Frag) (n : Nat) : Sp := fun vs H Q _ => ∃ (a dx dn dr : Addr) (ys : List V), vs = [.ref a] ∧ H a = some (.ins (cPau K) dx (pauF dn dr)) ∧ SqT K H dr ys ∧ ∀ it, H it = none → n ≤ it → Q (.ref it) (upd H it (TitO dr it))
def spNeedP (K : PySem.W.Frag) : Sp := fun vs H Q _ => ∃ (a : Addr) (ps : List (Str × Int)), vs = [.ref a] ∧ PausesAt K H a ps ∧ Q (.ref a) H
def spNeedPN (K : PySem.W.Frag) : Sp := fun vs H Q _ => vs = [.non] ∧ ∀ H' p, Same H H' → H p = none → PausesAt K H' p [] → Q (.ref p) H'
def spWriteP (K : PySem.W.Frag) : Sp := fun vs H Q _ => ∃ (a : Addr) (ps : List (Str × Int)), vs = [.ref a] ∧ PausesAt K H a ps ∧ (∀ p ∈ ps, NameOk p.1 ∧ 0 ≤ p.2 ∧ p.2 ≤ 1000000000000) ∧ (keysI ps).Nodup ∧ ps.length ≤ 60 ∧ ∀ H', Same H H' → Q (.str (pauT ps)) H'
def tPauW (K : PySem.W.Frag) : TE := fun σ H Q => tJs [tFmt (tVar 2), tC (.str sP), tFmt (tOp (rOwnIx (cPau K) (spPauGet K) E0) (tVar 1) (tVar 2))] Str.empty σ H fun out H1 => Q (.str out) H1
section
variable {P : Program} {w : World} {K : PySem.W.Frag} {mg : Str → Option Value} {base : Heap}
theorem ok_PausesIter (T : FX P K mg) : FnRn P w K mg base CX0 1 (ma K (ga K "Pauses") "__iter__") (spPauIter K) := by
  obtain ⟨fd, F⟩ := T.f_PausesIter.fun
  refine fn_ofN F sc_PausesIter (F.binds fun _ _ _ _ _ _ us hl => match us, hl with | [_], _ => rfl) (fun n vs H Q E h => ?_) (fun cdv A outer s H vs Q E hr h => ?_)
  · obtain ⟨a, dx, dn, dr, ys, rfl, _⟩ := h
    rfl
  · obtain ⟨a, dx, dn, dr, ys, rfl, ha, hd, k⟩ := h
    have cT := T.cls "Pauses" (by decide +kernel)
    have nR := T.noat ("Pauses", "rows") (by decide +kernel)
    refine ⟨_, pss_one (ps_ret (cb "iter" T call_iterT (pa_cons (pe_fld (pv 0) rfl) pa_nil))), ?_⟩
    exact ⟨_, rfl, a, _, dx, _, _, rfl, ha, cT, nR, rfl, dr, ys, rfl, hd, fun it h1 h2 => k it h1 h2⟩
theorem ok_needed_pauses (T : FX P K mg) : FnR P w K mg base CX0 6 (ga K "needed_pauses") (fun vs H Q E => spNeedP K vs H Q E ∨ spNeedPN K vs H Q E) := by
  refine fnr T.f_needed_pauses sc_needed_pauses (fun _ _ _ _ _ _ us hl => match us, hl with | [_], _ => rfl) (fun vs H Q E h => ?_) (fun cdv A outer s H vs Q E hr h => ?_)
  · rcases h with ⟨a, ps, rfl, _⟩ | ⟨rfl, _⟩ <;> rfl
  · refine ⟨_, pss_cons (ps_if (pt_cmp (pc_isN (pv 0))) (pss_one (ps_ret (pe_makeK (T.mkr "Pauses" (by decide +kernel)) (ok_PausesInit T) hr rfl (T.glo "Pauses" (by decide +kernel)) pass0 pk_nil))) pss_nil)
      (pss_cons (ps_if (pt_not (pt_val (cb "isinstance" T call_isi (pa_cons (pv 0) (pa_cons (gc "Pauses" T) pa_nil))))) pss_never pss_nil) (pss_one (ps_ret (pv 0)))), ?_⟩
    rcases h with ⟨a, ps, rfl, ⟨dx, dn, dr, ha, hn, hd⟩, k⟩ | ⟨rfl, k⟩
    · refine ⟨_, rfl, _, rfl, ?_⟩
      rw [show decide (V.ref a = V.non) = false from by simp]
      exact ⟨_, rfl, _, _, _, _, true, rfl, .own _, isi_ok T T.isP (T.cls "Pauses" (by decide +kernel)) ha, T.isP.k1, _, rfl, _, rfl, k⟩
    · refine ⟨_, rfl, _, rfl, ?_⟩
      rw [show decide (V.non = V.non) = true from by simp]
      have ubT : ∀ {A B : Prop}, A → if true = true then A else B := fun h => h
      refine ubT (fun xp dxp hxp hdxp hnep => ⟨xp, dxp, [], rfl, rfl, ⟨List.Pairwise.nil, (fun x h => by cases h), (fun x h => by cases h), by decide⟩, upd_same, fun H5 dn' dr' k2 hxp' f4 r4 f5 n5 r5 => ⟨rfl, ?_⟩⟩)
      have s5 : Same H H5 := made_same hxp hdxp k2
      have en : nrm [] = [] := by decide +kernel
      rw [en] at r4 r5
      exact k H5 xp s5 hxp ⟨dxp, dn', dr', hxp', r4, r5⟩
theorem ok2_write_pauses (T : FX P K mg) : FnR P w K mg base CX0 7 (ga K "write_pauses") (spWriteP K) ∧ FnK1 P w K mg base CX0 7 (ga K "write_pauses") "pauses" (spWriteP K) := by
  refine fnr2 T.f_write_pauses sc_write_pauses (fun _ _ _ _ _ _ us hl => match us, hl with | [_], _ => rfl) (fun _ _ _ _ _ _ _ => rfl) (fun vs H Q E h => ?_) (fun cdv A outer s H vs Q E hr h => ?_)
  · obtain ⟨a, ps, rfl, _⟩ := h
    rfl
  · obtain ⟨a, ps, rfl, pau, hps, hnd, l60, k⟩ := h
    obtain ⟨dx, dn, dr, ha, hn, hd⟩ := id pau
    have nd := sc_write_pauses.nd
    refine ⟨_, pss_cons (ps_set (i := 1) nd rfl (Or.inr rfl) (cl "needed_pauses" T (ok_needed_pauses T) hr (pa_cons (pv 0) pa_nil)))
      (pss_one (ps_ret (pe_join pe_str (pe_lst (pa_cons pe_str
        (StX.pa_star (pe_lc (own := [("place", 2)]) (g := gName 2) (tt := tYes) (te := tPauW K) rfl nd
          (pi_ownIterT (T.meth ("Pauses", "__iter__") (by decide +kernel)) (ok_PausesIter T) (hr.mono (by decide)) pass0 (pv 1)) (blkOk_by (N := ["pauses", "told", "place"]) (sc := defScope d_write_pauses) (by decide +kernel)) (fun _ _ _ _ _ => pg_name (i := 2) nd rfl (Or.inl rfl)) (fun _ _ _ _ _ => pts_nil)
          (fun _ _ _ _ _ => pe_joined (PJ.cons (pe_fmt (pv 2)) (PJ.cons pe_str (PJ.cons (pe_fmt (pe_ixO (T.meth ("Pauses", "__getitem__") (by decide +kernel)) T.nsq.2 (ok_PausesGetitem T) (hr.mono (by decide)) pass0 (pv 1) (pv 2))) PJ.nil))))) pa_nil)))))), ?_⟩
    refine ⟨_, rfl, .inl ⟨a, ps, rfl, pau, ?_⟩⟩
    have kl : (keysI ps).length = ps.length := by unfold keysI; rw [List.length_map]
    refine ⟨⟨_, rfl⟩, _, rfl, a, rfl, ⟨_, _, ha⟩, fun m hm => ⟨a, dx, dn, dr, (keysI ps).map V.str, rfl, ha, SqT.of hd, fun it hit hmit => ⟨it, dr, (keysI ps).map V.str, rfl, by omega, upd_same, SqT.of (by rw [upd_ne (ne_of_none hd hit)]; exact hd), ?_⟩⟩⟩
    rw [drop_upd hit]
    refine fun D hD => lc_f walk_tup (fun i => (ps[i]?).map fun p => V.str (p.1 ++ (sP ++ num p.2))) hD (by rw [List.length_map]; omega) (fun H' s => SqT.of (s _ _ hd)) ?_ ?_
    · rintro i v Ha Hb R k0 hi sa ⟨rfl, hv⟩ q2 q3
      obtain ⟨p, hp, rfl⟩ : ∃ p, ps[i]? = some p ∧ v = V.str p.1 := by
        unfold keysI at hv
        rw [List.map_map, List.getElem?_map] at hv
        cases e : ps[i]? with
        | none => rw [e] at hv; cases hv
        | some p => rw [e] at hv; exact ⟨p, rfl, (Option.some.inj hv).symm⟩
      have hm2 := List.mem_of_getElem? hp
      obtain ⟨o1, o2, o3⟩ := hps p hm2
      have en : nzI ps p.1 = p.2 := by unfold nzI; rw [lkI_of hnd hm2]; rfl
      have l1 := o1.2.1
      have l2 := num_len o2 o3
      have hs : 200 ≤ sizeLine := by decide
      refine ⟨rfl, _, rfl, ?_⟩
      refine .inl ⟨_, rfl, by omega, _, rfl, by simp only [Str.length_append, lenE]; omega, _, rfl, by simp only [Str.length_append, lenE, lenP]; omega, ?_⟩
      refine ⟨_, rfl, _, rfl, a, rfl, ⟨_, _, sa _ _ ha⟩, a, p.1, ps, rfl, pau.up sa, o1, fun H5 s5 => .inr ⟨nzI ps p.1, rfl, by rw [en]; exact log_ok o2 o3, num p.2, by rw [en], by simp only [Str.length_append, lenE, lenP]; omega, ?_⟩⟩
      refine q2 _ _ ?_ s5
      rw [hp]
      refine congrArg (fun z => some (V.str z)) (ext_tl ?_)
      simp only [tl_append, List.append_assoc]
      rfl
    · intro H1 s1 hL
      rw [List.length_map, kl, range_map_] at hL
      refine ⟨D, _, rfl, .inr (SqL.of hL), ?_⟩
      have hs : 200 ≤ sizeLine := by decide
      refine ⟨by simp only [List.length_cons, List.length_append, List.length_map, List.length_nil]; rw [sizeLine_eq]; omega, fun l hl2 => ⟨_, l, ("pauses" : Str) :: ps.map (fun p => p.1 ++ (sP ++ num p.2)), rfl, rfl, .inl (SqL.of (by rw [upd_same]; simp)), ?_, ?_⟩⟩
      · have sm := sum_le (c := 100) (l := ("pauses" : Str) :: ps.map (fun p => p.1 ++ (sP ++ num p.2))) (by
          intro x hx
          rcases List.mem_cons.mp hx with rfl | hx
          · decide
          · obtain ⟨p, hp, rfl⟩ := List.mem_map.mp hx
            obtain ⟨o1, o2, o3⟩ := hps p hp
            have l1 := o1.2.1
            have l2 := num_len o2 o3
            simp only [Str.length_append, lenP]
            omega)
        have le : (("pauses" : Str) :: ps.map (fun p => p.1 ++ (sP ++ num p.2))).length = ps.length + 1 := by simp
        rw [le] at sm ⊢
        rw [show (" " : Str).length = 1 from rfl]
        omega
      · have e : pauT ps = Txt.join " " (("pauses" : Str) :: ps.map (fun p => p.1 ++ (sP ++ num p.2))) := by
          unfold pauT pauW
          rw [join_eq, join_eq]
          have z := sj_flat sP "pauses" (ps.map fun p => (p.1, num p.2))
          rw [List.map_map, List.flatMap_map] at z
          exact z.symm
        rw [← e]
        exact k _ (same_new s1 hl2)
theorem ok_write_pauses (T : FX P K mg) : FnR P w K mg base CX0 7 (ga K "write_pauses") (spWriteP K) := (ok2_write_pauses T).1
theorem okk_write_pauses (T : FX P K mg) : FnK1 P w K mg base CX0 7 (ga K "write_pauses") "pauses" (spWriteP K) := (ok2_write_pauses T).2
end
end N1
set_option maxHeartbeats 4000000
/-! plans read -/
namespace N1
open PySem PySem.Spec PyProof.Rows L2 TL
theorem walk_enumL {K : PySem.W.Frag} {a : Addr} {xs : List V} : Walk (Ite K a) xs.length (fun H => SqL K H a xs) (YPair (fun i => some (.int (i : Nat))) (fun i => xs[i]?)) :=
  ⟨fun i H hi h => ⟨xs, xs[i], h, by simp [hi]⟩, fun H h => ⟨xs, h, Nat.le_refl _⟩, fun i H v H' hi h y => by
    obtain ⟨T, x, e, hT, eH, hx⟩ := y
    exact ⟨T, _, x, e, hT, eH, rfl, hx xs h⟩⟩
theorem ubT {c : Bool} {A B : Prop} (e : c = true) (h : A) : if c = true then A else B := by subst e; exact h
theorem ubF {c : Bool} {A B : Prop} (e : c = false) (h : B) : if c = true then A else B := by subst e; exact h
def spPLine (K : PySem.W.Frag) : Sp := fun vs H Q _ => ∃ (l : Addr) (xs : List Str) (m : Nat), vs = [.ref l] ∧ H l = some (.lst (xs.map V.str)) ∧ 1 ≤ m ∧ m < xs.length ∧ (∀ x ∈ xs, x.length + 2 ≤ sizeLine) ∧
  (∀ (i : Nat) x, xs[i]? = some x → 1 ≤ i → i < m → (Txt.split x sP)[0]? ≠ some ("pauses" : Str)) ∧ (∀ x, xs[m]? = some x → (Txt.split x sP)[0]? = some ("pauses" : Str)) ∧ (∀ x ∈ xs, Txt.split x sP ≠ []) ∧ ∀ H', Same H H' → Q (.int (m : Nat)) H'
section
variable {P : Program} {w : World} {K : PySem.W.Frag} {mg : Str → Option Value} {base : Heap}
theorem ok_pauses_line (T : FX P K mg) : FnR P w K mg base CX0 1 (ga K "pauses_line") (spPLine K) := by
  refine fnr T.f_pauses_line sc_pauses_line (fun _ _ _ _ _ _ us hl => match us, hl with | [_], _ => rfl) (fun vs H Q E h => ?_) (fun cdv A outer s H vs Q E hr h => ?_)
  · obtain ⟨l, xs, m, rfl, _⟩ := h
    rfl
  · obtain ⟨l, xs, m, rfl, hl, h1, hm, hsz, hbef, hat, hne, k⟩ := h
    have nd := sc_pauses_line.nd
    refine ⟨_, pss_cons (ps_for PassesOwn.never rfl (pi_enum (by rfl) (T.fre "enumerate" (by decide +kernel)) (pa_cons (pv 0) pa_nil)) (pg_tup rfl (pgs_cons (pg_name (i := 1) nd rfl (Or.inl rfl)) (pgs_cons (pg_name (i := 2) nd rfl (Or.inl rfl)) pgs_nil)))
      (pss_one (ps_if (pw_and (pt_cmp (pc_gt (pv 1) pe_int)) (pw_and1 (pt_cmpR op_eq (pe_ix ix_seq (pe_split (pv 2) pe_str) pe_int (fun _ _ => rfl)) pe_str (nomark _)))).pt (pss_one (ps_ret (pv 1))) pss_nil)))
      (pss_one (ps_ret (cb "len" T call_len (pa_cons (pv 0) pa_nil)))), ?_⟩
    refine ⟨_, rfl, l, _, rfl, SqL.of hl, for_it walk_enumL (fun i σ H' => Same H H' ∧ i ≤ m ∧ ∃ v1 v2, σ = [some (.ref l), v1, v2]) ⟨same_rfl, by omega, _, _, rfl⟩ (fun i σ H' _ h => SqL.of (h.1 _ _ hl)) ?_ ?_⟩
    · rintro i v σ H1 H' hi ⟨s1, him, v1, v2, rfl⟩ ⟨T1, x, y, rfl, hT, rfl, e1, e2⟩
      cases e1
      replace e2 : (xs.map V.str)[i]? = some y := e2
      rw [List.getElem?_map] at e2
      obtain ⟨z, hz, rfl⟩ : ∃ z, xs[i]? = some z ∧ y = V.str z := by
        cases e : xs[i]? with
        | none => rw [e] at e2; cases e2
        | some z => rw [e] at e2; exact ⟨z, rfl, (Option.some.inj e2).symm⟩
      have s2 : Same H (upd H1 T1 (.tup [.int (i : Nat), .str z])) := same_new s1 hT
      refine ⟨T1, _, rfl, SqT.of upd_same, rfl, _, _, rfl, _, _, rfl, rfl, ?_⟩
      refine ⟨_, rfl, _, _, rfl, rfl, _, rfl, ?_⟩
      by_cases h0 : i = 0
      · refine ubF (by simp [h0]) ⟨s2, by omega, _, _, rfl⟩
      · refine ubT (by simp; omega) ⟨_, rfl, ?_⟩
        have zm := List.mem_of_getElem? hz
        obtain ⟨f, hf⟩ : ∃ f, (Txt.split z sP)[0]? = some f := by
          cases e : Txt.split z sP with
          | nil => exact absurd e (hne z zm)
          | cons f r => exact ⟨f, rfl⟩
        refine ⟨⟨_, rfl⟩, _, _, rfl, rfl, by decide +kernel, hsz z zm, fun q hq => ?_⟩
        have s3 : Same H (upd (upd H1 T1 (.tup [.int (i : Nat), .str z])) q (.lst ((Txt.split z sP).map V.str))) := same_new s2 hq
        refine .inl ⟨q, (Txt.split z sP).map V.str, 0, V.str f, rfl, rfl, SqL.of upd_same, atI_nat (i := 0) (by rw [List.getElem?_map, hf]; rfl), ?_⟩
        refine ⟨rfl, _, rfl, ?_⟩
        by_cases e : i = m
        · subst e
          refine ubT ?_ ⟨_, rfl, k _ s3⟩
          have := (hat z hz).symm.trans hf
          cases this
          simp
        · refine ubF ?_ ⟨s3, by omega, _, _, rfl⟩
          have := hbef i z hz (by omega) (by omega)
          rw [hf] at this
          simpa using this
    · rintro σ H' ⟨s1, him, _⟩
      rw [List.length_map] at him
      omega
end
end N1
set_option maxHeartbeats 4000000
/-! the next trips that lines tell -/
namespace N1
open PySem PySem.Spec PyProof.Rows L2 TL
def kS (fs : List (Str × Str)) : List (Key × V) := fs.map fun p => ((Sum.inr p.1 : Key), V.str p.2)
theorem kS_keys (fs : List (Str × Str)) : (kS fs).map (·.1) = (fs.map (·.1)).map Sum.inr := by unfold kS; rw [List.map_map, List.map_map]; rfl
theorem kS_new {fs : List (Str × Str)} {p : Str × Str} (h : p.1 ∉ fs.map (·.1)) : putK (kS fs) (Sum.inr p.1) (.str p.2) = kS (fs ++ [p]) := by
  rw [putK_new]
  · unfold kS; rw [List.map_append]; rfl
  · cases hv : valV (kS fs) (Sum.inr p.1) with
    | none => rfl
    | some u =>
      have := valV_in hv
      rw [kS_keys] at this
      obtain ⟨y, hy, e⟩ := List.mem_map.mp this
      rw [Sum.inr.inj e] at hy
      exact absurd hy h
theorem row_words {p : Str × Str} (h : NameOk p.1 ∧ NameOk p.2) : Txt.split (rowT p) sP = [p.1, p.2] := words_of (by simp) fun y hy => by
  simp only [List.mem_cons, List.not_mem_nil, or_false] at hy
  rcases hy with rfl | rfl
  · exact name_word h.1
  · exact name_word h.2
def spFol (K : PySem.W.Frag) : Sp := fun vs H Q _ => ∃ (l nt : Addr) (pre : List Str) (fs : List (Str × Str)), vs = [.ref l, .int ((pre.length : Nat) : Int), .ref nt] ∧ H l = some (.lst ((pre ++ fs.map rowT).map V.str)) ∧ H nt = some (.tup ((fs.map (·.1)).map V.str)) ∧
  (fs.map (·.1)).Nodup ∧ fs.length ≤ 60 ∧ (∀ p ∈ fs, NameOk p.1 ∧ NameOk p.2 ∧ p.2 ∈ fs.map (·.1)) ∧ (∀ p ∈ fs, (rowT p).length + 2 ≤ sizeLine) ∧
  ∀ H' f, Same H H' → H f = none → H' f = some (.dK (kS fs)) → Q (.ref f) H'
section
variable {P : Program} {w : World} {K : PySem.W.Frag} {mg : Str → Option Value} {base : Heap}
theorem ok_follows_told (T : FX P K mg) : FnR P w K mg base CX0 3 (ga K "follows_told") (spFol K) := by
  refine fnr T.f_follows_told sc_follows_told (fun _ _ _ _ _ _ us hl => match us, hl with | [_, _, _], _ => rfl) (fun vs H Q E h => ?_) (fun cdv A outer s H vs Q E hr h => ?_)
  · obtain ⟨l, nt, pre, fs, rfl, _⟩ := h
    rfl
  · obtain ⟨l, nt, pre, fs, rfl, hl, hnt, hnd, l60, hps, hlen, k⟩ := h
    have c := wdC T
    have nd := sc_follows_told.nd
    have hu := hu_of hr
    refine ⟨_, pss_cons (ps_set (i := 3) nd rfl (Or.inl rfl) pe_dnewK)
      (pss_cons (ps_for PassesOwn.never rfl (pi_enumT (by rfl) (T.fre "enumerate" (by decide +kernel)) (pa_cons (pv 2) pa_nil)) (pg_tup rfl (pgs_cons (pg_name (i := 4) nd rfl (Or.inl rfl)) (pgs_cons (pg_name (i := 5) nd rfl (Or.inl rfl)) pgs_nil)))
        (pss_cons (ps_if (pt_cmpR op_eq (pe_op op_add (pv 1) (pv 4)) (cb "len" T call_len (pa_cons (pv 0) pa_nil)) (nomark _)) pss_never pss_nil)
        (pss_cons (ps_set (i := 6) nd rfl (Or.inl rfl) (StX.pe_makeR (T.mkr "Words" (by decide +kernel)) (ok_WordsInit T) (hr.mono (by decide)) rfl (T.glo "Words" (by decide +kernel)) pass0 (pa_cons (pe_op op_add (pv 1) (pv 4)) (pa_cons (pe_ix ix_list (pv 0) (pe_op op_add (pv 1) (pv 4)) (fun _ _ => rfl)) pa_nil))))
        (pss_cons (ps_expr (pe_methR (pv 6) c.c (T.meth ("Words", "take_word") (by decide +kernel)) (ok_take_word T) hr pass0 (pa_cons (pe_tup (pa_cons (pv 5) pa_nil)) pa_nil)))
        (pss_cons (ps_dput hu (pv 3) (pv 5) (pe_methR (pv 6) c.c (T.meth ("Words", "take_word") (by decide +kernel)) (ok_take_word T) hr pass0 (pa_cons (pv 2) pa_nil)) rfl)
        (pss_one (ps_expr (pe_methR0 (pv 6) c.c (T.meth ("Words", "take_end") (by decide +kernel)) (ok_take_end T) (hr.mono (by decide)) pass0))))))))
      (pss_cons (ps_if (pt_cmpR op_gt (cb "len" T call_len (pa_cons (pv 0) pa_nil)) (pe_op op_add (pv 1) (cb "len" T call_len (pa_cons (pv 2) pa_nil))) (nomark _)) pss_never pss_nil)
      (pss_one (ps_ret (pv 3))))), ?_⟩
    intro fd hfd
    have s0 : Same H (upd H fd (.dK [])) := same_new same_rfl hfd
    have klen : (fs.map (·.1)).length = fs.length := List.length_map ..
    have e0 : ((fs.map (·.1)).map V.str).length = fs.length := by rw [List.length_map, List.length_map]
    refine ⟨_, rfl, nt, _, rfl, SqT.of (s0 _ _ hnt), for_it walk_enumT (fun i σ H' => Same H H' ∧ H' fd = some (.dK (kS (fs.take i))) ∧ ∃ v4 v5 v6, σ = [some (.ref l), some (.int ((pre.length : Nat) : Int)), some (.ref nt), some (.ref fd), v4, v5, v6]) ⟨s0, by rw [upd_same]; rfl, _, _, _, rfl⟩ (fun i σ H' _ h => SqT.of (h.1 _ _ hnt)) ?_ ?_⟩
    · rintro i v σ H1 H' hi ⟨s1, hf1, v4, v5, v6, rfl⟩ ⟨T1, x, y, rfl, hT, rfl, e1, e2⟩
      cases e1
      replace e2 : ((fs.map (·.1)).map V.str)[i]? = some y := e2
      rw [List.getElem?_map, List.getElem?_map] at e2
      obtain ⟨p, hp, rfl⟩ : ∃ p, fs[i]? = some p ∧ y = V.str p.1 := by
        cases e : fs[i]? with
        | none => rw [e] at e2; cases e2
        | some z => rw [e] at e2; exact ⟨z, rfl, (Option.some.inj e2).symm⟩
      have hpm := List.mem_of_getElem? hp
      obtain ⟨o1, o2, o3⟩ := hps p hpm
      have il : i < fs.length := (List.getElem?_eq_some_iff.mp hp).1
      have s2 : Same H (upd H1 T1 (.tup [.int (i : Nat), .str p.1])) := same_new s1 hT
      have hf2 : (upd H1 T1 (.tup [.int (i : Nat), .str p.1])) fd = some (.dK (kS (fs.take i))) := by rw [upd_ne (ne_of_none hf1 hT)]; exact hf1
      refine ⟨T1, _, rfl, SqT.of upd_same, rfl, _, _, rfl, _, _, rfl, rfl, ?_⟩
      generalize upd H1 T1 (.tup [.int (i : Nat), .str p.1]) = H2 at s2 hf2
      have eat : ((pre.length : Nat) : Int) + (i : Int) = ((pre.length + i : Nat) : Int) := by omega
      have hline : (pre ++ fs.map rowT)[pre.length + i]? = some (rowT p) := by
        rw [List.getElem?_append_right (by omega), show pre.length + i - pre.length = i by omega, List.getElem?_map, hp]
        rfl
      refine ⟨_, rfl, _, rfl, _, _, rfl, rfl, _, rfl, _, _, rfl, .inl ⟨_, SqL.of (s2 _ _ hl), rfl⟩, rfl, _, rfl, ?_⟩
      rw [show decide (V.int (((pre.length : Nat) : Int) + (i : Int)) = V.int ((((pre ++ fs.map rowT).map V.str).length : Nat) : Int)) = false from by
        rw [List.length_map, List.length_append, List.length_map]
        have : ¬ (((pre.length : Nat) : Int) + (i : Int)) = ((pre.length + fs.length : Nat) : Int) := by omega
        simp only [decide_eq_false_iff_not]
        intro z
        exact this (V.int.inj z)]
      refine iF ⟨_, rfl, _, rfl, _, _, rfl, rfl, _, rfl, _, rfl, _, rfl, _, _, rfl, rfl, l, _, _, .str (rowT p), rfl, rfl, SqL.of (s2 _ _ hl), ?_, fun x dx hx hdx hne => ⟨x, dx, _, rowT p, rfl, hlen p hpm, upd_same, fun H5 wl k5 e5 n5 w5 => ⟨rfl, ?_⟩⟩⟩
      · rw [eat]
        exact atI_nat (by rw [List.getElem?_map, hline]; rfl)
      · rw [row_words ⟨o1, o2⟩] at w5
        obtain ⟨s5, wa5⟩ := words_new hx hdx k5 e5 w5 (show (2 : Nat) ≤ 1000 by decide)
        have hf5 := s5 _ _ hf2
        refine ⟨_, rfl, x, dx, _, rfl, e5, rfl, _, rfl, (show (1 : Nat) ≤ sizeLine by decide), fun cc hcc => ?_⟩
        have ncx : cc ≠ x := fun z => by rw [z, e5] at hcc; cases hcc
        have s6 : Same H5 (upd H5 cc (.tup [V.str p.1])) := same_new same_rfl hcc
        have wa6 := wa5.same s6
        refine ⟨x, dx, wl, cc, _, _, [p.1], 0, p.1, rfl, wa6, SqT.of upd_same, rfl, by simp, ncx, fun H7 k7 e7 => ?_⟩
        have wa7 := wa6.took k7 e7
        have nfx : fd ≠ x := fun z => by rw [z, e5] at hf5; cases hf5
        have hf7 := k7 fd _ nfx (s6 _ _ hf5)
        have s27 : Same H2 H7 := kx_new hx (same_tr s5 s6) (fun b v hb e => k7 b v (by simpa using hb) e)
        have s7 : Same H H7 := same_tr s2 s27
        have nnx : nt ≠ x := fun z => by have h5 := s5 _ _ (s2 _ _ hnt); rw [z, e5] at h5; cases h5
        refine ⟨_, rfl, x, dx, _, rfl, e7, rfl, _, rfl, x, dx, wl, nt, _, _, fs.map (·.1), 1, p.2, rfl, wa7, SqT.of (s7 _ _ hnt), rfl, o3, nnx, fun H8 k8 e8 => ?_⟩
        have wa8 := wa7.took k8 e8
        have hf8 := k8 fd _ nfx hf7
        have s28 : Same H2 H8 := kx_new hx (same_tr s5 s6) (fun b v hb e => k8 b v (by simpa using hb) (k7 b v (by simpa using hb) e))
        have et : fs.take (i + 1) = fs.take i ++ [p] := by
          rw [List.take_succ, hp]
          rfl
        have hni : p.1 ∉ (fs.take i).map (·.1) := by
          have h := hnd.sublist (List.Sublist.map (fun q : Str × Str => q.1) (List.take_sublist (i + 1) fs))
          rw [et, List.map_append] at h
          exact fun z => (List.nodup_append.mp h).2.2 _ z _ (List.mem_singleton.mpr rfl) rfl
        have ek : putK (kS (fs.take i)) (Sum.inr p.1) (.str p.2) = kS (fs.take (i + 1)) := by rw [kS_new hni, et]
        refine ⟨_, rfl, _, rfl, fd, _, rfl, DPut.k (k := Sum.inr p.1) hf8 (by unfold kS; rw [List.length_map, List.length_take, sizeLine_eq]; omega), ?_⟩
        rw [ek]
        have nwl : wl ≠ fd := ne_of wa8.2.1 hf8 (by intro z; cases z)
        have wa9 : WdsAt K (upd H8 fd (.dK (kS (fs.take (i + 1))))) x dx _ wl _ 2 := ⟨by rw [upd_ne nfx.symm]; exact wa8.1, by rw [upd_ne nwl]; exact wa8.2.1, wa8.2.2⟩
        refine ⟨_, rfl, x, dx, _, rfl, wa9.1, rfl, x, dx, wl, _, _, rfl, wa9, ?_⟩
        exact ⟨same_at (same_tr s2 s28) hfd, upd_same, _, _, _, rfl⟩
    · rintro σ H' ⟨s1, hf1, v4, v5, v6, rfl⟩
      rw [e0, List.take_length] at hf1
      refine ⟨_, rfl, _, _, rfl, .inl ⟨_, SqL.of (s1 _ _ hl), rfl⟩, _, rfl, _, rfl, _, _, rfl, .inr ⟨_, SqT.of (s1 _ _ hnt), rfl⟩, _, _, rfl, rfl, _, _, rfl, rfl, _, rfl, ?_⟩
      have eg : decide (((pre.length : Nat) : Int) + ((((fs.map (·.1)).map V.str).length : Nat) : Int) < ((((pre ++ fs.map rowT).map V.str).length : Nat) : Int)) = false := by
        rw [e0, List.length_map, List.length_append, List.length_map]
        simp only [decide_eq_false_iff_not]
        omega
      rw [eg]
      exact iF ⟨_, rfl, k H' fd s1 hfd hf1⟩
end
end N1
set_option maxHeartbeats 2000000
/-! [*d, ..], d a dict -/
namespace N1
open PySem PySem.Spec PyProof.Rows L2
section
variable {prog : Program} {w : World} {A : Around} {E : Value → Shared → Prop} {s : Shared} {KK : Type} [DecidableEq KK] {knd : KeyKind prog w KK} {d : Addr} {kvs : List (KK × Value)} {ep : Nat}
theorem collect_dict {Q : List Value → Shared → Prop} (lo : (d == sysModules) = false) (hh : A.handled = none) (hm : s.heap.DictAt knd d kvs ep) (hn : kvs.length ≤ sizeLine)
    (hQ : ∀ h' tk acc, (∀ b o, s.heap.get? b = some o → h'.get? b = some o) → ItemsOf (fun i v => ∃ k x, kvs[i]? = some (k, x) ∧ knd.is k v = true) acc kvs.length → Q acc.toList { s with heap := h', toks := tk }) :
    wpAny (model prog w) A (collect (.ref d)) Q E s := by
  unfold collect
  refine wpAny_bind (wpAny_runValue (codeAny_builtin PySem.F.entry_proto_collect ?_))
  rw [Around.under_plainId PySem.F.plain_proto_collect _]
  show wpAny _ A.in1 (newList [] >>= fun l => again (.builtin "list.__iadd__" ⟨[l, .ref d], []⟩)) _ _ s
  refine wpAny_bind (wpAny_newObj_type ?_)
  refine wpAny_pure ⟨plainId_quiet PySem.F.plain_list_iadd _, codeAny_builtin PySem.F.entry_list_iadd ?_⟩
  rw [Around.under_plainId PySem.F.plain_list_iadd _]
  have hS : (s.heap.push { cls := .type "list", data := .seq ([] : List Value).toArray }).get? s.heap.objs.size = some { cls := .type "list", data := .seq ([] : List Value).toArray } := Heap.get?_push_size _ rfl
  have hlt : d < s.heap.objs.size := hm.lt_size
  show wpAny _ A.in1 (Builtin.List.listExtendWith (.ref s.heap.objs.size) (.ref d) (.ref s.heap.objs.size)) _ _ _
  refine PySem.W.kdl_extend (A := A) (R := wants (fun v s' => wpAny (model prog w) A (match v with | .ref a => (load a >>= fun o => match o.data with | .seq xs _ => pure xs.toList | _ => unsupported "internal:collect") | _ => unsupported "internal:collect") Q E s') E) (s := { s with heap := s.heap.push { cls := .type "list", data := .seq ([] : List Value).toArray } }) (PySem.W.kdl_dict (knd := knd) (kvs := kvs) (ep := ep) lo) hh (hm.push _) s.heap.objs.size (Nat.ne_of_gt hlt) (Nat.ne_of_gt hlt) _ _ hS (fun h' tk acc' c' hk hS' hacc => ?_) hn
  show wpAny _ A (load s.heap.objs.size >>= _) _ _ _
  refine wpAny_bind (wpAny_load hS' ?_)
  exact wpAny_pure (hQ h' tk acc' (fun b o e => hk b o (Nat.ne_of_lt (Heap.lt_size e)) (Heap.get?_push_of_some _ e)) hacc)
end
def tStarD (te : TE) (t : TA) : TA := fun σ H Q => te σ H fun x H1 => ∃ p kvs, x = V.ref p ∧ H1 p = some (.dK kvs) ∧ t σ H1 fun ys H2 => Q ((kvs.map fun kv => kV kv.1) ++ ys) H2
section
variable {X : Cx} {pins : List (Addr × Obj)} {σ : L2.St} {H : Hp} {s : Shared} {e : Expr} {es : List Expr} {te : TE} {t : TA} {p : Pos}
theorem star_dict {a : Addr} {kvs : List (Key × V)} {E : Value → Shared → Prop} {Q : List Value → Shared → Prop} (hc : X.calm = true) (I : Inv X pins σ H s) (h : H a = some (.dK kvs)) (hQ : ∀ us s', Inv X pins σ H s' → Vals (kvs.map fun kv => kV kv.1) us → Q us s') : PySem.W.StarOf (model X.prog X.w) X.A E (.ref a) Q s := by
  obtain ⟨z, lo, vs, rk, hd⟩ := (show ObjOk X.prog X.w H s.heap a (.dK kvs) from I.hok a _ h)
  obtain ⟨ep, hat⟩ := hd.dictAt
  have hl : kvs.length = vs.length := Paired.length rk
  have z : wpAny (model X.prog X.w) X.A (collect (.ref a)) Q E s := by
    refine collect_dict (knd := mixKind X.prog X.w) (kvs := vs) (ep := ep) lo (I.ok.hd hc) hat (by rw [← hl]; exact z) fun h' tk acc hk hacc => ?_
    refine hQ _ _ (I.kept (t' := tk) hk) ?_
    have el : acc.toList.length = acc.size := by simp
    refine vals_of_at (by rw [List.length_map, el, hacc.1, hl]) fun j x w h1 h2 => ?_
    obtain ⟨k, y, hky, hi⟩ := hacc.2 j w (by rw [← Array.getElem?_toList]; exact h2)
    have e1 : (kvs.map (·.1))[j]? = some k := by
      rw [KV.keys rk, List.getElem?_map, hky] <;> rfl
    have e2 : (kvs.map fun kv => kV kv.1)[j]? = some (kV k) := by
      have e3 : (kvs.map fun kv => kV kv.1) = (kvs.map (·.1)).map kV := by rw [List.map_map] <;> rfl
      rw [e3, List.getElem?_map, e1] <;> rfl
    rw [e2] at h1
    cases h1
    exact keyIs_rel hi
  have hT : s.TypeIs (.ref a) "dict" := hd.typeIs
  unfold PySem.W.StarOf notIterableAtAll
  exact wpAny_bind (wpAny_specialOf hT PySem.F.slot_dict_iter.lookup (wpAny_pure ⟨rfl, z⟩))
theorem pa_starD (hc : X.calm = true) (he : PE X e te) (hr : PA X es t) (hs : starEach (.Starred e p :: es) X.env = (true, eval e X.env) :: starEach es X.env := by rfl) : PA X (.Starred e p :: es) (tStarD te t) := by
  refine ⟨fun pos pins s σ H Q I h => ?_⟩
  refine PySem.W.items_star (thn (he.run pins s σ H _ I h) fun v s1 ⟨y, H1, I1, ry, a, kvs, ey, hx, q⟩ => ?_) hs
  subst ey
  obtain rfl : v = Value.ref a := ry
  refine star_dict hc I1 hx fun us s2 I2 rv => ?_
  exact thn (hr.run pos pins s2 σ H1 _ I2 q) fun ws s3 ⟨vs, H3, I3, r3, q3⟩ => ⟨_, H3, I3, rv.append r3, q3⟩
end
end N1
set_option maxHeartbeats 4000000
/-! comprehensions and sorted over lists, tuples, dicts of known things -/
namespace N1
open PySem PySem.Spec PyProof.Rows L2 TL
theorem filterMap_at {α β : Type} (ys : List α) (f : α → β) : (List.range ys.length).filterMap (fun i : Nat => (ys[i]?).map f) = ys.map f := range_map_ ys f
theorem none_of {H H' : Hp} {p : Addr} (s : Same H H') (h : H' p = none) : H p = none := same_non s h
section
variable {K : PySem.W.Frag} {wi : TI} {g : TG} {te : TE} {vs : List Nat} {σ : L2.St} {H : Hp} {l d : Addr} {Q : VK} {α : Type}
theorem lc_A {D : Addr} {Qd : Hp → Prop} (ys : List α) (e f : α → V) (hl : SqL K H l (ys.map e)) (hn : ys.length ≤ 100000) (hD : H D = none)
    (hst : ∀ y ∈ ys, ∀ H' Qk, Same H H' → (∀ H2, Same H' H2 → Qk (f y) H2) → g (e y) (wipe σ vs) H' fun σ2 H2 => wipe σ2 vs = wipe σ vs ∧ te σ2 H2 Qk)
    (q : ∀ H', Same H H' → H' D = some (.lst (ys.map f)) → Qd H') : ∃ W : Nat → Nat → Hp → Prop, (∃ m, W 0 m (upd H D (.lst []))) ∧ ∀ i m H, W i m H →
      ((Itl K l).stop i H ∧ Qd H) ∨ ((Itl K l).go i H ∧ ∃ Nx : Hp → Prop, (∀ H', Nx H' → ∃ m', m' < m ∧ W (i + 1) m' H') ∧ ∀ x H', (Itl K l).yld i H x H' → g x (wipe σ vs) H' fun σ2 H2 => wipe σ2 vs = wipe σ vs ∧ tYes σ2 H2 fun b H3 =>
        if b = true then te σ2 H3 fun y H4 => ∃ acc, H4 D = some (.lst acc) ∧ acc.length < sizeLine ∧ Nx (upd H4 D (.lst (acc ++ [y]))) else Nx H3) := by
  refine lc_f walk_list (fun i => (ys[i]?).map f) hD (by rw [List.length_map]; exact hn) (fun H' s => SqL.ext hl s) ?_ ?_
  · rintro i v Ha Hb kk k0 hi sa ⟨rfl, hx⟩ h2 h3
    rw [List.getElem?_map] at hx
    cases e1 : ys[i]? with
    | none => rw [e1] at hx; cases hx
    | some y =>
      rw [e1] at hx
      cases hx
      exact hst y (List.mem_of_getElem? e1) _ _ sa fun H2 s2 => h2 _ _ (by rw [e1]; rfl) s2
  · intro H3 s3 hL3
    rw [List.length_map, range_map_] at hL3
    exact q _ s3 hL3
theorem lc_T {D : Addr} {Qd : Hp → Prop} (ys : List α) (e f : α → V) (hl : SqT K H l (ys.map e)) (hn : ys.length ≤ 100000) (hD : H D = none)
    (hst : ∀ y ∈ ys, ∀ H' Qk, Same H H' → (∀ H2, Same H' H2 → Qk (f y) H2) → g (e y) (wipe σ vs) H' fun σ2 H2 => wipe σ2 vs = wipe σ vs ∧ te σ2 H2 Qk)
    (q : ∀ H', Same H H' → H' D = some (.lst (ys.map f)) → Qd H') : ∃ W : Nat → Nat → Hp → Prop, (∃ m, W 0 m (upd H D (.lst []))) ∧ ∀ i m H, W i m H →
      ((Itt K l).stop i H ∧ Qd H) ∨ ((Itt K l).go i H ∧ ∃ Nx : Hp → Prop, (∀ H', Nx H' → ∃ m', m' < m ∧ W (i + 1) m' H') ∧ ∀ x H', (Itt K l).yld i H x H' → g x (wipe σ vs) H' fun σ2 H2 => wipe σ2 vs = wipe σ vs ∧ tYes σ2 H2 fun b H3 =>
        if b = true then te σ2 H3 fun y H4 => ∃ acc, H4 D = some (.lst acc) ∧ acc.length < sizeLine ∧ Nx (upd H4 D (.lst (acc ++ [y]))) else Nx H3) := by
  refine lc_f walk_tup (fun i => (ys[i]?).map f) hD (by rw [List.length_map]; exact hn) (fun H' s => SqT.ext hl s) ?_ ?_
  · rintro i v Ha Hb kk k0 hi sa ⟨rfl, hx⟩ h2 h3
    rw [List.getElem?_map] at hx
    cases e1 : ys[i]? with
    | none => rw [e1] at hx; cases hx
    | some y =>
      rw [e1] at hx
      cases hx
      exact hst y (List.mem_of_getElem? e1) _ _ sa fun H2 s2 => h2 _ _ (by rw [e1]; rfl) s2
  · intro H3 s3 hL3
    rw [List.length_map, range_map_] at hL3
    exact q _ s3 hL3
/-- [.. for x in d], d a locked dict -/
theorem lc_D {D : Addr} {Qd : Hp → Prop} {od : Obj} {kvs : List (Key × V)} (f : Key × V → V) (hd : H d = some (.frz od (.dK kvs))) (hn : kvs.length ≤ 100000) (hD : H D = none)
    (hst : ∀ y ∈ kvs, ∀ H' Qk, Same H H' → (∀ H2, Same H' H2 → Qk (f y) H2) → g (kV y.1) (wipe σ vs) H' fun σ2 H2 => wipe σ2 vs = wipe σ vs ∧ te σ2 H2 Qk)
    (q : ∀ H', Same H H' → H' D = some (.lst (kvs.map f)) → Qd H') : ∃ W : Nat → Nat → Hp → Prop, (∃ m, W 0 m (upd H D (.lst []))) ∧ ∀ i m H, W i m H →
      ((Itk d od kvs).stop i H ∧ Qd H) ∨ ((Itk d od kvs).go i H ∧ ∃ Nx : Hp → Prop, (∀ H', Nx H' → ∃ m', m' < m ∧ W (i + 1) m' H') ∧ ∀ x H', (Itk d od kvs).yld i H x H' → g x (wipe σ vs) H' fun σ2 H2 => wipe σ2 vs = wipe σ vs ∧ tYes σ2 H2 fun b H3 =>
        if b = true then te σ2 H3 fun y H4 => ∃ acc, H4 D = some (.lst acc) ∧ acc.length < sizeLine ∧ Nx (upd H4 D (.lst (acc ++ [y]))) else Nx H3) := by
  refine lc_f walk_keys (fun i => (kvs[i]?).map f) hD hn (fun H' s => s _ _ hd) ?_ ?_
  · rintro i v Ha Hb kk k0 hi2 sa ⟨rfl, k, v2, e1, rfl⟩ h2 h3
    exact hst (k, v2) (List.mem_of_getElem? e1) _ _ sa fun H2 s2 => h2 _ _ (by rw [e1]; rfl) s2
  · intro H3 s3 hL3
    rw [range_map_] at hL3
    exact q _ s3 hL3
end
/-- sorted(xs), xs a list that was made just now -/
theorem srt_fin {H H1 : Hp} {xs ys : List Str} {p : Addr} (s1 : Same H H1) (hperm : ys.Perm xs) (hsort : sortedS ys = true) (hp : H1 p = none) : ys = sn xs ∧ Same H (upd H1 p (.lst (ys.map V.str))) ∧ H p = none :=
  ⟨sn_of hperm hsort, same_new s1 hp, none_of s1 hp⟩
theorem kS_kV (fs : List (Str × Str)) : (kS fs).map (fun kv => kV kv.1) = (fs.map (·.1)).map V.str := by unfold kS; rw [List.map_map, List.map_map]; rfl
theorem kS_vals (fs : List (Str × Str)) : (kS fs).map (·.2) = (fs.map (·.2)).map V.str := by unfold kS; rw [List.map_map, List.map_map]; rfl
def spIsOrd (K : PySem.W.Frag) : Sp := fun vs H Q _ => ∃ (t f : Addr) (n : Int) (us : List TR) (fs : List (Str × Str)), vs = [.ref t, .ref f] ∧ TableAt K H t n us ∧ H f = some (.dK (kS fs)) ∧ (fs.map (·.1)).Perm (names us) ∧ (fs.map (·.2)).Perm (names us) ∧ us.length ≤ 60 ∧ (∀ t ∈ us, t.Ok) ∧ sn (names us) = names us ∧
  ∀ H', Same H H' → Q (.bl true) H'
section
variable {P : Program} {w : World} {K : PySem.W.Frag} {mg : Str → Option Value} {base : Heap}
theorem ok_is_order (T : FX P K mg) : FnR P w K mg base CX0 3 (ga K "is_order") (spIsOrd K) := by
  refine fnr T.f_is_order sc_is_order (fun _ _ _ _ _ _ us hl => match us, hl with | [_, _], _ => rfl) (fun vs H Q E h => ?_) (fun cdv A outer s H vs Q E hr h => ?_)
  · obtain ⟨t, f, n, us, fs, rfl, _⟩ := h
    rfl
  · obtain ⟨t, f, n, us, fs, rfl, tab, hf, p1, p2, l60, hok, hs, k⟩ := h
    obtain ⟨dx, d, dn, dp, dr, rs, h1, h2, h3, h4, h5⟩ := id tab
    have cT := T.cls "Table" (by decide +kernel)
    have nN := T.noat ("Table", "names") (by decide +kernel)
    have nd := sc_is_order.nd
    refine ⟨_, pss_cons (ps_if (pw_or (pt_not (pt_val (cb "isinstance" T call_isi (pa_cons (pv 1) (pa_cons (gt "dict" "dict" T) pa_nil))))) (pw_or1 (pt_cmpR op_ne (cb "len" T call_lenD (pa_cons (pv 1) pa_nil)) (cb "len" T (call_ownLen (T.meth ("Table", "__len__") (by decide +kernel)) (ok_TableLen T) (hr.mono (by decide)) pass0) (pa_cons (pv 0) pa_nil)) (nomark _)))).pt pss_never pss_nil)
      (pss_cons (ps_set (i := 2) nd rfl (Or.inl rfl) (pe_listVals rfl (pv 1) (by rfl) (T.fre "list" (by decide +kernel))))
      (pss_cons (ps_if (pt_not (pt_val (cb "all" T (cr_all rfl) (pa_cons (pe_lc (own := [("name", 3)]) (g := gName 3) (tt := tYes) (te := tOp (rOwnIn (cTab K) (spTabIn K) E0 false) (tVar 3) (tVar 0)) rfl nd (pi_list (pe_lst (pa_starD rfl (pv 1) (StX.pa_star (pv 2) pa_nil)))) (blkOk_by (N := ["table", "follows", "told", "name"]) (sc := defScope d_is_order) (by decide +kernel))
          (fun _ _ _ _ _ => pg_name (i := 3) nd rfl (Or.inl rfl)) (fun _ _ _ _ _ => pts_nil) (fun _ _ _ _ _ => pe_cmpR (or_ownIn (T.meth ("Table", "__contains__") (by decide +kernel)) (ok_TableContains T) (hr.mono (by decide)) pass0) (pv 3) (pv 0) rfl)) pa_nil)))) pss_never pss_nil)
      (pss_one (ps_ret (pe_cmpR (op_eqD hr.units) (cb "sorted" T cr_sortedS (pa_cons (pe_lc (own := [("name", 3)]) (g := gName 3) (tt := tYes) (te := tCB rStr1 (tCons (tVar 3) tNil)) rfl nd (pi_list (pv 2)) (blkOk_by (N := ["table", "follows", "told", "name"]) (sc := defScope d_is_order) (by decide +kernel))
          (fun _ _ _ _ _ => pg_name (i := 3) nd rfl (Or.inl rfl)) (fun _ _ _ _ _ => pts_nil) (fun _ _ _ _ _ => ct "str" T SkE.call_str_str (pa_cons (pv 3) pa_nil))) pa_nil)) (ct "list" T call_list_of (pa_cons (pe_fld (pv 0) rfl) pa_nil)) (nomark _)))))), ?_⟩
    have lf : (kS fs).length = us.length := by
      have := p1.length_eq
      unfold names at this
      rw [List.length_map, List.length_map] at this
      unfold kS; rw [List.length_map]; exact this
    refine ⟨_, rfl, _, _, _, _, true, rfl, .ty _, .base (.dK hf), kit_ty (by decide +kernel), _, rfl, ?_⟩
    refine ⟨_, rfl, f, _, rfl, hf, _, rfl, t, rfl, ⟨_, _, h1⟩, t, n, us, rfl, tab, us.length, rfl, by omega, by omega, rfl, _, rfl, ?_⟩
    rw [show (!decide (V.int (((kS fs).length : Nat) : Int) = V.int ((us.length : Nat) : Int))) = false from by rw [lf]; simp]
    refine iF ⟨_, rfl, f, _, rfl, hf, fun l hl => ?_⟩
    rw [kS_vals]
    have s1 : Same H (upd H l (.lst ((fs.map (·.2)).map V.str))) := same_new same_rfl hl
    have hl1 : (upd H l (.lst ((fs.map (·.2)).map V.str))) l = some (.lst ((fs.map (·.2)).map V.str)) := upd_same
    generalize upd H l (.lst ((fs.map (·.2)).map V.str)) = H1 at s1 hl1
    have ll : ((fs.map (·.1)) ++ (fs.map (·.2))).length ≤ 120 := by
      have e1 := p1.length_eq
      have e2 := p2.length_eq
      unfold names at e1 e2
      rw [List.length_map] at e1 e2
      rw [List.length_append, List.length_map, List.length_map]
      rw [List.length_map] at e1 e2
      omega
    refine ⟨_, rfl, f, kS fs, rfl, s1 _ _ hf, _, rfl, l, _, rfl, .inr (SqL.of hl1), ?_⟩
    have eL : (kS fs).map (fun kv => kV kv.1) ++ ((fs.map (·.2)).map V.str ++ []) = (fs.map (·.1) ++ fs.map (·.2)).map V.str := by rw [kS_kV, List.append_nil, ← List.map_append]
    refine ⟨by rw [eL, List.length_map, sizeLine_eq]; omega, fun q hq => ⟨q, rfl, ⟨_, SqL.of upd_same⟩, ?_⟩⟩
    have hq2 : (upd H1 q (.lst ((kS fs).map (fun kv => kV kv.1) ++ ((fs.map (·.2)).map V.str ++ [])))) q = some (.lst ((fs.map (·.1) ++ fs.map (·.2)).map V.str)) := by rw [upd_same, eL]
    have s2 : Same H1 (upd H1 q (.lst ((kS fs).map (fun kv => kV kv.1) ++ ((fs.map (·.2)).map V.str ++ [])))) := same_new same_rfl hq
    refine fun D hD => lc_A (fs.map (·.1) ++ fs.map (·.2)) V.str (fun _ => .bl true) (SqL.of hq2) (by omega) hD ?_ ?_
    · intro y hy H4 Qk s4 hk
      have s24 := same_tr s1 (same_tr s2 s4)
      have hyn : y ∈ names us := by
        rcases List.mem_append.mp hy with z | z
        · exact p1.mem_iff.mp z
        · exact p2.mem_iff.mp z
      refine ⟨rfl, _, rfl, _, rfl, t, rfl, ⟨_, _, s24 _ _ h1⟩, t, y, n, us, rfl, tab.up s24, _, rfl, ?_⟩
      rw [decide_eq_true hyn]
      exact hk _ same_rfl
    · intro H3 s3 hD3
      have s03 := same_tr s1 (same_tr s2 s3)
      refine ⟨D, List.replicate (fs.map (·.1) ++ fs.map (·.2)).length true, rfl, SqL.of ?_, ?_⟩
      · rw [hD3]
        congr 2
        rw [List.map_replicate, List.map_const']
      rw [show (List.replicate (fs.map (·.1) ++ fs.map (·.2)).length true).all id = true by simp]
      have hl3 := s2 _ _ hl1
      refine ⟨_, rfl, iF ⟨_, rfl, l, rfl, ⟨_, SqL.of (s3 _ _ hl3)⟩, ?_⟩⟩
      refine fun D5 hD5 => lc_A (fs.map (·.2)) V.str V.str (SqL.of (s3 _ _ hl3)) (by rw [List.length_append] at ll; omega) hD5 ?_ ?_
      · intro y hy H4 Qk s4 hk
        exact ⟨rfl, _, rfl, _, rfl, hk _ same_rfl⟩
      · intro H5 s5 hD6
        refine ⟨D5, fs.map (·.2), rfl, SqL.of hD6, (by rw [p2.length_eq]; unfold names; rw [List.length_map]; omega), fun ys q7 hperm hsort hq7 => ?_⟩
        obtain ⟨rfl, s7, _⟩ := srt_fin (same_rfl (H := H5)) hperm hsort hq7
        have hq8 : (upd H5 q7 (.lst ((sn (fs.map (·.2))).map V.str))) q7 = some (.lst ((sn (fs.map (·.2))).map V.str)) := upd_same
        generalize upd H5 q7 (.lst ((sn (fs.map (·.2))).map V.str)) = H7 at s7 hq8 ⊢
        have s07 := same_tr s03 (same_tr s5 s7)
        have h17 := s07 _ _ h1
        refine ⟨_, rfl, t, _, dx, _, _, rfl, h17, cT, nN, rfl, dn, _, rfl, .inr (h3.up s07).seq, fun l8 hl8 => ?_⟩
        have esn : sn (fs.map (·.2)) = names us := by rw [sn_congr p2, hs]
        rw [esn] at hq8
        have sok : ∀ x ∈ names us, PyData.strOk x = true := fun x hx => by
          obtain ⟨u, hu, e⟩ := List.mem_map.mp hx
          rw [← e]
          exact (hok u hu).n.sok
        have s8 : Same H7 (upd H7 l8 (.lst ((names us).map V.str))) := same_new same_rfl hl8
        refine ⟨_, _, .lst (SqL.of (s8 _ _ hq8)) (dpS _), .lst (SqL.of upd_same) (dpS _), shapedS sok, shapedS sok, ?_⟩
        have e : PyData.eqv (.list ((names us).map PyData.str)) (.list ((names us).map PyData.str)) = true := by
          rw [PyData.eqv, eqvS]
          simp
        show Q (.bl (PyData.eqv (.list ((names us).map PyData.str)) (.list ((names us).map PyData.str)))) _
        rw [e]
        exact k _ (same_tr s07 s8)
end
end N1
set_option maxHeartbeats 2000000
/-! the law's drawing -/
namespace N1
open PySem PySem.Spec PyProof.Rows L2 TL
def PenAt (H : Hp) (p c : Addr) (m : Int) : Prop := ∃ (lap great : Int) (ns : List Int), H p = some (.lst [.ref c, .int lap, .int great]) ∧ H c = some (.lst (ns.map V.int)) ∧ c ≠ p ∧ 0 ≤ lap ∧ lap ≤ m ∧ 0 ≤ great ∧ ns.length ≤ 63
theorem PenAt.up {H H' : Hp} {p c : Addr} {m : Int} (s : Same H H') (h : PenAt H p c m) : PenAt H' p c m := let ⟨l, g, ns, h1, h2, h3⟩ := h; ⟨l, g, ns, s _ _ h1, s _ _ h2, h3⟩
theorem PenAt.le {H : Hp} {p c : Addr} {m m' : Int} (h : PenAt H p c m) (hm : m ≤ m') : PenAt H p c m' := let ⟨l, g, ns, h1, h2, h3, h4, h5, h6⟩ := h; ⟨l, g, ns, h1, h2, h3, h4, by omega, h6⟩
theorem PenAt.kp {H H' : Hp} {p c b : Addr} {m : Int} (k : Kp [b] H H') (h : PenAt H p c m) (hb : ∀ xs, H b ≠ some (.lst xs)) : PenAt H' p c m := by
  obtain ⟨l, g, ns, h1, h2, h3⟩ := h
  exact ⟨l, g, ns, k _ _ (fun z => by rw [List.mem_singleton.mp z] at h1; exact hb _ h1) h1, k _ _ (fun z => by rw [List.mem_singleton.mp z] at h2; exact hb _ h2) h2, h3⟩
/-- a thing that is not of the pen changes -/
theorem PenAt.upd {H : Hp} {p c b : Addr} {m : Int} {o : HO} (h : PenAt H p c m) (h1 : b ≠ p) (h2 : b ≠ c) : PenAt (upd H b o) p c m := by
  obtain ⟨l, g, ns, e1, e2, h3⟩ := h
  exact ⟨l, g, ns, by rw [upd_ne h1.symm]; exact e1, by rw [upd_ne h2.symm]; exact e2, h3⟩
theorem PenAt.ne {H : Hp} {p c : Addr} {m : Int} (h : PenAt H p c m) : H p ≠ none := by
  obtain ⟨l, g, ns, h1, h2⟩ := h
  rw [h1]
  intro z
  cases z
theorem PenAt.nec {H : Hp} {p c : Addr} {m : Int} (h : PenAt H p c m) : H c ≠ none := by
  obtain ⟨l, g, ns, h1, h2, h3⟩ := h
  rw [h2]
  intro z
  cases z
theorem gx_pen {G H H' : Hp} {p c : Addr} {m : Int} (gs : Same G H) (hG : G p = none) (k : Kp [p] H H') (h : PenAt H' p c m) : Gx [p] G H G H' := by
  refine ⟨same_rfl, fun b o e => k b o (fun z => ?_) (gs b o e), k, fun b e => ?_, fun b e => .inl e⟩
  · rw [List.mem_singleton.mp z, hG] at e
    cases e
  · by_cases hb : b = p
    · rw [hb]; exact h.ne
    · cases q : H b with
      | none => exact absurd q e
      | some o => rw [k b o (by simpa using hb) q]; intro z; cases z
def Drawn1 (H : Hp) (p c : Addr) (m n : Int) (Q : VK) : Prop := ∀ H' (i : Int), 0 ≤ i → i < n → Kp [p] H H' → PenAt H' p c (m + 1) → Q (.int i) H'
def spDraw : Sp := fun vs H Q _ => ∃ (p c : Addr) (m n : Int), vs = [.ref p, .int n] ∧ 1 ≤ n ∧ n ≤ 10000000000000 ∧ PenAt H p c m ∧ m ≤ 1000000 ∧ Drawn1 H p c m n Q
section
variable {P : Program} {w : World} {K : PySem.W.Frag} {mg : Str → Option Value} {base : Heap}
theorem kp_rfl {M : List Addr} {H : Hp} : Kp M H H := fun _ _ _ e => e
theorem kp_upd {H H' : Hp} {p : Addr} {o : HO} (k : Kp [p] H H') : Kp [p] H (upd H' p o) := fun a v ha e => by
  rw [upd_ne (by simpa using ha)]
  exact k a v ha e
theorem ok_draw (T : FX P K mg) : FnR P w K mg base CX0 1 (ga K "_law_draw") spDraw := by
  refine fnr T.f_w_draw sc_draw (fun _ _ _ _ _ _ us hl => match us, hl with | [_, _], _ => rfl) (fun vs H Q E h => ?_) (fun cdv A outer s H vs Q E hr h => ?_)
  · obtain ⟨p, c, m, n, rfl, _⟩ := h
    rfl
  · obtain ⟨p, c, m, n, rfl, hn1, hn2, ⟨lap, great, ns, hp, hc, hcp, hl0, hlm, hg0, hns⟩, hm, k⟩ := h
    have nd := sc_draw.nd
    have hu : _ := hu_of hr
    refine ⟨_, (pss_cons (ps_if (pt_cmpR op_gt (pe_ix ix_list (pv 0) pe_int (fun _ _ => rfl)) pe_int (nomark _)) (pss_cons (ps_set (i := 2) nd rfl (Or.inl rfl) (pe_op op_mod (ct "int" T call_int1 (pa_cons (pe_ix ix_list (pv 0) pe_int (fun _ _ => rfl)) pa_nil)) (pv 1))) (pss_cons (ps_asg (pe_op op_fdivW (ct "int" T call_int1 (pa_cons (pe_ix ix_list (pv 0) pe_int (fun _ _ => rfl)) pa_nil)) (pv 1)) (pg_sub (pv 0) pe_int set_list (fun _ => rfl))) (pss_one (ps_ret (pv 2))))) pss_nil) (pss_cons (ps_set (i := 3) nd rfl (Or.inl rfl) (pe_ix ix_list (pv 0) pe_int (fun _ _ => rfl))) (pss_cons (ps_asg (pe_op op_add (pv 3) pe_int) (pg_sub (pv 0) pe_int set_list (fun _ => rfl))) (pss_cons (ps_set (i := 4) nd rfl (Or.inl rfl) (pe_op op_add (pe_op op_mul pe_int (pv 3)) pe_int)) (pss_cons (ps_if (pt_cmpR (op_neNil (Nat.lt_of_succ_lt hu)) (pe_ix ix_list (pv 0) pe_int (fun _ _ => rfl)) (pe_lst pa_nil) (nomark _)) (pss_one (ps_set (i := 4) nd rfl (Or.inl rfl) (pe_ix ix_list (pe_ix ix_list (pv 0) pe_int (fun _ _ => rfl)) (pe_op op_mod (ct "int" T call_int1 (pa_cons (pv 3) pa_nil)) (cb "len" T call_len (pa_cons (pe_ix ix_list (pv 0) pe_int (fun _ _ => rfl)) pa_nil))) (fun _ _ => rfl)))) pss_nil) (pss_cons (ps_if (pw_and (pt_cmpR op_lt (pv 3) (cb "len" T call_len (pa_cons (pe_ix ix_list (pv 0) pe_int (fun _ _ => rfl)) pa_nil)) (nomark _)) (pw_and1 (pt_cmpR op_ge (cb "abs" T call_abs (pa_cons (pv 4) pa_nil)) (pe_op op_pow pe_int pe_int) (nomark _)))).pt (pss_cons (ps_set (i := 5) nd rfl (Or.inl rfl) (pe_op op_add (pe_op op_mul pe_int (pe_op op_sub (cb "abs" T call_abs (pa_cons (pv 4) pa_nil)) (pe_op op_pow pe_int pe_int))) (ct "int" T call_int1 (pa_cons (pe_cmpR op_lt (pv 4) pe_int (nomark _)) pa_nil)))) (pss_cons (ps_asg (pe_op op_fdivW (ct "int" T call_int1 (pa_cons (pv 5) pa_nil)) (pv 1)) (pg_sub (pv 0) pe_int set_list (fun _ => rfl))) (pss_one (ps_ret (pe_op op_mod (ct "int" T call_int1 (pa_cons (pv 5) pa_nil)) (pv 1)))))) pss_nil) (pss_cons (ps_set (i := 6) nd rfl (Or.inl rfl) (pe_op op_mod (ct "int" T call_int1 (pa_cons (pe_op op_pow (pe_op op_add (pe_op op_add (pe_op op_mod (ct "int" T call_int1 (pa_cons (pv 4) pa_nil)) pe_int) (pe_op op_mul pe_int (pv 3))) pe_int) pe_int) pa_nil)) pe_int)) (pss_cons (ps_set (i := 6) nd rfl (Or.inl rfl) (pe_op op_mod (ct "int" T call_int1 (pa_cons (pe_op op_pow (pe_op op_add (pe_op op_add (pe_op op_mul (pv 6) (pe_op op_add (pe_op op_mul pe_int (pv 3)) pe_int)) (pe_op op_mul (pe_op op_mul pe_int (pv 3)) (pv 3))) pe_int) pe_int) pa_nil)) pe_int)) (pss_one (ps_ret (pe_op op_mod (ct "int" T call_int1 (pa_cons (pe_op op_fdiv (pv 6) pe_int) pa_nil)) (pv 1)))))))))))), ?_⟩
    have hnp : 0 < n := by omega
    have hn44 : n.natAbs < 2 ^ 44 := by have : (2 : Nat) ^ 44 = 17592186044416 := by decide
                                        omega
    have i2 : ∀ (a b c : V), ixN ([a, b, c] : List V).length 2 = some 2 := fun _ _ _ => rfl
    have i1 : ∀ (a b c : V), ixN ([a, b, c] : List V).length 1 = some 1 := fun _ _ _ => rfl
    have emod : ∀ x : Int, 0 ≤ x % n ∧ x % n < n := fun x => ⟨Int.emod_nonneg _ (by omega), Int.emod_lt_of_pos _ hnp⟩
    refine ⟨_, rfl, p, _, 2, _, rfl, rfl, SqL.of hp, rfl, _, _, rfl, rfl, _, rfl, ?_⟩
    cases hg : decide ((0 : Int) < great) with
    | true =>
      refine ⟨_, rfl, p, _, 2, _, rfl, rfl, SqL.of hp, rfl, .inl ⟨great, rfl, _, rfl, _, _, rfl, rfl, hnp, ?_⟩⟩
      refine ⟨_, rfl, p, _, 2, _, rfl, rfl, SqL.of hp, rfl, .inl ⟨great, rfl, _, rfl, _, _, rfl, rfl, (wide_div (b := 44) hnp hn44 (by decide) (by decide)), ?_⟩⟩
      refine ⟨_, rfl, p, _, 2, 2, rfl, rfl, hp, rfl, ?_⟩
      refine ⟨_, rfl, k _ _ (emod great).1 (emod great).2 (kp_upd kp_rfl) ⟨lap, great / n, ns, upd_same, by rw [upd_ne hcp]; exact hc, hcp, hl0, by omega, Int.ediv_nonneg hg0 (by omega), hns⟩⟩
    | false =>
      refine ⟨_, rfl, p, _, 1, _, rfl, rfl, SqL.of hp, rfl, ?_⟩
      refine ⟨_, rfl, _, _, rfl, rfl, _, rfl, p, _, 1, 1, rfl, rfl, hp, rfl, ?_⟩
      generalize hH1 : upd H p (.lst (([.ref c, .int lap, .int great] : List V).set 1 (.int (lap + 1)))) = H1
      have hp1 : H1 p = some (.lst [.ref c, .int (lap + 1), .int great]) := by rw [← hH1]; exact upd_same
      have hc1 : H1 c = some (.lst (ns.map V.int)) := by rw [← hH1, upd_ne hcp]; exact hc
      have k1 : Kp [p] H H1 := by rw [← hH1]; exact kp_upd kp_rfl
      refine ⟨_, rfl, _, _, rfl, rfl, .inl ⟨by decide, by decide⟩, _, _, rfl, rfl, ?_⟩
      refine ⟨_, rfl, p, _, 0, _, rfl, rfl, SqL.of hp1, rfl, by decide, fun l hl => ⟨c, l, _, rfl, rfl, SqL.ext (SqL.of hc1) (same_new same_rfl hl), SqL.of upd_same, _, rfl, ?_⟩⟩
      generalize hH2 : upd H1 l (.lst []) = H2
      have s2 : Same H1 H2 := by rw [← hH2]; exact same_new same_rfl hl
      have hp2 := s2 _ _ hp1
      have hc2 := s2 _ _ hc1
      have k2 : Kp [p] H H2 := fun a o ha e => s2 _ _ (k1 a o ha e)
      cases he : (ns.map V.int) with
      | nil =>
        have hcS := hc2
        rw [he] at hcS
        refine ⟨_, rfl, _, rfl, p, _, 0, _, rfl, rfl, SqL.of hp2, rfl, _, _, rfl, .inl ⟨_, SqL.of hcS, rfl⟩, _, _, rfl, rfl, _, rfl, ?_⟩
        cases h1 : decide (lap < ((([] : List V)).length : Int)) with
        | false =>
          have z1 : 0 ≤ (52339 * lap + 6511) % 2147483587 := Int.emod_nonneg _ (by decide)
          have z2 : (52339 * lap + 6511) % 2147483587 < 2147483587 := Int.emod_lt_of_pos _ (by decide)
          refine ⟨_, rfl, .inl ⟨(52339 * lap + 6511), rfl, _, _, rfl, rfl, (show (0 : Int) < _ by decide), _, rfl, _, _, rfl, rfl, .inl ⟨by decide, by decide⟩, _, _, rfl, rfl, _, _, rfl, rfl, _, _, rfl, rfl, ⟨by decide, by decide, by omega⟩, .inl ⟨_, rfl, _, _, rfl, rfl, (show (0 : Int) < _ by decide), ?_⟩⟩⟩
          have s1a : 0 ≤ (((52339 * lap + 6511) % 2147483587 + 70999 * lap + 1831) ^ (5 : Int).toNat % 2147483629) := Int.emod_nonneg _ (by decide)
          have s1b : (((52339 * lap + 6511) % 2147483587 + 70999 * lap + 1831) ^ (5 : Int).toNat % 2147483629) < 2147483629 := Int.emod_lt_of_pos _ (by decide)
          have m1 : (((52339 * lap + 6511) % 2147483587 + 70999 * lap + 1831) ^ (5 : Int).toNat % 2147483629) * (2 * lap + 261) ≤ 2147483629 * 2000261 := Int.mul_le_mul (by omega) (by omega) (by omega) (by decide)
          have m2 : 0 ≤ (((52339 * lap + 6511) % 2147483587 + 70999 * lap + 1831) ^ (5 : Int).toNat % 2147483629) * (2 * lap + 261) := Int.mul_nonneg s1a (by omega)
          have m3 : 69371 * lap * lap ≤ 69371000000 * 1000000 := Int.mul_le_mul (by omega) (by omega) hl0 (by decide)
          have m4 : 0 ≤ 69371 * lap * lap := Int.mul_nonneg (by omega) hl0
          refine ⟨_, rfl, _, rfl, _, _, rfl, rfl, .inl ⟨by decide, by decide⟩, _, _, rfl, rfl, _, _, rfl, rfl, .inl ⟨by omega, by omega⟩, _, rfl, _, _, rfl, rfl, .inl ⟨by decide, by decide⟩, _, rfl, _, _, rfl, rfl, .inr ⟨by omega, by omega⟩, _, _, rfl, rfl, _, _, rfl, rfl, _, _, rfl, rfl, ⟨by decide, by decide, by omega⟩, .inl ⟨_, rfl, _, _, rfl, rfl, (show (0 : Int) < _ by decide), ?_⟩⟩
          exact ⟨_, rfl, _, _, rfl, rfl, ⟨by decide, by decide⟩, .inl ⟨_, rfl, _, rfl, _, _, rfl, rfl, hnp, k _ _ (emod _).1 (emod _).2 k2 ⟨lap + 1, great, _, hp2, hc2, hcp, by omega, by omega, hg0, hns⟩⟩⟩
        | true =>
          refine ⟨_, rfl, (52339 * lap + 6511), rfl, _, _, rfl, rfl, ⟨by decide, by decide, by decide⟩, _, _, rfl, rfl, _, rfl, ?_⟩
          cases h2 : decide ((10 : Int) ^ (18 : Int).toNat ≤ if (52339 * lap + 6511) < 0 then -(52339 * lap + 6511) else (52339 * lap + 6511)) with
          | false =>
            have z1 : 0 ≤ (52339 * lap + 6511) % 2147483587 := Int.emod_nonneg _ (by decide)
            have z2 : (52339 * lap + 6511) % 2147483587 < 2147483587 := Int.emod_lt_of_pos _ (by decide)
            refine ⟨_, rfl, .inl ⟨(52339 * lap + 6511), rfl, _, _, rfl, rfl, (show (0 : Int) < _ by decide), _, rfl, _, _, rfl, rfl, .inl ⟨by decide, by decide⟩, _, _, rfl, rfl, _, _, rfl, rfl, _, _, rfl, rfl, ⟨by decide, by decide, by omega⟩, .inl ⟨_, rfl, _, _, rfl, rfl, (show (0 : Int) < _ by decide), ?_⟩⟩⟩
            have s1a : 0 ≤ (((52339 * lap + 6511) % 2147483587 + 70999 * lap + 1831) ^ (5 : Int).toNat % 2147483629) := Int.emod_nonneg _ (by decide)
            have s1b : (((52339 * lap + 6511) % 2147483587 + 70999 * lap + 1831) ^ (5 : Int).toNat % 2147483629) < 2147483629 := Int.emod_lt_of_pos _ (by decide)
            have m1 : (((52339 * lap + 6511) % 2147483587 + 70999 * lap + 1831) ^ (5 : Int).toNat % 2147483629) * (2 * lap + 261) ≤ 2147483629 * 2000261 := Int.mul_le_mul (by omega) (by omega) (by omega) (by decide)
            have m2 : 0 ≤ (((52339 * lap + 6511) % 2147483587 + 70999 * lap + 1831) ^ (5 : Int).toNat % 2147483629) * (2 * lap + 261) := Int.mul_nonneg s1a (by omega)
            have m3 : 69371 * lap * lap ≤ 69371000000 * 1000000 := Int.mul_le_mul (by omega) (by omega) hl0 (by decide)
            have m4 : 0 ≤ 69371 * lap * lap := Int.mul_nonneg (by omega) hl0
            refine ⟨_, rfl, _, rfl, _, _, rfl, rfl, .inl ⟨by decide, by decide⟩, _, _, rfl, rfl, _, _, rfl, rfl, .inl ⟨by omega, by omega⟩, _, rfl, _, _, rfl, rfl, .inl ⟨by decide, by decide⟩, _, rfl, _, _, rfl, rfl, .inr ⟨by omega, by omega⟩, _, _, rfl, rfl, _, _, rfl, rfl, _, _, rfl, rfl, ⟨by decide, by decide, by omega⟩, .inl ⟨_, rfl, _, _, rfl, rfl, (show (0 : Int) < _ by decide), ?_⟩⟩
            exact ⟨_, rfl, _, _, rfl, rfl, ⟨by decide, by decide⟩, .inl ⟨_, rfl, _, rfl, _, _, rfl, rfl, hnp, k _ _ (emod _).1 (emod _).2 k2 ⟨lap + 1, great, _, hp2, hc2, hcp, by omega, by omega, hg0, hns⟩⟩⟩
          | true =>
            have zz : (10 : Int) ^ (18 : Int).toNat = 1000000000000000000 := rfl
            have hab := of_decide_eq_true h2
            refine ⟨_, rfl, (52339 * lap + 6511), rfl, _, _, rfl, rfl, ⟨by decide, by decide, by decide⟩, _, _, rfl, rfl, _, _, rfl, rfl, .inl ⟨by decide, by decide⟩, _, rfl, _, _, rfl, rfl, .inr ⟨_, rfl, _, _, rfl, rfl, ?_⟩⟩
            have hgr0 : 0 ≤ 2 * ((if (52339 * lap + 6511) < 0 then -(52339 * lap + 6511) else (52339 * lap + 6511)) - 10 ^ (18 : Int).toNat) + (if decide ((52339 * lap + 6511) < 0) = true then (1 : Int) else 0) := by
              split <;> split <;> omega
            refine ⟨_, rfl, .inl ⟨_, rfl, _, rfl, _, _, rfl, rfl, (wide_div (b := 44) hnp hn44 (by decide) (by decide)), _, rfl, p, _, 2, 2, rfl, rfl, hp2, rfl, ?_⟩⟩
            exact ⟨_, rfl, .inl ⟨_, rfl, _, rfl, _, _, rfl, rfl, hnp, k _ _ (emod _).1 (emod _).2 (kp_upd k2) ⟨lap + 1, _, _, upd_same, by rw [upd_ne hcp]; exact hc2, hcp, by omega, by omega, Int.ediv_nonneg hgr0 (by omega), hns⟩⟩⟩
      | cons y ys =>
        obtain ⟨z0, zs, rfl⟩ : ∃ z0 zs, ns = z0 :: zs := by
          cases ns with
          | nil => cases he
          | cons a b => exact ⟨a, b, rfl⟩
        have hln : 0 < (((z0 :: zs).map V.int).length : Int) := by rw [List.length_map, List.length_cons]; omega
        have hj0 : 0 ≤ (lap % (((z0 :: zs).map V.int).length : Int)) := Int.emod_nonneg _ (by omega)
        have hj1 : (lap % (((z0 :: zs).map V.int).length : Int)) < (((z0 :: zs).map V.int).length : Int) := Int.emod_lt_of_pos _ hln
        obtain ⟨j, hj⟩ := Int.eq_ofNat_of_zero_le hj0
        have hjl : j < (z0 :: zs).length := by
          rw [hj] at hj1
          rw [List.length_map] at hj1
          omega
        obtain ⟨z, hz⟩ : ∃ z, (z0 :: zs)[j]? = some z := ⟨_, List.getElem?_eq_getElem hjl⟩
        have hat : atI ((z0 :: zs).map V.int) (lap % (((z0 :: zs).map V.int).length : Int)) = some (.int z) := by
          rw [hj]
          exact atI_nat (by rw [List.getElem?_map, hz]; rfl)
        have hcS := hc2
        rw [← he]
        refine ⟨_, rfl, p, _, 0, _, rfl, rfl, SqL.of hp2, rfl, _, rfl, .inl ⟨lap, rfl, _, rfl, p, _, 0, _, rfl, rfl, SqL.of hp2, rfl, _, _, rfl, .inl ⟨_, SqL.of hcS, rfl⟩, _, _, rfl, rfl, hln, c, _, _, _, rfl, rfl, SqL.of hc2, hat, ?_⟩⟩
        refine ⟨_, rfl, _, rfl, p, _, 0, _, rfl, rfl, SqL.of hp2, rfl, _, _, rfl, .inl ⟨_, SqL.of hcS, rfl⟩, _, _, rfl, rfl, _, rfl, ?_⟩
        cases h1 : decide (lap < (((z0 :: zs).map V.int).length : Int)) with
        | false =>
          have z1 : 0 ≤ z % 2147483587 := Int.emod_nonneg _ (by decide)
          have z2 : z % 2147483587 < 2147483587 := Int.emod_lt_of_pos _ (by decide)
          refine ⟨_, rfl, .inl ⟨z, rfl, _, _, rfl, rfl, (show (0 : Int) < _ by decide), _, rfl, _, _, rfl, rfl, .inl ⟨by decide, by decide⟩, _, _, rfl, rfl, _, _, rfl, rfl, _, _, rfl, rfl, ⟨by decide, by decide, by omega⟩, .inl ⟨_, rfl, _, _, rfl, rfl, (show (0 : Int) < _ by decide), ?_⟩⟩⟩
          have s1a : 0 ≤ ((z % 2147483587 + 70999 * lap + 1831) ^ (5 : Int).toNat % 2147483629) := Int.emod_nonneg _ (by decide)
          have s1b : ((z % 2147483587 + 70999 * lap + 1831) ^ (5 : Int).toNat % 2147483629) < 2147483629 := Int.emod_lt_of_pos _ (by decide)
          have m1 : ((z % 2147483587 + 70999 * lap + 1831) ^ (5 : Int).toNat % 2147483629) * (2 * lap + 261) ≤ 2147483629 * 2000261 := Int.mul_le_mul (by omega) (by omega) (by omega) (by decide)
          have m2 : 0 ≤ ((z % 2147483587 + 70999 * lap + 1831) ^ (5 : Int).toNat % 2147483629) * (2 * lap + 261) := Int.mul_nonneg s1a (by omega)
          have m3 : 69371 * lap * lap ≤ 69371000000 * 1000000 := Int.mul_le_mul (by omega) (by omega) hl0 (by decide)
          have m4 : 0 ≤ 69371 * lap * lap := Int.mul_nonneg (by omega) hl0
          refine ⟨_, rfl, _, rfl, _, _, rfl, rfl, .inl ⟨by decide, by decide⟩, _, _, rfl, rfl, _, _, rfl, rfl, .inl ⟨by omega, by omega⟩, _, rfl, _, _, rfl, rfl, .inl ⟨by decide, by decide⟩, _, rfl, _, _, rfl, rfl, .inr ⟨by omega, by omega⟩, _, _, rfl, rfl, _, _, rfl, rfl, _, _, rfl, rfl, ⟨by decide, by decide, by omega⟩, .inl ⟨_, rfl, _, _, rfl, rfl, (show (0 : Int) < _ by decide), ?_⟩⟩
          exact ⟨_, rfl, _, _, rfl, rfl, ⟨by decide, by decide⟩, .inl ⟨_, rfl, _, rfl, _, _, rfl, rfl, hnp, k _ _ (emod _).1 (emod _).2 k2 ⟨lap + 1, great, _, hp2, hc2, hcp, by omega, by omega, hg0, hns⟩⟩⟩
        | true =>
          refine ⟨_, rfl, z, rfl, _, _, rfl, rfl, ⟨by decide, by decide, by decide⟩, _, _, rfl, rfl, _, rfl, ?_⟩
          cases h2 : decide ((10 : Int) ^ (18 : Int).toNat ≤ if z < 0 then -z else z) with
          | false =>
            have z1 : 0 ≤ z % 2147483587 := Int.emod_nonneg _ (by decide)
            have z2 : z % 2147483587 < 2147483587 := Int.emod_lt_of_pos _ (by decide)
            refine ⟨_, rfl, .inl ⟨z, rfl, _, _, rfl, rfl, (show (0 : Int) < _ by decide), _, rfl, _, _, rfl, rfl, .inl ⟨by decide, by decide⟩, _, _, rfl, rfl, _, _, rfl, rfl, _, _, rfl, rfl, ⟨by decide, by decide, by omega⟩, .inl ⟨_, rfl, _, _, rfl, rfl, (show (0 : Int) < _ by decide), ?_⟩⟩⟩
            have s1a : 0 ≤ ((z % 2147483587 + 70999 * lap + 1831) ^ (5 : Int).toNat % 2147483629) := Int.emod_nonneg _ (by decide)
            have s1b : ((z % 2147483587 + 70999 * lap + 1831) ^ (5 : Int).toNat % 2147483629) < 2147483629 := Int.emod_lt_of_pos _ (by decide)
            have m1 : ((z % 2147483587 + 70999 * lap + 1831) ^ (5 : Int).toNat % 2147483629) * (2 * lap + 261) ≤ 2147483629 * 2000261 := Int.mul_le_mul (by omega) (by omega) (by omega) (by decide)
            have m2 : 0 ≤ ((z % 2147483587 + 70999 * lap + 1831) ^ (5 : Int).toNat % 2147483629) * (2 * lap + 261) := Int.mul_nonneg s1a (by omega)
            have m3 : 69371 * lap * lap ≤ 69371000000 * 1000000 := Int.mul_le_mul (by omega) (by omega) hl0 (by decide)
            have m4 : 0 ≤ 69371 * lap * lap := Int.mul_nonneg (by omega) hl0
            refine ⟨_, rfl, _, rfl, _, _, rfl, rfl, .inl ⟨by decide, by decide⟩, _, _, rfl, rfl, _, _, rfl, rfl, .inl ⟨by omega, by omega⟩, _, rfl, _, _, rfl, rfl, .inl ⟨by decide, by decide⟩, _, rfl, _, _, rfl, rfl, .inr ⟨by omega, by omega⟩, _, _, rfl, rfl, _, _, rfl, rfl, _, _, rfl, rfl, ⟨by decide, by decide, by omega⟩, .inl ⟨_, rfl, _, _, rfl, rfl, (show (0 : Int) < _ by decide), ?_⟩⟩
            exact ⟨_, rfl, _, _, rfl, rfl, ⟨by decide, by decide⟩, .inl ⟨_, rfl, _, rfl, _, _, rfl, rfl, hnp, k _ _ (emod _).1 (emod _).2 k2 ⟨lap + 1, great, _, hp2, hc2, hcp, by omega, by omega, hg0, hns⟩⟩⟩
          | true =>
            have zz : (10 : Int) ^ (18 : Int).toNat = 1000000000000000000 := rfl
            have hab := of_decide_eq_true h2
            refine ⟨_, rfl, z, rfl, _, _, rfl, rfl, ⟨by decide, by decide, by decide⟩, _, _, rfl, rfl, _, _, rfl, rfl, .inl ⟨by decide, by decide⟩, _, rfl, _, _, rfl, rfl, .inr ⟨_, rfl, _, _, rfl, rfl, ?_⟩⟩
            have hgr0 : 0 ≤ 2 * ((if z < 0 then -z else z) - 10 ^ (18 : Int).toNat) + (if decide (z < 0) = true then (1 : Int) else 0) := by
              split <;> split <;> omega
            refine ⟨_, rfl, .inl ⟨_, rfl, _, rfl, _, _, rfl, rfl, (wide_div (b := 44) hnp hn44 (by decide) (by decide)), _, rfl, p, _, 2, 2, rfl, rfl, hp2, rfl, ?_⟩⟩
            exact ⟨_, rfl, .inl ⟨_, rfl, _, rfl, _, _, rfl, rfl, hnp, k _ _ (emod _).1 (emod _).2 (kp_upd k2) ⟨lap + 1, _, _, upd_same, by rw [upd_ne hcp]; exact hc2, hcp, by omega, by omega, Int.ediv_nonneg hgr0 (by omega), hns⟩⟩⟩
end
end N1
set_option maxHeartbeats 2000000
namespace N1
open PySem PySem.Spec PyProof.Rows L2
def spPen (K : PySem.W.Frag) : Sp := fun vs H Q _ => ∃ (a : Addr) (ns : List Int), vs = [.ref a] ∧ SqL K H a (ns.map V.int) ∧ ∀ H' p c, Same H H' → H p = none → PenAt H' p c 0 → Q (.ref p) H'
/-- one of some things -/
def spPick (K : PySem.W.Frag) : Sp := fun vs H Q _ => ∃ (p c a : Addr) (m : Int) (xs : List V), vs = [.ref p, .ref a] ∧ PenAt H p c m ∧ m ≤ 1000000 ∧ a ≠ p ∧ H a = some (.lst xs) ∧ 1 ≤ xs.length ∧ xs.length ≤ 1000 ∧ ∀ H' x, x ∈ xs → Kp [p] H H' → PenAt H' p c (m + 1) → Q x H'
section
variable {P : Program} {w : World} {K : PySem.W.Frag} {mg : Str → Option Value} {base : Heap}
theorem cut63 (ns : List Int) : ∃ ms : List Int, cutV (ns.map V.int) none (some 63) = ms.map V.int ∧ ms.length ≤ 63 := by
  refine ⟨ns.take 63, ?_, List.length_take_le ..⟩
  unfold cutV HT.sIx
  simp
theorem ok_pen (T : FX P K mg) : FnR P w K mg base CX0 1 (ga K "_law_pen") (spPen K) := by
  refine fnr T.f_w_pen sc_pen (fun _ _ _ _ _ _ us hl => match us, hl with | [_], _ => rfl) (fun vs H Q E h => ?_) (fun cdv A outer s H vs Q E hr h => ?_)
  · obtain ⟨a, ns, rfl, _⟩ := h
    rfl
  · obtain ⟨a, ns, rfl, ha, k⟩ := h
    refine ⟨_, pss_one (ps_ret (pe_lst (pa_cons (ct "list" T call_list_of (pa_cons (pe_slice sl_list (pv 0) po_none (po_some pe_int)) pa_nil)) (pa_cons pe_int (pa_cons pe_int pa_nil))))), ?_⟩
    obtain ⟨ms, em, lm⟩ := cut63 ns
    refine ⟨_, rfl, 63, rfl, a, _, rfl, ha, fun q hq => ?_⟩
    rw [em]
    refine ⟨q, _, rfl, .inl (SqL.of upd_same), fun l hl => ?_⟩
    refine ⟨(show (3 : Nat) ≤ sizeLine by decide), fun p hp => ?_⟩
    have s1 : Same H (upd H q (.lst (ms.map V.int))) := same_new same_rfl hq
    have s2 := same_new (o := .lst (ms.map V.int)) s1 hl
    have hlp : l ≠ p := fun z => by rw [← z, upd_same] at hp; cases hp
    refine k _ p l (same_new s2 hp) ?_ ⟨0, 0, ms, upd_same, by rw [upd_ne hlp]; exact upd_same, hlp, by decide, by decide, by decide, lm⟩
    cases z : H p with
    | none => rfl
    | some o => rw [s2 _ _ z] at hp; cases hp
theorem ok_pick (T : FX P K mg) : FnR P w K mg base CX0 2 (ga K "_law_pick") (spPick K) := by
  refine fnr T.f_w_pick sc_pick (fun _ _ _ _ _ _ us hl => match us, hl with | [_, _], _ => rfl) (fun vs H Q E h => ?_) (fun cdv A outer s H vs Q E hr h => ?_)
  · obtain ⟨p, c, a, m, xs, rfl, _⟩ := h
    rfl
  · obtain ⟨p, c, a, m, xs, rfl, pen, hm, hap, ha, h1, h2, k⟩ := h
    refine ⟨_, pss_one (ps_ret (pe_ix ix_list (pv 1) (cl "_law_draw" T (ok_draw T) hr (pa_cons (pv 0) (pa_cons (cb "len" T call_len (pa_cons (pv 1) pa_nil)) pa_nil))) (fun _ _ => rfl))), ?_⟩
    refine ⟨_, rfl, _, rfl, _, rfl, _, _, rfl, .inl ⟨_, SqL.of ha, rfl⟩, p, c, m, _, rfl, by omega, by omega, pen, hm, fun H' i i0 i1 kp pen' => ?_⟩
    obtain ⟨j, rfl⟩ := Int.eq_ofNat_of_zero_le i0
    have hj : j < xs.length := by omega
    refine ⟨a, xs, _, xs[j], rfl, rfl, SqL.of (kp _ _ (by simpa using hap) ha), atI_nat (List.getElem?_eq_getElem hj), k H' _ (List.getElem_mem hj) kp pen'⟩
end
end N1
/-! small steps of readings -/
namespace N1
open PySem PySem.Spec PyProof.Rows L2
/-- what a part leaves, told once -/
theorem by_post {α : Type} {t : (α → Hp → Prop) → Prop} {Q : α → Hp → Prop} (R : α → Hp → Prop) (h : ∀ Q', (∀ x H', R x H' → Q' x H') → t Q') (k : ∀ x H', R x H' → Q x H') : t Q := h Q k
theorem atI_map {α β : Type} {f : α → β} {R : List α} {i : Int} {x : α} (h : atI R i = some x) : atI (R.map f) i = some (f x) := by
  unfold atI at *
  rw [List.length_map]
  cases e : ixN R.length i with
  | none => rw [e] at h; cases h
  | some j =>
    rw [e] at h
    have h : R[j]? = some x := h
    show (R.map f)[j]? = _
    rw [List.getElem?_map, h]
    rfl
theorem asg_by {te : TE} {g : TG} {D : Ends} {σ : L2.St} {H : Hp} (h : te σ H fun v H1 => g v σ H1 D.nx) : tAsg te g D σ H := h
theorem nm_by {i : Nat} {v : V} {σ : L2.St} {H : Hp} {Q : L2.St → Hp → Prop} (h : Q (σ.set i (some v)) H) : gName i v σ H Q := h
theorem seq_by {t u : TS} {D : Ends} {σ : L2.St} {H : Hp} (h : t { D with nx := u D } σ H) : tSeq t u D σ H := h
theorem nm_seq {i : Nat} {v : V} {σ : L2.St} {H : Hp} {t u : TS} {D : Ends} {rt : VK} {bk ct : L2.St → Hp → Prop} (h : t { D with nx := u D } (σ.set i (some v)) H) : gName i v σ H (Ends.nx { nx := tSeq t u D, rt := rt, bk := bk, ct := ct }) := h
theorem if_by {tt : TT} {a b : V} {σ : L2.St} {H : Hp} {Q : VK} (h : tt σ H fun c H1 => Q (if c = true then a else b) H1) : tIf tt (tC a) (tC b) σ H Q := by
  have e : (fun (c : Bool) (H1 : Hp) => if c = true then tC a σ H1 Q else tC b σ H1 Q) = fun c H1 => Q (if c = true then a else b) H1 := by
    funext c H1
    cases c <;> rfl
  show tt σ H _
  rw [e]
  exact h
/-- a new thing that changes is none of what stood -/
theorem kp_drop {p D : Addr} {H H1 : Hp} (k : Kp [p, D] H H1) (h : H D = none) : Kp [p] H H1 := fun x o hx e => k x o (by
  rw [List.mem_cons, not_or]
  refine ⟨by simpa using hx, fun z => ?_⟩
  rw [List.mem_singleton.mp z, h] at e
  cases e) e
theorem kp_more {p D : Addr} {H H1 : Hp} (k : Kp [p] H H1) : Kp [p, D] H H1 := fun x o hx e => k x o (by simp at hx ⊢; exact hx.1) e
theorem kp_wr {M : List Addr} {D : Addr} {H H1 : Hp} {o : HO} (k : Kp M H H1) (h : D ∈ M) : Kp M H (upd H1 D o) := fun x u hx e => by
  have nx : x ≠ D := fun z => hx (by rw [z]; exact h)
  rw [upd_ne nx]
  exact k x u hx e
theorem kp_mem {p : Addr} {H H1 : Hp} {a : Addr} {o : HO} (k : Kp [p] H H1) (h : H a = some o) (n : a ≠ p) : H1 a = some o := k a o (by simpa using n) h
theorem PenAt.nl {H : Hp} {p c : Addr} {m : Int} (h : PenAt H p c m) {a : Addr} {o : HO} (ha : H a = some o) (hl : ∀ xs, o ≠ .lst xs) : a ≠ p ∧ a ≠ c := by
  obtain ⟨l, g, ns, h1, h2, _⟩ := h
  constructor
  · intro z; rw [z, h1] at ha; exact hl _ (Option.some.inj ha).symm
  · intro z; rw [z, h2] at ha; exact hl _ (Option.some.inj ha).symm
/-- a place that was free is not the pen's -/
theorem PenAt.nn {H : Hp} {p c : Addr} {m : Int} (h : PenAt H p c m) {a : Addr} (ha : H a = none) : a ≠ p ∧ a ≠ c := ⟨fun z => h.ne (z ▸ ha), fun z => h.nec (z ▸ ha)⟩
theorem kp_none {p c : Addr} {m : Int} {H H1 : Hp} {a : Addr} (k : Kp [p] H H1) (pn : PenAt H1 p c m) (h : H1 a = none) : H a = none := by
  cases z : H a with
  | none => rfl
  | some o =>
    have := kp_mem k z (fun y => pn.ne (y ▸ h))
    rw [h] at this
    cases this
end N1
set_option maxHeartbeats 4000000
/-! the law's trips: what is drawn -/
namespace N1
open PySem PySem.Spec PyProof.Rows L2 TL
def starts (ts : List TR) : List Str := ts.map (·.start)
def goals (ts : List TR) : List Str := ts.map (·.goal)
def rot (R : List Str) : List Str := match R.getLast? with
  | some x => x :: R.dropLast
  | none => []
theorem rot_perm (R : List Str) : (rot R).Perm R := by
  unfold rot
  cases h : R.getLast? with
  | none => rw [List.getLast?_eq_none_iff] at h; rw [h]
  | some x =>
    have e : R = R.dropLast ++ [x] := by
      have hne : R ≠ [] := fun z => by rw [z] at h; cases h
      have := List.dropLast_concat_getLast hne
      rw [List.getLast?_eq_some_getLast hne] at h
      rw [← Option.some.inj h]
      exact this.symm
    conv => rhs; rw [e]
    exact (List.perm_append_singleton x _).symm
theorem rot_at {R : List Str} {i : Nat} (h : i < R.length) : ∃ x, (rot R)[i]? = some x ∧ atI R ((i : Int) - 1) = some x := by
  have hne : R ≠ [] := fun z => by rw [z] at h; cases h
  have er : rot R = R.getLast hne :: R.dropLast := by
    unfold rot
    rw [List.getLast?_eq_some_getLast hne]
  rw [er]
  cases i with
  | zero =>
    refine ⟨_, rfl, ?_⟩
    refine atI_last ?_
    rw [← List.getLast?_eq_getElem?, List.getLast?_eq_some_getLast hne]
  | succ j =>
    have hj : j < R.dropLast.length := by rw [List.length_dropLast]; omega
    refine ⟨R.dropLast[j], by rw [List.getElem?_cons_succ, List.getElem?_eq_getElem hj], ?_⟩
    have e1 : ((j + 1 : Nat) : Int) - 1 = (j : Nat) := by omega
    rw [e1]
    refine atI_nat ?_
    rw [List.getElem_dropLast]
    exact List.getElem?_eq_getElem _
theorem erase_perm {α : Type} : ∀ (l : List α) (j : Nat) (h : j < l.length), (l[j] :: l.eraseIdx j).Perm l
  | x :: l, 0, _ => .refl _
  | x :: l, j + 1, h => by
    have ih := erase_perm l j (Nat.lt_of_succ_lt_succ h)
    exact (List.Perm.swap x _ _).trans (ih.cons x)
theorem er_map {α β : Type} (f : α → β) : ∀ (l : List α) (j : Nat), (l.map f).eraseIdx j = (l.eraseIdx j).map f
  | [], _ => rfl
  | _ :: _, 0 => rfl
  | x :: l, j + 1 => by
    show f x :: (l.map f).eraseIdx j = f x :: (l.eraseIdx j).map f
    rw [er_map f l j]
def tupV (t : TR) : List V := [.str t.name, .bl t.run, .str t.start, .int t.leaves, .int t.takes, .str t.goal]
/-- tuples of trips -/
def Tps (H : Hp) (qs : List Addr) (ts : List TR) : Prop := qs.length = ts.length ∧ ∀ (i : Nat) (q : Addr) (t : TR), qs[i]? = some q → ts[i]? = some t → H q = some (.tup (tupV t))
theorem Tps.up {H H' : Hp} {qs : List Addr} {ts : List TR} (s : Same H H') (h : Tps H qs ts) : Tps H' qs ts := ⟨h.1, fun i q t a b => s _ _ (h.2 i q t a b)⟩
theorem Tps.kp {H H' : Hp} {p c : Addr} {m : Int} {qs : List Addr} {ts : List TR} (k : Kp [p] H H') (pn : PenAt H p c m) (h : Tps H qs ts) : Tps H' qs ts := ⟨h.1, fun i q t a b => k _ _ (fun z => by
  have e := h.2 i q t a b
  exact (pn.nl e (fun xs y => by cases y)).1 (List.mem_singleton.mp z)) (h.2 i q t a b)⟩
theorem Tps.add {H : Hp} {qs : List Addr} {ts : List TR} {q : Addr} {t : TR} (h : Tps H qs ts) (hq : H q = some (.tup (tupV t))) : Tps H (qs ++ [q]) (ts ++ [t]) := by
  refine ⟨by rw [List.length_append, List.length_append, h.1]; rfl, fun i a u h1 h2 => ?_⟩
  by_cases hi : i < ts.length
  · rw [List.getElem?_append_left (by rw [h.1]; exact hi)] at h1
    rw [List.getElem?_append_left hi] at h2
    exact h.2 i a u h1 h2
  · have e0 : i = ts.length := by
      have := (List.getElem?_eq_some_iff.mp h2).1
      rw [List.length_append] at this
      simp at this
      omega
    subst e0
    rw [List.getElem?_append_right (Nat.le_refl _)] at h2
    rw [List.getElem?_append_right (by rw [h.1]; exact Nat.le_refl _), h.1] at h1
    simp at h1 h2
    subst h1 h2
    exact hq
def LEFT : List Str := ["p", "q", "r", "s", "t", "u", "v", "w", "x", "y", "zzzzzzzz", "z"]
def PL9 : List (List Str) := [["a"], ["a", "b"], ["b", "a", "c"], ["q", "p", "zzzzzzzz", "a"]]
theorem PL9_len {PL : List Str} (h : PL ∈ PL9) : 1 ≤ PL.length ∧ PL.length ≤ 4 := by
  unfold PL9 at h
  simp only [List.mem_cons, List.not_mem_nil, or_false] at h
  rcases h with h | h | h | h <;> subst h <;> exact ⟨by decide, by decide⟩
/-- one drawn trip -/
structure DrT (n : Int) (PL : List Str) (t : TR) : Prop where
  l0 : 0 ≤ t.leaves
  l1 : t.leaves < n
  t0 : 1 ≤ t.takes
  s : t.start ∈ PL
  g : t.goal ∈ PL
  st : t.run = false → t.start = t.goal
/-- while trips are drawn: names left, one pending -/
structure PI (H0 : Hp) (p c lf pl tr : Addr) (PL : List Str) (H : Hp) (ts : List TR) (qs : List Addr) (pend left : List Str) (mm : Int) : Prop where
  kp : Kp [p] H0 H
  pn : PenAt H p c mm
  hl : H lf = some (.lst (left.map V.str))
  hp : H pl = some (.lst (PL.map V.str))
  ht : H tr = some (.lst (qs.map V.ref))
  tp : Tps H qs ts
  n1 : lf ≠ p ∧ lf ≠ c
  n2 : pl ≠ p
  n3 : tr ≠ p ∧ tr ≠ c
  d1 : lf ≠ tr
  d2 : pl ≠ lf
  d3 : pl ≠ tr
  f1 : H0 lf = none
  f3 : H0 tr = none
  nm : (names ts ++ (pend ++ left)).Perm LEFT
section
variable {H0 H H' : Hp} {p c lf pl tr : Addr} {PL : List Str} {ts : List TR} {qs : List Addr} {pend left : List Str} {mm mm' : Int}
theorem PI.step (h : PI H0 p c lf pl tr PL H ts qs pend left mm) (k : Kp [p] H H') (pn : PenAt H' p c mm') : PI H0 p c lf pl tr PL H' ts qs pend left mm' :=
  ⟨kp_tr h.kp k, pn, kp_mem k h.hl h.n1.1, kp_mem k h.hp h.n2, kp_mem k h.ht h.n3.1, h.tp.kp k h.pn, h.n1, h.n2, h.n3, h.d1, h.d2, h.d3, h.f1, h.f3, h.nm⟩
theorem PI.same (h : PI H0 p c lf pl tr PL H ts qs pend left mm) (s : Same H H') : PI H0 p c lf pl tr PL H' ts qs pend left mm := h.step (kp_same s) (h.pn.up s)
theorem PI.le (h : PI H0 p c lf pl tr PL H ts qs pend left mm) (hm : mm ≤ mm') : PI H0 p c lf pl tr PL H ts qs pend left mm' := ⟨h.kp, h.pn.le hm, h.hl, h.hp, h.ht, h.tp, h.n1, h.n2, h.n3, h.d1, h.d2, h.d3, h.f1, h.f3, h.nm⟩
theorem kp_at {a : Addr} {o : HO} (k : Kp [p] H0 H) (h : H0 a = none) : Kp [p] H0 (upd H a o) := fun x u hx e => by
  rw [upd_ne (ne_of_none e h)]
  exact k x u hx e
theorem PI.pop {j : Nat} {nm : Str} (h : PI H0 p c lf pl tr PL H ts qs [] left mm) (hj : left[j]? = some nm) : PI H0 p c lf pl tr PL (upd H lf (.lst ((left.map V.str).eraseIdx j))) ts qs [nm] (left.eraseIdx j) mm := by
  obtain ⟨hjl, ej⟩ := List.getElem?_eq_some_iff.mp hj
  refine ⟨kp_at h.kp h.f1, h.pn.upd h.n1.1 h.n1.2, ?_, by rw [upd_ne h.d2]; exact h.hp, by rw [upd_ne h.d1.symm]; exact h.ht, ⟨h.tp.1, fun i q t a b => ?_⟩, h.n1, h.n2, h.n3, h.d1, h.d2, h.d3, h.f1, h.f3, ?_⟩
  · rw [upd_same, er_map]
  · have e := h.tp.2 i q t a b
    rw [upd_ne (ne_of e h.hl (by intro z; cases z))]
    exact e
  · have e := erase_perm left j hjl
    rw [ej] at e
    exact (List.Perm.append_left _ e).trans h.nm
theorem PI.put {q : Addr} {t : TR} (h : PI H0 p c lf pl tr PL H ts qs [t.name] left mm) (hq : H q = none) :
    PI H0 p c lf pl tr PL (upd (upd H q (.tup (tupV t))) tr (.lst (qs.map V.ref ++ [.ref q]))) (ts ++ [t]) (qs ++ [q]) [] left mm := by
  have h2 := h.same (same_new (o := .tup (tupV t)) same_rfl hq)
  have hq2 : (upd H q (.tup (tupV t))) q = some (.tup (tupV t)) := upd_same
  generalize upd H q (.tup (tupV t)) = H2 at h2 hq2
  refine ⟨kp_at h2.kp h2.f3, h2.pn.upd h2.n3.1 h2.n3.2, by rw [upd_ne h2.d1]; exact h2.hl, by rw [upd_ne h2.d3]; exact h2.hp, by rw [upd_same, List.map_append]; rfl, ?_, h2.n1, h2.n2, h2.n3, h2.d1, h2.d2, h2.d3, h2.f1, h2.f3, ?_⟩
  · have a := h2.tp.add hq2
    exact ⟨a.1, fun i b u e1 e2 => by
      have e := a.2 i b u e1 e2
      rw [upd_ne (ne_of e h2.ht (by intro z; cases z))]
      exact e⟩
  · unfold names
    rw [List.map_append, List.append_assoc]
    exact h2.nm
end
def spTakes : Sp := fun vs H Q _ => ∃ (p c : Addr) (m n : Int), vs = [.ref p, .int n] ∧ PenAt H p c m ∧ m ≤ 900000 ∧ 1 ≤ n ∧ n ≤ 1000000000000 ∧ ∀ H' i, 1 ≤ i → Kp [p] H H' → PenAt H' p c (m + 4) → Q (.int i) H'
section
variable {P : Program} {w : World} {K : PySem.W.Frag} {mg : Str → Option Value} {base : Heap}
theorem ok_takes (T : FX P K mg) : FnR P w K mg base CX0 3 (ga K "_law_takes") spTakes := by
  refine fnr T.f_w_takes sc_takes (fun _ _ _ _ _ _ us hl => match us, hl with | [_, _], _ => rfl) (fun vs H Q E h => ?_) (fun cdv A outer s H vs Q E hr h => ?_)
  · obtain ⟨p, c, m, n, rfl, _⟩ := h
    rfl
  · obtain ⟨p, c, m, n, rfl, pen, hm, hn1, hn2, k⟩ := h
    refine ⟨_, pss_one (ps_ret (cl "_law_pick" T (ok_pick T) hr (pa_cons (pv 0) (pa_cons (pe_lst (pa_cons pe_int (pa_cons (pe_op op_add pe_int (cl "_law_draw" T (ok_draw T) (hr.mono (by decide)) (pa_cons (pv 0) (pa_cons (pv 1) pa_nil)))) (pa_cons (pv 1) (pa_cons (pe_op op_add (pe_op op_mul pe_int (pv 1)) (cl "_law_draw" T (ok_draw T) (hr.mono (by decide)) (pa_cons (pv 0) (pa_cons (pv 1) pa_nil)))) (pa_cons (pe_op op_add pe_int (cl "_law_draw" T (ok_draw T) (hr.mono (by decide)) (pa_cons (pv 0) (pa_cons pe_int pa_nil)))) pa_nil)))))) pa_nil)))), ?_⟩
    refine ⟨_, rfl, _, rfl, _, rfl, p, c, m, n, rfl, hn1, by omega, pen, by omega, fun H1 e e0 e1 kp1 pn1 => ⟨_, _, rfl, rfl, _, rfl, _, rfl, _, _, rfl, rfl, .inl ⟨by decide, by decide⟩, _, rfl, _, rfl, p, c, _, n, rfl, hn1, by omega, pn1, by omega, fun H2 f f0 f1 kp2 pn2 => ⟨_, _, rfl, rfl, _, rfl, p, c, _, 4, rfl, by decide, by decide, pn2, by omega, fun H3 g g0 g1 kp3 pn3 => ⟨_, _, rfl, rfl, (show (5 : Nat) ≤ sizeLine by decide), fun l hl => ⟨p, c, l, _, _, rfl, pn3.up (same_new same_rfl hl), by omega, (pn3.nn hl).1, upd_same, (show (1 : Nat) ≤ 5 by decide), (show (5 : Nat) ≤ 1000 by decide), fun H4 x hx kp4 pn4 => ?_⟩⟩⟩⟩⟩
    have kk := kp_tr kp1 (kp_tr kp2 (kp_tr kp3 (kp_tr (kp_same (same_new (o := .lst _) same_rfl hl)) kp4)))
    have pp := pn4.le (m' := m + 4) (by omega)
    simp only [List.mem_cons, List.not_mem_nil, or_false] at hx
    rcases hx with hx | hx | hx | hx | hx <;> subst hx <;> exact k H4 _ (by omega) kk pp
end
end N1
set_option maxHeartbeats 8000000
/-! the law's plain tables -/
namespace N1
open PySem PySem.Spec PyProof.Rows L2 TL
structure LwOk (n : Int) (ts : List TR) : Prop where
  nd : (names ts).Nodup
  nm : ∀ t ∈ ts, NameOk t.name
  pl : ∃ PL ∈ PL9, ∀ t ∈ ts, DrT n PL t
  bal : (starts ts).Perm (goals ts)
  l7 : ts.length ≤ 7
def stP (n : Int) (l : Addr) : List (Key × V) := [(Sum.inr ("size" : Str), .int n), (Sum.inr ("trips" : Str), .ref l)]
def PlnH (H : Hp) (a l : Addr) (n : Int) (ts : List TR) : Prop := ∃ qs : List Addr, H a = some (.dK (stP n l)) ∧ H l = some (.lst (qs.map V.ref)) ∧ Tps H qs ts
theorem PlnH.up {H H' : Hp} {a l : Addr} {n : Int} {ts : List TR} (s : Same H H') (h : PlnH H a l n ts) : PlnH H' a l n ts := let ⟨qs, h1, h2, h3⟩ := h; ⟨qs, s _ _ h1, s _ _ h2, h3.up s⟩
theorem PlnH.kp {H H' : Hp} {p c a l : Addr} {m n : Int} {ts : List TR} (k : Kp [p] H H') (pn : PenAt H p c m) (hl : l ≠ p) (h : PlnH H a l n ts) : PlnH H' a l n ts := by
  obtain ⟨qs, h1, h2, h3⟩ := h
  exact ⟨qs, kp_mem k h1 (pn.nl h1 (fun xs y => by cases y)).1, kp_mem k h2 hl, h3.kp k pn⟩
theorem LEFT_ok : LEFT.Nodup ∧ ∀ x ∈ LEFT, NameOk x := by decide +kernel
theorem stP_keys (n : Int) (l : Addr) : ((stP n l).map (·.1)).Nodup := by
  show ([Sum.inr ("size" : Str), Sum.inr ("trips" : Str)] : List Key).Nodup
  decide
theorem mergeK_stP (n : Int) (l : Addr) : mergeK [] (stP n l) = stP n l := by
  rw [mergeK_nil (fun q _ => by simp) (stP_keys n l), List.nil_append]
def spPlain : Sp := fun vs H Q _ => ∃ (p c sz : Addr) (m : Int) (zs : List Int), vs = [.ref p, .ref sz, .int 2] ∧ PenAt H p c m ∧ m ≤ 800000 ∧ sz ≠ p ∧ H sz = some (.lst (zs.map V.int)) ∧ 1 ≤ zs.length ∧ zs.length ≤ 1000 ∧ (∀ z ∈ zs, 1 ≤ z ∧ z ≤ 1000000000000) ∧
  ∀ H' a l n ts, Kp [p] H H' → H a = none → H l = none → PlnH H' a l n ts → LwOk n ts → 1 ≤ n → n ≤ 1000000000000 → PenAt H' p c (m + 200) → Q (.ref a) H'
section
variable {P : Program} {w : World} {K : PySem.W.Frag} {mg : Str → Option Value} {base : Heap}
theorem ok_plain (T : FX P K mg) : FnR P w K mg base CX0 4 (ga K "_law_plain") spPlain := by
  refine fnr T.f_w_plain sc_plain (fun _ _ _ _ _ _ us hl => match us, hl with | [_, _, _], _ => rfl) (fun vs H Q E h => ?_) (fun cdv A outer s H vs Q E hr h => ?_)
  · obtain ⟨p, c, sz, m, zs, rfl, _⟩ := h
    rfl
  · obtain ⟨p, c, sz, m, zs, rfl, pen, hm, hszp, hsz, hz1, hz2, hzs, k⟩ := h
    have nd := sc_plain.nd
    have hu := hu_of hr
    have hr2 : Room 2 _ := hr.mono (by decide)
    have hr1 : Room 1 _ := hr.mono (by decide)
    refine ⟨_, pss_cons (ps_par (i := 3) (j := 4) rfl nd rfl rfl (by decide) rfl rfl (pa_cons (cl "_law_pick" T (ok_pick T) hr2 (pa_cons (pv 0) (pa_cons (pv 1) pa_nil)))
          (pa_cons (pe_lst (pa_cons pe_str (pa_cons pe_str (pa_cons pe_str (pa_cons pe_str (pa_cons pe_str (pa_cons pe_str (pa_cons pe_str (pa_cons pe_str (pa_cons pe_str (pa_cons pe_str (pa_cons pe_str (pa_cons pe_str pa_nil))))))))))))) pa_nil)) rfl)
      (pss_cons (ps_set (i := 5) nd rfl (Or.inr rfl) (cl "_law_pick" T (ok_pick T) hr2 (pa_cons (pv 0) (pa_cons (pe_lst (pa_cons (pe_lst (pa_cons pe_str pa_nil)) (pa_cons (pe_lst (pa_cons pe_str (pa_cons pe_str pa_nil))) (pa_cons (pe_lst (pa_cons pe_str (pa_cons pe_str (pa_cons pe_str pa_nil)))) (pa_cons (pe_lst (pa_cons pe_str (pa_cons pe_str (pa_cons pe_str (pa_cons pe_str pa_nil))))) pa_nil))))) pa_nil))))
      (pss_cons (ps_set (i := 6) nd rfl (Or.inl rfl) (pe_lst pa_nil))
      (pss_cons (ps_for PassesOwn.never rfl (pi_range1 (by rfl) (T.fre "range" (by decide +kernel)) (pa_cons (pe_op op_add pe_int (cl "_law_draw" T (ok_draw T) hr1 (pa_cons (pv 0) (pa_cons (pv 2) pa_nil)))) pa_nil)) (pg_name (i := 7) nd rfl (Or.inl rfl))
        (pss_cons (ps_setLc (i := 9) (own := [("_law_spot", 8)]) (g := gName 8) (tt := tYes) (te := tCallR (spPick K) E0 (tCons (tVar 0) (tCons (tVar 5) tNil))) rfl nd rfl rfl (sw_true rfl rfl rfl (by decide +kernel)) (pi_range1 (by rfl) (T.fre "range" (by decide +kernel)) (pa_cons (pe_op op_add pe_int (cl "_law_draw" T (ok_draw T) hr1 (pa_cons (pv 0) (pa_cons pe_int pa_nil)))) pa_nil)) (blkOk_by (N := ["_law_pen_here", "_law_sizes", "_law_rings", "_law_size", "_law_left", "_law_places_here", "_law_trips", "_law_ring", "_law_spot", "_law_row", "_law_at", "_law_name", "_law_here"]) (sc := defScope w_plain) (by decide +kernel))
            (fun _ _ _ _ _ => pg_name (i := 8) nd rfl (Or.inl rfl)) (fun _ _ _ _ _ => pts_nil) (fun _ _ _ _ _ => (cl "_law_pick" T (ok_pick T) hr2 (pa_cons (pv 0) (pa_cons (pv 5) pa_nil)))))
        (pss_one (ps_for PassesOwn.never rfl (pi_range1 (by rfl) (T.fre "range" (by decide +kernel)) (pa_cons (cb "len" T call_len (pa_cons (pv 9) pa_nil)) pa_nil)) (pg_name (i := 10) nd rfl (Or.inl rfl))
          (pss_cons (ps_set (i := 11) nd rfl (Or.inl rfl) (pe_bm PySem.F.plainAttrs_list PySem.F.slot_list_pop PySem.F.type_list_pop mt_popAt (pv 4) (pa_cons (cl "_law_draw" T (ok_draw T) hr1 (pa_cons (pv 0) (pa_cons (cb "len" T call_len (pa_cons (pv 4) pa_nil)) pa_nil))) pa_nil)))
          (pss_one (ps_expr (pe_bm PySem.F.plainAttrs_list PySem.F.slot_list_append PySem.F.type_list_append mt_append (pv 6) (pa_cons (pe_tup (pa_cons (pv 11) (pa_cons pe_bl (pa_cons (pe_ix ix_list (pv 9) (pe_op op_sub (pv 10) pe_int) (fun _ _ => rfl)) (pa_cons (cl "_law_draw" T (ok_draw T) hr1 (pa_cons (pv 0) (pa_cons (pv 3) pa_nil))) (pa_cons (cl "_law_takes" T (ok_takes T) hr (pa_cons (pv 0) (pa_cons (pv 3) pa_nil))) (pa_cons (pe_ix ix_list (pv 9) (pv 10) (fun _ _ => rfl)) pa_nil))))))) pa_nil)))))))))
      (pss_cons (ps_if (pt_cmpR op_eq (cl "_law_draw" T (ok_draw T) hr1 (pa_cons (pv 0) (pa_cons pe_int pa_nil))) pe_int (nomark _))
        (pss_cons (ps_set (i := 12) nd rfl (Or.inl rfl) (pe_ix ix_tup (cl "_law_pick" T (ok_pick T) hr2 (pa_cons (pv 0) (pa_cons (pv 6) pa_nil))) pe_int (fun _ _ => rfl)))
        (pss_one (ps_expr (pe_bm PySem.F.plainAttrs_list PySem.F.slot_list_append PySem.F.type_list_append mt_append (pv 6) (pa_cons (pe_tup (pa_cons (pe_bm PySem.F.plainAttrs_list PySem.F.slot_list_pop PySem.F.type_list_pop mt_popAt (pv 4) (pa_cons (cl "_law_draw" T (ok_draw T) hr1 (pa_cons (pv 0) (pa_cons (cb "len" T call_len (pa_cons (pv 4) pa_nil)) pa_nil))) pa_nil)) (pa_cons pe_bl (pa_cons (pv 12) (pa_cons (cl "_law_draw" T (ok_draw T) hr1 (pa_cons (pv 0) (pa_cons (pv 3) pa_nil))) (pa_cons (cl "_law_takes" T (ok_takes T) hr (pa_cons (pv 0) (pa_cons (pv 3) pa_nil))) (pa_cons (pv 12) pa_nil))))))) pa_nil))))) pss_nil)
      (pss_one (ps_ret (pe_disp (pps_cons pe_str (pv 3) (pps_cons pe_str (pv 6) pps_nil)) rfl rfl (by decide) (by decide)))))))), ?_⟩
    refine ⟨_, rfl, _, rfl, p, c, sz, m, _, rfl, pen, by omega, hszp, hsz, by rw [List.length_map]; exact hz1, by rw [List.length_map]; exact hz2, fun H1 x hx kp1 pn1 => ?_⟩
    obtain ⟨n, hn, rfl⟩ := List.mem_map.mp hx
    obtain ⟨hn1, hn2⟩ := hzs n hn
    refine ⟨(show (12 : Nat) ≤ sizeLine by decide), fun lf hlf => ⟨_, _, rfl, ?_⟩⟩
    have u0 : Same H1 (upd H1 lf (.lst (LEFT.map V.str))) := same_new same_rfl hlf
    have hlf1 : (upd H1 lf (.lst (LEFT.map V.str))) lf = some (.lst (LEFT.map V.str)) := upd_same
    have hlf0 : H lf = none := kp_none kp1 pn1 hlf
    show tSeq _ _ _ _ (upd H1 lf (.lst (LEFT.map V.str)))
    generalize upd H1 lf (.lst (LEFT.map V.str)) = H2 at u0 hlf1
    have pn2 := pn1.up u0
    refine ⟨_, rfl, by decide, fun l1 hl1 => ⟨by decide, fun l2 hl2 => ⟨by decide, fun l3 hl3 => ⟨by decide, fun l4 hl4 => ⟨(show (4 : Nat) ≤ sizeLine by decide), fun l5 hl5 => ?_⟩⟩⟩⟩⟩
    have t1 := same_new (o := .lst ([V.str "a"])) (same_rfl (H := H2)) hl1
    have t2 := same_new (o := .lst ([V.str "a", .str "b"])) same_rfl hl2
    have t3 := same_new (o := .lst ([V.str "b", .str "a", .str "c"])) same_rfl hl3
    have t4 := same_new (o := .lst ([V.str "q", .str "p", .str "zzzzzzzz", .str "a"])) same_rfl hl4
    have t5 := same_new (o := .lst ([V.ref l1, .ref l2, .ref l3, .ref l4])) same_rfl hl5
    have v4 := same_tr t4 t5
    have v3 := same_tr t3 v4
    have v2 := same_tr t2 v3
    have v1 := same_tr t1 v2
    have pn3 := pn2.up v1
    have npl5 : l5 ≠ p := fun z => (pn2.up (same_tr t1 (same_tr t2 (same_tr t3 t4)))).ne (z ▸ hl5)
    refine ⟨p, c, l5, _, _, rfl, pn3, by omega, npl5, upd_same, (show (1 : Nat) ≤ 4 by decide), (show (4 : Nat) ≤ 1000 by decide), fun H3 x hx kp3 pn4 => ?_⟩
    obtain ⟨pl, PL, rfl, hPL, hpl, npl, nplf⟩ : ∃ (pl : Addr) (PL : List Str), x = .ref pl ∧ PL ∈ PL9 ∧ H3 pl = some (.lst (PL.map V.str)) ∧ pl ≠ p ∧ pl ≠ lf := by
      have ne : ∀ {l : Addr} {G : Hp}, Same H2 G → G l = none → l ≠ p := fun s e z => (pn2.up s).ne (z ▸ e)
      have nf : ∀ {l : Addr} {G : Hp}, Same H2 G → G l = none → l ≠ lf := fun s e z => by rw [z, s _ _ hlf1] at e; cases e
      rcases List.mem_cons.mp hx with e | hx
      · have y := ne same_rfl hl1
        exact ⟨l1, ["a"], e, by decide, kp3 _ _ (by simpa using y) (v2 _ _ upd_same), y, nf same_rfl hl1⟩
      rcases List.mem_cons.mp hx with e | hx
      · have y := ne t1 hl2
        exact ⟨l2, ["a", "b"], e, by decide, kp3 _ _ (by simpa using y) (v3 _ _ upd_same), y, nf t1 hl2⟩
      rcases List.mem_cons.mp hx with e | hx
      · have y := ne (same_tr t1 t2) hl3
        exact ⟨l3, ["b", "a", "c"], e, by decide, kp3 _ _ (by simpa using y) (v4 _ _ upd_same), y, nf (same_tr t1 t2) hl3⟩
      rcases List.mem_cons.mp hx with e | hx
      · have y := ne (same_tr t1 (same_tr t2 t3)) hl4
        exact ⟨l4, ["q", "p", "zzzzzzzz", "a"], e, by decide, kp3 _ _ (by simpa using y) (t5 _ _ upd_same), y, nf (same_tr t1 (same_tr t2 t3)) hl4⟩
      · cases hx
    obtain ⟨hP1, hP4⟩ := PL9_len hPL
    refine ⟨by decide, fun tr htr => ?_⟩
    have nlfp := (pn1.nn hlf)
    have hlf3 : H3 lf = some (.lst (LEFT.map V.str)) := kp_mem kp3 (v1 _ _ hlf1) nlfp.1
    have ntrlf : lf ≠ tr := fun z => by rw [← z, hlf3] at htr; cases htr
    have ntrpl : pl ≠ tr := fun z => by rw [← z, hpl] at htr; cases htr
    have k03 : Kp [p] H H3 := kp_tr kp1 (kp_tr (kp_same (same_tr u0 v1)) kp3)
    have pi0 : PI H p c lf pl tr PL (upd H3 tr (.lst [])) [] [] [] LEFT (m + 2) := by
      have s := same_new (o := .lst []) (same_rfl (H := H3)) htr
      refine ⟨kp_tr k03 (kp_same s), (pn4.up s).le (by omega), s _ _ hlf3, s _ _ hpl, upd_same, ⟨rfl, fun i q t a => by simp at a⟩, nlfp, npl, pn4.nn htr, ntrlf, nplf, ntrpl, hlf0, kp_none k03 pn4 htr, .refl _⟩
    show tSeq _ _ _ _ (upd H3 tr (.lst []))
    generalize upd H3 tr (.lst []) = H4 at pi0
    have bd : ∀ {ts : List TR} {pend left : List Str}, (names ts ++ (pend ++ left)).Perm LEFT → ts.length + pend.length + left.length = 12 := fun h => by
      have := h.length_eq
      rw [List.length_append, List.length_append] at this
      unfold names at this
      rw [List.length_map] at this
      have e : LEFT.length = 12 := rfl
      omega
    have hn44 : n ≤ 10000000000000 := by omega
    refine ⟨_, rfl, _, rfl, p, c, _, 2, rfl, by decide, by decide, pi0.pn, by omega, fun H5 d d0 d1 kp5 pn5 => ⟨_, _, rfl, rfl, _, rfl, by omega, by omega, ?_⟩⟩
    refine for_range (fun i σ H' => ∃ ts qs left, PI H p c lf pl tr PL H' ts qs [] left (m + 3 + 30 * i) ∧ ts.length ≤ 3 * i ∧ i ≤ ts.length ∧ (∀ t ∈ ts, DrT n PL t) ∧ (starts ts).Perm (goals ts) ∧ ∃ v7 v8 v9 v10 v11 v12, σ = [some (.ref p), some (.ref sz), some (.int 2), some (.int n), some (.ref lf), some (.ref pl), some (.ref tr), v7, v8, v9, v10, v11, v12])
      ⟨[], [], LEFT, (pi0.step kp5 pn5).le (by omega), by simp, by simp, fun t h => (by cases h), .refl _, _, _, _, _, _, _, rfl⟩ ?_ ?_
    · rintro i σ H6 hi ⟨ts, qs, left, pi6, l6, il, dr6, bal6, v7, v8, v9, v10, v11, v12, rfl⟩
      have hi2 : i < 2 := by omega
      have len6 := bd pi6.nm
      refine ⟨_, rfl, p, c, _, 3, rfl, by decide, by decide, pi6.pn, by omega, fun H7 e e0 e1 kp7 pn7 => ⟨_, _, rfl, rfl, _, rfl, by omega, by omega, fun D hD => ?_⟩⟩
      have pi7 := pi6.step kp7 pn7
      have nD := pn7.nn hD
      refine lc_it walk_range (fun i' H' => ∃ R : List Str, R.length = i' ∧ (∀ x ∈ R, x ∈ PL) ∧ Kp [p, D] H7 H' ∧ PenAt H' p c (m + 3 + 30 * i + 1 + i') ∧ H' D = some (.lst (R.map V.str)))
        ⟨[], rfl, fun _ h => (by cases h), kp_wr kp_rfl (by simp), (pn7.upd nD.1 nD.2).le (by omega), upd_same⟩ (fun _ _ _ _ => trivial) ?_ ?_
      · rintro i' x Ha Hb hi' ⟨R, lR, hR, kpR, pnR, hDR⟩ ⟨rfl, rfl⟩
        refine ⟨rfl, ?_⟩
        refine ⟨_, rfl, _, rfl, p, c, pl, _, _, rfl, pnR, by omega, npl, kp_mem (kp_drop kpR hD) pi7.hp npl, by simpa using hP1, by rw [List.length_map]; omega, fun H8 y hy kp8 pn8 => ?_⟩
        obtain ⟨s, hs, rfl⟩ := List.mem_map.mp hy
        refine ⟨R.map V.str, kp_mem kp8 hDR nD.1, by rw [sizeLine_eq, List.length_map]; omega, R ++ [s], by simp [lR], fun x hx => ?_, kp_wr (kp_tr kpR (kp_more kp8)) (by simp), (pn8.upd nD.1 nD.2).le (by omega), by rw [upd_same, List.map_append]; rfl⟩
        rcases List.mem_append.mp hx with z | z
        · exact hR x z
        · rw [List.mem_singleton.mp z]; exact hs
      · rintro H8 ⟨R, lR, hR, kpR, pnR, hDR⟩
        have lR3 : 1 ≤ R.length ∧ R.length ≤ 3 := by omega
        have pi8 := pi7.step (kp_drop kpR hD) pnR
        have nDlf : D ≠ lf := fun z => by rw [z, pi7.hl] at hD; cases hD
        have nDtr : D ≠ tr := fun z => by rw [z, pi7.ht] at hD; cases hD
        refine ⟨_, rfl, _, _, rfl, .inl ⟨_, SqL.of hDR, rfl⟩, _, rfl, by rw [List.length_map]; omega, by rw [List.length_map]; omega, ?_⟩
        refine for_range (fun i' σ H' => ∃ us rs left, us.length = i' ∧ PI H p c lf pl tr PL H' (ts ++ us) (qs ++ rs) [] left (m + 3 + 30 * i + 4 + 7 * i') ∧ (∀ t ∈ us, DrT n PL t) ∧ starts us = (rot R).take i' ∧ goals us = R.take i' ∧ H' D = some (.lst (R.map V.str)) ∧ ∃ v7 v8 v10 v11 v12, σ = [some (.ref p), some (.ref sz), some (.int 2), some (.int n), some (.ref lf), some (.ref pl), some (.ref tr), v7, v8, some (.ref D), v10, v11, v12])
          ⟨[], [], left, rfl, by rw [List.append_nil, List.append_nil]; exact pi8.le (by omega), fun t h => (by cases h), rfl, rfl, hDR, _, _, _, _, _, rfl⟩ ?_ ?_
        · rintro i' σ H9 hi' ⟨us, rs, left', lus, pi9, dr9, st9, go9, hD9, w7, w8, w10, w11, w12, rfl⟩
          rw [List.length_map] at hi'
          have hir : i' < R.length := by omega
          obtain ⟨xa, hxa, hat⟩ := rot_at hir
          obtain ⟨xb, hxb⟩ : ∃ xb, R[i']? = some xb := ⟨_, List.getElem?_eq_getElem hir⟩
          have atA : atI (R.map V.str) (0 + (i' : Int) - 1) = some (.str xa) := by
            rw [show (0 : Int) + (i' : Int) - 1 = (i' : Int) - 1 by omega]
            exact atI_map hat
          have atB : atI (R.map V.str) (0 + (i' : Int)) = some (.str xb) := by
            rw [Int.zero_add]
            exact atI_nat (by rw [List.getElem?_map, hxb]; rfl)
          have len9 := bd pi9.nm
          rw [List.length_append, lus, List.length_nil] at len9
          have ll9 : (left'.map V.str).length = left'.length := List.length_map ..
          refine ⟨_, rfl, .inl ⟨rfl, _, SqL.of pi9.hl⟩, _, rfl, _, rfl, _, _, rfl, .inl ⟨_, SqL.of pi9.hl, rfl⟩, p, c, _, _, rfl, by omega, by omega, pi9.pn, by omega, fun HA j j0 j1 kpA pnA => ?_⟩
          obtain ⟨j, rfl⟩ := Int.eq_ofNat_of_zero_le j0
          have hj : j < left'.length := by omega
          have piA := pi9.step kpA pnA
          obtain ⟨nm, hnm⟩ : ∃ nm, left'[j]? = some nm := ⟨_, List.getElem?_eq_getElem hj⟩
          refine ⟨lf, _, _, j, .str nm, rfl, rfl, piA.hl, by omega, by omega, by rw [seqIndex_of j0 (by omega)]; rfl, by rw [List.getElem?_map, hnm]; rfl, ?_⟩
          have piB := piA.pop hnm
          have hDA := kp_mem kpA hD9 nD.1
          have hDB : (upd HA lf (.lst ((left'.map V.str).eraseIdx j))) D = some (.lst (R.map V.str)) := by rw [upd_ne nDlf]; exact hDA
          generalize upd HA lf (.lst ((left'.map V.str).eraseIdx j)) = HB at piB hDB
          refine ⟨_, rfl, .inl ⟨rfl, _, SqL.of piB.ht⟩, _, rfl, _, rfl, _, rfl, _, _, rfl, rfl, D, _, _, _, rfl, rfl, SqL.of hDB, atA, _, rfl, _, rfl, p, c, _, n, rfl, hn1, hn44, piB.pn, by omega, fun HC lv lv0 lv1 kpC pnC => ?_⟩
          have piC := piB.step kpC pnC
          refine ⟨_, rfl, _, rfl, p, c, _, n, rfl, piC.pn, by omega, hn1, hn2, fun HD tk tk1 kpD pnD => ?_⟩
          have piD := piC.step kpD pnD
          have hDD := kp_mem kpD (kp_mem kpC hDB nD.1) nD.1
          refine ⟨_, rfl, _, rfl, D, _, _, _, rfl, rfl, SqL.of hDD, atB, (show (6 : Nat) ≤ sizeLine by decide), fun q hq => ?_⟩
          have piE := piD.put (t := ⟨true, nm, xa, lv, tk, xb⟩) hq
          have lq : (qs ++ rs).length ≤ 12 := by rw [piD.tp.1, List.length_append, lus]; omega
          refine ⟨tr, _, _, rfl, rfl, by rw [upd_ne (ne_of_none piD.ht hq)]; exact piD.ht, by rw [List.length_map, sizeLine_eq]; omega, ?_⟩
          rw [List.append_assoc, List.append_assoc] at piE
          have hxaR : xa ∈ PL := hR xa ((rot_perm R).mem_iff.mp (List.mem_of_getElem? hxa))
          have hxbR : xb ∈ PL := hR xb (List.mem_of_getElem? hxb)
          refine ⟨us ++ [(⟨true, nm, xa, lv, tk, xb⟩ : TR)], rs ++ [q], left'.eraseIdx j, by simp [lus], (by exact PI.le piE (by omega)), ?_, ?_, ?_, by rw [upd_ne nDtr, upd_ne (ne_of_none hDD hq)]; exact hDD, _, _, _, _, _, rfl⟩
          · intro u hu
            rcases List.mem_append.mp hu with z | z
            · exact dr9 u z
            · rw [List.mem_singleton.mp z]
              exact ⟨lv0, lv1, tk1, hxaR, hxbR, fun z => by cases z⟩
          · unfold starts at st9 ⊢
            rw [List.map_append, st9, List.take_succ, hxa]
            rfl
          · unfold goals at go9 ⊢
            rw [List.map_append, go9, List.take_succ, hxb]
            rfl
        · rintro σ H9 ⟨us, rs, left', lus, pi9, dr9, st9, go9, hD9, w7, w8, w10, w11, w12, rfl⟩
          rw [List.length_map] at lus
          refine ⟨ts ++ us, qs ++ rs, left', pi9.le (by rw [List.length_map]; omega), by rw [List.length_append]; omega, by rw [List.length_append]; omega, fun t ht => ?_, ?_, _, _, _, _, _, _, rfl⟩
          · rcases List.mem_append.mp ht with z | z
            · exact dr6 t z
            · exact dr9 t z
          · have e1 : starts us = rot R := by rw [st9, List.take_of_length_le (by rw [(rot_perm R).length_eq, List.length_map]; omega)]
            have e2 : goals us = R := by rw [go9, List.take_of_length_le (by rw [List.length_map]; omega)]
            have := bal6.append (e1 ▸ e2 ▸ (rot_perm R) : (starts us).Perm (goals us))
            unfold starts goals at this ⊢
            rw [List.map_append, List.map_append]
            exact this
    · rintro σ H6 ⟨ts, qs, left, pi6, l6, il, dr6, bal6, v7, v8, v9, v10, v11, v12, rfl⟩
      have l6b : 1 ≤ ts.length ∧ ts.length ≤ 6 := by omega
      have len6 := bd pi6.nm
      have fin : ∀ {HZ : Hp} {us : List TR} {rs : List Addr} {lft : List Str} {mz : Int}, PI H p c lf pl tr PL HZ us rs [] lft mz → mz ≤ m + 200 → (∀ t ∈ us, DrT n PL t) → (starts us).Perm (goals us) → us.length ≤ 7 → ∀ d, HZ d = none →
          Q (.ref d) (upd (upd HZ d (.dK [])) d (.dK (mergeK [] (stP n tr)))) := by
        intro HZ us rs lft mz piz hmz drz balz l7 d hd
        rw [mergeK_stP]
        have s1 := same_new (o := .dK []) (same_rfl (H := HZ)) hd
        have nd1 := piz.pn.nn hd
        refine k _ d tr n us ?_ (kp_none piz.kp piz.pn hd) piz.f3 ?_ ?_ hn1 hn2 (((piz.pn.up s1).upd nd1.1 nd1.2).le hmz)
        · intro x o hx e
          have e2 := piz.kp x o hx e
          have nx : x ≠ d := ne_of_none e2 hd
          rw [upd_ne nx, upd_ne nx]
          exact e2
        · refine ⟨rs, upd_same, ?_, piz.tp.1, fun i q t a b => ?_⟩
          · have nx : tr ≠ d := ne_of_none piz.ht hd
            rw [upd_ne nx, upd_ne nx]
            exact piz.ht
          · have e := piz.tp.2 i q t a b
            have nx : q ≠ d := ne_of_none e hd
            rw [upd_ne nx, upd_ne nx]
            exact e
        · have pm : (names us ++ lft).Perm LEFT := by have := piz.nm; simpa using this
          have ndl : (names us ++ lft).Nodup := pm.nodup_iff.mpr LEFT_ok.1
          refine ⟨(List.nodup_append.mp ndl).1, fun t ht => LEFT_ok.2 _ (pm.mem_iff.mp (List.mem_append_left _ (List.mem_map_of_mem ht))), ⟨PL, hPL, drz⟩, balz, l7⟩
      refine ⟨_, rfl, p, c, _, 4, rfl, by decide, by decide, pi6.pn, by omega, fun H7 e e0 e1 kp7 pn7 => ⟨rfl, _, rfl, ?_⟩⟩
      have pi7 := pi6.step kp7 pn7
      cases hd : decide (V.int e = V.int 0) with
      | false =>
        refine iF (fun d hd => ⟨_, rfl, _, rfl, upd_same, stP n tr, rfl, (show (2 : Nat) ≤ 15 by decide), ?_⟩)
        exact fin pi7 (by omega) dr6 bal6 (by omega) d hd
      | true =>
        have hqt : ∀ x ∈ qs.map V.ref, ∃ (q : Addr) (t : TR), x = .ref q ∧ t ∈ ts ∧ H7 q = some (.tup (tupV t)) := by
          intro x hx
          obtain ⟨q, hq, rfl⟩ := List.mem_map.mp hx
          obtain ⟨j, hj⟩ := List.mem_iff_getElem?.mp hq
          have hjl := (List.getElem?_eq_some_iff.mp hj).1
          obtain ⟨t, ht⟩ : ∃ t, ts[j]? = some t := ⟨_, List.getElem?_eq_getElem (by rw [← pi7.tp.1]; exact hjl)⟩
          exact ⟨q, t, rfl, List.mem_of_getElem? ht, pi7.tp.2 j q t hj ht⟩
        have lqs := pi7.tp.1
        refine iT ⟨_, rfl, _, rfl, p, c, tr, _, _, rfl, pi7.pn, by omega, pi7.n3.1, pi7.ht, by rw [List.length_map]; omega, by rw [List.length_map]; omega, fun H8 x hx kp8 pn8 => ?_⟩
        obtain ⟨q, t, rfl, htm, hqt⟩ := hqt x hx
        have pi8 := pi7.step kp8 pn8
        have hq8 := kp_mem kp8 hqt (pi7.pn.nl hqt (fun xs y => by cases y)).1
        have drt := dr6 t htm
        refine ⟨q, _, 2, _, rfl, rfl, SqT.of hq8, rfl, ?_⟩
        have ll9 : (left.map V.str).length = left.length := List.length_map ..
        rw [List.length_nil] at len6
        refine ⟨_, rfl, .inl ⟨rfl, _, SqL.of pi8.ht⟩, _, rfl, .inl ⟨rfl, _, SqL.of pi8.hl⟩, _, rfl, _, rfl, _, _, rfl, .inl ⟨_, SqL.of pi8.hl, rfl⟩, p, c, _, _, rfl, by omega, by omega, pi8.pn, by omega, fun HA j j0 j1 kpA pnA => ?_⟩
        obtain ⟨j, rfl⟩ := Int.eq_ofNat_of_zero_le j0
        have hj : j < left.length := by omega
        have piA := pi8.step kpA pnA
        obtain ⟨nm, hnm⟩ : ∃ nm, left[j]? = some nm := ⟨_, List.getElem?_eq_getElem hj⟩
        refine ⟨lf, _, _, j, .str nm, rfl, rfl, piA.hl, by omega, by omega, by rw [seqIndex_of j0 (by omega)]; rfl, by rw [List.getElem?_map, hnm]; rfl, ?_⟩
        have piB := piA.pop hnm
        generalize upd HA lf (.lst ((left.map V.str).eraseIdx j)) = HB at piB
        refine ⟨_, rfl, _, rfl, _, rfl, p, c, _, n, rfl, hn1, hn44, piB.pn, by omega, fun HC lv lv0 lv1 kpC pnC => ?_⟩
        have piC := piB.step kpC pnC
        refine ⟨_, rfl, _, rfl, p, c, _, n, rfl, piC.pn, by omega, hn1, hn2, fun HD tk tk1 kpD pnD => ?_⟩
        have piD := piC.step kpD pnD
        refine ⟨_, rfl, (show (6 : Nat) ≤ sizeLine by decide), fun q2 hq2 => ?_⟩
        have piE := piD.put (t := ⟨false, nm, t.start, lv, tk, t.start⟩) hq2
        refine ⟨tr, _, _, rfl, rfl, by rw [upd_ne (ne_of_none piD.ht hq2)]; exact piD.ht, by rw [List.length_map, sizeLine_eq]; omega, ?_⟩
        refine fun d hd => ⟨_, rfl, _, rfl, upd_same, stP n tr, rfl, (show (2 : Nat) ≤ 15 by decide), ?_⟩
        refine fin piE (by omega) ?_ ?_ (by rw [List.length_append]; simp; omega) d hd
        · intro u hu
          rcases List.mem_append.mp hu with z | z
          · exact dr6 u z
          · rw [List.mem_singleton.mp z]
            exact ⟨lv0, lv1, tk1, drt.s, drt.s, fun _ => rfl⟩
        · unfold starts goals at bal6 ⊢
          rw [List.map_append, List.map_append]
          exact bal6.append (.refl _)
end
end N1
set_option maxHeartbeats 4000000
/-! the law's table, places, a trip's text, the trips by name -/
namespace N1
open PySem PySem.Spec PyProof.Rows L2 TL
theorem gt_trips {H : Hp} {a l : Addr} {n : Int} (h : H a = some (.dK (stP n l))) : DGet H a (.str ("trips" : Str)) (some (.ref l)) := .inl ⟨stP n l, Sum.inr ("trips" : Str), .inl h, rfl, rfl⟩
theorem gt_size {H : Hp} {a l : Addr} {n : Int} (h : H a = some (.dK (stP n l))) : DGet H a (.str ("size" : Str)) (some (.int n)) := .inl ⟨stP n l, Sum.inr ("size" : Str), .inl h, rfl, rfl⟩
theorem Tps.zip {H : Hp} {qs : List Addr} {ts : List TR} (h : Tps H qs ts) : ∀ x ∈ qs.zip ts, H x.1 = some (.tup (tupV x.2)) ∧ x.2 ∈ ts := fun x hx => by
  obtain ⟨j, hj⟩ := List.mem_iff_getElem?.mp hx
  rw [List.getElem?_zip_eq_some] at hj
  exact ⟨h.2 j x.1 x.2 hj.1 hj.2, List.mem_of_getElem? hj.2⟩
theorem zip_fst {α : Type} {as : List α} {ts : List TR} (h : as.length = ts.length) (f : α → V) : (as.zip ts).map (fun q => f q.1) = as.map f := by
  have := List.map_fst_zip (l₁ := as) (l₂ := ts) (by omega)
  conv => rhs; rw [← this]
  rw [List.map_map]
  rfl
theorem zip_snd {α : Type} {as : List α} {ts : List TR} (h : as.length = ts.length) (f : TR → V) : (as.zip ts).map (fun q => f q.2) = ts.map f := by
  have := List.map_snd_zip (l₁ := as) (l₂ := ts) (by omega)
  conv => rhs; rw [← this]
  rw [List.map_map]
  rfl
theorem Trs.add {K : PySem.W.Frag} {H : Hp} {as : List Addr} {ts : List TR} {a : Addr} {t : TR} (h : Trs K H as ts) (ht : TripAt K H a t) : Trs K H (as ++ [a]) (ts ++ [t]) := by
  refine ⟨by rw [List.length_append, List.length_append, h.1]; rfl, fun i b u h1 h2 => ?_⟩
  by_cases hi : i < ts.length
  · rw [List.getElem?_append_left (by rw [h.1]; exact hi)] at h1
    rw [List.getElem?_append_left hi] at h2
    exact h.2 i b u h1 h2
  · have e0 : i = ts.length := by
      have := (List.getElem?_eq_some_iff.mp h2).1
      rw [List.length_append] at this
      simp at this
      omega
    subst e0
    rw [List.getElem?_append_right (Nat.le_refl _)] at h2
    rw [List.getElem?_append_right (by rw [h.1]; exact Nat.le_refl _), h.1] at h1
    simp at h1 h2
    subst h1 h2
    exact ht
theorem Trs.updL {K : PySem.W.Frag} {H : Hp} {as : List Addr} {ts : List TR} {l : Addr} {xs ys : List V} (h : Trs K H as ts) (hl : H l = some (.lst xs)) : Trs K (upd H l (.lst ys)) as ts :=
  ⟨h.1, fun i a t h1 h2 => by
    obtain ⟨du, e⟩ := h.2 i a t h1 h2
    refine ⟨du, ?_⟩
    rw [upd_ne (fun z => by rw [z, hl] at e; cases e)]
    exact e⟩
def spTabL (K : PySem.W.Frag) : Sp := fun vs H Q _ => ∃ (a l : Addr) (n : Int) (ts : List TR), vs = [.ref a] ∧ PlnH H a l n ts ∧ TabOk n ts ∧ (∀ t ∈ ts, t.Ok) ∧ 1 ≤ n ∧ n ≤ 1000000000000 ∧ ∀ H' q, Same H H' → H q = none → TableAt K H' q n (st ts) → Q (.ref q) H'
def spPlacesL : Sp := fun vs H Q _ => ∃ (a l : Addr) (n : Int) (ts : List TR), vs = [.ref a] ∧ PlnH H a l n ts ∧ ts.length ≤ 60 ∧
  ∀ H' q (ys : List Str), Same H H' → H q = none → H' q = some (.lst (ys.map V.str)) → ys.Nodup → (∀ k, k ∈ ys ↔ k ∈ starts ts) → ys.length ≤ ts.length → Q (.ref q) H'
def spTripTx : Sp := fun vs H Q _ => ∃ (q : Addr) (t : TR), vs = [.ref q] ∧ H q = some (.tup (tupV t)) ∧ t.Ok ∧ ∀ H', Same H H' → Q (.str (tripT t)) H'
section
variable {P : Program} {w : World} {K : PySem.W.Frag} {mg : Str → Option Value} {base : Heap}
theorem ok_tableL (T : FX P K mg) : FnR P w K mg base CX0 7 (ga K "_law_table") (spTabL K) := by
  refine fnr T.f_w_table sc_table (fun _ _ _ _ _ _ us hl => match us, hl with | [_], _ => rfl) (fun vs H Q E h => ?_) (fun cdv A outer s H vs Q E hr h => ?_)
  · obtain ⟨a, l, n, ts, rfl, _⟩ := h
    rfl
  · obtain ⟨a, l, n, ts, rfl, ⟨qs, ha, hl, tps⟩, tok, hok, hn1, hn2, k⟩ := h
    have nd := sc_table.nd
    have hu := hu_of hr
    refine ⟨_, pss_cons (ps_set (i := 1) nd rfl (Or.inl rfl) (pe_lst pa_nil))
      (pss_cons (ps_for PassesOwn.never rfl (pi_list (pe_dget hu (pv 0) pe_str (fun _ _ => rfl))) (pg_tup rfl (pgs_cons (pg_name (i := 2) nd rfl (Or.inl rfl)) (pgs_cons (pg_name (i := 3) nd rfl (Or.inl rfl)) (pgs_cons (pg_name (i := 4) nd rfl (Or.inl rfl)) (pgs_cons (pg_name (i := 5) nd rfl (Or.inl rfl)) (pgs_cons (pg_name (i := 6) nd rfl (Or.inl rfl)) (pgs_cons (pg_name (i := 7) nd rfl (Or.inl rfl)) pgs_nil)))))))
        (pss_one (ps_expr (pe_bm PySem.F.plainAttrs_list PySem.F.slot_list_append PySem.F.type_list_append mt_append (pv 1) (pa_cons (pe_ifExp (pt_val (pv 3))
          (StX.pe_makeR (T.mkr "Run" (by decide +kernel)) (ok_RunInit T) hr rfl (T.glo "Run" (by decide +kernel)) pass0 (pa_cons (pv 2) (pa_cons (pv 4) (pa_cons (pv 5) (pa_cons (pv 6) (pa_cons (pv 7) pa_nil))))))
          (StX.pe_makeR (T.mkr "Stay" (by decide +kernel)) (ok_StayInit T) hr rfl (T.glo "Stay" (by decide +kernel)) pass0 (pa_cons (pv 2) (pa_cons (pv 4) (pa_cons (pv 5) (pa_cons (pv 6) pa_nil)))))) pa_nil)))))
      (pss_one (ps_ret (pe_smeth (gc "Table" T) T.crT T.stT (ok_TableOf T) (hr.mono (by decide)) pass0 (pa_cons (StX.pe_makeR (T.mkr "Day" (by decide +kernel)) (ok_DayInit T) (hr.mono (by decide)) rfl (T.glo "Day" (by decide +kernel)) pass0 (pa_cons (pe_dget hu (pv 0) pe_str (fun _ _ => rfl)) pa_nil)) (pa_cons (pv 1) pa_nil)))))), ?_⟩
    refine ⟨by decide, fun fd hfd => ?_⟩
    have s0 : Same H (upd H fd (.lst [])) := same_new same_rfl hfd
    refine ⟨_, rfl, a, _, rfl, gt_trips (s0 _ _ ha), l, rfl, ⟨_, SqL.of (s0 _ _ hl)⟩, ?_⟩
    refine for_it (walk_list (xs := qs.map V.ref)) (fun i σ H' => ∃ as, Same H H' ∧ H' fd = some (.lst (as.map V.ref)) ∧ as.length = i ∧ Trs K H' as (ts.take i) ∧ ∃ v2 v3 v4 v5 v6 v7, σ = [some (.ref a), some (.ref fd), v2, v3, v4, v5, v6, v7])
      ⟨[], s0, upd_same, rfl, ⟨rfl, fun i a t e => by simp at e⟩, _, _, _, _, _, _, rfl⟩ (fun i σ H' _ h => SqL.of (let ⟨_, s, _⟩ := h; s _ _ hl)) ?_ ?_
    · rintro i v σ _ H1 hi ⟨as, s1, hf1, la, tr1, v2, v3, v4, v5, v6, v7, rfl⟩ ⟨rfl, hx⟩
      rw [List.length_map] at hi
      rw [List.getElem?_map] at hx
      obtain ⟨q, hq⟩ : ∃ q, qs[i]? = some q := ⟨_, List.getElem?_eq_getElem hi⟩
      rw [hq] at hx
      cases hx
      obtain ⟨t, ht⟩ : ∃ t, ts[i]? = some t := ⟨_, List.getElem?_eq_getElem (by rw [← tps.1]; exact hi)⟩
      have hqt := s1 _ _ (tps.2 i q t hq ht)
      have ok := hok t (List.mem_of_getElem? ht)
      have five : T5 t.name t.start t.leaves t.takes t.goal := ⟨ok.n, ok.s, ok.g, ok.l0, ok.l1, ok.t0, ok.t1⟩
      have et : ts.take (i + 1) = ts.take i ++ [t] := by rw [List.take_succ, ht]; rfl
      have i40 : i < 40 := by have := tok.l40; have := tps.1; omega
      refine ⟨q, _, rfl, SqT.of hqt, rfl, _, _, rfl, _, _, rfl, _, _, rfl, _, _, rfl, _, _, rfl, _, _, rfl, rfl, ?_⟩
      refine ⟨_, rfl, .inl ⟨rfl, _, SqL.of hf1⟩, _, rfl, t.run, rfl, ?_⟩
      have fin : ∀ (H5 : Hp) (x : Addr), Same H1 H5 → H1 x = none → TripAt K H5 x t → H5 fd = some (.lst (as.map V.ref)) ∧ as.length < sizeLine ∧ (∃ as', Same H (upd H5 fd (.lst (as.map V.ref ++ [.ref x]))) ∧ (upd H5 fd (.lst (as.map V.ref ++ [.ref x]))) fd = some (.lst (as'.map V.ref)) ∧ as'.length = i + 1 ∧ Trs K (upd H5 fd (.lst (as.map V.ref ++ [.ref x]))) as' (ts.take (i + 1))) := by
        intro H5 x s5 hx ht5
        have hf5 := s5 _ _ hf1
        refine ⟨hf5, by rw [sizeLine_eq]; omega, as ++ [x], same_at (same_tr s1 s5) hfd, by rw [upd_same, List.map_append]; rfl, by rw [List.length_append, la]; rfl, ?_⟩
        rw [et]
        exact Trs.updL ((tr1.up s5).add ht5) hf5
      cases hb : t.run with
      | true =>
        refine iT ⟨_, rfl, _, rfl, _, rfl, _, rfl, _, rfl, fun x dy hx hdy hne => ⟨x, dy, t.name, t.start, t.leaves, t.takes, t.goal, rfl, five, upd_same, fun H' h1 h2 => ⟨rfl, ?_⟩⟩⟩
        obtain ⟨f1, f2, as', f3, f4, f5, f6⟩ := fin H' x (made_same hx hdy h1) hx ⟨dy, by rw [h2, show cTR K t = cRun K by unfold cTR; rw [hb]; rfl]; rfl⟩
        exact ⟨fd, _, _, rfl, rfl, f1, by rw [List.length_map]; exact f2, as', f3, f4, f5, f6, _, _, _, _, _, _, rfl⟩
      | false =>
        have hg := ok.st hb
        refine iF ⟨_, rfl, _, rfl, _, rfl, _, rfl, fun x dy hx hdy hne => ⟨x, dy, t.name, t.start, t.leaves, t.takes, rfl, by rw [← hg] at five; exact five, upd_same, fun H' h1 h2 => ⟨rfl, ?_⟩⟩⟩
        obtain ⟨f1, f2, as', f3, f4, f5, f6⟩ := fin H' x (made_same hx hdy h1) hx ⟨dy, by
          rw [h2, show cTR K t = cStay K by unfold cTR; rw [hb]; rfl]
          show some (HO.ins (cStay K) dy (f5 t.name t.start t.leaves t.takes t.start)) = some (HO.ins (cStay K) dy (f5 t.name t.start t.leaves t.takes t.goal))
          rw [hg]⟩
        exact ⟨fd, _, _, rfl, rfl, f1, by rw [List.length_map]; exact f2, as', f3, f4, f5, f6, _, _, _, _, _, _, rfl⟩
    · rintro σ H1 ⟨as, s1, hf1, la, tr1, v2, v3, v4, v5, v6, v7, rfl⟩
      rw [List.length_map, tps.1, List.take_length] at tr1
      refine ⟨rfl, _, rfl, a, _, rfl, gt_size (s1 _ _ ha), fun xd dxd hxd hdxd hned => ⟨xd, dxd, n, rfl, hn1, hn2, upd_same, fun H3 q1 q2 => ⟨rfl, ?_⟩⟩⟩
      have s3 : Same H1 H3 := made_same hxd hdxd q1
      refine ⟨_, rfl, H3, xd, fd, n, as, ts, rfl, same_rfl, ⟨dxd, q2⟩, s3 _ _ hf1, tr1.up s3, tok, fun H4 G4 q g4 hq tb => ?_⟩
      have s4 : Same H3 H4 := fun x o e => g4.kp x o (by simp) e
      have s03 := same_tr s1 s3
      exact k H4 q (same_tr s03 s4) (same_non s03 hq) (tb.up g4.gh)
theorem ok_placesL (T : FX P K mg) : FnR P w K mg base CX0 1 (ga K "_law_places") spPlacesL := by
  refine fnr T.f_w_places sc_places (fun _ _ _ _ _ _ us hl => match us, hl with | [_], _ => rfl) (fun vs H Q E h => ?_) (fun cdv A outer s H vs Q E hr h => ?_)
  · obtain ⟨a, l, n, ts, rfl, _⟩ := h
    rfl
  · obtain ⟨a, l, n, ts, rfl, ⟨qs, ha, hl, tps⟩, l60, k⟩ := h
    have nd := sc_places.nd
    have hu := hu_of hr
    refine ⟨_, pss_one (ps_ret (cb "sorted" T (cr_sortedSetS rfl) (pa_cons (ct "set" T (cr_setOfS rfl) (pa_cons (pe_lc (own := [("_law_trip", 1)]) (g := gName 1) (tt := tYes) (te := tCB rStr1 (tCons (tOp (rIxT K) (tVar 1) (tC (.int 2))) tNil)) rfl nd (pi_list (pe_dget hu (pv 0) pe_str (fun _ _ => rfl))) (blkOk_by (N := ["_law_plain_here", "_law_trip"]) (sc := defScope w_places) (by decide +kernel))
      (fun _ _ _ _ _ => pg_name (i := 1) nd rfl (Or.inl rfl)) (fun _ _ _ _ _ => pts_nil) (fun _ _ _ _ _ => ct "str" T SkE.call_str_str (pa_cons (pe_ix ix_tup (pv 1) pe_int (fun _ _ => rfl)) pa_nil))) pa_nil)) pa_nil))), ?_⟩
    refine ⟨_, rfl, a, _, rfl, gt_trips ha, l, rfl, ⟨_, SqL.of hl⟩, fun D hD => ?_⟩
    refine lc_A (qs.zip ts) (fun q => V.ref q.1) (fun q => V.str q.2.start) (by rw [zip_fst tps.1]; exact SqL.of hl) (by rw [List.length_zip]; omega) hD ?_ ?_
    · intro x hx H1 Qk s1 hk
      have e := s1 _ _ (tps.zip x hx).1
      exact ⟨rfl, _, rfl, x.1, _, 2, _, rfl, rfl, SqT.of e, rfl, _, rfl, hk _ same_rfl⟩
    · intro H3 s3 hL3
      rw [zip_snd tps.1 (fun t => V.str t.start)] at hL3
      have ls : (starts ts).length = ts.length := by unfold starts; rw [List.length_map]
      refine ⟨D, starts ts, rfl, SqL.of (by rw [hL3]; unfold starts; rw [List.map_map]; rfl), by omega, fun p n hn hp => ⟨p, _, n, rfl, upd_same, by omega, fun ns q h1 h2 h3 h4 hq => ?_⟩⟩
      have s4 := same_new (o := SetSO w p (fun k => (starts ts).any (· == k)) n) s3 hp
      refine k _ q ns (same_new s4 hq) (none_of s4 hq) upd_same h2 (fun y => ?_) (by omega)
      rw [h3, List.any_eq_true]
      constructor
      · rintro ⟨z, hz, e⟩
        rw [← eq_of_beq e]
        exact hz
      · intro hy
        exact ⟨y, hy, by simp⟩
theorem ok_trip_text (T : FX P K mg) : FnR P w K mg base CX0 1 (ga K "_law_trip_text") spTripTx := by
  refine fnr T.f_w_trip_text sc_trip_text (fun _ _ _ _ _ _ us hl => match us, hl with | [_], _ => rfl) (fun vs H Q E h => ?_) (fun cdv A outer s H vs Q E hr h => ?_)
  · obtain ⟨q, t, rfl, _⟩ := h
    rfl
  · obtain ⟨q, t, rfl, hq, ok, k⟩ := h
    have nd := sc_trip_text.nd
    refine ⟨_, pss_cons (ps_asg (pv 0) (pg_tup rfl (pgs_cons (pg_name (i := 1) nd rfl (Or.inl rfl)) (pgs_cons (pg_name (i := 2) nd rfl (Or.inl rfl)) (pgs_cons (pg_name (i := 3) nd rfl (Or.inl rfl)) (pgs_cons (pg_name (i := 4) nd rfl (Or.inl rfl)) (pgs_cons (pg_name (i := 5) nd rfl (Or.inl rfl)) (pgs_cons (pg_name (i := 6) nd rfl (Or.inl rfl)) pgs_nil))))))))
      (pss_cons (ps_set (i := 7) nd rfl (Or.inl rfl) (pe_lst (pa_cons (pe_ifExp (pt_val (pv 2)) pe_str pe_str) (pa_cons (pv 1) (pa_cons (pv 3) (pa_cons (ct "str" T call_str_int (pa_cons (pv 4) pa_nil)) (pa_cons (ct "str" T call_str_int (pa_cons (pv 5) pa_nil)) pa_nil)))))))
      (pss_one (ps_ret (pe_join pe_str (pe_ifExp (pt_val (pv 2)) (pe_op op_cat (pv 7) (pe_lst (pa_cons (pv 6) pa_nil))) (pv 7)))))), ?_⟩
    have l1 := num_len ok.l0 ok.l1
    have l2 := num_len (show 0 ≤ t.takes by have := ok.t0; omega) ok.t1
    have lw : ∀ x ∈ tripW t, x.length ≤ 20 := by
      intro x hx
      have a1 := ok.n.2.1
      have a2 := ok.s.2.1
      have a3 := ok.g.2.1
      unfold tripW at hx
      split at hx
      · simp only [List.mem_cons, List.not_mem_nil, or_false] at hx
        rcases hx with rfl | rfl | rfl | rfl | rfl | rfl
        · decide
        all_goals omega
      · simp only [List.mem_cons, List.not_mem_nil, or_false] at hx
        rcases hx with rfl | rfl | rfl | rfl | rfl
        · decide
        all_goals omega
    have sm := sum_le lw
    refine ⟨_, rfl, q, _, rfl, SqT.of hq, rfl, _, _, rfl, _, _, rfl, _, _, rfl, _, _, rfl, _, _, rfl, _, _, rfl, rfl, ?_⟩
    refine ⟨_, rfl, t.run, rfl, ?_⟩
    cases hb : t.run with
    | true =>
      have ew : tripW t = (["run", t.name, t.start, num t.leaves, num t.takes] : List Str) ++ [t.goal] := by unfold tripW; rw [hb]; rfl
      refine iT ⟨_, rfl, _, rfl, _, rfl, t.leaves, rfl, log_ok ok.l0 ok.l1, _, rfl, t.takes, rfl, log_ok (by have := ok.t0; omega) ok.t1, (show (5 : Nat) ≤ sizeLine by decide), fun wl hwl => ?_⟩
      have s1 := same_new (o := .lst ((["run", t.name, t.start, num t.leaves, num t.takes] : List Str).map V.str)) (same_rfl (H := H)) hwl
      refine ⟨⟨_, rfl⟩, _, rfl, true, rfl, iT ⟨_, rfl, _, rfl, (show (1 : Nat) ≤ sizeLine by decide), fun gl hgl => ?_⟩⟩
      refine ⟨wl, gl, (["run", t.name, t.start, num t.leaves, num t.takes] : List Str).map V.str, [V.str t.goal], rfl, rfl, by rw [upd_ne (ne_of_none upd_same hgl)]; exact upd_same, upd_same, (show (6 : Nat) ≤ sizeLine by decide), fun cl hcl => ?_⟩
      refine ⟨_, cl, tripW t, rfl, rfl, .inl (SqL.of (by rw [upd_same, ew, List.map_append]; rfl)), by rw [show (" " : Str).length = 1 from rfl]; rw [ew] at sm ⊢; simp at sm ⊢; omega, k _ (same_new (same_new s1 hgl) hcl)⟩
    | false =>
      have ew : tripW t = (["stay", t.name, t.start, num t.leaves, num t.takes] : List Str) := by unfold tripW; rw [hb]; rfl
      refine iF ⟨_, rfl, _, rfl, _, rfl, t.leaves, rfl, log_ok ok.l0 ok.l1, _, rfl, t.takes, rfl, log_ok (by have := ok.t0; omega) ok.t1, (show (5 : Nat) ≤ sizeLine by decide), fun wl hwl => ?_⟩
      have s1 := same_new (o := .lst ((["stay", t.name, t.start, num t.leaves, num t.takes] : List Str).map V.str)) (same_rfl (H := H)) hwl
      refine ⟨⟨_, rfl⟩, _, rfl, false, rfl, iF ⟨_, rfl, ?_⟩⟩
      refine ⟨_, wl, tripW t, rfl, rfl, .inl (SqL.of (by rw [upd_same, ew]; rfl)), by rw [show (" " : Str).length = 1 from rfl]; rw [ew] at sm ⊢; simp at sm ⊢; omega, k _ s1⟩
end
end N1
set_option maxHeartbeats 4000000
/-! the turns of next trips -/
namespace N1
open PySem PySem.Spec PyProof.Rows L2 TL
def kB (S : List Str) : List (Key × V) := S.map fun x => ((Sum.inr x : Key), V.bl true)
theorem kB_val (S : List Str) (x : Str) : (valV (kB S) (Sum.inr x)).isSome = decide (x ∈ S) := by
  rw [← valV_any]
  unfold kB
  rw [List.any_map]
  induction S with
  | nil => rfl
  | cons y S ih =>
    rw [List.any_cons, ih]
    by_cases e : y = x
    · subst e; simp
    · have e2 : ¬ x = y := fun z => e z.symm
      simp [e, e2]
theorem kB_put {S : List Str} {x : Str} (h : x ∉ S) : putK (kB S) (Sum.inr x) (.bl true) = kB (S ++ [x]) := by
  rw [putK_new]
  · unfold kB; rw [List.map_append]; rfl
  · cases hv : valV (kB S) (Sum.inr x) with
    | none => rfl
    | some u =>
      have := kB_val S x
      rw [hv, decide_eq_false h] at this
      cases this
def lenK (H : Hp) (d : Addr) : Nat := match H d with
  | some (.dK kvs) => kvs.length
  | _ => 0
theorem kS_get {fs : List (Str × Str)} {p : Str × Str} (hn : (fs.map (·.1)).Nodup) (h : p ∈ fs) : valV (kS fs) (Sum.inr p.1) = some (.str p.2) := by
  obtain ⟨j, hj, e⟩ := List.getElem_of_mem h
  refine valV_of_get (j := j) (by rw [kS_keys]; exact inr_nodup hn) ?_
  unfold kS
  rw [List.getElem?_map, List.getElem?_eq_getElem hj, e]
  rfl
theorem mem_key {fs : List (Str × Str)} {x : Str} (h : x ∈ fs.map (·.1)) : ∃ p ∈ fs, p.1 = x := by
  obtain ⟨p, hp, e⟩ := List.mem_map.mp h
  exact ⟨p, hp, e⟩
def spTurns : Sp := fun vs H Q _ => ∃ (f : Addr) (fs : List (Str × Str)), vs = [.ref f] ∧ H f = some (.dK (kS fs)) ∧ (fs.map (·.1)).Nodup ∧ (∀ p ∈ fs, p.2 ∈ fs.map (·.1)) ∧ fs.length ≤ 60 ∧ ∀ H' p, Same H H' → H p = none → Q (.ref p) H'
section
variable {P : Program} {w : World} {K : PySem.W.Frag} {mg : Str → Option Value} {base : Heap}
theorem ok_turns_of (T : FX P K mg) : FnR P w K mg base CX0 1 (ga K "turns_of") spTurns := by
  refine fnr T.f_turns_of sc_turns_of (fun _ _ _ _ _ _ us hl => match us, hl with | [_], _ => rfl) (fun vs H Q E h => ?_) (fun cdv A outer s H vs Q E hr h => ?_)
  · obtain ⟨f, fs, rfl, _⟩ := h
    rfl
  · obtain ⟨f, fs, rfl, hf, hnd, hcl, l60, k⟩ := h
    have nd := sc_turns_of.nd
    have hu := hu_of hr
    refine ⟨_, pss_cons (ps_par (i := 1) (j := 2) rfl nd rfl rfl (by decide) rfl rfl (pa_cons (pe_lst pa_nil) (pa_cons pe_dnewK pa_nil)) rfl)
      (pss_cons (ps_for PassesOwn.never rfl (pi_list (cb "sorted" T cr_sortedS (pa_cons (pe_lock (pe_lc (own := [("one", 3)]) (g := gName 3) (tt := tYes) (te := tCB rStr1 (tCons (tVar 3) tNil)) rfl nd (pi_keys (pv 0)) (blkOk_by (N := ["follows", "found", "seen", "one", "name", "turn", "here"]) (sc := defScope d_turns_of) (by decide +kernel))
          (fun _ _ _ _ _ => pg_name (i := 3) nd rfl (Or.inl rfl)) (fun _ _ _ _ _ => pts_nil) (fun _ _ _ _ _ => ct "str" T SkE.call_str_str (pa_cons (pv 3) pa_nil)))) pa_nil))) (pg_name (i := 4) nd rfl (Or.inl rfl))
        (pss_cons (ps_par (i := 5) (j := 6) rfl nd rfl rfl (by decide) rfl rfl (pa_cons (pe_lst pa_nil) (pa_cons (pv 4) pa_nil)) rfl)
        (pss_cons (ps_while PassesOwn.never (pt_cmp (pc_dnotin hu (pv 6) (pv 2)))
          (pss_cons (ps_dput hu (pv 2) (pv 6) pe_bl rfl)
          (pss_cons (ps_expr (pe_bm PySem.F.plainAttrs_list PySem.F.slot_list_append PySem.F.type_list_append mt_append (pv 5) (pa_cons (pv 6) pa_nil)))
          (pss_one (ps_set (i := 6) nd rfl (Or.inl rfl) (pe_dget hu (pv 0) (pv 6) (fun _ _ => rfl)))))))
        (pss_one (ps_if (pt_cmpR (op_neNil (Nat.lt_of_succ_lt hu)) (pv 5) (pe_lst pa_nil) (nomark _))
          (pss_one (ps_expr (pe_bm PySem.F.plainAttrs_list PySem.F.slot_list_append PySem.F.type_list_append mt_append (pv 1) (pa_cons (ct "tuple" T call_tuple_of (pa_cons (pv 5) pa_nil)) pa_nil)))) pss_nil)))))
      (pss_one (ps_ret (ct "tuple" T call_tuple_of (pa_cons (pv 1) pa_nil))))), ?_⟩
    refine ⟨by decide, fun fo hfo sd hsd => ⟨_, _, rfl, ?_⟩⟩
    have nfs : fo ≠ sd := fun z => by rw [← z, upd_same] at hsd; cases hsd
    have s0 : Same H (upd (upd H fo (.lst [])) sd (.dK [])) := same_new (same_new same_rfl hfo) hsd
    have hfo0 : (upd (upd H fo (.lst [])) sd (.dK [])) fo = some (.lst []) := by rw [upd_ne nfs]; exact upd_same
    have hsd0 : (upd (upd H fo (.lst [])) sd (.dK [])) sd = some (.dK []) := upd_same
    have hsdH : H sd = none := by rw [upd_ne nfs.symm] at hsd; exact hsd
    generalize upd (upd H fo (.lst [])) sd (.dK []) = H0 at s0 hfo0 hsd0
    have hf0 := s0 _ _ hf
    have lk : (kS fs).length = fs.length := by unfold kS; rw [List.length_map]
    refine ⟨f, _, hf0, trivial, fun od => ⟨_, rfl, f, od, rfl, .inl ⟨_, upd_same, fun D hD => lc_D (fun kv => kV kv.1) upd_same (by omega) hD ?_ ?_⟩⟩⟩
    · rintro ⟨ky, v⟩ hy H4 Qk s4 hk
      obtain ⟨p, hp, e⟩ := List.mem_map.mp hy
      cases e
      exact ⟨rfl, _, rfl, _, rfl, hk _ same_rfl⟩
    · intro H3 s3 hL3
      rw [kS_kV] at hL3
      have nDf : D ≠ f := fun z => by rw [z, upd_same] at hD; cases hD
      have su := unlock_same s3 hf0
      refine ⟨s3 _ _ upd_same, D, fs.map (·.1), rfl, SqL.of (by rw [upd_ne nDf]; exact hL3), by rw [List.length_map]; omega, fun ys q5 hperm hsort hq5b => ?_⟩
      obtain ⟨rfl, s5, hq5⟩ := srt_fin su hperm hsort hq5b
      have hq6 : (upd (upd H3 f (.dK (kS fs))) q5 (.lst ((sn (fs.map (·.1))).map V.str))) q5 = some (.lst ((sn (fs.map (·.1))).map V.str)) := upd_same
      generalize upd (upd H3 f (.dK (kS fs))) q5 (.lst ((sn (fs.map (·.1))).map V.str)) = H5 at s5 hq6 ⊢
      have s05 := same_tr s0 s5
      refine ⟨q5, rfl, ⟨_, SqL.of hq6⟩, ?_⟩
      have n5o : q5 ≠ fo := fun z => by rw [z, hfo0] at hq5; cases hq5
      have n5s : q5 ≠ sd := fun z => by rw [z, hsd0] at hq5; cases hq5
      refine for_it (walk_list (xs := (sn (fs.map (·.1))).map V.str)) (fun i σ H' => ∃ (S : List Str) (os : List V), Same H H' ∧ H' q5 = some (.lst ((sn (fs.map (·.1))).map V.str)) ∧ H' fo = some (.lst os) ∧ os.length ≤ i ∧ H' sd = some (.dK (kB S)) ∧ S.Nodup ∧ S ⊆ fs.map (·.1) ∧ ∃ v3 v4 v5 v6, σ = [some (.ref f), some (.ref fo), some (.ref sd), v3, v4, v5, v6])
        ⟨[], [], s05, hq6, s5 _ _ hfo0, Nat.zero_le _, s5 _ _ hsd0, .nil, by simp, _, _, _, _, rfl⟩ (fun i σ H' _ h => SqL.of (let ⟨_, _, _, h, _⟩ := h; h)) ?_ ?_
      · rintro i v σ _ H6 hi ⟨S, os, s6, h6q, h6o, lo, h6s, ndS, sbS, v3, v4, v5, v6, rfl⟩ ⟨rfl, hx⟩
        rw [List.getElem?_map] at hx
        obtain ⟨x, hx2, rfl⟩ : ∃ x, (sn (fs.map (·.1)))[i]? = some x ∧ v = V.str x := by
          cases e : (sn (fs.map (·.1)))[i]? with
          | none => rw [e] at hx; cases hx
          | some z => rw [e] at hx; exact ⟨z, rfl, (Option.some.inj hx).symm⟩
        have hxk : x ∈ fs.map (·.1) := mem_sn.mp (List.mem_of_getElem? hx2)
        rw [List.length_map, sn_length, List.length_map] at hi
        refine ⟨by decide, fun tu htu => ⟨_, rfl, _, _, rfl, ?_⟩⟩
        have s7 : Same H6 (upd H6 tu (.lst [])) := same_new same_rfl htu
        have ntq : tu ≠ q5 := fun z => by rw [z, h6q] at htu; cases htu
        have nto : tu ≠ fo := fun z => by rw [z, h6o] at htu; cases htu
        have nts : tu ≠ sd := fun z => by rw [z, h6s] at htu; cases htu
        refine while_by (fun σ H' => ∃ (S : List Str) (ts : List V) (y : Str), Same H H' ∧ H' q5 = some (.lst ((sn (fs.map (·.1))).map V.str)) ∧ H' fo = some (.lst os) ∧ H' sd = some (.dK (kB S)) ∧ H' tu = some (.lst ts) ∧ ts.length ≤ S.length ∧ S.Nodup ∧ S ⊆ fs.map (·.1) ∧ y ∈ fs.map (·.1) ∧ ∃ v3 v4, σ = [some (.ref f), some (.ref fo), some (.ref sd), v3, v4, some (.ref tu), some (.str y)]) (fun _ H' => fs.length - lenK H' sd)
          ⟨S, [], x, same_tr s6 s7, s7 _ _ h6q, s7 _ _ h6o, s7 _ _ h6s, upd_same, Nat.zero_le _, ndS, sbS, hxk, _, _, rfl⟩ ?_ ?_
        · rintro σ H8 ⟨S8, ts8, y, s8, h8q, h8o, h8s, h8t, l8, nd8, sb8, hy, w3, w4, rfl⟩
          have lS : S8.length ≤ fs.length := by have := List.Nodup.length_le_of_subset nd8 sb8; rw [List.length_map] at this; exact this
          refine ⟨_, rfl, _, rfl, sd, _, rfl, .inl ⟨kB S8, Sum.inr y, .inl h8s, rfl, rfl⟩, _, rfl, ?_⟩
          rw [kB_val]
          by_cases hm : y ∈ S8
          · rw [decide_eq_true hm]
            refine iF ⟨_, rfl, by decide, fun l9 hl9 => ⟨tu, l9, ts8, rfl, rfl, SqL.of (by rw [upd_ne (ne_of_none h8t hl9)]; exact h8t), SqL.of upd_same, _, rfl, ?_⟩⟩
            have s9 : Same H8 (upd H8 l9 (.lst [])) := same_new same_rfl hl9
            generalize upd H8 l9 (.lst []) = H9 at s9
            have h9o := s9 _ _ h8o
            cases ts8 with
            | nil => exact iF ⟨S8, os, same_tr s8 s9, s9 _ _ h8q, h9o, by omega, s9 _ _ h8s, nd8, sb8, _, _, _, _, rfl⟩
            | cons t0 ts0 =>
              refine iT ⟨_, rfl, .inl ⟨rfl, _, SqL.of h9o⟩, _, rfl, tu, _, rfl, .inl ⟨SqL.of (s9 _ _ h8t), fun q10 hq10 => ⟨fo, os, _, rfl, rfl, by rw [upd_ne (ne_of_none h9o hq10)]; exact h9o, by rw [sizeLine_eq]; omega, ?_⟩⟩⟩
              have s10 : Same H9 (upd H9 q10 (.tup (t0 :: ts0))) := same_new same_rfl hq10
              refine ⟨S8, os ++ [.ref q10], same_at (same_tr s8 (same_tr s9 s10)) hfo, ?_, upd_same, by simp; omega, ?_, nd8, sb8, _, _, _, _, rfl⟩
              · rw [upd_ne n5o]; exact s10 _ _ (s9 _ _ h8q)
              · rw [upd_ne nfs.symm]; exact s10 _ _ (s9 _ _ h8s)
          · rw [decide_eq_false hm]
            have lS2 : (S8 ++ [y]).length ≤ fs.length := by
              have := List.Nodup.length_le_of_subset (nd_snoc nd8 hm) (l₂ := fs.map (·.1)) (by
                intro z hz
                rcases List.mem_append.mp hz with z' | z'
                · exact sb8 z'
                · rw [List.mem_singleton.mp z']; exact hy)
              rw [List.length_map] at this
              exact this
            have lkB : (kB S8).length = S8.length := by unfold kB; rw [List.length_map]
            rw [List.length_append] at lS2
            simp only [List.length_cons, List.length_nil] at lS2
            refine iT ⟨_, rfl, _, rfl, sd, _, rfl, DPut.k (k := Sum.inr y) h8s (by rw [lkB, sizeLine_eq]; omega), ?_⟩
            rw [kB_put hm]
            have h9t : (upd H8 sd (.dK (kB (S8 ++ [y])))) tu = some (.lst ts8) := by rw [upd_ne nts]; exact h8t
            refine ⟨_, rfl, .inl ⟨rfl, _, SqL.of h9t⟩, _, rfl, tu, ts8, _, rfl, rfl, h9t, by rw [sizeLine_eq]; omega, ?_⟩
            obtain ⟨p, hp, ep⟩ := mem_key hy
            have s9 : Same H (upd (upd H8 sd (.dK (kB (S8 ++ [y])))) tu (.lst (ts8 ++ [.str y]))) := same_at (same_at s8 hsdH) (none_of s6 htu)
            refine ⟨_, rfl, _, rfl, f, _, rfl, .inl ⟨kS fs, Sum.inr y, .inl (s9 _ _ hf), rfl, by rw [← ep]; exact (kS_get hnd hp).symm⟩, ?_⟩
            refine ⟨⟨S8 ++ [y], ts8 ++ [.str y], p.2, s9, ?_, ?_, ?_, upd_same, by simp; omega, nd_snoc nd8 hm, ?_, hcl p hp, _, _, rfl⟩, ?_⟩
            · rw [upd_ne ntq.symm, upd_ne n5s]; exact h8q
            · rw [upd_ne nto.symm, upd_ne nfs]; exact h8o
            · rw [upd_ne nts.symm]; exact upd_same
            · intro z hz
              rcases List.mem_append.mp hz with z' | z'
              · exact sb8 z'
              · rw [List.mem_singleton.mp z']; exact hy
            · unfold lenK
              rw [upd_ne nts.symm, upd_same, h8s]
              dsimp only
              unfold kB
              rw [List.length_map, List.length_map, List.length_append]
              simp only [List.length_cons, List.length_nil]
              omega
        · rintro σ H' Q Q' hQ ⟨v, hv, w, hw, a, o, e1, e2, b, eb, q⟩
          exact ⟨v, hv, w, hw, a, o, e1, e2, b, eb, hQ _ _ q⟩
      · rintro σ H6 ⟨S, os, s6, h6q, h6o, lo, h6s, ndS, sbS, v3, v4, v5, v6, rfl⟩
        exact ⟨_, rfl, fo, os, rfl, .inl ⟨SqL.of h6o, fun q hq => k _ q (same_new s6 hq) (none_of s6 hq)⟩⟩
end
end N1
set_option maxHeartbeats 4000000
/-! plans made -/
namespace N1
open PySem PySem.Spec PyProof.Rows L2 TL
abbrev cPln (K : PySem.W.Frag) := ga K "Plan"
def plnF (t p d u : Addr) : List (Str × V) := [("table", .ref t), ("pauses", .ref p), ("own_follows", .ref d), ("own_turns", .ref u)]
def nxt (fs : List (Str × Str)) (x : Str) : Str := match valV (kS fs) (Sum.inr x) with
  | some (.str y) => y
  | _ => Str.empty
def foN (us : List TR) (fs : List (Str × Str)) : List (Str × Str) := (names us).map fun x => (x, nxt fs x)
structure FolOk (us : List TR) (fs : List (Str × Str)) : Prop where
  p1 : (fs.map (·.1)).Perm (names us)
  p2 : (fs.map (·.2)).Perm (names us)
  go : ∀ p ∈ fs, ∀ t u, lk us p.1 = some t → lk us p.2 = some u → u.start = t.goal
/-- what a table's trips are, told of plans -/
structure UsOk (us : List TR) : Prop where
  nd : (names us).Nodup
  sn : sn (names us) = names us
  ok : ∀ t ∈ us, t.Ok
  l40 : us.length ≤ 40
theorem nxt_of {fs : List (Str × Str)} {p : Str × Str} (hn : (fs.map (·.1)).Nodup) (h : p ∈ fs) : nxt fs p.1 = p.2 := by
  unfold nxt
  rw [kS_get hn h]
theorem foN_keys (us : List TR) (fs : List (Str × Str)) : (foN us fs).map (·.1) = names us := by
  unfold foN
  rw [List.map_map]
  conv => rhs; rw [← List.map_id (names us)]
  rfl
theorem foN_perm {us : List TR} {fs : List (Str × Str)} (hu : (names us).Nodup) (p : (fs.map (·.1)).Perm (names us)) : fs.Perm (foN us fs) := by
  have hn : (fs.map (·.1)).Nodup := p.nodup_iff.mpr hu
  have e : fs = (fs.map (·.1)).map fun x => (x, nxt fs x) := by
    rw [List.map_map]
    conv => lhs; rw [← List.map_id fs]
    refine List.map_congr_left fun q hq => ?_
    show q = (q.1, nxt fs q.1)
    rw [nxt_of hn hq]
  conv => lhs; rw [e]
  exact p.map _
theorem FolOk.foN {us : List TR} {fs : List (Str × Str)} (hu : (names us).Nodup) (h : FolOk us fs) : FolOk us (foN us fs) := by
  have p := foN_perm hu h.p1
  refine ⟨by rw [foN_keys], (p.map _).symm.trans h.p2, fun q hq => h.go q (p.mem_iff.mpr hq)⟩
def PlanAt (K : PySem.W.Frag) (H : Hp) (a : Addr) (n : Int) (us : List TR) (ps : List (Str × Int)) (fs : List (Str × Str)) : Prop := ∃ dx t p d u, H a = some (.ins (cPln K) dx (plnF t p d u)) ∧ TableAt K H t n us ∧ PausesAt K H p ps ∧ H d = some (.dK (kS fs))
theorem PlanAt.up {K : PySem.W.Frag} {H H' : Hp} {a : Addr} {n : Int} {us : List TR} {ps : List (Str × Int)} {fs : List (Str × Str)} (s : Same H H') (h : PlanAt K H a n us ps fs) : PlanAt K H' a n us ps fs := by
  obtain ⟨dx, t, p, d, u, h1, h2, h3, h4⟩ := h
  exact ⟨dx, t, p, d, u, s _ _ h1, h2.up s, h3.up s, s _ _ h4⟩
theorem kp_up1 {H H' : Hp} {p : Addr} {o : HO} (k : Kp [p] H H') : Kp [p] H (upd H' p o) := fun a v ha e => by
  rw [upd_ne (by simpa using ha)]
  exact k a v ha e
def spPlanI (K : PySem.W.Frag) : Sp := fun vs H Q _ => ∃ (G : Hp) (x dx t p f : Addr) (n : Int) (us : List TR) (ps : List (Str × Int)) (fs : List (Str × Str)), vs = [.ref x, .ref t, .ref p, .ref f] ∧ Same G H ∧ G x = none ∧ H x = some (.ins (cPln K) dx []) ∧ TableAt K G t n us ∧ PausesAt K G p ps ∧ G f = some (.dK (kS fs)) ∧ FolOk us fs ∧ UsOk us ∧
  ∀ H' d u, Same G H' → Kp [x] H H' → H' x = some (.ins (cPln K) dx (plnF t p d u)) → H' d = some (.dK (kS (foN us fs))) → Q .non H'
def spFollows (K : PySem.W.Frag) : Sp := fun vs H Q _ => ∃ (a : Addr) (n : Int) (us : List TR) (ps : List (Str × Int)) (fs : List (Str × Str)), vs = [.ref a] ∧ PlanAt K H a n us ps fs ∧ (fs.map (·.1)).Nodup ∧ fs.length ≤ 60 ∧ ∀ H' q, Same H H' → H q = none → H' q = some (.dK (kS fs)) → Q (.ref q) H'
section
variable {P : Program} {w : World} {K : PySem.W.Frag} {mg : Str → Option Value} {base : Heap}
theorem ok_PlanInit (T : FX P K mg) : FnR P w K mg base CX0 7 (ini K "Plan") (spPlanI K) := by
  refine fnr T.f_PlanInit sc_PlanInit (fun _ _ _ _ _ _ us hl => match us, hl with | [_, _, _, _], _ => rfl) (fun vs H Q E h => ?_) (fun cdv A outer s H vs Q E hr h => ?_)
  · obtain ⟨G, x, dx, t, p, f, n, us, ps, fs, rfl, _⟩ := h
    rfl
  · obtain ⟨G, x, dx, t, p, f, n, us, ps, fs, rfl, gs, hGx, hx, tab, pau, hf, fo, uo, k⟩ := h
    obtain ⟨rs, tabr⟩ := tab.rows
    obtain ⟨dt, d, dn, dp, dr, h1, h2, h3, h4, h5⟩ := id tabr
    have cT := T.cls "Table" (by decide +kernel)
    have cP := T.cls "Plan" (by decide +kernel)
    have nNm := T.noat ("Table", "names") (by decide +kernel)
    have q1 := T.noat ("Plan", "table") (by decide +kernel)
    have q2 := T.noat ("Plan", "pauses") (by decide +kernel)
    have q3 := T.noat ("Plan", "own_follows") (by decide +kernel)
    have q4 := T.noat ("Plan", "own_turns") (by decide +kernel)
    have nd := sc_PlanInit.nd
    have hu := hu_of hr
    refine ⟨_, pss_cons (ps_expr (cl "need_table" T (ok_need_table T) (hr.mono (by decide)) (pa_cons (pv 1) pa_nil)))
      (pss_cons (ps_fld (pv 0) (pv 1) rfl)
      (pss_cons (ps_fld (pv 0) (cl "needed_pauses" T (ok_needed_pauses T) hr (pa_cons (pv 2) pa_nil)) rfl)
      (pss_cons (ps_if (pt_not (pt_val (cl "is_order" T (ok_is_order T) (hr.mono (by decide)) (pa_cons (pv 1) (pa_cons (pv 3) pa_nil))))) pss_never pss_nil)
      (pss_cons (ps_for PassesOwn.never rfl (pi_tup (pe_fld (pv 1) rfl)) (pg_name (i := 4) nd rfl (Or.inl rfl))
        (pss_one (ps_if (pt_cmpR op_ne (pe_fld (pe_ixO (T.meth ("Table", "__getitem__") (by decide +kernel)) T.nsq.1 (ok_TableGetitem T) (hr.mono (by decide)) pass0 (pv 1) (pe_dget hu (pv 3) (pv 4) (fun _ _ => rfl))) rfl)
          (pe_fld (pe_ixO (T.meth ("Table", "__getitem__") (by decide +kernel)) T.nsq.1 (ok_TableGetitem T) (hr.mono (by decide)) pass0 (pv 1) (pv 4)) rfl) (nomark _)) pss_never pss_nil)))
      (pss_cons (ps_fld (pv 0) (pe_dc (own := [("name", 4)]) (g := gName 4) (tt := tYes) (tk := tVar 4) (tv := tDGet (tVar 3) (tVar 4)) rfl nd
        (pi_tup (pe_fld (pv 1) rfl)) (blkOk_by (N := ["self", "table", "pauses", "follows", "name"]) (sc := defScope m_PlanInit) (by decide +kernel)) (fun _ _ _ _ _ => pg_name (i := 4) nd rfl (Or.inl rfl)) (fun _ _ _ _ _ => pts_nil) (fun _ _ _ _ _ => pv 4)
        (fun _ _ _ _ _ => pe_dget hu (pv 3) (pv 4) (fun _ _ => rfl))) rfl)
      (pss_one (ps_fld (pv 0) (cl "turns_of" T (ok_turns_of T) (hr.mono (by decide)) (pa_cons (pe_fld (pv 0) rfl) pa_nil)) rfl))))))), ?_⟩
    have hndf : (fs.map (·.1)).Nodup := fo.p1.nodup_iff.mpr uo.nd
    have lnm : (names us).length = us.length := by unfold names; rw [List.length_map]
    refine ⟨_, rfl, t, n, us, rfl, tab.up gs, ?_⟩
    refine ⟨_, rfl, _, rfl, x, cPln K, dx, [], rfl, hx, cP, q1, by decide, ?_⟩
    have g1 : Same G (upd H x (.ins (cPln K) dx (putF "table" (.ref t) []))) := same_at gs hGx
    have k1 : Kp [x] H (upd H x (.ins (cPln K) dx (putF "table" (.ref t) []))) := kp_up1 (fun _ _ _ e => e)
    have x1 : (upd H x (.ins (cPln K) dx (putF "table" (.ref t) []))) x = some (.ins (cPln K) dx [("table", .ref t)]) := by rw [upd_same]; rfl
    generalize upd H x (.ins (cPln K) dx (putF "table" (.ref t) [])) = H1 at g1 k1 x1
    refine ⟨_, rfl, .inl ⟨p, ps, rfl, pau.up g1, ?_⟩⟩
    refine ⟨_, rfl, x, cPln K, dx, _, rfl, x1, cP, q2, (show (1 : Nat) < 1000 by decide), ?_⟩
    have g2 : Same G (upd H1 x (.ins (cPln K) dx (putF "pauses" (.ref p) [("table", .ref t)]))) := same_at g1 hGx
    have k2 : Kp [x] H (upd H1 x (.ins (cPln K) dx (putF "pauses" (.ref p) [("table", .ref t)]))) := kp_up1 k1
    have x2 : (upd H1 x (.ins (cPln K) dx (putF "pauses" (.ref p) [("table", .ref t)]))) x = some (.ins (cPln K) dx [("table", .ref t), ("pauses", .ref p)]) := by rw [upd_same]; rfl
    generalize upd H1 x (.ins (cPln K) dx (putF "pauses" (.ref p) [("table", .ref t)])) = H2 at g2 k2 x2
    refine ⟨_, rfl, _, rfl, t, f, n, us, fs, rfl, tab.up g2, g2 _ _ hf, fo.p1, fo.p2, by have := uo.l40; omega, uo.ok, uo.sn, fun H3 s3 => ⟨true, rfl, iF ?_⟩⟩
    have g3 := same_tr g2 s3
    have x3 := s3 _ _ x2
    have k3 : Kp [x] H H3 := fun b v hb e => s3 _ _ (k2 b v hb e)
    refine ⟨_, rfl, t, _, dt, _, _, rfl, g3 _ _ h1, cT, nNm, rfl, dn, rfl, ⟨_, (h3.up g3).seq⟩, ?_⟩
    refine for_it (walk_tup (K := K) (a := dn) (xs := (names us).map V.str)) (fun i σ H' => Same H3 H' ∧ ∃ v4, σ = [some (.ref x), some (.ref t), some (.ref p), some (.ref f), v4]) ⟨same_rfl, _, rfl⟩ (fun i σ H' _ h => (h3.up (same_tr g3 h.1)).seq) ?_ ?_
    · rintro i v σ _ H4 hi ⟨s4, v4, rfl⟩ ⟨rfl, hx4⟩
      rw [List.getElem?_map] at hx4
      obtain ⟨nm, hnm, rfl⟩ : ∃ nm, (names us)[i]? = some nm ∧ v = V.str nm := by
        cases e : (names us)[i]? with
        | none => rw [e] at hx4; cases hx4
        | some z => rw [e] at hx4; exact ⟨z, rfl, (Option.some.inj hx4).symm⟩
      have hm := List.mem_of_getElem? hnm
      obtain ⟨pr, hpr, rfl⟩ := mem_key (fo.p1.mem_iff.mpr hm)
      have hm2 : pr.2 ∈ names us := fo.p2.mem_iff.mp (List.mem_map.mpr ⟨pr, hpr, rfl⟩)
      have g4 := same_tr g3 s4
      obtain ⟨j1, a1, t1, e1, l1, r1, u1⟩ := adr_lk h5.1 hm
      obtain ⟨j2, a2, t2, e2, l2, r2, u2⟩ := adr_lk h5.1 hm2
      obtain ⟨dz1, z1⟩ := h5.2 j1 a1 t1 r1 u1
      obtain ⟨dz2, z2⟩ := h5.2 j2 a2 t2 r2 u2
      have c1 := trT T t1
      have c2 := trT T t2
      refine ⟨_, rfl, _, rfl, _, rfl, f, _, rfl, .inl ⟨kS fs, Sum.inr pr.1, .inl (g4 _ _ hf), rfl, (kS_get hndf hpr).symm⟩, ?_⟩
      refine ⟨t, rfl, ⟨_, _, g4 _ _ h1⟩, G, t, pr.2, n, us, rs, rfl, g4, tabr, uo.nd, hm2, fun b' eb => ?_⟩
      rw [e2] at eb
      cases eb
      refine ⟨a2, _, dz2, _, _, rfl, g4 _ _ z2, c2.c, c2.n2, lk_start t2, ?_⟩
      refine ⟨_, rfl, _, rfl, t, rfl, ⟨_, _, g4 _ _ h1⟩, G, t, pr.1, n, us, rs, rfl, g4, tabr, uo.nd, hm, fun b' eb => ?_⟩
      rw [e1] at eb
      cases eb
      refine ⟨a1, _, dz1, _, _, rfl, g4 _ _ z1, c1.c, c1.n5, lk_goal t1, rfl, _, rfl, ?_⟩
      rw [show (!decide (V.str t2.start = V.str t1.goal)) = false from by rw [fo.go pr hpr t1 t2 l1 l2]; simp]
      exact iF ⟨s4, _, rfl⟩
    · rintro σ H4 ⟨s4, v4, rfl⟩
      have g4 := same_tr g3 s4
      have x4 := s4 _ _ x3
      have k4 : Kp [x] H H4 := fun b v hb e => s4 _ _ (k3 b v hb e)
      refine ⟨_, rfl, t, _, dt, _, _, rfl, g4 _ _ h1, cT, nNm, rfl, dn, rfl, ⟨_, (h3.up g4).seq⟩, fun D hD => dc_f walk_tup (fun i => ((foN us fs)[i]?).map fun p => ((Sum.inr p.1 : Key), V.str p.2)) hD (by rw [List.length_map, lnm]; have := uo.l40; omega) ?_ (fun H' s => (h3.up (same_tr g4 s)).seq) ?_ ?_⟩
      · have lfo : ((names us).map V.str).length = (foN us fs).length := by unfold foN; rw [List.length_map, List.length_map]
        rw [lfo, range_map_]
        have : (foN us fs).map (fun p => ((Sum.inr p.1 : Key), V.str p.2)) = kS (foN us fs) := rfl
        rw [this, kS_keys, foN_keys]
        exact inr_nodup uo.nd
      · rintro i v Ha Hb R k0 hi sa ⟨rfl, hxx⟩ r2 r3
        rw [List.getElem?_map] at hxx
        obtain ⟨nm, hnm, rfl⟩ : ∃ nm, (names us)[i]? = some nm ∧ v = V.str nm := by
          cases e : (names us)[i]? with
          | none => rw [e] at hxx; cases hxx
          | some z => rw [e] at hxx; exact ⟨z, rfl, (Option.some.inj hxx).symm⟩
        have hm := List.mem_of_getElem? hnm
        obtain ⟨pr, hpr, rfl⟩ := mem_key (fo.p1.mem_iff.mpr hm)
        have g5 := same_tr g4 sa
        refine ⟨rfl, _, rfl, _, rfl, _, rfl, f, _, rfl, .inl ⟨kS fs, Sum.inr pr.1, .inl (g5 _ _ hf), rfl, (kS_get hndf hpr).symm⟩, ?_⟩
        refine r2 (Sum.inr pr.1) (.str pr.2) _ ?_ same_rfl
        unfold foN
        rw [List.getElem?_map, hnm]
        show some (Sum.inr pr.1, V.str (nxt fs pr.1)) = _
        rw [nxt_of hndf hpr]
      · intro H5 s5 hD5
        have lfo : ((names us).map V.str).length = (foN us fs).length := by unfold foN; rw [List.length_map, List.length_map]
        rw [lfo, range_map_] at hD5
        replace hD5 : H5 D = some (.dK (kS (foN us fs))) := hD5
        have x5 := s5 _ _ x4
        refine ⟨_, rfl, x, cPln K, dx, _, rfl, x5, cP, q3, (show (2 : Nat) < 1000 by decide), ?_⟩
        have g5 := same_tr g4 s5
        have k5 : Kp [x] H H5 := fun b v hb e => s5 _ _ (k4 b v hb e)
        have nDx : D ≠ x := fun z => by rw [z, x5] at hD5; cases hD5
        have g6 : Same G (upd H5 x (.ins (cPln K) dx (putF "own_follows" (.ref D) [("table", .ref t), ("pauses", .ref p)]))) := same_at g5 hGx
        have k6 : Kp [x] H (upd H5 x (.ins (cPln K) dx (putF "own_follows" (.ref D) [("table", .ref t), ("pauses", .ref p)]))) := kp_up1 k5
        have x6 : (upd H5 x (.ins (cPln K) dx (putF "own_follows" (.ref D) [("table", .ref t), ("pauses", .ref p)]))) x = some (.ins (cPln K) dx [("table", .ref t), ("pauses", .ref p), ("own_follows", .ref D)]) := by rw [upd_same]; rfl
        have d6 : (upd H5 x (.ins (cPln K) dx (putF "own_follows" (.ref D) [("table", .ref t), ("pauses", .ref p)]))) D = some (.dK (kS (foN us fs))) := by rw [upd_ne nDx]; exact hD5
        generalize upd H5 x (.ins (cPln K) dx (putF "own_follows" (.ref D) [("table", .ref t), ("pauses", .ref p)])) = H6 at g6 k6 x6 d6
        have fo2 := fo.foN uo.nd
        have lfo2 : (foN us fs).length = us.length := by unfold foN; rw [List.length_map, lnm]
        refine ⟨_, rfl, x, _, dx, _, _, rfl, x6, cP, q3, rfl, D, foN us fs, rfl, d6, by rw [foN_keys]; exact uo.nd, fun pr hpr => ?_, by have := uo.l40; omega, fun H7 u s7 hu7 => ?_⟩
        · rw [foN_keys]
          exact fo2.p2.mem_iff.mp (List.mem_map.mpr ⟨pr, hpr, rfl⟩)
        · have x7 := s7 _ _ x6
          refine ⟨_, rfl, x, cPln K, dx, _, rfl, x7, cP, q4, (show (3 : Nat) < 1000 by decide), ?_⟩
          refine k _ D u (same_at (same_tr g6 s7) hGx) (kp_up1 fun b v hb e => s7 _ _ (k6 b v hb e)) (by rw [upd_same]; rfl) (by rw [upd_ne nDx]; exact s7 _ _ d6)
theorem ok_PlanFollows (T : FX P K mg) : FnR P w K mg base CX0 1 (pr_ K "Plan" "follows") (spFollows K) := by
  refine fnr T.f_PlanFollows sc_PlanFollows (fun _ _ _ _ _ _ us hl => match us, hl with | [_], _ => rfl) (fun vs H Q E h => ?_) (fun cdv A outer s H vs Q E hr h => ?_)
  · obtain ⟨a, n, us, ps, fs, rfl, _⟩ := h
    rfl
  · obtain ⟨a, n, us, ps, fs, rfl, ⟨dx, t, p, d, u, h1, h2, h3, h4⟩, hnd, l60, k⟩ := h
    have cP := T.cls "Plan" (by decide +kernel)
    have q3 := T.noat ("Plan", "own_follows") (by decide +kernel)
    have nd := sc_PlanFollows.nd
    have hu := hu_of hr
    refine ⟨_, pss_one (ps_ret (pe_lock (pe_dc (own := [("name", 1)]) (g := gName 1) (tt := tYes) (tk := tVar 1) (tv := tDGet (tFld K (tVar 0) "own_follows") (tVar 1)) rfl nd
        (pi_keys (pe_fld (pv 0) rfl)) (blkOk_by (N := ["self", "name"]) (sc := defScope m_PlanFollows) (by decide +kernel)) (fun _ _ _ _ _ => pg_name (i := 1) nd rfl (Or.inl rfl)) (fun _ _ _ _ _ => pts_nil) (fun _ _ _ _ _ => pv 1)
        (fun _ _ _ _ _ => pe_dget hu (pe_fld (pv 0) rfl) (pv 1) (fun _ _ => rfl))))), ?_⟩
    have nad : a ≠ d := fun z => by rw [z, h4] at h1; cases h1
    have lk : (kS fs).length = fs.length := by unfold kS; rw [List.length_map]
    refine ⟨d, _, h4, trivial, fun od => ⟨_, rfl, a, _, dx, _, _, rfl, by rw [upd_ne nad]; exact h1, cP, q3, rfl, d, od, rfl, .inl ⟨_, upd_same, fun D hD => dc_f walk_keys (fun i => (kS fs)[i]?) hD (by omega) ?_ (fun H' s => s _ _ upd_same) ?_ ?_⟩⟩⟩
    · have e : (fun i : Nat => (kS fs)[i]?) = fun i : Nat => ((kS fs)[i]?).map id := by funext i; simp
      rw [e, range_map_, List.map_id, kS_keys]
      exact inr_nodup hnd
    · rintro i v Ha Hb R k0 hi sa ⟨rfl, ky, v2, e1, rfl⟩ r2 r3
      obtain ⟨pr, hpr, e⟩ := List.mem_map.mp (List.mem_of_getElem? e1)
      cases e
      refine ⟨rfl, _, rfl, _, rfl, a, _, dx, _, _, rfl, sa _ _ (by rw [upd_ne nad]; exact h1), cP, q3, rfl, _, rfl, d, _, rfl, .inl ⟨kS fs, Sum.inr pr.1, .inr ⟨od, sa _ _ upd_same⟩, rfl, (kS_get hnd hpr).symm⟩, ?_⟩
      exact r2 _ _ _ e1 same_rfl
    · intro H3 s3 hD3
      have e : (fun i : Nat => (kS fs)[i]?) = fun i : Nat => ((kS fs)[i]?).map id := by funext i; simp
      rw [e, range_map_, List.map_id] at hD3
      have nDd : D ≠ d := fun z => by rw [z, upd_same] at hD; cases hD
      exact ⟨s3 _ _ upd_same, k _ D (unlock_same s3 h4) (by rw [upd_ne nDd] at hD; exact hD) (by rw [upd_ne nDd]; exact hD3)⟩
end
end N1
set_option maxHeartbeats 4000000
/-! plans written and read -/
namespace N1
open PySem PySem.Spec PyProof.Rows L2 TL
theorem join_le {y : Str} {c : Nat} : ∀ {l : List Str}, (∀ x ∈ l, x.length ≤ c) → (Txt.join y l).length ≤ l.length * (c + y.length)
  | [], _ => by rw [join_eq]; show 0 ≤ _; omega
  | a :: l, h => by
    rw [join_eq, len_join_cons]
    have := sum_le h
    rw [Nat.mul_add]
    have e : (a :: l).length * y.length = l.length * y.length + y.length := by rw [List.length_cons, Nat.succ_mul]
    omega
theorem tabT_le {n : Int} {us : List TR} (l40 : us.length ≤ 40) (len : ∀ x ∈ tabL n us, x.length ≤ 100) : (tabT n us).length ≤ 5000 := by
  have h := join_le (y := sN) len
  have e : (tabL n us).length = us.length + 1 := by unfold tabL; simp
  rw [e] at h
  have e2 : sN.length = 1 := rfl
  rw [e2] at h
  show (Txt.join sN (tabL n us)).length ≤ _
  omega
theorem pauT_le {ps : List (Str × Int)} (hps : ∀ p ∈ ps, NameOk p.1 ∧ 0 ≤ p.2 ∧ p.2 ≤ 1000000000000) (l60 : ps.length ≤ 60) : (pauT ps).length ≤ 13000 := by
  have h : ∀ x ∈ pauW ps, x.length ≤ 100 := by
    intro x hx
    rcases List.mem_cons.mp hx with rfl | hx
    · decide
    · obtain ⟨p, hp, hx⟩ := List.mem_flatMap.mp hx
      obtain ⟨o1, o2, o3⟩ := hps p hp
      have l1 := o1.2.1
      have l2 := num_len o2 o3
      simp only [List.mem_cons, List.not_mem_nil, or_false] at hx
      rcases hx with rfl | rfl <;> omega
  have h2 := join_le (y := sP) h
  rw [pauW_len] at h2
  have e2 : sP.length = 1 := rfl
  rw [e2] at h2
  show (Txt.join sP (pauW ps)).length ≤ _
  omega
theorem rowT_le {p : Str × Str} (h : NameOk p.1 ∧ NameOk p.2) : (rowT p).length ≤ 30 := by
  have h2 := join_le (y := sP) (c := 8) (l := [p.1, p.2]) (fun x hx => by
    simp only [List.mem_cons, List.not_mem_nil, or_false] at hx
    rcases hx with rfl | rfl
    · exact h.1.2.1
    · exact h.2.2.1)
  have e2 : sP.length = 1 := rfl
  rw [e2] at h2
  exact Nat.le_trans h2 (by simp)
theorem row_fs (a b : Str) : Str.empty ++ a ++ sP ++ b = rowT (a, b) := by
  unfold rowT
  rw [join_eq]
  refine ext_tl ?_
  rw [tl_join, tl_sP]
  simp only [tl_append, joinL, List.map_cons, List.map_nil, tl_sP]
  rw [show tl Str.empty = [] from rfl]
  simp
theorem row_fs2 (a b : Str) : a ++ (sP ++ b) = rowT (a, b) := by
  rw [← row_fs]
  refine ext_tl ?_
  simp only [tl_append]
  rw [show tl Str.empty = [] from rfl]
  simp
/-- what stands in a plan's text, written -/
structure WrOk (n : Int) (us : List TR) (ps : List (Str × Int)) (fs : List (Str × Str)) : Prop where
  n0 : 0 ≤ n
  n12 : n ≤ 1000000000000
  ok : ∀ t ∈ us, t.Ok
  l40 : us.length ≤ 40
  len : ∀ x ∈ tabL n us, x.length ≤ 100
  pau : ∀ p ∈ ps, NameOk p.1 ∧ 0 ≤ p.2 ∧ p.2 ≤ 1000000000000
  pnd : (keysI ps).Nodup
  p60 : ps.length ≤ 60
  fk : fs.map (·.1) = names us
  fnd : (names us).Nodup
  fok : ∀ p ∈ fs, NameOk p.1 ∧ NameOk p.2
def tRowW : TE := fun σ H Q => tJs [tFmt (tVar 2), tC (.str sP), tFmt (tDGet (tVar 1) (tVar 2))] Str.empty σ H fun out H1 => Q (.str out) H1
def spWritePl (K : PySem.W.Frag) : Sp := fun vs H Q _ => ∃ (a : Addr) (n : Int) (us : List TR) (ps : List (Str × Int)) (fs : List (Str × Str)), vs = [.ref a] ∧ PlanAt K H a n us ps fs ∧ WrOk n us ps fs ∧ ∀ H', Same H H' → Q (.str (planT n us ps fs)) H'
section
variable {P : Program} {w : World} {K : PySem.W.Frag} {mg : Str → Option Value} {base : Heap}
theorem ok2_write_plan (T : FX P K mg) : FnR P w K mg base CX0 8 (ga K "write_plan") (spWritePl K) ∧ FnK1 P w K mg base CX0 8 (ga K "write_plan") "plan" (spWritePl K) := by
  refine fnr2 T.f_write_plan sc_write_plan (fun _ _ _ _ _ _ us hl => match us, hl with | [_], _ => rfl) (fun _ _ _ _ _ _ _ => rfl) (fun vs H Q E h => ?_) (fun cdv A outer s H vs Q E hr h => ?_)
  · obtain ⟨a, n, us, ps, fs, rfl, _⟩ := h
    rfl
  · obtain ⟨a, n, us, ps, fs, rfl, pl, ok, k⟩ := h
    obtain ⟨dx, t, p, d, u, h1, h2, h3, h4⟩ := id pl
    obtain ⟨dt, dd, dn, dp, dr, rs, g1, g2, g3, g4, g5⟩ := id h2
    have cP := T.cls "Plan" (by decide +kernel)
    have cT := T.cls "Table" (by decide +kernel)
    have q1 := T.noat ("Plan", "table") (by decide +kernel)
    have q2 := T.noat ("Plan", "pauses") (by decide +kernel)
    have nNm := T.noat ("Table", "names") (by decide +kernel)
    have nd := sc_write_plan.nd
    have hu := hu_of hr
    refine ⟨_, pss_cons (ps_if (pt_not (pt_val (cb "isinstance" T call_isi (pa_cons (pv 0) (pa_cons (gc "Plan" T) pa_nil))))) pss_never pss_nil)
      (pss_cons (ps_set (i := 1) nd rfl (Or.inr rfl) (pe_propR (pv 0) cP T.prF (ok_PlanFollows T) (hr.mono (by decide)) pass0))
      (pss_cons (ps_setLc (i := 3) (own := [("name", 2)]) (g := gName 2) (tt := tYes) (te := tRowW) rfl nd rfl rfl (sw_true rfl rfl rfl (by decide +kernel))
          (pi_tup (pe_fld (pe_fld (pv 0) rfl) rfl)) (blkOk_by (N := ["plan", "follows", "name", "rows"]) (sc := defScope d_write_plan) (by decide +kernel)) (fun _ _ _ _ _ => pg_name (i := 2) nd rfl (Or.inl rfl)) (fun _ _ _ _ _ => pts_nil)
          (fun _ _ _ _ _ => pe_joined (PJ.cons (pe_fmt (pv 2)) (PJ.cons pe_str (PJ.cons (pe_fmt (pe_dget hu (pv 1) (pv 2) (fun _ _ => rfl))) PJ.nil)))))
      (pss_one (ps_ret (pe_join pe_str (pe_lst (pa_cons (cl "write_table" T (ok_write_table T) (hr.mono (by decide)) (pa_cons (pe_fld (pv 0) rfl) pa_nil)) (pa_cons (cl "write_pauses" T (ok_write_pauses T) hr (pa_cons (pe_fld (pv 0) rfl) pa_nil)) (StX.pa_star (pv 3) pa_nil))))))))), ?_⟩
    have hndf : (fs.map (·.1)).Nodup := by rw [ok.fk]; exact ok.fnd
    have lfs : fs.length = us.length := by
      have := congrArg List.length ok.fk
      unfold names at this
      rw [List.length_map, List.length_map] at this
      exact this
    refine ⟨_, rfl, _, _, _, _, true, rfl, .own _, isi_ok T T.isL cP h1, T.isL.k1, _, rfl, iF ?_⟩
    refine ⟨_, rfl, a, dx, _, rfl, h1, a, n, us, ps, fs, rfl, pl, hndf, by have := ok.l40; omega, fun H1 q s1 hq hq1 => ?_⟩
    refine ⟨_, rfl, a, _, dx, _, _, rfl, s1 _ _ h1, cP, q1, rfl, t, _, dt, _, _, rfl, s1 _ _ g1, cT, nNm, rfl, dn, rfl, ⟨_, (g3.up s1).seq⟩, fun D hD => ?_⟩
    have g3' := (g3.up s1).seq (K := K)
    rw [← ok.fk, List.map_map] at g3'
    refine lc_T fs (V.str ∘ (·.1)) (fun p => V.str (rowT p)) g3' (by have := ok.l40; omega) hD ?_ ?_
    · intro pr hpr H2 Qk s2 hk
      obtain ⟨o1, o2⟩ := ok.fok pr hpr
      have hs : 200 ≤ sizeLine := by decide
      have l1 := o1.2.1
      have l2 := o2.2.1
      refine ⟨rfl, _, rfl, ?_⟩
      refine .inl ⟨_, rfl, by show pr.1.length ≤ _; omega, _, rfl, by simp only [Str.length_append, lenE]; show _ + pr.1.length ≤ _; omega, _, rfl, by simp only [Str.length_append, lenE, lenP]; show _ + pr.1.length + _ ≤ _; omega, ?_⟩
      have hq2 := s2 _ _ hq1
      refine ⟨_, rfl, _, rfl, q, _, rfl, .inl ⟨kS fs, Sum.inr pr.1, .inl hq2, rfl, (kS_get hndf hpr).symm⟩, .inl ⟨_, rfl, by omega, _, rfl, by simp only [Str.length_append, lenE, lenP]; omega, ?_⟩⟩
      have := hk _ (same_rfl (H := H2))
      rw [show rowT pr = rowT (pr.1, pr.2) from rfl, ← row_fs] at this
      exact this
    · intro H3 s3 hL
      have s03 := same_tr s1 s3
      refine ⟨⟨_, rfl⟩, _, rfl, a, _, dx, _, _, rfl, s03 _ _ h1, cP, q1, rfl, t, n, us, rfl, h2.up s03, ok.n0, ok.n12, ok.ok, ok.l40, ok.len, fun H4 s4 => ?_⟩
      have s04 := same_tr s03 s4
      refine ⟨_, rfl, a, _, dx, _, _, rfl, s04 _ _ h1, cP, q2, rfl, p, ps, rfl, h3.up s04, ok.pau, ok.pnd, ok.p60, fun H5 s5 => ?_⟩
      have s05 := same_tr s04 s5
      refine ⟨_, rfl, D, _, rfl, .inr (SqL.of (s5 _ _ (s4 _ _ hL))), ?_⟩
      have l40 := ok.l40
      refine ⟨by simp only [List.length_cons, List.length_append, List.length_map, List.length_nil]; rw [sizeLine_eq]; omega, fun l hl2 => ⟨_, l, tabT n us :: pauT ps :: fs.map rowT, rfl, rfl, .inl (SqL.of (by rw [upd_same]; simp)), ?_, ?_⟩⟩
      · have sm := sum_le (c := 13000) (l := tabT n us :: pauT ps :: fs.map rowT) (by
          intro x hx
          rcases List.mem_cons.mp hx with rfl | hx
          · have := tabT_le ok.l40 ok.len; omega
          rcases List.mem_cons.mp hx with rfl | hx
          · exact pauT_le ok.pau ok.p60
          · obtain ⟨pr, hpr, rfl⟩ := List.mem_map.mp hx
            have := rowT_le (ok.fok pr hpr)
            omega)
        have le : (tabT n us :: pauT ps :: fs.map rowT).length = fs.length + 2 := by simp
        rw [le] at sm ⊢
        rw [show ("\n" : Str).length = 1 from rfl]
        omega
      · have e : planT n us ps fs = Txt.join "\n" (tabT n us :: pauT ps :: fs.map rowT) := by
          unfold planT planL tabT
          rw [join_eq, join_eq, join_eq]
          exact (sj_head sN (by unfold tabL; simp)).symm
        rw [← e]
        exact k _ (same_new s05 hl2)
theorem ok_write_plan (T : FX P K mg) : FnR P w K mg base CX0 8 (ga K "write_plan") (spWritePl K) := (ok2_write_plan T).1
theorem okk_write_plan (T : FX P K mg) : FnK1 P w K mg base CX0 8 (ga K "write_plan") "plan" (spWritePl K) := (ok2_write_plan T).2
end
end N1
set_option maxHeartbeats 4000000
/-! plans read -/
namespace N1
open PySem PySem.Spec PyProof.Rows L2 TL
structure RdOk (n : Int) (ts : List TR) (ps : List (Str × Int)) (fs : List (Str × Str)) : Prop where
  tx : TxOk n ts
  st : st ts = ts
  us : UsOk ts
  pau : ∀ p ∈ ps, NameOk p.1 ∧ 1 ≤ p.2 ∧ p.2 ≤ 1000000000000
  pnd : (keysI ps).Nodup
  p60 : ps.length ≤ 60
  pasc : AscP ps
  pn : nrm ps = ps
  fk : fs.map (·.1) = names ts
  fok : ∀ p ∈ fs, NameOk p.1 ∧ NameOk p.2
  fol : FolOk ts fs
theorem foN_id {us : List TR} {fs : List (Str × Str)} (h : fs.map (·.1) = names us) (hn : (names us).Nodup) : foN us fs = fs := by
  have hn2 : (fs.map (·.1)).Nodup := by rw [h]; exact hn
  unfold foN
  rw [← h, List.map_map]
  conv => rhs; rw [← List.map_id fs]
  refine List.map_congr_left fun q hq => ?_
  show (q.1, nxt fs q.1) = q
  rw [nxt_of hn2 hq]
theorem plan_len {n : Int} {ts : List TR} {ps : List (Str × Int)} {fs : List (Str × Str)} (l40 : ts.length ≤ 40) (len : ∀ x ∈ tabL n ts, x.length ≤ 100) (hps : ∀ p ∈ ps, NameOk p.1 ∧ 0 ≤ p.2 ∧ p.2 ≤ 1000000000000) (l60 : ps.length ≤ 60) (fok : ∀ p ∈ fs, NameOk p.1 ∧ NameOk p.2) (lf : fs.length ≤ 40) :
    (∀ x ∈ planL n ts ps fs, x.length ≤ 13000) ∧ (planT n ts ps fs).length ≤ 2000000 := by
  have h : ∀ x ∈ planL n ts ps fs, x.length ≤ 13000 := by
    intro x hx
    unfold planL at hx
    rcases List.mem_append.mp hx with hx | hx
    · have := len x hx; omega
    rcases List.mem_cons.mp hx with rfl | hx
    · exact pauT_le hps l60
    · obtain ⟨pr, hpr, rfl⟩ := List.mem_map.mp hx
      have := rowT_le (fok pr hpr)
      omega
  refine ⟨h, ?_⟩
  have h2 := join_le (y := sN) h
  have e : (planL n ts ps fs).length = ts.length + 1 + (fs.length + 1) := by unfold planL tabL; simp; omega
  rw [e] at h2
  have e2 : sN.length = 1 := rfl
  rw [e2] at h2
  show (Txt.join sN (planL n ts ps fs)).length ≤ _
  omega
theorem zip_ref {as : List Addr} {ts : List TR} (h : as.length = ts.length) : (as.zip ts).map (fun q => V.ref q.1) = as.map V.ref := by
  have := List.map_fst_zip (l₁ := as) (l₂ := ts) (by omega)
  conv => rhs; rw [← this]
  rw [List.map_map]
  rfl
theorem zip_name {as : List Addr} {ts : List TR} (h : as.length = ts.length) : (as.zip ts).map (fun q => V.str q.2.name) = (names ts).map V.str := by
  have := List.map_snd_zip (l₁ := as) (l₂ := ts) (by omega)
  unfold names
  conv => rhs; rw [← this]
  rw [List.map_map, List.map_map]
  rfl
def spReadPl (K : PySem.W.Frag) : Sp := fun vs H Q _ => ∃ (n : Int) (ts : List TR) (ps : List (Str × Int)) (fs : List (Str × Str)), vs = [.str (planT n ts ps fs)] ∧ RdOk n ts ps fs ∧ ∀ H' a, Same H H' → H a = none → PlanAt K H' a n ts ps fs → Q (.ref a) H'
section
variable {P : Program} {w : World} {K : PySem.W.Frag} {mg : Str → Option Value} {base : Heap}
theorem ok2_read_plan (T : FX P K mg) : FnR P w K mg base CX0 10 (ga K "read_plan") (spReadPl K) ∧ FnK1 P w K mg base CX0 10 (ga K "read_plan") "text" (spReadPl K) := by
  refine fnr2 T.f_read_plan sc_read_plan (fun _ _ _ _ _ _ us hl => match us, hl with | [_], _ => rfl) (fun _ _ _ _ _ _ _ => rfl) (fun vs H Q E h => ?_) (fun cdv A outer s H vs Q E hr h => ?_)
  · obtain ⟨n, ts, ps, fs, rfl, _⟩ := h
    rfl
  · obtain ⟨n, ts, ps, fs, rfl, ok, k⟩ := h
    have nd := sc_read_plan.nd
    have cP := T.cls "Plan" (by decide +kernel)
    refine ⟨_, pss_cons (ps_set (i := 1) nd rfl (Or.inl rfl) (cl "lines_of" T (ok_lines_of T) (hr.mono (by decide)) (pa_cons (pv 0) pa_nil)))
      (pss_cons (ps_set (i := 2) nd rfl (Or.inl rfl) (cl "pauses_line" T (ok_pauses_line T) (hr.mono (by decide)) (pa_cons (pv 1) pa_nil)))
      (pss_cons (ps_asg (cl "trips_told" T (ok_trips_told T) hr (pa_cons (pv 1) (pa_cons (pv 2) pa_nil))) (pg_tup rfl (pgs_cons (pg_name (i := 3) nd rfl (Or.inl rfl)) (pgs_cons (pg_name (i := 4) nd rfl (Or.inl rfl)) pgs_nil))))
      (pss_cons (ps_if (pt_cmpR op_eq (pv 2) (cb "len" T call_len (pa_cons (pv 1) pa_nil)) (nomark _)) pss_never pss_nil)
      (pss_cons (ps_set (i := 5) nd rfl (Or.inl rfl) (cl "numbers_told" T (ok_numbers_told T) (hr.mono (by decide)) (pa_cons (pv 2) (pa_cons (pe_ix ix_list (pv 1) (pv 2) (fun _ _ => rfl)) pa_nil))))
      (pss_cons (ps_set (i := 7) nd rfl (Or.inl rfl) (cl "follows_told" T (ok_follows_told T) (hr.mono (by decide)) (pa_cons (pv 1) (pa_cons (pe_op op_add (pv 2) pe_int) (pa_cons (ct "tuple" T call_tuple_of (pa_cons
          (pe_lc (own := [("trip", 6)]) (g := gName 6) (tt := tYes) (te := tFld K (tVar 6) "name") rfl nd (pi_list (pv 4)) (blkOk_by (N := ["text", "lines", "spot", "length", "trips", "numbers", "trip", "follows"]) (sc := defScope d_read_plan) (by decide +kernel)) (fun _ _ _ _ _ => pg_name (i := 6) nd rfl (Or.inl rfl)) (fun _ _ _ _ _ => pts_nil) (fun _ _ _ _ _ => pe_fld (pv 6) rfl)) pa_nil)) pa_nil)))))
      (pss_one (ps_ret (StX.pe_makeR (T.mkr "Plan" (by decide +kernel)) (ok_PlanInit T) (hr.mono (by decide)) rfl (T.glo "Plan" (by decide +kernel)) pass0 (pa_cons
          (pe_smeth (gc "Table" T) T.crT T.stT (ok_TableOf T) (hr.mono (by decide)) pass0 (pa_cons (StX.pe_makeR (T.mkr "Day" (by decide +kernel)) (ok_DayInit T) (hr.mono (by decide)) rfl (T.glo "Day" (by decide +kernel)) pass0 (pa_cons (pv 3) pa_nil)) (pa_cons (pv 4) pa_nil)))
          (pa_cons (pe_smeth (gc "Pauses" T) T.crP T.stP (ok_PausesOf T) (hr.mono (by decide)) pass0 (pa_cons (pv 5) pa_nil)) (pa_cons (pv 7) pa_nil))))))))))), ?_⟩
    have hps0 : ∀ p ∈ ps, NameOk p.1 ∧ 0 ≤ p.2 ∧ p.2 ≤ 1000000000000 := fun p hp => (let ⟨a, b, c⟩ := ok.pau p hp; ⟨a, by omega, c⟩)
    have lfs : fs.length = ts.length := by
      have := congrArg List.length ok.fk
      unfold names at this
      rw [List.length_map, List.length_map] at this
      exact this
    have l40 := ok.us.l40
    obtain ⟨lenL, lenT⟩ := plan_len (fs := fs) l40 ok.tx.len hps0 ok.p60 ok.fok (by omega)
    have eL : Txt.split (planT n ts ps fs) sN = planL n ts ps fs := plan_lines (by have := ok.tx.n1; omega) ok.tx.ok (fun p hp => ⟨(hps0 p hp).1, (hps0 p hp).2.1⟩) ok.fok
    have eLen : (planL n ts ps fs).length = ts.length + fs.length + 2 := by unfold planL tabL; simp; omega
    refine ⟨_, rfl, _, rfl, by rw [sizeLine_eq]; omega, fun l hll => ?_⟩
    rw [eL]
    have s1 : Same H (upd H l (.lst ((planL n ts ps fs).map V.str))) := same_new same_rfl hll
    have h1l : (upd H l (.lst ((planL n ts ps fs).map V.str))) l = some (.lst ((planL n ts ps fs).map V.str)) := upd_same
    generalize upd H l (.lst ((planL n ts ps fs).map V.str)) = H1 at s1 h1l
    have atm : (planL n ts ps fs)[ts.length + 1]? = some (pauT ps) := by
      unfold planL tabL
      rw [List.getElem?_append_right (by simp)]
      simp
    refine ⟨_, rfl, l, planL n ts ps fs, ts.length + 1, rfl, h1l, by omega, by omega, fun x hx => by have := lenL x hx; rw [sizeLine_eq]; omega, ?_, ?_, ?_, fun H2 s2 => ?_⟩
    · intro i x hi h1 h2 hb
      have : ∃ t ∈ ts, x = tripT t := by
        unfold planL tabL at hi
        rw [List.getElem?_append_left (by simp; omega)] at hi
        obtain ⟨j, rfl⟩ : ∃ j, i = j + 1 := ⟨i - 1, by omega⟩
        rw [List.getElem?_cons_succ, List.getElem?_map] at hi
        cases e : ts[j]? with
        | none => rw [e] at hi; cases hi
        | some t => rw [e] at hi; exact ⟨t, List.mem_of_getElem? e, (Option.some.inj hi).symm⟩
      obtain ⟨t, ht, rfl⟩ := this
      rw [trip_words (ok.tx.ok t ht)] at hb
      unfold tripW at hb
      have n1 : ("run" : Str) ≠ "pauses" := by decide
      have n2 : ("stay" : Str) ≠ "pauses" := by decide
      split at hb
      · exact n1 (Option.some.inj hb)
      · exact n2 (Option.some.inj hb)
    · intro x hx
      rw [atm] at hx
      cases hx
      rw [pau_words (fun p hp => ⟨(hps0 p hp).1, (hps0 p hp).2.1⟩)]
      rfl
    · intro x hx
      unfold planL at hx
      rcases List.mem_append.mp hx with hx | hx
      · rcases List.mem_cons.mp hx with rfl | hx
        · rw [day_words (by have := ok.tx.n1; omega)]; simp
        · obtain ⟨t, ht, rfl⟩ := List.mem_map.mp hx
          rw [trip_words (ok.tx.ok t ht)]; exact tripW_ne t
      rcases List.mem_cons.mp hx with rfl | hx
      · rw [pau_words (fun p hp => ⟨(hps0 p hp).1, (hps0 p hp).2.1⟩)]; unfold pauW; simp
      · obtain ⟨pr, hpr, rfl⟩ := List.mem_map.mp hx
        rw [row_words (ok.fok pr hpr)]; simp
    · have h2l := s2 _ _ h1l
      refine ⟨_, rfl, _, rfl, l, n, ts, pauT ps :: fs.map rowT, rfl, h2l, ok.tx.n1, ok.tx.n12, ok.tx.ok, ok.tx.tab.lv, ok.tx.tab.l40, ok.tx.asc, ok.tx.len, fun H3 p fl as s3 hp hfl hp3 hfl3 htr => ?_⟩
      refine ⟨p, _, rfl, SqT.of hp3, rfl, _, _, rfl, _, _, rfl, rfl, ?_⟩
      have h3l := s3 _ _ h2l
      refine ⟨_, rfl, _, rfl, _, _, rfl, .inl ⟨_, SqL.of h3l, rfl⟩, rfl, _, rfl, ?_⟩
      rw [show decide (V.int ((ts.length + 1 : Nat) : Int) = V.int ((((planL n ts ps fs).map V.str).length : Nat) : Int)) = false from by
        rw [List.length_map, eLen]
        have : ¬ ((ts.length + 1 : Nat) : Int) = ((ts.length + fs.length + 2 : Nat) : Int) := by omega
        simp only [decide_eq_false_iff_not]
        intro z
        exact this (V.int.inj z)]
      refine iF ⟨_, rfl, _, rfl, _, rfl, l, _, _, .str (pauT ps), rfl, rfl, SqL.of h3l, atI_nat (by rw [List.getElem?_map, atm]; rfl), ?_⟩
      have lp := pauT_le hps0 ok.p60
      refine ⟨_, ps, rfl, by rw [sizeLine_eq]; omega, ok.p60, ok.pau, ok.pnd, ok.pasc, fun H4 f4 s4 hf4 hf5 => ?_⟩
      have h4l := s4 _ _ h3l
      have htr4 := htr.up s4
      refine ⟨_, rfl, _, rfl, _, _, rfl, rfl, _, rfl, fl, rfl, ⟨_, SqL.of (s4 _ _ hfl3)⟩, fun D hD => ?_⟩
      have lz : as.length = ts.length := htr.1
      have ez1 := zip_ref lz
      have ez2 : (as.zip ts).map (fun q => V.str q.2.name) = (fs.map (·.1)).map V.str := by rw [ok.fk]; exact zip_name lz
      refine lc_A (as.zip ts) (fun q => V.ref q.1) (fun q => V.str q.2.name) (by rw [ez1]; exact SqL.of (s4 _ _ hfl3)) (by rw [List.length_zip]; omega) hD ?_ ?_
      · intro q hq H5 Qk s5 hk
        obtain ⟨j, hj⟩ := List.mem_iff_getElem?.mp hq
        rw [List.getElem?_zip_eq_some] at hj
        obtain ⟨dz, hz⟩ := htr4.2 j q.1 q.2 hj.1 hj.2
        have c2 := trT T q.2
        exact ⟨rfl, _, rfl, q.1, _, dz, _, _, rfl, s5 _ _ hz, c2.c, c2.n1, lk_name q.2, hk _ same_rfl⟩
      · intro H5 s5 hL5
        rw [ez2] at hL5
        refine ⟨D, _, rfl, .inl ⟨SqL.of hL5, fun nt hnt => ?_⟩⟩
        have s6 : Same H5 (upd H5 nt (.tup ((fs.map (·.1)).map V.str))) := same_new same_rfl hnt
        have hnt6 : (upd H5 nt (.tup ((fs.map (·.1)).map V.str))) nt = some (.tup ((fs.map (·.1)).map V.str)) := upd_same
        generalize upd H5 nt (.tup ((fs.map (·.1)).map V.str)) = H6 at s6 hnt6
        have s46 := same_tr s5 s6
        have epre : ((ts.length + 1 : Nat) : Int) + 1 = (((tabL n ts ++ [pauT ps]).length : Nat) : Int) := by unfold tabL; simp
        refine ⟨l, nt, tabL n ts ++ [pauT ps], fs, by dsimp only; rw [epre], ?_, hnt6, ?_, by omega, fun pr hpr => ?_, fun pr hpr => by have := rowT_le (ok.fok pr hpr); rw [sizeLine_eq]; omega, fun H7 f7 s7 hf7 hf8 => ?_⟩
        · have := s46 _ _ h4l
          rw [this]
          unfold planL
          rw [List.append_assoc]
          rfl
        · rw [ok.fk]; exact ok.us.nd
        · obtain ⟨o1, o2⟩ := ok.fok pr hpr
          exact ⟨o1, o2, by rw [ok.fk]; exact ok.fol.p2.mem_iff.mp (List.mem_map.mpr ⟨pr, hpr, rfl⟩)⟩
        · have s47 := same_tr s46 s7
          refine ⟨rfl, _, rfl, fun xd dxd hxd hdxd hned => ⟨xd, dxd, n, rfl, ok.tx.n1, ok.tx.n12, upd_same, fun H8 q1 q2 => ⟨rfl, ?_⟩⟩⟩
          have s8 : Same H7 H8 := made_same hxd hdxd q1
          have s48 := same_tr s47 s8
          refine ⟨_, rfl, H8, xd, fl, n, as, ts, rfl, same_rfl, ⟨dxd, q2⟩, s48 _ _ (s4 _ _ hfl3), htr4.up s48, ok.tx.tab, fun H9 G9 tp g9 htp tb => ?_⟩
          have s9 : Same H8 H9 := fun x o e => g9.kp x o (by simp) e
          rw [ok.st] at tb
          have tb9 := tb.up g9.gh
          refine ⟨rfl, _, rfl, H9, f4, ps, rfl, same_rfl, s9 _ _ (s48 _ _ hf5), ⟨ok.pnd, fun p hp => (ok.pau p hp).1, fun p hp => (hps0 p hp).2, ok.p60⟩, fun HA GA pp gA hpp pa => ?_⟩
          have sA : Same H9 HA := fun x o e => gA.kp x o (by simp) e
          rw [ok.pn] at pa
          have paA := pa.up gA.gh
          have sA8 := same_tr s9 sA
          refine ⟨_, rfl, fun x dx hx hdx hne => ?_⟩
          have gX : Same HA (upd (upd HA dx (.own x)) x (.ins (cPln K) dx [])) := same_new (same_new same_rfl hdx) (by rw [upd_ne (Ne.symm hne)]; exact hx)
          refine ⟨HA, x, dx, tp, pp, f7, n, ts, ps, fs, rfl, gX, hx, upd_same, tb9.up sA, paA, sA8 _ _ (s8 _ _ hf8), ok.fol, ok.us, fun HB d u gB kB hB hd => ⟨rfl, ?_⟩⟩
          rw [foN_id ok.fk ok.us.nd] at hd
          have sAll : Same H HA := same_tr s1 (same_tr s2 (same_tr s3 (same_tr s4 (same_tr s48 sA8))))
          exact k HB x (same_tr sAll gB) (none_of sAll hx) ⟨dx, tp, pp, d, u, hB, (tb9.up sA).up gB, paA.up gB, hd⟩
theorem ok_read_plan (T : FX P K mg) : FnR P w K mg base CX0 10 (ga K "read_plan") (spReadPl K) := (ok2_read_plan T).1
theorem okk_read_plan (T : FX P K mg) : FnK1 P w K mg base CX0 10 (ga K "read_plan") "text" (spReadPl K) := (ok2_read_plan T).2
end
end N1
set_option maxHeartbeats 8000000
/-! the law's next trips -/
namespace N1
open PySem PySem.Spec PyProof.Rows L2 TL
def gsel (ts : List TR) (y : Str) : List TR := ts.filter fun t => decide (t.goal = y)
def ssel (ts : List TR) (y : Str) : List TR := ts.filter fun t => decide (t.start = y)
theorem mof {p : TR → Bool} {l : List TR} {x : TR} (h : x ∈ l.filter p) : x ∈ l := (List.mem_filter.mp h).1
theorem bof {p : TR → Bool} {l : List TR} {x : TR} (h : x ∈ l.filter p) : p x = true := (List.mem_filter.mp h).2
theorem ssel_fm (ts : List TR) (y : Str) : ts.filterMap (fun t => if t.start = y then some (V.str t.name) else none) = (names (ssel ts y)).map V.str := by
  induction ts with
  | nil => rfl
  | cons t ts ih =>
    by_cases e : t.start = y
    · rw [List.filterMap_cons_some (by rw [if_pos e]), ih]
      unfold ssel
      rw [List.filter_cons_of_pos (by simpa using e)]
      rfl
    · rw [List.filterMap_cons_none (by rw [if_neg e]), ih]
      unfold ssel
      rw [List.filter_cons_of_neg (by simpa using e)]
theorem flat_perm (f : TR → Str) : ∀ (ys : List Str) (ts : List TR), ys.Nodup → (∀ t ∈ ts, f t ∈ ys) → (ys.flatMap fun y => ts.filter fun t => decide (f t = y)).Perm ts
  | [], ts, _, h => by
    cases ts with
    | nil => exact .refl _
    | cons t ts => cases h t List.mem_cons_self
  | y :: ys, ts, hn, h => by
    obtain ⟨h1, h2⟩ := List.nodup_cons.mp hn
    have ih := flat_perm f ys (ts.filter fun t => !decide (f t = y)) h2 fun t ht => by
      have a := mof ht
      have b := bof ht
      rcases List.mem_cons.mp (h t a) with z | z
      · rw [z] at b; simp at b
      · exact z
    have e : (ys.flatMap fun z => ts.filter fun t => decide (f t = z)) = ys.flatMap fun z => (ts.filter fun t => !decide (f t = y)).filter fun t => decide (f t = z) := by
      have : ∀ zs : List Str, (∀ z ∈ zs, z ≠ y) → (zs.flatMap fun z => ts.filter fun t => decide (f t = z)) = zs.flatMap fun z => (ts.filter fun t => !decide (f t = y)).filter fun t => decide (f t = z) := by
        intro zs
        induction zs with
        | nil => intro _; rfl
        | cons z zs ih2 =>
          intro hz
          rw [List.flatMap_cons, List.flatMap_cons, ih2 fun x hx => hz x (List.mem_cons_of_mem _ hx), List.filter_filter]
          congr 1
          refine List.filter_congr fun t _ => ?_
          by_cases q : f t = z
          · have := hz z List.mem_cons_self
            have q2 : ¬ f t = y := fun w => this (by rw [← q, w])
            simp [q, q2]
            rw [← q]; exact q2
          · simp [q]
      exact this ys fun z hz w => h1 (w ▸ hz)
    rw [List.flatMap_cons, e]
    exact (List.Perm.append_left _ ih).trans (List.filter_append_perm _ ts)
theorem count_sel (ts : List TR) (f : TR → Str) (p : Str) : (ts.filter fun t => decide (f t = p)).length = (ts.map f).count p := by
  induction ts with
  | nil => rfl
  | cons t ts ih =>
    rw [List.map_cons, List.count_cons, ← ih]
    by_cases e : f t = p
    · rw [List.filter_cons_of_pos (by simpa using e)]
      simp [e]
    · rw [List.filter_cons_of_neg (by simpa using e)]
      simp [e]
theorem sel_len {ts : List TR} (h : (starts ts).Perm (goals ts)) (y : Str) : (gsel ts y).length = (ssel ts y).length := by
  unfold gsel ssel
  rw [count_sel ts (·.goal), count_sel ts (·.start)]
  exact (h.count_eq y).symm
theorem name_inj {ts : List TR} (hn : (names ts).Nodup) {t u : TR} (ht : t ∈ ts) (hu : u ∈ ts) (e : t.name = u.name) : t = u := by
  have a := lk_of hn ht
  have b := lk_of hn hu
  rw [e, b] at a
  exact (Option.some.inj a).symm
theorem flat_names (ys : List Str) (g : Str → List TR) : (ys.flatMap fun y => names (g y)) = names (ys.flatMap g) := by
  unfold names
  rw [List.map_flatMap]
def spFolL : Sp := fun vs H Q _ => ∃ (p c a l : Addr) (m n : Int) (ts : List TR), vs = [.ref p, .ref a] ∧ PenAt H p c m ∧ m ≤ 900000 ∧ PlnH H a l n ts ∧ l ≠ p ∧ (names ts).Nodup ∧ (starts ts).Perm (goals ts) ∧ ts.length ≤ 7 ∧
  ∀ H' q fs, Kp [p] H H' → H q = none → H' q = some (.dK (kS fs)) → FolOk ts fs → PenAt H' p c (m + 10) → Q (.ref q) H'
section
variable {P : Program} {w : World} {K : PySem.W.Frag} {mg : Str → Option Value} {base : Heap}
theorem ok_followsL (T : FX P K mg) : FnR P w K mg base CX0 2 (ga K "_law_follows") spFolL := by
  refine fnr T.f_w_follows sc_follows (fun _ _ _ _ _ _ us hl => match us, hl with | [_, _], _ => rfl) (fun vs H Q E h => ?_) (fun cdv A outer s H vs Q E hr h => ?_)
  · obtain ⟨p, c, a, l, m, n, ts, rfl, _⟩ := h
    rfl
  · obtain ⟨p, c, a, l, m, n, ts, rfl, pen, hm, pl, hlp, hnd, bal, l7, k⟩ := h
    have nd := sc_follows.nd
    have hu := hu_of hr
    refine ⟨_, pss_cons (ps_set (i := 2) nd rfl (Or.inl rfl) pe_dnewK)
      (pss_cons (ps_for PassesOwn.never rfl (pi_list (cl "_law_places" T (ok_placesL T) hr (pa_cons (pv 1) pa_nil))) (pg_name (i := 3) nd rfl (Or.inr rfl))
        (pss_cons (ps_setLc (i := 5) (own := [("_law_trip", 4)]) (g := gName 4) (tt := tTest (tOp rEq (tOp (rIxT K) (tVar 4) (tC (.int 2))) (tVar 3))) (te := tOp (rIxT K) (tVar 4) (tC (.int 0))) rfl nd rfl rfl (sw_true rfl rfl rfl (by decide +kernel)) (pi_list (pe_dget hu (pv 1) pe_str (fun _ _ => rfl))) (blkOk_by (N := ["_law_pen_here", "_law_plain_here", "_law_found", "_law_place", "_law_trip", "_law_goes"]) (sc := defScope w_follows) (by decide +kernel))
            (fun _ _ _ _ _ => pg_name (i := 4) nd rfl (Or.inl rfl)) (fun _ _ _ _ _ => pts_one (pt_cmpR op_eq (pe_ix ix_tup (pv 4) pe_int (fun _ _ => rfl)) (pv 3) (nomark _))) (fun _ _ _ _ _ => pe_ix ix_tup (pv 4) pe_int (fun _ _ => rfl)))
        (pss_one (ps_for PassesOwn.never rfl (pi_list (pe_dget hu (pv 1) pe_str (fun _ _ => rfl))) (pg_name (i := 4) nd rfl (Or.inl rfl))
          (pss_one (ps_if (pt_cmpR op_eq (pe_ix ix_tup (pv 4) pe_int (fun _ _ => rfl)) (pv 3) (nomark _))
            (pss_one (ps_dput hu (pv 2) (pe_ix ix_tup (pv 4) pe_int (fun _ _ => rfl)) (pe_bm PySem.F.plainAttrs_list PySem.F.slot_list_pop PySem.F.type_list_pop mt_popAt (pv 5) (pa_cons (cl "_law_draw" T (ok_draw T) hr (pa_cons (pv 0) (pa_cons (cb "len" T call_len (pa_cons (pv 5) pa_nil)) pa_nil))) pa_nil)) rfl)) pss_nil))))))
      (pss_one (ps_ret (pv 2)))), ?_⟩
    obtain ⟨qs, ha0, hl0, tps0⟩ := id pl
    intro fd hfd
    have s0 : Same H (upd H fd (.dK [])) := same_new same_rfl hfd
    have nfd := pen.nn hfd
    refine ⟨_, rfl, a, l, n, ts, rfl, pl.up s0, by omega, fun H1 q0 ys s1 hq0 hq1 hyn hym hyl => ?_⟩
    have s01 := same_tr s0 s1
    have pn1 := pen.up s01
    have nq0 := (pen.up s0).nn hq0
    have hfd1 : H1 fd = some (.dK []) := s1 _ _ upd_same
    refine ⟨q0, rfl, ⟨_, SqL.of hq1⟩, ?_⟩
    refine for_it (walk_list (xs := ys.map V.str)) (fun i σ H' => ∃ fs : List (Str × Str), Kp [p] H H' ∧ PenAt H' p c (m + fs.length) ∧ H' fd = some (.dK (kS fs)) ∧ H' q0 = some (.lst (ys.map V.str)) ∧ fs.map (·.1) = ((ys.take i).flatMap fun y => names (gsel ts y)) ∧ (fs.map (·.2)).Perm ((ys.take i).flatMap fun y => names (ssel ts y)) ∧
        (∀ pr ∈ fs, ∃ t ∈ ts, ∃ u ∈ ts, t.name = pr.1 ∧ u.name = pr.2 ∧ u.start = t.goal) ∧ ∃ v3 v4 v5, σ = [some (.ref p), some (.ref a), some (.ref fd), v3, v4, v5])
      ⟨[], kp_same s01, by simpa using pn1, hfd1, hq1, rfl, .refl _, fun _ h => (by cases h), _, _, _, rfl⟩ (fun i σ H' _ h => SqL.of (let ⟨_, _, _, _, h, _⟩ := h; h)) ?_ ?_
    · rintro i v σ _ H2 hi ⟨fs, kp2, pn2, hf2, hq2, fk, fv, fg, v3, v4, v5, rfl⟩ ⟨rfl, hx⟩
      rw [List.length_map] at hi
      obtain ⟨y, hy, rfl⟩ : ∃ y, ys[i]? = some y ∧ v = .str y := by
        rw [List.getElem?_map] at hx
        cases e : ys[i]? with
        | none => rw [e] at hx; cases hx
        | some y => rw [e] at hx; exact ⟨y, rfl, (Option.some.inj hx).symm⟩
      have ha2 := kp_mem kp2 ha0 (pen.nl ha0 (fun xs y => by cases y)).1
      have hl2 := kp_mem kp2 hl0 hlp
      have tps2 := tps0.kp kp2 pen
      refine ⟨_, rfl, a, _, rfl, gt_trips ha2, l, rfl, ⟨_, SqL.of hl2⟩, fun D hD => ?_⟩
      refine lc_f walk_list (fun i => (ts[i]?).bind fun t => if t.start = y then some (V.str t.name) else none) hD (by rw [List.length_map, tps2.1]; omega) (fun H' s => SqL.ext (SqL.of hl2) s) ?_ ?_
      · rintro j x Ha Hb kk k0 hj sb ⟨rfl, hx⟩ h2 h3
        rw [List.length_map] at hj
        rw [List.getElem?_map] at hx
        obtain ⟨q, hq⟩ : ∃ q, qs[j]? = some q := ⟨_, List.getElem?_eq_getElem hj⟩
        rw [hq] at hx
        cases hx
        obtain ⟨t, ht⟩ : ∃ t, ts[j]? = some t := ⟨_, List.getElem?_eq_getElem (by rw [← tps2.1]; exact hj)⟩
        have e := sb _ _ (tps2.2 j q t hq ht)
        refine ⟨rfl, _, rfl, q, _, 2, _, rfl, rfl, SqT.of e, rfl, _, rfl, rfl, _, rfl, ?_⟩
        by_cases hs : t.start = y
        · rw [show decide (V.str t.start = V.str y) = true from by simp [hs]]
          exact iT ⟨_, rfl, q, _, 0, _, rfl, rfl, SqT.of e, rfl, h2 _ _ (by rw [ht]; show (if t.start = y then _ else _) = _; rw [if_pos hs]) same_rfl⟩
        · rw [show decide (V.str t.start = V.str y) = false from by simp [hs]]
          exact iF (h3 (by rw [ht]; show (if t.start = y then _ else _) = _; rw [if_neg hs]) _ same_rfl)
      · intro H3 s3 hL3
        rw [List.length_map, tps2.1, range_fm, ssel_fm] at hL3
        have nDp := pn2.nn hD
        have nDf : D ≠ fd := fun z => by rw [z, hf2] at hD; cases hD
        have nDq : D ≠ q0 := fun z => by rw [z, hq2] at hD; cases hD
        have kp3 : Kp [p] H H3 := kp_tr kp2 (kp_same s3)
        have ha3 := s3 _ _ ha2
        have hl3 := s3 _ _ hl2
        have nDl : D ≠ l := fun z => by rw [z, hl2] at hD; cases hD
        have hD0 : H D = none := kp_none kp2 pn2 hD
        refine ⟨_, rfl, a, _, rfl, gt_trips ha3, l, rfl, ⟨_, SqL.of hl3⟩, ?_⟩
        refine for_it (walk_list (xs := qs.map V.ref)) (fun j σ H' => ∃ (new : List (Str × Str)) (g' : List Str), Kp [p] H H' ∧ PenAt H' p c (m + fs.length + new.length) ∧ H' fd = some (.dK (kS (fs ++ new))) ∧ H' q0 = some (.lst (ys.map V.str)) ∧ H' D = some (.lst (g'.map V.str)) ∧ H' l = some (.lst (qs.map V.ref)) ∧
            new.map (·.1) = names (gsel (ts.take j) y) ∧ (new.map (·.2) ++ g').Perm (names (ssel ts y)) ∧ (∀ pr ∈ new, ∃ t ∈ ts, ∃ u ∈ ts, t.name = pr.1 ∧ u.name = pr.2 ∧ u.start = t.goal) ∧ ∃ v4, σ = [some (.ref p), some (.ref a), some (.ref fd), some (.str y), v4, some (.ref D)])
          ⟨[], names (ssel ts y), kp3, by simpa using pn2.up s3, by rw [List.append_nil]; exact s3 _ _ hf2, s3 _ _ hq2, hL3, hl3, rfl, .refl _, fun _ h => (by cases h), _, rfl⟩ (fun j σ H' _ h => SqL.of (let ⟨_, _, _, _, _, _, _, h, _⟩ := h; h)) ?_ ?_
        · rintro j v σ _ H4 hj ⟨new, g', kp4, pn4, hf4, hq4, hD4, hl4, nk, nv, ng, v4, rfl⟩ ⟨rfl, hx⟩
          rw [List.length_map] at hj
          rw [List.getElem?_map] at hx
          obtain ⟨q, hq⟩ : ∃ q, qs[j]? = some q := ⟨_, List.getElem?_eq_getElem hj⟩
          rw [hq] at hx
          cases hx
          obtain ⟨t, ht⟩ : ∃ t, ts[j]? = some t := ⟨_, List.getElem?_eq_getElem (by rw [← tps2.1]; exact hj)⟩
          have hqt0 := tps0.2 j q t hq ht
          have hqt := kp_mem kp4 hqt0 (pen.nl hqt0 (fun xs z => by cases z)).1
          have htm := List.mem_of_getElem? ht
          have et : ts.take (j + 1) = ts.take j ++ [t] := by rw [List.take_succ, ht]; rfl
          refine ⟨_, rfl, q, _, 5, _, rfl, rfl, SqT.of hqt, rfl, _, rfl, rfl, _, rfl, ?_⟩
          by_cases hg : t.goal = y
          · rw [show decide (V.str t.goal = V.str y) = true from by simp [hg]]
            have eg : gsel (ts.take (j + 1)) y = gsel (ts.take j) y ++ [t] := by
              unfold gsel
              rw [et, List.filter_append]
              simp [hg]
            have lg : (gsel (ts.take (j + 1)) y).length ≤ (gsel ts y).length := by
              unfold gsel
              exact (List.Sublist.filter _ (List.take_sublist _ _)).length_le
            have ln : new.length = (gsel (ts.take j) y).length := by
              have := congrArg List.length nk
              unfold names at this
              rw [List.length_map, List.length_map] at this
              exact this
            have lv := nv.length_eq
            rw [List.length_append, List.length_map] at lv
            have lss : (names (ssel ts y)).length = (ssel ts y).length := by unfold names; rw [List.length_map]
            have lgs := sel_len bal y
            have lst7 : (ssel ts y).length ≤ ts.length := by unfold ssel; exact List.length_filter_le _ _
            have g1 : 1 ≤ g'.length := by
              rw [eg, List.length_append] at lg
              simp at lg
              omega
            have lg' : (g'.map V.str).length = g'.length := List.length_map ..
            have lfs : fs.length ≤ 7 := by
              have h1 := congrArg List.length fk
              rw [List.length_map, flat_names] at h1
              unfold names at h1
              rw [List.length_map] at h1
              have h2 : ((ys.take i).flatMap (gsel ts)).length ≤ (ys.flatMap (gsel ts)).length := by
                have e : ys.flatMap (gsel ts) = (ys.take i).flatMap (gsel ts) ++ (ys.drop i).flatMap (gsel ts) := by rw [← List.flatMap_append, List.take_append_drop]
                rw [e, List.length_append]
                omega
              have h3 := (flat_perm (·.goal) ys ts hyn (fun t ht => (hym _).mpr (bal.mem_iff.mpr (List.mem_map_of_mem ht)))).length_eq
              have h4 : (ys.flatMap (gsel ts)).length = ts.length := h3
              omega
            refine iT ⟨_, rfl, .inl ⟨rfl, _, SqL.of hD4⟩, _, rfl, _, rfl, _, _, rfl, .inl ⟨_, SqL.of hD4, rfl⟩, p, c, _, _, rfl, by omega, by omega, pn4, by omega, fun H5 jj j0 j1 kp5 pn5 => ?_⟩
            obtain ⟨jj, rfl⟩ := Int.eq_ofNat_of_zero_le j0
            have hjj : jj < g'.length := by omega
            obtain ⟨nm, hnm⟩ : ∃ nm, g'[jj]? = some nm := ⟨_, List.getElem?_eq_getElem hjj⟩
            have hD5 := kp_mem kp5 hD4 nDp.1
            have hf5 := kp_mem kp5 hf4 nfd.1
            refine ⟨D, _, _, jj, .str nm, rfl, rfl, hD5, by omega, by omega, by rw [seqIndex_of j0 (by omega)]; rfl, by rw [List.getElem?_map, hnm]; rfl, ?_⟩
            rw [er_map]
            have hqt6 : (upd H5 D (.lst ((g'.eraseIdx jj).map V.str))) q = some (.tup (tupV t)) := by
              have e := kp_mem kp5 hqt (pn4.nl hqt (fun xs z => by cases z)).1
              rw [upd_ne (ne_of e hD5 (by intro z; cases z))]
              exact e
            have hf6 : (upd H5 D (.lst ((g'.eraseIdx jj).map V.str))) fd = some (.dK (kS (fs ++ new))) := by rw [upd_ne nDf.symm]; exact hf5
            have hnk : t.name ∉ (fs ++ new).map (·.1) := by
              rw [List.map_append]
              intro z
              rcases List.mem_append.mp z with z | z
              · rw [fk] at z
                obtain ⟨y', hy', z⟩ := List.mem_flatMap.mp z
                obtain ⟨t', ht', e⟩ := List.mem_map.mp z
                unfold gsel at ht'
                have e2 := name_inj hnd (mof ht') htm e
                have e3 := bof ht'
                simp only [decide_eq_true_eq] at e3
                rw [e2, hg] at e3
                rw [← e3] at hy'
                have hnt : (ys.take (i + 1)).Nodup := hyn.sublist (List.take_sublist _ _)
                rw [List.take_succ, hy] at hnt
                exact (List.nodup_append.mp hnt).2.2 _ hy' y (by simp) rfl
              · rw [nk] at z
                obtain ⟨t', ht', e⟩ := List.mem_map.mp z
                unfold gsel at ht'
                have m1 := mof ht'
                have e2 := name_inj hnd (List.mem_of_mem_take m1) htm e
                have hnt : (ts.take (j + 1)).Nodup := (nodup_of_names hnd).sublist (List.take_sublist _ _)
                rw [et] at hnt
                rw [e2] at m1
                exact (List.nodup_append.mp hnt).2.2 _ m1 t (by simp) rfl
            have lnn : (kS (fs ++ new)).length < sizeLine := by
              unfold kS
              rw [List.length_map, List.length_append, sizeLine_eq]
              have : (gsel (ts.take j) y).length ≤ (ts.take j).length := by unfold gsel; exact List.length_filter_le _ _
              rw [List.length_take] at this
              omega
            refine ⟨_, rfl, _, rfl, q, _, 0, _, rfl, rfl, SqT.of hqt6, rfl, fd, _, rfl, DPut.k (k := Sum.inr t.name) hf6 lnn, ?_⟩
            rw [kS_new (p := (t.name, nm)) hnk, List.append_assoc]
            have pm := erase_perm g' jj hjj
            have enm : g'[jj] = nm := (List.getElem?_eq_some_iff.mp hnm).2
            rw [enm] at pm
            have nvm : nm ∈ names (ssel ts y) := nv.mem_iff.mp (List.mem_append_right _ (List.mem_of_getElem? hnm))
            obtain ⟨u, hu1, hu2⟩ := List.mem_map.mp nvm
            unfold ssel at hu1
            refine ⟨new ++ [(t.name, nm)], g'.eraseIdx jj, ?_, ?_, upd_same, ?_, ?_, ?_, ?_, ?_, ?_, _, rfl⟩
            · have k5 := kp_tr kp4 kp5
              exact kp_at (kp_at k5 hD0) hfd
            · exact ((pn5.upd nDp.1 nDp.2).upd nfd.1 nfd.2).le (by rw [List.length_append]; simp; omega)
            · rw [upd_ne (fun z => by rw [z, hf4] at hq4; cases hq4), upd_ne nDq.symm]
              exact kp_mem kp5 hq4 nq0.1
            · rw [upd_ne nDf]; exact upd_same
            · rw [upd_ne (fun z => by rw [z, hf4] at hl4; cases hl4), upd_ne nDl.symm]
              exact kp_mem kp5 hl4 hlp
            · rw [List.map_append, nk, eg]
              unfold names
              rw [List.map_append]
              rfl
            · refine List.Perm.trans ?_ nv
              rw [List.map_append, List.append_assoc]
              exact List.Perm.append_left _ pm
            · intro pr hpr
              rcases List.mem_append.mp hpr with z | z
              · exact ng pr z
              · rw [List.mem_singleton.mp z]
                have e3 := bof hu1
                simp only [decide_eq_true_eq] at e3
                exact ⟨t, htm, u, mof hu1, rfl, hu2, by rw [e3, hg]⟩
          · rw [show decide (V.str t.goal = V.str y) = false from by simp [hg]]
            have eg : gsel (ts.take (j + 1)) y = gsel (ts.take j) y := by
              unfold gsel
              rw [et, List.filter_append]
              simp [hg]
            exact iF ⟨new, g', kp4, pn4, hf4, hq4, hD4, hl4, by rw [eg]; exact nk, nv, ng, _, rfl⟩
        · rintro σ H4 ⟨new, g', kp4, pn4, hf4, hq4, hD4, hl4, nk, nv, ng, v4, rfl⟩
          rw [List.length_map, tps2.1, List.take_length] at nk
          have ln : new.length = (gsel ts y).length := by
            have := congrArg List.length nk
            unfold names at this
            rw [List.length_map, List.length_map] at this
            exact this
          have lv := nv.length_eq
          rw [List.length_append, List.length_map] at lv
          have lss : (names (ssel ts y)).length = (ssel ts y).length := by unfold names; rw [List.length_map]
          have lgs := sel_len bal y
          have eg : g' = [] := List.eq_nil_of_length_eq_zero (by omega)
          subst eg
          rw [List.append_nil] at nv
          have ety : ys.take (i + 1) = ys.take i ++ [y] := by rw [List.take_succ, hy]; rfl
          refine ⟨fs ++ new, kp4, pn4.le (by rw [List.length_append]; omega), hf4, hq4, ?_, ?_, fun pr hpr => ?_, _, _, _, rfl⟩
          · rw [List.map_append, fk, nk, ety, List.flatMap_append]
            simp
          · rw [List.map_append, ety, List.flatMap_append]
            simp only [List.flatMap_cons, List.flatMap_nil, List.append_nil]
            exact fv.append nv
          · rcases List.mem_append.mp hpr with z | z
            · exact fg pr z
            · exact ng pr z
    · rintro σ H2 ⟨fs, kp2, pn2, hf2, hq2, fk, fv, fg, v3, v4, v5, rfl⟩
      rw [List.length_map, List.take_length] at fk fv
      have hp1 := flat_perm (·.goal) ys ts hyn (fun t ht => (hym _).mpr (bal.mem_iff.mpr (List.mem_map_of_mem ht)))
      have hp2 := flat_perm (·.start) ys ts hyn (fun t ht => (hym _).mpr (List.mem_map_of_mem ht))
      have f1 : (fs.map (·.1)).Perm (names ts) := by
        rw [fk, flat_names]
        exact hp1.map _
      have f2 : (fs.map (·.2)).Perm (names ts) := by
        refine fv.trans ?_
        rw [flat_names]
        exact hp2.map _
      have lfs : fs.length = ts.length := by
        have := f1.length_eq
        unfold names at this
        rw [List.length_map, List.length_map] at this
        exact this
      refine ⟨_, rfl, k H2 fd fs kp2 hfd hf2 ⟨f1, f2, fun pr hpr t u ht hu => ?_⟩ (pn2.le (by omega))⟩
      obtain ⟨t', m1, u', m2, e1, e2, e3⟩ := fg pr hpr
      rw [← e1, lk_of hnd m1] at ht
      rw [← e2, lk_of hnd m2] at hu
      cases ht
      cases hu
      exact e3
end
end N1
set_option maxHeartbeats 8000000
/-! the law's texts -/
namespace N1
open PySem PySem.Spec PyProof.Rows L2 TL
def rAddS : R2 := fun x y H Q => ∃ i j, x = .str i ∧ y = .str j ∧ i.length + j.length ≤ sizeLine ∧ Q (.str (i ++ j)) H
theorem op_addS {X : Cx} : OpR X (binaryOp .Add) rAddS := op_add_str
theorem tab_le {n : Int} {us : List TR} (h0 : 0 ≤ n) (h12 : n ≤ 1000000000000) (hok : ∀ t ∈ us, t.Ok) : ∀ x ∈ tabL n us, x.length ≤ 100 := by
  intro x hx
  have e1 : sP.length = 1 := rfl
  rcases List.mem_cons.mp hx with rfl | hx
  · have := join_le (y := sP) (c := 13) (l := ["day", num n]) (fun x hx => by
      simp only [List.mem_cons, List.not_mem_nil, or_false] at hx
      rcases hx with rfl | rfl
      · decide
      · exact num_len h0 h12)
    rw [e1] at this
    exact Nat.le_trans this (by simp)
  · obtain ⟨t, ht, rfl⟩ := List.mem_map.mp hx
    have ok := hok t ht
    have l1 := num_len ok.l0 ok.l1
    have l2 := num_len (show 0 ≤ t.takes by have := ok.t0; omega) ok.t1
    have a1 := ok.n.2.1
    have a2 := ok.s.2.1
    have a3 := ok.g.2.1
    have := join_le (y := sP) (c := 13) (l := tripW t) (fun x hx => by
      unfold tripW at hx
      split at hx
      · simp only [List.mem_cons, List.not_mem_nil, or_false] at hx
        rcases hx with rfl | rfl | rfl | rfl | rfl | rfl
        · decide
        all_goals omega
      · simp only [List.mem_cons, List.not_mem_nil, or_false] at hx
        rcases hx with rfl | rfl | rfl | rfl | rfl
        · decide
        all_goals omega)
    rw [e1] at this
    have lw : (tripW t).length ≤ 6 := by unfold tripW; split <;> simp
    show (Txt.join sP (tripW t)).length ≤ _
    omega
theorem paired_of {K : PySem.W.Frag} {H : Hp} : ∀ {ps qs : List Addr} {ts : List TR}, ps.length = ts.length → qs.length = ts.length → (∀ (i : Nat) p q t, ps[i]? = some p → qs[i]? = some q → ts[i]? = some t → H p = some (.tup [.str t.name, .ref q])) → Paired (fun p kv => SqT K H p [kV kv.1, kv.2]) ps (byN ts qs)
  | [], [], [], _, _, _ => .nil
  | p :: ps, q :: qs, t :: ts, h1, h2, h => .cons (SqT.of (h 0 p q t rfl rfl rfl)) (paired_of (Nat.succ.inj h1) (Nat.succ.inj h2) fun i p' q' t' a b c => h (i + 1) p' q' t' a b c)
  | [], _ :: _, [], _, h, _ => by simp at h
  | [], [], _ :: _, h, _, _ => by simp at h
  | _ :: _, _, [], h, _, _ => by simp at h
  | [], _ :: _, _ :: _, h, _, _ => by simp at h
  | _ :: _, [], _ :: _, _, h, _ => by simp at h
def spSortL : Sp := fun vs H Q _ => ∃ (a l : Addr) (n : Int) (ts : List TR), vs = [.ref a] ∧ PlnH H a l n ts ∧ (names ts).Nodup ∧ ts.length ≤ 60 ∧ ∀ H' D ps, Same H H' → H' D = some (.lst (ps.map V.ref)) → Tps H' ps (st ts) → Q (.ref D) H'
def spTabTx : Sp := fun vs H Q _ => ∃ (a l : Addr) (n : Int) (ts : List TR), vs = [.ref a] ∧ PlnH H a l n ts ∧ (names ts).Nodup ∧ ts.length ≤ 40 ∧ (∀ t ∈ ts, t.Ok) ∧ 0 ≤ n ∧ n ≤ 1000000000000 ∧ ∀ H', Same H H' → Q (.str (tabT n (st ts))) H'
def spPauTx : Sp := fun vs H Q _ => ∃ (a : Addr) (ws : List (Str × Int)), vs = [.ref a] ∧ H a = some (.dK (kI ws)) ∧ PaOk ws ∧ ∀ H', Same H H' → Q (.str (pauT (nrm ws))) H'
def spPlaTx : Sp := fun vs H Q _ => ∃ (a l wa fa : Addr) (n : Int) (ts : List TR) (ws : List (Str × Int)) (fs : List (Str × Str)), vs = [.ref a, .ref wa, .ref fa] ∧ PlnH H a l n ts ∧ (names ts).Nodup ∧ ts.length ≤ 40 ∧ (∀ t ∈ ts, t.Ok) ∧ 0 ≤ n ∧ n ≤ 1000000000000 ∧
  H wa = some (.dK (kI ws)) ∧ PaOk ws ∧ H fa = some (.dK (kS fs)) ∧ (fs.map (·.1)).Perm (names ts) ∧ (∀ p ∈ fs, NameOk p.1 ∧ NameOk p.2) ∧ ∀ H', Same H H' → Q (.str (planT n (st ts) (nrm ws) (foN (st ts) fs))) H'
section
variable {P : Program} {w : World} {K : PySem.W.Frag} {mg : Str → Option Value} {base : Heap}
theorem ok_sortedL (T : FX P K mg) : FnR P w K mg base CX0 1 (ga K "_law_sorted") spSortL := by
  refine fnr T.f_w_sorted sc_sorted (fun _ _ _ _ _ _ us hl => match us, hl with | [_], _ => rfl) (fun vs H Q E h => ?_) (fun cdv A outer s H vs Q E hr h => ?_)
  · obtain ⟨a, l, n, ts, rfl, _⟩ := h
    rfl
  · obtain ⟨a, l, n, ts, rfl, ⟨qs, ha, hl, tps⟩, hnd, l60, k⟩ := h
    have nd := sc_sorted.nd
    have hu := hu_of hr
    refine ⟨_, pss_cons (ps_set (i := 2) nd rfl (Or.inr rfl) (ct "dict" T (call_dictP rfl) (pa_cons (pe_lc (own := [("_law_trip", 1)]) (g := gName 1) (tt := tYes) (te := tTup (tCons (tOp (rIxT K) (tVar 1) (tC (.int 0))) (tCons (tVar 1) tNil))) rfl nd (pi_list (pe_dget hu (pv 0) pe_str (fun _ _ => rfl))) (blkOk_by (N := ["_law_plain_here", "_law_trip", "_law_names", "_law_name"]) (sc := defScope w_sorted) (by decide +kernel))
          (fun _ _ _ _ _ => pg_name (i := 1) nd rfl (Or.inl rfl)) (fun _ _ _ _ _ => pts_nil) (fun _ _ _ _ _ => pe_tup (pa_cons (pe_ix ix_tup (pv 1) pe_int (fun _ _ => rfl)) (pa_cons (pv 1) pa_nil)))) pa_nil)))
      (pss_one (ps_ret (pe_lc (own := [("_law_name", 3)]) (g := gName 3) (tt := tYes) (te := tDGet (tVar 2) (tVar 3)) rfl nd (pi_list (cb "sorted" T cr_sortedS (pa_cons (pe_lock (pe_lc (own := [("_law_name", 3)]) (g := gName 3) (tt := tYes) (te := tCB rStr1 (tCons (tVar 3) tNil)) rfl nd (pi_keys (pv 2)) (blkOk_by (N := ["_law_plain_here", "_law_trip", "_law_names", "_law_name"]) (sc := defScope w_sorted) (by decide +kernel))
          (fun _ _ _ _ _ => pg_name (i := 3) nd rfl (Or.inl rfl)) (fun _ _ _ _ _ => pts_nil) (fun _ _ _ _ _ => ct "str" T SkE.call_str_str (pa_cons (pv 3) pa_nil)))) pa_nil))) (blkOk_by (N := ["_law_plain_here", "_law_trip", "_law_names", "_law_name"]) (sc := defScope w_sorted) (by decide +kernel))
          (fun _ _ _ _ _ => pg_name (i := 3) nd rfl (Or.inl rfl)) (fun _ _ _ _ _ => pts_nil) (fun _ _ _ _ _ => pe_dget hu (pv 2) (pv 3) (fun _ _ => rfl))))), ?_⟩
    have lbn : (byN ts qs).length = ts.length := by unfold byN; rw [List.length_zipWith, tps.1]; omega
    refine ⟨_, rfl, a, _, rfl, gt_trips ha, l, rfl, ⟨_, SqL.of hl⟩, fun D hD => ?_⟩
    refine lc_it (walk_list (xs := qs.map V.ref)) (fun i H' => ∃ ps : List Addr, ps.length = i ∧ Same H H' ∧ H' D = some (.lst (ps.map V.ref)) ∧ ∀ (j : Nat) p q t, ps[j]? = some p → qs[j]? = some q → ts[j]? = some t → H' p = some (.tup [.str t.name, .ref q]))
      ⟨[], rfl, same_new same_rfl hD, upd_same, fun j p q t e => by simp at e⟩ (fun i H' _ h => SqL.of (let ⟨_, _, s, _⟩ := h; s _ _ hl)) ?_ ?_
    · rintro i x _ Ha hi ⟨ps, lps, sa, hDa, hps⟩ ⟨rfl, hx⟩
      rw [List.length_map] at hi
      rw [List.getElem?_map] at hx
      obtain ⟨q, hq⟩ : ∃ q, qs[i]? = some q := ⟨_, List.getElem?_eq_getElem hi⟩
      rw [hq] at hx
      cases hx
      obtain ⟨t, ht⟩ : ∃ t, ts[i]? = some t := ⟨_, List.getElem?_eq_getElem (by rw [← tps.1]; exact hi)⟩
      have e := sa _ _ (tps.2 i q t hq ht)
      refine ⟨rfl, _, rfl, q, _, 0, _, rfl, rfl, SqT.of e, rfl, _, rfl, (show (2 : Nat) ≤ sizeLine by decide), fun p hp => ?_⟩
      have sp : Same Ha (upd Ha p (.tup [.str t.name, .ref q])) := same_new same_rfl hp
      refine ⟨ps.map V.ref, sp _ _ hDa, by rw [sizeLine_eq, List.length_map]; have := tps.1; omega, ps ++ [p], by rw [List.length_append, lps]; rfl, same_at (same_tr sa sp) hD, by rw [upd_same, List.map_append]; rfl, fun j p' q' t' e1 e2 e3 => ?_⟩
      have key : (upd Ha p (.tup [.str t.name, .ref q])) p' = some (.tup [.str t'.name, .ref q']) := by
        by_cases hj : j < ps.length
        · rw [List.getElem?_append_left hj] at e1
          exact sp _ _ (hps j p' q' t' e1 e2 e3)
        · have hj2 : j = ps.length := by
            have := (List.getElem?_eq_some_iff.mp e1).1
            rw [List.length_append] at this
            simp at this
            omega
          subst hj2
          rw [List.getElem?_append_right (Nat.le_refl _)] at e1
          simp at e1
          rw [lps] at e2 e3
          rw [hq] at e2
          rw [ht] at e3
          cases e2
          cases e3
          rw [← e1]
          exact upd_same
      rw [upd_ne (fun z => by
        have hDp := sp _ _ hDa
        rw [z, hDp] at key
        cases key)]
      exact key
    · rintro H3 ⟨ps, lps, s3, hD3, hps⟩
      rw [List.length_map] at lps
      refine ⟨D, ps, byN ts qs, rfl, SqL.of hD3, paired_of (by rw [lps, tps.1]) tps.1 hps, fun nm hnm => ?_⟩
      rw [mergeK_nil (fun q _ => by simp) (by rw [byN_keys tps.1.symm]; exact inr_nodup hnd), List.nil_append]
      have s4 : Same H (upd H3 nm (.dK (byN ts qs))) := same_new s3 hnm
      have hn4 : (upd H3 nm (.dK (byN ts qs))) nm = some (.dK (byN ts qs)) := upd_same
      generalize upd H3 nm (.dK (byN ts qs)) = H4 at s4 hn4
      have eK : (byN ts qs).map (fun kv => kV kv.1) = (names ts).map V.str := by
        have := congrArg (List.map kV) (byN_keys tps.1.symm)
        rw [List.map_map, List.map_map] at this
        exact this
      have lnm : (names ts).length = ts.length := by unfold names; rw [List.length_map]
      refine ⟨nm, _, hn4, trivial, fun od => ⟨_, rfl, nm, od, rfl, .inl ⟨_, upd_same, fun D2 hD2 => lc_D (fun kv => kV kv.1) upd_same (by omega) hD2 ?_ ?_⟩⟩⟩
      · rintro ⟨ky, v⟩ hy H5 Qk s5 hk
        have : ky ∈ (byN ts qs).map (·.1) := List.mem_map.mpr ⟨_, hy, rfl⟩
        rw [byN_keys tps.1.symm] at this
        obtain ⟨x, _, rfl⟩ := List.mem_map.mp this
        exact ⟨rfl, _, rfl, _, rfl, hk _ same_rfl⟩
      · intro H5 s5 hL5
        rw [eK] at hL5
        have nDn : D2 ≠ nm := fun z => by rw [z, upd_same] at hD2; cases hD2
        have su := unlock_same s5 hn4
        refine ⟨s5 _ _ upd_same, D2, names ts, rfl, SqL.of (by rw [upd_ne nDn]; exact hL5), by omega, fun ys q5 hperm hsort hq5 => ?_⟩
        obtain ⟨rfl, s6, _⟩ := srt_fin su hperm hsort hq5
        refine ⟨q5, rfl, ⟨_, SqL.of upd_same⟩, fun D3 hD3 => ?_⟩
        refine lc_A (sn (names ts)) V.str (fun x => match adr qs ts x with | some b => V.ref b | none => V.non) (SqL.of upd_same) (by rw [sn_length]; omega) hD3 ?_ ?_
        · intro x hx H7 Qk s7 hk
          obtain ⟨j, b, t, e1, e2, e3, e4⟩ := adr_lk tps.1 (mem_sn.mp hx)
          have et := (lk_some e2).2
          have ev : valV (byN ts qs) (Sum.inr x) = some (.ref b) := by
            rw [← et]
            exact valV_of_get (by rw [byN_keys tps.1.symm]; exact inr_nodup hnd) (byN_get e4 e3)
          refine ⟨rfl, _, rfl, _, rfl, nm, _, rfl, .inl ⟨byN ts qs, Sum.inr x, .inl (s7 _ _ (s6 _ _ hn4)), rfl, ev.symm⟩, ?_⟩
          have := hk _ (same_rfl (H := H7))
          rw [e1] at this
          exact this
        · intro H7 s7 hL7
          have s07 := same_tr s4 (same_tr s6 s7)
          have sf := sel_fm tps.1 (sn (names ts)) fun x hx => mem_sn.mp hx
          refine k H7 D3 ((sn (names ts)).filterMap (adr qs ts)) s07 ?_ ⟨sf.1, fun i b t e1 e2 => ?_⟩
          · rw [hL7]
            have : ∀ l : List Str, (∀ x ∈ l, x ∈ names ts) → l.map (fun x => match adr qs ts x with | some b => V.ref b | none => V.non) = (l.filterMap (adr qs ts)).map V.ref := by
              intro l
              induction l with
              | nil => intro _; rfl
              | cons x l ih =>
                intro hl
                obtain ⟨j, b, t, e1, _⟩ := adr_lk tps.1 (hl x List.mem_cons_self)
                rw [List.map_cons, ih fun y hy => hl y (List.mem_cons_of_mem _ hy), List.filterMap_cons_some e1, List.map_cons, e1]
            rw [this _ fun x hx => mem_sn.mp hx]
          · obtain ⟨j, f1, f2⟩ := sf.2 i b t e1 e2
            exact s07 _ _ (tps.2 j b t f1 f2)
end
end N1
set_option maxHeartbeats 8000000
/-! the law's texts of tables, pauses and plans -/
namespace N1
open PySem PySem.Spec PyProof.Rows L2 TL
theorem st_nodup {ts : List TR} (h : (names ts).Nodup) : (names (st ts)).Nodup := by rw [names_st]; exact sn_nodup h
theorem st_mem {ts : List TR} (hn : (names ts).Nodup) {p : TR → Prop} (h : ∀ t ∈ ts, p t) : ∀ t ∈ st ts, p t := fun t ht => h t ((mem_st hn).mp ht)
theorem st_length {ts : List TR} (hn : (names ts).Nodup) : (st ts).length = ts.length := (st_perm hn).length_eq
theorem pauW_app (ps : List (Str × Int)) (x : Str) (i : Int) : pauW (ps ++ [(x, i)]) = pauW ps ++ [x, num i] := by
  unfold pauW
  rw [List.flatMap_append]
  rfl
theorem day_txt (n : Int) : ("day " : Str) ++ num n = dayT n := by
  rw [← day_fs]
  refine ext_tl ?_
  simp only [tl_append]
  rw [show tl Str.empty = [] from rfl]
  simp
section
variable {P : Program} {w : World} {K : PySem.W.Frag} {mg : Str → Option Value} {base : Heap}
theorem ok_table_text (T : FX P K mg) : FnR P w K mg base CX0 2 (ga K "_law_table_text") spTabTx := by
  refine fnr T.f_w_table_text sc_table_text (fun _ _ _ _ _ _ us hl => match us, hl with | [_], _ => rfl) (fun vs H Q E h => ?_) (fun cdv A outer s H vs Q E hr h => ?_)
  · obtain ⟨a, l, n, ts, rfl, _⟩ := h
    rfl
  · obtain ⟨a, l, n, ts, rfl, pl, hnd, l40, hok, h0, h12, k⟩ := h
    obtain ⟨qs, ha, hl, tps⟩ := id pl
    have nd := sc_table_text.nd
    have hu := hu_of hr
    refine ⟨_, pss_one (ps_ret (pe_join pe_str (pe_op op_cat (pe_lst (pa_cons (pe_op op_addS pe_str (ct "str" T call_str_int (pa_cons (pe_dget hu (pv 0) pe_str (fun _ _ => rfl)) pa_nil))) pa_nil))
      (pe_lc (own := [("_law_trip", 1)]) (g := gName 1) (tt := tYes) (te := tCallR spTripTx E0 (tCons (tVar 1) tNil)) rfl nd (pi_list (cl "_law_sorted" T (ok_sortedL T) hr (pa_cons (pv 0) pa_nil))) (blkOk_by (N := ["_law_plain_here", "_law_trip"]) (sc := defScope w_table_text) (by decide +kernel))
        (fun _ _ _ _ _ => pg_name (i := 1) nd rfl (Or.inl rfl)) (fun _ _ _ _ _ => pts_nil) (fun _ _ _ _ _ => cl "_law_trip_text" T (ok_trip_text T) hr (pa_cons (pv 1) pa_nil)))))), ?_⟩
    have nl := num_len h0 h12
    have hs : 100 ≤ sizeLine := by decide
    refine ⟨⟨_, rfl⟩, _, rfl, a, _, rfl, gt_size ha, n, rfl, log_ok h0 h12, ("day " : Str), num n, rfl, rfl, by rw [show ("day " : Str).length = 4 from rfl]; omega, (show (1 : Nat) ≤ sizeLine by decide), fun dl hdl => ?_⟩
    rw [day_txt]
    have s1 : Same H (upd H dl (.lst [V.str (dayT n)])) := same_new same_rfl hdl
    have hd1 : (upd H dl (.lst [V.str (dayT n)])) dl = some (.lst [V.str (dayT n)]) := upd_same
    generalize upd H dl (.lst [V.str (dayT n)]) = H1 at s1 hd1
    refine ⟨_, rfl, a, l, n, ts, rfl, pl.up s1, hnd, by omega, fun H2 D ps s2 hD tp => ⟨D, rfl, ⟨_, SqL.of hD⟩, fun D2 hD2 => ?_⟩⟩
    have lst := st_length hnd
    have okst := st_mem hnd hok
    refine lc_A (ps.zip (st ts)) (fun x => V.ref x.1) (fun x => V.str (tripT x.2)) (by rw [zip_fst tp.1]; exact SqL.of hD) (by rw [List.length_zip]; omega) hD2 ?_ ?_
    · intro x hx H3 Qk s3 hk
      obtain ⟨e1, e2⟩ := tp.zip x hx
      exact ⟨rfl, _, rfl, x.1, x.2, rfl, s3 _ _ e1, okst _ e2, fun H4 s4 => hk _ s4⟩
    · intro H3 s3 hL3
      rw [zip_snd tp.1 (fun t => V.str (tripT t))] at hL3
      have el : [V.str (dayT n)] ++ (st ts).map (fun t => V.str (tripT t)) = (tabL n (st ts)).map V.str := by
        unfold tabL
        rw [List.map_cons, List.map_map]
        rfl
      have s13 := same_tr s2 s3
      refine ⟨dl, D2, _, _, rfl, rfl, s13 _ _ hd1, hL3, by simp only [List.length_cons, List.length_map, List.length_nil]; rw [sizeLine_eq]; omega, fun c2 hc2 => ?_⟩
      have sm := sum_le (tab_le (n := n) (us := st ts) h0 h12 okst)
      have lt : (tabL n (st ts)).length = (st ts).length + 1 := by unfold tabL; simp
      rw [lt] at sm
      refine ⟨_, c2, tabL n (st ts), rfl, rfl, .inl (SqL.of (by rw [upd_same, el])), ?_, k _ (same_new (same_tr s1 s13) hc2)⟩
      rw [lt, show ("\n" : Str).length = 1 from rfl]
      omega
theorem ok_pauses_text (T : FX P K mg) : FnR P w K mg base CX0 1 (ga K "_law_pauses_text") spPauTx := by
  refine fnr T.f_w_pauses_text sc_pauses_text (fun _ _ _ _ _ _ us hl => match us, hl with | [_], _ => rfl) (fun vs H Q E h => ?_) (fun cdv A outer s H vs Q E hr h => ?_)
  · obtain ⟨a, ws, rfl, _⟩ := h
    rfl
  · obtain ⟨a, ws, rfl, ha, pok, k⟩ := h
    have nd := sc_pauses_text.nd
    have hu := hu_of hr
    refine ⟨_, pss_cons (ps_set (i := 1) nd rfl (Or.inl rfl) (pe_lst (pa_cons pe_str pa_nil)))
      (pss_cons (ps_for PassesOwn.never rfl (pi_list (cb "sorted" T cr_sortedS (pa_cons (pe_lock (pe_lc (own := [("_law_place", 2)]) (g := gName 2) (tt := tYes) (te := tCB rStr1 (tCons (tVar 2) tNil)) rfl nd (pi_keys (pv 0)) (blkOk_by (N := ["_law_waits", "_law_words", "_law_place"]) (sc := defScope w_pauses_text) (by decide +kernel))
          (fun _ _ _ _ _ => pg_name (i := 2) nd rfl (Or.inl rfl)) (fun _ _ _ _ _ => pts_nil) (fun _ _ _ _ _ => ct "str" T SkE.call_str_str (pa_cons (pv 2) pa_nil)))) pa_nil))) (pg_name (i := 2) nd rfl (Or.inl rfl))
        (pss_one (ps_if (pt_cmpR op_gt (pe_dget hu (pv 0) (pv 2) (fun _ _ => rfl)) pe_int (nomark _))
          (pss_one (ps_set (i := 1) nd rfl (Or.inl rfl) (pe_op op_cat (pv 1) (pe_lst (pa_cons (pv 2) (pa_cons (ct "str" T call_str_int (pa_cons (pe_dget hu (pv 0) (pv 2) (fun _ _ => rfl)) pa_nil)) pa_nil)))))) pss_nil)))
      (pss_one (ps_ret (pe_join pe_str (pv 1))))), ?_⟩
    have lk : (kI ws).length = ws.length := by unfold kI; rw [List.length_map]
    have w60 := pok.sz
    refine ⟨(show (1 : Nat) ≤ sizeLine by decide), fun wl hwl => ?_⟩
    have s0 : Same H (upd H wl (.lst [V.str "pauses"])) := same_new same_rfl hwl
    have hw0 : (upd H wl (.lst [V.str "pauses"])) wl = some (.lst [V.str "pauses"]) := upd_same
    generalize upd H wl (.lst [V.str "pauses"]) = H0 at s0 hw0
    have ha0 := s0 _ _ ha
    refine ⟨a, _, ha0, trivial, fun od => ⟨_, rfl, a, od, rfl, .inl ⟨_, upd_same, fun D hD => lc_D (fun kv => kV kv.1) upd_same (by omega) hD ?_ ?_⟩⟩⟩
    · rintro ⟨ky, v⟩ hy H4 Qk s4 hk
      obtain ⟨p, hp, e⟩ := List.mem_map.mp hy
      cases e
      exact ⟨rfl, _, rfl, _, rfl, hk _ same_rfl⟩
    · intro H3 s3 hL3
      have eK : (kI ws).map (fun kv => kV kv.1) = (keysI ws).map V.str := by unfold kI keysI; rw [List.map_map, List.map_map]; rfl
      rw [eK] at hL3
      have nDf : D ≠ a := fun z => by rw [z, upd_same] at hD; cases hD
      have su := unlock_same s3 ha0
      have lke : (keysI ws).length = ws.length := by unfold keysI; rw [List.length_map]
      refine ⟨s3 _ _ upd_same, D, keysI ws, rfl, SqL.of (by rw [upd_ne nDf]; exact hL3), by omega, fun ys q5 hperm hsort hq5b => ?_⟩
      obtain ⟨rfl, s5, hq5⟩ := srt_fin su hperm hsort hq5b
      have hq6 : (upd (upd H3 a (.dK (kI ws))) q5 (.lst ((sn (keysI ws)).map V.str))) q5 = some (.lst ((sn (keysI ws)).map V.str)) := upd_same
      generalize upd (upd H3 a (.dK (kI ws))) q5 (.lst ((sn (keysI ws)).map V.str)) = H5 at s5 hq6
      refine ⟨q5, rfl, ⟨_, SqL.of hq6⟩, ?_⟩
      have pick : ∀ i, ((sn (keysI ws)).take i).filter (fun x => decide (0 < nzI ws x)) = ((sn (keysI ws)).take i).filter (fun x => decide (nzI ws x ≠ 0)) := fun i => List.filter_congr fun x hx => by
        have hm : x ∈ keysI ws := mem_sn.mp (List.mem_of_mem_take hx)
        obtain ⟨p, hp, e⟩ := List.mem_map.mp hm
        have : nzI ws x = p.2 := by rw [← e]; unfold nzI; rw [lkI_of pok.nd hp]; rfl
        rw [this]
        have := (pok.lo p hp).1
        by_cases h : p.2 = 0
        · simp [h]
        · have h2 : 0 < p.2 := by omega
          simp [h, h2]
      refine for_it (walk_list (xs := (sn (keysI ws)).map V.str)) (fun i σ H' => ∃ wl', Same H H' ∧ H' q5 = some (.lst ((sn (keysI ws)).map V.str)) ∧ H' wl' = some (.lst ((pauW ((((sn (keysI ws)).take i).filter (fun x => decide (0 < nzI ws x))).map fun x => (x, nzI ws x))).map V.str)) ∧ ∃ v2, σ = [some (.ref a), some (.ref wl'), v2])
        ⟨wl, same_tr s0 s5, hq6, s5 _ _ hw0, _, rfl⟩ (fun i σ H' _ h => SqL.of (let ⟨_, _, h, _⟩ := h; h)) ?_ ?_
      · rintro i v σ _ H6 hi ⟨wl', s6, h6q, h6w, v2, rfl⟩ ⟨rfl, hx⟩
        rw [List.getElem?_map] at hx
        obtain ⟨x, hx2, rfl⟩ : ∃ x, (sn (keysI ws))[i]? = some x ∧ v = V.str x := by
          cases e : (sn (keysI ws))[i]? with
          | none => rw [e] at hx; cases hx
          | some z => rw [e] at hx; exact ⟨z, rfl, (Option.some.inj hx).symm⟩
        have hxk : x ∈ keysI ws := mem_sn.mp (List.mem_of_getElem? hx2)
        obtain ⟨p, hp, rfl⟩ := List.mem_map.mp hxk
        have enz : nzI ws p.1 = p.2 := by unfold nzI; rw [lkI_of pok.nd hp]; rfl
        have ev : valV (kI ws) (Sum.inr p.1) = some (.int p.2) := by rw [valV_kI, lkI_of pok.nd hp]; rfl
        have et : (sn (keysI ws)).take (i + 1) = (sn (keysI ws)).take i ++ [p.1] := by rw [List.take_succ, hx2]; rfl
        obtain ⟨o1, o2⟩ := pok.lo p hp
        have ha6 := s6 _ _ ha
        refine ⟨_, rfl, _, rfl, a, _, rfl, .inl ⟨kI ws, Sum.inr p.1, .inl ha6, rfl, ev.symm⟩, _, _, rfl, rfl, _, rfl, ?_⟩
        by_cases h0 : 0 < p.2
        · rw [show decide ((0 : Int) < p.2) = true from by simp [h0]]
          have ll : ((pauW ((((sn (keysI ws)).take i).filter (fun x => decide (0 < nzI ws x))).map fun x => (x, nzI ws x))).map V.str).length ≤ 130 := by
            rw [List.length_map, pauW_len, List.length_map]
            have h1 := List.length_filter_le (fun x => decide (0 < nzI ws x)) ((sn (keysI ws)).take i)
            rw [List.length_take, sn_length] at h1
            omega
          refine iT ⟨_, rfl, _, rfl, _, rfl, _, rfl, a, _, rfl, .inl ⟨kI ws, Sum.inr p.1, .inl ha6, rfl, ev.symm⟩, p.2, rfl, log_ok o1 o2, (show (2 : Nat) ≤ sizeLine by decide), fun nl hnl => ?_⟩
          have s7 : Same H6 (upd H6 nl (.lst [V.str p.1, V.str (num p.2)])) := same_new same_rfl hnl
          refine ⟨wl', nl, _, _, rfl, rfl, s7 _ _ h6w, upd_same, by rw [sizeLine_eq]; simp only [List.length_cons, List.length_nil]; omega, fun cl hcl => ?_⟩
          refine ⟨cl, same_new (same_tr s6 s7) hcl, ?_, ?_, _, rfl⟩
          · have := s7 _ _ h6q
            rw [upd_ne (ne_of_none this hcl)]
            exact this
          · rw [upd_same, et, List.filter_append, List.map_append]
            have : ([p.1].filter (fun x => decide (0 < nzI ws x))).map (fun x => (x, nzI ws x)) = [(p.1, p.2)] := by
              rw [List.filter_cons_of_pos (by rw [enz]; simpa using h0)]
              simp [enz]
            rw [this, pauW_app, List.map_append]
            rfl
        · rw [show decide ((0 : Int) < p.2) = false from by simp; omega]
          refine iF ⟨wl', s6, h6q, ?_, _, rfl⟩
          rw [et, List.filter_append, List.map_append]
          have : ([p.1].filter (fun x => decide (0 < nzI ws x))).map (fun x => (x, nzI ws x)) = [] := by
            rw [List.filter_cons_of_neg (by rw [enz]; simpa using h0)]
            rfl
          rw [this, List.append_nil]
          exact h6w
      · rintro σ H6 ⟨wl', s6, h6q, h6w, v2, rfl⟩
        rw [List.length_map] at h6w
        have hp2 := pick (sn (keysI ws)).length
        rw [hp2, List.take_length, sn_filter] at h6w
        have en : (sn ((keysI ws).filter fun x => decide (nzI ws x ≠ 0))).map (fun x => (x, nzI ws x)) = nrm ws := rfl
        rw [en] at h6w
        have pn := pok.nrm
        have pnn : ∀ p ∈ nrm ws, NameOk p.1 ∧ 0 ≤ p.2 ∧ p.2 ≤ 1000000000000 := fun p hp => ⟨pn.nm p hp, pn.lo p hp⟩
        refine ⟨⟨_, rfl⟩, _, rfl, _, wl', pauW (nrm ws), rfl, rfl, .inl (SqL.of h6w), ?_, k _ s6⟩
        have hh : ∀ x ∈ pauW (nrm ws), x.length ≤ 100 := by
          intro x hx
          rcases List.mem_cons.mp hx with rfl | hx
          · decide
          · obtain ⟨p, hp, hx⟩ := List.mem_flatMap.mp hx
            obtain ⟨o1, o2, o3⟩ := pnn p hp
            have l1 := o1.2.1
            have l2 := num_len o2 o3
            simp only [List.mem_cons, List.not_mem_nil, or_false] at hx
            rcases hx with rfl | rfl <;> omega
        have sm := sum_le hh
        have ln := pn.sz
        rw [pauW_len] at sm ⊢
        rw [show (" " : Str).length = 1 from rfl]
        omega
theorem ok_plan_text (T : FX P K mg) : FnR P w K mg base CX0 3 (ga K "_law_plan_text") spPlaTx := by
  refine fnr T.f_w_plan_text sc_plan_text (fun _ _ _ _ _ _ us hl => match us, hl with | [_, _, _], _ => rfl) (fun vs H Q E h => ?_) (fun cdv A outer s H vs Q E hr h => ?_)
  · obtain ⟨a, l, wa, fa, n, ts, ws, fs, rfl, _⟩ := h
    rfl
  · obtain ⟨a, l, wa, fa, n, ts, ws, fs, rfl, pl, hnd, l40, hok, h0, h12, hwa, pok, hfa, f1, fok, k⟩ := h
    have nd := sc_plan_text.nd
    have hu := hu_of hr
    refine ⟨_, pss_cons (ps_setLc (i := 4) (own := [("_law_name", 3)]) (g := gName 3) (tt := tYes) (te := tOp rAddS (tOp rAddS (tVar 3) (tC (.str sP))) (tDGet (tVar 2) (tVar 3))) rfl nd rfl rfl (sw_true rfl rfl rfl (by decide +kernel)) (pi_list (cb "sorted" T cr_sortedS (pa_cons (pe_lock (pe_lc (own := [("_law_name", 3)]) (g := gName 3) (tt := tYes) (te := tCB rStr1 (tCons (tVar 3) tNil)) rfl nd (pi_keys (pv 2)) (blkOk_by (N := ["_law_plain_here", "_law_waits", "_law_follows_here", "_law_name", "_law_rows"]) (sc := defScope w_plan_text) (by decide +kernel))
          (fun _ _ _ _ _ => pg_name (i := 3) nd rfl (Or.inl rfl)) (fun _ _ _ _ _ => pts_nil) (fun _ _ _ _ _ => ct "str" T SkE.call_str_str (pa_cons (pv 3) pa_nil)))) pa_nil))) (blkOk_by (N := ["_law_plain_here", "_law_waits", "_law_follows_here", "_law_name", "_law_rows"]) (sc := defScope w_plan_text) (by decide +kernel))
          (fun _ _ _ _ _ => pg_name (i := 3) nd rfl (Or.inl rfl)) (fun _ _ _ _ _ => pts_nil) (fun _ _ _ _ _ => pe_op op_addS (pe_op op_addS (pv 3) pe_str) (pe_dget hu (pv 2) (pv 3) (fun _ _ => rfl))))
      (pss_one (ps_ret (pe_join pe_str (pe_op op_cat (pe_lst (pa_cons (cl "_law_table_text" T (ok_table_text T) hr (pa_cons (pv 0) pa_nil)) (pa_cons (cl "_law_pauses_text" T (ok_pauses_text T) (hr.mono (by decide)) (pa_cons (pv 1) pa_nil)) pa_nil))) (pv 4))))), ?_⟩
    have hndf : (fs.map (·.1)).Nodup := f1.nodup_iff.mpr hnd
    have lfs : fs.length = ts.length := by
      have := f1.length_eq
      unfold names at this
      rw [List.length_map, List.length_map] at this
      exact this
    have lk : (kS fs).length = fs.length := by unfold kS; rw [List.length_map]
    refine ⟨fa, _, hfa, trivial, fun od => ⟨_, rfl, fa, od, rfl, .inl ⟨_, upd_same, fun D hD => lc_D (fun kv => kV kv.1) upd_same (by omega) hD ?_ ?_⟩⟩⟩
    · rintro ⟨ky, v⟩ hy H4 Qk s4 hk
      obtain ⟨p, hp, e⟩ := List.mem_map.mp hy
      cases e
      exact ⟨rfl, _, rfl, _, rfl, hk _ same_rfl⟩
    · intro H3 s3 hL3
      rw [kS_kV] at hL3
      have nDf : D ≠ fa := fun z => by rw [z, upd_same] at hD; cases hD
      have su := unlock_same s3 hfa
      refine ⟨s3 _ _ upd_same, D, fs.map (·.1), rfl, SqL.of (by rw [upd_ne nDf]; exact hL3), by rw [List.length_map]; omega, fun ys q5 hperm hsort hq5b => ?_⟩
      obtain ⟨rfl, s5, hq5⟩ := srt_fin su hperm hsort hq5b
      have esn : sn (fs.map (·.1)) = names (st ts) := by rw [names_st, sn_congr f1]
      refine ⟨q5, rfl, ⟨_, SqL.of upd_same⟩, fun D3 hD3 => ?_⟩
      refine lc_A (sn (fs.map (·.1))) V.str (fun x => V.str (rowT (x, nxt fs x))) (SqL.of upd_same) (by rw [sn_length, List.length_map]; omega) hD3 ?_ ?_
      · intro x hx H7 Qk s7 hk
        obtain ⟨pr, hpr, rfl⟩ := mem_key (mem_sn.mp hx)
        obtain ⟨o1, o2⟩ := fok pr hpr
        have hs : 200 ≤ sizeLine := by decide
        have l1 := o1.2.1
        have l2 := o2.2.1
        refine ⟨rfl, _, rfl, pr.1, sP, rfl, rfl, by rw [lenP]; omega, _, rfl, _, rfl, fa, _, rfl, .inl ⟨kS fs, Sum.inr pr.1, .inl (s7 _ _ (s5 _ _ hfa)), rfl, (kS_get hndf hpr).symm⟩, pr.1 ++ sP, pr.2, rfl, rfl, by simp only [Str.length_append, lenP]; omega, ?_⟩
        have := hk _ (same_rfl (H := H7))
        rw [nxt_of hndf hpr, ← row_fs2, ← app_assoc] at this
        exact this
      · intro H7 s7 hL7
        have s07 := same_tr s5 s7
        refine ⟨⟨_, rfl⟩, _, rfl, a, l, n, ts, rfl, pl.up s07, hnd, l40, hok, h0, h12, fun H8 s8 => ?_⟩
        have s08 := same_tr s07 s8
        refine ⟨_, rfl, wa, ws, rfl, s08 _ _ hwa, pok, fun H9 s9 => ?_⟩
        have s09 := same_tr s08 s9
        refine ⟨(show (2 : Nat) ≤ sizeLine by decide), fun tl htl => ?_⟩
        have sA : Same H9 (upd H9 tl (.lst [V.str (tabT n (st ts)), V.str (pauT (nrm ws))])) := same_new same_rfl htl
        have lsf : (sn (fs.map (·.1))).length = ts.length := by rw [sn_length, List.length_map, lfs]
        refine ⟨_, rfl, tl, D3, _, _, rfl, rfl, upd_same, sA _ _ (s9 _ _ (s8 _ _ hL7)), by rw [sizeLine_eq]; simp only [List.length_cons, List.length_nil, List.length_map]; omega, fun cl hcl => ?_⟩
        have eRows : (sn (fs.map (·.1))).map (fun x => V.str (rowT (x, nxt fs x))) = ((foN (st ts) fs).map rowT).map V.str := by
          rw [esn]
          unfold foN
          rw [List.map_map, List.map_map]
          rfl
        have pn := pok.nrm
        have okst := st_mem hnd hok
        have fok2 : ∀ p ∈ foN (st ts) fs, NameOk p.1 ∧ NameOk p.2 := fun p hp => by
          have pm := foN_perm (us := st ts) (fs := fs) (st_nodup hnd) (by rw [names_st]; exact f1.trans (sn_perm _).symm)
          exact fok p (pm.mem_iff.mpr hp)
        refine ⟨_, cl, tabT n (st ts) :: pauT (nrm ws) :: (foN (st ts) fs).map rowT, rfl, rfl, .inl (SqL.of (by rw [upd_same, eRows]; rfl)), ?_, ?_⟩
        · have sm := sum_le (c := 13000) (l := tabT n (st ts) :: pauT (nrm ws) :: (foN (st ts) fs).map rowT) (by
            intro x hx
            rcases List.mem_cons.mp hx with rfl | hx
            · have := tabT_le (us := st ts) (by rw [st_length hnd]; exact l40) (tab_le h0 h12 okst); omega
            rcases List.mem_cons.mp hx with rfl | hx
            · exact pauT_le (fun p hp => ⟨pn.nm p hp, pn.lo p hp⟩) pn.sz
            · obtain ⟨pr, hpr, rfl⟩ := List.mem_map.mp hx
              have := rowT_le (fok2 pr hpr)
              omega)
          have le : (tabT n (st ts) :: pauT (nrm ws) :: (foN (st ts) fs).map rowT).length = ts.length + 2 := by
            unfold foN names
            simp [st_length hnd]
          rw [le] at sm ⊢
          rw [show ("\n" : Str).length = 1 from rfl]
          omega
        · have e : planT n (st ts) (nrm ws) (foN (st ts) fs) = Txt.join "\n" (tabT n (st ts) :: pauT (nrm ws) :: (foN (st ts) fs).map rowT) := by
            unfold planT planL tabT
            rw [join_eq, join_eq, join_eq]
            exact (sj_head sN (by unfold tabL; simp)).symm
          rw [← e]
          exact k _ (same_new (same_tr s09 sA) hcl)
end
end N1
set_option maxHeartbeats 8000000
/-! the law's pauses, its things -/
namespace N1
open PySem PySem.Spec PyProof.Rows L2 TL
structure LtOk (n : Int) (ts : List TR) : Prop where
  nd : (names ts).Nodup
  ok : ∀ t ∈ ts, t.Ok
  lv : ∀ t ∈ ts, t.leaves < n
  few : Few ts
  bal : (starts ts).Perm (goals ts)
  l7 : ts.length ≤ 7
  n1 : 1 ≤ n
  n12 : n ≤ 1000000000000
def cap (t : TR) : TR := { t with takes := if (10 : Int) ^ (12 : Int).toNat < t.takes then (10 : Int) ^ (12 : Int).toNat else t.takes }
theorem PL9_ok : ∀ PL ∈ PL9, ∀ x ∈ PL, NameOk x := by decide +kernel
theorem lt_of {n : Int} {ts : List TR} (h : LwOk n ts) (h1 : 1 ≤ n) (h2 : n ≤ 1000000000000) : LtOk n (ts.map cap) := by
  obtain ⟨PL, hPL, dr⟩ := h.pl
  have hn : names (ts.map cap) = names ts := by unfold names; rw [List.map_map]; rfl
  have hs : starts (ts.map cap) = starts ts := by unfold starts; rw [List.map_map]; rfl
  have hg : goals (ts.map cap) = goals ts := by unfold goals; rw [List.map_map]; rfl
  have z12 : (10 : Int) ^ (12 : Int).toNat = 1000000000000 := rfl
  refine ⟨by rw [hn]; exact h.nd, fun t ht => ?_, fun t ht => ?_, ⟨PL, by have := (PL9_len hPL).2; omega, fun t ht => ?_⟩, by rw [hs, hg]; exact h.bal, by rw [List.length_map]; exact h.l7, h1, h2⟩
  all_goals obtain ⟨u, hu, rfl⟩ := List.mem_map.mp ht
  · have d := dr u hu
    refine ⟨h.nm u hu, PL9_ok PL hPL _ d.s, PL9_ok PL hPL _ d.g, d.l0, ?_, ?_, ?_, d.st⟩
    · have := d.l1; show u.leaves ≤ _; omega
    · have := d.t0; unfold cap; dsimp only; split <;> omega
    · unfold cap; dsimp only; split <;> omega
  · exact (dr u hu).l1
  · exact ⟨(dr u hu).s, (dr u hu).g⟩
theorem lt_nil {n : Int} (h1 : 1 ≤ n) (h2 : n ≤ 1000000000000) : LtOk n [] :=
  ⟨.nil, fun _ h => (by cases h), fun _ h => (by cases h), ⟨[], by decide, fun _ h => (by cases h)⟩, .refl _, by decide, h1, h2⟩
theorem keysI_put (l : List (Str × Int)) (x : Str) (n : Int) : keysI (putI l x n) = if x ∈ keysI l then keysI l else keysI l ++ [x] := by
  unfold putI
  split
  · unfold keysI
    rw [List.map_map]
    refine List.map_congr_left fun p _ => ?_
    show (if p.1 = x then (p.1, n) else p).1 = p.1
    split <;> rfl
  · unfold keysI
    rw [List.map_append]
    rfl
theorem PaOk.put {l : List (Str × Int)} {x : Str} {n : Int} (h : PaOk l) (hx : NameOk x) (h0 : 0 ≤ n) (h1 : n ≤ 1000000000000) (hl : l.length ≤ 59) : PaOk (putI l x n) := by
  have hm : ∀ p ∈ putI l x n, NameOk p.1 ∧ 0 ≤ p.2 ∧ p.2 ≤ 1000000000000 := by
    intro p hp
    unfold putI at hp
    split at hp
    · obtain ⟨q, hq, rfl⟩ := List.mem_map.mp hp
      split
      · exact ⟨h.nm q hq, h0, h1⟩
      · exact ⟨h.nm q hq, h.lo q hq⟩
    · rcases List.mem_append.mp hp with z | z
      · exact ⟨h.nm p z, h.lo p z⟩
      · rw [List.mem_singleton.mp z]; exact ⟨hx, h0, h1⟩
  refine ⟨?_, fun p hp => (hm p hp).1, fun p hp => (hm p hp).2, ?_⟩
  · rw [keysI_put]
    split
    · exact h.nd
    · rename_i hni
      exact nd_snoc h.nd hni
  · unfold putI
    split
    · rw [List.length_map]; exact h.sz
    · rw [List.length_append]; simp; omega
theorem putI_len (l : List (Str × Int)) (x : Str) (n : Int) : (putI l x n).length ≤ l.length + 1 := by
  unfold putI
  split
  · rw [List.length_map]; omega
  · rw [List.length_append]; simp
def RDP : List Str := ["run", "day", "pauses"]
theorem RDP_len : RDP.length = 3 := rfl
def spPauL : Sp := fun vs H Q _ => ∃ (p c a l : Addr) (m n : Int) (ts : List TR), vs = [.ref p, .ref a] ∧ PenAt H p c m ∧ m ≤ 900000 ∧ PlnH H a l n ts ∧ ts.length ≤ 7 ∧ (∀ t ∈ ts, NameOk t.start) ∧
  ∀ H' q ws, Kp [p] H H' → H q = none → H' q = some (.dK (kI ws)) → PaOk ws → PenAt H' p c (m + 40) → Q (.ref q) H'
def ThAt (H : Hp) (p q : Addr) (n : Int) (ts : List TR) (ws : List (Str × Int)) (fs : List (Str × Str)) : Prop := ∃ a l wa fa, H q = some (.tup [.ref a, .ref wa, .ref fa]) ∧ PlnH H a l n ts ∧ l ≠ p ∧ H wa = some (.dK (kI ws)) ∧ H fa = some (.dK (kS fs))
theorem ThAt.kp {H H' : Hp} {p c q : Addr} {m n : Int} {ts : List TR} {ws : List (Str × Int)} {fs : List (Str × Str)} (k : Kp [p] H H') (pn : PenAt H p c m) (h : ThAt H p q n ts ws fs) : ThAt H' p q n ts ws fs := by
  obtain ⟨a, l, wa, fa, h1, h2, h3, h4, h5⟩ := h
  exact ⟨a, l, wa, fa, kp_mem k h1 (pn.nl h1 (fun xs y => by cases y)).1, h2.kp k pn h3, h3, kp_mem k h4 (pn.nl h4 (fun xs y => by cases y)).1, kp_mem k h5 (pn.nl h5 (fun xs y => by cases y)).1⟩
theorem ThAt.up {H H' : Hp} {p q : Addr} {n : Int} {ts : List TR} {ws : List (Str × Int)} {fs : List (Str × Str)} (s : Same H H') (h : ThAt H p q n ts ws fs) : ThAt H' p q n ts ws fs := by
  obtain ⟨a, l, wa, fa, h1, h2, h3, h4, h5⟩ := h
  exact ⟨a, l, wa, fa, s _ _ h1, h2.up s, h3, s _ _ h4, s _ _ h5⟩
structure ThOk (n : Int) (ts : List TR) (ws : List (Str × Int)) (fs : List (Str × Str)) : Prop where
  lt : LtOk n ts
  pa : PaOk ws
  fo : FolOk ts fs
def spThing : Sp := fun vs H Q _ => ∃ (p c : Addr) (m : Int), vs = [.ref p] ∧ PenAt H p c m ∧ m ≤ 700000 ∧ ∀ H' q n ts ws fs, Kp [p] H H' → H q = none → ThAt H' p q n ts ws fs → ThOk n ts ws fs → PenAt H' p c (m + 300) → Q (.ref q) H'
abbrev rMin2 : List V → Hp → VK → Prop := fun xs H Q => ∃ i j, xs = [.int i, .int j] ∧ Q (.int (if j < i then j else i)) H
abbrev rInt1 : List V → Hp → VK → Prop := fun xs H Q => (∃ i, xs = [.int i] ∧ Q (.int i) H) ∨ ∃ k, xs = [.bl k] ∧ Q (.int (if k then 1 else 0)) H
def tCut (K : PySem.W.Frag) : TE := tOp (rCatT K) (L2.tSl (rSlT K) (tVar 2) tNoPart (tPart (tC (.int 4)))) (tTup (tCons (tCB rMin2 (tCons (tCB rInt1 (tCons (tOp (rIxT K) (tVar 2) (tC (.int 4))) tNil)) (tCons (tOp (rI CPow fun i j => .int (i ^ j.toNat)) (tC (.int 10)) (tC (.int 12))) tNil))) (tCons (tOp (rIxT K) (tVar 2) (tC (.int 5))) tNil)))
theorem stP_put (n : Int) (l l' : Addr) : putK (stP n l) (Sum.inr ("trips" : Str)) (.ref l') = stP n l' := rfl
theorem cut4 (t : TR) : cutV (tupV t) none (some 4) = [.str t.name, .bl t.run, .str t.start, .int t.leaves] := rfl
section
variable {P : Program} {w : World} {K : PySem.W.Frag} {mg : Str → Option Value} {base : Heap}
theorem ok_pausesL (T : FX P K mg) : FnR P w K mg base CX0 3 (ga K "_law_pauses") spPauL := by
  refine fnr T.f_w_pauses sc_pauses (fun _ _ _ _ _ _ us hl => match us, hl with | [_, _], _ => rfl) (fun vs H Q E h => ?_) (fun cdv A outer s H vs Q E hr h => ?_)
  · obtain ⟨p, c, a, l, m, n, ts, rfl, _⟩ := h
    rfl
  · obtain ⟨p, c, a, l, m, n, ts, rfl, pen, hm, pl, l7, hst, k⟩ := h
    have nd := sc_pauses.nd
    have hu := hu_of hr
    have hr1 : Room 1 _ := hr.mono (by decide)
    refine ⟨_, pss_cons (ps_set (i := 2) nd rfl (Or.inl rfl) pe_dnewK)
      (pss_cons (ps_for PassesOwn.never rfl (pi_list (pe_op op_cat (cl "_law_places" T (ok_placesL T) hr1 (pa_cons (pv 1) pa_nil)) (pe_lst (pa_cons pe_str (pa_cons pe_str (pa_cons pe_str pa_nil)))))) (pg_name (i := 3) nd rfl (Or.inl rfl))
        (pss_one (ps_if (pt_cmpR op_eq (cl "_law_draw" T (ok_draw T) hr1 (pa_cons (pv 0) (pa_cons pe_int pa_nil))) pe_int (nomark _))
          (pss_one (ps_dput hu (pv 2) (pv 3) (cl "_law_pick" T (ok_pick T) hr (pa_cons (pv 0) (pa_cons (pe_lst (pa_cons pe_int (pa_cons pe_int (pa_cons (cl "_law_draw" T (ok_draw T) hr1 (pa_cons (pv 0) (pa_cons pe_int pa_nil))) (pa_cons (pe_op op_pow pe_int pe_int) (pa_cons (pe_op op_sub (pe_op op_pow pe_int pe_int) pe_int) (pa_cons pe_int pa_nil))))))) pa_nil))) rfl)) pss_nil)))
      (pss_one (ps_ret (pv 2)))), ?_⟩
    intro fd hfd
    have s0 : Same H (upd H fd (.dK [])) := same_new same_rfl hfd
    have nfd := pen.nn hfd
    refine ⟨_, rfl, a, l, n, ts, rfl, pl.up s0, by omega, fun H1 q0 ys s1 hq0 hq1 hyn hym hyl => ?_⟩
    have s01 := same_tr s0 s1
    refine ⟨(show (3 : Nat) ≤ sizeLine by decide), fun l3 hl3 => ?_⟩
    have s2 : Same H1 (upd H1 l3 (.lst [V.str "run", V.str "day", V.str "pauses"])) := same_new same_rfl hl3
    refine ⟨q0, l3, _, _, rfl, rfl, s2 _ _ hq1, upd_same, by rw [sizeLine_eq]; simp only [List.length_map, List.length_cons, List.length_nil]; omega, fun cl hcl => ?_⟩
    have ec : ys.map V.str ++ [V.str "run", V.str "day", V.str "pauses"] = (ys ++ RDP).map V.str := by rw [List.map_append]; rfl
    rw [ec]
    have s3 : Same H (upd (upd H1 l3 (.lst [V.str "run", V.str "day", V.str "pauses"])) cl (.lst ((ys ++ RDP).map V.str))) := same_new (same_tr s01 s2) hcl
    have hc3 : (upd (upd H1 l3 (.lst [V.str "run", V.str "day", V.str "pauses"])) cl (.lst ((ys ++ RDP).map V.str))) cl = some (.lst ((ys ++ RDP).map V.str)) := upd_same
    have hf3 : (upd (upd H1 l3 (.lst [V.str "run", V.str "day", V.str "pauses"])) cl (.lst ((ys ++ RDP).map V.str))) fd = some (.dK []) := by
      have e := s2 _ _ (s1 _ _ (show (upd H fd (.dK [])) fd = some (.dK []) from upd_same))
      rw [upd_ne (ne_of_none e hcl)]
      exact e
    have ncl : cl ≠ p ∧ cl ≠ c := (pen.up (same_tr s01 s2)).nn hcl
    generalize upd (upd H1 l3 (.lst [V.str "run", V.str "day", V.str "pauses"])) cl (.lst ((ys ++ RDP).map V.str)) = H3 at s3 hc3 hf3
    have nmok : ∀ x ∈ ys ++ RDP, NameOk x := by
      intro x hx
      rcases List.mem_append.mp hx with z | z
      · obtain ⟨t, ht, e⟩ := List.mem_map.mp ((hym x).mp z)
        rw [← e]
        exact hst t ht
      · have : ∀ x ∈ RDP, NameOk x := by decide +kernel
        exact this x z
    refine ⟨cl, rfl, ⟨_, SqL.of hc3⟩, ?_⟩
    refine for_it (walk_list (xs := (ys ++ RDP).map V.str)) (fun i σ H' => ∃ ws : List (Str × Int), Kp [p] H H' ∧ PenAt H' p c (m + 3 * i) ∧ H' fd = some (.dK (kI ws)) ∧ H' cl = some (.lst ((ys ++ RDP).map V.str)) ∧ PaOk ws ∧ ws.length ≤ i ∧ ∃ v3, σ = [some (.ref p), some (.ref a), some (.ref fd), v3])
      ⟨[], kp_same s3, (pen.up s3).le (by omega), hf3, hc3, ⟨.nil, fun _ h => (by cases h), fun _ h => (by cases h), by decide⟩, by simp, _, rfl⟩ (fun i σ H' _ h => SqL.of (let ⟨_, _, _, _, h, _⟩ := h; h)) ?_ ?_
    · rintro i v σ _ H4 hi ⟨ws, kp4, pn4, hf4, hc4, pok, lw, v3, rfl⟩ ⟨rfl, hx⟩
      rw [List.getElem?_map] at hx
      obtain ⟨x, hx2, rfl⟩ : ∃ x, (ys ++ RDP)[i]? = some x ∧ v = V.str x := by
        cases e : (ys ++ RDP)[i]? with
        | none => rw [e] at hx; cases hx
        | some z => rw [e] at hx; exact ⟨z, rfl, (Option.some.inj hx).symm⟩
      have hi10 : i < 10 := by
        have := (List.getElem?_eq_some_iff.mp hx2).1
        rw [List.length_append, RDP_len] at this
        omega
      have nx := nmok x (List.mem_of_getElem? hx2)
      refine ⟨_, rfl, p, c, _, 3, rfl, by decide, by decide, pn4, by omega, fun H5 e e0 e1 kp5 pn5 => ⟨rfl, _, rfl, ?_⟩⟩
      have hf5 := kp_mem kp5 hf4 nfd.1
      have hc5 := kp_mem kp5 hc4 ncl.1
      have k5 := kp_tr kp4 kp5
      cases hd : decide (V.int e = V.int 0) with
      | false => exact iF ⟨ws, k5, pn5.le (by omega), hf5, hc5, pok, by omega, _, rfl⟩
      | true =>
        refine iT ⟨_, rfl, _, rfl, p, c, _, 99, rfl, by decide, by decide, pn5, by omega, fun H6 f f0 f1 kp6 pn6 => ?_⟩
        refine ⟨_, _, rfl, rfl, ⟨by decide, by decide, by decide⟩, _, _, rfl, rfl, ⟨by decide, by decide, by decide⟩, _, _, rfl, rfl, (show (6 : Nat) ≤ sizeLine by decide), fun pl6 hpl6 => ⟨p, c, pl6, _, _, rfl, pn6.up (same_new same_rfl hpl6), by omega, (pn6.nn hpl6).1, upd_same, (show (1 : Nat) ≤ 6 by decide), (show (6 : Nat) ≤ 1000 by decide), fun H7 x7 hx7 kp7 pn7 => ?_⟩⟩
        have kp67 := kp_tr kp6 (kp_tr (kp_same (same_new (o := .lst _) same_rfl hpl6)) kp7)
        obtain ⟨z, rfl, z0, z1⟩ : ∃ z : Int, x7 = .int z ∧ 0 ≤ z ∧ z ≤ 1000000000000 := by
          have z12 : (10 : Int) ^ (12 : Int).toNat = 1000000000000 := rfl
          simp only [List.mem_cons, List.not_mem_nil, or_false] at hx7
          rcases hx7 with h | h | h | h | h | h <;> exact ⟨_, h, by omega, by omega⟩
        have hf7 := kp_mem kp67 hf5 nfd.1
        have hc7 := kp_mem kp67 hc5 ncl.1
        have lk : (kI ws).length = ws.length := by unfold kI; rw [List.length_map]
        refine ⟨_, rfl, _, rfl, fd, _, rfl, DPut.k (k := Sum.inr x) hf7 (by rw [lk, sizeLine_eq]; omega), ?_⟩
        rw [kI_put]
        refine ⟨putI ws x z, kp_at (kp_tr k5 kp67) hfd, ((pn7.upd nfd.1 nfd.2).le (by omega)), upd_same, ?_, pok.put nx z0 z1 (by omega), by have := putI_len ws x z; omega, _, rfl⟩
        rw [upd_ne (fun z => by rw [z, hf7] at hc7; cases hc7)]
        exact hc7
    · rintro σ H4 ⟨ws, kp4, pn4, hf4, hc4, pok, lw, v3, rfl⟩
      have : ((ys ++ RDP).map V.str).length ≤ 10 := by
        rw [List.length_map, List.length_append, RDP_len]
        omega
      exact ⟨_, rfl, k H4 fd ws kp4 hfd hf4 pok (pn4.le (by omega))⟩
theorem ok_thing (T : FX P K mg) : FnR P w K mg base CX0 5 (ga K "_law_thing") spThing := by
  refine fnr T.f_w_thing sc_thing (fun _ _ _ _ _ _ us hl => match us, hl with | [_], _ => rfl) (fun vs H Q E h => ?_) (fun cdv A outer s H vs Q E hr h => ?_)
  · obtain ⟨p, c, m, rfl, _⟩ := h
    rfl
  · obtain ⟨p, c, m, rfl, pen, hm, k⟩ := h
    have nd := sc_thing.nd
    have hu := hu_of hr
    have hr1 : Room 1 _ := hr.mono (by decide)
    refine ⟨_, pss_cons (ps_set (i := 1) nd rfl (Or.inl rfl) (cl "_law_plain" T (ok_plain T) hr (pa_cons (pv 0) (pa_cons (pe_lst (pa_cons pe_int (pa_cons pe_int (pa_cons (pe_op op_pow pe_int pe_int) (pa_cons pe_int (pa_cons (pe_op op_add pe_int (cl "_law_draw" T (ok_draw T) hr1 (pa_cons (pv 0) (pa_cons (pe_op op_pow pe_int pe_int) pa_nil)))) pa_nil)))))) (pa_cons pe_int pa_nil)))))
      (pss_cons (ps_dput hu (pv 1) pe_str (pe_lc (own := [("_law_trip", 2)]) (g := gName 2) (tt := tYes) (te := tCut K) rfl nd (pi_list (pe_dget hu (pv 1) pe_str (fun _ _ => rfl))) (blkOk_by (N := ["_law_pen_here", "_law_plain_here", "_law_trip"]) (sc := defScope w_thing) (by decide +kernel))
          (fun _ _ _ _ _ => pg_name (i := 2) nd rfl (Or.inl rfl)) (fun _ _ _ _ _ => pts_nil) (fun _ _ _ _ _ => pe_op op_catT (pe_slice sl_tup (pv 2) po_none (po_some pe_int)) (pe_tup (pa_cons (cb "min" T (call_min2 rfl) (pa_cons (ct "int" T call_int1 (pa_cons (pe_ix ix_tup (pv 2) pe_int (fun _ _ => rfl)) pa_nil)) (pa_cons (pe_op op_pow pe_int pe_int) pa_nil))) (pa_cons (pe_ix ix_tup (pv 2) pe_int (fun _ _ => rfl)) pa_nil))))) rfl)
      (pss_cons (ps_set (i := 1) nd rfl (Or.inl rfl) (pe_disp (pps_cons pe_str (pe_dget hu (pv 1) pe_str (fun _ _ => rfl)) (pps_cons pe_str (pe_ifExp (pt_cmpR op_gt (cl "_law_draw" T (ok_draw T) hr1 (pa_cons (pv 0) (pa_cons pe_int pa_nil))) pe_int (nomark _)) (pe_dget hu (pv 1) pe_str (fun _ _ => rfl)) (pe_lst pa_nil)) pps_nil)) rfl rfl (by decide) (by decide)))
      (pss_one (ps_ret (pe_tup (pa_cons (pv 1) (pa_cons (cl "_law_pauses" T (ok_pausesL T) (hr.mono (by decide)) (pa_cons (pv 0) (pa_cons (pv 1) pa_nil))) (pa_cons (cl "_law_follows" T (ok_followsL T) (hr.mono (by decide)) (pa_cons (pv 0) (pa_cons (pv 1) pa_nil))) pa_nil)))))))), ?_⟩
    have z12 : (10 : Int) ^ (12 : Int).toNat = 1000000000000 := rfl
    have z6 : (10 : Int) ^ (6 : Int).toNat = 1000000 := rfl
    refine ⟨_, rfl, _, _, rfl, rfl, ⟨by decide, by decide, by decide⟩, _, rfl, _, _, rfl, rfl, ⟨by decide, by decide, by decide⟩, p, c, m, _, rfl, by decide, by decide, pen, by omega, fun H1 d d0 d1 kp1 pn1 => ⟨_, _, rfl, rfl, (show (5 : Nat) ≤ sizeLine by decide), fun zl hzl => ?_⟩⟩
    have s2 := same_new (o := .lst ([1, 24, (10 : Int) ^ (12 : Int).toNat, 7, 1 + d].map V.int)) (same_rfl (H := H1)) hzl
    refine ⟨p, c, zl, m + 1, [1, 24, (10 : Int) ^ (12 : Int).toNat, 7, 1 + d], rfl, pn1.up s2, by omega, (pn1.nn hzl).1, upd_same, (show (1 : Nat) ≤ 5 by decide), (show (5 : Nat) ≤ 1000 by decide), fun z hz => ?_, fun H3 a l n ts kp3 ha0 hl0 pl lw hn1 hn2 pn3 => ?_⟩
    · simp only [List.mem_cons, List.not_mem_nil, or_false] at hz
      rcases hz with h | h | h | h | h <;> subst h <;> omega
    · obtain ⟨qs, ha, hl, tps⟩ := id pl
      have kp03 : Kp [p] H H3 := kp_tr kp1 (kp_tr (kp_same s2) kp3)
      have pn12 := pn1.up s2
      have hlp : l ≠ p := (pn12.nn hl0).1
      have haH : H a = none := kp_none (kp_tr kp1 (kp_same s2)) pn12 ha0
      have l7 := lw.l7
      refine ⟨_, rfl, a, _, rfl, gt_trips ha, l, rfl, ⟨_, SqL.of hl⟩, fun D hD => ?_⟩
      have nD := pn3.nn hD
      refine lc_it (walk_list (xs := qs.map V.ref)) (fun i H' => ∃ rs : List Addr, rs.length = i ∧ Same H3 H' ∧ H' D = some (.lst (rs.map V.ref)) ∧ Tps H' rs ((ts.take i).map cap))
        ⟨[], rfl, same_new same_rfl hD, upd_same, rfl, fun i q t e => by simp at e⟩ (fun i H' _ h => SqL.of (let ⟨_, _, s, _⟩ := h; s _ _ hl)) ?_ ?_
      · rintro i x _ Ha hi ⟨rs, lrs, sa, hDa, trs⟩ ⟨rfl, hx⟩
        rw [List.length_map] at hi
        rw [List.getElem?_map] at hx
        obtain ⟨q, hq⟩ : ∃ q, qs[i]? = some q := ⟨_, List.getElem?_eq_getElem hi⟩
        rw [hq] at hx
        cases hx
        obtain ⟨t, ht⟩ : ∃ t, ts[i]? = some t := ⟨_, List.getElem?_eq_getElem (by rw [← tps.1]; exact hi)⟩
        have e := sa _ _ (tps.2 i q t hq ht)
        have et : ts.take (i + 1) = ts.take i ++ [t] := by rw [List.take_succ, ht]; rfl
        refine ⟨rfl, _, rfl, 4, rfl, q, tupV t, rfl, SqT.of e, ?_, fun p1 hp1 => ?_⟩
        · show ¬ ((0 : Nat) = 0 ∧ min (4 : Int).toNat 6 = 6)
          decide
        · rw [cut4]
          have s1 : Same Ha (upd Ha p1 (.tup [.str t.name, .bl t.run, .str t.start, .int t.leaves])) := same_new same_rfl hp1
          refine ⟨_, rfl, q, _, 4, _, rfl, rfl, SqT.of (s1 _ _ e), rfl, .inl ⟨_, rfl, _, _, rfl, rfl, ⟨by decide, by decide, by decide⟩, _, _, rfl, _, rfl, q, _, 5, _, rfl, rfl, SqT.of (s1 _ _ e), rfl, (show (2 : Nat) ≤ sizeLine by decide), fun p2 hp2 => ?_⟩⟩
          have n12 : p1 ≠ p2 := fun z => by rw [← z, upd_same] at hp2; cases hp2
          refine ⟨p1, p2, [.str t.name, .bl t.run, .str t.start, .int t.leaves], [.int (if (10 : Int) ^ (12 : Int).toNat < t.takes then (10 : Int) ^ (12 : Int).toNat else t.takes), .str t.goal], rfl, rfl, SqT.of (by rw [upd_ne n12]; exact upd_same), SqT.of upd_same, by simp, (show (6 : Nat) ≤ sizeLine by decide), fun z => by simp at z, fun _ p3 hp3 => ?_⟩
          have s3 := same_new (o := .tup ([.str t.name, .bl t.run, .str t.start, .int t.leaves] ++ [.int (if (10 : Int) ^ (12 : Int).toNat < t.takes then (10 : Int) ^ (12 : Int).toNat else t.takes), .str t.goal])) (same_new (o := .tup [.int (if (10 : Int) ^ (12 : Int).toNat < t.takes then (10 : Int) ^ (12 : Int).toNat else t.takes), .str t.goal]) s1 hp2) hp3
          refine ⟨rs.map V.ref, s3 _ _ hDa, by rw [sizeLine_eq, List.length_map]; have := tps.1; omega, rs ++ [p3], by rw [List.length_append, lrs]; rfl, same_at (same_tr sa s3) hD, by rw [upd_same, List.map_append]; rfl, ?_⟩
          rw [et, List.map_append]
          have := (trs.up s3).add (q := p3) (t := cap t) upd_same
          exact ⟨this.1, fun j b u e1 e2 => by
            have e3 := this.2 j b u e1 e2
            rw [upd_ne (ne_of e3 (s3 _ _ hDa) (by intro z; cases z))]
            exact e3⟩
      · rintro H4 ⟨rs, lrs, s4, hD4, trs⟩
        rw [List.length_map, tps.1, List.take_length] at trs
        have ha4 := s4 _ _ ha
        refine ⟨_, rfl, a, _, rfl, DPut.k (k := Sum.inr ("trips" : Str)) ha4 (show (2 : Nat) < sizeLine by decide), ?_⟩
        rw [stP_put]
        have nap := pn3.nl ha (fun xs y => by cases y)
        have nDa : D ≠ a := fun z => by rw [z, ha] at hD; cases hD
        have kp5 : Kp [p] H (upd H4 a (.dK (stP n D))) := kp_at (kp_tr kp03 (kp_same s4)) haH
        have pn5 : PenAt (upd H4 a (.dK (stP n D))) p c (m + 1 + 200) := (pn3.up s4).upd nap.1 nap.2
        have pl5 : PlnH (upd H4 a (.dK (stP n D))) a D n (ts.map cap) := ⟨rs, upd_same, by rw [upd_ne nDa]; exact hD4, trs.1, fun j b u e1 e2 => by
          have e3 := trs.2 j b u e1 e2
          rw [upd_ne (ne_of e3 ha4 (by intro z; cases z))]
          exact e3⟩
        generalize upd H4 a (.dK (stP n D)) = H5 at kp5 pn5 pl5
        have lt := lt_of lw hn1 hn2
        intro sd hsd
        have nsd := pn5.nn hsd
        have s6 : Same H5 (upd H5 sd (.dK [])) := same_new same_rfl hsd
        have hsd6 : (upd H5 sd (.dK [])) sd = some (.dK []) := upd_same
        generalize upd H5 sd (.dK []) = H6 at s6 hsd6
        have pn6 := pn5.up s6
        have pl6 := pl5.up s6
        have hsdH : H sd = none := kp_none kp5 pn5 hsd
        have k6 : Kp [p] H H6 := kp_tr kp5 (kp_same s6)
        refine ⟨_, rfl, a, _, rfl, gt_size (let ⟨_, h, _⟩ := pl6; h), _, rfl, p, c, _, 6, rfl, by decide, by decide, pn6, by omega, fun H7 e e0 e1 kp7 pn7 => ⟨_, _, rfl, rfl, _, rfl, ?_⟩⟩
        have nDp : D ≠ p := nD.1
        have pl7 := pl6.kp kp7 pn6 nDp
        have hsd7 := kp_mem kp7 hsd6 nsd.1
        have k7 := kp_tr k6 kp7
        -- the end, from the trips that are taken
        have fin : ∀ (H8 : Hp) (L : Addr) (us : List TR), Same H7 H8 → L ≠ p → L ≠ sd → (∃ qs : List Addr, H8 L = some (.lst (qs.map V.ref)) ∧ Tps H8 qs us) → LtOk n us → H8 sd = some (.dK []) ∧ ∃ kvs : List (Key × V), [((.str ("size" : Str) : V), (.int n : V)), (.str ("trips" : Str), .ref L)] = kvs.map (fun kv => (kV kv.1, kv.2)) ∧ kvs.length ≤ 15 ∧
            ∃ HZ, HZ = upd H8 sd (.dK (mergeK [] kvs)) ∧ PlnH HZ sd L n us ∧ Kp [p] H HZ ∧ PenAt HZ p c (m + 1 + 200 + 1) := by
          intro H8 L us s8 nLp nLs ⟨qs8, hL8, t8⟩ _
          refine ⟨s8 _ _ hsd7, stP n L, rfl, (show (2 : Nat) ≤ 15 by decide), _, rfl, ?_, kp_at (kp_tr k7 (kp_same s8)) hsdH, (pn7.up s8).upd nsd.1 nsd.2⟩
          rw [mergeK_stP]
          exact ⟨qs8, upd_same, by rw [upd_ne nLs]; exact hL8, t8.1, fun j b u e1 e2 => by
            have e3 := t8.2 j b u e1 e2
            rw [upd_ne (ne_of e3 (s8 _ _ hsd7) (by intro z; cases z))]
            exact e3⟩
        have fin2 : ∀ (HZ : Hp) (L : Addr) (us : List TR) (ws : List (Str × Int)) (fs : List (Str × Str)) (H' H2 : Hp) (q q2 r : Addr), PlnH HZ sd L n us → L ≠ p → Kp [p] H HZ → PenAt HZ p c (m + 1 + 200 + 1) → LtOk n us → Kp [p] HZ H' → H' q = some (.dK (kI ws)) → PaOk ws → PenAt H' p c (m + 1 + 200 + 1 + 40) →
            Kp [p] H' H2 → H2 q2 = some (.dK (kS fs)) → FolOk us fs → PenAt H2 p c (m + 1 + 200 + 1 + 40 + 10) → H2 r = none → Q (.ref r) (upd H2 r (.tup [.ref sd, .ref q, .ref q2])) := by
          intro HZ L us ws fs H' H2 q q2 r plz nLp kz pz ltz kw hqw pok pnw kf hf2 fol pnf hr
          have sR : Same H2 (upd H2 r (.tup [.ref sd, .ref q, .ref q2])) := same_new same_rfl hr
          have kAll := kp_tr kz (kp_tr kw kf)
          have hqw2 := kp_mem kf hqw (pnw.nl hqw (fun xs y => by cases y)).1
          exact k _ r n us ws fs (kp_tr kAll (kp_same sR)) (kp_none kAll pnf hr) ⟨sd, L, q, q2, upd_same, ((plz.kp kw pz nLp).kp kf pnw nLp).up sR, nLp, sR _ _ hqw2, sR _ _ hf2⟩ ⟨ltz, pok, fol⟩ ((pnf.up sR).le (by omega))
        cases hdd : decide ((0 : Int) < e) with
        | true =>
          refine iT ⟨_, rfl, a, _, rfl, gt_trips (let ⟨_, h, _⟩ := pl7; h), ?_⟩
          obtain ⟨qs7, h71, h72, h73⟩ := id pl7
          have nDs : D ≠ sd := fun z => by rw [z, hsd7] at h72; cases h72
          obtain ⟨f1, kvs, f2, f3, HZ, f4, f5, f6, f7⟩ := fin H7 D (ts.map cap) same_rfl nDp nDs ⟨qs7, h72, h73⟩ lt
          refine ⟨f1, kvs, f2, f3, ?_⟩
          rw [← f4]
          exact ⟨_, rfl, _, rfl, _, rfl, p, c, sd, D, _, n, (ts.map cap), rfl, f7, by omega, f5, (lt).l7, fun t ht => ((lt).ok t ht).s, fun H' q ws kw hqz hqw pok pnw => ⟨_, rfl, _, rfl, p, c, sd, D, _, n, (ts.map cap), rfl, pnw, by omega, f5.kp kw f7 (nDp), (nDp), (lt).nd, (lt).bal, (lt).l7, fun H2 q2 fs kf hq2 hf2 fol pnf => ⟨(show (3 : Nat) ≤ sizeLine by decide), fun r hr => fin2 HZ D (ts.map cap) ws fs H' H2 q q2 r f5 (nDp) f6 f7 (lt) kw hqw pok pnw kf hf2 fol pnf hr⟩⟩⟩
        | false =>
          refine iF ⟨by decide, fun L hL => ?_⟩
          have s8 : Same H7 (upd H7 L (.lst [])) := same_new same_rfl hL
          have nLs : L ≠ sd := fun z => by rw [z, hsd7] at hL; cases hL
          obtain ⟨f1, kvs, f2, f3, HZ, f4, f5, f6, f7⟩ := fin (upd H7 L (.lst [])) L [] s8 (pn7.nn hL).1 nLs ⟨[], upd_same, rfl, fun j b u e => by simp at e⟩ (lt_nil hn1 hn2)
          refine ⟨f1, kvs, f2, f3, ?_⟩
          rw [← f4]
          exact ⟨_, rfl, _, rfl, _, rfl, p, c, sd, L, _, n, [], rfl, f7, by omega, f5, (lt_nil hn1 hn2).l7, fun t ht => ((lt_nil hn1 hn2).ok t ht).s, fun H' q ws kw hqz hqw pok pnw => ⟨_, rfl, _, rfl, p, c, sd, L, _, n, [], rfl, pnw, by omega, f5.kp kw f7 ((pn7.nn hL).1), ((pn7.nn hL).1), (lt_nil hn1 hn2).nd, (lt_nil hn1 hn2).bal, (lt_nil hn1 hn2).l7, fun H2 q2 fs kf hq2 hf2 fol pnf => ⟨(show (3 : Nat) ≤ sizeLine by decide), fun r hr => fin2 HZ L [] ws fs H' H2 q q2 r f5 ((pn7.nn hL).1) f6 f7 (lt_nil hn1 hn2) kw hqw pok pnw kf hf2 fol pnf hr⟩⟩⟩
end
end N1
set_option maxHeartbeats 4000000
/-! what the law draws can be written and read (plain) -/
namespace N1
open PySem PySem.Spec PyProof.Rows L2 TL
def Sg (l : List Nat) : Prop := ∀ c ∈ l, c < 0x110000
theorem sok_of {x : Str} (h : Sg (tl x)) : PyData.strOk x = true := by
  unfold PyData.strOk
  rw [Array.all_eq_true]
  intro i hi
  have := h x.cps[i] (Array.getElem_mem_toList hi)
  simpa using this
theorem sg_name {x : Str} (h : NameOk x) : Sg (tl x) := fun c hc => by
  have z : ∀ c ∈ ("abcdefghijklmnopqrstuvwxyz" : Str).cps.toList, c < 0x110000 := by decide +kernel
  exact z _ (h.2.2 c hc)
theorem sg_num {n : Int} (h : 0 ≤ n) : Sg (tl (num n)) := by
  obtain ⟨m, rfl⟩ := Int.eq_ofNat_of_zero_le h
  have e : tl (num (m : Int)) = numL m := tl_num m
  rw [e]
  intro c hc
  have := numL_digits m c hc
  omega
theorem sg_joinL {S : List Nat} (hS : Sg S) : ∀ {m : List (List Nat)}, (∀ x ∈ m, Sg x) → Sg (joinL S m)
  | [], _ => fun c hc => by simp [joinL] at hc
  | [a], h => h a List.mem_cons_self
  | a :: b :: m, h => fun c hc => by
    have hc' : c ∈ a ++ (S ++ joinL S (b :: m)) := hc
    rcases List.mem_append.mp hc' with z | z
    · exact h a List.mem_cons_self c z
    · rcases List.mem_append.mp z with z | z
      · exact hS c z
      · exact sg_joinL hS (fun x hx => h x (List.mem_cons_of_mem _ hx)) c z
theorem sg_join {y : Str} {l : List Str} (hy : Sg (tl y)) (h : ∀ x ∈ l, Sg (tl x)) : Sg (tl (Txt.join y l)) := by
  rw [join_eq, tl_join]
  exact sg_joinL hy fun x hx => by
    obtain ⟨z, hz, rfl⟩ := List.mem_map.mp hx
    exact h z hz
theorem sg_lits : Sg (tl sP) ∧ Sg (tl sN) ∧ Sg (tl ("run" : Str)) ∧ Sg (tl ("stay" : Str)) ∧ Sg (tl ("day" : Str)) ∧ Sg (tl ("pauses" : Str)) := by
  unfold Sg
  decide +kernel
theorem sg_tabL {n : Int} {us : List TR} (h0 : 0 ≤ n) (hok : ∀ t ∈ us, t.Ok) : ∀ x ∈ tabL n us, Sg (tl x) := by
  obtain ⟨aP, aN, aR, aS, aD, aU⟩ := sg_lits
  intro x hx
  rcases List.mem_cons.mp hx with rfl | hx
  · refine sg_join aP fun x hx => ?_
    simp only [List.mem_cons, List.not_mem_nil, or_false] at hx
    rcases hx with rfl | rfl
    · exact aD
    · exact sg_num h0
  · obtain ⟨t, ht, rfl⟩ := List.mem_map.mp hx
    have ok := hok t ht
    have b1 := sg_num ok.l0
    have b2 := sg_num (show 0 ≤ t.takes by have := ok.t0; omega)
    have c1 := sg_name ok.n
    have c2 := sg_name ok.s
    have c3 := sg_name ok.g
    refine sg_join aP fun x hx => ?_
    unfold tripW at hx
    split at hx
    all_goals simp only [List.mem_cons, List.not_mem_nil, or_false] at hx
    · rcases hx with rfl | rfl | rfl | rfl | rfl | rfl <;> assumption
    · rcases hx with rfl | rfl | rfl | rfl | rfl <;> assumption
theorem sg_pau {ps : List (Str × Int)} (h : ∀ p ∈ ps, NameOk p.1 ∧ 0 ≤ p.2) : Sg (tl (pauT ps)) := by
  obtain ⟨aP, aN, aR, aS, aD, aU⟩ := sg_lits
  refine sg_join aP fun x hx => ?_
  rcases List.mem_cons.mp hx with rfl | hx
  · exact aU
  · obtain ⟨p, hp, hx⟩ := List.mem_flatMap.mp hx
    simp only [List.mem_cons, List.not_mem_nil, or_false] at hx
    rcases hx with rfl | rfl
    · exact sg_name (h p hp).1
    · exact sg_num (h p hp).2
theorem sg_tab {n : Int} {us : List TR} (h0 : 0 ≤ n) (hok : ∀ t ∈ us, t.Ok) : Sg (tl (tabT n us)) := sg_join sg_lits.2.1 (sg_tabL h0 hok)
theorem sg_plan {n : Int} {us : List TR} {ps : List (Str × Int)} {fs : List (Str × Str)} (h : WrOk n us ps fs) : Sg (tl (planT n us ps fs)) := by
  obtain ⟨aP, aN, aR, aS, aD, aU⟩ := sg_lits
  refine sg_join aN fun x hx => ?_
  unfold planL at hx
  rcases List.mem_append.mp hx with hx | hx
  · exact sg_tabL h.n0 h.ok x hx
  rcases List.mem_cons.mp hx with rfl | hx
  · exact sg_pau fun p hp => ⟨(h.pau p hp).1, (h.pau p hp).2.1⟩
  · obtain ⟨pr, hpr, rfl⟩ := List.mem_map.mp hx
    have o := h.fok pr hpr
    refine sg_join aP fun x hx => ?_
    simp only [List.mem_cons, List.not_mem_nil, or_false] at hx
    rcases hx with rfl | rfl
    · exact sg_name o.1
    · exact sg_name o.2
theorem asc_of {l : List Str} (hp : l.Pairwise (fun a b => leS a b = true)) (hn : l.Nodup) {i : Nat} {a b : Str} (ha : l[i]? = some a) (hb : l[i + 1]? = some b) : a.cps.toList < b.cps.toList := by
  obtain ⟨hi, rfl⟩ := List.getElem?_eq_some_iff.mp ha
  obtain ⟨hj, rfl⟩ := List.getElem?_eq_some_iff.mp hb
  have h1 := List.pairwise_iff_getElem.mp hp i (i + 1) hi hj (by omega)
  refine Classical.byContradiction fun h2 => ?_
  have h3 : leS l[i + 1] l[i] = true := by
    unfold leS
    simpa using h2
  have e := leS_anti h1 h3
  exact List.pairwise_iff_getElem.mp hn i (i + 1) hi hj (by omega) e
theorem asc_st {ts : List TR} (hn : (names ts).Nodup) : Asc (st ts) := by
  intro i t u h1 h2
  have a : (names (st ts))[i]? = some t.name := by unfold names; rw [List.getElem?_map, h1]; rfl
  have b : (names (st ts))[i + 1]? = some u.name := by unfold names; rw [List.getElem?_map, h2]; rfl
  rw [names_st] at a b
  exact asc_of (sn_pw _) (sn_nodup hn) a b
theorem asc_nrm {ws : List (Str × Int)} (hn : (keysI ws).Nodup) : AscP (nrm ws) := by
  intro i t u h1 h2
  have a : (keysI (nrm ws))[i]? = some t.1 := by unfold keysI; rw [List.getElem?_map, h1]; rfl
  have b : (keysI (nrm ws))[i + 1]? = some u.1 := by unfold keysI; rw [List.getElem?_map, h2]; rfl
  have c := nodup_nrm hn
  rw [keys_nrm] at a b c
  exact asc_of (sn_pw _) c a b
theorem nrm_pos {ws : List (Str × Int)} (h : PaOk ws) : ∀ p ∈ nrm ws, NameOk p.1 ∧ 1 ≤ p.2 ∧ p.2 ≤ 1000000000000 := by
  intro p hp
  have o := h.nrm
  have o1 := o.nm p hp
  have o2 := o.lo p hp
  refine ⟨o1, ?_, o2.2⟩
  unfold nrm at hp
  obtain ⟨x, hx, e⟩ := List.mem_map.mp hp
  have := (List.mem_filter.mp (mem_sn.mp hx)).2
  have hnz : nzI ws x ≠ 0 := by simpa using this
  have e2 : p.2 = nzI ws x := by rw [← e]
  omega
theorem sn_keys_nrm (ws : List (Str × Int)) : sn (keysI (nrm ws)) = keysI (nrm ws) := by
  rw [keys_nrm]
  exact sn_idem (sn_pw _)
theorem us_of {ts : List TR} (hn : (names ts).Nodup) (ok : ∀ t ∈ ts, t.Ok) (l : ts.length ≤ 40) : UsOk (st ts) :=
  ⟨st_nodup hn, by rw [names_st]; exact sn_idem (sn_pw _), st_mem hn ok, by rw [st_length hn]; exact l⟩
theorem tabok_of {n : Int} {ts : List TR} (h : LtOk n ts) : TabOk n ts := by
  have := h.l7
  exact ⟨h.nd, by omega, h.lv, h.few, fun p => sel_len h.bal p⟩
theorem tabok_st {n : Int} {ts : List TR} (h : TabOk n ts) : TabOk n (st ts) := by
  have pm := st_perm h.nd
  refine ⟨st_nodup h.nd, by rw [st_length h.nd]; exact h.l40, st_mem h.nd h.lv, ?_, fun p => ?_⟩
  · obtain ⟨L, h1, h2⟩ := h.few
    exact ⟨L, h1, st_mem h.nd h2⟩
  · rw [(pm.filter _).length_eq, (pm.filter _).length_eq]
    exact h.bal p
theorem fol_st {ts : List TR} {fs : List (Str × Str)} (hn : (names ts).Nodup) (h : FolOk ts fs) : FolOk (st ts) fs := by
  have pm := st_perm hn
  have pn : (names ts).Perm (names (st ts)) := pm.symm.map _
  refine ⟨h.p1.trans pn, h.p2.trans pn, fun p hp t u h1 h2 => ?_⟩
  rw [← lk_perm hn pm.symm] at h1 h2
  exact h.go p hp t u h1 h2
theorem st_st {ts : List TR} (hn : (names ts).Nodup) : st (st ts) = st ts := st_congr (st_nodup hn) (st_perm hn)
theorem nrm_nrm {ws : List (Str × Int)} (hn : (keysI ws).Nodup) : nrm (nrm ws) = nrm ws := nrm_ext (nodup_nrm hn) hn fun x => nz_nrm ws x
theorem fok_of {us : List TR} {fs : List (Str × Str)} (ok : ∀ t ∈ us, t.Ok) (h : FolOk us fs) : ∀ p ∈ fs, NameOk p.1 ∧ NameOk p.2 := by
  have nm : ∀ x ∈ names us, NameOk x := fun x hx => by
    obtain ⟨t, ht, e⟩ := List.mem_map.mp hx
    rw [← e]
    exact (ok t ht).n
  exact fun p hp => ⟨nm _ (h.p1.mem_iff.mp (List.mem_map_of_mem hp)), nm _ (h.p2.mem_iff.mp (List.mem_map_of_mem hp))⟩
theorem tx_of {n : Int} {ts : List TR} (h : LtOk n ts) : TxOk n (st ts) :=
  ⟨h.n1, h.n12, st_mem h.nd h.ok, asc_st h.nd, tab_le (by have := h.n1; omega) h.n12 (st_mem h.nd h.ok), tabok_st (tabok_of h)⟩
theorem rd_of {n : Int} {ts : List TR} {ws : List (Str × Int)} {fs : List (Str × Str)} (h : ThOk n ts ws fs) : RdOk n (st ts) (nrm ws) (foN (st ts) fs) := by
  have l := h.lt
  have l7 := l.l7
  have fs' := fol_st l.nd h.fo
  have fs2 := fs'.foN (st_nodup l.nd)
  exact ⟨tx_of l, st_st l.nd, us_of l.nd l.ok (by omega), nrm_pos h.pa, nodup_nrm h.pa.nd, h.pa.nrm.sz, asc_nrm h.pa.nd, nrm_nrm h.pa.nd, foN_keys _ _, fok_of (st_mem l.nd l.ok) fs2, fs2⟩
theorem wr_of {n : Int} {ts : List TR} {ws : List (Str × Int)} {fs : List (Str × Str)} (h : ThOk n ts ws fs) : WrOk n (st ts) (nrm ws) (foN (st ts) fs) := by
  have r := rd_of h
  exact ⟨by have := r.tx.n1; omega, r.tx.n12, r.tx.ok, r.us.l40, r.tx.len, fun p hp => ⟨(r.pau p hp).1, by have := (r.pau p hp).2.1; omega, (r.pau p hp).2.2⟩, r.pnd, r.p60, r.fk, r.us.nd, r.fok⟩
end N1
set_option maxHeartbeats 4000000
/-! ==, also of what differs: tuples of instances, dicts of ints -/
namespace GQB
open PySem PySem.SeqAt GQ
open AutoSeq1 (wpAny_loadPart')
open MeetsSeq MeetsSeq2 MeetsSeq3 SeqRoads2
section
variable {prog : Program} {w : World} {A : Around} {R : Result → Shared → Prop}
theorem tuple_eqB (l b : Addr) (items items2 : Array Value) (n n2 : Nat) (dd dd2 : Option Addr) (sl sl2 : Array (Option Value)) (e : Nat → Bool) (I : Nat → Shared → Prop)
    (turn : ∀ i (h1 : i < items.size) (h2 : i < items2.size) s, I i s → wpAny (model prog w) A.in1 (eqBool items[i] items2[i]) (fun r s' => r = e i ∧ I (i + 1) s') (fun er s' => R (.error er) s') s)
    (fin : ∀ i s, I i s → R (.ok (.ret (.bool ((List.range (min items.size items2.size)).all e && items.size == items2.size)))) s) {s : Shared} (hl1 : s.heap.get? l = some { cls := .type "tuple", dict := dd, data := .seq items n, slots := sl }) (hb1 : s.heap.get? b = some { cls := .type "tuple", dict := dd2, data := .seq items2 n2, slots := sl2 }) (h : I 0 s) :
    wpAny (model prog w) A.in1 (Builtin.«tuple.__eq__» ⟨[.ref l, .ref b], []⟩) (FinOf prog w A R) (fun er s' => R (.error er) s') s := by
  have f2 := AutoSeq1.sub_tuple_tuple
  have hZ : (items.toList.zip items2.toList).length = min items.size items2.size := by simp
  have h0 := h
  obtain ⟨hp, g, d, tk, os⟩ := s
  wp_walk using wpAny_loadPart' hl1, wpAny_loadPart' hb1, wpAny_forIn_list _ (fun rest b s' => b.1 = none ∧ ∃ i, rest = (items.toList.zip items2.toList).drop i ∧ I i s' ∧
    ((List.range (min items.size items2.size)).all e && items.size == items2.size) = (((List.range (min items.size items2.size)).drop i).all e && items.size == items2.size)) _
  case turn =>
    rintro ⟨y, x⟩ rest b s' ⟨hb', i, hz, hI, hT⟩
    have hlt : i < (items.toList.zip items2.toList).length := by
      rcases Nat.lt_or_ge i (items.toList.zip items2.toList).length with h' | h'
      · exact h'
      · rw [List.drop_of_length_le h'] at hz; cases hz
    have hm : i < min items.size items2.size := hZ ▸ hlt
    have h1 : i < items.size := Nat.lt_of_lt_of_le hm (Nat.min_le_left _ _)
    have h2 : i < items2.size := Nat.lt_of_lt_of_le hm (Nat.min_le_right _ _)
    rw [List.drop_eq_getElem_cons hlt] at hz
    injection hz with hyx hrest
    have hy : y = items[i] := by have := congrArg Prod.fst hyx; simpa using this
    have hx : x = items2[i] := by have := congrArg Prod.snd hyx; simpa using this
    subst hy hx
    have hd : (List.range (min items.size items2.size)).drop i = i :: (List.range (min items.size items2.size)).drop (i + 1) := by simp [List.drop_eq_getElem_cons, hm]
    rw [hd, List.all_cons] at hT
    refine wpAny_bind (wpAny_mono (turn i h1 h2 s' hI) (fun r s2 q2 => ?_) fun _ _ x => x)
    obtain ⟨hr, q2⟩ := q2
    subst hr
    have hF := fin (i + 1) s2 q2
    cases he : e i with
    | true =>
      rw [he, Bool.true_and] at hT
      wp_walk
      exact ⟨rfl, i + 1, hrest, q2, hT⟩
    | false =>
      rw [he, Bool.false_and, Bool.false_and] at hT
      rw [hT] at hF
      wp_walk
      first | exact hF | exact ⟨_, rfl, hF⟩ | simpa using hF
  case fin =>
    rintro ⟨b1, b2⟩ s' ⟨hb', i, hz, hI, hT⟩
    simp only at hb'
    subst hb'
    have hge : min items.size items2.size ≤ i := by
      rcases Nat.lt_or_ge i (items.toList.zip items2.toList).length with h' | h'
      · rw [List.drop_eq_getElem_cons h'] at hz; cases hz
      · exact hZ ▸ h'
    rw [List.drop_of_length_le (by simpa using hge), List.all_nil, Bool.true_and] at hT
    have hR := fin i s' hI
    rw [hT] at hR
    wp_walk
    first | exact hR | exact ⟨_, rfl, hR⟩ | simpa [Builtin.Tuple.tupleCompareSizes] using hR
  case h =>
    exact ⟨rfl, 0, rfl, h0, rfl⟩
end
section
variable {prog : Program} {w : World} {A : Around} {E : Value → Shared → Prop} {s : Shared}
theorem rc_tupB {l b : Addr} {items items2 : Array Value} {Q : Value → Shared → Prop} (hu : A.units < cLine) (e : Nat → Bool) (I : Nat → Shared → Prop)
    (hl : s.heap.IsTuple l items) (hb : s.heap.IsTuple b items2)
    (turn : ∀ i (h1 : i < items.size) (h2 : i < items2.size) s, I i s → wpAny (model prog w) A.in1 (eqBool items[i] items2[i]) (fun r s' => r = e i ∧ I (i + 1) s') E s)
    (fin : ∀ i s, I i s → Q (.bool ((List.range (min items.size items2.size)).all e && items.size == items2.size)) s) (h : I 0 s) : wpAny (model prog w) A (richCompare .Eq (.ref l) (.ref b)) Q E s := by
  obtain ⟨⟨cls, dd, data, sl⟩, ho, hc, n, hd⟩ := id hl
  obtain ⟨⟨cls2, dd2, data2, sl2⟩, ho2, hc2, n2, hd2⟩ := id hb
  simp only at hc hd hc2 hd2
  subst hc hd hc2 hd2
  refine wpAny_richCompare_same_room (op := .Eq) ⟨_, ho, rfl⟩ ⟨_, ho2, rfl⟩ F.slot_tuple_eq (call_here F.slot_tuple_eq ⟨_, ho, rfl⟩ F.entry_tuple_eq (F.args_tuple_eq_2 _ _) ?_) hu
  exact tuple_eqB (R := wants (fun v s' => v ≠ .notImplemented ∧ Q v s') E) l b items items2 n n2 dd dd2 sl sl2 e I turn (fun i s' q => ⟨(fun x => nomatch x), fin i s' q⟩) ho ho2 h
end
end GQB
namespace N1
open PySem PySem.Spec PyProof.Rows L2 TL
/-- how two values compare, by the abstract heap -/
abbrev Eqb := V → V → Bool → Hp → Prop
def MonB (D : Eqb) : Prop := ∀ x y b H H', Ext H H' → D x y b H → D x y b H'
def EqB (X : Cx) (n : Nat) (D : Eqb) : Prop :=
  ∀ (A : Around) (pins : List (Addr × Obj)) (s : Shared) (σ : L2.St) (H : Hp) (x y : V) (c : Bool) (u v : Value), Sub X n A → Inv X pins σ H s → RelV x u → RelV y v → D x y c H →
    wpAny (model X.prog X.w) A (eqBool u v) (fun r s' => r = c ∧ ∃ H', Inv X pins σ H' s' ∧ Ext H H') X.xe s
def RcB (X : Cx) (n : Nat) (D : Eqb) : Prop :=
  ∀ (A : Around) (pins : List (Addr × Obj)) (s : Shared) (σ : L2.St) (H : Hp) (x y : V) (c : Bool) (u v : Value), Sub X n A → Inv X pins σ H s → RelV x u → RelV y v → D x y c H →
    wpAny (model X.prog X.w) A (richCompare .Eq u v) (fun r s' => r = .bool c ∧ ∃ H', Inv X pins σ H' s' ∧ Ext H H') X.xe s
/-- two trips -/
def DTrB (K : PySem.W.Frag) : Eqb := fun x y c H => ∃ (a b : Addr) (t u : TR), x = .ref a ∧ y = .ref b ∧ t.Ok ∧ u.Ok ∧ TripAt K H a t ∧ TripAt K H b u ∧ c = decide (t = u)
theorem monB_tr {K : PySem.W.Frag} : MonB (DTrB K) := fun x y c H H' e ⟨a, b, t, u, hx, hy, o1, o2, h1, h2, hc⟩ => ⟨a, b, t, u, hx, hy, o1, o2, (let ⟨d, q⟩ := h1; ⟨d, e _ _ q⟩), (let ⟨d, q⟩ := h2; ⟨d, e _ _ q⟩), hc⟩
def spTripEqB (K : PySem.W.Frag) : Sp := fun vs H Q _ => ∃ (a b : Addr) (t u : TR), vs = [.ref a, .ref b] ∧ t.Ok ∧ u.Ok ∧ TripAt K H a t ∧ TripAt K H b u ∧ ∀ H', Same H H' → Q (.bl (decide (t = u))) H'
def wrd (t : TR) : Str := if t.run then "run" else "stay"
theorem wrd_inj {t u : TR} (h : wrd t = wrd u) : t.run = u.run := by
  unfold wrd at h
  generalize t.run = a at h ⊢
  generalize u.run = b at h ⊢
  revert a b
  decide
theorem tr_eqv {t u : TR} (hr : t.run = u.run) (hn : t.name = u.name) : PyData.eqv (.tuple [.str t.start, .int t.leaves, .int t.takes, .str t.goal]) (.tuple [.str u.start, .int u.leaves, .int u.takes, .str u.goal]) = decide (t = u) := by
  simp only [PyData.eqv, PyData.eqvAll]
  obtain ⟨r1, n1, s1, a1, b1, g1⟩ := t
  obtain ⟨r2, n2, s2, a2, b2, g2⟩ := u
  simp only at hr hn
  subst hr hn
  simp only [TR.mk.injEq, true_and]
  by_cases h1 : s1 = s2 <;> by_cases h2 : a1 = a2 <;> by_cases h3 : b1 = b2 <;> by_cases h4 : g1 = g2 <;> simp [h1, h2, h3, h4]
section
variable {P : Program} {w : World} {K : PySem.W.Frag} {mg : Str → Option Value} {base : Heap}
theorem con_of (T : FX P K mg) (t : TR) : ∃ u : Value, Con K (cTR K t) "WORD" (.str (wrd t)) u := by
  unfold cTR wrd
  cases t.run
  · exact T.woS
  · exact T.woR
theorem isi_of (T : FX P K mg) (t : TR) : IsiC K (cTR K t) (ga K "Trip") := by
  unfold cTR
  cases t.run
  · exact T.isS
  · exact T.isR
theorem ok_TripEqB (T : FX P K mg) : FnR P w K mg base CX0 1 (ma K (ga K "Trip") "__eq__") (spTripEqB K) := by
  refine fnr T.f_TripEq sc_TripEq (fun _ _ _ _ _ _ us hl => match us, hl with | [_, _], _ => rfl) (fun vs H Q E h => ?_) (fun cdv A outer s H vs Q E hr h => ?_)
  · obtain ⟨a, b, t, u, rfl, _⟩ := h
    rfl
  · obtain ⟨a, b, t, u, rfl, ok, ok2, ⟨dx, ha⟩, ⟨dy, hb⟩, k⟩ := h
    have c := trT T t
    have c2 := trT T u
    obtain ⟨uW, hW⟩ := con_of T t
    obtain ⟨uW2, hW2⟩ := con_of T u
    have hI := isi_of T u
    refine ⟨_, pss_cons (ps_if (pw_or (pt_not (pt_val (cb "isinstance" T call_isi (pa_cons (pv 1) (pa_cons (gc "Trip" T) pa_nil))))) (pw_or (pt_cmpR op_ne (pe_con (pv 0) rfl) (pe_con (pv 1) rfl) (nomark _)) (pw_or1 (pt_cmpR op_ne (pe_fld (pv 0) rfl) (pe_fld (pv 1) rfl) (nomark _))))).pt (pss_one (ps_ret pe_bl)) pss_nil)
      (pss_one (ps_ret (pe_cmpR (op_eqD hr.units) (pe_tup (pa_cons (pe_fld (pv 0) rfl) (pa_cons (pe_fld (pv 0) rfl) (pa_cons (pe_fld (pv 0) rfl) (pa_cons (pe_fld (pv 0) rfl) pa_nil))))) (pe_tup (pa_cons (pe_fld (pv 1) rfl) (pa_cons (pe_fld (pv 1) rfl) (pa_cons (pe_fld (pv 1) rfl) (pa_cons (pe_fld (pv 1) rfl) pa_nil))))) (nomark _)))), ?_⟩
    refine ⟨_, rfl, _, _, _, _, true, rfl, .own _, isi_ok T hI c2.c hb, hI.k1, _, rfl, ?_⟩
    refine ⟨_, rfl, a, _, dx, _, _, uW, rfl, ha, c.c, hW, rfl, ?_⟩
    refine ⟨_, rfl, b, _, dy, _, _, uW2, rfl, hb, c2.c, hW2, rfl, rfl, _, rfl, ?_⟩
    by_cases hw : wrd t = wrd u
    · have hrun : t.run = u.run := wrd_inj hw
      have e1 : (!decide (V.str (wrd t) = V.str (wrd u))) = false := by rw [hw]; simp
      rw [e1]
      refine ⟨_, rfl, a, _, dx, _, _, rfl, ha, c.c, c.n1, lk_name t, ?_⟩
      refine ⟨_, rfl, b, _, dy, _, _, rfl, hb, c2.c, c2.n1, lk_name u, rfl, _, rfl, ?_⟩
      by_cases hn : t.name = u.name
      · have e2 : (!decide (V.str t.name = V.str u.name)) = false := by rw [hn]; simp
        rw [e2]
        refine ⟨_, rfl, a, _, dx, _, _, rfl, ha, c.c, c.n2, lk_start t, _, rfl, a, _, dx, _, _, rfl, ha, c.c, c.n3, lk_leaves t, _, rfl, a, _, dx, _, _, rfl, ha, c.c, c.n4, lk_takes t, _, rfl, a, _, dx, _, _, rfl, ha, c.c, c.n5, lk_goal t, (by show 4 ≤ sizeLine; decide), fun p hp => ?_⟩
        have hb2 : (upd H p (.tup [.str t.start, .int t.leaves, .int t.takes, .str t.goal])) b = some (.ins (cTR K u) dy (tfs u)) := by rw [upd_ne (ne_of_none hb hp)]; exact hb
        refine ⟨_, rfl, b, _, dy, _, _, rfl, hb2, c2.c, c2.n2, lk_start u, _, rfl, b, _, dy, _, _, rfl, hb2, c2.c, c2.n3, lk_leaves u, _, rfl, b, _, dy, _, _, rfl, hb2, c2.c, c2.n4, lk_takes u, _, rfl, b, _, dy, _, _, rfl, hb2, c2.c, c2.n5, lk_goal u, (by show 4 ≤ sizeLine; decide), fun q hq => ?_⟩
        have hpq : p ≠ q := fun z => by rw [← z, upd_same] at hq; cases hq
        have all : ∀ (H' : Hp) (t : TR), DpAll K H' [.str t.start, .int t.leaves, .int t.takes, .str t.goal] [.str t.start, .int t.leaves, .int t.takes, .str t.goal] := fun H' t => .cons (.str _) (.cons (.int _) (.cons (.int _) (.cons (.str _) .nil)))
        have sh : ∀ t : TR, t.Ok → SeqAt.shaped (.tuple [.str t.start, .int t.leaves, .int t.takes, .str t.goal]) = true := fun t ok => by simp [SeqAt.shaped, PyData.canLay0, PyData.canLayAll0, PyData.depth, PyData.depthAll, ok.s.sok, ok.g.sok]
        refine ⟨_, _, .tup (SqT.of (by rw [upd_ne hpq, upd_same])) (all _ t), .tup (SqT.of upd_same) (all _ u), sh t ok, sh u ok2, ?_⟩
        have s2 := same_new (o := .tup [.str u.start, .int u.leaves, .int u.takes, .str u.goal]) (same_new (o := .tup [.str t.start, .int t.leaves, .int t.takes, .str t.goal]) same_rfl hp) hq
        have e := tr_eqv hrun hn
        have := k _ s2
        rw [← e] at this
        exact this
      · have e2 : (!decide (V.str t.name = V.str u.name)) = true := by simp [hn]
        rw [e2]
        have e3 : decide (t = u) = false := by simp only [decide_eq_false_iff_not]; intro z; exact hn (by rw [z])
        have := k _ (same_rfl (H := H))
        rw [e3] at this
        exact this
    · have e1 : (!decide (V.str (wrd t) = V.str (wrd u))) = true := by simp [hw]
      rw [e1]
      have e3 : decide (t = u) = false := by simp only [decide_eq_false_iff_not]; intro z; exact hw (by rw [z])
      have := k _ (same_rfl (H := H))
      rw [e3] at this
      exact this
theorem rcB_tr {X : Cx} (T : FX X.prog X.K X.mg) : RcB X 1 (DTrB X.K) := by
  intro A pins s σ H x y cc u v sb I rx ry d
  obtain ⟨a, b, t, t2, rfl, rfl, o1, o2, ⟨dx, ha⟩, ⟨dy, hb'⟩, rfl⟩ := d
  cases rx
  cases ry
  obtain ⟨mA, J, _⟩ := ins_get I.hok ha
  obtain ⟨mB, J', _⟩ := ins_get I.hok hb'
  obtain ⟨od, J, _⟩ := J.look
  obtain ⟨od', J', _⟩ := J'.look
  obtain ⟨m, hF⟩ := I.fr
  have M : Meth X.K (cTR X.K t) "__eq__" (ma X.K (ga X.K "Trip") "__eq__") := by
    unfold cTR
    cases t.run
    · rw [← (T.tmE "Stay" (by decide +kernel)).1]; exact T.meth ("Stay", "__eq__") (by decide +kernel)
    · rw [← (T.tmE "Run" (by decide +kernel)).1]; exact T.meth ("Run", "__eq__") (by decide +kernel)
  have nf : PySem.W.notFirst X.K (cTR X.K t) (.ref (cTR X.K t2)) = true := by
    unfold cTR
    cases t.run <;> cases t2.run
    · simp [PySem.W.notFirst]
    · have := T.nfR.2; simp [PySem.W.notFirst, this]
    · have := T.nfR.1; simp [PySem.W.notFirst, this]
    · simp [PySem.W.notFirst]
  refine PySem.W.cmp_K (op := .Eq) (tb := .ref (cTR X.K t2)) sb.room.units0 hF I.ok.mod.kin J J'.type nf M.at_ M.fn ?_
  have hsp : spTripEqB X.K [.ref a, .ref b] H (fun v H' => v = .bl (decide (t = t2)) ∧ Ext H H') E0 := ⟨a, b, t, t2, rfl, o1, o2, ⟨dx, ha⟩, ⟨dy, hb'⟩, fun H' e => ⟨rfl, e⟩⟩
  have e0 : Env0 X.prog X.w X.K X.mg X.base A X.stack s H := by
    have e := I.env0
    exact ⟨by rw [sb.fr]; exact e.frames, e.mod, e.bs, e.bsz, e.funs, e.frf, e.hok, e.bare⟩
  refine thn (run_at (ok_TripEqB T) sb.room e0 pass0 I (.cons (show RelV (.ref a) (.ref a) from rfl) (.cons (show RelV (.ref b) (.ref b) from rfl) .nil)) hsp) ?_
  rintro r s' ⟨v', H', I', rv, rfl, ex⟩
  obtain rfl : r = Value.bool (decide (t = t2)) := rv
  exact ⟨rfl, H', I', ex⟩
end
end N1
set_option maxHeartbeats 4000000
/-! == of tables, pauses, plans -/
namespace N1
open PySem PySem.Spec PyProof.Rows L2 TL
theorem run_ne {P : Program} {K : PySem.W.Frag} {mg : Str → Option Value} (T : FX P K mg) : cRun K ≠ cStay K := by
  intro e
  obtain ⟨u1, c1⟩ := T.woR
  obtain ⟨u2, c2⟩ := T.woS
  have h1 := c1.at_
  have h2 := c2.at_
  have e' : ga K "Run" = ga K "Stay" := e
  rw [e', h2] at h1
  have h3 : u2 = u1 := by injection h1 with h1; injection h1
  obtain ⟨t1, r1⟩ := c1.rel
  obtain ⟨t2, r2⟩ := c2.rel
  rw [r1, r2] at h3
  have n1 : ("stay" : Str) ≠ "run" := by decide
  injection h3 with h4
  exact n1 h4
theorem tr_same {P : Program} {K : PySem.W.Frag} {mg : Str → Option Value} (T : FX P K mg) {H : Hp} {a : Addr} {t u : TR} (h1 : TripAt K H a t) (h2 : TripAt K H a u) : t = u := by
  obtain ⟨d1, e1⟩ := h1
  obtain ⟨d2, e2⟩ := h2
  rw [e1] at e2
  have hc : cTR K t = cTR K u := by injection e2 with e2; injection e2
  have hf : tfs t = tfs u := by injection e2 with e2; injection e2
  have hr : t.run = u.run := by
    unfold cTR at hc
    cases r1 : t.run <;> cases r2 : u.run <;> rw [r1, r2] at hc <;> first | rfl | exact absurd hc (run_ne T) | exact absurd hc.symm (run_ne T)
  unfold tfs at hf
  obtain ⟨r1, n1, s1, a1, b1, g1⟩ := t
  obtain ⟨r2, n2, s2, a2, b2, g2⟩ := u
  simp only [List.cons.injEq, Prod.mk.injEq, V.str.injEq, V.int.injEq, true_and, and_true] at hf hr
  obtain ⟨f1, f2, f3, f4, f5⟩ := hf
  subst hr f1 f2 f3 f4 f5
  rfl
section
variable {X : Cx}
theorem eqB_tr (T : FX X.prog X.K X.mg) : EqB X 1 (DTrB X.K) := by
  intro A pins s σ H x y cc u v sb I rx ry d
  obtain ⟨a, b, t, t2, rfl, rfl, o1, o2, h1, h2, rfl⟩ := id d
  cases rx
  cases ry
  by_cases hab : a = b
  · subst hab
    have e := tr_same T h1 h2
    refine SeqAt.EqAt.same (A := A) (s := s) (.ref a) X.prog X.w X.xe _ ⟨?_, H, I, Ext.rfl'⟩
    simp [e]
  · refine GQ.eqBool_refG hab (wpAny_mono (rcB_tr T A pins s σ H (.ref a) (.ref b) _ _ _ sb I rfl rfl d) (fun r s' q => ?_) fun _ _ x => x)
    obtain ⟨hr', q⟩ := q
    exact ⟨_, hr', rfl, q⟩
def rTrsB (K : PySem.W.Frag) : R2 := fun x y H Q => ∃ (a b : Addr) (as bs : List Addr) (ts us : List TR), x = .ref a ∧ y = .ref b ∧ SqT K H a (as.map V.ref) ∧ SqT K H b (bs.map V.ref) ∧ Trs K H as ts ∧ Trs K H bs us ∧ (∀ t ∈ ts, t.Ok) ∧ (∀ t ∈ us, t.Ok) ∧ ∀ H', Same H H' → Q (.bl (decide (ts = us))) H'
theorem all_eq {ts us : List TR} : ((List.range (min ts.length us.length)).all (fun i => decide (ts[i]? = us[i]?)) && ts.length == us.length) = decide (ts = us) := by
  by_cases h : ts = us
  · subst h
    simp
  · rw [decide_eq_false h]
    by_cases hl : ts.length = us.length
    · have : ¬ ∀ i ∈ List.range (min ts.length us.length), decide (ts[i]? = us[i]?) = true := by
        intro z
        refine h (List.ext_getElem? fun i => ?_)
        by_cases hi : i < ts.length
        · exact of_decide_eq_true (z i (List.mem_range.mpr (by omega)))
        · rw [List.getElem?_eq_none (by omega), List.getElem?_eq_none (by omega)]
      have h2 : (List.range (min ts.length us.length)).all (fun i => decide (ts[i]? = us[i]?)) = false := by
        cases e : (List.range (min ts.length us.length)).all (fun i => decide (ts[i]? = us[i]?)) with
        | false => rfl
        | true => exact absurd (List.all_eq_true.mp e) this
      rw [h2, Bool.false_and]
    · simp [hl]
theorem op_eqTrs (T : FX X.prog X.K X.mg) (hr : Room 2 X.A) : OpR X (compareOp .Eq) (rTrsB X.K) := by
  intro pins s σ H x y v u Q I rx ry h
  obtain ⟨a, b, as, bs, ts, us, rfl, rfl, ha, hb, t1, t2, o1, o2, q⟩ := h
  obtain rfl : v = Value.ref a := rx
  obtain rfl : u = Value.ref b := ry
  obtain ⟨its, r, e, z⟩ := I.tuple ha
  obtain ⟨its2, r2, e2, z2⟩ := I.tuple hb
  have l1 : its.length = ts.length := by rw [← r.length, List.length_map, t1.1]
  have l2 : its2.length = us.length := by rw [← r2.length, List.length_map, t2.1]
  show wpAny (model X.prog X.w) X.A (richCompare .Eq (.ref a) (.ref b)) (EP X pins σ Q) X.xe s
  refine GQB.rc_tupB (items := its.toArray) (items2 := its2.toArray) hr.units0 (fun i => decide (ts[i]? = us[i]?)) (fun _ s' => LoopI X pins σ H s') e e2 (fun i h1 h2 s' l => ?_) (fun i s' l => ?_) ⟨H, I, Ext.rfl'⟩
  · obtain ⟨H1, I1, e1⟩ := l
    have k1 : i < its.length := by simpa using h1
    have k2 : i < its2.length := by simpa using h2
    obtain ⟨ai, hai⟩ : ∃ ai, as[i]? = some ai := ⟨_, List.getElem?_eq_getElem (by rw [t1.1]; omega)⟩
    obtain ⟨bi, hbi⟩ : ∃ bi, bs[i]? = some bi := ⟨_, List.getElem?_eq_getElem (by rw [t2.1]; omega)⟩
    obtain ⟨ti, hti⟩ : ∃ ti, ts[i]? = some ti := ⟨_, List.getElem?_eq_getElem (by omega)⟩
    obtain ⟨ui, hui⟩ : ∃ ui, us[i]? = some ui := ⟨_, List.getElem?_eq_getElem (by omega)⟩
    obtain ⟨u1, hu1, ru1⟩ := r.get (show (as.map V.ref)[i]? = some (.ref ai) by rw [List.getElem?_map, hai]; rfl)
    obtain ⟨u2, hu2, ru2⟩ := r2.get (show (bs.map V.ref)[i]? = some (.ref bi) by rw [List.getElem?_map, hbi]; rfl)
    have g1 : its.toArray[i] = u1 := by
      have := (List.getElem?_eq_some_iff.mp hu1).2
      simpa using this
    have g2 : its2.toArray[i] = u2 := by
      have := (List.getElem?_eq_some_iff.mp hu2).2
      simpa using this
    rw [g1, g2]
    have sb : Sub X 1 X.A.in1 := ⟨hr.in1, rfl⟩
    refine wpAny_mono (eqB_tr T X.A.in1 pins s' σ H1 (.ref ai) (.ref bi) (decide (ti = ui)) u1 u2 sb I1 ru1 ru2 ⟨ai, bi, ti, ui, rfl, rfl, o1 _ (List.mem_of_getElem? hti), o2 _ (List.mem_of_getElem? hui), (t1.2 i ai ti hai hti).up e1, (t2.2 i bi ui hbi hui).up e1, rfl⟩) (fun r s2 q => ?_) fun _ _ x => x
    obtain ⟨hr, H2, I2, e3⟩ := q
    refine ⟨?_, H2, I2, e1.trans e3⟩
    rw [hr, hti, hui]
    simp
  · obtain ⟨H1, I1, e1⟩ := l
    refine ⟨_, H1, I1, ?_, q H1 e1⟩
    rw [List.size_toArray, List.size_toArray, l1, l2, all_eq]
    rfl
theorem hits_int {A : Around} {s : Shared} {l' : List (Str × Int)} {vb : List (Key × Value)} (rb : KV (kI l') vb) : ∀ {l : List (Str × Int)} {va : List (Key × Value)}, KV (kI l) va → PySem.W.KeqHits A s vb va (l.all fun p => decide (lkI l' p.1 = some p.2))
  | [], va, ra => by
    cases ra
    exact .nil
  | p :: l, va, ra => by
    cases ra with
    | @cons _ q _ qs h t =>
      obtain ⟨h1, h2⟩ := h
      obtain ⟨k, v⟩ := q
      have h1' : (Sum.inr p.1 : Key) = k := h1
      subst h1'
      have rr : RelO ((lkI l' p.1).map V.int) (valueAt vb (Sum.inr p.1)) := by rw [← valV_kI]; exact rb.val (Sum.inr p.1)
      rw [List.all_cons]
      cases e : lkI l' p.1 with
      | none =>
        rw [e] at rr
        have hy : valueAt vb (Sum.inr p.1) = none := by
          cases z : valueAt vb (Sum.inr p.1) with
          | none => rfl
          | some w => rw [z] at rr; exact False.elim rr
        rw [show (decide ((none : Option Int) = some p.2) && l.all fun p => decide (lkI l' p.1 = some p.2)) = false by simp]
        exact .miss hy
      | some j =>
        rw [e] at rr
        obtain ⟨y, hy, ry⟩ := rr.some_of
        rw [show decide (some j = some p.2) = eqV (.int p.2) (.int j) by
          show _ = (p.2 == j)
          by_cases hj : j = p.2
          · subst hj; simp
          · have : ¬ p.2 = j := fun z => hj z.symm
            simp [hj, this]]
        exact .hit hy (eqAt_V h2 ry rfl rfl) (hits_int rb t)
def rEqDI : R2 := fun x y H Q => ∃ a b l l', x = .ref a ∧ y = .ref b ∧ H a = some (.dK (kI l)) ∧ H b = some (.dK (kI l')) ∧ Q (.bl (decide (l.length = l'.length) && l.all fun p => decide (lkI l' p.1 = some p.2))) H
theorem op_eqDI (hu : X.A.units < cLine) : OpR X (compareOp .Eq) rEqDI := by
  intro pins s σ H x y v u Q I rx ry h
  obtain ⟨a, b, l, l', rfl, rfl, ea, eb, q⟩ := h
  obtain rfl : v = Value.ref a := rx
  obtain rfl : u = Value.ref b := ry
  obtain ⟨_, ya, va, ra, da⟩ := (show ObjOk X.prog X.w H s.heap a (.dK (kI l)) from I.hok a _ ea)
  obtain ⟨_, yb, vb, rb, db⟩ := (show ObjOk X.prog X.w H s.heap b (.dK (kI l')) from I.hok b _ eb)
  have l1 : va.length = l.length := by rw [← ra.length]; unfold kI; rw [List.length_map]
  have l2 : vb.length = l'.length := by rw [← rb.length]; unfold kI; rw [List.length_map]
  refine PySem.W.keq_eq (knd := mixKind X.prog X.w) ya yb da db hu (fun _ => hits_int rb ra) (fin_bl I q ?_)
  rw [l1, l2]
  by_cases h : l.length = l'.length <;> simp [h]
end
theorem lkI_mem2 {l : List (Str × Int)} {x : Str} {n : Int} (h : lkI l x = some n) : (x, n) ∈ l := by
  unfold lkI at h
  cases e : l.find? fun p => decide (p.1 = x) with
  | none => rw [e] at h; cases h
  | some p =>
    rw [e] at h
    have h1 := List.mem_of_find?_eq_some e
    have h2 := List.find?_some e
    simp only [decide_eq_true_eq] at h2
    have h3 : p.2 = n := Option.some.inj h
    rw [← h2, ← h3]
    exact h1
theorem keys_eq {l l' : List (Str × Int)} (n1 : (keysI l).Nodup) (n2 : (keysI l').Nodup) (s1 : sn (keysI l) = keysI l) (s2 : sn (keysI l') = keysI l') (hl : l.length = l'.length) (h : ∀ p ∈ l, lkI l' p.1 = some p.2) : l = l' := by
  have sub : keysI l ⊆ keysI l' := fun x hx => by
    obtain ⟨p, hp, rfl⟩ := List.mem_map.mp hx
    exact List.mem_map.mpr ⟨_, lkI_mem2 (h p hp), rfl⟩
  have lk : (keysI l).length = (keysI l').length := by unfold keysI; rw [List.length_map, List.length_map, hl]
  have pm : (keysI l).Perm (keysI l') := (List.perm_ext_iff_of_nodup n1 n2).mpr fun x => ⟨fun hx => sub hx, fun hx => Classical.byContradiction fun hn => by
    have := List.Nodup.length_le_of_subset (List.nodup_cons.mpr ⟨hn, n1⟩) (l₂ := keysI l') (fun z hz => by
      rcases List.mem_cons.mp hz with e | e
      · rw [e]; exact hx
      · exact sub e)
    rw [List.length_cons] at this
    omega⟩
  have ek : keysI l = keysI l' := by rw [← s1, ← s2, sn_congr pm]
  have e1 : l = (keysI l).map fun x => (x, nzI l' x) := by
    unfold keysI
    rw [List.map_map]
    conv => lhs; rw [← List.map_id l]
    refine List.map_congr_left fun p hp => ?_
    show p = (p.1, nzI l' p.1)
    unfold nzI
    rw [h p hp]
    rfl
  have e2 : l' = (keysI l').map fun x => (x, nzI l' x) := by
    unfold keysI
    rw [List.map_map]
    conv => lhs; rw [← List.map_id l']
    refine List.map_congr_left fun p hp => ?_
    show p = (p.1, nzI l' p.1)
    unfold nzI
    rw [lkI_of n2 hp]
    rfl
  exact e1.trans (ek ▸ e2.symm)
theorem pau_dec {l l' : List (Str × Int)} (n1 : (keysI l).Nodup) (n2 : (keysI l').Nodup) (s1 : sn (keysI l) = keysI l) (s2 : sn (keysI l') = keysI l') : (decide (l.length = l'.length) && l.all fun p => decide (lkI l' p.1 = some p.2)) = decide (l = l') := by
  by_cases h : l = l'
  · subst h
    rw [decide_eq_true rfl]
    simp only [decide_true, Bool.true_and]
    exact List.all_eq_true.mpr fun p hp => by rw [lkI_of n1 hp]; simp
  · rw [decide_eq_false h]
    cases e : (decide (l.length = l'.length) && l.all fun p => decide (lkI l' p.1 = some p.2)) with
    | false => rfl
    | true =>
      rw [Bool.and_eq_true] at e
      exact absurd (keys_eq n1 n2 s1 s2 (of_decide_eq_true e.1) fun p hp => of_decide_eq_true (List.all_eq_true.mp e.2 p hp)) h
def spTabEqB (K : PySem.W.Frag) : Sp := fun vs H Q _ => ∃ (a b : Addr) (n m : Int) (us ws : List TR), vs = [.ref a, .ref b] ∧ TableAt K H a n us ∧ TableAt K H b m ws ∧ (∀ t ∈ us, t.Ok) ∧ (∀ t ∈ ws, t.Ok) ∧ ∀ H', Same H H' → Q (.bl (decide (n = m ∧ us = ws))) H'
def spPauEqB (K : PySem.W.Frag) : Sp := fun vs H Q _ => ∃ (a b : Addr) (l l' : List (Str × Int)), vs = [.ref a, .ref b] ∧ PausesAt K H a l ∧ PausesAt K H b l' ∧ (keysI l).Nodup ∧ (keysI l').Nodup ∧ sn (keysI l) = keysI l ∧ sn (keysI l') = keysI l' ∧ Q (.bl (decide (l = l'))) H
def spPlnEq (K : PySem.W.Frag) : Sp := fun vs H Q _ => ∃ (a b : Addr) (n : Int) (us : List TR) (ps : List (Str × Int)) (fs : List (Str × Str)), vs = [.ref a, .ref b] ∧ PlanAt K H a n us ps fs ∧ PlanAt K H b n us ps fs ∧ (∀ t ∈ us, t.Ok) ∧ (keysI ps).Nodup ∧ (fs.map (·.1)).Nodup ∧ ∀ H', Same H H' → Q (.bl true) H'
section
variable {P : Program} {w : World} {K : PySem.W.Frag} {mg : Str → Option Value} {base : Heap}
theorem ok_TableEqB (T : FX P K mg) : FnR P w K mg base CX0 3 (ma K (ga K "Table") "__eq__") (spTabEqB K) := by
  refine fnr T.f_TableEq sc_TableEq (fun _ _ _ _ _ _ us hl => match us, hl with | [_, _], _ => rfl) (fun vs H Q E h => ?_) (fun cdv A outer s H vs Q E hr h => ?_)
  · obtain ⟨a, b, n, m, us, ws, rfl, _⟩ := h
    rfl
  · obtain ⟨a, b, n, m, us, ws, rfl, ⟨dx, d, dn, dp, dr, rs, h1, h2, h3, h4, h5⟩, ⟨dy, d', dn', dp', dr', rs', g1, g2, g3, g4, g5⟩, ok, ok2, k⟩ := h
    have cT := T.cls "Table" (by decide +kernel)
    have nD := T.noat ("Table", "day") (by decide +kernel)
    have nR := T.noat ("Table", "rows") (by decide +kernel)
    refine ⟨_, pss_one (ps_ret (pe_and (cb "isinstance" T call_isi (pa_cons (pv 1) (pa_cons (gc "Table" T) pa_nil))) (pe_and (pe_cmpR (or_ownEq (T.meth ("Day", "__eq__") (by decide +kernel)) (ok_DayEq T) (hr.mono (by decide)) pass0) (pe_fld (pv 0) rfl) (pe_fld (pv 1) rfl) (nomark _))
      (pe_one (pe_cmpR (op_eqTrs T hr) (pe_fld (pv 0) rfl) (pe_fld (pv 1) rfl) (nomark _)))))), ?_⟩
    refine ⟨_, rfl, _, _, _, _, true, rfl, .own _, isi_ok T T.isT cT g1, T.isT.k1, _, rfl, ?_⟩
    obtain ⟨d1, hd1⟩ := id h2
    obtain ⟨d2, hd2⟩ := id g2
    refine ⟨_, rfl, a, _, dx, _, _, rfl, h1, cT, nD, rfl, _, rfl, b, _, dy, _, _, rfl, g1, cT, nD, rfl, d, d', rfl, rfl, ⟨_, _, hd1⟩, ⟨_, _, hd2⟩, d, d', n, m, rfl, h2, g2, _, rfl, _, rfl, ?_⟩
    by_cases hnm : n = m
    · subst hnm
      rw [show decide (n = n) = true by simp]
      refine ⟨_, rfl, a, _, dx, _, _, rfl, h1, cT, nR, rfl, _, rfl, b, _, dy, _, _, rfl, g1, cT, nR, rfl, dr, dr', rs, rs', us, ws, rfl, rfl, SqT.of h4, SqT.of g4, h5, g5, ok, ok2, fun H' s => ?_⟩
      have := k H' s
      rw [show decide (n = n ∧ us = ws) = decide (us = ws) by simp] at this
      exact this
    · rw [decide_eq_false hnm]
      have := k H same_rfl
      rw [decide_eq_false (fun z => hnm z.1)] at this
      exact this
theorem ok_PausesEqB (T : FX P K mg) : FnR P w K mg base CX0 1 (ma K (ga K "Pauses") "__eq__") (spPauEqB K) := by
  refine fnr T.f_PausesEq sc_PausesEq (fun _ _ _ _ _ _ us hl => match us, hl with | [_, _], _ => rfl) (fun vs H Q E h => ?_) (fun cdv A outer s H vs Q E hr h => ?_)
  · obtain ⟨a, b, l, l', rfl, _⟩ := h
    rfl
  · obtain ⟨a, b, l, l', rfl, ⟨da, dn, dr, ha, hn, _⟩, ⟨da', dn', dr', ha', hn', _⟩, n1, n2, s1, s2, k⟩ := h
    have cP := T.cls "Pauses" (by decide +kernel)
    have nN := T.noat ("Pauses", "numbers") (by decide +kernel)
    refine ⟨_, pss_one (ps_ret (pe_and (cb "isinstance" T call_isi (pa_cons (pv 1) (pa_cons (gc "Pauses" T) pa_nil))) (pe_one (pe_cmpR (op_eqDI hr.units0) (pe_fld (pv 0) rfl) (pe_fld (pv 1) rfl) (nomark _))))), ?_⟩
    refine ⟨_, rfl, _, _, _, _, true, rfl, .own _, isi_ok T T.isP cP ha', T.isP.k1, _, rfl, ?_⟩
    refine ⟨_, rfl, a, _, da, _, _, rfl, ha, cP, nN, rfl, _, rfl, b, _, da', _, _, rfl, ha', cP, nN, rfl, dn, dn', l, l', rfl, rfl, hn, hn', ?_⟩
    rw [pau_dec n1 n2 s1 s2]
    exact k
theorem ok_PlanEq (T : FX P K mg) : FnR P w K mg base CX0 4 (ma K (ga K "Plan") "__eq__") (spPlnEq K) := by
  refine fnr T.f_PlanEq sc_PlanEq (fun _ _ _ _ _ _ us hl => match us, hl with | [_, _], _ => rfl) (fun vs H Q E h => ?_) (fun cdv A outer s H vs Q E hr h => ?_)
  · obtain ⟨a, b, n, us, ps, fs, rfl, _⟩ := h
    rfl
  · obtain ⟨a, b, n, us, ps, fs, rfl, ⟨dx, t, p, d, u, h1, h2, h3, h4⟩, ⟨dy, t', p', d', u', g1, g2, g3, g4⟩, ok, pnd, fnd, k⟩ := h
    have cP := T.cls "Plan" (by decide +kernel)
    have q1 := T.noat ("Plan", "table") (by decide +kernel)
    have q2 := T.noat ("Plan", "pauses") (by decide +kernel)
    have q3 := T.noat ("Plan", "own_follows") (by decide +kernel)
    refine ⟨_, pss_one (ps_ret (pe_and (cb "isinstance" T call_isi (pa_cons (pv 1) (pa_cons (gc "Plan" T) pa_nil))) (pe_and (pe_cmpR (or_ownEq (T.meth ("Table", "__eq__") (by decide +kernel)) (ok_TableEq T) hr pass0) (pe_fld (pv 0) rfl) (pe_fld (pv 1) rfl) (nomark _))
      (pe_and (pe_cmpR (or_ownEq (T.meth ("Pauses", "__eq__") (by decide +kernel)) (ok_PausesEq T) (hr.mono (by decide)) pass0) (pe_fld (pv 0) rfl) (pe_fld (pv 1) rfl) (nomark _))
      (pe_one (pe_cmpR (op_eq_dictA hr.units0) (pe_fld (pv 0) rfl) (pe_fld (pv 1) rfl) (nomark _))))))), ?_⟩
    refine ⟨_, rfl, _, _, _, _, true, rfl, .own _, isi_ok T T.isL cP g1, T.isL.k1, _, rfl, ?_⟩
    have i2 : InsAt H t (cTab K) := by obtain ⟨x, _, _, _, _, _, e, _⟩ := id h2; exact ⟨_, _, e⟩
    have i2' : InsAt H t' (cTab K) := by obtain ⟨x, _, _, _, _, _, e, _⟩ := id g2; exact ⟨_, _, e⟩
    refine ⟨_, rfl, a, _, dx, _, _, rfl, h1, cP, q1, rfl, _, rfl, b, _, dy, _, _, rfl, g1, cP, q1, rfl, t, t', rfl, rfl, i2, i2', t, t', n, us, rfl, h2, g2, ok, fun H1 s1 => ⟨_, rfl, _, rfl, ?_⟩⟩
    have h3' := h3.up s1
    have g3' := g3.up s1
    have i3 : InsAt H1 p (cPau K) := by obtain ⟨x, _, _, e, _⟩ := id h3'; exact ⟨_, _, e⟩
    have i3' : InsAt H1 p' (cPau K) := by obtain ⟨x, _, _, e, _⟩ := id g3'; exact ⟨_, _, e⟩
    refine ⟨_, rfl, a, _, dx, _, _, rfl, s1 _ _ h1, cP, q2, rfl, _, rfl, b, _, dy, _, _, rfl, s1 _ _ g1, cP, q2, rfl, p, p', rfl, rfl, i3, i3', p, p', ps, rfl, h3', g3', pnd, _, rfl, _, rfl, ?_⟩
    refine ⟨_, rfl, a, _, dx, _, _, rfl, s1 _ _ h1, cP, q3, rfl, _, rfl, b, _, dy, _, _, rfl, s1 _ _ g1, cP, q3, rfl, d, d', kS fs, kS fs, rfl, rfl, s1 _ _ h4, s1 _ _ g4, rfl, fun pr hpr => ?_, k H1 s1⟩
    obtain ⟨q, hq, e⟩ := List.mem_map.mp hpr
    subst e
    exact ⟨kS_get fnd hq, rfl⟩
end
end N1
set_option maxHeartbeats 8000000
/-! the law: a thing is right -/
namespace N1
open PySem PySem.Spec PyProof.Rows L2 TL
/-- == and != of lists of texts -/
def rEqS : R2 := fun x y H Q => ∃ (a b : Addr) (xs ys : List Str), x = .ref a ∧ y = .ref b ∧ H a = some (.lst (xs.map V.str)) ∧ H b = some (.lst (ys.map V.str)) ∧ (∀ z ∈ xs, PyData.strOk z = true) ∧ (∀ z ∈ ys, PyData.strOk z = true) ∧ (xs = ys → Q (.bl true) H) ∧ (xs ≠ ys → Q (.bl false) H)
def rNeS : R2 := fun x y H Q => ∃ (a b : Addr) (xs ys : List Str), x = .ref a ∧ y = .ref b ∧ H a = some (.lst (xs.map V.str)) ∧ H b = some (.lst (ys.map V.str)) ∧ (∀ z ∈ xs, PyData.strOk z = true) ∧ (∀ z ∈ ys, PyData.strOk z = true) ∧ (xs = ys → Q (.bl false) H) ∧ (xs ≠ ys → Q (.bl true) H)
theorem op_eqS {X : Cx} (hu : X.A.units + 64 < cLine) : OpR X (compareOp .Eq) rEqS := by
  intro pins s σ H x y v u Q I rx ry h
  obtain ⟨a, b, xs, ys, rfl, rfl, ha, hb, h1, h2, q, q'⟩ := h
  refine op_eqD hu pins s σ H _ _ v u Q I rx ry ⟨.list (xs.map PyData.str), .list (ys.map PyData.str), .lst (SqL.of ha) (dpS xs), .lst (SqL.of hb) (dpS ys), shapedS h1, shapedS h2, ?_⟩
  rw [PyData.eqv, eqvS]
  by_cases z : xs = ys
  · rw [decide_eq_true z]; exact q z
  · rw [decide_eq_false z]; exact q' z
theorem op_neS {X : Cx} (hu : X.A.units + 64 < cLine) : OpR X (compareOp .NotEq) rNeS := by
  intro pins s σ H x y v u Q I rx ry h
  obtain ⟨a, b, xs, ys, rfl, rfl, ha, hb, h1, h2, q, q'⟩ := h
  refine op_neD hu pins s σ H _ _ v u Q I rx ry ⟨.list (xs.map PyData.str), .list (ys.map PyData.str), .lst (SqL.of ha) (dpS xs), .lst (SqL.of hb) (dpS ys), shapedS h1, shapedS h2, ?_⟩
  rw [PyData.eqv, eqvS]
  by_cases z : xs = ys
  · rw [decide_eq_true z]; exact q z
  · rw [decide_eq_false z]; exact q' z
theorem tab_ins {K : PySem.W.Frag} {H : Hp} {a : Addr} {n : Int} {us : List TR} (h : TableAt K H a n us) : InsAt H a (cTab K) := by
  obtain ⟨x, _, _, _, _, _, e, _⟩ := h
  exact ⟨_, _, e⟩
theorem pau_ins {K : PySem.W.Frag} {H : Hp} {a : Addr} {ps : List (Str × Int)} (h : PausesAt K H a ps) : InsAt H a (cPau K) := by
  obtain ⟨x, _, _, e, _⟩ := h
  exact ⟨_, _, e⟩
theorem pln_ins {K : PySem.W.Frag} {H : Hp} {a : Addr} {n : Int} {us : List TR} {ps : List (Str × Int)} {fs : List (Str × Str)} (h : PlanAt K H a n us ps fs) : InsAt H a (cPln K) := by
  obtain ⟨dx, t, p, d, u, e, _⟩ := h
  exact ⟨_, _, e⟩
def spRight : Sp := fun vs H Q _ => ∃ (p q : Addr) (n : Int) (ts : List TR) (ws : List (Str × Int)) (fs : List (Str × Str)), vs = [.ref q] ∧ ThAt H p q n ts ws fs ∧ ThOk n ts ws fs ∧ ∀ H', Same H H' → Q (.bl true) H'
section
variable {P : Program} {w : World} {K : PySem.W.Frag} {mg : Str → Option Value} {base : Heap}
theorem ok_right (T : FX P K mg) : FnR P w K mg base CX0 11 (ga K "_law_right") spRight := by
  refine fnr T.f_w_right sc_right (fun _ _ _ _ _ _ us hl => match us, hl with | [_], _ => rfl) (fun vs H Q E h => ?_) (fun cdv A outer s H vs Q E hr h => ?_)
  · obtain ⟨p, q, n, ts, ws, fs, rfl, _⟩ := h
    rfl
  · obtain ⟨p, q, n, ts, ws, fs, rfl, ⟨a, l, wa, fa, hq, pl, hlp, hwa, hfa⟩, ok, k⟩ := h
    have nd := sc_right.nd
    have hu := hu_of hr
    have cP := T.cls "Plan" (by decide +kernel)
    have q1 := T.noat ("Plan", "table") (by decide +kernel)
    have q2 := T.noat ("Plan", "pauses") (by decide +kernel)
    refine ⟨_, pss_cons (ps_asg (pv 0) (pg_tup rfl (pgs_cons (pg_name (i := 1) nd rfl (Or.inl rfl)) (pgs_cons (pg_name (i := 2) nd rfl (Or.inl rfl)) (pgs_cons (pg_name (i := 3) nd rfl (Or.inl rfl)) pgs_nil)))))
      (pss_cons (ps_par (i := 4) (j := 5) rfl nd rfl rfl (by decide) rfl rfl (pa_cons (cl "_law_table" T (ok_tableL T) (hr.mono (by decide)) (pa_cons (pv 1) pa_nil)) (pa_cons (pe_smeth (gc "Pauses" T) T.crP T.stP (ok_PausesOf T) (hr.mono (by decide)) pass0 (pa_cons (pv 2) pa_nil)) pa_nil)) rfl)
      (pss_cons (ps_set (i := 6) nd rfl (Or.inl rfl) (StX.pe_makeR (T.mkr "Plan" (by decide +kernel)) (ok_PlanInit T) (hr.mono (by decide)) rfl (T.glo "Plan" (by decide +kernel)) pass0 (pa_cons (pv 4) (pa_cons (pv 5) (pa_cons (pv 3) pa_nil)))))
      (pss_cons (ps_set (i := 7) nd rfl (Or.inl rfl) (pe_lst (pa_cons (cl "_law_table_text" T (ok_table_text T) (hr.mono (by decide)) (pa_cons (pv 1) pa_nil)) (pa_cons (cl "_law_pauses_text" T (ok_pauses_text T) (hr.mono (by decide)) (pa_cons (pv 2) pa_nil)) (pa_cons (cl "_law_plan_text" T (ok_plan_text T) (hr.mono (by decide)) (pa_cons (pv 1) (pa_cons (pv 2) (pa_cons (pv 3) pa_nil)))) pa_nil)))))
      (pss_cons (ps_if (pt_cmpR (op_neS hr.units) (pe_lst (pa_cons (cl "write_table" T (ok_write_table T) (hr.mono (by decide)) (pa_cons (pv 4) pa_nil)) (pa_cons (cl "write_pauses" T (ok_write_pauses T) (hr.mono (by decide)) (pa_cons (pv 5) pa_nil)) (pa_cons (cl "write_plan" T (ok_write_plan T) (hr.mono (by decide)) (pa_cons (pv 6) pa_nil)) pa_nil)))) (pv 7) (nomark _)) pss_never pss_nil)
      (pss_cons (ps_set (i := 8) nd rfl (Or.inl rfl) (pe_lst (pa_cons (cl "read_table" T (ok_read_table T) hr (pa_cons (pe_ix ix_list (pv 7) pe_int (fun _ _ => rfl)) pa_nil)) (pa_cons (cl "read_pauses" T (ok_read_pauses T) (hr.mono (by decide)) (pa_cons (pe_ix ix_list (pv 7) pe_int (fun _ _ => rfl)) pa_nil)) (pa_cons (cl "read_plan" T (ok_read_plan T) hr (pa_cons (pe_ix ix_list (pv 7) pe_int (fun _ _ => rfl)) pa_nil)) pa_nil)))))
      (pss_cons (ps_if (pw_or (pt_cmpR (or_ownNe (T.neq "Table" (by decide +kernel)).1 (T.neq "Table" (by decide +kernel)).2 (T.meth ("Table", "__eq__") (by decide +kernel)) (ok_TableEq T) (hr.mono (by decide)) pass0) (pe_ix ix_list (pv 8) pe_int (fun _ _ => rfl)) (pv 4) (nomark _))
          (pw_or (pt_cmpR (or_ownNe (T.neq "Pauses" (by decide +kernel)).1 (T.neq "Pauses" (by decide +kernel)).2 (T.meth ("Pauses", "__eq__") (by decide +kernel)) (ok_PausesEq T) (hr.mono (by decide)) pass0) (pe_ix ix_list (pv 8) pe_int (fun _ _ => rfl)) (pv 5) (nomark _))
          (pw_or1 (pt_cmpR (or_ownNe (T.neq "Plan" (by decide +kernel)).1 (T.neq "Plan" (by decide +kernel)).2 (T.meth ("Plan", "__eq__") (by decide +kernel)) (ok_PlanEq T) (hr.mono (by decide)) pass0) (pe_ix ix_list (pv 8) pe_int (fun _ _ => rfl)) (pv 6) (nomark _))))).pt pss_never pss_nil)
      (pss_cons (ps_if (pt_cmpR (op_neS hr.units) (pe_lst (pa_cons (clk "write_table" T (okk_write_table T) (hr.mono (by decide)) (pe_ix ix_list (pv 8) pe_int (fun _ _ => rfl))) (pa_cons (clk "write_pauses" T (okk_write_pauses T) (hr.mono (by decide)) (pe_ix ix_list (pv 8) pe_int (fun _ _ => rfl))) (pa_cons (clk "write_plan" T (okk_write_plan T) (hr.mono (by decide)) (pe_ix ix_list (pv 8) pe_int (fun _ _ => rfl))) pa_nil)))) (pv 7) (nomark _)) pss_never pss_nil)
      (pss_cons (ps_if (pw_or (pt_cmpR (or_ownNe (T.neq "Table" (by decide +kernel)).1 (T.neq "Table" (by decide +kernel)).2 (T.meth ("Table", "__eq__") (by decide +kernel)) (ok_TableEq T) (hr.mono (by decide)) pass0) (clk "read_table" T (okk_read_table T) hr (pe_ix ix_list (pv 7) pe_int (fun _ _ => rfl))) (pv 4) (nomark _))
          (pw_or (pt_cmpR (or_ownNe (T.neq "Pauses" (by decide +kernel)).1 (T.neq "Pauses" (by decide +kernel)).2 (T.meth ("Pauses", "__eq__") (by decide +kernel)) (ok_PausesEq T) (hr.mono (by decide)) pass0) (clk "read_pauses" T (okk_read_pauses T) (hr.mono (by decide)) (pe_ix ix_list (pv 7) pe_int (fun _ _ => rfl))) (pv 5) (nomark _))
          (pw_or1 (pt_cmpR (or_ownNe (T.neq "Plan" (by decide +kernel)).1 (T.neq "Plan" (by decide +kernel)).2 (T.meth ("Plan", "__eq__") (by decide +kernel)) (ok_PlanEq T) (hr.mono (by decide)) pass0) (clk "read_plan" T (okk_read_plan T) hr (pe_ix ix_list (pv 7) pe_int (fun _ _ => rfl))) (pv 6) (nomark _))))).pt pss_never pss_nil)
      (pss_one (ps_ret (pe_and (pe_cmpR (op_eq_dictA hr.units0) (pe_propR (pe_ix ix_list (pv 8) pe_int (fun _ _ => rfl)) cP T.prF (ok_PlanFollows T) (hr.mono (by decide)) pass0) (pv 3) (nomark _))
        (pe_and (pe_cmpR (or_ownEq (T.meth ("Table", "__eq__") (by decide +kernel)) (ok_TableEq T) (hr.mono (by decide)) pass0) (pe_fld (pe_ix ix_list (pv 8) pe_int (fun _ _ => rfl)) rfl) (pv 4) (nomark _))
        (pe_one (pe_cmpR (or_ownEq (T.meth ("Pauses", "__eq__") (by decide +kernel)) (ok_PausesEq T) (hr.mono (by decide)) pass0) (pe_fld (pe_ix ix_list (pv 8) pe_int (fun _ _ => rfl)) rfl) (pv 5) (nomark _))))))))))))))), ?_⟩
    have lt := ok.lt
    have l7 := lt.l7
    have n1 := lt.n1
    have n12 := lt.n12
    have wr := wr_of ok
    have rd := rd_of ok
    refine ⟨_, rfl, q, _, rfl, SqT.of hq, rfl, _, _, rfl, _, _, rfl, _, _, rfl, rfl, ?_⟩
    refine ⟨_, rfl, a, l, n, ts, rfl, pl, tabok_of lt, lt.ok, n1, n12, fun H1 ta s1 hta tb => ?_⟩
    refine ⟨rfl, _, rfl, H1, wa, ws, rfl, same_rfl, s1 _ _ hwa, ok.pa, fun H2 G2 pp g2 hpp pa => ?_⟩
    have s2 : Same H1 H2 := fun x o e => g2.kp x o (by simp) e
    have pa2 := pa.up g2.gh
    have tb2 := tb.up s2
    have s02 := same_tr s1 s2
    have lo : ∀ t ∈ st ts, t.Ok := st_mem lt.nd lt.ok
    have ln := st_nodup lt.nd
    have pnd := nodup_nrm ok.pa.nd
    have fo := fol_st lt.nd ok.fo
    refine ⟨_, _, rfl, _, rfl, _, rfl, _, rfl, fun x dx hx hdx hne => ?_⟩
    have gX : Same H2 (upd (upd H2 dx (.own x)) x (.ins (cPln K) dx [])) := same_new (same_new same_rfl hdx) (by rw [upd_ne (Ne.symm hne)]; exact hx)
    refine ⟨H2, x, dx, ta, pp, fa, n, st ts, nrm ws, fs, rfl, gX, hx, upd_same, tb2, pa2, s02 _ _ hfa, fo, us_of lt.nd lt.ok (by omega), fun H3 d u s3 k3 hx3 hd3 => ⟨rfl, ?_⟩⟩
    have s03 := same_tr s02 s3
    have tb3 := tb2.up s3
    have pa3 := pa2.up s3
    have pl3 : PlanAt K H3 x n (st ts) (nrm ws) (foN (st ts) fs) := ⟨dx, ta, pp, d, u, hx3, tb3, pa3, hd3⟩
    clear gX tb pa hx3 hd3
    refine ⟨_, rfl, a, l, n, ts, rfl, pl.up s03, lt.nd, by omega, lt.ok, by omega, n12, fun H4 s4 => ?_⟩
    have s04 := same_tr s03 s4
    refine ⟨_, rfl, wa, ws, rfl, s04 _ _ hwa, ok.pa, fun H5 s5 => ?_⟩
    have s05 := same_tr s04 s5
    have fkp : (fs.map (·.1)).Perm (names ts) := ok.fo.p1
    refine ⟨_, rfl, _, rfl, _, rfl, a, l, wa, fa, n, ts, ws, fs, rfl, pl.up s05, lt.nd, by omega, lt.ok, by omega, n12, s05 _ _ hwa, ok.pa, s05 _ _ hfa, fkp, fok_of lt.ok ok.fo, fun H6 s6 => ?_⟩
    have s36 := same_tr s4 (same_tr s5 s6)
    have s06 := same_tr s05 s6
    have n0 : 0 ≤ n := by omega
    refine ⟨(show (3 : Nat) ≤ sizeLine by decide), fun lx hlx => ?_⟩
    have s7 : Same H3 (upd H6 lx (.lst [V.str (tabT n (st ts)), V.str (pauT (nrm ws)), V.str (planT n (st ts) (nrm ws) (foN (st ts) fs))])) := same_new s36 hlx
    have hlx7 : (upd H6 lx (.lst [V.str (tabT n (st ts)), V.str (pauT (nrm ws)), V.str (planT n (st ts) (nrm ws) (foN (st ts) fs))])) lx = some (.lst ([tabT n (st ts), pauT (nrm ws), planT n (st ts) (nrm ws) (foN (st ts) fs)].map V.str)) := upd_same
    have s07 : Same H _ := same_tr s03 s7
    have tb7 := tb3.up s7
    have pa7 := pa3.up s7
    have pl7 := pl3.up s7
    have hfa7 := s07 _ _ hfa
    generalize upd H6 lx (.lst [V.str (tabT n (st ts)), V.str (pauT (nrm ws)), V.str (planT n (st ts) (nrm ws) (foN (st ts) fs))]) = H7 at s7 hlx7 s07 tb7 pa7 pl7 hfa7 ⊢
    clear tb3 pa3 pl3 tb2 pa2
    have sok : ∀ z ∈ [tabT n (st ts), pauT (nrm ws), planT n (st ts) (nrm ws) (foN (st ts) fs)], PyData.strOk z = true := by
      intro z hz
      simp only [List.mem_cons, List.not_mem_nil, or_false] at hz
      rcases hz with rfl | rfl | rfl
      · exact sok_of (sg_tab n0 lo)
      · exact sok_of (sg_pau fun p hp => ⟨(wr.pau p hp).1, (wr.pau p hp).2.1⟩)
      · exact sok_of (sg_plan wr)
    refine ⟨_, rfl, ta, n, st ts, rfl, tb7, n0, n12, lo, wr.l40, wr.len, fun H8 s8 => ?_⟩
    refine ⟨_, rfl, pp, nrm ws, rfl, pa7.up s8, wr.pau, pnd, wr.p60, fun H9 s9 => ?_⟩
    refine ⟨_, rfl, x, n, st ts, nrm ws, _, rfl, pl7.up (same_tr s8 s9), wr, fun HA sA => ?_⟩
    refine ⟨(show (3 : Nat) ≤ sizeLine by decide), fun l2 hl2 => ?_⟩
    have s7A := same_tr s8 (same_tr s9 sA)
    have sB : Same H7 (upd HA l2 (.lst [V.str (tabT n (st ts)), V.str (pauT (nrm ws)), V.str (planT n (st ts) (nrm ws) (foN (st ts) fs))])) := same_new s7A hl2
    refine ⟨_, rfl, l2, lx, [tabT n (st ts), pauT (nrm ws), planT n (st ts) (nrm ws) (foN (st ts) fs)], _, rfl, rfl, upd_same, sB _ _ hlx7, sok, sok, fun _ => ⟨_, rfl, iF ?_⟩, fun z => absurd rfl z⟩
    generalize upd HA l2 (.lst [V.str (tabT n (st ts)), V.str (pauT (nrm ws)), V.str (planT n (st ts) (nrm ws) (foN (st ts) fs))]) = HB at sB ⊢
    have s0B := same_tr s07 sB
    have tbB := tb7.up sB
    have paB := pa7.up sB
    have plB := pl7.up sB
    have hfaB := sB _ _ hfa7
    have hlxB := sB _ _ hlx7
    clear s8 s9 sA s7A
    have kn : (((foN (st ts) fs).map (·.1)).Nodup) := by rw [foN_keys]; exact ln
    have lT : (tabT n (st ts)).length + 2 ≤ sizeLine := by have := tabT_le wr.l40 wr.len; rw [sizeLine_eq]; omega
    have lP : (pauT (nrm ws)).length + 2 ≤ sizeLine := by have := pauT_le wr.pau wr.p60; rw [sizeLine_eq]; omega
    have eS := st_st lt.nd
    have eN := nrm_nrm ok.pa.nd
    refine ⟨_, rfl, lx, _, _, _, rfl, rfl, SqL.of hlxB, rfl, n, st ts, rfl, lT, rd.tx, fun H8 t2 s8 ht2 tbN => ?_⟩
    rw [eS] at tbN
    refine ⟨_, rfl, lx, _, _, _, rfl, rfl, SqL.of (s8 _ _ hlxB), rfl, nrm ws, rfl, lP, rd.p60, rd.pau, pnd, rd.pasc, fun H9 p2 s9 hp2 paN => ?_⟩
    rw [eN] at paN
    have s89 := same_tr s8 s9
    refine ⟨_, rfl, lx, _, _, _, rfl, rfl, SqL.of (s89 _ _ hlxB), rfl, n, st ts, nrm ws, _, rfl, rd, fun HA x2 sA hx2 plN => ?_⟩
    have s8A := same_tr s89 sA
    refine ⟨(show (3 : Nat) ≤ sizeLine by decide), fun lf hlf => ?_⟩
    have sC : Same HA (upd HA lf (.lst [V.ref t2, V.ref p2, V.ref x2])) := same_new same_rfl hlf
    have hlfC : (upd HA lf (.lst [V.ref t2, V.ref p2, V.ref x2])) lf = some (.lst [V.ref t2, V.ref p2, V.ref x2]) := upd_same
    generalize upd HA lf (.lst [V.ref t2, V.ref p2, V.ref x2]) = HC at sC hlfC ⊢
    have sBC := same_tr s8A sC
    have s0C := same_tr s0B sBC
    have tbC := tbB.up sBC
    have paC := paB.up sBC
    have plC := plB.up sBC
    have hfaC := sBC _ _ hfaB
    have hlxC := sBC _ _ hlxB
    have tNC := tbN.up (same_tr s9 (same_tr sA sC))
    have pNC := paN.up (same_tr sA sC)
    have xNC := plN.up sC
    refine ⟨_, rfl, lf, _, _, _, rfl, rfl, SqL.of hlfC, rfl, _, rfl, t2, ta, rfl, rfl, tab_ins tNC, tab_ins tbC, t2, ta, n, st ts, rfl, tNC, tbC, lo, fun H8 s8 => ⟨true, rfl, _, rfl, iF ?_⟩⟩
    refine ⟨_, rfl, lf, _, _, _, rfl, rfl, SqL.of (s8 _ _ hlfC), rfl, _, rfl, p2, pp, rfl, rfl, pau_ins (pNC.up s8), pau_ins (paC.up s8), p2, pp, nrm ws, rfl, pNC.up s8, paC.up s8, pnd, ⟨true, rfl, _, rfl, iF ?_⟩⟩
    refine ⟨_, rfl, lf, _, _, _, rfl, rfl, SqL.of (s8 _ _ hlfC), rfl, _, rfl, x2, x, rfl, rfl, pln_ins (xNC.up s8), pln_ins (plC.up s8), x2, x, n, st ts, nrm ws, _, rfl, xNC.up s8, plC.up s8, lo, pnd, kn, fun H9 s9 => ⟨true, rfl, _, rfl, iF ?_⟩⟩
    have sC9 := same_tr s8 s9
    have hlf9 := sC9 _ _ hlfC
    refine ⟨_, rfl, lf, _, _, _, rfl, rfl, SqL.of hlf9, rfl, t2, n, st ts, rfl, tNC.up sC9, n0, n12, lo, wr.l40, wr.len, fun HD sD => ?_⟩
    refine ⟨_, rfl, lf, _, _, _, rfl, rfl, SqL.of (sD _ _ hlf9), rfl, p2, nrm ws, rfl, pNC.up (same_tr sC9 sD), wr.pau, pnd, wr.p60, fun HE sE => ?_⟩
    refine ⟨_, rfl, lf, _, _, _, rfl, rfl, SqL.of (sE _ _ (sD _ _ hlf9)), rfl, x2, n, st ts, nrm ws, _, rfl, xNC.up (same_tr sC9 (same_tr sD sE)), wr, fun HF sF => ?_⟩
    refine ⟨(show (3 : Nat) ≤ sizeLine by decide), fun l3 hl3 => ?_⟩
    have sG : Same HC (upd HF l3 (.lst [V.str (tabT n (st ts)), V.str (pauT (nrm ws)), V.str (planT n (st ts) (nrm ws) (foN (st ts) fs))])) := same_new (same_tr sC9 (same_tr sD (same_tr sE sF))) hl3
    refine ⟨_, rfl, l3, lx, [tabT n (st ts), pauT (nrm ws), planT n (st ts) (nrm ws) (foN (st ts) fs)], _, rfl, rfl, upd_same, sG _ _ hlxC, sok, sok, fun _ => ⟨_, rfl, iF ?_⟩, fun z => absurd rfl z⟩
    generalize upd HF l3 (.lst [V.str (tabT n (st ts)), V.str (pauT (nrm ws)), V.str (planT n (st ts) (nrm ws) (foN (st ts) fs))]) = HG at sG ⊢
    clear sD sE sF
    have hlxG := sG _ _ hlxC
    refine ⟨_, rfl, lx, _, _, _, rfl, rfl, SqL.of hlxG, rfl, n, st ts, rfl, lT, rd.tx, fun H8 t3 s8 ht3 tb3 => ?_⟩
    rw [eS] at tb3
    have sG8 := same_tr sG s8
    refine ⟨_, rfl, t3, ta, rfl, rfl, tab_ins tb3, tab_ins (tbC.up sG8), t3, ta, n, st ts, rfl, tb3, tbC.up sG8, lo, fun H9 s9 => ⟨true, rfl, _, rfl, iF ?_⟩⟩
    have sG9 := same_tr sG8 s9
    refine ⟨_, rfl, lx, _, _, _, rfl, rfl, SqL.of (sG9 _ _ hlxC), rfl, nrm ws, rfl, lP, rd.p60, rd.pau, pnd, rd.pasc, fun HA p3 sA hp3 pa3 => ?_⟩
    rw [eN] at pa3
    have sGA := same_tr sG9 sA
    refine ⟨_, rfl, p3, pp, rfl, rfl, pau_ins pa3, pau_ins (paC.up sGA), p3, pp, nrm ws, rfl, pa3, paC.up sGA, pnd, ⟨true, rfl, _, rfl, iF ?_⟩⟩
    refine ⟨_, rfl, lx, _, _, _, rfl, rfl, SqL.of (sGA _ _ hlxC), rfl, n, st ts, nrm ws, _, rfl, rd, fun HI x3 sI hx3 pl3 => ?_⟩
    have sGI := same_tr sGA sI
    refine ⟨_, rfl, x3, x, rfl, rfl, pln_ins pl3, pln_ins (plC.up sGI), x3, x, n, st ts, nrm ws, _, rfl, pl3, plC.up sGI, lo, pnd, kn, fun HJ sJ => ⟨true, rfl, _, rfl, iF ?_⟩⟩
    have sCJ := same_tr sGI sJ
    have s0J := same_tr s0C sCJ
    have xJ := xNC.up sCJ
    obtain ⟨dx2, tt, pq, dd, uu, hxJ, tJ, pJ, dJ⟩ := id xJ
    have gl : (foN (st ts) fs).length ≤ 60 := by
      unfold foN names
      rw [List.length_map, List.length_map]
      have := wr.l40
      omega
    have fnd : (fs.map (·.1)).Nodup := fo.p1.nodup_iff.mpr ln
    have fpm := foN_perm ln fo.p1
    refine ⟨_, rfl, lf, _, _, _, rfl, rfl, SqL.of (sCJ _ _ hlfC), rfl, x2, dx2, _, rfl, hxJ, x2, n, st ts, nrm ws, _, rfl, xJ, kn, gl, fun HK q sK hq hqK => ?_⟩
    refine ⟨_, rfl, q, fa, kS (foN (st ts) fs), kS fs, rfl, rfl, hqK, sK _ _ (sCJ _ _ hfaC), ?_, ?_, _, rfl, iT ?_⟩
    · unfold kS
      rw [List.length_map, List.length_map, fpm.length_eq]
    · intro pr hpr
      obtain ⟨z, hz, e⟩ := List.mem_map.mp hpr
      subst e
      exact ⟨kS_get fnd (fpm.mem_iff.mpr hz), rfl⟩
    have sCK := same_tr sCJ sK
    refine ⟨_, rfl, lf, _, _, _, rfl, rfl, SqL.of (sCK _ _ hlfC), rfl, x2, _, dx2, _, _, rfl, sK _ _ hxJ, cP, q1, rfl, _, rfl, tt, ta, rfl, rfl, tab_ins (tJ.up sK), tab_ins (tbC.up sCK), tt, ta, n, st ts, rfl, tJ.up sK, tbC.up sCK, lo, fun HL sL => ⟨true, rfl, _, rfl, iT ?_⟩⟩
    have sCL := same_tr sCK sL
    refine ⟨_, rfl, lf, _, _, _, rfl, rfl, SqL.of (sCL _ _ hlfC), rfl, x2, _, dx2, _, _, rfl, sL _ _ (sK _ _ hxJ), cP, q2, rfl, _, rfl, pq, pp, rfl, rfl, pau_ins (pJ.up (same_tr sK sL)), pau_ins (paC.up sCL), pq, pp, nrm ws, rfl, pJ.up (same_tr sK sL), paC.up sCL, pnd, ⟨true, rfl, ?_⟩⟩
    exact k HL (same_tr s0J (same_tr sK sL))
end
end N1
set_option maxHeartbeats 4000000
/-! what raises BadAsk -/
namespace N1
open PySem PySem.Spec PyProof.Rows L2 TL
abbrev cBA (K : PySem.W.Frag) := ga K "BadAsk"
def spBaI (K : PySem.W.Frag) : Sp := fun vs H Q _ => ∃ (x : Addr) (n : Str), vs = [.ref x, .str n] ∧ H x = some (exo x (cBA K) none) ∧
  ∀ dx, H dx = none → dx ≠ x → Q .non (upd (upd H dx (exd dx [("part", .str n)])) x (exo x (cBA K) (some dx)))
/-- BadAsk(y) is wished -/
def EAsk (K : PySem.W.Frag) (H : Hp) (y : Str) (E : XK) : Prop := ∀ dy H', Same H H' → H' dy = some (.xd [("part", .str y)]) → E (.ref (cBA K)) (some dy) H'
theorem EAsk.up {K : PySem.W.Frag} {H H1 : Hp} {y : Str} {E : XK} (e : EAsk K H y E) (s : Same H H1) : EAsk K H1 y E := fun dy H' s' h => e dy H' (same_tr s s') h
/-- what is no x -/
def NoX (K : PySem.W.Frag) (H : Hp) (v : V) (x : Str) : Prop := ∃ t, TyX K H v t ∧ PySem.W.kitOne K t (.ref (ga K x)) = some false
def spAskX (K : PySem.W.Frag) (x y : Str) : Sp := fun vs H Q E => ∃ v, vs = [v] ∧ v ≠ .non ∧ NoX K H v x ∧ EAsk K H y E
def spAskN (K : PySem.W.Frag) (x y : Str) : Sp := fun vs H Q E => ∃ v, vs = [v] ∧ NoX K H v x ∧ EAsk K H y E
theorem raised {K : PySem.W.Frag} {H : Hp} {y : Str} {E : XK} (k : EAsk K H y E) {a dy : Addr} (ha : H a = none) (hdy : (upd H a (exo a (cBA K) none)) dy = none) (hne : dy ≠ a) {o1 o2 : HO} :
    E (.ref (cBA K)) (some dy) (upd (del (upd (upd (upd H a (exo a (cBA K) none)) dy o1) a o2) a) dy (.xd [("part", .str y)])) := by
  refine k dy _ (fun b v e => ?_) upd_same
  have h1 : b ≠ a := fun z => by rw [z, ha] at e; cases e
  have h2 : b ≠ dy := fun z => by rw [z] at e; rw [upd_ne hne] at hdy; rw [hdy] at e; cases e
  rw [upd_ne h2, del_ne h1, upd_ne h1, upd_ne h2, upd_ne h1]
  exact e
section
variable {P : Program} {w : World} {K : PySem.W.Frag} {mg : Str → Option Value} {base : Heap}
theorem ok_BaInit (T : FX P K mg) {CX : CXT} : FnR P w K mg base CX 1 (ini K "BadAsk") (spBaI K) := by
  have z := fn_excsup (CX := CX) (w := w) (base := base) (k := 0) (N := ["self", "part", "__class__"]) (ps := ["self", "part"]) (rest := (defBody m_BadAskInit).tail) (tr := tOst K "part" (tVar 0) (tVar 1)) (ta := tCons (tC (.str "An argument has the wrong kind")) tNil) T.suA rfl (NdefX.nscope_by (by decide +kernel)) (by decide +kernel) rfl rfl rfl (by decide +kernel)
    (fun _ _ _ _ _ us hl => match us, hl with | [_, _], _ => rfl) (T.fre "super" (by decide +kernel)) T.top_ T.opq T.oex T.siA.1 T.siA.2.1 T.siA.2.2
    (fun _ _ _ _ _ => pa_cons pe_str pa_nil) (fun _ _ _ _ _ => rfl) (fun _ _ _ _ _ => ⟨_, rfl⟩) (fun _ _ _ _ _ => ⟨rfl, rfl⟩) (fun _ _ _ _ _ => pss_one (ps_ost (pv 0) (pv 1)))
  refine z.imp fun vs H Q E h => ?_
  obtain ⟨x, n, rfl, hx, k⟩ := h
  refine ⟨x, _, rfl, rfl, hx, ?_⟩
  refine ⟨by decide, rfl, _, rfl, _, rfl, x, cBA K, rfl, T.oex, T.oeN, .inl ⟨hx, fun dx hdx hne => k dx hdx hne⟩⟩
theorem ok_need_tableX (T : FX P K mg) : FnR P w K mg base (L2.CX P w) 3 (ga K "need_table") (spAskN K "Table" "table") := by
  refine fnrX T.f_need_table sc_need_table (fun _ _ _ _ _ _ us hl => match us, hl with | [_], _ => rfl) (fun vs H Q E h => ?_) (fun cdv A outer s H vs Q E hr h => ?_)
  · obtain ⟨v, rfl, _⟩ := h
    rfl
  · obtain ⟨v, rfl, ⟨t, ty, kt⟩, k⟩ := h
    refine ⟨_, pss_one (ps_if (pt_not (pt_val (cb "isinstance" T call_isi (pa_cons (pv 0) (pa_cons (gc "Table" T) pa_nil)))))
      (pss_one (ps_raise rfl (takes_of rfl rfl rfl rfl) (pmk_oexR T.oex T.oeI.1 T.oeI.2 (ok_BaInit T (CX := CX0)) hr pass0 rfl (T.glo "BadAsk" (by decide +kernel)) (pa_cons pe_str pa_nil)))) pss_nil), ?_⟩
    refine ⟨_, rfl, _, _, _, _, false, rfl, .own _, ty, kt, _, rfl, ?_⟩
    refine iT ⟨(show (1 : Nat) ≤ 1000 by decide), fun a ha => ⟨a, ("table" : Str), rfl, upd_same, fun dy hdy hne => ⟨rfl, dy, [("part", .str "table")], upd_same, ?_, ?_, ?_⟩⟩⟩
    · rw [upd_ne hne]
      exact upd_same
    · rw [upd_ne hne] at hdy
      exact hdy
    · exact raised k ha hdy hne
end
end N1
set_option maxHeartbeats 4000000
/-! the writers, asked for what is no table, no pauses, no plan -/
namespace N1
open PySem PySem.Spec PyProof.Rows L2 TL
section
variable {X : Cx} {P0 : Program} {k : Nat} {sp : Sp} {E : XK} {e : Expr} {es : List Expr} {t : TA} {p1 pos : Pos}
theorem clE (x : Str) (T : FX P0 X.K X.mg) (F : FnR X.prog X.w X.K X.mg X.base (L2.CX X.prog X.w) k (ga X.K x) sp) (hr : Room k X.A) (hx : Passes (L2.CX X.prog X.w) X E) (ha : PA X (e :: es) t) (hc : glL.contains x = true := by decide +kernel) (hg : Gl X x := by rfl) (hd : (x == ("__debug__" : Str)) = false := by decide)
    (he : starEach (e :: es) X.env = (false, eval e X.env) :: starEach es X.env := by rfl) (hpl : (backTo pos (starEach es X.env)).any (·.1) = false := by rfl) :
    PE X (.Call (.Name x p1) (e :: es) [] pos) (tCallR sp E t) := pe_callR F hr (T.kpg x hc) hg (T.glo x hc) hx ha hd he hpl
end
section
variable {P : Program} {w : World} {K : PySem.W.Frag} {mg : Str → Option Value} {base : Heap}
theorem ok_write_tableX (T : FX P K mg) : FnR P w K mg base (L2.CX P w) 4 (ga K "write_table") (spAskN K "Table" "table") := by
  refine fnrX T.f_write_table sc_write_table (fun _ _ _ _ _ _ us hl => match us, hl with | [_], _ => rfl) (fun vs H Q E h => ?_) (fun cdv A outer s H vs Q E hr h => ?_)
  · obtain ⟨v, rfl, _⟩ := h
    rfl
  · obtain ⟨v, rfl, n, k⟩ := h
    refine ⟨_, pss_cons (ps_expr (clE (E := E) "need_table" T (ok_need_tableX T) hr (passes_call (takes_of rfl rfl rfl rfl) fun _ _ _ _ h => h) (pa_cons (pv 0) pa_nil))) pss_never, ?_⟩
    exact ⟨_, rfl, v, rfl, n, k⟩
theorem ok_needed_pausesX (T : FX P K mg) : FnR P w K mg base (L2.CX P w) 7 (ga K "needed_pauses") (spAskX K "Pauses" "pauses") := by
  refine fnrX T.f_needed_pauses sc_needed_pauses (fun _ _ _ _ _ _ us hl => match us, hl with | [_], _ => rfl) (fun vs H Q E h => ?_) (fun cdv A outer s H vs Q E hr h => ?_)
  · obtain ⟨v, rfl, _⟩ := h
    rfl
  · obtain ⟨v, rfl, hv, ⟨t, ty, kt⟩, k⟩ := h
    refine ⟨_, pss_cons (ps_if (pt_cmp (pc_isN (pv 0))) pss_never pss_nil)
      (pss_cons (ps_if (pt_not (pt_val (cb "isinstance" T call_isi (pa_cons (pv 0) (pa_cons (gc "Pauses" T) pa_nil)))))
      (pss_one (ps_raise rfl (takes_of rfl rfl rfl rfl) (pmk_oexR T.oex T.oeI.1 T.oeI.2 (ok_BaInit T (CX := CX0)) (hr.mono (by decide)) pass0 rfl (T.glo "BadAsk" (by decide +kernel)) (pa_cons pe_str pa_nil)))) pss_nil) pss_never), ?_⟩
    refine ⟨_, rfl, _, rfl, ?_⟩
    rw [decide_eq_false hv]
    refine ⟨_, rfl, _, _, _, _, false, rfl, .own _, ty, kt, _, rfl, ?_⟩
    refine iT ⟨(show (1 : Nat) ≤ 1000 by decide), fun a ha => ⟨a, ("pauses" : Str), rfl, upd_same, fun dy hdy hne => ⟨rfl, dy, [("part", .str "pauses")], upd_same, ?_, ?_, ?_⟩⟩⟩
    · rw [upd_ne hne]
      exact upd_same
    · rw [upd_ne hne] at hdy
      exact hdy
    · exact raised k ha hdy hne
theorem ok_write_pausesX (T : FX P K mg) : FnR P w K mg base (L2.CX P w) 8 (ga K "write_pauses") (spAskX K "Pauses" "pauses") := by
  refine fnrX T.f_write_pauses sc_write_pauses (fun _ _ _ _ _ _ us hl => match us, hl with | [_], _ => rfl) (fun vs H Q E h => ?_) (fun cdv A outer s H vs Q E hr h => ?_)
  · obtain ⟨v, rfl, _⟩ := h
    rfl
  · obtain ⟨v, rfl, n, k⟩ := h
    refine ⟨_, pss_cons (ps_set (i := 1) sc_write_pauses.nd rfl (Or.inr rfl) (clE (E := E) "needed_pauses" T (ok_needed_pausesX T) hr (passes_call (takes_of rfl rfl rfl rfl) fun _ _ _ _ h => h) (pa_cons (pv 0) pa_nil))) pss_never, ?_⟩
    exact ⟨_, rfl, v, rfl, n, k⟩
theorem ok_write_planX (T : FX P K mg) : FnR P w K mg base (L2.CX P w) 3 (ga K "write_plan") (spAskN K "Plan" "plan") := by
  refine fnrX T.f_write_plan sc_write_plan (fun _ _ _ _ _ _ us hl => match us, hl with | [_], _ => rfl) (fun vs H Q E h => ?_) (fun cdv A outer s H vs Q E hr h => ?_)
  · obtain ⟨v, rfl, _⟩ := h
    rfl
  · obtain ⟨v, rfl, ⟨t, ty, kt⟩, k⟩ := h
    refine ⟨_, pss_cons (ps_if (pt_not (pt_val (cb "isinstance" T call_isi (pa_cons (pv 0) (pa_cons (gc "Plan" T) pa_nil)))))
      (pss_one (ps_raise rfl (takes_of rfl rfl rfl rfl) (pmk_oexR T.oex T.oeI.1 T.oeI.2 (ok_BaInit T (CX := CX0)) hr pass0 rfl (T.glo "BadAsk" (by decide +kernel)) (pa_cons pe_str pa_nil)))) pss_nil) pss_never, ?_⟩
    refine ⟨_, rfl, _, _, _, _, false, rfl, .own _, ty, kt, _, rfl, ?_⟩
    refine iT ⟨(show (1 : Nat) ≤ 1000 by decide), fun a ha => ⟨a, ("plan" : Str), rfl, upd_same, fun dy hdy hne => ⟨rfl, dy, [("part", .str "plan")], upd_same, ?_, ?_, ?_⟩⟩⟩
    · rw [upd_ne hne]
      exact upd_same
    · rw [upd_ne hne] at hdy
      exact hdy
    · exact raised k ha hdy hne
end
end N1
set_option maxHeartbeats 2000000
/-! try: body / except x as n: suite / further clauses, where the first clause takes all -/
namespace N1
open PySem PySem.Spec PyProof.Rows L2
def wFirst (K : PySem.W.Frag) (c : Value) (i m : Nat) (ts : Addr → Value → Option Addr → TS) (D : Ends) : WX := fun cls d σ H =>
  PySem.W.exmOne K cls c = some true ∧ ∀ a, H a = none → σ.length = m → ts a cls d { nx := fun _ _ => False, rt := D.rt, bk := fun _ _ => False, ct := fun _ _ => False } (σ.set i (some (.ref a))) H
section
variable {X : Cx} {x n : Str} {c : Value} {i : Nat} {body suite : List Stmt} {b₀ : Stmt} {np pos pos' : Pos} {tb : WX → TS} {ts : Addr → Value → Option Addr → TS} {hds : List ExceptHandler}
theorem ps_try_first (hs : X.stack = X.env :: X.outer) (hf : X.env.frame = some X.env.locals) (hN : X.N.Nodup) (hi : X.N[i]? = some n) (hln : X.env.kindOf n = some .local) (hc : Names X x c)
    (hb : ∀ (W : WX) (pn : List (Addr × Obj)) (xe : Value → Shared → Prop), Takes (X.tr pn xe) W → PassesOwn (model X.prog X.w) X.A X.env xe → PSs (X.tr pn xe) body (tb W))
    (hsu : ∀ (a : Addr) (oe : Obj) (cls : Value) (d : Option Addr) (pn : List (Addr × Obj)), Zc cls d oe → (∃ vs, oe.data = .fields vs) → PSs (X.suite a ((a, oe) :: pn)) (b₀ :: suite) (ts a cls d)) :
    PS X (.Try body (.ExceptHandler (some (.Name x np)) (some n) (b₀ :: suite) pos' :: hds) [] [] pos) (fun D σ H => tb (wFirst X.K c i X.N.length ts D) D σ H) := by
  refine ⟨fun pins s σ H D I h => ?_⟩
  have ok := I.ok
  have hfr : X.A.frames = some (X.env :: X.outer) := by rw [ok.frames, hs]
  refine wpAny_Try_except ?_
  refine wpAny_mono ((hb (wFirst X.K c i X.N.length ts D) (X.pn ++ pins) (fun e s₁ => wpAny (model X.prog X.w) X.A (noteFrame e X.env) (fun _ s₂ => wpAny (model X.prog X.w) X.A (setFlight e none) (fun _ s₃ =>
    wpAny (model X.prog X.w) X.A (handleBy e X.env (.ExceptHandler (some (.Name x np)) (some n) (b₀ :: suite) pos' :: hds)) (SP X pins D) X.xe s₃) X.xe s₂) X.xe s₁) (fun u s' xx => ?_) PassesOwn.looking).run [] s σ H D (I.toTry _) h) (fun f s1 hsp => ?_) (fun e s1 he => he)
  · obtain ⟨a, B, sI, pins', σ', H', cls, d, rfl, J', nb, up, sky, na, os, ag, hb1, hyes⟩ := xx
    have J : Inv X pins σ' H' sI := J'.ofTry ok
    have sky' : Sky B (X.env :: X.outer) a (Zc cls d) X.env.locals s'.heap := by rw [← hs]; exact sky
    show wpAny (model X.prog X.w) X.A (noteFrame (.ref a) X.env) _ _ _
    refine Sky.land Zc.steady hfr hf sky' fun h3 fl3 up3 => ?_
    have J3 : Inv X pins σ' H' { s' with heap := h3 } := J.landed nb fl3.1 (up.trans up3) os ag
    obtain ⟨oe3, vs3, he3, hz3, hd3⟩ := fl3.there
    have nfr : a ∉ frs (X.env :: X.outer) := fun hm => by
      obtain ⟨_, o', e', hnf⟩ := fl3.2.2.1.mem hm
      rw [he3] at e'
      cases e'
      exact hnf _ hd3
    have nL : a ≠ X.env.locals := fun z => nfr (List.mem_filterMap.mpr ⟨X.env, List.mem_cons_self, by rw [hf, z]⟩)
    have nF : a ∉ X.fs := fun hm => by
      obtain ⟨e, he, q⟩ := List.mem_filterMap.mp hm
      exact nfr (List.mem_filterMap.mpr ⟨e, List.mem_cons_of_mem _ he, q⟩)
    have S3 := J3.suite he3 hd3 na nL nF
    refine wpAny_handleBy_cons (codeAny_handlers_test ?_) (by intro q; cases q)
    have LT : PySem.W.Looks (model X.prog X.w) h3 (typeOf (.ref a)) cls := fun A Q E s k q => wpAny_typeOf_ref (k _ _ he3) (by rw [hz3.1]; exact q)
    have LM := PySem.W.exm_one (M := model X.prog X.w) (J3.kIn) LT hb1
    have test : ∀ {Q : Value → Shared → Prop} {E : Value → Shared → Prop}, Q c { s' with heap := h3 } → wpAny (model X.prog X.w) (X.A.mark (some (.ref a))) (eval (.Name x np) X.env) Q E { s' with heap := h3 } := fun {Q E} q => by
      obtain ⟨hg, hdbg, hm | ⟨hm, hv, hnn⟩⟩ := hc
      · exact ld_glob (X := X.suite a ((a, oe3) :: (X.pn ++ pins))) S3 hg hm q hdbg
      · exact ld_blt (X := X.suite a ((a, oe3) :: (X.pn ++ pins))) S3 hg hm hv q hnn hdbg
    refine test (LM.here ?_)
    refine codeAny_handlers_suite_as ?_
    refine HandSPX.lands_againZ fl3 fun h4 fl4 up4 => ?_
    have J4 : Inv X pins σ' H' { s' with heap := h4 } := J.landed nb fl4.1 ((up.trans up3).trans up4) os ag
    obtain ⟨oe4, vs4, he4, hz4, hd4⟩ := fl4.there
    have S4 := J4.suite he4 hd4 na nL nF
    refine store_ok (X := X.suite a ((a, oe4) :: (X.pn ++ pins))) (v := .ref a) S4 hN hi (.inl hln) rfl (fun s5 S5 => ?_) (.inr hln)
    refine wpAny_mono ((hsu a oe4 cls d (X.pn ++ pins) hz4 ⟨_, hd4⟩).run [] s5 _ H' _ S5 (hyes a na J4.len)) (fun f s6 hsp => ?_) (fun _ _ z => False.elim z)
    cases f with
    | next =>
      obtain ⟨σ6, H6, S6, q6⟩ := hsp
      exact q6.elim
    | brk =>
      obtain ⟨σ6, H6, S6, q6⟩ := hsp
      exact q6.elim
    | cont =>
      obtain ⟨σ6, H6, S6, q6⟩ := hsp
      exact q6.elim
    | ret u =>
      obtain ⟨v6, σ6, H6, S6, r6, q6⟩ := hsp
      exact gone_ok (S6.unsuite ok) hN hi hln fun s7 J7 => ⟨_, _, _, J7, r6, q6⟩
  · cases f with
    | next =>
      obtain ⟨σ', H', J', q⟩ := hsp
      exact wpAny_execs_nil ⟨σ', H', J'.ofTry ok, q⟩
    | brk =>
      obtain ⟨σ', H', J', q⟩ := hsp
      exact ⟨σ', H', J'.ofTry ok, q⟩
    | cont =>
      obtain ⟨σ', H', J', q⟩ := hsp
      exact ⟨σ', H', J'.ofTry ok, q⟩
    | ret u =>
      obtain ⟨v, σ', H', J', r, q⟩ := hsp
      exact ⟨v, σ', H', J'.ofTry ok, r, q⟩
/-- what a _law_part told: the part of the BadAsk -/
def TPart (K : PySem.W.Frag) : (XK → Hp → VK → Prop) → Hp → VK → Prop := fun tl H Q =>
  tl (fun cls d H' => cls = .ref (ga K "BadAsk") ∧ ∃ (dd : Addr) (n : Str), d = some dd ∧ H' dd = some (.xd [("part", .str n)]) ∧ Q (.str n) H') H (fun _ H' => Q .non H')
theorem sc_part2 : FnScope ["_law_ask", "error"] ["_law_ask"] (defScope w_part) := ⟨rfl, rfl, rfl, by decide +kernel, rfl, by decide +kernel, by decide +kernel⟩
theorem part_gives {P0 : Program} (T : FX P0 X.K X.mg) {g : Addr} {cdg : Value} {q : Str} : LamX.GivesTo X ["_law_ask", "error"] "_law_part" (defScope w_part) g cdg (defBody w_part) "_law_ask" q (TPart X.K) := by
  intro f c' s H Q tl act hc h
  refine ⟨_, pss_cons (ps_try_first (X := (cxOf C8.CX0 X.prog X.w X.K X.mg X.base ["_law_ask", "error"] "_law_part" (defScope w_part) g cdg X.A X.stack s H C8.E0).nox) (c := .ref (ga X.K "BadAsk")) (i := 1)
      (tb := fun W D σ H => ∃ Ech : XK, (∀ cls d σ' H', Ech cls d H' → W cls d σ' H') ∧ σ[0]? = some (some (.ref f)) ∧ H c' = some (LamX.CodeO c' q) ∧ tl Ech H (fun _ H1 => D.nx σ H1))
      rfl rfl sc_part2.nd rfl (by rfl) ⟨rfl, by decide, .inl (T.glo "BadAsk" (by decide +kernel))⟩ (fun W pn xe tk _ => ?_) (fun a oe cls d pn hz hf => pss_one (ps_ret (pe_xf T.xfA T.oeN hz hf (pv 1))))) (pss_one (ps_ret pe_non)), ?_⟩
  · refine ⟨fun pins s' σ H' D I h' => ?_⟩
    obtain ⟨Ech, hW, h1, h2, h3⟩ := h'
    exact (pss_one (ps_expr (act W pn xe Ech _ _ tk hW))).run pins s' σ H' D I ⟨h1, h2, h3⟩
  · refine ⟨_, fun cls d σ' H' h' => ?_, rfl, hc, h⟩
    obtain ⟨rfl, dd, n, rfl, hd, hq⟩ := h'
    refine ⟨T.exm, fun a ha hl => ?_⟩
    refine ⟨.ref a, ?_, rfl, rfl, dd, _, .str n, rfl, hd, rfl, hq⟩
    exact List.getElem?_set_self (by rw [hl]; exact (show (1 : Nat) < 2 by decide))
end
end N1
set_option maxHeartbeats 4000000
/-! write_pauses(None) -/
namespace N1
open PySem PySem.Spec PyProof.Rows L2 TL
def spWritePN : Sp := fun vs H Q _ => vs = [.non] ∧ ∀ H', Same H H' → Q (.str (pauT [])) H'
section
variable {P : Program} {w : World} {K : PySem.W.Frag} {mg : Str → Option Value} {base : Heap}
theorem ok_write_pausesN (T : FX P K mg) : FnR P w K mg base CX0 7 (ga K "write_pauses") spWritePN := by
  refine fnr T.f_write_pauses sc_write_pauses (fun _ _ _ _ _ _ us hl => match us, hl with | [_], _ => rfl) (fun vs H Q E h => ?_) (fun cdv A outer s H vs Q E hr h => ?_)
  · obtain ⟨rfl, _⟩ := h
    rfl
  · obtain ⟨rfl, k⟩ := h
    have nd := sc_write_pauses.nd
    refine ⟨_, pss_cons (ps_set (i := 1) nd rfl (Or.inr rfl) (cl "needed_pauses" T (ok_needed_pauses T) hr (pa_cons (pv 0) pa_nil)))
      (pss_one (ps_ret (pe_join pe_str (pe_lst (pa_cons pe_str
        (StX.pa_star (pe_lc (own := [("place", 2)]) (g := gName 2) (tt := tYes) (te := tPauW K) rfl nd
          (pi_ownIterT (T.meth ("Pauses", "__iter__") (by decide +kernel)) (ok_PausesIter T) (hr.mono (by decide)) pass0 (pv 1)) (blkOk_by (N := ["pauses", "told", "place"]) (sc := defScope d_write_pauses) (by decide +kernel)) (fun _ _ _ _ _ => pg_name (i := 2) nd rfl (Or.inl rfl)) (fun _ _ _ _ _ => pts_nil)
          (fun _ _ _ _ _ => pe_joined (PJ.cons (pe_fmt (pv 2)) (PJ.cons pe_str (PJ.cons (pe_fmt (pe_ixO (T.meth ("Pauses", "__getitem__") (by decide +kernel)) T.nsq.2 (ok_PausesGetitem T) (hr.mono (by decide)) pass0 (pv 1) (pv 2))) PJ.nil))))) pa_nil)))))), ?_⟩
    refine ⟨_, rfl, .inr ⟨rfl, fun H0 a s0 hna pau => ?_⟩⟩
    obtain ⟨ps, eps⟩ : ∃ ps : List (Str × Int), ps = [] := ⟨_, rfl⟩
    have hps : ∀ p ∈ ps, NameOk p.1 ∧ 0 ≤ p.2 ∧ p.2 ≤ 1000000000000 := by rw [eps]; intro p hp; cases hp
    have hnd : (keysI ps).Nodup := by rw [eps]; exact .nil
    have l60 : ps.length ≤ 60 := by rw [eps]; decide
    rw [← eps] at pau
    have k : ∀ H', Same H0 H' → Q (.str (pauT ps)) H' := fun H' s => by rw [eps]; exact k H' (same_tr s0 s)
    obtain ⟨dx, dn, dr, ha, hn, hd⟩ := id pau
    have kl : (keysI ps).length = ps.length := by unfold keysI; rw [List.length_map]
    refine ⟨⟨_, rfl⟩, _, rfl, a, rfl, ⟨_, _, ha⟩, fun m hm => ⟨a, dx, dn, dr, (keysI ps).map V.str, rfl, ha, SqT.of hd, fun it hit hmit => ⟨it, dr, (keysI ps).map V.str, rfl, by omega, upd_same, SqT.of (by rw [upd_ne (ne_of_none hd hit)]; exact hd), ?_⟩⟩⟩
    rw [drop_upd hit]
    refine fun D hD => lc_f walk_tup (fun i => (ps[i]?).map fun p => V.str (p.1 ++ (sP ++ num p.2))) hD (by rw [List.length_map]; omega) (fun H' s => SqT.of (s _ _ hd)) ?_ ?_
    · rintro i v Ha Hb R k0 hi sa ⟨rfl, hv⟩ q2 q3
      obtain ⟨p, hp, rfl⟩ : ∃ p, ps[i]? = some p ∧ v = V.str p.1 := by
        unfold keysI at hv
        rw [List.map_map, List.getElem?_map] at hv
        cases e : ps[i]? with
        | none => rw [e] at hv; cases hv
        | some p => rw [e] at hv; exact ⟨p, rfl, (Option.some.inj hv).symm⟩
      have hm2 := List.mem_of_getElem? hp
      obtain ⟨o1, o2, o3⟩ := hps p hm2
      have en : nzI ps p.1 = p.2 := by unfold nzI; rw [lkI_of hnd hm2]; rfl
      have l1 := o1.2.1
      have l2 := num_len o2 o3
      have hs : 200 ≤ sizeLine := by decide
      refine ⟨rfl, _, rfl, ?_⟩
      refine .inl ⟨_, rfl, by omega, _, rfl, by simp only [Str.length_append, lenE]; omega, _, rfl, by simp only [Str.length_append, lenE, lenP]; omega, ?_⟩
      refine ⟨_, rfl, _, rfl, a, rfl, ⟨_, _, sa _ _ ha⟩, a, p.1, ps, rfl, pau.up sa, o1, fun H5 s5 => .inr ⟨nzI ps p.1, rfl, by rw [en]; exact log_ok o2 o3, num p.2, by rw [en], by simp only [Str.length_append, lenE, lenP]; omega, ?_⟩⟩
      refine q2 _ _ ?_ s5
      rw [hp]
      refine congrArg (fun z => some (V.str z)) (ext_tl ?_)
      simp only [tl_append, List.append_assoc]
      rfl
    · intro H1 s1 hL
      rw [List.length_map, kl, range_map_] at hL
      refine ⟨D, _, rfl, .inr (SqL.of hL), ?_⟩
      have hs : 200 ≤ sizeLine := by decide
      refine ⟨by simp only [List.length_cons, List.length_append, List.length_map, List.length_nil]; rw [sizeLine_eq]; omega, fun l hl2 => ⟨_, l, ("pauses" : Str) :: ps.map (fun p => p.1 ++ (sP ++ num p.2)), rfl, rfl, .inl (SqL.of (by rw [upd_same]; simp)), ?_, ?_⟩⟩
      · have sm := sum_le (c := 100) (l := ("pauses" : Str) :: ps.map (fun p => p.1 ++ (sP ++ num p.2))) (by
          intro x hx
          rcases List.mem_cons.mp hx with rfl | hx
          · decide
          · obtain ⟨p, hp, rfl⟩ := List.mem_map.mp hx
            obtain ⟨o1, o2, o3⟩ := hps p hp
            have l1 := o1.2.1
            have l2 := num_len o2 o3
            simp only [Str.length_append, lenP]
            omega)
        have le : (("pauses" : Str) :: ps.map (fun p => p.1 ++ (sP ++ num p.2))).length = ps.length + 1 := by simp
        rw [le] at sm ⊢
        rw [show (" " : Str).length = 1 from rfl]
        omega
      · have e : pauT ps = Txt.join " " (("pauses" : Str) :: ps.map (fun p => p.1 ++ (sP ++ num p.2))) := by
          unfold pauT pauW
          rw [join_eq, join_eq]
          have z := sj_flat sP "pauses" (ps.map fun p => (p.1, num p.2))
          rw [List.map_map, List.flatMap_map] at z
          exact z.symm
        rw [← e]
        exact k _ (same_new s1 hl2)
end
end N1
set_option maxHeartbeats 8000000
/-! the law's parts: _law_part of a lambda, what is odd -/
namespace N1
open PySem PySem.Spec PyProof.Rows L2 TL
section
variable {X : Cx} {P0 : Program} {k : Nat}
theorem pe_part (T : FX P0 X.K X.mg) {params : Arguments} {body : Expr} {scope : Scope} {t : XK → TE} {p lpos pos : Pos} (hcode : X.env.code = .ref (cod X.K (ga X.K "law"))) (TB : LamX.TabB X.base X.mg (cod X.K (ga X.K "law")) (tblK X.K (ga X.K "law"))) (hr : Room (k + 2) X.A)
    (L : LamX.LamS X.env.scope scope)
    (hbody : ∀ (A : Around) (outer : List Env) (s : Shared) (H : Hp) (E : XK) (f c' : Addr), Room k (A.deeper (LamX.lamEnv X scope s.heap.objs.size f c')) → PE (LamX.lamCx X A outer s H E scope f c') body (t E))
    (hg : Gl X "_law_part" := by rfl) (hdef : defaultsOf params X.env = ([], []) := by rfl)
    (hbind : ∀ (q : Str) (cl : List (Str × Addr)) (pm cv ctv : Value), bindArgs (PySem.W.kla_fn "<lambda>" q params body scope cl pm cv ctv) ⟨[], []⟩ = pure [] := by intros; rfl) :
    PE X (.Call (.Name "_law_part" p) [.Lambda params body scope lpos] [] pos) (LamX.tLam [(tblK X.K (ga X.K "law"), X.env.qual ++ "<lambda>")] (TPart X.K) t) := by
  obtain ⟨fd, F⟩ := T.f_w_part
  have hb := F.bindsN (ps := ["_law_ask"]) fun _ _ _ _ _ _ us hl => match us, hl with | [_], _ => rfl
  obtain ⟨oc, od, dV, kV, doc, pm, an, cdv, ct, osl, rfl, lk, hcd, hD, hK⟩ := F.ex
  exact LamX.pe_lamcall hg (T.glo "_law_part" (by decide +kernel)) (T.kpg "_law_part" (by decide +kernel)) lk hcd hb sc_part2 rfl (Or.inl rfl) (part_gives T) TB hcode (List.mem_singleton.mpr rfl) (fun p hp _ => by rw [List.mem_singleton.mp hp]) hr L hdef hbind hbody
end
/-- what is no table, no pauses, no plan -/
def OddO (K : PySem.W.Frag) (o : HO) : Prop := (∃ xs, o = .lst xs) ∨ (∃ ks, o = .dK ks) ∨ (∃ xs, o = .tup xs) ∨ ∃ dx fs, o = .ins (ga K "Day") dx fs
def Odd (K : PySem.W.Frag) (H : Hp) (v : V) : Prop := (∃ i, v = .int i) ∨ (∃ b, v = .bl b) ∨ (∃ s, v = .str s) ∨ ∃ x o, v = .ref x ∧ H x = some o ∧ OddO K o
theorem OddO.nt {K : PySem.W.Frag} {o : HO} (h : OddO K o) : ∀ ps, o ≠ .tbl ps := fun ps z => by
  rcases h with ⟨_, e⟩ | ⟨_, e⟩ | ⟨_, e⟩ | ⟨_, _, e⟩ <;> rw [e] at z <;> cases z
theorem Odd.non {K : PySem.W.Frag} {H : Hp} {v : V} (h : Odd K H v) : v ≠ .non := fun z => by
  rcases h with ⟨_, e⟩ | ⟨_, e⟩ | ⟨_, e⟩ | ⟨_, _, e, _⟩ <;> rw [e] at z <;> cases z
theorem Odd.to {K : PySem.W.Frag} {H H' : Hp} {v : V} (h : Odd K H v) (k : ∀ x o, v = .ref x → H x = some o → (∀ ps, o ≠ .tbl ps) → H' x = some o) : Odd K H' v := by
  rcases h with h | h | h | ⟨x, o, e, hx, ho⟩
  · exact .inl h
  · exact .inr (.inl h)
  · exact .inr (.inr (.inl h))
  · exact .inr (.inr (.inr ⟨x, o, e, k x o e hx ho.nt, ho⟩))
section
variable {P : Program} {K : PySem.W.Frag} {mg : Str → Option Value}
theorem Odd.no (T : FX P K mg) {H : Hp} {v : V} (h : Odd K H v) (x : Str) (hx : (["Table", "Pauses", "Plan"] : List Str).contains x = true) : NoX K H v x := by
  rcases h with ⟨i, rfl⟩ | ⟨b, rfl⟩ | ⟨s, rfl⟩ | ⟨a, o, rfl, ha, ho⟩
  · exact ⟨_, .base (.int i), T.kBx "int" (by decide) x hx⟩
  · exact ⟨_, .base (.bl b), T.kBx "bool" (by decide) x hx⟩
  · exact ⟨_, .base (.str s), T.kBx "str" (by decide) x hx⟩
  · rcases ho with ⟨_, rfl⟩ | ⟨_, rfl⟩ | ⟨_, rfl⟩ | ⟨_, _, rfl⟩
    · exact ⟨_, .base (.lst ha), T.kBx "list" (by decide) x hx⟩
    · exact ⟨_, .base (.dK ha), T.kBx "dict" (by decide) x hx⟩
    · exact ⟨_, .base (.tup ha), T.kBx "tuple" (by decide) x hx⟩
    · exact ⟨_, isi_ok T T.isD (T.cls "Day" (by decide +kernel)) ha, T.kDx x hx⟩
theorem non_no (T : FX P K mg) {H : Hp} (x : Str) (hx : (["Table", "Pauses", "Plan"] : List Str).contains x = true) : NoX K H .non x := ⟨_, .base .non, T.kBx "NoneType" (by decide) x hx⟩
theorem tab_no (T : FX P K mg) {H : Hp} {a : Addr} (h : InsAt H a (cTab K)) : NoX K H (.ref a) "Plan" := by
  obtain ⟨dx, fs, e⟩ := h
  exact ⟨_, isi_ok T T.isT (T.cls "Table" (by decide +kernel)) e, T.kTP.1⟩
end
theorem code_nl {c : Addr} {q : Str} (xs : List V) : LamX.CodeO c q ≠ .lst xs := fun z => by
  unfold LamX.CodeO at z
  cases z
theorem tabs_kp {T : List (Addr × Str)} {H H' : Hp} {p c : Addr} {m : Int} (pn : PenAt H p c m) (k : Kp [p] H H') (t : LamX.Tabs T H) : LamX.Tabs T H' := fun x hx => by
  obtain ⟨ps, h1, h2, h3⟩ := t x hx
  refine ⟨ps, kp_mem k h1 (pn.nl h1 (fun xs y => by cases y)).1, h2, fun pos cv hc => ?_⟩
  obtain ⟨c', e1, e2⟩ := h3 pos cv hc
  exact ⟨c', e1, kp_mem k e2 (pn.nl e2 code_nl).1⟩
theorem tabs_upd {T : List (Addr × Str)} {H : Hp} {l : Addr} {xs ys : List V} (hl : H l = some (.lst xs)) (t : LamX.Tabs T H) : LamX.Tabs T (upd H l (.lst ys)) := fun x hx => by
  obtain ⟨ps, h1, h2, h3⟩ := t x hx
  have ne : ∀ {b : Addr} {o : HO}, H b = some o → (∀ xs, o ≠ .lst xs) → b ≠ l := fun e n z => by rw [z, hl] at e; exact n _ (Option.some.inj e).symm
  refine ⟨ps, by rw [upd_ne (ne h1 (fun xs y => by cases y))]; exact h1, h2, fun pos cv hc => ?_⟩
  obtain ⟨c', e1, e2⟩ := h3 pos cv hc
  exact ⟨c', e1, by rw [upd_ne (ne e2 code_nl)]; exact e2⟩
theorem pen_extN {H H' : Hp} {p c : Addr} {m : Int} (e : LamX.ExtN H H') (h : PenAt H p c m) : PenAt H' p c m := by
  obtain ⟨l, g, ns, h1, h2, h3⟩ := h
  exact ⟨l, g, ns, e _ _ h1 (fun ps z => by cases z), e _ _ h2 (fun ps z => by cases z), h3⟩
/-- the state between the parts -/
structure Prt (K : PySem.W.Frag) (T : List (Addr × Str)) (p c : Addr) (m : Int) (lh here : Addr) (odd : V) (xs : List Str) (H : Hp) : Prop where
  pn : PenAt H p c m
  tb : LamX.Tabs T H
  hl : H lh = some (.lst (xs.map V.str))
  n1 : lh ≠ p
  n2 : lh ≠ c
  he : InsAt H here (cTab K)
  od : Odd K H odd
  ne : ∀ x, odd = .ref x → x ≠ lh
theorem Prt.mid {K : PySem.W.Frag} {T : List (Addr × Str)} {p c lh here : Addr} {m : Int} {odd : V} {xs : List Str} {H H1 H2 : Hp} (h : Prt K T p c m lh here odd xs H) (e : LamX.ExtN H H1) (t : LamX.Tabs T H1) (s : Same H1 H2) : Prt K T p c m lh here odd xs H2 := by
  refine ⟨(pen_extN e h.pn).up s, t.ext s, s _ _ (e _ _ h.hl (fun ps z => by cases z)), h.n1, h.n2, ?_, h.od.to fun x o _ hx nt => s _ _ (e _ _ hx nt), h.ne⟩
  obtain ⟨dx, fs, q⟩ := h.he
  exact ⟨dx, fs, s _ _ (e _ _ q (fun ps z => by cases z))⟩
theorem Prt.add {K : PySem.W.Frag} {T : List (Addr × Str)} {p c lh here : Addr} {m : Int} {odd : V} {xs : List Str} {H : Hp} {y : Str} (h : Prt K T p c m lh here odd xs H) : Prt K T p c m lh here odd (xs ++ [y]) (upd H lh (.lst (xs.map V.str ++ [.str y]))) := by
  refine ⟨h.pn.upd h.n1 h.n2, tabs_upd h.hl h.tb, by rw [upd_same, List.map_append]; rfl, h.n1, h.n2, ?_, h.od.to fun x o e hx nt => by rw [upd_ne (h.ne x e)]; exact hx, h.ne⟩
  obtain ⟨dx, fs, q⟩ := h.he
  have : here ≠ lh := fun z => by rw [z, h.hl] at q; cases q
  exact ⟨dx, fs, by rw [upd_ne this]; exact q⟩
theorem Odd.ref {K : PySem.W.Frag} {H : Hp} {v : V} (h : Odd K H v) {x : Addr} (e : v = .ref x) : H x ≠ none := fun z => by
  rcases h with ⟨_, q⟩ | ⟨_, q⟩ | ⟨_, q⟩ | ⟨y, o, q, hy, _⟩
  · rw [e] at q; cases q
  · rw [e] at q; cases q
  · rw [e] at q; cases q
  · rw [e] at q
    cases q
    rw [z] at hy
    cases hy
theorem tabN (n : Int) : TabOk n [] := ⟨List.Pairwise.nil, by decide, fun t h => (by cases h), ⟨[], by decide, fun t h => (by cases h)⟩, fun p => rfl⟩
theorem stN : st [] = [] := List.eq_nil_of_length_eq_zero (by
  have h : (names (st [])).length = 0 := by rw [names_st, sn_length]; rfl
  unfold names at h
  rw [List.length_map] at h
  exact h)
theorem pauN : pauT [] = "pauses" := by decide +kernel
theorem day3 : tabT 3 [] = "day 3" := by decide +kernel
end N1
set_option maxHeartbeats 16000000
/-! the law -/
namespace N1
open PySem PySem.Spec PyProof.Rows L2 TL
abbrev lawQ : Str := (envOfC "law" (defScope d_law) 0 0 .none).qual ++ "<lambda>"
def spLaw (K : PySem.W.Frag) : Sp := fun vs H Q _ => ∃ (a : Addr) (ns : List Int), vs = [.ref a] ∧ SqL K H a (ns.map V.int) ∧ H (tblK K (ga K "law")) = some (.tbl #[]) ∧ ∀ H', Q (.bl true) H'
section
variable {P : Program} {w : World} {K : PySem.W.Frag} {mg : Str → Option Value} {base : Heap}
theorem cod_of {fd : FuncData} (F : FunD K "law" "law" (defArgs d_law) (defBody d_law) (defScope d_law) [] [] (ga K "law") fd) : ∃ (oc : Value) (od : Option Addr) (dV kV doc pm : Value) (an : Option Addr) (ct : Value) (osl : Array (Option Value)),
    fd = PySem.W.fnOf "law" "law" (defArgs d_law) (defBody d_law) (defScope d_law) dV kV doc pm an (.ref (cod K (ga K "law"))) ct ∧ K.lookup (ga K "law") = some ⟨oc, od, .func fd, osl⟩ ∧ PySem.W.codeIn K (.ref (cod K (ga K "law"))) "law" = true := by
  obtain ⟨oc, od, dV, kV, doc, pm, an, cdv, ct, osl, rfl, lk, hcd, _, _⟩ := F.ex
  have e : cdv = .ref (cod K (ga K "law")) := by
    cases cdv with
    | ref c =>
      unfold cod
      rw [lk]
    | _ => exact absurd hcd (by simp [PySem.W.codeIn])
  subst e
  exact ⟨oc, od, dV, kV, doc, pm, an, ct, osl, rfl, lk, hcd⟩
theorem ok_law {fd : FuncData} (T : FX P K mg) (F : FunD K "law" "law" (defArgs d_law) (defBody d_law) (defScope d_law) [] [] (ga K "law") fd) (TB : LamX.TabB base mg (cod K (ga K "law")) (tblK K (ga K "law"))) : FnOk P w K mg base CX0 14 (ga K "law") fd ["_law_script"] (spLaw K) := by
  obtain ⟨oc, od, dV, kV, doc, pm, an, ct, osl, rfl, lk, hcd⟩ := cod_of F
  refine fn_of lk hcd sc_law (fun vs H Q E h => ?_) (fun A outer s H vs Q E hr h => ?_)
  · obtain ⟨a, ns, rfl, _⟩ := h
    rfl
  · obtain ⟨a, ns, rfl, ha, htb, kq⟩ := h
    have nd := sc_law.nd
    have hu := hu_of hr
    refine ⟨_, PSs.nox (pss_cons (ps_set (i := 1) nd rfl (Or.inl rfl) (cl "_law_pen" T (ok_pen T) (hr.mono (by decide)) (pa_cons (pv 0) pa_nil)))
      (pss_cons (ps_for PassesOwn.never rfl (pi_range1 (by rfl) (T.fre "range" (by decide +kernel)) (pa_cons pe_int pa_nil)) (pg_name (i := 2) nd rfl (Or.inl rfl))
        (pss_cons (ps_par (i := 3) (j := 4) rfl nd rfl rfl (by decide) rfl rfl (pa_cons (cl "_law_thing" T (ok_thing T) (hr.mono (by decide)) (pa_cons (pv 1) pa_nil)) (pa_cons (cl "_law_thing" T (ok_thing T) (hr.mono (by decide)) (pa_cons (pv 1) pa_nil)) pa_nil)) rfl)
        (pss_cons (ps_if (pw_or (pt_not (pt_val (cl "_law_right" T (ok_right T) (hr.mono (by decide)) (pa_cons (pv 3) pa_nil)))) (pw_or1 (pt_not (pt_val (cl "_law_right" T (ok_right T) (hr.mono (by decide)) (pa_cons (pv 4) pa_nil)))))).pt pss_never pss_nil)
        (pss_cons (ps_asg (pe_tup (pa_cons (cl "_law_table" T (ok_tableL T) (hr.mono (by decide)) (pa_cons (pe_ix ix_tup (pv 3) pe_int (fun _ _ => rfl)) pa_nil)) (pa_cons (cl "_law_table" T (ok_tableL T) (hr.mono (by decide)) (pa_cons (pe_ix ix_tup (pv 4) pe_int (fun _ _ => rfl)) pa_nil)) pa_nil))) (pg_tup rfl (pgs_cons (pg_name (i := 5) nd rfl (Or.inr rfl)) (pgs_cons (pg_name (i := 6) nd rfl (Or.inl rfl)) pgs_nil))))
        (pss_cons (ps_if (pt_cmpR op_ne (pe_cmpR op_eq (cl "write_table" T (ok_write_table T) (hr.mono (by decide)) (pa_cons (pv 5) pa_nil)) (cl "write_table" T (ok_write_table T) (hr.mono (by decide)) (pa_cons (pv 6) pa_nil)) (nomark _))
            (pe_cmpR (or_ownEq (T.meth ("Table", "__eq__") (by decide +kernel)) (ok_TableEqB T) (hr.mono (by decide)) pass0) (pv 5) (pv 6) (nomark _)) (nomark _)) pss_never pss_nil)
        (pss_cons (ps_if (pt_cmpR op_ne (pe_cmpR op_eq (cl "write_pauses" T (ok_write_pauses T) (hr.mono (by decide)) (pa_cons (pe_smeth (gc "Pauses" T) T.crP T.stP (ok_PausesOf T) (hr.mono (by decide)) pass0 (pa_cons (pe_ix ix_tup (pv 3) pe_int (fun _ _ => rfl)) pa_nil)) pa_nil)) (cl "write_pauses" T (ok_write_pauses T) (hr.mono (by decide)) (pa_cons (pe_smeth (gc "Pauses" T) T.crP T.stP (ok_PausesOf T) (hr.mono (by decide)) pass0 (pa_cons (pe_ix ix_tup (pv 4) pe_int (fun _ _ => rfl)) pa_nil)) pa_nil)) (nomark _))
            (pe_cmpR (or_ownEq (T.meth ("Pauses", "__eq__") (by decide +kernel)) (ok_PausesEqB T) (hr.mono (by decide)) pass0) (pe_smeth (gc "Pauses" T) T.crP T.stP (ok_PausesOf T) (hr.mono (by decide)) pass0 (pa_cons (pe_ix ix_tup (pv 3) pe_int (fun _ _ => rfl)) pa_nil)) (pe_smeth (gc "Pauses" T) T.crP T.stP (ok_PausesOf T) (hr.mono (by decide)) pass0 (pa_cons (pe_ix ix_tup (pv 4) pe_int (fun _ _ => rfl)) pa_nil)) (nomark _)) (nomark _)) pss_never pss_nil)
        (pss_cons (ps_set (i := 7) nd rfl (Or.inr rfl) (cl "_law_pick" T (ok_pick T) (hr.mono (by decide)) (pa_cons (pv 1) (pa_cons (pe_lst (pa_cons pe_int (pa_cons pe_bl (pa_cons pe_str (pa_cons (pe_lst pa_nil) (pa_cons pe_dnewK (pa_cons (pe_tup pa_nil)
            (pa_cons (StX.pe_makeR (T.mkr "Day" (by decide +kernel)) (ok_DayInit T) (hr.mono (by decide)) rfl (T.glo "Day" (by decide +kernel)) pass0 (pa_cons pe_int pa_nil)) (pa_cons (pe_lst (pa_cons (pv 5) pa_nil)) pa_nil))))))))) pa_nil))))
        (pss_cons (ps_set (i := 8) nd rfl (Or.inl rfl) (pe_lst (pa_cons (pe_part (k := 9) T rfl TB (hr.mono (by decide)) (LamX.lamS_by (sc := defScope d_law) (by decide +kernel)) (fun _ _ _ _ E _ _ hr2 => clE (E := E) "write_table" T (ok_write_tableX T) (hr2.mono (by decide)) (passes_call (takes_of rfl rfl rfl rfl) fun _ _ _ _ h => h) (pa_cons (pv 7) pa_nil))) pa_nil)))
        (pss_cons (ps_expr (pe_bm PySem.F.plainAttrs_list PySem.F.slot_list_append PySem.F.type_list_append mt_append (pv 8) (pa_cons (pe_part (k := 9) T rfl TB (hr.mono (by decide)) (LamX.lamS_by (sc := defScope d_law) (by decide +kernel)) (fun _ _ _ _ E _ _ hr2 => clE (E := E) "write_pauses" T (ok_write_pausesX T) (hr2.mono (by decide)) (passes_call (takes_of rfl rfl rfl rfl) fun _ _ _ _ h => h) (pa_cons (pv 7) pa_nil))) pa_nil)))
        (pss_cons (ps_expr (pe_bm PySem.F.plainAttrs_list PySem.F.slot_list_append PySem.F.type_list_append mt_append (pv 8) (pa_cons (pe_part (k := 9) T rfl TB (hr.mono (by decide)) (LamX.lamS_by (sc := defScope d_law) (by decide +kernel)) (fun _ _ _ _ E _ _ hr2 => clE (E := E) "write_plan" T (ok_write_planX T) (hr2.mono (by decide)) (passes_call (takes_of rfl rfl rfl rfl) fun _ _ _ _ h => h) (pa_cons (pv 7) pa_nil))) pa_nil)))
        (pss_cons (ps_expr (pe_bm PySem.F.plainAttrs_list PySem.F.slot_list_append PySem.F.type_list_append mt_append (pv 8) (pa_cons (pe_part (k := 9) T rfl TB (hr.mono (by decide)) (LamX.lamS_by (sc := defScope d_law) (by decide +kernel)) (fun _ _ _ _ E _ _ hr2 => clE (E := E) "write_table" T (ok_write_tableX T) (hr2.mono (by decide)) (passes_call (takes_of rfl rfl rfl rfl) fun _ _ _ _ h => h) (pa_cons pe_non pa_nil))) pa_nil)))
        (pss_cons (ps_expr (pe_bm PySem.F.plainAttrs_list PySem.F.slot_list_append PySem.F.type_list_append mt_append (pv 8) (pa_cons (pe_part (k := 9) T rfl TB (hr.mono (by decide)) (LamX.lamS_by (sc := defScope d_law) (by decide +kernel)) (fun _ _ _ _ E _ _ hr2 => clE (E := E) "write_plan" T (ok_write_planX T) (hr2.mono (by decide)) (passes_call (takes_of rfl rfl rfl rfl) fun _ _ _ _ h => h) (pa_cons (pv 5) pa_nil))) pa_nil)))
        (pss_one (ps_if (pt_cmpR (op_neS hr.units) (pv 8) (pe_lst (pa_cons pe_str (pa_cons pe_str (pa_cons pe_str (pa_cons pe_str (pa_cons pe_str pa_nil)))))) (nomark _)) pss_never pss_nil))))))))))))))
      (pss_one (ps_ret (pe_cmpR (op_eqS hr.units) (pe_lst (pa_cons (cl "write_pauses" T (ok_write_pausesN T) (hr.mono (by decide)) (pa_cons pe_non pa_nil)) (pa_cons (cl "write_pauses" T (ok_write_pauses T) (hr.mono (by decide)) (pa_cons (pe_makeK (T.mkr "Pauses" (by decide +kernel)) (ok_PausesInit T) (hr.mono (by decide)) rfl (T.glo "Pauses" (by decide +kernel)) pass0 pk_nil) pa_nil))
          (pa_cons (cl "write_table" T (ok_write_table T) (hr.mono (by decide)) (pa_cons (StX.pe_makeR (T.mkr "Table" (by decide +kernel)) (ok_TableInit T) (hr.mono (by decide)) rfl (T.glo "Table" (by decide +kernel)) pass0 (pa_cons (StX.pe_makeR (T.mkr "Day" (by decide +kernel)) (ok_DayInit T) (hr.mono (by decide)) rfl (T.glo "Day" (by decide +kernel)) pass0 (pa_cons pe_int pa_nil)) pa_nil)) pa_nil)) pa_nil)))) (pe_lst (pa_cons pe_str (pa_cons pe_str (pa_cons pe_str pa_nil)))) (nomark _)))))), ?_⟩
    have tabs0 : LamX.Tabs [(tblK K (ga K "law"), lawQ)] H := fun x hx => by
      rw [List.mem_singleton.mp hx]
      exact LamX.TabS.nil htb
    refine ⟨_, rfl, a, ns, rfl, ha, fun H1 p cp s1 np pen1 => ?_⟩
    refine ⟨3, rfl, by decide, by decide, for_range (n := 3) (fun i σ H' => PenAt H' p cp (1000 * i) ∧ LamX.Tabs [(tblK K (ga K "law"), lawQ)] H' ∧ ∃ v2 v3 v4 v5 v6 v7 v8, σ = [some (.ref a), some (.ref p), v2, v3, v4, v5, v6, v7, v8])
      ⟨pen1.le (by omega), tabs0.ext s1, _, _, _, _, _, _, _, rfl⟩ ?_ ?_⟩
    · rintro i σ H2 hi ⟨pn, tbs, v2, v3, v4, v5, v6, v7, v8, rfl⟩
      refine ⟨_, rfl, p, cp, _, rfl, pn, by omega, fun H3 q1 n1 ts1 ws1 fs1 k3 hq1 th1 ok1 pn3 => ?_⟩
      refine ⟨_, rfl, p, cp, _, rfl, pn3, by omega, fun H4 q2 n2 ts2 ws2 fs2 k4 hq2 th2 ok2 pn4 => ?_⟩
      have th1 := th1.kp k4 pn3
      have tbs4 := tabs_kp pn3 k4 (tabs_kp pn k3 tbs)
      refine ⟨_, _, rfl, ?_⟩
      refine ⟨_, rfl, p, q1, n1, ts1, ws1, fs1, rfl, th1, ok1, fun H5 s5 => ⟨true, rfl, iF ?_⟩⟩
      refine ⟨_, rfl, p, q2, n2, ts2, ws2, fs2, rfl, th2.up s5, ok2, fun H6 s6 => ⟨true, rfl, iF ?_⟩⟩
      have s46 := same_tr s5 s6
      have pn6 := pn4.up s46
      have tbs6 := tbs4.ext s46
      obtain ⟨a1, l1, wa1, fa1, hq1, pl1, _, hw1, hf1⟩ := th1.up s46
      obtain ⟨a2, l2, wa2, fa2, hq2, pl2, _, hw2, hf2⟩ := th2.up s46
      have lt1 := ok1.lt
      have lt2 := ok2.lt
      have z1 := lt1.n1
      have z2 := lt2.n1
      refine ⟨_, rfl, q1, _, _, _, rfl, rfl, SqT.of hq1, rfl, a1, l1, n1, ts1, rfl, pl1, tabok_of lt1, lt1.ok, lt1.n1, lt1.n12, fun H7 t1 s7 ht1 tb1 => ?_⟩
      refine ⟨_, rfl, q2, _, _, _, rfl, rfl, SqT.of (s7 _ _ hq2), rfl, a2, l2, n2, ts2, rfl, pl2.up s7, tabok_of lt2, lt2.ok, lt2.n1, lt2.n12, fun H8 t2 s8 ht2 tb2 => ?_⟩
      refine ⟨(show (2 : Nat) ≤ sizeLine by decide), fun tp htp => ?_⟩
      have s9 : Same H8 (upd H8 tp (.tup [.ref t1, .ref t2])) := same_new same_rfl htp
      refine ⟨tp, _, rfl, SqT.of upd_same, rfl, _, _, rfl, _, _, rfl, rfl, ?_⟩
      generalize upd H8 tp (.tup [.ref t1, .ref t2]) = H9 at s9 ⊢
      have s69 := same_tr s7 (same_tr s8 s9)
      have tb1 := tb1.up (same_tr s8 s9)
      have tb2 := tb2.up s9
      have pn9 := pn6.up s69
      have tbs9 := tbs6.ext s69
      have hq1 := s69 _ _ hq1
      have hq2 := s69 _ _ hq2
      have hw1 := s69 _ _ hw1
      have hw2 := s69 _ _ hw2
      have rd1 := rd_of ok1
      have rd2 := rd_of ok2
      have wr1 := wr_of ok1
      have wr2 := wr_of ok2
      refine ⟨_, rfl, t1, n1, st ts1, rfl, tb1, wr1.n0, wr1.n12, wr1.ok, wr1.l40, wr1.len, fun HA sA => ?_⟩
      refine ⟨_, rfl, t2, n2, st ts2, rfl, tb2.up sA, wr2.n0, wr2.n12, wr2.ok, wr2.l40, wr2.len, fun HB sB => ?_⟩
      have s9B := same_tr sA sB
      refine ⟨rfl, ?_⟩
      refine ⟨_, rfl, _, rfl, t1, t2, rfl, rfl, tab_ins (tb1.up s9B), tab_ins (tb2.up s9B), t1, t2, n1, n2, st ts1, st ts2, rfl, tb1.up s9B, tb2.up s9B, wr1.ok, wr2.ok, fun HC sC => ⟨_, rfl, rfl, _, rfl, ?_⟩⟩
      have e1 : (!decide (V.bl (decide (V.str (tabT n1 (st ts1)) = V.str (tabT n2 (st ts2)))) = V.bl (decide (n1 = n2 ∧ st ts1 = st ts2)))) = false := by
        have z : (V.str (tabT n1 (st ts1)) = V.str (tabT n2 (st ts2))) ↔ (n1 = n2 ∧ st ts1 = st ts2) := by
          rw [V.str.injEq]
          exact tab_inj wr1.n0 wr2.n0 wr1.ok wr2.ok
        simp only [z, decide_true, Bool.not_true]
      rw [e1]
      refine iF ?_
      have s9C := same_tr s9B sC
      refine ⟨rfl, _, rfl, q1, _, _, _, rfl, rfl, SqT.of (s9C _ _ hq1), rfl, HC, wa1, ws1, rfl, same_rfl, s9C _ _ hw1, ok1.pa, fun HD GD b1 gD hb1 pa1 => ?_⟩
      have sD : Same HC HD := fun x o e => gD.kp x o (by simp) e
      have s9D := same_tr s9C sD
      refine ⟨b1, nrm ws1, rfl, pa1.up gD.gh, wr1.pau, wr1.pnd, wr1.p60, fun HE sE => ?_⟩
      have s9E := same_tr s9D sE
      refine ⟨rfl, _, rfl, q2, _, _, _, rfl, rfl, SqT.of (s9E _ _ hq2), rfl, HE, wa2, ws2, rfl, same_rfl, s9E _ _ hw2, ok2.pa, fun HF GF b2 gF hb2 pa2 => ?_⟩
      have sF : Same HE HF := fun x o e => gF.kp x o (by simp) e
      have s9F := same_tr s9E sF
      refine ⟨b2, nrm ws2, rfl, pa2.up gF.gh, wr2.pau, wr2.pnd, wr2.p60, fun HG sG => ?_⟩
      have s9G := same_tr s9F sG
      refine ⟨rfl, ?_⟩
      refine ⟨rfl, _, rfl, q1, _, _, _, rfl, rfl, SqT.of (s9G _ _ hq1), rfl, HG, wa1, ws1, rfl, same_rfl, s9G _ _ hw1, ok1.pa, fun HI GI b3 gI hb3 pa3 => ?_⟩
      have sI : Same HG HI := fun x o e => gI.kp x o (by simp) e
      have s9I := same_tr s9G sI
      have pa3 := pa3.up gI.gh
      refine ⟨rfl, _, rfl, q2, _, _, _, rfl, rfl, SqT.of (s9I _ _ hq2), rfl, HI, wa2, ws2, rfl, same_rfl, s9I _ _ hw2, ok2.pa, fun HJ GJ b4 gJ hb4 pa4 => ?_⟩
      have sJ : Same HI HJ := fun x o e => gJ.kp x o (by simp) e
      have s9J := same_tr s9I sJ
      have pa4 := pa4.up gJ.gh
      have pa3 := pa3.up sJ
      refine ⟨b3, b4, rfl, rfl, pau_ins pa3, pau_ins pa4, b3, b4, nrm ws1, nrm ws2, rfl, pa3, pa4, wr1.pnd, wr2.pnd, sn_keys_nrm _, sn_keys_nrm _, _, rfl, rfl, _, rfl, ?_⟩
      have e2 : (!decide (V.bl (decide (V.str (pauT (nrm ws1)) = V.str (pauT (nrm ws2)))) = V.bl (decide (nrm ws1 = nrm ws2)))) = false := by
        have z : (V.str (pauT (nrm ws1)) = V.str (pauT (nrm ws2))) ↔ nrm ws1 = nrm ws2 := by
          rw [V.str.injEq]
          exact pau_inj (fun p hp => ⟨(wr1.pau p hp).1, (wr1.pau p hp).2.1⟩) (fun p hp => ⟨(wr2.pau p hp).1, (wr2.pau p hp).2.1⟩)
        simp only [z, decide_true, Bool.not_true]
      rw [e2]
      refine iF ?_
      -- the odd one
      have pnJ := pn9.up s9J
      have tbsJ := tbs9.ext s9J
      have hereJ := tab_ins (tb1.up s9J)
      clear e1 e2 pa1 pa2 pa3 pa4 tb2 hw1 hw2 hq1 hq2 pl1 pl2 hf1 hf2
      refine ⟨_, rfl, (show (0 : Nat) ≤ sizeLine by decide), fun xl hxl => ?_⟩
      have u1 : Same HJ (upd HJ xl (.lst [])) := same_new same_rfl hxl
      have nxl := pnJ.nn hxl
      have exl : (upd HJ xl (.lst [])) xl = some (.lst []) := upd_same
      generalize upd HJ xl (.lst []) = HK at u1 exl ⊢
      have pnK := pnJ.up u1
      refine fun xd hxd => ?_
      have u2 : Same HK (upd HK xd (.dK [])) := same_new same_rfl hxd
      have nxd := pnK.nn hxd
      have exd' : (upd HK xd (.dK [])) xd = some (.dK []) := upd_same
      generalize upd HK xd (.dK []) = HL at u2 exd' ⊢
      have pnL := pnK.up u2
      refine ⟨(show (0 : Nat) ≤ sizeLine by decide), fun xt hxt => ?_⟩
      have u3 : Same HL (upd HL xt (.tup [])) := same_new same_rfl hxt
      have nxt' := pnL.nn hxt
      have ext' : (upd HL xt (.tup [])) xt = some (.tup []) := upd_same
      generalize upd HL xt (.tup []) = HM at u3 ext' ⊢
      have pnM := pnL.up u3
      refine fun dy ddy hdy hddy hned => ⟨dy, ddy, 3, rfl, by decide, by decide, upd_same, fun HN g1 g2 => ⟨rfl, ?_⟩⟩
      have u4 : Same HM HN := made_same hdy hddy g1
      have ndy := pnM.nn hdy
      have pnN := pnM.up u4
      refine ⟨_, rfl, (show (1 : Nat) ≤ sizeLine by decide), fun xh hxh => ?_⟩
      have u5 : Same HN (upd HN xh (.lst [.ref t1])) := same_new same_rfl hxh
      have nxh := pnN.nn hxh
      have exh : (upd HN xh (.lst [.ref t1])) xh = some (.lst [.ref t1]) := upd_same
      generalize upd HN xh (.lst [.ref t1]) = HO' at u5 exh ⊢
      have pnO := pnN.up u5
      refine ⟨(show (8 : Nat) ≤ sizeLine by decide), fun lx hlx => ?_⟩
      have u6 : Same HO' (upd HO' lx (.lst [.int 0, .bl true, .str "day 24", .ref xl, .ref xd, .ref xt, .ref dy, .ref xh])) := same_new same_rfl hlx
      have nlx := pnO.nn hlx
      have elx : (upd HO' lx (.lst [.int 0, .bl true, .str "day 24", .ref xl, .ref xd, .ref xt, .ref dy, .ref xh])) lx = some (.lst [.int 0, .bl true, .str "day 24", .ref xl, .ref xd, .ref xt, .ref dy, .ref xh]) := upd_same
      generalize upd HO' lx (.lst [.int 0, .bl true, .str "day 24", .ref xl, .ref xd, .ref xt, .ref dy, .ref xh]) = HP at u6 elx ⊢
      have pnP := pnO.up u6
      have sJP := same_tr u1 (same_tr u2 (same_tr u3 (same_tr u4 (same_tr u5 u6))))
      refine ⟨p, cp, lx, _, _, rfl, pnP, by omega, nlx.1, elx, (show (1 : Nat) ≤ 8 by decide), (show (8 : Nat) ≤ 1000 by decide), fun HQ od hod kQ pnQ => ?_⟩
      have tbsQ := tabs_kp pnP kQ (tbsJ.ext sJP)
      have odd : Odd K HQ od := by
        simp only [List.mem_cons, List.not_mem_nil, or_false] at hod
        rcases hod with rfl | rfl | rfl | rfl | rfl | rfl | rfl | rfl
        · exact .inl ⟨_, rfl⟩
        · exact .inr (.inl ⟨_, rfl⟩)
        · exact .inr (.inr (.inl ⟨_, rfl⟩))
        · exact .inr (.inr (.inr ⟨_, _, rfl, kp_mem kQ (same_tr u2 (same_tr u3 (same_tr u4 (same_tr u5 u6))) _ _ exl) nxl.1, .inl ⟨_, rfl⟩⟩))
        · exact .inr (.inr (.inr ⟨_, _, rfl, kp_mem kQ (same_tr u3 (same_tr u4 (same_tr u5 u6)) _ _ exd') nxd.1, .inr (.inl ⟨_, rfl⟩)⟩))
        · exact .inr (.inr (.inr ⟨_, _, rfl, kp_mem kQ (same_tr u4 (same_tr u5 u6) _ _ ext') nxt'.1, .inr (.inr (.inl ⟨_, rfl⟩))⟩))
        · exact .inr (.inr (.inr ⟨_, _, rfl, kp_mem kQ (same_tr u5 u6 _ _ g2) ndy.1, .inr (.inr (.inr ⟨_, _, rfl⟩))⟩))
        · exact .inr (.inr (.inr ⟨_, _, rfl, kp_mem kQ (u6 _ _ exh) nxh.1, .inl ⟨_, rfl⟩⟩))
      have hereQ : InsAt HQ t1 (cTab K) := by
        obtain ⟨dx, fs, e⟩ := hereJ
        have e := sJP _ _ e
        exact ⟨dx, fs, kp_mem kQ e (pnP.nl e (fun xs y => by cases y)).1⟩
      refine ⟨tbsQ, fun HR eR tR => ?_⟩
      have oddR := odd.to (H' := HR) fun x o _ hx nt => eR _ _ hx nt
      refine ⟨_, rfl, od, rfl, oddR.no T "Table" (by decide), fun dy HS sS hd => ⟨rfl, dy, "table", rfl, hd, ?_⟩⟩
      refine ⟨(show (1 : Nat) ≤ sizeLine by decide), fun lh hlh => ?_⟩
      have sT : Same HS (upd HS lh (.lst [.str "table"])) := same_new same_rfl hlh
      have pnS := (pen_extN eR pnQ).up sS
      have oddS := oddR.to (H' := HS) fun x o _ hx _ => sS _ _ hx
      have P1 : Prt K [(tblK K (ga K "law"), lawQ)] p cp (1000 * i + 300 + 300 + 1) lh t1 od ["table"] (upd HS lh (.lst [.str "table"])) := by
        refine ⟨(pnS.up sT).le (by omega), (tR.ext sS).ext sT, upd_same, (pnS.nn hlh).1, (pnS.nn hlh).2, ?_, oddS.to fun x o _ hx _ => sT _ _ hx, fun x e z => oddS.ref e (by rw [z]; exact hlh)⟩
        obtain ⟨dx, fs, e⟩ := hereQ
        exact ⟨dx, fs, sT _ _ (sS _ _ (eR _ _ e (fun ps z => by cases z)))⟩
      generalize upd HS lh (.lst [.str "table"]) = HT at P1 ⊢
      clear oddR oddS pnS
      refine ⟨_, rfl, .inl ⟨rfl, _, SqL.of P1.hl⟩, P1.tb, fun J1 e1 w1 => ?_⟩
      have M1 := P1.mid e1 w1 same_rfl
      refine ⟨_, rfl, od, rfl, M1.od.non, M1.od.no T "Pauses" (by decide), fun dy G1 g1 hd => ⟨rfl, dy, "pauses", rfl, hd, ?_⟩⟩
      have N1 := P1.mid e1 w1 g1
      have P2 := N1.add (y := "pauses")
      refine ⟨lh, _, _, rfl, rfl, N1.hl, by rw [List.length_map, sizeLine_eq]; decide, ?_⟩
      generalize upd G1 lh (.lst (List.map V.str _ ++ [.str "pauses"])) = K1 at P2 ⊢
      clear M1 N1
      refine ⟨_, rfl, .inl ⟨rfl, _, SqL.of P2.hl⟩, P2.tb, fun J2 e2 w2 => ?_⟩
      have M2 := P2.mid e2 w2 same_rfl
      refine ⟨_, rfl, od, rfl, M2.od.no T "Plan" (by decide), fun dy G2 g2 hd => ⟨rfl, dy, "plan", rfl, hd, ?_⟩⟩
      have N2 := P2.mid e2 w2 g2
      have P3 := N2.add (y := "plan")
      refine ⟨lh, _, _, rfl, rfl, N2.hl, by rw [List.length_map, sizeLine_eq]; decide, ?_⟩
      generalize upd G2 lh (.lst (List.map V.str _ ++ [.str "plan"])) = K2 at P3 ⊢
      clear M2 N2
      refine ⟨_, rfl, .inl ⟨rfl, _, SqL.of P3.hl⟩, P3.tb, fun J3 e3 w3 => ?_⟩
      have M3 := P3.mid e3 w3 same_rfl
      refine ⟨.non, rfl, non_no T "Table" (by decide), fun dy G3 g3 hd => ⟨rfl, dy, "table", rfl, hd, ?_⟩⟩
      have N3 := P3.mid e3 w3 g3
      have P4 := N3.add (y := "table")
      refine ⟨lh, _, _, rfl, rfl, N3.hl, by rw [List.length_map, sizeLine_eq]; decide, ?_⟩
      generalize upd G3 lh (.lst (List.map V.str _ ++ [.str "table"])) = K3 at P4 ⊢
      clear M3 N3
      refine ⟨_, rfl, .inl ⟨rfl, _, SqL.of P4.hl⟩, P4.tb, fun J4 e4 w4 => ?_⟩
      have M4 := P4.mid e4 w4 same_rfl
      refine ⟨_, rfl, .ref t1, rfl, tab_no T M4.he, fun dy G4 g4 hd => ⟨rfl, dy, "plan", rfl, hd, ?_⟩⟩
      have N4 := P4.mid e4 w4 g4
      have P5 := N4.add (y := "plan")
      refine ⟨lh, _, _, rfl, rfl, N4.hl, by rw [List.length_map, sizeLine_eq]; decide, ?_⟩
      generalize upd G4 lh (.lst (List.map V.str _ ++ [.str "plan"])) = K4 at P5 ⊢
      clear M4 N4
      have sok : ∀ z ∈ (["table", "pauses", "plan", "table", "plan"] : List Str), PyData.strOk z = true := by decide +kernel
      refine ⟨_, rfl, (show (5 : Nat) ≤ sizeLine by decide), fun l2 hl2 => ?_⟩
      have u9 := same_new (o := .lst [.str "table", .str "pauses", .str "plan", .str "table", .str "plan"]) (same_rfl (H := K4)) hl2
      refine ⟨lh, l2, ["table", "pauses", "plan", "table", "plan"], ["table", "pauses", "plan", "table", "plan"], rfl, rfl, u9 _ _ P5.hl, upd_same, sok, sok, fun _ => ⟨_, rfl, iF ?_⟩, fun z => absurd rfl z⟩
      exact ⟨(P5.pn.up u9).le (by omega), P5.tb.ext u9, _, _, _, _, _, _, _, rfl⟩
    · rintro σ H2 ⟨pn, tbs, v2, v3, v4, v5, v6, v7, v8, rfl⟩
      have na : nrm [] = [] := by decide +kernel
      refine ⟨rfl, fun H3 s3 => ?_⟩
      refine fun xp dxp hxp hdxp hnep => ⟨xp, dxp, [], rfl, rfl, ⟨List.Pairwise.nil, (fun x h => by cases h), (fun x h => by cases h), by decide⟩, upd_same, fun H5 dn' dr' k2 hxp' f4 r4 f5 n5 r5 => ⟨rfl, ?_⟩⟩
      rw [na] at r4 r5
      refine ⟨xp, [], rfl, ⟨dxp, dn', dr', hxp', r4, r5⟩, (fun p hp => by cases hp), .nil, by decide, fun H6 s6 => ?_⟩
      refine fun xd dxd hxd hdxd hned => ⟨xd, dxd, 3, rfl, by decide, by decide, upd_same, fun H7 g1 g2 => ⟨rfl, fun xt dxt hxt hdxt hnet => ⟨_, _, [], rfl, (show (0 : Nat) ≤ sizeLine by decide), fun pt hpt => ?_⟩⟩⟩
      have npx : xt ≠ pt := fun z => by rw [← z, upd_same] at hpt; cases hpt
      have sU : Same H7 (upd (upd (upd H7 dxt (.own xt)) xt (.ins (ga K "Table") dxt [])) pt (.tup [])) := same_new (same_new (same_new same_rfl hdxt) (by rw [upd_ne (Ne.symm hnet)]; exact hxt)) hpt
      refine ⟨xt, dxt, xd, pt, 3, [], [], rfl, upd_same, ⟨rfl, fun i a t h => by simp at h⟩, ⟨dxd, sU _ _ g2⟩, tabN 3, by rw [upd_ne npx]; exact upd_same, fun H8 dn dp dr rs ys k1 hx' f1 f2 f3 ft r2 r3 sel => ⟨rfl, ?_⟩⟩
      have s78 : Same H7 H8 := fun x v e => k1 x v (fun z => by rw [z, hxt] at e; cases e) (sU _ _ e)
      have tb : TableAt K H8 xt 3 [] := by
        refine ⟨dxt, xd, dn, dp, dr, rs, hx', ⟨dxd, s78 _ _ g2⟩, ?_, r3, ?_⟩
        · rw [← names_st, stN] at ft
          exact ft
        · have := sel.trs (K := K) (G := H8) ⟨rfl, fun i a t h => by simp at h⟩
          rw [stN] at this
          exact this
      refine ⟨xt, 3, [], rfl, tb, by decide, by decide, (fun t h => by cases h), by decide, (by decide +kernel), fun H9 s9 => ?_⟩
      refine ⟨(show (3 : Nat) ≤ sizeLine by decide), fun la hla => ⟨(show (3 : Nat) ≤ sizeLine by decide), fun lb hlb => ?_⟩⟩
      have nab : la ≠ lb := fun z => by rw [← z, upd_same] at hlb; cases hlb
      have sok : ∀ z ∈ (["pauses", "pauses", "day 3"] : List Str), PyData.strOk z = true := by decide +kernel
      have eh : [V.str (pauT []), V.str (pauT []), V.str (tabT 3 [])] = (["pauses", "pauses", "day 3"] : List Str).map V.str := by rw [pauN, day3]; rfl
      refine ⟨la, lb, ["pauses", "pauses", "day 3"], ["pauses", "pauses", "day 3"], rfl, rfl, by rw [upd_ne nab, upd_same, ← eh], upd_same, sok, sok, fun _ => kq _, fun z => absurd rfl z⟩
end
end N1
set_option maxHeartbeats 2000000
namespace N1
open PySem PySem.Spec PyProof.Rows L2 He
theorem eqB_ok {a b : Option Bool} (h : eqB a b = true) : a = b := of_decide_eq_true h
theorem eqV1_ok {a b : Option Value} (h : eqV1 a b = true) : a = b := of_decide_eq_true h
theorem isiB_ok {K : PySem.W.Frag} {C D : Addr} (h : isiB K C D = true) : IsiC K C D := by
  obtain ⟨h1, h⟩ := ba h
  obtain ⟨h2, h3⟩ := ba h
  exact ⟨eqO_ok h1, eqB_ok h2, eqB_ok h3⟩
theorem conB_ok {K : PySem.W.Frag} {C : Addr} {f z : Str} (h : conB K C f z = true) : ∃ u, Con K C f (.str z) u := by
  obtain ⟨h1, h2⟩ := ba h
  split at h1
  · rename_i y t e
    obtain ⟨k1, k2⟩ := ba h1
    have ey := of_decide_eq_true k1
    subst ey
    exact ⟨_, e, ⟨t, rfl⟩, eqO_ok k2, by simpa using h2⟩
  · cases h1
theorem strB_ok {K : PySem.W.Frag} {C : Str} (h : strB K C = true) : StrC K (ga K C) (ma K (ga K C) "__str__") := by
  obtain ⟨h1, h⟩ := ba h
  obtain ⟨h2, h⟩ := ba h
  obtain ⟨h3, h4⟩ := ba h
  exact ⟨eqO_ok h1, h2, eqO_ok h3, eqB_ok h4⟩
theorem crB_ok {K : PySem.W.Frag} {C : Addr} (h : crB K C = true) : ClX.CRead K C (.type "type") := by
  obtain ⟨h1, h2⟩ := ba h
  exact ⟨h1, eqO_ok h2⟩
theorem staB_ok {K : PySem.W.Frag} {C : Addr} {m : Str} (h : staB K C m = true) : CSta K C (.type "type") m (ma K C m) (He5.wf K C "staticmethod" m) := by
  obtain ⟨h1, h2⟩ := ba h
  obtain ⟨k1, k2⟩ := He5.wrapB_ok h1
  exact ⟨k1, k2, h2⟩
theorem proB_ok {K : PySem.W.Frag} {C m : Str} (h : proB K C m = true) : PropOf K (ga K C) m (ma K (ga K C) m) (pr_ K C m) := by
  obtain ⟨h1, h⟩ := ba h
  obtain ⟨h2, h⟩ := ba h
  obtain ⟨h3, h4⟩ := ba h
  refine ⟨eqO_ok h1, eqO_ok h2, eqB_ok h3, ?_⟩
  unfold pr_
  split at h4
  · rename_i g r e
    exact ⟨r, by rw [e]⟩
  · cases h4
theorem supB_ok {P : Program} {K : PySem.W.Frag} {f D : Addr} {name qual : Str} {params : Arguments} {body : List Stmt} {scope : Scope} (h : supB K f D qual P.main.file = true) (e : fnS K f = supV name qual params body scope) : SupD P K name qual params body scope f (cel K f) (cod K f) D := by
  obtain ⟨h1, h2⟩ := ba h
  obtain ⟨h2, h3⟩ := ba h2
  unfold fnS at e
  unfold cel cod
  cases q : K.lookup f with
  | none => rw [q] at h1; cases h1
  | some o =>
    obtain ⟨oc, od, dt, osl⟩ := o
    rw [q] at h1 e
    cases dt with
    | func fd =>
      obtain ⟨n1, n2, n3, n4, n5, n6, n7, n8, n9, n10, n11, n12, n13, n14, n15⟩ := fd
      dsimp only at h1 e ⊢
      obtain ⟨h1, h6⟩ := ba h1
      obtain ⟨h4, h5⟩ := ba h1
      have e2 : (some (n1, n2, n3, n4, n5, n6, n7.map (fun q => (q.1, 0)), n15) : FnW) = some (name, qual, params, FuncBody.stmts body, scope, mainGlobals, [(("__class__" : Str), (0 : Addr))], builtinsNs) := e
      simp only [Option.some.injEq, Prod.mk.injEq] at e2
      obtain ⟨a1, a2, a3, a4, a5, a6, a7, a8⟩ := e2
      subst a1 a2 a3 a4 a5 a6 a8
      have d1 : n8 = .none := by cases n8 <;> first | rfl | cases h4
      subst d1
      split at h5
      · rename_i c
        obtain ⟨h7, h8⟩ := ba h5
        split at h6
        · rename_i s0 cc
          have ek : s0 = ("__class__" : Str) := by
            simp only [List.map_cons, List.map_nil, List.cons.injEq, Prod.mk.injEq] at a7
            exact a7.1.1
          subst ek
          refine ⟨⟨oc, od, n9, n10, n11, n12, n14, osl, q⟩, h7, ?_, ?_, ?_, h2⟩
          · unfold fileB at h8
            split at h8
            · rename_i ccl cdd vs ccs ec
              split at h8
              · rename_i file tf ef
                exact ⟨ccl, cdd, vs, ccs, file, tf, ec, ef, h8⟩
              · cases h8
            · cases h8
          · unfold cellB at h6
            split at h6
            · rename_i cl cld D' csl ec
              rw [of_decide_eq_true h6] at ec
              exact ⟨cl, cld, csl, ec⟩
            · cases h6
          · exact Option.isSome_iff_exists.mp h3
        · cases h6
      · cases h5
    | _ => cases h1
theorem oexB_ok {K : PySem.W.Frag} {C : Addr} (h : oexB K C = true) : OexC K C := by
  obtain ⟨h1, h⟩ := ba h
  obtain ⟨h2, h⟩ := ba h
  obtain ⟨h3, h⟩ := ba h
  obtain ⟨h4, h5⟩ := ba h
  refine ⟨?_, eqO_ok h2, eqB_ok h3, eqV1_ok h4, h5⟩
  split at h1
  · rename_i dd cd sl ho
    split at h1
    · rename_i C' bm k0 k1 k2 k3 n k5 hm hs
      simp only [Bool.and_eq_true, beq_iff_eq, Bool.not_eq_true'] at h1
      obtain ⟨⟨⟨⟨rfl, rfl⟩, hdel⟩, hdi⟩, ht⟩ := h1
      obtain ⟨nm, bs, mro, ns, qn, hd, sn, sub, ab, col, del⟩ := cd
      dsimp only at hm hdel hdi
      subst hm hdel hdi
      have hsl : sl = #[k0, k1, k2, k3, some (.builtin "ValueError.__new__"), k5] := by
        obtain ⟨l⟩ := sl
        simp only at hs
        rw [hs]
      subst hsl
      exact ⟨nm, qn, ns, bs, bm, sn, sub, ab, col, dd, k0, k1, k2, k3, k5, ho, ht⟩
    · cases h1
  · cases h1
theorem obsBG_eq {g : Addr → Option Obj} {s : Shared} (h : ∀ a, g a = s.heap.get? a) : obsBG g = hookB.obs s := by
  have e : g = s.heap.get? := funext h
  rw [e] <;> rfl
section
variable {K : PySem.W.Frag}
theorem fact_of (c : obsB K = valB) (i : Nat) {b : PySem.W.Frag → Bool} (h : fxB[i]? = some b := by rfl) : b K = true := by
  have c1 := (ba (show (fxB.all (fun b => b K) && fnL.all (fun d => d.ok K)) = true from congrArg (fun z : AlD => z.1) c)).1
  exact List.all_eq_true.mp c1 b (List.mem_of_getElem? h)
theorem fns_of (c : obsB K = valB) : fnL.map (fun d => He5.fnA K (d.at_ K)) = fnL.map He5.DefA.val ∧ (suA.map fun a => fnS K (a K)) = suV := by
  have e : fnL.map (fun d => He5.fnA K (d.at_ K)) ++ (suA.map fun a => fnS K (a K)) = fnL.map He5.DefA.val ++ suV := congrArg (fun z : AlD => z.2) c
  exact List.append_inj e (by rw [List.length_map, List.length_map])
theorem def_of (c : obsB K = valB) (i : Nat) {d : He5.DefA} (h : fnL[i]? = some d := by rfl) : ∃ fd, FunD K d.name d.qual d.params d.body d.scope (d.dvs K) (d.kws K) (d.at_ K) fd := by
  have c2 := (ba (show (fxB.all (fun b => b K) && fnL.all (fun d => d.ok K)) = true from congrArg (fun z : AlD => z.1) c)).2
  have e2 : (fnL.map fun d => He5.fnA K (d.at_ K))[i]? = (fnL.map He5.DefA.val)[i]? := by rw [(fns_of c).1]
  rw [List.getElem?_map, List.getElem?_map, h] at e2
  exact He5.DefA.funD (Option.some.inj e2) (List.all_eq_true.mp c2 d (List.mem_of_getElem? h))
theorem sup_of (c : obsB K = valB) (i : Nat) {a : PySem.W.Frag → Addr} {v : FnW} (h : suA[i]? = some a := by rfl) (hv : suV[i]? = some v := by rfl) : fnS K (a K) = v := by
  have e2 : (suA.map fun a => fnS K (a K))[i]? = suV[i]? := by rw [(fns_of c).2]
  rw [List.getElem?_map, h, hv] at e2
  exact Option.some.inj e2
theorem all_c {α : Type} [BEq α] [LawfulBEq α] {l : List α} {f : α → Bool} (h : l.all f = true) {x : α} (hx : l.contains x = true) : f x = true := List.all_eq_true.mp h x (List.contains_iff_mem.mp hx)
theorem fx_of {h : Heap} {mg : Str → Option Value} (X : K.In h) (G : h.Ns mainGlobals mg) (c : obsB K = valB) : FX PR K mg := by
  exact {
    glo := fun x hx => glo_ok X G (ba (all_c (fact_of c 0 : b_glo K = true) hx)).1
    kpg := fun x hx => (ba (all_c (fact_of c 0 : b_glo K = true) hx)).2
    fre := fun x hx => free_ok X G (all_c (fact_of c 1 : b_fre K = true) hx)
    int := fun q hq => int_ok X G (all_c (fact_of c 2 : b_int K = true) hq)
    let_ := str_ok X G (fact_of c 3 : b_let K = true)
    cls := fun x hx => cls_ok (all_c (fact_of c 4 : b_cls K = true) hx)
    noat := fun q hq => noat_ok (all_c (fact_of c 5 : b_noa K = true) hq)
    meth := fun q hq => meth_ok (all_c (fact_of c 6 : b_met K = true) hq)
    mkr := fun x hx => mkr_ok (all_c (fact_of c 7 : b_mkr K = true) hx)
    gcn := eqO_ok (ba (fact_of c 8 : b_gcn K = true)).1
    gct := eqB_ok (ba (fact_of c 8 : b_gcn K = true)).2
    isR := isiB_ok (fact_of c 9 : b_isR K = true)
    isS := isiB_ok (fact_of c 10 : b_isS K = true)
    isD := isiB_ok (fact_of c 11 : b_isD K = true)
    isT := isiB_ok (fact_of c 12 : b_isT K = true)
    isP := isiB_ok (fact_of c 13 : b_isP K = true)
    isL := isiB_ok (fact_of c 14 : b_isL K = true)
    woR := conB_ok (fact_of c 25 : b_woR K = true)
    woS := conB_ok (fact_of c 26 : b_woS K = true)
    neq := fun x hx => (let z := ba (all_c (fact_of c 27 : b_neq K = true) hx); ⟨eqO_ok z.1, eqB_ok z.2⟩)
    sfR := (let z := ba (fact_of c 28 : b_sfR K = true); ⟨z.1, eqO_ok z.2⟩)
    sfS := (let z := ba (fact_of c 29 : b_sfS K = true); ⟨z.1, eqO_ok z.2⟩)
    stD := strB_ok (fact_of c 15 : b_stD K = true)
    stR := strB_ok (fact_of c 16 : b_stR K = true)
    stS := strB_ok (fact_of c 17 : b_stS K = true)
    stE := of_decide_eq_true (fact_of c 18 : b_stE K = true)
    cdL := (fact_of c 19 : b_cdL K = true)
    nTb := (let z := ba (fact_of c 20 : b_nTb K = true); ⟨Option.isNone_iff_eq_none.mp z.1, of_decide_eq_true z.2⟩)
    nfR := (let z := ba (fact_of c 24 : b_nfR K = true); ⟨eqB_ok z.1, eqB_ok z.2⟩)
    kTP := (let z := ba (fact_of c 21 : b_kTP K = true); ⟨eqB_ok z.1, eqB_ok z.2⟩)
    kDx := fun x hx => eqB_ok (all_c (fact_of c 22 : b_kDx K = true) hx)
    kBx := fun q hq x hx => eqB_ok (all_c (all_c (fact_of c 23 : b_kBx K = true) hq) hx)
    nsq := ba (fact_of c 30 : b_nsq K = true)
    iad := Option.isSome_iff_exists.mp (fact_of c 31 : b_iad K = true)
    ira := Option.isSome_iff_exists.mp (fact_of c 32 : b_ira K = true)
    isu := fun x hx => eqB_ok (all_c (fact_of c 33 : b_isu K = true) hx)
    crT := crB_ok (fact_of c 34 : b_crT K = true)
    crP := crB_ok (fact_of c 35 : b_crP K = true)
    stT := staB_ok (fact_of c 36 : b_stT K = true)
    stP := staB_ok (fact_of c 37 : b_stP K = true)
    prF := proB_ok (fact_of c 38 : b_prF K = true)
    opq := eqO_ok (fact_of c 39 : b_opq K = true)
    top_ := by kernel_rfl
    suR := supB_ok (fact_of c 40 : b_suR K = true) (sup_of c 0)
    suS := supB_ok (fact_of c 41 : b_suS K = true) (sup_of c 1)
    suA := supB_ok (fact_of c 42 : b_suA K = true) (sup_of c 2)
    siR := (let z := ba (fact_of c 43 : b_siR K = true); ⟨eqO_ok z.1, eqB_ok (ba z.2).1, Option.isSome_iff_exists.mp (ba z.2).2⟩)
    siS := (let z := ba (fact_of c 44 : b_siS K = true); ⟨eqO_ok z.1, eqB_ok (ba z.2).1, Option.isSome_iff_exists.mp (ba z.2).2⟩)
    siA := (let z := ba (fact_of c 45 : b_siA K = true); ⟨eqO_ok z.1, eqB_ok (ba z.2).1, eqB_ok (ba z.2).2⟩)
    fnT := (let z := ba (fact_of c 46 : b_fnT K = true); ⟨eqV1_ok z.1, z.2⟩)
    oex := oexB_ok (fact_of c 47 : b_oex K = true)
    oeI := (let z := ba (fact_of c 48 : b_oeI K = true); ⟨eqO_ok z.1, eqV1_ok z.2⟩)
    oeN := eqO_ok (fact_of c 49 : b_oeN K = true)
    tmE := fun x hx => (let z := ba (all_c (fact_of c 50 : b_tmE K = true) hx); ⟨of_decide_eq_true z.1, of_decide_eq_true z.2⟩)
    exm := eqB_ok (fact_of c 51 : b_exm K = true)
    xfA := xfB_ok (fact_of c 52 : b_xfA K = true)
    f_is_integer := def_of c 0 (d := e_is_integer)
    f_is_between := def_of c 1 (d := e_is_between)
    f_is_number := def_of c 2 (d := e_is_number)
    f_is_name := def_of c 3 (d := e_is_name)
    f_is_row := def_of c 4 (d := e_is_row)
    f_number_in := def_of c 5 (d := e_number_in)
    f_DayInit := def_of c 6 (d := e_DayInit)
    f_DayEq := def_of c 7 (d := e_DayEq)
    f_DayStr := def_of c 8 (d := e_DayStr)
    f_WordsInit := def_of c 9 (d := e_WordsInit)
    f_WordsNext_word := def_of c 10 (d := e_WordsNext_word)
    f_WordsTake_word := def_of c 11 (d := e_WordsTake_word)
    f_WordsTake_name := def_of c 12 (d := e_WordsTake_name)
    f_WordsTake_number := def_of c 13 (d := e_WordsTake_number)
    f_WordsTake_end := def_of c 14 (d := e_WordsTake_end)
    f_TripInit := def_of c 15 (d := e_TripInit)
    f_TripAdd := def_of c 16 (d := e_TripAdd)
    f_TripEq := def_of c 17 (d := e_TripEq)
    f_TripStr := def_of c 18 (d := e_TripStr)
    f_RunTimed := def_of c 19 (d := e_RunTimed)
    f_RunStr := def_of c 20 (d := e_RunStr)
    f_StayTimed := def_of c 21 (d := e_StayTimed)
    f_need_all_trips := def_of c 22 (d := e_need_all_trips)
    f_places_of := def_of c 23 (d := e_places_of)
    f_need_few := def_of c 24 (d := e_need_few)
    f_unbalanced := def_of c 25 (d := e_unbalanced)
    f_TableInit := def_of c 26 (d := e_TableInit)
    f_TableOf := def_of c 27 (d := e_TableOf)
    f_TableGetitem := def_of c 28 (d := e_TableGetitem)
    f_TableContains := def_of c 29 (d := e_TableContains)
    f_TableIter := def_of c 30 (d := e_TableIter)
    f_TableLen := def_of c 31 (d := e_TableLen)
    f_TableEq := def_of c 32 (d := e_TableEq)
    f_need_names_alone := def_of c 33 (d := e_need_names_alone)
    f_PausesInit := def_of c 34 (d := e_PausesInit)
    f_PausesOf := def_of c 35 (d := e_PausesOf)
    f_PausesPut := def_of c 36 (d := e_PausesPut)
    f_PausesGetitem := def_of c 37 (d := e_PausesGetitem)
    f_PausesIter := def_of c 38 (d := e_PausesIter)
    f_PausesEq := def_of c 39 (d := e_PausesEq)
    f_need_table := def_of c 40 (d := e_need_table)
    f_needed_pauses := def_of c 41 (d := e_needed_pauses)
    f_is_order := def_of c 42 (d := e_is_order)
    f_turns_of := def_of c 43 (d := e_turns_of)
    f_PlanInit := def_of c 44 (d := e_PlanInit)
    f_PlanFollows := def_of c 45 (d := e_PlanFollows)
    f_PlanEq := def_of c 46 (d := e_PlanEq)
    f_write_table := def_of c 47 (d := e_write_table)
    f_write_pauses := def_of c 48 (d := e_write_pauses)
    f_write_plan := def_of c 49 (d := e_write_plan)
    f_lines_of := def_of c 50 (d := e_lines_of)
    f_take_run := def_of c 51 (d := e_take_run)
    f_take_stay := def_of c 52 (d := e_take_stay)
    f_take_trip := def_of c 53 (d := e_take_trip)
    f_take_length := def_of c 54 (d := e_take_length)
    f_trips_told := def_of c 55 (d := e_trips_told)
    f_numbers_told := def_of c 56 (d := e_numbers_told)
    f_read_table := def_of c 57 (d := e_read_table)
    f_read_pauses := def_of c 58 (d := e_read_pauses)
    f_pauses_line := def_of c 59 (d := e_pauses_line)
    f_follows_told := def_of c 60 (d := e_follows_told)
    f_read_plan := def_of c 61 (d := e_read_plan)
    f_w_pen := def_of c 62 (d := e_w_pen)
    f_w_draw := def_of c 63 (d := e_w_draw)
    f_w_pick := def_of c 64 (d := e_w_pick)
    f_w_takes := def_of c 65 (d := e_w_takes)
    f_w_plain := def_of c 66 (d := e_w_plain)
    f_w_table := def_of c 67 (d := e_w_table)
    f_w_places := def_of c 68 (d := e_w_places)
    f_w_follows := def_of c 69 (d := e_w_follows)
    f_w_trip_text := def_of c 70 (d := e_w_trip_text)
    f_w_sorted := def_of c 71 (d := e_w_sorted)
    f_w_table_text := def_of c 72 (d := e_w_table_text)
    f_w_pauses_text := def_of c 73 (d := e_w_pauses_text)
    f_w_plan_text := def_of c 74 (d := e_w_plan_text)
    f_w_pauses := def_of c 75 (d := e_w_pauses)
    f_w_thing := def_of c 76 (d := e_w_thing)
    f_w_right := def_of c 77 (d := e_w_right)
    f_w_part := def_of c 78 (d := e_w_part)
    f_law := def_of c 79 (d := e_law)
  }
end
end N1
set_option maxHeartbeats 0
namespace N1
open PySem PySem.Spec PyProof.Rows L2
def obT (s : PySem.W.SharedT) : He.AlD := obsBG (HandSHeadRun.getT s)
theorem obT_eq (s : PySem.W.SharedT) : obT s = hookB.obs s.abs := obsBG_eq (HandSHeadRun.getT_eq s)
theorem obs_split (g : Addr → Option Obj) : obsBG g = (f1 g && f2 g, f3 g) := rfl
theorem three {S A B : Type} {x : Option S} {a : S → A} {b : S → B} {g : S → Addr → Option Obj} {va : A} {vb : B}
    (e1 : x.map (fun s => (a s, b s, f1 (g s))) = some (va, vb, true)) (e2 : x.map (fun s => (a s, b s, f2 (g s))) = some (va, vb, true)) (e3 : x.map (fun s => (a s, b s, f3 (g s))) = some (va, vb, v3)) :
    x.map (fun s => (a s, b s, obsBG (g s))) = some (va, vb, valB) := by
  cases x with
  | none => cases e1
  | some s =>
    have h1 := Option.some.inj e1
    have h2 := Option.some.inj e2
    have h3 := Option.some.inj e3
    have k1 : a s = va := congrArg Prod.fst h1
    have k2 : b s = vb := congrArg (fun z => z.2.1) h1
    have k3 : f1 (g s) = true := congrArg (fun z => z.2.2) h1
    have k4 : f2 (g s) = true := congrArg (fun z => z.2.2) h2
    have k5 : f3 (g s) = v3 := congrArg (fun z => z.2.2) h3
    show some (a s, b s, obsBG (g s)) = some (va, vb, valB)
    rw [obs_split, k1, k2, k3, k4, k5]
    rfl
theorem runE (w : World) : HandSHeadRun.RunEq RW (PySem.W.view RW.prog [98]) hookB obT 30000 loose w := by
  intro os
  exact three (run1 w os) (run2 w os) (run3 w os)
/-- the end of a law that makes lambdas, the fragment told of the heap -/
theorem walk_ofEO {l : PySem.W.OpenLaw} {n k : Nat} {q : Program} {loose : List Str} {XP : (Str → Option Value) → Heap → Prop} {YP : World → Heap → Prop} {d : DefRec} {CX : CXT} {x : Str}
    (hn : l.most = some n) (hn2 : n ≤ sizeLine) (hdf : d.params.defaults = []) (hr : Room k callerA) (hrec : ((recsOf q).any fun e => e.name == d.name) = true)
    (F : ∀ (w : World) (mg : Str → Option Value) (fa : Addr) (h : Heap), YP w h → h.Ns mainGlobals mg → mg d.name = some (.ref fa) → ∃ K : PySem.W.Frag, K.In h ∧ (LamX.OwnTab K fa h → LamX.LawAtS l w K CX k n x mg fa h))
    (hCX : ∀ (H : Hp) (s : Shared) (e : Value) (s' : Shared), CX [] H s (fun _ _ _ => False) e s' → False) :
    PySem.W.WalkO q loose XP YP l.row.toRowW d [] (fun f vs => PySem.call f vs) := by
  refine Att.attach_callB hn hdf fun w s₀ s₁ mg mb fa o pm cd doc a vs ns G Y ho hd hcd hmg hobj hints hlen hbits hg => ?_
  obtain ⟨K, KX, F'⟩ := F w mg fa _ Y G.T.g hmg
  have own : LamX.OwnTab K fa s₁.heap := fun c P o1 fd1 e dd vs1 sl k1 k2 k3 k4 k5 => by
    obtain ⟨dL, hm, hn1⟩ := List.any_eq_true.mp hrec
    have hn2 : dL.name = d.name := beq_iff_eq.mp hn1
    obtain ⟨a', o', fd', c', P', h1, h2, h3, h4, h5, h6⟩ := G.T.tab dL hm
    rw [hn2, hmg] at h1
    cases h1
    have g1 := KX _ _ k1
    rw [g1] at h2
    cases h2
    rw [k2] at h3
    cases h3
    rw [k3] at h4
    cases h4
    obtain ⟨⟨oc, vc, e1, _, e3, e4⟩, hP⟩ := h6
    have g2 := KX _ _ k4
    rw [g2] at e1
    cases e1
    cases e3
    rw [k5] at e4
    cases e4
    exact hP
  obtain ⟨fd, cs, sp, hT, nT, C, hb, hsp, hF⟩ := F' own
  exact LamX.law_callTs KX G.T.g G.T.b G.T.builtins G.T.nolimit hg hT nT C G.T.bmain hobj hints (Nat.le_trans hlen hn2) hr hF hb (fun H hH hS => hsp H a ns hlen hbits hH hS) fun H e s' => hCX H s₁ e s'
theorem cdhd {K : PySem.W.Frag} {c P : Addr} (h : PySem.W.codeHdIn K c P = true) : ∃ (e : Value) (dd : Option Addr) (vs : Array Value) (sl : Array (Option Value)), K.lookup c = some ⟨e, dd, .fields vs, sl⟩ ∧ vs[11]? = some (.ref P) := by
  unfold PySem.W.codeHdIn at h
  split at h
  · rename_i vs _ hk
    simp only [Bool.and_eq_true] at h
    obtain ⟨⟨⟨⟨⟨e1, _⟩, _⟩, _⟩, _⟩, _⟩ := h
    split at e1
    · rename_i P' h11
      have hP : P' = P := beq_iff_eq.mp e1
      subst hP
      exact ⟨_, _, vs, _, hk, h11⟩
    · cases e1
  · cases h
end N1
open PySem PySem.W PySem.Calls PyProof.Rows
theorem PySem.Challenge.cw_onelongturn_k90_texts_written_and_read_holds : PySem.Challenge.rw_onelongturn_k90_texts_written_and_read.Holds := by
  w_on; o_law
  refine HandSHeadRun.head_any (r := OpenLaw.row PySem.Challenge.rw_onelongturn_k90_texts_written_and_read) (q := view (OpenLaw.row PySem.Challenge.rw_onelongturn_k90_texts_written_and_read).prog [98]) (H := N1.hookB) (ob := N1.obT) (M := 30000) (loose := N1.loose) (d := HandSHeadRun.topDef (OpenLaw.row PySem.Challenge.rw_onelongturn_k90_texts_written_and_read).prog 98) (kwd := []) N1.obT_eq
    (by kernel_rfl) (fun s => by kernel_rfl) N1.runE (by kernel_rfl) (by kernel_rfl) (by kernel_rfl) (by rfl) (by first | assumption | decide +kernel) (by decide +kernel) ⟨rfl, rfl, rfl, rfl, rfl, by decide +kernel⟩ ?hw ?hc
  case hw => w_witness2
  case hc =>
    refine N1.walk_ofEO (l := PySem.Challenge.rw_onelongturn_k90_texts_written_and_read) (n := 63) (k := 14) (x := "_law_script") (CX := L2.CX0) rfl (by decide) (by kernel_rfl) ⟨rfl, by decide, by decide⟩ (by kernel_rfl) ?F (fun _ _ _ _ z => z)
    intro w mg fa h Y G hmg0
    obtain ⟨K, KX, c⟩ := Y
    have hmg : mg ("law" : PySem.Str) = some (.ref fa) := by
      have e : (HandSHeadRun.topDef (OpenLaw.row PySem.Challenge.rw_onelongturn_k90_texts_written_and_read).prog 98).name = ("law" : PySem.Str) := by kernel_rfl
      rw [← e]
      exact hmg0
    have T := N1.fx_of KX G c
    obtain ⟨fd, F⟩ := T.f_law
    have efa : fa = N1.ga K "law" := by
      have := hmg.symm.trans (T.glo "law" (by decide +kernel))
      exact Value.ref.inj (Option.some.inj this)
    subst efa
    have b := L2.FunD.bindsA (ps := ["_law_script"]) F fun _ _ _ _ _ _ us hl => match us, hl with | [_], _ => rfl
    refine ⟨K, KX, fun own => ?_⟩
    obtain ⟨oc, od, dV, kV, doc, pm, an, ct, osl, efd, lk, hcd⟩ := N1.cod_of F
    obtain ⟨e, dd, vs, sl, h1, h2⟩ := N1.cdhd T.cdL
    have hP := own _ _ _ fd e dd vs sl lk rfl (by rw [efd]) h1 h2
    exact ⟨fd, [(N1.cod K (N1.ga K "law"), N1.tblK K (N1.ga K "law"))], N1.spLaw K, fun p hp => by rw [List.mem_singleton.mp hp]; exact hP, fun p hp => by rw [List.mem_singleton.mp hp]; exact T.nTb.1, fun p hp => by rw [List.mem_singleton.mp hp]; exact PySem.W.codeHd_of_K KX T.cdL,
      fun s u => b s [u] rfl, fun H a ns hl _ hTb hS => ⟨a, ns, rfl, hS, hTb _ (List.mem_singleton.mpr rfl), fun _ => rfl⟩, fun base _ _ hTB => N1.ok_law T F (hTB _ (List.mem_singleton.mpr rfl))⟩
