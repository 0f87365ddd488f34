import PyProof.Rows.All
import Wide.All
import OpenK.AllK
import Wide.FinOn
import HandS.Property
import HandS.TryMany
import HandS.Style
import HandS.Defaults
import HandS.HeadHook2
import HandS.HeadNt
import HandS.ListItems
import HandS.Zip
import HandS.ExcField
import HandS.Head0
import HandS.Head1
import HandS.Head2
import HandS.HeadEnd
import KE.KStateDown
import HandS.ForMost
import HandS.ForExc
import HandS.More
import HandS.Star
import HandS.IsInst
import HandS.DictComp
import KE.KOpsOwn
import KE.KOwnIter
import HandS.OwnEq
import PyProof.InstNe
import PyProof.InstEq
import HandS.Nested
import HandS.ClsMeth
import KE.KSuper
import HandS.Dict
import PyProof.DictUpdate
import HandS.MakeKw
import PyProof.Ns1
import HandS.Set
import HandS.SetBool
import HandS.TupSets
import HandS.Strs
import PyProof.Rows.SortShellAny
import PyProof.Rows.SortStr
import HandS.ExcSuper
import HandS.ExcInit
import HandS.IterVal
import HandS.SetFor
import HandS.RaiseMore
import PyProof.Draws
import PyProof.TupleIter
import PyProof.NeKinds
import PyProof.EnumMake
import HandS.Conv
import KE.KRevSl
import HandS.ExcOwn
import HandS.ExcValue
import HandS.ExcIs
import KE.KExcIs
import HandS.Walk
import PyProof.P3Eq
import PyProof.Rows.StrMeet
import HandS.WordsDict
import HandS.WordsExc
import HandS.TupLe
import PySem.Challenge.RW_onelongturn_k76_boards_changed
set_option Elab.async false
set_option linter.all false
set_option maxRecDepth 100000
/-! the text by places -/
namespace N1
open PySem L2
def top (i : Nat) : Stmt := PySem.Challenge.pw_onelongturn_k76_boards_changed.main.body.getD i (.Pass ⟨0, 0, 0, 0⟩)
abbrev d_is_integer : Stmt := top 4
abbrev d_is_between : Stmt := top 5
abbrev d_is_number : Stmt := top 6
abbrev d_is_name : Stmt := top 8
abbrev d_is_row : Stmt := top 9
abbrev m_NoTripInit : Stmt := inClass (top 23) 0
abbrev m_UnbalancedInit : Stmt := inClass (top 26) 0
abbrev m_DayInit : Stmt := inClass (top 32) 1
abbrev m_DayEq : Stmt := inClass (top 32) 8
abbrev m_TripInit : Stmt := inClass (top 36) 1
abbrev m_TripAdd : Stmt := inClass (top 36) 7
abbrev m_TripEq : Stmt := inClass (top 36) 11
abbrev m_RunInit : Stmt := inClass (top 38) 1
abbrev m_RunTimed : Stmt := inClass (top 38) 2
abbrev m_StayInit : Stmt := inClass (top 39) 1
abbrev m_StayTimed : Stmt := inClass (top 39) 2
abbrev d_need_all_trips : Stmt := top 45
abbrev d_places_of : Stmt := top 46
abbrev d_need_few : Stmt := top 47
abbrev d_unbalanced : Stmt := top 48
abbrev m_TableInit : Stmt := inClass (top 49) 0
abbrev m_TableOf : Stmt := inClass (top 49) 1
abbrev m_TableGetitem : Stmt := inClass (top 49) 8
abbrev m_TableContains : Stmt := inClass (top 49) 9
abbrev m_TableEq : Stmt := inClass (top 49) 13
abbrev d_need_names_alone : Stmt := top 50
abbrev m_PausesInit : Stmt := inClass (top 51) 0
abbrev m_PausesOf : Stmt := inClass (top 51) 1
abbrev m_PausesPut : Stmt := inClass (top 51) 3
abbrev m_PausesGetitem : Stmt := inClass (top 51) 6
abbrev m_PausesEq : Stmt := inClass (top 51) 16
abbrev d_need_table : Stmt := top 53
abbrev d_needed_pauses : Stmt := top 54
abbrev d_places_count : Stmt := top 58
abbrev m_BoardInit : Stmt := inClass (top 59) 0
abbrev m_BoardGo_on : Stmt := inClass (top 59) 1
abbrev m_BoardPut : Stmt := inClass (top 59) 2
abbrev m_BoardDrop : Stmt := inClass (top 59) 3
abbrev m_BoardPause : Stmt := inClass (top 59) 4
abbrev m_BoardShift : Stmt := inClass (top 59) 5
abbrev m_BoardNeed_trip : Stmt := inClass (top 59) 6
abbrev m_BoardMinutes : Stmt := inClass (top 59) 7
abbrev m_BoardSet_minutes : Stmt := inClass (top 59) 9
abbrev m_BoardIs_level : Stmt := inClass (top 59) 10
abbrev m_BoardDeeds : Stmt := inClass (top 59) 13
abbrev m_BoardTold_table : Stmt := inClass (top 59) 14
abbrev m_BoardTold_pauses : Stmt := inClass (top 59) 15
abbrev m_BoardUndo : Stmt := inClass (top 59) 16
abbrev m_BoardTwin : Stmt := inClass (top 59) 19
abbrev m_BoardGetitem : Stmt := inClass (top 59) 20
abbrev m_BoardSetitem : Stmt := inClass (top 59) 21
abbrev m_BoardIadd : Stmt := inClass (top 59) 22
abbrev m_BoardIsub : Stmt := inClass (top 59) 23
abbrev m_BoardContains : Stmt := inClass (top 59) 24
abbrev m_BoardLen : Stmt := inClass (top 59) 25
abbrev m_BoardIter : Stmt := inClass (top 59) 26
abbrev w_pen : Stmt := top 61
abbrev w_draw : Stmt := top 62
abbrev w_pick : Stmt := top 63
abbrev w_mixed : Stmt := top 64
abbrev w_names : Stmt := top 65
abbrev w_rows : Stmt := top 66
abbrev w_places : Stmt := top 67
abbrev w_pauses : Stmt := top 68
abbrev w_trip : Stmt := top 69
abbrev w_table : Stmt := top 70
abbrev w_fresh : Stmt := top 71
abbrev w_uneven : Stmt := top 72
abbrev w_later : Stmt := top 73
abbrev w_begun : Stmt := top 74
abbrev w_deed : Stmt := top 75
abbrev w_shows : Stmt := top 76
abbrev w_bare_right : Stmt := top 77
abbrev w_twin_right : Stmt := top 78
abbrev w_right : Stmt := top 79
abbrev d_law : Stmt := top 80
theorem sc_is_integer : FnScope ["value"] ["value"] (defScope d_is_integer) := ⟨rfl, rfl, rfl, by decide +kernel, rfl, by decide +kernel, by decide +kernel⟩
theorem sc_is_between : FnScope ["value", "low", "high"] ["value", "low", "high"] (defScope d_is_between) := ⟨rfl, rfl, rfl, by decide +kernel, rfl, by decide +kernel, by decide +kernel⟩
theorem sc_is_number : FnScope ["value"] ["value"] (defScope d_is_number) := ⟨rfl, rfl, rfl, by decide +kernel, rfl, by decide +kernel, by decide +kernel⟩
theorem sc_is_name : FnScope ["value", "sign"] ["value"] (defScope d_is_name) := ⟨rfl, rfl, rfl, by decide +kernel, rfl, by decide +kernel, by decide +kernel⟩
theorem sc_is_row : FnScope ["value"] ["value"] (defScope d_is_row) := ⟨rfl, rfl, rfl, by decide +kernel, rfl, by decide +kernel, by decide +kernel⟩
theorem sc_DayInit : FnScope ["self", "length"] ["self", "length"] (defScope m_DayInit) := ⟨rfl, rfl, rfl, by decide +kernel, rfl, by decide +kernel, by decide +kernel⟩
theorem sc_DayEq : FnScope ["self", "other"] ["self", "other"] (defScope m_DayEq) := ⟨rfl, rfl, rfl, by decide +kernel, rfl, by decide +kernel, by decide +kernel⟩
theorem sc_TripInit : FnScope ["self", "name", "start", "leaves", "takes", "goal"] ["self", "name", "start", "leaves", "takes", "goal"] (defScope m_TripInit) := ⟨rfl, rfl, rfl, by decide +kernel, rfl, by decide +kernel, by decide +kernel⟩
theorem sc_TripAdd : FnScope ["self", "k"] ["self", "k"] (defScope m_TripAdd) := ⟨rfl, rfl, rfl, by decide +kernel, rfl, by decide +kernel, by decide +kernel⟩
theorem sc_TripEq : FnScope ["self", "other"] ["self", "other"] (defScope m_TripEq) := ⟨rfl, rfl, rfl, by decide +kernel, rfl, by decide +kernel, by decide +kernel⟩
theorem sc_RunTimed : FnScope ["self", "leaves", "takes"] ["self", "leaves", "takes"] (defScope m_RunTimed) := ⟨rfl, rfl, rfl, by decide +kernel, rfl, by decide +kernel, by decide +kernel⟩
theorem sc_StayTimed : FnScope ["self", "leaves", "takes"] ["self", "leaves", "takes"] (defScope m_StayTimed) := ⟨rfl, rfl, rfl, by decide +kernel, rfl, by decide +kernel, by decide +kernel⟩
theorem sc_need_all_trips : FnScope ["values", "at", "value"] ["values"] (defScope d_need_all_trips) := ⟨rfl, rfl, rfl, by decide +kernel, rfl, by decide +kernel, by decide +kernel⟩
theorem sc_places_of : FnScope ["trips", "trip", "place"] ["trips"] (defScope d_places_of) := ⟨rfl, rfl, rfl, by decide +kernel, rfl, by decide +kernel, by decide +kernel⟩
theorem sc_need_few : FnScope ["day", "trips", "trip", "late"] ["day", "trips"] (defScope d_need_few) := ⟨rfl, rfl, rfl, by decide +kernel, rfl, by decide +kernel, by decide +kernel⟩
theorem sc_unbalanced : FnScope ["trips", "place", "trip", "ends"] ["trips"] (defScope d_unbalanced) := ⟨rfl, rfl, rfl, by decide +kernel, rfl, by decide +kernel, by decide +kernel⟩
theorem sc_TableInit : FnScope ["self", "day", "trips", "by_name", "trip", "name", "names", "twice", "place"] ["self", "day", "trips"] (defScope m_TableInit) := ⟨rfl, rfl, rfl, by decide +kernel, rfl, by decide +kernel, by decide +kernel⟩
theorem sc_TableOf : FnScope ["day", "trips"] ["day", "trips"] (defScope m_TableOf) := ⟨rfl, rfl, rfl, by decide +kernel, rfl, by decide +kernel, by decide +kernel⟩
theorem sc_TableGetitem : FnScope ["self", "name"] ["self", "name"] (defScope m_TableGetitem) := ⟨rfl, rfl, rfl, by decide +kernel, rfl, by decide +kernel, by decide +kernel⟩
theorem sc_TableContains : FnScope ["self", "x"] ["self", "x"] (defScope m_TableContains) := ⟨rfl, rfl, rfl, by decide +kernel, rfl, by decide +kernel, by decide +kernel⟩
theorem sc_TableEq : FnScope ["self", "other"] ["self", "other"] (defScope m_TableEq) := ⟨rfl, rfl, rfl, by decide +kernel, rfl, by decide +kernel, by decide +kernel⟩
theorem sc_need_names_alone : FnScope ["places", "key"] ["places"] (defScope d_need_names_alone) := ⟨rfl, rfl, rfl, by decide +kernel, rfl, by decide +kernel, by decide +kernel⟩
theorem sc_PausesInit : FnScope ["this_one", "places", "found", "place"] ["this_one", "places"] (defScope m_PausesInit) := ⟨rfl, rfl, rfl, by decide +kernel, rfl, by decide +kernel, by decide +kernel⟩
theorem sc_PausesOf : FnScope ["places"] ["places"] (defScope m_PausesOf) := ⟨rfl, rfl, rfl, by decide +kernel, rfl, by decide +kernel, by decide +kernel⟩
theorem sc_PausesPut : FnScope ["self", "place", "number", "found"] ["self", "place", "number"] (defScope m_PausesPut) := ⟨rfl, rfl, rfl, by decide +kernel, rfl, by decide +kernel, by decide +kernel⟩
theorem sc_PausesGetitem : FnScope ["self", "place"] ["self", "place"] (defScope m_PausesGetitem) := ⟨rfl, rfl, rfl, by decide +kernel, rfl, by decide +kernel, by decide +kernel⟩
theorem sc_PausesEq : FnScope ["self", "other"] ["self", "other"] (defScope m_PausesEq) := ⟨rfl, rfl, rfl, by decide +kernel, rfl, by decide +kernel, by decide +kernel⟩
theorem sc_need_table : FnScope ["table"] ["table"] (defScope d_need_table) := ⟨rfl, rfl, rfl, by decide +kernel, rfl, by decide +kernel, by decide +kernel⟩
theorem sc_needed_pauses : FnScope ["pauses"] ["pauses"] (defScope d_needed_pauses) := ⟨rfl, rfl, rfl, by decide +kernel, rfl, by decide +kernel, by decide +kernel⟩
theorem sc_places_count : FnScope ["trips", "trip", "place"] ["trips"] (defScope d_places_count) := ⟨rfl, rfl, rfl, by decide +kernel, rfl, by decide +kernel, by decide +kernel⟩
theorem sc_BoardInit : FnScope ["self", "table", "pauses", "name"] ["self", "table", "pauses"] (defScope m_BoardInit) := ⟨rfl, rfl, rfl, by decide +kernel, rfl, by decide +kernel, by decide +kernel⟩
theorem sc_BoardGo_on : FnScope ["self", "day", "pauses", "trips", "one", "name"] ["self", "day", "pauses", "trips"] (defScope m_BoardGo_on) := ⟨rfl, rfl, rfl, by decide +kernel, rfl, by decide +kernel, by decide +kernel⟩
theorem sc_BoardPut : FnScope ["self", "trip", "later"] ["self", "trip"] (defScope m_BoardPut) := ⟨rfl, rfl, rfl, by decide +kernel, rfl, by decide +kernel, by decide +kernel⟩
theorem sc_BoardDrop : FnScope ["self", "name", "one"] ["self", "name"] (defScope m_BoardDrop) := ⟨rfl, rfl, rfl, by decide +kernel, rfl, by decide +kernel, by decide +kernel⟩
theorem sc_BoardPause : FnScope ["self", "place", "number"] ["self", "place", "number"] (defScope m_BoardPause) := ⟨rfl, rfl, rfl, by decide +kernel, rfl, by decide +kernel, by decide +kernel⟩
theorem sc_BoardShift : FnScope ["self", "k", "later", "name", "trip"] ["self", "k"] (defScope m_BoardShift) := ⟨rfl, rfl, rfl, by decide +kernel, rfl, by decide +kernel, by decide +kernel⟩
theorem sc_BoardNeed_trip : FnScope ["self", "name"] ["self", "name"] (defScope m_BoardNeed_trip) := ⟨rfl, rfl, rfl, by decide +kernel, rfl, by decide +kernel, by decide +kernel⟩
theorem sc_BoardMinutes : FnScope ["self"] ["self"] (defScope m_BoardMinutes) := ⟨rfl, rfl, rfl, by decide +kernel, rfl, by decide +kernel, by decide +kernel⟩
theorem sc_BoardSet_minutes : FnScope ["self", "value", "day", "name"] ["self", "value"] (defScope m_BoardSet_minutes) := ⟨rfl, rfl, rfl, by decide +kernel, rfl, by decide +kernel, by decide +kernel⟩
theorem sc_BoardIs_level : FnScope ["self", "trips", "trip"] ["self"] (defScope m_BoardIs_level) := ⟨rfl, rfl, rfl, by decide +kernel, rfl, by decide +kernel, by decide +kernel⟩
theorem sc_BoardDeeds : FnScope ["self"] ["self"] (defScope m_BoardDeeds) := ⟨rfl, rfl, rfl, by decide +kernel, rfl, by decide +kernel, by decide +kernel⟩
theorem sc_BoardTold_table : FnScope ["self"] ["self"] (defScope m_BoardTold_table) := ⟨rfl, rfl, rfl, by decide +kernel, rfl, by decide +kernel, by decide +kernel⟩
theorem sc_BoardTold_pauses : FnScope ["self"] ["self"] (defScope m_BoardTold_pauses) := ⟨rfl, rfl, rfl, by decide +kernel, rfl, by decide +kernel, by decide +kernel⟩
theorem sc_BoardUndo : FnScope ["self"] ["self"] (defScope m_BoardUndo) := ⟨rfl, rfl, rfl, by decide +kernel, rfl, by decide +kernel, by decide +kernel⟩
theorem sc_BoardTwin : FnScope ["self", "found"] ["self"] (defScope m_BoardTwin) := ⟨rfl, rfl, rfl, by decide +kernel, rfl, by decide +kernel, by decide +kernel⟩
theorem sc_BoardGetitem : FnScope ["self", "at"] ["self", "at"] (defScope m_BoardGetitem) := ⟨rfl, rfl, rfl, by decide +kernel, rfl, by decide +kernel, by decide +kernel⟩
theorem sc_BoardSetitem : FnScope ["self", "at", "worth"] ["self", "at", "worth"] (defScope m_BoardSetitem) := ⟨rfl, rfl, rfl, by decide +kernel, rfl, by decide +kernel, by decide +kernel⟩
theorem sc_BoardIadd : FnScope ["self", "other"] ["self", "other"] (defScope m_BoardIadd) := ⟨rfl, rfl, rfl, by decide +kernel, rfl, by decide +kernel, by decide +kernel⟩
theorem sc_BoardIsub : FnScope ["self", "other"] ["self", "other"] (defScope m_BoardIsub) := ⟨rfl, rfl, rfl, by decide +kernel, rfl, by decide +kernel, by decide +kernel⟩
theorem sc_BoardContains : FnScope ["self", "x"] ["self", "x"] (defScope m_BoardContains) := ⟨rfl, rfl, rfl, by decide +kernel, rfl, by decide +kernel, by decide +kernel⟩
theorem sc_BoardLen : FnScope ["self"] ["self"] (defScope m_BoardLen) := ⟨rfl, rfl, rfl, by decide +kernel, rfl, by decide +kernel, by decide +kernel⟩
theorem sc_BoardIter : FnScope ["self"] ["self"] (defScope m_BoardIter) := ⟨rfl, rfl, rfl, by decide +kernel, rfl, by decide +kernel, by decide +kernel⟩
theorem sc_pen : FnScope ["_law_script"] ["_law_script"] (defScope w_pen) := ⟨rfl, rfl, rfl, by decide +kernel, rfl, by decide +kernel, by decide +kernel⟩
theorem sc_draw : FnScope ["_law_pen_here", "_law_many", "_law_digit", "_law_lap", "_law_cell", "_law_great", "_law_stir"] ["_law_pen_here", "_law_many"] (defScope w_draw) := ⟨rfl, rfl, rfl, by decide +kernel, rfl, by decide +kernel, by decide +kernel⟩
theorem sc_pick : FnScope ["_law_pen_here", "_law_some"] ["_law_pen_here", "_law_some"] (defScope w_pick) := ⟨rfl, rfl, rfl, by decide +kernel, rfl, by decide +kernel, by decide +kernel⟩
theorem sc_mixed : FnScope ["_law_pen_here", "_law_some", "_law_left", "_law_found"] ["_law_pen_here", "_law_some"] (defScope w_mixed) := ⟨rfl, rfl, rfl, by decide +kernel, rfl, by decide +kernel, by decide +kernel⟩
theorem sc_names : FnScope ["_law_pen_here", "_law_many", "_law_some", "_law_sign"] ["_law_pen_here", "_law_many"] (defScope w_names) := ⟨rfl, rfl, rfl, by decide +kernel, rfl, by decide +kernel, by decide +kernel⟩
theorem sc_rows : FnScope ["_law_pen_here", "_law_length", "_law_many", "_law_names_here", "_law_found", "_law_places_here", "_law_k", "_law_ring", "_law_kind", "_law_takes", "_law_leaves"] ["_law_pen_here", "_law_length", "_law_many"] (defScope w_rows) := ⟨rfl, rfl, rfl, by decide +kernel, rfl, by decide +kernel, by decide +kernel⟩
theorem sc_places : FnScope ["_law_rows_here", "_law_name"] ["_law_rows_here"] (defScope w_places) := ⟨rfl, rfl, rfl, by decide +kernel, rfl, by decide +kernel, by decide +kernel⟩
theorem sc_pauses : FnScope ["_law_pen_here", "_law_rows_here", "_law_length", "_law_found", "_law_place", "_law_number"] ["_law_pen_here", "_law_rows_here", "_law_length"] (defScope w_pauses) := ⟨rfl, rfl, rfl, by decide +kernel, rfl, by decide +kernel, by decide +kernel⟩
theorem sc_trip : FnScope ["_law_name", "_law_row", "_law_kind", "_law_start", "_law_leaves", "_law_takes", "_law_goal"] ["_law_name", "_law_row"] (defScope w_trip) := ⟨rfl, rfl, rfl, by decide +kernel, rfl, by decide +kernel, by decide +kernel⟩
theorem sc_table : FnScope ["_law_rows_here", "_law_length", "_law_name"] ["_law_rows_here", "_law_length"] (defScope w_table) := ⟨rfl, rfl, rfl, by decide +kernel, rfl, by decide +kernel, by decide +kernel⟩
theorem sc_fresh : FnScope ["_law_pen_here", "_law_length", "_law_rows_here", "_law_one", "_law_name", "_law_start", "_law_goal", "_law_kind"] ["_law_pen_here", "_law_length", "_law_rows_here"] (defScope w_fresh) := ⟨rfl, rfl, rfl, by decide +kernel, rfl, by decide +kernel, by decide +kernel⟩
theorem sc_uneven : FnScope ["_law_rows_here", "_law_name", "_law_starts", "_law_goals", "_law_place", "_law_some"] ["_law_rows_here"] (defScope w_uneven) := ⟨rfl, rfl, rfl, by decide +kernel, rfl, by decide +kernel, by decide +kernel⟩
theorem sc_later : FnScope ["_law_rows_here", "_law_length", "_law_by", "_law_found", "_law_name", "_law_kind", "_law_start", "_law_leaves", "_law_takes", "_law_goal"] ["_law_rows_here", "_law_length", "_law_by"] (defScope w_later) := ⟨rfl, rfl, rfl, by decide +kernel, rfl, by decide +kernel, by decide +kernel⟩
theorem sc_begun : FnScope ["_law_pen_here", "_law_length", "_law_rows_here"] ["_law_pen_here"] (defScope w_begun) := ⟨rfl, rfl, rfl, by decide +kernel, rfl, by decide +kernel, by decide +kernel⟩
theorem sc_deed : FnScope ["_law_pen_here", "_law_board", "_law_state", "_law_length", "_law_rows_here", "_law_found", "_law_way", "_law_name", "_law_row", "_law_one", "_law_place", "_law_number", "_law_by", "_law_most"] ["_law_pen_here", "_law_board", "_law_state"] (defScope w_deed) := ⟨rfl, rfl, rfl, by decide +kernel, rfl, by decide +kernel, by decide +kernel⟩
theorem sc_shows : FnScope ["_law_board", "_law_state", "_law_name", "_law_rows_here", "_law_names_here"] ["_law_board", "_law_state"] (defScope w_shows) := ⟨rfl, rfl, rfl, by decide +kernel, rfl, by decide +kernel, by decide +kernel⟩
theorem sc_bare_right : FnScope ["_law_board", "_law_state", "_law_wrong", "_law_caught", "error"] ["_law_board", "_law_state"] (defScope w_bare_right) := ⟨rfl, rfl, rfl, by decide +kernel, rfl, by decide +kernel, by decide +kernel⟩
theorem sc_twin_right : FnScope ["_law_pen_here", "_law_board", "_law_state", "_law_twin", "_law_deeds", "_law_later_here"] ["_law_pen_here", "_law_board", "_law_state"] (defScope w_twin_right) := ⟨rfl, rfl, rfl, by decide +kernel, rfl, by decide +kernel, by decide +kernel⟩
theorem sc_right : FnScope ["_law_pen_here", "_law_state", "_law_table_here", "_law_board", "_law_turn"] ["_law_pen_here"] (defScope w_right) := ⟨rfl, rfl, rfl, by decide +kernel, rfl, by decide +kernel, by decide +kernel⟩
theorem sc_law : FnScope ["_law_script", "_law_pen_here", "_law_turn", "_law_board", "_law_same"] ["_law_script"] (defScope d_law) := ⟨rfl, rfl, rfl, by decide +kernel, rfl, by decide +kernel, by decide +kernel⟩
end N1
/-! what the head tells: FX -/
namespace N1
open PySem L2
abbrev ga := He.ga
abbrev ma := He.ma
def glL0 : List Str := ["is_integer", "is_between", "is_number", "is_name", "is_row", "need_all_trips", "places_of", "need_few", "unbalanced", "need_names_alone", "need_table", "needed_pauses", "places_count", "_law_pen", "_law_draw", "_law_pick", "_law_mixed", "_law_names", "_law_rows", "_law_places", "_law_pauses", "_law_trip", "_law_table", "_law_fresh", "_law_uneven", "_law_later", "_law_begun", "_law_deed", "_law_shows", "_law_bare_right"]
def glL1 : List Str := ["_law_twin_right", "_law_right", "law", "Day", "Trip", "Run", "Stay", "Table", "Pauses", "Board", "NoTrip", "TurnError", "Unbalanced"]
def glL : List Str := glL0 ++ glL1
def frL0 : List Str := ["isinstance", "int", "bool", "str", "len", "all", "abs", "list", "tuple", "dict", "sorted", "set", "enumerate", "max", "min", "range", "repr", "super", "iter"]
def frL : List Str := frL0
def inL : List (Str × Int) := [("MOST_NUMBER", 1000000000000), ("MOST_LENGTH", 1000000000000), ("MOST_TRIPS_tables", 40), ("MOST_PLACES_tables", 8), ("MOST_TRIPS_board", 40), ("MOST_PLACES_board", 8)]
def clL : List Str := ["Day", "Run", "Stay", "Table", "Pauses", "Board"]
def naL0 : List (Str × Str) := [("Day", "length"), ("Run", "name"), ("Run", "start"), ("Run", "leaves"), ("Run", "takes"), ("Run", "goal"), ("Stay", "name"), ("Stay", "start"), ("Stay", "leaves"), ("Stay", "takes"), ("Stay", "goal"), ("Table", "day"), ("Table", "names"), ("Table", "places"), ("Table", "rows"), ("Pauses", "numbers"), ("Pauses", "rows"), ("Board", "own_pauses"), ("Board", "own_day"), ("Board", "own_trips"), ("Board", "past")]
def naL : List (Str × Str) := naL0
def meL0 : List (Str × Str) := [("Day", "__eq__"), ("Run", "timed"), ("Run", "__add__"), ("Run", "__eq__"), ("Stay", "timed"), ("Stay", "__add__"), ("Stay", "__eq__"), ("Table", "__getitem__"), ("Table", "__contains__"), ("Table", "__eq__"), ("Pauses", "put"), ("Pauses", "__getitem__"), ("Pauses", "__eq__"), ("Board", "go_on"), ("Board", "put"), ("Board", "drop"), ("Board", "pause"), ("Board", "shift"), ("Board", "need_trip"), ("Board", "set_minutes"), ("Board", "told_table"), ("Board", "told_pauses"), ("Board", "undo"), ("Board", "twin"), ("Board", "__getitem__"), ("Board", "__setitem__"), ("Board", "__iadd__"), ("Board", "__isub__"), ("Board", "__contains__"), ("Board", "__len__")]
def meL1 : List (Str × Str) := [("Board", "__iter__")]
def meL : List (Str × Str) := meL0 ++ meL1
def mkL : List Str := ["Day", "Run", "Stay", "Table", "Pauses", "Board"]
/-- the def st stands at f -/
def IsDef (K : PySem.W.Frag) (f : Addr) (x qual : Str) (st : Stmt) (dvs : List V) : Prop := ∃ fd, FunD K x qual (defArgs st) (defBody st) (defScope st) dvs [] f fd
/-- the static method's record and def -/
abbrev st_ (K : PySem.W.Frag) (C m : Str) : Addr := He5.wf K (ga K C) "staticmethod" m
/-- a property's record, its getter -/
def pr_ (K : PySem.W.Frag) (C m : Str) : Addr := match PySem.W.recIn K (ma K (ga K C) m) "property" with
  | some (.ref g :: _) => g
  | _ => 0
/-- the cell of __class__ of the def at f, its code -/
def cel (K : PySem.W.Frag) (f : Addr) : Addr := match K.lookup f with
  | some ⟨_, _, .func fd, _⟩ => (match fd.closure with
    | (_, c) :: _ => c
    | _ => 0)
  | _ => 0
def cod (K : PySem.W.Frag) (f : Addr) : Addr := match K.lookup f with
  | some ⟨_, _, .func fd, _⟩ => (match fd.code with
    | .ref c => c
    | _ => 0)
  | _ => 0
abbrev ini (K : PySem.W.Frag) (C : Str) : Addr := ma K (ga K C) "__init__"
end N1
set_option maxHeartbeats 0
namespace N1
open PySem PySem.Spec PyProof.Rows L2 He
abbrev PR : Program := (PySem.Challenge.rw_onelongturn_k76_boards_changed).prog
def refF (g : Addr → Option Obj) (a : Addr) : List Addr := match g a with
  | some o => refsD o
  | none => []
def lev (g : Addr → Option Obj) : Nat → List Addr → List Addr
  | 0, _ => []
  | n + 1, l => l ++ lev g n (l.flatMap (refF g))
def rootL : List Str := glL0 ++ (glL1 ++ (["Refused"] : List Str))
def rootsB (g : Addr → Option Obj) : List Addr := rootL.map fun x => ga (frG g [mainGlobals]) x
def asB (g : Addr → Option Obj) : List Addr := mainGlobals :: cStatics :: lev g 5 (rootsB g)
def eqB (a b : Option Bool) : Bool := decide (a = b)
def eqV1 (a b : Option Value) : Bool := decide (a = b)
def isiB (K : PySem.W.Frag) (C D : Addr) : Bool := eqO (PySem.W.findIn K (.ref C) "__class__") (some (some (.builtin "object.__class__"))) && (eqB (PySem.W.mroIn K C (.type "object")) (some true) && eqB (PySem.W.kitOne K (.ref C) (.ref D)) (some true))
def conB (K : PySem.W.Frag) (C : Addr) (f z : Str) : Bool := (match PySem.W.findIn K (.ref C) f with
  | some (some (.str y t)) => decide (y = z) && eqO (PySem.W.specialIn K (.str y t) "__get__") (some none)
  | _ => false) && !PySem.W.copiedNames.contains f
def neB (K : PySem.W.Frag) (x : Str) : Bool := eqO (PySem.W.findIn K (.ref (ga K x)) "__ne__") (some (some (.builtin "object.__ne__"))) && eqB (PySem.W.subIn K (.ref (ga K x)) (.type "object")) (some true)
def crB (K : PySem.W.Frag) (C : Addr) : Bool := PySem.W.readsIn K C (.type "type") && eqO (PySem.W.specialIn K (.ref C) "__getattribute__") (some (some (.builtin "type.__getattribute__")))
def staB (K : PySem.W.Frag) (C : Addr) (m : Str) : Bool := He5.wrapB K C "staticmethod" "staticmethod.__get__" m && PySem.W.keepIn K (.ref (He5.wf K C "staticmethod" m))
def proB (K : PySem.W.Frag) (C m : Str) : Bool := eqO (PySem.W.findIn K (.ref (ga K C)) m) (some (some (.ref (ma K (ga K C) m)))) && (eqO (PySem.W.specialIn K (.ref (ma K (ga K C) m)) "__get__") (some (some (.builtin "property.__get__"))) && (eqB (PySem.W.takesIn K (.ref (ma K (ga K C) m))) (some true) &&
  (match PySem.W.recIn K (ma K (ga K C) m) "property" with
  | some (.ref _ :: _) => true
  | _ => false)))
def fnS (K : PySem.W.Frag) (a : Addr) : FnW := match K.lookup a with
  | some ⟨_, _, .func fd, _⟩ => some (fd.name, fd.qualname, fd.params, fd.body, fd.scope, fd.globals, fd.closure.map (fun q => (q.1, 0)), fd.builtins)
  | _ => none
def supV (name qual : Str) (params : Arguments) (body : List Stmt) (scope : Scope) : FnW := some (name, qual, params, .stmts body, scope, mainGlobals, [("__class__", 0)], builtinsNs)
def fileB (K : PySem.W.Frag) (c : Addr) (z : Str) : Bool := match K.lookup c with
  | some ⟨_, _, .fields vs, _⟩ => (match (vs[2]? : Option Value) with
    | some (Value.str file _) => z == file
    | _ => false)
  | _ => false
def cellB (K : PySem.W.Frag) (c D : Addr) : Bool := match K.lookup c with
  | some ⟨_, _, .cell (some (.ref D')), _⟩ => decide (D' = D)
  | _ => false
def supB (K : PySem.W.Frag) (f D : Addr) (qual file : Str) : Bool := (match K.lookup f with
  | some ⟨_, _, .func fd, _⟩ => (match fd.defaults with
    | .none => true
    | _ => false) && (match fd.code with
    | .ref c => PySem.W.codeIn K (.ref c) qual && fileB K c file
    | _ => false) && (match fd.closure with
    | [(_, c)] => cellB K c D
    | _ => false)
  | _ => false) && (PySem.W.keepIn K (.ref f) && (PySem.W.clsIn K D).isSome)
def oexB (K : PySem.W.Frag) (C : Addr) : Bool := (match K.lookup C with
  | some ⟨.type "type", _, .cls cd, sl⟩ => (match cd.mro, sl.toList with
    | .ref C' :: bm, [_, _, _, _, some (.builtin n), _] => C' == C && n == "ValueError.__new__" && !cd.hasDel && cd.hasDict && PySem.HandSPX.refsVE bm
    | _, _ => false)
  | _ => false) && (eqO (PySem.W.findIn K (.ref C) "__setattr__") (some (some (.builtin "object.__setattr__"))) && (eqB (PySem.W.subIn K (.ref C) (.type "BaseException")) (some true) && (eqV1 (PySem.W.typeIn K (.ref C)) (some (.type "type")) && PySem.W.keepIn K (.ref C))))
def b_glo (K : PySem.W.Frag) : Bool := glL.all fun x => (Fa.glo x).ok K && PySem.W.keepIn K (.ref (ga K x))
def b_fre (K : PySem.W.Frag) : Bool := frL.all fun x => (Fa.free x).ok K
def b_int (K : PySem.W.Frag) : Bool := inL.all fun q => (Fa.int q.1 q.2).ok K
def b_let (K : PySem.W.Frag) : Bool := (Fa.str "LETTERS" "abcdefghijklmnopqrstuvwxyz").ok K
def b_cls (K : PySem.W.Frag) : Bool := clL.all fun x => (Fa.cls x).ok K
def b_noa (K : PySem.W.Frag) : Bool := naL.all fun q => (Fa.noat q.1 q.2).ok K
def b_met (K : PySem.W.Frag) : Bool := meL.all fun q => (Fa.meth q.1 q.2).ok K
def b_mkr (K : PySem.W.Frag) : Bool := mkL.all fun x => (Fa.mkr x).ok K
def b_gcn (K : PySem.W.Frag) : Bool := eqO (PySem.W.specialIn K (.builtin "object.__class__") "__get__") (some (some (.builtin "getset_descriptor.__get__"))) && eqB (PySem.W.takesIn K (.builtin "object.__class__")) (some true)
def b_isR (K : PySem.W.Frag) : Bool := isiB K (ga K "Run") (ga K "Trip")
def b_isS (K : PySem.W.Frag) : Bool := isiB K (ga K "Stay") (ga K "Trip")
def b_isD (K : PySem.W.Frag) : Bool := isiB K (ga K "Day") (ga K "Day")
def b_isT (K : PySem.W.Frag) : Bool := isiB K (ga K "Table") (ga K "Table")
def b_isP (K : PySem.W.Frag) : Bool := isiB K (ga K "Pauses") (ga K "Pauses")
def b_isU (K : PySem.W.Frag) : Bool := isiB K (ga K "Unbalanced") (ga K "Unbalanced")
def b_woR (K : PySem.W.Frag) : Bool := conB K (ga K "Run") "WORD" "run"
def b_woS (K : PySem.W.Frag) : Bool := conB K (ga K "Stay") "WORD" "stay"
def b_neq (K : PySem.W.Frag) : Bool := (["Day", "Run", "Stay", "Table", "Pauses"] : List Str).all fun x => neB K x
def b_sfR (K : PySem.W.Frag) : Bool := PySem.W.selfFirst K (ga K "Run") && eqO (PySem.W.findIn K (.ref (ga K "Run")) "__radd__") (some none)
def b_sfS (K : PySem.W.Frag) : Bool := PySem.W.selfFirst K (ga K "Stay") && eqO (PySem.W.findIn K (.ref (ga K "Stay")) "__radd__") (some none)
def b_sfB (K : PySem.W.Frag) : Bool := PySem.W.selfFirst K (ga K "Board") && PySem.W.noSeq K (ga K "Board")
def b_nsq (K : PySem.W.Frag) : Bool := PySem.W.fnIn K (ma K (ga K "Board") "__getitem__") && (PySem.W.fnIn K (ma K (ga K "Table") "__getitem__") && PySem.W.fnIn K (ma K (ga K "Pauses") "__getitem__"))
def b_iad (K : PySem.W.Frag) : Bool := (PySem.W.findIn K (.type "int") "__add__").isSome
def b_ira (K : PySem.W.Frag) : Bool := (PySem.W.findIn K (.type "int") "__radd__").isSome
def b_isu (K : PySem.W.Frag) : Bool := (["Run", "Stay"] : List Str).all fun x => eqB (PySem.W.subIn K (.type "int") (.ref (ga K x))) (some false)
def b_crT (K : PySem.W.Frag) : Bool := crB K (ga K "Table")
def b_crP (K : PySem.W.Frag) : Bool := crB K (ga K "Pauses")
def b_stT (K : PySem.W.Frag) : Bool := staB K (ga K "Table") "of"
def b_stP (K : PySem.W.Frag) : Bool := staB K (ga K "Pauses") "of"
def b_prM (K : PySem.W.Frag) : Bool := proB K "Board" "minutes"
def b_prL (K : PySem.W.Frag) : Bool := proB K "Board" "is_level"
def b_prD (K : PySem.W.Frag) : Bool := proB K "Board" "deeds"
def b_opq (K : PySem.W.Frag) : Bool := eqO (PySem.W.nsIn K cStatics "thirdparty.any") (some none)
def b_suR (K : PySem.W.Frag) : Bool := supB K (ini K "Run") (ga K "Run") "Run.__init__" PR.main.file
def b_suS (K : PySem.W.Frag) : Bool := supB K (ini K "Stay") (ga K "Stay") "Stay.__init__" PR.main.file
def b_suN (K : PySem.W.Frag) : Bool := supB K (ini K "NoTrip") (ga K "NoTrip") "NoTrip.__init__" PR.main.file
def b_suU (K : PySem.W.Frag) : Bool := supB K (ini K "Unbalanced") (ga K "Unbalanced") "Unbalanced.__init__" PR.main.file
def b_siR (K : PySem.W.Frag) : Bool := eqO (PySem.W.ks_superIn K (ga K "Run") (ga K "Run") "__init__") (some (some (.ref (ini K "Trip")))) && (eqB (PySem.W.mroIn K (ga K "Run") (.ref (ga K "Run"))) (some true) && (PySem.W.clsIn K (ga K "Run")).isSome)
def b_siS (K : PySem.W.Frag) : Bool := eqO (PySem.W.ks_superIn K (ga K "Stay") (ga K "Stay") "__init__") (some (some (.ref (ini K "Trip")))) && (eqB (PySem.W.mroIn K (ga K "Stay") (.ref (ga K "Stay"))) (some true) && (PySem.W.clsIn K (ga K "Stay")).isSome)
def b_siN (K : PySem.W.Frag) : Bool := eqO (PySem.W.ks_superIn K (ga K "NoTrip") (ga K "NoTrip") "__init__") (some (some (.builtin "ValueError.__init__"))) && (eqB (PySem.W.mroIn K (ga K "NoTrip") (.ref (ga K "NoTrip"))) (some true) && eqB (PySem.W.mroIn K (ga K "NoTrip") (.type "ValueError")) (some true))
def b_siU (K : PySem.W.Frag) : Bool := eqO (PySem.W.ks_superIn K (ga K "Unbalanced") (ga K "Unbalanced") "__init__") (some (some (.builtin "ValueError.__init__"))) && (eqB (PySem.W.mroIn K (ga K "Unbalanced") (.ref (ga K "Unbalanced"))) (some true) && eqB (PySem.W.mroIn K (ga K "Unbalanced") (.type "ValueError")) (some true))
def b_fnT (K : PySem.W.Frag) : Bool := eqV1 (PySem.W.typeIn K (.ref (ini K "Trip"))) (some (.type "function")) && PySem.W.fnIn K (ini K "Trip")
def b_oex (K : PySem.W.Frag) : Bool := oexB K (ga K "NoTrip")
def b_oexU (K : PySem.W.Frag) : Bool := oexB K (ga K "Unbalanced")
def b_oeI (K : PySem.W.Frag) : Bool := eqO (PySem.W.findIn K (.ref (ga K "NoTrip")) "__init__") (some (some (.ref (ini K "NoTrip")))) && eqV1 (PySem.W.typeIn K (.ref (ini K "NoTrip"))) (some (.type "function"))
def b_oeIU (K : PySem.W.Frag) : Bool := eqO (PySem.W.findIn K (.ref (ga K "Unbalanced")) "__init__") (some (some (.ref (ini K "Unbalanced")))) && eqV1 (PySem.W.typeIn K (.ref (ini K "Unbalanced"))) (some (.type "function"))
def b_oeN (K : PySem.W.Frag) : Bool := eqO (PySem.W.findIn K (.ref (ga K "NoTrip")) "name") (some none)
def b_oeNU (K : PySem.W.Frag) : Bool := eqO (PySem.W.findIn K (.ref (ga K "Unbalanced")) "place") (some none)
def b_tmE (K : PySem.W.Frag) : Bool := (["Run", "Stay"] : List Str).all fun x => decide (ma K (ga K x) "__eq__" = ma K (ga K "Trip") "__eq__") && decide (ma K (ga K x) "__add__" = ma K (ga K "Trip") "__add__")
def b_exm (K : PySem.W.Frag) : Bool := eqB (PySem.W.exmOne K (.ref (ga K "NoTrip")) (.ref (ga K "NoTrip"))) (some true)
def b_exmU (K : PySem.W.Frag) : Bool := eqB (PySem.W.exmOne K (.ref (ga K "Unbalanced")) (.ref (ga K "TurnError"))) (some true)
def b_xfU (K : PySem.W.Frag) : Bool := xfB K (ga K "Unbalanced")
def fxB : List (PySem.W.Frag → Bool) := [b_glo, b_fre, b_int, b_let, b_cls, b_noa, b_met, b_mkr, b_gcn, b_isR, b_isS, b_isD, b_isT, b_isP, b_isU, b_woR, b_woS, b_neq, b_sfR, b_sfS, b_sfB, b_nsq, b_iad, b_ira, b_isu] ++ [b_crT, b_crP, b_stT, b_stP, b_prM, b_prL, b_prD, b_opq, b_suR, b_suS, b_suN, b_suU, b_siR, b_siS, b_siN, b_siU, b_fnT, b_oex, b_oexU, b_oeI, b_oeIU, b_oeN, b_oeNU, b_tmE, b_exm, b_exmU, b_xfU]
def e_is_integer : He5.DefA := { at_ := fun K => ga K "is_integer", name := "is_integer", qual := "is_integer", params := defArgs d_is_integer, body := defBody d_is_integer, scope := defScope d_is_integer }
def e_is_between : He5.DefA := { at_ := fun K => ga K "is_between", name := "is_between", qual := "is_between", params := defArgs d_is_between, body := defBody d_is_between, scope := defScope d_is_between }
def e_is_number : He5.DefA := { at_ := fun K => ga K "is_number", name := "is_number", qual := "is_number", params := defArgs d_is_number, body := defBody d_is_number, scope := defScope d_is_number }
def e_is_name : He5.DefA := { at_ := fun K => ga K "is_name", name := "is_name", qual := "is_name", params := defArgs d_is_name, body := defBody d_is_name, scope := defScope d_is_name }
def e_is_row : He5.DefA := { at_ := fun K => ga K "is_row", name := "is_row", qual := "is_row", params := defArgs d_is_row, body := defBody d_is_row, scope := defScope d_is_row }
def e_DayInit : He5.DefA := { at_ := fun K => ma K (ga K "Day") "__init__", name := "__init__", qual := "Day.__init__", params := defArgs m_DayInit, body := defBody m_DayInit, scope := defScope m_DayInit }
def e_DayEq : He5.DefA := { at_ := fun K => ma K (ga K "Day") "__eq__", name := "__eq__", qual := "Day.__eq__", params := defArgs m_DayEq, body := defBody m_DayEq, scope := defScope m_DayEq }
def e_TripInit : He5.DefA := { at_ := fun K => ma K (ga K "Trip") "__init__", name := "__init__", qual := "Trip.__init__", params := defArgs m_TripInit, body := defBody m_TripInit, scope := defScope m_TripInit }
def e_TripAdd : He5.DefA := { at_ := fun K => ma K (ga K "Trip") "__add__", name := "__add__", qual := "Trip.__add__", params := defArgs m_TripAdd, body := defBody m_TripAdd, scope := defScope m_TripAdd }
def e_TripEq : He5.DefA := { at_ := fun K => ma K (ga K "Trip") "__eq__", name := "__eq__", qual := "Trip.__eq__", params := defArgs m_TripEq, body := defBody m_TripEq, scope := defScope m_TripEq }
def e_RunTimed : He5.DefA := { at_ := fun K => ma K (ga K "Run") "timed", name := "timed", qual := "Run.timed", params := defArgs m_RunTimed, body := defBody m_RunTimed, scope := defScope m_RunTimed }
def e_StayTimed : He5.DefA := { at_ := fun K => ma K (ga K "Stay") "timed", name := "timed", qual := "Stay.timed", params := defArgs m_StayTimed, body := defBody m_StayTimed, scope := defScope m_StayTimed }
def e_need_all_trips : He5.DefA := { at_ := fun K => ga K "need_all_trips", name := "need_all_trips", qual := "need_all_trips", params := defArgs d_need_all_trips, body := defBody d_need_all_trips, scope := defScope d_need_all_trips }
def e_places_of : He5.DefA := { at_ := fun K => ga K "places_of", name := "places_of", qual := "places_of", params := defArgs d_places_of, body := defBody d_places_of, scope := defScope d_places_of }
def e_need_few : He5.DefA := { at_ := fun K => ga K "need_few", name := "need_few", qual := "need_few", params := defArgs d_need_few, body := defBody d_need_few, scope := defScope d_need_few }
def e_unbalanced : He5.DefA := { at_ := fun K => ga K "unbalanced", name := "unbalanced", qual := "unbalanced", params := defArgs d_unbalanced, body := defBody d_unbalanced, scope := defScope d_unbalanced }
def e_TableInit : He5.DefA := { at_ := fun K => ma K (ga K "Table") "__init__", name := "__init__", qual := "Table.__init__", params := defArgs m_TableInit, body := defBody m_TableInit, scope := defScope m_TableInit }
def e_TableOf : He5.DefA := { at_ := fun K => st_ K "Table" "of", name := "of", qual := "Table.of", params := defArgs m_TableOf, body := defBody m_TableOf, scope := defScope m_TableOf }
def e_TableGetitem : He5.DefA := { at_ := fun K => ma K (ga K "Table") "__getitem__", name := "__getitem__", qual := "Table.__getitem__", params := defArgs m_TableGetitem, body := defBody m_TableGetitem, scope := defScope m_TableGetitem }
def e_TableContains : He5.DefA := { at_ := fun K => ma K (ga K "Table") "__contains__", name := "__contains__", qual := "Table.__contains__", params := defArgs m_TableContains, body := defBody m_TableContains, scope := defScope m_TableContains }
def e_TableEq : He5.DefA := { at_ := fun K => ma K (ga K "Table") "__eq__", name := "__eq__", qual := "Table.__eq__", params := defArgs m_TableEq, body := defBody m_TableEq, scope := defScope m_TableEq }
def e_need_names_alone : He5.DefA := { at_ := fun K => ga K "need_names_alone", name := "need_names_alone", qual := "need_names_alone", params := defArgs d_need_names_alone, body := defBody d_need_names_alone, scope := defScope d_need_names_alone }
def e_PausesInit : He5.DefA := { at_ := fun K => ma K (ga K "Pauses") "__init__", name := "__init__", qual := "Pauses.__init__", params := defArgs m_PausesInit, body := defBody m_PausesInit, scope := defScope m_PausesInit }
def e_PausesOf : He5.DefA := { at_ := fun K => st_ K "Pauses" "of", name := "of", qual := "Pauses.of", params := defArgs m_PausesOf, body := defBody m_PausesOf, scope := defScope m_PausesOf }
def e_PausesPut : He5.DefA := { at_ := fun K => ma K (ga K "Pauses") "put", name := "put", qual := "Pauses.put", params := defArgs m_PausesPut, body := defBody m_PausesPut, scope := defScope m_PausesPut }
def e_PausesGetitem : He5.DefA := { at_ := fun K => ma K (ga K "Pauses") "__getitem__", name := "__getitem__", qual := "Pauses.__getitem__", params := defArgs m_PausesGetitem, body := defBody m_PausesGetitem, scope := defScope m_PausesGetitem }
def e_PausesEq : He5.DefA := { at_ := fun K => ma K (ga K "Pauses") "__eq__", name := "__eq__", qual := "Pauses.__eq__", params := defArgs m_PausesEq, body := defBody m_PausesEq, scope := defScope m_PausesEq }
def e_need_table : He5.DefA := { at_ := fun K => ga K "need_table", name := "need_table", qual := "need_table", params := defArgs d_need_table, body := defBody d_need_table, scope := defScope d_need_table }
def e_needed_pauses : He5.DefA := { at_ := fun K => ga K "needed_pauses", name := "needed_pauses", qual := "needed_pauses", params := defArgs d_needed_pauses, body := defBody d_needed_pauses, scope := defScope d_needed_pauses }
def e_places_count : He5.DefA := { at_ := fun K => ga K "places_count", name := "places_count", qual := "places_count", params := defArgs d_places_count, body := defBody d_places_count, scope := defScope d_places_count }
def e_BoardInit : He5.DefA := { at_ := fun K => ma K (ga K "Board") "__init__", name := "__init__", qual := "Board.__init__", params := defArgs m_BoardInit, body := defBody m_BoardInit, scope := defScope m_BoardInit, dfl := [.non] }
def e_BoardGo_on : He5.DefA := { at_ := fun K => ma K (ga K "Board") "go_on", name := "go_on", qual := "Board.go_on", params := defArgs m_BoardGo_on, body := defBody m_BoardGo_on, scope := defScope m_BoardGo_on }
def e_BoardPut : He5.DefA := { at_ := fun K => ma K (ga K "Board") "put", name := "put", qual := "Board.put", params := defArgs m_BoardPut, body := defBody m_BoardPut, scope := defScope m_BoardPut }
def e_BoardDrop : He5.DefA := { at_ := fun K => ma K (ga K "Board") "drop", name := "drop", qual := "Board.drop", params := defArgs m_BoardDrop, body := defBody m_BoardDrop, scope := defScope m_BoardDrop }
def e_BoardPause : He5.DefA := { at_ := fun K => ma K (ga K "Board") "pause", name := "pause", qual := "Board.pause", params := defArgs m_BoardPause, body := defBody m_BoardPause, scope := defScope m_BoardPause }
def e_BoardShift : He5.DefA := { at_ := fun K => ma K (ga K "Board") "shift", name := "shift", qual := "Board.shift", params := defArgs m_BoardShift, body := defBody m_BoardShift, scope := defScope m_BoardShift }
def e_BoardNeed_trip : He5.DefA := { at_ := fun K => ma K (ga K "Board") "need_trip", name := "need_trip", qual := "Board.need_trip", params := defArgs m_BoardNeed_trip, body := defBody m_BoardNeed_trip, scope := defScope m_BoardNeed_trip }
def e_BoardMinutes : He5.DefA := { at_ := fun K => pr_ K "Board" "minutes", name := "minutes", qual := "Board.minutes", params := defArgs m_BoardMinutes, body := defBody m_BoardMinutes, scope := defScope m_BoardMinutes }
def e_BoardSet_minutes : He5.DefA := { at_ := fun K => ma K (ga K "Board") "set_minutes", name := "set_minutes", qual := "Board.set_minutes", params := defArgs m_BoardSet_minutes, body := defBody m_BoardSet_minutes, scope := defScope m_BoardSet_minutes }
def e_BoardIs_level : He5.DefA := { at_ := fun K => pr_ K "Board" "is_level", name := "is_level", qual := "Board.is_level", params := defArgs m_BoardIs_level, body := defBody m_BoardIs_level, scope := defScope m_BoardIs_level }
def e_BoardDeeds : He5.DefA := { at_ := fun K => pr_ K "Board" "deeds", name := "deeds", qual := "Board.deeds", params := defArgs m_BoardDeeds, body := defBody m_BoardDeeds, scope := defScope m_BoardDeeds }
def e_BoardTold_table : He5.DefA := { at_ := fun K => ma K (ga K "Board") "told_table", name := "told_table", qual := "Board.told_table", params := defArgs m_BoardTold_table, body := defBody m_BoardTold_table, scope := defScope m_BoardTold_table }
def e_BoardTold_pauses : He5.DefA := { at_ := fun K => ma K (ga K "Board") "told_pauses", name := "told_pauses", qual := "Board.told_pauses", params := defArgs m_BoardTold_pauses, body := defBody m_BoardTold_pauses, scope := defScope m_BoardTold_pauses }
def e_BoardUndo : He5.DefA := { at_ := fun K => ma K (ga K "Board") "undo", name := "undo", qual := "Board.undo", params := defArgs m_BoardUndo, body := defBody m_BoardUndo, scope := defScope m_BoardUndo }
def e_BoardTwin : He5.DefA := { at_ := fun K => ma K (ga K "Board") "twin", name := "twin", qual := "Board.twin", params := defArgs m_BoardTwin, body := defBody m_BoardTwin, scope := defScope m_BoardTwin }
def e_BoardGetitem : He5.DefA := { at_ := fun K => ma K (ga K "Board") "__getitem__", name := "__getitem__", qual := "Board.__getitem__", params := defArgs m_BoardGetitem, body := defBody m_BoardGetitem, scope := defScope m_BoardGetitem }
def e_BoardSetitem : He5.DefA := { at_ := fun K => ma K (ga K "Board") "__setitem__", name := "__setitem__", qual := "Board.__setitem__", params := defArgs m_BoardSetitem, body := defBody m_BoardSetitem, scope := defScope m_BoardSetitem }
def e_BoardIadd : He5.DefA := { at_ := fun K => ma K (ga K "Board") "__iadd__", name := "__iadd__", qual := "Board.__iadd__", params := defArgs m_BoardIadd, body := defBody m_BoardIadd, scope := defScope m_BoardIadd }
def e_BoardIsub : He5.DefA := { at_ := fun K => ma K (ga K "Board") "__isub__", name := "__isub__", qual := "Board.__isub__", params := defArgs m_BoardIsub, body := defBody m_BoardIsub, scope := defScope m_BoardIsub }
def e_BoardContains : He5.DefA := { at_ := fun K => ma K (ga K "Board") "__contains__", name := "__contains__", qual := "Board.__contains__", params := defArgs m_BoardContains, body := defBody m_BoardContains, scope := defScope m_BoardContains }
def e_BoardLen : He5.DefA := { at_ := fun K => ma K (ga K "Board") "__len__", name := "__len__", qual := "Board.__len__", params := defArgs m_BoardLen, body := defBody m_BoardLen, scope := defScope m_BoardLen }
def e_BoardIter : He5.DefA := { at_ := fun K => ma K (ga K "Board") "__iter__", name := "__iter__", qual := "Board.__iter__", params := defArgs m_BoardIter, body := defBody m_BoardIter, scope := defScope m_BoardIter }
def e_w_pen : He5.DefA := { at_ := fun K => ga K "_law_pen", name := "_law_pen", qual := "_law_pen", params := defArgs w_pen, body := defBody w_pen, scope := defScope w_pen }
def e_w_draw : He5.DefA := { at_ := fun K => ga K "_law_draw", name := "_law_draw", qual := "_law_draw", params := defArgs w_draw, body := defBody w_draw, scope := defScope w_draw }
def e_w_pick : He5.DefA := { at_ := fun K => ga K "_law_pick", name := "_law_pick", qual := "_law_pick", params := defArgs w_pick, body := defBody w_pick, scope := defScope w_pick }
def e_w_mixed : He5.DefA := { at_ := fun K => ga K "_law_mixed", name := "_law_mixed", qual := "_law_mixed", params := defArgs w_mixed, body := defBody w_mixed, scope := defScope w_mixed }
def e_w_names : He5.DefA := { at_ := fun K => ga K "_law_names", name := "_law_names", qual := "_law_names", params := defArgs w_names, body := defBody w_names, scope := defScope w_names }
def e_w_rows : He5.DefA := { at_ := fun K => ga K "_law_rows", name := "_law_rows", qual := "_law_rows", params := defArgs w_rows, body := defBody w_rows, scope := defScope w_rows }
def e_w_places : He5.DefA := { at_ := fun K => ga K "_law_places", name := "_law_places", qual := "_law_places", params := defArgs w_places, body := defBody w_places, scope := defScope w_places }
def e_w_pauses : He5.DefA := { at_ := fun K => ga K "_law_pauses", name := "_law_pauses", qual := "_law_pauses", params := defArgs w_pauses, body := defBody w_pauses, scope := defScope w_pauses }
def e_w_trip : He5.DefA := { at_ := fun K => ga K "_law_trip", name := "_law_trip", qual := "_law_trip", params := defArgs w_trip, body := defBody w_trip, scope := defScope w_trip }
def e_w_table : He5.DefA := { at_ := fun K => ga K "_law_table", name := "_law_table", qual := "_law_table", params := defArgs w_table, body := defBody w_table, scope := defScope w_table }
def e_w_fresh : He5.DefA := { at_ := fun K => ga K "_law_fresh", name := "_law_fresh", qual := "_law_fresh", params := defArgs w_fresh, body := defBody w_fresh, scope := defScope w_fresh }
def e_w_uneven : He5.DefA := { at_ := fun K => ga K "_law_uneven", name := "_law_uneven", qual := "_law_uneven", params := defArgs w_uneven, body := defBody w_uneven, scope := defScope w_uneven }
def e_w_later : He5.DefA := { at_ := fun K => ga K "_law_later", name := "_law_later", qual := "_law_later", params := defArgs w_later, body := defBody w_later, scope := defScope w_later }
def e_w_begun : He5.DefA := { at_ := fun K => ga K "_law_begun", name := "_law_begun", qual := "_law_begun", params := defArgs w_begun, body := defBody w_begun, scope := defScope w_begun }
def e_w_deed : He5.DefA := { at_ := fun K => ga K "_law_deed", name := "_law_deed", qual := "_law_deed", params := defArgs w_deed, body := defBody w_deed, scope := defScope w_deed }
def e_w_shows : He5.DefA := { at_ := fun K => ga K "_law_shows", name := "_law_shows", qual := "_law_shows", params := defArgs w_shows, body := defBody w_shows, scope := defScope w_shows }
def e_w_bare_right : He5.DefA := { at_ := fun K => ga K "_law_bare_right", name := "_law_bare_right", qual := "_law_bare_right", params := defArgs w_bare_right, body := defBody w_bare_right, scope := defScope w_bare_right }
def e_w_twin_right : He5.DefA := { at_ := fun K => ga K "_law_twin_right", name := "_law_twin_right", qual := "_law_twin_right", params := defArgs w_twin_right, body := defBody w_twin_right, scope := defScope w_twin_right }
def e_w_right : He5.DefA := { at_ := fun K => ga K "_law_right", name := "_law_right", qual := "_law_right", params := defArgs w_right, body := defBody w_right, scope := defScope w_right }
def e_law : He5.DefA := { at_ := fun K => ga K "law", name := "law", qual := "law", params := defArgs d_law, body := defBody d_law, scope := defScope d_law }
def fnL0 : List He5.DefA := [e_is_integer, e_is_between, e_is_number, e_is_name, e_is_row, e_DayInit, e_DayEq, e_TripInit, e_TripAdd, e_TripEq, e_RunTimed, e_StayTimed, e_need_all_trips, e_places_of, e_need_few, e_unbalanced, e_TableInit, e_TableOf, e_TableGetitem, e_TableContains]
def fnL1 : List He5.DefA := [e_TableEq, e_need_names_alone, e_PausesInit, e_PausesOf, e_PausesPut, e_PausesGetitem, e_PausesEq, e_need_table, e_needed_pauses, e_places_count, e_BoardInit, e_BoardGo_on, e_BoardPut, e_BoardDrop, e_BoardPause, e_BoardShift, e_BoardNeed_trip, e_BoardMinutes, e_BoardSet_minutes, e_BoardIs_level]
def fnL2 : List He5.DefA := [e_BoardDeeds, e_BoardTold_table, e_BoardTold_pauses, e_BoardUndo, e_BoardTwin, e_BoardGetitem, e_BoardSetitem, e_BoardIadd, e_BoardIsub, e_BoardContains, e_BoardLen, e_BoardIter, e_w_pen, e_w_draw, e_w_pick, e_w_mixed, e_w_names, e_w_rows, e_w_places, e_w_pauses]
def fnL3 : List He5.DefA := [e_w_trip, e_w_table, e_w_fresh, e_w_uneven, e_w_later, e_w_begun, e_w_deed, e_w_shows, e_w_bare_right, e_w_twin_right, e_w_right, e_law]
def fnL : List He5.DefA := fnL0 ++ fnL1 ++ fnL2 ++ fnL3
def suA : List (PySem.W.Frag → Addr) := [fun K => ini K "Run", fun K => ini K "Stay", fun K => ini K "NoTrip", fun K => ini K "Unbalanced"]
def suV : List FnW := [supV "__init__" "Run.__init__" (defArgs m_RunInit) (defBody m_RunInit) (defScope m_RunInit), supV "__init__" "Stay.__init__" (defArgs m_StayInit) (defBody m_StayInit) (defScope m_StayInit), supV "__init__" "NoTrip.__init__" (defArgs m_NoTripInit) (defBody m_NoTripInit) (defScope m_NoTripInit), supV "__init__" "Unbalanced.__init__" (defArgs m_UnbalancedInit) (defBody m_UnbalancedInit) (defScope m_UnbalancedInit)]
def obsB (K : PySem.W.Frag) : AlD := (fxB.all (fun b => b K) && fnL.all (fun d => d.ok K), fnL.map (fun d => He5.fnA K (d.at_ K)) ++ suA.map fun a => fnS K (a K))
def valB : AlD := (true, fnL.map He5.DefA.val ++ suV)
def obsBG (g : Addr → Option Obj) : AlD := obsB (frG g (asB g))
def hookB : PySem.W.Hook where
  α := AlD
  obs := fun s => obsBG s.heap.get?
  val := fun _ => valB
  says := fun _ h => ∃ K : PySem.W.Frag, K.In h ∧ obsB K = valB
  of := fun _ _ e => ⟨_, frG_in, e⟩
  keeps := fun _ _ _ ⟨K, hK, c⟩ k => ⟨K, PySem.W.Frag.In.keeps hK k, c⟩
end N1
set_option maxHeartbeats 0
/-! the top's run: the Hook in parts -/
namespace N1
open PySem PySem.Spec PyProof.Rows L2
abbrev RW : PySem.W.OpenRow := PySem.W.OpenLaw.row PySem.Challenge.rw_onelongturn_k76_boards_changed
def lo0 : List Str := ["_wall", "__name__", "MOST_NUMBER", "LETTERS", "is_integer", "is_between", "is_number", "is_moment", "is_name", "is_row", "number_in", "TurnError", "BadInput", "Refused", "BadDay", "BadName", "BadNumber", "BadTrip", "BadTable", "BadPauses"]
def lo1 : List Str := ["BadAsk", "BadText", "NoTrip", "Twice", "OutOfDay", "Unbalanced", "Unlike", "TooMany", "MOST_LENGTH", "long_by", "Day", "Words", "Trip", "Paused", "Run", "Stay", "trip_in", "in_order", "MOST_TRIPS_tables", "MOST_PLACES_tables"]
def lo2 : List Str := ["need_all_trips", "places_of", "need_few", "unbalanced", "Table", "need_names_alone", "Pauses", "need_table", "needed_pauses", "MOST_TRIPS_board", "MOST_PLACES_board", "places_count", "Board", "_law_pen", "_law_draw", "_law_pick", "_law_mixed", "_law_names", "_law_rows", "_law_places"]
def lo3 : List Str := ["_law_pauses", "_law_trip", "_law_table", "_law_fresh", "_law_uneven", "_law_later", "_law_begun", "_law_deed", "_law_shows", "_law_bare_right", "_law_twin_right", "_law_right"]
def loose : List Str := lo0 ++ (lo1 ++ (lo2 ++ (lo3)))
def hookO {α : Type} (f : (Addr → Option Obj) → α) (v : α) : PySem.W.Hook where
  α := α
  obs := fun s => f s.heap.get?
  val := fun _ => v
  says := fun _ _ => True
  of := fun _ _ _ => trivial
  keeps := fun _ _ _ _ _ => trivial
def f1 (g : Addr → Option Obj) : Bool := (fun K => fxB.all fun b => b K) (He.frG g (asB g))
def f2 (g : Addr → Option Obj) : Bool := (fun K => fnL.all fun d => d.ok K) (He.frG g (asB g))
def f3 (g : Addr → Option Obj) : List He.FnW := (fun K => fnL.map (fun d => He5.fnA K (d.at_ K)) ++ suA.map fun a => fnS K (a K)) (He.frG g (asB g))
def v3 : List He.FnW := fnL.map He5.DefA.val ++ suV
abbrev Run {α : Type} (f : (Addr → Option Obj) → α) (v : α) (w : World) : Prop := HandSHeadRun.RunEq RW (PySem.W.view RW.prog [80]) (hookO f v) (fun s => f (HandSHeadRun.getT s)) 30000 loose w
end N1
set_option maxHeartbeats 0
namespace N1
open PySem PySem.Spec PyProof.Rows L2
theorem run1 (w : World) : Run f1 true w := by
  intro os
  kernel_rfl
end N1
set_option maxHeartbeats 0
namespace N1
open PySem PySem.Spec PyProof.Rows L2
theorem run2 (w : World) : Run f2 true w := by
  intro os
  kernel_rfl
end N1
set_option maxHeartbeats 0
namespace N1
open PySem PySem.Spec PyProof.Rows L2
theorem run3 (w : World) : Run f3 v3 w := by
  intro os
  kernel_rfl
end N1
set_option maxHeartbeats 2000000
/-! own special methods over the layer: in, [], []=, +, +=, -=, len, iter -/
namespace N1
open PySem PySem.Spec PyProof.Rows L2
/-- an instance of C stands at a -/
def InsAt (H : Hp) (a C : Addr) : Prop := ∃ dx fs, H a = some (.ins C dx fs)
theorem insAt_of {H : Hp} {a C dx : Addr} {fs : List (Str × V)} (h : H a = some (.ins C dx fs)) : InsAt H a C := ⟨dx, fs, h⟩
section
variable {X : Cx} {pins : List (Addr × Obj)} {σ : L2.St} {H : Hp} {s : Shared} {CX : CXT} {k : Nat} {f C a : Addr} {sp : Sp} {E : XK}
theorem insAt_at (I : Inv X pins σ H s) (h : InsAt H a C) : ∃ ox od, PySem.W.InstAt s.heap a ox C od ∧ ox.data = .plain := by
  obtain ⟨dx, fs, h⟩ := h
  obtain ⟨mA, O, _⟩ := ins_get I.hok h
  obtain ⟨od, J, _⟩ := O.look
  exact ⟨_, _, J, rfl⟩
theorem call_R {Q : VK} {us : List Value} {vs : List V} (F : FnR X.prog X.w X.K X.mg X.base CX k f sp) (hr : Room k X.A) (hx : Passes CX X E) (I : Inv X pins σ H s) (r : Vals vs us) (h : sp vs H Q E) :
    wpAny (model X.prog X.w) X.A (call (.ref f) us) (EP X pins σ Q) X.xe s := wpAny_call (run_fnR F hr hx I r h)
/-- v in o, v not in o, o an instance with __contains__ -/
def rOwnIn (C : Addr) (sp : Sp) (E : XK) (neg : Bool) : R2 := fun x y H Q => ∃ a, y = .ref a ∧ InsAt H a C ∧ sp [y, x] H (fun v H' => ∃ b, v = .bl b ∧ Q (.bl (if neg then !b else b)) H') E
theorem or_ownIn (M : Meth X.K C "__contains__" f) (F : FnR X.prog X.w X.K X.mg X.base CX k f sp) (hr : Room k X.A) (hx : Passes CX X E) : OpR X (compareOp .In) (rOwnIn C sp E false) := by
  intro pins s σ H x y v u Q I rx ry h
  obtain ⟨a, rfl, hi, h⟩ := h
  obtain rfl : u = Value.ref a := ry
  obtain ⟨m, Fr⟩ := I.fr
  obtain ⟨ox, od, J, hd⟩ := insAt_at I hi
  refine PySem.W.in_K Fr I.mod.kin J M.at_ M.fn (thn (call_R F hr hx I (.cons (show RelV (.ref a) (.ref a) from rfl) (.cons rx .nil)) h) ?_)
  rintro r s' ⟨v', H', I', rv, b, rfl, q⟩
  obtain rfl : r = Value.bool b := rv
  exact wpAny_pure ⟨.bl _, H', I', rfl, q⟩
theorem or_ownNotIn (M : Meth X.K C "__contains__" f) (F : FnR X.prog X.w X.K X.mg X.base CX k f sp) (hr : Room k X.A) (hx : Passes CX X E) : OpR X (compareOp .NotIn) (rOwnIn C sp E true) := by
  intro pins s σ H x y v u Q I rx ry h
  obtain ⟨a, rfl, hi, h⟩ := h
  obtain rfl : u = Value.ref a := ry
  obtain ⟨m, Fr⟩ := I.fr
  obtain ⟨ox, od, J, hd⟩ := insAt_at I hi
  refine PySem.W.notIn_K Fr I.mod.kin J M.at_ M.fn (thn (call_R F hr hx I (.cons (show RelV (.ref a) (.ref a) from rfl) (.cons rx .nil)) h) ?_)
  rintro r s' ⟨v', H', I', rv, b, rfl, q⟩
  obtain rfl : r = Value.bool b := rv
  exact wpAny_pure ⟨.bl _, H', I', rfl, q⟩
/-- o[i] = v by an own __setitem__ -/
def rOwnSet (C : Addr) (sp : Sp) (E : XK) : TSet := fun o i v H Q => ∃ a, o = .ref a ∧ InsAt H a C ∧ sp [o, i, v] H (fun _ H' => Q H') E
theorem set_own (hq : PySem.W.noSeq X.K C = true) (M : Meth X.K C "__setitem__" f) (F : FnR X.prog X.w X.K X.mg X.base CX k f sp) (hr : Room k X.A) (hx : Passes CX X E) : PSet X (rOwnSet C sp E) := by
  intro pins s σ H o i v ov iv u Q I ro ri rv h
  obtain ⟨a, rfl, hi, h⟩ := h
  obtain rfl : ov = Value.ref a := ro
  obtain ⟨m, Fr⟩ := I.fr
  obtain ⟨ox, od, J, hd⟩ := insAt_at I hi
  refine PySem.W.ksp_setItem Fr I.mod.kin J hq M.at_ M.fn (thn (call_R F hr hx I (.cons (show RelV (.ref a) (.ref a) from rfl) (.cons ri (.cons rv .nil))) h) ?_)
  rintro r s' ⟨v', H', I', rv', q⟩
  exact ⟨H', I', q⟩
/-- o op= v by an own __iadd__ .. -/
def rOwnIp (C : Addr) (sp : Sp) (E : XK) : TIp := fun x y H Q => ∃ a, x = .ref a ∧ InsAt H a C ∧ sp [x, y] H (fun v H' => (∃ b, v = .ref b) ∧ Q v H') E
theorem ip_own {op : Operator} (hc : PySem.W.selfFirst X.K C = true) (hs : PySem.W.findIn X.K (.ref C) (PySem.dunderI op.info.2) = some (some (.ref f))) (hf : PySem.W.isFn X.K (.ref f) = true)
    (F : FnR X.prog X.w X.K X.mg X.base CX k f sp) (hr : Room k X.A) (hx : Passes CX X E) : PIp X op (rOwnIp C sp E) := by
  intro pins s σ H x y v u Q I rx ry h
  obtain ⟨a, rfl, hi, h⟩ := h
  obtain rfl : v = Value.ref a := rx
  obtain ⟨m, Fr⟩ := I.fr
  obtain ⟨ox, od, J, hd⟩ := insAt_at I hi
  refine PySem.W.ksp_inplace Fr I.mod.kin J hc hs hf (thn (call_R F hr hx I (.cons (show RelV (.ref a) (.ref a) from rfl) (.cons ry .nil)) h) ?_)
  rintro r s' ⟨v', H', I', rv', ⟨b, rfl⟩, q⟩
  obtain rfl : r = Value.ref b := rv'
  exact ⟨.ref b, H', I', rfl, q⟩
/-- o + n, n an int, by an own __add__ that hands back an object -/
def rOwnBin (C : Addr) (sp : Sp) (E : XK) : R2 := fun x y H Q => ∃ a n, x = .ref a ∧ y = .int n ∧ InsAt H a C ∧ sp [x, y] H (fun v H' => (∃ b, v = .ref b) ∧ Q v H') E
theorem op_ownI {op : Operator} {fo ro rc : Option Value} (hc : PySem.W.selfFirst X.K C = true) (hs : PySem.W.findIn X.K (.ref C) (PySem.dunder op.info.2) = some (some (.ref f))) (hf : PySem.W.isFn X.K (.ref f) = true)
    (hrr : PySem.W.findIn X.K (.ref C) (dunderR op.info.2) = some rc) (hp : rc = none ∨ ∃ g : Addr, rc = some (.ref g))
    (h1 : PySem.W.findIn X.K (.type "int") (PySem.dunder op.info.2) = some fo) (h2 : PySem.W.findIn X.K (.type "int") (dunderR op.info.2) = some ro) (hsub : PySem.W.subIn X.K (.type "int") (.ref C) = some false)
    (F : FnR X.prog X.w X.K X.mg X.base CX k f sp) (hr : Room k X.A) (hx : Passes CX X E) : OpR X (binaryOp op) (rOwnBin C sp E) := by
  intro pins s σ H x y v u Q I rx ry h
  obtain ⟨a, n, rfl, rfl, hi, h⟩ := h
  obtain rfl : v = Value.ref a := rx
  obtain ⟨m, Fr⟩ := I.fr
  obtain ⟨ox, od, J, hd⟩ := insAt_at I hi
  obtain ⟨t, rfl⟩ := id ry
  refine PySem.W.ksp_binT (T := "int") Fr I.mod.kin J rfl hc hs hf hrr hp h1 h2 hsub (thn (call_R F hr hx I (.cons (show RelV (.ref a) (.ref a) from rfl) (.cons ry .nil)) h) ?_)
  rintro r s' ⟨v', H', I', rv', ⟨b, rfl⟩, q⟩
  obtain rfl : r = Value.ref b := rv'
  exact ⟨.ref b, H', I', rfl, q⟩
/-- a promise run where the call stands deeper -/
theorem run_at {A' : Around} {Q : VK} {us : List Value} {vs : List V} (F : FnR X.prog X.w X.K X.mg X.base CX k f sp) (hr : Room k A') (e0 : Env0 X.prog X.w X.K X.mg X.base A' X.stack s H) (hx : Passes CX X E) (I : Inv X pins σ H s) (r : Vals vs us) (h : sp vs H Q E) :
    wpAny (model X.prog X.w) A' (call (.ref f) us) (EP X pins σ Q) X.xe s := by
  refine wpAny_call (codeAny_mono (F A' X.stack s H us vs Q E hr e0 r h) fun r s' hq => ?_)
  cases r with
  | error e => exact hx pins σ H s e s' I hq
  | ok fl =>
    cases fl with
    | ret u => exact I.after hq
    | next => exact False.elim hq
    | brk => exact False.elim hq
    | cont => exact False.elim hq
/-- len(o) by an own __len__ -/
def rOwnLen (C : Addr) (sp : Sp) (E : XK) : List V → Hp → VK → Prop := fun xs H Q => ∃ a, xs = [.ref a] ∧ InsAt H a C ∧ sp xs H (fun v H' => ∃ n : Int, v = .int n ∧ 0 ≤ n ∧ n < 2 ^ 63 ∧ Q (.int n) H') E
theorem call_ownLen (M : Meth X.K C "__len__" f) (F : FnR X.prog X.w X.K X.mg X.base CX k f sp) (hr : Room (k + 1) X.A) (hx : Passes CX X E) : CallR X (.builtin "len") (rOwnLen C sp E) := by
  intro pins s σ H xs us Q I r h
  obtain ⟨a, rfl, hi, h⟩ := h
  obtain ⟨u, rfl, ru⟩ := r.one
  obtain rfl : u = Value.ref a := ru
  obtain ⟨m, Fr⟩ := I.fr
  obtain ⟨ox, od, J, hd⟩ := insAt_at I hi
  refine PySem.W.len_K Fr I.mod.kin J M.at_ M.fn (thn (run_at F hr.in1 I.env0.in1 hx I (.cons (show RelV (.ref a) (.ref a) from rfl) .nil) h) ?_)
  rintro r s' ⟨v', H', I', rv, n, rfl, h0, h1, q⟩
  obtain ⟨t, rfl⟩ := rv
  exact ⟨⟨h0, h1⟩, .int n, H', I'.tok _, ⟨_, rfl⟩, q⟩
/-- o[i] by an own __getitem__ -/
def rOwnIx (C : Addr) (sp : Sp) (E : XK) : R2 := fun x y H Q => ∃ a, x = .ref a ∧ InsAt H a C ∧ sp [x, y] H Q E
theorem pe_ixO {a b : Expr} {ta tb : TE} {pos : Pos} (M : Meth X.K C "__getitem__" f) (hfn : PySem.W.fnIn X.K f = true) (F : FnR X.prog X.w X.K X.mg X.base CX k f sp) (hr : Room (k + 1) X.A) (hx : Passes CX X E)
    (ha : PE X a ta) (hb : PE X b tb) (hs : ∀ o i, subscripted b true o i = runValue (.builtin "lifetime.subscript" ⟨[o, i], []⟩) := by intro _ _; with_unfolding_all rfl) : PE X (.Subscript a b pos) (tOp (rOwnIx C sp E) ta tb) := by
  refine ⟨fun pins s σ H Q I h => ?_⟩
  refine Subscript_ (binT ha hb I h fun v u s2 x y H2 I2 rx ry q => ?_)
  obtain ⟨a, rfl, hi, q⟩ := q
  obtain rfl : v = Value.ref a := rx
  obtain ⟨m, Fr⟩ := I2.fr
  obtain ⟨ox, od, J, hd⟩ := insAt_at I2 hi
  exact PySem.W.sub_K Fr I2.mod.kin J M.at_ hfn M.fn (run_at F hr.in1 I2.env0.in1 hx I2 (.cons (show RelV (.ref a) (.ref a) from rfl) (.cons ry .nil)) q) (hs _ _)
end
end N1
set_option maxHeartbeats 2000000
/-! != of instances whose class has an own __eq__ and object's __ne__ -/
namespace N1
open PySem PySem.Spec PyProof.Rows L2
section
variable {prog : Program} {w : World} {A : Around} {E : Value → Shared → Prop} {s : Shared} {K : PySem.W.Frag} {x y C L f : Addr} {h₀ : Heap} {m : Str → Option Value} {ox oy : Obj} {od od' : Option Obj}
theorem ifBoundB {M : Model} {self : Value} {name : PySem.Str} {id : String} {args : List Value} {Q : Option Value → Shared → Prop} (sp : PySem.W.Looks M s.heap (specialOf self name) (some (.builtin id)))
    (hb : bindSpecial (.builtin id) self = pure (.builtin id, [self])) (h : wpAny M A (call (.builtin id) (self :: args)) (fun v => Q (some v)) E s) : wpAny M A (callSpecialIfBound? self name args) Q E s := by
  simp only [callSpecialIfBound?, bindSpecialIfBound?]
  refine wpAny_holding (wpAny_bind (wpAny_bind (sp.here ?_)))
  refine wpAny_bind (wpAny_askSetting (wpAny_ite ?_))
  have fin : wpAny M A (call (.builtin id) ([self] ++ args) >>= fun v => pure (some v)) Q E s := wpAny_bind (wpAny_mono h (fun v s' h' => wpAny_pure h') fun _ _ h' => h')
  split
  · refine wpAny_bind ?_
    rw [hb]
    exact wpAny_pure (wpAny_pure fin)
  · refine wpAny_tryCatch (wpAny_bind ?_)
    rw [hb]
    exact wpAny_pure (wpAny_pure fin)
theorem ne_K {Q : Value → Shared → Prop} (hu : A.units + 1 < cLine) (Fm : Fr h₀ L s.heap m) (X₀ : K.In h₀) (I : PySem.W.InstAt s.heap x ox C od) (J : PySem.W.InstAt s.heap y oy C od')
    (hn : PySem.W.findIn K (.ref C) "__ne__" = some (some (.builtin "object.__ne__"))) (ho : PySem.W.subIn K (.ref C) (.type "object") = some true)
    (hs : PySem.W.findIn K (.ref C) "__eq__" = some (some (.ref f))) (hf : PySem.W.isFn K (.ref f) = true)
    (h : wpAny (model prog w) A.in1 (call (.ref f) [.ref x, .ref y]) (fun v s' => ∃ b, v = .bool b ∧ Q (.bool (!b)) s') E s) : wpAny (model prog w) A (richCompare .NotEq (.ref x) (.ref y)) Q E s := by
  have X := X₀.keeps Fm.keep
  have inst : PySem.W.Looks (model prog w) s.heap (isInstance (.ref x) (.type "object")) true := I.type.andThen (PySem.W.looks_subIn X ho)
  have body : wpAny (model prog w) A.in1 (Builtin.«object.__ne__» ⟨[.ref x, .ref y], []⟩) (fun fin s' => match fin with
      | .done f => (wants (fun v s' => ∃ b, v = .bool b ∧ Q (.bool b) s') E) (.ok f) s'
      | .again c' => c'.quiet = true ∧ codeAny (model prog w) A c' (wants (fun v s' => ∃ b, v = .bool b ∧ Q (.bool b) s') E) s') (fun e s' => wants (fun v s' => ∃ b, v = .bool b ∧ Q (.bool b) s') E (.error e) s') s := by
    unfold Builtin.«object.__ne__»
    refine wpAny_bind (m := slotArgs "__ne__" 1 _) (wpAny_pure ?_)
    refine wpAny_bind (wpAny_cRoomFor (show A.in1.units < cLine from hu) ?_)
    refine wpAny_bind (m := callSpecialIfBound? (.ref x) (Str.ofString "__eq__") [.ref y]) (PySem.W.ifBound_K X I hs hf (wpAny_mono h (fun v s' hv => ?_) fun _ _ e => e))
    obtain ⟨b, rfl, hq⟩ := hv
    refine wpAny_bind (m := truthy (.bool b)) (wpAny_truthy_bool ?_)
    exact wpAny_pure ⟨!b, rfl, hq⟩
  have one : wpAny (model prog w) A (tryCompare (.ref x) "__ne__" (.ref y)) (fun r s' => ∃ v, r = some v ∧ Q v s') E s := by
    unfold tryCompare
    refine wpAny_bind (ifBoundB (id := "object.__ne__") (I.type.andThen (PySem.W.looks_findIn X hn)) (by kernel_rfl) ?_)
    refine wpAny_mono (wpAny_call (codeAny_call_builtin (R := wants (fun v s' => ∃ b, v = .bool b ∧ Q (.bool b) s') E) (by decide +kernel) F.cmpEntry_ne (PySem.W.check_slot F.cmpKind_ne F.cmpSplit_ne inst (F.cmpArgs_ne _ _) body))) (fun v s' hv => ?_) fun _ _ e => e
    obtain ⟨b, rfl, hq⟩ := hv
    exact wpAny_pure ⟨_, rfl, hq⟩
  unfold richCompare
  simp only [oneThing_ref]
  refine wpAny_holding (wpAny_bind (wpAny_cRoomFor (Nat.lt_of_succ_lt hu) ?_))
  rw [cmpInfo_NotEq]
  dsimp only
  refine wpAny_bind (I.type.here (wpAny_bind (J.type.here ?_)))
  rw [show (Value.ref C != Value.ref C) = false from by simp]
  simp only [Bool.false_eq_true, if_false]
  refine wpAny_bind (wpAny_pure ?_)
  simp only [Bool.false_eq_true, if_false]
  refine wpAny_bind (wpAny_mono one (fun r s' z => ?_) fun _ _ e => e)
  obtain ⟨v, rfl, hq⟩ := z
  exact wpAny_pure hq
end
section
variable {X : Cx} {pins : List (Addr × Obj)} {σ : L2.St} {H : Hp} {s : Shared} {CX : CXT} {n k : Nat} {f C a : Addr} {sp : Sp} {E : XK}
/-- x != y, both instances of C with an own __eq__ that promises sp; b is what __eq__ answers -/
def rOwnNe (C : Addr) (sp : Sp) (E : XK) : R2 := fun x y H Q => ∃ a b, x = .ref a ∧ y = .ref b ∧ InsAt H a C ∧ InsAt H b C ∧ sp [x, y] H (fun v H' => ∃ c, v = .bl c ∧ Q (.bl (!c)) H') E
theorem or_ownNe (hn : PySem.W.findIn X.K (.ref C) "__ne__" = some (some (.builtin "object.__ne__"))) (ho : PySem.W.subIn X.K (.ref C) (.type "object") = some true) (M : Meth X.K C "__eq__" f)
    (F : FnR X.prog X.w X.K X.mg X.base CX k f sp) (hr : Room (k + 1) X.A) (hx : Passes CX X E) : OpR X (compareOp .NotEq) (rOwnNe C sp E) := by
  intro pins s σ H x y v u Q I rx ry h
  obtain ⟨a, b, rfl, rfl, ha, hb, h⟩ := h
  obtain rfl : v = Value.ref a := rx
  obtain rfl : u = Value.ref b := ry
  obtain ⟨m, Fr⟩ := I.fr
  obtain ⟨ox, od, J, hd⟩ := insAt_at I ha
  obtain ⟨oy, od', J', hd'⟩ := insAt_at I hb
  show wpAny (model X.prog X.w) X.A (richCompare .NotEq (.ref a) (.ref b)) (EP X pins σ Q) X.xe s
  refine ne_K (by have := hr.un; omega) Fr I.mod.kin J J' hn ho M.at_ M.fn (thn (run_at F hr.in1 I.env0.in1 hx I (.cons (show RelV (.ref a) (.ref a) from rfl) (.cons (show RelV (.ref b) (.ref b) from rfl) .nil)) h) ?_)
  rintro r s' ⟨v', H', I', rv, c, rfl, q⟩
  obtain rfl : r = Value.bool c := rv
  exact ⟨c, rfl, .bl (!c), H', I', rfl, q⟩
/-- x == y, both instances of C with an own __eq__ that promises sp -/
def rOwnEq (C : Addr) (sp : Sp) (E : XK) : R2 := fun x y H Q => ∃ a b, x = .ref a ∧ y = .ref b ∧ InsAt H a C ∧ InsAt H b C ∧ sp [x, y] H (fun v H' => ∃ c, v = .bl c ∧ Q (.bl c) H') E
theorem or_ownEq (M : Meth X.K C "__eq__" f) (F : FnR X.prog X.w X.K X.mg X.base CX k f sp) (hr : Room k X.A) (hx : Passes CX X E) : OpR X (compareOp .Eq) (rOwnEq C sp E) := by
  intro pins s σ H x y v u Q I rx ry h
  obtain ⟨a, b, rfl, rfl, ha, hb, h⟩ := h
  obtain rfl : v = Value.ref a := rx
  obtain rfl : u = Value.ref b := ry
  obtain ⟨m, Fr⟩ := I.fr
  obtain ⟨ox, od, J, hd⟩ := insAt_at I ha
  obtain ⟨oy, od', J', hd'⟩ := insAt_at I hb
  show wpAny (model X.prog X.w) X.A (richCompare .Eq (.ref a) (.ref b)) (EP X pins σ Q) X.xe s
  refine PySem.W.cmp_K (op := .Eq) (tb := .ref C) hr.units0 Fr I.mod.kin J J'.type (by simp [PySem.W.notFirst]) M.at_ M.fn (thn (call_R F hr hx I (.cons (show RelV (.ref a) (.ref a) from rfl) (.cons (show RelV (.ref b) (.ref b) from rfl) .nil)) h) ?_)
  rintro r s' ⟨v', H', I', rv, c, rfl, q⟩
  obtain rfl : r = Value.bool c := rv
  exact ⟨.bl c, H', I', rfl, q⟩
end
end N1
set_option maxHeartbeats 2000000
/-! def __init__(self, ..): super().__init__(..) in an ordinary class -/
namespace N1
open PySem PySem.Spec PyProof.Rows L2 NdefX
/-- a method of the class at D that closes over __class__ (its cell at cc), as it stands behind the top -/
structure SupD (p : Program) (K : PySem.W.Frag) (name qual : Str) (params : Arguments) (body : List Stmt) (scope : Scope) (f cc cda D : Addr) : Prop where
  fn : ∃ (oc : Value) (od : Option Addr) (kV doc pm : Value) (an : Option Addr) (ct : Value) (osl : Array (Option Value)),
    K.lookup f = some ⟨oc, od, .func (PySem.W.fnX name qual params body scope [("__class__", cc)] .none kV doc pm an (.ref cda) ct), osl⟩
  code : PySem.W.codeIn K (.ref cda) qual = true
  file : ∃ ccl cdd vs ccs file tf, K.lookup cda = some ⟨ccl, cdd, .fields vs, ccs⟩ ∧ vs[2]? = some (.str file tf) ∧ ((p.main.file : Str) == file) = true
  cell : ∃ cl cld csl, K.lookup cc = some ⟨cl, cld, .cell (some (.ref D)), csl⟩
  cls : ∃ cd, PySem.W.clsIn K D = some cd
  kp : PySem.W.keepIn K (.ref f) = true
theorem superBase_no {D x C : Addr} : (PySem.W.ks_superObj D x C).data = .fields #[.ref D, .ref x, .ref C] := rfl
section
variable {CX CX2 : CXT} {P : Program} {w : World} {K : PySem.W.Frag} {mg : Str → Option Value} {base : Heap} {N ps : List Str} {k : Nat} {f f2 cc cda C D : Addr} {name qual : Str} {params : Arguments} {scope : Scope} {e : Expr} {es : List Expr} {p0 p1 p2 p3 p4 : Pos} {ta : TA} {sp2 : Sp} {ar : Arg}
/-- the function's words, as Nested tells them -/
abbrev supF (name qual : Str) (params : Arguments) (body : List Stmt) (scope : Scope) (cc cda : Addr) : NF := ⟨name, qual, params, body, scope, [("__class__", cc)], cda⟩
theorem fn_sup {body : List Stmt} (S : SupD P K name qual params body scope f cc cda D) (hbd : body = [.Expr (.Call (.Attribute (.Call (.Name "super" p0) [] [] p1) "__init__" p2) (e :: es) [] p3) p4])
    (Sc : NScope N ps ["__class__"] scope) (hnd : ps.Nodup) (hps : ps = ("self" : Str) :: ps.tail) (har : (params.posonlyargs ++ params.args).head? = some ar) (harn : ar.arg = "self") (hks : scope.names.lookup ("super" : Str) = some .globalImplicit)
    (hb : ∀ (kV doc pm : Value) (an : Option Addr) (ct : Value) (us : List Value), us.length = ps.length → bindArgs (PySem.W.fnX name qual params body scope [("__class__", cc)] .none kV doc pm an (.ref cda) ct) ⟨us, []⟩ = pure (ps.zip us))
    (hsm : mg "super" = none) (htop : (P.main.scope.names.lookup ("super" : Str)).isSome = false) (hop : PySem.W.nsIn K cStatics "thirdparty.any" = some none)
    (hm : PySem.W.ks_superIn K C D "__init__" = some (some (.ref f2))) (hmt : PySem.W.typeIn K (.ref f2) = some (.type "function")) (hfi : PySem.W.fnIn K f2 = true) (hsub : PySem.W.mroIn K C (.ref D) = some true) (hCc : ∃ cd, PySem.W.clsIn K C = some cd)
    (F2 : FnR P w K mg base CX2 k f2 sp2) (hx : ∀ A outer s H E, Passes CX2 (ncx CX P w K mg base N (supF name qual params body scope cc cda) f A outer s H E) E)
    (ha : ∀ A outer s H E, PA (ncx CX P w K mg base N (supF name qual params body scope cc cda) f A outer s H E) (e :: es) ta)
    (hs : ∀ A outer s H E, swapsWith (.Call (.Attribute (.Call (.Name "super" p0) [] [] p1) "__init__" p2) (e :: es) [] p3) none p4.line (ncx CX P w K mg base N (supF name qual params body scope cc cda) f A outer s H E).env = pure false)
    (he : ∀ A outer s H E, let env := (ncx CX P w K mg base N (supF name qual params body scope cc cda) f A outer s H E).env
      ∃ pl, eval (.Call (.Attribute (.Call (.Name "super" p0) [] [] p1) "__init__" p2) (e :: es) [] p3) env = (do
        let ov ← attributeBase (.Call (.Name "super" p0) [] [] p1) "__init__" env (eval (.Call (.Name "super" p0) [] [] p1) env)
        standAt p2.atName
        let (f, first) ← holding [ov] (getMethod ov "__init__" pl)
        callWith p3 f first (backTo p3 (starEach (e :: es) env)) []))
    (hse : ∀ A outer s H E, let env := (ncx CX P w K mg base N (supF name qual params body scope cc cda) f A outer s H E).env
      starEach (e :: es) env = (false, eval e env) :: starEach es env ∧ (backTo p3 (starEach es env)).any (·.1) = false) :
    FnR P w K mg base CX (k + 1) f (fun vs H Q E => ∃ x r, vs = .ref x :: r ∧ vs.length = ps.length ∧ InsAt H x C ∧ ta (startF N vs [some (.ref D)]) H fun ws H1 => sp2 (.ref x :: ws) H1 (fun _ H2 => Q .non H2) E) := by
  intro A outer s H us vs Q E hr e0 r hsp
  obtain ⟨x, rv, rfl, hl, hi, hsp⟩ := hsp
  have KX : K.In s.heap := e0.mod.kin.keeps fun b o e => (e0.bs b o e).1
  have lim : s.heap.NoLimit := e0.mod.nolimit.keeps fun b o e => (e0.bs b o e).1
  obtain ⟨oc, od, kV, doc, pm, an, ct, osl, lk⟩ := S.fn
  obtain ⟨ccl, cdd, cvs, ccs, file, tf, lc, lc2, lf⟩ := S.file
  obtain ⟨cl, cld, csl, lcell⟩ := S.cell
  obtain ⟨cdD, hcD⟩ := S.cls
  obtain ⟨cdC, hcC⟩ := hCc
  have ul : us.length = ps.length := by rw [← r.length]; exact hl
  have hcc : H cc = none := by
    have z := e0.mod.kin _ _ lcell
    exact (e0.bs _ _ z).2
  have CA : CellsAt [("__class__", cc)] ["__class__"] [some (.ref D)] s.heap H := by
    refine ⟨rfl, fun y c h => ?_, fun x y c h1 h2 => ?_, fun i y h => ?_⟩
    · have e : c = cc := by
        simp only [List.lookup] at h
        split at h
        · exact (Option.some.inj h).symm
        · cases h
      subst e
      exact ⟨hcc, _, ⟨_, KX _ _ lcell, rfl⟩⟩
    · simp only [List.lookup] at h1 h2
      split at h1
      · split at h2
        · rename_i q1 _ q2
          exact (beq_iff_eq.mp q1).trans (beq_iff_eq.mp q2).symm
        · cases h2
      · cases h1
    · match i, h with
      | 0, h =>
        have e : y = "__class__" := (Option.some.inj h).symm
        subst e
        refine ⟨cc, by simp [List.lookup], fun v hv => ?_⟩
        have e : v = .ref D := by
          have z := Option.some.inj hv
          exact (Option.some.inj z).symm
        subst e
        exact ⟨.ref D, rfl, ⟨_, KX _ _ lcell, rfl⟩⟩
      | n + 1, h => simp at h
  refine PySem.ks_codeAny_call_defAt (fd := PySem.W.fnX name qual params body scope [("__class__", cc)] .none kV doc pm an (.ref cda) ct) (body := body) (binds := ps.zip us) (by have := hr.dp; omega) (KX _ _ lk) rfl lim (PySem.W.codeRec_of KX S.code) rfl
    (.of_eq (hb kV doc pm an ct us ul)) Sc.nocell (fun y hy => Sc.par y.1 (List.of_mem_zip (show (y.1, y.2) ∈ ps.zip us from hy)).1) (fun h₁ hns kp => ?_) Sc.co Sc.gen Sc.kind
  obtain ⟨pl, hev⟩ := he A outer s H E
  obtain ⟨hse1, hse2⟩ := hse A outer s H E
  have I : Inv (ncx CX P w K mg base N (supF name qual params body scope cc cda) f A outer s H E) [] (startF N (.ref x :: rv) [some (.ref D)]) H { s with heap := h₁, toks := s.toks + (ps.zip us).length } := inv_startN Sc hr.hd e0 hl r CA hns kp
  have hex : ∀ env, execs body env = execs [.Expr (.Call (.Attribute (.Call (.Name "super" p0) [] [] p1) "__init__" p2) (e :: es) [] p3) p4] env := fun _ => by rw [hbd]
  rw [hex]
  obtain ⟨mb, hmb, hbt⟩ := e0.mod.blt
  have K1 : K.In h₁ := I.kIn
  have kb : ∀ b o, base.get? b = some o → h₁.get? b = some o := fun b o e => kp b o (e0.bs b o e).1
  obtain ⟨oD, hD1, hD2⟩ : ∃ oD, h₁.get? D = some oD ∧ oD.data = .cls cdD := by
    unfold PySem.W.clsIn at hcD
    split at hcD
    · rename_i c d cd' sl ho
      cases hcD
      exact ⟨_, K1 _ _ ho, rfl⟩
    · cases hcD
  obtain ⟨ox, odx, J, hxd⟩ := insAt_at I hi
  have hself : (ps.zip us).reverse.lookup ("self" : Str) = some (.ref x) := by
    cases r with
    | cons r1 r2 =>
      rename_i u us'
      obtain rfl : u = Value.ref x := r1
      exact zip_look (i := 0) hnd (by rw [hps]; rfl) rfl
  refine ks_wpAt_execs_cons (ks_wpAt_Expr_any ?_ I.quiet (hs A outer s H E))
  refine ks_wpAt_MethodCall (pl := pl) ?_ hev
  refine ks_wpAt_super_base (ar := ar) (file := file) (tf := tf) hks (Sc.frk _ (by simp)) (by decide) rfl (K1 _ _ lk) rfl har rfl (K1 _ _ lc) rfl lc2 lf htop ?_
  refine PySem.W.ks_loadName_global Sc.kind hks (Calls.loadGlobal_builtin (e0.mod.glob.keeps kb) hsm (hmb.keeps kb) ((hbt _ (by decide +kernel)).trans (by rfl : bootBuiltins "super" = some (.type "super"))) ⟨rfl, ?_⟩)
  refine wpAny_loadName_free Sc.kind (Sc.frk _ (by simp)) (c := cc) (by show List.lookup ("__class__" : Str) [("__class__", cc)] = some cc; simp [List.lookup]) ⟨_, K1 _ _ lcell, rfl⟩ ?_
  rw [harn]
  refine wpAny_loadName_local Sc.kind (by rw [← (show ar.arg = "self" from harn)]; rw [harn]; exact Sc.par _ (by rw [hps]; exact List.mem_cons_self)) hns hself ?_
  refine ks_wpAny_isType_cls hD1 hD2 ⟨rfl, ?_⟩
  refine ks_wpAny_call_super hD1 hD2 J.at_ J.cls (fun c e => ?_) (PySem.W.looks_mroIn K1 hsub) (fun h2 e2 k2 => ?_)
  · rw [hxd] at e
    cases e
  have K2 : K.In h2 := K1.keeps k2
  obtain ⟨of, hof, hofc⟩ : ∃ of, h2.get? f2 = some of ∧ of.cls = .type "function" := by
    have ht' : (K.lookup f2).map (·.cls) = some (.type "function") := hmt
    cases z : K.lookup f2 with
    | none => rw [z] at ht'; cases ht'
    | some of => rw [z] at ht'; exact ⟨of, K2 _ _ z, Option.some.inj ht'⟩
  unfold PySem.W.ks_superIn at hm
  rw [hcC] at hm
  refine ks_wpAny_getMethod_super e2 (PySem.W.looks_opaque K2 hop) (l₀ := cdC.mro) ?_ rfl K2 hm hof hofc (PySem.W.ks_ne K1 J hcC) (by decide) ?_
  · exact fun A Q E s k q => wpAny_bind ((PySem.W.looks_clsIn K2 hcC) A _ E s k (wpAny_pure q))
  have I2 := I.kept (h' := h2) (t' := s.toks + (ps.zip us).length + 1) k2
  have I3 := ClX.pin_new (o := { cls := .type "method", data := .fields #[.ref f2, .ref x] }) (h' := h2.push { cls := .type "method", data := .fields #[.ref f2, .ref x] }) (a := h2.objs.size) (t' := s.toks + (ps.zip us).length + 1) I2 (fun b u z => Heap.get?_push_of_some _ z) (Nat.le_refl _) (Heap.get?_push_at rfl rfl) (fun v z => by cases z)
  have hargs := (ha A outer s H E).run p3 _ _ _ _ _ I3 hsp
  show wpAny _ _ (callWith p3 (.ref h2.objs.size) [] (backTo p3 (starEach (e :: es) (ncx CX P w K mg base N (supF name qual params body scope cc cda) f A outer s H E).env)) []) _ _ _
  rw [hse1] at hargs ⊢
  refine PySem.W.callWith_of (P := PySem.W.MethP K h2.objs.size f2 (.ref x)) (by show ((false || (backTo p3 (starEach es _)).any (·.1)) || false) = false; rw [hse2]; rfl) (PySem.W.keeps_M hfi) (Calls.evalArgs_plain (thn hargs ?_))
  rintro vs s4 ⟨ws, H4, I4, r4, q4⟩
  refine ⟨⟨ClX.pin_at I4, I4.kIn⟩, ?_⟩
  show wpAny _ _ (call (.ref h2.objs.size) ([] ++ vs)) _ _ _
  rw [List.nil_append]
  refine wpAny_call (PySem.W.method_call (ClX.pin_at I4) ?_)
  have I5 := ClX.unpin I4
  refine codeAny_mono (run_fnR (us := .ref x :: vs) (vs := .ref x :: ws) F2 (hr.deeper _) (hx A outer s H E) I5 (.cons (show RelV (.ref x) (.ref x) from rfl) r4) q4) fun r6 s6 q6 => ?_
  cases r6 with
  | error e6 => exact q6
  | ok fl =>
    cases fl with
    | ret u =>
      obtain ⟨v6, H6, I6, _, q7⟩ := q6
      exact wpAt_of_wpAny (wpAny_execs_nil ⟨.non, H6, I6.os, I6.bare, I6.base, I6.hok, rfl, q7⟩)
    | next => exact False.elim q6
    | brk => exact False.elim q6
    | cont => exact False.elim q6
end
end N1
set_option maxHeartbeats 2000000
/-! calls: static methods, C(a, *xs), f(..) and C() by positional promises -/
namespace N1
open PySem PySem.Spec PyProof.Rows L2 NdefX StX
section
variable {X : Cx} {pins : List (Addr × Obj)} {σ : L2.St} {H : Hp} {s : Shared} {CX : CXT} {k : Nat} {f C p g : Addr} {mc : Value} {m : Str} {sp : Sp} {E : XK} {o e : Expr} {es : List Expr} {to : TE} {t : TA} {apos pos p1 : Pos} {pl : Sem Bool} {x : Str}
/-- C.m is a static method: its record at p, its def at g -/
structure CSta (K : PySem.W.Frag) (C : Addr) (mc : Value) (m : Str) (p g : Addr) : Prop where
  at_ : PySem.W.findCls K (.ref C) mc m = some (.get (.builtin "staticmethod.__get__") (.ref p) .none (.ref C))
  rc : ∃ rest, PySem.W.recIn K p "staticmethod" = some (.ref g :: rest)
  kp : PySem.W.keepIn K (.ref g) = true
theorem getmethsm_ok {A : Around} {E' : Value → Shared → Prop} {Q : Value × List Value → Shared → Prop} (I : Inv X pins σ H s) (r : ClX.CRead X.K C mc) (k : CSta X.K C mc m p g) (h : ∀ s', Inv X pins σ H s' → Q (.ref g, []) s') :
    wpAny (model X.prog X.w) A (getMethod (.ref C) m pl) Q E' s := by
  obtain ⟨rest, hp⟩ := k.rc
  refine PySem.W.method_cls I.kIn r.ga (PySem.W.cls_bind I.kIn r.rd k.at_ ?_)
  exact wpAny_call (PySem.W.sm_get (s := { s with toks := s.toks + 1 }) I.kIn hp (PySem.W.handed_on rfl (h _ (I.tok _))))
def tSMeth (C : Addr) (sp : Sp) (E : XK) (to : TE) (t : TA) : TE := fun σ H Q => to σ H fun x H1 => x = .ref C ∧ t σ H1 fun vs H2 => sp vs H2 Q E
theorem pe_smeth (he : PE X o to) (r : ClX.CRead X.K C mc) (c : CSta X.K C mc m p g) (F : FnR X.prog X.w X.K X.mg X.base CX k g sp) (hr : Room k X.A) (hx : Passes CX X E) (ha : PA X (e :: es) t)
    (hst : starEach (e :: es) X.env = (false, eval e X.env) :: starEach es X.env := by rfl) (hpl : (backTo pos (starEach es X.env)).any (·.1) = false := by rfl)
    (ht : eval (.Call (.Attribute o m apos) (e :: es) [] pos) X.env = (do
      let ov ← eval o X.env
      standAt apos.atName
      let (f, first) ← holding [ov] (getMethod ov m pl)
      callWith pos f first (backTo pos (starEach (e :: es) X.env)) (backToKw pos (keywordEach [] X.env))) := by rfl) :
    PE X (.Call (.Attribute o m apos) (e :: es) [] pos) (tSMeth C sp E to t) := by
  refine ⟨fun pins s σ H Q I h => ?_⟩
  refine PySem.W.methodCall_KW (pl := pl) (thn (he.run pins s σ H _ I h) fun u s1 ⟨x, H1, I1, rx, ex, q⟩ => ?_) ht
  subst ex
  obtain rfl : u = Value.ref C := rx
  refine getmethsm_ok I1 r c fun s2 I2 => ?_
  refine PySem.W.callWith_K (h₀ := X.base) (first := []) I.ok.mod.kin c.kp (thn (ha.run pos _ s2 σ H1 _ I2 q) fun us s3 ⟨vs, H2, I3, rv, q2⟩ => ⟨I3.kIn, ?_⟩) hst hpl
  exact call_R F hr hx I3 rv q2
/-- f(e, ..), f a def of the module, by its positional promise -/
def tCallR (sp : Sp) (E : XK) (t : TA) : TE := fun σ H Q => t σ H fun vs H1 => sp vs H1 Q E
theorem pe_callR (F : FnR X.prog X.w X.K X.mg X.base CX k f sp) (hr : Room k X.A) (hk : PySem.W.keepIn X.K (.ref f) = true) (hg : Gl X x) (hm : X.mg x = some (.ref f)) (hx : Passes CX X E) (ha : PA X (e :: es) t) (hd : (x == ("__debug__" : Str)) = false := by decide)
    (he : starEach (e :: es) X.env = (false, eval e X.env) :: starEach es X.env := by rfl) (hpl : (backTo pos (starEach es X.env)).any (·.1) = false := by rfl) :
    PE X (.Call (.Name x p1) (e :: es) [] pos) (tCallR sp E t) := by
  refine ⟨fun pins s σ H Q I h => ?_⟩
  refine wpAny_Call_Name_kw (ld_glob I hg hm ?_ hd)
  refine PySem.W.callWith_K (h₀ := X.base) (first := []) I.ok.mod.kin hk (thn (ha.run pos pins s σ H _ I h) fun us s1 ⟨vs, H1, I1, r, q⟩ => ⟨I1.kIn, ?_⟩) he hpl
  exact call_R F hr hx I1 r q
/-- C(e, .., *y) -/
theorem pe_makeS (M : Mk X.K C f) (F : FnR X.prog X.w X.K X.mg X.base CX k f sp) (hr : Room (k + 1) X.A) (hg : Gl X x) (hm : X.mg x = some (.ref C)) (hx : Passes CX X E) (ha : PA X (e :: es) t) (hdb : (x == ("__debug__" : Str)) = false := by decide)
    (he : starEach (e :: es) X.env = (false, eval e X.env) :: starEach es X.env := by rfl) (hst : (backTo pos (starEach es X.env)).any (·.1) = true := by rfl) : PE X (.Call (.Name x p1) (e :: es) [] pos) (tMakeR C sp E t) := by
  refine ⟨fun pins s σ H Q I h => ?_⟩
  refine wpAny_Call_Name_kw (ld_glob I hg hm ?_ hdb)
  refine PySem.W.callWith_S2 (h₀ := X.base) I.ok.mod.kin M.kp (thn (ha.run pos pins s σ H _ I h) fun us s1 ⟨vs, H1, I1, r, q⟩ => ⟨I1.kIn, ?_⟩) he hst
  exact run_makeR M F hr hx I1 r q
/-- C() -/
def tMakeR0 (C : Addr) (sp : Sp) (E : XK) : TE := fun σ H Q => ∀ x dx, H x = Option.none → H dx = Option.none → dx ≠ x → sp [V.ref x] (upd (upd H dx (.own x)) x (.ins C dx [])) (fun v H2 => v = .non ∧ Q (.ref x) H2) E
theorem pe_makeR0 (M : Mk X.K C f) (F : FnR X.prog X.w X.K X.mg X.base CX k f sp) (hr : Room (k + 1) X.A) (hg : Gl X x) (hm : X.mg x = some (.ref C)) (hx : Passes CX X E) (hdb : (x == ("__debug__" : Str)) = false := by decide) :
    PE X (.Call (.Name x p1) [] [] pos) (tMakeR0 C sp E) := by
  refine ⟨fun pins s σ H Q I h => ?_⟩
  refine wpAny_Call_Name_kw (ld_glob I hg hm ?_ hdb)
  refine PySem.W.callWith_K0 I.kIn M.kp ?_
  exact run_makeR (us := []) (vs := []) M F hr hx I .nil h
end
end N1
set_option maxHeartbeats 2000000
/-! ** : a dict merged into another one; {**a, k: v}; C(**a); def __init__(self, **d) -/
namespace N1
open PySem PySem.Spec PyProof.Rows L2
section
variable {prog : Program} {w : World} {K : Type} [DecidableEq K] {knd : KeyKind prog w K} {A : Around} {E : Value → Shared → Prop} {s : Shared}
theorem wpAny_dictPut_pairs {d : Addr} {kvs : List (K × Value)} {k : K} {key v : Value} {Q : Unit → Shared → Prop} (hkey : knd.is k key = true) (hm : s.heap.DictOf knd d kvs)
    (hQ : ∀ h', h'.DictOf knd d (stored kvs k v) → Heap.SameBut d s.heap h' → Q () { s with heap := h' })
    (hsz : kvs.length ≤ sizeLine := by size_fits) :
    wpAny (model prog w) A (dictPut d (knd.hash k) key v) Q E s := by
  obtain ⟨o, es, ep, ho, hc, hd, hk, hp, hn⟩ := hm
  have hes : es.size ≤ sizeLine := by have e1 := hp.length; have e2 : es.toList.length = es.size := by simp
                                      omega
  unfold dictPut
  refine wpAny_bind (wpAny_dictFind_of hkey ho hd hk ?_)
  have hidx : (es.findIdx? fun e => knd.is k e.key) = kvs.findIdx? fun kv => decide (kv.1 = k) := by
    rw [← hp.findIdx k]; obtain ⟨l⟩ := es; simp
  cases hi : es.findIdx? fun e => knd.is k e.key with
  | some i =>
    refine (wpAny_updateDict ho hd (hQ _ ⟨_, _, ep, Heap.get?_update_self _ ho (Obj.isFreed_of_dict (Obj.data_mapDict hd _)),
      hc.mapDict _, Obj.data_mapDict hd _, hk.modify _ _, ?_, ?_⟩ (Heap.SameBut.update ..)))
    · rw [stored, if_pos (any_of_findIdx_some (hidx ▸ hi))]
      have hl : (es.toList.findIdx? fun e => knd.is k e.key) = some i := by rw [← hi]; obtain ⟨l⟩ := es; simp
      have := hp.modify hn hl v
      obtain ⟨l⟩ := es
      simpa using this
    · rw [stored, if_pos (any_of_findIdx_some (hidx ▸ hi)), keys_map_store]; exact hn
  | none =>
    have hnot : k ∉ kvs.map (·.1) := not_mem_of_findIdx_none (hidx ▸ hi)
    have hany : ¬ (kvs.any fun kv => decide (kv.1 = k)) = true := by
      rw [List.any_eq_true]; rintro ⟨kv, hkv, he⟩
      exact hnot (List.mem_map.mpr ⟨kv, hkv, of_decide_eq_true he⟩)
    refine (wpAny_updateDictKeys (hz := hes) ho hd (hQ _ ⟨_, _, ep + 1, Heap.get?_update_self _ ho (Obj.isFreed_of_dict (Obj.data_mapDictKeys hd _)),
      hc.mapDictKeys _, Obj.data_mapDictKeys hd _, hk.push hkey _, ?_, ?_⟩ (Heap.SameBut.update ..)))
    · rw [stored, if_neg hany]
      have := hp.append hkey (knd.hash k) v
      obtain ⟨l⟩ := es
      simpa using this
    · rw [stored, if_neg hany, List.map_append, List.nodup_append]
      refine ⟨hn, by simp, ?_⟩
      intro a ha b hb
      simp only [List.map_cons, List.map_nil, List.mem_singleton] at hb
      subst hb
      exact fun e => hnot (e ▸ ha)
end
section
variable {prog : Program} {w : World} {A : Around} {E : Value → Shared → Prop} {s : Shared}
theorem dictFind_none {d : Addr} {kvs : List (Key × Value)} {k : Key} {key : Value} {Q : Option Nat → Shared → Prop} (hkey : (mixKind prog w).is k key = true) (hm : s.heap.DictOf (mixKind prog w) d kvs) (hn : k ∉ kvs.map (·.1)) (h : Q none s) :
    wpAny (model prog w) A (dictFind d key ((mixKind prog w).hash k)) Q E s := by
  obtain ⟨o, es, ep, ho, hc, hd, hk, hp, hnd⟩ := hm
  refine wpAny_dictFind_of hkey ho hd hk ?_
  have hidx : (es.findIdx? fun e => (mixKind prog w).is k e.key) = kvs.findIdx? fun kv => decide (kv.1 = k) := by
    rw [← hp.findIdx k]; obtain ⟨l⟩ := es; simp
  rw [hidx, List.findIdx?_eq_none_iff.mpr]
  · exact h
  · intro x hx
    exact decide_eq_false fun e => hn (List.mem_map.mpr ⟨x, hx, e⟩)
theorem wpAny_mergeMapping {u : Bool} {d o : Addr} {kvs more : List (Key × Value)} {Q : Unit → Shared → Prop} (hdo : d ≠ o) (hoS : (o == sysModules) = false)
    (hd : s.heap.DictOf (mixKind prog w) d kvs) (ho : s.heap.DictOf (mixKind prog w) o more) (hu : u = true → ((kvs ++ more).map (·.1)).Nodup)
    (hQ : ∀ h', h'.DictOf (mixKind prog w) d (merged kvs more) → Heap.SameBut d s.heap h' → Q () { s with heap := h' })
    (hsz : kvs.length + more.length ≤ sizeLine) :
    wpAny (model prog w) A (mergeMapping d (.ref o) u) Q E s := by
  obtain ⟨od, esd, epd, hod, hcd, hdd, hkd, hpd, hnd⟩ := id hd
  obtain ⟨oo, eso, epo, hoo, hco, hdo', hko, hpo, hno⟩ := id ho
  have hlen : more.length = eso.size := by rw [← hpo.length]; simp
  unfold mergeMapping
  refine wpAny_bind (wpAny_isInstance ho.typeIs isSubtype_dict_dict ?_)
  dsimp only
  rw [if_pos rfl]
  refine wpAny_bind (wpAny_specialOf ho.typeIs F.slot_dict_iter.lookup (wpAny_bind (wpAny_pure ?_)))
  simp only [beq_self_eq_true]
  rw [if_neg (by rw [hoS]; exact Bool.false_ne_true)]
  have loop : wpAny (model prog w) A (do
      let l ← dictEntries o
      let epoch ← dictEpoch o
      forIn (List.range l.size) PUnit.unit fun i (_ : PUnit) => (do
          let l' ← dictEntries o
          match l'[i]? with
            | some e => do
              holding [e.key, e.val] (if u = true then do
                  let r ← dictFind d e.key e.hash
                  if r.isSome = true then do
                    rule "dict.merge.duplicate-key"
                    let x ← newExc (.type "KeyError") [e.key]
                    (raiseNew x : Sem PUnit)
                    dictPut d e.hash e.key e.val
                  else dictPut d e.hash e.key e.val
                else dictPut d e.hash e.key e.val)
              let e2 ← dictEpoch o
              if (e2 != epoch) = true then do
                (unsupported "dict.changed-during-merge" : Sem PUnit)
                pure (ForInStep.yield PUnit.unit)
              else pure (ForInStep.yield PUnit.unit)
            | _ => do
              (unsupported "dict.changed-during-merge" : Sem PUnit)
              pure (ForInStep.yield PUnit.unit) : Sem (ForInStep PUnit))
      pure ()) Q E s := by
    refine wpAny_bind (wpAny_dictEntries hoo hdo' ?_)
    refine wpAny_bind (wpAny_dictEpoch hoo hdo' ?_)
    refine wpAny_bind ?_
    rw [List.range_eq_range']
    refine wpAny_forIn_list _
      (fun rest _ s' => ∃ h' i, s' = { s with heap := h' } ∧ rest = List.range' i (eso.size - i) ∧ i ≤ eso.size ∧ h'.DictOf (mixKind prog w) d (merged kvs (more.take i)) ∧ h'.get? o = some oo ∧ Heap.SameBut d s.heap h')
      _ ?_ ?_ _ _ ⟨s.heap, 0, rfl, by simp, Nat.zero_le _, by simpa [merged] using hd, hoo, Heap.SameBut.refl _ _⟩
    · rintro x rest b s' ⟨h', i, rfl, hr, hi, hd', hoo', hs'⟩
      have hlt : i < eso.size := by
        rcases Nat.lt_or_ge i eso.size with h | h
        · exact h
        · rw [Nat.sub_eq_zero_of_le h] at hr; simp at hr
      obtain ⟨rfl, hrest⟩ : x = i ∧ rest = List.range' (i + 1) (eso.size - (i + 1)) := by
        have e : eso.size - i = (eso.size - (i + 1)) + 1 := by omega
        rw [e, List.range'_succ] at hr
        injection hr with h1 h2
        exact ⟨h1, h2⟩
      refine wpAny_bind (wpAny_dictEntries hoo' hdo' ?_)
      rw [Array.getElem?_eq_getElem hlt]
      have hxm : x < more.length := by rw [hlen]; exact hlt
      obtain ⟨kv, hkv⟩ : ∃ kv, more[x]? = some kv := ⟨more[x]'hxm, List.getElem?_eq_getElem _⟩
      obtain ⟨k, v⟩ := kv
      obtain ⟨hkey, hval⟩ := hpo.get? (e := eso[x]) (by simp [hlt]) hkv
      obtain ⟨k', hkey', hhash⟩ := hko eso[x] (Array.getElem_mem hlt)
      obtain rfl : k' = k := (mixKind prog w).inj _ _ _ hkey' hkey
      dsimp only
      rw [hhash, hval]
      have hmx : (merged kvs (more.take x)).length ≤ sizeLine := by
        have e1 := merged_length_le kvs (more.take x)
        have e2 : (more.take x).length ≤ more.length := by rw [List.length_take]; omega
        omega
      refine wpAny_bind (wpAny_holding ?_)
      cases u with
      | false =>
        rw [if_neg Bool.false_ne_true]
        refine wpAny_dictPut_pairs (hsz := hmx) hkey hd' fun h'' hd'' hs'' => ?_
        have hoo'' : h''.get? o = some oo := (hs''.2 o (Ne.symm hdo)).trans hoo'
        refine wpAny_bind (wpAny_dictEpoch hoo'' hdo' ?_)
        rw [if_neg (by simp)]
        exact wpAny_pure ⟨h'', x + 1, rfl, hrest, hlt, by rw [merged_take_succ kvs more x (k', v) hkv]; exact hd'', hoo'', hs'.trans hs''⟩
      | true =>
        have hnd2 := hu rfl
        have hfresh : k' ∉ (merged kvs (more.take x)).map (·.1) := by
          have hsub : ((kvs ++ more.take x).map (·.1)).Nodup := by
            refine List.Nodup.sublist ?_ hnd2
            exact List.Sublist.map _ (List.Sublist.append (List.Sublist.refl _) (List.take_sublist _ _))
          rw [merged_append_of_fresh kvs (more.take x) hsub]
          intro hm
          rw [List.map_append] at hm hnd2
          rcases List.mem_append.mp hm with hm | hm
          · exact (List.nodup_append.mp hnd2).2.2 k' hm k' (List.mem_map.mpr ⟨_, List.mem_of_getElem? hkv, rfl⟩) rfl
          · have hn2 := (List.nodup_append.mp hnd2).2.1
            obtain ⟨p, hp, hpe⟩ := List.mem_map.mp hm
            obtain ⟨j, hj, hje⟩ := List.getElem_of_mem hp
            rw [List.length_take] at hj
            rw [List.getElem_take] at hje
            have e1 : (more.map (·.1))[j]'(by simp; omega) = (more.map (·.1))[x]'(by simp; omega) := by
              rw [List.getElem_map, List.getElem_map, hje, hpe]
              have := List.getElem?_eq_some_iff.mp hkv
              obtain ⟨_, e⟩ := this
              rw [e]
            have := (List.getElem_inj hn2).mp e1
            omega
        rw [if_pos rfl]
        refine wpAny_bind (dictFind_none hkey hd' hfresh ?_)
        rw [if_neg (by simp)]
        refine wpAny_dictPut_pairs (hsz := hmx) hkey hd' fun h'' hd'' hs'' => ?_
        have hoo'' : h''.get? o = some oo := (hs''.2 o (Ne.symm hdo)).trans hoo'
        refine wpAny_bind (wpAny_dictEpoch hoo'' hdo' ?_)
        rw [if_neg (by simp)]
        exact wpAny_pure ⟨h'', x + 1, rfl, hrest, hlt, by rw [merged_take_succ kvs more x (k', v) hkv]; exact hd'', hoo'', hs'.trans hs''⟩
    · rintro b s' ⟨h', i, rfl, hr, hi, hd', hoo', hs'⟩
      have hin : i = eso.size := by
        rcases Nat.lt_or_ge i eso.size with h | h
        · have e : eso.size - i = (eso.size - (i + 1)) + 1 := by omega
          rw [e, List.range'_succ] at hr; exact nomatch hr
        · exact Nat.le_antisymm hi h
      refine wpAny_pure (hQ h' ?_ hs')
      rw [hin, ← hlen, List.take_length] at hd'; exact hd'
  refine wpAny_bind (wpAny_dictEntries hod hdd ?_)
  split
  · refine wpAny_bind (wpAny_dictEntries hoo hdo' ?_)
    refine wpAny_bind ?_
    rw [← Array.forIn_toList]
    refine wpAny_forIn_list _ (fun rest _ s' => s' = s ∧ ∀ e ∈ rest, e ∈ eso.toList) _ ?_ ?_ _ _ ⟨rfl, fun _ h => h⟩
    · rintro e rest b s' ⟨rfl, hr⟩
      obtain ⟨k, hkey, _⟩ := hko e (Array.mem_toList_iff.mp (hr e List.mem_cons_self))
      have hk2 : keyIs k e.key = true := hkey
      have hz : ∀ e ∈ rest, e ∈ eso.toList := fun e h => hr e (List.mem_cons_of_mem _ h)
      rcases keyIs_shape hk2 with ⟨i, t, _, e1⟩ | ⟨x, t, _, e1⟩
      · rw [e1]
        exact wpAny_pure ⟨rfl, hz⟩
      · rw [e1]
        exact wpAny_pure ⟨rfl, hz⟩
    · rintro b s' ⟨rfl, _⟩
      exact loop
  · exact loop
end
end N1
set_option maxHeartbeats 2000000
/-! C(**a), C(k = v, ..); def __init__(self, **d) -/
namespace N1
open PySem PySem.Spec PyProof.Rows L2
section
variable {prog : Program} {w : World} {A : Around} {E : Value → Shared → Prop} {s : Shared}
theorem keys_noref {es : Array DictEntry} (hk : PySem.KeysOf (mixKind prog w) es) : es.any (·.refKey) = false := by
  rw [Array.any_eq_false']
  intro e he
  obtain ⟨k, h1, _⟩ := hk e he
  have h2 : keyIs k e.key = true := h1
  rcases keyIs_shape h2 with ⟨i, t, _, e1⟩ | ⟨x, t, _, e1⟩ <;> simp [DictEntry.refKey, e1]
theorem find_name {es : Array DictEntry} (x : Str) : (es.findIdx? fun e => (mixKind prog w).is (Sum.inr x) e.key) = es.findIdx? (·.key.isStr x) := by
  congr 1
  funext e
  show keyIs (Sum.inr x) e.key = e.key.isStr x
  cases e.key <;> rfl
theorem wpAny_nsSet_new {d : Addr} {kvs : List (Key × Value)} {x : Str} {v : Value} {Q : Unit → Shared → Prop} (hm : s.heap.DictOf (mixKind prog w) d kvs) (hx : (Sum.inr x : Key) ∉ kvs.map (·.1))
    (hQ : ∀ h', h'.DictOf (mixKind prog w) d (kvs ++ [(Sum.inr x, v)]) → Heap.SameBut d s.heap h' → Q () { s with heap := h', toks := s.toks + 1 }) : wpAny (model prog w) A (nsSet d x v) Q E s := by
  intro Γ p _
  obtain ⟨o, es, ep, ho, hc, hd, hk, hp, hn⟩ := hm
  simp only [nsSet, strHash, Sem.wp_bind', Sem.wp_cmd_ask, Sem.wp_pure', Sem.wp_cmd_mkText]
  rw [Sem.wp_loadPart_of _ Γ _ p { s with toks := s.toks + 1 } (o := o) _ ho]
  have hany := keys_noref hk
  simp only [hd, aRefKeyMayBeTheName_eq, aRefKeyMayBeTheNameByArray, hany, Bool.and_false, Bool.false_eq_true, if_false, Sem.wp_cmd_updatePart]
  refine ⟨by rw [ho]; rfl, hQ _ ?_ (Heap.SameBut.update ..)⟩
  have hidx : (es.findIdx? fun e => (mixKind prog w).is (Sum.inr x) e.key) = kvs.findIdx? fun kv => decide (kv.1 = Sum.inr x) := by
    rw [← hp.findIdx (Sum.inr x)]; obtain ⟨l⟩ := es; simp
  have hi : es.findIdx? (·.key.isStr x) = none := by
    rw [← find_name (prog := prog) (w := w), hidx, List.findIdx?_eq_none_iff.mpr]
    intro y hy
    exact decide_eq_false fun e => hx (List.mem_map.mpr ⟨y, hy, e⟩)
  obtain ⟨c, d', dt, sl⟩ := o
  subst hd
  have hobj : Obj.putName x (if x.cps.isEmpty = true then 0 else reduceHash ((model prog w).w.params.strHash x.cps)) (.str x s.toks) v ⟨c, d', .dict es ep, sl⟩ = ⟨c, d', .dict (es.push ⟨hashStr w x, .str x s.toks, v⟩) (ep + 1), sl⟩ := by
    simp only [Obj.putName_eq, Obj.putNameByArray, hi]
    rfl
  refine ⟨⟨c, d', .dict (es.push ⟨hashStr w x, .str x s.toks, v⟩) (ep + 1), sl⟩, es.push ⟨hashStr w x, .str x s.toks, v⟩, ep + 1, ?_, hc, rfl, hk.push (k := Sum.inr x) (key := .str x s.toks) (keyIs_str x s.toks) _, ?_, ?_⟩
  · have q := Heap.get?_update_self (Obj.putName x (if x.cps.isEmpty = true then 0 else reduceHash ((model prog w).w.params.strHash x.cps)) (.str x s.toks) v) ho (by rw [hobj]; rfl)
    rw [hobj] at q
    exact q
  · have := hp.append (k := Sum.inr x) (key := .str x s.toks) (keyIs_str x s.toks) ((mixKind prog w).hash (Sum.inr x)) v
    obtain ⟨l⟩ := es
    have e : (mixKind prog w).hash (Sum.inr x) = hashStr w x := rfl
    rw [e] at this
    simpa using this
  · rw [List.map_append, List.nodup_append]
    refine ⟨hn, by simp, ?_⟩
    intro a ha b hb
    simp only [List.map_cons, List.map_nil, List.mem_singleton] at hb
    subst hb
    exact fun e => hx (e ▸ ha)
end
/-- keywords: names and values -/
abbrev KwV : List (Str × V) → List (Str × Value) → Prop := KV
def kwKeys (kw : List (Str × V)) : List (Key × V) := kw.map fun q => (Sum.inr q.1, q.2)
section
variable {prog : Program} {w : World} {A : Around} {E : Value → Shared → Prop} {s : Shared}
/-- a dict of the keywords, one after the other -/
theorem nsSets {d : Addr} {Q : PUnit → Shared → Prop} : ∀ (kw : List (Str × Value)) (kvs : List (Key × Value)) {s : Shared}, s.heap.DictOf (mixKind prog w) d kvs → ((kvs.map (·.1)) ++ kw.map fun q => (Sum.inr q.1 : Key)).Nodup →
    (∀ h' t', h'.DictOf (mixKind prog w) d (kvs ++ kw.map fun q => (Sum.inr q.1, q.2)) → Heap.SameBut d s.heap h' → Q ⟨⟩ { s with heap := h', toks := t' }) →
    wpAny (model prog w) A (forIn kw PUnit.unit fun q (_ : PUnit) => (do nsSet d q.1 q.2; pure (ForInStep.yield PUnit.unit) : Sem (ForInStep PUnit))) Q E s
  | [], kvs, s, hd, _, hQ => by
    rw [List.forIn_nil]
    have := hQ s.heap s.toks (by simpa using hd) (Heap.SameBut.refl _ _)
    exact wpAny_pure this
  | (x, v) :: r, kvs, s, hd, hn, hQ => by
    rw [List.forIn_cons]
    refine wpAny_bind (wpAny_bind (wpAny_nsSet_new (x := x) (v := v) hd ?_ fun h' hd' hs' => wpAny_pure ?_))
    · intro hm
      have := (List.nodup_append.mp hn).2.2 _ hm (Sum.inr x) (by simp)
      exact this rfl
    · refine nsSets r (kvs ++ [(Sum.inr x, v)]) hd' (by simpa using hn) fun h2 t2 hd2 hs2 => ?_
      exact hQ h2 t2 (by simpa using hd2) (hs'.trans hs2)
theorem bind_kw {name qual : Str} {a0 ak : Arg} {kd : List (Option Expr)} {body : List Stmt} {scope : Scope} {kV doc pm cdv ct : Value} {an : Option Addr} {x : Value} {kw : List (Str × Value)} {Q : List (Str × Value) → Shared → Prop}
    (hk : ∀ q ∈ kw, q.1 ≠ a0.arg) (hl : kw.length ≤ sizeLine)
    (h : wpAny (model prog w) A (do
      let d ← (alloc ({ cls := .type "dict", data := .dict #[] } : Obj) : Sem Addr)
      let _ ← forIn kw PUnit.unit fun q (_ : PUnit) => (do nsSet d q.1 q.2; pure (ForInStep.yield PUnit.unit) : Sem (ForInStep PUnit))
      pure [(a0.arg, x), (ak.arg, Value.ref d)]) Q E s) :
    wpAny (model prog w) A (bindArgs (PySem.W.fnOf name qual { posonlyargs := [], args := [a0], vararg := none, kwonlyargs := [], kw_defaults := kd, kwarg := some ak, defaults := [] } body scope .none kV doc pm an cdv ct) ⟨[x], kw⟩) Q E s := by
  unfold bindArgs
  dsimp only
  refine wpAny_bind (wpAny_forIn_list _ (fun rest b s' => s' = s ∧ ∃ done, kw = done ++ rest ∧ b = ([(a0.arg, x)], done)) _ ?_ ?_ _ _ ⟨rfl, [], rfl, rfl⟩)
  · rintro ⟨n, v⟩ rest b s' ⟨rfl, done, e, rfl⟩
    have hne : n ≠ a0.arg := hk (n, v) (by rw [e]; simp)
    have hc : (([a0].map (·.arg)).contains n || (([] : List Arg).map (·.arg)).contains n) = false := by
      simp [hne]
    dsimp only
    rw [hc, if_neg Bool.false_ne_true, if_pos (by rfl)]
    exact wpAny_pure ⟨rfl, done ++ [(n, v)], by rw [e]; simp, rfl⟩
  · rintro b s' ⟨rfl, done, e, rfl⟩
    rw [List.append_nil] at e
    subst e
    dsimp only
    refine wpAny_bind (wpAny_of_eq (a := (none : Option (Array Value))) rfl ?_)
    have hlk : List.lookup a0.arg [(a0.arg, x)] = some x := by simp [List.lookup]
    simp at h
    simp [hlk]
    rw [if_neg (by omega)]
    exact h
end
/-! ### the promise of a def with keywords -/
theorem size_keeps {h h' : Heap} (kp : ∀ b o, h.get? b = some o → h'.get? b = some o) {a : Addr} {o : Obj} (e : h.get? a = some o) : a < h'.objs.size := Heap.lt_size (kp _ _ e)
theorem env0_kept {P : Program} {w : World} {K : PySem.W.Frag} {mg : Str → Option Value} {base : Heap} {A : Around} {outer : List Env} {s : Shared} {H : Hp} {u : HO} {h' : Heap} {t' : Nat} {a : Addr} (e0 : Env0 P w K mg base A outer s H)
    (kp : ∀ b x, s.heap.get? b = some x → h'.get? b = some x) (hs : s.heap.objs.size ≤ h'.objs.size) (ha : s.heap.objs.size ≤ a) (new : ObjOk P w (upd H a u) h' a u) :
    Env0 P w K mg base A outer { s with heap := h', toks := t' } (upd H a u) := by
  refine ⟨e0.frames, e0.mod, fun b x e => ⟨kp b x (e0.bs b x e).1, ?_⟩, Nat.le_trans e0.bsz hs, Heap.FunFrames.of_keeps (fun b x e _ => ⟨x, kp b x e, rfl⟩) e0.funs, fun b hb => ?_, e0.hok.laid kp ha new, e0.bare⟩
  · rw [upd_ne (Nat.ne_of_lt (Nat.lt_of_lt_of_le (Heap.lt_size (e0.bs b x e).1) ha))]
    exact (e0.bs b x e).2
  · obtain ⟨_, x, hx, _⟩ := e0.funs.mem hb
    rw [upd_ne (Nat.ne_of_lt (Nat.lt_of_lt_of_le (Heap.lt_size hx) ha))]
    exact e0.frf b hb
/-- called with values vs and keywords kv -/
abbrev SpK := List V → List (Str × V) → Hp → VK → XK → Prop
def FnKw (P : Program) (w : World) (K : PySem.W.Frag) (mg : Str → Option Value) (base : Heap) (CX : CXT) (k : Nat) (f : Addr) (sp : SpK) : Prop :=
  ∀ (A : Around) (outer : List Env) (s : Shared) (H : Hp) (us : List Value) (vs : List V) (kw : List (Str × Value)) (kv : List (Str × V)) (Q : VK) (E : XK), Room k A → Env0 P w K mg base A outer s H → Vals vs us → KV kv kw → sp vs kv H Q E →
    codeAny (model P w) A (.call (.ref f) ⟨us, kw⟩) (CR CX outer P w H s Q E) s
theorem kv_names : ∀ {kv : List (Str × V)} {kw : List (Str × Value)}, KV kv kw → kv.map (·.1) = kw.map (·.1)
  | [], [], .nil => rfl
  | _ :: _, _ :: _, .cons a r => by
    rw [List.map_cons, List.map_cons, a.1, kv_names r]
theorem kv_keys : ∀ {kv : List (Str × V)} {kw : List (Str × Value)}, KV kv kw → KV (kwKeys kv) (kw.map fun q => ((Sum.inr q.1 : Key), q.2))
  | [], [], .nil => .nil
  | _ :: _, _ :: _, .cons a r => .cons ⟨congrArg Sum.inr a.1, a.2⟩ (kv_keys r)
section
variable {CX : CXT} {P : Program} {w : World} {K : PySem.W.Frag} {mg : Str → Option Value} {base : Heap} {k : Nat} {f : Addr} {name qual : Str} {a0 ak : Arg} {kd : List (Option Expr)} {body : List Stmt} {scope : Scope} {kV doc pm cdv ct oc : Value} {an od : Option Addr}
  {osl : Array (Option Value)} {N : List Str} {sp : Sp}
/-- def f(a, **d): the keywords are a new dict -/
theorem fn_kw (lk : K.lookup f = some ⟨oc, od, .func (PySem.W.fnOf name qual { posonlyargs := [], args := [a0], vararg := none, kwonlyargs := [], kw_defaults := kd, kwarg := some ak, defaults := [] } body scope .none kV doc pm an cdv ct), osl⟩) (hcd : PySem.W.codeIn K cdv qual = true)
    (S : FnScope N [a0.arg, ak.arg] scope) (hCX : StX.CXUp CX)
    (hbody : ∀ (A : Around) (outer : List Env) (s : Shared) (H : Hp) (vs : List V) (Q : VK) (E : XK), Room k (A.deeper (envOfC qual scope s.heap.objs.size f cdv)) → sp vs H Q E →
      ∃ t, PSs (cxOf CX P w K mg base N qual scope f cdv A outer s H E) body t ∧ t { nx := fun _ H' => Q .non H', rt := Q } (start N vs) H) :
    FnKw P w K mg base CX (k + 1) f (fun vs kv H Q E => ∃ x, vs = [x] ∧ (kv.map (·.1)).Nodup ∧ a0.arg ∉ kv.map (·.1) ∧ kv.length ≤ sizeLine ∧ ∀ d, H d = none → sp [x, .ref d] (upd H d (.dK (kwKeys kv))) Q E) := by
  intro A outer s H us vs kw kv Q E hr e0 r rk hsp
  obtain ⟨x, rfl, hnd, hna, hl, hsp⟩ := hsp
  obtain ⟨u, rfl, ru⟩ := r.one
  refine StX.run_bnd (G := fun vs2 H2 => ∃ d, vs2 = [x, .ref d] ∧ H d = none ∧ H2 = upd H d (.dK (kwKeys kv))) lk hcd S hr e0 ?_ ?_
  · intro A' Ex Q' hQ
    have hkl : kw.length ≤ sizeLine := by rw [← Paired.length rk]; exact hl
    refine bind_kw (fun q hq e => hna ?_) hkl ?_
    · rw [kv_names rk, ← e]
      exact List.mem_map.mpr ⟨q, hq, rfl⟩
    · have hb := StX.env0_big e0
      have hn0 : H s.heap.objs.size = none := e0.hok.fresh (Nat.le_refl _)
      refine wpAny_bind (wpAny_alloc ?_)
      refine wpAny_bind (nsSets kw [] (Heap.DictOf.new s.heap) (by
        rw [kv_names rk] at hnd
        have e : (kw.map fun q => (Sum.inr q.1 : Key)) = (kw.map (·.1)).map Sum.inr := by rw [List.map_map]; rfl
        rw [List.map_nil, List.nil_append, e]
        exact List.Pairwise.map _ (fun a b h e => h (Sum.inr.inj e)) hnd) fun h' t' hd' hs' => wpAny_pure ?_)
      have kp : ∀ b x, s.heap.get? b = some x → h'.get? b = some x := fun b x e => (hs'.2 b (Nat.ne_of_lt (Heap.lt_size e))).trans (Heap.get?_push_of_some _ e)
      have hsz : s.heap.objs.size ≤ h'.objs.size := by
        obtain ⟨o, _, _, ho, _⟩ := hd'
        exact Nat.le_of_lt (Heap.lt_size ho)
      have new : ObjOk P w (upd H s.heap.objs.size (.dK (kwKeys kv))) h' s.heap.objs.size (.dK (kwKeys kv)) :=
        dk_new (by unfold kwKeys; rw [List.length_map]; exact hl) (beq_eq_false_iff_ne.mpr (Ne.symm (Nat.ne_of_lt hb))) (kv_keys rk) (by simpa using hd')
      have un : Un (frs outer) [] H (upd H s.heap.objs.size (.dK (kwKeys kv))) s.heap h' := Un.laid kp (Nat.le_refl _) hn0
      exact hQ { s with heap := h', toks := t' } _ [x, .ref s.heap.objs.size] [u, .ref s.heap.objs.size] (env0_kept e0 kp hsz (Nat.le_refl _) new) un rfl (fun e s' => hCX outer s H _ _ E e s' un kp rfl) (.cons ru (.cons rfl .nil)) rfl ⟨_, rfl, hn0, rfl⟩
  · rintro s2 H2 vs2 ⟨d, rfl, hd, rfl⟩ hroom
    exact hbody A outer s2 _ _ Q E hroom (hsp d hd)
end
end N1
set_option maxHeartbeats 2000000
/-! C(**a), C(k = v) -/
namespace N1
open PySem PySem.Spec PyProof.Rows L2
section
variable {prog : Program} {w : World} {A : Around} {E : Value → Shared → Prop} {s : Shared}
/-- the pairs of a dict of texts as keywords -/
theorem keywordsIn_of {f : Value} {d : Addr} {kw : List (Str × Value)} {Q : List (Str × Value) → Shared → Prop} (hd : s.heap.DictOf (mixKind prog w) d (kw.map fun q => ((Sum.inr q.1 : Key), q.2))) (h : Q kw s) : wpAny (model prog w) A (keywordsIn f d) Q E s := by
  obtain ⟨o, es, ep, ho, hc, hdd, hk, hp, hn⟩ := hd
  unfold keywordsIn
  refine wpAny_bind (wpAny_dictEntries ho hdd ?_)
  rw [← Array.forIn_toList]
  refine wpAny_bind (wpAny_forIn_list _ (fun rest b s' => s' = s ∧ ∃ dn, b = dn ∧ ∃ kr, kw = dn ++ kr ∧ Pairs (mixKind prog w) rest (kr.map fun q => ((Sum.inr q.1 : Key), q.2))) _ ?_ ?_ _ _ ⟨rfl, [], rfl, kw, rfl, hp⟩)
  · rintro e rest b s' ⟨rfl, dn, rfl, kr, e1, p⟩
    cases kr with
    | nil => cases p
    | cons q kr =>
      obtain ⟨x, v⟩ := q
      have hh : (mixKind prog w).is (Sum.inr x) e.key = true ∧ e.val = v ∧ Pairs (mixKind prog w) rest (kr.map fun q => ((Sum.inr q.1 : Key), q.2)) := by
        cases p with
        | cons a b c => exact ⟨a, b, c⟩
      obtain ⟨h1, rfl, h3⟩ := hh
      have h1' : keyIs (Sum.inr x) e.key = true := h1
      rcases keyIs_shape h1' with ⟨i, t, q, _⟩ | ⟨y, t, q, e2⟩
      · cases q
      · cases q
        rw [e2]
        exact wpAny_pure ⟨rfl, b ++ [(x, e.val)], rfl, kr, by rw [e1]; simp, h3⟩
  · rintro b s' ⟨rfl, dn, rfl, kr, e1, p⟩
    cases kr with
    | nil =>
      rw [List.append_nil] at e1
      subst e1
      exact wpAny_pure h
    | cons q kr => cases p
end
section
variable {M : Model} {A : Around} {E : Value → Shared → Prop} {s : Shared}
theorem kw_call {f : Value} {first : List Value} {pos : Pos} {Q : Value → Shared → Prop} {P : Heap → Prop} {args : List (Bool × Sem Value)} {kws : List (Option Str × Sem Value)} (hst : kws.any (·.1.isNone) = true)
    (hk : ∀ h, P h → ∃ k, (k = Keeper.frame ∨ k = Keeper.machine ∨ k = Keeper.boundFrame) ∧ PySem.W.Looks M h (keeperOf f) k)
    (h : wpAny M A (evalArgs f true args kws) (fun a s₁ => P s₁.heap ∧ wpAny M A (call f (first ++ a.pos) a.kw) Q E s₁) E s) : wpAny M A (callWith pos f first args kws) Q E s := by
  unfold callWith
  refine wpAny_bind (wpAny_holding (wpAny_mono h (fun a s₁ h₁ => wpAny_bind (wpAny_standAt ?_)) fun _ _ x => x))
  obtain ⟨k, hk', L⟩ := hk _ h₁.1
  simp only [hst, Bool.or_true]
  refine wpAny_bind (L.here ?_)
  have tail : ∀ {t : Sem Value}, wpAny M A t Q E s₁ → wpAny M A (t >>= fun r => holding [r] point >>= fun _ => pure r) Q E s₁ :=
    fun ht => wpAny_bind (wpAny_mono ht (fun r s₂ hr => wpAny_bind (wpAny_holding (wpAny_point (wpAny_pure hr)))) fun _ _ x => x)
  have marked (mk : Value) : wpAny M A (callMarked mk f (first ++ a.pos) a.kw) Q E s₁ := by unfold callMarked; exact Calls.wpAny_keep h₁.2
  rcases hk' with rfl | rfl | rfl <;> dsimp only <;> first | exact tail (marked _) | exact tail (wpAny_operating h₁.2)
end
section
variable {X : Cx} {pins : List (Addr × Obj)} {σ : L2.St} {H : Hp} {s : Shared} {CX : CXT} {k : Nat} {f C : Addr} {sp : SpK} {E : XK} {e : Expr} {te : TE} {pos p1 kp : Pos} {x : Str}
theorem run_makeKw {Q : VK} {us : List Value} {vs : List V} {kw : List (Str × Value)} {kv : List (Str × V)} (M : Mk X.K C f) (F : FnKw X.prog X.w X.K X.mg X.base CX k f sp) (hr : Room (k + 1) X.A)
    (hx : Passes CX X E) (I : Inv X pins σ H s) (r : Vals vs us) (rk : KV kv kw)
    (h : ∀ x dx, H x = none → H dx = none → dx ≠ x → sp (.ref x :: vs) kv (upd (upd H dx (.own x)) x (.ins C dx [])) (fun v H2 => v = .non ∧ Q (.ref x) H2) E) :
    wpAny (model X.prog X.w) X.A (call (.ref C) us kw) (EP X pins σ Q) X.xe s := by
  have hq := h (s.heap.objs.size + 1) s.heap.objs.size (I.hok.fresh (Nat.le_succ _)) (I.hok.fresh (Nat.le_refl _)) (Nat.ne_of_lt (Nat.lt_succ_self _))
  have I2 := Inv.made (C := C) I
  have r1 : Vals (V.ref (s.heap.objs.size + 1) :: vs) (Value.ref (s.heap.objs.size + 1) :: us) := .cons rfl r
  refine wpAny_call (make_map (f := f) I.kIn M.makes M.init (beq_iff_eq.mp M.fn) (codeAny_mono (F _ X.stack _ _ (Value.ref (s.heap.objs.size + 1) :: us) _ kw kv _ E (hr.make C us kw)
    (I2.env0.make C us kw) r1 rk hq) fun r s' hq' => ?_))
  cases r with
  | error e => exact hx pins σ _ _ e s' I2 hq'
  | ok fl =>
    cases fl with
    | ret u =>
      obtain ⟨v, H', I3, rv, ev, q3⟩ := I2.after hq'
      subst ev
      exact ⟨rv, ⟨V.ref (s.heap.objs.size + 1), H', I3, rfl, q3⟩⟩
    | next => exact False.elim hq'
    | brk => exact False.elim hq'
    | cont => exact False.elim hq'
/-- **e : its pairs, in a new dict -/
def tKwOf (te : TE) (k : List (Str × V) → Hp → Prop) : L2.St → Hp → Prop := fun σ H => ∀ p, H p = none → te σ (upd H p (.dK [])) fun x H1 => ∃ d kv, x = .ref d ∧ d ≠ p ∧ H1 d = some (.dK (kwKeys kv)) ∧ H1 p = some (.dK []) ∧ k kv (upd H1 p (.dK (kwKeys kv)))
theorem merged_kw {kvs : List (Key × Value)} (h : (kvs.map (·.1)).Nodup) : merged [] kvs = kvs := merged_nil_of_nodup kvs h
/-- C(**e) -/
def tMakeDD (C : Addr) (sp : SpK) (E : XK) (te : TE) : TE := fun σ H Q => tKwOf te (fun kv H1 => ∀ x dx, H1 x = none → H1 dx = none → dx ≠ x → sp [.ref x] kv (upd (upd H1 dx (.own x)) x (.ins C dx [])) (fun v H2 => v = .non ∧ Q (.ref x) H2) E) σ H
theorem kv_split : ∀ {kv : List (Str × V)} {vs : List (Key × Value)}, KV (kwKeys kv) vs → ∃ kw : List (Str × Value), vs = kw.map (fun q => ((Sum.inr q.1 : Key), q.2)) ∧ KV kv kw
  | [], [], .nil => ⟨[], rfl, .nil⟩
  | (x, v) :: kv, (y, u) :: vs, .cons a r => by
    obtain ⟨kw, e1, r1⟩ := kv_split r
    have e2 : y = Sum.inr x := a.1.symm
    exact ⟨(x, u) :: kw, by rw [e1, e2]; rfl, .cons ⟨rfl, a.2⟩ r1⟩
theorem pe_makeDD (M : Mk X.K C f) (F : FnKw X.prog X.w X.K X.mg X.base CX k f sp) (hr : Room (k + 1) X.A) (hg : Gl X x) (hm : X.mg x = some (.ref C)) (hx : Passes CX X E) (he : PE X e te) (hdb : (x == ("__debug__" : Str)) = false := by decide)
    (hkw : ∃ u : Sem Value, backToKw pos (keywordEach [⟨none, e, kp⟩] X.env) = [(none, u)] ∧ ∀ {Q : Value → Shared → Prop} {s : Shared}, wpAny (model X.prog X.w) X.A (eval e X.env) Q X.xe s → wpAny (model X.prog X.w) X.A u Q X.xe s) :
    PE X (.Call (.Name x p1) [] [⟨none, e, kp⟩] pos) (tMakeDD C sp E te) := by
  refine ⟨fun pins s σ H Q I h => ?_⟩
  refine wpAny_Call_Name_kw (ld_glob I hg hm ?_ hdb)
  obtain ⟨u, hu, hr'⟩ := hkw
  rw [hu]
  refine kw_call (P := fun h => X.K.In h) (by rfl) (fun h hh => PySem.W.keeps_K M.kp h hh) ?_
  unfold evalArgs
  refine wpAny_bind (wpAny_of_eq (a := []) rfl (wpAny_bind (wpAny_pure ?_)))
  dsimp only
  refine wpAny_holding ?_
  rw [if_neg (show ¬ ([(none, u)].all fun x : Option Str × Sem Value => x.1.isSome) = true from Bool.false_ne_true)]
  unfold mergedKeywords
  refine wpAny_bind (wpAny_bind (wpAny_alloc ?_))
  refine wpAny_bind (wpAny_holding ?_)
  have hn := I.hok.fresh (Nat.le_refl s.heap.objs.size)
  have I1 := I.laid (a := s.heap.objs.size) (o := .dK []) (h' := s.heap.push { cls := .type "dict", data := .dict #[] }) (t' := s.toks) (fun _ _ q => Heap.get?_push_of_some _ q) (Nat.le_refl _) (dk_empty s.heap I.big)
  have h1 := he.run pins _ _ _ _ I1 (h _ hn)
  refine wpAny_bind ?_
  rw [List.forIn_cons]
  refine wpAny_bind (wpAny_bind (wpAny_of_eq (a := PUnit.unit) rfl ?_))
  refine wpAny_bind (hr' (thn h1 ?_))
  rintro v s2 ⟨y, H2, I2, ry, d, kv, rfl, hne, hd, hp, q⟩
  obtain rfl : v = Value.ref d := ry
  obtain ⟨z1, b1, vs1, rel1, dd1⟩ := dk_of I2.hok hd
  obtain ⟨z2, b2, vs2, rel2, dd2⟩ := dk_of I2.hok hp
  cases rel2
  obtain ⟨kw, rfl, rkw⟩ := kv_split rel1
  have hnd : ((kw.map fun q => ((Sum.inr q.1 : Key), q.2)).map (·.1)).Nodup := let ⟨_, _, _, _, _, _, _, _, z⟩ := dd1; z
  refine wpAny_bind (wpAny_onRaise (wpAny_holding (wpAny_tryCatch (wpAny_onRaise (wpAny_mergeMapping (Ne.symm hne) b1 dd2 dd1 (fun _ => by simpa using hnd) (fun h' dd' hs => ?_) (by rw [← Paired.length rel1]; simpa using z1))))))
  rw [merged_kw hnd] at dd'
  have I3 : Inv X pins σ (upd H2 s.heap.objs.size (.dK (kwKeys kv))) { s2 with heap := h' } := d_write I2 (by rw [hp]; exact True.intro) hs (let ⟨q, _, _, hq, _⟩ := dd'; ⟨q, hq⟩) (dk_new z1 b2 rel1 dd')
  refine wpAny_pure ?_
  dsimp only
  rw [List.forIn_nil]
  refine wpAny_pure (wpAny_of_eq (a := PUnit.unit) rfl (wpAny_pure (wpAny_bind (wpAny_pure ?_))))
  refine wpAny_bind (wpAny_holding (keywordsIn_of dd' (wpAny_pure ⟨I3.kIn, ?_⟩)))
  exact run_makeKw (us := []) (vs := []) M F hr hx I3 .nil rkw q
theorem kw_star {X : Cx} {e : Expr} {kp pos : Pos} : ∃ u : Sem Value, backToKw pos (keywordEach [⟨none, e, kp⟩] X.env) = [(none, u)] ∧ ∀ {Q : Value → Shared → Prop} {s : Shared}, wpAny (model X.prog X.w) X.A (eval e X.env) Q X.xe s → wpAny (model X.prog X.w) X.A u Q X.xe s :=
  ⟨_, rfl, fun h => wpAny_bind (thn h fun _ _ q => wpAny_bind (wpAny_standAt (wpAny_pure q)))⟩
theorem kv_zip : ∀ {ks : List Str} {zs : List V} {ws : List Value}, Vals zs ws → KV (ks.zip zs) (ks.zip ws)
  | [], _, _, _ => .nil
  | _ :: _, [], [], .nil => .nil
  | _ :: _, _ :: _, _ :: _, .cons a r => .cons ⟨rfl, a⟩ (kv_zip r)
/-- C(k = e, ..) -/
def tMakeK (C : Addr) (sp : SpK) (E : XK) (ks : List Str) (tk : TA) : TE := fun σ H Q => tk σ H fun zs H1 => ∀ x dx, H1 x = none → H1 dx = none → dx ≠ x → sp [.ref x] (ks.zip zs) (upd (upd H1 dx (.own x)) x (.ins C dx [])) (fun v H2 => v = .non ∧ Q (.ref x) H2) E
theorem pe_makeK {kws : List Keyword} {ks : List Str} {tk : TA} (M : Mk X.K C f) (F : FnKw X.prog X.w X.K X.mg X.base CX k f sp) (hr : Room (k + 1) X.A) (hg : Gl X x) (hm : X.mg x = some (.ref C)) (hx : Passes CX X E) (hkw : PK X kws tk) (hdb : (x == ("__debug__" : Str)) = false := by decide)
    (hall : (backToKw pos (keywordEach kws X.env)).all (·.1.isSome) = true := by rfl) (hks : (backToKw pos (keywordEach kws X.env)).filterMap (·.1) = ks := by rfl) (hany : (backToKw pos (keywordEach kws X.env)).any (·.1.isNone) = false := by rfl) :
    PE X (.Call (.Name x p1) [] kws pos) (tMakeK C sp E ks tk) := by
  refine ⟨fun pins s σ H Q I h => ?_⟩
  refine wpAny_Call_Name_kw (ld_glob I hg hm ?_ hdb)
  refine PySem.W.callWith_of (P := fun h => X.K.In h) (by show (false || _) = false; rw [hany]; rfl) (fun h hh => PySem.W.keeps_K M.kp h hh) ?_
  unfold evalArgs
  refine wpAny_bind (wpAny_of_eq (a := []) rfl (wpAny_bind (wpAny_pure ?_)))
  dsimp only
  refine wpAny_holding ?_
  rw [if_pos hall, hks]
  refine wpAny_bind (thn (hkw.run pos pins s σ H _ I h) fun ws s2 ⟨zs, H2, I2, rz, q⟩ => ?_)
  refine wpAny_bind (wpAny_pure (wpAny_pure ⟨I2.kIn, ?_⟩))
  exact run_makeKw (us := []) (vs := []) M F hr hx I2 .nil (kv_zip rz) q
end
end N1
set_option maxHeartbeats 2000000
/-! {**a, k: v} -/
namespace N1
open PySem PySem.Spec PyProof.Rows L2
section
variable {X : Cx} {pins : List (Addr × Obj)} {σ : L2.St} {H : Hp} {s : Shared} {a k v : Expr} {ta tk tv : TE} {pos : Pos}
/-- {**a, k: v}: p the new dict, q a dict of the one pair (it is merged too) -/
def tDispU (ta tk tv : TE) : TE := fun σ H Q => ∀ p, H p = none → ta σ (upd H p (.dK [])) fun x H1 => ∃ d kvs, x = .ref d ∧ d ≠ p ∧ H1 d = some (.dK kvs) ∧ H1 p = some (.dK []) ∧ kvs.length < sizeLine ∧
  ∀ q, (upd H1 p (.dK kvs)) q = none → tk σ (upd (upd H1 p (.dK kvs)) q (.dK [])) fun y H2 => tv σ H2 fun z H3 => ∃ key : Key, y = kV key ∧ H3 q = some (.dK []) ∧ H3 p = some (.dK kvs) ∧ Q (.ref p) (upd (upd H3 q (.dK [(key, z)])) p (.dK (putK kvs key z)))
theorem dictDisplay_u {A B C : Sem Value} : dictDisplay [(none, A), (some B, C)] = (do
    let d ← (alloc ({ cls := .type "dict", data := .dict #[] } : Obj) : Sem Addr)
    let m ← holding [.ref d] A
    (((holding [.ref d, m] (mergeMapping d m false)).onRaise fun x => do let _ ← holding [.ref d, m, x] (runValue (.builtin "proto.let_go" {}))).tryCatch fun e => do
        if ← isInstance e (.type "AttributeError") then
          rule "dict.display.not-a-mapping"; raiseError "TypeError" s!"'{← typeNameOf m}' object is not a mapping"
        throw e).onRaise fun x => do let _ ← holding [.ref d, x] (runValue (.builtin "proto.let_go" {}))
    let sub ← holding [.ref d] (subDict [(B, C)])
    (holding [.ref d, .ref sub] (mergeMapping d (.ref sub) false)).onRaise fun x => do let _ ← holding [.ref d, x] (runValue (.builtin "proto.let_go" {}))
    pure (.ref d)) := by
  unfold dictDisplay
  simp [List.forIn_cons]
theorem mergeK_nil : ∀ {kvs acc : List (Key × V)}, (∀ q ∈ kvs, q.1 ∉ acc.map (·.1)) → (kvs.map (·.1)).Nodup → mergeK acc kvs = acc ++ kvs
  | [], acc, _, _ => by simp [mergeK]
  | (k, v) :: r, acc, h, hn => by
    have hk : k ∉ acc.map (·.1) := h (k, v) List.mem_cons_self
    have hn2 := List.nodup_cons.mp (show (k :: r.map (·.1)).Nodup from hn)
    have e : mergeK acc ((k, v) :: r) = mergeK (putK acc k v) r := rfl
    have e2 : putK acc k v = acc ++ [(k, v)] := by
      refine putK_new _ ?_
      cases z : valV acc k with
      | none => rfl
      | some u => exact absurd (valV_in z) hk
    rw [e, e2, mergeK_nil (acc := acc ++ [(k, v)]) (fun q hq hm => ?_) hn2.2]
    · simp
    · rw [List.map_append] at hm
      rcases List.mem_append.mp hm with hm | hm
      · exact h q (List.mem_cons_of_mem _ hq) hm
      · have z : q.1 = k := by simpa using hm
        exact hn2.1 (List.mem_map.mpr ⟨q, hq, z⟩)
theorem stored_put {kvs : List (Key × V)} {vs : List (Key × Value)} {k : Key} {v : V} {u : Value} (r : KV kvs vs) (rv : RelV v u) : KV (putK kvs k v) (stored vs k u) := r.put k rv
theorem pe_dispU (ha : PE X a ta) (hk : PE X k tk) (hv : PE X v tv)
    (he : eval (.Dict [none, some k] [a, v] pos) X.env = (do standAt pos; dictDisplay [(none, do let x ← eval a X.env; standAt pos; pure x), (some (eval k X.env), do let x ← eval v X.env; standAt pos; pure x)]) := by rfl) :
    PE X (.Dict [none, some k] [a, v] pos) (tDispU ta tk tv) := by
  refine ⟨fun pins s σ H Q I h => ?_⟩
  rw [he, dictDisplay_u]
  refine wpAny_bind (wpAny_standAt (wpAny_bind (wpAny_alloc ?_)))
  have hn := I.hok.fresh (Nat.le_refl s.heap.objs.size)
  have I1 := I.laid (a := s.heap.objs.size) (o := .dK []) (h' := s.heap.push { cls := .type "dict", data := .dict #[] }) (t' := s.toks) (fun _ _ q => Heap.get?_push_of_some _ q) (Nat.le_refl _) (dk_empty s.heap I.big)
  refine wpAny_bind (wpAny_holding (wpAny_bind (thn (ha.run pins _ _ _ _ I1 (h _ hn)) ?_)))
  rintro u s2 ⟨y, H2, I2, ry, d, kvs, rfl, hne, hd, hp, hl, q⟩
  obtain rfl : u = Value.ref d := ry
  refine wpAny_bind (wpAny_standAt (wpAny_pure ?_))
  obtain ⟨z1, b1, vs1, rel1, dd1⟩ := dk_of I2.hok hd
  obtain ⟨z2, b2, vs2, rel2, dd2⟩ := dk_of I2.hok hp
  cases rel2
  have hnd : (vs1.map (·.1)).Nodup := let ⟨_, _, _, _, _, _, _, _, z⟩ := dd1; z
  refine wpAny_bind (wpAny_onRaise (wpAny_tryCatch (wpAny_onRaise (wpAny_holding (wpAny_mergeMapping (u := false) (Ne.symm hne) b1 dd2 dd1 (fun z => by cases z) (fun h' dd' hs => ?_) (by rw [← Paired.length rel1]; simpa using z1))))))
  rw [merged_kw hnd] at dd'
  have I3 : Inv X pins σ (upd H2 s.heap.objs.size (.dK kvs)) { s2 with heap := h' } := d_write I2 (by rw [hp]; exact True.intro) hs (let ⟨q, _, _, hq, _⟩ := dd'; ⟨q, hq⟩) (dk_new z1 b2 rel1 dd')
  -- the dict of the one pair
  refine wpAny_bind (wpAny_holding ?_)
  unfold subDict
  refine wpAny_bind (wpAny_alloc (wpAny_bind (wpAny_holding ?_)))
  have hn3 := I3.hok.fresh (Nat.le_refl h'.objs.size)
  have I4 := I3.laid (a := h'.objs.size) (o := .dK []) (h' := h'.push { cls := .type "dict", data := .dict #[] }) (t' := s2.toks) (fun _ _ q => Heap.get?_push_of_some _ q) (Nat.le_refl _) (dk_empty h' I3.big)
  rw [if_pos (show ([_] : List (Sem Value × Sem Value)).length ≤ 15 from Nat.le_of_ble_eq_true rfl)]
  unfold evalPairs
  refine wpAny_bind (wpAny_bind (thn (hk.run pins _ _ _ _ I4 (q _ hn3)) ?_))
  rintro ku s5 ⟨y5, H5, I5, r5, q5⟩
  refine wpAny_bind (wpAny_holding (wpAny_bind (thn (hv.run pins _ _ _ _ I5 q5) ?_)))
  rintro vu s6 ⟨y6, H6, I6, r6, key, rfl, hq6, hp6, q6⟩
  refine wpAny_bind (wpAny_standAt (wpAny_pure ?_))
  unfold evalPairs
  refine wpAny_bind (wpAny_holding (wpAny_pure (wpAny_pure ?_)))
  refine wpAny_holding ?_
  rw [List.forIn_cons]
  dsimp only
  refine wpAny_bind (wpAny_bind (wpAny_bind (d_dictSet (E := X.xe) I6 hq6 (by decide) r5 r6 fun s7 I7 => wpAny_pure ?_)))
  dsimp only
  rw [List.forIn_nil]
  refine wpAny_pure (wpAny_pure ?_)
  have hqp : h'.objs.size ≠ s.heap.objs.size := fun e => by
    rw [e] at hn3
    rw [upd_same] at hn3
    cases hn3
  have hp7 : upd H6 h'.objs.size (.dK (putK [] key y6)) s.heap.objs.size = some (.dK kvs) := by rw [upd_ne (Ne.symm hqp)]; exact hp6
  obtain ⟨z8, b8, vs8, rel8, dd8⟩ := dk_of I7.hok (a := h'.objs.size) upd_same
  obtain ⟨z9, b9, vs9, rel9, dd9⟩ := dk_of I7.hok hp7
  have e8 : putK [] key y6 = [(key, y6)] := rfl
  rw [e8] at rel8
  cases rel8 with
  | cons a8 r8 =>
    rename_i q8 l8
    cases r8
    obtain ⟨k8, u8⟩ := q8
    obtain ⟨e9, ru8⟩ := a8
    have e9 : key = k8 := e9
    subst e9
    refine wpAny_pure ?_
    refine wpAny_bind (wpAny_onRaise (wpAny_holding (wpAny_mergeMapping (u := false) (Ne.symm hqp) b8 dd9 dd8 (fun z => by cases z) (fun h2 dd2 hs2 => ?_) (by rw [← Paired.length rel9]; exact hl))))
    have em : merged vs9 [(key, u8)] = stored vs9 key u8 := rfl
    rw [em] at dd2
    have hlen : (putK kvs key y6).length ≤ sizeLine := by have := length_putK kvs key y6; omega
    have I9 := d_write (ob := .dK (putK kvs key y6)) (t' := s7.toks) I7 (by rw [hp7]; exact True.intro) hs2 (let ⟨q, _, _, hq, _⟩ := dd2; ⟨q, hq⟩) (dk_new hlen b9 (stored_put rel9 ru8) dd2)
    exact wpAny_pure ⟨.ref s.heap.objs.size, _, I9, rfl, q6⟩
end
end N1
set_option maxHeartbeats 2000000
/-! sets of texts -/
namespace N1
open PySem PySem.Spec PyProof.Rows L2 PpSet
/-- the text of an entry -/
def keyS (e : Int × Value) : Str := match e.2 with | .str k _ => k | _ => Str.empty
def GoodS (w : World) (e : Int × Value) : Prop := ∃ k tk, e.2 = Value.str k tk ∧ e.1 = hashStr w k
/-- the set of texts at a: S its members, n their number; its table rises and can be walked -/
def SetS (w : World) (h : Heap) (a : Addr) (S : Str → Bool) (n : Nat) : Prop :=
  ∃ o es ep t, h.get? a = some o ∧ o.ExactSet ∧ o.data = .set es ep t ∧ (∀ e ∈ es.toList, GoodS w e) ∧ (es.toList.map keyS).Nodup ∧ (∀ k, S k = true ↔ k ∈ es.toList.map keyS) ∧
    es.size < scanBound ∧ t.fits es.size = true ∧ es.size = n ∧ Ris t.place.toList ∧ (w.params.followText "set-order" = true ∨ t.led = true)
section
variable {P : Program} {w : World} {h h' : Heap} {a : Addr} {S : Str → Bool} {n : Nat}
theorem SetS.at (R : SetS w h a S n) (k : ∀ o, h.get? a = some o → h'.get? a = some o) : SetS w h' a S n := by
  obtain ⟨o, es, ep, t, ho, r⟩ := R
  exact ⟨o, es, ep, t, k o ho, r⟩
theorem SetS.lt (R : SetS w h a S n) : a < h.objs.size := by
  obtain ⟨o, es, ep, t, ho, r⟩ := R
  exact Heap.lt_size ho
theorem SetS.congr {S' : Str → Bool} (R : SetS w h a S n) (e : ∀ k, S' k = S k) : SetS w h a S' n := by
  have q : S' = S := funext e
  rw [q]; exact R
theorem goodS_elems {l : List (Int × Value)} (g : ∀ e ∈ l, GoodS w e) : ElemsOf (PySem.strKind P w) l := fun e he => by
  obtain ⟨k, tk, h1, h2⟩ := g e he
  exact ⟨⟨k, by rw [h1]; exact strKind_is P w k tk, h2⟩, by rw [h1] <;> rfl⟩
theorem goodS_is {e : Int × Value} (g : GoodS w e) (k : Str) : (PySem.strKind P w).is k e.2 = true ↔ keyS e = k := by
  obtain ⟨k0, tk, h1, _⟩ := g
  unfold keyS
  rw [h1]
  show ((k0 == k) = true) ↔ k0 = k
  exact beq_iff_eq
theorem goodS_mem {l : List (Int × Value)} (g : ∀ e ∈ l, GoodS w e) (k : Str) : k ∈ l.map keyS ↔ ∃ e ∈ l, (PySem.strKind P w).is k e.2 = true := by
  rw [List.mem_map]
  constructor
  · rintro ⟨e, he, q⟩
    exact ⟨e, he, (goodS_is (g e he) k).2 q⟩
  · rintro ⟨e, he, q⟩
    exact ⟨e, he, (goodS_is (g e he) k).1 q⟩
theorem SetS.setOf (R : SetS w h a S n) : h.SetOf (PySem.strKind P w) a S n := by
  obtain ⟨o, es, ep, t, ho, hx, hd, g, nd, hm, hb, hf, hn, _⟩ := R
  exact ⟨o, es, ep, t, ho, hx, hd, goodS_elems g, fun k => (hm k).trans (goodS_mem g k), hb, hf, hn⟩
end
section
variable {P : Program} {w : World} {A : Around} {E : Value → Shared → Prop} {s : Shared} {a : Addr} {S : Str → Bool} {n : Nat}
/-! ### add -/
theorem storeS_at {h : Heap} {a : Addr} {o : Obj} {es es' : Array (Int × Value)} {ep : Nat} {t t' : SetTable} (ho : h.get? a = some o) (hd : o.data = .set es ep t) :
    (h.update a (Obj.putSet es' t')).get? a = some { o with data := .set es' (ep + 1) t' } := by
  have q := Heap.get?_update_self (Obj.putSet es' t') ho (by rw [putSet_of es' t' hd]; rfl)
  rw [putSet_of es' t' hd] at q
  exact q
theorem setS_add_tail {g : Bool → Sem Unit} (hg : ∀ (b : Bool) (s₁ : Shared) (Q' : Unit → Shared → Prop), Q' () s₁ → wpAny (model P w) A (g b) Q' E s₁)
    {o : Obj} {es : Array (Int × Value)} {ep : Nat} {t : SetTable} (ho : s.heap.get? a = some o) (hex : o.ExactSet) (hd : o.data = .set es ep t)
    {es1 : Array (Int × Value)} {t2 : SetTable} {S' : Str → Bool} (g1 : ∀ e ∈ es1.toList, GoodS w e) (nd1 : (es1.toList.map keyS).Nodup) (m1 : ∀ k, S' k = true ↔ k ∈ es1.toList.map keyS)
    (hb1 : es1.size < scanBound) (hf2 : t2.fits es1.size = true) (hr : Ris t2.place.toList) (hl : w.params.followText "set-order" = true ∨ t2.led = true) {wasDummy : Bool} {R : Option Bool → Shared → Prop}
    (hR : ∀ h', Heap.SameBut a s.heap h' → SetS w h' a S' es1.size → R (some true) { s with heap := h' }) :
    wpAny (model P w) A (do
        storeSet a es1 t2
        if (!wasDummy && t2.tooFull) = true then do
            g (relayAll t2 es1 (SetTable.grown es1.size)).2.2
            storeSet a (relayAll t2 es1 (SetTable.grown es1.size)).1 (relayAll t2 es1 (SetTable.grown es1.size)).2.1
            pure (some true)
          else pure (some true)) R E s := by
  refine wpAny_bind (wpAny_storeSet_of ho hd ?_ (fits_of_scanBound hb1))
  have ho1 := storeS_at (es' := es1) (t' := t2) ho hd
  have sb1 := Heap.SameBut.update s.heap a (Obj.putSet es1 t2)
  split
  · have pm := relayAll_perm t2 es1 (SetTable.grown es1.size)
    have hf3 := relayAll_fits t2 es1 (SetTable.grown es1.size)
    have hr3 := relayAll_ris t2 es1 (SetTable.grown es1.size)
    have hl3 := relayAll_led t2 es1 (SetTable.grown es1.size)
    generalize relayAll t2 es1 (SetTable.grown es1.size) = Z at pm hf3 hr3 hl3 ⊢
    obtain ⟨es2, t3, gave⟩ := Z
    dsimp only at pm hf3 hr3 hl3 ⊢
    have hsz : es2.size = es1.size := by rw [← Array.length_toList, pm.length_eq, Array.length_toList]
    have hb2 : es2.size < scanBound := by rw [hsz]; exact hb1
    refine wpAny_bind (hg _ _ _ ?_)
    refine wpAny_bind (wpAny_storeSet_of ho1 rfl ?_ (fits_of_scanBound hb2))
    have ho2 := storeS_at (es' := es2) (t' := t3) ho1 rfl
    refine wpAny_pure (hR _ (sb1.trans (Heap.SameBut.update _ a _)) ?_)
    exact ⟨_, es2, _, t3, ho2, hex, rfl, fun e he => g1 e (pm.mem_iff.mp he), (pm.map keyS).nodup_iff.mpr nd1, fun k => (m1 k).trans (pm.map keyS).mem_iff.symm, hb2, hf3, hsz, hr3,
      hl.imp id fun z => by rw [hl3]; exact z⟩
  · exact wpAny_pure (hR _ sb1 ⟨_, es1, _, t2, ho1, hex, rfl, g1, nd1, m1, hb1, hf2, rfl, hr, hl⟩)
theorem setS_add_hashed {k : Str} {tk : Tok} {Q : Bool → Shared → Prop} (R : SetS w s.heap a S n) (room : n + 1 < scanBound)
    (hQ : ∀ h', Heap.SameBut a s.heap h' → SetS w h' a (fun j => S j || decide (j = k)) (if S k = true then n else n + 1) → Q (!S k) { s with heap := h' }) :
    wpAny (model P w) A (setAddHashed a (.str k tk) ((PySem.strKind P w).hash k)) Q E s := by
  obtain ⟨o, es, ep, t, ho, hex, hd, g, nd, hm, hb, hf, hn, hr, hl⟩ := R
  have hkey : (PySem.strKind P w).is k (.str k tk) = true := strKind_is P w k tk
  have hsc : (Value.str k tk).scannable = true := rfl
  have hel : ElemsOf (PySem.strKind P w) es.toList := goodS_elems g
  unfold setAddHashed setAddHashedIn
  refine wpAny_holding (wpAny_bind (wpAny_setState_of ho hd hf ?_))
  dsimp only
  rw [byScan_of hsc hb hel]
  simp only [↓reduceIte]
  unfold setAddByScan
  refine wpAny_bind ?_
  refine wpAny_bind (wpAny_rule ?_)
  refine wpAny_bind (wpAny_setScan_of hkey ho hd hf hel ?_)
  cases hfi : List.findIdx? (fun e => (PySem.strKind P w).is k e.2) es.toList with
  | some j =>
    dsimp only
    obtain ⟨hj, pj, _⟩ := List.findIdx?_eq_some_iff_getElem.mp hfi
    have hSk : S k = true := (hm k).2 ((goodS_mem (P := P) (w := w) g k).2 ⟨es.toList[j], List.getElem_mem hj, pj⟩)
    refine wpAny_pure (wpAny_pure ?_)
    have q := hQ s.heap (Heap.SameBut.refl a s.heap) ⟨o, es, ep, t, ho, hex, hd, g, nd, fun i => by
      rw [Bool.or_eq_true, decide_eq_true_eq, ← hm i]
      exact ⟨fun z => z.elim id (fun e => e ▸ hSk), .inl⟩, hb, hf, by rw [if_pos hSk]; exact hn, hr, hl⟩
    rw [hSk] at q
    exact q
  | none =>
    dsimp only
    have hnk : k ∉ es.toList.map keyS := fun z => by
      obtain ⟨e, he, q⟩ := (goodS_mem (P := P) (w := w) g k).1 z
      have c := List.findIdx?_eq_none_iff.mp hfi e he
      rw [q] at c
      cases c
    have hSk : S k = false := by
      cases q : S k with
      | false => rfl
      | true => exact absurd ((hm k).1 q) hnk
    have hgw : ∀ (b : Bool) {s₁ : Shared} {Q' : Unit → Shared → Prop}, Q' () s₁ → wpAny (model P w) A (match b with | true => rule "set.scan.the-table-gave-way" | false => pure ()) Q' E s₁ :=
      fun b s₁ Q' q => by cases b <;> first | exact wpAny_pure q | exact wpAny_rule q
    have pm := layNew_perm t es ((PySem.strKind P w).hash k) (.str k tk)
    have hf1 := layNew_fits t es ((PySem.strKind P w).hash k) (.str k tk)
    have hr1 := layNew_ris t es ((PySem.strKind P w).hash k) (.str k tk) hr
    have hl1 := layNew_led t es ((PySem.strKind P w).hash k) (.str k tk)
    generalize layNew t es ((PySem.strKind P w).hash k) (.str k tk) = Z at pm hf1 hr1 hl1 ⊢
    obtain ⟨es1, t1, wasDummy, gave⟩ := Z
    dsimp only at pm hf1 hr1 hl1 ⊢
    rw [Array.toList_push] at pm
    have pc : es1.toList.Perm (((PySem.strKind P w).hash k, Value.str k tk) :: es.toList) := pm.trans (List.perm_append_singleton _ _)
    have pk : (es1.toList.map keyS).Perm (k :: es.toList.map keyS) := pc.map keyS
    have g1 : ∀ e ∈ es1.toList, GoodS w e := fun e he => by
      rcases List.mem_cons.mp (pc.mem_iff.mp he) with z | z
      · rw [z]; exact ⟨k, tk, rfl, rfl⟩
      · exact g e z
    have nd1 : (es1.toList.map keyS).Nodup := pk.nodup_iff.mpr (List.nodup_cons.mpr ⟨hnk, nd⟩)
    have m1 : ∀ i, (S i || decide (i = k)) = true ↔ i ∈ es1.toList.map keyS := fun i => by
      rw [Bool.or_eq_true, decide_eq_true_eq, hm i, pk.mem_iff, List.mem_cons]
      exact Or.comm
    have hsz : es1.size = n + 1 := by rw [← Array.length_toList, pc.length_eq, List.length_cons, Array.length_toList, hn]
    have hb1 : es1.size < scanBound := by rw [hsz]; exact room
    have hled : w.params.followText "set-order" = true ∨ t1.led = true := hl.imp id fun z => by rw [hl1]; exact z
    have fin : ∀ h', Heap.SameBut a s.heap h' → SetS w h' a (fun j => S j || decide (j = k)) es1.size → Q true { s with heap := h' } := fun h' sb r => by
      have q := hQ h' sb
      rw [hSk] at q
      rw [hsz] at r
      exact q r
    refine wpAny_bind (hgw _ ?_)
    split
    · refine wpAny_bind ?_
      rw [hashByValue_scannable 8 hsc]
      refine wpAny_pure ?_
      refine setS_add_tail ?_ ho hex hd g1 nd1 m1 hb1 ?_ ?_ ?_ ?_
      · intro b s₁ Q' q; cases b <;> first | exact wpAny_pure q | exact wpAny_rule q
      · first | (split <;> first | exact hf1 | exact SetTable.fits_plain_off hf1) | exact hf1
      · first | (split <;> exact hr1) | exact hr1
      · first | (split <;> exact hled) | exact hled
      · intro h' sb r; dsimp only; exact wpAny_pure (fin h' sb r)
    · refine wpAny_bind (wpAny_pure ?_)
      simp only [↓reduceIte]
      refine setS_add_tail ?_ ho hex hd g1 nd1 m1 hb1 hf1 hr1 hled ?_
      · intro b s₁ Q' q; cases b <;> first | exact wpAny_pure q | exact wpAny_rule q
      · intro h' sb r; dsimp only; exact wpAny_pure (fin h' sb r)
/-- found.add(k) -/
theorem setS_add {k : Str} {tk : Tok} {Q : Value → Shared → Prop} (R : SetS w s.heap a S n) (room : n + 1 < scanBound)
    (hQ : ∀ h', Heap.SameBut a s.heap h' → SetS w h' a (fun j => S j || decide (j = k)) (if S k = true then n else n + 1) → Q .none { s with heap := h', toks := s.toks + 1 }) :
    wpAny (model P w) A (call (.builtin "set.add") [.ref a, .str k tk]) Q E s := by
  have hS : s.heap.SetOf (PySem.strKind P w) a S n := R.setOf
  refine wpAny_call_entry F.slot_set_add hS.typeIs F.entry_set_add ?_ (F.args_set_add_2 _ _)
  unfold Builtin.«set.add» Builtin.Frozenset.oneOther
  simp only [List.isEmpty_nil, bind_assoc]
  unfold Builtin.Frozenset.addrOf setAdd
  refine wpAny_bind (wpAny_pure ?_)
  try dsimp only
  refine wpAny_bind (wpAny_pure ?_)
  try dsimp only
  refine wpAny_bind ?_
  refine wpAny_holding ?_
  refine wpAny_bind ((PySem.strKind P w).pyHash (strKind_is P w k tk) ?_)
  refine setS_add_hashed (s := { s with toks := s.toks + 1 }) R room fun h' sb r => ?_
  show wpAny _ _ (ret Value.none) _ _ _
  exact wpAny_pure ⟨_, rfl, hQ h' sb r⟩
end
section
variable {P : Program} {w : World} {A : Around} {E : Value → Shared → Prop} {s : Shared}
/-! ### a new set -/
theorem setS_fresh {h : Heap} (w : World) : SetS w (h.push { cls := .type "set", dict := none, data := .set #[] 0 (.fresh 0 0 (!w.params.followText "set-order")) }) h.objs.size (fun _ => false) 0 :=
  ⟨_, #[], 0, _, Heap.get?_push_size _ rfl, ⟨rfl, rfl, rfl⟩, rfl, (fun e he => by simp at he), (by simp), (fun k => by simp), (by decide), (by rfl), rfl, List.Pairwise.nil, by
    show _ ∨ (!w.params.followText "set-order") = true
    cases w.params.followText "set-order"
    · exact .inr rfl
    · exact .inl rfl⟩
end
/-! ### as tracked things -/
/-- the set of texts at a -/
def SetSO (w : World) (a : Addr) (S : Str → Bool) (n : Nat) : HO := .ext fun h => SetS w h a S n
theorem setSO_new {w : World} {P : Program} {H : Hp} {h : Heap} {a : Addr} {S : Str → Bool} {n : Nat} (R : SetS w h a S n) : ObjOk P w H h a (SetSO w a S n) := by
  have ⟨o, _, _, _, ho, _⟩ := R
  exact ⟨R, ⟨o, ho⟩, fun h1 h2 p k => SetS.at p k⟩
section
variable {X : Cx}
theorem setSO_get {pins : List (Addr × Obj)} {σ : L2.St} {H : Hp} {s : Shared} {a : Addr} {S : Str → Bool} {n : Nat} (I : Inv X pins σ H s) (ha : H a = some (SetSO X.w a S n)) : SetS X.w s.heap a S n := (I.hok a _ ha).1
/-- set.add of a text -/
theorem addS_ok {pins : List (Addr × Obj)} {σ : L2.St} {H : Hp} {s : Shared} {E : Value → Shared → Prop} {D : Addr} {S : Str → Bool} {n : Nat} {y : Str} {tk : Tok} {Q : Value → Shared → Prop} (I : Inv X pins σ H s) (hD : H D = some (SetSO X.w D S n)) (room : n + 1 < scanBound)
    (h : ∀ s', Inv X pins σ (upd H D (SetSO X.w D (fun j => S j || decide (j = y)) (if S y = true then n else n + 1))) s' → Q .none s') : wpAny (model X.prog X.w) X.A (call (.builtin "set.add") [.ref D, .str y tk]) Q E s := by
  have R := setSO_get I hD
  refine setS_add R room fun h' sb new => ?_
  have he : ∃ u, h'.get? D = some u := by
    have ⟨o, _, _, _, ho, _⟩ := new
    exact ⟨o, ho⟩
  exact h _ (I.write (e := D) (t' := s.toks + 1) (by rw [hD]; trivial) (.inl rfl) (fun b u hb hu => (sb.2 b hb).trans hu) he (setSO_new new))
end
end N1
set_option maxHeartbeats 3200000
/-! set(list of texts), sorted and len of such a set -/
namespace N1
open PySem PySem.Spec PyProof.Rows L2 PpSet
section
variable {P : Program} {w : World} {A : Around} {E : Value → Shared → Prop} {s : Shared}
theorem setS_freshAt {h : Heap} {a : Addr} (w : World) (ho : h.get? a = some { cls := .type "set", dict := none, data := .set #[] 0 (.fresh 0 0 (!w.params.followText "set-order")) }) : SetS w h a (fun _ => false) 0 :=
  ⟨_, #[], 0, _, ho, ⟨rfl, rfl, rfl⟩, rfl, (fun e he => by simp at he), (by simp), (fun k => by simp), (by decide), (by rfl), rfl, List.Pairwise.nil, by
    show _ ∨ (!w.params.followText "set-order") = true
    cases w.params.followText "set-order"
    · exact .inr rfl
    · exact .inl rfl⟩
theorem set_update_texts {I : Addr} {fp wr : List Addr} {G : Array GenState → Array GenState → Prop} {n : Nat} {Pv : Nat → Value → Prop} {St : Nat → Shared → Prop} {R : Result → Shared → Prop}
    (W : WalksS P w A.in1 I fp wr G n Pv St) (S : Addr) (hSf : S ∉ fp) (xs : List Str) (hn : n = xs.length) (hfew : xs.length < 1000) (hval : ∀ i v, Pv i v → ∃ x tk, xs[i]? = some x ∧ v = .str x tk)
    (h0 : Heap) (hS0 : h0.get? S = none) (hw0 : ∀ b ∈ wr, h0.get? b = none) :
    ∀ (k i : Nat) (s : Shared), n - i = k → i ≤ n → St i s → (∀ b o, h0.get? b = some o → s.heap.get? b = some o) → (∃ m, SetS w s.heap S (fun k' => (xs.take i).any (· == k')) m ∧ m ≤ i) →
      (∀ s' m, Moved (S :: wr) G s s' → SetS w s'.heap S (fun k' => xs.any (· == k')) m → m ≤ xs.length → (∀ b o, h0.get? b = some o → s'.heap.get? b = some o) → R (.ok (.ret .none)) s') →
      codeAny (model P w) A (.builtin "set.update.loop" ⟨[.ref S, .ref I], []⟩) R s := by
  have hSw : S ∉ wr := fun h => hSf (W.sub _ h)
  have hsub : ∀ b ∈ wr, b ∈ S :: wr := fun b hb => List.mem_cons_of_mem _ hb
  have keepM : ∀ {s s' : Shared}, Moved wr G s s' → (∀ b o, h0.get? b = some o → s.heap.get? b = some o) → ∀ b o, h0.get? b = some o → s'.heap.get? b = some o := fun hm hkp b o e =>
    hm.heap b o (fun hb => by rw [hw0 b hb] at e; cases e) (hkp b o e)
  intro k
  induction k with
  | zero =>
    intro i s hk' hi hst hkp ⟨m, hS, hmi⟩ hR
    have hin : i = n := by omega
    subst hin
    refine codeAny_builtin F.entry_set_update_loop ?_
    rw [Around.under_plainId F.plain_set_update_loop _]
    show wpAny _ A.in1 (pyNext (.ref I) >>= _) _ _ s
    refine wpAny_bind (W.done s _ _ hst fun s' hm => ?_)
    show wpAny _ A.in1 (ret Value.none) _ _ s'
    refine wpAny_pure (hR s' m (hm.mono hsub) ?_ (by omega) (keepM hm hkp))
    rw [hn, List.take_length] at hS
    exact hS.at fun o e => hm.heap S o hSw e
  | succ k ih =>
    intro i s hk' hi hst hkp ⟨m, hS, hmi⟩ hR
    have hlt : i < n := by omega
    refine codeAny_builtin F.entry_set_update_loop ?_
    rw [Around.under_plainId F.plain_set_update_loop _]
    show wpAny _ A.in1 (pyNext (.ref I) >>= _) _ _ s
    refine wpAny_bind (W.item i s _ _ hlt hst fun v s' hP hst' hm => ?_)
    obtain ⟨x, tk, hx, rfl⟩ := hval i v hP
    have hkp' := keepM hm hkp
    have hS' : SetS w s'.heap S (fun k' => (xs.take i).any (· == k')) m := hS.at fun o e => hm.heap S o hSw e
    show wpAny _ A.in1 (holding [Value.str x tk] (setAdd S (.str x tk)) >>= _) _ _ s'
    refine wpAny_bind (wpAny_holding ?_)
    unfold setAdd
    refine wpAny_holding ?_
    refine wpAny_bind ((PySem.strKind P w).pyHash (k := x) (strKind_is _ _ _ _) ?_)
    refine setS_add_hashed (s := { s' with toks := s'.toks + 1 }) hS' (by unfold scanBound; omega) fun h' hsb hS2 => ?_
    have e1 : xs.take (i + 1) = xs.take i ++ [x] := by
      rw [List.take_succ, hx]; rfl
    have hS3 : ∃ m', SetS w h' S (fun k' => (xs.take (i + 1)).any (· == k')) m' ∧ m' ≤ i + 1 := by
      refine ⟨_, hS2.congr fun k' => ?_, by split <;> omega⟩
      rw [e1, List.any_append]
      congr 1
      by_cases z : k' = x
      · subst z; simp
      · have hb : (x == k') = false := by simpa [beq_iff_eq] using (fun h' : x = k' => z h'.symm)
        simp [hb, z]
    have hkp2 : ∀ b o, h0.get? b = some o → h'.get? b = some o := fun b o e => (hsb.2 b (fun z => by rw [z, hS0] at e; cases e)).trans (hkp' b o e)
    refine wpAny_pure ⟨plainId_quiet F.plain_set_update_loop _, ih (i + 1) _ (by omega) hlt (W.frame _ s' _ _ hst' (Nat.le_add_right _ _) fun b hb o e => ?_) hkp2 hS3 fun s'' m2 hm'' hS'' hml hkp'' => ?_⟩
    · rw [hsb.2 b (fun h : b = S => hSf (by rw [← h]; exact hb))]; exact e
    · refine hR s'' m2 (Moved.trans W.gtrans ((hm.mono hsub).then_heap (Nat.le_add_right _ _) fun b o hb e => ?_) hm'') hS'' hml hkp''
      rw [hsb.2 b (fun h : b = S => hb (by rw [h]; exact List.mem_cons_self))]; exact e
/-- set(xs) -/
theorem call_set_texts {l : Addr} {items : Array Value} (xs : List Str) {Q : Value → Shared → Prop} (hh : A.handled = none) (hl : s.heap.IsList l items) (hit : StrsAre items.toList xs) (hfew : xs.length < 1000)
    (h : ∀ (h' : Heap) (tk : Nat) m, SetS w h' s.heap.objs.size (fun k => xs.any (· == k)) m → m ≤ xs.length → (∀ b o, s.heap.get? b = some o → h'.get? b = some o) → Q (.ref s.heap.objs.size) { s with heap := h', toks := tk }) :
    wpAny (model P w) A (call (.type "set") [.ref l]) Q E s := by
  have hisz : items.size = xs.length := by
    rw [← Array.length_toList]; exact StrsAre.len_eq hit
  obtain ⟨c, tl, hmro⟩ := F.called_set.mro
  have hmade := F.called_set.made
  have hsub := F.called_set.sub
  refine wpAny_call (codeAny_of_tree ?_)
  show wpAny _ _ (callAny (.type "set") _) _ _ _
  refine wpAny_pure ⟨Code.quiet_builtin _ (by decide +kernel), codeAny_builtin F.entry_type_call ?_⟩
  rw [Around.under_plain (weight_type_call_type "set" [.ref l] []) rfl]
  have h1 := F.called_set.notType
  have h2 := F.called_set.canCreate
  have hct := F.typeCall_set_1 (.ref l)
  repeat (any_goals (first | assumption | wp_step))
  refine codeAny_mono (code_set_led1 (.ref l) (E := E) (Q₁ := fun obj s₁ => obj = .ref s.heap.objs.size ∧ s₁ = { s with heap := s.heap.push { cls := .type "set", dict := none, data := .set #[] 0 (.fresh 0 0 (!w.params.followText "set-order")) } }) ⟨rfl, rfl⟩) fun r s₁ hr => ?_
  cases r with
  | error e => exact hr
  | ok fl =>
    cases fl with
    | ret obj =>
      obtain ⟨rfl, rfl⟩ := hr
      have hS : (s.heap.push { cls := .type "set", dict := none, data := .set #[] 0 (.fresh 0 0 (!w.params.followText "set-order")) }).get? s.heap.objs.size = some { cls := .type "set", dict := none, data := .set #[] 0 (.fresh 0 0 (!w.params.followText "set-order")) } := Heap.get?_push_size _ rfl
      have hT : Shared.TypeIs { s with heap := s.heap.push { cls := .type "set", dict := none, data := .set #[] 0 (.fresh 0 0 (!w.params.followText "set-order")) } } (.ref s.heap.objs.size) "set" := ⟨_, hS, rfl⟩
      have hli := F.called_set.init.lookup
      have hbi := F.called_set.init.bind (.ref s.heap.objs.size)
      repeat (any_goals (first | assumption | wp_step))
      refine codeAny_mono (codeAny_call_builtin (R := wants (fun r s₂ => r = .none ∧ ∃ h' tk m, s₂ = { s with heap := h', toks := tk } ∧ SetS w h' s.heap.objs.size (fun k => xs.any (· == k)) m ∧ m ≤ xs.length ∧
          (∀ b o, s.heap.get? b = some o → h'.get? b = some o)) E) F.called_set.init.plain F.entry_set_init (check_set_init_1 hT ?_)) fun r₂ s₂ hr₂ => ?_
      · obtain ⟨ol, hol, hcl, nl, hdl⟩ := hl
        obtain ⟨ocls, odict, odata, oslots⟩ := ol
        simp only at hcl hdl
        subst hcl; subst hdl
        have hol' : (s.heap.push { cls := .type "set", dict := none, data := .set #[] 0 (.fresh 0 0 (!w.params.followText "set-order")) }).get? l = some { cls := .type "list", dict := odict, data := .seq items nl, slots := oslots } := Heap.get?_push_of_some _ hol
        have hsls := F.sub_list_set
        have hslf := F.sub_list_frozenset
        have hne : (Value.type "list" == Value.type "dict") = false := by decide
        have hl1 : (s.heap.push { cls := .type "set", dict := none, data := .set #[] 0 (.fresh 0 0 (!w.params.followText "set-order")) }).IsList l items := ⟨_, hol', rfl, nl, rfl⟩
        unfold Builtin.«set.__init__» noKeywords Builtin.Frozenset.updateFrom
        generalize hPI : pyIter = PI
        wp_walk
        subst hPI
        refine wpAny_pyIter_list hl1 ?_
        refine wpAny_bind (wpAny_runValue ?_)
        have hlS : l < s.heap.objs.size := Heap.lt_size hol
        have hh3 : A.in1.in1.in1.handled = none := by simp [hh]
        have hz1 : (s.heap.push { cls := .type "set", dict := none, data := .set #[] 0 (.fresh 0 0 (!w.params.followText "set-order")) }).objs.size = s.heap.objs.size + 1 := Heap.size_push ..
        have hneI : l ≠ (s.heap.push { cls := .type "set", dict := none, data := .set #[] 0 (.fresh 0 0 (!w.params.followText "set-order")) }).objs.size := by
          rw [Heap.size_push]; exact Nat.ne_of_lt (Nat.lt_succ_of_lt hlS)
        have hSf : s.heap.objs.size ∉ [(s.heap.push { cls := .type "set", dict := none, data := .set #[] 0 (.fresh 0 0 (!w.params.followText "set-order")) }).objs.size, l] := by
          rw [Heap.size_push]; simp only [List.mem_cons, List.mem_singleton, List.not_mem_nil, or_false, not_or]
          exact ⟨Nat.ne_of_lt (Nat.lt_succ_self _), Nat.ne_of_gt hlS⟩
        have hval : ∀ (i : Nat) (v : Value), items[i]? = some v → ∃ x tk, xs[i]? = some x ∧ v = .str x tk := fun i v hv => by
          have q : items.toList[i]? = some v := by rw [Array.getElem?_toList]; exact hv
          obtain ⟨tk, e⟩ := SS.strs_at hit i v q
          have hlt : i < xs.length := by rw [← StrsAre.len_eq hit]; exact (List.getElem?_eq_some_iff.mp q).1
          exact ⟨xs[i], tk, List.getElem?_eq_getElem hlt, by rw [e]; simp [List.getD, hlt]⟩
        have none_of : ∀ b, s.heap.objs.size ≤ b → s.heap.get? b = none := fun b hb => by
          cases q : s.heap.get? b with
          | none => rfl
          | some o => exact absurd (Nat.lt_of_lt_of_le (Heap.lt_size q) hb) (Nat.lt_irrefl _)
        refine set_update_texts ((Walks.list hh3 _ l hneI items).toS) s.heap.objs.size
          hSf xs hisz hfew hval s.heap (none_of _ (Nat.le_refl _)) (fun b hb => none_of b (by
            rw [List.mem_singleton.mp hb, Heap.size_push]
            exact Nat.le_succ _)) (items.size - 0) 0 _ (by omega) (Nat.zero_le _)
          ⟨⟨_, Heap.get?_push_size _ rfl, rfl, rfl⟩, (hl1.push _)⟩ (fun b o e => Heap.get?_push_of_some _ (Heap.get?_push_of_some _ e)) ?hS0 ?hR
        case hS0 =>
          have hget : ((s.heap.push { cls := .type "set", dict := none, data := .set #[] 0 (.fresh 0 0 (!w.params.followText "set-order")) }).push { cls := .type "list_iterator", data := .fields #[.ref l, .int 0 0] }).get? s.heap.objs.size
              = some { cls := .type "set", dict := none, data := .set #[] 0 (.fresh 0 0 (!w.params.followText "set-order")) } := Heap.get?_push_of_some _ hS
          exact ⟨0, setS_freshAt w hget, Nat.le_refl _⟩
        case hR =>
          intro s' m hm hS' hml hkp
          obtain ⟨h', g2, d', tk', os'⟩ := s'
          have eg : g2 = s.gens := hm.gens
          have ed : d' = s.drawn := hm.drawn
          have eo : os' = s.os := hm.os
          subst eg; subst ed; subst eo
          show wpAny _ _ _ _ _ _
          refine wpAny_pure ?_
          show wpAny _ _ (ret Value.none) _ _ _
          exact wpAny_pure ⟨rfl, h', tk', m, rfl, hS', hml, hkp⟩
      · cases r₂ with
        | error e => exact hr₂
        | ok fl₂ =>
          cases fl₂ with
          | ret r =>
            obtain ⟨rfl, h', tk, m, rfl, hS', hml, hk'⟩ := hr₂
            repeat (any_goals (first | assumption | wp_step))
            exact h _ _ _ hS' hml hk'
          | _ => exact hr₂.elim
    | _ => exact hr.elim
/-! sorted -/
theorem strs_of : ∀ (l : List Value), (∀ v ∈ l, ∃ k tk, v = Value.str k tk) → StrsAre l (l.map fun v => match v with | .str k _ => k | _ => Str.empty)
  | [], _ => .nil
  | v :: l, h => by
    obtain ⟨k, tk, rfl⟩ := h _ List.mem_cons_self
    exact .cons k tk (strs_of l fun u hu => h u (List.mem_cons_of_mem _ hu))
theorem listsort_texts {a : Addr} {vs : List Value} {ns : List Str} {n : Nat} {Pq : Fin → Shared → Prop} (ho : s.heap.get? a = some (seqObj "list" vs.toArray n)) (hS : StrsAre vs ns) (hL : vs.length ≤ sizeLine)
    (h : ∀ (out : Array Value) (ns' : List Str), StrsAre out.toList ns' → ns'.Perm ns → sortedS ns' = true → Pq (.done (.ret .none)) { s with heap := sortedHeap s.heap a vs out }) :
    wpAny (model P w) A (Builtin.«list.sort» ⟨[.ref a], []⟩) Pq E s := by
  refine list_sort_treeKAny strKind_oneLt ho hS.keysOf (fun v₁ v₂ rest e => keyKind_strs (by rw [← e]; exact hS)) hL fun st' hp hs => ?_
  obtain ⟨ss', h1, h2, h3⟩ := sorted_out_str hS hp hs
  exact h _ ss' h1 h2 h3
theorem sorted_setS {a : Addr} {S : Str → Bool} {n : Nat} {Q : Value → Shared → Prop} (R : SetS w s.heap a S n) (hh : A.handled = none) (h64 : n < 10000)
    (hQ : ∀ s' p (out : Array Value) (c : Nat) (ns : List Str), (∀ b o, s.heap.get? b = some o → s'.heap.get? b = some o) → s'.gens = s.gens → s'.os = s.os → s.heap.objs.size ≤ p →
      s'.heap.get? p = some (seqObj "list" out c) → StrsAre out.toList ns → sortedS ns = true → ns.Nodup → (∀ k, k ∈ ns ↔ S k = true) → ns.length = n → Q (.ref p) s') :
    wpAny (model P w) A (call (.builtin "sorted") [.ref a]) Q E s := by
  obtain ⟨o, es, ep, t, ho, hex, hd, g, nd, hm, hb, hf, hn, hr, hl⟩ := R
  refine Calls.call_function_entry kind_sorted plain_sorted entry_sorted (args_sorted1 _) ?_
  unfold Builtin.«sorted»
  refine wpAny_bind (m := checkCount "sorted" 1 1 _) (wpAny_pure ?_)
  refine wpAny_bind (collect_set (A := A.in1) hh ⟨o, ho, hex.1, hd⟩ hf hb hr hl fun s1 vs k1 hz g1 o1 pm => ?_)
  have hvl : vs.length = n := by rw [pm.length_eq, List.length_map, Array.length_toList]; exact hn
  have hI := strs_of vs fun v hv => by
    obtain ⟨e, he, q⟩ := List.mem_map.mp (pm.mem_iff.mp hv)
    obtain ⟨k, tk, h1, _⟩ := g e he
    exact ⟨k, tk, by rw [← q]; exact h1⟩
  have pk : (vs.map fun v => match v with | .str k _ => k | _ => Str.empty).Perm (es.toList.map keyS) := by
    have q := pm.map fun v : Value => match v with | .str k _ => k | _ => Str.empty
    rw [List.map_map] at q
    exact q
  refine wpAny_bind (wpAny_newList ?_ (by rw [hvl, sizeLine_eq]; omega))
  have hoL : (s1.heap.push (seqObj "list" vs.toArray 0)).get? s1.heap.objs.size = some (seqObj "list" vs.toArray 0) := Heap.get?_push_size _ rfl
  refine wpAny_bind (wpAny_holding (wpAny_call_entry slot_list_sort ⟨_, hoL, rfl⟩ entry_list_sort (listsort_texts hoL hI (by rw [hvl, sizeLine_eq]; omega) fun out ns' a1 a2 a3 => ⟨_, rfl, ?_⟩) (args_list_sort _)))
  obtain ⟨c, hc⟩ := sortedHeap_at (vs := vs) (out := out) hoL
  have pn : ns'.Perm (es.toList.map keyS) := a2.trans pk
  refine wpAny_pure ⟨_, rfl, hQ _ s1.heap.objs.size out c ns' (fun b u e => ?_) g1 o1 hz hc a1 a3 (pn.nodup_iff.mpr nd) (fun k => by rw [pn.mem_iff, ← hm k]) ?_⟩
  · have q := k1 b u e
    have hlt := Heap.lt_size q
    show (sortedHeap (s1.heap.push (seqObj "list" vs.toArray 0)) s1.heap.objs.size vs out).get? b = some u
    rw [sortedHeap_old (Nat.ne_of_lt hlt) (by rw [size_push']; exact Nat.lt_succ_of_lt hlt)]
    exact Heap.get?_push_of_some _ q
  · rw [pn.length_eq, List.length_map, Array.length_toList]; exact hn
end
section
variable {X : Cx}
/-- set(xs), xs a list of texts -/
def rSetOfS (K : PySem.W.Frag) (w : World) : List V → Hp → VK → Prop := fun vs H Q => ∃ (l : Addr) (xs : List Str), vs = [V.ref l] ∧ SqL K H l (xs.map V.str) ∧ xs.length < 1000 ∧
  ∀ p n, n ≤ xs.length → H p = none → Q (.ref p) (upd H p (SetSO w p (fun k => xs.any (· == k)) n))
theorem cr_setOfS (hc : X.calm = true) : CallR X (.type "set") (rSetOfS X.K X.w) := by
  intro pins s σ H vs us Q I r h
  obtain ⟨l, xs, rfl, hq, hl, q⟩ := h
  rw [Vals.ref1 r]
  obtain ⟨its, rv, pl, _⟩ := I.list hq
  refine call_set_texts xs (I.ok.hd hc) pl.isList (by simpa using strsAre_of rv) hl fun h' tk m hS hml hk => ?_
  exact ⟨.ref _, upd H s.heap.objs.size (SetSO X.w s.heap.objs.size (fun k => xs.any (· == k)) m), I.laid (t' := tk) hk (Nat.le_refl _) (setSO_new hS), rfl, q _ m hml (I.hok.fresh (Nat.le_refl _))⟩
/-- sorted(found) -/
def rSortedSetS (w : World) : List V → Hp → VK → Prop := fun vs H Q => ∃ (a : Addr) (S : Str → Bool) (n : Nat), vs = [V.ref a] ∧ H a = some (SetSO w a S n) ∧ (n < 10000) ∧
  ∀ (ns : List Str) (p : Addr), sortedS ns = true → ns.Nodup → (∀ k, k ∈ ns ↔ S k = true) → ns.length = n → H p = none → Q (.ref p) (upd H p (.lst (ns.map V.str)))
theorem cr_sortedSetS (hc : X.calm = true) : CallR X (.builtin "sorted") (rSortedSetS X.w) := by
  intro pins s σ H vs us Q I r h
  obtain ⟨a, S, n, rfl, ha, h64, q⟩ := h
  have R := setSO_get I ha
  rw [Vals.ref1 r]
  refine sorted_setS R (I.ok.hd hc) h64 fun s' p out c ns k g o hp hg hi hs hnd hm hl => ?_
  have hlen : (ns.map V.str).length ≤ sizeLine := by rw [List.length_map, hl, sizeLine_eq]; omega
  have hn : H p = none := I.hok.fresh hp
  have J : Inv X pins σ (upd H p (.lst (ns.map V.str))) { s with heap := s'.heap, gens := s'.gens, drawn := s'.drawn, toks := s'.toks } :=
    I.call (ch := []) (Un.laid k hp hn) (I.hok.laid k hp ⟨hlen, out.toList, c, vals_of_strs hi, hg⟩) (by rw [g]; exact I.bare) (fun _ z => nomatch z)
  have e : s' = { s with heap := s'.heap, gens := s'.gens, drawn := s'.drawn, toks := s'.toks } := by
    cases s'
    cases s
    cases o
    rfl
  rw [e]
  exact ⟨.ref p, _, J, rfl, q ns p hs hnd hm hl hn⟩
/-- len(found) -/
def rLenSetS (w : World) : List V → Hp → VK → Prop := fun vs H Q => ∃ (a : Addr) (S : Str → Bool) (n : Nat), vs = [V.ref a] ∧ H a = some (SetSO w a S n) ∧ (∀ L : List Str, L.Nodup → (∀ k, k ∈ L ↔ S k = true) → L.length = n → Q (.int n) H)
theorem cr_lenSetS : CallR X (.builtin "len") (rLenSetS X.w) := by
  intro pins s σ H vs us Q I r h
  obtain ⟨a, S, n, rfl, ha, q⟩ := h
  obtain ⟨o, es, ep, t, ho, hex, hd, g, nd, hm, hb, hf, hn, _⟩ := setSO_get I ha
  rw [Vals.ref1 r]
  refine call_len_set ho hex hd hf (by rw [hn]; have := hb; rw [hn] at this; unfold scanBound at this; omega) ⟨.int n, H, I.tok _, ⟨_, by rw [hn]⟩, q _ nd (fun k => (hm k).symm) (by rw [List.length_map, Array.length_toList]; exact hn)⟩
end
end N1
set_option maxHeartbeats 2000000
/-! set comprehensions with two clauses, of texts -/
namespace N1
open PySem PySem.Spec PyProof.Rows L2 PpSet
theorem compTurnS2_out (elt t0 i0 t1 i1 : Expr) (ifs0 ifs1 : List Expr) (scope : Scope) (pos : Pos) (it acc : Value) (env : Env) :
    compTurn (.SetComp elt [⟨t0, i0, ifs0, 0⟩, ⟨t1, i1, ifs1, 0⟩] scope pos) 0 it acc env = (do
      standAt i0.pos
      match ← pyNext it with
      | none => pure (.done .next)
      | some v =>
        letOwnedTupleGo t0 it v
        assign t0 env v
        let mut ok := true
        for c in ifs0 do
          if ok then ok ← isTrue c env (eval c env)
        if ok then
          let x ← eval i1 env
          standAt i1.pos
          let x ← foldedSetIterable i1 env x
          let _ ← runOwn (.compStart (.SetComp elt [⟨t0, i0, ifs0, 0⟩, ⟨t1, i1, ifs1, 0⟩] scope pos) 1 (← holding [x] (pyIter x)) acc env) env
        again (.compLoop (.SetComp elt [⟨t0, i0, ifs0, 0⟩, ⟨t1, i1, ifs1, 0⟩] scope pos) 0 it acc env)) := by rfl
theorem compTurnS2_in (elt t0 i0 t1 i1 : Expr) (ifs0 ifs1 : List Expr) (scope : Scope) (pos : Pos) (it acc : Value) (env : Env) :
    compTurn (.SetComp elt [⟨t0, i0, ifs0, 0⟩, ⟨t1, i1, ifs1, 0⟩] scope pos) 1 it acc env = (do
      standAt i1.pos
      match ← pyNext it with
      | none => pure (.done .next)
      | some v =>
        letOwnedTupleGo t1 it v
        assign t1 env v
        let mut ok := true
        for c in ifs1 do
          if ok then ok ← isTrue c env (eval c env)
        if ok then
          (do let v ← eval elt env; standAt elt.pos; let _ ← call (.builtin "set.add") [acc, v])
        again (.compLoop (.SetComp elt [⟨t0, i0, ifs0, 0⟩, ⟨t1, i1, ifs1, 0⟩] scope pos) 1 it acc env)) := by rfl
section
variable {prog : Program} {w : World} {A : Around} {R : Result → Shared → Prop} {s : Shared} {elt t0 i0 t1 i1 : Expr} {ifs0 ifs1 : List Expr} {scope : Scope} {pos : Pos} {it acc : Value} {env : Env}
/-- the loop of the first clause -/
theorem compLoopS2_out (hs : ∀ x, foldedSetIterable i1 env x = pure x) (I : Nat → Shared → Prop)
    (turn : ∀ n s, I n s → wpAny (model prog w) A (pyNext it) (fun r s₁ => match r with
      | none => R (.ok .next) s₁
      | some v => wpAny (model prog w) A (letOwnedTupleGo t0 it v) (fun _ s₁' => wpAny (model prog w) A (assign t0 env v) (fun _ s₂ =>
          wpAny (model prog w) A (forIn ifs0 true fun c r => if r = true then do let ok ← isTrue c env (eval c env); pure (ForInStep.yield ok) else pure (ForInStep.yield r)) (fun ok s₃ =>
            if ok = true then wpAny (model prog w) A (eval i1 env) (fun x s₄ => wpAny (model prog w) A (pyIter x) (fun it1 s₅ =>
              codeAny (model prog w) A (.compStart (.SetComp elt [⟨t0, i0, ifs0, 0⟩, ⟨t1, i1, ifs1, 0⟩] scope pos) 1 it1 acc env) (fun r s' => match r with
                | .ok _ => ∃ m, m < n ∧ I m s'
                | .error _ => False) s₅) (notedBy (model prog w) A env fun e s' => R (.error e) s') s₄) (notedBy (model prog w) A env fun e s' => R (.error e) s') s₃
            else ∃ m, m < n ∧ I m s₃) (notedBy (model prog w) A env fun e s' => R (.error e) s') s₂) (notedBy (model prog w) A env fun e s' => R (.error e) s') s₁') (notedBy (model prog w) A env fun e s' => R (.error e) s') s₁) (notedBy (model prog w) A env fun e s' => R (.error e) s') s)
    (n : Nat) (h : I n s) :
    codeAny (model prog w) A (.compLoop (.SetComp elt [⟨t0, i0, ifs0, 0⟩, ⟨t1, i1, ifs1, 0⟩] scope pos) 0 it acc env) R s := by
  refine codeAny_loop rfl I (fun n s hI => ?_) n h
  show wpAny _ A ((compTurn (.SetComp elt [⟨t0, i0, ifs0, 0⟩, ⟨t1, i1, ifs1, 0⟩] scope pos) 0 it acc env).onRaise (fun x => do noteFrame x env; theTreesLotGoes x)) _ _ s
  refine wpAny_noted ?_
  rw [compTurnS2_out]
  refine wpAny_bind (wpAny_standAt (wpAny_bind (wpAny_mono (turn n s hI) (fun r s₁ h₁ => ?_) fun _ _ h' => h')))
  cases r with
  | none => exact wpAny_pure h₁
  | some v =>
    refine wpAny_bind (wpAny_mono h₁ (fun _ s₁' h₁' => ?_) fun _ _ h' => h')
    refine wpAny_bind (wpAny_mono h₁' (fun _ s₂ h₂ => wpAny_bind (wpAny_mono h₂ (fun ok s₃ h₃ => ?_) fun _ _ h' => h')) fun _ _ h' => h')
    cases ok with
    | false => exact wpAny_pure ⟨rfl, h₃⟩
    | true =>
      refine wpAny_bind (wpAny_mono h₃ (fun x s₄ h₄ => ?_) fun _ _ h' => h')
      refine wpAny_bind (wpAny_standAt (wpAny_bind (wpAny_of_eq (hs x) (wpAny_bind (wpAny_holding (wpAny_mono h₄ (fun it1 s₅ h₅ => ?_) fun _ _ h' => h'))))))
      refine wpAny_bind (wpAny_runOwn ?_)
      rw [Around.mark_none]
      refine codeAny_mono h₅ fun r s' hr => ?_
      cases r with
      | ok f =>
        first
          | exact wpAny_pure ⟨rfl, hr⟩
          | exact wpAny_bind (wpAny_pure (wpAny_pure ⟨rfl, hr⟩))
      | error e => exact hr.elim
/-- the loop of the second -/
theorem compLoopS2_in (I : Nat → Shared → Prop)
    (turn : ∀ n s, I n s → wpAny (model prog w) A (pyNext it) (fun r s₁ => match r with
      | none => R (.ok .next) s₁
      | some v => wpAny (model prog w) A (letOwnedTupleGo t1 it v) (fun _ s₁' => wpAny (model prog w) A (assign t1 env v) (fun _ s₂ =>
          wpAny (model prog w) A (forIn ifs1 true fun c r => if r = true then do let ok ← isTrue c env (eval c env); pure (ForInStep.yield ok) else pure (ForInStep.yield r)) (fun ok s₃ =>
            if ok = true then wpAny (model prog w) A (eval elt env) (fun x s₄ =>
              wpAny (model prog w) A (call (.builtin "set.add") [acc, x]) (fun _ s₅ => ∃ m, m < n ∧ I m s₅) (notedBy (model prog w) A env fun e s' => R (.error e) s') s₄) (notedBy (model prog w) A env fun e s' => R (.error e) s') s₃
            else ∃ m, m < n ∧ I m s₃) (notedBy (model prog w) A env fun e s' => R (.error e) s') s₂) (notedBy (model prog w) A env fun e s' => R (.error e) s') s₁') (notedBy (model prog w) A env fun e s' => R (.error e) s') s₁) (notedBy (model prog w) A env fun e s' => R (.error e) s') s)
    (n : Nat) (h : I n s) :
    codeAny (model prog w) A (.compLoop (.SetComp elt [⟨t0, i0, ifs0, 0⟩, ⟨t1, i1, ifs1, 0⟩] scope pos) 1 it acc env) R s := by
  refine codeAny_loop rfl I (fun n s hI => ?_) n h
  show wpAny _ A ((compTurn (.SetComp elt [⟨t0, i0, ifs0, 0⟩, ⟨t1, i1, ifs1, 0⟩] scope pos) 1 it acc env).onRaise (fun x => do noteFrame x env; theTreesLotGoes x)) _ _ s
  refine wpAny_noted ?_
  rw [compTurnS2_in]
  refine wpAny_bind (wpAny_standAt (wpAny_bind (wpAny_mono (turn n s hI) (fun r s₁ h₁ => ?_) fun _ _ h' => h')))
  cases r with
  | none => exact wpAny_pure h₁
  | some v =>
    refine wpAny_bind (wpAny_mono h₁ (fun _ s₁' h₁' => ?_) fun _ _ h' => h')
    refine wpAny_bind (wpAny_mono h₁' (fun _ s₂ h₂ => wpAny_bind (wpAny_mono h₂ (fun ok s₃ h₃ => ?_) fun _ _ h' => h')) fun _ _ h' => h')
    cases ok with
    | false => exact wpAny_pure ⟨rfl, h₃⟩
    | true =>
      exact wpAny_bind (wpAny_bind (wpAny_mono h₃ (fun x s₄ h₄ => wpAny_bind (wpAny_standAt (wpAny_bind (wpAny_mono h₄ (fun _ s₅ h₅ => wpAny_pure (wpAny_pure ⟨rfl, h₅⟩)) fun _ _ h' => h')))) fun _ _ h' => h'))
/-- the second clause's start -/
theorem compStartS1_ok (h0 : codeAny (model prog w) A (.compLoop (.SetComp elt [⟨t0, i0, ifs0, 0⟩, ⟨t1, i1, ifs1, 0⟩] scope pos) 1 it acc env) R s)
    (h : wpAny (model prog w) A (pyIter it) (fun it' s' => codeAny (model prog w) A (.compLoop (.SetComp elt [⟨t0, i0, ifs0, 0⟩, ⟨t1, i1, ifs1, 0⟩] scope pos) 1 it' acc env) R s')
      (notedBy (model prog w) A env fun x s' => R (.error x) s') s) :
    codeAny (model prog w) A (.compStart (.SetComp elt [⟨t0, i0, ifs0, 0⟩, ⟨t1, i1, ifs1, 0⟩] scope pos) 1 it acc env) R s := by
  refine codeAny_of_tree ?_
  show wpAny _ _ ((compStart (.SetComp elt [⟨t0, i0, ifs0, 0⟩, ⟨t1, i1, ifs1, 0⟩] scope pos) 1 it acc env).onRaise (fun x => do noteFrame x env; standAt theWindowsPlace)) _ _ s
  refine wpAny_notedAt ?_
  unfold compStart
  show wpAny _ _ (ask >>= _) _ _ s
  refine wpAny_bind (wpAny_askSetting (wpAny_ite ?_))
  split
  · first
      | exact wpAny_bind (wpAny_pure (wpAny_pure (And.intro rfl h0)))
      | exact wpAny_pure (And.intro rfl h0)
  · first
      | exact wpAny_bind (wpAny_rule (wpAny_bind (wpAny_standAt (wpAny_bind (wpAny_mono h (fun it' s' h' => wpAny_pure (And.intro rfl h')) fun _ _ x => x)))))
      | (refine wpAny_bind (wpAny_rule ?_); show wpAny _ _ (standAt i1.pos >>= _) _ _ s; exact wpAny_bind (wpAny_standAt (wpAny_bind (wpAny_mono h (fun it' s' h' => wpAny_pure (And.intro rfl h')) fun _ _ x => x))))
end
section
variable {X : Cx}
/-- [elt for tg in iter if .. for tg1 in iter1 if ..]: behind the first clause's store and tests the second source's own loop, from which Nx is reached. vs: the block's names; vs1: those of the second target -/
def tSc2 (w : World) (wi : TI) (g : TG) (tt : TT) (wi1 : TI) (g1 : TG) (tt1 : TT) (te : TE) (vs vs1 : List Nat) : TE := fun σ H Q => wi σ H fun J H1 => ∀ D, H1 D = none → ∃ W : Nat → Nat → Hp → Prop, (∃ m, W 0 m (upd H1 D (SetSO w D (fun _ => false) 0))) ∧ ∀ i m H, W i m H →
  (J.stop i H ∧ Q (.ref D) H) ∨ (J.go i H ∧ ∃ Nx : Hp → Prop, (∀ H', Nx H' → ∃ m', m' < m ∧ W (i + 1) m' H') ∧ ∀ x H', J.yld i H x H' → g x (wipe σ vs) H' fun σ2 H2 => wipe σ2 vs = wipe σ vs ∧ tt σ2 H2 fun b H3 =>
    if b = true then wi1 σ2 H3 fun J1 H4 => ∃ W1 : Nat → Nat → Hp → Prop, (∃ m, W1 0 m H4) ∧ ∀ j k H, W1 j k H →
      (J1.stop j H ∧ Nx H) ∨ (J1.go j H ∧ ∃ Nx1 : Hp → Prop, (∀ H', Nx1 H' → ∃ k', k' < k ∧ W1 (j + 1) k' H') ∧ ∀ x H', J1.yld j H x H' → g1 x (wipe σ2 vs1) H' fun σ3 H5 => wipe σ3 vs1 = wipe σ2 vs1 ∧ tt1 σ3 H5 fun b H6 =>
        if b = true then te σ3 H6 fun y H7 => ∃ (c : Str) (S : Str → Bool) (n : Nat), y = .str c ∧ H7 D = some (SetSO w D S n) ∧ n + 1 < scanBound ∧ Nx1 (upd H7 D (SetSO w D (fun j => S j || decide (j = c)) (if S c = true then n else n + 1))) else Nx1 H6)
    else Nx H3)
theorem sc2_core {pins : List (Addr × Obj)} {s : Shared} {σ : L2.St} {H : Hp} {Q : VK} {elt tg iter tg1 iter1 : Expr} {ifs ifs1 : List Expr} {scope : Scope} {own : List (Str × Nat)} {vs1 : List Nat} {pos pos' : Pos} {wi wi1 : TI} {g g1 : TG} {tt tt1 : TT} {te : TE} {use : Option (Value → Sem Unit)} {Qf : Value → Shared → Prop}
    (hc : X.calm = true) (hN : X.N.Nodup) (I : Inv X pins σ H s) (hi : PI X tg iter wi) (ok : BlkOk X.N X.env.scope scope own) (hv : ∀ i ∈ vs1, i ∈ own.map (·.2))
    (hg : ∀ (s : Shared) (H : Hp) (C : Addr) (cl : List (Str × Addr)) (fp : List Addr), PG (X.blk s H scope (compEnvC scope cl C X.env) fp) tg g) (ht : ∀ (s : Shared) (H : Hp) (C : Addr) (cl : List (Str × Addr)) (fp : List Addr), PTs (X.blk s H scope (compEnvC scope cl C X.env) fp) ifs tt)
    (he : ∀ (s : Shared) (H : Hp) (C : Addr) (cl : List (Str × Addr)) (fp : List Addr), PE (X.blk s H scope (compEnvC scope cl C X.env) fp) elt te) (hs : ∀ x, foldedSetIterable iter X.env x = pure x)
    (hi1 : ∀ (s : Shared) (H : Hp) (C : Addr) (cl : List (Str × Addr)) (fp : List Addr), PI (X.blk s H scope (compEnvC scope cl C X.env) fp) tg1 iter1 wi1)
    (hg1 : ∀ (s : Shared) (H : Hp) (C : Addr) (cl : List (Str × Addr)) (fp : List Addr), PG (X.blk s H scope (compEnvC scope cl C X.env) fp) tg1 g1)
    (ht1 : ∀ (s : Shared) (H : Hp) (C : Addr) (cl : List (Str × Addr)) (fp : List Addr), PTs (X.blk s H scope (compEnvC scope cl C X.env) fp) ifs1 tt1)
    (hs1 : ∀ env x, foldedSetIterable iter1 env x = pure x)
    (h : tSc2 X.w wi g tt wi1 g1 tt1 te (own.map (·.2)) vs1 σ H Q)
    (hRR : ∀ D C s' m H', Inv X pins σ H' s' → Q (.ref D) H' → s'.heap.Ns C m → FpOk X pins H' C → compPost (model X.prog X.w) X.A X.xe use Qf (.ref D) C (.ok .next) s') :
    wpAny (model X.prog X.w) X.A (comprehension (.SetComp elt [⟨tg, iter, ifs, 0⟩, ⟨tg1, iter1, ifs1, 0⟩] scope pos) scope X.env pos' (newSet (.type "set")) false (eval iter X.env) use) Qf X.xe s := by
  have hfree : ∀ y ∈ scope.names, y.2 = .free → ∃ c, X.env.cells.lookup y.1 = some c := fun y hy e => by
    rcases ok.free y hy e with k | k
    · exact I.ok.has _ (.inl k)
    · exact I.ok.has _ (.inr k)
  refine wpAny_comprehension_free (use := use) rfl hs (closure_ok hfree) ok.kind (fun y hy e => by rw [ok.uniq y hy, e])
    (thn (hi.run pins s σ H _ I h) fun xv s1 hx => thn hx fun itv s2 h2 => ?_)
  obtain ⟨it, fp, tn, J, H2, e, I2, T, st2, f2, q⟩ := h2
  subst e
  refine newSet_ok (newEnv_comp ?_)
  generalize hD : s2.heap.objs.size = D
  have hDn : H2 D = none := I2.hok.fresh (Nat.le_of_eq hD)
  obtain ⟨W, ⟨m0, w0⟩, turn⟩ := q D hDn
  -- the new list
  generalize hs3 : ({ s2 with heap := s2.heap.push { cls := .type "set", dict := none, data := .set #[] 0 (.fresh 0 0 (!X.w.params.followText "set-order")) } } : Shared) = s3
  have I3 : Inv X pins σ (upd H2 D (SetSO X.w D (fun _ => false) 0)) s3 := by
    rw [← hs3]
    refine I2.laid (t' := s2.toks) (fun b o e => Heap.get?_push_of_some _ e) (Nat.le_of_eq hD) ?_
    rw [← hD]
    exact setSO_new (setS_fresh X.w)
  have h3 : s3.heap = s2.heap.push { cls := .type "set", dict := none, data := .set #[] 0 (.fresh 0 0 (!X.w.params.followText "set-order")) } := by rw [← hs3]
  have sz : ∀ b ∈ fp, b < s2.heap.objs.size := fun b hb => by
    obtain ⟨o, e, _⟩ := T.obj _ _ st2 b hb
    exact Heap.lt_size e
  have f3 : ∀ b ∈ fp, FpOk X pins (upd H2 D (SetSO X.w D (fun _ => false) 0)) b ∧ b < s3.heap.objs.size := fun b hb => by
    have hlt := sz b hb
    refine ⟨⟨?_, (f2 b hb).2⟩, by rw [h3, Heap.size_push]; exact Nat.lt_succ_of_lt hlt⟩
    rw [upd_ne (by rw [← hD]; exact Nat.ne_of_lt hlt)]
    exact (f2 b hb).1
  have st3 : tn 0 s3.heap := T.keep _ _ _ st2 fun b _ o e => by rw [h3]; exact Heap.get?_push_of_some _ e
  have I4 := block_start I3 ok hN f3
  have pg := hg s3 (upd H2 D (SetSO X.w D (fun _ => false) 0)) s3.heap.objs.size (cellsFrom (s3.heap.objs.size + 1) scope.names (cloFrom X.env.cells scope.names [])) fp
  have pt := ht s3 (upd H2 D (SetSO X.w D (fun _ => false) 0)) s3.heap.objs.size (cellsFrom (s3.heap.objs.size + 1) scope.names (cloFrom X.env.cells scope.names [])) fp
  have pe := he s3 (upd H2 D (SetSO X.w D (fun _ => false) 0)) s3.heap.objs.size (cellsFrom (s3.heap.objs.size + 1) scope.names (cloFrom X.env.cells scope.names [])) fp
  have pi1 := hi1 s3 (upd H2 D (SetSO X.w D (fun _ => false) 0)) s3.heap.objs.size (cellsFrom (s3.heap.objs.size + 1) scope.names (cloFrom X.env.cells scope.names [])) fp
  have pg1 := hg1 s3 (upd H2 D (SetSO X.w D (fun _ => false) 0)) s3.heap.objs.size (cellsFrom (s3.heap.objs.size + 1) scope.names (cloFrom X.env.cells scope.names [])) fp
  have pt1 := ht1 s3 (upd H2 D (SetSO X.w D (fun _ => false) 0)) s3.heap.objs.size (cellsFrom (s3.heap.objs.size + 1) scope.names (cloFrom X.env.cells scope.names [])) fp
  show codeAny _ _ (.compStart (.SetComp elt [⟨tg, iter, ifs, 0⟩, ⟨tg1, iter1, ifs1, 0⟩] scope pos) 0 (.ref it) (.ref D) (compEnvC scope (cellsFrom (s3.heap.objs.size + 1) scope.names (cloFrom X.env.cells scope.names [])) s3.heap.objs.size X.env)) (compPost (model X.prog X.w) X.A X.xe use Qf (.ref D) s3.heap.objs.size) { s3 with heap := pushCells (s3.heap.push { cls := .type "dict", data := .dict #[] }) scope.names }
  have nfp : ∀ b ∈ fp, (upd H2 D (SetSO X.w D (fun _ => false) 0)) b = none := fun b hb => (f3 b hb).1.1
  generalize hce : compEnvC scope (cellsFrom (s3.heap.objs.size + 1) scope.names (cloFrom X.env.cells scope.names [])) s3.heap.objs.size X.env = ce at I4 pg pt pe pi1 pg1 pt1 ⊢
  have cL : ce.locals = s3.heap.objs.size := by subst hce; rfl
  generalize hH3 : upd H2 D (SetSO X.w D (fun _ => false) 0) = H3 at I3 I4 pg pt pe pi1 pg1 pt1 w0 nfp f3
  generalize hs4 : ({ s3 with heap := pushCells (s3.heap.push { cls := .type "dict", data := .dict #[] }) scope.names } : Shared) = s4 at I4 ⊢
  have st4 : tn 0 s4.heap := T.keep _ _ _ st3 fun b _ o e => by rw [← hs4]; exact pushCells_keeps _ _ _ _ (Heap.get?_push_of_some _ e)
  have stat : ∀ {σ' : L2.St} {H' : Hp} {s' : Shared}, Inv (X.blk s3 H3 scope ce fp) [] σ' H' s' → (∀ b ∈ fp, H' b = none) → ∀ b ∈ fp, FpOk (X.blk s3 H3 scope ce fp) [] H' b := fun {σ' H' s'} I' hn b hb =>
    ⟨hn b hb, (I'.ok.exf b hb).1, I'.ok.exfs b hb, .inl hb, fun x c e => (I'.ok.exf b hb).2 x c e, fun p hp => absurd (show p ∈ ([] : List (Addr × Obj)) ++ [] from hp) (by simp)⟩
  have loop : codeAny (model X.prog X.w) X.A (.compLoop (.SetComp elt [⟨tg, iter, ifs, 0⟩, ⟨tg1, iter1, ifs1, 0⟩] scope pos) 0 (.ref it) (.ref D) ce) (compPost (model X.prog X.w) X.A X.xe use Qf (.ref D) s3.heap.objs.size) s4 := by
    refine compLoopS2_out (hs1 ce) (fun n s' => ∃ i H', Inv (X.blk s3 H3 scope ce fp) [] (wipe σ (own.map (·.2))) H' s' ∧ tn i s'.heap ∧ (∀ b ∈ fp, H' b = none) ∧ W i n H') ?_ m0 ⟨0, H3, I4, st4, nfp, w0⟩
    rintro n s5 ⟨i, H5, I5, st5, n5, w5⟩
    rcases turn i n H5 w5 with ⟨stop, qq⟩ | ⟨go, Nx, hNx, step⟩
    · have td := T.done (X.blk s3 H3 scope ce fp) rfl rfl rfl hc i [] s5 _ H5 (fun _ _ => False) I5 (stat I5 n5) st5 stop
      refine thnF td fun r s6 ⟨hr, I6⟩ => ?_
      subst hr
      -- back in the def's context
      have I7 : Inv X pins σ H5 s6 := I3.call' (ch := fp) I6.os I6.base I6.hok I6.bare fun b hb => ⟨(f3 b hb).1.2.2.2.1, (f3 b hb).1.2.1, (f3 b hb).1.2.2.2.2.1, (f3 b hb).1.2.2.2.2.2⟩
      have nC : H5 s3.heap.objs.size = none := by
        have z : H5 ce.locals = none := I6.free
        rw [cL] at z
        exact z
      obtain ⟨m, hn, _⟩ := I6.loc
      have hn : s6.heap.Ns ce.locals m := hn
      rw [cL] at hn
      exact hRR D s3.heap.objs.size s6 m H5 I7 qq hn (I3.fpOk (Nat.le_refl _) nC)
    · have ti := T.item (X.blk s3 H3 scope ce fp) rfl rfl rfl hc i [] s5 _ H5 (fun _ _ => False) I5 (stat I5 n5) st5 go
      refine thnF ti fun r s6 ⟨u, hr, h6⟩ => ?_
      subst hr
      refine thnF h6 fun _ s7 ⟨x, H7, I7, r7, y7, st7, n7⟩ => ?_
      have I7' := I7.pinned (stat I7 n7) (T.obj _ _ st7)
      refine thnF (pg.run _ s7 _ H7 x u _ I7' r7 (step x H7 y7)) fun _ s8 ⟨σ8, H8, I8, hw8, q8⟩ => ?_
      refine thnF (pt.run _ s8 σ8 H8 _ I8 q8) fun b s9 ⟨H9, I9, q9⟩ => ?_
      -- the turn's end, from any slots that know what the block knew at its start
      have fin : ∀ {σ9 : L2.St} {s' : Shared} {H' : Hp}, Inv (X.blk s3 H3 scope ce fp) ([] ++ pinsAt fp s7.heap) σ9 H' s' → (wipe σ (own.map (·.2))).length = σ9.length → (∀ (j : Nat) v, (wipe σ (own.map (·.2)))[j]? = some (some v) → σ9[j]? = some (some v)) → Nx H' →
          ∃ m, m < n ∧ ∃ i H', Inv (X.blk s3 H3 scope ce fp) [] (wipe σ (own.map (·.2))) H' s' ∧ tn i s'.heap ∧ (∀ b ∈ fp, H' b = none) ∧ W i m H' := fun {σ9 s' H'} I' hl hk nx => by
        obtain ⟨m', hm, w'⟩ := hNx H' nx
        have pin' : ∀ b ∈ fp, ∀ o, s7.heap.get? b = some o → s'.heap.get? b = some o ∧ H' b = none := fun b hb o e =>
          let z := I'.pin (b, o) (List.mem_append_right _ (List.mem_append_right _ (mem_pinsAt hb e)))
          ⟨z.1, z.2.1⟩
        refine ⟨m', hm, i + 1, H', (I'.unpinned (pins := [])).weak hl hk, T.keep _ _ _ st7 fun b hb o e => (pin' b hb o e).1, fun b hb => ?_, w'⟩
        obtain ⟨o, e, _⟩ := T.obj _ _ st7 b hb
        exact (pin' b hb o e).2
      have hl8 : (wipe σ (own.map (·.2))).length = σ8.length := by rw [← hw8, wipe_length]
      have hk8 : ∀ (j : Nat) v, (wipe σ (own.map (·.2)))[j]? = some (some v) → σ8[j]? = some (some v) := fun j v e => by
        rw [← hw8] at e
        exact (wipe_some e).1
      have hk9 : ∀ (j : Nat) v, (wipe σ (own.map (·.2)))[j]? = some (some v) → (wipe σ8 vs1)[j]? = some (some v) := fun j v e => by
        rw [← hw8] at e
        obtain ⟨e1, e2⟩ := wipe_some e
        rw [wipe_out fun z => e2 (hv j z)]
        exact e1
      cases b with
      | false =>
        simp only [Bool.false_eq_true, if_false] at q9 ⊢
        exact fin I9 hl8 hk8 q9
      | true =>
        simp only [if_true] at q9 ⊢
        refine thnF (pi1.run _ s9 σ8 H9 _ I9 q9) fun xv s10 hx => thnF hx fun itv s11 h11 => ?_
        obtain ⟨it1, fp1, tn1, J1, H11, e1, I11, T1, st11, f11, W1, ⟨m1, w1⟩, turn1⟩ := h11
        subst e1
        -- the inner loop
        have stat1 : ∀ {H' : Hp}, (∀ b ∈ fp1, H' b = none) → ∀ b ∈ fp1, FpOk (X.blk s3 H3 scope ce fp) ([] ++ pinsAt fp s7.heap) H' b := fun hn b hb => ⟨hn b hb, (f11 b hb).2⟩
        have loop1 : codeAny (model X.prog X.w) X.A (.compLoop (.SetComp elt [⟨tg, iter, ifs, 0⟩, ⟨tg1, iter1, ifs1, 0⟩] scope pos) 1 (.ref it1) (.ref D) ce)
            (fun r s' => match r with
              | .ok _ => ∃ m, m < n ∧ ∃ i H', Inv (X.blk s3 H3 scope ce fp) [] (wipe σ (own.map (·.2))) H' s' ∧ tn i s'.heap ∧ (∀ b ∈ fp, H' b = none) ∧ W i m H'
              | .error _ => False) s11 := by
          refine compLoopS2_in (fun k s' => ∃ j H', Inv (X.blk s3 H3 scope ce fp) ([] ++ pinsAt fp s7.heap) (wipe σ8 vs1) H' s' ∧ tn1 j s'.heap ∧ (∀ b ∈ fp1, H' b = none) ∧ W1 j k H') ?_ m1 ⟨0, H11, I11.weak (wipe_length _ _) (fun j v e => (wipe_some e).1), st11, fun b hb => (f11 b hb).1, w1⟩
          rintro k s12 ⟨j, H12, I12, st12, n12, w12⟩
          rcases turn1 j k H12 w12 with ⟨stop1, nx1⟩ | ⟨go1, Nx1, hNx1, step1⟩
          · refine thnF (T1.done (X.blk s3 H3 scope ce fp) rfl rfl rfl hc j _ s12 (wipe σ8 vs1) H12 (fun _ _ => False) I12 (stat1 n12) st12 stop1) fun r s13 ⟨hr, I13⟩ => ?_
            subst hr
            exact fin I13 (hl8.trans (wipe_length σ8 vs1).symm) hk9 nx1
          · refine thnF (T1.item (X.blk s3 H3 scope ce fp) rfl rfl rfl hc j _ s12 (wipe σ8 vs1) H12 (fun _ _ => False) I12 (stat1 n12) st12 go1) fun r s13 ⟨u1, hr, h13⟩ => ?_
            subst hr
            refine thnF h13 fun _ s14 ⟨x1, H14, I14, r14, y14, st14, n14⟩ => ?_
            have I14' := I14.pinned (stat1 n14) (T1.obj _ _ st14)
            refine thnF (pg1.run _ s14 (wipe σ8 vs1) H14 x1 u1 _ I14' r14 (step1 x1 H14 y14)) fun _ s15 ⟨σ15, H15, I15, hw15, q15⟩ => ?_
            refine thnF (pt1.run _ s15 σ15 H15 _ I15 q15) fun b1 s16 ⟨H16, I16, q16⟩ => ?_
            have fin1 : ∀ {s' : Shared} {H' : Hp}, Inv (X.blk s3 H3 scope ce fp) (([] ++ pinsAt fp s7.heap) ++ pinsAt fp1 s14.heap) σ15 H' s' → Nx1 H' → ∃ m, m < k ∧ ∃ j H', Inv (X.blk s3 H3 scope ce fp) ([] ++ pinsAt fp s7.heap) (wipe σ8 vs1) H' s' ∧ tn1 j s'.heap ∧ (∀ b ∈ fp1, H' b = none) ∧ W1 j m H' := fun {s' H'} I' nx => by
              obtain ⟨m', hm, w'⟩ := hNx1 H' nx
              have pin' : ∀ b ∈ fp1, ∀ o, s14.heap.get? b = some o → s'.heap.get? b = some o ∧ H' b = none := fun b hb o e =>
                let z := I'.pin (b, o) (List.mem_append_right _ (List.mem_append_right _ (mem_pinsAt hb e)))
                ⟨z.1, z.2.1⟩
              refine ⟨m', hm, j + 1, H', I'.unpinned.weak (by rw [← hw15, wipe_length]) (fun j v e => by rw [← hw15] at e; exact (wipe_some e).1), T1.keep _ _ _ st14 fun b hb o e => (pin' b hb o e).1, fun b hb => ?_, w'⟩
              obtain ⟨o, e, _⟩ := T1.obj _ _ st14 b hb
              exact (pin' b hb o e).2
            cases b1 with
            | false =>
              simp only [Bool.false_eq_true, if_false] at q16 ⊢
              exact fin1 I16 q16
            | true =>
              simp only [if_true] at q16 ⊢
              refine thnF (pe.run _ s16 σ15 H16 _ I16 q16) fun z s17 ⟨yv, H17, I17, r17, cb, S0, n0, ey, hD17, hz17, nx⟩ => ?_
              subst ey
              obtain ⟨tk, rfl⟩ := r17
              exact addS_ok (X := X.blk s3 H3 scope ce fp) I17 hD17 hz17 fun s18 I18 => fin1 I18 nx
        exact compStartS1_ok loop1 (T1.self X.A 0 _ _ _ st11 loop1)
  exact codeAny_compStart_set loop (T.self X.A 0 _ _ _ st4 loop)
/-- as a value -/
theorem pe_sc2 {elt tg iter tg1 iter1 : Expr} {ifs ifs1 : List Expr} {scope : Scope} {own : List (Str × Nat)} {vs1 : List Nat} {pos : Pos} {wi wi1 : TI} {g g1 : TG} {tt tt1 : TT} {te : TE} (hc : X.calm = true) (hN : X.N.Nodup) (hi : PI X tg iter wi) (ok : BlkOk X.N X.env.scope scope own) (hv : ∀ i ∈ vs1, i ∈ own.map (·.2))
    (hg : ∀ (s : Shared) (H : Hp) (C : Addr) (cl : List (Str × Addr)) (fp : List Addr), PG (X.blk s H scope (compEnvC scope cl C X.env) fp) tg g) (ht : ∀ (s : Shared) (H : Hp) (C : Addr) (cl : List (Str × Addr)) (fp : List Addr), PTs (X.blk s H scope (compEnvC scope cl C X.env) fp) ifs tt)
    (hi1 : ∀ (s : Shared) (H : Hp) (C : Addr) (cl : List (Str × Addr)) (fp : List Addr), PI (X.blk s H scope (compEnvC scope cl C X.env) fp) tg1 iter1 wi1)
    (hg1 : ∀ (s : Shared) (H : Hp) (C : Addr) (cl : List (Str × Addr)) (fp : List Addr), PG (X.blk s H scope (compEnvC scope cl C X.env) fp) tg1 g1) (ht1 : ∀ (s : Shared) (H : Hp) (C : Addr) (cl : List (Str × Addr)) (fp : List Addr), PTs (X.blk s H scope (compEnvC scope cl C X.env) fp) ifs1 tt1)
    (he : ∀ (s : Shared) (H : Hp) (C : Addr) (cl : List (Str × Addr)) (fp : List Addr), PE (X.blk s H scope (compEnvC scope cl C X.env) fp) elt te) (hs : ∀ x, foldedSetIterable iter X.env x = pure x := by intro _; rfl) (hs1 : ∀ env x, foldedSetIterable iter1 env x = pure x := by intro _ _; rfl) :
    PE X (.SetComp elt [⟨tg, iter, ifs, 0⟩, ⟨tg1, iter1, ifs1, 0⟩] scope pos) (tSc2 X.w wi g tt wi1 g1 tt1 te (own.map (·.2)) vs1) := by
  refine ⟨fun pins s σ H Q I h => ?_⟩
  rw [eval_SetComp]
  refine sc2_core hc hN I hi ok hv hg ht he hs hi1 hg1 ht1 hs1 h fun D C s' m H' I' q hn f => ⟨m, hn, fun h'' sb => ?_⟩
  obtain ⟨f0, f1, f2, f3, f4, f5⟩ := f
  exact ⟨.ref D, H', I'.turned (t' := s'.toks) (fun b o hb e => (sb.2 b hb).trans e) f0 f1 f3 f4 f5, rfl, q⟩
end
end N1
set_option maxHeartbeats 2000000
/-! own exceptions under ValueError whose __init__ begins with super().__init__(..) -/
namespace N1
open PySem
abbrev bwV (x : Addr) : Obj := { cls := .type "method-wrapper", dict := none, data := .fields #[.builtin "ValueError.__init__", .ref x], slots := #[] }
theorem type_vi : typeOf (.builtin "ValueError.__init__") = pure (.type "wrapper_descriptor") := by show builtinType _ = _; rw [builtinType_eq_fast]; kernel_rfl
theorem nacV : (kfb_private% "nameAndClass") (Value.builtin "ValueError.__init__") = (pure (("__init__" : Str), Value.type "ValueError") : Sem (Str × Value)) := by kernel_rfl
section
open PySem.W
variable {prog : Program} {w : World} {M : Model} {A : Around} {E : Value → Shared → Prop} {h : Heap} {g : Array GenState} {d : Drawn} {t : Nat} {os : OsState}
theorem run_wdV {x C : Addr} {P : Fin → Shared → Prop} (hin : W.Looks M h (isInstance (.ref x) (.type "ValueError")) true) (hq : P (.done (.ret (.ref h.objs.size))) ⟨h.push (bwV x), g, d, t, os⟩) :
    wpAny M A (Builtin.«wrapper_descriptor.__get__» ⟨[.builtin "ValueError.__init__", .ref x, .ref C], []⟩) P E ⟨h, g, d, t, os⟩ := by
  unfold Builtin.«wrapper_descriptor.__get__»
  refine wpAny_bind (wpAny_of_eq (a := (.builtin "ValueError.__init__", some (.ref x), some (.ref C))) (by first | rfl | kernel_rfl) ?_)
  show wpAny M A ((kfb_private% "checkInstance") (.builtin "ValueError.__init__") (.ref x) >>= fun _ => newFields "method-wrapper" [.builtin "ValueError.__init__", .ref x] >>= fun r => ret r) P E _
  refine wpAny_bind ?_
  show wpAny M A ((kfb_private% "nameAndClass") (.builtin "ValueError.__init__") >>= _) _ E _
  refine wpAny_bind (wpAny_of_eq nacV ?_)
  show wpAny M A (isInstance (.ref x) (.type "ValueError") >>= _) _ E _
  refine wpAny_bind (hin.at ?_)
  refine KFB.if_not rfl ?_
  refine wpAny_pure ?_
  exact wpAny_bind (wpAny_newObj_type (wpAny_pure hq))
theorem super_gaV {so D x C : Addr} {l₀ l : List Value} {K : Frag} {name : Str} {tk : Tok} {Q : Fin → Shared → Prop}
    (hso : h.get? so = some { cls := .type "super", dict := none, data := .fields #[.ref D, .ref x, .ref C], slots := #[] }) (hno : W.Looks (model prog w) h (opaqueClassAbove (.ref C)) none)
    (hC : W.Looks (model prog w) h (mroOf (.ref C)) l₀) (hl : (l₀.dropWhile (· != .ref D)).drop 1 = l) (X : K.In h)
    (hf : alongIn K name l = some (some (.builtin "ValueError.__init__"))) (hxC : x ≠ C) (hn : (name == ("__class__" : Str)) = false) (hin : W.Looks (model prog w) h (isInstance (.ref x) (.type "ValueError")) true)
    (hq : Q (.done (.ret (.ref h.objs.size))) ⟨h.push (bwV x), g, d, t, os⟩) :
    wpAny (model prog w) A (Builtin.«super.__getattribute__» ⟨[.ref so, .str name tk], []⟩) Q E ⟨h, g, d, t, os⟩ := by
  have hlk := PySem.ESX.slot_wd.lookup
  have hne : (Value.ref x == Value.ref C) = false := by simp [hxC]
  have hTf := type_vi
  have hTi : Shared.TypeIs ⟨h, g, d, t, os⟩ (.builtin "ValueError.__init__") "wrapper_descriptor" := type_vi
  have hdt : ({ cls := .type "super", dict := none, data := .fields #[.ref D, .ref x, .ref C], slots := #[] } : Obj).data = .fields #[.ref D, .ref x, .ref C] := rfl
  have f0 : (#[.ref D, .ref x, .ref C] : Array Value)[0]? = some (.ref D) := rfl
  have f1 : (#[.ref D, .ref x, .ref C] : Array Value)[1]? = some (.ref x) := rfl
  have f2 : (#[.ref D, .ref x, .ref C] : Array Value)[2]? = some (.ref C) := rfl
  unfold Builtin.«super.__getattribute__»
  repeat (first
    | (with_reducible refine wpAny_field hso hdt f0 ?_) | (with_reducible refine wpAny_field hso hdt f1 ?_) | (with_reducible refine wpAny_field hso hdt f2 ?_)
    | (with_reducible refine ks_wpAny_notOpaque hno ?_)
    | (with_reducible refine Looks.at hC ?_; rw [hl])
    | (refine ks_forIn_along X (fun _ _ => rfl) rfl ?_ hf)
    | (with_reducible refine wpAny_call_entry PySem.ESX.slot_wd hTi PySem.ESX.entry_wd ?_ (PySem.ESX.args_wd _ _ _))
    | (with_reducible refine run_wdV hin ?_)
    | (with_reducible refine ⟨_, rfl, ?_⟩)
    | (simp only [hn, hne, Bool.or_false, Bool.false_eq_true, if_false])
    | wp_step
    | dsimp only)
  all_goals exact hq
theorem getMethod_superV {so D x C : Addr} {l₀ l : List Value} {K : Frag} {name : Str} {pl : Sem Bool} {Q : Value × List Value → Shared → Prop}
    (hso : h.get? so = some { cls := .type "super", dict := none, data := .fields #[.ref D, .ref x, .ref C], slots := #[] }) (hno : W.Looks (model prog w) h (opaqueClassAbove (.ref C)) none)
    (hC : W.Looks (model prog w) h (mroOf (.ref C)) l₀) (hl : (l₀.dropWhile (· != .ref D)).drop 1 = l) (X : K.In h)
    (hf : alongIn K name l = some (some (.builtin "ValueError.__init__"))) (hxC : x ≠ C) (hn : (name == ("__class__" : Str)) = false) (hin : W.Looks (model prog w) h (isInstance (.ref x) (.type "ValueError")) true)
    (hq : Q (.ref h.objs.size, []) ⟨h.push (bwV x), g, d, t + 1, os⟩) :
    wpAny (model prog w) A (getMethod (.ref so) name pl) Q E ⟨h, g, d, t, os⟩ := by
  have hlk := F.ks_slot_super_ga.lookup
  have hcan := F.ks_canon_super_ga
  have hT : ∀ t', (⟨h, g, d, t', os⟩ : Shared).TypeIs (.ref so) "super" := fun _ => ⟨_, hso, rfl⟩
  unfold getMethod
  refine wpAny_bind (wpAny_specialOf (hT _) hlk ?_)
  show wpAny _ _ (if (Manifest.canonical "super.__getattribute__" != "object.__getattribute__") = true then _ else _) _ _ _
  rw [if_pos hcan]
  unfold getAttr getAttrBy
  refine wpAny_bind (wpAny_bind (wpAny_mkText (wpAny_holding (wpAny_bind (wpAny_typeOf (hT _) (wpAny_bind (wpAny_of_eq hlk ?_)))))))
  show wpAny _ _ (getAttrByItsOwn (.ref so) (.str name t) (.type "super") (.builtin "super.__getattribute__") true false) _ _ _
  unfold getAttrByItsOwn hookBefore callGetattribute boundAndCalled
  refine wpAny_bind (wpAny_of_eq (show (if onTheHeap (.type "super") then typeLookup (.type "super") "__getattr__" else pure none) = pure none from rfl) ?_)
  refine wpAny_bind (wpAny_attempt (wpAny_holding ?_))
  show wpAny _ _ (bindSpecial (.builtin "super.__getattribute__") (.ref so) >>= _) _ _ _
  refine wpAny_bind (wpAny_of_eq (F.ks_slot_super_ga.bind _) ?_)
  refine wpAny_mono (Q := fun v s' => v = .ref h.objs.size ∧ s' = ⟨h.push (bwV x), g, d, t + 1, os⟩) (E := fun _ _ => False)
    (wpAny_call_entry F.ks_slot_super_ga (hT _) F.ks_entry_super_ga (super_gaV hso hno hC hl X hf hxC hn hin ⟨_, rfl, rfl, rfl⟩) (F.ks_gaArgs_super _ _)) (fun v s' hv => ?_) fun _ _ z => z.elim
  obtain ⟨rfl, rfl⟩ := hv
  exact wpAny_pure (wpAny_pure hq)
end
section
open PySem.W PySem.Calls PyProof.Rows
variable {prog : Program} {w : World} {M : Model} {A : Around} {E : Value → Shared → Prop} {s : Shared}
theorem callWith_bwV {pos : Pos} {u x : Addr} {first : List Value} {args : List (Bool × Sem Value)} {Q : Value → Shared → Prop} (hplain : args.any (·.1) = false)
    (h : wpAny M A (evalArgs (.ref u) true args []) (fun a s₁ => s₁.heap.get? u = some (bwV x) ∧ wpAny M A (call (.ref u) (first ++ a.pos) a.kw) Q E s₁) E s) : wpAny M A (callWith pos (.ref u) first args []) Q E s := by
  unfold callWith
  refine wpAny_bind (wpAny_holding (wpAny_mono h (fun a s₁ h₁ => wpAny_bind (wpAny_standAt ?_)) fun _ _ x => x))
  obtain ⟨ho, hcall⟩ := h₁
  simp only [hplain, List.any_nil, Bool.or_false]
  refine wpAny_bind (m := keeperOf (.ref u)) ?_
  unfold keeperOf
  refine wpAny_bind (wpAny_load ho ?_)
  simp only [bwV, show (Value.type "method-wrapper" != Value.type "method") = true by decide, show (Value.type "method-wrapper" == Value.type "builtin_function_or_method" || Value.type "method-wrapper" == Value.type "method-wrapper") = true by decide, if_true]
  refine wpAny_pure ?_
  exact wpAny_bind (wpAny_mono hcall (fun r s₂ hr => wpAny_bind (wpAny_holding (wpAny_point (wpAny_pure hr)))) fun _ _ x => x)
theorem callWith_boundV {pos : Pos} {u x : Addr} {first : List Value} {env : Env} {e : Expr} {rest : List Expr} {Q : Value → Shared → Prop}
    (h : wpAny M A (spliced (backTo pos (starEach (e :: rest) env))) (fun vs s₁ => s₁.heap.get? u = some (bwV x) ∧ wpAny M A (call (.ref u) (first ++ vs)) Q E s₁) E s)
    (he : starEach (e :: rest) env = (false, eval e env) :: starEach rest env := by rfl) (hplain : (backTo pos (starEach rest env)).any (·.1) = false := by rfl) :
    wpAny M A (callWith pos (.ref u) first (backTo pos (starEach (e :: rest) env)) []) Q E s := by
  rw [he] at h ⊢
  refine callWith_bwV (x := x) (by show (false || (backTo pos (starEach rest env)).any (·.1)) = false; rw [hplain]; rfl) ?_
  exact evalArgs_plain h
end
section
open PySem.W PySem.Calls PyProof.Rows
variable {prog : Program} {w : World} {A : Around} {E : Value → Shared → Prop} {h : Heap} {g : Array GenState} {d : Drawn} {t : Nat} {os : OsState}
variable {nm q : Str} {C N : Addr} {bs bm : List Value} {hdct : Bool} {sn : List Str} {sub : List Value} {ab : Bool} {col : Option Bool} {dd : Option Addr} {k0 k1 k2 k3 k5 : Option Value}
theorem call_bwV {u e t0 : Addr} {rest : List Value} {Q : Value → Shared → Prop}
    (hC : h.get? C = some (excClassObj nm q C N bs bm hdct sn sub ab col dd k0 k1 k2 k3 k5 "ValueError.__new__")) (he : h.get? e = some (HandSPX.excO C t0)) (hu : h.get? u = some (bwV e)) (hrest : rest.length ≤ sizeLine)
    (hq : ∀ h' t1, (∀ b o, b ≠ e → h.get? b = some o → h'.get? b = some o) → h'.get? e = some (HandSPX.excO C t1) → Q .none ⟨h', g, d, t, os⟩) :
    wpAny (model prog w) A (call (.ref u) rest) Q E ⟨h, g, d, t, os⟩ := by
  refine wpAny_call (codeAny_of_tree ?_)
  show wpAny _ A.in1 (callAny (.ref u) ⟨rest, []⟩) _ _ _
  simp only [callAny]
  refine wpAny_bind (wpAny_load hu ?_)
  simp only [bwV, show (Value.type "method-wrapper" == Value.type "method" || Value.type "method-wrapper" == Value.type "builtin_function_or_method" || Value.type "method-wrapper" == Value.type "method-wrapper") = true by decide, if_true]
  refine W.KFB.if_so (by decide) ?_
  refine wpAny_bind (ESX.check_bound F.excBase_ValueError hC he rfl ?_)
  refine wpAny_bind (wpAny_pure (wpAny_pure ?_))
  refine ⟨Code.quiet_builtin _ (by decide +kernel), codeAny_builtin F.excBase_ValueError.initEntry ?_⟩
  rw [Around.under_plainId F.excBase_ValueError.init.plain _]
  wp_walk
  refine hq _ h.objs.size (fun b o hb ho => ?_) ?_
  · rw [Heap.get?_update_other _ _ (Ne.symm hb)]
    exact Heap.get?_push_of_some _ ho
  · rw [Heap.get?_update_self _ (Heap.get?_push_of_some _ he) rfl]
    rfl
end
section
open PySem.Spec PyProof.Rows L2 NdefX
variable {CX CX2 : CXT} {P : Program} {w : World} {K : PySem.W.Frag} {mg : Str → Option Value} {base : Heap} {N ps : List Str} {k : Nat} {f cc cda C : Addr} {name qual : Str} {params : Arguments} {scope : Scope} {e : Expr} {es : List Expr} {p0 p1 p2 p3 p4 : Pos} {ta : TA} {ar : Arg}
/-- def __init__(self, ..): super().__init__(e ..); rest -- in a class C of exceptions under ValueError -/
theorem fn_excsup {body rest : List Stmt} (S : SupD P K name qual params body scope f cc cda C) (hbd : body = .Expr (.Call (.Attribute (.Call (.Name "super" p0) [] [] p1) "__init__" p2) (e :: es) [] p3) p4 :: rest)
    (Sc : NScope N ps ["__class__"] scope) (hnd : ps.Nodup) (hps : ps = ("self" : Str) :: ps.tail) (har : (params.posonlyargs ++ params.args).head? = some ar) (harn : ar.arg = "self") (hks : scope.names.lookup ("super" : Str) = some .globalImplicit)
    (hb : ∀ (kV doc pm : Value) (an : Option Addr) (ct : Value) (us : List Value), us.length = ps.length → bindArgs (PySem.W.fnX name qual params body scope [("__class__", cc)] .none kV doc pm an (.ref cda) ct) ⟨us, []⟩ = pure (ps.zip us))
    (hsm : mg "super" = none) (htop : (P.main.scope.names.lookup ("super" : Str)).isSome = false) (hop : PySem.W.nsIn K cStatics "thirdparty.any" = some none)
    (T : OexC K C) (hm : PySem.W.ks_superIn K C C "__init__" = some (some (.builtin "ValueError.__init__"))) (hsub : PySem.W.mroIn K C (.ref C) = some true) (hve : PySem.W.mroIn K C (.type "ValueError") = some true)
    (ha : ∀ A outer s H E, PA (ncx CX P w K mg base N (supF name qual params body scope cc cda) f A outer s H E) (e :: es) ta)
    (hs : ∀ A outer s H E, swapsWith (.Call (.Attribute (.Call (.Name "super" p0) [] [] p1) "__init__" p2) (e :: es) [] p3) none p4.line (ncx CX P w K mg base N (supF name qual params body scope cc cda) f A outer s H E).env = pure false)
    (he : ∀ A outer s H E, let env := (ncx CX P w K mg base N (supF name qual params body scope cc cda) f A outer s H E).env
      ∃ pl, eval (.Call (.Attribute (.Call (.Name "super" p0) [] [] p1) "__init__" p2) (e :: es) [] p3) env = (do
        let ov ← attributeBase (.Call (.Name "super" p0) [] [] p1) "__init__" env (eval (.Call (.Name "super" p0) [] [] p1) env)
        standAt p2.atName
        let (f, first) ← holding [ov] (getMethod ov "__init__" pl)
        callWith p3 f first (backTo p3 (starEach (e :: es) env)) []))
    (hse : ∀ A outer s H E, let env := (ncx CX P w K mg base N (supF name qual params body scope cc cda) f A outer s H E).env
      starEach (e :: es) env = (false, eval e env) :: starEach es env ∧ (backTo p3 (starEach es env)).any (·.1) = false)
    {tr : TS} (hrest : ∀ A outer s H E, PSs (ncx CX P w K mg base N (supF name qual params body scope cc cda) f A outer s H E) rest tr) :
    FnR P w K mg base CX (k + 1) f (fun vs H Q E => ∃ x r, vs = .ref x :: r ∧ vs.length = ps.length ∧ H x = some (exo x C none) ∧ ta (startF N vs [some (.ref C)]) H fun ws H1 => ws.length ≤ 1000 ∧ H1 = H ∧ tr { nx := fun _ H' => Q .non H', rt := Q } (startF N vs [some (.ref C)]) H) := by
  intro A outer s H us vs Q E hr e0 r hsp
  obtain ⟨x, rv, rfl, hl, hi, hsp⟩ := hsp
  have KX : K.In s.heap := e0.mod.kin.keeps fun b o e => (e0.bs b o e).1
  have lim : s.heap.NoLimit := e0.mod.nolimit.keeps fun b o e => (e0.bs b o e).1
  obtain ⟨oc, od, kV, doc, pm, an, ct, osl, lk⟩ := S.fn
  obtain ⟨ccl, cdd, cvs, ccs, file, tf, lc, lc2, lf⟩ := S.file
  obtain ⟨cl, cld, csl, lcell⟩ := S.cell
  obtain ⟨cdC, hcC⟩ := S.cls
  have ul : us.length = ps.length := by rw [← r.length]; exact hl
  have hcc : H cc = none := by
    have z := e0.mod.kin _ _ lcell
    exact (e0.bs _ _ z).2
  have CA : CellsAt [("__class__", cc)] ["__class__"] [some (.ref C)] s.heap H := by
    refine ⟨rfl, fun y c h => ?_, fun x y c h1 h2 => ?_, fun i y h => ?_⟩
    · have e : c = cc := by
        simp only [List.lookup] at h
        split at h
        · exact (Option.some.inj h).symm
        · cases h
      subst e
      exact ⟨hcc, _, ⟨_, KX _ _ lcell, rfl⟩⟩
    · simp only [List.lookup] at h1 h2
      split at h1
      · split at h2
        · rename_i q1 _ q2
          exact (beq_iff_eq.mp q1).trans (beq_iff_eq.mp q2).symm
        · cases h2
      · cases h1
    · match i, h with
      | 0, h =>
        have e : y = "__class__" := (Option.some.inj h).symm
        subst e
        refine ⟨cc, by simp [List.lookup], fun v hv => ?_⟩
        have e : v = .ref C := by
          have z := Option.some.inj hv
          exact (Option.some.inj z).symm
        subst e
        exact ⟨.ref C, rfl, ⟨_, KX _ _ lcell, rfl⟩⟩
      | n + 1, h => simp at h
  refine PySem.ks_codeAny_call_defAt (fd := PySem.W.fnX name qual params body scope [("__class__", cc)] .none kV doc pm an (.ref cda) ct) (body := body) (binds := ps.zip us) (by have := hr.dp; omega) (KX _ _ lk) rfl lim (PySem.W.codeRec_of KX S.code) rfl
    (.of_eq (hb kV doc pm an ct us ul)) Sc.nocell (fun y hy => Sc.par y.1 (List.of_mem_zip (show (y.1, y.2) ∈ ps.zip us from hy)).1) (fun h₁ hns kp => ?_) Sc.co Sc.gen Sc.kind
  obtain ⟨pl, hev⟩ := he A outer s H E
  obtain ⟨hse1, hse2⟩ := hse A outer s H E
  have I : Inv (ncx CX P w K mg base N (supF name qual params body scope cc cda) f A outer s H E) [] (startF N (.ref x :: rv) [some (.ref C)]) H { s with heap := h₁, toks := s.toks + (ps.zip us).length } := inv_startN Sc hr.hd e0 hl r CA hns kp
  have hex : ∀ env, execs body env = execs (.Expr (.Call (.Attribute (.Call (.Name "super" p0) [] [] p1) "__init__" p2) (e :: es) [] p3) p4 :: rest) env := fun _ => by rw [hbd]
  rw [hex]
  obtain ⟨mb, hmb, hbt⟩ := e0.mod.blt
  have K1 : K.In h₁ := I.kIn
  have kb : ∀ b o, base.get? b = some o → h₁.get? b = some o := fun b o e => kp b o (e0.bs b o e).1
  obtain ⟨oD, hD1, hD2⟩ : ∃ oD, h₁.get? C = some oD ∧ oD.data = .cls cdC := by
    unfold PySem.W.clsIn at hcC
    split at hcC
    · rename_i c d cd' sl ho
      cases hcC
      exact ⟨_, K1 _ _ ho, rfl⟩
    · cases hcC
  obtain ⟨t0, hx1⟩ := exo_at I.hok hi
  have J : PySem.W.InstAt h₁ x { cls := .ref C, dict := none, data := .fields #[.ref t0, .none, .none, .none, .bool false, .none] } C none := ⟨hx1, rfl, rfl, trivial⟩
  have hself : (ps.zip us).reverse.lookup ("self" : Str) = some (.ref x) := by
    cases r with
    | cons r1 r2 =>
      rename_i u us'
      obtain rfl : u = Value.ref x := r1
      exact zip_look (i := 0) hnd (by rw [hps]; rfl) rfl
  refine ks_wpAt_execs_cons (ks_wpAt_Expr_any ?_ I.quiet (hs A outer s H E))
  refine ks_wpAt_MethodCall (pl := pl) ?_ hev
  refine ks_wpAt_super_base (ar := ar) (file := file) (tf := tf) hks (Sc.frk _ (by simp)) (by decide) rfl (K1 _ _ lk) rfl har rfl (K1 _ _ lc) rfl lc2 lf htop ?_
  refine PySem.W.ks_loadName_global Sc.kind hks (Calls.loadGlobal_builtin (e0.mod.glob.keeps kb) hsm (hmb.keeps kb) ((hbt _ (by decide +kernel)).trans (by rfl : bootBuiltins "super" = some (.type "super"))) ⟨rfl, ?_⟩)
  refine wpAny_loadName_free Sc.kind (Sc.frk _ (by simp)) (c := cc) (by show List.lookup ("__class__" : Str) [("__class__", cc)] = some cc; simp [List.lookup]) ⟨_, K1 _ _ lcell, rfl⟩ ?_
  rw [harn]
  refine wpAny_loadName_local Sc.kind (by rw [← (show ar.arg = "self" from harn)]; rw [harn]; exact Sc.par _ (by rw [hps]; exact List.mem_cons_self)) hns hself ?_
  refine ks_wpAny_isType_cls hD1 hD2 ⟨rfl, ?_⟩
  refine ks_wpAny_call_super hD1 hD2 J.at_ J.cls (fun c e => by cases e) (PySem.W.looks_mroIn K1 hsub) (fun h2 e2 k2 => ?_)
  have K2 : K.In h2 := K1.keeps k2
  have hm2 := hm
  unfold PySem.W.ks_superIn at hm2
  rw [hcC] at hm2
  have hmro : PySem.W.Looks (model P w) h2 (mroOf (.ref C)) cdC.mro := (PySem.W.looks_clsIn K2 hcC).andThen .now
  have J2 : PySem.W.InstAt h2 x { cls := .ref C, dict := none, data := .fields #[.ref t0, .none, .none, .none, .bool false, .none] } C none := ⟨k2 _ _ hx1, rfl, rfl, trivial⟩
  have hin : PySem.W.Looks (model P w) h2 (isInstance (.ref x) (.type "ValueError")) true := J2.type.andThen (PySem.W.looks_mroIn K2 hve)
  refine getMethod_superV e2 (PySem.W.looks_opaque K2 hop) hmro rfl K2 hm2 (PySem.W.ks_ne K1 J hcC) (by decide) hin ?_
  have I2 := I.kept (h' := h2) (t' := s.toks + (ps.zip us).length + 1) k2
  have I3 := ClX.pin_new (o := bwV x) (h' := h2.push (bwV x)) (a := h2.objs.size) (t' := s.toks + (ps.zip us).length + 1) I2 (fun b u z => Heap.get?_push_of_some _ z) (Nat.le_refl _) (Heap.get?_push_at rfl rfl) (fun v z => by cases z)
  have hargs := (ha A outer s H E).run p3 _ _ _ _ _ I3 hsp
  show wpAny _ _ (callWith p3 (.ref h2.objs.size) [] (backTo p3 (starEach (e :: es) (ncx CX P w K mg base N (supF name qual params body scope cc cda) f A outer s H E).env)) []) _ _ _
  refine callWith_boundV (x := x) (thn hargs ?_) hse1 hse2
  rintro vs s4 ⟨ws, H4, I4, r4, hwl, eH, q4⟩
  have eH' : H = H4 := eH.symm
  subst eH'
  refine ⟨ClX.pin_at I4, ?_⟩
  rw [List.nil_append]
  obtain ⟨nm, q, NN, bs, bm, sn, sub, ab, col, dd, k0, k1, k2', k3, k5, hCl, hbm⟩ := T.cls
  obtain ⟨t1, hx4⟩ := exo_at I4.hok hi
  have hu4 := ClX.pin_at I4
  have KI4 := I4.kIn
  have I5 := ClX.unpin I4
  obtain ⟨hp, g, d, t, os⟩ := s4
  refine call_bwV (KI4 _ _ hCl) hx4 hu4 (by rw [← Paired.length r4, sizeLine_eq]; omega) fun h' t2 k hx' => ?_
  have J5 := I5.write (t' := t) (x := x) (e := x) (o := exo x C none) (by rw [hi]; exact True.intro) (.inl rfl) k ⟨_, hx'⟩ (exo_ok hx')
  have eu : ∀ H' : Hp, H' x = some (exo x C none) → upd H' x (exo x C none) = H' := fun H' hi' => by
    funext b
    by_cases hb : b = x
    · rw [hb, upd_same, hi']
    · rw [upd_ne hb]
  rw [eu _ hi] at J5
  refine wpAt_of_wpAny (thn ((hrest A outer s H E).run [] _ _ _ _ J5 q4) fun fl s' hs => ?_)
  have fin : ∀ {σ' : L2.St} {H' : Hp} {v : V} {u : Value}, Inv (ncx CX P w K mg base N (supF name qual params body scope cc cda) f A outer s H E) [] σ' H' s' → L2.RelV v u → Q v H' → CE outer P w H s Q u s' :=
    fun {σ' H' v u} J rv q => ⟨v, H', J.os, J.bare, J.base, J.hok, rv, q⟩
  cases fl with
  | ret u =>
    obtain ⟨v, σ', H', J, rv, q⟩ := hs
    exact fin J rv q
  | next =>
    obtain ⟨σ', H', J, q⟩ := hs
    exact fin (v := V.non) (u := Value.none) J rfl q
  | brk =>
    obtain ⟨_, _, _, q⟩ := hs
    exact False.elim q
  | cont =>
    obtain ⟨_, _, _, q⟩ := hs
    exact False.elim q
end
end N1
set_option maxHeartbeats 4000000
/-! raise C(e ..), C under ValueError, its __init__ by a promise -/
namespace N1
open PySem PySem.Spec PyProof.Rows L2
section
variable {X : Cx} {e : Expr} {es : List Expr} {ta : TA} {p pos : Pos}
theorem pmk_oexR {CX : CXT} {x : Str} {C fI : Addr} {k : Nat} {sp : Sp} (T : OexC X.K C) (iC : PySem.W.findIn X.K (.ref C) "__init__" = some (some (.ref fI))) (tI : PySem.W.typeIn X.K (.ref fI) = some (.type "function"))
    (F1 : FnR X.prog X.w X.K X.mg X.base CX k fI sp) (hr : Room (k + 1) X.A) (hx : Passes CX X (fun _ _ _ => False)) (hg : Gl X x) (hm : X.mg x = some (.ref C)) (ha : PA X (e :: es) ta)
    (hdb : (x == ("__debug__" : Str)) = false := by decide) (he : starEach (e :: es) X.env = (false, eval e X.env) :: starEach es X.env := by rfl) (hpl : (backTo pos (starEach es X.env)).any (·.1) = false := by rfl) :
    PMk X (.Call (.Name x p) (e :: es) [] pos) (tMkO C sp [] ta) := by
  intro pins s σ H Q I h
  obtain ⟨nm, q, N, bs, bm, sn, sub, ab, col, dd, k0, k1, k2, k3, k5, hC, hbm⟩ := T.cls
  refine wpAny_Call_Name_kw (ld_glob I hg hm ?_ hdb)
  refine PySem.W.callWith_K (h₀ := X.base) I.ok.mod.kin T.kC (thn (ha.run pos pins s σ H _ I h) fun us s1 ⟨vs, H1, I1, r1, hz, q1⟩ => ⟨I1.kIn, ?_⟩) he hpl
  show wpAny _ _ (call (.ref C) us) _ _ _
  obtain ⟨hp, g, dr, tk, os⟩ := s1
  have hsz : hp.objs.size ≤ hp.objs.size + 1 := Nat.le_succ _
  have hn : H1 (hp.objs.size + 1) = none := I1.hok.fresh hsz
  have hq := q1 (hp.objs.size + 1) hn
  rw [List.append_nil] at hq
  have kk : ∀ b o, hp.get? b = some o → ((hp.push (PySem.W.kdv_tup us)).push (PySem.HandSPX.excO C hp.objs.size)).get? b = some o := fun b o e => Heap.get?_push_of_some _ (Heap.get?_push_of_some _ e)
  have hget : ((hp.push (PySem.W.kdv_tup us)).push (PySem.HandSPX.excO C hp.objs.size)).get? (hp.objs.size + 1) = some (PySem.HandSPX.excO C hp.objs.size) := by heap_get
  have I2 : Inv X pins σ (upd H1 (hp.objs.size + 1) (exo (hp.objs.size + 1) C none)) ⟨(hp.push (PySem.W.kdv_tup us)).push (PySem.HandSPX.excO C hp.objs.size), g, dr, tk, os⟩ :=
    I1.laid (t' := tk) (a := hp.objs.size + 1) (o := exo (hp.objs.size + 1) C none) (h' := (hp.push (PySem.W.kdv_tup us)).push (PySem.HandSPX.excO C hp.objs.size)) kk hsz (exo_ok hget)
  have r2 : Vals (V.ref (hp.objs.size + 1) :: vs) (Value.ref (hp.objs.size + 1) :: us) := .cons rfl r1
  have hus : us.length ≤ sizeLine := by
    rw [← Paired.length r1, sizeLine_eq]
    omega
  refine wpAny_call (PySem.HandSPX.call_own F.excBase_ValueError (fun Y => PySem.HandSPX.refsVE_contains Y bm hbm) (I1.kIn _ _ hC) (PySem.W.looks_findIn I1.kIn iC) (fun self => PySem.W.bind_fn I1.kIn self tI) hus
    (codeAny_mono (F1 _ X.stack _ _ (Value.ref (hp.objs.size + 1) :: us) _ _ (fun _ _ _ => False) (hr.make C us []) (I2.env0.make C us []) r2 hq) fun r s' hq' => ?_))
  cases r with
  | error er => exact hx pins σ _ _ er s' I2 hq'
  | ok fl =>
    cases fl with
    | ret u =>
      obtain ⟨v, H2, os2, bare2, un2, hok2, rv, ev, d, fs, ea, ed, hd1, q2⟩ := hq'
      subst ev
      obtain ⟨h2, g2, d2, t2, os'⟩ := s'
      exact ⟨rv, mk_end (raises_own T.exC T.tyC) I1 hsz kk un2 hok2 os2 bare2 ea ed hd1 q2⟩
    | next => exact False.elim hq'
    | brk => exact False.elim hq'
    | cont => exact False.elim hq'
end
end N1
set_option maxHeartbeats 2000000
/-! for x in o, o of a class whose __iter__ says iter(a dict) -/
namespace N1
open PySem PySem.Spec PyProof.Rows L2
/-- a promise that knows how large the heap is where the call stands -/
def FnRn (P : Program) (w : World) (K : PySem.W.Frag) (mg : Str → Option Value) (base : Heap) (CX : CXT) (k : Nat) (f : Addr) (sp : Nat → Sp) : Prop :=
  ∀ (A : Around) (outer : List Env) (s : Shared) (H : Hp) (us : List Value) (vs : List V) (Q : VK) (E : XK), Room k A → Env0 P w K mg base A outer s H → Vals vs us → sp s.heap.objs.size vs H Q E →
    codeAny (model P w) A (.call (.ref f) ⟨us, []⟩) (CR CX outer P w H s Q E) s
section
variable {P : Program} {w : World} {K : PySem.W.Frag} {mg : Str → Option Value} {base : Heap}
theorem fn_ofN {x qual : Str} {st : Stmt} {f : Addr} {fd : FuncData} {N ps : List Str} {k : Nat} {sp : Nat → Sp} (F : Fun K x qual st f fd) (S : FnScope N ps (defScope st)) (hb : Binds K fd ps []) (len : ∀ n vs H Q E, sp n vs H Q E → vs.length = ps.length)
    (hbody : ∀ (cdv : Value) (A : Around) (outer : List Env) (s : Shared) (H : Hp) (vs : List V) (Q : VK) (E : XK), Room k (A.deeper (envOfC qual (defScope st) s.heap.objs.size f cdv)) → sp s.heap.objs.size vs H Q E →
      ∃ t, PSs (cxOf CX0 P w K mg base N qual (defScope st) f cdv A outer s H E).nox (defBody st) t ∧ t { nx := fun _ H' => Q .non H', rt := Q } (start N vs) H) :
    FnRn P w K mg base CX0 (k + 1) f sp := by
  intro A outer s H us vs Q E hr e0 r hsp
  have z : FnOk P w K mg base CX0 (k + 1) f fd ps (fun vs' H' Q' E' => vs' = vs ∧ H' = H ∧ ∃ s' : Shared, s' = s ∧ sp s'.heap.objs.size vs' H' Q' E') → True := fun _ => trivial
  have hl := len _ _ _ _ _ hsp
  obtain ⟨oc, od, kV, doc, pm, an, cdv, ct, osl, rfl, lk, hcd⟩ := F.ex
  have KX : K.In s.heap := e0.mod.kin.keeps fun b o e => (e0.bs b o e).1
  have lim : s.heap.NoLimit := e0.mod.nolimit.keeps fun b o e => (e0.bs b o e).1
  have hkind : ∀ y ∈ ps.zip us, (defScope st).names.lookup y.1 = some .local ∨ ((defScope st).names.lookup y.1 = some .cell ∧ ((cellsFrom (s.heap.objs.size + 1) (defScope st).names []).lookup y.1).isSome = true) := fun ⟨n, v⟩ hy => by
    rcases S.par n (List.of_mem_zip hy).1 with q | q
    · exact .inl q
    · exact .inr ⟨q, PySem.W.cellsFrom_some _ _ _ (.inl q)⟩
  have hbs := hb s us KX (by rw [List.append_nil, ← r.length]; exact hl)
  rw [List.append_nil] at hbs
  refine codeAny_call_function hr.depth (KX _ _ lk) rfl S.co S.gen rfl (PySem.W.codeRec_of KX hcd) (hbs _ _ _ _ ?_)
  refine wpAny_newFunctionEnv_cells S.kind hkind fun env he s1 x => ?_
  subst he
  refine ⟨lim.keeps x.toInCall.keep, codeAny_func ?_⟩
  obtain ⟨t, ht, hq⟩ := hbody cdv A outer s H vs Q E (hr.deeper _) hsp
  have I : Inv (cxOf CX0 P w K mg base N qual (defScope st) f cdv A outer s H E) [] (start N vs) H s1 := inv_start S hr.hd e0 hl r x
  refine wpAny_mono (ht.nox.run [] s1 (start N vs) H _ I hq) (fun fl s' hs => ?_) fun e s' hs => hs
  have fin : ∀ {σ' : L2.St} {H' : Hp} {v : V} {u : Value}, Inv (cxOf CX0 P w K mg base N qual (defScope st) f cdv A outer s H E) [] σ' H' s' → L2.RelV v u → Q v H' → CE outer P w H s Q u s' :=
    fun {σ' H' v u} J rv q => ⟨v, H', J.os, J.bare, J.base, J.hok, rv, q⟩
  cases fl with
  | ret u =>
    obtain ⟨v, σ', H', J, rv, q⟩ := hs
    exact fin J rv q
  | next =>
    obtain ⟨σ', H', J, q⟩ := hs
    exact fin (v := V.non) (u := Value.none) J rfl q
  | brk =>
    obtain ⟨_, _, _, q⟩ := hs
    exact False.elim q
  | cont =>
    obtain ⟨_, _, _, q⟩ := hs
    exact False.elim q
end
/-- at it an iterator over the keys of the locked dict at d -/
def KitO (d it n ep : Nat) : HO := .ext fun h => h.IsKeyIter it d 0 n ep
theorem kitO_ok {P : Program} {w : World} {H : Hp} {h : Heap} {d it n ep : Nat} (e : h.IsKeyIter it d 0 n ep) : ObjOk P w H h it (KitO d it n ep) := by
  obtain ⟨o, ho, r⟩ := e
  exact ⟨⟨o, ho, r⟩, ⟨o, ho⟩, fun h1 h2 z k => by
    obtain ⟨o, ho, r⟩ := z
    exact ⟨o, k _ ho, r⟩⟩
/-- iter(d), d a locked dict -/
def rIterK (n : Nat) : List V → Hp → VK → Prop := fun xs H Q => ∃ (d : Addr) (o : Obj) (kvs : List (Key × V)), xs = [.ref d] ∧ H d = some (.frz o (.dK kvs)) ∧
  ∀ it es ep, o.data = .dict es ep → H it = none → n ≤ it → Q (.ref it) (upd H it (KitO d it kvs.length ep))
section
variable {X : Cx} {pins : List (Addr × Obj)} {σ : L2.St} {H : Hp} {s : Shared} {tg e : Expr} {te : TE}
theorem call_iterK : CallR X (.builtin "iter") (rIterK X.s_0.heap.objs.size) := by
  intro pins s σ H xs us Q I r h
  obtain ⟨d, o, kvs, rfl, hd, q⟩ := h
  obtain ⟨u, rfl, ru⟩ := vals1 r
  cases ru
  obtain ⟨hs, hgd, hx, es, ep, vs, hdt, hsz, kv, hm⟩ := I.frzK hd
  refine Calls.call_function_entry (by decide +kernel) (by decide +kernel) PySem.W.kdk_entry_iter (PySem.W.kdk_args_iter _) ?_
  unfold Builtin.«iter»
  refine wpAny_bind (m := someArgs "iter" 1 2 _) (wpAny_of_eq (a := [Value.ref d]) (by first | rfl | kernel_rfl!) ?_)
  show wpAny _ _ (pyIter (.ref d) >>= _) _ _ _
  refine wpAny_bind (iter_keys hs hgd hx hdt ?_)
  refine wpAny_pure ⟨_, rfl, .ref s.heap.objs.size, _, I.laid (t' := s.toks) (fun b u e => Heap.get?_push_of_some _ e) (Nat.le_refl _) (kitO_ok (n := kvs.length) (ep := ep) ⟨_, Heap.get?_push_size _ rfl, rfl, by rw [hsz] <;> rfl⟩), rfl, q _ es ep hdt (I.hok.fresh (Nat.le_refl _)) I.sz⟩
/-- for .. in o -/
def iOwn (C : Addr) (n : Nat) (sp : Nat → Sp) (E : XK) (te : TE) : TI := fun σ H R => te σ H fun x H1 => ∃ a, x = .ref a ∧ InsAt H1 a C ∧ ∀ m, n ≤ m → sp m [x] H1 (fun v H2 => ∃ (it d : Addr) (o : Obj) (kvs : List (Key × V)) (es : Array DictEntry) (ep : Nat), v = .ref it ∧ n ≤ it ∧ H2 it = some (KitO d it kvs.length ep) ∧
  H2 d = some (.frz o (.dK kvs)) ∧ o.data = .dict es ep ∧ R (Itk d o kvs) (ItX.dropH H2 it)) E
theorem pi_ownIter {CX : CXT} {k : Nat} {C f : Addr} {sp : Nat → Sp} {E : XK} (M : Meth X.K C "__iter__" f) (F : FnRn X.prog X.w X.K X.mg X.base CX k f sp) (hr : Room k X.A) (hx : Passes CX X E) (he : PE X e te) : PI X tg e (iOwn C X.s_0.heap.objs.size sp E te) := by
  refine ⟨fun pins s σ H R I h => ?_⟩
  refine thn (he.run pins s σ H _ I h) fun u s1 ⟨x, H1, I1, rx, a, ex, hi, q⟩ => ?_
  subst ex
  obtain rfl : u = Value.ref a := rx
  obtain ⟨m, Fr⟩ := I1.fr
  obtain ⟨ox, od, J, hd⟩ := insAt_at I1 hi
  refine PySem.W.owit_iter Fr I1.mod.kin J M.at_ M.fn (wpAny_call (codeAny_mono (F X.A X.stack s1 H1 [.ref a] [.ref a] _ E hr I1.env0 (.cons (show RelV (.ref a) (.ref a) from rfl) .nil) (q _ I1.sz)) fun r s' hq => ?_))
  cases r with
  | error e => exact hx pins σ H1 s1 e s' I1 hq
  | ok fl =>
    cases fl with
    | ret u =>
      have hq2 := I1.after hq
      obtain ⟨v, H2, I2, rv, it, d, o, kvs, es, ep, rfl, hn, hit, hd2, hdt, q2⟩ := hq2
      cases rv
      have hit' := hit
      unfold KitO at hit'
      have st : s'.heap.IsKeyIter it d 0 kvs.length ep := (show ObjOk X.prog X.w H2 s'.heap it (.ext fun h => h.IsKeyIter it d 0 kvs.length ep) from I2.hok it _ hit').1
      show PySem.W.OwitIt _ _ _ _ (Value.ref it) _
      unfold PySem.W.OwitIt
      refine wpAny_specialOf (name := Str.ofString "__next__") st.typeIs PySem.F.slot_dict_keyiterator_next.lookup ?_
      refine ⟨it, [it], _, _, ItX.dropH H2 it, rfl, ItX.inv_drop I2 hit', turn_keys it hdt, st, fun b hb => ?_, q2⟩
      have e : b = it := by simpa using hb
      rw [e]
      exact ItX.inv_fp I2 hit hn
    | next => exact False.elim hq
    | brk => exact False.elim hq
    | cont => exact False.elim hq
end
end N1
set_option maxHeartbeats 2000000
/-! small ones: repr(bool), xs.count(text), o.f as a target, xs != [], enumerate(tuple) -/
namespace N1
open PySem PySem.Spec PyProof.Rows L2
section
variable {X : Cx}
theorem call_repr_bool : CallR X (.builtin "repr") (fun xs H Q => ∃ b, xs = [.bl b] ∧ Q (.str (if b then "True" else "False")) H) := by
  intro pins s σ H xs us Q I r h
  obtain ⟨b, rfl, q⟩ := h
  obtain ⟨u, rfl, ru⟩ := vals1 r
  obtain rfl : u = Value.bool b := ru
  exact PySem.P.repr_of_bool ⟨.str _, H, I.tok _, ⟨_, rfl⟩, q⟩
def eqs (k : Str) (v : Value) : Bool := match v with
  | .str n _ => n == k
  | _ => false
theorem eqs_gives {k : Str} {t : Tok} : ∀ {us : List Value} {ns : List Str}, StrsAre us ns → ∀ y ∈ us, MeetsSeq.EqGives y (.str k t) (eqs k y)
  | _, _, .nil => fun y hy => by cases hy
  | _, _, .cons n t' h => fun y hy => by
    rcases List.mem_cons.mp hy with e | e
    · rw [e]
      have z := SeqRoads2.EqGives.str n k t' t
      have e2 : (n.cps.toList == k.cps.toList) = eqs k (.str n t') := by
        show _ = (n == k)
        by_cases q : n = k
        · subst q
          simp
        · have q2 : ¬ n.cps.toList = k.cps.toList := fun z => q (by
            cases n with
            | mk a => cases k with
              | mk b => simp at z; rw [z])
          rw [beq_eq_false_iff_ne.mpr q, beq_eq_false_iff_ne.mpr q2]
      rw [← e2]
      exact z
    · exact eqs_gives h y e
theorem eqs_count {k : Str} : ∀ {us : List Value} {ns : List Str}, StrsAre us ns → us.countP (eqs k) = ns.count k
  | _, _, .nil => rfl
  | _, _, .cons n t h => by
    have ih := eqs_count (k := k) h
    rw [List.countP_cons, List.count_cons, ih] <;> rfl
def rCntS (K : PySem.W.Frag) : V → List V → Hp → VK → Prop := fun x xs H Q => ∃ (p : Addr) (ns : List Str) (k : Str), x = .ref p ∧ xs = [.str k] ∧ SqL K H p (ns.map V.str) ∧ Q (.int (ns.count k : Nat)) H
theorem mt_lcountS : MtR X "list.count" (rCntS X.K) := by
  intro pins s σ H x xs v us Q I rx rxs h
  obtain ⟨p, ns, k, rfl, rfl, hs, q⟩ := h
  cases rx
  obtain ⟨u, rfl, ru⟩ := rxs.one
  obtain ⟨t, rfl⟩ := ru
  obtain ⟨its, rv, ⟨⟨cls, dd, data, sl⟩, n, ho, hc, hdn, hd⟩, hlen⟩ := I.list hs
  simp only at hc hd
  subst hc hd
  have hi := strsAre_of rv
  refine call_meets PySem.F.slot_list_count ⟨_, ho, rfl⟩ PySem.F.entry_list_count (PySem.F.args_list_count_2 _ _)
    (SeqAt.list_countAt p its.toArray n dd sl (.str k t) (eqs k)) ⟨ho, fun y hy => (eqs_gives hi y (by simpa using hy)).at _ _, ?_⟩
  have ec : its.toArray.toList.countP (eqs k) = ns.count k := eqs_count hi
  refine ⟨.int (ns.count k : Nat), H, I.tok _, ⟨s.toks, ?_⟩, q⟩
  show Value.int ((its.toArray.toList.countP (eqs k) : Nat) : Int) s.toks = Value.int ((ns.count k : Nat) : Int) s.toks
  rw [ec]
/-- .., o.f, .. = e -/
def gFld (K : PySem.W.Frag) (ta : TE) (f : Str) : TG := fun y σ H Q => ta σ H fun x H2 => ∃ a C dx fs, x = .ref a ∧ H2 a = some (.ins C dx fs) ∧ Cls K C ∧ NoAttr K C f ∧ fs.length < 1000 ∧ Q σ (upd H2 a (.ins C dx (putF f y fs)))
theorem pg_fld {o : Expr} {ta : TE} {f : Str} {pos : Pos} (ho : PE X o ta) : PG X (.Attribute o f pos) (gFld X.K ta f) := by
  refine ⟨fun pins s σ H v u Q I r h => ?_⟩
  rw [arm_assign_Attribute]
  refine wpAny_bind (wpAny_holding (thn (ho.run pins s σ H _ I h) fun ov s1 ⟨x, H1, I1, r1, a, C, dx, fs, ex, ea, c, n, l, q⟩ => ?_))
  subst ex
  obtain rfl : ov = Value.ref a := r1
  refine wpAny_bind (wpAny_standAt (wpAny_bind (wpAny_holding (setattr_ok I1 ea c n l r fun s3 I3 => ?_))))
  exact wpAny_release ⟨σ, _, I3, q⟩
/-- xs != [] -/
def rNeNil (K : PySem.W.Frag) : R2 := fun x y H Q => ∃ a b xs, x = .ref a ∧ y = .ref b ∧ SqL K H a xs ∧ SqL K H b [] ∧ Q (.bl (!xs.isEmpty)) H
theorem op_neNil (hu : X.A.units < cLine) : OpR X (compareOp .NotEq) (rNeNil X.K) := by
  intro pins s σ H x y v u Q I rx ry h
  obtain ⟨a, b, xs, rfl, rfl, ha, hb, q⟩ := h
  cases rx
  cases ry
  obtain ⟨its, rv, ⟨⟨cls, dd, data, sl⟩, n, ho, hc, hdn, hd⟩, hlen⟩ := I.list ha
  obtain ⟨its2, rv2, ⟨⟨cls2, dd2, data2, sl2⟩, n2, ho2, hc2, hdn2, hd2⟩, hlen2⟩ := I.list hb
  simp only at hc hd hc2 hd2
  subst hc hd hc2 hd2
  cases rv2
  show wpAny _ _ (richCompare .NotEq (.ref a) (.ref b)) _ _ _
  have hla : s.heap.IsList a its.toArray := ⟨_, ho, rfl, n, rfl⟩
  have hlb : s.heap.IsList b ([] : List Value).toArray := ⟨_, ho2, rfl, n2, rfl⟩
  cases xs with
  | nil =>
    cases rv
    exact SeqAt.RcNeAt.lists (e := fun _ => true) hla hlb rfl hu (fun j h1 h2 => by simp at h1) _ _ _ _ ⟨.bl false, H, I, rfl, q⟩
  | cons x0 xs0 =>
    cases rv with
    | @cons _ u0 _ us0 r0 rr => exact SeqAt.RcNeAt.lists_lengths hla hlb (by simp) hu _ _ _ _ ⟨.bl true, H, I, rfl, q⟩
end
end N1
set_option maxHeartbeats 2000000
/-! for i, x in enumerate(a tuple) -/
namespace PySem
namespace N1E
open Sem (wp)
open AutoSeq1 (wpAny_loadPart')
section
variable {prog : Program} {w : World} {A : Around} {E : Value → Shared → Prop} {s : Shared}
theorem nextOf_tuple_item {it t : Addr} {i : Nat} {items} {x : Value} {Q : Value → Shared → Prop} (hit : s.heap.IsTupleIter it t i)
    (hl : s.heap.IsTuple t items) (hx : items[i]? = some x)
    (hQ : ∀ h', h'.IsTupleIter it t (i + 1) → Heap.SameBut it s.heap h' → Q x { s with heap := h' }) :
    wpAny (model prog w) A (Builtin.SmallTypes.nextOf (.ref it)) Q E s := by
  obtain ⟨o, ho, hc, hd⟩ := id hit
  obtain ⟨ol, hol, _, nl, hdl⟩ := hl
  unfold Builtin.SmallTypes.nextOf
  refine wpAny_bind (wpAny_callSpecial?_slot (name := Str.ofString "__next__") hit.typeIs F.slot_tuple_iterator_next
    (wpAny_call_entry F.slot_tuple_iterator_next hit.typeIs F.entry_tuple_iterator_next ?_ (F.args_tuple_iterator_next_1 _)))
  show wpAny _ _ (field (.ref it) 0 >>= _) _ _ s
  refine wpAny_bind (wpAny_field ho hd (x := .ref t) rfl ?_)
  show wpAny _ _ (if (Value.ref t == Value.none) = true then _ else _) _ _ s
  rw [if_neg (show ¬ ((Value.ref t == Value.none) = true) from Bool.false_ne_true)]
  show wpAny _ _ (field (.ref it) 1 >>= _) _ _ s
  refine wpAny_bind (wpAny_field ho hd (x := .int i 0) rfl ?_)
  show wpAny _ _ (seqItems? (.ref t) >>= _) _ _ s
  refine wpAny_bind (wpAny_seqItems hol hdl ?_)
  simp only [Int.toNat_natCast, hx]
  refine wpAny_bind (wpAny_setField ho hd (by simp) (wpAny_pure ⟨x, rfl, wpAny_pure (hQ _ ?_ (Heap.SameBut.update ..))⟩))
  exact ⟨_, Heap.get?_update_self _ ho (Obj.isFreed_of_fields (Obj.data_mapFields hd _)), (Obj.cls_mapFields ..).trans hc, by
    rw [Obj.data_mapFields hd]; simp [rawInt]⟩
theorem nextOf_tuple_end {it t : Addr} {i : Nat} {items} {Q : Value → Shared → Prop} (hh : A.handled = none)
    (hit : s.heap.IsTupleIter it t i) (hl : s.heap.IsTuple t items) (hx : items[i]? = none)
    (hE : ∀ h' e, Heap.ExtBut it s.heap h' → (∃ o, h'.get? e = some o ∧ o.cls = .type "StopIteration") → E (.ref e) { s with heap := h' }) :
    wpAny (model prog w) A (Builtin.SmallTypes.nextOf (.ref it)) Q E s := by
  obtain ⟨o, ho, hc, hd⟩ := id hit
  obtain ⟨ol, hol, _, nl, hdl⟩ := hl
  unfold Builtin.SmallTypes.nextOf
  refine wpAny_bind (wpAny_callSpecial?_slot (name := Str.ofString "__next__") hit.typeIs F.slot_tuple_iterator_next
    (wpAny_call_entry F.slot_tuple_iterator_next hit.typeIs F.entry_tuple_iterator_next ?_ (F.args_tuple_iterator_next_1 _)))
  show wpAny _ _ (field (.ref it) 0 >>= _) _ _ s
  refine wpAny_bind (wpAny_field ho hd (x := .ref t) rfl ?_)
  show wpAny _ _ (if (Value.ref t == Value.none) = true then _ else _) _ _ s
  rw [if_neg (show ¬ ((Value.ref t == Value.none) = true) from Bool.false_ne_true)]
  show wpAny _ _ (field (.ref it) 1 >>= _) _ _ s
  refine wpAny_bind (wpAny_field ho hd (x := .int i 0) rfl ?_)
  show wpAny _ _ (seqItems? (.ref t) >>= _) _ _ s
  refine wpAny_bind (wpAny_seqItems hol hdl ?_)
  simp only [Int.toNat_natCast, hx]
  refine wpAny_bind (wpAny_rule (wpAny_bind (wpAny_setField ho hd (by simp) ?_)))
  show wpAny _ _ (newExc (.type "StopIteration") [] >>= _) _ _ _
  refine wpAny_bind ?_
  simp only [newExc, newTuple]
  refine wpAny_bind (wpAny_newObj_type ?_ (by size_fits))
  refine wpAny_bind (m := firstArgMember _ _) (wpAny_of_eq (a := Value.none) (by first | rfl | (simp only [firstArgMember]; rfl)) ?_)
  refine wpAny_newObj_type ?_ (by size_fits)
  simp only [raiseNew]
  refine wpAny_bind (wpAny_handled ?_)
  first | rw [show A.in1.handled = none from hh] | rw [hh]
  refine wpAny_bind (wpAny_pure (wpAny_throw ?_))
  exact hE _ _ (((Heap.SameBut.update ..).extBut.push _).push _) ⟨_, Heap.get?_push_size _ rfl, rfl⟩
end
theorem drawsTuple {prog : Program} {w : World} {A : Around} (hh : A.handled = none) (it l : Addr) (hne : l ≠ it) (items : Array Value) :
    Draws prog w A it [it, l] items.size (fun i v => items[i]? = some v) (fun i h => h.IsTupleIter it l i ∧ h.IsTuple l items) where
  live := fun _ _ st => let ⟨o, ho, _⟩ := st.1; ⟨o, ho⟩
  frame := fun _ _ _ st hk => ⟨st.1.at fun o e => hk it (by simp) o e, st.2.at fun o e => hk l (by simp) o e⟩
  item := fun i s Q E hi st hQ => by
    refine nextOf_tuple_item st.1 st.2 (x := items[i]) (by simp [hi]) fun h' hit' hs' => ?_
    exact hQ _ h' s.toks (by simp [hi]) ⟨hit', st.2.extBut hs'.extBut hne⟩ hs'
  done := fun s Q E st hE => nextOf_tuple_end hh st.1 st.2 (by simp) hE
theorem meets_enum_newT (l : Addr) (items : Array Value) (n : Nat) (dct : Option Addr) (sl : Array (Option Value)) :
    Meets (Builtin.«enumerate.__new__» ⟨[.type "enumerate", .ref l], []⟩) (fun _ R s => s.heap.get? l = some { cls := .type "tuple", dict := dct, data := .seq items n, slots := sl } ∧
      R (.ok (.ret (.ref (s.heap.push { cls := .type "tuple_iterator", data := .fields #[.ref l, .int 0 0] }).objs.size)))
        { s with heap := (s.heap.push { cls := .type "tuple_iterator", data := .fields #[.ref l, .int 0 0] }).push { cls := .type "enumerate", data := .fields #[.none, .bool false, .ref s.heap.objs.size, rawInt 0, .none, .none] } }) :=
  .of_wp fun prog w A R s h => by
    obtain ⟨hp, g, d, tk, os⟩ := s; obtain ⟨hl, h⟩ := h
    have hsub := sub_enumerate
    have hL : Heap.IsTuple (Shared.heap ⟨hp, g, d, tk, os⟩) l items := ⟨_, hl, rfl, n, rfl⟩
    wp_walk using wpAny_loadPart' hl
    refine wpAny_stack_any fun st => wpAny_pure ?_
    split
    · rename_i c _ _ _ _ _
      cases (c == Value.type "enumerate")
      · wp_walk using wpAny_loadPart' hl, wpAny_pyIter_tuple hL
        exact ⟨_, rfl, h⟩
      · wp_walk using wpAny_loadPart' hl, wpAny_pyIter_tuple hL
        exact ⟨_, rfl, h⟩
    · wp_walk using wpAny_loadPart' hl, wpAny_pyIter_tuple hL
      exact ⟨_, rfl, h⟩
section
variable {prog : Program} {w : World} {A : Around} {E : Value → Shared → Prop} {s : Shared}
theorem call_enum_tuple {l : Addr} {items : Array Value} {Q : Value → Shared → Prop} (hL : s.heap.IsTuple l items)
    (h : ∀ h', IsEnum h' (s.heap.objs.size + 1) s.heap.objs.size 0 .none → h'.IsTupleIter s.heap.objs.size l 0 → h'.objs.size = s.heap.objs.size + 2 →
      (∀ b o, s.heap.get? b = some o → h'.get? b = some o) → Q (.ref (s.heap.objs.size + 1)) { s with heap := h' }) :
    wpAny (model prog w) A (call (.type "enumerate") [.ref l]) Q E s := by
  obtain ⟨⟨c, dct, dt, sl⟩, hl, hc, n, hd⟩ := hL
  replace hc : c = .type "tuple" := hc
  replace hd : dt = .seq items n := hd
  subst hc hd
  refine callType_new F.called_enumerate (by decide) (F.typeCall_enumerate_1 _) (F.newCall_enumerate_1 _) (fun obj => F.args_object_init_2 obj _) F.entry_enumerate_new
    (meets_enum_newT l items n dct sl) ⟨hl, ?_⟩
  have hz : (s.heap.push { cls := .type "tuple_iterator", data := .fields #[.ref l, .int 0 0] }).objs.size = s.heap.objs.size + 1 := Heap.size_push ..
  show _ ∧ _
  rw [hz]
  have he : IsEnum ((s.heap.push { cls := .type "tuple_iterator", data := .fields #[.ref l, .int 0 0] }).push
      { cls := .type "enumerate", data := .fields #[.none, .bool false, .ref s.heap.objs.size, rawInt 0, .none, .none] }) (s.heap.objs.size + 1) s.heap.objs.size 0 .none := by
    have := Heap.get?_push_size (s.heap.push { cls := .type "tuple_iterator", data := .fields #[.ref l, .int 0 0] })
      (o := { cls := .type "enumerate", data := .fields #[.none, .bool false, .ref s.heap.objs.size, rawInt 0, .none, .none] }) rfl
    rw [hz] at this; exact this
  refine ⟨⟨_, he, rfl⟩, h _ he ⟨_, Heap.get?_push_of_some _ (Heap.get?_push_size _ rfl), rfl, rfl⟩ (by rw [Heap.size_push, hz]) fun b o x => Heap.get?_push_of_some _ (Heap.get?_push_of_some _ x)⟩
end
end N1E
end PySem
namespace N1
open PySem PySem.Spec PyProof.Rows L2
def Itet (K : PySem.W.Frag) (a : Addr) : It :=
  ⟨fun i H => ∃ (xs : List V) (x : V), SqT K H a xs ∧ xs[i]? = some x, fun i H v H' => ∃ T x, v = .ref T ∧ H T = none ∧ H' = upd H T (.tup [.int (i : Nat), x]) ∧ ∀ xs, SqT K H a xs → xs[i]? = some x, fun i H => ∃ xs : List V, SqT K H a xs ∧ xs.length ≤ i⟩
theorem turn_enumT {P : Program} {w : World} {K : PySem.W.Frag} {elts : List Expr} {kk : Nat} {tpos : Pos} (a e it : Addr) :
    Turn P w K (.Tuple elts kk tpos) (Itet K a) [e, it] e (fun i h => (∃ old, IsEnum h e it ((i : Nat) : Int) old) ∧ h.IsTupleIter it a i ∧ e ≠ it) where
  mem := by simp
  obj := fun i h st b hb => by
    obtain ⟨⟨old, he⟩, ⟨o, ho, hc, hd⟩, _⟩ := st
    have e' : b = e ∨ b = it := by simpa using hb
    rcases e' with z | z
    · rw [z]; exact ⟨_, he, fun v q => nomatch q⟩
    · rw [z]; exact ⟨o, ho, fun v q => by rw [hd] at q; cases q⟩
  keep := fun i h h' st k => let ⟨⟨old, he⟩, hi, hne⟩ := st; ⟨⟨old, k e (by simp) _ he⟩, hi.at fun o q => k it (by simp) o q, hne⟩
  item := by
    intro X hP hw hK hc i pins s σ H E I hf st hg
    subst hP hw hK
    obtain ⟨⟨old, he⟩, hit, hne⟩ := st
    obtain ⟨xs, x, hq, hx⟩ := hg
    obtain ⟨its, rv, p, hz⟩ := I.tuple hq
    obtain ⟨u, hu, ru⟩ := rv.get hx
    have hel : e < s.heap.objs.size := Heap.lt_size he
    have hil : it < s.heap.objs.size := by obtain ⟨_, q, _⟩ := hit; exact Heap.lt_size q
    have hpt : s.heap.IsTuple a its.toArray := p
    have hai : a ≠ it := fun z => by
      obtain ⟨o1, h1, c1, d1⟩ := id hit
      obtain ⟨o2, h2, c2, _⟩ := id hpt
      rw [z, h1] at h2
      cases h2
      rw [c1] at c2
      exact absurd c2 (by decide)
    have hae : e ∉ [it, a] := fun z => by
      rcases List.mem_cons.mp z with z | z
      · exact hne z
      · have z2 : e = a := by simpa using z
        obtain ⟨o2, h2, c2, _⟩ := id hpt
        rw [← z2, he] at h2
        cases h2
        exact absurd (show Value.type "enumerate" = Value.type "tuple" from c2) (by decide)
    have D := N1E.drawsTuple (prog := X.prog) (w := X.w) (A := X.A.in1) (I.ok.hd hc) it a hai its.toArray
    refine wpAny_pyNext_enum_itemD D he ⟨hit, hpt⟩ (by have := (List.getElem?_eq_some_iff.mp hu).1; simpa using this) hne hae fun x' h' tk hx' ho st' hT hsz hk => ?_
    have ex : x' = u := by
      have z : its.toArray[i]? = some u := by simpa using hu
      rw [z] at hx'
      exact (Option.some.inj hx').symm
    subst ex
    refine ⟨_, rfl, wpAny_letOwnedTupleGo_enum (s := { s with heap := h', toks := tk + 1 }) ho fun h'' he' sb => ?_⟩
    have hT2 : h''.get? s.heap.objs.size = some { cls := .type "tuple", data := .seq #[.int i tk, x'] } := (sb.2 _ (Nat.ne_of_gt hel)).trans hT
    have new : ObjOk X.prog X.w (upd H s.heap.objs.size (.tup [.int (i : Nat), x])) h'' s.heap.objs.size (.tup [.int (i : Nat), x]) :=
      ⟨by show 2 ≤ sizeLine; decide, [.int i tk, x'], .cons ⟨_, rfl⟩ (.cons ru .nil), ⟨_, hT2, rfl, _, rfl⟩⟩
    have I1 : Inv X pins σ (upd H s.heap.objs.size (.tup [.int (i : Nat), x])) { s with heap := h'', toks := tk + 1 } :=
      I.turnedNew (ch := [e, it]) (fun b ob hb q => (sb.2 b (fun z => hb (by simp [z]))).trans (hk b ob (fun z => hb (by simp [z])) (fun z => hb (by simp [z])) q)) hf (Nat.le_refl _) new
    refine ⟨.ref s.heap.objs.size, _, I1, rfl, ⟨_, x, rfl, I.hok.fresh (Nat.le_refl _), rfl, fun ys hy => by rw [I.tuple_inj hy hq]; exact hx⟩, ⟨⟨x', ?_⟩, st'.1.at fun o q => (sb.2 it (Ne.symm hne)).trans q, hne⟩, fun b hb => ?_⟩
    · have e1 : ((i + 1 : Nat) : Int) = (i : Int) + 1 := by omega
      rw [e1]; exact he'
    · have hb' : b < s.heap.objs.size := by
        have e' : b = e ∨ b = it := by simpa using hb
        rcases e' with z | z
        · rw [z]; exact hel
        · rw [z]; exact hil
      rw [upd_ne (Nat.ne_of_lt hb')]
      exact (hf b hb).1
  done := by
    intro X hP hw hK hc i pins s σ H E I hf st hg
    subst hP hw hK
    obtain ⟨⟨old, he⟩, hit, hne⟩ := st
    obtain ⟨xs, hq, hx⟩ := hg
    obtain ⟨its, rv, p, hz⟩ := I.tuple hq
    obtain ⟨f0, f1, f2, f3, f4, f5⟩ := hf it (by simp)
    have hl := rv.length
    have hpt : s.heap.IsTuple a its.toArray := p
    have hai : a ≠ it := fun z => by
      obtain ⟨o1, h1, c1, d1⟩ := id hit
      obtain ⟨o2, h2, c2, _⟩ := id hpt
      rw [z, h1] at h2
      cases h2
      rw [c1] at c2
      exact absurd c2 (by decide)
    have hT : s.TypeIs (.ref e) "enumerate" := ⟨_, he, rfl⟩
    unfold pyNext
    refine wpAny_bind (wpAny_attempt (wpAny_callSpecial?_slot (name := Str.ofString "__next__") hT PySem.F.slot_enumerate_next
      (wpAny_call_entry PySem.F.slot_enumerate_next hT PySem.F.entry_enumerate_next ?_ (PySem.F.args_enumerate_next_1 _))))
    show wpAny _ _ (field (.ref e) 2 >>= _) _ _ _
    refine wpAny_bind (wpAny_field he rfl (x := .ref it) rfl ?_)
    refine wpAny_bind (N1E.nextOf_tuple_end (I.ok.hd hc) hit hpt (by simp; omega) fun h' x he' hx' => ?_)
    obtain ⟨o, ho, hc⟩ := hx'
    refine wpAny_bind (wpAny_isInstance (T := "StopIteration") (b := true) ⟨o, ho, hc⟩ isSubtype_stop ?_)
    exact wpAny_pure ⟨rfl, I.turned (t' := s.toks) (fun b o hb q => he' b o hb q) f0 f1 f3 f4 f5⟩
  self := fun A i s Q E st h => let ⟨⟨_, he⟩, _⟩ := st; wpAny_pyIter_enum he h
def iEnumT (K : PySem.W.Frag) (ta : TA) : TI := fun σ H R => ta σ H fun vs H1 => ∃ a xs, vs = [.ref a] ∧ SqT K H1 a xs ∧ R (Itet K a) H1
theorem pi_enumT {X : Cx} {e : Expr} {ta : TA} {p pos tpos : Pos} {elts : List Expr} {kk : Nat} (hg : Gl X "enumerate") (hm : X.mg "enumerate" = none) (ha : PA X [e] ta) (hs : starEach [e] X.env = [(false, eval e X.env)] := by rfl) :
    PI X (.Tuple elts kk tpos) (.Call (.Name "enumerate" p) [e] [] pos) (iEnumT X.K ta) := by
  refine ⟨fun pins s σ H R I h => ?_⟩
  refine Call_ (ld_blt I hg hm boot_enumerate (PyProof.Rows.callWith_type1 (thn (ha.run pos pins s σ H _ I h) fun us s1 ⟨vs, H1, I1, r1, q1⟩ => ?_) hs rfl))
  obtain ⟨a, xs, ex, hq, q⟩ := q1
  subst ex
  cases r1 with
  | cons r rr =>
    cases rr
    cases r
    obtain ⟨its, rv, p', hz⟩ := I1.tuple hq
    refine N1E.call_enum_tuple (show s1.heap.IsTuple a its.toArray from p') fun h' he hit hsz hk => wpAny_pyIter_enum he ?_
    have I2 : Inv X pins σ H1 { s1 with heap := h' } := I1.kept (t' := s1.toks) hk
    refine ⟨s1.heap.objs.size + 1, [s1.heap.objs.size + 1, s1.heap.objs.size], _, _, H1, rfl, I2, turn_enumT a (s1.heap.objs.size + 1) s1.heap.objs.size, ⟨⟨.none, he⟩, hit, Nat.succ_ne_self _⟩, fun b hb => ?_, q⟩
    have e' : b = s1.heap.objs.size + 1 ∨ b = s1.heap.objs.size := by simpa using hb
    have hle : s1.heap.objs.size ≤ b := by
      rcases e' with z | z
      · rw [z]; exact Nat.le_add_right _ _
      · rw [z]; exact Nat.le_refl _
    exact I1.fpOk hle (I1.hok.fresh hle)
end N1
set_option maxHeartbeats 2000000
/-! list(d.values()) -/
namespace N1
open PySem PySem.Spec PyProof.Rows L2
def tListVals (te : TE) : TE := fun σ H Q => te σ H fun x H1 => ∃ (d : Addr) (kvs : List (Key × V)), x = .ref d ∧ H1 d = some (.dK kvs) ∧ ∀ q, H1 q = none → Q (.ref q) (upd H1 q (.lst (kvs.map (·.2))))
section
variable {X : Cx} {e : Expr} {te : TE} {p apos cpos pos : Pos}
theorem pe_listVals (hc : X.calm = true) (he : PE X e te) (hg : Gl X "list") (hm : X.mg "list" = none) (hv : bootBuiltins "list" = some (.type "list") := by rfl) (hbase : attributeBase e "values" X.env (eval e X.env) = eval e X.env := by rfl) (hline : (apos.endLine == cpos.line) = true := by rfl)
    (hs : starEach [.Call (.Attribute e "values" apos) [] [] cpos] X.env = (false, eval (.Call (.Attribute e "values" apos) [] [] cpos) X.env) :: starEach [] X.env := by rfl) :
    PE X (.Call (.Name "list" p) [.Call (.Attribute e "values" apos) [] [] cpos] [] pos) (tListVals te) := by
  refine ⟨fun pins s σ H Q I hq => ?_⟩
  refine wpAny_Call_Name_kw (ld_blt I hg hm hv ?_)
  refine PyProof.Rows.callWith_type1 ?_ hs rfl
  rw [hs]
  show wpAny _ _ (spliced ((false, eval (.Call (.Attribute e "values" apos) [] [] cpos) X.env) :: backTo pos (starEach [] X.env))) _ _ s
  refine Calls.spliced_cons ?_
  refine wpAny_Call_method (T := "dict") (id := "dict.values") hbase rfl hline F.plainAttrs_dict F.slot_dict_values F.type_dict_values (thn (he.run pins s σ H _ I hq) fun u s1 ⟨x, H1, I1, rx, d, kvs, ex, hd, q⟩ => ?_)
  subst ex
  obtain rfl : u = Value.ref d := rx
  obtain ⟨hz, hs0, vs, kv, hdo⟩ := I1.hok d _ hd
  obtain ⟨ep, hat⟩ := hdo.dictAt
  have lk : kvs.length = vs.length := Paired.length kv
  have I2 : Inv X pins σ H1 { s1 with heap := s1.heap.push { cls := .type "dict_values", data := .fields #[.ref d] } } := I1.kept (t' := s1.toks) fun b ob q => Heap.get?_push_of_some _ q
  refine ⟨hdo.typeIs, hdo.mapOf.noDict, ?_⟩
  show wpAny _ _ (callWith cpos (.builtin "dict.values") [.ref d] [] []) _ X.xe s1
  refine method_meetsIn F.slot_dict_values F.entry_dict_values rfl (PySem.evalArgs_none ⟨rfl, hdo.typeIs, F.args_dict_values_1 _, _, meets_dict_values (mixKind X.prog X.w) d hs0, ⟨vs, hdo⟩, ?_⟩)
  refine Calls.spliced_nil ?_
  refine PySem.W.kdl_call (PySem.W.kdl_values (knd := mixKind X.prog X.w) (kvs := vs) (ep := ep)) (I1.ok.hd hc) ⟨⟨_, Heap.get?_push_size _ rfl, rfl, rfl⟩, hat.push _⟩ (by omega) fun h' tk acc c' hk hS hacc => ?_
  have hS' : h'.get? (s1.heap.push { cls := .type "dict_values", data := .fields #[.ref d] }).objs.size = some { cls := .type "list", dict := none, data := .seq acc c', slots := #[] } := hS
  refine ⟨.ref _, _, I2.laid (t' := tk) (o := .lst (kvs.map (·.2))) hk (Nat.le_refl _) (show ObjOk X.prog X.w _ _ _ (.lst (kvs.map (·.2))) from ⟨by rw [List.length_map]; exact hz, acc.toList, c', ?_, by rw [Array.toArray_toList]; exact hS⟩), rfl, q _ (I2.hok.fresh (Nat.le_refl _))⟩
  have el : acc.toList.length = acc.size := by simp
  refine vals_of_at (by rw [List.length_map, el, hacc.1, lk]) fun j x w h1 h2 => ?_
  obtain ⟨k, hky⟩ := hacc.2 j w (by rw [← Array.getElem?_toList]; exact h2)
  rw [List.getElem?_map] at h1
  cases hj : kvs[j]? with
  | none => rw [hj] at h1; cases h1
  | some pr =>
    rw [hj] at h1
    cases h1
    obtain ⟨y, g1, g2, g3⟩ := LiI.paired_get kv hj
    rw [hky] at g1
    cases g1
    exact g3
end
end N1
set_option maxHeartbeats 2000000
/-! o.m() and a property by a positional promise -/
namespace N1
open PySem PySem.Spec PyProof.Rows L2
section
variable {X : Cx} {CX : CXT} {k : Nat} {C f p g : Addr} {sp : Sp} {E : XK} {o e : Expr} {ta : TE} {apos pos : Pos}
def tMethR0 (C : Addr) (m : Str) (sp : Sp) (E : XK) (ta : TE) : TE := fun σ H Q => ta σ H fun x H1 => ∃ a dx fs, x = .ref a ∧ H1 a = some (.ins C dx fs) ∧ fs.lookup m = none ∧ sp [x] H1 Q E
theorem pe_methR0 {m : Str} {pl : Sem Bool} (he : PE X o ta) (c : Cls X.K C) (hm : Meth X.K C m f) (F : FnR X.prog X.w X.K X.mg X.base CX k f sp) (hr : Room k X.A) (hx : Passes CX X E)
    (ht : eval (.Call (.Attribute o m apos) [] [] pos) X.env = (do
      let ov ← eval o X.env
      standAt apos.atName
      let (f, first) ← holding [ov] (getMethod ov m pl)
      callWith pos f first (backTo pos (starEach [] X.env)) (backToKw pos (keywordEach [] X.env))) := by rfl) :
    PE X (.Call (.Attribute o m apos) [] [] pos) (tMethR0 C m sp E ta) := by
  refine ⟨fun pins s σ H Q I h => ?_⟩
  refine PySem.W.methodCall_KW (pl := pl) (thn (he.run pins s σ H _ I h) fun u s1 ⟨x, H1, I1, rx, a, dx, fs, ex, ea, l, q⟩ => ?_) ht
  subst ex
  obtain rfl : u = Value.ref a := rx
  refine getmeth_ok I1 ea c hm l ?_
  exact PySem.W.callWith_K0 (first := [.ref a]) I1.kIn hm.kp (wpAny_call (run_fnR (us := [.ref a]) (vs := [.ref a]) F hr hx I1 (.cons rfl .nil) q))
def tPropR (C : Addr) (sp : Sp) (E : XK) (ta : TE) : TE := fun σ H Q => ta σ H fun x H1 => ∃ a dx fs, x = .ref a ∧ H1 a = some (.ins C dx fs) ∧ sp [.ref a] H1 Q E
theorem getpropR_ok {a dx : Addr} {fs : List (Str × V)} {f : Str} {pins : List (Addr × Obj)} {σ : L2.St} {H : Hp} {s : Shared} {Q : VK} {b : Bool} {E' : Value → Shared → Prop} (I : Inv X pins σ H s) (ea : H a = some (.ins C dx fs)) (c : Cls X.K C) (hp : PropOf X.K C f p g)
    (F : FnR X.prog X.w X.K X.mg X.base CX k g sp) (hr : Room (k + 1) X.A) (hx : Passes CX X.nox E) (h : sp [.ref a] H Q E) :
    wpAny (model X.prog X.w) X.A (getAttr (.ref a) f b) (EP X pins σ Q) E' s := by
  obtain ⟨mA, O, _, _, _, _⟩ := ins_get I.hok ea
  obtain ⟨od, J, _⟩ := O.look
  obtain ⟨rest, hrec⟩ := hp.rec_
  have I1 := I.tok (s.toks + 1)
  have hc : (PySem.W.clsIn X.K C).isSome = true := by
    obtain ⟨cd, hc, _⟩ := PySem.W.any_some c.hd
    rw [hc]
    rfl
  refine PySem.W.get_bind I.kIn J (PySem.W.plainGet_of (c.get f)).1 (PySem.W.findObj_data hc hp.at_ hp.get hp.tak) (PySem.W.plainGet_of (c.get f)).2 (wpAny_call (PySem.W.prop_get (s := { s with toks := s.toks + 1 }) I.kIn hrec ?_))
  refine codeAny_mono (F X.A.in1 X.stack { s with toks := s.toks + 1 } H [.ref a] [.ref a] Q E hr.in1 I1.env0.in1 (.cons rfl .nil) h) fun r s' hq => ?_
  cases r with
  | error er => exact False.elim (hx pins σ H { s with toks := s.toks + 1 } er s' (I1.wish _) hq)
  | ok fl =>
    cases fl with
    | ret u =>
      obtain ⟨v, H', I3, rv, q3⟩ := I1.after hq
      show wpAny _ _ (handedOut u) _ _ _
      rw [PySem.W.handedOut_of (handed_of rv)]
      exact wpAny_pure ⟨v, H', I3, rv, q3⟩
    | next => exact False.elim hq
    | brk => exact False.elim hq
    | cont => exact False.elim hq
theorem pe_propR {f : Str} (he : PE X e ta) (c : Cls X.K C) (hp : PropOf X.K C f p g) (F : FnR X.prog X.w X.K X.mg X.base CX k g sp) (hr : Room (k + 1) X.A) (hx : Passes CX X.nox E)
    (hab : attributeBase e f X.env (eval e X.env) = eval e X.env := by rfl) : PE X (.Attribute e f pos) (tPropR C sp E ta) := by
  refine ⟨fun pins s σ H Q I h => ?_⟩
  refine attr_of hab (thn (he.run pins s σ H _ I h) fun u s1 ⟨x, H1, I1, rx, a, dx, fs, ex, ea, q⟩ => ?_)
  subst ex
  obtain rfl : u = Value.ref a := rx
  exact getpropR_ok I1 ea c hp F hr hx q
end
end N1
set_option maxHeartbeats 1000000
/-! xs[::-1] of a list -/
namespace N1
open PySem PySem.Spec PyProof.Rows L2
section
variable {X : Cx} {e u : Expr} {te : TE} {ts : L2.St → Hp → (Option Int → Hp → Prop) → Prop} {p2 pos : Pos}
def tRevL (K : PySem.W.Frag) (te : TE) (ts : L2.St → Hp → (Option Int → Hp → Prop) → Prop) : TE := fun σ H Q => te σ H fun x H1 => ts σ H1 fun k H2 => k = some (-1) ∧ ∃ a xs, x = .ref a ∧ SqL K H2 a xs ∧ ∀ p, H2 p = none → Q (.ref p) (upd H2 p (.lst xs.reverse))
theorem pe_revL (he : PE X e te) (hst : PO X (some u) ts) : PE X (.Subscript e (.Slice none none (some u) p2) pos) (tRevL X.K te ts) := by
  refine ⟨fun pins s σ H Q I h => ?_⟩
  refine Subscript_ (thn (he.run pins s σ H _ I h) fun v s1 ⟨x, H1, I1, r1, q1⟩ => ?_)
  refine wpAny_Slice (thn ((po_none (X := X)).run pins s1 σ H1 (fun o H' => o = none ∧ H' = H1) I1 ⟨rfl, rfl⟩) fun vl s2 ⟨l, H2, I2, pl, el, q2⟩ => thn ((po_none (X := X)).run pins s2 σ H2 (fun o H' => o = none ∧ H' = H2) I2 ⟨rfl, rfl⟩) fun vu s3 ⟨u', H3, I3, pu, eu, q3⟩ => ?_)
  subst q2
  subst q3
  subst el
  subst eu
  refine thn (hst.run pins s3 σ _ _ I3 q1) fun vk s4 ⟨k, H4, I4, pk, ek, a, xs, ex, hx, q⟩ => ?_
  subst ek
  subst ex
  obtain rfl : v = Value.ref a := r1
  have I5 : Inv X pins σ H4 { s4 with heap := s4.heap.push { cls := .type "slice", data := .fields #[vl, vu, vk] } } := I4.kept (t' := s4.toks) fun b ob q => Heap.get?_push_of_some _ q
  obtain ⟨its, r, ht, hz⟩ := I5.list hx
  refine tail_any (ops := [.ref a, .ref s4.heap.objs.size]) ht.isList.typeIs slot_list_getitem.lookup ?_ (by with_unfolding_all rfl)
  refine wpAny_getItem_list_slice ht.isList (Heap.IsSliceOf.new ..) pl pu pk (by decide) ?_ (by have := r.length; rw [List.size_toArray]; omega)
  rw [PySem.W.krv_pick]
  have hl := r.length
  refine ⟨.ref _, _, I5.laid (t' := s4.toks) (o := .lst xs.reverse) (fun b ob q => Heap.get?_push_of_some _ q) (Nat.le_refl _) ?_, rfl, q _ (I5.hok.fresh (Nat.le_refl _))⟩
  exact ⟨by rw [List.length_reverse]; exact hz, _, 0, Vals.reverse r, Heap.get?_push_size _ rfl⟩
/-- xs == [] -/
def rEqNil (K : PySem.W.Frag) : R2 := fun x y H Q => ∃ a b xs, x = .ref a ∧ y = .ref b ∧ SqL K H a xs ∧ SqL K H b [] ∧ Q (.bl xs.isEmpty) H
theorem op_eqNil (hu : X.A.units < cLine) : OpR X (compareOp .Eq) (rEqNil X.K) := by
  intro pins s σ H x y v u Q I rx ry h
  obtain ⟨a, b, xs, rfl, rfl, ha, hb, q⟩ := h
  cases rx
  cases ry
  obtain ⟨its, rv, ⟨⟨cls, dd, data, sl⟩, n, ho, hc, hdn, hd⟩, hlen⟩ := I.list ha
  obtain ⟨its2, rv2, ⟨⟨cls2, dd2, data2, sl2⟩, n2, ho2, hc2, hdn2, hd2⟩, hlen2⟩ := I.list hb
  simp only at hc hd hc2 hd2
  subst hc hd hc2 hd2
  cases rv2
  show wpAny _ _ (richCompare .Eq (.ref a) (.ref b)) _ _ _
  have hla : s.heap.IsList a its.toArray := ⟨_, ho, rfl, n, rfl⟩
  have hlb : s.heap.IsList b ([] : List Value).toArray := ⟨_, ho2, rfl, n2, rfl⟩
  cases xs with
  | nil =>
    cases rv
    exact SeqAt.RcAt.lists (e := fun _ => true) hla hlb rfl hu (fun j h1 h2 => by simp at h1) _ _ _ _ ⟨.bl true, H, I, rfl, q⟩
  | cons x0 xs0 =>
    cases rv with
    | @cons _ u0 _ us0 r0 rr => exact SeqAt.RcAt.lists_lengths hla hlb (by simp) hu _ _ _ _ ⟨.bl false, H, I, rfl, q⟩
end
end N1
set_option maxHeartbeats 1000000
/-! o.m(e ..) in a try: what is raised is the try's wish, at the slots -/
namespace N1
open PySem PySem.Spec PyProof.Rows L2
section
variable {X : Cx} {CX : CXT} {k : Nat} {C f : Addr} {m : Str} {sp : Sp} {E : L2.St → XK} {o e : Expr} {es : List Expr} {ta : TE} {t : TA} {apos pos : Pos} {pl : Sem Bool}
def tMethRS (C : Addr) (m : Str) (sp : Sp) (E : L2.St → XK) (ta : TE) (t : TA) : TE := fun σ H Q => ta σ H fun x H1 => ∃ a dx fs, x = .ref a ∧ H1 a = some (.ins C dx fs) ∧ fs.lookup m = none ∧ t σ H1 fun vs H2 => sp (x :: vs) H2 Q (E σ)
theorem pe_methRS (he : PE X o ta) (c : Cls X.K C) (hm : Meth X.K C m f) (F : FnR X.prog X.w X.K X.mg X.base CX k f sp) (hr : Room k X.A) (hx : ∀ σ, PassesAt CX X σ (E σ)) (ha : PA X (e :: es) t)
    (hst : starEach (e :: es) X.env = (false, eval e X.env) :: starEach es X.env := by rfl) (hpl : (backTo pos (starEach es X.env)).any (·.1) = false := by rfl)
    (ht : eval (.Call (.Attribute o m apos) (e :: es) [] pos) X.env = (do
      let ov ← eval o X.env
      standAt apos.atName
      let (f, first) ← holding [ov] (getMethod ov m pl)
      callWith pos f first (backTo pos (starEach (e :: es) X.env)) (backToKw pos (keywordEach [] X.env))) := by rfl) :
    PE X (.Call (.Attribute o m apos) (e :: es) [] pos) (tMethRS C m sp E ta t) := by
  refine ⟨fun pins s σ H Q I h => ?_⟩
  refine PySem.W.methodCall_KW (pl := pl) (thn (he.run pins s σ H _ I h) fun u s1 ⟨x, H1, I1, rx, a, dx, fs, ex, ea, l, q⟩ => ?_) ht
  subst ex
  obtain rfl : u = Value.ref a := rx
  refine getmeth_ok I1 ea c hm l ?_
  refine PySem.W.callWith_K (first := [.ref a]) (h₀ := X.base) I1.ok.mod.kin hm.kp (thn (ha.run pos pins s1 σ H1 _ I1 q) fun us s2 ⟨vs, H2, I2, r, q2⟩ => ⟨I2.kIn, ?_⟩) hst hpl
  refine wpAny_call (codeAny_mono (F X.A X.stack s2 H2 (.ref a :: us) (.ref a :: vs) Q (E σ) hr I2.env0 (.cons rfl r) q2) fun r s' hq => ?_)
  cases r with
  | error e => exact hx σ pins H2 s2 e s' I2 hq
  | ok fl =>
    cases fl with
    | ret u => exact I2.after hq
    | next => exact False.elim hq
    | brk => exact False.elim hq
    | cont => exact False.elim hq
end
end N1
set_option maxHeartbeats 2000000
/-! a caught exception that is kept behind its clause: tracked, its field read, isinstance -/
namespace N1
open PySem PySem.Spec PyProof.Rows L2
/-- a caught exception's object at a -/
def ExK (cls : Value) (d : Option Addr) (a : Addr) : HO := .ext fun h => ∃ (oe : Obj) (vs : Array Value), h.get? a = some oe ∧ Zc cls d oe ∧ oe.data = .fields vs
theorem exK_ok {P : Program} {w : World} {H : Hp} {h : Heap} {a : Addr} {cls : Value} {d : Option Addr} {oe : Obj} {vs : Array Value} (e : h.get? a = some oe) (z : Zc cls d oe) (hd : oe.data = .fields vs) : ObjOk P w H h a (ExK cls d a) :=
  ⟨⟨oe, vs, e, z, hd⟩, ⟨oe, e⟩, fun _ _ ⟨o, v, q, r⟩ k => ⟨o, v, k o q, r⟩⟩
section
variable {X : Cx} {pins : List (Addr × Obj)} {σ : L2.St} {H : Hp} {s : Shared}
/-- what stands in the heap, new to the def, is tracked from now on -/
theorem inv_track {a : Addr} {o : HO} (I : Inv X pins σ H s) (new : ObjOk X.prog X.w (upd H a o) s.heap a o) (na : H a = none) (n0 : X.s_0.heap.get? a = none) (nL : a ≠ X.env.locals) (nC : ∀ x c, X.env.cells.lookup x = some c → c ≠ a) (nP : ∀ p ∈ X.pn ++ pins, p.1 ≠ a) : Inv X pins σ (upd H a o) s := by
  have u0 : ∀ b, b ≠ a → (upd H a o) b = H b := fun b hb => upd_ne hb
  have ex : ∀ b v, H b = some v → b ≠ a := fun b v e z => by rw [z, na] at e; cases e
  refine ⟨I.ok, I.os, I.bare, ⟨I.base.keep, I.base.slot, fun b v e n hx => ?_, I.base.there, fun b xs e => ?_, fun b v xs e => ?_, fun b ps e => ?_⟩, I.loc, I.cell, ?_, fun x c e => ?_, fun p hp => ?_, fun b v e => ?_, I.len⟩
  · rw [u0 b fun z => by rw [z, n0] at e; cases e]
    exact I.base.free b v e n hx
  · have q := I.base.tups b xs e
    rw [u0 b (ex b _ q)]
    exact q
  · have q := I.base.frzs b v xs e
    rw [u0 b (ex b _ q)]
    exact q
  · obtain ⟨m, q⟩ := I.base.tbls b ps e
    exact ⟨m, by rw [u0 b (ex b _ q)]; exact q⟩
  · rw [u0 _ (Ne.symm nL)]
    exact I.free
  · rw [u0 _ (nC x c e)]
    exact I.freeC x c e
  · obtain ⟨e, n, r⟩ := I.pin p hp
    exact ⟨e, by rw [u0 _ (nP p hp)]; exact n, r⟩
  · by_cases hb : b = a
    · subst hb
      rw [upd_same] at e
      cases e
      exact new
    · rw [u0 b hb] at e
      exact (I.hok b v e).stay (fun c v _ q => q) (fun c q => by rw [u0 c (ex c _ q)]; exact q) fun c xs q => by rw [u0 c (ex c _ q)]; exact q
end
/-- the clause's wish: behind the suite the exception's object is tracked -/
def wKeep (K : PySem.W.Frag) (c : Value) (i : Nat) (ts : Addr → Value → Option Addr → TS) (Wout : WX) (D : Ends) : WX := fun cls d σ H =>
  ∃ b, PySem.W.exmOne K cls c = some b ∧ (b = true → ∀ a, H a = none → ts a cls d { nx := fun σ' H' => D.nx (σ'.set i none) (upd H' a (ExK cls d a)), rt := D.rt, bk := fun _ _ => False, ct := fun _ _ => False } (σ.set i (some (.ref a))) H) ∧
    (b = false → Wout cls d σ H)
section
variable {X : Cx} {x n : Str} {c : Value} {i : Nat} {body suite : List Stmt} {b₀ : Stmt} {np pos pos' : Pos} {tb : WX → TS} {ts : Addr → Value → Option Addr → TS} {Wout : WX}
theorem ps_try_keep (hs : X.stack = X.env :: X.outer) (hf : X.env.frame = some X.env.locals) (hex : X.ex = []) (hN : X.N.Nodup) (hi : X.N[i]? = some n) (hln : X.env.kindOf n = some .local) (hc : Names X x c) (tk : Takes X Wout)
    (hb : ∀ (W : WX) (pn : List (Addr × Obj)) (xe : Value → Shared → Prop), Takes (X.tr pn xe) W → PassesOwn (model X.prog X.w) X.A X.env xe → PSs (X.tr pn xe) body (tb W))
    (hsu : ∀ (a : Addr) (oe : Obj) (cls : Value) (d : Option Addr) (pn : List (Addr × Obj)), Zc cls d oe → (∃ vs, oe.data = .fields vs) → PSs (X.suite a ((a, oe) :: pn)) (b₀ :: suite) (ts a cls d)) :
    PS X (.Try body [.ExceptHandler (some (.Name x np)) (some n) (b₀ :: suite) pos'] [] [] pos) (fun D σ H => tb (wKeep X.K c i ts Wout D) D σ H) := by
  refine ⟨fun pins s σ H D I h => ?_⟩
  have ok := I.ok
  have hfr : X.A.frames = some (X.env :: X.outer) := by rw [ok.frames, hs]
  refine wpAny_Try_except ?_
  refine wpAny_mono ((hb (wKeep X.K c i ts Wout D) (X.pn ++ pins) (fun e s₁ => wpAny (model X.prog X.w) X.A (noteFrame e X.env) (fun _ s₂ => wpAny (model X.prog X.w) X.A (setFlight e none) (fun _ s₃ =>
    wpAny (model X.prog X.w) X.A (handleBy e X.env [.ExceptHandler (some (.Name x np)) (some n) (b₀ :: suite) pos']) (SP X pins D) X.xe s₃) X.xe s₂) X.xe s₁) (fun u s' xx => ?_) PassesOwn.looking).run [] s σ H D (I.toTry _) h) (fun f s1 hsp => ?_) (fun e s1 he => he)
  · obtain ⟨a, B, sI, pins', σ', H', cls, d, rfl, J', nb, up, sky, na, os, ag, b, hb1, hyes, hno⟩ := xx
    have J : Inv X pins σ' H' sI := J'.ofTry ok
    have sky' : Sky B (X.env :: X.outer) a (Zc cls d) X.env.locals s'.heap := by rw [← hs]; exact sky
    show wpAny (model X.prog X.w) X.A (noteFrame (.ref a) X.env) _ _ _
    refine Sky.land Zc.steady hfr hf sky' fun h3 fl3 up3 => ?_
    have J3 : Inv X pins σ' H' { s' with heap := h3 } := J.landed nb fl3.1 (up.trans up3) os ag
    obtain ⟨oe3, vs3, he3, hz3, hd3⟩ := fl3.there
    have nfr : a ∉ frs (X.env :: X.outer) := fun hm => by
      obtain ⟨_, o', e', hnf⟩ := fl3.2.2.1.mem hm
      rw [he3] at e'
      cases e'
      exact hnf _ hd3
    have nL : a ≠ X.env.locals := fun z => nfr (List.mem_filterMap.mpr ⟨X.env, List.mem_cons_self, by rw [hf, z]⟩)
    have nF : a ∉ X.fs := fun hm => by
      obtain ⟨e, he, q⟩ := List.mem_filterMap.mp hm
      exact nfr (List.mem_filterMap.mpr ⟨e, List.mem_cons_of_mem _ he, q⟩)
    have nI : sI.heap.get? a = none := by
      cases e : sI.heap.get? a with
      | none => rfl
      | some o =>
        have z := nb a o e (by rw [hs]; exact nfr)
        rw [fl3.2.1] at z
        cases z
    have n0 : X.s_0.heap.get? a = none := by
      cases e : X.s_0.heap.get? a with
      | none => rfl
      | some o =>
        obtain ⟨o', z⟩ := J.base.there a o e (by rw [hex]; exact fun z => nomatch z)
        rw [nI] at z
        cases z
    have nC : ∀ x c, X.env.cells.lookup x = some c → c ≠ a := fun x c e z => by
      obtain ⟨v, o, ho, _⟩ := J.cell x c e
      rw [z, nI] at ho
      cases ho
    have nP : ∀ p ∈ X.pn ++ pins, p.1 ≠ a := fun p hp z => by
      have q := (J.pin p hp).1
      rw [z, nI] at q
      cases q
    have S3 := J3.suite he3 hd3 na nL nF
    refine wpAny_handleBy_cons (codeAny_handlers_test ?_) (by intro q; cases q)
    have LT : PySem.W.Looks (model X.prog X.w) h3 (typeOf (.ref a)) cls := fun A Q E s k q => wpAny_typeOf_ref (k _ _ he3) (by rw [hz3.1]; exact q)
    have LM := PySem.W.exm_one (M := model X.prog X.w) (J3.kIn) LT hb1
    have test : ∀ {Q : Value → Shared → Prop} {E : Value → Shared → Prop}, Q c { s' with heap := h3 } → wpAny (model X.prog X.w) (X.A.mark (some (.ref a))) (eval (.Name x np) X.env) Q E { s' with heap := h3 } := fun {Q E} q => by
      obtain ⟨hg, hdbg, hm | ⟨hm, hv, hnn⟩⟩ := hc
      · exact ld_glob (X := X.suite a ((a, oe3) :: (X.pn ++ pins))) S3 hg hm q hdbg
      · exact ld_blt (X := X.suite a ((a, oe3) :: (X.pn ++ pins))) S3 hg hm hv q hnn hdbg
    refine test (LM.here ?_)
    cases b with
    | true =>
      refine codeAny_handlers_suite_as ?_
      refine HandSPX.lands_againZ fl3 fun h4 fl4 up4 => ?_
      have J4 : Inv X pins σ' H' { s' with heap := h4 } := J.landed nb fl4.1 ((up.trans up3).trans up4) os ag
      obtain ⟨oe4, vs4, he4, hz4, hd4⟩ := fl4.there
      have S4 := J4.suite he4 hd4 na nL nF
      refine store_ok (X := X.suite a ((a, oe4) :: (X.pn ++ pins))) (v := .ref a) S4 hN hi (.inl hln) rfl (fun s5 S5 => ?_) (.inr hln)
      refine wpAny_mono ((hsu a oe4 cls d (X.pn ++ pins) hz4 ⟨_, hd4⟩).run [] s5 _ H' _ S5 (hyes rfl a na)) (fun f s6 hsp => ?_) (fun _ _ z => False.elim z)
      cases f with
      | next =>
        obtain ⟨σ6, H6, S6, q6⟩ := hsp
        refine gone_ok (X := X.suite a ((a, oe4) :: (X.pn ++ pins))) S6 hN hi hln fun s7 S7 => ?_
        obtain ⟨p1, p2, _⟩ := S7.pin (a, oe4) (List.mem_append_left _ List.mem_cons_self)
        exact ⟨_, _, inv_track (S7.unsuite ok) (exK_ok p1 hz4 hd4) p2 n0 nL nC nP, q6⟩
      | brk =>
        obtain ⟨σ6, H6, S6, q6⟩ := hsp
        exact q6.elim
      | cont =>
        obtain ⟨σ6, H6, S6, q6⟩ := hsp
        exact q6.elim
      | ret u =>
        obtain ⟨v6, σ6, H6, S6, r6, q6⟩ := hsp
        exact gone_ok (S6.unsuite ok) hN hi hln fun s7 J7 => ⟨_, _, _, J7, r6, q6⟩
    | false =>
      show wpAny _ X.A (handleBy (.ref a) X.env []) _ _ _
      refine wpAny_handleBy_nil ?_
      obtain ⟨k1, k2, k3, oe, vs, T, oT, ts', he, hz, hd, h1, hr⟩ := id fl3
      unfold PySem.passOn
      refine wpAny_bind (wpAny_field he hd h1 ?_)
      rw [if_neg (show ¬ ((Value.ref T == Value.none) = true) from by simp)]
      have fin : wpAny (model X.prog X.w) X.A (setFlight (.ref a) X.env.frame) (fun _ s4 => wpAny (model X.prog X.w) X.A (throw (.ref a) : Sem Flow) (SP X pins D) X.xe s4) X.xe { s' with heap := h3 } := by
        rw [hf]
        refine HandSPX.setFlight_upZ fl3 fun h4 hh4 up4 => wpAny_throw (tk _ _ ?_)
        exact ⟨a, B, sI, pins, σ', H', cls, d, rfl, J, nb, (up.trans up3).trans up4, .inr (.inr (by rw [hs]; exact hh4)), na, os, ag, hno rfl⟩
      first
        | exact wpAny_bind (wpAny_pure (wpAny_bind fin))
        | exact wpAny_bind fin
  · cases f with
    | next =>
      obtain ⟨σ', H', J', q⟩ := hsp
      exact wpAny_execs_nil ⟨σ', H', J'.ofTry ok, q⟩
    | brk =>
      obtain ⟨σ', H', J', q⟩ := hsp
      exact ⟨σ', H', J'.ofTry ok, q⟩
    | cont =>
      obtain ⟨σ', H', J', q⟩ := hsp
      exact ⟨σ', H', J'.ofTry ok, q⟩
    | ret u =>
      obtain ⟨v, σ', H', J', r, q⟩ := hsp
      exact ⟨v, σ', H', J'.ofTry ok, r, q⟩
/-- the field f of a kept exception -/
def tXk (C : Addr) (f : Str) (te : TE) : TE := fun σ H Q => te σ H fun x H1 => ∃ (a dd : Addr) (fs : List (Str × V)) (v : V), x = .ref a ∧ H1 a = some (ExK (.ref C) (some dd) a) ∧ H1 dd = some (.xd fs) ∧ fs.lookup f = some v ∧ Q v H1
theorem pe_xk {C : Addr} {e : Expr} {te : TE} {f : Str} (T : XfC X.K C) (hno : PySem.W.findIn X.K (.ref C) f = some none) (he : PE X e te) (hb : attributeBase e f X.env (eval e X.env) = eval e X.env := by rfl) : PE X (.Attribute e f pos) (tXk C f te) := by
  refine ⟨fun pins s σ H Q I h => ?_⟩
  refine attr_of hb (thn (he.run pins s σ H _ I h) fun u s1 hh => ?_)
  obtain ⟨x, H1, I1, rx, a, dd, fs, v, ex, ha, hdd, l, q⟩ := hh
  subst ex
  obtain rfl : u = Value.ref a := rx
  obtain ⟨⟨oe, vs, ho, hz, hv⟩, _⟩ := I1.hok a _ ha
  obtain ⟨mA, hns, hr⟩ := (show ObjOk X.prog X.w H1 s1.heap dd (.xd fs) from I1.hok dd _ hdd)
  obtain ⟨od, hod, hl⟩ := lookIn_ns hns
  obtain ⟨u, hu, ru⟩ := RelO.some_of (v := v) (o := mA f) (by rw [← l]; exact hr f)
  have J : PySem.W.InstAt s1.heap a oe C (some od) := ⟨ho, hz.1, by unfold PySem.W.notCls; rw [hv] <;> rfl, by rw [hz.2]; exact hod⟩
  exact HandSPX.exc_get I1.kIn J T.ga T.gg T.exC (PySem.W.findObj_own T.hdC hno rfl (by rw [hl, hu])) (handed_of ru) ⟨v, H1, I1.tok _, ru, q⟩
/-- isinstance of a kept exception that has a dict -/
def rIsK (K : PySem.W.Frag) (D : Addr) : List V → Hp → VK → Prop := fun xs H Q => ∃ (a dd : Addr) (fs : List (Str × V)) (c : V) (cv : Value) (b : Bool), xs = [.ref a, c] ∧ H a = some (ExK (.ref D) (some dd) a) ∧ H dd = some (.xd fs) ∧ (∀ u, RelV c u → u = cv) ∧ PySem.W.kitOne K (.ref D) cv = some b ∧ Q (.bl b) H
theorem call_isK {D : Addr} (C : ExcC X.K D) : CallR X (.builtin "isinstance") (rIsK X.K D) := by
  intro pins s σ H xs us Q I r h
  obtain ⟨a, dd, fs, c, cv, b, rfl, ha, hdd, hcv, e, q⟩ := h
  cases r with
  | cons rx rr =>
    cases rr with
    | cons rt rr =>
      cases rr
      cases rx
      have ec := hcv _ rt
      subst ec
      obtain ⟨⟨oe, vs, ho, hz, hv⟩, _⟩ := I.hok a _ ha
      obtain ⟨mA, hns, _⟩ := (show ObjOk X.prog X.w H s.heap dd (.xd fs) from I.hok dd _ hdd)
      obtain ⟨od, hod, _⟩ := lookIn_ns hns
      have J : PySem.W.InstAt s.heap a oe D (some od) := ⟨ho, hz.1, by unfold PySem.W.notCls; rw [hv] <;> rfl, by rw [hz.2]; exact hod⟩
      obtain ⟨cd, hcl, _⟩ := PySem.W.any_some C.hd
      exact PySem.W.kia_one (PySem.W.kitx_exc (by rw [hcl]; rfl) C.hg C.hk C.hs C.ha C.hn C.ht C.hm) I.kIn J e (fun z => nomatch z) fun tk => ⟨.bl b, H, I.kept (t' := tk) fun _ _ z => z, rfl, q⟩
end
end N1
namespace N1
open PySem L2
/-- an instance's class where isinstance looks at it -/
structure IsiC (K : PySem.W.Frag) (C D : Addr) : Prop where
  ha : PySem.W.findIn K (.ref C) "__class__" = some (some (.builtin "object.__class__"))
  hm : PySem.W.mroIn K C (.type "object") = some true
  k1 : PySem.W.kitOne K (.ref C) (.ref D) = some true
structure FX (P : Program) (K : PySem.W.Frag) (mg : Str → Option Value) : Prop where
  glo : ∀ x, glL.contains x = true → mg x = some (.ref (ga K x))
  kpg : ∀ x, glL.contains x = true → PySem.W.keepIn K (.ref (ga K x)) = true
  fre : ∀ x, frL.contains x = true → mg x = none
  int : ∀ p, inL.contains p = true → ∃ t, mg p.1 = some (.int p.2 t)
  let_ : ∃ t, mg "LETTERS" = some (.str "abcdefghijklmnopqrstuvwxyz" t)
  cls : ∀ x, clL.contains x = true → Cls K (ga K x)
  noat : ∀ p, naL.contains p = true → NoAttr K (ga K p.1) p.2
  meth : ∀ p, meL.contains p = true → Meth K (ga K p.1) p.2 (ma K (ga K p.1) p.2)
  mkr : ∀ x, mkL.contains x = true → Mk K (ga K x) (ini K x)
  -- isinstance
  gcn : PySem.W.specialIn K (.builtin "object.__class__") "__get__" = some (some (.builtin "getset_descriptor.__get__"))
  gct : PySem.W.takesIn K (.builtin "object.__class__") = some true
  isR : IsiC K (ga K "Run") (ga K "Trip")
  isS : IsiC K (ga K "Stay") (ga K "Trip")
  isD : IsiC K (ga K "Day") (ga K "Day")
  isT : IsiC K (ga K "Table") (ga K "Table")
  isP : IsiC K (ga K "Pauses") (ga K "Pauses")
  -- WORD
  woR : ∃ u, Con K (ga K "Run") "WORD" (.str "run") u
  woS : ∃ u, Con K (ga K "Stay") "WORD" (.str "stay") u
  -- == and !=
  neq : ∀ x, (["Day", "Run", "Stay", "Table", "Pauses"] : List Str).contains x = true → PySem.W.findIn K (.ref (ga K x)) "__ne__" = some (some (.builtin "object.__ne__")) ∧ PySem.W.subIn K (.ref (ga K x)) (.type "object") = some true
  -- + of trips, += -= [] of boards
  sfR : PySem.W.selfFirst K (ga K "Run") = true ∧ PySem.W.findIn K (.ref (ga K "Run")) "__radd__" = some none
  sfS : PySem.W.selfFirst K (ga K "Stay") = true ∧ PySem.W.findIn K (.ref (ga K "Stay")) "__radd__" = some none
  sfB : PySem.W.selfFirst K (ga K "Board") = true ∧ PySem.W.noSeq K (ga K "Board") = true
  nsq : PySem.W.fnIn K (ma K (ga K "Board") "__getitem__") = true ∧ PySem.W.fnIn K (ma K (ga K "Table") "__getitem__") = true ∧ PySem.W.fnIn K (ma K (ga K "Pauses") "__getitem__") = true
  iad : ∃ u, PySem.W.findIn K (.type "int") "__add__" = some u
  ira : ∃ u, PySem.W.findIn K (.type "int") "__radd__" = some u
  isu : ∀ x, (["Run", "Stay"] : List Str).contains x = true → PySem.W.subIn K (.type "int") (.ref (ga K x)) = some false
  -- static methods, properties
  crT : ClX.CRead K (ga K "Table") (.type "type")
  crP : ClX.CRead K (ga K "Pauses") (.type "type")
  stT : CSta K (ga K "Table") (.type "type") "of" (ma K (ga K "Table") "of") (st_ K "Table" "of")
  stP : CSta K (ga K "Pauses") (.type "type") "of" (ma K (ga K "Pauses") "of") (st_ K "Pauses" "of")
  prM : PropOf K (ga K "Board") "minutes" (ma K (ga K "Board") "minutes") (pr_ K "Board" "minutes")
  prL : PropOf K (ga K "Board") "is_level" (ma K (ga K "Board") "is_level") (pr_ K "Board" "is_level")
  prD : PropOf K (ga K "Board") "deeds" (ma K (ga K "Board") "deeds") (pr_ K "Board" "deeds")
  -- super().__init__
  opq : PySem.W.nsIn K cStatics "thirdparty.any" = some none
  top_ : (P.main.scope.names.lookup ("super" : Str)).isSome = false
  suR : SupD P K "__init__" "Run.__init__" (defArgs m_RunInit) (defBody m_RunInit) (defScope m_RunInit) (ini K "Run") (cel K (ini K "Run")) (cod K (ini K "Run")) (ga K "Run")
  suS : SupD P K "__init__" "Stay.__init__" (defArgs m_StayInit) (defBody m_StayInit) (defScope m_StayInit) (ini K "Stay") (cel K (ini K "Stay")) (cod K (ini K "Stay")) (ga K "Stay")
  suN : SupD P K "__init__" "NoTrip.__init__" (defArgs m_NoTripInit) (defBody m_NoTripInit) (defScope m_NoTripInit) (ini K "NoTrip") (cel K (ini K "NoTrip")) (cod K (ini K "NoTrip")) (ga K "NoTrip")
  suU : SupD P K "__init__" "Unbalanced.__init__" (defArgs m_UnbalancedInit) (defBody m_UnbalancedInit) (defScope m_UnbalancedInit) (ini K "Unbalanced") (cel K (ini K "Unbalanced")) (cod K (ini K "Unbalanced")) (ga K "Unbalanced")
  siR : PySem.W.ks_superIn K (ga K "Run") (ga K "Run") "__init__" = some (some (.ref (ini K "Trip"))) ∧ PySem.W.mroIn K (ga K "Run") (.ref (ga K "Run")) = some true ∧ ∃ cd, PySem.W.clsIn K (ga K "Run") = some cd
  siS : PySem.W.ks_superIn K (ga K "Stay") (ga K "Stay") "__init__" = some (some (.ref (ini K "Trip"))) ∧ PySem.W.mroIn K (ga K "Stay") (.ref (ga K "Stay")) = some true ∧ ∃ cd, PySem.W.clsIn K (ga K "Stay") = some cd
  siN : PySem.W.ks_superIn K (ga K "NoTrip") (ga K "NoTrip") "__init__" = some (some (.builtin "ValueError.__init__")) ∧ PySem.W.mroIn K (ga K "NoTrip") (.ref (ga K "NoTrip")) = some true ∧ PySem.W.mroIn K (ga K "NoTrip") (.type "ValueError") = some true
  siU : PySem.W.ks_superIn K (ga K "Unbalanced") (ga K "Unbalanced") "__init__" = some (some (.builtin "ValueError.__init__")) ∧ PySem.W.mroIn K (ga K "Unbalanced") (.ref (ga K "Unbalanced")) = some true ∧ PySem.W.mroIn K (ga K "Unbalanced") (.type "ValueError") = some true
  fnT : PySem.W.typeIn K (.ref (ini K "Trip")) = some (.type "function") ∧ PySem.W.fnIn K (ini K "Trip") = true
  -- NoTrip
  oex : OexC K (ga K "NoTrip")
  oeI : PySem.W.findIn K (.ref (ga K "NoTrip")) "__init__" = some (some (.ref (ini K "NoTrip"))) ∧ PySem.W.typeIn K (.ref (ini K "NoTrip")) = some (.type "function")
  oeN : PySem.W.findIn K (.ref (ga K "NoTrip")) "name" = some none
  tmE : ∀ x, (["Run", "Stay"] : List Str).contains x = true → ma K (ga K x) "__eq__" = ma K (ga K "Trip") "__eq__" ∧ ma K (ga K x) "__add__" = ma K (ga K "Trip") "__add__"
  exm : PySem.W.exmOne K (.ref (ga K "NoTrip")) (.ref (ga K "NoTrip")) = some true
  -- Unbalanced
  oexU : OexC K (ga K "Unbalanced")
  oeIU : PySem.W.findIn K (.ref (ga K "Unbalanced")) "__init__" = some (some (.ref (ini K "Unbalanced"))) ∧ PySem.W.typeIn K (.ref (ini K "Unbalanced")) = some (.type "function")
  oeNU : PySem.W.findIn K (.ref (ga K "Unbalanced")) "place" = some none
  exmU : PySem.W.exmOne K (.ref (ga K "Unbalanced")) (.ref (ga K "TurnError")) = some true
  isU : IsiC K (ga K "Unbalanced") (ga K "Unbalanced")
  xfU : XfC K (ga K "Unbalanced")
  f_is_integer : IsDef K (ga K "is_integer") "is_integer" "is_integer" d_is_integer []
  f_is_between : IsDef K (ga K "is_between") "is_between" "is_between" d_is_between []
  f_is_number : IsDef K (ga K "is_number") "is_number" "is_number" d_is_number []
  f_is_name : IsDef K (ga K "is_name") "is_name" "is_name" d_is_name []
  f_is_row : IsDef K (ga K "is_row") "is_row" "is_row" d_is_row []
  f_DayInit : IsDef K (ma K (ga K "Day") "__init__") "__init__" "Day.__init__" m_DayInit []
  f_DayEq : IsDef K (ma K (ga K "Day") "__eq__") "__eq__" "Day.__eq__" m_DayEq []
  f_TripInit : IsDef K (ma K (ga K "Trip") "__init__") "__init__" "Trip.__init__" m_TripInit []
  f_TripAdd : IsDef K (ma K (ga K "Trip") "__add__") "__add__" "Trip.__add__" m_TripAdd []
  f_TripEq : IsDef K (ma K (ga K "Trip") "__eq__") "__eq__" "Trip.__eq__" m_TripEq []
  f_RunTimed : IsDef K (ma K (ga K "Run") "timed") "timed" "Run.timed" m_RunTimed []
  f_StayTimed : IsDef K (ma K (ga K "Stay") "timed") "timed" "Stay.timed" m_StayTimed []
  f_need_all_trips : IsDef K (ga K "need_all_trips") "need_all_trips" "need_all_trips" d_need_all_trips []
  f_places_of : IsDef K (ga K "places_of") "places_of" "places_of" d_places_of []
  f_need_few : IsDef K (ga K "need_few") "need_few" "need_few" d_need_few []
  f_unbalanced : IsDef K (ga K "unbalanced") "unbalanced" "unbalanced" d_unbalanced []
  f_TableInit : IsDef K (ma K (ga K "Table") "__init__") "__init__" "Table.__init__" m_TableInit []
  f_TableOf : IsDef K (st_ K "Table" "of") "of" "Table.of" m_TableOf []
  f_TableGetitem : IsDef K (ma K (ga K "Table") "__getitem__") "__getitem__" "Table.__getitem__" m_TableGetitem []
  f_TableContains : IsDef K (ma K (ga K "Table") "__contains__") "__contains__" "Table.__contains__" m_TableContains []
  f_TableEq : IsDef K (ma K (ga K "Table") "__eq__") "__eq__" "Table.__eq__" m_TableEq []
  f_need_names_alone : IsDef K (ga K "need_names_alone") "need_names_alone" "need_names_alone" d_need_names_alone []
  f_PausesInit : IsDef K (ma K (ga K "Pauses") "__init__") "__init__" "Pauses.__init__" m_PausesInit []
  f_PausesOf : IsDef K (st_ K "Pauses" "of") "of" "Pauses.of" m_PausesOf []
  f_PausesPut : IsDef K (ma K (ga K "Pauses") "put") "put" "Pauses.put" m_PausesPut []
  f_PausesGetitem : IsDef K (ma K (ga K "Pauses") "__getitem__") "__getitem__" "Pauses.__getitem__" m_PausesGetitem []
  f_PausesEq : IsDef K (ma K (ga K "Pauses") "__eq__") "__eq__" "Pauses.__eq__" m_PausesEq []
  f_need_table : IsDef K (ga K "need_table") "need_table" "need_table" d_need_table []
  f_needed_pauses : IsDef K (ga K "needed_pauses") "needed_pauses" "needed_pauses" d_needed_pauses []
  f_places_count : IsDef K (ga K "places_count") "places_count" "places_count" d_places_count []
  f_BoardInit : IsDef K (ma K (ga K "Board") "__init__") "__init__" "Board.__init__" m_BoardInit [.non]
  f_BoardGo_on : IsDef K (ma K (ga K "Board") "go_on") "go_on" "Board.go_on" m_BoardGo_on []
  f_BoardPut : IsDef K (ma K (ga K "Board") "put") "put" "Board.put" m_BoardPut []
  f_BoardDrop : IsDef K (ma K (ga K "Board") "drop") "drop" "Board.drop" m_BoardDrop []
  f_BoardPause : IsDef K (ma K (ga K "Board") "pause") "pause" "Board.pause" m_BoardPause []
  f_BoardShift : IsDef K (ma K (ga K "Board") "shift") "shift" "Board.shift" m_BoardShift []
  f_BoardNeed_trip : IsDef K (ma K (ga K "Board") "need_trip") "need_trip" "Board.need_trip" m_BoardNeed_trip []
  f_BoardMinutes : IsDef K (pr_ K "Board" "minutes") "minutes" "Board.minutes" m_BoardMinutes []
  f_BoardSet_minutes : IsDef K (ma K (ga K "Board") "set_minutes") "set_minutes" "Board.set_minutes" m_BoardSet_minutes []
  f_BoardIs_level : IsDef K (pr_ K "Board" "is_level") "is_level" "Board.is_level" m_BoardIs_level []
  f_BoardDeeds : IsDef K (pr_ K "Board" "deeds") "deeds" "Board.deeds" m_BoardDeeds []
  f_BoardTold_table : IsDef K (ma K (ga K "Board") "told_table") "told_table" "Board.told_table" m_BoardTold_table []
  f_BoardTold_pauses : IsDef K (ma K (ga K "Board") "told_pauses") "told_pauses" "Board.told_pauses" m_BoardTold_pauses []
  f_BoardUndo : IsDef K (ma K (ga K "Board") "undo") "undo" "Board.undo" m_BoardUndo []
  f_BoardTwin : IsDef K (ma K (ga K "Board") "twin") "twin" "Board.twin" m_BoardTwin []
  f_BoardGetitem : IsDef K (ma K (ga K "Board") "__getitem__") "__getitem__" "Board.__getitem__" m_BoardGetitem []
  f_BoardSetitem : IsDef K (ma K (ga K "Board") "__setitem__") "__setitem__" "Board.__setitem__" m_BoardSetitem []
  f_BoardIadd : IsDef K (ma K (ga K "Board") "__iadd__") "__iadd__" "Board.__iadd__" m_BoardIadd []
  f_BoardIsub : IsDef K (ma K (ga K "Board") "__isub__") "__isub__" "Board.__isub__" m_BoardIsub []
  f_BoardContains : IsDef K (ma K (ga K "Board") "__contains__") "__contains__" "Board.__contains__" m_BoardContains []
  f_BoardLen : IsDef K (ma K (ga K "Board") "__len__") "__len__" "Board.__len__" m_BoardLen []
  f_BoardIter : IsDef K (ma K (ga K "Board") "__iter__") "__iter__" "Board.__iter__" m_BoardIter []
  f_w_pen : IsDef K (ga K "_law_pen") "_law_pen" "_law_pen" w_pen []
  f_w_draw : IsDef K (ga K "_law_draw") "_law_draw" "_law_draw" w_draw []
  f_w_pick : IsDef K (ga K "_law_pick") "_law_pick" "_law_pick" w_pick []
  f_w_mixed : IsDef K (ga K "_law_mixed") "_law_mixed" "_law_mixed" w_mixed []
  f_w_names : IsDef K (ga K "_law_names") "_law_names" "_law_names" w_names []
  f_w_rows : IsDef K (ga K "_law_rows") "_law_rows" "_law_rows" w_rows []
  f_w_places : IsDef K (ga K "_law_places") "_law_places" "_law_places" w_places []
  f_w_pauses : IsDef K (ga K "_law_pauses") "_law_pauses" "_law_pauses" w_pauses []
  f_w_trip : IsDef K (ga K "_law_trip") "_law_trip" "_law_trip" w_trip []
  f_w_table : IsDef K (ga K "_law_table") "_law_table" "_law_table" w_table []
  f_w_fresh : IsDef K (ga K "_law_fresh") "_law_fresh" "_law_fresh" w_fresh []
  f_w_uneven : IsDef K (ga K "_law_uneven") "_law_uneven" "_law_uneven" w_uneven []
  f_w_later : IsDef K (ga K "_law_later") "_law_later" "_law_later" w_later []
  f_w_begun : IsDef K (ga K "_law_begun") "_law_begun" "_law_begun" w_begun []
  f_w_deed : IsDef K (ga K "_law_deed") "_law_deed" "_law_deed" w_deed []
  f_w_shows : IsDef K (ga K "_law_shows") "_law_shows" "_law_shows" w_shows []
  f_w_bare_right : IsDef K (ga K "_law_bare_right") "_law_bare_right" "_law_bare_right" w_bare_right []
  f_w_twin_right : IsDef K (ga K "_law_twin_right") "_law_twin_right" "_law_twin_right" w_twin_right []
  f_w_right : IsDef K (ga K "_law_right") "_law_right" "_law_right" w_right []
  f_law : IsDef K (ga K "law") "law" "law" d_law []
end N1
set_option maxHeartbeats 1000000
/-! heaps with a frozen part; short rules -/
namespace N1
open PySem PySem.Spec PyProof.Rows L2
/-- all but M stays -/
def Kp (M : List Addr) (H H' : Hp) : Prop := ∀ a o, a ∉ M → H a = some o → H' a = some o
/-- from H to H' all but M has stayed; the frozen part has grown from G to G', by new things alone -/
structure Gx (M : List Addr) (G H G' H' : Hp) : Prop where
  gg : Same G G'
  gh : Same G' H'
  kp : Kp M H H'
  dom : ∀ a, H a ≠ none → H' a ≠ none
  fr : ∀ a, G' a ≠ none → G a ≠ none ∨ H a = none
theorem same_rfl {H : Hp} : Same H H := fun _ _ h => h
theorem same_new {G H : Hp} {p : Addr} {o : HO} (g : Same G H) (hp : H p = none) : Same G (upd H p o) := fun b u e => by
  by_cases hb : b = p
  · subst hb
    have := g _ _ e
    rw [hp] at this
    cases this
  · rw [upd_ne hb]
    exact g _ _ e
theorem same_at {G H : Hp} {p : Addr} {o : HO} (g : Same G H) (hp : G p = none) : Same G (upd H p o) := fun b u e => by
  by_cases hb : b = p
  · subst hb
    rw [hp] at e
    cases e
  · rw [upd_ne hb]
    exact g _ _ e
theorem same_frz {G H : Hp} {p : Addr} {o : HO} (g : Same G H) (hp : H p = some o) : Same (upd G p o) H := fun b u e => by
  by_cases hb : b = p
  · subst hb
    rw [upd_same] at e
    rw [← e]
    exact hp
  · rw [upd_ne hb] at e
    exact g _ _ e
theorem same_self {G H : Hp} {p : Addr} {o : HO} (g : Same G H) (hp : H p = some o) : Same G (upd G p o) := fun b u e => by
  by_cases hb : b = p
  · subst hb
    rw [upd_same, ← hp]
    exact g _ _ e
  · rw [upd_ne hb]
    exact e
theorem same_self' {G : Hp} {p : Addr} {o : HO} (hp : G p = none) : Same G (upd G p o) := fun b u e => by
  rw [upd_ne (fun z => by rw [z, hp] at e; cases e)]
  exact e
theorem same_both {G H : Hp} {p : Addr} {o : HO} (g : Same G H) : Same (upd G p o) (upd H p o) := fun b u e => by
  by_cases hb : b = p
  · subst hb
    rw [upd_same] at e ⊢
    exact e
  · rw [upd_ne hb] at e ⊢
    exact g _ _ e
theorem same_non {G H : Hp} (g : Same G H) {p : Addr} (hp : H p = none) : G p = none := by
  cases e : G p with
  | none => rfl
  | some o =>
    have := g _ _ e
    rw [hp] at this
    cases this
section
variable {M M' : List Addr} {G H G' H' G2 H2 : Hp} {p : Addr} {o : HO}
theorem Gx.refl (h : Same G H) : Gx M G H G H := ⟨same_rfl, h, fun _ _ _ e => e, fun _ e => e, fun _ e => .inl e⟩
theorem Gx.trans (a : Gx M G H G' H') (b : Gx M G' H' G2 H2) : Gx M G H G2 H2 :=
  ⟨fun x o e => b.gg _ _ (a.gg _ _ e), b.gh, fun x o hx e => b.kp x o hx (a.kp x o hx e), fun x e => b.dom x (a.dom x e), fun x e => by
    rcases b.fr x e with z | z
    · exact a.fr x z
    · cases q : H x with
      | none => exact .inr rfl
      | some u => exact absurd z (a.dom x (by rw [q]; intro h; cases h))⟩
theorem Gx.mono (a : Gx M G H G' H') (h : ∀ x ∈ M, x ∈ M' ∨ H x = none) : Gx M' G H G' H' :=
  ⟨a.gg, a.gh, fun x o hx e => a.kp x o (fun hm => (h x hm).elim hx fun z => by rw [z] at e; cases e) e, a.dom, a.fr⟩
theorem Gx.nil (a : Gx [] G H G' H') : Gx M G H G' H' := a.mono fun x hx => by cases hx
theorem Gx.drop {t : Addr} (a : Gx (t :: M) G H G' H') (h : H t = none) : Gx M G H G' H' := a.mono fun x hx => by
  rcases List.mem_cons.mp hx with e | e
  · exact .inr (e ▸ h)
  · exact .inl e
/-- a new thing, not frozen -/
theorem Gx.new (a : Gx M G H G' H') (hp : H' p = none) : Gx M G H G' (upd H' p o) :=
  ⟨a.gg, same_new a.gh hp, fun x u hx e => by
    have := a.kp x u hx e
    rw [upd_ne (fun z => by rw [z, hp] at this; cases this)]
    exact this, fun x e => by
    by_cases hx : x = p
    · rw [hx, upd_same]; intro h; cases h
    · rw [upd_ne hx]; exact a.dom x e, a.fr⟩
/-- what is new is frozen -/
theorem Gx.frz (a : Gx M G H G' H') (hp : H' p = some o) (h0 : H p = none) : Gx M G H (upd G' p o) H' :=
  ⟨fun x u e => (show Same G' (upd G' p o) from fun b v q => by
    by_cases hb : b = p
    · subst hb
      rw [upd_same, ← hp]
      exact a.gh _ _ q
    · rw [upd_ne hb]
      exact q) _ _ (a.gg _ _ e), same_frz a.gh hp, a.kp, a.dom, fun x e => by
    by_cases hx : x = p
    · exact .inr (hx ▸ h0)
    · rw [upd_ne hx] at e; exact a.fr x e⟩
theorem Gx.old (a : Gx M G H G' H') (hp : H' p = none) : H p = none := by
  cases e : H p with
  | none => rfl
  | some u => exact absurd hp (a.dom p (by rw [e]; intro h; cases h))
/-- a new thing, frozen -/
theorem Gx.newF (a : Gx M G H G' H') (hp : H' p = none) : Gx M G H (upd G' p o) (upd H' p o) :=
  (a.new hp).frz upd_same (a.old hp)
/-- what is not frozen changes -/
theorem Gx.wr (a : Gx M G H G' H') (hG : G' p = none) (hm : p ∈ M ∨ H p = none) : Gx M G H G' (upd H' p o) :=
  ⟨a.gg, same_at a.gh hG, fun x u hx e => by
    have := a.kp x u hx e
    rw [upd_ne (fun z => by
      subst z
      rcases hm with hm | hm
      · exact hx hm
      · rw [hm] at e; cases e)]
    exact this, fun x e => by
    by_cases hx : x = p
    · rw [hx, upd_same]; intro h; cases h
    · rw [upd_ne hx]; exact a.dom x e, a.fr⟩
/-- what is not frozen and stands stays unfrozen -/
theorem Gx.unf (a : Gx M G H G' H') (hG : G p = none) (hH : H p ≠ none) : G' p = none := by
  cases e : G' p with
  | none => rfl
  | some u =>
    rcases a.fr p (by rw [e]; intro h; cases h) with z | z
    · exact absurd hG z
    · exact absurd z hH
end
section
variable {P : Program} {w : World} {K : PySem.W.Frag} {mg : Str → Option Value} {base : Heap}
/-- a def without defaults, by its body: a positional promise -/
theorem fnr {x qual : Str} {st : Stmt} {f : Addr} {N ps : List Str} {k : Nat} {sp : Sp} (F : IsDef K f x qual st []) (S : FnScope N ps (defScope st))
    (hb : ∀ (kV doc pm : Value) (an : Option Addr) (cdv ct : Value) (us : List Value), us.length = ps.length → bindArgs (PySem.W.fnOf x qual (defArgs st) (defBody st) (defScope st) .none kV doc pm an cdv ct) ⟨us, []⟩ = pure (ps.zip us))
    (len : ∀ vs H Q E, sp vs H Q E → vs.length = ps.length)
    (hbody : ∀ (cdv : Value) (A : Around) (outer : List Env) (s : Shared) (H : Hp) (vs : List V) (Q : VK) (E : XK), Room k (A.deeper (envOfC qual (defScope st) s.heap.objs.size f cdv)) → sp vs H Q E →
      ∃ t, PSs (cxOf CX0 P w K mg base N qual (defScope st) f cdv A outer s H E).nox (defBody st) t ∧ t { nx := fun _ H' => Q .non H', rt := Q } (start N vs) H) :
    FnR P w K mg base CX0 (k + 1) f sp := by
  obtain ⟨fd, F⟩ := F
  have z := (F.ok (CX := CX0) S len fun cdv A outer s H vs Q E hr h => (let ⟨t, h1, h2⟩ := hbody cdv A outer s H vs Q E hr h; ⟨t, h1.nox, h2⟩)).raw (F.bindsN hb) .nil
  exact z.imp fun vs H Q E h => by rw [List.append_nil]; exact h
theorem fnrX {x qual : Str} {st : Stmt} {f : Addr} {N ps : List Str} {k : Nat} {sp : Sp} (F : IsDef K f x qual st []) (S : FnScope N ps (defScope st))
    (hb : ∀ (kV doc pm : Value) (an : Option Addr) (cdv ct : Value) (us : List Value), us.length = ps.length → bindArgs (PySem.W.fnOf x qual (defArgs st) (defBody st) (defScope st) .none kV doc pm an cdv ct) ⟨us, []⟩ = pure (ps.zip us))
    (len : ∀ vs H Q E, sp vs H Q E → vs.length = ps.length)
    (hbody : ∀ (cdv : Value) (A : Around) (outer : List Env) (s : Shared) (H : Hp) (vs : List V) (Q : VK) (E : XK), Room k (A.deeper (envOfC qual (defScope st) s.heap.objs.size f cdv)) → sp vs H Q E →
      ∃ t, PSs (cxOf (L2.CX P w) P w K mg base N qual (defScope st) f cdv A outer s H E) (defBody st) t ∧ t { nx := fun _ H' => Q .non H', rt := Q } (start N vs) H) :
    FnR P w K mg base (L2.CX P w) (k + 1) f sp := by
  obtain ⟨fd, F⟩ := F
  have z := (F.ok (CX := L2.CX P w) S len hbody).raw (F.bindsN hb) .nil
  exact z.imp fun vs H Q E h => by rw [List.append_nil]; exact h
end
section
variable {X : Cx} {P0 : Program} {k : Nat} {sp : Sp} {e : Expr} {es : List Expr} {t : TA} {p1 pos : Pos} {x : Str}
/-- f(e ..), f a def of the module that lets nothing out -/
theorem cl (x : Str) (T : FX P0 X.K X.mg) (F : FnR X.prog X.w X.K X.mg X.base CX0 k (ga X.K x) sp) (hr : Room k X.A) (ha : PA X (e :: es) t) (hc : glL.contains x = true := by decide +kernel) (hg : Gl X x := by rfl) (hd : (x == ("__debug__" : Str)) = false := by decide)
    (he : starEach (e :: es) X.env = (false, eval e X.env) :: starEach es X.env := by rfl) (hpl : (backTo pos (starEach es X.env)).any (·.1) = false := by rfl) :
    PE X (.Call (.Name x p1) (e :: es) [] pos) (tCallR sp E0 t) := pe_callR F hr (T.kpg x hc) hg (T.glo x hc) pass0 ha hd he hpl
/-- a constant of the module -/
theorem gi (x : Str) (i : Int) (T : FX P0 X.K X.mg) (hc : inL.contains (x, i) = true := by decide +kernel) (hg : Gl X x := by rfl) (hd : (x == ("__debug__" : Str)) = false := by decide) : PE X (.Name x pos) (tC (.int i)) := by
  obtain ⟨u, h⟩ := T.int (x, i) hc
  exact pe_glob hg h ⟨_, rfl⟩ hd
/-- a class as a value -/
theorem gc (x : Str) (T : FX P0 X.K X.mg) (hc : glL.contains x = true := by decide +kernel) (hg : Gl X x := by rfl) (hd : (x == ("__debug__" : Str)) = false := by decide) : PE X (.Name x pos) (tC (.ref (ga X.K x))) :=
  pe_glob hg (T.glo x hc) rfl hd
/-- a built-in type as a value -/
theorem gt (x : Str) (T : String) (TT : FX P0 X.K X.mg) (hv : bootBuiltins x = some (.type T) := by rfl) (hc : frL.contains x = true := by decide +kernel) (hg : Gl X x := by rfl) (hn : x ≠ "__name__" := by decide) (hd : (x == ("__debug__" : Str)) = false := by decide) : PE X (.Name x pos) (tC (.ty T)) :=
  pe_bltn hg (TT.fre x hc) hv rfl hn hd
/-- a built-in function called -/
theorem cb (x : Str) {id : String} {r : List V → Hp → VK → Prop} (T : FX P0 X.K X.mg) (hcr : CallR X (.builtin id) r) (ha : PA X (e :: es) t) (hv : bootBuiltins x = some (.builtin id) := by rfl) (hc : frL.contains x = true := by decide +kernel) (hg : Gl X x := by rfl)
    (hn : x ≠ "__name__" := by decide) (hd : (x == ("__debug__" : Str)) = false := by decide) (he : starEach (e :: es) X.env = (false, eval e X.env) :: starEach es X.env := by rfl) (hpl : (backTo pos (starEach es X.env)).any (·.1) = false := by rfl) :
    PE X (.Call (.Name x p1) (e :: es) [] pos) (tCB r t) := pe_callB hcr hg (T.fre x hc) hv ha hn hd he hpl
theorem ct (x : Str) {id : String} {r : List V → Hp → VK → Prop} (T : FX P0 X.K X.mg) (hcr : CallR X (.type id) r) (ha : PA X (e :: es) t) (hv : bootBuiltins x = some (.type id) := by rfl) (hc : frL.contains x = true := by decide +kernel) (hg : Gl X x := by rfl)
    (hn : x ≠ "__name__" := by decide) (hd : (x == ("__debug__" : Str)) = false := by decide) (he : starEach (e :: es) X.env = (false, eval e X.env) :: starEach es X.env := by rfl) (hpl : (backTo pos (starEach es X.env)).any (·.1) = false := by rfl) :
    PE X (.Call (.Name x p1) (e :: es) [] pos) (tCB r t) := pe_callTy hcr hg (T.fre x hc) hv ha hn hd he hpl
end
end N1
set_option maxHeartbeats 1000000
/-! comprehensions that only make things -/
namespace N1
open PySem PySem.Spec PyProof.Rows L2
theorem same_tr {H H1 H2 : Hp} (a : Same H H1) (b : Same H1 H2) : Same H H2 := fun x o e => b _ _ (a _ _ e)
theorem Gx.same {M : List Addr} {G H G' H' H2 : Hp} (a : Gx M G H G' H') (s : Same H' H2) : Gx M G H G' H2 :=
  a.trans ⟨same_rfl, same_tr a.gh s, fun x o _ e => s _ _ e, fun x e => (by
    cases q : H' x with
    | none => exact absurd q e
    | some o => rw [s _ _ q]; intro h; cases h), fun x e => .inl e⟩
section
variable {J : It} {n : Nat} {G : Hp → Prop} {Y : Nat → Hp → V → Hp → Prop} {g : TG} {tt : TT} {te tk tv : TE} {vs : List Nat} {σ : L2.St} {H1 : Hp} {D : Addr} {Qd : Hp → Prop}
/-- f i: what the i-th turn appends, if anything -/
theorem lc_f (w : Walk J n G Y) (f : Nat → Option V) (hD : H1 D = none) (hn : n ≤ 100000) (hGs : ∀ H', Same H1 H' → G H')
    (hs : ∀ (i : Nat) (x : V) (H H' : Hp) (k : V → Hp → Prop) (k0 : Hp → Prop), i < n → Same H1 H → Y i H x H' → (∀ y H4, f i = some y → Same H H4 → k y H4) → (f i = none → ∀ H3, Same H H3 → k0 H3) →
      g x (wipe σ vs) H' fun σ2 H2 => wipe σ2 vs = wipe σ vs ∧ tt σ2 H2 fun b H3 => if b = true then te σ2 H3 k else k0 H3)
    (hd : ∀ H', Same H1 H' → H' D = some (.lst ((List.range n).filterMap f)) → Qd H') :
    ∃ W : Nat → Nat → Hp → Prop, (∃ m, W 0 m (upd H1 D (.lst []))) ∧ ∀ i m H, W i m H →
      (J.stop i H ∧ Qd H) ∨ (J.go i H ∧ ∃ Nx : Hp → Prop, (∀ H', Nx H' → ∃ m', m' < m ∧ W (i + 1) m' H') ∧ ∀ x H', J.yld i H x H' → g x (wipe σ vs) H' fun σ2 H2 => wipe σ2 vs = wipe σ vs ∧ tt σ2 H2 fun b H3 =>
        if b = true then te σ2 H3 fun y H4 => ∃ acc, H4 D = some (.lst acc) ∧ acc.length < sizeLine ∧ Nx (upd H4 D (.lst (acc ++ [y]))) else Nx H3) := by
  have up : ∀ (H : Hp) (o : HO), Same H1 H → Same H1 (upd H D o) := fun H o s => same_at s hD
  refine lc_it w (Pv := fun i H => Same H1 H ∧ H D = some (.lst ((List.range i).filterMap f))) ⟨up _ _ same_rfl, upd_same⟩ (fun i H _ h => hGs H h.1) ?_ fun H h => hd H h.1 h.2
  rintro i x H H' hi ⟨s, hL⟩ y
  have len : ((List.range i).filterMap f).length < sizeLine := by
    have := List.length_filterMap_le f (List.range i)
    rw [List.length_range] at this
    rw [sizeLine_eq]
    omega
  refine hs i x H H' _ _ hi s y (fun y H4 e z4 => ⟨_, z4 _ _ hL, len, up _ _ (same_tr s z4), ?_⟩) (fun e H3 z3 => ⟨same_tr s z3, ?_⟩)
  · rw [upd_same, List.range_succ, List.filterMap_append]
    simp [e]
  · rw [List.range_succ, List.filterMap_append]
    simp [e, z3 _ _ hL]
/-- a dict comprehension: f i what the i-th turn puts -/
theorem dc_f (w : Walk J n G Y) (f : Nat → Option (Key × V)) (hD : H1 D = none) (hn : n ≤ 100000) (hnd : (((List.range n).filterMap f).map (·.1)).Nodup) (hGs : ∀ H', Same H1 H' → G H')
    (hs : ∀ (i : Nat) (x : V) (H H' : Hp) (R : V → V → Hp → Prop) (k0 : Hp → Prop), i < n → Same H1 H → Y i H x H' → (∀ kk z H4, f i = some (kk, z) → Same H H4 → R (kV kk) z H4) → (f i = none → ∀ H3, Same H H3 → k0 H3) →
      g x (wipe σ vs) H' fun σ2 H2 => wipe σ2 vs = wipe σ vs ∧ tt σ2 H2 fun b H3 => if b = true then tk σ2 H3 fun y H4 => tv σ2 H4 fun z H5 => R y z H5 else k0 H3)
    (hd : ∀ H', Same H1 H' → H' D = some (.dK ((List.range n).filterMap f)) → Qd H') :
    ∃ W : Nat → Nat → Hp → Prop, (∃ m, W 0 m (upd H1 D (.dK []))) ∧ ∀ i m H, W i m H →
      (J.stop i H ∧ Qd H) ∨ (J.go i H ∧ ∃ Nx : Hp → Prop, (∀ H', Nx H' → ∃ m', m' < m ∧ W (i + 1) m' H') ∧ ∀ x H', J.yld i H x H' → g x (wipe σ vs) H' fun σ2 H2 => wipe σ2 vs = wipe σ vs ∧ tt σ2 H2 fun b H3 =>
        if b = true then tk σ2 H3 fun y H4 => tv σ2 H4 fun z H5 => ∃ kvs k, y = kV k ∧ H5 D = some (.dK kvs) ∧ kvs.length < sizeLine ∧ Nx (upd H5 D (.dK (putK kvs k z))) else Nx H3) := by
  have up : ∀ (H : Hp) (o : HO), Same H1 H → Same H1 (upd H D o) := fun H o s => same_at s hD
  refine ⟨fun i m H => m = n - i ∧ i ≤ n ∧ Same H1 H ∧ H D = some (.dK ((List.range i).filterMap f)), ⟨n, by simp, Nat.zero_le _, up _ _ same_rfl, upd_same⟩, ?_⟩
  rintro i m H ⟨rfl, hi, s, hL⟩
  have q := hGs H s
  by_cases hlt : i < n
  · refine .inr ⟨w.goes i H hlt q, fun H => Same H1 H ∧ H D = some (.dK ((List.range (i + 1)).filterMap f)), fun H' p' => ⟨n - (i + 1), by omega, rfl, hlt, p'⟩, fun x H' y => ?_⟩
    have len : ((List.range i).filterMap f).length < sizeLine := by
      have := List.length_filterMap_le f (List.range i)
      rw [List.length_range] at this
      rw [sizeLine_eq]
      omega
    have es : (List.range (i + 1)).filterMap f = (List.range i).filterMap f ++ (f i).toList := by
      rw [List.range_succ, List.filterMap_append]
      cases hf : f i <;> simp [hf]
    refine hs i x H H' _ _ hlt s (w.yields i H x H' hlt q y) (fun kk z H5 ef s5 => ⟨_, kk, rfl, s5 _ _ hL, len, up _ _ (same_tr s s5), ?_⟩) fun ef H3 s3 => ⟨same_tr s s3, by rw [es, ef, s3 _ _ hL]; simp⟩
    rw [upd_same, es, ef]
    have hnew : kk ∉ ((List.range i).filterMap f).map (·.1) := by
      have h2 : (List.range n).filterMap f = ((List.range i).filterMap f ++ (f i).toList) ++ ((List.range' (i + 1) (n - (i + 1))).filterMap f) := by
        rw [← es, ← List.filterMap_append]
        congr 1
        have e1 : n = (i + 1) + (n - (i + 1)) := by omega
        conv => lhs; rw [e1]
        rw [List.range_add, List.range'_eq_map_range]
      rw [h2, ef, List.map_append, List.map_append] at hnd
      have h3 := (List.nodup_append.mp (List.nodup_append.mp hnd).1).2.2
      intro hm
      exact h3 _ hm _ (by simp) rfl
    rw [putK_new]
    · rfl
    · cases hv : valV ((List.range i).filterMap f) kk with
      | none => rfl
      | some u => exact absurd (valV_in hv) hnew
  · have e : i = n := by omega
    subst e
    exact .inl ⟨w.stops H q, hd H s hL⟩
/-- two clauses: f i what the i-th outer turn appends -/
theorem lc2_f {wi1 : TI} {g1 : TG} {tt1 : TT} {vs1 : List Nat} (w : Walk J n G Y) (f : Nat → List V) (hD : H1 D = none) (hGs : ∀ H', Same H1 H' → G H')
    (hs : ∀ (i : Nat) (x : V) (H H' : Hp) (acc : List V) (Nx : Hp → Prop), i < n → Same H1 H → H D = some (.lst acc) → acc = (List.range i).flatMap f → Y i H x H' → (∀ H5, Same H1 H5 → H5 D = some (.lst (acc ++ f i)) → Nx H5) →
      g x (wipe σ vs) H' fun σ2 H2 => wipe σ2 vs = wipe σ vs ∧ tt σ2 H2 fun b H3 =>
        if b = true then wi1 σ2 H3 fun J1 H4 => ∃ W1 : Nat → Nat → Hp → Prop, (∃ m, W1 0 m H4) ∧ ∀ j k H, W1 j k H →
          (J1.stop j H ∧ Nx H) ∨ (J1.go j H ∧ ∃ Nx1 : Hp → Prop, (∀ H', Nx1 H' → ∃ k', k' < k ∧ W1 (j + 1) k' H') ∧ ∀ x H', J1.yld j H x H' → g1 x (wipe σ2 vs1) H' fun σ3 H5 => wipe σ3 vs1 = wipe σ2 vs1 ∧ tt1 σ3 H5 fun b H6 =>
            if b = true then te σ3 H6 fun y H7 => ∃ acc, H7 D = some (.lst acc) ∧ acc.length < sizeLine ∧ Nx1 (upd H7 D (.lst (acc ++ [y]))) else Nx1 H6)
        else Nx H3)
    (hd : ∀ H', Same H1 H' → H' D = some (.lst ((List.range n).flatMap f)) → Qd H') :
    ∃ W : Nat → Nat → Hp → Prop, (∃ m, W 0 m (upd H1 D (.lst []))) ∧ ∀ i m H, W i m H →
      (J.stop i H ∧ Qd H) ∨ (J.go i H ∧ ∃ Nx : Hp → Prop, (∀ H', Nx H' → ∃ m', m' < m ∧ W (i + 1) m' H') ∧ ∀ x H', J.yld i H x H' → g x (wipe σ vs) H' fun σ2 H2 => wipe σ2 vs = wipe σ vs ∧ tt σ2 H2 fun b H3 =>
        if b = true then wi1 σ2 H3 fun J1 H4 => ∃ W1 : Nat → Nat → Hp → Prop, (∃ m, W1 0 m H4) ∧ ∀ j k H, W1 j k H →
          (J1.stop j H ∧ Nx H) ∨ (J1.go j H ∧ ∃ Nx1 : Hp → Prop, (∀ H', Nx1 H' → ∃ k', k' < k ∧ W1 (j + 1) k' H') ∧ ∀ x H', J1.yld j H x H' → g1 x (wipe σ2 vs1) H' fun σ3 H5 => wipe σ3 vs1 = wipe σ2 vs1 ∧ tt1 σ3 H5 fun b H6 =>
            if b = true then te σ3 H6 fun y H7 => ∃ acc, H7 D = some (.lst acc) ∧ acc.length < sizeLine ∧ Nx1 (upd H7 D (.lst (acc ++ [y]))) else Nx1 H6)
        else Nx H3) := by
  refine ⟨fun i m H => m = n - i ∧ i ≤ n ∧ Same H1 H ∧ H D = some (.lst ((List.range i).flatMap f)), ⟨n, by simp, Nat.zero_le _, same_at same_rfl hD, upd_same⟩, ?_⟩
  rintro i m H ⟨rfl, hi, s, hL⟩
  have q := hGs H s
  by_cases hlt : i < n
  · refine .inr ⟨w.goes i H hlt q, fun H => Same H1 H ∧ H D = some (.lst ((List.range (i + 1)).flatMap f)), fun H' p' => ⟨n - (i + 1), by omega, rfl, hlt, p'⟩, fun x H' y => ?_⟩
    exact hs i x H H' _ _ hlt s hL rfl (w.yields i H x H' hlt q y) fun H5 s5 e => ⟨s5, by rw [e, List.range_succ, List.flatMap_append]; simp⟩
  · have e : i = n := by omega
    subst e
    exact .inl ⟨w.stops H q, hd H s hL⟩
/-- the inner loop -/
theorem in_it {H4 : Hp} {Nx : Hp → Prop} {g1 : TG} {tt1 : TT} {vs1 : List Nat} {σ2 : L2.St} (w : Walk J n G Y) (Pv : Nat → Hp → Prop) (h0 : Pv 0 H4) (hG : ∀ j H, j ≤ n → Pv j H → G H) (T : (L2.St → Hp → (Hp → Prop) → Prop))
    (hs : ∀ j x H H', j < n → Pv j H → Y j H x H' → g1 x (wipe σ2 vs1) H' fun σ3 H5 => wipe σ3 vs1 = wipe σ2 vs1 ∧ tt1 σ3 H5 fun b H6 => if b = true then T σ3 H6 (Pv (j + 1)) else Pv (j + 1) H6) (hd : ∀ H, Pv n H → Nx H) :
    ∃ W1 : Nat → Nat → Hp → Prop, (∃ m, W1 0 m H4) ∧ ∀ j k H, W1 j k H →
      (J.stop j H ∧ Nx H) ∨ (J.go j H ∧ ∃ Nx1 : Hp → Prop, (∀ H', Nx1 H' → ∃ k', k' < k ∧ W1 (j + 1) k' H') ∧ ∀ x H', J.yld j H x H' → g1 x (wipe σ2 vs1) H' fun σ3 H5 => wipe σ3 vs1 = wipe σ2 vs1 ∧ tt1 σ3 H5 fun b H6 =>
        if b = true then T σ3 H6 Nx1 else Nx1 H6) := by
  refine ⟨fun j k H => k = n - j ∧ j ≤ n ∧ Pv j H, ⟨n, by simp, Nat.zero_le _, h0⟩, ?_⟩
  rintro i m H ⟨rfl, hi, p⟩
  have q := hG i H hi p
  by_cases hlt : i < n
  · exact .inr ⟨w.goes i H hlt q, Pv (i + 1), fun H' p' => ⟨n - (i + 1), by omega, rfl, hlt, p'⟩, fun x H' y => hs i x H H' hlt p (w.yields i H x H' hlt q y)⟩
  · have e : i = n := by omega
    subst e
    exact .inl ⟨w.stops H q, hd H p⟩
end
end N1
set_option maxHeartbeats 1000000
/-! checks -/
namespace N1
open PySem PySem.Spec PyProof.Rows L2
def spIsInt : Sp := fun vs H Q _ => ∃ n : Int, vs = [.int n] ∧ Q (.bl true) H
def spBetw : Sp := fun vs H Q _ => ∃ n a b : Int, vs = [.int n, .int a, .int b] ∧ Q (.bl (decide (a ≤ n) && decide (n ≤ b))) H
def spNum : Sp := fun vs H Q _ => ∃ n : Int, vs = [.int n] ∧ Q (.bl (decide (0 ≤ n) && decide (n ≤ 1000000000000))) H
section
variable {P : Program} {w : World} {K : PySem.W.Frag} {mg : Str → Option Value} {base : Heap}
theorem ok_is_integer (T : FX P K mg) : FnR P w K mg base CX0 1 (ga K "is_integer") spIsInt := by
  refine fnr T.f_is_integer sc_is_integer (fun _ _ _ _ _ _ us hl => match us, hl with | [_], _ => rfl) (fun vs H Q E h => ?_) (fun cdv A outer s H vs Q E hr h => ?_)
  · obtain ⟨n, rfl, _⟩ := h
    rfl
  · obtain ⟨n, rfl, k⟩ := h
    refine ⟨_, pss_one (ps_ret (pe_and (cb "isinstance" T call_isi (pa_cons (pv 0) (pa_cons (gt "int" "int" T) pa_nil))) (pe_one (pe_not (cb "isinstance" T call_isi (pa_cons (pv 0) (pa_cons (gt "bool" "bool" T) pa_nil))))))), ?_⟩
    refine ⟨_, rfl, _, _, _, _, true, rfl, .ty _, .base (.int n), kit_ty (by decide +kernel), _, rfl, ?_⟩
    refine ⟨_, rfl, _, _, _, _, false, rfl, .ty _, .base (.int n), kit_ty (by decide +kernel), _, rfl, k⟩
theorem ok_is_between (T : FX P K mg) : FnR P w K mg base CX0 2 (ga K "is_between") spBetw := by
  refine fnr T.f_is_between sc_is_between (fun _ _ _ _ _ _ us hl => match us, hl with | [_, _, _], _ => rfl) (fun vs H Q E h => ?_) (fun cdv A outer s H vs Q E hr h => ?_)
  · obtain ⟨n, a, b, rfl, _⟩ := h
    rfl
  · obtain ⟨n, a, b, rfl, k⟩ := h
    refine ⟨_, pss_one (ps_ret (pe_and (cl "is_integer" T (ok_is_integer T) hr (pa_cons (pv 0) pa_nil)) (pe_one (pe_chain op_le op_le (pv 1) (pv 0) (pv 2))))), ?_⟩
    refine ⟨_, rfl, n, rfl, true, rfl, ?_⟩
    refine ⟨_, rfl, _, rfl, _, _, rfl, rfl, _, rfl, ?_⟩
    cases h1 : decide (a ≤ n)
    · rw [h1] at k
      exact k
    · rw [h1] at k
      exact ⟨_, rfl, _, _, rfl, rfl, k⟩
theorem ok_is_number (T : FX P K mg) : FnR P w K mg base CX0 3 (ga K "is_number") spNum := by
  refine fnr T.f_is_number sc_is_number (fun _ _ _ _ _ _ us hl => match us, hl with | [_], _ => rfl) (fun vs H Q E h => ?_) (fun cdv A outer s H vs Q E hr h => ?_)
  · obtain ⟨n, rfl, _⟩ := h
    rfl
  · obtain ⟨n, rfl, k⟩ := h
    refine ⟨_, pss_one (ps_ret (cl "is_between" T (ok_is_between T) hr (pa_cons (pv 0) (pa_cons pe_int (pa_cons (gi "MOST_NUMBER" 1000000000000 T) pa_nil))))), ?_⟩
    exact ⟨_, rfl, n, _, _, rfl, k⟩
end
end N1
set_option maxHeartbeats 1000000
namespace N1
open PySem PySem.Spec PyProof.Rows L2
/-- a name that stands -/
def NameOk (x : Str) : Prop := 1 ≤ x.length ∧ x.length ≤ 8 ∧ ∀ c ∈ x.cps.toList, c ∈ ("abcdefghijklmnopqrstuvwxyz" : Str).cps.toList
instance (x : Str) : Decidable (NameOk x) := by unfold NameOk; exact inferInstance
theorem NameOk.sok {x : Str} (h : NameOk x) : PyData.strOk x = true := by
  have z : ∀ c ∈ ("abcdefghijklmnopqrstuvwxyz" : Str).cps.toList, c < 0x110000 := by decide +kernel
  unfold PyData.strOk
  rw [Array.all_eq_true]
  intro i hi
  have := h.2.2 x.cps[i] (Array.getElem_mem_toList hi)
  simpa using z _ this
theorem canLayS : ∀ {xs : List Str}, (∀ x ∈ xs, PyData.strOk x = true) → PyData.canLayAll0 (xs.map PyData.str) = true
  | [], _ => by simp [PyData.canLayAll0]
  | x :: xs, h => by
    rw [List.map_cons, PyData.canLayAll0, canLayS fun y hy => h y (List.mem_cons_of_mem _ hy)]
    simp only [PyData.canLay0, h x List.mem_cons_self, Bool.and_self]
theorem depthS : ∀ xs : List Str, PyData.depthAll (xs.map PyData.str) = 0
  | [] => by simp [PyData.depthAll]
  | x :: xs => by simp [PyData.depthAll, PyData.depth, depthS xs]
theorem shapedS {xs : List Str} (h : ∀ x ∈ xs, PyData.strOk x = true) : SeqAt.shaped (.list (xs.map PyData.str)) = true := by
  unfold SeqAt.shaped
  rw [show PyData.canLay0 (.list (xs.map PyData.str)) = true from by rw [PyData.canLay0]; exact canLayS h]
  simp [PyData.depth, depthS]
theorem eqvS : ∀ xs ys : List Str, PyData.eqvAll (xs.map PyData.str) (ys.map PyData.str) = decide (xs = ys)
  | [], [] => by simp [PyData.eqvAll]
  | [], y :: ys => by simp [PyData.eqvAll]
  | x :: xs, [] => by simp [PyData.eqvAll]
  | x :: xs, y :: ys => by
    simp only [List.map_cons, PyData.eqvAll, PyData.eqv, eqvS xs ys]
    by_cases h : x = y
    · subst h; simp
    · simp [h]
theorem dpS {K : PySem.W.Frag} {H : Hp} : ∀ xs : List Str, DpAll K H (xs.map V.str) (xs.map PyData.str)
  | [] => .nil
  | x :: xs => .cons (.str x) (dpS xs)
def spName : Sp := fun vs H Q _ => ∃ x : Str, vs = [.str x] ∧ NameOk x ∧ ∀ H', Same H H' → Q (.bl true) H'
def spRow : Sp := fun vs H Q _ => ∃ a xs, vs = [.ref a] ∧ H a = some (.lst xs) ∧ ∀ H', Same H H' → Q (.bl true) H'
section
variable {P : Program} {w : World} {K : PySem.W.Frag} {mg : Str → Option Value} {base : Heap}
theorem ok_is_name (T : FX P K mg) : FnR P w K mg base CX0 1 (ga K "is_name") spName := by
  refine fnr T.f_is_name sc_is_name (fun _ _ _ _ _ _ us hl => match us, hl with | [_], _ => rfl) (fun vs H Q E h => ?_) (fun cdv A outer s H vs Q E hr h => ?_)
  · obtain ⟨n, rfl, _⟩ := h
    rfl
  · obtain ⟨x, rfl, ⟨h1, h8, hc⟩, k⟩ := h
    obtain ⟨tl, hle⟩ := T.let_
    refine ⟨_, pss_cons (ps_if (pw_or (pt_not (pt_val (cb "isinstance" T call_isi (pa_cons (pv 0) (pa_cons (gt "str" "str" T) pa_nil))))) (pw_or1 (pt_not (pt_chain op_le op_le pe_int (cb "len" T call_len (pa_cons (pv 0) pa_nil)) pe_int)))).pt pss_never pss_nil)
      (pss_one (ps_ret (cb "all" T (cr_all rfl) (pa_cons (pe_lc (own := [("sign", 1)]) (g := gName 1) (tt := tYes) rfl sc_is_name.nd (pi_str (pv 0)) (blkOk_by (N := ["value", "sign"]) (sc := defScope d_is_name) (by decide +kernel))
        (fun _ _ _ _ _ => pg_name (i := 1) sc_is_name.nd rfl (Or.inl rfl)) (fun _ _ _ _ _ => pts_nil) (fun _ _ _ _ _ => pe_cmpR op_in_sign (pv 1) (pe_glob (v := .str "abcdefghijklmnopqrstuvwxyz") rfl hle ⟨_, rfl⟩) rfl)) pa_nil)))), ?_⟩
    refine ⟨_, rfl, _, _, _, _, true, rfl, .ty _, .base (.str x), kit_ty (by decide +kernel), _, rfl, ?_⟩
    refine ⟨_, rfl, _, x.length, rfl, ⟨by rw [sizeLine_eq]; omega, rfl⟩, _, _, rfl, rfl, _, rfl, ?_⟩
    have e1 : decide ((1 : Int) ≤ (x.length : Int)) = true := by simp; omega
    have e8 : decide ((x.length : Int) ≤ 8) = true := by simp; omega
    rw [e1]
    refine ⟨_, _, rfl, rfl, _, rfl, ?_⟩
    rw [e8]
    refine ⟨_, rfl, x, rfl, fun D hD => lc_f walk_str (fun i => if i < x.cps.size then some (.bl true) else none) hD (by have : x.cps.size = x.length := rfl; omega) (fun _ _ => trivial) ?_ ?_⟩
    · rintro i v H1 H' kk k0 hi s ⟨rfl, c, hcx, rfl⟩ h2 h3
      refine ⟨rfl, _, rfl, _, _, rfl, rfl, ?_⟩
      have hm : c ∈ x.cps.toList := by
        obtain ⟨hlt, e⟩ := Array.getElem?_eq_some_iff.mp hcx
        rw [← e]
        exact Array.getElem_mem_toList hlt
      have e2 : decide (c ∈ ("abcdefghijklmnopqrstuvwxyz" : Str).cps.toList) = true := decide_eq_true (hc c hm)
      rw [e2]
      exact h2 _ _ (by simp [hi]) same_rfl
    · intro H' s hL
      refine ⟨_, List.replicate x.cps.size true, rfl, SqL.of ?_, ?_⟩
      · rw [hL]
        congr 2
        have : ∀ m, m ≤ x.cps.size → (List.range m).filterMap (fun i => if i < x.cps.size then some (V.bl true) else none) = (List.replicate m true).map V.bl := by
          intro m
          induction m with
          | zero => intro _; rfl
          | succ m ih =>
            intro hm
            rw [List.range_succ, List.filterMap_append, ih (by omega)]
            have : m < x.cps.size := by omega
            rw [List.replicate_succ', List.map_append]
            simp [this]
        exact this _ (Nat.le_refl _)
      · have e3 : (List.replicate x.cps.size true).all id = true := by simp
        rw [e3]
        exact k _ s
theorem ok_is_row (T : FX P K mg) : FnR P w K mg base CX0 1 (ga K "is_row") spRow := by
  refine fnr T.f_is_row sc_is_row (fun _ _ _ _ _ _ us hl => match us, hl with | [_], _ => rfl) (fun vs H Q E h => ?_) (fun cdv A outer s H vs Q E hr h => ?_)
  · obtain ⟨a, xs, rfl, _⟩ := h
    rfl
  · obtain ⟨a, xs, rfl, ha, k⟩ := h
    refine ⟨_, pss_one (ps_ret (cb "isinstance" T call_isiT (pa_cons (pv 0) (pa_cons (pe_tup (pa_cons (gt "list" "list" T) (pa_cons (gt "tuple" "tuple" T) pa_nil))) pa_nil)))), ?_⟩
    refine ⟨_, rfl, (by show 2 ≤ sizeLine; decide), fun p hp => ?_⟩
    have hne : a ≠ p := ne_of_none ha hp
    refine ⟨_, p, _, _, _, true, rfl, upd_same, .cons (.ty _) (.cons (.ty _) .nil), .base (.lst (by rw [upd_ne hne]; exact ha)), ?_, k _ (same_new same_rfl hp)⟩
    exact kitAny_cons (b := true) (kit_ty (by decide +kernel)) (fun z => by cases z) (fun _ => rfl)
end
end N1
set_option maxHeartbeats 1000000
namespace N1
open PySem PySem.Spec PyProof.Rows L2
abbrev cDay (K : PySem.W.Frag) := ga K "Day"
abbrev cRun (K : PySem.W.Frag) := ga K "Run"
abbrev cStay (K : PySem.W.Frag) := ga K "Stay"
abbrev cTab (K : PySem.W.Frag) := ga K "Table"
abbrev cPau (K : PySem.W.Frag) := ga K "Pauses"
abbrev cBrd (K : PySem.W.Frag) := ga K "Board"
theorem putF_ne {f g : Str} {v u : V} {r : List (Str × V)} (h : ¬ g = f) : putF f v ((g, u) :: r) = (g, u) :: putF f v r := by
  show (if g = f then _ else _) = _
  rw [if_neg h]
theorem putF_eq {f : Str} {v u : V} {r : List (Str × V)} : putF f v ((f, u) :: r) = (f, v) :: r := by
  show (if f = f then _ else _) = _
  rw [if_pos rfl]
theorem len_putF (f : Str) (v : V) : ∀ fs : List (Str × V), (putF f v fs).length ≤ fs.length + 1
  | [] => Nat.le_refl _
  | (g, u) :: r => by
    by_cases h : g = f
    · subst h
      rw [putF_eq]
      simp
    · rw [putF_ne h]
      have := len_putF f v r
      simp only [List.length_cons]
      omega
theorem lt_putF {f : Str} {v : V} {fs : List (Str × V)} {k : Nat} (h : fs.length < k) : (putF f v fs).length < k + 1 := by
  have := len_putF f v fs
  omega
/-- a trip -/
structure TR where
  run : Bool
  name : Str
  start : Str
  leaves : Int
  takes : Int
  goal : Str
deriving DecidableEq
def tfs (t : TR) : List (Str × V) := [("name", .str t.name), ("start", .str t.start), ("leaves", .int t.leaves), ("takes", .int t.takes), ("goal", .str t.goal)]
def cTR (K : PySem.W.Frag) (t : TR) : Addr := if t.run then cRun K else cStay K
/-- a trip that stands -/
structure TR.Ok (t : TR) : Prop where
  n : NameOk t.name
  s : NameOk t.start
  g : NameOk t.goal
  l0 : 0 ≤ t.leaves
  l1 : t.leaves ≤ 1000000000000
  t0 : 1 ≤ t.takes
  t1 : t.takes ≤ 1000000000000
  st : t.run = false → t.start = t.goal
def TripAt (K : PySem.W.Frag) (G : Hp) (a : Addr) (t : TR) : Prop := ∃ dx, G a = some (.ins (cTR K t) dx (tfs t))
def DayAt (K : PySem.W.Frag) (G : Hp) (a : Addr) (n : Int) : Prop := ∃ dx, G a = some (.ins (cDay K) dx [("length", .int n)])
theorem TripAt.up {K : PySem.W.Frag} {G G' : Hp} {a : Addr} {t : TR} (s : Same G G') (h : TripAt K G a t) : TripAt K G' a t := let ⟨dx, e⟩ := h; ⟨dx, s _ _ e⟩
theorem DayAt.up {K : PySem.W.Frag} {G G' : Hp} {a : Addr} {n : Int} (s : Same G G') (h : DayAt K G a n) : DayAt K G' a n := let ⟨dx, e⟩ := h; ⟨dx, s _ _ e⟩
theorem lk_name (t : TR) : (tfs t).lookup ("name" : Str) = some (.str t.name) := by rfl
theorem lk_start (t : TR) : (tfs t).lookup ("start" : Str) = some (.str t.start) := by rfl
theorem lk_leaves (t : TR) : (tfs t).lookup ("leaves" : Str) = some (.int t.leaves) := by rfl
theorem lk_takes (t : TR) : (tfs t).lookup ("takes" : Str) = some (.int t.takes) := by rfl
theorem lk_goal (t : TR) : (tfs t).lookup ("goal" : Str) = some (.str t.goal) := by rfl
/-- a new instance: what its __init__ has made of it is frozen -/
theorem Gx.made {M : List Addr} {G0 H0 G H H' : Hp} {x dx C : Addr} {o u : HO} {fs : List (Str × V)} (a : Gx M G0 H0 G H) (hx : H x = none) (hdx : H dx = none) (hne : dx ≠ x)
    (k : ∀ b v, b ≠ x → (upd (upd H dx u) x (.ins C dx fs)) b = some v → H' b = some v) (ho : H' x = some o) : Gx M G0 H0 (upd G x o) H' := by
  have old : ∀ b v, H b = some v → H' b = some v := fun b v e => by
    have h1 : b ≠ x := fun z => by rw [z, hx] at e; cases e
    have h2 : b ≠ dx := fun z => by rw [z, hdx] at e; cases e
    exact k b v h1 (by rw [upd_ne h1, upd_ne h2]; exact e)
  refine a.trans ⟨same_self' (same_non a.gh hx), fun b v e => ?_, fun b v _ e => old b v e, fun b e => ?_, fun b e => ?_⟩
  · by_cases hb : b = x
    · subst hb
      rw [upd_same] at e
      rw [← e]
      exact ho
    · rw [upd_ne hb] at e
      exact old b v (a.gh b v e)
  · cases q : H b with
    | none => exact absurd q e
    | some v => rw [old b v q]; intro z; cases z
  · by_cases hb : b = x
    · exact .inr (hb ▸ hx)
    · rw [upd_ne hb] at e
      exact .inl e
/-- an __init__ that makes fields fs of an empty instance -/
def IniOk (x : Addr) (C dx : Addr) (fs : List (Str × V)) (H : Hp) (Q : VK) : Prop := ∀ H' : Hp, (∀ b v, b ≠ x → H b = some v → H' b = some v) → H' x = some (.ins C dx fs) → Q .non H'
def spDayInit (K : PySem.W.Frag) : Sp := fun vs H Q _ => ∃ (x dx : Addr) (n : Int), vs = [.ref x, .int n] ∧ 1 ≤ n ∧ n ≤ 1000000000000 ∧ H x = some (.ins (cDay K) dx []) ∧ IniOk x (cDay K) dx [("length", .int n)] H Q
def spDayEq (K : PySem.W.Frag) : Sp := fun vs H Q _ => ∃ (a b : Addr) (n m : Int), vs = [.ref a, .ref b] ∧ DayAt K H a n ∧ DayAt K H b m ∧ Q (.bl (decide (n = m))) H
section
variable {P : Program} {w : World} {K : PySem.W.Frag} {mg : Str → Option Value} {base : Heap}
theorem ok_DayInit (T : FX P K mg) : FnR P w K mg base CX0 3 (ini K "Day") (spDayInit K) := by
  refine fnr T.f_DayInit sc_DayInit (fun _ _ _ _ _ _ us hl => match us, hl with | [_, _], _ => rfl) (fun vs H Q E h => ?_) (fun cdv A outer s H vs Q E hr h => ?_)
  · obtain ⟨x, dx, n, rfl, _⟩ := h
    rfl
  · obtain ⟨x, dx, n, rfl, h1, h2, hx, k⟩ := h
    refine ⟨_, pss_cons (ps_if (pt_not (pt_val (cl "is_between" T (ok_is_between T) hr (pa_cons (pv 1) (pa_cons pe_int (pa_cons (gi "MOST_LENGTH" 1000000000000 T) pa_nil)))))) pss_never pss_nil) (pss_one (ps_fld (pv 0) (pv 1) rfl)), ?_⟩
    refine ⟨_, rfl, n, _, _, rfl, _, rfl, ?_⟩
    have e : (decide ((1 : Int) ≤ n) && decide (n ≤ 1000000000000)) = true := by simp [h1, h2]
    rw [e]
    refine ⟨_, rfl, _, rfl, x, _, dx, _, rfl, hx, T.cls "Day" (by decide +kernel), T.noat ("Day", "length") (by decide +kernel), by decide, ?_⟩
    exact k _ (fun b v hb e => by rw [upd_ne hb]; exact e) upd_same
theorem isi_ok (T : FX P K mg) {C D : Addr} {H : Hp} {a dx : Addr} {fs : List (Str × V)} (I : IsiC K C D) (c : Cls K C) (e : H a = some (.ins C dx fs)) : TyX K H (.ref a) (.ref C) := .base (.ins e c I.ha T.gcn T.gct I.hm)
theorem ok_DayEq (T : FX P K mg) : FnR P w K mg base CX0 1 (ma K (ga K "Day") "__eq__") (spDayEq K) := by
  refine fnr T.f_DayEq sc_DayEq (fun _ _ _ _ _ _ us hl => match us, hl with | [_, _], _ => rfl) (fun vs H Q E h => ?_) (fun cdv A outer s H vs Q E hr h => ?_)
  · obtain ⟨a, b, n, m, rfl, _⟩ := h
    rfl
  · obtain ⟨a, b, n, m, rfl, ⟨dx, ha⟩, ⟨dy, hb⟩, k⟩ := h
    have cD := T.cls "Day" (by decide +kernel)
    have nL := T.noat ("Day", "length") (by decide +kernel)
    refine ⟨_, pss_one (ps_ret (pe_and (cb "isinstance" T call_isi (pa_cons (pv 1) (pa_cons (gc "Day" T) pa_nil))) (pe_one (pe_cmpR op_eq (pe_fld (pv 0) rfl) (pe_fld (pv 1) rfl) (nomark _))))), ?_⟩
    refine ⟨_, rfl, _, _, _, _, true, rfl, .own _, isi_ok T T.isD cD hb, T.isD.k1, _, rfl, ?_⟩
    refine ⟨_, rfl, a, _, dx, _, _, rfl, ha, cD, nL, rfl, ?_⟩
    refine ⟨_, rfl, b, _, dy, _, _, rfl, hb, cD, nL, rfl, rfl, ?_⟩
    have e : decide (V.int n = V.int m) = decide (n = m) := by simp
    rw [e]
    exact k
end
end N1
set_option maxHeartbeats 1000000
namespace N1
open PySem PySem.Spec PyProof.Rows L2
/-- a class whose instances are trips -/
structure TrC (K : PySem.W.Frag) (C : Addr) : Prop where
  c : Cls K C
  n1 : NoAttr K C "name"
  n2 : NoAttr K C "start"
  n3 : NoAttr K C "leaves"
  n4 : NoAttr K C "takes"
  n5 : NoAttr K C "goal"
theorem trR {P : Program} {K : PySem.W.Frag} {mg : Str → Option Value} (T : FX P K mg) : TrC K (cRun K) := ⟨T.cls "Run" (by decide +kernel), T.noat ("Run", "name") (by decide +kernel), T.noat ("Run", "start") (by decide +kernel), T.noat ("Run", "leaves") (by decide +kernel), T.noat ("Run", "takes") (by decide +kernel), T.noat ("Run", "goal") (by decide +kernel)⟩
theorem trS {P : Program} {K : PySem.W.Frag} {mg : Str → Option Value} (T : FX P K mg) : TrC K (cStay K) := ⟨T.cls "Stay" (by decide +kernel), T.noat ("Stay", "name") (by decide +kernel), T.noat ("Stay", "start") (by decide +kernel), T.noat ("Stay", "leaves") (by decide +kernel), T.noat ("Stay", "takes") (by decide +kernel), T.noat ("Stay", "goal") (by decide +kernel)⟩
theorem trT {P : Program} {K : PySem.W.Frag} {mg : Str → Option Value} (T : FX P K mg) (t : TR) : TrC K (cTR K t) := by
  unfold cTR
  cases t.run
  · exact trS T
  · exact trR T
/-- the five fields of a trip, whatever its kind -/
structure T5 (n s : Str) (l t : Int) (g : Str) : Prop where
  n : NameOk n
  s : NameOk s
  g : NameOk g
  l0 : 0 ≤ l
  l1 : l ≤ 1000000000000
  t0 : 1 ≤ t
  t1 : t ≤ 1000000000000
def f5 (n s : Str) (l t : Int) (g : Str) : List (Str × V) := [("name", .str n), ("start", .str s), ("leaves", .int l), ("takes", .int t), ("goal", .str g)]
def spTripInit (K : PySem.W.Frag) : Sp := fun vs H Q _ => ∃ (x dx C : Addr) (n s : Str) (l t : Int) (g : Str), vs = [.ref x, .str n, .str s, .int l, .int t, .str g] ∧ T5 n s l t g ∧ TrC K C ∧ H x = some (.ins C dx []) ∧ IniOk x C dx (f5 n s l t g) H Q
def spRunInit (K : PySem.W.Frag) : Sp := fun vs H Q _ => ∃ (x dx : Addr) (n s : Str) (l t : Int) (g : Str), vs = [.ref x, .str n, .str s, .int l, .int t, .str g] ∧ T5 n s l t g ∧ H x = some (.ins (cRun K) dx []) ∧ IniOk x (cRun K) dx (f5 n s l t g) H Q
def spStayInit (K : PySem.W.Frag) : Sp := fun vs H Q _ => ∃ (x dx : Addr) (n s : Str) (l t : Int), vs = [.ref x, .str n, .str s, .int l, .int t] ∧ T5 n s l t s ∧ H x = some (.ins (cStay K) dx []) ∧ IniOk x (cStay K) dx (f5 n s l t s) H Q
section
variable {P : Program} {w : World} {K : PySem.W.Frag} {mg : Str → Option Value} {base : Heap}
theorem ok_TripInit (T : FX P K mg) : FnR P w K mg base CX0 4 (ini K "Trip") (spTripInit K) := by
  refine fnr T.f_TripInit sc_TripInit (fun _ _ _ _ _ _ us hl => match us, hl with | [_, _, _, _, _, _], _ => rfl) (fun vs H Q E h => ?_) (fun cdv A outer s H vs Q E hr h => ?_)
  · obtain ⟨x, dx, C, n, s, l, t, g, rfl, _⟩ := h
    rfl
  · obtain ⟨x, dx, C, n, z, l, t, g, rfl, ok, c, hx, k⟩ := h
    have hr1 : Room 1 _ := hr.mono (by decide)
    have hr2 : Room 2 _ := hr.mono (by decide)
    have nm := fun {N : List Str} (i : Nat) => True
    refine ⟨_, pss_cons (ps_if (pt_not (pt_val (cl "is_name" T (ok_is_name T) hr1 (pa_cons (pv 1) pa_nil)))) pss_never pss_nil)
      (pss_cons (ps_if (pw_or (pt_not (pt_val (cl "is_name" T (ok_is_name T) hr1 (pa_cons (pv 2) pa_nil)))) (pw_or1 (pt_not (pt_val (cl "is_name" T (ok_is_name T) hr1 (pa_cons (pv 5) pa_nil)))))).pt pss_never pss_nil)
      (pss_cons (ps_if (pt_not (pt_val (cl "is_number" T (ok_is_number T) hr (pa_cons (pv 3) pa_nil)))) pss_never pss_nil)
      (pss_cons (ps_if (pt_not (pt_val (cl "is_between" T (ok_is_between T) hr2 (pa_cons (pv 4) (pa_cons pe_int (pa_cons (gi "MOST_NUMBER" 1000000000000 T) pa_nil)))))) pss_never pss_nil)
      (pss_cons (ps_fld (pv 0) (pv 1) rfl) (pss_cons (ps_fld (pv 0) (pv 2) rfl) (pss_cons (ps_fld (pv 0) (pv 3) rfl) (pss_cons (ps_fld (pv 0) (pv 4) rfl) (pss_one (ps_fld (pv 0) (pv 5) rfl))))))))), ?_⟩
    refine ⟨_, rfl, n, rfl, ok.n, fun H1 s1 => ⟨_, rfl, ?_⟩⟩
    refine ⟨_, rfl, z, rfl, ok.s, fun H2 s2 => ⟨_, rfl, ?_⟩⟩
    refine ⟨_, rfl, g, rfl, ok.g, fun H3 s3 => ⟨_, rfl, ?_⟩⟩
    refine ⟨_, rfl, l, rfl, _, rfl, ?_⟩
    have e1 : (decide ((0 : Int) ≤ l) && decide (l ≤ 1000000000000)) = true := by simp [ok.l0, ok.l1]
    rw [e1]
    refine ⟨_, rfl, t, _, _, rfl, _, rfl, ?_⟩
    have e2 : (decide ((1 : Int) ≤ t) && decide (t ≤ 1000000000000)) = true := by simp [ok.t0, ok.t1]
    rw [e2]
    have s4 : Same H H3 := same_tr s1 (same_tr s2 s3)
    have hx3 := s4 _ _ hx
    refine ⟨_, rfl, _, rfl, x, C, dx, _, rfl, hx3, c.c, c.n1, by decide, ?_⟩
    refine ⟨_, rfl, _, rfl, x, C, dx, _, rfl, upd_same, c.c, c.n2, (lt_putF (by decide)), ?_⟩
    refine ⟨_, rfl, _, rfl, x, C, dx, _, rfl, upd_same, c.c, c.n3, (lt_putF (lt_putF (by decide))), ?_⟩
    refine ⟨_, rfl, _, rfl, x, C, dx, _, rfl, upd_same, c.c, c.n4, (lt_putF (lt_putF (lt_putF (by decide)))), ?_⟩
    refine ⟨_, rfl, _, rfl, x, C, dx, _, rfl, upd_same, c.c, c.n5, (lt_putF (lt_putF (lt_putF (lt_putF (by decide))))), ?_⟩
    refine k _ (fun b v hb e => ?_) ?_
    · rw [upd_ne hb, upd_ne hb, upd_ne hb, upd_ne hb, upd_ne hb]
      exact s4 _ _ e
    · rw [upd_same]
      rfl
theorem ok_RunInit (T : FX P K mg) : FnR P w K mg base CX0 5 (ini K "Run") (spRunInit K) := by
  have z := fn_sup (CX := CX0) (w := w) (base := base) (k := 4) (N := ["self", "name", "start", "leaves", "takes", "goal", "__class__"]) (ps := ["self", "name", "start", "leaves", "takes", "goal"]) T.suR rfl (NdefX.nscope_by (by decide +kernel)) (by decide +kernel) rfl rfl rfl (by decide +kernel)
    (fun _ _ _ _ _ us hl => match us, hl with | [_, _, _, _, _, _], _ => rfl) (T.fre "super" (by decide +kernel)) T.top_ T.opq T.siR.1 T.fnT.1 T.fnT.2 T.siR.2.1 T.siR.2.2 (ok_TripInit T) (fun _ _ _ _ _ => pass0)
    (fun _ _ _ _ _ => pa_cons (pv 1) (pa_cons (pv 2) (pa_cons (pv 3) (pa_cons (pv 4) (pa_cons (pv 5) pa_nil))))) (fun _ _ _ _ _ => rfl) (fun _ _ _ _ _ => ⟨_, rfl⟩) (fun _ _ _ _ _ => ⟨rfl, rfl⟩)
  refine z.imp fun vs H Q E h => ?_
  obtain ⟨x, dx, n, s, l, t, g, rfl, ok, hx, k⟩ := h
  refine ⟨x, _, rfl, rfl, ⟨_, _, hx⟩, ?_⟩
  exact ⟨_, rfl, _, rfl, _, rfl, _, rfl, _, rfl, x, dx, _, n, s, l, t, g, rfl, ok, trR T, hx, fun H' a b => k H' a b⟩
theorem ok_StayInit (T : FX P K mg) : FnR P w K mg base CX0 5 (ini K "Stay") (spStayInit K) := by
  have z := fn_sup (CX := CX0) (w := w) (base := base) (k := 4) (N := ["self", "name", "place", "leaves", "takes", "__class__"]) (ps := ["self", "name", "place", "leaves", "takes"]) T.suS rfl (NdefX.nscope_by (by decide +kernel)) (by decide +kernel) rfl rfl rfl (by decide +kernel)
    (fun _ _ _ _ _ us hl => match us, hl with | [_, _, _, _, _], _ => rfl) (T.fre "super" (by decide +kernel)) T.top_ T.opq T.siS.1 T.fnT.1 T.fnT.2 T.siS.2.1 T.siS.2.2 (ok_TripInit T) (fun _ _ _ _ _ => pass0)
    (fun _ _ _ _ _ => pa_cons (pv 1) (pa_cons (pv 2) (pa_cons (pv 3) (pa_cons (pv 4) (pa_cons (pv 2) pa_nil))))) (fun _ _ _ _ _ => rfl) (fun _ _ _ _ _ => ⟨_, rfl⟩) (fun _ _ _ _ _ => ⟨rfl, rfl⟩)
  refine z.imp fun vs H Q E h => ?_
  obtain ⟨x, dx, n, s, l, t, rfl, ok, hx, k⟩ := h
  refine ⟨x, _, rfl, rfl, ⟨_, _, hx⟩, ?_⟩
  exact ⟨_, rfl, _, rfl, _, rfl, _, rfl, _, rfl, x, dx, _, n, s, l, t, s, rfl, ok, trS T, hx, fun H' a b => k H' a b⟩
/-- what a call has made: a new trip at p -/
def NewTrip (K : PySem.W.Frag) (H : Hp) (t : TR) (Q : VK) : Prop := ∀ H' p, H p = none → Same H H' → TripAt K H' p t → Q (.ref p) H'
end
theorem made_same {H H' : Hp} {x dx C : Addr} {u : HO} {fs : List (Str × V)} (hx : H x = none) (hdx : H dx = none)
    (k : ∀ b v, b ≠ x → (upd (upd H dx u) x (.ins C dx fs)) b = some v → H' b = some v) : Same H H' := fun b v e => by
  have h1 : b ≠ x := fun z => by rw [z, hx] at e; cases e
  have h2 : b ≠ dx := fun z => by rw [z, hdx] at e; cases e
  exact k b v h1 (by rw [upd_ne h1, upd_ne h2]; exact e)
/-- the same trip, leaving at l, taking t -/
def TR.at (t : TR) (l k : Int) : TR := { t with leaves := l, takes := k }
def TR.Five (t : TR) : Prop := T5 t.name t.start t.leaves t.takes t.goal
def spTimed (K : PySem.W.Frag) (b : Bool) : Sp := fun vs H Q _ => ∃ (a : Addr) (t : TR) (l k : Int), vs = [.ref a, .int l, .int k] ∧ t.run = b ∧ (b = false → t.start = t.goal) ∧ TripAt K H a t ∧ (t.at l k).Five ∧ NewTrip K H (t.at l k) Q
def spAdd (K : PySem.W.Frag) : Sp := fun vs H Q _ => ∃ (a : Addr) (t : TR) (k : Int), vs = [.ref a, .int k] ∧ t.Ok ∧ TripAt K H a t ∧ 0 ≤ t.leaves + k ∧ t.leaves + k ≤ 1000000000000 ∧ NewTrip K H (t.at (t.leaves + k) t.takes) Q
def spTripEq (K : PySem.W.Frag) : Sp := fun vs H Q _ => ∃ (a b : Addr) (t : TR), vs = [.ref a, .ref b] ∧ t.Ok ∧ TripAt K H a t ∧ TripAt K H b t ∧ ∀ H', Same H H' → Q (.bl true) H'
section
variable {P : Program} {w : World} {K : PySem.W.Frag} {mg : Str → Option Value} {base : Heap}
theorem ok_RunTimed (T : FX P K mg) : FnR P w K mg base CX0 7 (ma K (ga K "Run") "timed") (spTimed K true) := by
  refine fnr T.f_RunTimed sc_RunTimed (fun _ _ _ _ _ _ us hl => match us, hl with | [_, _, _], _ => rfl) (fun vs H Q E h => ?_) (fun cdv A outer s H vs Q E hr h => ?_)
  · obtain ⟨a, t, l, k, rfl, _⟩ := h
    rfl
  · obtain ⟨a, t, l, kk, rfl, hb, _, ⟨dx, ha⟩, ok, k⟩ := h
    have c := trR T
    have ha' : H a = some (.ins (cRun K) dx (tfs t)) := by
      have : cTR K t = cRun K := by unfold cTR; rw [hb]; rfl
      rw [← this]; exact ha
    refine ⟨_, pss_one (ps_ret (StX.pe_makeR (T.mkr "Run" (by decide +kernel)) (ok_RunInit T) hr rfl (T.glo "Run" (by decide +kernel)) pass0 (pa_cons (pe_fld (pv 0) rfl) (pa_cons (pe_fld (pv 0) rfl) (pa_cons (pv 1) (pa_cons (pv 2) (pa_cons (pe_fld (pv 0) rfl) pa_nil))))))), ?_⟩
    refine ⟨_, rfl, a, _, dx, _, _, rfl, ha', c.c, c.n1, lk_name t, ?_⟩
    refine ⟨_, rfl, a, _, dx, _, _, rfl, ha', c.c, c.n2, lk_start t, ?_⟩
    refine ⟨_, rfl, _, rfl, ?_⟩
    refine ⟨_, rfl, a, _, dx, _, _, rfl, ha', c.c, c.n5, lk_goal t, fun x dy hx hdy hne => ?_⟩
    refine ⟨x, dy, t.name, t.start, l, kk, t.goal, rfl, ok, upd_same, fun H' h1 h2 => ⟨rfl, ?_⟩⟩
    refine k H' x hx (made_same hx hdy h1) ⟨dy, ?_⟩
    rw [h2]
    have : cTR K (t.at l kk) = cRun K := by unfold cTR TR.at; rw [hb]; rfl
    rw [this]
    rfl
theorem ok_StayTimed (T : FX P K mg) : FnR P w K mg base CX0 7 (ma K (ga K "Stay") "timed") (spTimed K false) := by
  refine fnr T.f_StayTimed sc_StayTimed (fun _ _ _ _ _ _ us hl => match us, hl with | [_, _, _], _ => rfl) (fun vs H Q E h => ?_) (fun cdv A outer s H vs Q E hr h => ?_)
  · obtain ⟨a, t, l, k, rfl, _⟩ := h
    rfl
  · obtain ⟨a, t, l, kk, rfl, hb, hg, ⟨dx, ha⟩, ok, k⟩ := h
    have c := trS T
    have hg := hg rfl
    have ha' : H a = some (.ins (cStay K) dx (tfs t)) := by
      have : cTR K t = cStay K := by unfold cTR; rw [hb]; rfl
      rw [← this]; exact ha
    refine ⟨_, pss_one (ps_ret (StX.pe_makeR (T.mkr "Stay" (by decide +kernel)) (ok_StayInit T) hr rfl (T.glo "Stay" (by decide +kernel)) pass0 (pa_cons (pe_fld (pv 0) rfl) (pa_cons (pe_fld (pv 0) rfl) (pa_cons (pv 1) (pa_cons (pv 2) pa_nil)))))), ?_⟩
    refine ⟨_, rfl, a, _, dx, _, _, rfl, ha', c.c, c.n1, lk_name t, ?_⟩
    refine ⟨_, rfl, a, _, dx, _, _, rfl, ha', c.c, c.n2, lk_start t, ?_⟩
    refine ⟨_, rfl, _, rfl, fun x dy hx hdy hne => ?_⟩
    have ok' : T5 t.name t.start l kk t.start := ⟨ok.n, ok.s, ok.s, ok.l0, ok.l1, ok.t0, ok.t1⟩
    refine ⟨x, dy, t.name, t.start, l, kk, rfl, ok', upd_same, fun H' h1 h2 => ⟨rfl, ?_⟩⟩
    refine k H' x hx (made_same hx hdy h1) ⟨dy, ?_⟩
    rw [h2]
    have : cTR K (t.at l kk) = cStay K := by unfold cTR TR.at; rw [hb]; rfl
    rw [this]
    show some (HO.ins (cStay K) dy (f5 t.name t.start l kk t.start)) = some (HO.ins (cStay K) dy (f5 t.name t.start l kk t.goal))
    rw [hg]
theorem ok_TripAdd (T : FX P K mg) : FnR P w K mg base CX0 8 (ma K (ga K "Trip") "__add__") (spAdd K) := by
  refine fnr T.f_TripAdd sc_TripAdd (fun _ _ _ _ _ _ us hl => match us, hl with | [_, _], _ => rfl) (fun vs H Q E h => ?_) (fun cdv A outer s H vs Q E hr h => ?_)
  · obtain ⟨a, t, k, rfl, _⟩ := h
    rfl
  · obtain ⟨a, t, kk, rfl, ok, ⟨dx, ha⟩, h0, h1, k⟩ := h
    have c := trT T t
    have hr1 : Room 1 _ := hr.mono (by decide)
    have hr3 : Room 3 _ := hr.mono (by decide)
    have e1 : (decide ((0 : Int) ≤ t.leaves + kk) && decide (t.leaves + kk ≤ 1000000000000)) = true := by simp [h0, h1]
    have five : (t.at (t.leaves + kk) t.takes).Five := ⟨ok.n, ok.s, ok.g, h0, h1, ok.t0, ok.t1⟩
    have hT : TripAt K H a t := ⟨dx, ha⟩
    cases hb : t.run
    · have c' : cTR K t = cStay K := by unfold cTR; rw [hb]; rfl
      rw [c'] at ha c
      refine ⟨_, pss_cons (ps_if (pw_or (pt_not (pt_val (cl "is_integer" T (ok_is_integer T) hr1 (pa_cons (pv 1) pa_nil)))) (pw_or1 (pt_not (pt_val (cl "is_number" T (ok_is_number T) hr3 (pa_cons (pe_op op_add (pe_fld (pv 0) rfl) (pv 1)) pa_nil)))))).pt pss_never pss_nil)
        (pss_one (ps_ret (pe_methR (pv 0) c.c (T.meth ("Stay", "timed") (by decide +kernel)) (ok_StayTimed T) hr pass0 (pa_cons (pe_op op_add (pe_fld (pv 0) rfl) (pv 1)) (pa_cons (pe_fld (pv 0) rfl) pa_nil))))), ?_⟩
      refine ⟨_, rfl, kk, rfl, _, rfl, ?_⟩
      refine ⟨_, rfl, a, _, dx, _, _, rfl, ha, c.c, c.n3, lk_leaves t, _, rfl, _, _, rfl, rfl, _, rfl, _, rfl, ?_⟩
      rw [e1]
      refine ⟨_, rfl, a, dx, _, rfl, ha, rfl, ?_⟩
      refine ⟨_, rfl, a, _, dx, _, _, rfl, ha, c.c, c.n3, lk_leaves t, _, rfl, _, _, rfl, rfl, ?_⟩
      refine ⟨_, rfl, a, _, dx, _, _, rfl, ha, c.c, c.n4, lk_takes t, ?_⟩
      exact ⟨a, t, _, _, rfl, hb, (fun _ => ok.st hb), hT, five, k⟩
    · have c' : cTR K t = cRun K := by unfold cTR; rw [hb]; rfl
      rw [c'] at ha c
      refine ⟨_, pss_cons (ps_if (pw_or (pt_not (pt_val (cl "is_integer" T (ok_is_integer T) hr1 (pa_cons (pv 1) pa_nil)))) (pw_or1 (pt_not (pt_val (cl "is_number" T (ok_is_number T) hr3 (pa_cons (pe_op op_add (pe_fld (pv 0) rfl) (pv 1)) pa_nil)))))).pt pss_never pss_nil)
        (pss_one (ps_ret (pe_methR (pv 0) c.c (T.meth ("Run", "timed") (by decide +kernel)) (ok_RunTimed T) hr pass0 (pa_cons (pe_op op_add (pe_fld (pv 0) rfl) (pv 1)) (pa_cons (pe_fld (pv 0) rfl) pa_nil))))), ?_⟩
      refine ⟨_, rfl, kk, rfl, _, rfl, ?_⟩
      refine ⟨_, rfl, a, _, dx, _, _, rfl, ha, c.c, c.n3, lk_leaves t, _, rfl, _, _, rfl, rfl, _, rfl, _, rfl, ?_⟩
      rw [e1]
      refine ⟨_, rfl, a, dx, _, rfl, ha, rfl, ?_⟩
      refine ⟨_, rfl, a, _, dx, _, _, rfl, ha, c.c, c.n3, lk_leaves t, _, rfl, _, _, rfl, rfl, ?_⟩
      refine ⟨_, rfl, a, _, dx, _, _, rfl, ha, c.c, c.n4, lk_takes t, ?_⟩
      exact ⟨a, t, _, _, rfl, hb, (fun z => by cases z), hT, five, k⟩
theorem ok_TripEq (T : FX P K mg) : FnR P w K mg base CX0 1 (ma K (ga K "Trip") "__eq__") (spTripEq K) := by
  refine fnr T.f_TripEq sc_TripEq (fun _ _ _ _ _ _ us hl => match us, hl with | [_, _], _ => rfl) (fun vs H Q E h => ?_) (fun cdv A outer s H vs Q E hr h => ?_)
  · obtain ⟨a, b, t, rfl, _⟩ := h
    rfl
  · obtain ⟨a, b, t, rfl, ok, ⟨dx, ha⟩, ⟨dy, hb⟩, k⟩ := h
    have c := trT T t
    obtain ⟨W, uW, hW⟩ : ∃ (W : Str) (u : Value), Con K (cTR K t) "WORD" (.str W) u := by
      unfold cTR
      cases t.run
      · obtain ⟨u, h⟩ := T.woS; exact ⟨_, u, h⟩
      · obtain ⟨u, h⟩ := T.woR; exact ⟨_, u, h⟩
    have hI : IsiC K (cTR K t) (ga K "Trip") := by
      unfold cTR
      cases t.run
      · exact T.isS
      · exact T.isR
    refine ⟨_, pss_cons (ps_if (pw_or (pt_not (pt_val (cb "isinstance" T call_isi (pa_cons (pv 1) (pa_cons (gc "Trip" T) pa_nil))))) (pw_or (pt_cmpR op_ne (pe_con (pv 0) rfl) (pe_con (pv 1) rfl) (nomark _)) (pw_or1 (pt_cmpR op_ne (pe_fld (pv 0) rfl) (pe_fld (pv 1) rfl) (nomark _))))).pt pss_never pss_nil)
      (pss_one (ps_ret (pe_cmpR (op_eqD hr.units) (pe_tup (pa_cons (pe_fld (pv 0) rfl) (pa_cons (pe_fld (pv 0) rfl) (pa_cons (pe_fld (pv 0) rfl) (pa_cons (pe_fld (pv 0) rfl) pa_nil))))) (pe_tup (pa_cons (pe_fld (pv 1) rfl) (pa_cons (pe_fld (pv 1) rfl) (pa_cons (pe_fld (pv 1) rfl) (pa_cons (pe_fld (pv 1) rfl) pa_nil))))) (nomark _)))), ?_⟩
    refine ⟨_, rfl, _, _, _, _, true, rfl, .own _, isi_ok T hI c.c hb, hI.k1, _, rfl, ?_⟩
    refine ⟨_, rfl, a, _, dx, _, _, uW, rfl, ha, c.c, hW, rfl, ?_⟩
    refine ⟨_, rfl, b, _, dy, _, _, uW, rfl, hb, c.c, hW, rfl, rfl, _, rfl, ?_⟩
    have e1 : (!decide (V.str W = V.str W)) = false := by simp
    rw [e1]
    refine ⟨_, rfl, a, _, dx, _, _, rfl, ha, c.c, c.n1, lk_name t, ?_⟩
    refine ⟨_, rfl, b, _, dy, _, _, rfl, hb, c.c, c.n1, lk_name t, rfl, _, rfl, ?_⟩
    have e2 : (!decide (V.str t.name = V.str t.name)) = false := by simp
    rw [e2]
    have fl := fun {H' : Hp} (ha : H' a = some (.ins (cTR K t) dx (tfs t))) => ha
    refine ⟨_, rfl, a, _, dx, _, _, rfl, ha, c.c, c.n2, lk_start t, _, rfl, a, _, dx, _, _, rfl, ha, c.c, c.n3, lk_leaves t, _, rfl, a, _, dx, _, _, rfl, ha, c.c, c.n4, lk_takes t, _, rfl, a, _, dx, _, _, rfl, ha, c.c, c.n5, lk_goal t, (by show 4 ≤ sizeLine; decide), fun p hp => ?_⟩
    have hb2 : (upd H p (.tup [.str t.start, .int t.leaves, .int t.takes, .str t.goal])) b = some (.ins (cTR K t) dy (tfs t)) := by rw [upd_ne (ne_of_none hb hp)]; exact hb
    refine ⟨_, rfl, b, _, dy, _, _, rfl, hb2, c.c, c.n2, lk_start t, _, rfl, b, _, dy, _, _, rfl, hb2, c.c, c.n3, lk_leaves t, _, rfl, b, _, dy, _, _, rfl, hb2, c.c, c.n4, lk_takes t, _, rfl, b, _, dy, _, _, rfl, hb2, c.c, c.n5, lk_goal t, (by show 4 ≤ sizeLine; decide), fun q hq => ?_⟩
    have hpq : p ≠ q := fun z => by rw [← z, upd_same] at hq; cases hq
    have all : ∀ H' : Hp, DpAll K H' [.str t.start, .int t.leaves, .int t.takes, .str t.goal] [.str t.start, .int t.leaves, .int t.takes, .str t.goal] := fun H' => .cons (.str _) (.cons (.int _) (.cons (.int _) (.cons (.str _) .nil)))
    have sh : SeqAt.shaped (.tuple [.str t.start, .int t.leaves, .int t.takes, .str t.goal]) = true := by simp [SeqAt.shaped, PyData.canLay0, PyData.canLayAll0, PyData.depth, PyData.depthAll, ok.s.sok, ok.g.sok]
    refine ⟨_, _, .tup (SqT.of (by rw [upd_ne hpq, upd_same])) (all _), .tup (SqT.of upd_same) (all _), sh, sh, ?_⟩
    rw [SeqAt.eqv_refl _ (SeqAt.canLay_of_shaped sh)]
    refine k _ (same_new (same_new same_rfl hp) hq)
end
end N1
/-! plain: texts in order, trips by name -/
namespace N1
open PySem PySem.Spec PyProof.Rows L2
def leS (a b : Str) : Bool := !decide (b.cps.toList < a.cps.toList)
theorem leS_trans {a b c : Str} (h1 : leS a b = true) (h2 : leS b c = true) : leS a c = true := by
  unfold leS at *
  simp only [Bool.not_eq_true', decide_eq_false_iff_not, List.not_lt] at *
  exact List.le_trans h1 h2
theorem leS_total (a b : Str) : (leS a b || leS b a) = true := by
  unfold leS
  simp only [Bool.or_eq_true, Bool.not_eq_true', decide_eq_false_iff_not, List.not_lt]
  exact List.le_total _ _
theorem leS_anti {a b : Str} (h1 : leS a b = true) (h2 : leS b a = true) : a = b := by
  unfold leS at *
  simp only [Bool.not_eq_true', decide_eq_false_iff_not, List.not_lt] at *
  have e := List.le_antisymm h1 h2
  cases a with
  | mk a => cases b with
    | mk b => simp at e; rw [e]
theorem leS_refl (a : Str) : leS a a = true := by
  have := leS_total a a
  simpa using this
theorem risingS_pw : ∀ (p : Str) (l : List Str), risingS p l = true → (p :: l).Pairwise (fun a b => leS a b = true)
  | p, [], _ => by simp
  | p, x :: r, h => by
    have h' : (!ltCps x.cps.toList p.cps.toList && risingS x r) = true := h
    rw [Bool.and_eq_true] at h'
    have ih := risingS_pw x r h'.2
    have e : leS p x = true := by
      unfold leS
      rw [← ltCps_eq]
      exact h'.1
    refine List.pairwise_cons.mpr ⟨fun y hy => ?_, ih⟩
    rcases List.mem_cons.mp hy with z | z
    · rw [z]; exact e
    · exact leS_trans e ((List.pairwise_cons.mp ih).1 y z)
theorem sortedS_pw : ∀ {l : List Str}, sortedS l = true → l.Pairwise (fun a b => leS a b = true)
  | [], _ => .nil
  | x :: r, h => risingS_pw x r h
/-- in order -/
def sn (l : List Str) : List Str := l.mergeSort leS
theorem sn_perm (l : List Str) : (sn l).Perm l := List.mergeSort_perm ..
theorem sn_pw (l : List Str) : (sn l).Pairwise (fun a b => leS a b = true) := List.pairwise_mergeSort (le := leS) (fun _ _ _ => leS_trans) leS_total l
theorem sn_of {l ys : List Str} (p : ys.Perm l) (h : sortedS ys = true) : ys = sn l :=
  List.Perm.eq_of_pairwise (fun a b _ _ h1 h2 => leS_anti h1 h2) (sortedS_pw h) (sn_pw l) (p.trans (sn_perm l).symm)
theorem sn_congr {l l' : List Str} (p : l.Perm l') : sn l = sn l' :=
  List.Perm.eq_of_pairwise (fun a b _ _ h1 h2 => leS_anti h1 h2) (sn_pw l) (sn_pw l') ((sn_perm l).trans (p.trans (sn_perm l').symm))
theorem sn_nodup {l : List Str} (h : l.Nodup) : (sn l).Nodup := (sn_perm l).nodup_iff.mpr h
theorem mem_sn {l : List Str} {x : Str} : x ∈ sn l ↔ x ∈ l := (sn_perm l).mem_iff
theorem sn_length (l : List Str) : (sn l).length = l.length := (sn_perm l).length_eq
theorem sn_idem {l : List Str} (h : l.Pairwise (fun a b => leS a b = true)) : sn l = l := 
  List.Perm.eq_of_pairwise (fun a b _ _ h1 h2 => leS_anti h1 h2) (sn_pw l) h (sn_perm l)
/-- the trip of a name -/
def lk (ts : List TR) (n : Str) : Option TR := ts.find? fun t => decide (t.name = n)
def names (ts : List TR) : List Str := ts.map (·.name)
theorem lk_some {ts : List TR} {n : Str} {t : TR} (h : lk ts n = some t) : t ∈ ts ∧ t.name = n :=
  ⟨List.mem_of_find?_eq_some h, by have := List.find?_some h; exact of_decide_eq_true this⟩
theorem lk_of {ts : List TR} (hn : (names ts).Nodup) {t : TR} (h : t ∈ ts) : lk ts t.name = some t := by
  induction ts with
  | nil => cases h
  | cons u r ih =>
    have hn2 := List.nodup_cons.mp (show (u.name :: names r).Nodup from hn)
    rcases List.mem_cons.mp h with e | e
    · subst e
      simp [lk]
    · have ne : ¬ u.name = t.name := fun z => hn2.1 (by rw [z]; exact List.mem_map_of_mem e)
      have := ih hn2.2 e
      unfold lk at this ⊢
      rw [List.find?_cons_of_neg (by simpa using ne)]
      exact this
theorem lk_none {ts : List TR} {n : Str} : lk ts n = none ↔ n ∉ names ts := by
  unfold lk names
  rw [List.find?_eq_none]
  constructor
  · intro h hm
    obtain ⟨t, ht, e⟩ := List.mem_map.mp hm
    exact h t ht (by simpa using e)
  · intro h t ht e
    exact h (List.mem_map.mpr ⟨t, ht, by simpa using e⟩)
theorem lk_mem {ts : List TR} {n : Str} (h : n ∈ names ts) : ∃ t, lk ts n = some t := by
  cases e : lk ts n with
  | some t => exact ⟨t, rfl⟩
  | none => exact absurd h (lk_none.mp e)
theorem lk_perm {ts us : List TR} (hn : (names ts).Nodup) (p : ts.Perm us) (n : Str) : lk ts n = lk us n := by
  have hn' : (names us).Nodup := (p.map _).nodup_iff.mp hn
  cases e : lk ts n with
  | none =>
    rw [lk_none] at e
    rw [eq_comm, lk_none]
    intro h
    exact e ((p.map _).mem_iff.mpr h)
  | some t =>
    obtain ⟨h1, h2⟩ := lk_some e
    rw [← h2, lk_of hn' (p.mem_iff.mp h1)]
/-- the trips by name -/
def st (ts : List TR) : List TR := (sn (names ts)).filterMap (lk ts)
theorem names_fm {ts : List TR} : ∀ {l : List Str}, (∀ n ∈ l, n ∈ names ts) → names (l.filterMap (lk ts)) = l
  | [], _ => rfl
  | n :: l, h => by
    obtain ⟨t, e⟩ := lk_mem (h n List.mem_cons_self)
    rw [List.filterMap_cons_some e]
    have := names_fm (l := l) fun m hm => h m (List.mem_cons_of_mem _ hm)
    unfold names at this ⊢
    rw [List.map_cons, this, (lk_some e).2]
theorem names_st (ts : List TR) : names (st ts) = sn (names ts) := names_fm fun n h => mem_sn.mp h
theorem mem_st {ts : List TR} (hn : (names ts).Nodup) {t : TR} : t ∈ st ts ↔ t ∈ ts := by
  unfold st
  rw [List.mem_filterMap]
  constructor
  · rintro ⟨n, _, e⟩
    exact (lk_some e).1
  · intro h
    exact ⟨t.name, mem_sn.mpr (List.mem_map_of_mem h), lk_of hn h⟩
theorem nodup_of_names {ts : List TR} (h : (names ts).Nodup) : ts.Nodup := by
  unfold names at h
  unfold List.Nodup at *
  rw [List.pairwise_map] at h
  exact h.imp fun hne e => hne (by rw [e])
theorem st_perm {ts : List TR} (hn : (names ts).Nodup) : (st ts).Perm ts := by
  refine (List.perm_ext_iff_of_nodup ?_ (nodup_of_names hn)).mpr fun t => mem_st hn
  refine nodup_of_names ?_
  rw [names_st]
  exact sn_nodup hn
theorem st_congr {ts us : List TR} (hn : (names ts).Nodup) (p : ts.Perm us) : st ts = st us := by
  unfold st
  rw [sn_congr (show (names ts).Perm (names us) from p.map _)]
  rw [show lk ts = lk us from funext fun n => lk_perm hn p n]
end N1
set_option maxHeartbeats 1000000
namespace N1
open PySem PySem.Spec PyProof.Rows L2
theorem walk_enumT {K : PySem.W.Frag} {a : Addr} {xs : List V} : Walk (Itet K a) xs.length (fun H => SqT K H a xs) (YPair (fun i => some (.int (i : Nat))) (fun i => xs[i]?)) :=
  ⟨fun i H hi h => ⟨xs, xs[i], h, by simp [hi]⟩, fun H h => ⟨xs, h, Nat.le_refl _⟩, fun i H v H' hi h y => by
    obtain ⟨T, x, e, hT, eH, hx⟩ := y
    exact ⟨T, _, x, e, hT, eH, rfl, hx xs h⟩⟩
/-- trips at these places -/
def Trs (K : PySem.W.Frag) (G : Hp) (as : List Addr) (ts : List TR) : Prop := as.length = ts.length ∧ ∀ (i : Nat) (a : Addr) (t : TR), as[i]? = some a → ts[i]? = some t → TripAt K G a t
theorem Trs.up {K : PySem.W.Frag} {G G' : Hp} {as : List Addr} {ts : List TR} (s : Same G G') (h : Trs K G as ts) : Trs K G' as ts := ⟨h.1, fun i a t h1 h2 => (h.2 i a t h1 h2).up s⟩
theorem Trs.at {K : PySem.W.Frag} {G : Hp} {as : List Addr} {ts : List TR} (h : Trs K G as ts) {i : Nat} {v : V} (e : (as.map V.ref)[i]? = some v) : ∃ a t, v = .ref a ∧ as[i]? = some a ∧ ts[i]? = some t ∧ TripAt K G a t := by
  rw [List.getElem?_map] at e
  cases ha : as[i]? with
  | none => rw [ha] at e; cases e
  | some a =>
    rw [ha] at e
    have hi := (List.getElem?_eq_some_iff.mp ha).1
    rw [h.1] at hi
    exact ⟨a, ts[i], (Option.some.inj e).symm, rfl, List.getElem?_eq_getElem hi, h.2 i a _ ha (List.getElem?_eq_getElem hi)⟩
theorem isT {P : Program} {K : PySem.W.Frag} {mg : Str → Option Value} (T : FX P K mg) (t : TR) : IsiC K (cTR K t) (ga K "Trip") := by
  unfold cTR
  cases t.run
  · exact T.isS
  · exact T.isR
def spAllTrips (K : PySem.W.Frag) : Sp := fun vs H Q _ => ∃ (p : Addr) (as : List Addr) (ts : List TR), vs = [.ref p] ∧ SqT K H p (as.map V.ref) ∧ Trs K H as ts ∧ ∀ H', Same H H' → Q .non H'
/-- the places of trips, in order, each once -/
def PlsOf (ts : List TR) (ys : List Str) : Prop := sortedS ys = true ∧ ys.Nodup ∧ ∀ k, k ∈ ys ↔ ∃ t ∈ ts, k = t.start ∨ k = t.goal
def spPlaces (K : PySem.W.Frag) : Sp := fun vs H Q _ => ∃ (p : Addr) (as : List Addr) (ts : List TR), vs = [.ref p] ∧ SqT K H p (as.map V.ref) ∧ Trs K H as ts ∧ ts.length ≤ 100 ∧
  ∀ H' q ys, Same H H' → H q = none → H' q = some (.lst (ys.map V.str)) → PlsOf ts ys → Q (.ref q) H'
section
variable {P : Program} {w : World} {K : PySem.W.Frag} {mg : Str → Option Value} {base : Heap}
theorem ok_need_all_trips (T : FX P K mg) : FnR P w K mg base CX0 1 (ga K "need_all_trips") (spAllTrips K) := by
  refine fnr T.f_need_all_trips sc_need_all_trips (fun _ _ _ _ _ _ us hl => match us, hl with | [_], _ => rfl) (fun vs H Q E h => ?_) (fun cdv A outer s H vs Q E hr h => ?_)
  · obtain ⟨p, as, ts, rfl, _⟩ := h
    rfl
  · obtain ⟨p, as, ts, rfl, hp, ht, k⟩ := h
    have nd := sc_need_all_trips.nd
    refine ⟨_, pss_one (ps_for PassesOwn.never rfl (pi_enumT (by rfl) (T.fre "enumerate" (by decide +kernel)) (pa_cons (pv 0) pa_nil)) (pg_tup rfl (pgs_cons (pg_name (i := 1) nd rfl (Or.inl rfl)) (pgs_cons (pg_name (i := 2) nd rfl (Or.inl rfl)) pgs_nil)))
      (pss_one (ps_if (pt_not (pt_val (cb "isinstance" T call_isi (pa_cons (pv 2) (pa_cons (gc "Trip" T) pa_nil))))) pss_never pss_nil))), ?_⟩
    refine ⟨_, rfl, p, _, rfl, hp, for_it walk_enumT (fun i σ H' => Same H H' ∧ σ[0]? = some (some (.ref p)) ∧ σ.length = 3) ⟨same_rfl, rfl, rfl⟩ (fun i σ H' _ h => SqT.ext hp h.1) ?_ ?_⟩
    · rintro i v σ H1 H' hi ⟨s1, h0, hl⟩ ⟨T1, x, y, rfl, hT, rfl, e1, e2⟩
      obtain ⟨a, t, rfl, ha, hti, dx, hta⟩ := ht.at e2
      have s2 : Same H (upd H1 T1 (.tup [x, .ref a])) := same_new s1 hT
      refine ⟨T1, _, rfl, SqT.of upd_same, rfl, _, _, rfl, _, _, rfl, rfl, ?_⟩
      have hl2 : ((σ.set 1 (some x)).set 2 (some (V.ref a)))[2]? = some (some (V.ref a)) := by
        rw [List.getElem?_set_self]
        rw [List.length_set, hl]
        decide
      refine ⟨_, hl2, _, _, _, _, true, rfl, .own _, isi_ok T (isT T t) (trT T t).c (s2 _ _ hta), (isT T t).k1, _, rfl, ?_⟩
      refine ⟨s2, ?_, ?_⟩
      · rw [List.getElem?_set_ne (by decide), List.getElem?_set_ne (by decide)]
        exact h0
      · rw [List.length_set, List.length_set]
        exact hl
    · rintro σ H' ⟨s1, _⟩
      exact k _ s1
end
end N1
set_option maxHeartbeats 1000000
namespace N1
open PySem PySem.Spec PyProof.Rows L2
/-- start and goal of the i-th -/
def sg (ts : List TR) (i : Nat) : List Str := match ts[i]? with
  | some t => [t.start, t.goal]
  | none => []
theorem sg_all (ts : List TR) : (List.range ts.length).flatMap (fun i => (sg ts i).map V.str) = (ts.flatMap fun t => [t.start, t.goal]).map V.str := by
  have : ∀ n, n ≤ ts.length → (List.range n).flatMap (fun i => (sg ts i).map V.str) = ((ts.take n).flatMap fun t => [t.start, t.goal]).map V.str := by
    intro n
    induction n with
    | zero => intro _; rfl
    | succ n ih =>
      intro h
      have hn : n < ts.length := by omega
      rw [List.range_succ, List.flatMap_append, ih (by omega), List.take_succ_eq_append_getElem hn, List.flatMap_append, List.map_append]
      congr 1
      unfold sg
      simp [hn]
  have := this ts.length (Nat.le_refl _)
  rwa [List.take_length] at this
section
variable {P : Program} {w : World} {K : PySem.W.Frag} {mg : Str → Option Value} {base : Heap}
theorem ok_places_of (T : FX P K mg) : FnR P w K mg base CX0 1 (ga K "places_of") (spPlaces K) := by
  refine fnr T.f_places_of sc_places_of (fun _ _ _ _ _ _ us hl => match us, hl with | [_], _ => rfl) (fun vs H Q E h => ?_) (fun cdv A outer s H vs Q E hr h => ?_)
  · obtain ⟨p, as, ts, rfl, _⟩ := h
    rfl
  · obtain ⟨p, as, ts, rfl, hp, ht, h100, k⟩ := h
    have nd := sc_places_of.nd
    refine ⟨_, pss_one (ps_ret (cb "sorted" T (cr_sortedSetS rfl) (pa_cons (ct "set" T (cr_setOfS rfl) (pa_cons
      (pe_lc2 (own := [("trip", 1), ("place", 2)]) (vs1 := [2]) (g := gName 1) (tt := tYes) (wi1 := iTup K (tTup (tCons (tFld K (tVar 1) "start") (tCons (tFld K (tVar 1) "goal") tNil)))) (g1 := gName 2) (tt1 := tYes) rfl nd (pi_tup (pv 0)) (blkOk_by (N := ["trips", "trip", "place"]) (sc := defScope d_places_of) (by decide +kernel)) (by decide)
        (fun _ _ _ _ _ => pg_name (i := 1) nd rfl (Or.inl rfl)) (fun _ _ _ _ _ => pts_nil) (fun _ _ _ _ _ => pi_tup (pe_tup (pa_cons (pe_fld (pv 1) rfl) (pa_cons (pe_fld (pv 1) rfl) pa_nil)))) (fun _ _ _ _ _ => pg_name (i := 2) nd rfl (Or.inl rfl)) (fun _ _ _ _ _ => pts_nil)
        (fun _ _ _ _ _ => ct "str" T SkE.call_str_str (pa_cons (pv 2) pa_nil))) pa_nil)) pa_nil))), ?_⟩
    refine ⟨_, rfl, p, rfl, ⟨_, hp⟩, fun D hD => lc2_f walk_tup (fun i => (sg ts i).map V.str) hD (fun H' s => SqT.ext hp s) ?_ ?_⟩
    · rintro i x H1 H' acc Nx hi s1 hL ea ⟨rfl, hx⟩ hNx
      obtain ⟨a, t, rfl, ha, hti, dx, hta⟩ := ht.at hx
      have hta := s1 _ _ hta
      have c := trT T t
      have es : sg ts i = [t.start, t.goal] := by unfold sg; rw [hti]
      refine ⟨rfl, _, rfl, a, _, dx, _, _, rfl, hta, c.c, c.n2, lk_start t, _, rfl, a, _, dx, _, _, rfl, hta, c.c, c.n5, lk_goal t, (by show 2 ≤ sizeLine; decide), fun p2 hp2 => ⟨p2, rfl, ⟨_, SqT.of upd_same⟩, ?_⟩⟩
      have hDp : D ≠ p2 := fun z => by rw [z, hp2] at hL; cases hL
      have hlen : acc.length < 1000 := by
        rw [ea]
        have : ∀ n, ((List.range n).flatMap fun i => (sg ts i).map V.str).length ≤ 2 * n := by
          intro n
          induction n with
          | zero => simp
          | succ n ih =>
            have h2 : ((sg ts n).map V.str).length ≤ 2 := by
              unfold sg
              split <;> simp
            have e1 : [n].flatMap (fun i => (sg ts i).map V.str) = (sg ts n).map V.str := by simp
            rw [List.range_succ, List.flatMap_append, List.length_append, e1]
            omega
        have := this i
        rw [List.length_map, ht.1] at hi
        omega
      refine in_it (walk_tup (K := K) (a := p2) (xs := [V.str t.start, V.str t.goal])) (fun j H2 => Same H H2 ∧ H2 p2 = some (.tup [.str t.start, .str t.goal]) ∧ H2 D = some (.lst (acc ++ ([V.str t.start, .str t.goal].take j)))) ⟨same_new s1 hp2, upd_same, by rw [upd_ne hDp, hL]; simp⟩ (fun j H _ h => SqT.of h.2.1) _ ?_ ?_
      · rintro j y H2 H3 hj ⟨s2, h2, h3⟩ ⟨rfl, hy⟩
        obtain ⟨z, ez⟩ : ∃ z : Str, y = .str z := by
          match j, hy with
          | 0, hy => exact ⟨_, (Option.some.inj hy).symm⟩
          | 1, hy => exact ⟨_, (Option.some.inj hy).symm⟩
        subst ez
        refine ⟨rfl, _, rfl, z, rfl, _, h3, ?_, same_at s2 hD, ?_, ?_⟩
        · rw [List.length_append, sizeLine_eq]
          have : (([V.str t.start, V.str t.goal] : List V).take j).length ≤ 2 := by
            rw [List.length_take]
            exact Nat.min_le_right _ _
          omega
        · rw [upd_ne (Ne.symm hDp)]
          exact h2
        · rw [upd_same, List.append_assoc]
          congr 3
          have hj2 : j < ([V.str t.start, V.str t.goal] : List V).length := hj
          rw [List.take_succ_eq_append_getElem hj2]
          congr 1
          rw [List.getElem?_eq_getElem hj2] at hy
          rw [Option.some.inj hy]
      · rintro H2 ⟨s2, h2, h3⟩
        refine hNx H2 s2 ?_
        rw [h3, es]
        rfl
    · intro H' s1 hL
      rw [List.length_map, ht.1, sg_all] at hL
      have hlen : (ts.flatMap fun t => [t.start, t.goal]).length ≤ 200 := by
        have : ∀ l : List TR, (l.flatMap fun t => [t.start, t.goal]).length = 2 * l.length := by
          intro l
          induction l with
          | nil => rfl
          | cons t l ih =>
            rw [List.flatMap_cons, List.length_append, ih, List.length_cons]
            simp
            omega
        rw [this]
        omega
      refine ⟨D, _, rfl, SqL.of hL, by omega, fun p3 n hn hp3 => ?_⟩
      refine ⟨p3, _, n, rfl, upd_same, by omega, fun ns q hs hnd hm hl hq => ?_⟩
      have hq1 : H' q = none := by
        rw [upd_ne (fun z => by rw [z, upd_same] at hq; cases hq)] at hq
        exact hq
      refine k _ q ns (same_new (same_new s1 hp3) hq) ?_ upd_same ⟨hs, hnd, fun kk => ?_⟩
      · cases e : H q with
        | none => rfl
        | some o => rw [s1 _ _ e] at hq1; cases hq1
      · rw [hm kk, List.any_eq_true]
        constructor
        · rintro ⟨x, hx, e⟩
          obtain ⟨t, htm, hxt⟩ := List.mem_flatMap.mp hx
          have e : x = kk := by simpa using e
          subst e
          refine ⟨t, htm, ?_⟩
          simpa using hxt
        · rintro ⟨t, htm, hxt⟩
          exact ⟨kk, List.mem_flatMap.mpr ⟨t, htm, by simpa using hxt⟩, by simp⟩
end
end N1
set_option maxHeartbeats 1000000
namespace N1
open PySem PySem.Spec PyProof.Rows L2
theorem gName_ap {i : Nat} {v : V} {σ : L2.St} {H : Hp} {Q : L2.St → Hp → Prop} : gName i v σ H Q = Q (σ.set i (some v)) H := rfl
theorem len_le_of_sub {α : Type} [DecidableEq α] : ∀ {ys L : List α}, ys.Nodup → (∀ y ∈ ys, y ∈ L) → ys.length ≤ L.length
  | [], _, _, _ => Nat.zero_le _
  | y :: ys, L, h, hs => by
    obtain ⟨h1, h2⟩ := List.nodup_cons.mp h
    have hy := hs y List.mem_cons_self
    have := len_le_of_sub (ys := ys) (L := L.erase y) h2 fun z hz => (List.mem_erase_of_ne (fun e => h1 (by rw [← e]; exact hz))).mpr (hs z (List.mem_cons_of_mem _ hz))
    rw [List.length_erase_of_mem hy] at this
    have : 0 < L.length := List.length_pos_of_mem hy
    simp only [List.length_cons]
    omega
/-- the i-th trip's place if c holds of it -/
def pk (as : List Addr) (ts : List TR) (c : TR → Bool) (i : Nat) : Option V := match as[i]?, ts[i]? with
  | some a, some t => if c t = true then some (.ref a) else none
  | _, _ => none
theorem pk_len {as : List Addr} {ts : List TR} {c : TR → Bool} (h : as.length = ts.length) : ((List.range as.length).filterMap (pk as ts c)).length = (ts.filter c).length := by
  have : ∀ n, n ≤ ts.length → ((List.range n).filterMap (pk as ts c)).length = ((ts.take n).filter c).length := by
    intro n
    induction n with
    | zero => intro _; rfl
    | succ n ih =>
      intro hn
      have hn1 : n < ts.length := by omega
      have hn2 : n < as.length := by omega
      have e1 : pk as ts c n = if c ts[n] = true then some (.ref as[n]) else none := by
        unfold pk
        rw [List.getElem?_eq_getElem hn1, List.getElem?_eq_getElem hn2]
      rw [List.range_succ, List.filterMap_append, List.length_append, ih (by omega), List.take_succ_eq_append_getElem hn1, List.filter_append, List.length_append]
      congr 1
      by_cases hc : c ts[n] = true
      · simp [e1, hc]
      · simp [e1, hc]
  have := this ts.length (Nat.le_refl _)
  rw [List.take_length] at this
  rw [h]
  exact this
def Bal (ts : List TR) : Prop := ∀ p : Str, (ts.filter fun t => decide (t.goal = p)).length = (ts.filter fun t => decide (t.start = p)).length
def spUnb (K : PySem.W.Frag) : Sp := fun vs H Q _ => ∃ (p : Addr) (as : List Addr) (ts : List TR), vs = [.ref p] ∧ SqT K H p (as.map V.ref) ∧ Trs K H as ts ∧ ts.length ≤ 100 ∧ Bal ts ∧ ∀ H', Same H H' → Q .non H'
/-- few places -/
def Few (ts : List TR) : Prop := ∃ L : List Str, L.length ≤ 8 ∧ ∀ t ∈ ts, t.start ∈ L ∧ t.goal ∈ L
def spFew (K : PySem.W.Frag) : Sp := fun vs H Q _ => ∃ (d p : Addr) (n : Int) (as : List Addr) (ts : List TR), vs = [.ref d, .ref p] ∧ DayAt K H d n ∧ SqT K H p (as.map V.ref) ∧ Trs K H as ts ∧ ts.length ≤ 40 ∧ (∀ t ∈ ts, t.leaves < n) ∧ Few ts ∧ ∀ H', Same H H' → Q .non H'
section
variable {P : Program} {w : World} {K : PySem.W.Frag} {mg : Str → Option Value} {base : Heap}
theorem ok_unbalanced (T : FX P K mg) : FnR P w K mg base CX0 2 (ga K "unbalanced") (spUnb K) := by
  refine fnr T.f_unbalanced sc_unbalanced (fun _ _ _ _ _ _ us hl => match us, hl with | [_], _ => rfl) (fun vs H Q E h => ?_) (fun cdv A outer s H vs Q E hr h => ?_)
  · obtain ⟨p, as, ts, rfl, _⟩ := h
    rfl
  · obtain ⟨p, as, ts, rfl, hp, ht, h100, hb, k⟩ := h
    have nd := sc_unbalanced.nd
    refine ⟨_, pss_cons (ps_for PassesOwn.never rfl (pi_list (cl "places_of" T (ok_places_of T) hr (pa_cons (pv 0) pa_nil))) (pg_name (i := 1) nd rfl (Or.inr rfl))
        (pss_cons (ps_set (i := 3) nd rfl (Or.inl rfl) (cb "len" T call_len (pa_cons (pe_lc (own := [("trip", 2)]) (g := gName 2) (tt := tTest (tOp rEq (tFld K (tVar 2) "goal") (tVar 1))) (te := tVar 2) rfl nd (pi_tup (pv 0)) (blkOk_by (N := ["trips", "place", "trip", "ends"]) (sc := defScope d_unbalanced) (by decide +kernel))
            (fun _ _ _ _ _ => pg_name (i := 2) nd rfl (Or.inl rfl)) (fun _ _ _ _ _ => pts_one (pt_cmpR op_eq (pe_fld (pv 2) rfl) (pv 1) (nomark _))) (fun _ _ _ _ _ => pv 2)) pa_nil)))
        (pss_one (ps_if (pt_cmpR op_ne (pv 3) (cb "len" T call_len (pa_cons (pe_lc (own := [("trip", 2)]) (g := gName 2) (tt := tTest (tOp rEq (tFld K (tVar 2) "start") (tVar 1))) (te := tVar 2) rfl nd (pi_tup (pv 0)) (blkOk_by (N := ["trips", "place", "trip", "ends"]) (sc := defScope d_unbalanced) (by decide +kernel))
            (fun _ _ _ _ _ => pg_name (i := 2) nd rfl (Or.inl rfl)) (fun _ _ _ _ _ => pts_one (pt_cmpR op_eq (pe_fld (pv 2) rfl) (pv 1) (nomark _))) (fun _ _ _ _ _ => pv 2)) pa_nil)) (nomark _)) pss_never pss_nil))))
      (pss_one (ps_ret pe_non)), ?_⟩
    refine ⟨_, rfl, p, as, ts, rfl, hp, ht, h100, fun H1 q ys s1 hq hq1 hys => ⟨q, rfl, ⟨_, SqL.of hq1⟩, ?_⟩⟩
    refine for_it (walk_list (K := K) (a := q) (xs := ys.map V.str)) (fun i σ H' => Same H1 H' ∧ ∃ a b c, σ = [some (.ref p), a, b, c]) ⟨same_rfl, _, _, _, rfl⟩ (fun i σ H' _ h => SqL.of (h.1 _ _ hq1)) ?_ ?_
    · rintro i v σ H2 H3 hi ⟨s2, x1, x2, x3, rfl⟩ ⟨rfl, hv⟩
      obtain ⟨y, rfl⟩ : ∃ y : Str, v = .str y := by
        rw [List.getElem?_map] at hv
        cases e : ys[i]? with
        | none => rw [e] at hv; cases hv
        | some y => rw [e] at hv; exact ⟨y, (Option.some.inj hv).symm⟩
      have s3 : Same H H3 := same_tr s1 s2
      -- one list
      have turn : ∀ (fl : Str) (c : TR → Bool) (hfl : ∀ t, (tfs t).lookup fl = some (.str (if fl = "goal" then t.goal else t.start))) (hc : ∀ t, c t = decide ((if fl = "goal" then t.goal else t.start) = y)) (hna : ∀ t, NoAttr K (cTR K t) fl)
          (σ : L2.St) (Ha : Hp) (Qv : VK), Same H Ha → σ[0]? = some (some (.ref p)) → σ[1]? = some (some (.str y)) → σ.length = 4 → (∀ D H', Same Ha H' → H' D = some (.lst ((List.range as.length).filterMap (pk as ts c))) → Qv (.ref D) H') →
          tLc (iTup K (tVar 0)) (gName 2) (tTest (tOp rEq (tFld K (tVar 2) fl) (tVar 1))) (tVar 2) [2] σ Ha Qv := by
        intro fl c hfl hc hna σ Ha Qv sa h0 h1 hl hQ
        refine ⟨_, h0, p, rfl, ⟨_, SqT.ext hp sa⟩, fun D hD => lc_f walk_tup (pk as ts c) hD (by rw [List.length_map, ht.1]; omega) (fun H' s => SqT.ext hp (same_tr sa s)) ?_ ?_⟩
        · rintro j x Hb Hc kk k0 hj sb ⟨rfl, hx⟩ h2 h3
          obtain ⟨a, t, rfl, ha, htj, dx, hta⟩ := ht.at hx
          have hta := same_tr sa sb _ _ hta
          have hpk : pk as ts c j = if c t = true then some (.ref a) else none := by unfold pk; rw [ha, htj]
          have hw2 : ((wipe σ [2]).set 2 (some (V.ref a)))[2]? = some (some (V.ref a)) := by
            rw [List.getElem?_set_self]
            rw [wipe_length, hl]
            decide
          have hw1 : ((wipe σ [2]).set 2 (some (V.ref a)))[1]? = some (some (.str y)) := by
            rw [List.getElem?_set_ne (by decide), wipe_out (by decide)]
            exact h1
          refine ⟨?_, _, hw2, a, _, dx, _, _, rfl, hta, (trT T t).c, hna t, hfl t, _, hw1, rfl, _, rfl, ?_⟩
          · show wipe ((wipe σ [2]).set 2 _) [2] = wipe σ [2]
            show ((σ.set 2 none).set 2 _).set 2 none = σ.set 2 none
            rw [List.set_set, List.set_set]
          · have e : decide (V.str (if fl = "goal" then t.goal else t.start) = V.str y) = c t := by rw [hc]; simp
            rw [e]
            cases hct : c t
            · exact h3 (by rw [hpk, hct]; rfl) _ same_rfl
            · exact ⟨_, hw2, h2 _ _ (by rw [hpk, hct]; rfl) same_rfl⟩
        · intro H' sb hL
          rw [List.length_map] at hL
          exact hQ D H' sb hL
      rw [gName_ap]
      dsimp only [tSeq, tAsg, tCB, tCons, List.set]
      refine turn "goal" (fun t => decide (t.goal = y)) (fun t => lk_goal t) (fun t => rfl) (fun t => (trT T t).n5) [some (.ref p), some (.str y), x2, x3] _ _ s3 rfl rfl rfl fun D1 H4 s4 hD1 => ?_
      refine ⟨_, _, rfl, .inl ⟨_, SqL.of hD1, rfl⟩, ?_⟩
      refine ⟨_, rfl, ?_⟩
      dsimp only [tCB, tCons, List.set]
      refine turn "start" (fun t => decide (t.start = y)) (fun t => lk_start t) (fun t => rfl) (fun t => (trT T t).n2) [some (.ref p), some (.str y), x2, some (.int _)] _ _ (same_tr s3 s4) rfl rfl rfl fun D2 H5 s5 hD2 => ?_
      refine ⟨_, _, rfl, .inl ⟨_, SqL.of hD2, rfl⟩, rfl, _, rfl, ?_⟩
      have e : (!decide (V.int (((List.range as.length).filterMap (pk as ts fun t => decide (t.goal = y))).length : Int) = V.int (((List.range as.length).filterMap (pk as ts fun t => decide (t.start = y))).length : Int))) = false := by
        rw [pk_len ht.1, pk_len ht.1, hb y]
        simp
      rw [e]
      exact ⟨same_tr s2 (same_tr s4 s5), _, _, _, rfl⟩
    · rintro σ H' ⟨s2, _⟩
      exact k _ (same_tr s1 s2)
theorem ok_need_few (T : FX P K mg) : FnR P w K mg base CX0 2 (ga K "need_few") (spFew K) := by
  refine fnr T.f_need_few sc_need_few (fun _ _ _ _ _ _ us hl => match us, hl with | [_, _], _ => rfl) (fun vs H Q E h => ?_) (fun cdv A outer s H vs Q E hr h => ?_)
  · obtain ⟨d, p, n, as, ts, rfl, _⟩ := h
    rfl
  · obtain ⟨d, p, n, as, ts, rfl, ⟨dd, hd⟩, hp, ht, h40, hlv, ⟨L, hL8, hLm⟩, k⟩ := h
    have nd := sc_need_few.nd
    have cD := T.cls "Day" (by decide +kernel)
    have nL := T.noat ("Day", "length") (by decide +kernel)
    refine ⟨_, pss_cons (ps_if (pt_cmpR op_gt (cb "len" T call_len (pa_cons (pv 1) pa_nil)) (gi "MOST_TRIPS_tables" 40 T) (nomark _)) pss_never pss_nil)
      (pss_cons (ps_set (i := 3) nd rfl (Or.inl rfl) (cb "sorted" T cr_sortedS (pa_cons (pe_lc (own := [("trip", 2)]) (g := gName 2) (tt := tTest (tOp (rI0 fun i j => .bl (decide (j ≤ i))) (tFld K (tVar 2) "leaves") (tFld K (tVar 0) "length"))) (te := tCB (fun xs H Q => ∃ a, xs = [.str a] ∧ Q (.str a) H) (tCons (tFld K (tVar 2) "name") tNil)) rfl nd (pi_tup (pv 1)) (blkOk_by (N := ["day", "trips", "trip", "late"]) (sc := defScope d_need_few) (by decide +kernel))
          (fun _ _ _ _ _ => pg_name (i := 2) nd rfl (Or.inl rfl)) (fun _ _ _ _ _ => pts_one (pt_cmpR op_ge (pe_fld (pv 2) rfl) (pe_fld (pv 0) rfl) (nomark _))) (fun _ _ _ _ _ => ct "str" T SkE.call_str_str (pa_cons (pe_fld (pv 2) rfl) pa_nil))) pa_nil)))
      (pss_cons (ps_if (pt_cmpR op_gt (cb "len" T call_len (pa_cons (pv 3) pa_nil)) pe_int (nomark _)) pss_never pss_nil)
      (pss_one (ps_if (pt_cmpR op_gt (cb "len" T call_len (pa_cons (cl "places_of" T (ok_places_of T) hr (pa_cons (pv 1) pa_nil)) pa_nil)) (gi "MOST_PLACES_tables" 8 T) (nomark _)) pss_never pss_nil)))), ?_⟩
    have hal : (as.map V.ref).length ≤ 40 := by rw [List.length_map, ht.1]; exact h40
    refine ⟨_, rfl, _, _, rfl, .inr ⟨_, hp, rfl⟩, _, _, rfl, rfl, _, rfl, ?_⟩
    have e1 : decide ((40 : Int) < ((as.map V.ref).length : Int)) = false := by simp only [decide_eq_false_iff_not]; omega
    rw [e1]
    refine ⟨_, rfl, p, rfl, ⟨_, hp⟩, fun D hD => lc_f walk_tup (fun _ => none) hD (by omega) (fun H' s => SqT.ext hp s) ?_ ?_⟩
    · rintro j x Hb Hc kk k0 hj sb ⟨rfl, hx⟩ h2 h3
      obtain ⟨a, t, rfl, ha, htj, dx, hta⟩ := ht.at hx
      have hta := sb _ _ hta
      refine ⟨rfl, _, rfl, a, _, dx, _, _, rfl, hta, (trT T t).c, (trT T t).n3, lk_leaves t, _, rfl, d, _, dd, _, _, rfl, sb _ _ hd, cD, nL, rfl, _, _, rfl, rfl, _, rfl, ?_⟩
      have htm : t ∈ ts := List.mem_of_getElem? htj
      have e2 : decide (n ≤ t.leaves) = false := by
        have := hlv t htm
        simp only [decide_eq_false_iff_not]
        omega
      rw [e2]
      exact h3 rfl _ same_rfl
    · intro H1 s1 hLD
      have e0 : (List.range (as.map V.ref).length).filterMap (fun _ : Nat => (none : Option V)) = [] := by simp
      rw [e0] at hLD
      refine ⟨D, [], rfl, SqL.of hLD, by decide, fun ys q hys _ hq => ?_⟩
      obtain rfl : ys = [] := List.Perm.eq_nil hys
      refine ⟨_, rfl, _, _, rfl, .inl ⟨_, SqL.of upd_same, rfl⟩, _, _, rfl, rfl, _, rfl, ?_⟩
      have e3 : decide ((0 : Int) < (([] : List V).length : Int)) = false := by decide
      have s2 : Same H (upd H1 q (.lst [])) := same_new s1 hq
      refine ⟨_, rfl, p, as, ts, rfl, SqT.ext hp s2, ht.up s2, by omega, fun H3 q3 ys3 s3 hq3 hys3 hpl => ?_⟩
      refine ⟨_, _, rfl, .inl ⟨_, SqL.of hys3, rfl⟩, _, _, rfl, rfl, _, rfl, ?_⟩
      have hl8 : ys3.length ≤ 8 := by
        have := len_le_of_sub hpl.2.1 (L := L) fun y hy => by
          obtain ⟨t, htm, e⟩ := (hpl.2.2 y).mp hy
          rcases e with e | e
          · rw [e]; exact (hLm t htm).1
          · rw [e]; exact (hLm t htm).2
        omega
      have e4 : decide ((8 : Int) < ((ys3.map V.str).length : Int)) = false := by
        rw [List.length_map]
        simp only [decide_eq_false_iff_not]
        omega
      rw [e4]
      exact k _ (same_tr s2 s3)
end
end N1
set_option maxHeartbeats 1000000
namespace N1
open PySem PySem.Spec PyProof.Rows L2
section
variable {P : Program} {w : World} {K : PySem.W.Frag} {mg : Str → Option Value} {base : Heap}
/-- def f(a, b, *v) -/
theorem fnrStar {x qual : Str} {st : Stmt} {f : Addr} {N : List Str} {p1 p2 pv : Str} {k : Nat} {sp : Sp} (F : IsDef K f x qual st []) (S : FnScope N [p1, p2, pv] (defScope st))
    (h0 : ∀ (kV doc pm : Value) (an : Option Addr) (cdv ct : Value) (a b : Value), bindArgs (PySem.W.fnOf x qual (defArgs st) (defBody st) (defScope st) .none kV doc pm an cdv ct) ⟨[a, b], []⟩ = (newTuple [] >>= fun t => pure [(p1, a), (p2, b), (pv, t)]))
    (h1 : ∀ (kV doc pm : Value) (an : Option Addr) (cdv ct : Value) (a b r : Value) (rs : List Value), bindArgs (PySem.W.fnOf x qual (defArgs st) (defBody st) (defScope st) .none kV doc pm an cdv ct) ⟨a :: b :: r :: rs, []⟩ = (newTuple (r :: rs) >>= fun t => pure [(p1, a), (p2, b), (pv, t)]))
    (hbody : ∀ (cdv : Value) (A : Around) (outer : List Env) (s : Shared) (H : Hp) (vs : List V) (Q : VK) (E : XK), Room k (A.deeper (envOfC qual (defScope st) s.heap.objs.size f cdv)) → sp vs H Q E →
      ∃ t, PSs (cxOf CX0 P w K mg base N qual (defScope st) f cdv A outer s H E).nox (defBody st) t ∧ t { nx := fun _ H' => Q .non H', rt := Q } (start N vs) H) :
    FnR P w K mg base CX0 (k + 1) f (fun vs H Q E => ∃ a b rest, vs = a :: b :: rest ∧ rest.length ≤ sizeLine ∧ ∀ p, H p = none → sp [a, b, .ref p] (upd H p (.tup rest)) Q E) := by
  obtain ⟨fd, F⟩ := F
  obtain ⟨oc, od, dV, kV, doc, pm, an, cdv, ct, osl, rfl, lk, hcd, hD, hK⟩ := F.ex
  rcases hD with ⟨_, rfl⟩ | ⟨e, _⟩
  · have z := StX.fn_star (P := P) (w := w) (mg := mg) (base := base) (CX := CX0) (k := k) (ps := [p1, p2]) (sp := sp) lk hcd S StX.cxUp_none (StX.bind_star2 (B := fun us => bindArgs (PySem.W.fnOf x qual (defArgs st) (defBody st) (defScope st) .none kV doc pm an cdv ct) ⟨us, []⟩) (h0 kV doc pm an cdv ct) (h1 kV doc pm an cdv ct))
      (fun A outer s H vs Q E hr h => (let ⟨t, h1, h2⟩ := hbody cdv A outer s H vs Q E hr h; ⟨t, h1.nox, h2⟩))
    refine z.imp fun vs H Q E h => ?_
    obtain ⟨a, b, rest, rfl, hl, hq⟩ := h
    exact ⟨[a, b], rest, rfl, rfl, hl, hq⟩
  · exact absurd rfl e
end
theorem valV_of_get {kvs : List (Key × V)} (hn : (kvs.map (·.1)).Nodup) {j : Nat} {k : Key} {v : V} (h : kvs[j]? = some (k, v)) : valV kvs k = some v := by
  induction kvs generalizing j with
  | nil => simp at h
  | cons p r ih =>
    have hn2 := List.nodup_cons.mp (show (p.1 :: r.map (·.1)).Nodup from hn)
    cases j with
    | zero =>
      have : p = (k, v) := by simpa using h
      subst this
      exact valV_pos rfl
    | succ j =>
      have h' : r[j]? = some (k, v) := by simpa using h
      have : ¬ p.1 = k := fun e => hn2.1 (by rw [e]; exact List.mem_map.mpr ⟨(k, v), List.mem_of_getElem? h', rfl⟩)
      rw [valV_neg this]
      exact ih hn2.2 h'
/-- a name's place -/
theorem name_at {ts : List TR} {n : Str} (h : n ∈ names ts) : ∃ (j : Nat) (t : TR), ts[j]? = some t ∧ t.name = n := by
  obtain ⟨t, ht, e⟩ := List.mem_map.mp h
  obtain ⟨j, hj, e2⟩ := List.getElem_of_mem ht
  exact ⟨j, t, by rw [List.getElem?_eq_getElem hj, e2], e⟩
/-- name ↦ a list of the one trip -/
def byN (ts : List TR) (qs : List Addr) : List (Key × V) := List.zipWith (fun t q => ((Sum.inr t.name : Key), V.ref q)) ts qs
theorem byN_keys : ∀ {ts : List TR} {qs : List Addr}, ts.length = qs.length → (byN ts qs).map (·.1) = (names ts).map Sum.inr
  | [], [], _ => rfl
  | t :: ts, q :: qs, h => by
    show Sum.inr t.name :: (byN ts qs).map (·.1) = _
    rw [byN_keys (Nat.succ.inj h)]
    rfl
theorem byN_get {ts : List TR} {qs : List Addr} {j : Nat} {t : TR} {q : Addr} (h1 : ts[j]? = some t) (h2 : qs[j]? = some q) : (byN ts qs)[j]? = some (Sum.inr t.name, .ref q) := by
  unfold byN
  rw [List.getElem?_zipWith, h1, h2]
theorem inr_nodup {l : List Str} (h : l.Nodup) : (l.map (Sum.inr : Str → Key)).Nodup := List.Pairwise.map _ (fun a b hab e => hab (Sum.inr.inj e)) h
theorem byN_snoc {ts : List TR} {qs : List Addr} {t : TR} {q : Addr} (h : ts.length = qs.length) : byN (ts ++ [t]) (qs ++ [q]) = byN ts qs ++ [(Sum.inr t.name, .ref q)] := by
  unfold byN
  rw [List.zipWith_append h]
  rfl
/-- where the trip of a name stands -/
def adr : List Addr → List TR → Str → Option Addr
  | a :: as, t :: ts, n => if t.name = n then some a else adr as ts n
  | _, _, _ => none
theorem adr_lk : ∀ {as : List Addr} {ts : List TR} {n : Str}, as.length = ts.length → n ∈ names ts → ∃ (j : Nat) (a : Addr) (t : TR), adr as ts n = some a ∧ lk ts n = some t ∧ as[j]? = some a ∧ ts[j]? = some t
  | [], [], n, _, h => by cases h
  | a :: as, t :: ts, n, hl, h => by
    by_cases e : t.name = n
    · exact ⟨0, a, t, by simp [adr, e], by simp [lk, e], rfl, rfl⟩
    · have h' : n ∈ names ts := by
        rcases List.mem_cons.mp (show n ∈ t.name :: names ts from h) with z | z
        · exact absurd z.symm e
        · exact z
      obtain ⟨j, a', t', h1, h2, h3, h4⟩ := adr_lk (Nat.succ.inj hl) h'
      refine ⟨j + 1, a', t', by simp [adr, e, h1], ?_, h3, h4⟩
      unfold lk at h2 ⊢
      rw [List.find?_cons_of_neg (by simpa using e)]
      exact h2
/-- rs, us: some of as, ts -/
def Sel (as : List Addr) (ts : List TR) (rs : List Addr) (us : List TR) : Prop := rs.length = us.length ∧ ∀ (i : Nat) (a : Addr) (t : TR), rs[i]? = some a → us[i]? = some t → ∃ j : Nat, as[j]? = some a ∧ ts[j]? = some t
theorem Sel.trs {K : PySem.W.Frag} {G : Hp} {as rs : List Addr} {ts us : List TR} (h : Sel as ts rs us) (t : Trs K G as ts) : Trs K G rs us := ⟨h.1, fun i a u h1 h2 => (let ⟨j, e1, e2⟩ := h.2 i a u h1 h2; t.2 j a u e1 e2)⟩
theorem sel_fm {as : List Addr} {ts : List TR} (h : as.length = ts.length) : ∀ l : List Str, (∀ n ∈ l, n ∈ names ts) → Sel as ts (l.filterMap (adr as ts)) (l.filterMap (lk ts))
  | [], _ => ⟨rfl, fun i a t h => by simp at h⟩
  | n :: l, hl => by
    obtain ⟨j, a, t, h1, h2, h3, h4⟩ := adr_lk h (hl n List.mem_cons_self)
    have ih := sel_fm h l fun m hm => hl m (List.mem_cons_of_mem _ hm)
    rw [List.filterMap_cons_some h1, List.filterMap_cons_some h2]
    refine ⟨by simp [ih.1], fun i a' t' e1 e2 => ?_⟩
    cases i with
    | zero =>
      simp at e1 e2
      subst e1 e2
      exact ⟨j, h3, h4⟩
    | succ i =>
      simp at e1 e2
      exact ih.2 i _ _ e1 e2
theorem range_fm {α β : Type} (l : List α) (f : α → Option β) : (List.range l.length).filterMap (fun i : Nat => (l[i]?).bind f) = l.filterMap f := by
  have : ∀ n, n ≤ l.length → (List.range n).filterMap (fun i : Nat => (l[i]?).bind f) = (l.take n).filterMap f := by
    intro n
    induction n with
    | zero => intro _; rfl
    | succ n ih =>
      intro hn
      have h1 : n < l.length := by omega
      rw [List.range_succ, List.filterMap_append, ih (by omega), List.take_succ_eq_append_getElem h1, List.filterMap_append]
      congr 1
      cases e : f l[n] <;> simp [h1, e]
  have := this l.length (Nat.le_refl _)
  rwa [List.take_length] at this
theorem range_map_ {α β : Type} (l : List α) (f : α → β) : (List.range l.length).filterMap (fun i : Nat => (l[i]?).map f) = l.map f := by
  have := range_fm l fun a => some (f a)
  have e : (fun i : Nat => (l[i]?).map f) = fun i : Nat => (l[i]?).bind fun a => some (f a) := by
    funext i
    cases l[i]? <;> rfl
  rw [e, this]
  simp
theorem map_fm_ref (l : List Str) (g : Str → Option Addr) : l.filterMap (fun n => (g n).map V.ref) = (l.filterMap g).map V.ref := by
  induction l with
  | nil => rfl
  | cons n l ih =>
    cases e : g n with
    | none => simp [e, ih]
    | some a => simp [e, ih]
end N1
set_option maxHeartbeats 1000000
namespace N1
open PySem PySem.Spec PyProof.Rows L2
/-- a tuple that is known to have no attributes -/
def FT (G : Hp) (a : Addr) (xs : List V) : Prop := ∃ o : Obj, o.dict = none ∧ G a = some (.frz o (.tup xs))
theorem FT.seq {K : PySem.W.Frag} {G : Hp} {a : Addr} {xs : List V} (h : FT G a xs) : SqT K G a xs := let ⟨o, _, e⟩ := h; .inl (.inr ⟨o, e⟩)
theorem FT.up {G G' : Hp} {a : Addr} {xs : List V} (s : Same G G') (h : FT G a xs) : FT G' a xs := let ⟨o, d, e⟩ := h; ⟨o, d, s _ _ e⟩
section
variable {X : Cx} {pins : List (Addr × Obj)} {σ : L2.St} {H : Hp} {s : Shared}
/-- tuple(xs) -/
def rTupF (K : PySem.W.Frag) : List V → Hp → VK → Prop := fun xs H Q => ∃ p ys, xs = [.ref p] ∧ SqL K H p ys ∧ ∀ (l : Addr) (o : Obj), o.dict = none → H l = none → Q (.ref l) (upd H l (.frz o (.tup ys)))
theorem call_tupleF : CallR X (.type "tuple") (rTupF X.K) := by
  intro pins s σ H xs us Q I r h
  obtain ⟨p, ys, rfl, hq, q⟩ := h
  obtain ⟨u, rfl, rx⟩ := vals1 r
  cases rx
  obtain ⟨its, r', pl, hz⟩ := I.list hq
  have hlen := r'.length
  refine call_tuple_list pl.isList (fun h' kp => ?_) (by simp only [List.size_toArray] <;> omega)
  have I1 : Inv X pins σ H { s with heap := h' } := I.kept (t' := s.toks) kp
  have I2 : Inv X pins σ (upd H h'.objs.size (.frz { cls := .type "tuple", data := .seq its.toArray } (.tup ys))) { s with heap := h'.push { cls := .type "tuple", data := .seq its.toArray } } :=
    I1.laid (t' := s.toks) (fun b o e => Heap.get?_push_of_some _ e) (Nat.le_refl _) (show ObjOk X.prog X.w _ _ _ (.frz _ (.tup ys)) from ⟨Heap.get?_push_size _ rfl, hz, its, r', IsTup.new _ _⟩)
  exact ⟨.ref h'.objs.size, _, I2, rfl, q _ _ rfl (I1.hok.fresh (Nat.le_refl _))⟩
/-- t.m(e ..), t such a tuple -/
def tBMF (r : V → List V → Hp → VK → Prop) (to : TE) (t : TA) : TE := fun σ H Q => to σ H fun x H1 => (∃ p ys, x = .ref p ∧ FT H1 p ys) ∧ t σ H1 fun xs H2 => r x xs H2 Q
theorem pe_bmF {o e : Expr} {es : List Expr} {to : TE} {t : TA} {apos cpos : Pos} {name : Str} {id : String} {r : V → List V → Hp → VK → Prop} (pa : PlainAttrs "tuple") (slot : Slot "tuple" name id) (hty : typeOf (.builtin id) = pure (.type "method_descriptor")) (hm : MtR X id r) (ho : PE X o to) (ha : PA X (e :: es) t)
    (hbase : attributeBase o name X.env (eval o X.env) = eval o X.env := by rfl)
    (hfew : ((backTo cpos (starEach (e :: es) X.env)).all (fun x => !x.1) && (backToKw cpos (keywordEach [] X.env)).all (fun x => x.1.isSome)
      && decide ((e :: es).length + ([] : List Keyword).length + (if ([] : List Keyword).isEmpty then 0 else 1) < 30)) = true := by rfl)
    (hline : (apos.endLine == cpos.line) = true := by rfl) (hs : starEach (e :: es) X.env = (false, eval e X.env) :: starEach es X.env := by rfl) (hplain : (backTo cpos (starEach es X.env)).any (·.1) = false := by rfl) :
    PE X (.Call (.Attribute o name apos) (e :: es) [] cpos) (tBMF r to t) := by
  refine ⟨fun pins s σ H Q I h => ?_⟩
  refine wpAny_Call_method_late hbase hfew hline rfl (thn (ho.run pins s σ H _ I h) fun v s1 ⟨x, H1, I1, r1, ⟨p, ys, ex, ob, hd, hf⟩, q1⟩ => ?_)
  subst ex
  obtain rfl : v = Value.ref p := r1
  obtain ⟨hg, _, its, rv, hT⟩ := (show ObjOk X.prog X.w H1 s1.heap p (.frz ob (.tup ys)) from I1.hok p _ hf)
  obtain ⟨o2, h2, c2, _⟩ := hT
  rw [hg] at h2
  cases h2
  refine ⟨"tuple", id, pa, slot, hty, ⟨ob, hg, c2⟩, fun a e => ?_, ?_⟩
  · cases e
    exact ⟨ob, hg, hd⟩
  have hA := ha.run cpos pins s1 σ H1 _ I1 q1
  rw [hs] at hA ⊢
  refine Calls.callWith_builtin (by show (false || (backTo cpos (starEach es X.env)).any (·.1)) = false; rw [hplain] <;> rfl) (Calls.evalArgs_plain ?_)
  exact thn hA fun us s2 ⟨vs, H2, I2, r2, q2⟩ => hm pins s2 σ H2 (.ref p) vs (.ref p) us Q I2 (show RelV (.ref p) (.ref p) from rfl) r2 q2
end
end N1
set_option maxHeartbeats 2000000
namespace N1
open PySem PySem.Spec PyProof.Rows L2
/-- a table can stand -/
structure TabOk (n : Int) (ts : List TR) : Prop where
  nd : (names ts).Nodup
  l40 : ts.length ≤ 40
  lv : ∀ t ∈ ts, t.leaves < n
  few : Few ts
  bal : Bal ts
abbrev rLenK (K : PySem.W.Frag) : List V → Hp → VK → Prop := fun xs H Q => ∃ x n, xs = [x] ∧ LenV K x H n ∧ Q (.int n) H
abbrev rStr1 : List V → Hp → VK → Prop := fun xs H Q => ∃ a, xs = [.str a] ∧ Q (.str a) H
def tabF (d dn dp dr : Addr) : List (Str × V) := [("day", .ref d), ("names", .ref dn), ("places", .ref dp), ("rows", .ref dr)]
/-- what Table.__init__ has made of x -/
def TabMade (K : PySem.W.Frag) (H : Hp) (x dx d : Addr) (as : List Addr) (ts : List TR) (Q : Hp → Prop) : Prop := ∀ (H' : Hp) (dn dp dr : Addr) (rs : List Addr) (ys : List Str),
  (∀ b v, b ≠ x → H b = some v → H' b = some v) → H' x = some (.ins (cTab K) dx (tabF d dn dp dr)) → H dn = none → H dp = none → H dr = none → FT H' dn ((sn (names ts)).map V.str) → H' dp = some (.tup (ys.map V.str)) →
  H' dr = some (.tup (rs.map V.ref)) → Sel as ts rs (st ts) → Q H'
def spTabI (K : PySem.W.Frag) : Sp := fun vs H Q _ => ∃ (x dx d p : Addr) (n : Int) (as : List Addr) (ts : List TR), vs = [.ref x, .ref d, .ref p] ∧ H p = some (.tup (as.map V.ref)) ∧ Trs K H as ts ∧ DayAt K H d n ∧ TabOk n ts ∧ H x = some (.ins (cTab K) dx []) ∧ TabMade K H x dx d as ts (Q .non)
section
variable {P : Program} {w : World} {K : PySem.W.Frag} {mg : Str → Option Value} {base : Heap}
theorem ok_TableInit (T : FX P K mg) : FnR P w K mg base CX0 3 (ini K "Table") (fun vs H Q E => ∃ a b rest, vs = a :: b :: rest ∧ rest.length ≤ sizeLine ∧ ∀ p, H p = none → spTabI K [a, b, .ref p] (upd H p (.tup rest)) Q E) := by
  refine fnrStar T.f_TableInit sc_TableInit (fun _ _ _ _ _ _ _ _ => rfl) (fun _ _ _ _ _ _ _ _ _ _ => rfl) (fun cdv A outer s H vs Q E hr h => ?_)
  obtain ⟨x, dx, d, p, n, as, ts, rfl, hp, ht, ⟨dd, hd⟩, ok, hx, k⟩ := h
  have nd := sc_TableInit.nd
  have hu := hu_of hr
  have hr1 : Room 1 _ := hr.mono (by decide)
  have cT := T.cls "Table" (by decide +kernel)
  have cD := T.cls "Day" (by decide +kernel)
  refine ⟨_, pss_cons (ps_if (pt_not (pt_val (cb "isinstance" T call_isi (pa_cons (pv 1) (pa_cons (gc "Day" T) pa_nil))))) pss_never pss_nil)
    (pss_cons (ps_expr (cl "need_all_trips" T (ok_need_all_trips T) hr1 (pa_cons (pv 2) pa_nil)))
    (pss_cons (ps_set (i := 3) nd rfl (Or.inr rfl) pe_dnewK)
    (pss_cons (ps_for PassesOwn.never rfl (pi_tup (pv 2)) (pg_name (i := 4) nd rfl (Or.inl rfl)) (pss_one (ps_dput hu (pv 3) (pe_fld (pv 4) rfl) (pe_lst (StX.pa_star (pe_dget2 hu (pv 3) (pe_fld (pv 4) rfl) (pe_lst pa_nil) ⟨rfl, rfl, rfl, rfl⟩) (pa_cons (pv 4) pa_nil))) rfl)))
    (pss_cons (ps_set (i := 6) nd rfl (Or.inl rfl) (cb "sorted" T cr_sortedS (pa_cons (pe_lock (pe_lc (own := [("name", 5)]) (g := gName 5) (tt := tYes) (te := tCB rStr1 (tCons (tVar 5) tNil)) rfl nd (pi_keys (pv 3)) (blkOk_by (N := ["self", "day", "trips", "by_name", "trip", "name", "names", "twice", "place"]) (sc := defScope m_TableInit) (by decide +kernel))
        (fun _ _ _ _ _ => pg_name (i := 5) nd rfl (Or.inl rfl)) (fun _ _ _ _ _ => pts_nil) (fun _ _ _ _ _ => ct "str" T SkE.call_str_str (pa_cons (pv 5) pa_nil)))) pa_nil)))
    (pss_cons (ps_setLc (i := 7) (own := [("name", 5)]) (g := gName 5) (tt := tTest (tOp (rI0 fun i j => .bl (decide (j < i))) (tCB (rLenK K) (tCons (tDGet (tVar 3) (tVar 5)) tNil)) (tC (.int 1)))) (te := tVar 5) rfl nd rfl rfl (sw_true rfl rfl rfl (by decide +kernel)) (pi_list (pv 6)) (blkOk_by (N := ["self", "day", "trips", "by_name", "trip", "name", "names", "twice", "place"]) (sc := defScope m_TableInit) (by decide +kernel))
        (fun _ _ _ _ _ => pg_name (i := 5) nd rfl (Or.inl rfl)) (fun _ _ _ _ _ => pts_one (pt_cmpR op_gt (cb "len" T call_len (pa_cons (pe_dget hu (pv 3) (pv 5) (fun _ _ => rfl)) pa_nil)) pe_int (nomark _))) (fun _ _ _ _ _ => pv 5))
    (pss_cons (ps_if (pt_cmpR op_gt (cb "len" T call_len (pa_cons (pv 7) pa_nil)) pe_int (nomark _)) pss_never pss_nil)
    (pss_cons (ps_expr (cl "need_few" T (ok_need_few T) hr (pa_cons (pv 1) (pa_cons (pv 2) pa_nil))))
    (pss_cons (ps_set (i := 8) nd rfl (Or.inl rfl) (cl "unbalanced" T (ok_unbalanced T) hr (pa_cons (pv 2) pa_nil)))
    (pss_cons (ps_if (pt_cmp (pc_notN (pv 8))) pss_never pss_nil)
    (pss_cons (ps_fld (pv 0) (pv 1) rfl)
    (pss_cons (ps_fld (pv 0) (ct "tuple" T call_tupleF (pa_cons (pv 6) pa_nil)) rfl)
    (pss_cons (ps_fld (pv 0) (ct "tuple" T call_tuple_of (pa_cons (cl "places_of" T (ok_places_of T) hr1 (pa_cons (pv 2) pa_nil)) pa_nil)) rfl)
    (pss_one (ps_fld (pv 0) (ct "tuple" T call_tuple_of (pa_cons (pe_lc (own := [("name", 5)]) (g := gName 5) (tt := tYes) (te := tOp (rIxL K) (tDGet (tVar 3) (tVar 5)) (tC (.int 0))) rfl nd (pi_list (pv 6)) (blkOk_by (N := ["self", "day", "trips", "by_name", "trip", "name", "names", "twice", "place"]) (sc := defScope m_TableInit) (by decide +kernel))
        (fun _ _ _ _ _ => pg_name (i := 5) nd rfl (Or.inl rfl)) (fun _ _ _ _ _ => pts_nil) (fun _ _ _ _ _ => pe_ix ix_list (pe_dget hu (pv 3) (pv 5) (fun _ _ => rfl)) pe_int (fun _ _ => rfl))) pa_nil)) rfl)))))))))))))), ?_⟩
  refine ⟨_, rfl, _, _, _, _, true, rfl, .own _, isi_ok T T.isD cD hd, T.isD.k1, _, rfl, ?_⟩
  refine ⟨_, rfl, p, as, ts, rfl, SqT.of hp, ht, fun H1 s1 => ?_⟩
  intro dB hdB
  have none_of : ∀ {H' : Hp} {q : Addr}, Same H H' → H' q = none → H q = none := fun {H' q} s e => by
    cases z : H q with
    | none => rfl
    | some o => rw [s _ _ z] at e; cases e
  have hB0 : H dB = none := none_of s1 hdB
  have ndt : ∀ i, (names (ts.take i)).Nodup := fun i => by
    have := ok.nd
    unfold names at this ⊢
    rw [List.map_take]
    exact this.sublist (List.take_sublist _ _)
  refine ⟨_, rfl, p, rfl, ⟨_, SqT.of ((same_new s1 hdB) _ _ hp)⟩, ?_⟩
  refine for_it (walk_tup (K := K) (a := p) (xs := as.map V.ref)) (fun i σ H' => Same H H' ∧ (∃ qs : List Addr, qs.length = i ∧ H' dB = some (.dK (byN (ts.take i) qs)) ∧ ∀ (j : Nat) (q a : Addr), qs[j]? = some q → as[j]? = some a → H' q = some (.lst [.ref a])) ∧
      ∃ v, σ = [some (.ref x), some (.ref d), some (.ref p), some (.ref dB), v, none, none, none, none])
    ⟨same_new s1 hdB, ⟨[], rfl, by rw [upd_same]; rfl, fun j q a h => by simp at h⟩, _, rfl⟩ (fun i σ H' _ h => SqT.of (h.1 _ _ hp)) ?_ ?_
  · rintro i v σ H2 H3 hi ⟨s2, ⟨qs, hql, hk, hqs⟩, v4, rfl⟩ ⟨rfl, hxx⟩
    obtain ⟨a, t, rfl, ha, hti, dt, hta⟩ := ht.at hxx
    have c := trT T t
    have hil : i < ts.length := (List.getElem?_eq_some_iff.mp hti).1
    have hta3 := s2 _ _ hta
    have hnew : valV (byN (ts.take i) qs) (Sum.inr t.name) = none := by
      cases e : valV (byN (ts.take i) qs) (Sum.inr t.name) with
      | none => rfl
      | some u =>
        have hm := valV_in e
        rw [byN_keys (by rw [List.length_take, hql]; omega)] at hm
        have hm2 : t.name ∈ names (ts.take i) := by
          obtain ⟨z, hz, ez⟩ := List.mem_map.mp hm
          rw [← Sum.inr.inj ez]
          exact hz
        have := ndt (i + 1)
        rw [List.take_succ_eq_append_getElem hil] at this
        unfold names at this
        rw [List.map_append] at this
        have h3 := (List.nodup_append.mp this).2.2 _ hm2 t.name (by
          have : ts[i] = t := by
            rw [List.getElem?_eq_getElem hil] at hti
            exact Option.some.inj hti
          simp [this])
        exact absurd rfl h3
    have lenk : (byN (ts.take i) qs).length < sizeLine := by
      unfold byN
      rw [List.length_zipWith, sizeLine_eq, List.length_take]
      have := ok.l40
      omega
    refine ⟨_, rfl, dB, rfl, .inl ⟨_, .inl hk⟩, _, rfl, a, _, dt, _, _, rfl, hta3, c.c, c.n1, lk_name t, Nat.zero_le _, fun l hl => ?_⟩
    have nlB : dB ≠ l := ne_of_none hk hl
    refine ⟨none, .inl ⟨_, Sum.inr t.name, .inl (by rw [upd_ne nlB]; exact hk), rfl, hnew.symm⟩, l, [], rfl, .inr (SqL.of upd_same), _, rfl, (by show 1 ≤ sizeLine; decide), fun q hq => ?_⟩
    have nqB : dB ≠ q := fun z => by
      rw [← z, upd_ne nlB, hk] at hq
      cases hq
    have hql2 : H3 q = none := by
      have : q ≠ l := fun z => by rw [z, upd_same] at hq; cases hq
      rw [upd_ne this] at hq
      exact hq
    have s4 : Same H3 (upd (upd H3 l (.lst [])) q (.lst [.ref a])) := same_new (same_new same_rfl hl) hq
    have hk4 : (upd (upd H3 l (.lst [])) q (.lst [V.ref a])) dB = some (.dK (byN (ts.take i) qs)) := s4 _ _ hk
    refine ⟨_, rfl, _, rfl, a, _, dt, _, _, rfl, s4 _ _ hta3, c.c, c.n1, lk_name t, dB, _, rfl, DPut.k (k := Sum.inr t.name) hk4 lenk, ?_⟩
    refine ⟨same_at (same_tr s2 s4) hB0, ⟨qs ++ [q], by rw [List.length_append, hql]; rfl, ?_, ?_⟩, _, rfl⟩
    · rw [upd_same, putK_new _ hnew, List.take_succ_eq_append_getElem hil, byN_snoc (by rw [List.length_take, hql]; omega)]
      have : ts[i] = t := by
        rw [List.getElem?_eq_getElem hil] at hti
        exact Option.some.inj hti
      rw [this]
    · intro j q' a' hj ha'
      by_cases hji : j < qs.length
      · rw [List.getElem?_append_left hji] at hj
        have e := hqs j q' a' hj ha'
        rw [upd_ne (ne_of hk e (by intro z; cases z)).symm]
        exact s4 _ _ e
      · have hj2 : j = qs.length := by
          have := (List.getElem?_eq_some_iff.mp hj).1
          rw [List.length_append] at this
          simp at this
          omega
        subst hj2
        rw [List.getElem?_append_right (Nat.le_refl _)] at hj
        simp at hj
        subst hj
        rw [hql, ha] at ha'
        cases ha'
        rw [upd_ne nqB.symm, upd_same]
        rfl
  · rintro σ H2 ⟨s2, ⟨qs, hql, hk, hqs⟩, v4, rfl⟩
    rw [List.length_map, ht.1] at hql
    rw [List.length_map, ht.1, List.take_length] at hk
    have hbk : ((byN ts qs).map (·.1)).Nodup := by
      rw [byN_keys hql.symm]
      exact inr_nodup ok.nd
    have lenB : (byN ts qs).length = ts.length := by
      unfold byN
      rw [List.length_zipWith, hql]
      omega
    have l40 := ok.l40
    refine ⟨dB, _, hk, trivial, fun od => ⟨_, rfl, dB, od, rfl, .inl ⟨byN ts qs, upd_same, fun D hD => lc_f walk_keys (fun i => (ts[i]?).map fun t => V.str t.name) hD (by omega) (fun H' s => s _ _ upd_same) ?_ ?_⟩⟩⟩
    · rintro i v Ha Hb kk k0 hi sa ⟨rfl, key, val, hkv, rfl⟩ h2 h3
      have hil : i < ts.length := by omega
      have hiq : i < qs.length := by omega
      have e := byN_get (List.getElem?_eq_getElem hil) (List.getElem?_eq_getElem hiq)
      rw [hkv] at e
      cases e
      exact ⟨rfl, _, rfl, _, rfl, h2 _ _ (by rw [List.getElem?_eq_getElem hil]; rfl) same_rfl⟩
    · intro H3 s3 hL3
      rw [lenB, range_map_] at hL3
      have nDB : D ≠ dB := fun z => by rw [z, upd_same] at hD; cases hD
      have hB3 := s3 _ _ (upd_same (H := H2) (a := dB) (o := .frz od (.dK (byN ts qs))))
      refine ⟨hB3, D, names ts, rfl, SqL.of ?_, ?_, fun ys q6 hperm hsort hq6 => ?_⟩
      · rw [upd_ne nDB, hL3]
        unfold names
        rw [List.map_map]
        rfl
      · unfold names
        rw [List.length_map]
        omega
      have ey := sn_of hperm hsort
      subst ey
      have s6 : Same H2 (upd (upd H3 dB (.dK (byN ts qs))) q6 (.lst ((sn (names ts)).map V.str))) := by
        refine same_new (fun b o e => ?_) hq6
        by_cases hb : b = dB
        · subst hb
          rw [upd_same, ← hk]
          exact e
        · rw [upd_ne hb]
          exact s3 _ _ (by rw [upd_ne hb]; exact e)
      generalize hH6 : upd (upd H3 dB (.dK (byN ts qs))) q6 (.lst ((sn (names ts)).map V.str)) = H6 at s6
      have h6 : H6 q6 = some (.lst ((sn (names ts)).map V.str)) := by rw [← hH6]; exact upd_same
      have lenS : ((sn (names ts)).map V.str).length = ts.length := by rw [List.length_map, sn_length]; unfold names; rw [List.length_map]
      -- what a name finds
      have find : ∀ {H' : Hp} {i : Nat} {v : V}, (∀ b o, H6 b = some o → (∃ kvs, o = .dK kvs) ∨ (∃ zs, o = .lst zs) → H' b = some o) → ((sn (names ts)).map V.str)[i]? = some v → ∃ (nm : Str) (j : Nat) (q a : Addr), v = .str nm ∧ (sn (names ts))[i]? = some nm ∧ DGet H' dB v (some (.ref q)) ∧ H' q = some (.lst [.ref a]) ∧ adr as ts nm = some a := by
        intro H' i v hs hv
        rw [List.getElem?_map] at hv
        cases e : (sn (names ts))[i]? with
        | none => rw [e] at hv; cases hv
        | some nm =>
          rw [e] at hv
          have ev : v = .str nm := (Option.some.inj hv).symm
          have hm : nm ∈ names ts := mem_sn.mp (List.mem_of_getElem? e)
          obtain ⟨j, a, t, h1, h2, h3, h4⟩ := adr_lk ht.1 hm
          have hjl : j < qs.length := by rw [hql]; exact (List.getElem?_eq_some_iff.mp h4).1
          have hnm : t.name = nm := (lk_some h2).2
          have hv := valV_of_get hbk (byN_get h4 (List.getElem?_eq_getElem hjl))
          rw [hnm] at hv
          refine ⟨nm, j, qs[j], a, ev, rfl, ?_, hs _ _ (s6 _ _ (hqs j _ _ (List.getElem?_eq_getElem hjl) h3)) (.inr ⟨_, rfl⟩), h1⟩
          rw [ev]
          exact .inl ⟨_, Sum.inr nm, .inl (hs _ _ (s6 _ _ hk) (.inl ⟨_, rfl⟩)), rfl, hv.symm⟩
      refine ⟨_, rfl, q6, rfl, ⟨_, SqL.of h6⟩, fun D2 hD2 => lc_f walk_list (fun _ => none) hD2 (by omega) (fun H' s => SqL.of (s _ _ h6)) ?_ ?_⟩
      · rintro i v Ha Hb kk k0 hi sa ⟨rfl, hv⟩ h2 h3
        obtain ⟨nm, j, q, a, rfl, e1, e2, e3, e4⟩ := find (fun b o e _ => sa b o e) hv
        exact ⟨rfl, _, rfl, _, rfl, dB, _, rfl, e2, _, 1, rfl, .inl ⟨_, SqL.of e3, rfl⟩, _, _, rfl, rfl, _, rfl, h3 rfl _ same_rfl⟩
      intro H7 s7 hL7
      have e0 : (List.range ((sn (names ts)).map V.str).length).filterMap (fun _ : Nat => (none : Option V)) = [] := by simp
      rw [e0] at hL7
      refine ⟨_, rfl, _, _, rfl, .inl ⟨_, SqL.of hL7, rfl⟩, _, _, rfl, rfl, _, rfl, ?_⟩
      have e1 : decide ((0 : Int) < (([] : List V).length : Int)) = false := by decide
      rw [e1]
      have sH7 : Same H H7 := same_tr s2 (same_tr s6 s7)
      refine ⟨_, rfl, _, rfl, d, p, n, as, ts, rfl, ⟨dd, sH7 _ _ hd⟩, SqT.of (sH7 _ _ hp), ht.up sH7, ok.l40, ok.lv, ok.few, fun H8 s8 => ?_⟩
      have sH8 := same_tr sH7 s8
      refine ⟨_, rfl, p, as, ts, rfl, SqT.of (sH8 _ _ hp), ht.up sH8, by omega, ok.bal, fun H9 s9 => ?_⟩
      have sH9 := same_tr sH8 s9
      refine ⟨_, rfl, _, rfl, ?_⟩
      have e2 : (!decide (V.non = V.non)) = false := by simp
      rw [e2]
      have hx9 := sH9 _ _ hx
      have h9 : H9 q6 = some (.lst ((sn (names ts)).map V.str)) := s9 _ _ (s8 _ _ (s7 _ _ h6))
      have n6x : q6 ≠ x := (ne_of h9 hx9 (by intro z; cases z))
      refine ⟨_, rfl, _, rfl, x, _, dx, _, rfl, hx9, cT, T.noat ("Table", "day") (by decide +kernel), by decide, ?_⟩
      generalize hA : upd H9 x (.ins (cTab K) dx (putF "day" (.ref d) [])) = HA
      have oA : ∀ b o, b ≠ x → H9 b = some o → HA b = some o := fun b o hb e => by rw [← hA, upd_ne hb]; exact e
      have xA : HA x = some (.ins (cTab K) dx (putF "day" (.ref d) [])) := by rw [← hA]; exact upd_same
      refine ⟨_, rfl, q6, _, rfl, SqL.of (oA _ _ n6x h9), fun dn oN hoN hdn => ?_⟩
      have nxn : x ≠ dn := ne_of_none xA hdn
      refine ⟨_, rfl, x, _, dx, _, rfl, (by rw [upd_ne nxn]; exact xA), cT, T.noat ("Table", "names") (by decide +kernel), lt_putF (by decide), ?_⟩
      generalize hB : upd (upd HA dn (.frz oN (.tup ((sn (names ts)).map V.str)))) x (.ins (cTab K) dx (putF "names" (.ref dn) (putF "day" (.ref d) []))) = HB
      have oB : ∀ b o, b ≠ x → HA b = some o → HB b = some o := fun b o hb e => by rw [← hB, upd_ne hb, upd_ne (ne_of_none e hdn)]; exact e
      have xB : HB x = some (.ins (cTab K) dx (putF "names" (.ref dn) (putF "day" (.ref d) []))) := by rw [← hB]; exact upd_same
      have nB : HB dn = some (.frz oN (.tup ((sn (names ts)).map V.str))) := by rw [← hB, upd_ne nxn.symm]; exact upd_same
      have old : ∀ b o, b ≠ x → H b = some o → HB b = some o := fun b o hb e => oB b o hb (oA b o hb (sH9 _ _ e))
      have nta : ∀ (i : Nat) (a : Addr) (t : TR), as[i]? = some a → ts[i]? = some t → a ≠ x := fun i a t h1 h2 z => by
        obtain ⟨dt, e⟩ := ht.2 i a t h1 h2
        rw [z, hx] at e
        have e := Option.some.inj e
        injection e with _ _ e
        cases e
      have hTB : Trs K HB as ts := ⟨ht.1, fun i a t h1 h2 => (let ⟨dt, e⟩ := ht.2 i a t h1 h2; ⟨dt, old _ _ (nta i a t h1 h2) e⟩)⟩
      have npx : p ≠ x := ne_of hp hx (by intro z; cases z)
      refine ⟨_, rfl, p, as, ts, rfl, SqT.of (old _ _ npx hp), hTB, by omega, fun HC qp ys sC hqp hqp2 hys => ?_⟩
      refine ⟨qp, _, rfl, .inl ⟨SqL.of hqp2, fun dp hdp => ?_⟩⟩
      have xC := sC _ _ xB
      have nxp : x ≠ dp := ne_of_none xC hdp
      refine ⟨_, rfl, x, _, dx, _, rfl, (by rw [upd_ne nxp]; exact xC), cT, T.noat ("Table", "places") (by decide +kernel), lt_putF (lt_putF (by decide)), ?_⟩
      generalize hD : upd (upd HC dp (.tup (ys.map V.str))) x (.ins (cTab K) dx (putF "places" (.ref dp) (putF "names" (.ref dn) (putF "day" (.ref d) [])))) = HD
      have oD : ∀ b o, b ≠ x → HC b = some o → HD b = some o := fun b o hb e => by rw [← hD, upd_ne hb, upd_ne (ne_of_none e hdp)]; exact e
      have xD : HD x = some (.ins (cTab K) dx (putF "places" (.ref dp) (putF "names" (.ref dn) (putF "day" (.ref d) [])))) := by rw [← hD]; exact upd_same
      have pD : HD dp = some (.tup (ys.map V.str)) := by rw [← hD, upd_ne nxp.symm]; exact upd_same
      have o9D : ∀ b o, b ≠ x → H9 b = some o → HD b = some o := fun b o hb e => oD b o hb (sC _ _ (oB b o hb (oA b o hb e)))
      have h6D := o9D _ _ n6x h9
      refine ⟨_, rfl, q6, rfl, ⟨_, SqL.of h6D⟩, fun DR hDR => lc_f walk_list (fun i => ((sn (names ts))[i]?).bind fun nm => (adr as ts nm).map V.ref) hDR (by omega) (fun H' s => SqL.of (s _ _ h6D)) ?_ ?_⟩
      · rintro i v Ha Hb kk k0 hi sa ⟨rfl, hv⟩ h2 h3
        obtain ⟨nm, j, q, a, rfl, e1, e2, e3, e4⟩ := find (fun b o e hk2 => sa b o (o9D b o (fun z => by
          subst z
          have := s9 _ _ (s8 _ _ (s7 _ _ e))
          rw [hx9] at this
          rcases hk2 with ⟨z, e5⟩ | ⟨z, e5⟩
          · rw [e5] at this; cases this
          · rw [e5] at this; cases this) (s9 _ _ (s8 _ _ (s7 _ _ e))))) hv
        exact ⟨rfl, _, rfl, _, rfl, dB, _, rfl, e2, q, _, 0, _, rfl, rfl, SqL.of e3, rfl, h2 _ _ (by rw [e1]; show (adr as ts nm).map V.ref = _; rw [e4]; rfl) same_rfl⟩
      intro HE sE hE
      have eR : (List.range ((sn (names ts)).map V.str).length).filterMap (fun i : Nat => ((sn (names ts))[i]?).bind fun nm => (adr as ts nm).map V.ref) = ((sn (names ts)).filterMap (adr as ts)).map V.ref := by
        rw [List.length_map, range_fm, map_fm_ref]
      rw [eR] at hE
      refine ⟨DR, _, rfl, .inl ⟨SqL.of hE, fun dr hdr => ?_⟩⟩
      have xE := sE _ _ xD
      have nxr : x ≠ dr := ne_of_none xE hdr
      refine ⟨_, rfl, x, _, dx, _, rfl, (by rw [upd_ne nxr]; exact xE), cT, T.noat ("Table", "rows") (by decide +kernel), lt_putF (lt_putF (lt_putF (by decide))), ?_⟩
      have oF : ∀ b o, b ≠ x → HE b = some o → (upd (upd HE dr (.tup (((sn (names ts)).filterMap (adr as ts)).map V.ref))) x (.ins (cTab K) dx (putF "rows" (.ref dr) (putF "places" (.ref dp) (putF "names" (.ref dn) (putF "day" (.ref d) [])))))) b = some o := fun b o hb e => by
        rw [upd_ne hb, upd_ne (ne_of_none e hdr)]
        exact e
      have fresh : ∀ {H' : Hp} {q : Addr}, (∀ b o, b ≠ x → H b = some o → H' b = some o) → x ≠ q → H' q = none → H q = none := fun {H' q} s hq e => by
        cases z : H q with
        | none => rfl
        | some o => rw [s _ _ hq.symm z] at e; cases e
      refine k _ dn dp dr ((sn (names ts)).filterMap (adr as ts)) ys (fun b o hb e => oF b o hb (sE _ _ (oD b o hb (sC _ _ (old b o hb e))))) upd_same (fresh (fun b o hb e => oA b o hb (sH9 _ _ e)) nxn hdn) (fresh (fun b o hb e => sC _ _ (old b o hb e)) nxp hdp)
        (fresh (fun b o hb e => sE _ _ (oD b o hb (sC _ _ (old b o hb e)))) nxr hdr) ⟨oN, hoN, oF _ _ nxn.symm (sE _ _ (oD _ _ nxn.symm (sC _ _ nB)))⟩ (oF _ _ nxp.symm (sE _ _ pD)) ?_ (sel_fm ht.1 _ fun n h => mem_sn.mp h)
      rw [upd_ne nxr.symm]
      exact upd_same
end
end N1
set_option maxHeartbeats 1000000
namespace N1
open PySem PySem.Spec PyProof.Rows L2
section
variable {X : Cx} {n : Nat}
theorem rcG_insR {CX : CXT} {C f : Addr} {R : Addr → Addr → Hp → Prop} {E : XK} (F : FnR X.prog X.w X.K X.mg X.base CX n f (spEq R)) (M : Meth X.K C "__eq__" f) (hx : Passes CX X E) : RcG X n (DIns C R) := by
  intro A pins s σ H x y u v sb I rx ry d
  obtain ⟨a, b, dx, dy, fs, gs, rfl, rfl, ha, hb', hr⟩ := d
  cases rx
  cases ry
  obtain ⟨mA, J, _⟩ := ins_get I.hok ha
  obtain ⟨mB, J', _⟩ := ins_get I.hok hb'
  obtain ⟨od, J, _⟩ := J.look
  obtain ⟨od', J', _⟩ := J'.look
  obtain ⟨m, hF⟩ := I.fr
  refine PySem.W.cmp_K (op := .Eq) (tb := .ref C) sb.room.units0 hF I.ok.mod.kin J J'.type (by simp [PySem.W.notFirst]) M.at_ M.fn ?_
  have hsp : spEq R [.ref a, .ref b] H (fun v H' => v = .bl true ∧ Ext H H') E := ⟨a, b, rfl, hr, fun H' e => ⟨rfl, e⟩⟩
  have e0 : Env0 X.prog X.w X.K X.mg X.base A X.stack s H := by
    have e := I.env0
    exact ⟨by rw [sb.fr]; exact e.frames, e.mod, e.bs, e.bsz, e.funs, e.frf, e.hok, e.bare⟩
  refine thn (run_at F sb.room e0 hx I (.cons (show RelV (.ref a) (.ref a) from rfl) (.cons (show RelV (.ref b) (.ref b) from rfl) .nil)) hsp) ?_
  rintro r s' ⟨v', H', I', rv, rfl, ex⟩
  obtain rfl : r = Value.bool true := rv
  exact ⟨rfl, H', I', ex⟩
end
/-- two trips alike -/
def TwoT (K : PySem.W.Frag) (a b : Addr) (H : Hp) : Prop := ∃ t : TR, t.Ok ∧ TripAt K H a t ∧ TripAt K H b t
def TableAt (K : PySem.W.Frag) (G : Hp) (a : Addr) (n : Int) (us : List TR) : Prop := ∃ (dx d dn dp dr : Addr) (rs : List Addr), G a = some (.ins (cTab K) dx (tabF d dn dp dr)) ∧ DayAt K G d n ∧ FT G dn ((names us).map V.str) ∧ G dr = some (.tup (rs.map V.ref)) ∧ Trs K G rs us
theorem TableAt.up {K : PySem.W.Frag} {G G' : Hp} {a : Addr} {n : Int} {us : List TR} (s : Same G G') (h : TableAt K G a n us) : TableAt K G' a n us := by
  obtain ⟨dx, d, dn, dp, dr, rs, h1, h2, h3, h4, h5⟩ := h
  exact ⟨dx, d, dn, dp, dr, rs, s _ _ h1, h2.up s, h3.up s, s _ _ h4, h5.up s⟩
theorem frz_get {G H : Hp} {b : Addr} {o : HO} (s : Same G H) (hn : G b ≠ none) (h : H b = some o) : G b = some o := by
  cases e : G b with
  | none => exact absurd e hn
  | some u => rw [← h]; exact (s _ _ e).symm
theorem upd_nn {G : Hp} {p b : Addr} {o : HO} (h : b = p ∨ G b ≠ none) : (upd G p o) b ≠ none := by
  by_cases e : b = p
  · rw [e, upd_same]; intro z; cases z
  · rw [upd_ne e]
    exact h.resolve_left e
def spTabOf (K : PySem.W.Frag) : Sp := fun vs H Q _ => ∃ (G : Hp) (d l : Addr) (n : Int) (as : List Addr) (ts : List TR), vs = [.ref d, .ref l] ∧ Same G H ∧ DayAt K G d n ∧ H l = some (.lst (as.map V.ref)) ∧ Trs K G as ts ∧ TabOk n ts ∧
  ∀ H' G' p, Gx [] G H G' H' → H p = none → TableAt K G' p n (st ts) → Q (.ref p) H'
def spTabIn (K : PySem.W.Frag) : Sp := fun vs H Q _ => ∃ (a : Addr) (x : Str) (n : Int) (us : List TR), vs = [.ref a, .str x] ∧ TableAt K H a n us ∧ Q (.bl (decide (x ∈ names us))) H
/-- a table with its rows' places -/
def TabR (K : PySem.W.Frag) (G : Hp) (a : Addr) (n : Int) (us : List TR) (rs : List Addr) : Prop := ∃ (dx d dn dp dr : Addr), G a = some (.ins (cTab K) dx (tabF d dn dp dr)) ∧ DayAt K G d n ∧ FT G dn ((names us).map V.str) ∧ G dr = some (.tup (rs.map V.ref)) ∧ Trs K G rs us
theorem TableAt.rows {K : PySem.W.Frag} {G : Hp} {a : Addr} {n : Int} {us : List TR} (h : TableAt K G a n us) : ∃ rs, TabR K G a n us rs := let ⟨dx, d, dn, dp, dr, rs, h⟩ := h; ⟨rs, dx, d, dn, dp, dr, h⟩
theorem TabR.tab {K : PySem.W.Frag} {G : Hp} {a : Addr} {n : Int} {us : List TR} {rs : List Addr} (h : TabR K G a n us rs) : TableAt K G a n us := let ⟨dx, d, dn, dp, dr, h⟩ := h; ⟨dx, d, dn, dp, dr, rs, h⟩
def spTabGet (K : PySem.W.Frag) : Sp := fun vs H Q _ => ∃ (G : Hp) (a : Addr) (x : Str) (n : Int) (us : List TR) (rs : List Addr), vs = [.ref a, .str x] ∧ Same G H ∧ TabR K G a n us rs ∧ (names us).Nodup ∧ x ∈ names us ∧ ∀ b, adr rs us x = some b → Q (.ref b) H
def spTabEq (K : PySem.W.Frag) : Sp := fun vs H Q _ => ∃ (a b : Addr) (n : Int) (us : List TR), vs = [.ref a, .ref b] ∧ TableAt K H a n us ∧ TableAt K H b n us ∧ (∀ t ∈ us, t.Ok) ∧ ∀ H', Same H H' → Q (.bl true) H'
theorem inV_str (x : Str) : ∀ xs : List Str, inV (.str x) (xs.map V.str) = decide (x ∈ xs)
  | [] => rfl
  | y :: ys => by
    show (eqV (.str y) (.str x) || inV (.str x) (ys.map V.str)) = _
    rw [inV_str x ys]
    show ((y == x) || _) = _
    by_cases e : y = x
    · subst e; simp
    · have : ¬ x = y := fun z => e z.symm
      simp [e, this]
section
variable {P : Program} {w : World} {K : PySem.W.Frag} {mg : Str → Option Value} {base : Heap}
theorem ok_TableOf (T : FX P K mg) : FnR P w K mg base CX0 5 (st_ K "Table" "of") (spTabOf K) := by
  refine fnr T.f_TableOf sc_TableOf (fun _ _ _ _ _ _ us hl => match us, hl with | [_, _], _ => rfl) (fun vs H Q E h => ?_) (fun cdv A outer s H vs Q E hr h => ?_)
  · obtain ⟨G, d, l, n, as, ts, rfl, _⟩ := h
    rfl
  · obtain ⟨G, d, l, n, as, ts, rfl, gs, ⟨dd, hd⟩, hl, ht, ok, k⟩ := h
    have cD := T.cls "Day" (by decide +kernel)
    have hr1 : Room 1 _ := hr.mono (by decide)
    refine ⟨_, pss_cons (ps_if (pt_not (pt_val (cb "isinstance" T call_isi (pa_cons (pv 0) (pa_cons (gc "Day" T) pa_nil))))) pss_never pss_nil)
      (pss_cons (ps_if (pt_not (pt_val (cl "is_row" T (ok_is_row T) hr1 (pa_cons (pv 1) pa_nil)))) pss_never pss_nil)
      (pss_one (ps_ret (pe_makeS (T.mkr "Table" (by decide +kernel)) (ok_TableInit T) hr rfl (T.glo "Table" (by decide +kernel)) pass0 (pa_cons (pv 0) (StX.pa_star (pv 1) pa_nil)))))), ?_⟩
    refine ⟨_, rfl, _, _, _, _, true, rfl, .own _, isi_ok T T.isD cD (gs _ _ hd), T.isD.k1, _, rfl, ?_⟩
    refine ⟨_, rfl, l, _, rfl, hl, fun H1 s1 => ⟨_, rfl, ?_⟩⟩
    have g1 : Gx [] G H G H1 := (Gx.refl gs).same s1
    refine ⟨_, rfl, _, rfl, l, _, rfl, .inr (SqL.of (s1 _ _ hl)), fun x dx hx hdx hne => ?_⟩
    have l40 := ok.l40
    refine ⟨_, _, as.map V.ref ++ [], rfl, by rw [List.append_nil, List.length_map, ht.1, sizeLine_eq]; omega, fun p hp => ?_⟩
    have sUp : Same H1 (upd (upd H1 dx (.own x)) x (.ins (cTab K) dx [])) := same_new (same_new same_rfl hdx) (by rw [upd_ne (Ne.symm hne)]; exact hx)
    have sP : Same H1 (upd (upd (upd H1 dx (.own x)) x (.ins (cTab K) dx [])) p (.tup (as.map V.ref ++ []))) := same_tr sUp (same_new same_rfl hp)
    have npx : x ≠ p := fun z => by rw [← z, upd_same] at hp; cases hp
    refine ⟨x, dx, d, p, n, as, ts, rfl, by rw [upd_same, List.append_nil], ht.up (same_tr g1.gh sP), ⟨dd, sP _ _ (g1.gh _ _ hd)⟩, ok, by rw [upd_ne npx]; exact upd_same, fun H' dn dp dr rs ys k1 hx' f1 f2 f3 ⟨oN, hoN, e1⟩ e2 e3 htr => ⟨rfl, ?_⟩⟩
    have frs : ∀ {q : Addr}, (upd (upd (upd H1 dx (.own x)) x (.ins (cTab K) dx [])) p (.tup (as.map V.ref ++ []))) q = none → H1 q = none ∧ x ≠ q := fun {q} e => by
      constructor
      · cases z : H1 q with
        | none => rfl
        | some o => rw [sP _ _ z] at e; cases e
      · rintro rfl
        rw [upd_ne npx, upd_same] at e
        cases e
    have g2 : Gx [] G H (upd G x (.ins (cTab K) dx (tabF d dn dp dr))) H' := g1.made hx hdx hne (fun b v hb e => k1 b v hb (by rw [upd_ne (ne_of_none e hp)]; exact e)) hx'
    have g3 := g2.frz e1 (g1.old (frs f1).1)
    have g4 := g3.frz e3 (g1.old (frs f3).1)
    refine k H' _ x g4 (g1.old hx) ⟨dx, d, dn, dp, dr, rs, ?_, ⟨dd, g4.gg _ _ hd⟩, ?_, ?_, ?_⟩
    · exact frz_get g4.gh (upd_nn (.inr (upd_nn (.inr (upd_nn (.inl rfl)))))) hx'
    · refine ⟨oN, hoN, frz_get g4.gh (upd_nn (.inr (upd_nn (.inl rfl)))) ?_⟩
      rw [e1, names_st]
    · exact upd_same
    · exact (htr.trs ht).up g4.gg
theorem ok_TableContains (T : FX P K mg) : FnR P w K mg base CX0 1 (ma K (ga K "Table") "__contains__") (spTabIn K) := by
  refine fnr T.f_TableContains sc_TableContains (fun _ _ _ _ _ _ us hl => match us, hl with | [_, _], _ => rfl) (fun vs H Q E h => ?_) (fun cdv A outer s H vs Q E hr h => ?_)
  · obtain ⟨a, x, n, us, rfl, _⟩ := h
    rfl
  · obtain ⟨a, x, n, us, rfl, ⟨dx, d, dn, dp, dr, rs, h1, h2, h3, h4, h5⟩, k⟩ := h
    have cT := T.cls "Table" (by decide +kernel)
    refine ⟨_, pss_one (ps_ret (pe_and (cb "isinstance" T call_isi (pa_cons (pv 1) (pa_cons (gt "str" "str" T) pa_nil))) (pe_one (pe_cmpR op_in_seq (pv 1) (pe_fld (pv 0) rfl) rfl)))), ?_⟩
    refine ⟨_, rfl, _, _, _, _, true, rfl, .ty _, .base (.str x), kit_ty (by decide +kernel), _, rfl, ?_⟩
    refine ⟨_, rfl, _, rfl, a, _, dx, _, _, rfl, h1, cT, T.noat ("Table", "names") (by decide +kernel), rfl, dn, _, rfl, .inr h3.seq, rfl, ?_, ?_⟩
    · rw [List.all_map]
      exact List.all_eq_true.mpr fun _ _ => rfl
    · show Q (.bl (inV (.str x) ((names us).map V.str))) H
      rw [inV_str]
      exact k
theorem ok_TableGetitem (T : FX P K mg) : FnR P w K mg base CX0 2 (ma K (ga K "Table") "__getitem__") (spTabGet K) := by
  refine fnr T.f_TableGetitem sc_TableGetitem (fun _ _ _ _ _ _ us hl => match us, hl with | [_, _], _ => rfl) (fun vs H Q E h => ?_) (fun cdv A outer s H vs Q E hr h => ?_)
  · obtain ⟨G, a, x, n, us, rs, rfl, _⟩ := h
    rfl
  · obtain ⟨G, a, x, n, us, rs, rfl, gs, tab0, nd, hm, k⟩ := h
    obtain ⟨dx, d, dn, dp, dr, h1, h2, h3, h4, h5⟩ := id tab0
    have tab := tab0.tab.up gs
    replace h1 := gs _ _ h1
    replace h3 := h3.up gs
    replace h4 := gs _ _ h4
    have cT := T.cls "Table" (by decide +kernel)
    refine ⟨_, pss_cons (ps_if (pt_cmpR (or_ownNotIn (T.meth ("Table", "__contains__") (by decide +kernel)) (ok_TableContains T) hr pass0) (pv 1) (pv 0) rfl) pss_never pss_nil)
      (pss_one (ps_ret (pe_ix ix_tup (pe_fld (pv 0) rfl) (pe_bmF PySem.F.plainAttrs_tuple PySem.F.slot_tuple_index PySem.F.type_tuple_index mt_tup_index (pe_fld (pv 0) rfl) (pa_cons (pv 1) pa_nil)) (fun _ _ => rfl)))), ?_⟩
    refine ⟨_, rfl, _, rfl, a, rfl, ⟨_, _, h1⟩, a, x, n, us, rfl, tab, _, rfl, _, rfl, ?_⟩
    rw [decide_eq_true hm]
    obtain ⟨j, b', t, ea, elk, haj, hj⟩ := adr_lk h5.1 hm
    have ht := (lk_some elk).2
    have hjr : j < rs.length := by rw [h5.1]; exact (List.getElem?_eq_some_iff.mp hj).1
    refine ⟨_, rfl, a, _, dx, _, _, rfl, h1, cT, T.noat ("Table", "rows") (by decide +kernel), rfl, ?_⟩
    refine ⟨_, rfl, a, _, dx, _, _, rfl, h1, cT, T.noat ("Table", "names") (by decide +kernel), rfl, ⟨dn, _, rfl, h3⟩, _, rfl, dn, names us, x, j, rfl, rfl, h3.seq, ?_, ?_, dr, _, _, _, rfl, rfl, SqT.of h4, atI_nat (j := j) (v := .ref rs[j]) (by rw [List.getElem?_map, List.getElem?_eq_getElem hjr]; rfl), ?_⟩
    · unfold names
      rw [List.getElem?_map, hj, ← ht]
      rfl
    · intro m hmj e
      have hml : m < (names us).length := (List.getElem?_eq_some_iff.mp e).1
      have ejn : (names us)[j]? = some x := by
        unfold names
        rw [List.getElem?_map, hj, ← ht]
        rfl
      have hjl : j < (names us).length := (List.getElem?_eq_some_iff.mp ejn).1
      have e1 := (List.getElem?_eq_some_iff.mp e).2
      have e2 := (List.getElem?_eq_some_iff.mp ejn).2
      exact absurd (show (names us)[m] = (names us)[j] by rw [e1, e2]) (List.pairwise_iff_getElem.mp nd m j hml hjl hmj)
    · exact k _ (by rw [ea, ← haj, List.getElem?_eq_getElem hjr])
theorem mon_two (C : Addr) : Mon (DIns C (TwoT K)) := mon_ins fun a b H H' e ⟨t, ok, ha, hb⟩ => ⟨t, ok, ha.up e, hb.up e⟩
def DTr (K : PySem.W.Frag) : Eqv := fun x y H => DIns (cRun K) (TwoT K) x y H ∨ DIns (cStay K) (TwoT K) x y H
theorem mon_tr : Mon (DTr K) := (mon_two _).or (mon_two _)
theorem eqG_trips {X : Cx} (T : FX X.prog X.K X.mg) : EqG X 1 (DTr X.K) := by
  have F : FnR X.prog X.w X.K X.mg X.base CX0 1 (ma X.K (ga X.K "Trip") "__eq__") (spEq (TwoT X.K)) := (ok_TripEq T).imp fun vs H Q E ⟨a, b, e, ⟨t, ok, ha, hb⟩, k⟩ => ⟨a, b, t, e, ok, ha, hb, k⟩
  have M1 := T.meth ("Run", "__eq__") (by decide +kernel)
  have M2 := T.meth ("Stay", "__eq__") (by decide +kernel)
  have e1 := (T.tmE "Run" (by decide +kernel)).1
  have e2 := (T.tmE "Stay" (by decide +kernel)).1
  have r1 : RcG X 1 (DIns (cRun X.K) (TwoT X.K)) := rcG_insR (E := E0) (e1 ▸ F) M1 pass0
  have r2 : RcG X 1 (DIns (cStay X.K) (TwoT X.K)) := rcG_insR (E := E0) (e2 ▸ F) M2 pass0
  exact (r1.eqG fun _ _ _ d => let ⟨a, b, _, _, _, _, hx, hy, _⟩ := d; ⟨a, b, hx, hy⟩).or (r2.eqG fun _ _ _ d => let ⟨a, b, _, _, _, _, hx, hy, _⟩ := d; ⟨a, b, hx, hy⟩)
theorem dtr_of {H : Hp} {a b : Addr} {t : TR} (ok : t.Ok) (ha : TripAt K H a t) (hb : TripAt K H b t) : DTr K (.ref a) (.ref b) H := by
  obtain ⟨dx, h1⟩ := id ha
  obtain ⟨dy, h2⟩ := id hb
  unfold cTR at h1 h2
  cases e : t.run
  · rw [e] at h1 h2
    exact .inr ⟨a, b, dx, dy, _, _, rfl, rfl, h1, h2, t, ok, ha, hb⟩
  · rw [e] at h1 h2
    exact .inl ⟨a, b, dx, dy, _, _, rfl, rfl, h1, h2, t, ok, ha, hb⟩
theorem ok_TableEq (T : FX P K mg) : FnR P w K mg base CX0 3 (ma K (ga K "Table") "__eq__") (spTabEq K) := by
  refine fnr T.f_TableEq sc_TableEq (fun _ _ _ _ _ _ us hl => match us, hl with | [_, _], _ => rfl) (fun vs H Q E h => ?_) (fun cdv A outer s H vs Q E hr h => ?_)
  · obtain ⟨a, b, n, us, rfl, _⟩ := h
    rfl
  · obtain ⟨a, b, n, us, rfl, ⟨dx, d, dn, dp, dr, rs, h1, h2, h3, h4, h5⟩, ⟨dy, d', dn', dp', dr', rs', g1, g2, g3, g4, g5⟩, ok, k⟩ := h
    have cT := T.cls "Table" (by decide +kernel)
    have nD := T.noat ("Table", "day") (by decide +kernel)
    have nR := T.noat ("Table", "rows") (by decide +kernel)
    refine ⟨_, pss_one (ps_ret (pe_and (cb "isinstance" T call_isi (pa_cons (pv 1) (pa_cons (gc "Table" T) pa_nil))) (pe_and (pe_cmpR (or_ownEq (T.meth ("Day", "__eq__") (by decide +kernel)) (ok_DayEq T) (hr.mono (by decide)) pass0) (pe_fld (pv 0) rfl) (pe_fld (pv 1) rfl) (nomark _))
      (pe_one (pe_cmpR (op_eqG (rcG_tup mon_tr (eqG_trips T)) hr) (pe_fld (pv 0) rfl) (pe_fld (pv 1) rfl) (nomark _)))))), ?_⟩
    refine ⟨_, rfl, _, _, _, _, true, rfl, .own _, isi_ok T T.isT cT g1, T.isT.k1, _, rfl, ?_⟩
    obtain ⟨d1, hd1⟩ := id h2
    obtain ⟨d2, hd2⟩ := id g2
    refine ⟨_, rfl, a, _, dx, _, _, rfl, h1, cT, nD, rfl, _, rfl, b, _, dy, _, _, rfl, g1, cT, nD, rfl, d, d', rfl, rfl, ⟨_, _, hd1⟩, ⟨_, _, hd2⟩, d, d', n, n, rfl, h2, g2, _, rfl, _, rfl, ?_⟩
    have e : decide (n = n) = true := by simp
    rw [e]
    refine ⟨_, rfl, a, _, dx, _, _, rfl, h1, cT, nR, rfl, _, rfl, b, _, dy, _, _, rfl, g1, cT, nR, rfl, ⟨dr, dr', _, _, rfl, rfl, SqT.of h4, SqT.of g4, ?_⟩, fun H' s => k H' s⟩
    refine ⟨by rw [List.length_map, List.length_map, h5.1, g5.1], fun i x y e1 e2 => ?_⟩
    obtain ⟨a1, t1, rfl, ha1, ht1, tr1⟩ := h5.at e1
    obtain ⟨a2, t2, rfl, ha2, ht2, tr2⟩ := g5.at e2
    rw [ht1] at ht2
    cases ht2
    exact dtr_of (ok t1 (List.mem_of_getElem? ht1)) tr1 tr2
end
end N1
set_option maxHeartbeats 1000000
namespace N1
open PySem PySem.Spec PyProof.Rows L2
/-! plain: places and numbers -/
def lkI (l : List (Str × Int)) (x : Str) : Option Int := (l.find? fun p => decide (p.1 = x)).map (·.2)
def nzI (l : List (Str × Int)) (x : Str) : Int := (lkI l x).getD 0
def keysI (l : List (Str × Int)) : List Str := l.map (·.1)
def nrm (l : List (Str × Int)) : List (Str × Int) := (sn ((keysI l).filter fun x => decide (nzI l x ≠ 0))).map fun x => (x, nzI l x)
def kI (l : List (Str × Int)) : List (Key × V) := l.map fun p => (Sum.inr p.1, V.int p.2)
def vI (l : List (Str × Int)) : List (Str × V) := l.map fun p => (p.1, V.int p.2)
theorem kw_vI (l : List (Str × Int)) : kwKeys (vI l) = kI l := by unfold kwKeys vI kI; rw [List.map_map]; rfl
theorem vI_keys (l : List (Str × Int)) : (vI l).map (·.1) = keysI l := by unfold vI keysI; rw [List.map_map]; rfl
theorem kI_keys (l : List (Str × Int)) : (kI l).map (·.1) = (keysI l).map Sum.inr := by unfold kI keysI; rw [List.map_map, List.map_map]; rfl
theorem valV_kI (l : List (Str × Int)) (x : Str) : valV (kI l) (Sum.inr x) = (lkI l x).map V.int := by
  unfold valV kI lkI
  induction l with
  | nil => rfl
  | cons p r ih =>
    by_cases e : p.1 = x
    · subst e
      simp
    · have e2 : ¬ (Sum.inr p.1 : Key) = Sum.inr x := fun z => e (Sum.inr.inj z)
      rw [List.map_cons, List.find?_cons_of_neg (by simpa using e2), List.find?_cons_of_neg (by simpa using e)]
      exact ih
theorem lkI_none {l : List (Str × Int)} {x : Str} : lkI l x = none ↔ x ∉ keysI l := by
  unfold lkI keysI
  rw [Option.map_eq_none_iff, List.find?_eq_none]
  constructor
  · intro h hm
    obtain ⟨p, hp, e⟩ := List.mem_map.mp hm
    exact h p hp (by simpa using e)
  · intro h p hp e
    exact h (List.mem_map.mpr ⟨p, hp, by simpa using e⟩)
theorem sn_filter (l : List Str) (p : Str → Bool) : (sn l).filter p = sn (l.filter p) :=
  List.Perm.eq_of_pairwise (fun a b _ _ h1 h2 => leS_anti h1 h2) ((sn_pw l).filter p) (sn_pw _) (((sn_perm l).filter p).trans (sn_perm _).symm)
theorem mem_nz {l : List (Str × Int)} {x : Str} (h : nzI l x ≠ 0) : x ∈ keysI l := by
  cases e : lkI l x with
  | none => unfold nzI at h; rw [e] at h; exact absurd rfl h
  | some v =>
    have : ¬ lkI l x = none := by rw [e]; intro z; cases z
    rw [lkI_none] at this
    exact Classical.not_not.mp this
/-- the same numbers, the same rows -/
theorem nrm_ext {l l' : List (Str × Int)} (h : (keysI l).Nodup) (h' : (keysI l').Nodup) (e : ∀ x, nzI l x = nzI l' x) : nrm l = nrm l' := by
  unfold nrm
  have p : ((keysI l).filter fun x => decide (nzI l x ≠ 0)).Perm ((keysI l').filter fun x => decide (nzI l' x ≠ 0)) := by
    refine (List.perm_ext_iff_of_nodup (h.filter _) (h'.filter _)).mpr fun x => ?_
    rw [List.mem_filter, List.mem_filter]
    simp only [decide_eq_true_eq]
    constructor
    · rintro ⟨_, hx⟩
      rw [e] at hx
      exact ⟨mem_nz hx, hx⟩
    · rintro ⟨_, hx⟩
      rw [← e] at hx
      exact ⟨mem_nz hx, hx⟩
  rw [sn_congr p]
  exact List.map_congr_left fun x _ => by rw [e]
theorem keys_nrm (l : List (Str × Int)) : keysI (nrm l) = sn ((keysI l).filter fun x => decide (nzI l x ≠ 0)) := by
  unfold nrm
  rw [keysI, List.map_map]
  exact List.map_id' _
theorem nodup_nrm {l : List (Str × Int)} (h : (keysI l).Nodup) : (keysI (nrm l)).Nodup := by
  rw [keys_nrm]
  exact sn_nodup (h.filter _)
theorem lkI_map {l : List Str} {f : Str → Int} {x : Str} : lkI (l.map fun y => (y, f y)) x = if x ∈ l then some (f x) else none := by
  unfold lkI
  induction l with
  | nil => rfl
  | cons y r ih =>
    by_cases e : y = x
    · subst e
      simp
    · have e2 : ¬ x = y := fun z => e z.symm
      rw [List.map_cons, List.find?_cons_of_neg (by simpa using e), ih]
      simp [e2]
theorem nz_nrm (l : List (Str × Int)) (x : Str) : nzI (nrm l) x = nzI l x := by
  show (lkI (nrm l) x).getD 0 = nzI l x
  unfold nrm
  rw [lkI_map]
  by_cases h : nzI l x = 0
  · have : x ∉ sn ((keysI l).filter fun x => decide (nzI l x ≠ 0)) := fun hm => by
      have := List.mem_filter.mp (mem_sn.mp hm)
      simp [h] at this
    rw [if_neg this, h]
    rfl
  · rw [if_pos (mem_sn.mpr (List.mem_filter.mpr ⟨mem_nz h, by simpa using h⟩))]
    rfl
theorem lkI_of {l : List (Str × Int)} (hn : (keysI l).Nodup) {p : Str × Int} (h : p ∈ l) : lkI l p.1 = some p.2 := by
  induction l with
  | nil => cases h
  | cons q r ih =>
    have hn2 := List.nodup_cons.mp (show (q.1 :: keysI r).Nodup from hn)
    unfold lkI
    rcases List.mem_cons.mp h with e | e
    · subst e
      simp
    · have ne : ¬ q.1 = p.1 := fun z => hn2.1 (by rw [z]; exact List.mem_map.mpr ⟨p, e, rfl⟩)
      rw [List.find?_cons_of_neg (by simpa using ne)]
      exact ih hn2.2 e
theorem lkI_mem {l : List (Str × Int)} {x : Str} {v : Int} (h : lkI l x = some v) : (x, v) ∈ l := by
  unfold lkI at h
  cases e : l.find? (fun p => decide (p.1 = x)) with
  | none => rw [e] at h; cases h
  | some p =>
    rw [e] at h
    have h1 := List.mem_of_find?_eq_some e
    have h2 : p.1 = x := by have := List.find?_some e; exact of_decide_eq_true this
    have h3 : p.2 = v := Option.some.inj h
    rw [← h2, ← h3]
    exact h1
/-- rows of pauses that stand -/
structure PaOk (l : List (Str × Int)) : Prop where
  nd : (keysI l).Nodup
  nm : ∀ p ∈ l, NameOk p.1
  lo : ∀ p ∈ l, 0 ≤ p.2 ∧ p.2 ≤ 1000000000000
  sz : l.length ≤ 60
theorem PaOk.nrm {l : List (Str × Int)} (h : PaOk l) : PaOk (N1.nrm l) := by
  have mem : ∀ p ∈ N1.nrm l, p ∈ l := fun p hp => by
    unfold N1.nrm at hp
    obtain ⟨x, hx, e⟩ := List.mem_map.mp hp
    have := List.mem_filter.mp (mem_sn.mp hx)
    have hnz : nzI l x ≠ 0 := by simpa using this.2
    rw [← e]
    cases e2 : lkI l x with
    | none => unfold nzI at hnz; rw [e2] at hnz; exact absurd rfl hnz
    | some v =>
      have : nzI l x = v := by unfold nzI; rw [e2]; rfl
      rw [this]
      exact lkI_mem e2
  refine ⟨nodup_nrm h.nd, fun p hp => h.nm p (mem p hp), fun p hp => h.lo p (mem p hp), ?_⟩
  unfold N1.nrm
  rw [List.length_map, sn_length]
  exact Nat.le_trans (List.length_filter_le _ _) (by unfold keysI; rw [List.length_map]; exact h.sz)
end N1
set_option maxHeartbeats 1000000
namespace N1
open PySem PySem.Spec PyProof.Rows L2
theorem unlock_same {H H' : Hp} {d : Addr} {u : HO} {od : Obj} (s : Same (upd H d (.frz od u)) H') (h : H d = some u) : Same H (upd H' d u) := fun b o e => by
  by_cases hb : b = d
  · subst hb
    rw [upd_same, ← h]
    exact e
  · rw [upd_ne hb]
    exact s _ _ (by rw [upd_ne hb]; exact e)
def pauF (dn dr : Addr) : List (Str × V) := [("numbers", .ref dn), ("rows", .ref dr)]
def PausesAt (K : PySem.W.Frag) (G : Hp) (a : Addr) (ps : List (Str × Int)) : Prop := ∃ dx dn dr, G a = some (.ins (cPau K) dx (pauF dn dr)) ∧ G dn = some (.dK (kI ps))
theorem PausesAt.up {K : PySem.W.Frag} {G G' : Hp} {a : Addr} {ps : List (Str × Int)} (s : Same G G') (h : PausesAt K G a ps) : PausesAt K G' a ps := let ⟨dx, dn, dr, h1, h2⟩ := h; ⟨dx, dn, dr, s _ _ h1, s _ _ h2⟩
def spAlone : Sp := fun vs H Q _ => ∃ (d : Addr) (l : List (Str × Int)), vs = [.ref d] ∧ H d = some (.dK (kI l)) ∧ (∀ p ∈ l, NameOk p.1) ∧ l.length ≤ 60 ∧ ∀ H', Same H H' → Q .non H'
def PauMade (K : PySem.W.Frag) (H : Hp) (x dx : Addr) (l : List (Str × Int)) (Q : Hp → Prop) : Prop := ∀ (H' : Hp) (dn dr : Addr), (∀ b v, b ≠ x → H b = some v → H' b = some v) → H' x = some (.ins (cPau K) dx (pauF dn dr)) → H dn = none → H' dn = some (.dK (kI (nrm l))) → Q H'
def spPauB (K : PySem.W.Frag) : Sp := fun vs H Q _ => ∃ (x dx d : Addr) (l : List (Str × Int)), vs = [.ref x, .ref d] ∧ H d = some (.dK (kI l)) ∧ PaOk l ∧ H x = some (.ins (cPau K) dx []) ∧ PauMade K H x dx l (Q .non)
def spPauI (K : PySem.W.Frag) : SpK := fun vs kv H Q _ => ∃ (x dx : Addr) (l : List (Str × Int)), vs = [.ref x] ∧ kv = vI l ∧ PaOk l ∧ H x = some (.ins (cPau K) dx []) ∧ PauMade K H x dx l (Q .non)
section
variable {P : Program} {w : World} {K : PySem.W.Frag} {mg : Str → Option Value} {base : Heap}
theorem ok_need_names_alone (T : FX P K mg) : FnR P w K mg base CX0 2 (ga K "need_names_alone") spAlone := by
  refine fnr T.f_need_names_alone sc_need_names_alone (fun _ _ _ _ _ _ us hl => match us, hl with | [_], _ => rfl) (fun vs H Q E h => ?_) (fun cdv A outer s H vs Q E hr h => ?_)
  · obtain ⟨d, l, rfl, _⟩ := h
    rfl
  · obtain ⟨d, l, rfl, hd, hn, hl, k⟩ := h
    have nd := sc_need_names_alone.nd
    refine ⟨_, pss_one (ps_lock (ps_for PassesOwn.never rfl (pi_keys (pv 0)) (pg_name (i := 1) nd rfl (Or.inl rfl)) (pss_one (ps_if (pt_not (pt_val (cl "is_name" T (ok_is_name T) hr (pa_cons (pv 1) pa_nil)))) pss_never pss_nil)))), ?_⟩
    refine ⟨d, _, hd, trivial, fun od => ⟨_, rfl, d, od, rfl, .inl ⟨kI l, upd_same, ?_⟩⟩⟩
    refine for_it walk_keys (fun i σ H' => Same (upd H d (.frz od (.dK (kI l)))) H' ∧ ∃ v, σ = [some (.ref d), v]) ⟨same_rfl, _, rfl⟩ (fun i σ H' _ h => h.1 _ _ upd_same) ?_ ?_
    · rintro i v σ H2 H3 hi ⟨s2, v1, rfl⟩ ⟨rfl, key, val, hkv, rfl⟩
      obtain ⟨p, hp, e⟩ : ∃ p ∈ l, key = Sum.inr p.1 := by
        unfold kI at hkv
        rw [List.getElem?_map] at hkv
        cases e : l[i]? with
        | none => rw [e] at hkv; cases hkv
        | some p =>
          rw [e] at hkv
          cases hkv
          exact ⟨p, List.mem_of_getElem? e, rfl⟩
      subst e
      exact ⟨_, rfl, p.1, rfl, hn p hp, fun H4 s4 => ⟨_, rfl, same_tr s2 s4, _, rfl⟩⟩
    · rintro σ H' ⟨s2, _⟩
      exact ⟨s2 _ _ upd_same, k _ (unlock_same s2 hd)⟩
theorem ok_PausesInit (T : FX P K mg) : FnKw P w K mg base CX0 4 (ini K "Pauses") (spPauI K) := by
  have body : ∀ (cdv : Value) (A : Around) (outer : List Env) (s : Shared) (H : Hp) (vs : List V) (Q : VK) (E : XK), Room 3 (A.deeper (envOfC "Pauses.__init__" (defScope m_PausesInit) s.heap.objs.size (ini K "Pauses") cdv)) → spPauB K vs H Q E →
      ∃ t, PSs (cxOf CX0 P w K mg base ["this_one", "places", "found", "place"] "Pauses.__init__" (defScope m_PausesInit) (ini K "Pauses") cdv A outer s H E).nox (defBody m_PausesInit) t ∧ t { nx := fun _ H' => Q .non H', rt := Q } (start ["this_one", "places", "found", "place"] vs) H := by
    rintro cdv A outer s H vs Q E hr ⟨x, dx, d, l, rfl, hd, ok, hx, k⟩
    have nd := sc_PausesInit.nd
    have hu := hu_of hr
    have cP := T.cls "Pauses" (by decide +kernel)
    refine ⟨_, pss_cons (ps_expr (cl "need_names_alone" T (ok_need_names_alone T) (hr.mono (by decide)) (pa_cons (pv 1) pa_nil)))
      (pss_cons (ps_set (i := 2) nd rfl (Or.inl rfl) pe_dnewK)
      (pss_cons (ps_for PassesOwn.never rfl (pi_list (cb "sorted" T cr_sortedS (pa_cons (pe_lock (pe_lc (own := [("place", 3)]) (g := gName 3) (tt := tYes) (te := tCB rStr1 (tCons (tVar 3) tNil)) rfl nd (pi_keys (pv 1)) (blkOk_by (N := ["this_one", "places", "found", "place"]) (sc := defScope m_PausesInit) (by decide +kernel))
          (fun _ _ _ _ _ => pg_name (i := 3) nd rfl (Or.inl rfl)) (fun _ _ _ _ _ => pts_nil) (fun _ _ _ _ _ => ct "str" T SkE.call_str_str (pa_cons (pv 3) pa_nil)))) pa_nil))) (pg_name (i := 3) nd rfl (Or.inl rfl))
        (pss_cons (ps_if (pt_not (pt_val (cl "is_number" T (ok_is_number T) hr (pa_cons (pe_dget hu (pv 1) (pv 3) (fun _ _ => rfl)) pa_nil)))) pss_never pss_nil)
        (pss_one (ps_if (pt_cmpR op_ne (pe_dget hu (pv 1) (pv 3) (fun _ _ => rfl)) pe_int (nomark _)) (pss_one (ps_dput hu (pv 2) (pv 3) (pe_dget hu (pv 1) (pv 3) (fun _ _ => rfl)) rfl)) pss_nil))))
      (pss_cons (ps_fld (pv 0) (pv 2) rfl)
      (pss_one (ps_fld (pv 0) (ct "tuple" T call_tuple_of (pa_cons (ct "list" T (call_list_dK rfl) (pa_cons (pv 2) pa_nil)) pa_nil)) rfl))))), ?_⟩
    refine ⟨_, rfl, d, l, rfl, hd, ok.nm, ok.sz, fun H1 s1 dF hdF => ?_⟩
    have sz := ok.sz
    have lenK : (kI l).length = l.length := by unfold kI; rw [List.length_map]
    have hF0 : H dF = none := by
      cases z : H dF with
      | none => rfl
      | some o => rw [s1 _ _ z] at hdF; cases hdF
    have s2 : Same H (upd H1 dF (.dK [])) := same_new s1 hdF
    refine ⟨d, _, s2 _ _ hd, trivial, fun od => ⟨_, rfl, d, od, rfl, .inl ⟨kI l, upd_same, fun D hD => lc_f walk_keys (fun i => (l[i]?).map fun p => V.str p.1) hD (by omega) (fun H' s => s _ _ upd_same) ?_ ?_⟩⟩⟩
    · rintro i v Ha Hb kk k0 hi sa ⟨rfl, key, val, hkv, rfl⟩ h2 h3
      obtain ⟨p, hp, e⟩ : ∃ p, l[i]? = some p ∧ key = Sum.inr p.1 := by
        unfold kI at hkv
        rw [List.getElem?_map] at hkv
        cases e : l[i]? with
        | none => rw [e] at hkv; cases hkv
        | some p =>
          rw [e] at hkv
          cases hkv
          exact ⟨p, rfl, rfl⟩
      subst e
      exact ⟨rfl, _, rfl, _, rfl, h2 _ _ (by rw [hp]; rfl) same_rfl⟩
    intro H3 s3 hL3
    rw [lenK, range_map_] at hL3
    have nDB : D ≠ d := fun z => by rw [z, upd_same] at hD; cases hD
    refine ⟨s3 _ _ upd_same, D, keysI l, rfl, SqL.of ?_, by unfold keysI; rw [List.length_map]; omega, fun ys q6 hperm hsort hq6 => ?_⟩
    · rw [upd_ne nDB, hL3]
      unfold keysI
      rw [List.map_map]
      rfl
    have ey := sn_of hperm hsort
    subst ey
    have s6 := same_new (o := .lst ((sn (keysI l)).map V.str)) (unlock_same s3 (s2 _ _ hd)) hq6
    generalize hH6 : upd (upd H3 d (.dK (kI l))) q6 (.lst ((sn (keysI l)).map V.str)) = H6 at s6
    have h6 : H6 q6 = some (.lst ((sn (keysI l)).map V.str)) := by rw [← hH6]; exact upd_same
    have n6F : q6 ≠ dF := ne_of h6 (s6 _ _ (upd_same (H := H1) (a := dF) (o := .dK []))) (by intro z; cases z)
    have sn_len : (sn (keysI l)).length = l.length := by rw [sn_length]; unfold keysI; rw [List.length_map]
    have lenG : ∀ i, (((sn (keysI l)).take i).filter fun x => decide (nzI l x ≠ 0)).length ≤ 60 := fun i => by
      have h1 := List.length_filter_le (fun x => decide (nzI l x ≠ 0)) ((sn (keysI l)).take i)
      rw [List.length_take] at h1
      omega
    refine ⟨q6, rfl, ⟨_, SqL.of h6⟩, for_it walk_list (fun i σ H' => (∀ b o, b ≠ dF → H6 b = some o → H' b = some o) ∧ H' dF = some (.dK (kI ((((sn (keysI l)).take i).filter fun x => decide (nzI l x ≠ 0)).map fun x => (x, nzI l x)))) ∧ ∃ v, σ = [some (.ref x), some (.ref d), some (.ref dF), v])
      ⟨fun b o _ e => e, by rw [← hH6, upd_ne (Ne.symm n6F)]; exact (unlock_same s3 (s2 _ _ hd)) _ _ upd_same, _, rfl⟩ (fun i σ H' _ h => SqL.of (h.1 _ _ n6F h6)) ?_ ?_⟩
    · rintro i v σ H7 H8 hi ⟨k7, hF7, v3, rfl⟩ ⟨rfl, hv⟩
      rw [List.getElem?_map] at hv
      obtain ⟨y, hy, rfl⟩ : ∃ y, (sn (keysI l))[i]? = some y ∧ v = .str y := by
        cases e : (sn (keysI l))[i]? with
        | none => rw [e] at hv; cases hv
        | some y => rw [e] at hv; exact ⟨y, rfl, (Option.some.inj hv).symm⟩
      have hm : y ∈ keysI l := mem_sn.mp (List.mem_of_getElem? hy)
      obtain ⟨n, hn⟩ : ∃ n, lkI l y = some n := by
        cases e : lkI l y with
        | some n => exact ⟨n, rfl⟩
        | none => exact absurd hm (lkI_none.mp e)
      have hnz : nzI l y = n := by unfold nzI; rw [hn]; rfl
      have hlo := ok.lo _ (lkI_mem hn)
      have ndF : d ≠ dF := fun z => by rw [← z, hd] at hF0; cases hF0
      have hd8 : H8 d = some (.dK (kI l)) := k7 _ _ ndF (s6 _ _ (s2 _ _ hd))
      have get : DGet H8 d (.str y) (some (.int n)) := .inl ⟨kI l, Sum.inr y, .inl hd8, rfl, by rw [valV_kI, hn]; rfl⟩
      refine ⟨_, rfl, _, rfl, d, _, rfl, get, n, rfl, _, rfl, ?_⟩
      have e1 : (decide ((0 : Int) ≤ n) && decide (n ≤ 1000000000000)) = true := by simp [hlo.1, hlo.2]
      rw [e1]
      refine ⟨_, rfl, _, rfl, d, _, rfl, get, rfl, _, rfl, ?_⟩
      have il : i < (sn (keysI l)).length := (List.getElem?_eq_some_iff.mp hy).1
      have ey : (sn (keysI l))[i] = y := (List.getElem?_eq_some_iff.mp hy).2
      by_cases h0 : n = 0
      · have e2 : (!decide (V.int n = V.int 0)) = false := by simp [h0]
        rw [e2]
        refine ⟨k7, ?_, _, rfl⟩
        rw [hF7, List.take_succ_eq_append_getElem il, List.filter_append, ey]
        simp [hnz, h0]
      · have e2 : (!decide (V.int n = V.int 0)) = true := by simp [h0]
        rw [e2]
        have hnew : valV (kI ((((sn (keysI l)).take i).filter fun x => decide (nzI l x ≠ 0)).map fun x => (x, nzI l x))) (Sum.inr y) = none := by
          rw [valV_kI, lkI_map, if_neg]
          · rfl
          · intro hm2
            have h1 := (List.mem_filter.mp hm2).1
            have h2 := sn_nodup ok.nd
            obtain ⟨j, hj, e⟩ := List.getElem_of_mem h1
            rw [List.getElem_take] at e
            rw [List.length_take] at hj
            exact absurd (by rw [e, ey]) (List.pairwise_iff_getElem.mp h2 j i (by omega) il (by omega))
        refine ⟨_, rfl, _, rfl, d, _, rfl, get, _, rfl, _, rfl, dF, _, rfl, DPut.k (k := Sum.inr y) hF7 (by unfold kI; rw [List.length_map, List.length_map, sizeLine_eq]; have := lenG i; omega), ?_⟩
        refine ⟨fun b o hb e => by rw [upd_ne hb]; exact k7 b o hb e, ?_, _, rfl⟩
        rw [upd_same, putK_new _ hnew, List.take_succ_eq_append_getElem il, List.filter_append, ey]
        have ef : [y].filter (fun x => decide (nzI l x ≠ 0)) = [y] := by simp [hnz, h0]
        rw [ef, List.map_append]
        unfold kI
        rw [List.map_append]
        simp [hnz]
    · rintro σ H7 ⟨k7, hF7, v3, rfl⟩
      rw [List.length_map, List.take_length, sn_filter] at hF7
      have hx1 : x ≠ dF := fun z => by rw [← z, hx] at hF0; cases hF0
      have all : ∀ b o, H b = some o → H7 b = some o := fun b o e => k7 b o (fun z => by rw [z, hF0] at e; cases e) (s6 _ _ (s2 _ _ e))
      have hx7 := all _ _ hx
      refine ⟨_, rfl, _, rfl, x, _, dx, _, rfl, hx7, cP, T.noat ("Pauses", "numbers") (by decide +kernel), by decide, ?_⟩
      refine ⟨_, rfl, dF, _, rfl, by rw [upd_ne hx1.symm]; exact hF7, fun q hq => ⟨q, _, rfl, .inl ⟨SqL.of upd_same, fun dr hdr => ?_⟩⟩⟩
      have nxq : x ≠ q := fun z => by rw [← z, upd_same] at hq; cases hq
      have nxr : x ≠ dr := fun z => by rw [← z, upd_ne nxq, upd_same] at hdr; cases hdr
      have o7 : ∀ b o, b ≠ x → H7 b = some o → (upd (upd (upd H7 x (.ins (cPau K) dx (putF "numbers" (.ref dF) []))) q (.lst ((kI (nrm l)).map fun kv => kV kv.1))) dr (.tup ((kI (nrm l)).map fun kv => kV kv.1))) b = some o := fun b o hb e => by
        have h1 : (upd H7 x (.ins (cPau K) dx (putF "numbers" (.ref dF) []))) b = some o := by rw [upd_ne hb]; exact e
        have h2 := (same_new (o := .lst ((kI (nrm l)).map fun kv => kV kv.1)) same_rfl hq) _ _ h1
        exact (same_new same_rfl hdr) _ _ h2
      refine ⟨_, rfl, x, _, dx, _, rfl, by rw [upd_ne nxr, upd_ne nxq]; exact upd_same, cP, T.noat ("Pauses", "rows") (by decide +kernel), lt_putF (by decide), ?_⟩
      refine k _ dF dr (fun b o hb e => by rw [upd_ne hb]; exact o7 b o hb (all _ _ e)) upd_same hF0 ?_
      rw [upd_ne hx1.symm]
      exact o7 _ _ hx1.symm hF7
  obtain ⟨fd, F⟩ := T.f_PausesInit
  obtain ⟨oc, od, dV, kV', doc, pm, an, cdv, ct, osl, rfl, lk, hcd, hD, hK⟩ := F.ex
  rcases hD with ⟨_, rfl⟩ | ⟨e, _⟩
  · have z := fn_kw (P := P) (w := w) (mg := mg) (base := base) (CX := CX0) (k := 3) (N := ["this_one", "places", "found", "place"]) (sp := spPauB K) lk hcd sc_PausesInit StX.cxUp_none
      (fun A outer s H vs Q E hr h => (let ⟨t, h1, h2⟩ := body cdv A outer s H vs Q E hr h; ⟨t, h1.nox, h2⟩))
    intro A outer s H us vs kw kv Q E hr e0 r rk h
    refine z A outer s H us vs kw kv Q E hr e0 r rk ?_
    obtain ⟨x, dx, l, rfl, rfl, ok, hx, k⟩ := h
    have sz := ok.sz
    refine ⟨_, rfl, by rw [vI_keys]; exact ok.nd, ?_, by unfold vI; rw [List.length_map, sizeLine_eq]; omega, fun d hd => ?_⟩
    · rw [vI_keys]
      intro hm
      obtain ⟨p, hp, e⟩ := List.mem_map.mp hm
      have := ok.nm p hp
      rw [e] at this
      exact absurd this (by decide +kernel)
    · have hxd : x ≠ d := ne_of_none hx hd
      refine ⟨x, dx, d, l, rfl, by rw [kw_vI]; exact upd_same, ok, by rw [upd_ne hxd]; exact hx, fun H' dn dr k1 hx' f1 hn => k H' dn dr (fun b v hb e => k1 b v hb (by rw [upd_ne (ne_of_none e hd)]; exact e)) hx' ?_ hn⟩
      cases e : H dn with
      | none => rfl
      | some o => rw [upd_ne (ne_of_none e hd), e] at f1; cases f1
  · exact absurd rfl e
/-- a new Pauses at p -/
def NewPau (K : PySem.W.Frag) (G H : Hp) (ps : List (Str × Int)) (Q : VK) : Prop := ∀ H' G' p, Gx [] G H G' H' → H p = none → PausesAt K G' p ps → Q (.ref p) H'
def spPauOf (K : PySem.W.Frag) : Sp := fun vs H Q _ => ∃ (G : Hp) (d : Addr) (l : List (Str × Int)), vs = [.ref d] ∧ Same G H ∧ H d = some (.dK (kI l)) ∧ PaOk l ∧ NewPau K G H (nrm l) Q
def putI (l : List (Str × Int)) (x : Str) (n : Int) : List (Str × Int) := if x ∈ keysI l then l.map (fun p => if p.1 = x then (p.1, n) else p) else l ++ [(x, n)]
def spPauPut (K : PySem.W.Frag) : Sp := fun vs H Q _ => ∃ (G : Hp) (a : Addr) (x : Str) (n : Int) (l : List (Str × Int)), vs = [.ref a, .str x, .int n] ∧ Same G H ∧ PausesAt K G a l ∧ PaOk (putI l x n) ∧ NameOk x ∧ 0 ≤ n ∧ n ≤ 1000000000000 ∧ l.length ≤ 59 ∧ NewPau K G H (nrm (putI l x n)) Q
def spPauGet (K : PySem.W.Frag) : Sp := fun vs H Q _ => ∃ (a : Addr) (x : Str) (l : List (Str × Int)), vs = [.ref a, .str x] ∧ PausesAt K H a l ∧ NameOk x ∧ ∀ H', Same H H' → Q (.int (nzI l x)) H'
def spPauEq (K : PySem.W.Frag) : Sp := fun vs H Q _ => ∃ (a b : Addr) (l : List (Str × Int)), vs = [.ref a, .ref b] ∧ PausesAt K H a l ∧ PausesAt K H b l ∧ (keysI l).Nodup ∧ Q (.bl true) H
theorem pau_made {G H H' : Hp} {x dx : Addr} {l : List (Str × Int)} {dn dr : Addr} {u : HO} {M : List Addr} {G0 H0 : Hp} (g : Gx M G0 H0 G H) (hx : H x = none) (hdx : H dx = none) (hne : dx ≠ x)
    (k1 : ∀ b v, b ≠ x → (upd (upd H dx u) x (.ins (cPau K) dx [])) b = some v → H' b = some v) (hx' : H' x = some (.ins (cPau K) dx (pauF dn dr))) (f1 : (upd (upd H dx u) x (.ins (cPau K) dx [])) dn = none) (hn : H' dn = some (.dK (kI l))) :
    ∃ G', Gx M G0 H0 G' H' ∧ PausesAt K G' x l := by
  have g2 := g.made hx hdx hne k1 hx'
  have nxd : x ≠ dn := fun z => by rw [← z, upd_same] at f1; cases f1
  have hdn : H dn = none := by
    have h2 : dn ≠ dx := fun z => by rw [z, upd_ne hne, upd_same] at f1; cases f1
    rw [upd_ne nxd.symm, upd_ne h2] at f1
    exact f1
  exact ⟨_, g2.frz hn (g.old hdn), dx, dn, dr, by rw [upd_ne nxd]; exact upd_same, upd_same⟩
theorem ok_PausesOf (T : FX P K mg) : FnR P w K mg base CX0 6 (st_ K "Pauses" "of") (spPauOf K) := by
  refine fnr T.f_PausesOf sc_PausesOf (fun _ _ _ _ _ _ us hl => match us, hl with | [_], _ => rfl) (fun vs H Q E h => ?_) (fun cdv A outer s H vs Q E hr h => ?_)
  · obtain ⟨G, d, l, rfl, _⟩ := h
    rfl
  · obtain ⟨G, d, l, rfl, gs, hd, ok, k⟩ := h
    refine ⟨_, pss_cons (ps_if (pt_not (pt_val (cb "isinstance" T call_isi (pa_cons (pv 0) (pa_cons (gt "dict" "dict" T) pa_nil))))) pss_never pss_nil)
      (pss_cons (ps_expr (cl "need_names_alone" T (ok_need_names_alone T) (hr.mono (by decide)) (pa_cons (pv 0) pa_nil)))
      (pss_one (ps_ret (pe_makeDD (T.mkr "Pauses" (by decide +kernel)) (ok_PausesInit T) hr rfl (T.glo "Pauses" (by decide +kernel)) pass0 (pv 0) (by decide) kw_star)))), ?_⟩
    refine ⟨_, rfl, _, _, _, _, true, rfl, .ty _, .base (.dK hd), kit_ty (by decide +kernel), _, rfl, ?_⟩
    refine ⟨_, rfl, d, l, rfl, hd, ok.nm, ok.sz, fun H1 s1 => ?_⟩
    have g1 : Gx [] G H G H1 := (Gx.refl gs).same s1
    intro p hp
    have npd : d ≠ p := ne_of_none (s1 _ _ hd) hp
    refine ⟨_, rfl, d, vI l, rfl, npd, by rw [upd_ne npd, kw_vI]; exact s1 _ _ hd, upd_same, fun x dx hx hdx hne => ?_⟩
    have g2 : Gx [] G H G (upd (upd H1 p (.dK [])) p (.dK (kwKeys (vI l)))) := (g1.new hp).wr (same_non g1.gh hp) (.inr (g1.old hp))
    refine ⟨x, dx, l, rfl, rfl, ok, upd_same, fun H' dn dr k1 hx' f1 hn => ⟨rfl, ?_⟩⟩
    obtain ⟨G', g3, pa⟩ := pau_made g2 hx hdx hne k1 hx' f1 hn
    exact k H' G' x g3 (g2.old hx) pa
end
end N1
set_option maxHeartbeats 1000000
namespace N1
open PySem PySem.Spec PyProof.Rows L2
theorem any_kI (l : List (Str × Int)) (x : Str) : ((kI l).any fun kv => decide (kv.1 = Sum.inr x)) = decide (x ∈ keysI l) := by
  unfold kI keysI
  induction l with
  | nil => rfl
  | cons p r ih =>
    rw [List.map_cons, List.any_cons, ih]
    by_cases e : p.1 = x
    · subst e; simp
    · have e2 : ¬ x = p.1 := fun z => e z.symm
      simp [e, e2]
theorem kI_put (l : List (Str × Int)) (x : Str) (n : Int) : putK (kI l) (Sum.inr x) (.int n) = kI (putI l x n) := by
  unfold putK putI
  rw [any_kI]
  by_cases h : x ∈ keysI l
  · rw [if_pos (by simpa using h), if_pos h]
    unfold kI
    rw [List.map_map, List.map_map]
    refine List.map_congr_left fun p _ => ?_
    by_cases e : p.1 = x
    · subst e; simp
    · simp [e]
  · rw [if_neg (by simpa using h), if_neg h]
    unfold kI
    rw [List.map_append]
    rfl
section
variable {P : Program} {w : World} {K : PySem.W.Frag} {mg : Str → Option Value} {base : Heap}
theorem ok_PausesPut (T : FX P K mg) : FnR P w K mg base CX0 6 (ma K (ga K "Pauses") "put") (spPauPut K) := by
  refine fnr T.f_PausesPut sc_PausesPut (fun _ _ _ _ _ _ us hl => match us, hl with | [_, _, _], _ => rfl) (fun vs H Q E h => ?_) (fun cdv A outer s H vs Q E hr h => ?_)
  · obtain ⟨G, a, x, n, l, rfl, _⟩ := h
    rfl
  · obtain ⟨G, a, xx, n, l, rfl, gs, ⟨da, dn, dr, ha, hn⟩, ok, hx, h0, h1, hl, k⟩ := h
    have nd := sc_PausesPut.nd
    have cP := T.cls "Pauses" (by decide +kernel)
    refine ⟨_, pss_cons (ps_if (pt_not (pt_val (cl "is_name" T (ok_is_name T) (hr.mono (by decide)) (pa_cons (pv 1) pa_nil)))) pss_never pss_nil)
      (pss_cons (ps_if (pt_not (pt_val (cl "is_number" T (ok_is_number T) (hr.mono (by decide)) (pa_cons (pv 2) pa_nil)))) pss_never pss_nil)
      (pss_cons (ps_set (i := 3) nd rfl (Or.inl rfl) (pe_dispU (pe_fld (pv 0) rfl) (pv 1) (pv 2)))
      (pss_one (ps_ret (pe_makeDD (T.mkr "Pauses" (by decide +kernel)) (ok_PausesInit T) hr rfl (T.glo "Pauses" (by decide +kernel)) pass0 (pv 3) (by decide) kw_star))))), ?_⟩
    refine ⟨_, rfl, xx, rfl, hx, fun H1 s1 => ⟨_, rfl, ?_⟩⟩
    have g1 : Gx [] G H G H1 := (Gx.refl gs).same s1
    refine ⟨_, rfl, n, rfl, _, rfl, ?_⟩
    have e1 : (decide ((0 : Int) ≤ n) && decide (n ≤ 1000000000000)) = true := by simp [h0, h1]
    rw [e1]
    intro p hp
    have g2 := g1.new (o := .dK []) hp
    have hnp : dn ≠ p := ne_of_none (g1.gh _ _ hn) hp
    refine ⟨_, rfl, a, _, da, _, _, rfl, g2.gh _ _ ha, cP, T.noat ("Pauses", "numbers") (by decide +kernel), rfl, ?_⟩
    refine ⟨dn, _, rfl, hnp, g2.gh _ _ hn, upd_same, by unfold kI; rw [List.length_map, sizeLine_eq]; omega, fun q hq => ?_⟩
    have hGp : G p = none := same_non g1.gh hp
    have g3 := g2.wr (o := .dK (kI l)) hGp (.inr (g1.old hp))
    have g4 := g3.new (o := .dK []) hq
    have npq : p ≠ q := fun z => by rw [← z, upd_same] at hq; cases hq
    refine ⟨_, rfl, _, rfl, Sum.inr xx, rfl, upd_same, by rw [upd_ne npq]; exact upd_same, ?_⟩
    rw [kI_put]
    have g5 := g4.wr (o := .dK [((Sum.inr xx : Key), V.int n)]) (same_non g3.gh hq) (.inr (g3.old hq))
    have g6 := g5.wr (o := .dK (kI (putI l xx n))) hGp (.inr (g1.old hp))
    generalize hH6 : upd (upd (upd (upd (upd H1 p (.dK [])) p (.dK (kI l))) q (.dK [])) q (.dK [((Sum.inr xx : Key), V.int n)])) p (.dK (kI (putI l xx n))) = H6 at g6
    have hp6 : H6 p = some (.dK (kI (putI l xx n))) := by rw [← hH6]; exact upd_same
    intro p2 hp2
    have npd : p ≠ p2 := ne_of_none hp6 hp2
    refine ⟨_, rfl, p, vI (putI l xx n), rfl, npd, by rw [upd_ne npd, kw_vI]; exact hp6, upd_same, fun x dx hx2 hdx hne => ?_⟩
    have g7 : Gx [] G H G (upd (upd H6 p2 (.dK [])) p2 (.dK (kwKeys (vI (putI l xx n))))) := (g6.new hp2).wr (same_non g6.gh hp2) (.inr (g6.old hp2))
    refine ⟨x, dx, putI l xx n, rfl, rfl, ok, upd_same, fun H' dn' dr' k1 hx' f1 hn' => ⟨rfl, ?_⟩⟩
    obtain ⟨G', g8, pa⟩ := pau_made g7 hx2 hdx hne k1 hx' f1 hn'
    exact k H' G' x g8 (g7.old hx2) pa
theorem ok_PausesGetitem (T : FX P K mg) : FnR P w K mg base CX0 2 (ma K (ga K "Pauses") "__getitem__") (spPauGet K) := by
  refine fnr T.f_PausesGetitem sc_PausesGetitem (fun _ _ _ _ _ _ us hl => match us, hl with | [_, _], _ => rfl) (fun vs H Q E h => ?_) (fun cdv A outer s H vs Q E hr h => ?_)
  · obtain ⟨a, x, l, rfl, _⟩ := h
    rfl
  · obtain ⟨a, x, l, rfl, ⟨da, dn, dr, ha, hn⟩, hx, k⟩ := h
    have cP := T.cls "Pauses" (by decide +kernel)
    refine ⟨_, pss_cons (ps_if (pt_not (pt_val (cl "is_name" T (ok_is_name T) hr (pa_cons (pv 1) pa_nil)))) pss_never pss_nil)
      (pss_one (ps_ret (pe_dget2 (hu_of hr) (pe_fld (pv 0) rfl) (pv 1) pe_int ⟨rfl, rfl, rfl, rfl⟩))), ?_⟩
    refine ⟨_, rfl, x, rfl, hx, fun H1 s1 => ⟨_, rfl, ?_⟩⟩
    refine ⟨_, rfl, a, _, da, _, _, rfl, s1 _ _ ha, cP, T.noat ("Pauses", "numbers") (by decide +kernel), rfl, dn, rfl, .inl ⟨_, .inl (s1 _ _ hn)⟩, _, rfl, _, .inl ⟨kI l, Sum.inr x, .inl (s1 _ _ hn), rfl, rfl⟩, ?_⟩
    rw [valV_kI]
    have e : ((lkI l x).map V.int).getD (.int 0) = .int (nzI l x) := by unfold nzI; cases lkI l x <;> rfl
    rw [e]
    exact k _ s1
theorem ok_PausesEq (T : FX P K mg) : FnR P w K mg base CX0 1 (ma K (ga K "Pauses") "__eq__") (spPauEq K) := by
  refine fnr T.f_PausesEq sc_PausesEq (fun _ _ _ _ _ _ us hl => match us, hl with | [_, _], _ => rfl) (fun vs H Q E h => ?_) (fun cdv A outer s H vs Q E hr h => ?_)
  · obtain ⟨a, b, l, rfl, _⟩ := h
    rfl
  · obtain ⟨a, b, l, rfl, ⟨da, dn, dr, ha, hn⟩, ⟨da', dn', dr', ha', hn'⟩, hnd, k⟩ := h
    have cP := T.cls "Pauses" (by decide +kernel)
    have nN := T.noat ("Pauses", "numbers") (by decide +kernel)
    refine ⟨_, pss_one (ps_ret (pe_and (cb "isinstance" T call_isi (pa_cons (pv 1) (pa_cons (gc "Pauses" T) pa_nil))) (pe_one (pe_cmpR (op_eq_dictA hr.units0) (pe_fld (pv 0) rfl) (pe_fld (pv 1) rfl) (nomark _))))), ?_⟩
    refine ⟨_, rfl, _, _, _, _, true, rfl, .own _, isi_ok T T.isP cP ha', T.isP.k1, _, rfl, ?_⟩
    refine ⟨_, rfl, a, _, da, _, _, rfl, ha, cP, nN, rfl, _, rfl, b, _, da', _, _, rfl, ha', cP, nN, rfl, dn, dn', kI l, kI l, rfl, rfl, hn, hn', rfl, fun p hp => ?_, k⟩
    obtain ⟨q, hq, e⟩ := List.mem_map.mp (show p ∈ l.map (fun p => ((Sum.inr p.1 : Key), V.int p.2)) from hp)
    subst e
    refine ⟨?_, rfl⟩
    rw [valV_kI, lkI_of hnd hq]
    rfl
end
end N1
set_option maxHeartbeats 1000000
/-! need_table, needed_pauses, places_count -/
namespace N1
open PySem PySem.Spec PyProof.Rows L2
def spNeedT (K : PySem.W.Frag) : Sp := fun vs H Q _ => ∃ (a : Addr) (n : Int) (us : List TR), vs = [.ref a] ∧ TableAt K H a n us ∧ Q .non H
def spNeedP (K : PySem.W.Frag) : Sp := fun vs H Q _ => ∃ (a : Addr) (l : List (Str × Int)), vs = [.ref a] ∧ PausesAt K H a l ∧ Q (.ref a) H
def spPC (K : PySem.W.Frag) : Sp := fun vs H Q _ => ∃ (p : Addr) (as : List Addr) (ts : List TR), vs = [.ref p] ∧ SqL K H p (as.map V.ref) ∧ Trs K H as ts ∧ ts.length ≤ 100 ∧ Few ts ∧ ∀ (n : Int) H', n ≤ 8 → Same H H' → Q (.int n) H'
abbrev pls (ts : List TR) : List Str := ts.flatMap fun t => [t.start, t.goal]
section
variable {P : Program} {w : World} {K : PySem.W.Frag} {mg : Str → Option Value} {base : Heap}
theorem ok_need_table (T : FX P K mg) : FnR P w K mg base CX0 1 (ga K "need_table") (spNeedT K) := by
  refine fnr T.f_need_table sc_need_table (fun _ _ _ _ _ _ us hl => match us, hl with | [_], _ => rfl) (fun vs H Q E h => ?_) (fun cdv A outer s H vs Q E hr h => ?_)
  · obtain ⟨a, n, us, rfl, _⟩ := h
    rfl
  · obtain ⟨a, n, us, rfl, ⟨dx, d, dn, dp, dr, rs, h1, _⟩, k⟩ := h
    refine ⟨_, pss_one (ps_if (pt_not (pt_val (cb "isinstance" T call_isi (pa_cons (pv 0) (pa_cons (gc "Table" T) pa_nil))))) pss_never pss_nil), ?_⟩
    exact ⟨_, rfl, _, _, _, _, true, rfl, .own _, isi_ok T T.isT (T.cls "Table" (by decide +kernel)) h1, T.isT.k1, _, rfl, k⟩
theorem ok_needed_pauses (T : FX P K mg) : FnR P w K mg base CX0 1 (ga K "needed_pauses") (spNeedP K) := by
  refine fnr T.f_needed_pauses sc_needed_pauses (fun _ _ _ _ _ _ us hl => match us, hl with | [_], _ => rfl) (fun vs H Q E h => ?_) (fun cdv A outer s H vs Q E hr h => ?_)
  · obtain ⟨a, l, rfl, _⟩ := h
    rfl
  · obtain ⟨a, l, rfl, ⟨dx, dn, dr, h1, h2⟩, k⟩ := h
    refine ⟨_, pss_cons (ps_if (pt_cmp (pc_isN (pv 0))) pss_never pss_nil)
      (pss_cons (ps_if (pt_not (pt_val (cb "isinstance" T call_isi (pa_cons (pv 0) (pa_cons (gc "Pauses" T) pa_nil))))) pss_never pss_nil) (pss_one (ps_ret (pv 0)))), ?_⟩
    refine ⟨_, rfl, _, rfl, ?_⟩
    rw [show decide (V.ref a = V.non) = false from by simp]
    refine ⟨_, rfl, _, _, _, _, true, rfl, .own _, isi_ok T T.isP (T.cls "Pauses" (by decide +kernel)) h1, T.isP.k1, _, rfl, ?_⟩
    exact ⟨_, rfl, k⟩
theorem ok_places_count (T : FX P K mg) : FnR P w K mg base CX0 1 (ga K "places_count") (spPC K) := by
  refine fnr T.f_places_count sc_places_count (fun _ _ _ _ _ _ us hl => match us, hl with | [_], _ => rfl) (fun vs H Q E h => ?_) (fun cdv A outer s H vs Q E hr h => ?_)
  · obtain ⟨p, as, ts, rfl, _⟩ := h
    rfl
  · obtain ⟨p, as, ts, rfl, hp, ht, h100, ⟨L, hL8, hLm⟩, k⟩ := h
    have nd := sc_places_count.nd
    refine ⟨_, pss_one (ps_ret (cb "len" T cr_lenSetS (pa_cons
      (pe_sc2 (own := [("trip", 1), ("place", 2)]) (vs1 := [2]) (g := gName 1) (tt := tYes) (wi1 := iTup K (tTup (tCons (tFld K (tVar 1) "start") (tCons (tFld K (tVar 1) "goal") tNil)))) (g1 := gName 2) (tt1 := tYes) (te := tVar 2) rfl nd (pi_list (pv 0)) (blkOk_by (N := ["trips", "trip", "place"]) (sc := defScope d_places_count) (by decide +kernel)) (by decide)
        (fun _ _ _ _ _ => pg_name (i := 1) nd rfl (Or.inl rfl)) (fun _ _ _ _ _ => pts_nil) (fun _ _ _ _ _ => pi_tup (pe_tup (pa_cons (pe_fld (pv 1) rfl) (pa_cons (pe_fld (pv 1) rfl) pa_nil)))) (fun _ _ _ _ _ => pg_name (i := 2) nd rfl (Or.inl rfl)) (fun _ _ _ _ _ => pts_nil)
        (fun _ _ _ _ _ => pv 2)) pa_nil))), ?_⟩
    refine ⟨_, rfl, p, rfl, ⟨_, hp⟩, fun D hD => ?_⟩
    have al : (as.map V.ref).length = ts.length := by rw [List.length_map, ht.1]
    have pll : ∀ i, (pls (ts.take i)).length ≤ 2 * i := fun i => by
      have h1 : ∀ l : List TR, (pls l).length = 2 * l.length := by
        intro l
        induction l with
        | nil => rfl
        | cons t l ih =>
          show ([t.start, t.goal] ++ pls l).length = _
          rw [List.length_append, ih, List.length_cons]
          simp
          omega
      rw [h1]
      have := List.length_take_le i ts
      omega
    refine ⟨fun i m H1 => m = ts.length - i ∧ i ≤ ts.length ∧ Same H H1 ∧ ∃ S n, H1 D = some (SetSO w D S n) ∧ n ≤ 2 * i ∧ ∀ x, S x = decide (x ∈ pls (ts.take i)), ⟨_, rfl, Nat.zero_le _, same_at same_rfl hD, _, _, upd_same, Nat.zero_le _, fun x => by simp [pls]⟩, ?_⟩
    rintro i m H1 ⟨rfl, hi, s1, S, n, hS, hn, hSm⟩
    have w1 := walk_tup (K := K) (a := p) (xs := as.map V.ref)
    have wl := walk_list (K := K) (a := p) (xs := as.map V.ref)
    by_cases hlt : i < ts.length
    · refine .inr ⟨wl.goes i H1 (by rw [al]; exact hlt) (SqL.ext hp s1), fun H2 => Same H H2 ∧ ∃ S n, H2 D = some (SetSO w D S n) ∧ n ≤ 2 * (i + 1) ∧ ∀ x, S x = decide (x ∈ pls (ts.take (i + 1))), fun H' ⟨a1, a2⟩ => ⟨ts.length - (i + 1), by omega, rfl, hlt, a1, a2⟩, fun x H' y => ?_⟩
      obtain ⟨rfl, hx⟩ := wl.yields i H1 x H' (by rw [al]; exact hlt) (SqL.ext hp s1) y
      obtain ⟨a, t, rfl, ha, hti, dx, hta⟩ := ht.at hx
      have hta := s1 _ _ hta
      have c := trT T t
      rw [gName_ap]
      refine ⟨rfl, _, rfl, a, _, dx, _, _, rfl, hta, c.c, c.n2, lk_start t, _, rfl, a, _, dx, _, _, rfl, hta, c.c, c.n5, lk_goal t, (by show 2 ≤ sizeLine; decide), fun p2 hp2 => ⟨p2, rfl, ⟨_, SqT.of upd_same⟩, ?_⟩⟩
      have hDp : D ≠ p2 := fun z => by rw [z, hp2] at hS; cases hS
      have et : pls (ts.take (i + 1)) = pls (ts.take i) ++ [t.start, t.goal] := by
        unfold pls
        rw [List.take_succ_eq_append_getElem hlt, List.flatMap_append]
        have : ts[i] = t := by
          rw [List.getElem?_eq_getElem hlt] at hti
          exact Option.some.inj hti
        rw [this]
        simp
      refine in_it (walk_tup (K := K) (a := p2) (xs := [V.str t.start, V.str t.goal])) (fun j H2 => Same H H2 ∧ H2 p2 = some (.tup [.str t.start, .str t.goal]) ∧ ∃ S n, H2 D = some (SetSO w D S n) ∧ n ≤ 2 * i + j ∧ ∀ x, S x = decide (x ∈ pls (ts.take i) ++ [t.start, t.goal].take j)) ⟨same_new s1 hp2, upd_same, S, n, by rw [upd_ne hDp]; exact hS, by omega, fun x => by rw [hSm]; simp⟩ (fun j H _ h => SqT.of h.2.1) _ ?_ ?_
      · rintro j y H2 H3 hj ⟨s2, h2, S2, n2, h3, h4, h5⟩ ⟨rfl, hy⟩
        obtain ⟨z, ez, ez2⟩ : ∃ z : Str, y = .str z ∧ [t.start, t.goal][j]? = some z := by
          match j, hy with
          | 0, hy => exact ⟨_, (Option.some.inj hy).symm, rfl⟩
          | 1, hy => exact ⟨_, (Option.some.inj hy).symm, rfl⟩
        subst ez
        refine ⟨rfl, _, rfl, z, S2, n2, rfl, h3, by unfold scanBound; have : j < 2 := hj; omega, same_at s2 hD, ?_, _, _, upd_same, ?_, fun x => ?_⟩
        · rw [upd_ne (Ne.symm hDp)]
          exact h2
        · split <;> omega
        · have hj2 : j < [t.start, t.goal].length := hj
          have e9 : [t.start, t.goal][j] = z := by
            rw [List.getElem?_eq_getElem hj2] at ez2
            exact Option.some.inj ez2
          rw [h5 x, List.take_succ_eq_append_getElem hj2, e9, ← List.append_assoc]
          simp only [List.mem_append, List.mem_singleton, ← Bool.decide_or]
      · rintro H2 ⟨s2, h2, S2, n2, h3, h4, h5⟩
        refine ⟨s2, S2, n2, h3, h4, fun x => ?_⟩
        rw [h5 x, et]
        rfl
    · have e : i = ts.length := by omega
      subst e
      rw [List.take_length] at hSm
      refine .inl ⟨al ▸ wl.stops H1 (SqL.ext hp s1), D, S, n, rfl, hS, fun Ls hnd hm hl => k _ _ ?_ s1⟩
      have : Ls.length ≤ L.length := len_le_of_sub hnd fun x hx => by
        have := (hm x).mp hx
        rw [hSm] at this
        obtain ⟨t, htm, hxt⟩ := List.mem_flatMap.mp (of_decide_eq_true this)
        have q := hLm t htm
        rcases List.mem_cons.mp hxt with e | e
        · rw [e]; exact q.1
        · rw [List.mem_singleton.mp e]; exact q.2
      omega
end
end N1
set_option maxHeartbeats 1000000
/-! a board's data; go_on -/
namespace N1
open PySem PySem.Spec PyProof.Rows L2
structure Sn where
  n : Int
  ps : List (Str × Int)
  ts : List TR
def TrsAt (K : PySem.W.Frag) (G : Hp) (t : Addr) (ts : List TR) : Prop := ∃ as, G t = some (.dK (byN ts as)) ∧ Trs K G as ts
theorem TrsAt.up {K : PySem.W.Frag} {G G' : Hp} {a : Addr} {ts : List TR} (s : Same G G') (h : TrsAt K G a ts) : TrsAt K G' a ts := let ⟨as, h1, h2⟩ := h; ⟨as, s _ _ h1, h2.up s⟩
def SnAt (K : PySem.W.Frag) (G : Hp) (d p t : Addr) (s : Sn) : Prop := DayAt K G d s.n ∧ PausesAt K G p s.ps ∧ TrsAt K G t s.ts
theorem SnAt.up {K : PySem.W.Frag} {G G' : Hp} {d p t : Addr} {z : Sn} (s : Same G G') (h : SnAt K G d p t z) : SnAt K G' d p t z := ⟨h.1.up s, h.2.1.up s, h.2.2.up s⟩
def PastAt (K : PySem.W.Frag) (G : Hp) (q : Addr) (L : List Sn) : Prop := ∃ rs : List Addr, G q = some (.tup (rs.map V.ref)) ∧ rs.length = L.length ∧
  ∀ (i : Nat) (r : Addr) (s : Sn), rs[i]? = some r → L[i]? = some s → ∃ d p t, G r = some (.tup [.ref d, .ref p, .ref t]) ∧ SnAt K G d p t s
theorem PastAt.up {K : PySem.W.Frag} {G G' : Hp} {q : Addr} {L : List Sn} (s : Same G G') (h : PastAt K G q L) : PastAt K G' q L := let ⟨rs, h1, h2, h3⟩ := h; ⟨rs, s _ _ h1, h2, fun i r z e1 e2 => let ⟨d, p, t, g1, g2⟩ := h3 i r z e1 e2; ⟨d, p, t, s _ _ g1, g2.up s⟩⟩
def brdF (p d t q : Addr) : List (Str × V) := [("own_pauses", .ref p), ("own_day", .ref d), ("own_trips", .ref t), ("past", .ref q)]
def BrdAt (K : PySem.W.Frag) (G H : Hp) (b : Addr) (s : Sn) (L : List Sn) : Prop := ∃ dx p d t q, H b = some (.ins (cBrd K) dx (brdF p d t q)) ∧ G b = none ∧ SnAt K G d p t s ∧ PastAt K G q L
theorem BrdAt.up {K : PySem.W.Frag} {M : List Addr} {G H G' H' : Hp} {b : Addr} {s : Sn} {L : List Sn} (g : Gx M G H G' H') (hm : b ∉ M) (h : BrdAt K G H b s L) : BrdAt K G' H' b s L := by
  obtain ⟨dx, p, d, t, q, h1, h2, h3, h4⟩ := h
  exact ⟨dx, p, d, t, q, g.kp _ _ hm h1, g.unf h2 (by rw [h1]; intro z; cases z), h3.up g.gg, h4.up g.gg⟩
/-- sorted([str(x) for x in a dict]) -/
theorem srt_keys {K : PySem.W.Frag} {wi : TI} {g : TG} {te : TE} {vs : List Nat} {σ : L2.St} {H : Hp} {t : Addr} {kvs : List (Key × V)} {ns : List Str} {Q : VK} (ht : H t = some (.dK kvs)) (hk : kvs.map (·.1) = ns.map Sum.inr) (l : ns.length < 64)
    (hwi : ∀ od R, R (Itk t od kvs) (upd H t (.frz od (.dK kvs))) → wi σ (upd H t (.frz od (.dK kvs))) R)
    (hst : ∀ (n : Str) (H' : Hp) (Qk : VK), Qk (.str n) H' → g (.str n) (wipe σ vs) H' fun σ2 H2 => wipe σ2 vs = wipe σ vs ∧ te σ2 H2 Qk)
    (q : ∀ H' q, Same H H' → H q = none → H' q = some (.lst ((sn ns).map V.str)) → Q (.ref q) H') : tCB (rSortedS K) (tCons (tLockE (tLc wi g tYes te vs)) tNil) σ H Q := by
  have lenK : kvs.length = ns.length := by
    have := congrArg List.length hk
    rw [List.length_map, List.length_map] at this
    exact this
  refine ⟨t, _, ht, trivial, fun od => hwi od _ fun D hD => lc_f walk_keys (fun i => (ns[i]?).map V.str) hD (by omega) (fun H' s => s _ _ upd_same) ?_ ?_⟩
  · rintro i v Ha Hb kk k0 hi sa ⟨rfl, key, val, hkv, rfl⟩ h2 h3
    have e1 : (kvs.map (·.1))[i]? = some key := by rw [List.getElem?_map, hkv]; rfl
    rw [hk, List.getElem?_map] at e1
    cases e : ns[i]? with
    | none => rw [e] at e1; cases e1
    | some n =>
      rw [e] at e1
      cases e1
      exact hst n _ _ (h2 _ _ (by rw [e]; rfl) same_rfl)
  · intro H3 s3 hL3
    rw [lenK, range_map_] at hL3
    have nDt : D ≠ t := fun z => by rw [z, upd_same] at hD; cases hD
    refine ⟨s3 _ _ upd_same, D, ns, rfl, SqL.of (by rw [upd_ne nDt]; exact hL3), l, fun ys q6 hperm hsort hq6 => ?_⟩
    have ey := sn_of hperm hsort
    subst ey
    have su := unlock_same s3 ht
    refine q _ _ (same_new su hq6) ?_ upd_same
    cases z : H q6 with
    | none => rfl
    | some o => rw [su _ _ z] at hq6; cases hq6
theorem adr_mem {as : List Addr} {ts : List TR} {n : Str} (hl : as.length = ts.length) (h : n ∈ names ts) : ∃ a t, adr as ts n = some a ∧ lk ts n = some t := let ⟨_, a, t, h1, h2, _⟩ := adr_lk hl h; ⟨a, t, h1, h2⟩
theorem val_byN : ∀ {ts : List TR} {as : List Addr} {n : Str}, as.length = ts.length → valV (byN ts as) (Sum.inr n) = (adr as ts n).map V.ref
  | [], [], n, _ => rfl
  | t :: ts, a :: as, n, h => by
    by_cases e : t.name = n
    · subst e
      show valV ((Sum.inr t.name, V.ref a) :: byN ts as) _ = _
      rw [valV_pos rfl]
      simp [adr]
    · show valV ((Sum.inr t.name, V.ref a) :: byN ts as) _ = _
      rw [valV_neg (fun z => e (Sum.inr.inj z)), val_byN (Nat.succ.inj h)]
      simp [adr, e]
/-- the sorted dict -/
def rowF (as : List Addr) (us : List TR) (n : Str) : Option (Key × V) := (adr as us n).map fun a => (Sum.inr n, V.ref a)
theorem rowF_all {as : List Addr} {us : List TR} (hl : as.length = us.length) : ∀ {l : List Str}, (∀ n ∈ l, n ∈ names us) → l.filterMap (rowF as us) = byN (l.filterMap (lk us)) (l.filterMap (adr as us))
  | [], _ => rfl
  | n :: l, h => by
    obtain ⟨a, t, h1, h2⟩ := adr_mem hl (h n List.mem_cons_self)
    have e1 : rowF as us n = some (Sum.inr n, .ref a) := by unfold rowF; rw [h1]; rfl
    rw [List.filterMap_cons_some e1, List.filterMap_cons_some h1, List.filterMap_cons_some h2, rowF_all hl fun m hm => h m (List.mem_cons_of_mem _ hm)]
    have := (lk_some h2).2
    subst this
    rfl
theorem rowF_keys {as : List Addr} {us : List TR} (hl : as.length = us.length) : ∀ {l : List Str}, (∀ n ∈ l, n ∈ names us) → (l.filterMap (rowF as us)).map (·.1) = l.map Sum.inr
  | [], _ => rfl
  | n :: l, h => by
    obtain ⟨a, t, h1, h2⟩ := adr_mem hl (h n List.mem_cons_self)
    have e1 : rowF as us n = some (Sum.inr n, .ref a) := by unfold rowF; rw [h1]; rfl
    rw [List.filterMap_cons_some e1, List.map_cons, List.map_cons, rowF_keys hl fun m hm => h m (List.mem_cons_of_mem _ hm)]
end N1
set_option maxHeartbeats 2000000
namespace N1
open PySem PySem.Spec PyProof.Rows L2
def spGoOn (K : PySem.W.Frag) : Sp := fun vs H Q _ => ∃ (G : Hp) (b d p t : Addr) (n : Int) (ps : List (Str × Int)) (as : List Addr) (us : List TR) (s : Sn) (L : List Sn), vs = [.ref b, .ref d, .ref p, .ref t] ∧ Same G H ∧ BrdAt K G H b s L ∧ DayAt K G d n ∧ PausesAt K G p ps ∧
  H t = some (.dK (byN us as)) ∧ Trs K G as us ∧ (names us).Nodup ∧ us.length < 64 ∧ L.length ≤ 1000 ∧ ∀ H' G', Gx [b] G H G' H' → BrdAt K G' H' b ⟨n, ps, N1.st us⟩ (L ++ [s]) → Q .non H'
theorem get_snoc {α : Type} {l : List α} {x y : α} {i : Nat} (h : (l ++ [x])[i]? = some y) : (i < l.length ∧ l[i]? = some y) ∨ (i = l.length ∧ x = y) := by
  by_cases hi : i < l.length
  · rw [List.getElem?_append_left hi] at h
    exact .inl ⟨hi, h⟩
  · have : i = l.length := by
      have := (List.getElem?_eq_some_iff.mp h).1
      simp at this
      omega
    subst this
    rw [List.getElem?_append_right (Nat.le_refl _)] at h
    exact .inr ⟨rfl, by simpa using h⟩
section
variable {P : Program} {w : World} {K : PySem.W.Frag} {mg : Str → Option Value} {base : Heap}
structure BrC (K : PySem.W.Frag) : Prop where
  c : Cls K (cBrd K)
  n1 : NoAttr K (cBrd K) "own_pauses"
  n2 : NoAttr K (cBrd K) "own_day"
  n3 : NoAttr K (cBrd K) "own_trips"
  n4 : NoAttr K (cBrd K) "past"
theorem brC (T : FX P K mg) : BrC K := ⟨T.cls "Board" (by decide +kernel), T.noat ("Board", "own_pauses") (by decide +kernel), T.noat ("Board", "own_day") (by decide +kernel), T.noat ("Board", "own_trips") (by decide +kernel), T.noat ("Board", "past") (by decide +kernel)⟩
theorem ok_BoardGo_on (T : FX P K mg) : FnR P w K mg base CX0 1 (ma K (ga K "Board") "go_on") (spGoOn K) := by
  refine fnr T.f_BoardGo_on sc_BoardGo_on (fun _ _ _ _ _ _ us hl => match us, hl with | [_, _, _, _], _ => rfl) (fun vs H Q E h => ?_) (fun cdv A outer s H vs Q E hr h => ?_)
  · obtain ⟨G, b, d, p, t, n, ps, as, us, s, L, rfl, _⟩ := h
    rfl
  · obtain ⟨G, b, d, p, t, n, ps, as, us, s, L, rfl, gs, ⟨dx, p0, d0, t0, q0, hb, hGb, hsn, rs, hq0, hrl, hrs⟩, hd, hp, ht, htr, hnd, h60, hL, k⟩ := h
    have nd := sc_BoardGo_on.nd
    have c := brC T
    have hu := hu_of hr
    have hla : as.length = us.length := htr.1
    refine ⟨_, pss_cons (ps_fld (pv 0) (pe_tup (StX.pa_star (pe_fld (pv 0) rfl) (pa_cons (pe_tup (pa_cons (pe_fld (pv 0) rfl) (pa_cons (pe_fld (pv 0) rfl) (pa_cons (pe_fld (pv 0) rfl) pa_nil)))) pa_nil))) rfl)
      (pss_cons (ps_fld (pv 0) (pv 1) rfl) (pss_cons (ps_fld (pv 0) (pv 2) rfl)
      (pss_one (ps_fld (pv 0) (pe_dc (own := [("name", 5)]) (g := gName 5) (tt := tYes) (tk := tVar 5) (tv := tDGet (tVar 3) (tVar 5)) rfl nd
        (pi_list (cb "sorted" T cr_sortedS (pa_cons (pe_lock (pe_lc (own := [("one", 4)]) (g := gName 4) (tt := tYes) (te := tCB rStr1 (tCons (tVar 4) tNil)) rfl nd (pi_keys (pv 3)) (blkOk_by (N := ["self", "day", "pauses", "trips", "one", "name"]) (sc := defScope m_BoardGo_on) (by decide +kernel))
          (fun _ _ _ _ _ => pg_name (i := 4) nd rfl (Or.inl rfl)) (fun _ _ _ _ _ => pts_nil) (fun _ _ _ _ _ => ct "str" T SkE.call_str_str (pa_cons (pv 4) pa_nil)))) pa_nil)))
        (blkOk_by (N := ["self", "day", "pauses", "trips", "one", "name"]) (sc := defScope m_BoardGo_on) (by decide +kernel)) (fun _ _ _ _ _ => pg_name (i := 5) nd rfl (Or.inl rfl)) (fun _ _ _ _ _ => pts_nil) (fun _ _ _ _ _ => pv 5) (fun _ _ _ _ _ => pe_dget hu (pv 3) (pv 5) (fun _ _ => rfl))) rfl)))), ?_⟩
    refine ⟨_, rfl, b, _, dx, _, _, rfl, hb, c.c, c.n4, rfl, q0, _, rfl, .inl (SqT.of (gs _ _ hq0)), ?_⟩
    refine ⟨_, rfl, b, _, dx, _, _, rfl, hb, c.c, c.n2, rfl, _, rfl, b, _, dx, _, _, rfl, hb, c.c, c.n1, rfl, _, rfl, b, _, dx, _, _, rfl, hb, c.c, c.n3, rfl, (by show 3 ≤ sizeLine; decide), fun q1 hq1 => ?_⟩
    refine ⟨by rw [List.length_append, List.length_map, sizeLine_eq]; simp; omega, fun q2 hq2 => ⟨_, rfl, b, cBrd K, dx, brdF p0 d0 t0 q0, rfl, ?_⟩⟩
    have g1 : Gx [b] G H (upd G q1 (.tup [.ref d0, .ref p0, .ref t0])) (upd H q1 (.tup [.ref d0, .ref p0, .ref t0])) := (Gx.refl gs).newF hq1
    have g2 := g1.newF (o := .tup (rs.map V.ref ++ [V.ref q1])) hq2
    have nb1 : b ≠ q1 := ne_of_none hb hq1
    have hb1 : (upd H q1 (.tup [V.ref d0, .ref p0, .ref t0])) b = some (.ins (cBrd K) dx (brdF p0 d0 t0 q0)) := by rw [upd_ne nb1]; exact hb
    have nb2 : b ≠ q2 := ne_of_none hb1 hq2
    have hHb : H b ≠ none := by rw [hb]; intro z; cases z
    have hGb2 := g2.unf hGb hHb
    generalize hG2 : upd (upd G q1 (.tup [.ref d0, .ref p0, .ref t0])) q2 (.tup (rs.map V.ref ++ [V.ref q1])) = G2 at g2 hGb2
    have hG2q2 : G2 q2 = some (.tup (rs.map V.ref ++ [V.ref q1])) := by rw [← hG2]; exact upd_same
    have nq12 : q1 ≠ q2 := fun z => by rw [← z, upd_same] at hq2; cases hq2
    have hG2q1 : G2 q1 = some (.tup [.ref d0, .ref p0, .ref t0]) := by rw [← hG2, upd_ne nq12]; exact upd_same
    have past2 : PastAt K G2 q2 (L ++ [s]) := by
      refine ⟨rs ++ [q1], by rw [hG2q2, List.map_append]; rfl, by simp [hrl], fun i r z e1 e2 => ?_⟩
      rcases get_snoc e1 with ⟨hi, e⟩ | ⟨hi, e⟩
      · have e2' : L[i]? = some z := by
          rcases get_snoc e2 with ⟨_, e'⟩ | ⟨hi', _⟩
          · exact e'
          · omega
        obtain ⟨d1, p1, t1, f1, f2⟩ := hrs i r z e e2'
        exact ⟨d1, p1, t1, g2.gg _ _ f1, f2.up g2.gg⟩
      · subst e
        rcases get_snoc e2 with ⟨hi', _⟩ | ⟨_, e'⟩
        · omega
        · subst e'
          exact ⟨d0, p0, t0, hG2q1, hsn.up g2.gg⟩
    refine ⟨by rw [upd_ne nb2]; exact hb1, c.c, c.n4, (show (4 : Nat) < 1000 by decide), ?_⟩
    have g3 := g2.wr (o := .ins (cBrd K) dx (putF "past" (.ref q2) (brdF p0 d0 t0 q0))) hGb2 (.inl List.mem_cons_self)
    refine ⟨_, rfl, _, rfl, b, _, dx, _, rfl, upd_same, c.c, c.n2, (show (4 : Nat) < 1000 by decide), ?_⟩
    refine ⟨_, rfl, _, rfl, b, _, dx, _, rfl, upd_same, c.c, c.n1, (show (4 : Nat) < 1000 by decide), ?_⟩
    have g4 := g3.wr (o := .ins (cBrd K) dx (putF "own_day" (.ref d) (putF "past" (.ref q2) (brdF p0 d0 t0 q0)))) hGb2 (.inl List.mem_cons_self)
    have g5 := g4.wr (o := .ins (cBrd K) dx (putF "own_pauses" (.ref p) (putF "own_day" (.ref d) (putF "past" (.ref q2) (brdF p0 d0 t0 q0))))) hGb2 (.inl List.mem_cons_self)
    have ef : putF "own_pauses" (.ref p) (putF "own_day" (.ref d) (putF "past" (.ref q2) (brdF p0 d0 t0 q0))) = brdF p d t0 q2 := rfl
    rw [ef] at g5 ⊢
    generalize hH5 : upd _ b (HO.ins (cBrd K) dx (brdF p d t0 q2)) = H5 at g5 ⊢
    have hb5 : H5 b = some (.ins (cBrd K) dx (brdF p d t0 q2)) := by rw [← hH5]; exact upd_same
    have htb : t ≠ b := ne_of ht hb (by intro z; cases z)
    have ht5 : H5 t = some (.dK (byN us as)) := g5.kp _ _ (fun z => htb (by simpa using z)) ht
    have kns : (byN us as).map (·.1) = (names us).map Sum.inr := byN_keys hla.symm
    have ln : (names us).length < 64 := by unfold names; rw [List.length_map]; exact h60
    refine srt_keys ht5 kns ln (fun od R q => ⟨_, rfl, t, od, rfl, .inl ⟨_, upd_same, q⟩⟩) (fun n H' Qk q => ⟨rfl, _, rfl, _, rfl, q⟩) fun H6 q6 s6 hq6 hl6 => ?_
    have hsub : ∀ n ∈ sn (names us), n ∈ names us := fun n h => mem_sn.mp h
    have lsn : ((sn (names us)).map V.str).length = (sn (names us)).length := List.length_map ..
    refine ⟨q6, rfl, ⟨_, SqL.of hl6⟩, fun D hD => dc_f walk_list (fun i => ((sn (names us))[i]?).bind (rowF as us)) hD (by rw [lsn, sn_length]; omega) ?_ (fun H' s => SqL.ext (SqL.of hl6) s) ?_ ?_⟩
    · rw [lsn, range_fm, rowF_keys hla hsub]
      exact inr_nodup (sn_nodup hnd)
    · rintro i x Ha Hb R k0 hi sa ⟨rfl, hx⟩ h2 h3
      rw [List.getElem?_map] at hx
      cases e : (sn (names us))[i]? with
      | none => rw [e] at hx; cases hx
      | some n =>
        rw [e] at hx
        cases hx
        obtain ⟨a, u, ea, eu⟩ := adr_mem hla (hsub n (List.mem_of_getElem? e))
        refine ⟨rfl, _, rfl, _, rfl, _, rfl, t, _, rfl, .inl ⟨_, Sum.inr n, .inl (sa _ _ (s6 _ _ ht5)), rfl, by rw [val_byN hla, ea]; rfl⟩, ?_⟩
        exact h2 (Sum.inr n) (.ref a) _ (by rw [e]; show rowF as us n = _; unfold rowF; rw [ea]; rfl) same_rfl
    · intro H7 s7 hD7
      rw [lsn, range_fm, rowF_all hla hsub] at hD7
      have g7 := (g5.same s6).same s7
      have hD0 : H D = none := (g5.same s6).old hD
      have g8 := g7.frz hD7 hD0
      have hbD : b ≠ D := fun z => hHb (by rw [z]; exact hD0)
      refine ⟨_, rfl, b, _, dx, _, rfl, s7 _ _ (s6 _ _ hb5), c.c, c.n3, (show (4 : Nat) < 1000 by decide), ?_⟩
      have hGb8 := g8.unf hGb hHb
      have g9 := g8.wr (o := .ins (cBrd K) dx (brdF p d D q2)) hGb8 (.inl List.mem_cons_self)
      have up2 : Same G2 (upd G2 D (.dK (byN ((sn (names us)).filterMap (lk us)) ((sn (names us)).filterMap (adr as us))))) := same_self' (by
        cases z : G2 D with
        | none => rfl
        | some o => 
          rcases g2.fr D (by rw [z]; intro y; cases y) with y | y
          · exact absurd (same_non gs hD0) y
          · have := (g5.same s6).gh _ _ z
            rw [hD] at this
            cases this)
      refine k _ _ g9 ⟨dx, p, d, D, q2, upd_same, hGb8, ⟨hd.up g9.gg, hp.up g9.gg, _, upd_same, (Sel.trs (sel_fm hla _ hsub) htr).up g9.gg⟩, past2.up up2⟩
end
end N1
set_option maxHeartbeats 2000000
/-! what a board tells -/
namespace N1
open PySem PySem.Spec PyProof.Rows L2
theorem srt_list {K : PySem.W.Frag} {wi : TI} {g : TG} {te : TE} {vs : List Nat} {σ : L2.St} {H : Hp} {l : Addr} {as : List Addr} {ts : List TR} {Q : VK} (f : TR → Str) (hl : H l = some (.lst (as.map V.ref))) (ht : Trs K H as ts) (l60 : ts.length < 64)
    (hwi : ∀ R, R (Itl K l) H → wi σ H R)
    (hst : ∀ (a : Addr) (t : TR) (H' : Hp) (Qk : VK), TripAt K H' a t → Qk (.str (f t)) H' → g (.ref a) (wipe σ vs) H' fun σ2 H2 => wipe σ2 vs = wipe σ vs ∧ te σ2 H2 Qk)
    (q : ∀ H' q, Same H H' → H q = none → H' q = some (.lst ((sn (ts.map f)).map V.str)) → Q (.ref q) H') : tCB (rSortedS K) (tCons (tLc wi g tYes te vs) tNil) σ H Q := by
  have al : (as.map V.ref).length = ts.length := by rw [List.length_map, ht.1]
  refine hwi _ fun D hD => lc_f walk_list (fun i => (ts[i]?).map fun t => V.str (f t)) hD (by omega) (fun H' s => SqL.ext (SqL.of hl) s) ?_ ?_
  · rintro i v Ha Hb kk k0 hi sa ⟨rfl, hx⟩ h2 h3
    obtain ⟨a, t, rfl, ha, hti, hta⟩ := ht.at hx
    exact hst a t _ _ (hta.up sa) (h2 _ _ (by rw [hti]; rfl) same_rfl)
  · intro H3 s3 hL3
    rw [al, range_map_] at hL3
    refine ⟨D, ts.map f, rfl, SqL.of (by rw [hL3, List.map_map]; rfl), by rw [List.length_map]; exact l60, fun ys q6 hperm hsort hq6 => ?_⟩
    have ey := sn_of hperm hsort
    subst ey
    refine q _ _ (same_new s3 hq6) ?_ upd_same
    cases z : H q6 with
    | none => rfl
    | some o => rw [s3 _ _ z] at hq6; cases hq6
def starts (ts : List TR) : List Str := ts.map (·.start)
def goals (ts : List TR) : List Str := ts.map (·.goal)
def spRd (K : PySem.W.Frag) (r : Sn → List Sn → VK → Hp → Prop) : Sp := fun vs H Q _ => ∃ (G : Hp) (b : Addr) (s : Sn) (L : List Sn), vs = [.ref b] ∧ Same G H ∧ BrdAt K G H b s L ∧ r s L Q H
def spHas (K : PySem.W.Frag) : Sp := fun vs H Q _ => ∃ (G : Hp) (b : Addr) (x : Str) (s : Sn) (L : List Sn), vs = [.ref b, .str x] ∧ Same G H ∧ BrdAt K G H b s L ∧ Q (.bl (decide (x ∈ names s.ts))) H
def spNeed (K : PySem.W.Frag) : Sp := fun vs H Q _ => ∃ (G : Hp) (b : Addr) (x : Str) (s : Sn) (L : List Sn), vs = [.ref b, .str x] ∧ Same G H ∧ BrdAt K G H b s L ∧ x ∈ names s.ts ∧ Q .non H
def spGet (K : PySem.W.Frag) : Sp := fun vs H Q _ => ∃ (G : Hp) (b : Addr) (x : Str) (s : Sn) (L : List Sn), vs = [.ref b, .str x] ∧ Same G H ∧ BrdAt K G H b s L ∧ x ∈ names s.ts ∧ ∀ a t, TripAt K G a t → lk s.ts x = some t → Q (.ref a) H
theorem has_byN {ts : List TR} {as : List Addr} {n : Str} (h : as.length = ts.length) : (valV (byN ts as) (Sum.inr n)).isSome = decide (n ∈ names ts) := by
  rw [val_byN h]
  by_cases hm : n ∈ names ts
  · obtain ⟨a, t, e, _⟩ := adr_mem h hm
    rw [e, decide_eq_true hm]
    rfl
  · rw [decide_eq_false hm]
    cases e : adr as ts n with
    | none => rfl
    | some a =>
      have : valV (byN ts as) (Sum.inr n) = some (.ref a) := by rw [val_byN h, e]; rfl
      have := valV_in this
      rw [byN_keys h.symm] at this
      obtain ⟨z, hz, ez⟩ := List.mem_map.mp this
      exact absurd (Sum.inr.inj ez ▸ hz) hm
theorem byN_len {ts : List TR} {qs : List Addr} (h : ts.length = qs.length) : (byN ts qs).length = ts.length := by unfold byN; rw [List.length_zipWith]; omega
section
variable {P : Program} {w : World} {K : PySem.W.Frag} {mg : Str → Option Value} {base : Heap}
theorem ok_BoardMinutes (T : FX P K mg) : FnR P w K mg base CX0 1 (pr_ K "Board" "minutes") (spRd K fun s L Q H => Q (.int s.n) H) := by
  refine fnr T.f_BoardMinutes sc_BoardMinutes (fun _ _ _ _ _ _ us hl => match us, hl with | [_], _ => rfl) (fun vs H Q E h => ?_) (fun cdv A outer s H vs Q E hr h => ?_)
  · obtain ⟨G, b, s, L, rfl, _⟩ := h
    rfl
  · obtain ⟨G, b, s, L, rfl, gs, ⟨dx, p, d, t, q, hb, hGb, ⟨⟨dd, hd⟩, hp, ht⟩, hL⟩, k⟩ := h
    have c := brC T
    refine ⟨_, pss_one (ps_ret (pe_fld (pe_fld (pv 0) rfl) rfl)), ?_⟩
    exact ⟨_, rfl, b, _, dx, _, _, rfl, hb, c.c, c.n2, rfl, d, _, dd, _, _, rfl, gs _ _ hd, T.cls "Day" (by decide +kernel), T.noat ("Day", "length") (by decide +kernel), rfl, k⟩
theorem ok_BoardDeeds (T : FX P K mg) : FnR P w K mg base CX0 1 (pr_ K "Board" "deeds") (spRd K fun s L Q H => Q (.int L.length) H) := by
  refine fnr T.f_BoardDeeds sc_BoardDeeds (fun _ _ _ _ _ _ us hl => match us, hl with | [_], _ => rfl) (fun vs H Q E h => ?_) (fun cdv A outer s H vs Q E hr h => ?_)
  · obtain ⟨G, b, s, L, rfl, _⟩ := h
    rfl
  · obtain ⟨G, b, s, L, rfl, gs, ⟨dx, p, d, t, q, hb, hGb, hsn, rs, hq, hrl, _⟩, k⟩ := h
    have c := brC T
    refine ⟨_, pss_one (ps_ret (cb "len" T call_len (pa_cons (pe_fld (pv 0) rfl) pa_nil))), ?_⟩
    refine ⟨_, rfl, b, _, dx, _, _, rfl, hb, c.c, c.n4, rfl, _, _, rfl, .inr ⟨_, SqT.of (gs _ _ hq), rfl⟩, ?_⟩
    rw [List.length_map, hrl]
    exact k
theorem ok_BoardTold_pauses (T : FX P K mg) : FnR P w K mg base CX0 1 (ma K (ga K "Board") "told_pauses") (spRd K fun s L Q H => ∀ G p, Same G H → PausesAt K G p s.ps → Q (.ref p) H) := by
  refine fnr T.f_BoardTold_pauses sc_BoardTold_pauses (fun _ _ _ _ _ _ us hl => match us, hl with | [_], _ => rfl) (fun vs H Q E h => ?_) (fun cdv A outer s H vs Q E hr h => ?_)
  · obtain ⟨G, b, s, L, rfl, _⟩ := h
    rfl
  · obtain ⟨G, b, s, L, rfl, gs, ⟨dx, p, d, t, q, hb, hGb, ⟨hd, hp, ht⟩, hL⟩, k⟩ := h
    have c := brC T
    refine ⟨_, pss_one (ps_ret (pe_fld (pv 0) rfl)), ?_⟩
    exact ⟨_, rfl, b, _, dx, _, _, rfl, hb, c.c, c.n1, rfl, k G p gs hp⟩
theorem ok_BoardContains (T : FX P K mg) : FnR P w K mg base CX0 1 (ma K (ga K "Board") "__contains__") (spHas K) := by
  refine fnr T.f_BoardContains sc_BoardContains (fun _ _ _ _ _ _ us hl => match us, hl with | [_, _], _ => rfl) (fun vs H Q E h => ?_) (fun cdv A outer s H vs Q E hr h => ?_)
  · obtain ⟨G, b, x, s, L, rfl, _⟩ := h
    rfl
  · obtain ⟨G, b, x, s, L, rfl, gs, ⟨dx, p, d, t, q, hb, hGb, ⟨hd, hp, as, ht, htr⟩, hL⟩, k⟩ := h
    have c := brC T
    refine ⟨_, pss_one (ps_ret (pe_and (cb "isinstance" T call_isi (pa_cons (pv 1) (pa_cons (gt "str" "str" T) pa_nil))) (pe_one (pe_cmp (pc_din (hu_of hr) (pv 1) (pe_fld (pv 0) rfl)) rfl)))), ?_⟩
    refine ⟨_, rfl, _, _, _, _, true, rfl, .ty _, .base (.str x), kit_ty (by decide +kernel), _, rfl, ?_⟩
    refine ⟨_, rfl, _, rfl, b, _, dx, _, _, rfl, hb, c.c, c.n3, rfl, t, _, rfl, .inl ⟨_, Sum.inr x, .inl (gs _ _ ht), rfl, rfl⟩, ?_⟩
    rw [has_byN htr.1]
    exact k
theorem ok_BoardLen (T : FX P K mg) : FnR P w K mg base CX0 1 (ma K (ga K "Board") "__len__") (spRd K fun s L Q H => Q (.int s.ts.length) H) := by
  refine fnr T.f_BoardLen sc_BoardLen (fun _ _ _ _ _ _ us hl => match us, hl with | [_], _ => rfl) (fun vs H Q E h => ?_) (fun cdv A outer s H vs Q E hr h => ?_)
  · obtain ⟨G, b, s, L, rfl, _⟩ := h
    rfl
  · obtain ⟨G, b, s, L, rfl, gs, ⟨dx, p, d, t, q, hb, hGb, ⟨hd, hp, as, ht, htr⟩, hL⟩, k⟩ := h
    have c := brC T
    refine ⟨_, pss_one (ps_ret (cb "len" T call_lenD (pa_cons (pe_fld (pv 0) rfl) pa_nil))), ?_⟩
    refine ⟨_, rfl, b, _, dx, _, _, rfl, hb, c.c, c.n3, rfl, t, _, rfl, gs _ _ ht, ?_⟩
    rw [byN_len htr.1.symm]
    exact k
theorem ok_BoardNeed_trip (T : FX P K mg) : FnR P w K mg base CX0 2 (ma K (ga K "Board") "need_trip") (spNeed K) := by
  refine fnr T.f_BoardNeed_trip sc_BoardNeed_trip (fun _ _ _ _ _ _ us hl => match us, hl with | [_, _], _ => rfl) (fun vs H Q E h => ?_) (fun cdv A outer s H vs Q E hr h => ?_)
  · obtain ⟨G, b, x, s, L, rfl, _⟩ := h
    rfl
  · obtain ⟨G, b, x, s, L, rfl, gs, brd, hx, k⟩ := h
    refine ⟨_, pss_one (ps_if (pt_cmpR (or_ownNotIn (T.meth ("Board", "__contains__") (by decide +kernel)) (ok_BoardContains T) hr pass0) (pv 1) (pv 0) rfl) pss_never pss_nil), ?_⟩
    obtain ⟨dx, p, d, t, q, hb, _⟩ := id brd
    refine ⟨_, rfl, _, rfl, b, rfl, ⟨_, _, hb⟩, G, b, x, s, L, rfl, gs, brd, _, rfl, _, rfl, ?_⟩
    rw [decide_eq_true hx]
    exact k
theorem ok_BoardGetitem (T : FX P K mg) : FnR P w K mg base CX0 3 (ma K (ga K "Board") "__getitem__") (spGet K) := by
  refine fnr T.f_BoardGetitem sc_BoardGetitem (fun _ _ _ _ _ _ us hl => match us, hl with | [_, _], _ => rfl) (fun vs H Q E h => ?_) (fun cdv A outer s H vs Q E hr h => ?_)
  · obtain ⟨G, b, x, s, L, rfl, _⟩ := h
    rfl
  · obtain ⟨G, b, x, s, L, rfl, gs, brd, hx, k⟩ := h
    have c := brC T
    refine ⟨_, pss_cons (ps_expr (pe_methR (pv 0) c.c (T.meth ("Board", "need_trip") (by decide +kernel)) (ok_BoardNeed_trip T) hr pass0 (pa_cons (pv 1) pa_nil))) (pss_one (ps_ret (pe_dget (hu_of hr) (pe_fld (pv 0) rfl) (pv 1) (fun _ _ => rfl)))), ?_⟩
    obtain ⟨dx, p, d, t, q, hb, hGb, ⟨hd, hp, as, ht, htr⟩, hL⟩ := id brd
    refine ⟨_, rfl, b, dx, _, rfl, hb, rfl, _, rfl, G, b, x, s, L, rfl, gs, brd, hx, ?_⟩
    obtain ⟨j, a, u, e1, e2, e3, e4⟩ := adr_lk htr.1 hx
    refine ⟨_, rfl, b, _, dx, _, _, rfl, hb, c.c, c.n3, rfl, _, rfl, t, _, rfl, .inl ⟨_, Sum.inr x, .inl (gs _ _ ht), rfl, by rw [val_byN htr.1, e1]; rfl⟩, ?_⟩
    exact k a u (htr.2 j a u e3 e4) e2
end
end N1
set_option maxHeartbeats 2000000
namespace N1
open PySem PySem.Spec PyProof.Rows L2
theorem byN_vals {ts : List TR} {qs : List Addr} (h : ts.length = qs.length) : (byN ts qs).map (·.2) = qs.map V.ref := by
  induction ts generalizing qs with
  | nil =>
    cases qs with
    | nil => rfl
    | cons q qs => simp at h
  | cons t ts ih =>
    cases qs with
    | nil => simp at h
    | cons q qs =>
      show V.ref q :: (byN ts qs).map (·.2) = _
      rw [ih (Nat.succ.inj h)]
      rfl
section
variable {P : Program} {w : World} {K : PySem.W.Frag} {mg : Str → Option Value} {base : Heap}
theorem ok_BoardIs_level (T : FX P K mg) : FnR P w K mg base CX0 1 (pr_ K "Board" "is_level") (spRd K fun s L Q H => s.ts.length < 64 ∧ (∀ t ∈ s.ts, t.Ok) ∧ ∀ H', Same H H' → Q (.bl (decide (sn (starts s.ts) = sn (goals s.ts)))) H') := by
  refine fnr T.f_BoardIs_level sc_BoardIs_level (fun _ _ _ _ _ _ us hl => match us, hl with | [_], _ => rfl) (fun vs H Q E h => ?_) (fun cdv A outer s H vs Q E hr h => ?_)
  · obtain ⟨G, b, s, L, rfl, _⟩ := h
    rfl
  · obtain ⟨G, b, s, L, rfl, gs, ⟨dx, p, d, t, q, hb, hGb, ⟨hd, hp, as, ht, htr⟩, hL⟩, l60, hok, k⟩ := h
    have c := brC T
    have nd := sc_BoardIs_level.nd
    refine ⟨_, pss_cons (ps_set (i := 1) nd rfl (Or.inl rfl) (pe_listVals rfl (pe_fld (pv 0) rfl) (by rfl) (T.fre "list" (by decide +kernel))))
      (pss_one (ps_ret (pe_cmpR (op_eqD hr.units) (cb "sorted" T cr_sortedS (pa_cons (pe_lc (own := [("trip", 2)]) (g := gName 2) (tt := tYes) (te := tCB rStr1 (tCons (tFld K (tVar 2) "start") tNil)) rfl nd (pi_list (pv 1)) (blkOk_by (N := ["self", "trips", "trip"]) (sc := defScope m_BoardIs_level) (by decide +kernel))
          (fun _ _ _ _ _ => pg_name (i := 2) nd rfl (Or.inl rfl)) (fun _ _ _ _ _ => pts_nil) (fun _ _ _ _ _ => ct "str" T SkE.call_str_str (pa_cons (pe_fld (pv 2) rfl) pa_nil))) pa_nil))
        (cb "sorted" T cr_sortedS (pa_cons (pe_lc (own := [("trip", 2)]) (g := gName 2) (tt := tYes) (te := tCB rStr1 (tCons (tFld K (tVar 2) "goal") tNil)) rfl nd (pi_list (pv 1)) (blkOk_by (N := ["self", "trips", "trip"]) (sc := defScope m_BoardIs_level) (by decide +kernel))
          (fun _ _ _ _ _ => pg_name (i := 2) nd rfl (Or.inl rfl)) (fun _ _ _ _ _ => pts_nil) (fun _ _ _ _ _ => ct "str" T SkE.call_str_str (pa_cons (pe_fld (pv 2) rfl) pa_nil))) pa_nil)) (nomark _)))), ?_⟩
    refine ⟨_, rfl, b, _, dx, _, _, rfl, hb, c.c, c.n3, rfl, t, _, rfl, gs _ _ ht, fun l hl => ?_⟩
    rw [byN_vals htr.1.symm]
    have s1 : Same H (upd H l (.lst (as.map V.ref))) := same_new same_rfl hl
    have htrH := htr.up gs
    show gName 1 _ _ _ _
    rw [gName_ap]
    dsimp only [tRet, tOp, List.set]
    refine srt_list (ts := s.ts) (·.start) upd_same (htrH.up s1) l60 (fun R q => ⟨_, rfl, l, rfl, ⟨_, SqL.of upd_same⟩, q⟩) (fun a u H' Qk ⟨du, hu⟩ q => ⟨rfl, _, rfl, a, _, du, _, _, rfl, hu, (trT T u).c, (trT T u).n2, lk_start u, _, rfl, q⟩) fun H2 q2 s2 hq2 hl2 => ?_
    refine srt_list (ts := s.ts) (·.goal) (s2 _ _ upd_same) ((htrH.up s1).up s2) l60 (fun R q => ⟨_, rfl, l, rfl, ⟨_, SqL.of (s2 _ _ upd_same)⟩, q⟩) (fun a u H' Qk ⟨du, hu⟩ q => ⟨rfl, _, rfl, a, _, du, _, _, rfl, hu, (trT T u).c, (trT T u).n5, lk_goal u, _, rfl, q⟩) fun H3 q3 s3 hq3 hl3 => ?_
    have sok : ∀ (f : TR → Str), (∀ t ∈ s.ts, NameOk (f t)) → ∀ x ∈ sn (s.ts.map f), PyData.strOk x = true := fun f hf x hx => by
      obtain ⟨u, hu, e⟩ := List.mem_map.mp (mem_sn.mp hx)
      rw [← e]
      exact (hf u hu).sok
    refine ⟨_, _, .lst (SqL.of (s3 _ _ hl2)) (dpS _), .lst (SqL.of hl3) (dpS _), shapedS (sok _ fun t h => (hok t h).s), shapedS (sok _ fun t h => (hok t h).g), ?_⟩
    have e : PyData.eqv (.list ((sn (starts s.ts)).map PyData.str)) (.list ((sn (goals s.ts)).map PyData.str)) = decide (sn (starts s.ts) = sn (goals s.ts)) := by
      rw [PyData.eqv]
      exact eqvS _ _
    show Q (.bl (PyData.eqv (.list ((sn (starts s.ts)).map PyData.str)) (.list ((sn (goals s.ts)).map PyData.str)))) H3
    rw [e]
    exact k _ (same_tr s1 (same_tr s2 s3))
theorem ok_BoardTold_table (T : FX P K mg) : FnR P w K mg base CX0 6 (ma K (ga K "Board") "told_table") (spRd K fun s L Q H => TabOk s.n s.ts ∧ ∀ G, Same G H → ∀ H' G' p, Gx [] G H G' H' → H p = none → TableAt K G' p s.n (N1.st s.ts) → Q (.ref p) H') := by
  refine fnr T.f_BoardTold_table sc_BoardTold_table (fun _ _ _ _ _ _ us hl => match us, hl with | [_], _ => rfl) (fun vs H Q E h => ?_) (fun cdv A outer s H vs Q E hr h => ?_)
  · obtain ⟨G, b, s, L, rfl, _⟩ := h
    rfl
  · obtain ⟨G, b, s, L, rfl, gs, ⟨dx, p, d, t, q, hb, hGb, ⟨hd, hp, as, ht, htr⟩, hL⟩, ok, k⟩ := h
    have c := brC T
    refine ⟨_, pss_one (ps_ret (pe_smeth (gc "Table" T) T.crT T.stT (ok_TableOf T) hr pass0 (pa_cons (pe_fld (pv 0) rfl) (pa_cons (pe_listVals rfl (pe_fld (pv 0) rfl) (by rfl) (T.fre "list" (by decide +kernel))) pa_nil)))), ?_⟩
    refine ⟨rfl, _, rfl, b, _, dx, _, _, rfl, hb, c.c, c.n2, rfl, _, rfl, b, _, dx, _, _, rfl, hb, c.c, c.n3, rfl, t, _, rfl, gs _ _ ht, fun l hl => ?_⟩
    rw [byN_vals htr.1.symm]
    have g1 : Gx [] G H G (upd H l (.lst (as.map V.ref))) := (Gx.refl gs).new hl
    refine ⟨G, d, l, s.n, as, s.ts, rfl, g1.gh, hd, upd_same, htr, ok, fun H' G' p2 g2 hp2 tb => ?_⟩
    exact k G gs H' G' p2 (g1.trans g2) (g1.old hp2) tb
end
end N1
set_option maxHeartbeats 2000000
namespace N1
open PySem PySem.Spec PyProof.Rows L2
def spUndo (K : PySem.W.Frag) : Sp := fun vs H Q _ => ∃ (G : Hp) (b : Addr) (s : Sn) (L : List Sn), vs = [.ref b] ∧ Same G H ∧ BrdAt K G H b s L ∧ L.length ≤ 1000 ∧ ((L = [] ∧ Q (.bl false) H) ∨ ∃ L' s', L = L' ++ [s'] ∧ ∀ H' G', Gx [b] G H G' H' → BrdAt K G' H' b s' L' → Q (.bl true) H')
section
variable {P : Program} {w : World} {K : PySem.W.Frag} {mg : Str → Option Value} {base : Heap}
theorem ok_BoardUndo (T : FX P K mg) : FnR P w K mg base CX0 1 (ma K (ga K "Board") "undo") (spUndo K) := by
  refine fnr T.f_BoardUndo sc_BoardUndo (fun _ _ _ _ _ _ us hl => match us, hl with | [_], _ => rfl) (fun vs H Q E h => ?_) (fun cdv A outer s H vs Q E hr h => ?_)
  · obtain ⟨G, b, s, L, rfl, _⟩ := h
    rfl
  · obtain ⟨G, b, s, L, rfl, gs, ⟨dx, p, d, t, q, hb, hGb, hsn, rs, hq, hrl, hrs⟩, hL, k⟩ := h
    have c := brC T
    refine ⟨_, pss_cons (ps_if (pt_cmpR op_eq (cb "len" T call_len (pa_cons (pe_fld (pv 0) rfl) pa_nil)) pe_int (nomark _)) (pss_one (ps_ret pe_bl)) pss_nil)
      (pss_cons (ps_asg (pe_ix ix_tup (pe_fld (pv 0) rfl) (pe_un un_neg pe_int) (fun _ _ => rfl)) (pg_tup rfl (pgs_cons (pg_fld (pv 0)) (pgs_cons (pg_fld (pv 0)) (pgs_cons (pg_fld (pv 0)) pgs_nil)))))
      (pss_cons (ps_fld (pv 0) (pe_slice sl_tup (pe_fld (pv 0) rfl) po_none (po_some (pe_un un_neg pe_int))) rfl)
      (pss_one (ps_ret pe_bl)))), ?_⟩
    refine ⟨_, rfl, b, _, dx, _, _, rfl, hb, c.c, c.n4, rfl, _, _, rfl, .inr ⟨_, SqT.of (gs _ _ hq), rfl⟩, rfl, _, rfl, ?_⟩
    rcases k with ⟨rfl, k⟩ | ⟨L', s', rfl, k⟩
    · have e : rs = [] := List.eq_nil_of_length_eq_zero hrl
      subst e
      rw [show decide (V.int ((List.map V.ref ([] : List Addr)).length : Nat) = V.int 0) = true from by simp]
      exact k
    · obtain ⟨rs', r, rfl⟩ : ∃ rs' r, rs = rs' ++ [r] := by
        have hne : rs ≠ [] := fun z => by rw [z] at hrl; simp at hrl
        exact ⟨rs.dropLast, rs.getLast hne, (List.dropLast_concat_getLast hne).symm⟩
      have hl' : rs'.length = L'.length := by simpa using hrl
      obtain ⟨d1, p1, t1, hr1, hs1⟩ := hrs rs'.length r s' (by simp) (by rw [hl']; simp)
      rw [show decide (V.int ((List.map V.ref (rs' ++ [r])).length : Nat) = V.int 0) = false from by simp; omega]
      refine ⟨_, rfl, b, _, dx, _, _, rfl, hb, c.c, c.n4, rfl, 1, rfl, q, _, -1, _, rfl, rfl, SqT.of (gs _ _ hq), by rw [List.map_append]; exact atI_last _ _, ?_⟩
      refine ⟨r, _, rfl, SqT.of (gs _ _ hr1), rfl, ?_⟩
      refine ⟨_, _, rfl, _, rfl, b, cBrd K, dx, brdF p d t q, rfl, hb, c.c, c.n2, (show (4 : Nat) < 1000 by decide), ?_⟩
      refine ⟨_, _, rfl, _, rfl, b, cBrd K, dx, _, rfl, upd_same, c.c, c.n1, (show (4 : Nat) < 1000 by decide), ?_⟩
      refine ⟨_, _, rfl, _, rfl, b, cBrd K, dx, _, rfl, upd_same, c.c, c.n3, (show (4 : Nat) < 1000 by decide), rfl, ?_⟩
      have g1 : Gx [b] G H G H := Gx.refl gs
      have g4 := ((g1.wr (o := .ins (cBrd K) dx (putF "own_day" (.ref d1) (brdF p d t q))) hGb (.inl List.mem_cons_self)).wr (o := .ins (cBrd K) dx (putF "own_pauses" (.ref p1) (putF "own_day" (.ref d1) (brdF p d t q)))) hGb (.inl List.mem_cons_self)).wr (o := .ins (cBrd K) dx (putF "own_trips" (.ref t1) (putF "own_pauses" (.ref p1) (putF "own_day" (.ref d1) (brdF p d t q))))) hGb (.inl List.mem_cons_self)
      have ef : putF "own_trips" (.ref t1) (putF "own_pauses" (.ref p1) (putF "own_day" (.ref d1) (brdF p d t q))) = brdF p1 d1 t1 q := rfl
      rw [ef] at g4 ⊢
      generalize hH4 : upd _ b (HO.ins (cBrd K) dx (brdF p1 d1 t1 q)) = H4 at g4 ⊢
      have hb4 : H4 b = some (.ins (cBrd K) dx (brdF p1 d1 t1 q)) := by rw [← hH4]; exact upd_same
      have nbq : b ≠ q := ne_of hb (gs _ _ hq) (by intro z; cases z)
      have hq4 : H4 q = some (.tup ((rs' ++ [r]).map V.ref)) := g4.gh _ _ hq
      refine ⟨_, rfl, b, _, dx, _, _, rfl, hb4, c.c, c.n4, rfl, 1, rfl, -1, rfl, q, _, rfl, SqT.of hq4, fun z => ?_, fun q2 hq2 => ?_⟩
      · have := z.2
        unfold HT.sIx at this
        simp at this
        omega
      · have ec : cutV ((rs' ++ [r]).map V.ref) none (some (-1)) = rs'.map V.ref := by
          unfold cutV HT.sIx
          simp
          have : (-1 + ((rs'.length : Int) + 1)).toNat = rs'.length := by omega
          rw [this]
          exact List.take_left' (List.length_map ..)
        rw [ec]
        have g5 := g4.newF (o := .tup (rs'.map V.ref)) hq2
        have nb2 : b ≠ q2 := ne_of_none hb4 hq2
        refine ⟨_, rfl, b, cBrd K, dx, brdF p1 d1 t1 q, rfl, by rw [upd_ne nb2]; exact hb4, c.c, c.n4, by show (4 : Nat) < 1000; decide, ?_⟩
        have hGb5 := g5.unf hGb (by rw [hb]; intro z; cases z)
        have g6 := g5.wr (o := .ins (cBrd K) dx (brdF p1 d1 t1 q2)) hGb5 (.inl List.mem_cons_self)
        refine k _ _ g6 ⟨dx, p1, d1, t1, q2, upd_same, hGb5, hs1.up g6.gg, rs', upd_same, hl', fun i r z e1 e2 => ?_⟩
        obtain ⟨d2, p2, t2, f1, f2⟩ := hrs i r z (by rw [List.getElem?_append_left (List.getElem?_eq_some_iff.mp e1).1]; exact e1) (by rw [List.getElem?_append_left (List.getElem?_eq_some_iff.mp e2).1]; exact e2)
        exact ⟨d2, p2, t2, g6.gg _ _ f1, f2.up g6.gg⟩
end
end N1
set_option maxHeartbeats 2000000
namespace N1
open PySem PySem.Spec PyProof.Rows L2
/-- a deed: the board goes from s to s2 -/
def Deed (K : PySem.W.Frag) (G H : Hp) (b : Addr) (s s2 : Sn) (L : List Sn) (Q : VK) : Prop := ∀ H' G', Gx [b] G H G' H' → BrdAt K G' H' b s2 (L ++ [s]) → Q .non H'
/-- what all deeds ask of the board's state -/
structure SnW (s : Sn) (L : List Sn) : Prop where
  nd : (names s.ts).Nodup
  l60 : s.ts.length < 64
  L : L.length ≤ 1000
def spPause (K : PySem.W.Frag) : Sp := fun vs H Q _ => ∃ (G : Hp) (b : Addr) (x : Str) (n : Int) (s : Sn) (L : List Sn), vs = [.ref b, .str x, .int n] ∧ Same G H ∧ BrdAt K G H b s L ∧ SnW s L ∧ PaOk (putI s.ps x n) ∧ NameOk x ∧ 0 ≤ n ∧ n ≤ 1000000000000 ∧ s.ps.length ≤ 59 ∧
  Deed K G H b s ⟨s.n, nrm (putI s.ps x n), N1.st s.ts⟩ L Q
def spSetMin (K : PySem.W.Frag) : Sp := fun vs H Q _ => ∃ (G : Hp) (b : Addr) (n : Int) (s : Sn) (L : List Sn), vs = [.ref b, .int n] ∧ Same G H ∧ BrdAt K G H b s L ∧ SnW s L ∧ 1 ≤ n ∧ n ≤ 1000000000000 ∧ (∀ t ∈ s.ts, t.leaves < n) ∧
  Deed K G H b s ⟨n, s.ps, N1.st s.ts⟩ L Q
theorem byN_at {K : PySem.W.Frag} {G : Hp} {as : List Addr} {ts : List TR} {i : Nat} {key : Key} {val : V} (h : Trs K G as ts) (e : (byN ts as)[i]? = some (key, val)) : ∃ (u : TR) (a : Addr), ts[i]? = some u ∧ as[i]? = some a ∧ (key, val) = (Sum.inr u.name, .ref a) ∧ TripAt K G a u := by
  unfold byN at e
  rw [List.getElem?_zipWith] at e
  cases h1 : ts[i]? with
  | none => rw [h1] at e; cases e
  | some u =>
    cases h2 : as[i]? with
    | none => rw [h1, h2] at e; cases e
    | some a =>
      rw [h1, h2] at e
      exact ⟨u, a, rfl, rfl, (Option.some.inj e).symm, h.2 i a u h2 h1⟩
section
variable {P : Program} {w : World} {K : PySem.W.Frag} {mg : Str → Option Value} {base : Heap}
theorem ok_BoardPause (T : FX P K mg) : FnR P w K mg base CX0 7 (ma K (ga K "Board") "pause") (spPause K) := by
  refine fnr T.f_BoardPause sc_BoardPause (fun _ _ _ _ _ _ us hl => match us, hl with | [_, _, _], _ => rfl) (fun vs H Q E h => ?_) (fun cdv A outer s H vs Q E hr h => ?_)
  · obtain ⟨G, b, x, n, s, L, rfl, _⟩ := h
    rfl
  · obtain ⟨G, b, x, n, s, L, rfl, gs, brd, sw, pok, hx, h0, h1, hl, k⟩ := h
    obtain ⟨dx, p, d, t, q, hb, hGb, ⟨hd, hp, as, ht, htr⟩, hL⟩ := id brd
    have c := brC T
    have cP := T.cls "Pauses" (by decide +kernel)
    refine ⟨_, pss_one (ps_expr (pe_methR (pv 0) c.c (T.meth ("Board", "go_on") (by decide +kernel)) (ok_BoardGo_on T) (hr.mono (by decide)) pass0
      (pa_cons (pe_fld (pv 0) rfl) (pa_cons (pe_methR (pe_fld (pv 0) rfl) cP (T.meth ("Pauses", "put") (by decide +kernel)) (ok_PausesPut T) hr pass0 (pa_cons (pv 1) (pa_cons (pv 2) pa_nil))) (pa_cons (pe_fld (pv 0) rfl) pa_nil))))), ?_⟩
    obtain ⟨dpx, dn, dr, hpi, hpn⟩ := id hp
    refine ⟨_, rfl, b, dx, _, rfl, hb, rfl, _, rfl, b, _, dx, _, _, rfl, hb, c.c, c.n2, rfl, _, rfl, b, _, dx, _, _, rfl, hb, c.c, c.n1, rfl, p, dpx, _, rfl, gs _ _ hpi, rfl, _, rfl, _, rfl, G, p, x, n, s.ps, rfl, gs, hp, pok, hx, h0, h1, hl, fun H1 G1 p1 g1 hp1 pa1 => ?_⟩
    have brd1 := brd.up g1 (by simp)
    have hb1 := g1.kp _ _ (by simp) hb
    refine ⟨_, rfl, b, _, dx, _, _, rfl, hb1, c.c, c.n3, rfl, G1, b, d, p1, t, s.n, _, as, s.ts, s, L, rfl, g1.gh, brd1, hd.up g1.gg, pa1, g1.gh _ _ (g1.gg _ _ ht), htr.up g1.gg, sw.nd, sw.l60, sw.L, fun H2 G2 g2 brd2 => ?_⟩
    exact k H2 G2 (g1.nil.trans g2) brd2
theorem ok_BoardSet_minutes (T : FX P K mg) : FnR P w K mg base CX0 5 (ma K (ga K "Board") "set_minutes") (spSetMin K) := by
  refine fnr T.f_BoardSet_minutes sc_BoardSet_minutes (fun _ _ _ _ _ _ us hl => match us, hl with | [_, _], _ => rfl) (fun vs H Q E h => ?_) (fun cdv A outer s H vs Q E hr h => ?_)
  · obtain ⟨G, b, n, s, L, rfl, _⟩ := h
    rfl
  · obtain ⟨G, b, n, s, L, rfl, gs, brd, sw, h0, h1, hlv, k⟩ := h
    obtain ⟨dx, p, d, t, q, hb, hGb, ⟨hd, hp, as, ht, htr⟩, hL⟩ := id brd
    have c := brC T
    have nd := sc_BoardSet_minutes.nd
    have cD := T.cls "Day" (by decide +kernel)
    refine ⟨_, pss_cons (ps_set (i := 2) nd rfl (Or.inl rfl) (StX.pe_makeR (T.mkr "Day" (by decide +kernel)) (ok_DayInit T) hr rfl (T.glo "Day" (by decide +kernel)) pass0 (pa_cons (pv 1) pa_nil)))
      (pss_cons (ps_lock (ps_for PassesOwn.never rfl (pi_keys (pe_fld (pv 0) rfl)) (pg_name (i := 3) nd rfl (Or.inl rfl)) (pss_one (ps_if (pt_cmpR op_ge (pe_fld (pe_dget (hu_of hr) (pe_fld (pv 0) rfl) (pv 3) (fun _ _ => rfl)) rfl) (pv 1) (nomark _)) pss_never pss_nil))))
      (pss_one (ps_expr (pe_methR (pv 0) c.c (T.meth ("Board", "go_on") (by decide +kernel)) (ok_BoardGo_on T) (hr.mono (by decide)) pass0
      (pa_cons (pv 2) (pa_cons (pe_fld (pv 0) rfl) (pa_cons (pe_fld (pv 0) rfl) pa_nil))))))), ?_⟩
    refine ⟨_, rfl, fun x dy hx hdy hne => ⟨x, dy, n, rfl, h0, h1, upd_same, fun H1 k1 hx1 => ⟨rfl, ?_⟩⟩⟩
    have g1 : Gx [] G H (upd G x (.ins (cDay K) dy [("length", .int n)])) H1 := (Gx.refl gs).made hx hdy hne k1 hx1
    generalize hG1 : upd G x (.ins (cDay K) dy [("length", .int n)]) = G1 at g1
    have hday : DayAt K G1 x n := ⟨dy, by rw [← hG1]; exact upd_same⟩
    have brd1 := brd.up g1 (by simp)
    have hb1 := g1.kp _ _ (by simp) hb
    have ht1 : H1 t = some (.dK (byN s.ts as)) := g1.gh _ _ (g1.gg _ _ ht)
    have htb : b ≠ t := ne_of hb1 ht1 (by intro z; cases z)
    refine ⟨t, _, ht1, trivial, fun od => ?_⟩
    have hbl : (upd H1 t (.frz od (.dK (byN s.ts as)))) b = some (.ins (cBrd K) dx (brdF p d t q)) := by rw [upd_ne htb]; exact hb1
    refine ⟨_, rfl, b, _, dx, _, _, rfl, hbl, c.c, c.n3, rfl, t, od, rfl, .inl ⟨_, upd_same, ?_⟩⟩
    have hbk : ((byN s.ts as).map (·.1)).Nodup := by
      rw [byN_keys htr.1.symm]
      exact inr_nodup sw.nd
    refine for_it (walk_keys (kvs := byN s.ts as)) (fun i σ H' => H' = upd H1 t (.frz od (.dK (byN s.ts as))) ∧ ∃ v, σ = [some (.ref b), some (.int n), some (.ref x), v]) ⟨rfl, _, rfl⟩ (fun i σ H' _ h => by rw [h.1]; exact upd_same) ?_ ?_
    · rintro i v σ H2 H3 hi ⟨rfl, v3, rfl⟩ ⟨rfl, key, val, hkv, rfl⟩
      obtain ⟨u, a, e1, e2, e3, hta⟩ := byN_at htr hkv
      cases e3
      obtain ⟨du, hu⟩ := hta.up g1.gg
      have hu3 : (upd H1 t (.frz od (.dK (byN s.ts as)))) a = some (.ins (cTR K u) du (tfs u)) := by
        have h1 := g1.gh _ _ hu
        have : a ≠ t := ne_of h1 ht1 (by intro z; cases z)
        rw [upd_ne this]
        exact h1
      refine ⟨_, rfl, b, _, dx, _, _, rfl, hbl, c.c, c.n3, rfl, _, rfl, t, _, rfl, .inl ⟨_, Sum.inr u.name, .inr ⟨od, upd_same⟩, rfl, (valV_of_get hbk hkv).symm⟩, a, _, du, _, _, rfl, hu3, (trT T u).c, (trT T u).n3, lk_leaves u, _, rfl, _, _, rfl, rfl, _, rfl, ?_⟩
      have e2 : decide (n ≤ u.leaves) = false := by
        have := hlv u (List.mem_of_getElem? e1)
        simp only [decide_eq_false_iff_not]
        omega
      rw [e2]
      exact ⟨rfl, _, rfl⟩
    · rintro σ H2 ⟨rfl, v3, rfl⟩
      refine ⟨upd_same, ?_⟩
      have eu : upd (upd H1 t (.frz od (.dK (byN s.ts as)))) t (.dK (byN s.ts as)) = H1 := by
        funext z
        by_cases hz : z = t
        · rw [hz, upd_same, ht1]
        · rw [upd_ne hz, upd_ne hz]
      rw [eu]
      refine ⟨_, rfl, b, dx, _, rfl, hb1, rfl, _, rfl, _, rfl, b, _, dx, _, _, rfl, hb1, c.c, c.n1, rfl, _, rfl, b, _, dx, _, _, rfl, hb1, c.c, c.n3, rfl, ?_⟩
      exact ⟨G1, b, x, p, t, n, s.ps, as, s.ts, s, L, rfl, g1.gh, brd1, hday, hp.up g1.gg, ht1, htr.up g1.gg, sw.nd, sw.l60, sw.L, fun H4 G4 g4 brd4 => k H4 G4 (g1.nil.trans g4) brd4⟩
end
end N1
set_option maxHeartbeats 2000000
namespace N1
open PySem PySem.Spec PyProof.Rows L2
/-- without the trip of a name -/
def dropT (ts : List TR) (x : Str) : List TR := ts.filter fun t => decide (t.name ≠ x)
theorem pick_filter {ts : List TR} (hn : (names ts).Nodup) (p : Str → Bool) : ((names ts).filter p).filterMap (lk ts) = ts.filter fun t => p t.name := by
  have : ∀ l : List TR, (∀ t ∈ l, t ∈ ts) → ((names l).filter p).filterMap (lk ts) = l.filter fun t => p t.name := by
    intro l
    induction l with
    | nil => intro _; rfl
    | cons t l ih =>
      intro h
      have i2 := ih fun u hu => h u (List.mem_cons_of_mem _ hu)
      have e1 := lk_of hn (h t List.mem_cons_self)
      show ((t.name :: names l).filter p).filterMap (lk ts) = _
      by_cases hp : p t.name = true
      · rw [List.filter_cons_of_pos hp, List.filterMap_cons_some e1, List.filter_cons_of_pos (by exact hp), i2]
      · rw [List.filter_cons_of_neg hp, List.filter_cons_of_neg (by exact hp), i2]
  exact this ts fun _ h => h
def spDrop (K : PySem.W.Frag) : Sp := fun vs H Q _ => ∃ (G : Hp) (b : Addr) (x : Str) (s : Sn) (L : List Sn), vs = [.ref b, .str x] ∧ Same G H ∧ BrdAt K G H b s L ∧ SnW s L ∧ x ∈ names s.ts ∧ Deed K G H b s ⟨s.n, s.ps, N1.st (dropT s.ts x)⟩ L Q
section
variable {P : Program} {w : World} {K : PySem.W.Frag} {mg : Str → Option Value} {base : Heap}
theorem ok_BoardDrop (T : FX P K mg) : FnR P w K mg base CX0 3 (ma K (ga K "Board") "drop") (spDrop K) := by
  refine fnr T.f_BoardDrop sc_BoardDrop (fun _ _ _ _ _ _ us hl => match us, hl with | [_, _], _ => rfl) (fun vs H Q E h => ?_) (fun cdv A outer s H vs Q E hr h => ?_)
  · obtain ⟨G, b, x, s, L, rfl, _⟩ := h
    rfl
  · obtain ⟨G, b, x, s, L, rfl, gs, brd, sw, hx, k⟩ := h
    obtain ⟨dx, p, d, t, q, hb, hGb, ⟨hd, hp, as, ht, htr⟩, hL⟩ := id brd
    have c := brC T
    have nd := sc_BoardDrop.nd
    have hu := hu_of hr
    refine ⟨_, pss_cons (ps_expr (pe_methR (pv 0) c.c (T.meth ("Board", "need_trip") (by decide +kernel)) (ok_BoardNeed_trip T) hr pass0 (pa_cons (pv 1) pa_nil)))
      (pss_one (ps_expr (pe_methR (pv 0) c.c (T.meth ("Board", "go_on") (by decide +kernel)) (ok_BoardGo_on T) (hr.mono (by decide)) pass0
      (pa_cons (pe_fld (pv 0) rfl) (pa_cons (pe_fld (pv 0) rfl) (pa_cons (pe_lock (pe_dc (own := [("one", 2)]) (g := gName 2) (tt := tTest (tOp rNe (tVar 2) (tVar 1))) (tk := tVar 2) (tv := tDGet (tFld K (tVar 0) "own_trips") (tVar 2)) rfl nd
        (pi_keys (pe_fld (pv 0) rfl)) (blkOk_by (N := ["self", "name", "one"]) (sc := defScope m_BoardDrop) (by decide +kernel)) (fun _ _ _ _ _ => pg_name (i := 2) nd rfl (Or.inl rfl)) (fun _ _ _ _ _ => pts_one (pt_cmpR op_ne (pv 2) (pv 1) (nomark _))) (fun _ _ _ _ _ => pv 2)
        (fun _ _ _ _ _ => pe_dget hu (pe_fld (pv 0) rfl) (pv 2) (fun _ _ => rfl)))) pa_nil)))))), ?_⟩
    refine ⟨_, rfl, b, dx, _, rfl, hb, rfl, _, rfl, G, b, x, s, L, rfl, gs, brd, hx, ?_⟩
    refine ⟨_, rfl, b, dx, _, rfl, hb, rfl, _, rfl, b, _, dx, _, _, rfl, hb, c.c, c.n2, rfl, _, rfl, b, _, dx, _, _, rfl, hb, c.c, c.n1, rfl, ?_⟩
    have ht1 := gs _ _ ht
    have htb : b ≠ t := ne_of hb ht1 (by intro z; cases z)
    refine ⟨t, _, ht1, trivial, fun od => ?_⟩
    have hbl : (upd H t (.frz od (.dK (byN s.ts as)))) b = some (.ins (cBrd K) dx (brdF p d t q)) := by rw [upd_ne htb]; exact hb
    have hbk : ((byN s.ts as).map (·.1)).Nodup := by
      rw [byN_keys htr.1.symm]
      exact inr_nodup sw.nd
    have lbl : (byN s.ts as).length = s.ts.length := byN_len htr.1.symm
    have l60 := sw.l60
    have hsub : ∀ n ∈ (names s.ts).filter (fun n => decide (n ≠ x)), n ∈ names s.ts := fun n h => (List.mem_filter.mp h).1
    have lnm : s.ts.length = (names s.ts).length := by unfold names; rw [List.length_map]
    have ep : ((names s.ts).filter (fun n => decide (n ≠ x))).filterMap (lk s.ts) = dropT s.ts x := pick_filter sw.nd fun n => decide (n ≠ x)
    have sel := sel_fm htr.1 _ hsub
    rw [ep] at sel
    have efm : (List.range s.ts.length).filterMap (fun i => ((names s.ts)[i]?).bind fun n => if n = x then none else rowF as s.ts n) = byN (dropT s.ts x) (((names s.ts).filter (fun n => decide (n ≠ x))).filterMap (adr as s.ts)) := by
      rw [lnm, range_fm, ← ep, ← rowF_all htr.1 hsub, List.filterMap_filter]
      congr 1
      funext n
      by_cases e : n = x <;> simp [e]
    have ndd : (names (dropT s.ts x)).Nodup := by
      have := sw.nd
      unfold names dropT at *
      exact this.sublist (List.filter_sublist.map _)
    have ldd : (dropT s.ts x).length < 64 := Nat.lt_of_le_of_lt (List.length_filter_le _ _) l60
    refine ⟨_, rfl, b, _, dx, _, _, rfl, hbl, c.c, c.n3, rfl, t, od, rfl, .inl ⟨_, upd_same, fun D hD => dc_f walk_keys (fun i => ((names s.ts)[i]?).bind fun n => if n = x then none else rowF as s.ts n) hD (by omega) ?_ (fun H' s => s _ _ upd_same) ?_ ?_⟩⟩
    · rw [lbl, efm, byN_keys sel.1.symm]
      exact inr_nodup ndd
    · rintro i v Ha Hb R k0 hi sa ⟨rfl, key, val, hkv, rfl⟩ h2 h3
      obtain ⟨u, a, e1, e2, e3, hta⟩ := byN_at htr hkv
      cases e3
      have e4 : (names s.ts)[i]? = some u.name := by unfold names; rw [List.getElem?_map, e1]; rfl
      refine ⟨rfl, _, rfl, _, rfl, rfl, _, rfl, ?_⟩
      by_cases e : u.name = x
      · subst e
        rw [show (!decide (kV (Sum.inr u.name) = V.str u.name)) = false from by simp [kV]]
        exact h3 (by rw [e4]; simp) _ same_rfl
      · rw [show (!decide (kV (Sum.inr u.name) = V.str x)) = true from by simp [kV, e]]
        have hva := valV_of_get hbk hkv
        refine ⟨_, rfl, _, rfl, b, _, dx, _, _, rfl, sa _ _ hbl, c.c, c.n3, rfl, _, rfl, t, _, rfl, .inl ⟨_, Sum.inr u.name, .inr ⟨od, sa _ _ upd_same⟩, rfl, hva.symm⟩, ?_⟩
        refine h2 (Sum.inr u.name) (.ref a) _ ?_ same_rfl
        rw [e4]
        show (if u.name = x then none else rowF as s.ts u.name) = _
        rw [if_neg e]
        unfold rowF
        have := val_byN (n := u.name) htr.1
        rw [hva] at this
        cases ea : adr as s.ts u.name with
        | none => rw [ea] at this; cases this
        | some a' =>
          rw [ea] at this
          cases this
          rfl
    · intro H7 s7 hD7
      rw [lbl, efm] at hD7
      have nDt : D ≠ t := fun z => by rw [z, upd_same] at hD; cases hD
      have su := unlock_same s7 ht1
      refine ⟨s7 _ _ upd_same, ?_⟩
      have g7 : Gx [b] G H G (upd H7 t (.dK (byN s.ts as))) := (Gx.refl gs).same su
      have hD7' : (upd H7 t (.dK (byN s.ts as))) D = some (.dK (byN (dropT s.ts x) (((names s.ts).filter (fun n => decide (n ≠ x))).filterMap (adr as s.ts)))) := by rw [upd_ne nDt]; exact hD7
      exact ⟨G, b, d, p, D, s.n, s.ps, _, dropT s.ts x, s, L, rfl, g7.gh, ⟨dx, p, d, t, q, su _ _ hb, hGb, ⟨hd, hp, as, ht, htr⟩, hL⟩, hd, hp, hD7', sel.trs htr, ndd, ldd, sw.L, fun H4 G4 g4 brd4 => k H4 G4 (g7.trans g4) brd4⟩
end
end N1
set_option maxHeartbeats 2000000
namespace N1
open PySem PySem.Spec PyProof.Rows L2
/-- with a trip in the place of the one of its name -/
def putT (ts : List TR) (t : TR) : List TR := if t.name ∈ names ts then ts.map (fun u => if u.name = t.name then t else u) else ts ++ [t]
def putA (ts : List TR) (as : List Addr) (t : TR) (a : Addr) : List Addr := if t.name ∈ names ts then List.zipWith (fun u b => if u.name = t.name then a else b) ts as else as ++ [a]
theorem any_byN {ts : List TR} {as : List Addr} {x : Str} : ts.length = as.length → ((byN ts as).any fun kv => decide (kv.1 = Sum.inr x)) = decide (x ∈ names ts) := by
  intro h
  have : ((byN ts as).any fun kv => decide (kv.1 = Sum.inr x)) = (((byN ts as).map (·.1)).any fun k => decide (k = Sum.inr x)) := by rw [List.any_map]; rfl
  rw [this, byN_keys h, List.any_map]
  by_cases hm : x ∈ names ts
  · rw [decide_eq_true hm, List.any_eq_true]
    exact ⟨x, hm, by simp⟩
  · rw [decide_eq_false hm, List.any_eq_false]
    intro y hy
    simp
    intro e
    exact hm (e ▸ hy)
theorem byN_put {t : TR} {a : Addr} {ts : List TR} {as : List Addr} (h : ts.length = as.length) : putK (byN ts as) (Sum.inr t.name) (.ref a) = byN (putT ts t) (putA ts as t a) := by
  unfold putK
  rw [any_byN h]
  unfold putT putA
  by_cases hm : t.name ∈ names ts
  · rw [if_pos hm, if_pos hm, if_pos (by simpa using hm)]
    have : ∀ (ts : List TR) (as : List Addr), ts.length = as.length → (byN ts as).map (fun p => if p.1 = Sum.inr t.name then (p.1, V.ref a) else p) = byN (ts.map fun u => if u.name = t.name then t else u) (List.zipWith (fun u b => if u.name = t.name then a else b) ts as) := by
      intro ts
      induction ts with
      | nil => intro as _; cases as <;> rfl
      | cons u ts ih =>
        intro as h
        cases as with
        | nil => simp at h
        | cons b as =>
          have := ih as (Nat.succ.inj h)
          show (if (Sum.inr u.name : Key) = Sum.inr t.name then _ else _) :: (byN ts as).map _ = _
          rw [this]
          by_cases e : u.name = t.name
          · rw [if_pos (by rw [e])]
            show _ = (Sum.inr (if u.name = t.name then t else u).name, V.ref (if u.name = t.name then a else b)) :: _
            rw [if_pos e, if_pos e]
            show (Sum.inr u.name, V.ref a) :: _ = _
            rw [e]
            rfl
          · rw [if_neg (fun z => e (Sum.inr.inj z))]
            show _ = (Sum.inr (if u.name = t.name then t else u).name, V.ref (if u.name = t.name then a else b)) :: _
            rw [if_neg e, if_neg e]
            rfl
    exact this ts as h
  · rw [if_neg hm, if_neg hm, if_neg (by simpa using hm)]
    exact (byN_snoc h).symm
theorem putA_trs {K : PySem.W.Frag} {G : Hp} {as : List Addr} {ts : List TR} {t : TR} {a : Addr} (h : Trs K G as ts) (ht : TripAt K G a t) : Trs K G (putA ts as t a) (putT ts t) := by
  unfold putT putA
  by_cases hm : t.name ∈ names ts
  · rw [if_pos hm, if_pos hm]
    refine ⟨by rw [List.length_zipWith, List.length_map, h.1]; omega, fun i b u e1 e2 => ?_⟩
    rw [List.getElem?_zipWith] at e1
    rw [List.getElem?_map] at e2
    cases h1 : ts[i]? with
    | none => rw [h1] at e2; cases e2
    | some v =>
      cases h2 : as[i]? with
      | none => rw [h1, h2] at e1; cases e1
      | some c =>
        rw [h1, h2] at e1
        rw [h1] at e2
        have e1 : (if v.name = t.name then a else c) = b := by simpa using e1
        have e2 : (if v.name = t.name then t else v) = u := by simpa using e2
        by_cases e : v.name = t.name
        · rw [if_pos e] at e1 e2
          rw [← e1, ← e2]
          exact ht
        · rw [if_neg e] at e1 e2
          rw [← e1, ← e2]
          exact h.2 i c v h2 h1
  · rw [if_neg hm, if_neg hm]
    refine ⟨by simp [h.1], fun i b u e1 e2 => ?_⟩
    rcases get_snoc e1 with ⟨hi, e⟩ | ⟨hi, e⟩
    · rcases get_snoc e2 with ⟨hi', e'⟩ | ⟨hi', e'⟩
      · exact h.2 i b u e e'
      · have := h.1
        omega
    · rcases get_snoc e2 with ⟨hi', e'⟩ | ⟨hi', e'⟩
      · have := h.1
        omega
      · rw [← e, ← e']
        exact ht
theorem putT_names {ts : List TR} {t : TR} : names (putT ts t) = if t.name ∈ names ts then names ts else names ts ++ [t.name] := by
  unfold putT
  by_cases hm : t.name ∈ names ts
  · rw [if_pos hm, if_pos hm]
    unfold names
    rw [List.map_map]
    refine List.map_congr_left fun u _ => ?_
    show (if u.name = t.name then t else u).name = u.name
    by_cases e : u.name = t.name
    · rw [if_pos e, e]
    · rw [if_neg e]
  · rw [if_neg hm, if_neg hm]
    unfold names
    rw [List.map_append]
    rfl
theorem putT_nodup {ts : List TR} {t : TR} (h : (names ts).Nodup) : (names (putT ts t)).Nodup := by
  rw [putT_names]
  by_cases hm : t.name ∈ names ts
  · rw [if_pos hm]; exact h
  · rw [if_neg hm]
    rw [List.nodup_append]
    exact ⟨h, by simp, fun a ha b hb e => by simp at hb; rw [e, hb] at ha; exact hm ha⟩
def spPut (K : PySem.W.Frag) : Sp := fun vs H Q _ => ∃ (G : Hp) (b a : Addr) (t : TR) (s : Sn) (L : List Sn), vs = [.ref b, .ref a] ∧ Same G H ∧ BrdAt K G H b s L ∧ SnW s L ∧ TripAt K G a t ∧ t.leaves < s.n ∧ (putT s.ts t).length ≤ 40 ∧ Few (putT s.ts t) ∧ Deed K G H b s ⟨s.n, s.ps, N1.st (putT s.ts t)⟩ L Q
section
variable {P : Program} {w : World} {K : PySem.W.Frag} {mg : Str → Option Value} {base : Heap}
theorem ok_BoardPut (T : FX P K mg) : FnR P w K mg base CX0 2 (ma K (ga K "Board") "put") (spPut K) := by
  refine fnr T.f_BoardPut sc_BoardPut (fun _ _ _ _ _ _ us hl => match us, hl with | [_, _], _ => rfl) (fun vs H Q E h => ?_) (fun cdv A outer s H vs Q E hr h => ?_)
  · obtain ⟨G, b, a, u, s, L, rfl, _⟩ := h
    rfl
  · obtain ⟨G, b, a, u, s, L, rfl, gs, brd, sw, hu, hlv, h40, hfew, k⟩ := h
    obtain ⟨dx, p, d, t, q, hb, hGb, ⟨⟨dd, hd⟩, hp, as, ht, htr⟩, hL⟩ := id brd
    obtain ⟨du, hua⟩ := id hu
    have c := brC T
    have nd := sc_BoardPut.nd
    refine ⟨_, pss_cons (ps_if (pt_not (pt_val (cb "isinstance" T call_isi (pa_cons (pv 1) (pa_cons (gc "Trip" T) pa_nil))))) pss_never pss_nil)
      (pss_cons (ps_if (pt_cmpR op_ge (pe_fld (pv 1) rfl) (pe_fld (pe_fld (pv 0) rfl) rfl) (nomark _)) pss_never pss_nil)
      (pss_cons (ps_set (i := 2) nd rfl (Or.inl rfl) (pe_dispU (pe_fld (pv 0) rfl) (pe_fld (pv 1) rfl) (pv 1)))
      (pss_cons (ps_if (pt_cmpR op_gt (cb "len" T call_lenD (pa_cons (pv 2) pa_nil)) (gi "MOST_TRIPS_board" 40 T) (nomark _)) pss_never pss_nil)
      (pss_cons (ps_if (pt_cmpR op_gt (cl "places_count" T (ok_places_count T) hr (pa_cons (pe_listVals rfl (pv 2) (by rfl) (T.fre "list" (by decide +kernel))) pa_nil)) (gi "MOST_PLACES_board" 8 T) (nomark _)) pss_never pss_nil)
      (pss_one (ps_expr (pe_methR (pv 0) c.c (T.meth ("Board", "go_on") (by decide +kernel)) (ok_BoardGo_on T) hr pass0 (pa_cons (pe_fld (pv 0) rfl) (pa_cons (pe_fld (pv 0) rfl) (pa_cons (pv 2) pa_nil)))))))))), ?_⟩
    have ct := trT T u
    have hua1 := gs _ _ hua
    have hd1 := gs _ _ hd
    have ht1 := gs _ _ ht
    have cD := T.cls "Day" (by decide +kernel)
    have nL := T.noat ("Day", "length") (by decide +kernel)
    refine ⟨_, rfl, _, _, _, _, true, rfl, .own _, isi_ok T (isT T u) ct.c hua1, (isT T u).k1, _, rfl, ?_⟩
    refine ⟨_, rfl, a, _, du, _, _, rfl, hua1, ct.c, ct.n3, lk_leaves u, _, rfl, b, _, dx, _, _, rfl, hb, c.c, c.n2, rfl, d, _, dd, _, _, rfl, hd1, cD, nL, rfl, _, _, rfl, rfl, _, rfl, ?_⟩
    rw [show decide (s.n ≤ u.leaves) = false from by simp only [decide_eq_false_iff_not]; omega]
    intro p0 hp0
    have g0 : Gx [] G H G H := Gx.refl gs
    have g1 := g0.new (o := .dK []) hp0
    have hl := byN_len (ts := s.ts) htr.1.symm
    have l60 := sw.l60
    have ntp : t ≠ p0 := ne_of_none ht1 hp0
    refine ⟨_, rfl, b, _, dx, _, _, rfl, g1.kp _ _ (by simp) hb, c.c, c.n3, rfl, t, _, rfl, ntp, g1.gh _ _ ht, upd_same, by rw [hl, sizeLine_eq]; omega, fun q0 hq0 => ?_⟩
    have g2 := g1.wr (o := .dK (byN s.ts as)) (same_non gs hp0) (.inr hp0)
    have g3 := g2.new (o := .dK []) hq0
    have npq : p0 ≠ q0 := fun z => by rw [← z, upd_same] at hq0; cases hq0
    refine ⟨_, rfl, a, _, du, _, _, rfl, g3.gh _ _ hua, ct.c, ct.n1, lk_name u, _, rfl, Sum.inr u.name, rfl, upd_same, by rw [upd_ne npq]; exact upd_same, ?_⟩
    rw [byN_put htr.1.symm]
    have hGp : G p0 = none := same_non gs hp0
    have g4 := g3.wr (o := .dK [((Sum.inr u.name : Key), V.ref a)]) (same_non g2.gh hq0) (.inr (g2.old hq0))
    have g5 := g4.wr (o := .dK (byN (putT s.ts u) (putA s.ts as u a))) hGp (.inr hp0)
    have htr5 := putA_trs htr hu
    generalize hH5 : upd (upd (upd (upd (upd H p0 (.dK [])) p0 (.dK (byN s.ts as))) q0 (.dK [])) q0 (.dK [((Sum.inr u.name : Key), V.ref a)])) p0 (.dK (byN (putT s.ts u) (putA s.ts as u a))) = H5 at g5
    have hp5 : H5 p0 = some (.dK (byN (putT s.ts u) (putA s.ts as u a))) := by rw [← hH5]; exact upd_same
    refine ⟨_, rfl, p0, _, rfl, hp5, _, _, rfl, rfl, _, rfl, ?_⟩
    rw [byN_len htr5.1.symm]
    rw [show decide ((40 : Int) < ((putT s.ts u).length : Nat)) = false from by simp only [decide_eq_false_iff_not]; omega]
    refine ⟨_, rfl, p0, _, rfl, hp5, fun l hl2 => ?_⟩
    rw [byN_vals htr5.1.symm]
    have g6 := g5.new (o := .lst ((putA s.ts as u a).map V.ref)) hl2
    refine ⟨l, _, _, rfl, SqL.of upd_same, htr5.up g6.gh, by omega, hfew, fun n8 H7 hn8 s7 => ?_⟩
    have g7 := g6.same s7
    refine ⟨_, _, rfl, rfl, _, rfl, ?_⟩
    rw [show decide ((8 : Int) < n8) = false from by simp only [decide_eq_false_iff_not]; omega]
    have hp7 : H7 p0 = some (.dK (byN (putT s.ts u) (putA s.ts as u a))) := s7 _ _ (by rw [upd_ne (ne_of_none hp5 hl2)]; exact hp5)
    have hb7 := g7.kp _ _ (by simp) hb
    refine ⟨_, rfl, b, dx, _, rfl, hb7, rfl, _, rfl, b, _, dx, _, _, rfl, hb7, c.c, c.n2, rfl, _, rfl, b, _, dx, _, _, rfl, hb7, c.c, c.n1, rfl, _, rfl, ?_⟩
    exact ⟨G, b, d, p, p0, s.n, s.ps, _, putT s.ts u, s, L, rfl, g7.gh, brd.up g7 (by simp), ⟨dd, hd⟩, hp, hp7, htr5, putT_nodup sw.nd, by omega, sw.L, fun H4 G4 g4 brd4 => k H4 G4 (g7.nil.trans g4) brd4⟩
end
end N1
set_option maxHeartbeats 2000000
namespace N1
open PySem PySem.Spec PyProof.Rows L2
def shT (n k : Int) (t : TR) : TR := t.at ((t.leaves + k) % n) t.takes
def shiftT (n k : Int) (ts : List TR) : List TR := ts.map (shT n k)
theorem names_shift (n k : Int) (ts : List TR) : names (shiftT n k ts) = names ts := by unfold names shiftT; rw [List.map_map]; rfl
/-- what is new at qs is frozen -/
theorem gx_qs {G H H9 : Hp} {qs : List Addr} (gs : Same G H) (s : Same H H9) (hq : ∀ q ∈ qs, H q = none) : Gx [] G H (fun b => if b ∈ qs then H9 b else G b) H9 := by
  refine ⟨fun b o e => ?_, fun b o e => ?_, fun b o _ e => s _ _ e, fun b e => ?_, fun b e => ?_⟩
  · have : b ∉ qs := fun z => by have := hq b z; rw [gs _ _ e] at this; cases this
    show (if b ∈ qs then H9 b else G b) = _
    rw [if_neg this, e]
  · have e : (if b ∈ qs then H9 b else G b) = some o := e
    by_cases hb : b ∈ qs
    · rw [if_pos hb] at e; exact e
    · rw [if_neg hb] at e; exact s _ _ (gs _ _ e)
  · cases q : H b with
    | none => exact absurd q e
    | some o => rw [s _ _ q]; intro z; cases z
  · have e : (if b ∈ qs then H9 b else G b) ≠ none := e
    by_cases hb : b ∈ qs
    · exact .inr (hq b hb)
    · rw [if_neg hb] at e; exact .inl e
def spShift (K : PySem.W.Frag) : Sp := fun vs H Q _ => ∃ (G : Hp) (b : Addr) (n : Int) (s : Sn) (L : List Sn), vs = [.ref b, .int n] ∧ Same G H ∧ BrdAt K G H b s L ∧ SnW s L ∧ 1 ≤ s.n ∧ s.n ≤ 1000000000000 ∧ (∀ t ∈ s.ts, t.Ok) ∧ Deed K G H b s ⟨s.n, s.ps, N1.st (shiftT s.n n s.ts)⟩ L Q
theorem op_trip {X : Cx} (T : FX X.prog X.K X.mg) (hr : Room 8 X.A) : OpR X (binaryOp .Add) (fun x y H Q => rOwnBin (cRun X.K) (spAdd X.K) E0 x y H Q ∨ rOwnBin (cStay X.K) (spAdd X.K) E0 x y H Q) := by
  have F := ok_TripAdd (w := X.w) (base := X.base) T
  have M1 := T.meth ("Run", "__add__") (by decide +kernel)
  have M2 := T.meth ("Stay", "__add__") (by decide +kernel)
  have e1 := (T.tmE "Run" (by decide +kernel)).2
  have e2 := (T.tmE "Stay" (by decide +kernel)).2
  obtain ⟨u1, h1⟩ := T.iad
  obtain ⟨u2, h2⟩ := T.ira
  exact (op_ownI (op := .Add) T.sfR.1 M1.at_ M1.fn T.sfR.2 (.inl rfl) h1 h2 (T.isu "Run" (by decide +kernel)) (e1 ▸ F) hr pass0).or
    (op_ownI (op := .Add) T.sfS.1 M2.at_ M2.fn T.sfS.2 (.inl rfl) h1 h2 (T.isu "Stay" (by decide +kernel)) (e2 ▸ F) hr pass0)
section
variable {P : Program} {w : World} {K : PySem.W.Frag} {mg : Str → Option Value} {base : Heap}
theorem ok_BoardShift (T : FX P K mg) : FnR P w K mg base CX0 9 (ma K (ga K "Board") "shift") (spShift K) := by
  refine fnr T.f_BoardShift sc_BoardShift (fun _ _ _ _ _ _ us hl => match us, hl with | [_, _], _ => rfl) (fun vs H Q E h => ?_) (fun cdv A outer s H vs Q E hr h => ?_)
  · obtain ⟨G, b, n, s, L, rfl, _⟩ := h
    rfl
  · obtain ⟨G, b, n, s, L, rfl, gs, brd, sw, h0, h1, hok, k⟩ := h
    obtain ⟨dx, p, d, t, q, hb, hGb, ⟨⟨dd, hd⟩, hp, as, ht, htr⟩, hL⟩ := id brd
    have c := brC T
    have nd := sc_BoardShift.nd
    have hu := hu_of hr
    have cD := T.cls "Day" (by decide +kernel)
    have nL := T.noat ("Day", "length") (by decide +kernel)
    refine ⟨_, pss_cons (ps_if (pt_not (pt_val (cl "is_integer" T (ok_is_integer T) (hr.mono (by decide)) (pa_cons (pv 1) pa_nil)))) pss_never pss_nil)
      (pss_cons (ps_set (i := 2) nd rfl (Or.inl rfl) pe_dnewK)
      (pss_cons (ps_lock (ps_for PassesOwn.never rfl (pi_keys (pe_fld (pv 0) rfl)) (pg_name (i := 3) nd rfl (Or.inl rfl))
        (pss_cons (ps_set (i := 4) nd rfl (Or.inl rfl) (pe_dget hu (pe_fld (pv 0) rfl) (pv 3) (fun _ _ => rfl)))
        (pss_one (ps_dput hu (pv 2) (pv 3) (pe_op (op_trip T hr) (pv 4) (pe_op op_sub (pe_op op_mod (pe_op op_add (pe_fld (pv 4) rfl) (pv 1)) (pe_fld (pe_fld (pv 0) rfl) rfl)) (pe_fld (pv 4) rfl))) rfl)))))
      (pss_one (ps_expr (pe_methR (pv 0) c.c (T.meth ("Board", "go_on") (by decide +kernel)) (ok_BoardGo_on T) (hr.mono (by decide)) pass0 (pa_cons (pe_fld (pv 0) rfl) (pa_cons (pe_fld (pv 0) rfl) (pa_cons (pv 2) pa_nil)))))))), ?_⟩
    refine ⟨_, rfl, n, rfl, _, rfl, ?_⟩
    intro D hD
    have hd1 := gs _ _ hd
    have ht1 := gs _ _ ht
    have htD : t ≠ D := ne_of_none ht1 hD
    have htb : b ≠ t := ne_of hb ht1 (by intro z; cases z)
    have htD1 : (upd H D (.dK [])) t = some (.dK (byN s.ts as)) := by rw [upd_ne htD]; exact ht1
    refine ⟨t, _, htD1, trivial, fun od => ?_⟩
    generalize hHL : upd (upd H D (.dK [])) t (.frz od (.dK (byN s.ts as))) = HL
    have hLt : HL t = some (.frz od (.dK (byN s.ts as))) := by rw [← hHL]; exact upd_same
    have hLo : ∀ z o, z ≠ t → H z = some o → HL z = some o := fun z o hz e => by
      rw [← hHL, upd_ne hz, upd_ne (ne_of_none e hD)]
      exact e
    have hbl := hLo _ _ htb hb
    have hbD : b ≠ D := ne_of_none hb hD
    refine ⟨_, rfl, b, _, dx, _, _, rfl, hbl, c.c, c.n3, rfl, t, od, rfl, .inl ⟨_, hLt, ?_⟩⟩
    have hbk : ((byN s.ts as).map (·.1)).Nodup := by
      rw [byN_keys htr.1.symm]
      exact inr_nodup sw.nd
    have l60 := sw.l60
    refine for_it (walk_keys (kvs := byN s.ts as)) (fun i σ H' => (∀ z o, z ≠ D → HL z = some o → H' z = some o) ∧ (∃ qs : List Addr, qs.length = i ∧ H' D = some (.dK (byN ((shiftT s.n n s.ts).take i) qs)) ∧ (∀ (j : Nat) (q : Addr) (u : TR), qs[j]? = some q → s.ts[j]? = some u → TripAt K H' q (shT s.n n u)) ∧ ∀ q ∈ qs, H q = none ∧ q ≠ D) ∧
        ∃ v3 v4, σ = [some (.ref b), some (.int n), some (.ref D), v3, v4])
      ⟨fun z o _ e => e, ⟨[], rfl, by rw [← hHL, upd_ne htD.symm]; exact upd_same, fun j q u h => by simp at h, fun q h => by cases h⟩, _, _, rfl⟩ (fun i σ H' _ h => h.1 _ _ htD hLt) ?_ ?_
    · rintro i v σ H2 H3 hi ⟨kp, ⟨qs, hql, hk, hqs, hqn⟩, v3, v4, rfl⟩ ⟨rfl, key, val, hkv, rfl⟩
      obtain ⟨u, a, e1, e2, e3, du, hua⟩ := byN_at htr hkv
      cases e3
      have ct := trT T u
      have hua1 := gs _ _ hua
      have hat : a ≠ t := ne_of hua1 ht1 (by intro z; cases z)
      have haD : a ≠ D := ne_of_none hua1 hD
      have hua3 := kp _ _ haD (hLo _ _ hat hua1)
      have hb3 := kp _ _ hbD hbl
      have hd3 := kp _ _ (ne_of_none hd1 hD) (hLo _ _ (ne_of hd1 ht1 (by intro z; cases z)) hd1)
      refine ⟨_, rfl, b, _, dx, _, _, rfl, hb3, c.c, c.n3, rfl, _, rfl, t, _, rfl, .inl ⟨_, Sum.inr u.name, .inr ⟨od, kp _ _ htD hLt⟩, rfl, (valV_of_get hbk hkv).symm⟩, ?_⟩
      refine ⟨_, rfl, _, rfl, a, _, du, _, _, rfl, hua3, ct.c, ct.n3, lk_leaves u, _, rfl, _, _, rfl, rfl, _, rfl, b, _, dx, _, _, rfl, hb3, c.c, c.n2, rfl, d, _, dd, _, _, rfl, hd3, cD, nL, rfl, _, _, rfl, rfl, by omega, _, rfl, a, _, du, _, _, rfl, hua3, ct.c, ct.n3, lk_leaves u, _, _, rfl, rfl, ?_⟩
      have hum : u ∈ s.ts := List.mem_of_getElem? e1
      have hil : i < s.ts.length := (List.getElem?_eq_some_iff.mp e1).1
      have em : u.leaves + ((u.leaves + n) % s.n - u.leaves) = (u.leaves + n) % s.n := by omega
      have hm0 : 0 ≤ (u.leaves + n) % s.n := Int.emod_nonneg _ (by omega)
      have hm1 : (u.leaves + n) % s.n < s.n := Int.emod_lt_of_pos _ (by omega)
      have step : ∀ (H4 : Hp) (p4 : Addr), H3 p4 = none → Same H3 H4 → TripAt K H4 p4 (shT s.n n u) → ∃ H5, DPut H4 D (.str u.name) (.ref p4) H5 ∧ (∀ z o, z ≠ D → HL z = some o → H5 z = some o) ∧ ∃ qs : List Addr, qs.length = i + 1 ∧ H5 D = some (.dK (byN ((shiftT s.n n s.ts).take (i + 1)) qs)) ∧ (∀ (j : Nat) (q : Addr) (u : TR), qs[j]? = some q → s.ts[j]? = some u → TripAt K H5 q (shT s.n n u)) ∧ ∀ q ∈ qs, H q = none ∧ q ≠ D := by
        intro H4 p4 hp4 s4 ⟨d4, tp⟩
        have hk4 := s4 _ _ hk
        have hp4D : p4 ≠ D := fun z => by rw [z, hk] at hp4; cases hp4
        have ltk : ((shiftT s.n n s.ts).take i).length = i := by
          rw [List.length_take]
          unfold shiftT
          rw [List.length_map]
          omega
        have lby := byN_len (ts := (shiftT s.n n s.ts).take i) (qs := qs) (by rw [ltk, hql])
        have hnew : valV (byN ((shiftT s.n n s.ts).take i) qs) (Sum.inr u.name) = none := by
          rw [val_byN (by rw [ltk, hql])]
          cases ea : adr qs ((shiftT s.n n s.ts).take i) u.name with
          | none => rfl
          | some y =>
            exfalso
            have hm : u.name ∈ names ((shiftT s.n n s.ts).take i) := by
              have : valV (byN ((shiftT s.n n s.ts).take i) qs) (Sum.inr u.name) = some (.ref y) := by rw [val_byN (by rw [ltk, hql]), ea]; rfl
              have := valV_in this
              rw [byN_keys (by rw [ltk, hql])] at this
              obtain ⟨z, hz, ez⟩ := List.mem_map.mp this
              exact Sum.inr.inj ez ▸ hz
            have e9 : names ((shiftT s.n n s.ts).take i) = (names s.ts).take i := by
              rw [← names_shift s.n n s.ts]
              unfold names
              rw [List.map_take]
            rw [e9] at hm
            have nd2 := sw.nd
            have hil' : i < (names s.ts).length := by unfold names; rw [List.length_map]; exact hil
            have e10 : (names s.ts)[i] = u.name := (List.getElem?_eq_some_iff.mp (show (names s.ts)[i]? = some u.name by unfold names; rw [List.getElem?_map, e1]; rfl)).2
            have nd3 : ((names s.ts).take (i + 1)).Nodup := nd2.sublist (List.take_sublist _ _)
            rw [List.take_succ_eq_append_getElem hil', e10] at nd3
            exact (List.nodup_append.mp nd3).2.2 _ hm _ (by simp) rfl
        refine ⟨_, DPut.k (k := Sum.inr u.name) hk4 (by rw [lby, ltk, sizeLine_eq]; omega), fun z o hz e => by rw [upd_ne hz]; exact s4 _ _ (kp z o hz e), qs ++ [p4], by rw [List.length_append, hql]; rfl, ?_, ?_, ?_⟩
        · have hil2 : i < (shiftT s.n n s.ts).length := by unfold shiftT; rw [List.length_map]; exact hil
          have e11 : (shiftT s.n n s.ts)[i] = shT s.n n u := (List.getElem?_eq_some_iff.mp (show (shiftT s.n n s.ts)[i]? = some (shT s.n n u) by unfold shiftT; rw [List.getElem?_map, e1]; rfl)).2
          rw [upd_same, putK_new _ hnew, List.take_succ_eq_append_getElem hil2, e11, byN_snoc (by rw [ltk, hql])]
          rfl
        · intro j q5 u5 f1 f2
          rcases get_snoc f1 with ⟨hj, f⟩ | ⟨hj, f⟩
          · obtain ⟨d5, h5⟩ := hqs j q5 u5 f f2
            refine ⟨d5, ?_⟩
            rw [upd_ne (hqn q5 (List.mem_of_getElem? f)).2]
            exact s4 _ _ h5
          · rw [hj, hql, e1] at f2
            cases f2
            subst f
            exact ⟨d4, by rw [upd_ne hp4D]; exact tp⟩
        · intro q5 hq5
          rcases List.mem_append.mp hq5 with z | z
          · exact hqn q5 z
          · have e : q5 = p4 := by simpa using z
            subst e
            refine ⟨?_, hp4D⟩
            cases y : H q5 with
            | none => rfl
            | some o =>
              have h1 : HL q5 ≠ none := by
                by_cases z : q5 = t
                · rw [z, hLt]; intro w; cases w
                · rw [hLo _ _ z y]; intro w; cases w
              cases y2 : HL q5 with
              | none => exact absurd y2 h1
              | some o2 =>
                rw [kp _ _ hp4D y2] at hp4
                cases hp4
      obtain hC | hC : cTR K u = cRun K ∨ cTR K u = cStay K := by
        unfold cTR
        cases u.run
        · exact .inr rfl
        · exact .inl rfl
      · refine .inl ⟨a, _, rfl, rfl, ⟨du, tfs u, hC ▸ hua3⟩, a, u, _, rfl, hok u hum, ⟨du, hua3⟩, by rw [em]; exact hm0, by rw [em]; omega, fun H4 p4 hp4 s4 tp => ⟨⟨p4, rfl⟩, ?_⟩⟩
        obtain ⟨H5, dp, kp5, qs5⟩ := step H4 p4 hp4 s4 (by rw [em] at tp; exact tp)
        exact ⟨_, rfl, _, rfl, D, H5, rfl, dp, kp5, qs5, _, _, rfl⟩
      · refine .inr ⟨a, _, rfl, rfl, ⟨du, tfs u, hC ▸ hua3⟩, a, u, _, rfl, hok u hum, ⟨du, hua3⟩, by rw [em]; exact hm0, by rw [em]; omega, fun H4 p4 hp4 s4 tp => ⟨⟨p4, rfl⟩, ?_⟩⟩
        obtain ⟨H5, dp, kp5, qs5⟩ := step H4 p4 hp4 s4 (by rw [em] at tp; exact tp)
        exact ⟨_, rfl, _, rfl, D, H5, rfl, dp, kp5, qs5, _, _, rfl⟩
    · rintro σ H2 ⟨kp, ⟨qs, hql, hk, hqs, hqn⟩, v3, v4, rfl⟩
      refine ⟨kp _ _ htD hLt, ?_⟩
      have sH : Same H (upd H2 t (.dK (byN s.ts as))) := fun z o e => by
        by_cases hz : z = t
        · rw [hz, upd_same]
          rw [hz, ht1] at e
          exact e
        · rw [upd_ne hz]
          exact kp _ _ (ne_of_none e hD) (hLo _ _ hz e)
      have g9 := gx_qs gs sH fun q hq => (hqn q hq).1
      generalize hG9 : (fun b => if b ∈ qs then (upd H2 t (.dK (byN s.ts as))) b else G b) = G9 at g9
      have lbl := byN_len (ts := s.ts) htr.1.symm
      rw [lbl] at hql hk
      have lsh : (shiftT s.n n s.ts).length = s.ts.length := by unfold shiftT; rw [List.length_map]
      rw [← lsh, List.take_length] at hk
      have hD9 : (upd H2 t (.dK (byN s.ts as))) D = some (.dK (byN (shiftT s.n n s.ts) qs)) := by rw [upd_ne htD.symm]; exact hk
      have tr9 : Trs K G9 qs (shiftT s.n n s.ts) := by
        refine ⟨by rw [hql, lsh], fun j q5 u5 f1 f2 => ?_⟩
        unfold shiftT at f2
        rw [List.getElem?_map] at f2
        cases f : s.ts[j]? with
        | none => rw [f] at f2; cases f2
        | some u =>
          rw [f] at f2
          cases f2
          obtain ⟨d5, h5⟩ := hqs j q5 u f1 f
          refine ⟨d5, ?_⟩
          have hm := List.mem_of_getElem? f1
          have : q5 ≠ t := fun z => by
            have := (hqn q5 hm).1
            rw [z, ht1] at this
            cases this
          rw [← hG9]
          show (if q5 ∈ qs then _ else _) = _
          rw [if_pos hm, upd_ne this]
          exact h5
      have hb9 := g9.kp _ _ (by simp) hb
      refine ⟨_, rfl, b, dx, _, rfl, hb9, rfl, _, rfl, b, _, dx, _, _, rfl, hb9, c.c, c.n2, rfl, _, rfl, b, _, dx, _, _, rfl, hb9, c.c, c.n1, rfl, _, rfl, ?_⟩
      exact ⟨G9, b, d, p, D, s.n, s.ps, qs, shiftT s.n n s.ts, s, L, rfl, g9.gh, brd.up g9 (by simp), DayAt.up g9.gg ⟨dd, hd⟩, hp.up g9.gg, hD9, tr9, by rw [names_shift]; exact sw.nd, by omega, sw.L, fun H4 G4 g4 brd4 => k H4 G4 (g9.nil.trans g4) brd4⟩
end
end N1
set_option maxHeartbeats 2000000
namespace N1
open PySem PySem.Spec PyProof.Rows L2
/-- a deed whose method hands the board back -/
def DeedB (K : PySem.W.Frag) (G H : Hp) (b : Addr) (s s2 : Sn) (L : List Sn) (Q : VK) : Prop := ∀ H' G', Gx [b] G H G' H' → BrdAt K G' H' b s2 (L ++ [s]) → Q (.ref b) H'
def spIadd (K : PySem.W.Frag) (neg : Bool) : Sp := fun vs H Q _ => ∃ (G : Hp) (b : Addr) (n : Int) (s : Sn) (L : List Sn), vs = [.ref b, .int n] ∧ Same G H ∧ BrdAt K G H b s L ∧ SnW s L ∧ 1 ≤ s.n ∧ s.n ≤ 1000000000000 ∧ (∀ t ∈ s.ts, t.Ok) ∧ DeedB K G H b s ⟨s.n, s.ps, N1.st (shiftT s.n (if neg then -n else n) s.ts)⟩ L Q
def spSetI (K : PySem.W.Frag) : Sp := fun vs H Q _ => ∃ (G : Hp) (b a : Addr) (t : TR) (s : Sn) (L : List Sn), vs = [.ref b, .str t.name, .ref a] ∧ Same G H ∧ BrdAt K G H b s L ∧ SnW s L ∧ TripAt K G a t ∧ t.leaves < s.n ∧ (putT s.ts t).length ≤ 40 ∧ Few (putT s.ts t) ∧ Deed K G H b s ⟨s.n, s.ps, N1.st (putT s.ts t)⟩ L Q
section
variable {P : Program} {w : World} {K : PySem.W.Frag} {mg : Str → Option Value} {base : Heap}
/-- a def with one default, every parameter given -/
theorem fnrD {x qual : Str} {st : Stmt} {f : Addr} {N ps : List Str} {k : Nat} {sp : Sp} {v0 : V} (F : IsDef K f x qual st [v0]) (S : FnScope N ps (defScope st))
    (hb : ∀ (T : Addr) (kV doc pm : Value) (an : Option Addr) (cdv ct : Value) (us its : List Value), us.length = ps.length → its.length = ([v0] : List V).length →
      ∃ k, bindArgs (PySem.W.fnOf x qual (defArgs st) (defBody st) (defScope st) (.ref T) kV doc pm an cdv ct) ⟨us, []⟩ = seqItems? (.ref T) >>= k ∧ k (some its.toArray) = pure (ps.zip (us ++ its.drop 1)))
    (len : ∀ vs H Q E, sp vs H Q E → vs.length = ps.length)
    (hbody : ∀ (cdv : Value) (A : Around) (outer : List Env) (s : Shared) (H : Hp) (vs : List V) (Q : VK) (E : XK), Room k (A.deeper (envOfC qual (defScope st) s.heap.objs.size f cdv)) → sp vs H Q E →
      ∃ t, PSs (cxOf CX0 P w K mg base N qual (defScope st) f cdv A outer s H E).nox (defBody st) t ∧ t { nx := fun _ H' => Q .non H', rt := Q } (start N vs) H) :
    FnR P w K mg base CX0 (k + 1) f sp := by
  obtain ⟨fd, F⟩ := F
  obtain ⟨ds, rd, hbd⟩ := F.binds1 (ps := ps) ps.length 1 (by simp) (by simp) hb
  cases rd
  have z := (F.ok (CX := CX0) S len fun cdv A outer s H vs Q E hr h => (let ⟨t, h1, h2⟩ := hbody cdv A outer s H vs Q E hr h; ⟨t, h1.nox, h2⟩)).raw hbd .nil
  exact z.imp fun vs H Q E h => by rw [List.append_nil]; exact h
theorem ok_BoardSetitem (T : FX P K mg) : FnR P w K mg base CX0 3 (ma K (ga K "Board") "__setitem__") (spSetI K) := by
  refine fnr T.f_BoardSetitem sc_BoardSetitem (fun _ _ _ _ _ _ us hl => match us, hl with | [_, _, _], _ => rfl) (fun vs H Q E h => ?_) (fun cdv A outer s H vs Q E hr h => ?_)
  · obtain ⟨G, b, a, t, s, L, rfl, _⟩ := h
    rfl
  · obtain ⟨G, b, a, u, s, L, rfl, gs, brd, sw, hu, h1, h2, h3, k⟩ := h
    obtain ⟨dx, p, d, t, q, hb, _⟩ := id brd
    obtain ⟨du, hua⟩ := id hu
    have c := brC T
    have ct := trT T u
    have hua1 := gs _ _ hua
    refine ⟨_, pss_cons (ps_if (pt_not (pt_val (cb "isinstance" T call_isi (pa_cons (pv 2) (pa_cons (gc "Trip" T) pa_nil))))) pss_never pss_nil)
      (pss_cons (ps_if (pt_cmpR op_ne (pv 1) (pe_fld (pv 2) rfl) (nomark _)) pss_never pss_nil)
      (pss_one (ps_expr (pe_methR (pv 0) c.c (T.meth ("Board", "put") (by decide +kernel)) (ok_BoardPut T) hr pass0 (pa_cons (pv 2) pa_nil))))), ?_⟩
    refine ⟨_, rfl, _, _, _, _, true, rfl, .own _, isi_ok T (isT T u) ct.c hua1, (isT T u).k1, _, rfl, ?_⟩
    refine ⟨_, rfl, _, rfl, a, _, du, _, _, rfl, hua1, ct.c, ct.n1, lk_name u, rfl, _, rfl, ?_⟩
    rw [show (!decide (V.str u.name = V.str u.name)) = false from by simp]
    exact ⟨_, rfl, b, dx, _, rfl, hb, rfl, _, rfl, G, b, a, u, s, L, rfl, gs, brd, sw, hu, h1, h2, h3, k⟩
theorem ok_BoardIadd (T : FX P K mg) : FnR P w K mg base CX0 10 (ma K (ga K "Board") "__iadd__") (spIadd K false) := by
  refine fnr T.f_BoardIadd sc_BoardIadd (fun _ _ _ _ _ _ us hl => match us, hl with | [_, _], _ => rfl) (fun vs H Q E h => ?_) (fun cdv A outer s H vs Q E hr h => ?_)
  · obtain ⟨G, b, n, s, L, rfl, _⟩ := h
    rfl
  · obtain ⟨G, b, n, s, L, rfl, gs, brd, sw, h1, h2, h3, k⟩ := h
    obtain ⟨dx, p, d, t, q, hb, _⟩ := id brd
    have c := brC T
    refine ⟨_, pss_cons (ps_expr (pe_methR (pv 0) c.c (T.meth ("Board", "shift") (by decide +kernel)) (ok_BoardShift T) hr pass0 (pa_cons (pv 1) pa_nil))) (pss_one (ps_ret (pv 0))), ?_⟩
    exact ⟨_, rfl, b, dx, _, rfl, hb, rfl, _, rfl, G, b, n, s, L, rfl, gs, brd, sw, h1, h2, h3, fun H' G' g' b' => ⟨_, rfl, k H' G' g' b'⟩⟩
theorem ok_BoardIsub (T : FX P K mg) : FnR P w K mg base CX0 10 (ma K (ga K "Board") "__isub__") (spIadd K true) := by
  refine fnr T.f_BoardIsub sc_BoardIsub (fun _ _ _ _ _ _ us hl => match us, hl with | [_, _], _ => rfl) (fun vs H Q E h => ?_) (fun cdv A outer s H vs Q E hr h => ?_)
  · obtain ⟨G, b, n, s, L, rfl, _⟩ := h
    rfl
  · obtain ⟨G, b, n, s, L, rfl, gs, brd, sw, h1, h2, h3, k⟩ := h
    obtain ⟨dx, p, d, t, q, hb, _⟩ := id brd
    have c := brC T
    refine ⟨_, pss_cons (ps_if (pt_not (pt_val (cl "is_integer" T (ok_is_integer T) (hr.mono (by decide)) (pa_cons (pv 1) pa_nil)))) pss_never pss_nil)
      (pss_cons (ps_expr (pe_methR (pv 0) c.c (T.meth ("Board", "shift") (by decide +kernel)) (ok_BoardShift T) hr pass0 (pa_cons (pe_un un_neg (pv 1)) pa_nil))) (pss_one (ps_ret (pv 0)))), ?_⟩
    refine ⟨_, rfl, n, rfl, _, rfl, ?_⟩
    exact ⟨_, rfl, b, dx, _, rfl, hb, rfl, _, rfl, n, rfl, G, b, -n, s, L, rfl, gs, brd, sw, h1, h2, h3, fun H' G' g' b' => ⟨_, rfl, k H' G' g' b'⟩⟩
end
end N1
set_option maxHeartbeats 2000000
namespace N1
open PySem PySem.Spec PyProof.Rows L2
def spBrdI (K : PySem.W.Frag) : Sp := fun vs H Q _ => ∃ (G : Hp) (b t p dx : Addr) (n : Int) (us : List TR) (ps : List (Str × Int)), vs = [.ref b, .ref t, .ref p] ∧ Same G H ∧ G b = none ∧ H b = some (.ins (cBrd K) dx []) ∧ TableAt K G t n us ∧ (names us).Nodup ∧ us.length < 64 ∧ PausesAt K G p ps ∧
  ∀ H' G', Gx [b] G H G' H' → BrdAt K G' H' b ⟨n, ps, us⟩ [] → Q .non H'
def bf1 (p : Addr) : List (Str × V) := [("own_pauses", .ref p)]
def bf2 (p d : Addr) : List (Str × V) := [("own_pauses", .ref p), ("own_day", .ref d)]
def bf3 (p d t : Addr) : List (Str × V) := [("own_pauses", .ref p), ("own_day", .ref d), ("own_trips", .ref t)]
theorem sh_all {as : List Addr} {us : List TR} (hl : as.length = us.length) (hn : (names us).Nodup) : (names us).filterMap (rowF as us) = byN us as := by
  have e1 : (names us).filterMap (lk us) = us := by
    have := pick_filter hn fun _ => true
    rw [List.filter_eq_self.mpr (fun _ _ => rfl), List.filter_eq_self.mpr (fun _ _ => rfl)] at this
    exact this
  have e2 : (names us).filterMap (adr as us) = as := by
    have h0 := rowF_all hl (l := names us) fun n h => h
    refine List.ext_getElem? fun i => ?_
    have sel := sel_fm hl (names us) fun n h => h
    rw [e1] at sel
    cases hi : as[i]? with
    | none =>
      have : as.length ≤ i := by simpa using hi
      rw [List.getElem?_eq_none]
      rw [sel.1]
      omega
    | some a =>
      have hil : i < us.length := by rw [← hl]; exact (List.getElem?_eq_some_iff.mp hi).1
      have hil2 : i < ((names us).filterMap (adr as us)).length := by rw [sel.1]; exact hil
      rw [List.getElem?_eq_getElem hil2]
      obtain ⟨j, h1, h2⟩ := sel.2 i _ us[i] (List.getElem?_eq_getElem hil2) (List.getElem?_eq_getElem hil)
      have hj : j < us.length := (List.getElem?_eq_some_iff.mp h2).1
      have ej : us[j] = us[i] := (List.getElem?_eq_some_iff.mp h2).2
      have nd := nodup_of_names hn
      have eij : j = i := by
        rcases Nat.lt_trichotomy j i with z | z | z
        · exact absurd ej (List.pairwise_iff_getElem.mp nd j i hj hil z)
        · exact z
        · exact absurd ej.symm (List.pairwise_iff_getElem.mp nd i j hil hj z)
      subst eij
      rw [hi] at h1
      rw [h1]
  rw [rowF_all hl fun n h => h, e1, e2]
section
variable {P : Program} {w : World} {K : PySem.W.Frag} {mg : Str → Option Value} {base : Heap}
theorem ok_BoardInit (T : FX P K mg) : FnR P w K mg base CX0 4 (ini K "Board") (spBrdI K) := by
  refine fnrD T.f_BoardInit sc_BoardInit (fun _ _ _ _ _ _ _ us its h1 h2 => match us, its, h1, h2 with | [_, _, _], [_], _, _ => ⟨_, rfl, rfl⟩) (fun vs H Q E h => ?_) (fun cdv A outer s H vs Q E hr h => ?_)
  · obtain ⟨G, b, t, p, dx, n, us, ps, rfl, _⟩ := h
    rfl
  · obtain ⟨G, b, t, p, dx, n, us, ps, rfl, gs, hGb, hb, tab, hnd, l60, pau, k⟩ := h
    obtain ⟨rs, tabr⟩ := tab.rows
    obtain ⟨dt, d, dn, dp, dr, h1, h2, h3, h4, h5⟩ := id tabr
    have c := brC T
    have cT := T.cls "Table" (by decide +kernel)
    have nd := sc_BoardInit.nd
    refine ⟨_, pss_cons (ps_expr (cl "need_table" T (ok_need_table T) (hr.mono (by decide)) (pa_cons (pv 1) pa_nil)))
      (pss_cons (ps_fld (pv 0) (cl "needed_pauses" T (ok_needed_pauses T) (hr.mono (by decide)) (pa_cons (pv 2) pa_nil)) rfl)
      (pss_cons (ps_fld (pv 0) (pe_fld (pv 1) rfl) rfl)
      (pss_cons (ps_fld (pv 0) (pe_dc (own := [("name", 3)]) (g := gName 3) (tt := tYes) (tk := tVar 3) (tv := tOp (rOwnIx (cTab K) (spTabGet K) E0) (tVar 1) (tVar 3)) rfl nd
        (pi_tup (pe_fld (pv 1) rfl)) (blkOk_by (N := ["self", "table", "pauses", "name"]) (sc := defScope m_BoardInit) (by decide +kernel)) (fun _ _ _ _ _ => pg_name (i := 3) nd rfl (Or.inl rfl)) (fun _ _ _ _ _ => pts_nil) (fun _ _ _ _ _ => pv 3)
        (fun _ _ _ _ _ => pe_ixO (T.meth ("Table", "__getitem__") (by decide +kernel)) T.nsq.2.1 (ok_TableGetitem T) hr pass0 (pv 1) (pv 3))) rfl)
      (pss_one (ps_fld (pv 0) (pe_tup pa_nil) rfl))))), ?_⟩
    have nDy := T.noat ("Table", "day") (by decide +kernel)
    have nNm := T.noat ("Table", "names") (by decide +kernel)
    have h1H := gs _ _ h1
    refine ⟨_, rfl, t, n, us, rfl, tab.up gs, ?_⟩
    refine ⟨_, rfl, p, ps, rfl, pau.up gs, _, rfl, b, cBrd K, dx, [], rfl, hb, c.c, c.n1, by decide, ?_⟩
    have g1 : Gx [b] G H G _ := (Gx.refl gs).wr (o := .ins (cBrd K) dx (bf1 p)) hGb (.inl List.mem_cons_self)
    refine ⟨_, rfl, t, _, dt, _, _, rfl, g1.gh _ _ h1, cT, nDy, rfl, _, rfl, b, cBrd K, dx, (bf1 p), rfl, upd_same, c.c, c.n2, (show (1 : Nat) < 1000 by decide), ?_⟩
    have g2 := g1.wr (o := .ins (cBrd K) dx (bf2 p d)) hGb (.inl List.mem_cons_self)
    have ef : putF "own_day" (.ref d) (bf1 p) = (bf2 p d) := rfl
    have ef0 : putF "own_pauses" (.ref p) ([] : List (Str × V)) = (bf1 p) := rfl
    rw [ef0, ef]
    generalize hH2 : upd _ b (HO.ins (cBrd K) dx (bf2 p d)) = H2 at g2 ⊢
    have hb2 : H2 b = some (.ins (cBrd K) dx (bf2 p d)) := by rw [← hH2]; exact upd_same
    have hla := h5.1
    have lnm : (names us).length = us.length := by unfold names; rw [List.length_map]
    have lsn : ((names us).map V.str).length = (names us).length := List.length_map ..
    refine ⟨_, rfl, t, _, dt, _, _, rfl, g2.gh _ _ h1, cT, nNm, rfl, dn, rfl, ⟨_, (h3.up g2.gh).seq⟩, fun D hD => dc_f walk_tup (fun i => ((names us)[i]?).bind (rowF rs us)) hD (by rw [lsn, lnm]; omega) ?_ (fun H' s => (h3.up (same_tr g2.gh s)).seq) ?_ ?_⟩
    · rw [lsn, range_fm, rowF_keys hla fun n h => h]
      exact inr_nodup hnd
    · rintro i x Ha Hb R k0 hi sa ⟨rfl, hx⟩ q2 q3
      rw [List.getElem?_map] at hx
      cases e : (names us)[i]? with
      | none => rw [e] at hx; cases hx
      | some nm =>
        rw [e] at hx
        cases hx
        have hm := List.mem_of_getElem? e
        refine ⟨rfl, _, rfl, _, rfl, _, rfl, t, rfl, ⟨_, _, sa _ _ (g2.gh _ _ h1)⟩, G, t, nm, n, us, rs, rfl, same_tr g2.gh sa, tabr, hnd, hm, fun b' ea => ?_⟩
        exact q2 (Sum.inr nm) (.ref b') _ (by rw [e]; show rowF rs us nm = _; unfold rowF; rw [ea]; rfl) same_rfl
    · intro H7 s7 hD7
      rw [lsn, range_fm, sh_all hla hnd] at hD7
      have g7 := g2.same s7
      have hHb : H b ≠ none := by rw [hb]; intro z; cases z
      have hD0 : H D = none := g2.old hD
      have g8 := g7.frz hD7 hD0
      have hGb8 := g8.unf hGb hHb
      refine ⟨_, rfl, b, cBrd K, dx, _, rfl, s7 _ _ hb2, c.c, c.n3, (show (2 : Nat) < 1000 by decide), ?_⟩
      have g9 := g8.wr (o := .ins (cBrd K) dx (bf3 p d D)) hGb8 (.inl List.mem_cons_self)
      refine ⟨by decide, fun q hq => ?_⟩
      have g10 := g9.newF (o := .tup []) hq
      have hb10 : (upd (upd H7 b (.ins (cBrd K) dx (bf3 p d D))) q (.tup [])) b = some (.ins (cBrd K) dx (bf3 p d D)) := by
        rw [upd_ne (ne_of_none upd_same hq)]
        exact upd_same
      refine ⟨_, rfl, b, cBrd K, dx, _, rfl, hb10, c.c, c.n4, (show (3 : Nat) < 1000 by decide), ?_⟩
      have hGb10 := g10.unf hGb hHb
      have g11 := g10.wr (o := .ins (cBrd K) dx (brdF p d D q)) hGb10 (.inl List.mem_cons_self)
      have nqD : q ≠ D := fun z => by
        have h9 : (upd H7 b (.ins (cBrd K) dx (bf3 p d D))) D ≠ none := by
          rw [upd_ne (fun y => hHb (by rw [← y]; exact hD0)), hD7]
          intro y; cases y
        exact h9 (z ▸ hq)
      exact k _ _ g11 ⟨dx, p, d, D, q, upd_same, hGb10, ⟨h2.up g11.gg, pau.up g11.gg, rs, by rw [upd_ne nqD.symm]; exact upd_same, h5.up g11.gg⟩, [], upd_same, rfl, fun i r z e => by simp at e⟩
end
end N1
set_option maxHeartbeats 2000000
namespace N1
open PySem PySem.Spec PyProof.Rows L2
section
variable {P : Program} {w : World} {K : PySem.W.Frag} {mg : Str → Option Value} {base : Heap}
abbrev cNo (K : PySem.W.Frag) := ga K "NoTrip"
def spNoI (K : PySem.W.Frag) : Sp := fun vs H Q _ => ∃ (x : Addr) (n : Str), vs = [.ref x, .str n] ∧ H x = some (exo x (cNo K) none) ∧
  ∀ dx, H dx = none → dx ≠ x → Q .non (upd (upd H dx (exd dx [("name", .str n)])) x (exo x (cNo K) (some dx)))
theorem ok_NoTripInit (T : FX P K mg) {CX : CXT} : FnR P w K mg base CX 1 (ini K "NoTrip") (spNoI K) := by
  have z := fn_excsup (CX := CX) (w := w) (base := base) (k := 0) (N := ["self", "name", "__class__"]) (ps := ["self", "name"]) (rest := (defBody m_NoTripInit).tail) (tr := tOst K "name" (tVar 0) (tVar 1)) (ta := tCons (tC (.str "There is no trip of this name")) tNil) T.suN rfl (NdefX.nscope_by (by decide +kernel)) (by decide +kernel) rfl rfl rfl (by decide +kernel)
    (fun _ _ _ _ _ us hl => match us, hl with | [_, _], _ => rfl) (T.fre "super" (by decide +kernel)) T.top_ T.opq T.oex T.siN.1 T.siN.2.1 T.siN.2.2
    (fun _ _ _ _ _ => pa_cons pe_str pa_nil) (fun _ _ _ _ _ => rfl) (fun _ _ _ _ _ => ⟨_, rfl⟩) (fun _ _ _ _ _ => ⟨rfl, rfl⟩) (fun _ _ _ _ _ => pss_one (ps_ost (pv 0) (pv 1)))
  refine z.imp fun vs H Q E h => ?_
  obtain ⟨x, n, rfl, hx, k⟩ := h
  refine ⟨x, _, rfl, rfl, hx, ?_⟩
  refine ⟨by decide, rfl, _, rfl, _, rfl, x, cNo K, rfl, T.oex, T.oeN, .inl ⟨hx, fun dx hdx hne => k dx hdx hne⟩⟩
end
end N1
set_option maxHeartbeats 2000000
namespace N1
open PySem PySem.Spec PyProof.Rows L2
section
variable {P : Program} {w : World} {K : PySem.W.Frag} {mg : Str → Option Value} {base : Heap}
/-- a name that is not there: NoTrip is raised -/
def spNeedX (K : PySem.W.Frag) : Sp := fun vs H Q E => ∃ (G : Hp) (b : Addr) (x : Str) (s : Sn) (L : List Sn), vs = [.ref b, .str x] ∧ Same G H ∧ BrdAt K G H b s L ∧ x ∉ names s.ts ∧ ∀ d H', Same H H' → E (.ref (cNo K)) d H'
theorem ok_BoardNeed_tripX (T : FX P K mg) : FnR P w K mg base (L2.CX P w) 3 (ma K (ga K "Board") "need_trip") (spNeedX K) := by
  refine fnrX T.f_BoardNeed_trip sc_BoardNeed_trip (fun _ _ _ _ _ _ us hl => match us, hl with | [_, _], _ => rfl) (fun vs H Q E h => ?_) (fun cdv A outer s H vs Q E hr h => ?_)
  · obtain ⟨G, b, x, s, L, rfl, _⟩ := h
    rfl
  · obtain ⟨G, b, x, s, L, rfl, gs, brd, hx, k⟩ := h
    refine ⟨_, pss_one (ps_if (pt_cmpR (or_ownNotIn (T.meth ("Board", "__contains__") (by decide +kernel)) (ok_BoardContains T) (hr.mono (by decide)) pass0) (pv 1) (pv 0) rfl)
      (pss_one (ps_raise rfl (takes_of rfl rfl rfl rfl) (pmk_oexR T.oex T.oeI.1 T.oeI.2 (ok_NoTripInit T (CX := CX0)) hr pass0 rfl (T.glo "NoTrip" (by decide +kernel)) (pa_cons (pv 1) pa_nil)))) pss_nil), ?_⟩
    obtain ⟨dx, p, d, t, q, hb, _⟩ := id brd
    refine ⟨_, rfl, _, rfl, b, rfl, ⟨_, _, hb⟩, G, b, x, s, L, rfl, gs, brd, _, rfl, _, rfl, ?_⟩
    rw [decide_eq_false hx]
    refine ⟨_, rfl, (show (1 : Nat) ≤ 1000 by decide), fun a ha => ⟨a, x, rfl, upd_same, fun dy hdy hne => ⟨rfl, dy, [("name", .str x)], upd_same, ?_, ?_, ?_⟩⟩⟩
    · rw [upd_ne hne]
      exact upd_same
    · rw [upd_ne hne] at hdy
      exact hdy
    · refine k _ _ fun b v e => ?_
      have h1 : b ≠ a := fun z => by rw [z, ha] at e; cases e
      have h2 : b ≠ dy := fun z => by rw [z] at e; rw [upd_ne hne] at hdy; rw [hdy] at e; cases e
      rw [upd_ne h2, del_ne h1, upd_ne h1, upd_ne h2, upd_ne h1]
      exact e
def spDropX (K : PySem.W.Frag) : Sp := fun vs H Q E => spNeedX K vs H Q E
theorem ok_BoardDropX (T : FX P K mg) : FnR P w K mg base (L2.CX P w) 4 (ma K (ga K "Board") "drop") (spDropX K) := by
  refine fnrX T.f_BoardDrop sc_BoardDrop (fun _ _ _ _ _ _ us hl => match us, hl with | [_, _], _ => rfl) (fun vs H Q E h => ?_) (fun cdv A outer s H vs Q E hr h => ?_)
  · obtain ⟨G, b, x, s, L, rfl, _⟩ := h
    rfl
  · obtain ⟨G, b, x, s, L, rfl, gs, brd, hx, k⟩ := h
    obtain ⟨dx, p, d, t, q, hb, _⟩ := id brd
    have c := brC T
    have nd := sc_BoardDrop.nd
    have hu := hu_of hr
    refine ⟨_, pss_cons (ps_expr (pe_methR (E := E) (pv 0) c.c (T.meth ("Board", "need_trip") (by decide +kernel)) (ok_BoardNeed_tripX T) hr (passes_call (takes_of rfl rfl rfl rfl) fun _ _ _ _ h => h) (pa_cons (pv 1) pa_nil)))
      (pss_one (ps_expr (pe_methR (pv 0) c.c (T.meth ("Board", "go_on") (by decide +kernel)) (ok_BoardGo_on T) (hr.mono (by decide)) pass0
      (pa_cons (pe_fld (pv 0) rfl) (pa_cons (pe_fld (pv 0) rfl) (pa_cons (pe_lock (pe_dc (own := [("one", 2)]) (g := gName 2) (tt := tTest (tOp rNe (tVar 2) (tVar 1))) (tk := tVar 2) (tv := tDGet (tFld K (tVar 0) "own_trips") (tVar 2)) rfl nd
        (pi_keys (pe_fld (pv 0) rfl)) (blkOk_by (N := ["self", "name", "one"]) (sc := defScope m_BoardDrop) (by decide +kernel)) (fun _ _ _ _ _ => pg_name (i := 2) nd rfl (Or.inl rfl)) (fun _ _ _ _ _ => pts_one (pt_cmpR op_ne (pv 2) (pv 1) (nomark _))) (fun _ _ _ _ _ => pv 2)
        (fun _ _ _ _ _ => pe_dget hu (pe_fld (pv 0) rfl) (pv 2) (fun _ _ => rfl)))) pa_nil)))))), ?_⟩
    exact ⟨_, rfl, b, dx, _, rfl, hb, rfl, _, rfl, G, b, x, s, L, rfl, gs, brd, hx, k⟩
end
end N1
set_option maxHeartbeats 2000000
namespace N1
open PySem PySem.Spec PyProof.Rows L2
section
variable {P : Program} {w : World} {K : PySem.W.Frag} {mg : Str → Option Value} {base : Heap}
theorem IsDef.fun {x qual : Str} {st : Stmt} {f : Addr} (F : IsDef K f x qual st []) : ∃ fd, Fun K x qual st f fd := by
  obtain ⟨fd, F⟩ := F
  obtain ⟨oc, od, dV, kV, doc, pm, an, cdv, ct, osl, rfl, lk, hcd, hD, hK⟩ := F.ex
  rcases hD with ⟨_, rfl⟩ | ⟨e, _⟩
  · exact ⟨_, ⟨⟨oc, od, kV, doc, pm, an, cdv, ct, osl, rfl, lk, hcd⟩, F.kp⟩⟩
  · exact absurd rfl e
/-- the board's iterator: its dict must be locked -/
def spIter (K : PySem.W.Frag) (n : Nat) : Sp := fun vs H Q _ => ∃ (b dx p d t q : Addr) (o : Obj) (kvs : List (Key × V)), vs = [.ref b] ∧ H b = some (.ins (cBrd K) dx (brdF p d t q)) ∧ H t = some (.frz o (.dK kvs)) ∧
  ∀ it es ep, o.data = .dict es ep → H it = none → n ≤ it → Q (.ref it) (upd H it (KitO t it kvs.length ep))
theorem ok_BoardIter (T : FX P K mg) : FnRn P w K mg base CX0 1 (ma K (ga K "Board") "__iter__") (spIter K) := by
  obtain ⟨fd, F⟩ := T.f_BoardIter.fun
  refine fn_ofN F sc_BoardIter (F.binds fun _ _ _ _ _ _ us hl => match us, hl with | [_], _ => rfl) (fun n vs H Q E h => ?_) (fun cdv A outer s H vs Q E hr h => ?_)
  · obtain ⟨b, dx, p, d, t, q, o, kvs, rfl, _⟩ := h
    rfl
  · obtain ⟨b, dx, p, d, t, q, o, kvs, rfl, hb, ht, k⟩ := h
    have c := brC T
    refine ⟨_, pss_one (ps_ret (cb "iter" T call_iterK (pa_cons (pe_fld (pv 0) rfl) pa_nil))), ?_⟩
    exact ⟨_, rfl, b, _, dx, _, _, rfl, hb, c.c, c.n3, rfl, t, o, kvs, rfl, ht, fun it es ep h1 h2 h3 => k it es ep h1 h2 h3⟩
end
end N1
set_option maxHeartbeats 2000000
/-! Unbalanced.__init__; unbalanced, in balance or not -/
namespace N1
open PySem PySem.Spec PyProof.Rows L2
theorem ubT {A B : Prop} (h : A) : if true = true then A else B := h
theorem ubF {A B : Prop} (h : B) : if false = true then A else B := h
/-- not as many trips start at y as end there -/
def bad (ts : List TR) (y : Str) : Bool := decide ((starts ts).count y ≠ (goals ts).count y)
theorem fl_goal (ts : List TR) (y : Str) : (ts.filter fun t => decide (t.goal = y)).length = (goals ts).count y := by
  unfold goals
  rw [List.count, List.countP_map, List.countP_eq_length_filter]
  congr 1
theorem fl_start (ts : List TR) (y : Str) : (ts.filter fun t => decide (t.start = y)).length = (starts ts).count y := by
  unfold starts
  rw [List.count, List.countP_map, List.countP_eq_length_filter]
  congr 1
/-- the first of some texts, None if there is none -/
def firstV : List Str → V
  | [] => .non
  | y :: _ => .str y
def spUnb2 (K : PySem.W.Frag) : Sp := fun vs H Q _ => ∃ (p : Addr) (as : List Addr) (ts : List TR), vs = [.ref p] ∧ SqT K H p (as.map V.ref) ∧ Trs K H as ts ∧ ts.length ≤ 100 ∧ ∀ H' ys, Same H H' → PlsOf ts ys → Q (firstV (ys.filter (bad ts))) H'
section
variable {P : Program} {w : World} {K : PySem.W.Frag} {mg : Str → Option Value} {base : Heap}
abbrev cUn (K : PySem.W.Frag) := ga K "Unbalanced"
def spUnI (K : PySem.W.Frag) : Sp := fun vs H Q _ => ∃ (x : Addr) (n : Str), vs = [.ref x, .str n] ∧ H x = some (exo x (cUn K) none) ∧
  ∀ dx, H dx = none → dx ≠ x → Q .non (upd (upd H dx (exd dx [("place", .str n)])) x (exo x (cUn K) (some dx)))
theorem ok_UnbInit (T : FX P K mg) {CX : CXT} : FnR P w K mg base CX 1 (ini K "Unbalanced") (spUnI K) := by
  have z := fn_excsup (CX := CX) (w := w) (base := base) (k := 0) (N := ["self", "place", "__class__"]) (ps := ["self", "place"]) (rest := (defBody m_UnbalancedInit).tail) (tr := tOst K "place" (tVar 0) (tVar 1)) (ta := tCons (tC (.str "Not as many trips end as start at a place")) tNil) T.suU rfl (NdefX.nscope_by (by decide +kernel)) (by decide +kernel) rfl rfl rfl (by decide +kernel)
    (fun _ _ _ _ _ us hl => match us, hl with | [_, _], _ => rfl) (T.fre "super" (by decide +kernel)) T.top_ T.opq T.oexU T.siU.1 T.siU.2.1 T.siU.2.2
    (fun _ _ _ _ _ => pa_cons pe_str pa_nil) (fun _ _ _ _ _ => rfl) (fun _ _ _ _ _ => ⟨_, rfl⟩) (fun _ _ _ _ _ => ⟨rfl, rfl⟩) (fun _ _ _ _ _ => pss_one (ps_ost (pv 0) (pv 1)))
  refine z.imp fun vs H Q E h => ?_
  obtain ⟨x, n, rfl, hx, k⟩ := h
  refine ⟨x, _, rfl, rfl, hx, ?_⟩
  refine ⟨by decide, rfl, _, rfl, _, rfl, x, cUn K, rfl, T.oexU, T.oeNU, .inl ⟨hx, fun dx hdx hne => k dx hdx hne⟩⟩
theorem ok_unbalanced2 (T : FX P K mg) : FnR P w K mg base CX0 2 (ga K "unbalanced") (spUnb2 K) := by
  refine fnr T.f_unbalanced sc_unbalanced (fun _ _ _ _ _ _ us hl => match us, hl with | [_], _ => rfl) (fun vs H Q E h => ?_) (fun cdv A outer s H vs Q E hr h => ?_)
  · obtain ⟨p, as, ts, rfl, _⟩ := h
    rfl
  · obtain ⟨p, as, ts, rfl, hp, ht, h100, k⟩ := h
    have nd := sc_unbalanced.nd
    refine ⟨_, pss_cons (ps_for PassesOwn.never rfl (pi_list (cl "places_of" T (ok_places_of T) hr (pa_cons (pv 0) pa_nil))) (pg_name (i := 1) nd rfl (Or.inr rfl))
        (pss_cons (ps_set (i := 3) nd rfl (Or.inl rfl) (cb "len" T call_len (pa_cons (pe_lc (own := [("trip", 2)]) (g := gName 2) (tt := tTest (tOp rEq (tFld K (tVar 2) "goal") (tVar 1))) (te := tVar 2) rfl nd (pi_tup (pv 0)) (blkOk_by (N := ["trips", "place", "trip", "ends"]) (sc := defScope d_unbalanced) (by decide +kernel))
            (fun _ _ _ _ _ => pg_name (i := 2) nd rfl (Or.inl rfl)) (fun _ _ _ _ _ => pts_one (pt_cmpR op_eq (pe_fld (pv 2) rfl) (pv 1) (nomark _))) (fun _ _ _ _ _ => pv 2)) pa_nil)))
        (pss_one (ps_if (pt_cmpR op_ne (pv 3) (cb "len" T call_len (pa_cons (pe_lc (own := [("trip", 2)]) (g := gName 2) (tt := tTest (tOp rEq (tFld K (tVar 2) "start") (tVar 1))) (te := tVar 2) rfl nd (pi_tup (pv 0)) (blkOk_by (N := ["trips", "place", "trip", "ends"]) (sc := defScope d_unbalanced) (by decide +kernel))
            (fun _ _ _ _ _ => pg_name (i := 2) nd rfl (Or.inl rfl)) (fun _ _ _ _ _ => pts_one (pt_cmpR op_eq (pe_fld (pv 2) rfl) (pv 1) (nomark _))) (fun _ _ _ _ _ => pv 2)) pa_nil)) (nomark _)) (pss_one (ps_ret (pv 1))) pss_nil))))
      (pss_one (ps_ret pe_non)), ?_⟩
    refine ⟨_, rfl, p, as, ts, rfl, hp, ht, h100, fun H1 q ys s1 hq hq1 hys => ⟨q, rfl, ⟨_, SqL.of hq1⟩, ?_⟩⟩
    refine for_it (walk_list (K := K) (a := q) (xs := ys.map V.str)) (fun i σ H' => Same H1 H' ∧ (ys.take i).filter (bad ts) = [] ∧ ∃ a b c, σ = [some (.ref p), a, b, c]) ⟨same_rfl, rfl, _, _, _, rfl⟩ (fun i σ H' _ h => SqL.of (h.1 _ _ hq1)) ?_ ?_
    · rintro i v σ H2 H3 hi ⟨s2, hf, x1, x2, x3, rfl⟩ ⟨rfl, hv⟩
      obtain ⟨y, hy, rfl⟩ : ∃ y : Str, ys[i]? = some y ∧ v = .str y := by
        rw [List.getElem?_map] at hv
        cases e : ys[i]? with
        | none => rw [e] at hv; cases hv
        | some y => rw [e] at hv; exact ⟨y, rfl, (Option.some.inj hv).symm⟩
      have s3 : Same H H3 := same_tr s1 s2
      -- one list
      have turn : ∀ (fl : Str) (c : TR → Bool) (hfl : ∀ t, (tfs t).lookup fl = some (.str (if fl = "goal" then t.goal else t.start))) (hc : ∀ t, c t = decide ((if fl = "goal" then t.goal else t.start) = y)) (hna : ∀ t, NoAttr K (cTR K t) fl)
          (σ : L2.St) (Ha : Hp) (Qv : VK), Same H Ha → σ[0]? = some (some (.ref p)) → σ[1]? = some (some (.str y)) → σ.length = 4 → (∀ D H', Same Ha H' → H' D = some (.lst ((List.range as.length).filterMap (pk as ts c))) → Qv (.ref D) H') →
          tLc (iTup K (tVar 0)) (gName 2) (tTest (tOp rEq (tFld K (tVar 2) fl) (tVar 1))) (tVar 2) [2] σ Ha Qv := by
        intro fl c hfl hc hna σ Ha Qv sa h0 h1 hl hQ
        refine ⟨_, h0, p, rfl, ⟨_, SqT.ext hp sa⟩, fun D hD => lc_f walk_tup (pk as ts c) hD (by rw [List.length_map, ht.1]; omega) (fun H' s => SqT.ext hp (same_tr sa s)) ?_ ?_⟩
        · rintro j x Hb Hc kk k0 hj sb ⟨rfl, hx⟩ h2 h3
          obtain ⟨a, t, rfl, ha, htj, dx, hta⟩ := ht.at hx
          have hta := same_tr sa sb _ _ hta
          have hpk : pk as ts c j = if c t = true then some (.ref a) else none := by unfold pk; rw [ha, htj]
          have hw2 : ((wipe σ [2]).set 2 (some (V.ref a)))[2]? = some (some (V.ref a)) := by
            rw [List.getElem?_set_self]
            rw [wipe_length, hl]
            decide
          have hw1 : ((wipe σ [2]).set 2 (some (V.ref a)))[1]? = some (some (.str y)) := by
            rw [List.getElem?_set_ne (by decide), wipe_out (by decide)]
            exact h1
          refine ⟨?_, _, hw2, a, _, dx, _, _, rfl, hta, (trT T t).c, hna t, hfl t, _, hw1, rfl, _, rfl, ?_⟩
          · show wipe ((wipe σ [2]).set 2 _) [2] = wipe σ [2]
            show ((σ.set 2 none).set 2 _).set 2 none = σ.set 2 none
            rw [List.set_set, List.set_set]
          · have e : decide (V.str (if fl = "goal" then t.goal else t.start) = V.str y) = c t := by rw [hc]; simp
            rw [e]
            cases hct : c t
            · exact h3 (by rw [hpk, hct]; rfl) _ same_rfl
            · exact ⟨_, hw2, h2 _ _ (by rw [hpk, hct]; rfl) same_rfl⟩
        · intro H' sb hL
          rw [List.length_map] at hL
          exact hQ D H' sb hL
      rw [gName_ap]
      dsimp only [tSeq, tAsg, tCB, tCons, List.set]
      refine turn "goal" (fun t => decide (t.goal = y)) (fun t => lk_goal t) (fun t => rfl) (fun t => (trT T t).n5) [some (.ref p), some (.str y), x2, x3] _ _ s3 rfl rfl rfl fun D1 H4 s4 hD1 => ?_
      refine ⟨_, _, rfl, .inl ⟨_, SqL.of hD1, rfl⟩, ?_⟩
      refine ⟨_, rfl, ?_⟩
      dsimp only [tCB, tCons, List.set]
      refine turn "start" (fun t => decide (t.start = y)) (fun t => lk_start t) (fun t => rfl) (fun t => (trT T t).n2) [some (.ref p), some (.str y), x2, some (.int _)] _ _ (same_tr s3 s4) rfl rfl rfl fun D2 H5 s5 hD2 => ?_
      refine ⟨_, _, rfl, .inl ⟨_, SqL.of hD2, rfl⟩, rfl, _, rfl, ?_⟩
      have e : (!decide (V.int (((List.range as.length).filterMap (pk as ts fun t => decide (t.goal = y))).length : Int) = V.int (((List.range as.length).filterMap (pk as ts fun t => decide (t.start = y))).length : Int))) = bad ts y := by
        rw [pk_len ht.1, pk_len ht.1, fl_goal, fl_start]
        unfold bad
        by_cases z : (goals ts).count y = (starts ts).count y
        · simp [z]
        · have z1 : ¬ (((goals ts).count y : Nat) : Int) = (((starts ts).count y : Nat) : Int) := by omega
          have z2 : ¬ (starts ts).count y = (goals ts).count y := fun q => z q.symm
          simp [z1, z2]
      rw [e]
      have hil : i < ys.length := (List.getElem?_eq_some_iff.mp hy).1
      have ey : ys[i] = y := by
        rw [List.getElem?_eq_getElem hil] at hy
        exact Option.some.inj hy
      have et : ys.take (i + 1) = ys.take i ++ [y] := by rw [List.take_succ_eq_append_getElem hil, ey]
      cases eb : bad ts y with
      | true =>
        refine ubT ⟨_, rfl, ?_⟩
        have z := k H5 ys (same_tr s1 (same_tr s2 (same_tr s4 s5))) hys
        have ef : ys.filter (bad ts) = y :: (ys.drop (i + 1)).filter (bad ts) := by
          have h := congrArg (List.filter (bad ts)) (List.take_append_drop (i + 1) ys)
          rw [List.filter_append, et, List.filter_append, hf] at h
          rw [← h]
          simp [eb]
        rw [ef] at z
        exact z
      | false =>
        refine ubF ⟨same_tr s2 (same_tr s4 s5), ?_, _, _, _, rfl⟩
        rw [et, List.filter_append, hf]
        simp [eb]
    · rintro σ H' ⟨s2, hf, _⟩
      have z := k H' ys (same_tr s1 s2) hys
      rw [List.length_map, List.take_length] at hf
      rw [hf] at z
      exact z
end
end N1
set_option maxHeartbeats 2000000
/-! Table.__init__ where there is no balance: Unbalanced is raised -/
namespace N1
open PySem PySem.Spec PyProof.Rows L2
/-- a table that can stand but for its balance -/
structure TabOk2 (n : Int) (ts : List TR) : Prop where
  nd : (names ts).Nodup
  l40 : ts.length ≤ 40
  lv : ∀ t ∈ ts, t.leaves < n
  few : Few ts
/-- the least place out of balance is y -/
def UnbAt (ts : List TR) (y : Str) : Prop := ∀ ys, PlsOf ts ys → firstV (ys.filter (bad ts)) = .str y
/-- Unbalanced(y) is wished -/
def EUnb (K : PySem.W.Frag) (H : Hp) (y : Str) (E : XK) : Prop := ∀ dy H', Same H H' → H' dy = some (.xd [("place", .str y)]) → E (.ref (cUn K)) (some dy) H'
def spTabIX (K : PySem.W.Frag) : Sp := fun vs H Q E => ∃ (x dx d p : Addr) (n : Int) (as : List Addr) (ts : List TR) (y : Str), vs = [.ref x, .ref d, .ref p] ∧ H p = some (.tup (as.map V.ref)) ∧ Trs K H as ts ∧ DayAt K H d n ∧ TabOk2 n ts ∧ H x = some (.ins (cTab K) dx []) ∧ UnbAt ts y ∧ EUnb K H y E
section
variable {P : Program} {w : World} {K : PySem.W.Frag} {mg : Str → Option Value} {base : Heap}
theorem fnrStarX {x qual : Str} {st : Stmt} {f : Addr} {N : List Str} {p1 p2 pv : Str} {k : Nat} {sp : Sp} (F : IsDef K f x qual st []) (S : FnScope N [p1, p2, pv] (defScope st))
    (h0 : ∀ (kV doc pm : Value) (an : Option Addr) (cdv ct : Value) (a b : Value), bindArgs (PySem.W.fnOf x qual (defArgs st) (defBody st) (defScope st) .none kV doc pm an cdv ct) ⟨[a, b], []⟩ = (newTuple [] >>= fun t => pure [(p1, a), (p2, b), (pv, t)]))
    (h1 : ∀ (kV doc pm : Value) (an : Option Addr) (cdv ct : Value) (a b r : Value) (rs : List Value), bindArgs (PySem.W.fnOf x qual (defArgs st) (defBody st) (defScope st) .none kV doc pm an cdv ct) ⟨a :: b :: r :: rs, []⟩ = (newTuple (r :: rs) >>= fun t => pure [(p1, a), (p2, b), (pv, t)]))
    (hbody : ∀ (cdv : Value) (A : Around) (outer : List Env) (s : Shared) (H : Hp) (vs : List V) (Q : VK) (E : XK), Room k (A.deeper (envOfC qual (defScope st) s.heap.objs.size f cdv)) → sp vs H Q E →
      ∃ t, PSs (cxOf (L2.CX P w) P w K mg base N qual (defScope st) f cdv A outer s H E) (defBody st) t ∧ t { nx := fun _ H' => Q .non H', rt := Q } (start N vs) H) :
    FnR P w K mg base (L2.CX P w) (k + 1) f (fun vs H Q E => ∃ a b rest, vs = a :: b :: rest ∧ rest.length ≤ sizeLine ∧ ∀ p, H p = none → sp [a, b, .ref p] (upd H p (.tup rest)) Q E) := by
  obtain ⟨fd, F⟩ := F
  obtain ⟨oc, od, dV, kV, doc, pm, an, cdv, ct, osl, rfl, lk, hcd, hD, hK⟩ := F.ex
  rcases hD with ⟨_, rfl⟩ | ⟨e, _⟩
  · have z := StX.fn_star (P := P) (w := w) (mg := mg) (base := base) (CX := L2.CX P w) (k := k) (ps := [p1, p2]) (sp := sp) lk hcd S StX.cxUp (StX.bind_star2 (B := fun us => bindArgs (PySem.W.fnOf x qual (defArgs st) (defBody st) (defScope st) .none kV doc pm an cdv ct) ⟨us, []⟩) (h0 kV doc pm an cdv ct) (h1 kV doc pm an cdv ct))
      (fun A outer s H vs Q E hr h => (let ⟨t, h1, h2⟩ := hbody cdv A outer s H vs Q E hr h; ⟨t, h1, h2⟩))
    refine z.imp fun vs H Q E h => ?_
    obtain ⟨a, b, rest, rfl, hl, hq⟩ := h
    exact ⟨[a, b], rest, rfl, rfl, hl, hq⟩
  · exact absurd rfl e
theorem ok_TableInitX (T : FX P K mg) : FnR P w K mg base (L2.CX P w) 3 (ini K "Table") (fun vs H Q E => ∃ a b rest, vs = a :: b :: rest ∧ rest.length ≤ sizeLine ∧ ∀ p, H p = none → spTabIX K [a, b, .ref p] (upd H p (.tup rest)) Q E) := by
  refine fnrStarX T.f_TableInit sc_TableInit (fun _ _ _ _ _ _ _ _ => rfl) (fun _ _ _ _ _ _ _ _ _ _ => rfl) (fun cdv A outer s H vs Q E hr h => ?_)
  obtain ⟨x, dx, d, p, n, as, ts, y0, rfl, hp, ht, ⟨dd, hd⟩, ok, hx, hy0, k⟩ := h
  have nd := sc_TableInit.nd
  have hu := hu_of hr
  have hr1 : Room 1 _ := hr.mono (by decide)
  have cT := T.cls "Table" (by decide +kernel)
  have cD := T.cls "Day" (by decide +kernel)
  refine ⟨_, pss_cons (ps_if (pt_not (pt_val (cb "isinstance" T call_isi (pa_cons (pv 1) (pa_cons (gc "Day" T) pa_nil))))) pss_never pss_nil)
    (pss_cons (ps_expr (cl "need_all_trips" T (ok_need_all_trips T) hr1 (pa_cons (pv 2) pa_nil)))
    (pss_cons (ps_set (i := 3) nd rfl (Or.inr rfl) pe_dnewK)
    (pss_cons (ps_for (passes_of rfl) rfl (pi_tup (pv 2)) (pg_name (i := 4) nd rfl (Or.inl rfl)) (pss_one (ps_dput hu (pv 3) (pe_fld (pv 4) rfl) (pe_lst (StX.pa_star (pe_dget2 hu (pv 3) (pe_fld (pv 4) rfl) (pe_lst pa_nil) ⟨rfl, rfl, rfl, rfl⟩) (pa_cons (pv 4) pa_nil))) rfl)))
    (pss_cons (ps_set (i := 6) nd rfl (Or.inl rfl) (cb "sorted" T cr_sortedS (pa_cons (pe_lock (pe_lc (own := [("name", 5)]) (g := gName 5) (tt := tYes) (te := tCB rStr1 (tCons (tVar 5) tNil)) rfl nd (pi_keys (pv 3)) (blkOk_by (N := ["self", "day", "trips", "by_name", "trip", "name", "names", "twice", "place"]) (sc := defScope m_TableInit) (by decide +kernel))
        (fun _ _ _ _ _ => pg_name (i := 5) nd rfl (Or.inl rfl)) (fun _ _ _ _ _ => pts_nil) (fun _ _ _ _ _ => ct "str" T SkE.call_str_str (pa_cons (pv 5) pa_nil)))) pa_nil)))
    (pss_cons (ps_setLc (i := 7) (own := [("name", 5)]) (g := gName 5) (tt := tTest (tOp (rI0 fun i j => .bl (decide (j < i))) (tCB (rLenK K) (tCons (tDGet (tVar 3) (tVar 5)) tNil)) (tC (.int 1)))) (te := tVar 5) rfl nd rfl rfl (sw_true rfl rfl rfl (by decide +kernel)) (pi_list (pv 6)) (blkOk_by (N := ["self", "day", "trips", "by_name", "trip", "name", "names", "twice", "place"]) (sc := defScope m_TableInit) (by decide +kernel))
        (fun _ _ _ _ _ => pg_name (i := 5) nd rfl (Or.inl rfl)) (fun _ _ _ _ _ => pts_one (pt_cmpR op_gt (cb "len" T call_len (pa_cons (pe_dget hu (pv 3) (pv 5) (fun _ _ => rfl)) pa_nil)) pe_int (nomark _))) (fun _ _ _ _ _ => pv 5))
    (pss_cons (ps_if (pt_cmpR op_gt (cb "len" T call_len (pa_cons (pv 7) pa_nil)) pe_int (nomark _)) pss_never pss_nil)
    (pss_cons (ps_expr (cl "need_few" T (ok_need_few T) hr (pa_cons (pv 1) (pa_cons (pv 2) pa_nil))))
    (pss_cons (ps_set (i := 8) nd rfl (Or.inl rfl) (cl "unbalanced" T (ok_unbalanced2 T) hr (pa_cons (pv 2) pa_nil)))
    (pss_cons (ps_if (pt_cmp (pc_notN (pv 8))) (pss_one (ps_raise rfl (takes_of rfl rfl rfl rfl) (pmk_oexR T.oexU T.oeIU.1 T.oeIU.2 (ok_UnbInit T (CX := CX0)) hr pass0 rfl (T.glo "Unbalanced" (by decide +kernel)) (pa_cons (pv 8) pa_nil)))) pss_nil)
    (pss_cons (ps_fld (pv 0) (pv 1) rfl)
    (pss_cons (ps_fld (pv 0) (ct "tuple" T call_tupleF (pa_cons (pv 6) pa_nil)) rfl)
    (pss_cons (ps_fld (pv 0) (ct "tuple" T call_tuple_of (pa_cons (cl "places_of" T (ok_places_of T) hr1 (pa_cons (pv 2) pa_nil)) pa_nil)) rfl)
    (pss_one (ps_fld (pv 0) (ct "tuple" T call_tuple_of (pa_cons (pe_lc (own := [("name", 5)]) (g := gName 5) (tt := tYes) (te := tOp (rIxL K) (tDGet (tVar 3) (tVar 5)) (tC (.int 0))) rfl nd (pi_list (pv 6)) (blkOk_by (N := ["self", "day", "trips", "by_name", "trip", "name", "names", "twice", "place"]) (sc := defScope m_TableInit) (by decide +kernel))
        (fun _ _ _ _ _ => pg_name (i := 5) nd rfl (Or.inl rfl)) (fun _ _ _ _ _ => pts_nil) (fun _ _ _ _ _ => pe_ix ix_list (pe_dget hu (pv 3) (pv 5) (fun _ _ => rfl)) pe_int (fun _ _ => rfl))) pa_nil)) rfl)))))))))))))), ?_⟩
  refine ⟨_, rfl, _, _, _, _, true, rfl, .own _, isi_ok T T.isD cD hd, T.isD.k1, _, rfl, ?_⟩
  refine ⟨_, rfl, p, as, ts, rfl, SqT.of hp, ht, fun H1 s1 => ?_⟩
  intro dB hdB
  have none_of : ∀ {H' : Hp} {q : Addr}, Same H H' → H' q = none → H q = none := fun {H' q} s e => by
    cases z : H q with
    | none => rfl
    | some o => rw [s _ _ z] at e; cases e
  have hB0 : H dB = none := none_of s1 hdB
  have ndt : ∀ i, (names (ts.take i)).Nodup := fun i => by
    have := ok.nd
    unfold names at this ⊢
    rw [List.map_take]
    exact this.sublist (List.take_sublist _ _)
  refine ⟨_, rfl, p, rfl, ⟨_, SqT.of ((same_new s1 hdB) _ _ hp)⟩, ?_⟩
  refine for_it (walk_tup (K := K) (a := p) (xs := as.map V.ref)) (fun i σ H' => Same H H' ∧ (∃ qs : List Addr, qs.length = i ∧ H' dB = some (.dK (byN (ts.take i) qs)) ∧ ∀ (j : Nat) (q a : Addr), qs[j]? = some q → as[j]? = some a → H' q = some (.lst [.ref a])) ∧
      ∃ v, σ = [some (.ref x), some (.ref d), some (.ref p), some (.ref dB), v, none, none, none, none])
    ⟨same_new s1 hdB, ⟨[], rfl, by rw [upd_same]; rfl, fun j q a h => by simp at h⟩, _, rfl⟩ (fun i σ H' _ h => SqT.of (h.1 _ _ hp)) ?_ ?_
  · rintro i v σ H2 H3 hi ⟨s2, ⟨qs, hql, hk, hqs⟩, v4, rfl⟩ ⟨rfl, hxx⟩
    obtain ⟨a, t, rfl, ha, hti, dt, hta⟩ := ht.at hxx
    have c := trT T t
    have hil : i < ts.length := (List.getElem?_eq_some_iff.mp hti).1
    have hta3 := s2 _ _ hta
    have hnew : valV (byN (ts.take i) qs) (Sum.inr t.name) = none := by
      cases e : valV (byN (ts.take i) qs) (Sum.inr t.name) with
      | none => rfl
      | some u =>
        have hm := valV_in e
        rw [byN_keys (by rw [List.length_take, hql]; omega)] at hm
        have hm2 : t.name ∈ names (ts.take i) := by
          obtain ⟨z, hz, ez⟩ := List.mem_map.mp hm
          rw [← Sum.inr.inj ez]
          exact hz
        have := ndt (i + 1)
        rw [List.take_succ_eq_append_getElem hil] at this
        unfold names at this
        rw [List.map_append] at this
        have h3 := (List.nodup_append.mp this).2.2 _ hm2 t.name (by
          have : ts[i] = t := by
            rw [List.getElem?_eq_getElem hil] at hti
            exact Option.some.inj hti
          simp [this])
        exact absurd rfl h3
    have lenk : (byN (ts.take i) qs).length < sizeLine := by
      unfold byN
      rw [List.length_zipWith, sizeLine_eq, List.length_take]
      have := ok.l40
      omega
    refine ⟨_, rfl, dB, rfl, .inl ⟨_, .inl hk⟩, _, rfl, a, _, dt, _, _, rfl, hta3, c.c, c.n1, lk_name t, Nat.zero_le _, fun l hl => ?_⟩
    have nlB : dB ≠ l := ne_of_none hk hl
    refine ⟨none, .inl ⟨_, Sum.inr t.name, .inl (by rw [upd_ne nlB]; exact hk), rfl, hnew.symm⟩, l, [], rfl, .inr (SqL.of upd_same), _, rfl, (by show 1 ≤ sizeLine; decide), fun q hq => ?_⟩
    have nqB : dB ≠ q := fun z => by
      rw [← z, upd_ne nlB, hk] at hq
      cases hq
    have hql2 : H3 q = none := by
      have : q ≠ l := fun z => by rw [z, upd_same] at hq; cases hq
      rw [upd_ne this] at hq
      exact hq
    have s4 : Same H3 (upd (upd H3 l (.lst [])) q (.lst [.ref a])) := same_new (same_new same_rfl hl) hq
    have hk4 : (upd (upd H3 l (.lst [])) q (.lst [V.ref a])) dB = some (.dK (byN (ts.take i) qs)) := s4 _ _ hk
    refine ⟨_, rfl, _, rfl, a, _, dt, _, _, rfl, s4 _ _ hta3, c.c, c.n1, lk_name t, dB, _, rfl, DPut.k (k := Sum.inr t.name) hk4 lenk, ?_⟩
    refine ⟨same_at (same_tr s2 s4) hB0, ⟨qs ++ [q], by rw [List.length_append, hql]; rfl, ?_, ?_⟩, _, rfl⟩
    · rw [upd_same, putK_new _ hnew, List.take_succ_eq_append_getElem hil, byN_snoc (by rw [List.length_take, hql]; omega)]
      have : ts[i] = t := by
        rw [List.getElem?_eq_getElem hil] at hti
        exact Option.some.inj hti
      rw [this]
    · intro j q' a' hj ha'
      by_cases hji : j < qs.length
      · rw [List.getElem?_append_left hji] at hj
        have e := hqs j q' a' hj ha'
        rw [upd_ne (ne_of hk e (by intro z; cases z)).symm]
        exact s4 _ _ e
      · have hj2 : j = qs.length := by
          have := (List.getElem?_eq_some_iff.mp hj).1
          rw [List.length_append] at this
          simp at this
          omega
        subst hj2
        rw [List.getElem?_append_right (Nat.le_refl _)] at hj
        simp at hj
        subst hj
        rw [hql, ha] at ha'
        cases ha'
        rw [upd_ne nqB.symm, upd_same]
        rfl
  · rintro σ H2 ⟨s2, ⟨qs, hql, hk, hqs⟩, v4, rfl⟩
    rw [List.length_map, ht.1] at hql
    rw [List.length_map, ht.1, List.take_length] at hk
    have hbk : ((byN ts qs).map (·.1)).Nodup := by
      rw [byN_keys hql.symm]
      exact inr_nodup ok.nd
    have lenB : (byN ts qs).length = ts.length := by
      unfold byN
      rw [List.length_zipWith, hql]
      omega
    have l40 := ok.l40
    refine ⟨dB, _, hk, trivial, fun od => ⟨_, rfl, dB, od, rfl, .inl ⟨byN ts qs, upd_same, fun D hD => lc_f walk_keys (fun i => (ts[i]?).map fun t => V.str t.name) hD (by omega) (fun H' s => s _ _ upd_same) ?_ ?_⟩⟩⟩
    · rintro i v Ha Hb kk k0 hi sa ⟨rfl, key, val, hkv, rfl⟩ h2 h3
      have hil : i < ts.length := by omega
      have hiq : i < qs.length := by omega
      have e := byN_get (List.getElem?_eq_getElem hil) (List.getElem?_eq_getElem hiq)
      rw [hkv] at e
      cases e
      exact ⟨rfl, _, rfl, _, rfl, h2 _ _ (by rw [List.getElem?_eq_getElem hil]; rfl) same_rfl⟩
    · intro H3 s3 hL3
      rw [lenB, range_map_] at hL3
      have nDB : D ≠ dB := fun z => by rw [z, upd_same] at hD; cases hD
      have hB3 := s3 _ _ (upd_same (H := H2) (a := dB) (o := .frz od (.dK (byN ts qs))))
      refine ⟨hB3, D, names ts, rfl, SqL.of ?_, ?_, fun ys q6 hperm hsort hq6 => ?_⟩
      · rw [upd_ne nDB, hL3]
        unfold names
        rw [List.map_map]
        rfl
      · unfold names
        rw [List.length_map]
        omega
      have ey := sn_of hperm hsort
      subst ey
      have s6 : Same H2 (upd (upd H3 dB (.dK (byN ts qs))) q6 (.lst ((sn (names ts)).map V.str))) := by
        refine same_new (fun b o e => ?_) hq6
        by_cases hb : b = dB
        · subst hb
          rw [upd_same, ← hk]
          exact e
        · rw [upd_ne hb]
          exact s3 _ _ (by rw [upd_ne hb]; exact e)
      generalize hH6 : upd (upd H3 dB (.dK (byN ts qs))) q6 (.lst ((sn (names ts)).map V.str)) = H6 at s6
      have h6 : H6 q6 = some (.lst ((sn (names ts)).map V.str)) := by rw [← hH6]; exact upd_same
      have lenS : ((sn (names ts)).map V.str).length = ts.length := by rw [List.length_map, sn_length]; unfold names; rw [List.length_map]
      -- what a name finds
      have find : ∀ {H' : Hp} {i : Nat} {v : V}, (∀ b o, H6 b = some o → (∃ kvs, o = .dK kvs) ∨ (∃ zs, o = .lst zs) → H' b = some o) → ((sn (names ts)).map V.str)[i]? = some v → ∃ (nm : Str) (j : Nat) (q a : Addr), v = .str nm ∧ (sn (names ts))[i]? = some nm ∧ DGet H' dB v (some (.ref q)) ∧ H' q = some (.lst [.ref a]) ∧ adr as ts nm = some a := by
        intro H' i v hs hv
        rw [List.getElem?_map] at hv
        cases e : (sn (names ts))[i]? with
        | none => rw [e] at hv; cases hv
        | some nm =>
          rw [e] at hv
          have ev : v = .str nm := (Option.some.inj hv).symm
          have hm : nm ∈ names ts := mem_sn.mp (List.mem_of_getElem? e)
          obtain ⟨j, a, t, h1, h2, h3, h4⟩ := adr_lk ht.1 hm
          have hjl : j < qs.length := by rw [hql]; exact (List.getElem?_eq_some_iff.mp h4).1
          have hnm : t.name = nm := (lk_some h2).2
          have hv := valV_of_get hbk (byN_get h4 (List.getElem?_eq_getElem hjl))
          rw [hnm] at hv
          refine ⟨nm, j, qs[j], a, ev, rfl, ?_, hs _ _ (s6 _ _ (hqs j _ _ (List.getElem?_eq_getElem hjl) h3)) (.inr ⟨_, rfl⟩), h1⟩
          rw [ev]
          exact .inl ⟨_, Sum.inr nm, .inl (hs _ _ (s6 _ _ hk) (.inl ⟨_, rfl⟩)), rfl, hv.symm⟩
      refine ⟨_, rfl, q6, rfl, ⟨_, SqL.of h6⟩, fun D2 hD2 => lc_f walk_list (fun _ => none) hD2 (by omega) (fun H' s => SqL.of (s _ _ h6)) ?_ ?_⟩
      · rintro i v Ha Hb kk k0 hi sa ⟨rfl, hv⟩ h2 h3
        obtain ⟨nm, j, q, a, rfl, e1, e2, e3, e4⟩ := find (fun b o e _ => sa b o e) hv
        exact ⟨rfl, _, rfl, _, rfl, dB, _, rfl, e2, _, 1, rfl, .inl ⟨_, SqL.of e3, rfl⟩, _, _, rfl, rfl, _, rfl, h3 rfl _ same_rfl⟩
      intro H7 s7 hL7
      have e0 : (List.range ((sn (names ts)).map V.str).length).filterMap (fun _ : Nat => (none : Option V)) = [] := by simp
      rw [e0] at hL7
      refine ⟨_, rfl, _, _, rfl, .inl ⟨_, SqL.of hL7, rfl⟩, _, _, rfl, rfl, _, rfl, ?_⟩
      have e1 : decide ((0 : Int) < (([] : List V).length : Int)) = false := by decide
      rw [e1]
      have sH7 : Same H H7 := same_tr s2 (same_tr s6 s7)
      refine ⟨_, rfl, _, rfl, d, p, n, as, ts, rfl, ⟨dd, sH7 _ _ hd⟩, SqT.of (sH7 _ _ hp), ht.up sH7, ok.l40, ok.lv, ok.few, fun H8 s8 => ?_⟩
      have sH8 := same_tr sH7 s8
      refine ⟨_, rfl, p, as, ts, rfl, SqT.of (sH8 _ _ hp), ht.up sH8, by omega, fun H9 ys9 s9 pl9 => ?_⟩
      have sH9 := same_tr sH8 s9
      rw [hy0 ys9 pl9]
      refine ⟨_, rfl, _, rfl, ?_⟩
      have e2 : (!decide (V.str y0 = V.non)) = true := by simp
      rw [e2]
      refine ubT ⟨_, rfl, (show (1 : Nat) ≤ 1000 by decide), fun a ha => ⟨a, y0, rfl, upd_same, fun dy hdy hne => ⟨rfl, dy, [("place", .str y0)], upd_same, ?_, ?_, ?_⟩⟩⟩
      · rw [upd_ne hne]
        exact upd_same
      · rw [upd_ne hne] at hdy
        exact hdy
      · refine k dy _ (fun b v e => ?_) upd_same
        have e9 := sH9 _ _ e
        have h1 : b ≠ a := fun z => by rw [z, ha] at e9; cases e9
        have h2 : b ≠ dy := fun z => by rw [z] at e9; rw [upd_ne hne] at hdy; rw [hdy] at e9; cases e9
        rw [upd_ne h2, del_ne h1, upd_ne h1, upd_ne h2, upd_ne h1]
        exact e9
end
end N1
set_option maxHeartbeats 2000000
/-! Table.of, told_table where there is no balance -/
namespace N1
open PySem PySem.Spec PyProof.Rows L2
theorem EUnb.up {K : PySem.W.Frag} {H H1 : Hp} {y : Str} {E : XK} (e : EUnb K H y E) (s : Same H H1) : EUnb K H1 y E := fun dy H' s' h => e dy H' (same_tr s s') h
def spTabOfX (K : PySem.W.Frag) : Sp := fun vs H Q E => ∃ (G : Hp) (d l : Addr) (n : Int) (as : List Addr) (ts : List TR) (y : Str), vs = [.ref d, .ref l] ∧ Same G H ∧ DayAt K G d n ∧ H l = some (.lst (as.map V.ref)) ∧ Trs K G as ts ∧ TabOk2 n ts ∧ UnbAt ts y ∧ EUnb K H y E
def spToldX (K : PySem.W.Frag) : Sp := fun vs H Q E => ∃ (G : Hp) (b : Addr) (s : Sn) (L : List Sn) (y : Str), vs = [.ref b] ∧ Same G H ∧ BrdAt K G H b s L ∧ TabOk2 s.n s.ts ∧ UnbAt s.ts y ∧ EUnb K H y E
section
variable {P : Program} {w : World} {K : PySem.W.Frag} {mg : Str → Option Value} {base : Heap}
theorem ok_TableOfX (T : FX P K mg) : FnR P w K mg base (L2.CX P w) 5 (st_ K "Table" "of") (spTabOfX K) := by
  refine fnrX T.f_TableOf sc_TableOf (fun _ _ _ _ _ _ us hl => match us, hl with | [_, _], _ => rfl) (fun vs H Q E h => ?_) (fun cdv A outer s H vs Q E hr h => ?_)
  · obtain ⟨G, d, l, n, as, ts, y, rfl, _⟩ := h
    rfl
  · obtain ⟨G, d, l, n, as, ts, y, rfl, gs, ⟨dd, hd⟩, hl, ht, ok, hy, k⟩ := h
    have cD := T.cls "Day" (by decide +kernel)
    have hr1 : Room 1 _ := hr.mono (by decide)
    refine ⟨_, pss_cons (ps_if (pt_not (pt_val (cb "isinstance" T call_isi (pa_cons (pv 0) (pa_cons (gc "Day" T) pa_nil))))) pss_never pss_nil)
      (pss_cons (ps_if (pt_not (pt_val (cl "is_row" T (ok_is_row T) hr1 (pa_cons (pv 1) pa_nil)))) pss_never pss_nil)
      (pss_one (ps_ret (pe_makeS (E := E) (T.mkr "Table" (by decide +kernel)) (ok_TableInitX T) hr rfl (T.glo "Table" (by decide +kernel)) (passes_call (takes_of rfl rfl rfl rfl) fun _ _ _ _ h => h) (pa_cons (pv 0) (StX.pa_star (pv 1) pa_nil)))))), ?_⟩
    refine ⟨_, rfl, _, _, _, _, true, rfl, .own _, isi_ok T T.isD cD (gs _ _ hd), T.isD.k1, _, rfl, ?_⟩
    refine ⟨_, rfl, l, _, rfl, hl, fun H1 s1 => ⟨_, rfl, ?_⟩⟩
    have gs1 := same_tr gs s1
    refine ⟨_, rfl, _, rfl, l, _, rfl, .inr (SqL.of (s1 _ _ hl)), fun x dx hx hdx hne => ?_⟩
    have l40 := ok.l40
    refine ⟨_, _, as.map V.ref ++ [], rfl, by rw [List.append_nil, List.length_map, ht.1, sizeLine_eq]; omega, fun p hp => ?_⟩
    have sUp : Same H1 (upd (upd H1 dx (.own x)) x (.ins (cTab K) dx [])) := same_new (same_new same_rfl hdx) (by rw [upd_ne (Ne.symm hne)]; exact hx)
    have sP : Same H1 (upd (upd (upd H1 dx (.own x)) x (.ins (cTab K) dx [])) p (.tup (as.map V.ref ++ []))) := same_tr sUp (same_new same_rfl hp)
    have npx : x ≠ p := fun z => by rw [← z, upd_same] at hp; cases hp
    exact ⟨x, dx, d, p, n, as, ts, y, rfl, by rw [upd_same, List.append_nil], ht.up (same_tr gs1 sP), ⟨dd, sP _ _ (gs1 _ _ hd)⟩, ok, by rw [upd_ne npx]; exact upd_same, hy, k.up (same_tr s1 sP)⟩
theorem ok_BoardTold_tableX (T : FX P K mg) : FnR P w K mg base (L2.CX P w) 6 (ma K (ga K "Board") "told_table") (spToldX K) := by
  refine fnrX T.f_BoardTold_table sc_BoardTold_table (fun _ _ _ _ _ _ us hl => match us, hl with | [_], _ => rfl) (fun vs H Q E h => ?_) (fun cdv A outer s H vs Q E hr h => ?_)
  · obtain ⟨G, b, s, L, y, rfl, _⟩ := h
    rfl
  · obtain ⟨G, b, s, L, y, rfl, gs, ⟨dx, p, d, t, q, hb, hGb, ⟨hd, hp, as, ht, htr⟩, hL⟩, ok, hy, k⟩ := h
    have c := brC T
    refine ⟨_, pss_one (ps_ret (pe_smeth (E := E) (gc "Table" T) T.crT T.stT (ok_TableOfX T) hr (passes_call (takes_of rfl rfl rfl rfl) fun _ _ _ _ h => h) (pa_cons (pe_fld (pv 0) rfl) (pa_cons (pe_listVals rfl (pe_fld (pv 0) rfl) (by rfl) (T.fre "list" (by decide +kernel))) pa_nil)))), ?_⟩
    refine ⟨rfl, _, rfl, b, _, dx, _, _, rfl, hb, c.c, c.n2, rfl, _, rfl, b, _, dx, _, _, rfl, hb, c.c, c.n3, rfl, t, _, rfl, gs _ _ ht, fun l hl => ?_⟩
    rw [byN_vals htr.1.symm]
    have s1 : Same H (upd H l (.lst (as.map V.ref))) := same_new same_rfl hl
    exact ⟨G, d, l, s.n, as, s.ts, y, rfl, same_tr gs s1, hd, upd_same, htr, ok, hy, k.up s1⟩
end
end N1
set_option maxHeartbeats 2000000
/-! boards without pauses, twins, what is no name in a board, a method without arguments in a try -/
namespace N1
open PySem PySem.Spec PyProof.Rows L2
section
variable {X : Cx} {CX : CXT} {k : Nat} {C f : Addr} {m : Str} {sp : Sp} {E : L2.St → XK} {o : Expr} {ta : TE} {apos pos : Pos} {pl : Sem Bool}
def tMethRS0 (C : Addr) (m : Str) (sp : Sp) (E : L2.St → XK) (ta : TE) : TE := fun σ H Q => ta σ H fun x H1 => ∃ a dx fs, x = .ref a ∧ H1 a = some (.ins C dx fs) ∧ fs.lookup m = none ∧ sp [x] H1 Q (E σ)
theorem pe_methRS0 (he : PE X o ta) (c : Cls X.K C) (hm : Meth X.K C m f) (F : FnR X.prog X.w X.K X.mg X.base CX k f sp) (hr : Room k X.A) (hx : ∀ σ, PassesAt CX X σ (E σ))
    (ht : eval (.Call (.Attribute o m apos) [] [] pos) X.env = (do
      let ov ← eval o X.env
      standAt apos.atName
      let (f, first) ← holding [ov] (getMethod ov m pl)
      callWith pos f first (backTo pos (starEach [] X.env)) (backToKw pos (keywordEach [] X.env))) := by rfl) :
    PE X (.Call (.Attribute o m apos) [] [] pos) (tMethRS0 C m sp E ta) := by
  refine ⟨fun pins s σ H Q I h => ?_⟩
  refine PySem.W.methodCall_KW (pl := pl) (thn (he.run pins s σ H _ I h) fun u s1 ⟨x, H1, I1, rx, a, dx, fs, ex, ea, l, q⟩ => ?_) ht
  subst ex
  obtain rfl : u = Value.ref a := rx
  refine getmeth_ok I1 ea c hm l ?_
  refine PySem.W.callWith_K0 (first := [.ref a]) I1.kIn hm.kp (wpAny_call (codeAny_mono (F X.A X.stack _ H1 [.ref a] [.ref a] Q (E σ) hr I1.env0 (.cons rfl .nil) q) fun r s' hq => ?_))
  cases r with
  | error e => exact hx σ pins H1 _ e s' I1 hq
  | ok fl =>
    cases fl with
    | ret u => exact I1.after hq
    | next => exact False.elim hq
    | brk => exact False.elim hq
    | cont => exact False.elim hq
end
/-- None or a list is no name in a board -/
def spHasN (K : PySem.W.Frag) : Sp := fun vs H Q _ => ∃ (b : Addr) (v : V) (t : String), vs = [.ref b, v] ∧ TyX K H v (.type t) ∧ PySem.W.kitOne K (.type t) (.type "str") = some false ∧ Q (.bl false) H
/-- None as pauses -/
def spNeedPN (K : PySem.W.Frag) : Sp := fun vs H Q _ => vs = [.non] ∧ ∀ H' p, Same H H' → H p = none → (∃ dx dn dr, H' p = some (.ins (cPau K) dx (pauF dn dr)) ∧ H' dn = some (.dK (kI [])) ∧ H dn = none) → Q (.ref p) H'
def spBrdN (K : PySem.W.Frag) : Sp := fun vs H Q _ => ∃ (G : Hp) (b t dx : Addr) (n : Int) (us : List TR), vs = [.ref b, .ref t, .non] ∧ Same G H ∧ G b = none ∧ H b = some (.ins (cBrd K) dx []) ∧ TableAt K G t n us ∧ (names us).Nodup ∧ us.length < 64 ∧
  ∀ H' G', Gx [b] G H G' H' → BrdAt K G' H' b ⟨n, [], us⟩ [] → Q .non H'
theorem nrm_nil : nrm [] = [] := by
  show (sn []).map _ = []
  rw [List.eq_nil_of_length_eq_zero (l := sn []) (by rw [sn_length]; rfl)]
  rfl
section
variable {P : Program} {w : World} {K : PySem.W.Frag} {mg : Str → Option Value} {base : Heap}
theorem ok_BoardContainsN (T : FX P K mg) : FnR P w K mg base CX0 1 (ma K (ga K "Board") "__contains__") (spHasN K) := by
  refine fnr T.f_BoardContains sc_BoardContains (fun _ _ _ _ _ _ us hl => match us, hl with | [_, _], _ => rfl) (fun vs H Q E h => ?_) (fun cdv A outer s H vs Q E hr h => ?_)
  · obtain ⟨b, v, t, rfl, _⟩ := h
    rfl
  · obtain ⟨b, v, t, rfl, ty, kt, k⟩ := h
    refine ⟨_, pss_one (ps_ret (pe_and (cb "isinstance" T call_isi (pa_cons (pv 1) (pa_cons (gt "str" "str" T) pa_nil))) (pe_one (pe_cmp (pc_din (hu_of hr) (pv 1) (pe_fld (pv 0) rfl)) rfl)))), ?_⟩
    exact ⟨_, rfl, _, _, _, _, false, rfl, .ty _, ty, kt, _, rfl, k⟩
theorem ok_needed_pausesN (T : FX P K mg) : FnR P w K mg base CX0 6 (ga K "needed_pauses") (spNeedPN K) := by
  refine fnr T.f_needed_pauses sc_needed_pauses (fun _ _ _ _ _ _ us hl => match us, hl with | [_], _ => rfl) (fun vs H Q E h => ?_) (fun cdv A outer s H vs Q E hr h => ?_)
  · obtain ⟨rfl, _⟩ := h
    rfl
  · obtain ⟨rfl, k⟩ := h
    refine ⟨_, pss_cons (ps_if (pt_cmp (pc_isN (pv 0))) (pss_one (ps_ret (pe_makeK (T.mkr "Pauses" (by decide +kernel)) (ok_PausesInit T) hr rfl (T.glo "Pauses" (by decide +kernel)) pass0 pk_nil))) pss_nil)
      (pss_cons (ps_if (pt_not (pt_val (cb "isinstance" T call_isi (pa_cons (pv 0) (pa_cons (gc "Pauses" T) pa_nil))))) pss_never pss_nil) (pss_one (ps_ret (pv 0)))), ?_⟩
    refine ⟨_, rfl, _, rfl, ?_⟩
    rw [show decide (V.non = V.non) = true from by simp]
    refine ubT (fun xp dxp hxp hdxp hnep => ⟨xp, dxp, [], rfl, rfl, ⟨List.Pairwise.nil, (fun x h => by cases h), (fun x h => by cases h), by decide⟩, upd_same, fun H5 dn' dr' k2 hxp' f4 r4 => ⟨rfl, ?_⟩⟩)
    have s5 : Same H H5 := made_same hxp hdxp k2
    rw [nrm_nil] at r4
    refine k H5 xp s5 hxp ⟨dxp, dn', dr', hxp', r4, ?_⟩
    cases z : H dn' with
    | none => rfl
    | some o =>
      have s6 : Same H (upd (upd H dxp (.own xp)) xp (.ins (cPau K) dxp [])) := same_new (same_new same_rfl hdxp) (by rw [upd_ne (Ne.symm hnep)]; exact hxp)
      rw [s6 _ _ z] at f4
      cases f4
/-- a def with one default, the default taken -/
theorem fnrDm {x qual : Str} {st : Stmt} {f : Addr} {N ps : List Str} {k : Nat} {sp : Sp} {v0 : V} (F : IsDef K f x qual st [v0]) (S : FnScope N ps (defScope st)) (hl : 1 ≤ ps.length)
    (hb : ∀ (T : Addr) (kV doc pm : Value) (an : Option Addr) (cdv ct : Value) (us its : List Value), us.length = ps.length - 1 → its.length = ([v0] : List V).length →
      ∃ k, bindArgs (PySem.W.fnOf x qual (defArgs st) (defBody st) (defScope st) (.ref T) kV doc pm an cdv ct) ⟨us, []⟩ = seqItems? (.ref T) >>= k ∧ k (some its.toArray) = pure (ps.zip (us ++ its.drop 0)))
    (len : ∀ vs H Q E, sp vs H Q E → vs.length = ps.length)
    (hbody : ∀ (cdv : Value) (A : Around) (outer : List Env) (s : Shared) (H : Hp) (vs : List V) (Q : VK) (E : XK), Room k (A.deeper (envOfC qual (defScope st) s.heap.objs.size f cdv)) → sp vs H Q E →
      ∃ t, PSs (cxOf CX0 P w K mg base N qual (defScope st) f cdv A outer s H E).nox (defBody st) t ∧ t { nx := fun _ H' => Q .non H', rt := Q } (start N vs) H) :
    FnR P w K mg base CX0 (k + 1) f (fun vs H Q E => sp (vs ++ [v0]) H Q E) := by
  obtain ⟨fd, F⟩ := F
  obtain ⟨ds, rd, hbd⟩ := F.binds1 (ps := ps) (ps.length - 1) 0 (by simp) (by simp; omega) hb
  exact (F.ok (CX := CX0) S len fun cdv A outer s H vs Q E hr h => (let ⟨t, h1, h2⟩ := hbody cdv A outer s H vs Q E hr h; ⟨t, h1.nox, h2⟩)).raw hbd rd
theorem ok_BoardInitN (T : FX P K mg) : FnR P w K mg base CX0 7 (ini K "Board") (fun vs H Q E => spBrdN K (vs ++ [.non]) H Q E) := by
  refine fnrDm T.f_BoardInit sc_BoardInit (by decide) (fun _ _ _ _ _ _ _ us its h1 h2 => match us, its, h1, h2 with | [_, _], [_], _, _ => ⟨_, rfl, rfl⟩) (fun vs H Q E h => ?_) (fun cdv A outer s H vs Q E hr h => ?_)
  · obtain ⟨G, b, t, dx, n, us, rfl, _⟩ := h
    rfl
  · obtain ⟨G, b, t, dx, n, us, rfl, gs, hGb, hb, tab, hnd, l60, k⟩ := h
    obtain ⟨rs, tabr⟩ := tab.rows
    obtain ⟨dt, d, dn, dp, dr, h1, h2, h3, h4, h5⟩ := id tabr
    have c := brC T
    have cT := T.cls "Table" (by decide +kernel)
    have nd := sc_BoardInit.nd
    refine ⟨_, pss_cons (ps_expr (cl "need_table" T (ok_need_table T) (hr.mono (by decide)) (pa_cons (pv 1) pa_nil)))
      (pss_cons (ps_fld (pv 0) (cl "needed_pauses" T (ok_needed_pausesN T) hr (pa_cons (pv 2) pa_nil)) rfl)
      (pss_cons (ps_fld (pv 0) (pe_fld (pv 1) rfl) rfl)
      (pss_cons (ps_fld (pv 0) (pe_dc (own := [("name", 3)]) (g := gName 3) (tt := tYes) (tk := tVar 3) (tv := tOp (rOwnIx (cTab K) (spTabGet K) E0) (tVar 1) (tVar 3)) rfl nd
        (pi_tup (pe_fld (pv 1) rfl)) (blkOk_by (N := ["self", "table", "pauses", "name"]) (sc := defScope m_BoardInit) (by decide +kernel)) (fun _ _ _ _ _ => pg_name (i := 3) nd rfl (Or.inl rfl)) (fun _ _ _ _ _ => pts_nil) (fun _ _ _ _ _ => pv 3)
        (fun _ _ _ _ _ => pe_ixO (T.meth ("Table", "__getitem__") (by decide +kernel)) T.nsq.2.1 (ok_TableGetitem T) (hr.mono (by decide)) pass0 (pv 1) (pv 3))) rfl)
      (pss_one (ps_fld (pv 0) (pe_tup pa_nil) rfl))))), ?_⟩
    have nDy := T.noat ("Table", "day") (by decide +kernel)
    have nNm := T.noat ("Table", "names") (by decide +kernel)
    refine ⟨_, rfl, t, n, us, rfl, tab.up gs, ?_⟩
    refine ⟨_, rfl, rfl, fun H1 p s1 np pau0 => ?_⟩
    obtain ⟨G0, g0, pau, n0⟩ : ∃ G0, Gx [b] G H G0 H1 ∧ PausesAt K G0 p [] ∧ G0 b = none := by
      obtain ⟨dxp, dn1, dr1, z1, z2, z3⟩ := pau0
      have ga := ((Gx.refl (M := [b]) gs).same s1).frz z1 np
      have gb := ga.frz z2 z3
      refine ⟨_, gb, ⟨dxp, dn1, dr1, ?_, upd_same⟩, gb.unf hGb (by rw [hb]; intro z; cases z)⟩
      by_cases e : p = dn1
      · subst e
        rw [z1] at z2
        cases z2
      · rw [upd_ne e]
        exact upd_same
    have hk := k
    replace k : ∀ H' G', Gx [b] G0 H1 G' H' → BrdAt K G' H' b ⟨n, [], us⟩ [] → Q .non H' := fun H' G' g br => hk H' G' (g0.trans g) br
    replace gs := g0.gh
    replace hb := s1 _ _ hb
    replace tab := tab.up g0.gg
    replace tabr : TabR K G0 t n us rs := (let ⟨dx, d, dn, dp, dr, y1, y2, y3, y4, y5⟩ := tabr; ⟨dx, d, dn, dp, dr, g0.gg _ _ y1, y2.up g0.gg, y3.up g0.gg, g0.gg _ _ y4, y5.up g0.gg⟩)
    replace h1 := g0.gg _ _ h1
    replace h2 := h2.up g0.gg
    replace h3 := h3.up g0.gg
    replace h4 := g0.gg _ _ h4
    replace h5 := h5.up g0.gg
    clear hk hGb
    have hGb := n0
    clear g0 s1 np pau0
    generalize G0 = G at *
    generalize H1 = H at *
    have h1H := gs _ _ h1
    refine ⟨_, rfl, b, cBrd K, dx, [], rfl, hb, c.c, c.n1, by decide, ?_⟩
    have g1 : Gx [b] G H G _ := (Gx.refl gs).wr (o := .ins (cBrd K) dx (bf1 p)) hGb (.inl List.mem_cons_self)
    refine ⟨_, rfl, t, _, dt, _, _, rfl, g1.gh _ _ h1, cT, nDy, rfl, _, rfl, b, cBrd K, dx, (bf1 p), rfl, upd_same, c.c, c.n2, (show (1 : Nat) < 1000 by decide), ?_⟩
    have g2 := g1.wr (o := .ins (cBrd K) dx (bf2 p d)) hGb (.inl List.mem_cons_self)
    have ef : putF "own_day" (.ref d) (bf1 p) = (bf2 p d) := rfl
    have ef0 : putF "own_pauses" (.ref p) ([] : List (Str × V)) = (bf1 p) := rfl
    rw [ef0, ef]
    generalize hH2 : upd _ b (HO.ins (cBrd K) dx (bf2 p d)) = H2 at g2 ⊢
    have hb2 : H2 b = some (.ins (cBrd K) dx (bf2 p d)) := by rw [← hH2]; exact upd_same
    have hla := h5.1
    have lnm : (names us).length = us.length := by unfold names; rw [List.length_map]
    have lsn : ((names us).map V.str).length = (names us).length := List.length_map ..
    refine ⟨_, rfl, t, _, dt, _, _, rfl, g2.gh _ _ h1, cT, nNm, rfl, dn, rfl, ⟨_, (h3.up g2.gh).seq⟩, fun D hD => dc_f walk_tup (fun i => ((names us)[i]?).bind (rowF rs us)) hD (by rw [lsn, lnm]; omega) ?_ (fun H' s => (h3.up (same_tr g2.gh s)).seq) ?_ ?_⟩
    · rw [lsn, range_fm, rowF_keys hla fun n h => h]
      exact inr_nodup hnd
    · rintro i x Ha Hb R k0 hi sa ⟨rfl, hx⟩ q2 q3
      rw [List.getElem?_map] at hx
      cases e : (names us)[i]? with
      | none => rw [e] at hx; cases hx
      | some nm =>
        rw [e] at hx
        cases hx
        have hm := List.mem_of_getElem? e
        refine ⟨rfl, _, rfl, _, rfl, _, rfl, t, rfl, ⟨_, _, sa _ _ (g2.gh _ _ h1)⟩, G, t, nm, n, us, rs, rfl, same_tr g2.gh sa, tabr, hnd, hm, fun b' ea => ?_⟩
        exact q2 (Sum.inr nm) (.ref b') _ (by rw [e]; show rowF rs us nm = _; unfold rowF; rw [ea]; rfl) same_rfl
    · intro H7 s7 hD7
      rw [lsn, range_fm, sh_all hla hnd] at hD7
      have g7 := g2.same s7
      have hHb : H b ≠ none := by rw [hb]; intro z; cases z
      have hD0 : H D = none := g2.old hD
      have g8 := g7.frz hD7 hD0
      have hGb8 := g8.unf hGb hHb
      refine ⟨_, rfl, b, cBrd K, dx, _, rfl, s7 _ _ hb2, c.c, c.n3, (show (2 : Nat) < 1000 by decide), ?_⟩
      have g9 := g8.wr (o := .ins (cBrd K) dx (bf3 p d D)) hGb8 (.inl List.mem_cons_self)
      refine ⟨by decide, fun q hq => ?_⟩
      have g10 := g9.newF (o := .tup []) hq
      have hb10 : (upd (upd H7 b (.ins (cBrd K) dx (bf3 p d D))) q (.tup [])) b = some (.ins (cBrd K) dx (bf3 p d D)) := by
        rw [upd_ne (ne_of_none upd_same hq)]
        exact upd_same
      refine ⟨_, rfl, b, cBrd K, dx, _, rfl, hb10, c.c, c.n4, (show (3 : Nat) < 1000 by decide), ?_⟩
      have hGb10 := g10.unf hGb hHb
      have g11 := g10.wr (o := .ins (cBrd K) dx (brdF p d D q)) hGb10 (.inl List.mem_cons_self)
      have nqD : q ≠ D := fun z => by
        have h9 : (upd H7 b (.ins (cBrd K) dx (bf3 p d D))) D ≠ none := by
          rw [upd_ne (fun y => hHb (by rw [← y]; exact hD0)), hD7]
          intro y; cases y
        exact h9 (z ▸ hq)
      exact k _ _ g11 ⟨dx, p, d, D, q, upd_same, hGb10, ⟨h2.up g11.gg, pau.up g11.gg, rs, by rw [upd_ne nqD.symm]; exact upd_same, h5.up g11.gg⟩, [], upd_same, rfl, fun i r z e => by simp at e⟩
end
end N1
set_option maxHeartbeats 2000000
/-! the law's drawing -/
namespace N1
open PySem PySem.Spec PyProof.Rows L2
def PenAt (H : Hp) (p c : Addr) (m : Int) : Prop := ∃ (lap great : Int) (ns : List Int), H p = some (.lst [.ref c, .int lap, .int great]) ∧ H c = some (.lst (ns.map V.int)) ∧ c ≠ p ∧ 0 ≤ lap ∧ lap ≤ m ∧ 0 ≤ great ∧ ns.length ≤ 63
theorem PenAt.up {H H' : Hp} {p c : Addr} {m : Int} (s : Same H H') (h : PenAt H p c m) : PenAt H' p c m := let ⟨l, g, ns, h1, h2, h3⟩ := h; ⟨l, g, ns, s _ _ h1, s _ _ h2, h3⟩
theorem PenAt.le {H : Hp} {p c : Addr} {m m' : Int} (h : PenAt H p c m) (hm : m ≤ m') : PenAt H p c m' := let ⟨l, g, ns, h1, h2, h3, h4, h5, h6⟩ := h; ⟨l, g, ns, h1, h2, h3, h4, by omega, h6⟩
theorem PenAt.kp {H H' : Hp} {p c b : Addr} {m : Int} (k : Kp [b] H H') (h : PenAt H p c m) (hb : ∀ xs, H b ≠ some (.lst xs)) : PenAt H' p c m := by
  obtain ⟨l, g, ns, h1, h2, h3⟩ := h
  exact ⟨l, g, ns, k _ _ (fun z => by rw [List.mem_singleton.mp z] at h1; exact hb _ h1) h1, k _ _ (fun z => by rw [List.mem_singleton.mp z] at h2; exact hb _ h2) h2, h3⟩
/-- a thing that is not of the pen changes -/
theorem PenAt.upd {H : Hp} {p c b : Addr} {m : Int} {o : HO} (h : PenAt H p c m) (h1 : b ≠ p) (h2 : b ≠ c) : PenAt (upd H b o) p c m := by
  obtain ⟨l, g, ns, e1, e2, h3⟩ := h
  exact ⟨l, g, ns, by rw [upd_ne h1.symm]; exact e1, by rw [upd_ne h2.symm]; exact e2, h3⟩
theorem PenAt.ne {H : Hp} {p c : Addr} {m : Int} (h : PenAt H p c m) : H p ≠ none := by
  obtain ⟨l, g, ns, h1, h2⟩ := h
  rw [h1]
  intro z
  cases z
theorem PenAt.nec {H : Hp} {p c : Addr} {m : Int} (h : PenAt H p c m) : H c ≠ none := by
  obtain ⟨l, g, ns, h1, h2, h3⟩ := h
  rw [h2]
  intro z
  cases z
theorem gx_pen {G H H' : Hp} {p c : Addr} {m : Int} (gs : Same G H) (hG : G p = none) (k : Kp [p] H H') (h : PenAt H' p c m) : Gx [p] G H G H' := by
  refine ⟨same_rfl, fun b o e => k b o (fun z => ?_) (gs b o e), k, fun b e => ?_, fun b e => .inl e⟩
  · rw [List.mem_singleton.mp z, hG] at e
    cases e
  · by_cases hb : b = p
    · rw [hb]; exact h.ne
    · cases q : H b with
      | none => exact absurd q e
      | some o => rw [k b o (by simpa using hb) q]; intro z; cases z
def Drawn1 (H : Hp) (p c : Addr) (m n : Int) (Q : VK) : Prop := ∀ H' (i : Int), 0 ≤ i → i < n → Kp [p] H H' → PenAt H' p c (m + 1) → Q (.int i) H'
def spDraw : Sp := fun vs H Q _ => ∃ (p c : Addr) (m n : Int), vs = [.ref p, .int n] ∧ 1 ≤ n ∧ n < 1073741824 ∧ PenAt H p c m ∧ m ≤ 1000000 ∧ Drawn1 H p c m n Q
section
variable {P : Program} {w : World} {K : PySem.W.Frag} {mg : Str → Option Value} {base : Heap}
theorem kp_rfl {M : List Addr} {H : Hp} : Kp M H H := fun _ _ _ e => e
theorem kp_upd {H H' : Hp} {p : Addr} {o : HO} (k : Kp [p] H H') : Kp [p] H (upd H' p o) := fun a v ha e => by
  rw [upd_ne (by simpa using ha)]
  exact k a v ha e
theorem ok_draw (T : FX P K mg) : FnR P w K mg base CX0 1 (ga K "_law_draw") spDraw := by
  refine fnr T.f_w_draw sc_draw (fun _ _ _ _ _ _ us hl => match us, hl with | [_, _], _ => rfl) (fun vs H Q E h => ?_) (fun cdv A outer s H vs Q E hr h => ?_)
  · obtain ⟨p, c, m, n, rfl, _⟩ := h
    rfl
  · obtain ⟨p, c, m, n, rfl, hn1, hn2, ⟨lap, great, ns, hp, hc, hcp, hl0, hlm, hg0, hns⟩, hm, k⟩ := h
    have nd := sc_draw.nd
    have hu : _ := hu_of hr
    refine ⟨_, (pss_cons (ps_if (pt_cmpR op_gt (pe_ix ix_list (pv 0) pe_int (fun _ _ => rfl)) pe_int (nomark _)) (pss_cons (ps_set (i := 2) nd rfl (Or.inl rfl) (pe_op op_mod (ct "int" T call_int1 (pa_cons (pe_ix ix_list (pv 0) pe_int (fun _ _ => rfl)) pa_nil)) (pv 1))) (pss_cons (ps_asg (pe_op op_fdiv (ct "int" T call_int1 (pa_cons (pe_ix ix_list (pv 0) pe_int (fun _ _ => rfl)) pa_nil)) (pv 1)) (pg_sub (pv 0) pe_int set_list (fun _ => rfl))) (pss_one (ps_ret (pv 2))))) pss_nil) (pss_cons (ps_set (i := 3) nd rfl (Or.inl rfl) (pe_ix ix_list (pv 0) pe_int (fun _ _ => rfl))) (pss_cons (ps_asg (pe_op op_add (pv 3) pe_int) (pg_sub (pv 0) pe_int set_list (fun _ => rfl))) (pss_cons (ps_set (i := 4) nd rfl (Or.inl rfl) (pe_op op_add (pe_op op_mul pe_int (pv 3)) pe_int)) (pss_cons (ps_if (pt_cmpR (op_neNil (Nat.lt_of_succ_lt hu)) (pe_ix ix_list (pv 0) pe_int (fun _ _ => rfl)) (pe_lst pa_nil) (nomark _)) (pss_one (ps_set (i := 4) nd rfl (Or.inl rfl) (pe_ix ix_list (pe_ix ix_list (pv 0) pe_int (fun _ _ => rfl)) (pe_op op_mod (ct "int" T call_int1 (pa_cons (pv 3) pa_nil)) (cb "len" T call_len (pa_cons (pe_ix ix_list (pv 0) pe_int (fun _ _ => rfl)) pa_nil))) (fun _ _ => rfl)))) pss_nil) (pss_cons (ps_if (pw_and (pt_cmpR op_lt (pv 3) (cb "len" T call_len (pa_cons (pe_ix ix_list (pv 0) pe_int (fun _ _ => rfl)) pa_nil)) (nomark _)) (pw_and1 (pt_cmpR op_ge (cb "abs" T call_abs (pa_cons (pv 4) pa_nil)) (pe_op op_pow pe_int pe_int) (nomark _)))).pt (pss_cons (ps_set (i := 5) nd rfl (Or.inl rfl) (pe_op op_add (pe_op op_mul pe_int (pe_op op_sub (cb "abs" T call_abs (pa_cons (pv 4) pa_nil)) (pe_op op_pow pe_int pe_int))) (ct "int" T call_int1 (pa_cons (pe_cmpR op_lt (pv 4) pe_int (nomark _)) pa_nil)))) (pss_cons (ps_asg (pe_op op_fdiv (ct "int" T call_int1 (pa_cons (pv 5) pa_nil)) (pv 1)) (pg_sub (pv 0) pe_int set_list (fun _ => rfl))) (pss_one (ps_ret (pe_op op_mod (ct "int" T call_int1 (pa_cons (pv 5) pa_nil)) (pv 1)))))) pss_nil) (pss_cons (ps_set (i := 6) nd rfl (Or.inl rfl) (pe_op op_mod (ct "int" T call_int1 (pa_cons (pe_op op_pow (pe_op op_add (pe_op op_add (pe_op op_mod (ct "int" T call_int1 (pa_cons (pv 4) pa_nil)) pe_int) (pe_op op_mul pe_int (pv 3))) pe_int) pe_int) pa_nil)) pe_int)) (pss_cons (ps_set (i := 6) nd rfl (Or.inl rfl) (pe_op op_mod (ct "int" T call_int1 (pa_cons (pe_op op_pow (pe_op op_add (pe_op op_add (pe_op op_mul (pv 6) (pe_op op_add (pe_op op_mul pe_int (pv 3)) pe_int)) (pe_op op_mul (pe_op op_mul pe_int (pv 3)) (pv 3))) pe_int) pe_int) pa_nil)) pe_int)) (pss_one (ps_ret (pe_op op_mod (ct "int" T call_int1 (pa_cons (pe_op op_fdiv (pv 6) pe_int) pa_nil)) (pv 1)))))))))))), ?_⟩
    have hnp : 0 < n := by omega
    have i2 : ∀ (a b c : V), ixN ([a, b, c] : List V).length 2 = some 2 := fun _ _ _ => rfl
    have i1 : ∀ (a b c : V), ixN ([a, b, c] : List V).length 1 = some 1 := fun _ _ _ => rfl
    have emod : ∀ x : Int, 0 ≤ x % n ∧ x % n < n := fun x => ⟨Int.emod_nonneg _ (by omega), Int.emod_lt_of_pos _ hnp⟩
    refine ⟨_, rfl, p, _, 2, _, rfl, rfl, SqL.of hp, rfl, _, _, rfl, rfl, _, rfl, ?_⟩
    cases hg : decide ((0 : Int) < great) with
    | true =>
      refine ⟨_, rfl, p, _, 2, _, rfl, rfl, SqL.of hp, rfl, .inl ⟨great, rfl, _, rfl, _, _, rfl, rfl, hnp, ?_⟩⟩
      refine ⟨_, rfl, p, _, 2, _, rfl, rfl, SqL.of hp, rfl, .inl ⟨great, rfl, _, rfl, _, _, rfl, rfl, ⟨hnp, hn2⟩, ?_⟩⟩
      refine ⟨_, rfl, p, _, 2, 2, rfl, rfl, hp, rfl, ?_⟩
      refine ⟨_, rfl, k _ _ (emod great).1 (emod great).2 (kp_upd kp_rfl) ⟨lap, great / n, ns, upd_same, by rw [upd_ne hcp]; exact hc, hcp, hl0, by omega, Int.ediv_nonneg hg0 (by omega), hns⟩⟩
    | false =>
      refine ⟨_, rfl, p, _, 1, _, rfl, rfl, SqL.of hp, rfl, ?_⟩
      refine ⟨_, rfl, _, _, rfl, rfl, _, rfl, p, _, 1, 1, rfl, rfl, hp, rfl, ?_⟩
      generalize hH1 : upd H p (.lst (([.ref c, .int lap, .int great] : List V).set 1 (.int (lap + 1)))) = H1
      have hp1 : H1 p = some (.lst [.ref c, .int (lap + 1), .int great]) := by rw [← hH1]; exact upd_same
      have hc1 : H1 c = some (.lst (ns.map V.int)) := by rw [← hH1, upd_ne hcp]; exact hc
      have k1 : Kp [p] H H1 := by rw [← hH1]; exact kp_upd kp_rfl
      refine ⟨_, rfl, _, _, rfl, rfl, .inl ⟨by decide, by decide⟩, _, _, rfl, rfl, ?_⟩
      refine ⟨_, rfl, p, _, 0, _, rfl, rfl, SqL.of hp1, rfl, by decide, fun l hl => ⟨c, l, _, rfl, rfl, SqL.ext (SqL.of hc1) (same_new same_rfl hl), SqL.of upd_same, _, rfl, ?_⟩⟩
      generalize hH2 : upd H1 l (.lst []) = H2
      have s2 : Same H1 H2 := by rw [← hH2]; exact same_new same_rfl hl
      have hp2 := s2 _ _ hp1
      have hc2 := s2 _ _ hc1
      have k2 : Kp [p] H H2 := fun a o ha e => s2 _ _ (k1 a o ha e)
      cases he : (ns.map V.int) with
      | nil =>
        have hcS := hc2
        rw [he] at hcS
        refine ⟨_, rfl, _, rfl, p, _, 0, _, rfl, rfl, SqL.of hp2, rfl, _, _, rfl, .inl ⟨_, SqL.of hcS, rfl⟩, _, _, rfl, rfl, _, rfl, ?_⟩
        cases h1 : decide (lap < ((([] : List V)).length : Int)) with
        | false =>
          have z1 : 0 ≤ (100418 * lap + 7028) % 2147483579 := Int.emod_nonneg _ (by decide)
          have z2 : (100418 * lap + 7028) % 2147483579 < 2147483579 := Int.emod_lt_of_pos _ (by decide)
          refine ⟨_, rfl, .inl ⟨(100418 * lap + 7028), rfl, _, _, rfl, rfl, (show (0 : Int) < _ by decide), _, rfl, _, _, rfl, rfl, .inl ⟨by decide, by decide⟩, _, _, rfl, rfl, _, _, rfl, rfl, _, _, rfl, rfl, ⟨by decide, by decide, by omega⟩, .inl ⟨_, rfl, _, _, rfl, rfl, (show (0 : Int) < _ by decide), ?_⟩⟩⟩
          have s1a : 0 ≤ (((100418 * lap + 7028) % 2147483579 + 5116 * lap + 7028) ^ (5 : Int).toNat % 2147483629) := Int.emod_nonneg _ (by decide)
          have s1b : (((100418 * lap + 7028) % 2147483579 + 5116 * lap + 7028) ^ (5 : Int).toNat % 2147483629) < 2147483629 := Int.emod_lt_of_pos _ (by decide)
          have m1 : (((100418 * lap + 7028) % 2147483579 + 5116 * lap + 7028) ^ (5 : Int).toNat % 2147483629) * (2 * lap + 453) ≤ 2147483629 * 2000453 := Int.mul_le_mul (by omega) (by omega) (by omega) (by decide)
          have m2 : 0 ≤ (((100418 * lap + 7028) % 2147483579 + 5116 * lap + 7028) ^ (5 : Int).toNat % 2147483629) * (2 * lap + 453) := Int.mul_nonneg s1a (by omega)
          have m3 : 21636 * lap * lap ≤ 21636000000 * 1000000 := Int.mul_le_mul (by omega) (by omega) hl0 (by decide)
          have m4 : 0 ≤ 21636 * lap * lap := Int.mul_nonneg (by omega) hl0
          refine ⟨_, rfl, _, rfl, _, _, rfl, rfl, .inl ⟨by decide, by decide⟩, _, _, rfl, rfl, _, _, rfl, rfl, .inl ⟨by omega, by omega⟩, _, rfl, _, _, rfl, rfl, .inl ⟨by decide, by decide⟩, _, rfl, _, _, rfl, rfl, .inr ⟨by omega, by omega⟩, _, _, rfl, rfl, _, _, rfl, rfl, _, _, rfl, rfl, ⟨by decide, by decide, by omega⟩, .inl ⟨_, rfl, _, _, rfl, rfl, (show (0 : Int) < _ by decide), ?_⟩⟩
          exact ⟨_, rfl, _, _, rfl, rfl, ⟨by decide, by decide⟩, .inl ⟨_, rfl, _, rfl, _, _, rfl, rfl, hnp, k _ _ (emod _).1 (emod _).2 k2 ⟨lap + 1, great, _, hp2, hc2, hcp, by omega, by omega, hg0, hns⟩⟩⟩
        | true =>
          refine ⟨_, rfl, (100418 * lap + 7028), rfl, _, _, rfl, rfl, ⟨by decide, by decide, by decide⟩, _, _, rfl, rfl, _, rfl, ?_⟩
          cases h2 : decide ((10 : Int) ^ (18 : Int).toNat ≤ if (100418 * lap + 7028) < 0 then -(100418 * lap + 7028) else (100418 * lap + 7028)) with
          | false =>
            have z1 : 0 ≤ (100418 * lap + 7028) % 2147483579 := Int.emod_nonneg _ (by decide)
            have z2 : (100418 * lap + 7028) % 2147483579 < 2147483579 := Int.emod_lt_of_pos _ (by decide)
            refine ⟨_, rfl, .inl ⟨(100418 * lap + 7028), rfl, _, _, rfl, rfl, (show (0 : Int) < _ by decide), _, rfl, _, _, rfl, rfl, .inl ⟨by decide, by decide⟩, _, _, rfl, rfl, _, _, rfl, rfl, _, _, rfl, rfl, ⟨by decide, by decide, by omega⟩, .inl ⟨_, rfl, _, _, rfl, rfl, (show (0 : Int) < _ by decide), ?_⟩⟩⟩
            have s1a : 0 ≤ (((100418 * lap + 7028) % 2147483579 + 5116 * lap + 7028) ^ (5 : Int).toNat % 2147483629) := Int.emod_nonneg _ (by decide)
            have s1b : (((100418 * lap + 7028) % 2147483579 + 5116 * lap + 7028) ^ (5 : Int).toNat % 2147483629) < 2147483629 := Int.emod_lt_of_pos _ (by decide)
            have m1 : (((100418 * lap + 7028) % 2147483579 + 5116 * lap + 7028) ^ (5 : Int).toNat % 2147483629) * (2 * lap + 453) ≤ 2147483629 * 2000453 := Int.mul_le_mul (by omega) (by omega) (by omega) (by decide)
            have m2 : 0 ≤ (((100418 * lap + 7028) % 2147483579 + 5116 * lap + 7028) ^ (5 : Int).toNat % 2147483629) * (2 * lap + 453) := Int.mul_nonneg s1a (by omega)
            have m3 : 21636 * lap * lap ≤ 21636000000 * 1000000 := Int.mul_le_mul (by omega) (by omega) hl0 (by decide)
            have m4 : 0 ≤ 21636 * lap * lap := Int.mul_nonneg (by omega) hl0
            refine ⟨_, rfl, _, rfl, _, _, rfl, rfl, .inl ⟨by decide, by decide⟩, _, _, rfl, rfl, _, _, rfl, rfl, .inl ⟨by omega, by omega⟩, _, rfl, _, _, rfl, rfl, .inl ⟨by decide, by decide⟩, _, rfl, _, _, rfl, rfl, .inr ⟨by omega, by omega⟩, _, _, rfl, rfl, _, _, rfl, rfl, _, _, rfl, rfl, ⟨by decide, by decide, by omega⟩, .inl ⟨_, rfl, _, _, rfl, rfl, (show (0 : Int) < _ by decide), ?_⟩⟩
            exact ⟨_, rfl, _, _, rfl, rfl, ⟨by decide, by decide⟩, .inl ⟨_, rfl, _, rfl, _, _, rfl, rfl, hnp, k _ _ (emod _).1 (emod _).2 k2 ⟨lap + 1, great, _, hp2, hc2, hcp, by omega, by omega, hg0, hns⟩⟩⟩
          | true =>
            have zz : (10 : Int) ^ (18 : Int).toNat = 1000000000000000000 := rfl
            have hab := of_decide_eq_true h2
            refine ⟨_, rfl, (100418 * lap + 7028), rfl, _, _, rfl, rfl, ⟨by decide, by decide, by decide⟩, _, _, rfl, rfl, _, _, rfl, rfl, .inl ⟨by decide, by decide⟩, _, rfl, _, _, rfl, rfl, .inr ⟨_, rfl, _, _, rfl, rfl, ?_⟩⟩
            have hgr0 : 0 ≤ 2 * ((if (100418 * lap + 7028) < 0 then -(100418 * lap + 7028) else (100418 * lap + 7028)) - 10 ^ (18 : Int).toNat) + (if decide ((100418 * lap + 7028) < 0) = true then (1 : Int) else 0) := by
              split <;> split <;> omega
            refine ⟨_, rfl, .inl ⟨_, rfl, _, rfl, _, _, rfl, rfl, ⟨hnp, hn2⟩, _, rfl, p, _, 2, 2, rfl, rfl, hp2, rfl, ?_⟩⟩
            exact ⟨_, rfl, .inl ⟨_, rfl, _, rfl, _, _, rfl, rfl, hnp, k _ _ (emod _).1 (emod _).2 (kp_upd k2) ⟨lap + 1, _, _, upd_same, by rw [upd_ne hcp]; exact hc2, hcp, by omega, by omega, Int.ediv_nonneg hgr0 (by omega), hns⟩⟩⟩
      | cons y ys =>
        obtain ⟨z0, zs, rfl⟩ : ∃ z0 zs, ns = z0 :: zs := by
          cases ns with
          | nil => cases he
          | cons a b => exact ⟨a, b, rfl⟩
        have hln : 0 < (((z0 :: zs).map V.int).length : Int) := by rw [List.length_map, List.length_cons]; omega
        have hj0 : 0 ≤ (lap % (((z0 :: zs).map V.int).length : Int)) := Int.emod_nonneg _ (by omega)
        have hj1 : (lap % (((z0 :: zs).map V.int).length : Int)) < (((z0 :: zs).map V.int).length : Int) := Int.emod_lt_of_pos _ hln
        obtain ⟨j, hj⟩ := Int.eq_ofNat_of_zero_le hj0
        have hjl : j < (z0 :: zs).length := by
          rw [hj] at hj1
          rw [List.length_map] at hj1
          omega
        obtain ⟨z, hz⟩ : ∃ z, (z0 :: zs)[j]? = some z := ⟨_, List.getElem?_eq_getElem hjl⟩
        have hat : atI ((z0 :: zs).map V.int) (lap % (((z0 :: zs).map V.int).length : Int)) = some (.int z) := by
          rw [hj]
          exact atI_nat (by rw [List.getElem?_map, hz]; rfl)
        have hcS := hc2
        rw [← he]
        refine ⟨_, rfl, p, _, 0, _, rfl, rfl, SqL.of hp2, rfl, _, rfl, .inl ⟨lap, rfl, _, rfl, p, _, 0, _, rfl, rfl, SqL.of hp2, rfl, _, _, rfl, .inl ⟨_, SqL.of hcS, rfl⟩, _, _, rfl, rfl, hln, c, _, _, _, rfl, rfl, SqL.of hc2, hat, ?_⟩⟩
        refine ⟨_, rfl, _, rfl, p, _, 0, _, rfl, rfl, SqL.of hp2, rfl, _, _, rfl, .inl ⟨_, SqL.of hcS, rfl⟩, _, _, rfl, rfl, _, rfl, ?_⟩
        cases h1 : decide (lap < (((z0 :: zs).map V.int).length : Int)) with
        | false =>
          have z1 : 0 ≤ z % 2147483579 := Int.emod_nonneg _ (by decide)
          have z2 : z % 2147483579 < 2147483579 := Int.emod_lt_of_pos _ (by decide)
          refine ⟨_, rfl, .inl ⟨z, rfl, _, _, rfl, rfl, (show (0 : Int) < _ by decide), _, rfl, _, _, rfl, rfl, .inl ⟨by decide, by decide⟩, _, _, rfl, rfl, _, _, rfl, rfl, _, _, rfl, rfl, ⟨by decide, by decide, by omega⟩, .inl ⟨_, rfl, _, _, rfl, rfl, (show (0 : Int) < _ by decide), ?_⟩⟩⟩
          have s1a : 0 ≤ ((z % 2147483579 + 5116 * lap + 7028) ^ (5 : Int).toNat % 2147483629) := Int.emod_nonneg _ (by decide)
          have s1b : ((z % 2147483579 + 5116 * lap + 7028) ^ (5 : Int).toNat % 2147483629) < 2147483629 := Int.emod_lt_of_pos _ (by decide)
          have m1 : ((z % 2147483579 + 5116 * lap + 7028) ^ (5 : Int).toNat % 2147483629) * (2 * lap + 453) ≤ 2147483629 * 2000453 := Int.mul_le_mul (by omega) (by omega) (by omega) (by decide)
          have m2 : 0 ≤ ((z % 2147483579 + 5116 * lap + 7028) ^ (5 : Int).toNat % 2147483629) * (2 * lap + 453) := Int.mul_nonneg s1a (by omega)
          have m3 : 21636 * lap * lap ≤ 21636000000 * 1000000 := Int.mul_le_mul (by omega) (by omega) hl0 (by decide)
          have m4 : 0 ≤ 21636 * lap * lap := Int.mul_nonneg (by omega) hl0
          refine ⟨_, rfl, _, rfl, _, _, rfl, rfl, .inl ⟨by decide, by decide⟩, _, _, rfl, rfl, _, _, rfl, rfl, .inl ⟨by omega, by omega⟩, _, rfl, _, _, rfl, rfl, .inl ⟨by decide, by decide⟩, _, rfl, _, _, rfl, rfl, .inr ⟨by omega, by omega⟩, _, _, rfl, rfl, _, _, rfl, rfl, _, _, rfl, rfl, ⟨by decide, by decide, by omega⟩, .inl ⟨_, rfl, _, _, rfl, rfl, (show (0 : Int) < _ by decide), ?_⟩⟩
          exact ⟨_, rfl, _, _, rfl, rfl, ⟨by decide, by decide⟩, .inl ⟨_, rfl, _, rfl, _, _, rfl, rfl, hnp, k _ _ (emod _).1 (emod _).2 k2 ⟨lap + 1, great, _, hp2, hc2, hcp, by omega, by omega, hg0, hns⟩⟩⟩
        | true =>
          refine ⟨_, rfl, z, rfl, _, _, rfl, rfl, ⟨by decide, by decide, by decide⟩, _, _, rfl, rfl, _, rfl, ?_⟩
          cases h2 : decide ((10 : Int) ^ (18 : Int).toNat ≤ if z < 0 then -z else z) with
          | false =>
            have z1 : 0 ≤ z % 2147483579 := Int.emod_nonneg _ (by decide)
            have z2 : z % 2147483579 < 2147483579 := Int.emod_lt_of_pos _ (by decide)
            refine ⟨_, rfl, .inl ⟨z, rfl, _, _, rfl, rfl, (show (0 : Int) < _ by decide), _, rfl, _, _, rfl, rfl, .inl ⟨by decide, by decide⟩, _, _, rfl, rfl, _, _, rfl, rfl, _, _, rfl, rfl, ⟨by decide, by decide, by omega⟩, .inl ⟨_, rfl, _, _, rfl, rfl, (show (0 : Int) < _ by decide), ?_⟩⟩⟩
            have s1a : 0 ≤ ((z % 2147483579 + 5116 * lap + 7028) ^ (5 : Int).toNat % 2147483629) := Int.emod_nonneg _ (by decide)
            have s1b : ((z % 2147483579 + 5116 * lap + 7028) ^ (5 : Int).toNat % 2147483629) < 2147483629 := Int.emod_lt_of_pos _ (by decide)
            have m1 : ((z % 2147483579 + 5116 * lap + 7028) ^ (5 : Int).toNat % 2147483629) * (2 * lap + 453) ≤ 2147483629 * 2000453 := Int.mul_le_mul (by omega) (by omega) (by omega) (by decide)
            have m2 : 0 ≤ ((z % 2147483579 + 5116 * lap + 7028) ^ (5 : Int).toNat % 2147483629) * (2 * lap + 453) := Int.mul_nonneg s1a (by omega)
            have m3 : 21636 * lap * lap ≤ 21636000000 * 1000000 := Int.mul_le_mul (by omega) (by omega) hl0 (by decide)
            have m4 : 0 ≤ 21636 * lap * lap := Int.mul_nonneg (by omega) hl0
            refine ⟨_, rfl, _, rfl, _, _, rfl, rfl, .inl ⟨by decide, by decide⟩, _, _, rfl, rfl, _, _, rfl, rfl, .inl ⟨by omega, by omega⟩, _, rfl, _, _, rfl, rfl, .inl ⟨by decide, by decide⟩, _, rfl, _, _, rfl, rfl, .inr ⟨by omega, by omega⟩, _, _, rfl, rfl, _, _, rfl, rfl, _, _, rfl, rfl, ⟨by decide, by decide, by omega⟩, .inl ⟨_, rfl, _, _, rfl, rfl, (show (0 : Int) < _ by decide), ?_⟩⟩
            exact ⟨_, rfl, _, _, rfl, rfl, ⟨by decide, by decide⟩, .inl ⟨_, rfl, _, rfl, _, _, rfl, rfl, hnp, k _ _ (emod _).1 (emod _).2 k2 ⟨lap + 1, great, _, hp2, hc2, hcp, by omega, by omega, hg0, hns⟩⟩⟩
          | true =>
            have zz : (10 : Int) ^ (18 : Int).toNat = 1000000000000000000 := rfl
            have hab := of_decide_eq_true h2
            refine ⟨_, rfl, z, rfl, _, _, rfl, rfl, ⟨by decide, by decide, by decide⟩, _, _, rfl, rfl, _, _, rfl, rfl, .inl ⟨by decide, by decide⟩, _, rfl, _, _, rfl, rfl, .inr ⟨_, rfl, _, _, rfl, rfl, ?_⟩⟩
            have hgr0 : 0 ≤ 2 * ((if z < 0 then -z else z) - 10 ^ (18 : Int).toNat) + (if decide (z < 0) = true then (1 : Int) else 0) := by
              split <;> split <;> omega
            refine ⟨_, rfl, .inl ⟨_, rfl, _, rfl, _, _, rfl, rfl, ⟨hnp, hn2⟩, _, rfl, p, _, 2, 2, rfl, rfl, hp2, rfl, ?_⟩⟩
            exact ⟨_, rfl, .inl ⟨_, rfl, _, rfl, _, _, rfl, rfl, hnp, k _ _ (emod _).1 (emod _).2 (kp_upd k2) ⟨lap + 1, _, _, upd_same, by rw [upd_ne hcp]; exact hc2, hcp, by omega, by omega, Int.ediv_nonneg hgr0 (by omega), hns⟩⟩⟩
end
end N1
set_option maxHeartbeats 2000000
namespace N1
open PySem PySem.Spec PyProof.Rows L2
def spPen (K : PySem.W.Frag) : Sp := fun vs H Q _ => ∃ (a : Addr) (ns : List Int), vs = [.ref a] ∧ SqL K H a (ns.map V.int) ∧ ∀ H' p c, Same H H' → H p = none → PenAt H' p c 0 → Q (.ref p) H'
/-- one of some things -/
def spPick (K : PySem.W.Frag) : Sp := fun vs H Q _ => ∃ (p c a : Addr) (m : Int) (xs : List V), vs = [.ref p, .ref a] ∧ PenAt H p c m ∧ m ≤ 1000000 ∧ a ≠ p ∧ H a = some (.lst xs) ∧ 1 ≤ xs.length ∧ xs.length ≤ 1000 ∧ ∀ H' x, x ∈ xs → Kp [p] H H' → PenAt H' p c (m + 1) → Q x H'
section
variable {P : Program} {w : World} {K : PySem.W.Frag} {mg : Str → Option Value} {base : Heap}
theorem cut63 (ns : List Int) : ∃ ms : List Int, cutV (ns.map V.int) none (some 63) = ms.map V.int ∧ ms.length ≤ 63 := by
  refine ⟨ns.take 63, ?_, List.length_take_le ..⟩
  unfold cutV HT.sIx
  simp
theorem ok_pen (T : FX P K mg) : FnR P w K mg base CX0 1 (ga K "_law_pen") (spPen K) := by
  refine fnr T.f_w_pen sc_pen (fun _ _ _ _ _ _ us hl => match us, hl with | [_], _ => rfl) (fun vs H Q E h => ?_) (fun cdv A outer s H vs Q E hr h => ?_)
  · obtain ⟨a, ns, rfl, _⟩ := h
    rfl
  · obtain ⟨a, ns, rfl, ha, k⟩ := h
    refine ⟨_, pss_one (ps_ret (pe_lst (pa_cons (ct "list" T call_list_of (pa_cons (pe_slice sl_list (pv 0) po_none (po_some pe_int)) pa_nil)) (pa_cons pe_int (pa_cons pe_int pa_nil))))), ?_⟩
    obtain ⟨ms, em, lm⟩ := cut63 ns
    refine ⟨_, rfl, 63, rfl, a, _, rfl, ha, fun q hq => ?_⟩
    rw [em]
    refine ⟨q, _, rfl, .inl (SqL.of upd_same), fun l hl => ?_⟩
    refine ⟨(show (3 : Nat) ≤ sizeLine by decide), fun p hp => ?_⟩
    have s1 : Same H (upd H q (.lst (ms.map V.int))) := same_new same_rfl hq
    have s2 := same_new (o := .lst (ms.map V.int)) s1 hl
    have hlp : l ≠ p := fun z => by rw [← z, upd_same] at hp; cases hp
    refine k _ p l (same_new s2 hp) ?_ ⟨0, 0, ms, upd_same, by rw [upd_ne hlp]; exact upd_same, hlp, by decide, by decide, by decide, lm⟩
    cases z : H p with
    | none => rfl
    | some o => rw [s2 _ _ z] at hp; cases hp
theorem ok_pick (T : FX P K mg) : FnR P w K mg base CX0 2 (ga K "_law_pick") (spPick K) := by
  refine fnr T.f_w_pick sc_pick (fun _ _ _ _ _ _ us hl => match us, hl with | [_, _], _ => rfl) (fun vs H Q E h => ?_) (fun cdv A outer s H vs Q E hr h => ?_)
  · obtain ⟨p, c, a, m, xs, rfl, _⟩ := h
    rfl
  · obtain ⟨p, c, a, m, xs, rfl, pen, hm, hap, ha, h1, h2, k⟩ := h
    refine ⟨_, pss_one (ps_ret (pe_ix ix_list (pv 1) (cl "_law_draw" T (ok_draw T) hr (pa_cons (pv 0) (pa_cons (cb "len" T call_len (pa_cons (pv 1) pa_nil)) pa_nil))) (fun _ _ => rfl))), ?_⟩
    refine ⟨_, rfl, _, rfl, _, rfl, _, _, rfl, .inl ⟨_, SqL.of ha, rfl⟩, p, c, m, _, rfl, by omega, by omega, pen, hm, fun H' i i0 i1 kp pen' => ?_⟩
    obtain ⟨j, rfl⟩ := Int.eq_ofNat_of_zero_le i0
    have hj : j < xs.length := by omega
    refine ⟨a, xs, _, xs[j], rfl, rfl, SqL.of (kp _ _ (by simpa using hap) ha), atI_nat (List.getElem?_eq_getElem hj), k H' _ (List.getElem_mem hj) kp pen'⟩
end
end N1
set_option maxHeartbeats 2000000
namespace N1
open PySem PySem.Spec PyProof.Rows L2
/-- the same things in a drawn order -/
def spMixed (K : PySem.W.Frag) : Sp := fun vs H Q _ => ∃ (p c a : Addr) (m : Int) (xs : List V), vs = [.ref p, .ref a] ∧ PenAt H p c m ∧ m + xs.length ≤ 1000000 ∧ a ≠ p ∧ H a = some (.lst xs) ∧ xs.length ≤ 60 ∧ ∀ H' q ys, ys.Perm xs → Kp [p] H H' → H q = none → H' q = some (.lst ys) → PenAt H' p c (m + xs.length) → Q (.ref q) H'
def lenAt (H : Hp) (l : Addr) : Nat := match H l with
  | some (.lst xs) => xs.length
  | _ => 0
theorem erase_perm {α : Type} : ∀ (l : List α) (j : Nat) (h : j < l.length), (l[j] :: l.eraseIdx j).Perm l
  | x :: l, 0, _ => .refl _
  | x :: l, j + 1, h => by
    have ih := erase_perm l j (Nat.lt_of_succ_lt_succ h)
    exact (List.Perm.swap x _ _).trans (ih.cons x)
section
variable {P : Program} {w : World} {K : PySem.W.Frag} {mg : Str → Option Value} {base : Heap}
theorem mono_neNil {te tf : TE} (h1 : ∀ σ H Q Q', (∀ x H', Q x H' → Q' x H') → te σ H Q → te σ H Q') (h2 : ∀ σ H Q Q', (∀ x H', Q x H' → Q' x H') → tf σ H Q → tf σ H Q') :
    ∀ σ H (Q Q' : Bool → Hp → Prop), (∀ b H1, Q b H1 → Q' b H1) → tTest (tOp (rNeNil K) te tf) σ H Q → tTest (tOp (rNeNil K) te tf) σ H Q' := fun σ H Q Q' h c =>
  h1 σ H _ _ (fun x H1 c1 => h2 σ H1 _ _ (fun y H2 ⟨a, b, xs, e1, e2, e3, e4, k, e5, q⟩ => ⟨a, b, xs, e1, e2, e3, e4, k, e5, h _ _ q⟩) c1) c
theorem ok_mixed (T : FX P K mg) : FnR P w K mg base CX0 2 (ga K "_law_mixed") (spMixed K) := by
  refine fnr T.f_w_mixed sc_mixed (fun _ _ _ _ _ _ us hl => match us, hl with | [_, _], _ => rfl) (fun vs H Q E h => ?_) (fun cdv A outer s H vs Q E hr h => ?_)
  · obtain ⟨p, c, a, m, xs, rfl, _⟩ := h
    rfl
  · obtain ⟨p, c, a, m, xs, rfl, pen, hm, hap, ha, h60, k⟩ := h
    have nd := sc_mixed.nd
    have hu := hu_of hr
    refine ⟨_, pss_cons (ps_par (i := 2) (j := 3) rfl nd rfl rfl (by decide) rfl rfl (pa_cons (ct "list" T call_list_of (pa_cons (pv 1) pa_nil)) (pa_cons (pe_lst pa_nil) pa_nil)) rfl)
      (pss_cons (ps_while PassesOwn.never (pt_cmpR (op_neNil (Nat.lt_of_succ_lt hu)) (pv 2) (pe_lst pa_nil) (nomark _))
        (pss_one (ps_expr (pe_bm PySem.F.plainAttrs_list PySem.F.slot_list_append PySem.F.type_list_append mt_append (pv 3) (pa_cons
          (pe_bm PySem.F.plainAttrs_list PySem.F.slot_list_pop PySem.F.type_list_pop mt_popAt (pv 2) (pa_cons (cl "_law_draw" T (ok_draw T) hr (pa_cons (pv 0) (pa_cons (cb "len" T call_len (pa_cons (pv 2) pa_nil)) pa_nil))) pa_nil)) pa_nil)))))
      (pss_one (ps_ret (pv 3)))), ?_⟩
    refine ⟨_, rfl, a, xs, rfl, .inl (SqL.of ha), fun l0 hl0 => ⟨by decide, fun f0 hf0 => ⟨_, _, rfl, ?_⟩⟩⟩
    generalize hH0 : upd (upd H l0 (.lst xs)) f0 (.lst []) = H0
    have nlf : l0 ≠ f0 := fun z => by rw [← z, upd_same] at hf0; cases hf0
    have s0 : Same H H0 := by rw [← hH0]; exact same_new (same_new same_rfl hl0) hf0
    have hfH : H f0 = none := by rw [upd_ne nlf.symm] at hf0; exact hf0
    have npl : p ≠ l0 := fun z => pen.ne (z ▸ hl0)
    have npf : p ≠ f0 := fun z => pen.ne (z ▸ hfH)
    have ncl : c ≠ l0 := fun z => pen.nec (z ▸ hl0)
    have ncf : c ≠ f0 := fun z => pen.nec (z ▸ hfH)
    refine while_by (fun σ H' => ∃ L F, H' l0 = some (.lst L) ∧ H' f0 = some (.lst F) ∧ (F ++ L).Perm xs ∧ Kp [p] H H' ∧ PenAt H' p c (m + F.length) ∧ σ = [some (.ref p), some (.ref a), some (.ref l0), some (.ref f0)]) (fun _ H' => lenAt H' l0)
      ⟨xs, [], by rw [← hH0, upd_ne nlf]; exact upd_same, by rw [← hH0]; exact upd_same, .refl _, fun b o _ e => s0 _ _ e, (pen.up s0).le (by simp), rfl⟩ ?_ ?_
    · rintro σ H1 ⟨L, F, h1, h2, pm, kp, pn, rfl⟩
      have hlen : F.length + L.length = xs.length := by rw [← pm.length_eq, List.length_append]
      refine ⟨_, rfl, by decide, fun l hl => ⟨l0, l, L, rfl, rfl, SqL.of (by rw [upd_ne (ne_of_none h1 hl)]; exact h1), SqL.of upd_same, _, rfl, ?_⟩⟩
      have s1 : Same H1 (upd H1 l (.lst [])) := same_new same_rfl hl
      generalize hH2 : upd H1 l (.lst []) = H2 at s1
      have e1 := s1 _ _ h1
      have e2 := s1 _ _ h2
      have pn2 := pn.up s1
      cases L with
      | nil =>
        refine ⟨_, rfl, k H2 f0 F (by rw [List.append_nil] at pm; exact pm) (fun b o hb e => s1 _ _ (kp b o hb e)) hfH e2 (pn2.le ?_)⟩
        simp at hlen
        omega
      | cons y0 ys =>
        refine ⟨_, rfl, .inl ⟨rfl, _, SqL.of e2⟩, _, rfl, .inl ⟨rfl, _, SqL.of e1⟩, _, rfl, _, rfl, _, _, rfl, .inl ⟨_, SqL.of e1, rfl⟩, p, c, _, _, rfl, by rw [List.length_cons]; omega, by rw [List.length_cons] at hlen ⊢; omega, pn2, by omega, fun H3 i i0 i1 kp3 pn3 => ?_⟩
        obtain ⟨j, rfl⟩ := Int.eq_ofNat_of_zero_le i0
        have hj : j < (y0 :: ys).length := by omega
        have e13 := kp3 _ _ (by simpa using npl.symm) e1
        have e23 := kp3 _ _ (by simpa using npf.symm) e2
        refine ⟨l0, _, _, j, (y0 :: ys)[j], rfl, rfl, e13, by omega, by rw [List.length_cons] at hlen hj; omega, by rw [seqIndex_of i0 i1]; rfl, List.getElem?_eq_getElem hj, ?_⟩
        have e24 : (upd H3 l0 (.lst ((y0 :: ys).eraseIdx j))) f0 = some (.lst F) := by rw [upd_ne nlf.symm]; exact e23
        refine ⟨f0, F, _, rfl, rfl, e24, by rw [sizeLine_eq]; omega, ⟨(y0 :: ys).eraseIdx j, F ++ [(y0 :: ys)[j]], by rw [upd_ne nlf]; exact upd_same, upd_same, ?_, fun b o hb e => ?_, ?_, rfl⟩, ?_⟩
        · rw [List.append_assoc]
          exact (List.Perm.append_left F (erase_perm _ _ hj)).trans pm
        · have nb : b ≠ l0 ∧ b ≠ f0 := ⟨fun z => (by rw [z, hl0] at e; cases e), fun z => (by rw [z, hfH] at e; cases e)⟩
          rw [upd_ne nb.2, upd_ne nb.1]
          exact kp3 b o hb (s1 _ _ (kp b o hb e))
        · exact ((pn3.upd npl.symm ncl.symm).upd npf.symm ncf.symm).le (by simp; omega)
        · unfold lenAt
          rw [upd_ne nlf, upd_same, h1]
          show ((y0 :: ys).eraseIdx j).length < (y0 :: ys).length
          rw [List.length_eraseIdx, if_pos hj]
          omega
    · exact mono_neNil (fun σ H Q Q' h ⟨v, hv, q⟩ => ⟨v, hv, h _ _ q⟩) (fun σ H Q Q' h ⟨hle, q⟩ => ⟨hle, fun l hl => h _ _ (q l hl)⟩)
end
end N1
set_option maxHeartbeats 2000000
namespace N1
open PySem PySem.Spec PyProof.Rows L2
def NL : List Str := ["a", "b", "ab", "p", "q", "r", "s", "u", "v", "zz", "run", "stay", "day", "zzzzzzzz"]
def spNames (K : PySem.W.Frag) : Sp := fun vs H Q _ => ∃ (p c : Addr) (m n : Int), vs = [.ref p, .int n] ∧ PenAt H p c m ∧ m ≤ 900000 ∧ 1 ≤ n ∧ n ≤ 6 ∧ ∀ H' q (ys : List Str), (ys.length : Int) = n → ys.Nodup → (∀ y ∈ ys, y ∈ NL) → Kp [p] H H' → H q = none → H' q = some (.lst (ys.map V.str)) → PenAt H' p c (m + 14) → Q (.ref q) H'
def strOf : V → Str
  | .str x => x
  | _ => ""
theorem perm_strs {ys : List V} {L : List Str} (h : ys.Perm (L.map V.str)) : ∃ zs : List Str, ys = zs.map V.str ∧ zs.Perm L := by
  refine ⟨ys.map strOf, ?_, ?_⟩
  · rw [List.map_map]
    conv => lhs; rw [← List.map_id ys]
    refine List.map_congr_left fun y hy => ?_
    obtain ⟨x, _, e⟩ := List.mem_map.mp (h.mem_iff.mp hy)
    rw [← e]
    rfl
  · have := h.map strOf
    rw [List.map_map] at this
    have e : L.map (strOf ∘ V.str) = L := by
      conv => rhs; rw [← List.map_id L]
      rfl
    rw [e] at this
    exact this
section
variable {P : Program} {w : World} {K : PySem.W.Frag} {mg : Str → Option Value} {base : Heap}
theorem ok_names (T : FX P K mg) : FnR P w K mg base CX0 3 (ga K "_law_names") (spNames K) := by
  refine fnr T.f_w_names sc_names (fun _ _ _ _ _ _ us hl => match us, hl with | [_, _], _ => rfl) (fun vs H Q E h => ?_) (fun cdv A outer s H vs Q E hr h => ?_)
  · obtain ⟨p, c, m, n, rfl, _⟩ := h
    rfl
  · obtain ⟨p, c, m, n, rfl, pen, hm, h1, h6, k⟩ := h
    have nd := sc_names.nd
    refine ⟨_, pss_cons (ps_set (i := 2) nd rfl (Or.inl rfl) (pe_lst (pa_cons pe_str (pa_cons pe_str (pa_cons pe_str (pa_cons pe_str (pa_cons pe_str (pa_cons pe_str (pa_cons pe_str (pa_cons pe_str (pa_cons pe_str (pa_cons pe_str (pa_cons pe_str (pa_cons pe_str (pa_cons pe_str (pa_cons pe_str pa_nil))))))))))))))))
      (pss_cons (ps_if (pt_cmpR op_gt (pv 1) (cb "len" T call_len (pa_cons (pv 2) pa_nil)) (nomark _)) pss_never pss_nil)
      (pss_one (ps_ret (pe_slice sl_list (cl "_law_mixed" T (ok_mixed T) hr (pa_cons (pv 0) (pa_cons (pv 2) pa_nil))) po_none (po_some (pv 1)))))), ?_⟩
    refine ⟨by decide, fun l hl => ?_⟩
    have s1 : Same H (upd H l (.lst (NL.map V.str))) := same_new same_rfl hl
    refine ⟨_, rfl, _, rfl, _, (NL.map V.str).length, rfl, .inl ⟨NL.map V.str, SqL.of (upd_same (H := H) (a := l) (o := .lst (NL.map V.str))), rfl⟩, _, _, rfl, rfl, _, rfl, ?_⟩
    rw [show decide (((NL.map V.str).length : Int) < n) = false from by simp only [decide_eq_false_iff_not]; show ¬ (14 : Int) < n; omega]
    have npl : p ≠ l := fun z => pen.ne (z ▸ hl)
    refine ⟨_, rfl, _, rfl, p, c, l, m, NL.map V.str, rfl, pen.up s1, by show m + 14 ≤ 1000000; omega, npl.symm, upd_same, by show 14 ≤ 60; decide, fun H' q ys pm kp hq hq' pn => ?_⟩
    obtain ⟨zs, rfl, pz⟩ := perm_strs pm
    have lz : zs.length = 14 := pz.length_eq
    refine ⟨_, rfl, n, rfl, q, _, rfl, SqL.of hq', fun q2 hq2 => ?_⟩
    have ec : cutV (zs.map V.str) none (some n) = (zs.take n.toNat).map V.str := by
      unfold cutV HT.sIx
      rw [List.length_map, lz]
      dsimp only
      rw [if_neg (by omega)]
      show List.take (min n.toNat 14 - 0) (List.drop 0 (zs.map V.str)) = _
      rw [List.drop_zero, List.map_take, show min n.toNat 14 - 0 = n.toNat by omega]
    rw [ec]
    have nzs : NL.Nodup := by decide +kernel
    refine k _ q2 (zs.take n.toNat) ?_ ?_ ?_ ?_ ?_ upd_same ?_
    · rw [List.length_take, lz]; omega
    · exact ((pz.nodup_iff.mpr nzs)).sublist (List.take_sublist _ _)
    · exact fun y hy => pz.mem_iff.mp (List.mem_of_mem_take hy)
    · intro b o hb e
      have e2 := kp b o hb (s1 _ _ e)
      rw [upd_ne (ne_of_none e2 hq2)]
      exact e2
    · cases z : H q2 with
      | none => rfl
      | some o =>
        have hb : q2 ∉ [p] := fun y => pn.ne (by rw [← List.mem_singleton.mp y]; exact hq2)
        rw [kp _ _ hb (s1 _ _ z)] at hq2
        cases hq2
    · exact pn.upd (fun z => pn.ne (z ▸ hq2)) (fun z => pn.nec (z ▸ hq2))
end
end N1
set_option maxHeartbeats 2000000
/-! plain: rings -/
namespace N1
open PySem PySem.Spec PyProof.Rows L2
theorem len_filter_map (ts : List TR) (f : TR → Str) (p : Str) : (ts.filter fun t => decide (f t = p)).length = (ts.map f).count p := by
  induction ts with
  | nil => rfl
  | cons t ts ih =>
    rw [List.map_cons, List.count_cons, ← ih]
    by_cases e : f t = p
    · rw [List.filter_cons_of_pos (by simpa using e)]
      simp [e]
    · rw [List.filter_cons_of_neg (by simpa using e)]
      simp [e]
theorem bal_perm {ts : List TR} (h : (starts ts).Perm (goals ts)) : Bal ts := fun p => by
  rw [len_filter_map, len_filter_map]
  exact (h.count_eq p).symm
theorem perm_bal {ts : List TR} (h : Bal ts) : (starts ts).Perm (goals ts) := by
  refine List.perm_iff_count.mpr fun p => ?_
  have := h p
  rw [len_filter_map, len_filter_map] at this
  exact this.symm
/-- a ring's starts: the last one first -/
def rot (R : List Str) : List Str := match R.getLast? with
  | some x => x :: R.dropLast
  | none => []
theorem rot_perm (R : List Str) : (rot R).Perm R := by
  unfold rot
  cases h : R.getLast? with
  | none => rw [List.getLast?_eq_none_iff] at h; rw [h]
  | some x =>
    have e : R = R.dropLast ++ [x] := by
      have hne : R ≠ [] := fun z => by rw [z] at h; cases h
      have := List.dropLast_concat_getLast hne
      rw [List.getLast?_eq_some_getLast hne] at h
      rw [← Option.some.inj h]
      exact this.symm
    conv => rhs; rw [e]
    exact (List.perm_append_singleton x _).symm
theorem rot_at {R : List Str} {i : Nat} (h : i < R.length) : ∃ x, (rot R)[i]? = some x ∧ atI R ((i : Int) - 1) = some x := by
  have hne : R ≠ [] := fun z => by rw [z] at h; cases h
  have e := List.dropLast_concat_getLast hne
  have er : rot R = R.getLast hne :: R.dropLast := by
    unfold rot
    rw [List.getLast?_eq_some_getLast hne]
  rw [er]
  cases i with
  | zero =>
    refine ⟨_, rfl, ?_⟩
    have := atI_last R.dropLast (R.getLast hne)
    rw [e] at this
    exact this
  | succ j =>
    have hj : j < R.dropLast.length := by rw [List.length_dropLast]; omega
    refine ⟨R.dropLast[j], by rw [List.getElem?_cons_succ, List.getElem?_eq_getElem hj], ?_⟩
    have e1 : ((j + 1 : Nat) : Int) - 1 = (j : Nat) := by omega
    rw [e1]
    refine atI_nat ?_
    rw [List.getElem_dropLast]
    exact List.getElem?_eq_getElem _
end N1
/-! small steps of readings -/
namespace N1
open PySem PySem.Spec PyProof.Rows L2
/-- what a part leaves, told once -/
theorem by_post {α : Type} {t : (α → Hp → Prop) → Prop} {Q : α → Hp → Prop} (R : α → Hp → Prop) (h : ∀ Q', (∀ x H', R x H' → Q' x H') → t Q') (k : ∀ x H', R x H' → Q x H') : t Q := h Q k
theorem atI_map {α β : Type} {f : α → β} {R : List α} {i : Int} {x : α} (h : atI R i = some x) : atI (R.map f) i = some (f x) := by
  unfold atI at *
  rw [List.length_map]
  cases e : ixN R.length i with
  | none => rw [e] at h; cases h
  | some j =>
    rw [e] at h
    have h : R[j]? = some x := h
    show (R.map f)[j]? = _
    rw [List.getElem?_map, h]
    rfl
theorem asg_by {te : TE} {g : TG} {D : Ends} {σ : L2.St} {H : Hp} (h : te σ H fun v H1 => g v σ H1 D.nx) : tAsg te g D σ H := h
theorem nm_by {i : Nat} {v : V} {σ : L2.St} {H : Hp} {Q : L2.St → Hp → Prop} (h : Q (σ.set i (some v)) H) : gName i v σ H Q := h
theorem seq_by {t u : TS} {D : Ends} {σ : L2.St} {H : Hp} (h : t { D with nx := u D } σ H) : tSeq t u D σ H := h
theorem nm_seq {i : Nat} {v : V} {σ : L2.St} {H : Hp} {t u : TS} {D : Ends} {rt : VK} {bk ct : L2.St → Hp → Prop} (h : t { D with nx := u D } (σ.set i (some v)) H) : gName i v σ H (Ends.nx { nx := tSeq t u D, rt := rt, bk := bk, ct := ct }) := h
theorem if_by {tt : TT} {a b : V} {σ : L2.St} {H : Hp} {Q : VK} (h : tt σ H fun c H1 => Q (if c = true then a else b) H1) : tIf tt (tC a) (tC b) σ H Q := by
  have e : (fun (c : Bool) (H1 : Hp) => if c = true then tC a σ H1 Q else tC b σ H1 Q) = fun c H1 => Q (if c = true then a else b) H1 := by
    funext c H1
    cases c <;> rfl
  show tt σ H _
  rw [e]
  exact h
theorem kp_tr {M : List Addr} {H H1 H2 : Hp} (a : Kp M H H1) (b : Kp M H1 H2) : Kp M H H2 := fun x o hx e => b x o hx (a x o hx e)
theorem kp_same {M : List Addr} {H H1 : Hp} (s : Same H H1) : Kp M H H1 := fun x o _ e => s x o e
/-- a new thing that changes is none of what stood -/
theorem kp_drop {p D : Addr} {H H1 : Hp} (k : Kp [p, D] H H1) (h : H D = none) : Kp [p] H H1 := fun x o hx e => k x o (by
  rw [List.mem_cons, not_or]
  refine ⟨by simpa using hx, fun z => ?_⟩
  rw [List.mem_singleton.mp z, h] at e
  cases e) e
theorem kp_more {p D : Addr} {H H1 : Hp} (k : Kp [p] H H1) : Kp [p, D] H H1 := fun x o hx e => k x o (by simp at hx ⊢; exact hx.1) e
theorem kp_wr {M : List Addr} {D : Addr} {H H1 : Hp} {o : HO} (k : Kp M H H1) (h : D ∈ M) : Kp M H (upd H1 D o) := fun x u hx e => by
  have nx : x ≠ D := fun z => hx (by rw [z]; exact h)
  rw [upd_ne nx]
  exact k x u hx e
theorem kp_mem {p : Addr} {H H1 : Hp} {a : Addr} {o : HO} (k : Kp [p] H H1) (h : H a = some o) (n : a ≠ p) : H1 a = some o := k a o (by simpa using n) h
theorem PenAt.nl {H : Hp} {p c : Addr} {m : Int} (h : PenAt H p c m) {a : Addr} {o : HO} (ha : H a = some o) (hl : ∀ xs, o ≠ .lst xs) : a ≠ p ∧ a ≠ c := by
  obtain ⟨l, g, ns, h1, h2, _⟩ := h
  constructor
  · intro z; rw [z, h1] at ha; exact hl _ (Option.some.inj ha).symm
  · intro z; rw [z, h2] at ha; exact hl _ (Option.some.inj ha).symm
/-- a place that was free is not the pen's -/
theorem PenAt.nn {H : Hp} {p c : Addr} {m : Int} (h : PenAt H p c m) {a : Addr} (ha : H a = none) : a ≠ p ∧ a ≠ c := ⟨fun z => h.ne (z ▸ ha), fun z => h.nec (z ▸ ha)⟩
theorem kp_none {p c : Addr} {m : Int} {H H1 : Hp} {a : Addr} (k : Kp [p] H H1) (pn : PenAt H1 p c m) (h : H1 a = none) : H a = none := by
  cases z : H a with
  | none => rfl
  | some o =>
    have := kp_mem k z (fun y => pn.ne (y ▸ h))
    rw [h] at this
    cases this
end N1
set_option maxHeartbeats 2000000
/-! the law's rows -/
namespace N1
open PySem PySem.Spec PyProof.Rows L2
def rowV (t : TR) : List V := [.str (if t.run then "run" else "stay"), .str t.start, .int t.leaves, .int t.takes, .str t.goal]
/-- rows by names: tuples at qs -/
structure RowsAt (H : Hp) (r : Addr) (ts : List TR) (qs : List Addr) : Prop where
  d : H r = some (.dK (byN ts qs))
  l : qs.length = ts.length
  t : ∀ (i : Nat) (q : Addr) (t : TR), qs[i]? = some q → ts[i]? = some t → H q = some (.tup (rowV t))
theorem RowsAt.up {H H' : Hp} {r : Addr} {ts : List TR} {qs : List Addr} (s : Same H H') (h : RowsAt H r ts qs) : RowsAt H' r ts qs := ⟨s _ _ h.d, h.l, fun i q t a b => s _ _ (h.t i q t a b)⟩
theorem RowsAt.kp {H H' : Hp} {r p c : Addr} {m : Int} {ts : List TR} {qs : List Addr} (k : Kp [p] H H') (pn : PenAt H p c m) (h : RowsAt H r ts qs) : RowsAt H' r ts qs := by
  obtain ⟨l, g, ns, h1, _⟩ := pn
  exact ⟨k _ _ (fun z => by
    have := h.d
    rw [List.mem_singleton.mp z, h1] at this
    cases this) h.d, h.l, fun i q t a b => k _ _ (fun z => by
    have := h.t i q t a b
    rw [List.mem_singleton.mp z, h1] at this
    cases this) (h.t i q t a b)⟩
def PLL : List (List Str) := [["a", "b", "c"], ["home", "yard", "z", "p"], ["x"], ["abcdefgh", "b"]]
structure RwOk (n : Int) (PL : List Str) (t : TR) : Prop where
  nm : t.name ∈ NL
  l0 : 0 ≤ t.leaves
  l1 : t.leaves < n
  t0 : 1 ≤ t.takes
  t1 : t.takes ≤ 1000000000000
  s : t.start ∈ PL
  g : t.goal ∈ PL
  st : t.run = false → t.start = t.goal
/-- while rows are drawn -/
structure RI (H0 : Hp) (p c f nl pl : Addr) (ys PL : List Str) (H : Hp) (ts : List TR) (qs : List Addr) (mm : Int) : Prop where
  kp : Kp [p] H0 H
  pn : PenAt H p c mm
  rows : RowsAt H f ts qs
  hn : H nl = some (.lst (ys.map V.str))
  hp : H pl = some (.lst (PL.map V.str))
  n1 : nl ≠ p
  n2 : pl ≠ p
  f0 : H0 f = none
  q0 : ∀ q ∈ qs, H0 q = none
theorem RI.step {H0 H H' : Hp} {p c f nl pl : Addr} {ys PL : List Str} {ts : List TR} {qs : List Addr} {mm mm' : Int} (h : RI H0 p c f nl pl ys PL H ts qs mm) (k : Kp [p] H H') (pn : PenAt H' p c mm') : RI H0 p c f nl pl ys PL H' ts qs mm' :=
  ⟨fun b o hb e => k b o hb (h.kp b o hb e), pn, h.rows.kp k h.pn, k _ _ (by simpa using h.n1) h.hn, k _ _ (by simpa using h.n2) h.hp, h.n1, h.n2, h.f0, h.q0⟩
theorem RI.same {H0 H H' : Hp} {p c f nl pl : Addr} {ys PL : List Str} {ts : List TR} {qs : List Addr} {mm : Int} (h : RI H0 p c f nl pl ys PL H ts qs mm) (s : Same H H') : RI H0 p c f nl pl ys PL H' ts qs mm :=
  h.step (fun b o _ e => s _ _ e) (h.pn.up s)
theorem RI.put {H0 H : Hp} {p c f nl pl q : Addr} {ys PL : List Str} {ts : List TR} {qs : List Addr} {mm : Int} {t : TR} (h : RI H0 p c f nl pl ys PL H ts qs mm) (hq : H q = none) :
    RI H0 p c f nl pl ys PL (upd (upd H q (.tup (rowV t))) f (.dK (byN (ts ++ [t]) (qs ++ [q])))) (ts ++ [t]) (qs ++ [q]) mm := by
  obtain ⟨kp, pn, rows, hn, hp, n1, n2, f0, q0⟩ := h
  have fp := pn.nl rows.d (fun xs z => by cases z)
  have qp := pn.nn hq
  have fq : f ≠ q := ne_of_none rows.d hq
  have fn : nl ≠ f := fun z => by rw [z, rows.d] at hn; cases hn
  have fl : pl ≠ f := fun z => by rw [z, rows.d] at hp; cases hp
  have nq : nl ≠ q := ne_of_none hn hq
  have lq : pl ≠ q := ne_of_none hp hq
  have ll := rows.l
  refine ⟨fun a o ha e => ?_, (pn.upd qp.1 qp.2).upd fp.1 fp.2, ⟨upd_same, by simp [ll], fun i a u h1 h2 => ?_⟩, by rw [upd_ne fn, upd_ne nq]; exact hn, by rw [upd_ne fl, upd_ne lq]; exact hp, n1, n2, f0, fun a ha => ?_⟩
  · have af : a ≠ f := fun z => by rw [z, f0] at e; cases e
    have e2 := kp a o ha e
    rw [upd_ne af, upd_ne (ne_of_none e2 hq)]
    exact e2
  · have key : H a = some (.tup (rowV u)) ∨ (a = q ∧ u = t) := by
      by_cases hi : i < ts.length
      · rw [List.getElem?_append_left (by omega)] at h1
        rw [List.getElem?_append_left hi] at h2
        exact .inl (rows.t i a u h1 h2)
      · rw [List.getElem?_append_right (by omega)] at h1
        rw [List.getElem?_append_right (by omega)] at h2
        have e0 : i - ts.length = 0 := by
          have := (List.getElem?_eq_some_iff.mp h2).1
          simp at this
          omega
        rw [e0] at h2
        rw [show i - qs.length = 0 by omega] at h1
        exact .inr ⟨(Option.some.inj h1).symm, (Option.some.inj h2).symm⟩
    rcases key with e | ⟨e1, e2⟩
    · have af : a ≠ f := fun z => by rw [z, rows.d] at e; cases e
      rw [upd_ne af, upd_ne (ne_of_none e hq)]
      exact e
    · rw [e1, e2, upd_ne (Ne.symm fq), upd_same]
  · rcases List.mem_append.mp ha with z | z
    · exact q0 a z
    · rw [List.mem_singleton.mp z]
      exact kp_none kp pn hq
end N1
set_option maxHeartbeats 4000000
namespace N1
open PySem PySem.Spec PyProof.Rows L2
def lenD (H : Hp) (d : Addr) : Nat := match H d with
  | some (.dK kvs) => kvs.length
  | _ => 0
theorem PLL_len {PL : List Str} (h : PL ∈ PLL) : 1 ≤ PL.length ∧ PL.length ≤ 1000 := by
  unfold PLL at h
  simp only [List.mem_cons, List.not_mem_nil, or_false] at h
  rcases h with h | h | h | h <;> subst h <;> exact ⟨by decide, by decide⟩
theorem mono_lenlt {te tf : TE} (h1 : ∀ σ H Q Q', (∀ x H', Q x H' → Q' x H') → te σ H Q → te σ H Q') (h2 : ∀ σ H Q Q', (∀ x H', Q x H' → Q' x H') → tf σ H Q → tf σ H Q') :
    ∀ σ H (Q Q' : Bool → Hp → Prop), (∀ b H1, Q b H1 → Q' b H1) → tTest (tOp (rI0 fun i j => .bl (decide (i < j))) te tf) σ H Q → tTest (tOp (rI0 fun i j => .bl (decide (i < j))) te tf) σ H Q' := fun σ H Q Q' h c =>
  h1 σ H _ _ (fun x H1 c1 => h2 σ H1 _ _ (fun y H2 ⟨i, j, e1, e2, k, e3, q⟩ => ⟨i, j, e1, e2, k, e3, h _ _ q⟩) c1) c
structure RowsOk (n : Int) (PL : List Str) (ts : List TR) : Prop where
  nd : (names ts).Nodup
  ok : ∀ t ∈ ts, RwOk n PL t
  bal : (starts ts).Perm (goals ts)
def spRows (K : PySem.W.Frag) : Sp := fun vs H Q _ => ∃ (p c : Addr) (m n j : Int), vs = [.ref p, .int n, .int j] ∧ PenAt H p c m ∧ m ≤ 800000 ∧ 1 ≤ n ∧ n ≤ 300000000 ∧ 1 ≤ j ∧ j ≤ 6 ∧
  ∀ H' r ts qs PL, PL ∈ PLL → Kp [p] H H' → H r = none → RowsAt H' r ts qs → (∀ q ∈ qs, H q = none) → ((ts.length : Nat) : Int) = j → RowsOk n PL ts → PenAt H' p c (m + 100) → Q (.ref r) H'
section
variable {P : Program} {w : World} {K : PySem.W.Frag} {mg : Str → Option Value} {base : Heap}
theorem ok_rows (T : FX P K mg) : FnR P w K mg base CX0 4 (ga K "_law_rows") (spRows K) := by
  refine fnr T.f_w_rows sc_rows (fun _ _ _ _ _ _ us hl => match us, hl with | [_, _, _], _ => rfl) (fun vs H Q E h => ?_) (fun cdv A outer s H vs Q E hr h => ?_)
  · obtain ⟨p, c, m, n, j, rfl, _⟩ := h
    rfl
  · obtain ⟨p, c, m, n, j, rfl, pen, hm, hn1, hn2, hj1, hj2, k⟩ := h
    have nd := sc_rows.nd
    have hu := hu_of hr
    have hr2 : Room 2 _ := hr.mono (by decide)
    refine ⟨_, (pss_cons (ps_par (i := 3) (j := 4) rfl nd rfl rfl (by decide) rfl rfl (pa_cons (cl "_law_names" T (ok_names T) (hr.mono (by decide)) (pa_cons (pv 0) (pa_cons (pv 2) pa_nil))) (pa_cons pe_dnewK pa_nil)) rfl) (pss_cons (ps_set (i := 5) nd rfl (Or.inr rfl) (cl "_law_pick" T (ok_pick T) (hr.mono (by decide)) (pa_cons (pv 0) (pa_cons (pe_lst (pa_cons (pe_lst (pa_cons pe_str (pa_cons pe_str (pa_cons pe_str pa_nil)))) (pa_cons (pe_lst (pa_cons pe_str (pa_cons pe_str (pa_cons pe_str (pa_cons pe_str pa_nil))))) (pa_cons (pe_lst (pa_cons pe_str pa_nil)) (pa_cons (pe_lst (pa_cons pe_str (pa_cons pe_str pa_nil))) pa_nil))))) pa_nil)))) (pss_cons (ps_while PassesOwn.never (pt_cmpR op_lt (cb "len" T call_lenD (pa_cons (pv 4) pa_nil)) (pv 2) (nomark _)) (pss_cons (ps_setLc (i := 7) (own := [("_law_k", 6)]) (g := gName 6) (tt := tYes) (te := tCallR (spPick K) E0 (tCons (tVar 0) (tCons (tVar 5) tNil))) rfl nd rfl rfl (sw_true rfl rfl rfl (by decide +kernel)) (pi_range1 (by rfl) (T.fre "range" (by decide +kernel)) (pa_cons (cb "min" T (call_min2 rfl) (pa_cons (ct "int" T call_int1 (pa_cons (pe_op op_add pe_int (cl "_law_draw" T (ok_draw T) (hr.mono (by decide)) (pa_cons (pv 0) (pa_cons pe_int pa_nil)))) pa_nil)) (pa_cons (pe_op op_sub (pv 2) (cb "len" T call_lenD (pa_cons (pv 4) pa_nil))) pa_nil))) pa_nil)) (blkOk_by (N := ["_law_pen_here", "_law_length", "_law_many", "_law_names_here", "_law_found", "_law_places_here", "_law_k", "_law_ring", "_law_kind", "_law_takes", "_law_leaves"]) (sc := defScope w_rows) (by decide +kernel))
        (fun _ _ _ _ _ => pg_name (i := 6) nd rfl (Or.inl rfl)) (fun _ _ _ _ _ => pts_nil) (fun _ _ _ _ _ => (cl "_law_pick" T (ok_pick T) hr2 (pa_cons (pv 0) (pa_cons (pv 5) pa_nil))))) (pss_one (ps_for PassesOwn.never rfl (pi_range1 (by rfl) (T.fre "range" (by decide +kernel)) (pa_cons (cb "len" T call_len (pa_cons (pv 7) pa_nil)) pa_nil)) (pg_name (i := 6) nd rfl (Or.inl rfl)) (pss_cons (ps_set (i := 8) nd rfl (Or.inl rfl) (pe_ifExp (pw_and (pt_cmpR op_eq (pe_ix ix_list (pv 7) (pe_op op_sub (pv 6) pe_int) (fun _ _ => rfl)) (pe_ix ix_list (pv 7) (pv 6) (fun _ _ => rfl)) (nomark _)) (pw_and1 (pt_cmpR op_eq (cl "_law_draw" T (ok_draw T) (hr.mono (by decide)) (pa_cons (pv 0) (pa_cons pe_int pa_nil))) pe_int (nomark _)))).pt pe_str pe_str)) (pss_cons (ps_set (i := 9) nd rfl (Or.inl rfl) (cl "_law_pick" T (ok_pick T) (hr.mono (by decide)) (pa_cons (pv 0) (pa_cons (pe_lst (pa_cons pe_int (pa_cons pe_int (pa_cons (pe_op op_add pe_int (cl "_law_draw" T (ok_draw T) (hr.mono (by decide)) (pa_cons (pv 0) (pa_cons (pv 1) pa_nil)))) (pa_cons (pv 1) (pa_cons (pe_op op_add pe_int (cl "_law_draw" T (ok_draw T) (hr.mono (by decide)) (pa_cons (pv 0) (pa_cons (pe_op op_mul pe_int (pv 1)) pa_nil)))) pa_nil)))))) pa_nil)))) (pss_cons (ps_set (i := 10) nd rfl (Or.inl rfl) (cl "_law_pick" T (ok_pick T) (hr.mono (by decide)) (pa_cons (pv 0) (pa_cons (pe_lst (pa_cons pe_int (pa_cons (cl "_law_draw" T (ok_draw T) (hr.mono (by decide)) (pa_cons (pv 0) (pa_cons (pv 1) pa_nil))) (pa_cons (cl "_law_draw" T (ok_draw T) (hr.mono (by decide)) (pa_cons (pv 0) (pa_cons (pv 1) pa_nil))) pa_nil)))) pa_nil)))) (pss_one (ps_dput hu (pv 4) (pe_ix ix_list (pv 3) (cb "len" T call_lenD (pa_cons (pv 4) pa_nil)) (fun _ _ => rfl)) (pe_tup (pa_cons (pv 8) (pa_cons (pe_ix ix_list (pv 7) (pe_op op_sub (pv 6) pe_int) (fun _ _ => rfl)) (pa_cons (pv 10) (pa_cons (cb "min" T (call_min2 rfl) (pa_cons (ct "int" T call_int1 (pa_cons (pv 9) pa_nil)) (pa_cons (pe_op op_pow pe_int pe_int) pa_nil))) (pa_cons (pe_ix ix_list (pv 7) (pv 6) (fun _ _ => rfl)) pa_nil)))))) rfl))))))))) (pss_one (ps_ret (pv 4)))))), ?_⟩
    refine ⟨_, rfl, _, rfl, p, c, m, j, rfl, pen, by omega, hj1, hj2, fun H1 nl ys hyl hynd hysub kp1 hnl hys pn1 f hf => ⟨_, _, rfl, ?_⟩⟩
    have pn1' := pn1.up (same_new (o := .dK []) same_rfl hf)
    refine ⟨_, rfl, by decide, fun l1 hl1 => ⟨by decide, fun l2 hl2 => ⟨by decide, fun l3 hl3 => ⟨by decide, fun l4 hl4 => ⟨(show (4 : Nat) ≤ sizeLine by decide), fun l5 hl5 => ?_⟩⟩⟩⟩⟩
    have t0 : Same H1 (upd H1 f (.dK [])) := same_new same_rfl hf
    have t1 := same_new (o := .lst ([V.str "a", .str "b", .str "c"])) (same_rfl (H := upd H1 f (.dK []))) hl1
    have t2 := same_new (o := .lst ([V.str "home", .str "yard", .str "z", .str "p"])) same_rfl hl2
    have t3 := same_new (o := .lst ([V.str "x"])) same_rfl hl3
    have t4 := same_new (o := .lst ([V.str "abcdefgh", .str "b"])) same_rfl hl4
    have t5 := same_new (o := .lst ([V.ref l1, .ref l2, .ref l3, .ref l4])) same_rfl hl5
    have u2 := same_tr t2 (same_tr t3 (same_tr t4 t5))
    have u1 := same_tr t1 u2
    have u0 := same_tr t0 u1
    have pn5 := pn1.up u0
    have npl5 : l5 ≠ p := fun z => (pn1.up (same_tr t0 (same_tr t1 (same_tr t2 (same_tr t3 t4))))).ne (z ▸ hl5)
    refine ⟨p, c, l5, m + 14, _, rfl, pn5, by omega, npl5, upd_same, (show (1 : Nat) ≤ 4 by decide), (show (4 : Nat) ≤ 1000 by decide), fun H2 x hx kp2 pn2 => ?_⟩
    obtain ⟨pl, PL, rfl, hPL, hpl, npl⟩ : ∃ (pl : Addr) (PL : List Str), x = .ref pl ∧ PL ∈ PLL ∧ H2 pl = some (.lst (PL.map V.str)) ∧ pl ≠ p := by
      have ne : ∀ {l : Addr} {G : Hp}, Same H1 G → G l = none → l ≠ p := fun s e z => (pn1.up s).ne (z ▸ e)
      rcases List.mem_cons.mp hx with e | hx
      · have y := ne t0 hl1
        exact ⟨l1, _, e, by unfold PLL; exact List.mem_cons_self, kp2 _ _ (by simpa using y) (u2 _ _ upd_same), y⟩
      rcases List.mem_cons.mp hx with e | hx
      · have y := ne (same_tr t0 t1) hl2
        exact ⟨l2, _, e, by unfold PLL; exact List.mem_cons_of_mem _ List.mem_cons_self, kp2 _ _ (by simpa using y) ((same_tr t3 (same_tr t4 t5)) _ _ upd_same), y⟩
      rcases List.mem_cons.mp hx with e | hx
      · have y := ne (same_tr t0 (same_tr t1 t2)) hl3
        exact ⟨l3, _, e, by unfold PLL; exact List.mem_cons_of_mem _ (List.mem_cons_of_mem _ List.mem_cons_self), kp2 _ _ (by simpa using y) ((same_tr t4 t5) _ _ upd_same), y⟩
      rcases List.mem_cons.mp hx with e | hx
      · have y := ne (same_tr t0 (same_tr t1 (same_tr t2 t3))) hl4
        exact ⟨l4, _, e, by unfold PLL; exact List.mem_cons_of_mem _ (List.mem_cons_of_mem _ (List.mem_cons_of_mem _ List.mem_cons_self)), kp2 _ _ (by simpa using y) (t5 _ _ upd_same), y⟩
      · cases hx
    have nfp : f ≠ p := fun z => pn1.ne (z ▸ hf)
    have nnp : nl ≠ p := fun z => pen.ne (z ▸ hnl)
    have hfH : H f = none := by
      cases z : H f with
      | none => rfl
      | some o => rw [kp1 _ _ (by simpa using nfp) z] at hf; cases hf
    have ri : RI H p c f nl pl ys PL H2 [] [] (m + 15) := by
      refine ⟨fun b o hb e => kp2 b o hb (u0 _ _ (kp1 b o hb e)), pn2.le (by omega), ⟨?_, rfl, fun i q t h => by simp at h⟩, kp2 _ _ (by simpa using nnp) (u0 _ _ hys), hpl, nnp, npl, hfH, fun q h => by cases h⟩
      exact kp2 _ _ (by simpa using nfp) (u1 _ _ upd_same)
    have npos : 0 < n := by omega
    refine while_by (fun σ H' => ∃ ts qs, RI H p c f nl pl ys PL H' ts qs (m + 15 + 10 * ts.length) ∧ names ts = ys.take ts.length ∧ ((ts.length : Nat) : Int) ≤ j ∧ (∀ t ∈ ts, RwOk n PL t) ∧ (starts ts).Perm (goals ts) ∧ ∃ v6 v7 v8 v9 v10, σ = [some (.ref p), some (.int n), some (.int j), some (.ref nl), some (.ref f), some (.ref pl), v6, v7, v8, v9, v10]) (fun _ H' => (j - (lenD H' f : Int)).toNat)
      ⟨[], [], ⟨ri.kp, ri.pn.le (by simp), ri.rows, ri.hn, ri.hp, ri.n1, ri.n2, ri.f0, ri.q0⟩, rfl, by simp; omega, fun t h => by (cases h), .refl _, _, _, _, _, _, rfl⟩ ?_ ?_
    · rintro σ H3 ⟨ts, qs, ri, hnm, hlt, hok, hbal, v6, v7, v8, v9, v10, rfl⟩
      have lby := byN_len (ts := ts) (qs := qs) ri.rows.l.symm
      refine ⟨_, rfl, f, _, rfl, ri.rows.d, _, rfl, _, _, rfl, rfl, _, rfl, ?_⟩
      rw [lby]
      cases hd : decide (((ts.length : Nat) : Int) < j) with
      | false =>
        have : ((ts.length : Nat) : Int) = j := by
          have := of_decide_eq_false hd
          omega
        refine ⟨_, rfl, k _ f ts qs PL hPL ri.kp hfH ri.rows ri.q0 this ⟨?_, hok, hbal⟩ (ri.pn.le (by omega))⟩
        rw [hnm]
        exact hynd.sublist (List.take_sublist _ _)
      | true =>
        have hlj := of_decide_eq_true hd
        have hPL := PLL_len hPL
        have ll := ri.rows.l
        refine ⟨_, rfl, p, c, _, _, rfl, by decide, by decide, ri.pn, by omega, fun H4 d d0 d1 kp4 pn4 => ?_⟩
        have ri4 := ri.step kp4 pn4
        refine ⟨_, _, rfl, rfl, .inl ⟨_, rfl, _, rfl, _, rfl, f, _, rfl, ri4.rows.d, _, _, rfl, rfl, _, _, rfl, _, rfl, ?_⟩⟩
        rw [lby]
        obtain ⟨r, hr, hr1, hr4, hrj⟩ : ∃ r : Nat, (if j - ((ts.length : Nat) : Int) < 1 + d then j - ((ts.length : Nat) : Int) else 1 + d) = (r : Int) ∧ 1 ≤ r ∧ r ≤ 4 ∧ ((ts.length + r : Nat) : Int) ≤ j := by
          split
          · exact ⟨(j - ((ts.length : Nat) : Int)).toNat, by omega, by omega, by omega, by omega⟩
          · exact ⟨(1 + d).toNat, by omega, by omega, by omega, by omega⟩
        rw [hr]
        refine ⟨by omega, by omega, fun D hD => ?_⟩
        have nD := pn4.nn hD
        refine lc_it walk_range (fun i H' => ∃ R : List Str, R.length = i ∧ (∀ x ∈ R, x ∈ PL) ∧ Kp [p, D] H4 H' ∧ PenAt H' p c (m + 15 + 10 * ts.length + 1 + i) ∧ H' D = some (.lst (R.map V.str)))
          ⟨[], rfl, fun _ h => (by cases h), kp_wr kp_rfl (by simp), (pn4.upd nD.1 nD.2).le (by simp), upd_same⟩ (fun _ _ _ _ => trivial) ?_ ?_
        · rintro i x Ha Hb hi ⟨R, lR, hR, kpR, pnR, hDR⟩ ⟨rfl, rfl⟩
          refine ⟨rfl, ?_⟩
          refine ⟨_, rfl, _, rfl, p, c, pl, _, _, rfl, pnR, by omega, npl, kp_mem (kp_drop kpR hD) ri4.hp npl, by simpa using hPL.1, by simpa using hPL.2, fun H5 y hy kp5 pn5 => ?_⟩
          obtain ⟨s, hs, rfl⟩ := List.mem_map.mp hy
          refine ⟨R.map V.str, kp_mem kp5 hDR nD.1, by rw [sizeLine_eq, List.length_map]; omega, R ++ [s], by simp [lR], fun x hx => ?_, kp_wr (kp_tr kpR (kp_more kp5)) (by simp), (pn5.upd nD.1 nD.2).le (by omega), by rw [upd_same, List.map_append]; rfl⟩
          rcases List.mem_append.mp hx with z | z
          · exact hR x z
          · rw [List.mem_singleton.mp z]; exact hs
        · rintro H5 ⟨R, lR, hR, kpR, pnR, hDR⟩
          have lR : R.length = r := by rw [lR]; omega
          have ri5 := ri4.step (kp_drop kpR hD) pnR
          refine ⟨_, rfl, _, _, rfl, .inl ⟨_, SqL.of hDR, rfl⟩, _, rfl, by rw [List.length_map]; omega, by rw [List.length_map]; omega, ?_⟩
          rw [show ((((R.map V.str).length : Nat) : Int)).toNat = r by rw [List.length_map]; omega]
          refine for_range (fun i σ H' => ∃ us rs, us.length = i ∧ RI H p c f nl pl ys PL H' (ts ++ us) (qs ++ rs) (m + 15 + 10 * ts.length + 1 + r + 7 * i) ∧ names (ts ++ us) = ys.take (ts.length + i) ∧ (∀ t ∈ us, RwOk n PL t) ∧ starts us = (rot R).take i ∧ goals us = R.take i ∧ H' D = some (.lst (R.map V.str)) ∧ ∃ v6 v8 v9 v10, σ = [some (.ref p), some (.int n), some (.int j), some (.ref nl), some (.ref f), some (.ref pl), v6, some (.ref D), v8, v9, v10])
            ⟨[], [], rfl, ?_, ?_, fun _ h => (by cases h), rfl, rfl, hDR, _, _, _, _, rfl⟩ ?_ ?_
          · rw [List.append_nil, List.append_nil]
            refine ⟨ri5.kp, ri5.pn.le ?_, ri5.rows, ri5.hn, ri5.hp, ri5.n1, ri5.n2, ri5.f0, ri5.q0⟩
            omega
          · rw [List.append_nil]; exact hnm
          · rintro i σ H6 hi ⟨us, rs, lus, ri6, nm6, ok6, st6, go6, hD6, v6, v8, v9, v10, rfl⟩
            have hir : i < R.length := by omega
            obtain ⟨xa, hxa, hat⟩ := rot_at hir
            obtain ⟨xb, hxb⟩ : ∃ xb, R[i]? = some xb := ⟨_, List.getElem?_eq_getElem hir⟩
            have atA : atI (R.map V.str) (0 + (i : Int) - 1) = some (.str xa) := by
              rw [show (0 : Int) + (i : Int) - 1 = (i : Int) - 1 by omega]
              exact atI_map hat
            have atB : atI (R.map V.str) (0 + (i : Int)) = some (.str xb) := by
              rw [Int.zero_add]
              exact atI_nat (by rw [List.getElem?_map, hxb]; rfl)
            have pn6 := ri6.pn
            have nD6 := nD
            refine asg_by (if_by (by_post (fun b H7 => Kp [p] H6 H7 ∧ PenAt H7 p c (m + 15 + 10 * ts.length + 1 + r + 7 * i + 1) ∧ (b = true → xa = xb)) (fun Q' k' => ?_) ?_))
            · refine ⟨_, rfl, _, rfl, _, _, rfl, rfl, D, _, _, _, rfl, rfl, SqL.of hD6, atA, _, rfl, _, rfl, D, _, _, _, rfl, rfl, SqL.of hD6, atB, rfl, _, rfl, ?_⟩
              cases hq : decide (V.str xa = V.str xb) with
              | false => exact k' false H6 ⟨kp_rfl, pn6.le (by omega), fun z => by cases z⟩
              | true =>
                refine ⟨_, rfl, p, c, _, 2, rfl, by decide, by decide, pn6, by omega, fun H7 e e0 e1 kp7 pn7 => ⟨rfl, _, rfl, k' _ _ ⟨kp7, pn7, fun _ => ?_⟩⟩⟩
                have := of_decide_eq_true hq
                exact V.str.inj this
            · rintro b H7 ⟨kp7, pn7, hb⟩
              refine nm_seq (asg_by (by_post (fun x H8 => ∃ tk : Int, x = .int tk ∧ 1 ≤ tk ∧ tk ≤ 3 * n ∧ Kp [p] H7 H8 ∧ PenAt H8 p c (m + 15 + 10 * ts.length + 1 + r + 7 * i + 4)) (fun Q' k' => ?_) ?_))
              · refine ⟨_, rfl, _, rfl, _, rfl, p, c, _, n, rfl, hn1, by omega, pn7, by omega, fun H8 e e0 e1 kp8 pn8 => ⟨_, _, rfl, rfl, _, rfl, _, rfl, _, rfl, _, _, rfl, rfl, .inl ⟨by decide, by decide⟩, p, c, _, _, rfl, by omega, by omega, pn8, by omega, fun H9 e' e0' e1' kp9 pn9 => ⟨_, _, rfl, rfl, (show (5 : Nat) ≤ sizeLine by decide), fun l hl => ⟨p, c, l, _, _, rfl, pn9.up (same_new same_rfl hl), by omega, (pn9.nn hl).1, upd_same, (show (1 : Nat) ≤ 5 by decide), (show (5 : Nat) ≤ 1000 by decide), fun H10 x hx kp10 pn10 => k' x H10 ?_⟩⟩⟩⟩
                have kk := kp_tr kp8 (kp_tr kp9 (kp_tr (kp_same (same_new same_rfl hl)) kp10))
                have pp := pn10.le (m' := m + 15 + 10 * ts.length + 1 + r + 7 * i + 4) (by omega)
                simp only [List.mem_cons, List.not_mem_nil, or_false] at hx
                rcases hx with hx | hx | hx | hx | hx <;> exact ⟨_, hx, by omega, by omega, kk, pp⟩
              · rintro _ H8 ⟨tk, rfl, tk0, tk1, kp8, pn8⟩
                refine nm_seq (asg_by (by_post (fun x H9 => ∃ lv : Int, x = .int lv ∧ 0 ≤ lv ∧ lv < n ∧ Kp [p] H8 H9 ∧ PenAt H9 p c (m + 15 + 10 * ts.length + 1 + r + 7 * i + 7)) (fun Q' k' => ?_) ?_))
                · refine ⟨_, rfl, _, rfl, _, rfl, p, c, _, n, rfl, hn1, by omega, pn8, by omega, fun H9 e e0 e1 kp9 pn9 => ⟨_, rfl, _, rfl, p, c, _, n, rfl, hn1, by omega, pn9, by omega, fun H10 e' e0' e1' kp10 pn10 => ⟨(show (3 : Nat) ≤ sizeLine by decide), fun l hl => ⟨p, c, l, _, _, rfl, pn10.up (same_new same_rfl hl), by omega, (pn10.nn hl).1, upd_same, (show (1 : Nat) ≤ 3 by decide), (show (3 : Nat) ≤ 1000 by decide), fun H11 x hx kp11 pn11 => k' x H11 ?_⟩⟩⟩⟩
                  have kk := kp_tr kp9 (kp_tr kp10 (kp_tr (kp_same (same_new same_rfl hl)) kp11))
                  have pp := pn11.le (m' := m + 15 + 10 * ts.length + 1 + r + 7 * i + 7) (by omega)
                  simp only [List.mem_cons, List.not_mem_nil, or_false] at hx
                  rcases hx with hx | hx | hx <;> exact ⟨_, hx, by omega, by omega, kk, pp⟩
                · rintro _ H9 ⟨lv, rfl, lv0, lv1, kp9, pn9⟩
                  have kp69 := kp_tr kp7 (kp_tr kp8 kp9)
                  have ri9 := ri6.step kp69 pn9
                  have hD9 := kp_mem kp69 hD6 nD.1
                  have l9 := ri9.rows.l
                  obtain ⟨nm, hnm9⟩ : ∃ nm, ys[ts.length + i]? = some nm := ⟨_, List.getElem?_eq_getElem (by omega)⟩
                  have hby : (byN (ts ++ us) (qs ++ rs)).length = ts.length + i := by rw [byN_len l9.symm, List.length_append, lus]
                  refine ⟨_, rfl, _, rfl, _, rfl, _, _, rfl, rfl, D, _, _, _, rfl, rfl, SqL.of hD9, atA, _, rfl, _, rfl, .inl ⟨_, rfl, _, _, rfl, rfl, ⟨by decide, by decide, by decide⟩, _, _, rfl, _, rfl, _, rfl, D, _, _, _, rfl, rfl, SqL.of hD9, atB, (show (5 : Nat) ≤ sizeLine by decide), fun q hq => ?_⟩⟩
                  have nfq : f ≠ q := ne_of_none ri9.rows.d hq
                  have nnq : nl ≠ q := ne_of_none ri9.hn hq
                  have atN : atI (ys.map V.str) (((byN (ts ++ us) (qs ++ rs)).length : Nat) : Int) = some (.str nm) := by
                    rw [hby]
                    exact atI_nat (by rw [List.getElem?_map, hnm9]; rfl)
                  have hlen : (byN (ts ++ us) (qs ++ rs)).length < sizeLine := by rw [hby, sizeLine_eq]; omega
                  refine ⟨_, rfl, _, rfl, _, rfl, f, _, rfl, by rw [upd_ne nfq]; exact ri9.rows.d, nl, _, _, _, rfl, rfl, SqL.of (by rw [upd_ne nnq]; exact ri9.hn), atN, f, _, rfl, DPut.k (k := Sum.inr nm) (by rw [upd_ne nfq]; exact ri9.rows.d) hlen, ?_⟩
                  have z12 : (10 : Int) ^ (12 : Int).toNat = 1000000000000 := rfl
                  obtain ⟨t, ht⟩ : ∃ t : TR, t = ⟨!b, nm, xa, lv, (if (10 : Int) ^ (12 : Int).toNat < tk then (10 : Int) ^ (12 : Int).toNat else tk), xb⟩ := ⟨_, rfl⟩
                  have erow : [(if b = true then V.str "stay" else V.str "run"), V.str xa, V.int lv, V.int (if (10 : Int) ^ (12 : Int).toNat < tk then (10 : Int) ^ (12 : Int).toNat else tk), V.str xb] = rowV t := by
                    rw [ht]
                    cases b <;> rfl
                  have etake : ys.take (ts.length + i + 1) = ys.take (ts.length + i) ++ [nm] := by
                    rw [List.take_succ, hnm9]
                    rfl
                  have hnew : t.name ∉ names (ts ++ us) := by
                    have n1 : (ys.take (ts.length + i + 1)).Nodup := hynd.sublist (List.take_sublist _ _)
                    rw [etake] at n1
                    rw [nm6, ht]
                    intro z
                    exact (List.nodup_append.mp n1).2.2 _ z _ (by simp) rfl
                  have eput : putK (byN (ts ++ us) (qs ++ rs)) (Sum.inr nm) (.ref q) = byN ((ts ++ us) ++ [t]) ((qs ++ rs) ++ [q]) := by
                    have := byN_put (t := t) (a := q) l9.symm
                    rw [putT, putA, if_neg hnew, if_neg hnew] at this
                    rw [← this, ht]
                  have hnmy : nm ∈ NL := hysub nm (List.mem_of_getElem? hnm9)
                  have hxaR : xa ∈ PL := hR xa ((rot_perm R).mem_iff.mp (List.mem_of_getElem? hxa))
                  have hxbR : xb ∈ PL := hR xb (List.mem_of_getElem? hxb)
                  rw [erow, eput]
                  have ri10 := ri9.put (t := t) hq
                  rw [List.append_assoc, List.append_assoc] at ri10 ⊢
                  have nDf : D ≠ f := fun z => by rw [z, ri9.rows.d] at hD9; cases hD9
                  refine ⟨us ++ [t], rs ++ [q], by simp [lus], ⟨ri10.kp, ri10.pn.le (by omega), ri10.rows, ri10.hn, ri10.hp, ri10.n1, ri10.n2, ri10.f0, ri10.q0⟩, ?_, ?_, ?_, ?_, by rw [upd_ne nDf, upd_ne (ne_of_none hD9 hq)]; exact hD9, _, _, _, _, rfl⟩
                  · rw [← List.append_assoc, ← Nat.add_assoc, etake, ← nm6]
                    unfold names
                    rw [List.map_append, ht]
                    rfl
                  · intro u hu
                    rcases List.mem_append.mp hu with z | z
                    · exact ok6 u z
                    · rw [List.mem_singleton.mp z, ht]
                      refine ⟨hnmy, lv0, lv1, ?_, ?_, hxaR, hxbR, fun z => hb (by simpa using z)⟩
                      · dsimp only; split <;> omega
                      · dsimp only; split <;> omega
                  · unfold starts at st6 ⊢
                    rw [List.map_append, st6, List.take_succ, hxa, ht]
                    rfl
                  · unfold goals at go6 ⊢
                    rw [List.map_append, go6, List.take_succ, hxb, ht]
                    rfl
          · rintro σ H6 ⟨us, rs, lus, ri6, nm6, ok6, st6, go6, hD6, v6, v8, v9, v10, rfl⟩
            have lt6 : (ts ++ us).length = ts.length + r := by rw [List.length_append, lus]
            refine ⟨⟨ts ++ us, qs ++ rs, ⟨ri6.kp, ri6.pn.le (by rw [lt6]; omega), ri6.rows, ri6.hn, ri6.hp, ri6.n1, ri6.n2, ri6.f0, ri6.q0⟩, by rw [lt6]; exact nm6, by rw [lt6]; exact hrj, fun t ht => ?_, ?_, _, _, _, _, _, rfl⟩, ?_⟩
            · rcases List.mem_append.mp ht with z | z
              · exact hok t z
              · exact ok6 t z
            · have e1 : starts us = rot R := by rw [st6, List.take_of_length_le (by rw [(rot_perm R).length_eq, lR]; omega)]
              have e2 : goals us = R := by rw [go6, List.take_of_length_le (by omega)]
              have := hbal.append (e1 ▸ e2 ▸ (rot_perm R) : (starts us).Perm (goals us))
              unfold starts goals at this ⊢
              rw [List.map_append, List.map_append]
              exact this
            · unfold lenD
              rw [ri6.rows.d, ri.rows.d]
              dsimp only
              rw [byN_len ri6.rows.l.symm, lby, lt6]
              omega
    · exact mono_lenlt (fun σ H Q Q' h ⟨v, hv, a, kvs, e1, e2, q⟩ => ⟨v, hv, a, kvs, e1, e2, h _ _ q⟩) (fun σ H Q Q' h ⟨v, hv, q⟩ => ⟨v, hv, h _ _ q⟩)
end
end N1
set_option maxHeartbeats 2000000
/-! plain: the law's states -/
namespace N1
open PySem PySem.Spec PyProof.Rows L2
theorem putT_perm {ts us : List TR} {t : TR} (p : ts.Perm us) : (putT ts t).Perm (putT us t) := by
  unfold putT
  have pn : (names ts).Perm (names us) := p.map _
  by_cases h : t.name ∈ names ts
  · rw [if_pos h, if_pos (pn.mem_iff.mp h)]
    exact p.map _
  · rw [if_neg h, if_neg (fun z => h (pn.mem_iff.mpr z))]
    exact p.append_right _
theorem st_put {ts : List TR} {t : TR} (h : (names ts).Nodup) : st (putT (st ts) t) = st (putT ts t) := by
  have hs : (names (st ts)).Nodup := by rw [names_st]; exact sn_nodup h
  exact st_congr (putT_nodup hs) (putT_perm (st_perm h))
theorem st_drop {ts : List TR} {x : Str} (h : (names ts).Nodup) : st (dropT (st ts) x) = st (dropT ts x) := by
  have hs : (names (st ts)).Nodup := by rw [names_st]; exact sn_nodup h
  refine st_congr ?_ ((st_perm h).filter _)
  unfold names at hs ⊢
  exact hs.sublist (List.filter_sublist.map _)
theorem st_shift {ts : List TR} {n k : Int} (h : (names ts).Nodup) : st (shiftT n k (st ts)) = st (shiftT n k ts) := by
  have hs : (names (st ts)).Nodup := by rw [names_st]; exact sn_nodup h
  refine st_congr ?_ ((st_perm h).map _)
  rw [names_shift]
  exact hs
theorem st_st {ts : List TR} (h : (names ts).Nodup) : st (st ts) = st ts := by
  have hs : (names (st ts)).Nodup := by rw [names_st]; exact sn_nodup h
  exact st_congr hs (st_perm h)
theorem keys_put (l : List (Str × Int)) (x : Str) (n : Int) : keysI (putI l x n) = if x ∈ keysI l then keysI l else keysI l ++ [x] := by
  unfold putI
  by_cases h : x ∈ keysI l
  · rw [if_pos h, if_pos h]
    unfold keysI
    rw [List.map_map]
    refine List.map_congr_left fun p _ => ?_
    show (if p.1 = x then (p.1, n) else p).1 = p.1
    split <;> rfl
  · rw [if_neg h, if_neg h]
    unfold keysI
    rw [List.map_append]
    rfl
theorem nodup_put {l : List (Str × Int)} {x : Str} {n : Int} (h : (keysI l).Nodup) : (keysI (putI l x n)).Nodup := by
  rw [keys_put]
  by_cases hm : x ∈ keysI l
  · rw [if_pos hm]; exact h
  · rw [if_neg hm, List.nodup_append]
    exact ⟨h, by simp, fun a ha b hb e => by simp at hb; rw [e, hb] at ha; exact hm ha⟩
theorem lk_put {l : List (Str × Int)} {x y : Str} {n : Int} : lkI (putI l x n) y = if y = x then some n else lkI l y := by
  unfold putI
  by_cases hm : x ∈ keysI l
  · rw [if_pos hm]
    have key : ∀ l : List (Str × Int), lkI (l.map fun p => if p.1 = x then (p.1, n) else p) y = if y = x ∧ x ∈ keysI l then some n else lkI l y := by
      intro l
      induction l with
      | nil => simp [lkI, keysI]
      | cons p r ih =>
        unfold lkI keysI at *
        rw [List.map_cons, List.find?_cons, List.find?_cons, List.map_cons]
        by_cases e1 : p.1 = x
        · rw [if_pos e1]
          by_cases e2 : p.1 = y
          · have e3 : y = x := e2.symm.trans e1
            simp [e2, e3]
          · have e3 : ¬ y = x := fun z => e2 (e1.trans z.symm)
            simp only [e2, decide_false]
            rw [ih]
            simp [e3]
        · rw [if_neg e1]
          by_cases e2 : p.1 = y
          · have e3 : ¬ y = x := fun z => e1 (e2.trans z)
            simp [e2, e3]
          · simp only [e2, decide_false]
            rw [ih]
            have e4 : ¬ x = p.1 := fun z => e1 z.symm
            by_cases e5 : y = x <;> by_cases e6 : x ∈ List.map (fun q : Str × Int => q.1) r <;> simp [e4, e5, e6]
    rw [key]
    simp [hm]
  · rw [if_neg hm]
    by_cases e : y = x
    · subst e
      rw [if_pos rfl]
      have := lkI_none.mpr hm
      unfold lkI at this ⊢
      rw [List.find?_append]
      cases h : l.find? (fun p => decide (p.1 = y)) with
      | none => simp
      | some q => rw [h] at this; cases this
    · rw [if_neg e]
      unfold lkI
      rw [List.find?_append]
      cases h : l.find? (fun p => decide (p.1 = y)) with
      | none =>
        have e' : ¬ x = y := fun z => e z.symm
        simp [e']
      | some q => simp
theorem nrm_put {l : List (Str × Int)} {x : Str} {n : Int} (h : (keysI l).Nodup) : nrm (putI (nrm l) x n) = nrm (putI l x n) := by
  refine nrm_ext (nodup_put (nodup_nrm h)) (nodup_put h) fun y => ?_
  have := nz_nrm l y
  unfold nzI at this ⊢
  rw [lk_put, lk_put]
  by_cases e : y = x
  · rw [if_pos e, if_pos e]
  · rw [if_neg e, if_neg e]
    exact this
theorem mem_put {l : List (Str × Int)} {x : Str} {n : Int} {p : Str × Int} (h : p ∈ putI l x n) : p = (x, n) ∨ p ∈ l := by
  unfold putI at h
  by_cases hm : x ∈ keysI l
  · rw [if_pos hm] at h
    obtain ⟨q, hq, e⟩ := List.mem_map.mp h
    by_cases eq : q.1 = x
    · rw [if_pos eq] at e
      rw [← e, eq]
      exact .inl rfl
    · rw [if_neg eq] at e
      exact .inr (e ▸ hq)
  · rw [if_neg hm] at h
    rcases List.mem_append.mp h with z | z
    · exact .inr z
    · exact .inl (List.mem_singleton.mp z)
theorem nodup_len : ∀ {l m : List Str}, l.Nodup → (∀ x ∈ l, x ∈ m) → l.length ≤ m.length
  | [], _, _, _ => Nat.zero_le _
  | x :: l, m, h, s => by
    have h2 := List.nodup_cons.mp h
    have hx := s x List.mem_cons_self
    have ih := nodup_len (l := l) (m := m.erase x) h2.2 fun y hy => (List.mem_erase_of_ne (fun z => h2.1 (by rw [← z]; exact hy))).mpr (s y (List.mem_cons_of_mem _ hy))
    rw [List.length_erase_of_mem hx] at ih
    have : 0 < m.length := List.length_pos_of_mem hx
    rw [List.length_cons]
    omega
def NM : List Str := NL ++ (["n", "nn", "later"] : List Str)
def AB : List Str := ["a", "b", "home"]
def PA7 (PL : List Str) : List Str := PL ++ AB
def PK9 (PL : List Str) : List Str := PL ++ (["a", "b", "home", "z", "elsewher"] : List Str)
theorem nm_ok : ∀ x ∈ NM, NameOk x := by decide +kernel
theorem pl_ok {PL : List Str} (h : PL ∈ PLL) : (PA7 PL).length ≤ 8 ∧ (PK9 PL).length ≤ 9 ∧ (∀ x ∈ PA7 PL, NameOk x) ∧ ∀ x ∈ PK9 PL, NameOk x := by
  unfold PLL at h
  simp only [List.mem_cons, List.not_mem_nil, or_false] at h
  rcases h with h | h | h | h <;> subst h <;> exact ⟨by decide +kernel, by decide +kernel, by decide +kernel, by decide +kernel⟩
/-- a trip of a state -/
structure TOk (n : Int) (PL : List Str) (t : TR) : Prop where
  nm : t.name ∈ NM
  l0 : 0 ≤ t.leaves
  l1 : t.leaves < n
  t0 : 1 ≤ t.takes
  t1 : t.takes ≤ 1000000000000
  s : t.start ∈ PA7 PL
  g : t.goal ∈ PA7 PL
  st : t.run = false → t.start = t.goal
/-- a state behind k deeds -/
structure StOk (k : Int) (PL : List Str) (S : Sn) : Prop where
  pl : PL ∈ PLL
  n1 : 1 ≤ S.n
  n2 : S.n ≤ 2000 + k * 1000100
  nd : (names S.ts).Nodup
  ok : ∀ t ∈ S.ts, TOk S.n PL t
  pn : (keysI S.ps).Nodup
  pk : ∀ x ∈ S.ps, x.1 ∈ PK9 PL ∧ 0 ≤ x.2 ∧ x.2 ≤ 1000000000000
def bd (S : Sn) : Sn := ⟨S.n, nrm S.ps, st S.ts⟩
section
variable {k n : Int} {PL : List Str} {S : Sn} {t : TR}
theorem TOk.ok (h : TOk n PL t) (hp : PL ∈ PLL) (hn : n ≤ 1000000000000) : t.Ok :=
  ⟨nm_ok _ h.nm, (pl_ok hp).2.2.1 _ h.s, (pl_ok hp).2.2.1 _ h.g, h.l0, by have := h.l1; omega, h.t0, h.t1, h.st⟩
theorem few_of {ts : List TR} (hp : PL ∈ PLL) (h : ∀ t ∈ ts, TOk n PL t) : Few ts := ⟨PA7 PL, (pl_ok hp).1, fun t ht => ⟨(h t ht).s, (h t ht).g⟩⟩
theorem len_of {ts : List TR} (hn : (names ts).Nodup) (h : ∀ t ∈ ts, TOk n PL t) : ts.length ≤ 17 := by
  have := nodup_len (m := NM) hn fun x hx => by
    obtain ⟨t, ht, e⟩ := List.mem_map.mp hx
    exact e ▸ (h t ht).nm
  unfold names at this
  rw [List.length_map] at this
  exact this
theorem StOk.len (h : StOk k PL S) : S.ts.length ≤ 17 := len_of h.nd h.ok
theorem StOk.few (h : StOk k PL S) : Few S.ts := few_of h.pl h.ok
theorem StOk.plen (h : StOk k PL S) : S.ps.length ≤ 9 := by
  have := nodup_len (m := PK9 PL) h.pn fun x hx => by
    obtain ⟨p, hp, e⟩ := List.mem_map.mp hx
    exact e ▸ (h.pk p hp).1
  have z := (pl_ok h.pl).2.1
  unfold keysI at this
  rw [List.length_map] at this
  omega
theorem StOk.pa (h : StOk k PL S) : PaOk S.ps := ⟨h.pn, fun p hp => (pl_ok h.pl).2.2.2 _ (h.pk p hp).1, fun p hp => (h.pk p hp).2, by have := h.plen; omega⟩
theorem StOk.oks (h : StOk k PL S) (hk : k ≤ 100) : ∀ t ∈ S.ts, t.Ok := fun t ht => (h.ok t ht).ok h.pl (by have := h.n2; omega)
theorem StOk.more {k' : Int} (h : StOk k PL S) (hk : k ≤ k') : StOk k' PL S := ⟨h.pl, h.n1, by have := h.n2; omega, h.nd, h.ok, h.pn, h.pk⟩
/-- the board's own data -/
theorem StOk.bnd (h : StOk k PL S) : (names (bd S).ts).Nodup := by
  show (names (st S.ts)).Nodup
  rw [names_st]
  exact sn_nodup h.nd
theorem StOk.bmem (h : StOk k PL S) {t : TR} : t ∈ (bd S).ts ↔ t ∈ S.ts := mem_st h.nd
theorem StOk.blen (h : StOk k PL S) : (bd S).ts.length ≤ 17 := by
  have := (st_perm h.nd).length_eq
  have z := h.len
  show (st S.ts).length ≤ 17
  omega
theorem StOk.sw (h : StOk k PL S) {L : List Sn} (hL : L.length ≤ 100) : SnW (bd S) L := ⟨h.bnd, by have := h.blen; omega, by omega⟩
theorem StOk.put (h : StOk k PL S) (ht : TOk S.n PL t) (hk : 0 ≤ k) : StOk (k + 1) PL ⟨S.n, S.ps, putT S.ts t⟩ := by
  refine ⟨h.pl, h.n1, by have := h.n2; show S.n ≤ _; omega, putT_nodup h.nd, fun u hu => ?_, h.pn, h.pk⟩
  have hu : u ∈ putT S.ts t := hu
  unfold putT at hu
  by_cases hm : t.name ∈ names S.ts
  · rw [if_pos hm] at hu
    obtain ⟨v, hv, e⟩ := List.mem_map.mp hu
    by_cases e2 : v.name = t.name
    · rw [if_pos e2] at e; rw [← e]; exact ht
    · rw [if_neg e2] at e; rw [← e]; exact h.ok v hv
  · rw [if_neg hm] at hu
    rcases List.mem_append.mp hu with z | z
    · exact h.ok u z
    · rw [List.mem_singleton.mp z]; exact ht
theorem StOk.drop (h : StOk k PL S) (x : Str) : StOk (k + 1) PL ⟨S.n, S.ps, dropT S.ts x⟩ := by
  refine ⟨h.pl, h.n1, by have := h.n2; show S.n ≤ _; omega, ?_, fun u hu => h.ok u (List.mem_filter.mp hu).1, h.pn, h.pk⟩
  have := h.nd
  unfold names at this ⊢
  exact this.sublist (List.filter_sublist.map _)
theorem StOk.shift (h : StOk k PL S) (d : Int) : StOk (k + 1) PL ⟨S.n, S.ps, shiftT S.n d S.ts⟩ := by
  refine ⟨h.pl, h.n1, by have := h.n2; show S.n ≤ _; omega, by show (names (shiftT S.n d S.ts)).Nodup; rw [names_shift]; exact h.nd, fun u hu => ?_, h.pn, h.pk⟩
  obtain ⟨t, ht, e⟩ := List.mem_map.mp hu
  have o := h.ok t ht
  have p : (0 : Int) < S.n := by have := h.n1; omega
  rw [← e]
  exact ⟨o.nm, Int.emod_nonneg _ (by omega), Int.emod_lt_of_pos _ p, o.t0, o.t1, o.s, o.g, o.st⟩
theorem StOk.mins (h : StOk k PL S) {m : Int} (h1 : 1 ≤ m) (h2 : m ≤ S.n + 1000100) (hl : ∀ t ∈ S.ts, t.leaves < m) : StOk (k + 1) PL ⟨m, S.ps, S.ts⟩ :=
  ⟨h.pl, h1, by have := h.n2; show m ≤ _; omega, h.nd, fun t ht => (let o := h.ok t ht; ⟨o.nm, o.l0, hl t ht, o.t0, o.t1, o.s, o.g, o.st⟩), h.pn, h.pk⟩
theorem StOk.pause (h : StOk k PL S) {x : Str} {v : Int} (hx : x ∈ PK9 PL) (h0 : 0 ≤ v) (h1 : v ≤ 1000000000000) : StOk (k + 1) PL ⟨S.n, putI S.ps x v, S.ts⟩ :=
  ⟨h.pl, h.n1, by have := h.n2; show S.n ≤ _; omega, h.nd, h.ok, nodup_put h.pn, fun p hp => (mem_put hp).elim (fun e => by rw [e]; exact ⟨hx, h0, h1⟩) (h.pk p)⟩
theorem bd_put (h : StOk k PL S) : (⟨(bd S).n, (bd S).ps, st (putT (bd S).ts t)⟩ : Sn) = bd ⟨S.n, S.ps, putT S.ts t⟩ := by
  show Sn.mk S.n (nrm S.ps) (st (putT (st S.ts) t)) = _
  rw [st_put h.nd]
  rfl
theorem bd_drop (h : StOk k PL S) {x : Str} : (⟨(bd S).n, (bd S).ps, st (dropT (bd S).ts x)⟩ : Sn) = bd ⟨S.n, S.ps, dropT S.ts x⟩ := by
  show Sn.mk S.n (nrm S.ps) (st (dropT (st S.ts) x)) = _
  rw [st_drop h.nd]
  rfl
theorem bd_shift (h : StOk k PL S) {d : Int} : (⟨(bd S).n, (bd S).ps, st (shiftT (bd S).n d (bd S).ts)⟩ : Sn) = bd ⟨S.n, S.ps, shiftT S.n d S.ts⟩ := by
  show Sn.mk S.n (nrm S.ps) (st (shiftT S.n d (st S.ts))) = _
  rw [st_shift h.nd]
  rfl
theorem bd_mins (h : StOk k PL S) {m : Int} : (⟨m, (bd S).ps, st (bd S).ts⟩ : Sn) = bd ⟨m, S.ps, S.ts⟩ := by
  show Sn.mk m (nrm S.ps) (st (st S.ts)) = _
  rw [st_st h.nd]
  rfl
theorem bd_pause (h : StOk k PL S) {x : Str} {v : Int} : (⟨(bd S).n, nrm (putI (bd S).ps x v), st (bd S).ts⟩ : Sn) = bd ⟨S.n, putI S.ps x v, S.ts⟩ := by
  show Sn.mk S.n (nrm (putI (nrm S.ps) x v)) (st (st S.ts)) = _
  rw [st_st h.nd, nrm_put h.pn]
  rfl
end
end N1
set_option maxHeartbeats 2000000
/-! the law's readers of rows: places, trip, table -/
namespace N1
open PySem PySem.Spec PyProof.Rows L2
/-- rows that are read: also while a loop walks them -/
structure RowsR (H : Hp) (r : Addr) (ts : List TR) (qs : List Addr) : Prop where
  d : Rd H r (.dK (byN ts qs))
  l : qs.length = ts.length
  t : ∀ (i : Nat) (q : Addr) (t : TR), qs[i]? = some q → ts[i]? = some t → H q = some (.tup (rowV t))
theorem RowsR.up {H H' : Hp} {r : Addr} {ts : List TR} {qs : List Addr} (s : Same H H') (h : RowsR H r ts qs) : RowsR H' r ts qs :=
  ⟨h.d.elim (fun e => .inl (s _ _ e)) fun ⟨o, e⟩ => .inr ⟨o, s _ _ e⟩, h.l, fun i q t a b => s _ _ (h.t i q t a b)⟩
theorem RowsAt.rd {H : Hp} {r : Addr} {ts : List TR} {qs : List Addr} (h : RowsAt H r ts qs) : RowsR H r ts qs := ⟨.inl h.d, h.l, h.t⟩
theorem RowsAt.lock {H : Hp} {r : Addr} {ts : List TR} {qs : List Addr} {od : Obj} (h : RowsAt H r ts qs) : RowsR (upd H r (.frz od (.dK (byN ts qs)))) r ts qs :=
  ⟨.inr ⟨od, upd_same⟩, h.l, fun i q t a b => by
    have e := h.t i q t a b
    rw [upd_ne (fun z => by rw [z, h.d] at e; cases e)]
    exact e⟩
theorem row_at {ts : List TR} {qs : List Addr} {i : Nat} {key : Key} {val : V} (e : (byN ts qs)[i]? = some (key, val)) : ∃ (t : TR) (q : Addr), ts[i]? = some t ∧ qs[i]? = some q ∧ key = Sum.inr t.name ∧ val = .ref q := by
  unfold byN at e
  rw [List.getElem?_zipWith] at e
  cases h1 : ts[i]? with
  | none => rw [h1] at e; cases e
  | some t =>
    cases h2 : qs[i]? with
    | none => rw [h1, h2] at e; cases e
    | some q =>
      rw [h1, h2] at e
      cases e
      exact ⟨t, q, rfl, rfl, rfl, rfl⟩
theorem RowsR.get {H : Hp} {r : Addr} {ts : List TR} {qs : List Addr} (h : RowsR H r ts qs) (hn : (names ts).Nodup) {i : Nat} {t : TR} {q : Addr} (e1 : ts[i]? = some t) (e2 : qs[i]? = some q) : DGet H r (.str t.name) (some (.ref q)) := by
  refine .inl ⟨byN ts qs, Sum.inr t.name, h.d, rfl, ?_⟩
  refine (valV_of_get ?_ (byN_get e1 e2)).symm
  rw [byN_keys h.l.symm]
  exact inr_nodup hn
theorem RowsR.q {H : Hp} {r : Addr} {ts : List TR} {qs : List Addr} (h : RowsR H r ts qs) {i : Nat} {t : TR} (e : ts[i]? = some t) : ∃ q, qs[i]? = some q ∧ H q = some (.tup (rowV t)) := by
  have hi := (List.getElem?_eq_some_iff.mp e).1
  obtain ⟨q, hq⟩ : ∃ q, qs[i]? = some q := ⟨_, List.getElem?_eq_getElem (by have := h.l; omega)⟩
  exact ⟨q, hq, h.t i q t hq e⟩
def spPlacesL : Sp := fun vs H Q _ => ∃ (r : Addr) (ts : List TR) (qs : List Addr), vs = [.ref r] ∧ RowsAt H r ts qs ∧ (names ts).Nodup ∧ ts.length ≤ 60 ∧
  ∀ H' q (ys : List Str), Same H H' → H q = none → H' q = some (.lst (ys.map V.str)) → ys.Nodup → (∀ k, k ∈ ys ↔ k ∈ starts ts) → ys.length ≤ 60 → Q (.ref q) H'
def spTripL (K : PySem.W.Frag) : Sp := fun vs H Q _ => ∃ (q : Addr) (t : TR), vs = [.str t.name, .ref q] ∧ H q = some (.tup (rowV t)) ∧ t.Ok ∧ NewTrip K H t Q
section
variable {P : Program} {w : World} {K : PySem.W.Frag} {mg : Str → Option Value} {base : Heap}
theorem ok_places (T : FX P K mg) : FnR P w K mg base CX0 1 (ga K "_law_places") spPlacesL := by
  refine fnr T.f_w_places sc_places (fun _ _ _ _ _ _ us hl => match us, hl with | [_], _ => rfl) (fun vs H Q E h => ?_) (fun cdv A outer s H vs Q E hr h => ?_)
  · obtain ⟨r, ts, qs, rfl, _⟩ := h
    rfl
  · obtain ⟨r, ts, qs, rfl, hR, hnd, l60, k⟩ := h
    have nd := sc_places.nd
    have hu := hu_of hr
    have lby := byN_len (ts := ts) (qs := qs) hR.l.symm
    refine ⟨_, pss_one (ps_ret (cb "sorted" T (cr_sortedSetS rfl) (pa_cons (ct "set" T (cr_setOfS rfl) (pa_cons (pe_lock (pe_lc (own := [("_law_name", 1)]) (g := gName 1) (tt := tYes) (te := tCB rStr1 (tCons (tOp (rIxT K) (tDGet (tVar 0) (tVar 1)) (tC (.int 1))) tNil)) rfl nd (pi_keys (pv 0)) (blkOk_by (N := ["_law_rows_here", "_law_name"]) (sc := defScope w_places) (by decide +kernel))
      (fun _ _ _ _ _ => pg_name (i := 1) nd rfl (Or.inl rfl)) (fun _ _ _ _ _ => pts_nil) (fun _ _ _ _ _ => ct "str" T SkE.call_str_str (pa_cons (pe_ix ix_tup (pe_dget hu (pv 0) (pv 1) (fun _ _ => rfl)) pe_int (fun _ _ => rfl)) pa_nil)))) pa_nil)) pa_nil))), ?_⟩
    refine ⟨r, _, hR.d, trivial, fun od => ⟨_, rfl, r, od, rfl, .inl ⟨_, upd_same, fun D hD => lc_f walk_keys (fun i => (ts[i]?).map fun t => V.str t.start) hD (by omega) (fun H' s => s _ _ upd_same) ?_ ?_⟩⟩⟩
    · rintro i v Ha Hb kk k0 hi sa ⟨rfl, key, val, hkv, rfl⟩ h2 h3
      obtain ⟨t, q, e1, e2, rfl, rfl⟩ := row_at hkv
      have rr := (hR.lock (od := od)).up sa
      exact ⟨rfl, _, rfl, _, rfl, r, _, rfl, rr.get hnd e1 e2, q, _, 1, _, rfl, rfl, SqT.of (rr.t _ _ _ e2 e1), rfl, _, rfl, h2 _ _ (by rw [e1]; rfl) same_rfl⟩
    · intro H3 s3 hL3
      rw [lby, range_map_] at hL3
      have nDr : D ≠ r := fun z => by rw [z, upd_same] at hD; cases hD
      have su := unlock_same s3 hR.d
      have ls : (starts ts).length = ts.length := by unfold starts; rw [List.length_map]
      refine ⟨s3 _ _ upd_same, D, starts ts, rfl, SqL.of (by rw [upd_ne nDr, hL3]; unfold starts; rw [List.map_map]; rfl), by omega, fun p n hn hp => ⟨p, _, n, rfl, upd_same, by omega, fun ns q h1 h2 h3 h4 hq => ?_⟩⟩
      have s4 := same_new (o := SetSO w p (fun k => (starts ts).any (· == k)) n) su hp
      refine k _ q ns (same_new s4 hq) ?_ upd_same h2 (fun y => ?_) (by omega)
      · cases z : H q with
        | none => rfl
        | some o =>
          have e : (none : Option HO) = some o := hq.symm.trans (s4 _ _ z)
          cases e
      · rw [h3, List.any_eq_true]
        constructor
        · rintro ⟨z, hz, e⟩
          rw [← eq_of_beq e]
          exact hz
        · intro hy
          exact ⟨y, hy, by simp⟩
theorem ok_trip (T : FX P K mg) : FnR P w K mg base CX0 7 (ga K "_law_trip") (spTripL K) := by
  refine fnr T.f_w_trip sc_trip (fun _ _ _ _ _ _ us hl => match us, hl with | [_, _], _ => rfl) (fun vs H Q E h => ?_) (fun cdv A outer s H vs Q E hr h => ?_)
  · obtain ⟨q, t, rfl, _⟩ := h
    rfl
  · obtain ⟨q, t, rfl, hq, ok, k⟩ := h
    have nd := sc_trip.nd
    refine ⟨_, pss_cons (ps_asg (pv 1) (pg_tup rfl (pgs_cons (pg_name (i := 2) nd rfl (Or.inl rfl)) (pgs_cons (pg_name (i := 3) nd rfl (Or.inl rfl)) (pgs_cons (pg_name (i := 4) nd rfl (Or.inl rfl)) (pgs_cons (pg_name (i := 5) nd rfl (Or.inl rfl)) (pgs_cons (pg_name (i := 6) nd rfl (Or.inl rfl)) pgs_nil)))))))
      (pss_one (ps_ret (pe_ifExp (pt_cmpR op_eq (pv 2) pe_str (nomark _))
        (StX.pe_makeR (T.mkr "Run" (by decide +kernel)) (ok_RunInit T) hr rfl (T.glo "Run" (by decide +kernel)) pass0 (pa_cons (pv 0) (pa_cons (pv 3) (pa_cons (pv 4) (pa_cons (pv 5) (pa_cons (pv 6) pa_nil))))))
        (StX.pe_makeR (T.mkr "Stay" (by decide +kernel)) (ok_StayInit T) hr rfl (T.glo "Stay" (by decide +kernel)) pass0 (pa_cons (pv 0) (pa_cons (pv 3) (pa_cons (pv 4) (pa_cons (pv 5) pa_nil)))))))), ?_⟩
    refine ⟨_, rfl, q, _, rfl, SqT.of hq, rfl, _, _, rfl, _, _, rfl, _, _, rfl, _, _, rfl, _, _, rfl, rfl, ?_⟩
    refine ⟨_, rfl, rfl, _, rfl, ?_⟩
    have five : T5 t.name t.start t.leaves t.takes t.goal := ⟨ok.n, ok.s, ok.g, ok.l0, ok.l1, ok.t0, ok.t1⟩
    cases hb : t.run with
    | true =>
      rw [show decide (V.str (if true = true then "run" else "stay") = V.str "run") = true from by decide]
      refine ⟨_, rfl, _, rfl, _, rfl, _, rfl, _, rfl, fun x dy hx hdy hne => ?_⟩
      refine ⟨x, dy, t.name, t.start, t.leaves, t.takes, t.goal, rfl, five, upd_same, fun H' h1 h2 => ⟨rfl, ?_⟩⟩
      refine k H' x hx (made_same hx hdy h1) ⟨dy, ?_⟩
      rw [h2, show cTR K t = cRun K by unfold cTR; rw [hb]; rfl]
      rfl
    | false =>
      rw [show decide (V.str (if false = true then "run" else "stay") = V.str "run") = false from by decide]
      refine ⟨_, rfl, _, rfl, _, rfl, _, rfl, fun x dy hx hdy hne => ?_⟩
      have hg := ok.st hb
      refine ⟨x, dy, t.name, t.start, t.leaves, t.takes, rfl, by rw [← hg] at five; exact five, upd_same, fun H' h1 h2 => ⟨rfl, ?_⟩⟩
      refine k H' x hx (made_same hx hdy h1) ⟨dy, ?_⟩
      rw [h2, show cTR K t = cStay K by unfold cTR; rw [hb]; rfl]
      show some (HO.ins (cStay K) dy (f5 t.name t.start t.leaves t.takes t.start)) = some (HO.ins (cStay K) dy (f5 t.name t.start t.leaves t.takes t.goal))
      rw [hg]
end
end N1
set_option maxHeartbeats 2000000
/-! the law's table, pauses, later -/
namespace N1
open PySem PySem.Spec PyProof.Rows L2
/-- all that is new is frozen -/
theorem frz_all {M : List Addr} {G H G' H' : Hp} (a : Gx M G H G' H') : ∃ G2, Gx M G H G2 H' ∧ Same G' G2 ∧ ∀ b o, H b = none → H' b = some o → G2 b = some o := by
  refine ⟨fun b => match H b with | none => H' b | some _ => G' b, ⟨fun b o e => ?_, fun b o e => ?_, a.kp, a.dom, fun b e => ?_⟩, fun b o e => ?_, fun b o h0 e => ?_⟩
  · have h1 := a.gg _ _ e
    cases hb : H b with
    | none => simp only [hb]; exact a.gh _ _ h1
    | some u => simp only [hb]; exact h1
  · cases hb : H b with
    | none => simp only [hb] at e; exact e
    | some u => simp only [hb] at e; exact a.gh _ _ e
  · cases hb : H b with
    | none => exact .inr rfl
    | some u =>
      simp only [hb] at e
      rcases a.fr b e with z | z
      · exact .inl z
      · rw [hb] at z; cases z
  · cases hb : H b with
    | none => simp only [hb]; exact a.gh _ _ e
    | some u => simp only [hb]; exact e
  · simp only [h0]; exact e
theorem unlock_kp {H H' : Hp} {d D : Addr} {u : HO} {od : Obj} (k : Kp [D] (upd H d (.frz od u)) H') (h : H d = some u) (hD : H D = none) : Same H (upd H' d u) := fun b o e => by
  have nD : b ≠ D := fun z => by rw [z, hD] at e; cases e
  by_cases hb : b = d
  · rw [hb] at e ⊢
    rw [upd_same, ← e, h]
  · rw [upd_ne hb]
    exact k b o (by simpa using nD) (by rw [upd_ne hb]; exact e)
def spTableL (K : PySem.W.Frag) : Sp := fun vs H Q _ => ∃ (G : Hp) (r : Addr) (ts : List TR) (qs : List Addr) (n : Int), vs = [.ref r, .int n] ∧ Same G H ∧ RowsAt H r ts qs ∧ (∀ t ∈ ts, t.Ok) ∧ TabOk n ts ∧ 1 ≤ n ∧ n ≤ 1000000000000 ∧
  ∀ H' G' p, Gx [] G H G' H' → H p = none → TableAt K G' p n (st ts) → Q (.ref p) H'
def spLaterL : Sp := fun vs H Q _ => ∃ (r : Addr) (ts : List TR) (qs : List Addr) (n by_ : Int), vs = [.ref r, .int n, .int by_] ∧ RowsAt H r ts qs ∧ (names ts).Nodup ∧ ts.length ≤ 60 ∧ 1 ≤ n ∧
  ∀ H' f rs, Same H H' → H f = none → RowsAt H' f (shiftT n by_ ts) rs → (∀ a ∈ rs, H a = none) → Q (.ref f) H'
def spPausesL : Sp := fun vs H Q _ => ∃ (p c r : Addr) (ts : List TR) (qs : List Addr) (m n : Int), vs = [.ref p, .ref r, .int n] ∧ PenAt H p c m ∧ m ≤ 900000 ∧ RowsAt H r ts qs ∧ (names ts).Nodup ∧ ts.length ≤ 60 ∧ 1 ≤ n ∧ n ≤ 300000000 ∧
  ∀ H' f l, Kp [p] H H' → H f = none → H' f = some (.dK (kI l)) → (keysI l).Nodup → (∀ k ∈ keysI l, k ∈ starts ts) → (∀ x ∈ l, 0 ≤ x.2 ∧ x.2 ≤ 1000000000000) → PenAt H' p c (m + 60) → Q (.ref f) H'
section
variable {P : Program} {w : World} {K : PySem.W.Frag} {mg : Str → Option Value} {base : Heap}
theorem ok_table (T : FX P K mg) : FnR P w K mg base CX0 8 (ga K "_law_table") (spTableL K) := by
  refine fnr T.f_w_table sc_table (fun _ _ _ _ _ _ us hl => match us, hl with | [_, _], _ => rfl) (fun vs H Q E h => ?_) (fun cdv A outer s H vs Q E hr h => ?_)
  · obtain ⟨G, r, ts, qs, n, rfl, _⟩ := h
    rfl
  · obtain ⟨G, r, ts, qs, n, rfl, gs, hR, hok, tok, h1, h2, k⟩ := h
    have nd := sc_table.nd
    have hu := hu_of hr
    have lby := byN_len (ts := ts) (qs := qs) hR.l.symm
    have l40 := tok.l40
    refine ⟨_, pss_one (ps_ret (pe_smeth (gc "Table" T) T.crT T.stT (ok_TableOf T) (hr.mono (by decide)) pass0
      (pa_cons (StX.pe_makeR (T.mkr "Day" (by decide +kernel)) (ok_DayInit T) (hr.mono (by decide)) rfl (T.glo "Day" (by decide +kernel)) pass0 (pa_cons (pv 1) pa_nil))
      (pa_cons (pe_lock (pe_lc (own := [("_law_name", 2)]) (g := gName 2) (tt := tYes) (te := tCallR (spTripL K) E0 (tCons (tVar 2) (tCons (tDGet (tVar 0) (tVar 2)) tNil))) rfl nd (pi_keys (pv 0)) (blkOk_by (N := ["_law_rows_here", "_law_length", "_law_name"]) (sc := defScope w_table) (by decide +kernel))
        (fun _ _ _ _ _ => pg_name (i := 2) nd rfl (Or.inl rfl)) (fun _ _ _ _ _ => pts_nil) (fun _ _ _ _ _ => cl "_law_trip" T (ok_trip T) hr (pa_cons (pv 2) (pa_cons (pe_dget hu (pv 0) (pv 2) (fun _ _ => rfl)) pa_nil))))) pa_nil)))), ?_⟩
    refine ⟨rfl, _, rfl, fun x dx hx hdx hne => ⟨x, dx, n, rfl, h1, h2, upd_same, fun H1 e1 e2 => ⟨rfl, ?_⟩⟩⟩
    have sD : Same H H1 := made_same hx hdx e1
    have hR1 := hR.up sD
    refine ⟨r, _, hR1.d, trivial, fun od => ⟨_, rfl, r, od, rfl, .inl ⟨_, upd_same, fun D hD => ?_⟩⟩⟩
    have nrD : r ≠ D := fun z => by rw [← z, upd_same] at hD; cases hD
    have hD1 : H1 D = none := by rw [upd_ne (Ne.symm nrD)] at hD; exact hD
    refine lc_it walk_keys (fun i H' => ∃ as : List Addr, as.length = i ∧ Kp [D] (upd H1 r (.frz od (.dK (byN ts qs)))) H' ∧ H' D = some (.lst (as.map V.ref)) ∧ (∀ a ∈ as, H1 a = none) ∧ ∀ (j : Nat) (a : Addr) (t : TR), as[j]? = some a → ts[j]? = some t → TripAt K H' a t)
      ⟨[], rfl, kp_wr kp_rfl (by simp), upd_same, fun a h => (by cases h), fun j a t h => by simp at h⟩ (fun i H' _ ⟨as, _, kp, _⟩ => kp _ _ (by simpa using nrD) upd_same) ?_ ?_
    · rintro i v Ha Hb hi ⟨as, las, kpA, hDA, newA, trA⟩ ⟨rfl, key, val, hkv, rfl⟩
      obtain ⟨t, q, e3, e4, rfl, rfl⟩ := row_at hkv
      have rr : RowsR Hb r ts qs := by
        have z := hR1.lock (od := od)
        refine ⟨.inr ⟨od, kpA _ _ (by simpa using nrD) upd_same⟩, z.l, fun j q' t' h1 h2 => ?_⟩
        have e5 := z.t j q' t' h1 h2
        exact kpA _ _ (by simpa using ne_of_none e5 hD) e5
      have hti : t ∈ ts := List.mem_of_getElem? e3
      refine ⟨rfl, _, rfl, _, rfl, _, rfl, r, _, rfl, rr.get tok.nd e3 e4, q, t, rfl, rr.t _ _ _ e4 e3, hok t hti, fun H2 a ha s2 ta => ⟨as.map V.ref, s2 _ _ hDA, by rw [List.length_map, sizeLine_eq]; omega, as ++ [a], by simp [las], kp_wr (fun b o hb e => s2 _ _ (kpA b o hb e)) (by simp), by rw [upd_same, List.map_append]; rfl, fun b hb => ?_, fun j b t' h1 h2 => ?_⟩⟩
      · rcases List.mem_append.mp hb with z | z
        · exact newA b z
        · rw [List.mem_singleton.mp z]
          have nar : a ≠ r := fun z => by rw [z] at ha; rw [kpA _ _ (by simpa using nrD) upd_same] at ha; cases ha
          have naD : a ≠ D := fun z => by rw [z, hDA] at ha; cases ha
          cases y : H1 a with
          | none => rfl
          | some o => rw [kpA a o (by simpa using naD) (by rw [upd_ne nar]; exact y)] at ha; cases ha
      · have key : TripAt K H2 b t' := by
          by_cases hj : j < as.length
          · rw [List.getElem?_append_left hj] at h1
            exact (trA j b t' h1 h2).up s2
          · rw [List.getElem?_append_right (by omega)] at h1
            have e0 : j - as.length = 0 := by
              have := (List.getElem?_eq_some_iff.mp h1).1
              simp at this
              omega
            rw [e0] at h1
            have ej : j = i := by omega
            rw [ej, e3] at h2
            rw [← Option.some.inj h2, ← (Option.some.inj h1 : a = b)]
            exact ta
        obtain ⟨db, hb⟩ := key
        exact ⟨db, by rw [upd_ne (fun z => by rw [z, s2 _ _ hDA] at hb; cases hb)]; exact hb⟩
    · rintro H3 ⟨as, las, kpA, hDA, newA, trA⟩
      have e3 : H3 r = some (.frz od (.dK (byN ts qs))) := kpA _ _ (by simpa using nrD) upd_same
      have s4 := unlock_kp kpA hR1.d hD1
      refine ⟨e3, ?_⟩
      generalize hH4 : upd H3 r (.dK (byN ts qs)) = H4 at s4
      have hD4 : H4 D = some (.lst (as.map V.ref)) := by rw [← hH4, upd_ne (Ne.symm nrD)]; exact hDA
      obtain ⟨G2, g2, _, fz⟩ := frz_all ((Gx.refl gs : Gx [] G H G H).same (same_tr sD s4))
      refine ⟨G2, x, D, n, as, ts, rfl, g2.gh, ⟨dx, fz _ _ hx (s4 _ _ e2)⟩, hD4, ⟨by omega, fun j a t h1 h2 => ?_⟩, tok, fun H' G' p g3 hp tb => k H' G' p (g2.trans g3) (g2.old hp) tb⟩
      obtain ⟨da, ha⟩ := trA j a t h1 h2
      refine ⟨da, fz _ _ (same_non sD (newA a (List.mem_of_getElem? h1))) ?_⟩
      rw [← hH4, upd_ne (fun z => by rw [z, e3] at ha; cases ha)]
      exact ha
theorem ok_later (T : FX P K mg) : FnR P w K mg base CX0 1 (ga K "_law_later") spLaterL := by
  refine fnr T.f_w_later sc_later (fun _ _ _ _ _ _ us hl => match us, hl with | [_, _, _], _ => rfl) (fun vs H Q E h => ?_) (fun cdv A outer s H vs Q E hr h => ?_)
  · obtain ⟨r, ts, qs, n, b, rfl, _⟩ := h
    rfl
  · obtain ⟨r, ts, qs, n, by_, rfl, hR, hnd, l60, hn, k⟩ := h
    have nd := sc_later.nd
    have hu := hu_of hr
    have lby := byN_len (ts := ts) (qs := qs) hR.l.symm
    refine ⟨_, pss_cons (ps_set (i := 3) nd rfl (Or.inl rfl) pe_dnewK)
      (pss_cons (ps_lock (ps_for PassesOwn.never rfl (pi_keys (pv 0)) (pg_name (i := 4) nd rfl (Or.inl rfl))
        (pss_cons (ps_asg (pe_dget hu (pv 0) (pv 4) (fun _ _ => rfl)) (pg_tup rfl (pgs_cons (pg_name (i := 5) nd rfl (Or.inl rfl)) (pgs_cons (pg_name (i := 6) nd rfl (Or.inl rfl)) (pgs_cons (pg_name (i := 7) nd rfl (Or.inl rfl)) (pgs_cons (pg_name (i := 8) nd rfl (Or.inl rfl)) (pgs_cons (pg_name (i := 9) nd rfl (Or.inl rfl)) pgs_nil)))))))
        (pss_one (ps_dput hu (pv 3) (pv 4) (pe_tup (pa_cons (pv 5) (pa_cons (pv 6) (pa_cons (pe_op op_mod (ct "int" T call_int1 (pa_cons (pe_op op_add (pv 7) (pv 2)) pa_nil)) (pv 1)) (pa_cons (pv 8) (pa_cons (pv 9) pa_nil)))))) rfl)))))
      (pss_one (ps_ret (pv 3)))), ?_⟩
    intro f hf
    have sf : Same H (upd H f (.dK [])) := same_new same_rfl hf
    have hR1 := hR.up sf
    have nfr : r ≠ f := fun z => by have y := hR.d; rw [z, hf] at y; cases y
    refine ⟨r, _, hR1.d, trivial, fun od => ⟨_, rfl, r, od, rfl, .inl ⟨_, upd_same, ?_⟩⟩⟩
    have hf1 : (upd (upd H f (.dK [])) r (.frz od (.dK (byN ts qs)))) f = some (.dK []) := by rw [upd_ne (Ne.symm nfr)]; exact upd_same
    have zl := hR1.lock (od := od)
    generalize hHl : upd (upd H f (.dK [])) r (.frz od (.dK (byN ts qs))) = Hl at zl hf1
    have hrl : Hl r = some (.frz od (.dK (byN ts qs))) := by rw [← hHl]; exact upd_same
    refine for_it walk_keys (fun i σ H' => ∃ rs : List Addr, rs.length = i ∧ Kp [f] Hl H' ∧ H' f = some (.dK (byN (shiftT n by_ (ts.take i)) rs)) ∧ (∀ a ∈ rs, Hl a = none) ∧ (∀ (j : Nat) (a : Addr) (t : TR), rs[j]? = some a → ts[j]? = some t → H' a = some (.tup (rowV (shT n by_ t)))) ∧ ∃ v4 v5 v6 v7 v8 v9, σ = [some (.ref r), some (.int n), some (.int by_), some (.ref f), v4, v5, v6, v7, v8, v9])
      ⟨[], rfl, kp_rfl, hf1, fun a h => (by cases h), fun j a t h => by simp at h, _, _, _, _, _, _, rfl⟩ (fun i σ H' _ ⟨rs, _, kp, _⟩ => kp _ _ (by simpa using nfr) hrl) ?_ ?_
    · rintro i v σ Ha Hb hi ⟨rs, lrs, kpA, hfA, newA, trA, v4, v5, v6, v7, v8, v9, rfl⟩ ⟨rfl, key, val, hkv, rfl⟩
      obtain ⟨t, q, e3, e4, rfl, rfl⟩ := row_at hkv
      have rr : RowsR Hb r ts qs := by
        refine ⟨.inr ⟨od, kpA _ _ (by simpa using nfr) hrl⟩, zl.l, fun j q' t' h1 h2 => ?_⟩
        have e5 := zl.t j q' t' h1 h2
        have nq : q' ≠ f := fun z => by rw [z, hf1] at e5; cases e5
        exact kpA _ _ (by simpa using nq) e5
      have lti : (ts.take i).length = i := by rw [List.length_take]; have := (List.getElem?_eq_some_iff.mp e3).1; omega
      have lsh : (shiftT n by_ (ts.take i)).length = rs.length := by unfold shiftT; rw [List.length_map, lti, lrs]
      have ltk : ts.take (i + 1) = ts.take i ++ [t] := by rw [List.take_succ, e3]; rfl
      refine ⟨_, rfl, _, rfl, r, _, rfl, rr.get hnd e3 e4, q, _, rfl, SqT.of (rr.t _ _ _ e4 e3), rfl, _, _, rfl, _, _, rfl, _, _, rfl, _, _, rfl, _, _, rfl, rfl, ?_⟩
      refine ⟨_, rfl, _, rfl, _, rfl, _, rfl, _, _, rfl, rfl, .inl ⟨_, rfl, _, rfl, _, _, rfl, rfl, (show (0 : Int) < n by omega), _, rfl, _, rfl, (show (5 : Nat) ≤ sizeLine by decide), fun a ha => ?_⟩⟩
      have naf : f ≠ a := ne_of_none hfA ha
      refine ⟨_, rfl, _, rfl, f, _, rfl, DPut.k (k := Sum.inr t.name) (by rw [upd_ne naf]; exact hfA) (by rw [byN_len lsh, lsh, lrs, sizeLine_eq]; omega), ?_⟩
      have hnew : (shT n by_ t).name ∉ names (shiftT n by_ (ts.take i)) := by
        have e6 : names (shiftT n by_ (ts.take i)) = names (ts.take i) := by unfold names shiftT; rw [List.map_map]; rfl
        rw [e6]
        have n1 : (names (ts.take (i + 1))).Nodup := by
          unfold names at hnd ⊢
          exact hnd.sublist ((List.take_sublist _ _).map _)
        rw [ltk] at n1
        unfold names at n1 ⊢
        rw [List.map_append] at n1
        intro z
        exact (List.nodup_append.mp n1).2.2 _ z _ (List.mem_singleton.mpr rfl) rfl
      have eput : putK (byN (shiftT n by_ (ts.take i)) rs) (Sum.inr t.name) (.ref a) = byN (shiftT n by_ (ts.take (i + 1))) (rs ++ [a]) := by
        have := byN_put (t := shT n by_ t) (a := a) lsh
        rw [putT, putA, if_neg hnew, if_neg hnew] at this
        rw [show shiftT n by_ (ts.take (i + 1)) = shiftT n by_ (ts.take i) ++ [shT n by_ t] by unfold shiftT; rw [ltk, List.map_append]; rfl, ← this]
        rfl
      rw [eput]
      refine ⟨rs ++ [a], by simp [lrs], kp_wr (fun b o hb e => ?_) (by simp), upd_same, fun b hb => ?_, fun j b t' h1 h2 => ?_, _, _, _, _, _, _, rfl⟩
      · have e5 := kpA b o hb e
        rw [upd_ne (ne_of_none e5 ha)]
        exact e5
      · rcases List.mem_append.mp hb with z | z
        · exact newA b z
        · rw [List.mem_singleton.mp z]
          cases y : Hl a with
          | none => rfl
          | some o => rw [kpA a o (by simpa using (Ne.symm naf)) y] at ha; cases ha
      · by_cases hj : j < rs.length
        · rw [List.getElem?_append_left hj] at h1
          have e5 := trA j b t' h1 h2
          rw [upd_ne (fun z => by rw [z, hfA] at e5; cases e5), upd_ne (ne_of_none e5 ha)]
          exact e5
        · rw [List.getElem?_append_right (by omega)] at h1
          have e0 : j - rs.length = 0 := by
            have := (List.getElem?_eq_some_iff.mp h1).1
            simp at this
            omega
          rw [e0] at h1
          have ej : j = i := by omega
          rw [ej, e3] at h2
          rw [← Option.some.inj h2, ← (Option.some.inj h1 : a = b), upd_ne (Ne.symm naf), upd_same]
          rfl
    · rintro σ H3 ⟨rs, lrs, kpA, hfA, newA, trA, v4, v5, v6, v7, v8, v9, rfl⟩
      have e3 : H3 r = some (.frz od (.dK (byN ts qs))) := kpA _ _ (by simpa using nfr) hrl
      refine ⟨e3, _, rfl, ?_⟩
      have ets : ts.take (byN ts qs).length = ts := by rw [lby, List.take_length]
      rw [ets] at hfA
      have su : Same H (upd H3 r (.dK (byN ts qs))) := fun b o e => by
        have nbf : b ≠ f := fun z => by rw [z, hf] at e; cases e
        by_cases hb : b = r
        · rw [hb] at e ⊢
          rw [upd_same, ← e, hR.d]
        · rw [upd_ne hb]
          refine kpA b o (by simpa using nbf) ?_
          rw [← hHl, upd_ne hb]
          exact sf _ _ e
      refine k _ f rs su hf ⟨by rw [upd_ne (Ne.symm nfr)]; exact hfA, by unfold shiftT; rw [List.length_map]; omega, fun j a u h1 h2 => ?_⟩ (fun a ha => ?_)
      · unfold shiftT at h2
        rw [List.getElem?_map] at h2
        cases e5 : ts[j]? with
        | none => rw [e5] at h2; cases h2
        | some t =>
          rw [e5] at h2
          have e6 := trA j a t h1 e5
          rw [upd_ne (fun z => by rw [z, e3] at e6; cases e6), e6, ← Option.some.inj h2]
      · have e7 := newA a ha
        have nar : a ≠ r := fun z => by rw [z, hrl] at e7; cases e7
        rw [← hHl, upd_ne nar] at e7
        exact same_non sf e7
theorem ok_pauses (T : FX P K mg) : FnR P w K mg base CX0 3 (ga K "_law_pauses") spPausesL := by
  refine fnr T.f_w_pauses sc_pauses (fun _ _ _ _ _ _ us hl => match us, hl with | [_, _, _], _ => rfl) (fun vs H Q E h => ?_) (fun cdv A outer s H vs Q E hr h => ?_)
  · obtain ⟨p, c, r, ts, qs, m, n, rfl, _⟩ := h
    rfl
  · obtain ⟨p, c, r, ts, qs, m, n, rfl, pen, hm, hR, hnd, l60, hn1, hn2, k⟩ := h
    have nd := sc_pauses.nd
    have hu := hu_of hr
    refine ⟨_, pss_cons (ps_set (i := 3) nd rfl (Or.inl rfl) pe_dnewK)
      (pss_cons (ps_for PassesOwn.never rfl (pi_list (cl "_law_places" T (ok_places T) (hr.mono (by decide)) (pa_cons (pv 1) pa_nil))) (pg_name (i := 4) nd rfl (Or.inl rfl))
        (pss_cons (ps_set (i := 5) nd rfl (Or.inl rfl) (cl "_law_pick" T (ok_pick T) hr (pa_cons (pv 0) (pa_cons (pe_lst (pa_cons pe_int (pa_cons pe_int (pa_cons pe_int (pa_cons pe_int (pa_cons (pe_op op_sub (pv 2) pe_int) (pa_cons (pv 2) (pa_cons (pe_op op_add (pe_op op_mul pe_int (pv 2)) pe_int) pa_nil)))))))) pa_nil))))
        (pss_one (ps_dput hu (pv 3) (pv 4) (cb "min" T (call_min2 rfl) (pa_cons (ct "int" T call_int1 (pa_cons (pv 5) pa_nil)) (pa_cons (pe_op op_pow pe_int pe_int) pa_nil))) rfl))))
      (pss_one (ps_ret (pv 3)))), ?_⟩
    intro f hf
    have sf : Same H (upd H f (.dK [])) := same_new same_rfl hf
    have pf := pen.nn hf
    refine ⟨_, rfl, r, ts, qs, rfl, hR.up sf, hnd, l60, fun H1 q ys s1 hq hq1 hyn hys hyl => ⟨q, rfl, ⟨_, SqL.of hq1⟩, ?_⟩⟩
    have hf1 := s1 _ _ (upd_same (H := H) (a := f) (o := .dK []))
    have pn1 := (pen.up sf).up s1
    have nqf : q ≠ f := fun z => by rw [z, hf1] at hq1; cases hq1
    have nqp := (pen.up sf).nn hq
    refine for_list (xs := ys.map V.str) (fun i σ H' => ∃ l : List (Str × Int), Kp [p] H H' ∧ H' f = some (.dK (kI l)) ∧ H' q = some (.lst (ys.map V.str)) ∧ keysI l = ys.take i ∧ (∀ x ∈ l, 0 ≤ x.2 ∧ x.2 ≤ 1000000000000) ∧ PenAt H' p c (m + i) ∧ ∃ v4 v5, σ = [some (.ref p), some (.ref r), some (.int n), some (.ref f), v4, v5])
      ⟨[], kp_same (same_tr sf s1), hf1, hq1, rfl, fun x h => (by cases h), pn1.le (by simp), _, _, rfl⟩ (fun i σ H' _ ⟨l, _, _, e, _⟩ => SqL.of e) ?_ ?_
    · rintro i x σ H2 hx ⟨l, kp, hfl, hql, kl, vl, pn, v4, v5, rfl⟩
      rw [List.getElem?_map] at hx
      have hi : i < ys.length := by
        cases e : ys[i]? with
        | none => rw [e] at hx; cases hx
        | some y => exact (List.getElem?_eq_some_iff.mp e).1
      obtain ⟨y, hy⟩ : ∃ y, ys[i]? = some y := ⟨_, List.getElem?_eq_getElem hi⟩
      rw [hy] at hx
      cases hx
      refine asg_by (by_post (fun x H8 => ∃ v : Int, x = .int v ∧ 0 ≤ v ∧ Kp [p] H2 H8 ∧ PenAt H8 p c (m + i + 1)) (fun Q' k' => ?_) ?_)
      · refine ⟨_, rfl, _, rfl, _, _, rfl, rfl, _, rfl, _, rfl, _, _, rfl, rfl, .inl ⟨by decide, by decide⟩, _, _, rfl, rfl, (show (7 : Nat) ≤ sizeLine by decide), fun l1 hl1 => ⟨p, c, l1, _, _, rfl, pn.up (same_new same_rfl hl1), by omega, (pn.nn hl1).1, upd_same, (show (1 : Nat) ≤ 7 by decide), (show (7 : Nat) ≤ 1000 by decide), fun H3 x hx kp3 pn3 => k' x H3 ?_⟩⟩
        have kk := kp_tr (kp_same (same_new (o := .lst _) same_rfl hl1)) kp3
        simp only [List.mem_cons, List.not_mem_nil, or_false] at hx
        rcases hx with hx | hx | hx | hx | hx | hx | hx <;> exact ⟨_, hx, by omega, kk, pn3⟩
      · rintro _ H8 ⟨v, rfl, hv, kp8, pn8⟩
        have hf8 := kp_mem kp8 hfl pf.1
        have hq8 := kp_mem kp8 hql nqp.1
        have ll : l.length ≤ 60 := by
          have := congrArg List.length kl
          unfold keysI at this
          rw [List.length_map, List.length_take] at this
          omega
        refine ⟨_, rfl, .inl ⟨_, rfl, _, _, rfl, rfl, ⟨by decide, by decide, by decide⟩, _, _, rfl, _, rfl, _, rfl, f, _, rfl, DPut.k (k := Sum.inr y) hf8 (by unfold kI; rw [List.length_map, sizeLine_eq]; omega), ?_⟩⟩
        have ltk : ys.take (i + 1) = ys.take i ++ [y] := by rw [List.take_succ, hy]; rfl
        have hnew : y ∉ keysI l := by
          have n1 : (ys.take (i + 1)).Nodup := hyn.sublist (List.take_sublist _ _)
          rw [ltk] at n1
          rw [kl]
          intro z
          exact (List.nodup_append.mp n1).2.2 _ z _ (List.mem_singleton.mpr rfl) rfl
        have z12 : (10 : Int) ^ (12 : Int).toNat = 1000000000000 := rfl
        rw [kI_put, putI, if_neg hnew]
        refine ⟨l ++ [(y, _)], fun b o hb e => ?_, upd_same, by rw [upd_ne nqf]; exact hq8, ?_, fun x hx => ?_, (pn8.upd pf.1 pf.2).le (by omega), _, _, rfl⟩
        · have nbf : b ≠ f := fun z => by rw [z, hf] at e; cases e
          rw [upd_ne nbf]
          exact kp8 b o hb (kp b o hb e)
        · unfold keysI at kl ⊢
          rw [List.map_append, kl, ltk]
          rfl
        · rcases List.mem_append.mp hx with z | z
          · exact vl x z
          · rw [List.mem_singleton.mp z]
            dsimp only
            split <;> omega
    · rintro σ H2 ⟨l, kp, hfl, hql, kl, vl, pn, v4, v5, rfl⟩
      rw [List.length_map] at kl pn
      have kl : keysI l = ys := by rw [kl, List.take_length]
      refine ⟨_, rfl, k H2 f l kp hf hfl (by rw [kl]; exact hyn) (fun x hx => (hys x).mp (by rw [← kl]; exact hx)) vl (pn.le (by omega))⟩
end
end N1
set_option maxHeartbeats 2000000
/-! the law's uneven, fresh -/
namespace N1
open PySem PySem.Spec PyProof.Rows L2
theorem nx_seq {σ : L2.St} {H : Hp} {t u : TS} {D : Ends} {rt : VK} {bk ct : L2.St → Hp → Prop} (h : t { D with nx := u D } σ H) : Ends.nx { nx := tSeq t u D, rt := rt, bk := bk, ct := ct } σ H := h
theorem tup_by {t : TA} {σ : L2.St} {H : Hp} {Q : VK} (h : t σ H fun xs H1 => xs.length ≤ sizeLine ∧ ∀ p, H1 p = none → Q (.ref p) (upd H1 p (.tup xs))) : tTup t σ H Q := h
theorem cons_by {ta : TE} {tr : TA} {σ : L2.St} {H : Hp} {Q : List V → Hp → Prop} (h : ta σ H fun x H1 => tr σ H1 fun xs H2 => Q (x :: xs) H2) : tCons ta tr σ H Q := h
/-- a comprehension over the rows of a dict that is locked meanwhile: f of each trip -/
theorem rows_lc {g : TG} {te : TE} {vs : List Nat} {σ : L2.St} {H : Hp} {r i0 : Nat} {ts : List TR} {qs : List Addr} {Q : VK} (hR : RowsAt H r ts qs) (l60 : ts.length ≤ 60) (f : TR → V) (hv : σ[i0]? = some (some (.ref r)))
    (hst : ∀ (t : TR) (q : Addr) (i : Nat) (H' : Hp) (Qk : VK), ts[i]? = some t → qs[i]? = some q → RowsR H' r ts qs → Qk (f t) H' → g (.str t.name) (wipe σ vs) H' fun σ2 H2 => wipe σ2 vs = wipe σ vs ∧ te σ2 H2 Qk)
    (k : ∀ H' D, Same H H' → H D = none → H' D = some (.lst (ts.map f)) → Q (.ref D) H') : tLockE (tLc (iKeys (tVar i0)) g tYes te vs) σ H Q := by
  have lby := byN_len (ts := ts) (qs := qs) hR.l.symm
  refine ⟨r, _, hR.d, trivial, fun od => ⟨_, hv, r, od, rfl, .inl ⟨_, upd_same, fun D hD => lc_f walk_keys (fun i => (ts[i]?).map f) hD (by omega) (fun H' s => s _ _ upd_same) ?_ ?_⟩⟩⟩
  · rintro i v Ha Hb kk k0 hi sa ⟨rfl, key, val, hkv, rfl⟩ h2 h3
    obtain ⟨t, q, e1, e2, rfl, rfl⟩ := row_at hkv
    have rr := (hR.lock (od := od)).up sa
    exact hst t q i _ _ e1 e2 rr (h2 _ _ (by rw [e1]; rfl) same_rfl)
  · intro H3 s3 hL3
    rw [lby, range_map_] at hL3
    have nDr : D ≠ r := fun z => by rw [z, upd_same] at hD; cases hD
    have su := unlock_same s3 hR.d
    exact ⟨s3 _ _ upd_same, k _ D su (by rw [upd_ne nDr] at hD; exact hD) (by rw [upd_ne nDr, hL3])⟩
/-- sorted(set(texts)) -/
theorem srt_set {K : PySem.W.Frag} {w : World} {te : TE} {σ : L2.St} {H : Hp} {Q : VK} (xs : List Str) (l : xs.length ≤ 200)
    (he : ∀ Qk : VK, (∀ H' D, Same H H' → H' D = some (.lst (xs.map V.str)) → Qk (.ref D) H') → te σ H Qk)
    (k : ∀ H' q (ys : List Str), Same H H' → H q = none → H' q = some (.lst (ys.map V.str)) → sortedS ys = true → ys.Nodup → (∀ y, y ∈ ys ↔ y ∈ xs) → ys.length ≤ xs.length → Q (.ref q) H') :
    tCB (rSortedSetS w) (tCons (tCB (rSetOfS K w) (tCons te tNil)) tNil) σ H Q := by
  refine he _ fun H1 D s1 hD => ⟨D, xs, rfl, SqL.of hD, by omega, fun p n hn hp => ⟨p, _, n, rfl, upd_same, by omega, fun ns q h1 h2 h3 h4 hq => ?_⟩⟩
  have s4 := same_new (o := SetSO w p (fun k => xs.any (· == k)) n) s1 hp
  refine k _ q ns (same_new s4 hq) ?_ upd_same h1 h2 (fun y => ?_) (by omega)
  · cases z : H q with
    | none => rfl
    | some o => rw [s4 _ _ z] at hq; cases hq
  · rw [h3, List.any_eq_true]
    constructor
    · rintro ⟨z, hz, e⟩
      rw [← eq_of_beq e]
      exact hz
    · intro hy
      exact ⟨y, hy, by simp⟩
def spUneven : Sp := fun vs H Q _ => ∃ (r : Addr) (ts : List TR) (qs : List Addr), vs = [.ref r] ∧ RowsAt H r ts qs ∧ (names ts).Nodup ∧ ts.length ≤ 60 ∧
  ∀ H' q (zs : List V), Same H H' → H q = none → H' q = some (.lst zs) → (zs = [] ↔ (starts ts).Perm (goals ts)) → Q (.ref q) H'
theorem count_perm {xs ys zs : List Str} (h : ∀ y, y ∈ zs ↔ y ∈ xs ++ ys) : (zs.filterMap fun y => if xs.count y ≠ ys.count y then some (V.str y) else none) = [] ↔ xs.Perm ys := by
  rw [List.filterMap_eq_nil_iff]
  constructor
  · intro q
    refine List.perm_iff_count.mpr fun y => ?_
    by_cases hm : y ∈ xs ++ ys
    · have := q y ((h y).mpr hm)
      by_cases e : xs.count y = ys.count y
      · exact e
      · rw [if_pos e] at this; cases this
    · rw [List.mem_append, not_or] at hm
      rw [List.count_eq_zero_of_not_mem hm.1, List.count_eq_zero_of_not_mem hm.2]
  · intro p y _
    rw [if_neg (by rw [p.count_eq]; exact fun z => z rfl)]
/-- the same, the list told -/
def spUneven2 : Sp := fun vs H Q _ => ∃ (r : Addr) (ts : List TR) (qs : List Addr), vs = [.ref r] ∧ RowsAt H r ts qs ∧ (names ts).Nodup ∧ ts.length ≤ 60 ∧
  ∀ H' q (ys : List Str), Same H H' → H q = none → H' q = some (.lst ((ys.filter (bad ts)).map V.str)) → sortedS ys = true → ys.Nodup → (∀ y, y ∈ ys ↔ y ∈ starts ts ++ goals ts) → Q (.ref q) H'
theorem bad_fm (ts : List TR) : ∀ ys : List Str, (ys.filterMap fun y => if (starts ts).count y ≠ (goals ts).count y then some (V.str y) else none) = (ys.filter (bad ts)).map V.str
  | [] => rfl
  | y :: ys => by
    by_cases e : (starts ts).count y ≠ (goals ts).count y
    · have eb : bad ts y = true := decide_eq_true e
      rw [List.filterMap_cons, if_pos e, List.filter_cons_of_pos eb, List.map_cons, bad_fm ts ys]
    · have eb : ¬ bad ts y = true := fun z => e (of_decide_eq_true z)
      rw [List.filterMap_cons, if_neg e, List.filter_cons_of_neg eb, bad_fm ts ys]
section
variable {P : Program} {w : World} {K : PySem.W.Frag} {mg : Str → Option Value} {base : Heap}
theorem ok_uneven2 (T : FX P K mg) : FnR P w K mg base CX0 1 (ga K "_law_uneven") spUneven2 := by
  refine fnr T.f_w_uneven sc_uneven (fun _ _ _ _ _ _ us hl => match us, hl with | [_], _ => rfl) (fun vs H Q E h => ?_) (fun cdv A outer s H vs Q E hr h => ?_)
  · obtain ⟨r, ts, qs, rfl, _⟩ := h
    rfl
  · obtain ⟨r, ts, qs, rfl, hR, hnd, l60, k⟩ := h
    have nd := sc_uneven.nd
    have hu := hu_of hr
    refine ⟨_, pss_cons (ps_asg (pe_tup (pa_cons
        (pe_lock (pe_lc (own := [("_law_name", 1)]) (g := gName 1) (tt := tYes) (te := tOp (rIxT K) (tDGet (tVar 0) (tVar 1)) (tC (.int 1))) rfl nd (pi_keys (pv 0)) (blkOk_by (N := ["_law_rows_here", "_law_name", "_law_starts", "_law_goals", "_law_place", "_law_some"]) (sc := defScope w_uneven) (by decide +kernel))
          (fun _ _ _ _ _ => pg_name (i := 1) nd rfl (Or.inl rfl)) (fun _ _ _ _ _ => pts_nil) (fun _ _ _ _ _ => pe_ix ix_tup (pe_dget hu (pv 0) (pv 1) (fun _ _ => rfl)) pe_int (fun _ _ => rfl)))) (pa_cons
        (pe_lock (pe_lc (own := [("_law_name", 1)]) (g := gName 1) (tt := tYes) (te := tOp (rIxT K) (tDGet (tVar 0) (tVar 1)) (tC (.int 4))) rfl nd (pi_keys (pv 0)) (blkOk_by (N := ["_law_rows_here", "_law_name", "_law_starts", "_law_goals", "_law_place", "_law_some"]) (sc := defScope w_uneven) (by decide +kernel))
          (fun _ _ _ _ _ => pg_name (i := 1) nd rfl (Or.inl rfl)) (fun _ _ _ _ _ => pts_nil) (fun _ _ _ _ _ => pe_ix ix_tup (pe_dget hu (pv 0) (pv 1) (fun _ _ => rfl)) pe_int (fun _ _ => rfl)))) pa_nil)))
        (pg_tup rfl (pgs_cons (pg_name (i := 2) nd rfl (Or.inr rfl)) (pgs_cons (pg_name (i := 3) nd rfl (Or.inr rfl)) pgs_nil))))
      (pss_cons (ps_set (i := 5) nd rfl (Or.inl rfl) (cb "sorted" T (cr_sortedSetS rfl) (pa_cons (ct "set" T (cr_setOfS rfl) (pa_cons (pe_lc (own := [("_law_place", 4)]) (g := gName 4) (tt := tYes) (te := tCB rStr1 (tCons (tVar 4) tNil)) rfl nd (pi_list (pe_op op_cat (pv 2) (pv 3))) (blkOk_by (N := ["_law_rows_here", "_law_name", "_law_starts", "_law_goals", "_law_place", "_law_some"]) (sc := defScope w_uneven) (by decide +kernel))
          (fun _ _ _ _ _ => pg_name (i := 4) nd rfl (Or.inl rfl)) (fun _ _ _ _ _ => pts_nil) (fun _ _ _ _ _ => ct "str" T SkE.call_str_str (pa_cons (pv 4) pa_nil))) pa_nil)) pa_nil)))
      (pss_one (ps_ret (pe_lc (own := [("_law_place", 4)]) (g := gName 4) (tt := tTest (tOp rNe (tBM K "list" (rCntS K) (tVar 2) (tCons (tVar 4) tNil)) (tBM K "list" (rCntS K) (tVar 3) (tCons (tVar 4) tNil)))) (te := tVar 4) rfl nd (pi_list (pv 5)) (blkOk_by (N := ["_law_rows_here", "_law_name", "_law_starts", "_law_goals", "_law_place", "_law_some"]) (sc := defScope w_uneven) (by decide +kernel))
          (fun _ _ _ _ _ => pg_name (i := 4) nd rfl (Or.inl rfl)) (fun _ _ _ _ _ => pts_one (pt_cmpR op_ne (pe_bm PySem.F.plainAttrs_list PySem.F.slot_list_count PySem.F.type_list_count mt_lcountS (pv 2) (pa_cons (pv 4) pa_nil)) (pe_bm PySem.F.plainAttrs_list PySem.F.slot_list_count PySem.F.type_list_count mt_lcountS (pv 3) (pa_cons (pv 4) pa_nil)) (nomark _))) (fun _ _ _ _ _ => pv 4))))), ?_⟩
    refine seq_by (asg_by (tup_by (cons_by (rows_lc hR l60 (fun t => V.str t.start) (by exact rfl) (fun t q i H' Qk e1 e2 rr z => ⟨rfl, _, rfl, _, rfl, r, _, rfl, rr.get hnd e1 e2, q, _, 1, _, rfl, rfl, SqT.of (rr.t _ _ _ e2 e1), rfl, z⟩) fun H1 D1 s1 n1 hD1 => ?_))))
    refine cons_by (rows_lc (hR.up s1) l60 (fun t => V.str t.goal) (by exact rfl) (fun t q i H' Qk e1 e2 rr z => ⟨rfl, _, rfl, _, rfl, r, _, rfl, rr.get hnd e1 e2, q, _, 4, _, rfl, rfl, SqT.of (rr.t _ _ _ e2 e1), rfl, z⟩) fun H2 D2 s2 n2 hD2 => ?_)
    refine ⟨(show (2 : Nat) ≤ sizeLine by decide), fun tp htp => ⟨tp, _, rfl, SqT.of upd_same, rfl, _, _, rfl, _, _, rfl, rfl, ?_⟩⟩
    have s3 := same_new (o := .tup [V.ref D1, V.ref D2]) s2 htp
    have ls : (starts ts).length = ts.length := by unfold starts; rw [List.length_map]
    have lg : (goals ts).length = ts.length := by unfold goals; rw [List.length_map]
    have es : ts.map (fun t => V.str t.start) = (starts ts).map V.str := by unfold starts; rw [List.map_map]; rfl
    have eg : ts.map (fun t => V.str t.goal) = (goals ts).map V.str := by unfold goals; rw [List.map_map]; rfl
    rw [es] at hD1
    rw [eg] at hD2
    generalize hH3 : upd H2 tp (.tup [V.ref D1, V.ref D2]) = H3 at s3
    have h31 := s3 _ _ hD1
    have h32 : H3 D2 = some (.lst ((goals ts).map V.str)) := by rw [← hH3, upd_ne (ne_of_none hD2 htp)]; exact hD2
    refine nx_seq (asg_by (srt_set (starts ts ++ goals ts) (by rw [List.length_append]; omega) (fun Qk kq => ?_) fun H4 q4 ys s4 nq4 hq4 ysrt ynd ymem ylen => ?_))
    · refine ⟨_, rfl, _, rfl, D1, D2, _, _, rfl, rfl, h31, h32, by rw [List.length_map, List.length_map, sizeLine_eq]; omega, fun p hp => ⟨p, rfl, ⟨_, SqL.of upd_same⟩, fun D hD => ?_⟩⟩
      rw [← List.map_append] at hD ⊢
      have sp : Same H3 (upd H3 p (.lst ((starts ts ++ goals ts).map V.str))) := same_new same_rfl hp
      refine lc_f walk_list (fun i => ((starts ts ++ goals ts)[i]?).map V.str) hD (by rw [List.length_map, List.length_append]; omega) (fun H' s => SqL.of (s _ _ upd_same)) ?_ ?_
      · rintro i v Ha Hb kk k0 hi sa ⟨rfl, hx⟩ h2 h3
        rw [List.getElem?_map] at hx
        cases e : (starts ts ++ goals ts)[i]? with
        | none => rw [e] at hx; cases hx
        | some y =>
          rw [e] at hx
          cases hx
          exact ⟨rfl, _, rfl, _, rfl, h2 _ _ (by rw [e]; rfl) same_rfl⟩
      · intro H5 s5 hL5
        rw [List.length_map, range_map_] at hL5
        exact kq H5 D (same_tr sp s5) hL5
    · have h41 := s4 _ _ h31
      have h42 := s4 _ _ h32
      refine ⟨_, rfl, q4, rfl, ⟨_, SqL.of hq4⟩, fun D hD => ?_⟩
      refine lc_f walk_list (fun i => (ys[i]?).bind fun y => if (starts ts).count y ≠ (goals ts).count y then some (V.str y) else none) hD (by rw [List.length_map]; rw [List.length_append] at ylen; omega) (fun H' s => SqL.of (s _ _ hq4)) ?_ ?_
      · rintro i v Ha Hb kk k0 hi sa ⟨rfl, hx⟩ h2 h3
        rw [List.getElem?_map] at hx
        cases e : ys[i]? with
        | none => rw [e] at hx; cases hx
        | some y =>
          rw [e] at hx
          cases hx
          refine ⟨rfl, _, rfl, .inl ⟨rfl, _, SqL.of (sa _ _ h41)⟩, _, rfl, D1, starts ts, y, rfl, rfl, SqL.of (sa _ _ h41), _, rfl, .inl ⟨rfl, _, SqL.of (sa _ _ h42)⟩, _, rfl, D2, goals ts, y, rfl, rfl, SqL.of (sa _ _ h42), rfl, _, rfl, ?_⟩
          by_cases ec : (starts ts).count y = (goals ts).count y
          · rw [ec]
            rw [show (!decide (V.int (((goals ts).count y : Nat) : Int) = V.int (((goals ts).count y : Nat) : Int))) = false from by simp]
            exact h3 (by rw [e]; show (if _ then _ else _) = _; rw [if_neg (fun z => z ec)]) _ same_rfl
          · rw [show (!decide (V.int (((starts ts).count y : Nat) : Int) = V.int (((goals ts).count y : Nat) : Int))) = true from by simp; omega]
            exact ⟨_, rfl, h2 _ _ (by rw [e]; show (if _ then _ else _) = _; rw [if_pos ec]) same_rfl⟩
      · intro H5 s5 hL5
        rw [List.length_map, range_fm] at hL5
        have sall := same_tr (same_tr s1 s3) (same_tr s4 s5)
        rw [bad_fm] at hL5
        refine k H5 D ys sall ?_ hL5 ysrt ynd ymem
        cases z : H D with
        | none => rfl
        | some o => rw [same_tr (same_tr s1 s3) s4 _ _ z] at hD; cases hD
theorem ok_uneven (T : FX P K mg) : FnR P w K mg base CX0 1 (ga K "_law_uneven") spUneven := by
  refine (ok_uneven2 T).imp fun vs H Q E h => ?_
  obtain ⟨r, ts, qs, e, hR, hnd, l60, k⟩ := h
  refine ⟨r, ts, qs, e, hR, hnd, l60, fun H' q ys s n hq _ _ hm => k H' q _ s n hq ?_⟩
  rw [← bad_fm]
  exact count_perm hm
end
end N1
set_option maxHeartbeats 2000000
/-! Board.twin -/
namespace N1
open PySem PySem.Spec PyProof.Rows L2
theorem tabN (n : Int) : TabOk n [] := ⟨List.Pairwise.nil, by decide, fun t h => (by cases h), ⟨[], by decide, fun t h => (by cases h)⟩, fun p => rfl⟩
theorem stN : st [] = [] := List.eq_nil_of_length_eq_zero (by
  have h : (names (st [])).length = 0 := by rw [names_st, sn_length]; rfl
  unfold names at h
  rw [List.length_map] at h
  exact h)
/-- what stands new, and is changed from then on -/
theorem gx_onto {G H G1 H1 Hx G2 H2 : Hp} {b : Addr} (a : Gx [] G H G1 H1) (s : Same H1 Hx) (hb : H b = none) (c : Gx [b] G1 Hx G2 H2) : Gx [] G H G2 H2 := by
  have k2 : ∀ x o, H x = some o → H2 x = some o := fun x o e => c.kp x o (by
    have : x ≠ b := fun z => by rw [z, hb] at e; cases e
    simpa using this) (s _ _ (a.kp x o (by simp) e))
  refine ⟨same_tr a.gg c.gg, c.gh, fun x o _ e => k2 x o e, fun x e => ?_, fun x e => ?_⟩
  · cases z : H x with
    | none => exact absurd z e
    | some o => rw [k2 x o z]; intro y; cases y
  · rcases c.fr x e with h | h
    · exact a.fr x h
    · refine .inr ?_
      cases z : H x with
      | none => rfl
      | some o => rw [s _ _ (a.kp x o (by simp) z)] at h; cases h
def spTwin (K : PySem.W.Frag) : Sp := fun vs H Q _ => ∃ (G : Hp) (b : Addr) (s : Sn) (L : List Sn), vs = [.ref b] ∧ Same G H ∧ BrdAt K G H b s L ∧ ∀ H' G' t, Gx [] G H G' H' → H t = none → BrdAt K G' H' t s [] → Q (.ref t) H'
section
variable {P : Program} {w : World} {K : PySem.W.Frag} {mg : Str → Option Value} {base : Heap}
theorem ok_BoardTwin (T : FX P K mg) : FnR P w K mg base CX0 6 (ma K (ga K "Board") "twin") (spTwin K) := by
  refine fnr T.f_BoardTwin sc_BoardTwin (fun _ _ _ _ _ _ us hl => match us, hl with | [_], _ => rfl) (fun vs H Q E h => ?_) (fun cdv A outer s H vs Q E hr h => ?_)
  · obtain ⟨G, b, s, L, rfl, _⟩ := h
    rfl
  · obtain ⟨G, b, S, L, rfl, gs, ⟨dx, p, d, t, q, hb, hGb, ⟨hd, hp, ht⟩, hL⟩, k⟩ := h
    have c := brC T
    have nd := sc_BoardTwin.nd
    refine ⟨_, pss_cons (ps_set (i := 1) nd rfl (Or.inl rfl) (StX.pe_makeR (T.mkr "Board" (by decide +kernel)) (ok_BoardInit T) hr rfl (T.glo "Board" (by decide +kernel)) pass0
        (pa_cons (StX.pe_makeR (T.mkr "Table" (by decide +kernel)) (ok_TableInit T) (hr.mono (by decide)) rfl (T.glo "Table" (by decide +kernel)) pass0 (pa_cons (pe_fld (pv 0) rfl) pa_nil)) (pa_cons (pe_fld (pv 0) rfl) pa_nil))))
      (pss_cons (ps_fld (pv 1) (pe_fld (pv 0) rfl) rfl) (pss_one (ps_ret (pv 1)))), ?_⟩
    obtain ⟨dd, hdd⟩ := id hd
    refine ⟨_, rfl, b, _, dx, _, _, rfl, hb, c.c, c.n2, rfl, fun xt dxt hxt hdxt hnet => ⟨_, _, [], rfl, (show (0 : Nat) ≤ sizeLine by decide), fun pt hpt => ?_⟩⟩
    have npx : xt ≠ pt := fun z => by rw [← z, upd_same] at hpt; cases hpt
    have sU : Same H (upd (upd (upd H dxt (.own xt)) xt (.ins (ga K "Table") dxt [])) pt (.tup [])) := same_new (same_new (same_new same_rfl hdxt) (by rw [upd_ne (Ne.symm hnet)]; exact hxt)) hpt
    refine ⟨xt, dxt, d, pt, S.n, [], [], rfl, upd_same, ⟨rfl, fun i a t h => by simp at h⟩, ⟨dd, sU _ _ (gs _ _ hdd)⟩, tabN S.n, by rw [upd_ne npx]; exact upd_same, fun H4 dn dp dr rs ys k1 hx' f1 f2 f3 ft r2 r3 sel => ⟨rfl, ?_⟩⟩
    have s4 : Same H H4 := fun x v e => k1 x v (fun z => by rw [z, hxt] at e; cases e) (sU _ _ e)
    obtain ⟨oN, hoN, e1⟩ := ft
    obtain ⟨G4, g4, _, fz⟩ := frz_all ((Gx.refl (M := []) gs).same s4)
    have tb : TableAt K G4 xt S.n [] := by
      refine ⟨dxt, d, dn, dp, dr, rs, fz _ _ hxt hx', hd.up g4.gg, ⟨oN, hoN, ?_⟩, fz _ _ (same_non sU f3) r3, ?_⟩
      · rw [← names_st, stN] at e1
        exact fz _ _ (same_non sU f1) e1
      · have z := sel.trs (K := K) (G := G4) ⟨rfl, fun i a t h => by simp at h⟩
        rw [stN] at z
        exact z
    have hb4 := s4 _ _ hb
    refine ⟨_, rfl, b, _, dx, _, _, rfl, hb4, c.c, c.n1, rfl, fun b2 dx2 hb2 hdx2 hne2 => ?_⟩
    have sx : Same H4 (upd (upd H4 dx2 (.own b2)) b2 (.ins (ga K "Board") dx2 [])) := same_new (same_new same_rfl hdx2) (by rw [upd_ne (Ne.symm hne2)]; exact hb2)
    have hb20 : H b2 = none := same_non s4 hb2
    refine ⟨G4, b2, xt, p, dx2, S.n, [], S.ps, rfl, same_tr g4.gh sx, same_non g4.gh hb2, upd_same, tb, List.Pairwise.nil, by decide, hp.up g4.gg, fun H6 G6 g6 ⟨dx6, p6, d6, t6, q6, h6, n6, ⟨w1, w2, w3⟩, w4⟩ => ⟨rfl, ?_⟩⟩
    have nb : b ≠ b2 := fun z => by rw [z, hb20] at hb; cases hb
    have hb6 : H6 b = some (.ins (cBrd K) dx (brdF p d t q)) := g6.kp _ _ (by simpa using nb) (sx _ _ hb4)
    refine ⟨_, rfl, b, _, dx, _, _, rfl, hb6, c.c, c.n3, rfl, _, rfl, b2, cBrd K, dx6, _, rfl, h6, c.c, c.n3, (show (4 : Nat) < 1000 by decide), ?_⟩
    have g7 := g6.wr (o := .ins (cBrd K) dx6 (brdF p6 d6 t q6)) n6 (.inl List.mem_cons_self)
    have gg : Same G G6 := same_tr g4.gg g6.gg
    exact ⟨_, rfl, k _ G6 b2 (gx_onto g4 sx hb20 g7) hb20 ⟨dx6, p6, d6, t, q6, upd_same, n6, ⟨w1, w2, ht.up gg⟩, w4⟩⟩
end
end N1
set_option maxHeartbeats 2000000
/-! the law's fresh trip, first state -/
namespace N1
open PySem PySem.Spec PyProof.Rows L2
def stD (n : Int) (a r : Addr) : List (Key × V) := [(Sum.inr "length", .int n), (Sum.inr "pauses", .ref a), (Sum.inr "rows", .ref r)]
/-- the law's state at s -/
def StAt (H : Hp) (s : Addr) (S : Sn) : Prop := ∃ (a r : Addr) (qs : List Addr), H s = some (.dK (stD S.n a r)) ∧ H a = some (.dK (kI S.ps)) ∧ RowsAt H r S.ts qs
theorem StAt.up {H H' : Hp} {s : Addr} {S : Sn} (z : Same H H') (h : StAt H s S) : StAt H' s S := let ⟨a, r, qs, h1, h2, h3⟩ := h; ⟨a, r, qs, z _ _ h1, z _ _ h2, h3.up z⟩
def spFresh : Sp := fun vs H Q _ => ∃ (p c r : Addr) (m n : Int) (ts : List TR) (qs : List Addr) (PL : List Str), vs = [.ref p, .int n, .ref r] ∧ PenAt H p c m ∧ m ≤ 900000 ∧ 1 ≤ n ∧ n ≤ 300000000 ∧ RowsAt H r ts qs ∧ ts.length ≤ 60 ∧ (∀ x ∈ names ts, x ∈ NM) ∧
  ∀ (H' : Hp) (z q : Addr) (t : TR), Kp [p] H H' → H z = none → H q = none → H' z = some (.tup [.str t.name, .ref q]) → H' q = some (.tup (rowV t)) → TOk n PL t → PenAt H' p c (m + 6) → Q (.ref z) H'
def spBegun : Sp := fun vs H Q _ => ∃ (G : Hp) (p c : Addr) (m : Int), vs = [.ref p] ∧ Same G H ∧ G p = none ∧ PenAt H p c m ∧ m ≤ 700000 ∧
  ∀ H' G' s S PL, Gx [p] G H G' H' → H s = none → StAt G' s S → StOk 0 PL S → (starts S.ts).Perm (goals S.ts) → PenAt H' p c (m + 170) → Q (.ref s) H'
theorem kp_put {p D : Addr} {H H1 : Hp} {o : HO} (k : Kp [p] H H1) (h : H D = none) : Kp [p] H (upd H1 D o) := fun b v hb e => by
  rw [upd_ne (fun z => by rw [z, h] at e; cases e)]
  exact k b v hb e
theorem RowsAt.frz {G H H' : Hp} {r : Addr} {ts : List TR} {qs : List Addr} (h : RowsAt H' r ts qs) (z : ∀ b o, H b = none → H' b = some o → G b = some o) (hr : H r = none) (hq : ∀ q ∈ qs, H q = none) : RowsAt G r ts qs :=
  ⟨z _ _ hr h.d, h.l, fun i q t a b => z _ _ (hq q (List.mem_of_getElem? a)) (h.t i q t a b)⟩
theorem stD_keys (n : Int) (a r : Addr) : ((stD n a r).map (·.1)).Nodup := by
  show ([Sum.inr "length", Sum.inr "pauses", Sum.inr "rows"] : List Key).Nodup
  decide
section
variable {P : Program} {w : World} {K : PySem.W.Frag} {mg : Str → Option Value} {base : Heap}
theorem ok_fresh (T : FX P K mg) : FnR P w K mg base CX0 3 (ga K "_law_fresh") spFresh := by
  refine fnr T.f_w_fresh sc_fresh (fun _ _ _ _ _ _ us hl => match us, hl with | [_, _, _], _ => rfl) (fun vs H Q E h => ?_) (fun cdv A outer s H vs Q E hr h => ?_)
  · obtain ⟨p, c, r, m, n, ts, qs, PL, rfl, _⟩ := h
    rfl
  · obtain ⟨p, c, r, m, n, ts, qs, PL, rfl, pen, hm, hn1, hn2, hR, l60, hnm, k⟩ := h
    have nd := sc_fresh.nd
    have hu := hu_of hr
    have hr1 : Room 1 _ := hr.mono (by decide)
    refine ⟨_, pss_cons (ps_set (i := 4) nd rfl (Or.inl rfl) (cl "_law_pick" T (ok_pick T) hr (pa_cons (pv 0) (pa_cons (pe_op op_cat (pe_lst (pa_cons pe_str (pa_cons pe_str (pa_cons pe_str (pa_cons pe_str (pa_cons pe_str (pa_cons pe_str pa_nil)))))))
        (cb "sorted" T cr_sortedS (pa_cons (pe_lock (pe_lc (own := [("_law_one", 3)]) (g := gName 3) (tt := tYes) (te := tCB rStr1 (tCons (tVar 3) tNil)) rfl nd (pi_keys (pv 2)) (blkOk_by (N := ["_law_pen_here", "_law_length", "_law_rows_here", "_law_one", "_law_name", "_law_start", "_law_goal", "_law_kind"]) (sc := defScope w_fresh) (by decide +kernel))
          (fun _ _ _ _ _ => pg_name (i := 3) nd rfl (Or.inl rfl)) (fun _ _ _ _ _ => pts_nil) (fun _ _ _ _ _ => ct "str" T SkE.call_str_str (pa_cons (pv 3) pa_nil)))) pa_nil))) pa_nil))))
      (pss_cons (ps_par (i := 5) (j := 6) rfl nd rfl rfl (by decide) rfl rfl (pa_cons (cl "_law_pick" T (ok_pick T) hr (pa_cons (pv 0) (pa_cons (pe_lst (pa_cons pe_str (pa_cons pe_str (pa_cons pe_str pa_nil)))) pa_nil))) (pa_cons (cl "_law_pick" T (ok_pick T) hr (pa_cons (pv 0) (pa_cons (pe_lst (pa_cons pe_str (pa_cons pe_str (pa_cons pe_str pa_nil)))) pa_nil))) pa_nil)) rfl)
      (pss_cons (ps_set (i := 7) nd rfl (Or.inl rfl) (pe_ifExp (pw_and (pt_cmpR op_eq (pv 5) (pv 6) (nomark _)) (pw_and1 (pt_cmpR op_eq (cl "_law_draw" T (ok_draw T) hr1 (pa_cons (pv 0) (pa_cons pe_int pa_nil))) pe_int (nomark _)))).pt pe_str pe_str))
      (pss_one (ps_ret (pe_tup (pa_cons (pv 4) (pa_cons (pe_tup (pa_cons (pv 7) (pa_cons (pv 5) (pa_cons (cl "_law_draw" T (ok_draw T) hr1 (pa_cons (pv 0) (pa_cons (pv 1) pa_nil))) (pa_cons (pe_op op_add pe_int (cl "_law_draw" T (ok_draw T) hr1 (pa_cons (pv 0) (pa_cons (pe_op op_mul pe_int (pv 1)) pa_nil)))) (pa_cons (pv 6) pa_nil)))))) pa_nil))))))), ?_⟩
    have lby := byN_len (ts := ts) (qs := qs) hR.l.symm
    have hPa : AB.map V.str = [V.str "a", .str "b", .str "home"] := rfl
    refine asg_by (by_post (fun x H1 => ∃ nm : Str, x = .str nm ∧ nm ∈ NM ∧ Kp [p] H H1 ∧ PenAt H1 p c (m + 1)) (fun Q' k' => ?_) ?_)
    · refine ⟨_, rfl, (show (6 : Nat) ≤ sizeLine by decide), fun l hl => ?_⟩
      have s1 : Same H (upd H l (.lst [V.str "n", .str "nn", .str "ab", .str "p", .str "zzzzzzzz", .str "later"])) := same_new same_rfl hl
      refine srt_keys (ns := names ts) (hR.up s1).d (byN_keys hR.l.symm) (by unfold names; rw [List.length_map]; omega) (fun od R h => ⟨_, rfl, r, od, rfl, .inl ⟨_, upd_same, h⟩⟩) (fun n H' Qk z => ⟨rfl, _, rfl, _, rfl, z⟩) fun H2 q2 s2 nq2 hq2 => ?_
      have lsn : (sn (names ts)).length ≤ 60 := by rw [sn_length]; unfold names; rw [List.length_map]; omega
      refine ⟨l, q2, _, _, rfl, rfl, s2 _ _ upd_same, hq2, by rw [List.length_map, sizeLine_eq]; show 6 + _ ≤ _; omega, fun q3 hq3 => ?_⟩
      have s3 : Same H2 (upd H2 q3 (.lst ([V.str "n", .str "nn", .str "ab", .str "p", .str "zzzzzzzz", .str "later"] ++ (sn (names ts)).map V.str))) := same_new same_rfl hq3
      have s13 := same_tr s1 (same_tr s2 s3)
      have pn2 := (pen.up s1).up s2
      refine ⟨p, c, q3, m, _, rfl, pen.up s13, by omega, (pn2.nn hq3).1, upd_same, by rw [List.length_append]; show 1 ≤ 6 + _; omega, by rw [List.length_append, List.length_map]; show 6 + _ ≤ _; omega, fun H4 x hx kp4 pn4 => k' x H4 ?_⟩
      have kk := kp_tr (kp_same (M := [p]) s13) kp4
      rcases List.mem_append.mp hx with z | z
      · simp only [List.mem_cons, List.not_mem_nil, or_false] at z
        rcases z with z | z | z | z | z | z <;> exact ⟨_, z, by decide +kernel, kk, pn4⟩
      · obtain ⟨y, hy, e⟩ := List.mem_map.mp z
        exact ⟨y, e.symm, hnm y (mem_sn.mp hy), kk, pn4⟩
    · rintro _ H1 ⟨nm, rfl, hnm1, kp1, pn1⟩
      have pick3 : ∀ (Ha : Hp) (ma : Int) (Qk : VK), PenAt Ha p c ma → ma ≤ 1000000 → (∀ (pl : Str) (Hb : Hp), pl ∈ AB → Kp [p] Ha Hb → PenAt Hb p c (ma + 1) → Qk (.str pl) Hb) →
          ∀ (l : Addr), Ha l = none → ∃ (p' c' a' : Addr) (m' : Int) (xs : List V), ([V.ref p, V.ref l] : List V) = [.ref p', .ref a'] ∧ PenAt (upd Ha l (.lst (AB.map V.str))) p' c' m' ∧ m' ≤ 1000000 ∧ a' ≠ p' ∧ (upd Ha l (.lst (AB.map V.str))) a' = some (.lst xs) ∧ 1 ≤ xs.length ∧ xs.length ≤ 1000 ∧ ∀ H' x, x ∈ xs → Kp [p'] (upd Ha l (.lst (AB.map V.str))) H' → PenAt H' p' c' (m' + 1) → Qk x H' := by
        intro Ha ma Qk pn hma kk l hl
        refine ⟨p, c, l, ma, _, rfl, pn.up (same_new same_rfl hl), hma, (pn.nn hl).1, upd_same, (show (1 : Nat) ≤ 3 by decide), (show (3 : Nat) ≤ 1000 by decide), fun H' x hx kp pn' => ?_⟩
        obtain ⟨pl, hpl, e⟩ := List.mem_map.mp hx
        rw [← e]
        exact kk pl H' hpl (kp_tr (kp_same (same_new same_rfl hl)) kp) pn'
      refine ⟨_, rfl, (show (3 : Nat) ≤ sizeLine by decide), pick3 H1 (m + 1) _ pn1 (by omega) fun sa H2 hsa kp2 pn2 => ⟨_, rfl, (show (3 : Nat) ≤ sizeLine by decide), pick3 H2 (m + 1 + 1) _ pn2 (by omega) fun sb H3 hsb kp3 pn3 => ⟨_, _, rfl, ?_⟩⟩⟩
      refine nx_seq (asg_by (if_by (by_post (fun b H7 => Kp [p] H3 H7 ∧ PenAt H7 p c (m + 4) ∧ (b = true → sa = sb)) (fun Q' k' => ?_) ?_)))
      · refine ⟨_, rfl, _, rfl, rfl, _, rfl, ?_⟩
        cases hq : decide (V.str sa = V.str sb) with
        | false => exact k' false H3 ⟨kp_rfl, pn3.le (by omega), fun z => by cases z⟩
        | true =>
          refine ⟨_, rfl, p, c, _, 2, rfl, by decide, by decide, pn3, by omega, fun H7 e e0 e1 kp7 pn7 => ⟨rfl, _, rfl, k' _ _ ⟨kp7, pn7.le (by omega), fun _ => ?_⟩⟩⟩
          have := of_decide_eq_true hq
          exact V.str.inj this
      · rintro b H7 ⟨kp7, pn7, hb⟩
        refine ⟨_, rfl, _, rfl, _, rfl, _, rfl, _, rfl, p, c, _, n, rfl, hn1, by omega, pn7, by omega, fun H8 lv lv0 lv1 kp8 pn8 => ⟨_, rfl, _, rfl, _, _, rfl, rfl, .inl ⟨by decide, by decide⟩, p, c, _, _, rfl, by omega, by omega, pn8, by omega, fun H9 tk tk0 tk1 kp9 pn9 => ⟨_, _, rfl, rfl, _, rfl, (show (5 : Nat) ≤ sizeLine by decide), fun q hq => ⟨(show (2 : Nat) ≤ sizeLine by decide), fun z hz => ?_⟩⟩⟩⟩
        obtain ⟨t, ht⟩ : ∃ t : TR, t = ⟨!b, nm, sa, lv, 1 + tk, sb⟩ := ⟨_, rfl⟩
        have erow : [(if b = true then V.str "stay" else V.str "run"), V.str sa, V.int lv, V.int (1 + tk), V.str sb] = rowV t := by
          rw [ht]
          cases b <;> rfl
        rw [erow] at hz ⊢
        have kall := kp_tr kp1 (kp_tr kp2 (kp_tr kp3 (kp_tr kp7 (kp_tr kp8 kp9))))
        have nzq : q ≠ z := fun y => by rw [← y, upd_same] at hz; cases hz
        have hz9 : H9 z = none := by rw [upd_ne (Ne.symm nzq)] at hz; exact hz
        have et : ([V.str nm, V.ref q] : List V) = [.str t.name, .ref q] := by rw [ht]
        have s9 := same_new (o := .tup [V.str nm, V.ref q]) (same_new (o := .tup (rowV t)) same_rfl hq) hz
        refine k _ z q t (kp_tr kall (kp_same s9)) (kp_none kall pn9 hz9) (kp_none kall pn9 hq) (by rw [upd_same, et]) (by rw [upd_ne nzq]; exact upd_same) ?_ ((pn9.up s9).le (by omega))
        rw [ht]
        exact ⟨hnm1, lv0, lv1, by dsimp only; omega, by dsimp only; omega, List.mem_append_right _ hsa, List.mem_append_right _ hsb, fun z => hb (by simpa using z)⟩
theorem ok_begun (T : FX P K mg) : FnR P w K mg base CX0 5 (ga K "_law_begun") spBegun := by
  refine fnr T.f_w_begun sc_begun (fun _ _ _ _ _ _ us hl => match us, hl with | [_], _ => rfl) (fun vs H Q E h => ?_) (fun cdv A outer s H vs Q E hr h => ?_)
  · obtain ⟨G, p, c, m, rfl, _⟩ := h
    rfl
  · obtain ⟨G, p, c, m, rfl, gs, hGp, pen, hm, k⟩ := h
    have nd := sc_begun.nd
    refine ⟨_, pss_cons (ps_set (i := 1) nd rfl (Or.inl rfl) (cl "_law_pick" T (ok_pick T) (hr.mono (by decide)) (pa_cons (pv 0) (pa_cons (pe_lst (pa_cons pe_int (pa_cons pe_int (pa_cons pe_int (pa_cons pe_int (pa_cons pe_int pa_nil)))))) pa_nil))))
      (pss_cons (ps_set (i := 2) nd rfl (Or.inl rfl) (cl "_law_rows" T (ok_rows T) hr (pa_cons (pv 0) (pa_cons (pv 1) (pa_cons (pe_op op_add pe_int (cl "_law_draw" T (ok_draw T) (hr.mono (by decide)) (pa_cons (pv 0) (pa_cons pe_int pa_nil)))) pa_nil)))))
      (pss_one (ps_ret (pe_disp (pps_cons pe_str (pv 1) (pps_cons pe_str (cl "_law_pauses" T (ok_pauses T) (hr.mono (by decide)) (pa_cons (pv 0) (pa_cons (pv 2) (pa_cons (pv 1) pa_nil)))) (pps_cons pe_str (pv 2) pps_nil))) rfl rfl (by decide) (by decide))))), ?_⟩
    refine asg_by (by_post (fun x H1 => ∃ n : Int, x = .int n ∧ 7 ≤ n ∧ n ≤ 1440 ∧ Kp [p] H H1 ∧ PenAt H1 p c (m + 1)) (fun Q' k' => ?_) ?_)
    · refine ⟨_, rfl, (show (5 : Nat) ≤ sizeLine by decide), fun l hl => ⟨p, c, l, _, _, rfl, pen.up (same_new same_rfl hl), by omega, (pen.nn hl).1, upd_same, (show (1 : Nat) ≤ 5 by decide), (show (5 : Nat) ≤ 1000 by decide), fun H3 x hx kp3 pn3 => k' x H3 ?_⟩⟩
      have kk := kp_tr (kp_same (M := [p]) (same_new (o := .lst _) same_rfl hl)) kp3
      simp only [List.mem_cons, List.not_mem_nil, or_false] at hx
      rcases hx with hx | hx | hx | hx | hx <;> exact ⟨_, hx, by decide, by decide, kk, pn3⟩
    · rintro _ H1 ⟨n, rfl, hn1, hn2, kp1, pn1⟩
      refine ⟨_, rfl, _, rfl, _, rfl, p, c, _, 6, rfl, by decide, by decide, pn1, by omega, fun H2 d d0 d1 kp2 pn2 => ⟨_, _, rfl, rfl, p, c, _, n, 1 + d, rfl, pn2, by omega, by omega, by omega, by omega, by omega, fun H3 r ts qs PL hPL kp3 hr3 hR hq3 hlen RO pn3 => ?_⟩⟩
      intro sd hsd
      have s4 : Same H3 (upd H3 sd (.dK [])) := same_new same_rfl hsd
      have l6 : ts.length ≤ 60 := by omega
      refine ⟨_, rfl, _, rfl, _, rfl, _, rfl, p, c, r, ts, qs, _, n, rfl, pn3.up s4, by omega, hR.up s4, RO.nd, l6, by omega, by omega, fun H5 f l kp5 hf5 hfl nk kk vk pn5 => ⟨_, rfl, ?_⟩⟩
      have nsp : sd ≠ p := (pn3.nn hsd).1
      refine ⟨kp_mem kp5 upd_same nsp, stD n f r, rfl, (show (3 : Nat) ≤ 15 by decide), ?_⟩
      rw [mergeK_nil (fun q _ => by simp) (stD_keys n f r), List.nil_append]
      have k13 := kp_tr kp1 (kp_tr kp2 kp3)
      have k15 := kp_tr k13 (kp_tr (kp_same s4) kp5)
      have hsd0 := kp_none k13 pn3 hsd
      have k16 := kp_put (o := .dK (stD n f r)) k15 hsd0
      have nsc : sd ≠ c := (pn3.nn hsd).2
      have pn6 := pn5.upd (o := .dK (stD n f r)) nsp nsc
      obtain ⟨G2, g2, _, fz⟩ := frz_all (gx_pen gs hGp k16 pn6)
      have hf0 : H f = none := kp_none (kp_tr k13 (kp_same s4)) (pn3.up s4) hf5
      have hr0 : H r = none := kp_none (kp_tr kp1 kp2) pn2 hr3
      have nsf : f ≠ sd := fun z => by rw [z, upd_same] at hf5; cases hf5
      have hR5 := (hR.up s4).kp kp5 (pn3.up s4)
      have nsr : r ≠ sd := fun z => by rw [z] at hR; have := hR.d; rw [hsd] at this; cases this
      have hR6 : RowsAt (upd H5 sd (.dK (stD n f r))) r ts qs := ⟨by rw [upd_ne nsr]; exact hR5.d, hR5.l, fun i q t a b => by
        have e3 := hR.t i q t a b
        rw [upd_ne (ne_of_none e3 hsd)]
        exact hR5.t i q t a b⟩
      refine k _ G2 sd ⟨n, l, ts⟩ PL g2 hsd0 ⟨f, r, qs, fz _ _ hsd0 upd_same, fz _ _ hf0 (by rw [upd_ne nsf]; exact hfl), hR6.frz fz hr0 (fun q hq => kp_none (kp_tr kp1 kp2) pn2 (hq3 q hq))⟩ ?_ RO.bal (pn6.le (by omega))
      refine ⟨hPL, by dsimp only; omega, by dsimp only; omega, RO.nd, fun t ht => ?_, nk, fun x hx => ⟨?_, vk x hx⟩⟩
      · have o := RO.ok t ht
        exact ⟨List.mem_append_left _ o.nm, o.l0, o.l1, o.t0, o.t1, List.mem_append_left _ o.s, List.mem_append_left _ o.g, o.st⟩
      · have h1 : x.1 ∈ keysI l := List.mem_map_of_mem hx
        obtain ⟨t, ht, e⟩ := List.mem_map.mp (kk _ h1)
        rw [← e]
        exact List.mem_append_left _ (RO.ok t ht).s
end
end N1
set_option maxHeartbeats 2000000
/-! the law's deed: what all ways share -/
namespace N1
open PySem PySem.Spec PyProof.Rows L2
theorem stmt_post {t : TS} {D : Ends} {σ : L2.St} {H : Hp} (R : L2.St → Hp → Prop) (h : ∀ D' : Ends, D'.rt = D.rt → (∀ σ' H', R σ' H' → D'.nx σ' H') → t D' σ H) (k : ∀ σ' H', R σ' H' → D.nx σ' H') : t D σ H := h D rfl k
theorem Gx.mono2 {G H G' H' : Hp} {p b : Addr} (a : Gx [p] G H G' H') : Gx [p, b] G H G' H' := a.mono fun x hx => .inl (by simp at hx ⊢; exact .inl hx)
theorem Gx.mono3 {G H G' H' : Hp} {p b : Addr} (a : Gx [b] G H G' H') : Gx [p, b] G H G' H' := a.mono fun x hx => .inl (by simp at hx ⊢; exact .inr hx)
theorem sLR : ¬ ("length" : Str) = "rows" := by decide
theorem sLP : ¬ ("length" : Str) = "pauses" := by decide
theorem sPR : ¬ ("pauses" : Str) = "rows" := by decide
theorem sRP : ¬ ("rows" : Str) = "pauses" := by decide
theorem sPL : ¬ ("pauses" : Str) = "length" := by decide
theorem sRL : ¬ ("rows" : Str) = "length" := by decide
theorem stD_rows (n : Int) (a r nr : Addr) : putK (stD n a r) (Sum.inr "rows") (.ref nr) = stD n a nr := by
  unfold putK stD
  rw [if_pos (by simp)]
  simp [sLR, sLP, sPR, sRP, sPL, sRL]
theorem stD_pauses (n : Int) (a r na : Addr) : putK (stD n a r) (Sum.inr "pauses") (.ref na) = stD n na r := by
  unfold putK stD
  rw [if_pos (by simp)]
  simp [sLR, sLP, sPR, sRP, sPL, sRL]
theorem stD_len (n k : Int) (a r : Addr) : putK (stD n a r) (Sum.inr "length") (.int k) = stD k a r := by
  unfold putK stD
  rw [if_pos (by simp)]
  simp [sLR, sLP, sPR, sRP, sPL, sRL]
theorem stD_g1 (n : Int) (a r : Addr) : valV (stD n a r) (Sum.inr "length") = some (.int n) := by unfold stD; rw [valV_pos rfl]
theorem stD_g2 (n : Int) (a r : Addr) : valV (stD n a r) (Sum.inr "pauses") = some (.ref a) := by
  unfold stD
  rw [valV_neg (show ¬ (Sum.inr ("length" : Str) : Key) = (Sum.inr ("pauses" : Str) : Key) by decide), valV_pos rfl]
theorem stD_g3 (n : Int) (a r : Addr) : valV (stD n a r) (Sum.inr "rows") = some (.ref r) := by
  unfold stD
  rw [valV_neg (show ¬ (Sum.inr ("length" : Str) : Key) = (Sum.inr ("rows" : Str) : Key) by decide), valV_neg (show ¬ (Sum.inr ("pauses" : Str) : Key) = (Sum.inr ("rows" : Str) : Key) by decide), valV_pos rfl]
theorem dg_len {H : Hp} {s a r : Addr} {n : Int} (h : H s = some (.dK (stD n a r))) : DGet H s (.str "length") (some (.int n)) := by
  have := DGet.k (k := Sum.inr "length") h
  rw [stD_g1] at this
  exact this
theorem dg_pauses {H : Hp} {s a r : Addr} {n : Int} (h : H s = some (.dK (stD n a r))) : DGet H s (.str "pauses") (some (.ref a)) := by
  have := DGet.k (k := Sum.inr "pauses") h
  rw [stD_g2] at this
  exact this
theorem dg_rows {H : Hp} {s a r : Addr} {n : Int} (h : H s = some (.dK (stD n a r))) : DGet H s (.str "rows") (some (.ref r)) := by
  have := DGet.k (k := Sum.inr "rows") h
  rw [stD_g3] at this
  exact this
/-- what is new, and what is frozen, is frozen; the rest is not -/
theorem frz_all2 {M : List Addr} {G H G' H' : Hp} (a : Gx M G H G' H') : ∃ G2, Gx M G H G2 H' ∧ Same G' G2 ∧ (∀ b o, H' b = some o → (H b = none ∨ G' b ≠ none) → G2 b = some o) ∧ ∀ b, H b ≠ none → G2 b = G' b := by
  refine ⟨fun b => match H b with | none => H' b | some _ => G' b, ⟨fun b o e => ?_, fun b o e => ?_, a.kp, a.dom, fun b e => ?_⟩, fun b o e => ?_, fun b o e h0 => ?_, fun b e => ?_⟩
  · have h1 := a.gg _ _ e
    cases hb : H b with
    | none => simp only [hb]; exact a.gh _ _ h1
    | some u => simp only [hb]; exact h1
  · cases hb : H b with
    | none => simp only [hb] at e; exact e
    | some u => simp only [hb] at e; exact a.gh _ _ e
  · cases hb : H b with
    | none => exact .inr rfl
    | some u =>
      simp only [hb] at e
      rcases a.fr b e with z | z
      · exact .inl z
      · rw [hb] at z; cases z
  · cases hb : H b with
    | none => simp only [hb]; exact a.gh _ _ e
    | some u => simp only [hb]; exact e
  · cases hb : H b with
    | none => simp only [hb]; exact e
    | some u =>
      simp only [hb]
      rcases h0 with h0 | h0
      · rw [hb] at h0; cases h0
      · exact frz_get a.gh h0 e
  · cases hb : H b with
    | none => exact absurd hb e
    | some u => simp only [hb]
theorem deed_fin {K : PySem.W.Frag} {G H0 G5 H5 H7 : Hp} {p c b fd a r : Addr} {qs : List Addr} {S' bs : Sn} {L' : List Sn} {m : Int} {Q : Prop}
    (g : Gx [p, b] G H0 G5 H7) (hb0 : H0 b ≠ none) (brd : BrdAt K G5 H5 b bs L') (eb : H7 b = H5 b) (pn : PenAt H7 p c m)
    (h1 : H7 fd = some (.dK (stD S'.n a r))) (h2 : H7 a = some (.dK (kI S'.ps))) (h3 : RowsAt H7 r S'.ts qs)
    (n1 : H0 fd = none) (n2 : H0 a = none ∨ G5 a ≠ none) (n3 : H0 r = none ∨ G5 r ≠ none) (n4 : ∀ q ∈ qs, H0 q = none ∨ G5 q ≠ none)
    (k : ∀ G', Gx [p, b] G H0 G' H7 → PenAt H7 p c m → StAt G' fd S' → BrdAt K G' H7 b bs L' → Q) : Q := by
  obtain ⟨G8, g8, s8, f8, o8⟩ := frz_all2 g
  obtain ⟨dx, pp, d, t, q, e1, e2, e3, e4⟩ := brd
  refine k G8 g8 pn ⟨a, r, qs, f8 _ _ h1 (.inl n1), f8 _ _ h2 n2, f8 _ _ h3.d n3, h3.l, fun i q t x y => f8 _ _ (h3.t i q t x y) (n4 q (List.mem_of_getElem? x))⟩ ⟨dx, pp, d, t, q, by rw [eb]; exact e1, by rw [o8 b hb0]; exact e2, e3.up s8, e4.up s8⟩
theorem put_at {R : Addr → TR → Prop} {ts : List TR} {as : List Addr} {t : TR} {a : Addr} (hl : as.length = ts.length) (h : ∀ (i : Nat) (b : Addr) (u : TR), as[i]? = some b → ts[i]? = some u → R b u) (ht : R a t) :
    (putA ts as t a).length = (putT ts t).length ∧ ∀ (i : Nat) (b : Addr) (u : TR), (putA ts as t a)[i]? = some b → (putT ts t)[i]? = some u → R b u := by
  unfold putT putA
  by_cases hm : t.name ∈ names ts
  · rw [if_pos hm, if_pos hm]
    refine ⟨by rw [List.length_zipWith, List.length_map, hl]; omega, fun i b u e1 e2 => ?_⟩
    rw [List.getElem?_zipWith] at e1
    rw [List.getElem?_map] at e2
    cases h1 : ts[i]? with
    | none => rw [h1] at e2; cases e2
    | some v =>
      cases h2 : as[i]? with
      | none => rw [h1, h2] at e1; cases e1
      | some c =>
        rw [h1, h2] at e1
        rw [h1] at e2
        have e1 : (if v.name = t.name then a else c) = b := by simpa using e1
        have e2 : (if v.name = t.name then t else v) = u := by simpa using e2
        by_cases e : v.name = t.name
        · rw [if_pos e] at e1 e2
          rw [← e1, ← e2]
          exact ht
        · rw [if_neg e] at e1 e2
          rw [← e1, ← e2]
          exact h i c v h2 h1
  · rw [if_neg hm, if_neg hm]
    refine ⟨by simp [hl], fun i b u e1 e2 => ?_⟩
    rcases get_snoc e1 with ⟨hi, e⟩ | ⟨hi, e⟩
    · rcases get_snoc e2 with ⟨hi', e'⟩ | ⟨hi', e'⟩
      · exact h i b u e e'
      · omega
    · rcases get_snoc e2 with ⟨hi', e'⟩ | ⟨hi', e'⟩
      · omega
      · rw [← e, ← e']
        exact ht
theorem putA_mem {ts : List TR} {as : List Addr} {t : TR} {a b : Addr} (h : b ∈ putA ts as t a) : b = a ∨ b ∈ as := by
  unfold putA at h
  by_cases hm : t.name ∈ names ts
  · rw [if_pos hm] at h
    obtain ⟨i, hi, e⟩ := List.getElem_of_mem h
    rw [List.getElem_zipWith] at e
    split at e
    · exact .inl e.symm
    · exact .inr (e ▸ List.getElem_mem _)
  · rw [if_neg hm] at h
    rcases List.mem_append.mp h with z | z
    · exact .inr z
    · exact .inl (List.mem_singleton.mp z)
theorem putT_len {ts : List TR} {t : TR} : (putT ts t).length ≤ ts.length + 1 := by
  unfold putT
  split <;> simp
/-- rows but one -/
def dropZ (ts : List TR) (qs : List Addr) (x : Str) : List (TR × Addr) := (ts.zip qs).filter fun z => decide (z.1.name ≠ x)
theorem dropZ_fst {ts : List TR} {qs : List Addr} {x : Str} (h : qs.length = ts.length) : (dropZ ts qs x).map Prod.fst = dropT ts x := by
  unfold dropZ dropT
  induction ts generalizing qs with
  | nil => rfl
  | cons t ts ih =>
    cases qs with
    | nil => simp at h
    | cons q qs =>
      have := ih (qs := qs) (Nat.succ.inj h)
      by_cases e : t.name = x
      · rw [List.zip_cons_cons, List.filter_cons_of_neg (by simpa using e), List.filter_cons_of_neg (by simpa using e)]
        exact this
      · rw [List.zip_cons_cons, List.filter_cons_of_pos (by simpa using e), List.filter_cons_of_pos (by simpa using e), List.map_cons, this]
theorem byN_zip (z : List (TR × Addr)) : byN (z.map Prod.fst) (z.map Prod.snd) = z.map fun u => ((Sum.inr u.1.name : Key), V.ref u.2) := by
  unfold byN
  induction z with
  | nil => rfl
  | cons u z ih => rw [List.map_cons, List.map_cons, List.zipWith_cons_cons, ih, List.map_cons]
def spDeed (K : PySem.W.Frag) : Sp := fun vs H Q _ => ∃ (G : Hp) (p c b sa : Addr) (m k : Int) (PL : List Str) (S : Sn) (L : List Sn), vs = [.ref p, .ref b, .ref sa] ∧ Same G H ∧ G p = none ∧ PenAt H p c m ∧ m ≤ 700000 ∧ StAt G sa S ∧ BrdAt K G H b (bd S) L ∧ StOk k PL S ∧ 0 ≤ k ∧ k ≤ 60 ∧ L.length ≤ 60 ∧
  ∀ H' G' sa' S', Gx [p, b] G H G' H' → PenAt H' p c (m + 20) → StAt G' sa' S' → BrdAt K G' H' b (bd S') (L ++ [bd S]) → StOk (k + 1) PL S' → Q (.ref sa') H'
end N1
set_option maxHeartbeats 2000000
namespace N1
open PySem PySem.Spec PyProof.Rows L2
theorem ifs_by {c : TT} {t u : TS} {D : Ends} {σ : L2.St} {H : Hp} (h : c σ H fun b H1 => if b = true then t D σ H1 else u D σ H1) : tIfS c t u D σ H := h
theorem ifT {A B : Prop} (h : A) : if true = true then A else B := h
theorem ifF {A B : Prop} (h : B) : if false = true then A else B := h
theorem dput_by {td ty tv : TE} {D : Ends} {σ : L2.St} {H : Hp} (h : tv σ H fun v H1 => td σ H1 fun x H2 => ty σ H2 fun y H3 => ∃ a H4, x = .ref a ∧ DPut H3 a y v H4 ∧ D.nx σ H4) : sDPut td ty tv D σ H := h
theorem cb_by {r : List V → Hp → VK → Prop} {t : TA} {σ : L2.St} {H : Hp} {Q : VK} (h : t σ H fun vs H1 => r vs H1 Q) : tCB r t σ H Q := h
theorem nx_one {t : TS} {D : Ends} {σ : L2.St} {H : Hp} {rt : VK} {bk ct : L2.St → Hp → Prop} (h : t D σ H) : Ends.nx { nx := t D, rt := rt, bk := bk, ct := ct } σ H := h
theorem nm_one {i : Nat} {v : V} {σ : L2.St} {H : Hp} {t : TS} {D : Ends} {rt : VK} {bk ct : L2.St → Hp → Prop} (h : t D (σ.set i (some v)) H) : gName i v σ H (Ends.nx { nx := t D, rt := rt, bk := bk, ct := ct }) := h
theorem put_len (l : List (Str × Int)) (x : Str) (n : Int) : (putI l x n).length ≤ l.length + 1 := by
  unfold putI
  split <;> simp
theorem nrm_len (l : List (Str × Int)) : (nrm l).length ≤ l.length := by
  unfold nrm
  rw [List.length_map, sn_length]
  exact Nat.le_trans (List.length_filter_le _ _) (by unfold keysI; rw [List.length_map]; exact Nat.le_refl _)
theorem PaOk.put {l : List (Str × Int)} {x : Str} {n : Int} (h : PaOk l) (hx : NameOk x) (h0 : 0 ≤ n) (h1 : n ≤ 1000000000000) (hl : l.length ≤ 59) : PaOk (putI l x n) :=
  ⟨nodup_put h.nd, fun p hp => (mem_put hp).elim (fun e => by rw [e]; exact hx) (h.nm p), fun p hp => (mem_put hp).elim (fun e => by rw [e]; exact ⟨h0, h1⟩) (h.lo p), by have := put_len l x n; omega⟩
theorem paired_imp {α β : Type} {F F' : α → β → Prop} (h : ∀ a b, F a b → F' a b) : ∀ {l : List α} {m : List β}, PySem.Paired F l m → PySem.Paired F' l m
  | _, _, .nil => .nil
  | _, _, .cons x y => .cons (h _ _ x) (paired_imp h y)
theorem paired_map {α β γ : Type} {F : α → γ → Prop} {g : β → γ} : ∀ {l : List α} {m : List β}, PySem.Paired (fun a b => F a (g b)) l m → PySem.Paired F l (m.map g)
  | _, _, .nil => .nil
  | _, _, .cons x y => .cons x (paired_map y)
theorem dropZ_snoc {ts : List TR} {qs : List Addr} {x : Str} {i : Nat} {t : TR} {q : Addr} (e1 : ts[i]? = some t) (e2 : qs[i]? = some q) : dropZ (ts.take (i + 1)) (qs.take (i + 1)) x = dropZ (ts.take i) (qs.take i) x ++ (if t.name ≠ x then [(t, q)] else []) := by
  have l1 : (ts.take i).length = i := by rw [List.length_take]; have := (List.getElem?_eq_some_iff.mp e1).1; omega
  have l2 : (qs.take i).length = i := by rw [List.length_take]; have := (List.getElem?_eq_some_iff.mp e2).1; omega
  unfold dropZ
  rw [List.take_succ, List.take_succ, e1, e2]
  rw [List.zip_append (by rw [l1, l2]), List.filter_append]
  congr 1
  by_cases e : t.name = x
  · simp [e]
  · simp [e]
theorem dropZ_mem {ts : List TR} {qs : List Addr} {x : Str} {z : TR × Addr} (h : z ∈ dropZ ts qs x) : z.2 ∈ qs := by
  unfold dropZ at h
  have := (List.mem_filter.mp h).1
  exact (List.of_mem_zip this).2
theorem dropZ_at {R : Addr → TR → Prop} {ts : List TR} {qs : List Addr} {x : Str} (h : ∀ (i : Nat) (b : Addr) (u : TR), qs[i]? = some b → ts[i]? = some u → R b u) {z : TR × Addr} (hz : z ∈ dropZ ts qs x) : R z.2 z.1 := by
  unfold dropZ at hz
  obtain ⟨i, hi, e⟩ := List.getElem_of_mem (List.mem_filter.mp hz).1
  rw [List.getElem_zip] at e
  rw [List.length_zip] at hi
  have h1 : ts[i]? = some z.1 := by rw [List.getElem?_eq_getElem (by omega), ← e]
  have h2 : qs[i]? = some z.2 := by rw [List.getElem?_eq_getElem (by omega), ← e]
  exact h i _ _ h2 h1
/-- [(one, rows[one]) for one in rows if one != x] -/
theorem drop_lc {σ : L2.St} {H : Hp} {r : Addr} {ts : List TR} {qs : List Addr} {x : Str} {Q : VK} (hR : RowsAt H r ts qs) (hn : (names ts).Nodup) (l60 : ts.length ≤ 60) (h4 : σ[4]? = some (some (.ref r))) (h7 : σ[7]? = some (some (.str x))) (h9 : 9 < σ.length)
    (k : ∀ H' D ps, Same H H' → H' D = some (.lst (ps.map V.ref)) → PySem.Paired (fun p (z : TR × Addr) => H' p = some (.tup [.str z.1.name, .ref z.2])) ps (dropZ ts qs x) → Q (.ref D) H') :
    tLockE (tLc (iKeys (tVar 4)) (gName 9) (tTest (tOp rNe (tVar 9) (tVar 7))) (tTup (tCons (tVar 9) (tCons (tDGet (tVar 4) (tVar 9)) tNil))) [9]) σ H Q := by
  have lby := byN_len (ts := ts) (qs := qs) hR.l.symm
  have w9 : ∀ (v : V) (j : Nat), j ≠ 9 → ((wipe σ [9]).set 9 (some v))[j]? = σ[j]? := fun v j hj => by
    rw [List.getElem?_set_ne (by omega)]
    show (σ.set 9 none)[j]? = _
    rw [List.getElem?_set_ne (by omega)]
  have w99 : ∀ (v : V), ((wipe σ [9]).set 9 (some v))[9]? = some (some v) := fun v => by
    rw [List.getElem?_set_self]
    show 9 < (σ.set 9 none).length
    rw [List.length_set]
    exact h9
  have ww : ∀ (v : V), wipe ((wipe σ [9]).set 9 (some v)) [9] = wipe σ [9] := fun v => by
    show ((σ.set 9 none).set 9 (some v)).set 9 none = σ.set 9 none
    rw [List.set_set, List.set_set]
  refine ⟨r, _, hR.d, trivial, fun od => ⟨_, h4, r, od, rfl, .inl ⟨_, upd_same, fun D hD => ?_⟩⟩⟩
  have nrD : r ≠ D := fun z => by rw [← z, upd_same] at hD; cases hD
  have hDH : H D = none := by rw [upd_ne (Ne.symm nrD)] at hD; exact hD
  have zl := hR.lock (od := od)
  refine lc_it walk_keys (fun i H' => ∃ ps : List Addr, Kp [D] (upd H r (.frz od (.dK (byN ts qs)))) H' ∧ H' D = some (.lst (ps.map V.ref)) ∧ ps.length ≤ i ∧ PySem.Paired (fun p (z : TR × Addr) => H' p = some (.tup [.str z.1.name, .ref z.2])) ps (dropZ (ts.take i) (qs.take i) x))
    ⟨[], kp_wr kp_rfl (by simp), upd_same, Nat.zero_le _, .nil⟩ (fun i H' _ ⟨ps, kp, _⟩ => kp _ _ (by simpa using nrD) upd_same) ?_ ?_
  · rintro i v Ha Hb hi ⟨ps, kpA, hDA, lps, pr⟩ ⟨rfl, key, val, hkv, rfl⟩
    obtain ⟨t, q, e1, e2, rfl, rfl⟩ := row_at hkv
    have rr : RowsR Hb r ts qs := by
      refine ⟨.inr ⟨od, kpA _ _ (by simpa using nrD) upd_same⟩, zl.l, fun j q' t' h1 h2 => ?_⟩
      have e5 := zl.t j q' t' h1 h2
      exact kpA _ _ (by simpa using ne_of_none e5 hD) e5
    refine ⟨ww _, _, w99 _, _, (w9 _ 7 (by decide)).trans h7, rfl, _, rfl, ?_⟩
    by_cases e : t.name = x
    · rw [show (!decide (kV (Sum.inr t.name) = V.str x)) = false from by simp [kV, e]]
      refine ⟨ps, kpA, hDA, by omega, ?_⟩
      rw [dropZ_snoc e1 e2, if_neg (fun z => z e), List.append_nil]
      exact pr
    · rw [show (!decide (kV (Sum.inr t.name) = V.str x)) = true from by simp [kV, e]]
      refine ⟨_, w99 _, _, (w9 _ 4 (by decide)).trans h4, _, w99 _, r, _, rfl, rr.get hn e1 e2, (show (2 : Nat) ≤ sizeLine by decide), fun p hp => ⟨ps.map V.ref, ?_, by rw [List.length_map, sizeLine_eq]; omega, ps ++ [p], kp_wr (fun b o hb e => ?_) (by simp), by rw [upd_same, List.map_append]; rfl, by rw [List.length_append]; show ps.length + 1 ≤ _; omega, ?_⟩⟩
      · rw [upd_ne (ne_of_none hDA hp)]; exact hDA
      · have e5 := kpA b o hb e
        rw [upd_ne (ne_of_none e5 hp)]
        exact e5
      · rw [dropZ_snoc e1 e2, if_pos e]
        have npD : p ≠ D := fun z => by rw [z, hDA] at hp; cases hp
        refine PySem.Paired.snoc (paired_imp (fun a z h => ?_) pr) ?_
        · rw [upd_ne (fun y => by rw [y, hDA] at h; cases h), upd_ne (ne_of_none h hp)]
          exact h
        · rw [upd_ne npD, upd_same]
          rfl
  · rintro H3 ⟨ps, kpA, hDA, lps, pr⟩
    have e3 : H3 r = some (.frz od (.dK (byN ts qs))) := kpA _ _ (by simpa using nrD) upd_same
    refine ⟨e3, k _ D ps (unlock_kp kpA hR.d hDH) (by rw [upd_ne (Ne.symm nrD)]; exact hDA) ?_⟩
    rw [lby, List.take_length, ← hR.l, List.take_length] at pr
    exact paired_imp (fun a z h => by rw [upd_ne (fun y => by rw [y, e3] at h; cases h)]; exact h) pr
/-- the last step of a way that makes new rows -/
theorem fin_rows {K : PySem.W.Frag} {G H0 G5 H5 H6 : Hp} {p c b fd a r nr : Addr} {n : Int} {qs : List Addr} {S' : Sn} {bs : Sn} {L' : List Sn} {m : Int} {Q : Prop}
    (g : Gx [p, b] G H0 G5 H5) (hb0 : H0 b ≠ none) (brd : BrdAt K G5 H5 b bs L') (s56 : Same H5 H6) (pn : PenAt H5 p c m) (hf5 : H5 fd = some (.dK (stD n a r))) (hfd : H0 fd = none) (hG5 : G5 fd = none)
    (en : S'.n = n) (hA : G5 a = some (.dK (kI S'.ps))) (hR : RowsAt H6 nr S'.ts qs) (hnr : H5 nr = none) (hq : ∀ q ∈ qs, H5 q = none ∨ G5 q ≠ none)
    (k : ∀ G', Gx [p, b] G H0 G' (upd H6 fd (.dK (stD n a nr))) → PenAt (upd H6 fd (.dK (stD n a nr))) p c m → StAt G' fd S' → BrdAt K G' (upd H6 fd (.dK (stD n a nr))) b bs L' → Q) : Q := by
  subst en
  obtain ⟨dx5, c1, c2, c3, c4, hb5, _⟩ := id brd
  have nfb : b ≠ fd := fun z => by rw [z, hf5] at hb5; cases hb5
  have nnf : nr ≠ fd := fun z => by rw [z, hf5] at hnr; cases hnr
  have naf : a ≠ fd := fun z => by rw [z, hG5] at hA; cases hA
  have pf := pn.nl hf5 (fun xs z => by cases z)
  have g7 := (g.same s56).wr (o := .dK (stD S'.n a nr)) hG5 (.inr hfd)
  refine deed_fin (qs := qs) g7 hb0 brd (by rw [upd_ne nfb, hb5]; exact s56 _ _ hb5) ((pn.up s56).upd pf.1 pf.2) upd_same (by rw [upd_ne naf]; exact s56 _ _ (g.gh _ _ hA)) ⟨by rw [upd_ne nnf]; exact hR.d, hR.l, fun i q t h1 h2 => ?_⟩ hfd (.inr (by rw [hA]; intro z; cases z)) (.inl (g.old hnr)) (fun q h => (hq q h).imp (fun y => g.old y) id) k
  have e := hR.t i q t h1 h2
  rw [upd_ne (fun z => by rw [z, s56 _ _ hf5] at e; cases e)]
  exact e
end N1
set_option maxHeartbeats 4000000
/-! the law's deed -/
namespace N1
open PySem PySem.Spec PyProof.Rows L2
abbrev rInt1 : List V → Hp → VK → Prop := fun xs H Q => (∃ i, xs = [.int i] ∧ Q (.int i) H) ∨ ∃ k, xs = [.bl k] ∧ Q (.int (if k then 1 else 0)) H
section
variable {P : Program} {w : World} {K : PySem.W.Frag} {mg : Str → Option Value} {base : Heap}
theorem ok_deed (T : FX P K mg) : FnR P w K mg base CX0 11 (ga K "_law_deed") (spDeed K) := by
  refine fnr T.f_w_deed sc_deed (fun _ _ _ _ _ _ us hl => match us, hl with | [_, _, _], _ => rfl) (fun vs H Q E h => ?_) (fun cdv A outer s H vs Q E hr h => ?_)
  · obtain ⟨G, p, cp, b, sa, m, k, PL, S, L, rfl, _⟩ := h
    rfl
  · obtain ⟨G, p, cp, b, sa, m, k, PL, S, L, rfl, gs, hGp, pen, hm, ⟨a, r, qs, hS, hA, hR⟩, brd, ok, hk0, hk1, hL, kq⟩ := h
    have nd := sc_deed.nd
    have hu := hu_of hr
    have c := brC T
    refine ⟨_, (pss_cons (ps_asg (pe_tup (pa_cons (pe_dget hu (pv 2) pe_str (fun _ _ => rfl)) (pa_cons (pe_dget hu (pv 2) pe_str (fun _ _ => rfl)) (pa_cons (ct "dict" T call_dictD (pa_cons (pv 2) pa_nil)) pa_nil)))) (pg_tup rfl (pgs_cons (pg_name (i := 3) nd rfl (Or.inl rfl)) (pgs_cons (pg_name (i := 4) nd rfl (Or.inr rfl)) (pgs_cons (pg_name (i := 5) nd rfl (Or.inl rfl)) pgs_nil))))) (pss_cons (ps_set (i := 6) nd rfl (Or.inl rfl) (cl "_law_draw" T (ok_draw T) (hr.mono (by decide)) (pa_cons (pv 0) (pa_cons pe_int pa_nil)))) (pss_cons (ps_if (pt_cmpR op_lt (pv 6) pe_int (nomark _)) (pss_cons (ps_asg (cl "_law_fresh" T (ok_fresh T) (hr.mono (by decide)) (pa_cons (pv 0) (pa_cons (pv 3) (pa_cons (pv 4) pa_nil)))) (pg_tup rfl (pgs_cons (pg_name (i := 7) nd rfl (Or.inr rfl)) (pgs_cons (pg_name (i := 8) nd rfl (Or.inl rfl)) pgs_nil)))) (pss_cons (ps_if (pt_cmpR op_eq (pv 6) pe_int (nomark _)) (pss_one (ps_asg (cl "_law_trip" T (ok_trip T) (hr.mono (by decide)) (pa_cons (pv 7) (pa_cons (pv 8) pa_nil))) (pg_sub (pv 1) (pv 7) (set_own T.sfB.2 (T.meth ("Board", "__setitem__") (by decide +kernel)) (ok_BoardSetitem T) (hr.mono (by decide)) pass0) (fun _ => rfl)))) (pss_one (ps_expr (pe_methR (pv 1) c.c (T.meth ("Board", "put") (by decide +kernel)) (ok_BoardPut T) (hr.mono (by decide)) pass0 (pa_cons (cl "_law_trip" T (ok_trip T) (hr.mono (by decide)) (pa_cons (pv 7) (pa_cons (pv 8) pa_nil))) pa_nil))))) (pss_cons (ps_dput hu (pv 5) pe_str (ct "dict" T call_dictD (pa_cons (pv 4) pa_nil)) rfl) (pss_one (ps_dput hu (pe_dget hu (pv 5) pe_str (fun _ _ => rfl)) (pv 7) (pv 8) rfl))))) (pss_one (ps_if (pw_and (pt_cmpR op_eq (pv 6) pe_int (nomark _)) (pw_and1 (pt_cmpR op_gt (cb "len" T call_lenD (pa_cons (pv 4) pa_nil)) pe_int (nomark _)))).pt (pss_cons (ps_set (i := 7) nd rfl (Or.inr rfl) (cl "_law_pick" T (ok_pick T) (hr.mono (by decide)) (pa_cons (pv 0) (pa_cons (cb "sorted" T cr_sortedS (pa_cons (pe_lock (pe_lc (own := [("_law_one", 9)]) (g := gName 9) (tt := tYes) (te := tCB rStr1 (tCons (tVar 9) tNil)) rfl nd (pi_keys (pv 4)) (blkOk_by (N := ["_law_pen_here", "_law_board", "_law_state", "_law_length", "_law_rows_here", "_law_found", "_law_way", "_law_name", "_law_row", "_law_one", "_law_place", "_law_number", "_law_by", "_law_most"]) (sc := defScope w_deed) (by decide +kernel)) (fun _ _ _ _ _ => pg_name (i := 9) nd rfl (Or.inl rfl)) (fun _ _ _ _ _ => pts_nil) (fun _ _ _ _ _ => (ct "str" T SkE.call_str_str (pa_cons (pv 9) pa_nil))))) pa_nil)) pa_nil)))) (pss_cons (ps_expr (pe_methR (pv 1) c.c (T.meth ("Board", "drop") (by decide +kernel)) (ok_BoardDrop T) (hr.mono (by decide)) pass0 (pa_cons (pv 7) pa_nil))) (pss_one (ps_dput hu (pv 5) pe_str (ct "dict" T (call_dictP rfl) (pa_cons (pe_lock (pe_lc (own := [("_law_one", 9)]) (g := gName 9) (tt := tTest (tOp rNe (tVar 9) (tVar 7))) (te := tTup (tCons (tVar 9) (tCons (tDGet (tVar 4) (tVar 9)) tNil))) rfl nd (pi_keys (pv 4)) (blkOk_by (N := ["_law_pen_here", "_law_board", "_law_state", "_law_length", "_law_rows_here", "_law_found", "_law_way", "_law_name", "_law_row", "_law_one", "_law_place", "_law_number", "_law_by", "_law_most"]) (sc := defScope w_deed) (by decide +kernel)) (fun _ _ _ _ _ => pg_name (i := 9) nd rfl (Or.inl rfl)) (fun _ _ _ _ _ => pts_one (pt_cmpR op_ne (pv 9) (pv 7) (nomark _))) (fun _ _ _ _ _ => (pe_tup (pa_cons (pv 9) (pa_cons (pe_dget hu (pv 4) (pv 9) (fun _ _ => rfl)) pa_nil)))))) pa_nil)) rfl)))) (pss_one (ps_if (pt_cmpR op_eq (pv 6) pe_int (nomark _)) (pss_cons (ps_par (i := 10) (j := 11) rfl nd rfl rfl (by decide) rfl rfl (pa_cons (cl "_law_pick" T (ok_pick T) (hr.mono (by decide)) (pa_cons (pv 0) (pa_cons (pe_lst (pa_cons pe_str (pa_cons pe_str (pa_cons pe_str (pa_cons pe_str (pa_cons pe_str pa_nil)))))) pa_nil))) (pa_cons (cl "_law_pick" T (ok_pick T) (hr.mono (by decide)) (pa_cons (pv 0) (pa_cons (pe_lst (pa_cons pe_int (pa_cons pe_int (pa_cons pe_int (pa_cons (pv 3) (pa_cons (pe_op op_pow pe_int pe_int) pa_nil)))))) pa_nil))) pa_nil)) rfl) (pss_cons (ps_expr (pe_methR (pv 1) c.c (T.meth ("Board", "pause") (by decide +kernel)) (ok_BoardPause T) (hr.mono (by decide)) pass0 (pa_cons (pv 10) (pa_cons (pv 11) pa_nil)))) (pss_cons (ps_dput hu (pv 5) pe_str (ct "dict" T call_dictD (pa_cons (pe_dget hu (pv 2) pe_str (fun _ _ => rfl)) pa_nil)) rfl) (pss_one (ps_dput hu (pe_dget hu (pv 5) pe_str (fun _ _ => rfl)) (pv 10) (pv 11) rfl))))) (pss_one (ps_if (pt_cmpR op_in_seq (pv 6) (pe_tup (pa_cons pe_int (pa_cons pe_int pa_nil))) rfl) (pss_cons (ps_set (i := 12) nd rfl (Or.inl rfl) (cl "_law_pick" T (ok_pick T) (hr.mono (by decide)) (pa_cons (pv 0) (pa_cons (pe_lst (pa_cons pe_int (pa_cons pe_int (pa_cons (pv 3) (pa_cons (pe_op op_pow pe_int pe_int) (pa_cons (cl "_law_draw" T (ok_draw T) (hr.mono (by decide)) (pa_cons (pv 0) (pa_cons (pe_op op_mul pe_int (pv 3)) pa_nil))) pa_nil)))))) pa_nil)))) (pss_cons (ps_if (pt_cmpR op_eq (pv 6) pe_int (nomark _)) (pss_one (ps_aug (i := 1) nd rfl (Or.inl rfl) (pv 12) (ip_own T.sfB.1 (T.meth ("Board", "__iadd__") (by decide +kernel)).at_ (T.meth ("Board", "__iadd__") (by decide +kernel)).fn (ok_BoardIadd T) (hr.mono (by decide)) pass0))) (pss_one (ps_aug (i := 1) nd rfl (Or.inl rfl) (pv 12) (ip_own T.sfB.1 (T.meth ("Board", "__isub__") (by decide +kernel)).at_ (T.meth ("Board", "__isub__") (by decide +kernel)).fn (ok_BoardIsub T) (hr.mono (by decide)) pass0)))) (pss_one (ps_dput hu (pv 5) pe_str (cl "_law_later" T (ok_later T) (hr.mono (by decide)) (pa_cons (pv 4) (pa_cons (pv 3) (pa_cons (pe_ifExp (pt_cmpR op_eq (pv 6) pe_int (nomark _)) (pv 12) (pe_op op_sub pe_int (pv 12))) pa_nil)))) rfl)))) (pss_cons (ps_set (i := 13) nd rfl (Or.inl rfl) (pe_ifExp (pt_cmpR op_gt (cb "len" T call_lenD (pa_cons (pv 4) pa_nil)) pe_int (nomark _)) (cb "max" T (cr_max rfl) (pa_cons (pe_lock (pe_lc (own := [("_law_name", 7)]) (g := gName 7) (tt := tYes) (te := tCB rInt1 (tCons (tOp (rIxT K) (tDGet (tVar 4) (tVar 7)) (tC (.int 2))) tNil)) rfl nd (pi_keys (pv 4)) (blkOk_by (N := ["_law_pen_here", "_law_board", "_law_state", "_law_length", "_law_rows_here", "_law_found", "_law_way", "_law_name", "_law_row", "_law_one", "_law_place", "_law_number", "_law_by", "_law_most"]) (sc := defScope w_deed) (by decide +kernel)) (fun _ _ _ _ _ => pg_name (i := 7) nd rfl (Or.inl rfl)) (fun _ _ _ _ _ => pts_nil) (fun _ _ _ _ _ => (ct "int" T call_int1 (pa_cons (pe_ix ix_tup (pe_dget hu (pv 4) (pv 7) (fun _ _ => rfl)) pe_int (fun _ _ => rfl)) pa_nil))))) pa_nil)) pe_int)) (pss_cons (ps_dput hu (pv 5) pe_str (pe_op op_add (pe_op op_add (pv 13) pe_int) (cl "_law_pick" T (ok_pick T) (hr.mono (by decide)) (pa_cons (pv 0) (pa_cons (pe_lst (pa_cons pe_int (pa_cons pe_int (pa_cons (cl "_law_draw" T (ok_draw T) (hr.mono (by decide)) (pa_cons (pv 0) (pa_cons pe_int pa_nil))) (pa_cons (pe_op op_pow pe_int pe_int) pa_nil))))) pa_nil)))) rfl) (pss_one (ps_expr (pe_methR (pv 1) c.c (T.meth ("Board", "set_minutes") (by decide +kernel)) (ok_BoardSet_minutes T) (hr.mono (by decide)) pass0 (pa_cons (pe_dget hu (pv 5) pe_str (fun _ _ => rfl)) pa_nil))))))))))))) (pss_one (ps_ret (pv 5)))))), ?_⟩
    have n2 : S.n ≤ 70000000 := by have := ok.n2; omega
    have n1 := ok.n1
    have l17 := ok.len
    have lby := byN_len (ts := S.ts) (qs := qs) hR.l.symm
    obtain ⟨dxb, b1, b2, b3, b4, hb, hGb, _⟩ := id brd
    have hbp := pen.nl hb (fun xs z => by cases z)
    have hbn : ∀ xs, H b ≠ some (.lst xs) := fun xs z => by rw [hb] at z; cases z
    -- state's three
    refine ⟨_, rfl, sa, _, rfl, dg_len (gs _ _ hS), _, rfl, sa, _, rfl, dg_rows (gs _ _ hS), _, rfl, sa, _, rfl, .inl (gs _ _ hS), fun fd hfd => ⟨(show (3 : Nat) ≤ sizeLine by decide), fun tp htp => ⟨tp, _, rfl, SqT.of upd_same, rfl, _, _, rfl, _, _, rfl, _, _, rfl, rfl, ?_⟩⟩⟩
    have s1 : Same H (upd (upd H fd (.dK (stD S.n a r))) tp (.tup [.int S.n, .ref r, .ref fd])) := same_new (same_new same_rfl hfd) htp
    have nft : fd ≠ tp := fun z => by rw [← z, upd_same] at htp; cases htp
    have hf1 : (upd (upd H fd (.dK (stD S.n a r))) tp (.tup [.int S.n, .ref r, .ref fd])) fd = some (.dK (stD S.n a r)) := by rw [upd_ne nft]; exact upd_same
    generalize hH1 : upd (upd H fd (.dK (stD S.n a r))) tp (.tup [.int S.n, .ref r, .ref fd]) = H1 at s1 hf1
    have hfdp := pen.nn hfd
    have hGfd : G fd = none := same_non gs hfd
    refine nx_seq (asg_by (by_post (fun x H2 => ∃ way : Int, x = .int way ∧ Kp [p] H H2 ∧ PenAt H2 p cp (m + 1) ∧ H2 fd = some (.dK (stD S.n a r))) (fun Q' k' => ?_) ?_))
    · exact ⟨_, rfl, p, cp, m, 9, rfl, by decide, by decide, pen.up s1, by omega, fun H2 e e0 e1 kp2 pn2 => k' _ _ ⟨e, rfl, kp_tr (kp_same s1) kp2, pn2, kp_mem kp2 hf1 hfdp.1⟩⟩
    rintro _ H2 ⟨way, rfl, kp2, pn2, hf2⟩
    have g2 : Gx [p] G H G H2 := gx_pen gs hGp kp2 pn2
    have hnm : ∀ x ∈ names S.ts, x ∈ NM := fun x hx => by
      obtain ⟨t, ht, e⟩ := List.mem_map.mp hx
      exact e ▸ (ok.ok t ht).nm
    have hGa : G a ≠ none := by rw [hA]; intro z; cases z
    have hGr : G r ≠ none := by rw [hR.d]; intro z; cases z
    have hGq : ∀ q ∈ qs, G q ≠ none := fun q hq => by
      obtain ⟨i, hi, e⟩ := List.getElem_of_mem hq
      have hi2 : i < S.ts.length := by have := hR.l; omega
      rw [hR.t i q S.ts[i] (by rw [List.getElem?_eq_getElem hi, e]) (List.getElem?_eq_getElem hi2)]
      intro z; cases z
    have nfb : fd ≠ b := fun z => by rw [z, hb] at hfd; cases hfd
    have nfa : a ≠ fd := fun z => hGa (z ▸ hGfd)
    refine nm_seq (stmt_post (fun σ' H7 => σ'[5]? = some (some (.ref fd)) ∧ ∃ S' G', Gx [p, b] G H G' H7 ∧ PenAt H7 p cp (m + 20) ∧ StAt G' fd S' ∧ BrdAt K G' H7 b (bd S') (L ++ [bd S]) ∧ StOk (k + 1) PL S') (fun D' hrt k' => ?_) ?_)
    · refine ⟨_, rfl, _, _, rfl, rfl, _, rfl, ?_⟩
      cases hw : decide (way < 3) with
      | true =>
        refine ⟨_, rfl, _, rfl, _, rfl, p, cp, r, m + 1, S.n, S.ts, qs, PL, rfl, pn2, by omega, n1, by omega, hR.up g2.gh, by omega, hnm, fun H3 z q t kp3 hz hq hz3 hq3 tok pn3 => ⟨z, _, rfl, SqT.of hz3, rfl, _, _, rfl, _, _, rfl, rfl, ?_⟩⟩
        have kp03 := kp_tr kp2 kp3
        have g3 : Gx [p] G H G H3 := gx_pen gs hGp kp03 pn3
        have hb3 := kp_mem kp03 hb hbp.1
        have hf3 := kp_mem kp3 hf2 hfdp.1
        have hqH : H q = none := kp_none kp2 pn2 hq
        have trip : ∀ H4 ta, H3 ta = none → Same H3 H4 → TripAt K H4 ta t → ∃ G4, Gx [p] G H G4 H4 ∧ TripAt K G4 ta t ∧ BrdAt K G4 H4 b (bd S) L ∧ G4 fd = none := by
          rintro H4 ta hta s34 ⟨dt, ht⟩
          have g4 := (g3.same s34).frz ht (g3.old hta)
          refine ⟨_, g4, ⟨dt, upd_same⟩, brd.up g4 (by simpa using hbp.1), ?_⟩
          rw [upd_ne (ne_of_none hf3 hta)]
          exact hGfd
        have pm : (putT (bd S).ts t).Perm (putT S.ts t) := putT_perm (st_perm ok.nd)
        have ok' := ok.put tok hk0
        have hfew : Few (putT (bd S).ts t) := few_of ok.pl fun u hu => ok'.ok u (pm.mem_iff.mp hu)
        have hlen : (putT (bd S).ts t).length ≤ 40 := by
          have := putT_len (ts := (bd S).ts) (t := t)
          have z := ok.blen
          omega
        refine nx_seq (stmt_post (fun σ' H5 => σ'[4]? = some (some (.ref r)) ∧ σ'[5]? = some (some (.ref fd)) ∧ σ'[7]? = some (some (.str t.name)) ∧ σ'[8]? = some (some (.ref q)) ∧ ∃ G5, Gx [p, b] G H G5 H5 ∧ BrdAt K G5 H5 b (bd ⟨S.n, S.ps, putT S.ts t⟩) (L ++ [bd S]) ∧ Kp [b] H3 H5 ∧ G5 fd = none) (fun D2 hrt2 k2 => ?_) ?_)
        · refine ⟨_, rfl, rfl, _, rfl, ?_⟩
          cases hw0 : decide (V.int way = V.int 0) with
          | true =>
            refine ⟨_, rfl, _, rfl, q, t, rfl, hq3, tok.ok ok.pl (by omega), fun H4 ta hta s34 htr => ?_⟩
            obtain ⟨G4, g4, ht4, brd4, hG4⟩ := trip H4 ta hta s34 htr
            refine ⟨_, rfl, _, rfl, b, rfl, ⟨_, _, s34 _ _ hb3⟩, G4, b, ta, t, bd S, L, rfl, g4.gh, brd4, ok.sw (by omega), ht4, tok.l1, hlen, hfew, fun H5 G5 g5 brd5 => ?_⟩
            rw [bd_put ok] at brd5
            exact k2 _ _ ⟨rfl, rfl, rfl, rfl, G5, g4.mono2.trans g5.mono3, brd5, fun x o hx e => g5.kp x o hx (s34 x o e), g5.unf hG4 (by rw [s34 _ _ hf3]; intro z; cases z)⟩
          | false =>
            refine ⟨_, rfl, b, _, _, rfl, hb3, rfl, _, rfl, _, rfl, q, t, rfl, hq3, tok.ok ok.pl (by omega), fun H4 ta hta s34 htr => ?_⟩
            obtain ⟨G4, g4, ht4, brd4, hG4⟩ := trip H4 ta hta s34 htr
            refine ⟨G4, b, ta, t, bd S, L, rfl, g4.gh, brd4, ok.sw (by omega), ht4, tok.l1, hlen, hfew, fun H5 G5 g5 brd5 => ?_⟩
            rw [bd_put ok] at brd5
            exact k2 _ _ ⟨rfl, rfl, rfl, rfl, G5, g4.mono2.trans g5.mono3, brd5, fun x o hx e => g5.kp x o hx (s34 x o e), g5.unf hG4 (by rw [s34 _ _ hf3]; intro z; cases z)⟩
        · rintro σ' H5 ⟨e4, e5, e7, e8, G5, g5, brd5, k35, hG5⟩
          have pn5 : PenAt H5 p cp (m + 1 + 6) := pn3.kp k35 (fun xs z => by rw [hb3] at z; cases z)
          have hf5 := kp_mem k35 hf3 nfb
          have nqb : q ≠ b := fun z => by rw [z, hb3] at hq3; cases hq3
          have hq5 := kp_mem k35 hq3 nqb
          have hR5 : RowsAt H5 r S.ts qs := hR.up (same_tr g5.gg g5.gh)
          have hA5 := same_tr g5.gg g5.gh _ _ hA
          refine ⟨_, e4, r, _, rfl, .inl hR5.d, fun nr hnr => ⟨_, e5, fd, _, rfl, DPut.k (k := Sum.inr "rows") (kvs := stD S.n a r) (by rw [upd_ne (ne_of_none hf5 hnr)]; exact hf5) (show (3 : Nat) < sizeLine by decide), ?_⟩⟩
          rw [stD_rows]
          have nnf : nr ≠ fd := Ne.symm (ne_of_none hf5 hnr)
          have hnr6 : (upd (upd H5 nr (.dK (byN S.ts qs))) fd (.dK (stD S.n a nr))) nr = some (.dK (byN S.ts qs)) := by rw [upd_ne nnf]; exact upd_same
          refine ⟨_, e8, _, e5, fd, _, rfl, dg_rows upd_same, _, e7, nr, _, rfl, DPut.k (k := Sum.inr t.name) hnr6 (by rw [lby, sizeLine_eq]; omega), ?_⟩
          rw [byN_put hR.l.symm]
          have hGnr : G5 nr = none := same_non g5.gh hnr
          have hHnr : H nr = none := g5.old hnr
          have g7 := (((g5.new (o := .dK (byN S.ts qs)) hnr).wr (o := .dK (stD S.n a nr)) hG5 (.inr hfd)).wr (o := .dK (byN (putT S.ts t) (putA S.ts qs t q))) hGnr (.inr hHnr))
          have pnr := pn5.nn hnr
          have keep : ∀ (x : Addr) (o : HO), H5 x = some o → x ≠ fd → (upd (upd (upd H5 nr (.dK (byN S.ts qs))) fd (.dK (stD S.n a nr))) nr (.dK (byN (putT S.ts t) (putA S.ts qs t q)))) x = some o := fun x o e nf => by
            rw [upd_ne (ne_of_none e hnr), upd_ne nf, upd_ne (ne_of_none e hnr)]
            exact e
          obtain ⟨dx5, c1, c2, c3, c4, hb5, _⟩ := id brd5
          have ntf : ∀ (x : Addr) (u : TR), H5 x = some (.tup (rowV u)) → x ≠ fd := fun x u e z => by rw [z, hf5] at e; cases e
          have pa := put_at (R := fun x u => (upd (upd (upd H5 nr (.dK (byN S.ts qs))) fd (.dK (stD S.n a nr))) nr (.dK (byN (putT S.ts t) (putA S.ts qs t q)))) x = some (.tup (rowV u))) (t := t) (a := q) hR.l (fun i x u h1 h2 => keep x _ (hR5.t i x u h1 h2) (ntf x u (hR5.t i x u h1 h2))) (keep q _ hq5 (ntf q t hq5))
          refine k' _ _ ⟨e5, deed_fin (S' := ⟨S.n, S.ps, putT S.ts t⟩) (m := m + 20) g7 (by rw [hb]; intro z; cases z) brd5 (by rw [keep b _ hb5 (Ne.symm nfb), hb5]) (((((pn5.upd pnr.1 pnr.2).upd hfdp.1 hfdp.2).upd pnr.1 pnr.2)).le (by omega))
            (by rw [upd_ne (Ne.symm nnf)]; exact upd_same) (keep a _ hA5 nfa) ⟨upd_same, pa.1, pa.2⟩ hfd (.inr ?_) (.inl hHnr) (fun x hx => ?_) (fun G' g pn st br => ⟨_, G', g, pn, st, br, ok'⟩)⟩
          · rw [g5.gg _ _ hA]; intro z; cases z
          · rcases putA_mem hx with z | z
            · exact .inl (z ▸ hqH)
            · refine .inr fun y => hGq x z ?_
              exact same_non g5.gg y
      | false =>
        refine ifF (ifs_by (by_post (fun b' H' => H' = H2 ∧ (b' = true → 0 < S.ts.length)) (fun Q' kk => ?_) ?_))
        · refine ⟨_, rfl, rfl, _, rfl, ?_⟩
          cases hw3 : decide (V.int way = V.int 3) with
          | false => exact kk false H2 ⟨rfl, fun z => by cases z⟩
          | true =>
            refine ⟨_, rfl, r, _, rfl, (hR.up g2.gh).d, _, _, rfl, rfl, _, rfl, kk _ _ ⟨rfl, fun z => ?_⟩⟩
            have := of_decide_eq_true z
            rw [lby] at this
            omega
        · rintro b' H' ⟨eH, hpos⟩
          obtain rfl : H2 = H' := eH.symm
          cases b' with
          | true =>
            have hpos := hpos rfl
            refine ifT (asg_by (by_post (fun x H3 => ∃ nm : Str, x = .str nm ∧ nm ∈ names S.ts ∧ Kp [p] H2 H3 ∧ PenAt H3 p cp (m + 2)) (fun Q' kk => ?_) ?_))
            · refine ⟨_, rfl, srt_keys (ns := names S.ts) (hR.up g2.gh).d (byN_keys hR.l.symm) (by unfold names; rw [List.length_map]; omega) (fun od R h => ⟨_, rfl, r, od, rfl, .inl ⟨_, upd_same, h⟩⟩) (fun n H' Qk z => ⟨rfl, _, rfl, _, rfl, z⟩) fun H3 q3 s3 nq3 hq3 => ?_⟩
              have lsn : (sn (names S.ts)).length = S.ts.length := by rw [sn_length]; unfold names; rw [List.length_map]
              refine ⟨p, cp, q3, _, _, rfl, pn2.up s3, by omega, (pn2.nn nq3).1, hq3, by rw [List.length_map]; omega, by rw [List.length_map]; omega, fun H4 x hx kp4 pn4 => ?_⟩
              obtain ⟨y, hy, e⟩ := List.mem_map.mp hx
              exact kk _ _ ⟨y, e.symm, mem_sn.mp hy, kp_tr (kp_same s3) kp4, pn4.le (by omega)⟩
            · rintro _ H3 ⟨nm, rfl, hnm3, kp3, pn3⟩
              have kp03 := kp_tr kp2 kp3
              have g3 := gx_pen gs hGp kp03 pn3
              have hb3 := kp_mem kp03 hb hbp.1
              have hf3 := kp_mem kp3 hf2 hfdp.1
              refine ⟨_, rfl, b, _, _, rfl, hb3, rfl, _, rfl, G, b, nm, bd S, L, rfl, g3.gh, brd.up g3 (by simpa using hbp.1), ok.sw (by omega), ?_, fun H5 G5 g5 brd5 => ?_⟩
              · show nm ∈ names (st S.ts)
                rw [names_st]
                exact mem_sn.mpr hnm3
              · rw [bd_drop ok] at brd5
                have g5' : Gx [p, b] G H G5 H5 := g3.mono2.trans g5.mono3
                have hf5 := g5.kp _ _ (by simpa using nfb) hf3
                have hG5 := g5.unf hGfd (by rw [hf3]; intro z; cases z)
                have pn5 := pn3.kp g5.kp (fun xs z => by rw [hb3] at z; cases z)
                have hR5 : RowsAt H5 r S.ts qs := hR.up (same_tr g5.gg g5.gh)
                refine nx_one (dput_by (cb_by (cons_by (drop_lc hR5 ok.nd (by omega) (by exact rfl) (by exact rfl) (show (9 : Nat) < 14 by decide) fun H6 D ps s56 hD pr => ?_))))
                obtain ⟨kvs, hkvs⟩ : ∃ kvs : List (Key × V), kvs = (dropZ S.ts qs nm).map fun z => ((Sum.inr z.1.name : Key), V.ref z.2) := ⟨_, rfl⟩
                have ekv : kvs = byN (dropT S.ts nm) ((dropZ S.ts qs nm).map Prod.snd) := by rw [hkvs, ← dropZ_fst hR.l, byN_zip]
                have lz : ((dropZ S.ts qs nm).map Prod.snd).length = (dropT S.ts nm).length := by rw [← dropZ_fst hR.l, List.length_map, List.length_map]
                have ok' := ok.drop nm
                have ndk : (kvs.map (·.1)).Nodup := by
                  rw [ekv, byN_keys lz.symm]
                  exact inr_nodup ok'.nd
                refine ⟨D, ps, kvs, rfl, SqL.of hD, by rw [hkvs]; exact paired_map (paired_imp (fun p z h => SqT.of h) pr), fun nr hnr => ⟨_, rfl, fd, _, rfl, DPut.k (k := Sum.inr "rows") (kvs := stD S.n a r) (by rw [upd_ne (ne_of_none (s56 _ _ hf5) hnr)]; exact s56 _ _ hf5) (show (3 : Nat) < sizeLine by decide), ?_⟩⟩
                rw [stD_rows, mergeK_nil (fun q _ => by simp) ndk, List.nil_append]
                refine k' _ _ ⟨rfl, fin_rows (H6 := upd H6 nr (.dK kvs)) (S' := ⟨S.n, S.ps, dropT S.ts nm⟩) (qs := (dropZ S.ts qs nm).map Prod.snd) g5' (by rw [hb]; intro z; cases z) brd5 (same_new s56 hnr) (pn5.le (m' := m + 20) (by omega)) hf5 hfd hG5 rfl (g5.gg _ _ hA) ⟨by rw [upd_same, ekv], lz, fun i x u h1 h2 => ?_⟩ (same_non s56 hnr) (fun x hx => .inr fun y => ?_) (fun G' g pn st br => ⟨_, G', g, pn, st, br, ok'⟩)⟩
                · dsimp only at h2
                  rw [← dropZ_fst (x := nm) hR.l] at h2
                  rw [List.getElem?_map] at h1 h2
                  cases hz : (dropZ S.ts qs nm)[i]? with
                  | none => rw [hz] at h1; cases h1
                  | some z =>
                    rw [hz] at h1 h2
                    have hm := List.mem_of_getElem? hz
                    have := dropZ_at (R := fun x u => H6 x = some (.tup (rowV u))) (fun i q t h1 h2 => s56 _ _ (hR5.t i q t h1 h2)) hm
                    rw [← (Option.some.inj h1 : z.2 = x), ← (Option.some.inj h2 : z.1 = u), upd_ne (ne_of_none this hnr)]
                    exact this
                · obtain ⟨z, hz, e⟩ := List.mem_map.mp hx
                  exact hGq x (e ▸ dropZ_mem hz) (same_non g5.gg y)
          | false =>
            refine ⟨_, rfl, rfl, _, rfl, ?_⟩
            cases hw4 : decide (V.int way = V.int 4) with
            | true =>
              refine ⟨_, rfl, (show (5 : Nat) ≤ sizeLine by decide), fun l1 hl1 => ⟨p, cp, l1, _, _, rfl, pn2.up (same_new same_rfl hl1), by omega, (pn2.nn hl1).1, upd_same, (show (1 : Nat) ≤ 5 by decide), (show (5 : Nat) ≤ 1000 by decide), fun H3 x hx kp3 pn3 => ⟨_, rfl, _, rfl, _, _, rfl, rfl, ⟨by decide, by decide, by decide⟩, (show (5 : Nat) ≤ sizeLine by decide), fun l2 hl2 => ⟨p, cp, l2, _, _, rfl, pn3.up (same_new same_rfl hl2), by omega, (pn3.nn hl2).1, upd_same, (show (1 : Nat) ≤ 5 by decide), (show (5 : Nat) ≤ 1000 by decide), fun H4 y hy kp4 pn4 => ⟨_, _, rfl, ?_⟩⟩⟩⟩⟩
              obtain ⟨pl, rfl, hpl⟩ : ∃ pl : Str, x = .str pl ∧ pl ∈ PK9 PL := by
                simp only [List.mem_cons, List.not_mem_nil, or_false] at hx
                rcases hx with hx | hx | hx | hx | hx <;> exact ⟨_, hx, List.mem_append_right _ (by decide)⟩
              obtain ⟨nu, rfl, hnu0, hnu1⟩ : ∃ nu : Int, y = .int nu ∧ 0 ≤ nu ∧ nu ≤ 1000000000000 := by
                have z12 : (10 : Int) ^ (12 : Int).toNat = 1000000000000 := rfl
                simp only [List.mem_cons, List.not_mem_nil, or_false] at hy
                rcases hy with hy | hy | hy | hy | hy <;> exact ⟨_, hy, by omega, by omega⟩
              have kp24 := kp_tr (kp_same (M := [p]) (same_new (o := .lst _) same_rfl hl1)) (kp_tr kp3 (kp_tr (kp_same (same_new (o := .lst _) same_rfl hl2)) kp4))
              have kp04 := kp_tr kp2 kp24
              have g4 := gx_pen gs hGp kp04 pn4
              have hb4 := kp_mem kp04 hb hbp.1
              have hf4 := kp_mem kp24 hf2 hfdp.1
              have hpn := (pl_ok ok.pl).2.2.2 _ hpl
              have lnr : (bd S).ps.length ≤ 9 := Nat.le_trans (nrm_len S.ps) ok.plen
              refine ⟨_, rfl, b, _, _, rfl, hb4, rfl, _, rfl, _, rfl, G, b, pl, nu, bd S, L, rfl, g4.gh, brd.up g4 (by simpa using hbp.1), ok.sw (by omega), (ok.pa.nrm).put hpn hnu0 hnu1 (by have := lnr; show (nrm S.ps).length ≤ 59; exact Nat.le_trans this (by decide)), hpn, hnu0, hnu1, by omega, fun H5 G5 g5 brd5 => ?_⟩
              rw [bd_pause ok] at brd5
              have g5' : Gx [p, b] G H G5 H5 := g4.mono2.trans g5.mono3
              have hf5 := g5.kp _ _ (by simpa using nfb) hf4
              have hG5 := g5.unf hGfd (by rw [hf4]; intro z; cases z)
              have pn5 := pn4.kp g5.kp (fun xs z => by rw [hb4] at z; cases z)
              have sG5 := same_tr g5.gg g5.gh
              refine ⟨_, rfl, sa, _, rfl, dg_pauses (sG5 _ _ hS), a, _, rfl, .inl (sG5 _ _ hA), fun na hna => ⟨_, rfl, fd, _, rfl, DPut.k (k := Sum.inr "pauses") (kvs := stD S.n a r) (by rw [upd_ne (ne_of_none hf5 hna)]; exact hf5) (show (3 : Nat) < sizeLine by decide), ?_⟩⟩
              rw [stD_pauses]
              have nnf : na ≠ fd := Ne.symm (ne_of_none hf5 hna)
              have hna6 : (upd (upd H5 na (.dK (kI S.ps))) fd (.dK (stD S.n na r))) na = some (.dK (kI S.ps)) := by rw [upd_ne nnf]; exact upd_same
              refine ⟨_, rfl, _, rfl, fd, _, rfl, dg_pauses upd_same, _, rfl, na, _, rfl, DPut.k (k := Sum.inr pl) hna6 (by unfold kI; have := ok.plen; rw [List.length_map, sizeLine_eq]; omega), ?_⟩
              rw [kI_put]
              have hGna : G5 na = none := same_non g5.gh hna
              have hHna : H na = none := g5'.old hna
              have g7 := (((g5'.new (o := .dK (kI S.ps)) hna).wr (o := .dK (stD S.n na r)) hG5 (.inr hfd)).wr (o := .dK (kI (putI S.ps pl nu))) hGna (.inr hHna))
              have pnr := pn5.nn hna
              have keep : ∀ (x : Addr) (o : HO), H5 x = some o → x ≠ fd → (upd (upd (upd H5 na (.dK (kI S.ps))) fd (.dK (stD S.n na r))) na (.dK (kI (putI S.ps pl nu)))) x = some o := fun x o e nf => by
                rw [upd_ne (ne_of_none e hna), upd_ne nf, upd_ne (ne_of_none e hna)]
                exact e
              obtain ⟨dx5, c1, c2, c3, c4, hb5, _⟩ := id brd5
              have hR5 : RowsAt H5 r S.ts qs := hR.up sG5
              have nrf : r ≠ fd := fun z => hGr (z ▸ hGfd)
              refine k' _ _ ⟨rfl, deed_fin (S' := ⟨S.n, putI S.ps pl nu, S.ts⟩) (m := m + 20) (qs := qs) g7 (by rw [hb]; intro z; cases z) brd5 (by rw [keep b _ hb5 (Ne.symm nfb), hb5]) (((((pn5.upd pnr.1 pnr.2).upd hfdp.1 hfdp.2).upd pnr.1 pnr.2)).le (by omega))
                (by rw [upd_ne (Ne.symm nnf)]; exact upd_same) upd_same ⟨keep r _ hR5.d nrf, hR5.l, fun i x u h1 h2 => keep x _ (hR5.t i x u h1 h2) (fun z => by have e := hR5.t i x u h1 h2; rw [z, hf5] at e; cases e)⟩ hfd (.inl hHna) (.inr fun y => hGr (same_non g5.gg y)) (fun x hx => .inr fun y => hGq x hx (same_non g5.gg y)) (fun G' g pn st br => ⟨_, G', g, pn, st, br, ok.pause hpl hnu0 hnu1⟩)⟩
            | false =>
              refine ifF (ifs_by (by_post (fun b' H'' => Same H2 H'') (fun Q' kk => ?_) ?_))
              · exact ⟨_, rfl, (show (2 : Nat) ≤ sizeLine by decide), fun t5 ht5 => ⟨t5, _, rfl, .inr (SqT.of upd_same), rfl, rfl, _, rfl, kk _ _ (same_new same_rfl ht5)⟩⟩
              · rintro b' H3 s23
                have kp3 : Kp [p] H H3 := kp_tr kp2 (kp_same s23)
                have pn3 := pn2.up s23
                have hf3 := s23 _ _ hf2
                have hR3 : RowsAt H3 r S.ts qs := (hR.up g2.gh).up s23
                cases b' with
                | true =>
                  refine ifT (asg_by (by_post (fun x H4 => ∃ by_ : Int, x = .int by_ ∧ Kp [p] H3 H4 ∧ PenAt H4 p cp (m + 3)) (fun Q' kk => ?_) ?_))
                  · refine ⟨_, rfl, _, rfl, _, _, rfl, rfl, ⟨by decide, by decide, by decide⟩, _, rfl, _, rfl, _, _, rfl, rfl, .inl ⟨by decide, by decide⟩, p, cp, _, _, rfl, by omega, by omega, pn3, by omega, fun H4 e e0 e1 kp4 pn4 => ⟨(show (5 : Nat) ≤ sizeLine by decide), fun l hl => ⟨p, cp, l, _, _, rfl, pn4.up (same_new same_rfl hl), by omega, (pn4.nn hl).1, upd_same, (show (1 : Nat) ≤ 5 by decide), (show (5 : Nat) ≤ 1000 by decide), fun H5 x hx kp5 pn5 => kk x H5 ?_⟩⟩⟩
                    have kq2 := kp_tr kp4 (kp_tr (kp_same (same_new (o := .lst _) same_rfl hl)) kp5)
                    simp only [List.mem_cons, List.not_mem_nil, or_false] at hx
                    rcases hx with hx | hx | hx | hx | hx <;> exact ⟨_, hx, kq2, pn5.le (by omega)⟩
                  · rintro _ H4 ⟨by_, rfl, kp34, pn4⟩
                    have kp4 := kp_tr kp3 kp34
                    have g4 := gx_pen gs hGp kp4 pn4
                    have hb4 := kp_mem kp4 hb hbp.1
                    have hf4 := kp_mem kp34 hf3 hfdp.1
                    refine nm_seq (stmt_post (fun σ' H5 => σ'[3]? = some (some (.int S.n)) ∧ σ'[4]? = some (some (.ref r)) ∧ σ'[5]? = some (some (.ref fd)) ∧ σ'[6]? = some (some (.int way)) ∧ σ'[12]? = some (some (.int by_)) ∧ ∃ d G5, (decide (V.int way = V.int 5) = true → d = by_) ∧ (decide (V.int way = V.int 5) = false → d = -by_) ∧ Gx [b] G H4 G5 H5 ∧ BrdAt K G5 H5 b (bd ⟨S.n, S.ps, shiftT S.n d S.ts⟩) (L ++ [bd S])) (fun D2 hrt2 k2 => ?_) ?_)
                    · refine ⟨_, rfl, rfl, _, rfl, ?_⟩
                      cases hw5 : decide (V.int way = V.int 5) with
                      | true =>
                        refine ⟨_, rfl, _, rfl, b, rfl, ⟨_, _, hb4⟩, G, b, by_, bd S, L, rfl, g4.gh, brd.up g4 (by simpa using hbp.1), ok.sw (by omega), n1, (by show S.n ≤ _; omega), fun t ht => ok.oks (by omega) t (ok.bmem.mp ht), fun H5 G5 g5 brd5 => ⟨⟨b, rfl⟩, k2 _ _ ⟨rfl, rfl, rfl, rfl, rfl, by_, G5, fun _ => rfl, fun z => (by rw [hw5] at z; cases z), g5, ?_⟩⟩⟩
                        rw [← bd_shift ok]
                        exact brd5
                      | false =>
                        refine ⟨_, rfl, _, rfl, b, rfl, ⟨_, _, hb4⟩, G, b, by_, bd S, L, rfl, g4.gh, brd.up g4 (by simpa using hbp.1), ok.sw (by omega), n1, (by show S.n ≤ _; omega), fun t ht => ok.oks (by omega) t (ok.bmem.mp ht), fun H5 G5 g5 brd5 => ⟨⟨b, rfl⟩, k2 _ _ ⟨rfl, rfl, rfl, rfl, rfl, -by_, G5, fun z => (by rw [hw5] at z; cases z), fun _ => rfl, g5, ?_⟩⟩⟩
                        rw [← bd_shift ok]
                        exact brd5
                    · rintro σ' H5 ⟨e3, e4, e5, e6, e12, d, G5, hd1, hd2, g5, brd5⟩
                      have g5' : Gx [p, b] G H G5 H5 := g4.mono2.trans g5.mono3
                      have hf5 := g5.kp _ _ (by simpa using nfb) hf4
                      have hG5 := g5.unf hGfd (by rw [hf4]; intro z; cases z)
                      have pn5 := pn4.kp g5.kp (fun xs z => by rw [hb4] at z; cases z)
                      have hR5 : RowsAt H5 r S.ts qs := hR.up (same_tr g5.gg g5.gh)
                      refine nx_one (dput_by (by_post (fun x H6 => ∃ nr rs, x = .ref nr ∧ Same H5 H6 ∧ H5 nr = none ∧ RowsAt H6 nr (shiftT S.n d S.ts) rs ∧ ∀ a ∈ rs, H5 a = none) (fun Q' kk => ?_) ?_))
                      · refine ⟨_, e4, _, e3, _, e6, rfl, _, rfl, ?_⟩
                        cases hw5 : decide (V.int way = V.int 5) with
                        | true =>
                          refine ⟨_, e12, r, S.ts, qs, S.n, by_, rfl, hR5, ok.nd, by omega, n1, fun H6 f rs s6 hf hR6 hrs => kk _ _ ⟨f, rs, rfl, s6, hf, ?_, hrs⟩⟩
                          rw [hd1 hw5]
                          exact hR6
                        | false =>
                          refine ⟨_, e12, _, _, rfl, rfl, r, S.ts, qs, S.n, 0 - by_, rfl, hR5, ok.nd, by omega, n1, fun H6 f rs s6 hf hR6 hrs => kk _ _ ⟨f, rs, rfl, s6, hf, ?_, hrs⟩⟩
                          rw [hd2 hw5, show -by_ = 0 - by_ by omega]
                          exact hR6
                      · rintro _ H6 ⟨nr, rs, rfl, s56, hnr, hR6, hrs⟩
                        refine ⟨_, e5, fd, _, rfl, DPut.k (k := Sum.inr "rows") (kvs := stD S.n a r) (s56 _ _ hf5) (show (3 : Nat) < sizeLine by decide), ?_⟩
                        rw [stD_rows]
                        exact k' _ _ ⟨e5, fin_rows (H6 := H6) (S' := ⟨S.n, S.ps, shiftT S.n d S.ts⟩) (qs := rs) g5' (by rw [hb]; intro z; cases z) brd5 s56 (pn5.le (m' := m + 20) (by omega)) hf5 hfd hG5 rfl (g5.gg _ _ hA) hR6 hnr (fun x hx => .inl (hrs x hx)) (fun G' g pn st br => ⟨_, G', g, pn, st, br, ok.shift d⟩)⟩
                | false =>
                  refine ifF (asg_by (by_post (fun x H4 => ∃ mo : Int, x = .int mo ∧ 0 ≤ mo ∧ mo < S.n ∧ (∀ t ∈ S.ts, t.leaves ≤ mo) ∧ Same H3 H4) (fun Q' kk => ?_) ?_))
                  · refine ⟨_, rfl, r, _, rfl, hR3.d, _, _, rfl, rfl, _, rfl, ?_⟩
                    rw [lby]
                    cases hd : decide ((0 : Int) < ((S.ts.length : Nat) : Int)) with
                    | true =>
                      have hpos := of_decide_eq_true hd
                      refine ifT (cb_by (cons_by (rows_lc hR3 (by omega) (fun t => V.int t.leaves) (by exact rfl) (fun t q i H' Qk e1 e2 rr z => ⟨rfl, _, rfl, _, rfl, r, _, rfl, rr.get ok.nd e1 e2, q, _, 2, _, rfl, rfl, SqT.of (rr.t _ _ _ e2 e1), rfl, .inl ⟨_, rfl, z⟩⟩) fun H4 D s4 nD hD => ⟨D, S.ts.map (·.leaves), rfl, SqL.of (by rw [hD, List.map_map]; rfl), by rw [List.length_map]; omega, fun mo hmo hmax => ?_⟩)))
                      obtain ⟨t, ht, e⟩ := List.mem_map.mp hmo
                      have o := ok.ok t ht
                      exact kk _ _ ⟨mo, rfl, by rw [← e]; exact o.l0, by rw [← e]; exact o.l1, fun t ht => hmax _ (List.mem_map_of_mem ht), s4⟩
                    | false =>
                      have hz := of_decide_eq_false hd
                      have e0 : S.ts = [] := List.eq_nil_of_length_eq_zero (by omega)
                      exact kk _ _ ⟨0, rfl, by decide, by omega, fun t ht => (by rw [e0] at ht; cases ht), same_rfl⟩
                  · rintro _ H4 ⟨mo, rfl, mo0, mo1, hmo, s34⟩
                    have kp4 : Kp [p] H H4 := kp_tr kp3 (kp_same s34)
                    have pn4 := pn3.up s34
                    have hf4 := s34 _ _ hf3
                    refine nm_seq (dput_by (by_post (fun x H5 => ∃ n' : Int, x = .int n' ∧ mo + 1 ≤ n' ∧ n' ≤ mo + 1 + 1000000 ∧ Kp [p] H4 H5 ∧ PenAt H5 p cp (m + 3)) (fun Q' kk => ?_) ?_))
                    · refine ⟨_, rfl, _, _, rfl, rfl, _, rfl, _, rfl, p, cp, _, 50, rfl, by decide, by decide, pn4, by omega, fun H5 e e0 e1 kp5 pn5 => ⟨_, _, rfl, rfl, ⟨by decide, by decide, by decide⟩, (show (4 : Nat) ≤ sizeLine by decide), fun l hl => ⟨p, cp, l, _, _, rfl, pn5.up (same_new same_rfl hl), by omega, (pn5.nn hl).1, upd_same, (show (1 : Nat) ≤ 4 by decide), (show (4 : Nat) ≤ 1000 by decide), fun H6 x hx kp6 pn6 => ?_⟩⟩⟩
                      have kq2 := kp_tr kp5 (kp_tr (kp_same (same_new (o := .lst _) same_rfl hl)) kp6)
                      have z6 : (10 : Int) ^ (6 : Int).toNat = 1000000 := rfl
                      simp only [List.mem_cons, List.not_mem_nil, or_false] at hx
                      rcases hx with hx | hx | hx | hx <;> (subst hx; exact ⟨_, _, rfl, rfl, kk _ _ ⟨_, rfl, by omega, by omega, kq2, pn6.le (by omega)⟩⟩)
                    · rintro _ H5 ⟨n', rfl, n'0, n'1, kp45, pn5⟩
                      have kp5 := kp_tr kp4 kp45
                      have hf5 := kp_mem kp45 hf4 hfdp.1
                      have hb5 := kp_mem kp5 hb hbp.1
                      refine ⟨_, rfl, fd, _, rfl, DPut.k (k := Sum.inr "length") (kvs := stD S.n a r) hf5 (show (3 : Nat) < sizeLine by decide), ?_⟩
                      rw [stD_len]
                      have g6 := (gx_pen gs hGp kp5 pn5).wr (o := .dK (stD n' a r)) hGfd (.inr hfd)
                      have pn6 := pn5.upd (o := .dK (stD n' a r)) hfdp.1 hfdp.2
                      have hb6 : (upd H5 fd (.dK (stD n' a r))) b = some (.ins (cBrd K) dxb (brdF b1 b2 b3 b4)) := by rw [upd_ne (Ne.symm nfb)]; exact hb5
                      generalize hH6 : upd H5 fd (.dK (stD n' a r)) = H6 at g6 pn6 hb6
                      have hf6 : H6 fd = some (.dK (stD n' a r)) := by rw [← hH6]; exact upd_same
                      have ok' := ok.mins (m := n') (by omega) (by omega) (fun t ht => by have := hmo t ht; omega)
                      refine ⟨_, rfl, b, _, _, rfl, hb6, rfl, _, rfl, fd, _, rfl, dg_len hf6, G, b, n', bd S, L, rfl, g6.gh, brd.up g6 (by simpa using hbp.1), ok.sw (by omega), by omega, by omega, fun t ht => (by have := hmo t (ok.bmem.mp ht); omega), fun H7 G7 g7 brd7 => ?_⟩
                      rw [bd_mins ok] at brd7
                      have sG7 := same_tr g7.gg g7.gh
                      have pn7 := pn6.kp g7.kp (fun xs z => by rw [hb6] at z; cases z)
                      exact k' _ _ ⟨rfl, deed_fin (S' := ⟨n', S.ps, S.ts⟩) (H5 := H7) (m := m + 20) (qs := qs) (g6.mono2.trans g7.mono3) (by rw [hb]; intro z; cases z) brd7 rfl (pn7.le (by omega)) (g7.kp _ _ (by simpa using nfb) hf6) (sG7 _ _ hA) (hR.up sG7) hfd (.inr fun y => hGa (same_non g7.gg y)) (.inr fun y => hGr (same_non g7.gg y)) (fun x hx => .inr fun y => hGq x hx (same_non g7.gg y)) (fun G' g pn st br => ⟨_, G', g, pn, st, br, ok'⟩)⟩
    · rintro σ' H7 ⟨e5, S', G', g7, pn7, st7, br7, ok7⟩
      exact ⟨_, e5, kq H7 G' fd S' g7 pn7 st7 br7 ok7⟩
end
end N1
set_option maxHeartbeats 4000000
/-! the law's shows -/
namespace N1
open PySem PySem.Spec PyProof.Rows L2
abbrev rNeTr (K : PySem.W.Frag) : R2 := fun x y H Q => rOwnNe (cRun K) (spTripEq K) E0 x y H Q ∨ rOwnNe (cStay K) (spTripEq K) E0 x y H Q
theorem op_neTrip {X : Cx} (T : FX X.prog X.K X.mg) (hr : Room 2 X.A) : OpR X (compareOp .NotEq) (rNeTr X.K) := by
  have F := ok_TripEq (w := X.w) (base := X.base) T
  have M1 := T.meth ("Run", "__eq__") (by decide +kernel)
  have M2 := T.meth ("Stay", "__eq__") (by decide +kernel)
  have e1 := (T.tmE "Run" (by decide +kernel)).1
  have e2 := (T.tmE "Stay" (by decide +kernel)).1
  exact (or_ownNe (T.neq "Run" (by decide +kernel)).1 (T.neq "Run" (by decide +kernel)).2 M1 (e1 ▸ F) hr pass0).or
    (or_ownNe (T.neq "Stay" (by decide +kernel)).1 (T.neq "Stay" (by decide +kernel)).2 M2 (e2 ▸ F) hr pass0)
theorem BrdAt.same {K : PySem.W.Frag} {G H H' : Hp} {b : Addr} {s : Sn} {L : List Sn} (z : Same H H') (h : BrdAt K G H b s L) : BrdAt K G H' b s L := let ⟨dx, p, d, t, q, h1, h2⟩ := h; ⟨dx, p, d, t, q, z _ _ h1, h2⟩
theorem drop_upd {H : Hp} {a : Addr} {o : HO} (h : H a = none) : ItX.dropH (upd H a o) a = H := by
  funext b
  unfold ItX.dropH
  by_cases e : b = a
  · rw [if_pos e, e, h]
  · rw [if_neg e, upd_ne e]
theorem next_by {D : Ends} {σ : L2.St} {H : Hp} (h : D.nx σ H) : tNext D σ H := h
theorem stD_ne {n : Int} {a r : Addr} {ts : List TR} {qs : List Addr} (e : stD n a r = byN ts qs) : False := by
  unfold stD byN at e
  cases ts with
  | nil => simp at e
  | cons t ts =>
    cases qs with
    | nil => simp at e
    | cons q qs => simp at e
theorem gsb {K : PySem.W.Frag} {G H : Hp} {b : Addr} {s : Sn} {L : List Sn} (h : BrdAt K G H b s L) : InsAt H b (cBrd K) := let ⟨dx, p, d, t, q, h1, _⟩ := h; ⟨dx, _, h1⟩
def spShows (K : PySem.W.Frag) : Sp := fun vs H Q _ => ∃ (G : Hp) (b sa : Addr) (k : Int) (PL : List Str) (S : Sn) (L : List Sn), vs = [.ref b, .ref sa] ∧ Same G H ∧ StAt G sa S ∧ BrdAt K G H b (bd S) L ∧ StOk k PL S ∧ k ≤ 60 ∧ ∀ H', Same H H' → Q (.bl true) H'
section
variable {P : Program} {w : World} {K : PySem.W.Frag} {mg : Str → Option Value} {base : Heap}
theorem ok_shows (T : FX P K mg) : FnR P w K mg base CX0 11 (ga K "_law_shows") (spShows K) := by
  refine fnr T.f_w_shows sc_shows (fun _ _ _ _ _ _ us hl => match us, hl with | [_, _], _ => rfl) (fun vs H Q E h => ?_) (fun cdv A outer s H vs Q E hr h => ?_)
  · obtain ⟨G, b, sa, k, PL, S, L, rfl, _⟩ := h
    rfl
  · obtain ⟨G, b, sa, k, PL, S, L, rfl, gs, ⟨a, r, qs, hS, hA, hR⟩, brd, ok, hk1, kq⟩ := h
    have nd := sc_shows.nd
    have hu := hu_of hr
    have c := brC T
    refine ⟨_, (pss_cons (ps_asg (pe_tup (pa_cons (pe_dget hu (pv 1) pe_str (fun _ _ => rfl)) (pa_cons (cb "sorted" T cr_sortedS (pa_cons (pe_lock (pe_lc (own := [("_law_name", 2)]) (g := gName 2) (tt := tYes) (te := tCB rStr1 (tCons (tVar 2) tNil)) rfl nd (pi_keys (pe_dget hu (pv 1) pe_str (fun _ _ => rfl))) (blkOk_by (N := ["_law_board", "_law_state", "_law_name", "_law_rows_here", "_law_names_here"]) (sc := defScope w_shows) (by decide +kernel)) (fun _ _ _ _ _ => pg_name (i := 2) nd rfl (Or.inl rfl)) (fun _ _ _ _ _ => pts_nil) (fun _ _ _ _ _ => (ct "str" T SkE.call_str_str (pa_cons (pv 2) pa_nil))))) pa_nil)) pa_nil))) (pg_tup rfl (pgs_cons (pg_name (i := 3) nd rfl (Or.inr rfl)) (pgs_cons (pg_name (i := 4) nd rfl (Or.inl rfl)) pgs_nil)))) (pss_cons (ps_if (pw_or (pt_cmpR (op_neD hr.units) (pe_lock (pe_lc (own := [("_law_name", 2)]) (g := gName 2) (tt := tYes) (te := tVar 2) rfl nd (pi_ownIter (T.meth ("Board", "__iter__") (by decide +kernel)) (ok_BoardIter T) (hr.mono (by decide)) pass0 (pv 0)) (blkOk_by (N := ["_law_board", "_law_state", "_law_name", "_law_rows_here", "_law_names_here"]) (sc := defScope w_shows) (by decide +kernel)) (fun _ _ _ _ _ => pg_name (i := 2) nd rfl (Or.inl rfl)) (fun _ _ _ _ _ => pts_nil) (fun _ _ _ _ _ => (pv 2)))) (pv 4) (nomark _)) (pw_or (pt_cmpR op_ne (cb "len" T (call_ownLen (T.meth ("Board", "__len__") (by decide +kernel)) (ok_BoardLen T) (hr.mono (by decide)) pass0) (pa_cons (pv 0) pa_nil)) (cb "len" T call_len (pa_cons (pv 4) pa_nil)) (nomark _)) (pw_or1 (pt_cmpR op_ne (pe_propR (pv 0) c.c T.prM (ok_BoardMinutes T) (hr.mono (by decide)) pass0) (pe_dget hu (pv 1) pe_str (fun _ _ => rfl)) (nomark _))))).pt (pss_one (ps_ret pe_bl)) pss_nil) (pss_cons (ps_if (pt_cmpR (op_neNil (Nat.lt_of_succ_lt hu)) (pe_lc (own := [("_law_name", 2)]) (g := gName 2) (tt := tOr (tTest (tOp (rNeTr K) (tOp (rOwnIx (cBrd K) (spGet K) E0) (tVar 0) (tVar 2)) (tCallR (spTripL K) E0 (tCons (tVar 2) (tCons (tDGet (tVar 3) (tVar 2)) tNil))))) (tTest (tOp (rOwnIn (cBrd K) (spHas K) E0 true) (tVar 2) (tVar 0)))) (te := tVar 2) rfl nd (pi_list (pv 4)) (blkOk_by (N := ["_law_board", "_law_state", "_law_name", "_law_rows_here", "_law_names_here"]) (sc := defScope w_shows) (by decide +kernel)) (fun _ _ _ _ _ => pg_name (i := 2) nd rfl (Or.inl rfl)) (fun _ _ _ _ _ => pts_one (pw_or (pt_cmpR (op_neTrip T (hr.mono (by decide))) (pe_ixO (T.meth ("Board", "__getitem__") (by decide +kernel)) T.nsq.1 (ok_BoardGetitem T) (hr.mono (by decide)) pass0 (pv 0) (pv 2)) (cl "_law_trip" T (ok_trip T) (hr.mono (by decide)) (pa_cons (pv 2) (pa_cons (pe_dget hu (pv 3) (pv 2) (fun _ _ => rfl)) pa_nil))) (nomark _)) (pw_or1 (pt_cmpR (or_ownNotIn (T.meth ("Board", "__contains__") (by decide +kernel)) (ok_BoardContains T) (hr.mono (by decide)) pass0) (pv 2) (pv 0) rfl))).pt) (fun _ _ _ _ _ => (pv 2))) (pe_lst pa_nil) (nomark _)) (pss_one (ps_ret pe_bl)) pss_nil) (pss_cons (ps_if (pw_or (pt_cmpR (or_ownNe (T.neq "Pauses" (by decide +kernel)).1 (T.neq "Pauses" (by decide +kernel)).2 (T.meth ("Pauses", "__eq__") (by decide +kernel)) (ok_PausesEq T) (hr.mono (by decide)) pass0) (pe_methR0 (pv 0) c.c (T.meth ("Board", "told_pauses") (by decide +kernel)) (ok_BoardTold_pauses T) (hr.mono (by decide)) pass0) (pe_smeth (gc "Pauses" T) T.crP T.stP (ok_PausesOf T) (hr.mono (by decide)) pass0 (pa_cons (pe_dget hu (pv 1) pe_str (fun _ _ => rfl)) pa_nil)) (nomark _)) (pw_or1 (pt_cmpR op_ne (cb "repr" T call_repr_bool (pa_cons (pe_propR (pv 0) c.c T.prL (ok_BoardIs_level T) (hr.mono (by decide)) pass0) pa_nil)) (cb "repr" T call_repr_bool (pa_cons (pe_cmpR (op_eqNil (Nat.lt_of_succ_lt hu)) (cl "_law_uneven" T (ok_uneven T) (hr.mono (by decide)) (pa_cons (pv 3) pa_nil)) (pe_lst pa_nil) (nomark _)) pa_nil)) (nomark _)))).pt (pss_one (ps_ret pe_bl)) pss_nil) (pss_one (ps_ret (pe_or (pe_not (pe_propR (pv 0) c.c T.prL (ok_BoardIs_level T) (hr.mono (by decide)) pass0)) (pe_one (pe_cmpR (or_ownEq (T.meth ("Table", "__eq__") (by decide +kernel)) (ok_TableEq T) (hr.mono (by decide)) pass0) (pe_methR0 (pv 0) c.c (T.meth ("Board", "told_table") (by decide +kernel)) (ok_BoardTold_table T) (hr.mono (by decide)) pass0) (cl "_law_table" T (ok_table T) (hr.mono (by decide)) (pa_cons (pv 3) (pa_cons (pe_dget hu (pv 1) pe_str (fun _ _ => rfl)) pa_nil))) (nomark _)))))))))), ?_⟩
    have n1 := ok.n1
    have l17 := ok.len
    have b17 := ok.blen
    have n2 : S.n ≤ 70000000 := by have := ok.n2; omega
    have lby := byN_len (ts := S.ts) (qs := qs) hR.l.symm
    have hS1 := gs _ _ hS
    have hR1 : RowsAt H r S.ts qs := hR.up gs
    have nsr : sa ≠ r := fun z => by
      have y := hR.d
      rw [← z, hS] at y
      exact stD_ne (HO.dK.inj (Option.some.inj y))
    have enb : names (bd S).ts = sn (names S.ts) := names_st S.ts
    have lsn : (sn (names S.ts)).length = S.ts.length := by rw [sn_length]; unfold names; rw [List.length_map]
    have sok : ∀ x ∈ sn (names S.ts), PyData.strOk x = true := fun x hx => by
      obtain ⟨u, hu, e⟩ := List.mem_map.mp (mem_sn.mp hx)
      rw [← e]
      exact (nm_ok _ (ok.ok u hu).nm).sok
    have boks : ∀ t ∈ (bd S).ts, t.Ok := fun t ht => ok.oks (by omega) t (ok.bmem.mp ht)
    obtain ⟨dx, p, d, t, q, hb, hGb, ⟨hd, hp, as, ht, htr⟩, hL⟩ := id brd
    refine seq_by (asg_by (tup_by (cons_by ⟨_, rfl, sa, _, rfl, dg_rows hS1, cons_by (srt_keys (ns := names S.ts) hR1.d (byN_keys hR.l.symm) (by unfold names; rw [List.length_map]; omega) (fun od R h => ⟨_, rfl, sa, _, rfl, dg_rows (by rw [upd_ne nsr]; exact hS1), r, od, rfl, .inl ⟨_, upd_same, h⟩⟩) (fun n H' Qk z => ⟨rfl, _, rfl, _, rfl, z⟩) fun H2 q2 s2 nq2 hq2 => ?_)⟩)))
    refine ⟨(show (2 : Nat) ≤ sizeLine by decide), fun tp htp => ⟨tp, _, rfl, SqT.of upd_same, rfl, _, _, rfl, _, _, rfl, rfl, ?_⟩⟩
    have s3 := same_new (o := .tup [V.ref r, V.ref q2]) s2 htp
    have hq3 : (upd H2 tp (.tup [V.ref r, V.ref q2])) q2 = some (.lst ((sn (names S.ts)).map V.str)) := by rw [upd_ne (ne_of_none hq2 htp)]; exact hq2
    generalize hH3 : upd H2 tp (.tup [V.ref r, V.ref q2]) = H3 at s3 hq3
    have gs3 := same_tr gs s3
    have brd3 := brd.same s3
    have hb3 := s3 _ _ hb
    -- names, len, minutes
    refine nx_seq (ifs_by (by_post (fun b' H' => b' = false ∧ Same H3 H') (fun Q' kk => ?_) ?_))
    · have ht3 := gs3 _ _ ht
      have htb : b ≠ t := ne_of hb3 ht3 (by intro z; cases z)
      have lbt : (byN (bd S).ts as).length = (bd S).ts.length := byN_len htr.1.symm
      refine ⟨t, _, ht3, trivial, fun od => ⟨_, rfl, b, rfl, ⟨dx, _, by rw [upd_ne htb]; exact hb3⟩, fun m hm => ⟨b, dx, p, d, t, q, od, _, rfl, by rw [upd_ne htb]; exact hb3, upd_same, fun it es ep hdt hit hmit => ⟨it, t, od, _, es, ep, rfl, by omega, upd_same, by rw [upd_ne (fun z => by rw [← z, upd_same] at hit; cases hit)]; exact upd_same, hdt, ?_⟩⟩⟩⟩
      rw [drop_upd hit]
      refine fun D hD => lc_f walk_keys (fun i => ((names (bd S).ts)[i]?).map V.str) hD (by omega) (fun H' s => s _ _ upd_same) ?_ ?_
      · rintro i v Ha Hb kk0 k0 hi sA ⟨rfl, key, val, hkv, rfl⟩ h2 h3
        obtain ⟨u, a', e1, e2, e3, _⟩ := byN_at htr hkv
        cases e3
        refine ⟨rfl, _, rfl, h2 _ _ ?_ same_rfl⟩
        unfold names
        rw [List.getElem?_map, e1]
        rfl
      · intro H4 s4 hL4
        have eln : (byN (bd S).ts as).length = (names (bd S).ts).length := by rw [lbt]; unfold names; rw [List.length_map]
        rw [eln, range_map_, enb] at hL4
        have nDt : D ≠ t := fun z => by rw [z, upd_same] at hD; cases hD
        have su := unlock_same s4 ht3
        refine ⟨s4 _ _ upd_same, _, rfl, ?_⟩
        have hD5 : (upd H4 t (.dK (byN (bd S).ts as))) D = some (.lst ((sn (names S.ts)).map V.str)) := by rw [upd_ne nDt]; exact hL4
        generalize hH5 : upd H4 t (.dK (byN (bd S).ts as)) = H5 at su hD5
        have gs5 := same_tr gs3 su
        have brd5 := brd3.same su
        refine ⟨_, _, .lst (SqL.of hD5) (dpS _), .lst (SqL.of (su _ _ hq3)) (dpS _), shapedS sok, shapedS sok, _, rfl, ?_⟩
        have e : (!PyData.eqv (.list ((sn (names S.ts)).map PyData.str)) (.list ((sn (names S.ts)).map PyData.str))) = false := by
          rw [PyData.eqv, eqvS]
          simp
        rw [e]
        refine ⟨_, rfl, b, rfl, ⟨_, _, su _ _ hb3⟩, G, b, bd S, L, rfl, gs5, brd5, _, rfl, by omega, by omega, _, rfl, _, _, rfl, .inl ⟨_, SqL.of (su _ _ hq3), rfl⟩, rfl, _, rfl, ?_⟩
        rw [show (!decide (V.int (((bd S).ts.length : Nat) : Int) = V.int ((((sn (names S.ts)).map V.str).length : Nat) : Int))) = false from by
          have : (bd S).ts.length = ((sn (names S.ts)).map V.str).length := by
            rw [List.length_map, ← enb]
            unfold names
            rw [List.length_map]
          rw [this]
          simp]
        refine ⟨_, rfl, b, _, _, rfl, su _ _ hb3, G, b, bd S, L, rfl, gs5, brd5, _, rfl, sa, _, rfl, dg_len (gs5 _ _ hS), rfl, _, rfl, ?_⟩
        rw [show (!decide (V.int (bd S).n = V.int S.n)) = false from by
          show (!decide (V.int S.n = V.int S.n)) = false
          simp]
        exact kk false H5 ⟨rfl, su⟩
    rintro _ H5 ⟨rfl, s35⟩
    have gs5 := same_tr gs3 s35
    have brd5 := brd3.same s35
    have hq5 := s35 _ _ hq3
    -- trips
    refine ifF (next_by (nx_seq (ifs_by (by_post (fun b' H' => b' = false ∧ Same H5 H') (fun Q' kk => ?_) ?_))))
    · refine ⟨_, rfl, q2, rfl, ⟨_, SqL.of hq5⟩, fun D hD => lc_f walk_list (fun _ => none) hD (by rw [List.length_map]; omega) (fun H' s => SqL.of (s _ _ hq5)) ?_ ?_⟩
      · rintro i x Ha Hb kk0 k0 hi sA ⟨rfl, hx⟩ h2 h3
        rw [List.getElem?_map] at hx
        obtain ⟨nm, hnm⟩ : ∃ nm, (sn (names S.ts))[i]? = some nm := by
          cases e : (sn (names S.ts))[i]? with
          | none => rw [e] at hx; cases hx
          | some y => exact ⟨y, rfl⟩
        rw [hnm] at hx
        cases hx
        have hmS : nm ∈ names S.ts := mem_sn.mp (List.mem_of_getElem? hnm)
        have hmB : nm ∈ names (bd S).ts := by rw [enb]; exact List.mem_of_getElem? hnm
        obtain ⟨j, tr, htr1, htr2⟩ := name_at hmS
        subst htr2
        have gsA := same_tr gs5 sA
        have brdA := brd5.same sA
        obtain ⟨qx, hqx, hqxH⟩ := (hR.up gsA).rd.q htr1
        have okt := ok.oks (by omega) tr (List.mem_of_getElem? htr1)
        refine ⟨rfl, _, rfl, _, rfl, b, rfl, gsb brdA, G, b, tr.name, bd S, L, rfl, gsA, brdA, hmB, fun ta u hta hlk => ⟨_, rfl, _, rfl, _, rfl, r, _, rfl, (hR.up gsA).rd.get ok.nd htr1 hqx, qx, tr, rfl, hqxH, okt, fun H6 tb htb sAb htb6 => ?_⟩⟩
        have eu : u = tr := by
          have e1 : lk (bd S).ts tr.name = lk S.ts tr.name := lk_perm ok.bnd (st_perm ok.nd) tr.name
          rw [e1, lk_of ok.nd (List.mem_of_getElem? htr1)] at hlk
          exact (Option.some.inj hlk).symm
        subst eu
        have hta6 := hta.up (same_tr gsA sAb)
        have gs6 := same_tr gsA sAb
        have brd6 := brdA.same sAb
        have it : ∀ {x : Addr}, TripAt K H6 x u → InsAt H6 x (cTR K u) := fun ⟨dx, h⟩ => ⟨dx, _, h⟩
        cases hrun : u.run with
        | true =>
          have ec : cTR K u = cRun K := by unfold cTR; rw [hrun]; rfl
          refine .inl ⟨ta, tb, rfl, rfl, ec ▸ it hta6, ec ▸ it htb6, ta, tb, u, rfl, okt, hta6, htb6, fun H7 s7 => ⟨true, rfl, _, rfl, ?_⟩⟩
          have gs7 := same_tr gs6 s7
          have brd7 := brd6.same s7
          refine ⟨_, rfl, _, rfl, b, rfl, gsb brd7, G, b, u.name, bd S, L, rfl, gs7, brd7, _, rfl, _, rfl, ?_⟩
          rw [decide_eq_true hmB]
          exact h3 rfl _ (same_tr sAb s7)
        | false =>
          have ec : cTR K u = cStay K := by unfold cTR; rw [hrun]; rfl
          refine .inr ⟨ta, tb, rfl, rfl, ec ▸ it hta6, ec ▸ it htb6, ta, tb, u, rfl, okt, hta6, htb6, fun H7 s7 => ⟨true, rfl, _, rfl, ?_⟩⟩
          have gs7 := same_tr gs6 s7
          have brd7 := brd6.same s7
          refine ⟨_, rfl, _, rfl, b, rfl, gsb brd7, G, b, u.name, bd S, L, rfl, gs7, brd7, _, rfl, _, rfl, ?_⟩
          rw [decide_eq_true hmB]
          exact h3 rfl _ (same_tr sAb s7)
      · intro H6 s6 hL6
        have e0 : (List.range ((sn (names S.ts)).map V.str).length).filterMap (fun _ => (none : Option V)) = [] := by simp
        rw [e0] at hL6
        refine ⟨by decide, fun l hl => ⟨D, l, [], rfl, rfl, SqL.of (by rw [upd_ne (ne_of_none hL6 hl)]; exact hL6), SqL.of upd_same, _, rfl, kk false _ ⟨rfl, same_new s6 hl⟩⟩⟩
    rintro _ H6 ⟨rfl, s56⟩
    have gs6 := same_tr gs5 s56
    have brd6 := brd5.same s56
    have hb6 := s56 _ _ (s35 _ _ hb3)
    -- level
    have plev : decide (sn (starts (bd S).ts) = sn (goals (bd S).ts)) = decide ((starts S.ts).Perm (goals S.ts)) := by
      have p1 : (starts (bd S).ts).Perm (starts S.ts) := (st_perm ok.nd).map _
      have p2 : (goals (bd S).ts).Perm (goals S.ts) := (st_perm ok.nd).map _
      have key : (sn (starts (bd S).ts) = sn (goals (bd S).ts)) ↔ (starts S.ts).Perm (goals S.ts) := by
        constructor
        · intro e
          exact p1.symm.trans ((sn_perm _).symm.trans ((List.Perm.of_eq e).trans ((sn_perm _).trans p2)))
        · intro p
          exact sn_congr (p1.trans (p.trans p2.symm))
      by_cases h : (starts S.ts).Perm (goals S.ts)
      · rw [decide_eq_true h, decide_eq_true (key.mpr h)]
      · rw [decide_eq_false h, decide_eq_false (fun z => h (key.mp z))]
    -- pauses, level
    refine ifF (next_by (nx_seq (ifs_by (by_post (fun b' H' => b' = false ∧ Same H6 H') (fun Q' kk => ?_) ?_))))
    · refine ⟨_, rfl, b, _, _, rfl, hb6, rfl, G, b, bd S, L, rfl, gs6, brd6, fun G' pa gs' hpa => ⟨rfl, _, rfl, sa, _, rfl, dg_pauses (gs6 _ _ hS), G, a, S.ps, rfl, gs6, gs6 _ _ hA, ok.pa, fun H7 G7 pb g7 npb hpb => ?_⟩⟩
      have s67 : Same H6 H7 := fun x o e => g7.kp x o (by simp) e
      have ipa : PausesAt K H7 pa (nrm S.ps) := (hpa.up gs').up s67
      have ipb : PausesAt K H7 pb (nrm S.ps) := hpb.up g7.gh
      have ip : ∀ {x : Addr}, PausesAt K H7 x (nrm S.ps) → InsAt H7 x (cPau K) := fun ⟨dx, dn, dr, h, _⟩ => ⟨dx, _, h⟩
      refine ⟨pa, pb, rfl, rfl, ip ipa, ip ipb, pa, pb, nrm S.ps, rfl, ipa, ipb, nodup_nrm ok.pn, true, rfl, _, rfl, ?_⟩
      have gs7 := same_tr gs6 s67
      have brd7 := brd6.same s67
      refine ⟨_, rfl, b, _, _, rfl, s67 _ _ hb6, G, b, bd S, L, rfl, gs7, brd7, by omega, boks, fun H8 s78 => ⟨_, rfl, _, rfl, r, S.ts, qs, rfl, hR.up (same_tr gs7 s78), ok.nd, by omega, fun H9 uq zs s89 nuq huq hz => ⟨by decide, fun l hl => ⟨uq, l, zs, rfl, rfl, SqL.of (by rw [upd_ne (ne_of_none huq hl)]; exact huq), SqL.of upd_same, _, rfl, rfl, _, rfl, ?_⟩⟩⟩⟩
      have ez : decide (sn (starts (bd S).ts) = sn (goals (bd S).ts)) = zs.isEmpty := by
        rw [plev]
        cases zs with
        | nil => exact decide_eq_true (hz.mp rfl)
        | cons z zs => exact decide_eq_false fun p => by have := hz.mpr p; cases this
      rw [ez]
      rw [show (!decide (V.str (if zs.isEmpty = true then "True" else "False") = V.str (if zs.isEmpty = true then "True" else "False"))) = false from by simp]
      exact kk false _ ⟨rfl, same_new (same_tr s67 (same_tr s78 s89)) hl⟩
    rintro _ H7 ⟨rfl, s67⟩
    have gs7 := same_tr gs6 s67
    have brd7 := brd6.same s67
    have hb7 := s67 _ _ hb6
    have sH7 : Same H H7 := same_tr s3 (same_tr s35 (same_tr s56 s67))
    refine ifF (next_by ?_)
    refine ⟨_, rfl, b, _, _, rfl, hb7, G, b, bd S, L, rfl, gs7, brd7, by omega, boks, fun H8 s78 => ⟨_, rfl, _, rfl, ?_⟩⟩
    rw [plev]
    have gs8 := same_tr gs7 s78
    have brd8 := brd7.same s78
    by_cases hp' : (starts S.ts).Perm (goals S.ts)
    · rw [decide_eq_true hp']
      have hbal := bal_perm hp'
      have tok : TabOk S.n S.ts := ⟨ok.nd, by omega, fun t ht => (ok.ok t ht).l1, ok.few, hbal⟩
      have hbalb : Bal (bd S).ts := bal_perm (((st_perm ok.nd).map _).trans (hp'.trans ((st_perm ok.nd).map _).symm))
      have tokb : TabOk (bd S).n (bd S).ts := ⟨ok.bnd, by omega, fun t ht => (ok.ok t (ok.bmem.mp ht)).l1, few_of ok.pl (fun t ht => ok.ok t (ok.bmem.mp ht)), hbalb⟩
      refine ⟨_, rfl, b, _, _, rfl, s78 _ _ hb7, rfl, G, b, bd S, L, rfl, gs8, brd8, tokb, fun G' gs' H9 G9 pt g9 npt tbl => ?_⟩
      have s89 : Same H8 H9 := fun x o e => g9.kp x o (by simp) e
      have gs9 := same_tr gs8 s89
      refine ⟨_, rfl, _, rfl, sa, _, rfl, dg_len (gs9 _ _ hS), G, r, S.ts, qs, S.n, rfl, gs9, hR.up gs9, ok.oks (by omega), tok, n1, by omega, fun H10 G10 pt2 g10 npt2 tbl2 => ?_⟩
      have s910 : Same H9 H10 := fun x o e => g10.kp x o (by simp) e
      have t1 : TableAt K H10 pt S.n (st S.ts) := by
        have := (tbl.up g9.gh).up s910
        have e : st (bd S).ts = st S.ts := st_st ok.nd
        rw [e] at this
        exact this
      have t2 : TableAt K H10 pt2 S.n (st S.ts) := tbl2.up g10.gh
      have it : ∀ {x : Addr}, TableAt K H10 x S.n (st S.ts) → InsAt H10 x (cTab K) := fun ⟨dx, d, dn, dp, dr, rs, h, _⟩ => ⟨dx, _, h⟩
      exact ⟨pt, pt2, rfl, rfl, it t1, it t2, pt, pt2, S.n, st S.ts, rfl, t1, t2, boks, fun H11 s11 => ⟨true, rfl, kq H11 (same_tr sH7 (same_tr s78 (same_tr s89 (same_tr s910 s11))))⟩⟩
    · rw [decide_eq_false hp']
      exact kq H8 (same_tr sH7 s78)
end
end N1
set_option maxHeartbeats 2000000
/-! the law's bare_right: the table of a board out of balance is refused with the least place -/
namespace N1
open PySem PySem.Spec PyProof.Rows L2
section
variable {P : Program} {w : World} {K : PySem.W.Frag} {mg : Str → Option Value} {base : Heap}
/-- a promise of what lets nothing out, beside one that does -/
theorem fnr_orX {CX : CXT} {k : Nat} {f : Addr} {sp sp2 : Sp} (F : FnR P w K mg base CX0 k f sp) (F2 : FnR P w K mg base CX k f sp2) : FnR P w K mg base CX k f (fun vs H Q E => sp vs H Q E ∨ sp2 vs H Q E) := by
  intro A outer s H us vs Q E hr e0 r h
  rcases h with h | h
  · exact codeAny_mono (F A outer s H us vs Q E hr e0 r h) fun r s' hq => by
      cases r with
      | error e => exact False.elim hq
      | ok fl =>
        cases fl with
        | ret u => exact hq
        | next => exact False.elim hq
        | brk => exact False.elim hq
        | cont => exact False.elim hq
  · exact F2 A outer s H us vs Q E hr e0 r h
end
theorem bad_perm {ts us : List TR} (h : ts.Perm us) : bad ts = bad us := by
  funext y
  unfold bad starts goals
  rw [(h.map (·.start)).count_eq y, (h.map (·.goal)).count_eq y]
theorem nodup_ext {xs ys : List Str} (h1 : xs.Nodup) (h2 : ys.Nodup) (s1 : sortedS xs = true) (s2 : sortedS ys = true) (h : ∀ y, y ∈ xs ↔ y ∈ ys) : xs = ys := by
  have p : xs.Perm ys := (List.perm_ext_iff_of_nodup h1 h2).mpr h
  rw [sn_of p s1, ← sn_of (List.Perm.refl ys) s2]
/-- the law's list tells the least place -/
theorem unb_of {ts us : List TR} {ys : List Str} {y : Str} {l : List Str} (hp : us.Perm ts) (hs : sortedS ys = true) (hn : ys.Nodup) (hm : ∀ y, y ∈ ys ↔ y ∈ starts ts ++ goals ts) (e : ys.filter (bad ts) = y :: l) : UnbAt us y := by
  intro zs hz
  obtain ⟨z1, z2, z3⟩ := hz
  have q : zs = ys := nodup_ext z2 hn z1 hs fun x => by
    rw [z3, hm, List.mem_append]
    unfold starts goals
    constructor
    · rintro ⟨t, ht, e | e⟩
      · exact .inl (List.mem_map.mpr ⟨t, hp.mem_iff.mp ht, e.symm⟩)
      · exact .inr (List.mem_map.mpr ⟨t, hp.mem_iff.mp ht, e.symm⟩)
    · rintro (h | h)
      · obtain ⟨t, ht, e⟩ := List.mem_map.mp h
        exact ⟨t, hp.mem_iff.mpr ht, .inl e.symm⟩
      · obtain ⟨t, ht, e⟩ := List.mem_map.mp h
        exact ⟨t, hp.mem_iff.mpr ht, .inr e.symm⟩
  rw [q, bad_perm hp, e]
  rfl
theorem bal_nil {ts : List TR} {ys : List Str} (hm : ∀ y, y ∈ ys ↔ y ∈ starts ts ++ goals ts) (e : ys.filter (bad ts) = []) : (starts ts).Perm (goals ts) := by
  refine (count_perm hm).mp ?_
  rw [bad_fm, e]
  rfl
theorem at0 (x : V) (l : List V) : atI (x :: l) 0 = some x := by
  have e : ixN (x :: l).length 0 = some 0 := by
    unfold ixN
    simp
  unfold atI
  rw [e]
  rfl
def spBare (K : PySem.W.Frag) : Sp := fun vs H Q _ => ∃ (G : Hp) (b sa : Addr) (k : Int) (PL : List Str) (S : Sn) (L : List Sn), vs = [.ref b, .ref sa] ∧ Same G H ∧ StAt G sa S ∧ BrdAt K G H b (bd S) L ∧ StOk k PL S ∧ k ≤ 60 ∧ ∀ H', Same H H' → Q (.bl true) H'
section
variable {P : Program} {w : World} {K : PySem.W.Frag} {mg : Str → Option Value} {base : Heap}
theorem excU (T : FX P K mg) : ExcC K (cUn K) := ⟨T.xfU.ga, T.xfU.gg, T.xfU.exC, T.xfU.hdC, T.isU.ha, T.gcn, T.gct, T.isU.hm⟩
theorem ok_bare (T : FX P K mg) : FnR P w K mg base CX0 7 (ga K "_law_bare_right") (spBare K) := by
  refine fnr T.f_w_bare_right sc_bare_right (fun _ _ _ _ _ _ us hl => match us, hl with | [_, _], _ => rfl) (fun vs H Q E h => ?_) (fun cdv A outer s H vs Q E hr h => ?_)
  · obtain ⟨G, b, sa, k, PL, S, L, rfl, _⟩ := h
    rfl
  · obtain ⟨G, b, sa, k, PL, S, L, rfl, gs, ⟨a0, r, qs, hS, hA, hR⟩, brd, ok, hk1, kq⟩ := h
    have nd := sc_bare_right.nd
    have hu := hu_of hr
    have c := brC T
    refine ⟨_, pss_cons (ps_par (i := 2) (j := 3) rfl nd rfl rfl (by decide) rfl rfl (pa_cons (cl "_law_uneven" T (ok_uneven2 T) (hr.mono (by decide)) (pa_cons (pe_dget hu (pv 1) pe_str (fun _ _ => rfl)) pa_nil)) (pa_cons pe_non pa_nil)) rfl)
      (pss_cons (ps_try_keep (i := 4) rfl rfl rfl nd rfl (by rfl) ⟨rfl, by decide, .inl (T.glo "TurnError" (by decide +kernel))⟩ takes_none5
        (fun W pn xe tk _ => pss_one (ps_expr (pe_methRS0 (pv 0) c.c (T.meth ("Board", "told_table") (by decide +kernel)) (fnr_orX (ok_BoardTold_table T) (ok_BoardTold_tableX T)) hr (fun σ => passAt tk σ))))
        (fun a oe cls d pn _ _ => pss_one (ps_set (i := 3) nd rfl (Or.inl rfl) (pv 4))))
      (pss_cons (ps_if (pt_cmpR (op_eqNil (Nat.lt_of_succ_lt hu)) (pv 2) (pe_lst pa_nil) (nomark _)) (pss_one (ps_ret (pe_cmp (pc_isN (pv 3)) rfl))) pss_nil)
      (pss_one (ps_ret (pe_and (cb "isinstance" T (call_isK (excU T)) (pa_cons (pv 3) (pa_cons (gc "Unbalanced" T) pa_nil)))
        (pe_one (pe_cmpR op_eq (pe_xk T.xfU T.oeNU (pv 3)) (pe_ix ix_list (pv 2) pe_int (fun _ _ => rfl)) (nomark _)))))))), ?_⟩
    have l17 := ok.len
    have b17 := ok.blen
    have n2 := ok.n2
    have stp := st_perm ok.nd
    obtain ⟨dx, p, d, t, qq, hb, _⟩ := id brd
    have few : Few (bd S).ts := (let ⟨L0, h1, h2⟩ := ok.few; ⟨L0, h1, fun u hu => h2 u (ok.bmem.mp hu)⟩)
    refine ⟨_, rfl, sa, _, rfl, dg_rows (gs _ _ hS), r, S.ts, qs, rfl, hR.up gs, ok.nd, by omega, fun H1 q ys s1 nq hq srt ynd ymem => ⟨_, _, rfl, ?_⟩⟩
    have gs1 := same_tr gs s1
    have brd1 := brd.same s1
    cases e : ys.filter (bad S.ts) with
    | nil =>
      rw [e] at hq
      have hp' := bal_nil ymem e
      have hbalb : Bal (bd S).ts := bal_perm ((stp.map _).trans (hp'.trans (stp.map _).symm))
      refine ⟨_, rfl, b, dx, _, rfl, s1 _ _ hb, rfl, .inl ⟨G, b, bd S, L, rfl, gs1, brd1, ⟨ok.bnd, by omega, fun u hu => (ok.ok u (ok.bmem.mp hu)).l1, few, hbalb⟩, fun G0 gs0 H2 G2 pt g2 hpt tb => ?_⟩⟩
      have s2 : Same H1 H2 := fun x o e => g2.kp x o (by simp) e
      refine ⟨_, rfl, by decide, fun l2 hl2 => ⟨q, l2, [], rfl, rfl, SqL.of (same_new (o := .lst []) s2 hl2 _ _ hq), SqL.of upd_same, _, rfl, ?_⟩⟩
      refine ifT ⟨_, rfl, ?_⟩
      show Q (.bl (decide (V.non = V.non))) _
      rw [show decide (V.non = V.non) = true from by simp]
      exact kq _ (same_new (same_tr s1 s2) hl2)
    | cons y l =>
      rw [e] at hq
      have hun : UnbAt (bd S).ts y := unb_of stp srt ynd ymem e
      refine ⟨_, rfl, b, dx, _, rfl, s1 _ _ hb, rfl, .inr ⟨G, b, bd S, L, y, rfl, gs1, brd1, ⟨ok.bnd, by omega, fun u hu => (ok.ok u (ok.bmem.mp hu)).l1, few⟩, hun, fun dy H2 s2 hdy => ⟨true, T.exmU, fun _ a ha => ⟨_, rfl, ?_⟩, fun z => by cases z⟩⟩⟩
      have ndy : dy ≠ a := fun z => by rw [z, ha] at hdy; cases hdy
      have s3 : Same H1 (upd H2 a (ExK (.ref (cUn K)) (some dy) a)) := same_new s2 ha
      have h3a : (upd H2 a (ExK (.ref (cUn K)) (some dy) a)) a = some (ExK (.ref (cUn K)) (some dy) a) := upd_same
      have h3d : (upd H2 a (ExK (.ref (cUn K)) (some dy) a)) dy = some (.xd [("place", .str y)]) := by rw [upd_ne ndy]; exact hdy
      refine ⟨_, rfl, by decide, fun l2 hl2 => ⟨q, l2, ((y :: l).map V.str), rfl, rfl, SqL.of (same_new (o := .lst []) s3 hl2 _ _ hq), SqL.of upd_same, _, rfl, ?_⟩⟩
      have s4 : Same (upd H2 a (ExK (.ref (cUn K)) (some dy) a)) (upd (upd H2 a (ExK (.ref (cUn K)) (some dy) a)) l2 (.lst [])) := same_new same_rfl hl2
      refine ifF (next_by ?_)
      refine ⟨_, rfl, a, dy, _, _, _, true, rfl, s4 _ _ h3a, s4 _ _ h3d, (fun u h => h), T.isU.k1, _, rfl, ?_⟩
      refine ⟨_, rfl, a, dy, _, .str y, rfl, s4 _ _ h3a, s4 _ _ h3d, rfl, _, rfl, q, _, 0, .str y, rfl, rfl, SqL.of (s4 _ _ (s3 _ _ hq)), at0 _ _, rfl, ?_⟩
      rw [show decide (V.str y = V.str y) = true from by simp]
      exact kq _ (same_tr (same_tr s1 s3) s4)
end
end N1
set_option maxHeartbeats 4000000
/-! the law's twin_right -/
namespace N1
open PySem PySem.Spec PyProof.Rows L2
def spTwinR (K : PySem.W.Frag) : Sp := fun vs H Q _ => ∃ (G : Hp) (p cp b sa : Addr) (m k : Int) (PL : List Str) (S : Sn) (L : List Sn), vs = [.ref p, .ref b, .ref sa] ∧ Same G H ∧ G p = none ∧ PenAt H p cp m ∧ m ≤ 700000 ∧ StAt G sa S ∧ BrdAt K G H b (bd S) L ∧ StOk k PL S ∧ 0 ≤ k ∧ k ≤ 50 ∧ L.length ≤ 50 ∧
  ∀ H', Kp [p] H H' → PenAt H' p cp (m + 20) → Q (.bl true) H'
section
variable {P : Program} {w : World} {K : PySem.W.Frag} {mg : Str → Option Value} {base : Heap}
theorem ok_twin (T : FX P K mg) : FnR P w K mg base CX0 12 (ga K "_law_twin_right") (spTwinR K) := by
  refine fnr T.f_w_twin_right sc_twin_right (fun _ _ _ _ _ _ us hl => match us, hl with | [_, _, _], _ => rfl) (fun vs H Q E h => ?_) (fun cdv A outer s H vs Q E hr h => ?_)
  · obtain ⟨G, p, cp, b, sa, m, k, PL, S, L, rfl, _⟩ := h
    rfl
  · obtain ⟨G, p, cp, b, sa, m, k, PL, S, L, rfl, gs, gp, pen, hm, sat, brd, ok, k0, k1, lL, kq⟩ := h
    have nd := sc_twin_right.nd
    have hu := hu_of hr
    have c := brC T
    have hins : ∀ {G H : Hp} {b : Addr} {s : Sn} {L : List Sn}, BrdAt K G H b s L → ∃ dx pp d t q, H b = some (.ins (cBrd K) dx (brdF pp d t q)) := fun ⟨dx, pp, d, t, q, h1, _⟩ => ⟨dx, pp, d, t, q, h1⟩
    refine ⟨_, (pss_cons (ps_par (i := 3) (j := 4) rfl nd rfl rfl (by decide) rfl rfl (pa_cons (pe_methR0 (pv 1) c.c (T.meth ("Board", "twin") (by decide +kernel)) (ok_BoardTwin T) (hr.mono (by decide)) pass0) (pa_cons (pe_propR (pv 1) c.c T.prD (ok_BoardDeeds T) (hr.mono (by decide)) pass0) pa_nil)) rfl) (pss_cons (ps_if (pw_or (pt_not (pt_val (cl "_law_shows" T (ok_shows T) hr (pa_cons (pv 3) (pa_cons (pv 2) pa_nil))))) (pw_or (pt_cmpR op_ne (pe_propR (pv 3) c.c T.prD (ok_BoardDeeds T) (hr.mono (by decide)) pass0) pe_int (nomark _)) (pw_or1 (pt_cmpR op_isnot_bl (pe_methR0 (pv 3) c.c (T.meth ("Board", "undo") (by decide +kernel)) (ok_BoardUndo T) (hr.mono (by decide)) pass0) pe_bl (nomark _))))).pt (pss_one (ps_ret pe_bl)) pss_nil) (pss_cons (ps_set (i := 5) nd rfl (Or.inl rfl) (cl "_law_deed" T (ok_deed T) hr (pa_cons (pv 0) (pa_cons (pv 3) (pa_cons (pv 2) pa_nil))))) (pss_cons (ps_if (pw_or (pt_not (pt_val (cl "_law_shows" T (ok_shows T) hr (pa_cons (pv 3) (pa_cons (pv 5) pa_nil))))) (pw_or (pt_cmpR op_ne (pe_propR (pv 3) c.c T.prD (ok_BoardDeeds T) (hr.mono (by decide)) pass0) pe_int (nomark _)) (pw_or (pt_not (pt_val (cl "_law_shows" T (ok_shows T) hr (pa_cons (pv 1) (pa_cons (pv 2) pa_nil))))) (pw_or1 (pt_cmpR op_ne (pe_propR (pv 1) c.c T.prD (ok_BoardDeeds T) (hr.mono (by decide)) pass0) (pv 4) (nomark _)))))).pt (pss_one (ps_ret pe_bl)) pss_nil) (pss_one (ps_ret (pe_and (pe_cmpR op_is_bl (pe_methR0 (pv 3) c.c (T.meth ("Board", "undo") (by decide +kernel)) (ok_BoardUndo T) (hr.mono (by decide)) pass0) pe_bl (nomark _)) (pe_one (cl "_law_shows" T (ok_shows T) hr (pa_cons (pv 3) (pa_cons (pv 2) pa_nil))))))))))), ?_⟩
    obtain ⟨x1, x2, x3, x4, x5, hb⟩ := hins brd
    refine ⟨_, rfl, b, _, _, rfl, hb, rfl, G, b, bd S, L, rfl, gs, brd, fun H1 G1 tw g1 ntw brt => ?_⟩
    have brd1 := brd.up g1 (by simp)
    obtain ⟨x6, x7, x8, x9, x10, hb1⟩ := hins brd1
    refine ⟨_, rfl, b, _, _, rfl, hb1, G1, b, bd S, L, rfl, g1.gh, brd1, ⟨_, _, rfl, ?_⟩⟩
    have sat1 := sat.up g1.gg
    have s01 : Same H H1 := fun x o e => g1.kp x o (by simp) e
    have pen1 := pen.up s01
    have nbt : b ≠ tw := fun z => by rw [z, ntw] at hb; cases hb
    have ntp : tw ≠ p := (pen.nn ntw).1
    have ntc : tw ≠ cp := (pen.nn ntw).2
    have nbp : b ≠ p ∧ b ≠ cp := pen.nl hb (fun xs z => by cases z)
    have gp1 := g1.unf gp pen.ne
    -- the twin shows the state
    refine nx_seq (ifs_by (by_post (fun b' H' => b' = false ∧ Same H1 H') (fun Q' kk => ?_) ?_))
    · refine ⟨_, rfl, _, rfl, G1, tw, sa, k, PL, S, [], rfl, g1.gh, sat1, brt, ok, by omega, fun H2 s2 => ⟨true, rfl, ?_⟩⟩
      have brt2 := brt.same s2
      obtain ⟨y1, y2, y3, y4, y5, ht2⟩ := hins brt2
      refine ⟨_, rfl, tw, _, _, rfl, ht2, G1, tw, bd S, [], rfl, same_tr g1.gh s2, brt2, rfl, _, rfl, ?_⟩
      rw [show (!decide (V.int ((([] : List Sn).length : Nat) : Int) = V.int 0)) = false from by simp]
      refine ⟨_, rfl, tw, _, _, rfl, ht2, rfl, G1, tw, bd S, [], rfl, same_tr g1.gh s2, brt2, by decide, .inl ⟨rfl, false, false, rfl, rfl, _, rfl, ?_⟩⟩
      exact kk false _ ⟨rfl, s2⟩
    · rintro _ H2 ⟨rfl, s12⟩
      refine ifF (next_by ?_)
      have gs2 := same_tr g1.gh s12
      have brt2 := brt.same s12
      have brd2 := brd1.same s12
      have pen2 := pen1.up s12
      refine ⟨_, rfl, _, rfl, _, rfl, G1, p, cp, tw, sa, _, k, PL, S, [], rfl, gs2, gp1, pen2, by omega, sat1, brt2, ok, k0, by omega, by decide, fun H3 G3 sa3 S3 g3 pn3 st3 brt3 ok3 => ?_⟩
      have brd3 := brd2.up g3 (by simp [nbp.1, nbt])
      have sat3 := sat1.up g3.gg
      refine nx_seq (ifs_by (by_post (fun b' H' => b' = false ∧ Same H3 H') (fun Q' kk => ?_) ?_))
      · refine ⟨_, rfl, _, rfl, G3, tw, sa3, _, PL, S3, _, rfl, g3.gh, st3, brt3, ok3, by omega, fun H4 s4 => ⟨true, rfl, ?_⟩⟩
        have gs4 := same_tr g3.gh s4
        have brt4 := brt3.same s4
        have brd4 := brd3.same s4
        obtain ⟨y1, y2, y3, y4, y5, ht4⟩ := hins brt4
        refine ⟨_, rfl, tw, _, _, rfl, ht4, G3, tw, bd S3, _, rfl, gs4, brt4, rfl, _, rfl, ?_⟩
        rw [show (!decide (V.int ((([] ++ [bd S] : List Sn).length : Nat) : Int) = V.int 1)) = false from by simp]
        refine ⟨_, rfl, _, rfl, G3, b, sa, k, PL, S, L, rfl, gs4, sat3, brd4, ok, by omega, fun H5 s5 => ⟨true, rfl, ?_⟩⟩
        have brd5 := brd4.same s5
        obtain ⟨z1, z2, z3, z4, z5, hb5⟩ := hins brd5
        refine ⟨_, rfl, b, _, _, rfl, hb5, G3, b, bd S, L, rfl, same_tr gs4 s5, brd5, _, rfl, rfl, _, rfl, ?_⟩
        rw [show (!decide (V.int ((L.length : Nat) : Int) = V.int ((L.length : Nat) : Int))) = false from by simp]
        exact kk false _ ⟨rfl, same_tr s4 s5⟩
      · rintro _ H4 ⟨rfl, s34⟩
        refine ifF (next_by ?_)
        have gs4 := same_tr g3.gh s34
        have brt4 := brt3.same s34
        have pn4 := pn3.up s34
        obtain ⟨y1, y2, y3, y4, y5, ht4⟩ := hins brt4
        refine ⟨_, rfl, tw, _, _, rfl, ht4, rfl, G3, tw, bd S3, _, rfl, gs4, brt4, (show (1 : Nat) ≤ 1000 by decide), .inr ⟨[], bd S, rfl, fun H5 G5 g5 brt5 => ⟨true, true, rfl, rfl, _, rfl, ?_⟩⟩⟩
        refine ⟨_, rfl, _, rfl, G5, tw, sa, k, PL, S, [], rfl, g5.gh, sat3.up g5.gg, brt5, ok, by omega, fun H6 s6 => ?_⟩
        have pn5 := pn4.kp g5.kp (fun xs z => by rw [ht4] at z; cases z)
        refine kq H6 (fun x o hx e => s6 _ _ (g5.kp x o ?_ (s34 _ _ (g3.kp x o ?_ (s12 _ _ (s01 _ _ e)))))) (pn5.up s6)
        · have : x ≠ tw := fun z => by rw [z, ntw] at e; cases e
          simpa using this
        · have : x ≠ tw := fun z => by rw [z, ntw] at e; cases e
          simp at hx ⊢
          exact ⟨hx, this⟩
end
end N1
set_option maxHeartbeats 4000000
/-! the law's rounds -/
namespace N1
open PySem PySem.Spec PyProof.Rows L2
/-- between the steps -/
structure RtJ (K : PySem.W.Frag) (H0 : Hp) (p c b : Addr) (PL : List Str) (G H : Hp) (m k : Int) (sa : Addr) (S : Sn) (L : List Sn) : Prop where
  gs : Same G H
  gp : G p = none
  pn : PenAt H p c m
  sAt : StAt G sa S
  ok : StOk k PL S
  br : BrdAt K G H b (bd S) L
  kp : Kp [p] H0 H
  b0 : H0 b = none
section
variable {K : PySem.W.Frag} {H0 : Hp} {p c b : Addr} {PL : List Str} {G H : Hp} {m k : Int} {sa : Addr} {S : Sn} {L : List Sn}
theorem RtJ.same (h : RtJ K H0 p c b PL G H m k sa S L) {H1 : Hp} (s : Same H H1) : RtJ K H0 p c b PL G H1 m k sa S L :=
  ⟨same_tr h.gs s, h.gp, h.pn.up s, h.sAt, h.ok, h.br.same s, kp_tr h.kp (kp_same s), h.b0⟩
theorem RtJ.hb (h : RtJ K H0 p c b PL G H m k sa S L) : ∃ dx pp d t q, H b = some (.ins (cBrd K) dx (brdF pp d t q)) := let ⟨dx, pp, d, t, q, h1, _⟩ := h.br; ⟨dx, pp, d, t, q, h1⟩
theorem RtJ.board (h : RtJ K H0 p c b PL G H m k sa S L) {G' H' : Hp} {m' : Int} {sa' : Addr} {S' : Sn} {L' : List Sn} (g : Gx [p, b] G H G' H') (pn : PenAt H' p c m') (st : StAt G' sa' S') (br : BrdAt K G' H' b (bd S') L') (ok' : StOk (k + 1) PL S') : RtJ K H0 p c b PL G' H' m' (k + 1) sa' S' L' := by
  refine ⟨g.gh, g.unf h.gp h.pn.ne, pn, st, ok', br, fun a o ha e => ?_, h.b0⟩
  refine g.kp a o ?_ (h.kp a o ha e)
  have nb : a ≠ b := fun z => by rw [z, h.b0] at e; cases e
  simp at ha ⊢
  exact ⟨ha, nb⟩
theorem RtJ.le' (h : RtJ K H0 p c b PL G H m k sa S L) {m' : Int} (hm : m ≤ m') : RtJ K H0 p c b PL G H m' k sa S L := ⟨h.gs, h.gp, h.pn.le hm, h.sAt, h.ok, h.br, h.kp, h.b0⟩
theorem RtJ.nobody (h : RtJ K H0 p c b PL G H m k sa S L) : ("nobody" : Str) ∉ names (bd S).ts := by
  show ("nobody" : Str) ∉ names (st S.ts)
  rw [names_st, mem_sn]
  intro z
  obtain ⟨t, ht, e⟩ := List.mem_map.mp z
  have := (h.ok.ok t ht).nm
  rw [e] at this
  exact absurd this (by decide +kernel)
end
def spRight : Sp := fun vs H Q _ => ∃ (p c : Addr) (m : Int), vs = [.ref p] ∧ PenAt H p c m ∧ m ≤ 500000 ∧ ∀ H', Kp [p] H H' → PenAt H' p c (m + 1000) → Q (.bl true) H'
section
variable {P : Program} {w : World} {K : PySem.W.Frag} {mg : Str → Option Value} {base : Heap}
theorem ok_right (T : FX P K mg) : FnR P w K mg base CX0 13 (ga K "_law_right") spRight := by
  refine fnr T.f_w_right sc_right (fun _ _ _ _ _ _ us hl => match us, hl with | [_], _ => rfl) (fun vs H Q E h => ?_) (fun cdv A outer s H vs Q E hr h => ?_)
  · obtain ⟨p, cp, m, rfl, _⟩ := h
    rfl
  · obtain ⟨p, cp, m, rfl, pen, hm, kq⟩ := h
    have nd := sc_right.nd
    have hu := hu_of hr
    have c := brC T
    refine ⟨_, (pss_cons (ps_set (i := 1) nd rfl (Or.inl rfl) (cl "_law_begun" T (ok_begun T) (hr.mono (by decide)) (pa_cons (pv 0) pa_nil))) (pss_cons (ps_set (i := 2) nd rfl (Or.inl rfl) (cl "_law_table" T (ok_table T) (hr.mono (by decide)) (pa_cons (pe_dget hu (pv 1) pe_str (fun _ _ => rfl)) (pa_cons (pe_dget hu (pv 1) pe_str (fun _ _ => rfl)) pa_nil)))) (pss_cons (ps_set (i := 3) nd rfl (Or.inl rfl) (StX.pe_makeR (T.mkr "Board" (by decide +kernel)) (ok_BoardInit T) (hr.mono (by decide)) rfl (T.glo "Board" (by decide +kernel)) pass0 (pa_cons (pv 2) (pa_cons (pe_smeth (gc "Pauses" T) T.crP T.stP (ok_PausesOf T) (hr.mono (by decide)) pass0 (pa_cons (pe_dget hu (pv 1) pe_str (fun _ _ => rfl)) pa_nil)) pa_nil)))) (pss_cons (ps_if (pw_or (pt_not (pt_val (cl "_law_shows" T (ok_shows T) (hr.mono (by decide)) (pa_cons (pv 3) (pa_cons (pv 1) pa_nil))))) (pw_or1 (pt_cmpR op_ne (pe_propR (pv 3) c.c T.prD (ok_BoardDeeds T) (hr.mono (by decide)) pass0) pe_int (nomark _)))).pt (pss_one (ps_ret pe_bl)) pss_nil) (pss_cons (ps_for PassesOwn.never rfl (pi_range1 (by rfl) (T.fre "range" (by decide +kernel)) (pa_cons pe_int pa_nil)) (pg_name (i := 4) nd rfl (Or.inl rfl)) (pss_cons (ps_set (i := 1) nd rfl (Or.inl rfl) (cl "_law_deed" T (ok_deed T) (hr.mono (by decide)) (pa_cons (pv 0) (pa_cons (pv 3) (pa_cons (pv 1) pa_nil))))) (pss_cons (ps_if (pw_or (pt_cmpR op_ne (pe_propR (pv 3) c.c T.prD (ok_BoardDeeds T) (hr.mono (by decide)) pass0) (pe_op op_add (pv 4) pe_int) (nomark _)) (pw_or (pt_not (pt_val (cl "_law_shows" T (ok_shows T) (hr.mono (by decide)) (pa_cons (pv 3) (pa_cons (pv 1) pa_nil))))) (pw_or1 (pt_not (pt_val (cl "_law_bare_right" T (ok_bare T) (hr.mono (by decide)) (pa_cons (pv 3) (pa_cons (pv 1) pa_nil)))))))).pt (pss_one (ps_ret pe_bl)) pss_nil) (pss_one (ps_if (pw_or (pt_cmpR (or_ownIn (T.meth ("Board", "__contains__") (by decide +kernel)) (ok_BoardContains T) (hr.mono (by decide)) pass0) pe_str (pv 3) rfl) (pw_or (pt_cmpR (or_ownIn (T.meth ("Board", "__contains__") (by decide +kernel)) (ok_BoardContainsN T) (hr.mono (by decide)) pass0) pe_non (pv 3) rfl) (pw_or1 (pt_cmpR (or_ownIn (T.meth ("Board", "__contains__") (by decide +kernel)) (ok_BoardContainsN T) (hr.mono (by decide)) pass0) (pe_lst (pa_cons pe_str pa_nil)) (pv 3) rfl)))).pt (pss_one (ps_ret pe_bl)) pss_nil))))) (pss_one (ps_ret (cl "_law_twin_right" T (ok_twin T) hr (pa_cons (pv 0) (pa_cons (pv 3) (pa_cons (pv 1) pa_nil))))))))))), ?_⟩
    refine ⟨_, rfl, (fun _ => none), p, cp, m, rfl, (fun _ _ e => by cases e), rfl, pen, by omega, fun H1 G1 sa S PL g1 nsa st1 ok1 hbal pn1 => ?_⟩
    have hG1p : G1 p = none := g1.unf rfl pen.ne
    obtain ⟨a, r, qs, hS, hA, hR⟩ := id st1
    have n1 := ok1.n1
    have n2 := ok1.n2
    have l17 := ok1.len
    have tok : TabOk S.n S.ts := ⟨ok1.nd, by omega, fun t ht => (ok1.ok t ht).l1, ok1.few, bal_perm hbal⟩
    refine ⟨_, rfl, sa, _, rfl, dg_rows (g1.gh _ _ hS), _, rfl, sa, _, rfl, dg_len (g1.gh _ _ hS), G1, r, S.ts, qs, S.n, rfl, g1.gh, hR.up g1.gh, ok1.oks (by omega), tok, n1, by omega, fun H3 G3 pt g3 npt tbl => ?_⟩
    have hS3 := g3.gh _ _ (g3.gg _ _ hS)
    refine ⟨_, rfl, rfl, _, rfl, sa, _, rfl, dg_pauses hS3, G3, a, S.ps, rfl, g3.gh, g3.gh _ _ (g3.gg _ _ hA), ok1.pa, fun H4 G4 pp g4 npp hpp => ?_⟩
    refine fun b dx hb hdx hne => ⟨G4, b, pt, pp, dx, S.n, st S.ts, nrm S.ps, rfl, same_new (same_new g4.gh hdx) (by rw [upd_ne (Ne.symm hne)]; exact hb), same_non g4.gh hb, upd_same, tbl.up g4.gg, ok1.bnd, by have := ok1.blen; show (bd S).ts.length < 64; omega, hpp, fun H5 G5 g5 br5 => ⟨rfl, ?_⟩⟩
    have s14 : Same H1 H4 := fun x o e => g4.kp x o (by simp) (g3.kp x o (by simp) e)
    have s1x : Same H1 (upd (upd H4 dx (.own b)) b (.ins (ga K "Board") dx [])) := same_new (same_new s14 hdx) (by rw [upd_ne (Ne.symm hne)]; exact hb)
    have k12 : Kp [p] H (upd (upd H4 dx (.own b)) b (.ins (ga K "Board") dx [])) := kp_tr (show Kp [p] H H1 from g1.kp) (kp_same s1x)
    have hb0 : H b = none := g1.old (same_non s14 hb)
    have pnx := pn1.up s1x
    have ri : RtJ K H p cp b PL G5 H5 (m + 170) 0 sa S [] := by
      have hGp : G4 p = none := by
        have h3 := g3.unf hG1p pn1.ne
        exact g4.unf h3 (pn1.up (fun x o e => g3.kp x o (by simp) e)).ne
      refine ⟨g5.gh, g5.unf hGp pnx.ne, pnx.kp g5.kp (fun xs z => by rw [upd_same] at z; cases z), ((st1.up g3.gg).up g4.gg).up g5.gg, ok1, br5, fun x o hx e => ?_, hb0⟩
      have nb : x ≠ b := fun z => by rw [z, hb0] at e; cases e
      exact g5.kp x o (by simpa using nb) (k12 x o hx e)
    clear br5 hpp tbl g5 g4 g3 g1
    refine nx_seq (ifs_by (by_post (fun b' H' => b' = false ∧ Same H5 H') (fun Q' kk => ?_) ?_))
    · refine ⟨_, rfl, _, rfl, G5, b, sa, 0, PL, S, [], rfl, ri.gs, ri.sAt, ri.br, ri.ok, by decide, fun H6 s6 => ⟨true, rfl, ?_⟩⟩
      have r6 := ri.same s6
      obtain ⟨y1, y2, y3, y4, y5, hb6⟩ := r6.hb
      refine ⟨_, rfl, b, _, _, rfl, hb6, G5, b, bd S, [], rfl, r6.gs, r6.br, rfl, _, rfl, ?_⟩
      rw [show (!decide (V.int ((([] : List Sn).length : Nat) : Int) = V.int 0)) = false from by simp]
      exact kk false _ ⟨rfl, s6⟩
    rintro _ H6 ⟨rfl, s56⟩
    have ri6 := ri.same s56
    refine ifF (next_by ?_)
    refine ⟨9, rfl, by decide, by decide, for_range (n := 9) (fun i σ H' => ∃ G sa S L, RtJ K H p cp b PL G H' (m + 170 + 25 * i) i sa S L ∧ L.length = i ∧ ∃ v4, σ = [some (.ref p), some (.ref sa), some (.ref pt), some (.ref b), v4]) ⟨G5, sa, S, [], ri6.le' (by omega), rfl, _, rfl⟩ ?_ ?_⟩
    · rintro i σ H7 hi ⟨G7, sa, S, L, r7, hL, v4, rfl⟩
      refine ⟨_, rfl, _, rfl, _, rfl, G7, p, cp, b, sa, _, i, PL, S, L, rfl, r7.gs, r7.gp, r7.pn, by omega, r7.sAt, r7.br, r7.ok, by omega, by omega, by omega, fun H8 G8 sa8 S8 g8 pn8 st8 br8 ok8 => ?_⟩
      have r8 := r7.board g8 pn8 st8 br8 ok8
      have lL8 : (L ++ [bd S]).length = i + 1 := by rw [List.length_append, hL]; rfl
      refine nx_seq (ifs_by (by_post (fun b' H' => b' = false ∧ Same H8 H') (fun Q' kk => ?_) ?_))
      · obtain ⟨y1, y2, y3, y4, y5, hb8⟩ := r8.hb
        refine ⟨_, rfl, b, _, _, rfl, hb8, G8, b, bd S8, _, rfl, r8.gs, r8.br, _, rfl, _, _, rfl, rfl, rfl, _, rfl, ?_⟩
        have ef : (!decide (V.int (((L ++ [bd S]).length : Nat) : Int) = (fun i j : Int => V.int (i + j)) (0 + (i : Int)) 1)) = false := by
          have e1 : ((i + 1 : Nat) : Int) = 0 + (i : Int) + 1 := by omega
          rw [lL8, e1]
          simp
        rw [ef]
        refine ⟨_, rfl, _, rfl, G8, b, sa8, _, PL, S8, _, rfl, r8.gs, r8.sAt, r8.br, r8.ok, by omega, fun H9 s9 => ⟨true, rfl, ?_⟩⟩
        have r9 := r8.same s9
        exact ⟨_, rfl, _, rfl, G8, b, sa8, _, PL, S8, _, rfl, r9.gs, r9.sAt, r9.br, r9.ok, by omega, fun H10 s10 => ⟨true, rfl, kk false _ ⟨rfl, same_tr s9 s10⟩⟩⟩
      · rintro _ H9 ⟨rfl, s89⟩
        have r9 := r8.same s89
        refine ifF (next_by ?_)
        refine nx_one (ifs_by (by_post (fun b' H' => b' = false ∧ Same H9 H') (fun Q' kk => ?_) ?_))
        · obtain ⟨y1, y2, y3, y4, y5, hb9⟩ := r9.hb
          refine ⟨_, rfl, b, rfl, gsb r9.br, G8, b, "nobody", bd S8, _, rfl, r9.gs, r9.br, _, rfl, _, rfl, ?_⟩
          rw [decide_eq_false r9.nobody]
          refine ⟨_, rfl, b, rfl, gsb r9.br, b, .non, "NoneType", rfl, .base .non, kit_ty (by decide +kernel), _, rfl, _, rfl, ?_⟩
          refine ⟨by decide, fun l2 hl2 => ⟨_, rfl, b, rfl, gsb (r9.same (same_new (o := .lst [.str "a"]) same_rfl hl2)).br, b, .ref l2, "list", rfl, .base (.lst upd_same), kit_ty (by decide +kernel), _, rfl, _, rfl, ?_⟩⟩
          exact kk false _ ⟨rfl, same_new same_rfl hl2⟩
        · rintro _ H10 ⟨rfl, s910⟩
          have r10 := (r9.same s910).le' (m' := m + 170 + 25 * ((i + 1 : Nat) : Int)) (by omega)
          exact ifF (next_by ⟨G8, sa8, S8, _, r10, lL8, _, rfl⟩)
    · rintro σ H7 ⟨G7, sa, S, L, r7, hL, v4, rfl⟩
      refine ⟨_, rfl, _, rfl, _, rfl, G7, p, cp, b, sa, _, _, PL, S, L, rfl, r7.gs, r7.gp, r7.pn, by omega, r7.sAt, r7.br, r7.ok, by decide, by decide, by omega, fun H8 k8 pn8 => kq H8 (kp_tr r7.kp k8) (pn8.le (by omega))⟩
end
end N1
set_option maxHeartbeats 4000000
/-! the law -/
namespace N1
open PySem PySem.Spec PyProof.Rows L2
def spLaw (K : PySem.W.Frag) : Sp := fun vs H Q _ => ∃ (a : Addr) (ns : List Int), vs = [.ref a] ∧ SqL K H a (ns.map V.int) ∧ ∀ H', Q (.bl true) H'
theorem stS (t : TR) : st [t] = [t] := List.perm_singleton.mp (st_perm (show [t.name].Nodup by simp))
/-- the one trip of the law's end -/
def tw : TR := ⟨false, "w", "a", 8, 3, "a"⟩
def big50 : Int := 100000000000000000000000000000000000000000000000000
theorem paN : PaOk [] := ⟨List.Pairwise.nil, (fun x h => by cases h), (fun x h => by cases h), by decide⟩
section
variable {P : Program} {w : World} {K : PySem.W.Frag} {mg : Str → Option Value} {base : Heap}
theorem ok_law {fd : FuncData} (T : FX P K mg) (F : FunD K "law" "law" (defArgs d_law) (defBody d_law) (defScope d_law) [] [] (ga K "law") fd) : FnOk P w K mg base CX0 14 (ga K "law") fd ["_law_script"] (spLaw K) := by
  refine F.ok sc_law (fun vs H Q E h => ?_) (fun cdv A outer s H vs Q E hr h => ?_)
  · obtain ⟨a, ns, rfl, _⟩ := h
    rfl
  · obtain ⟨a, ns, rfl, ha, kq⟩ := h
    have nd := sc_law.nd
    have c := brC T
    have cT := T.cls "Stay" (by decide +kernel)
    refine ⟨_, PSs.nox (pss_cons (ps_set (i := 1) nd rfl (Or.inl rfl) (cl "_law_pen" T (ok_pen T) (hr.mono (by decide)) (pa_cons (pv 0) pa_nil))) (pss_cons (ps_for PassesOwn.never rfl (pi_range1 (by rfl) (T.fre "range" (by decide +kernel)) (pa_cons pe_int pa_nil)) (pg_name (i := 2) nd rfl (Or.inl rfl)) (pss_one (ps_if (pt_not (pt_val (cl "_law_right" T (ok_right T) (hr.mono (by decide)) (pa_cons (pv 1) pa_nil)))) (pss_one (ps_ret pe_bl)) pss_nil))) (pss_cons (ps_set (i := 3) nd rfl (Or.inl rfl) (StX.pe_makeR (T.mkr "Board" (by decide +kernel)) (ok_BoardInitN T) (hr.mono (by decide)) rfl (T.glo "Board" (by decide +kernel)) pass0 (pa_cons (StX.pe_makeR (T.mkr "Table" (by decide +kernel)) (ok_TableInit T) (hr.mono (by decide)) rfl (T.glo "Table" (by decide +kernel)) pass0 (pa_cons (StX.pe_makeR (T.mkr "Day" (by decide +kernel)) (ok_DayInit T) (hr.mono (by decide)) rfl (T.glo "Day" (by decide +kernel)) pass0 (pa_cons pe_int pa_nil)) pa_nil)) pa_nil))) (pss_cons (ps_set (i := 4) nd rfl (Or.inl rfl) (pv 3)) (pss_cons (ps_aug (i := 4) nd rfl (Or.inl rfl) pe_int (ip_own T.sfB.1 (T.meth ("Board", "__iadd__") (by decide +kernel)).at_ (T.meth ("Board", "__iadd__") (by decide +kernel)).fn (ok_BoardIadd T) (hr.mono (by decide)) pass0)) (pss_cons (ps_expr (pe_methR (pv 3) c.c (T.meth ("Board", "put") (by decide +kernel)) (ok_BoardPut T) (hr.mono (by decide)) pass0 (pa_cons (StX.pe_makeR (T.mkr "Stay" (by decide +kernel)) (ok_StayInit T) (hr.mono (by decide)) rfl (T.glo "Stay" (by decide +kernel)) pass0 (pa_cons pe_str (pa_cons pe_str (pa_cons pe_int (pa_cons pe_int pa_nil))))) pa_nil))) (pss_cons (ps_aug (i := 4) nd rfl (Or.inl rfl) (pe_op op_pow pe_int pe_int) (ip_own T.sfB.1 (T.meth ("Board", "__isub__") (by decide +kernel)).at_ (T.meth ("Board", "__isub__") (by decide +kernel)).fn (ok_BoardIsub T) (hr.mono (by decide)) pass0)) (pss_one (ps_ret (pe_cmpR (op_eqD hr.units) (pe_lst (pa_cons (pe_fld (pe_ixO (T.meth ("Board", "__getitem__") (by decide +kernel)) T.nsq.1 (ok_BoardGetitem T) (hr.mono (by decide)) pass0 (pv 3) pe_str) rfl) (pa_cons (pe_propR (pv 3) c.c T.prD (ok_BoardDeeds T) (hr.mono (by decide)) pass0) (pa_cons (cb "len" T (call_ownLen (T.meth ("Board", "__len__") (by decide +kernel)) (ok_BoardLen T) (hr.mono (by decide)) pass0) (pa_cons (pv 4) pa_nil)) (pa_cons (pe_cmpR (or_ownEq (T.meth ("Pauses", "__eq__") (by decide +kernel)) (ok_PausesEq T) (hr.mono (by decide)) pass0) (pe_methR0 (pv 3) c.c (T.meth ("Board", "told_pauses") (by decide +kernel)) (ok_BoardTold_pauses T) (hr.mono (by decide)) pass0) (pe_makeK (T.mkr "Pauses" (by decide +kernel)) (ok_PausesInit T) (hr.mono (by decide)) rfl (T.glo "Pauses" (by decide +kernel)) pass0 pk_nil) (nomark _)) pa_nil))))) (pe_lst (pa_cons (pe_op op_mod (ct "int" T call_int1 (pa_cons (pe_op op_sub pe_int (pe_op op_pow pe_int pe_int)) pa_nil)) pe_int) (pa_cons pe_int (pa_cons pe_int (pa_cons pe_bl pa_nil))))) (nomark _))))))))))), ?_⟩
    refine ⟨_, rfl, a, ns, rfl, ha, fun H1 p cp s1 np pen1 => ?_⟩
    refine ⟨3, rfl, by decide, by decide, for_range (n := 3) (fun i σ H' => PenAt H' p cp (1000 * i) ∧ ∃ v2, σ = [some (.ref a), some (.ref p), v2, none, none]) ⟨pen1.le (by omega), _, rfl⟩ ?_ ?_⟩
    · rintro i σ H2 hi ⟨pn, v2, rfl⟩
      refine ⟨_, rfl, p, cp, _, rfl, pn, by omega, fun H3 kp3 pn3 => ⟨true, rfl, ?_⟩⟩
      exact ⟨pn3.le (by omega), _, rfl⟩
    · rintro σ H2 ⟨pn, v2, rfl⟩
      refine fun xd dxd hxd hdxd hned => ⟨xd, dxd, 9, rfl, by decide, by decide, upd_same, fun H3 q1 q2 => ⟨rfl, fun xt dxt hxt hdxt hnet => ⟨_, _, [], rfl, (show (0 : Nat) ≤ sizeLine by decide), fun pt hpt => ?_⟩⟩⟩
      have npx : xt ≠ pt := fun z => by rw [← z, upd_same] at hpt; cases hpt
      have sU : Same H3 (upd (upd (upd H3 dxt (.own xt)) xt (.ins (ga K "Table") dxt [])) pt (.tup [])) := same_new (same_new (same_new same_rfl hdxt) (by rw [upd_ne (Ne.symm hnet)]; exact hxt)) hpt
      refine ⟨xt, dxt, xd, pt, 9, [], [], rfl, upd_same, ⟨rfl, fun i a t h => by simp at h⟩, ⟨dxd, sU _ _ q2⟩, tabN 9, by rw [upd_ne npx]; exact upd_same, fun H4 dn dp dr rs ys k1 hx' f1 f2 f3 ft r2 r3 sel => ⟨rfl, ?_⟩⟩
      have s34 : Same H3 H4 := fun x v e => k1 x v (fun z => by rw [z, hxt] at e; cases e) (sU _ _ e)
      have tb : TableAt K H4 xt 9 [] := by
        refine ⟨dxt, xd, dn, dp, dr, rs, hx', ⟨dxd, s34 _ _ q2⟩, ?_, r3, ?_⟩
        · rw [← names_st, stN] at ft
          exact ft
        · have := sel.trs (K := K) (G := H4) ⟨rfl, fun i a t h => by simp at h⟩
          rw [stN] at this
          exact this
      refine fun b dx hb hdx hne => ⟨H4, b, xt, dx, 9, [], rfl, same_new (same_new same_rfl hdx) (by rw [upd_ne (Ne.symm hne)]; exact hb), hb, upd_same, tb, List.Pairwise.nil, by decide, fun H6 G6 g6 br6 => ⟨rfl, ?_⟩⟩
      obtain ⟨s0, hs0⟩ : ∃ s0 : Sn, s0 = ⟨9, [], []⟩ := ⟨_, rfl⟩
      rw [← hs0] at br6
      have hins : ∀ {G H : Hp} {s : Sn} {L : List Sn}, BrdAt K G H b s L → ∃ dx pp d t q, H b = some (.ins (cBrd K) dx (brdF pp d t q)) := fun ⟨dx, pp, d, t, q, h1, _⟩ => ⟨dx, pp, d, t, q, h1⟩
      obtain ⟨d6, a6, b6, c6, e6, hb6⟩ := hins br6
      refine ⟨_, rfl, ?_⟩
      refine ⟨_, rfl, b, rfl, gsb br6, G6, b, 4, s0, _, rfl, g6.gh, br6, ⟨by rw [hs0]; exact List.Pairwise.nil, by rw [hs0]; decide, (show (0 : Nat) ≤ 1000 by decide)⟩, by rw [hs0]; decide, by rw [hs0]; decide, fun t h => (by rw [hs0] at h; cases h), fun H7 G7 g7 br7 => ⟨⟨b, rfl⟩, ?_⟩⟩
      have z7 : (⟨s0.n, s0.ps, N1.st (shiftT s0.n (if false = true then -4 else 4) s0.ts)⟩ : Sn) = s0 := by rw [hs0]; show Sn.mk 9 _ (N1.st []) = _; rw [stN]
      rw [z7] at br7
      obtain ⟨d7, a7, b7, c7, e7, hb7⟩ := hins br7
      have na : NameOk "a" := by decide +kernel
      have nw : NameOk "w" := by decide +kernel
      refine ⟨_, rfl, b, _, _, rfl, hb7, rfl, fun xs dxs hxs hdxs hnes => ⟨xs, dxs, "w", "a", 8, 3, rfl, ⟨nw, na, na, by decide, by decide, by decide, by decide⟩, upd_same, fun H8 h1 h2 => ⟨rfl, ?_⟩⟩⟩
      have s78 : Same H7 H8 := made_same hxs hdxs h1
      obtain ⟨G8, g8, _, fz⟩ := frz_all ((Gx.refl (M := [b]) g7.gh).same s78)
      have br8 : BrdAt K G8 H8 b s0 ([] ++ [s0]) := by
        obtain ⟨u1, u2, u3, u4, u5, v1, v2, v3, v4⟩ := br7
        exact ⟨u1, u2, u3, u4, u5, s78 _ _ v1, g8.unf v2 (by rw [v1]; intro z; cases z), v3.up g8.gg, v4.up g8.gg⟩
      have t8 : TripAt K G8 xs tw := ⟨dxs, fz _ _ hxs h2⟩
      obtain ⟨s1, hs1⟩ : ∃ s1 : Sn, s1 = ⟨9, [], [tw]⟩ := ⟨_, rfl⟩
      refine ⟨G8, b, xs, tw, s0, _, rfl, g8.gh, br8, ⟨by rw [hs0]; exact List.Pairwise.nil, by rw [hs0]; decide, (show (1 : Nat) ≤ 1000 by decide)⟩, t8, by rw [hs0]; decide, by rw [hs0]; decide, by rw [hs0]; exact ⟨["a"], by decide, fun t h => (by
        have : t = tw := by simpa [putT, names] using h
        subst this
        exact ⟨by decide, by decide⟩)⟩, fun H9 G9 g9 br9 => ?_⟩
      have z9 : (⟨s0.n, s0.ps, N1.st (putT s0.ts tw)⟩ : Sn) = s1 := by rw [hs0, hs1]; show Sn.mk 9 [] (N1.st [tw]) = _; rw [stS]
      rw [z9] at br9
      obtain ⟨d9, a9, b9, c9, e9, hb9⟩ := hins br9
      have tok : ∀ t ∈ s1.ts, t.Ok := fun t h => by
        rw [hs1] at h
        have : t = tw := by simpa using h
        subst this
        exact ⟨nw, na, na, by decide, by decide, by decide, by decide, fun _ => rfl⟩
      refine ⟨_, rfl, _, _, rfl, rfl, ⟨by decide, by decide, by decide⟩, b, rfl, gsb br9, G9, b, _, s1, _, rfl, g9.gh, br9, ⟨by rw [hs1]; decide, by rw [hs1]; decide, (show (2 : Nat) ≤ 1000 by decide)⟩, by rw [hs1]; decide, by rw [hs1]; decide, tok, fun H10 G10 g10 br10 => ⟨⟨b, rfl⟩, ?_⟩⟩
      obtain ⟨s2, hs2⟩ : ∃ s2 : Sn, s2 = ⟨9, [], [⟨false, "w", "a", 7, 3, "a"⟩]⟩ := ⟨_, rfl⟩
      have z10 : (⟨s1.n, s1.ps, N1.st (shiftT s1.n (if true = true then -((10 : Int) ^ (50 : Int).toNat) else (10 : Int) ^ (50 : Int).toNat) s1.ts)⟩ : Sn) = s2 := by
        rw [hs1, hs2]
        have e : shiftT 9 (if true = true then -((10 : Int) ^ (50 : Int).toNat) else (10 : Int) ^ (50 : Int).toNat) [tw] = [⟨false, "w", "a", 7, 3, "a"⟩] := by decide +kernel
        show Sn.mk 9 [] (N1.st (shiftT 9 _ [tw])) = _
        rw [e, stS]
      rw [z10] at br10
      obtain ⟨d10, a10, b10, c10, e10, hb10⟩ := hins br10
      -- the told list
      refine ⟨_, rfl, b, rfl, gsb br10, G10, b, "w", s2, _, rfl, g10.gh, br10, by rw [hs2]; decide, fun ta u hta hlk => ?_⟩
      have eu : u = ⟨false, "w", "a", 7, 3, "a"⟩ := by
        rw [hs2] at hlk
        have : lk [(⟨false, "w", "a", 7, 3, "a"⟩ : TR)] "w" = some ⟨false, "w", "a", 7, 3, "a"⟩ := by decide
        rw [this] at hlk
        exact (Option.some.inj hlk).symm
      subst eu
      obtain ⟨du, hdu⟩ := hta
      refine ⟨ta, _, du, _, _, rfl, (by first | exact hdu | exact g10.gh _ _ hdu), (trT T _).c, (trT T _).n3, lk_leaves _, ?_⟩
      refine ⟨_, rfl, b, _, _, rfl, hb10, G10, b, _, _, rfl, g10.gh, br10, ?_⟩
      refine ⟨_, rfl, b, rfl, gsb br10, G10, b, s2, _, rfl, g10.gh, br10, _, rfl, by omega, by rw [hs2]; decide, ?_⟩
      refine ⟨_, rfl, b, _, _, rfl, hb10, rfl, G10, b, s2, _, rfl, g10.gh, br10, fun G' pa gs' hpa => ?_⟩
      refine fun xp dxp hxp hdxp hnep => ⟨xp, dxp, [], rfl, rfl, paN, upd_same, fun H11 dn' dr' k2 hxp' f4 r4 => ⟨rfl, ?_⟩⟩
      have s11 : Same H10 H11 := made_same hxp hdxp k2
      rw [nrm_nil] at r4
      have ps2 : s2.ps = [] := by rw [hs2]
      rw [ps2] at hpa
      have pa11 : PausesAt K H11 pa [] := (hpa.up gs').up s11
      have pb11 : PausesAt K H11 xp [] := ⟨dxp, dn', dr', hxp', r4⟩
      have ip : ∀ {x : Addr}, PausesAt K H11 x [] → InsAt H11 x (cPau K) := fun ⟨dx, dn, dr, h, _⟩ => ⟨dx, _, h⟩
      refine ⟨pa, xp, rfl, rfl, ip pa11, ip pb11, pa, xp, [], rfl, pa11, pb11, List.Pairwise.nil, true, rfl, (show (4 : Nat) ≤ sizeLine by decide), fun l hl => ?_⟩
      refine ⟨_, _, rfl, rfl, ⟨by decide, by decide, by decide⟩, _, _, rfl, rfl, ?_⟩
      refine .inl ⟨_, rfl, _, _, rfl, rfl, by decide, (show (4 : Nat) ≤ sizeLine by decide), fun l2 hl2 => ?_⟩
      have h2l : s2.ts.length = 1 := by rw [hs2]; rfl
      have nll : l ≠ l2 := fun z => by rw [← z, upd_same] at hl2; cases hl2
      refine ⟨.list [.int 7, .int 3, .int 1, .bool true], .list [.int (((8 : Int) - (10 : Int) ^ (50 : Int).toNat) % 9), .int 3, .int 1, .bool true],
        .lst (SqL.of (by rw [upd_ne nll, upd_same, h2l]; rfl)) (.cons (.int _) (.cons (.int _) (.cons (.int _) (.cons (.bl _) .nil)))),
        .lst (SqL.of upd_same) (.cons (.int _) (.cons (.int _) (.cons (.int _) (.cons (.bl _) .nil)))), by decide +kernel, by decide +kernel, ?_⟩
      rw [show PyData.eqv (.list [.int 7, .int 3, .int 1, .bool true]) (.list [.int (((8 : Int) - (10 : Int) ^ (50 : Int).toNat) % 9), .int 3, .int 1, .bool true]) = true by decide +kernel]
      exact kq _
end
end N1
set_option maxHeartbeats 2000000
namespace N1
open PySem PySem.Spec PyProof.Rows L2 He
theorem eqB_ok {a b : Option Bool} (h : eqB a b = true) : a = b := of_decide_eq_true h
theorem eqV1_ok {a b : Option Value} (h : eqV1 a b = true) : a = b := of_decide_eq_true h
theorem isiB_ok {K : PySem.W.Frag} {C D : Addr} (h : isiB K C D = true) : IsiC K C D := by
  obtain ⟨h1, h⟩ := ba h
  obtain ⟨h2, h3⟩ := ba h
  exact ⟨eqO_ok h1, eqB_ok h2, eqB_ok h3⟩
theorem conB_ok {K : PySem.W.Frag} {C : Addr} {f z : Str} (h : conB K C f z = true) : ∃ u, Con K C f (.str z) u := by
  obtain ⟨h1, h2⟩ := ba h
  split at h1
  · rename_i y t e
    obtain ⟨k1, k2⟩ := ba h1
    have ey := of_decide_eq_true k1
    subst ey
    exact ⟨_, e, ⟨t, rfl⟩, eqO_ok k2, by simpa using h2⟩
  · cases h1
theorem crB_ok {K : PySem.W.Frag} {C : Addr} (h : crB K C = true) : ClX.CRead K C (.type "type") := by
  obtain ⟨h1, h2⟩ := ba h
  exact ⟨h1, eqO_ok h2⟩
theorem staB_ok {K : PySem.W.Frag} {C : Addr} {m : Str} (h : staB K C m = true) : CSta K C (.type "type") m (ma K C m) (He5.wf K C "staticmethod" m) := by
  obtain ⟨h1, h2⟩ := ba h
  obtain ⟨k1, k2⟩ := He5.wrapB_ok h1
  exact ⟨k1, k2, h2⟩
theorem proB_ok {K : PySem.W.Frag} {C m : Str} (h : proB K C m = true) : PropOf K (ga K C) m (ma K (ga K C) m) (pr_ K C m) := by
  obtain ⟨h1, h⟩ := ba h
  obtain ⟨h2, h⟩ := ba h
  obtain ⟨h3, h4⟩ := ba h
  refine ⟨eqO_ok h1, eqO_ok h2, eqB_ok h3, ?_⟩
  unfold pr_
  split at h4
  · rename_i g r e
    exact ⟨r, by rw [e]⟩
  · cases h4
theorem supB_ok {P : Program} {K : PySem.W.Frag} {f D : Addr} {name qual : Str} {params : Arguments} {body : List Stmt} {scope : Scope} (h : supB K f D qual P.main.file = true) (e : fnS K f = supV name qual params body scope) : SupD P K name qual params body scope f (cel K f) (cod K f) D := by
  obtain ⟨h1, h2⟩ := ba h
  obtain ⟨h2, h3⟩ := ba h2
  unfold fnS at e
  unfold cel cod
  cases q : K.lookup f with
  | none => rw [q] at h1; cases h1
  | some o =>
    obtain ⟨oc, od, dt, osl⟩ := o
    rw [q] at h1 e
    cases dt with
    | func fd =>
      obtain ⟨n1, n2, n3, n4, n5, n6, n7, n8, n9, n10, n11, n12, n13, n14, n15⟩ := fd
      dsimp only at h1 e ⊢
      obtain ⟨h1, h6⟩ := ba h1
      obtain ⟨h4, h5⟩ := ba h1
      have e2 : (some (n1, n2, n3, n4, n5, n6, n7.map (fun q => (q.1, 0)), n15) : FnW) = some (name, qual, params, FuncBody.stmts body, scope, mainGlobals, [(("__class__" : Str), (0 : Addr))], builtinsNs) := e
      simp only [Option.some.injEq, Prod.mk.injEq] at e2
      obtain ⟨a1, a2, a3, a4, a5, a6, a7, a8⟩ := e2
      subst a1 a2 a3 a4 a5 a6 a8
      have d1 : n8 = .none := by cases n8 <;> first | rfl | cases h4
      subst d1
      split at h5
      · rename_i c
        obtain ⟨h7, h8⟩ := ba h5
        split at h6
        · rename_i s0 cc
          have ek : s0 = ("__class__" : Str) := by
            simp only [List.map_cons, List.map_nil, List.cons.injEq, Prod.mk.injEq] at a7
            exact a7.1.1
          subst ek
          refine ⟨⟨oc, od, n9, n10, n11, n12, n14, osl, q⟩, h7, ?_, ?_, ?_, h2⟩
          · unfold fileB at h8
            split at h8
            · rename_i ccl cdd vs ccs ec
              split at h8
              · rename_i file tf ef
                exact ⟨ccl, cdd, vs, ccs, file, tf, ec, ef, h8⟩
              · cases h8
            · cases h8
          · unfold cellB at h6
            split at h6
            · rename_i cl cld D' csl ec
              rw [of_decide_eq_true h6] at ec
              exact ⟨cl, cld, csl, ec⟩
            · cases h6
          · exact Option.isSome_iff_exists.mp h3
        · cases h6
      · cases h5
    | _ => cases h1
theorem oexB_ok {K : PySem.W.Frag} {C : Addr} (h : oexB K C = true) : OexC K C := by
  obtain ⟨h1, h⟩ := ba h
  obtain ⟨h2, h⟩ := ba h
  obtain ⟨h3, h⟩ := ba h
  obtain ⟨h4, h5⟩ := ba h
  refine ⟨?_, eqO_ok h2, eqB_ok h3, eqV1_ok h4, h5⟩
  split at h1
  · rename_i dd cd sl ho
    split at h1
    · rename_i C' bm k0 k1 k2 k3 n k5 hm hs
      simp only [Bool.and_eq_true, beq_iff_eq, Bool.not_eq_true'] at h1
      obtain ⟨⟨⟨⟨rfl, rfl⟩, hdel⟩, hdi⟩, ht⟩ := h1
      obtain ⟨nm, bs, mro, ns, qn, hd, sn, sub, ab, col, del⟩ := cd
      dsimp only at hm hdel hdi
      subst hm hdel hdi
      have hsl : sl = #[k0, k1, k2, k3, some (.builtin "ValueError.__new__"), k5] := by
        obtain ⟨l⟩ := sl
        simp only at hs
        rw [hs]
      subst hsl
      exact ⟨nm, qn, ns, bs, bm, sn, sub, ab, col, dd, k0, k1, k2, k3, k5, ho, ht⟩
    · cases h1
  · cases h1
theorem obsBG_eq {g : Addr → Option Obj} {s : Shared} (h : ∀ a, g a = s.heap.get? a) : obsBG g = hookB.obs s := by
  have e : g = s.heap.get? := funext h
  rw [e] <;> rfl
section
variable {K : PySem.W.Frag}
theorem fact_of (c : obsB K = valB) (i : Nat) {b : PySem.W.Frag → Bool} (h : fxB[i]? = some b := by rfl) : b K = true := by
  have c1 := (ba (show (fxB.all (fun b => b K) && fnL.all (fun d => d.ok K)) = true from congrArg (fun z : AlD => z.1) c)).1
  exact List.all_eq_true.mp c1 b (List.mem_of_getElem? h)
theorem fns_of (c : obsB K = valB) : fnL.map (fun d => He5.fnA K (d.at_ K)) = fnL.map He5.DefA.val ∧ (suA.map fun a => fnS K (a K)) = suV := by
  have e : fnL.map (fun d => He5.fnA K (d.at_ K)) ++ (suA.map fun a => fnS K (a K)) = fnL.map He5.DefA.val ++ suV := congrArg (fun z : AlD => z.2) c
  exact List.append_inj e (by rw [List.length_map, List.length_map])
theorem def_of (c : obsB K = valB) (i : Nat) {d : He5.DefA} (h : fnL[i]? = some d := by rfl) : ∃ fd, FunD K d.name d.qual d.params d.body d.scope (d.dvs K) (d.kws K) (d.at_ K) fd := by
  have c2 := (ba (show (fxB.all (fun b => b K) && fnL.all (fun d => d.ok K)) = true from congrArg (fun z : AlD => z.1) c)).2
  have e2 : (fnL.map fun d => He5.fnA K (d.at_ K))[i]? = (fnL.map He5.DefA.val)[i]? := by rw [(fns_of c).1]
  rw [List.getElem?_map, List.getElem?_map, h] at e2
  exact He5.DefA.funD (Option.some.inj e2) (List.all_eq_true.mp c2 d (List.mem_of_getElem? h))
theorem sup_of (c : obsB K = valB) (i : Nat) {a : PySem.W.Frag → Addr} {v : FnW} (h : suA[i]? = some a := by rfl) (hv : suV[i]? = some v := by rfl) : fnS K (a K) = v := by
  have e2 : (suA.map fun a => fnS K (a K))[i]? = suV[i]? := by rw [(fns_of c).2]
  rw [List.getElem?_map, h, hv] at e2
  exact Option.some.inj e2
theorem all_c {α : Type} [BEq α] [LawfulBEq α] {l : List α} {f : α → Bool} (h : l.all f = true) {x : α} (hx : l.contains x = true) : f x = true := List.all_eq_true.mp h x (List.contains_iff_mem.mp hx)
theorem fx_of {h : Heap} {mg : Str → Option Value} (X : K.In h) (G : h.Ns mainGlobals mg) (c : obsB K = valB) : FX PR K mg := by
  exact {
    glo := fun x hx => glo_ok X G (ba (all_c (fact_of c 0 : b_glo K = true) hx)).1
    kpg := fun x hx => (ba (all_c (fact_of c 0 : b_glo K = true) hx)).2
    fre := fun x hx => free_ok X G (all_c (fact_of c 1 : b_fre K = true) hx)
    int := fun q hq => int_ok X G (all_c (fact_of c 2 : b_int K = true) hq)
    let_ := str_ok X G (fact_of c 3 : b_let K = true)
    cls := fun x hx => cls_ok (all_c (fact_of c 4 : b_cls K = true) hx)
    noat := fun q hq => noat_ok (all_c (fact_of c 5 : b_noa K = true) hq)
    meth := fun q hq => meth_ok (all_c (fact_of c 6 : b_met K = true) hq)
    mkr := fun x hx => mkr_ok (all_c (fact_of c 7 : b_mkr K = true) hx)
    gcn := eqO_ok (ba (fact_of c 8 : b_gcn K = true)).1
    gct := eqB_ok (ba (fact_of c 8 : b_gcn K = true)).2
    isR := isiB_ok (fact_of c 9 : b_isR K = true)
    isS := isiB_ok (fact_of c 10 : b_isS K = true)
    isD := isiB_ok (fact_of c 11 : b_isD K = true)
    isT := isiB_ok (fact_of c 12 : b_isT K = true)
    isP := isiB_ok (fact_of c 13 : b_isP K = true)
    isU := isiB_ok (fact_of c 14 : b_isU K = true)
    woR := conB_ok (fact_of c 15 : b_woR K = true)
    woS := conB_ok (fact_of c 16 : b_woS K = true)
    neq := fun x hx => (let z := ba (all_c (fact_of c 17 : b_neq K = true) hx); ⟨eqO_ok z.1, eqB_ok z.2⟩)
    sfR := (let z := ba (fact_of c 18 : b_sfR K = true); ⟨z.1, eqO_ok z.2⟩)
    sfS := (let z := ba (fact_of c 19 : b_sfS K = true); ⟨z.1, eqO_ok z.2⟩)
    sfB := ba (fact_of c 20 : b_sfB K = true)
    nsq := (let z := ba (fact_of c 21 : b_nsq K = true); ⟨z.1, ba z.2⟩)
    iad := Option.isSome_iff_exists.mp (fact_of c 22 : b_iad K = true)
    ira := Option.isSome_iff_exists.mp (fact_of c 23 : b_ira K = true)
    isu := fun x hx => eqB_ok (all_c (fact_of c 24 : b_isu K = true) hx)
    crT := crB_ok (fact_of c 25 : b_crT K = true)
    crP := crB_ok (fact_of c 26 : b_crP K = true)
    stT := staB_ok (fact_of c 27 : b_stT K = true)
    stP := staB_ok (fact_of c 28 : b_stP K = true)
    prM := proB_ok (fact_of c 29 : b_prM K = true)
    prL := proB_ok (fact_of c 30 : b_prL K = true)
    prD := proB_ok (fact_of c 31 : b_prD K = true)
    opq := eqO_ok (fact_of c 32 : b_opq K = true)
    top_ := by kernel_rfl
    suR := supB_ok (fact_of c 33 : b_suR K = true) (sup_of c 0)
    suS := supB_ok (fact_of c 34 : b_suS K = true) (sup_of c 1)
    suN := supB_ok (fact_of c 35 : b_suN K = true) (sup_of c 2)
    suU := supB_ok (fact_of c 36 : b_suU K = true) (sup_of c 3)
    siR := (let z := ba (fact_of c 37 : b_siR K = true); ⟨eqO_ok z.1, eqB_ok (ba z.2).1, Option.isSome_iff_exists.mp (ba z.2).2⟩)
    siS := (let z := ba (fact_of c 38 : b_siS K = true); ⟨eqO_ok z.1, eqB_ok (ba z.2).1, Option.isSome_iff_exists.mp (ba z.2).2⟩)
    siN := (let z := ba (fact_of c 39 : b_siN K = true); ⟨eqO_ok z.1, eqB_ok (ba z.2).1, eqB_ok (ba z.2).2⟩)
    siU := (let z := ba (fact_of c 40 : b_siU K = true); ⟨eqO_ok z.1, eqB_ok (ba z.2).1, eqB_ok (ba z.2).2⟩)
    fnT := (let z := ba (fact_of c 41 : b_fnT K = true); ⟨eqV1_ok z.1, z.2⟩)
    oex := oexB_ok (fact_of c 42 : b_oex K = true)
    oexU := oexB_ok (fact_of c 43 : b_oexU K = true)
    oeI := (let z := ba (fact_of c 44 : b_oeI K = true); ⟨eqO_ok z.1, eqV1_ok z.2⟩)
    oeIU := (let z := ba (fact_of c 45 : b_oeIU K = true); ⟨eqO_ok z.1, eqV1_ok z.2⟩)
    oeN := eqO_ok (fact_of c 46 : b_oeN K = true)
    oeNU := eqO_ok (fact_of c 47 : b_oeNU K = true)
    tmE := fun x hx => (let z := ba (all_c (fact_of c 48 : b_tmE K = true) hx); ⟨of_decide_eq_true z.1, of_decide_eq_true z.2⟩)
    exm := eqB_ok (fact_of c 49 : b_exm K = true)
    exmU := eqB_ok (fact_of c 50 : b_exmU K = true)
    xfU := xfB_ok (fact_of c 51 : b_xfU K = true)
    f_is_integer := def_of c 0 (d := e_is_integer)
    f_is_between := def_of c 1 (d := e_is_between)
    f_is_number := def_of c 2 (d := e_is_number)
    f_is_name := def_of c 3 (d := e_is_name)
    f_is_row := def_of c 4 (d := e_is_row)
    f_DayInit := def_of c 5 (d := e_DayInit)
    f_DayEq := def_of c 6 (d := e_DayEq)
    f_TripInit := def_of c 7 (d := e_TripInit)
    f_TripAdd := def_of c 8 (d := e_TripAdd)
    f_TripEq := def_of c 9 (d := e_TripEq)
    f_RunTimed := def_of c 10 (d := e_RunTimed)
    f_StayTimed := def_of c 11 (d := e_StayTimed)
    f_need_all_trips := def_of c 12 (d := e_need_all_trips)
    f_places_of := def_of c 13 (d := e_places_of)
    f_need_few := def_of c 14 (d := e_need_few)
    f_unbalanced := def_of c 15 (d := e_unbalanced)
    f_TableInit := def_of c 16 (d := e_TableInit)
    f_TableOf := def_of c 17 (d := e_TableOf)
    f_TableGetitem := def_of c 18 (d := e_TableGetitem)
    f_TableContains := def_of c 19 (d := e_TableContains)
    f_TableEq := def_of c 20 (d := e_TableEq)
    f_need_names_alone := def_of c 21 (d := e_need_names_alone)
    f_PausesInit := def_of c 22 (d := e_PausesInit)
    f_PausesOf := def_of c 23 (d := e_PausesOf)
    f_PausesPut := def_of c 24 (d := e_PausesPut)
    f_PausesGetitem := def_of c 25 (d := e_PausesGetitem)
    f_PausesEq := def_of c 26 (d := e_PausesEq)
    f_need_table := def_of c 27 (d := e_need_table)
    f_needed_pauses := def_of c 28 (d := e_needed_pauses)
    f_places_count := def_of c 29 (d := e_places_count)
    f_BoardInit := def_of c 30 (d := e_BoardInit)
    f_BoardGo_on := def_of c 31 (d := e_BoardGo_on)
    f_BoardPut := def_of c 32 (d := e_BoardPut)
    f_BoardDrop := def_of c 33 (d := e_BoardDrop)
    f_BoardPause := def_of c 34 (d := e_BoardPause)
    f_BoardShift := def_of c 35 (d := e_BoardShift)
    f_BoardNeed_trip := def_of c 36 (d := e_BoardNeed_trip)
    f_BoardMinutes := def_of c 37 (d := e_BoardMinutes)
    f_BoardSet_minutes := def_of c 38 (d := e_BoardSet_minutes)
    f_BoardIs_level := def_of c 39 (d := e_BoardIs_level)
    f_BoardDeeds := def_of c 40 (d := e_BoardDeeds)
    f_BoardTold_table := def_of c 41 (d := e_BoardTold_table)
    f_BoardTold_pauses := def_of c 42 (d := e_BoardTold_pauses)
    f_BoardUndo := def_of c 43 (d := e_BoardUndo)
    f_BoardTwin := def_of c 44 (d := e_BoardTwin)
    f_BoardGetitem := def_of c 45 (d := e_BoardGetitem)
    f_BoardSetitem := def_of c 46 (d := e_BoardSetitem)
    f_BoardIadd := def_of c 47 (d := e_BoardIadd)
    f_BoardIsub := def_of c 48 (d := e_BoardIsub)
    f_BoardContains := def_of c 49 (d := e_BoardContains)
    f_BoardLen := def_of c 50 (d := e_BoardLen)
    f_BoardIter := def_of c 51 (d := e_BoardIter)
    f_w_pen := def_of c 52 (d := e_w_pen)
    f_w_draw := def_of c 53 (d := e_w_draw)
    f_w_pick := def_of c 54 (d := e_w_pick)
    f_w_mixed := def_of c 55 (d := e_w_mixed)
    f_w_names := def_of c 56 (d := e_w_names)
    f_w_rows := def_of c 57 (d := e_w_rows)
    f_w_places := def_of c 58 (d := e_w_places)
    f_w_pauses := def_of c 59 (d := e_w_pauses)
    f_w_trip := def_of c 60 (d := e_w_trip)
    f_w_table := def_of c 61 (d := e_w_table)
    f_w_fresh := def_of c 62 (d := e_w_fresh)
    f_w_uneven := def_of c 63 (d := e_w_uneven)
    f_w_later := def_of c 64 (d := e_w_later)
    f_w_begun := def_of c 65 (d := e_w_begun)
    f_w_deed := def_of c 66 (d := e_w_deed)
    f_w_shows := def_of c 67 (d := e_w_shows)
    f_w_bare_right := def_of c 68 (d := e_w_bare_right)
    f_w_twin_right := def_of c 69 (d := e_w_twin_right)
    f_w_right := def_of c 70 (d := e_w_right)
    f_law := def_of c 71 (d := e_law)
  }
end
end N1
set_option maxHeartbeats 0
namespace N1
open PySem PySem.Spec PyProof.Rows L2
def obT (s : PySem.W.SharedT) : He.AlD := obsBG (HandSHeadRun.getT s)
theorem obT_eq (s : PySem.W.SharedT) : obT s = hookB.obs s.abs := obsBG_eq (HandSHeadRun.getT_eq s)
theorem obs_split (g : Addr → Option Obj) : obsBG g = (f1 g && f2 g, f3 g) := rfl
theorem three {S A B : Type} {x : Option S} {a : S → A} {b : S → B} {g : S → Addr → Option Obj} {va : A} {vb : B}
    (e1 : x.map (fun s => (a s, b s, f1 (g s))) = some (va, vb, true)) (e2 : x.map (fun s => (a s, b s, f2 (g s))) = some (va, vb, true)) (e3 : x.map (fun s => (a s, b s, f3 (g s))) = some (va, vb, v3)) :
    x.map (fun s => (a s, b s, obsBG (g s))) = some (va, vb, valB) := by
  cases x with
  | none => cases e1
  | some s =>
    have h1 := Option.some.inj e1
    have h2 := Option.some.inj e2
    have h3 := Option.some.inj e3
    have k1 : a s = va := congrArg Prod.fst h1
    have k2 : b s = vb := congrArg (fun z => z.2.1) h1
    have k3 : f1 (g s) = true := congrArg (fun z => z.2.2) h1
    have k4 : f2 (g s) = true := congrArg (fun z => z.2.2) h2
    have k5 : f3 (g s) = v3 := congrArg (fun z => z.2.2) h3
    show some (a s, b s, obsBG (g s)) = some (va, vb, valB)
    rw [obs_split, k1, k2, k3, k4, k5]
    rfl
theorem runE (w : World) : HandSHeadRun.RunEq RW (PySem.W.view RW.prog [80]) hookB obT 30000 loose w := by
  intro os
  exact three (run1 w os) (run2 w os) (run3 w os)
end N1
open PySem PySem.W PySem.Calls PyProof.Rows
theorem PySem.Challenge.cw_onelongturn_k76_boards_changed_holds : PySem.Challenge.rw_onelongturn_k76_boards_changed.Holds := by
  w_on; o_law
  refine HandSHeadRun.head_any (r := OpenLaw.row PySem.Challenge.rw_onelongturn_k76_boards_changed) (q := view (OpenLaw.row PySem.Challenge.rw_onelongturn_k76_boards_changed).prog [80]) (H := N1.hookB) (ob := N1.obT) (M := 30000) (loose := N1.loose) (d := HandSHeadRun.topDef (OpenLaw.row PySem.Challenge.rw_onelongturn_k76_boards_changed).prog 80) (kwd := []) N1.obT_eq
    (by kernel_rfl) (fun s => by kernel_rfl) N1.runE (by kernel_rfl) (by kernel_rfl) (by kernel_rfl) (by rfl) (by first | assumption | decide +kernel) (by decide +kernel) ⟨rfl, rfl, rfl, rfl, rfl, by decide +kernel⟩ ?hw ?hc
  case hw => w_witness2
  case hc =>
    refine L2.walk_ofE (l := PySem.Challenge.rw_onelongturn_k76_boards_changed) (n := 63) (k := 14) (x := "_law_script") (CX := L2.CX0) rfl (by decide) (by kernel_rfl) ⟨rfl, by decide, by decide⟩ ?F (fun _ _ _ _ z => z)
    intro w mg fa h Y G hmg0
    obtain ⟨K, KX, c⟩ := Y
    have hmg : mg ("law" : PySem.Str) = some (.ref fa) := by
      have e : (HandSHeadRun.topDef (OpenLaw.row PySem.Challenge.rw_onelongturn_k76_boards_changed).prog 80).name = ("law" : PySem.Str) := by kernel_rfl
      rw [← e]
      exact hmg0
    have T := N1.fx_of KX G c
    obtain ⟨fd, F⟩ := T.f_law
    have efa : fa = N1.ga K "law" := by
      have := hmg.symm.trans (T.glo "law" (by decide +kernel))
      exact Value.ref.inj (Option.some.inj this)
    subst efa
    have b := L2.FunD.bindsA (ps := ["_law_script"]) F fun _ _ _ _ _ _ us hl => match us, hl with | [_], _ => rfl
    exact ⟨K, fd, N1.spLaw K, KX, fun s u => b s [u] rfl, fun H a ns hl _ hS => ⟨a, ns, rfl, hS, fun _ => rfl⟩, fun base _ _ => N1.ok_law T F⟩
